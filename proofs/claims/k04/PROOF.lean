import PyProof.Rows.All
import Wide.All
import OpenK.AllK
import Wide.FinOn
import PySem.Challenge.RW_dealbook_k04_changes_behind_one_another
import HandS.ForMost
import HandS.Style
import HandS.Star
import HandS.Deep
import HandS.SortInts
import HandS.TupAny
import HandS.IsInst
import HandS.Conv
import HandS.TupSets
import HandS.SetFor
import HandS.Strs
import HandS.SetBool
import HandS.DictComp
import HandS.OwnEq
import HandS.ExcInit
import HandS.ExcField
import HandS.WordsExc
import HandS.Defaults
import HandS.MakeKwOnly
set_option Elab.async false
set_option linter.all false
set_option maxRecDepth 100000
set_option maxHeartbeats 2000000
namespace DL
open PySem PySem.Spec L2
abbrev Stt := L2.St

/-! ### heaps -/
abbrev Ex (H H' : Hp) : Prop := ∀ a o, H a = some o → H' a = some o
theorem Ex.rfl' {H : Hp} : Ex H H := fun _ _ h => h
theorem Ex.trans {H H1 H2 : Hp} (a : Ex H H1) (b : Ex H1 H2) : Ex H H2 := fun x o h => b x o (a x o h)
theorem Ex.new {H : Hp} {p : Addr} {o : HO} (h : H p = none) : Ex H (upd H p o) := fun a u e => by
  rw [upd_ne (ne_of_none e h)]
  exact e
theorem Ex.back {H H' : Hp} {p : Addr} (e : Ex H H') (h : H' p = none) : H p = none := by
  cases q : H p with
  | none => rfl
  | some o => rw [e p o q] at h; cases h
/-- an object that H does not know may change -/
theorem Ex.mut {H H' : Hp} {p : Addr} {o : HO} (e : Ex H H') (h : H p = none) : Ex H (upd H' p o) := fun a u ha => by
  rw [upd_ne (ne_of_none ha h)]
  exact e a u ha
theorem Ex.both {H H' : Hp} {p : Addr} {o : HO} (e : Ex H H') (h : H p = none) : Ex (upd H p o) (upd H' p o) := fun a u ha => by
  by_cases q : a = p
  · subst q; rw [upd_same] at ha ⊢; exact ha
  · rw [upd_ne q] at ha ⊢; exact e a u ha
theorem Ex.rd {H H' : Hp} {a : Addr} {u : HO} (e : Ex H H') (h : Rd H a u) : Rd H' a u := by
  rcases h with h | ⟨o, h⟩
  · exact Or.inl (e a _ h)
  · exact Or.inr ⟨o, e a _ h⟩
theorem paired_mono {α β : Type} {F G : α → β → Prop} : ∀ {l₁ : List α} {l₂ : List β}, Paired F l₁ l₂ → (∀ a b, F a b → G a b) → Paired G l₁ l₂
  | _, _, .nil, _ => .nil
  | _, _, .cons r t, f => .cons (f _ _ r) (paired_mono t f)

def LB : Nat := 1000000
theorem lb_line {n : Nat} (h : n ≤ LB) : n ≤ sizeLine := Nat.le_trans h (by decide)
theorem lb_lt {n : Nat} (h : n ≤ LB) : n < sizeLine := Nat.lt_of_le_of_lt h (by decide)
/-! ### codecs: how a piece of data lies in a heap that stays -/
structure Cod (α : Type) where
  rep : Hp → V → α → Prop
  mono : ∀ {H H' : Hp} {v : V} {x : α}, Ex H H' → rep H v x → rep H' v x
def cInt : Cod Int := ⟨fun _ v x => v = .int x, fun _ h => h⟩
def cBool : Cod Bool := ⟨fun _ v x => v = .bl x, fun _ h => h⟩
def cStr : Cod Str := ⟨fun _ v x => v = .str x, fun _ h => h⟩
def cNon : Cod Unit := ⟨fun _ v _ => v = .non, fun _ h => h⟩
/-- the value itself -/
def cV : Cod V := ⟨fun _ v x => v = x, fun _ h => h⟩
def cList {α : Type} (c : Cod α) : Cod (List α) := ⟨fun H v xs => ∃ a vs, v = .ref a ∧ H a = some (.lst vs) ∧ Paired (c.rep H) vs xs ∧ vs.length ≤ LB,
  fun e ⟨a, vs, h1, h2, h3, h4⟩ => ⟨a, vs, h1, e _ _ h2, paired_mono h3 (fun _ _ q => c.mono e q), h4⟩⟩
def cTup {α : Type} (c : Cod α) : Cod (List α) := ⟨fun H v xs => ∃ a vs, v = .ref a ∧ H a = some (.tup vs) ∧ Paired (c.rep H) vs xs ∧ vs.length ≤ LB,
  fun e ⟨a, vs, h1, h2, h3, h4⟩ => ⟨a, vs, h1, e _ _ h2, paired_mono h3 (fun _ _ q => c.mono e q), h4⟩⟩
/-- a list that is only read (the script) -/
def cScr : Cod (List Int) := ⟨fun H v xs => ∃ a, v = .ref a ∧ Rd H a (.lst (xs.map V.int)), fun e ⟨a, h1, h2⟩ => ⟨a, h1, e.rd h2⟩⟩
def cT2 {α β : Type} (c : Cod α) (d : Cod β) : Cod (α × β) := ⟨fun H v x => ∃ a u w, v = .ref a ∧ H a = some (.tup [u, w]) ∧ c.rep H u x.1 ∧ d.rep H w x.2,
  fun e ⟨a, u, w, h1, h2, h3, h4⟩ => ⟨a, u, w, h1, e _ _ h2, c.mono e h3, d.mono e h4⟩⟩
def cT3 {α β γ : Type} (c : Cod α) (d : Cod β) (f : Cod γ) : Cod (α × β × γ) := ⟨fun H v x => ∃ a u w y, v = .ref a ∧ H a = some (.tup [u, w, y]) ∧ c.rep H u x.1 ∧ d.rep H w x.2.1 ∧ f.rep H y x.2.2,
  fun e ⟨a, u, w, y, h1, h2, h3, h4, h5⟩ => ⟨a, u, w, y, h1, e _ _ h2, c.mono e h3, d.mono e h4, f.mono e h5⟩⟩

/-! ### slots -/
/-- what is known of an object of one's own -/
structure OP where
  φ : Hp → Addr → HO → Prop
  mono : ∀ {H H' : Hp} {a : Addr} {o : HO}, Ex H H' → φ H a o → φ H' a o
inductive Sl : Type 1
  | un
  | d {α : Type} (c : Cod α) (x : α)
  | l {α : Type} (c : Cod α) (xs : List α)
  | bx (a : Addr)
  | r (p : OP)
abbrev Ctxt := List Sl
def Sl.own : Sl → Bool
  | .l _ _ => true
  | .bx _ => true
  | .r _ => true
  | _ => false
def LIM : Nat := 8589934592
def BoxAt (H : Hp) (a : Addr) (n : Nat) : Prop := ∃ (g : Int) (b : Bool) (m c : Int), H a = some (.lst [.int g, .bl b, .int m, .int c]) ∧ 0 ≤ m ∧ m < 2147483648 ∧ 0 ≤ c ∧ c ≤ (n : Int)
def SlOk (Hf H : Hp) (n : Nat) (ov : Option (Option V)) : Sl → Prop
  | .un => True
  | .d c x => ∃ v, ov = some (some v) ∧ c.rep Hf v x
  | .l c xs => ∃ a vs, ov = some (some (.ref a)) ∧ H a = some (.lst vs) ∧ Hf a = none ∧ Paired (c.rep Hf) vs xs ∧ vs.length ≤ LB
  | .bx a => ov = some (some (.ref a)) ∧ Hf a = none ∧ BoxAt H a n
  | .r p => ∃ a o, ov = some (some (.ref a)) ∧ H a = some o ∧ Hf a = none ∧ p.φ Hf a o
def Owns (σ : Stt) (Γ : Ctxt) (a : Addr) : Prop := ∃ (i : Nat) (s : Sl), Γ[i]? = some s ∧ s.own = true ∧ σ[i]? = some (some (V.ref a))
structure Fr (M : Addr → Prop) (Hf H Hf' H' : Hp) : Prop where
  ex : Ex Hf Hf'
  keep : ∀ a o, H a = some o → ¬ M a → H' a = some o
  fz : ∀ a o, H a = some o → ¬ M a → Hf a = none → Hf' a = none
  dom : ∀ a, H' a = none → H a = none
theorem Fr.refl {M : Addr → Prop} {Hf H : Hp} : Fr M Hf H Hf H := ⟨Ex.rfl', fun _ _ h _ => h, fun _ _ _ _ h => h, fun _ h => h⟩
theorem Fr.trans {M M1 : Addr → Prop} {Hf H Hf1 H1 Hf2 H2 : Hp} (f : Fr M Hf H Hf1 H1) (g : Fr M1 Hf1 H1 Hf2 H2) (hm : ∀ a, M1 a → M a ∨ H a = none) : Fr M Hf H Hf2 H2 where
  ex := f.ex.trans g.ex
  keep := fun a o h n => g.keep a o (f.keep a o h n) fun m => by
    rcases hm a m with q | q
    · exact n q
    · rw [h] at q; cases q
  fz := fun a o h n z => g.fz a o (f.keep a o h n) (fun m => by
    rcases hm a m with q | q
    · exact n q
    · rw [h] at q; cases q) (f.fz a o h n z)
  dom := fun a h => f.dom a (g.dom a h)
theorem Fr.mono {M M1 : Addr → Prop} {Hf H Hf1 H1 : Hp} (f : Fr M Hf H Hf1 H1) (hm : ∀ a, M a → M1 a ∨ H a = none) : Fr M1 Hf H Hf1 H1 := Fr.trans (M := M1) Fr.refl f hm
/-- a new object -/
theorem Fr.new {M : Addr → Prop} {Hf H : Hp} {p : Addr} {o : HO} (ex : Ex Hf H) (h : H p = none) : Fr M Hf H (upd Hf p o) (upd H p o) where
  ex := Ex.new (ex.back h)
  keep := fun a u e _ => Ex.new h a u e
  fz := fun a u e _ z => by rw [upd_ne (ne_of_none e h)]; exact z
  dom := fun a e => by
    by_cases q : a = p
    · subst q; exact h
    · rw [upd_ne q] at e; exact e
/-- .. that is not to stay as it is -/
theorem Fr.newO {M : Addr → Prop} {Hf H : Hp} {p : Addr} {o : HO} (h : H p = none) : Fr M Hf H Hf (upd H p o) where
  ex := Ex.rfl'
  keep := fun a u e _ => Ex.new h a u e
  fz := fun a u e _ z => z
  dom := fun a e => by
    by_cases q : a = p
    · subst q; exact h
    · rw [upd_ne q] at e; exact e

structure Org where
  M : Addr → Prop
  Hf : Hp
  H : Hp
structure Sat (O : Org) (Hf H : Hp) (σ : Stt) (Γ : Ctxt) (n : Nat) : Prop where
  len : σ.length = Γ.length
  ex : Ex Hf H
  at_ : ∀ (i : Nat) (s : Sl), Γ[i]? = some s → SlOk Hf H n σ[i]? s
  sep : ∀ (i j : Nat) (si sj : Sl) (a : Addr), i ≠ j → Γ[i]? = some si → Γ[j]? = some sj → si.own = true → sj.own = true → σ[i]? = some (some (V.ref a)) → σ[j]? ≠ some (some (V.ref a))
  fr : Fr O.M O.Hf O.H Hf H
  mine : ∀ a, Owns σ Γ a → O.M a ∨ O.H a = none

theorem boxAt_le {H : Hp} {a : Addr} {n m : Nat} (h : BoxAt H a n) (l : n ≤ m) : BoxAt H a m := by
  obtain ⟨g, b, x, c, h1, h2, h3, h4, h5⟩ := h
  exact ⟨g, b, x, c, h1, h2, h3, h4, by omega⟩
theorem boxAt_ex {H H' : Hp} {a : Addr} {n : Nat} (h : BoxAt H a n) (e : ∀ o, H a = some o → H' a = some o) : BoxAt H' a n := by
  obtain ⟨g, b, x, c, h1, h2⟩ := h
  exact ⟨g, b, x, c, e _ h1, h2⟩
section
variable {O : Org} {Hf H Hf' H' : Hp} {σ : Stt} {Γ : Ctxt} {n m : Nat}
theorem slOk_le {ov : Option (Option V)} {s : Sl} (h : SlOk Hf H n ov s) (l : n ≤ m) : SlOk Hf H m ov s := by
  cases s with
  | un => trivial
  | d c x => exact h
  | l c xs => exact h
  | bx a => obtain ⟨h1, h2, h3⟩ := h; exact ⟨h1, h2, boxAt_le h3 l⟩
  | r p => exact h
theorem Sat.le (S : Sat O Hf H σ Γ n) (l : n ≤ m) : Sat O Hf H σ Γ m := ⟨S.len, S.ex, fun i s h => slOk_le (S.at_ i s h) l, S.sep, S.fr, S.mine⟩
theorem Sat.ownAt (S : Sat O Hf H σ Γ n) {a : Addr} (h : Owns σ Γ a) : Hf a = none ∧ ∃ o, H a = some o := by
  obtain ⟨i, s, h1, h2, h3⟩ := h
  have q := S.at_ i s h1
  cases s with
  | un => cases h2
  | d c x => cases h2
  | l c xs =>
    obtain ⟨b, vs, e1, e2, e3, _⟩ := q
    rw [h3] at e1
    injection e1 with e1; injection e1 with e1; injection e1 with e1
    subst e1
    exact ⟨e3, _, e2⟩
  | bx b =>
    obtain ⟨e1, e2, g, bb, x, c, e3, _⟩ := q
    rw [h3] at e1
    injection e1 with e1; injection e1 with e1; injection e1 with e1
    subst e1
    exact ⟨e2, _, e3⟩
  | r p =>
    obtain ⟨b, o, e1, e2, e3, _⟩ := q
    rw [h3] at e1
    injection e1 with e1; injection e1 with e1; injection e1 with e1
    subst e1
    exact ⟨e3, _, e2⟩
/-- the boxes of a context -/
def Bx (Γ : Ctxt) (a : Addr) : Prop := ∃ i : Nat, Γ[i]? = some (.bx a)
theorem Sat.bxOwn (S : Sat O Hf H σ Γ n) {a : Addr} (h : Bx Γ a) : Owns σ Γ a := by
  obtain ⟨i, h⟩ := h
  obtain ⟨h1, _⟩ := S.at_ i _ h
  exact ⟨i, _, h, rfl, h1⟩
/-- a list slot's address is no box -/
theorem Sat.lNe (S : Sat O Hf H σ Γ n) {i : Nat} {α : Type} {c : Cod α} {xs : List α} {a : Addr} (h : Γ[i]? = some (.l c xs)) (e : σ[i]? = some (some (V.ref a))) : ¬ Bx Γ a := fun ⟨j, hj⟩ => by
  obtain ⟨h1, _⟩ := S.at_ j _ hj
  refine S.sep i j _ _ a (fun z => ?_) h hj rfl rfl e h1
  subst z
  rw [h] at hj
  cases hj
theorem Sat.rNe (S : Sat O Hf H σ Γ n) {i : Nat} {p : OP} {a : Addr} (h : Γ[i]? = some (.r p)) (e : σ[i]? = some (some (V.ref a))) : ¬ Bx Γ a := fun ⟨j, hj⟩ => by
  obtain ⟨h1, _⟩ := S.at_ j _ hj
  refine S.sep i j _ _ a (fun z => ?_) h hj rfl rfl e h1
  subst z
  rw [h] at hj
  cases hj
/-- the heaps grow, boxes may turn -/
theorem Sat.grow (S : Sat O Hf H σ Γ n) (f : Fr (Bx Γ) Hf H Hf' H') (ex : Ex Hf' H') (hb : ∀ a, Bx Γ a → Hf' a = none ∧ BoxAt H' a m) : Sat O Hf' H' σ Γ m where
  len := S.len
  ex := ex
  at_ := fun i s h => by
    have q := S.at_ i s h
    cases s with
    | un => trivial
    | d c x => obtain ⟨v, h1, h2⟩ := q; exact ⟨v, h1, c.mono f.ex h2⟩
    | l c xs =>
      obtain ⟨a, vs, h1, h2, h3, h4, h5⟩ := q
      have nb := S.lNe h h1
      exact ⟨a, vs, h1, f.keep _ _ h2 nb, f.fz _ _ h2 nb h3, paired_mono h4 (fun _ _ r => c.mono f.ex r), h5⟩
    | bx a =>
      obtain ⟨h1, h2, h3⟩ := q
      obtain ⟨h4, h5⟩ := hb a ⟨i, h⟩
      exact ⟨h1, h4, h5⟩
    | r p =>
      obtain ⟨a, o, h1, h2, h3, h4⟩ := q
      have nb := S.rNe h h1
      exact ⟨a, o, h1, f.keep _ _ h2 nb, f.fz _ _ h2 nb h3, p.mono f.ex h4⟩
  sep := S.sep
  fr := S.fr.trans f fun a h => S.mine a (S.bxOwn h)
  mine := S.mine
theorem Sat.grow0 (S : Sat O Hf H σ Γ n) (f : Fr (fun _ => False) Hf H Hf' H') (ex : Ex Hf' H') : Sat O Hf' H' σ Γ n :=
  S.grow (f.mono fun _ z => z.elim) ex fun a ⟨i, h⟩ => by
    obtain ⟨_, h2, h3⟩ := S.at_ i _ h
    have h4 := h3
    obtain ⟨g, b, x, c, e, _⟩ := h4
    exact ⟨f.fz _ _ e id h2, boxAt_ex h3 fun o r => f.keep _ _ r id⟩
theorem Sat.new (S : Sat O Hf H σ Γ n) {p : Addr} {o : HO} (h : H p = none) : Sat O (upd Hf p o) (upd H p o) σ Γ n :=
  S.grow0 (Fr.new S.ex h) (S.ex.both (S.ex.back h))
/-- seen from here -/
theorem Sat.here (S : Sat O Hf H σ Γ n) : Sat ⟨Owns σ Γ, Hf, H⟩ Hf H σ Γ n := ⟨S.len, S.ex, S.at_, S.sep, Fr.refl, fun _ h => .inl h⟩
theorem Sat.there {σ' : Stt} {Γ' : Ctxt} (S : Sat O Hf H σ Γ n) (T : Sat ⟨Owns σ Γ, Hf, H⟩ Hf' H' σ' Γ' m) : Sat O Hf' H' σ' Γ' m where
  len := T.len
  ex := T.ex
  at_ := T.at_
  sep := T.sep
  fr := S.fr.trans T.fr fun a h => S.mine a h
  mine := fun a h => by
    rcases T.mine a h with q | q
    · exact S.mine a q
    · exact .inr (S.fr.dom a q)
end
end DL

set_option Elab.async false
set_option linter.all false
set_option maxRecDepth 100000
set_option maxHeartbeats 2000000
namespace DL
open PySem PySem.Spec L2
/-! ### judgements -/
def TD {α : Type} (te : TE) (Γ : Ctxt) (k : Nat) (c : Cod α) (P : α → Prop) : Prop :=
  ∀ (O : Org) (n : Nat) (σ : Stt) (Hf H : Hp), n + k ≤ LIM → Sat O Hf H σ Γ n → ∀ Q : VK,
    (∀ v Hf' H' x, P x → c.rep Hf' v x → Fr (Bx Γ) Hf H Hf' H' → Sat O Hf' H' σ Γ (n + k) → Q v H') → te σ H Q
def TDT (tt : TT) (Γ : Ctxt) (k : Nat) (P : Bool → Prop) : Prop :=
  ∀ (O : Org) (n : Nat) (σ : Stt) (Hf H : Hp), n + k ≤ LIM → Sat O Hf H σ Γ n → ∀ Q : Bool → Hp → Prop,
    (∀ b Hf' H', P b → Fr (Bx Γ) Hf H Hf' H' → Sat O Hf' H' σ Γ (n + k) → Q b H') → tt σ H Q
/-- an operation on values -/
def RD {α β γ : Type} (r : R2) (c1 : Cod α) (x : α) (c2 : Cod β) (y : β) (c : Cod γ) (P : γ → Prop) : Prop :=
  ∀ (Hf H : Hp) (v u : V), Ex Hf H → c1.rep Hf v x → c2.rep Hf u y → ∀ Q : VK,
    (∀ z Hf' H' w, P z → c.rep Hf' w z → Fr (fun _ => False) Hf H Hf' H' → Ex Hf' H' → Q w H') → r v u H Q
def RU1 {α γ : Type} (r : V → Hp → VK → Prop) (c1 : Cod α) (x : α) (c : Cod γ) (P : γ → Prop) : Prop :=
  ∀ (Hf H : Hp) (v : V), Ex Hf H → c1.rep Hf v x → ∀ Q : VK,
    (∀ z Hf' H' w, P z → c.rep Hf' w z → Fr (fun _ => False) Hf H Hf' H' → Ex Hf' H' → Q w H') → r v H Q
/-- arguments: what the values are, one context entry each -/
def ArgsOk (Hf : Hp) : List V → Ctxt → Prop
  | [], [] => True
  | v :: vs, s :: as => (match s with
    | .d c x => c.rep Hf v x
    | .bx a => v = .ref a
    | _ => False) ∧ ArgsOk Hf vs as
  | _, _ => False
def TDA (ta : TA) (Γ : Ctxt) (k : Nat) (B : Ctxt → Prop) : Prop :=
  ∀ (O : Org) (n : Nat) (σ : Stt) (Hf H : Hp), n + k ≤ LIM → Sat O Hf H σ Γ n → ∀ Q : List V → Hp → Prop,
    (∀ vs Hf' H' as, B as → ArgsOk Hf' vs as → (∀ a, Sl.bx a ∈ as → Bx Γ a) → Fr (Bx Γ) Hf H Hf' H' → Sat O Hf' H' σ Γ (n + k) → Q vs H') → ta σ H Q
theorem argsOk_mono {Hf Hf' : Hp} (e : Ex Hf Hf') : ∀ {vs : List V} {as : Ctxt}, ArgsOk Hf vs as → ArgsOk Hf' vs as
  | [], [], _ => trivial
  | [], _ :: _, h => h.elim
  | _ :: _, [], h => h.elim
  | v :: vs, s :: as, h => by
    obtain ⟨h1, h2⟩ := h
    refine ⟨?_, argsOk_mono e h2⟩
    cases s with
    | un => exact h1
    | d c x => exact c.mono e h1
    | l c x => exact h1
    | bx a => exact h1
    | r p => exact h1

section
variable {Γ : Ctxt} {k k1 k2 k3 : Nat} {α β γ δ : Type} {c c1 : Cod α} {c2 : Cod β} {c3 : Cod γ} {P P1 : α → Prop} {P2 : β → Prop} {P3 : γ → Prop} {te ta tb : TE} {tt tu : TT}
theorem TD.imp {P' : α → Prop} (h : TD te Γ k c P) (hp : ∀ x, P x → P' x) : TD te Γ k c P' := fun O n σ Hf H hn S Q q => h O n σ Hf H hn S Q fun v Hf' H' x p => q v Hf' H' x (hp x p)
theorem TD.le (h : TD te Γ k c P) (l : k ≤ k2) : TD te Γ k2 c P := fun O n σ Hf H hn S Q q => h O n σ Hf H (by omega) S Q fun v Hf' H' x p r f s => q v Hf' H' x p r f (s.le (by omega))
theorem TDT.imp {P P' : Bool → Prop} (h : TDT tt Γ k P) (hp : ∀ x, P x → P' x) : TDT tt Γ k P' := fun O n σ Hf H hn S Q q => h O n σ Hf H hn S Q fun b Hf' H' p => q b Hf' H' (hp b p)
theorem TDT.le {P : Bool → Prop} (h : TDT tt Γ k P) (l : k ≤ k2) : TDT tt Γ k2 P := fun O n σ Hf H hn S Q q => h O n σ Hf H (by omega) S Q fun b Hf' H' p f s => q b Hf' H' p f (s.le (by omega))
/-- as another kind of data -/
theorem TD.conv {P' : β → Prop} (h : TD te Γ k c P) (hp : ∀ H v x, P x → c.rep H v x → ∃ y, P' y ∧ c2.rep H v y) : TD te Γ k c2 P' := fun O n σ Hf H hn S Q q => h O n σ Hf H hn S Q fun v Hf' H' x p r f s => by
  obtain ⟨y, p', r'⟩ := hp _ _ _ p r
  exact q v Hf' H' y p' r' f s
theorem td_var {i : Nat} {x : α} (h : Γ[i]? = some (.d c x)) : TD (tVar i) Γ 0 c (· = x) := fun O n σ Hf H _ S Q q => by
  obtain ⟨v, h1, h2⟩ := S.at_ i _ h
  exact ⟨v, h1, q v Hf H x rfl h2 Fr.refl S⟩
theorem td_c {v : V} {x : α} (h : ∀ H, c.rep H v x) : TD (tC v) Γ 0 c (· = x) := fun O n σ Hf H _ S Q q => q v Hf H x rfl (h Hf) Fr.refl S
theorem td_op {r : R2} (ha : TD ta Γ k1 c1 P1) (hb : TD tb Γ k2 c2 P2) (hr : ∀ x y, P1 x → P2 y → RD r c1 x c2 y c3 P3) : TD (tOp r ta tb) Γ (k1 + k2) c3 P3 := fun O n σ Hf H hn S Q q =>
  ha O n σ Hf H (by omega) S _ fun v Hf1 H1 x p1 r1 f1 S1 => hb O (n + k1) σ Hf1 H1 (by omega) S1 _ fun u Hf2 H2 y p2 r2 f2 S2 =>
    hr x y p1 p2 Hf2 H2 v u S2.ex (c1.mono f2.ex r1) r2 Q fun z Hf3 H3 w p3 r3 f3 e3 =>
      q w Hf3 H3 z p3 r3 ((f1.trans f2 fun _ h => .inl h).trans f3 fun _ h => h.elim) (by rw [← Nat.add_assoc]; exact S2.grow0 f3 e3)
theorem td_un {r : V → Hp → VK → Prop} (ha : TD ta Γ k1 c1 P1) (hr : ∀ x, P1 x → RU1 r c1 x c3 P3) : TD (tUn r ta) Γ k1 c3 P3 := fun O n σ Hf H hn S Q q =>
  ha O n σ Hf H hn S _ fun v Hf1 H1 x p1 r1 f1 S1 => hr x p1 Hf1 H1 v S1.ex r1 Q fun z Hf3 H3 w p3 r3 f3 e3 =>
      q w Hf3 H3 z p3 r3 (f1.trans f3 fun _ h => h.elim) (S1.grow0 f3 e3)
/-! ### tests -/
theorem tt_test {P : Bool → Prop} (h : TD te Γ k cBool P) : TDT (tTest te) Γ k P := fun O n σ Hf H hn S Q q => h O n σ Hf H hn S _ fun v Hf' H' x p r f s => ⟨x, r, q x Hf' H' p f s⟩
theorem tt_B {P : Bool → Prop} (h : TD te Γ k cBool P) : TDT (tB te) Γ k P := fun O n σ Hf H hn S Q q => h O n σ Hf H hn S _ fun v Hf' H' x p r f s => ⟨x, r, q x Hf' H' p f s⟩
theorem tt_and {a b : Bool → Prop} (h1 : TDT tt Γ k1 a) (h2 : a true → TDT tu Γ k2 b) : TDT (tAnd tt tu) Γ (k1 + k2) (fun r => (r = false ∧ a false) ∨ (a true ∧ b r)) := fun O n σ Hf H hn S Q q =>
  h1 O n σ Hf H (by omega) S _ fun b1 Hf1 H1 p f1 S1 => by
    cases b1 with
    | true =>
      rw [if_pos rfl]
      exact h2 p O (n + k1) σ Hf1 H1 (by omega) S1 Q fun b2 Hf2 H2 p2 f2 S2 => q b2 Hf2 H2 (.inr ⟨p, p2⟩) (f1.trans f2 fun _ h => .inl h) (by rw [← Nat.add_assoc]; exact S2)
    | false =>
      rw [if_neg Bool.false_ne_true]
      exact q false Hf1 H1 (.inl ⟨rfl, p⟩) f1 (S1.le (by omega))
theorem tt_or {a b : Bool → Prop} (h1 : TDT tt Γ k1 a) (h2 : a false → TDT tu Γ k2 b) : TDT (tOr tt tu) Γ (k1 + k2) (fun r => (r = true ∧ a true) ∨ (a false ∧ b r)) := fun O n σ Hf H hn S Q q =>
  h1 O n σ Hf H (by omega) S _ fun b1 Hf1 H1 p f1 S1 => by
    cases b1 with
    | false =>
      rw [if_neg Bool.false_ne_true]
      exact h2 p O (n + k1) σ Hf1 H1 (by omega) S1 Q fun b2 Hf2 H2 p2 f2 S2 => q b2 Hf2 H2 (.inr ⟨p, p2⟩) (f1.trans f2 fun _ h => .inl h) (by rw [← Nat.add_assoc]; exact S2)
    | true =>
      rw [if_pos rfl]
      exact q true Hf1 H1 (.inl ⟨rfl, p⟩) f1 (S1.le (by omega))
theorem tt_not {a : Bool → Prop} (h1 : TDT tt Γ k a) : TDT (tNot tt) Γ k (fun r => a (!r)) := fun O n σ Hf H hn S Q q =>
  h1 O n σ Hf H hn S _ fun b1 Hf1 H1 p f1 S1 => q (!b1) Hf1 H1 (by show a (!!b1); rw [Bool.not_not]; exact p) f1 S1
/-- the pure ones -/
theorem tt_and' {a b : Bool} (h1 : TDT tt Γ k1 (· = a)) (h2 : a = true → TDT tu Γ k2 (· = b)) : TDT (tAnd tt tu) Γ (k1 + k2) (· = (a && b)) :=
  (tt_and h1 fun e => h2 e.symm).imp fun x h => by
    rcases h with ⟨e1, e2⟩ | ⟨e1, e2⟩
    · subst e1 e2; rfl
    · subst e2 e1; rfl
theorem tt_or' {a b : Bool} (h1 : TDT tt Γ k1 (· = a)) (h2 : a = false → TDT tu Γ k2 (· = b)) : TDT (tOr tt tu) Γ (k1 + k2) (· = (a || b)) :=
  (tt_or h1 fun e => h2 e.symm).imp fun x h => by
    rcases h with ⟨e1, e2⟩ | ⟨e1, e2⟩
    · subst e1 e2; rfl
    · subst e2 e1; rfl
theorem tt_not' {a : Bool} (h1 : TDT tt Γ k (· = a)) : TDT (tNot tt) Γ k (· = !a) := (tt_not h1).imp fun x h => by rw [← h, Bool.not_not]
theorem td_if {b : Bool → Prop} (ht : TDT tt Γ k1 b) (ha : b true → TD ta Γ k2 c P) (hb : b false → TD tb Γ k3 c P) : TD (tIf tt ta tb) Γ (k1 + max k2 k3) c P := fun O n σ Hf H hn S Q q =>
  ht O n σ Hf H (by omega) S _ fun d Hf1 H1 p f1 S1 => by
    cases d with
    | true =>
      rw [if_pos rfl]
      exact ha p O (n + k1) σ Hf1 H1 (by omega) S1 Q fun v Hf2 H2 x p2 r f2 S2 => q v Hf2 H2 x p2 r (f1.trans f2 fun _ h => .inl h) (S2.le (by omega))
    | false =>
      rw [if_neg Bool.false_ne_true]
      exact hb p O (n + k1) σ Hf1 H1 (by omega) S1 Q fun v Hf2 H2 x p2 r f2 S2 => q v Hf2 H2 x p2 r (f1.trans f2 fun _ h => .inl h) (S2.le (by omega))
theorem td_andV {a b : Bool → Prop} (h1 : TD ta Γ k1 cBool a) (h2 : a true → TD tb Γ k2 cBool b) : TD (tAndV ta tb) Γ (k1 + k2) cBool (fun r => (r = false ∧ a false) ∨ (a true ∧ b r)) := fun O n σ Hf H hn S Q q =>
  h1 O n σ Hf H (by omega) S _ fun v Hf1 H1 b1 p r1 f1 S1 => ⟨b1, r1, by
    cases b1 with
    | true =>
      rw [if_pos rfl]
      exact h2 p O (n + k1) σ Hf1 H1 (by omega) S1 Q fun v2 Hf2 H2 b2 p2 r2 f2 S2 => q v2 Hf2 H2 b2 (.inr ⟨p, p2⟩) r2 (f1.trans f2 fun _ h => .inl h) (by rw [← Nat.add_assoc]; exact S2)
    | false =>
      rw [if_neg Bool.false_ne_true]
      exact q _ Hf1 H1 false (.inl ⟨rfl, p⟩) rfl f1 (S1.le (by omega))⟩
theorem td_orV {a b : Bool → Prop} (h1 : TD ta Γ k1 cBool a) (h2 : a false → TD tb Γ k2 cBool b) : TD (tOrV ta tb) Γ (k1 + k2) cBool (fun r => (r = true ∧ a true) ∨ (a false ∧ b r)) := fun O n σ Hf H hn S Q q =>
  h1 O n σ Hf H (by omega) S _ fun v Hf1 H1 b1 p r1 f1 S1 => ⟨b1, r1, by
    cases b1 with
    | false =>
      rw [if_neg Bool.false_ne_true]
      exact h2 p O (n + k1) σ Hf1 H1 (by omega) S1 Q fun v2 Hf2 H2 b2 p2 r2 f2 S2 => q v2 Hf2 H2 b2 (.inr ⟨p, p2⟩) r2 (f1.trans f2 fun _ h => .inl h) (by rw [← Nat.add_assoc]; exact S2)
    | true =>
      rw [if_pos rfl]
      exact q _ Hf1 H1 true (.inl ⟨rfl, p⟩) rfl f1 (S1.le (by omega))⟩
theorem td_notV {a : Bool → Prop} (h1 : TD ta Γ k cBool a) : TD (tNotV ta) Γ k cBool (fun r => a (!r)) := fun O n σ Hf H hn S Q q =>
  h1 O n σ Hf H hn S _ fun v Hf1 H1 b1 p r1 f1 S1 => ⟨b1, r1, q _ Hf1 H1 (!b1) (by show a (!!b1); rw [Bool.not_not]; exact p) rfl f1 S1⟩
theorem td_andV' {a b : Bool} (h1 : TD ta Γ k1 cBool (· = a)) (h2 : a = true → TD tb Γ k2 cBool (· = b)) : TD (tAndV ta tb) Γ (k1 + k2) cBool (· = (a && b)) :=
  (td_andV h1 fun e => h2 e.symm).imp fun x h => by
    rcases h with ⟨e1, e2⟩ | ⟨e1, e2⟩
    · subst e1 e2; rfl
    · subst e2 e1; rfl
theorem td_orV' {a b : Bool} (h1 : TD ta Γ k1 cBool (· = a)) (h2 : a = false → TD tb Γ k2 cBool (· = b)) : TD (tOrV ta tb) Γ (k1 + k2) cBool (· = (a || b)) :=
  (td_orV h1 fun e => h2 e.symm).imp fun x h => by
    rcases h with ⟨e1, e2⟩ | ⟨e1, e2⟩
    · subst e1 e2; rfl
    · subst e2 e1; rfl
theorem td_notV' {a : Bool} (h1 : TD ta Γ k cBool (· = a)) : TD (tNotV ta) Γ k cBool (· = !a) := (td_notV h1).imp fun x h => by rw [← h, Bool.not_not]
/-! ### arguments, displays -/
variable {tx : TA} {B : Ctxt → Prop}
theorem ta_nil : TDA tNil Γ 0 (· = []) := fun O n σ Hf H _ S Q q => q [] Hf H [] rfl trivial (fun _ h => nomatch h) Fr.refl S
theorem ta_cons (h : TD te Γ k1 c P) (hr : TDA tx Γ k2 B) : TDA (tCons te tx) Γ (k1 + k2) (fun as => ∃ x r, P x ∧ B r ∧ as = .d c x :: r) := fun O n σ Hf H hn S Q q =>
  h O n σ Hf H (by omega) S _ fun v Hf1 H1 x p r f1 S1 => hr O (n + k1) σ Hf1 H1 (by omega) S1 _ fun vs Hf2 H2 as b o hb f2 S2 =>
    q (v :: vs) Hf2 H2 (.d c x :: as) ⟨x, as, p, b, rfl⟩ ⟨c.mono f2.ex r, o⟩ (fun a h => by
      rcases List.mem_cons.mp h with e | e
      · cases e
      · exact hb a e) (f1.trans f2 fun _ h => .inl h) (by rw [← Nat.add_assoc]; exact S2)
theorem ta_box {i : Nat} {a : Addr} (h : Γ[i]? = some (.bx a)) (hr : TDA tx Γ k2 B) : TDA (tCons (tVar i) tx) Γ k2 (fun as => ∃ r, B r ∧ as = .bx a :: r) := fun O n σ Hf H hn S Q q => by
  obtain ⟨h1, h2⟩ := S.at_ i _ h
  exact ⟨.ref a, h1, hr O n σ Hf H hn S _ fun vs Hf2 H2 as b o hb f2 S2 => q (.ref a :: vs) Hf2 H2 (.bx a :: as) ⟨as, b, rfl⟩ ⟨rfl, o⟩ (fun a' h' => by
    rcases List.mem_cons.mp h' with e | e
    · cases e; exact ⟨i, h⟩
    · exact hb a' e) f2 S2⟩
theorem TDA.imp {B' : Ctxt → Prop} (h : TDA tx Γ k B) (hp : ∀ x, B x → B' x) : TDA tx Γ k B' := fun O n σ Hf H hn S Q q => h O n σ Hf H hn S Q fun v Hf' H' x p => q v Hf' H' x (hp x p)
/-- items of one kind -/
theorem args_items {Hf : Hp} : ∀ {vs : List V} {xs : List α}, ArgsOk Hf vs (xs.map fun x => Sl.d c x) → Paired (c.rep Hf) vs xs
  | [], [], _ => .nil
  | [], _ :: _, h => h.elim
  | _ :: _, [], h => h.elim
  | v :: vs, x :: xs, h => .cons h.1 (args_items h.2)
theorem paired_len {F : V → α → Prop} {vs : List V} {xs : List α} (h : Paired F vs xs) : vs.length = xs.length := h.length
theorem td_lst {R : List α → Prop} (h : TDA tx Γ k B) (hi : ∀ as, B as → ∃ xs : List α, as = xs.map (fun x => Sl.d c x) ∧ xs.length ≤ 1000 ∧ R xs) : TD (tLst tx) Γ k (cList c) R := fun O n σ Hf H hn S Q q =>
  h O n σ Hf H hn S _ fun vs Hf1 H1 as b o _ f1 S1 => by
    obtain ⟨xs, e, l, r⟩ := hi as b
    subst e
    have pr := args_items o
    refine ⟨by rw [paired_len pr]; exact Nat.le_trans l (by decide), fun p hp => ?_⟩
    exact q _ (upd Hf1 p (.lst vs)) _ xs r ⟨p, vs, rfl, upd_same, paired_mono pr (fun _ _ z => c.mono (Ex.new (S1.ex.back hp)) z), by rw [paired_len pr]; exact Nat.le_trans l (by decide)⟩
      (f1.trans (Fr.new (M := Bx Γ) S1.ex hp) fun _ z => .inl z) (S1.new hp)
theorem td_tup {R : List α → Prop} (h : TDA tx Γ k B) (hi : ∀ as, B as → ∃ xs : List α, as = xs.map (fun x => Sl.d c x) ∧ xs.length ≤ 1000 ∧ R xs) : TD (tTup tx) Γ k (cTup c) R := fun O n σ Hf H hn S Q q =>
  h O n σ Hf H hn S _ fun vs Hf1 H1 as b o _ f1 S1 => by
    obtain ⟨xs, e, l, r⟩ := hi as b
    subst e
    have pr := args_items o
    refine ⟨by rw [paired_len pr]; exact Nat.le_trans l (by decide), fun p hp => ?_⟩
    exact q _ (upd Hf1 p (.tup vs)) _ xs r ⟨p, vs, rfl, upd_same, paired_mono pr (fun _ _ z => c.mono (Ex.new (S1.ex.back hp)) z), by rw [paired_len pr]; exact Nat.le_trans l (by decide)⟩
      (f1.trans (Fr.new (M := Bx Γ) S1.ex hp) fun _ z => .inl z) (S1.new hp)
theorem td_t2 (ha : TD ta Γ k1 c1 P1) (hb : TD tb Γ k2 c2 P2) : TD (tTup (tCons ta (tCons tb tNil))) Γ (k1 + k2) (cT2 c1 c2) (fun z => P1 z.1 ∧ P2 z.2) := fun O n σ Hf H hn S Q q =>
  ha O n σ Hf H (by omega) S _ fun v Hf1 H1 x p1 r1 f1 S1 => hb O (n + k1) σ Hf1 H1 (by omega) S1 _ fun u Hf2 H2 y p2 r2 f2 S2 =>
    ⟨by show 2 ≤ sizeLine; decide, fun p hp => q _ (upd Hf2 p (.tup [v, u])) _ (x, y) ⟨p1, p2⟩
      ⟨p, v, u, rfl, upd_same, c1.mono (f2.ex.trans (Ex.new (S2.ex.back hp))) r1, c2.mono (Ex.new (S2.ex.back hp)) r2⟩
      ((f1.trans f2 fun _ h => .inl h).trans (Fr.new (M := Bx Γ) S2.ex hp) fun _ z => .inl z) (by rw [← Nat.add_assoc]; exact S2.new hp)⟩
variable {td : TE}
theorem td_t3 (ha : TD ta Γ k1 c1 P1) (hb : TD tb Γ k2 c2 P2) (hd : TD td Γ k3 c3 P3) : TD (tTup (tCons ta (tCons tb (tCons td tNil)))) Γ (k1 + k2 + k3) (cT3 c1 c2 c3) (fun z => P1 z.1 ∧ P2 z.2.1 ∧ P3 z.2.2) := fun O n σ Hf H hn S Q q =>
  ha O n σ Hf H (by omega) S _ fun v Hf1 H1 x p1 r1 f1 S1 => hb O (n + k1) σ Hf1 H1 (by omega) S1 _ fun u Hf2 H2 y p2 r2 f2 S2 => hd O (n + k1 + k2) σ Hf2 H2 (by omega) S2 _ fun w Hf3 H3 z p3 r3 f3 S3 =>
    ⟨by show 3 ≤ sizeLine; decide, fun p hp => q _ (upd Hf3 p (.tup [v, u, w])) _ (x, y, z) ⟨p1, p2, p3⟩
      ⟨p, v, u, w, rfl, upd_same, c1.mono (f2.ex.trans (f3.ex.trans (Ex.new (S3.ex.back hp)))) r1, c2.mono (f3.ex.trans (Ex.new (S3.ex.back hp))) r2, c3.mono (Ex.new (S3.ex.back hp)) r3⟩
      (((f1.trans f2 fun _ h => .inl h).trans f3 fun _ h => .inl h).trans (Fr.new (M := Bx Γ) S3.ex hp) fun _ z => .inl z)
      (by rw [show n + (k1 + k2 + k3) = n + k1 + k2 + k3 by omega]; exact S3.new hp)⟩
theorem td_t2' {x : α} {y : β} (ha : TD ta Γ k1 c1 (· = x)) (hb : TD tb Γ k2 c2 (· = y)) : TD (tTup (tCons ta (tCons tb tNil))) Γ (k1 + k2) (cT2 c1 c2) (· = (x, y)) :=
  (td_t2 ha hb).imp fun z ⟨h1, h2⟩ => by cases z; subst h1 h2; rfl
theorem td_t3' {x : α} {y : β} {z : γ} (ha : TD ta Γ k1 c1 (· = x)) (hb : TD tb Γ k2 c2 (· = y)) (hd : TD td Γ k3 c3 (· = z)) : TD (tTup (tCons ta (tCons tb (tCons td tNil)))) Γ (k1 + k2 + k3) (cT3 c1 c2 c3) (· = (x, y, z)) :=
  (td_t3 ha hb hd).imp fun w ⟨h1, h2, h3⟩ => by obtain ⟨w1, w2, w3⟩ := w; subst h1 h2 h3; rfl
/-! ### operations on ints -/
theorem rd_I0 {g : Int → Int → Int} {i j : Int} : RD (rI0 fun i j => .int (g i j)) cInt i cInt j cInt (· = g i j) := fun Hf H v u e h1 h2 Q q => ⟨i, j, h1, h2, q _ Hf H _ rfl rfl Fr.refl e⟩
theorem rd_B0 {g : Int → Int → Bool} {i j : Int} : RD (rI0 fun i j => .bl (g i j)) cInt i cInt j cBool (· = g i j) := fun Hf H v u e h1 h2 Q q => ⟨i, j, h1, h2, q _ Hf H _ rfl rfl Fr.refl e⟩
theorem rd_I {C : Int → Int → Prop} {g : Int → Int → Int} {i j : Int} (hc : C i j) : RD (rI C fun i j => .int (g i j)) cInt i cInt j cInt (· = g i j) := fun Hf H v u e h1 h2 Q q => ⟨i, j, h1, h2, hc, q _ Hf H _ rfl rfl Fr.refl e⟩
theorem rd_eqI {i j : Int} : RD rEq cInt i cInt j cBool (· = decide (i = j)) := fun Hf H v u e h1 h2 Q q => by
  obtain rfl := h1; obtain rfl := h2
  exact ⟨rfl, q _ Hf H _ rfl (by show V.bl _ = V.bl _; congr 1; exact decide_eq_decide.mpr ⟨fun h => V.int.inj h, fun h => by rw [h]⟩) Fr.refl e⟩
theorem rd_neI {i j : Int} : RD rNe cInt i cInt j cBool (· = !decide (i = j)) := fun Hf H v u e h1 h2 Q q => by
  obtain rfl := h1; obtain rfl := h2
  exact ⟨rfl, q _ Hf H _ rfl (by show V.bl _ = V.bl _; congr 2; exact decide_eq_decide.mpr ⟨fun h => V.int.inj h, fun h => by rw [h]⟩) Fr.refl e⟩
theorem rd_eqB {i j : Bool} : RD rEq cBool i cBool j cBool (· = decide (i = j)) := fun Hf H v u e h1 h2 Q q => by
  obtain rfl := h1; obtain rfl := h2
  exact ⟨rfl, q _ Hf H _ rfl (by show V.bl _ = V.bl _; congr 1; exact decide_eq_decide.mpr ⟨fun h => V.bl.inj h, fun h => by rw [h]⟩) Fr.refl e⟩
theorem rd_neB {i j : Bool} : RD rNe cBool i cBool j cBool (· = !decide (i = j)) := fun Hf H v u e h1 h2 Q q => by
  obtain rfl := h1; obtain rfl := h2
  exact ⟨rfl, q _ Hf H _ rfl (by show V.bl _ = V.bl _; congr 2; exact decide_eq_decide.mpr ⟨fun h => V.bl.inj h, fun h => by rw [h]⟩) Fr.refl e⟩
theorem ru_negI {i : Int} : RU1 (rU fun i => .int (-i)) cInt i cInt (· = -i) := fun Hf H v e h1 Q q => ⟨i, h1, q _ Hf H _ rfl rfl Fr.refl e⟩
end
end DL

set_option Elab.async false
set_option linter.all false
set_option maxRecDepth 100000
set_option maxHeartbeats 2000000
namespace DL
open PySem PySem.Spec L2
/-! ### slots set -/
theorem sget.{u} {α : Type u} {l : List α} {i j : Nat} {x y : α} (h : (l.set i x)[j]? = some y) : (j = i ∧ y = x) ∨ (j ≠ i ∧ l[j]? = some y) := by
  by_cases e : j = i
  · subst e
    by_cases hl : j < l.length
    · rw [List.getElem?_set_self hl] at h; exact .inl ⟨rfl, (Option.some.inj h).symm⟩
    · rw [List.getElem?_eq_none (by simpa using hl)] at h; cases h
  · rw [List.getElem?_set_ne (Ne.symm e)] at h; exact .inr ⟨e, h⟩
def BxKeep (Γ Γ' : Ctxt) : Prop := ∀ (i : Nat) a, Γ[i]? = some (.bx a) → Γ'[i]? = some (.bx a)
theorem BxKeep.refl {Γ : Ctxt} : BxKeep Γ Γ := fun _ _ h => h
theorem BxKeep.trans {Γ Γ1 Γ2 : Ctxt} (a : BxKeep Γ Γ1) (b : BxKeep Γ1 Γ2) : BxKeep Γ Γ2 := fun i x h => b i x (a i x h)
/-- the slot i is no box -/
def NoBx (Γ : Ctxt) (i : Nat) : Prop := match Γ[i]? with
  | some (.bx _) => False
  | _ => True
theorem bxKeep_set {Γ : Ctxt} {i : Nat} {s : Sl} (h : NoBx Γ i) : BxKeep Γ (Γ.set i s) := fun j a e => by
  have ne : i ≠ j := fun z => by subst z; unfold NoBx at h; rw [e] at h; exact h
  rw [List.getElem?_set_ne ne]; exact e
section
variable {O : Org} {Hf H Hf' H' : Hp} {σ : Stt} {Γ : Ctxt} {n m : Nat} {α β : Type}
/-- a slot gets a piece of data, or is forgotten -/
theorem Sat.set (S : Sat O Hf H σ Γ n) {i : Nat} {c : Cod α} {x : α} {v : V} (r : c.rep Hf v x) : Sat O Hf H (σ.set i (some v)) (Γ.set i (.d c x)) n where
  len := by rw [List.length_set, List.length_set]; exact S.len
  ex := S.ex
  at_ := fun j s h => by
    have lt : j < σ.length := by
      have := (List.getElem?_eq_some_iff.mp h).1
      rw [List.length_set] at this
      rw [S.len]; exact this
    rcases sget h with ⟨e, e2⟩ | ⟨e, h2⟩
    · subst e e2
      exact ⟨v, List.getElem?_set_self lt, r⟩
    · rw [List.getElem?_set_ne (Ne.symm e)]
      exact S.at_ j s h2
  sep := fun j l sj sl a ne h1 h2 o1 o2 e => by
    rcases sget h1 with ⟨_, z⟩ | ⟨n1, h1⟩
    · subst z; cases o1
    rcases sget h2 with ⟨_, z⟩ | ⟨n2, h2⟩
    · subst z; cases o2
    rw [List.getElem?_set_ne (Ne.symm n1)] at e
    rw [List.getElem?_set_ne (Ne.symm n2)]
    exact S.sep j l sj sl a ne h1 h2 o1 o2 e
  fr := S.fr
  mine := fun a ⟨j, s, h1, h2, h3⟩ => by
    rcases sget h1 with ⟨_, z⟩ | ⟨n1, h1⟩
    · subst z; cases h2
    rw [List.getElem?_set_ne (Ne.symm n1)] at h3
    exact S.mine a ⟨j, s, h1, h2, h3⟩
/-- what is known of the slots may be less; a slot that is not known may hold anything -/
theorem Sat.weaken {σ' : Stt} {Γ' : Ctxt} (S : Sat O Hf H σ Γ n) (hl : σ'.length = Γ'.length) (h : ∀ (i : Nat) s, Γ'[i]? = some s → s = .un ∨ (Γ[i]? = some s ∧ σ'[i]? = σ[i]?)) : Sat O Hf H σ' Γ' n where
  len := hl
  ex := S.ex
  at_ := fun i s e => by
    rcases h i s e with z | ⟨h1, h2⟩
    · subst z; trivial
    · rw [h2]; exact S.at_ i s h1
  sep := fun i j si sj a ne h1 h2 o1 o2 e => by
    rcases h i si h1 with z | ⟨g1, e1⟩
    · subst z; cases o1
    rcases h j sj h2 with z | ⟨g2, e2⟩
    · subst z; cases o2
    rw [e2]
    exact S.sep i j si sj a ne g1 g2 o1 o2 (by rw [← e1]; exact e)
  fr := S.fr
  mine := fun a ⟨j, s, h1, h2, h3⟩ => by
    rcases h j s h1 with z | ⟨g1, e1⟩
    · subst z; cases h2
    exact S.mine a ⟨j, s, g1, h2, by rw [← e1]; exact h3⟩
def wipeC (Γ : Ctxt) : List Nat → Ctxt
  | [] => Γ
  | v :: vs => (wipeC Γ vs).set v .un
theorem wipeC_length (Γ : Ctxt) : ∀ vs : List Nat, (wipeC Γ vs).length = Γ.length
  | [] => rfl
  | v :: vs => by unfold wipeC; rw [List.length_set, wipeC_length Γ vs]
theorem wipe_at {i : Nat} {s : Sl} : ∀ {vs : List Nat}, (wipeC Γ vs)[i]? = some s → s = .un ∨ (Γ[i]? = some s ∧ (wipe σ vs)[i]? = σ[i]?)
  | [], h => .inr ⟨h, rfl⟩
  | v :: vs, h => by
    unfold wipeC at h
    rcases sget h with ⟨_, z⟩ | ⟨ne, h⟩
    · exact .inl z
    rcases wipe_at h with z | ⟨h1, h2⟩
    · exact .inl z
    · refine .inr ⟨h1, ?_⟩
      unfold wipe
      rw [List.getElem?_set_ne (Ne.symm ne)]; exact h2
theorem Sat.wipe (S : Sat O Hf H σ Γ n) (vs : List Nat) : Sat O Hf H (wipe σ vs) (wipeC Γ vs) n :=
  S.weaken (by rw [wipe_length, wipeC_length]; exact S.len) fun _ _ h => wipe_at h
/-- a list of one's own stays as it is from now on -/
theorem Sat.freeze (S : Sat O Hf H σ Γ n) {i : Nat} {c : Cod α} {xs : List α} (h : Γ[i]? = some (.l c xs)) :
    ∃ a vs, σ[i]? = some (some (V.ref a)) ∧ H a = some (.lst vs) ∧ Hf a = none ∧ ¬ Bx Γ a ∧ (∀ (j : Nat) s, j ≠ i → Γ[j]? = some s → s.own = true → σ[j]? ≠ some (some (V.ref a))) ∧ (cList c).rep (upd Hf a (.lst vs)) (.ref a) xs ∧ Sat O (upd Hf a (.lst vs)) H σ (Γ.set i (.d (cList c) xs)) n := by
  obtain ⟨a, vs, h1, h2, h3, h4, h5⟩ := S.at_ i _ h
  have e1 : Ex Hf (upd Hf a (.lst vs)) := Ex.new h3
  have oth : ∀ (j : Nat) s, j ≠ i → Γ[j]? = some s → s.own = true → σ[j]? ≠ some (some (V.ref a)) := fun j s ne hs o => S.sep i j _ s a (Ne.symm ne) h hs rfl o h1
  have rp : (cList c).rep (upd Hf a (.lst vs)) (.ref a) xs := ⟨a, vs, rfl, upd_same, paired_mono h4 (fun _ _ q => c.mono e1 q), h5⟩
  refine ⟨a, vs, h1, h2, h3, S.lNe h h1, oth, rp, ?_, ?_, ?_, ?_, ?_, ?_⟩
  · rw [List.length_set]; exact S.len
  · intro b o e
    by_cases q : b = a
    · subst q; rw [upd_same] at e; cases e; exact h2
    · rw [upd_ne q] at e; exact S.ex b o e
  · intro j s hs
    rcases sget hs with ⟨e, z⟩ | ⟨ne, hs⟩
    · subst e z; exact ⟨_, h1, rp⟩
    · have q := S.at_ j s hs
      cases s with
      | un => trivial
      | d c' x => obtain ⟨v, g1, g2⟩ := q; exact ⟨v, g1, c'.mono e1 g2⟩
      | l c' ys =>
        obtain ⟨a', vs', g1, g2, g3, g4, g5⟩ := q
        have nea : a' ≠ a := fun z => by subst z; exact oth j _ ne hs rfl g1
        exact ⟨a', vs', g1, g2, by rw [upd_ne nea]; exact g3, paired_mono g4 (fun _ _ r => c'.mono e1 r), g5⟩
      | bx b =>
        obtain ⟨g1, g2, g3⟩ := q
        have nea : b ≠ a := fun z => by subst z; exact oth j _ ne hs rfl g1
        exact ⟨g1, by rw [upd_ne nea]; exact g2, g3⟩
      | r p =>
        obtain ⟨a', o', g1, g2, g3, g4⟩ := q
        have nea : a' ≠ a := fun z => by subst z; exact oth j _ ne hs rfl g1
        exact ⟨a', o', g1, g2, by rw [upd_ne nea]; exact g3, p.mono e1 g4⟩
  · intro j l sj sl b ne g1 g2 o1 o2 e
    rcases sget g1 with ⟨_, z⟩ | ⟨_, g1⟩
    · subst z; cases o1
    rcases sget g2 with ⟨_, z⟩ | ⟨_, g2⟩
    · subst z; cases o2
    exact S.sep j l sj sl b ne g1 g2 o1 o2 e
  · refine ⟨S.fr.ex.trans e1, S.fr.keep, fun b o e nm z => ?_, S.fr.dom⟩
    have nb : b ≠ a := fun q => by
      subst q
      rcases S.mine b ⟨i, _, h, rfl, h1⟩ with w | w
      · exact nm w
      · rw [w] at e; cases e
    rw [upd_ne nb]; exact S.fr.fz b o e nm z
  · intro b ⟨j, s, g1, g2, g3⟩
    rcases sget g1 with ⟨_, z⟩ | ⟨_, g1⟩
    · subst z; cases g2
    exact S.mine b ⟨j, s, g1, g2, g3⟩
end
/-! ### statements -/
structure Fin (O : Org) (Γ : Ctxt) (Hf Hf' H' : Hp) (σ' : Stt) (Γ' : Ctxt) (m : Nat) : Prop where
  sat : Sat O Hf' H' σ' Γ' m
  bx : BxKeep Γ Γ'
  ex : Ex Hf Hf'
/-- where a block may lead: on, to a break, to a continue; what it may return -/
structure Po (ρ : Type) where
  N : Ctxt → Prop
  bk : Ctxt → Prop
  ct : Ctxt → Prop
  c : Cod ρ
  R : ρ → Prop
def HS {ρ : Type} (ts : TS) (Γ : Ctxt) (k : Nat) (p : Po ρ) : Prop :=
  ∀ (O : Org) (n : Nat) (σ : Stt) (Hf H : Hp), n + k ≤ LIM → Sat O Hf H σ Γ n → ∀ D : Ends,
    (∀ σ' Hf' H' Γ', p.N Γ' → Fin O Γ Hf Hf' H' σ' Γ' (n + k) → D.nx σ' H') → (∀ σ' Hf' H' Γ', p.bk Γ' → Fin O Γ Hf Hf' H' σ' Γ' (n + k) → D.bk σ' H') →
    (∀ σ' Hf' H' Γ', p.ct Γ' → Fin O Γ Hf Hf' H' σ' Γ' (n + k) → D.ct σ' H') → (∀ v σ' Hf' H' Γ' x, p.R x → p.c.rep Hf' v x → Fin O Γ Hf Hf' H' σ' Γ' (n + k) → D.rt v H') → ts D σ H
section
variable {Γ : Ctxt} {k k1 k2 k3 : Nat} {α β γ ρ : Type} {c : Cod α} {P : α → Prop} {te : TE} {tt : TT} {t u : TS} {p : Po ρ} {N N' : Ctxt → Prop}
theorem Fin.le {O : Org} {Γ' : Ctxt} {Hf Hf' H' : Hp} {σ' : Stt} {m m' : Nat} (f : Fin O Γ Hf Hf' H' σ' Γ' m) (l : m ≤ m') : Fin O Γ Hf Hf' H' σ' Γ' m' := ⟨f.sat.le l, f.bx, f.ex⟩
theorem HS.le (h : HS t Γ k p) (l : k ≤ k2) : HS t Γ k2 p := fun O n σ Hf H hn S D q1 q2 q3 q4 =>
  h O n σ Hf H (by omega) S D (fun _ _ _ _ a f => q1 _ _ _ _ a (f.le (by omega))) (fun _ _ _ _ a f => q2 _ _ _ _ a (f.le (by omega))) (fun _ _ _ _ a f => q3 _ _ _ _ a (f.le (by omega))) fun _ _ _ _ _ _ a r f => q4 _ _ _ _ _ _ a r (f.le (by omega))
theorem HS.imp (h : HS t Γ k { p with N := N }) (hp : ∀ Γ', N Γ' → N' Γ') : HS t Γ k { p with N := N' } := fun O n σ Hf H hn S D q1 q2 q3 q4 =>
  h O n σ Hf H hn S D (fun _ _ _ _ a f => q1 _ _ _ _ (hp _ a) f) q2 q3 q4
theorem hs_next (h : p.N Γ) : HS tNext Γ 0 p := fun O n σ Hf H _ S D q1 _ _ _ => q1 σ Hf H Γ h ⟨S, .refl, Ex.rfl'⟩
theorem hs_break (h : p.bk Γ) : HS tBreak Γ 0 p := fun O n σ Hf H _ S D _ q2 _ _ => q2 σ Hf H Γ h ⟨S, .refl, Ex.rfl'⟩
theorem hs_cont (h : p.ct Γ) : HS tCont Γ 0 p := fun O n σ Hf H _ S D _ _ q3 _ => q3 σ Hf H Γ h ⟨S, .refl, Ex.rfl'⟩
theorem hs_seq (h1 : HS t Γ k1 { p with N := N }) (h2 : ∀ Γ1, N Γ1 → HS u Γ1 k2 p) : HS (tSeq t u) Γ (k1 + k2) p := fun O n σ Hf H hn S D q1 q2 q3 q4 =>
  h1 O n σ Hf H (by omega) S { D with nx := u D } (fun σ1 Hf1 H1 Γ1 a f => h2 Γ1 a O (n + k1) σ1 Hf1 H1 (by omega) f.sat D
      (fun _ _ _ _ b g => q1 _ _ _ _ b ⟨by rw [← Nat.add_assoc]; exact g.sat, f.bx.trans g.bx, f.ex.trans g.ex⟩) (fun _ _ _ _ b g => q2 _ _ _ _ b ⟨by rw [← Nat.add_assoc]; exact g.sat, f.bx.trans g.bx, f.ex.trans g.ex⟩)
      (fun _ _ _ _ b g => q3 _ _ _ _ b ⟨by rw [← Nat.add_assoc]; exact g.sat, f.bx.trans g.bx, f.ex.trans g.ex⟩) fun _ _ _ _ _ _ b r g => q4 _ _ _ _ _ _ b r ⟨by rw [← Nat.add_assoc]; exact g.sat, f.bx.trans g.bx, f.ex.trans g.ex⟩)
    (fun _ _ _ _ a f => q2 _ _ _ _ a (f.le (by omega))) (fun _ _ _ _ a f => q3 _ _ _ _ a (f.le (by omega))) fun _ _ _ _ _ _ a r f => q4 _ _ _ _ _ _ a r (f.le (by omega))
theorem hs_if {b : Bool → Prop} (ht : TDT tt Γ k1 b) (ha : b true → HS t Γ k2 p) (hb : b false → HS u Γ k3 p) : HS (tIfS tt t u) Γ (k1 + max k2 k3) p := fun O n σ Hf H hn S D q1 q2 q3 q4 =>
  ht O n σ Hf H (by omega) S _ fun d Hf1 H1 pd f1 S1 => by
    cases d with
    | true =>
      rw [if_pos rfl]
      exact (ha pd).le (Nat.le_max_left k2 k3) O (n + k1) σ Hf1 H1 (by omega) S1 D (fun _ _ _ _ a f => q1 _ _ _ _ a ⟨by rw [← Nat.add_assoc]; exact f.sat, f.bx, f1.ex.trans f.ex⟩) (fun _ _ _ _ a f => q2 _ _ _ _ a ⟨by rw [← Nat.add_assoc]; exact f.sat, f.bx, f1.ex.trans f.ex⟩)
        (fun _ _ _ _ a f => q3 _ _ _ _ a ⟨by rw [← Nat.add_assoc]; exact f.sat, f.bx, f1.ex.trans f.ex⟩) fun _ _ _ _ _ _ a r f => q4 _ _ _ _ _ _ a r ⟨by rw [← Nat.add_assoc]; exact f.sat, f.bx, f1.ex.trans f.ex⟩
    | false =>
      rw [if_neg Bool.false_ne_true]
      exact (hb pd).le (Nat.le_max_right k2 k3) O (n + k1) σ Hf1 H1 (by omega) S1 D (fun _ _ _ _ a f => q1 _ _ _ _ a ⟨by rw [← Nat.add_assoc]; exact f.sat, f.bx, f1.ex.trans f.ex⟩) (fun _ _ _ _ a f => q2 _ _ _ _ a ⟨by rw [← Nat.add_assoc]; exact f.sat, f.bx, f1.ex.trans f.ex⟩)
        (fun _ _ _ _ a f => q3 _ _ _ _ a ⟨by rw [← Nat.add_assoc]; exact f.sat, f.bx, f1.ex.trans f.ex⟩) fun _ _ _ _ _ _ a r f => q4 _ _ _ _ _ _ a r ⟨by rw [← Nat.add_assoc]; exact f.sat, f.bx, f1.ex.trans f.ex⟩
theorem hs_ret (h : TD te Γ k c P) (hr : ∀ H v x, P x → c.rep H v x → ∃ y, p.R y ∧ p.c.rep H v y) : HS (tRet te) Γ k p := fun O n σ Hf H hn S D _ _ _ q4 =>
  h O n σ Hf H hn S _ fun v Hf' H' x px r f s => by
    obtain ⟨y, py, ry⟩ := hr Hf' v x px r
    exact q4 v σ Hf' H' Γ y py ry ⟨s, .refl, f.ex⟩
/-- return x, x a list of one's own -/
theorem hs_ret_l {i : Nat} {xs : List α} (h : Γ[i]? = some (.l c xs)) (nb : NoBx Γ i) (hr : ∀ H v, (cList c).rep H v xs → ∃ y, p.R y ∧ p.c.rep H v y) : HS (tRet (tVar i)) Γ 0 p := fun O n σ Hf H hn S D _ _ _ q4 => by
  obtain ⟨a, vs, h1, h2, h3, _, _, rp, S'⟩ := S.freeze h
  obtain ⟨y, py, ry⟩ := hr _ _ rp
  exact ⟨.ref a, h1, q4 (.ref a) σ _ H (Γ.set i (.d (cList c) xs)) y py ry ⟨S', bxKeep_set nb, Ex.new h3⟩⟩
/-- from here on x stays as it is -/
theorem hs_freeze {i : Nat} {xs : List α} (h : Γ[i]? = some (.l c xs)) (nb : NoBx Γ i) (hs : HS t (Γ.set i (.d (cList c) xs)) k p) : HS t Γ k p := fun O n σ Hf H hn S D q1 q2 q3 q4 => by
  obtain ⟨a, vs, h1, h2, h3, _, _, rp, S'⟩ := S.freeze h
  have bk := bxKeep_set (s := .d (cList c) xs) nb
  exact hs O n σ _ H hn S' D (fun _ _ _ _ a f => q1 _ _ _ _ a ⟨f.sat, bk.trans f.bx, (Ex.new h3).trans f.ex⟩) (fun _ _ _ _ a f => q2 _ _ _ _ a ⟨f.sat, bk.trans f.bx, (Ex.new h3).trans f.ex⟩)
    (fun _ _ _ _ a f => q3 _ _ _ _ a ⟨f.sat, bk.trans f.bx, (Ex.new h3).trans f.ex⟩) fun _ _ _ _ _ _ a r f => q4 _ _ _ _ _ _ a r ⟨f.sat, bk.trans f.bx, (Ex.new h3).trans f.ex⟩
theorem hs_set {i : Nat} (h : TD te Γ k c P) (nb : NoBx Γ i) (hp : ∀ x, P x → p.N (Γ.set i (.d c x))) : HS (tAsg te (gName i)) Γ k p := fun O n σ Hf H hn S D q1 _ _ _ =>
  h O n σ Hf H hn S _ fun v Hf' H' x px r f s => q1 _ Hf' H' _ (hp x px) ⟨s.set r, bxKeep_set nb, f.ex⟩
theorem hs_drop (h : TD te Γ k c P) (hp : p.N Γ) : HS (tDrop te) Γ k p := fun O n σ Hf H hn S D q1 _ _ _ =>
  h O n σ Hf H hn S _ fun v Hf' H' x px r f s => q1 _ Hf' H' _ hp ⟨s, .refl, f.ex⟩
end
end DL

set_option Elab.async false
set_option linter.all false
set_option maxRecDepth 100000
set_option maxHeartbeats 2000000
namespace DL
open PySem PySem.Spec L2
/-! ### what is walked -/
structure Walks {α : Type} (J : It) (Hf : Hp) (c : Cod α) (xs : List α) : Prop where
  go : ∀ (Hf' H' : Hp) (i : Nat), Ex Hf Hf' → Ex Hf' H' → i < xs.length → J.go i H'
  stop : ∀ (Hf' H' : Hp), Ex Hf Hf' → Ex Hf' H' → J.stop xs.length H'
  yld : ∀ (Hf' H' : Hp) (i : Nat) (v : V) (H1 : Hp) (x : α), Ex Hf Hf' → Ex Hf' H' → J.yld i H' v H1 → xs[i]? = some x → ∃ Hf1, c.rep Hf1 v x ∧ Fr (fun _ => False) Hf' H' Hf1 H1 ∧ Ex Hf1 H1
def TW {α : Type} (wi : TI) (Γ : Ctxt) (k : Nat) (c : Cod α) (X : List α → Prop) : Prop :=
  ∀ (O : Org) (n : Nat) (σ : Stt) (Hf H : Hp), n + k ≤ LIM → Sat O Hf H σ Γ n → ∀ R : It → Hp → Prop,
    (∀ J Hf' H' xs, X xs → Walks J Hf' c xs → xs.length ≤ LB → Fr (Bx Γ) Hf H Hf' H' → Sat O Hf' H' σ Γ (n + k) → R J H') → wi σ H R
/-- a target takes a value -/
def GD {α : Type} (g : TG) (c : Cod α) (x : α) (Γ Γ' : Ctxt) (is : List Nat) : Prop :=
  BxKeep Γ Γ' ∧ (∀ a, Bx Γ' a → Bx Γ a) ∧ ∀ (O : Org) (n : Nat) (σ : Stt) (Hf H : Hp) (v : V), c.rep Hf v x → Sat O Hf H σ Γ n → ∀ Q : Stt → Hp → Prop,
    (∀ σ', Sat O Hf H σ' Γ' n → (∀ vs : List Nat, (∀ i ∈ is, i ∈ vs) → wipe σ' vs = wipe σ vs) → Q σ' H) → g v σ H Q
theorem wipe_in {σ : Stt} {j : Nat} : ∀ {vs : List Nat}, j ∈ vs → (wipe σ vs)[j]? = if j < σ.length then some none else none
  | [], h => nomatch h
  | w :: ws, h => by
    unfold wipe
    by_cases e : w = j
    · subst e
      by_cases hl : w < σ.length
      · rw [List.getElem?_set_self (by rw [wipe_length]; exact hl), if_pos hl]
      · rw [if_neg hl, List.getElem?_eq_none (by rw [List.length_set, wipe_length]; omega)]
    · rw [List.getElem?_set_ne e]
      exact wipe_in (List.mem_of_ne_of_mem (Ne.symm e) h)
theorem wipe_set {σ : Stt} {i : Nat} {v : Option V} {vs : List Nat} (h : i ∈ vs) : wipe (σ.set i v) vs = wipe σ vs := by
  apply List.ext_getElem?
  intro j
  by_cases hj : j ∈ vs
  · rw [wipe_in hj, wipe_in hj, List.length_set]
  · rw [wipe_out hj, wipe_out hj, List.getElem?_set_ne (fun e => hj (by rw [← e]; exact h))]
theorem boxLt {Γ : Ctxt} {i : Nat} {c : Type} {d : Cod c} {x : c} {a : Addr} (h : Bx (Γ.set i (.d d x)) a) : Bx Γ a := by
  obtain ⟨j, h⟩ := h
  rcases sget h with ⟨_, z⟩ | ⟨_, z⟩
  · cases z
  · exact ⟨j, z⟩
section
variable {Γ Γ1 Γ2 Γ3 : Ctxt} {k k1 k2 k3 kk : Nat} {α β γ ρ : Type} {c : Cod α} {c' : Cod β} {c1 : Cod α} {c2 : Cod β} {c3 : Cod γ} {P : α → Prop} {te : TE} {tt : TT} {t u : TS} {p : Po ρ} {N N' : Ctxt → Prop} {ta : TA} {wi : TI} {g g1 g2 g3 : TG}
theorem gd_name {i : Nat} {x : α} (nb : NoBx Γ i) : GD (gName i) c x Γ (Γ.set i (.d c x)) [i] :=
  ⟨bxKeep_set nb, fun a h => boxLt h, fun O n σ Hf H v r S Q q => q _ (S.set r) fun vs hi => wipe_set (hi i (by simp))⟩
theorem gd_t2 {K : PySem.W.Frag} {x : α × β} {is js : List Nat} (h1 : GD g1 c1 x.1 Γ Γ1 is) (h2 : GD g2 c2 x.2 Γ1 Γ2 js) : GD (gTup K 2 (gCons g1 (gCons g2 gNil))) (cT2 c1 c2) x Γ Γ2 (is ++ js) := by
  obtain ⟨b1, d1, h1⟩ := h1
  obtain ⟨b2, d2, h2⟩ := h2
  refine ⟨b1.trans b2, fun a h => d1 a (d2 a h), fun O n σ Hf H v r S Q q => ?_⟩
  obtain ⟨a, u, w, e1, e2, r1, r2⟩ := r
  refine ⟨a, [u, w], e1, SqT.of (S.ex _ _ e2), rfl, u, [w], rfl, h1 O n σ Hf H u r1 S _ fun σ1 S1 w1 => ⟨w, [], rfl, h2 O n σ1 Hf H w r2 S1 _ fun σ2 S2 w2 => ⟨rfl, q σ2 S2 fun vs hi => ?_⟩⟩⟩
  rw [w2 vs fun i m => hi i (List.mem_append_right _ m), w1 vs fun i m => hi i (List.mem_append_left _ m)]
theorem gd_t3 {K : PySem.W.Frag} {x : α × β × γ} {is js ls : List Nat} (h1 : GD g1 c1 x.1 Γ Γ1 is) (h2 : GD g2 c2 x.2.1 Γ1 Γ2 js) (h3 : GD g3 c3 x.2.2 Γ2 Γ3 ls) : GD (gTup K 3 (gCons g1 (gCons g2 (gCons g3 gNil)))) (cT3 c1 c2 c3) x Γ Γ3 (is ++ js ++ ls) := by
  obtain ⟨b1, d1, h1⟩ := h1
  obtain ⟨b2, d2, h2⟩ := h2
  obtain ⟨b3, d3, h3⟩ := h3
  refine ⟨(b1.trans b2).trans b3, fun a h => d1 a (d2 a (d3 a h)), fun O n σ Hf H v r S Q q => ?_⟩
  obtain ⟨a, u, w, y, e1, e2, r1, r2, r3⟩ := r
  refine ⟨a, [u, w, y], e1, SqT.of (S.ex _ _ e2), rfl, u, [w, y], rfl, h1 O n σ Hf H u r1 S _ fun σ1 S1 w1 => ⟨w, [y], rfl, h2 O n σ1 Hf H w r2 S1 _ fun σ2 S2 w2 => ⟨y, [], rfl, h3 O n σ2 Hf H y r3 S2 _ fun σ3 S3 w3 => ⟨rfl, q σ3 S3 fun vs hi => ?_⟩⟩⟩⟩
  rw [w3 vs fun i m => hi i (List.mem_append_right _ m), w2 vs fun i m => hi i (List.mem_append_left _ (List.mem_append_right _ m)), w1 vs fun i m => hi i (List.mem_append_left _ (List.mem_append_left _ m))]
/-! ### the walked things -/
theorem paired_get {F : V → α → Prop} : ∀ {vs : List V} {xs : List α} {i : Nat} {v : V} {x : α}, Paired F vs xs → vs[i]? = some v → xs[i]? = some x → F v x
  | _, _, i, v, x, .nil, h, _ => by simp at h
  | _, _, 0, v, x, .cons r _, h1, h2 => by simp at h1 h2; subst h1 h2; exact r
  | _, _, i + 1, v, x, .cons _ t, h1, h2 => paired_get (i := i) t (by simpa using h1) (by simpa using h2)
theorem tw_list {K : PySem.W.Frag} {X : List α → Prop} (h : TD te Γ k (cList c) X) : TW (iList K te) Γ k c X := fun O n σ Hf H hn S R q =>
  h O n σ Hf H hn S _ fun v Hf' H' xs px ⟨a, vs, e, ha, pr, lb⟩ f s => by
    have hl := paired_len pr
    refine ⟨a, e, ⟨vs, SqL.of (s.ex _ _ ha)⟩, q _ Hf' H' xs px ⟨fun Hf2 H2 i e1 e2 hi => ?_, fun Hf2 H2 e1 e2 => ⟨vs, SqL.of (e2 _ _ (e1 _ _ ha)), by omega⟩, fun Hf2 H2 i w H1 x e1 e2 hy hx => ?_⟩ (by omega) f s⟩
    · exact ⟨vs, vs[i]'(by omega), SqL.of (e2 _ _ (e1 _ _ ha)), List.getElem?_eq_getElem (by omega)⟩
    · obtain ⟨rfl, hy⟩ := hy
      exact ⟨Hf2, c.mono e1 (paired_get pr (hy vs (SqL.of (e2 _ _ (e1 _ _ ha)))) hx), Fr.refl, e2⟩
theorem tw_tup {K : PySem.W.Frag} {X : List α → Prop} (h : TD te Γ k (cTup c) X) : TW (iTup K te) Γ k c X := fun O n σ Hf H hn S R q =>
  h O n σ Hf H hn S _ fun v Hf' H' xs px ⟨a, vs, e, ha, pr, lb⟩ f s => by
    have hl := paired_len pr
    refine ⟨a, e, ⟨vs, SqT.of (s.ex _ _ ha)⟩, q _ Hf' H' xs px ⟨fun Hf2 H2 i e1 e2 hi => ?_, fun Hf2 H2 e1 e2 => ⟨vs, SqT.of (e2 _ _ (e1 _ _ ha)), by omega⟩, fun Hf2 H2 i w H1 x e1 e2 hy hx => ?_⟩ (by omega) f s⟩
    · exact ⟨vs, vs[i]'(by omega), SqT.of (e2 _ _ (e1 _ _ ha)), List.getElem?_eq_getElem (by omega)⟩
    · obtain ⟨rfl, hy⟩ := hy
      exact ⟨Hf2, c.mono e1 (paired_get pr (hy vs (SqT.of (e2 _ _ (e1 _ _ ha)))) hx), Fr.refl, e2⟩
/-- the numbers lo, lo + 1, .. -/
def rangeL (lo : Int) (n : Nat) : List Int := (List.range n).map fun (i : Nat) => lo + (i : Int)
theorem rangeL_len {lo : Int} {n : Nat} : (rangeL lo n).length = n := by unfold rangeL; rw [List.length_map, List.length_range]
theorem rangeL_get {lo : Int} {n i : Nat} {x : Int} (h : (rangeL lo n)[i]? = some x) : x = lo + (i : Int) := by
  unfold rangeL at h
  rw [List.getElem?_map] at h
  cases e : (List.range n)[i]? with
  | none => rw [e] at h; cases h
  | some j =>
    rw [e] at h
    have : j = i := by
      rw [List.getElem?_eq_some_iff] at e
      obtain ⟨h1, h2⟩ := e
      rw [List.getElem_range] at h2
      exact h2.symm
    subst this
    exact (Option.some.inj h).symm
theorem walks_r {Hf : Hp} {lo : Int} {n : Nat} : Walks (Itr lo n) Hf cInt (rangeL lo n) where
  go := fun _ _ i _ _ h => by rw [rangeL_len] at h; exact h
  stop := fun _ _ _ _ => by rw [rangeL_len]; exact Nat.le_refl n
  yld := fun Hf' H' i v H1 x e1 e2 hy hx => by
    obtain ⟨rfl, rfl⟩ := hy
    exact ⟨Hf', by rw [rangeL_get hx]; rfl, Fr.refl, e2⟩
theorem tw_range1 {B : Ctxt → Prop} {X : List Int → Prop} (h : TDA ta Γ k B) (hi : ∀ as, B as → ∃ j : Int, as = [.d cInt j] ∧ -4611686018427387904 ≤ j ∧ j ≤ 1000000 ∧ X (rangeL 0 j.toNat)) : TW (iRng1 ta) Γ k cInt X := fun O n σ Hf H hn S R q =>
  h O n σ Hf H hn S _ fun vs Hf' H' as b o _ f s => by
    obtain ⟨j, rfl, l1, l2, x⟩ := hi as b
    cases vs with
    | nil => exact o.elim
    | cons v vs =>
      cases vs with
      | cons _ _ => exact o.2.elim
      | nil =>
        obtain ⟨h1, _⟩ := o
        obtain rfl : v = .int j := h1
        exact ⟨j, rfl, by omega, by omega, q _ Hf' H' _ x walks_r (by rw [rangeL_len]; unfold LB; omega) f s⟩
theorem tw_range2 {B : Ctxt → Prop} {X : List Int → Prop} (h : TDA ta Γ k B) (hi : ∀ as, B as → ∃ i j : Int, as = [.d cInt i, .d cInt j] ∧ -1000000000 ≤ i ∧ i ≤ 1000000000 ∧ -1000000000 ≤ j ∧ j ≤ 1000000000 ∧ j - i ≤ 1000000 ∧ X (rangeL i (j - i).toNat)) : TW (iRng2 ta) Γ k cInt X := fun O n σ Hf H hn S R q =>
  h O n σ Hf H hn S _ fun vs Hf' H' as b o _ f s => by
    obtain ⟨i, j, rfl, l1, l2, l3, l4, l5, x⟩ := hi as b
    match vs, o with
    | [v, w], o =>
      obtain ⟨h1, h2, _⟩ := o
      obtain rfl : v = .int i := h1
      obtain rfl : w = .int j := h2
      exact ⟨i, j, rfl, ⟨by omega, by omega, by omega, by omega⟩, q _ Hf' H' _ x walks_r (by rw [rangeL_len]; unfold LB; omega) f s⟩
/-! ### for -/
theorem take_snoc {l : List α} {i : Nat} {x : α} (h : l[i]? = some x) : l.take (i + 1) = l.take i ++ [x] := by rw [List.take_add_one, h]; rfl
theorem split_at {l : List α} {i : Nat} {x : α} (h : l[i]? = some x) : l = l.take i ++ x :: l.drop (i + 1) := by
  obtain ⟨h1, h2⟩ := List.getElem?_eq_some_iff.mp h
  subst h2
  rw [← List.drop_eq_getElem_cons h1, List.take_append_drop]
theorem hs_for {X : List α → Prop} {kn : Nat} (I : List α → List α → Ctxt → Prop) (hw : TW wi Γ k c X) (h0 : ∀ xs, X xs → I xs [] Γ) (hk : ∀ xs, X xs → xs.length * kk ≤ kn)
    (hs : ∀ xs, X xs → ∀ pre x post Γ1, xs = pre ++ x :: post → I xs pre Γ1 → ∃ Γ2 is, GD g c x Γ1 Γ2 is ∧ HS t Γ2 kk { N := I xs (pre ++ [x]), ct := I xs (pre ++ [x]), bk := p.N, c := p.c, R := p.R })
    (hd : ∀ xs Γ1, X xs → I xs xs Γ1 → p.N Γ1) : HS (tFor wi g t) Γ (k + kn) p := fun O n σ Hf H hn S D q1 q2 q3 q4 =>
  hw O n σ Hf H (by omega) S _ fun J Hf1 H1 xs px W lb f1 S1 => by
    have hk' := hk xs px
    have kle : ∀ i, i ≤ xs.length → i * kk ≤ kn := fun i hi => Nat.le_trans (Nat.mul_le_mul_right kk hi) hk'
    refine ⟨fun i m σ' H' => m = xs.length - i ∧ i ≤ xs.length ∧ ∃ Γ1 Hfi, I xs (xs.take i) Γ1 ∧ Fin O Γ Hf1 Hfi H' σ' Γ1 (n + k + i * kk),
      ⟨xs.length, by simp, Nat.zero_le _, Γ, Hf1, by rw [List.take_zero]; exact h0 xs px, by rw [Nat.zero_mul]; exact S1, .refl, Ex.rfl'⟩, ?_⟩
    rintro i m σ' H' ⟨rfl, hi, Γ1, Hfi, hI, F⟩
    have hki := kle i hi
    by_cases hlt : i < xs.length
    · have hx : xs[i]? = some xs[i] := List.getElem?_eq_getElem hlt
      have hki1 := kle (i + 1) hlt
      rw [Nat.succ_mul] at hki1
      refine .inr ⟨W.go Hfi H' i F.ex F.sat.ex hlt, fun σ2 H2 => ∃ Γ2 Hf2, I xs (xs.take (i + 1)) Γ2 ∧ Fin O Γ Hf1 Hf2 H2 σ2 Γ2 (n + k + (i + 1) * kk), fun σ2 H2 ⟨Γ2, Hf2, a, b⟩ => ⟨xs.length - (i + 1), by omega, rfl, hlt, Γ2, Hf2, a, b⟩, fun v H2 hy => ?_⟩
      obtain ⟨Hf2, rx, fy, ey⟩ := W.yld Hfi H' i v H2 _ F.ex F.sat.ex hy hx
      have S2 : Sat O Hf2 H2 σ' Γ1 (n + k + i * kk) := F.sat.grow0 fy ey
      obtain ⟨Γ2, is, gd, hb⟩ := hs xs px (xs.take i) xs[i] (xs.drop (i + 1)) Γ1 (split_at hx) hI
      have en : n + k + i * kk + kk = n + k + (i + 1) * kk := by rw [Nat.succ_mul]; omega
      refine gd.2.2 O _ σ' Hf2 H2 v rx S2 _ fun σ3 S3 _ => ?_
      have up : ∀ {σ4 : Stt} {Hf4 H4 : Hp} {Γ4 : Ctxt}, Fin O Γ2 Hf2 Hf4 H4 σ4 Γ4 (n + k + i * kk + kk) → Fin O Γ Hf1 Hf4 H4 σ4 Γ4 (n + k + (i + 1) * kk) := fun {σ4 Hf4 H4 Γ4} f => ⟨by rw [← en]; exact f.sat, (F.bx.trans gd.1).trans f.bx, (F.ex.trans fy.ex).trans f.ex⟩
      have up2 : ∀ {σ4 : Stt} {Hf4 H4 : Hp} {Γ4 : Ctxt}, Fin O Γ2 Hf2 Hf4 H4 σ4 Γ4 (n + k + i * kk + kk) → Fin O Γ Hf Hf4 H4 σ4 Γ4 (n + (k + kn)) := fun {σ4 Hf4 H4 Γ4} f => ⟨(up f).sat.le (by rw [Nat.succ_mul]; omega), (up f).bx, f1.ex.trans (up f).ex⟩
      refine hb O _ σ3 Hf2 H2 (by omega) S3 _ (fun σ4 Hf4 H4 Γ4 a f => ⟨Γ4, Hf4, by rw [take_snoc hx]; exact a, up f⟩) (fun σ4 Hf4 H4 Γ4 a f => q1 σ4 Hf4 H4 Γ4 a (up2 f)) (fun σ4 Hf4 H4 Γ4 a f => ⟨Γ4, Hf4, by rw [take_snoc hx]; exact a, up f⟩) (fun v4 σ4 Hf4 H4 Γ4 y a r f => q4 v4 σ4 Hf4 H4 Γ4 y a r (up2 f))
    · have e : i = xs.length := by omega
      subst e
      rw [List.take_length] at hI
      exact .inl ⟨W.stop Hfi H' F.ex F.sat.ex, q1 σ' Hfi H' Γ1 (hd xs Γ1 px hI) ⟨F.sat.le (by omega), F.bx, f1.ex.trans F.ex⟩⟩
end
end DL

set_option Elab.async false
set_option linter.all false
set_option maxRecDepth 100000
set_option maxHeartbeats 2000000
namespace DL
open PySem PySem.Spec L2
/-- a new list that nobody else has -/
def TDF {α : Type} (te : TE) (Γ : Ctxt) (k : Nat) (c : Cod α) (P : List α → Prop) : Prop :=
  ∀ (O : Org) (n : Nat) (σ : Stt) (Hf H : Hp), n + k ≤ LIM → Sat O Hf H σ Γ n → ∀ Q : VK,
    (∀ a vs Hf' H' xs, P xs → H' a = some (.lst vs) → Hf' a = none → H a = none → Paired (c.rep Hf') vs xs → vs.length ≤ LB → Fr (Bx Γ) Hf H Hf' H' → Sat O Hf' H' σ Γ (n + k) → Q (.ref a) H') → te σ H Q
section
variable {Γ Γ1 Γ2 Γ3 : Ctxt} {k k1 k2 k3 kk kt ke : Nat} {α β γ ρ : Type} {c : Cod α} {c' : Cod β} {c1 : Cod α} {c2 : Cod β} {c3 : Cod γ} {P : α → Prop} {te to : TE} {tt : TT} {t u : TS} {p : Po ρ} {N N' : Ctxt → Prop} {ta tx : TA} {wi : TI} {g g1 g2 g3 : TG}
variable {O : Org} {Hf H Hf' H' : Hp} {σ : Stt} {n m : Nat}
/-- an object of one's own becomes one that stays -/
theorem Fr.fix {M : Addr → Prop} {Hf H Hf' H' : Hp} {a : Addr} {o : HO} (f : Fr M Hf H Hf' H') (h0 : H a = none) (h1 : Hf' a = none) (h2 : H' a = some o) : Fr M Hf H (upd Hf' a o) H' where
  ex := f.ex.trans (Ex.new h1)
  keep := f.keep
  fz := fun b u e nm z => by rw [upd_ne (ne_of_none e h0)]; exact f.fz b u e nm z
  dom := f.dom
theorem Ex.fix {Hf H : Hp} {a : Addr} {o : HO} (e : Ex Hf H) (h : H a = some o) : Ex (upd Hf a o) H := fun b u q => by
  by_cases z : b = a
  · subst z; rw [upd_same] at q; cases q; exact h
  · rw [upd_ne z] at q; exact e b u q
theorem TDF.td {R : List α → Prop} (h : TDF te Γ k c R) : TD te Γ k (cList c) R := fun O n σ Hf H hn S Q q =>
  h O n σ Hf H hn S Q fun a vs Hf' H' xs p1 h1 h2 h3 pr lb f s => by
    have e1 : Ex Hf' (upd Hf' a (.lst vs)) := Ex.new h2
    refine q _ (upd Hf' a (.lst vs)) H' xs p1 ⟨a, vs, rfl, upd_same, paired_mono pr (fun _ _ z => c.mono e1 z), lb⟩ (f.fix h3 h2 h1) ?_
    have fr := f.fix h3 h2 h1
    refine S.grow fr (s.ex.fix h1) fun b hb => ?_
    obtain ⟨i, hi⟩ := hb
    obtain ⟨g1, g2, g3⟩ := s.at_ i _ hi
    refine ⟨?_, g3⟩
    have nb : b ≠ a := fun z => by
      subst z
      obtain ⟨_, _, z3⟩ := S.at_ i _ hi
      obtain ⟨_, _, _, _, z4, _⟩ := z3
      rw [h3] at z4; cases z4
    rw [upd_ne nb]; exact g2
theorem TDF.imp {R R' : List α → Prop} (h : TDF te Γ k c R) (hp : ∀ x, R x → R' x) : TDF te Γ k c R' := fun O n σ Hf H hn S Q q => h O n σ Hf H hn S Q fun a vs Hf' H' xs p1 => q a vs Hf' H' xs (hp xs p1)
theorem TDF.le {R : List α → Prop} (h : TDF te Γ k c R) (l : k ≤ k2) : TDF te Γ k2 c R := fun O n σ Hf H hn S Q q => h O n σ Hf H (by omega) S Q fun a vs Hf' H' xs p1 h1 h2 h3 h4 h5 f s => q a vs Hf' H' xs p1 h1 h2 h3 h4 h5 f (s.le (by omega))
theorem tdf_lst {B : Ctxt → Prop} {R : List α → Prop} (h : TDA tx Γ k B) (hi : ∀ as, B as → ∃ xs : List α, as = xs.map (fun x => Sl.d c x) ∧ xs.length ≤ 1000 ∧ R xs) : TDF (tLst tx) Γ k c R := fun O n σ Hf H hn S Q q =>
  h O n σ Hf H hn S _ fun vs Hf1 H1 as b o _ f1 S1 => by
    obtain ⟨xs, e, l, r⟩ := hi as b
    subst e
    have pr := args_items o
    refine ⟨by rw [paired_len pr]; exact Nat.le_trans l (by decide), fun p hp => ?_⟩
    exact q p vs Hf1 (upd H1 p (.lst vs)) xs r upd_same (S1.ex.back hp) (f1.dom p hp) pr (by rw [paired_len pr]; exact Nat.le_trans l (by decide))
      (f1.trans (Fr.newO (M := Bx Γ) hp) fun _ z => .inl z) (S1.grow0 (Fr.newO hp) (S1.ex.trans (Ex.new hp)))
/-! ### comprehensions -/
theorem bx_wipe {vs : List Nat} (h : ∀ i ∈ vs, NoBx Γ i) {a : Addr} : Bx (wipeC Γ vs) a ↔ Bx Γ a := by
  induction vs with
  | nil => exact Iff.rfl
  | cons v vs ih =>
    have ih := ih fun i hi => h i (List.mem_cons_of_mem _ hi)
    have hv := h v List.mem_cons_self
    rw [← ih]
    constructor
    · rintro ⟨j, hj⟩
      unfold wipeC at hj
      rcases sget hj with ⟨_, z⟩ | ⟨_, z⟩
      · cases z
      · exact ⟨j, z⟩
    · rintro ⟨j, hj⟩
      refine ⟨j, ?_⟩
      have ne : v ≠ j := fun z => by
        subst z
        have hj' := hj
        rcases wipe_at (σ := ([] : Stt)) hj' with w | ⟨w, _⟩
        · cases w
        · unfold NoBx at hv; rw [w] at hv; exact hv
      unfold wipeC
      rw [List.getElem?_set_ne ne]; exact hj
theorem wipeC_keep {vs : List Nat} (h : ∀ i ∈ vs, NoBx Γ i) : BxKeep Γ (wipeC Γ vs) := by
  induction vs with
  | nil => exact .refl
  | cons v vs ih =>
    have ih := ih fun i hi => h i (List.mem_cons_of_mem _ hi)
    intro j a hj
    have hv := h v List.mem_cons_self
    have ne : v ≠ j := fun z => by subst z; unfold NoBx at hv; rw [hj] at hv; exact hv
    unfold wipeC
    rw [List.getElem?_set_ne ne]; exact ih j a hj
theorem wipe_wipe {vs : List Nat} : wipe (wipe σ vs) vs = wipe σ vs := by
  apply List.ext_getElem?
  intro j
  by_cases hj : j ∈ vs
  · rw [wipe_in hj, wipe_in hj, wipe_length]
  · rw [wipe_out hj]
theorem tdf_lc {vs : List Nat} {X : List α → Prop} {kn : Nat} (I : List α → List α → List β → Prop) (hw : TW wi Γ k c X) (hv : ∀ i ∈ vs, NoBx Γ i) (h0 : ∀ xs, X xs → I xs [] []) (hk : ∀ xs, X xs → xs.length * (kt + ke) ≤ kn)
    (hs : ∀ xs, X xs → ∀ pre x post ys, xs = pre ++ x :: post → I xs pre ys → ∃ Γ1 is Pt, GD g c x (wipeC Γ vs) Γ1 is ∧ (∀ i ∈ is, i ∈ vs) ∧ TDT tt Γ1 kt Pt ∧
      (Pt true → TD te Γ1 ke c' fun y => I xs (pre ++ [x]) (ys ++ [y])) ∧ (Pt false → I xs (pre ++ [x]) ys)) :
    TDF (tLc wi g tt te vs) Γ (k + kn) c' (fun ys => ∃ xs, X xs ∧ I xs xs ys) := fun O n σ Hf H hn S Q q =>
  hw O n σ Hf H (by omega) S _ fun J Hf1 H1 xs px W lb f1 S1 D hD => by
    have hk' := hk xs px
    have kle : ∀ i, i ≤ xs.length → i * (kt + ke) ≤ kn := fun i hi => Nat.le_trans (Nat.mul_le_mul_right _ hi) hk'
    have hbx : ∀ a, Bx Γ a → a ≠ D := fun a ⟨i, hi⟩ z => by
      subst z
      obtain ⟨_, _, _, _, _, _, e, _⟩ := S1.at_ i _ hi
      rw [hD] at e; cases e
    have bx0 : ∀ a, Bx Γ a → Hf1 a = none ∧ BoxAt H1 a (n + k) := fun a ⟨i, hi⟩ => (S1.at_ i _ hi).2
    refine ⟨fun i m H' => m = xs.length - i ∧ i ≤ xs.length ∧ ∃ Hfi ys acc, I xs (xs.take i) ys ∧ Paired (c'.rep Hfi) acc ys ∧ acc.length ≤ i ∧ H' D = some (.lst acc) ∧ Hfi D = none ∧ Ex Hfi H' ∧ Fr (Bx Γ) Hf1 H1 Hfi H' ∧
        ∀ a, Bx Γ a → Hfi a = none ∧ BoxAt H' a (n + k + i * (kt + ke)),
      ⟨xs.length, by simp, Nat.zero_le _, Hf1, [], [], by rw [List.take_zero]; exact h0 xs px, .nil, Nat.le_refl _, upd_same, S1.ex.back hD, S1.ex.trans (Ex.new hD), Fr.newO hD, fun a ha => ⟨(bx0 a ha).1, by
        rw [Nat.zero_mul]; exact boxAt_ex (bx0 a ha).2 fun o e => by rw [upd_ne (hbx a ha)]; exact e⟩⟩, ?_⟩
    rintro i m H' ⟨rfl, hi, Hfi, ys, acc, hI, pr, al, hDi, hfD, ex, fr, hb⟩
    have Si : Sat O Hfi H' (wipe σ vs) (wipeC Γ vs) (n + k + i * (kt + ke)) := (S1.grow fr ex hb).wipe vs
    by_cases hlt : i < xs.length
    · have hx : xs[i]? = some xs[i] := List.getElem?_eq_getElem hlt
      have hki1 := kle (i + 1) hlt
      have en : n + k + i * (kt + ke) + (kt + ke) = n + k + (i + 1) * (kt + ke) := by rw [Nat.succ_mul]; omega
      refine .inr ⟨W.go Hfi H' i fr.ex ex hlt, fun H2 => ∃ Hfi ys acc, I xs (xs.take (i + 1)) ys ∧ Paired (c'.rep Hfi) acc ys ∧ acc.length ≤ i + 1 ∧ H2 D = some (.lst acc) ∧ Hfi D = none ∧ Ex Hfi H2 ∧ Fr (Bx Γ) Hf1 H1 Hfi H2 ∧
        ∀ a, Bx Γ a → Hfi a = none ∧ BoxAt H2 a (n + k + (i + 1) * (kt + ke)), fun H2 h2 => ⟨xs.length - (i + 1), by omega, rfl, hlt, h2⟩, fun v H2 hy => ?_⟩
      obtain ⟨Hf2, rx, fy, ey⟩ := W.yld Hfi H' i v H2 _ fr.ex ex hy hx
      have S2 : Sat O Hf2 H2 (wipe σ vs) (wipeC Γ vs) (n + k + i * (kt + ke)) := Si.grow0 fy ey
      obtain ⟨Γ1, is, Pt, gd, hin, ht, hT, hF⟩ := hs xs px (xs.take i) xs[i] (xs.drop (i + 1)) ys (split_at hx) hI
      have bx1 : ∀ a, Bx Γ1 a → Bx Γ a := fun a h => (bx_wipe hv).mp (gd.2.1 a h)
      have bx2 : ∀ a, Bx Γ a → Bx Γ1 a := fun a h => by
        obtain ⟨j, hj⟩ := (bx_wipe hv).mpr h
        exact ⟨j, gd.1 j a hj⟩
      have hD2 : H2 D = some (.lst acc) := fy.keep _ _ hDi id
      have hfD2 : Hf2 D = none := fy.fz _ _ hDi id hfD
      refine gd.2.2 O _ _ Hf2 H2 v rx S2 _ fun σ3 S3 w3 => ⟨(w3 vs hin).trans wipe_wipe, ?_⟩
      refine ht O _ σ3 Hf2 H2 (by omega) S3 _ fun b Hf3 H3 pb f3 S3' => ?_
      have nD1 : ¬ Bx Γ1 D := fun z => hbx D (bx1 D z) rfl
      have hD3 : H3 D = some (.lst acc) := f3.keep _ _ hD2 nD1
      have hfD3 : Hf3 D = none := f3.fz _ _ hD2 nD1 hfD2
      have F3 : Fr (Bx Γ) Hf1 H1 Hf3 H3 := (fr.trans fy fun _ z => z.elim).trans f3 fun a z => .inl (bx1 a z)
      cases b with
      | true =>
        rw [if_pos rfl]
        refine hT pb O _ σ3 Hf3 H3 (by omega) S3' _ fun y Hf4 H4 yx py ry f4 S4 => ?_
        have hD4 : H4 D = some (.lst acc) := f4.keep _ _ hD3 nD1
        have hfD4 : Hf4 D = none := f4.fz _ _ hD3 nD1 hfD3
        have F4 : Fr (Bx Γ) Hf1 H1 Hf4 H4 := F3.trans f4 fun a z => .inl (bx1 a z)
        refine ⟨acc, hD4, lb_lt (Nat.le_trans al (Nat.le_trans hi lb)), Hf4, ys ++ [yx], acc ++ [y], by rw [take_snoc hx]; exact py, ?_, by rw [List.length_append, List.length_singleton]; omega, upd_same, hfD4, S4.ex.mut hfD4, ?_, fun a ha => ?_⟩
        · have e4 : Ex Hfi Hf4 := (fy.ex.trans f3.ex).trans f4.ex
          exact Paired.snoc (paired_mono pr fun _ _ z => c'.mono e4 z) ry
        · refine ⟨F4.ex, fun a o e nm => ?_, F4.fz, fun a e => ?_⟩
          · rw [upd_ne (ne_of_none e hD)]; exact F4.keep a o e nm
          · by_cases z : a = D
            · subst z; exact hD
            · rw [upd_ne z] at e; exact F4.dom a e
        · obtain ⟨j, hj⟩ := bx2 a ha
          obtain ⟨_, z1, z2⟩ := S4.at_ j _ hj
          exact ⟨z1, by rw [← en, show n + k + i * (kt + ke) + (kt + ke) = n + k + i * (kt + ke) + kt + ke by omega]; exact boxAt_ex z2 fun o e => by rw [upd_ne (hbx a ha)]; exact e⟩
      | false =>
        rw [if_neg Bool.false_ne_true]
        refine ⟨Hf3, ys, acc, by rw [take_snoc hx]; exact hF pb, paired_mono pr fun _ _ z => c'.mono (fy.ex.trans f3.ex) z, by omega, hD3, hfD3, S3'.ex, F3, fun a ha => ?_⟩
        obtain ⟨j, hj⟩ := bx2 a ha
        obtain ⟨_, z1, z2⟩ := S3'.at_ j _ hj
        exact ⟨z1, boxAt_le z2 (by rw [← en]; omega)⟩
    · have e : i = xs.length := by omega
      subst e
      rw [List.take_length] at hI
      have hkl := kle xs.length (Nat.le_refl _)
      exact .inl ⟨W.stop Hfi H' fr.ex ex, q D acc Hfi H' ys ⟨xs, px, hI⟩ hDi hfD (f1.dom D hD) pr (by omega) (f1.trans fr fun _ z => .inl z) ((S1.grow fr ex hb).le (by omega))⟩
def NoBxs (Γ : Ctxt) : List Nat → Prop
  | [] => True
  | i :: is => match Γ[i]? with
    | some (.bx _) => False
    | _ => NoBxs Γ is
theorem noBxs_mem : ∀ {vs : List Nat}, NoBxs Γ vs → ∀ i ∈ vs, NoBx Γ i
  | [], _, _, h => nomatch h
  | v :: vs, h, i, hi => by
    have hv : NoBx Γ v ∧ NoBxs Γ vs := by
      unfold NoBxs at h
      unfold NoBx
      split at h
      · exact h.elim
      · rename_i z
        refine ⟨?_, h⟩
        first
          | trivial
          | (split
             · rename_i a e; exact z a e
             · trivial)
    rcases List.mem_cons.mp hi with e | e
    · subst e; exact hv.1
    · exact noBxs_mem hv.2 i e
theorem Sat.forget (S : Sat O Hf H σ Γ n) (vs : List Nat) : Sat O Hf H σ (wipeC Γ vs) n :=
  S.weaken (by rw [wipeC_length]; exact S.len) fun i s h => (wipe_at (σ := σ) h).imp id fun q => ⟨q.1, rfl⟩
theorem Fin.forget {σ' : Stt} {Γ' : Ctxt} (f : Fin O Γ Hf Hf' H' σ' Γ' m) (vs : List Nat) (h : NoBxs Γ' vs) : Fin O Γ Hf Hf' H' σ' (wipeC Γ' vs) m := ⟨f.sat.forget vs, f.bx.trans (wipeC_keep (noBxs_mem h)), f.ex⟩
theorem HS.forget (vs : List Nat) (h : HS t Γ k { p with N := N }) (hp : ∀ Γ', N Γ' → NoBxs Γ' vs ∧ N' (wipeC Γ' vs)) : HS t Γ k { p with N := N' } := fun O n σ Hf H hn S D q1 q2 q3 q4 =>
  h O n σ Hf H hn S D (fun σ' Hf' H' Γ' a f => q1 σ' Hf' H' _ (hp Γ' a).2 (f.forget vs (hp Γ' a).1)) q2 q3 q4
theorem tt_yes : TDT tYes Γ 0 (· = true) := fun O n σ Hf H hn S Q q => q true Hf H rfl Fr.refl S
/-- [f x for x in xs if b x], nothing drawn -/
theorem tdf_lc' {vs : List Nat} {xs : List α} (f : α → β) (b : α → Bool) (hw : TW wi Γ k c (· = xs)) (hv : ∀ i ∈ vs, NoBx Γ i)
    (hs : ∀ x, x ∈ xs → ∃ Γ1 is, GD g c x (wipeC Γ vs) Γ1 is ∧ (∀ i ∈ is, i ∈ vs) ∧ TDT tt Γ1 0 (· = b x) ∧ (b x = true → TD te Γ1 0 c' (· = f x))) :
    TDF (tLc wi g tt te vs) Γ k c' (· = (xs.filter b).map f) :=
  ((tdf_lc (kt := 0) (ke := 0) (kn := 0) (fun _ pre ys => ys = (pre.filter b).map f) hw hv (fun _ _ => rfl) (fun xs _ => by simp) fun xs' e pre x post ys hxs hI => by
    subst e
    obtain ⟨Γ1, is, h1, h2, h3, h4⟩ := hs x (by rw [hxs]; simp)
    refine ⟨Γ1, is, _, h1, h2, h3, fun e => (h4 e.symm).imp fun y hy => ?_, fun e => ?_⟩
    · rw [hI, hy, List.filter_append, List.map_append]; congr 1; simp [← e]
    · rw [hI, List.filter_append, List.map_append]; simp [← e]).imp fun ys ⟨xs', e, h⟩ => by subst e; exact h).le (by omega)
theorem tdf_lcm {vs : List Nat} {xs : List α} (f : α → β) (hw : TW wi Γ k c (· = xs)) (hv : ∀ i ∈ vs, NoBx Γ i)
    (hs : ∀ x, x ∈ xs → ∃ Γ1 is, GD g c x (wipeC Γ vs) Γ1 is ∧ (∀ i ∈ is, i ∈ vs) ∧ TD te Γ1 0 c' (· = f x)) :
    TDF (tLc wi g tYes te vs) Γ k c' (· = xs.map f) :=
  (tdf_lc' f (fun _ => true) hw hv fun x hx => by
    obtain ⟨Γ1, is, h1, h2, h3⟩ := hs x hx
    exact ⟨Γ1, is, h1, h2, tt_yes, fun _ => h3⟩).imp fun ys e => by rw [e]; congr 1; simp
end
end DL

set_option Elab.async false
set_option linter.all false
set_option maxRecDepth 100000
set_option maxHeartbeats 2000000
namespace DL
open PySem PySem.Spec L2
section
variable {Γ Γ1 Γ2 Γ3 : Ctxt} {k k1 k2 k3 kk kt ke : Nat} {α β γ ρ : Type} {c : Cod α} {c' : Cod β} {c1 : Cod α} {c2 : Cod β} {c3 : Cod γ} {P : α → Prop} {te to ti : TE} {tt : TT} {t u : TS} {p : Po ρ} {N N' : Ctxt → Prop} {ta tx : TA} {wi : TI} {g g1 g2 g3 : TG}
variable {O : Org} {Hf H Hf' H' : Hp} {σ : Stt} {n m : Nat}
/-! ### lists of one's own -/
/-- a slot takes a new list that nobody else has -/
theorem Sat.setL (S : Sat O Hf H σ Γ n) {i : Nat} {c : Cod α} {xs : List α} {a : Addr} {vs : List V} (h1 : H a = some (.lst vs)) (h2 : Hf a = none) (pr : Paired (c.rep Hf) vs xs) (lb : vs.length ≤ LB)
    (h3 : ∀ (j : Nat) s, j ≠ i → Γ[j]? = some s → s.own = true → σ[j]? ≠ some (some (V.ref a))) (h4 : O.M a ∨ O.H a = none) : Sat O Hf H (σ.set i (some (.ref a))) (Γ.set i (.l c xs)) n where
  len := by rw [List.length_set, List.length_set]; exact S.len
  ex := S.ex
  at_ := fun j s h => by
    have lt : j < σ.length := by
      have := (List.getElem?_eq_some_iff.mp h).1
      rw [List.length_set] at this
      rw [S.len]; exact this
    rcases sget h with ⟨e, e2⟩ | ⟨e, hh⟩
    · subst e e2
      exact ⟨a, vs, List.getElem?_set_self lt, h1, h2, pr, lb⟩
    · rw [List.getElem?_set_ne (Ne.symm e)]
      exact S.at_ j s hh
  sep := fun j l sj sl b ne g1 g2 o1 o2 e => by
    rcases sget g1 with ⟨z, z2⟩ | ⟨n1, g1'⟩
    · subst z
      rcases sget g2 with ⟨w, _⟩ | ⟨n2, g2⟩
      · exact absurd w.symm ne
      have lt : j < σ.length := by
        have := (List.getElem?_eq_some_iff.mp e).1
        rw [List.length_set] at this; exact this
      rw [List.getElem?_set_self lt] at e
      injection e with e; injection e with e; injection e with e
      subst e
      rw [List.getElem?_set_ne (Ne.symm n2)]
      exact h3 l sl n2 g2 o2
    · rw [List.getElem?_set_ne (Ne.symm n1)] at e
      rcases sget g2 with ⟨w, _⟩ | ⟨n2, g2⟩
      · subst w
        intro e'
        by_cases lt : l < σ.length
        · rw [List.getElem?_set_self lt] at e'
          injection e' with e'; injection e' with e'; injection e' with e'
          subst e'
          exact h3 j sj n1 g1' o1 e
        · rw [List.getElem?_eq_none (by rw [List.length_set]; omega)] at e'; cases e'
      · rw [List.getElem?_set_ne (Ne.symm n2)]
        exact S.sep j l sj sl b ne g1' g2 o1 o2 e
  fr := S.fr
  mine := fun b ⟨j, s, g1, g2, g3⟩ => by
    rcases sget g1 with ⟨z, z2⟩ | ⟨n1, g1⟩
    · subst z
      have lt : j < σ.length := by
        have := (List.getElem?_eq_some_iff.mp g3).1
        rw [List.length_set] at this; exact this
      rw [List.getElem?_set_self lt] at g3
      injection g3 with e; injection e with e; injection e with e
      subst e
      exact h4
    · rw [List.getElem?_set_ne (Ne.symm n1)] at g3
      exact S.mine b ⟨j, s, g1, g2, g3⟩
theorem Sat.setR (S : Sat O Hf H σ Γ n) {i : Nat} {p : OP} {a : Addr} {o : HO} (h1 : H a = some o) (h2 : Hf a = none) (hp : p.φ Hf a o)
    (h3 : ∀ (j : Nat) s, j ≠ i → Γ[j]? = some s → s.own = true → σ[j]? ≠ some (some (V.ref a))) (h4 : O.M a ∨ O.H a = none) : Sat O Hf H (σ.set i (some (.ref a))) (Γ.set i (.r p)) n where
  len := by rw [List.length_set, List.length_set]; exact S.len
  ex := S.ex
  at_ := fun j s h => by
    have lt : j < σ.length := by
      have := (List.getElem?_eq_some_iff.mp h).1
      rw [List.length_set] at this
      rw [S.len]; exact this
    rcases sget h with ⟨e, e2⟩ | ⟨e, hh⟩
    · subst e e2
      exact ⟨a, o, List.getElem?_set_self lt, h1, h2, hp⟩
    · rw [List.getElem?_set_ne (Ne.symm e)]
      exact S.at_ j s hh
  sep := fun j l sj sl b ne g1 g2 o1 o2 e => by
    rcases sget g1 with ⟨z, z2⟩ | ⟨n1, g1'⟩
    · subst z
      rcases sget g2 with ⟨w, _⟩ | ⟨n2, g2⟩
      · exact absurd w.symm ne
      have lt : j < σ.length := by
        have := (List.getElem?_eq_some_iff.mp e).1
        rw [List.length_set] at this; exact this
      rw [List.getElem?_set_self lt] at e
      injection e with e; injection e with e; injection e with e
      subst e
      rw [List.getElem?_set_ne (Ne.symm n2)]
      exact h3 l sl n2 g2 o2
    · rw [List.getElem?_set_ne (Ne.symm n1)] at e
      rcases sget g2 with ⟨w, _⟩ | ⟨n2, g2⟩
      · subst w
        intro e'
        by_cases lt : l < σ.length
        · rw [List.getElem?_set_self lt] at e'
          injection e' with e'; injection e' with e'; injection e' with e'
          subst e'
          exact h3 j sj n1 g1' o1 e
        · rw [List.getElem?_eq_none (by rw [List.length_set]; omega)] at e'; cases e'
      · rw [List.getElem?_set_ne (Ne.symm n2)]
        exact S.sep j l sj sl b ne g1' g2 o1 o2 e
  fr := S.fr
  mine := fun b ⟨j, s, g1, g2, g3⟩ => by
    rcases sget g1 with ⟨z, z2⟩ | ⟨n1, g1⟩
    · subst z
      have lt : j < σ.length := by
        have := (List.getElem?_eq_some_iff.mp g3).1
        rw [List.length_set] at this; exact this
      rw [List.getElem?_set_self lt] at g3
      injection g3 with e; injection e with e; injection e with e
      subst e
      exact h4
    · rw [List.getElem?_set_ne (Ne.symm n1)] at g3
      exact S.mine b ⟨j, s, g1, g2, g3⟩
theorem hs_setL {i : Nat} {R : List α → Prop} (h : TDF te Γ k c R) (nb : NoBx Γ i) (hp : ∀ xs, R xs → p.N (Γ.set i (.l c xs))) : HS (tAsg te (gName i)) Γ k p := fun O n σ Hf H hn S D q1 _ _ _ =>
  h O n σ Hf H hn S _ fun a vs Hf' H' xs rx h1 h2 h3 pr lb f s => q1 _ Hf' H' _ (hp xs rx) ⟨s.setL h1 h2 pr lb (fun j sl ne hj ho e => by
    obtain ⟨w1, o, w2⟩ := S.ownAt (a := a) ⟨j, sl, hj, ho, e⟩
    rw [h3] at w2; cases w2) (.inr (S.fr.dom a h3)), bxKeep_set nb, f.ex⟩
/-- the list in a slot is written -/
theorem Sat.wr (S : Sat O Hf H σ Γ n) {i : Nat} {c0 : Cod β} {zs : List β} (h : Γ[i]? = some (.l c0 zs)) {a : Addr} (e : σ[i]? = some (some (V.ref a))) {c : Cod α} {xs : List α} {vs : List V} (pr : Paired (c.rep Hf) vs xs) (lb : vs.length ≤ LB) :
    Sat O Hf (upd H a (.lst vs)) σ (Γ.set i (.l c xs)) n := by
  obtain ⟨a', vs', g1, g2, g3, g4, g5⟩ := S.at_ i _ h
  rw [e] at g1
  injection g1 with g1; injection g1 with g1; injection g1 with g1
  subst g1
  have oth : ∀ (j : Nat) s, j ≠ i → Γ[j]? = some s → s.own = true → σ[j]? ≠ some (some (V.ref a)) := fun j s ne hs o => S.sep i j _ s a (Ne.symm ne) h hs rfl o e
  refine ⟨by rw [List.length_set]; exact S.len, S.ex.mut g3, fun j s hs => ?_, fun j l sj sl b ne q1 q2 o1 o2 ee => ?_, ?_, fun b ⟨j, s, q1, q2, q3⟩ => ?_⟩
  · rcases sget hs with ⟨z, z2⟩ | ⟨ne, hs⟩
    · subst z z2
      exact ⟨a, vs, e, upd_same, g3, pr, lb⟩
    · have q := S.at_ j s hs
      cases s with
      | un => trivial
      | d c' x => exact q
      | l c' ys =>
        obtain ⟨a', vs', w1, w2, w3, w4, w5⟩ := q
        have nea : a' ≠ a := fun z => by subst z; exact oth j _ ne hs rfl w1
        exact ⟨a', vs', w1, by rw [upd_ne nea]; exact w2, w3, w4, w5⟩
      | bx b =>
        obtain ⟨w1, w2, w3⟩ := q
        have nea : b ≠ a := fun z => by subst z; exact oth j _ ne hs rfl w1
        exact ⟨w1, w2, boxAt_ex w3 fun o r => by rw [upd_ne nea]; exact r⟩
      | r p =>
        obtain ⟨a', o', w1, w2, w3, w4⟩ := q
        have nea : a' ≠ a := fun z => by subst z; exact oth j _ ne hs rfl w1
        exact ⟨a', o', w1, by rw [upd_ne nea]; exact w2, w3, w4⟩
  · have k1 : ∃ s, Γ[j]? = some s ∧ s.own = true := by
      rcases sget q1 with ⟨z, _⟩ | ⟨_, z⟩
      · subst z; exact ⟨_, h, rfl⟩
      · exact ⟨_, z, o1⟩
    have k2 : ∃ s, Γ[l]? = some s ∧ s.own = true := by
      rcases sget q2 with ⟨z, _⟩ | ⟨_, z⟩
      · subst z; exact ⟨_, h, rfl⟩
      · exact ⟨_, z, o2⟩
    obtain ⟨s1, y1, y2⟩ := k1
    obtain ⟨s2, y3, y4⟩ := k2
    exact S.sep j l s1 s2 b ne y1 y3 y2 y4 ee
  · have mine : O.M a ∨ O.H a = none := S.mine a ⟨i, _, h, rfl, e⟩
    refine ⟨S.fr.ex, fun b o q nm => ?_, S.fr.fz, fun b q => ?_⟩
    · have nb : b ≠ a := fun z => by
        subst z
        rcases mine with w | w
        · exact nm w
        · rw [w] at q; cases q
      rw [upd_ne nb]; exact S.fr.keep b o q nm
    · by_cases z : b = a
      · subst z; rw [upd_same] at q; cases q
      · rw [upd_ne z] at q; exact S.fr.dom b q
  · rcases sget q1 with ⟨z, _⟩ | ⟨_, z⟩
    · subst z
      exact S.mine b ⟨j, _, h, rfl, q3⟩
    · exact S.mine b ⟨j, s, z, q2, q3⟩
theorem Sat.wrR (S : Sat O Hf H σ Γ n) {i : Nat} {p0 : OP} (h : Γ[i]? = some (.r p0)) {a : Addr} (e : σ[i]? = some (some (V.ref a))) {p : OP} {o : HO} (hp : p.φ Hf a o) :
    Sat O Hf (upd H a o) σ (Γ.set i (.r p)) n := by
  obtain ⟨a', o', g1, g2, g3, g4⟩ := S.at_ i _ h
  rw [e] at g1
  injection g1 with g1; injection g1 with g1; injection g1 with g1
  subst g1
  have oth : ∀ (j : Nat) s, j ≠ i → Γ[j]? = some s → s.own = true → σ[j]? ≠ some (some (V.ref a)) := fun j s ne hs o => S.sep i j _ s a (Ne.symm ne) h hs rfl o e
  refine ⟨by rw [List.length_set]; exact S.len, S.ex.mut g3, fun j s hs => ?_, fun j l sj sl b ne q1 q2 o1 o2 ee => ?_, ?_, fun b ⟨j, s, q1, q2, q3⟩ => ?_⟩
  · rcases sget hs with ⟨z, z2⟩ | ⟨ne, hs⟩
    · subst z z2
      exact ⟨a, o, e, upd_same, g3, hp⟩
    · have q := S.at_ j s hs
      cases s with
      | un => trivial
      | d c' x => exact q
      | l c' ys =>
        obtain ⟨a', vs', w1, w2, w3, w4, w5⟩ := q
        have nea : a' ≠ a := fun z => by subst z; exact oth j _ ne hs rfl w1
        exact ⟨a', vs', w1, by rw [upd_ne nea]; exact w2, w3, w4, w5⟩
      | bx b =>
        obtain ⟨w1, w2, w3⟩ := q
        have nea : b ≠ a := fun z => by subst z; exact oth j _ ne hs rfl w1
        exact ⟨w1, w2, boxAt_ex w3 fun o r => by rw [upd_ne nea]; exact r⟩
      | r p =>
        obtain ⟨a', o', w1, w2, w3, w4⟩ := q
        have nea : a' ≠ a := fun z => by subst z; exact oth j _ ne hs rfl w1
        exact ⟨a', o', w1, by rw [upd_ne nea]; exact w2, w3, w4⟩
  · have k1 : ∃ s, Γ[j]? = some s ∧ s.own = true := by
      rcases sget q1 with ⟨z, _⟩ | ⟨_, z⟩
      · subst z; exact ⟨_, h, rfl⟩
      · exact ⟨_, z, o1⟩
    have k2 : ∃ s, Γ[l]? = some s ∧ s.own = true := by
      rcases sget q2 with ⟨z, _⟩ | ⟨_, z⟩
      · subst z; exact ⟨_, h, rfl⟩
      · exact ⟨_, z, o2⟩
    obtain ⟨s1, y1, y2⟩ := k1
    obtain ⟨s2, y3, y4⟩ := k2
    exact S.sep j l s1 s2 b ne y1 y3 y2 y4 ee
  · have mine : O.M a ∨ O.H a = none := S.mine a ⟨i, _, h, rfl, e⟩
    refine ⟨S.fr.ex, fun b o q nm => ?_, S.fr.fz, fun b q => ?_⟩
    · have nb : b ≠ a := fun z => by
        subst z
        rcases mine with w | w
        · exact nm w
        · rw [w] at q; cases q
      rw [upd_ne nb]; exact S.fr.keep b o q nm
    · by_cases z : b = a
      · subst z; rw [upd_same] at q; cases q
      · rw [upd_ne z] at q; exact S.fr.dom b q
  · rcases sget q1 with ⟨z, _⟩ | ⟨_, z⟩
    · subst z
      exact S.mine b ⟨j, _, h, rfl, q3⟩
    · exact S.mine b ⟨j, s, z, q2, q3⟩
/-- x.append(e) -/
theorem hs_append {K : PySem.W.Frag} {i : Nat} {xs : List α} (h : Γ[i]? = some (.l c xs)) (nb : NoBx Γ i) (he : TD te Γ k c P) (lb : xs.length + 1 ≤ LB) (hp : ∀ y, P y → p.N (Γ.set i (.l c (xs ++ [y])))) :
    HS (tDrop (tBM K "list" rAppend (tVar i) (tCons te tNil))) Γ k p := fun O n σ Hf H hn S D q1 _ _ _ => by
  obtain ⟨a, vs, h1, h2, h3, h4, h5⟩ := S.at_ i _ h
  refine ⟨.ref a, h1, .inl ⟨rfl, vs, SqL.of h2⟩, ?_⟩
  refine he O n σ Hf H hn S _ fun v Hf' H' y py ry f s => ?_
  obtain ⟨a', vs', w1, w2, w3, w4, w5⟩ := s.at_ i _ h
  rw [h1] at w1
  injection w1 with w1; injection w1 with w1; injection w1 with w1
  subst w1
  have hl := paired_len w4
  refine ⟨a, vs', v, rfl, rfl, w2, lb_lt w5, ?_⟩
  exact q1 σ Hf' _ _ (hp y py) ⟨s.wr h h1 (Paired.snoc w4 ry) (by rw [List.length_append, List.length_singleton]; omega), bxKeep_set nb, f.ex⟩
theorem paired_set {F : V → α → Prop} {v : V} {x : α} (r : F v x) : ∀ {vs : List V} {xs : List α} (i : Nat), Paired F vs xs → Paired F (vs.set i v) (xs.set i x)
  | _, _, _, .nil => .nil
  | _, _, 0, .cons _ t => .cons r t
  | _, _, i + 1, .cons q t => .cons q (paired_set r i t)
/-- x[e] = v -/
theorem hs_setItem {i : Nat} {xs : List α} {Pi : Int → Prop} (h : Γ[i]? = some (.l c xs)) (nb : NoBx Γ i) (he : TD te Γ k1 c P) (hi : TD ti Γ k2 cInt Pi) (hp : ∀ y z, P y → Pi z → ∃ j : Nat, ixN xs.length z = some j ∧ p.N (Γ.set i (.l c (xs.set j y)))) :
    HS (tAsg te (gSub (tVar i) ti rSetL)) Γ (k1 + k2) p := fun O n σ Hf H hn S D q1 _ _ _ => by
  obtain ⟨a, vs, h1, h2, h3, h4, h5⟩ := S.at_ i _ h
  refine he O n σ Hf H (by omega) S _ fun v Hf1 H1 y py ry f1 S1 => ?_
  refine ⟨.ref a, h1, ?_⟩
  refine hi O (n + k1) σ Hf1 H1 (by omega) S1 _ fun w Hf2 H2 z pz rz f2 S2 => ?_
  obtain ⟨a', vs', w1, w2, w3, w4, w5⟩ := S2.at_ i _ h
  rw [h1] at w1
  injection w1 with w1; injection w1 with w1; injection w1 with w1
  subst w1
  obtain ⟨j, hj, pn⟩ := hp y z py pz
  have hl := paired_len w4
  refine ⟨a, vs', z, j, rfl, rz, w2, by rw [hl]; exact hj, ?_⟩
  exact q1 σ Hf2 _ _ pn ⟨by rw [← Nat.add_assoc]; exact S2.wr h h1 (paired_set (c.mono f2.ex ry) j w4) (by rw [List.length_set]; exact w5), bxKeep_set nb, f1.ex.trans f2.ex⟩
theorem paired_erase {F : V → α → Prop} : ∀ {vs : List V} {xs : List α} (i : Nat), Paired F vs xs → Paired F (vs.eraseIdx i) (xs.eraseIdx i)
  | _, _, _, .nil => .nil
  | _, _, 0, .cons _ t => t
  | _, _, i + 1, .cons q t => .cons q (paired_erase i t)
theorem ixN_seqI {n j : Nat} (h : j < n) : seqIndex? (j : Int) n = some j := by
  rw [seqIndex_of (by omega) (by omega)]
  simp
/-- y.append(x.pop(e)) -/
theorem hs_appendPop {K : PySem.W.Frag} {i j : Nat} {xs ys : List α} {Pi : Int → Prop} (hij : i ≠ j) (h : Γ[i]? = some (.l c ys)) (h' : Γ[j]? = some (.l c xs)) (nb : NoBx Γ i) (nb' : NoBx Γ j) (hi : TD ti Γ k cInt Pi) (lb : ys.length + 1 ≤ LB) (lb' : xs.length ≤ LB)
    (hp : ∀ z, Pi z → ∃ (l : Nat) (y : α), z = (l : Int) ∧ xs[l]? = some y ∧ p.N ((Γ.set j (.l c (xs.eraseIdx l))).set i (.l c (ys ++ [y])))) :
    HS (tDrop (tBM K "list" rAppend (tVar i) (tCons (tBM K "list" rPopAt (tVar j) (tCons ti tNil)) tNil))) Γ k p := fun O n σ Hf H hn S D q1 _ _ _ => by
  obtain ⟨a, vs, h1, h2, h3, h4, h5⟩ := S.at_ i _ h
  obtain ⟨b, us, e1, e2, e3, e4, e5⟩ := S.at_ j _ h'
  refine ⟨.ref a, h1, .inl ⟨rfl, vs, SqL.of h2⟩, ?_⟩
  refine ⟨.ref b, e1, .inl ⟨rfl, us, SqL.of e2⟩, ?_⟩
  refine hi O n σ Hf H hn S _ fun v Hf' H' z pz rz f s => ?_
  obtain ⟨l, y, rfl, hl, pn⟩ := hp z pz
  obtain rfl : v = .int (l : Int) := rz
  have hll : l < xs.length := (List.getElem?_eq_some_iff.mp hl).1
  obtain ⟨b', us', w1, w2, w3, w4, w5⟩ := s.at_ j _ h'
  rw [e1] at w1
  injection w1 with w1; injection w1 with w1; injection w1 with w1
  subst w1
  have hul := paired_len w4
  have hu : us'[l]? = some (us'[l]'(by omega)) := List.getElem?_eq_getElem (by omega)
  unfold LB at lb'
  refine ⟨b, us', (l : Int), l, us'[l]'(by omega), rfl, rfl, w2, by omega, by omega, ixN_seqI (by omega), hu, ?_⟩
  have s2 := s.wr h' e1 (paired_erase l w4) (by rw [List.length_eraseIdx]; split <;> omega)
  have h'' : (Γ.set j (.l c (xs.eraseIdx l)))[i]? = some (.l c ys) := by rw [List.getElem?_set_ne (Ne.symm hij)]; exact h
  obtain ⟨a', vs', x1, x2, x3, x4, x5⟩ := s2.at_ i _ h''
  rw [h1] at x1
  injection x1 with x1; injection x1 with x1; injection x1 with x1
  subst x1
  have hvl := paired_len x4
  refine ⟨a, vs', us'[l]'(by omega), rfl, rfl, x2, lb_lt x5, ?_⟩
  have nb2 : NoBx (Γ.set j (.l c (xs.eraseIdx l))) i := by unfold NoBx; rw [h'']; trivial
  exact q1 σ Hf' _ _ pn ⟨s2.wr h'' h1 (Paired.snoc x4 (paired_get w4 hu hl)) (by rw [List.length_append, List.length_singleton]; omega), (bxKeep_set nb').trans (bxKeep_set nb2), f.ex⟩
/-! ### a list of one's own, only looked at -/
def Flat {α : Type} (c : Cod α) : Prop := ∀ (H H' : Hp) v x, c.rep H v x → c.rep H' v x
theorem flat_int : Flat cInt := fun _ _ _ _ h => h
theorem flat_bool : Flat cBool := fun _ _ _ _ h => h
theorem flat_str : Flat cStr := fun _ _ _ _ h => h
theorem Sat.view (S : Sat O Hf H σ Γ n) {i : Nat} {c : Cod α} {xs : List α} (h : Γ[i]? = some (.l c xs)) {Q : Hp → Prop}
    (run : ∀ Hf1, Sat O Hf1 H σ (Γ.set i (.d (cList c) xs)) n → (∀ Hf1' H', Fr (Bx (Γ.set i (.d (cList c) xs))) Hf1 H Hf1' H' → Sat O Hf1' H' σ (Γ.set i (.d (cList c) xs)) m →
      (∃ Hf', Fr (Bx Γ) Hf H Hf' H' ∧ Sat O Hf' H' σ Γ m)) → Q H) : Q H := by
  obtain ⟨a, vs, h1, h2, h3, nbx, oth, rp, S'⟩ := S.freeze h
  refine run _ S' fun Hf1' H' f s => ?_
  have bxe : ∀ b, Bx Γ b → Bx (Γ.set i (.d (cList c) xs)) b := fun b ⟨j, hj⟩ => ⟨j, by
    rw [List.getElem?_set_ne (fun z => by subst z; rw [h] at hj; cases hj)]; exact hj⟩
  have bxb : ∀ b, Bx (Γ.set i (.d (cList c) xs)) b → Bx Γ b := fun b hb => boxLt hb
  have F : Fr (Bx Γ) Hf H (fun b => if b = a then none else Hf1' b) H' := by
    refine ⟨fun b o e => ?_, fun b o e nm => f.keep b o e fun z => nm (bxb b z), fun b o e nm z => ?_, f.dom⟩
    · have nb := ne_of_none e h3
      show (if b = a then none else Hf1' b) = some o
      rw [if_neg nb]; exact f.ex b o (by rw [upd_ne nb]; exact e)
    · show (if b = a then none else Hf1' b) = none
      by_cases nb : b = a
      · rw [if_pos nb]
      · rw [if_neg nb]; exact f.fz b o e (fun w => nm (bxb b w)) (by rw [upd_ne nb]; exact z)
  refine ⟨_, F, S.grow F (fun b o e => ?_) fun b hb => ?_⟩
  · have e' : (if b = a then none else Hf1' b) = some o := e
    by_cases nb : b = a
    · rw [if_pos nb] at e'; cases e'
    · rw [if_neg nb] at e'; exact s.ex b o e'
  · obtain ⟨j, hj⟩ := bxe b hb
    obtain ⟨_, z2, z3⟩ := s.at_ j _ hj
    refine ⟨?_, z3⟩
    show (if b = a then none else Hf1' b) = none
    by_cases nb : b = a
    · rw [if_pos nb]
    · rw [if_neg nb]; exact z2
theorem td_view {i : Nat} {xs : List α} (h : Γ[i]? = some (.l c xs)) (fl : Flat c') {P : β → Prop} (ht : TD te (Γ.set i (.d (cList c) xs)) k c' P) : TD te Γ k c' P := fun O n σ Hf H hn S Q q => by
  refine S.view (m := n + k) h (Q := fun H => te σ H Q) fun Hf1 S1 back => ?_
  refine ht O n σ Hf1 H hn S1 Q fun v Hf' H' x px r f s => ?_
  obtain ⟨Hf2, F, S2⟩ := back Hf' H' f s
  exact q v Hf2 H' x px (fl _ _ _ _ r) F S2
theorem tt_view {i : Nat} {xs : List α} {P : Bool → Prop} (h : Γ[i]? = some (.l c xs)) (ht : TDT tt (Γ.set i (.d (cList c) xs)) k P) : TDT tt Γ k P := fun O n σ Hf H hn S Q q => by
  refine S.view (m := n + k) h (Q := fun H => tt σ H Q) fun Hf1 S1 back => ?_
  refine ht O n σ Hf1 H hn S1 Q fun b Hf' H' px f s => ?_
  obtain ⟨Hf2, F, S2⟩ := back Hf' H' f s
  exact q b Hf2 H' px F S2
theorem ixN_nat {n j : Nat} (h : j < n) (h2 : n ≤ LB) : ixN n (j : Int) = some j := by
  unfold ixN
  unfold LB at h2
  simp
  omega
end
end DL

set_option Elab.async false
set_option linter.all false
set_option maxRecDepth 100000
set_option maxHeartbeats 2000000
namespace DL
open PySem PySem.Spec L2
/-! ### promises -/
/-- parameters: data, and at most one box; kf: how often it draws at most -/
def spD {A ρ : Type} (ps : Addr → A → Ctxt) (kf : A → Nat) (pre : A → Prop) (c : Cod ρ) (P : A → ρ → Prop) : Sp := fun vs H Q _ =>
  ∃ (a : A) (b : Addr) (n : Nat) (Hf : Hp), pre a ∧ n + kf a ≤ LIM ∧ Ex Hf H ∧ ArgsOk Hf vs (ps b a) ∧ (∀ z, Sl.bx z ∈ ps b a → Hf z = none ∧ BoxAt H z n) ∧
    ∀ v Hf' H' x, P a x → c.rep Hf' v x → Fr (fun z => Sl.bx z ∈ ps b a) Hf H Hf' H' → Ex Hf' H' → (∀ z, Sl.bx z ∈ ps b a → Hf' z = none ∧ BoxAt H' z (n + kf a)) → Q v H'
/-- .. that draws nothing and gives f of its arguments -/
abbrev spP {A ρ : Type} (ps : A → Ctxt) (pre : A → Prop) (c : Cod ρ) (f : A → ρ) : Sp := spD (fun _ => ps) (fun _ => 0) pre c (fun a x => x = f a)
/-- at most one box -/
def NoB : Ctxt → Prop
  | [] => True
  | .bx _ :: _ => False
  | _ :: r => NoB r
def OneB : Ctxt → Prop
  | [] => True
  | .bx _ :: r => NoB r
  | _ :: r => OneB r
theorem noB_at : ∀ {Γ : Ctxt} {i : Nat} {a : Addr}, NoB Γ → Γ[i]? ≠ some (.bx a)
  | [], i, a, _, h => by simp at h
  | s :: r, 0, a, h, e => by
    simp at e
    subst e
    exact h
  | s :: r, i + 1, a, h, e => by
    have h' : NoB r := by cases s <;> first | exact h | exact h.elim
    exact noB_at (i := i) h' (by simpa using e)
theorem oneB_at : ∀ {Γ : Ctxt} {i j : Nat} {a b : Addr}, OneB Γ → Γ[i]? = some (.bx a) → Γ[j]? = some (.bx b) → i = j
  | [], i, _, _, _, _, h, _ => by simp at h
  | s :: r, 0, 0, _, _, _, _, _ => rfl
  | s :: r, 0, j + 1, a, b, h, e, e2 => by
    simp at e
    subst e
    exact absurd (show r[j]? = some (.bx b) by simpa using e2) (noB_at h)
  | s :: r, i + 1, 0, a, b, h, e, e2 => by
    simp at e2
    subst e2
    exact absurd (show r[i]? = some (.bx a) by simpa using e) (noB_at h)
  | s :: r, i + 1, j + 1, a, b, h, e, e2 => by
    have : i = j := by
      cases s with
      | bx z => exact absurd (show r[i]? = some (.bx a) by simpa using e) (noB_at h)
      | un => exact oneB_at (Γ := r) h (by simpa using e) (by simpa using e2)
      | d c x => exact oneB_at (Γ := r) h (by simpa using e) (by simpa using e2)
      | l c x => exact oneB_at (Γ := r) h (by simpa using e) (by simpa using e2)
      | r p => exact oneB_at (Γ := r) h (by simpa using e) (by simpa using e2)
    rw [this]
section
variable {Γ Γ1 Γ2 Γ3 : Ctxt} {k k1 k2 k3 kk kt ke : Nat} {A α β γ ρ : Type} {c : Cod α} {c' : Cod β} {cr : Cod ρ} {c1 : Cod α} {c2 : Cod β} {c3 : Cod γ} {P : α → Prop} {te to ti : TE} {tt : TT} {t u : TS} {p : Po ρ} {ta tx : TA}
variable {O : Org} {Hf H Hf' H' : Hp} {σ : Stt} {n m : Nat} {ps : Addr → A → Ctxt} {kf : A → Nat} {pre : A → Prop} {PR : A → ρ → Prop}
theorem argsOk_at : ∀ {vs : List V} {as : Ctxt} {i : Nat} {s : Sl}, ArgsOk Hf vs as → as[i]? = some s → (∃ α, ∃ (c : Cod α) (x : α) (v : V), s = .d c x ∧ vs[i]? = some v ∧ c.rep Hf v x) ∨ ∃ a, s = .bx a ∧ vs[i]? = some (.ref a)
  | [], [], i, s, _, e => by simp at e
  | [], _ :: _, i, s, h, e => h.elim
  | _ :: _, [], i, s, h, e => h.elim
  | v :: vs, s' :: as, 0, s, h, e => by
    simp at e
    subst e
    obtain ⟨h, _⟩ := h
    cases s' with
    | un => exact h.elim
    | d c x => exact .inl ⟨_, c, x, v, rfl, rfl, h⟩
    | l c x => exact h.elim
    | bx a =>
      have h : v = .ref a := h
      subst h
      exact .inr ⟨a, rfl, rfl⟩
    | r p => exact h.elim
  | v :: vs, s' :: as, i + 1, s, h, e => by
    have := argsOk_at (i := i) (s := s) h.2 (by simpa using e)
    simpa using this
theorem argsOk_len : ∀ {vs : List V} {as : Ctxt}, ArgsOk Hf vs as → vs.length = as.length
  | [], [], _ => rfl
  | [], _ :: _, h => h.elim
  | _ :: _, [], h => h.elim
  | _ :: _, _ :: _, h => by rw [List.length_cons, List.length_cons, argsOk_len h.2]
/-- what a callee leaves, seen by the caller -/
theorem Sat.called (S : Sat O Hf H σ Γ n) {as : Ctxt} {k : Nat} (hb : ∀ a, Sl.bx a ∈ as → Bx Γ a) (f : Fr (fun z => Sl.bx z ∈ as) Hf H Hf' H') (ex : Ex Hf' H') (bx : ∀ z, Sl.bx z ∈ as → Hf' z = none ∧ BoxAt H' z (n + k)) :
    Fr (Bx Γ) Hf H Hf' H' ∧ Sat O Hf' H' σ Γ (n + k) := by
  have F : Fr (Bx Γ) Hf H Hf' H' := f.mono fun a h => .inl (hb a h)
  refine ⟨F, S.grow F ex fun a ⟨i, hi⟩ => ?_⟩
  by_cases q : Sl.bx a ∈ as
  · exact bx a q
  · obtain ⟨_, z2, z3⟩ := S.at_ i _ hi
    have z4 := z3
    obtain ⟨_, _, _, _, e, _⟩ := z4
    exact ⟨f.fz a _ e q z2, boxAt_le (boxAt_ex z3 fun o r => f.keep a o r q) (by omega)⟩
theorem td_call {B : Ctxt → Prop} {P' : ρ → Prop} {E : XK} (h : TDA ta Γ k1 B) (hc : ∀ as, B as → ∃ a b, as = ps b a ∧ pre a ∧ kf a ≤ k2 ∧ ∀ x, PR a x → P' x) : TD (tCall (spD ps kf pre cr PR) [] E ta) Γ (k1 + k2) cr P' := fun O n σ Hf H hn S Q q =>
  h O n σ Hf H (by omega) S _ fun vs Hf1 H1 as b o hb f s => by
    obtain ⟨a, bb, e, pa, hk, hp⟩ := hc as b
    subst e
    refine ⟨a, bb, n + k1, Hf1, pa, by omega, s.ex, by rw [List.append_nil]; exact o, fun z hz => ?_, fun v Hf' H' x px r f2 ex bx => ?_⟩
    · obtain ⟨i, hi⟩ := hb z hz
      exact (s.at_ i _ hi).2
    · obtain ⟨F, S2⟩ := s.called hb f2 ex bx
      exact q v Hf' H' x (hp x px) r (f.trans F fun _ z => .inl z) (S2.le (by omega))
/-- instances: what the attributes say -/
def cIns (C : Addr) {ω : Type} (F : Hp → List (Str × V) → ω → Prop) (hm : ∀ {H H' fs y}, Ex H H' → F H fs y → F H' fs y) : Cod ω := ⟨fun H v y => ∃ a dx fs, v = .ref a ∧ H a = some (.ins C dx fs) ∧ F H fs y,
  fun e ⟨a, dx, fs, h1, h2, h3⟩ => ⟨a, dx, fs, h1, e _ _ h2, hm e h3⟩⟩
variable {C : Addr} {ω : Type} {F : Hp → List (Str × V) → ω → Prop} {hm : ∀ {H H' fs y}, Ex H H' → F H fs y → F H' fs y} {K : PySem.W.Frag}
theorem td_fld {f : Str} {y : ω → α} {Py : ω → Prop} (h : TD te Γ k (cIns C F hm) Py) (hC : Cls K C) (hN : NoAttr K C f) (hf : ∀ H fs y0, F H fs y0 → ∃ v, fs.lookup f = some v ∧ c.rep H v (y y0)) : TD (tFld K te f) Γ k c (fun x => ∃ z, Py z ∧ x = y z) := fun O n σ Hf H hn S Q q =>
  h O n σ Hf H hn S _ fun v Hf' H' z pz ⟨a, dx, fs, e1, e2, e3⟩ f s => by
    obtain ⟨w, l, r⟩ := hf _ _ _ e3
    exact ⟨a, C, dx, fs, w, e1, s.ex _ _ e2, hC, hN, l, q w Hf' H' _ ⟨z, pz, rfl⟩ r f s⟩
theorem td_meth {m : Str} {B : Ctxt → Prop} {P' : ρ → Prop} {Py : ω → Prop} {E : XK} (ho : TD te Γ k k1' Py) (hl : ∀ H fs y0, F H fs y0 → fs.lookup m = none) (h : TDA ta Γ k1 B) (hc : ∀ y as, Py y → B as → ∃ a b, .d k1' y :: as = ps b a ∧ pre a ∧ kf a ≤ k2 ∧ ∀ x, PR a x → P' x)
    (ek : k1' = cIns C F hm := by rfl) : TD (tMeth C m (spD ps kf pre cr PR) [] E te ta) Γ (k + k1 + k2) cr P' := fun O n σ Hf H hn S Q q => by
  subst ek
  refine ho O n σ Hf H (by omega) S _ fun v Hf0 H0 y py ry f0 s0 => ?_
  obtain ⟨a, dx, fs, e1, e2, e3⟩ := id ry
  refine ⟨a, dx, fs, e1, s0.ex _ _ e2, hl _ _ _ e3, ?_⟩
  refine h O (n + k) σ Hf0 H0 (by omega) s0 _ fun vs Hf1 H1 as b o hb f s => ?_
  obtain ⟨a', bb, e, pa, hk, hp⟩ := hc y as py b
  have hb' : ∀ z, Sl.bx z ∈ ps bb a' → Bx Γ z := fun z hz => by
    rw [← e] at hz
    rcases List.mem_cons.mp hz with w | w
    · cases w
    · exact hb z w
  refine ⟨a', bb, n + k + k1, Hf1, pa, by omega, s.ex, by rw [← e, List.append_nil]; exact ⟨(cIns C F hm).mono f.ex ry, o⟩, fun z hz => ?_, fun v' Hf' H' x px r f2 ex bx => ?_⟩
  · obtain ⟨i, hi⟩ := hb' z hz
    exact (s.at_ i _ hi).2
  · obtain ⟨F', S2⟩ := s.called hb' f2 ex bx
    exact q v' Hf' H' x (hp x px) r ((f0.trans f fun _ z => .inl z).trans F' fun _ z => .inl z) (S2.le (by omega))
/-! ### the making of an instance -/
/-- __init__'s promise: self is new, of the class at C, without attributes; behind it the attributes say y with P; nothing else of what stood is changed -/
def spI {A ω : Type} (C : Addr) (ps : A → Ctxt) (pre : A → Prop) (F : Hp → List (Str × V) → ω → Prop) (P : A → ω → Prop) : Sp := fun vs H Q _ =>
  ∃ (a : A) (x dx : Addr) (ws : List V) (Hf : Hp), pre a ∧ vs = .ref x :: ws ∧ H x = some (.ins C dx []) ∧ Hf x = none ∧ Ex Hf H ∧ ArgsOk Hf ws (ps a) ∧
    ∀ Hf' H' fs y, P a y → H' x = some (.ins C dx fs) → Hf' x = none → F Hf' fs y → Fr (fun z => z = x) Hf H Hf' H' → Ex Hf' H' → Q .non H'
theorem td_make {psi : A → Ctxt} {Pi : A → ω → Prop} {B : Ctxt → Prop} {P' : ω → Prop} {E : XK} (h : TDA ta Γ k1 B) (hc : ∀ as, B as → NoB as ∧ ∃ a, as = psi a ∧ pre a ∧ ∀ x, Pi a x → P' x) : TD (tMake C (spI C psi pre F Pi) [] E ta) Γ k1 (cIns C F hm) P' := fun O n σ Hf H hn S Q q =>
  h O n σ Hf H hn S _ fun vs Hf1 H1 as b o hb f s x dx hx hdx ne => by
    obtain ⟨nb, a, e, pa, hp⟩ := hc as b
    subst e
    have ex0 : Ex Hf1 (upd (upd H1 dx (.own x)) x (.ins C dx [])) := s.ex.trans ((Ex.new hdx).trans (Ex.new (by rw [upd_ne ne.symm]; exact hx)))
    have fx : Hf1 x = none := s.ex.back hx
    refine ⟨a, x, dx, vs, Hf1, pa, by rw [List.append_nil], upd_same, fx, ex0, o, fun Hf' H' fs y py hH hf hF fr ex => ⟨rfl, ?_⟩⟩
    have f1 : Fr (fun z => z = x) Hf1 H1 Hf' H' := by
      refine Fr.trans (M := fun z => z = x) (Fr.trans (M := fun z => z = x) (Hf1 := Hf1) (H1 := upd H1 dx (.own x)) (Fr.newO hdx) (Fr.newO (M := fun z => z = x) (by rw [upd_ne ne.symm]; exact hx)) fun _ z => .inl z) fr fun _ z => .inl z
    have f2 : Fr (Bx Γ) Hf1 H1 Hf' H' := f1.mono fun z e => .inr (by subst e; exact hx)
    have f3 : Fr (Bx Γ) Hf1 H1 (upd Hf' x (.ins C dx fs)) H' := f2.fix hx hf hH
    refine q _ _ _ y (hp y py) ⟨x, dx, fs, rfl, upd_same, hm (Ex.new hf) hF⟩ (f.trans f3 fun _ z => .inl z) ?_
    refine s.grow f3 (ex.fix hH) fun a' ⟨i, hi⟩ => ?_
    obtain ⟨_, z2, z3⟩ := s.at_ i _ hi
    have z4 := z3
    obtain ⟨_, _, _, _, e, _⟩ := z4
    have nx : a' ≠ x := ne_of_none e hx
    exact ⟨by rw [upd_ne nx]; exact f1.fz a' _ e nx z2, boxAt_ex z3 fun o r => f1.keep a' o r nx⟩
/-! ### a def's body -/
theorem ctx_at {as : Ctxt} {N : Nat} {i : Nat} {s : Sl} (h : (as ++ List.replicate N Sl.un)[i]? = some s) : as[i]? = some s ∨ s = .un := by
  by_cases hl : i < as.length
  · rw [List.getElem?_append_left hl] at h; exact .inl h
  · rw [List.getElem?_append_right (by omega)] at h
    exact .inr (List.eq_of_mem_replicate (List.mem_of_getElem? h))
theorem start_at {N : List Str} {vs : List V} {i : Nat} {v : V} (h : vs[i]? = some v) : (start N vs)[i]? = some (some v) := by
  unfold L2.start
  have hl : i < vs.length := (List.getElem?_eq_some_iff.mp h).1
  rw [List.getElem?_append_left (by rw [List.length_map]; exact hl), List.getElem?_map, h]; rfl
/-- the context at a def's entry -/
def entry (N : List Str) (as : Ctxt) : Ctxt := as ++ List.replicate (N.length - as.length) .un
theorem sat_entry {N : List Str} {vs : List V} {as : Ctxt} (hl : as.length ≤ N.length) (o : ArgsOk Hf vs as) (one : OneB as) (ex : Ex Hf H) (bx : ∀ z, Sl.bx z ∈ as → Hf z = none ∧ BoxAt H z n) :
    Sat ⟨fun z => Sl.bx z ∈ as, Hf, H⟩ Hf H (start N vs) (entry N as) n where
  len := by
    have := argsOk_len o
    unfold L2.start entry
    rw [List.length_append, List.length_append, List.length_map, List.length_replicate, List.length_replicate, this]
  ex := ex
  at_ := fun i s h => by
    rcases ctx_at h with h | h
    · rcases argsOk_at o h with ⟨α, c, x, v, rfl, hv, r⟩ | ⟨a, rfl, hv⟩
      · exact ⟨v, start_at hv, r⟩
      · have hm : Sl.bx a ∈ as := List.mem_of_getElem? h
        exact ⟨start_at hv, (bx a hm).1, (bx a hm).2⟩
    · subst h; trivial
  sep := fun i j si sj a ne h1 h2 o1 o2 e => by
    rcases ctx_at h1 with h1 | h1
    · rcases ctx_at h2 with h2 | h2
      · rcases argsOk_at o h1 with ⟨_, _, _, _, rfl, _⟩ | ⟨b, rfl, hv⟩
        · cases o1
        rcases argsOk_at o h2 with ⟨_, _, _, _, rfl, _⟩ | ⟨b', rfl, hv'⟩
        · cases o2
        exact absurd (oneB_at one h1 h2) ne
      · subst h2; cases o2
    · subst h1; cases o1
  fr := Fr.refl
  mine := fun a ⟨i, s, h1, h2, h3⟩ => by
    rcases ctx_at h1 with h1 | h1
    · rcases argsOk_at o h1 with ⟨_, _, _, _, rfl, _⟩ | ⟨b, rfl, hv⟩
      · cases h2
      · rw [start_at hv] at h3
        injection h3 with h3; injection h3 with h3; injection h3 with h3
        subst h3
        exact .inl (List.mem_of_getElem? h1)
    · subst h1; cases h2
/-- the reading of a body gives the promise -/
theorem body_ok {N : List Str} {vs : List V} {Q : VK} {ts : TS} {a : A} {b : Addr} (hl : (ps b a).length ≤ N.length) (one : OneB (ps b a)) (hn : n + kf a ≤ LIM) (ex : Ex Hf H) (o : ArgsOk Hf vs (ps b a)) (bx : ∀ z, Sl.bx z ∈ ps b a → Hf z = none ∧ BoxAt H z n)
    (q : ∀ v Hf' H' x, PR a x → cr.rep Hf' v x → Fr (fun z => Sl.bx z ∈ ps b a) Hf H Hf' H' → Ex Hf' H' → (∀ z, Sl.bx z ∈ ps b a → Hf' z = none ∧ BoxAt H' z (n + kf a)) → Q v H')
    (hs : HS ts (entry N (ps b a)) (kf a) { N := fun _ => False, bk := fun _ => False, ct := fun _ => False, c := cr, R := PR a }) : ts { nx := fun _ H' => Q .non H', rt := Q } (start N vs) H :=
  hs _ n _ Hf H hn (sat_entry hl o one ex bx) _ (fun _ _ _ _ z _ => z.elim) (fun _ _ _ _ z _ => z.elim) (fun _ _ _ _ z _ => z.elim) fun v σ' Hf' H' Γ' x px r f => q v Hf' H' x px r f.sat.fr f.sat.ex fun z hz => by
    obtain ⟨i, hi⟩ := List.getElem?_of_mem hz
    have hi' : (entry N (ps b a))[i]? = some (.bx z) := by
      unfold entry
      rw [List.getElem?_append_left (List.getElem?_eq_some_iff.mp hi).1]; exact hi
    exact (f.sat.at_ i _ (f.bx i z hi')).2
end
end DL

set_option Elab.async false
set_option linter.all false
set_option maxRecDepth 100000
set_option maxHeartbeats 2000000
namespace DL
open PySem PySem.Spec L2
/-! ### where a piece of the text stands -/
structure Stc where
  N : List Str
  sc : Scope
  K : PySem.W.Frag
  mg : Str → Option Value
  prog : Program
  w : World
  base : Heap
  lv : Nat
  fn : Str → Bool
  /-- it is known that nothing is being shown -/
  gd : Bool
structure Good (S : Stc) (X : Cx) : Prop where
  N : X.N = S.N
  sc : X.env.scope = S.sc
  K : X.K = S.K
  mg : X.mg = S.mg
  prog : X.prog = S.prog
  w : X.w = S.w
  base : X.base = S.base
  calm : X.calm = true
  room : Room S.lv X.A
  fn : X.fn = S.fn
  nox : X.xe = fun _ _ => False
  nd : S.N.Nodup
  gd : S.gd = true → X.A.guards = some []
abbrev Stc.blk (S : Stc) (scope : Scope) : Stc := { S with sc := relS scope S.sc, fn := fun x => scope.names.lookup x == some .cell, gd := false }
theorem Good.blk {S : Stc} {X : Cx} (G : Good S X) (scope : Scope) (s : Shared) (H : Hp) (C : Addr) (cl : List (Str × Addr)) (fp : List Addr) : Good (S.blk scope) (X.blk s H scope (compEnvC scope cl C X.env) fp) where
  N := G.N
  sc := by
    show relS scope X.env.scope = relS scope S.sc
    rw [G.sc]
  K := G.K
  mg := G.mg
  prog := G.prog
  w := G.w
  base := G.base
  calm := G.calm
  room := G.room
  fn := rfl
  nox := rfl
  nd := G.nd
  gd := fun h => nomatch h
variable {S : Stc} {X : Cx}
def tE (S : Stc) (e : Expr) : TE := fun σ H Q => ∃ t, (∀ X, Good S X → PE X e t) ∧ t σ H Q
def tT (S : Stc) (e : Expr) : TT := fun σ H Q => ∃ t, (∀ X, Good S X → PT X e t) ∧ t σ H Q
def tWt (S : Stc) (e : Expr) : TT := fun σ H Q => ∃ t, (∀ X, Good S X → PW X e t) ∧ t σ H Q
def tTs (S : Stc) (es : List Expr) : TT := fun σ H Q => ∃ t, (∀ X, Good S X → PTs X es t) ∧ t σ H Q
def tA (S : Stc) (es : List Expr) : TA := fun σ H Q => ∃ t, (∀ X, Good S X → PA X es t) ∧ t σ H Q
def tK (S : Stc) (es : List Keyword) : TA := fun σ H Q => ∃ t, (∀ X, Good S X → PK X es t) ∧ t σ H Q
def tI (S : Stc) (tg e : Expr) : TI := fun σ H R => ∃ t, (∀ X, Good S X → PI X tg e t) ∧ t σ H R
def tGt (S : Stc) (e : Expr) : TG := fun v σ H Q => ∃ t, (∀ X, Good S X → PG X e t) ∧ t v σ H Q
def tGts (S : Stc) (es : List Expr) : TGs := fun v σ H Q => ∃ t, (∀ X, Good S X → PGs X es t) ∧ t v σ H Q
def tS1 (S : Stc) (st : Stmt) : TS := fun D σ H => ∃ t, (∀ X, Good S X → PS X st t) ∧ t D σ H
def tSs (S : Stc) (st : List Stmt) : TS := fun D σ H => ∃ t, (∀ X, Good S X → PSs X st t) ∧ t D σ H
theorem tE_ok (G : Good S X) {e : Expr} : PE X e (tE S e) := ⟨fun pins s σ H Q I ⟨t, ht, h⟩ => (ht X G).run pins s σ H Q I h⟩
theorem tT_ok (G : Good S X) {e : Expr} : PT X e (tT S e) := ⟨fun pins s σ H Q I ⟨t, ht, h⟩ => (ht X G).run pins s σ H Q I h⟩
theorem tWt_ok (G : Good S X) {e : Expr} : PW X e (tWt S e) := ⟨fun w pins s σ H Q I ⟨t, ht, h⟩ => (ht X G).run w pins s σ H Q I h⟩
theorem tTs_ok (G : Good S X) {e : List Expr} : PTs X e (tTs S e) := ⟨fun pins s σ H Q I ⟨t, ht, h⟩ => (ht X G).run pins s σ H Q I h⟩
theorem tA_ok (G : Good S X) {e : List Expr} : PA X e (tA S e) := ⟨fun pos pins s σ H Q I ⟨t, ht, h⟩ => (ht X G).run pos pins s σ H Q I h⟩
theorem tK_ok (G : Good S X) {e : List Keyword} : PK X e (tK S e) := ⟨fun pos pins s σ H Q I ⟨t, ht, h⟩ => (ht X G).run pos pins s σ H Q I h⟩
theorem tI_ok (G : Good S X) {tg e : Expr} : PI X tg e (tI S tg e) := ⟨fun pins s σ H Q I ⟨t, ht, h⟩ => (ht X G).run pins s σ H Q I h⟩
theorem tGt_ok (G : Good S X) {e : Expr} : PG X e (tGt S e) := ⟨fun pins s σ H v u Q I r ⟨t, ht, h⟩ => (ht X G).run pins s σ H v u Q I r h⟩
theorem tGts_ok (G : Good S X) {e : List Expr} : PGs X e (tGts S e) := ⟨fun pins s σ H v u Q I r ⟨t, ht, h⟩ => (ht X G).run pins s σ H v u Q I r h⟩
theorem tS1_ok (G : Good S X) {e : Stmt} : PS X e (tS1 S e) := ⟨fun pins s σ H D I ⟨t, ht, h⟩ => (ht X G).run pins s σ H D I h⟩
theorem tSs_ok (G : Good S X) {e : List Stmt} : PSs X e (tSs S e) := ⟨fun pins s σ H D I ⟨t, ht, h⟩ => (ht X G).run pins s σ H D I h⟩
/-! ### judgements on the text -/
abbrev PD {α : Type} (S : Stc) (Γ : Ctxt) (k : Nat) (e : Expr) (c : Cod α) (P : α → Prop) : Prop := TD (tE S e) Γ k c P
abbrev PDF {α : Type} (S : Stc) (Γ : Ctxt) (k : Nat) (e : Expr) (c : Cod α) (P : List α → Prop) : Prop := TDF (tE S e) Γ k c P
abbrev PDT (S : Stc) (Γ : Ctxt) (k : Nat) (e : Expr) (P : Bool → Prop) : Prop := TDT (tT S e) Γ k P
abbrev PDW (S : Stc) (Γ : Ctxt) (k : Nat) (e : Expr) (P : Bool → Prop) : Prop := TDT (tWt S e) Γ k P
abbrev PDA (S : Stc) (Γ : Ctxt) (k : Nat) (es : List Expr) (B : Ctxt → Prop) : Prop := TDA (tA S es) Γ k B
abbrev PDK (S : Stc) (Γ : Ctxt) (k : Nat) (es : List Keyword) (B : Ctxt → Prop) : Prop := TDA (tK S es) Γ k B
abbrev PDI {α : Type} (S : Stc) (Γ : Ctxt) (k : Nat) (tg e : Expr) (c : Cod α) (P : List α → Prop) : Prop := TW (tI S tg e) Γ k c P
abbrev PDG {α : Type} (S : Stc) (g : Expr) (c : Cod α) (x : α) (Γ Γ' : Ctxt) (is : List Nat) : Prop := GD (tGt S g) c x Γ Γ' is
abbrev PH {ρ : Type} (S : Stc) (Γ : Ctxt) (k : Nat) (st : Stmt) (p : Po ρ) : Prop := HS (tS1 S st) Γ k p
abbrev PHs {ρ : Type} (S : Stc) (Γ : Ctxt) (k : Nat) (st : List Stmt) (p : Po ρ) : Prop := HS (tSs S st) Γ k p
section
variable {Γ Γ1 Γ2 Γ3 : Ctxt} {k k1 k2 k3 kk kt ke : Nat} {A α β γ ρ : Type} {c : Cod α} {c' : Cod β} {cr : Cod ρ} {c1 : Cod α} {c2 : Cod β} {c3 : Cod γ} {P P1 : α → Prop} {P2 : β → Prop} {P3 : γ → Prop} {te to ti : TE} {tt : TT} {t u : TS} {p : Po ρ} {ta tx : TA} {e a b d : Expr} {es : List Expr} {pos pos' : Pos}
theorem pd_of {te : TE} (ht : ∀ X, Good S X → PE X e te) (h : TD te Γ k c P) : PD S Γ k e c P := fun O n σ Hf H hn s Q q => ⟨te, ht, h O n σ Hf H hn s Q q⟩
theorem pdf_of {te : TE} {P : List α → Prop} (ht : ∀ X, Good S X → PE X e te) (h : TDF te Γ k c P) : PDF S Γ k e c P := fun O n σ Hf H hn s Q q => ⟨te, ht, h O n σ Hf H hn s Q q⟩
theorem pdt_of {tt : TT} {P : Bool → Prop} (ht : ∀ X, Good S X → PT X e tt) (h : TDT tt Γ k P) : PDT S Γ k e P := fun O n σ Hf H hn s Q q => ⟨tt, ht, h O n σ Hf H hn s Q q⟩
theorem pdw_of {tt : TT} {P : Bool → Prop} (ht : ∀ X, Good S X → PW X e tt) (h : TDT tt Γ k P) : PDW S Γ k e P := fun O n σ Hf H hn s Q q => ⟨tt, ht, h O n σ Hf H hn s Q q⟩
theorem pda_of {ta : TA} {B : Ctxt → Prop} (ht : ∀ X, Good S X → PA X es ta) (h : TDA ta Γ k B) : PDA S Γ k es B := fun O n σ Hf H hn s Q q => ⟨ta, ht, h O n σ Hf H hn s Q q⟩
theorem pdi_of {wi : TI} {tg : Expr} {P : List α → Prop} (ht : ∀ X, Good S X → PI X tg e wi) (h : TW wi Γ k c P) : PDI S Γ k tg e c P := fun O n σ Hf H hn s R q => ⟨wi, ht, h O n σ Hf H hn s R q⟩
theorem pdg_of {g : TG} {x : α} {is : List Nat} (ht : ∀ X, Good S X → PG X e g) (h : GD g c x Γ Γ1 is) : PDG S e c x Γ Γ1 is := ⟨h.1, h.2.1, fun O n σ Hf H v r s Q q => ⟨g, ht, h.2.2 O n σ Hf H v r s Q q⟩⟩
theorem ph_of {ts : TS} {st : Stmt} (ht : ∀ X, Good S X → PS X st ts) (h : HS ts Γ k p) : PH S Γ k st p := fun O n σ Hf H hn s D q1 q2 q3 q4 => ⟨ts, ht, h O n σ Hf H hn s D q1 q2 q3 q4⟩
theorem phs_of {ts : TS} {sts : List Stmt} (ht : ∀ X, Good S X → PSs X sts ts) (h : HS ts Γ k p) : PHs S Γ k sts p := fun O n σ Hf H hn s D q1 q2 q3 q4 => ⟨ts, ht, h O n σ Hf H hn s D q1 q2 q3 q4⟩
/-! ### names, constants -/
theorem vis (G : Good S X) {x : Str} (h : Vis S.sc x) : Vis X.env.scope x := by rw [G.sc]; exact h
theorem loc (G : Good S X) {x : Str} (h : Loc S.sc x) : Loc X.env.scope x := by rw [G.sc]; exact h
theorem glb (G : Good S X) {x : Str} (h : S.sc.names.lookup x = some .globalImplicit) : Gl X x := by
  show X.env.scope.names.lookup x = _
  rw [G.sc]; exact h
theorem pe_slot (G : Good S X) {i : Nat} {x : Str} (hN : S.N[i]? = some x) (hv : Vis S.sc x) (hd : (x == ("__debug__" : Str)) = false := by decide) (hcd : (x == ("__classdict__" : Str)) = false := by decide) : PE X (.Name x pos) (tVar i) := pe_var (by rw [G.N]; exact hN) (vis G hv) hd hcd
theorem pd_name {i : Nat} {x : Str} {y : α} (hΓ : Γ[i]? = some (.d c y)) (hN : S.N[i]? = some x) (hv : Vis S.sc x) (hd : (x == ("__debug__" : Str)) = false := by decide) (hcd : (x == ("__classdict__" : Str)) = false := by decide) : PD S Γ 0 (.Name x pos) c (· = y) :=
  pd_of (fun X G => pe_slot G hN hv hd hcd) (td_var hΓ)
theorem pd_int {i : Int} {j : Nat} : PD S Γ 0 (.Constant (.int i) j pos) cInt (· = i) := pd_of (fun X G => pe_int) (td_c fun _ => rfl)
theorem pd_bool {i : Bool} {j : Nat} : PD S Γ 0 (.Constant (.bool i) j pos) cBool (· = i) := pd_of (fun X G => pe_bl) (td_c fun _ => rfl)
theorem pd_str {i : Str} {j : Nat} : PD S Γ 0 (.Constant (.str i) j pos) cStr (· = i) := pd_of (fun X G => pe_str) (td_c fun _ => rfl)
theorem pd_none {j : Nat} : PD S Γ 0 (.Constant .none j pos) cNon (· = ()) := pd_of (fun X G => pe_non) (td_c fun _ => rfl)
/-- a module's constant -/
theorem pd_glob {x : Str} {v : V} {u : Value} {y : α} (hg : S.sc.names.lookup x = some .globalImplicit) (hm : S.mg x = some u) (r : RelV v u) (hc : ∀ H, c.rep H v y) (hd : (x == ("__debug__" : Str)) = false := by decide) : PD S Γ 0 (.Name x pos) c (· = y) :=
  pd_of (fun X G => pe_glob (glb G hg) (by rw [G.mg]; exact hm) r hd) (td_c hc)
/-! ### operators -/
theorem pd_bin {op : Operator} {r : R2} (ho : ∀ X, Good S X → OpR X (binaryOp op) r) (ha : PD S Γ k1 a c1 P1) (hb : PD S Γ k2 b c2 P2) (hr : ∀ x y, P1 x → P2 y → RD r c1 x c2 y c3 P3) : PD S Γ (k1 + k2) (.BinOp a op b pos) c3 P3 :=
  pd_of (fun X G => pe_op (ho X G) (tE_ok G) (tE_ok G)) (td_op ha hb hr)
theorem pd_un {op : UnaryOp} {r : V → Hp → VK → Prop} (ho : ∀ X, Good S X → UnR X (unaryOp op) r) (ha : PD S Γ k1 a c1 P1) (hr : ∀ x, P1 x → RU1 r c1 x c3 P3) : PD S Γ k1 (.UnaryOp op a pos) c3 P3 :=
  pd_of (fun X G => pe_un (ho X G) (tE_ok G)) (td_un ha hr)
theorem pd_cmp {op : CmpOp} {r : R2} {P3 : Bool → Prop} (ho : ∀ X, Good S X → OpR X (compareOp op) r) (ha : PD S Γ k1 a c1 P1) (hb : PD S Γ k2 b c2 P2) (hr : ∀ x y, P1 x → P2 y → RD r c1 x c2 y cBool P3) (hm : behindInMarks op b = false) : PD S Γ (k1 + k2) (.Compare a [op] [b] pos) cBool P3 :=
  pd_of (fun X G => pe_cmpR (ho X G) (tE_ok G) (tE_ok G) hm) (td_op ha hb hr)
theorem pdt_cmp {op : CmpOp} {r : R2} {P3 : Bool → Prop} (ho : ∀ X, Good S X → OpR X (compareOp op) r) (ha : PD S Γ k1 a c1 P1) (hb : PD S Γ k2 b c2 P2) (hr : ∀ x y, P1 x → P2 y → RD r c1 x c2 y cBool P3) (hm : behindInMarks op b = false) : PDT S Γ (k1 + k2) (.Compare a [op] [b] pos) P3 :=
  pdt_of (fun X G => pt_cmpR (ho X G) (tE_ok G) (tE_ok G) hm) (tt_test (td_op ha hb hr))
/-- a value that is a bool, as a test -/
theorem pdt_val {P : Bool → Prop} (h : PD S Γ k e cBool P) (he : ∀ (env : Env) whole, isTrue e env whole = (do let v ← whole; standAt e.pos; holding [v] (truthy v))) : PDT S Γ k e P :=
  pdt_of (fun X G => pt_val (tE_ok G) (he _)) (tt_B h)
theorem pdt_not {b : Bool} (h : PDT S Γ k a (· = b)) : PDT S Γ k (.UnaryOp .Not a pos) (· = !b) := pdt_of (fun X G => pt_not (tT_ok G)) (tt_not' h)
theorem pdt_w {P : Bool → Prop} (h : PDW S Γ k e P) : PDT S Γ k e P := pdt_of (fun X G => (tWt_ok G).pt) h
theorem pdw_and1 {P : Bool → Prop} (h : PDT S Γ k a P) : PDW S Γ k (.BoolOp .And [a] pos) P := pdw_of (fun X G => pw_and1 (tT_ok G)) h
theorem pdw_or1 {P : Bool → Prop} (h : PDT S Γ k a P) : PDW S Γ k (.BoolOp .Or [a] pos) P := pdw_of (fun X G => pw_or1 (tT_ok G)) h
theorem pdw_and {x y : Bool} {rest : List Expr} (h1 : PDT S Γ k1 a (· = x)) (h2 : x = true → PDW S Γ k2 (.BoolOp .And (b :: rest) pos) (· = y)) : PDW S Γ (k1 + k2) (.BoolOp .And (a :: b :: rest) pos) (· = (x && y)) :=
  pdw_of (fun X G => pw_and (tT_ok G) (tWt_ok G)) (tt_and' h1 h2)
theorem pdw_or {x y : Bool} {rest : List Expr} (h1 : PDT S Γ k1 a (· = x)) (h2 : x = false → PDW S Γ k2 (.BoolOp .Or (b :: rest) pos) (· = y)) : PDW S Γ (k1 + k2) (.BoolOp .Or (a :: b :: rest) pos) (· = (x || y)) :=
  pdw_of (fun X G => pw_or (tT_ok G) (tWt_ok G)) (tt_or' h1 h2)
theorem pd_and {x y : Bool} {rest : List Expr} (h1 : PD S Γ k1 a cBool (· = x)) (h2 : x = true → PD S Γ k2 (.BoolOp .And (b :: rest) pos) cBool (· = y)) : PD S Γ (k1 + k2) (.BoolOp .And (a :: b :: rest) pos) cBool (· = (x && y)) :=
  pd_of (fun X G => pe_and (tE_ok G) (tE_ok G)) (td_andV' h1 h2)
theorem pd_or {x y : Bool} {rest : List Expr} (h1 : PD S Γ k1 a cBool (· = x)) (h2 : x = false → PD S Γ k2 (.BoolOp .Or (b :: rest) pos) cBool (· = y)) : PD S Γ (k1 + k2) (.BoolOp .Or (a :: b :: rest) pos) cBool (· = (x || y)) :=
  pd_of (fun X G => pe_or (tE_ok G) (tE_ok G)) (td_orV' h1 h2)
theorem pd_one {op : BoolOp} (h : PD S Γ k a c P) : PD S Γ k (.BoolOp op [a] pos) c P := pd_of (fun X G => pe_one (tE_ok G)) h
theorem pd_not {b : Bool} (h : PD S Γ k a cBool (· = b)) : PD S Γ k (.UnaryOp .Not a pos) cBool (· = !b) := pd_of (fun X G => pe_not (tE_ok G)) (td_notV' h)
theorem pd_if {b' : Bool → Prop} (h : PDT S Γ k1 d b') (ha : b' true → PD S Γ k2 a c P) (hb : b' false → PD S Γ k3 b c P) : PD S Γ (k1 + max k2 k3) (.IfExp d a b pos) c P := pd_of (fun X G => pe_ifExp (tT_ok G) (tE_ok G) (tE_ok G)) (td_if h ha hb)
/-! ### arguments, displays -/
theorem pda_nil : PDA S Γ 0 [] (· = []) := pda_of (fun X G => pa_nil) ta_nil
theorem pda_cons {B : Ctxt → Prop} (h : PD S Γ k1 e c P) (hr : PDA S Γ k2 es B) (hs : ∀ env : Env, starEach (e :: es) env = (false, eval e env) :: starEach es env) : PDA S Γ (k1 + k2) (e :: es) (fun as => ∃ x r, P x ∧ B r ∧ as = .d c x :: r) :=
  pda_of (fun X G => pa_cons (tE_ok G) (tA_ok G) (hs _)) (ta_cons h hr)
theorem pda_box {B : Ctxt → Prop} {i : Nat} {x : Str} {z : Addr} (hΓ : Γ[i]? = some (.bx z)) (hN : S.N[i]? = some x) (hv : Vis S.sc x) (hr : PDA S Γ k2 es B) (hd : (x == ("__debug__" : Str)) = false := by decide) (hcd : (x == ("__classdict__" : Str)) = false := by decide) : PDA S Γ k2 (.Name x pos :: es) (fun as => ∃ r, B r ∧ as = .bx z :: r) :=
  pda_of (fun X G => pa_cons (pe_slot G hN hv hd hcd) (tA_ok G) rfl) (ta_box hΓ hr)
/-- the pure ones -/
theorem pda_one {x : α} (h : PD S Γ k e c (· = x)) (hs : ∀ env : Env, starEach [e] env = (false, eval e env) :: starEach [] env) : PDA S Γ (k + 0) [e] (· = [.d c x]) := (pda_cons h pda_nil hs).imp fun as ⟨y, r, h1, h2, h3⟩ => by subst h1 h2; exact h3
theorem pda_more {x : α} {l : Ctxt} (h : PD S Γ k1 e c (· = x)) (hr : PDA S Γ k2 es (· = l)) (hs : ∀ env : Env, starEach (e :: es) env = (false, eval e env) :: starEach es env) : PDA S Γ (k1 + k2) (e :: es) (· = .d c x :: l) := (pda_cons h hr hs).imp fun as ⟨y, r, h1, h2, h3⟩ => by subst h1 h2; exact h3
theorem pda_boxp {i : Nat} {x : Str} {z : Addr} {l : Ctxt} (hΓ : Γ[i]? = some (.bx z)) (hN : S.N[i]? = some x) (hv : Vis S.sc x) (hr : PDA S Γ k2 es (· = l)) (hd : (x == ("__debug__" : Str)) = false := by decide) (hcd : (x == ("__classdict__" : Str)) = false := by decide) : PDA S Γ k2 (.Name x pos :: es) (· = .bx z :: l) :=
  (pda_box hΓ hN hv hr hd hcd).imp fun as ⟨r, h2, h3⟩ => by subst h2; exact h3
theorem pdf_lst {B : Ctxt → Prop} {R : List α → Prop} (h : PDA S Γ k es B) (hi : ∀ as, B as → ∃ xs : List α, as = xs.map (fun x => Sl.d c x) ∧ xs.length ≤ 1000 ∧ R xs) : PDF S Γ k (.List es pos) c R := pdf_of (fun X G => pe_lst (tA_ok G)) (tdf_lst h hi)
theorem pdf_nil : PDF S Γ 0 (.List [] pos) c (· = []) := pdf_lst pda_nil fun as e => ⟨[], e, by simp, rfl⟩
theorem pd_tupl {kx : Nat} {B : Ctxt → Prop} {R : List α → Prop} (h : PDA S Γ k es B) (hi : ∀ as, B as → ∃ xs : List α, as = xs.map (fun x => Sl.d c x) ∧ xs.length ≤ 1000 ∧ R xs) : PD S Γ k (.Tuple es kx pos) (cTup c) R := pd_of (fun X G => pe_tup (tA_ok G)) (td_tup h hi)
theorem pd_t2 {kx : Nat} (ha : PD S Γ k1 a c1 P1) (hb : PD S Γ k2 b c2 P2) (hs : ∀ env : Env, starEach [a, b] env = (false, eval a env) :: starEach [b] env) (hs2 : ∀ env : Env, starEach [b] env = (false, eval b env) :: starEach [] env) : PD S Γ (k1 + k2) (.Tuple [a, b] kx pos) (cT2 c1 c2) (fun z => P1 z.1 ∧ P2 z.2) :=
  pd_of (fun X G => pe_tup (pa_cons (tE_ok G) (pa_cons (tE_ok G) pa_nil (hs2 _)) (hs _))) (td_t2 ha hb)
theorem pd_t3 {kx : Nat} (ha : PD S Γ k1 a c1 P1) (hb : PD S Γ k2 b c2 P2) (hd : PD S Γ k3 d c3 P3) (hs : ∀ env : Env, starEach [a, b, d] env = (false, eval a env) :: starEach [b, d] env) (hs2 : ∀ env : Env, starEach [b, d] env = (false, eval b env) :: starEach [d] env) (hs3 : ∀ env : Env, starEach [d] env = (false, eval d env) :: starEach [] env) :
    PD S Γ (k1 + k2 + k3) (.Tuple [a, b, d] kx pos) (cT3 c1 c2 c3) (fun z => P1 z.1 ∧ P2 z.2.1 ∧ P3 z.2.2) :=
  pd_of (fun X G => pe_tup (pa_cons (tE_ok G) (pa_cons (tE_ok G) (pa_cons (tE_ok G) pa_nil (hs3 _)) (hs2 _)) (hs _))) (td_t3 ha hb hd)
theorem pd_t2' {kx : Nat} {x : α} {y : β} (ha : PD S Γ k1 a c1 (· = x)) (hb : PD S Γ k2 b c2 (· = y)) (hs : ∀ env : Env, starEach [a, b] env = (false, eval a env) :: starEach [b] env) (hs2 : ∀ env : Env, starEach [b] env = (false, eval b env) :: starEach [] env) : PD S Γ (k1 + k2) (.Tuple [a, b] kx pos) (cT2 c1 c2) (· = (x, y)) :=
  (pd_t2 ha hb hs hs2).imp fun z ⟨h1, h2⟩ => by cases z; subst h1 h2; rfl
theorem pd_t3' {kx : Nat} {x : α} {y : β} {z : γ} (ha : PD S Γ k1 a c1 (· = x)) (hb : PD S Γ k2 b c2 (· = y)) (hd : PD S Γ k3 d c3 (· = z)) (hs : ∀ env : Env, starEach [a, b, d] env = (false, eval a env) :: starEach [b, d] env) (hs2 : ∀ env : Env, starEach [b, d] env = (false, eval b env) :: starEach [d] env) (hs3 : ∀ env : Env, starEach [d] env = (false, eval d env) :: starEach [] env) :
    PD S Γ (k1 + k2 + k3) (.Tuple [a, b, d] kx pos) (cT3 c1 c2 c3) (· = (x, y, z)) :=
  (pd_t3 ha hb hd hs hs2 hs3).imp fun w ⟨h1, h2, h3⟩ => by obtain ⟨w1, w2, w3⟩ := w; subst h1 h2 h3; rfl
/-! ### targets, walks, comprehensions -/
theorem fnOr (G : Good S X) {x : Str} (h : S.fn x = true ∨ S.sc.names.lookup x = some .local) : X.fn x = true ∨ X.env.scope.names.lookup x = some .local := by rw [G.fn, G.sc]; exact h
theorem pdg_name {i : Nat} {x : Str} {y : α} (nb : NoBx Γ i) (hi : S.N[i]? = some x) (hx : Loc S.sc x) (hf : S.fn x = true ∨ S.sc.names.lookup x = some .local) : PDG S (.Name x pos) c y Γ (Γ.set i (.d c y)) [i] :=
  pdg_of (fun X G => pg_name (by rw [G.N]; exact G.nd) (by rw [G.N]; exact hi) (loc G hx) (fnOr G hf)) (gd_name nb)
theorem pdg_t2 {kx : Nat} {x : α × β} {is js : List Nat} (h1 : PDG S a c1 x.1 Γ Γ1 is) (h2 : PDG S b c2 x.2 Γ1 Γ2 js) (hs : ∀ env : Env, (assignEach [a, b] env).map (·.2) = assign a env :: (assignEach [b] env).map (·.2)) (hs2 : ∀ env : Env, (assignEach [b] env).map (·.2) = assign b env :: (assignEach [] env).map (·.2))
    (hn : ∀ env : Env, (assignEach [a, b] env).length = 2) (hst : ∀ env : Env, (assignEach [a, b] env).findIdx? (·.1) = none) : PDG S (.Tuple [a, b] kx pos) (cT2 c1 c2) x Γ Γ2 (is ++ js) :=
  pdg_of (g := gTup S.K 2 (gCons (tGt S a) (gCons (tGt S b) gNil))) (fun X G => by rw [← G.K]; exact pg_tup G.calm (pgs_cons (tGt_ok G) (pgs_cons (tGt_ok G) pgs_nil (hs2 _)) (hs _)) (hn _) (hst _)) (gd_t2 h1 h2)
theorem pdg_t3 {kx : Nat} {x : α × β × γ} {is js ls : List Nat} (h1 : PDG S a c1 x.1 Γ Γ1 is) (h2 : PDG S b c2 x.2.1 Γ1 Γ2 js) (h3 : PDG S d c3 x.2.2 Γ2 Γ3 ls) (hs : ∀ env : Env, (assignEach [a, b, d] env).map (·.2) = assign a env :: (assignEach [b, d] env).map (·.2)) (hs2 : ∀ env : Env, (assignEach [b, d] env).map (·.2) = assign b env :: (assignEach [d] env).map (·.2))
    (hs3 : ∀ env : Env, (assignEach [d] env).map (·.2) = assign d env :: (assignEach [] env).map (·.2)) (hn : ∀ env : Env, (assignEach [a, b, d] env).length = 3) (hst : ∀ env : Env, (assignEach [a, b, d] env).findIdx? (·.1) = none) : PDG S (.Tuple [a, b, d] kx pos) (cT3 c1 c2 c3) x Γ Γ3 (is ++ js ++ ls) :=
  pdg_of (g := gTup S.K 3 (gCons (tGt S a) (gCons (tGt S b) (gCons (tGt S d) gNil)))) (fun X G => by rw [← G.K]; exact pg_tup G.calm (pgs_cons (tGt_ok G) (pgs_cons (tGt_ok G) (pgs_cons (tGt_ok G) pgs_nil (hs3 _)) (hs2 _)) (hs _)) (hn _) (hst _)) (gd_t3 h1 h2 h3)
theorem pdi_list {tg : Expr} {R : List α → Prop} (h : PD S Γ k e (cList c) R) : PDI S Γ k tg e c R := pdi_of (wi := iList S.K (tE S e)) (fun X G => by rw [← G.K]; exact pi_list (tE_ok G)) (tw_list h)
theorem pdi_tup {tg : Expr} {R : List α → Prop} (h : PD S Γ k e (cTup c) R) : PDI S Γ k tg e c R := pdi_of (wi := iTup S.K (tE S e)) (fun X G => by rw [← G.K]; exact pi_tup (tE_ok G)) (tw_tup h)
theorem pdi_range1 {tg : Expr} {pn : Pos} {B : Ctxt → Prop} {R : List Int → Prop} (hg : S.sc.names.lookup ("range" : Str) = some .globalImplicit) (hm : S.mg "range" = none) (h : PDA S Γ k [a] B) (hi : ∀ as, B as → ∃ j : Int, as = [.d cInt j] ∧ -4611686018427387904 ≤ j ∧ j ≤ 1000000 ∧ R (rangeL 0 j.toNat))
    (hs : ∀ env : Env, starEach [a] env = [(false, eval a env)]) : PDI S Γ k tg (.Call (.Name "range" pn) [a] [] pos) cInt R := pdi_of (fun X G => pi_range1 (glb G hg) (by rw [G.mg]; exact hm) (tA_ok G) (hs _)) (tw_range1 h hi)
theorem pdi_range2 {tg : Expr} {pn : Pos} {B : Ctxt → Prop} {R : List Int → Prop} (hg : S.sc.names.lookup ("range" : Str) = some .globalImplicit) (hm : S.mg "range" = none) (h : PDA S Γ k [a, b] B)
    (hi : ∀ as, B as → ∃ i j : Int, as = [.d cInt i, .d cInt j] ∧ -1000000000 ≤ i ∧ i ≤ 1000000000 ∧ -1000000000 ≤ j ∧ j ≤ 1000000000 ∧ j - i ≤ 1000000 ∧ R (rangeL i (j - i).toNat))
    (hs : ∀ env : Env, starEach [a, b] env = [(false, eval a env), (false, eval b env)]) (hs2 : ∀ env : Env, starEach [b] env = [(false, eval b env)]) : PDI S Γ k tg (.Call (.Name "range" pn) [a, b] [] pos) cInt R := pdi_of (fun X G => pi_range2 (glb G hg) (by rw [G.mg]; exact hm) (tA_ok G) (hs _) (hs2 _)) (tw_range2 h hi)
theorem tts_nil : TDT (tTs S []) Γ 0 (· = true) := fun O n σ Hf H hn s Q q => ⟨tYes, fun X G => pts_nil, tt_yes O n σ Hf H hn s Q q⟩
theorem tts_one {P : Bool → Prop} (h : PDT S Γ k e P) : TDT (tTs S [e]) Γ k P := fun O n σ Hf H hn s Q q => ⟨tT S e, fun X G => pts_one (tT_ok G), h O n σ Hf H hn s Q q⟩
abbrev lcRd (S : Stc) (tg iter : Expr) (ifs : List Expr) (elt : Expr) (scope : Scope) (own : List (Str × Nat)) : TE := tLc (tI S tg iter) (tGt (S.blk scope) tg) (tTs (S.blk scope) ifs) (tE (S.blk scope) elt) (own.map (·.2))
theorem pe_lcR (G : Good S X) {elt tg iter : Expr} {ifs : List Expr} {scope : Scope} {own : List (Str × Nat)} (ok : blkC S.N S.sc scope own = true) (hs : ∀ (env : Env) x, foldedSetIterable iter env x = pure x) : PE X (.ListComp elt [⟨tg, iter, ifs, 0⟩] scope pos) (lcRd S tg iter ifs elt scope own) :=
  pe_lc G.calm (by rw [G.N]; exact G.nd) (tI_ok G) (blkOk_by (by rw [G.N, G.sc]; exact ok)) (fun s H C cl fp => tGt_ok (G.blk scope s H C cl fp)) (fun s H C cl fp => tTs_ok (G.blk scope s H C cl fp)) (fun s H C cl fp => tE_ok (G.blk scope s H C cl fp)) (hs _)
theorem pdf_lc {elt tg iter : Expr} {ifs : List Expr} {scope : Scope} {own : List (Str × Nat)} {R : List β → Prop} (ok : blkC S.N S.sc scope own = true) (hs : ∀ (env : Env) x, foldedSetIterable iter env x = pure x) (h : TDF (lcRd S tg iter ifs elt scope own) Γ k c' R) : PDF S Γ k (.ListComp elt [⟨tg, iter, ifs, 0⟩] scope pos) c' R :=
  pdf_of (fun X G => pe_lcR G ok hs) h
/-! ### statements -/
variable {st : Stmt} {sts sts2 : List Stmt} {N1 : Ctxt → Prop}
theorem phs_nil (h : p.N Γ) : PHs S Γ 0 [] p := phs_of (fun X G => pss_nil) (hs_next h)
theorem phs_cons (h1 : PH S Γ k1 st { p with N := N1 }) (h2 : ∀ Γ1, N1 Γ1 → PHs S Γ1 k2 sts p) : PHs S Γ (k1 + k2) (st :: sts) p := phs_of (fun X G => pss_cons (tS1_ok G) (tSs_ok G)) (hs_seq h1 h2)
theorem phs_one (h1 : PH S Γ k1 st p) : PHs S Γ k1 [st] p := phs_of (fun X G => pss_one (tS1_ok G)) h1
theorem ph_ret (h : PD S Γ k e c P) (hr : ∀ H v x, P x → c.rep H v x → ∃ y, p.R y ∧ p.c.rep H v y) : PH S Γ k (.Return (some e) pos) p := ph_of (fun X G => ps_ret (tE_ok G)) (hs_ret h hr)
theorem ph_ret' {R' : ρ → Prop} (h : PD S Γ k e p.c R') (hr : ∀ x, R' x → p.R x) : PH S Γ k (.Return (some e) pos) p := ph_ret h fun H v x px r => ⟨x, hr x px, r⟩
theorem ph_ret_l {i : Nat} {x : Str} {xs : List α} (hΓ : Γ[i]? = some (.l c xs)) (nb : NoBx Γ i) (hN : S.N[i]? = some x) (hv : Vis S.sc x) (hr : ∀ H v, (cList c).rep H v xs → ∃ y, p.R y ∧ p.c.rep H v y) (hd : (x == ("__debug__" : Str)) = false := by decide) (hcd : (x == ("__classdict__" : Str)) = false := by decide) : PH S Γ 0 (.Return (some (.Name x pos')) pos) p :=
  ph_of (fun X G => ps_ret (pe_slot G hN hv hd hcd)) (hs_ret_l hΓ nb hr)
theorem ph_if {b' : Bool → Prop} (h : PDT S Γ k1 e b') (ha : b' true → PHs S Γ k2 sts p) (hb : b' false → PHs S Γ k3 sts2 p) : PH S Γ (k1 + max k2 k3) (.If e sts sts2 pos) p := ph_of (fun X G => ps_if (tT_ok G) (tSs_ok G) (tSs_ok G)) (hs_if h ha hb)
theorem ph_set {i : Nat} {x : Str} (h : PD S Γ k e c P) (nb : NoBx Γ i) (hp : ∀ y, P y → p.N (Γ.set i (.d c y))) (hi : S.N[i]? = some x) (hx : Loc S.sc x) (hs : ∀ env : Env, env.scope = S.sc → swapsWith e (some (.Name x pos')) pos.line env = pure false) (hf : S.fn x = true ∨ S.sc.names.lookup x = some .local) : PH S Γ k (.Assign [.Name x pos'] e pos) p :=
  ph_of (fun X G => ps_set (by rw [G.N]; exact G.nd) (by rw [G.N]; exact hi) (loc G hx) (tE_ok G) (hs _ G.sc) (fnOr G hf)) (hs_set h nb hp)
theorem ph_setL {i : Nat} {x : Str} {R : List α → Prop} (h : PDF S Γ k e c R) (nb : NoBx Γ i) (hp : ∀ y, R y → p.N (Γ.set i (.l c y))) (hi : S.N[i]? = some x) (hx : Loc S.sc x) (hs : ∀ env : Env, env.scope = S.sc → swapsWith e (some (.Name x pos')) pos.line env = pure false) (hf : S.fn x = true ∨ S.sc.names.lookup x = some .local) : PH S Γ k (.Assign [.Name x pos'] e pos) p :=
  ph_of (fun X G => ps_set (by rw [G.N]; exact G.nd) (by rw [G.N]; exact hi) (loc G hx) (tE_ok G) (hs _ G.sc) (fnOr G hf)) (hs_setL h nb hp)
theorem ps_lcR (G : Good S X) {i : Nat} {y : Str} {py spos : Pos} {elt tg iter : Expr} {ifs : List Expr} {scope : Scope} {own : List (Str × Nat)} (hi : S.N[i]? = some y) (hyl : S.sc.names.lookup y = some .local) (hl : (py.line == pos.line) = true) (hk : S.sc.kind = .function)
    (ha : (scope.names.any fun (n, k) => n == y && (k == .local || k == .cell)) = false) (ok : blkC S.N S.sc scope own = true) (hs : ∀ (env : Env) x, foldedSetIterable iter env x = pure x) : PS X (.Assign [.Name y py] (.ListComp elt [⟨tg, iter, ifs, 0⟩] scope pos) spos) (tAsg (lcRd S tg iter ifs elt scope own) (gName i)) :=
  ps_setLc G.calm (by rw [G.N]; exact G.nd) (by rw [G.N]; exact hi) (by rw [G.sc]; exact hyl) (sw_true (by rw [G.sc]; exact hk) (by rw [G.sc]; exact hyl) hl ha) (tI_ok G) (blkOk_by (by rw [G.N, G.sc]; exact ok))
    (fun s H C cl fp => tGt_ok (G.blk scope s H C cl fp)) (fun s H C cl fp => tTs_ok (G.blk scope s H C cl fp)) (fun s H C cl fp => tE_ok (G.blk scope s H C cl fp)) (hs _)
/-- x = [..], x a plain local: as data, as a list of one's own -/
theorem ph_setLc {i : Nat} {y : Str} {py spos : Pos} {elt tg iter : Expr} {ifs : List Expr} {scope : Scope} {own : List (Str × Nat)} {R : List β → Prop} (h : TDF (lcRd S tg iter ifs elt scope own) Γ k c' R) (nb : NoBx Γ i) (hp : ∀ y, R y → p.N (Γ.set i (.d (cList c') y))) (hi : S.N[i]? = some y) (hyl : S.sc.names.lookup y = some .local) (hl : (py.line == pos.line) = true) (hk : S.sc.kind = .function)
    (ha : (scope.names.any fun (n, k) => n == y && (k == .local || k == .cell)) = false) (ok : blkC S.N S.sc scope own = true) (hs : ∀ (env : Env) x, foldedSetIterable iter env x = pure x) : PH S Γ k (.Assign [.Name y py] (.ListComp elt [⟨tg, iter, ifs, 0⟩] scope pos) spos) p :=
  ph_of (fun X G => ps_lcR G hi hyl hl hk ha ok hs) (hs_set h.td nb hp)
theorem ph_for {tg iter : Expr} {X' : List α → Prop} {kn : Nat} (I : List α → List α → Ctxt → Prop) (hw : PDI S Γ k tg iter c X') (h0 : ∀ xs, X' xs → I xs [] Γ) (hk : ∀ xs, X' xs → xs.length * kk ≤ kn)
    (hs : ∀ xs, X' xs → ∀ pre x post Γ1, xs = pre ++ x :: post → I xs pre Γ1 → ∃ Γ2 is, PDG S tg c x Γ1 Γ2 is ∧ PHs S Γ2 kk sts { N := I xs (pre ++ [x]), ct := I xs (pre ++ [x]), bk := p.N, c := p.c, R := p.R })
    (hd : ∀ xs Γ1, X' xs → I xs xs Γ1 → p.N Γ1) (hfs : ∀ (env : Env) x, foldedSetIterable iter env x = pure x) : PH S Γ (k + kn) (.For tg iter sts [] pos) p :=
  ph_of (fun X G => ps_for (by rw [G.nox]; exact PassesOwn.never) G.calm (tI_ok G) (tGt_ok G) (tSs_ok G) (hfs _)) (hs_for I hw h0 hk hs hd)
/-- .. the names at vs are forgotten between the turns -/
theorem ph_forV {tg iter : Expr} {X' : List α → Prop} {kn : Nat} (vs : List Nat) (I : List α → List α → Ctxt → Prop) (hw : PDI S Γ k tg iter c X') (h0 : ∀ xs, X' xs → I xs [] Γ) (hk : ∀ xs, X' xs → xs.length * kk ≤ kn)
    (hs : ∀ xs, X' xs → ∀ pre x post Γ1, xs = pre ++ x :: post → I xs pre Γ1 → ∃ Γ2 is, PDG S tg c x Γ1 Γ2 is ∧ PHs S Γ2 kk sts { N := fun Γ' => NoBxs Γ' vs ∧ I xs (pre ++ [x]) (wipeC Γ' vs), ct := I xs (pre ++ [x]), bk := p.N, c := p.c, R := p.R })
    (hd : ∀ xs Γ1, X' xs → I xs xs Γ1 → p.N Γ1) (hfs : ∀ (env : Env) x, foldedSetIterable iter env x = pure x) : PH S Γ (k + kn) (.For tg iter sts [] pos) p :=
  ph_for I hw h0 hk (fun xs hx pre x post Γ1 e hI => by
    obtain ⟨Γ2, is, g, h⟩ := hs xs hx pre x post Γ1 e hI
    exact ⟨Γ2, is, g, HS.forget (p := { N := I xs (pre ++ [x]), ct := I xs (pre ++ [x]), bk := p.N, c := p.c, R := p.R }) vs h fun Γ' z => z⟩) hd hfs
theorem ph_append {i : Nat} {x : Str} {xs : List α} {p1 p2 : Pos} (hΓ : Γ[i]? = some (.l c xs)) (nb : NoBx Γ i) (he : PD S Γ k e c P) (lb : xs.length + 1 ≤ LB) (hp : ∀ y, P y → p.N (Γ.set i (.l c (xs ++ [y])))) (hN : S.N[i]? = some x) (hv : Vis S.sc x)
    (hfew : ∀ env : Env, ((backTo p2 (starEach [e] env)).all (fun x => !x.1) && (backToKw p2 (keywordEach [] env)).all (fun x => x.1.isSome) && decide ([e].length + ([] : List Keyword).length + (if ([] : List Keyword).isEmpty then 0 else 1) < 30)) = true)
    (hline : (p1.endLine == p2.line) = true) (hs : ∀ env : Env, starEach [e] env = (false, eval e env) :: starEach [] env) (hsw : ∀ env : Env, swapsWith (.Call (.Attribute (.Name x pos') "append" p1) [e] [] p2) none pos.line env = pure false) (hd : (x == ("__debug__" : Str)) = false := by decide) (hcd : (x == ("__classdict__" : Str)) = false := by decide) :
    PH S Γ k (.Expr (.Call (.Attribute (.Name x pos') "append" p1) [e] [] p2) pos) p :=
  ph_of (ts := tDrop (tBM S.K "list" rAppend (tVar i) (tCons (tE S e) tNil))) (fun X G => by
    rw [← G.K]
    exact ps_expr (pe_bm PySem.F.plainAttrs_list PySem.F.slot_list_append PySem.F.type_list_append mt_append (pe_slot G hN hv hd hcd) (pa_cons (tE_ok G) pa_nil (hs _)) rfl (hfew _) hline (hs _) rfl) (hsw _)) (hs_append hΓ nb he lb hp)
end
end DL

set_option Elab.async false
set_option linter.all false
set_option maxRecDepth 100000
set_option maxHeartbeats 2000000
namespace DL
open PySem PySem.Spec L2
/-! ### data that can be compared at any depth -/
structure EqC {α : Type} [DecidableEq α] (c : Cod α) where
  D : α → PyData
  n : Nat
  dp : ∀ (K : PySem.W.Frag) (H : Hp) v x, c.rep H v x → Dp K H v (D x)
  lay : ∀ x, (D x).canLay0 = true
  dep : ∀ x, (D x).depth ≤ n
  eqv : ∀ x y, PyData.eqv (D x) (D y) = decide (x = y)
def eInt : EqC cInt := ⟨.int, 1, fun _ _ _ _ h => by obtain rfl := h; exact .int _, fun _ => rfl, fun _ => by simp [PyData.depth], fun x y => by simp only [PyData.eqv]; exact Bool.beq_eq_decide_eq x y⟩
def eBool : EqC cBool := ⟨.bool, 1, fun _ _ _ _ h => by obtain rfl := h; exact .bl _, fun _ => rfl, fun _ => by simp [PyData.depth], fun x y => by simp only [PyData.eqv]; exact Bool.beq_eq_decide_eq x y⟩
theorem dpAll_of {α : Type} {c : Cod α} {D : α → PyData} {K : PySem.W.Frag} {H : Hp} (h : ∀ v x, c.rep H v x → Dp K H v (D x)) : ∀ {vs : List V} {xs : List α}, Paired (c.rep H) vs xs → DpAll K H vs (xs.map D)
  | _, _, .nil => .nil
  | _, _, .cons r t => .cons (h _ _ r) (dpAll_of h t)
theorem layAll {α : Type} {D : α → PyData} (h : ∀ x, (D x).canLay0 = true) : ∀ xs : List α, PyData.canLayAll0 (xs.map D) = true
  | [] => rfl
  | x :: xs => by simp [PyData.canLayAll0, h x, layAll h xs]
theorem depAll {α : Type} {D : α → PyData} {n : Nat} (h : ∀ x, (D x).depth ≤ n) : ∀ xs : List α, PyData.depthAll (xs.map D) ≤ n
  | [] => by simp [PyData.depthAll]
  | x :: xs => by
    have h1 := h x
    have h2 := depAll h xs
    simp only [List.map_cons, PyData.depthAll]
    omega
theorem eqvAll_dec {α : Type} [DecidableEq α] {D : α → PyData} (h : ∀ x y, PyData.eqv (D x) (D y) = decide (x = y)) : ∀ xs ys : List α, PyData.eqvAll (xs.map D) (ys.map D) = decide (xs = ys)
  | [], [] => by simp [PyData.eqvAll]
  | [], _ :: _ => by simp [PyData.eqvAll]
  | _ :: _, [] => by simp [PyData.eqvAll]
  | x :: xs, y :: ys => by
    simp only [List.map_cons, PyData.eqvAll, h x y, eqvAll_dec h xs ys]
    by_cases e1 : x = y <;> by_cases e2 : xs = ys <;> simp [e1, e2]
def eList {α : Type} [DecidableEq α] {c : Cod α} (e : EqC c) : EqC (cList c) := ⟨fun xs => .list (xs.map e.D), e.n + 1, fun K H v xs ⟨a, vs, h1, h2, h3, _⟩ => by
    subst h1; exact .lst (SqL.of h2) (dpAll_of (fun v x r => e.dp K H v x r) h3),
  fun xs => layAll e.lay xs, fun xs => by simp only [PyData.depth]; exact Nat.succ_le_succ (depAll e.dep xs), fun xs ys => by simp only [PyData.eqv]; exact eqvAll_dec e.eqv xs ys⟩
def eTup {α : Type} [DecidableEq α] {c : Cod α} (e : EqC c) : EqC (cTup c) := ⟨fun xs => .tuple (xs.map e.D), e.n + 1, fun K H v xs ⟨a, vs, h1, h2, h3, _⟩ => by
    subst h1; exact .tup (SqT.of h2) (dpAll_of (fun v x r => e.dp K H v x r) h3),
  fun xs => layAll e.lay xs, fun xs => by simp only [PyData.depth]; exact Nat.succ_le_succ (depAll e.dep xs), fun xs ys => by simp only [PyData.eqv]; exact eqvAll_dec e.eqv xs ys⟩
def eT2 {α β : Type} [DecidableEq α] [DecidableEq β] {c : Cod α} {d : Cod β} (e : EqC c) (f : EqC d) : EqC (cT2 c d) := ⟨fun x => .tuple [e.D x.1, f.D x.2], max e.n f.n + 1, fun K H v x ⟨a, u, w, h1, h2, h3, h4⟩ => by
    subst h1; exact .tup (SqT.of h2) (.cons (e.dp K H _ _ h3) (.cons (f.dp K H _ _ h4) .nil)),
  fun x => by simp [PyData.canLay0, PyData.canLayAll0, e.lay, f.lay], fun x => by
    have h1 := e.dep x.1; have h2 := f.dep x.2
    simp only [PyData.depth, PyData.depthAll]; omega, fun x y => by
    simp only [PyData.eqv, PyData.eqvAll, e.eqv, f.eqv]
    obtain ⟨x1, x2⟩ := x; obtain ⟨y1, y2⟩ := y
    by_cases e1 : x1 = y1 <;> by_cases e2 : x2 = y2 <;> simp [e1, e2]⟩
def eT3 {α β γ : Type} [DecidableEq α] [DecidableEq β] [DecidableEq γ] {c : Cod α} {d : Cod β} {g : Cod γ} (e : EqC c) (f : EqC d) (l : EqC g) : EqC (cT3 c d g) := ⟨fun x => .tuple [e.D x.1, f.D x.2.1, l.D x.2.2], max e.n (max f.n l.n) + 1, fun K H v x ⟨a, u, w, y, h1, h2, h3, h4, h5⟩ => by
    subst h1; exact .tup (SqT.of h2) (.cons (e.dp K H _ _ h3) (.cons (f.dp K H _ _ h4) (.cons (l.dp K H _ _ h5) .nil))),
  fun x => by simp [PyData.canLay0, PyData.canLayAll0, e.lay, f.lay, l.lay], fun x => by
    have h1 := e.dep x.1; have h2 := f.dep x.2.1; have h3 := l.dep x.2.2
    simp only [PyData.depth, PyData.depthAll]; omega, fun x y => by
    simp only [PyData.eqv, PyData.eqvAll, e.eqv, f.eqv, l.eqv]
    obtain ⟨x1, x2, x3⟩ := x; obtain ⟨y1, y2, y3⟩ := y
    by_cases e1 : x1 = y1 <;> by_cases e2 : x2 = y2 <;> by_cases e3 : x3 = y3 <;> simp [e1, e2, e3]⟩
abbrev cI3 : Cod (Int × Int × Int) := cT3 cInt cInt cInt
abbrev eI3 : EqC cI3 := eT3 eInt eInt eInt
section
variable {S : Stc} {X : Cx}
variable {Γ Γ1 Γ2 Γ3 : Ctxt} {k k1 k2 k3 kk kt ke : Nat} {A α β γ ρ : Type} {c : Cod α} {c' : Cod β} {cr : Cod ρ} {c1 : Cod α} {c2 : Cod β} {c3 : Cod γ} {P P1 : α → Prop} {P2 : β → Prop} {P3 : γ → Prop} {te to ti : TE} {tt : TT} {t u : TS} {p : Po ρ} {ta tx : TA} {e a b d : Expr} {es : List Expr} {pos pos' pn : Pos}
theorem rd_eqD [DecidableEq α] {K : PySem.W.Frag} {x y : α} (q : EqC c) (hn : q.n ≤ 64) : RD (rEqD K) c x c y cBool (· = decide (x = y)) := fun Hf H v u e h1 h2 Q k =>
  ⟨_, _, q.dp K H _ _ (c.mono e h1), q.dp K H _ _ (c.mono e h2), by unfold SeqAt.shaped; rw [q.lay, Bool.true_and]; exact decide_eq_true (Nat.le_trans (q.dep x) hn), by unfold SeqAt.shaped; rw [q.lay, Bool.true_and]; exact decide_eq_true (Nat.le_trans (q.dep y) hn), by
    rw [q.eqv]; exact k _ Hf H _ rfl rfl Fr.refl e⟩
theorem rd_neD [DecidableEq α] {K : PySem.W.Frag} {x y : α} (q : EqC c) (hn : q.n ≤ 64) : RD (rNeD K) c x c y cBool (· = !decide (x = y)) := fun Hf H v u e h1 h2 Q k =>
  ⟨_, _, q.dp K H _ _ (c.mono e h1), q.dp K H _ _ (c.mono e h2), by unfold SeqAt.shaped; rw [q.lay, Bool.true_and]; exact decide_eq_true (Nat.le_trans (q.dep x) hn), by unfold SeqAt.shaped; rw [q.lay, Bool.true_and]; exact decide_eq_true (Nat.le_trans (q.dep y) hn), by
    rw [q.eqv]; exact k _ Hf H _ rfl rfl Fr.refl e⟩
theorem op_eqDG {K : PySem.W.Frag} (hK : S.K = K) : ∀ X, Good S X → OpR X (compareOp .Eq) (rEqD K) := fun X G => by rw [← hK, ← G.K]; exact op_eqD G.room.units
theorem op_neDG {K : PySem.W.Frag} (hK : S.K = K) : ∀ X, Good S X → OpR X (compareOp .NotEq) (rNeD K) := fun X G => by rw [← hK, ← G.K]; exact op_neD G.room.units
/-- ints in a list, a tuple -/
theorem inV_ints (i : Int) : ∀ ns : List Int, inV (.int i) (ns.map V.int) = decide (i ∈ ns)
  | [] => by simp [inV]
  | n :: ns => by
    have ih := inV_ints i ns
    unfold inV at ih ⊢
    rw [List.map_cons, List.any_cons, ih]
    simp only [eqV, List.mem_cons]
    by_cases e : n = i
    · subst e; simp
    · have e2 : ¬ i = n := fun z => e z.symm
      simp [e, e2]
theorem ints_of_paired : ∀ {vs : List V} {ns : List Int} {H : Hp}, Paired (cInt.rep H) vs ns → vs = ns.map V.int
  | _, _, _, .nil => rfl
  | _, _, _, .cons r t => by obtain rfl := r; rw [ints_of_paired t]; rfl
theorem bools_of_paired : ∀ {vs : List V} {ns : List Bool} {H : Hp}, Paired (cBool.rep H) vs ns → vs = ns.map V.bl
  | _, _, _, .nil => rfl
  | _, _, _, .cons r t => by obtain rfl := r; rw [bools_of_paired t]; rfl
theorem flat_ints : ∀ ns : List Int, (ns.map V.int).all flatV = true
  | [] => rfl
  | n :: ns => by simp [flatV]
theorem rd_inI {K : PySem.W.Frag} {neg : Bool} {x : Int} {xs : List Int} : RD (rIn K neg) cInt x (cList cInt) xs cBool (· = if neg then !decide (x ∈ xs) else decide (x ∈ xs)) := fun Hf H v u e h1 ⟨a, vs, h2, h3, h4, _⟩ Q k => by
  obtain rfl := h1
  have := ints_of_paired h4
  subst this
  refine ⟨a, xs.map V.int, h2, .inl (SqL.of (e _ _ h3)), rfl, flat_ints xs, ?_⟩
  rw [inV_ints]
  exact k _ Hf H _ rfl rfl Fr.refl e
theorem rd_inIT {K : PySem.W.Frag} {neg : Bool} {x : Int} {xs : List Int} : RD (rIn K neg) cInt x (cTup cInt) xs cBool (· = if neg then !decide (x ∈ xs) else decide (x ∈ xs)) := fun Hf H v u e h1 ⟨a, vs, h2, h3, h4, _⟩ Q k => by
  obtain rfl := h1
  have := ints_of_paired h4
  subst this
  refine ⟨a, xs.map V.int, h2, .inr (SqT.of (e _ _ h3)), rfl, flat_ints xs, ?_⟩
  rw [inV_ints]
  exact k _ Hf H _ rfl rfl Fr.refl e
theorem op_inG : ∀ X, Good S X → OpR X (compareOp .In) (rIn S.K false) := fun X G => by rw [← G.K]; exact op_in_seq
theorem op_notInG : ∀ X, Good S X → OpR X (compareOp .NotIn) (rIn S.K true) := fun X G => by rw [← G.K]; exact op_notIn_seq
/-- xs + ys -/
theorem tdf_cat {xs ys : List α} (ha : TD te Γ k1 (cList c) (· = xs)) (hb : TD to Γ k2 (cList c) (· = ys)) (lb : xs.length + ys.length ≤ LB) : TDF (tOp rCat te to) Γ (k1 + k2) c (· = xs ++ ys) := fun O n σ Hf H hn S Q q =>
  ha O n σ Hf H (by omega) S _ fun v Hf1 H1 x ex ⟨a, vs, e1, e2, e3, _⟩ f1 S1 => hb O (n + k1) σ Hf1 H1 (by omega) S1 _ fun u Hf2 H2 y ey ⟨b, us, g1, g2, g3, _⟩ f2 S2 => by
    subst ex ey
    have l1 := paired_len e3
    have l2 := paired_len g3
    refine ⟨a, b, vs, us, e1, g1, S2.ex _ _ (f2.ex _ _ e2), S2.ex _ _ g2, lb_line (by omega), fun p hp => ?_⟩
    have e3' : Paired (c.rep Hf2) vs x := paired_mono e3 fun _ _ z => c.mono f2.ex z
    have pap : ∀ {l1 l2 : List V} {m1 m2 : List α}, Paired (c.rep Hf2) l1 m1 → Paired (c.rep Hf2) l2 m2 → Paired (c.rep Hf2) (l1 ++ l2) (m1 ++ m2) := fun {l1 l2 m1 m2} h1 h2 => by
      induction h1 with
      | nil => exact h2
      | cons r t ih => exact .cons r ih
    exact q p (vs ++ us) Hf2 (upd H2 p (.lst (vs ++ us))) _ rfl upd_same (S2.ex.back hp) (f1.dom p (f2.dom p hp)) (pap e3' g3) (by rw [List.length_append]; omega)
      ((f1.trans f2 fun _ h => .inl h).trans (Fr.newO (M := Bx Γ) hp) fun _ z => .inl z) (by rw [← Nat.add_assoc]; exact S2.grow0 (Fr.newO hp) (S2.ex.trans (Ex.new hp)))
theorem pdf_cat {xs ys : List α} (ha : PD S Γ k1 a (cList c) (· = xs)) (hb : PD S Γ k2 b (cList c) (· = ys)) (lb : xs.length + ys.length ≤ LB) : PDF S Γ (k1 + k2) (.BinOp a .Add b pos) c (· = xs ++ ys) := pdf_of (fun X G => pe_op op_cat (tE_ok G) (tE_ok G)) (tdf_cat ha hb lb)
/-- items by place -/
theorem rd_ixL {K : PySem.W.Frag} {xs : List α} {i : Int} {Pz : α → Prop} (h : ∃ z, atI xs i = some z ∧ Pz z) : RD (rIxL K) (cList c) xs cInt i c Pz := fun Hf H v u e ⟨a, vs, h1, h2, h3, _⟩ h4 Q k => by
  obtain ⟨z, hz, pz⟩ := h
  obtain rfl := h4
  have hl := paired_len h3
  unfold atI at hz
  cases e1 : ixN xs.length i with
  | none => rw [e1] at hz; cases hz
  | some j =>
    rw [e1] at hz
    have hz' : xs[j]? = some z := hz
    have hj : j < vs.length := by rw [hl]; exact (List.getElem?_eq_some_iff.mp hz').1
    have hv : vs[j]? = some (vs[j]'hj) := List.getElem?_eq_getElem hj
    exact ⟨a, vs, i, vs[j]'hj, h1, rfl, SqL.of (e _ _ h2), by unfold atI; rw [hl, e1]; exact hv, k z Hf H _ pz (paired_get h3 hv hz') Fr.refl e⟩
theorem rd_ixT {K : PySem.W.Frag} {xs : List α} {i : Int} {Pz : α → Prop} (h : ∃ z, atI xs i = some z ∧ Pz z) : RD (rIxT K) (cTup c) xs cInt i c Pz := fun Hf H v u e ⟨a, vs, h1, h2, h3, _⟩ h4 Q k => by
  obtain ⟨z, hz, pz⟩ := h
  obtain rfl := h4
  have hl := paired_len h3
  unfold atI at hz
  cases e1 : ixN xs.length i with
  | none => rw [e1] at hz; cases hz
  | some j =>
    rw [e1] at hz
    have hz' : xs[j]? = some z := hz
    have hj : j < vs.length := by rw [hl]; exact (List.getElem?_eq_some_iff.mp hz').1
    have hv : vs[j]? = some (vs[j]'hj) := List.getElem?_eq_getElem hj
    exact ⟨a, vs, i, vs[j]'hj, h1, rfl, SqT.of (e _ _ h2), by unfold atI; rw [hl, e1]; exact hv, k z Hf H _ pz (paired_get h3 hv hz') Fr.refl e⟩
theorem rd_ix3_0 {K : PySem.W.Frag} {x : α × β × γ} : RD (rIxT K) (cT3 c1 c2 c3) x cInt 0 c1 (· = x.1) := fun Hf H v u e ⟨a, w1, w2, w3, h1, h2, h3, h4, h5⟩ h6 Q k => by
  obtain rfl := h6
  exact ⟨a, [w1, w2, w3], 0, w1, h1, rfl, SqT.of (e _ _ h2), rfl, k _ Hf H _ rfl h3 Fr.refl e⟩
theorem rd_ix3_1 {K : PySem.W.Frag} {x : α × β × γ} : RD (rIxT K) (cT3 c1 c2 c3) x cInt 1 c2 (· = x.2.1) := fun Hf H v u e ⟨a, w1, w2, w3, h1, h2, h3, h4, h5⟩ h6 Q k => by
  obtain rfl := h6
  exact ⟨a, [w1, w2, w3], 1, w2, h1, rfl, SqT.of (e _ _ h2), rfl, k _ Hf H _ rfl h4 Fr.refl e⟩
theorem rd_ix3_2 {K : PySem.W.Frag} {x : α × β × γ} : RD (rIxT K) (cT3 c1 c2 c3) x cInt 2 c3 (· = x.2.2) := fun Hf H v u e ⟨a, w1, w2, w3, h1, h2, h3, h4, h5⟩ h6 Q k => by
  obtain rfl := h6
  exact ⟨a, [w1, w2, w3], 2, w3, h1, rfl, SqT.of (e _ _ h2), rfl, k _ Hf H _ rfl h5 Fr.refl e⟩
theorem rd_ix2_0 {K : PySem.W.Frag} {x : α × β} : RD (rIxT K) (cT2 c1 c2) x cInt 0 c1 (· = x.1) := fun Hf H v u e ⟨a, w1, w2, h1, h2, h3, h4⟩ h6 Q k => by
  obtain rfl := h6
  exact ⟨a, [w1, w2], 0, w1, h1, rfl, SqT.of (e _ _ h2), rfl, k _ Hf H _ rfl h3 Fr.refl e⟩
theorem rd_ix2_1 {K : PySem.W.Frag} {x : α × β} : RD (rIxT K) (cT2 c1 c2) x cInt 1 c2 (· = x.2) := fun Hf H v u e ⟨a, w1, w2, h1, h2, h3, h4⟩ h6 Q k => by
  obtain rfl := h6
  exact ⟨a, [w1, w2], 1, w2, h1, rfl, SqT.of (e _ _ h2), rfl, k _ Hf H _ rfl h4 Fr.refl e⟩
theorem pd_ixR {r : R2} (hr : ∀ X, Good S X → IxR X r) (ha : PD S Γ k1 a c1 P1) (hb : PD S Γ k2 b c2 P2) (hrd : ∀ x y, P1 x → P2 y → RD r c1 x c2 y c3 P3) (hs : PlainIx b) : PD S Γ (k1 + k2) (.Subscript a b pos) c3 P3 := pd_of (fun X G => pe_ix (hr X G) (tE_ok G) (tE_ok G) hs) (td_op ha hb hrd)
theorem ixLG : ∀ X, Good S X → IxR X (rIxL S.K) := fun X G => by rw [← G.K]; exact ix_list
theorem ixTG : ∀ X, Good S X → IxR X (rIxT S.K) := fun X G => by rw [← G.K]; exact ix_tup
/-! ### calls of built-ins by values -/
def RC1 {α γ : Type} (r : List V → Hp → VK → Prop) (c1 : Cod α) (x : α) (c : Cod γ) (P : γ → Prop) : Prop :=
  ∀ (Hf H : Hp) (v : V), Ex Hf H → c1.rep Hf v x → ∀ Q : VK, (∀ z Hf' H' w, P z → c.rep Hf' w z → Fr (fun _ => False) Hf H Hf' H' → Ex Hf' H' → Q w H') → r [v] H Q
def RC1F {α γ : Type} (r : List V → Hp → VK → Prop) (c1 : Cod α) (x : α) (c : Cod γ) (P : List γ → Prop) : Prop :=
  ∀ (Hf H : Hp) (v : V), Ex Hf H → c1.rep Hf v x → ∀ Q : VK, (∀ p vs zs, P zs → H p = none → Paired (c.rep Hf) vs zs → vs.length ≤ LB → Q (.ref p) (upd H p (.lst vs))) → r [v] H Q
theorem td_cb {r : List V → Hp → VK → Prop} (h : TD te Γ k c1 P1) (hr : ∀ x, P1 x → RC1 r c1 x c3 P3) : TD (tCB r (tCons te tNil)) Γ k c3 P3 := fun O n σ Hf H hn S Q q =>
  h O n σ Hf H hn S _ fun v Hf1 H1 x p1 r1 f1 S1 => hr x p1 Hf1 H1 v S1.ex r1 Q fun z Hf3 H3 w p3 r3 f3 e3 => q w Hf3 H3 z p3 r3 (f1.trans f3 fun _ h => h.elim) (S1.grow0 f3 e3)
theorem tdf_cb {r : List V → Hp → VK → Prop} {R : List γ → Prop} (h : TD te Γ k c1 P1) (hr : ∀ x, P1 x → RC1F r c1 x c3 R) : TDF (tCB r (tCons te tNil)) Γ k c3 R := fun O n σ Hf H hn S Q q =>
  h O n σ Hf H hn S _ fun v Hf1 H1 x p1 r1 f1 S1 => hr x p1 Hf1 H1 v S1.ex r1 Q fun p vs zs pz hp pr lb =>
    q p vs Hf1 _ zs pz upd_same (S1.ex.back hp) (f1.dom p hp) pr lb (f1.trans (Fr.newO (M := Bx Γ) hp) fun _ z => .inl z) (S1.grow0 (Fr.newO hp) (S1.ex.trans (Ex.new hp)))
theorem pd_b1 {r : List V → Hp → VK → Prop} {x : Str} {id : String} (hc : ∀ X, Good S X → CallR X (.builtin id) r) (hg : S.sc.names.lookup x = some .globalImplicit) (hm : S.mg x = none) (hv : bootBuiltins x = some (.builtin id)) (h : PD S Γ k e c1 P1) (hr : ∀ x, P1 x → RC1 r c1 x c3 P3)
    (he : ∀ env : Env, starEach [e] env = (false, eval e env) :: starEach [] env) (hn : x ≠ "__name__" := by decide) (hdb : (x == ("__debug__" : Str)) = false := by decide) : PD S Γ k (.Call (.Name x pn) [e] [] pos) c3 P3 :=
  pd_of (fun X G => pe_callB (hc X G) (glb G hg) (by rw [G.mg]; exact hm) hv (pa_cons (tE_ok G) pa_nil (he _)) hn hdb (he _) rfl) (td_cb h hr)
theorem pd_y1 {r : List V → Hp → VK → Prop} {x : Str} {T : String} (hc : ∀ X, Good S X → CallR X (.type T) r) (hg : S.sc.names.lookup x = some .globalImplicit) (hm : S.mg x = none) (hv : bootBuiltins x = some (.type T)) (h : PD S Γ k e c1 P1) (hr : ∀ x, P1 x → RC1 r c1 x c3 P3)
    (he : ∀ env : Env, starEach [e] env = (false, eval e env) :: starEach [] env) (hn : x ≠ "__name__" := by decide) (hdb : (x == ("__debug__" : Str)) = false := by decide) : PD S Γ k (.Call (.Name x pn) [e] [] pos) c3 P3 :=
  pd_of (fun X G => pe_callTy (hc X G) (glb G hg) (by rw [G.mg]; exact hm) hv (pa_cons (tE_ok G) pa_nil (he _)) hn hdb (he _) rfl) (td_cb h hr)
theorem pdf_b1 {r : List V → Hp → VK → Prop} {R : List γ → Prop} {x : Str} {id : String} (hc : ∀ X, Good S X → CallR X (.builtin id) r) (hg : S.sc.names.lookup x = some .globalImplicit) (hm : S.mg x = none) (hv : bootBuiltins x = some (.builtin id)) (h : PD S Γ k e c1 P1) (hr : ∀ x, P1 x → RC1F r c1 x c3 R)
    (he : ∀ env : Env, starEach [e] env = (false, eval e env) :: starEach [] env) (hn : x ≠ "__name__" := by decide) (hdb : (x == ("__debug__" : Str)) = false := by decide) : PDF S Γ k (.Call (.Name x pn) [e] [] pos) c3 R :=
  pdf_of (fun X G => pe_callB (hc X G) (glb G hg) (by rw [G.mg]; exact hm) hv (pa_cons (tE_ok G) pa_nil (he _)) hn hdb (he _) rfl) (tdf_cb h hr)
theorem pdf_y1 {r : List V → Hp → VK → Prop} {R : List γ → Prop} {x : Str} {T : String} (hc : ∀ X, Good S X → CallR X (.type T) r) (hg : S.sc.names.lookup x = some .globalImplicit) (hm : S.mg x = none) (hv : bootBuiltins x = some (.type T)) (h : PD S Γ k e c1 P1) (hr : ∀ x, P1 x → RC1F r c1 x c3 R)
    (he : ∀ env : Env, starEach [e] env = (false, eval e env) :: starEach [] env) (hn : x ≠ "__name__" := by decide) (hdb : (x == ("__debug__" : Str)) = false := by decide) : PDF S Γ k (.Call (.Name x pn) [e] [] pos) c3 R :=
  pdf_of (fun X G => pe_callTy (hc X G) (glb G hg) (by rw [G.mg]; exact hm) hv (pa_cons (tE_ok G) pa_nil (he _)) hn hdb (he _) rfl) (tdf_cb h hr)
/-- len -/
theorem rc_lenL {K : PySem.W.Frag} {xs : List α} : RC1 (fun xs H Q => ∃ p ys, xs = [.ref p] ∧ (SqL K H p ys ∨ SqT K H p ys) ∧ Q (.int ys.length) H) (cList c) xs cInt (· = (xs.length : Int)) := fun Hf H v e ⟨a, vs, h1, h2, h3, _⟩ Q q =>
  ⟨a, vs, by rw [h1], .inl (SqL.of (e _ _ h2)), q _ Hf H _ rfl (by rw [paired_len h3]; rfl) Fr.refl e⟩
theorem rc_lenT {K : PySem.W.Frag} {xs : List α} : RC1 (fun xs H Q => ∃ p ys, xs = [.ref p] ∧ (SqL K H p ys ∨ SqT K H p ys) ∧ Q (.int ys.length) H) (cTup c) xs cInt (· = (xs.length : Int)) := fun Hf H v e ⟨a, vs, h1, h2, h3, _⟩ Q q =>
  ⟨a, vs, by rw [h1], .inr (SqT.of (e _ _ h2)), q _ Hf H _ rfl (by rw [paired_len h3]; rfl) Fr.refl e⟩
theorem lenG : ∀ X, Good S X → CallR X (.builtin "len") (fun xs H Q => ∃ p ys, xs = [.ref p] ∧ (SqL S.K H p ys ∨ SqT S.K H p ys) ∧ Q (.int ys.length) H) := fun X G => by rw [← G.K]; exact call_len_seq
theorem pd_lenL {xs : List α} (hg : S.sc.names.lookup ("len" : Str) = some .globalImplicit) (hm : S.mg "len" = none) (h : PD S Γ k e (cList c) (· = xs)) (he : ∀ env : Env, starEach [e] env = (false, eval e env) :: starEach [] env) : PD S Γ k (.Call (.Name "len" pn) [e] [] pos) cInt (· = (xs.length : Int)) :=
  pd_b1 lenG hg hm PySem.boot_len h (fun x e => by subst e; exact rc_lenL) he
theorem pd_lenT {xs : List α} (hg : S.sc.names.lookup ("len" : Str) = some .globalImplicit) (hm : S.mg "len" = none) (h : PD S Γ k e (cTup c) (· = xs)) (he : ∀ env : Env, starEach [e] env = (false, eval e env) :: starEach [] env) : PD S Γ k (.Call (.Name "len" pn) [e] [] pos) cInt (· = (xs.length : Int)) :=
  pd_b1 lenG hg hm PySem.boot_len h (fun x e => by subst e; exact rc_lenT) he
/-! ### calls of one's own -/
theorem fnG {f : Addr} {fd : FuncData} {ps : List Str} {sp : Sp} {l : Nat} (F : FnOk S.prog S.w S.K S.mg S.base CX0 l f fd ps sp) (G : Good S X) : FnOk X.prog X.w X.K X.mg X.base CX0 l f fd ps sp := by rw [G.prog, G.w, G.K, G.mg, G.base]; exact F
theorem pd_call {ps : Addr → A → Ctxt} {kf : A → Nat} {pre : A → Prop} {PR : A → ρ → Prop} {B : Ctxt → Prop} {P' : ρ → Prop} {f : Addr} {fd : FuncData} {pn' : List Str} {x : Str} {l : Nat} (F : FnOk S.prog S.w S.K S.mg S.base CX0 l f fd pn' (spD ps kf pre cr PR)) (hl : l ≤ S.lv) (hg : S.sc.names.lookup x = some .globalImplicit)
    (hm : S.mg x = some (.ref f)) (hk : PySem.W.keepIn S.K (.ref f) = true) (hb : Binds S.K fd pn' []) (h : PDA S Γ k1 (e :: es) B) (hc : ∀ as, B as → ∃ a b, as = ps b a ∧ pre a ∧ kf a ≤ k2 ∧ ∀ x, PR a x → P' x)
    (he : ∀ env : Env, starEach (e :: es) env = (false, eval e env) :: starEach es env) (hpl : ∀ env : Env, (backTo pos (starEach es env)).any (·.1) = false) (hdb : (x == ("__debug__" : Str)) = false := by decide) : PD S Γ (k1 + k2) (.Call (.Name x pn) (e :: es) [] pos) cr P' :=
  pd_of (fun X G => pe_call (fnG F G) (G.room.mono hl) (glb G hg) (by rw [G.mg]; exact hm) (by rw [G.K]; exact hk) (by rw [G.K]; exact hb) .nil pass0 (tA_ok G) hdb (he _) (hpl _)) (td_call h hc)
theorem cxG {P : Program} {w : World} {K : PySem.W.Frag} {mg : Str → Option Value} {base : Heap} {N : List Str} {qual : Str} {st : Stmt} {f : Addr} {cdv : Value} {A : Around} {outer : List Env} {s : Shared} {H : Hp} {E : XK} {lv : Nat} (hr : Room lv (A.deeper (PyProof.Rows.envOfC qual (defScope st) s.heap.objs.size f cdv))) (nd : N.Nodup) :
    Good ⟨N, defScope st, K, mg, P, w, base, lv, fun _ => true, false⟩ (cxOf CX0 P w K mg base N qual (defScope st) f cdv A outer s H E).nox := ⟨rfl, rfl, rfl, rfl, rfl, rfl, rfl, rfl, hr, rfl, rfl, nd, fun h => nomatch h⟩
/-- a def keeps its promise, by its body -/
theorem fn_D {P : Program} {w : World} {K : PySem.W.Frag} {mg : Str → Option Value} {base : Heap} {x qual : Str} {st : Stmt} {f : Addr} {fd : FuncData} {N pn : List Str} {lv : Nat} {ps : Addr → A → Ctxt} {kf : A → Nat} {pre : A → Prop} {PR : A → ρ → Prop} (F : Fun K x qual st f fd) (Sc : FnScope N pn (defScope st))
    (hl : ∀ b a, (ps b a).length = pn.length) (hN : pn.length ≤ N.length) (one : ∀ b a, OneB (ps b a))
    (body : ∀ b a, pre a → PHs ⟨N, defScope st, K, mg, P, w, base, lv, fun _ => true, false⟩ (entry N (ps b a)) (kf a) (defBody st) { N := fun _ => False, bk := fun _ => False, ct := fun _ => False, c := cr, R := PR a }) :
    FnOk P w K mg base CX0 (lv + 1) f fd pn (spD ps kf pre cr PR) := by
  refine F.ok Sc (fun vs H Q E h => ?_) (fun cdv A outer s H vs Q E hr h => ?_)
  · obtain ⟨a, b, n, Hf, _, _, _, o, _⟩ := h
    rw [argsOk_len o]; exact hl b a
  · obtain ⟨a, b, n, Hf, hp, hn, ex, o, bx, q⟩ := h
    refine ⟨tSs ⟨N, defScope st, K, mg, P, w, base, lv, fun _ => true, false⟩ (defBody st), tSs_ok (cxG hr Sc.nd), ?_⟩
    exact body_ok (by rw [hl]; exact hN) (one b a) hn ex o bx q (body b a hp)
end
end DL

set_option Elab.async false
set_option linter.all false
set_option maxRecDepth 100000
set_option maxHeartbeats 2000000
namespace DL
open PySem PySem.Spec L2
section
variable {S : Stc} {X : Cx}
variable {Γ Γ1 Γ2 Γ3 : Ctxt} {k k1 k2 k3 kk kt ke : Nat} {A α β γ ρ : Type} {c : Cod α} {c' : Cod β} {cr : Cod ρ} {c1 : Cod α} {c2 : Cod β} {c3 : Cod γ} {P P1 : α → Prop} {P2 : β → Prop} {P3 : γ → Prop} {te to ti : TE} {tt : TT} {t u : TS} {p : Po ρ} {ta tx : TA} {e a b d : Expr} {es : List Expr} {pos pos' pn : Pos}
variable {x : α} {y : β} {z : γ}
/-! ### nothing is drawn, one value -/
theorem pbin {op : Operator} {r : R2} (ho : ∀ X, Good S X → OpR X (binaryOp op) r) (ha : PD S Γ 0 a c1 (· = x)) (hb : PD S Γ 0 b c2 (· = y)) (hr : RD r c1 x c2 y c3 P3) : PD S Γ 0 (.BinOp a op b pos) c3 P3 :=
  pd_bin (k1 := 0) (k2 := 0) ho ha hb fun _ _ h1 h2 => by subst h1 h2; exact hr
theorem pun {op : UnaryOp} {r : V → Hp → VK → Prop} (ho : ∀ X, Good S X → UnR X (unaryOp op) r) (ha : PD S Γ 0 a c1 (· = x)) (hr : RU1 r c1 x c3 P3) : PD S Γ 0 (.UnaryOp op a pos) c3 P3 :=
  pd_un ho ha fun _ h1 => by subst h1; exact hr
theorem pcmp {op : CmpOp} {r : R2} {P3 : Bool → Prop} (ho : ∀ X, Good S X → OpR X (compareOp op) r) (ha : PD S Γ 0 a c1 (· = x)) (hb : PD S Γ 0 b c2 (· = y)) (hr : RD r c1 x c2 y cBool P3) (hm : behindInMarks op b = false) : PD S Γ 0 (.Compare a [op] [b] pos) cBool P3 :=
  pd_cmp (k1 := 0) (k2 := 0) ho ha hb (fun _ _ h1 h2 => by subst h1 h2; exact hr) hm
theorem tcmp {op : CmpOp} {r : R2} {P3 : Bool → Prop} (ho : ∀ X, Good S X → OpR X (compareOp op) r) (ha : PD S Γ 0 a c1 (· = x)) (hb : PD S Γ 0 b c2 (· = y)) (hr : RD r c1 x c2 y cBool P3) (hm : behindInMarks op b = false) : PDT S Γ 0 (.Compare a [op] [b] pos) P3 :=
  pdt_cmp (k1 := 0) (k2 := 0) ho ha hb (fun _ _ h1 h2 => by subst h1 h2; exact hr) hm
theorem tand {x y : Bool} {rest : List Expr} (h1 : PDT S Γ 0 a (· = x)) (h2 : x = true → PDW S Γ 0 (.BoolOp .And (b :: rest) pos) (· = y)) : PDW S Γ 0 (.BoolOp .And (a :: b :: rest) pos) (· = (x && y)) := pdw_and (k1 := 0) (k2 := 0) h1 h2
theorem tor {x y : Bool} {rest : List Expr} (h1 : PDT S Γ 0 a (· = x)) (h2 : x = false → PDW S Γ 0 (.BoolOp .Or (b :: rest) pos) (· = y)) : PDW S Γ 0 (.BoolOp .Or (a :: b :: rest) pos) (· = (x || y)) := pdw_or (k1 := 0) (k2 := 0) h1 h2
theorem pand {x y : Bool} {rest : List Expr} (h1 : PD S Γ 0 a cBool (· = x)) (h2 : x = true → PD S Γ 0 (.BoolOp .And (b :: rest) pos) cBool (· = y)) : PD S Γ 0 (.BoolOp .And (a :: b :: rest) pos) cBool (· = (x && y)) := pd_and (k1 := 0) (k2 := 0) h1 h2
theorem por {x y : Bool} {rest : List Expr} (h1 : PD S Γ 0 a cBool (· = x)) (h2 : x = false → PD S Γ 0 (.BoolOp .Or (b :: rest) pos) cBool (· = y)) : PD S Γ 0 (.BoolOp .Or (a :: b :: rest) pos) cBool (· = (x || y)) := pd_or (k1 := 0) (k2 := 0) h1 h2
theorem pif {b' : Bool} {x y : α} (h : PDT S Γ 0 d (· = b')) (ha : b' = true → PD S Γ 0 a c (· = x)) (hb : b' = false → PD S Γ 0 b c (· = y)) : PD S Γ 0 (.IfExp d a b pos) c (· = if b' = true then x else y) :=
  (pd_if (k1 := 0) (k2 := 0) (k3 := 0) h (fun e => (ha e.symm).imp fun z hz => by subst e; rw [hz]; rfl) fun e => (hb e.symm).imp fun z hz => by subst e; rw [hz]; rfl)
theorem pix {r : R2} (hr : ∀ X, Good S X → IxR X r) (ha : PD S Γ 0 a c1 (· = x)) (hb : PD S Γ 0 b c2 (· = y)) (hrd : RD r c1 x c2 y c3 P3) (hs : PlainIx b) : PD S Γ 0 (.Subscript a b pos) c3 P3 :=
  pd_ixR (k1 := 0) (k2 := 0) hr ha hb (fun _ _ h1 h2 => by subst h1 h2; exact hrd) hs
theorem pt2 {kx : Nat} (ha : PD S Γ 0 a c1 (· = x)) (hb : PD S Γ 0 b c2 (· = y)) (hs : ∀ env : Env, starEach [a, b] env = (false, eval a env) :: starEach [b] env) (hs2 : ∀ env : Env, starEach [b] env = (false, eval b env) :: starEach [] env) : PD S Γ 0 (.Tuple [a, b] kx pos) (cT2 c1 c2) (· = (x, y)) := pd_t2' (k1 := 0) (k2 := 0) ha hb hs hs2
theorem pt3 {kx : Nat} (ha : PD S Γ 0 a c1 (· = x)) (hb : PD S Γ 0 b c2 (· = y)) (hd : PD S Γ 0 d c3 (· = z)) (hs : ∀ env : Env, starEach [a, b, d] env = (false, eval a env) :: starEach [b, d] env) (hs2 : ∀ env : Env, starEach [b, d] env = (false, eval b env) :: starEach [d] env) (hs3 : ∀ env : Env, starEach [d] env = (false, eval d env) :: starEach [] env) :
    PD S Γ 0 (.Tuple [a, b, d] kx pos) (cT3 c1 c2 c3) (· = (x, y, z)) := pd_t3' (k1 := 0) (k2 := 0) (k3 := 0) ha hb hd hs hs2 hs3
/-- a list, item by item -/
inductive PDL {α : Type} (S : Stc) (Γ : Ctxt) (c : Cod α) : List Expr → List α → Prop
  | nil : PDL S Γ c [] []
  | cons {e : Expr} {es : List Expr} {x : α} {xs : List α} : PD S Γ 0 e c (· = x) → PDL S Γ c es xs → (∀ env : Env, starEach (e :: es) env = (false, eval e env) :: starEach es env) → PDL S Γ c (e :: es) (x :: xs)
theorem PDL.pda {es : List Expr} {xs : List α} (h : PDL S Γ c es xs) : PDA S Γ 0 es (· = xs.map fun x => Sl.d c x) := by
  induction h with
  | nil => exact pda_nil
  | cons h _ hs ih => exact pda_more (k1 := 0) (k2 := 0) h ih hs
theorem plst {xs : List α} (h : PDL S Γ c es xs) (hl : xs.length ≤ 1000) : PDF S Γ 0 (.List es pos) c (· = xs) := pdf_lst h.pda fun as e => ⟨xs, e, hl, rfl⟩
theorem ptup {kx : Nat} {xs : List α} (h : PDL S Γ c es xs) (hl : xs.length ≤ 1000) : PD S Γ 0 (.Tuple es kx pos) (cTup c) (· = xs) := pd_tupl h.pda fun as e => ⟨xs, e, hl, rfl⟩
theorem pcat {xs ys : List α} (ha : PD S Γ 0 a (cList c) (· = xs)) (hb : PD S Γ 0 b (cList c) (· = ys)) (lb : xs.length + ys.length ≤ LB) : PDF S Γ 0 (.BinOp a .Add b pos) c (· = xs ++ ys) := pdf_cat (k1 := 0) (k2 := 0) ha hb lb
theorem pcall {ps : Addr → A → Ctxt} {kf : A → Nat} {pre : A → Prop} {g : A → ρ} {l : Ctxt} {f : Addr} {fd : FuncData} {pn' : List Str} {x : Str} {lv : Nat} (F : FnOk S.prog S.w S.K S.mg S.base CX0 lv f fd pn' (spD ps (fun _ => 0) pre cr (fun a x => x = g a))) (hl : lv ≤ S.lv) (hg : S.sc.names.lookup x = some .globalImplicit)
    (hm : S.mg x = some (.ref f)) (hk : PySem.W.keepIn S.K (.ref f) = true) (hb : Binds S.K fd pn' []) (h : PDA S Γ 0 (e :: es) (· = l)) (a : A) (b : Addr) (hc : l = ps b a) (hp : pre a)
    (he : ∀ env : Env, starEach (e :: es) env = (false, eval e env) :: starEach es env) (hpl : ∀ env : Env, (backTo pos (starEach es env)).any (·.1) = false) (hdb : (x == ("__debug__" : Str)) = false := by decide) : PD S Γ 0 (.Call (.Name x pn) (e :: es) [] pos) cr (· = g a) :=
  pd_call (k1 := 0) (k2 := 0) F hl hg hm hk hb h (fun as e => ⟨a, b, e.trans hc, hp, Nat.le_refl _, fun _ h => h⟩) he hpl hdb
theorem pb1 {r : List V → Hp → VK → Prop} {nm : Str} {id : String} (hc : ∀ X, Good S X → CallR X (.builtin id) r) (hg : S.sc.names.lookup nm = some .globalImplicit) (hm : S.mg nm = none) (hv : bootBuiltins nm = some (.builtin id)) (h : PD S Γ 0 e c1 (· = x)) (hr : RC1 r c1 x c3 P3)
    (he : ∀ env : Env, starEach [e] env = (false, eval e env) :: starEach [] env) (hn : nm ≠ "__name__" := by decide) (hdb : (nm == ("__debug__" : Str)) = false := by decide) : PD S Γ 0 (.Call (.Name nm pn) [e] [] pos) c3 P3 :=
  pd_b1 hc hg hm hv h (fun _ h => by subst h; exact hr) he hn hdb
theorem py1 {r : List V → Hp → VK → Prop} {nm : Str} {T : String} (hc : ∀ X, Good S X → CallR X (.type T) r) (hg : S.sc.names.lookup nm = some .globalImplicit) (hm : S.mg nm = none) (hv : bootBuiltins nm = some (.type T)) (h : PD S Γ 0 e c1 (· = x)) (hr : RC1 r c1 x c3 P3)
    (he : ∀ env : Env, starEach [e] env = (false, eval e env) :: starEach [] env) (hn : nm ≠ "__name__" := by decide) (hdb : (nm == ("__debug__" : Str)) = false := by decide) : PD S Γ 0 (.Call (.Name nm pn) [e] [] pos) c3 P3 :=
  pd_y1 hc hg hm hv h (fun _ h => by subst h; exact hr) he hn hdb
theorem pfb1 {r : List V → Hp → VK → Prop} {R : List γ → Prop} {nm : Str} {id : String} (hc : ∀ X, Good S X → CallR X (.builtin id) r) (hg : S.sc.names.lookup nm = some .globalImplicit) (hm : S.mg nm = none) (hv : bootBuiltins nm = some (.builtin id)) (h : PD S Γ 0 e c1 (· = x)) (hr : RC1F r c1 x c3 R)
    (he : ∀ env : Env, starEach [e] env = (false, eval e env) :: starEach [] env) (hn : nm ≠ "__name__" := by decide) (hdb : (nm == ("__debug__" : Str)) = false := by decide) : PDF S Γ 0 (.Call (.Name nm pn) [e] [] pos) c3 R :=
  pdf_b1 hc hg hm hv h (fun _ h => by subst h; exact hr) he hn hdb
theorem pfy1 {r : List V → Hp → VK → Prop} {R : List γ → Prop} {nm : Str} {T : String} (hc : ∀ X, Good S X → CallR X (.type T) r) (hg : S.sc.names.lookup nm = some .globalImplicit) (hm : S.mg nm = none) (hv : bootBuiltins nm = some (.type T)) (h : PD S Γ 0 e c1 (· = x)) (hr : RC1F r c1 x c3 R)
    (he : ∀ env : Env, starEach [e] env = (false, eval e env) :: starEach [] env) (hn : nm ≠ "__name__" := by decide) (hdb : (nm == ("__debug__" : Str)) = false := by decide) : PDF S Γ 0 (.Call (.Name nm pn) [e] [] pos) c3 R :=
  pdf_y1 hc hg hm hv h (fun _ h => by subst h; exact hr) he hn hdb
theorem prng1 {tg : Expr} {i : Int} (hg : S.sc.names.lookup ("range" : Str) = some .globalImplicit) (hm : S.mg "range" = none) (h : PD S Γ 0 a cInt (· = i)) (hi : -4611686018427387904 ≤ i ∧ i ≤ 1000000) (hs : ∀ env : Env, starEach [a] env = [(false, eval a env)]) : PDI S Γ 0 tg (.Call (.Name "range" pn) [a] [] pos) cInt (· = rangeL 0 i.toNat) :=
  pdi_range1 hg hm (pda_one h hs) (fun as e => ⟨i, e, hi.1, hi.2, rfl⟩) hs
theorem prng2 {tg : Expr} {i j : Int} (hg : S.sc.names.lookup ("range" : Str) = some .globalImplicit) (hm : S.mg "range" = none) (h : PD S Γ 0 a cInt (· = i)) (h' : PD S Γ 0 b cInt (· = j)) (hi : -1000000000 ≤ i ∧ i ≤ 1000000000 ∧ -1000000000 ≤ j ∧ j ≤ 1000000000 ∧ j - i ≤ 1000000) (hs : ∀ env : Env, starEach [a, b] env = [(false, eval a env), (false, eval b env)]) (hs2 : ∀ env : Env, starEach [b] env = [(false, eval b env)]) :
    PDI S Γ 0 tg (.Call (.Name "range" pn) [a, b] [] pos) cInt (· = rangeL i (j - i).toNat) :=
  pdi_range2 hg hm (pda_more (k1 := 0) (k2 := 0) h (pda_one h' hs2) fun env => by rw [hs, hs2]) (fun as e => ⟨i, j, e, hi.1, hi.2.1, hi.2.2.1, hi.2.2.2.1, hi.2.2.2.2, rfl⟩) hs hs2
/-! ### comprehensions: filter and map -/
theorem tdf_lcT {elt tg iter : Expr} {ifs : List Expr} {scope : Scope} {own : List (Str × Nat)} {xs : List α} {f : α → β} {q : α → Bool} (hw : PDI S Γ k tg iter c (· = xs)) (nv : NoBxs Γ (own.map (·.2)))
    (hs : ∀ x, x ∈ xs → ∃ Γ1 is, PDG (S.blk scope) tg c x (wipeC Γ (own.map (·.2))) Γ1 is ∧ (∀ i ∈ is, i ∈ own.map (·.2)) ∧ TDT (tTs (S.blk scope) ifs) Γ1 0 (· = q x) ∧ (q x = true → PD (S.blk scope) Γ1 0 elt c' (· = f x))) :
    TDF (lcRd S tg iter ifs elt scope own) Γ k c' (· = (xs.filter q).map f) := tdf_lc' f q hw (noBxs_mem nv) hs
theorem tdf_lcN {elt tg iter : Expr} {scope : Scope} {own : List (Str × Nat)} {xs : List α} {f : α → β} (hw : PDI S Γ k tg iter c (· = xs)) (nv : NoBxs Γ (own.map (·.2)))
    (hs : ∀ x, x ∈ xs → ∃ Γ1 is, PDG (S.blk scope) tg c x (wipeC Γ (own.map (·.2))) Γ1 is ∧ (∀ i ∈ is, i ∈ own.map (·.2)) ∧ PD (S.blk scope) Γ1 0 elt c' (· = f x)) :
    TDF (lcRd S tg iter [] elt scope own) Γ k c' (· = xs.map f) := (tdf_lcT (q := fun _ => true) hw nv fun x hx => by
    obtain ⟨Γ1, is, h1, h2, h3⟩ := hs x hx
    exact ⟨Γ1, is, h1, h2, tts_nil, fun _ => h3⟩).imp fun ys e => by rw [e]; congr 1; simp
theorem plcT (own : List (Str × Nat)) {elt tg iter : Expr} {ifs : List Expr} {scope : Scope} {xs : List α} {f : α → β} {q : α → Bool} (hw : PDI S Γ k tg iter c (· = xs)) (nv : NoBxs Γ (own.map (·.2))) (ok : blkC S.N S.sc scope own = true) (hfs : ∀ (env : Env) x, foldedSetIterable iter env x = pure x)
    (hs : ∀ x, x ∈ xs → ∃ Γ1 is, PDG (S.blk scope) tg c x (wipeC Γ (own.map (·.2))) Γ1 is ∧ (∀ i ∈ is, i ∈ own.map (·.2)) ∧ TDT (tTs (S.blk scope) ifs) Γ1 0 (· = q x) ∧ (q x = true → PD (S.blk scope) Γ1 0 elt c' (· = f x))) :
    PDF S Γ k (.ListComp elt [⟨tg, iter, ifs, 0⟩] scope pos) c' (· = (xs.filter q).map f) := pdf_lc ok hfs (tdf_lcT hw nv hs)
theorem plcN (own : List (Str × Nat)) {elt tg iter : Expr} {scope : Scope} {xs : List α} {f : α → β} (hw : PDI S Γ k tg iter c (· = xs)) (nv : NoBxs Γ (own.map (·.2))) (ok : blkC S.N S.sc scope own = true) (hfs : ∀ (env : Env) x, foldedSetIterable iter env x = pure x)
    (hs : ∀ x, x ∈ xs → ∃ Γ1 is, PDG (S.blk scope) tg c x (wipeC Γ (own.map (·.2))) Γ1 is ∧ (∀ i ∈ is, i ∈ own.map (·.2)) ∧ PD (S.blk scope) Γ1 0 elt c' (· = f x)) :
    PDF S Γ k (.ListComp elt [⟨tg, iter, [], 0⟩] scope pos) c' (· = xs.map f) := pdf_lc ok hfs (tdf_lcN hw nv hs)
/-! ### blocks -/
variable {st : Stmt} {sts sts2 rest : List Stmt} {N1 : Ctxt → Prop}
theorem bset (i : Nat) {nm : Str} (h : PD S Γ k e c P) (nb : NoBx Γ i) (hi : S.N[i]? = some nm) (hx : Loc S.sc nm) (hs : ∀ env : Env, env.scope = S.sc → swapsWith e (some (.Name nm pos')) pos.line env = pure false) (hf : S.fn nm = true ∨ S.sc.names.lookup nm = some .local) (hr : ∀ x, P x → PHs S (Γ.set i (.d c x)) k2 rest p) : PHs S Γ (k + k2) (.Assign [.Name nm pos'] e pos :: rest) p :=
  phs_cons (N1 := fun G => ∃ x, P x ∧ G = Γ.set i (.d c x)) (ph_set h nb (fun y hy => ⟨y, hy, rfl⟩) hi hx hs hf) fun Γ1 ⟨x, hx, e⟩ => by subst e; exact hr x hx
theorem bsetL (i : Nat) {nm : Str} {R : List α → Prop} (h : PDF S Γ k e c R) (nb : NoBx Γ i) (hi : S.N[i]? = some nm) (hx : Loc S.sc nm) (hs : ∀ env : Env, env.scope = S.sc → swapsWith e (some (.Name nm pos')) pos.line env = pure false) (hf : S.fn nm = true ∨ S.sc.names.lookup nm = some .local) (hr : ∀ x, R x → PHs S (Γ.set i (.l c x)) k2 rest p) : PHs S Γ (k + k2) (.Assign [.Name nm pos'] e pos :: rest) p :=
  phs_cons (N1 := fun G => ∃ x, R x ∧ G = Γ.set i (.l c x)) (ph_setL h nb (fun y hy => ⟨y, hy, rfl⟩) hi hx hs hf) fun Γ1 ⟨x, hx, e⟩ => by subst e; exact hr x hx
theorem bsetLc (i : Nat) {nm : Str} {py : Pos} {elt tg iter : Expr} {ifs : List Expr} {scope : Scope} (own : List (Str × Nat)) {R : List β → Prop} (h : TDF (lcRd S tg iter ifs elt scope own) Γ k c' R) (nb : NoBx Γ i) (hi : S.N[i]? = some nm) (hyl : S.sc.names.lookup nm = some .local) (hl : (py.line == pos.line) = true) (hk : S.sc.kind = .function)
    (ha : (scope.names.any fun (n, k) => n == nm && (k == .local || k == .cell)) = false) (ok : blkC S.N S.sc scope own = true) (hfs : ∀ (env : Env) x, foldedSetIterable iter env x = pure x) (hr : ∀ x, R x → PHs S (Γ.set i (.d (cList c') x)) k2 rest p) : PHs S Γ (k + k2) (.Assign [.Name nm py] (.ListComp elt [⟨tg, iter, ifs, 0⟩] scope pos) pos' :: rest) p :=
  phs_cons (N1 := fun G => ∃ x, R x ∧ G = Γ.set i (.d (cList c') x)) (ph_setLc h nb (fun y hy => ⟨y, hy, rfl⟩) hi hyl hl hk ha ok hfs) fun Γ1 ⟨x, hx, e⟩ => by subst e; exact hr x hx
theorem bret {R' : ρ → Prop} (h : PD S Γ k e p.c R') (hr : ∀ x, R' x → p.R x) : PHs S Γ k [.Return (some e) pos] p := phs_one (ph_ret' h hr)
/-- if e: .. return ..; rest -/
theorem bifR {b' : Bool → Prop} (h : PDT S Γ k1 e b') (ha : b' true → PHs S Γ k2 sts { p with N := fun _ => False }) (hb : b' false → PHs S Γ k3 rest p) : PHs S Γ (k1 + k2 + k3) (.If e sts [] pos :: rest) p :=
  phs_cons (N1 := fun G => b' false ∧ G = Γ) (k1 := k1 + k2) (HS.le (ph_if (k2 := k2) (k3 := 0) h (fun q => (ha q).imp (N' := fun G => b' false ∧ G = Γ) fun _ z => z.elim) fun q => phs_nil ⟨q, rfl⟩) (by omega)) fun Γ1 ⟨q, e⟩ => by subst e; exact hb q
theorem bfor {tg iter : Expr} {X' : List α → Prop} {kn : Nat} (vs : List Nat) (I : List α → List α → Ctxt → Prop) (hw : PDI S Γ k tg iter c X') (h0 : ∀ xs, X' xs → I xs [] Γ) (hk : ∀ xs, X' xs → xs.length * kk ≤ kn)
    (hs : ∀ xs, X' xs → ∀ pre x post Γ1, xs = pre ++ x :: post → I xs pre Γ1 → ∃ Γ2 is, PDG S tg c x Γ1 Γ2 is ∧ PHs S Γ2 kk sts { N := fun Γ' => NoBxs Γ' vs ∧ I xs (pre ++ [x]) (wipeC Γ' vs), ct := I xs (pre ++ [x]), bk := fun _ => False, c := p.c, R := p.R })
    (hfs : ∀ (env : Env) x, foldedSetIterable iter env x = pure x) (hr : ∀ xs Γ1, X' xs → I xs xs Γ1 → PHs S Γ1 k2 rest p) : PHs S Γ (k + kn + k2) (.For tg iter sts [] pos :: rest) p :=
  phs_cons (N1 := fun G => ∃ xs, X' xs ∧ I xs xs G) (ph_forV vs I hw h0 hk (fun xs hx pre x post Γ1 e hI => by
    obtain ⟨Γ2, is, g, h⟩ := hs xs hx pre x post Γ1 e hI
    exact ⟨Γ2, is, g, fun O n σ Hf H hn s D q1 q2 q3 q4 => h O n σ Hf H hn s D q1 (fun _ _ _ _ z _ => z.elim) q3 q4⟩) (fun xs Γ1 hx hI => ⟨xs, hx, hI⟩) hfs) fun Γ1 ⟨xs, hx, hI⟩ => hr xs Γ1 hx hI
theorem bappend (i : Nat) {nm : Str} {xs : List α} {p1 p2 : Pos} (hΓ : Γ[i]? = some (.l c xs)) (he : PD S Γ k e c P) (lb : xs.length + 1 ≤ LB) (hN : S.N[i]? = some nm) (hv : Vis S.sc nm)
    (hfew : ∀ env : Env, ((backTo p2 (starEach [e] env)).all (fun x => !x.1) && (backToKw p2 (keywordEach [] env)).all (fun x => x.1.isSome) && decide ([e].length + ([] : List Keyword).length + (if ([] : List Keyword).isEmpty then 0 else 1) < 30)) = true)
    (hline : (p1.endLine == p2.line) = true) (hs : ∀ env : Env, starEach [e] env = (false, eval e env) :: starEach [] env) (hsw : ∀ env : Env, swapsWith (.Call (.Attribute (.Name nm pos') "append" p1) [e] [] p2) none pos.line env = pure false)
    (hr : ∀ y, P y → PHs S (Γ.set i (.l c (xs ++ [y]))) k2 rest p) (hd : (nm == ("__debug__" : Str)) = false := by decide) (hcd : (nm == ("__classdict__" : Str)) = false := by decide) :
    PHs S Γ (k + k2) (.Expr (.Call (.Attribute (.Name nm pos') "append" p1) [e] [] p2) pos :: rest) p :=
  phs_cons (N1 := fun G => ∃ y, P y ∧ G = Γ.set i (.l c (xs ++ [y]))) (ph_append hΓ (by unfold NoBx; rw [hΓ]; trivial) he lb (fun y hy => ⟨y, hy, rfl⟩) hN hv hfew hline hs hsw hd hcd) fun Γ1 ⟨x, hx, e⟩ => by subst e; exact hr x hx
theorem bretL (i : Nat) {nm : Str} {xs : List α} (hΓ : Γ[i]? = some (.l c xs)) (hN : S.N[i]? = some nm) (hv : Vis S.sc nm) (hr : ∀ H v, (cList c).rep H v xs → ∃ y, p.R y ∧ p.c.rep H v y) (hd : (nm == ("__debug__" : Str)) = false := by decide) (hcd : (nm == ("__classdict__" : Str)) = false := by decide) : PHs S Γ 0 [.Return (some (.Name nm pos')) pos] p :=
  phs_one (ph_ret_l hΓ (by unfold NoBx; rw [hΓ]; trivial) hN hv hr hd hcd)
theorem kcl : (some NameKind.cell == some NameKind.local) = false := rfl
theorem sw_cell {sc : Scope} {nm : Str} {v : Expr} {l : Nat} {pp : Pos} (h : sc.names.lookup nm = some .cell) (env : Env) (he : env.scope = sc) : swapsWith v (some (.Name nm pp)) l env = pure false := by
  have ek : env.kindOf nm = some .cell := by show env.scope.names.lookup nm = _; rw [he]; exact h
  cases v <;> first | rfl | (show (pure (env.blockKind == ScopeKind.function && env.kindOf nm == some .local && _ && _) : Sem Bool) = pure false; rw [ek, kcl, Bool.and_false, Bool.false_and, Bool.false_and])
end
end DL

set_option Elab.async false
set_option linter.all false
set_option maxRecDepth 100000
set_option maxHeartbeats 2000000
namespace DL
open PySem PySem.Spec L2
/-- a list or a tuple -/
def cSeq {α : Type} (c : Cod α) : Cod (List α) := ⟨fun H v xs => (cList c).rep H v xs ∨ (cTup c).rep H v xs, fun e h => h.imp ((cList c).mono e) ((cTup c).mono e)⟩
section
variable {S : Stc} {X : Cx}
variable {Γ Γ1 Γ2 Γ3 : Ctxt} {k k1 k2 k3 kk kt ke : Nat} {A α β γ ρ : Type} {c : Cod α} {c' : Cod β} {cr : Cod ρ} {c1 : Cod α} {c2 : Cod β} {c3 : Cod γ} {P P1 : α → Prop} {P2 : β → Prop} {P3 : γ → Prop} {te to ti : TE} {tt : TT} {t u : TS} {p : Po ρ} {ta tx : TA} {e a b d : Expr} {es : List Expr} {pos pos' pn pt : Pos}
variable {x : α} {y : β} {z : γ}
theorem TD.seqL {xs : List α → Prop} (h : TD te Γ k (cList c) xs) : TD te Γ k (cSeq c) xs := h.conv fun H v x px r => ⟨x, px, .inl r⟩
theorem TD.seqT {xs : List α → Prop} (h : TD te Γ k (cTup c) xs) : TD te Γ k (cSeq c) xs := h.conv fun H v x px r => ⟨x, px, .inr r⟩
theorem sq_seq {K : PySem.W.Frag} {Hf H : Hp} {v : V} {xs : List α} (e : Ex Hf H) (h : (cSeq c).rep Hf v xs) : ∃ a vs, v = .ref a ∧ (SqL K H a vs ∨ SqT K H a vs) ∧ Paired (c.rep Hf) vs xs ∧ vs.length ≤ LB := by
  rcases h with ⟨a, vs, h1, h2, h3, h4⟩ | ⟨a, vs, h1, h2, h3, h4⟩
  · exact ⟨a, vs, h1, .inl (SqL.of (e _ _ h2)), h3, h4⟩
  · exact ⟨a, vs, h1, .inr (SqT.of (e _ _ h2)), h3, h4⟩
abbrev rLenR (K : PySem.W.Frag) : List V → Hp → VK → Prop := fun xs H Q => ∃ p ys, xs = [.ref p] ∧ (SqL K H p ys ∨ SqT K H p ys) ∧ Q (.int ys.length) H
abbrev rListR (K : PySem.W.Frag) : List V → Hp → VK → Prop := fun xs H Q => ∃ p ys, xs = [.ref p] ∧ (SqL K H p ys ∨ SqT K H p ys) ∧ ∀ l, H l = none → Q (.ref l) (upd H l (.lst ys))
abbrev rTupR (K : PySem.W.Frag) : List V → Hp → VK → Prop := fun xs H Q => ∃ p ys, xs = [.ref p] ∧ ((SqL K H p ys ∧ ∀ l, H l = none → Q (.ref l) (upd H l (.tup ys))) ∨ (SqT K H p ys ∧ Q (.ref p) H))
theorem rc_len {K : PySem.W.Frag} {xs : List α} : RC1 (rLenR K) (cSeq c) xs cInt (· = (xs.length : Int)) := fun Hf H v e h Q q => by
  obtain ⟨a, vs, h1, h2, h3, _⟩ := sq_seq (K := K) e h
  exact ⟨a, vs, by rw [h1], h2, q _ Hf H _ rfl (by rw [paired_len h3]; rfl) Fr.refl e⟩
theorem rc_list {K : PySem.W.Frag} {xs : List α} : RC1F (rListR K) (cSeq c) xs c (· = xs) := fun Hf H v e h Q q => by
  obtain ⟨a, vs, h1, h2, h3, h4⟩ := sq_seq (K := K) e h
  exact ⟨a, vs, by rw [h1], h2, fun l hl => q l vs xs rfl hl h3 h4⟩
theorem rc_tuple {K : PySem.W.Frag} {xs : List α} : RC1 (rTupR K) (cSeq c) xs (cTup c) (· = xs) := fun Hf H v e h Q q => by
  rcases h with ⟨a, vs, h1, h2, h3, h4⟩ | ⟨a, vs, h1, h2, h3, h4⟩
  · refine ⟨a, vs, by rw [h1], .inl ⟨SqL.of (e _ _ h2), fun l hl => ?_⟩⟩
    exact q xs (upd Hf l (.tup vs)) _ _ rfl ⟨l, vs, rfl, upd_same, paired_mono h3 (fun _ _ z => c.mono (Ex.new (e.back hl)) z), h4⟩ (Fr.new e hl) (e.both (e.back hl))
  · exact ⟨a, vs, by rw [h1], .inr ⟨SqT.of (e _ _ h2), q xs Hf H _ rfl ⟨a, vs, rfl, h2, h3, h4⟩ Fr.refl e⟩⟩
theorem listG : ∀ X, Good S X → CallR X (.type "list") (rListR S.K) := fun X G => by rw [← G.K]; exact call_list_of
theorem tupG : ∀ X, Good S X → CallR X (.type "tuple") (rTupR S.K) := fun X G => by rw [← G.K]; exact call_tuple_of
variable {xs : List α}
theorem plen (hg : S.sc.names.lookup ("len" : Str) = some .globalImplicit) (hm : S.mg "len" = none) (h : PD S Γ 0 e (cSeq c) (· = xs)) (he : ∀ env : Env, starEach [e] env = (false, eval e env) :: starEach [] env) : PD S Γ 0 (.Call (.Name "len" pn) [e] [] pos) cInt (· = (xs.length : Int)) := pb1 lenG hg hm PySem.boot_len h rc_len he
theorem plist (hg : S.sc.names.lookup ("list" : Str) = some .globalImplicit) (hm : S.mg "list" = none) (h : PD S Γ 0 e (cSeq c) (· = xs)) (he : ∀ env : Env, starEach [e] env = (false, eval e env) :: starEach [] env) : PDF S Γ 0 (.Call (.Name "list" pn) [e] [] pos) c (· = xs) := pfy1 listG hg hm PyProof.Rows.boot_list h rc_list he
theorem ptuple (hg : S.sc.names.lookup ("tuple" : Str) = some .globalImplicit) (hm : S.mg "tuple" = none) (h : PD S Γ 0 e (cSeq c) (· = xs)) (he : ∀ env : Env, starEach [e] env = (false, eval e env) :: starEach [] env) : PD S Γ 0 (.Call (.Name "tuple" pn) [e] [] pos) (cTup c) (· = xs) := py1 tupG hg hm PyProof.Rows.boot_tuple h rc_tuple he
/-- walks over either -/
theorem pdi_seq {tg : Expr} {R : List α → Prop} (h : PD S Γ k e (cSeq c) R) : PDI S Γ k tg e c R := fun O n σ Hf H hn s Rr q => by
  obtain hh := h O n σ Hf H hn s
  -- the reading of e decides which rule walks
  refine ⟨fun σ H R => tE S e σ H fun v H1 => ∃ a, v = .ref a ∧ ((∃ vs, SqL S.K H1 a vs) ∧ R (Itl S.K a) H1 ∨ (∃ vs, SqT S.K H1 a vs) ∧ R (Itt S.K a) H1), fun X G => ?_, ?_⟩
  · refine ⟨fun pins s σ H R I w => ?_⟩
    refine thn ((tE_ok G).run pins s σ H _ I w) fun v s1 ⟨x, H1, I1, r1, a, ex, q1⟩ => ?_
    subst ex
    have hK := G.K
    rcases q1 with ⟨⟨vs, hs⟩, q1⟩ | ⟨⟨vs, hs⟩, q1⟩
    · have one : PE X e (fun σ H Q => tE S e σ H Q) := tE_ok G
      cases r1
      rw [← hK] at hs q1
      obtain ⟨its, rv, p, hz⟩ := I1.list hs
      refine wpAny_pyIter_list p.isList ?_
      refine ⟨s1.heap.objs.size, [s1.heap.objs.size], _, _, H1, rfl, I1.kept (t' := s1.toks) fun b o e => Heap.get?_push_of_some _ e, turn_list a _, ⟨_, Heap.get?_push_size _ rfl, rfl, rfl⟩, fun b hb => ?_, q1⟩
      have e : b = s1.heap.objs.size := by simpa using hb
      subst e
      exact I1.fpOk (Nat.le_refl _) (I1.hok.fresh (Nat.le_refl _))
    · cases r1
      rw [← hK] at hs q1
      obtain ⟨its, rv, p, hz⟩ := I1.tuple hs
      refine wpAny_pyIter_tuple (show s1.heap.IsTuple a its.toArray from p) ?_
      refine ⟨s1.heap.objs.size, [s1.heap.objs.size], _, _, H1, rfl, I1.kept (t' := s1.toks) fun b o e => Heap.get?_push_of_some _ e, turn_tuple a _, ⟨_, Heap.get?_push_size _ rfl, rfl, rfl⟩, fun b hb => ?_, q1⟩
      have e : b = s1.heap.objs.size := by simpa using hb
      subst e
      exact I1.fpOk (Nat.le_refl _) (I1.hok.fresh (Nat.le_refl _))
  · refine hh _ fun v Hf' H' xs px r f s' => ?_
    rcases r with ⟨a, vs, h1, h2, h3, h4⟩ | ⟨a, vs, h1, h2, h3, h4⟩
    · refine ⟨a, h1, .inl ⟨⟨vs, SqL.of (s'.ex _ _ h2)⟩, q _ Hf' H' xs px ?_ (by rw [← paired_len h3]; exact h4) f s'⟩⟩
      have hl := paired_len h3
      exact ⟨fun Hf2 H2 i e1 e2 hi => ⟨vs, vs[i]'(by omega), SqL.of (e2 _ _ (e1 _ _ h2)), List.getElem?_eq_getElem (by omega)⟩, fun Hf2 H2 e1 e2 => ⟨vs, SqL.of (e2 _ _ (e1 _ _ h2)), by omega⟩, fun Hf2 H2 i w H1 x e1 e2 hy hx => by
        obtain ⟨rfl, hy⟩ := hy
        exact ⟨Hf2, c.mono e1 (paired_get h3 (hy vs (SqL.of (e2 _ _ (e1 _ _ h2)))) hx), Fr.refl, e2⟩⟩
    · refine ⟨a, h1, .inr ⟨⟨vs, SqT.of (s'.ex _ _ h2)⟩, q _ Hf' H' xs px ?_ (by rw [← paired_len h3]; exact h4) f s'⟩⟩
      have hl := paired_len h3
      exact ⟨fun Hf2 H2 i e1 e2 hi => ⟨vs, vs[i]'(by omega), SqT.of (e2 _ _ (e1 _ _ h2)), List.getElem?_eq_getElem (by omega)⟩, fun Hf2 H2 e1 e2 => ⟨vs, SqT.of (e2 _ _ (e1 _ _ h2)), by omega⟩, fun Hf2 H2 i w H1 x e1 e2 hy hx => by
        obtain ⟨rfl, hy⟩ := hy
        exact ⟨Hf2, c.mono e1 (paired_get h3 (hy vs (SqT.of (e2 _ _ (e1 _ _ h2)))) hx), Fr.refl, e2⟩⟩
end
end DL

set_option Elab.async false
set_option linter.all false
set_option maxRecDepth 100000
set_option maxHeartbeats 2000000
namespace DL
open PySem PySem.Spec L2 StX
section
variable {S : Stc} {X : Cx}
variable {Γ Γ1 Γ2 Γ3 : Ctxt} {k k1 k2 k3 kk kt ke : Nat} {A α β γ ρ : Type} {c : Cod α} {c' : Cod β} {cr : Cod ρ} {c1 : Cod α} {c2 : Cod β} {c3 : Cod γ} {P P1 : α → Prop} {P2 : β → Prop} {P3 : γ → Prop} {te to ti : TE} {tt : TT} {t u : TS} {p : Po ρ} {ta tx : TA} {e a b d : Expr} {es : List Expr} {pos pos' pn pt : Pos}
variable {x : α} {y : β} {z : γ} {xs : List α}
/-! ### isinstance -/
/-- the class of such data -/
def TyC {α : Type} (K : PySem.W.Frag) (c : Cod α) (x : α) (t : Value) : Prop := ∀ H v, c.rep H v x → TyX K H v t
variable {K : PySem.W.Frag}
theorem ty_int {i : Int} : TyC K cInt i (.type "int") := fun H v h => by obtain rfl := h; exact .base (.int i)
theorem ty_bool {i : Bool} : TyC K cBool i (.type "bool") := fun H v h => by obtain rfl := h; exact .base (.bl i)
theorem ty_str {i : Str} : TyC K cStr i (.type "str") := fun H v h => by obtain rfl := h; exact .base (.str i)
theorem ty_list : TyC K (cList c) xs (.type "list") := fun H v ⟨a, vs, h1, h2, _⟩ => by subst h1; exact .base (.lst h2)
theorem ty_tup : TyC K (cTup c) xs (.type "tuple") := fun H v ⟨a, vs, h1, h2, _⟩ => by subst h1; exact .base (.tup h2)
theorem ty_t2 {w : α × β} : TyC K (cT2 c1 c2) w (.type "tuple") := fun H v ⟨a, _, _, h1, h2, _⟩ => by subst h1; exact .base (.tup h2)
theorem ty_t3 {w : α × β × γ} : TyC K (cT3 c1 c2 c3) w (.type "tuple") := fun H v ⟨a, _, _, _, h1, h2, _⟩ => by subst h1; exact .base (.tup h2)
structure OwnC (K : PySem.W.Frag) (C : Addr) : Prop where
  cl : Cls K C
  ha : PySem.W.findIn K (.ref C) "__class__" = some (some (.builtin "object.__class__"))
  hn : PySem.W.specialIn K (.builtin "object.__class__") "__get__" = some (some (.builtin "getset_descriptor.__get__"))
  ht : PySem.W.takesIn K (.builtin "object.__class__") = some true
  hm : PySem.W.mroIn K C (.type "object") = some true
theorem ty_ins {C : Addr} {ω : Type} {F : Hp → List (Str × V) → ω → Prop} {hm : ∀ {H H' fs y}, Ex H H' → F H fs y → F H' fs y} {y : ω} (o : OwnC K C) : TyC K (cIns C F hm) y (.ref C) := fun H v ⟨a, dx, fs, h1, h2, _⟩ => by subst h1; exact .base (.ins h2 o.cl o.ha o.hn o.ht o.hm)
/-- isinstance(e, T), T the name of a built-in type or of an own class -/
theorem pisi {T : Str} {cv : V} {u ty : Value} {r : Bool} {p1 p2 : Pos} (hg : S.sc.names.lookup ("isinstance" : Str) = some .globalImplicit) (hm : S.mg "isinstance" = none) (h : PD S Γ 0 e c (· = x)) (hT : ∀ X, Good S X → PE X (.Name T p2) (tC cv)) (hc : ClsV cv u) (ht : TyC S.K c x ty) (hk : PySem.W.kitOne S.K ty u = some r)
    (he : ∀ env : Env, starEach [e, .Name T p2] env = (false, eval e env) :: starEach [.Name T p2] env) : PD S Γ 0 (.Call (.Name "isinstance" p1) [e, .Name T p2] [] pos) cBool (· = r) :=
  pd_of (te := tCB (rIsi S.K) (tCons (tE S e) (tCons (tC cv) tNil))) (fun X G => by
    rw [← G.K]
    exact pe_callB call_isi (glb G hg) (by rw [G.mg]; exact hm) (by decide +kernel) (pa_cons (tE_ok G) (pa_cons (hT X G) pa_nil) (he _)) (by decide) (by decide) (he _) rfl)
    fun O n σ Hf H hn s Q q => h O n σ Hf H hn s _ fun v Hf' H' y py r' f s' => by
      subst py
      exact ⟨v, cv, ty, u, r, rfl, hc, ht _ _ (c.mono s'.ex r'), hk, q _ Hf' H' r rfl rfl f s'⟩
theorem nmTy {T : Str} {n : String} {p2 : Pos} (hg : S.sc.names.lookup T = some .globalImplicit) (hm : S.mg T = none) (hv : bootBuiltins T = some (.type n)) (hn : T ≠ "__name__" := by decide) (hd : (T == ("__debug__" : Str)) = false := by decide) : ∀ X, Good S X → PE X (.Name T p2) (tC (.ty n)) :=
  fun X G => pe_bltn (glb G hg) (by rw [G.mg]; exact hm) hv rfl hn hd
theorem nmOwn {T : Str} {C : Addr} {p2 : Pos} (hg : S.sc.names.lookup T = some .globalImplicit) (hm : S.mg T = some (.ref C)) (hd : (T == ("__debug__" : Str)) = false := by decide) : ∀ X, Good S X → PE X (.Name T p2) (tC (.ref C)) :=
  fun X G => pe_glob (glb G hg) (by rw [G.mg]; exact hm) rfl hd
/-- isinstance(e, (list, tuple)) -/
theorem pisiLT {p1 p2 p3 p4 : Pos} {kx : Nat} {ty : Value} {r : Bool} (hg : S.sc.names.lookup ("isinstance" : Str) = some .globalImplicit) (hm : S.mg "isinstance" = none) (hgl : S.sc.names.lookup ("list" : Str) = some .globalImplicit) (hml : S.mg "list" = none) (hgt : S.sc.names.lookup ("tuple" : Str) = some .globalImplicit) (hmt : S.mg "tuple" = none)
    (h : PD S Γ 0 e c (· = x)) (ht : TyC S.K c x ty) (hk : PySem.W.kitAny S.K ty [.type "list", .type "tuple"] = some r)
    (he : ∀ env : Env, starEach [e, .Tuple [.Name "list" p2, .Name "tuple" p3] kx p4] env = (false, eval e env) :: starEach [.Tuple [.Name "list" p2, .Name "tuple" p3] kx p4] env) :
    PD S Γ 0 (.Call (.Name "isinstance" p1) [e, .Tuple [.Name "list" p2, .Name "tuple" p3] kx p4] [] pos) cBool (· = r) :=
  pd_of (te := tCB (rIsiT S.K) (tCons (tE S e) (tCons (tTup (tCons (tC (.ty "list")) (tCons (tC (.ty "tuple")) tNil))) tNil))) (fun X G => by
    rw [← G.K]
    exact pe_callB call_isiT (glb G hg) (by rw [G.mg]; exact hm) (by decide +kernel) (pa_cons (tE_ok G) (pa_cons (pe_tup (pa_cons (nmTy hgl hml PyProof.Rows.boot_list (by decide) (by decide) X G) (pa_cons (nmTy hgt hmt PyProof.Rows.boot_tuple (by decide) (by decide) X G) pa_nil))) pa_nil) (he _)) (by decide) (by decide) (he _) rfl)
    fun O n σ Hf H hn s Q q => h O n σ Hf H hn s _ fun v Hf' H' y py r' f s' => by
      subst py
      refine ⟨by show 2 ≤ sizeLine; decide, fun tp htp => ?_⟩
      refine ⟨v, tp, [.ty "list", .ty "tuple"], ty, [.type "list", .type "tuple"], r, rfl, upd_same, .cons (.ty _) (.cons (.ty _) .nil), ht _ _ (c.mono (s'.ex.trans (Ex.new htp)) r'), hk, ?_⟩
      exact q _ (upd Hf' tp (.tup [.ty "list", .ty "tuple"])) _ r rfl rfl (f.trans (Fr.new (M := Bx Γ) s'.ex htp) fun _ z => .inl z) (s'.new htp)
theorem kLT_list : PySem.W.kitAny K (.type "list") [.type "list", .type "tuple"] = some true := kitAny_cons (b := true) (kit_ty (by decide +kernel)) (fun h => by cases h) fun _ => rfl
theorem kLT_tuple : PySem.W.kitAny K (.type "tuple") [.type "list", .type "tuple"] = some true := kitAny_cons (b := false) (kit_ty (by decide +kernel)) (fun _ => kitAny_cons (b := true) (kit_ty (by decide +kernel)) (fun h => by cases h) fun _ => rfl) (fun h => by cases h)
theorem kLT_int : PySem.W.kitAny K (.type "int") [.type "list", .type "tuple"] = some false := kitAny_cons (b := false) (kit_ty (by decide +kernel)) (fun _ => kitAny_cons (b := false) (kit_ty (by decide +kernel)) (fun _ => rfl) (fun h => by cases h)) (fun h => by cases h)
/-! ### all, any, sum, abs, max, min -/
theorem rc_all {K : PySem.W.Frag} {bs : List Bool} : RC1 (rAll K) (cList cBool) bs cBool (· = bs.all id) := fun Hf H v e ⟨a, vs, h1, h2, h3, _⟩ Q q => by
  have := bools_of_paired h3
  subst this
  exact ⟨a, bs, by rw [h1], SqL.of (e _ _ h2), q _ Hf H _ rfl rfl Fr.refl e⟩
theorem rc_any {K : PySem.W.Frag} {bs : List Bool} : RC1 (rAny K) (cList cBool) bs cBool (· = bs.any id) := fun Hf H v e ⟨a, vs, h1, h2, h3, _⟩ Q q => by
  have := bools_of_paired h3
  subst this
  exact ⟨a, bs, by rw [h1], SqL.of (e _ _ h2), q _ Hf H _ rfl rfl Fr.refl e⟩
theorem rc_sum {K : PySem.W.Frag} {ns : List Int} : RC1 (rSum K) (cList cInt) ns cInt (· = ns.sum) := fun Hf H v e ⟨a, vs, h1, h2, h3, _⟩ Q q => by
  have := ints_of_paired h3
  subst this
  exact ⟨a, ns, by rw [h1], SqL.of (e _ _ h2), q _ Hf H _ rfl rfl Fr.refl e⟩
theorem allG : ∀ X, Good S X → CallR X (.builtin "all") (rAll S.K) := fun X G => by rw [← G.K]; exact cr_all G.calm
theorem anyG : ∀ X, Good S X → CallR X (.builtin "any") (rAny S.K) := fun X G => by rw [← G.K]; exact cr_any G.calm
theorem sumG : ∀ X, Good S X → CallR X (.builtin "sum") (rSum S.K) := fun X G => by rw [← G.K]; exact cr_sum G.calm
theorem pall {bs : List Bool} (hg : S.sc.names.lookup ("all" : Str) = some .globalImplicit) (hm : S.mg "all" = none) (h : PD S Γ 0 e (cList cBool) (· = bs)) (he : ∀ env : Env, starEach [e] env = (false, eval e env) :: starEach [] env) : PD S Γ 0 (.Call (.Name "all" pn) [e] [] pos) cBool (· = bs.all id) := pb1 allG hg hm PyProof.Rows.boot_all h rc_all he
theorem pany {bs : List Bool} (hg : S.sc.names.lookup ("any" : Str) = some .globalImplicit) (hm : S.mg "any" = none) (h : PD S Γ 0 e (cList cBool) (· = bs)) (he : ∀ env : Env, starEach [e] env = (false, eval e env) :: starEach [] env) : PD S Γ 0 (.Call (.Name "any" pn) [e] [] pos) cBool (· = bs.any id) := pb1 anyG hg hm PyProof.Rows.boot_any h rc_any he
theorem psum {bs : List Int} (hg : S.sc.names.lookup ("sum" : Str) = some .globalImplicit) (hm : S.mg "sum" = none) (h : PD S Γ 0 e (cList cInt) (· = bs)) (he : ∀ env : Env, starEach [e] env = (false, eval e env) :: starEach [] env) : PD S Γ 0 (.Call (.Name "sum" pn) [e] [] pos) cInt (· = bs.sum) := pb1 sumG hg hm PyProof.Rows.boot_sum h rc_sum he
/-! ### sorted -/
theorem paired_ints {H : Hp} : ∀ ns : List Int, Paired (cInt.rep H) (ns.map V.int) ns
  | [] => .nil
  | _ :: ns => .cons rfl (paired_ints ns)
theorem rc_sortI {K : PySem.W.Frag} {ns : List Int} : RC1F (rSortedI K) (cList cInt) ns cInt (fun ys => ys.Perm ns ∧ ys.Pairwise (· ≤ ·)) := fun Hf H v e ⟨a, vs, h1, h2, h3, h4⟩ Q q => by
  have := ints_of_paired h3
  subst this
  refine ⟨a, ns, by rw [h1], SqL.of (e _ _ h2), fun ns' p hp hs hn => q p _ ns' ⟨hp, hs⟩ hn (paired_ints ns') ?_⟩
  rw [List.length_map, hp.length_eq]
  rw [List.length_map] at h4; exact h4
theorem sortIG : ∀ X, Good S X → CallR X (.builtin "sorted") (rSortedI S.K) := fun X G => by rw [← G.K]; exact cr_sortedI
theorem psortI {ns : List Int} (hg : S.sc.names.lookup ("sorted" : Str) = some .globalImplicit) (hm : S.mg "sorted" = none) (h : PD S Γ 0 e (cList cInt) (· = ns)) (he : ∀ env : Env, starEach [e] env = (false, eval e env) :: starEach [] env) : PDF S Γ 0 (.Call (.Name "sorted" pn) [e] [] pos) cInt (fun ys => ys.Perm ns ∧ ys.Pairwise (· ≤ ·)) := pfb1 sortIG hg hm PyProof.Rows.boot_sorted h rc_sortI he
/-! ### chains of comparisons of ints -/
theorem pchain {op op' : CmpOp} {g g' : Int → Int → Bool} {i j l : Int} (ho : ∀ X : Cx, OpR X (compareOp op) (rI0 fun i j => .bl (g i j))) (ho' : ∀ X : Cx, OpR X (compareOp op') (rI0 fun i j => .bl (g' i j))) (ha : PD S Γ 0 a cInt (· = i)) (hb : PD S Γ 0 b cInt (· = j)) (hd : PD S Γ 0 d cInt (· = l)) (hm : lastMarks [op, op'] [b, d] = false) :
    PD S Γ 0 (.Compare a [op, op'] [b, d] pos) cBool (· = (g i j && g' j l)) :=
  pd_of (fun X G => pe_chain (ho X) (ho' X) (tE_ok G) (tE_ok G) (tE_ok G) hm) fun O n σ Hf H hn s Q q => ha O n σ Hf H hn s _ fun v Hf1 H1 x1 p1 r1 f1 s1 => hb O n σ Hf1 H1 hn s1 _ fun v2 Hf2 H2 x2 p2 r2 f2 s2 => by
    subst p1 p2
    obtain rfl := r1
    obtain rfl := r2
    refine ⟨x1, x2, rfl, rfl, g x1 x2, rfl, ?_⟩
    cases hg : g x1 x2 with
    | true =>
      refine iteT (hd O n σ Hf2 H2 hn s2 _ fun v3 Hf3 H3 x3 p3 r3 f3 s3 => ?_)
      subst p3
      obtain rfl := r3
      exact ⟨x2, x3, rfl, rfl, q _ Hf3 H3 (g' x2 x3) (by rw [hg, Bool.true_and]) rfl ((f1.trans f2 fun _ z => .inl z).trans f3 fun _ z => .inl z) s3⟩
    | false => exact iteF (q _ Hf2 H2 false (by rw [hg, Bool.false_and]) rfl (f1.trans f2 fun _ z => .inl z) s2)
/-! ### tuples put together -/
theorem pap {F : V → α → Prop} : ∀ {l1 l2 : List V} {m1 m2 : List α}, Paired F l1 m1 → Paired F l2 m2 → Paired F (l1 ++ l2) (m1 ++ m2)
  | _, _, _, _, .nil, h => h
  | _, _, _, _, .cons r t, h => .cons r (pap t h)
theorem rd_catT {K : PySem.W.Frag} {xs ys : List α} (lb : xs.length + ys.length ≤ LB) : RD (rCatA K) (cTup c) xs (cTup c) ys (cTup c) (· = xs ++ ys) := fun Hf H v u e ⟨a, vs, h1, h2, h3, h4⟩ ⟨b, us, g1, g2, g3, g4⟩ Q q => by
  have l1 := paired_len h3
  have l2 := paired_len g3
  refine ⟨a, b, vs, us, h1, g1, SqT.of (e _ _ h2), SqT.of (e _ _ g2), lb_line (by omega), fun z => ?_, fun _ z => ?_, fun _ _ p hp => ?_⟩
  · subst z
    cases h3
    exact q ys Hf H _ (by simp) ⟨b, us, rfl, g2, g3, g4⟩ Fr.refl e
  · subst z
    cases g3
    exact q xs Hf H _ (by simp) ⟨a, vs, rfl, h2, h3, h4⟩ Fr.refl e
  · exact q _ (upd Hf p (.tup (vs ++ us))) _ _ rfl ⟨p, vs ++ us, rfl, upd_same, paired_mono (pap h3 g3) (fun _ _ z => c.mono (Ex.new (e.back hp)) z), by rw [List.length_append]; omega⟩ (Fr.new e hp) (e.both (e.back hp))
theorem catTG : ∀ X, Good S X → OpR X (binaryOp .Add) (rCatA S.K) := fun X G => by rw [← G.K]; exact op_catA
/-! ### in a list of data at any depth -/
theorem rd_inD [DecidableEq α] {K : PySem.W.Frag} {x : α} {xs : List α} (q : EqC c) (hn : q.n ≤ 63) : RD (rInD K) c x (cList c) xs cBool (· = decide (x ∈ xs)) := fun Hf H v u e h1 h2 Q k => by
  have hd : (eList q).n ≤ 64 := by show q.n + 1 ≤ 64; omega
  refine ⟨q.D x, xs.map q.D, q.dp K H _ _ (c.mono e h1), (eList q).dp K H _ _ ((cList c).mono e h2), by unfold SeqAt.shaped; rw [q.lay, Bool.true_and]; exact decide_eq_true (Nat.le_trans (q.dep x) (by omega)), by unfold SeqAt.shaped; rw [show (PyData.list (xs.map q.D)).canLay0 = true from (eList q).lay xs, Bool.true_and]; exact decide_eq_true (Nat.le_trans ((eList q).dep xs) hd), ?_⟩
  have : ((xs.map q.D).any fun z => PyData.eqv z (q.D x)) = decide (x ∈ xs) := by
    rw [List.any_map]
    have : ∀ l : List α, (l.any ((fun z => PyData.eqv z (q.D x)) ∘ q.D)) = decide (x ∈ l) := fun l => by
      induction l with
      | nil => simp
      | cons y l ih =>
        rw [List.any_cons, ih]
        show (PyData.eqv (q.D y) (q.D x) || _) = _
        rw [q.eqv]
        by_cases e1 : y = x
        · subst e1; simp
        · have e2 : ¬ x = y := fun z => e1 z.symm
          simp [e1, e2]
    exact this xs
  rw [this]
  exact k _ Hf H _ rfl rfl Fr.refl e
theorem inDG (hl : True) : ∀ X, Good S X → OpR X (compareOp .In) (rInD S.K) := fun X G => by rw [← G.K]; exact op_inD (by have := G.room.un; omega)
/-! ### xs[::-1] -/
theorem prev {kx : Nat} {p1 p2 p3 : Pos} (h : PD S Γ 0 e (cList c) (· = xs)) : PDF S Γ 0 (.Subscript e (.Slice none none (some (.UnaryOp .USub (.Constant (.int 1) kx p1) p2)) p3) pos) c (· = xs.reverse) :=
  pdf_of (te := tRevL S.K (tE S e)) (fun X G => by rw [← G.K]; exact pe_revL (tE_ok G)) fun O n σ Hf H hn s Q q => h O n σ Hf H hn s _ fun v Hf' H' y py ⟨a, vs, h1, h2, h3, h4⟩ f s' => by
    subst py
    refine ⟨a, vs, h1, SqL.of (s'.ex _ _ h2), fun p hp => ?_⟩
    have pr : ∀ {l : List V} {m : List α}, Paired (c.rep Hf') l m → Paired (c.rep Hf') l.reverse m.reverse := fun {l m} w => by
      induction w with
      | nil => exact .nil
      | cons r t ih => rw [List.reverse_cons, List.reverse_cons]; exact Paired.snoc ih r
    exact q p vs.reverse Hf' _ _ rfl upd_same (s'.ex.back hp) (f.dom p hp) (pr h3) (by rw [List.length_reverse]; exact h4) (f.trans (Fr.newO (M := Bx Γ) hp) fun _ z => .inl z) (s'.grow0 (Fr.newO hp) (s'.ex.trans (Ex.new hp)))
/-! ### [*xs, e, ..] -/
theorem ta_star {Bs : Ctxt → Prop} {xs : List α} (h : TD te Γ k1 (cSeq c) (· = xs)) (hr : TDA tx Γ k2 Bs) : TDA (tStar S.K te tx) Γ (k1 + k2) (fun as => ∃ r, Bs r ∧ as = xs.map (fun x => Sl.d c x) ++ r) := fun O n σ Hf H hn s Q q =>
  h O n σ Hf H (by omega) s _ fun v Hf1 H1 x ex r f1 S1 => by
    subst ex
    obtain ⟨a, vs, h1, h2, h3, h4⟩ := sq_seq (K := S.K) S1.ex r
    refine ⟨a, vs, h1, h2.symm, hr O (n + k1) σ Hf1 H1 (by omega) S1 _ fun us Hf2 H2 as b o hb f2 S2 => ?_⟩
    have ap : ∀ {l : List V} {m : List α}, Paired (c.rep Hf2) l m → ArgsOk Hf2 (l ++ us) (m.map (fun x => Sl.d c x) ++ as) := fun {l m} w => by
      induction w with
      | nil => exact o
      | cons r t ih => exact ⟨r, ih⟩
    exact q (vs ++ us) Hf2 H2 _ ⟨as, b, rfl⟩ (ap (paired_mono h3 fun _ _ z => c.mono f2.ex z)) (fun a' h' => by
      rcases List.mem_append.mp h' with e | e
      · obtain ⟨_, _, e⟩ := List.mem_map.mp e
        cases e
      · exact hb a' e) (f1.trans f2 fun _ z => .inl z) (by rw [← Nat.add_assoc]; exact S2)
theorem pda_star {Bs : Ctxt → Prop} {xs : List α} {sp : Pos} (h : PD S Γ k1 e (cSeq c) (· = xs)) (hr : PDA S Γ k2 es Bs) (hs : ∀ env : Env, starEach (.Starred e sp :: es) env = (true, eval e env) :: starEach es env) : PDA S Γ (k1 + k2) (.Starred e sp :: es) (fun as => ∃ r, Bs r ∧ as = xs.map (fun x => Sl.d c x) ++ r) :=
  pda_of (ta := tStar S.K (tE S e) (tA S es)) (fun X G => by rw [← G.K]; exact pa_star (tE_ok G) (tA_ok G) (hs _)) (ta_star h hr)
/-- [*xs, *ys] -/
theorem pstar2 {xs ys : List α} {p1 p2 : Pos} (ha : PD S Γ 0 a (cSeq c) (· = xs)) (hb : PD S Γ 0 b (cSeq c) (· = ys)) (hs : ∀ env : Env, starEach [.Starred a p1, .Starred b p2] env = (true, eval a env) :: starEach [.Starred b p2] env) (hs2 : ∀ env : Env, starEach [.Starred b p2] env = (true, eval b env) :: starEach [] env) (hl : xs.length + ys.length ≤ 1000) :
    PDF S Γ 0 (.List [.Starred a p1, .Starred b p2] pos) c (· = xs ++ ys) :=
  pdf_lst (pda_star (k1 := 0) (k2 := 0) ha (pda_star (k1 := 0) (k2 := 0) hb pda_nil hs2) hs) fun as ⟨r, ⟨r2, e2, e3⟩, e⟩ => ⟨xs ++ ys, by subst e2; rw [e, e3, List.map_append, List.append_nil], by rw [List.length_append]; exact hl, rfl⟩
end
end DL

set_option Elab.async false
set_option linter.all false
set_option maxRecDepth 100000
set_option maxHeartbeats 4000000
namespace DL
open PySem PySem.Spec L2
open PyProof.Rows (IntsAre)
section
variable {w : World} {P : Program} {A : Around} {s : Shared} {E : Value → Shared → Prop}
/-! ### a class of the library called: what its two own functions do -/
/-- the making function's code, then the filling one's -/
theorem tcall {T nw ini : String} {xs : List Value} {Q M : Value → Shared → Prop} (t : TypeCalled T nw ini) (ok : checkTypeCall T ⟨xs, []⟩ = pure ())
    (new : codeAny (model P w) A.in1 (.call (.builtin nw) ⟨.type T :: xs, []⟩) (wants M E) s)
    (fill : ∀ o s1, M o s1 → s1.TypeIs o T ∧ codeAny (model P w) A.in1 (.call (.builtin ini) ⟨o :: xs, []⟩) (wants (fun r s2 => r = .none ∧ Q o s2) E) s1) :
    wpAny (model P w) A (call (.type T) xs) Q E s := by
  have m1 := t.made; have m2 := t.sub; have m3 := t.notType; have m4 := t.canCreate
  rcases t.mro with ⟨c0, cs, m5⟩
  apply wpAny_call
  apply codeAny_of_tree
  show wpAny _ _ (callAny (.type T) ⟨xs, []⟩) _ _ _
  apply wpAny_pure
  constructor
  · exact Code.quiet_builtin _ (by decide +kernel)
  apply codeAny_builtin F.entry_type_call
  rw [Around.under_plain (weight_type_call_type T xs []) rfl]
  repeat any_goals first | assumption | wp_step
  apply codeAny_mono new
  rintro (e | (v | _ | _ | _)) s1 q
  all_goals first | exact q | exact q.elim | skip
  rename_i v
  obtain ⟨ty, f⟩ := fill v s1 q
  have b := t.init.bind v
  have l := t.init.lookup
  repeat any_goals first | assumption | wp_step
  apply codeAny_mono f
  intro r2 s2 z
  match r2, z with
  | .error _, z => exact z
  | .ok (.ret r), z =>
    have y : r = .none ∧ Q v s2 := z
    rw [y.1]
    have fin := y.2
    repeat any_goals first | assumption | wp_step
/-! ### set(xs) of a list of ints -/
/-- what a set just made is -/
abbrev nset (w : World) : Obj := { cls := .type "set", dict := none, data := .set #[] 0 (.fresh 0 0 (!w.params.followText "set-order")) }
/-- a list of ints poured into it -/
theorem pour {D l : Addr} {h : Heap} {items : Array Value} (id : String) (ns : List Int) {Q : Unit → Shared → Prop} (quiet : A.in1.handled = none) (hs : s.heap = h.push (nset w)) (hD : D = h.objs.size) (hl : h.IsList l items) (hit : IntsAre items.toList ns) (few : ns.length + 1 < scanBound)
    (q : ∀ (h' : Heap) (tk c : Nat), SetR w h' D (fun j => decide (j ∈ ns)) c → c ≤ ns.length → (∀ b o, h.get? b = some o → h'.get? b = some o) → Q () { s with heap := h', toks := tk }) :
    wpAny (model P w) A (Builtin.Frozenset.updateFrom id D (.ref l)) Q E s := by
  have lst : s.heap.IsList l items := by rw [hs]; exact hl.push _
  have ty : s.TypeIs (.ref l) "list" := by
    obtain ⟨o, g, c, _⟩ := lst
    exact ⟨o, g, c⟩
  have lD : l < D := by
    obtain ⟨o, g, _⟩ := hl
    rw [hD]; exact Heap.lt_size g
  have sD : s.heap.objs.size = D + 1 := by rw [hs, hD, Heap.size_push]
  have nodict : (Value.type "list" == Value.type "dict") = false := by decide
  have no1 := F.sub_list_set
  have no2 := F.sub_list_frozenset
  unfold Builtin.Frozenset.updateFrom
  -- it is no set and no dict: it is walked
  have ask : wpAny (model P w) A (Builtin.Frozenset.isAnySet (.ref l)) (fun b s1 => b = false ∧ s1 = s) E s := by
    unfold Builtin.Frozenset.isAnySet
    refine wpAny_bind (wpAny_isInstance ty no1 ?_)
    exact wpAny_isInstance ty no2 ⟨rfl, rfl⟩
  refine wpAny_bind (wpAny_mono ask (fun b s1 z => ?_) fun _ _ e => e)
  rw [z.1, z.2, if_neg Bool.false_ne_true]
  refine wpAny_bind (wpAny_typeOf ty ?_)
  rw [nodict, if_neg Bool.false_ne_true]
  refine wpAny_bind (wpAny_pyIter_list lst ?_)
  rw [sD]
  -- the iterator stands behind the set
  have walk := (Walks.list (prog := P) (w := w) (A := A.in1) quiet (D + 1) l (Nat.ne_of_lt (Nat.lt_succ_of_lt lD)) items).toS
  have apart : D ∉ [D + 1, l] := by
    intro m
    rcases List.mem_cons.mp m with e | m
    · exact absurd e (Nat.ne_of_lt (Nat.lt_succ_self D))
    · exact absurd (List.mem_singleton.mp m) (Nat.ne_of_gt lD)
  have len : items.size = ns.length := by rw [← IntsAre.length hit, Array.length_toList]
  refine wpAny_bind (wpAny_runValue ?_)
  have gs : (s.heap.push { cls := .type "list_iterator", data := .fields #[.ref l, .int 0 0] }).get? D = some (nset w) :=
    Heap.get?_push_of_some _ (by rw [hs, hD]; exact Heap.get?_push_size _ rfl)
  refine set_update_ints walk D apart ns len few (fun i v e => ?_) items.size 0 _ rfl (Nat.zero_le _) ⟨⟨_, sD ▸ Heap.get?_push_size _ rfl, rfl, rfl⟩, lst.push _⟩ ⟨0, Nat.le_refl 0, setR_new_at gs⟩ fun s' c mv le R => ?_
  · -- the i-th one
    have e' : items.toList[i]? = some v := by rw [Array.getElem?_toList]; exact e
    have hi : i < ns.length := by
      rw [← IntsAre.length hit]
      exact (List.getElem?_eq_some_iff.mp e').1
    obtain ⟨t, z⟩ := IntsAre.int_at hit i v e'
    refine ⟨ns[i], t, List.getElem?_eq_getElem hi, z.trans ?_⟩
    rw [List.getD_eq_getElem?_getD, List.getElem?_eq_getElem hi]
    rfl
  · obtain ⟨h1, m⟩ : s' = { s with heap := s'.heap, toks := s'.toks } ∧ ∀ b o, h.get? b = some o → s'.heap.get? b = some o := by
      refine ⟨?_, fun b o g => mv.heap b o (fun mem => ?_) (Heap.get?_push_of_some _ (show s.heap.get? b = some o by rw [hs]; exact Heap.get?_push_of_some _ g))⟩
      · have a1 : s'.gens = s.gens := mv.gens
        have a2 := mv.drawn
        have a3 := mv.os
        cases s'
        simp only at a1 a2 a3
        rw [a1, a2, a3]
      · have bD : b < D := by rw [hD]; exact Heap.lt_size g
        rcases List.mem_cons.mp mem with e | mem
        · exact absurd e (Nat.ne_of_lt bD)
        · exact absurd (List.mem_singleton.mp mem) (Nat.ne_of_lt (Nat.lt_succ_of_lt bD))
    show wpAny _ _ (pure ()) _ _ _
    rw [h1]
    exact wpAny_pure (q _ _ c R (by rw [← len]; exact le) m)
/-- set(xs), the whole -/
theorem set_of_list {p : Addr} {vs : Array Value} {ns : List Int} {Q : Value → Shared → Prop} (calm : A.handled = none) (at_ : s.heap.IsList p vs) (num : IntsAre vs.toList ns) (few : ns.length + 1 < scanBound)
    (q : ∀ (g : Heap) (tk n : Nat), SetR w g s.heap.objs.size (fun j => decide (j ∈ ns)) n → n ≤ ns.length → (∀ b o, s.heap.get? b = some o → g.get? b = some o) → Q (.ref s.heap.objs.size) { s with heap := g, toks := tk }) :
    wpAny (model P w) A (call (.type "set") [.ref p]) Q E s := by
  refine tcall (M := fun o s1 => o = .ref s.heap.objs.size ∧ s1 = { s with heap := s.heap.push (nset w) }) F.called_set (F.typeCall_set_1 _) (code_set_led1 _ ⟨rfl, rfl⟩) ?_
  rintro _ _ ⟨rfl, rfl⟩
  have new : (s.heap.push (nset w)).get? s.heap.objs.size = some (nset w) := Heap.get?_push_size _ rfl
  refine ⟨⟨_, new, rfl⟩, codeAny_call_builtin F.called_set.init.plain F.entry_set_init (check_set_init_1 ⟨_, new, rfl⟩ ?_)⟩
  unfold Builtin.«set.__init__» noKeywords
  generalize hu : Builtin.Frozenset.updateFrom = up
  wp_walk
  subst hu
  refine pour "set.__init__" ns (by simp [calm]) rfl rfl at_ num few fun h' tk c R le k => ?_
  exact wpAny_pure ⟨rfl, q h' tk c R le k⟩
end
end DL

set_option Elab.async false
set_option linter.all false
set_option maxRecDepth 100000
set_option maxHeartbeats 4000000
namespace DL
open PySem PySem.Spec L2
/-! ### ascending, each once -/
def ins1 (x : Int) : List Int → List Int
  | [] => [x]
  | y :: r => if x < y then x :: y :: r else if x = y then y :: r else y :: ins1 x r
def asc (l : List Int) : List Int := l.foldl (fun acc x => ins1 x acc) []
theorem asc_snoc (l : List Int) (x : Int) : asc (l ++ [x]) = ins1 x (asc l) := by unfold asc; rw [List.foldl_append]; rfl
theorem mem_ins1 {x k : Int} : ∀ {l : List Int}, k ∈ ins1 x l ↔ k = x ∨ k ∈ l
  | [] => by simp [ins1]
  | y :: r => by
    unfold ins1
    split
    · simp
    · split
      · rename_i h; subst h; simp
      · rw [List.mem_cons, mem_ins1 (l := r), List.mem_cons]
        constructor
        · rintro (h | h | h)
          · exact .inr (.inl h)
          · exact .inl h
          · exact .inr (.inr h)
        · rintro (h | h | h)
          · exact .inr (.inl h)
          · exact .inl h
          · exact .inr (.inr h)
theorem ins1_up {x : Int} : ∀ {l : List Int}, l.Pairwise (· < ·) → (ins1 x l).Pairwise (· < ·)
  | [], _ => by simp [ins1]
  | y :: r, h => by
    have h' := List.pairwise_cons.mp h
    unfold ins1
    split
    · rename_i hx
      refine List.pairwise_cons.mpr ⟨fun z hz => ?_, h⟩
      rcases List.mem_cons.mp hz with e | e
      · subst e; exact hx
      · exact Int.lt_trans hx (h'.1 z e)
    · split
      · exact h
      · rename_i h1 h2
        refine List.pairwise_cons.mpr ⟨fun z hz => ?_, ins1_up h'.2⟩
        rcases mem_ins1.mp hz with e | e
        · subst e; omega
        · exact h'.1 z e
theorem ins1_len {x : Int} : ∀ {l : List Int}, l.Pairwise (· < ·) → (ins1 x l).length = if x ∈ l then l.length else l.length + 1
  | [], _ => by simp [ins1]
  | y :: r, h => by
    have h' := List.pairwise_cons.mp h
    unfold ins1
    split
    · rename_i hx
      have : ¬ x ∈ y :: r := fun z => by
        rcases List.mem_cons.mp z with e | e
        · omega
        · have := h'.1 x e; omega
      rw [if_neg this]; rfl
    · split
      · rename_i h1; subst h1; simp
      · rename_i h1 h2
        rw [List.length_cons, ins1_len h'.2]
        by_cases hr : x ∈ r
        · rw [if_pos hr, if_pos (List.mem_cons_of_mem _ hr)]; rfl
        · rw [if_neg hr, if_neg (fun z => by rcases List.mem_cons.mp z with e | e; exact h2 e; exact hr e)]; rfl
theorem foldl_up : ∀ (l acc : List Int), acc.Pairwise (· < ·) → (l.foldl (fun acc x => ins1 x acc) acc).Pairwise (· < ·)
  | [], _, h => h
  | _ :: l, _, h => foldl_up l _ (ins1_up h)
theorem asc_up (l : List Int) : (asc l).Pairwise (· < ·) := foldl_up l [] .nil
theorem foldl_mem {k : Int} : ∀ (l acc : List Int), k ∈ l.foldl (fun acc x => ins1 x acc) acc ↔ k ∈ l ∨ k ∈ acc
  | [], acc => by simp
  | x :: l, acc => by
    rw [List.foldl_cons, foldl_mem l, mem_ins1, List.mem_cons]
    constructor
    · rintro (h | h | h)
      · exact .inl (.inr h)
      · exact .inl (.inl h)
      · exact .inr h
    · rintro ((h | h) | h)
      · exact .inr (.inl h)
      · exact .inl h
      · exact .inr (.inr h)
theorem mem_asc {k : Int} {l : List Int} : k ∈ asc l ↔ k ∈ l := by unfold asc; rw [foldl_mem]; simp
theorem foldl_len : ∀ (l acc : List Int), acc.Pairwise (· < ·) → (l.foldl (fun acc x => ins1 x acc) acc).length ≤ l.length + acc.length
  | [], acc, _ => by simp
  | x :: l, acc, h => by
    rw [List.foldl_cons]
    have := foldl_len l _ (ins1_up (x := x) h)
    have := ins1_len (x := x) h
    rw [List.length_cons]
    split at this <;> omega
theorem asc_len (l : List Int) : (asc l).length ≤ l.length := by have := foldl_len l [] .nil; unfold asc; simpa using this
/-- an ascending list is the one with its members -/
theorem up_ext : ∀ {l m : List Int}, l.Pairwise (· < ·) → m.Pairwise (· < ·) → (∀ k, k ∈ l ↔ k ∈ m) → l = m
  | [], [], _, _, _ => rfl
  | [], y :: m, _, _, h => absurd ((h y).mpr List.mem_cons_self) List.not_mem_nil
  | x :: l, [], _, _, h => absurd ((h x).mp List.mem_cons_self) List.not_mem_nil
  | x :: l, y :: m, h1, h2, h => by
    have a := List.pairwise_cons.mp h1
    have b := List.pairwise_cons.mp h2
    have e : x = y := by
      rcases List.mem_cons.mp ((h x).mp List.mem_cons_self) with e | e
      · exact e
      · rcases List.mem_cons.mp ((h y).mpr List.mem_cons_self) with e2 | e2
        · exact e2.symm
        · have := b.1 x e; have := a.1 y e2; omega
    subst e
    rw [up_ext a.2 b.2 fun k => ?_]
    constructor
    · intro hk
      rcases List.mem_cons.mp ((h k).mp (List.mem_cons_of_mem _ hk)) with e | e
      · subst e; exact absurd (a.1 k hk) (Int.lt_irrefl k)
      · exact e
    · intro hk
      rcases List.mem_cons.mp ((h k).mpr (List.mem_cons_of_mem _ hk)) with e | e
      · subst e; exact absurd (b.1 k hk) (Int.lt_irrefl k)
      · exact e
theorem asc_eq {l m : List Int} (h : m.Pairwise (· < ·)) (hm : ∀ k, k ∈ m ↔ k ∈ l) : asc l = m := up_ext (asc_up l) h fun k => mem_asc.trans (hm k).symm
theorem asc_self {l : List Int} (h : l.Pairwise (· < ·)) : asc l = l := asc_eq h fun _ => Iff.rfl
theorem card_ext {l m : List Int} (h1 : l.Nodup) (h2 : m.Nodup) (h : ∀ k, k ∈ l ↔ k ∈ m) : l.length = m.length := Nat.le_antisymm (le_of h1 fun k hk => (h k).mp hk) (le_of h2 fun k hk => (h k).mpr hk)
where le_of : ∀ {l m : List Int}, l.Nodup → (∀ k, k ∈ l → k ∈ m) → l.length ≤ m.length
  | [], _, _, _ => Nat.zero_le _
  | x :: l, m, h, hs => by
    have h' := List.nodup_cons.mp h
    have hx : x ∈ m := hs x List.mem_cons_self
    have := le_of (l := l) (m := m.erase x) h'.2 fun k hk => by
      have ne : k ≠ x := fun e => h'.1 (e ▸ hk)
      exact (List.mem_erase_of_ne ne).mpr (hs k (List.mem_cons_of_mem _ hk))
    rw [List.length_erase_of_mem hx] at this
    have hp : 0 < m.length := List.length_pos_of_mem hx
    rw [List.length_cons]; omega
theorem up_nodup {l : List Int} (h : l.Pairwise (· < ·)) : l.Nodup := h.imp fun {a b} (z : a < b) => fun (e : a = b) => by omega
theorem setR_card {w : World} {h : Heap} {a : Addr} {S : Int → Bool} {n : Nat} {l : List Int} (R : SetR w h a S n) (hl : l.Nodup) (hm : ∀ k, S k = true ↔ k ∈ l) : n = l.length := by
  obtain ⟨o, es, ep, t, _, _, _, _, nd, hS, _, _, hn, _⟩ := R
  rw [← hn, ← card_ext (l := es.toList.map keyOf) nd hl fun k => (hS k).symm.trans (hm k), List.length_map, Array.length_toList]
/-! ### sets of ints, as the ascending list of their members -/
def cSet (w : World) : Cod (List Int) := ⟨fun H v xs => ∃ a S, v = .ref a ∧ H a = some (SetO w a S xs.length) ∧ (∀ k, S k = decide (k ∈ xs)) ∧ xs.Pairwise (· < ·) ∧ xs.length ≤ 1000,
  fun e ⟨a, S, h1, h2, h3⟩ => ⟨a, S, h1, e _ _ h2, h3⟩⟩
def rSetI (K : PySem.W.Frag) (w : World) : List V → Hp → VK → Prop := fun vs H Q => ∃ p ns, vs = [.ref p] ∧ (SqL K H p (ns.map V.int) ∨ SqT K H p (ns.map V.int)) ∧ ns.length ≤ 1000 ∧ ∀ l S, (∀ k, S k = decide (k ∈ asc ns)) → H l = none → Q (.ref l) (upd H l (SetO w l S (asc ns).length))
section
variable {S : Stc} {X : Cx}
variable {Γ Γ1 Γ2 Γ3 : Ctxt} {k k1 k2 k3 kk kt ke : Nat} {A α β γ ρ : Type} {c : Cod α} {c' : Cod β} {cr : Cod ρ} {c1 : Cod α} {c2 : Cod β} {c3 : Cod γ} {P P1 : α → Prop} {P2 : β → Prop} {P3 : γ → Prop} {te to ti : TE} {tt : TT} {t u : TS} {p : Po ρ} {ta tx : TA} {e a b d : Expr} {es : List Expr} {pos pos' pn pt : Pos}
variable {x : α} {y : β} {z : γ} {xs : List α} {K : PySem.W.Frag} {w : World} {ns : List Int}
theorem dec_asc {k : Int} {ns : List Int} : decide (k ∈ ns) = decide (k ∈ asc ns) := decide_eq_decide.mpr mem_asc.symm
theorem call_setI (hc : X.calm = true) : CallR X (.type "set") (rSetI X.K X.w) := by
  intro pins s σ H xs us Q I r h
  obtain ⟨l, ns, rfl, hl, hn, q⟩ := h
  rw [Vals.ref1 r]
  have hf : H s.heap.objs.size = none := I.hok.fresh (Nat.le_refl _)
  have fin : ∀ (h' : Heap) (tk c : Nat), SetR X.w h' s.heap.objs.size (fun j => decide (j ∈ ns)) c → c ≤ ns.length → (∀ b o, s.heap.get? b = some o → h'.get? b = some o) → ∃ x' H', Inv X pins σ H' { s with heap := h', toks := tk } ∧ RelV x' (.ref s.heap.objs.size) ∧ Q x' H' := fun h' tk c R _ k => by
    have ec : c = (asc ns).length := setR_card R (up_nodup (asc_up ns)) fun j => by rw [dec_asc]; exact decide_eq_true_iff
    subst ec
    exact ⟨.ref s.heap.objs.size, upd H s.heap.objs.size (SetO X.w s.heap.objs.size (fun j => decide (j ∈ ns)) (asc ns).length), I.laid (t' := tk) k (Nat.le_refl _) (setO_new R), rfl, q _ _ (fun _ => dec_asc) hf⟩
  rcases hl with hl | hl
  · obtain ⟨its, rv, pl, hz⟩ := I.list hl
    exact set_of_list (I.ok.hd hc) pl.isList (ints_of_vals rv) (by unfold scanBound; omega) fun h' tk c R hc' k => fin h' tk c R hc' k
  · obtain ⟨its, rv, pl, hz⟩ := I.tuple hl
    exact call_set_tupI ns (I.ok.hd hc) (show s.heap.IsTuple l its.toArray from pl) (ints_of_vals rv) (by unfold scanBound; omega) fun h' tk c R hc' k => fin h' tk c R hc' k
theorem setIG : ∀ X, Good S X → CallR X (.type "set") (rSetI S.K S.w) := fun X G => by rw [← G.K, ← G.w]; exact call_setI G.calm
theorem rc_setI (hn : ns.length ≤ 1000) : RC1 (rSetI K w) (cSeq cInt) ns (cSet w) (· = asc ns) := fun Hf H v e h Q q => by
  obtain ⟨a, vs, h1, h2, h3, h4⟩ := sq_seq (K := K) e h
  have := ints_of_paired h3
  subst this
  refine ⟨a, ns, by rw [h1], h2, hn, fun l S hS hl => ?_⟩
  exact q (asc ns) (upd Hf l (SetO w l S (asc ns).length)) _ _ rfl ⟨l, S, rfl, upd_same, hS, asc_up ns, Nat.le_trans (asc_len ns) hn⟩ (Fr.new e hl) (e.both (e.back hl))
/-- set(xs) -/
theorem pset (hg : S.sc.names.lookup ("set" : Str) = some .globalImplicit) (hm : S.mg "set" = none) (h : PD S Γ 0 e (cSeq cInt) (· = ns)) (hn : ns.length ≤ 1000) (he : ∀ env : Env, starEach [e] env = (false, eval e env) :: starEach [] env) : PD S Γ 0 (.Call (.Name "set" pn) [e] [] pos) (cSet S.w) (· = asc ns) :=
  py1 setIG hg hm PyProof.Rows.boot_set h (rc_setI hn) he
/-- sorted(set) -/
theorem rc_sortSet (hn : ns.length < 64) : RC1F (rSortedSet w) (cSet w) ns cInt (· = ns) := fun Hf H v e ⟨a, T, h1, h2, h3, h4, h5⟩ Q q => by
  refine ⟨a, T, ns.length, by rw [h1], e _ _ h2, hn, fun ms p hu hm hl hp => ?_⟩
  have em : ms = ns := up_ext hu h4 fun k => (hm k).trans (by rw [h3 k, decide_eq_true_iff])
  subst em
  exact q p _ ms rfl hp (paired_ints ms) (by rw [List.length_map]; exact Nat.le_trans h5 (by decide))
theorem sortSetG : ∀ X, Good S X → CallR X (.builtin "sorted") (rSortedSet S.w) := fun X G => by rw [← G.w]; exact cr_sortedSet G.calm
theorem psortSet (hg : S.sc.names.lookup ("sorted" : Str) = some .globalImplicit) (hm : S.mg "sorted" = none) (h : PD S Γ 0 e (cSet S.w) (· = ns)) (hn : ns.length < 64) (he : ∀ env : Env, starEach [e] env = (false, eval e env) :: starEach [] env) : PDF S Γ 0 (.Call (.Name "sorted" pn) [e] [] pos) cInt (· = ns) :=
  pfb1 sortSetG hg hm PyProof.Rows.boot_sorted h (rc_sortSet hn) he
/-- len(set) -/
def rLenSet (w : World) : List V → Hp → VK → Prop := fun vs H Q => ∃ (a : Addr) (T : Int → Bool) (n : Nat), vs = [V.ref a] ∧ H a = some (SetO w a T n) ∧ n ≤ 1000 ∧ Q (.int n) H
theorem cr_lenSet : CallR X (.builtin "len") (rLenSet X.w) := by
  intro pins s σ H vs us Q I r h
  obtain ⟨a, T, n, rfl, ha, hn, q⟩ := h
  obtain ⟨o, es, ep, t, ho, hex, hd, _, _, _, hb, hf, en, _⟩ := setO_get I ha
  rw [Vals.ref1 r]
  refine call_len_set ho hex hd hf (by rw [en]; omega) ⟨.int n, H, I.tok _, ⟨_, by rw [en]⟩, q⟩
theorem lenSetG : ∀ X, Good S X → CallR X (.builtin "len") (rLenSet S.w) := fun X G => by rw [← G.w]; exact cr_lenSet
theorem rc_lenSet : RC1 (rLenSet w) (cSet w) ns cInt (· = (ns.length : Int)) := fun Hf H v e ⟨a, T, h1, h2, h3, h4, h5⟩ Q q =>
  ⟨a, T, ns.length, by rw [h1], e _ _ h2, h5, q _ Hf H _ rfl rfl Fr.refl e⟩
theorem plenSet (hg : S.sc.names.lookup ("len" : Str) = some .globalImplicit) (hm : S.mg "len" = none) (h : PD S Γ 0 e (cSet S.w) (· = ns)) (he : ∀ env : Env, starEach [e] env = (false, eval e env) :: starEach [] env) : PD S Γ 0 (.Call (.Name "len" pn) [e] [] pos) cInt (· = (ns.length : Int)) :=
  pb1 lenSetG hg hm PySem.boot_len h rc_lenSet he
/-- in a set -/
theorem rd_inS {x : Int} : RD (rSIn w) cInt x (cSet w) ns cBool (· = decide (x ∈ ns)) := fun Hf H v u e h1 ⟨a, T, h2, h3, h4, _⟩ Q q => by
  obtain rfl := h1
  exact ⟨x, a, T, _, rfl, h2, e _ _ h3, q _ Hf H _ rfl (by rw [h4 x]; rfl) Fr.refl e⟩
theorem rd_notInS {x : Int} : RD (rSNotIn w) cInt x (cSet w) ns cBool (· = !decide (x ∈ ns)) := fun Hf H v u e h1 ⟨a, T, h2, h3, h4, _⟩ Q q => by
  obtain rfl := h1
  exact ⟨x, a, T, _, rfl, h2, e _ _ h3, q _ Hf H _ rfl (by rw [h4 x]; rfl) Fr.refl e⟩
theorem inSG : ∀ X, Good S X → OpR X (compareOp .In) (rSIn S.w) := fun X G => by rw [← G.w]; exact or_sin
theorem notInSG : ∀ X, Good S X → OpR X (compareOp .NotIn) (rSNotIn S.w) := fun X G => by rw [← G.w]; exact or_snotin
end
end DL

set_option Elab.async false
set_option linter.all false
set_option maxRecDepth 100000
set_option maxHeartbeats 4000000
namespace DL
open PySem PySem.Spec L2 PpSet
/-! ### the block of a comprehension, seen from the def around it -/
section
variable (X : Cx) (scope : Scope) (fp : List Addr) (H : Hp) (s : Shared)
/-- the environment of a block that starts at s -/
def blkE : Env := compEnvC scope (cellsFrom (s.heap.objs.size + 1) scope.names (cloFrom X.env.cells scope.names [])) s.heap.objs.size X.env
abbrev blkX : Cx := X.blk s H scope (blkE X scope s) fp
/-- the state in which it starts -/
def blkS : Shared := { s with heap := pushCells (s.heap.push { cls := .type "dict", data := .dict #[] }) scope.names }
end
/-- nothing of fp is tracked -/
def Loose (fp : List Addr) (H : Hp) : Prop := ∀ b ∈ fp, H b = none
section
variable {X : Cx} {scope : Scope} {fp : List Addr} {H H' : Hp} {s s' : Shared} {pins : List (Addr × Obj)} {σ σ' : Stt} {own : List (PySem.Str × Nat)}
theorem blk_fp (J : Inv (blkX X scope fp H s) [] σ' H' s') (l : Loose fp H') : ∀ b ∈ fp, FpOk (blkX X scope fp H s) [] H' b := by
  intro b m
  have z := J.ok.exf b m
  exact ⟨l b m, z.1, J.ok.exfs b m, Or.inl m, fun x c => z.2 x c, fun p hp => by cases hp⟩
/-- the def's own state again, when the block is left -/
theorem blk_out (I : Inv X pins σ H s) (hf : ∀ b ∈ fp, FpOk X pins H b) (J : Inv (blkX X scope fp H s) [] σ' H' s') :
    Inv X pins σ H' s' ∧ FpOk X pins H' s.heap.objs.size ∧ ∃ m, s'.heap.Ns s.heap.objs.size m := by
  refine ⟨I.call' (ch := fp) J.os J.base J.hok J.bare fun b m => ?_, I.fpOk (Nat.le_refl _) J.free, ?_⟩
  · obtain ⟨_, a1, _, a2, a3, a4⟩ := hf b m
    exact ⟨a2, a1, a3, a4⟩
  · exact J.loc.imp fun _ q => q.1
theorem blk_in (I : Inv X pins σ H s) (ok : BlkOk X.N X.env.scope scope own) (hN : X.N.Nodup) (hf : ∀ b ∈ fp, FpOk X pins H b) (old : ∀ b ∈ fp, b < s.heap.objs.size) :
    Inv (blkX X scope fp H s) [] (wipe σ (own.map (·.2))) H (blkS scope s) := block_start I ok hN fun b m => ⟨hf b m, old b m⟩
/-- one turn of its loop, up to the clause's tests: the item comes, goes to the target, is tested.
What is done next knows how to come back to the turn's start. -/
theorem blk_turn {tg : Expr} {ifs : List Expr} {it : Addr} {tn : Nat → Heap → Prop} {J : It} {i : Nat} {vs : List Nat} {g : TG} {tt : TT} {E : Value → Shared → Prop} {Z : Shared → Prop} {Out : Bool → Shared → Prop} {R : Stt → Bool → Hp → Prop}
    (T : Turn X.prog X.w X.K tg J fp it tn) (calm : X.calm = true) (I : Inv (blkX X scope fp H s) [] (wipe σ vs) H' s') (l : Loose fp H') (st : tn i s'.heap) (go : J.go i H')
    (pg : PG (blkX X scope fp H s) tg g) (pt : PTs (blkX X scope fp H s) ifs tt)
    (hw : ∀ x H1, J.yld i H' x H1 → g x (wipe σ vs) H1 fun σ2 H2 => wipe σ2 vs = wipe σ vs ∧ tt σ2 H2 (R σ2))
    (then_ : ∀ (σ2 : Stt) (pl : List (Addr × Obj)) (b : Bool) (H2 : Hp) (s2 : Shared), Inv (blkX X scope fp H s) pl σ2 H2 s2 → R σ2 b H2 →
      (∀ (H3 : Hp) (s3 : Shared), Inv (blkX X scope fp H s) pl σ2 H3 s3 → Inv (blkX X scope fp H s) [] (wipe σ vs) H3 s3 ∧ tn (i + 1) s3.heap ∧ Loose fp H3) → Out b s2) :
    wpAny (model X.prog X.w) X.A (pyNext (.ref it)) (fun r s1 => match r with
      | none => Z s1
      | some v => wpAny (model X.prog X.w) X.A (letOwnedTupleGo tg (.ref it) v) (fun _ s2 => wpAny (model X.prog X.w) X.A (assign tg (blkE X scope s) v) (fun _ s3 =>
          wpAny (model X.prog X.w) X.A (forIn ifs true fun c r => if r = true then do let ok ← isTrue c (blkE X scope s) (eval c (blkE X scope s)); pure (ForInStep.yield ok) else pure (ForInStep.yield r)) Out E s3) E s2) E s1) E s' := by
  have item := T.item (blkX X scope fp H s) rfl rfl rfl calm i [] s' _ H' (fun _ _ => False) I (blk_fp I l) st go
  refine thnF item ?_
  rintro _ s1 ⟨u, rfl, come⟩
  refine thnF come ?_
  rintro _ s2 ⟨x, H1, I1, rx, y, st1, l1⟩
  have obj := T.obj (i + 1) _ st1
  have set := pg.run _ s2 _ H1 x u _ (I1.pinned (blk_fp I1 l1) obj) rx (hw x H1 y)
  refine thnF set ?_
  rintro _ s3 ⟨σ2, H2, I2, keep, t⟩
  refine thnF (pt.run _ s3 σ2 H2 _ I2 t) ?_
  rintro b s4 ⟨H3, I3, r⟩
  refine then_ σ2 _ b H3 s4 I3 r ?_
  -- back to the start: the iterator's objects stood still
  intro H4 s5 I4
  have still : ∀ c ∈ fp, ∀ o, s2.heap.get? c = some o → s5.heap.get? c = some o ∧ H4 c = none := by
    intro c m o e
    have pin := I4.pin (c, o) (by simp only [List.mem_append]; exact .inr (.inr (mem_pinsAt m e)))
    exact ⟨pin.1, pin.2.1⟩
  refine ⟨(I4.unpinned (pins := [])).weak (by rw [← keep, wipe_length]) (fun j v e => (wipe_some (keep ▸ e)).1), T.keep _ _ _ st1 fun c m o e => (still c m o e).1, ?_⟩
  intro c m
  obtain ⟨o, e, _⟩ := obj c m
  exact (still c m o e).2
end
/-! ### {e for x in xs if ..}, e an int -/
/-- D: the new set; W i n: what holds ahead of turn i, n turns at most being left; Nx: what a turn is to reach -/
def tSci (w : World) (wi : TI) (g : TG) (tt : TT) (te : TE) (vs : List Nat) : TE := fun σ H Q => wi σ H fun J H1 => ∀ D, H1 D = none →
  ∃ W : Nat → Nat → Hp → Prop, (∃ n, W 0 n (upd H1 D (SetO w D (fun _ => false) 0))) ∧
    ∀ i n H2, W i n H2 → (J.stop i H2 ∧ Q (.ref D) H2) ∨
      (J.go i H2 ∧ ∃ Nx : Hp → Prop, (∀ H3, Nx H3 → ∃ n', n' < n ∧ W (i + 1) n' H3) ∧
        ∀ x H3, J.yld i H2 x H3 → g x (wipe σ vs) H3 fun σ4 H4 => wipe σ4 vs = wipe σ vs ∧ tt σ4 H4 fun b H5 =>
          if b = true then te σ4 H5 fun y H6 => ∃ (z : Int) (M : Int → Bool) (m : Nat), y = .int z ∧ H6 D = some (SetO w D M m) ∧ m + 1 < scanBound ∧ Nx (upd H6 D (SetO w D (fun j => M j || decide (j = z)) (if M z = true then m else m + 1)))
          else Nx H5)
section
variable {X : Cx} {pins : List (Addr × Obj)} {σ : Stt} {H : Hp} {s : Shared}
/-- an int goes into a set that is tracked -/
theorem put_int {E : Value → Shared → Prop} {D : Addr} {M : Int → Bool} {m : Nat} {z : Int} {k : Tok} {Q : Value → Shared → Prop} (I : Inv X pins σ H s) (at_ : H D = some (SetO X.w D M m)) (room : m + 1 < scanBound)
    (q : ∀ s', Inv X pins σ (upd H D (SetO X.w D (fun j => M j || decide (j = z)) (if M z = true then m else m + 1))) s' → Q .none s') :
    wpAny (model X.prog X.w) X.A (call (.builtin "set.add") [.ref D, .int z k]) Q E s := by
  apply setR_add (setO_get I at_) room
  intro g but R
  apply q
  refine I.write (t' := s.toks + 1) (by rw [at_]; exact True.intro) (Or.inl rfl) (fun b o n e => ?_) ?_ (setO_new R)
  · rw [but.2 b n]; exact e
  · obtain ⟨o, _, _, _, e, _⟩ := R
    exact ⟨o, e⟩
theorem pe_sci {elt tg iter : Expr} {ifs : List Expr} {scope : Scope} {own : List (PySem.Str × Nat)} {pos : Pos} {wi : TI} {g : TG} {tt : TT} {te : TE} (calm : X.calm = true) (nd : X.N.Nodup) (it_ : PI X tg iter wi) (ok : BlkOk X.N X.env.scope scope own)
    (pg : ∀ (s : Shared) (H : Hp) (C : Addr) (cl : List (PySem.Str × Addr)) (fp : List Addr), PG (X.blk s H scope (compEnvC scope cl C X.env) fp) tg g)
    (pt : ∀ (s : Shared) (H : Hp) (C : Addr) (cl : List (PySem.Str × Addr)) (fp : List Addr), PTs (X.blk s H scope (compEnvC scope cl C X.env) fp) ifs tt)
    (pe : ∀ (s : Shared) (H : Hp) (C : Addr) (cl : List (PySem.Str × Addr)) (fp : List Addr), PE (X.blk s H scope (compEnvC scope cl C X.env) fp) elt te)
    (fo : ∀ x, foldedSetIterable iter X.env x = pure x := by intro _; rfl) : PE X (.SetComp elt [⟨tg, iter, ifs, 0⟩] scope pos) (tSci X.w wi g tt te (own.map (·.2))) := by
  constructor
  intro pins s σ H Q I h
  rw [eval_SetComp]
  refine wpAny_comprehension_free (use := none) rfl fo (closure_ok fun y m e => I.ok.has _ (ok.free y m e)) ok.kind (fun y m e => (ok.uniq y m).trans (congrArg _ e)) (thn (it_.run pins s σ H _ I h) fun _ s1 w1 => thn w1 ?_)
  rintro _ s2 ⟨it, fp, tn, J, H2, rfl, I2, T, st2, f2, q⟩
  apply newSet_ok
  apply newEnv_comp
  obtain ⟨W, ⟨n0, w0⟩, turn⟩ := q s2.heap.objs.size (I2.hok.fresh (Nat.le_refl _))
  -- the set has been laid at s3
  obtain ⟨s3, e3⟩ : ∃ s3 : Shared, s3 = { s2 with heap := s2.heap.push (nset X.w) } := ⟨_, rfl⟩
  obtain ⟨H3, eH⟩ : ∃ H3 : Hp, H3 = upd H2 s2.heap.objs.size (SetO X.w s2.heap.objs.size (fun _ => false) 0) := ⟨_, rfl⟩
  rw [← eH] at w0
  have more : ∀ b o, s2.heap.get? b = some o → s3.heap.get? b = some o := fun b o e => by rw [e3]; exact Heap.get?_push_of_some _ e
  have I3 : Inv X pins σ H3 s3 := by
    rw [e3, eH]
    exact I2.laid (t' := s2.toks) (fun b o e => Heap.get?_push_of_some _ e) (Nat.le_refl _) (setO_new (setR_fresh X.w))
  have old : ∀ b ∈ fp, b < s2.heap.objs.size := fun b m => by
    obtain ⟨o, e, _⟩ := T.obj 0 _ st2 b m
    exact Heap.lt_size e
  have f3 : ∀ b ∈ fp, FpOk X pins H3 b := fun b m => by
    refine ⟨?_, (f2 b m).2⟩
    rw [eH, upd_ne (Nat.ne_of_lt (old b m))]
    exact (f2 b m).1
  have I4 := blk_in I3 ok nd f3 fun b m => by rw [e3]; exact Nat.lt_of_lt_of_le (old b m) (by rw [Heap.size_push]; exact Nat.le_succ _)
  have st4 : tn 0 (blkS scope s3).heap := T.keep _ _ _ st2 fun b _ o e => pushCells_keeps _ _ _ _ (Heap.get?_push_of_some _ (more b o e))
  have loop : codeAny (model X.prog X.w) X.A (.compLoop (.SetComp elt [⟨tg, iter, ifs, 0⟩] scope pos) 0 (.ref it) (.ref s2.heap.objs.size) (blkE X scope s3)) (compPost (model X.prog X.w) X.A X.xe none (EP X pins σ Q) (.ref s2.heap.objs.size) s3.heap.objs.size) (blkS scope s3) := by
    refine compLoopS_any (fun n t => ∃ i H', Inv (blkX X scope fp H3 s3) [] (wipe σ (own.map (·.2))) H' t ∧ tn i t.heap ∧ Loose fp H' ∧ W i n H') ?_ n0 ⟨0, H3, I4, st4, fun b m => (f3 b m).1, w0⟩
    rintro n t ⟨i, H5, I5, st5, l5, w5⟩
    rcases turn i n H5 w5 with ⟨stop, fin⟩ | ⟨go, Nx, down, step⟩
    · -- no item is left
      refine thnF (T.done (blkX X scope fp H3 s3) rfl rfl rfl calm i [] t _ H5 (fun _ _ => False) I5 (blk_fp I5 l5) st5 stop) ?_
      rintro _ t' ⟨rfl, I6⟩
      obtain ⟨I7, ⟨a0, a1, _, a2, a3, a4⟩, m, ns⟩ := blk_out I3 f3 I6
      exact ⟨m, ns, fun h' but => ⟨.ref s2.heap.objs.size, H5, I7.turned (t' := t'.toks) (fun b o ne e => by rw [but.2 b ne]; exact e) a0 a1 a2 a3 a4, rfl, fin⟩⟩
    · refine blk_turn T calm I5 l5 st5 go (pg _ _ _ _ _) (pt _ _ _ _ _) (fun x H6 y => step x H6 y) ?_
      · intro σ4 pl b H6 t6 I6 r back
        have again : ∀ (H' : Hp) (t' : Shared), Inv (blkX X scope fp H3 s3) pl σ4 H' t' → Nx H' → ∃ n', n' < n ∧ ∃ i H', Inv (blkX X scope fp H3 s3) [] (wipe σ (own.map (·.2))) H' t' ∧ tn i t'.heap ∧ Loose fp H' ∧ W i n' H' := by
          intro H' t' I' nx
          obtain ⟨n', lt, w'⟩ := down H' nx
          obtain ⟨b1, b2, b3⟩ := back H' t' I'
          exact ⟨n', lt, i + 1, H', b1, b2, b3, w'⟩
        cases b
        · exact again H6 t6 I6 r
        · refine thnF ((pe _ _ _ _ _).run _ t6 σ4 H6 _ I6 r) ?_
          rintro v t7 ⟨y, H7, I7, ry, z, M, m, rfl, hD, room, nx⟩
          obtain ⟨k, rfl⟩ : ∃ k, v = Value.int z k := ry
          exact put_int (X := blkX X scope fp H3 s3) I7 hD room fun t8 I8 => again _ t8 I8 nx
  have e4 := codeAny_compStart_set loop (T.self X.A 0 _ _ _ st4 loop)
  rw [e3] at e4
  exact e4
end
end DL

set_option Elab.async false
set_option linter.all false
set_option maxRecDepth 100000
set_option maxHeartbeats 4000000
namespace DL
open PySem PySem.Spec L2
section
variable {S : Stc} {X : Cx}
variable {Γ Γ1 Γ2 Γ3 : Ctxt} {k k1 k2 k3 kk kt ke : Nat} {A α β γ ρ : Type} {c : Cod α} {c' : Cod β} {cr : Cod ρ} {c1 : Cod α} {c2 : Cod β} {c3 : Cod γ} {P P1 : α → Prop} {P2 : β → Prop} {P3 : γ → Prop} {te to ti tk tv : TE} {tt : TT} {t u : TS} {p : Po ρ} {ta tx : TA} {e a b d : Expr} {es : List Expr} {pos pos' pn pt : Pos}
variable {x : α} {y : β} {z : γ} {xs : List α} {K : PySem.W.Frag} {w : World} {ns : List Int} {wi : TI} {g : TG}
/-! ### {f x for x in xs if b x} -/
theorem td_sc {vs : List Nat} (f : α → Int) (b : α → Bool) (hw : TW wi Γ k c (· = xs)) (hv : ∀ i ∈ vs, NoBx Γ i) (hz : xs.length ≤ 1000)
    (hs : ∀ x, x ∈ xs → ∃ Γ1 is, GD g c x (wipeC Γ vs) Γ1 is ∧ (∀ i ∈ is, i ∈ vs) ∧ TDT tt Γ1 0 (· = b x) ∧ (b x = true → TD te Γ1 0 cInt (· = f x))) :
    TD (tSci w wi g tt te vs) Γ k (cSet w) (· = asc ((xs.filter b).map f)) := fun O n σ Hf H hn s Q q =>
  hw O n σ Hf H hn s _ fun J Hf1 H1 xs' px W lb f1 S1 D hD => by
    subst px
    have hbx : ∀ a, Bx Γ a → a ≠ D := fun a ⟨i, hi⟩ z => by
      subst z
      obtain ⟨_, _, _, _, _, _, e, _⟩ := S1.at_ i _ hi
      rw [hD] at e; cases e
    have bx0 : ∀ a, Bx Γ a → Hf1 a = none ∧ BoxAt H1 a (n + k) := fun a ⟨i, hi⟩ => (S1.at_ i _ hi).2
    have ll : ∀ i, (asc (((xs'.take i).filter b).map f)).length ≤ 1000 := fun i => by
      refine Nat.le_trans (asc_len _) ?_
      rw [List.length_map]
      refine Nat.le_trans (List.length_filter_le _ _) ?_
      rw [List.length_take]; omega
    refine ⟨fun i m H' => m = xs'.length - i ∧ i ≤ xs'.length ∧ ∃ Hfi T, H' D = some (SetO w D T (asc (((xs'.take i).filter b).map f)).length) ∧ (∀ k, T k = decide (k ∈ asc (((xs'.take i).filter b).map f))) ∧ Hfi D = none ∧ Ex Hfi H' ∧ Fr (Bx Γ) Hf1 H1 Hfi H' ∧
        ∀ a, Bx Γ a → Hfi a = none ∧ BoxAt H' a (n + k),
      ⟨xs'.length, by simp, Nat.zero_le _, Hf1, fun _ => false, upd_same, fun _ => rfl, S1.ex.back hD, S1.ex.trans (Ex.new hD), Fr.newO hD, fun a ha => ⟨(bx0 a ha).1, boxAt_ex (bx0 a ha).2 fun o e => by rw [upd_ne (hbx a ha)]; exact e⟩⟩, ?_⟩
    rintro i m H' ⟨rfl, hi, Hfi, T, hDi, hT, hfD, ex, fr, hb⟩
    have Si : Sat O Hfi H' (wipe σ vs) (wipeC Γ vs) (n + k) := (S1.grow fr ex hb).wipe vs
    by_cases hlt : i < xs'.length
    · have hx : xs'[i]? = some xs'[i] := List.getElem?_eq_getElem hlt
      have ts : xs'.take (i + 1) = xs'.take i ++ [xs'[i]] := take_snoc hx
      refine .inr ⟨W.go Hfi H' i fr.ex ex hlt, fun H2 => ∃ Hfi T, H2 D = some (SetO w D T (asc (((xs'.take (i + 1)).filter b).map f)).length) ∧ (∀ k, T k = decide (k ∈ asc (((xs'.take (i + 1)).filter b).map f))) ∧ Hfi D = none ∧ Ex Hfi H2 ∧ Fr (Bx Γ) Hf1 H1 Hfi H2 ∧
        ∀ a, Bx Γ a → Hfi a = none ∧ BoxAt H2 a (n + k), fun H2 h2 => ⟨xs'.length - (i + 1), by omega, rfl, hlt, h2⟩, fun v H2 hy => ?_⟩
      obtain ⟨Hf2, rx, fy, ey⟩ := W.yld Hfi H' i v H2 _ fr.ex ex hy hx
      have S2 : Sat O Hf2 H2 (wipe σ vs) (wipeC Γ vs) (n + k) := Si.grow0 fy ey
      obtain ⟨Γ1, is, gd, hin, ht, hTt⟩ := hs xs'[i] (List.getElem_mem hlt)
      have bx1 : ∀ a, Bx Γ1 a → Bx Γ a := fun a h => (bx_wipe hv).mp (gd.2.1 a h)
      have bx2 : ∀ a, Bx Γ a → Bx Γ1 a := fun a h => by
        obtain ⟨j, hj⟩ := (bx_wipe hv).mpr h
        exact ⟨j, gd.1 j a hj⟩
      have hD2 := fy.keep _ _ hDi id
      have hfD2 : Hf2 D = none := fy.fz _ _ hDi id hfD
      refine gd.2.2 O _ _ Hf2 H2 v rx S2 _ fun σ3 S3 w3 => ⟨(w3 vs hin).trans wipe_wipe, ?_⟩
      refine ht O _ σ3 Hf2 H2 (by omega) S3 _ fun bb Hf3 H3 pb f3 S3' => ?_
      have nD1 : ¬ Bx Γ1 D := fun z => hbx D (bx1 D z) rfl
      have hD3 := f3.keep _ _ hD2 nD1
      have hfD3 : Hf3 D = none := f3.fz _ _ hD2 nD1 hfD2
      have F3 : Fr (Bx Γ) Hf1 H1 Hf3 H3 := (fr.trans fy fun _ z => z.elim).trans f3 fun a z => .inl (bx1 a z)
      cases bb with
      | true =>
        rw [if_pos rfl]
        refine hTt pb.symm O _ σ3 Hf3 H3 (by omega) S3' _ fun y Hf4 H4 yx py ry f4 S4 => ?_
        have hD4 := f4.keep _ _ hD3 nD1
        have hfD4 : Hf4 D = none := f4.fz _ _ hD3 nD1 hfD3
        have F4 : Fr (Bx Γ) Hf1 H1 Hf4 H4 := F3.trans f4 fun a z => .inl (bx1 a z)
        have ee : ((xs'.take (i + 1)).filter b).map f = ((xs'.take i).filter b).map f ++ [f xs'[i]] := by
          rw [ts, List.filter_append, List.map_append]; congr 1; simp [← pb]
        obtain rfl := ry
        subst py
        have ln := ins1_len (x := f xs'[i]) (asc_up (((xs'.take i).filter b).map f))
        have l1 := ll i
        refine ⟨f xs'[i], T, _, rfl, hD4, by unfold scanBound; omega, Hf4, fun j => T j || decide (j = f xs'[i]), ?_, fun j => ?_, hfD4, S4.ex.mut hfD4, ?_, fun a ha => ?_⟩
        · rw [upd_same, ee, asc_snoc, ln]
          have : (T (f xs'[i]) = true) = (f xs'[i] ∈ asc (((xs'.take i).filter b).map f)) := by rw [hT]; exact decide_eq_true_eq
          simp only [this]
        · show (T j || decide (j = f xs'[i])) = _
          rw [ee, asc_snoc, hT j]
          by_cases h1 : j = f xs'[i]
          · have : j ∈ ins1 (f xs'[i]) (asc (((xs'.take i).filter b).map f)) := mem_ins1.mpr (.inl h1)
            simp [h1, this, h1 ▸ this]
          · by_cases h2 : j ∈ asc (((xs'.take i).filter b).map f)
            · have : j ∈ ins1 (f xs'[i]) (asc (((xs'.take i).filter b).map f)) := mem_ins1.mpr (.inr h2)
              simp [h2, this]
            · have : ¬ j ∈ ins1 (f xs'[i]) (asc (((xs'.take i).filter b).map f)) := fun z => by
                rcases mem_ins1.mp z with z | z
                · exact h1 z
                · exact h2 z
              simp [h1, h2, this]
        · refine ⟨F4.ex, fun a o e nm => ?_, F4.fz, fun a e => ?_⟩
          · rw [upd_ne (ne_of_none e hD)]; exact F4.keep a o e nm
          · by_cases z : a = D
            · subst z; exact hD
            · rw [upd_ne z] at e; exact F4.dom a e
        · obtain ⟨j, hj⟩ := bx2 a ha
          obtain ⟨_, z1, z2⟩ := S4.at_ j _ hj
          exact ⟨z1, boxAt_ex z2 fun o e => by rw [upd_ne (hbx a ha)]; exact e⟩
      | false =>
        rw [if_neg Bool.false_ne_true]
        have ee : ((xs'.take (i + 1)).filter b).map f = ((xs'.take i).filter b).map f := by
          rw [ts, List.filter_append, List.map_append]; simp [← pb]
        refine ⟨Hf3, T, by rw [ee]; exact hD3, by rw [ee]; exact hT, hfD3, S3'.ex, F3, fun a ha => ?_⟩
        obtain ⟨j, hj⟩ := bx2 a ha
        obtain ⟨_, z1, z2⟩ := S3'.at_ j _ hj
        exact ⟨z1, z2⟩
    · have e : i = xs'.length := by omega
      subst e
      rw [List.take_length] at hDi hT
      have l1 := ll xs'.length
      rw [List.take_length] at l1
      have F : Fr (Bx Γ) Hf1 H1 (upd Hfi D (SetO w D T (asc ((xs'.filter b).map f)).length)) H' := fr.fix hD hfD hDi
      refine .inl ⟨W.stop Hfi H' fr.ex ex, q _ (upd Hfi D (SetO w D T (asc ((xs'.filter b).map f)).length)) H' _ rfl ⟨D, T, rfl, upd_same, hT, asc_up _, l1⟩ (f1.trans F fun _ z => .inl z) ?_⟩
      refine S1.grow F (ex.fix hDi) fun a ha => ?_
      obtain ⟨z1, z2⟩ := hb a ha
      exact ⟨by rw [upd_ne (hbx a ha)]; exact z1, z2⟩
/-! ### dicts with int keys -/
abbrev PDc {α : Type} (c : Cod α) (H : Hp) (ks : List (Key × V)) (kvs : List (Int × α)) : Prop := Paired (fun (p : Key × V) (q : Int × α) => p.1 = .inl q.1 ∧ c.rep H p.2 q.2) ks kvs
theorem PDc.mono {H H' : Hp} {ks : List (Key × V)} {kvs : List (Int × α)} (e : Ex H H') (h : PDc c H ks kvs) : PDc c H' ks kvs := paired_mono h fun _ _ q => ⟨q.1, c.mono e q.2⟩
def cDic {α : Type} (c : Cod α) : Cod (List (Int × α)) := ⟨fun H v kvs => ∃ a ks, v = .ref a ∧ H a = some (.dK ks) ∧ PDc c H ks kvs ∧ ks.length ≤ LB,
  fun e ⟨a, ks, h1, h2, h3, h4⟩ => ⟨a, ks, h1, e _ _ h2, h3.mono e, h4⟩⟩
/-- d[k] = v -/
def putD {α : Type} (kvs : List (Int × α)) (k : Int) (v : α) : List (Int × α) := if (kvs.any fun kv => decide (kv.1 = k)) = true then kvs.map fun kv => if kv.1 = k then (kv.1, v) else kv else kvs ++ [(k, v)]
def valD {α : Type} (kvs : List (Int × α)) (k : Int) : Option α := (kvs.find? fun kv => decide (kv.1 = k)).map (·.2)
theorem pdc_any {H : Hp} {ks : List (Key × V)} {kvs : List (Int × α)} (h : PDc c H ks kvs) (j : Int) : (ks.any fun kv => decide (kv.1 = Sum.inl j)) = kvs.any fun kv => decide (kv.1 = j) := by
  induction h with
  | nil => rfl
  | cons r t ih =>
    rw [List.any_cons, List.any_cons, ih, r.1]
    congr 1
    exact decide_eq_decide.mpr ⟨fun e => Sum.inl.inj e, fun e => by rw [e]⟩
theorem pdc_map {H : Hp} {ks : List (Key × V)} {kvs : List (Int × α)} (h : PDc c H ks kvs) (j : Int) {v : V} {x : α} (r : c.rep H v x) : PDc c H (ks.map fun kv => if kv.1 = .inl j then (kv.1, v) else kv) (kvs.map fun kv => if kv.1 = j then (kv.1, x) else kv) := by
  induction h with
  | nil => exact .nil
  | cons q t ih =>
    rw [List.map_cons, List.map_cons]
    refine .cons ?_ ih
    rename_i a b _ _
    by_cases e : b.1 = j
    · rw [if_pos e, if_pos (by rw [q.1, e])]; exact ⟨q.1, r⟩
    · rw [if_neg e, if_neg (by rw [q.1]; exact fun z => e (Sum.inl.inj z))]; exact q
theorem pdc_put {H : Hp} {ks : List (Key × V)} {kvs : List (Int × α)} (h : PDc c H ks kvs) (j : Int) {v : V} {x : α} (r : c.rep H v x) : PDc c H (putK ks (.inl j) v) (putD kvs j x) := by
  unfold putK putD
  rw [pdc_any h j]
  by_cases q : (kvs.any fun kv => decide (kv.1 = j)) = true
  · rw [if_pos q, if_pos q]; exact pdc_map h j r
  · rw [if_neg q, if_neg q]; exact Paired.snoc h ⟨rfl, r⟩
theorem pdc_val {H : Hp} {ks : List (Key × V)} {kvs : List (Int × α)} (h : PDc c H ks kvs) (j : Int) : (valD kvs j = none ∧ valV ks (Sum.inl j : Key) = none) ∨ ∃ v x, valD kvs j = some x ∧ valV ks (Sum.inl j : Key) = some v ∧ c.rep H v x := by
  induction h with
  | nil => exact .inl ⟨rfl, rfl⟩
  | cons r t ih =>
    rename_i a b _ _
    by_cases e : b.1 = j
    · refine .inr ⟨a.2, b.2, ?_, valV_pos (by rw [r.1, e]), r.2⟩
      unfold valD; rw [List.find?_cons, show decide (b.1 = j) = true from decide_eq_true e]; rfl
    · have e2 : ¬ a.1 = Sum.inl j := by rw [r.1]; exact fun z => e (Sum.inl.inj z)
      have e3 : ∀ l : List (Int × α), valD (b :: l) j = valD l j := fun l => by
        unfold valD; rw [List.find?_cons, show decide (b.1 = j) = false from decide_eq_false e]
      rw [e3, valV_neg e2]; exact ih
theorem putD_len (kvs : List (Int × α)) (j : Int) (x : α) : (putD kvs j x).length ≤ kvs.length + 1 := by
  unfold putD; split
  · rw [List.length_map]; omega
  · rw [List.length_append]; exact Nat.le_refl _
def dicOf {α : Type} (l : List (Int × α)) : List (Int × α) := l.foldl (fun d kv => putD d kv.1 kv.2) []
theorem dicOf_snoc (l : List (Int × α)) (kv : Int × α) : dicOf (l ++ [kv]) = putD (dicOf l) kv.1 kv.2 := by unfold dicOf; rw [List.foldl_append]; rfl
theorem dic_foldlen : ∀ (l d : List (Int × α)), (l.foldl (fun d kv => putD d kv.1 kv.2) d).length ≤ l.length + d.length
  | [], d => by simp
  | kv :: l, d => by
    rw [List.foldl_cons, List.length_cons]
    have := dic_foldlen l (putD d kv.1 kv.2)
    have := putD_len d kv.1 kv.2
    omega
theorem dicOf_len (l : List (Int × α)) : (dicOf l).length ≤ l.length := by have := dic_foldlen l []; unfold dicOf; simpa using this
theorem find_put (k j : Int) (x : α) : ∀ r : List (Int × α), (r.map fun kv => if kv.1 = k then (kv.1, x) else kv).find? (fun kv => decide (kv.1 = j)) = (r.find? fun kv => decide (kv.1 = j)).map fun kv => if kv.1 = k then (kv.1, x) else kv
  | [] => rfl
  | q :: r => by
    rw [List.map_cons, List.find?_cons, List.find?_cons, find_put k j x r]
    have e : (if q.1 = k then (q.1, x) else q).1 = q.1 := by split <;> rfl
    rw [e]
    cases decide (q.1 = j) <;> rfl
theorem valD_put (kvs : List (Int × α)) (k j : Int) (x : α) : valD (putD kvs k x) j = if j = k then some x else valD kvs j := by
  unfold valD putD
  by_cases h : (kvs.any fun kv => decide (kv.1 = k)) = true
  · rw [if_pos h, find_put]
    by_cases ej : j = k
    · subst ej
      rw [if_pos rfl]
      obtain ⟨kv, hk, e⟩ := List.any_eq_true.mp h
      cases hf : kvs.find? fun kv => decide (kv.1 = j) with
      | none => exact absurd e (List.find?_eq_none.mp hf kv hk)
      | some q =>
        have eq : q.1 = j := by simpa using List.find?_some hf
        show some (if q.1 = j then (q.1, x) else q).2 = some x
        rw [if_pos eq]
    · rw [if_neg ej]
      cases hf : kvs.find? fun kv => decide (kv.1 = j) with
      | none => rfl
      | some q =>
        have eq : q.1 = j := by simpa using List.find?_some hf
        show some (if q.1 = k then (q.1, x) else q).2 = some q.2
        rw [if_neg fun z => ej (eq.symm.trans z)]
  · rw [if_neg h, List.find?_append]
    have hn : ∀ kv ∈ kvs, ¬ kv.1 = k := fun kv hk e => h (List.any_eq_true.mpr ⟨kv, hk, decide_eq_true e⟩)
    by_cases ej : j = k
    · subst ej
      have : kvs.find? (fun kv => decide (kv.1 = j)) = none := List.find?_eq_none.mpr fun kv hk => by simpa using hn kv hk
      rw [this, if_pos rfl]; simp
    · rw [if_neg ej]
      have : ([(k, x)] : List (Int × α)).find? (fun kv => decide (kv.1 = j)) = none := by
        simp; exact fun z => ej z.symm
      rw [this]; simp
/-- where the keys are all different, a dict of rows is the rows -/
theorem valD_dicOf : ∀ (l : List (Int × α)) (j : Int), valD (dicOf l) j = valD l.reverse j := fun l j => by
  suffices ∀ m : List (Int × α), valD (dicOf m.reverse) j = valD m j by have := this l.reverse; rwa [List.reverse_reverse] at this
  intro m
  induction m with
  | nil => rfl
  | cons kv m ih =>
    rw [List.reverse_cons, dicOf_snoc, valD_put, ih]
    unfold valD
    rw [List.find?_cons]
    by_cases e : j = kv.1
    · rw [if_pos e, show decide (kv.1 = j) = true from decide_eq_true e.symm]; rfl
    · rw [if_neg e, show decide (kv.1 = j) = false from decide_eq_false fun z => e z.symm]
/-- {f x: h x for x in xs if b x} -/
theorem td_dc {vs : List Nat} (f : α → Int) (h : α → β) (b : α → Bool) (hw : TW wi Γ k c (· = xs)) (hv : ∀ i ∈ vs, NoBx Γ i)
    (hs : ∀ x, x ∈ xs → ∃ Γ1 is, GD g c x (wipeC Γ vs) Γ1 is ∧ (∀ i ∈ is, i ∈ vs) ∧ TDT tt Γ1 0 (· = b x) ∧ (b x = true → TD tk Γ1 0 cInt (· = f x) ∧ TD tv Γ1 0 c' (· = h x))) :
    TD (tDc wi g tt tk tv vs) Γ k (cDic c') (· = dicOf ((xs.filter b).map fun x => (f x, h x))) := fun O n σ Hf H hn s Q q =>
  hw O n σ Hf H hn s _ fun J Hf1 H1 xs' px W lb f1 S1 D hD => by
    subst px
    have hbx : ∀ a, Bx Γ a → a ≠ D := fun a ⟨i, hi⟩ z => by
      subst z
      obtain ⟨_, _, _, _, _, _, e, _⟩ := S1.at_ i _ hi
      rw [hD] at e; cases e
    have bx0 : ∀ a, Bx Γ a → Hf1 a = none ∧ BoxAt H1 a (n + k) := fun a ⟨i, hi⟩ => (S1.at_ i _ hi).2
    refine ⟨fun i m H' => m = xs'.length - i ∧ i ≤ xs'.length ∧ ∃ Hfi ks, H' D = some (.dK ks) ∧ ks.length ≤ i ∧ PDc c' Hfi ks (dicOf (((xs'.take i).filter b).map fun x => (f x, h x))) ∧ Hfi D = none ∧ Ex Hfi H' ∧ Fr (Bx Γ) Hf1 H1 Hfi H' ∧
        ∀ a, Bx Γ a → Hfi a = none ∧ BoxAt H' a (n + k),
      ⟨xs'.length, by simp, Nat.zero_le _, Hf1, [], upd_same, Nat.le_refl _, .nil, S1.ex.back hD, S1.ex.trans (Ex.new hD), Fr.newO hD, fun a ha => ⟨(bx0 a ha).1, boxAt_ex (bx0 a ha).2 fun o e => by rw [upd_ne (hbx a ha)]; exact e⟩⟩, ?_⟩
    rintro i m H' ⟨rfl, hi, Hfi, ks, hDi, hkl, hT, hfD, ex, fr, hb⟩
    have Si : Sat O Hfi H' (wipe σ vs) (wipeC Γ vs) (n + k) := (S1.grow fr ex hb).wipe vs
    by_cases hlt : i < xs'.length
    · have hx : xs'[i]? = some xs'[i] := List.getElem?_eq_getElem hlt
      have ts : xs'.take (i + 1) = xs'.take i ++ [xs'[i]] := take_snoc hx
      refine .inr ⟨W.go Hfi H' i fr.ex ex hlt, fun H2 => ∃ Hfi ks, H2 D = some (.dK ks) ∧ ks.length ≤ i + 1 ∧ PDc c' Hfi ks (dicOf (((xs'.take (i + 1)).filter b).map fun x => (f x, h x))) ∧ Hfi D = none ∧ Ex Hfi H2 ∧ Fr (Bx Γ) Hf1 H1 Hfi H2 ∧
        ∀ a, Bx Γ a → Hfi a = none ∧ BoxAt H2 a (n + k), fun H2 h2 => ⟨xs'.length - (i + 1), by omega, rfl, hlt, h2⟩, fun v H2 hy => ?_⟩
      obtain ⟨Hf2, rx, fy, ey⟩ := W.yld Hfi H' i v H2 _ fr.ex ex hy hx
      have S2 : Sat O Hf2 H2 (wipe σ vs) (wipeC Γ vs) (n + k) := Si.grow0 fy ey
      obtain ⟨Γ1, is, gd, hin, ht, hTt⟩ := hs xs'[i] (List.getElem_mem hlt)
      have bx1 : ∀ a, Bx Γ1 a → Bx Γ a := fun a h => (bx_wipe hv).mp (gd.2.1 a h)
      have bx2 : ∀ a, Bx Γ a → Bx Γ1 a := fun a h => by
        obtain ⟨j, hj⟩ := (bx_wipe hv).mpr h
        exact ⟨j, gd.1 j a hj⟩
      have hD2 := fy.keep _ _ hDi id
      have hfD2 : Hf2 D = none := fy.fz _ _ hDi id hfD
      refine gd.2.2 O _ _ Hf2 H2 v rx S2 _ fun σ3 S3 w3 => ⟨(w3 vs hin).trans wipe_wipe, ?_⟩
      refine ht O _ σ3 Hf2 H2 (by omega) S3 _ fun bb Hf3 H3 pb f3 S3' => ?_
      have nD1 : ¬ Bx Γ1 D := fun z => hbx D (bx1 D z) rfl
      have hD3 := f3.keep _ _ hD2 nD1
      have hfD3 : Hf3 D = none := f3.fz _ _ hD2 nD1 hfD2
      have F3 : Fr (Bx Γ) Hf1 H1 Hf3 H3 := (fr.trans fy fun _ z => z.elim).trans f3 fun a z => .inl (bx1 a z)
      cases bb with
      | true =>
        rw [if_pos rfl]
        obtain ⟨hk1, hk2⟩ := hTt pb.symm
        refine hk1 O _ σ3 Hf3 H3 (by omega) S3' _ fun yk Hf4 H4 kx pk rk f4 S4 => ?_
        have hD4 := f4.keep _ _ hD3 nD1
        have hfD4 : Hf4 D = none := f4.fz _ _ hD3 nD1 hfD3
        have F4 : Fr (Bx Γ) Hf1 H1 Hf4 H4 := F3.trans f4 fun a z => .inl (bx1 a z)
        refine hk2 O _ σ3 Hf4 H4 (by omega) S4 _ fun y Hf5 H5 yx py ry f5 S5 => ?_
        have hD5 := f5.keep _ _ hD4 nD1
        have hfD5 : Hf5 D = none := f5.fz _ _ hD4 nD1 hfD4
        have F5 : Fr (Bx Γ) Hf1 H1 Hf5 H5 := F4.trans f5 fun a z => .inl (bx1 a z)
        have ee : ((xs'.take (i + 1)).filter b).map (fun x => (f x, h x)) = ((xs'.take i).filter b).map (fun x => (f x, h x)) ++ [(f xs'[i], h xs'[i])] := by
          rw [ts, List.filter_append, List.map_append]; congr 1; simp [← pb]
        obtain rfl := rk
        subst pk py
        refine ⟨ks, .inl (f xs'[i]), rfl, hD5, lb_lt (by omega), Hf5, _, upd_same, ?_, ?_, hfD5, S5.ex.mut hfD5, ?_, fun a ha => ?_⟩
        · have := length_putK ks (.inl (f xs'[i]) : Key) y; omega
        · rw [ee, dicOf_snoc]
          exact pdc_put (hT.mono ((fy.ex.trans f3.ex).trans (f4.ex.trans f5.ex))) _ ry
        · refine ⟨F5.ex, fun a o e nm => ?_, F5.fz, fun a e => ?_⟩
          · rw [upd_ne (ne_of_none e hD)]; exact F5.keep a o e nm
          · by_cases z : a = D
            · subst z; exact hD
            · rw [upd_ne z] at e; exact F5.dom a e
        · obtain ⟨j, hj⟩ := bx2 a ha
          obtain ⟨_, z1, z2⟩ := S5.at_ j _ hj
          exact ⟨z1, boxAt_ex z2 fun o e => by rw [upd_ne (hbx a ha)]; exact e⟩
      | false =>
        rw [if_neg Bool.false_ne_true]
        have ee : ((xs'.take (i + 1)).filter b).map (fun x => (f x, h x)) = ((xs'.take i).filter b).map fun x => (f x, h x) := by
          rw [ts, List.filter_append, List.map_append]; simp [← pb]
        refine ⟨Hf3, ks, hD3, by omega, by rw [ee]; exact hT.mono (fy.ex.trans f3.ex), hfD3, S3'.ex, F3, fun a ha => ?_⟩
        obtain ⟨j, hj⟩ := bx2 a ha
        obtain ⟨_, z1, z2⟩ := S3'.at_ j _ hj
        exact ⟨z1, z2⟩
    · have e : i = xs'.length := by omega
      subst e
      rw [List.take_length] at hT
      have F : Fr (Bx Γ) Hf1 H1 (upd Hfi D (.dK ks)) H' := fr.fix hD hfD hDi
      refine .inl ⟨W.stop Hfi H' fr.ex ex, q _ (upd Hfi D (.dK ks)) H' _ rfl ⟨D, ks, rfl, upd_same, hT.mono (Ex.new hfD), by omega⟩ (f1.trans F fun _ z => .inl z) ?_⟩
      refine S1.grow F (ex.fix hDi) fun a ha => ?_
      obtain ⟨z1, z2⟩ := hb a ha
      exact ⟨by rw [upd_ne (hbx a ha)]; exact z1, z2⟩
end
end DL

set_option Elab.async false
set_option linter.all false
set_option maxRecDepth 100000
set_option maxHeartbeats 4000000
namespace DL
open PySem PySem.Spec L2
/-! ### sorted lists are what they are -/
theorem perm_sorted_eq {α : Type} {f : α → Int} : ∀ {l m : List α}, l.Perm m → l.Pairwise (fun a b => f a ≤ f b) → m.Pairwise (fun a b => f a ≤ f b) → (∀ a ∈ l, ∀ b ∈ l, f a = f b → a = b) → l = m
  | [], m, h, _, _, _ => by have := h.length_eq; cases m with
    | nil => rfl
    | cons => simp at this
  | x :: l, [], h, _, _, _ => by have := h.length_eq; simp at this
  | x :: l, y :: m, h, h1, h2, hi => by
    have a := List.pairwise_cons.mp h1
    have b := List.pairwise_cons.mp h2
    have hy : y ∈ x :: l := h.mem_iff.mpr List.mem_cons_self
    have hx : x ∈ y :: m := h.mem_iff.mp List.mem_cons_self
    have e : x = y := by
      rcases List.mem_cons.mp hy with e | e
      · exact e.symm
      · rcases List.mem_cons.mp hx with e2 | e2
        · exact e2
        · exact hi x List.mem_cons_self y hy (Int.le_antisymm (a.1 y e) (b.1 x e2))
    subst e
    rw [perm_sorted_eq ((List.perm_cons x).mp h) a.2 b.2 fun p hp q hq => hi p (List.mem_cons_of_mem _ hp) q (List.mem_cons_of_mem _ hq)]
def sortBy {α : Type} (f : α → Int) (l : List α) : List α := l.mergeSort fun a b => decide (f a ≤ f b)
theorem sortBy_perm {α : Type} (f : α → Int) (l : List α) : (sortBy f l).Perm l := List.mergeSort_perm l _
theorem sortBy_up {α : Type} (f : α → Int) (l : List α) : (sortBy f l).Pairwise (fun a b => f a ≤ f b) :=
  (List.pairwise_mergeSort (le := fun a b => decide (f a ≤ f b)) (fun a b c h1 h2 => by simp at h1 h2 ⊢; omega) (fun a b => by simp; omega) l).imp fun h => by simpa using h
theorem sortBy_eq {α : Type} {f : α → Int} {l m : List α} (h : m.Perm l) (hu : m.Pairwise fun a b => f a ≤ f b) (hi : ∀ a ∈ l, ∀ b ∈ l, f a = f b → a = b) : m = sortBy f l :=
  perm_sorted_eq (h.trans (sortBy_perm f l).symm) hu (sortBy_up f l) fun a ha b hb => hi a (h.mem_iff.mp ha) b (h.mem_iff.mp hb)
def sortI (l : List Int) : List Int := sortBy id l
abbrev R3 := Int × Int × Int
def code3 (r : R3) : Int := (r.1 * 64 + r.2.1) * 64 + r.2.2
def In64 (r : R3) : Prop := (0 ≤ r.1 ∧ r.1 < 64) ∧ (0 ≤ r.2.1 ∧ r.2.1 < 64) ∧ (0 ≤ r.2.2 ∧ r.2.2 < 64)
theorem code3_inj {a b : R3} (ha : In64 a) (hb : In64 b) (h : code3 a = code3 b) : a = b := by
  obtain ⟨a1, a2, a3⟩ := a
  obtain ⟨b1, b2, b3⟩ := b
  obtain ⟨⟨x1, x2⟩, ⟨x3, x4⟩, x5, x6⟩ := ha
  obtain ⟨⟨y1, y2⟩, ⟨y3, y4⟩, y5, y6⟩ := hb
  simp only [code3] at *
  have e3 : a3 = b3 := by omega
  have e2 : a2 = b2 := by omega
  have e1 : a1 = b1 := by omega
  rw [e1, e2, e3]
def sort3 (l : List R3) : List R3 := sortBy code3 l
section
variable {S : Stc} {X : Cx}
variable {Γ Γ1 Γ2 Γ3 : Ctxt} {k k1 k2 k3 kk kt ke : Nat} {A α β γ ρ : Type} {c : Cod α} {c' : Cod β} {cr : Cod ρ} {c1 : Cod α} {c2 : Cod β} {c3 : Cod γ} {P P1 : α → Prop} {P2 : β → Prop} {P3 : γ → Prop} {te to ti tk tv : TE} {tt : TT} {t u : TS} {p : Po ρ} {ta tx : TA} {e a b d o : Expr} {es : List Expr} {pos pos' pn pt apos : Pos}
variable {x : α} {y : β} {z : γ} {xs : List α} {K : PySem.W.Frag} {w : World} {ns : List Int}
theorem psortI' (hg : S.sc.names.lookup ("sorted" : Str) = some .globalImplicit) (hm : S.mg "sorted" = none) (h : PD S Γ 0 e (cList cInt) (· = ns)) (he : ∀ env : Env, starEach [e] env = (false, eval e env) :: starEach [] env) : PDF S Γ 0 (.Call (.Name "sorted" pn) [e] [] pos) cInt (· = sortI ns) :=
  pfb1 sortIG hg hm PyProof.Rows.boot_sorted h (fun Hf H v ex r Q q => rc_sortI Hf H v ex r Q fun p vs zs pz hp pr lb => q p vs zs (sortBy_eq pz.1 pz.2 fun _ _ _ _ e => e) hp pr lb) he
theorem tupI3 {Hf H : Hp} {v : V} {r : R3} (e : Ex Hf H) (h : (cT3 cInt cInt cInt).rep Hf v r) : TupI K H v [r.1, r.2.1, r.2.2] := by
  obtain ⟨a, u, w, y, h1, h2, h3, h4, h5⟩ := h
  obtain rfl := h3; obtain rfl := h4; obtain rfl := h5
  exact ⟨a, h1, SqT.of (e _ _ h2)⟩
theorem code_3 (a b c : Int) : TS.code 64 [a, b, c] = code3 (a, b, c) := by
  show a * 64 ^ 2 + (b * 64 ^ 1 + (c * 64 ^ 0 + 0)) = (a * 64 + b) * 64 + c
  rw [show (64 : Int) ^ 2 = 4096 from by decide, show (64 : Int) ^ 1 = 64 from by decide, show (64 : Int) ^ 0 = 1 from by decide]; omega
/-- a permutation of the values permutes what they are -/
theorem paired_perm {F : V → α → Prop} {us vs : List V} (h : us.Perm vs) : ∀ {xs : List α}, Paired F vs xs → ∃ ys : List α, ys.Perm xs ∧ Paired F us ys := by
  induction h with
  | nil => intro xs p; cases p; exact ⟨[], .nil, .nil⟩
  | cons u _ ih =>
    intro xs p
    cases p with
    | cons r t =>
      obtain ⟨ys, h1, h2⟩ := ih t
      exact ⟨_ :: ys, h1.cons _, .cons r h2⟩
  | swap u v l =>
    intro xs p
    cases p with
    | cons r t =>
      cases t with
      | cons r2 t => exact ⟨_ :: _ :: _, .swap .., .cons r2 (.cons r t)⟩
  | trans _ _ ih1 ih2 =>
    intro xs p
    obtain ⟨ys, h1, h2⟩ := ih2 p
    obtain ⟨zs, h3, h4⟩ := ih1 h2
    exact ⟨zs, h3.trans h1, h4⟩
theorem paired_mem2 {F : V → α → Prop} {R : V → V → Prop} {T : α → α → Prop} : ∀ {us : List V} {xs : List α}, Paired F us xs → us.Pairwise R → (∀ u v x y, x ∈ xs → y ∈ xs → F u x → F v y → R u v → T x y) → xs.Pairwise T
  | _, _, .nil, _, _ => .nil
  | _, _, .cons (b := x) r t, h, f => by
    have h' := List.pairwise_cons.mp h
    refine List.pairwise_cons.mpr ⟨fun y hy => ?_, paired_mem2 t h'.2 fun u v x y hx hy => f u v x y (List.mem_cons_of_mem _ hx) (List.mem_cons_of_mem _ hy)⟩
    obtain ⟨v, hv, rv⟩ := paired_mem t y hy
    exact f _ v _ y List.mem_cons_self (List.mem_cons_of_mem _ hy) r rv (h'.1 v hv)
where paired_mem : ∀ {us : List V} {xs : List α}, Paired F us xs → ∀ y ∈ xs, ∃ v ∈ us, F v y
  | _, _, .nil, _, h => nomatch h
  | _, _, .cons r t, y, h => by
    rcases List.mem_cons.mp h with e | e
    · subst e; exact ⟨_, List.mem_cons_self, r⟩
    · obtain ⟨v, hv, r'⟩ := paired_mem t y e
      exact ⟨v, List.mem_cons_of_mem _ hv, r'⟩
theorem paired_in {F : V → α → Prop} : ∀ {us : List V} {xs : List α}, Paired F us xs → ∀ v ∈ us, ∃ y ∈ xs, F v y
  | _, _, .nil, _, h => nomatch h
  | _, _, .cons r t, v, h => by
    rcases List.mem_cons.mp h with e | e
    · subst e; exact ⟨_, List.mem_cons_self, r⟩
    · obtain ⟨y, hy, r'⟩ := paired_in t v e
      exact ⟨y, List.mem_cons_of_mem _ hy, r'⟩
theorem rc_sort3 {rs : List R3} (hl : rs.length < 64) (hb : ∀ r ∈ rs, In64 r) : RC1F (rSortU K 3 64) (cList (cT3 cInt cInt cInt)) rs (cT3 cInt cInt cInt) (· = sort3 rs) := fun Hf H v e ⟨a, vs, h1, h2, h3, h4⟩ Q q => by
  refine ⟨a, vs, by rw [h1], SqL.of (e _ _ h2), by rw [paired_len h3]; exact hl, fun x hx => ?_, fun ys p hp hu hn => ?_⟩
  · obtain ⟨r, hr, rr⟩ := paired_in h3 x hx
    refine ⟨_, tupI3 e rr, rfl, fun m hm => ?_⟩
    obtain ⟨b1, b2, b3⟩ := hb r hr
    rcases List.mem_cons.mp hm with z | hm
    · rw [z]; exact b1
    rcases List.mem_cons.mp hm with z | hm
    · rw [z]; exact b2
    rcases List.mem_cons.mp hm with z | hm
    · rw [z]; exact b3
    · exact absurd hm List.not_mem_nil
  · obtain ⟨zs, hz, pz⟩ := paired_perm hp h3
    refine q p ys zs (sortBy_eq hz (paired_mem2 pz hu fun u v x y _ _ rx ry R => ?_) fun a ha b hb' => code3_inj (hb a ha) (hb b hb')) hn pz ?_
    · have := R _ _ (tupI3 e rx) (tupI3 e ry)
      rw [code_3, code_3] at this; exact this
    · rw [hp.length_eq]; exact h4
theorem sort3G : ∀ X, Good S X → CallR X (.builtin "sorted") (rSortU S.K 3 64) := fun X G => by rw [← G.K]; exact cr_sortT (by decide)
theorem psort3 {rs : List R3} (hg : S.sc.names.lookup ("sorted" : Str) = some .globalImplicit) (hm : S.mg "sorted" = none) (h : PD S Γ 0 e (cList (cT3 cInt cInt cInt)) (· = rs)) (hl : rs.length < 64) (hb : ∀ r ∈ rs, In64 r) (he : ∀ env : Env, starEach [e] env = (false, eval e env) :: starEach [] env) :
    PDF S Γ 0 (.Call (.Name "sorted" pn) [e] [] pos) (cT3 cInt cInt cInt) (· = sort3 rs) := pfb1 sort3G hg hm PyProof.Rows.boot_sorted h (rc_sort3 hl hb) he
/-! ### {.. for ..} -/
theorem pscT (own : List (Str × Nat)) {elt tg iter : Expr} {ifs : List Expr} {scope : Scope} {f : α → Int} {q : α → Bool} (hw : PDI S Γ k tg iter c (· = xs)) (nv : NoBxs Γ (own.map (·.2))) (hz : xs.length ≤ 1000) (ok : blkC S.N S.sc scope own = true) (hfs : ∀ (env : Env) x, foldedSetIterable iter env x = pure x)
    (hs : ∀ x, x ∈ xs → ∃ Γ1 is, PDG (S.blk scope) tg c x (wipeC Γ (own.map (·.2))) Γ1 is ∧ (∀ i ∈ is, i ∈ own.map (·.2)) ∧ TDT (tTs (S.blk scope) ifs) Γ1 0 (· = q x) ∧ (q x = true → PD (S.blk scope) Γ1 0 elt cInt (· = f x))) :
    PD S Γ k (.SetComp elt [⟨tg, iter, ifs, 0⟩] scope pos) (cSet S.w) (· = asc ((xs.filter q).map f)) :=
  pd_of (te := tSci S.w (tI S tg iter) (tGt (S.blk scope) tg) (tTs (S.blk scope) ifs) (tE (S.blk scope) elt) (own.map (·.2))) (fun X G => by
    rw [← G.w]
    exact pe_sci G.calm (by rw [G.N]; exact G.nd) (tI_ok G) (blkOk_by (by rw [G.N, G.sc]; exact ok)) (fun s H C cl fp => tGt_ok (G.blk scope s H C cl fp)) (fun s H C cl fp => tTs_ok (G.blk scope s H C cl fp)) (fun s H C cl fp => tE_ok (G.blk scope s H C cl fp)) (hfs _))
    (td_sc f q hw (noBxs_mem nv) hz hs)
theorem pscN (own : List (Str × Nat)) {elt tg iter : Expr} {scope : Scope} {f : α → Int} (hw : PDI S Γ k tg iter c (· = xs)) (nv : NoBxs Γ (own.map (·.2))) (hz : xs.length ≤ 1000) (ok : blkC S.N S.sc scope own = true) (hfs : ∀ (env : Env) x, foldedSetIterable iter env x = pure x)
    (hs : ∀ x, x ∈ xs → ∃ Γ1 is, PDG (S.blk scope) tg c x (wipeC Γ (own.map (·.2))) Γ1 is ∧ (∀ i ∈ is, i ∈ own.map (·.2)) ∧ PD (S.blk scope) Γ1 0 elt cInt (· = f x)) :
    PD S Γ k (.SetComp elt [⟨tg, iter, [], 0⟩] scope pos) (cSet S.w) (· = asc (xs.map f)) :=
  (pscT own (q := fun _ => true) hw nv hz ok hfs fun x hx => by
    obtain ⟨Γ1, is, h1, h2, h3⟩ := hs x hx
    exact ⟨Γ1, is, h1, h2, tts_nil, fun _ => h3⟩).imp fun ys e => by rw [e]; congr 2; simp
/-! ### {..: .. for ..} -/
theorem pdcT (own : List (Str × Nat)) {ek ev tg iter : Expr} {ifs : List Expr} {scope : Scope} {f : α → Int} {h : α → β} {q : α → Bool} (hw : PDI S Γ k tg iter c (· = xs)) (nv : NoBxs Γ (own.map (·.2))) (ok : blkC S.N S.sc scope own = true) (hfs : ∀ (env : Env) x, foldedSetIterable iter env x = pure x)
    (hs : ∀ x, x ∈ xs → ∃ Γ1 is, PDG (S.blk scope) tg c x (wipeC Γ (own.map (·.2))) Γ1 is ∧ (∀ i ∈ is, i ∈ own.map (·.2)) ∧ TDT (tTs (S.blk scope) ifs) Γ1 0 (· = q x) ∧ (q x = true → PD (S.blk scope) Γ1 0 ek cInt (· = f x) ∧ PD (S.blk scope) Γ1 0 ev c' (· = h x))) :
    PD S Γ k (.DictComp ek ev [⟨tg, iter, ifs, 0⟩] scope pos) (cDic c') (· = dicOf ((xs.filter q).map fun x => (f x, h x))) :=
  pd_of (te := tDc (tI S tg iter) (tGt (S.blk scope) tg) (tTs (S.blk scope) ifs) (tE (S.blk scope) ek) (tE (S.blk scope) ev) (own.map (·.2))) (fun X G =>
    pe_dc G.calm (by rw [G.N]; exact G.nd) (tI_ok G) (blkOk_by (by rw [G.N, G.sc]; exact ok)) (fun s H C cl fp => tGt_ok (G.blk scope s H C cl fp)) (fun s H C cl fp => tTs_ok (G.blk scope s H C cl fp)) (fun s H C cl fp => tE_ok (G.blk scope s H C cl fp)) (fun s H C cl fp => tE_ok (G.blk scope s H C cl fp)) (hfs _))
    (td_dc f h q hw (noBxs_mem nv) hs)
theorem pdcN (own : List (Str × Nat)) {ek ev tg iter : Expr} {scope : Scope} {f : α → Int} {h : α → β} (hw : PDI S Γ k tg iter c (· = xs)) (nv : NoBxs Γ (own.map (·.2))) (ok : blkC S.N S.sc scope own = true) (hfs : ∀ (env : Env) x, foldedSetIterable iter env x = pure x)
    (hs : ∀ x, x ∈ xs → ∃ Γ1 is, PDG (S.blk scope) tg c x (wipeC Γ (own.map (·.2))) Γ1 is ∧ (∀ i ∈ is, i ∈ own.map (·.2)) ∧ PD (S.blk scope) Γ1 0 ek cInt (· = f x) ∧ PD (S.blk scope) Γ1 0 ev c' (· = h x)) :
    PD S Γ k (.DictComp ek ev [⟨tg, iter, [], 0⟩] scope pos) (cDic c') (· = dicOf (xs.map fun x => (f x, h x))) :=
  (pdcT own (q := fun _ => true) hw nv ok hfs fun x hx => by
    obtain ⟨Γ1, is, h1, h2, h3⟩ := hs x hx
    exact ⟨Γ1, is, h1, h2, tts_nil, fun _ => h3⟩).imp fun ys e => by rw [e]; congr 2; simp
/-! ### d.get(k, x); k in d -/
theorem pdget2 {kvs : List (Int × α)} {i : Int} (ho : PD S Γ 0 o (cDic c) (· = kvs)) (he : PD S Γ 0 e cInt (· = i)) (hf : PD S Γ 0 d c (· = x)) (m : ∀ X, M2 X o "get" apos e d pos) : PD S Γ 0 (.Call (.Attribute o "get" apos) [e, d] [] pos) c (· = (valD kvs i).getD x) :=
  pd_of (fun X G => pe_dget2 (by have := G.room.un; omega) (tE_ok G) (tE_ok G) (tE_ok G) (m X)) fun O n σ Hf H hn s Q q => ho O n σ Hf H hn s _ fun v Hf1 H1 k1 p1 ⟨a, ks, h1, h2, h3, h4⟩ f1 s1 => by
    subst p1
    refine ⟨a, h1, .inl ⟨ks, .inl (s1.ex _ _ h2)⟩, ?_⟩
    refine he O n σ Hf1 H1 hn s1 _ fun v2 Hf2 H2 j p2 r2 f2 s2 => hf O n σ Hf2 H2 hn s2 _ fun v3 Hf3 H3 x' p3 r3 f3 s3 => ?_
    subst p2 p3
    obtain rfl := r2
    have e3 := s3.ex _ _ (f3.ex _ _ (f2.ex _ _ h2))
    refine ⟨valV ks (Sum.inl j : Key), DGet.k (k := Sum.inl j) e3, ?_⟩
    rcases pdc_val h3 j with ⟨z1, z2⟩ | ⟨w, y, z1, z2, z3⟩
    · rw [z2]
      exact q v3 Hf3 H3 _ (by rw [z1]; rfl) r3 ((f1.trans f2 fun _ z => .inl z).trans f3 fun _ z => .inl z) s3
    · rw [z2]
      exact q w Hf3 H3 y (by rw [z1]; rfl) (c.mono (f2.ex.trans f3.ex) z3) ((f1.trans f2 fun _ z => .inl z).trans f3 fun _ z => .inl z) s3
theorem tnotinD {kvs : List (Int × α)} {i : Int} (he : PD S Γ 0 e cInt (· = i)) (ho : PD S Γ 0 o (cDic c) (· = kvs)) (hm : behindInMarks .NotIn o = false) : PD S Γ 0 (.Compare e [.NotIn] [o] pos) cBool (· = !(valD kvs i).isSome) :=
  pd_of (fun X G => pe_cmp (pc_dnotin (by have := G.room.un; omega) (tE_ok G) (tE_ok G)) hm) fun O n σ Hf H hn s Q q => he O n σ Hf H hn s _ fun v Hf1 H1 j p1 r1 f1 s1 => ho O n σ Hf1 H1 hn s1 _ fun v2 Hf2 H2 k2 p2 ⟨a, ks, h1, h2, h3, h4⟩ f2 s2 => by
    subst p1 p2
    obtain rfl := r1
    refine ⟨a, valV ks (Sum.inl j : Key), h1, DGet.k (k := Sum.inl j) (s2.ex _ _ h2), q _ Hf2 H2 _ ?_ rfl (f1.trans f2 fun _ z => .inl z) s2⟩
    rcases pdc_val h3 j with ⟨z1, z2⟩ | ⟨w, y, z1, z2, z3⟩
    · rw [z1, z2]; rfl
    · rw [z1, z2]; rfl
theorem tinD {kvs : List (Int × α)} {i : Int} (he : PD S Γ 0 e cInt (· = i)) (ho : PD S Γ 0 o (cDic c) (· = kvs)) (hm : behindInMarks .In o = false) : PD S Γ 0 (.Compare e [.In] [o] pos) cBool (· = (valD kvs i).isSome) :=
  pd_of (fun X G => pe_cmp (pc_din (by have := G.room.un; omega) (tE_ok G) (tE_ok G)) hm) fun O n σ Hf H hn s Q q => he O n σ Hf H hn s _ fun v Hf1 H1 j p1 r1 f1 s1 => ho O n σ Hf1 H1 hn s1 _ fun v2 Hf2 H2 k2 p2 ⟨a, ks, h1, h2, h3, h4⟩ f2 s2 => by
    subst p1 p2
    obtain rfl := r1
    refine ⟨a, valV ks (Sum.inl j : Key), h1, DGet.k (k := Sum.inl j) (s2.ex _ _ h2), q _ Hf2 H2 _ ?_ rfl (f1.trans f2 fun _ z => .inl z) s2⟩
    rcases pdc_val h3 j with ⟨z1, z2⟩ | ⟨w, y, z1, z2, z3⟩
    · rw [z1, z2]; rfl
    · rw [z1, z2]; rfl
end
end DL

set_option Elab.async false
set_option linter.all false
set_option maxRecDepth 100000
set_option maxHeartbeats 4000000
namespace DL
open PySem PySem.Spec L2
/-! ### a def at its name, and its promise -/
structure Def (K : PySem.W.Frag) (mg : Str → Option Value) (x : Str) (st : Stmt) : Prop where
  ex : ∃ f fd, Fun K x x st f fd ∧ mg x = some (.ref f)
structure Cal (P : Program) (w : World) (K : PySem.W.Frag) (mg : Str → Option Value) (base : Heap) (x : Str) (pn : List Str) (lv : Nat) (sp : Sp) : Prop where
  ex : ∃ f fd, FnOk P w K mg base CX0 lv f fd pn sp ∧ mg x = some (.ref f) ∧ PySem.W.keepIn K (.ref f) = true ∧ Binds K fd pn []
/-- how the arguments bind (no defaults) -/
abbrev BindsD (st : Stmt) (x : Str) (pn : List Str) : Prop := ∀ (kV doc pm : Value) (an : Option Addr) (cdv ct : Value) (us : List Value), us.length = pn.length → bindArgs (PySem.W.fnOf x x (defArgs st) (defBody st) (defScope st) .none kV doc pm an cdv ct) ⟨us, []⟩ = pure (pn.zip us)
section
variable {P : Program} {w : World} {K : PySem.W.Frag} {mg : Str → Option Value} {base : Heap} {x : Str} {st : Stmt} {N pn : List Str} {lv : Nat}
variable {A ρ : Type} {ps : Addr → A → Ctxt} {kf : A → Nat} {pre : A → Prop} {cr : Cod ρ} {PR : A → ρ → Prop}
theorem cal_D (D : Def K mg x st) (hb : BindsD st x pn) (Sc : FnScope N pn (defScope st))
    (hl : ∀ b a, (ps b a).length = pn.length) (hN : pn.length ≤ N.length) (one : ∀ b a, OneB (ps b a))
    (body : ∀ b a, pre a → PHs ⟨N, defScope st, K, mg, P, w, base, lv, fun _ => true, false⟩ (entry N (ps b a)) (kf a) (defBody st) { N := fun _ => False, bk := fun _ => False, ct := fun _ => False, c := cr, R := PR a }) :
    Cal P w K mg base x pn (lv + 1) (spD ps kf pre cr PR) := by
  obtain ⟨f, fd, F, hm⟩ := D.ex
  exact ⟨f, fd, fn_D F Sc hl hN one body, hm, F.kp, F.binds hb⟩
/-- a def known raw -/
theorem cal_of {sp : Sp} (D : Def K mg x st) (hb : BindsD st x pn) (h : ∀ f fd, Fun K x x st f fd → FnOk P w K mg base CX0 lv f fd pn sp) : Cal P w K mg base x pn lv sp := by
  obtain ⟨f, fd, F, hm⟩ := D.ex
  exact ⟨f, fd, h f fd F, hm, F.kp, F.binds hb⟩
theorem Cal.imp {sp sp' : Sp} (C : Cal P w K mg base x pn lv sp) (h : ∀ f fd, FnOk P w K mg base CX0 lv f fd pn sp → FnOk P w K mg base CX0 lv f fd pn sp') : Cal P w K mg base x pn lv sp' := by
  obtain ⟨f, fd, F, hm, hk, hb⟩ := C.ex
  exact ⟨f, fd, h f fd F, hm, hk, hb⟩
end
section
variable {S : Stc} {Γ : Ctxt} {k k1 k2 : Nat} {A ρ : Type} {cr : Cod ρ} {e : Expr} {es : List Expr} {pos pn : Pos}
theorem pcalX {ps : Addr → A → Ctxt} {kf : A → Nat} {pre : A → Prop} {PR : A → ρ → Prop} {B : Ctxt → Prop} {P' : ρ → Prop} {pn' : List Str} {x : Str} {l : Nat} (F : Cal S.prog S.w S.K S.mg S.base x pn' l (spD ps kf pre cr PR)) (hl : l ≤ S.lv) (hg : S.sc.names.lookup x = some .globalImplicit)
    (h : PDA S Γ k1 (e :: es) B) (hc : ∀ as, B as → ∃ a b, as = ps b a ∧ pre a ∧ kf a ≤ k2 ∧ ∀ x, PR a x → P' x)
    (he : ∀ env : Env, starEach (e :: es) env = (false, eval e env) :: starEach es env) (hpl : ∀ env : Env, (backTo pos (starEach es env)).any (·.1) = false) (hdb : (x == ("__debug__" : Str)) = false := by decide) : PD S Γ (k1 + k2) (.Call (.Name x pn) (e :: es) [] pos) cr P' := by
  obtain ⟨f, fd, F, hm, hk, hb⟩ := F.ex
  exact pd_call F hl hg hm hk hb h hc he hpl hdb
/-- nothing drawn, one value -/
theorem pcal {ps : Addr → A → Ctxt} {pre : A → Prop} {g : A → ρ} {l : Ctxt} {pn' : List Str} {x : Str} {lv : Nat} (F : Cal S.prog S.w S.K S.mg S.base x pn' lv (spD ps (fun _ => 0) pre cr (fun a x => x = g a))) (hl : lv ≤ S.lv) (hg : S.sc.names.lookup x = some .globalImplicit)
    (h : PDA S Γ 0 (e :: es) (· = l)) (a : A) (b : Addr) (hc : l = ps b a) (hp : pre a)
    (he : ∀ env : Env, starEach (e :: es) env = (false, eval e env) :: starEach es env) (hpl : ∀ env : Env, (backTo pos (starEach es env)).any (·.1) = false) (hdb : (x == ("__debug__" : Str)) = false := by decide) : PD S Γ 0 (.Call (.Name x pn) (e :: es) [] pos) cr (· = g a) :=
  pcalX (k1 := 0) (k2 := 0) F hl hg h (fun as e => ⟨a, b, e.trans hc, hp, Nat.le_refl _, fun _ h => h⟩) he hpl hdb
/-! ### isinstance(e, (list, tuple)) of either -/
theorem pisiLTs {α : Type} {c : Cod α} {xs : List α} {p1 p2 p3 p4 : Pos} {kx : Nat} (hg : S.sc.names.lookup ("isinstance" : Str) = some .globalImplicit) (hm : S.mg "isinstance" = none) (hgl : S.sc.names.lookup ("list" : Str) = some .globalImplicit) (hml : S.mg "list" = none) (hgt : S.sc.names.lookup ("tuple" : Str) = some .globalImplicit) (hmt : S.mg "tuple" = none)
    (h : PD S Γ 0 e (cSeq c) (· = xs))
    (he : ∀ env : Env, starEach [e, .Tuple [.Name "list" p2, .Name "tuple" p3] kx p4] env = (false, eval e env) :: starEach [.Tuple [.Name "list" p2, .Name "tuple" p3] kx p4] env) :
    PD S Γ 0 (.Call (.Name "isinstance" p1) [e, .Tuple [.Name "list" p2, .Name "tuple" p3] kx p4] [] pos) cBool (· = true) :=
  pd_of (te := tCB (rIsiT S.K) (tCons (tE S e) (tCons (tTup (tCons (tC (.ty "list")) (tCons (tC (.ty "tuple")) tNil))) tNil))) (fun X G => by
    rw [← G.K]
    exact pe_callB call_isiT (glb G hg) (by rw [G.mg]; exact hm) (by decide +kernel) (pa_cons (tE_ok G) (pa_cons (pe_tup (pa_cons (nmTy hgl hml PyProof.Rows.boot_list (by decide) (by decide) X G) (pa_cons (nmTy hgt hmt PyProof.Rows.boot_tuple (by decide) (by decide) X G) pa_nil))) pa_nil) (he _)) (by decide) (by decide) (he _) rfl)
    fun O n σ Hf H hn s Q q => h O n σ Hf H hn s _ fun v Hf' H' y py r' f s' => by
      subst py
      refine ⟨by show 2 ≤ sizeLine; decide, fun tp htp => ?_⟩
      have r2 : (cSeq c).rep (upd H' tp (.tup [.ty "list", .ty "tuple"])) v y := (cSeq c).mono (s'.ex.trans (Ex.new htp)) r'
      obtain ⟨ty, ht, hk⟩ : ∃ ty, TyX S.K (upd H' tp (.tup [.ty "list", .ty "tuple"])) v ty ∧ PySem.W.kitAny S.K ty [.type "list", .type "tuple"] = some true := by
        rcases r2 with r2 | r2
        · exact ⟨_, ty_list (K := S.K) _ _ r2, kLT_list⟩
        · exact ⟨_, ty_tup (K := S.K) _ _ r2, kLT_tuple⟩
      refine ⟨v, tp, [.ty "list", .ty "tuple"], ty, [.type "list", .type "tuple"], true, rfl, upd_same, .cons (.ty _) (.cons (.ty _) .nil), ht, hk, ?_⟩
      exact q _ (upd Hf' tp (.tup [.ty "list", .ty "tuple"])) _ true rfl rfl (f.trans (Fr.new (M := Bx Γ) s'.ex htp) fun _ z => .inl z) (s'.new htp)
end
end DL

set_option Elab.async false
set_option linter.all false
set_option maxRecDepth 100000
set_option maxHeartbeats 4000000
namespace DL
open PySem PySem.Spec L2
/-! ### what is put into a slot: data, or a new list of one's own -/
def VOk (Hf H H0 : Hp) (v : V) : Sl → Prop
  | .un => True
  | .d c x => c.rep Hf v x
  | .l c xs => ∃ a vs, v = .ref a ∧ H a = some (.lst vs) ∧ Hf a = none ∧ H0 a = none ∧ Paired (c.rep Hf) vs xs ∧ vs.length ≤ LB
  | .bx _ => False
  | .r p => ∃ a o, v = .ref a ∧ H a = some o ∧ Hf a = none ∧ H0 a = none ∧ p.φ Hf a o
def TX (te : TE) (Γ : Ctxt) (k : Nat) (R : Sl → Prop) : Prop :=
  ∀ (O : Org) (n : Nat) (σ : Stt) (Hf H : Hp), n + k ≤ LIM → Sat O Hf H σ Γ n → ∀ Q : VK,
    (∀ v Hf' H' s, R s → VOk Hf' H' H v s → Fr (Bx Γ) Hf H Hf' H' → Sat O Hf' H' σ Γ (n + k) → Q v H') → te σ H Q
/-- no own slot holds a -/
def NoAd (σ : Stt) (Γ : Ctxt) (a : Addr) : Prop := ∀ (j : Nat) sl, Γ[j]? = some sl → sl.own = true → σ[j]? ≠ some (some (V.ref a))
section
variable {Γ Γ1 : Ctxt} {k k1 k2 k3 : Nat} {α β γ ρ : Type} {c : Cod α} {P : α → Prop} {te to ti : TE} {p : Po ρ} {R R1 R2 R3 : Sl → Prop}
variable {O : Org} {Hf H H0 Hf' H' : Hp} {σ : Stt} {n m : Nat} {s : Sl} {v : V}
theorem TD.tx (h : TD te Γ k c P) : TX te Γ k (fun s => ∃ x, P x ∧ s = .d c x) := fun O n σ Hf H hn S Q q => h O n σ Hf H hn S Q fun v Hf' H' x px r f s => q v Hf' H' _ ⟨x, px, rfl⟩ r f s
theorem TDF.tx {R : List α → Prop} (h : TDF te Γ k c R) : TX te Γ k (fun s => ∃ x, R x ∧ s = .l c x) := fun O n σ Hf H hn S Q q => h O n σ Hf H hn S Q fun a vs Hf' H' xs p1 h1 h2 h3 pr lb f s => q _ Hf' H' _ ⟨xs, p1, rfl⟩ ⟨a, vs, rfl, h1, h2, h3, pr, lb⟩ f s
theorem TD.tx' {x : α} (h : TD te Γ k c (· = x)) : TX te Γ k (· = .d c x) := fun O n σ Hf H hn S Q q => h O n σ Hf H hn S Q fun v Hf' H' y px r f s => by subst px; exact q v Hf' H' (.d c y) rfl r f s
theorem TDF.tx' {x : List α} (h : TDF te Γ k c (· = x)) : TX te Γ k (· = .l c x) := fun O n σ Hf H hn S Q q => h O n σ Hf H hn S Q fun a vs Hf' H' xs p1 h1 h2 h3 pr lb f s => by subst p1; exact q _ Hf' H' (.l c xs) rfl ⟨a, vs, rfl, h1, h2, h3, pr, lb⟩ f s
theorem VOk.keep (h : VOk Hf H H0 v s) (f : Fr (Bx Γ) Hf H Hf' H') (hb : ∀ a, Bx Γ a → H0 a ≠ none) : VOk Hf' H' H0 v s := by
  cases s with
  | un => trivial
  | d c x => exact c.mono f.ex h
  | l c xs =>
    obtain ⟨a, vs, h1, h2, h3, h4, h5, h6⟩ := h
    have nb : ¬ Bx Γ a := fun z => hb a z h4
    exact ⟨a, vs, h1, f.keep _ _ h2 nb, f.fz _ _ h2 nb h3, h4, paired_mono h5 (fun _ _ r => c.mono f.ex r), h6⟩
  | bx a => exact h
  | r p =>
    obtain ⟨a, o, h1, h2, h3, h4, h5⟩ := h
    have nb : ¬ Bx Γ a := fun z => hb a z h4
    exact ⟨a, o, h1, f.keep _ _ h2 nb, f.fz _ _ h2 nb h3, h4, p.mono f.ex h5⟩
theorem Sat.noAd (S : Sat O Hf H σ Γ n) {a : Addr} (h : H a = none) : NoAd σ Γ a := fun j sl hj ho e => by
  obtain ⟨_, o, w⟩ := S.ownAt (a := a) ⟨j, sl, hj, ho, e⟩
  rw [h] at w; cases w
theorem NoAd.set {a : Addr} (h : NoAd σ Γ a) {i : Nat} (hv : s.own = true → v ≠ .ref a) : NoAd (σ.set i (some v)) (Γ.set i s) a := fun j sl hj ho e => by
  rcases sget hj with ⟨z, z2⟩ | ⟨ne, hj⟩
  · subst z z2
    have lt : j < σ.length := by
      have := (List.getElem?_eq_some_iff.mp e).1
      rw [List.length_set] at this; exact this
    rw [List.getElem?_set_self lt] at e
    injection e with e; injection e with e
    exact hv ho e
  · rw [List.getElem?_set_ne (Ne.symm ne)] at e
    exact h j sl hj ho e
theorem Sat.setX (S : Sat O Hf H σ Γ n) {i : Nat} (h : VOk Hf H H0 v s) (hs : s ≠ .un) (na : ∀ a, v = .ref a → s.own = true → NoAd σ Γ a) (hm : ∀ a, H0 a = none → O.H a = none) : Sat O Hf H (σ.set i (some v)) (Γ.set i s) n := by
  cases s with
  | un => exact absurd rfl hs
  | d c x => exact S.set h
  | l c xs =>
    obtain ⟨a, vs, rfl, h2, h3, h4, h5, h6⟩ := h
    exact S.setL h2 h3 h5 h6 (fun j sl _ hj ho => na a rfl rfl j sl hj ho) (.inr (hm a h4))
  | bx a => exact h.elim
  | r p =>
    obtain ⟨a, o, rfl, h2, h3, h4, h5⟩ := h
    exact S.setR h2 h3 h5 (fun j sl _ hj ho => na a rfl rfl j sl hj ho) (.inr (hm a h4))
theorem own_fresh (h : VOk Hf H H0 v s) {a : Addr} (e : v = .ref a) (ho : s.own = true) : H0 a = none ∧ H a ≠ none := by
  cases s with
  | un => cases ho
  | d c x => cases ho
  | l c xs =>
    obtain ⟨b, vs, h1, h2, h3, h4, _⟩ := h
    rw [e] at h1; cases h1
    exact ⟨h4, by rw [h2]; exact fun z => by cases z⟩
  | bx a => exact h.elim
  | r p =>
    obtain ⟨b, o, h1, h2, h3, h4, _⟩ := h
    rw [e] at h1; cases h1
    exact ⟨h4, by rw [h2]; exact fun z => by cases z⟩
theorem Sat.bxSome (S : Sat O Hf H σ Γ n) (a : Addr) (h : Bx Γ a) : H a ≠ none := fun z => by
  obtain ⟨_, o, w⟩ := S.ownAt (S.bxOwn h)
  rw [z] at w; cases w
/-- x, y = a, b -/
theorem hs_par {i j : Nat} (ha : TX te Γ k1 R1) (hb : TX to Γ k2 R2) (nb : NoBx Γ i) (nb' : NoBx Γ j) (hij : i ≠ j) (h1 : ∀ s, R1 s → s ≠ .un) (h2 : ∀ s, R2 s → s ≠ .un)
    (hp : ∀ s1 s2, R1 s1 → R2 s2 → p.N ((Γ.set i s1).set j s2)) : HS (tPar i j (tCons te (tCons to tNil))) Γ (k1 + k2) p := fun O n σ Hf H hn S D q1 _ _ _ =>
  ha O n σ Hf H (by omega) S _ fun v Hf1 H1 s1 r1 v1 f1 S1 => hb O (n + k1) σ Hf1 H1 (by omega) S1 _ fun w Hf2 H2 s2 r2 v2 f2 S2 => by
    refine ⟨v, w, rfl, ?_⟩
    have v1' := v1.keep f2 S.bxSome
    have T1 := S2.setX (i := i) v1' (h1 s1 r1) (fun a e ho j' sl hj' ho' e' => S.noAd (own_fresh v1 e ho).1 j' sl hj' ho' e') (fun a z => S.fr.dom a z)
    have T2 := T1.setX (i := j) v2 (h2 s2 r2) (fun a e ho => NoAd.set (fun j' sl hj' ho' e' => S1.noAd (own_fresh v2 e ho).1 j' sl hj' ho' e') fun ho1 e1 => (own_fresh v1 e1 ho1).2 (own_fresh v2 e ho).1) (fun a z => S.fr.dom a (f1.dom a z))
    refine q1 _ Hf2 H2 _ (hp s1 s2 r1 r2) ⟨by rw [← Nat.add_assoc]; exact T2, (bxKeep_set nb).trans (bxKeep_set ?_), f1.ex.trans f2.ex⟩
    unfold NoBx at nb' ⊢
    rw [List.getElem?_set_ne hij]; exact nb'
theorem hs_par3 {i j l : Nat} (ha : TX te Γ k1 R1) (hb : TX to Γ k2 R2) (hd : TX ti Γ k3 R3) (nb : NoBx Γ i) (nb' : NoBx Γ j) (nb2 : NoBx Γ l) (hij : i ≠ j) (hil : i ≠ l) (hjl : j ≠ l) (h1 : ∀ s, R1 s → s ≠ .un) (h2 : ∀ s, R2 s → s ≠ .un) (h3 : ∀ s, R3 s → s ≠ .un)
    (hp : ∀ s1 s2 s3, R1 s1 → R2 s2 → R3 s3 → p.N (((Γ.set i s1).set j s2).set l s3)) : HS (tPar3 i j l (tCons te (tCons to (tCons ti tNil)))) Γ (k1 + k2 + k3) p := fun O n σ Hf H hn S D q1 _ _ _ =>
  ha O n σ Hf H (by omega) S _ fun v Hf1 H1 s1 r1 v1 f1 S1 => hb O (n + k1) σ Hf1 H1 (by omega) S1 _ fun w Hf2 H2 s2 r2 v2 f2 S2 => hd O (n + k1 + k2) σ Hf2 H2 (by omega) S2 _ fun u Hf3 H3 s3 r3 v3 f3 S3 => by
    refine ⟨v, w, u, rfl, ?_⟩
    have v1' := (v1.keep f2 S.bxSome).keep f3 S.bxSome
    have v2' := v2.keep f3 S1.bxSome
    have T1 := S3.setX (i := i) v1' (h1 s1 r1) (fun a e ho j' sl hj' ho' e' => S.noAd (own_fresh v1 e ho).1 j' sl hj' ho' e') (fun a z => S.fr.dom a z)
    have T2 := T1.setX (i := j) v2' (h2 s2 r2) (fun a e ho => NoAd.set (fun j' sl hj' ho' e' => S1.noAd (own_fresh v2 e ho).1 j' sl hj' ho' e') fun ho1 e1 => (own_fresh v1 e1 ho1).2 (own_fresh v2 e ho).1) (fun a z => S.fr.dom a (f1.dom a z))
    have T3 := T2.setX (i := l) v3 (h3 s3 r3) (fun a e ho => NoAd.set (NoAd.set (fun j' sl hj' ho' e' => S2.noAd (own_fresh v3 e ho).1 j' sl hj' ho' e')
      fun ho1 e1 => (own_fresh v1 e1 ho1).2 (f2.dom a (own_fresh v3 e ho).1)) fun ho1 e1 => (own_fresh v2 e1 ho1).2 (own_fresh v3 e ho).1) (fun a z => S.fr.dom a (f1.dom a (f2.dom a z)))
    refine q1 _ Hf3 H3 _ (hp s1 s2 s3 r1 r2 r3) ⟨by rw [← Nat.add_assoc, ← Nat.add_assoc]; exact T3, ((bxKeep_set nb).trans (bxKeep_set ?_)).trans (bxKeep_set ?_), (f1.ex.trans f2.ex).trans f3.ex⟩
    · unfold NoBx at nb' ⊢
      rw [List.getElem?_set_ne hij]; exact nb'
    · unfold NoBx at nb2 ⊢
      rw [List.getElem?_set_ne hjl, List.getElem?_set_ne hil]; exact nb2
/-- (x, y, ..) = e -/
theorem hs_unpack {g : TG} {x : α} {is : List Nat} (h : TD te Γ k c (· = x)) (hg : GD g c x Γ Γ1 is) (hp : p.N Γ1) : HS (tAsg te g) Γ k p := fun O n σ Hf H hn S D q1 _ _ _ =>
  h O n σ Hf H hn S _ fun v Hf' H' y py r f s => by
    subst py
    exact hg.2.2 O (n + k) σ Hf' H' v r s _ fun σ' S' _ => q1 σ' Hf' H' Γ1 hp ⟨S', hg.1, f.ex⟩
end
section
variable {S : Stc} {Γ Γ1 : Ctxt} {k k1 k2 k3 kr : Nat} {α ρ : Type} {c : Cod α} {p : Po ρ} {R1 R2 R3 : Sl → Prop} {a b d e : Expr} {pos px py pz pt pt2 : Pos} {x y z : Str} {kt kt2 : Nat} {rest : List Stmt} {s1 s2 s3 : Sl}
/-- x, y = a, b with plain local names; each value is known -/
theorem bpar (i j : Nat) (ha : TX (tE S a) Γ k1 (· = s1)) (hb : TX (tE S b) Γ k2 (· = s2)) (nb : NoBx Γ i) (nb' : NoBx Γ j) (hij : i ≠ j) (u1 : s1 ≠ .un) (u2 : s2 ≠ .un) (hi : S.N[i]? = some x) (hj : S.N[j]? = some y)
    (hx : S.sc.names.lookup x = some .local) (hy : S.sc.names.lookup y = some .local) (hs : ∀ env : Env, starEach [a, b] env = (false, eval a env) :: starEach [b] env) (hs2 : ∀ env : Env, starEach [b] env = (false, eval b env) :: starEach [] env)
    (hw : ∀ env : Env, env.scope = S.sc → swappedStores [.Tuple [.Name x px, .Name y py] kt pt] (.Tuple [a, b] kt2 pt2) env = pure (some [x, y]))
    (hsw : ∀ env : Env, env.scope = S.sc → swapsWithSole [.Tuple [.Name x px, .Name y py] kt pt] (.Tuple [a, b] kt2 pt2) pos.line env = pure false)
    (hr : PHs S ((Γ.set i s1).set j s2) kr rest p) : PHs S Γ (k1 + k2 + kr) (.Assign [.Tuple [.Name x px, .Name y py] kt pt] (.Tuple [a, b] kt2 pt2) pos :: rest) p :=
  phs_cons (N1 := fun G => G = (Γ.set i s1).set j s2) (ph_of (fun X G => ps_par G.calm (by rw [G.N]; exact G.nd) (by rw [G.N]; exact hi) (by rw [G.N]; exact hj) hij (by rw [G.sc]; exact hx) (by rw [G.sc]; exact hy) (pa_cons (tE_ok G) (pa_cons (tE_ok G) pa_nil (hs2 _)) (hs _)) (hw _ G.sc) (hsw _ G.sc))
    (hs_par ha hb nb nb' hij (fun s e => e ▸ u1) (fun s e => e ▸ u2) fun t1 t2 e1 e2 => by subst e1 e2; rfl)) fun Γ1 e => by subst e; exact hr
theorem bpar3 (i j l : Nat) (ha : TX (tE S a) Γ k1 (· = s1)) (hb : TX (tE S b) Γ k2 (· = s2)) (hd : TX (tE S d) Γ k3 (· = s3)) (nb : NoBx Γ i) (nb' : NoBx Γ j) (nb2 : NoBx Γ l) (hij : i ≠ j) (hil : i ≠ l) (hjl : j ≠ l) (u1 : s1 ≠ .un) (u2 : s2 ≠ .un) (u3 : s3 ≠ .un) (hi : S.N[i]? = some x) (hj : S.N[j]? = some y) (hl : S.N[l]? = some z)
    (hx : S.sc.names.lookup x = some .local) (hy : S.sc.names.lookup y = some .local) (hz : S.sc.names.lookup z = some .local) (hs : ∀ env : Env, starEach [a, b, d] env = (false, eval a env) :: starEach [b, d] env) (hs2 : ∀ env : Env, starEach [b, d] env = (false, eval b env) :: starEach [d] env) (hs3 : ∀ env : Env, starEach [d] env = (false, eval d env) :: starEach [] env)
    (hw : ∀ env : Env, env.scope = S.sc → swappedStores [.Tuple [.Name x px, .Name y py, .Name z pz] kt pt] (.Tuple [a, b, d] kt2 pt2) env = pure (some [x, y, z]))
    (hsw : ∀ env : Env, env.scope = S.sc → swapsWithSole [.Tuple [.Name x px, .Name y py, .Name z pz] kt pt] (.Tuple [a, b, d] kt2 pt2) pos.line env = pure false)
    (hr : PHs S (((Γ.set i s1).set j s2).set l s3) kr rest p) : PHs S Γ (k1 + k2 + k3 + kr) (.Assign [.Tuple [.Name x px, .Name y py, .Name z pz] kt pt] (.Tuple [a, b, d] kt2 pt2) pos :: rest) p :=
  phs_cons (N1 := fun G => G = ((Γ.set i s1).set j s2).set l s3) (ph_of (fun X G => ps_par3 G.calm (by rw [G.N]; exact G.nd) (by rw [G.N]; exact hi) (by rw [G.N]; exact hj) (by rw [G.N]; exact hl) hij hil hjl (by rw [G.sc]; exact hx) (by rw [G.sc]; exact hy) (by rw [G.sc]; exact hz) (pa_cons (tE_ok G) (pa_cons (tE_ok G) (pa_cons (tE_ok G) pa_nil (hs3 _)) (hs2 _)) (hs _)) (hw _ G.sc) (hsw _ G.sc))
    (hs_par3 ha hb hd nb nb' nb2 hij hil hjl (fun s e => e ▸ u1) (fun s e => e ▸ u2) (fun s e => e ▸ u3) fun t1 t2 t3 e1 e2 e3 => by subst e1 e2 e3; rfl)) fun Γ1 e => by subst e; exact hr
/-- (x, y, z) = e -/
theorem bunpack {tg : Expr} {x : α} {is : List Nat} (h : PD S Γ k e c (· = x)) (hg : PDG S tg c x Γ Γ1 is) (hs : ∀ env : Env, swapsWithSole [tg] e pos.line env = pure false) (hw : ∀ env : Env, swappedStores [tg] e env = pure none) (h1 : ∀ env : Env, (assignEach [tg] env).map (·.2) = [assign tg env])
    (hr : PHs S Γ1 kr rest p) : PHs S Γ (k + kr) (.Assign [tg] e pos :: rest) p :=
  phs_cons (N1 := fun G => G = Γ1) (ph_of (fun X G => ps_asg (tE_ok G) (tGt_ok G) (hs _) (hw _) (h1 _)) (hs_unpack h hg rfl)) fun Γ1 e => by subst e; exact hr
end
end DL

set_option Elab.async false
set_option linter.all false
set_option maxRecDepth 100000
set_option maxHeartbeats 4000000
namespace DL
open PySem PySem.Spec L2
section
variable {Γ Γ1 : Ctxt} {k k1 k2 k3 : Nat} {α β γ ρ : Type} {c : Cod α} {P : α → Prop} {te to ti : TE} {p : Po ρ}
variable {O : Org} {Hf H H0 Hf' H' : Hp} {σ : Stt} {n m : Nat} {s : Sl} {v : V}
/-- x = y.pop(e) -/
theorem hs_setPop {K : PySem.W.Frag} {i j : Nat} {xs : List α} {Pi : Int → Prop} (hij : i ≠ j) (h' : Γ[j]? = some (.l c xs)) (nb : NoBx Γ i) (nb' : NoBx Γ j) (hi : TD ti Γ k cInt Pi) (lb' : xs.length ≤ LB)
    (hp : ∀ z, Pi z → ∃ (l : Nat) (y : α), z = (l : Int) ∧ xs[l]? = some y ∧ p.N ((Γ.set j (.l c (xs.eraseIdx l))).set i (.d c y))) :
    HS (tAsg (tBM K "list" rPopAt (tVar j) (tCons ti tNil)) (gName i)) Γ k p := fun O n σ Hf H hn S D q1 _ _ _ => by
  obtain ⟨b, us, e1, e2, e3, e4, e5⟩ := S.at_ j _ h'
  refine ⟨.ref b, e1, .inl ⟨rfl, us, SqL.of e2⟩, ?_⟩
  refine hi O n σ Hf H hn S _ fun v Hf' H' z pz rz f s => ?_
  obtain ⟨l, y, rfl, hl, pn⟩ := hp z pz
  obtain rfl : v = .int (l : Int) := rz
  have hll : l < xs.length := (List.getElem?_eq_some_iff.mp hl).1
  obtain ⟨b', us', w1, w2, w3, w4, w5⟩ := s.at_ j _ h'
  rw [e1] at w1
  injection w1 with w1; injection w1 with w1; injection w1 with w1
  subst w1
  have hul := paired_len w4
  have hu : us'[l]? = some (us'[l]'(by omega)) := List.getElem?_eq_getElem (by omega)
  unfold LB at lb'
  refine ⟨b, us', (l : Int), l, us'[l]'(by omega), rfl, rfl, w2, by omega, by omega, ixN_seqI (by omega), hu, ?_⟩
  have s2 := s.wr h' e1 (paired_erase l w4) (by rw [List.length_eraseIdx]; split <;> omega)
  have nb2 : NoBx (Γ.set j (.l c (xs.eraseIdx l))) i := by
    unfold NoBx at nb ⊢
    rw [List.getElem?_set_ne (Ne.symm hij)]; exact nb
  exact q1 _ Hf' _ _ pn ⟨s2.set (paired_get w4 hu hl), (bxKeep_set nb').trans (bxKeep_set nb2), f.ex⟩
end
section
variable {S : Stc} {Γ Γ1 : Ctxt} {k k1 k2 k3 kr : Nat} {α ρ : Type} {c : Cod α} {P : α → Prop} {p : Po ρ} {a b d e : Expr} {pos pos' pos2 px py pz pt : Pos} {nm nm2 : Str} {rest : List Stmt} {p1 p2 p3 p4 : Pos}
/-- x[e] = v -/
theorem bsetItem (i : Nat) {xs : List α} {y : α} {z : Int} (hΓ : Γ[i]? = some (.l c xs)) (he : PD S Γ 0 e c (· = y)) (hi : PD S Γ 0 a cInt (· = z)) (j : Nat) (hj : ixN xs.length z = some j) (hN : S.N[i]? = some nm) (hv : Vis S.sc nm)
    (ha : ∀ (env : Env) v, assign (.Subscript (.Name nm pos') a pos2) env v = (do
      let ov ← holding [v] (eval (.Name nm pos') env)
      let iv ← holding [v, ov] (eval a env)
      standAt pos2
      holding [v, ov, iv] (setItem ov iv v)
      release [v, ov, iv] []))
    (hs : ∀ env : Env, swapsWithSole [.Subscript (.Name nm pos') a pos2] e pos.line env = pure false) (hw : ∀ env : Env, swappedStores [.Subscript (.Name nm pos') a pos2] e env = pure none) (h1 : ∀ env : Env, (assignEach [.Subscript (.Name nm pos') a pos2] env).map (·.2) = [assign (.Subscript (.Name nm pos') a pos2) env])
    (hr : PHs S (Γ.set i (.l c (xs.set j y))) kr rest p) (hd : (nm == ("__debug__" : Str)) = false := by decide) (hcd : (nm == ("__classdict__" : Str)) = false := by decide) :
    PHs S Γ (0 + kr) (.Assign [.Subscript (.Name nm pos') a pos2] e pos :: rest) p :=
  phs_cons (N1 := fun G => G = Γ.set i (.l c (xs.set j y))) (ph_of (fun X G => ps_asg (tE_ok G) (pg_sub (pe_slot G hN hv hd hcd) (tE_ok G) set_list (ha _)) (hs _) (hw _) (h1 _))
    (hs_setItem (k1 := 0) (k2 := 0) hΓ (by unfold NoBx; rw [hΓ]; trivial) he hi fun y' z' e1 e2 => by subst e1 e2; exact ⟨j, hj, rfl⟩)) fun Γ1 e => by subst e; exact hr
/-- what must be seen of o.m(e) -/
abbrev FewOk (p2 : Pos) (e : Expr) : Prop := ∀ env : Env, ((backTo p2 (starEach [e] env)).all (fun x => !x.1) && (backToKw p2 (keywordEach [] env)).all (fun x => x.1.isSome) && decide ([e].length + ([] : List Keyword).length + (if ([] : List Keyword).isEmpty then 0 else 1) < 30)) = true
/-- y.append(x.pop(e)) -/
theorem bappendPop (i j : Nat) {xs ys : List α} {Pi : Int → Prop} (hij : i ≠ j) (h : Γ[i]? = some (.l c ys)) (h' : Γ[j]? = some (.l c xs)) (hi : PD S Γ k e cInt Pi) (lb : ys.length + 1 ≤ LB) (lb' : xs.length ≤ LB) (hN : S.N[i]? = some nm) (hN2 : S.N[j]? = some nm2) (hv : Vis S.sc nm) (hv2 : Vis S.sc nm2)
    (hfew : FewOk p2 (.Call (.Attribute (.Name nm2 pos2) "pop" p3) [e] [] p4)) (hfew2 : FewOk p4 e) (hline : (p1.endLine == p2.line) = true) (hline2 : (p3.endLine == p4.line) = true) (hs : ∀ env : Env, starEach [e] env = (false, eval e env) :: starEach [] env)
    (hs2 : ∀ env : Env, starEach [.Call (.Attribute (.Name nm2 pos2) "pop" p3) [e] [] p4] env = (false, eval (.Call (.Attribute (.Name nm2 pos2) "pop" p3) [e] [] p4) env) :: starEach [] env)
    (hsw : ∀ env : Env, swapsWith (.Call (.Attribute (.Name nm pos') "append" p1) [.Call (.Attribute (.Name nm2 pos2) "pop" p3) [e] [] p4] [] p2) none pos.line env = pure false)
    (hr : ∀ z, Pi z → ∃ (l : Nat) (y : α), z = (l : Int) ∧ xs[l]? = some y ∧ PHs S ((Γ.set j (.l c (xs.eraseIdx l))).set i (.l c (ys ++ [y]))) kr rest p)
    (hd : (nm == ("__debug__" : Str)) = false := by decide) (hcd : (nm == ("__classdict__" : Str)) = false := by decide) (hd2 : (nm2 == ("__debug__" : Str)) = false := by decide) (hcd2 : (nm2 == ("__classdict__" : Str)) = false := by decide) :
    PHs S Γ (k + kr) (.Expr (.Call (.Attribute (.Name nm pos') "append" p1) [.Call (.Attribute (.Name nm2 pos2) "pop" p3) [e] [] p4] [] p2) pos :: rest) p :=
  phs_cons (N1 := fun G => PHs S G kr rest p) (ph_of (ts := tDrop (tBM S.K "list" rAppend (tVar i) (tCons (tBM S.K "list" rPopAt (tVar j) (tCons (tE S e) tNil)) tNil))) (fun X G => by
    rw [← G.K]
    exact ps_expr (pe_bm PySem.F.plainAttrs_list PySem.F.slot_list_append PySem.F.type_list_append mt_append (pe_slot G hN hv hd hcd) (pa_cons (pe_bm PySem.F.plainAttrs_list PySem.F.slot_list_pop PySem.F.type_list_pop mt_popAt (pe_slot G hN2 hv2 hd2 hcd2) (pa_cons (tE_ok G) pa_nil (hs _)) rfl (hfew2 _) hline2 (hs _) rfl) pa_nil (hs2 _)) rfl (hfew _) hline (hs2 _) rfl) (hsw _))
    (hs_appendPop hij h h' (by unfold NoBx; rw [h]; trivial) (by unfold NoBx; rw [h']; trivial) hi lb lb' fun z hz => hr z hz)) fun Γ1 e => e
/-- x = y.pop(e) -/
theorem bsetPop (i j : Nat) {xs : List α} {Pi : Int → Prop} (hij : i ≠ j) (h' : Γ[j]? = some (.l c xs)) (nb : NoBx Γ i) (hi : PD S Γ k e cInt Pi) (lb' : xs.length ≤ LB) (hN : S.N[i]? = some nm) (hN2 : S.N[j]? = some nm2) (hx : Loc S.sc nm) (hv2 : Vis S.sc nm2)
    (hfew2 : FewOk p4 e) (hline2 : (p3.endLine == p4.line) = true) (hs : ∀ env : Env, starEach [e] env = (false, eval e env) :: starEach [] env)
    (hsw : ∀ env : Env, env.scope = S.sc → swapsWith (.Call (.Attribute (.Name nm2 pos2) "pop" p3) [e] [] p4) (some (.Name nm pos')) pos.line env = pure false) (hf : S.fn nm = true ∨ S.sc.names.lookup nm = some .local)
    (hr : ∀ z, Pi z → ∃ (l : Nat) (y : α), z = (l : Int) ∧ xs[l]? = some y ∧ PHs S ((Γ.set j (.l c (xs.eraseIdx l))).set i (.d c y)) kr rest p)
    (hd2 : (nm2 == ("__debug__" : Str)) = false := by decide) (hcd2 : (nm2 == ("__classdict__" : Str)) = false := by decide) :
    PHs S Γ (k + kr) (.Assign [.Name nm pos'] (.Call (.Attribute (.Name nm2 pos2) "pop" p3) [e] [] p4) pos :: rest) p :=
  phs_cons (N1 := fun G => PHs S G kr rest p) (ph_of (ts := tAsg (tBM S.K "list" rPopAt (tVar j) (tCons (tE S e) tNil)) (gName i)) (fun X G => by
    rw [← G.K]
    exact ps_set (by rw [G.N]; exact G.nd) (by rw [G.N]; exact hN) (loc G hx) (pe_bm PySem.F.plainAttrs_list PySem.F.slot_list_pop PySem.F.type_list_pop mt_popAt (pe_slot G hN2 hv2 hd2 hcd2) (pa_cons (tE_ok G) pa_nil (hs _)) rfl (hfew2 _) hline2 (hs _) rfl) (hsw _ G.sc) (fnOr G hf))
    (hs_setPop hij h' nb (by unfold NoBx; rw [h']; trivial) hi lb' fun z hz => hr z hz)) fun Γ1 e => e
variable {α' β' γ' : Type} {ca : Cod α'} {cb : Cod β'} {cg : Cod γ'} {K : PySem.W.Frag} {pn : Pos}
theorem rc_len3 {x : α' × β' × γ'} : RC1 (rLenR K) (cT3 ca cb cg) x cInt (· = 3) := fun Hf H v e ⟨a, w1, w2, w3, h1, h2, _⟩ Q q => ⟨a, [w1, w2, w3], by rw [h1], .inr (SqT.of (e _ _ h2)), q 3 Hf H _ rfl rfl Fr.refl e⟩
theorem rc_len2 {x : α' × β'} : RC1 (rLenR K) (cT2 ca cb) x cInt (· = 2) := fun Hf H v e ⟨a, w1, w2, h1, h2, _⟩ Q q => ⟨a, [w1, w2], by rw [h1], .inr (SqT.of (e _ _ h2)), q 2 Hf H _ rfl rfl Fr.refl e⟩
theorem plen3 {x : α' × β' × γ'} (hg : S.sc.names.lookup ("len" : Str) = some .globalImplicit) (hm : S.mg "len" = none) (h : PD S Γ 0 e (cT3 ca cb cg) (· = x)) (he : ∀ env : Env, starEach [e] env = (false, eval e env) :: starEach [] env) : PD S Γ 0 (.Call (.Name "len" pn) [e] [] pos) cInt (· = 3) := pb1 lenG hg hm PySem.boot_len h rc_len3 he
theorem plen2 {x : α' × β'} (hg : S.sc.names.lookup ("len" : Str) = some .globalImplicit) (hm : S.mg "len" = none) (h : PD S Γ 0 e (cT2 ca cb) (· = x)) (he : ∀ env : Env, starEach [e] env = (false, eval e env) :: starEach [] env) : PD S Γ 0 (.Call (.Name "len" pn) [e] [] pos) cInt (· = 2) := pb1 lenG hg hm PySem.boot_len h rc_len2 he
/-! ### calls by arity -/
variable {cr : Cod ρ} {x1 : Str} {pn1 : List Str} {lv : Nat} {e1 e2 e3 : Expr}
theorem pcal1 {pre : α' → Prop} {g : α' → ρ} {x : α'} (F : Cal S.prog S.w S.K S.mg S.base x1 pn1 lv (spP (fun (a : α') => [.d ca a]) pre cr g)) (hl : lv ≤ S.lv) (hg : S.sc.names.lookup x1 = some .globalImplicit) (h1 : PD S Γ 0 e1 ca (· = x)) (hp : pre x)
    (he : ∀ env : Env, starEach [e1] env = (false, eval e1 env) :: starEach [] env) (hpl : ∀ env : Env, (backTo pos (starEach [] env)).any (·.1) = false) (hdb : (x1 == ("__debug__" : Str)) = false := by decide) : PD S Γ 0 (.Call (.Name x1 pn) [e1] [] pos) cr (· = g x) :=
  pcal F hl hg (pda_one h1 he) x 0 rfl hp he hpl hdb
theorem pcal2 {pre : α' × β' → Prop} {g : α' × β' → ρ} {x : α'} {y : β'} (F : Cal S.prog S.w S.K S.mg S.base x1 pn1 lv (spP (fun (a : α' × β') => [.d ca a.1, .d cb a.2]) pre cr g)) (hl : lv ≤ S.lv) (hg : S.sc.names.lookup x1 = some .globalImplicit) (h1 : PD S Γ 0 e1 ca (· = x)) (h2 : PD S Γ 0 e2 cb (· = y)) (hp : pre (x, y))
    (he : ∀ env : Env, starEach [e1, e2] env = (false, eval e1 env) :: starEach [e2] env) (he2 : ∀ env : Env, starEach [e2] env = (false, eval e2 env) :: starEach [] env) (hpl : ∀ env : Env, (backTo pos (starEach [e2] env)).any (·.1) = false) (hdb : (x1 == ("__debug__" : Str)) = false := by decide) : PD S Γ 0 (.Call (.Name x1 pn) [e1, e2] [] pos) cr (· = g (x, y)) :=
  pcal F hl hg (pda_more (k1 := 0) (k2 := 0) h1 (pda_one h2 he2) he) (x, y) 0 rfl hp he hpl hdb
theorem pcal3 {pre : α' × β' × γ' → Prop} {g : α' × β' × γ' → ρ} {x : α'} {y : β'} {z : γ'} (F : Cal S.prog S.w S.K S.mg S.base x1 pn1 lv (spP (fun (a : α' × β' × γ') => [.d ca a.1, .d cb a.2.1, .d cg a.2.2]) pre cr g)) (hl : lv ≤ S.lv) (hg : S.sc.names.lookup x1 = some .globalImplicit) (h1 : PD S Γ 0 e1 ca (· = x)) (h2 : PD S Γ 0 e2 cb (· = y)) (h3 : PD S Γ 0 e3 cg (· = z)) (hp : pre (x, y, z))
    (he : ∀ env : Env, starEach [e1, e2, e3] env = (false, eval e1 env) :: starEach [e2, e3] env) (he2 : ∀ env : Env, starEach [e2, e3] env = (false, eval e2 env) :: starEach [e3] env) (he3 : ∀ env : Env, starEach [e3] env = (false, eval e3 env) :: starEach [] env) (hpl : ∀ env : Env, (backTo pos (starEach [e2, e3] env)).any (·.1) = false) (hdb : (x1 == ("__debug__" : Str)) = false := by decide) :
    PD S Γ 0 (.Call (.Name x1 pn) [e1, e2, e3] [] pos) cr (· = g (x, y, z)) :=
  pcal F hl hg (pda_more (k1 := 0) (k2 := 0) h1 (pda_more (k1 := 0) (k2 := 0) h2 (pda_one h3 he3) he2) he) (x, y, z) 0 rfl hp he hpl hdb
end
end DL

set_option Elab.async false
set_option linter.all false
set_option maxRecDepth 100000
set_option maxHeartbeats 4000000
namespace DL
open PySem PySem.Spec L2
theorem ixN_at {n : Nat} {i : Int} (h : 0 ≤ i ∧ i < (n : Int)) : ixN n i = some i.toNat := by
  unfold ixN; rw [if_pos h.1, if_pos h.2]
theorem atI_at {α : Type} [Inhabited α] {xs : List α} {i : Int} (h : 0 ≤ i ∧ i < (xs.length : Int)) : atI xs i = some (xs.getD i.toNat default) := by
  unfold atI
  rw [ixN_at h]
  have hj : i.toNat < xs.length := by omega
  show xs[i.toNat]? = _
  rw [List.getD_eq_getElem?_getD, List.getElem?_eq_getElem hj]; rfl
section
variable {K : PySem.W.Frag} {α : Type} [Inhabited α] {c : Cod α} {xs : List α} {i : Int}
theorem rd_ixLd (h : 0 ≤ i ∧ i < (xs.length : Int)) : RD (rIxL K) (cList c) xs cInt i c (· = xs.getD i.toNat default) := rd_ixL ⟨_, atI_at h, rfl⟩
theorem rd_ixTd (h : 0 ≤ i ∧ i < (xs.length : Int)) : RD (rIxT K) (cTup c) xs cInt i c (· = xs.getD i.toNat default) := rd_ixT ⟨_, atI_at h, rfl⟩
end
section
variable {Γ : Ctxt} {α : Type} {c : Cod α} {te to : TE} {kvs : List (Int × α)} {i : Int}
theorem td_notinD (he : TD te Γ 0 cInt (· = i)) (ho : TD to Γ 0 (cDic c) (· = kvs)) : TD (tDNotIn te to) Γ 0 cBool (· = !(valD kvs i).isSome) := fun O n σ Hf H hn s Q q => he O n σ Hf H hn s _ fun v Hf1 H1 j p1 r1 f1 s1 => ho O n σ Hf1 H1 hn s1 _ fun v2 Hf2 H2 k2 p2 ⟨a, ks, h1, h2, h3, h4⟩ f2 s2 => by
    subst p1 p2
    obtain rfl := r1
    refine ⟨a, valV ks (Sum.inl j : Key), h1, DGet.k (k := Sum.inl j) (s2.ex _ _ h2), q _ Hf2 H2 _ ?_ rfl (f1.trans f2 fun _ z => .inl z) s2⟩
    rcases pdc_val h3 j with ⟨z1, z2⟩ | ⟨w, y, z1, z2, z3⟩
    · rw [z1, z2]; rfl
    · rw [z1, z2]; rfl
theorem td_inD (he : TD te Γ 0 cInt (· = i)) (ho : TD to Γ 0 (cDic c) (· = kvs)) : TD (tDIn te to) Γ 0 cBool (· = (valD kvs i).isSome) := fun O n σ Hf H hn s Q q => he O n σ Hf H hn s _ fun v Hf1 H1 j p1 r1 f1 s1 => ho O n σ Hf1 H1 hn s1 _ fun v2 Hf2 H2 k2 p2 ⟨a, ks, h1, h2, h3, h4⟩ f2 s2 => by
    subst p1 p2
    obtain rfl := r1
    refine ⟨a, valV ks (Sum.inl j : Key), h1, DGet.k (k := Sum.inl j) (s2.ex _ _ h2), q _ Hf2 H2 _ ?_ rfl (f1.trans f2 fun _ z => .inl z) s2⟩
    rcases pdc_val h3 j with ⟨z1, z2⟩ | ⟨w, y, z1, z2, z3⟩
    · rw [z1, z2]; rfl
    · rw [z1, z2]; rfl
variable {S : Stc} {e o : Expr} {pos : Pos}
theorem ttnotinD (he : PD S Γ 0 e cInt (· = i)) (ho : PD S Γ 0 o (cDic c) (· = kvs)) (hm : behindInMarks .NotIn o = false) : PDT S Γ 0 (.Compare e [.NotIn] [o] pos) (· = !(valD kvs i).isSome) :=
  pdt_of (fun X G => pt_cmp (pc_dnotin (by have := G.room.un; omega) (tE_ok G) (tE_ok G)) hm) (tt_B (td_notinD he ho))
theorem ttinD (he : PD S Γ 0 e cInt (· = i)) (ho : PD S Γ 0 o (cDic c) (· = kvs)) (hm : behindInMarks .In o = false) : PDT S Γ 0 (.Compare e [.In] [o] pos) (· = (valD kvs i).isSome) :=
  pdt_of (fun X G => pt_cmp (pc_din (by have := G.room.un; omega) (tE_ok G) (tE_ok G)) hm) (tt_B (td_inD he ho))
end
section
variable {S : Stc} {Γ Γ1 : Ctxt} {k k1 k2 k3 kr : Nat} {ρ : Type} {p : Po ρ} {e : Expr} {pos : Pos} {sts sts2 rest : List Stmt}
/-- if e: ..; rest — where both ways lead to one context -/
theorem bifS {b' : Bool → Prop} {N1 : Ctxt → Prop} (h : PDT S Γ k1 e b') (ha : b' true → PHs S Γ k2 sts { p with N := N1 }) (hb : b' false → PHs S Γ k3 sts2 { p with N := N1 }) (hr : ∀ Γ1, N1 Γ1 → PHs S Γ1 kr rest p) : PHs S Γ (k1 + max k2 k3 + kr) (.If e sts sts2 pos :: rest) p :=
  phs_cons (N1 := N1) (ph_if h ha hb) hr
end
end DL

set_option Elab.async false
set_option linter.all false
set_option maxRecDepth 100000
set_option maxHeartbeats 4000000
namespace DL
open PySem PySem.Spec L2
theorem rgV_paired {H : Hp} (a b : Int) : Paired (cInt.rep H) (rgV a b) (rangeL a (b - a).toNat) := by
  have : rgV a b = (rangeL a (b - a).toNat).map V.int := by unfold rgV rangeL; rw [List.map_map]; rfl
  rw [this]; exact paired_ints _
section
variable {S : Stc} {Γ : Ctxt} {k : Nat} {a b : Expr} {i j : Int} {pos pos' pn pn' : Pos}
theorem plrg1 (hg : S.sc.names.lookup ("list" : Str) = some .globalImplicit) (hm : S.mg "list" = none) (hg2 : S.sc.names.lookup ("range" : Str) = some .globalImplicit) (hm2 : S.mg "range" = none) (h : PD S Γ 0 a cInt (· = j)) (hj : j ≤ 1000000 ∧ 0 ≤ j)
    (hs : ∀ env : Env, starEach [a] env = (false, eval a env) :: starEach [] env) (hs2 : ∀ env : Env, starEach [.Call (.Name "range" pn) [a] [] pos] env = (false, eval (.Call (.Name "range" pn) [a] [] pos) env) :: starEach [] env) :
    PDF S Γ 0 (.Call (.Name "list" pn') [.Call (.Name "range" pn) [a] [] pos] [] pos') cInt (· = rangeL 0 j.toNat) :=
  pdf_of (te := tLstRg (tRg1 (tE S a))) (fun X G => pe_listRg G.calm (glb G hg) (by rw [G.mg]; exact hm) (prg_1 (glb G hg2) (by rw [G.mg]; exact hm2) (tE_ok G) (hs _)) (hs2 _)) fun O n σ Hf H hn s Q q => h O n σ Hf H hn s _ fun v Hf' H' y py r f s' => by
    subst py
    obtain rfl := r
    refine ⟨y, rfl, RgOk.of_le (by omega) (by omega) (by omega) (by omega), fun p hp => ?_⟩
    have pr : Paired (cInt.rep Hf') (rgV 0 y) (rangeL 0 y.toNat) := by have := rgV_paired (H := Hf') 0 y; rwa [Int.sub_zero] at this
    exact q p (rgV 0 y) Hf' (upd H' p (.lst (rgV 0 y))) _ rfl upd_same (s'.ex.back hp) (f.dom p hp) pr (by rw [rgV_length]; unfold LB; omega) (f.trans (Fr.newO (M := Bx Γ) hp) fun _ z => .inl z) (s'.grow0 (Fr.newO hp) (s'.ex.trans (Ex.new hp)))
theorem plrg2 (hg : S.sc.names.lookup ("list" : Str) = some .globalImplicit) (hm : S.mg "list" = none) (hg2 : S.sc.names.lookup ("range" : Str) = some .globalImplicit) (hm2 : S.mg "range" = none) (h : PD S Γ 0 a cInt (· = i)) (h' : PD S Γ 0 b cInt (· = j)) (hj : -1000000 ≤ i ∧ i ≤ 1000000 ∧ -1000000 ≤ j ∧ j ≤ 1000000 ∧ j - i ≤ 1000000)
    (hs : ∀ env : Env, starEach [a, b] env = (false, eval a env) :: starEach [b] env) (hs1 : ∀ env : Env, starEach [b] env = (false, eval b env) :: starEach [] env) (hs3 : ∀ env : Env, (backTo pos (starEach [b] env)).any (·.1) = false) (hs2 : ∀ env : Env, starEach [.Call (.Name "range" pn) [a, b] [] pos] env = (false, eval (.Call (.Name "range" pn) [a, b] [] pos) env) :: starEach [] env) :
    PDF S Γ 0 (.Call (.Name "list" pn') [.Call (.Name "range" pn) [a, b] [] pos] [] pos') cInt (· = rangeL i (j - i).toNat) :=
  pdf_of (te := tLstRg (tRg2 (tE S a) (tE S b))) (fun X G => pe_listRg G.calm (glb G hg) (by rw [G.mg]; exact hm) (prg_2 (glb G hg2) (by rw [G.mg]; exact hm2) (tE_ok G) (tE_ok G) (hs _) (hs1 _) (hs3 _)) (hs2 _)) fun O n σ Hf H hn s Q q => h O n σ Hf H hn s _ fun v Hf1 H1 y py r f1 s1 => h' O n σ Hf1 H1 hn s1 _ fun v2 Hf' H' z pz r2 f2 s' => by
    subst py pz
    obtain rfl := r
    obtain rfl := r2
    have f := f1.trans f2 fun _ z => .inl z
    refine ⟨y, z, rfl, rfl, ⟨by omega, by omega, by omega, by omega, by omega⟩, fun p hp => ?_⟩
    exact q p (rgV y z) Hf' (upd H' p (.lst (rgV y z))) _ rfl upd_same (s'.ex.back hp) (f.dom p hp) (rgV_paired y z) (by rw [rgV_length]; unfold LB; omega) (f.trans (Fr.newO (M := Bx Γ) hp) fun _ z => .inl z) (s'.grow0 (Fr.newO hp) (s'.ex.trans (Ex.new hp)))
end
end DL

set_option Elab.async false
set_option linter.all false
set_option maxRecDepth 100000
set_option maxHeartbeats 4000000
namespace DL
open PySem PySem.Spec L2
/-! ### own classes -/
structure Kls (K : PySem.W.Frag) (mg : Str → Option Value) (x : Str) (C : Addr) : Prop where
  cl : Cls K C
  own : OwnC K C
  mgC : mg x = some (.ref C)
  isC : PySem.W.kitOne K (.ref C) (.ref C) = some true
structure MDef (K : PySem.W.Frag) (C : Addr) (m qual : Str) (st : Stmt) : Prop where
  ex : ∃ f fd, Fun K m qual st f fd ∧ Meth K C m f
structure MCal (P : Program) (w : World) (K : PySem.W.Frag) (mg : Str → Option Value) (base : Heap) (C : Addr) (m : Str) (pn : List Str) (lv : Nat) (sp : Sp) : Prop where
  ex : ∃ f fd, FnOk P w K mg base CX0 lv f fd pn sp ∧ Meth K C m f ∧ Binds K fd pn []
/-- __init__ -/
structure ICal (P : Program) (w : World) (K : PySem.W.Frag) (mg : Str → Option Value) (base : Heap) (C : Addr) (pn : List Str) (lv : Nat) (sp : Sp) : Prop where
  ex : ∃ f fd, FnOk P w K mg base CX0 lv f fd pn sp ∧ Mk K C f ∧ Binds K fd pn []
abbrev BindsM (st : Stmt) (m qual : Str) (pn : List Str) : Prop := ∀ (kV doc pm : Value) (an : Option Addr) (cdv ct : Value) (us : List Value), us.length = pn.length → bindArgs (PySem.W.fnOf m qual (defArgs st) (defBody st) (defScope st) .none kV doc pm an cdv ct) ⟨us, []⟩ = pure (pn.zip us)
section
variable {P : Program} {w : World} {K : PySem.W.Frag} {mg : Str → Option Value} {base : Heap} {m qual : Str} {st : Stmt} {N pn : List Str} {lv : Nat} {C : Addr}
variable {A ρ : Type} {ps : Addr → A → Ctxt} {kf : A → Nat} {pre : A → Prop} {cr : Cod ρ} {PR : A → ρ → Prop}
theorem mcal_D (D : MDef K C m qual st) (hb : BindsM st m qual pn) (Sc : FnScope N pn (defScope st))
    (hl : ∀ b a, (ps b a).length = pn.length) (hN : pn.length ≤ N.length) (one : ∀ b a, OneB (ps b a))
    (body : ∀ b a, pre a → PHs ⟨N, defScope st, K, mg, P, w, base, lv, fun _ => true, false⟩ (entry N (ps b a)) (kf a) (defBody st) { N := fun _ => False, bk := fun _ => False, ct := fun _ => False, c := cr, R := PR a }) :
    MCal P w K mg base C m pn (lv + 1) (spD ps kf pre cr PR) := by
  obtain ⟨f, fd, F, hm⟩ := D.ex
  exact ⟨f, fd, fn_D F Sc hl hN one body, hm, F.binds hb⟩
theorem mcal_of {sp : Sp} (D : MDef K C m qual st) (hb : BindsM st m qual pn) (h : ∀ f fd, Fun K m qual st f fd → FnOk P w K mg base CX0 lv f fd pn sp) : MCal P w K mg base C m pn lv sp := by
  obtain ⟨f, fd, F, hm⟩ := D.ex
  exact ⟨f, fd, h f fd F, hm, F.binds hb⟩
end
section
variable {S : Stc} {Γ : Ctxt} {k k1 k2 : Nat} {A ρ α β ω : Type} {cr : Cod ρ} {c ca : Cod α} {cb : Cod β} {e e1 o : Expr} {es : List Expr} {pos pn apos : Pos} {C : Addr} {F : Hp → List (Str × V) → ω → Prop} {hm : ∀ {H H' fs y}, Ex H H' → F H fs y → F H' fs y} {x m : Str} {pn' : List Str} {lv : Nat}
/-- o.f -/
theorem pfld {f : Str} {y : ω → α} {z : ω} (h : PD S Γ k e (cIns C F hm) (· = z)) (hC : Cls S.K C) (hN : NoAttr S.K C f) (hf : ∀ H fs y0, F H fs y0 → ∃ v, fs.lookup f = some v ∧ c.rep H v (y y0)) (hb : ∀ env : Env, attributeBase e f env (eval e env) = eval e env) : PD S Γ k (.Attribute e f pos) c (· = y z) :=
  (pd_of (te := tFld S.K (tE S e) f) (fun X G => by rw [← G.K]; exact pe_fld (tE_ok G) (hb _)) (td_fld h hC hN hf)).imp fun x ⟨z', h1, h2⟩ => by subst h1; exact h2
/-- how the text of a method call without arguments, with one, is read -/
abbrev MTree0 (o : Expr) (m : Str) (apos pos : Pos) (pl : Env → Sem Bool) : Prop := ∀ env : Env, eval (.Call (.Attribute o m apos) [] [] pos) env = (do
      let ov ← eval o env
      standAt apos.atName
      let (f, first) ← holding [ov] (getMethod ov m (pl env))
      callWith pos f first (backTo pos (starEach [] env)) (backToKw pos (keywordEach [] env)))
abbrev MTree (o : Expr) (m : Str) (apos pos : Pos) (es : List Expr) (kws : List Keyword) (pl : Env → Sem Bool) : Prop := ∀ env : Env, eval (.Call (.Attribute o m apos) es kws pos) env = (do
      let ov ← eval o env
      standAt apos.atName
      let (f, first) ← holding [ov] (getMethod ov m (pl env))
      callWith pos f first (backTo pos (starEach es env)) (backToKw pos (keywordEach kws env)))
theorem pm0 {pre : ω → Prop} {g : ω → ρ} {y : ω} {pl : Env → Sem Bool} (M : MCal S.prog S.w S.K S.mg S.base C m pn' lv (spP (fun a => [.d (cIns C F hm) a]) pre cr g)) (hC : Cls S.K C) (hl : lv ≤ S.lv) (ho : PD S Γ 0 o (cIns C F hm) (· = y)) (hno : ∀ H fs y0, F H fs y0 → fs.lookup m = none) (hp : pre y) (ht : MTree0 o m apos pos pl) :
    PD S Γ 0 (.Call (.Attribute o m apos) [] [] pos) cr (· = g y) := by
  obtain ⟨f, fd, Fn, Mt, hb⟩ := M.ex
  exact pd_of (fun X G => pe_meth0 (pl := pl X.env) (tE_ok G) (by rw [G.K]; exact hC) (by rw [G.K]; exact Mt) (fnG Fn G) (G.room.mono hl) (by rw [G.K]; exact hb) .nil pass0 (ht _))
    (td_meth (k := 0) (k1 := 0) (k2 := 0) ho hno ta_nil fun y' as h1 h2 => ⟨y', 0, by subst h2; rfl, by subst h1; exact hp, Nat.le_refl _, fun x hx => by subst h1; exact hx⟩)
theorem pm1 {pre : ω × α → Prop} {g : ω × α → ρ} {y : ω} {z : α} {pl : Env → Sem Bool} (M : MCal S.prog S.w S.K S.mg S.base C m pn' lv (spP (fun (a : ω × α) => [.d (cIns C F hm) a.1, .d ca a.2]) pre cr g)) (hC : Cls S.K C) (hl : lv ≤ S.lv) (ho : PD S Γ 0 o (cIns C F hm) (· = y)) (he : PD S Γ 0 e ca (· = z)) (hno : ∀ H fs y0, F H fs y0 → fs.lookup m = none) (hp : pre (y, z))
    (hs : ∀ env : Env, starEach [e] env = (false, eval e env) :: starEach [] env) (hpl : ∀ env : Env, (backTo pos (starEach [] env)).any (·.1) = false) (ht : MTree o m apos pos [e] [] pl) : PD S Γ 0 (.Call (.Attribute o m apos) [e] [] pos) cr (· = g (y, z)) := by
  obtain ⟨f, fd, Fn, Mt, hb⟩ := M.ex
  exact pd_of (fun X G => pe_meth (pl := pl X.env) (tE_ok G) (by rw [G.K]; exact hC) (by rw [G.K]; exact Mt) (fnG Fn G) (G.room.mono hl) (by rw [G.K]; exact hb) .nil pass0 (tA_ok G) (hs _) (hpl _) (ht _))
    (td_meth (k := 0) (k1 := 0) (k2 := 0) ho hno (pda_one he hs) fun y' as h1 h2 => ⟨(y', z), 0, by subst h2; rfl, by subst h1; exact hp, Nat.le_refl _, fun x hx => by subst h1; exact hx⟩)
/-- C(e) -/
theorem pmake1 {pre : α → Prop} {Pi : α → ω → Prop} {h : α → ω} {z : α} (I : ICal S.prog S.w S.K S.mg S.base C pn' lv (spI C (fun a => [.d ca a]) pre F Pi)) (hl : lv + 1 ≤ S.lv) (hg : S.sc.names.lookup x = some .globalImplicit) (hmg : S.mg x = some (.ref C)) (he : PD S Γ 0 e ca (· = z)) (hp : pre z) (hh : ∀ y, Pi z y → y = h z)
    (hs : ∀ env : Env, starEach [e] env = (false, eval e env) :: starEach [] env) (hpl : ∀ env : Env, (backTo pos (starEach [] env)).any (·.1) = false) (hdb : (x == ("__debug__" : Str)) = false := by decide) : PD S Γ 0 (.Call (.Name x pn) [e] [] pos) (cIns C F hm) (· = h z) := by
  obtain ⟨f, fd, Fn, Mk1, hb⟩ := I.ex
  exact pd_of (fun X G => pe_make (by rw [G.K]; exact Mk1) (fnG Fn G) (G.room.mono hl) (glb G hg) (by rw [G.mg]; exact hmg) (by rw [G.K]; exact hb) .nil pass0 (tA_ok G) hdb (hs _) (hpl _))
    (td_make (k1 := 0) (pda_one he hs) fun as h1 => by subst h1; exact ⟨trivial, z, rfl, hp, fun y hy => hh y hy⟩)
/-- own ==, where both are the same -/
def REq (C : Addr) {ω : Type} (F : Hp → List (Str × V) → ω → Prop) : Addr → Addr → Hp → Prop := fun a b H => ∃ y dx dy fs gs, H a = some (.ins C dx fs) ∧ H b = some (.ins C dy gs) ∧ F H fs y ∧ F H gs y
theorem spEq_of {vs : List V} {H : Hp} {Q : VK} {E : XK} [DecidableEq ω] (hm : ∀ {H H' fs y}, Ex H H' → F H fs y → F H' fs y) (h : spEq (REq C F) vs H Q E) : spP (fun (a : ω × ω) => [.d (cIns C F hm) a.1, .d (cIns C F hm) a.2]) (fun _ => True) cBool (fun a => decide (a.1 = a.2)) vs H Q E := by
  obtain ⟨a, b, rfl, ⟨y, dx, dy, fs, gs, h1, h2, h3, h4⟩, q⟩ := h
  refine ⟨(y, y), 0, 0, H, trivial, Nat.zero_le _, Ex.rfl', ⟨⟨a, dx, fs, rfl, h1, h3⟩, ⟨b, dy, gs, rfl, h2, h4⟩, trivial⟩, fun z hz => by simp at hz, fun v Hf' H' x px r f _ _ => ?_⟩
  have : x = true := px.trans (decide_eq_true rfl)
  subst this
  obtain rfl := r
  exact q H' fun a o e => f.keep a o e (by simp)
/-- what the own == of a class needs -/
structure EqK (P : Program) (w : World) (K : PySem.W.Frag) (mg : Str → Option Value) (base : Heap) (C : Addr) (lv : Nat) {ω : Type} (F : Hp → List (Str × V) → ω → Prop) : Prop where
  ex : ∃ f fd pn, FnOk P w K mg base CX0 lv f fd pn (spEq (REq C F)) ∧ PySem.W.findIn K (.ref C) "__eq__" = some (some (.ref f)) ∧ PySem.W.isFn K (.ref f) = true ∧ Binds K fd pn []
theorem rd_eqOwn {y : ω} : RD (rEqG (DIns C (REq C F))) (cIns C F hm) y (cIns C F hm) y cBool (· = true) := fun Hf H v u e ⟨a, dx, fs, h1, h2, h3⟩ ⟨b, dy, gs, g1, g2, g3⟩ Q q => by
  subst h1 g1
  refine ⟨⟨a, b, dx, dy, fs, gs, rfl, rfl, e _ _ h2, e _ _ g2, y, dx, dy, fs, gs, e _ _ h2, e _ _ g2, hm e h3, hm e g3⟩, fun H' ex => q true Hf H' _ rfl rfl ⟨Ex.rfl', fun a o z _ => ex a o z, fun _ _ _ _ z => z, fun a z => ?_⟩ (e.trans ex)⟩
  cases w : H a with
  | none => rfl
  | some o => rw [ex a o w] at z; cases z
theorem eqOwnG (E : EqK S.prog S.w S.K S.mg S.base C lv F) (hl : lv ≤ S.lv) : ∀ X, Good S X → OpR X (compareOp .Eq) (rEqG (DIns C (REq C F))) := fun X G => by
  obtain ⟨f, fd, pn, Fn, h1, h2, h3⟩ := E.ex
  exact op_eqG (rcG_ins (fnG Fn G) (by rw [G.K]; exact h1) (by rw [G.K]; exact h2) (by rw [G.K]; exact h3) pass0) (G.room.mono hl)
/-- a == b, both the same -/
theorem peqOwn {a b : Expr} {y : ω} (E : EqK S.prog S.w S.K S.mg S.base C lv F) (hl : lv ≤ S.lv) (ha : PD S Γ 0 a (cIns C F hm) (· = y)) (hb : PD S Γ 0 b (cIns C F hm) (· = y)) (hmk : behindInMarks .Eq b = false) : PD S Γ 0 (.Compare a [.Eq] [b] pos) cBool (· = true) :=
  pcmp (eqOwnG E hl) ha hb rd_eqOwn hmk
theorem teqOwn {a b : Expr} {y : ω} (E : EqK S.prog S.w S.K S.mg S.base C lv F) (hl : lv ≤ S.lv) (ha : PD S Γ 0 a (cIns C F hm) (· = y)) (hb : PD S Γ 0 b (cIns C F hm) (· = y)) (hmk : behindInMarks .Eq b = false) : PDT S Γ 0 (.Compare a [.Eq] [b] pos) (· = true) :=
  tcmp (eqOwnG E hl) ha hb rd_eqOwn hmk
end
end DL

set_option Elab.async false
set_option linter.all false
set_option maxRecDepth 100000
set_option maxHeartbeats 4000000
namespace DL
open PySem PySem.Spec L2
section
variable {P : Program} {w : World} {K : PySem.W.Frag} {mg : Str → Option Value} {base : Heap} {m qual : Str} {st : Stmt} {N pn : List Str} {lv : Nat} {C : Addr} {ω A α β ρ : Type} {F : Hp → List (Str × V) → ω → Prop}
theorem map_un {ps : Ctxt} {b : Addr} (h : NoB ps) : ∀ z, ¬ Sl.bx z ∈ ps := fun z hz => by
  obtain ⟨i, hi⟩ := List.getElem?_of_mem hz
  exact noB_at h hi
theorem noB_one : ∀ {l : Ctxt}, NoB l → OneB l
  | [], _ => trivial
  | .bx z :: r, h => h.elim
  | .un :: r, h => noB_one (l := r) h
  | .d c x :: r, h => noB_one (l := r) h
  | .l c x :: r, h => noB_one (l := r) h
  | .r p :: r, h => noB_one (l := r) h
/-- __init__ of one attribute: first some statements that may leave, then self.f = e -/
theorem init1 {psi : A → Ctxt} {pre : A → Prop} {fn : Str} {g : A → α} {cv : Cod α} {h : A → ω} {s0 : Stmt} {ev : Expr} {p1 p2 p3 : Pos} {f : Addr} {fd : FuncData} (Fu : Fun K m qual st f fd) (Sc : FnScope N pn (defScope st)) (hbody : defBody st = [s0, .Assign [.Attribute (.Name "self" p1) fn p2] ev p3])
    (hN0 : N[0]? = some ("self" : Str)) (hv0 : Vis (defScope st) ("self" : Str)) (hl : ∀ a, (psi a).length + 1 = pn.length) (hN : pn.length ≤ N.length) (nb : ∀ a, NoB (psi a)) (hC : Cls K C) (hNo : NoAttr K C fn) (hF : ∀ H y a, pre a → cv.rep H y (g a) → F H [(fn, y)] (h a))
    (hs : ∀ env : Env, swapsWith ev (some (.Attribute (.Name "self" p1) fn p2)) p3.line env = pure false)
    (h0 : ∀ (x : Addr) (a : A), pre a → PH (ρ := Unit) ⟨N, defScope st, K, mg, P, w, base, lv, fun _ => true, false⟩ (entry N (.d cV (.ref x) :: psi a)) 0 s0 { N := fun G => G = entry N (.d cV (.ref x) :: psi a), bk := fun _ => False, ct := fun _ => False, c := cNon, R := fun _ => False })
    (h1 : ∀ (x : Addr) (a : A), pre a → PD ⟨N, defScope st, K, mg, P, w, base, lv, fun _ => true, false⟩ (entry N (.d cV (.ref x) :: psi a)) 0 ev cv (· = g a)) :
    FnOk P w K mg base CX0 (lv + 1) f fd pn (spI C psi pre F (fun a y => y = h a)) := by
  refine Fu.ok Sc (fun vs H Q E h => ?_) (fun cdv Ar outer s H vs Q E hr hsp => ?_)
  · obtain ⟨a, x, dx, ws, Hf, _, rfl, _, _, _, o, _⟩ := h
    rw [List.length_cons, argsOk_len o]; exact hl a
  · obtain ⟨a, x, dx, ws, Hf, hp, rfl, hx, hfx, ex, o, q⟩ := hsp
    have G := cxG (P := P) (w := w) (K := K) (mg := mg) (base := base) (qual := qual) (st := st) (f := f) (cdv := cdv) (A := Ar) (outer := outer) (s := s) (H := H) (E := E) (lv := lv) hr Sc.nd
    rw [hbody]
    refine ⟨_, pss_cons (tS1_ok G) (pss_one (ps_fld (pe_slot G hN0 hv0 (by decide) (by decide)) (tE_ok G) (hs _))), ?_⟩
    have o1 : ArgsOk Hf (.ref x :: ws) (.d cV (.ref x) :: psi a) := ⟨rfl, o⟩
    have S0 : Sat ⟨fun z => Sl.bx z ∈ (.d cV (.ref x) :: psi a : Ctxt), Hf, H⟩ Hf H (start N (.ref x :: ws)) (entry N (.d cV (.ref x) :: psi a)) 0 :=
      sat_entry (by rw [List.length_cons, hl a]; exact hN) o1 (by
        show OneB (psi a)
        exact noB_one (nb a)) ex fun z hz => by
          rcases List.mem_cons.mp hz with e | e
          · cases e
          · exact absurd e (map_un (b := 0) (nb a) z)
    have noM : ∀ z, ¬ Sl.bx z ∈ (.d cV (.ref x) :: psi a : Ctxt) := fun z hz => by
      rcases List.mem_cons.mp hz with e | e
      · cases e
      · exact map_un (b := 0) (nb a) z e
    refine h0 x a hp _ 0 _ Hf H (Nat.zero_le _) S0 _ (fun σ1 Hf1 H1 Γ1 eΓ f1 => ?_) (fun _ _ _ _ z _ => z.elim) (fun _ _ _ _ z _ => z.elim) fun _ _ _ _ _ _ z _ _ => z.elim
    subst eΓ
    refine h1 x a hp _ 0 σ1 Hf1 H1 (Nat.zero_le _) f1.sat _ fun y Hf2 H2 z pz rz f2 S2 => ?_
    subst pz
    have e0 : (entry N (.d cV (.ref x) :: psi a))[0]? = some (Sl.d cV (.ref x)) := rfl
    obtain ⟨v0, hv, hr0⟩ := S2.at_ 0 _ e0
    obtain rfl : v0 = .ref x := hr0
    refine ⟨.ref x, hv, x, C, dx, [], rfl, S2.fr.keep x _ hx (noM x), hC, hNo, by decide, ?_⟩
    have fx2 : Hf2 x = none := S2.fr.fz x _ hx (noM x) hfx
    refine q Hf2 _ [(fn, y)] (h a) rfl upd_same fx2 (hF Hf2 y a hp rz) ⟨S2.fr.ex, fun b u e ne => ?_, fun b u e ne z => S2.fr.fz b u e (noM b) z, fun b e => ?_⟩ (S2.ex.mut fx2)
    · rw [upd_ne ne]; exact S2.fr.keep b u e (noM b)
    · by_cases z : b = x
      · subst z; rw [upd_same] at e; cases e
      · rw [upd_ne z] at e; exact S2.fr.dom b e
end
end DL

set_option Elab.async false
set_option linter.all false
set_option maxRecDepth 100000
set_option maxHeartbeats 4000000
namespace DL
open PySem PySem.Spec L2
/-! ### x.m(..): the thing first, then its method, then the arguments -/
abbrev getDot (env : Env) (o : Expr) (m : PySem.Str) (q : Pos) (pl : Sem Bool) (k : Value → List Value → Sem Value) : Sem Value := do
  let whose ← eval o env
  standAt q.atName
  let (g, fx) ← holding [whose] (getMethod whose m pl)
  k g fx
/-- what is known of the thing, where it is an instance with that method -/
def AtIns (C : Addr) (m : PySem.Str) (R : VK) : VK := fun x H => ∃ a dx fs, x = .ref a ∧ H a = some (.ins C dx fs) ∧ fs.lookup m = none ∧ R x H
theorem dot_ins {X : Cx} {o : Expr} {m : PySem.Str} {apos pos : Pos} {args : List Expr} {kws : List Keyword} {pl : Sem Bool} {C f : Addr} {ta : TE} {pins : List (Addr × Obj)} {σ : Stt} {H : Hp} {s : Shared} {Q : Value → Shared → Prop} {R : VK}
    (he : PE X o ta) (c : Cls X.K C) (hm : Meth X.K C m f) (ht : eval (.Call (.Attribute o m apos) args kws pos) X.env = getDot X.env o m apos pl fun g fx => callWith pos g fx (backTo pos (starEach args X.env)) (backToKw pos (keywordEach kws X.env)))
    (I : Inv X pins σ H s) (h : ta σ H (AtIns C m R)) (go : ∀ a H1 s1, Inv X pins σ H1 s1 → R (.ref a) H1 → wpAny (model X.prog X.w) X.A (callWith pos (.ref f) [.ref a] (backTo pos (starEach args X.env)) (backToKw pos (keywordEach kws X.env))) Q X.xe s1) :
    wpAny (model X.prog X.w) X.A (eval (.Call (.Attribute o m apos) args kws pos) X.env) Q X.xe s := by
  apply PySem.W.methodCall_KW (pl := pl) (he := ht)
  refine thn (he.run pins s σ H _ I h) ?_
  rintro u s1 ⟨_, H1, I1, r, a, dx, fs, rfl, at_, free, q⟩
  rw [show u = Value.ref a from r]
  exact getmeth_ok I1 at_ c hm free (go a H1 s1 I1 q)
/-! ### B.__init__(self, ..), B an own class of exceptions without own __init__ -/
structure BaseI (K : PySem.W.Frag) (mg : Str → Option Value) (x : Str) (B : Addr) : Prop where
  mgB : mg x = some (.ref B)
  sp : PySem.W.specialIn K (.ref B) "__getattribute__" = some (some (.builtin "type.__getattribute__"))
  rd : PySem.W.readsIn K B (.type "type") = true
  ini : PySem.W.findCls K (.ref B) (.type "type") "__init__" = some (.val (.builtin "ValueError.__init__"))
section
variable {X : Cx} {x : Str} {B : Addr} {e : Expr} {es : List Expr} {ta : TA} {p p1 p2 pos : Pos}
theorem pe_oinit {pl : Sem Bool} (hg : Gl X x) (b : BaseI X.K X.mg x B) (ha : PA X (e :: es) ta) (hd : (x == ("__debug__" : Str)) = false)
    (hc : eval (.Call (.Attribute (.Name x p1) "__init__" p2) (e :: es) [] pos) X.env = getDot X.env (.Name x p1) "__init__" p2 pl fun g fx => callWith pos g fx (backTo pos (starEach (e :: es) X.env)) (backToKw pos (keywordEach [] X.env)))
    (he : starEach (e :: es) X.env = (false, eval e X.env) :: starEach es X.env) (hpl : (backTo pos (starEach es X.env)).any (·.1) = false) :
    PE X (.Call (.Attribute (.Name x p1) "__init__" p2) (e :: es) [] pos) (tVeI X.K ta) := by
  constructor
  intro pins s σ H Q I h
  apply PySem.W.methodCall_KW (ld_glob I hg b.mgB ?_ hd) hc
  refine PySem.W.method_cls I.kIn b.sp (PySem.W.cls_value I.kIn b.rd b.ini (by decide +kernel) ?_)
  refine PyProof.Rows.callWith_method1 (thn (ha.run pos pins _ σ H _ (I.tok _) h) ?_) he hpl
  rintro us s1 ⟨_, H1, I1, r, a, C, ws, rfl, few, T, at_, q⟩
  match us, r with
  | u :: more, .cons r0 rest =>
    rw [show u = Value.ref a from r0]
    have n : more.length ≤ sizeLine := Nat.le_trans (by rw [← Paired.length rest]; exact few) (by rw [sizeLine_eq]; omega)
    exact oinit_ok T I1 at_ n fun s2 I2 => ⟨.non, H1, I2, rfl, q⟩
end
/-! ### o.m(k = v) -/
def tMethK (C : Addr) (m : Str) (sp : Sp) (gV : List V → List V → List V) (E : XK) (ta : TE) (tk : TA) : TE := fun σ H Q => ta σ H fun x H1 => ∃ a dx fs, x = .ref a ∧ H1 a = some (.ins C dx fs) ∧ fs.lookup m = none ∧
  tk σ H1 fun zs H2 => sp (gV [x] zs) H2 Q E
section
variable {X : Cx} {CX : CXT} {k : Nat} {f C : Addr} {fd : FuncData} {ps ks : List Str} {sp : Sp} {E : XK} {m : Str} {pos apos : Pos} {o : Expr} {kws : List Keyword} {ta : TE} {tk : TA} {g : List Value → List Value → List Value} {gV : List V → List V → List V}
theorem pe_methK {pl : Sem Bool} (he : PE X o ta) (c : Cls X.K C) (hm : Meth X.K C m f) (F : FnOk X.prog X.w X.K X.mg X.base CX k f fd ps sp) (hr : Room k X.A) (hb : KBinds X.K fd ps ks g gV) (hx : Passes CX X E) (hkw : PK X kws tk)
    (hall : (backToKw pos (keywordEach kws X.env)).all (·.1.isSome) = true) (hks : (backToKw pos (keywordEach kws X.env)).filterMap (·.1) = ks)
    (hpl : ((backTo pos (starEach [] X.env)).any (·.1) || (backToKw pos (keywordEach kws X.env)).any (·.1.isNone)) = false)
    (ht : eval (.Call (.Attribute o m apos) [] kws pos) X.env = getDot X.env o m apos pl fun g fx => callWith pos g fx (backTo pos (starEach [] X.env)) (backToKw pos (keywordEach kws X.env))) :
    PE X (.Call (.Attribute o m apos) [] kws pos) (tMethK C m sp gV E ta tk) := by
  constructor
  intro pins s σ H Q I h
  refine dot_ins (R := fun x H1 => tk σ H1 fun zs H2 => sp (gV [x] zs) H2 Q E) he c hm ht I h fun a H1 s1 I1 q => PySem.W.callWith_KW0 (h₀ := X.base) I.ok.mod.kin hm.kp hall ?_ hpl
  apply thn (hkw.run pos pins s1 σ H1 _ I1 q)
  rintro ws s2 ⟨zs, H2, I2, rz, q2⟩
  refine ⟨I2.kIn, ?_⟩
  rw [hks]
  exact run_fnk (us := [.ref a]) (vs := [.ref a]) F hr hb hx I2 (.cons rfl .nil) rz q2
end
/-- self and one keyword -/
def g2 {α : Type} : List α → List α → List α
  | [a], [b] => [a, b]
  | _, _ => []
theorem kb2 {K : PySem.W.Frag} {fd : FuncData} {p1 p2 : Str} (h : ∀ a b : Value, bindArgs fd ⟨[a], [p2].zip [b]⟩ = pure ([p1, p2].zip [a, b])) : KBinds K fd [p1, p2] [p2] g2 g2 where
  to := fun s us ws _ hl => by
    match us, ws, hl with
    | [a], [b], _ => exact .of_eq (h a b)
    | [], _, hl => cases hl
    | _ :: _ :: _, [], hl => cases hl
    | _ :: _ :: _, _ :: _, hl => cases hl
    | [_], [], hl => cases hl
    | [_], _ :: _ :: _, hl => cases hl
  rel := fun {vs us zs ws} h1 h2 => by
    cases h1 with
    | nil => exact .nil
    | cons r t =>
      cases t with
      | nil =>
        cases h2 with
        | nil => exact .nil
        | cons r2 t2 => cases t2 with
          | nil => exact .cons r (.cons r2 .nil)
          | cons _ _ => exact .nil
      | cons _ _ => exact .nil
end DL

set_option Elab.async false
set_option linter.all false
set_option maxRecDepth 100000
set_option maxHeartbeats 4000000
namespace DL
open PySem PySem.Spec L2
theorem ps_nox {X : Cx} {st : Stmt} {t : TS} (h : PS X.nox st t) : PS X st t := ⟨fun pins s σ H D I hw =>
  wpAny_mono (h.run pins s σ H D (I.wish _) hw) (fun _ _ q => q.unwish) fun _ _ z => False.elim z⟩
theorem pa_nox {X : Cx} {es : List Expr} {t : TA} (h : PA X.nox es t) : PA X es t := ⟨fun pos pins s σ H Q I hw =>
  wpAny_mono (h.run pos pins s σ H Q (I.wish _) hw) (fun _ _ ⟨v, H', I', r, q⟩ => ⟨v, H', I'.unwish, r, q⟩) fun _ _ z => False.elim z⟩
theorem cxGX {CX : CXT} {P : Program} {w : World} {K : PySem.W.Frag} {mg : Str → Option Value} {base : Heap} {N : List Str} {qual : Str} {st : Stmt} {f : Addr} {cdv : Value} {A : Around} {outer : List Env} {s : Shared} {H : Hp} {E : XK} {lv : Nat} (hr : Room lv (A.deeper (PyProof.Rows.envOfC qual (defScope st) s.heap.objs.size f cdv))) (nd : N.Nodup) :
    Good ⟨N, defScope st, K, mg, P, w, base, lv, fun _ => true, false⟩ (cxOf CX P w K mg base N qual (defScope st) f cdv A outer s H E).nox := ⟨rfl, rfl, rfl, rfl, rfl, rfl, rfl, rfl, hr, rfl, rfl, nd, fun h => nomatch h⟩
section
variable {S : Stc} {Γ : Ctxt} {k : Nat} {β ρ : Type} {c' : Cod β} {p : Po ρ} {pos : Pos}
/-- x = [..], x a plain local: as a list of one's own -/
theorem ph_setLcL {i : Nat} {y : Str} {py spos : Pos} {elt tg iter : Expr} {ifs : List Expr} {scope : Scope} (own : List (Str × Nat)) {R : List β → Prop} (h : TDF (lcRd S tg iter ifs elt scope own) Γ k c' R) (nb : NoBx Γ i) (hp : ∀ y, R y → p.N (Γ.set i (.l c' y))) (hi : S.N[i]? = some y) (hyl : S.sc.names.lookup y = some .local) (hl : (py.line == pos.line) = true) (hk : S.sc.kind = .function)
    (ha : (scope.names.any fun (n, k) => n == y && (k == .local || k == .cell)) = false) (ok : blkC S.N S.sc scope own = true) (hs : ∀ (env : Env) x, foldedSetIterable iter env x = pure x) : PH S Γ k (.Assign [.Name y py] (.ListComp elt [⟨tg, iter, ifs, 0⟩] scope pos) spos) p :=
  ph_of (fun X G => ps_lcR G hi hyl hl hk ha ok hs) (hs_setL h nb hp)
end
end DL

set_option Elab.async false
set_option linter.all false
set_option maxRecDepth 100000
set_option maxHeartbeats 4000000
namespace DL
open PySem PySem.Spec L2
/-! ### a list of two unlike things -/
def cL2 {α β : Type} (c : Cod α) (d : Cod β) : Cod (α × β) := ⟨fun H v x => ∃ a u w, v = .ref a ∧ H a = some (.lst [u, w]) ∧ c.rep H u x.1 ∧ d.rep H w x.2,
  fun e ⟨a, u, w, h1, h2, h3, h4⟩ => ⟨a, u, w, h1, e _ _ h2, c.mono e h3, d.mono e h4⟩⟩
/-- one text -/
def cS1 (t : Str) : Cod Unit := ⟨fun _ v _ => v = .str t, fun _ h => h⟩
def eS1 (t : Str) (h : (PyData.str t).canLay0 = true) : EqC (cS1 t) := ⟨fun _ => .str t, 1, fun _ _ _ _ h => by obtain rfl := h; exact .str _, fun _ => h, fun _ => by simp [PyData.depth], fun x y => by simp [PyData.eqv]⟩
theorem pd_S1 {S : Stc} {Γ : Ctxt} {t : Str} {j : Nat} {pos : Pos} : PD S Γ 0 (.Constant (.str t) j pos) (cS1 t) (· = ()) := pd_of (fun X G => pe_str) (td_c fun _ => rfl)
theorem rd_eqS1 {s t : Str} : RD rEq (cS1 s) () (cS1 t) () cBool (· = decide (s = t)) := fun Hf H v u e h1 h2 Q q => by
  obtain rfl := h1; obtain rfl := h2
  exact ⟨rfl, q _ Hf H _ rfl (by show V.bl _ = V.bl _; congr 1; exact decide_eq_decide.mpr ⟨fun h => V.str.inj h, fun h => by rw [h]⟩) Fr.refl e⟩
theorem rd_neS1 {s t : Str} : RD rNe (cS1 s) () (cS1 t) () cBool (· = !decide (s = t)) := fun Hf H v u e h1 h2 Q q => by
  obtain rfl := h1; obtain rfl := h2
  exact ⟨rfl, q _ Hf H _ rfl (by show V.bl _ = V.bl _; congr 2; exact decide_eq_decide.mpr ⟨fun h => V.str.inj h, fun h => by rw [h]⟩) Fr.refl e⟩
def eL2 {α β : Type} [DecidableEq α] [DecidableEq β] {c : Cod α} {d : Cod β} (e : EqC c) (f : EqC d) : EqC (cL2 c d) := ⟨fun x => .list [e.D x.1, f.D x.2], max e.n f.n + 1, fun K H v x ⟨a, u, w, h1, h2, h3, h4⟩ => by
    subst h1; exact .lst (SqL.of h2) (.cons (e.dp K H _ _ h3) (.cons (f.dp K H _ _ h4) .nil)),
  fun x => by simp [PyData.canLay0, PyData.canLayAll0, e.lay, f.lay], fun x => by
    have h1 := e.dep x.1; have h2 := f.dep x.2
    simp only [PyData.depth, PyData.depthAll]; omega, fun x y => by
    simp only [PyData.eqv, PyData.eqvAll, e.eqv, f.eqv]
    obtain ⟨x1, x2⟩ := x; obtain ⟨y1, y2⟩ := y
    by_cases e1 : x1 = y1 <;> by_cases e2 : x2 = y2 <;> simp [e1, e2]⟩
section
variable {Γ : Ctxt} {k1 k2 : Nat} {α β : Type} {c1 : Cod α} {c2 : Cod β} {P1 : α → Prop} {P2 : β → Prop} {ta tb : TE} {x : α} {y : β}
theorem td_lst2 (ha : TD ta Γ k1 c1 P1) (hb : TD tb Γ k2 c2 P2) : TD (tLst (tCons ta (tCons tb tNil))) Γ (k1 + k2) (cL2 c1 c2) (fun z => P1 z.1 ∧ P2 z.2) := fun O n σ Hf H hn S Q q =>
  ha O n σ Hf H (by omega) S _ fun v Hf1 H1 x p1 r1 f1 S1 => hb O (n + k1) σ Hf1 H1 (by omega) S1 _ fun u Hf2 H2 y p2 r2 f2 S2 =>
    ⟨by show 2 ≤ sizeLine; decide, fun p hp => q _ (upd Hf2 p (.lst [v, u])) _ (x, y) ⟨p1, p2⟩
      ⟨p, v, u, rfl, upd_same, c1.mono (f2.ex.trans (Ex.new (S2.ex.back hp))) r1, c2.mono (Ex.new (S2.ex.back hp)) r2⟩
      ((f1.trans f2 fun _ h => .inl h).trans (Fr.new (M := Bx Γ) S2.ex hp) fun _ z => .inl z) (by rw [← Nat.add_assoc]; exact S2.new hp)⟩
variable {S : Stc} {a b e : Expr} {pos : Pos}
theorem plst2 (ha : PD S Γ 0 a c1 (· = x)) (hb : PD S Γ 0 b c2 (· = y)) (hs : ∀ env : Env, starEach [a, b] env = (false, eval a env) :: starEach [b] env) (hs2 : ∀ env : Env, starEach [b] env = (false, eval b env) :: starEach [] env) : PD S Γ 0 (.List [a, b] pos) (cL2 c1 c2) (· = (x, y)) :=
  (pd_of (fun X G => pe_lst (pa_cons (tE_ok G) (pa_cons (tE_ok G) pa_nil (hs2 _)) (hs _))) (td_lst2 (k1 := 0) (k2 := 0) ha hb)).imp fun z ⟨h1, h2⟩ => by cases z; subst h1 h2; rfl
theorem rd_ixL2_0 {K : PySem.W.Frag} {x : α × β} : RD (rIxL K) (cL2 c1 c2) x cInt 0 c1 (· = x.1) := fun Hf H v u e ⟨a, w1, w2, h1, h2, h3, h4⟩ h6 Q k => by
  obtain rfl := h6
  exact ⟨a, [w1, w2], 0, w1, h1, rfl, SqL.of (e _ _ h2), rfl, k _ Hf H _ rfl h3 Fr.refl e⟩
theorem rd_ixL2_1 {K : PySem.W.Frag} {x : α × β} : RD (rIxL K) (cL2 c1 c2) x cInt 1 c2 (· = x.2) := fun Hf H v u e ⟨a, w1, w2, h1, h2, h3, h4⟩ h6 Q k => by
  obtain rfl := h6
  exact ⟨a, [w1, w2], 1, w2, h1, rfl, SqL.of (e _ _ h2), rfl, k _ Hf H _ rfl h4 Fr.refl e⟩
end
/-! ### try that runs through -/
theorem Good.nx {S : Stc} {X : Cx} (G : Good S X) : Good S X.nox := ⟨G.N, G.sc, G.K, G.mg, G.prog, G.w, G.base, G.calm, G.room, G.fn, rfl, G.nd, G.gd⟩
theorem ph_try_thru {S : Stc} {Γ : Ctxt} {k : Nat} {ρ : Type} {p : Po ρ} {body : List Stmt} {h₀ : ExceptHandler} {hs : List ExceptHandler} {pos : Pos} (h : PHs S Γ k body p) : PH S Γ k (.Try body (h₀ :: hs) [] [] pos) p :=
  ph_of (fun X G => ps_try_thru0 (tSs_ok G.nx)) h
/-! ### methods with a keyword -/
structure MCalK (P : Program) (w : World) (K : PySem.W.Frag) (mg : Str → Option Value) (base : Heap) (C : Addr) (m : Str) (pn ks : List Str) (lv : Nat) (sp : Sp) : Prop where
  ex : ∃ f fd, FnOk P w K mg base CX0 lv f fd pn sp ∧ Meth K C m f ∧ KBinds K fd pn ks g2 g2
section
variable {S : Stc} {Γ : Ctxt} {α ω ρ : Type} {cr : Cod ρ} {ca : Cod α} {e o : Expr} {pos apos kpos : Pos} {C : Addr} {F : Hp → List (Str × V) → ω → Prop} {hm : ∀ {H H' fs y}, Ex H H' → F H fs y → F H' fs y} {m kn : Str} {pn' : List Str} {lv : Nat}
theorem td_methK {te ti : TE} {g : ω × α → ρ} {pre : ω × α → Prop} {y : ω} {z : α} {E : XK} (ho : TD te Γ 0 (cIns C F hm) (· = y)) (hno : ∀ H fs y0, F H fs y0 → fs.lookup m = none) (he : TD ti Γ 0 ca (· = z)) (hp : pre (y, z)) :
    TD (tMethK C m (spP (fun (a : ω × α) => [.d (cIns C F hm) a.1, .d ca a.2]) pre cr g) g2 E te (tCons ti tNil)) Γ 0 cr (· = g (y, z)) := fun O n σ Hf H hn s Q q =>
  ho O n σ Hf H hn s _ fun v Hf1 H1 y' py r1 f1 s1 => by
    subst py
    obtain ⟨a, dx, fs, e1, e2, e3⟩ := id r1
    refine ⟨a, dx, fs, e1, s1.ex _ _ e2, hno _ _ _ e3, ?_⟩
    refine he O n σ Hf1 H1 hn s1 _ fun u Hf2 H2 z' pz r2 f2 s2 => ?_
    subst pz
    refine ⟨(y', z'), 0, n, Hf2, hp, hn, s2.ex, ⟨(cIns C F hm).mono f2.ex r1, r2, trivial⟩, fun w hw => by simp at hw, fun w Hf3 H3 x px r f3 ex3 _ => ?_⟩
    have f3' : Fr (fun _ => False) Hf2 H2 Hf3 H3 := f3.mono fun w hw => by simp at hw
    exact q w Hf3 H3 x px r ((f1.trans f2 fun _ z => .inl z).trans f3' fun _ z => z.elim) (s2.grow0 f3' ex3)
theorem pm1k {pre : ω × α → Prop} {g : ω × α → ρ} {y : ω} {z : α} {pl : Env → Sem Bool} (M : MCalK S.prog S.w S.K S.mg S.base C m pn' [kn] lv (spP (fun (a : ω × α) => [.d (cIns C F hm) a.1, .d ca a.2]) pre cr g)) (hC : Cls S.K C) (hl : lv ≤ S.lv) (ho : PD S Γ 0 o (cIns C F hm) (· = y)) (he : PD S Γ 0 e ca (· = z)) (hno : ∀ H fs y0, F H fs y0 → fs.lookup m = none) (hp : pre (y, z))
    (hall : ∀ env : Env, (backToKw pos (keywordEach [⟨some kn, e, kpos⟩] env)).all (·.1.isSome) = true) (hks : ∀ env : Env, (backToKw pos (keywordEach [⟨some kn, e, kpos⟩] env)).filterMap (·.1) = [kn])
    (hpl : ∀ env : Env, ((backTo pos (starEach [] env)).any (·.1) || (backToKw pos (keywordEach [⟨some kn, e, kpos⟩] env)).any (·.1.isNone)) = false) (ht : MTree o m apos pos [] [⟨some kn, e, kpos⟩] pl) : PD S Γ 0 (.Call (.Attribute o m apos) [] [⟨some kn, e, kpos⟩] pos) cr (· = g (y, z)) := by
  obtain ⟨f, fd, Fn, Mt, hb⟩ := M.ex
  exact pd_of (fun X G => pe_methK (pl := pl X.env) (tE_ok G) (by rw [G.K]; exact hC) (by rw [G.K]; exact Mt) (fnG Fn G) (G.room.mono hl) (by rw [G.K]; exact hb) pass0 (pk_cons (tE_ok G) pk_nil) (hall _) (hks _) (hpl _) (ht _)) (td_methK ho hno he hp)
end
/-! ### .. that may raise -/
def tMethKS (C : Addr) (m : Str) (sp : Sp) (gV : List V → List V → List V) (E : Stt → XK) (ta : TE) (tk : TA) : TE := fun σ H Q => ta σ H fun x H1 => ∃ a dx fs, x = .ref a ∧ H1 a = some (.ins C dx fs) ∧ fs.lookup m = none ∧
  tk σ H1 fun zs H2 => sp (gV [x] zs) H2 Q (E σ)
section
variable {X : Cx} {CX : CXT} {k : Nat} {f C : Addr} {fd : FuncData} {ps ks : List Str} {sp : Sp} {E : Stt → XK} {m : Str} {pos apos : Pos} {o : Expr} {kws : List Keyword} {ta : TE} {tk : TA} {g : List Value → List Value → List Value} {gV : List V → List V → List V}
theorem run_fnkS {pins : List (Addr × Obj)} {σ : Stt} {H : Hp} {s : Shared} {Q : VK} {us ws : List Value} {vs zs : List V} (F : FnOk X.prog X.w X.K X.mg X.base CX k f fd ps sp) (hr : Room k X.A) (hb : KBinds X.K fd ps ks g gV) (hx : PassesAt CX X σ (E σ))
    (I : Inv X pins σ H s) (r : Vals vs us) (rz : Vals zs ws) (h : sp (gV vs zs) H Q (E σ)) : wpAny (model X.prog X.w) X.A (call (.ref f) us (ks.zip ws)) (EP X pins σ Q) X.xe s := by
  have r2 := hb.rel r rz
  have hl : (g us ws).length = ps.length := by rw [← r2.length]; exact F.len _ _ _ _ h
  refine wpAny_call (codeAny_mono (F.run X.A X.stack s H ⟨us, ks.zip ws⟩ (g us ws) (gV vs zs) Q (E σ) hr I.env0 (hb.to s us ws I.kIn hl) r2 h) fun r s' hq => ?_)
  cases r with
  | error e => exact hx pins H s e s' I hq
  | ok fl =>
    cases fl with
    | ret u => exact I.after hq
    | next => exact False.elim hq
    | brk => exact False.elim hq
    | cont => exact False.elim hq
theorem pe_methKS {pl : Sem Bool} (he : PE X o ta) (c : Cls X.K C) (hm : Meth X.K C m f) (F : FnOk X.prog X.w X.K X.mg X.base CX k f fd ps sp) (hr : Room k X.A) (hb : KBinds X.K fd ps ks g gV) (hx : ∀ σ, PassesAt CX X σ (E σ)) (hkw : PK X kws tk)
    (hall : (backToKw pos (keywordEach kws X.env)).all (·.1.isSome) = true) (hks : (backToKw pos (keywordEach kws X.env)).filterMap (·.1) = ks)
    (hpl : ((backTo pos (starEach [] X.env)).any (·.1) || (backToKw pos (keywordEach kws X.env)).any (·.1.isNone)) = false)
    (ht : eval (.Call (.Attribute o m apos) [] kws pos) X.env = getDot X.env o m apos pl fun g fx => callWith pos g fx (backTo pos (starEach [] X.env)) (backToKw pos (keywordEach kws X.env))) :
    PE X (.Call (.Attribute o m apos) [] kws pos) (tMethKS C m sp gV E ta tk) := by
  constructor
  intro pins s σ H Q I h
  refine dot_ins (R := fun x H1 => tk σ H1 fun zs H2 => sp (gV [x] zs) H2 Q (E σ)) he c hm ht I h fun a H1 s1 I1 q => PySem.W.callWith_KW0 (h₀ := X.base) I.ok.mod.kin hm.kp hall ?_ hpl
  apply thn (hkw.run pos pins s1 σ H1 _ I1 q)
  rintro ws s2 ⟨zs, H2, I2, rz, q2⟩
  refine ⟨I2.kIn, ?_⟩
  rw [hks]
  exact run_fnkS (us := [.ref a]) (vs := [.ref a]) F hr hb (hx σ) I2 (.cons rfl .nil) rz q2
end
end DL

set_option Elab.async false
set_option linter.all false
set_option maxRecDepth 100000
set_option maxHeartbeats 4000000
namespace DL
open PySem PySem.Spec L2
section
variable {S : Stc} {Γ Γ1 : Ctxt} {k k1 k2 k3 kr : Nat} {α ρ : Type} {c : Cod α} {p : Po ρ} {R1 R2 R3 : Sl → Prop} {a b d e : Expr} {pos px py pz pt pt2 : Pos} {x y z : Str} {kt kt2 : Nat} {rest : List Stmt}
/-- x, y = a, b with plain local names -/
theorem bparP (i j : Nat) (ha : TX (tE S a) Γ k1 R1) (hb : TX (tE S b) Γ k2 R2) (nb : NoBx Γ i) (nb' : NoBx Γ j) (hij : i ≠ j) (u1 : ∀ s, R1 s → s ≠ .un) (u2 : ∀ s, R2 s → s ≠ .un) (hi : S.N[i]? = some x) (hj : S.N[j]? = some y)
    (hx : S.sc.names.lookup x = some .local) (hy : S.sc.names.lookup y = some .local) (hs : ∀ env : Env, starEach [a, b] env = (false, eval a env) :: starEach [b] env) (hs2 : ∀ env : Env, starEach [b] env = (false, eval b env) :: starEach [] env)
    (hw : ∀ env : Env, env.scope = S.sc → swappedStores [.Tuple [.Name x px, .Name y py] kt pt] (.Tuple [a, b] kt2 pt2) env = pure (some [x, y]))
    (hsw : ∀ env : Env, env.scope = S.sc → swapsWithSole [.Tuple [.Name x px, .Name y py] kt pt] (.Tuple [a, b] kt2 pt2) pos.line env = pure false)
    (hr : ∀ s1 s2, R1 s1 → R2 s2 → PHs S ((Γ.set i s1).set j s2) kr rest p) : PHs S Γ (k1 + k2 + kr) (.Assign [.Tuple [.Name x px, .Name y py] kt pt] (.Tuple [a, b] kt2 pt2) pos :: rest) p :=
  phs_cons (N1 := fun G => ∃ s1 s2, R1 s1 ∧ R2 s2 ∧ G = (Γ.set i s1).set j s2) (ph_of (fun X G => ps_par G.calm (by rw [G.N]; exact G.nd) (by rw [G.N]; exact hi) (by rw [G.N]; exact hj) hij (by rw [G.sc]; exact hx) (by rw [G.sc]; exact hy) (pa_cons (tE_ok G) (pa_cons (tE_ok G) pa_nil (hs2 _)) (hs _)) (hw _ G.sc) (hsw _ G.sc))
    (hs_par ha hb nb nb' hij u1 u2 fun t1 t2 e1 e2 => ⟨t1, t2, e1, e2, rfl⟩)) fun Γ1 ⟨s1, s2, h1, h2, e⟩ => by subst e; exact hr s1 s2 h1 h2
theorem HS.ctx {ts : TS} {Γ' : Ctxt} (e : Γ = Γ') (h : HS ts Γ' k p) : HS ts Γ k p := by subst e; exact h
theorem nun {P : α → Prop} : ∀ s : Sl, (∃ x, P x ∧ s = .d c x) → s ≠ .un := fun s ⟨x, _, e⟩ z => by rw [e] at z; cases z
theorem nunL {P : List α → Prop} : ∀ s : Sl, (∃ x, P x ∧ s = .l c x) → s ≠ .un := fun s ⟨x, _, e⟩ z => by rw [e] at z; cases z
variable {A1 B1 : Bool → Prop} {es : List Expr}
theorem pd_orG (h1 : PD S Γ k1 a cBool A1) (h2 : A1 false → PD S Γ k2 (.BoolOp .Or (b :: es) pos) cBool B1) : PD S Γ (k1 + k2) (.BoolOp .Or (a :: b :: es) pos) cBool (fun r => (r = true ∧ A1 true) ∨ (A1 false ∧ B1 r)) := pd_of (fun X G => pe_or (tE_ok G) (tE_ok G)) (td_orV h1 h2)
theorem pd_andG (h1 : PD S Γ k1 a cBool A1) (h2 : A1 true → PD S Γ k2 (.BoolOp .And (b :: es) pos) cBool B1) : PD S Γ (k1 + k2) (.BoolOp .And (a :: b :: es) pos) cBool (fun r => (r = false ∧ A1 false) ∨ (A1 true ∧ B1 r)) := pd_of (fun X G => pe_and (tE_ok G) (tE_ok G)) (td_andV h1 h2)
theorem pdw_orG (h1 : PDT S Γ k1 a A1) (h2 : A1 false → PDW S Γ k2 (.BoolOp .Or (b :: es) pos) B1) : PDW S Γ (k1 + k2) (.BoolOp .Or (a :: b :: es) pos) (fun r => (r = true ∧ A1 true) ∨ (A1 false ∧ B1 r)) := pdw_of (fun X G => pw_or (tT_ok G) (tWt_ok G)) (tt_or h1 h2)
theorem pdw_andG (h1 : PDT S Γ k1 a A1) (h2 : A1 true → PDW S Γ k2 (.BoolOp .And (b :: es) pos) B1) : PDW S Γ (k1 + k2) (.BoolOp .And (a :: b :: es) pos) (fun r => (r = false ∧ A1 false) ∨ (A1 true ∧ B1 r)) := pdw_of (fun X G => pw_and (tT_ok G) (tWt_ok G)) (tt_and h1 h2)
end
end DL

set_option Elab.async false
set_option linter.all false
set_option maxRecDepth 100000
set_option maxHeartbeats 4000000
namespace DL
open PySem PySem.Spec L2
section
variable {Γ : Ctxt} {k k1 k2 k3 : Nat} {ρ : Type} {te ta tb : TE} {tt : TT} {p : Po ρ} {R R1 : Sl → Prop}
theorem TX.le (h : TX te Γ k R) (l : k ≤ k2) : TX te Γ k2 R := fun O n σ Hf H hn S Q q => h O n σ Hf H (by omega) S Q fun v Hf' H' s r vo f st => q v Hf' H' s r vo f (st.le (by omega))
theorem hs_setX {i : Nat} (h : TX te Γ k R) (nb : NoBx Γ i) (u : ∀ s, R s → s ≠ .un) (hp : ∀ s, R s → p.N (Γ.set i s)) : HS (tAsg te (gName i)) Γ k p := fun O n σ Hf H hn S D q1 _ _ _ =>
  h O n σ Hf H hn S _ fun v Hf1 H1 s1 r1 v1 f1 S1 => q1 _ Hf1 H1 _ (hp s1 r1) ⟨S1.setX v1 (u s1 r1) (fun a e ho j' sl hj' ho' e' => S.noAd (own_fresh v1 e ho).1 j' sl hj' ho' e') (fun a z => S.fr.dom a z), bxKeep_set nb, f1.ex⟩
end
section
variable {S : Stc} {Γ : Ctxt} {k k1 k2 k3 kr : Nat} {ρ : Type} {p : Po ρ} {e a b d : Expr} {pos pos' : Pos} {rest : List Stmt} {s : Sl} {nm : Str}
theorem vo_back {Hf H Hf1 H1 Hf' H' : Hp} {M : Addr → Prop} {v : V} {x : Sl} (vo : VOk Hf' H' H1 v x) (f1 : Fr M Hf H Hf1 H1) : VOk Hf' H' H v x := by
  cases x with
  | un => trivial
  | d c x => exact vo
  | l c xs =>
    obtain ⟨a, vs, h1, h2, h3, h4, h5⟩ := vo
    exact ⟨a, vs, h1, h2, h3, f1.dom a h4, h5⟩
  | bx a => exact vo
  | r p =>
    obtain ⟨a, o, h1, h2, h3, h4, h5⟩ := vo
    exact ⟨a, o, h1, h2, h3, f1.dom a h4, h5⟩
theorem tx_of {te : TE} {R : Sl → Prop} (ht : ∀ X, Good S X → PE X e te) (h : TX te Γ k R) : TX (tE S e) Γ k R := fun O n σ Hf H hn s Q q => ⟨te, ht, h O n σ Hf H hn s Q q⟩
theorem txIf {b' : Bool} (h : PDT S Γ 0 d (· = b')) (ha : b' = true → TX (tE S a) Γ 0 (· = s)) (hb : b' = false → TX (tE S b) Γ 0 (· = s)) : TX (tE S (.IfExp d a b pos)) Γ 0 (· = s) :=
  tx_of (fun X G => pe_ifExp (tT_ok G) (tE_ok G) (tE_ok G)) fun O n σ Hf H hn st Q q => h O n σ Hf H hn st _ fun c Hf1 H1 pc f1 s1 => by
    subst pc
    cases c with
    | true =>
      rw [if_pos rfl]
      exact ha rfl O n σ Hf1 H1 hn s1 Q fun v Hf' H' x r vo f s' => q v Hf' H' x r (by subst r; exact vo_back vo f1) (f1.trans f fun _ z => .inl z) s'
    | false =>
      rw [if_neg Bool.false_ne_true]
      exact hb rfl O n σ Hf1 H1 hn s1 Q fun v Hf' H' x r vo f s' => q v Hf' H' x r (by subst r; exact vo_back vo f1) (f1.trans f fun _ z => .inl z) s'
theorem bsetX (i : Nat) (h : TX (tE S e) Γ k (· = s)) (nb : NoBx Γ i) (u : s ≠ .un) (hi : S.N[i]? = some nm) (hx : Loc S.sc nm) (hs : ∀ env : Env, env.scope = S.sc → swapsWith e (some (.Name nm pos')) pos.line env = pure false) (hf : S.fn nm = true ∨ S.sc.names.lookup nm = some .local) (hr : PHs S (Γ.set i s) k2 rest p) : PHs S Γ (k + k2) (.Assign [.Name nm pos'] e pos :: rest) p :=
  phs_cons (N1 := fun G => G = Γ.set i s) (ph_of (fun X G => ps_set (by rw [G.N]; exact G.nd) (by rw [G.N]; exact hi) (loc G hx) (tE_ok G) (hs _ G.sc) (fnOr G hf)) (hs_setX h nb (fun t e => e ▸ u) fun t e => by subst e; rfl)) fun Γ1 e => by subst e; exact hr
end
end DL

set_option Elab.async false
set_option linter.all false
set_option maxRecDepth 100000
set_option maxHeartbeats 4000000
namespace DL
open PySem PySem.Spec L2
/-! ### objects that no slot owns: frozen, changed, by hand -/
section
variable {O : Org} {Hf H H' : Hp} {σ : Stt} {Γ : Ctxt} {n : Nat} {a : Addr} {o : HO}
def NoOwn (Γ : Ctxt) : Prop := ∀ s ∈ Γ, s.own = false
theorem NoOwn.at (h : NoOwn Γ) {i : Nat} {s : Sl} (e : Γ[i]? = some s) : s.own = false := h s (List.mem_of_getElem? e)
theorem slOk_no {Hf H Hf' H' : Hp} {n : Nat} {ov : Option (Option V)} {s : Sl} (hs : s.own = false) (e : Ex Hf Hf') (h : SlOk Hf H n ov s) : SlOk Hf' H' n ov s := by
  cases s with
  | un => trivial
  | d c x => obtain ⟨v, h1, h2⟩ := h; exact ⟨v, h1, c.mono e h2⟩
  | l c xs => cases hs
  | bx a => cases hs
  | r p => cases hs
theorem Sat.reFr (S : Sat O Hf H σ Γ n) (no : NoOwn Γ) {Hf' : Hp} (ex : Ex Hf' H') (e : Ex Hf Hf') (fr : Fr O.M O.Hf O.H Hf' H') : Sat O Hf' H' σ Γ n :=
  ⟨S.len, ex, fun i s h => slOk_no (no.at h) e (S.at_ i s h), S.sep, fr, S.mine⟩
theorem Sat.fzRaw (S : Sat O Hf H σ Γ n) (no : NoOwn Γ) (h1 : Hf a = none) (h2 : H a = some o) (h3 : O.H a = none) : Sat O (upd Hf a o) H σ Γ n :=
  S.reFr no (S.ex.fix h2) (Ex.new h1) ⟨S.fr.ex.trans (Ex.new h1), S.fr.keep, fun b u e nm z => by rw [upd_ne (ne_of_none e h3)]; exact S.fr.fz b u e nm z, S.fr.dom⟩
theorem Sat.mutRaw (S : Sat O Hf H σ Γ n) (no : NoOwn Γ) (h1 : Hf a = none) (h3 : O.H a = none) : Sat O Hf (upd H a o) σ Γ n :=
  S.reFr no (S.ex.mut h1) Ex.rfl' ⟨S.fr.ex, fun b u e nm => by rw [upd_ne (ne_of_none e h3)]; exact S.fr.keep b u e nm, S.fr.fz, fun b e => by
    by_cases z : b = a
    · subst z; exact h3
    · rw [upd_ne z] at e; exact S.fr.dom b e⟩
theorem Sat.heap (S : Sat O Hf H σ Γ n) (no : NoOwn Γ) (k : Ex H H') (d : ∀ x, H' x = none → H x = none) : Sat O Hf H' σ Γ n :=
  S.reFr no (S.ex.trans k) Ex.rfl' ⟨S.fr.ex, fun b u e nm => k b u (S.fr.keep b u e nm), S.fr.fz, fun b e => S.fr.dom b (d b e)⟩
theorem NoOwn.bx (h : NoOwn Γ) (x : Addr) : ¬ Bx Γ x := fun ⟨i, e⟩ => by have := h.at e; cases this
theorem NoOwn.owns (h : NoOwn Γ) (x : Addr) : ¬ Owns σ Γ x := fun ⟨i, s, h1, h2, _⟩ => by rw [h.at h1] at h2; cases h2
theorem set_same {α : Type} : ∀ {l : List α} {i : Nat} {x : α}, l[i]? = some x → l.set i x = l
  | [], _, _, h => by simp at h
  | y :: l, 0, x, h => by simp at h; rw [h]; rfl
  | y :: l, i + 1, x, h => by
    show y :: l.set i x = y :: l
    rw [set_same (by simpa using h)]
theorem Sat.recode {α : Type} (S : Sat O Hf H σ Γ n) {i : Nat} {v : V} {c : Cod α} {x : α} (e : σ[i]? = some (some v)) (r : c.rep Hf v x) : Sat O Hf H σ (Γ.set i (.d c x)) n := by
  have := S.set (i := i) r
  rwa [set_same e] at this
end
end DL
namespace DL
open PySem PySem.Spec L2
theorem HS.run {ρ : Type} {ts : TS} {Γ : Ctxt} {p : Po ρ} {O : Org} {n : Nat} {σ : Stt} {Hf H : Hp} {D : Ends} (h : HS ts Γ 0 p) (S : Sat O Hf H σ Γ n) (hn : n + 0 ≤ LIM) (q1 : ∀ σ' Hf' H' Γ', p.N Γ' → Fin O Γ Hf Hf' H' σ' Γ' (n + 0) → D.nx σ' H') (q2 : ∀ σ' Hf' H' Γ', p.bk Γ' → Fin O Γ Hf Hf' H' σ' Γ' (n + 0) → D.bk σ' H')
    (q3 : ∀ σ' Hf' H' Γ', p.ct Γ' → Fin O Γ Hf Hf' H' σ' Γ' (n + 0) → D.ct σ' H') (q4 : ∀ v σ' Hf' H' Γ' x, p.R x → p.c.rep Hf' v x → Fin O Γ Hf Hf' H' σ' Γ' (n + 0) → D.rt v H') : ts D σ H := h O n σ Hf H hn S D q1 q2 q3 q4
theorem TDT.run {tt : TT} {Γ : Ctxt} {P : Bool → Prop} {O : Org} {n : Nat} {σ : Stt} {Hf H : Hp} {Q : Bool → Hp → Prop} (h : TDT tt Γ 0 P) (S : Sat O Hf H σ Γ n) (hn : n + 0 ≤ LIM) (q : ∀ b Hf' H', P b → Fr (Bx Γ) Hf H Hf' H' → Sat O Hf' H' σ Γ (n + 0) → Q b H') : tt σ H Q := h O n σ Hf H hn S Q q
end DL

set_option Elab.async false
set_option linter.all false
set_option maxRecDepth 100000
set_option maxHeartbeats 2000000
namespace DL
open PySem PySem.Spec L2
/-! ### a list or a tuple of the heap or of K (a default) -/
theorem Rd.ex {Hf H : Hp} {a : Addr} {u : HO} (e : Ex Hf H) (h : Rd Hf a u) : Rd H a u := by
  rcases h with h | ⟨o, h⟩
  · exact .inl (e _ _ h)
  · exact .inr ⟨o, e _ _ h⟩
theorem SqL.ex {K : PySem.W.Frag} {Hf H : Hp} {a : Addr} {vs : List V} (e : Ex Hf H) (h : SqL K Hf a vs) : SqL K H a vs := by
  rcases h with h | h
  · exact .inl (DL.Rd.ex e h)
  · exact .inr h
theorem SqT.ex {K : PySem.W.Frag} {Hf H : Hp} {a : Addr} {vs : List V} (e : Ex Hf H) (h : SqT K Hf a vs) : SqT K H a vs := by
  rcases h with h | h
  · exact .inl (DL.Rd.ex e h)
  · exact .inr h
def cSq {α : Type} (K : PySem.W.Frag) (c : Cod α) : Cod (List α) := ⟨fun H v xs => ∃ a vs, v = .ref a ∧ (SqL K H a vs ∨ SqT K H a vs) ∧ Paired (c.rep H) vs xs ∧ vs.length ≤ LB,
  fun e ⟨a, vs, h1, h2, h3, h4⟩ => ⟨a, vs, h1, h2.imp (DL.SqL.ex e) (DL.SqT.ex e), paired_mono h3 (fun _ _ z => c.mono e z), h4⟩⟩
section
variable {S : Stc} {X : Cx}
variable {Γ Γ1 Γ2 Γ3 : Ctxt} {k k1 k2 k3 kk kt ke : Nat} {A α β γ ρ : Type} {c : Cod α} {te to ti : TE} {e a b d o : Expr} {es : List Expr} {pos pos' pn pt : Pos} {K : PySem.W.Frag} {w : World} {ns : List Int}
variable {x : α} {y : β} {z : γ} {xs : List α}
theorem TD.sq {xs : List α → Prop} (h : TD te Γ k (cSeq c) xs) : TD te Γ k (cSq K c) xs := h.conv fun H v x px r => ⟨x, px, sq_seq (fun _ _ z => z) r⟩
theorem sq_sq {Hf H : Hp} {v : V} {xs : List α} (e : Ex Hf H) (h : (cSq K c).rep Hf v xs) : ∃ a vs, v = .ref a ∧ (SqL K H a vs ∨ SqT K H a vs) ∧ Paired (c.rep Hf) vs xs ∧ vs.length ≤ LB := by
  obtain ⟨a, vs, h1, h2, h3, h4⟩ := h
  exact ⟨a, vs, h1, h2.imp (DL.SqL.ex e) (DL.SqT.ex e), h3, h4⟩
theorem rc_listK {xs : List α} : RC1F (rListR K) (cSq K c) xs c (· = xs) := fun Hf H v e h Q q => by
  obtain ⟨a, vs, h1, h2, h3, h4⟩ := sq_sq e h
  exact ⟨a, vs, by rw [h1], h2, fun l hl => q l vs xs rfl hl h3 h4⟩
theorem plistK (hg : S.sc.names.lookup ("list" : Str) = some .globalImplicit) (hm : S.mg "list" = none) (h : PD S Γ 0 e (cSq S.K c) (· = xs)) (he : ∀ env : Env, starEach [e] env = (false, eval e env) :: starEach [] env) : PDF S Γ 0 (.Call (.Name "list" pn) [e] [] pos) c (· = xs) := pfy1 listG hg hm PyProof.Rows.boot_list h rc_listK he
theorem rc_setIK (hn : ns.length ≤ 1000) : RC1 (rSetI K w) (cSq K cInt) ns (cSet w) (· = asc ns) := fun Hf H v e h Q q => by
  obtain ⟨a, vs, h1, h2, h3, h4⟩ := sq_sq (K := K) e h
  have := ints_of_paired h3
  subst this
  refine ⟨a, ns, by rw [h1], h2, hn, fun l S hS hl => ?_⟩
  exact q (asc ns) (upd Hf l (SetO w l S (asc ns).length)) _ _ rfl ⟨l, S, rfl, upd_same, hS, asc_up ns, Nat.le_trans (asc_len ns) hn⟩ (Fr.new e hl) (e.both (e.back hl))
theorem psetK (hg : S.sc.names.lookup ("set" : Str) = some .globalImplicit) (hm : S.mg "set" = none) (h : PD S Γ 0 e (cSq S.K cInt) (· = ns)) (hn : ns.length ≤ 1000) (he : ∀ env : Env, starEach [e] env = (false, eval e env) :: starEach [] env) : PD S Γ 0 (.Call (.Name "set" pn) [e] [] pos) (cSet S.w) (· = asc ns) :=
  py1 setIG hg hm PyProof.Rows.boot_set h (rc_setIK hn) he
theorem sq_ty {H : Hp} {v : V} {xs : List α} (h : (cSq K c).rep H v xs) : ∃ ty, TyX K H v ty ∧ PySem.W.kitAny K ty [.type "list", .type "tuple"] = some true := by
  obtain ⟨a, vs, rfl, h2, _, _⟩ := h
  rcases h2 with h2 | h2
  · rcases h2 with (h2 | ⟨o, h2⟩) | ⟨o, its, n, h2, hc, _⟩
    · exact ⟨_, .base (.lst h2), kLT_list⟩
    · exact ⟨_, .base (.frz h2), kLT_list⟩
    · exact ⟨_, .kList h2 hc, kLT_list⟩
  · rcases h2 with (h2 | ⟨o, h2⟩) | ⟨o, its, n, h2, hc, _⟩
    · exact ⟨_, .base (.tup h2), kLT_tuple⟩
    · exact ⟨_, .fTuple h2, kLT_tuple⟩
    · exact ⟨_, .kTuple h2 hc, kLT_tuple⟩
theorem pisiLTK {p1 p2 p3 p4 : Pos} {kx : Nat} (hg : S.sc.names.lookup ("isinstance" : Str) = some .globalImplicit) (hm : S.mg "isinstance" = none) (hgl : S.sc.names.lookup ("list" : Str) = some .globalImplicit) (hml : S.mg "list" = none) (hgt : S.sc.names.lookup ("tuple" : Str) = some .globalImplicit) (hmt : S.mg "tuple" = none)
    (h : PD S Γ 0 e (cSq S.K c) (· = xs))
    (he : ∀ env : Env, starEach [e, .Tuple [.Name "list" p2, .Name "tuple" p3] kx p4] env = (false, eval e env) :: starEach [.Tuple [.Name "list" p2, .Name "tuple" p3] kx p4] env) :
    PD S Γ 0 (.Call (.Name "isinstance" p1) [e, .Tuple [.Name "list" p2, .Name "tuple" p3] kx p4] [] pos) cBool (· = true) :=
  pd_of (te := tCB (rIsiT S.K) (tCons (tE S e) (tCons (tTup (tCons (tC (.ty "list")) (tCons (tC (.ty "tuple")) tNil))) tNil))) (fun X G => by
    rw [← G.K]
    exact pe_callB call_isiT (glb G hg) (by rw [G.mg]; exact hm) (by decide +kernel) (pa_cons (tE_ok G) (pa_cons (pe_tup (pa_cons (nmTy hgl hml PyProof.Rows.boot_list (by decide) (by decide) X G) (pa_cons (nmTy hgt hmt PyProof.Rows.boot_tuple (by decide) (by decide) X G) pa_nil))) pa_nil) (he _)) (by decide) (by decide) (he _) rfl)
    fun O n σ Hf H hn s Q q => h O n σ Hf H hn s _ fun v Hf' H' y py r' f s' => by
      subst py
      refine ⟨by show 2 ≤ sizeLine; decide, fun tp htp => ?_⟩
      have r2 : (cSq S.K c).rep (upd H' tp (.tup [.ty "list", .ty "tuple"])) v y := (cSq S.K c).mono (s'.ex.trans (Ex.new htp)) r'
      obtain ⟨ty, ht, hk⟩ := sq_ty r2
      refine ⟨v, tp, [.ty "list", .ty "tuple"], ty, [.type "list", .type "tuple"], true, rfl, upd_same, .cons (.ty _) (.cons (.ty _) .nil), ht, hk, ?_⟩
      exact q _ (upd Hf' tp (.tup [.ty "list", .ty "tuple"])) _ true rfl rfl (f.trans (Fr.new (M := Bx Γ) s'.ex htp) fun _ z => .inl z) (s'.new htp)
theorem rd_inK {neg : Bool} {x : Int} {xs : List Int} : RD (rIn K neg) cInt x (cSq K cInt) xs cBool (· = if neg then !decide (x ∈ xs) else decide (x ∈ xs)) := fun Hf H v u e h1 h Q k => by
  obtain ⟨a, vs, h2, h3, h4, _⟩ := sq_sq e h
  obtain rfl := h1
  have := ints_of_paired h4
  subst this
  refine ⟨a, xs.map V.int, h2, h3, rfl, flat_ints xs, ?_⟩
  rw [inV_ints]
  exact k _ Hf H _ rfl rfl Fr.refl e
/-- walks over either -/
theorem pdi_sq {tg : Expr} {R : List α → Prop} (h : PD S Γ k e (cSq S.K c) R) : PDI S Γ k tg e c R := fun O n σ Hf H hn s Rr q => by
  obtain hh := h O n σ Hf H hn s
  refine ⟨fun σ H R => tE S e σ H fun v H1 => ∃ a, v = .ref a ∧ ((∃ vs, SqL S.K H1 a vs) ∧ R (Itl S.K a) H1 ∨ (∃ vs, SqT S.K H1 a vs) ∧ R (Itt S.K a) H1), fun X G => ?_, ?_⟩
  · refine ⟨fun pins s σ H R I w => ?_⟩
    refine thn ((tE_ok G).run pins s σ H _ I w) fun v s1 ⟨x, H1, I1, r1, a, ex, q1⟩ => ?_
    subst ex
    have hK := G.K
    rcases q1 with ⟨⟨vs, hs⟩, q1⟩ | ⟨⟨vs, hs⟩, q1⟩
    · cases r1
      rw [← hK] at hs q1
      obtain ⟨its, rv, p, hz⟩ := I1.list hs
      refine wpAny_pyIter_list p.isList ?_
      refine ⟨s1.heap.objs.size, [s1.heap.objs.size], _, _, H1, rfl, I1.kept (t' := s1.toks) fun b o e => Heap.get?_push_of_some _ e, turn_list a _, ⟨_, Heap.get?_push_size _ rfl, rfl, rfl⟩, fun b hb => ?_, q1⟩
      have e : b = s1.heap.objs.size := by simpa using hb
      subst e
      exact I1.fpOk (Nat.le_refl _) (I1.hok.fresh (Nat.le_refl _))
    · cases r1
      rw [← hK] at hs q1
      obtain ⟨its, rv, p, hz⟩ := I1.tuple hs
      refine wpAny_pyIter_tuple (show s1.heap.IsTuple a its.toArray from p) ?_
      refine ⟨s1.heap.objs.size, [s1.heap.objs.size], _, _, H1, rfl, I1.kept (t' := s1.toks) fun b o e => Heap.get?_push_of_some _ e, turn_tuple a _, ⟨_, Heap.get?_push_size _ rfl, rfl, rfl⟩, fun b hb => ?_, q1⟩
      have e : b = s1.heap.objs.size := by simpa using hb
      subst e
      exact I1.fpOk (Nat.le_refl _) (I1.hok.fresh (Nat.le_refl _))
  · refine hh _ fun v Hf' H' xs px r f s' => ?_
    obtain ⟨a, vs, h1, h2, h3, h4⟩ := r
    have hl := paired_len h3
    rcases h2 with h2 | h2
    · refine ⟨a, h1, .inl ⟨⟨vs, DL.SqL.ex s'.ex h2⟩, q _ Hf' H' xs px ?_ (by rw [← paired_len h3]; exact h4) f s'⟩⟩
      exact ⟨fun Hf2 H2 i e1 e2 hi => ⟨vs, vs[i]'(by omega), DL.SqL.ex e2 (DL.SqL.ex e1 h2), List.getElem?_eq_getElem (by omega)⟩, fun Hf2 H2 e1 e2 => ⟨vs, DL.SqL.ex e2 (DL.SqL.ex e1 h2), by omega⟩, fun Hf2 H2 i w H1 x e1 e2 hy hx => by
        obtain ⟨rfl, hy⟩ := hy
        exact ⟨Hf2, c.mono e1 (paired_get h3 (hy vs (DL.SqL.ex e2 (DL.SqL.ex e1 h2))) hx), Fr.refl, e2⟩⟩
    · refine ⟨a, h1, .inr ⟨⟨vs, DL.SqT.ex s'.ex h2⟩, q _ Hf' H' xs px ?_ (by rw [← paired_len h3]; exact h4) f s'⟩⟩
      exact ⟨fun Hf2 H2 i e1 e2 hi => ⟨vs, vs[i]'(by omega), DL.SqT.ex e2 (DL.SqT.ex e1 h2), List.getElem?_eq_getElem (by omega)⟩, fun Hf2 H2 e1 e2 => ⟨vs, DL.SqT.ex e2 (DL.SqT.ex e1 h2), by omega⟩, fun Hf2 H2 i w H1 x e1 e2 hy hx => by
        obtain ⟨rfl, hy⟩ := hy
        exact ⟨Hf2, c.mono e1 (paired_get h3 (hy vs (DL.SqT.ex e2 (DL.SqT.ex e1 h2))) hx), Fr.refl, e2⟩⟩
end
/-! ### a def with keyword-only parameters, its names given from outside -/
structure DefK (K : PySem.W.Frag) (mg : Str → Option Value) (x : Str) (st : Stmt) (kws : List (Str × V)) : Prop where
  ex : ∃ f fd, FunD K x x (defArgs st) (defBody st) (defScope st) [] kws f fd ∧ mg x = some (.ref f)
section
variable {A ρ : Type} {cr : Cod ρ}
theorem fn_DK {P : Program} {w : World} {K : PySem.W.Frag} {mg : Str → Option Value} {base : Heap} {x qual : Str} {st : Stmt} {kws : List (Str × V)} {f : Addr} {fd : FuncData} {N pn : List Str} {lv : Nat} {ps : Addr → A → Ctxt} {kf : A → Nat} {pre : A → Prop} {PR : A → ρ → Prop} (F : FunD K x qual (defArgs st) (defBody st) (defScope st) [] kws f fd) (Sc : FnScope N pn (defScope st))
    (hl : ∀ b a, (ps b a).length = pn.length) (hN : pn.length ≤ N.length) (one : ∀ b a, OneB (ps b a))
    (body : ∀ b a, pre a → PHs ⟨N, defScope st, K, mg, P, w, base, lv, fun _ => true, false⟩ (entry N (ps b a)) (kf a) (defBody st) { N := fun _ => False, bk := fun _ => False, ct := fun _ => False, c := cr, R := PR a }) :
    FnOk P w K mg base CX0 (lv + 1) f fd pn (spD ps kf pre cr PR) := by
  refine F.ok Sc (fun vs H Q E h => ?_) (fun cdv A outer s H vs Q E hr h => ?_)
  · obtain ⟨a, b, n, Hf, _, _, _, o, _⟩ := h
    rw [argsOk_len o]; exact hl b a
  · obtain ⟨a, b, n, Hf, hp, hn, ex, o, bx, q⟩ := h
    refine ⟨tSs ⟨N, defScope st, K, mg, P, w, base, lv, fun _ => true, false⟩ (defBody st), (tSs_ok (cxG hr Sc.nd)).nox, ?_⟩
    exact body_ok (by rw [hl]; exact hN) (one b a) hn ex o bx q (body b a hp)
end
end DL

set_option Elab.async false
set_option linter.all false
set_option maxRecDepth 100000
set_option maxHeartbeats 2000000
namespace DL
open PySem PySem.Spec L2
/-! ### calls of a def of two parameters and a keyword-only one -/
structure CalK (P : Program) (w : World) (K : PySem.W.Frag) (mg : Str → Option Value) (base : Heap) (x : Str) (st : Stmt) (p1 p2 p3 : Str) (dv : V) (lv : Nat) (sp : Sp) : Prop where
  ex : ∃ f fd, FunD K x x (defArgs st) (defBody st) (defScope st) [] [(p3, dv)] f fd ∧ FnOk P w K mg base CX0 lv f fd [p1, p2, p3] sp ∧ mg x = some (.ref f)
/-- how the three forms bind -/
structure KwB (x : Str) (st : Stmt) (p1 p2 p3 : Str) : Prop where
  d : ∀ (D : Addr) (doc pm : Value) (an : Option Addr) (cdv ct u1 u2 u3 : Value), KwChain D [(p3, u3)] (bindArgs (PySem.W.fnOf x x (defArgs st) (defBody st) (defScope st) .none (.ref D) doc pm an cdv ct) ⟨[u1, u2], []⟩) ([p1, p2, p3].zip [u1, u2, u3])
  n : ∀ (D : Addr) (doc pm : Value) (an : Option Addr) (cdv ct u1 u2 u3 : Value), KwChain D [(p3, u3)] (bindArgs (PySem.W.fnOf x x (defArgs st) (defBody st) (defScope st) .none (.ref D) doc pm an cdv ct) ⟨[], [p1, p2].zip [u1, u2]⟩) ([p1, p2, p3].zip [u1, u2, u3])
  k : ∀ (D : Addr) (doc pm : Value) (an : Option Addr) (cdv ct u1 u2 u3 : Value), KwChain D [] (bindArgs (PySem.W.fnOf x x (defArgs st) (defBody st) (defScope st) .none (.ref D) doc pm an cdv ct) ⟨[u1, u2], [p3].zip [u3]⟩) ([p1, p2, p3].zip [u1, u2, u3])
def tCallN0 (m : Nat) (sp : Sp) (gV : List V → List V → List V) (E : XK) (tk : TA) : TE := fun σ H Q => tk σ H fun zs H2 => zs.length = m ∧ sp (gV [] zs) H2 Q E
theorem pe_callN0 {X : Cx} {CX : CXT} {k : Nat} {f : Addr} {fd : FuncData} {ps ks : List Str} {sp : Sp} {E : XK} {x : Str} {p pos : Pos} {kws : List Keyword} {tk : TA} {g : List Value → List Value → List Value} {gV : List V → List V → List V}
    (F : FnOk X.prog X.w X.K X.mg X.base CX k f fd ps sp) (hr : Room k X.A) (hg : Gl X x) (hm : X.mg x = some (.ref f)) (hk : PySem.W.keepIn X.K (.ref f) = true) (hb : KBn X.K fd ps 0 ks g gV) (hx : Passes CX X E)
    (hkw : PK X kws tk) (hall : (backToKw pos (keywordEach kws X.env)).all (·.1.isSome) = true) (hks : (backToKw pos (keywordEach kws X.env)).filterMap (·.1) = ks)
    (hdb : (x == ("__debug__" : Str)) = false)
    (hpl : ((backTo pos (starEach [] X.env)).any (·.1) || (backToKw pos (keywordEach kws X.env)).any (·.1.isNone)) = false) :
    PE X (.Call (.Name x p) [] kws pos) (tCallN0 ks.length sp gV E tk) := by
  refine ⟨fun pins s σ H Q I h => ?_⟩
  refine wpAny_Call_Name_kw (ld_glob I hg hm ?_ hdb)
  refine PySem.W.callWith_KW0 (h₀ := X.base) I.ok.mod.kin hk hall ?_ hpl
  refine thn (hkw.run pos pins s σ H _ I h) fun ws s2 ⟨zs, H2, I2, rz, l2, q2⟩ => ⟨I2.kIn, ?_⟩
  rw [hks]
  exact run_fnN (us := []) (vs := []) F hr hb hx I2 .nil rz rfl l2 q2
section
variable {S : Stc} {Γ : Ctxt} {α β γ ρ : Type} {c1 : Cod α} {c2 : Cod β} {c3 : Cod γ} {cr : Cod ρ} {x : α} {y : β} {z : γ} {pre : α × β × γ → Prop} {g : α × β × γ → ρ} {e1 e2 e3 : Expr} {pos pn k1 k2 : Pos} {xn p1 p2 p3 : Str} {st : Stmt} {dv : V} {lv : Nat} {t1 t2 t3 : TE} {E : XK}
abbrev sp3 (c1 : Cod α) (c2 : Cod β) (c3 : Cod γ) (pre : α × β × γ → Prop) (cr : Cod ρ) (g : α × β × γ → ρ) : Sp := spP (fun (a : α × β × γ) => [.d c1 a.1, .d c2 a.2.1, .d c3 a.2.2]) pre cr g
theorem sp3_of {O : Org} {n : Nat} {σ : Stt} {Hf H Hf1 H1 : Hp} {Q : V → Hp → Prop} {v1 v2 v3 : V} (hp : pre (x, y, z)) (hn : n + 0 ≤ LIM) (r1 : c1.rep Hf1 v1 x) (r2 : c2.rep Hf1 v2 y) (r3 : c3.rep Hf1 v3 z) (f : Fr (Bx Γ) Hf H Hf1 H1) (s : Sat O Hf1 H1 σ Γ (n + 0))
    (q : ∀ v Hf' H' w, w = g (x, y, z) → cr.rep Hf' v w → Fr (Bx Γ) Hf H Hf' H' → Sat O Hf' H' σ Γ (n + 0) → Q v H') : sp3 c1 c2 c3 pre cr g [v1, v2, v3] H1 Q E := by
  refine ⟨(x, y, z), 0, n, Hf1, hp, hn, s.ex, ⟨r1, r2, r3, trivial⟩, fun w hw => by simp at hw, fun w Hf3 H3 u px r f3 ex3 _ => ?_⟩
  have f3' : Fr (fun _ => False) Hf1 H1 Hf3 H3 := f3.mono fun w hw => by simp at hw
  exact q w Hf3 H3 u px r (f.trans f3' fun _ z => z.elim) (s.grow0 f3' ex3)
/-- f(e1, e2): the keyword-only one lacks -/
theorem pck0 (C : CalK S.prog S.w S.K S.mg S.base xn st p1 p2 p3 dv lv (sp3 c1 c2 c3 pre cr g)) (B : KwB xn st p1 p2 p3) (hl : lv ≤ S.lv) (hg : S.sc.names.lookup xn = some .globalImplicit) (h1 : PD S Γ 0 e1 c1 (· = x)) (h2 : PD S Γ 0 e2 c2 (· = y)) (hz : ∀ H, c3.rep H dv z) (hp : pre (x, y, z))
    (hs1 : ∀ env : Env, starEach [e1, e2] env = (false, eval e1 env) :: starEach [e2] env) (hs2 : ∀ env : Env, starEach [e2] env = (false, eval e2 env) :: starEach [] env) (hpl : ∀ env : Env, (backTo pos (starEach [e2] env)).any (·.1) = false) (hdb : (xn == ("__debug__" : Str)) = false := by decide) :
    PD S Γ 0 (.Call (.Name xn pn) [e1, e2] [] pos) cr (· = g (x, y, z)) := by
  obtain ⟨f, fd, F, Fo, hm⟩ := C.ex
  obtain ⟨ds, vd, bd⟩ := F.binds0 2 (by simp) rfl fun D doc pm an cdv ct us ks l1 l2 => match us, ks, l1, l2 with
    | [u1, u2], [u3], _, _ => B.d D doc pm an cdv ct u1 u2 u3
  exact pd_of (te := tCall (sp3 c1 c2 c3 pre cr g) [dv] E0 (tCons (tE S e1) (tCons (tE S e2) tNil))) (fun X G => pe_call (fnG Fo G) (G.room.mono hl) (glb G hg) (by rw [G.mg]; exact hm) (by rw [G.K]; exact F.kp) (by rw [G.K]; exact bd) vd pass0 (pa_cons (tE_ok G) (pa_cons (tE_ok G) pa_nil (hs2 _)) (hs1 _)) hdb (hs1 _) (hpl _))
    fun O n σ Hf H hn s Q q => h1 O n σ Hf H hn s _ fun v1 Hf1 H1 x' px r1 f1 s1 => by
      subst px
      refine h2 O n σ Hf1 H1 hn s1 _ fun v2 Hf2 H2 y' py r2 f2 s2 => ?_
      subst py
      exact sp3_of (E := E0) hp hn (c1.mono f2.ex r1) r2 (hz _) (f1.trans f2 fun _ z => .inl z) s2 q
/-- f(p1 = e1, p2 = e2) -/
theorem pckN (C : CalK S.prog S.w S.K S.mg S.base xn st p1 p2 p3 dv lv (sp3 c1 c2 c3 pre cr g)) (B : KwB xn st p1 p2 p3) (hl : lv ≤ S.lv) (hg : S.sc.names.lookup xn = some .globalImplicit) (h1 : PD S Γ 0 e1 c1 (· = x)) (h2 : PD S Γ 0 e2 c2 (· = y)) (hz : ∀ H, c3.rep H dv z) (hp : pre (x, y, z))
    (hall : ∀ env : Env, (backToKw pos (keywordEach [⟨some p1, e1, k1⟩, ⟨some p2, e2, k2⟩] env)).all (·.1.isSome) = true) (hks : ∀ env : Env, (backToKw pos (keywordEach [⟨some p1, e1, k1⟩, ⟨some p2, e2, k2⟩] env)).filterMap (·.1) = [p1, p2])
    (hpl : ∀ env : Env, ((backTo pos (starEach [] env)).any (·.1) || (backToKw pos (keywordEach [⟨some p1, e1, k1⟩, ⟨some p2, e2, k2⟩] env)).any (·.1.isNone)) = false) (hdb : (xn == ("__debug__" : Str)) = false := by decide) :
    PD S Γ 0 (.Call (.Name xn pn) [] [⟨some p1, e1, k1⟩, ⟨some p2, e2, k2⟩] pos) cr (· = g (x, y, z)) := by
  obtain ⟨f, fd, F, Fo, hm⟩ := C.ex
  obtain ⟨mv, bd⟩ := F.kbinds0 0 [p1, p2] [(p3, dv)] (fun us mv ws => us ++ (ws ++ mv)) (by simp) (fun q h => h) (fun r1 r2 r3 => r1.append (r3.append r2)) fun D doc pm an cdv ct us mv ws l1 l2 l3 => match us, mv, ws, l1, l2, l3 with
    | [], [u3], [u1, u2], _, _, _ => B.n D doc pm an cdv ct u1 u2 u3
  exact pd_of (te := tCallN0 2 (sp3 c1 c2 c3 pre cr g) _ E0 (tCons (tE S e1) (tCons (tE S e2) tNil))) (fun X G => pe_callN0 (fnG Fo G) (G.room.mono hl) (glb G hg) (by rw [G.mg]; exact hm) (by rw [G.K]; exact F.kp) (by rw [G.K]; exact bd) pass0 (pk_cons (tE_ok G) (pk_cons (tE_ok G) pk_nil)) (hall _) (hks _) hdb (hpl _))
    fun O n σ Hf H hn s Q q => h1 O n σ Hf H hn s _ fun v1 Hf1 H1 x' px r1 f1 s1 => by
      subst px
      refine h2 O n σ Hf1 H1 hn s1 _ fun v2 Hf2 H2 y' py r2 f2 s2 => ?_
      subst py
      exact ⟨rfl, sp3_of (E := E0) hp hn (c1.mono f2.ex r1) r2 (hz _) (f1.trans f2 fun _ z => .inl z) s2 q⟩
/-- f(e1, e2, p3 = e3) -/
theorem pckK (C : CalK S.prog S.w S.K S.mg S.base xn st p1 p2 p3 dv lv (sp3 c1 c2 c3 pre cr g)) (B : KwB xn st p1 p2 p3) (hl : lv ≤ S.lv) (hg : S.sc.names.lookup xn = some .globalImplicit) (h1 : PD S Γ 0 e1 c1 (· = x)) (h2 : PD S Γ 0 e2 c2 (· = y)) (h3 : PD S Γ 0 e3 c3 (· = z)) (hp : pre (x, y, z))
    (hs1 : ∀ env : Env, starEach [e1, e2] env = (false, eval e1 env) :: starEach [e2] env) (hs2 : ∀ env : Env, starEach [e2] env = (false, eval e2 env) :: starEach [] env)
    (hall : ∀ env : Env, (backToKw pos (keywordEach [⟨some p3, e3, k1⟩] env)).all (·.1.isSome) = true) (hks : ∀ env : Env, (backToKw pos (keywordEach [⟨some p3, e3, k1⟩] env)).filterMap (·.1) = [p3])
    (hpl : ∀ env : Env, ((backTo pos (starEach [e1, e2] env)).any (·.1) || (backToKw pos (keywordEach [⟨some p3, e3, k1⟩] env)).any (·.1.isNone)) = false) (hdb : (xn == ("__debug__" : Str)) = false := by decide) :
    PD S Γ 0 (.Call (.Name xn pn) [e1, e2] [⟨some p3, e3, k1⟩] pos) cr (· = g (x, y, z)) := by
  obtain ⟨f, fd, F, Fo, hm⟩ := C.ex
  obtain ⟨mv, bd⟩ := F.kbinds0 2 [p3] [] (fun us mv ws => us ++ (ws ++ mv)) (by simp) (fun q h => nomatch h) (fun r1 r2 r3 => r1.append (r3.append r2)) fun D doc pm an cdv ct us mv ws l1 l2 l3 => match us, mv, ws, l1, l2, l3 with
    | [u1, u2], [], [u3], _, _, _ => B.k D doc pm an cdv ct u1 u2 u3
  exact pd_of (te := tCallN 2 1 (sp3 c1 c2 c3 pre cr g) _ E0 (tCons (tE S e1) (tCons (tE S e2) tNil)) (tCons (tE S e3) tNil)) (fun X G => pe_callN (fnG Fo G) (G.room.mono hl) (glb G hg) (by rw [G.mg]; exact hm) (by rw [G.K]; exact F.kp) (by rw [G.K]; exact bd) pass0 (pa_cons (tE_ok G) (pa_cons (tE_ok G) pa_nil (hs2 _)) (hs1 _)) (pk_cons (tE_ok G) pk_nil) (hall _) (hks _) hdb (hs1 _) (hpl _))
    fun O n σ Hf H hn s Q q => h1 O n σ Hf H hn s _ fun v1 Hf1 H1 x' px r1 f1 s1 => by
      subst px
      refine h2 O n σ Hf1 H1 hn s1 _ fun v2 Hf2 H2 y' py r2 f2 s2 => ?_
      subst py
      refine h3 O n σ Hf2 H2 hn s2 _ fun v3 Hf3 H3 z' pz r3 f3 s3 => ?_
      subst pz
      exact ⟨rfl, rfl, sp3_of (E := E0) hp hn (c1.mono (f2.ex.trans f3.ex) r1) (c2.mono f3.ex r2) r3 ((f1.trans f2 fun _ z => .inl z).trans f3 fun _ z => .inl z) s3 q⟩
end
end DL

set_option Elab.async false
set_option linter.all false
set_option maxRecDepth 100000
set_option maxHeartbeats 4000000
namespace K04
open PySem PySem.Spec L2 DL
def top (i : Nat) : Stmt := PySem.Challenge.pw_dealbook_k04_changes_behind_one_another.main.body.getD i (.Pass ⟨0, 0, 0, 0⟩)
/-- what the built-in names are in a module -/
structure Bt (mg : Str → Option Value) : Prop where
  len : mg "len" = none
  list : mg "list" = none
  tuple : mg "tuple" = none
  sorted : mg "sorted" = none
  set : mg "set" = none
  range : mg "range" = none
  isinstance : mg "isinstance" = none
  all : mg "all" = none
  int : mg "int" = none
  bool : mg "bool" = none
section
variable {P : Program} {w : World} {K : PySem.W.Frag} {mg : Str → Option Value} {base : Heap}
variable (U : Bt mg)
include U
theorem c_is_list {α : Type} {c : Cod α} (D : Def K mg "is_list" (top 9)) : Cal P w K mg base "is_list" ["value"] 1 (spP (fun (a : List α) => [.d (cSeq c) a]) (fun _ => True) cBool (fun _ => true)) := by
  refine cal_D (N := ["value"]) D (fun _ _ _ _ _ _ us hl => match us, hl with | [_], _ => rfl) ⟨rfl, rfl, rfl, by decide +kernel, rfl, by decide +kernel, by decide +kernel⟩ (fun _ _ => rfl) (by decide) (fun _ _ => trivial) fun b a hp => ?_
  exact bret (pisiLTs rfl U.isinstance rfl U.list rfl U.tuple (pd_name (i := 0) rfl rfl (.inl rfl)) (fun _ => rfl)) fun _ h => h
theorem c_is_integer (D : Def K mg "is_integer" (top 10)) : Cal P w K mg base "is_integer" ["value"] 1 (spP (fun (a : Int) => [.d cInt a]) (fun _ => True) cBool (fun _ => true)) := by
  refine cal_D (N := ["value"]) D (fun _ _ _ _ _ _ us hl => match us, hl with | [_], _ => rfl) ⟨rfl, rfl, rfl, by decide +kernel, rfl, by decide +kernel, by decide +kernel⟩ (fun _ _ => rfl) (by decide) (fun _ _ => trivial) fun b a hp => ?_
  exact bret (pand (pisi rfl U.isinstance (pd_name (i := 0) rfl rfl (.inl rfl)) (nmTy rfl U.int PyProof.Rows.boot_int) (.ty _) ty_int (r := true) (kit_ty (by decide +kernel)) (fun _ => rfl)) fun _ => (pd_one (pd_not (pisi rfl U.isinstance (pd_name (i := 0) rfl rfl (.inl rfl)) (nmTy rfl U.bool PyProof.Rows.boot_bool) (.ty _) ty_int (r := false) (kit_ty (by decide +kernel)) (fun _ => rfl))))) fun _ h => h
theorem c_is_index (D : Def K mg "is_index" (top 11)) (C_is_integer : Cal P w K mg base "is_integer" ["value"] 1 (spP (fun (a : Int) => [.d cInt a]) (fun _ => True) cBool (fun _ => true))) :
    Cal P w K mg base "is_index" ["value", "many"] 2 (spP (fun (a : Int × Int) => [.d cInt a.1, .d cInt a.2]) (fun _ => True) cBool (fun a => decide (0 ≤ a.1 ∧ a.1 < a.2))) := by
  refine cal_D (N := ["value", "many"]) D (fun _ _ _ _ _ _ us hl => match us, hl with | [_, _], _ => rfl) ⟨rfl, rfl, rfl, by decide +kernel, rfl, by decide +kernel, by decide +kernel⟩ (fun _ _ => rfl) (by decide) (fun _ _ => trivial) fun b a hp => ?_
  exact bret (pand (pcal1 C_is_integer (show (1 : Nat) ≤ 1 by decide) rfl (pd_name (i := 0) rfl rfl (.inl rfl)) trivial (fun _ => rfl) (fun _ => rfl)) fun _ => (pd_one (pchain (fun _ => op_le) (fun _ => op_lt) pd_int (pd_name (i := 0) rfl rfl (.inl rfl)) (pd_name (i := 1) rfl rfl (.inl rfl)) rfl))) fun _ h => h.trans (by simp)
abbrev P_is_list : Sp := spP (fun (a : List Int) => [.d (cSeq cInt) a]) (fun _ => True) cBool (fun _ => true)
abbrev P_is_index : Sp := spP (fun (a : Int × Int) => [.d cInt a.1, .d cInt a.2]) (fun _ => True) cBool (fun a => decide (0 ≤ a.1 ∧ a.1 < a.2))
theorem c_are_numbers (D : Def K mg "are_numbers" (top 12)) (C_is_list : Cal P w K mg base "is_list" ["value"] 1 P_is_list) (C_is_index : Cal P w K mg base "is_index" ["value", "many"] 2 P_is_index) :
    Cal P w K mg base "are_numbers" ["value", "many"] 3 (spP (fun (a : List Int × Int) => [.d (cSeq cInt) a.1, .d cInt a.2]) (fun _ => True) cBool (fun a => (a.1.map fun x => decide (0 ≤ x ∧ x < a.2)).all id)) := by
  refine cal_D (N := ["value", "many", "item"]) D (fun _ _ _ _ _ _ us hl => match us, hl with | [_, _], _ => rfl) ⟨rfl, rfl, rfl, by decide +kernel, rfl, by decide +kernel, by decide +kernel⟩ (fun _ _ => rfl) (by decide) (fun _ _ => trivial) fun b a hp => ?_
  refine bret (pand (pcal1 C_is_list (show (1 : Nat) ≤ 2 by decide) rfl (pd_name (i := 0) rfl rfl (.inl rfl)) trivial (fun _ => rfl) (fun _ => rfl)) fun _ => (pd_one (pall rfl U.all (TDF.td (plcN [("item", 2)] (pdi_seq (pd_name (i := 0) rfl rfl (.inl rfl))) trivial (by kernel_rfl) (fun _ _ => rfl) fun _ _ => ⟨_, _, (pdg_name (i := 2) trivial rfl (.inl rfl) (.inr rfl)), (fun _ h => h), (pcal2 C_is_index (show (2 : Nat) ≤ 2 by decide) rfl (pd_name (i := 2) rfl rfl (.inl rfl)) (pd_name (i := 1) rfl rfl (.inr (.inl rfl))) trivial (fun _ => rfl) (fun _ => rfl) (fun _ => rfl))⟩)) (fun _ => rfl)))) ?_
  exact fun _ h => h.trans (by simp)
def Up (a : List Int × Int) : Prop := a.1.Pairwise (· < ·) ∧ (∀ x ∈ a.1, 0 ≤ x ∧ x < a.2) ∧ a.1.length < 64
theorem c_is_lot (D : Def K mg "is_lot" (top 13)) (C_are_numbers : Cal P w K mg base "are_numbers" ["value", "many"] 3 (spP (fun (a : List Int × Int) => [.d (cSeq cInt) a.1, .d cInt a.2]) (fun _ => True) cBool (fun a => (a.1.map fun x => decide (0 ≤ x ∧ x < a.2)).all id))) :
    Cal P w K mg base "is_lot" ["value", "many"] 4 (spP (fun (a : List Int × Int) => [.d (cSeq cInt) a.1, .d cInt a.2]) Up cBool (fun a => true)) := by
  refine cal_D (N := ["value", "many"]) D (fun _ _ _ _ _ _ us hl => match us, hl with | [_, _], _ => rfl) ⟨rfl, rfl, rfl, by decide +kernel, rfl, by decide +kernel, by decide +kernel⟩ (fun _ _ => rfl) (by decide) (fun _ _ => trivial) fun b a hp => ?_
  refine bret (pand (pcal2 C_are_numbers (show (3 : Nat) ≤ 3 by decide) rfl (pd_name (i := 0) rfl rfl (.inl rfl)) (pd_name (i := 1) rfl rfl (.inl rfl)) trivial (fun _ => rfl) (fun _ => rfl) (fun _ => rfl)) fun _ => (pd_one (pcmp (op_eqDG rfl) (TDF.td (plist rfl U.list (pd_name (i := 0) rfl rfl (.inl rfl)) (fun _ => rfl))) (TDF.td (psortSet rfl U.sorted (pset rfl U.set (pd_name (i := 0) rfl rfl (.inl rfl)) ?_ (fun _ => rfl)) ?_ (fun _ => rfl))) (rd_eqD (eList eInt) (by decide)) (nomark _)))) ?_
  · have := hp.2.2; omega
  · have := asc_len a.1; have := hp.2.2; omega
  · intro x h
    refine h.trans ?_
    have h1 : asc a.1 = a.1 := asc_self hp.1
    rw [h1]
    simp only [decide_true, Bool.and_true, List.all_map, List.all_eq_true]
    intro y hy
    exact decide_eq_true (hp.2.1 y hy)
theorem c_are_places (D : Def K mg "are_places" (top 14)) (C_is_lot : Cal P w K mg base "is_lot" ["value", "many"] 4 (spP (fun (a : List Int × Int) => [.d (cSeq cInt) a.1, .d cInt a.2]) Up cBool (fun a => true))) :
    Cal P w K mg base "are_places" ["value", "many"] 5 (spP (fun (a : List Int × Int) => [.d (cSeq cInt) a.1, .d cInt a.2]) Up cBool (fun a => true)) := by
  refine cal_D (N := ["value", "many"]) D (fun _ _ _ _ _ _ us hl => match us, hl with | [_, _], _ => rfl) ⟨rfl, rfl, rfl, by decide +kernel, rfl, by decide +kernel, by decide +kernel⟩ (fun _ _ => rfl) (by decide) (fun _ _ => trivial) fun b a hp => ?_
  refine bret (pcal2 C_is_lot (show (4 : Nat) ≤ 4 by decide) rfl (pd_name (i := 0) rfl rfl (.inl rfl)) (pd_name (i := 1) rfl rfl (.inl rfl)) ?_ (fun _ => rfl) (fun _ => rfl) (fun _ => rfl)) ?_
  · exact hp
  · exact fun _ h => h
/-- the package's constants -/
structure Ko (mg : Str → Option Value) : Prop where
  places : ∃ t, mg "MOST_PLACES" = some (.int 8 t)
  wordings : ∃ t, mg "MOST_WORDINGS" = some (.int 6 t)
abbrev rowOk (r : R3) : Bool := decide (0 ≤ r.1 ∧ r.1 < 8) && (decide (0 ≤ r.2.1 ∧ r.2.1 < 6) && decide (0 ≤ r.2.2 ∧ r.2.2 < 6))
theorem c_is_row (D : Def K mg "is_row" (top 18)) (T0 : Ko mg) (C_is_index : Cal P w K mg base "is_index" ["value", "many"] 2 P_is_index) :
    Cal P w K mg base "is_row" ["value"] 3 (spP (fun (a : R3) => [.d cI3 a]) (fun _ => True) cBool rowOk) := by
  refine cal_D (N := ["value", "place", "old", "new"]) D (fun _ _ _ _ _ _ us hl => match us, hl with | [_], _ => rfl) ⟨rfl, rfl, rfl, by decide +kernel, rfl, by decide +kernel, by decide +kernel⟩ (fun _ _ => rfl) (by decide) (fun _ _ => trivial) fun b a hp => ?_
  obtain ⟨_, Tplaces⟩ := T0.places
  obtain ⟨_, Twordings⟩ := T0.wordings
  refine bifR (k1 := 0) (k2 := 0) (k3 := 0) (pdt_w (tor (pdt_not (pdt_val (pisi rfl U.isinstance (pd_name (i := 0) rfl rfl (.inl rfl)) (nmTy rfl U.tuple PyProof.Rows.boot_tuple) (.ty _) ty_t3 (r := true) (kit_ty (by decide +kernel)) (fun _ => rfl)) (fun _ _ => rfl))) fun _ => (pdw_or1 (tcmp (fun _ _ => op_ne) (plen3 rfl U.len (pd_name (i := 0) rfl rfl (.inl rfl)) (fun _ => rfl)) pd_int rd_neI (nomark _))))) (fun h => ?_) fun h => ?_
  · -- return False
    refine bret pd_bool ?_
    simp at h
  refine bunpack (k := 0) (kr := 0) (pd_name (i := 0) rfl rfl (.inl rfl)) (pdg_t3 (pdg_name (i := 1) trivial rfl (.inl rfl) (.inl rfl)) (pdg_name (i := 2) trivial rfl (.inl rfl) (.inl rfl)) (pdg_name (i := 3) trivial rfl (.inl rfl) (.inl rfl)) (fun _ => rfl) (fun _ => rfl) (fun _ => rfl) (fun _ => rfl) (fun _ => rfl)) (fun _ => rfl) (fun _ => rfl) (fun _ => rfl) ?_
  refine bret (pand (pcal2 C_is_index (show (2 : Nat) ≤ 2 by decide) rfl (pd_name (i := 1) rfl rfl (.inl rfl)) (pd_glob rfl (v := .int 8) (c := cInt) (y := 8) Tplaces ⟨_, rfl⟩ (fun _ => rfl)) trivial (fun _ => rfl) (fun _ => rfl) (fun _ => rfl)) fun _ => (pand (pcal2 C_is_index (show (2 : Nat) ≤ 2 by decide) rfl (pd_name (i := 2) rfl rfl (.inl rfl)) (pd_glob rfl (v := .int 6) (c := cInt) (y := 6) Twordings ⟨_, rfl⟩ (fun _ => rfl)) trivial (fun _ => rfl) (fun _ => rfl) (fun _ => rfl)) fun _ => (pd_one (pcal2 C_is_index (show (2 : Nat) ≤ 2 by decide) rfl (pd_name (i := 3) rfl rfl (.inl rfl)) (pd_glob rfl (v := .int 6) (c := cInt) (y := 6) Twordings ⟨_, rfl⟩ (fun _ => rfl)) trivial (fun _ => rfl) (fun _ => rfl) (fun _ => rfl))))) ?_
  exact fun _ h => h

def Rows (rs : List R3) : Prop := (∀ r ∈ rs, rowOk r = true) ∧ (rs.map (·.1)).Nodup ∧ rs.length ≤ 8
theorem c_are_rows (D : Def K mg "are_rows" (top 19)) (C_is_list : Cal P w K mg base "is_list" ["value"] 1 (spP (fun (a : List R3) => [.d (cSeq cI3) a]) (fun _ => True) cBool (fun _ => true))) (C_is_row : Cal P w K mg base "is_row" ["value"] 3 (spP (fun (a : R3) => [.d cI3 a]) (fun _ => True) cBool rowOk)) :
    Cal P w K mg base "are_rows" ["value"] 4 (spP (fun (a : List R3) => [.d (cList cI3) a]) Rows cBool (fun _ => true)) := by
  refine cal_D (N := ["value", "row"]) D (fun _ _ _ _ _ _ us hl => match us, hl with | [_], _ => rfl) ⟨rfl, rfl, rfl, by decide +kernel, rfl, by decide +kernel, by decide +kernel⟩ (fun _ _ => rfl) (by decide) (fun _ _ => trivial) fun b a hp => ?_
  refine bifR (k1 := 0) (k2 := 0) (k3 := 0) (pdt_w (tor (pdt_not (pdt_val (pcal1 C_is_list (show (1 : Nat) ≤ 3 by decide) rfl (TD.seqL (pd_name (i := 0) rfl rfl (.inl rfl))) trivial (fun _ => rfl) (fun _ => rfl)) (fun _ _ => rfl))) fun _ => (pdw_or1 (pdt_not (pdt_val (pall rfl U.all (TDF.td (plcN [("row", 1)] (pdi_list (pd_name (i := 0) rfl rfl (.inl rfl))) trivial (by kernel_rfl) (fun _ _ => rfl) fun _ _ => ⟨_, _, (pdg_name (i := 1) trivial rfl (.inl rfl) (.inr rfl)), (fun _ h => h), (pcal1 C_is_row (show (3 : Nat) ≤ 3 by decide) rfl (pd_name (i := 1) rfl rfl (.inl rfl)) trivial (fun _ => rfl) (fun _ => rfl))⟩)) (fun _ => rfl)) (fun _ _ => rfl)))))) (fun h => ?_) fun h => ?_
  · -- return False
    exfalso
    have h1 : ((a.map rowOk).all id) = true := by
      rw [List.all_map, List.all_eq_true]; exact hp.1
    rw [show (true : Bool) = true from rfl] at h
    simp only [h1] at h
    exact absurd h (by decide)
  refine bret (pcmp (fun _ _ => op_eq) (plenSet rfl U.len (pscN [("row", 1)] (pdi_list (pd_name (i := 0) rfl rfl (.inl rfl))) trivial ?_ (by kernel_rfl) (fun _ _ => rfl) fun _ _ => ⟨_, _, (pdg_name (i := 1) trivial rfl (.inl rfl) (.inr rfl)), (fun _ h => h), (pix ixTG (pd_name (i := 1) rfl rfl (.inl rfl)) pd_int rd_ix3_0 (fun _ _ => rfl))⟩) (fun _ => rfl)) (plen rfl U.len (TD.seqL (pd_name (i := 0) rfl rfl (.inl rfl))) (fun _ => rfl)) rd_eqI (nomark _)) ?_
  · have := hp.2.2; omega
  · intro x h
    refine h.trans ?_
    have h1 : (asc (a.map fun r => r.1)).length = (a.map fun r => r.1).length := card_ext (up_nodup (asc_up _)) hp.2.1 fun k => mem_asc
    rw [h1, List.length_map]; exact decide_eq_true rfl
end
end K04

set_option Elab.async false
set_option linter.all false
set_option maxRecDepth 100000
set_option maxHeartbeats 4000000
namespace K04
open PySem PySem.Spec L2 DL
/-! ### the law's own plain functions -/
abbrev atT (word : List Int) (i : Int) : Int := word.getD i.toNat default
def missL (rs : List R3) (word : List Int) : List R3 := rs.filter fun r => !decide (atT word r.1 = r.2.1)
def doneL (rs : List R3) (word : List Int) : List Int := rs.foldl (fun w r => w.set r.1.toNat r.2.2) word
theorem doneL_snoc (rs : List R3) (r : R3) (word : List Int) : doneL (rs ++ [r]) word = (doneL rs word).set r.1.toNat r.2.2 := by unfold doneL; rw [List.foldl_append]; rfl
theorem doneL_len (rs : List R3) : ∀ word : List Int, (doneL rs word).length = word.length := by
  induction rs with
  | nil => intro w; rfl
  | cons r rs ih => intro w; show (doneL rs (w.set r.1.toNat r.2.2)).length = _; rw [ih, List.length_set]
def clashL (first last : List R3) : List Int := first.flatMap fun x => (last.filter fun r => decide (r.1 = x.1) && !decide (r.2.1 = x.2.2)).map (·.1)
theorem clashL_snoc (pre : List R3) (x : R3) (last : List R3) : clashL (pre ++ [x]) last = clashL pre last ++ (last.filter fun r => decide (r.1 = x.1) && !decide (r.2.1 = x.2.2)).map (·.1) := by unfold clashL; rw [List.flatMap_append]; simp
theorem clashL_len (last : List R3) : ∀ first : List R3, (clashL first last).length ≤ first.length * last.length
  | [] => by simp [clashL]
  | x :: first => by
    have h1 : clashL (x :: first) last = (last.filter fun r => decide (r.1 = x.1) && !decide (r.2.1 = x.2.2)).map (·.1) ++ clashL first last := by unfold clashL; rw [List.flatMap_cons]
    rw [h1, List.length_append, List.length_map, List.length_cons, Nat.succ_mul]
    have := clashL_len last first
    have := List.length_filter_le (fun r : R3 => decide (r.1 = x.1) && !decide (r.2.1 = x.2.2)) last
    omega
def newsL (last : List R3) (x : R3) : List Int := (last.filter fun r => decide (r.1 = x.1)).map (·.2.2)
def thenRow (last : List R3) (x : R3) : R3 := (x.1, x.2.1, if (!decide (newsL last x = [])) = true then (newsL last x).getD (0 : Int).toNat default else x.2.2)
def thenL (first last : List R3) : List R3 := sort3 (first.map (thenRow last) ++ last.filter fun r => !decide (r.1 ∈ first.map (·.1)))
/-- rows at places of a text -/
def In8 (rs : List R3) : Prop := ∀ r ∈ rs, 0 ≤ r.1 ∧ r.1 < 8
section
variable {P : Program} {w : World} {K : PySem.W.Frag} {mg : Str → Option Value} {base : Heap}
variable (U : Bt mg)
include U
abbrev P_fits : Sp := spP (fun (a : List R3 × List Int) => [.d (cList cI3) a.1, .d (cTup cInt) a.2]) (fun a => In8 a.1 ∧ a.2.length = 8) cBool (fun a => decide (missL a.1 a.2 = []))
theorem c_fits (D : Def K mg "_law_fits" (top 30)) : Cal P w K mg base "_law_fits" ["triples", "word"] 1 P_fits := by
  refine cal_D (N := ["triples", "word", "row"]) D (fun _ _ _ _ _ _ us hl => match us, hl with | [_, _], _ => rfl) ⟨rfl, rfl, rfl, by decide +kernel, rfl, by decide +kernel, by decide +kernel⟩ (fun _ _ => rfl) (by decide) (fun _ _ => trivial) fun b a hp => ?_
  refine bret (pcmp (op_eqDG rfl) (TDF.td (plcT [("row", 2)] (pdi_list (pd_name (i := 0) rfl rfl (.inl rfl))) trivial (by kernel_rfl) (fun _ _ => rfl) fun x hx => ⟨_, _, (pdg_name (i := 2) trivial rfl (.inl rfl) (.inr rfl)), (fun _ h => h), (tts_one (tcmp (fun _ _ => op_ne) (pix ixTG (pd_name (i := 1) rfl rfl (.inr (.inl rfl))) (pix ixTG (pd_name (i := 2) rfl rfl (.inl rfl)) pd_int rd_ix3_0 (fun _ _ => rfl)) (rd_ixTd ?_) (fun _ _ => rfl)) (pix ixTG (pd_name (i := 2) rfl rfl (.inl rfl)) pd_int rd_ix3_1 (fun _ _ => rfl)) rd_neI (nomark _))), fun hq => (pd_name (i := 2) rfl rfl (.inl rfl))⟩)) (TDF.td (pdf_nil (c := cI3))) (rd_eqD (eList (eT3 eInt eInt eInt)) (by decide)) (nomark _)) ?_
  · have := hp.1 x hx; have := hp.2; omega
  · exact fun _ h => h.trans (by rw [List.map_id']; rfl)
abbrev P_done : Sp := spP (fun (a : List R3 × List Int) => [.d (cList cI3) a.1, .d (cTup cInt) a.2]) (fun a => In8 a.1 ∧ a.2.length = 8) (cTup cInt) (fun a => doneL a.1 a.2)
theorem c_done (D : Def K mg "_law_done" (top 31)) : Cal P w K mg base "_law_done" ["triples", "word"] 1 P_done := by
  refine cal_D (N := ["triples", "word", "found", "spot", "old", "new"]) D (fun _ _ _ _ _ _ us hl => match us, hl with | [_, _], _ => rfl) ⟨rfl, rfl, rfl, by decide +kernel, rfl, by decide +kernel, by decide +kernel⟩ (fun _ _ => rfl) (by decide) (fun _ _ => trivial) fun b a hp => ?_
  refine HS.le (k := 0) ?_ (Nat.zero_le _)
  refine bsetL (k := 0) (k2 := 0) 2 (plist rfl U.list (TD.seqT (pd_name (i := 1) rfl rfl (.inl rfl))) (fun _ => rfl)) trivial rfl (.inl rfl) (fun _ _ => rfl) (.inl rfl) ?_
  rintro _ rfl
  refine bfor (k := 0) (kk := 0) (kn := 0) (k2 := 0) [3, 4, 5] (fun _ pre Γ => Γ = entry ["triples", "word", "found", "spot", "old", "new"] [.d (cList cI3) a.1, .d (cTup cInt) a.2, .l cInt (doneL pre a.2)]) (pdi_list (pd_name (i := 0) rfl rfl (.inl rfl))) ?_ ?_ ?_ (fun _ _ => rfl) ?_
  · rintro _ rfl; rfl
  · intro _ _; simp
  · rintro _ rfl pre x post _ hx rfl
    have hx1 : x ∈ a.1 := by rw [hx]; simp
    refine ⟨_, _, (pdg_t3 (pdg_name (i := 3) trivial rfl (.inl rfl) (.inl rfl)) (pdg_name (i := 4) trivial rfl (.inl rfl) (.inl rfl)) (pdg_name (i := 5) trivial rfl (.inl rfl) (.inl rfl)) (fun _ => rfl) (fun _ => rfl) (fun _ => rfl) (fun _ => rfl) (fun _ => rfl)), ?_⟩
    refine bsetItem (kr := 0) 2 rfl (pd_name (i := 5) rfl rfl (.inl rfl)) (pd_name (i := 3) rfl rfl (.inl rfl)) x.1.toNat (ixN_at ?_) rfl (.inl rfl) (fun _ _ => rfl) (fun _ => rfl) (fun _ => rfl) (fun _ => rfl) ?_
    · have := hp.1 x hx1; have := hp.2; rw [doneL_len]; omega
    · exact phs_nil ⟨trivial, by rw [doneL_snoc]; rfl⟩
  · rintro _ _ rfl rfl
    refine hs_freeze (i := 2) rfl trivial ?_
    refine bret (ptuple rfl U.tuple (TD.seqL (pd_name (i := 2) rfl rfl (.inl rfl))) (fun _ => rfl)) ?_
    exact fun _ h => h
abbrev P_clash : Sp := spP (fun (a : List R3 × List R3) => [.d (cList cI3) a.1, .d (cList cI3) a.2]) (fun a => a.1.length ≤ 8 ∧ a.2.length ≤ 8) (cList cInt) (fun a => sortI (clashL a.1 a.2))
theorem c_clash (D : Def K mg "_law_clash" (top 32)) : Cal P w K mg base "_law_clash" ["first", "last"] 1 P_clash := by
  refine cal_D (N := ["first", "last", "found", "spot", "old", "new", "row"]) D (fun _ _ _ _ _ _ us hl => match us, hl with | [_, _], _ => rfl) ⟨rfl, rfl, rfl, by decide +kernel, rfl, by decide +kernel, by decide +kernel⟩ (fun _ _ => rfl) (by decide) (fun _ _ => trivial) fun b a hp => ?_
  refine HS.le (k := 0) ?_ (Nat.zero_le _)
  refine bset (k := 0) (k2 := 0) 2 (TDF.td (pdf_nil (c := cInt))) trivial rfl (.inl rfl) (fun _ _ => rfl) (.inl rfl) ?_
  rintro _ rfl
  refine bfor (k := 0) (kk := 0) (kn := 0) (k2 := 0) [3, 4, 5] (fun _ pre Γ => Γ = entry ["first", "last", "found", "spot", "old", "new", "row"] [.d (cList cI3) a.1, .d (cList cI3) a.2, .d (cList cInt) (clashL pre a.2)]) (pdi_list (pd_name (i := 0) rfl rfl (.inl rfl))) ?_ ?_ ?_ (fun _ _ => rfl) ?_
  · rintro _ rfl; rfl
  · intro _ _; simp
  · rintro _ rfl pre x post _ hx rfl
    refine ⟨_, _, (pdg_t3 (pdg_name (i := 3) trivial rfl (.inr rfl) (.inl rfl)) (pdg_name (i := 4) trivial rfl (.inl rfl) (.inl rfl)) (pdg_name (i := 5) trivial rfl (.inr rfl) (.inl rfl)) (fun _ => rfl) (fun _ => rfl) (fun _ => rfl) (fun _ => rfl) (fun _ => rfl)), ?_⟩
    refine bset (k := 0) (k2 := 0) 2 (TDF.td (pcat (pd_name (i := 2) rfl rfl (.inl rfl)) (TDF.td (plcT [("row", 6)] (pdi_list (pd_name (i := 1) rfl rfl (.inl rfl))) trivial (by kernel_rfl) (fun _ _ => rfl) fun x hx => ⟨_, _, (pdg_name (i := 6) trivial rfl (.inl rfl) (.inr rfl)), (fun _ h => h), (tts_one (pdt_w (tand (tcmp (fun _ _ => op_eq) (pix ixTG (pd_name (i := 6) rfl rfl (.inl rfl)) pd_int rd_ix3_0 (fun _ _ => rfl)) (pd_name (i := 3) rfl rfl (.inr (.inl rfl))) rd_eqI (nomark _)) fun _ => (pdw_and1 (tcmp (fun _ _ => op_ne) (pix ixTG (pd_name (i := 6) rfl rfl (.inl rfl)) pd_int rd_ix3_1 (fun _ _ => rfl)) (pd_name (i := 5) rfl rfl (.inr (.inl rfl))) rd_neI (nomark _)))))), fun hq => (pix ixTG (pd_name (i := 6) rfl rfl (.inl rfl)) pd_int rd_ix3_0 (fun _ _ => rfl))⟩)) ?_)) trivial rfl (.inl rfl) (fun _ _ => rfl) (.inl rfl) ?_
    · rw [List.length_map]
      have h1 := clashL_len a.2 pre
      refine Nat.le_trans (Nat.add_le_add_left (List.length_filter_le _ _) _) ?_
      have h3 : pre.length ≤ 8 := by have := hp.1; rw [hx, List.length_append] at this; omega
      have h4 : pre.length * a.2.length ≤ 8 * 8 := Nat.mul_le_mul h3 hp.2
      unfold LB; omega
    · rintro _ rfl
      exact phs_nil ⟨trivial, by rw [clashL_snoc]; rfl⟩
  · rintro _ _ rfl rfl
    refine bret (TDF.td (psortI' rfl U.sorted (pd_name (i := 2) rfl rfl (.inl rfl)) (fun _ => rfl))) ?_
    exact fun _ h => h
abbrev P_then : Sp := spP (fun (a : List R3 × List R3) => [.d (cList cI3) a.1, .d (cList cI3) a.2]) (fun a => (a.1.length ≤ 8 ∧ a.2.length ≤ 8) ∧ (∀ r ∈ a.1, In64 r) ∧ ∀ r ∈ a.2, In64 r) (cList cI3) (fun a => thenL a.1 a.2)
theorem c_then (D : Def K mg "_law_then" (top 33)) : Cal P w K mg base "_law_then" ["first", "last"] 1 P_then := by
  refine cal_D (N := ["first", "last", "found", "spot", "old", "new", "news", "met", "row"]) D (fun _ _ _ _ _ _ us hl => match us, hl with | [_, _], _ => rfl) ⟨rfl, rfl, rfl, by decide +kernel, rfl, by decide +kernel, by decide +kernel⟩ (fun _ _ => rfl) (by decide) (fun _ _ => trivial) fun b a hp => ?_
  refine HS.le (k := 0) ?_ (Nat.zero_le _)
  refine bsetL (k := 0) (k2 := 0) 2 (pdf_nil (c := cI3)) trivial rfl (.inl rfl) (fun _ _ => rfl) (.inl rfl) ?_
  rintro _ rfl
  refine bfor (k := 0) (kk := 0) (kn := 0) (k2 := 0) [3, 4, 5, 6] (fun _ pre Γ => Γ = entry ["first", "last", "found", "spot", "old", "new", "news", "met", "row"] [.d (cList cI3) a.1, .d (cList cI3) a.2, .l cI3 (pre.map (thenRow a.2))]) (pdi_list (pd_name (i := 0) rfl rfl (.inl rfl))) ?_ ?_ ?_ (fun _ _ => rfl) ?_
  · rintro _ rfl; rfl
  · intro _ _; simp
  · rintro _ rfl pre x post _ hx rfl
    refine ⟨_, _, (pdg_t3 (pdg_name (i := 3) trivial rfl (.inr rfl) (.inl rfl)) (pdg_name (i := 4) trivial rfl (.inl rfl) (.inl rfl)) (pdg_name (i := 5) trivial rfl (.inl rfl) (.inl rfl)) (fun _ => rfl) (fun _ => rfl) (fun _ => rfl) (fun _ => rfl) (fun _ => rfl)), ?_⟩
    refine bsetLc (k := 0) (k2 := 0) 6 [("row", 8)] (tdf_lcT (pdi_list (pd_name (i := 1) rfl rfl (.inl rfl))) trivial fun x hx => ⟨_, _, (pdg_name (i := 8) trivial rfl (.inl rfl) (.inr rfl)), (fun _ h => h), (tts_one (tcmp (fun _ _ => op_eq) (pix ixTG (pd_name (i := 8) rfl rfl (.inl rfl)) pd_int rd_ix3_0 (fun _ _ => rfl)) (pd_name (i := 3) rfl rfl (.inr (.inl rfl))) rd_eqI (nomark _))), fun hq => (pix ixTG (pd_name (i := 8) rfl rfl (.inl rfl)) pd_int rd_ix3_2 (fun _ _ => rfl))⟩) trivial rfl rfl rfl rfl rfl (by kernel_rfl) (fun _ _ => rfl) ?_
    rintro _ rfl
    refine bappend (k := 0) (k2 := 0) 2 rfl (pt3 (pd_name (i := 3) rfl rfl (.inr (.inl rfl))) (pd_name (i := 4) rfl rfl (.inl rfl)) (pif (tcmp (op_neDG rfl) (pd_name (i := 6) rfl rfl (.inl rfl)) (TDF.td (pdf_nil (c := cInt))) (rd_neD (eList eInt) (by decide)) (nomark _)) (fun hc => (pix ixLG (pd_name (i := 6) rfl rfl (.inl rfl)) pd_int (rd_ixLd ?_) (fun _ _ => rfl))) fun hc => (pd_name (i := 5) rfl rfl (.inl rfl))) (fun _ => rfl) (fun _ => rfl) (fun _ => rfl)) ?_ rfl (.inl rfl) (fun _ => rfl) rfl (fun _ => rfl) (fun _ => rfl) ?_
    · cases e : newsL a.2 x with
      | nil => unfold newsL at e; simp [e] at hc
      | cons => unfold newsL at e; rw [e]; simp
    · rw [List.length_map]
      have h3 : pre.length ≤ 8 := by have := hp.1.1; rw [hx, List.length_append] at this; omega
      unfold LB; omega
    · rintro _ rfl
      exact phs_nil ⟨trivial, by rw [List.map_append]; rfl⟩
  · rintro _ _ rfl rfl
    refine bset (k := 0) (k2 := 0) 7 (TDF.td (plcN [("row", 8)] (pdi_list (pd_name (i := 0) rfl rfl (.inl rfl))) trivial (by kernel_rfl) (fun _ _ => rfl) fun x hx => ⟨_, _, (pdg_name (i := 8) trivial rfl (.inl rfl) (.inr rfl)), (fun _ h => h), (pix ixTG (pd_name (i := 8) rfl rfl (.inl rfl)) pd_int rd_ix3_0 (fun _ _ => rfl))⟩)) trivial rfl (.inr rfl) (sw_cell rfl) (.inl rfl) ?_
    rintro _ rfl
    refine hs_freeze (i := 2) rfl trivial ?_
    refine bret (TDF.td (psort3 rfl U.sorted (TDF.td (pcat (pd_name (i := 2) rfl rfl (.inl rfl)) (TDF.td (plcT [("row", 8)] (pdi_list (pd_name (i := 1) rfl rfl (.inl rfl))) trivial (by kernel_rfl) (fun _ _ => rfl) fun x hx => ⟨_, _, (pdg_name (i := 8) trivial rfl (.inl rfl) (.inr rfl)), (fun _ h => h), (tts_one (tcmp op_notInG (pix ixTG (pd_name (i := 8) rfl rfl (.inl rfl)) pd_int rd_ix3_0 (fun _ _ => rfl)) (pd_name (i := 7) rfl rfl (.inr (.inl rfl))) rd_inI rfl)), fun hq => (pd_name (i := 8) rfl rfl (.inl rfl))⟩)) ?_)) ?_ ?_ (fun _ => rfl))) ?_
    · rw [List.length_map, List.length_map]
      refine Nat.le_trans (Nat.add_le_add_left (List.length_filter_le _ _) _) ?_
      have := hp.1; unfold LB; omega
    · rw [List.length_append, List.length_map, List.length_map]
      refine Nat.lt_of_le_of_lt (Nat.add_le_add_left (List.length_filter_le _ _) _) ?_
      have := hp.1; omega
    · intro r hr
      rw [List.map_id'] at hr
      rcases List.mem_append.mp hr with h | h
      · obtain ⟨x, hx, e⟩ := List.mem_map.mp h
        subst e
        obtain ⟨b1, b2, b3⟩ := hp.2.1 x hx
        refine ⟨b1, b2, ?_⟩
        unfold thenRow
        dsimp only
        split
        · rename_i hc
          cases e : newsL a.2 x with
          | nil => rw [e] at hc; simp at hc
          | cons n ns =>
            have hm : n ∈ newsL a.2 x := by rw [e]; simp
            unfold newsL at hm
            obtain ⟨q, hq, eq⟩ := List.mem_map.mp hm
            have := (hp.2.2 q (List.mem_filter.mp hq).1).2.2
            rw [← eq]; exact this
        · exact b3
      · exact hp.2.2 r (List.mem_filter.mp h).1
    · exact fun _ h => h.trans (by rw [List.map_id']; rfl)
end
end K04


set_option Elab.async false
set_option linter.all false
set_option maxRecDepth 100000
set_option maxHeartbeats 4000000
namespace K04
open PySem PySem.Spec L2 DL
/-! ### the texts of a world -/
def wordsIn (s : Int) (world : List R3) : List Int := world.foldl (fun w r => if r.1 = s then rangeL r.2.1 (r.2.1 + r.2.2 - r.2.1).toNat else w) [0]
theorem wordsIn_snoc (s : Int) (pre : List R3) (x : R3) : wordsIn s (pre ++ [x]) = if x.1 = s then rangeL x.2.1 (x.2.1 + x.2.2 - x.2.1).toNat else wordsIn s pre := by unfold wordsIn; rw [List.foldl_append]; rfl
def stepL (ws : List Int) (found : List (List Int)) : List (List Int) := found.flatMap fun row => ws.map fun x => row ++ [x]
theorem stepL_snoc (ws : List Int) (pre : List (List Int)) (row : List Int) : stepL ws (pre ++ [row]) = stepL ws pre ++ ws.map fun x => row ++ [x] := by unfold stepL; rw [List.flatMap_append]; simp
def textsL (world : List R3) (spots : List Int) : List (List Int) := spots.foldl (fun found s => stepL (wordsIn s world) found) [[]]
theorem textsL_snoc (world : List R3) (pre : List Int) (s : Int) : textsL world (pre ++ [s]) = stepL (wordsIn s world) (textsL world pre) := by unfold textsL; rw [List.foldl_append]; rfl
/-- rows of a world -/
def World1 (world : List R3) : Prop := ∀ r ∈ world, 0 ≤ r.2.1 ∧ r.2.1 ≤ 3 ∧ 2 ≤ r.2.2 ∧ r.2.2 ≤ 3
theorem wordsIn_len (s : Int) : ∀ (world : List R3), World1 world → (wordsIn s world).length ≤ 3 := fun world => by
  suffices ∀ m : List R3, World1 m.reverse → (wordsIn s m.reverse).length ≤ 3 by have := this world.reverse; rwa [List.reverse_reverse] at this
  intro m
  induction m with
  | nil => intro _; exact (by decide : (1 : Nat) ≤ 3)
  | cons x m ih =>
    intro h
    rw [List.reverse_cons] at h ⊢
    rw [wordsIn_snoc]
    split
    · rw [rangeL_len]; have := h x (by simp); omega
    · exact ih fun r hr => h r (List.mem_append_left _ hr)
theorem stepL_len (ws : List Int) (hw : ws.length ≤ 3) : ∀ found : List (List Int), (stepL ws found).length ≤ found.length * 3
  | [] => by simp [stepL]
  | row :: found => by
    have h1 : stepL ws (row :: found) = (ws.map fun x => row ++ [x]) ++ stepL ws found := by unfold stepL; rw [List.flatMap_cons]
    rw [h1, List.length_append, List.length_map, List.length_cons, Nat.succ_mul]
    have := stepL_len ws hw found; omega
theorem stepL_row (ws : List Int) {n : Nat} {found : List (List Int)} (h : ∀ row ∈ found, row.length = n) : ∀ row ∈ stepL ws found, row.length = n + 1 := fun row hr => by
  unfold stepL at hr
  obtain ⟨r, hr1, hr2⟩ := List.mem_flatMap.mp hr
  obtain ⟨x, _, e⟩ := List.mem_map.mp hr2
  rw [← e, List.length_append, h r hr1]; rfl
theorem textsL_ok (world : List R3) (hw : World1 world) : ∀ spots : List Int, (textsL world spots).length ≤ 3 ^ spots.length ∧ ∀ row ∈ textsL world spots, row.length = spots.length := fun spots => by
  suffices ∀ m : List Int, (textsL world m.reverse).length ≤ 3 ^ m.length ∧ ∀ row ∈ textsL world m.reverse, row.length = m.length by
    have := this spots.reverse; rwa [List.reverse_reverse, List.length_reverse] at this
  intro m
  induction m with
  | nil => exact ⟨by simp [textsL], fun row hr => by simp [textsL] at hr; simp [hr]⟩
  | cons x m ih =>
    rw [List.reverse_cons, textsL_snoc]
    refine ⟨Nat.le_trans (stepL_len _ (wordsIn_len x world hw) _) ?_, fun row hr => ?_⟩
    · rw [List.length_cons, Nat.pow_succ]; exact Nat.mul_le_mul_right _ ih.1
    · rw [List.length_cons]; exact stepL_row _ ih.2 row hr
section
variable {P : Program} {w : World} {K : PySem.W.Frag} {mg : Str → Option Value} {base : Heap}
variable (U : Bt mg)
include U
abbrev nTexts : List Str := ["world", "found", "spot", "wordings", "one", "least", "many", "longer", "row", "wording"]
abbrev P_texts : Sp := spP (fun (a : List R3) => [.d (cList cI3) a]) World1 (cList (cTup cInt)) (fun a => textsL a (rangeL 0 8))
theorem c_texts (D : Def K mg "_law_texts" (top 28)) : Cal P w K mg base "_law_texts" ["world"] 1 P_texts := by
  refine cal_D (N := nTexts) D (fun _ _ _ _ _ _ us hl => match us, hl with | [_], _ => rfl) ⟨rfl, rfl, rfl, by decide +kernel, rfl, by decide +kernel, by decide +kernel⟩ (fun _ _ => rfl) (by decide) (fun _ _ => trivial) fun b a hp => ?_
  refine HS.le (k := 0) ?_ (Nat.zero_le _)
  refine bset (k := 0) (k2 := 0) 1 (TDF.td (plst (.cons (ptup (c := cInt) .nil (by simp)) .nil (fun _ => rfl)) (by simp))) trivial rfl (.inl rfl) (fun _ _ => rfl) (.inl rfl) ?_
  rintro _ rfl
  refine bfor (k := 0) (kk := 0) (kn := 0) (k2 := 0) [2, 3, 4, 5, 6, 7, 8] (fun _ pre Γ => Γ = entry nTexts [.d (cList cI3) a, .d (cList (cTup cInt)) (textsL a pre)]) (prng1 rfl U.range pd_int (by decide) (fun _ => rfl)) ?_ ?_ ?_ (fun _ _ => rfl) ?_
  · rintro _ rfl; rfl
  · intro _ _; simp
  · rintro _ rfl pre spot post _ hx rfl
    have hl8 : pre.length ≤ 7 := by have := congrArg List.length hx; rw [rangeL_len, List.length_append, List.length_cons] at this; simp at this; omega
    obtain ⟨hl1, hl2⟩ := textsL_ok a hp pre
    have hl3 : 3 ^ pre.length ≤ 3 ^ 7 := Nat.pow_le_pow_right (by decide) hl8
    refine ⟨_, _, (pdg_name (i := 2) trivial rfl (.inl rfl) (.inl rfl)), ?_⟩
    refine bset (k := 0) (k2 := 0) 3 (TDF.td (plst (.cons pd_int .nil (fun _ => rfl)) (by simp))) trivial rfl (.inl rfl) (fun _ _ => rfl) (.inl rfl) ?_
    rintro _ rfl
    refine bfor (k := 0) (kk := 0) (kn := 0) (k2 := 0) [4, 5, 6] (fun _ pre2 Γ => Γ = entry nTexts [.d (cList cI3) a, .d (cList (cTup cInt)) (textsL a pre), .d cInt spot, .d (cList cInt) (wordsIn spot pre2)]) (pdi_list (pd_name (i := 0) rfl rfl (.inl rfl))) ?_ ?_ ?_ (fun _ _ => rfl) ?_
    · intro xs exs; subst xs; rfl
    · intro _ _; simp
    · rintro xs exs pre2 x post2 _ hx2 rfl
      subst xs
      have hx3 := hp x (by rw [hx2]; simp)
      refine ⟨_, _, (pdg_t3 (pdg_name (i := 4) trivial rfl (.inl rfl) (.inl rfl)) (pdg_name (i := 5) trivial rfl (.inl rfl) (.inl rfl)) (pdg_name (i := 6) trivial rfl (.inl rfl) (.inl rfl)) (fun _ => rfl) (fun _ => rfl) (fun _ => rfl) (fun _ => rfl) (fun _ => rfl)), ?_⟩
      refine bifS (k1 := 0) (k2 := 0) (k3 := 0) (kr := 0) (N1 := fun Γ => Γ = entry nTexts [.d (cList cI3) a, .d (cList (cTup cInt)) (textsL a pre), .d cInt spot, .d (cList cInt) (wordsIn spot (pre2 ++ [x])), .d cInt x.1, .d cInt x.2.1, .d cInt x.2.2]) (tcmp (fun _ _ => op_eq) (pd_name (i := 4) rfl rfl (.inl rfl)) (pd_name (i := 2) rfl rfl (.inl rfl)) rd_eqI (nomark _)) (fun h => ?_) (fun h => ?_) ?_
      · refine bset (k := 0) (k2 := 0) 3 (TDF.td (plrg2 rfl U.list rfl U.range (pd_name (i := 5) rfl rfl (.inl rfl)) (pbin (fun _ _ => op_add) (pd_name (i := 5) rfl rfl (.inl rfl)) (pd_name (i := 6) rfl rfl (.inl rfl)) rd_I0) ?_ (fun _ => rfl) (fun _ => rfl) (fun _ => rfl) (fun _ => rfl))) trivial rfl (.inl rfl) (fun _ _ => rfl) (.inl rfl) ?_
        · exact ⟨by omega, by omega, by omega, by omega, by omega⟩
        · rintro _ rfl
          exact phs_nil (by rw [wordsIn_snoc, if_pos (of_decide_eq_true h.symm)]; rfl)
      · exact phs_nil (by rw [wordsIn_snoc, if_neg (of_decide_eq_false h.symm)]; rfl)
      · rintro _ rfl
        exact phs_nil ⟨trivial, rfl⟩
    · rintro xs _ exs rfl
      subst xs
      have hw3 := wordsIn_len spot a hp
      refine bset (k := 0) (k2 := 0) 7 (TDF.td (pdf_nil (c := cTup cInt))) trivial rfl (.inl rfl) (fun _ _ => rfl) (.inl rfl) ?_
      rintro _ rfl
      refine bfor (k := 0) (kk := 0) (kn := 0) (k2 := 0) [8] (fun _ pre3 Γ => Γ = entry nTexts [.d (cList cI3) a, .d (cList (cTup cInt)) (textsL a pre), .d cInt spot, .d (cList cInt) (wordsIn spot a), .un, .un, .un, .d (cList (cTup cInt)) (stepL (wordsIn spot a) pre3)]) (pdi_list (pd_name (i := 1) rfl rfl (.inl rfl))) ?_ ?_ ?_ (fun _ _ => rfl) ?_
      · rintro _ rfl; rfl
      · intro _ _; simp
      · rintro _ rfl pre3 row post3 _ hx4 rfl
        have hr1 := hl2 row (by rw [hx4]; simp)
        have hr2 := stepL_len _ hw3 pre3
        have hr3 := congrArg List.length hx4
        rw [List.length_append, List.length_cons] at hr3
        refine ⟨_, _, (pdg_name (i := 8) trivial rfl (.inr rfl) (.inl rfl)), ?_⟩
        refine bset (k := 0) (k2 := 0) 7 (TDF.td (pcat (pd_name (i := 7) rfl rfl (.inl rfl)) (TDF.td (plcN [("wording", 9)] (pdi_list (pd_name (i := 3) rfl rfl (.inl rfl))) trivial (by kernel_rfl) (fun _ _ => rfl) fun x hx => ⟨_, _, (pdg_name (i := 9) trivial rfl (.inl rfl) (.inr rfl)), (fun _ h => h), (pbin catTG (pd_name (i := 8) rfl rfl (.inr (.inl rfl))) (ptup (.cons (pd_name (i := 9) rfl rfl (.inl rfl)) .nil (fun _ => rfl)) (by simp)) (rd_catT ?_))⟩)) ?_)) trivial rfl (.inl rfl) (fun _ _ => rfl) (.inl rfl) ?_
        · show row.length + 1 ≤ LB; unfold LB; omega
        · rw [List.length_map]; unfold LB; omega
        · rintro _ rfl
          exact phs_nil ⟨trivial, by rw [stepL_snoc]; rfl⟩
      · rintro _ _ rfl rfl
        refine bset (k := 0) (k2 := 0) 1 (pd_name (i := 7) rfl rfl (.inl rfl)) trivial rfl (.inl rfl) (fun _ _ => rfl) (.inl rfl) ?_
        rintro _ rfl
        exact phs_nil ⟨trivial, by rw [textsL_snoc]; rfl⟩
  · rintro _ _ rfl rfl
    refine bret (pd_name (i := 1) rfl rfl (.inl rfl)) ?_
    exact fun _ h => h
end
end K04


set_option Elab.async false
set_option linter.all false
set_option maxRecDepth 100000
set_option maxHeartbeats 4000000
namespace K04
open PySem PySem.Spec L2 DL
/-! ### class Change -/
def FCh : Hp → List (Str × V) → List R3 → Prop := fun H fs rs => ∃ v, fs = [(("rows" : Str), v)] ∧ (cTup cI3).rep H v rs
theorem hmCh {H H' : Hp} {fs : List (Str × V)} {y : List R3} (e : Ex H H') (h : FCh H fs y) : FCh H' fs y := by
  obtain ⟨v, h1, h2⟩ := h
  exact ⟨v, h1, (cTup cI3).mono e h2⟩
abbrev cCh (C : Addr) : Cod (List R3) := cIns C FCh (fun e h => hmCh e h)
theorem hno_Ch {m : Str} (hm : ("rows" : Str) ≠ m) : ∀ H fs y0, FCh H fs y0 → fs.lookup m = none := fun H fs y0 ⟨v, h1, _⟩ => by
  subst h1
  show (match m == ("rows" : Str) with | true => some v | false => none) = none
  have : (m == ("rows" : Str)) = false := by
    rw [beq_eq_false_iff_ne]; exact fun e => hm e.symm
  rw [this]
structure TCh (K : PySem.W.Frag) (mg : Str → Option Value) (C : Addr) : Prop where
  k : Kls K mg "Change" C
  nR : NoAttr K C "rows"
theorem pd_rows {S : Stc} {Γ : Ctxt} {k : Nat} {e : Expr} {pos : Pos} {C : Addr} {z : List R3} (T : TCh S.K S.mg C) (h : PD S Γ k e (cCh C) (· = z)) (hb : ∀ env : Env, attributeBase e "rows" env (eval e env) = eval e env) : PD S Γ k (.Attribute e "rows" pos) (cTup cI3) (· = z) :=
  pfld (y := fun x => x) h T.k.cl T.nR (fun H fs y0 ⟨v, h1, h2⟩ => ⟨v, by rw [h1]; exact List.lookup_cons_self, h2⟩) hb
abbrev inCh (i : Nat) : Stmt := inClass (top 20) i
def dNew (y : List R3) : List (Int × Int) := dicOf (y.map fun x => (x.1, x.2.2))
def wrongD (y z : List R3) : List Int := (z.filter fun x => !decide ((valD (dNew y) x.1).getD x.2.1 = x.2.1)).map fun x => x.1
def rowsD (y z : List R3) : List R3 := (y.map fun x => (x.1, x.2.1, (valD (dNew z) x.1).getD x.2.2)) ++ (z.filter fun r => !(valD (dNew y) r.1).isSome)
theorem rows64 {rs : List R3} (h : Rows rs) : ∀ r ∈ rs, In64 r := fun r hr => by
  have := h.1 r hr
  simp only [rowOk, Bool.and_eq_true, decide_eq_true_eq] at this
  obtain ⟨⟨a1, a2⟩, ⟨b1, b2⟩, c1, c2⟩ := this
  exact ⟨⟨a1, by omega⟩, ⟨b1, by omega⟩, c1, by omega⟩
section
variable {P : Program} {w : World} {K : PySem.W.Frag} {mg : Str → Option Value} {base : Heap} {C : Addr}
variable (U : Bt mg)
include U
abbrev P_are_rows : Sp := spP (fun (a : List R3) => [.d (cList cI3) a]) Rows cBool (fun _ => true)
abbrev P_init (C : Addr) : Sp := spI C (fun (a : List R3) => [.d (cList cI3) a]) Rows FCh (fun a y => y = sort3 a)
theorem i_init (D : ∃ f fd, Fun K "__init__" "Change.__init__" (inCh 0) f fd ∧ Mk K C f) (T : TCh K mg C) (C_are_rows : Cal P w K mg base "are_rows" ["value"] 4 P_are_rows) : ICal P w K mg base C ["self", "rows"] 5 (P_init C) := by
  obtain ⟨f, fd, Fu, M⟩ := D
  refine ⟨f, fd, ?_, M, Fu.binds (fun _ _ _ _ _ _ us hl => match us, hl with | [_, _], _ => rfl)⟩
  refine init1 (N := ["self", "rows"]) (cv := cTup cI3) (g := sort3) (h := sort3) Fu ⟨rfl, rfl, rfl, by decide +kernel, rfl, by decide +kernel, by decide +kernel⟩ rfl rfl (.inl rfl) (fun _ => rfl) (by decide) (fun _ => trivial) T.k.cl T.nR (fun H y a _ r => ⟨y, rfl, r⟩) (fun _ => rfl) (fun x a hp => ?_) fun x a hp => ?_
  · --@ Change.__init__
    refine HS.le (k := 0 + max 0 0) ?_ (by decide)
    refine ph_if (k1 := 0) (k2 := 0) (k3 := 0) (pdt_not (pdt_val (pcal1 C_are_rows (show (4 : Nat) ≤ 4 by decide) rfl (pd_name (i := 1) rfl rfl (.inl rfl)) hp (fun _ => rfl) (fun _ => rfl)) (fun _ _ => rfl))) (fun h => ?_) fun h => ?_
    · exact absurd h (by decide)
    · exact phs_nil rfl
  · exact ptuple rfl U.tuple (TD.seqL (TDF.td (psort3 rfl U.sorted (pd_name (i := 1) rfl rfl (.inl rfl)) (by have := hp.2.2; omega) (rows64 hp) (fun _ => rfl)))) (fun _ => rfl)
omit U in
theorem pmkCh {S : Stc} {Γ : Ctxt} {e : Expr} {pos pn : Pos} {z : List R3} (I : ICal S.prog S.w S.K S.mg S.base C ["self", "rows"] 5 (P_init C)) (T : TCh S.K S.mg C) (hl : 5 + 1 ≤ S.lv) (hg : S.sc.names.lookup ("Change" : Str) = some .globalImplicit) (he : PD S Γ 0 e (cList cI3) (· = z)) (hp : Rows z)
    (hs : ∀ env : Env, starEach [e] env = (false, eval e env) :: starEach [] env) (hpl : ∀ env : Env, (backTo pos (starEach [] env)).any (·.1) = false) : PD S Γ 0 (.Call (.Name "Change" pn) [e] [] pos) (cCh C) (· = sort3 z) :=
  pmake1 (ca := cList cI3) (F := FCh) (hm := fun {_ _ _ _} e h => hmCh e h) (h := sort3) I hl hg T.k.mgC he hp (fun _ h => h) hs hpl
abbrev P_eq (C : Addr) : Sp := spP (fun (a : List R3 × List R3) => [.d (cCh C) a.1, .d (cCh C) a.2]) (fun _ => True) cBool (fun a => decide (a.1 = a.2))
theorem m_eq (D : ∃ f fd, Fun K "__eq__" "Change.__eq__" (inCh 1) f fd ∧ PySem.W.findIn K (.ref C) "__eq__" = some (some (.ref f)) ∧ PySem.W.isFn K (.ref f) = true) (T : TCh K mg C) : EqK P w K mg base C 1 FCh := by
  obtain ⟨f, fd, Fu, h1, h2⟩ := D
  refine ⟨f, fd, ["self", "other"], (?_ : FnOk P w K mg base CX0 1 f fd ["self", "other"] (P_eq C)).imp fun vs H Q E h => spEq_of _ h, h1, h2, Fu.binds (fun _ _ _ _ _ _ us hl => match us, hl with | [_, _], _ => rfl)⟩
  refine fn_D (N := ["self", "other"]) Fu ⟨rfl, rfl, rfl, by decide +kernel, rfl, by decide +kernel, by decide +kernel⟩ (fun _ _ => rfl) (by decide) (fun _ _ => trivial) fun b a hp => ?_
  refine bret (pand (pisi rfl U.isinstance (pd_name (i := 1) rfl rfl (.inl rfl)) (nmOwn rfl T.k.mgC) (.own _) (ty_ins T.k.own) T.k.isC (fun _ => rfl)) fun _ => (pd_one (pcmp (op_eqDG rfl) (pd_rows T (pd_name (i := 0) rfl rfl (.inl rfl)) (fun _ => rfl)) (pd_rows T (pd_name (i := 1) rfl rfl (.inl rfl)) (fun _ => rfl)) (rd_eqD (eTup (eT3 eInt eInt eInt)) (by decide)) (nomark _)))) ?_
  exact fun _ h => h
abbrev P_misses (C : Addr) : Sp := spP (fun (a : List R3 × List Int) => [.d (cCh C) a.1, .d (cTup cInt) a.2]) (fun a => In8 a.1 ∧ a.2.length = 8) (cList cInt) (fun a => (missL a.1 a.2).map fun x => x.1)
theorem m_misses (D : MDef K C "misses" "Change.misses" (inCh 6)) (T : TCh K mg C) : MCal P w K mg base C "misses" ["self", "text"] 1 (P_misses C) := by
  refine mcal_D (N := ["self", "text", "place", "old", "new"]) D (fun _ _ _ _ _ _ us hl => match us, hl with | [_, _], _ => rfl) ⟨rfl, rfl, rfl, by decide +kernel, rfl, by decide +kernel, by decide +kernel⟩ (fun _ _ => rfl) (by decide) (fun _ _ => trivial) fun b a hp => ?_
  refine bret (TDF.td (plcT [("place", 2), ("old", 3), ("new", 4)] (pdi_tup (pd_rows T (pd_name (i := 0) rfl rfl (.inl rfl)) (fun _ => rfl))) trivial (by kernel_rfl) (fun _ _ => rfl) fun x hx => ⟨_, _, (pdg_t3 (pdg_name (i := 2) trivial rfl (.inl rfl) (.inr rfl)) (pdg_name (i := 3) trivial rfl (.inl rfl) (.inr rfl)) (pdg_name (i := 4) trivial rfl (.inl rfl) (.inr rfl)) (fun _ => rfl) (fun _ => rfl) (fun _ => rfl) (fun _ => rfl) (fun _ => rfl)), (fun _ h => h), (tts_one (tcmp (fun _ _ => op_ne) (pix ixTG (pd_name (i := 1) rfl rfl (.inr (.inl rfl))) (pd_name (i := 2) rfl rfl (.inl rfl)) (rd_ixTd ?_) (fun _ _ => rfl)) (pd_name (i := 3) rfl rfl (.inl rfl)) rd_neI (nomark _))), fun hq => (pd_name (i := 2) rfl rfl (.inl rfl))⟩)) ?_
  · have := hp.1 x hx; have := hp.2; omega
  · exact fun _ h => h
abbrev P_doneM (C : Addr) : Sp := spP (fun (a : List R3 × List Int) => [.d (cCh C) a.1, .d (cTup cInt) a.2]) (fun a => (In8 a.1 ∧ a.2.length = 8) ∧ missL a.1 a.2 = []) (cTup cInt) (fun a => doneL a.1 a.2)
theorem m_done (D : MDef K C "done" "Change.done" (inCh 8)) (T : TCh K mg C) (M_misses : MCal P w K mg base C "misses" ["self", "text"] 1 (P_misses C)) : MCal P w K mg base C "done" ["self", "text"] 2 (P_doneM C) := by
  refine mcal_D (N := ["self", "text", "wrong", "found", "place", "_", "new"]) D (fun _ _ _ _ _ _ us hl => match us, hl with | [_, _], _ => rfl) ⟨rfl, rfl, rfl, by decide +kernel, rfl, by decide +kernel, by decide +kernel⟩ (fun _ _ => rfl) (by decide) (fun _ _ => trivial) fun b a hp => ?_
  refine HS.le (k := 0) ?_ (Nat.zero_le _)
  refine bset (k := 0) (k2 := 0) 2 (pm1 M_misses T.k.cl (show (1 : Nat) ≤ 1 by decide) (pd_name (i := 0) rfl rfl (.inl rfl)) (pd_name (i := 1) rfl rfl (.inl rfl)) (hno_Ch (by decide +kernel)) ?_ (fun _ => rfl) (fun _ => rfl) (fun _ => rfl)) trivial rfl (.inl rfl) (fun _ _ => rfl) (.inl rfl) ?_
  · exact hp.1
  rintro _ rfl
  refine bifR (k1 := 0) (k2 := 0) (k3 := 0) (tcmp (op_neDG rfl) (pd_name (i := 2) rfl rfl (.inl rfl)) (TDF.td (pdf_nil (c := cInt))) (rd_neD (eList eInt) (by decide)) (nomark _)) (fun h => ?_) fun h => ?_
  · have e : missL a.1 a.2 = [] := hp.2
    rw [e] at h; simp at h
  refine bsetL (k := 0) (k2 := 0) 3 (plist rfl U.list (TD.seqT (pd_name (i := 1) rfl rfl (.inl rfl))) (fun _ => rfl)) trivial rfl (.inl rfl) (fun _ _ => rfl) (.inl rfl) ?_
  rintro _ rfl
  refine bfor (k := 0) (kk := 0) (kn := 0) (k2 := 0) [4, 5, 6] (fun _ pre Γ => Γ = entry ["self", "text", "wrong", "found", "place", "_", "new"] [.d (cCh C) a.1, .d (cTup cInt) a.2, .d (cList cInt) ((missL a.1 a.2).map fun x => x.1), .l cInt (doneL pre a.2)]) (pdi_tup (pd_rows T (pd_name (i := 0) rfl rfl (.inl rfl)) (fun _ => rfl))) ?_ ?_ ?_ (fun _ _ => rfl) ?_
  · rintro _ rfl; rfl
  · intro _ _; simp
  · rintro _ rfl pre x post _ hx rfl
    have hx1 : x ∈ a.1 := by rw [hx]; simp
    refine ⟨_, _, (pdg_t3 (pdg_name (i := 4) trivial rfl (.inl rfl) (.inl rfl)) (pdg_name (i := 5) trivial rfl (.inl rfl) (.inl rfl)) (pdg_name (i := 6) trivial rfl (.inl rfl) (.inl rfl)) (fun _ => rfl) (fun _ => rfl) (fun _ => rfl) (fun _ => rfl) (fun _ => rfl)), ?_⟩
    refine bsetItem (kr := 0) 3 rfl (pd_name (i := 6) rfl rfl (.inl rfl)) (pd_name (i := 4) rfl rfl (.inl rfl)) x.1.toNat (ixN_at ?_) rfl (.inl rfl) (fun _ _ => rfl) (fun _ => rfl) (fun _ => rfl) (fun _ => rfl) ?_
    · have := hp.1.1 x hx1; have := hp.1.2; rw [doneL_len]; omega
    · exact phs_nil ⟨trivial, by rw [doneL_snoc]; rfl⟩
  · rintro _ _ rfl rfl
    refine hs_freeze (i := 3) rfl trivial ?_
    refine bret (ptuple rfl U.tuple (TD.seqL (pd_name (i := 3) rfl rfl (.inl rfl))) (fun _ => rfl)) ?_
    exact fun _ h => h
def backL (y : List R3) : List R3 := y.map fun x => (x.1, x.2.2, x.2.1)
abbrev P_back (C : Addr) : Sp := spP (fun (a : List R3) => [.d (cCh C) a]) (fun a => Rows (backL a)) (cCh C) (fun a => sort3 (backL a))
theorem m_back (D : MDef K C "back" "Change.back" (inCh 9)) (T : TCh K mg C) (I_Change : ICal P w K mg base C ["self", "rows"] 5 (P_init C)) : MCal P w K mg base C "back" ["self"] 7 (P_back C) := by
  refine mcal_D (N := ["self", "place", "old", "new"]) D (fun _ _ _ _ _ _ us hl => match us, hl with | [_], _ => rfl) ⟨rfl, rfl, rfl, by decide +kernel, rfl, by decide +kernel, by decide +kernel⟩ (fun _ _ => rfl) (by decide) (fun _ _ => trivial) fun b a hp => ?_
  refine bret (pmkCh I_Change T (show (5 + 1 : Nat) ≤ 6 by decide) rfl (TDF.td (plcN [("place", 1), ("old", 2), ("new", 3)] (pdi_tup (pd_rows T (pd_name (i := 0) rfl rfl (.inl rfl)) (fun _ => rfl))) trivial (by kernel_rfl) (fun _ _ => rfl) fun x hx => ⟨_, _, (pdg_t3 (pdg_name (i := 1) trivial rfl (.inl rfl) (.inr rfl)) (pdg_name (i := 2) trivial rfl (.inl rfl) (.inr rfl)) (pdg_name (i := 3) trivial rfl (.inl rfl) (.inr rfl)) (fun _ => rfl) (fun _ => rfl) (fun _ => rfl) (fun _ => rfl) (fun _ => rfl)), (fun _ h => h), (pt3 (pd_name (i := 1) rfl rfl (.inl rfl)) (pd_name (i := 3) rfl rfl (.inl rfl)) (pd_name (i := 2) rfl rfl (.inl rfl)) (fun _ => rfl) (fun _ => rfl) (fun _ => rfl))⟩)) ?_ (fun _ => rfl) (fun _ => rfl)) ?_
  · exact hp
  · exact fun _ h => h
abbrev P_thenM (C : Addr) : Sp := spP (fun (a : List R3 × List R3) => [.d (cCh C) a.1, .d (cCh C) a.2]) (fun a => wrongD a.1 a.2 = [] ∧ Rows (rowsD a.1 a.2)) (cCh C) (fun a => sort3 (rowsD a.1 a.2))
theorem ok_then {f : Addr} {fd : FuncData} (Fu : Fun K "then" "Change.then" (inCh 10) f fd) (T : TCh K mg C) (I_Change : ICal P w K mg base C ["self", "rows"] 5 (P_init C)) : FnOk P w K mg base CX0 7 f fd ["self", "other"] (P_thenM C) := by
  refine fn_D (N := ["self", "other", "reached", "wrong", "last", "rows", "place", "old", "new", "row"]) Fu ⟨rfl, rfl, rfl, by decide +kernel, rfl, by decide +kernel, by decide +kernel⟩ (fun _ _ => rfl) (by decide) (fun _ _ => trivial) fun b a hp => ?_
  refine HS.le (k := 0) ?_ (Nat.zero_le _)
  refine bifR (k1 := 0) (k2 := 0) (k3 := 0) (pdt_not (pdt_val (pisi rfl U.isinstance (pd_name (i := 1) rfl rfl (.inl rfl)) (nmOwn rfl T.k.mgC) (.own _) (ty_ins T.k.own) T.k.isC (fun _ => rfl)) (fun _ _ => rfl))) (fun h => ?_) fun h => ?_
  · exact absurd h (by decide)
  refine bset (k := 0) (k2 := 0) 2 (pdcN [("place", 6), ("old", 7), ("new", 8)] (pdi_tup (pd_rows T (pd_name (i := 0) rfl rfl (.inl rfl)) (fun _ => rfl))) trivial (by kernel_rfl) (fun _ _ => rfl) fun x hx => ⟨_, _, (pdg_t3 (pdg_name (i := 6) trivial rfl (.inl rfl) (.inr rfl)) (pdg_name (i := 7) trivial rfl (.inl rfl) (.inr rfl)) (pdg_name (i := 8) trivial rfl (.inl rfl) (.inr rfl)) (fun _ => rfl) (fun _ => rfl) (fun _ => rfl) (fun _ => rfl) (fun _ => rfl)), (fun _ h => h), ⟨(pd_name (i := 6) rfl rfl (.inl rfl)), (pd_name (i := 8) rfl rfl (.inl rfl))⟩⟩) trivial rfl (.inr rfl) (sw_cell rfl) (.inl rfl) ?_
  rintro _ rfl
  refine bsetLc (k := 0) (k2 := 0) 3 [("place", 6), ("old", 7), ("new", 8)] (tdf_lcT (pdi_tup (pd_rows T (pd_name (i := 1) rfl rfl (.inl rfl)) (fun _ => rfl))) trivial fun x hx => ⟨_, _, (pdg_t3 (pdg_name (i := 6) trivial rfl (.inl rfl) (.inr rfl)) (pdg_name (i := 7) trivial rfl (.inl rfl) (.inr rfl)) (pdg_name (i := 8) trivial rfl (.inl rfl) (.inr rfl)) (fun _ => rfl) (fun _ => rfl) (fun _ => rfl) (fun _ => rfl) (fun _ => rfl)), (fun _ h => h), (tts_one (tcmp (fun _ _ => op_ne) (pdget2 (pd_name (i := 2) rfl rfl (.inr (.inl rfl))) (pd_name (i := 6) rfl rfl (.inl rfl)) (pd_name (i := 7) rfl rfl (.inl rfl)) (fun _ => ⟨rfl, rfl, rfl, rfl⟩)) (pd_name (i := 7) rfl rfl (.inl rfl)) rd_neI (nomark _))), fun hq => (pd_name (i := 6) rfl rfl (.inl rfl))⟩) trivial rfl rfl rfl rfl rfl (by kernel_rfl) (fun _ _ => rfl) ?_
  rintro _ rfl
  refine bifR (k1 := 0) (k2 := 0) (k3 := 0) (tcmp (op_neDG rfl) (pd_name (i := 3) rfl rfl (.inl rfl)) (TDF.td (pdf_nil (c := cInt))) (rd_neD (eList eInt) (by decide)) (nomark _)) (fun h => ?_) fun h => ?_
  · have h2 : true = !decide (wrongD a.1 a.2 = []) := h
    rw [hp.1] at h2
    exact absurd h2 (by decide)
  refine bset (k := 0) (k2 := 0) 4 (pdcN [("place", 6), ("old", 7), ("new", 8)] (pdi_tup (pd_rows T (pd_name (i := 1) rfl rfl (.inl rfl)) (fun _ => rfl))) trivial (by kernel_rfl) (fun _ _ => rfl) fun x hx => ⟨_, _, (pdg_t3 (pdg_name (i := 6) trivial rfl (.inl rfl) (.inr rfl)) (pdg_name (i := 7) trivial rfl (.inl rfl) (.inr rfl)) (pdg_name (i := 8) trivial rfl (.inl rfl) (.inr rfl)) (fun _ => rfl) (fun _ => rfl) (fun _ => rfl) (fun _ => rfl) (fun _ => rfl)), (fun _ h => h), ⟨(pd_name (i := 6) rfl rfl (.inl rfl)), (pd_name (i := 8) rfl rfl (.inl rfl))⟩⟩) trivial rfl (.inr rfl) (sw_cell rfl) (.inl rfl) ?_
  rintro _ rfl
  refine bsetLc (k := 0) (k2 := 0) 5 [("place", 6), ("old", 7), ("new", 8)] (tdf_lcN (pdi_tup (pd_rows T (pd_name (i := 0) rfl rfl (.inl rfl)) (fun _ => rfl))) trivial fun x hx => ⟨_, _, (pdg_t3 (pdg_name (i := 6) trivial rfl (.inl rfl) (.inr rfl)) (pdg_name (i := 7) trivial rfl (.inl rfl) (.inr rfl)) (pdg_name (i := 8) trivial rfl (.inl rfl) (.inr rfl)) (fun _ => rfl) (fun _ => rfl) (fun _ => rfl) (fun _ => rfl) (fun _ => rfl)), (fun _ h => h), (pt3 (pd_name (i := 6) rfl rfl (.inl rfl)) (pd_name (i := 7) rfl rfl (.inl rfl)) (pdget2 (pd_name (i := 4) rfl rfl (.inr (.inl rfl))) (pd_name (i := 6) rfl rfl (.inl rfl)) (pd_name (i := 8) rfl rfl (.inl rfl)) (fun _ => ⟨rfl, rfl, rfl, rfl⟩)) (fun _ => rfl) (fun _ => rfl) (fun _ => rfl))⟩) trivial rfl rfl rfl rfl rfl (by kernel_rfl) (fun _ _ => rfl) ?_
  rintro _ rfl
  refine bret (pmkCh I_Change T (show (5 + 1 : Nat) ≤ 6 by decide) rfl (TDF.td (pstar2 (TD.seqL (pd_name (i := 5) rfl rfl (.inl rfl))) (TD.seqL (TDF.td (plcT [("row", 9)] (pdi_tup (pd_rows T (pd_name (i := 1) rfl rfl (.inl rfl)) (fun _ => rfl))) trivial (by kernel_rfl) (fun _ _ => rfl) fun x hx => ⟨_, _, (pdg_name (i := 9) trivial rfl (.inl rfl) (.inr rfl)), (fun _ h => h), (tts_one (ttnotinD (pix ixTG (pd_name (i := 9) rfl rfl (.inl rfl)) pd_int rd_ix3_0 (fun _ _ => rfl)) (pd_name (i := 2) rfl rfl (.inr (.inl rfl))) rfl)), fun hq => (pd_name (i := 9) rfl rfl (.inl rfl))⟩))) (fun _ => rfl) (fun _ => rfl) ?_)) ?_ (fun _ => rfl) (fun _ => rfl)) ?_
  · have h8 := hp.2.2.2
    unfold rowsD at h8
    rw [List.length_append] at h8
    rw [List.map_id']
    exact Nat.le_trans h8 (by decide)
  · rw [List.map_id']; exact hp.2
  · exact fun _ h => h.trans (by rw [List.map_id']; rfl)
theorem m_then (D : MDef K C "then" "Change.then" (inCh 10)) (T : TCh K mg C) (I_Change : ICal P w K mg base C ["self", "rows"] 5 (P_init C)) : MCal P w K mg base C "then" ["self", "other"] 7 (P_thenM C) :=
  mcal_of D (fun _ _ _ _ _ _ us hl => match us, hl with | [_, _], _ => rfl) fun f fd Fu => ok_then U Fu T I_Change
end
end K04


set_option Elab.async false
set_option linter.all false
set_option maxRecDepth 100000
set_option maxHeartbeats 4000000
namespace K04
open PySem PySem.Spec L2 DL
section
variable {P : Program} {w : World} {K : PySem.W.Frag} {mg : Str → Option Value} {base : Heap} {C : Addr}
variable (U : Bt mg)
include U
abbrev P_is_listK (K : PySem.W.Frag) : Sp := spP (fun (a : List Int) => [.d (cSq K cInt) a]) (fun _ => True) cBool (fun _ => true)
theorem k_is_list (D : Def K mg "is_list" (top 9)) : Cal P w K mg base "is_list" ["value"] 1 (P_is_listK K) := by
  refine cal_D (N := ["value"]) D (fun _ _ _ _ _ _ us hl => match us, hl with | [_], _ => rfl) ⟨rfl, rfl, rfl, by decide +kernel, rfl, by decide +kernel, by decide +kernel⟩ (fun _ _ => rfl) (by decide) (fun _ _ => trivial) fun b a hp => ?_
  exact bret (pisiLTK rfl U.isinstance rfl U.list rfl U.tuple (pd_name (i := 0) rfl rfl (.inl rfl)) (fun _ => rfl)) fun _ h => h
theorem k_are_numbers (D : Def K mg "are_numbers" (top 12)) (C_is_list : Cal P w K mg base "is_list" ["value"] 1 (P_is_listK K)) (C_is_index : Cal P w K mg base "is_index" ["value", "many"] 2 P_is_index) :
    Cal P w K mg base "are_numbers" ["value", "many"] 3 (spP (fun (a : List Int × Int) => [.d (cSq K cInt) a.1, .d cInt a.2]) (fun _ => True) cBool (fun a => (a.1.map fun x => decide (0 ≤ x ∧ x < a.2)).all id)) := by
  refine cal_D (N := ["value", "many", "item"]) D (fun _ _ _ _ _ _ us hl => match us, hl with | [_, _], _ => rfl) ⟨rfl, rfl, rfl, by decide +kernel, rfl, by decide +kernel, by decide +kernel⟩ (fun _ _ => rfl) (by decide) (fun _ _ => trivial) fun b a hp => ?_
  refine bret (pand (pcal1 C_is_list (show (1 : Nat) ≤ 2 by decide) rfl (pd_name (i := 0) rfl rfl (.inl rfl)) trivial (fun _ => rfl) (fun _ => rfl)) fun _ => (pd_one (pall rfl U.all (TDF.td (plcN [("item", 2)] (pdi_sq (pd_name (i := 0) rfl rfl (.inl rfl))) trivial (by kernel_rfl) (fun _ _ => rfl) fun _ _ => ⟨_, _, (pdg_name (i := 2) trivial rfl (.inl rfl) (.inr rfl)), (fun _ h => h), (pcal2 C_is_index (show (2 : Nat) ≤ 2 by decide) rfl (pd_name (i := 2) rfl rfl (.inl rfl)) (pd_name (i := 1) rfl rfl (.inr (.inl rfl))) trivial (fun _ => rfl) (fun _ => rfl) (fun _ => rfl))⟩)) (fun _ => rfl)))) ?_
  exact fun _ h => h.trans (by simp)
theorem k_is_lot (D : Def K mg "is_lot" (top 13)) (C_are_numbers : Cal P w K mg base "are_numbers" ["value", "many"] 3 (spP (fun (a : List Int × Int) => [.d (cSq K cInt) a.1, .d cInt a.2]) (fun _ => True) cBool (fun a => (a.1.map fun x => decide (0 ≤ x ∧ x < a.2)).all id))) :
    Cal P w K mg base "is_lot" ["value", "many"] 4 (spP (fun (a : List Int × Int) => [.d (cSq K cInt) a.1, .d cInt a.2]) Up cBool (fun a => true)) := by
  refine cal_D (N := ["value", "many"]) D (fun _ _ _ _ _ _ us hl => match us, hl with | [_, _], _ => rfl) ⟨rfl, rfl, rfl, by decide +kernel, rfl, by decide +kernel, by decide +kernel⟩ (fun _ _ => rfl) (by decide) (fun _ _ => trivial) fun b a hp => ?_
  refine bret (pand (pcal2 C_are_numbers (show (3 : Nat) ≤ 3 by decide) rfl (pd_name (i := 0) rfl rfl (.inl rfl)) (pd_name (i := 1) rfl rfl (.inl rfl)) trivial (fun _ => rfl) (fun _ => rfl) (fun _ => rfl)) fun _ => (pd_one (pcmp (op_eqDG rfl) (TDF.td (plistK rfl U.list (pd_name (i := 0) rfl rfl (.inl rfl)) (fun _ => rfl))) (TDF.td (psortSet rfl U.sorted (psetK rfl U.set (pd_name (i := 0) rfl rfl (.inl rfl)) ?_ (fun _ => rfl)) ?_ (fun _ => rfl))) (rd_eqD (eList eInt) (by decide)) (nomark _)))) ?_
  · have := hp.2.2; omega
  · have := asc_len a.1; have := hp.2.2; omega
  · intro x h
    refine h.trans ?_
    have h1 : asc a.1 = a.1 := asc_self hp.1
    rw [h1]
    simp only [decide_true, Bool.and_true, List.all_map, List.all_eq_true]
    intro y hy
    exact decide_eq_true (hp.2.1 y hy)
theorem k_are_places (D : Def K mg "are_places" (top 14)) (C_is_lot : Cal P w K mg base "is_lot" ["value", "many"] 4 (spP (fun (a : List Int × Int) => [.d (cSq K cInt) a.1, .d cInt a.2]) Up cBool (fun a => true))) :
    Cal P w K mg base "are_places" ["value", "many"] 5 (spP (fun (a : List Int × Int) => [.d (cSq K cInt) a.1, .d cInt a.2]) Up cBool (fun a => true)) := by
  refine cal_D (N := ["value", "many"]) D (fun _ _ _ _ _ _ us hl => match us, hl with | [_, _], _ => rfl) ⟨rfl, rfl, rfl, by decide +kernel, rfl, by decide +kernel, by decide +kernel⟩ (fun _ _ => rfl) (by decide) (fun _ _ => trivial) fun b a hp => ?_
  refine bret (pcal2 C_is_lot (show (4 : Nat) ≤ 4 by decide) rfl (pd_name (i := 0) rfl rfl (.inl rfl)) (pd_name (i := 1) rfl rfl (.inl rfl)) ?_ (fun _ => rfl) (fun _ => rfl) (fun _ => rfl)) ?_
  · exact hp
  · exact fun _ h => h
end
end K04

set_option Elab.async false
set_option linter.all false
set_option maxRecDepth 100000
set_option maxHeartbeats 4000000
namespace K04
open PySem PySem.Spec L2 DL
abbrev sTake : Stmt := top 25
abbrev nTake : List Str := ["box", "many", "digit", "mixed"]
theorem scTake : FnScope nTake ["box", "many"] (defScope sTake) := ⟨rfl, rfl, rfl, by decide +kernel, rfl, by decide +kernel, by decide +kernel⟩
section
variable {P : Program} {w : World} {K : PySem.W.Frag} {mg : Str → Option Value} {base : Heap}
abbrev spTake : Sp := spD (fun b (many : Int) => [.bx b, .d cInt many]) (fun _ => 1) (fun many => 0 < many ∧ many < 1073741824) cInt (fun many x => 0 ≤ x ∧ x < many)
theorem ok_take {f : Addr} {fd : FuncData} (F : Fun K "_law_take" "_law_take" sTake f fd) (mI : mg "int" = none) : FnOk P w K mg base CX0 1 f fd ["box", "many"] spTake := by
  refine F.ok scTake (fun vs H Q E h => ?_) (fun cdv A outer s H vs Q E hr h => ?_)
  · obtain ⟨a, b, n, Hf, _, _, _, o, _⟩ := h
    exact argsOk_len o
  · obtain ⟨many, b, n, Hf, ⟨m0, m1⟩, hn, ex, o, bx, q⟩ := h
    obtain ⟨hb0, g, big, m, c, hb, h1, h2, h3, h4⟩ := bx b (by simp)
    obtain ⟨v1, v2, rfl, rfl, rfl⟩ : ∃ v1 v2, vs = [v1, v2] ∧ v1 = .ref b ∧ v2 = .int many := by
      match vs, o with
      | [v1, v2], o => exact ⟨v1, v2, rfl, o.1, o.2.1⟩
    have fin : ∀ (x g' c' : Int), 0 ≤ x → x < many → 0 ≤ c' → c' ≤ c + 1 → Q (.int x) (upd H b (.lst [.int g', .bl big, .int m, .int c'])) := fun x g' c' x0 x1 c0 c1 => by
      have nb : Hf b = none := hb0
      refine q _ Hf _ x ⟨x0, x1⟩ rfl ⟨Ex.rfl', fun a o e ne => ?_, fun a o e ne z => z, fun a e => ?_⟩ (ex.mut nb) fun z hz => ?_
      · rw [upd_ne (fun z => ne (by subst z; simp))]; exact e
      · by_cases z : a = b
        · subst z; rw [upd_same] at e; cases e
        · rw [upd_ne z] at e; exact e
      · have : z = b := by simpa using hz
        subst this
        exact ⟨nb, g', big, m, c', upd_same, h1, h2, c0, by show c' ≤ ((n + 1 : Nat) : Int); omega⟩
    refine ⟨_, pss_cons (ps_if (PW.pt (pw_and (pt_val (pe_ix ix_list (pv 0) pe_int (fun _ _ => rfl))) (pw_and1 (pt_cmpR op_gt (pe_ix ix_list (pv 0) pe_int (fun _ _ => rfl)) pe_int (nomark _)))))
        (pss_cons (ps_set (i := 2) scTake.nd rfl (.inl rfl) (pe_op op_mod (pe_callTy call_int1 (by rfl) mI (by decide +kernel) (pa_cons (pe_ix ix_list (pv 0) pe_int (fun _ _ => rfl)) pa_nil)) (pv 1)))
        (pss_cons (ps_asg (pe_op op_fdiv (pe_ix ix_list (pv 0) pe_int (fun _ _ => rfl)) (pv 1)) (pg_sub (pv 0) pe_int set_list))
        (pss_one (ps_ret (pv 2))))) pss_nil)
      (pss_cons (ps_asg (pe_op op_add (pe_ix ix_list (pv 0) pe_int (fun _ _ => rfl)) pe_int) (pg_sub (pv 0) pe_int set_list))
      (pss_cons (ps_set (i := 3) scTake.nd rfl (.inl rfl) (pe_op op_mod (pe_callTy call_int1 (by rfl) mI (by decide +kernel) (pa_cons (pe_op op_pow (pe_op op_add (pe_op op_add (pe_ix ix_list (pv 0) pe_int (fun _ _ => rfl)) (pe_op op_mul pe_int (pe_ix ix_list (pv 0) pe_int (fun _ _ => rfl)))) pe_int) pe_int) pa_nil)) pe_int))
      (pss_one (ps_ret (pe_op op_mod (pe_op op_fdiv (pe_op op_mod (pe_callTy call_int1 (by rfl) mI (by decide +kernel) (pa_cons (pe_op op_pow (pe_op op_add (pe_op op_mul (pv 3) pe_int) (pe_op op_mul pe_int (pe_ix ix_list (pv 0) pe_int (fun _ _ => rfl)))) pe_int) pa_nil)) pe_int) pe_int) (pv 1)))))), ?_⟩
    have hn' : n + 1 ≤ 8589934592 := hn
    -- the rest, where no digit is left
    refine ⟨.ref b, rfl, b, _, 1, .bl big, rfl, rfl, SqL.of hb, rfl, big, rfl, ?_⟩
    have alt : ∀ {A B C : Prop}, (big = false → C) → (big = true → B) → (if big = true then B else C) := fun {A B C} hC hB => by
      cases big with
      | true => exact iteT (hB rfl)
      | false => exact iteF (hC rfl)
    refine alt (A := True) (fun eb => iteF ?r1) fun eb => ?r2
    rotate_left
    refine ⟨.ref b, rfl, b, _, 0, .int g, rfl, rfl, SqL.of hb, rfl, g, 0, rfl, rfl, _, rfl, ?_⟩
    refine ite2 (fun hg => ?_) fun _ => ?r3
    · refine ⟨.ref b, rfl, b, _, 0, .int g, rfl, rfl, SqL.of hb, rfl, .inl ⟨g, rfl, .int many, rfl, g, many, rfl, rfl, m0, ?_⟩⟩
      refine ⟨.ref b, rfl, b, _, 0, .int g, rfl, rfl, SqL.of hb, rfl, .int many, rfl, g, many, rfl, rfl, ⟨m0, m1⟩, .ref b, rfl, b, _, 0, 0, rfl, rfl, hb, rfl, ?_⟩
      exact ⟨_, rfl, fin _ (g / many) c (Int.emod_nonneg _ (by omega)) (Int.emod_lt_of_pos _ m0) h3 (by omega)⟩
    all_goals
        refine ⟨.ref b, rfl, b, _, 3, .int c, rfl, rfl, SqL.of hb, rfl, c, 1, rfl, rfl, ?_⟩
        refine ⟨.ref b, rfl, b, _, 3, 3, rfl, rfl, hb, rfl, ?_⟩
        have hb2 : (upd H b (.lst [.int g, .bl big, .int m, .int (c + 1)])) b = some (.lst [.int g, .bl big, .int m, .int (c + 1)]) := upd_same
        refine ⟨.ref b, rfl, b, _, 2, .int m, rfl, rfl, SqL.of hb2, rfl, .ref b, rfl, b, _, 3, .int (c + 1), rfl, rfl, SqL.of hb2, rfl, 15485867, c + 1, rfl, rfl, .inl ⟨by decide, by decide⟩, m, 15485867 * (c + 1), rfl, rfl, _, 179425033, rfl, rfl, _, 5, rfl, rfl, ⟨by decide, by decide, ?_⟩, .inl ⟨_, rfl, ?_⟩⟩
        · have : m + 15485867 * (c + 1) + 179425033 < 18446744073709551616 := by omega
          have : 0 ≤ m + 15485867 * (c + 1) + 179425033 := by omega
          omega
        refine ⟨_, 2147483647, rfl, rfl, (show (0 : Int) < 2147483647 by decide), ?_⟩
        have M0 : 0 ≤ ((m + 15485867 * (c + 1) + 179425033) ^ (5 : Int).toNat) % 2147483647 := Int.emod_nonneg _ (by decide)
        have M1 : ((m + 15485867 * (c + 1) + 179425033) ^ (5 : Int).toNat) % 2147483647 < 2147483647 := Int.emod_lt_of_pos _ (by decide)
        refine ⟨_, rfl, _, 48271, rfl, rfl, .inl ⟨Int.lt_of_lt_of_le (by decide) M0, Int.lt_trans M1 (by decide)⟩, .ref b, rfl, b, _, 3, .int (c + 1), rfl, rfl, SqL.of hb2, rfl, 7919, c + 1, rfl, rfl, .inl ⟨by decide, by decide⟩, _, 7919 * (c + 1), rfl, rfl, _, 3, rfl, rfl, ⟨by decide, by decide, ?_⟩, .inl ⟨_, rfl, ?_⟩⟩
        · generalize ((m + 15485867 * (c + 1) + 179425033) ^ (5 : Int).toNat) % 2147483647 = M at M0 M1 ⊢
          omega
        refine ⟨_, 2147483587, rfl, rfl, (show (0 : Int) < 2147483587 by decide), _, 64, rfl, rfl, ⟨by decide, by decide⟩, .int many, rfl, _, many, rfl, rfl, m0, ?_⟩
        exact fin _ g (c + 1) (Int.emod_nonneg _ (by omega)) (Int.emod_lt_of_pos _ m0) (by omega) (by omega)
end
end K04

set_option Elab.async false
set_option linter.all false
set_option maxRecDepth 100000
set_option maxHeartbeats 4000000
namespace K04
open PySem PySem.Spec L2 DL
/-! ### what draws -/
theorem erase_perm {α : Type} : ∀ {l : List α} {i : Nat} (h : i < l.length), (l[i] :: l.eraseIdx i).Perm l
  | x :: l, 0, _ => .refl _
  | x :: l, i + 1, h => by
    have h' : i < l.length := by simpa using h
    show (l[i] :: x :: l.eraseIdx i).Perm (x :: l)
    exact (List.Perm.swap x l[i] _).trans ((erase_perm h').cons x)
section
variable {S : Stc} {Γ : Ctxt} {e : Expr} {pos pn pb : Pos}
theorem ptake {i : Nat} {z : Addr} {m : Int} {bn : Str} (C_take : Cal S.prog S.w S.K S.mg S.base "_law_take" ["box", "many"] 1 spTake) (hl : 1 ≤ S.lv) (hg : S.sc.names.lookup ("_law_take" : Str) = some .globalImplicit) (hΓ : Γ[i]? = some (.bx z)) (hN : S.N[i]? = some bn) (hv : Vis S.sc bn) (h : PD S Γ 0 e cInt (· = m)) (hm : 0 < m ∧ m < 1073741824)
    (he : ∀ env : Env, starEach [.Name bn pb, e] env = (false, eval (.Name bn pb) env) :: starEach [e] env) (he2 : ∀ env : Env, starEach [e] env = (false, eval e env) :: starEach [] env) (hpl : ∀ env : Env, (backTo pos (starEach [e] env)).any (·.1) = false) (hd : (bn == ("__debug__" : Str)) = false := by decide) (hcd : (bn == ("__classdict__" : Str)) = false := by decide) :
    PD S Γ 1 (.Call (.Name "_law_take" pn) [.Name bn pb, e] [] pos) cInt (fun x => 0 ≤ x ∧ x < m) :=
  pcalX (k1 := 0) (k2 := 1) C_take hl hg (pda_boxp (k2 := 0) hΓ hN hv (pda_one h he2) hd hcd) (fun as e => ⟨m, z, e, hm, Nat.le_refl _, fun _ h => h⟩) he hpl
end
section
variable {P : Program} {w : World} {K : PySem.W.Frag} {mg : Str → Option Value} {base : Heap}
variable (U : Bt mg)
include U
theorem c_take (D : Def K mg "_law_take" (top 25)) : Cal P w K mg base "_law_take" ["box", "many"] 1 spTake :=
  cal_of D (fun _ _ _ _ _ _ us hl => match us, hl with | [_, _], _ => rfl) fun f fd F => ok_take F U.int
abbrev nMixed : List Str := ["box", "things", "left", "found", "turn"]
abbrev P_mixed : Sp := spD (fun b (a : List R3) => [.bx b, .d (cList cI3) a]) (fun a => a.length) (fun a => a.length ≤ 8) (cList cI3) (fun a x => x.Perm a)
theorem c_mixed (D : Def K mg "_law_mixed" (top 26)) (C_take : Cal P w K mg base "_law_take" ["box", "many"] 1 spTake) : Cal P w K mg base "_law_mixed" ["box", "things"] 2 P_mixed := by
  refine cal_D (N := nMixed) D (fun _ _ _ _ _ _ us hl => match us, hl with | [_, _], _ => rfl) ⟨rfl, rfl, rfl, by decide +kernel, rfl, by decide +kernel, by decide +kernel⟩ (fun _ _ => rfl) (by decide) (fun _ _ => trivial) fun b a hp => ?_
  refine HS.le (k := 0 + 0 + (0 + a.length + 0)) ?_ (by omega)
  refine bpar (k1 := 0) (k2 := 0) (kr := 0 + a.length + 0) 2 3 (TDF.tx' (plist rfl U.list (TD.seqL (pd_name (i := 1) rfl rfl (.inl rfl))) (fun _ => rfl))) (TDF.tx' (pdf_nil (c := cI3))) trivial trivial (by decide) (fun z => nomatch z) (fun z => nomatch z) rfl rfl rfl rfl (fun _ => rfl) (fun _ => rfl) (fun env he => by cases env; cases he; rfl) (fun env he => by cases env; cases he; rfl) ?_
  refine bfor (k := 0) (kk := 1) (kn := a.length) (k2 := 0) [4] (fun xs pre Γ => pre.length ≤ a.length ∧ ∃ left found : List R3, left.length + pre.length = a.length ∧ (found ++ left).Perm a ∧ Γ = entry nMixed [.bx b, .d (cList cI3) a, .l cI3 left, .l cI3 found]) (prng1 rfl U.range (plen rfl U.len (TD.seqL (pd_name (i := 1) rfl rfl (.inl rfl))) (fun _ => rfl)) (by omega) (fun _ => rfl)) ?_ ?_ ?_ (fun _ _ => rfl) ?_
  · rintro _ rfl
    exact ⟨Nat.zero_le _, a, [], by simp, by simp, rfl⟩
  · rintro _ rfl; rw [rangeL_len]; simp
  · rintro _ rfl pre x post _ hx ⟨hl0, left, found, hl1, hl2, rfl⟩
    have hlen := congrArg List.length hx
    rw [rangeL_len, List.length_append, List.length_cons] at hlen
    have hlt : pre.length < a.length := by simp at hlen; omega
    refine ⟨_, _, pdg_name (i := 4) trivial rfl (.inl rfl) (.inl rfl), ?_⟩
    have hfl : found.length ≤ 8 := by have := hl2.length_eq; rw [List.length_append] at this; omega
    refine bappendPop (k := 1) (kr := 0) 3 2 (by decide) rfl rfl (ptake C_take (show (1 : Nat) ≤ 1 by decide) rfl (i := 0) rfl rfl (.inl rfl) (td_view (i := 2) rfl flat_int (plen rfl U.len (TD.seqL (pd_name (i := 2) rfl rfl (.inl rfl))) (fun _ => rfl))) (by omega) (fun _ => rfl) (fun _ => rfl) (fun _ => rfl)) (by unfold LB; omega) (by unfold LB; omega) rfl rfl (.inl rfl) (.inl rfl) (fun _ => rfl) (fun _ => rfl) rfl rfl (fun _ => rfl) (fun _ => rfl) (fun _ => rfl) fun z hz => ?_
    have hz2 : z.toNat < left.length := by omega
    refine ⟨z.toNat, left[z.toNat], by omega, List.getElem?_eq_getElem hz2, phs_nil ⟨trivial, by rw [List.length_append]; simp; omega, left.eraseIdx z.toNat, found ++ [left[z.toNat]], ?_, ?_, rfl⟩⟩
    · rw [List.length_eraseIdx_of_lt hz2, List.length_append]; simp; omega
    · rw [List.append_assoc]
      exact (List.Perm.append_left found (erase_perm hz2)).trans hl2
  · rintro _ _ rfl ⟨_, left, found, hl1, hl2, rfl⟩
    have : left = [] := by
      rw [rangeL_len] at hl1; simp at hl1; exact hl1
    subst this
    refine hs_freeze (i := 3) rfl trivial ?_
    refine bret (pd_name (i := 3) rfl rfl (.inl rfl)) ?_
    rintro _ rfl
    simpa using hl2
end
end K04

set_option Elab.async false
set_option linter.all false
set_option maxRecDepth 100000
set_option maxHeartbeats 4000000
namespace K04
open PySem PySem.Spec L2 DL
def Wld (ws : List R3) : Prop := World1 ws ∧ (∀ r ∈ ws, 0 ≤ r.1 ∧ r.1 < 8) ∧ (ws.map (·.1)).Nodup ∧ ws.length ≤ 6
theorem Wld.perm {a b : List R3} (h : Wld a) (p : b.Perm a) : Wld b :=
  ⟨fun r hr => h.1 r (p.mem_iff.mp hr), fun r hr => h.2.1 r (p.mem_iff.mp hr), (p.map (·.1)).nodup_iff.mpr h.2.2.1, by rw [p.length_eq]; exact h.2.2.2⟩
theorem range8_nodup : (rangeL 0 8).Nodup := by decide +kernel
theorem range8_in : ∀ x ∈ rangeL 0 8, 0 ≤ x ∧ x < 8 := by decide +kernel
section
variable {P : Program} {w : PySem.World} {K : PySem.W.Frag} {mg : Str → Option Value} {base : Heap}
end
section
variable {P : Program} {w : PySem.World} {K : PySem.W.Frag} {mg : Str → Option Value} {base : Heap}
variable (U : Bt mg)
include U
abbrev nWorld : List Str := ["box", "found", "left", "many", "turn", "spot"]
abbrev P_world : Sp := spD (fun b (a : Unit) => [.bx b]) (fun _ => 19) (fun _ => True) (cList cI3) (fun _ x => Wld x)
theorem c_world (D : Def K mg "_law_world" (top 27)) (C_take : Cal P w K mg base "_law_take" ["box", "many"] 1 spTake) : Cal P w K mg base "_law_world" ["box"] 2 P_world := by
  refine cal_D (N := nWorld) D (fun _ _ _ _ _ _ us hl => match us, hl with | [_], _ => rfl) ⟨rfl, rfl, rfl, by decide +kernel, rfl, by decide +kernel, by decide +kernel⟩ (fun _ _ => rfl) (by decide) (fun _ _ => trivial) fun b a hp => ?_
  refine HS.le (k := 0 + 0 + (1 + (0 + 18 + 0))) ?_ (by decide)
  refine bpar (k1 := 0) (k2 := 0) (kr := 1 + (0 + 18 + 0)) 1 2 (TDF.tx' (pdf_nil (c := cI3))) (TDF.tx' (plrg1 rfl U.list rfl U.range pd_int (by decide) (fun _ => rfl) (fun _ => rfl))) trivial trivial (by decide) (fun z => nomatch z) (fun z => nomatch z) rfl rfl rfl rfl (fun _ => rfl) (fun _ => rfl) (fun env he => by cases env; cases he; rfl) (fun env he => by cases env; cases he; rfl) ?_
  refine bset (c := cInt) (k := 1) (k2 := 0 + 18 + 0) (P := fun z : Int => 1 ≤ z ∧ z ≤ 6) 3 (pd_ixR (k1 := 0) (k2 := 1) ixLG (TDF.td (plst (.cons pd_int (.cons pd_int (.cons pd_int (.cons pd_int (.cons pd_int .nil (fun _ => rfl)) (fun _ => rfl)) (fun _ => rfl)) (fun _ => rfl)) (fun _ => rfl)) (by simp))) (ptake C_take (show (1 : Nat) ≤ 1 by decide) rfl (i := 0) rfl rfl (.inl rfl) (pd_int (i := 5)) (by decide) (fun _ => rfl) (fun _ => rfl) (fun _ => rfl)) (fun x y hx hy => ?_) (fun _ _ => rfl)) trivial rfl (.inl rfl) (fun _ _ => rfl) (.inl rfl) ?_
  · subst hx
    refine rd_ixL ⟨_, atI_at ⟨hy.1, hy.2⟩, ?_⟩
    have h5 : y.toNat < 5 := by omega
    generalize y.toNat = n at h5
    match n, h5 with
    | 0, _ => decide
    | 1, _ => decide
    | 2, _ => decide
    | 3, _ => decide
    | 4, _ => decide
  intro many hmany
  refine bfor (k := 0) (kk := 1 + (2 + 0)) (kn := 18) (k2 := 0) [4, 5] (fun xs pre Γ => pre.length ≤ 6 ∧ ∃ (found : List R3) (left : List Int), found.length = pre.length ∧ World1 found ∧ (found.map (·.1) ++ left).Perm (rangeL 0 8) ∧ Γ = entry nWorld [.bx b, .l cI3 found, .l cInt left, .d cInt many]) (prng1 rfl U.range (pd_name (i := 3) rfl rfl (.inl rfl)) (by omega) (fun _ => rfl)) ?_ ?_ ?_ (fun _ _ => rfl) ?_
  · rintro _ rfl
    exact ⟨Nat.zero_le _, [], rangeL 0 8, rfl, fun _ h => (nomatch h), by simp, rfl⟩
  · rintro _ rfl; rw [rangeL_len]; omega
  · rintro _ rfl pre x post _ hx ⟨hl0, found, left, hl1, hw, hpm, rfl⟩
    have hlen := congrArg List.length hx
    rw [rangeL_len, List.length_append, List.length_cons] at hlen
    have hlt : pre.length < 6 := by omega
    have hll := hpm.length_eq
    rw [rangeL_len, List.length_append, List.length_map] at hll
    refine ⟨_, _, pdg_name (i := 4) trivial rfl (.inl rfl) (.inl rfl), ?_⟩
    refine bsetPop (k := 1) (kr := 2 + 0) 5 2 (by decide) rfl trivial (ptake C_take (show (1 : Nat) ≤ 1 by decide) rfl (i := 0) rfl rfl (.inl rfl) (td_view (i := 2) rfl flat_int (plen rfl U.len (TD.seqL (pd_name (i := 2) rfl rfl (.inl rfl))) (fun _ => rfl))) (by omega) (fun _ => rfl) (fun _ => rfl) (fun _ => rfl)) (by unfold LB; omega) rfl rfl (.inl rfl) (.inl rfl) (fun _ => rfl) rfl (fun _ => rfl) (fun _ _ => rfl) (.inl rfl) fun z hz => ?_
    have hz2 : z.toNat < left.length := by omega
    refine ⟨z.toNat, left[z.toNat], by omega, List.getElem?_eq_getElem hz2, ?_⟩
    refine bappend (k := 2) (k2 := 0) (P := fun r : R3 => r.1 = left[z.toNat] ∧ (0 ≤ r.2.1 ∧ r.2.1 ≤ 3) ∧ 2 ≤ r.2.2 ∧ r.2.2 ≤ 3) 1 rfl (TD.imp (pd_t3 (k1 := 0) (k2 := 1) (k3 := 1) (pd_name (i := 5) rfl rfl (.inl rfl)) (ptake C_take (show (1 : Nat) ≤ 1 by decide) rfl (i := 0) rfl rfl (.inl rfl) (pd_int (i := 4)) (by decide) (fun _ => rfl) (fun _ => rfl) (fun _ => rfl)) (pd_bin (k1 := 0) (k2 := 1) (P3 := fun v : Int => 2 ≤ v ∧ v ≤ 3) (fun _ _ => op_add) (pd_int (i := 2)) (ptake C_take (show (1 : Nat) ≤ 1 by decide) rfl (i := 0) rfl rfl (.inl rfl) (pbin (fun _ _ => op_sub) (pd_int (i := 2)) (pbin (fun _ _ => op_fdiv) (pd_name (i := 3) rfl rfl (.inl rfl)) (pd_int (i := 6)) (rd_I ⟨by decide, by decide⟩)) rd_I0) (by omega) (fun _ => rfl) (fun _ => rfl) (fun _ => rfl)) (fun x y hx hy Hf H v u e h1 h2 Q q => rd_I0 (g := fun i j => i + j) Hf H v u e h1 h2 Q fun z' Hf' H' w' pz => q z' Hf' H' w' (by subst hx pz; omega))) (fun _ => rfl) (fun _ => rfl) (fun _ => rfl)) fun r hr => ?_) (by unfold LB; omega) rfl (.inl rfl) (fun _ => rfl) rfl (fun _ => rfl) (fun _ => rfl) ?_
    · obtain ⟨h1, h2, h3⟩ := hr
      exact ⟨h1, ⟨h2.1, by omega⟩, h3⟩
    · rintro r ⟨hr1, hr2, hr3⟩
      refine phs_nil ⟨trivial, by rw [List.length_append]; simp; omega, found ++ [r], left.eraseIdx z.toNat, by rw [List.length_append, List.length_append, hl1]; rfl, ?_, ?_, rfl⟩
      · intro q hq
        rcases List.mem_append.mp hq with h | h
        · exact hw q h
        · rw [List.mem_singleton.mp h]; exact ⟨hr2.1, hr2.2, hr3⟩
      · rw [List.map_append, List.append_assoc]
        show (found.map (·.1) ++ (r.1 :: left.eraseIdx z.toNat)).Perm _
        rw [hr1]
        exact (List.Perm.append_left _ (erase_perm hz2)).trans hpm
  · rintro _ _ rfl ⟨hl0, found, left, hl1, hw, hpm, rfl⟩
    have hnd : (found.map (·.1) ++ left).Nodup := hpm.nodup_iff.mpr range8_nodup
    have hin : ∀ r ∈ found, 0 ≤ r.1 ∧ r.1 < 8 := fun r hr => range8_in _ (hpm.mem_iff.mp (List.mem_append_left _ (List.mem_map.mpr ⟨r, hr, rfl⟩)))
    have hW : Wld found := ⟨hw, hin, (List.nodup_append.mp hnd).1, by omega⟩
    refine hs_freeze (i := 1) rfl trivial ?_
    refine bret (TDF.td (psort3 rfl U.sorted (pd_name (i := 1) rfl rfl (.inl rfl)) (by omega) (fun r hr => ?_) (fun _ => rfl))) ?_
    · have h1 := hin r hr
      have h2 := hw r hr
      exact ⟨⟨h1.1, by omega⟩, ⟨h2.1, by omega⟩, by omega, by omega⟩
    · rintro _ rfl
      exact hW.perm (sortBy_perm _ _)
end
end K04

set_option Elab.async false
set_option linter.all false
set_option maxRecDepth 100000
set_option maxHeartbeats 4000000
namespace K04
open PySem PySem.Spec L2 DL
def InW (ws rs : List R3) : Prop := ∀ r ∈ rs, ∃ q ∈ ws, q.1 = r.1 ∧ (q.2.1 ≤ r.2.1 ∧ r.2.1 < q.2.1 + q.2.2) ∧ (q.2.1 ≤ r.2.2 ∧ r.2.2 < q.2.1 + q.2.2)
theorem wld_one {ws : List R3} (h : (ws.map (·.1)).Nodup) {a b : R3} (ha : a ∈ ws) (hb : b ∈ ws) (e : a.1 = b.1) : a = b := by
  induction ws with
  | nil => cases ha
  | cons x ws ih =>
    rw [List.map_cons, List.nodup_cons] at h
    rcases List.mem_cons.mp ha with h1 | h1
    · rcases List.mem_cons.mp hb with h2 | h2
      · rw [h1, h2]
      · exact absurd (List.mem_map.mpr ⟨b, h2, by rw [← e, h1]⟩) h.1
    · rcases List.mem_cons.mp hb with h2 | h2
      · exact absurd (List.mem_map.mpr ⟨a, h1, by rw [e, h2]⟩) h.1
      · exact ih h.2 h1 h2
theorem HS_ctx_note : True := trivial
theorem ix0 {l : List Int} {m : Bool} (h : true = (!decide (l = []) && m)) : 0 ≤ (0 : Int) ∧ (0 : Int) < (l.length : Int) := by
  cases l with
  | nil => simp at h
  | cons x l => simp
theorem pick0 {l : List Int} {m : Bool} {o : Int} {Q : Int → Prop} (h1 : ∀ n ∈ l, Q n) (h2 : Q o) : Q (if (!decide (l = []) && m) = true then l.getD (0 : Int).toNat default else o) := by
  cases l with
  | nil => simp; exact h2
  | cons x l =>
    split
    · exact h1 x List.mem_cons_self
    · exact h2
section
variable {P : Program} {w : PySem.World} {K : PySem.W.Frag} {mg : Str → Option Value} {base : Heap}
variable (U : Bt mg)
include U
abbrev nTrip : List Str := ["box", "world", "ahead", "clash", "found", "share", "spot", "least", "many", "old", "new", "put", "meets", "news", "row"]
abbrev P_triples : Sp := spD (fun b (a : List R3 × List R3 × Int) => [.bx b, .d (cList cI3) a.1, .d (cList cI3) a.2.1, .d cInt a.2.2]) (fun _ => 30) (fun a => Wld a.1 ∧ InW a.1 a.2.1) (cList cI3) (fun a x => InW a.1 x ∧ (x.map (·.1)).Sublist (a.1.map (·.1)))
theorem c_triples (D : Def K mg "_law_triples" (top 29)) (C_take : Cal P w K mg base "_law_take" ["box", "many"] 1 spTake) : Cal P w K mg base "_law_triples" ["box", "world", "ahead", "clash"] 2 P_triples := by
  refine cal_D (N := nTrip) D (fun _ _ _ _ _ _ us hl => match us, hl with | [_, _, _, _], _ => rfl) ⟨rfl, rfl, rfl, by decide +kernel, rfl, by decide +kernel, by decide +kernel⟩ (fun _ _ => rfl) (by decide) (fun _ _ => trivial) fun b a hp => ?_
  obtain ⟨⟨hw1, hw2, hw3, hw4⟩, ha⟩ := hp
  refine HS.le (k := 0 + 1 + (0 + 24 + 0)) ?_ (by show _ ≤ 30; decide)
  refine bparP (k1 := 0) (k2 := 1) (kr := 0 + 24 + 0) 4 5 (R1 := (· = .l cI3 ([] : List R3))) (R2 := fun s => ∃ x : Int, True ∧ s = .d cInt x) (TDF.tx' (pdf_nil (c := cI3))) (TD.tx (TD.imp (pd_bin (k1 := 0) (k2 := 1) (P3 := fun _ : Int => True) (fun _ _ => op_add) (pd_int (i := 2)) (ptake C_take (show (1 : Nat) ≤ 1 by decide) rfl (i := 0) rfl rfl (.inl rfl) (pd_int (i := 2)) (by decide) (fun _ => rfl) (fun _ => rfl) (fun _ => rfl)) (fun x y hx hy Hf H v u e h1 h2 Q q => rd_I0 (g := fun i j => i + j) Hf H v u e h1 h2 Q fun z' Hf' H' w' pz => q z' Hf' H' w' trivial)) fun _ h => h)) trivial trivial (by decide) (fun s e z => by rw [e] at z; cases z) nun rfl rfl rfl rfl (fun _ => rfl) (fun _ => rfl) (fun env he => by cases env; cases he; rfl) (fun env he => by cases env; cases he; rfl) ?_
  rintro _ _ rfl ⟨share, _, rfl⟩
  refine bfor (k := 0) (kk := 1 + 1 + (1 + 1 + (0 + (0 + 0)))) (kn := 24) (k2 := 0) [6, 7, 8, 9, 10, 11, 12, 13] (fun xs pre Γ => ∃ found : List R3, InW a.1 found ∧ (found.map (·.1)).Sublist (pre.map (·.1)) ∧ Γ = entry nTrip [.bx b, .d (cList cI3) a.1, .d (cList cI3) a.2.1, .d cInt a.2.2, .l cI3 found, .d cInt share]) (pdi_list (pd_name (i := 1) rfl rfl (.inl rfl))) ?_ ?_ ?_ (fun _ _ => rfl) ?_
  · rintro _ rfl
    exact ⟨[], fun _ h => (nomatch h), List.Sublist.refl _, rfl⟩
  · rintro _ rfl; omega
  · rintro _ rfl pre x post _ hx ⟨found, hf1, hf2, rfl⟩
    have hxm : x ∈ a.1 := by rw [hx]; simp
    have hx1 := hw1 x hxm
    have hplen : pre.length ≤ 6 := by have := congrArg List.length hx; rw [List.length_append] at this; omega
    have hfl : found.length ≤ 6 := by have := hf2.length_le; rw [List.length_map, List.length_map] at this; omega
    refine ⟨_, _, pdg_t3 (pdg_name (i := 6) trivial rfl (.inr rfl) (.inl rfl)) (pdg_name (i := 7) trivial rfl (.inl rfl) (.inl rfl)) (pdg_name (i := 8) trivial rfl (.inl rfl) (.inl rfl)) (fun _ => rfl) (fun _ => rfl) (fun _ => rfl) (fun _ => rfl) (fun _ => rfl), ?_⟩
    refine HS.ctx (Γ' := [.bx b, .d (cList cI3) a.1, .d (cList cI3) a.2.1, .d cInt a.2.2, .l cI3 found, .d cInt share, .d cInt x.1, .d cInt x.2.1, .d cInt x.2.2, .un, .un, .un, .un, .un, .un]) rfl ?_
    refine bparP (k1 := 1) (k2 := 1) (kr := 1 + 1 + (0 + (0 + 0))) 9 10 (R1 := fun s => ∃ v : Int, (x.2.1 ≤ v ∧ v < x.2.1 + x.2.2) ∧ s = .d cInt v) (R2 := fun s => ∃ v : Int, (x.2.1 ≤ v ∧ v < x.2.1 + x.2.2) ∧ s = .d cInt v)
      (TD.tx (pd_bin (k1 := 0) (k2 := 1) (P3 := fun v : Int => x.2.1 ≤ v ∧ v < x.2.1 + x.2.2) (fun _ _ => op_add) (pd_name (i := 7) rfl rfl (.inl rfl)) (ptake C_take (show (1 : Nat) ≤ 1 by decide) rfl (i := 0) rfl rfl (.inl rfl) (pd_name (i := 8) rfl rfl (.inl rfl)) (by omega) (fun _ => rfl) (fun _ => rfl) (fun _ => rfl)) (fun i j hi hj Hf H v u e h1 h2 Q q => rd_I0 (g := fun i j => i + j) Hf H v u e h1 h2 Q fun z' Hf' H' w' pz => q z' Hf' H' w' (by subst hi pz; omega))))
      (TD.tx (pd_bin (k1 := 0) (k2 := 1) (P3 := fun v : Int => x.2.1 ≤ v ∧ v < x.2.1 + x.2.2) (fun _ _ => op_add) (pd_name (i := 7) rfl rfl (.inl rfl)) (ptake C_take (show (1 : Nat) ≤ 1 by decide) rfl (i := 0) rfl rfl (.inl rfl) (pd_name (i := 8) rfl rfl (.inl rfl)) (by omega) (fun _ => rfl) (fun _ => rfl) (fun _ => rfl)) (fun i j hi hj Hf H v u e h1 h2 Q q => rd_I0 (g := fun i j => i + j) Hf H v u e h1 h2 Q fun z' Hf' H' w' pz => q z' Hf' H' w' (by subst hi pz; omega))))
      trivial trivial (by decide) nun nun rfl rfl rfl rfl (fun _ => rfl) (fun _ => rfl) (fun env he => by cases env; cases he; rfl) (fun env he => by cases env; cases he; rfl) ?_
    rintro _ _ ⟨o, ho, rfl⟩ ⟨nw, hnw, rfl⟩
    refine HS.ctx (Γ' := [.bx b, .d (cList cI3) a.1, .d (cList cI3) a.2.1, .d cInt a.2.2, .l cI3 found, .d cInt share, .d cInt x.1, .d cInt x.2.1, .d cInt x.2.2, .d cInt o, .d cInt nw, .un, .un, .un, .un]) rfl ?_
    refine bparP (k1 := 1) (k2 := 1) (kr := 0 + (0 + 0)) 11 12 (R1 := fun s => ∃ v : Bool, True ∧ s = .d cBool v) (R2 := fun s => ∃ v : Bool, True ∧ s = .d cBool v)
      (TD.tx (pd_cmp (k1 := 1) (k2 := 0) (P3 := fun _ => True) (fun _ _ => op_lt) (ptake C_take (show (1 : Nat) ≤ 1 by decide) rfl (i := 0) rfl rfl (.inl rfl) (pd_int (i := 4)) (by decide) (fun _ => rfl) (fun _ => rfl) (fun _ => rfl)) (pd_name (i := 5) rfl rfl (.inl rfl)) (fun i j hi hj Hf H v u e h1 h2 Q q => rd_B0 (g := fun i j => decide (i < j)) Hf H v u e h1 h2 Q fun z' Hf' H' w' pz => q z' Hf' H' w' trivial) (nomark _)))
      (TD.tx (TD.imp (pd_orG (k1 := 0) (k2 := 1) (A1 := fun _ => True) (B1 := fun _ => True) (TD.imp (pcmp (fun _ _ => op_eq) (pd_name (i := 3) rfl rfl (.inl rfl)) (pd_int (i := 0)) rd_eqI (nomark _)) fun _ _ => trivial) fun _ => pd_one (pd_cmp (k1 := 1) (k2 := 0) (P3 := fun _ => True) (fun _ _ => op_gt) (ptake C_take (show (1 : Nat) ≤ 1 by decide) rfl (i := 0) rfl rfl (.inl rfl) (pd_int (i := 3)) (by decide) (fun _ => rfl) (fun _ => rfl) (fun _ => rfl)) (pd_int (i := 0)) (fun i j hi hj Hf H v u e h1 h2 Q q => rd_B0 (g := fun i j => decide (j < i)) Hf H v u e h1 h2 Q fun z' Hf' H' w' pz => q z' Hf' H' w' trivial) (nomark _))) fun _ _ => trivial))
      trivial trivial (by decide) nun nun rfl rfl rfl rfl (fun _ => rfl) (fun _ => rfl) (fun env he => by cases env; cases he; rfl) (fun env he => by cases env; cases he; rfl) ?_
    rintro _ _ ⟨put, _, rfl⟩ ⟨meets, _, rfl⟩
    refine HS.ctx (Γ' := [.bx b, .d (cList cI3) a.1, .d (cList cI3) a.2.1, .d cInt a.2.2, .l cI3 found, .d cInt share, .d cInt x.1, .d cInt x.2.1, .d cInt x.2.2, .d cInt o, .d cInt nw, .d cBool put, .d cBool meets, .un, .un]) rfl ?_
    refine bsetLc (k := 0) (k2 := 0 + 0) 13 [("row", 14)] (tdf_lcT (pdi_list (pd_name (i := 2) rfl rfl (.inl rfl))) trivial fun r hr => ⟨_, _, (pdg_name (i := 14) trivial rfl (.inl rfl) (.inr rfl)), (fun _ h => h), (tts_one (tcmp (fun _ _ => op_eq) (pix ixTG (pd_name (i := 14) rfl rfl (.inl rfl)) pd_int rd_ix3_0 (fun _ _ => rfl)) (pd_name (i := 6) rfl rfl (.inr (.inl rfl))) rd_eqI (nomark _))), fun hq => (pix ixTG (pd_name (i := 14) rfl rfl (.inl rfl)) pd_int rd_ix3_2 (fun _ _ => rfl))⟩) trivial rfl rfl rfl rfl rfl (by kernel_rfl) (fun _ _ => rfl) ?_
    rintro _ rfl
    refine HS.ctx (Γ' := [.bx b, .d (cList cI3) a.1, .d (cList cI3) a.2.1, .d cInt a.2.2, .l cI3 found, .d cInt share, .d cInt x.1, .d cInt x.2.1, .d cInt x.2.2, .d cInt o, .d cInt nw, .d cBool put, .d cBool meets, .d (cList cInt) ((a.2.1.filter fun r : R3 => decide (r.1 = x.1)).map fun r : R3 => r.2.2), .un]) rfl ?_
    refine bifS (k1 := 0) (k2 := 0) (k3 := 0) (kr := 0) (b' := (· = put)) (N1 := fun Γ => ∃ (found' : List R3) (lst : List Sl), InW a.1 found' ∧ (found'.map (·.1)).Sublist ((pre ++ [x]).map (·.1)) ∧ NoBxs Γ [6, 7, 8, 9, 10, 11, 12, 13] ∧ wipeC Γ [6, 7, 8, 9, 10, 11, 12, 13] = entry nTrip [.bx b, .d (cList cI3) a.1, .d (cList cI3) a.2.1, .d cInt a.2.2, .l cI3 found', .d cInt share]) (pdt_val (pd_name (i := 11) rfl rfl (.inl rfl)) (fun _ _ => rfl)) (fun h => ?_) (fun h => ?_) ?_
    · have hmem : ∀ n ∈ (a.2.1.filter fun r : R3 => decide (r.1 = x.1)).map fun r : R3 => r.2.2, x.2.1 ≤ n ∧ n < x.2.1 + x.2.2 := fun n hn => by
        obtain ⟨q, hq, e⟩ := List.mem_map.mp hn
        obtain ⟨hq1, hq2⟩ := List.mem_filter.mp hq
        obtain ⟨ww, h1, h2, h3, h4⟩ := ha q hq1
        have : ww = x := wld_one hw3 h1 hxm (by rw [h2]; exact of_decide_eq_true hq2)
        subst this
        rw [← e]; exact h4
      refine bappend (k := 0) (k2 := 0) 4 rfl (pt3 (pd_name (i := 6) rfl rfl (.inr (.inl rfl))) (pif (pdt_w (tand (tcmp (op_neDG rfl) (pd_name (i := 13) rfl rfl (.inl rfl)) (TDF.td (pdf_nil (c := cInt))) (rd_neD (eList eInt) (by decide)) (nomark _)) fun _ => pdw_and1 (pdt_val (pd_name (i := 12) rfl rfl (.inl rfl)) (fun _ _ => rfl)))) (fun hc => (pix ixLG (pd_name (i := 13) rfl rfl (.inl rfl)) pd_int (rd_ixLd ?_) (fun _ _ => rfl))) fun hc => (pd_name (i := 9) rfl rfl (.inl rfl))) (pd_name (i := 10) rfl rfl (.inl rfl)) (fun _ => rfl) (fun _ => rfl) (fun _ => rfl)) (by unfold LB; omega) rfl (.inl rfl) (fun _ => rfl) rfl (fun _ => rfl) (fun _ => rfl) ?_
      · exact ix0 hc.symm
      · rintro _ rfl
        refine phs_nil ⟨found ++ [_], [], ?_, ?_, trivial, rfl⟩
        · intro r hr
          rcases List.mem_append.mp hr with h1 | h1
          · exact hf1 r h1
          · rw [List.mem_singleton.mp h1]
            refine ⟨x, hxm, rfl, ?_, hnw⟩
            dsimp only
            exact pick0 (Q := fun v => x.2.1 ≤ v ∧ v < x.2.1 + x.2.2) hmem ho
        · rw [List.map_append, List.map_append]
          exact List.Sublist.append hf2 (List.Sublist.refl _)
    · refine phs_nil ⟨found, [], hf1, ?_, trivial, rfl⟩
      rw [List.map_append]
      exact hf2.trans (List.sublist_append_left _ _)
    · rintro Γ1 ⟨found', _, h1, h2, h3, h4⟩
      exact phs_nil ⟨h3, found', h1, h2, h4⟩
  · rintro _ _ rfl ⟨found, hf1, hf2, rfl⟩
    refine hs_freeze (i := 4) rfl trivial ?_
    refine bret (pd_name (i := 4) rfl rfl (.inl rfl)) ?_
    rintro _ rfl
    exact ⟨hf1, hf2⟩
end
end K04

set_option Elab.async false
set_option linter.all false
set_option maxRecDepth 100000
set_option maxHeartbeats 4000000
namespace K04
open PySem PySem.Spec L2 DL
/-! ### the plain law: rows by places -/
def look (rs : List R3) (p : Int) : Option (Int × Int) := (rs.find? fun r => decide (r.1 = p)).map fun r => r.2
theorem look_nil (p : Int) : look [] p = none := rfl
theorem look_cons (r : R3) (rs : List R3) (p : Int) : look (r :: rs) p = if r.1 = p then some r.2 else look rs p := by
  unfold look
  rw [List.find?_cons]
  by_cases h : r.1 = p
  · rw [if_pos h, show decide (r.1 = p) = true from decide_eq_true h]; rfl
  · rw [if_neg h, show decide (r.1 = p) = false from decide_eq_false h]
theorem look_none {p : Int} : ∀ {rs : List R3}, look rs p = none ↔ p ∉ rs.map (·.1)
  | [] => by simp [look_nil]
  | r :: rs => by
    rw [look_cons, List.map_cons, List.mem_cons]
    by_cases h : r.1 = p
    · rw [if_pos h]; simp [h]
    · rw [if_neg h, look_none (rs := rs)]
      constructor
      · rintro h1 (h2 | h2)
        · exact h h2.symm
        · exact h1 h2
      · intro h1 h2; exact h1 (.inr h2)
theorem look_mem {p : Int} {v : Int × Int} : ∀ {rs : List R3}, look rs p = some v → (p, v) ∈ rs
  | [], h => by simp [look_nil] at h
  | r :: rs, h => by
    rw [look_cons] at h
    by_cases e : r.1 = p
    · rw [if_pos e] at h
      injection h with h
      rw [← e, ← h]; exact List.mem_cons_self
    · rw [if_neg e] at h; exact List.mem_cons_of_mem _ (look_mem h)
theorem mem_look {p : Int} {v : Int × Int} : ∀ {rs : List R3}, (rs.map (·.1)).Nodup → (p, v) ∈ rs → look rs p = some v
  | [], _, h => nomatch h
  | r :: rs, nd, h => by
    rw [List.map_cons, List.nodup_cons] at nd
    rw [look_cons]
    rcases List.mem_cons.mp h with e | e
    · rw [← e, if_pos rfl]
    · have : ¬ r.1 = p := fun z => nd.1 (by rw [z]; exact List.mem_map.mpr ⟨_, e, rfl⟩)
      rw [if_neg this]; exact mem_look nd.2 e
theorem look_iff {p : Int} {v : Int × Int} {rs : List R3} (nd : (rs.map (·.1)).Nodup) : look rs p = some v ↔ (p, v) ∈ rs := ⟨look_mem, mem_look nd⟩
theorem look_perm {a b : List R3} (nd : (a.map (·.1)).Nodup) (h : a.Perm b) (p : Int) : look a p = look b p := by
  have nb : (b.map (·.1)).Nodup := (h.map _).nodup_iff.mp nd
  apply Option.ext
  intro v
  rw [look_iff nd, look_iff nb, h.mem_iff]
theorem look_map (g : Int → Int × Int → Int × Int) (p : Int) : ∀ y : List R3, look (y.map fun x => (x.1, g x.1 x.2)) p = (look y p).map (g p)
  | [] => rfl
  | r :: y => by
    rw [List.map_cons, look_cons, look_cons, look_map g p y]
    by_cases e : r.1 = p
    · rw [if_pos e, if_pos e, e]; rfl
    · rw [if_neg e, if_neg e]
theorem look_append (a b : List R3) (p : Int) : look (a ++ b) p = (look a p).or (look b p) := by
  unfold look
  rw [List.find?_append]
  cases a.find? fun r => decide (r.1 = p) <;> rfl
theorem look_filter (q : Int → Bool) (p : Int) : ∀ z : List R3, look (z.filter fun r => q r.1) p = if q p = true then look z p else none
  | [] => by simp [look_nil]
  | r :: z => by
    rw [List.filter_cons]
    by_cases e : r.1 = p
    · subst e
      by_cases h : q r.1 = true
      · rw [if_pos h, if_pos h, look_cons, look_cons, if_pos rfl, if_pos rfl]
      · rw [if_neg h, if_neg h]
        have := look_filter q r.1 z
        rw [if_neg h] at this; exact this
    · by_cases h : q r.1 = true
      · rw [if_pos h, look_cons, if_neg e, look_filter q p z, look_cons, if_neg e]
      · rw [if_neg h, look_filter q p z, look_cons, if_neg e]
theorem perm_mem {α : Type} [DecidableEq α] : ∀ {l m : List α}, l.Nodup → m.Nodup → (∀ a, a ∈ l ↔ a ∈ m) → l.Perm m
  | [], m, _, _, h => by
    cases m with
    | nil => exact .nil
    | cons x m => exact absurd ((h x).mpr List.mem_cons_self) List.not_mem_nil
  | x :: l, m, h1, h2, h => by
    have n1 := List.nodup_cons.mp h1
    have hx : x ∈ m := (h x).mp List.mem_cons_self
    have hp := List.perm_cons_erase hx
    have n2 : (m.erase x).Nodup := h2.erase x
    refine (List.Perm.cons x (perm_mem n1.2 n2 fun a => ?_)).trans hp.symm
    rw [List.Nodup.mem_erase_iff h2]
    constructor
    · intro ha
      exact ⟨fun e => n1.1 (e ▸ ha), (h a).mp (List.mem_cons_of_mem _ ha)⟩
    · rintro ⟨ne, ha⟩
      rcases List.mem_cons.mp ((h a).mpr ha) with e | e
      · exact absurd e ne
      · exact e
theorem nodup_fst {rs : List R3} (h : (rs.map (·.1)).Nodup) : rs.Nodup := List.Pairwise.of_map (·.1) (fun a b ne e => ne (by rw [e])) h
theorem sort3_perm_eq {a b : List R3} (h : a.Perm b) (h64 : ∀ r ∈ a, In64 r) : sort3 a = sort3 b :=
  perm_sorted_eq (((sortBy_perm _ a).trans h).trans (sortBy_perm _ b).symm) (sortBy_up _ a) (sortBy_up _ b) fun x hx y hy => code3_inj (h64 x ((sortBy_perm _ a).mem_iff.mp hx)) (h64 y ((sortBy_perm _ a).mem_iff.mp hy))
theorem sort3_perm (a : List R3) : (sort3 a).Perm a := sortBy_perm _ a
theorem Rows.perm {a b : List R3} (h : Rows a) (p : b.Perm a) : Rows b := ⟨fun r hr => h.1 r (p.mem_iff.mp hr), (p.map _).nodup_iff.mpr h.2.1, by rw [p.length_eq]; exact h.2.2⟩
theorem Rows.sort {a : List R3} (h : Rows a) : Rows (sort3 a) := h.perm (sort3_perm a)
theorem sort3_ext {a b : List R3} (ha : Rows a) (hb : Rows b) (h : ∀ p, look a p = look b p) : sort3 a = sort3 b :=
  sort3_perm_eq (perm_mem (nodup_fst ha.2.1) (nodup_fst hb.2.1) fun r => by
    obtain ⟨p, v⟩ := r
    rw [← look_iff ha.2.1, ← look_iff hb.2.1, h]) (rows64 ha)
theorem look_sort {a : List R3} (h : Rows a) (p : Int) : look (sort3 a) p = look a p := look_perm h.sort.2.1 (sort3_perm a) p
theorem sort3_idem {a : List R3} (h : Rows a) : sort3 (sort3 a) = sort3 a := sort3_ext h.sort h (look_sort h)
/-! ### rows that are in order -/
theorem rowOk_iff {r : R3} : rowOk r = true ↔ (0 ≤ r.1 ∧ r.1 < 8) ∧ (0 ≤ r.2.1 ∧ r.2.1 < 6) ∧ (0 ≤ r.2.2 ∧ r.2.2 < 6) := by simp only [rowOk, Bool.and_eq_true, decide_eq_true_eq]
theorem rows_len {rs : List R3} (h1 : ∀ r ∈ rs, rowOk r = true) (h2 : (rs.map (·.1)).Nodup) : rs.length ≤ 8 := by
  have := card_ext.le_of (l := rs.map (·.1)) (m := rangeL 0 8) h2 fun k hk => by
    obtain ⟨r, hr, e⟩ := List.mem_map.mp hk
    have := (rowOk_iff.mp (h1 r hr)).1
    rw [e] at this
    unfold rangeL
    exact List.mem_map.mpr ⟨k.toNat, List.mem_range.mpr (by omega), by omega⟩
  rw [List.length_map, rangeL_len] at this; exact this
theorem rows_mk {rs : List R3} (h1 : ∀ r ∈ rs, rowOk r = true) (h2 : (rs.map (·.1)).Nodup) : Rows rs := ⟨h1, h2, rows_len h1 h2⟩
theorem Rows.look_ok {rs : List R3} (h : Rows rs) {p : Int} {v : Int × Int} (e : look rs p = some v) : (0 ≤ p ∧ p < 8) ∧ (0 ≤ v.1 ∧ v.1 < 6) ∧ (0 ≤ v.2 ∧ v.2 < 6) := rowOk_iff.mp (h.1 _ (look_mem e))
/-! ### one behind the other -/
def comp : Option (Int × Int) → Option (Int × Int) → Option (Int × Int)
  | some (o, _), some (_, n) => some (o, n)
  | some v, none => some v
  | none, z => z
theorem valD_look : ∀ (y : List R3) (p : Int), valD (y.map fun x => (x.1, x.2.2)) p = (look y p).map fun v => v.2
  | [], p => rfl
  | r :: y, p => by
    have ih := valD_look y p
    rw [List.map_cons, look_cons]
    unfold valD at ih ⊢
    rw [List.find?_cons]
    by_cases e : r.1 = p
    · rw [if_pos e, show decide ((r.1, r.2.2).1 = p) = true from decide_eq_true e]; rfl
    · rw [if_neg e, show decide ((r.1, r.2.2).1 = p) = false from decide_eq_false e]; exact ih
theorem dNew_look {y : List R3} (nd : (y.map (·.1)).Nodup) (p : Int) : valD (dNew y) p = (look y p).map fun v => v.2 := by
  unfold dNew
  rw [valD_dicOf, ← List.map_reverse, valD_look]
  rw [look_perm (a := y.reverse) (b := y) ((y.reverse_perm.map _).nodup_iff.mpr nd) y.reverse_perm p]
def gN (z : List R3) (q : Int) (v : Int × Int) : Int × Int := (v.1, ((look z q).map fun v => v.2).getD v.2)
def gQ (y : List R3) (q : Int) : Bool := !((look y q).map fun v => v.2).isSome
theorem look_rowsD {y z : List R3} (ny : (y.map (·.1)).Nodup) (nz : (z.map (·.1)).Nodup) (p : Int) : look (rowsD y z) p = comp (look y p) (look z p) := by
  unfold rowsD
  have h1 : (y.map fun x : R3 => (x.1, x.2.1, (valD (dNew z) x.1).getD x.2.2)) = y.map fun x => (x.1, gN z x.1 x.2) := List.map_congr_left fun x _ => by
    rw [dNew_look nz]; rfl
  have h2 : (z.filter fun r : R3 => !(valD (dNew y) r.1).isSome) = z.filter fun r => gQ y r.1 := List.filter_congr fun x _ => by
    rw [dNew_look ny]; rfl
  rw [h1, h2, look_append, look_map, look_filter]
  unfold gN gQ
  cases e1 : look y p with
  | none =>
    cases e2 : look z p with
    | none => simp [comp]
    | some v => simp [comp]
  | some v =>
    obtain ⟨o, m⟩ := v
    cases e2 : look z p with
    | none => simp [comp]
    | some w => obtain ⟨o2, n⟩ := w; simp [comp]
theorem rows_rowsD {y z : List R3} (hy : Rows y) (hz : Rows z) : Rows (rowsD y z) := by
  refine rows_mk (fun r hr => ?_) ?_
  · unfold rowsD at hr
    rcases List.mem_append.mp hr with h | h
    · obtain ⟨x, hx, e⟩ := List.mem_map.mp h
      have h1 := rowOk_iff.mp (hy.1 x hx)
      subst e
      refine rowOk_iff.mpr ⟨h1.1, h1.2.1, ?_⟩
      rw [dNew_look hz.2.1]
      cases e2 : look z x.1 with
      | none => exact h1.2.2
      | some w => exact (hz.look_ok e2).2.2
    · exact hz.1 r (List.mem_filter.mp h).1
  · unfold rowsD
    rw [List.map_append, List.map_map]
    refine List.nodup_append.mpr ⟨hy.2.1, ?_, fun a ha b hb e => ?_⟩
    · exact (List.Sublist.map _ (List.filter_sublist)).nodup hz.2.1
    · subst e
      obtain ⟨r, hr, e⟩ := List.mem_map.mp hb
      obtain ⟨h1, h2⟩ := List.mem_filter.mp hr
      rw [dNew_look hy.2.1] at h2
      subst e
      have : look y r.1 = none := by
        cases e3 : look y r.1 with
        | none => rfl
        | some v => rw [e3] at h2; simp at h2
      exact look_none.mp this ha
/-! ### back -/
def sw (v : Int × Int) : Int × Int := (v.2, v.1)
theorem look_back (y : List R3) (p : Int) : look (backL y) p = (look y p).map sw := look_map (fun _ v => sw v) p y
theorem rows_back {y : List R3} (h : Rows y) : Rows (backL y) := by
  refine rows_mk (fun r hr => ?_) (by unfold backL; rw [List.map_map]; exact h.2.1)
  unfold backL at hr
  obtain ⟨x, hx, e⟩ := List.mem_map.mp hr
  have h1 := rowOk_iff.mp (h.1 x hx)
  subst e
  exact rowOk_iff.mpr ⟨h1.1, h1.2.2, h1.2.1⟩
/-! ### clashes -/
def Cl (a b : Option (Int × Int)) : Prop := ∃ o m o2 n, a = some (o, m) ∧ b = some (o2, n) ∧ o2 ≠ m
theorem mem_wrongD {y z : List R3} (hy : Rows y) (hz : Rows z) {p : Int} : p ∈ wrongD y z ↔ Cl (look y p) (look z p) := by
  unfold wrongD
  rw [List.mem_map]
  constructor
  · rintro ⟨r, hr, e⟩
    obtain ⟨h1, h2⟩ := List.mem_filter.mp hr
    subst e
    rw [dNew_look hy.2.1] at h2
    cases e1 : look y r.1 with
    | none => rw [e1] at h2; simp at h2
    | some v =>
      obtain ⟨o, m⟩ := v
      rw [e1] at h2
      refine ⟨o, m, r.2.1, r.2.2, rfl, mem_look hz.2.1 h1, fun e => ?_⟩
      simp [e] at h2
  · rintro ⟨o, m, o2, n, h1, h2, ne⟩
    refine ⟨(p, o2, n), List.mem_filter.mpr ⟨look_mem h2, ?_⟩, rfl⟩
    rw [dNew_look hy.2.1, h1]
    simp; exact fun e => ne e.symm
theorem mem_clashL {F L : List R3} (hf : Rows F) (hl : Rows L) {p : Int} : p ∈ clashL F L ↔ Cl (look F p) (look L p) := by
  unfold clashL
  rw [List.mem_flatMap]
  constructor
  · rintro ⟨x, hx, h⟩
    obtain ⟨r, hr, e⟩ := List.mem_map.mp h
    obtain ⟨h1, h2⟩ := List.mem_filter.mp hr
    rw [Bool.and_eq_true, Bool.not_eq_true', decide_eq_true_eq, decide_eq_false_iff_not] at h2
    subst e
    exact ⟨x.2.1, x.2.2, r.2.1, r.2.2, by rw [h2.1]; exact mem_look hf.2.1 hx, mem_look hl.2.1 h1, h2.2⟩
  · rintro ⟨o, m, o2, n, h1, h2, ne⟩
    refine ⟨(p, o, m), look_mem h1, List.mem_map.mpr ⟨(p, o2, n), List.mem_filter.mpr ⟨look_mem h2, ?_⟩, rfl⟩⟩
    simp [ne]
theorem sub_map_fst {q : R3 → Bool} {L : List R3} (h : (L.map (·.1)).Nodup) : ((L.filter q).map (·.1)).Nodup := (List.Sublist.map _ (List.filter_sublist)).nodup h
theorem clashL_nodup {F L : List R3} (hf : Rows F) (hl : Rows L) : (clashL F L).Nodup := by
  have key : ∀ F : List R3, (F.map (·.1)).Nodup → (clashL F L).Nodup ∧ ∀ p ∈ clashL F L, p ∈ F.map (·.1) := fun F => by
    induction F with
    | nil => exact fun _ => ⟨List.nodup_nil, fun p h => (nomatch h)⟩
    | cons x F ih =>
      intro nd
      rw [List.map_cons, List.nodup_cons] at nd
      obtain ⟨i1, i2⟩ := ih nd.2
      have e : clashL (x :: F) L = ((L.filter fun r => decide (r.1 = x.1) && !decide (r.2.1 = x.2.2)).map (·.1)) ++ clashL F L := by unfold clashL; rw [List.flatMap_cons]
      have hx : ∀ p ∈ (L.filter fun r => decide (r.1 = x.1) && !decide (r.2.1 = x.2.2)).map (·.1), p = x.1 := fun p hp => by
        obtain ⟨r, hr, e⟩ := List.mem_map.mp hp
        have := (List.mem_filter.mp hr).2
        rw [Bool.and_eq_true, decide_eq_true_eq] at this
        rw [← e]; exact this.1
      rw [e]
      refine ⟨List.nodup_append.mpr ⟨sub_map_fst hl.2.1, i1, fun a ha b hb z => ?_⟩, fun p hp => ?_⟩
      · subst z
        rw [hx a ha] at hb
        exact nd.1 (i2 _ hb)
      · rcases List.mem_append.mp hp with h | h
        · rw [hx p h]; simp
        · exact List.mem_cons_of_mem _ (i2 p h)
  exact (key F hf.2.1).1
theorem sort3_fst {L : List R3} (h : Rows L) : ((sort3 L).map (·.1)).Pairwise (· ≤ ·) := by
  rw [List.pairwise_map]
  have h64 := rows64 h.sort
  have : ∀ (M : List R3), (∀ r ∈ M, In64 r) → M.Pairwise (fun a b => code3 a ≤ code3 b) → M.Pairwise (fun a b => a.1 ≤ b.1) := fun M => by
    induction M with
    | nil => exact fun _ _ => .nil
    | cons x M ih =>
      intro hm hp
      rw [List.pairwise_cons] at hp ⊢
      refine ⟨fun b hb => ?_, ih (fun r hr => hm r (List.mem_cons_of_mem _ hr)) hp.2⟩
      have c := hp.1 b hb
      obtain ⟨_, x2, x3⟩ := hm x List.mem_cons_self
      obtain ⟨_, b2, b3⟩ := hm b (List.mem_cons_of_mem _ hb)
      unfold code3 at c
      omega
  exact this _ h64 (sortBy_up _ L)
theorem wrong_sorted {F L : List R3} (hf : Rows F) (hl : Rows L) : wrongD (sort3 F) (sort3 L) = sortI (clashL F L) := by
  refine sortBy_eq (f := id) ?_ ?_ fun _ _ _ _ e => e
  · refine perm_mem (sub_map_fst hl.sort.2.1) (clashL_nodup hf hl) fun p => ?_
    rw [mem_wrongD hf.sort hl.sort, mem_clashL hf hl, look_sort hf, look_sort hl]
  · have h1 := sort3_fst hl
    exact List.Pairwise.sublist (List.Sublist.map _ List.filter_sublist) h1
/-- no clash -/
theorem wrong_nil {y z : List R3} (hy : Rows y) (hz : Rows z) : wrongD y z = [] ↔ ∀ p, ¬ Cl (look y p) (look z p) := by
  rw [List.eq_nil_iff_forall_not_mem]
  exact forall_congr' fun p => not_congr (mem_wrongD hy hz)
theorem sortI_nil {l : List Int} : sortI l = [] ↔ l = [] := by
  have := (sortBy_perm id l).length_eq
  constructor
  · intro h
    have e : sortBy id l = [] := h
    rw [e] at this
    cases l with
    | nil => rfl
    | cons => simp at this
  · intro h; subst h
    exact List.length_eq_zero_iff.mp this
theorem clash_nil {F L : List R3} (hf : Rows F) (hl : Rows L) : sortI (clashL F L) = [] ↔ ∀ p, ¬ Cl (look F p) (look L p) := by
  rw [sortI_nil, List.eq_nil_iff_forall_not_mem]
  exact forall_congr' fun p => not_congr (mem_clashL hf hl)
/-! ### the law's own one for both -/
theorem news_look {L : List R3} (nd : (L.map (·.1)).Nodup) (x : R3) : newsL L x = ((look L x.1).map fun v => v.2).toList := by
  unfold newsL
  induction L with
  | nil => rfl
  | cons r L ih =>
    rw [List.map_cons, List.nodup_cons] at nd
    rw [List.filter_cons, look_cons]
    by_cases e : r.1 = x.1
    · rw [if_pos (decide_eq_true e), if_pos e, List.map_cons, ih nd.2]
      have : look L x.1 = none := look_none.mpr (by rw [← e]; exact nd.1)
      rw [this]; rfl
    · rw [if_neg (by simp [e]), if_neg e]; exact ih nd.2
theorem thenL_eq {F L : List R3} (hf : Rows F) (hl : Rows L) : thenL F L = sort3 (rowsD F L) := by
  unfold thenL rowsD
  congr 1
  congr 1
  · refine List.map_congr_left fun x _ => ?_
    unfold thenRow
    rw [news_look hl.2.1, dNew_look hl.2.1]
    cases look L x.1 with
    | none => rfl
    | some v => rfl
  · refine List.filter_congr fun r _ => ?_
    rw [dNew_look hf.2.1]
    cases e : look F r.1 with
    | none => simp [look_none.mp e]
    | some v =>
      have : r.1 ∈ F.map (·.1) := List.mem_map.mpr ⟨_, look_mem e, rfl⟩
      simp [this]
end K04

set_option Elab.async false
set_option linter.all false
set_option maxRecDepth 100000
set_option maxHeartbeats 4000000
namespace K04
open PySem PySem.Spec L2 DL
/-! ### the error NeverBehind -/
abbrev sNB : Stmt := inClass (top 7) 0
structure TNv (K : PySem.W.Frag) (mg : Str → Option Value) (CN B fI : Addr) (fdI : FuncData) : Prop where
  base : BaseI K mg "BillError" B
  T : OexC K CN
  mgN : mg "NeverBehind" = some (.ref CN)
  iC : PySem.W.findIn K (.ref CN) "__init__" = some (some (.ref fI))
  tI : PySem.W.typeIn K (.ref fI) = some (.type "function")
  F : Fun K "__init__" "NeverBehind.__init__" sNB fI fdI
  noP : PySem.W.findIn K (.ref CN) "places" = some none
  xf : XfC K CN
  exm : PySem.W.exmOne K (.ref CN) (.ref CN) = some true
def spNB (CN : Addr) : Sp := fun vs H Q _ => ∃ (a : Addr) (w : V), vs = [.ref a, w] ∧ H a = some (exo a CN none) ∧ ∀ dx, H dx = none → dx ≠ a → Q .non (upd (upd H dx (exd dx [(("places" : Str), w)])) a (exo a CN (some dx)))
section
variable {P : Program} {w : World} {K : PySem.W.Frag} {mg : Str → Option Value} {base : Heap} {C CN B fI : Addr} {fdI : FuncData}
theorem ok_nb (T : TNv K mg CN B fI fdI) : FnOk P w K mg base CX0 1 fI fdI ["self", "places"] (spNB CN) := by
  refine T.F.ok (N := ["self", "places"]) ⟨rfl, rfl, rfl, by decide +kernel, rfl, by decide +kernel, by decide +kernel⟩ (fun vs H Q E h => ?_) (fun cdv A outer s H vs Q E hr h => ?_)
  · obtain ⟨a, w, rfl, _⟩ := h
    rfl
  · obtain ⟨a, w, rfl, ha, q⟩ := h
    refine ⟨_, pss_cons (ps_expr (pe_oinit (by rfl) T.base (pa_cons (pv 0) (pa_cons pe_str pa_nil)) (by decide) rfl rfl rfl) rfl) (pss_one (ps_ost (pv 0) (pv 1) rfl)), ?_⟩
    refine ⟨.ref a, rfl, a, CN, _, rfl, by simp, T.T, ha, ?_⟩
    refine ⟨w, rfl, .ref a, rfl, a, CN, rfl, T.T, T.noP, .inl ⟨ha, fun dx hd ne => q dx hd ne⟩⟩
end
end K04

set_option Elab.async false
set_option linter.all false
set_option maxRecDepth 100000
set_option maxHeartbeats 4000000
namespace K04
open PySem PySem.Spec L2 DL
def spThenX (C CN : Addr) : Sp := fun vs H _ E => ∃ (y z : List R3) (v1 v2 : V) (Hf : Hp), vs = [v1, v2] ∧ Ex Hf H ∧ (cCh C).rep Hf v1 y ∧ (cCh C).rep Hf v2 z ∧ wrongD y z ≠ [] ∧
  ∀ (d l : Addr) (Hf' H' : Hp), H d = none → H l = none → d ≠ l → H' d = some (.xd [(("places" : Str), .ref l)]) → H' l = some (.lst ((wrongD y z).map V.int)) → Hf' l = none → Hf' d = none → Fr (fun _ => False) Hf H Hf' H' → Ex Hf' H' → E (.ref CN) (some d) H'
abbrev nThen : List Str := ["self", "other", "reached", "wrong", "last", "rows", "place", "old", "new", "row"]
theorem scThen : FnScope nThen ["self", "other"] (defScope (inCh 10)) := ⟨rfl, rfl, rfl, by decide +kernel, rfl, by decide +kernel, by decide +kernel⟩
section
variable {P : Program} {w : World} {K : PySem.W.Frag} {mg : Str → Option Value} {base : Heap} {C CN B fI : Addr} {fdI : FuncData}
variable (U : Bt mg)
include U
theorem ok_thenX {f : Addr} {fd : FuncData} (Fu : Fun K "then" "Change.then" (inCh 10) f fd) (T : TCh K mg C) (TN : TNv K mg CN B fI fdI) : FnOk P w K mg base (L2.CX P w) 7 f fd ["self", "other"] (spThenX C CN) := by
  refine Fu.okX scThen (fun vs H Q E h => ?_) (fun cdv Ar outer s H vs Q E hr h => ?_)
  · obtain ⟨y, z, v1, v2, Hf, rfl, _⟩ := h
    rfl
  · obtain ⟨y, z, v1, v2, Hf, rfl, ex, r1, r2, hw, q⟩ := h
    have G := cxGX (CX := L2.CX P w) (P := P) (w := w) (K := K) (mg := mg) (base := base) (qual := "Change.then") (st := inCh 10) (f := f) (cdv := cdv) (A := Ar) (outer := outer) (s := s) (H := H) (E := E) (lv := 6) hr scThen.nd
    refine ⟨_, pss_cons (ps_nox (tS1_ok G)) (pss_cons (ps_nox (tS1_ok G)) (pss_cons (ps_nox (tS1_ok G)) (pss_cons (ps_if (PT.nox (tT_ok G)) (pss_one (ps_raise rfl (takes_of rfl rfl rfl rfl) (pmk_oex TN.T TN.iC TN.tI (ok_nb TN) (hr.mono (by decide)) (TN.F.binds (fun _ _ _ _ _ _ us hl => match us, hl with | [_, _], _ => rfl)) .nil pass0 (by rfl) TN.mgN (pa_cons (pv 3) pa_nil)))) pss_nil) (PSs.nox (tSs_ok G))))), ?_⟩
    -- the three statements ahead
    have h3 : HS (ρ := Unit) (tSeq (tS1 ⟨nThen, defScope (inCh 10), K, mg, P, w, base, 6, fun _ => true, false⟩ ((defBody (inCh 10)).getD 0 (.Pass ⟨0, 0, 0, 0⟩))) (tSeq (tS1 ⟨nThen, defScope (inCh 10), K, mg, P, w, base, 6, fun _ => true, false⟩ ((defBody (inCh 10)).getD 1 (.Pass ⟨0, 0, 0, 0⟩))) (tS1 ⟨nThen, defScope (inCh 10), K, mg, P, w, base, 6, fun _ => true, false⟩ ((defBody (inCh 10)).getD 2 (.Pass ⟨0, 0, 0, 0⟩)))))
        (entry nThen [.d (cCh C) y, .d (cCh C) z]) 0 { N := fun Γ => Γ = entry nThen [.d (cCh C) y, .d (cCh C) z, .d (cDic cInt) (dNew y), .l cInt (wrongD y z)], bk := fun _ => False, ct := fun _ => False, c := cNon, R := fun _ => False } := by
      refine hs_seq (k1 := 0) (k2 := 0) (N := fun Γ => Γ = entry nThen [.d (cCh C) y, .d (cCh C) z]) (HS.le (k := 0 + max 0 0) ?s1 (by decide)) ?s2
      case s1 =>
        refine ph_if (k1 := 0) (k2 := 0) (k3 := 0) (pdt_not (pdt_val (pisi rfl U.isinstance (pd_name (i := 1) rfl rfl (.inl rfl)) (nmOwn rfl T.k.mgC) (.own _) (ty_ins T.k.own) T.k.isC (fun _ => rfl)) (fun _ _ => rfl))) (fun h => ?_) fun h => ?_
        · exact absurd h (by decide)
        · exact phs_nil rfl
      rintro _ rfl
      refine hs_seq (k1 := 0) (k2 := 0) (N := fun Γ => Γ = entry nThen [.d (cCh C) y, .d (cCh C) z, .d (cDic cInt) (dNew y)]) ?s3 ?s4
      case s3 => exact ph_set (k := 0) (i := 2) (pdcN [("place", 6), ("old", 7), ("new", 8)] (pdi_tup (pd_rows T (pd_name (i := 0) rfl rfl (.inl rfl)) (fun _ => rfl))) trivial (by kernel_rfl) (fun _ _ => rfl) fun x hx => ⟨_, _, (pdg_t3 (pdg_name (i := 6) trivial rfl (.inl rfl) (.inr rfl)) (pdg_name (i := 7) trivial rfl (.inl rfl) (.inr rfl)) (pdg_name (i := 8) trivial rfl (.inl rfl) (.inr rfl)) (fun _ => rfl) (fun _ => rfl) (fun _ => rfl) (fun _ => rfl) (fun _ => rfl)), (fun _ h => h), ⟨(pd_name (i := 6) rfl rfl (.inl rfl)), (pd_name (i := 8) rfl rfl (.inl rfl))⟩⟩) trivial (fun y e => by subst e; rfl) rfl (.inr rfl) (sw_cell rfl) (.inl rfl)
      rintro _ rfl
      exact ph_setLcL (k := 0) (i := 3) [("place", 6), ("old", 7), ("new", 8)] (tdf_lcT (pdi_tup (pd_rows T (pd_name (i := 1) rfl rfl (.inl rfl)) (fun _ => rfl))) trivial fun x hx => ⟨_, _, (pdg_t3 (pdg_name (i := 6) trivial rfl (.inl rfl) (.inr rfl)) (pdg_name (i := 7) trivial rfl (.inl rfl) (.inr rfl)) (pdg_name (i := 8) trivial rfl (.inl rfl) (.inr rfl)) (fun _ => rfl) (fun _ => rfl) (fun _ => rfl) (fun _ => rfl) (fun _ => rfl)), (fun _ h => h), (tts_one (tcmp (fun _ _ => op_ne) (pdget2 (pd_name (i := 2) rfl rfl (.inr (.inl rfl))) (pd_name (i := 6) rfl rfl (.inl rfl)) (pd_name (i := 7) rfl rfl (.inl rfl)) (fun _ => ⟨rfl, rfl, rfl, rfl⟩)) (pd_name (i := 7) rfl rfl (.inl rfl)) rd_neI (nomark _))), fun hq => (pd_name (i := 6) rfl rfl (.inl rfl))⟩) trivial (fun y e => by subst e; rfl) rfl rfl rfl rfl rfl (by kernel_rfl) (fun _ _ => rfl)
    have S0 : Sat ⟨fun z' => Sl.bx z' ∈ ([.d (cCh C) y, .d (cCh C) z] : Ctxt), Hf, H⟩ Hf H (start nThen [v1, v2]) (entry nThen [.d (cCh C) y, .d (cCh C) z]) 0 := sat_entry (show (2 : Nat) ≤ 10 by decide) ⟨r1, r2, trivial⟩ trivial ex fun z hz => by simp at hz
    refine h3 _ 0 _ Hf H (Nat.zero_le _) S0 _ (fun σ1 Hf1 H1 Γ1 eΓ f1 => ?_) (fun _ _ _ _ z _ => z.elim) (fun _ _ _ _ z _ => z.elim) fun _ _ _ _ _ _ z _ _ => z.elim
    subst eΓ
    refine tt_view (i := 3) (c := cInt) (xs := wrongD y z) (P := (· = !decide (wrongD y z = []))) rfl (tcmp (op_neDG rfl) (pd_name (i := 3) rfl rfl (.inl rfl)) (TDF.td (pdf_nil (c := cInt))) (rd_neD (eList eInt) (by decide)) (nomark _)) _ 0 σ1 Hf1 H1 (Nat.zero_le _) f1.sat _ fun b Hf2 H2 pb f2 S2 => ?_
    have hb : b = true := by rw [pb]; simp [hw]
    subst hb
    refine iteT ?_
    obtain ⟨l, vs, e1, e2, e3, e4, e5⟩ := S2.at_ 3 _ rfl
    have := ints_of_paired e4
    subst this
    refine ⟨.ref l, e1, by simp, fun a ha => ⟨a, .ref l, rfl, upd_same, fun dx hdx ne => ⟨rfl, dx, [(("places" : Str), .ref l)], upd_same, by rw [upd_ne ne, upd_same], ?_, ?_⟩⟩⟩
    · rw [upd_ne ne] at hdx; exact hdx
    · rw [upd_ne ne] at hdx
      have la : l ≠ a := ne_of_none e2 ha
      have ld : l ≠ dx := ne_of_none e2 hdx
      have F := S2.fr
      have noM : ∀ x, ¬ Sl.bx x ∈ ([.d (cCh C) y, .d (cCh C) z] : Ctxt) := fun x hx => by simp at hx
      have hl0 : H l = none := by
        rcases S2.mine l ⟨3, _, rfl, rfl, e1⟩ with q | q
        · exact absurd q (noM l)
        · exact q
      refine q dx l Hf2 _ (F.dom dx hdx) hl0 (Ne.symm ld) upd_same (by rw [upd_ne ld, del_ne la, upd_ne la, upd_ne ld, upd_ne la]; exact e2) e3 (S2.ex.back hdx) ⟨F.ex, fun x o hx _ => ?_, fun x o hx _ hz => F.fz x o hx (noM x) hz, fun x hx => ?_⟩ fun x o hx => ?_
      · have k := F.keep x o hx (noM x)
        have xa : x ≠ a := ne_of_none k ha
        have xd : x ≠ dx := ne_of_none k hdx
        rw [upd_ne xd, del_ne xa, upd_ne xa, upd_ne xd, upd_ne xa]; exact k
      · by_cases xd : x = dx
        · subst xd; rw [upd_same] at hx; cases hx
        · by_cases xa : x = a
          · subst xa; exact F.dom x ha
          · rw [upd_ne xd, del_ne xa, upd_ne xa, upd_ne xd, upd_ne xa] at hx; exact F.dom x hx
      · have k := S2.ex x o hx
        have xa : x ≠ a := ne_of_none k ha
        have xd : x ≠ dx := ne_of_none k hdx
        rw [upd_ne xd, del_ne xa, upd_ne xa, upd_ne xd, upd_ne xa]; exact k
end
end K04

set_option Elab.async false
set_option linter.all false
set_option maxRecDepth 100000
set_option maxHeartbeats 4000000
namespace K04
open PySem PySem.Spec L2 DL
theorem kb_then {K : PySem.W.Frag} {f : Addr} {fd : FuncData} (Fu : Fun K "then" "Change.then" (inCh 10) f fd) : KBinds K fd ["self", "other"] ["other"] g2 g2 := by
  obtain ⟨oc, od, kV, doc, pm, an, cdv, ct, osl, rfl, lk, hcd⟩ := Fu.ex
  exact kb2 fun a b => rfl
section
variable {P : Program} {w : World} {K : PySem.W.Frag} {mg : Str → Option Value} {base : Heap} {C CN B fI : Addr} {fdI : FuncData}
variable (U : Bt mg)
include U
theorem mk_then (D : MDef K C "then" "Change.then" (inCh 10)) (T : TCh K mg C) (I_Change : ICal P w K mg base C ["self", "rows"] 5 (P_init C)) : MCalK P w K mg base C "then" ["self", "other"] ["other"] 7 (P_thenM C) := by
  obtain ⟨f, fd, Fu, hm⟩ := D.ex
  exact ⟨f, fd, ok_then U Fu T I_Change, hm, kb_then Fu⟩
omit U
abbrev cTold (C : Addr) : Cod (Unit × List R3) := cL2 (cS1 "rows") (cCh C)
abbrev cNev : Cod (Unit × List Int) := cL2 (cS1 "never") (cList cInt)
abbrev P_told (C : Addr) : Sp := spP (fun (a : List R3 × List R3) => [.d (cCh C) a.1, .d (cCh C) a.2]) (fun a => wrongD a.1 a.2 = [] ∧ Rows (rowsD a.1 a.2)) (cTold C) (fun a => ((), sort3 (rowsD a.1 a.2)))
theorem c_told (D : Def K mg "_law_told" (top 34)) (T : TCh K mg C) (M_then : MCalK P w K mg base C "then" ["self", "other"] ["other"] 7 (P_thenM C)) : Cal P w K mg base "_law_told" ["change", "second"] 8 (P_told C) := by
  refine cal_D (N := ["change", "second", "e"]) D (fun _ _ _ _ _ _ us hl => match us, hl with | [_, _], _ => rfl) ⟨rfl, rfl, rfl, by decide +kernel, rfl, by decide +kernel, by decide +kernel⟩ (fun _ _ => rfl) (by decide) (fun _ _ => trivial) fun b a hp => ?_
  exact phs_one (ph_try_thru (bret (plst2 pd_S1 (pm1k M_then T.k.cl (show (7 : Nat) ≤ 7 by decide) (pd_name (i := 0) rfl rfl (.inl rfl)) (pd_name (i := 1) rfl rfl (.inl rfl)) (hno_Ch (by decide +kernel)) hp (fun _ => rfl) (fun _ => rfl) (fun _ => rfl) (fun _ => rfl)) (fun _ => rfl) (fun _ => rfl)) fun _ h => h))
def spToldN (C : Addr) : Sp := fun vs H Q _ => ∃ (y z : List R3) (v1 v2 : V) (Hf : Hp), vs = [v1, v2] ∧ Ex Hf H ∧ (cCh C).rep Hf v1 y ∧ (cCh C).rep Hf v2 z ∧ wrongD y z ≠ [] ∧
  ∀ (a l : Addr) (Hf' H' : Hp), H a = none → H l = none → a ≠ l → H' a = some (.lst [.str "never", .ref l]) → H' l = some (.lst ((wrongD y z).map V.int)) → Hf' a = none → Hf' l = none → Fr (fun _ => False) Hf H Hf' H' → Ex Hf' H' → Q (.ref a) H'
theorem scTold : FnScope ["change", "second", "e"] ["change", "second"] (defScope (top 34)) := ⟨rfl, rfl, rfl, by decide +kernel, rfl, by decide +kernel, by decide +kernel⟩
theorem ok_toldN {f g : Addr} {fd fdT : FuncData} (Fu : Fun K "_law_told" "_law_told" (top 34) f fd) (T : TCh K mg C) (TN : TNv K mg CN B fI fdI) (Ft : Fun K "then" "Change.then" (inCh 10) g fdT) (hm : Meth K C "then" g) (OT : FnOk P w K mg base (L2.CX P w) 7 g fdT ["self", "other"] (spThenX C CN)) :
    FnOk P w K mg base CX0 8 f fd ["change", "second"] (spToldN C) := by
  refine Fu.ok scTold (fun vs H Q E h => ?_) (fun cdv Ar outer s H vs Q E hr h => ?_)
  · obtain ⟨y, z, v1, v2, Hf, rfl, _⟩ := h
    rfl
  · obtain ⟨y, z, v1, v2, Hf, rfl, ex, r1, r2, hw, q⟩ := h
    refine ⟨_, pss_one (ps_try_as (i := 2) rfl rfl scTold.nd rfl rfl ⟨rfl, by decide, .inl TN.mgN⟩ takes0
      (fun W pn xe tk _ => pss_one (ps_ret (pe_lst (pa_cons pe_str (pa_cons (pe_methKS (pv 0) T.k.cl hm OT hr (kb_then Ft) (fun σ => passAt tk σ) (pk_cons (pv 1) pk_nil) rfl rfl rfl rfl) pa_nil)))))
      (fun a oe cls d pn hz hf => pss_one (ps_ret (pe_lst (pa_cons pe_str (pa_cons (pe_xf TN.xf TN.noP hz hf (pv 2)) pa_nil)))))), ?_⟩
    obtain ⟨a1, dx1, fs1, e1, e2, e3⟩ := id r1
    refine ⟨v1, rfl, a1, dx1, fs1, e1, ex _ _ e2, hno_Ch (by decide +kernel) _ _ _ e3, v2, rfl, ?_⟩
    refine ⟨y, z, v1, v2, Hf, rfl, ex, r1, r2, hw, fun d l Hf' H' hd hl ne h1 h2 h3 h4 F e' => ?_⟩
    refine ⟨true, TN.exm, fun _ a ha => ?_, fun z => nomatch z⟩
    refine ⟨_, rfl, rfl, rfl, d, _, .ref l, rfl, h1, rfl, by show 2 ≤ sizeLine; decide, fun p hp => ?_⟩
    have pl : p ≠ l := fun z => by subst z; rw [h2] at hp; cases hp
    refine q p l Hf' _ (F.dom p hp) hl pl upd_same (by rw [upd_ne pl.symm]; exact h2) (e'.back hp) h3 ⟨F.ex, fun x o hx hn => ?_, F.fz, fun x hx => ?_⟩ (e'.trans (Ex.new hp))
    · have k := F.keep x o hx hn
      rw [upd_ne (ne_of_none k hp)]; exact k
    · by_cases xp : x = p
      · subst xp; exact F.dom x hp
      · rw [upd_ne xp] at hx; exact F.dom x hx
end
end K04

set_option Elab.async false
set_option linter.all false
set_option maxRecDepth 100000
set_option maxHeartbeats 4000000
namespace K04
open PySem PySem.Spec L2 DL
theorem rows_nil : Rows [] := ⟨fun _ h => (nomatch h), List.nodup_nil, by decide⟩
theorem noCl_back (v : Option (Int × Int)) : ¬ Cl v (v.map sw) := by
  rintro ⟨o, m, o2, n, h1, h2, ne⟩
  subst h1
  simp [sw] at h2
  exact ne h2.1.symm
theorem noCl_back' (v : Option (Int × Int)) : ¬ Cl (v.map sw) v := by
  rintro ⟨o, m, o2, n, h1, h2, ne⟩
  subst h2
  simp [sw] at h1
  exact ne h1.2
theorem noCl_nil (v : Option (Int × Int)) : ¬ Cl v none := by
  rintro ⟨o, m, o2, n, h1, h2, ne⟩; cases h2
theorem noCl_nil' (v : Option (Int × Int)) : ¬ Cl none v := by
  rintro ⟨o, m, o2, n, h1, h2, ne⟩; cases h1
section
variable {F : List R3} (hF : Rows F)
include hF
theorem al1 : wrongD (sort3 F) (sort3 (backL (sort3 F))) = [] := (wrong_nil hF.sort (rows_back hF.sort).sort).mpr fun p => by
  rw [look_sort (rows_back hF.sort), look_back]; exact noCl_back _
theorem al2 : wrongD (sort3 (backL (sort3 F))) (sort3 F) = [] := (wrong_nil (rows_back hF.sort).sort hF.sort).mpr fun p => by
  rw [look_sort (rows_back hF.sort), look_back]; exact noCl_back' _
theorem rows_olds : Rows (F.map fun x : R3 => (x.1, x.2.1, x.2.1)) := rows_mk (fun r hr => by
  obtain ⟨x, hx, e⟩ := List.mem_map.mp hr
  have h1 := rowOk_iff.mp (hF.1 x hx)
  subst e
  exact rowOk_iff.mpr ⟨h1.1, h1.2.1, h1.2.1⟩) (by rw [List.map_map]; exact hF.2.1)
theorem rows_news : Rows (F.map fun x : R3 => (x.1, x.2.2, x.2.2)) := rows_mk (fun r hr => by
  obtain ⟨x, hx, e⟩ := List.mem_map.mp hr
  have h1 := rowOk_iff.mp (hF.1 x hx)
  subst e
  exact rowOk_iff.mpr ⟨h1.1, h1.2.2, h1.2.2⟩) (by rw [List.map_map]; exact hF.2.1)
theorem al3 : sort3 (rowsD (sort3 F) (sort3 (backL (sort3 F)))) = sort3 (F.map fun x : R3 => (x.1, x.2.1, x.2.1)) :=
  sort3_ext (rows_rowsD hF.sort (rows_back hF.sort).sort) (rows_olds hF) fun p => by
    rw [look_rowsD hF.sort.2.1 (rows_back hF.sort).sort.2.1, look_sort (rows_back hF.sort), look_back, look_sort hF, look_map (fun _ v => (v.1, v.1))]
    cases look F p <;> rfl
theorem al4 : sort3 (rowsD (sort3 (backL (sort3 F))) (sort3 F)) = sort3 (F.map fun x : R3 => (x.1, x.2.2, x.2.2)) :=
  sort3_ext (rows_rowsD (rows_back hF.sort).sort hF.sort) (rows_news hF) fun p => by
    rw [look_rowsD (rows_back hF.sort).sort.2.1 hF.sort.2.1, look_sort (rows_back hF.sort), look_back, look_sort hF, look_map (fun _ v => (v.2, v.2))]
    cases look F p <;> rfl
theorem al5 : wrongD (sort3 F) (sort3 []) = [] := (wrong_nil hF.sort rows_nil.sort).mpr fun p => by
  rw [look_sort rows_nil]; exact noCl_nil _
theorem al6 : wrongD (sort3 []) (sort3 F) = [] := (wrong_nil rows_nil.sort hF.sort).mpr fun p => by
  rw [look_sort rows_nil]; exact noCl_nil' _
theorem al7 : sort3 (rowsD (sort3 F) (sort3 [])) = sort3 F := sort3_ext (rows_rowsD hF.sort rows_nil.sort) hF fun p => by
  rw [look_rowsD hF.sort.2.1 rows_nil.sort.2.1, look_sort rows_nil, look_sort hF]
  cases look F p with
  | none => rfl
  | some v => rfl
theorem al8 : sort3 (rowsD (sort3 []) (sort3 F)) = sort3 F := sort3_ext (rows_rowsD rows_nil.sort hF.sort) hF fun p => by
  rw [look_rowsD rows_nil.sort.2.1 hF.sort.2.1, look_sort rows_nil, look_sort hF]; rfl
end
section
variable {P : Program} {w : PySem.World} {K : PySem.W.Frag} {mg : Str → Option Value} {base : Heap} {C : Addr}
variable (U : Bt mg)
include U
abbrev P_alone : Sp := spP (fun (a : List R3) => [.d (cList cI3) a]) Rows cBool (fun _ => true)
theorem c_alone (D : Def K mg "_law_alone_right" (top 37)) (T : TCh K mg C) (I_Change : ICal P w K mg base C ["self", "rows"] 5 (P_init C)) (M_back : MCal P w K mg base C "back" ["self"] 7 (P_back C)) (M_then : MCal P w K mg base C "then" ["self", "other"] 7 (P_thenM C)) (Q_Change : EqK P w K mg base C 1 FCh) : Cal P w K mg base "_law_alone_right" ["triples"] 8 P_alone := by
  refine cal_D (N := ["triples", "change", "there", "back", "olds", "news", "row"]) D (fun _ _ _ _ _ _ us hl => match us, hl with | [_], _ => rfl) ⟨rfl, rfl, rfl, by decide +kernel, rfl, by decide +kernel, by decide +kernel⟩ (fun _ _ => rfl) (by decide) (fun _ _ => trivial) fun b a hp => ?_
  refine HS.le (k := 0) ?_ (Nat.zero_le _)
  refine bset (k := 0) (k2 := 0) 1 (pmkCh I_Change T (show (5 + 1 : Nat) ≤ 7 by decide) rfl (pd_name (i := 0) rfl rfl (.inl rfl)) ?_ (fun _ => rfl) (fun _ => rfl)) trivial rfl (.inl rfl) (fun _ _ => rfl) (.inl rfl) ?_
  · exact hp
  rintro _ rfl
  refine bpar (k1 := 0) (k2 := 0) (kr := 0) 2 3 (TD.tx' (pm1 M_then T.k.cl (show (7 : Nat) ≤ 7 by decide) (pd_name (i := 1) rfl rfl (.inl rfl)) (pm0 M_back T.k.cl (show (7 : Nat) ≤ 7 by decide) (pd_name (i := 1) rfl rfl (.inl rfl)) (hno_Ch (by decide +kernel)) ?_ (fun _ => rfl)) (hno_Ch (by decide +kernel)) ?_ (fun _ => rfl) (fun _ => rfl) (fun _ => rfl))) (TD.tx' (pm1 M_then T.k.cl (show (7 : Nat) ≤ 7 by decide) (pm0 M_back T.k.cl (show (7 : Nat) ≤ 7 by decide) (pd_name (i := 1) rfl rfl (.inl rfl)) (hno_Ch (by decide +kernel)) ?_ (fun _ => rfl)) (pd_name (i := 1) rfl rfl (.inl rfl)) (hno_Ch (by decide +kernel)) ?_ (fun _ => rfl) (fun _ => rfl) (fun _ => rfl))) trivial trivial (by decide) (fun z => nomatch z) (fun z => nomatch z) rfl rfl rfl rfl (fun _ => rfl) (fun _ => rfl) (fun env he => by cases env; cases he; rfl) (fun env he => by cases env; cases he; rfl) ?_
  · exact rows_back hp.sort
  · exact ⟨al1 hp, rows_rowsD hp.sort (rows_back hp.sort).sort⟩
  · exact rows_back hp.sort
  · exact ⟨al2 hp, rows_rowsD (rows_back hp.sort).sort hp.sort⟩
  refine bpar (k1 := 0) (k2 := 0) (kr := 0) 4 5 (TD.tx' (TDF.td (plcN [("row", 6)] (pdi_list (pd_name (i := 0) rfl rfl (.inl rfl))) trivial (by kernel_rfl) (fun _ _ => rfl) fun x hx => ⟨_, _, (pdg_name (i := 6) trivial rfl (.inl rfl) (.inr rfl)), (fun _ h => h), (pt3 (pix ixTG (pd_name (i := 6) rfl rfl (.inl rfl)) pd_int rd_ix3_0 (fun _ _ => rfl)) (pix ixTG (pd_name (i := 6) rfl rfl (.inl rfl)) pd_int rd_ix3_1 (fun _ _ => rfl)) (pix ixTG (pd_name (i := 6) rfl rfl (.inl rfl)) pd_int rd_ix3_1 (fun _ _ => rfl)) (fun _ => rfl) (fun _ => rfl) (fun _ => rfl))⟩))) (TD.tx' (TDF.td (plcN [("row", 6)] (pdi_list (pd_name (i := 0) rfl rfl (.inl rfl))) trivial (by kernel_rfl) (fun _ _ => rfl) fun x hx => ⟨_, _, (pdg_name (i := 6) trivial rfl (.inl rfl) (.inr rfl)), (fun _ h => h), (pt3 (pix ixTG (pd_name (i := 6) rfl rfl (.inl rfl)) pd_int rd_ix3_0 (fun _ _ => rfl)) (pix ixTG (pd_name (i := 6) rfl rfl (.inl rfl)) pd_int rd_ix3_2 (fun _ _ => rfl)) (pix ixTG (pd_name (i := 6) rfl rfl (.inl rfl)) pd_int rd_ix3_2 (fun _ _ => rfl)) (fun _ => rfl) (fun _ => rfl) (fun _ => rfl))⟩))) trivial trivial (by decide) (fun z => nomatch z) (fun z => nomatch z) rfl rfl rfl rfl (fun _ => rfl) (fun _ => rfl) (fun env he => by cases env; cases he; rfl) (fun env he => by cases env; cases he; rfl) ?_
  refine bifR (k1 := 0) (k2 := 0) (k3 := 0) (pdt_w (tor (tcmp (op_neDG rfl) (TDF.td (plist rfl U.list (TD.seqT (pd_rows T (pd_name (i := 2) rfl rfl (.inl rfl)) (fun _ => rfl))) (fun _ => rfl))) (TDF.td (psort3 rfl U.sorted (pd_name (i := 4) rfl rfl (.inl rfl)) ?_ ?_ (fun _ => rfl))) (rd_neD (eList (eT3 eInt eInt eInt)) (by decide)) (nomark _)) fun _ => (pdw_or1 (tcmp (op_neDG rfl) (TDF.td (plist rfl U.list (TD.seqT (pd_rows T (pd_name (i := 3) rfl rfl (.inl rfl)) (fun _ => rfl))) (fun _ => rfl))) (TDF.td (psort3 rfl U.sorted (pd_name (i := 5) rfl rfl (.inl rfl)) ?_ ?_ (fun _ => rfl))) (rd_neD (eList (eT3 eInt eInt eInt)) (by decide)) (nomark _))))) (fun h => ?_) fun h => ?_
  · rw [List.length_map]; have := hp.2.2; omega
  · exact rows64 (rows_olds hp)
  · rw [List.length_map]; have := hp.2.2; omega
  · exact rows64 (rows_news hp)
  · exfalso
    rw [show (sort3 (rowsD (sort3 a) (sort3 (backL (sort3 a))))) = _ from al3 hp, show (sort3 (rowsD (sort3 (backL (sort3 a))) (sort3 a))) = _ from al4 hp] at h
    simp at h
  refine bret (pand (peqOwn Q_Change (show (1 : Nat) ≤ 7 by decide) (TD.imp (pm1 M_then T.k.cl (show (7 : Nat) ≤ 7 by decide) (pd_name (i := 1) rfl rfl (.inl rfl)) (pmkCh I_Change T (show (5 + 1 : Nat) ≤ 7 by decide) rfl (TDF.td (pdf_nil (c := cI3))) rows_nil (fun _ => rfl) (fun _ => rfl)) (hno_Ch (by decide +kernel)) ⟨al5 hp, rows_rowsD hp.sort rows_nil.sort⟩ (fun _ => rfl) (fun _ => rfl) (fun _ => rfl)) fun _ h => h.trans (al7 hp)) (pd_name (i := 1) rfl rfl (.inl rfl)) (nomark _)) fun _ => (pd_one (peqOwn Q_Change (show (1 : Nat) ≤ 7 by decide) (TD.imp (pm1 M_then T.k.cl (show (7 : Nat) ≤ 7 by decide) (pmkCh I_Change T (show (5 + 1 : Nat) ≤ 7 by decide) rfl (TDF.td (pdf_nil (c := cI3))) rows_nil (fun _ => rfl) (fun _ => rfl)) (pd_name (i := 1) rfl rfl (.inl rfl)) (hno_Ch (by decide +kernel)) ⟨al6 hp, rows_rowsD rows_nil.sort hp.sort⟩ (fun _ => rfl) (fun _ => rfl) (fun _ => rfl)) fun _ h => h.trans (al8 hp)) (pd_name (i := 1) rfl rfl (.inl rfl)) (nomark _)))) fun _ h => h
end
end K04


set_option Elab.async false
set_option linter.all false
set_option maxRecDepth 100000
set_option maxHeartbeats 4000000
namespace K04
open PySem PySem.Spec L2 DL
section
variable {P : Program} {w : PySem.World} {K : PySem.W.Frag} {mg : Str → Option Value} {base : Heap} {C : Addr}
abbrev P_toldN (C : Addr) : Sp := spP (fun (a : List R3 × List R3) => [.d (cCh C) a.1, .d (cCh C) a.2]) (fun a => wrongD a.1 a.2 ≠ []) cNev (fun a => ((), wrongD a.1 a.2))
theorem toldN_imp {vs : List V} {H : Hp} {Q : VK} {E : XK} (h : P_toldN C vs H Q E) : spToldN C vs H Q E := by
  obtain ⟨⟨y, z⟩, b, n, Hf, hw, hn, ex, o, bx, q⟩ := h
  match vs, o with
  | [v1, v2], ⟨r1, r2, _⟩ =>
    have hlen : (wrongD y z).length ≤ LB := by
      obtain ⟨a2, dx2, fs2, _, _, ⟨vv, _, ⟨_, us, _, _, hp, hl⟩⟩⟩ := r2
      unfold wrongD
      rw [List.length_map]
      refine Nat.le_trans (List.length_filter_le _ _) ?_
      have h3 : us.length = z.length := paired_len hp
      rw [← h3]; exact hl
    refine ⟨y, z, v1, v2, Hf, rfl, ex, r1, r2, hw, fun a l Hf' H' ha hl ne h1 h2 h3 h4 F e' => ?_⟩
    have F1 := F.fix hl h4 h2
    have e1 := e'.fix h2
    have h3' : (upd Hf' l (.lst ((wrongD y z).map V.int))) a = none := by rw [upd_ne ne]; exact h3
    have F2 := F1.fix ha h3' h1
    have e2 := e1.fix h1
    refine q _ _ H' ((), wrongD y z) rfl ⟨a, _, _, rfl, upd_same, rfl, ⟨l, _, rfl, by rw [upd_ne ne.symm]; exact upd_same, paired_ints _, by rw [List.length_map]; exact hlen⟩⟩ (F2.mono fun _ z => z.elim) e2 fun w hw => by simp at hw
theorem c_toldN (C0 : Cal P w K mg base "_law_told" ["change", "second"] 8 (spToldN C)) : Cal P w K mg base "_law_told" ["change", "second"] 8 (P_toldN C) := C0.imp fun f fd F => F.imp fun vs H Q E h => toldN_imp h
end
/-- what _law_told gives -/
def tolS (C : Addr) (y z : List R3) : Sl := if wrongD y z = [] then .d (cTold C) ((), sort3 (rowsD y z)) else .d cNev ((), wrongD y z)
theorem tolS_ne {C : Addr} {y z : List R3} : tolS C y z ≠ .un := by unfold tolS; split <;> exact fun h => nomatch h
theorem ptold {S : Stc} {Γ : Ctxt} {e1 e2 : Expr} {pos pn : Pos} {C : Addr} {y z : List R3} (C1 : Cal S.prog S.w S.K S.mg S.base "_law_told" ["change", "second"] 8 (P_told C)) (C2 : Cal S.prog S.w S.K S.mg S.base "_law_told" ["change", "second"] 8 (P_toldN C)) (hl : 8 ≤ S.lv) (hg : S.sc.names.lookup ("_law_told" : Str) = some .globalImplicit)
    (h1 : PD S Γ 0 e1 (cCh C) (· = y)) (h2 : PD S Γ 0 e2 (cCh C) (· = z)) (hy : Rows y) (hz : Rows z)
    (he : ∀ env : Env, starEach [e1, e2] env = (false, eval e1 env) :: starEach [e2] env) (he2 : ∀ env : Env, starEach [e2] env = (false, eval e2 env) :: starEach [] env) (hpl : ∀ env : Env, (backTo pos (starEach [e2] env)).any (·.1) = false) : TX (tE S (.Call (.Name "_law_told" pn) [e1, e2] [] pos)) Γ 0 (· = tolS C y z) := by
  by_cases h : wrongD y z = []
  · have e : tolS C y z = .d (cTold C) ((), sort3 (rowsD y z)) := if_pos h
    rw [e]
    exact TD.tx' (pcal2 C1 hl hg h1 h2 ⟨h, rows_rowsD hy hz⟩ he he2 hpl)
  · have e : tolS C y z = .d cNev ((), wrongD y z) := if_neg h
    rw [e]
    exact TD.tx' (pcal2 C2 hl hg h1 h2 h he he2 hpl)
/-! ### three, in both brackets -/
theorem comp_assoc (f m l : Option (Int × Int)) : comp (comp f m) l = comp f (comp m l) := by
  cases f <;> cases m <;> cases l <;> rfl
theorem cl_ss (f g : Int × Int) : Cl (some f) (some g) ↔ g.1 ≠ f.2 := by
  constructor
  · rintro ⟨o, m, o2, n, h1, h2, ne⟩
    cases h1; cases h2; exact ne
  · intro h; exact ⟨f.1, f.2, g.1, g.2, rfl, rfl, h⟩
theorem cl_n (g : Option (Int × Int)) : ¬ Cl none g := noCl_nil' g
theorem cl_sn (g : Option (Int × Int)) : ¬ Cl g none := noCl_nil g
theorem cl_brackets (f m l : Option (Int × Int)) : (Cl f m ∨ Cl (comp f m) l) ↔ (Cl m l ∨ Cl f (comp m l)) := by
  cases f <;> cases m <;> cases l <;> simp only [comp, cl_ss, cl_n, cl_sn, or_false, false_or] <;> exact Or.comm
section
variable {F M L : List R3} (hF : Rows F) (hM : Rows M) (hL : Rows L)
include hF hM
theorem rows_then : Rows (thenL F M) := by rw [thenL_eq hF hM]; exact (rows_rowsD hF hM).sort
theorem look_then (p : Int) : look (thenL F M) p = comp (look F p) (look M p) := by
  rw [thenL_eq hF hM, look_sort (rows_rowsD hF hM), look_rowsD hF.2.1 hM.2.1]
theorem then_sorted : sort3 (thenL F M) = thenL F M := by rw [thenL_eq hF hM]; exact sort3_idem (rows_rowsD hF hM)
/-- what the changes give is the law's own -/
theorem told_then : sort3 (rowsD (sort3 F) (sort3 M)) = thenL F M := by
  rw [thenL_eq hF hM]
  exact sort3_ext (rows_rowsD hF.sort hM.sort) (rows_rowsD hF hM) fun p => by
    rw [look_rowsD hF.sort.2.1 hM.sort.2.1, look_rowsD hF.2.1 hM.2.1, look_sort hF, look_sort hM]
include hL
def dueL (F M L : List R3) : List Int := if sortI (clashL F M) = [] then sortI (clashL (thenL F M) L) else sortI (clashL F M)
def farL (F M L : List R3) : List Int := if sortI (clashL M L) = [] then sortI (clashL F (thenL M L)) else sortI (clashL M L)
theorem due_nil : dueL F M L = [] ↔ ∀ p, ¬ (Cl (look F p) (look M p) ∨ Cl (comp (look F p) (look M p)) (look L p)) := by
  unfold dueL
  by_cases h : sortI (clashL F M) = []
  · rw [if_pos h, clash_nil (rows_then hF hM) hL]
    have h' := (clash_nil hF hM).mp h
    constructor
    · intro h1 p h2
      rcases h2 with h2 | h2
      · exact h' p h2
      · exact h1 p (by rw [look_then hF hM]; exact h2)
    · intro h1 p h2
      rw [look_then hF hM] at h2
      exact h1 p (.inr h2)
  · rw [if_neg h]
    refine iff_of_false h fun h1 => h ((clash_nil hF hM).mpr fun p h2 => h1 p (.inl h2))
theorem far_nil : farL F M L = [] ↔ ∀ p, ¬ (Cl (look M p) (look L p) ∨ Cl (look F p) (comp (look M p) (look L p))) := by
  unfold farL
  by_cases h : sortI (clashL M L) = []
  · rw [if_pos h, clash_nil hF (rows_then hM hL)]
    have h' := (clash_nil hM hL).mp h
    constructor
    · intro h1 p h2
      rcases h2 with h2 | h2
      · exact h' p h2
      · exact h1 p (by rw [look_then hM hL]; exact h2)
    · intro h1 p h2
      rw [look_then hM hL] at h2
      exact h1 p (.inr h2)
  · rw [if_neg h]
    refine iff_of_false h fun h1 => h ((clash_nil hM hL).mpr fun p h2 => h1 p (.inl h2))
theorem due_far : dueL F M L = [] ↔ farL F M L = [] := by
  rw [due_nil hF hM hL, far_nil hF hM hL]
  exact forall_congr' fun p => not_congr (cl_brackets _ _ _)
theorem then_assoc : thenL (thenL F M) L = thenL F (thenL M L) := by
  rw [thenL_eq (rows_then hF hM) hL, thenL_eq hF (rows_then hM hL)]
  exact sort3_ext (rows_rowsD (rows_then hF hM) hL) (rows_rowsD hF (rows_then hM hL)) fun p => by
    rw [look_rowsD (rows_then hF hM).2.1 hL.2.1, look_rowsD hF.2.1 (rows_then hM hL).2.1, look_then hF hM, look_then hM hL, comp_assoc]
/-- what the left bracketing gives -/
def leftS (C : Addr) (F M L : List R3) : Sl := if wrongD (sort3 F) (sort3 M) = [] then tolS C (thenL F M) (sort3 L) else .d cNev ((), wrongD (sort3 F) (sort3 M))
def rightS (C : Addr) (F M L : List R3) : Sl := if wrongD (sort3 M) (sort3 L) = [] then tolS C (sort3 F) (thenL M L) else .d cNev ((), wrongD (sort3 M) (sort3 L))
theorem left_eq (C : Addr) : leftS C F M L = if dueL F M L = [] then .d (cTold C) ((), thenL (thenL F M) L) else .d cNev ((), dueL F M L) := by
  unfold leftS dueL
  rw [wrong_sorted hF hM]
  have e2 : wrongD (thenL F M) (sort3 L) = sortI (clashL (thenL F M) L) := by
    have := wrong_sorted (rows_then hF hM) hL
    rwa [then_sorted hF hM] at this
  have e3 : sort3 (rowsD (thenL F M) (sort3 L)) = thenL (thenL F M) L := by
    have := told_then (rows_then hF hM) hL
    rwa [then_sorted hF hM] at this
  by_cases h : sortI (clashL F M) = []
  · rw [if_pos h, if_pos h]
    unfold tolS
    rw [e2, e3]
  · rw [if_neg h, if_neg h, if_neg h]
theorem right_eq (C : Addr) : rightS C F M L = if farL F M L = [] then .d (cTold C) ((), thenL F (thenL M L)) else .d cNev ((), farL F M L) := by
  unfold rightS farL
  rw [wrong_sorted hM hL]
  have e2 : wrongD (sort3 F) (thenL M L) = sortI (clashL F (thenL M L)) := by
    have := wrong_sorted hF (rows_then hM hL)
    rwa [then_sorted hM hL] at this
  have e3 : sort3 (rowsD (sort3 F) (thenL M L)) = thenL F (thenL M L) := by
    have := told_then hF (rows_then hM hL)
    rwa [then_sorted hM hL] at this
  by_cases h : sortI (clashL M L) = []
  · rw [if_pos h, if_pos h]
    unfold tolS
    rw [e2, e3]
  · rw [if_neg h, if_neg h, if_neg h]
end
end K04

set_option Elab.async false
set_option linter.all false
set_option maxRecDepth 100000
set_option maxHeartbeats 4000000
namespace K04
open PySem PySem.Spec L2 DL
theorem lay_never : (PyData.str ("never" : Str)).canLay0 = true := by decide +kernel
abbrev eNev : EqC cNev := eL2 (eS1 "never" lay_never) (eList eInt)
theorem due_if {x a : List Int} : (if decide (x = []) = true then a else x) = if x = [] then a else x := by
  by_cases h : x = []
  · rw [if_pos h, if_pos (decide_eq_true h)]
  · rw [if_neg h, if_neg (by simpa using h)]
section
variable {P : Program} {w : PySem.World} {K : PySem.W.Frag} {mg : Str → Option Value} {base : Heap} {C : Addr}
variable (U : Bt mg)
include U
abbrev nBr : List Str := ["first", "middle", "last", "front", "rear", "left", "right", "due", "far", "every"]
abbrev P_brackets : Sp := spP (fun (a : List R3 × List R3 × List R3) => [.d (cList cI3) a.1, .d (cList cI3) a.2.1, .d (cList cI3) a.2.2]) (fun a => Rows a.1 ∧ Rows a.2.1 ∧ Rows a.2.2) cBool (fun _ => true)
theorem c_brackets (D : Def K mg "_law_brackets_right" (top 36)) (T : TCh K mg C) (I_Change : ICal P w K mg base C ["self", "rows"] 5 (P_init C)) (Q_Change : EqK P w K mg base C 1 FCh) (C1 : Cal P w K mg base "_law_told" ["change", "second"] 8 (P_told C)) (C2 : Cal P w K mg base "_law_told" ["change", "second"] 8 (P_toldN C))
    (C__law_clash : Cal P w K mg base "_law_clash" ["first", "last"] 1 P_clash) (C__law_then : Cal P w K mg base "_law_then" ["first", "last"] 1 P_then) : Cal P w K mg base "_law_brackets_right" ["first", "middle", "last"] 9 P_brackets := by
  refine cal_D (N := nBr) D (fun _ _ _ _ _ _ us hl => match us, hl with | [_, _, _], _ => rfl) ⟨rfl, rfl, rfl, by decide +kernel, rfl, by decide +kernel, by decide +kernel⟩ (fun _ _ => rfl) (by decide) (fun _ _ => trivial) fun b a hp => ?_
  obtain ⟨F, M, L⟩ := a
  obtain ⟨hF, hM, hL⟩ := hp
  have hFM := rows_then hF hM
  have hML := rows_then hM hL
  have mkc : ∀ {Γ : Ctxt} {e : Expr} {pos pn : Pos} {z : List R3}, PD ⟨nBr, defScope (top 36), K, mg, P, w, base, 8, fun _ => true, false⟩ Γ 0 e (cList cI3) (· = z) → Rows z → (∀ env : Env, starEach [e] env = (false, eval e env) :: starEach [] env) → (∀ env : Env, (backTo pos (starEach [] env)).any (·.1) = false) → PD ⟨nBr, defScope (top 36), K, mg, P, w, base, 8, fun _ => true, false⟩ Γ 0 (.Call (.Name "Change" pn) [e] [] pos) (cCh C) (· = sort3 z) :=
    fun h1 h2 h3 h4 => pmkCh I_Change T (show (5 + 1 : Nat) ≤ 8 by decide) rfl h1 h2 h3 h4
  have tl : (8 : Nat) ≤ 8 := by decide
  refine HS.le (k := 0) ?_ (Nat.zero_le _)
  refine bpar (k1 := 0) (k2 := 0) (kr := 0) 3 4 (ptold C1 C2 tl rfl (mkc (pd_name (i := 0) rfl rfl (.inl rfl)) hF (fun _ => rfl) (fun _ => rfl)) (mkc (pd_name (i := 1) rfl rfl (.inl rfl)) hM (fun _ => rfl) (fun _ => rfl)) hF.sort hM.sort (fun _ => rfl) (fun _ => rfl) (fun _ => rfl)) (ptold C1 C2 tl rfl (mkc (pd_name (i := 1) rfl rfl (.inl rfl)) hM (fun _ => rfl) (fun _ => rfl)) (mkc (pd_name (i := 2) rfl rfl (.inl rfl)) hL (fun _ => rfl) (fun _ => rfl)) hM.sort hL.sort (fun _ => rfl) (fun _ => rfl) (fun _ => rfl))
    trivial trivial (by decide) tolS_ne tolS_ne rfl rfl rfl rfl (fun _ => rfl) (fun _ => rfl) (fun env he => by cases env; cases he; rfl) (fun env he => by cases env; cases he; rfl) ?_
  refine HS.ctx (Γ' := [.d (cList cI3) F, .d (cList cI3) M, .d (cList cI3) L, tolS C (sort3 F) (sort3 M), tolS C (sort3 M) (sort3 L), .un, .un, .un, .un, .un]) rfl ?_
  have nl : leftS C F M L ≠ .un := by
    rw [left_eq hF hM hL]; split <;> exact fun h => nomatch h
  have nr : rightS C F M L ≠ .un := by
    rw [right_eq hF hM hL]; split <;> exact fun h => nomatch h
  refine bsetX (k := 0) (k2 := 0) (s := leftS C F M L) 5 ?_ trivial nl rfl (.inl rfl) (fun _ _ => rfl) (.inl rfl) ?_
  · by_cases h : wrongD (sort3 F) (sort3 M) = []
    · have e : tolS C (sort3 F) (sort3 M) = .d (cTold C) ((), sort3 (rowsD (sort3 F) (sort3 M))) := if_pos h
      have e2 : leftS C F M L = tolS C (thenL F M) (sort3 L) := if_pos h
      rw [e2]
      refine txIf (tcmp (fun _ _ => op_eq) (pix ixLG (pd_name (i := 3) (congrArg some e) rfl (.inl rfl)) pd_int rd_ixL2_0 (fun _ _ => rfl)) pd_S1 rd_eqS1 (nomark _)) (fun _ => ?_) (fun z => absurd z (by decide))
      have := told_then hF hM
      rw [← this]
      exact ptold C1 C2 tl rfl (pix ixLG (pd_name (i := 3) (congrArg some e) rfl (.inl rfl)) pd_int rd_ixL2_1 (fun _ _ => rfl)) (mkc (pd_name (i := 2) rfl rfl (.inl rfl)) hL (fun _ => rfl) (fun _ => rfl)) (by rw [this]; exact hFM) hL.sort (fun _ => rfl) (fun _ => rfl) (fun _ => rfl)
    · have e : tolS C (sort3 F) (sort3 M) = .d cNev ((), wrongD (sort3 F) (sort3 M)) := if_neg h
      have e2 : leftS C F M L = .d cNev ((), wrongD (sort3 F) (sort3 M)) := if_neg h
      rw [e2]
      exact txIf (tcmp (fun _ _ => op_eq) (pix ixLG (pd_name (i := 3) (congrArg some e) rfl (.inl rfl)) pd_int rd_ixL2_0 (fun _ _ => rfl)) pd_S1 rd_eqS1 (nomark _)) (fun z => absurd z (by decide)) (fun _ => TD.tx' (pd_name (i := 3) (congrArg some e) rfl (.inl rfl)))
  refine HS.ctx (Γ' := [.d (cList cI3) F, .d (cList cI3) M, .d (cList cI3) L, tolS C (sort3 F) (sort3 M), tolS C (sort3 M) (sort3 L), leftS C F M L, .un, .un, .un, .un]) rfl ?_
  refine bsetX (k := 0) (k2 := 0) (s := rightS C F M L) 6 ?_ trivial nr rfl (.inl rfl) (fun _ _ => rfl) (.inl rfl) ?_
  · by_cases h : wrongD (sort3 M) (sort3 L) = []
    · have e : tolS C (sort3 M) (sort3 L) = .d (cTold C) ((), sort3 (rowsD (sort3 M) (sort3 L))) := if_pos h
      have e2 : rightS C F M L = tolS C (sort3 F) (thenL M L) := if_pos h
      rw [e2]
      refine txIf (tcmp (fun _ _ => op_eq) (pix ixLG (pd_name (i := 4) (congrArg some e) rfl (.inl rfl)) pd_int rd_ixL2_0 (fun _ _ => rfl)) pd_S1 rd_eqS1 (nomark _)) (fun _ => ?_) (fun z => absurd z (by decide))
      have := told_then hM hL
      rw [← this]
      exact ptold C1 C2 tl rfl (mkc (pd_name (i := 0) rfl rfl (.inl rfl)) hF (fun _ => rfl) (fun _ => rfl)) (pix ixLG (pd_name (i := 4) (congrArg some e) rfl (.inl rfl)) pd_int rd_ixL2_1 (fun _ _ => rfl)) hF.sort (by rw [this]; exact hML) (fun _ => rfl) (fun _ => rfl) (fun _ => rfl)
    · have e : tolS C (sort3 M) (sort3 L) = .d cNev ((), wrongD (sort3 M) (sort3 L)) := if_neg h
      have e2 : rightS C F M L = .d cNev ((), wrongD (sort3 M) (sort3 L)) := if_neg h
      rw [e2]
      exact txIf (tcmp (fun _ _ => op_eq) (pix ixLG (pd_name (i := 4) (congrArg some e) rfl (.inl rfl)) pd_int rd_ixL2_0 (fun _ _ => rfl)) pd_S1 rd_eqS1 (nomark _)) (fun z => absurd z (by decide)) (fun _ => TD.tx' (pd_name (i := 4) (congrArg some e) rfl (.inl rfl)))
  have t1 : (1 : Nat) ≤ 8 := by decide
  have lF := hF.2.2
  have lM := hM.2.2
  have lL := hL.2.2
  refine HS.ctx (Γ' := [.d (cList cI3) F, .d (cList cI3) M, .d (cList cI3) L, tolS C (sort3 F) (sort3 M), tolS C (sort3 M) (sort3 L), leftS C F M L, rightS C F M L, .un, .un, .un]) rfl ?_
  refine bpar (k1 := 0) (k2 := 0) (kr := 0) 7 8 (TD.tx' (pcal2 C__law_clash t1 rfl (pd_name (i := 0) rfl rfl (.inl rfl)) (pd_name (i := 1) rfl rfl (.inl rfl)) ⟨lF, lM⟩ (fun _ => rfl) (fun _ => rfl) (fun _ => rfl))) (TD.tx' (pcal2 C__law_clash t1 rfl (pd_name (i := 1) rfl rfl (.inl rfl)) (pd_name (i := 2) rfl rfl (.inl rfl)) ⟨lM, lL⟩ (fun _ => rfl) (fun _ => rfl) (fun _ => rfl)))
    trivial trivial (by decide) (fun z => nomatch z) (fun z => nomatch z) rfl rfl rfl rfl (fun _ => rfl) (fun _ => rfl) (fun env he => by cases env; cases he; rfl) (fun env he => by cases env; cases he; rfl) ?_
  refine HS.ctx (Γ' := [.d (cList cI3) F, .d (cList cI3) M, .d (cList cI3) L, tolS C (sort3 F) (sort3 M), tolS C (sort3 M) (sort3 L), leftS C F M L, rightS C F M L, .d (cList cInt) (sortI (clashL F M)), .d (cList cInt) (sortI (clashL M L)), .un]) rfl ?_
  refine bset (k := 0) (k2 := 0) 7 (TD.imp (pif (tcmp (op_eqDG rfl) (pd_name (i := 7) rfl rfl (.inl rfl)) (TDF.td (pdf_nil (c := cInt))) (rd_eqD (eList eInt) (by decide)) (nomark _)) (fun _ => pcal2 C__law_clash t1 rfl (pcal2 C__law_then t1 rfl (pd_name (i := 0) rfl rfl (.inl rfl)) (pd_name (i := 1) rfl rfl (.inl rfl)) ⟨⟨lF, lM⟩, rows64 hF, rows64 hM⟩ (fun _ => rfl) (fun _ => rfl) (fun _ => rfl)) (pd_name (i := 2) rfl rfl (.inl rfl)) ⟨hFM.2.2, lL⟩ (fun _ => rfl) (fun _ => rfl) (fun _ => rfl)) fun _ => pd_name (i := 7) rfl rfl (.inl rfl)) (P' := (· = dueL F M L)) fun _ h => h.trans due_if) trivial rfl (.inl rfl) (fun _ _ => rfl) (.inl rfl) ?_
  rintro _ rfl
  refine bset (k := 0) (k2 := 0) 8 (TD.imp (pif (tcmp (op_eqDG rfl) (pd_name (i := 8) rfl rfl (.inl rfl)) (TDF.td (pdf_nil (c := cInt))) (rd_eqD (eList eInt) (by decide)) (nomark _)) (fun _ => pcal2 C__law_clash t1 rfl (pd_name (i := 0) rfl rfl (.inl rfl)) (pcal2 C__law_then t1 rfl (pd_name (i := 1) rfl rfl (.inl rfl)) (pd_name (i := 2) rfl rfl (.inl rfl)) ⟨⟨lM, lL⟩, rows64 hM, rows64 hL⟩ (fun _ => rfl) (fun _ => rfl) (fun _ => rfl)) ⟨lF, hML.2.2⟩ (fun _ => rfl) (fun _ => rfl) (fun _ => rfl)) fun _ => pd_name (i := 8) rfl rfl (.inl rfl)) (P' := (· = farL F M L)) fun _ h => h.trans due_if) trivial rfl (.inl rfl) (fun _ _ => rfl) (.inl rfl) ?_
  rintro _ rfl
  refine HS.ctx (Γ' := [.d (cList cI3) F, .d (cList cI3) M, .d (cList cI3) L, tolS C (sort3 F) (sort3 M), tolS C (sort3 M) (sort3 L), leftS C F M L, rightS C F M L, .d (cList cInt) (dueL F M L), .d (cList cInt) (farL F M L), .un]) rfl ?_
  refine bifR (k1 := 0) (k2 := 0) (k3 := 0) (pdt_w (tor (tcmp (op_neDG rfl) (pd_name (i := 7) rfl rfl (.inl rfl)) (TDF.td (pdf_nil (c := cInt))) (rd_neD (eList eInt) (by decide)) (nomark _)) fun _ => (pdw_or1 (tcmp (op_neDG rfl) (pd_name (i := 8) rfl rfl (.inl rfl)) (TDF.td (pdf_nil (c := cInt))) (rd_neD (eList eInt) (by decide)) (nomark _))))) (fun h => ?_) fun h => ?_
  · have hd : dueL F M L ≠ [] := fun z => by
      have z2 := (due_far hF hM hL).mp z
      rw [z, z2] at h; simp at h
    have hf : farL F M L ≠ [] := fun z => hd ((due_far hF hM hL).mpr z)
    have e1 : leftS C F M L = .d cNev ((), dueL F M L) := by rw [left_eq hF hM hL, if_neg hd]
    have e2 : rightS C F M L = .d cNev ((), farL F M L) := by rw [right_eq hF hM hL, if_neg hf]
    refine bret (pand (pcmp (op_eqDG rfl) (pd_name (i := 5) (congrArg some e1) rfl (.inl rfl)) (plst2 pd_S1 (pd_name (i := 7) rfl rfl (.inl rfl)) (fun _ => rfl) (fun _ => rfl)) (rd_eqD eNev (by decide)) (nomark _)) fun _ => (pd_one (pcmp (op_eqDG rfl) (pd_name (i := 6) (congrArg some e2) rfl (.inl rfl)) (plst2 pd_S1 (pd_name (i := 8) rfl rfl (.inl rfl)) (fun _ => rfl) (fun _ => rfl)) (rd_eqD eNev (by decide)) (nomark _)))) ?_
    intro x hx
    refine hx.trans ?_
    simp
  have hd : dueL F M L = [] := by
    by_cases z : dueL F M L = []
    · exact z
    · simp [z] at h
  have hf : farL F M L = [] := (due_far hF hM hL).mp hd
  have e1 : leftS C F M L = .d (cTold C) ((), thenL (thenL F M) L) := by rw [left_eq hF hM hL, if_pos hd]
  have e2 : rightS C F M L = .d (cTold C) ((), thenL (thenL F M) L) := by rw [right_eq hF hM hL, if_pos hf, then_assoc hF hM hL]
  refine bset (k := 0) (k2 := 0) 9 (pcal2 C__law_then t1 rfl (pcal2 C__law_then t1 rfl (pd_name (i := 0) rfl rfl (.inl rfl)) (pd_name (i := 1) rfl rfl (.inl rfl)) ⟨⟨lF, lM⟩, rows64 hF, rows64 hM⟩ (fun _ => rfl) (fun _ => rfl) (fun _ => rfl)) (pd_name (i := 2) rfl rfl (.inl rfl)) ⟨⟨hFM.2.2, lL⟩, rows64 hFM, rows64 hL⟩ (fun _ => rfl) (fun _ => rfl) (fun _ => rfl)) trivial rfl (.inl rfl) (fun _ _ => rfl) (.inl rfl) ?_
  rintro _ rfl
  refine HS.ctx (Γ' := [.d (cList cI3) F, .d (cList cI3) M, .d (cList cI3) L, tolS C (sort3 F) (sort3 M), tolS C (sort3 M) (sort3 L), leftS C F M L, rightS C F M L, .d (cList cInt) (dueL F M L), .d (cList cInt) (farL F M L), .d (cList cI3) (thenL (thenL F M) L)]) rfl ?_
  refine bret (pand (pcmp (fun _ _ => op_eq) (pix ixLG (pd_name (i := 5) (congrArg some e1) rfl (.inl rfl)) pd_int rd_ixL2_0 (fun _ _ => rfl)) pd_S1 rd_eqS1 (nomark _)) fun _ => pand (pcmp (fun _ _ => op_eq) (pix ixLG (pd_name (i := 6) (congrArg some e2) rfl (.inl rfl)) pd_int rd_ixL2_0 (fun _ _ => rfl)) pd_S1 rd_eqS1 (nomark _)) fun _ =>
    pand (pcmp (op_eqDG rfl) (TDF.td (plist rfl U.list (TD.seqT (pd_rows T (pix ixLG (pd_name (i := 5) (congrArg some e1) rfl (.inl rfl)) pd_int rd_ixL2_1 (fun _ _ => rfl)) (fun _ => rfl))) (fun _ => rfl))) (pd_name (i := 9) rfl rfl (.inl rfl)) (rd_eqD (eList (eT3 eInt eInt eInt)) (by decide)) (nomark _)) fun _ =>
    pd_one (peqOwn Q_Change (show (1 : Nat) ≤ 8 by decide) (pix ixLG (pd_name (i := 5) (congrArg some e1) rfl (.inl rfl)) pd_int rd_ixL2_1 (fun _ _ => rfl)) (pix ixLG (pd_name (i := 6) (congrArg some e2) rfl (.inl rfl)) pd_int rd_ixL2_1 (fun _ _ => rfl)) (nomark _))) ?_
  intro x hx
  refine hx.trans ?_
  simp
end
end K04

set_option Elab.async false
set_option linter.all false
set_option maxRecDepth 100000
set_option maxHeartbeats 4000000
namespace K04
open PySem PySem.Spec L2 DL
/-! ### texts -/
theorem miss_nil {rs : List R3} (h : Rows rs) {word : List Int} : missL rs word = [] ↔ ∀ p v, look rs p = some v → atT word p = v.1 := by
  unfold missL
  rw [List.filter_eq_nil_iff]
  constructor
  · intro h1 p v e
    have := h1 _ (look_mem e)
    simpa using this
  · intro h1 r hr
    have := h1 r.1 r.2 (mem_look h.2.1 hr)
    simp at this ⊢; exact this
theorem at_set {word : List Int} {p q : Int} {v : Int} (hp : 0 ≤ p) (hq : 0 ≤ q ∧ q < (word.length : Int)) : atT (word.set q.toNat v) p = if q = p then v else atT word p := by
  unfold atT
  rw [List.getD_eq_getElem?_getD, List.getD_eq_getElem?_getD]
  by_cases e : q = p
  · subst e
    rw [if_pos rfl, List.getElem?_set_self (by omega)]; rfl
  · rw [if_neg e, List.getElem?_set_ne (by omega)]
theorem at_done : ∀ (rs : List R3) (word : List Int), (∀ r ∈ rs, 0 ≤ r.1 ∧ r.1 < (word.length : Int)) → (rs.map (·.1)).Nodup → ∀ p, 0 ≤ p → atT (doneL rs word) p = match look rs p with
    | some v => v.2
    | none => atT word p
  | [], word, _, _, p, _ => rfl
  | r :: rs, word, h, nd, p, hp => by
    rw [List.map_cons, List.nodup_cons] at nd
    have hr := h r List.mem_cons_self
    have ih := at_done rs (word.set r.1.toNat r.2.2) (fun q hq => by rw [List.length_set]; exact h q (List.mem_cons_of_mem _ hq)) nd.2 p hp
    show atT (doneL rs (word.set r.1.toNat r.2.2)) p = _
    rw [ih, look_cons]
    by_cases e : r.1 = p
    · have : look rs p = none := look_none.mpr (by rw [← e]; exact nd.1)
      rw [this, if_pos e]
      dsimp only
      rw [at_set hp hr, if_pos e]
    · rw [if_neg e]
      cases look rs p with
      | none => dsimp only; rw [at_set hp hr, if_neg e]
      | some v => rfl
theorem rows_in {rs : List R3} (h : Rows rs) {word : List Int} (hw : word.length = 8) : ∀ r ∈ rs, 0 ≤ r.1 ∧ r.1 < (word.length : Int) := fun r hr => by
  have := (rowOk_iff.mp (h.1 r hr)).1
  omega
theorem rows_in8 {rs : List R3} (h : Rows rs) : In8 rs := fun r hr => (rowOk_iff.mp (h.1 r hr)).1
section
variable {F L : List R3} (hF : Rows F) (hL : Rows L) {word : List Int} (hw : word.length = 8)
include hF hL hw
theorem at_F {p : Int} (hp : 0 ≤ p) : atT (doneL F word) p = match look F p with
    | some v => v.2
    | none => atT word p := at_done F word (rows_in hF hw) hF.2.1 p hp
/-- where something clashes no text fits both -/
theorem fit_clash {p : Int} (hc : Cl (look F p) (look L p)) (h1 : missL F word = []) : missL L (doneL F word) ≠ [] := fun h2 => by
  obtain ⟨o, m, o2, n, e1, e2, ne⟩ := hc
  have := (miss_nil hL).mp h2 p _ e2
  rw [at_F hF hL hw (hF.look_ok e1).1.1, e1] at this
  exact ne this.symm
theorem fit_both (hn : ∀ p, ¬ Cl (look F p) (look L p)) : (missL F word = [] ∧ missL L (doneL F word) = []) ↔ missL (thenL F L) word = [] := by
  rw [miss_nil hF, miss_nil hL, miss_nil (rows_then hF hL)]
  constructor
  · rintro ⟨h1, h2⟩ p v e
    rw [look_then hF hL] at e
    cases e1 : look F p with
    | none =>
      rw [e1] at e
      have e' : look L p = some v := e
      have := h2 p v e'
      rw [at_F hF hL hw (hL.look_ok e').1.1, e1] at this; exact this
    | some f =>
      have := h1 p f e1
      rw [e1] at e
      cases e2 : look L p with
      | none => rw [e2] at e; cases e; exact this
      | some l => rw [e2] at e; cases e; exact this
  · intro h
    have h1 : ∀ p v, look F p = some v → atT word p = v.1 := fun p v e => by
      cases e2 : look L p with
      | none => exact h p v (by rw [look_then hF hL, e, e2]; rfl)
      | some l => exact h p (v.1, l.2) (by rw [look_then hF hL, e, e2]; rfl)
    refine ⟨h1, fun p v e => ?_⟩
    rw [at_F hF hL hw (hL.look_ok e).1.1]
    cases e1 : look F p with
    | none => exact h p v (by rw [look_then hF hL, e1, e]; rfl)
    | some f =>
      have := hn p
      rw [e1, e, cl_ss] at this
      exact (Classical.not_not.mp this).symm
theorem done_both (hn : ∀ p, ¬ Cl (look F p) (look L p)) : doneL (thenL F L) word = doneL L (doneL F word) := by
  have l1 : (doneL (thenL F L) word).length = 8 := by rw [doneL_len, hw]
  have l2 : (doneL L (doneL F word)).length = 8 := by rw [doneL_len, doneL_len, hw]
  have lF : (doneL F word).length = 8 := by rw [doneL_len, hw]
  have key : ∀ p : Int, 0 ≤ p → atT (doneL (thenL F L) word) p = atT (doneL L (doneL F word)) p := fun p hp => by
    rw [at_done _ word (rows_in (rows_then hF hL) hw) (rows_then hF hL).2.1 p hp, at_done L _ (rows_in hL lF) hL.2.1 p hp, at_F hF hL hw hp, look_then hF hL]
    cases look F p with
    | none => cases look L p <;> rfl
    | some f => cases look L p <;> rfl
  refine List.ext_getElem (by rw [l1, l2]) fun i h1 h2 => ?_
  have := key (i : Int) (by omega)
  unfold atT at this
  rw [List.getD_eq_getElem?_getD, List.getD_eq_getElem?_getD, show ((i : Int).toNat) = i from by omega, List.getElem?_eq_getElem h1, List.getElem?_eq_getElem h2] at this
  exact this
end
/-! ### the change back of two -/
theorem back_two {F L : List R3} (hF : Rows F) (hL : Rows L) (hn : ∀ p, ¬ Cl (look F p) (look L p)) :
    wrongD (sort3 (backL (sort3 L))) (sort3 (backL (sort3 F))) = [] ∧ sort3 (rowsD (sort3 (backL (sort3 L))) (sort3 (backL (sort3 F)))) = sort3 (backL (thenL F L)) := by
  have bF := rows_back hF.sort
  have bL := rows_back hL.sort
  refine ⟨(wrong_nil bL.sort bF.sort).mpr fun p => ?_, sort3_ext (rows_rowsD bL.sort bF.sort) (rows_back (rows_then hF hL)) fun p => ?_⟩
  · rw [look_sort bL, look_sort bF, look_back, look_back, look_sort hL, look_sort hF]
    have := hn p
    cases e1 : look L p with
    | none => exact noCl_nil' _
    | some l =>
      cases e2 : look F p with
      | none => exact noCl_nil _
      | some f =>
        rw [e1, e2, cl_ss] at this
        rw [Option.map_some, Option.map_some, cl_ss]
        exact fun z => this (fun y => z y.symm)
  · rw [look_rowsD bL.sort.2.1 bF.sort.2.1, look_sort bL, look_sort bF, look_back, look_back, look_sort hL, look_sort hF, look_back, look_then hF hL]
    cases look F p with
    | none => cases look L p <;> rfl
    | some f => cases look L p <;> rfl
/-! ### all texts of a world -/
theorem snoc_of {α : Type} {l : List α} (h : l ≠ []) : ∃ L b, l = L ++ [b] := by
  cases e : l.reverse with
  | nil => exact absurd (List.reverse_eq_nil_iff.mp e) h
  | cons b L => exact ⟨L.reverse, b, by rw [← List.reverse_reverse l, e, List.reverse_cons]⟩
theorem mem_texts (W : List R3) : ∀ (spots row : List Int), row ∈ textsL W spots ↔ row.length = spots.length ∧ ∀ i : Nat, ∀ s x, spots[i]? = some s → row[i]? = some x → x ∈ wordsIn s W := fun spots => by
  suffices ∀ m : List Int, ∀ row : List Int, row ∈ textsL W m.reverse ↔ row.length = m.reverse.length ∧ ∀ i : Nat, ∀ s x, m.reverse[i]? = some s → row[i]? = some x → x ∈ wordsIn s W by
    have := this spots.reverse; rwa [List.reverse_reverse] at this
  intro m
  induction m with
  | nil =>
    intro row
    constructor
    · intro h
      have : row = [] := by simpa [textsL] using h
      subst this
      exact ⟨rfl, fun i s x h1 => by simp at h1⟩
    · rintro ⟨h, _⟩
      have : row = [] := List.length_eq_zero_iff.mp h
      subst this; simp [textsL]
  | cons s m ih =>
    intro row
    rw [List.reverse_cons, textsL_snoc]
    unfold stepL
    rw [List.mem_flatMap]
    constructor
    · rintro ⟨r0, h1, h2⟩
      obtain ⟨x, hx, e⟩ := List.mem_map.mp h2
      obtain ⟨g1, g2⟩ := (ih r0).mp h1
      subst e
      refine ⟨by rw [List.length_append, List.length_append, g1]; rfl, fun i s' x' h3 h4 => ?_⟩
      by_cases hi : i < r0.length
      · rw [List.getElem?_append_left (by omega)] at h3
        rw [List.getElem?_append_left hi] at h4
        exact g2 i s' x' h3 h4
      · rw [List.getElem?_append_right (by omega)] at h3 h4
        have e0 : i - r0.length = 0 := by
          have := (List.getElem?_eq_some_iff.mp h4).1
          simp at this; omega
        rw [← g1, e0] at h3
        rw [e0] at h4
        cases h3; cases h4
        exact hx
    · rintro ⟨h1, h2⟩
      rw [List.length_append] at h1
      have hne : row ≠ [] := fun z => by subst z; simp at h1
      obtain ⟨r0, x, rfl⟩ := snoc_of hne
      have hl : r0.length = m.reverse.length := by rw [List.length_append] at h1; simp at h1 ⊢; exact h1
      refine ⟨r0, (ih _).mpr ⟨hl, fun i s' x' h3 h4 => ?_⟩, List.mem_map.mpr ⟨x, ?_, rfl⟩⟩
      · have hi := (List.getElem?_eq_some_iff.mp h3).1
        refine h2 i s' x' (by rw [List.getElem?_append_left hi]; exact h3) ?_
        rw [List.getElem?_append_left (by omega)]; exact h4
      · refine h2 m.reverse.length s _ (by rw [List.getElem?_append_right (Nat.le_refl _)]; simp) ?_
        rw [List.getElem?_append_right (by omega), hl]; simp
end K04

set_option Elab.async false
set_option linter.all false
set_option maxRecDepth 100000
set_option maxHeartbeats 4000000
namespace K04
open PySem PySem.Spec L2 DL
abbrev nTwo : List Str := ["texts", "first", "last", "ahead", "behind", "due", "told", "lasting", "again", "one", "wrong", "word"]
abbrev sTwo : Stmt := top 35
theorem scTwo : FnScope nTwo ["texts", "first", "last"] (defScope sTwo) := ⟨rfl, rfl, rfl, by decide +kernel, rfl, by decide +kernel, by decide +kernel⟩
def lastL (texts : List (List Int)) (F L : List R3) : List (List Int) := (texts.filter fun w => decide (missL F w = []) && decide (missL L (doneL F w) = [])).map fun w => w
structure TwoPre (texts : List (List Int)) (F L : List R3) : Prop where
  len : ∀ w ∈ texts, w.length = 8
  rF : Rows F
  rL : Rows L
  fit : (∀ p, ¬ Cl (look F p) (look L p)) → ∃ w ∈ texts, missL (thenL F L) w = []
abbrev P_two : Sp := spP (fun (a : List (List Int) × List R3 × List R3) => [.d (cList (cTup cInt)) a.1, .d (cList cI3) a.2.1, .d (cList cI3) a.2.2]) (fun a => TwoPre a.1 a.2.1 a.2.2) cBool (fun _ => true)
theorem last_clash {texts : List (List Int)} {F L : List R3} (hp : TwoPre texts F L) (hc : sortI (clashL F L) ≠ []) : lastL texts F L = [] := by
  unfold lastL
  rw [List.map_id', List.filter_eq_nil_iff]
  intro w hw h
  rw [Bool.and_eq_true, decide_eq_true_eq, decide_eq_true_eq] at h
  have : ¬ ∀ p, ¬ Cl (look F p) (look L p) := fun z => hc ((clash_nil hp.rF hp.rL).mpr z)
  obtain ⟨p, hpc⟩ := Classical.not_forall.mp this
  exact fit_clash hp.rF hp.rL (hp.len w hw) (Classical.not_not.mp hpc) h.1 h.2
theorem last_both {texts : List (List Int)} {F L : List R3} (hp : TwoPre texts F L) (hn : ∀ p, ¬ Cl (look F p) (look L p)) : lastL texts F L = texts.filter fun w => decide (missL (thenL F L) w = []) := by
  unfold lastL
  rw [List.map_id']
  refine List.filter_congr fun w hw => ?_
  have := fit_both hp.rF hp.rL (hp.len w hw) hn
  rw [← Bool.decide_and]
  exact decide_eq_decide.mpr this
section
variable {P : Program} {w : PySem.World} {K : PySem.W.Frag} {mg : Str → Option Value} {base : Heap} {C : Addr}
abbrev Stwo (P : Program) (w : PySem.World) (K : PySem.W.Frag) (mg : Str → Option Value) (base : Heap) : Stc := ⟨nTwo, defScope sTwo, K, mg, P, w, base, 9, fun _ => true, false⟩
abbrev pTwo : Po Bool := { N := fun _ => False, bk := fun _ => False, ct := fun _ => False, c := cBool, R := fun x => x = true }
variable (U : Bt mg)
include U
theorem two_plain {texts : List (List Int)} {F L : List R3} (hp : TwoPre texts F L) (hc : sortI (clashL F L) = []) (T : TCh K mg C) (M_back : MCal P w K mg base C "back" ["self"] 7 (P_back C)) (M_then : MCal P w K mg base C "then" ["self", "other"] 7 (P_thenM C)) (Q_Change : EqK P w K mg base C 1 FCh) (C1 : Cal P w K mg base "_law_told" ["change", "second"] 8 (P_told C))
    (C_fits : Cal P w K mg base "_law_fits" ["triples", "word"] 1 P_fits) (C_done : Cal P w K mg base "_law_done" ["triples", "word"] 1 P_done) (C_then : Cal P w K mg base "_law_then" ["first", "last"] 1 P_then) :
    PHs (Stwo P w K mg base) [.d (cList (cTup cInt)) texts, .d (cList cI3) F, .d (cList cI3) L, .d (cCh C) (sort3 F), .d (cCh C) (sort3 L), .d (cList cInt) (sortI (clashL F L)), .un, .un, .un, .un, .un, .un] 0 ((defBody sTwo).drop 1) pTwo := by
  have hF := hp.rF
  have hL := hp.rL
  have hn := (clash_nil hF hL).mp hc
  have hT := rows_then hF hL
  have hw0 : wrongD (sort3 F) (sort3 L) = [] := by rw [wrong_sorted hF hL]; exact hc
  have hl8 : ∀ x ∈ texts, x.length = 8 := hp.len
  have t1 : (1 : Nat) ≤ 9 := by decide
  refine bset (k := 0) (k2 := 0) 6 (TD.imp (pcal2 C1 (show (8 : Nat) ≤ 9 by decide) rfl (pd_name (i := 3) rfl rfl (.inl rfl)) (pd_name (i := 4) rfl rfl (.inl rfl)) ⟨hw0, rows_rowsD hF.sort hL.sort⟩ (fun _ => rfl) (fun _ => rfl) (fun _ => rfl)) (P' := (· = ((), thenL F L))) fun _ h => h.trans (by rw [told_then hF hL])) trivial rfl (.inl rfl) (fun _ _ => rfl) (.inl rfl) ?_
  rintro _ rfl
  refine bsetLc (k := 0) (k2 := 0) 7 [("word", 11)] (tdf_lcT (pdi_list (pd_name (i := 0) rfl rfl (.inl rfl))) trivial fun x hx => ⟨_, _, (pdg_name (i := 11) trivial rfl (.inl rfl) (.inr rfl)), (fun _ h => h), tts_one (pdt_w (tand (pdt_val (pcal2 C_fits t1 rfl (pd_name (i := 1) rfl rfl (.inr (.inl rfl))) (pd_name (i := 11) rfl rfl (.inl rfl)) ⟨rows_in8 hF, hl8 x hx⟩ (fun _ => rfl) (fun _ => rfl) (fun _ => rfl)) (fun _ _ => rfl)) fun _ => pdw_and1 (pdt_val (pcal2 C_fits t1 rfl (pd_name (i := 2) rfl rfl (.inr (.inl rfl))) (pcal2 C_done t1 rfl (pd_name (i := 1) rfl rfl (.inr (.inl rfl))) (pd_name (i := 11) rfl rfl (.inl rfl)) ⟨rows_in8 hF, hl8 x hx⟩ (fun _ => rfl) (fun _ => rfl) (fun _ => rfl)) ⟨rows_in8 hL, by rw [doneL_len]; exact hl8 x hx⟩ (fun _ => rfl) (fun _ => rfl) (fun _ => rfl)) (fun _ _ => rfl)))), fun _ => pd_name (i := 11) rfl rfl (.inl rfl)⟩) trivial rfl rfl rfl rfl rfl (by kernel_rfl) (fun _ _ => rfl) ?_
  rintro lst hlst
  have hlst : lst = lastL texts F L := hlst
  subst hlst
  have hne : lastL texts F L ≠ [] := fun z => by
    obtain ⟨x, hx, hx2⟩ := hp.fit hn
    rw [last_both hp hn, List.filter_eq_nil_iff] at z
    exact z x hx (decide_eq_true hx2)
  refine HS.ctx (Γ' := [.d (cList (cTup cInt)) texts, .d (cList cI3) F, .d (cList cI3) L, .d (cCh C) (sort3 F), .d (cCh C) (sort3 L), .d (cList cInt) (sortI (clashL F L)), .d (cTold C) ((), thenL F L), .d (cList (cTup cInt)) (lastL texts F L), .un, .un, .un, .un]) rfl ?_
  refine bifR (k1 := 0) (k2 := 0) (k3 := 0) (tcmp (op_neDG rfl) (pd_name (i := 5) rfl rfl (.inl rfl)) (TDF.td (pdf_nil (c := cInt))) (rd_neD (eList eInt) (by decide)) (nomark _)) (fun h => ?_) fun h => ?_
  · rw [hc] at h; simp at h
  refine bifR (k1 := 0) (k2 := 0) (k3 := 0) (pdt_w (tor (tcmp (fun _ _ => op_ne) (pix ixLG (pd_name (i := 6) rfl rfl (.inl rfl)) pd_int rd_ixL2_0 (fun _ _ => rfl)) pd_S1 rd_neS1 (nomark _)) fun _ => tor (pdt_not (pdt_val (pisi rfl U.isinstance (pix ixLG (pd_name (i := 6) rfl rfl (.inl rfl)) pd_int rd_ixL2_1 (fun _ _ => rfl)) (nmOwn rfl T.k.mgC) (.own _) (ty_ins T.k.own) T.k.isC (fun _ => rfl)) (fun _ _ => rfl))) fun _ => pdw_or1 (tcmp (op_eqDG rfl) (pd_name (i := 7) rfl rfl (.inl rfl)) (TDF.td (pdf_nil (c := cTup cInt))) (rd_eqD (eList (eTup eInt)) (by decide)) (nomark _)))) (fun h => ?_) fun h => ?_
  · simp [hne] at h
  refine bset (k := 0) (k2 := 0) 9 (TDF.td (plist rfl U.list (TD.seqT (pd_rows T (pix ixLG (pd_name (i := 6) rfl rfl (.inl rfl)) pd_int rd_ixL2_1 (fun _ _ => rfl)) (fun _ => rfl))) (fun _ => rfl))) trivial rfl (.inr rfl) (sw_cell rfl) (.inl rfl) ?_
  rintro _ rfl
  refine HS.ctx (Γ' := [.d (cList (cTup cInt)) texts, .d (cList cI3) F, .d (cList cI3) L, .d (cCh C) (sort3 F), .d (cCh C) (sort3 L), .d (cList cInt) (sortI (clashL F L)), .d (cTold C) ((), thenL F L), .d (cList (cTup cInt)) (lastL texts F L), .un, .d (cList cI3) (thenL F L), .un, .un]) rfl ?_
  refine bifR (k1 := 0) (k2 := 0) (k3 := 0) (pdt_w (tor (tcmp (op_neDG rfl) (pd_name (i := 9) rfl rfl (.inr (.inl rfl))) (pcal2 C_then t1 rfl (pd_name (i := 1) rfl rfl (.inr (.inl rfl))) (pd_name (i := 2) rfl rfl (.inr (.inl rfl))) ⟨⟨hF.2.2, hL.2.2⟩, rows64 hF, rows64 hL⟩ (fun _ => rfl) (fun _ => rfl) (fun _ => rfl)) (rd_neD (eList (eT3 eInt eInt eInt)) (by decide)) (nomark _)) fun _ => pdw_or1 (tcmp (op_neDG rfl)
      (TDF.td (plcT [("word", 11)] (pdi_list (pd_name (i := 0) rfl rfl (.inl rfl))) trivial (by kernel_rfl) (fun _ _ => rfl) fun x hx => ⟨_, _, (pdg_name (i := 11) trivial rfl (.inl rfl) (.inr rfl)), (fun _ h => h), tts_one (pdt_val (pcal2 C_fits t1 rfl (pd_name (i := 9) rfl rfl (.inr (.inl rfl))) (pd_name (i := 11) rfl rfl (.inl rfl)) ⟨rows_in8 hT, hl8 x hx⟩ (fun _ => rfl) (fun _ => rfl) (fun _ => rfl)) (fun _ _ => rfl)), fun _ => pd_name (i := 11) rfl rfl (.inl rfl)⟩)) (pd_name (i := 7) rfl rfl (.inl rfl)) (rd_neD (eList (eTup eInt)) (by decide)) (nomark _)))) (fun h => ?_) fun h => ?_
  · rw [List.map_id', last_both hp hn] at h; simp at h
  have hlm : ∀ x ∈ lastL texts F L, x.length = 8 := fun x hx => by
    rw [last_both hp hn] at hx
    exact hl8 x (List.mem_filter.mp hx).1
  refine bsetLc (k := 0) (k2 := 0) 10 [("word", 11)] (tdf_lcT (pdi_list (pd_name (i := 7) rfl rfl (.inl rfl))) trivial fun x hx => ⟨_, _, (pdg_name (i := 11) trivial rfl (.inl rfl) (.inr rfl)), (fun _ h => h), tts_one (tcmp (op_neDG rfl) (pcal2 C_done t1 rfl (pd_name (i := 9) rfl rfl (.inr (.inl rfl))) (pd_name (i := 11) rfl rfl (.inl rfl)) ⟨rows_in8 hT, hlm x hx⟩ (fun _ => rfl) (fun _ => rfl) (fun _ => rfl)) (pcal2 C_done t1 rfl (pd_name (i := 2) rfl rfl (.inr (.inl rfl))) (pcal2 C_done t1 rfl (pd_name (i := 1) rfl rfl (.inr (.inl rfl))) (pd_name (i := 11) rfl rfl (.inl rfl)) ⟨rows_in8 hF, hlm x hx⟩ (fun _ => rfl) (fun _ => rfl) (fun _ => rfl)) ⟨rows_in8 hL, by rw [doneL_len]; exact hlm x hx⟩ (fun _ => rfl) (fun _ => rfl) (fun _ => rfl)) (rd_neD (eTup eInt) (by decide)) (nomark _)), fun _ => pd_name (i := 11) rfl rfl (.inl rfl)⟩) trivial rfl rfl rfl rfl rfl (by kernel_rfl) (fun _ _ => rfl) ?_
  rintro wr hwr
  have hwr : wr = [] := by
    rw [hwr, List.map_id', List.filter_eq_nil_iff]
    intro x hx
    have := done_both hF hL (hlm x hx) hn
    simp [this]
  subst hwr
  obtain ⟨b1, b2⟩ := back_two hF hL hn
  refine bret (pand (pcmp (op_eqDG rfl) (pd_name (i := 10) rfl rfl (.inl rfl)) (TDF.td (pdf_nil (c := cTup cInt))) (rd_eqD (eList (eTup eInt)) (by decide)) (nomark _)) fun _ => pd_one (peqOwn Q_Change (show (1 : Nat) ≤ 9 by decide) (pm0 M_back T.k.cl (show (7 : Nat) ≤ 9 by decide) (pix ixLG (pd_name (i := 6) rfl rfl (.inl rfl)) pd_int rd_ixL2_1 (fun _ _ => rfl)) (hno_Ch (by decide +kernel)) (rows_back hT) (fun _ => rfl)) (TD.imp (pm1 M_then T.k.cl (show (7 : Nat) ≤ 9 by decide) (pm0 M_back T.k.cl (show (7 : Nat) ≤ 9 by decide) (pd_name (i := 4) rfl rfl (.inl rfl)) (hno_Ch (by decide +kernel)) (rows_back hL.sort) (fun _ => rfl)) (pm0 M_back T.k.cl (show (7 : Nat) ≤ 9 by decide) (pd_name (i := 3) rfl rfl (.inl rfl)) (hno_Ch (by decide +kernel)) (rows_back hF.sort) (fun _ => rfl)) (hno_Ch (by decide +kernel)) ⟨b1, rows_rowsD (rows_back hL.sort).sort (rows_back hF.sort).sort⟩ (fun _ => rfl) (fun _ => rfl) (fun _ => rfl)) fun _ h => h.trans b2) (nomark _))) ?_
  intro x hx
  refine hx.trans ?_
  simp
end
end K04

set_option Elab.async false
set_option linter.all false
set_option maxRecDepth 100000
set_option maxHeartbeats 4000000
namespace K04
open PySem PySem.Spec L2 DL
theorem clash_rev {F L : List R3} (hF : Rows F) (hL : Rows L) : sort3 F.reverse = sort3 F := sort3_perm_eq F.reverse_perm (rows64 (hF.perm F.reverse_perm))
section
variable {P : Program} {w : PySem.World} {K : PySem.W.Frag} {mg : Str → Option Value} {base : Heap} {C : Addr}
variable (U : Bt mg)
include U
theorem two_clash {texts : List (List Int)} {F L : List R3} (hp : TwoPre texts F L) (hc : sortI (clashL F L) ≠ []) (T : TCh K mg C) (I_Change : ICal P w K mg base C ["self", "rows"] 5 (P_init C)) (C0 : Cal P w K mg base "_law_told" ["change", "second"] 8 (spToldN C)) (C2 : Cal P w K mg base "_law_told" ["change", "second"] 8 (P_toldN C))
    (C_fits : Cal P w K mg base "_law_fits" ["triples", "word"] 1 P_fits) (C_done : Cal P w K mg base "_law_done" ["triples", "word"] 1 P_done) :
    PHs (Stwo P w K mg base) [.d (cList (cTup cInt)) texts, .d (cList cI3) F, .d (cList cI3) L, .d (cCh C) (sort3 F), .d (cCh C) (sort3 L), .d (cList cInt) (sortI (clashL F L)), .un, .un, .un, .un, .un, .un] 0 ((defBody sTwo).drop 1) pTwo := by
  have hF := hp.rF
  have hL := hp.rL
  have hw0 : wrongD (sort3 F) (sort3 L) = sortI (clashL F L) := wrong_sorted hF hL
  have hw1 : wrongD (sort3 F) (sort3 L) ≠ [] := by rw [hw0]; exact hc
  have hl8 : ∀ x ∈ texts, x.length = 8 := hp.len
  have t1 : (1 : Nat) ≤ 9 := by decide
  have rF := hF.perm F.reverse_perm
  have rL := hL.perm L.reverse_perm
  have eF : sort3 F.reverse = sort3 F := clash_rev hF hF
  have eL : sort3 L.reverse = sort3 L := clash_rev hL hL
  obtain ⟨f, fd, Fn, hmT, hkT, hbT⟩ := C0.ex
  refine phs_of (ts := tSeq (tAsg (tCall (spToldN C) [] E0 (tA (Stwo P w K mg base) _)) (gName 6)) (tSeq (tS1 (Stwo P w K mg base) _) (tSeq (tIfS (tT (Stwo P w K mg base) _) (tSeq (tIfS (tT (Stwo P w K mg base) _) (tSs (Stwo P w K mg base) _) tNext) (tSeq (tDrop (tBM K "list" rAppend (tOp (rIxL K) (tVar 6) (tC (.int 1))) (tCons (tC (.int 9)) tNil))) (tSs (Stwo P w K mg base) _))) tNext) (tSs (Stwo P w K mg base) _)))) (fun X G =>
    pss_cons (ps_set (by rw [G.N]; exact G.nd) (by rw [G.N]; rfl) (loc G (.inl rfl)) (pe_call (fnG Fn G) (G.room.mono (show (8 : Nat) ≤ 9 by decide)) (glb G rfl) (by rw [G.mg]; exact hmT) (by rw [G.K]; exact hkT) (by rw [G.K]; exact hbT) .nil pass0 (tA_ok G) (by decide) rfl rfl) rfl (fnOr G (.inl rfl)))
      (pss_cons (tS1_ok G) (pss_cons (ps_if (tT_ok G) (pss_cons (ps_if (tT_ok G) (tSs_ok G) pss_nil) (pss_cons (by
        rw [show (K : PySem.W.Frag) = (Stwo P w K mg base).K from rfl, ← G.K]
        exact ps_expr (pe_bm PySem.F.plainAttrs_list PySem.F.slot_list_append PySem.F.type_list_append mt_append (pe_ix ix_list (pe_slot (S := Stwo P w K mg base) G rfl (.inl rfl)) pe_int (fun _ _ => rfl)) (pa_cons pe_int pa_nil rfl) rfl rfl rfl rfl rfl) rfl) (tSs_ok G))) pss_nil) (tSs_ok G)))) ?_
  intro O n σ Hf H hn S0 D q1 q2 q3 q4
  refine pda_more (k1 := 0) (k2 := 0) (pd_name (i := 3) rfl rfl (.inl rfl)) (pda_one (pd_name (i := 4) rfl rfl (.inl rfl)) (fun _ => rfl)) (fun _ => rfl) O n σ Hf H hn S0 _ fun vs Hf1 H1 as b o _ f1 S1 => ?_
  subst b
  match vs, o with
  | [v1, v2], ⟨r1, r2, _⟩ =>
  refine ⟨sort3 F, sort3 L, v1, v2, Hf1, rfl, S1.ex, r1, r2, hw1, fun a l Hf2 H2 ha0 hl0 ne h1 h2 h3 h4 F2 e2 => ?_⟩
  have S2 := S1.grow0 F2 e2
  have S3 := S2.set (i := 6) (c := cV) (v := .ref a) (x := .ref a) rfl
  have oa : O.H a = none := S1.fr.dom a ha0
  have ol : O.H l = none := S1.fr.dom l hl0
  rw [hw0] at h2
  -- the texts that fit both: none
  have no3 : NoOwn ([.d (cList (cTup cInt)) texts, .d (cList cI3) F, .d (cList cI3) L, .d (cCh C) (sort3 F), .d (cCh C) (sort3 L), .d (cList cInt) (sortI (clashL F L)), .un, .un, .un, .un, .un, .un] : Ctxt) := by
    intro s hs; simp at hs; rcases hs with h | h | h | h | h | h | h <;> subst h <;> rfl
  have noA : NoOwn ([.d (cList (cTup cInt)) texts, .d (cList cI3) F, .d (cList cI3) L, .d (cCh C) (sort3 F), .d (cCh C) (sort3 L), .d (cList cInt) (sortI (clashL F L)), .d cV (.ref a), .un, .un, .un, .un, .un] : Ctxt) := by
    intro s hs; simp at hs; rcases hs with h | h | h | h | h | h | h | h <;> subst h <;> rfl
  show tS1 (Stwo P w K mg base) _ _ (σ.set 6 (some (V.ref a))) H2
  refine HS.run (ρ := Bool) (Γ := [.d (cList (cTup cInt)) texts, .d (cList cI3) F, .d (cList cI3) L, .d (cCh C) (sort3 F), .d (cCh C) (sort3 L), .d (cList cInt) (sortI (clashL F L)), .d cV (.ref a), .un, .un, .un, .un, .un]) (p := { pTwo with N := fun G => G = ([.d (cList (cTup cInt)) texts, .d (cList cI3) F, .d (cList cI3) L, .d (cCh C) (sort3 F), .d (cCh C) (sort3 L), .d (cList cInt) (sortI (clashL F L)), .d cV (.ref a), .d (cList (cTup cInt)) [], .un, .un, .un, .un] : Ctxt) }) (O := ⟨_, Hf2, H2⟩) (n := n) ?hl S3.here hn (fun σB HfB HB ΓB eB fB => ?_) (fun _ _ _ _ z _ => z.elim) (fun _ _ _ _ z _ => z.elim) (fun v σ' Hf' H' Γ' x z r fz => q4 v σ' Hf' H' Γ' x z r ⟨S3.there fz.sat, fun i x e => absurd (no3.at e) (fun z => nomatch z), (f1.ex.trans F2.ex).trans fz.ex⟩)
  case hl =>
    refine ph_setLc (k := 0) (i := 7) (own := [("word", 11)]) (c' := cTup cInt) (tdf_lcT (pdi_list (pd_name (i := 0) rfl rfl (.inl rfl))) trivial fun x hx => ⟨_, _, (pdg_name (i := 11) trivial rfl (.inl rfl) (.inr rfl)), (fun _ h => h), tts_one (pdt_w (tand (pdt_val (pcal2 C_fits t1 rfl (pd_name (i := 1) rfl rfl (.inr (.inl rfl))) (pd_name (i := 11) rfl rfl (.inl rfl)) ⟨rows_in8 hF, hl8 x hx⟩ (fun _ => rfl) (fun _ => rfl) (fun _ => rfl)) (fun _ _ => rfl)) fun _ => pdw_and1 (pdt_val (pcal2 C_fits t1 rfl (pd_name (i := 2) rfl rfl (.inr (.inl rfl))) (pcal2 C_done t1 rfl (pd_name (i := 1) rfl rfl (.inr (.inl rfl))) (pd_name (i := 11) rfl rfl (.inl rfl)) ⟨rows_in8 hF, hl8 x hx⟩ (fun _ => rfl) (fun _ => rfl) (fun _ => rfl)) ⟨rows_in8 hL, by rw [doneL_len]; exact hl8 x hx⟩ (fun _ => rfl) (fun _ => rfl) (fun _ => rfl)) (fun _ _ => rfl)))), fun _ => pd_name (i := 11) rfl rfl (.inl rfl)⟩) trivial (fun y e => ?_) rfl rfl rfl rfl rfl (by kernel_rfl) (fun _ _ => rfl)
    · have e' : y = lastL texts F L := e
      rw [last_clash hp hc] at e'
      subst e'; rfl
  subst eB
  have SB : Sat O HfB HB σB [.d (cList (cTup cInt)) texts, .d (cList cI3) F, .d (cList cI3) L, .d (cCh C) (sort3 F), .d (cCh C) (sort3 L), .d (cList cInt) (sortI (clashL F L)), .d cV (.ref a), .d (cList (cTup cInt)) [], .un, .un, .un, .un] n := S3.there fB.sat
  have frB := fB.sat.fr
  have kA := frB.keep a _ h1 (noA.owns a)
  have kL := frB.keep l _ h2 (noA.owns l)
  have zA := frB.fz a _ h1 (noA.owns a) h3
  have zL := frB.fz l _ h2 (noA.owns l) h4
  have noB : NoOwn ([.d (cList (cTup cInt)) texts, .d (cList cI3) F, .d (cList cI3) L, .d (cCh C) (sort3 F), .d (cCh C) (sort3 L), .d (cList cInt) (sortI (clashL F L)), .d cV (.ref a), .d (cList (cTup cInt)) [], .un, .un, .un, .un] : Ctxt) := by
    intro s hs; simp at hs; rcases hs with h | h | h | h | h | h | h | h | h <;> subst h <;> rfl
  have noN : NoOwn ([.d (cList (cTup cInt)) texts, .d (cList cI3) F, .d (cList cI3) L, .d (cCh C) (sort3 F), .d (cCh C) (sort3 L), .d (cList cInt) (sortI (clashL F L)), .d cNev ((), sortI (clashL F L)), .d (cList (cTup cInt)) [], .un, .un, .un, .un] : Ctxt) := by
    intro s hs; simp at hs; rcases hs with h | h | h | h | h | h | h | h | h <;> subst h <;> rfl
  -- if due != []
  refine TDT.run (P := (· = !decide (sortI (clashL F L) = []))) (tcmp (op_neDG rfl) (pd_name (i := 5) rfl rfl (.inl rfl)) (TDF.td (pdf_nil (c := cInt))) (rd_neD (eList eInt) (by decide)) (nomark _)) SB hn fun b Hf4 H4 pb f4 S4 => ?_
  have hb : b = true := by rw [pb]; simp [hc]
  subst hb
  refine iteT ?_
  have kA4 := f4.keep a _ kA (noB.bx a)
  have kL4 := f4.keep l _ kL (noB.bx l)
  have zA4 := f4.fz a _ kA (noB.bx a) zA
  have zL4 := f4.fz l _ kL (noB.bx l) zL
  -- told as it is, looked at
  have S5 := S4.fzRaw noB zL4 kL4 ol
  have zA5 : (upd Hf4 l (.lst ((sortI (clashL F L)).map V.int))) a = none := by rw [upd_ne ne]; exact zA4
  have S6 := S5.fzRaw noB zA5 kA4 oa
  have hdl : (sortI (clashL F L)).length ≤ LB := by
    show (sortBy id (clashL F L)).length ≤ LB
    rw [(sortBy_perm id (clashL F L)).length_eq]
    have h1 := clashL_len L F
    have h2 := Nat.mul_le_mul hF.2.2 hL.2.2
    unfold LB; omega
  have e6 : σB[6]? = some (some (V.ref a)) := by
    obtain ⟨v, g1, g2⟩ := S4.at_ 6 _ rfl
    have g2 : v = .ref a := g2
    rw [← g2]; exact g1
  have S7 : Sat O _ H4 σB [.d (cList (cTup cInt)) texts, .d (cList cI3) F, .d (cList cI3) L, .d (cCh C) (sort3 F), .d (cCh C) (sort3 L), .d (cList cInt) (sortI (clashL F L)), .d cNev ((), sortI (clashL F L)), .d (cList (cTup cInt)) [], .un, .un, .un, .un] n := S6.recode (i := 6) (c := cNev) (x := ((), sortI (clashL F L))) e6 ⟨a, _, _, rfl, upd_same, rfl, ⟨l, _, rfl, by rw [upd_ne ne.symm]; exact upd_same, paired_ints _, by rw [List.length_map]; exact hdl⟩⟩
  refine TDT.run (P := (· = false)) (TDT.imp (pdt_w (tor (tcmp (op_neDG rfl) (pd_name (i := 7) rfl rfl (.inl rfl)) (TDF.td (pdf_nil (c := cTup cInt))) (rd_neD (eList (eTup eInt)) (by decide)) (nomark _)) fun _ => pdw_or1 (tcmp (op_neDG rfl) (pd_name (i := 6) rfl rfl (.inl rfl)) (plst2 pd_S1 (pd_name (i := 5) rfl rfl (.inl rfl)) (fun _ => rfl) (fun _ => rfl)) (rd_neD eNev (by decide)) (nomark _)))) fun x hx => hx.trans (by simp)) S7 hn fun b Hf8 H8 pb f8 S8 => ?_
  subst pb
  refine iteF ?_
  have k8 : Ex H4 H8 := fun x o e => f8.keep x o e (noN.bx x)
  have S9 : Sat O Hf4 H8 σB [.d (cList (cTup cInt)) texts, .d (cList cI3) F, .d (cList cI3) L, .d (cCh C) (sort3 F), .d (cCh C) (sort3 L), .d (cList cInt) (sortI (clashL F L)), .d cV (.ref a), .d (cList (cTup cInt)) [], .un, .un, .un, .un] n := S4.heap noB k8 f8.dom
  -- told[1].append(9)
  have kL8 := k8 _ _ kL4
  refine ⟨.ref a, e6, a, _, 1, .ref l, rfl, rfl, SqL.of (k8 _ _ kA4), rfl, .inl ⟨rfl, _, SqL.of kL8⟩, ?_⟩
  refine ⟨l, _, .int 9, rfl, rfl, kL8, by rw [List.length_map]; exact lb_lt hdl, ?_⟩
  have SX := S9.mutRaw (o := .lst (((sortI (clashL F L)).map V.int) ++ [.int 9])) noB zL4 ol
  show tSs (Stwo P w K mg base) _ _ σB _
  refine HS.run (ρ := Bool) (p := pTwo) ?rest SX hn (fun _ _ _ _ z _ => z.elim) (fun _ _ _ _ z _ => z.elim) (fun _ _ _ _ z _ => z.elim) (fun v σ' Hf' H' Γ' x z r fz => q4 v σ' Hf' H' Γ' x z r ⟨fz.sat, fun i x e => absurd (no3.at e) (fun z => nomatch z), (((f1.ex.trans F2.ex).trans fB.ex).trans f4.ex).trans fz.ex⟩)
  case rest =>
    have t8 : (8 : Nat) ≤ 9 := by decide
    refine bset (k := 0) (k2 := 0) 8 (TDF.td (plst (.cons (pcal2 C2 t8 rfl (pd_name (i := 3) rfl rfl (.inl rfl)) (pd_name (i := 4) rfl rfl (.inl rfl)) hw1 (fun _ => rfl) (fun _ => rfl) (fun _ => rfl)) (.cons (pcal2 C2 t8 rfl (pmkCh I_Change T (show (5 + 1 : Nat) ≤ 9 by decide) rfl (TDF.td (prev (pd_name (i := 1) rfl rfl (.inr (.inl rfl))))) rF (fun _ => rfl) (fun _ => rfl)) (pmkCh I_Change T (show (5 + 1 : Nat) ≤ 9 by decide) rfl (TDF.td (prev (pd_name (i := 2) rfl rfl (.inr (.inl rfl))))) rL (fun _ => rfl) (fun _ => rfl)) (by rw [eF, eL]; exact hw1) (fun _ => rfl) (fun _ => rfl) (fun _ => rfl)) .nil (fun _ => rfl)) (fun _ => rfl)) (by simp))) trivial rfl (.inl rfl) (fun _ _ => rfl) (.inl rfl) ?_
    rintro _ rfl
    refine bret (pcmp (op_eqDG rfl) (pd_name (i := 8) rfl rfl (.inl rfl)) (TDF.td (plst (.cons (plst2 pd_S1 (pd_name (i := 5) rfl rfl (.inl rfl)) (fun _ => rfl) (fun _ => rfl)) (.cons (plst2 pd_S1 (pd_name (i := 5) rfl rfl (.inl rfl)) (fun _ => rfl) (fun _ => rfl)) .nil (fun _ => rfl)) (fun _ => rfl)) (by simp))) (rd_eqD (eList eNev) (by decide)) (nomark _)) ?_
    intro x hx
    refine hx.trans ?_
    rw [eF, eL, hw0]
    exact decide_eq_true rfl
end
end K04

set_option Elab.async false
set_option linter.all false
set_option maxRecDepth 100000
set_option maxHeartbeats 4000000
namespace K04
open PySem PySem.Spec L2 DL
section
variable {P : Program} {w : PySem.World} {K : PySem.W.Frag} {mg : Str → Option Value} {base : Heap} {C : Addr}
variable (U : Bt mg)
include U
theorem c_two (D : Def K mg "_law_two_right" sTwo) (T : TCh K mg C) (I_Change : ICal P w K mg base C ["self", "rows"] 5 (P_init C)) (M_back : MCal P w K mg base C "back" ["self"] 7 (P_back C)) (M_then : MCal P w K mg base C "then" ["self", "other"] 7 (P_thenM C)) (Q_Change : EqK P w K mg base C 1 FCh) (C1 : Cal P w K mg base "_law_told" ["change", "second"] 8 (P_told C))
    (C0 : Cal P w K mg base "_law_told" ["change", "second"] 8 (spToldN C)) (C2 : Cal P w K mg base "_law_told" ["change", "second"] 8 (P_toldN C))
    (C_fits : Cal P w K mg base "_law_fits" ["triples", "word"] 1 P_fits) (C_done : Cal P w K mg base "_law_done" ["triples", "word"] 1 P_done) (C_clash : Cal P w K mg base "_law_clash" ["first", "last"] 1 P_clash) (C_then : Cal P w K mg base "_law_then" ["first", "last"] 1 P_then) :
    Cal P w K mg base "_law_two_right" ["texts", "first", "last"] 10 P_two := by
  refine cal_D (N := nTwo) D (fun _ _ _ _ _ _ us hl => match us, hl with | [_, _, _], _ => rfl) scTwo (fun _ _ => rfl) (by decide) (fun _ _ => trivial) fun b a hp => ?_
  obtain ⟨texts, F, L⟩ := a
  have hp : TwoPre texts F L := hp
  have hF := hp.rF
  have hL := hp.rL
  refine HS.le (k := 0) ?_ (Nat.zero_le _)
  refine bpar3 (k1 := 0) (k2 := 0) (k3 := 0) (kr := 0) 3 4 5 (TD.tx' (pmkCh I_Change T (show (5 + 1 : Nat) ≤ 9 by decide) rfl (pd_name (i := 1) rfl rfl (.inr (.inl rfl))) hF (fun _ => rfl) (fun _ => rfl))) (TD.tx' (pmkCh I_Change T (show (5 + 1 : Nat) ≤ 9 by decide) rfl (pd_name (i := 2) rfl rfl (.inr (.inl rfl))) hL (fun _ => rfl) (fun _ => rfl))) (TD.tx' (pcal2 C_clash (show (1 : Nat) ≤ 9 by decide) rfl (pd_name (i := 1) rfl rfl (.inr (.inl rfl))) (pd_name (i := 2) rfl rfl (.inr (.inl rfl))) ⟨hF.2.2, hL.2.2⟩ (fun _ => rfl) (fun _ => rfl) (fun _ => rfl)))
    trivial trivial trivial (by decide) (by decide) (by decide) (fun z => nomatch z) (fun z => nomatch z) (fun z => nomatch z) rfl rfl rfl rfl rfl rfl (fun _ => rfl) (fun _ => rfl) (fun _ => rfl) (fun env he => by cases env; cases he; rfl) (fun env he => by cases env; cases he; rfl) ?_
  refine HS.ctx (Γ' := [.d (cList (cTup cInt)) texts, .d (cList cI3) F, .d (cList cI3) L, .d (cCh C) (sort3 F), .d (cCh C) (sort3 L), .d (cList cInt) (sortI (clashL F L)), .un, .un, .un, .un, .un, .un]) rfl ?_
  by_cases hc : sortI (clashL F L) = []
  · exact two_plain U hp hc T M_back M_then Q_Change C1 C_fits C_done C_then
  · exact two_clash U hp hc T I_Change C0 C2 C_fits C_done
/-! ### the pieces of a script -/
omit U in
theorem dummy_r : True := trivial
end
end K04

set_option Elab.async false
set_option linter.all false
set_option maxRecDepth 100000
set_option maxHeartbeats 4000000
namespace K04
open PySem PySem.Spec L2 DL
structure Bt2 (mg : Str → Option Value) : Prop where
  sum : mg "sum" = none
  abs : mg "abs" = none
  max : mg "max" = none
  min : mg "min" = none
/-- the script -/
def cScrK (K : PySem.W.Frag) : Cod (List Int) := ⟨fun H v xs => ∃ a, v = .ref a ∧ SqL K H a (xs.map V.int), fun e ⟨a, h1, h2⟩ => ⟨a, h1, by
  rcases h2 with h2 | h2
  · exact .inl (e.rd h2)
  · exact .inr h2⟩⟩
def spCellL (K : PySem.W.Frag) : Sp := fun vs H Q _ => ∃ (a : Addr) (ns : List Int) (k : Int), vs = [.ref a, .int k] ∧ SqL K H a (ns.map V.int) ∧ ns.length ≤ 63 ∧ 0 ≤ k ∧ k ≤ 5 ∧ ∀ (i : Int) H', Ex H H' → (∀ b, H' b = none → H b = none) → Q (.int i) H'
def spBoxL : Sp := fun vs H Q _ => ∃ (g : Int), vs = [.int g] ∧ ∀ (b : Addr) (g' : Int) (big : Bool) (m : Int), H b = none → 0 ≤ m → m < 2147483648 → Q (.ref b) (upd H b (.lst [.int g', .bl big, .int m, .int 0]))
section
variable {P : Program} {w : PySem.World} {K : PySem.W.Frag} {mg : Str → Option Value} {base : Heap} {C : Addr}
variable (U : Bt mg) (U2 : Bt2 mg)
include U U2
theorem ok_cell {f : Addr} {fd : FuncData} (F : Fun K "_law_cell" "_law_cell" (top 23) f fd) : FnOk P w K mg base CX0 1 f fd ["script", "k"] (spCellL K) := by
  refine F.ok (N := ["script", "k"]) ⟨rfl, rfl, rfl, by decide +kernel, rfl, by decide +kernel, by decide +kernel⟩ (fun vs H Q E h => ?_) (fun cdv A outer s H vs Q E hr h => ?_)
  · obtain ⟨a, ns, k, rfl, _⟩ := h
    rfl
  · obtain ⟨a, ns, k, rfl, hs, hl, k0, k1, q⟩ := h
    refine ⟨_, pss_one (ps_ret (pe_ifExp (pt_cmpR op_lt (pv 1) (pe_callB call_len_seq rfl U.len PySem.boot_len (pa_cons (pv 0) pa_nil)) (nomark _)) (pe_ix ix_list (pv 0) (pv 1) (fun _ _ => rfl)) (pe_op op_add (pe_op op_mul pe_int (pv 1)) (pe_op op_mod (pe_callB (cr_sum rfl) rfl U2.sum PyProof.Rows.boot_sum (pa_cons (pe_slice sl_list (pv 0) po_none (po_some pe_int)) pa_nil)) pe_int)))), ?_⟩
    refine ⟨.int k, rfl, .ref a, rfl, a, _, rfl, .inl hs, k, _, rfl, rfl, _, rfl, ?_⟩
    refine ite2 (fun hlt => ?_) fun _ => ?_
    · have hk : 0 ≤ k ∧ k < ((ns.map V.int).length : Int) := ⟨k0, of_decide_eq_true hlt⟩
      have hk2 : k.toNat < ns.length := by rw [List.length_map] at hk; omega
      refine ⟨.ref a, rfl, .int k, rfl, a, _, k, .int ns[k.toNat], rfl, rfl, hs, ?_, q _ H Ex.rfl' fun _ h => h⟩
      unfold atI
      rw [ixN_at hk]
      show (ns.map V.int)[k.toNat]? = _
      rw [List.getElem?_map, List.getElem?_eq_getElem hk2]; rfl
    · refine ⟨.int k, rfl, 7919, k, rfl, rfl, .inl ⟨by decide, by decide⟩, .ref a, rfl, 1, rfl, a, _, rfl, hs, fun p hp => ?_⟩
      have ec : cutV (ns.map V.int) none (some 1) = ((ns.drop (HT.sIx (ns.map V.int).length 0 none)).take (HT.sIx (ns.map V.int).length (ns.map V.int).length (some 1) - HT.sIx (ns.map V.int).length 0 none)).map V.int := by
        unfold cutV; rw [List.map_take, List.map_drop]
      rw [ec]
      refine ⟨p, _, rfl, SqL.of upd_same, ?_⟩
      refine ⟨_, 1000003, rfl, rfl, (show (0 : Int) < 1000003 by decide), _, _, rfl, rfl, q _ _ (Ex.new hp) fun x hx => ?_⟩
      by_cases z : x = p
      · subst z; rw [upd_same] at hx; cases hx
      · rw [upd_ne z] at hx; exact hx
theorem ok_box {f : Addr} {fd : FuncData} (F : Fun K "_law_box" "_law_box" (top 24) f fd) : FnOk P w K mg base CX0 1 f fd ["great"] spBoxL := by
  refine F.ok (N := ["great"]) ⟨rfl, rfl, rfl, by decide +kernel, rfl, by decide +kernel, by decide +kernel⟩ (fun vs H Q E h => ?_) (fun cdv A outer s H vs Q E hr h => ?_)
  · obtain ⟨g, rfl, _⟩ := h
    rfl
  · obtain ⟨g, rfl, q⟩ := h
    refine ⟨_, pss_one (ps_ret (pe_lst (pa_cons (pe_callB call_abs rfl U2.abs PyProof.Rows.boot_abs (pa_cons (pv 0) pa_nil)) (pa_cons (pe_cmpR op_ge (pe_callB call_abs rfl U2.abs PyProof.Rows.boot_abs (pa_cons (pv 0) pa_nil)) (pe_op op_pow pe_int pe_int) (nomark _)) (pa_cons (pe_op op_mod (pe_callTy call_int1 rfl U.int (by decide +kernel) (pa_cons (pe_callB call_abs rfl U2.abs PyProof.Rows.boot_abs (pa_cons (pv 0) pa_nil)) pa_nil)) pe_int) (pa_cons pe_int pa_nil)))))), ?_⟩
    refine ⟨.int g, rfl, g, rfl, .int g, rfl, g, rfl, 10, 18, rfl, rfl, ⟨by decide, by decide, by decide⟩, _, _, rfl, rfl, .int g, rfl, g, rfl, .inl ⟨_, rfl, _, 2147483629, rfl, rfl, (show (0 : Int) < 2147483629 by decide), ?_⟩⟩
    refine ⟨by show 4 ≤ sizeLine; decide, fun p hp => q p _ _ _ hp (Int.emod_nonneg _ (by decide)) (Int.lt_trans (Int.emod_lt_of_pos _ (by decide)) (by decide))⟩
end
end K04

set_option Elab.async false
set_option linter.all false
set_option maxRecDepth 100000
set_option maxHeartbeats 4000000
namespace K04
open PySem PySem.Spec L2 DL
/-! ### rows of a world -/
theorem mem_rangeL {lo x : Int} {n : Nat} : x ∈ rangeL lo n ↔ lo ≤ x ∧ x < lo + (n : Int) := by
  unfold rangeL
  rw [List.mem_map]
  constructor
  · rintro ⟨i, hi, e⟩
    have := List.mem_range.mp hi
    omega
  · rintro ⟨h1, h2⟩
    exact ⟨(x - lo).toNat, List.mem_range.mpr (by omega), by omega⟩
theorem wordsIn_at {s : Int} : ∀ {W : List R3}, (W.map (·.1)).Nodup → ∀ q ∈ W, q.1 = s → wordsIn s W = rangeL q.2.1 (q.2.1 + q.2.2 - q.2.1).toNat := fun {W} => by
  suffices ∀ m : List R3, (m.reverse.map (·.1)).Nodup → ∀ q ∈ m.reverse, q.1 = s → wordsIn s m.reverse = rangeL q.2.1 (q.2.1 + q.2.2 - q.2.1).toNat by
    have := this W.reverse; rwa [List.reverse_reverse] at this
  intro m
  induction m with
  | nil => intro _ q hq; simp at hq
  | cons x m ih =>
    intro nd q hq e
    rw [List.reverse_cons] at nd hq ⊢
    rw [wordsIn_snoc]
    by_cases hx : x.1 = s
    · rw [if_pos hx]
      have : q = x := wld_one nd hq (by simp) (by rw [e, hx])
      rw [this]
    · rw [if_neg hx]
      rw [List.map_append, List.nodup_append] at nd
      rcases List.mem_append.mp hq with h | h
      · exact ih nd.1 q h e
      · rw [List.mem_singleton.mp h] at e; exact absurd e hx
theorem wordsIn_ne {s : Int} : ∀ {W : List R3}, World1 W → wordsIn s W ≠ [] := fun {W} => by
  suffices ∀ m : List R3, World1 m.reverse → wordsIn s m.reverse ≠ [] by
    have := this W.reverse; rwa [List.reverse_reverse] at this
  intro m
  induction m with
  | nil => intro _ h; cases h
  | cons x m ih =>
    intro h
    rw [List.reverse_cons] at h ⊢
    rw [wordsIn_snoc]
    split
    · intro z
      have := congrArg List.length z
      rw [rangeL_len] at this
      have hx := h x (by simp)
      simp at this
      omega
    · exact ih fun r hr => h r (List.mem_append_left _ hr)
theorem rows_InW {W rs : List R3} (hW : Wld W) (h : InW W rs) (nd : (rs.map (·.1)).Nodup) : Rows rs := rows_mk (fun r hr => by
  obtain ⟨q, hq, e, h1, h2⟩ := h r hr
  have a := hW.1 q hq
  have b := hW.2.1 q hq
  exact rowOk_iff.mpr ⟨by omega, by omega, by omega⟩) nd
theorem InW.perm {W a b : List R3} (h : InW W a) (p : b.Perm a) : InW W b := fun r hr => h r (p.mem_iff.mp hr)
theorem InW.look {W rs : List R3} (h : InW W rs) {p : Int} {v : Int × Int} (e : look rs p = some v) : ∃ q ∈ W, q.1 = p ∧ (q.2.1 ≤ v.1 ∧ v.1 < q.2.1 + q.2.2) ∧ (q.2.1 ≤ v.2 ∧ v.2 < q.2.1 + q.2.2) := h _ (look_mem e)
theorem InW_then {W F L : List R3} (hW : Wld W) (iF : InW W F) (iL : InW W L) (hF : Rows F) (hL : Rows L) : InW W (thenL F L) := fun r hr => by
  have e : look (thenL F L) r.1 = some r.2 := mem_look (rows_then hF hL).2.1 hr
  rw [look_then hF hL] at e
  cases e1 : look F r.1 with
  | none => rw [e1] at e; exact iL.look e
  | some f =>
    obtain ⟨q, hq, g1, g2, g3⟩ := iF.look e1
    rw [e1] at e
    cases e2 : look L r.1 with
    | none =>
      rw [e2] at e
      have e' : f = r.2 := Option.some.inj e
      exact ⟨q, hq, g1, by rw [← e']; exact g2, by rw [← e']; exact g3⟩
    | some l =>
      obtain ⟨q2, hq2, k1, k2, k3⟩ := iL.look e2
      rw [e2] at e
      have : q2 = q := wld_one hW.2.2.1 hq2 hq (by rw [k1, g1])
      subst this
      have e' : (f.1, l.2) = r.2 := Option.some.inj e
      exact ⟨q2, hq, g1, by rw [← e']; exact g2, by rw [← e']; exact k3⟩
theorem two_pre {W F L : List R3} (hW : Wld W) (iF : InW W F) (iL : InW W L) (hF : Rows F) (hL : Rows L) : TwoPre (textsL W (rangeL 0 8)) F L where
  len := fun w hw => by
    have := ((mem_texts W (rangeL 0 8) w).mp hw).1
    rw [this, rangeL_len]
  rF := hF
  rL := hL
  fit := fun _ => by
    have iT := InW_then hW iF iL hF hL
    have hT := rows_then hF hL
    refine ⟨(rangeL 0 8).map fun s => match look (thenL F L) s with
      | some v => v.1
      | none => (wordsIn s W).headD 0, (mem_texts W _ _).mpr ⟨by rw [List.length_map], fun i s x h1 h2 => ?_⟩, (miss_nil hT).mpr fun p v e => ?_⟩
    · rw [List.getElem?_map, h1] at h2
      have h2' : (match look (thenL F L) s with
        | some v => v.1
        | none => (wordsIn s W).headD 0) = x := Option.some.inj h2
      subst h2'
      cases e : look (thenL F L) s with
      | none =>
        dsimp only
        have := wordsIn_ne (s := s) hW.1
        cases ew : wordsIn s W with
        | nil => exact absurd ew this
        | cons y ys => simp
      | some v =>
        dsimp only
        obtain ⟨q, hq, g1, g2, _⟩ := iT.look e
        rw [wordsIn_at hW.2.2.1 q hq g1, mem_rangeL]
        have := hW.1 q hq
        omega
    · have hp := (hT.look_ok e).1
      unfold atT
      rw [List.getD_eq_getElem?_getD, List.getElem?_map]
      have : (rangeL 0 8)[p.toNat]? = some p := by
        unfold rangeL
        rw [List.getElem?_map, List.getElem?_range (by omega)]
        show some (0 + ((p.toNat : Nat) : Int)) = some p
        congr 1; omega
      rw [this]
      show (match look (thenL F L) p with
        | some v => v.1
        | none => (wordsIn p W).headD 0) = v.1
      rw [e]
end K04

set_option Elab.async false
set_option linter.all false
set_option maxRecDepth 100000
set_option maxHeartbeats 4000000
namespace K04
open PySem PySem.Spec L2 DL
def betwL (t o r : List Int) : List R3 := ((rangeL 0 8).map fun x => (x, t.getD x.toNat default, o.getD x.toNat default)).filter fun y => !decide (y.2.1 = y.2.2) || decide (y.1 ∈ r)
def PreB (a : List Int × List Int × List Int) : Prop := a.1.length = 8 ∧ a.2.1.length = 8 ∧ Up (a.2.2, 8) ∧ Rows (betwL a.1 a.2.1 a.2.2)
abbrev P_betw (K : PySem.W.Frag) (C : Addr) : Sp := spP (fun (a : List Int × List Int × List Int) => [.d (cTup cInt) a.1, .d (cTup cInt) a.2.1, .d (cSq K cInt) a.2.2]) PreB (cCh C) (fun a => sort3 (betwL a.1 a.2.1 a.2.2))
abbrev nBt : List Str := ["text", "other", "resting", "rows", "at", "row"]
abbrev sBt : Stmt := top 21
section
variable {P : Program} {w : PySem.World} {K : PySem.W.Frag} {mg : Str → Option Value} {base : Heap} {C : Addr}
variable (U : Bt mg)
include U
theorem ok_betw {kws : List (Str × V)} {f : Addr} {fd : FuncData} (F : FunD K "change_between" "change_between" (defArgs sBt) (defBody sBt) (defScope sBt) [] kws f fd) (T : TCh K mg C) (I_Change : ICal P w K mg base C ["self", "rows"] 5 (P_init C))
    (C_are_places : Cal P w K mg base "are_places" ["value", "many"] 5 (spP (fun (a : List Int × Int) => [.d (cSq K cInt) a.1, .d cInt a.2]) Up cBool (fun a => true))) : FnOk P w K mg base CX0 7 f fd ["text", "other", "resting"] (P_betw K C) := by
  refine fn_DK (N := nBt) F ⟨rfl, rfl, rfl, by decide +kernel, rfl, by decide +kernel, by decide +kernel⟩ (fun _ _ => rfl) (by decide) (fun _ _ => trivial) fun b a hp => ?_
  obtain ⟨t, o, r⟩ := a
  obtain ⟨ht, ho, hr, hR⟩ := (show t.length = 8 ∧ o.length = 8 ∧ Up (r, 8) ∧ Rows (betwL t o r) from hp)
  refine bifR (k1 := 0) (k2 := 0) (k3 := 0) (pdt_not (pdt_val (pcal2 C_are_places (show (5 : Nat) ≤ 6 by decide) rfl (pd_name (i := 2) rfl rfl (.inr (.inl rfl))) (plen rfl U.len (TD.seqT (pd_name (i := 0) rfl rfl (.inr (.inl rfl)))) (fun _ => rfl)) ?_ (fun _ => rfl) (fun _ => rfl) (fun _ => rfl)) (fun _ _ => rfl))) (fun h => ?_) fun h => ?_
  · show Up (r, (t.length : Int)); rw [ht]; exact hr
  · exact absurd h (by decide)
  refine bsetLc (k := 0) (k2 := 0) 3 [("at", 4)] (tdf_lcN (prng1 rfl U.range (plen rfl U.len (TD.seqT (pd_name (i := 0) rfl rfl (.inr (.inl rfl)))) (fun _ => rfl)) ?_ (fun _ => rfl)) trivial fun x hx => ⟨_, _, (pdg_name (i := 4) trivial rfl (.inl rfl) (.inr rfl)), (fun _ h => h), (pt3 (pd_name (i := 4) rfl rfl (.inl rfl)) (pix ixTG (pd_name (i := 0) rfl rfl (.inr (.inl rfl))) (pd_name (i := 4) rfl rfl (.inl rfl)) (rd_ixTd ?_) (fun _ _ => rfl)) (pix ixTG (pd_name (i := 1) rfl rfl (.inr (.inl rfl))) (pd_name (i := 4) rfl rfl (.inl rfl)) (rd_ixTd ?_) (fun _ _ => rfl)) (fun _ => rfl) (fun _ => rfl) (fun _ => rfl))⟩) trivial rfl rfl rfl rfl rfl (by kernel_rfl) (fun _ _ => rfl) ?_
  · rw [ht]; decide
  · have := mem_rangeL.mp hx; omega
  · have h1 := mem_rangeL.mp hx; have h2 : t.length = 8 := ht; have h3 : o.length = 8 := ho; dsimp only at h1 ⊢; omega
  rintro _ rfl
  refine bret (pmkCh I_Change T (show (5 + 1 : Nat) ≤ 6 by decide) rfl (TDF.td (plcT [("row", 5)] (pdi_list (pd_name (i := 3) rfl rfl (.inl rfl))) trivial (by kernel_rfl) (fun _ _ => rfl) fun x hx => ⟨_, _, (pdg_name (i := 5) trivial rfl (.inl rfl) (.inr rfl)), (fun _ h => h), (tts_one (pdt_w (tor (tcmp (fun _ _ => op_ne) (pix ixTG (pd_name (i := 5) rfl rfl (.inl rfl)) pd_int rd_ix3_1 (fun _ _ => rfl)) (pix ixTG (pd_name (i := 5) rfl rfl (.inl rfl)) pd_int rd_ix3_2 (fun _ _ => rfl)) rd_neI (nomark _)) fun _ => (pdw_or1 (tcmp op_inG (pix ixTG (pd_name (i := 5) rfl rfl (.inl rfl)) pd_int rd_ix3_0 (fun _ _ => rfl)) (pd_name (i := 2) rfl rfl (.inr (.inl rfl))) (rd_inK (neg := false)) rfl))))), fun hq => (pd_name (i := 5) rfl rfl (.inl rfl))⟩)) ?_ (fun _ => rfl) (fun _ => rfl)) ?_
  · simpa [betwL, ht] using hR
  · intro x h
    refine h.trans ?_
    simp [betwL, ht]
end
end K04

set_option Elab.async false
set_option linter.all false
set_option maxRecDepth 100000
set_option maxHeartbeats 4000000
namespace K04
open PySem PySem.Spec L2 DL
theorem kwB : KwB "change_between" sBt "text" "other" "resting" where
  d := fun D doc pm an cdv ct u1 u2 u3 => ⟨_, _, _, _, _, _, rfl, rfl, rfl⟩
  n := fun D doc pm an cdv ct u1 u2 u3 => ⟨_, _, _, _, _, _, rfl, rfl, rfl⟩
  k := fun D doc pm an cdv ct u1 u2 u3 => rfl
theorem emp_rep {K : PySem.W.Frag} {T : Addr} {d : Option Addr} {sl : Array (Option Value)} {n : Nat} (h : K.lookup T = some ⟨.type "tuple", d, .seq #[] n, sl⟩) (H : Hp) : (cSq K cInt).rep H (.ref T) [] :=
  ⟨T, [], rfl, .inr (.inr ⟨_, #[], n, h, rfl, rfl, by decide, .nil⟩), .nil, by decide⟩
theorem c_betw {P : Program} {w : PySem.World} {K : PySem.W.Frag} {mg : Str → Option Value} {base : Heap} {C : Addr} {f D T : Addr} {fd : FuncData} (U : Bt mg) (F : FunD K "change_between" "change_between" (defArgs sBt) (defBody sBt) (defScope sBt) [] [("resting", .ref T)] f fd) (hm : mg "change_between" = some (.ref f)) (TC : TCh K mg C) (I_Change : ICal P w K mg base C ["self", "rows"] 5 (P_init C))
    (C_are_places : Cal P w K mg base "are_places" ["value", "many"] 5 (spP (fun (a : List Int × Int) => [.d (cSq K cInt) a.1, .d cInt a.2]) Up cBool (fun a => true))) : CalK P w K mg base "change_between" sBt "text" "other" "resting" (.ref T) 7 (P_betw K C) :=
  ⟨f, fd, F, ok_betw U F TC I_Change C_are_places, hm⟩
theorem funD_mk {K : PySem.W.Frag} {x qual : Str} {st : Stmt} {f D T : Addr} {oc : Value} {od an : Option Addr} {osl : Array (Option Value)} {doc pm cdv ct : Value} {n : Str} (l : K.lookup f = some ⟨oc, od, .func (PySem.W.fnOf x qual (defArgs st) (defBody st) (defScope st) .none (.ref D) doc pm an cdv ct), osl⟩)
    (c : PySem.W.codeIn K cdv qual = true) (k : PySem.W.keepIn K (.ref f) = true) (d : PySem.W.nsIn K D n = some (some (.ref T))) : FunD K x qual (defArgs st) (defBody st) (defScope st) [] [(n, .ref T)] f (PySem.W.fnOf x qual (defArgs st) (defBody st) (defScope st) .none (.ref D) doc pm an cdv ct) :=
  ⟨⟨oc, od, .none, .ref D, doc, pm, an, cdv, ct, osl, rfl, l, c, .inl ⟨rfl, rfl⟩, .inr ⟨D, rfl, fun q hq => by
    rcases List.mem_cons.mp hq with e | h
    · subst e; exact ⟨_, d, rfl⟩
    · cases h⟩⟩, k⟩
end K04

set_option Elab.async false
set_option linter.all false
set_option maxRecDepth 100000
set_option maxHeartbeats 4000000
namespace K04
open PySem PySem.Spec L2 DL
/-! ### between texts -/
def Wd (t : List Int) : Prop := t.length = 8 ∧ ∀ p : Int, 0 ≤ atT t p ∧ atT t p < 6
theorem wd_mk {t : List Int} (h1 : t.length = 8) (h2 : ∀ x ∈ t, 0 ≤ x ∧ x < 6) : Wd t := ⟨h1, fun p => by
  unfold atT
  rw [List.getD_eq_getElem?_getD]
  cases e : t[p.toNat]? with
  | none => exact (by decide : 0 ≤ (default : Int) ∧ (default : Int) < 6)
  | some x => exact h2 x (List.mem_of_getElem? e)⟩
theorem range8 : rangeL 0 8 = [0, 1, 2, 3, 4, 5, 6, 7] := by decide
theorem mem_betw {t o r : List Int} {p : Int} {v : Int × Int} : (p, v) ∈ betwL t o r ↔ (0 ≤ p ∧ p < 8) ∧ v = (atT t p, atT o p) ∧ (atT t p ≠ atT o p ∨ p ∈ r) := by
  unfold betwL
  rw [List.mem_filter, List.mem_map]
  constructor
  · rintro ⟨⟨x, hx, e⟩, h⟩
    injection e with e1 e2
    subst e1
    have := mem_rangeL.mp hx
    rw [← e2] at h
    refine ⟨by omega, e2.symm, ?_⟩
    by_cases hx2 : atT t x = atT o x
    · right
      rw [Bool.or_eq_true] at h
      rcases h with h | h
      · simp at h; exact absurd hx2 h
      · exact of_decide_eq_true h
    · exact .inl hx2
  · rintro ⟨hp, hv, h⟩
    subst hv
    refine ⟨⟨p, mem_rangeL.mpr (by omega), rfl⟩, ?_⟩
    rw [Bool.or_eq_true]
    rcases h with h | h
    · left; simpa using h
    · right; exact decide_eq_true h
theorem betw_fst (t o r : List Int) : ((betwL t o r).map (·.1)).Pairwise (· < ·) := by
  have h : ((betwL t o r).map (·.1)).Sublist (((rangeL 0 8).map fun x => (x, t.getD x.toNat default, o.getD x.toNat default)).map (·.1)) := List.Sublist.map _ List.filter_sublist
  refine List.Pairwise.sublist h ?_
  rw [List.map_map, range8]
  simp
theorem rows_betw {t o : List Int} (r : List Int) (ht : Wd t) (ho : Wd o) : Rows (betwL t o r) := rows_mk (fun q hq => by
  obtain ⟨p, v⟩ := q
  obtain ⟨h1, h2, _⟩ := mem_betw.mp hq
  subst h2
  exact rowOk_iff.mpr ⟨h1, ht.2 p, ho.2 p⟩) ((betw_fst t o r).imp fun h e => absurd e (by omega))
theorem sort_betw {t o : List Int} (r : List Int) (ht : Wd t) (ho : Wd o) : sort3 (betwL t o r) = betwL t o r := by
  have h64 := rows64 (rows_betw r ht ho)
  refine (sortBy_eq (f := code3) (List.Perm.refl _) ?_ fun x hx y hy => code3_inj (h64 x hx) (h64 y hy)).symm
  have := betw_fst t o r
  rw [List.pairwise_map] at this
  have key : ∀ (M : List R3), (∀ r ∈ M, In64 r) → M.Pairwise (fun a b => a.1 < b.1) → M.Pairwise (fun a b => code3 a ≤ code3 b) := fun M => by
    induction M with
    | nil => exact fun _ _ => .nil
    | cons x M ih =>
      intro hm hp
      rw [List.pairwise_cons] at hp ⊢
      refine ⟨fun b hb => ?_, ih (fun r hr => hm r (List.mem_cons_of_mem _ hr)) hp.2⟩
      have c := hp.1 b hb
      obtain ⟨_, x2, x3⟩ := hm x List.mem_cons_self
      obtain ⟨_, b2, b3⟩ := hm b (List.mem_cons_of_mem _ hb)
      unfold code3
      omega
  exact key _ h64 this
theorem look_betw {t o : List Int} (r : List Int) (ht : Wd t) (ho : Wd o) (p : Int) : look (betwL t o r) p = if (0 ≤ p ∧ p < 8) ∧ (atT t p ≠ atT o p ∨ p ∈ r) then some (atT t p, atT o p) else none := by
  split
  · rename_i h
    exact mem_look (rows_betw r ht ho).2.1 (mem_betw.mpr ⟨h.1, rfl, h.2⟩)
  · rename_i h
    cases e : look (betwL t o r) p with
    | none => rfl
    | some v =>
      have := mem_betw.mp (look_mem e)
      exact absurd ⟨this.1, this.2.2⟩ h
theorem betw_bare (t o r : List Int) : (betwL t o r).filter (fun y => !decide (y.2.1 = y.2.2)) = betwL t o [] := by
  unfold betwL
  rw [List.filter_filter]
  congr 1
  funext y
  cases decide (y.2.1 = y.2.2) <;> simp
theorem at_ext {a b : List Int} (ha : a.length = 8) (hb : b.length = 8) (key : ∀ p : Int, 0 ≤ p → p < 8 → atT a p = atT b p) : a = b := by
  refine List.ext_getElem (by rw [ha, hb]) fun i h1 h2 => ?_
  have := key (i : Int) (by omega) (by omega)
  unfold atT at this
  rw [List.getD_eq_getElem?_getD, List.getD_eq_getElem?_getD, show ((i : Int).toNat) = i from by omega, List.getElem?_eq_getElem h1, List.getElem?_eq_getElem h2] at this
  exact this
theorem betw_fit {t o : List Int} (r : List Int) (ht : Wd t) (ho : Wd o) : missL (betwL t o r) t = [] := (miss_nil (rows_betw r ht ho)).mpr fun p v e => by
  obtain ⟨_, h, _⟩ := mem_betw.mp (look_mem e)
  subst h; rfl
theorem betw_done {t o : List Int} (r : List Int) (ht : Wd t) (ho : Wd o) : doneL (betwL t o r) t = o := by
  refine at_ext (by rw [doneL_len, ht.1]) ho.1 fun p h0 h8 => ?_
  rw [at_done _ t (rows_in (rows_betw r ht ho) ht.1) (rows_betw r ht ho).2.1 p h0, look_betw r ht ho]
  by_cases e : atT t p = atT o p
  · split
    · rename_i v hv
      split at hv
      · cases hv; rfl
      · cases hv
    · exact e
  · rw [if_pos ⟨⟨h0, h8⟩, .inl e⟩]
def movedL (a b c : List Int) : List Int := (rangeL 0 8).filter fun p => decide (1 < (asc [atT a p, atT b p, atT c p]).length)
theorem asc3 {x y z : Int} : 1 < (asc [x, y, z]).length ↔ ¬ (x = y ∧ y = z) := by
  constructor
  · rintro h ⟨rfl, rfl⟩
    have : asc [x, x, x] = asc [x] := up_ext (asc_up _) (asc_up _) fun k => by rw [mem_asc, mem_asc]; simp
    rw [this] at h
    have := asc_len [x]
    simp at this
    omega
  · intro h
    have h1 : x ∈ asc [x, y, z] := mem_asc.mpr (by simp)
    have h2 : y ∈ asc [x, y, z] := mem_asc.mpr (by simp)
    have h3 : z ∈ asc [x, y, z] := mem_asc.mpr (by simp)
    match e : asc [x, y, z] with
    | [] => rw [e] at h1; cases h1
    | [q] =>
      rw [e] at h1 h2 h3
      simp at h1 h2 h3
      exact absurd ⟨by rw [h1, h2], by rw [h2, h3]⟩ h
    | _ :: _ :: _ => simp
theorem mem_moved {a b c : List Int} {p : Int} : p ∈ movedL a b c ↔ (0 ≤ p ∧ p < 8) ∧ ¬ (atT a p = atT b p ∧ atT b p = atT c p) := by
  unfold movedL
  rw [List.mem_filter, mem_rangeL]
  simp only [decide_eq_true_eq, asc3]
  constructor
  · rintro ⟨h1, h2⟩; exact ⟨by omega, h2⟩
  · rintro ⟨h1, h2⟩; exact ⟨by omega, h2⟩
theorem cl_betw {a b c : List Int} (ha : Wd a) (hb : Wd b) (hc : Wd c) (p : Int) : ¬ Cl (look (betwL a b []) p) (look (betwL b c []) p) := by
  rintro ⟨o, m, o2, n, h1, h2, h⟩
  have e1 := (mem_betw.mp (look_mem h1)).2.1
  have e2 := (mem_betw.mp (look_mem h2)).2.1
  cases e1; cases e2
  exact h rfl
theorem betw_wrong {a b c : List Int} (ha : Wd a) (hb : Wd b) (hc : Wd c) : wrongD (betwL a b []) (betwL b c []) = [] := (wrong_nil (rows_betw _ ha hb) (rows_betw _ hb hc)).mpr (cl_betw ha hb hc)
theorem betw_then {a b c : List Int} (ha : Wd a) (hb : Wd b) (hc : Wd c) : sort3 (rowsD (betwL a b []) (betwL b c [])) = betwL a c (movedL a b c) := by
  rw [← sort_betw _ ha hc]
  refine sort3_ext (rows_rowsD (rows_betw _ ha hb) (rows_betw _ hb hc)) (rows_betw _ ha hc) fun p => ?_
  rw [look_rowsD (rows_betw _ ha hb).2.1 (rows_betw _ hb hc).2.1, look_betw _ ha hb, look_betw _ hb hc, look_betw _ ha hc]
  by_cases hp : 0 ≤ p ∧ p < 8
  · simp only [hp, mem_moved, and_self, true_and, List.not_mem_nil, or_false]
    generalize atT a p = x
    generalize atT b p = y
    generalize atT c p = z
    by_cases e1 : x = y <;> by_cases e2 : y = z
    · subst e1; subst e2; simp [comp]
    · subst e1; simp [e2, comp]
    · subst e2; simp [e1, comp]
    · by_cases e3 : x = z
      · subst e3; simp [e1, e2, comp]
      · simp [e1, e2, e3, comp]
  · simp only [hp, false_and, if_false]; rfl
end K04

set_option Elab.async false
set_option linter.all false
set_option maxRecDepth 100000
set_option maxHeartbeats 4000000
namespace K04
open PySem PySem.Spec L2 DL
abbrev nBw : List Str := ["box", "texts", "words", "spots", "due", "spot", "told", "bare", "second", "moved", "turn", "row", "word"]
abbrev sBw : Stmt := top 38
def PreBw (a : List (List Int)) : Prop := (0 < a.length ∧ a.length ≤ 6561) ∧ ∀ t ∈ a, Wd t
abbrev P_bw : Sp := spD (fun b (a : List (List Int)) => [.bx b, .d (cList (cTup cInt)) a]) (fun _ => 11) PreBw cBool (fun _ x => x = true)
theorem up_sub {l : List Int} (h : l.Sublist (rangeL 0 8)) : Up (l, 8) := by
  refine ⟨List.Pairwise.sublist h (by rw [range8]; simp), fun x hx => ?_, ?_⟩
  · have := mem_rangeL.mp (h.subset hx); omega
  · have := h.length_le; rw [rangeL_len] at this; show l.length < 64; omega
theorem up_nil : Up ([], 8) := ⟨.nil, fun x hx => (nomatch hx), by decide⟩
theorem le_trans3 (f : List Int → Int) {w0 w1 w2 : List Int} : (([w0, w1, w2] : List (List Int)).map f).length ≤ 1000 := by simp
theorem moved_eq {w0 w1 w2 : List Int} : (rangeL 0 (Int.toNat 8)).filter (fun x => decide ((1 : Int) < ((asc (([w0, w1, w2] : List (List Int)).map fun y => y.getD x.toNat default)).length : Int))) = movedL w0 w1 w2 := by
  unfold movedL
  refine List.filter_congr fun x _ => decide_eq_decide.mpr ?_
  show (1 : Int) < ((asc [atT w0 x, atT w1 x, atT w2 x]).length : Int) ↔ _
  omega
theorem sub_take {pre : List Int} {x : Int} {post : List Int} (e : rangeL 0 8 = pre ++ x :: post) : 0 ≤ x ∧ x < 8 := by
  have : x ∈ rangeL 0 8 := by rw [e]; simp
  have := mem_rangeL.mp this; omega
def dueF (t o r pre : List Int) : List R3 := (pre.map fun x => (x, t.getD x.toNat default, o.getD x.toNat default)).filter fun y => !decide (y.2.1 = y.2.2) || decide (y.1 ∈ r)
theorem dueF_snoc_y {t o r pre : List Int} {x : Int} (h : true = (!decide (t.getD x.toNat default = o.getD x.toNat default) || if false = true then !decide (x ∈ r) else decide (x ∈ r))) : dueF t o r (pre ++ [x]) = dueF t o r pre ++ [(x, t.getD x.toNat default, o.getD x.toNat default)] := by
  unfold dueF
  rw [List.map_append, List.filter_append]
  congr 1
  exact List.filter_cons_of_pos h.symm
theorem dueF_snoc_n {t o r pre : List Int} {x : Int} (h : false = (!decide (t.getD x.toNat default = o.getD x.toNat default) || if false = true then !decide (x ∈ r) else decide (x ∈ r))) : dueF t o r (pre ++ [x]) = dueF t o r pre := by
  unfold dueF
  rw [List.map_append, List.filter_append]
  refine (congrArg _ (List.filter_cons_of_neg ?_)).trans (List.append_nil _)
  intro z
  have h2 := h.trans z
  exact absurd h2 (by decide)
theorem dueF_all (t o r : List Int) : dueF t o r (rangeL 0 8) = betwL t o r := rfl
section
variable {S : Stc} {Γ : Ctxt} {e c : Expr} {pos : Pos} {w0 w1 w2 : List Int}
theorem pw0 (h : PD S Γ 0 e (cList (cTup cInt)) (· = [w0, w1, w2])) (hc : PD S Γ 0 c cInt (· = 0)) (hs : PlainIx c) : PD S Γ 0 (.Subscript e c pos) (cTup cInt) (· = w0) := pix ixLG h hc (rd_ixLd (by simp)) hs
theorem pw1 (h : PD S Γ 0 e (cList (cTup cInt)) (· = [w0, w1, w2])) (hc : PD S Γ 0 c cInt (· = 1)) (hs : PlainIx c) : PD S Γ 0 (.Subscript e c pos) (cTup cInt) (· = w1) := pix ixLG h hc (rd_ixLd (by simp)) hs
theorem pw2 (h : PD S Γ 0 e (cList (cTup cInt)) (· = [w0, w1, w2])) (hc : PD S Γ 0 c cInt (· = 2)) (hs : PlainIx c) : PD S Γ 0 (.Subscript e c pos) (cTup cInt) (· = w2) := pix ixLG h hc (rd_ixLd (by simp)) hs
end
section
variable {P : Program} {w : PySem.World} {K : PySem.W.Frag} {mg : Str → Option Value} {base : Heap} {C : Addr} {Tc : Addr}
variable (U : Bt mg)
include U
theorem c_between (D : Def K mg "_law_between_right" sBw) (T : TCh K mg C) (M_done : MCal P w K mg base C "done" ["self", "text"] 2 (P_doneM C)) (M_then : MCal P w K mg base C "then" ["self", "other"] 7 (P_thenM C)) (Q_Change : EqK P w K mg base C 1 FCh)
    (C_take : Cal P w K mg base "_law_take" ["box", "many"] 1 spTake) (CB : CalK P w K mg base "change_between" sBt "text" "other" "resting" (.ref Tc) 7 (P_betw K C)) (hT : ∀ H, (cSq K cInt).rep H (.ref Tc) []) :
    Cal P w K mg base "_law_between_right" ["box", "texts"] 9 P_bw := by
  refine cal_D (N := nBw) D (fun _ _ _ _ _ _ us hl => match us, hl with | [_, _], _ => rfl) ⟨rfl, rfl, rfl, by decide +kernel, rfl, by decide +kernel, by decide +kernel⟩ (fun _ _ => rfl) (by decide) (fun _ _ => trivial) fun b a hp => ?_
  obtain ⟨⟨hl0, hl1⟩, hWd⟩ := hp
  refine HS.le (k := 3 + (8 + 0)) ?_ (by show _ ≤ 11; decide)
  refine bset (c := cList (cTup cInt)) (k := 3) (k2 := 8 + 0) (P := fun ys => ys.length = 3 ∧ ∀ y ∈ ys, y ∈ a) 2 (TDF.td (pdf_lc (own := [("turn", 10)]) (by kernel_rfl) (fun _ _ => rfl) (TDF.imp (tdf_lc (k := 0) (kt := 0) (ke := 1) (kn := 3) (X := (· = rangeL 0 3)) (fun _ pre ys => ys.length = pre.length ∧ ∀ y ∈ ys, y ∈ a) (prng1 rfl U.range pd_int (by decide) (fun _ => rfl)) (noBxs_mem trivial) (fun _ _ => ⟨rfl, fun _ h => nomatch h⟩) (fun xs e => by subst e; decide) (fun xs e pre x post ys hx hI => ⟨_, _, (· = true), pdg_name (i := 10) trivial rfl (.inl rfl) (.inr rfl), fun _ h => h, tts_nil, fun _ => pd_ixR (k1 := 0) (k2 := 1) ixLG (pd_name (i := 1) rfl rfl (.inr (.inl rfl))) (ptake C_take (show (1 : Nat) ≤ 8 by decide) rfl (i := 0) rfl rfl (.inr (.inl rfl)) (plen rfl U.len (TD.seqL (pd_name (i := 1) rfl rfl (.inr (.inl rfl)))) (fun _ => rfl)) (by omega) (fun _ => rfl) (fun _ => rfl) (fun _ => rfl)) (fun x1 y1 hx1 hy1 Hf H v u e h1 h2 Q q => rd_ixLd (by subst hx1; exact hy1) Hf H v u e h1 h2 Q fun z Hf' H' w' pz => q z Hf' H' w' ?_) (fun _ _ => rfl), fun h => nomatch h⟩)) ?_))) trivial rfl (.inr rfl) (sw_cell rfl) (.inl rfl) ?_
  · obtain ⟨i1, i2⟩ := hI
    subst pz
    refine ⟨by simp [i1], fun y hy' => ?_⟩
    rcases List.mem_append.mp hy' with h | h
    · exact i2 y h
    · rw [List.mem_singleton.mp h]
      subst hx1
      rw [List.getD_eq_getElem?_getD, List.getElem?_eq_getElem (by omega)]
      exact List.getElem_mem _
  · rintro ys ⟨xs, e, h1, h2⟩
    subst e
    exact ⟨h1, h2⟩
  rintro words ⟨hw3, hwa⟩
  match words, hw3, hwa with
  | [w0, w1, w2], _, hwa =>
  have W0 : Wd w0 := hWd _ (hwa _ (by simp))
  have W1 : Wd w1 := hWd _ (hwa _ (by simp))
  have W2 : Wd w2 := hWd _ (hwa _ (by simp))
  refine HS.ctx (Γ' := [.bx b, .d (cList (cTup cInt)) a, .d (cList (cTup cInt)) [w0, w1, w2], .un, .un, .un, .un, .un, .un, .un, .un, .un, .un]) rfl ?_
  refine bsetLc (k := 8) (k2 := 0) 3 [("spot", 5)] (R := fun ys => ys.Sublist (rangeL 0 8)) (TDF.imp (tdf_lc (k := 0) (kt := 1) (ke := 0) (kn := 8) (X := (· = rangeL 0 8)) (fun _ pre ys => ys.Sublist pre) (prng1 rfl U.range pd_int (by decide) (fun _ => rfl)) (noBxs_mem trivial) (fun _ _ => List.Sublist.refl _) (fun xs e => by subst e; decide) (fun xs e pre x post ys hx hI => ⟨_, _, (fun _ => True), pdg_name (i := 5) trivial rfl (.inl rfl) (.inr rfl), fun _ h => h, tts_one (pdt_cmp (k1 := 1) (k2 := 0) (P3 := fun _ => True) (fun _ _ => op_eq) (ptake C_take (show (1 : Nat) ≤ 8 by decide) rfl (i := 0) rfl rfl (.inr (.inl rfl)) (pd_int (i := 3)) (by decide) (fun _ => rfl) (fun _ => rfl) (fun _ => rfl)) (pd_int (i := 0)) (fun i j hi hj Hf H v u e h1 h2 Q q => rd_eqI Hf H v u e h1 h2 Q fun z' Hf' H' w' pz => q z' Hf' H' w' trivial) (nomark _)), fun _ => TD.imp (pd_name (i := 5) rfl rfl (.inl rfl)) (fun y hy => ?_), fun _ => hI.trans (List.sublist_append_left _ _)⟩)) (fun ys ⟨xs, e, h⟩ => by subst e; exact h)) trivial rfl rfl rfl rfl rfl (by kernel_rfl) (fun _ _ => rfl) ?_
  · rw [hy]; exact hI.append (List.Sublist.refl _)
  intro spots hs
  have hU := up_sub hs
  have hs64 : spots.length ≤ 8 := by have := hs.length_le; rwa [rangeL_len] at this
  refine HS.ctx (Γ' := [.bx b, .d (cList (cTup cInt)) a, .d (cList (cTup cInt)) [w0, w1, w2], .d (cList cInt) spots, .un, .un, .un, .un, .un, .un, .un, .un, .un]) rfl ?_
  refine bsetL (k := 0) (k2 := 0) 4 (pdf_nil (c := cI3)) trivial rfl (.inl rfl) (fun _ _ => rfl) (.inl rfl) ?_
  rintro _ rfl
  refine bfor (k := 0) (kk := 0) (kn := 0) (k2 := 0) [5] (fun _ pre Γ => Γ = entry nBw [.bx b, .d (cList (cTup cInt)) a, .d (cList (cTup cInt)) [w0, w1, w2], .d (cList cInt) spots, .l cI3 (dueF w0 w1 spots pre)]) (prng1 rfl U.range pd_int (by decide) (fun _ => rfl)) ?_ ?_ ?_ (fun _ _ => rfl) ?_
  · rintro _ rfl; rfl
  · rintro _ rfl; decide
  · intro xs exs pre x post Γ1 hx e
    subst exs e
    have hx8 := sub_take hx
    have hpl : pre.length ≤ 8 := by have := congrArg List.length hx; rw [show (Int.toNat 8) = 8 from rfl, rangeL_len, List.length_append] at this; omega
    refine ⟨_, _, (pdg_name (i := 5) trivial rfl (.inl rfl) (.inl rfl)), ?_⟩
    refine HS.ctx (Γ' := [.bx b, .d (cList (cTup cInt)) a, .d (cList (cTup cInt)) [w0, w1, w2], .d (cList cInt) spots, .l cI3 (dueF w0 w1 spots pre), .d cInt x, .un, .un, .un, .un, .un, .un, .un]) rfl ?_
    refine bifS (k1 := 0) (k2 := 0) (k3 := 0) (kr := 0) (N1 := fun Γ => Γ = [.bx b, .d (cList (cTup cInt)) a, .d (cList (cTup cInt)) [w0, w1, w2], .d (cList cInt) spots, .l cI3 (dueF w0 w1 spots (pre ++ [x])), .d cInt x, .un, .un, .un, .un, .un, .un, .un]) (pdt_w (tor (tcmp (fun _ _ => op_ne) (pix ixTG (pw0 (pd_name (i := 2) rfl rfl (.inr (.inl rfl))) pd_int (fun _ _ => rfl)) (pd_name (i := 5) rfl rfl (.inl rfl)) (rd_ixTd ?_) (fun _ _ => rfl)) (pix ixTG (pw1 (pd_name (i := 2) rfl rfl (.inr (.inl rfl))) pd_int (fun _ _ => rfl)) (pd_name (i := 5) rfl rfl (.inl rfl)) (rd_ixTd ?_) (fun _ _ => rfl)) rd_neI (nomark _)) fun _ => (pdw_or1 (tcmp op_inG (pd_name (i := 5) rfl rfl (.inl rfl)) (pd_name (i := 3) rfl rfl (.inl rfl)) (rd_inI (neg := false)) rfl)))) (fun h => ?_) (fun h => ?_) ?_
    · rw [W0.1]; omega
    · rw [W1.1]; omega
    · refine bappend (k := 0) (k2 := 0) 4 rfl (pt3 (pd_name (i := 5) rfl rfl (.inl rfl)) (pix ixTG (pw0 (pd_name (i := 2) rfl rfl (.inr (.inl rfl))) pd_int (fun _ _ => rfl)) (pd_name (i := 5) rfl rfl (.inl rfl)) (rd_ixTd ?_) (fun _ _ => rfl)) (pix ixTG (pw1 (pd_name (i := 2) rfl rfl (.inr (.inl rfl))) pd_int (fun _ _ => rfl)) (pd_name (i := 5) rfl rfl (.inl rfl)) (rd_ixTd ?_) (fun _ _ => rfl)) (fun _ => rfl) (fun _ => rfl) (fun _ => rfl)) ?_ rfl (.inl rfl) (fun _ => rfl) rfl (fun _ => rfl) (fun _ => rfl) ?_
      · rw [W0.1]; omega
      · rw [W1.1]; omega
      · have : (dueF w0 w1 spots pre).length ≤ 8 := Nat.le_trans (List.length_filter_le _ _) (by rw [List.length_map]; exact hpl)
        unfold LB; omega
      rintro _ rfl
      refine phs_nil ?_
      rw [dueF_snoc_y h]; rfl
    · refine phs_nil ?_
      rw [dueF_snoc_n h]
    rintro _ rfl
    exact phs_nil ⟨trivial, rfl⟩
  intro xs Γ1 exs e
  subst exs e
  refine HS.ctx (Γ' := [.bx b, .d (cList (cTup cInt)) a, .d (cList (cTup cInt)) [w0, w1, w2], .d (cList cInt) spots, .l cI3 (betwL w0 w1 spots), .un, .un, .un, .un, .un, .un, .un, .un]) rfl ?_
  refine bset (k := 0) (k2 := 0) 6 (pckK CB kwB (show (7 : Nat) ≤ 8 by decide) rfl (pw0 (pd_name (i := 2) rfl rfl (.inr (.inl rfl))) pd_int (fun _ _ => rfl)) (pw1 (pd_name (i := 2) rfl rfl (.inr (.inl rfl))) pd_int (fun _ _ => rfl)) (TD.sq (TD.seqL (TDF.td (plist rfl U.list (TD.seqL (pd_name (i := 3) rfl rfl (.inl rfl))) (fun _ => rfl))))) ⟨W0.1, W1.1, hU, rows_betw spots W0 W1⟩ (fun _ => rfl) (fun _ => rfl) (fun _ => rfl) (fun _ => rfl) (fun _ => rfl)) trivial rfl (.inl rfl) (fun _ _ => rfl) (.inl rfl) ?_
  intro told htold
  have htold : told = betwL w0 w1 spots := htold.trans (sort_betw spots W0 W1)
  subst htold
  refine hs_freeze (i := 4) rfl trivial ?_
  refine HS.ctx (Γ' := [.bx b, .d (cList (cTup cInt)) a, .d (cList (cTup cInt)) [w0, w1, w2], .d (cList cInt) spots, .d (cList cI3) (betwL w0 w1 spots), .un, .d (cCh C) (betwL w0 w1 spots), .un, .un, .un, .un, .un, .un]) rfl ?_
  refine bifR (k1 := 0) (k2 := 0) (k3 := 0) (pdt_w (tor (pdt_not (pdt_val (pisi rfl U.isinstance (pd_name (i := 6) rfl rfl (.inl rfl)) (nmOwn rfl T.k.mgC) (.own _) (ty_ins T.k.own) T.k.isC (fun _ => rfl)) (fun _ _ => rfl))) fun _ => (tor (tcmp (op_neDG rfl) (TDF.td (plist rfl U.list (TD.seqT (pd_rows T (pd_name (i := 6) rfl rfl (.inl rfl)) (fun _ => rfl))) (fun _ => rfl))) (pd_name (i := 4) rfl rfl (.inl rfl)) (rd_neD (eList (eT3 eInt eInt eInt)) (by decide)) (nomark _)) fun _ => (pdw_or1 (tcmp (op_neDG rfl) (pm1 M_done T.k.cl (show (2 : Nat) ≤ 8 by decide) (pd_name (i := 6) rfl rfl (.inl rfl)) (pw0 (pd_name (i := 2) rfl rfl (.inr (.inl rfl))) pd_int (fun _ _ => rfl)) (hno_Ch (by decide +kernel)) ⟨⟨rows_in8 (rows_betw spots W0 W1), W0.1⟩, betw_fit spots W0 W1⟩ (fun _ => rfl) (fun _ => rfl) (fun _ => rfl)) (pw1 (pd_name (i := 2) rfl rfl (.inr (.inl rfl))) pd_int (fun _ _ => rfl)) (rd_neD (eTup eInt) (by decide)) (nomark _)))))) (fun h => ?_) fun h => ?_
  · rw [betw_done spots W0 W1] at h; simp at h
  refine bpar (k1 := 0) (k2 := 0) (kr := 0) 7 8 (TD.tx' (TD.imp (pckN CB kwB (show (7 : Nat) ≤ 8 by decide) rfl (pw0 (pd_name (i := 2) rfl rfl (.inr (.inl rfl))) pd_int (fun _ _ => rfl)) (pw1 (pd_name (i := 2) rfl rfl (.inr (.inl rfl))) pd_int (fun _ _ => rfl)) hT ⟨W0.1, W1.1, up_nil, rows_betw [] W0 W1⟩ (fun _ => rfl) (fun _ => rfl) (fun _ => rfl)) fun _ h => h.trans (sort_betw [] W0 W1))) (TD.tx' (TD.imp (pck0 CB kwB (show (7 : Nat) ≤ 8 by decide) rfl (pw1 (pd_name (i := 2) rfl rfl (.inr (.inl rfl))) pd_int (fun _ _ => rfl)) (pw2 (pd_name (i := 2) rfl rfl (.inr (.inl rfl))) pd_int (fun _ _ => rfl)) hT ⟨W1.1, W2.1, up_nil, rows_betw [] W1 W2⟩ (fun _ => rfl) (fun _ => rfl) (fun _ => rfl)) fun _ h => h.trans (sort_betw [] W1 W2))) trivial trivial (by decide) (fun z => nomatch z) (fun z => nomatch z) rfl rfl rfl rfl (fun _ => rfl) (fun _ => rfl) (fun env he => by cases env; cases he; rfl) (fun env he => by cases env; cases he; rfl) ?_
  refine HS.ctx (Γ' := [.bx b, .d (cList (cTup cInt)) a, .d (cList (cTup cInt)) [w0, w1, w2], .d (cList cInt) spots, .d (cList cI3) (betwL w0 w1 spots), .un, .d (cCh C) (betwL w0 w1 spots), .d (cCh C) (betwL w0 w1 []), .d (cCh C) (betwL w1 w2 []), .un, .un, .un, .un]) rfl ?_
  refine bifR (k1 := 0) (k2 := 0) (k3 := 0) (tcmp (op_neDG rfl) (TDF.td (plist rfl U.list (TD.seqT (pd_rows T (pd_name (i := 7) rfl rfl (.inl rfl)) (fun _ => rfl))) (fun _ => rfl))) (TDF.td (plcT [("row", 11)] (pdi_list (pd_name (i := 4) rfl rfl (.inl rfl))) trivial (by kernel_rfl) (fun _ _ => rfl) fun x hx => ⟨_, _, (pdg_name (i := 11) trivial rfl (.inl rfl) (.inr rfl)), (fun _ h => h), (tts_one (tcmp (fun _ _ => op_ne) (pix ixTG (pd_name (i := 11) rfl rfl (.inl rfl)) pd_int rd_ix3_1 (fun _ _ => rfl)) (pix ixTG (pd_name (i := 11) rfl rfl (.inl rfl)) pd_int rd_ix3_2 (fun _ _ => rfl)) rd_neI (nomark _))), fun hq => (pd_name (i := 11) rfl rfl (.inl rfl))⟩)) (rd_neD (eList (eT3 eInt eInt eInt)) (by decide)) (nomark _)) (fun h => ?_) fun h => ?_
  · rw [betw_bare, List.map_id'] at h; simp at h
  refine bsetLc (k := 0) (k2 := 0) 9 [("spot", 5)] (tdf_lcT (prng1 rfl U.range pd_int (by decide) (fun _ => rfl)) trivial fun x hx => ⟨_, _, (pdg_name (i := 5) trivial rfl (.inr rfl) (.inl rfl)), (fun _ h => h), (tts_one (tcmp (fun _ _ => op_gt) (plenSet rfl U.len (pset rfl U.set (TD.seqL (TDF.td (plcN [("word", 12)] (pdi_list (pd_name (i := 2) rfl rfl (.inr (.inl rfl)))) trivial (by kernel_rfl) (fun _ _ => rfl) fun y hy => ⟨_, _, (pdg_name (i := 12) trivial rfl (.inl rfl) (.inr rfl)), (fun _ h => h), (pix ixTG (pd_name (i := 12) rfl rfl (.inl rfl)) (pd_name (i := 5) rfl rfl (.inr (.inl rfl))) (rd_ixTd ?_) (fun _ _ => rfl))⟩))) (le_trans3 _) (fun _ => rfl)) (fun _ => rfl)) pd_int rd_B0 (nomark _))), fun hq => (pd_name (i := 5) rfl rfl (.inr (.inl rfl)))⟩) trivial rfl rfl rfl rfl rfl (by kernel_rfl) (fun _ _ => rfl) ?_
  · have h1 := mem_rangeL.mp hx
    have h2 : y.length = 8 := by
      simp only [List.mem_cons, List.not_mem_nil, or_false] at hy
      rcases hy with e | e | e
      · rw [e]; exact W0.1
      · rw [e]; exact W1.1
      · rw [e]; exact W2.1
    omega
  intro moved hmv
  have hmv : moved = movedL w0 w1 w2 := hmv.trans (by rw [List.map_id']; exact moved_eq)
  subst hmv
  refine bret (peqOwn (y := betwL w0 w2 (movedL w0 w1 w2)) Q_Change (show (1 : Nat) ≤ 8 by decide) (TD.imp (pm1 M_then T.k.cl (show (7 : Nat) ≤ 8 by decide) (pd_name (i := 7) rfl rfl (.inl rfl)) (pd_name (i := 8) rfl rfl (.inl rfl)) (hno_Ch (by decide +kernel)) ⟨betw_wrong W0 W1 W2, rows_rowsD (rows_betw [] W0 W1) (rows_betw [] W1 W2)⟩ (fun _ => rfl) (fun _ => rfl) (fun _ => rfl)) fun _ h => h.trans (betw_then W0 W1 W2)) (TD.imp (pckK CB kwB (show (7 : Nat) ≤ 8 by decide) rfl (pw0 (pd_name (i := 2) rfl rfl (.inr (.inl rfl))) pd_int (fun _ _ => rfl)) (pw2 (pd_name (i := 2) rfl rfl (.inr (.inl rfl))) pd_int (fun _ _ => rfl)) (TD.sq (TD.seqT (ptuple rfl U.tuple (TD.seqL (pd_name (i := 9) rfl rfl (.inl rfl))) (fun _ => rfl)))) ⟨W0.1, W2.1, up_sub List.filter_sublist, rows_betw _ W0 W2⟩ (fun _ => rfl) (fun _ => rfl) (fun _ => rfl) (fun _ => rfl) (fun _ => rfl)) fun _ h => h.trans (sort_betw _ W0 W2)) (nomark _)) fun _ h => h
end
end K04

set_option Elab.async false
set_option linter.all false
set_option maxRecDepth 100000
set_option maxHeartbeats 4000000
namespace K04
open PySem PySem.Spec L2 DL
theorem wordsIn_in {s : Int} : ∀ {W : List R3}, World1 W → ∀ x ∈ wordsIn s W, 0 ≤ x ∧ x < 6 := fun {W} => by
  suffices ∀ m : List R3, World1 m.reverse → ∀ x ∈ wordsIn s m.reverse, 0 ≤ x ∧ x < 6 by
    have := this W.reverse; rwa [List.reverse_reverse] at this
  intro m
  induction m with
  | nil => intro _ x hx; rw [show wordsIn s ([] : List R3).reverse = [0] from rfl, List.mem_singleton] at hx; subst hx; decide
  | cons q m ih =>
    intro h x hx
    rw [List.reverse_cons] at h hx
    rw [wordsIn_snoc] at hx
    split at hx
    · have h1 := mem_rangeL.mp hx
      have h2 := h q (by simp)
      omega
    · exact ih (fun r hr => h r (List.mem_append_left _ hr)) x hx
theorem InW_nil (W : List R3) : InW W [] := fun _ h => nomatch h
theorem rows_nil2 : Rows [] := ⟨fun _ h => (nomatch h), List.nodup_nil, by decide⟩
theorem bw_pre {W : List R3} (hW : Wld W) : PreBw (textsL W (rangeL 0 8)) := by
  have h := textsL_ok W hW.1 (rangeL 0 8)
  rw [rangeL_len] at h
  refine ⟨⟨?_, h.1⟩, fun t ht => ?_⟩
  · obtain ⟨w, hw, _⟩ := (two_pre hW (InW_nil W) (InW_nil W) rows_nil2 rows_nil2).fit fun p => noCl_nil _
    exact List.length_pos_of_mem hw
  · refine wd_mk (h.2 t ht) fun x hx => ?_
    obtain ⟨i, hi, e⟩ := List.mem_iff_getElem.mp hx
    have hl := h.2 t ht
    have h3 := ((mem_texts W (rangeL 0 8) t).mp ht).2 i ((rangeL 0 8)[i]'(by rw [rangeL_len]; omega)) x (List.getElem?_eq_getElem _) (by rw [List.getElem?_eq_getElem hi, e])
    exact wordsIn_in hW.1 x h3
abbrev nRt : List Str := ["box", "clash", "world", "texts", "first", "middle", "ahead", "last"]
abbrev sRt : Stmt := top 39
abbrev P_right : Sp := spD (fun b (a : Unit) => [.bx b]) (fun _ => 153) (fun _ => True) cBool (fun _ x => x = true)
section
variable {S : Stc} {Γ : Ctxt} {e1 e2 e3 : Expr} {pos pn pb : Pos}
theorem pworld {i : Nat} {z : Addr} {bn : Str} (C : Cal S.prog S.w S.K S.mg S.base "_law_world" ["box"] 2 P_world) (hl : 2 ≤ S.lv) (hg : S.sc.names.lookup ("_law_world" : Str) = some .globalImplicit) (hΓ : Γ[i]? = some (.bx z)) (hN : S.N[i]? = some bn) (hv : Vis S.sc bn)
    (he : ∀ env : Env, starEach [.Name bn pb] env = (false, eval (.Name bn pb) env) :: starEach [] env) (hpl : ∀ env : Env, (backTo pos (starEach [] env)).any (·.1) = false) (hd : (bn == ("__debug__" : Str)) = false := by decide) (hcd : (bn == ("__classdict__" : Str)) = false := by decide) :
    PD S Γ 19 (.Call (.Name "_law_world" pn) [.Name bn pb] [] pos) (cList cI3) Wld :=
  pcalX (k1 := 0) (k2 := 19) C hl hg (pda_boxp (k2 := 0) hΓ hN hv pda_nil hd hcd) (fun as e => ⟨(), z, e, trivial, Nat.le_refl _, fun _ h => h⟩) he hpl
theorem ptriples {i : Nat} {z : Addr} {bn : Str} {W A : List R3} {c : Int} (C : Cal S.prog S.w S.K S.mg S.base "_law_triples" ["box", "world", "ahead", "clash"] 2 P_triples) (hl : 2 ≤ S.lv) (hg : S.sc.names.lookup ("_law_triples" : Str) = some .globalImplicit) (hΓ : Γ[i]? = some (.bx z)) (hN : S.N[i]? = some bn) (hv : Vis S.sc bn)
    (h1 : PD S Γ 0 e1 (cList cI3) (· = W)) (h2 : PD S Γ 0 e2 (cList cI3) (· = A)) (h3 : PD S Γ 0 e3 cInt (· = c)) (hW : Wld W) (hA : InW W A)
    (he : ∀ env : Env, starEach [.Name bn pb, e1, e2, e3] env = (false, eval (.Name bn pb) env) :: starEach [e1, e2, e3] env) (he1 : ∀ env : Env, starEach [e1, e2, e3] env = (false, eval e1 env) :: starEach [e2, e3] env) (he2 : ∀ env : Env, starEach [e2, e3] env = (false, eval e2 env) :: starEach [e3] env) (he3 : ∀ env : Env, starEach [e3] env = (false, eval e3 env) :: starEach [] env) (hpl : ∀ env : Env, (backTo pos (starEach [e1, e2, e3] env)).any (·.1) = false) (hd : (bn == ("__debug__" : Str)) = false := by decide) (hcd : (bn == ("__classdict__" : Str)) = false := by decide) :
    PD S Γ 30 (.Call (.Name "_law_triples" pn) [.Name bn pb, e1, e2, e3] [] pos) (cList cI3) (fun x => InW W x ∧ (x.map (·.1)).Sublist (W.map (·.1))) :=
  pcalX (k1 := 0) (k2 := 30) C hl hg (pda_boxp (k2 := 0) hΓ hN hv (pda_more (k1 := 0) (k2 := 0) h1 (pda_more (k1 := 0) (k2 := 0) h2 (pda_one h3 he3) he2) he1) hd hcd) (fun as e => ⟨(W, A, c), z, e, ⟨hW, hA⟩, Nat.le_refl _, fun _ h => h⟩) he hpl
theorem pmixed {i : Nat} {z : Addr} {bn : Str} {A : List R3} (C : Cal S.prog S.w S.K S.mg S.base "_law_mixed" ["box", "things"] 2 P_mixed) (hl : 2 ≤ S.lv) (hg : S.sc.names.lookup ("_law_mixed" : Str) = some .globalImplicit) (hΓ : Γ[i]? = some (.bx z)) (hN : S.N[i]? = some bn) (hv : Vis S.sc bn)
    (h1 : PD S Γ 0 e1 (cList cI3) (· = A)) (hA : A.length ≤ 8)
    (he : ∀ env : Env, starEach [.Name bn pb, e1] env = (false, eval (.Name bn pb) env) :: starEach [e1] env) (he1 : ∀ env : Env, starEach [e1] env = (false, eval e1 env) :: starEach [] env) (hpl : ∀ env : Env, (backTo pos (starEach [e1] env)).any (·.1) = false) (hd : (bn == ("__debug__" : Str)) = false := by decide) (hcd : (bn == ("__classdict__" : Str)) = false := by decide) :
    PD S Γ 8 (.Call (.Name "_law_mixed" pn) [.Name bn pb, e1] [] pos) (cList cI3) (fun x => x.Perm A) :=
  pcalX (k1 := 0) (k2 := 8) C hl hg (pda_boxp (k2 := 0) hΓ hN hv (pda_one h1 he1) hd hcd) (fun as e => ⟨A, z, e, hA, hA, fun _ h => h⟩) he hpl
/-- two right of two mixed -/
theorem ptwo {tx : List (List Int)} {A B : List R3} (C : Cal S.prog S.w S.K S.mg S.base "_law_two_right" ["texts", "first", "last"] 10 P_two) (hl : 10 ≤ S.lv) (hg : S.sc.names.lookup ("_law_two_right" : Str) = some .globalImplicit)
    (h1 : PD S Γ 0 e1 (cList (cTup cInt)) (· = tx)) (h2 : PD S Γ 8 e2 (cList cI3) (fun x => x.Perm A)) (h3 : PD S Γ 8 e3 (cList cI3) (fun x => x.Perm B)) (hp : ∀ F L, F.Perm A → L.Perm B → TwoPre tx F L)
    (he : ∀ env : Env, starEach [e1, e2, e3] env = (false, eval e1 env) :: starEach [e2, e3] env) (he2 : ∀ env : Env, starEach [e2, e3] env = (false, eval e2 env) :: starEach [e3] env) (he3 : ∀ env : Env, starEach [e3] env = (false, eval e3 env) :: starEach [] env) (hpl : ∀ env : Env, (backTo pos (starEach [e2, e3] env)).any (·.1) = false) :
    PD S Γ 16 (.Call (.Name "_law_two_right" pn) [e1, e2, e3] [] pos) cBool (· = true) :=
  pcalX (k1 := 0 + (8 + (8 + 0))) (k2 := 0) C hl hg (pda_cons h1 (pda_cons h2 (pda_cons h3 pda_nil he3) he2) he) (fun as ⟨x, r, ex, ⟨y, r2, ey, ⟨z, r3, ez, e3, e4⟩, e5⟩, e6⟩ => by
    subst ex e3 e4 e5 e6
    exact ⟨(x, y, z), 0, rfl, hp y z ey ez, Nat.le_refl _, fun _ h => h⟩) he hpl
theorem pbetw {i : Nat} {z : Addr} {bn : Str} {A : List (List Int)} (C : Cal S.prog S.w S.K S.mg S.base "_law_between_right" ["box", "texts"] 9 P_bw) (hl : 9 ≤ S.lv) (hg : S.sc.names.lookup ("_law_between_right" : Str) = some .globalImplicit) (hΓ : Γ[i]? = some (.bx z)) (hN : S.N[i]? = some bn) (hv : Vis S.sc bn)
    (h1 : PD S Γ 0 e1 (cList (cTup cInt)) (· = A)) (hA : PreBw A)
    (he : ∀ env : Env, starEach [.Name bn pb, e1] env = (false, eval (.Name bn pb) env) :: starEach [e1] env) (he1 : ∀ env : Env, starEach [e1] env = (false, eval e1 env) :: starEach [] env) (hpl : ∀ env : Env, (backTo pos (starEach [e1] env)).any (·.1) = false) (hd : (bn == ("__debug__" : Str)) = false := by decide) (hcd : (bn == ("__classdict__" : Str)) = false := by decide) :
    PD S Γ 11 (.Call (.Name "_law_between_right" pn) [.Name bn pb, e1] [] pos) cBool (· = true) :=
  pcalX (k1 := 0) (k2 := 11) C hl hg (pda_boxp (k2 := 0) hΓ hN hv (pda_one h1 he1) hd hcd) (fun as e => ⟨A, z, e, hA, Nat.le_refl _, fun _ h => h⟩) he hpl
end
end K04

set_option Elab.async false
set_option linter.all false
set_option maxRecDepth 100000
set_option maxHeartbeats 4000000
namespace K04
open PySem PySem.Spec L2 DL
section
variable {P : Program} {w : PySem.World} {K : PySem.W.Frag} {mg : Str → Option Value} {base : Heap}
theorem c_right (D : Def K mg "_law_right" sRt) (C_take : Cal P w K mg base "_law_take" ["box", "many"] 1 spTake) (C_world : Cal P w K mg base "_law_world" ["box"] 2 P_world) (C_texts : Cal P w K mg base "_law_texts" ["world"] 1 P_texts) (C_triples : Cal P w K mg base "_law_triples" ["box", "world", "ahead", "clash"] 2 P_triples)
    (C_then : Cal P w K mg base "_law_then" ["first", "last"] 1 P_then) (C_mixed : Cal P w K mg base "_law_mixed" ["box", "things"] 2 P_mixed) (C_two : Cal P w K mg base "_law_two_right" ["texts", "first", "last"] 10 P_two) (C_brackets : Cal P w K mg base "_law_brackets_right" ["first", "middle", "last"] 9 P_brackets)
    (C_alone : Cal P w K mg base "_law_alone_right" ["triples"] 8 P_alone) (C_bw : Cal P w K mg base "_law_between_right" ["box", "texts"] 9 P_bw) :
    Cal P w K mg base "_law_right" ["box"] 11 P_right := by
  refine cal_D (N := nRt) D (fun _ _ _ _ _ _ us hl => match us, hl with | [_], _ => rfl) ⟨rfl, rfl, rfl, by decide +kernel, rfl, by decide +kernel, by decide +kernel⟩ (fun _ _ => rfl) (by decide) (fun _ _ => trivial) fun b a hp => ?_
  refine HS.le (k := 1 + (19 + (0 + (30 + (30 + (0 + (30 + (16 + 0 + (16 + 0 + (0 + 0 + 11)))))))))) ?_ (by show _ ≤ 153; decide)
  refine bset (k := 1) (k2 := 19 + (0 + (30 + (30 + (0 + (30 + (16 + 0 + (16 + 0 + (0 + 0 + 11))))))))) 1 (ptake C_take (show (1 : Nat) ≤ 10 by decide) rfl (i := 0) rfl rfl (.inl rfl) (pd_int (i := 2)) (by decide) (fun _ => rfl) (fun _ => rfl) (fun _ => rfl)) trivial rfl (.inl rfl) (fun _ _ => rfl) (.inl rfl) ?_
  intro clash _
  refine bset (k := 19) (k2 := 0 + (30 + (30 + (0 + (30 + (16 + 0 + (16 + 0 + (0 + 0 + 11)))))))) 2 (pworld C_world (show (2 : Nat) ≤ 10 by decide) rfl (i := 0) rfl rfl (.inl rfl) (fun _ => rfl) (fun _ => rfl)) trivial rfl (.inl rfl) (fun _ _ => rfl) (.inl rfl) ?_
  intro W hW
  refine HS.ctx (Γ' := [.bx b, .d cInt clash, .d (cList cI3) W, .un, .un, .un, .un, .un]) rfl ?_
  refine bset (k := 0) (k2 := 30 + (30 + (0 + (30 + (16 + 0 + (16 + 0 + (0 + 0 + 11))))))) 3 (pcal1 C_texts (show (1 : Nat) ≤ 10 by decide) rfl (pd_name (i := 2) rfl rfl (.inl rfl)) hW.1 (fun _ => rfl) (fun _ => rfl)) trivial rfl (.inl rfl) (fun _ _ => rfl) (.inl rfl) ?_
  intro tx htx
  have htx : tx = textsL W (rangeL 0 8) := htx
  refine HS.ctx (Γ' := [.bx b, .d cInt clash, .d (cList cI3) W, .d (cList (cTup cInt)) tx, .un, .un, .un, .un]) rfl ?_
  refine bset (k := 30) (k2 := 30 + (0 + (30 + (16 + 0 + (16 + 0 + (0 + 0 + 11)))))) 4 (ptriples C_triples (show (2 : Nat) ≤ 10 by decide) rfl (i := 0) rfl rfl (.inl rfl) (pd_name (i := 2) rfl rfl (.inl rfl)) (TDF.td (pdf_nil (c := cI3))) (pd_name (i := 1) rfl rfl (.inl rfl)) hW (InW_nil W) (fun _ => rfl) (fun _ => rfl) (fun _ => rfl) (fun _ => rfl) (fun _ => rfl)) trivial rfl (.inl rfl) (fun _ _ => rfl) (.inl rfl) ?_
  rintro F ⟨iF, sF⟩
  have hF := rows_InW hW iF (sF.nodup hW.2.2.1)
  refine HS.ctx (Γ' := [.bx b, .d cInt clash, .d (cList cI3) W, .d (cList (cTup cInt)) tx, .d (cList cI3) F, .un, .un, .un]) rfl ?_
  refine bset (k := 30) (k2 := 0 + (30 + (16 + 0 + (16 + 0 + (0 + 0 + 11))))) 5 (ptriples C_triples (show (2 : Nat) ≤ 10 by decide) rfl (i := 0) rfl rfl (.inl rfl) (pd_name (i := 2) rfl rfl (.inl rfl)) (pd_name (i := 4) rfl rfl (.inl rfl)) (pd_name (i := 1) rfl rfl (.inl rfl)) hW iF (fun _ => rfl) (fun _ => rfl) (fun _ => rfl) (fun _ => rfl) (fun _ => rfl)) trivial rfl (.inl rfl) (fun _ _ => rfl) (.inl rfl) ?_
  rintro M ⟨iM, sM⟩
  have hM := rows_InW hW iM (sM.nodup hW.2.2.1)
  refine HS.ctx (Γ' := [.bx b, .d cInt clash, .d (cList cI3) W, .d (cList (cTup cInt)) tx, .d (cList cI3) F, .d (cList cI3) M, .un, .un]) rfl ?_
  refine bset (k := 0) (k2 := 30 + (16 + 0 + (16 + 0 + (0 + 0 + 11)))) 6 (pcal2 C_then (show (1 : Nat) ≤ 10 by decide) rfl (pd_name (i := 4) rfl rfl (.inl rfl)) (pd_name (i := 5) rfl rfl (.inl rfl)) ⟨⟨hF.2.2, hM.2.2⟩, rows64 hF, rows64 hM⟩ (fun _ => rfl) (fun _ => rfl) (fun _ => rfl)) trivial rfl (.inl rfl) (fun _ _ => rfl) (.inl rfl) ?_
  intro A hA
  have hA : A = thenL F M := hA
  have iA : InW W A := by rw [hA]; exact InW_then hW iF iM hF hM
  refine HS.ctx (Γ' := [.bx b, .d cInt clash, .d (cList cI3) W, .d (cList (cTup cInt)) tx, .d (cList cI3) F, .d (cList cI3) M, .d (cList cI3) A, .un]) rfl ?_
  refine bset (k := 30) (k2 := 16 + 0 + (16 + 0 + (0 + 0 + 11))) 7 (ptriples C_triples (show (2 : Nat) ≤ 10 by decide) rfl (i := 0) rfl rfl (.inl rfl) (pd_name (i := 2) rfl rfl (.inl rfl)) (pd_name (i := 6) rfl rfl (.inl rfl)) (pd_name (i := 1) rfl rfl (.inl rfl)) hW iA (fun _ => rfl) (fun _ => rfl) (fun _ => rfl) (fun _ => rfl) (fun _ => rfl)) trivial rfl (.inl rfl) (fun _ _ => rfl) (.inl rfl) ?_
  rintro L ⟨iL, sL⟩
  have hL := rows_InW hW iL (sL.nodup hW.2.2.1)
  have two : ∀ {A B : List R3}, InW W A → InW W B → Rows A → Rows B → ∀ X Y : List R3, X.Perm A → Y.Perm B → TwoPre tx X Y := fun ia ib ra rb X Y px py => by
    rw [htx]; exact two_pre hW (ia.perm px) (ib.perm py) (ra.perm px) (rb.perm py)
  refine HS.ctx (Γ' := [.bx b, .d cInt clash, .d (cList cI3) W, .d (cList (cTup cInt)) tx, .d (cList cI3) F, .d (cList cI3) M, .d (cList cI3) A, .d (cList cI3) L]) rfl ?_
  refine bifR (k1 := 16) (k2 := 0) (k3 := 16 + 0 + (0 + 0 + 11)) (pdt_not (pdt_val (ptwo C_two (show (10 : Nat) ≤ 10 by decide) rfl (pd_name (i := 3) rfl rfl (.inl rfl)) (pmixed C_mixed (show (2 : Nat) ≤ 10 by decide) rfl (i := 0) rfl rfl (.inl rfl) (pd_name (i := 4) rfl rfl (.inl rfl)) hF.2.2 (fun _ => rfl) (fun _ => rfl) (fun _ => rfl)) (pmixed C_mixed (show (2 : Nat) ≤ 10 by decide) rfl (i := 0) rfl rfl (.inl rfl) (pd_name (i := 5) rfl rfl (.inl rfl)) hM.2.2 (fun _ => rfl) (fun _ => rfl) (fun _ => rfl)) (two iF iM hF hM) (fun _ => rfl) (fun _ => rfl) (fun _ => rfl) (fun _ => rfl)) (fun _ _ => rfl))) (fun h => ?_) fun h => ?_
  · exact absurd h (by decide)
  refine bifR (k1 := 16) (k2 := 0) (k3 := 0 + 0 + 11) (pdt_not (pdt_val (ptwo C_two (show (10 : Nat) ≤ 10 by decide) rfl (pd_name (i := 3) rfl rfl (.inl rfl)) (pmixed C_mixed (show (2 : Nat) ≤ 10 by decide) rfl (i := 0) rfl rfl (.inl rfl) (pd_name (i := 5) rfl rfl (.inl rfl)) hM.2.2 (fun _ => rfl) (fun _ => rfl) (fun _ => rfl)) (pmixed C_mixed (show (2 : Nat) ≤ 10 by decide) rfl (i := 0) rfl rfl (.inl rfl) (pd_name (i := 7) rfl rfl (.inl rfl)) hL.2.2 (fun _ => rfl) (fun _ => rfl) (fun _ => rfl)) (two iM iL hM hL) (fun _ => rfl) (fun _ => rfl) (fun _ => rfl) (fun _ => rfl)) (fun _ _ => rfl))) (fun h => ?_) fun h => ?_
  · exact absurd h (by decide)
  refine bifR (k1 := 0) (k2 := 0) (k3 := 11) (pdt_w (tor (pdt_not (pdt_val (pcal3 C_two (show (10 : Nat) ≤ 10 by decide) rfl (pd_name (i := 3) rfl rfl (.inl rfl)) (pd_name (i := 7) rfl rfl (.inl rfl)) (pd_name (i := 4) rfl rfl (.inl rfl)) (two iL iF hL hF L F (List.Perm.refl _) (List.Perm.refl _)) (fun _ => rfl) (fun _ => rfl) (fun _ => rfl) (fun _ => rfl)) (fun _ _ => rfl))) fun _ => (pdw_or1 (pdt_not (pdt_val (pcal3 C_brackets (show (9 : Nat) ≤ 10 by decide) rfl (pd_name (i := 4) rfl rfl (.inl rfl)) (pd_name (i := 5) rfl rfl (.inl rfl)) (pd_name (i := 7) rfl rfl (.inl rfl)) ⟨hF, hM, hL⟩ (fun _ => rfl) (fun _ => rfl) (fun _ => rfl) (fun _ => rfl)) (fun _ _ => rfl)))))) (fun h => ?_) fun h => ?_
  · exact absurd h (by decide)
  refine bret (pd_and (k1 := 0) (k2 := 11) (pcal1 C_alone (show (8 : Nat) ≤ 10 by decide) rfl (pd_name (i := 4) rfl rfl (.inl rfl)) hF (fun _ => rfl) (fun _ => rfl)) fun _ => (pd_and (k1 := 0) (k2 := 11) (pcal1 C_alone (show (8 : Nat) ≤ 10 by decide) rfl (pd_name (i := 7) rfl rfl (.inl rfl)) hL (fun _ => rfl) (fun _ => rfl)) fun _ => (pd_one (pbetw C_bw (show (9 : Nat) ≤ 10 by decide) rfl (i := 0) rfl rfl (.inl rfl) (pd_name (i := 3) rfl rfl (.inl rfl)) (by rw [htx]; exact bw_pre hW) (fun _ => rfl) (fun _ => rfl) (fun _ => rfl))))) fun x h => h
end
end K04

set_option Elab.async false
set_option linter.all false
set_option maxRecDepth 100000
set_option maxHeartbeats 4000000
namespace K04
open PySem PySem.Spec L2 DL
abbrev nLaw : List Str := ["script", "k"]
abbrev sLaw : Stmt := top 40
def spLaw (K : PySem.W.Frag) : Sp := fun vs H Q _ => ∃ (a : Addr) (ns : List Int), vs = [.ref a] ∧ SqL K H a (ns.map V.int) ∧ ns.length ≤ 63 ∧ ∀ H', Q (.bl true) H'
def rMx : List V → Hp → VK → Prop := fun xs H Q => ∃ i j, xs = [.int i, .int j] ∧ Q (.int (if j > i then j else i)) H
def rMn : List V → Hp → VK → Prop := fun xs H Q => ∃ i j, xs = [.int i, .int j] ∧ Q (.int (if j < i then j else i)) H
theorem fr_box {Hf H Hf' H' : Hp} {b : Addr} {o : HO} (hb : H b = none) (f : Fr (fun z => Sl.bx z ∈ ([.bx b] : Ctxt)) Hf (upd H b o) Hf' H') : Fr (fun _ => False) Hf H Hf' H' := by
  have ne : ∀ a u, H a = some u → a ≠ b := fun a u e z => by subst z; rw [hb] at e; cases e
  have nm : ∀ a u, H a = some u → ¬ (Sl.bx a ∈ ([.bx b] : Ctxt)) := fun a u e z => by
    rcases List.mem_cons.mp z with h | h
    · exact ne a u e (Sl.bx.inj h)
    · cases h
  exact ⟨f.ex, fun a u e _ => f.keep a u (by rw [upd_ne (ne a u e)]; exact e) (nm a u e), fun a u e _ z => f.fz a u (by rw [upd_ne (ne a u e)]; exact e) (nm a u e) z, fun a h => by
    have h1 := f.dom a h
    by_cases z : a = b
    · subst z; exact hb
    · rw [upd_ne z] at h1; exact h1⟩
section
variable {P : Program} {w : PySem.World} {K : PySem.W.Frag} {mg : Str → Option Value} {base : Heap}
variable (U : Bt mg) (U2 : Bt2 mg)
include U U2
abbrev Slaw (P : Program) (w : PySem.World) (K : PySem.W.Frag) (mg : Str → Option Value) (base : Heap) : Stc := ⟨nLaw, defScope sLaw, K, mg, P, w, base, 11, fun _ => true, false⟩
omit U U2 in
theorem td_row {Γ : Ctxt} {ns : List Int} {k : Int} {te tk : TE} (h1 : TD te Γ 0 (cScrK K) (· = ns)) (h2 : TD tk Γ 0 cInt (· = k)) (hl : ns.length ≤ 63) (h0 : 0 ≤ k) (h5 : k ≤ 5) (no : NoOwn Γ) :
    TD (tCall P_right [] E0 (tCons (tCall spBoxL [] E0 (tCons (tCall (spCellL K) [] E0 (tCons te (tCons tk tNil))) tNil)) tNil)) Γ 0 cBool (· = true) := fun O n σ Hf H hn s Q q =>
  h1 O n σ Hf H hn s _ fun v1 Hf1 H1 x px r1 f1 s1 => by
    subst px
    refine h2 O n σ Hf1 H1 hn s1 _ fun v2 Hf2 H2 y py r2 f2 s2 => ?_
    subst py
    obtain ⟨a, rfl, hs⟩ := (cScrK K).mono (f2.ex.trans s2.ex) r1
    obtain rfl := r2
    refine ⟨a, x, y, rfl, hs, hl, h0, h5, fun i H3 e3 d3 => ?_⟩
    refine ⟨i, rfl, fun b g' big m hb m0 m1 => ?_⟩
    have hb2 : Hf2 b = none := s2.ex.back (d3 b hb)
    have s3 : Sat O Hf2 H3 σ Γ (n + 0) := s2.heap no e3 d3
    refine ⟨(), b, 0, Hf2, trivial, by decide, s3.ex.trans (Ex.new hb), ⟨rfl, trivial⟩, fun z hz => ?_, fun v Hf4 H4 u pu ru f4 e4 _ => ?_⟩
    · rcases List.mem_cons.mp hz with h | h
      · cases h
        exact ⟨hb2, g', big, m, 0, upd_same, m0, m1, Int.le_refl _, Int.le_refl _⟩
      · cases h
    · have F4 := fr_box hb f4
      have s4 := s3.grow0 F4 e4
      have F3 : Fr (fun _ => False) Hf2 H2 Hf2 H3 := ⟨Ex.rfl', fun c u e _ => e3 c u e, fun _ _ _ _ z => z, d3⟩
      exact q v Hf4 H4 u pu ru (((f1.trans f2 fun _ z => .inl z).trans F3 fun _ z => z.elim).trans F4 fun _ z => z.elim) s4
theorem ok_law {f : Addr} {fd : FuncData} (F : Fun K "law" "law" sLaw f fd) (C_right : Cal P w K mg base "_law_right" ["box"] 11 P_right) (C_box : Cal P w K mg base "_law_box" ["great"] 1 spBoxL) (C_cell : Cal P w K mg base "_law_cell" ["script", "k"] 1 (spCellL K)) :
    FnOk P w K mg base CX0 12 f fd ["script"] (spLaw K) := by
  obtain ⟨fr, fdr, Fr', hmr, hkr, hbr⟩ := C_right.ex
  obtain ⟨fb, fdb, Fb, hmb, hkb, hbb⟩ := C_box.ex
  obtain ⟨fc, fdc, Fc, hmc, hkc, hbc⟩ := C_cell.ex
  refine F.ok (N := nLaw) ⟨rfl, rfl, rfl, by decide +kernel, rfl, by decide +kernel, by decide +kernel⟩ (fun vs H Q E h => ?_) (fun cdv A outer s H vs Q E hr h => ?_)
  · obtain ⟨a, ns, rfl, _⟩ := h; rfl
  · obtain ⟨a, ns, rfl, hs, hl, q⟩ := h
    have hsN : (FnScope nLaw ["script"] (defScope sLaw)) := ⟨rfl, rfl, rfl, by decide +kernel, rfl, by decide +kernel, by decide +kernel⟩
    refine ⟨tSs (Slaw P w K mg base) (defBody sLaw), tSs_ok (cxG hr hsN.nd), ?_⟩
    refine body_ok (A := List Int) (ρ := Bool) (ps := fun _ (a : List Int) => [.d (cScrK K) a]) (kf := fun _ => 0) (PR := fun _ x => x = true) (cr := cBool) (a := ns) (b := 0) (n := 0) (Hf := H) (show 1 ≤ 2 by decide) trivial (by decide) Ex.rfl' ⟨⟨a, rfl, hs⟩, trivial⟩ (fun z hz => by simp at hz) (fun v Hf' H' x px r _ _ _ => ?_) ?_
    · subst px; obtain rfl := r; exact q H'
    have no : ∀ k : Int, NoOwn ([.d (cScrK K) ns, .d cInt k] : Ctxt) := fun k s hs => by
      simp at hs; rcases hs with h | h <;> subst h <;> rfl
    show PHs (Slaw P w K mg base) [.d (cScrK K) ns, .un] 0 (defBody sLaw) _
    refine bfor (k := 0) (kk := 0) (kn := 0) (k2 := 0) [1] (X' := fun xs => ∃ j : Int, 2 ≤ j ∧ j ≤ 5 ∧ xs = rangeL 0 j.toNat) (fun _ pre Γ => Γ = [.d (cScrK K) ns, .un]) (pdi_range1 rfl U.range (pda_cons (k1 := 0) (k2 := 0) (P := fun j : Int => 2 ≤ j ∧ j ≤ 5) (c := cInt) ?_ pda_nil (fun _ => rfl)) (fun as e => ?_) (fun _ => rfl)) ?_ ?_ ?_ (fun _ _ => rfl) ?_
    · refine pd_of (te := tCB rMx (tCons (tE (Slaw P w K mg base) _) (tCons (tCB rMn (tCons (tE (Slaw P w K mg base) _) (tCons (tCB (rLenR K) (tCons (tE (Slaw P w K mg base) _) tNil)) tNil))) tNil))) (fun X G => pe_callB (call_max2 G.calm) (glb G rfl) (by rw [G.mg]; exact U2.max) PyProof.Rows.boot_max (pa_cons (tE_ok G) (pa_cons (pe_callB (call_min2 G.calm) (glb G rfl) (by rw [G.mg]; exact U2.min) PyProof.Rows.boot_min (pa_cons (tE_ok G) (pa_cons (pe_callB (lenG X G) (glb G rfl) (by rw [G.mg]; exact U.len) PySem.boot_len (pa_cons (tE_ok G) pa_nil)) pa_nil))) pa_nil))) ?_
      intro O n σ Hf H hn s Q q
      refine pd_int (S := Slaw P w K mg base) (i := 2) O n σ Hf H hn s _ fun v0 Hf0 H0 x0 px0 r0 f0 s0 => ?_
      refine pd_int (S := Slaw P w K mg base) (i := 5) O n σ Hf0 H0 hn s0 _ fun v1 Hf1 H1 x1 px1 r1 f1 s1 => ?_
      refine pd_name (S := Slaw P w K mg base) (Γ := [.d (cScrK K) ns, .un]) (c := cScrK K) (y := ns) (i := 0) rfl rfl (.inl rfl) (by decide) (by decide) O n σ Hf1 H1 hn s1 _ fun v2 Hf2 H2 x2 px2 r2 f2 s2 => ?_
      subst px0 px1 px2
      obtain rfl := r0
      obtain rfl := r1
      obtain ⟨c, rfl, hc⟩ := (cScrK K).mono s2.ex r2
      refine ⟨c, _, rfl, .inl hc, 5, _, rfl, 2, _, rfl, ?_⟩
      refine q _ Hf2 H2 _ ?_ rfl ((f0.trans f1 fun _ z => .inl z).trans f2 fun _ z => .inl z) s2
      constructor <;> (repeat' split) <;> omega
    · obtain ⟨j, r, ⟨h1, h2⟩, h3, h4⟩ := e
      subst h3 h4
      exact ⟨j, rfl, by omega, by omega, j, h1, h2, rfl⟩
    · intro xs _; rfl
    · intro xs _; simp
    · rintro xs ⟨j, j2, j5, exs⟩ pre x post Γ1 hx e
      subst e
      have hxr : x ∈ rangeL 0 j.toNat := by rw [← exs, hx]; simp
      have hx1 := mem_rangeL.mp hxr
      refine ⟨_, _, pdg_name (i := 1) trivial rfl (.inl rfl) (.inl rfl), ?_⟩
      refine HS.ctx (Γ' := [.d (cScrK K) ns, .d cInt x]) rfl ?_
      refine bifR (b' := (· = false)) (k1 := 0) (k2 := 0) (k3 := 0) (pdt_not (b := true) (pdt_val (pd_of (S := Slaw P w K mg base) (fun X G => pe_call (fnG Fr' G) (G.room.mono (show (11 : Nat) ≤ 11 by decide)) (glb G rfl) (by rw [G.mg]; exact hmr) (by rw [G.K]; exact hkr) (by rw [G.K]; exact hbr) .nil pass0 (pa_cons (pe_call (fnG Fb G) (G.room.mono (show (1 : Nat) ≤ 11 by decide)) (glb G rfl) (by rw [G.mg]; exact hmb) (by rw [G.K]; exact hkb) (by rw [G.K]; exact hbb) .nil pass0 (pa_cons (pe_call (fnG Fc G) (G.room.mono (show (1 : Nat) ≤ 11 by decide)) (glb G rfl) (by rw [G.mg]; exact hmc) (by rw [G.K]; exact hkc) (by rw [G.K]; exact hbc) .nil pass0 (pa_cons (tE_ok G) (pa_cons (tE_ok G) pa_nil))) pa_nil)) pa_nil)) (td_row (pd_name (S := Slaw P w K mg base) (i := 0) rfl rfl (.inl rfl)) (pd_name (S := Slaw P w K mg base) (i := 1) rfl rfl (.inl rfl)) hl (by omega) (by omega) (no x))) (fun _ _ => rfl))) (fun h => ?_) fun h => ?_
      · exact absurd h (by decide)
      · exact phs_nil ⟨trivial, rfl⟩
    · rintro xs Γ1 _ e
      subst e
      exact bret pd_bool fun _ h => h
end
end K04

set_option Elab.async false
set_option linter.all false
set_option maxRecDepth 100000
namespace K04
open PySem PySem.Spec L2 DL PySem.W

theorem all_mk {l : PySem.W.OpenLaw} {w : World} {K : PySem.W.Frag} {h : Heap} {mg : Str → Option Value} {fa : Addr} (X : K.In h) (Gn : h.Ns mainGlobals mg) (hfa : mg "law" = some (.ref fa))
    {fd0 : Addr} {odd0 and0 : Option Addr} {sld0 : Array (Option Value)} {ocd0 kVd0 dcd0 pmd0 cdd0 ctd0 : Value}
    {fd1 : Addr} {odd1 and1 : Option Addr} {sld1 : Array (Option Value)} {ocd1 kVd1 dcd1 pmd1 cdd1 ctd1 : Value}
    {fd2 : Addr} {odd2 and2 : Option Addr} {sld2 : Array (Option Value)} {ocd2 kVd2 dcd2 pmd2 cdd2 ctd2 : Value}
    {fd3 : Addr} {odd3 and3 : Option Addr} {sld3 : Array (Option Value)} {ocd3 kVd3 dcd3 pmd3 cdd3 ctd3 : Value}
    {fd4 : Addr} {odd4 and4 : Option Addr} {sld4 : Array (Option Value)} {ocd4 kVd4 dcd4 pmd4 cdd4 ctd4 : Value}
    {fd5 : Addr} {odd5 and5 : Option Addr} {sld5 : Array (Option Value)} {ocd5 kVd5 dcd5 pmd5 cdd5 ctd5 : Value}
    {fd6 : Addr} {odd6 and6 : Option Addr} {sld6 : Array (Option Value)} {ocd6 kVd6 dcd6 pmd6 cdd6 ctd6 : Value}
    {fd7 : Addr} {odd7 and7 : Option Addr} {sld7 : Array (Option Value)} {ocd7 kVd7 dcd7 pmd7 cdd7 ctd7 : Value}
    {fd8 : Addr} {odd8 and8 : Option Addr} {sld8 : Array (Option Value)} {ocd8 kVd8 dcd8 pmd8 cdd8 ctd8 : Value}
    {fd9 : Addr} {odd9 and9 : Option Addr} {sld9 : Array (Option Value)} {ocd9 kVd9 dcd9 pmd9 cdd9 ctd9 : Value}
    {fd10 : Addr} {odd10 and10 : Option Addr} {sld10 : Array (Option Value)} {ocd10 kVd10 dcd10 pmd10 cdd10 ctd10 : Value}
    {fd11 : Addr} {odd11 and11 : Option Addr} {sld11 : Array (Option Value)} {ocd11 kVd11 dcd11 pmd11 cdd11 ctd11 : Value}
    {fd12 : Addr} {odd12 and12 : Option Addr} {sld12 : Array (Option Value)} {ocd12 kVd12 dcd12 pmd12 cdd12 ctd12 : Value}
    {fd13 : Addr} {odd13 and13 : Option Addr} {sld13 : Array (Option Value)} {ocd13 kVd13 dcd13 pmd13 cdd13 ctd13 : Value}
    {fd14 : Addr} {odd14 and14 : Option Addr} {sld14 : Array (Option Value)} {ocd14 kVd14 dcd14 pmd14 cdd14 ctd14 : Value}
    {fd15 : Addr} {odd15 and15 : Option Addr} {sld15 : Array (Option Value)} {ocd15 kVd15 dcd15 pmd15 cdd15 ctd15 : Value}
    {fd16 : Addr} {odd16 and16 : Option Addr} {sld16 : Array (Option Value)} {ocd16 kVd16 dcd16 pmd16 cdd16 ctd16 : Value}
    {fd17 : Addr} {odd17 and17 : Option Addr} {sld17 : Array (Option Value)} {ocd17 kVd17 dcd17 pmd17 cdd17 ctd17 : Value}
    {fd18 : Addr} {odd18 and18 : Option Addr} {sld18 : Array (Option Value)} {ocd18 kVd18 dcd18 pmd18 cdd18 ctd18 : Value}
    {fd19 : Addr} {odd19 and19 : Option Addr} {sld19 : Array (Option Value)} {ocd19 kVd19 dcd19 pmd19 cdd19 ctd19 : Value}
    {fd20 : Addr} {odd20 and20 : Option Addr} {sld20 : Array (Option Value)} {ocd20 kVd20 dcd20 pmd20 cdd20 ctd20 : Value}
    {fd21 : Addr} {odd21 and21 : Option Addr} {sld21 : Array (Option Value)} {ocd21 kVd21 dcd21 pmd21 cdd21 ctd21 : Value}
    {fd22 : Addr} {odd22 and22 : Option Addr} {sld22 : Array (Option Value)} {ocd22 kVd22 dcd22 pmd22 cdd22 ctd22 : Value}
    {fd23 : Addr} {odd23 and23 : Option Addr} {sld23 : Array (Option Value)} {ocd23 kVd23 dcd23 pmd23 cdd23 ctd23 : Value}
    {fd24 : Addr} {odd24 and24 : Option Addr} {sld24 : Array (Option Value)} {ocd24 kVd24 dcd24 pmd24 cdd24 ctd24 : Value}
    {fd25 : Addr} {odd25 and25 : Option Addr} {sld25 : Array (Option Value)} {ocd25 kVd25 dcd25 pmd25 cdd25 ctd25 : Value}
    {C CN B : Addr} {nm q : Str} {N0 : Addr} {bs : List Value} {sn : List Str} {sub : List Value} {ab : Bool} {col : Option Bool} {dd : Option Addr} {m0 m1 m2 m3 m5 : Option Value} {tp tw : Tok}
    {fm0 : Addr} {odm0 anm0 : Option Addr} {slm0 : Array (Option Value)} {ocm0 kVm0 dcm0 pmm0 cdm0 ctm0 : Value}
    {fm1 : Addr} {odm1 anm1 : Option Addr} {slm1 : Array (Option Value)} {ocm1 kVm1 dcm1 pmm1 cdm1 ctm1 : Value}
    {fm2 : Addr} {odm2 anm2 : Option Addr} {slm2 : Array (Option Value)} {ocm2 kVm2 dcm2 pmm2 cdm2 ctm2 : Value}
    {fm3 : Addr} {odm3 anm3 : Option Addr} {slm3 : Array (Option Value)} {ocm3 kVm3 dcm3 pmm3 cdm3 ctm3 : Value}
    {fm4 : Addr} {odm4 anm4 : Option Addr} {slm4 : Array (Option Value)} {ocm4 kVm4 dcm4 pmm4 cdm4 ctm4 : Value}
    {fm5 : Addr} {odm5 anm5 : Option Addr} {slm5 : Array (Option Value)} {ocm5 kVm5 dcm5 pmm5 cdm5 ctm5 : Value}
    {fnb : Addr} {odnb annb : Option Addr} {slnb : Array (Option Value)} {ocnb kVnb dcnb pmnb cdnb ctnb : Value}
    {fcb : Addr} {odcb ancb : Option Addr} {slcb : Array (Option Value)} {occb dccb pmcb cdcb ctcb : Value}
    {Dcb Tcb : Addr} {ddT : Option Addr} {slT : Array (Option Value)} {nT : Nat}
    (ad0 : PySem.W.nsIn K mainGlobals "is_list" = some (some (.ref fd0)))
    (ld0 : K.lookup fd0 = some ⟨ocd0, odd0, .func (PySem.W.fnOf "is_list" "is_list" (defArgs (top 9)) (defBody (top 9)) (defScope (top 9)) .none kVd0 dcd0 pmd0 and0 cdd0 ctd0), sld0⟩)
    (cd0 : PySem.W.codeIn K cdd0 "is_list" = true)
    (kd0 : PySem.W.keepIn K (.ref fd0) = true)
    (ad1 : PySem.W.nsIn K mainGlobals "is_integer" = some (some (.ref fd1)))
    (ld1 : K.lookup fd1 = some ⟨ocd1, odd1, .func (PySem.W.fnOf "is_integer" "is_integer" (defArgs (top 10)) (defBody (top 10)) (defScope (top 10)) .none kVd1 dcd1 pmd1 and1 cdd1 ctd1), sld1⟩)
    (cd1 : PySem.W.codeIn K cdd1 "is_integer" = true)
    (kd1 : PySem.W.keepIn K (.ref fd1) = true)
    (ad2 : PySem.W.nsIn K mainGlobals "is_index" = some (some (.ref fd2)))
    (ld2 : K.lookup fd2 = some ⟨ocd2, odd2, .func (PySem.W.fnOf "is_index" "is_index" (defArgs (top 11)) (defBody (top 11)) (defScope (top 11)) .none kVd2 dcd2 pmd2 and2 cdd2 ctd2), sld2⟩)
    (cd2 : PySem.W.codeIn K cdd2 "is_index" = true)
    (kd2 : PySem.W.keepIn K (.ref fd2) = true)
    (ad3 : PySem.W.nsIn K mainGlobals "are_numbers" = some (some (.ref fd3)))
    (ld3 : K.lookup fd3 = some ⟨ocd3, odd3, .func (PySem.W.fnOf "are_numbers" "are_numbers" (defArgs (top 12)) (defBody (top 12)) (defScope (top 12)) .none kVd3 dcd3 pmd3 and3 cdd3 ctd3), sld3⟩)
    (cd3 : PySem.W.codeIn K cdd3 "are_numbers" = true)
    (kd3 : PySem.W.keepIn K (.ref fd3) = true)
    (ad4 : PySem.W.nsIn K mainGlobals "is_lot" = some (some (.ref fd4)))
    (ld4 : K.lookup fd4 = some ⟨ocd4, odd4, .func (PySem.W.fnOf "is_lot" "is_lot" (defArgs (top 13)) (defBody (top 13)) (defScope (top 13)) .none kVd4 dcd4 pmd4 and4 cdd4 ctd4), sld4⟩)
    (cd4 : PySem.W.codeIn K cdd4 "is_lot" = true)
    (kd4 : PySem.W.keepIn K (.ref fd4) = true)
    (ad5 : PySem.W.nsIn K mainGlobals "are_places" = some (some (.ref fd5)))
    (ld5 : K.lookup fd5 = some ⟨ocd5, odd5, .func (PySem.W.fnOf "are_places" "are_places" (defArgs (top 14)) (defBody (top 14)) (defScope (top 14)) .none kVd5 dcd5 pmd5 and5 cdd5 ctd5), sld5⟩)
    (cd5 : PySem.W.codeIn K cdd5 "are_places" = true)
    (kd5 : PySem.W.keepIn K (.ref fd5) = true)
    (ad6 : PySem.W.nsIn K mainGlobals "is_row" = some (some (.ref fd6)))
    (ld6 : K.lookup fd6 = some ⟨ocd6, odd6, .func (PySem.W.fnOf "is_row" "is_row" (defArgs (top 18)) (defBody (top 18)) (defScope (top 18)) .none kVd6 dcd6 pmd6 and6 cdd6 ctd6), sld6⟩)
    (cd6 : PySem.W.codeIn K cdd6 "is_row" = true)
    (kd6 : PySem.W.keepIn K (.ref fd6) = true)
    (ad7 : PySem.W.nsIn K mainGlobals "are_rows" = some (some (.ref fd7)))
    (ld7 : K.lookup fd7 = some ⟨ocd7, odd7, .func (PySem.W.fnOf "are_rows" "are_rows" (defArgs (top 19)) (defBody (top 19)) (defScope (top 19)) .none kVd7 dcd7 pmd7 and7 cdd7 ctd7), sld7⟩)
    (cd7 : PySem.W.codeIn K cdd7 "are_rows" = true)
    (kd7 : PySem.W.keepIn K (.ref fd7) = true)
    (ad8 : PySem.W.nsIn K mainGlobals "_law_cell" = some (some (.ref fd8)))
    (ld8 : K.lookup fd8 = some ⟨ocd8, odd8, .func (PySem.W.fnOf "_law_cell" "_law_cell" (defArgs (top 23)) (defBody (top 23)) (defScope (top 23)) .none kVd8 dcd8 pmd8 and8 cdd8 ctd8), sld8⟩)
    (cd8 : PySem.W.codeIn K cdd8 "_law_cell" = true)
    (kd8 : PySem.W.keepIn K (.ref fd8) = true)
    (ad9 : PySem.W.nsIn K mainGlobals "_law_box" = some (some (.ref fd9)))
    (ld9 : K.lookup fd9 = some ⟨ocd9, odd9, .func (PySem.W.fnOf "_law_box" "_law_box" (defArgs (top 24)) (defBody (top 24)) (defScope (top 24)) .none kVd9 dcd9 pmd9 and9 cdd9 ctd9), sld9⟩)
    (cd9 : PySem.W.codeIn K cdd9 "_law_box" = true)
    (kd9 : PySem.W.keepIn K (.ref fd9) = true)
    (ad10 : PySem.W.nsIn K mainGlobals "_law_take" = some (some (.ref fd10)))
    (ld10 : K.lookup fd10 = some ⟨ocd10, odd10, .func (PySem.W.fnOf "_law_take" "_law_take" (defArgs (top 25)) (defBody (top 25)) (defScope (top 25)) .none kVd10 dcd10 pmd10 and10 cdd10 ctd10), sld10⟩)
    (cd10 : PySem.W.codeIn K cdd10 "_law_take" = true)
    (kd10 : PySem.W.keepIn K (.ref fd10) = true)
    (ad11 : PySem.W.nsIn K mainGlobals "_law_mixed" = some (some (.ref fd11)))
    (ld11 : K.lookup fd11 = some ⟨ocd11, odd11, .func (PySem.W.fnOf "_law_mixed" "_law_mixed" (defArgs (top 26)) (defBody (top 26)) (defScope (top 26)) .none kVd11 dcd11 pmd11 and11 cdd11 ctd11), sld11⟩)
    (cd11 : PySem.W.codeIn K cdd11 "_law_mixed" = true)
    (kd11 : PySem.W.keepIn K (.ref fd11) = true)
    (ad12 : PySem.W.nsIn K mainGlobals "_law_world" = some (some (.ref fd12)))
    (ld12 : K.lookup fd12 = some ⟨ocd12, odd12, .func (PySem.W.fnOf "_law_world" "_law_world" (defArgs (top 27)) (defBody (top 27)) (defScope (top 27)) .none kVd12 dcd12 pmd12 and12 cdd12 ctd12), sld12⟩)
    (cd12 : PySem.W.codeIn K cdd12 "_law_world" = true)
    (kd12 : PySem.W.keepIn K (.ref fd12) = true)
    (ad13 : PySem.W.nsIn K mainGlobals "_law_texts" = some (some (.ref fd13)))
    (ld13 : K.lookup fd13 = some ⟨ocd13, odd13, .func (PySem.W.fnOf "_law_texts" "_law_texts" (defArgs (top 28)) (defBody (top 28)) (defScope (top 28)) .none kVd13 dcd13 pmd13 and13 cdd13 ctd13), sld13⟩)
    (cd13 : PySem.W.codeIn K cdd13 "_law_texts" = true)
    (kd13 : PySem.W.keepIn K (.ref fd13) = true)
    (ad14 : PySem.W.nsIn K mainGlobals "_law_triples" = some (some (.ref fd14)))
    (ld14 : K.lookup fd14 = some ⟨ocd14, odd14, .func (PySem.W.fnOf "_law_triples" "_law_triples" (defArgs (top 29)) (defBody (top 29)) (defScope (top 29)) .none kVd14 dcd14 pmd14 and14 cdd14 ctd14), sld14⟩)
    (cd14 : PySem.W.codeIn K cdd14 "_law_triples" = true)
    (kd14 : PySem.W.keepIn K (.ref fd14) = true)
    (ad15 : PySem.W.nsIn K mainGlobals "_law_fits" = some (some (.ref fd15)))
    (ld15 : K.lookup fd15 = some ⟨ocd15, odd15, .func (PySem.W.fnOf "_law_fits" "_law_fits" (defArgs (top 30)) (defBody (top 30)) (defScope (top 30)) .none kVd15 dcd15 pmd15 and15 cdd15 ctd15), sld15⟩)
    (cd15 : PySem.W.codeIn K cdd15 "_law_fits" = true)
    (kd15 : PySem.W.keepIn K (.ref fd15) = true)
    (ad16 : PySem.W.nsIn K mainGlobals "_law_done" = some (some (.ref fd16)))
    (ld16 : K.lookup fd16 = some ⟨ocd16, odd16, .func (PySem.W.fnOf "_law_done" "_law_done" (defArgs (top 31)) (defBody (top 31)) (defScope (top 31)) .none kVd16 dcd16 pmd16 and16 cdd16 ctd16), sld16⟩)
    (cd16 : PySem.W.codeIn K cdd16 "_law_done" = true)
    (kd16 : PySem.W.keepIn K (.ref fd16) = true)
    (ad17 : PySem.W.nsIn K mainGlobals "_law_clash" = some (some (.ref fd17)))
    (ld17 : K.lookup fd17 = some ⟨ocd17, odd17, .func (PySem.W.fnOf "_law_clash" "_law_clash" (defArgs (top 32)) (defBody (top 32)) (defScope (top 32)) .none kVd17 dcd17 pmd17 and17 cdd17 ctd17), sld17⟩)
    (cd17 : PySem.W.codeIn K cdd17 "_law_clash" = true)
    (kd17 : PySem.W.keepIn K (.ref fd17) = true)
    (ad18 : PySem.W.nsIn K mainGlobals "_law_then" = some (some (.ref fd18)))
    (ld18 : K.lookup fd18 = some ⟨ocd18, odd18, .func (PySem.W.fnOf "_law_then" "_law_then" (defArgs (top 33)) (defBody (top 33)) (defScope (top 33)) .none kVd18 dcd18 pmd18 and18 cdd18 ctd18), sld18⟩)
    (cd18 : PySem.W.codeIn K cdd18 "_law_then" = true)
    (kd18 : PySem.W.keepIn K (.ref fd18) = true)
    (ad19 : PySem.W.nsIn K mainGlobals "_law_told" = some (some (.ref fd19)))
    (ld19 : K.lookup fd19 = some ⟨ocd19, odd19, .func (PySem.W.fnOf "_law_told" "_law_told" (defArgs (top 34)) (defBody (top 34)) (defScope (top 34)) .none kVd19 dcd19 pmd19 and19 cdd19 ctd19), sld19⟩)
    (cd19 : PySem.W.codeIn K cdd19 "_law_told" = true)
    (kd19 : PySem.W.keepIn K (.ref fd19) = true)
    (ad20 : PySem.W.nsIn K mainGlobals "_law_two_right" = some (some (.ref fd20)))
    (ld20 : K.lookup fd20 = some ⟨ocd20, odd20, .func (PySem.W.fnOf "_law_two_right" "_law_two_right" (defArgs (top 35)) (defBody (top 35)) (defScope (top 35)) .none kVd20 dcd20 pmd20 and20 cdd20 ctd20), sld20⟩)
    (cd20 : PySem.W.codeIn K cdd20 "_law_two_right" = true)
    (kd20 : PySem.W.keepIn K (.ref fd20) = true)
    (ad21 : PySem.W.nsIn K mainGlobals "_law_brackets_right" = some (some (.ref fd21)))
    (ld21 : K.lookup fd21 = some ⟨ocd21, odd21, .func (PySem.W.fnOf "_law_brackets_right" "_law_brackets_right" (defArgs (top 36)) (defBody (top 36)) (defScope (top 36)) .none kVd21 dcd21 pmd21 and21 cdd21 ctd21), sld21⟩)
    (cd21 : PySem.W.codeIn K cdd21 "_law_brackets_right" = true)
    (kd21 : PySem.W.keepIn K (.ref fd21) = true)
    (ad22 : PySem.W.nsIn K mainGlobals "_law_alone_right" = some (some (.ref fd22)))
    (ld22 : K.lookup fd22 = some ⟨ocd22, odd22, .func (PySem.W.fnOf "_law_alone_right" "_law_alone_right" (defArgs (top 37)) (defBody (top 37)) (defScope (top 37)) .none kVd22 dcd22 pmd22 and22 cdd22 ctd22), sld22⟩)
    (cd22 : PySem.W.codeIn K cdd22 "_law_alone_right" = true)
    (kd22 : PySem.W.keepIn K (.ref fd22) = true)
    (ad23 : PySem.W.nsIn K mainGlobals "_law_between_right" = some (some (.ref fd23)))
    (ld23 : K.lookup fd23 = some ⟨ocd23, odd23, .func (PySem.W.fnOf "_law_between_right" "_law_between_right" (defArgs (top 38)) (defBody (top 38)) (defScope (top 38)) .none kVd23 dcd23 pmd23 and23 cdd23 ctd23), sld23⟩)
    (cd23 : PySem.W.codeIn K cdd23 "_law_between_right" = true)
    (kd23 : PySem.W.keepIn K (.ref fd23) = true)
    (ad24 : PySem.W.nsIn K mainGlobals "_law_right" = some (some (.ref fd24)))
    (ld24 : K.lookup fd24 = some ⟨ocd24, odd24, .func (PySem.W.fnOf "_law_right" "_law_right" (defArgs (top 39)) (defBody (top 39)) (defScope (top 39)) .none kVd24 dcd24 pmd24 and24 cdd24 ctd24), sld24⟩)
    (cd24 : PySem.W.codeIn K cdd24 "_law_right" = true)
    (kd24 : PySem.W.keepIn K (.ref fd24) = true)
    (ad25 : PySem.W.nsIn K mainGlobals "law" = some (some (.ref fd25)))
    (ld25 : K.lookup fd25 = some ⟨ocd25, odd25, .func (PySem.W.fnOf "law" "law" (defArgs (top 40)) (defBody (top 40)) (defScope (top 40)) .none kVd25 dcd25 pmd25 and25 cdd25 ctd25), sld25⟩)
    (cd25 : PySem.W.codeIn K cdd25 "law" = true)
    (kd25 : PySem.W.keepIn K (.ref fd25) = true)
    (aC : PySem.W.nsIn K mainGlobals "Change" = some (some (.ref C)))
    (am0 : PySem.W.findIn K (.ref C) "__init__" = some (some (.ref fm0)))
    (lm0 : K.lookup fm0 = some ⟨ocm0, odm0, .func (PySem.W.fnOf "__init__" "Change.__init__" (defArgs (inCh 0)) (defBody (inCh 0)) (defScope (inCh 0)) .none kVm0 dcm0 pmm0 anm0 cdm0 ctm0), slm0⟩)
    (cm0 : PySem.W.codeIn K cdm0 "Change.__init__" = true)
    (km0 : PySem.W.keepIn K (.ref fm0) = true)
    (im0 : PySem.W.isFn K (.ref fm0) = true)
    (am1 : PySem.W.findIn K (.ref C) "__eq__" = some (some (.ref fm1)))
    (lm1 : K.lookup fm1 = some ⟨ocm1, odm1, .func (PySem.W.fnOf "__eq__" "Change.__eq__" (defArgs (inCh 1)) (defBody (inCh 1)) (defScope (inCh 1)) .none kVm1 dcm1 pmm1 anm1 cdm1 ctm1), slm1⟩)
    (cm1 : PySem.W.codeIn K cdm1 "Change.__eq__" = true)
    (km1 : PySem.W.keepIn K (.ref fm1) = true)
    (im1 : PySem.W.isFn K (.ref fm1) = true)
    (am2 : PySem.W.findIn K (.ref C) "misses" = some (some (.ref fm2)))
    (lm2 : K.lookup fm2 = some ⟨ocm2, odm2, .func (PySem.W.fnOf "misses" "Change.misses" (defArgs (inCh 6)) (defBody (inCh 6)) (defScope (inCh 6)) .none kVm2 dcm2 pmm2 anm2 cdm2 ctm2), slm2⟩)
    (cm2 : PySem.W.codeIn K cdm2 "Change.misses" = true)
    (km2 : PySem.W.keepIn K (.ref fm2) = true)
    (im2 : PySem.W.isFn K (.ref fm2) = true)
    (am3 : PySem.W.findIn K (.ref C) "done" = some (some (.ref fm3)))
    (lm3 : K.lookup fm3 = some ⟨ocm3, odm3, .func (PySem.W.fnOf "done" "Change.done" (defArgs (inCh 8)) (defBody (inCh 8)) (defScope (inCh 8)) .none kVm3 dcm3 pmm3 anm3 cdm3 ctm3), slm3⟩)
    (cm3 : PySem.W.codeIn K cdm3 "Change.done" = true)
    (km3 : PySem.W.keepIn K (.ref fm3) = true)
    (im3 : PySem.W.isFn K (.ref fm3) = true)
    (am4 : PySem.W.findIn K (.ref C) "back" = some (some (.ref fm4)))
    (lm4 : K.lookup fm4 = some ⟨ocm4, odm4, .func (PySem.W.fnOf "back" "Change.back" (defArgs (inCh 9)) (defBody (inCh 9)) (defScope (inCh 9)) .none kVm4 dcm4 pmm4 anm4 cdm4 ctm4), slm4⟩)
    (cm4 : PySem.W.codeIn K cdm4 "Change.back" = true)
    (km4 : PySem.W.keepIn K (.ref fm4) = true)
    (im4 : PySem.W.isFn K (.ref fm4) = true)
    (am5 : PySem.W.findIn K (.ref C) "then" = some (some (.ref fm5)))
    (lm5 : K.lookup fm5 = some ⟨ocm5, odm5, .func (PySem.W.fnOf "then" "Change.then" (defArgs (inCh 10)) (defBody (inCh 10)) (defScope (inCh 10)) .none kVm5 dcm5 pmm5 anm5 cdm5 ctm5), slm5⟩)
    (cm5 : PySem.W.codeIn K cdm5 "Change.then" = true)
    (km5 : PySem.W.keepIn K (.ref fm5) = true)
    (im5 : PySem.W.isFn K (.ref fm5) = true)
    (pg : PySem.W.plainGet K C Str.empty = true)
    (hd : PySem.W.hasDictIn K C = true)
    (po : PySem.W.plainOver K C = true)
    (sa : PySem.W.findIn K (.ref C) "__setattr__" = some (some (.builtin "object.__setattr__")))
    (mk : PySem.W.makesIn K C = true)
    (kc : PySem.W.keepIn K (.ref C) = true)
    (nR : PySem.W.findIn K (.ref C) "rows" = some none)
    (oha : PySem.W.findIn K (.ref C) "__class__" = some (some (.builtin "object.__class__")))
    (ohn : PySem.W.specialIn K (.builtin "object.__class__") "__get__" = some (some (.builtin "getset_descriptor.__get__")))
    (oht : PySem.W.takesIn K (.builtin "object.__class__") = some true)
    (ohm : PySem.W.mroIn K C (.type "object") = some true)
    (aB : PySem.W.nsIn K mainGlobals "BillError" = some (some (.ref B)))
    (aN : PySem.W.nsIn K mainGlobals "NeverBehind" = some (some (.ref CN)))
    (xN : K.lookup CN = some (excClassObj nm q CN N0 bs [.ref B, .type "ValueError", .type "Exception", .type "BaseException", .type "object"] true sn sub ab col dd m0 m1 m2 m3 m5 "ValueError.__new__"))
    (saN : PySem.W.findIn K (.ref CN) "__setattr__" = some (some (.builtin "object.__setattr__")))
    (eN : PySem.W.subIn K (.ref CN) (.type "BaseException") = some true)
    (tN : PySem.W.typeIn K (.ref CN) = some (.type "type"))
    (kN : PySem.W.keepIn K (.ref CN) = true)
    (anb : PySem.W.findIn K (.ref CN) "__init__" = some (some (.ref fnb)))
    (lnb : K.lookup fnb = some ⟨ocnb, odnb, .func (PySem.W.fnOf "__init__" "NeverBehind.__init__" (defArgs (sNB)) (defBody (sNB)) (defScope (sNB)) .none kVnb dcnb pmnb annb cdnb ctnb), slnb⟩)
    (cnb : PySem.W.codeIn K cdnb "NeverBehind.__init__" = true)
    (knb : PySem.W.keepIn K (.ref fnb) = true)
    (tI : PySem.W.typeIn K (.ref fnb) = some (.type "function"))
    (noP : PySem.W.findIn K (.ref CN) "places" = some none)
    (xf : xfB K CN = true)
    (exm : PySem.W.exmOne K (.ref CN) (.ref CN) = some true)
    (spB : PySem.W.specialIn K (.ref B) "__getattribute__" = some (some (.builtin "type.__getattribute__")))
    (rdB : PySem.W.readsIn K B (.type "type") = true)
    (inB : PySem.W.findCls K (.ref B) (.type "type") "__init__" = some (.val (.builtin "ValueError.__init__")))
    (acb : PySem.W.nsIn K mainGlobals "change_between" = some (some (.ref fcb)))
    (lcb : K.lookup fcb = some ⟨occb, odcb, .func (PySem.W.fnOf "change_between" "change_between" (defArgs (top 21)) (defBody (top 21)) (defScope (top 21)) .none (.ref Dcb) dccb pmcb ancb cdcb ctcb), slcb⟩)
    (ccb : PySem.W.codeIn K cdcb "change_between" = true)
    (kcb : PySem.W.keepIn K (.ref fcb) = true)
    (kwcb : PySem.W.nsIn K Dcb "resting" = some (some (.ref Tcb)))
    (tcb : K.lookup Tcb = some ⟨.type "tuple", ddT, .seq #[] nT, slT⟩)
    (cP : PySem.W.nsIn K mainGlobals "MOST_PLACES" = some (some (.int 8 tp)))
    (cW : PySem.W.nsIn K mainGlobals "MOST_WORDINGS" = some (some (.int 6 tw)))
    (z_len : PySem.W.nsIn K mainGlobals "len" = some none)
    (z_list : PySem.W.nsIn K mainGlobals "list" = some none)
    (z_tuple : PySem.W.nsIn K mainGlobals "tuple" = some none)
    (z_sorted : PySem.W.nsIn K mainGlobals "sorted" = some none)
    (z_set : PySem.W.nsIn K mainGlobals "set" = some none)
    (z_range : PySem.W.nsIn K mainGlobals "range" = some none)
    (z_isinstance : PySem.W.nsIn K mainGlobals "isinstance" = some none)
    (z_all : PySem.W.nsIn K mainGlobals "all" = some none)
    (z_int : PySem.W.nsIn K mainGlobals "int" = some none)
    (z_bool : PySem.W.nsIn K mainGlobals "bool" = some none)
    (z_sum : PySem.W.nsIn K mainGlobals "sum" = some none)
    (z_abs : PySem.W.nsIn K mainGlobals "abs" = some none)
    (z_max : PySem.W.nsIn K mainGlobals "max" = some none)
    (z_min : PySem.W.nsIn K mainGlobals "min" = some none) :
    ∃ fd : FuncData, (∀ (s : Shared) (v : Value), BindsTo s fd ⟨[v], []⟩ [("script", v)]) ∧ ∀ base : Heap, K.In base → base.Ns mainGlobals mg → FnOk l.prog w K mg base CX0 12 fa fd ["script"] (spLaw K) := by

  have g : ∀ {x : Str} {v : Value}, PySem.W.nsIn K mainGlobals x = some (some v) → mg x = some v := fun h => PySem.W.mg_of X Gn h
  have z : ∀ {x : Str}, PySem.W.nsIn K mainGlobals x = some none → mg x = none := fun h => PySem.W.mg_none_of X Gn h
  have D0 : Def K mg "is_list" (top 9) := ⟨_, _, fun_mk ld0 cd0 kd0, g ad0⟩
  have D1 : Def K mg "is_integer" (top 10) := ⟨_, _, fun_mk ld1 cd1 kd1, g ad1⟩
  have D2 : Def K mg "is_index" (top 11) := ⟨_, _, fun_mk ld2 cd2 kd2, g ad2⟩
  have D3 : Def K mg "are_numbers" (top 12) := ⟨_, _, fun_mk ld3 cd3 kd3, g ad3⟩
  have D4 : Def K mg "is_lot" (top 13) := ⟨_, _, fun_mk ld4 cd4 kd4, g ad4⟩
  have D5 : Def K mg "are_places" (top 14) := ⟨_, _, fun_mk ld5 cd5 kd5, g ad5⟩
  have D6 : Def K mg "is_row" (top 18) := ⟨_, _, fun_mk ld6 cd6 kd6, g ad6⟩
  have D7 : Def K mg "are_rows" (top 19) := ⟨_, _, fun_mk ld7 cd7 kd7, g ad7⟩
  have D8 : Def K mg "_law_cell" (top 23) := ⟨_, _, fun_mk ld8 cd8 kd8, g ad8⟩
  have D9 : Def K mg "_law_box" (top 24) := ⟨_, _, fun_mk ld9 cd9 kd9, g ad9⟩
  have D10 : Def K mg "_law_take" (top 25) := ⟨_, _, fun_mk ld10 cd10 kd10, g ad10⟩
  have D11 : Def K mg "_law_mixed" (top 26) := ⟨_, _, fun_mk ld11 cd11 kd11, g ad11⟩
  have D12 : Def K mg "_law_world" (top 27) := ⟨_, _, fun_mk ld12 cd12 kd12, g ad12⟩
  have D13 : Def K mg "_law_texts" (top 28) := ⟨_, _, fun_mk ld13 cd13 kd13, g ad13⟩
  have D14 : Def K mg "_law_triples" (top 29) := ⟨_, _, fun_mk ld14 cd14 kd14, g ad14⟩
  have D15 : Def K mg "_law_fits" (top 30) := ⟨_, _, fun_mk ld15 cd15 kd15, g ad15⟩
  have D16 : Def K mg "_law_done" (top 31) := ⟨_, _, fun_mk ld16 cd16 kd16, g ad16⟩
  have D17 : Def K mg "_law_clash" (top 32) := ⟨_, _, fun_mk ld17 cd17 kd17, g ad17⟩
  have D18 : Def K mg "_law_then" (top 33) := ⟨_, _, fun_mk ld18 cd18 kd18, g ad18⟩
  have D19 : Def K mg "_law_told" (top 34) := ⟨_, _, fun_mk ld19 cd19 kd19, g ad19⟩
  have D20 : Def K mg "_law_two_right" (top 35) := ⟨_, _, fun_mk ld20 cd20 kd20, g ad20⟩
  have D21 : Def K mg "_law_brackets_right" (top 36) := ⟨_, _, fun_mk ld21 cd21 kd21, g ad21⟩
  have D22 : Def K mg "_law_alone_right" (top 37) := ⟨_, _, fun_mk ld22 cd22 kd22, g ad22⟩
  have D23 : Def K mg "_law_between_right" (top 38) := ⟨_, _, fun_mk ld23 cd23 kd23, g ad23⟩
  have D24 : Def K mg "_law_right" (top 39) := ⟨_, _, fun_mk ld24 cd24 kd24, g ad24⟩
  have D25 : Def K mg "law" (top 40) := ⟨_, _, fun_mk ld25 cd25 kd25, g ad25⟩
  have U : Bt mg := ⟨z z_len, z z_list, z z_tuple, z z_sorted, z z_set, z z_range, z z_isinstance, z z_all, z z_int, z z_bool⟩
  have U2 : Bt2 mg := ⟨z z_sum, z z_abs, z z_max, z z_min⟩
  have T0 : Ko mg := ⟨⟨_, g cP⟩, ⟨_, g cW⟩⟩
  have cl : Cls K C := ⟨pg, hd, po, sa⟩
  have T : TCh K mg C := ⟨⟨cl, ⟨cl, oha, ohn, oht, ohm⟩, g aC, by unfold PySem.W.kitOne; simp⟩, nR⟩
  have ef : fa = fd25 := by
    have := g ad25
    rw [hfa] at this
    injection this with h; injection h
  subst ef
  refine ⟨PySem.W.fnOf "law" "law" (defArgs (top 40)) (defBody (top 40)) (defScope (top 40)) .none kVd25 dcd25 pmd25 and25 cdd25 ctd25, fun s v => .of_eq rfl, fun base _ _ => ?_⟩
  have c1 := c_is_list (P := l.prog) (w := w) (base := base) U (c := cInt) D0
  have c1r := c_is_list (P := l.prog) (w := w) (base := base) U (c := cI3) D0
  have c2 := c_is_integer (P := l.prog) (w := w) (base := base) U D1
  have c3 := c_is_index U D2 c2
  have k1 := k_is_list (P := l.prog) (w := w) (base := base) U D0
  have k3 := k_are_numbers U D3 k1 c3
  have k4 := k_is_lot U D4 k3
  have k5 := k_are_places U D5 k4
  have crow := c_is_row U D6 T0 c3
  have crows := c_are_rows U D7 c1r crow
  have I := i_init U ⟨_, _, fun_mk lm0 cm0 km0, ⟨mk, am0, im0, kc⟩⟩ T crows
  have Q := m_eq (P := l.prog) (w := w) (base := base) U ⟨_, _, fun_mk lm1 cm1 km1, am1, im1⟩ T
  have Mm := m_misses (P := l.prog) (w := w) (base := base) U ⟨⟨_, _, fun_mk lm2 cm2 km2, ⟨am2, im2, km2⟩⟩⟩ T
  have Md := m_done U ⟨⟨_, _, fun_mk lm3 cm3 km3, ⟨am3, im3, km3⟩⟩⟩ T Mm
  have Mb := m_back U ⟨⟨_, _, fun_mk lm4 cm4 km4, ⟨am4, im4, km4⟩⟩⟩ T I
  have Mt := m_then U ⟨⟨_, _, fun_mk lm5 cm5 km5, ⟨am5, im5, km5⟩⟩⟩ T I
  have Mk := mk_then U ⟨⟨_, _, fun_mk lm5 cm5 km5, ⟨am5, im5, km5⟩⟩⟩ T I
  have TN := (⟨⟨g aB, spB, rdB, inB⟩, ⟨⟨nm, q, N0, bs, _, sn, sub, ab, col, dd, m0, m1, m2, m3, m5, xN, rfl⟩, saN, eN, tN, kN⟩, g aN, anb, tI, fun_mk lnb cnb knb, noP, xfB_ok xf, exm⟩ : TNv K mg CN B fnb _)
  have OT := ok_thenX (P := l.prog) (w := w) (base := base) U (fun_mk lm5 cm5 km5) T TN
  have ON := ok_toldN (fun_mk ld19 cd19 kd19) T TN (fun_mk lm5 cm5 km5) ⟨am5, im5, km5⟩ OT
  have C0 := (⟨_, _, ON, g ad19, kd19, (fun_mk ld19 cd19 kd19).binds fun _ _ _ _ _ _ us hl => match us, hl with | [_, _], _ => rfl⟩ : Cal l.prog w K mg base "_law_told" ["change", "second"] 8 (spToldN C))
  have C2 := c_toldN C0
  have C1 := c_told D19 T Mk
  have cf := c_fits (P := l.prog) (w := w) (base := base) U D15
  have cd := c_done (P := l.prog) (w := w) (base := base) U D16
  have cc := c_clash (P := l.prog) (w := w) (base := base) U D17
  have ct := c_then (P := l.prog) (w := w) (base := base) U D18
  have ctx := c_texts (P := l.prog) (w := w) (base := base) U D13
  have ck := c_take (P := l.prog) (w := w) (base := base) U D10
  have cm := c_mixed U D11 ck
  have cw := c_world U D12 ck
  have ctr := c_triples U D14 ck
  have cal := c_alone U D22 T I Mb Mt Q
  have cbr := c_brackets U D21 T I Q C1 C2 cc ct
  have ctwo := c_two U D20 T I Mb Mt Q C1 C0 C2 cf cd cc ct
  have cb := c_betw (P := l.prog) (w := w) (base := base) (D := Dcb) (T := Tcb) U (funD_mk lcb ccb kcb kwcb) (g acb) T I k5
  have cbt := c_between U D23 T Md Mt Q ck cb (emp_rep tcb)
  have cr := c_right D24 ck cw ctx ctr ct cm ctwo cbr cal cbt
  have cbx := (cal_of D9 (fun _ _ _ _ _ _ us hl => match us, hl with | [_], _ => rfl) fun f fd F => ok_box (P := l.prog) (w := w) (base := base) U U2 F)
  have ccl := (cal_of D8 (fun _ _ _ _ _ _ us hl => match us, hl with | [_, _], _ => rfl) fun f fd F => ok_cell (P := l.prog) (w := w) (base := base) U U2 F)
  exact ok_law U U2 (fun_mk ld25 cd25 kd25) cr cbx ccl
theorem walk {l : PySem.W.OpenLaw} {q : Program} {loose : List Str} {XP : (Str → Option Value) → Heap → Prop} {YP : World → Heap → Prop} {d : DefRec} {K : Params → PySem.W.Frag} (hn : l.most = some 63) (hdf : d.params.defaults = [])
    (hY : ∀ (w : World) (h : Heap), YP w h → (K w.params).In h)
    (F : ∀ (w : World) (mg : Str → Option Value) (fa : Addr) (h : Heap), (K w.params).In h → h.Ns mainGlobals mg → mg d.name = some (.ref fa) →
      ∃ fd : FuncData, (∀ (s : Shared) (u : Value), BindsTo s fd ⟨[u], []⟩ [("script", u)]) ∧ ∀ base : Heap, (K w.params).In base → base.Ns mainGlobals mg → FnOk l.prog w (K w.params) mg base CX0 12 fa fd ["script"] (spLaw (K w.params))) :
    PySem.W.WalkO q loose XP YP l.row.toRowW d [] (fun f vs => PySem.call f vs) :=
  L2.walk_of (n := 63) (k := 12) (x := "script") (CX := fun _ => CX0) (sp := fun w => spLaw (K w.params)) hn (by decide) hdf ⟨rfl, by decide, by decide⟩ hY F (fun _ _ a ns hl _ hS => ⟨a, ns, rfl, hS, hl, fun _ => rfl⟩) fun _ _ _ _ _ z => z
end K04
open PySem PySem.W PyProof.Rows
set_option maxRecDepth 100000 in
set_option maxHeartbeats 0 in
theorem PySem.Challenge.cw_dealbook_k04_changes_behind_one_another_holds : PySem.Challenge.rw_dealbook_k04_changes_behind_one_another.Holds := by
  w_on; o_law; k_head; (case hw => w_witness2)
  k_fill
  refine K04.walk (l := PySem.Challenge.rw_dealbook_k04_changes_behind_one_another) rfl rfl (fun w h Y => PySem.W.kIn_of Y) ?F
  case F =>
    intro w mg fa h KX G hmg
    refine' K04.all_mk KX G hmg ?ad0 ?ld0 ?cd0 ?kd0 ?ad1 ?ld1 ?cd1 ?kd1 ?ad2 ?ld2 ?cd2 ?kd2 ?ad3 ?ld3 ?cd3 ?kd3 ?ad4 ?ld4 ?cd4 ?kd4 ?ad5 ?ld5 ?cd5 ?kd5 ?ad6 ?ld6 ?cd6 ?kd6 ?ad7 ?ld7 ?cd7 ?kd7 ?ad8 ?ld8 ?cd8 ?kd8 ?ad9 ?ld9 ?cd9 ?kd9 ?ad10 ?ld10 ?cd10 ?kd10 ?ad11 ?ld11 ?cd11 ?kd11 ?ad12 ?ld12 ?cd12 ?kd12 ?ad13 ?ld13 ?cd13 ?kd13 ?ad14 ?ld14 ?cd14 ?kd14 ?ad15 ?ld15 ?cd15 ?kd15 ?ad16 ?ld16 ?cd16 ?kd16 ?ad17 ?ld17 ?cd17 ?kd17 ?ad18 ?ld18 ?cd18 ?kd18 ?ad19 ?ld19 ?cd19 ?kd19 ?ad20 ?ld20 ?cd20 ?kd20 ?ad21 ?ld21 ?cd21 ?kd21 ?ad22 ?ld22 ?cd22 ?kd22 ?ad23 ?ld23 ?cd23 ?kd23 ?ad24 ?ld24 ?cd24 ?kd24 ?ad25 ?ld25 ?cd25 ?kd25 ?aC ?am0 ?lm0 ?cm0 ?km0 ?im0 ?am1 ?lm1 ?cm1 ?km1 ?im1 ?am2 ?lm2 ?cm2 ?km2 ?im2 ?am3 ?lm3 ?cm3 ?km3 ?im3 ?am4 ?lm4 ?cm4 ?km4 ?im4 ?am5 ?lm5 ?cm5 ?km5 ?im5 ?pg ?hd ?po ?sa ?mk ?kc ?nR ?oha ?ohn ?oht ?ohm ?aB ?aN ?xN ?saN ?eN ?tN ?kN ?anb ?lnb ?cnb ?knb ?tI ?noP ?xf ?exm ?spB ?rdB ?inB ?acb ?lcb ?ccb ?kcb ?kwcb ?tcb ?cP ?cW ?z_len ?z_list ?z_tuple ?z_sorted ?z_set ?z_range ?z_isinstance ?z_all ?z_int ?z_bool ?z_sum ?z_abs ?z_max ?z_min
    (case ad0 => k_is)
    (case ld0 => k_is)
    (case cd0 => k_is)
    (case kd0 => k_is)
    (case ad1 => k_is)
    (case ld1 => k_is)
    (case cd1 => k_is)
    (case kd1 => k_is)
    (case ad2 => k_is)
    (case ld2 => k_is)
    (case cd2 => k_is)
    (case kd2 => k_is)
    (case ad3 => k_is)
    (case ld3 => k_is)
    (case cd3 => k_is)
    (case kd3 => k_is)
    (case ad4 => k_is)
    (case ld4 => k_is)
    (case cd4 => k_is)
    (case kd4 => k_is)
    (case ad5 => k_is)
    (case ld5 => k_is)
    (case cd5 => k_is)
    (case kd5 => k_is)
    (case ad6 => k_is)
    (case ld6 => k_is)
    (case cd6 => k_is)
    (case kd6 => k_is)
    (case ad7 => k_is)
    (case ld7 => k_is)
    (case cd7 => k_is)
    (case kd7 => k_is)
    (case ad8 => k_is)
    (case ld8 => k_is)
    (case cd8 => k_is)
    (case kd8 => k_is)
    (case ad9 => k_is)
    (case ld9 => k_is)
    (case cd9 => k_is)
    (case kd9 => k_is)
    (case ad10 => k_is)
    (case ld10 => k_is)
    (case cd10 => k_is)
    (case kd10 => k_is)
    (case ad11 => k_is)
    (case ld11 => k_is)
    (case cd11 => k_is)
    (case kd11 => k_is)
    (case ad12 => k_is)
    (case ld12 => k_is)
    (case cd12 => k_is)
    (case kd12 => k_is)
    (case ad13 => k_is)
    (case ld13 => k_is)
    (case cd13 => k_is)
    (case kd13 => k_is)
    (case ad14 => k_is)
    (case ld14 => k_is)
    (case cd14 => k_is)
    (case kd14 => k_is)
    (case ad15 => k_is)
    (case ld15 => k_is)
    (case cd15 => k_is)
    (case kd15 => k_is)
    (case ad16 => k_is)
    (case ld16 => k_is)
    (case cd16 => k_is)
    (case kd16 => k_is)
    (case ad17 => k_is)
    (case ld17 => k_is)
    (case cd17 => k_is)
    (case kd17 => k_is)
    (case ad18 => k_is)
    (case ld18 => k_is)
    (case cd18 => k_is)
    (case kd18 => k_is)
    (case ad19 => k_is)
    (case ld19 => k_is)
    (case cd19 => k_is)
    (case kd19 => k_is)
    (case ad20 => k_is)
    (case ld20 => k_is)
    (case cd20 => k_is)
    (case kd20 => k_is)
    (case ad21 => k_is)
    (case ld21 => k_is)
    (case cd21 => k_is)
    (case kd21 => k_is)
    (case ad22 => k_is)
    (case ld22 => k_is)
    (case cd22 => k_is)
    (case kd22 => k_is)
    (case ad23 => k_is)
    (case ld23 => k_is)
    (case cd23 => k_is)
    (case kd23 => k_is)
    (case ad24 => k_is)
    (case ld24 => k_is)
    (case cd24 => k_is)
    (case kd24 => k_is)
    (case ad25 => k_is)
    (case ld25 => k_is)
    (case cd25 => k_is)
    (case kd25 => k_is)
    (case aC => k_is)
    (case am0 => k_is)
    (case lm0 => k_is)
    (case cm0 => k_is)
    (case km0 => k_is)
    (case im0 => k_is)
    (case am1 => k_is)
    (case lm1 => k_is)
    (case cm1 => k_is)
    (case km1 => k_is)
    (case im1 => k_is)
    (case am2 => k_is)
    (case lm2 => k_is)
    (case cm2 => k_is)
    (case km2 => k_is)
    (case im2 => k_is)
    (case am3 => k_is)
    (case lm3 => k_is)
    (case cm3 => k_is)
    (case km3 => k_is)
    (case im3 => k_is)
    (case am4 => k_is)
    (case lm4 => k_is)
    (case cm4 => k_is)
    (case km4 => k_is)
    (case im4 => k_is)
    (case am5 => k_is)
    (case lm5 => k_is)
    (case cm5 => k_is)
    (case km5 => k_is)
    (case im5 => k_is)
    (case pg => k_is)
    (case hd => k_is)
    (case po => k_is)
    (case sa => k_is)
    (case mk => k_is)
    (case kc => k_is)
    (case nR => k_is)
    (case oha => k_is)
    (case ohn => k_is)
    (case oht => k_is)
    (case ohm => k_is)
    (case aB => k_is)
    (case aN => k_is)
    (case xN => k_is)
    (case saN => k_is)
    (case eN => k_is)
    (case tN => k_is)
    (case kN => k_is)
    (case anb => k_is)
    (case lnb => k_is)
    (case cnb => k_is)
    (case knb => k_is)
    (case tI => k_is)
    (case noP => k_is)
    (case xf => first | rfl | k_is)
    (case exm => first | rfl | k_is)
    (case spB => k_is)
    (case rdB => k_is)
    (case inB => k_is)
    (case acb => k_is)
    (case lcb => k_is)
    (case ccb => k_is)
    (case kcb => k_is)
    (case kwcb => k_is)
    (case tcb => k_is)
    (case cP => k_is)
    (case cW => k_is)
    (case z_len => k_is)
    (case z_list => k_is)
    (case z_tuple => k_is)
    (case z_sorted => k_is)
    (case z_set => k_is)
    (case z_range => k_is)
    (case z_isinstance => k_is)
    (case z_all => k_is)
    (case z_int => k_is)
    (case z_bool => k_is)
    (case z_sum => k_is)
    (case z_abs => k_is)
    (case z_max => k_is)
    (case z_min => k_is)
