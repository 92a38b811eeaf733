import PyProof.Rows.All
import Wide.All
import OpenK.AllK
import Wide.FinOn
import PySem.Challenge.RW_dealbook_k18_hulls
import HandS.ForMost
import HandS.Style
import HandS.Star
import HandS.Deep
import HandS.SortInts
import HandS.TupAny
import HandS.IsInst
import HandS.Conv
import HandS.TupSets
import HandS.SetFor
import HandS.Strs
import HandS.SetBool
import HandS.DictComp
import HandS.OwnEq
import HandS.ExcInit
import HandS.ExcField
import HandS.WordsExc
import HandS.Defaults
import HandS.MakeKwOnly
import HandS.RaiseMore
import KE.DataMinMax
import HandS.MakeKw
import HandS.Ends
import PyProof.Rows.StrJoinMade
import PyProof.ReprRoads
import PyProof.ReprLen
import HandS.Zip
import HandS.Rev
import KE.GoesMore
import KE.GoesEnum
import KE.DatumOrd
import HandS.TryOnly
import HandS.ExcIs
import KE.KExcIs
import HandS.DictTup
import HandS.TupLen
import KE.KDictZip
import KE.KDictKeyed
import HandS.TupMul
import KE.KTupSum
set_option Elab.async false
set_option linter.all false
set_option maxRecDepth 100000
set_option maxHeartbeats 2000000
namespace DL
open PySem PySem.Spec L2
abbrev Stt := L2.St

/-! ### heaps -/
abbrev Ex (H H' : Hp) : Prop := ∀ a o, H a = some o → H' a = some o
theorem Ex.rfl' {H : Hp} : Ex H H := fun _ _ h => h
theorem Ex.trans {H H1 H2 : Hp} (a : Ex H H1) (b : Ex H1 H2) : Ex H H2 := fun x o h => b x o (a x o h)
theorem Ex.new {H : Hp} {p : Addr} {o : HO} (h : H p = none) : Ex H (upd H p o) := fun a u e => by
  rw [upd_ne (ne_of_none e h)]
  exact e
theorem Ex.back {H H' : Hp} {p : Addr} (e : Ex H H') (h : H' p = none) : H p = none := by
  cases q : H p with
  | none => rfl
  | some o => rw [e p o q] at h; cases h
/-- an object that H does not know may change -/
theorem Ex.mut {H H' : Hp} {p : Addr} {o : HO} (e : Ex H H') (h : H p = none) : Ex H (upd H' p o) := fun a u ha => by
  rw [upd_ne (ne_of_none ha h)]
  exact e a u ha
theorem Ex.both {H H' : Hp} {p : Addr} {o : HO} (e : Ex H H') (h : H p = none) : Ex (upd H p o) (upd H' p o) := fun a u ha => by
  by_cases q : a = p
  · subst q; rw [upd_same] at ha ⊢; exact ha
  · rw [upd_ne q] at ha ⊢; exact e a u ha
theorem Ex.rd {H H' : Hp} {a : Addr} {u : HO} (e : Ex H H') (h : Rd H a u) : Rd H' a u := by
  rcases h with h | ⟨o, h⟩
  · exact Or.inl (e a _ h)
  · exact Or.inr ⟨o, e a _ h⟩
theorem paired_mono {α β : Type} {F G : α → β → Prop} : ∀ {l₁ : List α} {l₂ : List β}, Paired F l₁ l₂ → (∀ a b, F a b → G a b) → Paired G l₁ l₂
  | _, _, .nil, _ => .nil
  | _, _, .cons r t, f => .cons (f _ _ r) (paired_mono t f)

def LB : Nat := 1000000
theorem lb_line {n : Nat} (h : n ≤ LB) : n ≤ sizeLine := Nat.le_trans h (by decide)
theorem lb_lt {n : Nat} (h : n ≤ LB) : n < sizeLine := Nat.lt_of_le_of_lt h (by decide)
/-! ### codecs: how a piece of data lies in a heap that stays -/
structure Cod (α : Type) where
  rep : Hp → V → α → Prop
  mono : ∀ {H H' : Hp} {v : V} {x : α}, Ex H H' → rep H v x → rep H' v x
def cInt : Cod Int := ⟨fun _ v x => v = .int x, fun _ h => h⟩
def cBool : Cod Bool := ⟨fun _ v x => v = .bl x, fun _ h => h⟩
def cNon : Cod Unit := ⟨fun _ v _ => v = .non, fun _ h => h⟩
/-- the value itself -/
def cV : Cod V := ⟨fun _ v x => v = x, fun _ h => h⟩
def cList {α : Type} (c : Cod α) : Cod (List α) := ⟨fun H v xs => ∃ a vs, v = .ref a ∧ H a = some (.lst vs) ∧ Paired (c.rep H) vs xs ∧ vs.length ≤ LB,
  fun e ⟨a, vs, h1, h2, h3, h4⟩ => ⟨a, vs, h1, e _ _ h2, paired_mono h3 (fun _ _ q => c.mono e q), h4⟩⟩
def cTup {α : Type} (c : Cod α) : Cod (List α) := ⟨fun H v xs => ∃ a vs, v = .ref a ∧ H a = some (.tup vs) ∧ Paired (c.rep H) vs xs ∧ vs.length ≤ LB,
  fun e ⟨a, vs, h1, h2, h3, h4⟩ => ⟨a, vs, h1, e _ _ h2, paired_mono h3 (fun _ _ q => c.mono e q), h4⟩⟩
def cT2 {α β : Type} (c : Cod α) (d : Cod β) : Cod (α × β) := ⟨fun H v x => ∃ a u w, v = .ref a ∧ H a = some (.tup [u, w]) ∧ c.rep H u x.1 ∧ d.rep H w x.2,
  fun e ⟨a, u, w, h1, h2, h3, h4⟩ => ⟨a, u, w, h1, e _ _ h2, c.mono e h3, d.mono e h4⟩⟩
/-! ### slots -/
/-- what is known of an object of one's own -/
structure OP where
  φ : Hp → Addr → HO → Prop
  mono : ∀ {H H' : Hp} {a : Addr} {o : HO}, Ex H H' → φ H a o → φ H' a o
inductive Sl : Type 1
  | un
  | d {α : Type} (c : Cod α) (x : α)
  | l {α : Type} (c : Cod α) (xs : List α)
  | bx (a : Addr)
  | r (p : OP)
abbrev Ctxt := List Sl
def Sl.own : Sl → Bool
  | .l _ _ => true
  | .bx _ => true
  | .r _ => true
  | _ => false
def LIM : Nat := 8589934592
def BoxAt (H : Hp) (a : Addr) (n : Nat) : Prop := ∃ (g : Int) (b : Bool) (m c : Int), H a = some (.lst [.int g, .bl b, .int m, .int c]) ∧ 0 ≤ m ∧ m < 2147483648 ∧ 0 ≤ c ∧ c ≤ (n : Int)
def SlOk (Hf H : Hp) (n : Nat) (ov : Option (Option V)) : Sl → Prop
  | .un => True
  | .d c x => ∃ v, ov = some (some v) ∧ c.rep Hf v x
  | .l c xs => ∃ a vs, ov = some (some (.ref a)) ∧ H a = some (.lst vs) ∧ Hf a = none ∧ Paired (c.rep Hf) vs xs ∧ vs.length ≤ LB
  | .bx a => ov = some (some (.ref a)) ∧ Hf a = none ∧ BoxAt H a n
  | .r p => ∃ a o, ov = some (some (.ref a)) ∧ H a = some o ∧ Hf a = none ∧ p.φ Hf a o
def Owns (σ : Stt) (Γ : Ctxt) (a : Addr) : Prop := ∃ (i : Nat) (s : Sl), Γ[i]? = some s ∧ s.own = true ∧ σ[i]? = some (some (V.ref a))
structure Fr (M : Addr → Prop) (Hf H Hf' H' : Hp) : Prop where
  ex : Ex Hf Hf'
  keep : ∀ a o, H a = some o → ¬ M a → H' a = some o
  fz : ∀ a o, H a = some o → ¬ M a → Hf a = none → Hf' a = none
  dom : ∀ a, H' a = none → H a = none
theorem Fr.refl {M : Addr → Prop} {Hf H : Hp} : Fr M Hf H Hf H := ⟨Ex.rfl', fun _ _ h _ => h, fun _ _ _ _ h => h, fun _ h => h⟩
theorem Fr.trans {M M1 : Addr → Prop} {Hf H Hf1 H1 Hf2 H2 : Hp} (f : Fr M Hf H Hf1 H1) (g : Fr M1 Hf1 H1 Hf2 H2) (hm : ∀ a, M1 a → M a ∨ H a = none) : Fr M Hf H Hf2 H2 where
  ex := f.ex.trans g.ex
  keep := fun a o h n => g.keep a o (f.keep a o h n) fun m => by
    rcases hm a m with q | q
    · exact n q
    · rw [h] at q; cases q
  fz := fun a o h n z => g.fz a o (f.keep a o h n) (fun m => by
    rcases hm a m with q | q
    · exact n q
    · rw [h] at q; cases q) (f.fz a o h n z)
  dom := fun a h => f.dom a (g.dom a h)
theorem Fr.mono {M M1 : Addr → Prop} {Hf H Hf1 H1 : Hp} (f : Fr M Hf H Hf1 H1) (hm : ∀ a, M a → M1 a ∨ H a = none) : Fr M1 Hf H Hf1 H1 := Fr.trans (M := M1) Fr.refl f hm
/-- a new object -/
theorem Fr.new {M : Addr → Prop} {Hf H : Hp} {p : Addr} {o : HO} (ex : Ex Hf H) (h : H p = none) : Fr M Hf H (upd Hf p o) (upd H p o) where
  ex := Ex.new (ex.back h)
  keep := fun a u e _ => Ex.new h a u e
  fz := fun a u e _ z => by rw [upd_ne (ne_of_none e h)]; exact z
  dom := fun a e => by
    by_cases q : a = p
    · subst q; exact h
    · rw [upd_ne q] at e; exact e
/-- .. that is not to stay as it is -/
theorem Fr.newO {M : Addr → Prop} {Hf H : Hp} {p : Addr} {o : HO} (h : H p = none) : Fr M Hf H Hf (upd H p o) where
  ex := Ex.rfl'
  keep := fun a u e _ => Ex.new h a u e
  fz := fun a u e _ z => z
  dom := fun a e => by
    by_cases q : a = p
    · subst q; exact h
    · rw [upd_ne q] at e; exact e

structure Org where
  M : Addr → Prop
  Hf : Hp
  H : Hp
structure Sat (O : Org) (Hf H : Hp) (σ : Stt) (Γ : Ctxt) (n : Nat) : Prop where
  len : σ.length = Γ.length
  ex : Ex Hf H
  at_ : ∀ (i : Nat) (s : Sl), Γ[i]? = some s → SlOk Hf H n σ[i]? s
  sep : ∀ (i j : Nat) (si sj : Sl) (a : Addr), i ≠ j → Γ[i]? = some si → Γ[j]? = some sj → si.own = true → sj.own = true → σ[i]? = some (some (V.ref a)) → σ[j]? ≠ some (some (V.ref a))
  fr : Fr O.M O.Hf O.H Hf H
  mine : ∀ a, Owns σ Γ a → O.M a ∨ O.H a = none

theorem boxAt_le {H : Hp} {a : Addr} {n m : Nat} (h : BoxAt H a n) (l : n ≤ m) : BoxAt H a m := by
  obtain ⟨g, b, x, c, h1, h2, h3, h4, h5⟩ := h
  exact ⟨g, b, x, c, h1, h2, h3, h4, by omega⟩
theorem boxAt_ex {H H' : Hp} {a : Addr} {n : Nat} (h : BoxAt H a n) (e : ∀ o, H a = some o → H' a = some o) : BoxAt H' a n := by
  obtain ⟨g, b, x, c, h1, h2⟩ := h
  exact ⟨g, b, x, c, e _ h1, h2⟩
section
variable {O : Org} {Hf H Hf' H' : Hp} {σ : Stt} {Γ : Ctxt} {n m : Nat}
theorem slOk_le {ov : Option (Option V)} {s : Sl} (h : SlOk Hf H n ov s) (l : n ≤ m) : SlOk Hf H m ov s := by
  cases s with
  | un => trivial
  | d c x => exact h
  | l c xs => exact h
  | bx a => obtain ⟨h1, h2, h3⟩ := h; exact ⟨h1, h2, boxAt_le h3 l⟩
  | r p => exact h
theorem Sat.le (S : Sat O Hf H σ Γ n) (l : n ≤ m) : Sat O Hf H σ Γ m := ⟨S.len, S.ex, fun i s h => slOk_le (S.at_ i s h) l, S.sep, S.fr, S.mine⟩
theorem Sat.ownAt (S : Sat O Hf H σ Γ n) {a : Addr} (h : Owns σ Γ a) : Hf a = none ∧ ∃ o, H a = some o := by
  obtain ⟨i, s, h1, h2, h3⟩ := h
  have q := S.at_ i s h1
  cases s with
  | un => cases h2
  | d c x => cases h2
  | l c xs =>
    obtain ⟨b, vs, e1, e2, e3, _⟩ := q
    rw [h3] at e1
    injection e1 with e1; injection e1 with e1; injection e1 with e1
    subst e1
    exact ⟨e3, _, e2⟩
  | bx b =>
    obtain ⟨e1, e2, g, bb, x, c, e3, _⟩ := q
    rw [h3] at e1
    injection e1 with e1; injection e1 with e1; injection e1 with e1
    subst e1
    exact ⟨e2, _, e3⟩
  | r p =>
    obtain ⟨b, o, e1, e2, e3, _⟩ := q
    rw [h3] at e1
    injection e1 with e1; injection e1 with e1; injection e1 with e1
    subst e1
    exact ⟨e3, _, e2⟩
/-- the boxes of a context -/
def Bx (Γ : Ctxt) (a : Addr) : Prop := ∃ i : Nat, Γ[i]? = some (.bx a)
theorem Sat.bxOwn (S : Sat O Hf H σ Γ n) {a : Addr} (h : Bx Γ a) : Owns σ Γ a := by
  obtain ⟨i, h⟩ := h
  obtain ⟨h1, _⟩ := S.at_ i _ h
  exact ⟨i, _, h, rfl, h1⟩
/-- a list slot's address is no box -/
theorem Sat.lNe (S : Sat O Hf H σ Γ n) {i : Nat} {α : Type} {c : Cod α} {xs : List α} {a : Addr} (h : Γ[i]? = some (.l c xs)) (e : σ[i]? = some (some (V.ref a))) : ¬ Bx Γ a := fun ⟨j, hj⟩ => by
  obtain ⟨h1, _⟩ := S.at_ j _ hj
  refine S.sep i j _ _ a (fun z => ?_) h hj rfl rfl e h1
  subst z
  rw [h] at hj
  cases hj
theorem Sat.rNe (S : Sat O Hf H σ Γ n) {i : Nat} {p : OP} {a : Addr} (h : Γ[i]? = some (.r p)) (e : σ[i]? = some (some (V.ref a))) : ¬ Bx Γ a := fun ⟨j, hj⟩ => by
  obtain ⟨h1, _⟩ := S.at_ j _ hj
  refine S.sep i j _ _ a (fun z => ?_) h hj rfl rfl e h1
  subst z
  rw [h] at hj
  cases hj
/-- the heaps grow, boxes may turn -/
theorem Sat.grow (S : Sat O Hf H σ Γ n) (f : Fr (Bx Γ) Hf H Hf' H') (ex : Ex Hf' H') (hb : ∀ a, Bx Γ a → Hf' a = none ∧ BoxAt H' a m) : Sat O Hf' H' σ Γ m where
  len := S.len
  ex := ex
  at_ := fun i s h => by
    have q := S.at_ i s h
    cases s with
    | un => trivial
    | d c x => obtain ⟨v, h1, h2⟩ := q; exact ⟨v, h1, c.mono f.ex h2⟩
    | l c xs =>
      obtain ⟨a, vs, h1, h2, h3, h4, h5⟩ := q
      have nb := S.lNe h h1
      exact ⟨a, vs, h1, f.keep _ _ h2 nb, f.fz _ _ h2 nb h3, paired_mono h4 (fun _ _ r => c.mono f.ex r), h5⟩
    | bx a =>
      obtain ⟨h1, h2, h3⟩ := q
      obtain ⟨h4, h5⟩ := hb a ⟨i, h⟩
      exact ⟨h1, h4, h5⟩
    | r p =>
      obtain ⟨a, o, h1, h2, h3, h4⟩ := q
      have nb := S.rNe h h1
      exact ⟨a, o, h1, f.keep _ _ h2 nb, f.fz _ _ h2 nb h3, p.mono f.ex h4⟩
  sep := S.sep
  fr := S.fr.trans f fun a h => S.mine a (S.bxOwn h)
  mine := S.mine
theorem Sat.grow0 (S : Sat O Hf H σ Γ n) (f : Fr (fun _ => False) Hf H Hf' H') (ex : Ex Hf' H') : Sat O Hf' H' σ Γ n :=
  S.grow (f.mono fun _ z => z.elim) ex fun a ⟨i, h⟩ => by
    obtain ⟨_, h2, h3⟩ := S.at_ i _ h
    have h4 := h3
    obtain ⟨g, b, x, c, e, _⟩ := h4
    exact ⟨f.fz _ _ e id h2, boxAt_ex h3 fun o r => f.keep _ _ r id⟩
theorem Sat.new (S : Sat O Hf H σ Γ n) {p : Addr} {o : HO} (h : H p = none) : Sat O (upd Hf p o) (upd H p o) σ Γ n :=
  S.grow0 (Fr.new S.ex h) (S.ex.both (S.ex.back h))
/-- seen from here -/
theorem Sat.here (S : Sat O Hf H σ Γ n) : Sat ⟨Owns σ Γ, Hf, H⟩ Hf H σ Γ n := ⟨S.len, S.ex, S.at_, S.sep, Fr.refl, fun _ h => .inl h⟩
end
end DL

set_option Elab.async false
set_option linter.all false
set_option maxRecDepth 100000
set_option maxHeartbeats 2000000
namespace DL
open PySem PySem.Spec L2
/-! ### judgements -/
def TD {α : Type} (te : TE) (Γ : Ctxt) (k : Nat) (c : Cod α) (P : α → Prop) : Prop :=
  ∀ (O : Org) (n : Nat) (σ : Stt) (Hf H : Hp), n + k ≤ LIM → Sat O Hf H σ Γ n → ∀ Q : VK,
    (∀ v Hf' H' x, P x → c.rep Hf' v x → Fr (Bx Γ) Hf H Hf' H' → Sat O Hf' H' σ Γ (n + k) → Q v H') → te σ H Q
def TDT (tt : TT) (Γ : Ctxt) (k : Nat) (P : Bool → Prop) : Prop :=
  ∀ (O : Org) (n : Nat) (σ : Stt) (Hf H : Hp), n + k ≤ LIM → Sat O Hf H σ Γ n → ∀ Q : Bool → Hp → Prop,
    (∀ b Hf' H', P b → Fr (Bx Γ) Hf H Hf' H' → Sat O Hf' H' σ Γ (n + k) → Q b H') → tt σ H Q
/-- an operation on values -/
def RD {α β γ : Type} (r : R2) (c1 : Cod α) (x : α) (c2 : Cod β) (y : β) (c : Cod γ) (P : γ → Prop) : Prop :=
  ∀ (Hf H : Hp) (v u : V), Ex Hf H → c1.rep Hf v x → c2.rep Hf u y → ∀ Q : VK,
    (∀ z Hf' H' w, P z → c.rep Hf' w z → Fr (fun _ => False) Hf H Hf' H' → Ex Hf' H' → Q w H') → r v u H Q
def RU1 {α γ : Type} (r : V → Hp → VK → Prop) (c1 : Cod α) (x : α) (c : Cod γ) (P : γ → Prop) : Prop :=
  ∀ (Hf H : Hp) (v : V), Ex Hf H → c1.rep Hf v x → ∀ Q : VK,
    (∀ z Hf' H' w, P z → c.rep Hf' w z → Fr (fun _ => False) Hf H Hf' H' → Ex Hf' H' → Q w H') → r v H Q
/-- arguments: what the values are, one context entry each -/
def ArgsOk (Hf : Hp) : List V → Ctxt → Prop
  | [], [] => True
  | v :: vs, s :: as => (match s with
    | .d c x => c.rep Hf v x
    | .bx a => v = .ref a
    | _ => False) ∧ ArgsOk Hf vs as
  | _, _ => False
def TDA (ta : TA) (Γ : Ctxt) (k : Nat) (B : Ctxt → Prop) : Prop :=
  ∀ (O : Org) (n : Nat) (σ : Stt) (Hf H : Hp), n + k ≤ LIM → Sat O Hf H σ Γ n → ∀ Q : List V → Hp → Prop,
    (∀ vs Hf' H' as, B as → ArgsOk Hf' vs as → (∀ a, Sl.bx a ∈ as → Bx Γ a) → Fr (Bx Γ) Hf H Hf' H' → Sat O Hf' H' σ Γ (n + k) → Q vs H') → ta σ H Q
section
variable {Γ : Ctxt} {k k1 k2 k3 : Nat} {α β γ δ : Type} {c c1 : Cod α} {c2 : Cod β} {c3 : Cod γ} {P P1 : α → Prop} {P2 : β → Prop} {P3 : γ → Prop} {te ta tb : TE} {tt tu : TT}
theorem TD.imp {P' : α → Prop} (h : TD te Γ k c P) (hp : ∀ x, P x → P' x) : TD te Γ k c P' := fun O n σ Hf H hn S Q q => h O n σ Hf H hn S Q fun v Hf' H' x p => q v Hf' H' x (hp x p)
theorem TD.le (h : TD te Γ k c P) (l : k ≤ k2) : TD te Γ k2 c P := fun O n σ Hf H hn S Q q => h O n σ Hf H (by omega) S Q fun v Hf' H' x p r f s => q v Hf' H' x p r f (s.le (by omega))
theorem TDT.imp {P P' : Bool → Prop} (h : TDT tt Γ k P) (hp : ∀ x, P x → P' x) : TDT tt Γ k P' := fun O n σ Hf H hn S Q q => h O n σ Hf H hn S Q fun b Hf' H' p => q b Hf' H' (hp b p)
theorem TDT.le {P : Bool → Prop} (h : TDT tt Γ k P) (l : k ≤ k2) : TDT tt Γ k2 P := fun O n σ Hf H hn S Q q => h O n σ Hf H (by omega) S Q fun b Hf' H' p f s => q b Hf' H' p f (s.le (by omega))
/-- as another kind of data -/
theorem TD.conv {P' : β → Prop} (h : TD te Γ k c P) (hp : ∀ H v x, P x → c.rep H v x → ∃ y, P' y ∧ c2.rep H v y) : TD te Γ k c2 P' := fun O n σ Hf H hn S Q q => h O n σ Hf H hn S Q fun v Hf' H' x p r f s => by
  obtain ⟨y, p', r'⟩ := hp _ _ _ p r
  exact q v Hf' H' y p' r' f s
theorem td_var {i : Nat} {x : α} (h : Γ[i]? = some (.d c x)) : TD (tVar i) Γ 0 c (· = x) := fun O n σ Hf H _ S Q q => by
  obtain ⟨v, h1, h2⟩ := S.at_ i _ h
  exact ⟨v, h1, q v Hf H x rfl h2 Fr.refl S⟩
theorem td_c {v : V} {x : α} (h : ∀ H, c.rep H v x) : TD (tC v) Γ 0 c (· = x) := fun O n σ Hf H _ S Q q => q v Hf H x rfl (h Hf) Fr.refl S
theorem td_un {r : V → Hp → VK → Prop} (ha : TD ta Γ k1 c1 P1) (hr : ∀ x, P1 x → RU1 r c1 x c3 P3) : TD (tUn r ta) Γ k1 c3 P3 := fun O n σ Hf H hn S Q q =>
  ha O n σ Hf H hn S _ fun v Hf1 H1 x p1 r1 f1 S1 => hr x p1 Hf1 H1 v S1.ex r1 Q fun z Hf3 H3 w p3 r3 f3 e3 =>
      q w Hf3 H3 z p3 r3 (f1.trans f3 fun _ h => h.elim) (S1.grow0 f3 e3)
/-! ### tests -/
theorem tt_test {P : Bool → Prop} (h : TD te Γ k cBool P) : TDT (tTest te) Γ k P := fun O n σ Hf H hn S Q q => h O n σ Hf H hn S _ fun v Hf' H' x p r f s => ⟨x, r, q x Hf' H' p f s⟩
theorem tt_B {P : Bool → Prop} (h : TD te Γ k cBool P) : TDT (tB te) Γ k P := fun O n σ Hf H hn S Q q => h O n σ Hf H hn S _ fun v Hf' H' x p r f s => ⟨x, r, q x Hf' H' p f s⟩
theorem tt_and {a b : Bool → Prop} (h1 : TDT tt Γ k1 a) (h2 : a true → TDT tu Γ k2 b) : TDT (tAnd tt tu) Γ (k1 + k2) (fun r => (r = false ∧ a false) ∨ (a true ∧ b r)) := fun O n σ Hf H hn S Q q =>
  h1 O n σ Hf H (by omega) S _ fun b1 Hf1 H1 p f1 S1 => by
    cases b1 with
    | true =>
      rw [if_pos rfl]
      exact h2 p O (n + k1) σ Hf1 H1 (by omega) S1 Q fun b2 Hf2 H2 p2 f2 S2 => q b2 Hf2 H2 (.inr ⟨p, p2⟩) (f1.trans f2 fun _ h => .inl h) (by rw [← Nat.add_assoc]; exact S2)
    | false =>
      rw [if_neg Bool.false_ne_true]
      exact q false Hf1 H1 (.inl ⟨rfl, p⟩) f1 (S1.le (by omega))
theorem tt_or {a b : Bool → Prop} (h1 : TDT tt Γ k1 a) (h2 : a false → TDT tu Γ k2 b) : TDT (tOr tt tu) Γ (k1 + k2) (fun r => (r = true ∧ a true) ∨ (a false ∧ b r)) := fun O n σ Hf H hn S Q q =>
  h1 O n σ Hf H (by omega) S _ fun b1 Hf1 H1 p f1 S1 => by
    cases b1 with
    | false =>
      rw [if_neg Bool.false_ne_true]
      exact h2 p O (n + k1) σ Hf1 H1 (by omega) S1 Q fun b2 Hf2 H2 p2 f2 S2 => q b2 Hf2 H2 (.inr ⟨p, p2⟩) (f1.trans f2 fun _ h => .inl h) (by rw [← Nat.add_assoc]; exact S2)
    | true =>
      rw [if_pos rfl]
      exact q true Hf1 H1 (.inl ⟨rfl, p⟩) f1 (S1.le (by omega))
theorem tt_not {a : Bool → Prop} (h1 : TDT tt Γ k a) : TDT (tNot tt) Γ k (fun r => a (!r)) := fun O n σ Hf H hn S Q q =>
  h1 O n σ Hf H hn S _ fun b1 Hf1 H1 p f1 S1 => q (!b1) Hf1 H1 (by show a (!!b1); rw [Bool.not_not]; exact p) f1 S1
theorem tt_or' {a b : Bool} (h1 : TDT tt Γ k1 (· = a)) (h2 : a = false → TDT tu Γ k2 (· = b)) : TDT (tOr tt tu) Γ (k1 + k2) (· = (a || b)) :=
  (tt_or h1 fun e => h2 e.symm).imp fun x h => by
    rcases h with ⟨e1, e2⟩ | ⟨e1, e2⟩
    · subst e1 e2; rfl
    · subst e2 e1; rfl
theorem tt_not' {a : Bool} (h1 : TDT tt Γ k (· = a)) : TDT (tNot tt) Γ k (· = !a) := (tt_not h1).imp fun x h => by rw [← h, Bool.not_not]
theorem td_if {b : Bool → Prop} (ht : TDT tt Γ k1 b) (ha : b true → TD ta Γ k2 c P) (hb : b false → TD tb Γ k3 c P) : TD (tIf tt ta tb) Γ (k1 + max k2 k3) c P := fun O n σ Hf H hn S Q q =>
  ht O n σ Hf H (by omega) S _ fun d Hf1 H1 p f1 S1 => by
    cases d with
    | true =>
      rw [if_pos rfl]
      exact ha p O (n + k1) σ Hf1 H1 (by omega) S1 Q fun v Hf2 H2 x p2 r f2 S2 => q v Hf2 H2 x p2 r (f1.trans f2 fun _ h => .inl h) (S2.le (by omega))
    | false =>
      rw [if_neg Bool.false_ne_true]
      exact hb p O (n + k1) σ Hf1 H1 (by omega) S1 Q fun v Hf2 H2 x p2 r f2 S2 => q v Hf2 H2 x p2 r (f1.trans f2 fun _ h => .inl h) (S2.le (by omega))
theorem td_andV {a b : Bool → Prop} (h1 : TD ta Γ k1 cBool a) (h2 : a true → TD tb Γ k2 cBool b) : TD (tAndV ta tb) Γ (k1 + k2) cBool (fun r => (r = false ∧ a false) ∨ (a true ∧ b r)) := fun O n σ Hf H hn S Q q =>
  h1 O n σ Hf H (by omega) S _ fun v Hf1 H1 b1 p r1 f1 S1 => ⟨b1, r1, by
    cases b1 with
    | true =>
      rw [if_pos rfl]
      exact h2 p O (n + k1) σ Hf1 H1 (by omega) S1 Q fun v2 Hf2 H2 b2 p2 r2 f2 S2 => q v2 Hf2 H2 b2 (.inr ⟨p, p2⟩) r2 (f1.trans f2 fun _ h => .inl h) (by rw [← Nat.add_assoc]; exact S2)
    | false =>
      rw [if_neg Bool.false_ne_true]
      exact q _ Hf1 H1 false (.inl ⟨rfl, p⟩) rfl f1 (S1.le (by omega))⟩
theorem td_notV {a : Bool → Prop} (h1 : TD ta Γ k cBool a) : TD (tNotV ta) Γ k cBool (fun r => a (!r)) := fun O n σ Hf H hn S Q q =>
  h1 O n σ Hf H hn S _ fun v Hf1 H1 b1 p r1 f1 S1 => ⟨b1, r1, q _ Hf1 H1 (!b1) (by show a (!!b1); rw [Bool.not_not]; exact p) rfl f1 S1⟩
theorem td_andV' {a b : Bool} (h1 : TD ta Γ k1 cBool (· = a)) (h2 : a = true → TD tb Γ k2 cBool (· = b)) : TD (tAndV ta tb) Γ (k1 + k2) cBool (· = (a && b)) :=
  (td_andV h1 fun e => h2 e.symm).imp fun x h => by
    rcases h with ⟨e1, e2⟩ | ⟨e1, e2⟩
    · subst e1 e2; rfl
    · subst e2 e1; rfl
/-! ### arguments, displays -/
variable {tx : TA} {B : Ctxt → Prop}
theorem ta_nil : TDA tNil Γ 0 (· = []) := fun O n σ Hf H _ S Q q => q [] Hf H [] rfl trivial (fun _ h => nomatch h) Fr.refl S
theorem ta_cons (h : TD te Γ k1 c P) (hr : TDA tx Γ k2 B) : TDA (tCons te tx) Γ (k1 + k2) (fun as => ∃ x r, P x ∧ B r ∧ as = .d c x :: r) := fun O n σ Hf H hn S Q q =>
  h O n σ Hf H (by omega) S _ fun v Hf1 H1 x p r f1 S1 => hr O (n + k1) σ Hf1 H1 (by omega) S1 _ fun vs Hf2 H2 as b o hb f2 S2 =>
    q (v :: vs) Hf2 H2 (.d c x :: as) ⟨x, as, p, b, rfl⟩ ⟨c.mono f2.ex r, o⟩ (fun a h => by
      rcases List.mem_cons.mp h with e | e
      · cases e
      · exact hb a e) (f1.trans f2 fun _ h => .inl h) (by rw [← Nat.add_assoc]; exact S2)
theorem ta_box {i : Nat} {a : Addr} (h : Γ[i]? = some (.bx a)) (hr : TDA tx Γ k2 B) : TDA (tCons (tVar i) tx) Γ k2 (fun as => ∃ r, B r ∧ as = .bx a :: r) := fun O n σ Hf H hn S Q q => by
  obtain ⟨h1, h2⟩ := S.at_ i _ h
  exact ⟨.ref a, h1, hr O n σ Hf H hn S _ fun vs Hf2 H2 as b o hb f2 S2 => q (.ref a :: vs) Hf2 H2 (.bx a :: as) ⟨as, b, rfl⟩ ⟨rfl, o⟩ (fun a' h' => by
    rcases List.mem_cons.mp h' with e | e
    · cases e; exact ⟨i, h⟩
    · exact hb a' e) f2 S2⟩
theorem TDA.imp {B' : Ctxt → Prop} (h : TDA tx Γ k B) (hp : ∀ x, B x → B' x) : TDA tx Γ k B' := fun O n σ Hf H hn S Q q => h O n σ Hf H hn S Q fun v Hf' H' x p => q v Hf' H' x (hp x p)
/-- items of one kind -/
theorem args_items {Hf : Hp} : ∀ {vs : List V} {xs : List α}, ArgsOk Hf vs (xs.map fun x => Sl.d c x) → Paired (c.rep Hf) vs xs
  | [], [], _ => .nil
  | [], _ :: _, h => h.elim
  | _ :: _, [], h => h.elim
  | v :: vs, x :: xs, h => .cons h.1 (args_items h.2)
theorem paired_len {F : V → α → Prop} {vs : List V} {xs : List α} (h : Paired F vs xs) : vs.length = xs.length := h.length
theorem td_tup {R : List α → Prop} (h : TDA tx Γ k B) (hi : ∀ as, B as → ∃ xs : List α, as = xs.map (fun x => Sl.d c x) ∧ xs.length ≤ 1000 ∧ R xs) : TD (tTup tx) Γ k (cTup c) R := fun O n σ Hf H hn S Q q =>
  h O n σ Hf H hn S _ fun vs Hf1 H1 as b o _ f1 S1 => by
    obtain ⟨xs, e, l, r⟩ := hi as b
    subst e
    have pr := args_items o
    refine ⟨by rw [paired_len pr]; exact Nat.le_trans l (by decide), fun p hp => ?_⟩
    exact q _ (upd Hf1 p (.tup vs)) _ xs r ⟨p, vs, rfl, upd_same, paired_mono pr (fun _ _ z => c.mono (Ex.new (S1.ex.back hp)) z), by rw [paired_len pr]; exact Nat.le_trans l (by decide)⟩
      (f1.trans (Fr.new (M := Bx Γ) S1.ex hp) fun _ z => .inl z) (S1.new hp)
theorem td_t2 (ha : TD ta Γ k1 c1 P1) (hb : TD tb Γ k2 c2 P2) : TD (tTup (tCons ta (tCons tb tNil))) Γ (k1 + k2) (cT2 c1 c2) (fun z => P1 z.1 ∧ P2 z.2) := fun O n σ Hf H hn S Q q =>
  ha O n σ Hf H (by omega) S _ fun v Hf1 H1 x p1 r1 f1 S1 => hb O (n + k1) σ Hf1 H1 (by omega) S1 _ fun u Hf2 H2 y p2 r2 f2 S2 =>
    ⟨by show 2 ≤ sizeLine; decide, fun p hp => q _ (upd Hf2 p (.tup [v, u])) _ (x, y) ⟨p1, p2⟩
      ⟨p, v, u, rfl, upd_same, c1.mono (f2.ex.trans (Ex.new (S2.ex.back hp))) r1, c2.mono (Ex.new (S2.ex.back hp)) r2⟩
      ((f1.trans f2 fun _ h => .inl h).trans (Fr.new (M := Bx Γ) S2.ex hp) fun _ z => .inl z) (by rw [← Nat.add_assoc]; exact S2.new hp)⟩
variable {td : TE}
/-! ### operations on ints -/
theorem rd_I0 {g : Int → Int → Int} {i j : Int} : RD (rI0 fun i j => .int (g i j)) cInt i cInt j cInt (· = g i j) := fun Hf H v u e h1 h2 Q q => ⟨i, j, h1, h2, q _ Hf H _ rfl rfl Fr.refl e⟩
theorem rd_B0 {g : Int → Int → Bool} {i j : Int} : RD (rI0 fun i j => .bl (g i j)) cInt i cInt j cBool (· = g i j) := fun Hf H v u e h1 h2 Q q => ⟨i, j, h1, h2, q _ Hf H _ rfl rfl Fr.refl e⟩
theorem rd_I {C : Int → Int → Prop} {g : Int → Int → Int} {i j : Int} (hc : C i j) : RD (rI C fun i j => .int (g i j)) cInt i cInt j cInt (· = g i j) := fun Hf H v u e h1 h2 Q q => ⟨i, j, h1, h2, hc, q _ Hf H _ rfl rfl Fr.refl e⟩
theorem rd_eqI {i j : Int} : RD rEq cInt i cInt j cBool (· = decide (i = j)) := fun Hf H v u e h1 h2 Q q => by
  obtain rfl := h1; obtain rfl := h2
  exact ⟨rfl, q _ Hf H _ rfl (by show V.bl _ = V.bl _; congr 1; exact decide_eq_decide.mpr ⟨fun h => V.int.inj h, fun h => by rw [h]⟩) Fr.refl e⟩
theorem rd_neI {i j : Int} : RD rNe cInt i cInt j cBool (· = !decide (i = j)) := fun Hf H v u e h1 h2 Q q => by
  obtain rfl := h1; obtain rfl := h2
  exact ⟨rfl, q _ Hf H _ rfl (by show V.bl _ = V.bl _; congr 2; exact decide_eq_decide.mpr ⟨fun h => V.int.inj h, fun h => by rw [h]⟩) Fr.refl e⟩
theorem rd_neB {i j : Bool} : RD rNe cBool i cBool j cBool (· = !decide (i = j)) := fun Hf H v u e h1 h2 Q q => by
  obtain rfl := h1; obtain rfl := h2
  exact ⟨rfl, q _ Hf H _ rfl (by show V.bl _ = V.bl _; congr 2; exact decide_eq_decide.mpr ⟨fun h => V.bl.inj h, fun h => by rw [h]⟩) Fr.refl e⟩
theorem ru_negI {i : Int} : RU1 (rU fun i => .int (-i)) cInt i cInt (· = -i) := fun Hf H v e h1 Q q => ⟨i, h1, q _ Hf H _ rfl rfl Fr.refl e⟩
end
end DL

set_option Elab.async false
set_option linter.all false
set_option maxRecDepth 100000
set_option maxHeartbeats 2000000
namespace DL
open PySem PySem.Spec L2
/-! ### slots set -/
theorem sget.{u} {α : Type u} {l : List α} {i j : Nat} {x y : α} (h : (l.set i x)[j]? = some y) : (j = i ∧ y = x) ∨ (j ≠ i ∧ l[j]? = some y) := by
  by_cases e : j = i
  · subst e
    by_cases hl : j < l.length
    · rw [List.getElem?_set_self hl] at h; exact .inl ⟨rfl, (Option.some.inj h).symm⟩
    · rw [List.getElem?_eq_none (by simpa using hl)] at h; cases h
  · rw [List.getElem?_set_ne (Ne.symm e)] at h; exact .inr ⟨e, h⟩
def BxKeep (Γ Γ' : Ctxt) : Prop := ∀ (i : Nat) a, Γ[i]? = some (.bx a) → Γ'[i]? = some (.bx a)
theorem BxKeep.refl {Γ : Ctxt} : BxKeep Γ Γ := fun _ _ h => h
theorem BxKeep.trans {Γ Γ1 Γ2 : Ctxt} (a : BxKeep Γ Γ1) (b : BxKeep Γ1 Γ2) : BxKeep Γ Γ2 := fun i x h => b i x (a i x h)
/-- the slot i is no box -/
def NoBx (Γ : Ctxt) (i : Nat) : Prop := match Γ[i]? with
  | some (.bx _) => False
  | _ => True
theorem bxKeep_set {Γ : Ctxt} {i : Nat} {s : Sl} (h : NoBx Γ i) : BxKeep Γ (Γ.set i s) := fun j a e => by
  have ne : i ≠ j := fun z => by subst z; unfold NoBx at h; rw [e] at h; exact h
  rw [List.getElem?_set_ne ne]; exact e
section
variable {O : Org} {Hf H Hf' H' : Hp} {σ : Stt} {Γ : Ctxt} {n m : Nat} {α β : Type}
/-- a slot gets a piece of data, or is forgotten -/
theorem Sat.set (S : Sat O Hf H σ Γ n) {i : Nat} {c : Cod α} {x : α} {v : V} (r : c.rep Hf v x) : Sat O Hf H (σ.set i (some v)) (Γ.set i (.d c x)) n where
  len := by rw [List.length_set, List.length_set]; exact S.len
  ex := S.ex
  at_ := fun j s h => by
    have lt : j < σ.length := by
      have := (List.getElem?_eq_some_iff.mp h).1
      rw [List.length_set] at this
      rw [S.len]; exact this
    rcases sget h with ⟨e, e2⟩ | ⟨e, h2⟩
    · subst e e2
      exact ⟨v, List.getElem?_set_self lt, r⟩
    · rw [List.getElem?_set_ne (Ne.symm e)]
      exact S.at_ j s h2
  sep := fun j l sj sl a ne h1 h2 o1 o2 e => by
    rcases sget h1 with ⟨_, z⟩ | ⟨n1, h1⟩
    · subst z; cases o1
    rcases sget h2 with ⟨_, z⟩ | ⟨n2, h2⟩
    · subst z; cases o2
    rw [List.getElem?_set_ne (Ne.symm n1)] at e
    rw [List.getElem?_set_ne (Ne.symm n2)]
    exact S.sep j l sj sl a ne h1 h2 o1 o2 e
  fr := S.fr
  mine := fun a ⟨j, s, h1, h2, h3⟩ => by
    rcases sget h1 with ⟨_, z⟩ | ⟨n1, h1⟩
    · subst z; cases h2
    rw [List.getElem?_set_ne (Ne.symm n1)] at h3
    exact S.mine a ⟨j, s, h1, h2, h3⟩
/-- what is known of the slots may be less; a slot that is not known may hold anything -/
theorem Sat.weaken {σ' : Stt} {Γ' : Ctxt} (S : Sat O Hf H σ Γ n) (hl : σ'.length = Γ'.length) (h : ∀ (i : Nat) s, Γ'[i]? = some s → s = .un ∨ (Γ[i]? = some s ∧ σ'[i]? = σ[i]?)) : Sat O Hf H σ' Γ' n where
  len := hl
  ex := S.ex
  at_ := fun i s e => by
    rcases h i s e with z | ⟨h1, h2⟩
    · subst z; trivial
    · rw [h2]; exact S.at_ i s h1
  sep := fun i j si sj a ne h1 h2 o1 o2 e => by
    rcases h i si h1 with z | ⟨g1, e1⟩
    · subst z; cases o1
    rcases h j sj h2 with z | ⟨g2, e2⟩
    · subst z; cases o2
    rw [e2]
    exact S.sep i j si sj a ne g1 g2 o1 o2 (by rw [← e1]; exact e)
  fr := S.fr
  mine := fun a ⟨j, s, h1, h2, h3⟩ => by
    rcases h j s h1 with z | ⟨g1, e1⟩
    · subst z; cases h2
    exact S.mine a ⟨j, s, g1, h2, by rw [← e1]; exact h3⟩
def wipeC (Γ : Ctxt) : List Nat → Ctxt
  | [] => Γ
  | v :: vs => (wipeC Γ vs).set v .un
theorem wipeC_length (Γ : Ctxt) : ∀ vs : List Nat, (wipeC Γ vs).length = Γ.length
  | [] => rfl
  | v :: vs => by unfold wipeC; rw [List.length_set, wipeC_length Γ vs]
theorem wipe_at {i : Nat} {s : Sl} : ∀ {vs : List Nat}, (wipeC Γ vs)[i]? = some s → s = .un ∨ (Γ[i]? = some s ∧ (wipe σ vs)[i]? = σ[i]?)
  | [], h => .inr ⟨h, rfl⟩
  | v :: vs, h => by
    unfold wipeC at h
    rcases sget h with ⟨_, z⟩ | ⟨ne, h⟩
    · exact .inl z
    rcases wipe_at h with z | ⟨h1, h2⟩
    · exact .inl z
    · refine .inr ⟨h1, ?_⟩
      unfold wipe
      rw [List.getElem?_set_ne (Ne.symm ne)]; exact h2
theorem Sat.wipe (S : Sat O Hf H σ Γ n) (vs : List Nat) : Sat O Hf H (wipe σ vs) (wipeC Γ vs) n :=
  S.weaken (by rw [wipe_length, wipeC_length]; exact S.len) fun _ _ h => wipe_at h
/-- a list of one's own stays as it is from now on -/
theorem Sat.freeze (S : Sat O Hf H σ Γ n) {i : Nat} {c : Cod α} {xs : List α} (h : Γ[i]? = some (.l c xs)) :
    ∃ a vs, σ[i]? = some (some (V.ref a)) ∧ H a = some (.lst vs) ∧ Hf a = none ∧ ¬ Bx Γ a ∧ (∀ (j : Nat) s, j ≠ i → Γ[j]? = some s → s.own = true → σ[j]? ≠ some (some (V.ref a))) ∧ (cList c).rep (upd Hf a (.lst vs)) (.ref a) xs ∧ Sat O (upd Hf a (.lst vs)) H σ (Γ.set i (.d (cList c) xs)) n := by
  obtain ⟨a, vs, h1, h2, h3, h4, h5⟩ := S.at_ i _ h
  have e1 : Ex Hf (upd Hf a (.lst vs)) := Ex.new h3
  have oth : ∀ (j : Nat) s, j ≠ i → Γ[j]? = some s → s.own = true → σ[j]? ≠ some (some (V.ref a)) := fun j s ne hs o => S.sep i j _ s a (Ne.symm ne) h hs rfl o h1
  have rp : (cList c).rep (upd Hf a (.lst vs)) (.ref a) xs := ⟨a, vs, rfl, upd_same, paired_mono h4 (fun _ _ q => c.mono e1 q), h5⟩
  refine ⟨a, vs, h1, h2, h3, S.lNe h h1, oth, rp, ?_, ?_, ?_, ?_, ?_, ?_⟩
  · rw [List.length_set]; exact S.len
  · intro b o e
    by_cases q : b = a
    · subst q; rw [upd_same] at e; cases e; exact h2
    · rw [upd_ne q] at e; exact S.ex b o e
  · intro j s hs
    rcases sget hs with ⟨e, z⟩ | ⟨ne, hs⟩
    · subst e z; exact ⟨_, h1, rp⟩
    · have q := S.at_ j s hs
      cases s with
      | un => trivial
      | d c' x => obtain ⟨v, g1, g2⟩ := q; exact ⟨v, g1, c'.mono e1 g2⟩
      | l c' ys =>
        obtain ⟨a', vs', g1, g2, g3, g4, g5⟩ := q
        have nea : a' ≠ a := fun z => by subst z; exact oth j _ ne hs rfl g1
        exact ⟨a', vs', g1, g2, by rw [upd_ne nea]; exact g3, paired_mono g4 (fun _ _ r => c'.mono e1 r), g5⟩
      | bx b =>
        obtain ⟨g1, g2, g3⟩ := q
        have nea : b ≠ a := fun z => by subst z; exact oth j _ ne hs rfl g1
        exact ⟨g1, by rw [upd_ne nea]; exact g2, g3⟩
      | r p =>
        obtain ⟨a', o', g1, g2, g3, g4⟩ := q
        have nea : a' ≠ a := fun z => by subst z; exact oth j _ ne hs rfl g1
        exact ⟨a', o', g1, g2, by rw [upd_ne nea]; exact g3, p.mono e1 g4⟩
  · intro j l sj sl b ne g1 g2 o1 o2 e
    rcases sget g1 with ⟨_, z⟩ | ⟨_, g1⟩
    · subst z; cases o1
    rcases sget g2 with ⟨_, z⟩ | ⟨_, g2⟩
    · subst z; cases o2
    exact S.sep j l sj sl b ne g1 g2 o1 o2 e
  · refine ⟨S.fr.ex.trans e1, S.fr.keep, fun b o e nm z => ?_, S.fr.dom⟩
    have nb : b ≠ a := fun q => by
      subst q
      rcases S.mine b ⟨i, _, h, rfl, h1⟩ with w | w
      · exact nm w
      · rw [w] at e; cases e
    rw [upd_ne nb]; exact S.fr.fz b o e nm z
  · intro b ⟨j, s, g1, g2, g3⟩
    rcases sget g1 with ⟨_, z⟩ | ⟨_, g1⟩
    · subst z; cases g2
    exact S.mine b ⟨j, s, g1, g2, g3⟩
end
/-! ### statements -/
structure Fin (O : Org) (Γ : Ctxt) (Hf Hf' H' : Hp) (σ' : Stt) (Γ' : Ctxt) (m : Nat) : Prop where
  sat : Sat O Hf' H' σ' Γ' m
  bx : BxKeep Γ Γ'
  ex : Ex Hf Hf'
/-- where a block may lead: on, to a break, to a continue; what it may return -/
structure Po (ρ : Type) where
  N : Ctxt → Prop
  bk : Ctxt → Prop
  ct : Ctxt → Prop
  c : Cod ρ
  R : ρ → Prop
def HS {ρ : Type} (ts : TS) (Γ : Ctxt) (k : Nat) (p : Po ρ) : Prop :=
  ∀ (O : Org) (n : Nat) (σ : Stt) (Hf H : Hp), n + k ≤ LIM → Sat O Hf H σ Γ n → ∀ D : Ends,
    (∀ σ' Hf' H' Γ', p.N Γ' → Fin O Γ Hf Hf' H' σ' Γ' (n + k) → D.nx σ' H') → (∀ σ' Hf' H' Γ', p.bk Γ' → Fin O Γ Hf Hf' H' σ' Γ' (n + k) → D.bk σ' H') →
    (∀ σ' Hf' H' Γ', p.ct Γ' → Fin O Γ Hf Hf' H' σ' Γ' (n + k) → D.ct σ' H') → (∀ v σ' Hf' H' Γ' x, p.R x → p.c.rep Hf' v x → Fin O Γ Hf Hf' H' σ' Γ' (n + k) → D.rt v H') → ts D σ H
section
variable {Γ : Ctxt} {k k1 k2 k3 : Nat} {α β γ ρ : Type} {c : Cod α} {P : α → Prop} {te : TE} {tt : TT} {t u : TS} {p : Po ρ} {N N' : Ctxt → Prop}
theorem Fin.le {O : Org} {Γ' : Ctxt} {Hf Hf' H' : Hp} {σ' : Stt} {m m' : Nat} (f : Fin O Γ Hf Hf' H' σ' Γ' m) (l : m ≤ m') : Fin O Γ Hf Hf' H' σ' Γ' m' := ⟨f.sat.le l, f.bx, f.ex⟩
theorem HS.le (h : HS t Γ k p) (l : k ≤ k2) : HS t Γ k2 p := fun O n σ Hf H hn S D q1 q2 q3 q4 =>
  h O n σ Hf H (by omega) S D (fun _ _ _ _ a f => q1 _ _ _ _ a (f.le (by omega))) (fun _ _ _ _ a f => q2 _ _ _ _ a (f.le (by omega))) (fun _ _ _ _ a f => q3 _ _ _ _ a (f.le (by omega))) fun _ _ _ _ _ _ a r f => q4 _ _ _ _ _ _ a r (f.le (by omega))
theorem HS.imp (h : HS t Γ k { p with N := N }) (hp : ∀ Γ', N Γ' → N' Γ') : HS t Γ k { p with N := N' } := fun O n σ Hf H hn S D q1 q2 q3 q4 =>
  h O n σ Hf H hn S D (fun _ _ _ _ a f => q1 _ _ _ _ (hp _ a) f) q2 q3 q4
theorem hs_next (h : p.N Γ) : HS tNext Γ 0 p := fun O n σ Hf H _ S D q1 _ _ _ => q1 σ Hf H Γ h ⟨S, .refl, Ex.rfl'⟩
theorem hs_seq (h1 : HS t Γ k1 { p with N := N }) (h2 : ∀ Γ1, N Γ1 → HS u Γ1 k2 p) : HS (tSeq t u) Γ (k1 + k2) p := fun O n σ Hf H hn S D q1 q2 q3 q4 =>
  h1 O n σ Hf H (by omega) S { D with nx := u D } (fun σ1 Hf1 H1 Γ1 a f => h2 Γ1 a O (n + k1) σ1 Hf1 H1 (by omega) f.sat D
      (fun _ _ _ _ b g => q1 _ _ _ _ b ⟨by rw [← Nat.add_assoc]; exact g.sat, f.bx.trans g.bx, f.ex.trans g.ex⟩) (fun _ _ _ _ b g => q2 _ _ _ _ b ⟨by rw [← Nat.add_assoc]; exact g.sat, f.bx.trans g.bx, f.ex.trans g.ex⟩)
      (fun _ _ _ _ b g => q3 _ _ _ _ b ⟨by rw [← Nat.add_assoc]; exact g.sat, f.bx.trans g.bx, f.ex.trans g.ex⟩) fun _ _ _ _ _ _ b r g => q4 _ _ _ _ _ _ b r ⟨by rw [← Nat.add_assoc]; exact g.sat, f.bx.trans g.bx, f.ex.trans g.ex⟩)
    (fun _ _ _ _ a f => q2 _ _ _ _ a (f.le (by omega))) (fun _ _ _ _ a f => q3 _ _ _ _ a (f.le (by omega))) fun _ _ _ _ _ _ a r f => q4 _ _ _ _ _ _ a r (f.le (by omega))
theorem hs_if {b : Bool → Prop} (ht : TDT tt Γ k1 b) (ha : b true → HS t Γ k2 p) (hb : b false → HS u Γ k3 p) : HS (tIfS tt t u) Γ (k1 + max k2 k3) p := fun O n σ Hf H hn S D q1 q2 q3 q4 =>
  ht O n σ Hf H (by omega) S _ fun d Hf1 H1 pd f1 S1 => by
    cases d with
    | true =>
      rw [if_pos rfl]
      exact (ha pd).le (Nat.le_max_left k2 k3) O (n + k1) σ Hf1 H1 (by omega) S1 D (fun _ _ _ _ a f => q1 _ _ _ _ a ⟨by rw [← Nat.add_assoc]; exact f.sat, f.bx, f1.ex.trans f.ex⟩) (fun _ _ _ _ a f => q2 _ _ _ _ a ⟨by rw [← Nat.add_assoc]; exact f.sat, f.bx, f1.ex.trans f.ex⟩)
        (fun _ _ _ _ a f => q3 _ _ _ _ a ⟨by rw [← Nat.add_assoc]; exact f.sat, f.bx, f1.ex.trans f.ex⟩) fun _ _ _ _ _ _ a r f => q4 _ _ _ _ _ _ a r ⟨by rw [← Nat.add_assoc]; exact f.sat, f.bx, f1.ex.trans f.ex⟩
    | false =>
      rw [if_neg Bool.false_ne_true]
      exact (hb pd).le (Nat.le_max_right k2 k3) O (n + k1) σ Hf1 H1 (by omega) S1 D (fun _ _ _ _ a f => q1 _ _ _ _ a ⟨by rw [← Nat.add_assoc]; exact f.sat, f.bx, f1.ex.trans f.ex⟩) (fun _ _ _ _ a f => q2 _ _ _ _ a ⟨by rw [← Nat.add_assoc]; exact f.sat, f.bx, f1.ex.trans f.ex⟩)
        (fun _ _ _ _ a f => q3 _ _ _ _ a ⟨by rw [← Nat.add_assoc]; exact f.sat, f.bx, f1.ex.trans f.ex⟩) fun _ _ _ _ _ _ a r f => q4 _ _ _ _ _ _ a r ⟨by rw [← Nat.add_assoc]; exact f.sat, f.bx, f1.ex.trans f.ex⟩
theorem hs_ret (h : TD te Γ k c P) (hr : ∀ H v x, P x → c.rep H v x → ∃ y, p.R y ∧ p.c.rep H v y) : HS (tRet te) Γ k p := fun O n σ Hf H hn S D _ _ _ q4 =>
  h O n σ Hf H hn S _ fun v Hf' H' x px r f s => by
    obtain ⟨y, py, ry⟩ := hr Hf' v x px r
    exact q4 v σ Hf' H' Γ y py ry ⟨s, .refl, f.ex⟩
theorem hs_set {i : Nat} (h : TD te Γ k c P) (nb : NoBx Γ i) (hp : ∀ x, P x → p.N (Γ.set i (.d c x))) : HS (tAsg te (gName i)) Γ k p := fun O n σ Hf H hn S D q1 _ _ _ =>
  h O n σ Hf H hn S _ fun v Hf' H' x px r f s => q1 _ Hf' H' _ (hp x px) ⟨s.set r, bxKeep_set nb, f.ex⟩
end
end DL

set_option Elab.async false
set_option linter.all false
set_option maxRecDepth 100000
set_option maxHeartbeats 2000000
namespace DL
open PySem PySem.Spec L2
/-! ### what is walked -/
structure Walks {α : Type} (J : It) (Hf : Hp) (c : Cod α) (xs : List α) : Prop where
  go : ∀ (Hf' H' : Hp) (i : Nat), Ex Hf Hf' → Ex Hf' H' → i < xs.length → J.go i H'
  stop : ∀ (Hf' H' : Hp), Ex Hf Hf' → Ex Hf' H' → J.stop xs.length H'
  yld : ∀ (Hf' H' : Hp) (i : Nat) (v : V) (H1 : Hp) (x : α), Ex Hf Hf' → Ex Hf' H' → J.yld i H' v H1 → xs[i]? = some x → ∃ Hf1, c.rep Hf1 v x ∧ Fr (fun _ => False) Hf' H' Hf1 H1 ∧ Ex Hf1 H1
def TW {α : Type} (wi : TI) (Γ : Ctxt) (k : Nat) (c : Cod α) (X : List α → Prop) : Prop :=
  ∀ (O : Org) (n : Nat) (σ : Stt) (Hf H : Hp), n + k ≤ LIM → Sat O Hf H σ Γ n → ∀ R : It → Hp → Prop,
    (∀ J Hf' H' xs, X xs → Walks J Hf' c xs → xs.length ≤ LB → Fr (Bx Γ) Hf H Hf' H' → Sat O Hf' H' σ Γ (n + k) → R J H') → wi σ H R
/-- a target takes a value -/
def GD {α : Type} (g : TG) (c : Cod α) (x : α) (Γ Γ' : Ctxt) (is : List Nat) : Prop :=
  BxKeep Γ Γ' ∧ (∀ a, Bx Γ' a → Bx Γ a) ∧ ∀ (O : Org) (n : Nat) (σ : Stt) (Hf H : Hp) (v : V), c.rep Hf v x → Sat O Hf H σ Γ n → ∀ Q : Stt → Hp → Prop,
    (∀ σ', Sat O Hf H σ' Γ' n → (∀ vs : List Nat, (∀ i ∈ is, i ∈ vs) → wipe σ' vs = wipe σ vs) → Q σ' H) → g v σ H Q
theorem wipe_in {σ : Stt} {j : Nat} : ∀ {vs : List Nat}, j ∈ vs → (wipe σ vs)[j]? = if j < σ.length then some none else none
  | [], h => nomatch h
  | w :: ws, h => by
    unfold wipe
    by_cases e : w = j
    · subst e
      by_cases hl : w < σ.length
      · rw [List.getElem?_set_self (by rw [wipe_length]; exact hl), if_pos hl]
      · rw [if_neg hl, List.getElem?_eq_none (by rw [List.length_set, wipe_length]; omega)]
    · rw [List.getElem?_set_ne e]
      exact wipe_in (List.mem_of_ne_of_mem (Ne.symm e) h)
theorem wipe_set {σ : Stt} {i : Nat} {v : Option V} {vs : List Nat} (h : i ∈ vs) : wipe (σ.set i v) vs = wipe σ vs := by
  apply List.ext_getElem?
  intro j
  by_cases hj : j ∈ vs
  · rw [wipe_in hj, wipe_in hj, List.length_set]
  · rw [wipe_out hj, wipe_out hj, List.getElem?_set_ne (fun e => hj (by rw [← e]; exact h))]
theorem boxLt {Γ : Ctxt} {i : Nat} {c : Type} {d : Cod c} {x : c} {a : Addr} (h : Bx (Γ.set i (.d d x)) a) : Bx Γ a := by
  obtain ⟨j, h⟩ := h
  rcases sget h with ⟨_, z⟩ | ⟨_, z⟩
  · cases z
  · exact ⟨j, z⟩
section
variable {Γ Γ1 Γ2 Γ3 : Ctxt} {k k1 k2 k3 kk : Nat} {α β γ ρ : Type} {c : Cod α} {c' : Cod β} {c1 : Cod α} {c2 : Cod β} {c3 : Cod γ} {P : α → Prop} {te : TE} {tt : TT} {t u : TS} {p : Po ρ} {N N' : Ctxt → Prop} {ta : TA} {wi : TI} {g g1 g2 g3 : TG}
theorem gd_name {i : Nat} {x : α} (nb : NoBx Γ i) : GD (gName i) c x Γ (Γ.set i (.d c x)) [i] :=
  ⟨bxKeep_set nb, fun a h => boxLt h, fun O n σ Hf H v r S Q q => q _ (S.set r) fun vs hi => wipe_set (hi i (by simp))⟩
theorem gd_t2 {K : PySem.W.Frag} {x : α × β} {is js : List Nat} (h1 : GD g1 c1 x.1 Γ Γ1 is) (h2 : GD g2 c2 x.2 Γ1 Γ2 js) : GD (gTup K 2 (gCons g1 (gCons g2 gNil))) (cT2 c1 c2) x Γ Γ2 (is ++ js) := by
  obtain ⟨b1, d1, h1⟩ := h1
  obtain ⟨b2, d2, h2⟩ := h2
  refine ⟨b1.trans b2, fun a h => d1 a (d2 a h), fun O n σ Hf H v r S Q q => ?_⟩
  obtain ⟨a, u, w, e1, e2, r1, r2⟩ := r
  refine ⟨a, [u, w], e1, SqT.of (S.ex _ _ e2), rfl, u, [w], rfl, h1 O n σ Hf H u r1 S _ fun σ1 S1 w1 => ⟨w, [], rfl, h2 O n σ1 Hf H w r2 S1 _ fun σ2 S2 w2 => ⟨rfl, q σ2 S2 fun vs hi => ?_⟩⟩⟩
  rw [w2 vs fun i m => hi i (List.mem_append_right _ m), w1 vs fun i m => hi i (List.mem_append_left _ m)]
/-! ### the walked things -/
theorem paired_get {F : V → α → Prop} : ∀ {vs : List V} {xs : List α} {i : Nat} {v : V} {x : α}, Paired F vs xs → vs[i]? = some v → xs[i]? = some x → F v x
  | _, _, i, v, x, .nil, h, _ => by simp at h
  | _, _, 0, v, x, .cons r _, h1, h2 => by simp at h1 h2; subst h1 h2; exact r
  | _, _, i + 1, v, x, .cons _ t, h1, h2 => paired_get (i := i) t (by simpa using h1) (by simpa using h2)
theorem tw_list {K : PySem.W.Frag} {X : List α → Prop} (h : TD te Γ k (cList c) X) : TW (iList K te) Γ k c X := fun O n σ Hf H hn S R q =>
  h O n σ Hf H hn S _ fun v Hf' H' xs px ⟨a, vs, e, ha, pr, lb⟩ f s => by
    have hl := paired_len pr
    refine ⟨a, e, ⟨vs, SqL.of (s.ex _ _ ha)⟩, q _ Hf' H' xs px ⟨fun Hf2 H2 i e1 e2 hi => ?_, fun Hf2 H2 e1 e2 => ⟨vs, SqL.of (e2 _ _ (e1 _ _ ha)), by omega⟩, fun Hf2 H2 i w H1 x e1 e2 hy hx => ?_⟩ (by omega) f s⟩
    · exact ⟨vs, vs[i]'(by omega), SqL.of (e2 _ _ (e1 _ _ ha)), List.getElem?_eq_getElem (by omega)⟩
    · obtain ⟨rfl, hy⟩ := hy
      exact ⟨Hf2, c.mono e1 (paired_get pr (hy vs (SqL.of (e2 _ _ (e1 _ _ ha)))) hx), Fr.refl, e2⟩
theorem tw_tup {K : PySem.W.Frag} {X : List α → Prop} (h : TD te Γ k (cTup c) X) : TW (iTup K te) Γ k c X := fun O n σ Hf H hn S R q =>
  h O n σ Hf H hn S _ fun v Hf' H' xs px ⟨a, vs, e, ha, pr, lb⟩ f s => by
    have hl := paired_len pr
    refine ⟨a, e, ⟨vs, SqT.of (s.ex _ _ ha)⟩, q _ Hf' H' xs px ⟨fun Hf2 H2 i e1 e2 hi => ?_, fun Hf2 H2 e1 e2 => ⟨vs, SqT.of (e2 _ _ (e1 _ _ ha)), by omega⟩, fun Hf2 H2 i w H1 x e1 e2 hy hx => ?_⟩ (by omega) f s⟩
    · exact ⟨vs, vs[i]'(by omega), SqT.of (e2 _ _ (e1 _ _ ha)), List.getElem?_eq_getElem (by omega)⟩
    · obtain ⟨rfl, hy⟩ := hy
      exact ⟨Hf2, c.mono e1 (paired_get pr (hy vs (SqT.of (e2 _ _ (e1 _ _ ha)))) hx), Fr.refl, e2⟩
/-- the numbers lo, lo + 1, .. -/
def rangeL (lo : Int) (n : Nat) : List Int := (List.range n).map fun (i : Nat) => lo + (i : Int)
theorem rangeL_len {lo : Int} {n : Nat} : (rangeL lo n).length = n := by unfold rangeL; rw [List.length_map, List.length_range]
theorem rangeL_get {lo : Int} {n i : Nat} {x : Int} (h : (rangeL lo n)[i]? = some x) : x = lo + (i : Int) := by
  unfold rangeL at h
  rw [List.getElem?_map] at h
  cases e : (List.range n)[i]? with
  | none => rw [e] at h; cases h
  | some j =>
    rw [e] at h
    have : j = i := by
      rw [List.getElem?_eq_some_iff] at e
      obtain ⟨h1, h2⟩ := e
      rw [List.getElem_range] at h2
      exact h2.symm
    subst this
    exact (Option.some.inj h).symm
theorem walks_r {Hf : Hp} {lo : Int} {n : Nat} : Walks (Itr lo n) Hf cInt (rangeL lo n) where
  go := fun _ _ i _ _ h => by rw [rangeL_len] at h; exact h
  stop := fun _ _ _ _ => by rw [rangeL_len]; exact Nat.le_refl n
  yld := fun Hf' H' i v H1 x e1 e2 hy hx => by
    obtain ⟨rfl, rfl⟩ := hy
    exact ⟨Hf', by rw [rangeL_get hx]; rfl, Fr.refl, e2⟩
theorem tw_range1 {B : Ctxt → Prop} {X : List Int → Prop} (h : TDA ta Γ k B) (hi : ∀ as, B as → ∃ j : Int, as = [.d cInt j] ∧ -4611686018427387904 ≤ j ∧ j ≤ 1000000 ∧ X (rangeL 0 j.toNat)) : TW (iRng1 ta) Γ k cInt X := fun O n σ Hf H hn S R q =>
  h O n σ Hf H hn S _ fun vs Hf' H' as b o _ f s => by
    obtain ⟨j, rfl, l1, l2, x⟩ := hi as b
    cases vs with
    | nil => exact o.elim
    | cons v vs =>
      cases vs with
      | cons _ _ => exact o.2.elim
      | nil =>
        obtain ⟨h1, _⟩ := o
        obtain rfl : v = .int j := h1
        exact ⟨j, rfl, by omega, by omega, q _ Hf' H' _ x walks_r (by rw [rangeL_len]; unfold LB; omega) f s⟩
/-! ### for -/
theorem take_snoc {l : List α} {i : Nat} {x : α} (h : l[i]? = some x) : l.take (i + 1) = l.take i ++ [x] := by rw [List.take_add_one, h]; rfl
theorem split_at {l : List α} {i : Nat} {x : α} (h : l[i]? = some x) : l = l.take i ++ x :: l.drop (i + 1) := by
  obtain ⟨h1, h2⟩ := List.getElem?_eq_some_iff.mp h
  subst h2
  rw [← List.drop_eq_getElem_cons h1, List.take_append_drop]
theorem hs_for {X : List α → Prop} {kn : Nat} (I : List α → List α → Ctxt → Prop) (hw : TW wi Γ k c X) (h0 : ∀ xs, X xs → I xs [] Γ) (hk : ∀ xs, X xs → xs.length * kk ≤ kn)
    (hs : ∀ xs, X xs → ∀ pre x post Γ1, xs = pre ++ x :: post → I xs pre Γ1 → ∃ Γ2 is, GD g c x Γ1 Γ2 is ∧ HS t Γ2 kk { N := I xs (pre ++ [x]), ct := I xs (pre ++ [x]), bk := p.N, c := p.c, R := p.R })
    (hd : ∀ xs Γ1, X xs → I xs xs Γ1 → p.N Γ1) : HS (tFor wi g t) Γ (k + kn) p := fun O n σ Hf H hn S D q1 q2 q3 q4 =>
  hw O n σ Hf H (by omega) S _ fun J Hf1 H1 xs px W lb f1 S1 => by
    have hk' := hk xs px
    have kle : ∀ i, i ≤ xs.length → i * kk ≤ kn := fun i hi => Nat.le_trans (Nat.mul_le_mul_right kk hi) hk'
    refine ⟨fun i m σ' H' => m = xs.length - i ∧ i ≤ xs.length ∧ ∃ Γ1 Hfi, I xs (xs.take i) Γ1 ∧ Fin O Γ Hf1 Hfi H' σ' Γ1 (n + k + i * kk),
      ⟨xs.length, by simp, Nat.zero_le _, Γ, Hf1, by rw [List.take_zero]; exact h0 xs px, by rw [Nat.zero_mul]; exact S1, .refl, Ex.rfl'⟩, ?_⟩
    rintro i m σ' H' ⟨rfl, hi, Γ1, Hfi, hI, F⟩
    have hki := kle i hi
    by_cases hlt : i < xs.length
    · have hx : xs[i]? = some xs[i] := List.getElem?_eq_getElem hlt
      have hki1 := kle (i + 1) hlt
      rw [Nat.succ_mul] at hki1
      refine .inr ⟨W.go Hfi H' i F.ex F.sat.ex hlt, fun σ2 H2 => ∃ Γ2 Hf2, I xs (xs.take (i + 1)) Γ2 ∧ Fin O Γ Hf1 Hf2 H2 σ2 Γ2 (n + k + (i + 1) * kk), fun σ2 H2 ⟨Γ2, Hf2, a, b⟩ => ⟨xs.length - (i + 1), by omega, rfl, hlt, Γ2, Hf2, a, b⟩, fun v H2 hy => ?_⟩
      obtain ⟨Hf2, rx, fy, ey⟩ := W.yld Hfi H' i v H2 _ F.ex F.sat.ex hy hx
      have S2 : Sat O Hf2 H2 σ' Γ1 (n + k + i * kk) := F.sat.grow0 fy ey
      obtain ⟨Γ2, is, gd, hb⟩ := hs xs px (xs.take i) xs[i] (xs.drop (i + 1)) Γ1 (split_at hx) hI
      have en : n + k + i * kk + kk = n + k + (i + 1) * kk := by rw [Nat.succ_mul]; omega
      refine gd.2.2 O _ σ' Hf2 H2 v rx S2 _ fun σ3 S3 _ => ?_
      have up : ∀ {σ4 : Stt} {Hf4 H4 : Hp} {Γ4 : Ctxt}, Fin O Γ2 Hf2 Hf4 H4 σ4 Γ4 (n + k + i * kk + kk) → Fin O Γ Hf1 Hf4 H4 σ4 Γ4 (n + k + (i + 1) * kk) := fun {σ4 Hf4 H4 Γ4} f => ⟨by rw [← en]; exact f.sat, (F.bx.trans gd.1).trans f.bx, (F.ex.trans fy.ex).trans f.ex⟩
      have up2 : ∀ {σ4 : Stt} {Hf4 H4 : Hp} {Γ4 : Ctxt}, Fin O Γ2 Hf2 Hf4 H4 σ4 Γ4 (n + k + i * kk + kk) → Fin O Γ Hf Hf4 H4 σ4 Γ4 (n + (k + kn)) := fun {σ4 Hf4 H4 Γ4} f => ⟨(up f).sat.le (by rw [Nat.succ_mul]; omega), (up f).bx, f1.ex.trans (up f).ex⟩
      refine hb O _ σ3 Hf2 H2 (by omega) S3 _ (fun σ4 Hf4 H4 Γ4 a f => ⟨Γ4, Hf4, by rw [take_snoc hx]; exact a, up f⟩) (fun σ4 Hf4 H4 Γ4 a f => q1 σ4 Hf4 H4 Γ4 a (up2 f)) (fun σ4 Hf4 H4 Γ4 a f => ⟨Γ4, Hf4, by rw [take_snoc hx]; exact a, up f⟩) (fun v4 σ4 Hf4 H4 Γ4 y a r f => q4 v4 σ4 Hf4 H4 Γ4 y a r (up2 f))
    · have e : i = xs.length := by omega
      subst e
      rw [List.take_length] at hI
      exact .inl ⟨W.stop Hfi H' F.ex F.sat.ex, q1 σ' Hfi H' Γ1 (hd xs Γ1 px hI) ⟨F.sat.le (by omega), F.bx, f1.ex.trans F.ex⟩⟩
end
end DL

set_option Elab.async false
set_option linter.all false
set_option maxRecDepth 100000
set_option maxHeartbeats 2000000
namespace DL
open PySem PySem.Spec L2
/-- a new list that nobody else has -/
def TDF {α : Type} (te : TE) (Γ : Ctxt) (k : Nat) (c : Cod α) (P : List α → Prop) : Prop :=
  ∀ (O : Org) (n : Nat) (σ : Stt) (Hf H : Hp), n + k ≤ LIM → Sat O Hf H σ Γ n → ∀ Q : VK,
    (∀ a vs Hf' H' xs, P xs → H' a = some (.lst vs) → Hf' a = none → H a = none → Paired (c.rep Hf') vs xs → vs.length ≤ LB → Fr (Bx Γ) Hf H Hf' H' → Sat O Hf' H' σ Γ (n + k) → Q (.ref a) H') → te σ H Q
section
variable {Γ Γ1 Γ2 Γ3 : Ctxt} {k k1 k2 k3 kk kt ke : Nat} {α β γ ρ : Type} {c : Cod α} {c' : Cod β} {c1 : Cod α} {c2 : Cod β} {c3 : Cod γ} {P : α → Prop} {te to : TE} {tt : TT} {t u : TS} {p : Po ρ} {N N' : Ctxt → Prop} {ta tx : TA} {wi : TI} {g g1 g2 g3 : TG}
variable {O : Org} {Hf H Hf' H' : Hp} {σ : Stt} {n m : Nat}
/-- an object of one's own becomes one that stays -/
theorem Fr.fix {M : Addr → Prop} {Hf H Hf' H' : Hp} {a : Addr} {o : HO} (f : Fr M Hf H Hf' H') (h0 : H a = none) (h1 : Hf' a = none) (h2 : H' a = some o) : Fr M Hf H (upd Hf' a o) H' where
  ex := f.ex.trans (Ex.new h1)
  keep := f.keep
  fz := fun b u e nm z => by rw [upd_ne (ne_of_none e h0)]; exact f.fz b u e nm z
  dom := f.dom
theorem Ex.fix {Hf H : Hp} {a : Addr} {o : HO} (e : Ex Hf H) (h : H a = some o) : Ex (upd Hf a o) H := fun b u q => by
  by_cases z : b = a
  · subst z; rw [upd_same] at q; cases q; exact h
  · rw [upd_ne z] at q; exact e b u q
theorem TDF.td {R : List α → Prop} (h : TDF te Γ k c R) : TD te Γ k (cList c) R := fun O n σ Hf H hn S Q q =>
  h O n σ Hf H hn S Q fun a vs Hf' H' xs p1 h1 h2 h3 pr lb f s => by
    have e1 : Ex Hf' (upd Hf' a (.lst vs)) := Ex.new h2
    refine q _ (upd Hf' a (.lst vs)) H' xs p1 ⟨a, vs, rfl, upd_same, paired_mono pr (fun _ _ z => c.mono e1 z), lb⟩ (f.fix h3 h2 h1) ?_
    have fr := f.fix h3 h2 h1
    refine S.grow fr (s.ex.fix h1) fun b hb => ?_
    obtain ⟨i, hi⟩ := hb
    obtain ⟨g1, g2, g3⟩ := s.at_ i _ hi
    refine ⟨?_, g3⟩
    have nb : b ≠ a := fun z => by
      subst z
      obtain ⟨_, _, z3⟩ := S.at_ i _ hi
      obtain ⟨_, _, _, _, z4, _⟩ := z3
      rw [h3] at z4; cases z4
    rw [upd_ne nb]; exact g2
theorem TDF.imp {R R' : List α → Prop} (h : TDF te Γ k c R) (hp : ∀ x, R x → R' x) : TDF te Γ k c R' := fun O n σ Hf H hn S Q q => h O n σ Hf H hn S Q fun a vs Hf' H' xs p1 => q a vs Hf' H' xs (hp xs p1)
theorem TDF.le {R : List α → Prop} (h : TDF te Γ k c R) (l : k ≤ k2) : TDF te Γ k2 c R := fun O n σ Hf H hn S Q q => h O n σ Hf H (by omega) S Q fun a vs Hf' H' xs p1 h1 h2 h3 h4 h5 f s => q a vs Hf' H' xs p1 h1 h2 h3 h4 h5 f (s.le (by omega))
theorem tdf_lst {B : Ctxt → Prop} {R : List α → Prop} (h : TDA tx Γ k B) (hi : ∀ as, B as → ∃ xs : List α, as = xs.map (fun x => Sl.d c x) ∧ xs.length ≤ 1000 ∧ R xs) : TDF (tLst tx) Γ k c R := fun O n σ Hf H hn S Q q =>
  h O n σ Hf H hn S _ fun vs Hf1 H1 as b o _ f1 S1 => by
    obtain ⟨xs, e, l, r⟩ := hi as b
    subst e
    have pr := args_items o
    refine ⟨by rw [paired_len pr]; exact Nat.le_trans l (by decide), fun p hp => ?_⟩
    exact q p vs Hf1 (upd H1 p (.lst vs)) xs r upd_same (S1.ex.back hp) (f1.dom p hp) pr (by rw [paired_len pr]; exact Nat.le_trans l (by decide))
      (f1.trans (Fr.newO (M := Bx Γ) hp) fun _ z => .inl z) (S1.grow0 (Fr.newO hp) (S1.ex.trans (Ex.new hp)))
/-! ### comprehensions -/
theorem bx_wipe {vs : List Nat} (h : ∀ i ∈ vs, NoBx Γ i) {a : Addr} : Bx (wipeC Γ vs) a ↔ Bx Γ a := by
  induction vs with
  | nil => exact Iff.rfl
  | cons v vs ih =>
    have ih := ih fun i hi => h i (List.mem_cons_of_mem _ hi)
    have hv := h v List.mem_cons_self
    rw [← ih]
    constructor
    · rintro ⟨j, hj⟩
      unfold wipeC at hj
      rcases sget hj with ⟨_, z⟩ | ⟨_, z⟩
      · cases z
      · exact ⟨j, z⟩
    · rintro ⟨j, hj⟩
      refine ⟨j, ?_⟩
      have ne : v ≠ j := fun z => by
        subst z
        have hj' := hj
        rcases wipe_at (σ := ([] : Stt)) hj' with w | ⟨w, _⟩
        · cases w
        · unfold NoBx at hv; rw [w] at hv; exact hv
      unfold wipeC
      rw [List.getElem?_set_ne ne]; exact hj
theorem wipeC_keep {vs : List Nat} (h : ∀ i ∈ vs, NoBx Γ i) : BxKeep Γ (wipeC Γ vs) := by
  induction vs with
  | nil => exact .refl
  | cons v vs ih =>
    have ih := ih fun i hi => h i (List.mem_cons_of_mem _ hi)
    intro j a hj
    have hv := h v List.mem_cons_self
    have ne : v ≠ j := fun z => by subst z; unfold NoBx at hv; rw [hj] at hv; exact hv
    unfold wipeC
    rw [List.getElem?_set_ne ne]; exact ih j a hj
theorem wipe_wipe {vs : List Nat} : wipe (wipe σ vs) vs = wipe σ vs := by
  apply List.ext_getElem?
  intro j
  by_cases hj : j ∈ vs
  · rw [wipe_in hj, wipe_in hj, wipe_length]
  · rw [wipe_out hj]
theorem tdf_lc {vs : List Nat} {X : List α → Prop} {kn : Nat} (I : List α → List α → List β → Prop) (hw : TW wi Γ k c X) (hv : ∀ i ∈ vs, NoBx Γ i) (h0 : ∀ xs, X xs → I xs [] []) (hk : ∀ xs, X xs → xs.length * (kt + ke) ≤ kn)
    (hs : ∀ xs, X xs → ∀ pre x post ys, xs = pre ++ x :: post → I xs pre ys → ∃ Γ1 is Pt, GD g c x (wipeC Γ vs) Γ1 is ∧ (∀ i ∈ is, i ∈ vs) ∧ TDT tt Γ1 kt Pt ∧
      (Pt true → TD te Γ1 ke c' fun y => I xs (pre ++ [x]) (ys ++ [y])) ∧ (Pt false → I xs (pre ++ [x]) ys)) :
    TDF (tLc wi g tt te vs) Γ (k + kn) c' (fun ys => ∃ xs, X xs ∧ I xs xs ys) := fun O n σ Hf H hn S Q q =>
  hw O n σ Hf H (by omega) S _ fun J Hf1 H1 xs px W lb f1 S1 D hD => by
    have hk' := hk xs px
    have kle : ∀ i, i ≤ xs.length → i * (kt + ke) ≤ kn := fun i hi => Nat.le_trans (Nat.mul_le_mul_right _ hi) hk'
    have hbx : ∀ a, Bx Γ a → a ≠ D := fun a ⟨i, hi⟩ z => by
      subst z
      obtain ⟨_, _, _, _, _, _, e, _⟩ := S1.at_ i _ hi
      rw [hD] at e; cases e
    have bx0 : ∀ a, Bx Γ a → Hf1 a = none ∧ BoxAt H1 a (n + k) := fun a ⟨i, hi⟩ => (S1.at_ i _ hi).2
    refine ⟨fun i m H' => m = xs.length - i ∧ i ≤ xs.length ∧ ∃ Hfi ys acc, I xs (xs.take i) ys ∧ Paired (c'.rep Hfi) acc ys ∧ acc.length ≤ i ∧ H' D = some (.lst acc) ∧ Hfi D = none ∧ Ex Hfi H' ∧ Fr (Bx Γ) Hf1 H1 Hfi H' ∧
        ∀ a, Bx Γ a → Hfi a = none ∧ BoxAt H' a (n + k + i * (kt + ke)),
      ⟨xs.length, by simp, Nat.zero_le _, Hf1, [], [], by rw [List.take_zero]; exact h0 xs px, .nil, Nat.le_refl _, upd_same, S1.ex.back hD, S1.ex.trans (Ex.new hD), Fr.newO hD, fun a ha => ⟨(bx0 a ha).1, by
        rw [Nat.zero_mul]; exact boxAt_ex (bx0 a ha).2 fun o e => by rw [upd_ne (hbx a ha)]; exact e⟩⟩, ?_⟩
    rintro i m H' ⟨rfl, hi, Hfi, ys, acc, hI, pr, al, hDi, hfD, ex, fr, hb⟩
    have Si : Sat O Hfi H' (wipe σ vs) (wipeC Γ vs) (n + k + i * (kt + ke)) := (S1.grow fr ex hb).wipe vs
    by_cases hlt : i < xs.length
    · have hx : xs[i]? = some xs[i] := List.getElem?_eq_getElem hlt
      have hki1 := kle (i + 1) hlt
      have en : n + k + i * (kt + ke) + (kt + ke) = n + k + (i + 1) * (kt + ke) := by rw [Nat.succ_mul]; omega
      refine .inr ⟨W.go Hfi H' i fr.ex ex hlt, fun H2 => ∃ Hfi ys acc, I xs (xs.take (i + 1)) ys ∧ Paired (c'.rep Hfi) acc ys ∧ acc.length ≤ i + 1 ∧ H2 D = some (.lst acc) ∧ Hfi D = none ∧ Ex Hfi H2 ∧ Fr (Bx Γ) Hf1 H1 Hfi H2 ∧
        ∀ a, Bx Γ a → Hfi a = none ∧ BoxAt H2 a (n + k + (i + 1) * (kt + ke)), fun H2 h2 => ⟨xs.length - (i + 1), by omega, rfl, hlt, h2⟩, fun v H2 hy => ?_⟩
      obtain ⟨Hf2, rx, fy, ey⟩ := W.yld Hfi H' i v H2 _ fr.ex ex hy hx
      have S2 : Sat O Hf2 H2 (wipe σ vs) (wipeC Γ vs) (n + k + i * (kt + ke)) := Si.grow0 fy ey
      obtain ⟨Γ1, is, Pt, gd, hin, ht, hT, hF⟩ := hs xs px (xs.take i) xs[i] (xs.drop (i + 1)) ys (split_at hx) hI
      have bx1 : ∀ a, Bx Γ1 a → Bx Γ a := fun a h => (bx_wipe hv).mp (gd.2.1 a h)
      have bx2 : ∀ a, Bx Γ a → Bx Γ1 a := fun a h => by
        obtain ⟨j, hj⟩ := (bx_wipe hv).mpr h
        exact ⟨j, gd.1 j a hj⟩
      have hD2 : H2 D = some (.lst acc) := fy.keep _ _ hDi id
      have hfD2 : Hf2 D = none := fy.fz _ _ hDi id hfD
      refine gd.2.2 O _ _ Hf2 H2 v rx S2 _ fun σ3 S3 w3 => ⟨(w3 vs hin).trans wipe_wipe, ?_⟩
      refine ht O _ σ3 Hf2 H2 (by omega) S3 _ fun b Hf3 H3 pb f3 S3' => ?_
      have nD1 : ¬ Bx Γ1 D := fun z => hbx D (bx1 D z) rfl
      have hD3 : H3 D = some (.lst acc) := f3.keep _ _ hD2 nD1
      have hfD3 : Hf3 D = none := f3.fz _ _ hD2 nD1 hfD2
      have F3 : Fr (Bx Γ) Hf1 H1 Hf3 H3 := (fr.trans fy fun _ z => z.elim).trans f3 fun a z => .inl (bx1 a z)
      cases b with
      | true =>
        rw [if_pos rfl]
        refine hT pb O _ σ3 Hf3 H3 (by omega) S3' _ fun y Hf4 H4 yx py ry f4 S4 => ?_
        have hD4 : H4 D = some (.lst acc) := f4.keep _ _ hD3 nD1
        have hfD4 : Hf4 D = none := f4.fz _ _ hD3 nD1 hfD3
        have F4 : Fr (Bx Γ) Hf1 H1 Hf4 H4 := F3.trans f4 fun a z => .inl (bx1 a z)
        refine ⟨acc, hD4, lb_lt (Nat.le_trans al (Nat.le_trans hi lb)), Hf4, ys ++ [yx], acc ++ [y], by rw [take_snoc hx]; exact py, ?_, by rw [List.length_append, List.length_singleton]; omega, upd_same, hfD4, S4.ex.mut hfD4, ?_, fun a ha => ?_⟩
        · have e4 : Ex Hfi Hf4 := (fy.ex.trans f3.ex).trans f4.ex
          exact Paired.snoc (paired_mono pr fun _ _ z => c'.mono e4 z) ry
        · refine ⟨F4.ex, fun a o e nm => ?_, F4.fz, fun a e => ?_⟩
          · rw [upd_ne (ne_of_none e hD)]; exact F4.keep a o e nm
          · by_cases z : a = D
            · subst z; exact hD
            · rw [upd_ne z] at e; exact F4.dom a e
        · obtain ⟨j, hj⟩ := bx2 a ha
          obtain ⟨_, z1, z2⟩ := S4.at_ j _ hj
          exact ⟨z1, by rw [← en, show n + k + i * (kt + ke) + (kt + ke) = n + k + i * (kt + ke) + kt + ke by omega]; exact boxAt_ex z2 fun o e => by rw [upd_ne (hbx a ha)]; exact e⟩
      | false =>
        rw [if_neg Bool.false_ne_true]
        refine ⟨Hf3, ys, acc, by rw [take_snoc hx]; exact hF pb, paired_mono pr fun _ _ z => c'.mono (fy.ex.trans f3.ex) z, by omega, hD3, hfD3, S3'.ex, F3, fun a ha => ?_⟩
        obtain ⟨j, hj⟩ := bx2 a ha
        obtain ⟨_, z1, z2⟩ := S3'.at_ j _ hj
        exact ⟨z1, boxAt_le z2 (by rw [← en]; omega)⟩
    · have e : i = xs.length := by omega
      subst e
      rw [List.take_length] at hI
      have hkl := kle xs.length (Nat.le_refl _)
      exact .inl ⟨W.stop Hfi H' fr.ex ex, q D acc Hfi H' ys ⟨xs, px, hI⟩ hDi hfD (f1.dom D hD) pr (by omega) (f1.trans fr fun _ z => .inl z) ((S1.grow fr ex hb).le (by omega))⟩
def NoBxs (Γ : Ctxt) : List Nat → Prop
  | [] => True
  | i :: is => match Γ[i]? with
    | some (.bx _) => False
    | _ => NoBxs Γ is
theorem noBxs_mem : ∀ {vs : List Nat}, NoBxs Γ vs → ∀ i ∈ vs, NoBx Γ i
  | [], _, _, h => nomatch h
  | v :: vs, h, i, hi => by
    have hv : NoBx Γ v ∧ NoBxs Γ vs := by
      unfold NoBxs at h
      unfold NoBx
      split at h
      · exact h.elim
      · rename_i z
        refine ⟨?_, h⟩
        first
          | trivial
          | (split
             · rename_i a e; exact z a e
             · trivial)
    rcases List.mem_cons.mp hi with e | e
    · subst e; exact hv.1
    · exact noBxs_mem hv.2 i e
theorem Sat.forget (S : Sat O Hf H σ Γ n) (vs : List Nat) : Sat O Hf H σ (wipeC Γ vs) n :=
  S.weaken (by rw [wipeC_length]; exact S.len) fun i s h => (wipe_at (σ := σ) h).imp id fun q => ⟨q.1, rfl⟩
theorem Fin.forget {σ' : Stt} {Γ' : Ctxt} (f : Fin O Γ Hf Hf' H' σ' Γ' m) (vs : List Nat) (h : NoBxs Γ' vs) : Fin O Γ Hf Hf' H' σ' (wipeC Γ' vs) m := ⟨f.sat.forget vs, f.bx.trans (wipeC_keep (noBxs_mem h)), f.ex⟩
theorem HS.forget (vs : List Nat) (h : HS t Γ k { p with N := N }) (hp : ∀ Γ', N Γ' → NoBxs Γ' vs ∧ N' (wipeC Γ' vs)) : HS t Γ k { p with N := N' } := fun O n σ Hf H hn S D q1 q2 q3 q4 =>
  h O n σ Hf H hn S D (fun σ' Hf' H' Γ' a f => q1 σ' Hf' H' _ (hp Γ' a).2 (f.forget vs (hp Γ' a).1)) q2 q3 q4
theorem tt_yes : TDT tYes Γ 0 (· = true) := fun O n σ Hf H hn S Q q => q true Hf H rfl Fr.refl S
end
end DL

set_option Elab.async false
set_option linter.all false
set_option maxRecDepth 100000
set_option maxHeartbeats 2000000
namespace DL
open PySem PySem.Spec L2
section
variable {Γ Γ1 Γ2 Γ3 : Ctxt} {k k1 k2 k3 kk kt ke : Nat} {α β γ ρ : Type} {c : Cod α} {c' : Cod β} {c1 : Cod α} {c2 : Cod β} {c3 : Cod γ} {P : α → Prop} {te to ti : TE} {tt : TT} {t u : TS} {p : Po ρ} {N N' : Ctxt → Prop} {ta tx : TA} {wi : TI} {g g1 g2 g3 : TG}
variable {O : Org} {Hf H Hf' H' : Hp} {σ : Stt} {n m : Nat}
/-! ### lists of one's own -/
/-- a slot takes a new list that nobody else has -/
theorem Sat.setL (S : Sat O Hf H σ Γ n) {i : Nat} {c : Cod α} {xs : List α} {a : Addr} {vs : List V} (h1 : H a = some (.lst vs)) (h2 : Hf a = none) (pr : Paired (c.rep Hf) vs xs) (lb : vs.length ≤ LB)
    (h3 : ∀ (j : Nat) s, j ≠ i → Γ[j]? = some s → s.own = true → σ[j]? ≠ some (some (V.ref a))) (h4 : O.M a ∨ O.H a = none) : Sat O Hf H (σ.set i (some (.ref a))) (Γ.set i (.l c xs)) n where
  len := by rw [List.length_set, List.length_set]; exact S.len
  ex := S.ex
  at_ := fun j s h => by
    have lt : j < σ.length := by
      have := (List.getElem?_eq_some_iff.mp h).1
      rw [List.length_set] at this
      rw [S.len]; exact this
    rcases sget h with ⟨e, e2⟩ | ⟨e, hh⟩
    · subst e e2
      exact ⟨a, vs, List.getElem?_set_self lt, h1, h2, pr, lb⟩
    · rw [List.getElem?_set_ne (Ne.symm e)]
      exact S.at_ j s hh
  sep := fun j l sj sl b ne g1 g2 o1 o2 e => by
    rcases sget g1 with ⟨z, z2⟩ | ⟨n1, g1'⟩
    · subst z
      rcases sget g2 with ⟨w, _⟩ | ⟨n2, g2⟩
      · exact absurd w.symm ne
      have lt : j < σ.length := by
        have := (List.getElem?_eq_some_iff.mp e).1
        rw [List.length_set] at this; exact this
      rw [List.getElem?_set_self lt] at e
      injection e with e; injection e with e; injection e with e
      subst e
      rw [List.getElem?_set_ne (Ne.symm n2)]
      exact h3 l sl n2 g2 o2
    · rw [List.getElem?_set_ne (Ne.symm n1)] at e
      rcases sget g2 with ⟨w, _⟩ | ⟨n2, g2⟩
      · subst w
        intro e'
        by_cases lt : l < σ.length
        · rw [List.getElem?_set_self lt] at e'
          injection e' with e'; injection e' with e'; injection e' with e'
          subst e'
          exact h3 j sj n1 g1' o1 e
        · rw [List.getElem?_eq_none (by rw [List.length_set]; omega)] at e'; cases e'
      · rw [List.getElem?_set_ne (Ne.symm n2)]
        exact S.sep j l sj sl b ne g1' g2 o1 o2 e
  fr := S.fr
  mine := fun b ⟨j, s, g1, g2, g3⟩ => by
    rcases sget g1 with ⟨z, z2⟩ | ⟨n1, g1⟩
    · subst z
      have lt : j < σ.length := by
        have := (List.getElem?_eq_some_iff.mp g3).1
        rw [List.length_set] at this; exact this
      rw [List.getElem?_set_self lt] at g3
      injection g3 with e; injection e with e; injection e with e
      subst e
      exact h4
    · rw [List.getElem?_set_ne (Ne.symm n1)] at g3
      exact S.mine b ⟨j, s, g1, g2, g3⟩
theorem Sat.setR (S : Sat O Hf H σ Γ n) {i : Nat} {p : OP} {a : Addr} {o : HO} (h1 : H a = some o) (h2 : Hf a = none) (hp : p.φ Hf a o)
    (h3 : ∀ (j : Nat) s, j ≠ i → Γ[j]? = some s → s.own = true → σ[j]? ≠ some (some (V.ref a))) (h4 : O.M a ∨ O.H a = none) : Sat O Hf H (σ.set i (some (.ref a))) (Γ.set i (.r p)) n where
  len := by rw [List.length_set, List.length_set]; exact S.len
  ex := S.ex
  at_ := fun j s h => by
    have lt : j < σ.length := by
      have := (List.getElem?_eq_some_iff.mp h).1
      rw [List.length_set] at this
      rw [S.len]; exact this
    rcases sget h with ⟨e, e2⟩ | ⟨e, hh⟩
    · subst e e2
      exact ⟨a, o, List.getElem?_set_self lt, h1, h2, hp⟩
    · rw [List.getElem?_set_ne (Ne.symm e)]
      exact S.at_ j s hh
  sep := fun j l sj sl b ne g1 g2 o1 o2 e => by
    rcases sget g1 with ⟨z, z2⟩ | ⟨n1, g1'⟩
    · subst z
      rcases sget g2 with ⟨w, _⟩ | ⟨n2, g2⟩
      · exact absurd w.symm ne
      have lt : j < σ.length := by
        have := (List.getElem?_eq_some_iff.mp e).1
        rw [List.length_set] at this; exact this
      rw [List.getElem?_set_self lt] at e
      injection e with e; injection e with e; injection e with e
      subst e
      rw [List.getElem?_set_ne (Ne.symm n2)]
      exact h3 l sl n2 g2 o2
    · rw [List.getElem?_set_ne (Ne.symm n1)] at e
      rcases sget g2 with ⟨w, _⟩ | ⟨n2, g2⟩
      · subst w
        intro e'
        by_cases lt : l < σ.length
        · rw [List.getElem?_set_self lt] at e'
          injection e' with e'; injection e' with e'; injection e' with e'
          subst e'
          exact h3 j sj n1 g1' o1 e
        · rw [List.getElem?_eq_none (by rw [List.length_set]; omega)] at e'; cases e'
      · rw [List.getElem?_set_ne (Ne.symm n2)]
        exact S.sep j l sj sl b ne g1' g2 o1 o2 e
  fr := S.fr
  mine := fun b ⟨j, s, g1, g2, g3⟩ => by
    rcases sget g1 with ⟨z, z2⟩ | ⟨n1, g1⟩
    · subst z
      have lt : j < σ.length := by
        have := (List.getElem?_eq_some_iff.mp g3).1
        rw [List.length_set] at this; exact this
      rw [List.getElem?_set_self lt] at g3
      injection g3 with e; injection e with e; injection e with e
      subst e
      exact h4
    · rw [List.getElem?_set_ne (Ne.symm n1)] at g3
      exact S.mine b ⟨j, s, g1, g2, g3⟩
theorem hs_setL {i : Nat} {R : List α → Prop} (h : TDF te Γ k c R) (nb : NoBx Γ i) (hp : ∀ xs, R xs → p.N (Γ.set i (.l c xs))) : HS (tAsg te (gName i)) Γ k p := fun O n σ Hf H hn S D q1 _ _ _ =>
  h O n σ Hf H hn S _ fun a vs Hf' H' xs rx h1 h2 h3 pr lb f s => q1 _ Hf' H' _ (hp xs rx) ⟨s.setL h1 h2 pr lb (fun j sl ne hj ho e => by
    obtain ⟨w1, o, w2⟩ := S.ownAt (a := a) ⟨j, sl, hj, ho, e⟩
    rw [h3] at w2; cases w2) (.inr (S.fr.dom a h3)), bxKeep_set nb, f.ex⟩
/-- the list in a slot is written -/
theorem Sat.wr (S : Sat O Hf H σ Γ n) {i : Nat} {c0 : Cod β} {zs : List β} (h : Γ[i]? = some (.l c0 zs)) {a : Addr} (e : σ[i]? = some (some (V.ref a))) {c : Cod α} {xs : List α} {vs : List V} (pr : Paired (c.rep Hf) vs xs) (lb : vs.length ≤ LB) :
    Sat O Hf (upd H a (.lst vs)) σ (Γ.set i (.l c xs)) n := by
  obtain ⟨a', vs', g1, g2, g3, g4, g5⟩ := S.at_ i _ h
  rw [e] at g1
  injection g1 with g1; injection g1 with g1; injection g1 with g1
  subst g1
  have oth : ∀ (j : Nat) s, j ≠ i → Γ[j]? = some s → s.own = true → σ[j]? ≠ some (some (V.ref a)) := fun j s ne hs o => S.sep i j _ s a (Ne.symm ne) h hs rfl o e
  refine ⟨by rw [List.length_set]; exact S.len, S.ex.mut g3, fun j s hs => ?_, fun j l sj sl b ne q1 q2 o1 o2 ee => ?_, ?_, fun b ⟨j, s, q1, q2, q3⟩ => ?_⟩
  · rcases sget hs with ⟨z, z2⟩ | ⟨ne, hs⟩
    · subst z z2
      exact ⟨a, vs, e, upd_same, g3, pr, lb⟩
    · have q := S.at_ j s hs
      cases s with
      | un => trivial
      | d c' x => exact q
      | l c' ys =>
        obtain ⟨a', vs', w1, w2, w3, w4, w5⟩ := q
        have nea : a' ≠ a := fun z => by subst z; exact oth j _ ne hs rfl w1
        exact ⟨a', vs', w1, by rw [upd_ne nea]; exact w2, w3, w4, w5⟩
      | bx b =>
        obtain ⟨w1, w2, w3⟩ := q
        have nea : b ≠ a := fun z => by subst z; exact oth j _ ne hs rfl w1
        exact ⟨w1, w2, boxAt_ex w3 fun o r => by rw [upd_ne nea]; exact r⟩
      | r p =>
        obtain ⟨a', o', w1, w2, w3, w4⟩ := q
        have nea : a' ≠ a := fun z => by subst z; exact oth j _ ne hs rfl w1
        exact ⟨a', o', w1, by rw [upd_ne nea]; exact w2, w3, w4⟩
  · have k1 : ∃ s, Γ[j]? = some s ∧ s.own = true := by
      rcases sget q1 with ⟨z, _⟩ | ⟨_, z⟩
      · subst z; exact ⟨_, h, rfl⟩
      · exact ⟨_, z, o1⟩
    have k2 : ∃ s, Γ[l]? = some s ∧ s.own = true := by
      rcases sget q2 with ⟨z, _⟩ | ⟨_, z⟩
      · subst z; exact ⟨_, h, rfl⟩
      · exact ⟨_, z, o2⟩
    obtain ⟨s1, y1, y2⟩ := k1
    obtain ⟨s2, y3, y4⟩ := k2
    exact S.sep j l s1 s2 b ne y1 y3 y2 y4 ee
  · have mine : O.M a ∨ O.H a = none := S.mine a ⟨i, _, h, rfl, e⟩
    refine ⟨S.fr.ex, fun b o q nm => ?_, S.fr.fz, fun b q => ?_⟩
    · have nb : b ≠ a := fun z => by
        subst z
        rcases mine with w | w
        · exact nm w
        · rw [w] at q; cases q
      rw [upd_ne nb]; exact S.fr.keep b o q nm
    · by_cases z : b = a
      · subst z; rw [upd_same] at q; cases q
      · rw [upd_ne z] at q; exact S.fr.dom b q
  · rcases sget q1 with ⟨z, _⟩ | ⟨_, z⟩
    · subst z
      exact S.mine b ⟨j, _, h, rfl, q3⟩
    · exact S.mine b ⟨j, s, z, q2, q3⟩
theorem Sat.wrR (S : Sat O Hf H σ Γ n) {i : Nat} {p0 : OP} (h : Γ[i]? = some (.r p0)) {a : Addr} (e : σ[i]? = some (some (V.ref a))) {p : OP} {o : HO} (hp : p.φ Hf a o) :
    Sat O Hf (upd H a o) σ (Γ.set i (.r p)) n := by
  obtain ⟨a', o', g1, g2, g3, g4⟩ := S.at_ i _ h
  rw [e] at g1
  injection g1 with g1; injection g1 with g1; injection g1 with g1
  subst g1
  have oth : ∀ (j : Nat) s, j ≠ i → Γ[j]? = some s → s.own = true → σ[j]? ≠ some (some (V.ref a)) := fun j s ne hs o => S.sep i j _ s a (Ne.symm ne) h hs rfl o e
  refine ⟨by rw [List.length_set]; exact S.len, S.ex.mut g3, fun j s hs => ?_, fun j l sj sl b ne q1 q2 o1 o2 ee => ?_, ?_, fun b ⟨j, s, q1, q2, q3⟩ => ?_⟩
  · rcases sget hs with ⟨z, z2⟩ | ⟨ne, hs⟩
    · subst z z2
      exact ⟨a, o, e, upd_same, g3, hp⟩
    · have q := S.at_ j s hs
      cases s with
      | un => trivial
      | d c' x => exact q
      | l c' ys =>
        obtain ⟨a', vs', w1, w2, w3, w4, w5⟩ := q
        have nea : a' ≠ a := fun z => by subst z; exact oth j _ ne hs rfl w1
        exact ⟨a', vs', w1, by rw [upd_ne nea]; exact w2, w3, w4, w5⟩
      | bx b =>
        obtain ⟨w1, w2, w3⟩ := q
        have nea : b ≠ a := fun z => by subst z; exact oth j _ ne hs rfl w1
        exact ⟨w1, w2, boxAt_ex w3 fun o r => by rw [upd_ne nea]; exact r⟩
      | r p =>
        obtain ⟨a', o', w1, w2, w3, w4⟩ := q
        have nea : a' ≠ a := fun z => by subst z; exact oth j _ ne hs rfl w1
        exact ⟨a', o', w1, by rw [upd_ne nea]; exact w2, w3, w4⟩
  · have k1 : ∃ s, Γ[j]? = some s ∧ s.own = true := by
      rcases sget q1 with ⟨z, _⟩ | ⟨_, z⟩
      · subst z; exact ⟨_, h, rfl⟩
      · exact ⟨_, z, o1⟩
    have k2 : ∃ s, Γ[l]? = some s ∧ s.own = true := by
      rcases sget q2 with ⟨z, _⟩ | ⟨_, z⟩
      · subst z; exact ⟨_, h, rfl⟩
      · exact ⟨_, z, o2⟩
    obtain ⟨s1, y1, y2⟩ := k1
    obtain ⟨s2, y3, y4⟩ := k2
    exact S.sep j l s1 s2 b ne y1 y3 y2 y4 ee
  · have mine : O.M a ∨ O.H a = none := S.mine a ⟨i, _, h, rfl, e⟩
    refine ⟨S.fr.ex, fun b o q nm => ?_, S.fr.fz, fun b q => ?_⟩
    · have nb : b ≠ a := fun z => by
        subst z
        rcases mine with w | w
        · exact nm w
        · rw [w] at q; cases q
      rw [upd_ne nb]; exact S.fr.keep b o q nm
    · by_cases z : b = a
      · subst z; rw [upd_same] at q; cases q
      · rw [upd_ne z] at q; exact S.fr.dom b q
  · rcases sget q1 with ⟨z, _⟩ | ⟨_, z⟩
    · subst z
      exact S.mine b ⟨j, _, h, rfl, q3⟩
    · exact S.mine b ⟨j, s, z, q2, q3⟩
/-- x.append(e) -/
theorem hs_append {K : PySem.W.Frag} {i : Nat} {xs : List α} (h : Γ[i]? = some (.l c xs)) (nb : NoBx Γ i) (he : TD te Γ k c P) (lb : xs.length + 1 ≤ LB) (hp : ∀ y, P y → p.N (Γ.set i (.l c (xs ++ [y])))) :
    HS (tDrop (tBM K "list" rAppend (tVar i) (tCons te tNil))) Γ k p := fun O n σ Hf H hn S D q1 _ _ _ => by
  obtain ⟨a, vs, h1, h2, h3, h4, h5⟩ := S.at_ i _ h
  refine ⟨.ref a, h1, .inl ⟨rfl, vs, SqL.of h2⟩, ?_⟩
  refine he O n σ Hf H hn S _ fun v Hf' H' y py ry f s => ?_
  obtain ⟨a', vs', w1, w2, w3, w4, w5⟩ := s.at_ i _ h
  rw [h1] at w1
  injection w1 with w1; injection w1 with w1; injection w1 with w1
  subst w1
  have hl := paired_len w4
  refine ⟨a, vs', v, rfl, rfl, w2, lb_lt w5, ?_⟩
  exact q1 σ Hf' _ _ (hp y py) ⟨s.wr h h1 (Paired.snoc w4 ry) (by rw [List.length_append, List.length_singleton]; omega), bxKeep_set nb, f.ex⟩
theorem paired_set {F : V → α → Prop} {v : V} {x : α} (r : F v x) : ∀ {vs : List V} {xs : List α} (i : Nat), Paired F vs xs → Paired F (vs.set i v) (xs.set i x)
  | _, _, _, .nil => .nil
  | _, _, 0, .cons _ t => .cons r t
  | _, _, i + 1, .cons q t => .cons q (paired_set r i t)
theorem paired_erase {F : V → α → Prop} : ∀ {vs : List V} {xs : List α} (i : Nat), Paired F vs xs → Paired F (vs.eraseIdx i) (xs.eraseIdx i)
  | _, _, _, .nil => .nil
  | _, _, 0, .cons _ t => t
  | _, _, i + 1, .cons q t => .cons q (paired_erase i t)
theorem ixN_seqI {n j : Nat} (h : j < n) : seqIndex? (j : Int) n = some j := by
  rw [seqIndex_of (by omega) (by omega)]
  simp
/-- y.append(x.pop(e)) -/
theorem hs_appendPop {K : PySem.W.Frag} {i j : Nat} {xs ys : List α} {Pi : Int → Prop} (hij : i ≠ j) (h : Γ[i]? = some (.l c ys)) (h' : Γ[j]? = some (.l c xs)) (nb : NoBx Γ i) (nb' : NoBx Γ j) (hi : TD ti Γ k cInt Pi) (lb : ys.length + 1 ≤ LB) (lb' : xs.length ≤ LB)
    (hp : ∀ z, Pi z → ∃ (l : Nat) (y : α), z = (l : Int) ∧ xs[l]? = some y ∧ p.N ((Γ.set j (.l c (xs.eraseIdx l))).set i (.l c (ys ++ [y])))) :
    HS (tDrop (tBM K "list" rAppend (tVar i) (tCons (tBM K "list" rPopAt (tVar j) (tCons ti tNil)) tNil))) Γ k p := fun O n σ Hf H hn S D q1 _ _ _ => by
  obtain ⟨a, vs, h1, h2, h3, h4, h5⟩ := S.at_ i _ h
  obtain ⟨b, us, e1, e2, e3, e4, e5⟩ := S.at_ j _ h'
  refine ⟨.ref a, h1, .inl ⟨rfl, vs, SqL.of h2⟩, ?_⟩
  refine ⟨.ref b, e1, .inl ⟨rfl, us, SqL.of e2⟩, ?_⟩
  refine hi O n σ Hf H hn S _ fun v Hf' H' z pz rz f s => ?_
  obtain ⟨l, y, rfl, hl, pn⟩ := hp z pz
  obtain rfl : v = .int (l : Int) := rz
  have hll : l < xs.length := (List.getElem?_eq_some_iff.mp hl).1
  obtain ⟨b', us', w1, w2, w3, w4, w5⟩ := s.at_ j _ h'
  rw [e1] at w1
  injection w1 with w1; injection w1 with w1; injection w1 with w1
  subst w1
  have hul := paired_len w4
  have hu : us'[l]? = some (us'[l]'(by omega)) := List.getElem?_eq_getElem (by omega)
  unfold LB at lb'
  refine ⟨b, us', (l : Int), l, us'[l]'(by omega), rfl, rfl, w2, by omega, by omega, ixN_seqI (by omega), hu, ?_⟩
  have s2 := s.wr h' e1 (paired_erase l w4) (by rw [List.length_eraseIdx]; split <;> omega)
  have h'' : (Γ.set j (.l c (xs.eraseIdx l)))[i]? = some (.l c ys) := by rw [List.getElem?_set_ne (Ne.symm hij)]; exact h
  obtain ⟨a', vs', x1, x2, x3, x4, x5⟩ := s2.at_ i _ h''
  rw [h1] at x1
  injection x1 with x1; injection x1 with x1; injection x1 with x1
  subst x1
  have hvl := paired_len x4
  refine ⟨a, vs', us'[l]'(by omega), rfl, rfl, x2, lb_lt x5, ?_⟩
  have nb2 : NoBx (Γ.set j (.l c (xs.eraseIdx l))) i := by unfold NoBx; rw [h'']; trivial
  exact q1 σ Hf' _ _ pn ⟨s2.wr h'' h1 (Paired.snoc x4 (paired_get w4 hu hl)) (by rw [List.length_append, List.length_singleton]; omega), (bxKeep_set nb').trans (bxKeep_set nb2), f.ex⟩
/-! ### a list of one's own, only looked at -/
def Flat {α : Type} (c : Cod α) : Prop := ∀ (H H' : Hp) v x, c.rep H v x → c.rep H' v x
theorem Sat.view (S : Sat O Hf H σ Γ n) {i : Nat} {c : Cod α} {xs : List α} (h : Γ[i]? = some (.l c xs)) {Q : Hp → Prop}
    (run : ∀ Hf1, Sat O Hf1 H σ (Γ.set i (.d (cList c) xs)) n → (∀ Hf1' H', Fr (Bx (Γ.set i (.d (cList c) xs))) Hf1 H Hf1' H' → Sat O Hf1' H' σ (Γ.set i (.d (cList c) xs)) m →
      (∃ Hf', Fr (Bx Γ) Hf H Hf' H' ∧ Sat O Hf' H' σ Γ m)) → Q H) : Q H := by
  obtain ⟨a, vs, h1, h2, h3, nbx, oth, rp, S'⟩ := S.freeze h
  refine run _ S' fun Hf1' H' f s => ?_
  have bxe : ∀ b, Bx Γ b → Bx (Γ.set i (.d (cList c) xs)) b := fun b ⟨j, hj⟩ => ⟨j, by
    rw [List.getElem?_set_ne (fun z => by subst z; rw [h] at hj; cases hj)]; exact hj⟩
  have bxb : ∀ b, Bx (Γ.set i (.d (cList c) xs)) b → Bx Γ b := fun b hb => boxLt hb
  have F : Fr (Bx Γ) Hf H (fun b => if b = a then none else Hf1' b) H' := by
    refine ⟨fun b o e => ?_, fun b o e nm => f.keep b o e fun z => nm (bxb b z), fun b o e nm z => ?_, f.dom⟩
    · have nb := ne_of_none e h3
      show (if b = a then none else Hf1' b) = some o
      rw [if_neg nb]; exact f.ex b o (by rw [upd_ne nb]; exact e)
    · show (if b = a then none else Hf1' b) = none
      by_cases nb : b = a
      · rw [if_pos nb]
      · rw [if_neg nb]; exact f.fz b o e (fun w => nm (bxb b w)) (by rw [upd_ne nb]; exact z)
  refine ⟨_, F, S.grow F (fun b o e => ?_) fun b hb => ?_⟩
  · have e' : (if b = a then none else Hf1' b) = some o := e
    by_cases nb : b = a
    · rw [if_pos nb] at e'; cases e'
    · rw [if_neg nb] at e'; exact s.ex b o e'
  · obtain ⟨j, hj⟩ := bxe b hb
    obtain ⟨_, z2, z3⟩ := s.at_ j _ hj
    refine ⟨?_, z3⟩
    show (if b = a then none else Hf1' b) = none
    by_cases nb : b = a
    · rw [if_pos nb]
    · rw [if_neg nb]; exact z2
theorem tt_view {i : Nat} {xs : List α} {P : Bool → Prop} (h : Γ[i]? = some (.l c xs)) (ht : TDT tt (Γ.set i (.d (cList c) xs)) k P) : TDT tt Γ k P := fun O n σ Hf H hn S Q q => by
  refine S.view (m := n + k) h (Q := fun H => tt σ H Q) fun Hf1 S1 back => ?_
  refine ht O n σ Hf1 H hn S1 Q fun b Hf' H' px f s => ?_
  obtain ⟨Hf2, F, S2⟩ := back Hf' H' f s
  exact q b Hf2 H' px F S2
end
end DL

set_option Elab.async false
set_option linter.all false
set_option maxRecDepth 100000
set_option maxHeartbeats 2000000
namespace DL
open PySem PySem.Spec L2
/-! ### promises -/
/-- parameters: data, and at most one box; kf: how often it draws at most -/
def spD {A ρ : Type} (ps : Addr → A → Ctxt) (kf : A → Nat) (pre : A → Prop) (c : Cod ρ) (P : A → ρ → Prop) : Sp := fun vs H Q _ =>
  ∃ (a : A) (b : Addr) (n : Nat) (Hf : Hp), pre a ∧ n + kf a ≤ LIM ∧ Ex Hf H ∧ ArgsOk Hf vs (ps b a) ∧ (∀ z, Sl.bx z ∈ ps b a → Hf z = none ∧ BoxAt H z n) ∧
    ∀ v Hf' H' x, P a x → c.rep Hf' v x → Fr (fun z => Sl.bx z ∈ ps b a) Hf H Hf' H' → Ex Hf' H' → (∀ z, Sl.bx z ∈ ps b a → Hf' z = none ∧ BoxAt H' z (n + kf a)) → Q v H'
/-- .. that draws nothing and gives f of its arguments -/
abbrev spP {A ρ : Type} (ps : A → Ctxt) (pre : A → Prop) (c : Cod ρ) (f : A → ρ) : Sp := spD (fun _ => ps) (fun _ => 0) pre c (fun a x => x = f a)
/-- at most one box -/
def NoB : Ctxt → Prop
  | [] => True
  | .bx _ :: _ => False
  | _ :: r => NoB r
def OneB : Ctxt → Prop
  | [] => True
  | .bx _ :: r => NoB r
  | _ :: r => OneB r
theorem noB_at : ∀ {Γ : Ctxt} {i : Nat} {a : Addr}, NoB Γ → Γ[i]? ≠ some (.bx a)
  | [], i, a, _, h => by simp at h
  | s :: r, 0, a, h, e => by
    simp at e
    subst e
    exact h
  | s :: r, i + 1, a, h, e => by
    have h' : NoB r := by cases s <;> first | exact h | exact h.elim
    exact noB_at (i := i) h' (by simpa using e)
theorem oneB_at : ∀ {Γ : Ctxt} {i j : Nat} {a b : Addr}, OneB Γ → Γ[i]? = some (.bx a) → Γ[j]? = some (.bx b) → i = j
  | [], i, _, _, _, _, h, _ => by simp at h
  | s :: r, 0, 0, _, _, _, _, _ => rfl
  | s :: r, 0, j + 1, a, b, h, e, e2 => by
    simp at e
    subst e
    exact absurd (show r[j]? = some (.bx b) by simpa using e2) (noB_at h)
  | s :: r, i + 1, 0, a, b, h, e, e2 => by
    simp at e2
    subst e2
    exact absurd (show r[i]? = some (.bx a) by simpa using e) (noB_at h)
  | s :: r, i + 1, j + 1, a, b, h, e, e2 => by
    have : i = j := by
      cases s with
      | bx z => exact absurd (show r[i]? = some (.bx a) by simpa using e) (noB_at h)
      | un => exact oneB_at (Γ := r) h (by simpa using e) (by simpa using e2)
      | d c x => exact oneB_at (Γ := r) h (by simpa using e) (by simpa using e2)
      | l c x => exact oneB_at (Γ := r) h (by simpa using e) (by simpa using e2)
      | r p => exact oneB_at (Γ := r) h (by simpa using e) (by simpa using e2)
    rw [this]
section
variable {Γ Γ1 Γ2 Γ3 : Ctxt} {k k1 k2 k3 kk kt ke : Nat} {A α β γ ρ : Type} {c : Cod α} {c' : Cod β} {cr : Cod ρ} {c1 : Cod α} {c2 : Cod β} {c3 : Cod γ} {P : α → Prop} {te to ti : TE} {tt : TT} {t u : TS} {p : Po ρ} {ta tx : TA}
variable {O : Org} {Hf H Hf' H' : Hp} {σ : Stt} {n m : Nat} {ps : Addr → A → Ctxt} {kf : A → Nat} {pre : A → Prop} {PR : A → ρ → Prop}
theorem argsOk_at : ∀ {vs : List V} {as : Ctxt} {i : Nat} {s : Sl}, ArgsOk Hf vs as → as[i]? = some s → (∃ α, ∃ (c : Cod α) (x : α) (v : V), s = .d c x ∧ vs[i]? = some v ∧ c.rep Hf v x) ∨ ∃ a, s = .bx a ∧ vs[i]? = some (.ref a)
  | [], [], i, s, _, e => by simp at e
  | [], _ :: _, i, s, h, e => h.elim
  | _ :: _, [], i, s, h, e => h.elim
  | v :: vs, s' :: as, 0, s, h, e => by
    simp at e
    subst e
    obtain ⟨h, _⟩ := h
    cases s' with
    | un => exact h.elim
    | d c x => exact .inl ⟨_, c, x, v, rfl, rfl, h⟩
    | l c x => exact h.elim
    | bx a =>
      have h : v = .ref a := h
      subst h
      exact .inr ⟨a, rfl, rfl⟩
    | r p => exact h.elim
  | v :: vs, s' :: as, i + 1, s, h, e => by
    have := argsOk_at (i := i) (s := s) h.2 (by simpa using e)
    simpa using this
theorem argsOk_len : ∀ {vs : List V} {as : Ctxt}, ArgsOk Hf vs as → vs.length = as.length
  | [], [], _ => rfl
  | [], _ :: _, h => h.elim
  | _ :: _, [], h => h.elim
  | _ :: _, _ :: _, h => by rw [List.length_cons, List.length_cons, argsOk_len h.2]
/-- what a callee leaves, seen by the caller -/
theorem Sat.called (S : Sat O Hf H σ Γ n) {as : Ctxt} {k : Nat} (hb : ∀ a, Sl.bx a ∈ as → Bx Γ a) (f : Fr (fun z => Sl.bx z ∈ as) Hf H Hf' H') (ex : Ex Hf' H') (bx : ∀ z, Sl.bx z ∈ as → Hf' z = none ∧ BoxAt H' z (n + k)) :
    Fr (Bx Γ) Hf H Hf' H' ∧ Sat O Hf' H' σ Γ (n + k) := by
  have F : Fr (Bx Γ) Hf H Hf' H' := f.mono fun a h => .inl (hb a h)
  refine ⟨F, S.grow F ex fun a ⟨i, hi⟩ => ?_⟩
  by_cases q : Sl.bx a ∈ as
  · exact bx a q
  · obtain ⟨_, z2, z3⟩ := S.at_ i _ hi
    have z4 := z3
    obtain ⟨_, _, _, _, e, _⟩ := z4
    exact ⟨f.fz a _ e q z2, boxAt_le (boxAt_ex z3 fun o r => f.keep a o r q) (by omega)⟩
theorem td_call {B : Ctxt → Prop} {P' : ρ → Prop} {E : XK} (h : TDA ta Γ k1 B) (hc : ∀ as, B as → ∃ a b, as = ps b a ∧ pre a ∧ kf a ≤ k2 ∧ ∀ x, PR a x → P' x) : TD (tCall (spD ps kf pre cr PR) [] E ta) Γ (k1 + k2) cr P' := fun O n σ Hf H hn S Q q =>
  h O n σ Hf H (by omega) S _ fun vs Hf1 H1 as b o hb f s => by
    obtain ⟨a, bb, e, pa, hk, hp⟩ := hc as b
    subst e
    refine ⟨a, bb, n + k1, Hf1, pa, by omega, s.ex, by rw [List.append_nil]; exact o, fun z hz => ?_, fun v Hf' H' x px r f2 ex bx => ?_⟩
    · obtain ⟨i, hi⟩ := hb z hz
      exact (s.at_ i _ hi).2
    · obtain ⟨F, S2⟩ := s.called hb f2 ex bx
      exact q v Hf' H' x (hp x px) r (f.trans F fun _ z => .inl z) (S2.le (by omega))
/-- instances: what the attributes say -/
def cIns (C : Addr) {ω : Type} (F : Hp → List (Str × V) → ω → Prop) (hm : ∀ {H H' fs y}, Ex H H' → F H fs y → F H' fs y) : Cod ω := ⟨fun H v y => ∃ a dx fs, v = .ref a ∧ H a = some (.ins C dx fs) ∧ F H fs y,
  fun e ⟨a, dx, fs, h1, h2, h3⟩ => ⟨a, dx, fs, h1, e _ _ h2, hm e h3⟩⟩
variable {C : Addr} {ω : Type} {F : Hp → List (Str × V) → ω → Prop} {hm : ∀ {H H' fs y}, Ex H H' → F H fs y → F H' fs y} {K : PySem.W.Frag}
theorem td_fld {f : Str} {y : ω → α} {Py : ω → Prop} (h : TD te Γ k (cIns C F hm) Py) (hC : Cls K C) (hN : NoAttr K C f) (hf : ∀ H fs y0, F H fs y0 → ∃ v, fs.lookup f = some v ∧ c.rep H v (y y0)) : TD (tFld K te f) Γ k c (fun x => ∃ z, Py z ∧ x = y z) := fun O n σ Hf H hn S Q q =>
  h O n σ Hf H hn S _ fun v Hf' H' z pz ⟨a, dx, fs, e1, e2, e3⟩ f s => by
    obtain ⟨w, l, r⟩ := hf _ _ _ e3
    exact ⟨a, C, dx, fs, w, e1, s.ex _ _ e2, hC, hN, l, q w Hf' H' _ ⟨z, pz, rfl⟩ r f s⟩
theorem td_meth {m : Str} {B : Ctxt → Prop} {P' : ρ → Prop} {Py : ω → Prop} {E : XK} (ho : TD te Γ k k1' Py) (hl : ∀ H fs y0, F H fs y0 → fs.lookup m = none) (h : TDA ta Γ k1 B) (hc : ∀ y as, Py y → B as → ∃ a b, .d k1' y :: as = ps b a ∧ pre a ∧ kf a ≤ k2 ∧ ∀ x, PR a x → P' x)
    (ek : k1' = cIns C F hm := by rfl) : TD (tMeth C m (spD ps kf pre cr PR) [] E te ta) Γ (k + k1 + k2) cr P' := fun O n σ Hf H hn S Q q => by
  subst ek
  refine ho O n σ Hf H (by omega) S _ fun v Hf0 H0 y py ry f0 s0 => ?_
  obtain ⟨a, dx, fs, e1, e2, e3⟩ := id ry
  refine ⟨a, dx, fs, e1, s0.ex _ _ e2, hl _ _ _ e3, ?_⟩
  refine h O (n + k) σ Hf0 H0 (by omega) s0 _ fun vs Hf1 H1 as b o hb f s => ?_
  obtain ⟨a', bb, e, pa, hk, hp⟩ := hc y as py b
  have hb' : ∀ z, Sl.bx z ∈ ps bb a' → Bx Γ z := fun z hz => by
    rw [← e] at hz
    rcases List.mem_cons.mp hz with w | w
    · cases w
    · exact hb z w
  refine ⟨a', bb, n + k + k1, Hf1, pa, by omega, s.ex, by rw [← e, List.append_nil]; exact ⟨(cIns C F hm).mono f.ex ry, o⟩, fun z hz => ?_, fun v' Hf' H' x px r f2 ex bx => ?_⟩
  · obtain ⟨i, hi⟩ := hb' z hz
    exact (s.at_ i _ hi).2
  · obtain ⟨F', S2⟩ := s.called hb' f2 ex bx
    exact q v' Hf' H' x (hp x px) r ((f0.trans f fun _ z => .inl z).trans F' fun _ z => .inl z) (S2.le (by omega))
/-! ### the making of an instance -/
/-- __init__'s promise: self is new, of the class at C, without attributes; behind it the attributes say y with P; nothing else of what stood is changed -/
def spI {A ω : Type} (C : Addr) (ps : A → Ctxt) (pre : A → Prop) (F : Hp → List (Str × V) → ω → Prop) (P : A → ω → Prop) : Sp := fun vs H Q _ =>
  ∃ (a : A) (x dx : Addr) (ws : List V) (Hf : Hp), pre a ∧ vs = .ref x :: ws ∧ H x = some (.ins C dx []) ∧ Hf x = none ∧ Ex Hf H ∧ ArgsOk Hf ws (ps a) ∧
    ∀ Hf' H' fs y, P a y → H' x = some (.ins C dx fs) → Hf' x = none → F Hf' fs y → Fr (fun z => z = x) Hf H Hf' H' → Ex Hf' H' → Q .non H'
theorem td_make {psi : A → Ctxt} {Pi : A → ω → Prop} {B : Ctxt → Prop} {P' : ω → Prop} {E : XK} (h : TDA ta Γ k1 B) (hc : ∀ as, B as → NoB as ∧ ∃ a, as = psi a ∧ pre a ∧ ∀ x, Pi a x → P' x) : TD (tMake C (spI C psi pre F Pi) [] E ta) Γ k1 (cIns C F hm) P' := fun O n σ Hf H hn S Q q =>
  h O n σ Hf H hn S _ fun vs Hf1 H1 as b o hb f s x dx hx hdx ne => by
    obtain ⟨nb, a, e, pa, hp⟩ := hc as b
    subst e
    have ex0 : Ex Hf1 (upd (upd H1 dx (.own x)) x (.ins C dx [])) := s.ex.trans ((Ex.new hdx).trans (Ex.new (by rw [upd_ne ne.symm]; exact hx)))
    have fx : Hf1 x = none := s.ex.back hx
    refine ⟨a, x, dx, vs, Hf1, pa, by rw [List.append_nil], upd_same, fx, ex0, o, fun Hf' H' fs y py hH hf hF fr ex => ⟨rfl, ?_⟩⟩
    have f1 : Fr (fun z => z = x) Hf1 H1 Hf' H' := by
      refine Fr.trans (M := fun z => z = x) (Fr.trans (M := fun z => z = x) (Hf1 := Hf1) (H1 := upd H1 dx (.own x)) (Fr.newO hdx) (Fr.newO (M := fun z => z = x) (by rw [upd_ne ne.symm]; exact hx)) fun _ z => .inl z) fr fun _ z => .inl z
    have f2 : Fr (Bx Γ) Hf1 H1 Hf' H' := f1.mono fun z e => .inr (by subst e; exact hx)
    have f3 : Fr (Bx Γ) Hf1 H1 (upd Hf' x (.ins C dx fs)) H' := f2.fix hx hf hH
    refine q _ _ _ y (hp y py) ⟨x, dx, fs, rfl, upd_same, hm (Ex.new hf) hF⟩ (f.trans f3 fun _ z => .inl z) ?_
    refine s.grow f3 (ex.fix hH) fun a' ⟨i, hi⟩ => ?_
    obtain ⟨_, z2, z3⟩ := s.at_ i _ hi
    have z4 := z3
    obtain ⟨_, _, _, _, e, _⟩ := z4
    have nx : a' ≠ x := ne_of_none e hx
    exact ⟨by rw [upd_ne nx]; exact f1.fz a' _ e nx z2, boxAt_ex z3 fun o r => f1.keep a' o r nx⟩
/-! ### a def's body -/
theorem ctx_at {as : Ctxt} {N : Nat} {i : Nat} {s : Sl} (h : (as ++ List.replicate N Sl.un)[i]? = some s) : as[i]? = some s ∨ s = .un := by
  by_cases hl : i < as.length
  · rw [List.getElem?_append_left hl] at h; exact .inl h
  · rw [List.getElem?_append_right (by omega)] at h
    exact .inr (List.eq_of_mem_replicate (List.mem_of_getElem? h))
theorem start_at {N : List Str} {vs : List V} {i : Nat} {v : V} (h : vs[i]? = some v) : (start N vs)[i]? = some (some v) := by
  unfold L2.start
  have hl : i < vs.length := (List.getElem?_eq_some_iff.mp h).1
  rw [List.getElem?_append_left (by rw [List.length_map]; exact hl), List.getElem?_map, h]; rfl
/-- the context at a def's entry -/
def entry (N : List Str) (as : Ctxt) : Ctxt := as ++ List.replicate (N.length - as.length) .un
theorem sat_entry {N : List Str} {vs : List V} {as : Ctxt} (hl : as.length ≤ N.length) (o : ArgsOk Hf vs as) (one : OneB as) (ex : Ex Hf H) (bx : ∀ z, Sl.bx z ∈ as → Hf z = none ∧ BoxAt H z n) :
    Sat ⟨fun z => Sl.bx z ∈ as, Hf, H⟩ Hf H (start N vs) (entry N as) n where
  len := by
    have := argsOk_len o
    unfold L2.start entry
    rw [List.length_append, List.length_append, List.length_map, List.length_replicate, List.length_replicate, this]
  ex := ex
  at_ := fun i s h => by
    rcases ctx_at h with h | h
    · rcases argsOk_at o h with ⟨α, c, x, v, rfl, hv, r⟩ | ⟨a, rfl, hv⟩
      · exact ⟨v, start_at hv, r⟩
      · have hm : Sl.bx a ∈ as := List.mem_of_getElem? h
        exact ⟨start_at hv, (bx a hm).1, (bx a hm).2⟩
    · subst h; trivial
  sep := fun i j si sj a ne h1 h2 o1 o2 e => by
    rcases ctx_at h1 with h1 | h1
    · rcases ctx_at h2 with h2 | h2
      · rcases argsOk_at o h1 with ⟨_, _, _, _, rfl, _⟩ | ⟨b, rfl, hv⟩
        · cases o1
        rcases argsOk_at o h2 with ⟨_, _, _, _, rfl, _⟩ | ⟨b', rfl, hv'⟩
        · cases o2
        exact absurd (oneB_at one h1 h2) ne
      · subst h2; cases o2
    · subst h1; cases o1
  fr := Fr.refl
  mine := fun a ⟨i, s, h1, h2, h3⟩ => by
    rcases ctx_at h1 with h1 | h1
    · rcases argsOk_at o h1 with ⟨_, _, _, _, rfl, _⟩ | ⟨b, rfl, hv⟩
      · cases h2
      · rw [start_at hv] at h3
        injection h3 with h3; injection h3 with h3; injection h3 with h3
        subst h3
        exact .inl (List.mem_of_getElem? h1)
    · subst h1; cases h2
/-- the reading of a body gives the promise -/
theorem body_ok {N : List Str} {vs : List V} {Q : VK} {ts : TS} {a : A} {b : Addr} (hl : (ps b a).length ≤ N.length) (one : OneB (ps b a)) (hn : n + kf a ≤ LIM) (ex : Ex Hf H) (o : ArgsOk Hf vs (ps b a)) (bx : ∀ z, Sl.bx z ∈ ps b a → Hf z = none ∧ BoxAt H z n)
    (q : ∀ v Hf' H' x, PR a x → cr.rep Hf' v x → Fr (fun z => Sl.bx z ∈ ps b a) Hf H Hf' H' → Ex Hf' H' → (∀ z, Sl.bx z ∈ ps b a → Hf' z = none ∧ BoxAt H' z (n + kf a)) → Q v H')
    (hs : HS ts (entry N (ps b a)) (kf a) { N := fun _ => False, bk := fun _ => False, ct := fun _ => False, c := cr, R := PR a }) : ts { nx := fun _ H' => Q .non H', rt := Q } (start N vs) H :=
  hs _ n _ Hf H hn (sat_entry hl o one ex bx) _ (fun _ _ _ _ z _ => z.elim) (fun _ _ _ _ z _ => z.elim) (fun _ _ _ _ z _ => z.elim) fun v σ' Hf' H' Γ' x px r f => q v Hf' H' x px r f.sat.fr f.sat.ex fun z hz => by
    obtain ⟨i, hi⟩ := List.getElem?_of_mem hz
    have hi' : (entry N (ps b a))[i]? = some (.bx z) := by
      unfold entry
      rw [List.getElem?_append_left (List.getElem?_eq_some_iff.mp hi).1]; exact hi
    exact (f.sat.at_ i _ (f.bx i z hi')).2
end
end DL

set_option Elab.async false
set_option linter.all false
set_option maxRecDepth 100000
set_option maxHeartbeats 2000000
namespace DL
open PySem PySem.Spec L2
/-! ### where a piece of the text stands -/
structure Stc where
  N : List Str
  sc : Scope
  K : PySem.W.Frag
  mg : Str → Option Value
  prog : Program
  w : World
  base : Heap
  lv : Nat
  fn : Str → Bool
  /-- it is known that nothing is being shown -/
  gd : Bool
structure Good (S : Stc) (X : Cx) : Prop where
  N : X.N = S.N
  sc : X.env.scope = S.sc
  K : X.K = S.K
  mg : X.mg = S.mg
  prog : X.prog = S.prog
  w : X.w = S.w
  base : X.base = S.base
  calm : X.calm = true
  room : Room S.lv X.A
  fn : X.fn = S.fn
  nox : X.xe = fun _ _ => False
  nd : S.N.Nodup
  gd : S.gd = true → X.A.guards = some []
abbrev Stc.blk (S : Stc) (scope : Scope) : Stc := { S with sc := relS scope S.sc, fn := fun x => scope.names.lookup x == some .cell, gd := false }
theorem Good.blk {S : Stc} {X : Cx} (G : Good S X) (scope : Scope) (s : Shared) (H : Hp) (C : Addr) (cl : List (Str × Addr)) (fp : List Addr) : Good (S.blk scope) (X.blk s H scope (compEnvC scope cl C X.env) fp) where
  N := G.N
  sc := by
    show relS scope X.env.scope = relS scope S.sc
    rw [G.sc]
  K := G.K
  mg := G.mg
  prog := G.prog
  w := G.w
  base := G.base
  calm := G.calm
  room := G.room
  fn := rfl
  nox := rfl
  nd := G.nd
  gd := fun h => nomatch h
variable {S : Stc} {X : Cx}
def tE (S : Stc) (e : Expr) : TE := fun σ H Q => ∃ t, (∀ X, Good S X → PE X e t) ∧ t σ H Q
def tT (S : Stc) (e : Expr) : TT := fun σ H Q => ∃ t, (∀ X, Good S X → PT X e t) ∧ t σ H Q
def tWt (S : Stc) (e : Expr) : TT := fun σ H Q => ∃ t, (∀ X, Good S X → PW X e t) ∧ t σ H Q
def tTs (S : Stc) (es : List Expr) : TT := fun σ H Q => ∃ t, (∀ X, Good S X → PTs X es t) ∧ t σ H Q
def tA (S : Stc) (es : List Expr) : TA := fun σ H Q => ∃ t, (∀ X, Good S X → PA X es t) ∧ t σ H Q
def tI (S : Stc) (tg e : Expr) : TI := fun σ H R => ∃ t, (∀ X, Good S X → PI X tg e t) ∧ t σ H R
def tGt (S : Stc) (e : Expr) : TG := fun v σ H Q => ∃ t, (∀ X, Good S X → PG X e t) ∧ t v σ H Q
def tS1 (S : Stc) (st : Stmt) : TS := fun D σ H => ∃ t, (∀ X, Good S X → PS X st t) ∧ t D σ H
def tSs (S : Stc) (st : List Stmt) : TS := fun D σ H => ∃ t, (∀ X, Good S X → PSs X st t) ∧ t D σ H
theorem tE_ok (G : Good S X) {e : Expr} : PE X e (tE S e) := ⟨fun pins s σ H Q I ⟨t, ht, h⟩ => (ht X G).run pins s σ H Q I h⟩
theorem tT_ok (G : Good S X) {e : Expr} : PT X e (tT S e) := ⟨fun pins s σ H Q I ⟨t, ht, h⟩ => (ht X G).run pins s σ H Q I h⟩
theorem tWt_ok (G : Good S X) {e : Expr} : PW X e (tWt S e) := ⟨fun w pins s σ H Q I ⟨t, ht, h⟩ => (ht X G).run w pins s σ H Q I h⟩
theorem tTs_ok (G : Good S X) {e : List Expr} : PTs X e (tTs S e) := ⟨fun pins s σ H Q I ⟨t, ht, h⟩ => (ht X G).run pins s σ H Q I h⟩
theorem tA_ok (G : Good S X) {e : List Expr} : PA X e (tA S e) := ⟨fun pos pins s σ H Q I ⟨t, ht, h⟩ => (ht X G).run pos pins s σ H Q I h⟩
theorem tI_ok (G : Good S X) {tg e : Expr} : PI X tg e (tI S tg e) := ⟨fun pins s σ H Q I ⟨t, ht, h⟩ => (ht X G).run pins s σ H Q I h⟩
theorem tGt_ok (G : Good S X) {e : Expr} : PG X e (tGt S e) := ⟨fun pins s σ H v u Q I r ⟨t, ht, h⟩ => (ht X G).run pins s σ H v u Q I r h⟩
theorem tS1_ok (G : Good S X) {e : Stmt} : PS X e (tS1 S e) := ⟨fun pins s σ H D I ⟨t, ht, h⟩ => (ht X G).run pins s σ H D I h⟩
theorem tSs_ok (G : Good S X) {e : List Stmt} : PSs X e (tSs S e) := ⟨fun pins s σ H D I ⟨t, ht, h⟩ => (ht X G).run pins s σ H D I h⟩
/-! ### judgements on the text -/
abbrev PD {α : Type} (S : Stc) (Γ : Ctxt) (k : Nat) (e : Expr) (c : Cod α) (P : α → Prop) : Prop := TD (tE S e) Γ k c P
abbrev PDF {α : Type} (S : Stc) (Γ : Ctxt) (k : Nat) (e : Expr) (c : Cod α) (P : List α → Prop) : Prop := TDF (tE S e) Γ k c P
abbrev PDT (S : Stc) (Γ : Ctxt) (k : Nat) (e : Expr) (P : Bool → Prop) : Prop := TDT (tT S e) Γ k P
abbrev PDW (S : Stc) (Γ : Ctxt) (k : Nat) (e : Expr) (P : Bool → Prop) : Prop := TDT (tWt S e) Γ k P
abbrev PDA (S : Stc) (Γ : Ctxt) (k : Nat) (es : List Expr) (B : Ctxt → Prop) : Prop := TDA (tA S es) Γ k B
abbrev PDI {α : Type} (S : Stc) (Γ : Ctxt) (k : Nat) (tg e : Expr) (c : Cod α) (P : List α → Prop) : Prop := TW (tI S tg e) Γ k c P
abbrev PDG {α : Type} (S : Stc) (g : Expr) (c : Cod α) (x : α) (Γ Γ' : Ctxt) (is : List Nat) : Prop := GD (tGt S g) c x Γ Γ' is
abbrev PH {ρ : Type} (S : Stc) (Γ : Ctxt) (k : Nat) (st : Stmt) (p : Po ρ) : Prop := HS (tS1 S st) Γ k p
abbrev PHs {ρ : Type} (S : Stc) (Γ : Ctxt) (k : Nat) (st : List Stmt) (p : Po ρ) : Prop := HS (tSs S st) Γ k p
section
variable {Γ Γ1 Γ2 Γ3 : Ctxt} {k k1 k2 k3 kk kt ke : Nat} {A α β γ ρ : Type} {c : Cod α} {c' : Cod β} {cr : Cod ρ} {c1 : Cod α} {c2 : Cod β} {c3 : Cod γ} {P P1 : α → Prop} {P2 : β → Prop} {P3 : γ → Prop} {te to ti : TE} {tt : TT} {t u : TS} {p : Po ρ} {ta tx : TA} {e a b d : Expr} {es : List Expr} {pos pos' : Pos}
theorem pd_of {te : TE} (ht : ∀ X, Good S X → PE X e te) (h : TD te Γ k c P) : PD S Γ k e c P := fun O n σ Hf H hn s Q q => ⟨te, ht, h O n σ Hf H hn s Q q⟩
theorem pdf_of {te : TE} {P : List α → Prop} (ht : ∀ X, Good S X → PE X e te) (h : TDF te Γ k c P) : PDF S Γ k e c P := fun O n σ Hf H hn s Q q => ⟨te, ht, h O n σ Hf H hn s Q q⟩
theorem pdt_of {tt : TT} {P : Bool → Prop} (ht : ∀ X, Good S X → PT X e tt) (h : TDT tt Γ k P) : PDT S Γ k e P := fun O n σ Hf H hn s Q q => ⟨tt, ht, h O n σ Hf H hn s Q q⟩
theorem pdw_of {tt : TT} {P : Bool → Prop} (ht : ∀ X, Good S X → PW X e tt) (h : TDT tt Γ k P) : PDW S Γ k e P := fun O n σ Hf H hn s Q q => ⟨tt, ht, h O n σ Hf H hn s Q q⟩
theorem pda_of {ta : TA} {B : Ctxt → Prop} (ht : ∀ X, Good S X → PA X es ta) (h : TDA ta Γ k B) : PDA S Γ k es B := fun O n σ Hf H hn s Q q => ⟨ta, ht, h O n σ Hf H hn s Q q⟩
theorem pdi_of {wi : TI} {tg : Expr} {P : List α → Prop} (ht : ∀ X, Good S X → PI X tg e wi) (h : TW wi Γ k c P) : PDI S Γ k tg e c P := fun O n σ Hf H hn s R q => ⟨wi, ht, h O n σ Hf H hn s R q⟩
theorem pdg_of {g : TG} {x : α} {is : List Nat} (ht : ∀ X, Good S X → PG X e g) (h : GD g c x Γ Γ1 is) : PDG S e c x Γ Γ1 is := ⟨h.1, h.2.1, fun O n σ Hf H v r s Q q => ⟨g, ht, h.2.2 O n σ Hf H v r s Q q⟩⟩
theorem ph_of {ts : TS} {st : Stmt} (ht : ∀ X, Good S X → PS X st ts) (h : HS ts Γ k p) : PH S Γ k st p := fun O n σ Hf H hn s D q1 q2 q3 q4 => ⟨ts, ht, h O n σ Hf H hn s D q1 q2 q3 q4⟩
theorem phs_of {ts : TS} {sts : List Stmt} (ht : ∀ X, Good S X → PSs X sts ts) (h : HS ts Γ k p) : PHs S Γ k sts p := fun O n σ Hf H hn s D q1 q2 q3 q4 => ⟨ts, ht, h O n σ Hf H hn s D q1 q2 q3 q4⟩
/-! ### names, constants -/
theorem vis (G : Good S X) {x : Str} (h : Vis S.sc x) : Vis X.env.scope x := by rw [G.sc]; exact h
theorem loc (G : Good S X) {x : Str} (h : Loc S.sc x) : Loc X.env.scope x := by rw [G.sc]; exact h
theorem glb (G : Good S X) {x : Str} (h : S.sc.names.lookup x = some .globalImplicit) : Gl X x := by
  show X.env.scope.names.lookup x = _
  rw [G.sc]; exact h
theorem pe_slot (G : Good S X) {i : Nat} {x : Str} (hN : S.N[i]? = some x) (hv : Vis S.sc x) (hd : (x == ("__debug__" : Str)) = false := by decide) (hcd : (x == ("__classdict__" : Str)) = false := by decide) : PE X (.Name x pos) (tVar i) := pe_var (by rw [G.N]; exact hN) (vis G hv) hd hcd
theorem pd_name {i : Nat} {x : Str} {y : α} (hΓ : Γ[i]? = some (.d c y)) (hN : S.N[i]? = some x) (hv : Vis S.sc x) (hd : (x == ("__debug__" : Str)) = false := by decide) (hcd : (x == ("__classdict__" : Str)) = false := by decide) : PD S Γ 0 (.Name x pos) c (· = y) :=
  pd_of (fun X G => pe_slot G hN hv hd hcd) (td_var hΓ)
theorem pd_int {i : Int} {j : Nat} : PD S Γ 0 (.Constant (.int i) j pos) cInt (· = i) := pd_of (fun X G => pe_int) (td_c fun _ => rfl)
theorem pd_bool {i : Bool} {j : Nat} : PD S Γ 0 (.Constant (.bool i) j pos) cBool (· = i) := pd_of (fun X G => pe_bl) (td_c fun _ => rfl)
theorem pd_none {j : Nat} : PD S Γ 0 (.Constant .none j pos) cNon (· = ()) := pd_of (fun X G => pe_non) (td_c fun _ => rfl)
/-- a module's constant -/
theorem pd_glob {x : Str} {v : V} {u : Value} {y : α} (hg : S.sc.names.lookup x = some .globalImplicit) (hm : S.mg x = some u) (r : RelV v u) (hc : ∀ H, c.rep H v y) (hd : (x == ("__debug__" : Str)) = false := by decide) : PD S Γ 0 (.Name x pos) c (· = y) :=
  pd_of (fun X G => pe_glob (glb G hg) (by rw [G.mg]; exact hm) r hd) (td_c hc)
/-! ### operators -/
theorem pd_un {op : UnaryOp} {r : V → Hp → VK → Prop} (ho : ∀ X, Good S X → UnR X (unaryOp op) r) (ha : PD S Γ k1 a c1 P1) (hr : ∀ x, P1 x → RU1 r c1 x c3 P3) : PD S Γ k1 (.UnaryOp op a pos) c3 P3 :=
  pd_of (fun X G => pe_un (ho X G) (tE_ok G)) (td_un ha hr)
/-- a value that is a bool, as a test -/
theorem pdt_val {P : Bool → Prop} (h : PD S Γ k e cBool P) (he : ∀ (env : Env) whole, isTrue e env whole = (do let v ← whole; standAt e.pos; holding [v] (truthy v))) : PDT S Γ k e P :=
  pdt_of (fun X G => pt_val (tE_ok G) (he _)) (tt_B h)
theorem pdt_not {b : Bool} (h : PDT S Γ k a (· = b)) : PDT S Γ k (.UnaryOp .Not a pos) (· = !b) := pdt_of (fun X G => pt_not (tT_ok G)) (tt_not' h)
theorem pdt_w {P : Bool → Prop} (h : PDW S Γ k e P) : PDT S Γ k e P := pdt_of (fun X G => (tWt_ok G).pt) h
theorem pdw_and1 {P : Bool → Prop} (h : PDT S Γ k a P) : PDW S Γ k (.BoolOp .And [a] pos) P := pdw_of (fun X G => pw_and1 (tT_ok G)) h
theorem pdw_or1 {P : Bool → Prop} (h : PDT S Γ k a P) : PDW S Γ k (.BoolOp .Or [a] pos) P := pdw_of (fun X G => pw_or1 (tT_ok G)) h
theorem pdw_or {x y : Bool} {rest : List Expr} (h1 : PDT S Γ k1 a (· = x)) (h2 : x = false → PDW S Γ k2 (.BoolOp .Or (b :: rest) pos) (· = y)) : PDW S Γ (k1 + k2) (.BoolOp .Or (a :: b :: rest) pos) (· = (x || y)) :=
  pdw_of (fun X G => pw_or (tT_ok G) (tWt_ok G)) (tt_or' h1 h2)
theorem pd_and {x y : Bool} {rest : List Expr} (h1 : PD S Γ k1 a cBool (· = x)) (h2 : x = true → PD S Γ k2 (.BoolOp .And (b :: rest) pos) cBool (· = y)) : PD S Γ (k1 + k2) (.BoolOp .And (a :: b :: rest) pos) cBool (· = (x && y)) :=
  pd_of (fun X G => pe_and (tE_ok G) (tE_ok G)) (td_andV' h1 h2)
theorem pd_one {op : BoolOp} (h : PD S Γ k a c P) : PD S Γ k (.BoolOp op [a] pos) c P := pd_of (fun X G => pe_one (tE_ok G)) h
theorem pd_if {b' : Bool → Prop} (h : PDT S Γ k1 d b') (ha : b' true → PD S Γ k2 a c P) (hb : b' false → PD S Γ k3 b c P) : PD S Γ (k1 + max k2 k3) (.IfExp d a b pos) c P := pd_of (fun X G => pe_ifExp (tT_ok G) (tE_ok G) (tE_ok G)) (td_if h ha hb)
/-! ### arguments, displays -/
theorem pda_nil : PDA S Γ 0 [] (· = []) := pda_of (fun X G => pa_nil) ta_nil
theorem pda_cons {B : Ctxt → Prop} (h : PD S Γ k1 e c P) (hr : PDA S Γ k2 es B) (hs : ∀ env : Env, starEach (e :: es) env = (false, eval e env) :: starEach es env) : PDA S Γ (k1 + k2) (e :: es) (fun as => ∃ x r, P x ∧ B r ∧ as = .d c x :: r) :=
  pda_of (fun X G => pa_cons (tE_ok G) (tA_ok G) (hs _)) (ta_cons h hr)
theorem pda_box {B : Ctxt → Prop} {i : Nat} {x : Str} {z : Addr} (hΓ : Γ[i]? = some (.bx z)) (hN : S.N[i]? = some x) (hv : Vis S.sc x) (hr : PDA S Γ k2 es B) (hd : (x == ("__debug__" : Str)) = false := by decide) (hcd : (x == ("__classdict__" : Str)) = false := by decide) : PDA S Γ k2 (.Name x pos :: es) (fun as => ∃ r, B r ∧ as = .bx z :: r) :=
  pda_of (fun X G => pa_cons (pe_slot G hN hv hd hcd) (tA_ok G) rfl) (ta_box hΓ hr)
theorem pda_more {x : α} {l : Ctxt} (h : PD S Γ k1 e c (· = x)) (hr : PDA S Γ k2 es (· = l)) (hs : ∀ env : Env, starEach (e :: es) env = (false, eval e env) :: starEach es env) : PDA S Γ (k1 + k2) (e :: es) (· = .d c x :: l) := (pda_cons h hr hs).imp fun as ⟨y, r, h1, h2, h3⟩ => by subst h1 h2; exact h3
theorem pdf_lst {B : Ctxt → Prop} {R : List α → Prop} (h : PDA S Γ k es B) (hi : ∀ as, B as → ∃ xs : List α, as = xs.map (fun x => Sl.d c x) ∧ xs.length ≤ 1000 ∧ R xs) : PDF S Γ k (.List es pos) c R := pdf_of (fun X G => pe_lst (tA_ok G)) (tdf_lst h hi)
theorem pd_tupl {kx : Nat} {B : Ctxt → Prop} {R : List α → Prop} (h : PDA S Γ k es B) (hi : ∀ as, B as → ∃ xs : List α, as = xs.map (fun x => Sl.d c x) ∧ xs.length ≤ 1000 ∧ R xs) : PD S Γ k (.Tuple es kx pos) (cTup c) R := pd_of (fun X G => pe_tup (tA_ok G)) (td_tup h hi)
theorem pd_t2 {kx : Nat} (ha : PD S Γ k1 a c1 P1) (hb : PD S Γ k2 b c2 P2) (hs : ∀ env : Env, starEach [a, b] env = (false, eval a env) :: starEach [b] env) (hs2 : ∀ env : Env, starEach [b] env = (false, eval b env) :: starEach [] env) : PD S Γ (k1 + k2) (.Tuple [a, b] kx pos) (cT2 c1 c2) (fun z => P1 z.1 ∧ P2 z.2) :=
  pd_of (fun X G => pe_tup (pa_cons (tE_ok G) (pa_cons (tE_ok G) pa_nil (hs2 _)) (hs _))) (td_t2 ha hb)
theorem pd_t2' {kx : Nat} {x : α} {y : β} (ha : PD S Γ k1 a c1 (· = x)) (hb : PD S Γ k2 b c2 (· = y)) (hs : ∀ env : Env, starEach [a, b] env = (false, eval a env) :: starEach [b] env) (hs2 : ∀ env : Env, starEach [b] env = (false, eval b env) :: starEach [] env) : PD S Γ (k1 + k2) (.Tuple [a, b] kx pos) (cT2 c1 c2) (· = (x, y)) :=
  (pd_t2 ha hb hs hs2).imp fun z ⟨h1, h2⟩ => by cases z; subst h1 h2; rfl
/-! ### targets, walks, comprehensions -/
theorem fnOr (G : Good S X) {x : Str} (h : S.fn x = true ∨ S.sc.names.lookup x = some .local) : X.fn x = true ∨ X.env.scope.names.lookup x = some .local := by rw [G.fn, G.sc]; exact h
theorem pdg_name {i : Nat} {x : Str} {y : α} (nb : NoBx Γ i) (hi : S.N[i]? = some x) (hx : Loc S.sc x) (hf : S.fn x = true ∨ S.sc.names.lookup x = some .local) : PDG S (.Name x pos) c y Γ (Γ.set i (.d c y)) [i] :=
  pdg_of (fun X G => pg_name (by rw [G.N]; exact G.nd) (by rw [G.N]; exact hi) (loc G hx) (fnOr G hf)) (gd_name nb)
theorem pdg_t2 {kx : Nat} {x : α × β} {is js : List Nat} (h1 : PDG S a c1 x.1 Γ Γ1 is) (h2 : PDG S b c2 x.2 Γ1 Γ2 js) (hs : ∀ env : Env, (assignEach [a, b] env).map (·.2) = assign a env :: (assignEach [b] env).map (·.2)) (hs2 : ∀ env : Env, (assignEach [b] env).map (·.2) = assign b env :: (assignEach [] env).map (·.2))
    (hn : ∀ env : Env, (assignEach [a, b] env).length = 2) (hst : ∀ env : Env, (assignEach [a, b] env).findIdx? (·.1) = none) : PDG S (.Tuple [a, b] kx pos) (cT2 c1 c2) x Γ Γ2 (is ++ js) :=
  pdg_of (g := gTup S.K 2 (gCons (tGt S a) (gCons (tGt S b) gNil))) (fun X G => by rw [← G.K]; exact pg_tup G.calm (pgs_cons (tGt_ok G) (pgs_cons (tGt_ok G) pgs_nil (hs2 _)) (hs _)) (hn _) (hst _)) (gd_t2 h1 h2)
theorem pdi_list {tg : Expr} {R : List α → Prop} (h : PD S Γ k e (cList c) R) : PDI S Γ k tg e c R := pdi_of (wi := iList S.K (tE S e)) (fun X G => by rw [← G.K]; exact pi_list (tE_ok G)) (tw_list h)
theorem pdi_tup {tg : Expr} {R : List α → Prop} (h : PD S Γ k e (cTup c) R) : PDI S Γ k tg e c R := pdi_of (wi := iTup S.K (tE S e)) (fun X G => by rw [← G.K]; exact pi_tup (tE_ok G)) (tw_tup h)
theorem pdi_range1 {tg : Expr} {pn : Pos} {B : Ctxt → Prop} {R : List Int → Prop} (hg : S.sc.names.lookup ("range" : Str) = some .globalImplicit) (hm : S.mg "range" = none) (h : PDA S Γ k [a] B) (hi : ∀ as, B as → ∃ j : Int, as = [.d cInt j] ∧ -4611686018427387904 ≤ j ∧ j ≤ 1000000 ∧ R (rangeL 0 j.toNat))
    (hs : ∀ env : Env, starEach [a] env = [(false, eval a env)]) : PDI S Γ k tg (.Call (.Name "range" pn) [a] [] pos) cInt R := pdi_of (fun X G => pi_range1 (glb G hg) (by rw [G.mg]; exact hm) (tA_ok G) (hs _)) (tw_range1 h hi)
theorem tts_nil : TDT (tTs S []) Γ 0 (· = true) := fun O n σ Hf H hn s Q q => ⟨tYes, fun X G => pts_nil, tt_yes O n σ Hf H hn s Q q⟩
theorem tts_one {P : Bool → Prop} (h : PDT S Γ k e P) : TDT (tTs S [e]) Γ k P := fun O n σ Hf H hn s Q q => ⟨tT S e, fun X G => pts_one (tT_ok G), h O n σ Hf H hn s Q q⟩
abbrev lcRd (S : Stc) (tg iter : Expr) (ifs : List Expr) (elt : Expr) (scope : Scope) (own : List (Str × Nat)) : TE := tLc (tI S tg iter) (tGt (S.blk scope) tg) (tTs (S.blk scope) ifs) (tE (S.blk scope) elt) (own.map (·.2))
theorem pe_lcR (G : Good S X) {elt tg iter : Expr} {ifs : List Expr} {scope : Scope} {own : List (Str × Nat)} (ok : blkC S.N S.sc scope own = true) (hs : ∀ (env : Env) x, foldedSetIterable iter env x = pure x) : PE X (.ListComp elt [⟨tg, iter, ifs, 0⟩] scope pos) (lcRd S tg iter ifs elt scope own) :=
  pe_lc G.calm (by rw [G.N]; exact G.nd) (tI_ok G) (blkOk_by (by rw [G.N, G.sc]; exact ok)) (fun s H C cl fp => tGt_ok (G.blk scope s H C cl fp)) (fun s H C cl fp => tTs_ok (G.blk scope s H C cl fp)) (fun s H C cl fp => tE_ok (G.blk scope s H C cl fp)) (hs _)
theorem pdf_lc {elt tg iter : Expr} {ifs : List Expr} {scope : Scope} {own : List (Str × Nat)} {R : List β → Prop} (ok : blkC S.N S.sc scope own = true) (hs : ∀ (env : Env) x, foldedSetIterable iter env x = pure x) (h : TDF (lcRd S tg iter ifs elt scope own) Γ k c' R) : PDF S Γ k (.ListComp elt [⟨tg, iter, ifs, 0⟩] scope pos) c' R :=
  pdf_of (fun X G => pe_lcR G ok hs) h
/-! ### statements -/
variable {st : Stmt} {sts sts2 : List Stmt} {N1 : Ctxt → Prop}
theorem phs_nil (h : p.N Γ) : PHs S Γ 0 [] p := phs_of (fun X G => pss_nil) (hs_next h)
theorem phs_cons (h1 : PH S Γ k1 st { p with N := N1 }) (h2 : ∀ Γ1, N1 Γ1 → PHs S Γ1 k2 sts p) : PHs S Γ (k1 + k2) (st :: sts) p := phs_of (fun X G => pss_cons (tS1_ok G) (tSs_ok G)) (hs_seq h1 h2)
theorem phs_one (h1 : PH S Γ k1 st p) : PHs S Γ k1 [st] p := phs_of (fun X G => pss_one (tS1_ok G)) h1
theorem ph_ret (h : PD S Γ k e c P) (hr : ∀ H v x, P x → c.rep H v x → ∃ y, p.R y ∧ p.c.rep H v y) : PH S Γ k (.Return (some e) pos) p := ph_of (fun X G => ps_ret (tE_ok G)) (hs_ret h hr)
theorem ph_ret' {R' : ρ → Prop} (h : PD S Γ k e p.c R') (hr : ∀ x, R' x → p.R x) : PH S Γ k (.Return (some e) pos) p := ph_ret h fun H v x px r => ⟨x, hr x px, r⟩
theorem ph_if {b' : Bool → Prop} (h : PDT S Γ k1 e b') (ha : b' true → PHs S Γ k2 sts p) (hb : b' false → PHs S Γ k3 sts2 p) : PH S Γ (k1 + max k2 k3) (.If e sts sts2 pos) p := ph_of (fun X G => ps_if (tT_ok G) (tSs_ok G) (tSs_ok G)) (hs_if h ha hb)
theorem ph_set {i : Nat} {x : Str} (h : PD S Γ k e c P) (nb : NoBx Γ i) (hp : ∀ y, P y → p.N (Γ.set i (.d c y))) (hi : S.N[i]? = some x) (hx : Loc S.sc x) (hs : ∀ env : Env, env.scope = S.sc → swapsWith e (some (.Name x pos')) pos.line env = pure false) (hf : S.fn x = true ∨ S.sc.names.lookup x = some .local) : PH S Γ k (.Assign [.Name x pos'] e pos) p :=
  ph_of (fun X G => ps_set (by rw [G.N]; exact G.nd) (by rw [G.N]; exact hi) (loc G hx) (tE_ok G) (hs _ G.sc) (fnOr G hf)) (hs_set h nb hp)
theorem ph_setL {i : Nat} {x : Str} {R : List α → Prop} (h : PDF S Γ k e c R) (nb : NoBx Γ i) (hp : ∀ y, R y → p.N (Γ.set i (.l c y))) (hi : S.N[i]? = some x) (hx : Loc S.sc x) (hs : ∀ env : Env, env.scope = S.sc → swapsWith e (some (.Name x pos')) pos.line env = pure false) (hf : S.fn x = true ∨ S.sc.names.lookup x = some .local) : PH S Γ k (.Assign [.Name x pos'] e pos) p :=
  ph_of (fun X G => ps_set (by rw [G.N]; exact G.nd) (by rw [G.N]; exact hi) (loc G hx) (tE_ok G) (hs _ G.sc) (fnOr G hf)) (hs_setL h nb hp)
theorem ps_lcR (G : Good S X) {i : Nat} {y : Str} {py spos : Pos} {elt tg iter : Expr} {ifs : List Expr} {scope : Scope} {own : List (Str × Nat)} (hi : S.N[i]? = some y) (hyl : S.sc.names.lookup y = some .local) (hl : (py.line == pos.line) = true) (hk : S.sc.kind = .function)
    (ha : (scope.names.any fun (n, k) => n == y && (k == .local || k == .cell)) = false) (ok : blkC S.N S.sc scope own = true) (hs : ∀ (env : Env) x, foldedSetIterable iter env x = pure x) : PS X (.Assign [.Name y py] (.ListComp elt [⟨tg, iter, ifs, 0⟩] scope pos) spos) (tAsg (lcRd S tg iter ifs elt scope own) (gName i)) :=
  ps_setLc G.calm (by rw [G.N]; exact G.nd) (by rw [G.N]; exact hi) (by rw [G.sc]; exact hyl) (sw_true (by rw [G.sc]; exact hk) (by rw [G.sc]; exact hyl) hl ha) (tI_ok G) (blkOk_by (by rw [G.N, G.sc]; exact ok))
    (fun s H C cl fp => tGt_ok (G.blk scope s H C cl fp)) (fun s H C cl fp => tTs_ok (G.blk scope s H C cl fp)) (fun s H C cl fp => tE_ok (G.blk scope s H C cl fp)) (hs _)
/-- x = [..], x a plain local: as data, as a list of one's own -/
theorem ph_setLc {i : Nat} {y : Str} {py spos : Pos} {elt tg iter : Expr} {ifs : List Expr} {scope : Scope} {own : List (Str × Nat)} {R : List β → Prop} (h : TDF (lcRd S tg iter ifs elt scope own) Γ k c' R) (nb : NoBx Γ i) (hp : ∀ y, R y → p.N (Γ.set i (.d (cList c') y))) (hi : S.N[i]? = some y) (hyl : S.sc.names.lookup y = some .local) (hl : (py.line == pos.line) = true) (hk : S.sc.kind = .function)
    (ha : (scope.names.any fun (n, k) => n == y && (k == .local || k == .cell)) = false) (ok : blkC S.N S.sc scope own = true) (hs : ∀ (env : Env) x, foldedSetIterable iter env x = pure x) : PH S Γ k (.Assign [.Name y py] (.ListComp elt [⟨tg, iter, ifs, 0⟩] scope pos) spos) p :=
  ph_of (fun X G => ps_lcR G hi hyl hl hk ha ok hs) (hs_set h.td nb hp)
theorem ph_for {tg iter : Expr} {X' : List α → Prop} {kn : Nat} (I : List α → List α → Ctxt → Prop) (hw : PDI S Γ k tg iter c X') (h0 : ∀ xs, X' xs → I xs [] Γ) (hk : ∀ xs, X' xs → xs.length * kk ≤ kn)
    (hs : ∀ xs, X' xs → ∀ pre x post Γ1, xs = pre ++ x :: post → I xs pre Γ1 → ∃ Γ2 is, PDG S tg c x Γ1 Γ2 is ∧ PHs S Γ2 kk sts { N := I xs (pre ++ [x]), ct := I xs (pre ++ [x]), bk := p.N, c := p.c, R := p.R })
    (hd : ∀ xs Γ1, X' xs → I xs xs Γ1 → p.N Γ1) (hfs : ∀ (env : Env) x, foldedSetIterable iter env x = pure x) : PH S Γ (k + kn) (.For tg iter sts [] pos) p :=
  ph_of (fun X G => ps_for (by rw [G.nox]; exact PassesOwn.never) G.calm (tI_ok G) (tGt_ok G) (tSs_ok G) (hfs _)) (hs_for I hw h0 hk hs hd)
/-- .. the names at vs are forgotten between the turns -/
theorem ph_forV {tg iter : Expr} {X' : List α → Prop} {kn : Nat} (vs : List Nat) (I : List α → List α → Ctxt → Prop) (hw : PDI S Γ k tg iter c X') (h0 : ∀ xs, X' xs → I xs [] Γ) (hk : ∀ xs, X' xs → xs.length * kk ≤ kn)
    (hs : ∀ xs, X' xs → ∀ pre x post Γ1, xs = pre ++ x :: post → I xs pre Γ1 → ∃ Γ2 is, PDG S tg c x Γ1 Γ2 is ∧ PHs S Γ2 kk sts { N := fun Γ' => NoBxs Γ' vs ∧ I xs (pre ++ [x]) (wipeC Γ' vs), ct := I xs (pre ++ [x]), bk := p.N, c := p.c, R := p.R })
    (hd : ∀ xs Γ1, X' xs → I xs xs Γ1 → p.N Γ1) (hfs : ∀ (env : Env) x, foldedSetIterable iter env x = pure x) : PH S Γ (k + kn) (.For tg iter sts [] pos) p :=
  ph_for I hw h0 hk (fun xs hx pre x post Γ1 e hI => by
    obtain ⟨Γ2, is, g, h⟩ := hs xs hx pre x post Γ1 e hI
    exact ⟨Γ2, is, g, HS.forget (p := { N := I xs (pre ++ [x]), ct := I xs (pre ++ [x]), bk := p.N, c := p.c, R := p.R }) vs h fun Γ' z => z⟩) hd hfs
theorem ph_append {i : Nat} {x : Str} {xs : List α} {p1 p2 : Pos} (hΓ : Γ[i]? = some (.l c xs)) (nb : NoBx Γ i) (he : PD S Γ k e c P) (lb : xs.length + 1 ≤ LB) (hp : ∀ y, P y → p.N (Γ.set i (.l c (xs ++ [y])))) (hN : S.N[i]? = some x) (hv : Vis S.sc x)
    (hfew : ∀ env : Env, ((backTo p2 (starEach [e] env)).all (fun x => !x.1) && (backToKw p2 (keywordEach [] env)).all (fun x => x.1.isSome) && decide ([e].length + ([] : List Keyword).length + (if ([] : List Keyword).isEmpty then 0 else 1) < 30)) = true)
    (hline : (p1.endLine == p2.line) = true) (hs : ∀ env : Env, starEach [e] env = (false, eval e env) :: starEach [] env) (hsw : ∀ env : Env, swapsWith (.Call (.Attribute (.Name x pos') "append" p1) [e] [] p2) none pos.line env = pure false) (hd : (x == ("__debug__" : Str)) = false := by decide) (hcd : (x == ("__classdict__" : Str)) = false := by decide) :
    PH S Γ k (.Expr (.Call (.Attribute (.Name x pos') "append" p1) [e] [] p2) pos) p :=
  ph_of (ts := tDrop (tBM S.K "list" rAppend (tVar i) (tCons (tE S e) tNil))) (fun X G => by
    rw [← G.K]
    exact ps_expr (pe_bm PySem.F.plainAttrs_list PySem.F.slot_list_append PySem.F.type_list_append mt_append (pe_slot G hN hv hd hcd) (pa_cons (tE_ok G) pa_nil (hs _)) rfl (hfew _) hline (hs _) rfl) (hsw _)) (hs_append hΓ nb he lb hp)
end
end DL

set_option Elab.async false
set_option linter.all false
set_option maxRecDepth 100000
set_option maxHeartbeats 2000000
namespace DL
open PySem PySem.Spec L2
/-! ### data that can be compared at any depth -/
structure EqC {α : Type} [DecidableEq α] (c : Cod α) where
  D : α → PyData
  n : Nat
  dp : ∀ (K : PySem.W.Frag) (H : Hp) v x, c.rep H v x → Dp K H v (D x)
  lay : ∀ x, (D x).canLay0 = true
  dep : ∀ x, (D x).depth ≤ n
  eqv : ∀ x y, PyData.eqv (D x) (D y) = decide (x = y)
def eInt : EqC cInt := ⟨.int, 1, fun _ _ _ _ h => by obtain rfl := h; exact .int _, fun _ => rfl, fun _ => by simp [PyData.depth], fun x y => by simp only [PyData.eqv]; exact Bool.beq_eq_decide_eq x y⟩
theorem dpAll_of {α : Type} {c : Cod α} {D : α → PyData} {K : PySem.W.Frag} {H : Hp} (h : ∀ v x, c.rep H v x → Dp K H v (D x)) : ∀ {vs : List V} {xs : List α}, Paired (c.rep H) vs xs → DpAll K H vs (xs.map D)
  | _, _, .nil => .nil
  | _, _, .cons r t => .cons (h _ _ r) (dpAll_of h t)
theorem layAll {α : Type} {D : α → PyData} (h : ∀ x, (D x).canLay0 = true) : ∀ xs : List α, PyData.canLayAll0 (xs.map D) = true
  | [] => rfl
  | x :: xs => by simp [PyData.canLayAll0, h x, layAll h xs]
theorem depAll {α : Type} {D : α → PyData} {n : Nat} (h : ∀ x, (D x).depth ≤ n) : ∀ xs : List α, PyData.depthAll (xs.map D) ≤ n
  | [] => by simp [PyData.depthAll]
  | x :: xs => by
    have h1 := h x
    have h2 := depAll h xs
    simp only [List.map_cons, PyData.depthAll]
    omega
theorem eqvAll_dec {α : Type} [DecidableEq α] {D : α → PyData} (h : ∀ x y, PyData.eqv (D x) (D y) = decide (x = y)) : ∀ xs ys : List α, PyData.eqvAll (xs.map D) (ys.map D) = decide (xs = ys)
  | [], [] => by simp [PyData.eqvAll]
  | [], _ :: _ => by simp [PyData.eqvAll]
  | _ :: _, [] => by simp [PyData.eqvAll]
  | x :: xs, y :: ys => by
    simp only [List.map_cons, PyData.eqvAll, h x y, eqvAll_dec h xs ys]
    by_cases e1 : x = y <;> by_cases e2 : xs = ys <;> simp [e1, e2]
def eList {α : Type} [DecidableEq α] {c : Cod α} (e : EqC c) : EqC (cList c) := ⟨fun xs => .list (xs.map e.D), e.n + 1, fun K H v xs ⟨a, vs, h1, h2, h3, _⟩ => by
    subst h1; exact .lst (SqL.of h2) (dpAll_of (fun v x r => e.dp K H v x r) h3),
  fun xs => layAll e.lay xs, fun xs => by simp only [PyData.depth]; exact Nat.succ_le_succ (depAll e.dep xs), fun xs ys => by simp only [PyData.eqv]; exact eqvAll_dec e.eqv xs ys⟩
section
variable {S : Stc} {X : Cx}
variable {Γ Γ1 Γ2 Γ3 : Ctxt} {k k1 k2 k3 kk kt ke : Nat} {A α β γ ρ : Type} {c : Cod α} {c' : Cod β} {cr : Cod ρ} {c1 : Cod α} {c2 : Cod β} {c3 : Cod γ} {P P1 : α → Prop} {P2 : β → Prop} {P3 : γ → Prop} {te to ti : TE} {tt : TT} {t u : TS} {p : Po ρ} {ta tx : TA} {e a b d : Expr} {es : List Expr} {pos pos' pn : Pos}
theorem rd_eqD [DecidableEq α] {K : PySem.W.Frag} {x y : α} (q : EqC c) (hn : q.n ≤ 64) : RD (rEqD K) c x c y cBool (· = decide (x = y)) := fun Hf H v u e h1 h2 Q k =>
  ⟨_, _, q.dp K H _ _ (c.mono e h1), q.dp K H _ _ (c.mono e h2), by unfold SeqAt.shaped; rw [q.lay, Bool.true_and]; exact decide_eq_true (Nat.le_trans (q.dep x) hn), by unfold SeqAt.shaped; rw [q.lay, Bool.true_and]; exact decide_eq_true (Nat.le_trans (q.dep y) hn), by
    rw [q.eqv]; exact k _ Hf H _ rfl rfl Fr.refl e⟩
theorem rd_neD [DecidableEq α] {K : PySem.W.Frag} {x y : α} (q : EqC c) (hn : q.n ≤ 64) : RD (rNeD K) c x c y cBool (· = !decide (x = y)) := fun Hf H v u e h1 h2 Q k =>
  ⟨_, _, q.dp K H _ _ (c.mono e h1), q.dp K H _ _ (c.mono e h2), by unfold SeqAt.shaped; rw [q.lay, Bool.true_and]; exact decide_eq_true (Nat.le_trans (q.dep x) hn), by unfold SeqAt.shaped; rw [q.lay, Bool.true_and]; exact decide_eq_true (Nat.le_trans (q.dep y) hn), by
    rw [q.eqv]; exact k _ Hf H _ rfl rfl Fr.refl e⟩
theorem op_eqDG {K : PySem.W.Frag} (hK : S.K = K) : ∀ X, Good S X → OpR X (compareOp .Eq) (rEqD K) := fun X G => by rw [← hK, ← G.K]; exact op_eqD G.room.units
theorem op_neDG {K : PySem.W.Frag} (hK : S.K = K) : ∀ X, Good S X → OpR X (compareOp .NotEq) (rNeD K) := fun X G => by rw [← hK, ← G.K]; exact op_neD G.room.units
/-- ints in a list, a tuple -/
theorem inV_ints (i : Int) : ∀ ns : List Int, inV (.int i) (ns.map V.int) = decide (i ∈ ns)
  | [] => by simp [inV]
  | n :: ns => by
    have ih := inV_ints i ns
    unfold inV at ih ⊢
    rw [List.map_cons, List.any_cons, ih]
    simp only [eqV, List.mem_cons]
    by_cases e : n = i
    · subst e; simp
    · have e2 : ¬ i = n := fun z => e z.symm
      simp [e, e2]
theorem ints_of_paired : ∀ {vs : List V} {ns : List Int} {H : Hp}, Paired (cInt.rep H) vs ns → vs = ns.map V.int
  | _, _, _, .nil => rfl
  | _, _, _, .cons r t => by obtain rfl := r; rw [ints_of_paired t]; rfl
theorem bools_of_paired : ∀ {vs : List V} {ns : List Bool} {H : Hp}, Paired (cBool.rep H) vs ns → vs = ns.map V.bl
  | _, _, _, .nil => rfl
  | _, _, _, .cons r t => by obtain rfl := r; rw [bools_of_paired t]; rfl
theorem flat_ints : ∀ ns : List Int, (ns.map V.int).all flatV = true
  | [] => rfl
  | n :: ns => by simp [flatV]
theorem rd_inI {K : PySem.W.Frag} {neg : Bool} {x : Int} {xs : List Int} : RD (rIn K neg) cInt x (cList cInt) xs cBool (· = if neg then !decide (x ∈ xs) else decide (x ∈ xs)) := fun Hf H v u e h1 ⟨a, vs, h2, h3, h4, _⟩ Q k => by
  obtain rfl := h1
  have := ints_of_paired h4
  subst this
  refine ⟨a, xs.map V.int, h2, .inl (SqL.of (e _ _ h3)), rfl, flat_ints xs, ?_⟩
  rw [inV_ints]
  exact k _ Hf H _ rfl rfl Fr.refl e
theorem rd_inIT {K : PySem.W.Frag} {neg : Bool} {x : Int} {xs : List Int} : RD (rIn K neg) cInt x (cTup cInt) xs cBool (· = if neg then !decide (x ∈ xs) else decide (x ∈ xs)) := fun Hf H v u e h1 ⟨a, vs, h2, h3, h4, _⟩ Q k => by
  obtain rfl := h1
  have := ints_of_paired h4
  subst this
  refine ⟨a, xs.map V.int, h2, .inr (SqT.of (e _ _ h3)), rfl, flat_ints xs, ?_⟩
  rw [inV_ints]
  exact k _ Hf H _ rfl rfl Fr.refl e
theorem op_inG : ∀ X, Good S X → OpR X (compareOp .In) (rIn S.K false) := fun X G => by rw [← G.K]; exact op_in_seq
theorem op_notInG : ∀ X, Good S X → OpR X (compareOp .NotIn) (rIn S.K true) := fun X G => by rw [← G.K]; exact op_notIn_seq
/-- items by place -/
theorem rd_ixL {K : PySem.W.Frag} {xs : List α} {i : Int} {Pz : α → Prop} (h : ∃ z, atI xs i = some z ∧ Pz z) : RD (rIxL K) (cList c) xs cInt i c Pz := fun Hf H v u e ⟨a, vs, h1, h2, h3, _⟩ h4 Q k => by
  obtain ⟨z, hz, pz⟩ := h
  obtain rfl := h4
  have hl := paired_len h3
  unfold atI at hz
  cases e1 : ixN xs.length i with
  | none => rw [e1] at hz; cases hz
  | some j =>
    rw [e1] at hz
    have hz' : xs[j]? = some z := hz
    have hj : j < vs.length := by rw [hl]; exact (List.getElem?_eq_some_iff.mp hz').1
    have hv : vs[j]? = some (vs[j]'hj) := List.getElem?_eq_getElem hj
    exact ⟨a, vs, i, vs[j]'hj, h1, rfl, SqL.of (e _ _ h2), by unfold atI; rw [hl, e1]; exact hv, k z Hf H _ pz (paired_get h3 hv hz') Fr.refl e⟩
theorem rd_ixT {K : PySem.W.Frag} {xs : List α} {i : Int} {Pz : α → Prop} (h : ∃ z, atI xs i = some z ∧ Pz z) : RD (rIxT K) (cTup c) xs cInt i c Pz := fun Hf H v u e ⟨a, vs, h1, h2, h3, _⟩ h4 Q k => by
  obtain ⟨z, hz, pz⟩ := h
  obtain rfl := h4
  have hl := paired_len h3
  unfold atI at hz
  cases e1 : ixN xs.length i with
  | none => rw [e1] at hz; cases hz
  | some j =>
    rw [e1] at hz
    have hz' : xs[j]? = some z := hz
    have hj : j < vs.length := by rw [hl]; exact (List.getElem?_eq_some_iff.mp hz').1
    have hv : vs[j]? = some (vs[j]'hj) := List.getElem?_eq_getElem hj
    exact ⟨a, vs, i, vs[j]'hj, h1, rfl, SqT.of (e _ _ h2), by unfold atI; rw [hl, e1]; exact hv, k z Hf H _ pz (paired_get h3 hv hz') Fr.refl e⟩
theorem rd_ix2_0 {K : PySem.W.Frag} {x : α × β} : RD (rIxT K) (cT2 c1 c2) x cInt 0 c1 (· = x.1) := fun Hf H v u e ⟨a, w1, w2, h1, h2, h3, h4⟩ h6 Q k => by
  obtain rfl := h6
  exact ⟨a, [w1, w2], 0, w1, h1, rfl, SqT.of (e _ _ h2), rfl, k _ Hf H _ rfl h3 Fr.refl e⟩
theorem rd_ix2_1 {K : PySem.W.Frag} {x : α × β} : RD (rIxT K) (cT2 c1 c2) x cInt 1 c2 (· = x.2) := fun Hf H v u e ⟨a, w1, w2, h1, h2, h3, h4⟩ h6 Q k => by
  obtain rfl := h6
  exact ⟨a, [w1, w2], 1, w2, h1, rfl, SqT.of (e _ _ h2), rfl, k _ Hf H _ rfl h4 Fr.refl e⟩
theorem ixLG : ∀ X, Good S X → IxR X (rIxL S.K) := fun X G => by rw [← G.K]; exact ix_list
theorem ixTG : ∀ X, Good S X → IxR X (rIxT S.K) := fun X G => by rw [← G.K]; exact ix_tup
/-! ### calls of built-ins by values -/
def RC1 {α γ : Type} (r : List V → Hp → VK → Prop) (c1 : Cod α) (x : α) (c : Cod γ) (P : γ → Prop) : Prop :=
  ∀ (Hf H : Hp) (v : V), Ex Hf H → c1.rep Hf v x → ∀ Q : VK, (∀ z Hf' H' w, P z → c.rep Hf' w z → Fr (fun _ => False) Hf H Hf' H' → Ex Hf' H' → Q w H') → r [v] H Q
def RC1F {α γ : Type} (r : List V → Hp → VK → Prop) (c1 : Cod α) (x : α) (c : Cod γ) (P : List γ → Prop) : Prop :=
  ∀ (Hf H : Hp) (v : V), Ex Hf H → c1.rep Hf v x → ∀ Q : VK, (∀ p vs zs, P zs → H p = none → Paired (c.rep Hf) vs zs → vs.length ≤ LB → Q (.ref p) (upd H p (.lst vs))) → r [v] H Q
theorem td_cb {r : List V → Hp → VK → Prop} (h : TD te Γ k c1 P1) (hr : ∀ x, P1 x → RC1 r c1 x c3 P3) : TD (tCB r (tCons te tNil)) Γ k c3 P3 := fun O n σ Hf H hn S Q q =>
  h O n σ Hf H hn S _ fun v Hf1 H1 x p1 r1 f1 S1 => hr x p1 Hf1 H1 v S1.ex r1 Q fun z Hf3 H3 w p3 r3 f3 e3 => q w Hf3 H3 z p3 r3 (f1.trans f3 fun _ h => h.elim) (S1.grow0 f3 e3)
theorem tdf_cb {r : List V → Hp → VK → Prop} {R : List γ → Prop} (h : TD te Γ k c1 P1) (hr : ∀ x, P1 x → RC1F r c1 x c3 R) : TDF (tCB r (tCons te tNil)) Γ k c3 R := fun O n σ Hf H hn S Q q =>
  h O n σ Hf H hn S _ fun v Hf1 H1 x p1 r1 f1 S1 => hr x p1 Hf1 H1 v S1.ex r1 Q fun p vs zs pz hp pr lb =>
    q p vs Hf1 _ zs pz upd_same (S1.ex.back hp) (f1.dom p hp) pr lb (f1.trans (Fr.newO (M := Bx Γ) hp) fun _ z => .inl z) (S1.grow0 (Fr.newO hp) (S1.ex.trans (Ex.new hp)))
theorem pd_b1 {r : List V → Hp → VK → Prop} {x : Str} {id : String} (hc : ∀ X, Good S X → CallR X (.builtin id) r) (hg : S.sc.names.lookup x = some .globalImplicit) (hm : S.mg x = none) (hv : bootBuiltins x = some (.builtin id)) (h : PD S Γ k e c1 P1) (hr : ∀ x, P1 x → RC1 r c1 x c3 P3)
    (he : ∀ env : Env, starEach [e] env = (false, eval e env) :: starEach [] env) (hn : x ≠ "__name__" := by decide) (hdb : (x == ("__debug__" : Str)) = false := by decide) : PD S Γ k (.Call (.Name x pn) [e] [] pos) c3 P3 :=
  pd_of (fun X G => pe_callB (hc X G) (glb G hg) (by rw [G.mg]; exact hm) hv (pa_cons (tE_ok G) pa_nil (he _)) hn hdb (he _) rfl) (td_cb h hr)
theorem pd_y1 {r : List V → Hp → VK → Prop} {x : Str} {T : String} (hc : ∀ X, Good S X → CallR X (.type T) r) (hg : S.sc.names.lookup x = some .globalImplicit) (hm : S.mg x = none) (hv : bootBuiltins x = some (.type T)) (h : PD S Γ k e c1 P1) (hr : ∀ x, P1 x → RC1 r c1 x c3 P3)
    (he : ∀ env : Env, starEach [e] env = (false, eval e env) :: starEach [] env) (hn : x ≠ "__name__" := by decide) (hdb : (x == ("__debug__" : Str)) = false := by decide) : PD S Γ k (.Call (.Name x pn) [e] [] pos) c3 P3 :=
  pd_of (fun X G => pe_callTy (hc X G) (glb G hg) (by rw [G.mg]; exact hm) hv (pa_cons (tE_ok G) pa_nil (he _)) hn hdb (he _) rfl) (td_cb h hr)
theorem pdf_b1 {r : List V → Hp → VK → Prop} {R : List γ → Prop} {x : Str} {id : String} (hc : ∀ X, Good S X → CallR X (.builtin id) r) (hg : S.sc.names.lookup x = some .globalImplicit) (hm : S.mg x = none) (hv : bootBuiltins x = some (.builtin id)) (h : PD S Γ k e c1 P1) (hr : ∀ x, P1 x → RC1F r c1 x c3 R)
    (he : ∀ env : Env, starEach [e] env = (false, eval e env) :: starEach [] env) (hn : x ≠ "__name__" := by decide) (hdb : (x == ("__debug__" : Str)) = false := by decide) : PDF S Γ k (.Call (.Name x pn) [e] [] pos) c3 R :=
  pdf_of (fun X G => pe_callB (hc X G) (glb G hg) (by rw [G.mg]; exact hm) hv (pa_cons (tE_ok G) pa_nil (he _)) hn hdb (he _) rfl) (tdf_cb h hr)
theorem pdf_y1 {r : List V → Hp → VK → Prop} {R : List γ → Prop} {x : Str} {T : String} (hc : ∀ X, Good S X → CallR X (.type T) r) (hg : S.sc.names.lookup x = some .globalImplicit) (hm : S.mg x = none) (hv : bootBuiltins x = some (.type T)) (h : PD S Γ k e c1 P1) (hr : ∀ x, P1 x → RC1F r c1 x c3 R)
    (he : ∀ env : Env, starEach [e] env = (false, eval e env) :: starEach [] env) (hn : x ≠ "__name__" := by decide) (hdb : (x == ("__debug__" : Str)) = false := by decide) : PDF S Γ k (.Call (.Name x pn) [e] [] pos) c3 R :=
  pdf_of (fun X G => pe_callTy (hc X G) (glb G hg) (by rw [G.mg]; exact hm) hv (pa_cons (tE_ok G) pa_nil (he _)) hn hdb (he _) rfl) (tdf_cb h hr)
theorem lenG : ∀ X, Good S X → CallR X (.builtin "len") (fun xs H Q => ∃ p ys, xs = [.ref p] ∧ (SqL S.K H p ys ∨ SqT S.K H p ys) ∧ Q (.int ys.length) H) := fun X G => by rw [← G.K]; exact call_len_seq
/-! ### calls of one's own -/
theorem fnG {f : Addr} {fd : FuncData} {ps : List Str} {sp : Sp} {l : Nat} (F : FnOk S.prog S.w S.K S.mg S.base CX0 l f fd ps sp) (G : Good S X) : FnOk X.prog X.w X.K X.mg X.base CX0 l f fd ps sp := by rw [G.prog, G.w, G.K, G.mg, G.base]; exact F
theorem pd_call {ps : Addr → A → Ctxt} {kf : A → Nat} {pre : A → Prop} {PR : A → ρ → Prop} {B : Ctxt → Prop} {P' : ρ → Prop} {f : Addr} {fd : FuncData} {pn' : List Str} {x : Str} {l : Nat} (F : FnOk S.prog S.w S.K S.mg S.base CX0 l f fd pn' (spD ps kf pre cr PR)) (hl : l ≤ S.lv) (hg : S.sc.names.lookup x = some .globalImplicit)
    (hm : S.mg x = some (.ref f)) (hk : PySem.W.keepIn S.K (.ref f) = true) (hb : Binds S.K fd pn' []) (h : PDA S Γ k1 (e :: es) B) (hc : ∀ as, B as → ∃ a b, as = ps b a ∧ pre a ∧ kf a ≤ k2 ∧ ∀ x, PR a x → P' x)
    (he : ∀ env : Env, starEach (e :: es) env = (false, eval e env) :: starEach es env) (hpl : ∀ env : Env, (backTo pos (starEach es env)).any (·.1) = false) (hdb : (x == ("__debug__" : Str)) = false := by decide) : PD S Γ (k1 + k2) (.Call (.Name x pn) (e :: es) [] pos) cr P' :=
  pd_of (fun X G => pe_call (fnG F G) (G.room.mono hl) (glb G hg) (by rw [G.mg]; exact hm) (by rw [G.K]; exact hk) (by rw [G.K]; exact hb) .nil pass0 (tA_ok G) hdb (he _) (hpl _)) (td_call h hc)
theorem cxG {P : Program} {w : World} {K : PySem.W.Frag} {mg : Str → Option Value} {base : Heap} {N : List Str} {qual : Str} {st : Stmt} {f : Addr} {cdv : Value} {A : Around} {outer : List Env} {s : Shared} {H : Hp} {E : XK} {lv : Nat} (hr : Room lv (A.deeper (PyProof.Rows.envOfC qual (defScope st) s.heap.objs.size f cdv))) (nd : N.Nodup) :
    Good ⟨N, defScope st, K, mg, P, w, base, lv, fun _ => true, false⟩ (cxOf CX0 P w K mg base N qual (defScope st) f cdv A outer s H E).nox := ⟨rfl, rfl, rfl, rfl, rfl, rfl, rfl, rfl, hr, rfl, rfl, nd, fun h => nomatch h⟩
/-- a def keeps its promise, by its body -/
theorem fn_D {P : Program} {w : World} {K : PySem.W.Frag} {mg : Str → Option Value} {base : Heap} {x qual : Str} {st : Stmt} {f : Addr} {fd : FuncData} {N pn : List Str} {lv : Nat} {ps : Addr → A → Ctxt} {kf : A → Nat} {pre : A → Prop} {PR : A → ρ → Prop} (F : Fun K x qual st f fd) (Sc : FnScope N pn (defScope st))
    (hl : ∀ b a, (ps b a).length = pn.length) (hN : pn.length ≤ N.length) (one : ∀ b a, OneB (ps b a))
    (body : ∀ b a, pre a → PHs ⟨N, defScope st, K, mg, P, w, base, lv, fun _ => true, false⟩ (entry N (ps b a)) (kf a) (defBody st) { N := fun _ => False, bk := fun _ => False, ct := fun _ => False, c := cr, R := PR a }) :
    FnOk P w K mg base CX0 (lv + 1) f fd pn (spD ps kf pre cr PR) := by
  refine F.ok Sc (fun vs H Q E h => ?_) (fun cdv A outer s H vs Q E hr h => ?_)
  · obtain ⟨a, b, n, Hf, _, _, _, o, _⟩ := h
    rw [argsOk_len o]; exact hl b a
  · obtain ⟨a, b, n, Hf, hp, hn, ex, o, bx, q⟩ := h
    refine ⟨tSs ⟨N, defScope st, K, mg, P, w, base, lv, fun _ => true, false⟩ (defBody st), tSs_ok (cxG hr Sc.nd), ?_⟩
    exact body_ok (by rw [hl]; exact hN) (one b a) hn ex o bx q (body b a hp)
end
end DL

set_option Elab.async false
set_option linter.all false
set_option maxRecDepth 100000
set_option maxHeartbeats 2000000
namespace DL
open PySem PySem.Spec L2
section
variable {S : Stc} {X : Cx}
variable {Γ Γ1 Γ2 Γ3 : Ctxt} {k k1 k2 k3 kk kt ke : Nat} {A α β γ ρ : Type} {c : Cod α} {c' : Cod β} {cr : Cod ρ} {c1 : Cod α} {c2 : Cod β} {c3 : Cod γ} {P P1 : α → Prop} {P2 : β → Prop} {P3 : γ → Prop} {te to ti : TE} {tt : TT} {t u : TS} {p : Po ρ} {ta tx : TA} {e a b d : Expr} {es : List Expr} {pos pos' pn : Pos}
variable {x : α} {y : β} {z : γ}
/-! ### nothing is drawn, one value -/
theorem tor {x y : Bool} {rest : List Expr} (h1 : PDT S Γ 0 a (· = x)) (h2 : x = false → PDW S Γ 0 (.BoolOp .Or (b :: rest) pos) (· = y)) : PDW S Γ 0 (.BoolOp .Or (a :: b :: rest) pos) (· = (x || y)) := pdw_or (k1 := 0) (k2 := 0) h1 h2
theorem pand {x y : Bool} {rest : List Expr} (h1 : PD S Γ 0 a cBool (· = x)) (h2 : x = true → PD S Γ 0 (.BoolOp .And (b :: rest) pos) cBool (· = y)) : PD S Γ 0 (.BoolOp .And (a :: b :: rest) pos) cBool (· = (x && y)) := pd_and (k1 := 0) (k2 := 0) h1 h2
theorem pt2 {kx : Nat} (ha : PD S Γ 0 a c1 (· = x)) (hb : PD S Γ 0 b c2 (· = y)) (hs : ∀ env : Env, starEach [a, b] env = (false, eval a env) :: starEach [b] env) (hs2 : ∀ env : Env, starEach [b] env = (false, eval b env) :: starEach [] env) : PD S Γ 0 (.Tuple [a, b] kx pos) (cT2 c1 c2) (· = (x, y)) := pd_t2' (k1 := 0) (k2 := 0) ha hb hs hs2
/-- a list, item by item -/
inductive PDL {α : Type} (S : Stc) (Γ : Ctxt) (c : Cod α) : List Expr → List α → Prop
  | nil : PDL S Γ c [] []
  | cons {e : Expr} {es : List Expr} {x : α} {xs : List α} : PD S Γ 0 e c (· = x) → PDL S Γ c es xs → (∀ env : Env, starEach (e :: es) env = (false, eval e env) :: starEach es env) → PDL S Γ c (e :: es) (x :: xs)
theorem PDL.pda {es : List Expr} {xs : List α} (h : PDL S Γ c es xs) : PDA S Γ 0 es (· = xs.map fun x => Sl.d c x) := by
  induction h with
  | nil => exact pda_nil
  | cons h _ hs ih => exact pda_more (k1 := 0) (k2 := 0) h ih hs
theorem plst {xs : List α} (h : PDL S Γ c es xs) (hl : xs.length ≤ 1000) : PDF S Γ 0 (.List es pos) c (· = xs) := pdf_lst h.pda fun as e => ⟨xs, e, hl, rfl⟩
theorem ptup {kx : Nat} {xs : List α} (h : PDL S Γ c es xs) (hl : xs.length ≤ 1000) : PD S Γ 0 (.Tuple es kx pos) (cTup c) (· = xs) := pd_tupl h.pda fun as e => ⟨xs, e, hl, rfl⟩
theorem pb1 {r : List V → Hp → VK → Prop} {nm : Str} {id : String} (hc : ∀ X, Good S X → CallR X (.builtin id) r) (hg : S.sc.names.lookup nm = some .globalImplicit) (hm : S.mg nm = none) (hv : bootBuiltins nm = some (.builtin id)) (h : PD S Γ 0 e c1 (· = x)) (hr : RC1 r c1 x c3 P3)
    (he : ∀ env : Env, starEach [e] env = (false, eval e env) :: starEach [] env) (hn : nm ≠ "__name__" := by decide) (hdb : (nm == ("__debug__" : Str)) = false := by decide) : PD S Γ 0 (.Call (.Name nm pn) [e] [] pos) c3 P3 :=
  pd_b1 hc hg hm hv h (fun _ h => by subst h; exact hr) he hn hdb
theorem py1 {r : List V → Hp → VK → Prop} {nm : Str} {T : String} (hc : ∀ X, Good S X → CallR X (.type T) r) (hg : S.sc.names.lookup nm = some .globalImplicit) (hm : S.mg nm = none) (hv : bootBuiltins nm = some (.type T)) (h : PD S Γ 0 e c1 (· = x)) (hr : RC1 r c1 x c3 P3)
    (he : ∀ env : Env, starEach [e] env = (false, eval e env) :: starEach [] env) (hn : nm ≠ "__name__" := by decide) (hdb : (nm == ("__debug__" : Str)) = false := by decide) : PD S Γ 0 (.Call (.Name nm pn) [e] [] pos) c3 P3 :=
  pd_y1 hc hg hm hv h (fun _ h => by subst h; exact hr) he hn hdb
/-! ### comprehensions: filter and map -/
/-! ### blocks -/
variable {st : Stmt} {sts sts2 rest : List Stmt} {N1 : Ctxt → Prop}
theorem bret {R' : ρ → Prop} (h : PD S Γ k e p.c R') (hr : ∀ x, R' x → p.R x) : PHs S Γ k [.Return (some e) pos] p := phs_one (ph_ret' h hr)
/-- if e: .. return ..; rest -/
theorem bifR {b' : Bool → Prop} (h : PDT S Γ k1 e b') (ha : b' true → PHs S Γ k2 sts { p with N := fun _ => False }) (hb : b' false → PHs S Γ k3 rest p) : PHs S Γ (k1 + k2 + k3) (.If e sts [] pos :: rest) p :=
  phs_cons (N1 := fun G => b' false ∧ G = Γ) (k1 := k1 + k2) (HS.le (ph_if (k2 := k2) (k3 := 0) h (fun q => (ha q).imp (N' := fun G => b' false ∧ G = Γ) fun _ z => z.elim) fun q => phs_nil ⟨q, rfl⟩) (by omega)) fun Γ1 ⟨q, e⟩ => by subst e; exact hb q
theorem bfor {tg iter : Expr} {X' : List α → Prop} {kn : Nat} (vs : List Nat) (I : List α → List α → Ctxt → Prop) (hw : PDI S Γ k tg iter c X') (h0 : ∀ xs, X' xs → I xs [] Γ) (hk : ∀ xs, X' xs → xs.length * kk ≤ kn)
    (hs : ∀ xs, X' xs → ∀ pre x post Γ1, xs = pre ++ x :: post → I xs pre Γ1 → ∃ Γ2 is, PDG S tg c x Γ1 Γ2 is ∧ PHs S Γ2 kk sts { N := fun Γ' => NoBxs Γ' vs ∧ I xs (pre ++ [x]) (wipeC Γ' vs), ct := I xs (pre ++ [x]), bk := fun _ => False, c := p.c, R := p.R })
    (hfs : ∀ (env : Env) x, foldedSetIterable iter env x = pure x) (hr : ∀ xs Γ1, X' xs → I xs xs Γ1 → PHs S Γ1 k2 rest p) : PHs S Γ (k + kn + k2) (.For tg iter sts [] pos :: rest) p :=
  phs_cons (N1 := fun G => ∃ xs, X' xs ∧ I xs xs G) (ph_forV vs I hw h0 hk (fun xs hx pre x post Γ1 e hI => by
    obtain ⟨Γ2, is, g, h⟩ := hs xs hx pre x post Γ1 e hI
    exact ⟨Γ2, is, g, fun O n σ Hf H hn s D q1 q2 q3 q4 => h O n σ Hf H hn s D q1 (fun _ _ _ _ z _ => z.elim) q3 q4⟩) (fun xs Γ1 hx hI => ⟨xs, hx, hI⟩) hfs) fun Γ1 ⟨xs, hx, hI⟩ => hr xs Γ1 hx hI
theorem kcl : (some NameKind.cell == some NameKind.local) = false := rfl
theorem sw_cell {sc : Scope} {nm : Str} {v : Expr} {l : Nat} {pp : Pos} (h : sc.names.lookup nm = some .cell) (env : Env) (he : env.scope = sc) : swapsWith v (some (.Name nm pp)) l env = pure false := by
  have ek : env.kindOf nm = some .cell := by show env.scope.names.lookup nm = _; rw [he]; exact h
  cases v <;> first | rfl | (show (pure (env.blockKind == ScopeKind.function && env.kindOf nm == some .local && _ && _) : Sem Bool) = pure false; rw [ek, kcl, Bool.and_false, Bool.false_and, Bool.false_and])
end
end DL

set_option Elab.async false
set_option linter.all false
set_option maxRecDepth 100000
set_option maxHeartbeats 2000000
namespace DL
open PySem PySem.Spec L2
/-- a list or a tuple -/
def cSeq {α : Type} (c : Cod α) : Cod (List α) := ⟨fun H v xs => (cList c).rep H v xs ∨ (cTup c).rep H v xs, fun e h => h.imp ((cList c).mono e) ((cTup c).mono e)⟩
section
variable {S : Stc} {X : Cx}
variable {Γ Γ1 Γ2 Γ3 : Ctxt} {k k1 k2 k3 kk kt ke : Nat} {A α β γ ρ : Type} {c : Cod α} {c' : Cod β} {cr : Cod ρ} {c1 : Cod α} {c2 : Cod β} {c3 : Cod γ} {P P1 : α → Prop} {P2 : β → Prop} {P3 : γ → Prop} {te to ti : TE} {tt : TT} {t u : TS} {p : Po ρ} {ta tx : TA} {e a b d : Expr} {es : List Expr} {pos pos' pn pt : Pos}
variable {x : α} {y : β} {z : γ}
theorem TD.seqT {xs : List α → Prop} (h : TD te Γ k (cTup c) xs) : TD te Γ k (cSeq c) xs := h.conv fun H v x px r => ⟨x, px, .inr r⟩
theorem sq_seq {K : PySem.W.Frag} {Hf H : Hp} {v : V} {xs : List α} (e : Ex Hf H) (h : (cSeq c).rep Hf v xs) : ∃ a vs, v = .ref a ∧ (SqL K H a vs ∨ SqT K H a vs) ∧ Paired (c.rep Hf) vs xs ∧ vs.length ≤ LB := by
  rcases h with ⟨a, vs, h1, h2, h3, h4⟩ | ⟨a, vs, h1, h2, h3, h4⟩
  · exact ⟨a, vs, h1, .inl (SqL.of (e _ _ h2)), h3, h4⟩
  · exact ⟨a, vs, h1, .inr (SqT.of (e _ _ h2)), h3, h4⟩
abbrev rLenR (K : PySem.W.Frag) : List V → Hp → VK → Prop := fun xs H Q => ∃ p ys, xs = [.ref p] ∧ (SqL K H p ys ∨ SqT K H p ys) ∧ Q (.int ys.length) H
abbrev rListR (K : PySem.W.Frag) : List V → Hp → VK → Prop := fun xs H Q => ∃ p ys, xs = [.ref p] ∧ (SqL K H p ys ∨ SqT K H p ys) ∧ ∀ l, H l = none → Q (.ref l) (upd H l (.lst ys))
abbrev rTupR (K : PySem.W.Frag) : List V → Hp → VK → Prop := fun xs H Q => ∃ p ys, xs = [.ref p] ∧ ((SqL K H p ys ∧ ∀ l, H l = none → Q (.ref l) (upd H l (.tup ys))) ∨ (SqT K H p ys ∧ Q (.ref p) H))
theorem rc_len {K : PySem.W.Frag} {xs : List α} : RC1 (rLenR K) (cSeq c) xs cInt (· = (xs.length : Int)) := fun Hf H v e h Q q => by
  obtain ⟨a, vs, h1, h2, h3, _⟩ := sq_seq (K := K) e h
  exact ⟨a, vs, by rw [h1], h2, q _ Hf H _ rfl (by rw [paired_len h3]; rfl) Fr.refl e⟩
theorem rc_list {K : PySem.W.Frag} {xs : List α} : RC1F (rListR K) (cSeq c) xs c (· = xs) := fun Hf H v e h Q q => by
  obtain ⟨a, vs, h1, h2, h3, h4⟩ := sq_seq (K := K) e h
  exact ⟨a, vs, by rw [h1], h2, fun l hl => q l vs xs rfl hl h3 h4⟩
theorem rc_tuple {K : PySem.W.Frag} {xs : List α} : RC1 (rTupR K) (cSeq c) xs (cTup c) (· = xs) := fun Hf H v e h Q q => by
  rcases h with ⟨a, vs, h1, h2, h3, h4⟩ | ⟨a, vs, h1, h2, h3, h4⟩
  · refine ⟨a, vs, by rw [h1], .inl ⟨SqL.of (e _ _ h2), fun l hl => ?_⟩⟩
    exact q xs (upd Hf l (.tup vs)) _ _ rfl ⟨l, vs, rfl, upd_same, paired_mono h3 (fun _ _ z => c.mono (Ex.new (e.back hl)) z), h4⟩ (Fr.new e hl) (e.both (e.back hl))
  · exact ⟨a, vs, by rw [h1], .inr ⟨SqT.of (e _ _ h2), q xs Hf H _ rfl ⟨a, vs, rfl, h2, h3, h4⟩ Fr.refl e⟩⟩
theorem listG : ∀ X, Good S X → CallR X (.type "list") (rListR S.K) := fun X G => by rw [← G.K]; exact call_list_of
theorem tupG : ∀ X, Good S X → CallR X (.type "tuple") (rTupR S.K) := fun X G => by rw [← G.K]; exact call_tuple_of
variable {xs : List α}
theorem plen (hg : S.sc.names.lookup ("len" : Str) = some .globalImplicit) (hm : S.mg "len" = none) (h : PD S Γ 0 e (cSeq c) (· = xs)) (he : ∀ env : Env, starEach [e] env = (false, eval e env) :: starEach [] env) : PD S Γ 0 (.Call (.Name "len" pn) [e] [] pos) cInt (· = (xs.length : Int)) := pb1 lenG hg hm PySem.boot_len h rc_len he
/-- walks over either -/
theorem pdi_seq {tg : Expr} {R : List α → Prop} (h : PD S Γ k e (cSeq c) R) : PDI S Γ k tg e c R := fun O n σ Hf H hn s Rr q => by
  obtain hh := h O n σ Hf H hn s
  -- the reading of e decides which rule walks
  refine ⟨fun σ H R => tE S e σ H fun v H1 => ∃ a, v = .ref a ∧ ((∃ vs, SqL S.K H1 a vs) ∧ R (Itl S.K a) H1 ∨ (∃ vs, SqT S.K H1 a vs) ∧ R (Itt S.K a) H1), fun X G => ?_, ?_⟩
  · refine ⟨fun pins s σ H R I w => ?_⟩
    refine thn ((tE_ok G).run pins s σ H _ I w) fun v s1 ⟨x, H1, I1, r1, a, ex, q1⟩ => ?_
    subst ex
    have hK := G.K
    rcases q1 with ⟨⟨vs, hs⟩, q1⟩ | ⟨⟨vs, hs⟩, q1⟩
    · have one : PE X e (fun σ H Q => tE S e σ H Q) := tE_ok G
      cases r1
      rw [← hK] at hs q1
      obtain ⟨its, rv, p, hz⟩ := I1.list hs
      refine wpAny_pyIter_list p.isList ?_
      refine ⟨s1.heap.objs.size, [s1.heap.objs.size], _, _, H1, rfl, I1.kept (t' := s1.toks) fun b o e => Heap.get?_push_of_some _ e, turn_list a _, ⟨_, Heap.get?_push_size _ rfl, rfl, rfl⟩, fun b hb => ?_, q1⟩
      have e : b = s1.heap.objs.size := by simpa using hb
      subst e
      exact I1.fpOk (Nat.le_refl _) (I1.hok.fresh (Nat.le_refl _))
    · cases r1
      rw [← hK] at hs q1
      obtain ⟨its, rv, p, hz⟩ := I1.tuple hs
      refine wpAny_pyIter_tuple (show s1.heap.IsTuple a its.toArray from p) ?_
      refine ⟨s1.heap.objs.size, [s1.heap.objs.size], _, _, H1, rfl, I1.kept (t' := s1.toks) fun b o e => Heap.get?_push_of_some _ e, turn_tuple a _, ⟨_, Heap.get?_push_size _ rfl, rfl, rfl⟩, fun b hb => ?_, q1⟩
      have e : b = s1.heap.objs.size := by simpa using hb
      subst e
      exact I1.fpOk (Nat.le_refl _) (I1.hok.fresh (Nat.le_refl _))
  · refine hh _ fun v Hf' H' xs px r f s' => ?_
    rcases r with ⟨a, vs, h1, h2, h3, h4⟩ | ⟨a, vs, h1, h2, h3, h4⟩
    · refine ⟨a, h1, .inl ⟨⟨vs, SqL.of (s'.ex _ _ h2)⟩, q _ Hf' H' xs px ?_ (by rw [← paired_len h3]; exact h4) f s'⟩⟩
      have hl := paired_len h3
      exact ⟨fun Hf2 H2 i e1 e2 hi => ⟨vs, vs[i]'(by omega), SqL.of (e2 _ _ (e1 _ _ h2)), List.getElem?_eq_getElem (by omega)⟩, fun Hf2 H2 e1 e2 => ⟨vs, SqL.of (e2 _ _ (e1 _ _ h2)), by omega⟩, fun Hf2 H2 i w H1 x e1 e2 hy hx => by
        obtain ⟨rfl, hy⟩ := hy
        exact ⟨Hf2, c.mono e1 (paired_get h3 (hy vs (SqL.of (e2 _ _ (e1 _ _ h2)))) hx), Fr.refl, e2⟩⟩
    · refine ⟨a, h1, .inr ⟨⟨vs, SqT.of (s'.ex _ _ h2)⟩, q _ Hf' H' xs px ?_ (by rw [← paired_len h3]; exact h4) f s'⟩⟩
      have hl := paired_len h3
      exact ⟨fun Hf2 H2 i e1 e2 hi => ⟨vs, vs[i]'(by omega), SqT.of (e2 _ _ (e1 _ _ h2)), List.getElem?_eq_getElem (by omega)⟩, fun Hf2 H2 e1 e2 => ⟨vs, SqT.of (e2 _ _ (e1 _ _ h2)), by omega⟩, fun Hf2 H2 i w H1 x e1 e2 hy hx => by
        obtain ⟨rfl, hy⟩ := hy
        exact ⟨Hf2, c.mono e1 (paired_get h3 (hy vs (SqT.of (e2 _ _ (e1 _ _ h2)))) hx), Fr.refl, e2⟩⟩
end
end DL

set_option Elab.async false
set_option linter.all false
set_option maxRecDepth 100000
set_option maxHeartbeats 2000000
namespace DL
open PySem PySem.Spec L2 StX
section
variable {S : Stc} {X : Cx}
variable {Γ Γ1 Γ2 Γ3 : Ctxt} {k k1 k2 k3 kk kt ke : Nat} {A α β γ ρ : Type} {c : Cod α} {c' : Cod β} {cr : Cod ρ} {c1 : Cod α} {c2 : Cod β} {c3 : Cod γ} {P P1 : α → Prop} {P2 : β → Prop} {P3 : γ → Prop} {te to ti : TE} {tt : TT} {t u : TS} {p : Po ρ} {ta tx : TA} {e a b d : Expr} {es : List Expr} {pos pos' pn pt : Pos}
variable {x : α} {y : β} {z : γ} {xs : List α}
/-! ### isinstance -/
/-- the class of such data -/
def TyC {α : Type} (K : PySem.W.Frag) (c : Cod α) (x : α) (t : Value) : Prop := ∀ H v, c.rep H v x → TyX K H v t
variable {K : PySem.W.Frag}
theorem ty_int {i : Int} : TyC K cInt i (.type "int") := fun H v h => by obtain rfl := h; exact .base (.int i)
theorem ty_list : TyC K (cList c) xs (.type "list") := fun H v ⟨a, vs, h1, h2, _⟩ => by subst h1; exact .base (.lst h2)
theorem ty_tup : TyC K (cTup c) xs (.type "tuple") := fun H v ⟨a, vs, h1, h2, _⟩ => by subst h1; exact .base (.tup h2)
theorem ty_t2 {w : α × β} : TyC K (cT2 c1 c2) w (.type "tuple") := fun H v ⟨a, _, _, h1, h2, _⟩ => by subst h1; exact .base (.tup h2)
structure OwnC (K : PySem.W.Frag) (C : Addr) : Prop where
  cl : Cls K C
  ha : PySem.W.findIn K (.ref C) "__class__" = some (some (.builtin "object.__class__"))
  hn : PySem.W.specialIn K (.builtin "object.__class__") "__get__" = some (some (.builtin "getset_descriptor.__get__"))
  ht : PySem.W.takesIn K (.builtin "object.__class__") = some true
  hm : PySem.W.mroIn K C (.type "object") = some true
theorem ty_ins {C : Addr} {ω : Type} {F : Hp → List (Str × V) → ω → Prop} {hm : ∀ {H H' fs y}, Ex H H' → F H fs y → F H' fs y} {y : ω} (o : OwnC K C) : TyC K (cIns C F hm) y (.ref C) := fun H v ⟨a, dx, fs, h1, h2, _⟩ => by subst h1; exact .base (.ins h2 o.cl o.ha o.hn o.ht o.hm)
/-- isinstance(e, T), T the name of a built-in type or of an own class -/
theorem pisi {T : Str} {cv : V} {u ty : Value} {r : Bool} {p1 p2 : Pos} (hg : S.sc.names.lookup ("isinstance" : Str) = some .globalImplicit) (hm : S.mg "isinstance" = none) (h : PD S Γ 0 e c (· = x)) (hT : ∀ X, Good S X → PE X (.Name T p2) (tC cv)) (hc : ClsV cv u) (ht : TyC S.K c x ty) (hk : PySem.W.kitOne S.K ty u = some r)
    (he : ∀ env : Env, starEach [e, .Name T p2] env = (false, eval e env) :: starEach [.Name T p2] env) : PD S Γ 0 (.Call (.Name "isinstance" p1) [e, .Name T p2] [] pos) cBool (· = r) :=
  pd_of (te := tCB (rIsi S.K) (tCons (tE S e) (tCons (tC cv) tNil))) (fun X G => by
    rw [← G.K]
    exact pe_callB call_isi (glb G hg) (by rw [G.mg]; exact hm) (by decide +kernel) (pa_cons (tE_ok G) (pa_cons (hT X G) pa_nil) (he _)) (by decide) (by decide) (he _) rfl)
    fun O n σ Hf H hn s Q q => h O n σ Hf H hn s _ fun v Hf' H' y py r' f s' => by
      subst py
      exact ⟨v, cv, ty, u, r, rfl, hc, ht _ _ (c.mono s'.ex r'), hk, q _ Hf' H' r rfl rfl f s'⟩
theorem nmTy {T : Str} {n : String} {p2 : Pos} (hg : S.sc.names.lookup T = some .globalImplicit) (hm : S.mg T = none) (hv : bootBuiltins T = some (.type n)) (hn : T ≠ "__name__" := by decide) (hd : (T == ("__debug__" : Str)) = false := by decide) : ∀ X, Good S X → PE X (.Name T p2) (tC (.ty n)) :=
  fun X G => pe_bltn (glb G hg) (by rw [G.mg]; exact hm) hv rfl hn hd
theorem nmOwn {T : Str} {C : Addr} {p2 : Pos} (hg : S.sc.names.lookup T = some .globalImplicit) (hm : S.mg T = some (.ref C)) (hd : (T == ("__debug__" : Str)) = false := by decide) : ∀ X, Good S X → PE X (.Name T p2) (tC (.ref C)) :=
  fun X G => pe_glob (glb G hg) (by rw [G.mg]; exact hm) rfl hd
theorem kLT_list : PySem.W.kitAny K (.type "list") [.type "list", .type "tuple"] = some true := kitAny_cons (b := true) (kit_ty (by decide +kernel)) (fun h => by cases h) fun _ => rfl
theorem kLT_tuple : PySem.W.kitAny K (.type "tuple") [.type "list", .type "tuple"] = some true := kitAny_cons (b := false) (kit_ty (by decide +kernel)) (fun _ => kitAny_cons (b := true) (kit_ty (by decide +kernel)) (fun h => by cases h) fun _ => rfl) (fun h => by cases h)
/-! ### all, any, sum, abs, max, min -/
theorem rc_all {K : PySem.W.Frag} {bs : List Bool} : RC1 (rAll K) (cList cBool) bs cBool (· = bs.all id) := fun Hf H v e ⟨a, vs, h1, h2, h3, _⟩ Q q => by
  have := bools_of_paired h3
  subst this
  exact ⟨a, bs, by rw [h1], SqL.of (e _ _ h2), q _ Hf H _ rfl rfl Fr.refl e⟩
theorem rc_any {K : PySem.W.Frag} {bs : List Bool} : RC1 (rAny K) (cList cBool) bs cBool (· = bs.any id) := fun Hf H v e ⟨a, vs, h1, h2, h3, _⟩ Q q => by
  have := bools_of_paired h3
  subst this
  exact ⟨a, bs, by rw [h1], SqL.of (e _ _ h2), q _ Hf H _ rfl rfl Fr.refl e⟩
theorem rc_sum {K : PySem.W.Frag} {ns : List Int} : RC1 (rSum K) (cList cInt) ns cInt (· = ns.sum) := fun Hf H v e ⟨a, vs, h1, h2, h3, _⟩ Q q => by
  have := ints_of_paired h3
  subst this
  exact ⟨a, ns, by rw [h1], SqL.of (e _ _ h2), q _ Hf H _ rfl rfl Fr.refl e⟩
theorem allG : ∀ X, Good S X → CallR X (.builtin "all") (rAll S.K) := fun X G => by rw [← G.K]; exact cr_all G.calm
theorem anyG : ∀ X, Good S X → CallR X (.builtin "any") (rAny S.K) := fun X G => by rw [← G.K]; exact cr_any G.calm
theorem sumG : ∀ X, Good S X → CallR X (.builtin "sum") (rSum S.K) := fun X G => by rw [← G.K]; exact cr_sum G.calm
/-! ### sorted -/
theorem paired_ints {H : Hp} : ∀ ns : List Int, Paired (cInt.rep H) (ns.map V.int) ns
  | [] => .nil
  | _ :: ns => .cons rfl (paired_ints ns)
theorem rc_sortI {K : PySem.W.Frag} {ns : List Int} : RC1F (rSortedI K) (cList cInt) ns cInt (fun ys => ys.Perm ns ∧ ys.Pairwise (· ≤ ·)) := fun Hf H v e ⟨a, vs, h1, h2, h3, h4⟩ Q q => by
  have := ints_of_paired h3
  subst this
  refine ⟨a, ns, by rw [h1], SqL.of (e _ _ h2), fun ns' p hp hs hn => q p _ ns' ⟨hp, hs⟩ hn (paired_ints ns') ?_⟩
  rw [List.length_map, hp.length_eq]
  rw [List.length_map] at h4; exact h4
theorem sortIG : ∀ X, Good S X → CallR X (.builtin "sorted") (rSortedI S.K) := fun X G => by rw [← G.K]; exact cr_sortedI
/-! ### chains of comparisons of ints -/
theorem pchain {op op' : CmpOp} {g g' : Int → Int → Bool} {i j l : Int} (ho : ∀ X : Cx, OpR X (compareOp op) (rI0 fun i j => .bl (g i j))) (ho' : ∀ X : Cx, OpR X (compareOp op') (rI0 fun i j => .bl (g' i j))) (ha : PD S Γ 0 a cInt (· = i)) (hb : PD S Γ 0 b cInt (· = j)) (hd : PD S Γ 0 d cInt (· = l)) (hm : lastMarks [op, op'] [b, d] = false) :
    PD S Γ 0 (.Compare a [op, op'] [b, d] pos) cBool (· = (g i j && g' j l)) :=
  pd_of (fun X G => pe_chain (ho X) (ho' X) (tE_ok G) (tE_ok G) (tE_ok G) hm) fun O n σ Hf H hn s Q q => ha O n σ Hf H hn s _ fun v Hf1 H1 x1 p1 r1 f1 s1 => hb O n σ Hf1 H1 hn s1 _ fun v2 Hf2 H2 x2 p2 r2 f2 s2 => by
    subst p1 p2
    obtain rfl := r1
    obtain rfl := r2
    refine ⟨x1, x2, rfl, rfl, g x1 x2, rfl, ?_⟩
    cases hg : g x1 x2 with
    | true =>
      refine iteT (hd O n σ Hf2 H2 hn s2 _ fun v3 Hf3 H3 x3 p3 r3 f3 s3 => ?_)
      subst p3
      obtain rfl := r3
      exact ⟨x2, x3, rfl, rfl, q _ Hf3 H3 (g' x2 x3) (by rw [hg, Bool.true_and]) rfl ((f1.trans f2 fun _ z => .inl z).trans f3 fun _ z => .inl z) s3⟩
    | false => exact iteF (q _ Hf2 H2 false (by rw [hg, Bool.false_and]) rfl (f1.trans f2 fun _ z => .inl z) s2)
/-! ### tuples put together -/
theorem pap {F : V → α → Prop} : ∀ {l1 l2 : List V} {m1 m2 : List α}, Paired F l1 m1 → Paired F l2 m2 → Paired F (l1 ++ l2) (m1 ++ m2)
  | _, _, _, _, .nil, h => h
  | _, _, _, _, .cons r t, h => .cons r (pap t h)
theorem rd_catT {K : PySem.W.Frag} {xs ys : List α} (lb : xs.length + ys.length ≤ LB) : RD (rCatA K) (cTup c) xs (cTup c) ys (cTup c) (· = xs ++ ys) := fun Hf H v u e ⟨a, vs, h1, h2, h3, h4⟩ ⟨b, us, g1, g2, g3, g4⟩ Q q => by
  have l1 := paired_len h3
  have l2 := paired_len g3
  refine ⟨a, b, vs, us, h1, g1, SqT.of (e _ _ h2), SqT.of (e _ _ g2), lb_line (by omega), fun z => ?_, fun _ z => ?_, fun _ _ p hp => ?_⟩
  · subst z
    cases h3
    exact q ys Hf H _ (by simp) ⟨b, us, rfl, g2, g3, g4⟩ Fr.refl e
  · subst z
    cases g3
    exact q xs Hf H _ (by simp) ⟨a, vs, rfl, h2, h3, h4⟩ Fr.refl e
  · exact q _ (upd Hf p (.tup (vs ++ us))) _ _ rfl ⟨p, vs ++ us, rfl, upd_same, paired_mono (pap h3 g3) (fun _ _ z => c.mono (Ex.new (e.back hp)) z), by rw [List.length_append]; omega⟩ (Fr.new e hp) (e.both (e.back hp))
theorem catTG : ∀ X, Good S X → OpR X (binaryOp .Add) (rCatA S.K) := fun X G => by rw [← G.K]; exact op_catA
/-! ### in a list of data at any depth -/
theorem rd_inD [DecidableEq α] {K : PySem.W.Frag} {x : α} {xs : List α} (q : EqC c) (hn : q.n ≤ 63) : RD (rInD K) c x (cList c) xs cBool (· = decide (x ∈ xs)) := fun Hf H v u e h1 h2 Q k => by
  have hd : (eList q).n ≤ 64 := by show q.n + 1 ≤ 64; omega
  refine ⟨q.D x, xs.map q.D, q.dp K H _ _ (c.mono e h1), (eList q).dp K H _ _ ((cList c).mono e h2), by unfold SeqAt.shaped; rw [q.lay, Bool.true_and]; exact decide_eq_true (Nat.le_trans (q.dep x) (by omega)), by unfold SeqAt.shaped; rw [show (PyData.list (xs.map q.D)).canLay0 = true from (eList q).lay xs, Bool.true_and]; exact decide_eq_true (Nat.le_trans ((eList q).dep xs) hd), ?_⟩
  have : ((xs.map q.D).any fun z => PyData.eqv z (q.D x)) = decide (x ∈ xs) := by
    rw [List.any_map]
    have : ∀ l : List α, (l.any ((fun z => PyData.eqv z (q.D x)) ∘ q.D)) = decide (x ∈ l) := fun l => by
      induction l with
      | nil => simp
      | cons y l ih =>
        rw [List.any_cons, ih]
        show (PyData.eqv (q.D y) (q.D x) || _) = _
        rw [q.eqv]
        by_cases e1 : y = x
        · subst e1; simp
        · have e2 : ¬ x = y := fun z => e1 z.symm
          simp [e1, e2]
    exact this xs
  rw [this]
  exact k _ Hf H _ rfl rfl Fr.refl e
theorem inDG (hl : True) : ∀ X, Good S X → OpR X (compareOp .In) (rInD S.K) := fun X G => by rw [← G.K]; exact op_inD (by have := G.room.un; omega)
/-! ### xs[::-1] -/
theorem prev {kx : Nat} {p1 p2 p3 : Pos} (h : PD S Γ 0 e (cList c) (· = xs)) : PDF S Γ 0 (.Subscript e (.Slice none none (some (.UnaryOp .USub (.Constant (.int 1) kx p1) p2)) p3) pos) c (· = xs.reverse) :=
  pdf_of (te := tRevL S.K (tE S e)) (fun X G => by rw [← G.K]; exact pe_revL (tE_ok G)) fun O n σ Hf H hn s Q q => h O n σ Hf H hn s _ fun v Hf' H' y py ⟨a, vs, h1, h2, h3, h4⟩ f s' => by
    subst py
    refine ⟨a, vs, h1, SqL.of (s'.ex _ _ h2), fun p hp => ?_⟩
    have pr : ∀ {l : List V} {m : List α}, Paired (c.rep Hf') l m → Paired (c.rep Hf') l.reverse m.reverse := fun {l m} w => by
      induction w with
      | nil => exact .nil
      | cons r t ih => rw [List.reverse_cons, List.reverse_cons]; exact Paired.snoc ih r
    exact q p vs.reverse Hf' _ _ rfl upd_same (s'.ex.back hp) (f.dom p hp) (pr h3) (by rw [List.length_reverse]; exact h4) (f.trans (Fr.newO (M := Bx Γ) hp) fun _ z => .inl z) (s'.grow0 (Fr.newO hp) (s'.ex.trans (Ex.new hp)))
/-! ### [*xs, e, ..] -/
end
end DL

set_option Elab.async false
set_option linter.all false
set_option maxRecDepth 100000
set_option maxHeartbeats 4000000
namespace DL
open PySem PySem.Spec L2
open PyProof.Rows (IntsAre)
section
variable {w : World} {P : Program} {A : Around} {s : Shared} {E : Value → Shared → Prop}
/-! ### a class of the library called: what its two own functions do -/
/-- the making function's code, then the filling one's -/
theorem tcall {T nw ini : String} {xs : List Value} {Q M : Value → Shared → Prop} (t : TypeCalled T nw ini) (ok : checkTypeCall T ⟨xs, []⟩ = pure ())
    (new : codeAny (model P w) A.in1 (.call (.builtin nw) ⟨.type T :: xs, []⟩) (wants M E) s)
    (fill : ∀ o s1, M o s1 → s1.TypeIs o T ∧ codeAny (model P w) A.in1 (.call (.builtin ini) ⟨o :: xs, []⟩) (wants (fun r s2 => r = .none ∧ Q o s2) E) s1) :
    wpAny (model P w) A (call (.type T) xs) Q E s := by
  have m1 := t.made; have m2 := t.sub; have m3 := t.notType; have m4 := t.canCreate
  rcases t.mro with ⟨c0, cs, m5⟩
  apply wpAny_call
  apply codeAny_of_tree
  show wpAny _ _ (callAny (.type T) ⟨xs, []⟩) _ _ _
  apply wpAny_pure
  constructor
  · exact Code.quiet_builtin _ (by decide +kernel)
  apply codeAny_builtin F.entry_type_call
  rw [Around.under_plain (weight_type_call_type T xs []) rfl]
  repeat any_goals first | assumption | wp_step
  apply codeAny_mono new
  rintro (e | (v | _ | _ | _)) s1 q
  all_goals first | exact q | exact q.elim | skip
  rename_i v
  obtain ⟨ty, f⟩ := fill v s1 q
  have b := t.init.bind v
  have l := t.init.lookup
  repeat any_goals first | assumption | wp_step
  apply codeAny_mono f
  intro r2 s2 z
  match r2, z with
  | .error _, z => exact z
  | .ok (.ret r), z =>
    have y : r = .none ∧ Q v s2 := z
    rw [y.1]
    have fin := y.2
    repeat any_goals first | assumption | wp_step
/-! ### set(xs) of a list of ints -/
/-- what a set just made is -/
abbrev nset (w : World) : Obj := { cls := .type "set", dict := none, data := .set #[] 0 (.fresh 0 0 (!w.params.followText "set-order")) }
/-- a list of ints poured into it -/
theorem pour {D l : Addr} {h : Heap} {items : Array Value} (id : String) (ns : List Int) {Q : Unit → Shared → Prop} (quiet : A.in1.handled = none) (hs : s.heap = h.push (nset w)) (hD : D = h.objs.size) (hl : h.IsList l items) (hit : IntsAre items.toList ns) (few : ns.length + 1 < scanBound)
    (q : ∀ (h' : Heap) (tk c : Nat), SetR w h' D (fun j => decide (j ∈ ns)) c → c ≤ ns.length → (∀ b o, h.get? b = some o → h'.get? b = some o) → Q () { s with heap := h', toks := tk }) :
    wpAny (model P w) A (Builtin.Frozenset.updateFrom id D (.ref l)) Q E s := by
  have lst : s.heap.IsList l items := by rw [hs]; exact hl.push _
  have ty : s.TypeIs (.ref l) "list" := by
    obtain ⟨o, g, c, _⟩ := lst
    exact ⟨o, g, c⟩
  have lD : l < D := by
    obtain ⟨o, g, _⟩ := hl
    rw [hD]; exact Heap.lt_size g
  have sD : s.heap.objs.size = D + 1 := by rw [hs, hD, Heap.size_push]
  have nodict : (Value.type "list" == Value.type "dict") = false := by decide
  have no1 := F.sub_list_set
  have no2 := F.sub_list_frozenset
  unfold Builtin.Frozenset.updateFrom
  -- it is no set and no dict: it is walked
  have ask : wpAny (model P w) A (Builtin.Frozenset.isAnySet (.ref l)) (fun b s1 => b = false ∧ s1 = s) E s := by
    unfold Builtin.Frozenset.isAnySet
    refine wpAny_bind (wpAny_isInstance ty no1 ?_)
    exact wpAny_isInstance ty no2 ⟨rfl, rfl⟩
  refine wpAny_bind (wpAny_mono ask (fun b s1 z => ?_) fun _ _ e => e)
  rw [z.1, z.2, if_neg Bool.false_ne_true]
  refine wpAny_bind (wpAny_typeOf ty ?_)
  rw [nodict, if_neg Bool.false_ne_true]
  refine wpAny_bind (wpAny_pyIter_list lst ?_)
  rw [sD]
  -- the iterator stands behind the set
  have walk := (Walks.list (prog := P) (w := w) (A := A.in1) quiet (D + 1) l (Nat.ne_of_lt (Nat.lt_succ_of_lt lD)) items).toS
  have apart : D ∉ [D + 1, l] := by
    intro m
    rcases List.mem_cons.mp m with e | m
    · exact absurd e (Nat.ne_of_lt (Nat.lt_succ_self D))
    · exact absurd (List.mem_singleton.mp m) (Nat.ne_of_gt lD)
  have len : items.size = ns.length := by rw [← IntsAre.length hit, Array.length_toList]
  refine wpAny_bind (wpAny_runValue ?_)
  have gs : (s.heap.push { cls := .type "list_iterator", data := .fields #[.ref l, .int 0 0] }).get? D = some (nset w) :=
    Heap.get?_push_of_some _ (by rw [hs, hD]; exact Heap.get?_push_size _ rfl)
  refine set_update_ints walk D apart ns len few (fun i v e => ?_) items.size 0 _ rfl (Nat.zero_le _) ⟨⟨_, sD ▸ Heap.get?_push_size _ rfl, rfl, rfl⟩, lst.push _⟩ ⟨0, Nat.le_refl 0, setR_new_at gs⟩ fun s' c mv le R => ?_
  · -- the i-th one
    have e' : items.toList[i]? = some v := by rw [Array.getElem?_toList]; exact e
    have hi : i < ns.length := by
      rw [← IntsAre.length hit]
      exact (List.getElem?_eq_some_iff.mp e').1
    obtain ⟨t, z⟩ := IntsAre.int_at hit i v e'
    refine ⟨ns[i], t, List.getElem?_eq_getElem hi, z.trans ?_⟩
    rw [List.getD_eq_getElem?_getD, List.getElem?_eq_getElem hi]
    rfl
  · obtain ⟨h1, m⟩ : s' = { s with heap := s'.heap, toks := s'.toks } ∧ ∀ b o, h.get? b = some o → s'.heap.get? b = some o := by
      refine ⟨?_, fun b o g => mv.heap b o (fun mem => ?_) (Heap.get?_push_of_some _ (show s.heap.get? b = some o by rw [hs]; exact Heap.get?_push_of_some _ g))⟩
      · have a1 : s'.gens = s.gens := mv.gens
        have a2 := mv.drawn
        have a3 := mv.os
        cases s'
        simp only at a1 a2 a3
        rw [a1, a2, a3]
      · have bD : b < D := by rw [hD]; exact Heap.lt_size g
        rcases List.mem_cons.mp mem with e | mem
        · exact absurd e (Nat.ne_of_lt bD)
        · exact absurd (List.mem_singleton.mp mem) (Nat.ne_of_lt (Nat.lt_succ_of_lt bD))
    show wpAny _ _ (pure ()) _ _ _
    rw [h1]
    exact wpAny_pure (q _ _ c R (by rw [← len]; exact le) m)
/-- set(xs), the whole -/
theorem set_of_list {p : Addr} {vs : Array Value} {ns : List Int} {Q : Value → Shared → Prop} (calm : A.handled = none) (at_ : s.heap.IsList p vs) (num : IntsAre vs.toList ns) (few : ns.length + 1 < scanBound)
    (q : ∀ (g : Heap) (tk n : Nat), SetR w g s.heap.objs.size (fun j => decide (j ∈ ns)) n → n ≤ ns.length → (∀ b o, s.heap.get? b = some o → g.get? b = some o) → Q (.ref s.heap.objs.size) { s with heap := g, toks := tk }) :
    wpAny (model P w) A (call (.type "set") [.ref p]) Q E s := by
  refine tcall (M := fun o s1 => o = .ref s.heap.objs.size ∧ s1 = { s with heap := s.heap.push (nset w) }) F.called_set (F.typeCall_set_1 _) (code_set_led1 _ ⟨rfl, rfl⟩) ?_
  rintro _ _ ⟨rfl, rfl⟩
  have new : (s.heap.push (nset w)).get? s.heap.objs.size = some (nset w) := Heap.get?_push_size _ rfl
  refine ⟨⟨_, new, rfl⟩, codeAny_call_builtin F.called_set.init.plain F.entry_set_init (check_set_init_1 ⟨_, new, rfl⟩ ?_)⟩
  unfold Builtin.«set.__init__» noKeywords
  generalize hu : Builtin.Frozenset.updateFrom = up
  wp_walk
  subst hu
  refine pour "set.__init__" ns (by simp [calm]) rfl rfl at_ num few fun h' tk c R le k => ?_
  exact wpAny_pure ⟨rfl, q h' tk c R le k⟩
end
end DL

set_option Elab.async false
set_option linter.all false
set_option maxRecDepth 100000
set_option maxHeartbeats 4000000
namespace DL
open PySem PySem.Spec L2
/-! ### ascending, each once -/
def ins1 (x : Int) : List Int → List Int
  | [] => [x]
  | y :: r => if x < y then x :: y :: r else if x = y then y :: r else y :: ins1 x r
def asc (l : List Int) : List Int := l.foldl (fun acc x => ins1 x acc) []
theorem mem_ins1 {x k : Int} : ∀ {l : List Int}, k ∈ ins1 x l ↔ k = x ∨ k ∈ l
  | [] => by simp [ins1]
  | y :: r => by
    unfold ins1
    split
    · simp
    · split
      · rename_i h; subst h; simp
      · rw [List.mem_cons, mem_ins1 (l := r), List.mem_cons]
        constructor
        · rintro (h | h | h)
          · exact .inr (.inl h)
          · exact .inl h
          · exact .inr (.inr h)
        · rintro (h | h | h)
          · exact .inr (.inl h)
          · exact .inl h
          · exact .inr (.inr h)
theorem ins1_up {x : Int} : ∀ {l : List Int}, l.Pairwise (· < ·) → (ins1 x l).Pairwise (· < ·)
  | [], _ => by simp [ins1]
  | y :: r, h => by
    have h' := List.pairwise_cons.mp h
    unfold ins1
    split
    · rename_i hx
      refine List.pairwise_cons.mpr ⟨fun z hz => ?_, h⟩
      rcases List.mem_cons.mp hz with e | e
      · subst e; exact hx
      · exact Int.lt_trans hx (h'.1 z e)
    · split
      · exact h
      · rename_i h1 h2
        refine List.pairwise_cons.mpr ⟨fun z hz => ?_, ins1_up h'.2⟩
        rcases mem_ins1.mp hz with e | e
        · subst e; omega
        · exact h'.1 z e
theorem ins1_len {x : Int} : ∀ {l : List Int}, l.Pairwise (· < ·) → (ins1 x l).length = if x ∈ l then l.length else l.length + 1
  | [], _ => by simp [ins1]
  | y :: r, h => by
    have h' := List.pairwise_cons.mp h
    unfold ins1
    split
    · rename_i hx
      have : ¬ x ∈ y :: r := fun z => by
        rcases List.mem_cons.mp z with e | e
        · omega
        · have := h'.1 x e; omega
      rw [if_neg this]; rfl
    · split
      · rename_i h1; subst h1; simp
      · rename_i h1 h2
        rw [List.length_cons, ins1_len h'.2]
        by_cases hr : x ∈ r
        · rw [if_pos hr, if_pos (List.mem_cons_of_mem _ hr)]; rfl
        · rw [if_neg hr, if_neg (fun z => by rcases List.mem_cons.mp z with e | e; exact h2 e; exact hr e)]; rfl
theorem foldl_up : ∀ (l acc : List Int), acc.Pairwise (· < ·) → (l.foldl (fun acc x => ins1 x acc) acc).Pairwise (· < ·)
  | [], _, h => h
  | _ :: l, _, h => foldl_up l _ (ins1_up h)
theorem asc_up (l : List Int) : (asc l).Pairwise (· < ·) := foldl_up l [] .nil
theorem foldl_mem {k : Int} : ∀ (l acc : List Int), k ∈ l.foldl (fun acc x => ins1 x acc) acc ↔ k ∈ l ∨ k ∈ acc
  | [], acc => by simp
  | x :: l, acc => by
    rw [List.foldl_cons, foldl_mem l, mem_ins1, List.mem_cons]
    constructor
    · rintro (h | h | h)
      · exact .inl (.inr h)
      · exact .inl (.inl h)
      · exact .inr h
    · rintro ((h | h) | h)
      · exact .inr (.inl h)
      · exact .inl h
      · exact .inr (.inr h)
theorem mem_asc {k : Int} {l : List Int} : k ∈ asc l ↔ k ∈ l := by unfold asc; rw [foldl_mem]; simp
theorem foldl_len : ∀ (l acc : List Int), acc.Pairwise (· < ·) → (l.foldl (fun acc x => ins1 x acc) acc).length ≤ l.length + acc.length
  | [], acc, _ => by simp
  | x :: l, acc, h => by
    rw [List.foldl_cons]
    have := foldl_len l _ (ins1_up (x := x) h)
    have := ins1_len (x := x) h
    rw [List.length_cons]
    split at this <;> omega
theorem asc_len (l : List Int) : (asc l).length ≤ l.length := by have := foldl_len l [] .nil; unfold asc; simpa using this
/-- an ascending list is the one with its members -/
theorem up_ext : ∀ {l m : List Int}, l.Pairwise (· < ·) → m.Pairwise (· < ·) → (∀ k, k ∈ l ↔ k ∈ m) → l = m
  | [], [], _, _, _ => rfl
  | [], y :: m, _, _, h => absurd ((h y).mpr List.mem_cons_self) List.not_mem_nil
  | x :: l, [], _, _, h => absurd ((h x).mp List.mem_cons_self) List.not_mem_nil
  | x :: l, y :: m, h1, h2, h => by
    have a := List.pairwise_cons.mp h1
    have b := List.pairwise_cons.mp h2
    have e : x = y := by
      rcases List.mem_cons.mp ((h x).mp List.mem_cons_self) with e | e
      · exact e
      · rcases List.mem_cons.mp ((h y).mpr List.mem_cons_self) with e2 | e2
        · exact e2.symm
        · have := b.1 x e; have := a.1 y e2; omega
    subst e
    rw [up_ext a.2 b.2 fun k => ?_]
    constructor
    · intro hk
      rcases List.mem_cons.mp ((h k).mp (List.mem_cons_of_mem _ hk)) with e | e
      · subst e; exact absurd (a.1 k hk) (Int.lt_irrefl k)
      · exact e
    · intro hk
      rcases List.mem_cons.mp ((h k).mpr (List.mem_cons_of_mem _ hk)) with e | e
      · subst e; exact absurd (b.1 k hk) (Int.lt_irrefl k)
      · exact e
theorem asc_eq {l m : List Int} (h : m.Pairwise (· < ·)) (hm : ∀ k, k ∈ m ↔ k ∈ l) : asc l = m := up_ext (asc_up l) h fun k => mem_asc.trans (hm k).symm
theorem asc_self {l : List Int} (h : l.Pairwise (· < ·)) : asc l = l := asc_eq h fun _ => Iff.rfl
theorem card_ext {l m : List Int} (h1 : l.Nodup) (h2 : m.Nodup) (h : ∀ k, k ∈ l ↔ k ∈ m) : l.length = m.length := Nat.le_antisymm (le_of h1 fun k hk => (h k).mp hk) (le_of h2 fun k hk => (h k).mpr hk)
where le_of : ∀ {l m : List Int}, l.Nodup → (∀ k, k ∈ l → k ∈ m) → l.length ≤ m.length
  | [], _, _, _ => Nat.zero_le _
  | x :: l, m, h, hs => by
    have h' := List.nodup_cons.mp h
    have hx : x ∈ m := hs x List.mem_cons_self
    have := le_of (l := l) (m := m.erase x) h'.2 fun k hk => by
      have ne : k ≠ x := fun e => h'.1 (e ▸ hk)
      exact (List.mem_erase_of_ne ne).mpr (hs k (List.mem_cons_of_mem _ hk))
    rw [List.length_erase_of_mem hx] at this
    have hp : 0 < m.length := List.length_pos_of_mem hx
    rw [List.length_cons]; omega
theorem up_nodup {l : List Int} (h : l.Pairwise (· < ·)) : l.Nodup := h.imp fun {a b} (z : a < b) => fun (e : a = b) => by omega
theorem setR_card {w : World} {h : Heap} {a : Addr} {S : Int → Bool} {n : Nat} {l : List Int} (R : SetR w h a S n) (hl : l.Nodup) (hm : ∀ k, S k = true ↔ k ∈ l) : n = l.length := by
  obtain ⟨o, es, ep, t, _, _, _, _, nd, hS, _, _, hn, _⟩ := R
  rw [← hn, ← card_ext (l := es.toList.map keyOf) nd hl fun k => (hS k).symm.trans (hm k), List.length_map, Array.length_toList]
/-! ### sets of ints, as the ascending list of their members -/
def cSet (w : World) : Cod (List Int) := ⟨fun H v xs => ∃ a S, v = .ref a ∧ H a = some (SetO w a S xs.length) ∧ (∀ k, S k = decide (k ∈ xs)) ∧ xs.Pairwise (· < ·) ∧ xs.length ≤ 1000,
  fun e ⟨a, S, h1, h2, h3⟩ => ⟨a, S, h1, e _ _ h2, h3⟩⟩
def rSetI (K : PySem.W.Frag) (w : World) : List V → Hp → VK → Prop := fun vs H Q => ∃ p ns, vs = [.ref p] ∧ (SqL K H p (ns.map V.int) ∨ SqT K H p (ns.map V.int)) ∧ ns.length ≤ 1000 ∧ ∀ l S, (∀ k, S k = decide (k ∈ asc ns)) → H l = none → Q (.ref l) (upd H l (SetO w l S (asc ns).length))
section
variable {S : Stc} {X : Cx}
variable {Γ Γ1 Γ2 Γ3 : Ctxt} {k k1 k2 k3 kk kt ke : Nat} {A α β γ ρ : Type} {c : Cod α} {c' : Cod β} {cr : Cod ρ} {c1 : Cod α} {c2 : Cod β} {c3 : Cod γ} {P P1 : α → Prop} {P2 : β → Prop} {P3 : γ → Prop} {te to ti : TE} {tt : TT} {t u : TS} {p : Po ρ} {ta tx : TA} {e a b d : Expr} {es : List Expr} {pos pos' pn pt : Pos}
variable {x : α} {y : β} {z : γ} {xs : List α} {K : PySem.W.Frag} {w : World} {ns : List Int}
theorem dec_asc {k : Int} {ns : List Int} : decide (k ∈ ns) = decide (k ∈ asc ns) := decide_eq_decide.mpr mem_asc.symm
theorem call_setI (hc : X.calm = true) : CallR X (.type "set") (rSetI X.K X.w) := by
  intro pins s σ H xs us Q I r h
  obtain ⟨l, ns, rfl, hl, hn, q⟩ := h
  rw [Vals.ref1 r]
  have hf : H s.heap.objs.size = none := I.hok.fresh (Nat.le_refl _)
  have fin : ∀ (h' : Heap) (tk c : Nat), SetR X.w h' s.heap.objs.size (fun j => decide (j ∈ ns)) c → c ≤ ns.length → (∀ b o, s.heap.get? b = some o → h'.get? b = some o) → ∃ x' H', Inv X pins σ H' { s with heap := h', toks := tk } ∧ RelV x' (.ref s.heap.objs.size) ∧ Q x' H' := fun h' tk c R _ k => by
    have ec : c = (asc ns).length := setR_card R (up_nodup (asc_up ns)) fun j => by rw [dec_asc]; exact decide_eq_true_iff
    subst ec
    exact ⟨.ref s.heap.objs.size, upd H s.heap.objs.size (SetO X.w s.heap.objs.size (fun j => decide (j ∈ ns)) (asc ns).length), I.laid (t' := tk) k (Nat.le_refl _) (setO_new R), rfl, q _ _ (fun _ => dec_asc) hf⟩
  rcases hl with hl | hl
  · obtain ⟨its, rv, pl, hz⟩ := I.list hl
    exact set_of_list (I.ok.hd hc) pl.isList (ints_of_vals rv) (by unfold scanBound; omega) fun h' tk c R hc' k => fin h' tk c R hc' k
  · obtain ⟨its, rv, pl, hz⟩ := I.tuple hl
    exact call_set_tupI ns (I.ok.hd hc) (show s.heap.IsTuple l its.toArray from pl) (ints_of_vals rv) (by unfold scanBound; omega) fun h' tk c R hc' k => fin h' tk c R hc' k
theorem setIG : ∀ X, Good S X → CallR X (.type "set") (rSetI S.K S.w) := fun X G => by rw [← G.K, ← G.w]; exact call_setI G.calm
theorem rc_setI (hn : ns.length ≤ 1000) : RC1 (rSetI K w) (cSeq cInt) ns (cSet w) (· = asc ns) := fun Hf H v e h Q q => by
  obtain ⟨a, vs, h1, h2, h3, h4⟩ := sq_seq (K := K) e h
  have := ints_of_paired h3
  subst this
  refine ⟨a, ns, by rw [h1], h2, hn, fun l S hS hl => ?_⟩
  exact q (asc ns) (upd Hf l (SetO w l S (asc ns).length)) _ _ rfl ⟨l, S, rfl, upd_same, hS, asc_up ns, Nat.le_trans (asc_len ns) hn⟩ (Fr.new e hl) (e.both (e.back hl))
end
end DL

set_option Elab.async false
set_option linter.all false
set_option maxRecDepth 100000
set_option maxHeartbeats 4000000
namespace DL
open PySem PySem.Spec L2 PpSet
/-! ### the block of a comprehension, seen from the def around it -/
section
variable (X : Cx) (scope : Scope) (fp : List Addr) (H : Hp) (s : Shared)
end
section
variable {X : Cx} {scope : Scope} {fp : List Addr} {H H' : Hp} {s s' : Shared} {pins : List (Addr × Obj)} {σ σ' : Stt} {own : List (PySem.Str × Nat)}
end
/-! ### {e for x in xs if ..}, e an int -/
section
variable {X : Cx} {pins : List (Addr × Obj)} {σ : Stt} {H : Hp} {s : Shared}
end
end DL

set_option Elab.async false
set_option linter.all false
set_option maxRecDepth 100000
set_option maxHeartbeats 4000000
namespace DL
open PySem PySem.Spec L2
section
variable {S : Stc} {X : Cx}
variable {Γ Γ1 Γ2 Γ3 : Ctxt} {k k1 k2 k3 kk kt ke : Nat} {A α β γ ρ : Type} {c : Cod α} {c' : Cod β} {cr : Cod ρ} {c1 : Cod α} {c2 : Cod β} {c3 : Cod γ} {P P1 : α → Prop} {P2 : β → Prop} {P3 : γ → Prop} {te to ti tk tv : TE} {tt : TT} {t u : TS} {p : Po ρ} {ta tx : TA} {e a b d : Expr} {es : List Expr} {pos pos' pn pt : Pos}
variable {x : α} {y : β} {z : γ} {xs : List α} {K : PySem.W.Frag} {w : World} {ns : List Int} {wi : TI} {g : TG}
/-! ### {f x for x in xs if b x} -/
/-! ### dicts with int keys -/
abbrev PDc {α : Type} (c : Cod α) (H : Hp) (ks : List (Key × V)) (kvs : List (Int × α)) : Prop := Paired (fun (p : Key × V) (q : Int × α) => p.1 = .inl q.1 ∧ c.rep H p.2 q.2) ks kvs
theorem PDc.mono {H H' : Hp} {ks : List (Key × V)} {kvs : List (Int × α)} (e : Ex H H') (h : PDc c H ks kvs) : PDc c H' ks kvs := paired_mono h fun _ _ q => ⟨q.1, c.mono e q.2⟩
def cDic {α : Type} (c : Cod α) : Cod (List (Int × α)) := ⟨fun H v kvs => ∃ a ks, v = .ref a ∧ H a = some (.dK ks) ∧ PDc c H ks kvs ∧ ks.length ≤ LB,
  fun e ⟨a, ks, h1, h2, h3, h4⟩ => ⟨a, ks, h1, e _ _ h2, h3.mono e, h4⟩⟩
/-- d[k] = v -/
def putD {α : Type} (kvs : List (Int × α)) (k : Int) (v : α) : List (Int × α) := if (kvs.any fun kv => decide (kv.1 = k)) = true then kvs.map fun kv => if kv.1 = k then (kv.1, v) else kv else kvs ++ [(k, v)]
def valD {α : Type} (kvs : List (Int × α)) (k : Int) : Option α := (kvs.find? fun kv => decide (kv.1 = k)).map (·.2)
theorem pdc_any {H : Hp} {ks : List (Key × V)} {kvs : List (Int × α)} (h : PDc c H ks kvs) (j : Int) : (ks.any fun kv => decide (kv.1 = Sum.inl j)) = kvs.any fun kv => decide (kv.1 = j) := by
  induction h with
  | nil => rfl
  | cons r t ih =>
    rw [List.any_cons, List.any_cons, ih, r.1]
    congr 1
    exact decide_eq_decide.mpr ⟨fun e => Sum.inl.inj e, fun e => by rw [e]⟩
theorem pdc_map {H : Hp} {ks : List (Key × V)} {kvs : List (Int × α)} (h : PDc c H ks kvs) (j : Int) {v : V} {x : α} (r : c.rep H v x) : PDc c H (ks.map fun kv => if kv.1 = .inl j then (kv.1, v) else kv) (kvs.map fun kv => if kv.1 = j then (kv.1, x) else kv) := by
  induction h with
  | nil => exact .nil
  | cons q t ih =>
    rw [List.map_cons, List.map_cons]
    refine .cons ?_ ih
    rename_i a b _ _
    by_cases e : b.1 = j
    · rw [if_pos e, if_pos (by rw [q.1, e])]; exact ⟨q.1, r⟩
    · rw [if_neg e, if_neg (by rw [q.1]; exact fun z => e (Sum.inl.inj z))]; exact q
theorem pdc_put {H : Hp} {ks : List (Key × V)} {kvs : List (Int × α)} (h : PDc c H ks kvs) (j : Int) {v : V} {x : α} (r : c.rep H v x) : PDc c H (putK ks (.inl j) v) (putD kvs j x) := by
  unfold putK putD
  rw [pdc_any h j]
  by_cases q : (kvs.any fun kv => decide (kv.1 = j)) = true
  · rw [if_pos q, if_pos q]; exact pdc_map h j r
  · rw [if_neg q, if_neg q]; exact Paired.snoc h ⟨rfl, r⟩
theorem pdc_val {H : Hp} {ks : List (Key × V)} {kvs : List (Int × α)} (h : PDc c H ks kvs) (j : Int) : (valD kvs j = none ∧ valV ks (Sum.inl j : Key) = none) ∨ ∃ v x, valD kvs j = some x ∧ valV ks (Sum.inl j : Key) = some v ∧ c.rep H v x := by
  induction h with
  | nil => exact .inl ⟨rfl, rfl⟩
  | cons r t ih =>
    rename_i a b _ _
    by_cases e : b.1 = j
    · refine .inr ⟨a.2, b.2, ?_, valV_pos (by rw [r.1, e]), r.2⟩
      unfold valD; rw [List.find?_cons, show decide (b.1 = j) = true from decide_eq_true e]; rfl
    · have e2 : ¬ a.1 = Sum.inl j := by rw [r.1]; exact fun z => e (Sum.inl.inj z)
      have e3 : ∀ l : List (Int × α), valD (b :: l) j = valD l j := fun l => by
        unfold valD; rw [List.find?_cons, show decide (b.1 = j) = false from decide_eq_false e]
      rw [e3, valV_neg e2]; exact ih
theorem putD_len (kvs : List (Int × α)) (j : Int) (x : α) : (putD kvs j x).length ≤ kvs.length + 1 := by
  unfold putD; split
  · rw [List.length_map]; omega
  · rw [List.length_append]; exact Nat.le_refl _
def dicOf {α : Type} (l : List (Int × α)) : List (Int × α) := l.foldl (fun d kv => putD d kv.1 kv.2) []
theorem dicOf_snoc (l : List (Int × α)) (kv : Int × α) : dicOf (l ++ [kv]) = putD (dicOf l) kv.1 kv.2 := by unfold dicOf; rw [List.foldl_append]; rfl
theorem find_put (k j : Int) (x : α) : ∀ r : List (Int × α), (r.map fun kv => if kv.1 = k then (kv.1, x) else kv).find? (fun kv => decide (kv.1 = j)) = (r.find? fun kv => decide (kv.1 = j)).map fun kv => if kv.1 = k then (kv.1, x) else kv
  | [] => rfl
  | q :: r => by
    rw [List.map_cons, List.find?_cons, List.find?_cons, find_put k j x r]
    have e : (if q.1 = k then (q.1, x) else q).1 = q.1 := by split <;> rfl
    rw [e]
    cases decide (q.1 = j) <;> rfl
theorem valD_put (kvs : List (Int × α)) (k j : Int) (x : α) : valD (putD kvs k x) j = if j = k then some x else valD kvs j := by
  unfold valD putD
  by_cases h : (kvs.any fun kv => decide (kv.1 = k)) = true
  · rw [if_pos h, find_put]
    by_cases ej : j = k
    · subst ej
      rw [if_pos rfl]
      obtain ⟨kv, hk, e⟩ := List.any_eq_true.mp h
      cases hf : kvs.find? fun kv => decide (kv.1 = j) with
      | none => exact absurd e (List.find?_eq_none.mp hf kv hk)
      | some q =>
        have eq : q.1 = j := by simpa using List.find?_some hf
        show some (if q.1 = j then (q.1, x) else q).2 = some x
        rw [if_pos eq]
    · rw [if_neg ej]
      cases hf : kvs.find? fun kv => decide (kv.1 = j) with
      | none => rfl
      | some q =>
        have eq : q.1 = j := by simpa using List.find?_some hf
        show some (if q.1 = k then (q.1, x) else q).2 = some q.2
        rw [if_neg fun z => ej (eq.symm.trans z)]
  · rw [if_neg h, List.find?_append]
    have hn : ∀ kv ∈ kvs, ¬ kv.1 = k := fun kv hk e => h (List.any_eq_true.mpr ⟨kv, hk, decide_eq_true e⟩)
    by_cases ej : j = k
    · subst ej
      have : kvs.find? (fun kv => decide (kv.1 = j)) = none := List.find?_eq_none.mpr fun kv hk => by simpa using hn kv hk
      rw [this, if_pos rfl]; simp
    · rw [if_neg ej]
      have : ([(k, x)] : List (Int × α)).find? (fun kv => decide (kv.1 = j)) = none := by
        simp; exact fun z => ej z.symm
      rw [this]; simp
/-- where the keys are all different, a dict of rows is the rows -/
theorem valD_dicOf : ∀ (l : List (Int × α)) (j : Int), valD (dicOf l) j = valD l.reverse j := fun l j => by
  suffices ∀ m : List (Int × α), valD (dicOf m.reverse) j = valD m j by have := this l.reverse; rwa [List.reverse_reverse] at this
  intro m
  induction m with
  | nil => rfl
  | cons kv m ih =>
    rw [List.reverse_cons, dicOf_snoc, valD_put, ih]
    unfold valD
    rw [List.find?_cons]
    by_cases e : j = kv.1
    · rw [if_pos e, show decide (kv.1 = j) = true from decide_eq_true e.symm]; rfl
    · rw [if_neg e, show decide (kv.1 = j) = false from decide_eq_false fun z => e z.symm]
end
end DL

set_option Elab.async false
set_option linter.all false
set_option maxRecDepth 100000
set_option maxHeartbeats 4000000
namespace DL
open PySem PySem.Spec L2
/-! ### sorted lists are what they are -/
theorem perm_sorted_eq {α : Type} {f : α → Int} : ∀ {l m : List α}, l.Perm m → l.Pairwise (fun a b => f a ≤ f b) → m.Pairwise (fun a b => f a ≤ f b) → (∀ a ∈ l, ∀ b ∈ l, f a = f b → a = b) → l = m
  | [], m, h, _, _, _ => by have := h.length_eq; cases m with
    | nil => rfl
    | cons => simp at this
  | x :: l, [], h, _, _, _ => by have := h.length_eq; simp at this
  | x :: l, y :: m, h, h1, h2, hi => by
    have a := List.pairwise_cons.mp h1
    have b := List.pairwise_cons.mp h2
    have hy : y ∈ x :: l := h.mem_iff.mpr List.mem_cons_self
    have hx : x ∈ y :: m := h.mem_iff.mp List.mem_cons_self
    have e : x = y := by
      rcases List.mem_cons.mp hy with e | e
      · exact e.symm
      · rcases List.mem_cons.mp hx with e2 | e2
        · exact e2
        · exact hi x List.mem_cons_self y hy (Int.le_antisymm (a.1 y e) (b.1 x e2))
    subst e
    rw [perm_sorted_eq ((List.perm_cons x).mp h) a.2 b.2 fun p hp q hq => hi p (List.mem_cons_of_mem _ hp) q (List.mem_cons_of_mem _ hq)]
def sortBy {α : Type} (f : α → Int) (l : List α) : List α := l.mergeSort fun a b => decide (f a ≤ f b)
theorem sortBy_perm {α : Type} (f : α → Int) (l : List α) : (sortBy f l).Perm l := List.mergeSort_perm l _
theorem sortBy_up {α : Type} (f : α → Int) (l : List α) : (sortBy f l).Pairwise (fun a b => f a ≤ f b) :=
  (List.pairwise_mergeSort (le := fun a b => decide (f a ≤ f b)) (fun a b c h1 h2 => by simp at h1 h2 ⊢; omega) (fun a b => by simp; omega) l).imp fun h => by simpa using h
theorem sortBy_eq {α : Type} {f : α → Int} {l m : List α} (h : m.Perm l) (hu : m.Pairwise fun a b => f a ≤ f b) (hi : ∀ a ∈ l, ∀ b ∈ l, f a = f b → a = b) : m = sortBy f l :=
  perm_sorted_eq (h.trans (sortBy_perm f l).symm) hu (sortBy_up f l) fun a ha b hb => hi a (h.mem_iff.mp ha) b (h.mem_iff.mp hb)
def sortI (l : List Int) : List Int := sortBy id l
abbrev R3 := Int × Int × Int
section
variable {S : Stc} {X : Cx}
variable {Γ Γ1 Γ2 Γ3 : Ctxt} {k k1 k2 k3 kk kt ke : Nat} {A α β γ ρ : Type} {c : Cod α} {c' : Cod β} {cr : Cod ρ} {c1 : Cod α} {c2 : Cod β} {c3 : Cod γ} {P P1 : α → Prop} {P2 : β → Prop} {P3 : γ → Prop} {te to ti tk tv : TE} {tt : TT} {t u : TS} {p : Po ρ} {ta tx : TA} {e a b d o : Expr} {es : List Expr} {pos pos' pn pt apos : Pos}
variable {x : α} {y : β} {z : γ} {xs : List α} {K : PySem.W.Frag} {w : World} {ns : List Int}
/-! ### {.. for ..} -/
/-! ### {..: .. for ..} -/
/-! ### d.get(k, x); k in d -/
theorem pdget2 {kvs : List (Int × α)} {i : Int} (ho : PD S Γ 0 o (cDic c) (· = kvs)) (he : PD S Γ 0 e cInt (· = i)) (hf : PD S Γ 0 d c (· = x)) (m : ∀ X, M2 X o "get" apos e d pos) : PD S Γ 0 (.Call (.Attribute o "get" apos) [e, d] [] pos) c (· = (valD kvs i).getD x) :=
  pd_of (fun X G => pe_dget2 (by have := G.room.un; omega) (tE_ok G) (tE_ok G) (tE_ok G) (m X)) fun O n σ Hf H hn s Q q => ho O n σ Hf H hn s _ fun v Hf1 H1 k1 p1 ⟨a, ks, h1, h2, h3, h4⟩ f1 s1 => by
    subst p1
    refine ⟨a, h1, .inl ⟨ks, .inl (s1.ex _ _ h2)⟩, ?_⟩
    refine he O n σ Hf1 H1 hn s1 _ fun v2 Hf2 H2 j p2 r2 f2 s2 => hf O n σ Hf2 H2 hn s2 _ fun v3 Hf3 H3 x' p3 r3 f3 s3 => ?_
    subst p2 p3
    obtain rfl := r2
    have e3 := s3.ex _ _ (f3.ex _ _ (f2.ex _ _ h2))
    refine ⟨valV ks (Sum.inl j : Key), DGet.k (k := Sum.inl j) e3, ?_⟩
    rcases pdc_val h3 j with ⟨z1, z2⟩ | ⟨w, y, z1, z2, z3⟩
    · rw [z2]
      exact q v3 Hf3 H3 _ (by rw [z1]; rfl) r3 ((f1.trans f2 fun _ z => .inl z).trans f3 fun _ z => .inl z) s3
    · rw [z2]
      exact q w Hf3 H3 y (by rw [z1]; rfl) (c.mono (f2.ex.trans f3.ex) z3) ((f1.trans f2 fun _ z => .inl z).trans f3 fun _ z => .inl z) s3
end
end DL

set_option Elab.async false
set_option linter.all false
set_option maxRecDepth 100000
set_option maxHeartbeats 4000000
namespace DL
open PySem PySem.Spec L2
/-! ### a def at its name, and its promise -/
structure Def (K : PySem.W.Frag) (mg : Str → Option Value) (x : Str) (st : Stmt) : Prop where
  ex : ∃ f fd, Fun K x x st f fd ∧ mg x = some (.ref f)
structure Cal (P : Program) (w : World) (K : PySem.W.Frag) (mg : Str → Option Value) (base : Heap) (x : Str) (pn : List Str) (lv : Nat) (sp : Sp) : Prop where
  ex : ∃ f fd, FnOk P w K mg base CX0 lv f fd pn sp ∧ mg x = some (.ref f) ∧ PySem.W.keepIn K (.ref f) = true ∧ Binds K fd pn []
/-- how the arguments bind (no defaults) -/
abbrev BindsD (st : Stmt) (x : Str) (pn : List Str) : Prop := ∀ (kV doc pm : Value) (an : Option Addr) (cdv ct : Value) (us : List Value), us.length = pn.length → bindArgs (PySem.W.fnOf x x (defArgs st) (defBody st) (defScope st) .none kV doc pm an cdv ct) ⟨us, []⟩ = pure (pn.zip us)
section
variable {P : Program} {w : World} {K : PySem.W.Frag} {mg : Str → Option Value} {base : Heap} {x : Str} {st : Stmt} {N pn : List Str} {lv : Nat}
variable {A ρ : Type} {ps : Addr → A → Ctxt} {kf : A → Nat} {pre : A → Prop} {cr : Cod ρ} {PR : A → ρ → Prop}
theorem cal_D (D : Def K mg x st) (hb : BindsD st x pn) (Sc : FnScope N pn (defScope st))
    (hl : ∀ b a, (ps b a).length = pn.length) (hN : pn.length ≤ N.length) (one : ∀ b a, OneB (ps b a))
    (body : ∀ b a, pre a → PHs ⟨N, defScope st, K, mg, P, w, base, lv, fun _ => true, false⟩ (entry N (ps b a)) (kf a) (defBody st) { N := fun _ => False, bk := fun _ => False, ct := fun _ => False, c := cr, R := PR a }) :
    Cal P w K mg base x pn (lv + 1) (spD ps kf pre cr PR) := by
  obtain ⟨f, fd, F, hm⟩ := D.ex
  exact ⟨f, fd, fn_D F Sc hl hN one body, hm, F.kp, F.binds hb⟩
/-- a def known raw -/
theorem cal_of {sp : Sp} (D : Def K mg x st) (hb : BindsD st x pn) (h : ∀ f fd, Fun K x x st f fd → FnOk P w K mg base CX0 lv f fd pn sp) : Cal P w K mg base x pn lv sp := by
  obtain ⟨f, fd, F, hm⟩ := D.ex
  exact ⟨f, fd, h f fd F, hm, F.kp, F.binds hb⟩
theorem Cal.imp {sp sp' : Sp} (C : Cal P w K mg base x pn lv sp) (h : ∀ f fd, FnOk P w K mg base CX0 lv f fd pn sp → FnOk P w K mg base CX0 lv f fd pn sp') : Cal P w K mg base x pn lv sp' := by
  obtain ⟨f, fd, F, hm, hk, hb⟩ := C.ex
  exact ⟨f, fd, h f fd F, hm, hk, hb⟩
end
section
variable {S : Stc} {Γ : Ctxt} {k k1 k2 : Nat} {A ρ : Type} {cr : Cod ρ} {e : Expr} {es : List Expr} {pos pn : Pos}
theorem pcalX {ps : Addr → A → Ctxt} {kf : A → Nat} {pre : A → Prop} {PR : A → ρ → Prop} {B : Ctxt → Prop} {P' : ρ → Prop} {pn' : List Str} {x : Str} {l : Nat} (F : Cal S.prog S.w S.K S.mg S.base x pn' l (spD ps kf pre cr PR)) (hl : l ≤ S.lv) (hg : S.sc.names.lookup x = some .globalImplicit)
    (h : PDA S Γ k1 (e :: es) B) (hc : ∀ as, B as → ∃ a b, as = ps b a ∧ pre a ∧ kf a ≤ k2 ∧ ∀ x, PR a x → P' x)
    (he : ∀ env : Env, starEach (e :: es) env = (false, eval e env) :: starEach es env) (hpl : ∀ env : Env, (backTo pos (starEach es env)).any (·.1) = false) (hdb : (x == ("__debug__" : Str)) = false := by decide) : PD S Γ (k1 + k2) (.Call (.Name x pn) (e :: es) [] pos) cr P' := by
  obtain ⟨f, fd, F, hm, hk, hb⟩ := F.ex
  exact pd_call F hl hg hm hk hb h hc he hpl hdb
/-! ### isinstance(e, (list, tuple)) of either -/
theorem pisiLTs {α : Type} {c : Cod α} {xs : List α} {p1 p2 p3 p4 : Pos} {kx : Nat} (hg : S.sc.names.lookup ("isinstance" : Str) = some .globalImplicit) (hm : S.mg "isinstance" = none) (hgl : S.sc.names.lookup ("list" : Str) = some .globalImplicit) (hml : S.mg "list" = none) (hgt : S.sc.names.lookup ("tuple" : Str) = some .globalImplicit) (hmt : S.mg "tuple" = none)
    (h : PD S Γ 0 e (cSeq c) (· = xs))
    (he : ∀ env : Env, starEach [e, .Tuple [.Name "list" p2, .Name "tuple" p3] kx p4] env = (false, eval e env) :: starEach [.Tuple [.Name "list" p2, .Name "tuple" p3] kx p4] env) :
    PD S Γ 0 (.Call (.Name "isinstance" p1) [e, .Tuple [.Name "list" p2, .Name "tuple" p3] kx p4] [] pos) cBool (· = true) :=
  pd_of (te := tCB (rIsiT S.K) (tCons (tE S e) (tCons (tTup (tCons (tC (.ty "list")) (tCons (tC (.ty "tuple")) tNil))) tNil))) (fun X G => by
    rw [← G.K]
    exact pe_callB call_isiT (glb G hg) (by rw [G.mg]; exact hm) (by decide +kernel) (pa_cons (tE_ok G) (pa_cons (pe_tup (pa_cons (nmTy hgl hml PyProof.Rows.boot_list (by decide) (by decide) X G) (pa_cons (nmTy hgt hmt PyProof.Rows.boot_tuple (by decide) (by decide) X G) pa_nil))) pa_nil) (he _)) (by decide) (by decide) (he _) rfl)
    fun O n σ Hf H hn s Q q => h O n σ Hf H hn s _ fun v Hf' H' y py r' f s' => by
      subst py
      refine ⟨by show 2 ≤ sizeLine; decide, fun tp htp => ?_⟩
      have r2 : (cSeq c).rep (upd H' tp (.tup [.ty "list", .ty "tuple"])) v y := (cSeq c).mono (s'.ex.trans (Ex.new htp)) r'
      obtain ⟨ty, ht, hk⟩ : ∃ ty, TyX S.K (upd H' tp (.tup [.ty "list", .ty "tuple"])) v ty ∧ PySem.W.kitAny S.K ty [.type "list", .type "tuple"] = some true := by
        rcases r2 with r2 | r2
        · exact ⟨_, ty_list (K := S.K) _ _ r2, kLT_list⟩
        · exact ⟨_, ty_tup (K := S.K) _ _ r2, kLT_tuple⟩
      refine ⟨v, tp, [.ty "list", .ty "tuple"], ty, [.type "list", .type "tuple"], true, rfl, upd_same, .cons (.ty _) (.cons (.ty _) .nil), ht, hk, ?_⟩
      exact q _ (upd Hf' tp (.tup [.ty "list", .ty "tuple"])) _ true rfl rfl (f.trans (Fr.new (M := Bx Γ) s'.ex htp) fun _ z => .inl z) (s'.new htp)
end
end DL

set_option Elab.async false
set_option linter.all false
set_option maxRecDepth 100000
set_option maxHeartbeats 4000000
namespace DL
open PySem PySem.Spec L2
/-! ### what is put into a slot: data, or a new list of one's own -/
def VOk (Hf H H0 : Hp) (v : V) : Sl → Prop
  | .un => True
  | .d c x => c.rep Hf v x
  | .l c xs => ∃ a vs, v = .ref a ∧ H a = some (.lst vs) ∧ Hf a = none ∧ H0 a = none ∧ Paired (c.rep Hf) vs xs ∧ vs.length ≤ LB
  | .bx _ => False
  | .r p => ∃ a o, v = .ref a ∧ H a = some o ∧ Hf a = none ∧ H0 a = none ∧ p.φ Hf a o
def TX (te : TE) (Γ : Ctxt) (k : Nat) (R : Sl → Prop) : Prop :=
  ∀ (O : Org) (n : Nat) (σ : Stt) (Hf H : Hp), n + k ≤ LIM → Sat O Hf H σ Γ n → ∀ Q : VK,
    (∀ v Hf' H' s, R s → VOk Hf' H' H v s → Fr (Bx Γ) Hf H Hf' H' → Sat O Hf' H' σ Γ (n + k) → Q v H') → te σ H Q
/-- no own slot holds a -/
def NoAd (σ : Stt) (Γ : Ctxt) (a : Addr) : Prop := ∀ (j : Nat) sl, Γ[j]? = some sl → sl.own = true → σ[j]? ≠ some (some (V.ref a))
section
variable {Γ Γ1 : Ctxt} {k k1 k2 k3 : Nat} {α β γ ρ : Type} {c : Cod α} {P : α → Prop} {te to ti : TE} {p : Po ρ} {R R1 R2 R3 : Sl → Prop}
variable {O : Org} {Hf H H0 Hf' H' : Hp} {σ : Stt} {n m : Nat} {s : Sl} {v : V}
theorem TD.tx (h : TD te Γ k c P) : TX te Γ k (fun s => ∃ x, P x ∧ s = .d c x) := fun O n σ Hf H hn S Q q => h O n σ Hf H hn S Q fun v Hf' H' x px r f s => q v Hf' H' _ ⟨x, px, rfl⟩ r f s
theorem TDF.tx {R : List α → Prop} (h : TDF te Γ k c R) : TX te Γ k (fun s => ∃ x, R x ∧ s = .l c x) := fun O n σ Hf H hn S Q q => h O n σ Hf H hn S Q fun a vs Hf' H' xs p1 h1 h2 h3 pr lb f s => q _ Hf' H' _ ⟨xs, p1, rfl⟩ ⟨a, vs, rfl, h1, h2, h3, pr, lb⟩ f s
theorem VOk.keep (h : VOk Hf H H0 v s) (f : Fr (Bx Γ) Hf H Hf' H') (hb : ∀ a, Bx Γ a → H0 a ≠ none) : VOk Hf' H' H0 v s := by
  cases s with
  | un => trivial
  | d c x => exact c.mono f.ex h
  | l c xs =>
    obtain ⟨a, vs, h1, h2, h3, h4, h5, h6⟩ := h
    have nb : ¬ Bx Γ a := fun z => hb a z h4
    exact ⟨a, vs, h1, f.keep _ _ h2 nb, f.fz _ _ h2 nb h3, h4, paired_mono h5 (fun _ _ r => c.mono f.ex r), h6⟩
  | bx a => exact h
  | r p =>
    obtain ⟨a, o, h1, h2, h3, h4, h5⟩ := h
    have nb : ¬ Bx Γ a := fun z => hb a z h4
    exact ⟨a, o, h1, f.keep _ _ h2 nb, f.fz _ _ h2 nb h3, h4, p.mono f.ex h5⟩
theorem Sat.noAd (S : Sat O Hf H σ Γ n) {a : Addr} (h : H a = none) : NoAd σ Γ a := fun j sl hj ho e => by
  obtain ⟨_, o, w⟩ := S.ownAt (a := a) ⟨j, sl, hj, ho, e⟩
  rw [h] at w; cases w
theorem NoAd.set {a : Addr} (h : NoAd σ Γ a) {i : Nat} (hv : s.own = true → v ≠ .ref a) : NoAd (σ.set i (some v)) (Γ.set i s) a := fun j sl hj ho e => by
  rcases sget hj with ⟨z, z2⟩ | ⟨ne, hj⟩
  · subst z z2
    have lt : j < σ.length := by
      have := (List.getElem?_eq_some_iff.mp e).1
      rw [List.length_set] at this; exact this
    rw [List.getElem?_set_self lt] at e
    injection e with e; injection e with e
    exact hv ho e
  · rw [List.getElem?_set_ne (Ne.symm ne)] at e
    exact h j sl hj ho e
theorem Sat.setX (S : Sat O Hf H σ Γ n) {i : Nat} (h : VOk Hf H H0 v s) (hs : s ≠ .un) (na : ∀ a, v = .ref a → s.own = true → NoAd σ Γ a) (hm : ∀ a, H0 a = none → O.H a = none) : Sat O Hf H (σ.set i (some v)) (Γ.set i s) n := by
  cases s with
  | un => exact absurd rfl hs
  | d c x => exact S.set h
  | l c xs =>
    obtain ⟨a, vs, rfl, h2, h3, h4, h5, h6⟩ := h
    exact S.setL h2 h3 h5 h6 (fun j sl _ hj ho => na a rfl rfl j sl hj ho) (.inr (hm a h4))
  | bx a => exact h.elim
  | r p =>
    obtain ⟨a, o, rfl, h2, h3, h4, h5⟩ := h
    exact S.setR h2 h3 h5 (fun j sl _ hj ho => na a rfl rfl j sl hj ho) (.inr (hm a h4))
theorem own_fresh (h : VOk Hf H H0 v s) {a : Addr} (e : v = .ref a) (ho : s.own = true) : H0 a = none ∧ H a ≠ none := by
  cases s with
  | un => cases ho
  | d c x => cases ho
  | l c xs =>
    obtain ⟨b, vs, h1, h2, h3, h4, _⟩ := h
    rw [e] at h1; cases h1
    exact ⟨h4, by rw [h2]; exact fun z => by cases z⟩
  | bx a => exact h.elim
  | r p =>
    obtain ⟨b, o, h1, h2, h3, h4, _⟩ := h
    rw [e] at h1; cases h1
    exact ⟨h4, by rw [h2]; exact fun z => by cases z⟩
theorem Sat.bxSome (S : Sat O Hf H σ Γ n) (a : Addr) (h : Bx Γ a) : H a ≠ none := fun z => by
  obtain ⟨_, o, w⟩ := S.ownAt (S.bxOwn h)
  rw [z] at w; cases w
end
section
variable {S : Stc} {Γ Γ1 : Ctxt} {k k1 k2 k3 kr : Nat} {α ρ : Type} {c : Cod α} {p : Po ρ} {R1 R2 R3 : Sl → Prop} {a b d e : Expr} {pos px py pz pt pt2 : Pos} {x y z : Str} {kt kt2 : Nat} {rest : List Stmt} {s1 s2 s3 : Sl}
end
end DL

set_option Elab.async false
set_option linter.all false
set_option maxRecDepth 100000
set_option maxHeartbeats 4000000
namespace DL
open PySem PySem.Spec L2
section
variable {Γ Γ1 : Ctxt} {k k1 k2 k3 : Nat} {α β γ ρ : Type} {c : Cod α} {P : α → Prop} {te to ti : TE} {p : Po ρ}
variable {O : Org} {Hf H H0 Hf' H' : Hp} {σ : Stt} {n m : Nat} {s : Sl} {v : V}
end
section
variable {S : Stc} {Γ Γ1 : Ctxt} {k k1 k2 k3 kr : Nat} {α ρ : Type} {c : Cod α} {P : α → Prop} {p : Po ρ} {a b d e : Expr} {pos pos' pos2 px py pz pt : Pos} {nm nm2 : Str} {rest : List Stmt} {p1 p2 p3 p4 : Pos}
/-- what must be seen of o.m(e) -/
abbrev FewOk (p2 : Pos) (e : Expr) : Prop := ∀ env : Env, ((backTo p2 (starEach [e] env)).all (fun x => !x.1) && (backToKw p2 (keywordEach [] env)).all (fun x => x.1.isSome) && decide ([e].length + ([] : List Keyword).length + (if ([] : List Keyword).isEmpty then 0 else 1) < 30)) = true
/-- y.append(x.pop(e)) -/
theorem bappendPop (i j : Nat) {xs ys : List α} {Pi : Int → Prop} (hij : i ≠ j) (h : Γ[i]? = some (.l c ys)) (h' : Γ[j]? = some (.l c xs)) (hi : PD S Γ k e cInt Pi) (lb : ys.length + 1 ≤ LB) (lb' : xs.length ≤ LB) (hN : S.N[i]? = some nm) (hN2 : S.N[j]? = some nm2) (hv : Vis S.sc nm) (hv2 : Vis S.sc nm2)
    (hfew : FewOk p2 (.Call (.Attribute (.Name nm2 pos2) "pop" p3) [e] [] p4)) (hfew2 : FewOk p4 e) (hline : (p1.endLine == p2.line) = true) (hline2 : (p3.endLine == p4.line) = true) (hs : ∀ env : Env, starEach [e] env = (false, eval e env) :: starEach [] env)
    (hs2 : ∀ env : Env, starEach [.Call (.Attribute (.Name nm2 pos2) "pop" p3) [e] [] p4] env = (false, eval (.Call (.Attribute (.Name nm2 pos2) "pop" p3) [e] [] p4) env) :: starEach [] env)
    (hsw : ∀ env : Env, swapsWith (.Call (.Attribute (.Name nm pos') "append" p1) [.Call (.Attribute (.Name nm2 pos2) "pop" p3) [e] [] p4] [] p2) none pos.line env = pure false)
    (hr : ∀ z, Pi z → ∃ (l : Nat) (y : α), z = (l : Int) ∧ xs[l]? = some y ∧ PHs S ((Γ.set j (.l c (xs.eraseIdx l))).set i (.l c (ys ++ [y]))) kr rest p)
    (hd : (nm == ("__debug__" : Str)) = false := by decide) (hcd : (nm == ("__classdict__" : Str)) = false := by decide) (hd2 : (nm2 == ("__debug__" : Str)) = false := by decide) (hcd2 : (nm2 == ("__classdict__" : Str)) = false := by decide) :
    PHs S Γ (k + kr) (.Expr (.Call (.Attribute (.Name nm pos') "append" p1) [.Call (.Attribute (.Name nm2 pos2) "pop" p3) [e] [] p4] [] p2) pos :: rest) p :=
  phs_cons (N1 := fun G => PHs S G kr rest p) (ph_of (ts := tDrop (tBM S.K "list" rAppend (tVar i) (tCons (tBM S.K "list" rPopAt (tVar j) (tCons (tE S e) tNil)) tNil))) (fun X G => by
    rw [← G.K]
    exact ps_expr (pe_bm PySem.F.plainAttrs_list PySem.F.slot_list_append PySem.F.type_list_append mt_append (pe_slot G hN hv hd hcd) (pa_cons (pe_bm PySem.F.plainAttrs_list PySem.F.slot_list_pop PySem.F.type_list_pop mt_popAt (pe_slot G hN2 hv2 hd2 hcd2) (pa_cons (tE_ok G) pa_nil (hs _)) rfl (hfew2 _) hline2 (hs _) rfl) pa_nil (hs2 _)) rfl (hfew _) hline (hs2 _) rfl) (hsw _))
    (hs_appendPop hij h h' (by unfold NoBx; rw [h]; trivial) (by unfold NoBx; rw [h']; trivial) hi lb lb' fun z hz => hr z hz)) fun Γ1 e => e
variable {α' β' γ' : Type} {ca : Cod α'} {cb : Cod β'} {cg : Cod γ'} {K : PySem.W.Frag} {pn : Pos}
theorem rc_len2 {x : α' × β'} : RC1 (rLenR K) (cT2 ca cb) x cInt (· = 2) := fun Hf H v e ⟨a, w1, w2, h1, h2, _⟩ Q q => ⟨a, [w1, w2], by rw [h1], .inr (SqT.of (e _ _ h2)), q 2 Hf H _ rfl rfl Fr.refl e⟩
/-! ### calls by arity -/
variable {cr : Cod ρ} {x1 : Str} {pn1 : List Str} {lv : Nat} {e1 e2 e3 : Expr}
end
end DL

set_option Elab.async false
set_option linter.all false
set_option maxRecDepth 100000
set_option maxHeartbeats 4000000
namespace DL
open PySem PySem.Spec L2
theorem ixN_at {n : Nat} {i : Int} (h : 0 ≤ i ∧ i < (n : Int)) : ixN n i = some i.toNat := by
  unfold ixN; rw [if_pos h.1, if_pos h.2]
section
variable {K : PySem.W.Frag} {α : Type} [Inhabited α] {c : Cod α} {xs : List α} {i : Int}
end
section
variable {Γ : Ctxt} {α : Type} {c : Cod α} {te to : TE} {kvs : List (Int × α)} {i : Int}
variable {S : Stc} {e o : Expr} {pos : Pos}
end
section
variable {S : Stc} {Γ Γ1 : Ctxt} {k k1 k2 k3 kr : Nat} {ρ : Type} {p : Po ρ} {e : Expr} {pos : Pos} {sts sts2 rest : List Stmt}
end
end DL

set_option Elab.async false
set_option linter.all false
set_option maxRecDepth 100000
set_option maxHeartbeats 4000000
namespace DL
open PySem PySem.Spec L2
theorem rgV_paired {H : Hp} (a b : Int) : Paired (cInt.rep H) (rgV a b) (rangeL a (b - a).toNat) := by
  have : rgV a b = (rangeL a (b - a).toNat).map V.int := by unfold rgV rangeL; rw [List.map_map]; rfl
  rw [this]; exact paired_ints _
section
variable {S : Stc} {Γ : Ctxt} {k : Nat} {a b : Expr} {i j : Int} {pos pos' pn pn' : Pos}
end
end DL

set_option Elab.async false
set_option linter.all false
set_option maxRecDepth 100000
set_option maxHeartbeats 4000000
namespace DL
open PySem PySem.Spec L2
/-! ### own classes -/
structure Kls (K : PySem.W.Frag) (mg : Str → Option Value) (x : Str) (C : Addr) : Prop where
  cl : Cls K C
  own : OwnC K C
  mgC : mg x = some (.ref C)
  isC : PySem.W.kitOne K (.ref C) (.ref C) = some true
structure MDef (K : PySem.W.Frag) (C : Addr) (m qual : Str) (st : Stmt) : Prop where
  ex : ∃ f fd, Fun K m qual st f fd ∧ Meth K C m f
structure MCal (P : Program) (w : World) (K : PySem.W.Frag) (mg : Str → Option Value) (base : Heap) (C : Addr) (m : Str) (pn : List Str) (lv : Nat) (sp : Sp) : Prop where
  ex : ∃ f fd, FnOk P w K mg base CX0 lv f fd pn sp ∧ Meth K C m f ∧ Binds K fd pn []
/-- __init__ -/
structure ICal (P : Program) (w : World) (K : PySem.W.Frag) (mg : Str → Option Value) (base : Heap) (C : Addr) (pn : List Str) (lv : Nat) (sp : Sp) : Prop where
  ex : ∃ f fd, FnOk P w K mg base CX0 lv f fd pn sp ∧ Mk K C f ∧ Binds K fd pn []
abbrev BindsM (st : Stmt) (m qual : Str) (pn : List Str) : Prop := ∀ (kV doc pm : Value) (an : Option Addr) (cdv ct : Value) (us : List Value), us.length = pn.length → bindArgs (PySem.W.fnOf m qual (defArgs st) (defBody st) (defScope st) .none kV doc pm an cdv ct) ⟨us, []⟩ = pure (pn.zip us)
section
variable {P : Program} {w : World} {K : PySem.W.Frag} {mg : Str → Option Value} {base : Heap} {m qual : Str} {st : Stmt} {N pn : List Str} {lv : Nat} {C : Addr}
variable {A ρ : Type} {ps : Addr → A → Ctxt} {kf : A → Nat} {pre : A → Prop} {cr : Cod ρ} {PR : A → ρ → Prop}
theorem mcal_D (D : MDef K C m qual st) (hb : BindsM st m qual pn) (Sc : FnScope N pn (defScope st))
    (hl : ∀ b a, (ps b a).length = pn.length) (hN : pn.length ≤ N.length) (one : ∀ b a, OneB (ps b a))
    (body : ∀ b a, pre a → PHs ⟨N, defScope st, K, mg, P, w, base, lv, fun _ => true, false⟩ (entry N (ps b a)) (kf a) (defBody st) { N := fun _ => False, bk := fun _ => False, ct := fun _ => False, c := cr, R := PR a }) :
    MCal P w K mg base C m pn (lv + 1) (spD ps kf pre cr PR) := by
  obtain ⟨f, fd, F, hm⟩ := D.ex
  exact ⟨f, fd, fn_D F Sc hl hN one body, hm, F.binds hb⟩
end
section
variable {S : Stc} {Γ : Ctxt} {k k1 k2 : Nat} {A ρ α β ω : Type} {cr : Cod ρ} {c ca : Cod α} {cb : Cod β} {e e1 o : Expr} {es : List Expr} {pos pn apos : Pos} {C : Addr} {F : Hp → List (Str × V) → ω → Prop} {hm : ∀ {H H' fs y}, Ex H H' → F H fs y → F H' fs y} {x m : Str} {pn' : List Str} {lv : Nat}
/-- how the text of a method call without arguments, with one, is read -/
abbrev MTree0 (o : Expr) (m : Str) (apos pos : Pos) (pl : Env → Sem Bool) : Prop := ∀ env : Env, eval (.Call (.Attribute o m apos) [] [] pos) env = (do
      let ov ← eval o env
      standAt apos.atName
      let (f, first) ← holding [ov] (getMethod ov m (pl env))
      callWith pos f first (backTo pos (starEach [] env)) (backToKw pos (keywordEach [] env)))
/-- own ==, where both are the same -/
def REq (C : Addr) {ω : Type} (F : Hp → List (Str × V) → ω → Prop) : Addr → Addr → Hp → Prop := fun a b H => ∃ y dx dy fs gs, H a = some (.ins C dx fs) ∧ H b = some (.ins C dy gs) ∧ F H fs y ∧ F H gs y
/-- what the own == of a class needs -/
structure EqK (P : Program) (w : World) (K : PySem.W.Frag) (mg : Str → Option Value) (base : Heap) (C : Addr) (lv : Nat) {ω : Type} (F : Hp → List (Str × V) → ω → Prop) : Prop where
  ex : ∃ f fd pn, FnOk P w K mg base CX0 lv f fd pn (spEq (REq C F)) ∧ PySem.W.findIn K (.ref C) "__eq__" = some (some (.ref f)) ∧ PySem.W.isFn K (.ref f) = true ∧ Binds K fd pn []
end
end DL

set_option Elab.async false
set_option linter.all false
set_option maxRecDepth 100000
set_option maxHeartbeats 4000000
namespace DL
open PySem PySem.Spec L2
section
variable {P : Program} {w : World} {K : PySem.W.Frag} {mg : Str → Option Value} {base : Heap} {m qual : Str} {st : Stmt} {N pn : List Str} {lv : Nat} {C : Addr} {ω A α β ρ : Type} {F : Hp → List (Str × V) → ω → Prop}
theorem map_un {ps : Ctxt} {b : Addr} (h : NoB ps) : ∀ z, ¬ Sl.bx z ∈ ps := fun z hz => by
  obtain ⟨i, hi⟩ := List.getElem?_of_mem hz
  exact noB_at h hi
theorem noB_one : ∀ {l : Ctxt}, NoB l → OneB l
  | [], _ => trivial
  | .bx z :: r, h => h.elim
  | .un :: r, h => noB_one (l := r) h
  | .d c x :: r, h => noB_one (l := r) h
  | .l c x :: r, h => noB_one (l := r) h
  | .r p :: r, h => noB_one (l := r) h
end
end DL

set_option Elab.async false
set_option linter.all false
set_option maxRecDepth 100000
set_option maxHeartbeats 4000000
namespace DL
open PySem PySem.Spec L2
/-! ### x.m(..): the thing first, then its method, then the arguments -/
/-! ### B.__init__(self, ..), B an own class of exceptions without own __init__ -/
structure BaseI (K : PySem.W.Frag) (mg : Str → Option Value) (x : Str) (B : Addr) : Prop where
  mgB : mg x = some (.ref B)
  sp : PySem.W.specialIn K (.ref B) "__getattribute__" = some (some (.builtin "type.__getattribute__"))
  rd : PySem.W.readsIn K B (.type "type") = true
  ini : PySem.W.findCls K (.ref B) (.type "type") "__init__" = some (.val (.builtin "ValueError.__init__"))
section
variable {X : Cx} {x : Str} {B : Addr} {e : Expr} {es : List Expr} {ta : TA} {p p1 p2 pos : Pos}
end
/-! ### o.m(k = v) -/
section
variable {X : Cx} {CX : CXT} {k : Nat} {f C : Addr} {fd : FuncData} {ps ks : List Str} {sp : Sp} {E : XK} {m : Str} {pos apos : Pos} {o : Expr} {kws : List Keyword} {ta : TE} {tk : TA} {g : List Value → List Value → List Value} {gV : List V → List V → List V}
end
/-- self and one keyword -/
def g2 {α : Type} : List α → List α → List α
  | [a], [b] => [a, b]
  | _, _ => []
end DL

set_option Elab.async false
set_option linter.all false
set_option maxRecDepth 100000
set_option maxHeartbeats 4000000
namespace DL
open PySem PySem.Spec L2
section
variable {S : Stc} {Γ : Ctxt} {k : Nat} {β ρ : Type} {c' : Cod β} {p : Po ρ} {pos : Pos}
/-- x = [..], x a plain local: as a list of one's own -/
theorem ph_setLcL {i : Nat} {y : Str} {py spos : Pos} {elt tg iter : Expr} {ifs : List Expr} {scope : Scope} (own : List (Str × Nat)) {R : List β → Prop} (h : TDF (lcRd S tg iter ifs elt scope own) Γ k c' R) (nb : NoBx Γ i) (hp : ∀ y, R y → p.N (Γ.set i (.l c' y))) (hi : S.N[i]? = some y) (hyl : S.sc.names.lookup y = some .local) (hl : (py.line == pos.line) = true) (hk : S.sc.kind = .function)
    (ha : (scope.names.any fun (n, k) => n == y && (k == .local || k == .cell)) = false) (ok : blkC S.N S.sc scope own = true) (hs : ∀ (env : Env) x, foldedSetIterable iter env x = pure x) : PH S Γ k (.Assign [.Name y py] (.ListComp elt [⟨tg, iter, ifs, 0⟩] scope pos) spos) p :=
  ph_of (fun X G => ps_lcR G hi hyl hl hk ha ok hs) (hs_setL h nb hp)
end
end DL

set_option Elab.async false
set_option linter.all false
set_option maxRecDepth 100000
set_option maxHeartbeats 4000000
namespace DL
open PySem PySem.Spec L2
/-! ### a list of two unlike things -/
def cL2 {α β : Type} (c : Cod α) (d : Cod β) : Cod (α × β) := ⟨fun H v x => ∃ a u w, v = .ref a ∧ H a = some (.lst [u, w]) ∧ c.rep H u x.1 ∧ d.rep H w x.2,
  fun e ⟨a, u, w, h1, h2, h3, h4⟩ => ⟨a, u, w, h1, e _ _ h2, c.mono e h3, d.mono e h4⟩⟩
section
variable {Γ : Ctxt} {k1 k2 : Nat} {α β : Type} {c1 : Cod α} {c2 : Cod β} {P1 : α → Prop} {P2 : β → Prop} {ta tb : TE} {x : α} {y : β}
variable {S : Stc} {a b e : Expr} {pos : Pos}
end
/-! ### try that runs through -/
theorem Good.nx {S : Stc} {X : Cx} (G : Good S X) : Good S X.nox := ⟨G.N, G.sc, G.K, G.mg, G.prog, G.w, G.base, G.calm, G.room, G.fn, rfl, G.nd, G.gd⟩
/-! ### methods with a keyword -/
structure MCalK (P : Program) (w : World) (K : PySem.W.Frag) (mg : Str → Option Value) (base : Heap) (C : Addr) (m : Str) (pn ks : List Str) (lv : Nat) (sp : Sp) : Prop where
  ex : ∃ f fd, FnOk P w K mg base CX0 lv f fd pn sp ∧ Meth K C m f ∧ KBinds K fd pn ks g2 g2
section
variable {S : Stc} {Γ : Ctxt} {α ω ρ : Type} {cr : Cod ρ} {ca : Cod α} {e o : Expr} {pos apos kpos : Pos} {C : Addr} {F : Hp → List (Str × V) → ω → Prop} {hm : ∀ {H H' fs y}, Ex H H' → F H fs y → F H' fs y} {m kn : Str} {pn' : List Str} {lv : Nat}
end
/-! ### .. that may raise -/
section
variable {X : Cx} {CX : CXT} {k : Nat} {f C : Addr} {fd : FuncData} {ps ks : List Str} {sp : Sp} {E : Stt → XK} {m : Str} {pos apos : Pos} {o : Expr} {kws : List Keyword} {ta : TE} {tk : TA} {g : List Value → List Value → List Value} {gV : List V → List V → List V}
end
end DL

set_option Elab.async false
set_option linter.all false
set_option maxRecDepth 100000
set_option maxHeartbeats 4000000
namespace DL
open PySem PySem.Spec L2
section
variable {S : Stc} {Γ Γ1 : Ctxt} {k k1 k2 k3 kr : Nat} {α ρ : Type} {c : Cod α} {p : Po ρ} {R1 R2 R3 : Sl → Prop} {a b d e : Expr} {pos px py pz pt pt2 : Pos} {x y z : Str} {kt kt2 : Nat} {rest : List Stmt}
theorem HS.ctx {ts : TS} {Γ' : Ctxt} (e : Γ = Γ') (h : HS ts Γ' k p) : HS ts Γ k p := by subst e; exact h
variable {A1 B1 : Bool → Prop} {es : List Expr}
theorem pd_andG (h1 : PD S Γ k1 a cBool A1) (h2 : A1 true → PD S Γ k2 (.BoolOp .And (b :: es) pos) cBool B1) : PD S Γ (k1 + k2) (.BoolOp .And (a :: b :: es) pos) cBool (fun r => (r = false ∧ A1 false) ∨ (A1 true ∧ B1 r)) := pd_of (fun X G => pe_and (tE_ok G) (tE_ok G)) (td_andV h1 h2)
theorem pdw_orG (h1 : PDT S Γ k1 a A1) (h2 : A1 false → PDW S Γ k2 (.BoolOp .Or (b :: es) pos) B1) : PDW S Γ (k1 + k2) (.BoolOp .Or (a :: b :: es) pos) (fun r => (r = true ∧ A1 true) ∨ (A1 false ∧ B1 r)) := pdw_of (fun X G => pw_or (tT_ok G) (tWt_ok G)) (tt_or h1 h2)
theorem pdw_andG (h1 : PDT S Γ k1 a A1) (h2 : A1 true → PDW S Γ k2 (.BoolOp .And (b :: es) pos) B1) : PDW S Γ (k1 + k2) (.BoolOp .And (a :: b :: es) pos) (fun r => (r = false ∧ A1 false) ∨ (A1 true ∧ B1 r)) := pdw_of (fun X G => pw_and (tT_ok G) (tWt_ok G)) (tt_and h1 h2)
end
end DL

set_option Elab.async false
set_option linter.all false
set_option maxRecDepth 100000
set_option maxHeartbeats 4000000
namespace DL
open PySem PySem.Spec L2
section
variable {Γ : Ctxt} {k k1 k2 k3 : Nat} {ρ : Type} {te ta tb : TE} {tt : TT} {p : Po ρ} {R R1 : Sl → Prop}
theorem TX.le (h : TX te Γ k R) (l : k ≤ k2) : TX te Γ k2 R := fun O n σ Hf H hn S Q q => h O n σ Hf H (by omega) S Q fun v Hf' H' s r vo f st => q v Hf' H' s r vo f (st.le (by omega))
end
section
variable {S : Stc} {Γ : Ctxt} {k k1 k2 k3 kr : Nat} {ρ : Type} {p : Po ρ} {e a b d : Expr} {pos pos' : Pos} {rest : List Stmt} {s : Sl} {nm : Str}
end
end DL

set_option Elab.async false
set_option linter.all false
set_option maxRecDepth 100000
set_option maxHeartbeats 4000000
namespace DL
open PySem PySem.Spec L2
/-! ### objects that no slot owns: frozen, changed, by hand -/
section
variable {O : Org} {Hf H H' : Hp} {σ : Stt} {Γ : Ctxt} {n : Nat} {a : Addr} {o : HO}
def NoOwn (Γ : Ctxt) : Prop := ∀ s ∈ Γ, s.own = false
theorem NoOwn.at (h : NoOwn Γ) {i : Nat} {s : Sl} (e : Γ[i]? = some s) : s.own = false := h s (List.mem_of_getElem? e)
theorem slOk_no {Hf H Hf' H' : Hp} {n : Nat} {ov : Option (Option V)} {s : Sl} (hs : s.own = false) (e : Ex Hf Hf') (h : SlOk Hf H n ov s) : SlOk Hf' H' n ov s := by
  cases s with
  | un => trivial
  | d c x => obtain ⟨v, h1, h2⟩ := h; exact ⟨v, h1, c.mono e h2⟩
  | l c xs => cases hs
  | bx a => cases hs
  | r p => cases hs
theorem Sat.reFr (S : Sat O Hf H σ Γ n) (no : NoOwn Γ) {Hf' : Hp} (ex : Ex Hf' H') (e : Ex Hf Hf') (fr : Fr O.M O.Hf O.H Hf' H') : Sat O Hf' H' σ Γ n :=
  ⟨S.len, ex, fun i s h => slOk_no (no.at h) e (S.at_ i s h), S.sep, fr, S.mine⟩
theorem Sat.heap (S : Sat O Hf H σ Γ n) (no : NoOwn Γ) (k : Ex H H') (d : ∀ x, H' x = none → H x = none) : Sat O Hf H' σ Γ n :=
  S.reFr no (S.ex.trans k) Ex.rfl' ⟨S.fr.ex, fun b u e nm => k b u (S.fr.keep b u e nm), S.fr.fz, fun b e => S.fr.dom b (d b e)⟩
theorem NoOwn.bx (h : NoOwn Γ) (x : Addr) : ¬ Bx Γ x := fun ⟨i, e⟩ => by have := h.at e; cases this
theorem NoOwn.owns (h : NoOwn Γ) (x : Addr) : ¬ Owns σ Γ x := fun ⟨i, s, h1, h2, _⟩ => by rw [h.at h1] at h2; cases h2
end
end DL
namespace DL
open PySem PySem.Spec L2
theorem HS.run {ρ : Type} {ts : TS} {Γ : Ctxt} {p : Po ρ} {O : Org} {n : Nat} {σ : Stt} {Hf H : Hp} {D : Ends} (h : HS ts Γ 0 p) (S : Sat O Hf H σ Γ n) (hn : n + 0 ≤ LIM) (q1 : ∀ σ' Hf' H' Γ', p.N Γ' → Fin O Γ Hf Hf' H' σ' Γ' (n + 0) → D.nx σ' H') (q2 : ∀ σ' Hf' H' Γ', p.bk Γ' → Fin O Γ Hf Hf' H' σ' Γ' (n + 0) → D.bk σ' H')
    (q3 : ∀ σ' Hf' H' Γ', p.ct Γ' → Fin O Γ Hf Hf' H' σ' Γ' (n + 0) → D.ct σ' H') (q4 : ∀ v σ' Hf' H' Γ' x, p.R x → p.c.rep Hf' v x → Fin O Γ Hf Hf' H' σ' Γ' (n + 0) → D.rt v H') : ts D σ H := h O n σ Hf H hn S D q1 q2 q3 q4
theorem TDT.run {tt : TT} {Γ : Ctxt} {P : Bool → Prop} {O : Org} {n : Nat} {σ : Stt} {Hf H : Hp} {Q : Bool → Hp → Prop} (h : TDT tt Γ 0 P) (S : Sat O Hf H σ Γ n) (hn : n + 0 ≤ LIM) (q : ∀ b Hf' H', P b → Fr (Bx Γ) Hf H Hf' H' → Sat O Hf' H' σ Γ (n + 0) → Q b H') : tt σ H Q := h O n σ Hf H hn S Q q
end DL

set_option Elab.async false
set_option linter.all false
set_option maxRecDepth 100000
set_option maxHeartbeats 2000000
namespace DL
open PySem PySem.Spec L2
/-! ### a list or a tuple of the heap or of K (a default) -/
theorem Rd.ex {Hf H : Hp} {a : Addr} {u : HO} (e : Ex Hf H) (h : Rd Hf a u) : Rd H a u := by
  rcases h with h | ⟨o, h⟩
  · exact .inl (e _ _ h)
  · exact .inr ⟨o, e _ _ h⟩
theorem SqL.ex {K : PySem.W.Frag} {Hf H : Hp} {a : Addr} {vs : List V} (e : Ex Hf H) (h : SqL K Hf a vs) : SqL K H a vs := by
  rcases h with h | h
  · exact .inl (DL.Rd.ex e h)
  · exact .inr h
theorem SqT.ex {K : PySem.W.Frag} {Hf H : Hp} {a : Addr} {vs : List V} (e : Ex Hf H) (h : SqT K Hf a vs) : SqT K H a vs := by
  rcases h with h | h
  · exact .inl (DL.Rd.ex e h)
  · exact .inr h
def cSq {α : Type} (K : PySem.W.Frag) (c : Cod α) : Cod (List α) := ⟨fun H v xs => ∃ a vs, v = .ref a ∧ (SqL K H a vs ∨ SqT K H a vs) ∧ Paired (c.rep H) vs xs ∧ vs.length ≤ LB,
  fun e ⟨a, vs, h1, h2, h3, h4⟩ => ⟨a, vs, h1, h2.imp (DL.SqL.ex e) (DL.SqT.ex e), paired_mono h3 (fun _ _ z => c.mono e z), h4⟩⟩
section
variable {S : Stc} {X : Cx}
variable {Γ Γ1 Γ2 Γ3 : Ctxt} {k k1 k2 k3 kk kt ke : Nat} {A α β γ ρ : Type} {c : Cod α} {te to ti : TE} {e a b d o : Expr} {es : List Expr} {pos pos' pn pt : Pos} {K : PySem.W.Frag} {w : World} {ns : List Int}
variable {x : α} {y : β} {z : γ} {xs : List α}
theorem TD.sq {xs : List α → Prop} (h : TD te Γ k (cSeq c) xs) : TD te Γ k (cSq K c) xs := h.conv fun H v x px r => ⟨x, px, sq_seq (fun _ _ z => z) r⟩
end
/-! ### a def with keyword-only parameters, its names given from outside -/
structure DefK (K : PySem.W.Frag) (mg : Str → Option Value) (x : Str) (st : Stmt) (kws : List (Str × V)) : Prop where
  ex : ∃ f fd, FunD K x x (defArgs st) (defBody st) (defScope st) [] kws f fd ∧ mg x = some (.ref f)
section
variable {A ρ : Type} {cr : Cod ρ}
end
end DL

set_option Elab.async false
set_option linter.all false
set_option maxRecDepth 100000
set_option maxHeartbeats 2000000
namespace DL
open PySem PySem.Spec L2
/-! ### calls of a def of two parameters and a keyword-only one -/
structure CalK (P : Program) (w : World) (K : PySem.W.Frag) (mg : Str → Option Value) (base : Heap) (x : Str) (st : Stmt) (p1 p2 p3 : Str) (dv : V) (lv : Nat) (sp : Sp) : Prop where
  ex : ∃ f fd, FunD K x x (defArgs st) (defBody st) (defScope st) [] [(p3, dv)] f fd ∧ FnOk P w K mg base CX0 lv f fd [p1, p2, p3] sp ∧ mg x = some (.ref f)
/-- how the three forms bind -/
structure KwB (x : Str) (st : Stmt) (p1 p2 p3 : Str) : Prop where
  d : ∀ (D : Addr) (doc pm : Value) (an : Option Addr) (cdv ct u1 u2 u3 : Value), KwChain D [(p3, u3)] (bindArgs (PySem.W.fnOf x x (defArgs st) (defBody st) (defScope st) .none (.ref D) doc pm an cdv ct) ⟨[u1, u2], []⟩) ([p1, p2, p3].zip [u1, u2, u3])
  n : ∀ (D : Addr) (doc pm : Value) (an : Option Addr) (cdv ct u1 u2 u3 : Value), KwChain D [(p3, u3)] (bindArgs (PySem.W.fnOf x x (defArgs st) (defBody st) (defScope st) .none (.ref D) doc pm an cdv ct) ⟨[], [p1, p2].zip [u1, u2]⟩) ([p1, p2, p3].zip [u1, u2, u3])
  k : ∀ (D : Addr) (doc pm : Value) (an : Option Addr) (cdv ct u1 u2 u3 : Value), KwChain D [] (bindArgs (PySem.W.fnOf x x (defArgs st) (defBody st) (defScope st) .none (.ref D) doc pm an cdv ct) ⟨[u1, u2], [p3].zip [u3]⟩) ([p1, p2, p3].zip [u1, u2, u3])
def tCallN0 (m : Nat) (sp : Sp) (gV : List V → List V → List V) (E : XK) (tk : TA) : TE := fun σ H Q => tk σ H fun zs H2 => zs.length = m ∧ sp (gV [] zs) H2 Q E
theorem pe_callN0 {X : Cx} {CX : CXT} {k : Nat} {f : Addr} {fd : FuncData} {ps ks : List Str} {sp : Sp} {E : XK} {x : Str} {p pos : Pos} {kws : List Keyword} {tk : TA} {g : List Value → List Value → List Value} {gV : List V → List V → List V}
    (F : FnOk X.prog X.w X.K X.mg X.base CX k f fd ps sp) (hr : Room k X.A) (hg : Gl X x) (hm : X.mg x = some (.ref f)) (hk : PySem.W.keepIn X.K (.ref f) = true) (hb : KBn X.K fd ps 0 ks g gV) (hx : Passes CX X E)
    (hkw : PK X kws tk) (hall : (backToKw pos (keywordEach kws X.env)).all (·.1.isSome) = true) (hks : (backToKw pos (keywordEach kws X.env)).filterMap (·.1) = ks)
    (hdb : (x == ("__debug__" : Str)) = false)
    (hpl : ((backTo pos (starEach [] X.env)).any (·.1) || (backToKw pos (keywordEach kws X.env)).any (·.1.isNone)) = false) :
    PE X (.Call (.Name x p) [] kws pos) (tCallN0 ks.length sp gV E tk) := by
  refine ⟨fun pins s σ H Q I h => ?_⟩
  refine wpAny_Call_Name_kw (ld_glob I hg hm ?_ hdb)
  refine PySem.W.callWith_KW0 (h₀ := X.base) I.ok.mod.kin hk hall ?_ hpl
  refine thn (hkw.run pos pins s σ H _ I h) fun ws s2 ⟨zs, H2, I2, rz, l2, q2⟩ => ⟨I2.kIn, ?_⟩
  rw [hks]
  exact run_fnN (us := []) (vs := []) F hr hb hx I2 .nil rz rfl l2 q2
section
variable {S : Stc} {Γ : Ctxt} {α β γ ρ : Type} {c1 : Cod α} {c2 : Cod β} {c3 : Cod γ} {cr : Cod ρ} {x : α} {y : β} {z : γ} {pre : α × β × γ → Prop} {g : α × β × γ → ρ} {e1 e2 e3 : Expr} {pos pn k1 k2 : Pos} {xn p1 p2 p3 : Str} {st : Stmt} {dv : V} {lv : Nat} {t1 t2 t3 : TE} {E : XK}
end
end DL

set_option Elab.async false
set_option linter.all false
set_option maxRecDepth 100000
set_option maxHeartbeats 2000000
/-! ### results that nobody else has -/
namespace DL
open PySem PySem.Spec L2
theorem execs_app (l1 l2 : List Stmt) (env : Env) : execs (l1 ++ l2) env = (execs l1 env >>= fun f => match f with
    | .next => execs l2 env
    | f => pure f) := by
  induction l1 with
  | nil => simp [execs]
  | cons st l ih =>
    simp only [List.cons_append, execs, bind_assoc]
    congr 1
    funext f
    cases f <;> simp [ih]
theorem pss_app {X : Cx} {l1 l2 : List Stmt} {t u : TS} (h1 : PSs X l1 t) (h2 : PSs X l2 u) : PSs X (l1 ++ l2) (tSeq t u) := by
  refine ⟨fun pins s σ H D I h => ?_⟩
  rw [execs_app]
  refine wpAny_bind (thn (h1.run pins s σ H { D with nx := u D } I h) fun f s1 q => ?_)
  cases f with
  | next =>
    obtain ⟨σ', H', I', q⟩ := q
    exact h2.run pins s1 σ' H' D I' q
  | ret v => exact wpAny_pure q
  | brk => exact wpAny_pure q
  | cont => exact wpAny_pure q
def HSF {α : Type} (ts : TS) (Γ : Ctxt) (k : Nat) (c : Cod α) (R : List α → Prop) : Prop :=
  ∀ (O : Org) (n : Nat) (σ : Stt) (Hf H : Hp), n + k ≤ LIM → Sat O Hf H σ Γ n → ∀ D : Ends,
    (∀ a vs σ' Hf' H' Γ' xs, R xs → H' a = some (.lst vs) → Hf' a = none → (O.M a ∨ O.H a = none) → ¬ Bx Γ a → Paired (c.rep Hf') vs xs → vs.length ≤ LB → Fin O Γ Hf Hf' H' σ' Γ' (n + k) → D.rt (.ref a) H') → ts D σ H
/-- a promise of a new list -/
def spF {A α : Type} (ps : Addr → A → Ctxt) (kf : A → Nat) (pre : A → Prop) (c : Cod α) (P : A → List α → Prop) : Sp := fun vs H Q _ =>
  ∃ (a : A) (b : Addr) (n : Nat) (Hf : Hp), pre a ∧ n + kf a ≤ LIM ∧ Ex Hf H ∧ ArgsOk Hf vs (ps b a) ∧ (∀ z, Sl.bx z ∈ ps b a → Hf z = none ∧ BoxAt H z n) ∧
    ∀ r ws Hf' H' xs, P a xs → H' r = some (.lst ws) → Hf' r = none → H r = none → Paired (c.rep Hf') ws xs → ws.length ≤ LB → Fr (fun z => Sl.bx z ∈ ps b a) Hf H Hf' H' → Ex Hf' H' →
      (∀ z, Sl.bx z ∈ ps b a → Hf' z = none ∧ BoxAt H' z (n + kf a)) → Q (.ref r) H'
abbrev PHFs {α : Type} (S : Stc) (Γ : Ctxt) (k : Nat) (st : List Stmt) (c : Cod α) (R : List α → Prop) : Prop := HSF (tSs S st) Γ k c R
section
variable {O : Org} {Hf H Hf' H' : Hp} {σ : Stt} {n m : Nat} {Γ Γ1 : Ctxt} {k k1 k2 k3 : Nat} {A α β γ ρ ω : Type} {c : Cod α} {te to ti : TE} {tt : TT} {t u : TS} {ta : TA} {R R' : List α → Prop} {p : Po ρ} {N1 : Ctxt → Prop}
variable {ps : Addr → A → Ctxt} {kf : A → Nat} {pre : A → Prop} {PR : A → List α → Prop}
theorem HSF.imp (h : HSF t Γ k c R) (hp : ∀ x, R x → R' x) : HSF t Γ k c R' := fun O n σ Hf H hn S D q => h O n σ Hf H hn S D fun a vs σ' Hf' H' Γ' xs r => q a vs σ' Hf' H' Γ' xs (hp xs r)
theorem HSF.le (h : HSF t Γ k c R) (l : k ≤ k2) : HSF t Γ k2 c R := fun O n σ Hf H hn S D q => h O n σ Hf H (by omega) S D fun a vs σ' Hf' H' Γ' xs r h1 h2 h3 h4 h5 h6 f => q a vs σ' Hf' H' Γ' xs r h1 h2 h3 h4 h5 h6 (f.le (by omega))
theorem tdf_call {B : Ctxt → Prop} {P' : List α → Prop} {E : XK} (h : TDA ta Γ k1 B) (hc : ∀ as, B as → ∃ a b, as = ps b a ∧ pre a ∧ kf a ≤ k2 ∧ ∀ x, PR a x → P' x) : TDF (tCall (spF ps kf pre c PR) [] E ta) Γ (k1 + k2) c P' := fun O n σ Hf H hn S Q q =>
  h O n σ Hf H (by omega) S _ fun vs Hf1 H1 as b o hb f s => by
    obtain ⟨a, bb, e, pa, hk, hp⟩ := hc as b
    subst e
    refine ⟨a, bb, n + k1, Hf1, pa, by omega, s.ex, by rw [List.append_nil]; exact o, fun z hz => ?_, fun r ws Hf' H' xs px e1 e2 e3 e4 e5 f2 ex bx => ?_⟩
    · obtain ⟨i, hi⟩ := hb z hz
      exact (s.at_ i _ hi).2
    · obtain ⟨F, S2⟩ := s.called hb f2 ex bx
      exact q r ws Hf' H' xs (hp xs px) e1 e2 (f.dom r e3) e4 e5 (f.trans F fun _ z => .inl z) (S2.le (by omega))
variable {C : Addr} {F : Hp → List (Str × V) → ω → Prop} {hm : ∀ {H H' fs y}, Ex H H' → F H fs y → F H' fs y} {K : PySem.W.Frag} {k1' : Cod ω}
/-- the reading of a body gives the promise -/
theorem body_okF {N : List Str} {vs : List V} {Q : VK} {ts : TS} {a : A} {b : Addr} (hl : (ps b a).length ≤ N.length) (one : OneB (ps b a)) (hn : n + kf a ≤ LIM) (ex : Ex Hf H) (o : ArgsOk Hf vs (ps b a)) (bx : ∀ z, Sl.bx z ∈ ps b a → Hf z = none ∧ BoxAt H z n)
    (q : ∀ r ws Hf' H' xs, PR a xs → H' r = some (.lst ws) → Hf' r = none → H r = none → Paired (c.rep Hf') ws xs → ws.length ≤ LB → Fr (fun z => Sl.bx z ∈ ps b a) Hf H Hf' H' → Ex Hf' H' → (∀ z, Sl.bx z ∈ ps b a → Hf' z = none ∧ BoxAt H' z (n + kf a)) → Q (.ref r) H')
    (hs : HSF ts (entry N (ps b a)) (kf a) c (PR a)) : ts { nx := fun _ H' => Q .non H', rt := Q } (start N vs) H := by
  have at0 : ∀ z, Sl.bx z ∈ ps b a → ∃ i : Nat, (entry N (ps b a))[i]? = some (.bx z) := fun z hz => by
    obtain ⟨i, hi⟩ := List.getElem?_of_mem hz
    refine ⟨i, ?_⟩
    unfold entry
    rw [List.getElem?_append_left (List.getElem?_eq_some_iff.mp hi).1]; exact hi
  refine hs _ n _ Hf H hn (sat_entry hl o one ex bx) _ fun r ws σ' Hf' H' Γ' xs px e1 e2 e3 e4 e5 e6 f => ?_
  have hr : H r = none := by
    rcases e3 with e3 | e3
    · exact absurd (at0 r e3) e4
    · exact e3
  refine q r ws Hf' H' xs px e1 e2 hr e5 e6 f.sat.fr f.sat.ex fun z hz => ?_
  obtain ⟨i, hi'⟩ := at0 z hz
  exact (f.sat.at_ i _ (f.bx i z hi')).2
end
section
variable {S : Stc} {X : Cx} {Γ Γ1 : Ctxt} {k k1 k2 k3 : Nat} {A α ρ ω : Type} {c : Cod α} {R : List α → Prop} {N1 : Ctxt → Prop} {e o : Expr} {es : List Expr} {pos pos' pn apos : Pos} {l1 l2 : List Stmt} {st : Stmt}
variable {ps : Addr → A → Ctxt} {kf : A → Nat} {pre : A → Prop} {PR : A → List α → Prop}
/-- a def keeps its promise of a new list, by its body -/
theorem fn_F {P : Program} {w : World} {K : PySem.W.Frag} {mg : Str → Option Value} {base : Heap} {x qual : Str} {st : Stmt} {f : Addr} {fd : FuncData} {N pn : List Str} {lv : Nat} (F : Fun K x qual st f fd) (Sc : FnScope N pn (defScope st))
    (hl : ∀ b a, (ps b a).length = pn.length) (hN : pn.length ≤ N.length) (one : ∀ b a, OneB (ps b a))
    (body : ∀ b a, pre a → PHFs ⟨N, defScope st, K, mg, P, w, base, lv, fun _ => true, false⟩ (entry N (ps b a)) (kf a) (defBody st) c (PR a)) :
    FnOk P w K mg base CX0 (lv + 1) f fd pn (spF ps kf pre c PR) := by
  refine F.ok Sc (fun vs H Q E h => ?_) (fun cdv A outer s H vs Q E hr h => ?_)
  · obtain ⟨a, b, n, Hf, _, _, _, o, _⟩ := h
    rw [argsOk_len o]; exact hl b a
  · obtain ⟨a, b, n, Hf, hp, hn, ex, o, bx, q⟩ := h
    refine ⟨tSs ⟨N, defScope st, K, mg, P, w, base, lv, fun _ => true, false⟩ (defBody st), tSs_ok (cxG hr Sc.nd), ?_⟩
    exact body_okF (by rw [hl]; exact hN) (one b a) hn ex o bx q (body b a hp)
/-- calls of such -/
theorem pcalF {B : Ctxt → Prop} {P' : List α → Prop} {pn' : List Str} {x : Str} {l : Nat} (F : Cal S.prog S.w S.K S.mg S.base x pn' l (spF ps kf pre c PR)) (hl : l ≤ S.lv) (hg : S.sc.names.lookup x = some .globalImplicit)
    (h : PDA S Γ k1 (e :: es) B) (hc : ∀ as, B as → ∃ a b, as = ps b a ∧ pre a ∧ kf a ≤ k2 ∧ ∀ x, PR a x → P' x)
    (he : ∀ env : Env, starEach (e :: es) env = (false, eval e env) :: starEach es env) (hpl : ∀ env : Env, (backTo pos (starEach es env)).any (·.1) = false) (hdb : (x == ("__debug__" : Str)) = false := by decide) : PDF S Γ (k1 + k2) (.Call (.Name x pn) (e :: es) [] pos) c P' := by
  obtain ⟨f, fd, F, hm, hk, hb⟩ := F.ex
  exact pdf_of (fun X G => pe_call (fnG F G) (G.room.mono hl) (glb G hg) (by rw [G.mg]; exact hm) (by rw [G.K]; exact hk) (by rw [G.K]; exact hb) .nil pass0 (tA_ok G) hdb (he _) (hpl _)) (tdf_call h hc)
variable {C : Addr} {F : Hp → List (Str × V) → ω → Prop} {hm : ∀ {H H' fs y}, Ex H H' → F H fs y → F H' fs y} {β : Type} {cb : Cod β} {x m : Str} {pn' : List Str} {lv : Nat}
end
/-! ### a list of one's own, looked at, where what comes out holds no list -/
/-- the codec sees no list -/
def NL {α : Type} (c : Cod α) : Prop := ∀ (H H' : Hp) v x, (∀ b o, H b = some o → (∀ vs, o ≠ .lst vs) → H' b = some o) → c.rep H v x → c.rep H' v x
section
variable {α β γ ω : Type} {c : Cod α} {c1 : Cod β} {c2 : Cod γ}
theorem Flat.nl (h : Flat c) : NL c := fun H H' v x _ r => h H H' v x r
theorem nl_int : NL cInt := fun _ _ _ _ _ h => h
end
section
variable {O : Org} {Hf H Hf' H' : Hp} {σ : Stt} {n m : Nat} {Γ : Ctxt} {k : Nat} {α β : Type} {c : Cod α} {c' : Cod β} {te : TE}
theorem Sat.viewN (S : Sat O Hf H σ Γ n) {i : Nat} {c : Cod α} {xs : List α} (h : Γ[i]? = some (.l c xs)) {Q : Hp → Prop}
    (run : ∀ Hf1, Sat O Hf1 H σ (Γ.set i (.d (cList c) xs)) n → (∀ Hf1' H', Fr (Bx (Γ.set i (.d (cList c) xs))) Hf1 H Hf1' H' → Sat O Hf1' H' σ (Γ.set i (.d (cList c) xs)) m →
      (∃ Hf', (∀ b o, Hf1' b = some o → (∀ vs, o ≠ .lst vs) → Hf' b = some o) ∧ (∀ b, Hf1' b = none → Hf' b = none) ∧ Fr (Bx Γ) Hf H Hf' H' ∧ Sat O Hf' H' σ Γ m)) → Q H) : Q H := by
  obtain ⟨a, vs, h1, h2, h3, nbx, oth, rp, S'⟩ := S.freeze h
  refine run _ S' fun Hf1' H' f s => ?_
  have bxe : ∀ b, Bx Γ b → Bx (Γ.set i (.d (cList c) xs)) b := fun b ⟨j, hj⟩ => ⟨j, by
    rw [List.getElem?_set_ne (fun z => by subst z; rw [h] at hj; cases hj)]; exact hj⟩
  have bxb : ∀ b, Bx (Γ.set i (.d (cList c) xs)) b → Bx Γ b := fun b hb => boxLt hb
  have F : Fr (Bx Γ) Hf H (fun b => if b = a then none else Hf1' b) H' := by
    refine ⟨fun b o e => ?_, fun b o e nm => f.keep b o e fun z => nm (bxb b z), fun b o e nm z => ?_, f.dom⟩
    · have nb := ne_of_none e h3
      show (if b = a then none else Hf1' b) = some o
      rw [if_neg nb]; exact f.ex b o (by rw [upd_ne nb]; exact e)
    · show (if b = a then none else Hf1' b) = none
      by_cases nb : b = a
      · rw [if_pos nb]
      · rw [if_neg nb]; exact f.fz b o e (fun w => nm (bxb b w)) (by rw [upd_ne nb]; exact z)
  have ha' : Hf1' a = some (.lst vs) := f.ex a _ upd_same
  refine ⟨_, fun b o e nl => ?_, fun b z => ?_, F, S.grow F (fun b o e => ?_) fun b hb => ?_⟩
  · show (if b = a then none else Hf1' b) = some o
    have nb : b ≠ a := fun z => by
      subst z; rw [ha'] at e
      injection e with e
      exact nl vs e.symm
    rw [if_neg nb]; exact e
  · show (if b = a then none else Hf1' b) = none
    split
    · rfl
    · exact z
  · have e' : (if b = a then none else Hf1' b) = some o := e
    by_cases nb : b = a
    · rw [if_pos nb] at e'; cases e'
    · rw [if_neg nb] at e'; exact s.ex b o e'
  · obtain ⟨j, hj⟩ := bxe b hb
    obtain ⟨_, z2, z3⟩ := s.at_ j _ hj
    refine ⟨?_, z3⟩
    show (if b = a then none else Hf1' b) = none
    by_cases nb : b = a
    · rw [if_pos nb]
    · rw [if_neg nb]; exact z2
theorem td_viewN {i : Nat} {xs : List α} (h : Γ[i]? = some (.l c xs)) (fl : NL c') {P : β → Prop} (ht : TD te (Γ.set i (.d (cList c) xs)) k c' P) : TD te Γ k c' P := fun O n σ Hf H hn S Q q => by
  refine S.viewN (m := n + k) h (Q := fun H => te σ H Q) fun Hf1 S1 back => ?_
  refine ht O n σ Hf1 H hn S1 Q fun v Hf' H' x px r f s => ?_
  obtain ⟨Hf2, nl, _, F, S2⟩ := back Hf' H' f s
  exact q v Hf2 H' x px (fl _ _ _ _ nl r) F S2
/-- .. where a new list comes out -/
theorem tdf_viewN {i : Nat} {xs : List α} (h : Γ[i]? = some (.l c xs)) (fl : NL c') {P : List β → Prop} (ht : TDF te (Γ.set i (.d (cList c) xs)) k c' P) : TDF te Γ k c' P := fun O n σ Hf H hn S Q q => by
  refine S.viewN (m := n + k) h (Q := fun H => te σ H Q) fun Hf1 S1 back => ?_
  refine ht O n σ Hf1 H hn S1 Q fun a vs Hf' H' xs px e1 e2 e3 e4 e5 f s => ?_
  obtain ⟨Hf2, nl, nn, F, S2⟩ := back Hf' H' f s
  exact q a vs Hf2 H' xs px e1 (nn a e2) e3 (paired_mono e4 fun _ _ r => fl _ _ _ _ nl r) e5 F S2
end
end DL

set_option Elab.async false
set_option linter.all false
set_option maxRecDepth 100000
set_option maxHeartbeats 2000000
/-! ### own == and !=, of any two -/
namespace DL
open PySem PySem.Spec L2
section
variable {K : PySem.W.Frag} {C L x f : Addr} {h₀ : Heap} {m : Str → Option Value} {b tb : Value} {ox : Obj} {od : Option Obj} {P : Program} {w : World} {A : Around} {s : Shared} {E : Value → Shared → Prop}
end
end DL

set_option Elab.async false
set_option linter.all false
set_option maxRecDepth 100000
set_option maxHeartbeats 2000000
/-! ### own == and != of any two, len by an own def -/
namespace DL
open PySem PySem.Spec L2
section
variable {X : Cx} {n : Nat} {CX : CXT} {C f : Addr} {fd : FuncData} {ps : List Str} {sp : Sp} {E : XK} {A : Around} {pins : List (Addr × Obj)} {σ : L2.St} {H : Hp} {s : Shared}
theorem run_own {us : List Value} {vs : List V} {Q : VK} (F : FnOk X.prog X.w X.K X.mg X.base CX n f fd ps sp) (hb : Binds X.K fd ps []) (hx : Passes CX X E) (hr : Room n A) (fr : A.frames = X.A.frames) (I : Inv X pins σ H s) (r2 : Vals vs us) (hsp : sp vs H Q E) :
    wpAny (model X.prog X.w) A (call (.ref f) us) (fun u s' => ∃ v H', Inv X pins σ H' s' ∧ RelV v u ∧ Q v H') X.xe s := by
  have e0 : Env0 X.prog X.w X.K X.mg X.base A X.stack s H := by
    have e := I.env0
    exact ⟨by rw [fr]; exact e.frames, e.mod, e.bs, e.bsz, e.funs, e.frf, e.hok, e.bare⟩
  have hl := F.len _ _ _ _ hsp
  have hvl := r2.length
  refine wpAny_call (codeAny_mono (F.run A X.stack s H ⟨us, []⟩ us vs _ E hr e0 (by
    have := hb s us I.kIn (by simpa [← hvl] using hl)
    simpa using this) r2 hsp) fun r s' hq => ?_)
  cases r with
  | error e => exact hx pins σ H s e s' I hq
  | ok fl =>
    cases fl with
    | ret w =>
      obtain ⟨z, H', I', rz, q⟩ := I.after hq
      exact ⟨z, H', I', rz, q⟩
    | next => exact False.elim hq
    | brk => exact False.elim hq
    | cont => exact False.elim hq
structure EqA (P : Program) (w : World) (K : PySem.W.Frag) (mg : Str → Option Value) (base : Heap) (C : Addr) (lv : Nat) (sp : Sp) : Prop where
  ex : ∃ f fd pn, FnOk P w K mg base CX0 lv f fd pn sp ∧ PySem.W.findIn K (.ref C) "__eq__" = some (some (.ref f)) ∧ PySem.W.isFn K (.ref f) = true ∧ Binds K fd pn []
  cl : Cls K C
  ob : PySem.W.mroIn K C (.type "object") = some true
  ne : PySem.W.findIn K (.ref C) "__ne__" = some (some (.builtin "object.__ne__"))
  nt : PySem.W.subIn K (.type "tuple") (.ref C) = some false
/-- len(x) by the class's own def -/
def rLenOwn (C : Addr) (sp : Sp) : List V → Hp → VK → Prop := fun xs H Q => ∃ a dx fs, xs = [.ref a] ∧ H a = some (.ins C dx fs) ∧ sp [.ref a] H (fun v H' => ∃ i : Int, v = .int i ∧ 0 ≤ i ∧ i < 9223372036854775808 ∧ Q (.int i) H') E0
structure LenA (P : Program) (w : World) (K : PySem.W.Frag) (mg : Str → Option Value) (base : Heap) (C : Addr) (lv : Nat) (sp : Sp) : Prop where
  ex : ∃ f fd pn, FnOk P w K mg base CX0 lv f fd pn sp ∧ PySem.W.findIn K (.ref C) "__len__" = some (some (.ref f)) ∧ PySem.W.isFn K (.ref f) = true ∧ Binds K fd pn []
theorem cr_lenOwn (e : LenA X.prog X.w X.K X.mg X.base C n sp) (hr : Room (n + 1) X.A) : CallR X (.builtin "len") (rLenOwn C sp) := by
  intro pins s σ H xs us Q I r h
  obtain ⟨f, fd, pn, F, hs, hf, hb⟩ := e.ex
  obtain ⟨a, dx, fs, rfl, ha, hsp⟩ := h
  rw [Vals.ref1 r]
  obtain ⟨mA, J, _⟩ := ins_get I.hok ha
  obtain ⟨od, J, _⟩ := J.look
  obtain ⟨m, hF⟩ := I.fr
  refine PySem.W.len_K hF I.ok.mod.kin J hs hf ?_
  refine wpAny_mono (run_own F hb pass0 hr.in1 rfl I (.cons (show RelV (.ref a) (.ref a) from rfl) .nil) hsp) (fun u s' q => ?_) fun _ _ x => x
  obtain ⟨v, H', I', rv, i, rfl, h0, h1, q⟩ := q
  obtain ⟨t, rfl⟩ := (show ∃ t, u = Value.int i t from rv)
  exact ⟨⟨h0, h1⟩, .int i, H', I'.tok _, ⟨_, rfl⟩, q⟩
end
end DL

set_option Elab.async false
set_option linter.all false
set_option maxRecDepth 100000
set_option maxHeartbeats 2000000
/-! ### rules: own == and !=, len of one's own, repr of a truth, is, max, slices -/
namespace DL
open PySem PySem.Spec L2
section
variable {X : Cx}
end
end DL

set_option Elab.async false
set_option linter.all false
set_option maxRecDepth 100000
set_option maxHeartbeats 2000000
namespace DL
open PySem PySem.Spec L2
section
variable {α β γ ω ρ : Type} {c : Cod α} {cb : Cod β} {C : Addr} {F : Hp → List (Str × V) → ω → Prop} {hm : ∀ {H H' fs y}, Ex H H' → F H fs y → F H' fs y} {x : ω} {y : β} {K : PySem.W.Frag}
theorem rc_lenOwn {pre : ω → Prop} {g : ω → Int} (hp : pre x) (hb : 0 ≤ g x ∧ g x < 9223372036854775808) : RC1 (rLenOwn C (spP (fun (a : ω) => [.d (cIns C F hm) a]) pre cInt g)) (cIns C F hm) x cInt (· = g x) := fun Hf H v e h1 Q q => by
  obtain ⟨a, dx, fs, e1, e2, e3⟩ := id h1
  refine ⟨a, dx, fs, by rw [e1], e _ _ e2, x, 0, 0, Hf, hp, Nat.zero_le _, e, ⟨by rw [← e1]; exact h1, trivial⟩, fun z hz => by simp at hz, fun w Hf' H' r pr rr fr ex _ => ?_⟩
  obtain rfl := (show w = .int r from rr)
  have pr : r = g x := pr
  exact ⟨r, rfl, by rw [pr]; exact hb.1, by rw [pr]; exact hb.2, q _ Hf' H' _ pr rfl (fr.mono fun a h => by simp at h) ex⟩
end
section
variable {S : Stc} {X : Cx} {Γ : Ctxt} {k : Nat} {α β γ ω ρ : Type} {c : Cod α} {cb : Cod β} {C : Addr} {F : Hp → List (Str × V) → ω → Prop} {hm : ∀ {H H' fs y}, Ex H H' → F H fs y → F H' fs y} {x : ω} {y : β} {a b e : Expr} {pos pn p2 : Pos} {lv : Nat}
variable {pre : ω × β → Prop} {g : ω × β → Bool}
theorem lenOG {sp : Sp} (E : LenA S.prog S.w S.K S.mg S.base C lv sp) (hl : lv + 1 ≤ S.lv) : ∀ X, Good S X → CallR X (.builtin "len") (rLenOwn C sp) := fun X G => by
  refine cr_lenOwn (n := lv) ?_ (G.room.mono hl)
  rw [G.prog, G.w, G.K, G.mg, G.base]; exact E
/-! slices -/
def cutD {α : Type} (xs : List α) (lo hi : Option Int) : List α := (xs.drop (HT.sIx xs.length 0 lo)).take (HT.sIx xs.length xs.length hi - HT.sIx xs.length 0 lo)
theorem paired_cut {G : V → α → Prop} {vs : List V} {xs : List α} (h : Paired G vs xs) (lo hi : Option Int) : Paired G (cutV vs lo hi) (cutD xs lo hi) := by
  have hl := paired_len h
  unfold cutV cutD
  rw [hl]
  have dr : ∀ {vs : List V} {xs : List α} (n : Nat), Paired G vs xs → Paired G (vs.drop n) (xs.drop n) := fun {vs xs} n h => by
    induction h generalizing n with
    | nil => simp; exact .nil
    | cons r t ih => cases n with
      | zero => exact .cons r t
      | succ n => exact ih n
  have tk : ∀ {vs : List V} {xs : List α} (n : Nat), Paired G vs xs → Paired G (vs.take n) (xs.take n) := fun {vs xs} n h => by
    induction h generalizing n with
    | nil => simp; exact .nil
    | cons r t ih => cases n with
      | zero => simp; exact .nil
      | succ n => exact .cons r (ih n)
  exact tk _ (dr _ h)
inductive PPt (S : Stc) (Γ : Ctxt) : Option Expr → Option Int → Prop
  | none : PPt S Γ none none
  | some {e : Expr} {i : Int} (h : PD S Γ 0 e cInt (· = i)) : PPt S Γ (some e) (some i)
def tPt (S : Stc) : Option Expr → TO
  | none => tNoPart
  | some e => tPart (tE S e)
theorem tPt_ok (G : Good S X) : ∀ {o : Option Expr}, PO X o (tPt S o)
  | none => po_none
  | some _ => po_some (tE_ok G)
theorem PPt.run {O : Org} {n : Nat} {σ : Stt} {Hf H : Hp} {o : Option Expr} {i : Option Int} (h : PPt S Γ o i) (hn : n + 0 ≤ LIM) (s : Sat O Hf H σ Γ n) {R : Option Int → Hp → Prop} (q : ∀ Hf' H', Fr (Bx Γ) Hf H Hf' H' → Sat O Hf' H' σ Γ (n + 0) → R i H') : tPt S o σ H R := by
  cases h with
  | none => exact q Hf H Fr.refl s
  | some h =>
    refine h O n σ Hf H hn s _ fun v Hf' H' z pz rz f s' => ?_
    subst pz
    exact ⟨z, rz, q Hf' H' f s'⟩
variable {xs : List α} {lo hi : Option Expr} {l u : Option Int}
theorem pslL (h : PD S Γ 0 e (cList c) (· = xs)) (hl : PPt S Γ lo l) (hu : PPt S Γ hi u) : PDF S Γ 0 (.Subscript e (.Slice lo hi none p2) pos) c (· = cutD xs l u) :=
  pdf_of (fun X G => pe_slice (r := rSlL S.K) (by rw [← G.K]; exact sl_list) (tE_ok G) (tPt_ok G) (tPt_ok G)) fun O n σ Hf H hn s Q q => h O n σ Hf H hn s _ fun v Hf1 H1 z pz rz f1 s1 => hl.run hn s1 fun Hf2 H2 f2 s2 => hu.run hn s2 fun Hf3 H3 f3 s3 => by
    subst pz
    obtain ⟨a, vs, h1, h2, h3, h4⟩ := (cList c).mono (f2.ex.trans f3.ex) rz
    have f := (f1.trans f2 fun _ z => .inl z).trans f3 fun _ z => .inl z
    refine ⟨a, vs, h1, SqL.of (s3.ex _ _ h2), fun p hp => ?_⟩
    exact q p _ Hf3 _ _ rfl upd_same (s3.ex.back hp) (f.dom p hp) (paired_cut h3 l u) (Nat.le_trans (cutV_length vs l u) h4) (f.trans (Fr.newO (M := Bx Γ) hp) fun _ z => .inl z) (s3.grow0 (Fr.newO hp) (s3.ex.trans (Ex.new hp)))
theorem cutD_whole {α : Type} {xs : List α} {l u : Option Int} (h : HT.sIx xs.length 0 l = 0 ∧ HT.sIx xs.length xs.length u = xs.length) : cutD xs l u = xs := by
  unfold cutD
  rw [h.1, h.2]; simp
theorem pslT (h : PD S Γ 0 e (cTup c) (· = xs)) (hl : PPt S Γ lo l) (hu : PPt S Γ hi u) : PD S Γ 0 (.Subscript e (.Slice lo hi none p2) pos) (cTup c) (· = cutD xs l u) :=
  pd_of (fun X G => pe_slice (r := rSlA S.K) (by rw [← G.K]; exact sl_tupA) (tE_ok G) (tPt_ok G) (tPt_ok G)) fun O n σ Hf H hn s Q q => h O n σ Hf H hn s _ fun v Hf1 H1 z pz rz f1 s1 => hl.run hn s1 fun Hf2 H2 f2 s2 => hu.run hn s2 fun Hf3 H3 f3 s3 => by
    subst pz
    have rz' := (cTup c).mono (f2.ex.trans f3.ex) rz
    obtain ⟨a, vs, h1, h2, h3, h4⟩ := id rz'
    have f := (f1.trans f2 fun _ z => .inl z).trans f3 fun _ z => .inl z
    refine ⟨a, vs, h1, SqT.of (s3.ex _ _ h2), fun w => ?_, fun _ p hp => ?_⟩
    · rw [paired_len h3] at w
      exact q _ Hf3 H3 _ rfl (by rw [cutD_whole w, ← h1]; exact rz') f s3
    · have e1 : Ex Hf3 (upd Hf3 p (.tup (cutV vs l u))) := Ex.new (s3.ex.back hp)
      exact q _ (upd Hf3 p (.tup (cutV vs l u))) _ _ rfl ⟨p, _, rfl, upd_same, paired_mono (paired_cut h3 l u) (fun _ _ z => c.mono e1 z), Nat.le_trans (cutV_length vs l u) h4⟩ (f.trans (Fr.new (M := Bx Γ) s3.ex hp) fun _ z => .inl z) (s3.new hp)
end
end DL

set_option Elab.async false
set_option linter.all false
set_option maxRecDepth 100000
set_option maxHeartbeats 2000000
/-! ### sorted of a tuple of triples -/
namespace DL
open PySem PySem.Spec L2
section
variable {S : Stc} {Γ : Ctxt} {e : Expr} {pos pn : Pos} {rs : List R3}
end
end DL

set_option Elab.async false
set_option linter.all false
set_option maxRecDepth 100000
set_option maxHeartbeats 2000000
namespace DL
open PySem PySem.Spec L2
section
variable {S : Stc} {Γ : Ctxt} {a b d : Expr} {pos : Pos}
/-- a < b < d as a test -/
theorem tchain {op op' : CmpOp} {g g' : Int → Int → Bool} {i j l : Int} (ho : ∀ X : Cx, OpR X (compareOp op) (rI0 fun i j => .bl (g i j))) (ho' : ∀ X : Cx, OpR X (compareOp op') (rI0 fun i j => .bl (g' i j))) (ha : PD S Γ 0 a cInt (· = i)) (hb : PD S Γ 0 b cInt (· = j)) (hd : PD S Γ 0 d cInt (· = l)) (hm : lastMarks [op, op'] [b, d] = false) :
    PDT S Γ 0 (.Compare a [op, op'] [b, d] pos) (· = (g i j && g' j l)) :=
  pdt_of (fun X G => pt_chain (ho X) (ho' X) (tE_ok G) (tE_ok G) (tE_ok G) hm) fun O n σ Hf H hn s Q q => ha O n σ Hf H hn s _ fun v Hf1 H1 x1 p1 r1 f1 s1 => hb O n σ Hf1 H1 hn s1 _ fun v2 Hf2 H2 x2 p2 r2 f2 s2 => by
    subst p1 p2
    obtain rfl := r1
    obtain rfl := r2
    refine ⟨x1, x2, rfl, rfl, g x1 x2, rfl, ?_⟩
    cases hg : g x1 x2 with
    | true =>
      refine iteT (hd O n σ Hf2 H2 hn s2 _ fun v3 Hf3 H3 x3 p3 r3 f3 s3 => ?_)
      subst p3
      obtain rfl := r3
      exact ⟨x2, x3, rfl, rfl, _, rfl, q _ Hf3 H3 (by rw [hg, Bool.true_and]) ((f1.trans f2 fun _ z => .inl z).trans f3 fun _ z => .inl z) s3⟩
    | false => exact iteF ⟨_, rfl, q _ Hf2 H2 (by rw [hg, Bool.false_and]) (f1.trans f2 fun _ z => .inl z) s2⟩
end
end DL

set_option Elab.async false
set_option linter.all false
set_option maxRecDepth 100000
set_option maxHeartbeats 2000000
namespace DL
open PySem PySem.Spec L2
/-! ### a promise of a new list is one of data -/
theorem spF_D {A α : Type} {ps : Addr → A → Ctxt} {kf : A → Nat} {pre : A → Prop} {c : Cod α} {P : A → List α → Prop} {vs : List V} {H : Hp} {Q : VK} {E : XK} (h : spD ps kf pre (cList c) P vs H Q E) : spF ps kf pre c P vs H Q E := by
  obtain ⟨a, b, n, Hf, hp, hn, ex, o, bx, q⟩ := h
  refine ⟨a, b, n, Hf, hp, hn, ex, o, bx, fun r ws Hf' H' xs px e1 e2 e3 e4 e5 f ex' bx' => ?_⟩
  have e0 : Ex Hf' (upd Hf' r (.lst ws)) := Ex.new e2
  refine q (.ref r) (upd Hf' r (.lst ws)) H' xs px ⟨r, ws, rfl, upd_same, paired_mono e4 (fun _ _ z => c.mono e0 z), e5⟩ (f.fix e3 e2 e1) (ex'.fix e1) fun z hz => ⟨?_, (bx' z hz).2⟩
  obtain ⟨_, _, _, _, _, w, _⟩ := bx z hz
  rw [upd_ne (ne_of_none w e3)]; exact (bx' z hz).1
section
variable {P : Program} {w : World} {K : PySem.W.Frag} {mg : Str → Option Value} {base : Heap} {C : Addr} {m x : Str} {pn : List Str} {lv : Nat} {A α : Type} {ps : Addr → A → Ctxt} {kf : A → Nat} {pre : A → Prop} {c : Cod α} {PR : A → List α → Prop}
theorem MCal.dat (M : MCal P w K mg base C m pn lv (spF ps kf pre c PR)) : MCal P w K mg base C m pn lv (spD ps kf pre (cList c) PR) := by
  obtain ⟨f, fd, F, hm, hb⟩ := M.ex
  exact ⟨f, fd, F.imp fun vs H Q E h => spF_D h, hm, hb⟩
theorem Cal.dat (M : Cal P w K mg base x pn lv (spF ps kf pre c PR)) : Cal P w K mg base x pn lv (spD ps kf pre (cList c) PR) := M.imp fun _ _ F => F.imp fun vs H Q E h => spF_D h
/-- a method of one parameter, by place and by keyword -/
structure MBoth (P : Program) (w : World) (K : PySem.W.Frag) (mg : Str → Option Value) (base : Heap) (C : Addr) (m kn : Str) (lv : Nat) (sp : Sp) : Prop where
  ex : ∃ f fd, FnOk P w K mg base CX0 lv f fd [("self" : Str), kn] sp ∧ Meth K C m f ∧ Binds K fd [("self" : Str), kn] [] ∧ KBinds K fd [("self" : Str), kn] [kn] g2 g2
theorem MBoth.p {m kn : Str} {sp : Sp} (M : MBoth P w K mg base C m kn lv sp) : MCal P w K mg base C m [("self" : Str), kn] lv sp := by
  obtain ⟨f, fd, F, hm, hb, _⟩ := M.ex
  exact ⟨f, fd, F, hm, hb⟩
theorem MBoth.k {m kn : Str} {sp : Sp} (M : MBoth P w K mg base C m kn lv sp) : MCalK P w K mg base C m [("self" : Str), kn] [kn] lv sp := by
  obtain ⟨f, fd, F, hm, _, hb⟩ := M.ex
  exact ⟨f, fd, F, hm, hb⟩
theorem MBoth.dat {m kn : Str} (M : MBoth P w K mg base C m kn lv (spF ps kf pre c PR)) : MBoth P w K mg base C m kn lv (spD ps kf pre (cList c) PR) := by
  obtain ⟨f, fd, F, h⟩ := M.ex
  exact ⟨f, fd, F.imp fun vs H Q E h => spF_D h, h⟩
end
/-! ### a method called where errors are caught -/
section
variable {X : Cx} {CX : CXT} {k : Nat} {f C : Addr} {fd : FuncData} {ps ks : List Str} {sp : Sp} {E : Stt → XK} {m x : Str} {p pos apos : Pos} {o e : Expr} {es : List Expr} {kws : List Keyword} {ta : TE} {t tk : TA}
/-! ### C(k = e) -/
end
section
variable {S : Stc} {Γ : Ctxt} {k : Nat} {α ω : Type} {ca : Cod α} {P : α → Prop} {e : Expr} {pos pn kp : Pos} {C : Addr} {F : Hp → List (Str × V) → ω → Prop} {hm : ∀ {H H' fs y}, Ex H H' → F H fs y → F H' fs y} {x kn : Str} {lv : Nat}
/-- __init__ by its keyword -/
structure ICalK (P : Program) (w : World) (K : PySem.W.Frag) (mg : Str → Option Value) (base : Heap) (C : Addr) (kn : Str) (lv : Nat) (sp : Sp) : Prop where
  ex : ∃ f fd, FnOk P w K mg base CX0 lv f fd [("self" : Str), kn] sp ∧ Mk K C f ∧ KBn K fd [("self" : Str), kn] 1 [kn] g2 g2
end
end DL

set_option Elab.async false
set_option linter.all false
set_option maxRecDepth 100000
set_option maxHeartbeats 2000000
/-! ### what is drawn: rules that tell a property of the value -/
namespace DL
open PySem PySem.Spec L2
section
variable {S : Stc} {Γ : Ctxt} {k k1 k2 k3 kn ke : Nat} {α β : Type} {c : Cod α} {c' : Cod β} {a b e : Expr} {pos pn : Pos} {P1 P2 P3 : Int → Prop} {PB : Bool → Prop} {xs : List α}
end
end DL

set_option Elab.async false
set_option linter.all false
set_option maxRecDepth 100000
set_option maxHeartbeats 2000000
namespace DL
open PySem PySem.Spec L2
section
variable {Γ Γ1 : Ctxt} {k k1 k2 : Nat} {α β ρ : Type} {c : Cod α} {P : α → Prop} {te to : TE} {g : TG} {p : Po ρ} {xs : List α} {R : List α → Prop}
theorem hs_unpackP (h : TD te Γ k c P) (hg : ∀ x, P x → ∃ Γ1 is, GD g c x Γ Γ1 is ∧ p.N Γ1) : HS (tAsg te g) Γ k p := fun O n σ Hf H hn S D q1 _ _ _ =>
  h O n σ Hf H hn S _ fun v Hf' H' y py r f s => by
    obtain ⟨Γ1, is, hg, hp⟩ := hg y py
    exact hg.2.2 O (n + k) σ Hf' H' v r s _ fun σ' S' _ => q1 σ' Hf' H' Γ1 hp ⟨S', hg.1, f.ex⟩
end
section
variable {S : Stc} {Γ : Ctxt} {k k1 k2 kr : Nat} {α β ρ : Type} {c : Cod α} {P : α → Prop} {p : Po ρ} {a b e tg : Expr} {pos pos2 pn : Pos} {rest : List Stmt} {xs : List α} {R R' : List α → Prop}
end
end DL

set_option Elab.async false
set_option linter.all false
set_option maxRecDepth 100000
set_option maxHeartbeats 2000000
namespace DL
open PySem PySem.Spec L2
section
variable {Γ : Ctxt} {k : Nat} {ρ : Type} {ts : TS} {p : Po ρ}
/-- some slots forgotten at once -/
theorem HS.drop (vs : List Nat) (nb : NoBxs Γ vs) (h : HS ts (wipeC Γ vs) k p) : HS ts Γ k p := fun O n σ Hf H hn S D q1 q2 q3 q4 =>
  h O n σ Hf H hn (S.forget vs) D (fun σ' Hf' H' Γ' a f => q1 σ' Hf' H' Γ' a ⟨f.sat, (wipeC_keep (noBxs_mem nb)).trans f.bx, f.ex⟩) (fun σ' Hf' H' Γ' a f => q2 σ' Hf' H' Γ' a ⟨f.sat, (wipeC_keep (noBxs_mem nb)).trans f.bx, f.ex⟩)
    (fun σ' Hf' H' Γ' a f => q3 σ' Hf' H' Γ' a ⟨f.sat, (wipeC_keep (noBxs_mem nb)).trans f.bx, f.ex⟩) (fun v σ' Hf' H' Γ' x a b f => q4 v σ' Hf' H' Γ' x a b ⟨f.sat, (wipeC_keep (noBxs_mem nb)).trans f.bx, f.ex⟩)
end
section
variable {S : Stc} {Γ : Ctxt} {α : Type} {c : Cod α} {a b d : Expr} {pos : Pos} {x : α} {b' : Bool}
end
end DL

set_option Elab.async false
set_option linter.all false
set_option maxRecDepth 100000
set_option maxHeartbeats 2000000
namespace DL
open PySem PySem.Spec L2
/-! ### defs that may know that nothing is being shown -/
structure FnG (P : Program) (w : World) (K : PySem.W.Frag) (mg : Str → Option Value) (base : Heap) (k : Nat) (f : Addr) (fd : FuncData) (ps : List Str) (sp : Sp) : Prop where
  len : ∀ vs H Q E, sp vs H Q E → vs.length = ps.length
  run : ∀ (A : Around) (up : List Env) (s : Shared) (H : Hp) (ar : Args) (us : List Value) (vs : List V) (Q : VK) (E : XK), A.guards = some [] → Room k A → Env0 P w K mg base A up s H → BindsTo s fd ar (ps.zip us) → Vals vs us → sp vs H Q E →
    codeAny (model P w) A (.call (.ref f) ar) (CR CX0 up P w H s Q E) s
section
variable {X : Cx} {k : Nat} {f : Addr} {fd : FuncData} {ps : List Str} {sp : Sp} {x : Str} {p pos : Pos} {e : Expr} {es : List Expr} {t : TA} {E : XK}
end
structure CalG (P : Program) (w : World) (K : PySem.W.Frag) (mg : Str → Option Value) (base : Heap) (x : Str) (pn : List Str) (lv : Nat) (sp : Sp) : Prop where
  ex : ∃ f fd, FnG P w K mg base lv f fd pn sp ∧ mg x = some (.ref f) ∧ PySem.W.keepIn K (.ref f) = true ∧ Binds K fd pn []
section
variable {P : Program} {w : World} {K : PySem.W.Frag} {mg : Str → Option Value} {base : Heap} {x : Str} {st : Stmt} {N pn : List Str} {lv : Nat}
variable {A ρ : Type} {ps : Addr → A → Ctxt} {kf : A → Nat} {pre : A → Prop} {cr : Cod ρ} {PR : A → ρ → Prop}
end
section
variable {S : Stc} {Γ : Ctxt} {k1 k2 : Nat} {A ρ : Type} {cr : Cod ρ} {e : Expr} {es : List Expr} {pos pn : Pos}
end
end DL

set_option Elab.async false
set_option linter.all false
set_option maxRecDepth 100000
set_option maxHeartbeats 2000000
namespace DL
open PySem PySem.Spec L2 PyProof.Rows
end DL

set_option Elab.async false
set_option linter.all false
set_option maxRecDepth 100000
set_option maxHeartbeats 2000000
namespace DL
open PySem PySem.Spec L2
/-! ### repr of data at any depth -/
/-- a piece that can be shown, in at most n signs -/
structure Shw (d : PyData) (n : Nat) : Prop where
  s : d.showable = true
  h : d.hasDict = false
  l : d.shown.length ≤ n
theorem Shw.le {d : PyData} {n m : Nat} (h : Shw d n) (l : n ≤ m) : Shw d m := ⟨h.s, h.h, Nat.le_trans h.l l⟩
section
variable {S : Stc} {Γ : Ctxt} {e : Expr} {pos pn : Pos}
end
end DL

set_option Elab.async false
set_option linter.all false
set_option maxRecDepth 100000
set_option maxHeartbeats 2000000
namespace DL
open PySem PySem.Spec L2
/-! ### enumerate(a tuple) -/
/-- the counter that stands before anything is drawn, over an iterator at p -/
abbrev enum0 (p : Addr) : Obj := { cls := .type "enumerate", data := .fields #[.none, .bool false, .ref p, rawInt 0, .none, .none] }
/-- making it: whatever v is, if iter(v) is a new object o -/
theorem enum_made {v : Value} {o : Obj} {G : Heap → Prop} (B : Begins v o G) :
    Meets (Builtin.«enumerate.__new__» ⟨[.type "enumerate", v], []⟩) fun _ R s => G s.heap ∧ R (.ok (.ret (.ref (s.heap.push o).objs.size))) { s with heap := (s.heap.push o).push (enum0 s.heap.objs.size) } := by
  apply Meets.of_wp
  rintro P w A R ⟨h, gs, dr, tk, os⟩ ⟨g, r⟩
  have sub := sub_enumerate
  have it_ : ∀ {A' : Around} {E : Value → Shared → Prop} {Q : Value → Shared → Prop}, Q (.ref h.objs.size) ⟨h.push o, gs, dr, tk, os⟩ → wpAny (model P w) A' (pyIter v) Q E ⟨h, gs, dr, tk, os⟩ := fun {A' E Q} q => B.iter P w A' E _ Q g q
  wp_walk using it_
  apply wpAny_stack_any
  intro st
  apply wpAny_pure
  split
  · rename_i c _ _ _ _ _
    cases (c == Value.type "enumerate") <;> (wp_walk using it_; exact ⟨_, rfl, r⟩)
  · wp_walk using it_
    exact ⟨_, rfl, r⟩
/-- enumerate(t): its iterator and itself are the two next objects -/
theorem enum_call {P : Program} {w : World} {A : Around} {E : Value → Shared → Prop} {s : Shared} {t : Addr} {xs : Array Value} {Q : Value → Shared → Prop} (ht : s.heap.IsTuple t xs)
    (q : ∀ g, IsEnum g (s.heap.objs.size + 1) s.heap.objs.size 0 .none → g.IsTupleIter s.heap.objs.size t 0 → (∀ b o, s.heap.get? b = some o → g.get? b = some o) → Q (.ref (s.heap.objs.size + 1)) { s with heap := g }) :
    wpAny (model P w) A (call (.type "enumerate") [.ref t]) Q E s := by
  obtain ⟨io, hio⟩ : ∃ io : Obj, io = { cls := .type "tuple_iterator", data := .fields #[.ref t, .int 0 0] } := ⟨_, rfl⟩
  have B : Begins (.ref t) io fun h => h.IsTuple t xs := hio ▸ begins_tuple t xs
  have sz : (s.heap.push io).objs.size = s.heap.objs.size + 1 := Heap.size_push ..
  have cnt : IsEnum ((s.heap.push io).push (enum0 s.heap.objs.size)) (s.heap.objs.size + 1) s.heap.objs.size 0 .none := by
    rw [← sz]
    exact Heap.get?_push_size _ rfl
  have first_ : ((s.heap.push io).push (enum0 s.heap.objs.size)).get? s.heap.objs.size = some io := Heap.get?_push_of_some _ (Heap.get?_push_size _ B.free)
  have spec := callType_new (prog := P) (w := w) (A := A) (E := E) (s := s) (Q := Q) F.called_enumerate (by decide) (F.typeCall_enumerate_1 _) (F.newCall_enumerate_1 _) (fun obj => F.args_object_init_2 obj _) F.entry_enumerate_new (enum_made B)
  refine spec ⟨ht, ?_⟩
  rw [sz]
  exact ⟨⟨_, cnt, rfl⟩, q _ cnt ⟨io, first_, by rw [hio], by rw [hio]; rfl⟩ fun b o e => Heap.get?_push_of_some _ (Heap.get?_push_of_some _ e)⟩
section
variable {X : Cx} {pins : List (Addr × Obj)} {σ : Stt} {H : Hp} {s : Shared}
/-- a new pair (an int, a value that is known), while the objects of ch turned -/
theorem pair_new {g : Heap} {ch : List Addr} {i : Int} {tk tk' : Tok} {x : V} {u : Value} (I : Inv X pins σ H s) (r : RelV x u) (mine : ∀ b ∈ ch, FpOk X pins H b) (rest : ∀ b o, b ∉ ch → s.heap.get? b = some o → g.get? b = some o)
    (at_ : g.get? s.heap.objs.size = some { cls := .type "tuple", data := .seq #[.int i tk, u] }) : Inv X pins σ (upd H s.heap.objs.size (.tup [.int i, x])) { s with heap := g, toks := tk' } := by
  refine I.turnedNew (ch := ch) rest mine (Nat.le_refl _) ?_
  have vals : Vals [.int i, x] [.int i tk, u] := .cons ⟨tk, rfl⟩ (.cons r .nil)
  exact ⟨(by decide : 2 ≤ sizeLine), _, vals, _, at_, rfl, _, rfl⟩
end
/-- the tuple at a as it stands at each turn, each item in a new pair -/
def IteT (K : PySem.W.Frag) (a : Addr) : It where
  go i H := ∃ (xs : List V) (x : V), SqT K H a xs ∧ xs[i]? = some x
  yld i H v H' := ∃ T x, v = .ref T ∧ H T = none ∧ H' = upd H T (.tup [.int (i : Nat), x]) ∧ ∀ xs, SqT K H a xs → xs[i]? = some x
  stop i H := ∃ xs : List V, SqT K H a xs ∧ xs.length = i
theorem turn_enumT {P : Program} {w : World} {K : PySem.W.Frag} {elts : List Expr} {kk : Nat} {tpos : Pos} (a e it : Addr) (ai : a ≠ it) (ea : e ≠ a) (ei : e ≠ it) :
    Turn P w K (.Tuple elts kk tpos) (IteT K a) [e, it] e (fun i h => (∃ old, IsEnum h e it ((i : Nat) : Int) old) ∧ h.IsTupleIter it a i) := by
  have two : ∀ {b : Addr}, b ∈ [e, it] → b = e ∨ b = it := fun m => (List.mem_cons.mp m).imp id List.mem_singleton.mp
  constructor
  · exact List.mem_cons_self
  · rintro i h ⟨⟨old, en⟩, o, g, _, d⟩ b m
    rcases two m with rfl | rfl
    · exact ⟨_, en, fun _ z => by cases z⟩
    · exact ⟨o, g, fun _ z => by rw [d] at z; cases z⟩
  · rintro i h h' ⟨⟨old, en⟩, ti⟩ k
    exact ⟨⟨old, k e List.mem_cons_self _ en⟩, ti.at fun o g => k it (List.mem_cons_of_mem _ List.mem_cons_self) o g⟩
  · -- an item comes
    rintro X rfl rfl rfl calm i pins s σ H E I mine ⟨⟨old, en⟩, ti⟩ ⟨xs, x, sq, hx⟩
    obtain ⟨vs, rel, tup, _⟩ := I.tuple sq
    obtain ⟨v, hv, r⟩ := rel.get hx
    have quiet : X.A.in1.handled = none := I.ok.hd calm
    have lt : i < vs.toArray.size := by
      obtain ⟨l, _⟩ := List.getElem?_eq_some_iff.mp hv
      simpa using l
    have small : ∀ b ∈ [e, it], b < s.heap.objs.size := fun b m => by
      rcases two m with rfl | rfl
      · exact Heap.lt_size en
      · obtain ⟨_, g, _⟩ := ti
        exact Heap.lt_size g
    have not_ : e ∉ [it, a] := fun m => by
      rcases List.mem_cons.mp m with z | z
      · exact ei z
      · exact ea (List.mem_singleton.mp z)
    refine wpAny_pyNext_enum_itemD (Draws.tuple quiet it a ai vs.toArray) en ⟨ti, tup⟩ lt ei not_ fun y g tk hy out st pr sz rest => ?_
    obtain rfl : v = y := by
      rw [List.getElem?_toArray, hv] at hy
      exact Option.some.inj hy
    refine ⟨_, rfl, wpAny_letOwnedTupleGo_enum (s := { s with heap := g, toks := tk + 1 }) out fun g2 en2 but => ?_⟩
    have pr2 : g2.get? s.heap.objs.size = some { cls := .type "tuple", data := .seq #[.int i tk, v] } := by
      rw [but.2 _ (Nat.ne_of_gt (small e List.mem_cons_self))]
      exact pr
    have I2 := pair_new (tk' := tk + 1) I r mine (fun b o n z => by
      have ne : b ≠ e := fun q => n (q ▸ List.mem_cons_self)
      have ni : b ≠ it := fun q => n (q ▸ List.mem_cons_of_mem _ List.mem_cons_self)
      rw [but.2 b ne]
      exact rest b o ne ni z) pr2
    refine ⟨.ref s.heap.objs.size, _, I2, rfl, ⟨s.heap.objs.size, x, rfl, I.hok.fresh (Nat.le_refl _), rfl, fun ys sy => I.tuple_inj sq sy ▸ hx⟩, ⟨⟨v, ?_⟩, st.1.at fun o z => by rw [but.2 it (Ne.symm ei)]; exact z⟩, fun b m => ?_⟩
    · rw [Int.natCast_add]
      exact en2
    · rw [upd_ne (Nat.ne_of_lt (small b m))]
      exact (mine b m).1
  · -- none is left
    rintro X rfl rfl rfl calm i pins s σ H E I mine ⟨⟨old, en⟩, ti⟩ ⟨xs, sq, len⟩
    obtain ⟨vs, rel, tup, _⟩ := I.tuple sq
    have n : vs.toArray.size = i := by
      rw [List.size_toArray, ← len]
      exact rel.length.symm
    have quiet : X.A.in1.handled = none := I.ok.hd calm
    have dr := Draws.tuple (prog := X.prog) (w := X.w) quiet it a ai vs.toArray
    refine wpAny_pyNext_enum_endD dr en (by rw [n]; exact ⟨ti, tup⟩) fun g but => ⟨rfl, ?_⟩
    obtain ⟨a0, a1, _, a2, a3, a4⟩ := mine it (List.mem_cons_of_mem _ List.mem_cons_self)
    exact I.turned (t' := s.toks) (fun b o ne z => but b o ne z) a0 a1 a2 a3 a4
  · rintro A i s Q E ⟨⟨_, en⟩, _⟩ q
    exact wpAny_pyIter_enum en q
/-! ### walks -/
section
variable {Γ : Ctxt} {k : Nat} {α β : Type} {c : Cod α} {c2 : Cod β} {S : Stc} {e e2 : Expr} {pos pn tpos : Pos} {elts : List Expr} {kk : Nat}
def enumL {α : Type} (xs : List α) : List (Int × α) := xs.zipIdx.map fun z => ((z.2 : Int), z.1)
theorem enumL_len {xs : List α} : (enumL xs).length = xs.length := by unfold enumL; rw [List.length_map, List.length_zipIdx]
theorem enumL_get {xs : List α} {i : Nat} {z : Int × α} (h : (enumL xs)[i]? = some z) : z.1 = (i : Int) ∧ xs[i]? = some z.2 := by
  unfold enumL at h
  rw [List.getElem?_map, List.getElem?_zipIdx] at h
  cases hx : xs[i]? with
  | none => rw [hx] at h; cases h
  | some x => rw [hx] at h; cases h; exact ⟨by simp, rfl⟩
theorem zip_get {xs : List α} {ys : List β} {i : Nat} {z : α × β} (h : (xs.zip ys)[i]? = some z) : xs[i]? = some z.1 ∧ ys[i]? = some z.2 := by
  rw [List.getElem?_zip_eq_some] at h; exact h
end
end DL

set_option Elab.async false
set_option linter.all false
set_option maxRecDepth 100000
set_option maxHeartbeats 2000000
namespace DL
open PySem PySem.Spec L2
/-! ### a list comprehension of two clauses -/
section
variable {Γ : Ctxt} {α β γ : Type} {c : Cod α} {c1 : Cod γ} {c' : Cod β} {wi wi1 : TI} {g g1 : TG} {te : TE}
abbrev lc2L {α β γ : Type} (xs : List α) (F : α → List γ) (f : α → γ → β) : List β := xs.flatMap fun x => (F x).map (f x)
theorem yes_if {σ : Stt} {H : Hp} {A B : Hp → Prop} (h : A H) : tYes σ H (fun b H' => if b = true then A H' else B H') := by
  show if true = true then A H else B H
  rw [if_pos rfl]; exact h
end
end DL

set_option Elab.async false
set_option linter.all false
set_option maxRecDepth 100000
set_option maxHeartbeats 2000000
namespace DL
open PySem PySem.Spec L2
section
variable {S : Stc} {Γ : Ctxt} {α β γ ρ ω : Type} {c : Cod α} {c1 : Cod γ} {c' : Cod β} {p : Po ρ} {pos pos' spos pn : Pos} {a b e : Expr}
abbrev lc2Rd (S : Stc) (tg iter tg1 iter1 elt : Expr) (scope : Scope) (own : List (Str × Nat)) (vs1 : List Nat) : TE := tLc2 (tI S tg iter) (tGt (S.blk scope) tg) tYes (tI (S.blk scope) tg1 iter1) (tGt (S.blk scope) tg1) tYes (tE (S.blk scope) elt) (own.map (·.2)) vs1
/-! ### a list times a number -/
theorem paired_rep {G : V → α → Prop} {vs : List V} {xs : List α} (h : Paired G vs xs) : ∀ n : Nat, Paired G (List.replicate n vs).flatten (List.replicate n xs).flatten
  | 0 => .nil
  | n + 1 => by
    rw [List.replicate_succ, List.replicate_succ, List.flatten_cons, List.flatten_cons]
    exact pap h (paired_rep h n)
theorem flat_one (x : α) : ∀ n : Nat, (List.replicate n [x]).flatten = List.replicate n x
  | 0 => rfl
  | n + 1 => by rw [List.replicate_succ, List.flatten_cons, flat_one x n]; rfl
/-! ### < of tuples, in, index, min -/
end
/-! ### methods of two and three arguments, in order and by names from the end -/
def gs2 {α : Type} : List α → List α → List α
  | [a], [b, c] => [a, c, b]
  | _, _ => []
def gs3 {α : Type} : List α → List α → List α
  | [a], [b, c, d] => [a, d, c, b]
  | _, _ => []
structure MB2 (P : Program) (w : World) (K : PySem.W.Frag) (mg : Str → Option Value) (base : Heap) (C : Addr) (m p1 p2 : Str) (lv : Nat) (sp : Sp) : Prop where
  ex : ∃ f fd, FnOk P w K mg base CX0 lv f fd [("self" : Str), p1, p2] sp ∧ Meth K C m f ∧ Binds K fd [("self" : Str), p1, p2] [] ∧ KBinds K fd [("self" : Str), p1, p2] [p2, p1] gs2 gs2
structure MB3 (P : Program) (w : World) (K : PySem.W.Frag) (mg : Str → Option Value) (base : Heap) (C : Addr) (m p1 p2 p3 : Str) (lv : Nat) (sp : Sp) : Prop where
  ex : ∃ f fd, FnOk P w K mg base CX0 lv f fd [("self" : Str), p1, p2, p3] sp ∧ Meth K C m f ∧ Binds K fd [("self" : Str), p1, p2, p3] [] ∧ KBinds K fd [("self" : Str), p1, p2, p3] [p3, p2, p1] gs3 gs3
section
variable {P : Program} {w : World} {K : PySem.W.Frag} {mg : Str → Option Value} {base : Heap} {C : Addr} {lv : Nat}
end
section
variable {S : Stc} {Γ : Ctxt} {α β γ ω ρ : Type} {cr : Cod ρ} {ca : Cod α} {cb : Cod β} {cg : Cod γ} {e e2 e3 o : Expr} {pos apos kp1 kp2 kp3 : Pos} {C : Addr} {F : Hp → List (Str × V) → ω → Prop} {hm : ∀ {H H' fs y}, Ex H H' → F H fs y → F H' fs y} {m p1 p2 p3 : Str} {lv : Nat} {x : ω} {y : α} {z : β} {u : γ} {pl : Env → Sem Bool}
end
end DL

set_option Elab.async false
set_option linter.all false
set_option maxRecDepth 100000
set_option maxHeartbeats 2000000
namespace DL
open PySem PySem.Spec L2
/-! ### a def that ends without a return -/
section
variable {P : Program} {w : World} {K : PySem.W.Frag} {mg : Str → Option Value} {base : Heap} {x : Str} {st : Stmt} {N pn : List Str} {lv : Nat}
variable {A : Type} {ps : A → Ctxt} {pre : A → Prop}
end
section
variable {S : Stc} {Γ : Ctxt} {k k2 : Nat} {α β ρ : Type} {c : Cod α} {P : α → Prop} {e a b : Expr} {pos pn : Pos} {rest : List Stmt} {p : Po ρ}
end
end DL

set_option Elab.async false
set_option linter.all false
set_option maxRecDepth 100000
set_option maxHeartbeats 2000000
namespace DL
open PySem PySem.Spec L2
section
variable {S : Stc} {Γ : Ctxt} {k k1 k2 k3 ke kt kn : Nat} {α β : Type} {c : Cod α} {c' : Cod β} {pos : Pos}
end
end DL

set_option Elab.async false
set_option linter.all false
set_option maxRecDepth 100000
set_option maxHeartbeats 4000000
/-! ### what may be None; repr of any piece; min of texts; int of a truth; dict of pairs -/
namespace DL
open PySem PySem.Spec L2
def cOpt {α : Type} (c : Cod α) : Cod (Option α) := ⟨fun H v o => match o with | none => v = .non | some x => c.rep H v x, fun {H H' v o} e h => match o, h with | none, h => h | some x, h => c.mono e h⟩
structure NotN {α : Type} (c : Cod α) : Prop where
  ne : ∀ H v x, c.rep H v x → v ≠ .non
section
variable {S : Stc} {Γ : Ctxt} {k k1 k2 : Nat} {α β γ : Type} {c : Cod α} {c2 : Cod β} {c3 : Cod γ} {pos pn : Pos} {a b d e : Expr} {te : TE}
theorem pnoneO {j : Nat} : PD S Γ 0 (.Constant .none j pos) (cOpt c) (· = none) := pd_none.conv fun H v y _ r => ⟨none, rfl, r⟩
theorem opt_go {H : Hp} : ∀ {vs : List V} {xs : List α}, Paired (c.rep H) vs xs → Paired ((cOpt c).rep H) vs (xs.map some)
  | _, _, .nil => .nil
  | _, _, .cons r t => .cons r (opt_go t)
theorem rd_isNO {o : Option α} (n : NotN c) : RD (fun x y H Q => y = .non ∧ Q (.bl (decide (x = .non))) H) (cOpt c) o cNon () cBool (· = o.isNone) := fun Hf H v u e h1 h2 Q q => by
  refine ⟨h2, q _ Hf H _ rfl ?_ Fr.refl e⟩
  show V.bl _ = V.bl _
  congr 1
  cases o with
  | none => exact decide_eq_true h1
  | some x => exact decide_eq_false (n.ne _ _ _ h1)
theorem rd_notNO {o : Option α} (n : NotN c) : RD (fun x y H Q => y = .non ∧ Q (.bl (!decide (x = .non))) H) (cOpt c) o cNon () cBool (· = o.isSome) := fun Hf H v u e h1 h2 Q q => by
  refine ⟨h2, q _ Hf H _ rfl ?_ Fr.refl e⟩
  show V.bl _ = V.bl _
  congr 1
  cases o with
  | none => rw [decide_eq_true (show v = .non from h1)]; rfl
  | some x => rw [decide_eq_false (n.ne _ _ _ h1)]; rfl
end
/-! ### repr -/
structure DpC {α : Type} (c : Cod α) (x : α) (d : PyData) : Prop where
  dp : ∀ K H v, c.rep H v x → Dp K H v d
theorem EqC.at {α : Type} [DecidableEq α] {c : Cod α} (q : EqC c) (x : α) : DpC c x (q.D x) := ⟨fun K H v h => q.dp K H v x h⟩
section
variable {S : Stc} {Γ : Ctxt} {k k1 k2 : Nat} {α β γ ρ : Type} {c : Cod α} {c1 : Cod α} {c2 : Cod β} {c3 : Cod γ} {p : Po ρ} {pos pn : Pos} {a b d e : Expr} {x : α} {y : β} {z : γ}
/-! ### int(b), xs * n, dict(pairs) -/
theorem pintB {t : Bool} (hg : S.sc.names.lookup ("int" : Str) = some .globalImplicit) (hm : S.mg "int" = none) (h : PD S Γ 0 e cBool (· = t)) (he : ∀ env : Env, starEach [e] env = (false, eval e env) :: starEach [] env) : PD S Γ 0 (.Call (.Name "int" pn) [e] [] pos) cInt (· = if t = true then 1 else 0) :=
  py1 (T := "int") (fun X G => call_int1) hg hm PyProof.Rows.boot_int h (fun Hf H v ex r Q q => .inr ⟨t, by rw [show v = .bl t from r], q _ Hf H _ rfl (by cases t <;> rfl) Fr.refl ex⟩) he
/-! ### min of a list of texts -/
end
end DL

set_option Elab.async false
set_option linter.all false
set_option maxRecDepth 100000
set_option maxHeartbeats 4000000
/-! ### defs of two and three arguments, also by names from the end -/
namespace DL
open PySem PySem.Spec L2
theorem paired_rev {α β : Type} {R : α → β → Prop} : ∀ {l : List α} {m : List β}, Paired R l m → Paired R l.reverse m.reverse
  | _, _, .nil => .nil
  | _, _, .cons r t => by rw [List.reverse_cons, List.reverse_cons]; exact Paired.snoc (paired_rev t) r
abbrev gRv (α : Type) : List α → List α → List α := fun us ws => us ++ ws.reverse
theorem vals_app {vs us : List _} {zs ws : List _} (h1 : Vals vs us) (h2 : Vals zs ws) : Vals (gRv V vs zs) (gRv Value us ws) := h1.append (paired_rev h2)
structure CalR (P : Program) (w : World) (K : PySem.W.Frag) (mg : Str → Option Value) (base : Heap) (x : Str) (ps : List Str) (lv : Nat) (sp : Sp) : Prop where
  ex : ∃ f fd, FnOk P w K mg base CX0 lv f fd ps sp ∧ mg x = some (.ref f) ∧ PySem.W.keepIn K (.ref f) = true ∧ Binds K fd ps [] ∧ KBn K fd ps 0 ps.reverse (gRv Value) (gRv V)
section
variable {P : Program} {w : World} {K : PySem.W.Frag} {mg : Str → Option Value} {base : Heap} {x : Str} {st : Stmt} {N pn : List Str} {lv : Nat} {sp : Sp}
theorem CalR.c (C : CalR P w K mg base x pn lv sp) : Cal P w K mg base x pn lv sp := by
  obtain ⟨f, fd, h1, h2, h3, h4, _⟩ := C.ex
  exact ⟨f, fd, h1, h2, h3, h4⟩
def BindsR (st : Stmt) (x : Str) (pn : List Str) : Prop := ∀ (kV doc pm : Value) (an : Option Addr) (cdv ct : Value) (ws : List Value), ws.length = pn.length → bindArgs (PySem.W.fnOf x x (defArgs st) (defBody st) (defScope st) .none kV doc pm an cdv ct) ⟨[], pn.reverse.zip ws⟩ = pure (pn.zip ws.reverse)
theorem calR_of (D : Def K mg x st) (hb : BindsD st x pn) (hk : BindsR st x pn) (h : ∀ f fd, Fun K x x st f fd → FnOk P w K mg base CX0 lv f fd pn sp) : CalR P w K mg base x pn lv sp := by
  obtain ⟨f, fd, F, hm⟩ := D.ex
  refine ⟨f, fd, h f fd F, hm, F.kp, F.binds hb, ⟨fun s us ws _ l1 l2 => ?_, vals_app⟩⟩
  obtain ⟨oc, od, kV, doc, pm, an, cdv, ct, osl, rfl, lk, hcd⟩ := F.ex
  obtain rfl : us = [] := List.eq_nil_of_length_eq_zero l1
  exact .of_eq (hk kV doc pm an cdv ct ws (by rw [l2, List.length_reverse]))
end
section
variable {S : Stc} {Γ : Ctxt} {α β γ ρ : Type} {c1 : Cod α} {c2 : Cod β} {c3 : Cod γ} {cr : Cod ρ} {x : α} {y : β} {z : γ} {e1 e2 e3 : Expr} {pos pn k1 k2 k3 : Pos} {xn p1 p2 p3 : Str} {lv : Nat}
end
end DL

set_option Elab.async false
set_option linter.all false
set_option maxRecDepth 100000
set_option maxHeartbeats 4000000
namespace DL
open PySem PySem.Spec L2
/-! ### a, b = a list of two unlike things -/
section
variable {Γ Γ1 Γ2 : Ctxt} {α β : Type} {c1 : Cod α} {c2 : Cod β} {g1 g2 : TG}
theorem gd_L2 {K : PySem.W.Frag} {x : α × β} {is js : List Nat} (h1 : GD g1 c1 x.1 Γ Γ1 is) (h2 : GD g2 c2 x.2 Γ1 Γ2 js) : GD (gLst K 2 (gCons g1 (gCons g2 gNil))) (cL2 c1 c2) x Γ Γ2 (is ++ js) := by
  obtain ⟨b1, d1, h1⟩ := h1
  obtain ⟨b2, d2, h2⟩ := h2
  refine ⟨b1.trans b2, fun a h => d1 a (d2 a h), fun O n σ Hf H v r S Q q => ?_⟩
  obtain ⟨a, u, w, e1, e2, r1, r2⟩ := r
  refine ⟨a, [u, w], e1, SqL.of (S.ex _ _ e2), rfl, u, [w], rfl, h1 O n σ Hf H u r1 S _ fun σ1 S1 w1 => ⟨w, [], rfl, h2 O n σ1 Hf H w r2 S1 _ fun σ2 S2 w2 => ⟨rfl, q σ2 S2 fun vs hi => ?_⟩⟩⟩
  rw [w2 vs fun i m => hi i (List.mem_append_right _ m), w1 vs fun i m => hi i (List.mem_append_left _ m)]
end
section
variable {S : Stc} {Γ Γ1 Γ2 : Ctxt} {α β : Type} {c1 : Cod α} {c2 : Cod β} {a b : Expr} {pos : Pos}
end
section
variable {S : Stc} {Γ Γ1 Γ2 : Ctxt} {k1 k2 : Nat} {α β : Type} {c1 : Cod α} {c2 : Cod β} {a b e : Expr} {pos : Pos} {P1 : α → Prop} {P2 : β → Prop}
theorem pdg_L2 {kx : Nat} {x : α × β} {is js : List Nat} (h1 : PDG S a c1 x.1 Γ Γ1 is) (h2 : PDG S b c2 x.2 Γ1 Γ2 js) (hs : ∀ env : Env, (assignEach [a, b] env).map (·.2) = assign a env :: (assignEach [b] env).map (·.2)) (hs2 : ∀ env : Env, (assignEach [b] env).map (·.2) = assign b env :: (assignEach [] env).map (·.2))
    (hn : ∀ env : Env, (assignEach [a, b] env).length = 2) (hst : ∀ env : Env, (assignEach [a, b] env).findIdx? (·.1) = none) : PDG S (.Tuple [a, b] kx pos) (cL2 c1 c2) x Γ Γ2 (is ++ js) :=
  pdg_of (g := gLst S.K 2 (gCons (tGt S a) (gCons (tGt S b) gNil))) (fun X G => by rw [← G.K]; exact pg_lst G.calm (pgs_cons (tGt_ok G) (pgs_cons (tGt_ok G) pgs_nil (hs2 _)) (hs _)) (hn _) (hst _)) (gd_L2 h1 h2)
end
end DL

set_option Elab.async false
set_option linter.all false
set_option maxRecDepth 100000
set_option maxHeartbeats 4000000
namespace DL
open PySem PySem.Spec L2
/-! ### isinstance of a caught error that has attributes -/
end DL

set_option Elab.async false
set_option linter.all false
set_option maxRecDepth 100000
set_option maxHeartbeats 4000000
namespace DL
open PySem PySem.Spec L2
/-! ## Rules that carry what has to hold
W: what has to hold so that a value comes out for which Q is known. -/
abbrev W (α : Type) := (α → Prop) → Prop
abbrev wLet {α : Type} (x : α) (k : α → Prop) : Prop := k x
abbrev wIte {α : Type} (c : Bool) (a b : W α) : W α := fun Q => if c = true then a Q else b Q
abbrev wTake (m : Int) : W Int := fun Q => (0 < m ∧ m < 1073741824) ∧ ∀ i, 0 ≤ i ∧ i < m → Q i
/-- [f x for x in xs if q x] -/
def wLc {α β : Type} (q : α → W Bool) (f : α → W β) : List α → W (List β)
  | [], Q => Q []
  | x :: r, Q => q x fun b => if b = true then f x fun y => wLc q f r fun ys => Q (y :: ys) else wLc q f r Q
/-- [f x for x in xs] -/
def wMap {α β : Type} (f : α → W β) : List α → W (List β)
  | [], Q => Q []
  | x :: r, Q => f x fun y => wMap f r fun ys => Q (y :: ys)
/-- for x in xs: ..; s what it changes -/
def wFor {α σ ρ : Type} (b : α → σ → (σ → Prop) → (σ → Prop) → (σ → Prop) → (ρ → Prop) → Prop) : List α → σ → (σ → Prop) → (ρ → Prop) → Prop
  | [], s, N, _ => N s
  | x :: r, s, N, R => b x s (fun s' => wFor b r s' N R) N (fun s' => wFor b r s' N R) R
section
variable {Γ Γ1 Γ2 Γ3 : Ctxt} {k k1 k2 k3 kk kt ke kn kf : Nat} {A α β γ δ ρ : Type} {c : Cod α} {c' : Cod β} {cr : Cod ρ} {c1 : Cod α} {c2 : Cod β} {c3 : Cod γ} {c4 : Cod δ} {P P1 : α → Prop} {P3 : γ → Prop} {te ta tb to ti tk tv : TE} {tt tu : TT} {t u : TS} {p : Po ρ} {tx : TA} {wi : TI} {g : TG}
/-! ### the second may hang on the first -/
theorem td_opD {r : R2} {P2 : α → β → Prop} (ha : TD ta Γ k1 c1 P1) (hb : ∀ x, P1 x → TD tb Γ k2 c2 (P2 x)) (hr : ∀ x y, P1 x → P2 x y → RD r c1 x c2 y c3 P3) : TD (tOp r ta tb) Γ (k1 + k2) c3 P3 := fun O n σ Hf H hn S Q q =>
  ha O n σ Hf H (by omega) S _ fun v Hf1 H1 x p1 r1 f1 S1 => hb x p1 O (n + k1) σ Hf1 H1 (by omega) S1 _ fun u Hf2 H2 y p2 r2 f2 S2 =>
    hr x y p1 p2 Hf2 H2 v u S2.ex (c1.mono f2.ex r1) r2 Q fun z Hf3 H3 w p3 r3 f3 e3 =>
      q w Hf3 H3 z p3 r3 ((f1.trans f2 fun _ h => .inl h).trans f3 fun _ h => h.elim) (by rw [← Nat.add_assoc]; exact S2.grow0 f3 e3)
theorem ta_consD {B : α → Ctxt → Prop} (h : TD te Γ k1 c P) (hr : ∀ x, P x → TDA tx Γ k2 (B x)) : TDA (tCons te tx) Γ (k1 + k2) (fun as => ∃ x r, P x ∧ B x r ∧ as = .d c x :: r) := fun O n σ Hf H hn S Q q =>
  h O n σ Hf H (by omega) S _ fun v Hf1 H1 x p r f1 S1 => hr x p O (n + k1) σ Hf1 H1 (by omega) S1 _ fun vs Hf2 H2 as b o hb f2 S2 =>
    q (v :: vs) Hf2 H2 (.d c x :: as) ⟨x, as, p, b, rfl⟩ ⟨c.mono f2.ex r, o⟩ (fun a h => by
      rcases List.mem_cons.mp h with e | e
      · cases e
      · exact hb a e) (f1.trans f2 fun _ h => .inl h) (by rw [← Nat.add_assoc]; exact S2)
theorem RD.imp {r : R2} {x : α} {y : β} {P P' : γ → Prop} (h : RD r c1 x c2 y c3 P) (hp : ∀ z, P z → P' z) : RD r c1 x c2 y c3 P' := fun Hf H v u e r1 r2 Q q => h Hf H v u e r1 r2 Q fun z Hf' H' w p => q z Hf' H' w (hp z p)
theorem RU1.imp {r : V → Hp → VK → Prop} {x : α} {P P' : γ → Prop} (h : RU1 r c1 x c3 P) (hp : ∀ z, P z → P' z) : RU1 r c1 x c3 P' := fun Hf H v e r1 Q q => h Hf H v e r1 Q fun z Hf' H' w p => q z Hf' H' w (hp z p)
theorem RC1.imp {r : List V → Hp → VK → Prop} {x : α} {P P' : γ → Prop} (h : RC1 r c1 x c3 P) (hp : ∀ z, P z → P' z) : RC1 r c1 x c3 P' := fun Hf H v e r1 Q q => h Hf H v e r1 Q fun z Hf' H' w p => q z Hf' H' w (hp z p)
theorem RC1F.imp {r : List V → Hp → VK → Prop} {x : α} {P P' : List γ → Prop} (h : RC1F r c1 x c3 P) (hp : ∀ z, P z → P' z) : RC1F r c1 x c3 P' := fun Hf H v e r1 Q q => h Hf H v e r1 Q fun a vs zs p => q a vs zs (hp zs p)
/-- args of a tuple of two, three, four -/
theorem td_t2A {B : Ctxt → Prop} {R : α × β → Prop} (h : TDA tx Γ k B) (hi : ∀ as, B as → ∃ z : α × β, as = [.d c1 z.1, .d c2 z.2] ∧ R z) : TD (tTup tx) Γ k (cT2 c1 c2) R := fun O n σ Hf H hn S Q q =>
  h O n σ Hf H hn S _ fun vs Hf1 H1 as b o _ f1 S1 => by
    obtain ⟨z, e, r⟩ := hi as b
    subst e
    match vs, o with
    | [v, u], o =>
      obtain ⟨o1, o2, _⟩ := o
      exact ⟨by show 2 ≤ sizeLine; decide, fun p hp => q _ (upd Hf1 p (.tup [v, u])) _ z r ⟨p, v, u, rfl, upd_same, c1.mono (Ex.new (S1.ex.back hp)) o1, c2.mono (Ex.new (S1.ex.back hp)) o2⟩ (f1.trans (Fr.new (M := Bx Γ) S1.ex hp) fun _ z => .inl z) (S1.new hp)⟩
theorem td_L2A {B : Ctxt → Prop} {R : α × β → Prop} (h : TDA tx Γ k B) (hi : ∀ as, B as → ∃ z : α × β, as = [.d c1 z.1, .d c2 z.2] ∧ R z) : TD (tLst tx) Γ k (cL2 c1 c2) R := fun O n σ Hf H hn S Q q =>
  h O n σ Hf H hn S _ fun vs Hf1 H1 as b o _ f1 S1 => by
    obtain ⟨z, e, r⟩ := hi as b
    subst e
    match vs, o with
    | [v, u], o =>
      obtain ⟨o1, o2, _⟩ := o
      exact ⟨by show 2 ≤ sizeLine; decide, fun p hp => q _ (upd Hf1 p (.lst [v, u])) _ z r ⟨p, v, u, rfl, upd_same, c1.mono (Ex.new (S1.ex.back hp)) o1, c2.mono (Ex.new (S1.ex.back hp)) o2⟩ (f1.trans (Fr.new (M := Bx Γ) S1.ex hp) fun _ z => .inl z) (S1.new hp)⟩
end
section
variable {S : Stc} {X : Cx} {Γ Γ1 Γ2 Γ3 : Ctxt} {k k1 k2 k3 kk kt ke kn kf lv : Nat} {A α β γ δ ρ τ ω : Type} {c : Cod α} {c' : Cod β} {cr : Cod ρ} {c1 : Cod α} {c2 : Cod β} {c3 : Cod γ} {c4 : Cod δ} {e a b dd o : Expr} {es : List Expr} {pos pos' pn apos : Pos} {K : PySem.W.Frag}
def PW {α : Type} (S : Stc) (Γ : Ctxt) (k : Nat) (e : Expr) (c : Cod α) (w : W α) : Prop := ∀ Q, w Q → PD S Γ k e c Q
def PWF {α : Type} (S : Stc) (Γ : Ctxt) (k : Nat) (e : Expr) (c : Cod α) (w : W (List α)) : Prop := ∀ Q, w Q → PDF S Γ k e c Q
def PWT (S : Stc) (Γ : Ctxt) (k : Nat) (e : Expr) (w : W Bool) : Prop := ∀ Q, w Q → PDT S Γ k e Q
def PWW (S : Stc) (Γ : Ctxt) (k : Nat) (e : Expr) (w : W Bool) : Prop := ∀ Q, w Q → PDW S Γ k e Q
def PWI {α : Type} (S : Stc) (Γ : Ctxt) (k : Nat) (tg e : Expr) (c : Cod α) (w : W (List α)) : Prop := ∀ Q, w Q → PDI S Γ k tg e c Q
def PWA {τ : Type} (S : Stc) (Γ : Ctxt) (k : Nat) (es : List Expr) (mk : τ → Ctxt) (w : W τ) : Prop := ∀ Q, w Q → PDA S Γ k es (fun as => ∃ t, as = mk t ∧ Q t)
def PWL {α : Type} (S : Stc) (Γ : Ctxt) (k : Nat) (es : List Expr) (c : Cod α) (w : W (List α)) : Prop := ∀ Q, w Q → PDA S Γ k es (fun as => ∃ xs : List α, as = xs.map (fun x => .d c x) ∧ Q xs)
/-- operations on values -/
def RW (r : R2) (c1 : Cod α) (x : α) (c2 : Cod β) (y : β) (c : Cod γ) (w : W γ) : Prop := ∀ Q, w Q → RD r c1 x c2 y c Q
def RWU (r : V → Hp → VK → Prop) (c1 : Cod α) (x : α) (c : Cod γ) (w : W γ) : Prop := ∀ Q, w Q → RU1 r c1 x c Q
def RWC (r : List V → Hp → VK → Prop) (c1 : Cod α) (x : α) (c : Cod γ) (w : W γ) : Prop := ∀ Q, w Q → RC1 r c1 x c Q
def RWF (r : List V → Hp → VK → Prop) (c1 : Cod α) (x : α) (c : Cod γ) (w : W (List γ)) : Prop := ∀ Q, w Q → RC1F r c1 x c Q
theorem rw0 {r : R2} {x : α} {y : β} {z : γ} (h : RD r c1 x c2 y c3 (· = z)) : RW r c1 x c2 y c3 (fun Q => Q z) := fun Q q => h.imp fun u e => e ▸ q
theorem rwc {r : R2} {x : α} {y : β} {z : γ} {C : Prop} (h : C → RD r c1 x c2 y c3 (· = z)) : RW r c1 x c2 y c3 (fun Q => C ∧ Q z) := fun Q q => (h q.1).imp fun u e => e ▸ q.2
theorem ru0 {r : V → Hp → VK → Prop} {x : α} {z : γ} (h : RU1 r c1 x c3 (· = z)) : RWU r c1 x c3 (fun Q => Q z) := fun Q q => h.imp fun u e => e ▸ q
theorem rc0 {r : List V → Hp → VK → Prop} {x : α} {z : γ} (h : RC1 r c1 x c3 (· = z)) : RWC r c1 x c3 (fun Q => Q z) := fun Q q => h.imp fun u e => e ▸ q
theorem rcc {r : List V → Hp → VK → Prop} {x : α} {z : γ} {C : Prop} (h : C → RC1 r c1 x c3 (· = z)) : RWC r c1 x c3 (fun Q => C ∧ Q z) := fun Q q => (h q.1).imp fun u e => e ▸ q.2
theorem rf0 {r : List V → Hp → VK → Prop} {x : α} {z : List γ} (h : RC1F r c1 x c3 (· = z)) : RWF r c1 x c3 (fun Q => Q z) := fun Q q => h.imp fun u e => e ▸ q
/-! ### pieces -/
theorem xof {x : α} (h : PD S Γ k e c (· = x)) : PW S Γ k e c (fun Q => Q x) := fun Q q => h.imp fun u e => e ▸ q
theorem xofF {x : List α} (h : PDF S Γ k e c (· = x)) : PWF S Γ k e c (fun Q => Q x) := fun Q q => h.imp fun u e => e ▸ q
theorem xofT {x : Bool} (h : PDT S Γ k e (· = x)) : PWT S Γ k e (fun Q => Q x) := fun Q q => h.imp fun u e => e ▸ q
theorem PW.pd {x : α} (h : PW S Γ k e c (fun Q => Q x)) : PD S Γ k e c (· = x) := h _ rfl
theorem PWT.pdt {x : Bool} (h : PWT S Γ k e (fun Q => Q x)) : PDT S Γ k e (· = x) := h _ rfl
theorem PWF.d {w : W (List α)} (h : PWF S Γ k e c w) : PW S Γ k e (cList c) w := fun Q q => (h Q q).td
theorem xname {i : Nat} {x : Str} {y : α} (hΓ : Γ[i]? = some (.d c y)) (hN : S.N[i]? = some x) (hv : Vis S.sc x) (hd : (x == ("__debug__" : Str)) = false := by decide) (hcd : (x == ("__classdict__" : Str)) = false := by decide) : PW S Γ 0 (.Name x pos) c (fun Q => Q y) := xof (pd_name hΓ hN hv hd hcd)
theorem xint {i : Int} {j : Nat} : PW S Γ 0 (.Constant (.int i) j pos) cInt (fun Q => Q i) := xof pd_int
theorem xbool {i : Bool} {j : Nat} : PW S Γ 0 (.Constant (.bool i) j pos) cBool (fun Q => Q i) := xof pd_bool
theorem xnone {j : Nat} : PW S Γ 0 (.Constant .none j pos) cNon (fun Q => Q ()) := xof pd_none
theorem xconv {w : W α} {f : α → β} (h : PW S Γ k e c w) (hp : ∀ H v x, c.rep H v x → c2.rep H v (f x)) : PW S Γ k e c2 (fun Q => w fun x => Q (f x)) := fun Q q => TD.conv (h _ q) fun H v x p r => ⟨f x, p, hp H v x r⟩
theorem xsome {w : W α} (h : PW S Γ k e c w) : PW S Γ k e (cOpt c) (fun Q => w fun x => Q (some x)) := xconv h fun _ _ _ r => r
theorem xnoneO {j : Nat} : PW S Γ 0 (.Constant .none j pos) (cOpt c) (fun Q => Q none) := xof pnoneO
theorem xseqL {w : W (List α)} (h : PW S Γ k e (cList c) w) : PW S Γ k e (cSeq c) w := xconv (f := id) h fun _ _ _ r => .inl r
theorem xseqT {w : W (List α)} (h : PW S Γ k e (cTup c) w) : PW S Γ k e (cSeq c) w := xconv (f := id) h fun _ _ _ r => .inr r
/-! ### operators -/
theorem xbin {op : Operator} {r : R2} {wa : W α} {wb : W β} {t : α → β → W γ} (ho : ∀ X, Good S X → OpR X (binaryOp op) r) (ha : PW S Γ k1 a c1 wa) (hb : PW S Γ k2 b c2 wb) (hr : ∀ x y, RW r c1 x c2 y c3 (t x y)) : PW S Γ (k1 + k2) (.BinOp a op b pos) c3 (fun Q => wa fun x => wb fun y => t x y Q) :=
  fun Q q => pd_of (fun X G => pe_op (ho X G) (tE_ok G) (tE_ok G)) (td_opD (ha _ q) (fun x p => hb _ p) fun x y _ p => hr x y Q p)
theorem xcmp {op : CmpOp} {r : R2} {wa : W α} {wb : W β} {t : α → β → W Bool} (ho : ∀ X, Good S X → OpR X (compareOp op) r) (ha : PW S Γ k1 a c1 wa) (hb : PW S Γ k2 b c2 wb) (hr : ∀ x y, RW r c1 x c2 y cBool (t x y)) (hm : behindInMarks op b = false) : PW S Γ (k1 + k2) (.Compare a [op] [b] pos) cBool (fun Q => wa fun x => wb fun y => t x y Q) :=
  fun Q q => pd_of (fun X G => pe_cmpR (ho X G) (tE_ok G) (tE_ok G) hm) (td_opD (ha _ q) (fun x p => hb _ p) fun x y _ p => hr x y Q p)
theorem tcmpW {op : CmpOp} {r : R2} {wa : W α} {wb : W β} {t : α → β → W Bool} (ho : ∀ X, Good S X → OpR X (compareOp op) r) (ha : PW S Γ k1 a c1 wa) (hb : PW S Γ k2 b c2 wb) (hr : ∀ x y, RW r c1 x c2 y cBool (t x y)) (hm : behindInMarks op b = false) : PWT S Γ (k1 + k2) (.Compare a [op] [b] pos) (fun Q => wa fun x => wb fun y => t x y Q) :=
  fun Q q => pdt_of (fun X G => pt_cmpR (ho X G) (tE_ok G) (tE_ok G) hm) (tt_test (td_opD (ha _ q) (fun x p => hb _ p) fun x y _ p => hr x y Q p))
theorem xun {op : UnaryOp} {r : V → Hp → VK → Prop} {wa : W α} {t : α → W γ} (ho : ∀ X, Good S X → UnR X (unaryOp op) r) (ha : PW S Γ k a c1 wa) (hr : ∀ x, RWU r c1 x c3 (t x)) : PW S Γ k (.UnaryOp op a pos) c3 (fun Q => wa fun x => t x Q) := fun Q q => pd_un ho (ha _ q) fun x p => hr x Q p
theorem xchain {op op' : CmpOp} {g g' : Int → Int → Bool} {i j l : Int} (ho : ∀ X : Cx, OpR X (compareOp op) (rI0 fun i j => .bl (g i j))) (ho' : ∀ X : Cx, OpR X (compareOp op') (rI0 fun i j => .bl (g' i j))) (ha : PW S Γ 0 a cInt (fun Q => Q i)) (hb : PW S Γ 0 b cInt (fun Q => Q j)) (hd : PW S Γ 0 dd cInt (fun Q => Q l)) (hm : lastMarks [op, op'] [b, dd] = false) :
    PW S Γ 0 (.Compare a [op, op'] [b, dd] pos) cBool (fun Q => Q (g i j && g' j l)) := xof (pchain ho ho' ha.pd hb.pd hd.pd hm)
theorem tchainW {op op' : CmpOp} {g g' : Int → Int → Bool} {i j l : Int} (ho : ∀ X : Cx, OpR X (compareOp op) (rI0 fun i j => .bl (g i j))) (ho' : ∀ X : Cx, OpR X (compareOp op') (rI0 fun i j => .bl (g' i j))) (ha : PW S Γ 0 a cInt (fun Q => Q i)) (hb : PW S Γ 0 b cInt (fun Q => Q j)) (hd : PW S Γ 0 dd cInt (fun Q => Q l)) (hm : lastMarks [op, op'] [b, dd] = false) :
    PWT S Γ 0 (.Compare a [op, op'] [b, dd] pos) (fun Q => Q (g i j && g' j l)) := xofT (tchain ho ho' ha.pd hb.pd hd.pd hm)
/-! ### tests -/
theorem tval {w : W Bool} (h : PW S Γ k e cBool w) (he : ∀ (env : Env) whole, isTrue e env whole = (do let v ← whole; standAt e.pos; holding [v] (truthy v))) : PWT S Γ k e w := fun Q q => pdt_val (h Q q) he
theorem tnotW {w : W Bool} (h : PWT S Γ k a w) : PWT S Γ k (.UnaryOp .Not a pos) (fun Q => w fun x => Q (!x)) := fun Q q => pdt_of (fun X G => pt_not (tT_ok G)) (TDT.imp (tt_not (h _ q)) fun r z => by rwa [Bool.not_not] at z)
theorem twW {w : W Bool} (h : PWW S Γ k e w) : PWT S Γ k e w := fun Q q => pdt_w (h Q q)
theorem wand1 {w : W Bool} (h : PWT S Γ k a w) : PWW S Γ k (.BoolOp .And [a] pos) w := fun Q q => pdw_and1 (h Q q)
theorem wor1 {w : W Bool} (h : PWT S Γ k a w) : PWW S Γ k (.BoolOp .Or [a] pos) w := fun Q q => pdw_or1 (h Q q)
theorem wandW {wa wb : W Bool} (h1 : PWT S Γ k1 a wa) (h2 : PWW S Γ k2 (.BoolOp .And (b :: es) pos) wb) : PWW S Γ (k1 + k2) (.BoolOp .And (a :: b :: es) pos) (fun Q => wa fun x => if x = true then wb Q else Q false) :=
  fun Q q => TDT.imp (pdw_andG (A1 := fun x => if x = true then wb Q else Q false) (B1 := Q) (h1 _ q) fun p => h2 Q (by rwa [if_pos rfl] at p)) fun r h => by
    rcases h with ⟨rfl, p⟩ | ⟨_, p⟩
    · rwa [if_neg Bool.false_ne_true] at p
    · exact p
theorem worW {wa wb : W Bool} (h1 : PWT S Γ k1 a wa) (h2 : PWW S Γ k2 (.BoolOp .Or (b :: es) pos) wb) : PWW S Γ (k1 + k2) (.BoolOp .Or (a :: b :: es) pos) (fun Q => wa fun x => if x = true then Q true else wb Q) :=
  fun Q q => TDT.imp (pdw_orG (A1 := fun x => if x = true then Q true else wb Q) (B1 := Q) (h1 _ q) fun p => h2 Q (by rwa [if_neg Bool.false_ne_true] at p)) fun r h => by
    rcases h with ⟨rfl, p⟩ | ⟨_, p⟩
    · rwa [if_pos rfl] at p
    · exact p
theorem worP {x y : Bool} (h1 : PWT S Γ 0 a (fun Q => Q x)) (h2 : PWW S Γ 0 (.BoolOp .Or (b :: es) pos) (fun Q => Q y)) : PWW S Γ 0 (.BoolOp .Or (a :: b :: es) pos) (fun Q => Q (x || y)) := fun Q q => TDT.imp (tor h1.pdt fun _ => h2 _ rfl) fun r e => e ▸ q
theorem xandP {x y : Bool} (h1 : PW S Γ 0 a cBool (fun Q => Q x)) (h2 : PW S Γ 0 (.BoolOp .And (b :: es) pos) cBool (fun Q => Q y)) : PW S Γ 0 (.BoolOp .And (a :: b :: es) pos) cBool (fun Q => Q (x && y)) := xof (pand h1.pd fun _ => h2.pd)
theorem xone {op : BoolOp} {w : W α} (h : PW S Γ k a c w) : PW S Γ k (.BoolOp op [a] pos) c w := fun Q q => pd_one (h Q q)
theorem xandW {wa wb : W Bool} (h1 : PW S Γ k1 a cBool wa) (h2 : PW S Γ k2 (.BoolOp .And (b :: es) pos) cBool wb) : PW S Γ (k1 + k2) (.BoolOp .And (a :: b :: es) pos) cBool (fun Q => wa fun x => if x = true then wb Q else Q false) :=
  fun Q q => TD.imp (pd_andG (A1 := fun x => if x = true then wb Q else Q false) (B1 := Q) (h1 _ q) fun p => h2 Q (by rwa [if_pos rfl] at p)) fun r h => by
    rcases h with ⟨rfl, p⟩ | ⟨_, p⟩
    · rwa [if_neg Bool.false_ne_true] at p
    · exact p
theorem xnot {w : W Bool} (h : PW S Γ k a cBool w) : PW S Γ k (.UnaryOp .Not a pos) cBool (fun Q => w fun x => Q (!x)) := fun Q q => pd_of (fun X G => pe_not (tE_ok G)) (TD.imp (td_notV (h _ q)) fun r z => by rwa [Bool.not_not] at z)
theorem xif {wd : W Bool} {wa wb : W α} (h : PWT S Γ k1 dd wd) (ha : PW S Γ k2 a c wa) (hb : PW S Γ k3 b c wb) : PW S Γ (k1 + max k2 k3) (.IfExp dd a b pos) c (fun Q => wd fun x => if x = true then wa Q else wb Q) :=
  fun Q q => pd_if (b' := fun x => if x = true then wa Q else wb Q) (h _ q) (fun p => ha Q (by rwa [if_pos rfl] at p)) fun p => hb Q (by rwa [if_neg Bool.false_ne_true] at p)
/-! ### arguments, displays -/
theorem aN : PWA S Γ 0 [] (fun _ : Unit => []) (fun Q => Q ()) := fun Q q => pda_nil.imp fun as e => ⟨(), e, q⟩
theorem aC {mk : τ → Ctxt} {w : W α} {wt : W τ} (h : PW S Γ k1 e c w) (hr : PWA S Γ k2 es mk wt) (hs : ∀ env : Env, starEach (e :: es) env = (false, eval e env) :: starEach es env) : PWA S Γ (k1 + k2) (e :: es) (fun t : α × τ => .d c t.1 :: mk t.2) (fun Q => w fun x => wt fun t => Q (x, t)) :=
  fun Q q => TDA.imp (pda_of (fun X G => pa_cons (tE_ok G) (tA_ok G) (hs _)) (ta_consD (h _ q) fun x p => hr _ p)) fun as ⟨x, r, _, ⟨t, e, qt⟩, h3⟩ => ⟨(x, t), by rw [h3, e], qt⟩
theorem aB {mk : τ → Ctxt} {wt : W τ} {i : Nat} {x : Str} {z : Addr} (hΓ : Γ[i]? = some (.bx z)) (hN : S.N[i]? = some x) (hv : Vis S.sc x) (hr : PWA S Γ k2 es mk wt) (hd : (x == ("__debug__" : Str)) = false := by decide) (hcd : (x == ("__classdict__" : Str)) = false := by decide) : PWA S Γ k2 (.Name x pos :: es) (fun t => .bx z :: mk t) wt :=
  fun Q q => (pda_box hΓ hN hv (hr Q q) hd hcd).imp fun as ⟨r, ⟨t, e, qt⟩, h3⟩ => ⟨t, by rw [h3, e], qt⟩
theorem lN : PWL S Γ 0 [] c (fun Q => Q []) := fun Q q => pda_nil.imp fun as e => ⟨[], e, q⟩
theorem lC {w : W α} {wt : W (List α)} (h : PW S Γ k1 e c w) (hr : PWL S Γ k2 es c wt) (hs : ∀ env : Env, starEach (e :: es) env = (false, eval e env) :: starEach es env) : PWL S Γ (k1 + k2) (e :: es) c (fun Q => w fun x => wt fun t => Q (x :: t)) :=
  fun Q q => TDA.imp (pda_of (fun X G => pa_cons (tE_ok G) (tA_ok G) (hs _)) (ta_consD (h _ q) fun x p => hr _ p)) fun as ⟨x, r, _, ⟨t, e, qt⟩, h3⟩ => ⟨x :: t, by rw [h3, e]; rfl, qt⟩
theorem xlst {w : W (List α)} (h : PWL S Γ k es c w) : PWF S Γ k (.List es pos) c (fun Q => w fun xs => xs.length ≤ 1000 ∧ Q xs) := fun Q q => pdf_lst (h _ q) fun as ⟨xs, e, l, r⟩ => ⟨xs, e, l, r⟩
theorem xtup {kx : Nat} {w : W (List α)} (h : PWL S Γ k es c w) : PW S Γ k (.Tuple es kx pos) (cTup c) (fun Q => w fun xs => xs.length ≤ 1000 ∧ Q xs) := fun Q q => pd_tupl (h _ q) fun as ⟨xs, e, l, r⟩ => ⟨xs, e, l, r⟩
/-- the pure ones: no bound is asked for -/
inductive PLs {α : Type} (S : Stc) (Γ : Ctxt) (c : Cod α) : List Expr → List α → Prop
  | nil : PLs S Γ c [] []
  | cons {e : Expr} {es : List Expr} {x : α} {xs : List α} : PW S Γ 0 e c (fun Q => Q x) → PLs S Γ c es xs → (∀ env : Env, starEach (e :: es) env = (false, eval e env) :: starEach es env) → PLs S Γ c (e :: es) (x :: xs)
theorem PLs.pdl {xs : List α} (h : PLs S Γ c es xs) : PDL S Γ c es xs := by
  induction h with
  | nil => exact .nil
  | cons h1 _ h3 ih => exact .cons h1.pd ih h3
theorem xlstP {xs : List α} (h : PLs S Γ c es xs) (hl : xs.length ≤ 1000) : PWF S Γ 0 (.List es pos) c (fun Q => Q xs) := xofF (plst h.pdl hl)
theorem xtupP {kx : Nat} {xs : List α} (h : PLs S Γ c es xs) (hl : xs.length ≤ 1000) : PW S Γ 0 (.Tuple es kx pos) (cTup c) (fun Q => Q xs) := xof (ptup h.pdl hl)
theorem xt2 {kx : Nat} {w : W (α × β × Unit)} (h : PWA S Γ k es (fun t : α × β × Unit => [.d c1 t.1, .d c2 t.2.1]) w) : PW S Γ k (.Tuple es kx pos) (cT2 c1 c2) (fun Q => w fun t => Q (t.1, t.2.1)) := fun Q q => pd_of (fun X G => pe_tup (tA_ok G)) (td_t2A (h _ q) fun as ⟨t, e, r⟩ => ⟨(t.1, t.2.1), e, r⟩)
theorem xL2 {w : W (α × β × Unit)} (h : PWA S Γ k es (fun t : α × β × Unit => [.d c1 t.1, .d c2 t.2.1]) w) : PW S Γ k (.List es pos) (cL2 c1 c2) (fun Q => w fun t => Q (t.1, t.2.1)) := fun Q q => pd_of (fun X G => pe_lst (tA_ok G)) (td_L2A (h _ q) fun as ⟨t, e, r⟩ => ⟨(t.1, t.2.1), e, r⟩)
/-! ### calls -/
/-- ps: the arguments, with at most one box; kf: how many draws at most; m: what has to hold -/
abbrev spW (ps : Addr → τ → Ctxt) (kf : Nat) (m : τ → W ρ) (cr : Cod ρ) : Sp := spD (A := τ × (ρ → Prop)) (fun b a => ps b a.1) (fun _ => kf) (fun a => m a.1 a.2) cr (fun a x => a.2 x)
abbrev spWF {α : Type} (ps : Addr → τ → Ctxt) (kf : Nat) (m : τ → W (List α)) (c : Cod α) : Sp := spF (A := τ × (List α → Prop)) (fun b a => ps b a.1) (fun _ => kf) (fun a => m a.1 a.2) c (fun a x => a.2 x)
theorem xcal {ps : Addr → τ → Ctxt} {m : τ → W ρ} {wt : W τ} {x : Str} {ns : List Str} (z : Addr) (F : Cal S.prog S.w S.K S.mg S.base x ns lv (spW ps kf m cr)) (hl : lv ≤ S.lv) (hg : S.sc.names.lookup x = some .globalImplicit) (ha : PWA S Γ k1 (e :: es) (ps z) wt)
    (he : ∀ env : Env, starEach (e :: es) env = (false, eval e env) :: starEach es env) (hpl : ∀ env : Env, (backTo pos (starEach es env)).any (·.1) = false) (hdb : (x == ("__debug__" : Str)) = false := by decide) : PW S Γ (k1 + kf) (.Call (.Name x pn) (e :: es) [] pos) cr (fun Q => wt fun t => m t Q) :=
  fun Q q => pcalX F hl hg (ha _ q) (fun as ⟨t, e, r⟩ => ⟨(t, Q), z, e, r, Nat.le_refl _, fun _ h => h⟩) he hpl hdb
theorem xcalF {ps : Addr → τ → Ctxt} {m : τ → W (List α)} {wt : W τ} {x : Str} {ns : List Str} (z : Addr) (F : Cal S.prog S.w S.K S.mg S.base x ns lv (spWF ps kf m c)) (hl : lv ≤ S.lv) (hg : S.sc.names.lookup x = some .globalImplicit) (ha : PWA S Γ k1 (e :: es) (ps z) wt)
    (he : ∀ env : Env, starEach (e :: es) env = (false, eval e env) :: starEach es env) (hpl : ∀ env : Env, (backTo pos (starEach es env)).any (·.1) = false) (hdb : (x == ("__debug__" : Str)) = false := by decide) : PWF S Γ (k1 + kf) (.Call (.Name x pn) (e :: es) [] pos) c (fun Q => wt fun t => m t Q) :=
  fun Q q => pcalF F hl hg (ha _ q) (fun as ⟨t, e, r⟩ => ⟨(t, Q), z, e, r, Nat.le_refl _, fun _ h => h⟩) he hpl hdb
/-- the fresh result as data -/
theorem Cal.datW {ps : Addr → τ → Ctxt} {m : τ → W (List α)} {P : Program} {w : World} {mg : Str → Option Value} {base : Heap} {x : Str} {ns : List Str} (F : Cal P w K mg base x ns lv (spWF ps kf m c)) : Cal P w K mg base x ns lv (spW ps kf m (cList c)) := F.dat
variable {C : Addr} {F : Hp → List (Str × V) → ω → Prop} {hm : ∀ {H H' fs y}, Ex H H' → F H fs y → F H' fs y} {m : Str}
theorem xmet0 {ps : Addr → ω × Unit → Ctxt} {mt : ω × Unit → W ρ} {wo : W ω} {ns : List Str} {pl : Env → Sem Bool} (M : MCal S.prog S.w S.K S.mg S.base C m ns lv (spW ps kf mt cr)) (hC : Cls S.K C) (hl : lv ≤ S.lv) (ho : PW S Γ k o (cIns C F hm) wo) (hno : ∀ H fs y0, F H fs y0 → fs.lookup m = none) (hps : ∀ y, [.d (cIns C F hm) y] = ps 0 (y, ())) (ht : MTree0 o m apos pos pl) :
    PW S Γ (k + 0 + kf) (.Call (.Attribute o m apos) [] [] pos) cr (fun Q => wo fun y => mt (y, ()) Q) := fun Q q => by
  obtain ⟨f, fd, Fn, Mt, hb⟩ := M.ex
  exact pd_of (fun X G => pe_meth0 (pl := pl X.env) (tE_ok G) (by rw [G.K]; exact hC) (by rw [G.K]; exact Mt) (fnG Fn G) (G.room.mono hl) (by rw [G.K]; exact hb) .nil pass0 (ht _))
    (td_meth (k := k) (k1 := 0) (k2 := kf) (ho _ q) hno ta_nil fun y' as h1 h2 => ⟨((y', ()), Q), 0, by subst h2; exact hps y', h1, Nat.le_refl _, fun x hx => hx⟩)
/-- the making of an instance -/
abbrev spIW {τ : Type} (C : Addr) (ps : τ → Ctxt) (m : τ → W ω) (F : Hp → List (Str × V) → ω → Prop) : Sp := spI (A := τ × (ω → Prop)) C (fun a => ps a.1) (fun a => m a.1 a.2) F (fun a x => a.2 x)
theorem xmake {ps : τ → Ctxt} {mt : τ → W ω} {wt : W τ} {x : Str} {ns : List Str} (I : ICal S.prog S.w S.K S.mg S.base C ns lv (spIW C ps mt F)) (hl : lv + 1 ≤ S.lv) (hg : S.sc.names.lookup x = some .globalImplicit) (hmg : S.mg x = some (.ref C)) (hnb : ∀ t, NoB (ps t)) (ha : PWA S Γ k (e :: es) ps wt)
    (hs : ∀ env : Env, starEach (e :: es) env = (false, eval e env) :: starEach es env) (hpl : ∀ env : Env, (backTo pos (starEach es env)).any (·.1) = false) (hdb : (x == ("__debug__" : Str)) = false := by decide) : PW S Γ k (.Call (.Name x pn) (e :: es) [] pos) (cIns C F hm) (fun Q => wt fun t => mt t Q) := fun Q q => by
  obtain ⟨f, fd, Fn, Mk1, hb⟩ := I.ex
  exact pd_of (fun X G => pe_make (by rw [G.K]; exact Mk1) (fnG Fn G) (G.room.mono hl) (glb G hg) (by rw [G.mg]; exact hmg) (by rw [G.K]; exact hb) .nil pass0 (tA_ok G) hdb (hs _) (hpl _))
    (td_make (ha _ q) fun as ⟨t, e, r⟩ => ⟨by rw [e]; exact hnb t, (t, Q), e, r, fun _ h => h⟩)
/-! ### builtins of one -/
theorem xb1 {r : List V → Hp → VK → Prop} {x : Str} {id : String} {w : W α} {t : α → W γ} (hc : ∀ X, Good S X → CallR X (.builtin id) r) (hg : S.sc.names.lookup x = some .globalImplicit) (hmg : S.mg x = none) (hv : bootBuiltins x = some (.builtin id)) (h : PW S Γ k e c1 w) (hr : ∀ x, RWC r c1 x c3 (t x))
    (he : ∀ env : Env, starEach [e] env = (false, eval e env) :: starEach [] env) (hn : x ≠ "__name__" := by decide) (hdb : (x == ("__debug__" : Str)) = false := by decide) : PW S Γ k (.Call (.Name x pn) [e] [] pos) c3 (fun Q => w fun x => t x Q) := fun Q q => pd_b1 hc hg hmg hv (h _ q) (fun x p => hr x Q p) he hn hdb
theorem xy1 {r : List V → Hp → VK → Prop} {x : Str} {T : String} {w : W α} {t : α → W γ} (hc : ∀ X, Good S X → CallR X (.type T) r) (hg : S.sc.names.lookup x = some .globalImplicit) (hmg : S.mg x = none) (hv : bootBuiltins x = some (.type T)) (h : PW S Γ k e c1 w) (hr : ∀ x, RWC r c1 x c3 (t x))
    (he : ∀ env : Env, starEach [e] env = (false, eval e env) :: starEach [] env) (hn : x ≠ "__name__" := by decide) (hdb : (x == ("__debug__" : Str)) = false := by decide) : PW S Γ k (.Call (.Name x pn) [e] [] pos) c3 (fun Q => w fun x => t x Q) := fun Q q => pd_y1 hc hg hmg hv (h _ q) (fun x p => hr x Q p) he hn hdb
theorem xfy1 {r : List V → Hp → VK → Prop} {x : Str} {T : String} {w : W α} {t : α → W (List γ)} (hc : ∀ X, Good S X → CallR X (.type T) r) (hg : S.sc.names.lookup x = some .globalImplicit) (hmg : S.mg x = none) (hv : bootBuiltins x = some (.type T)) (h : PW S Γ k e c1 w) (hr : ∀ x, RWF r c1 x c3 (t x))
    (he : ∀ env : Env, starEach [e] env = (false, eval e env) :: starEach [] env) (hn : x ≠ "__name__" := by decide) (hdb : (x == ("__debug__" : Str)) = false := by decide) : PWF S Γ k (.Call (.Name x pn) [e] [] pos) c3 (fun Q => w fun x => t x Q) := fun Q q => pdf_y1 hc hg hmg hv (h _ q) (fun x p => hr x Q p) he hn hdb
/-! ### items -/
/-- where an index leads -/
def ixOk (n : Nat) (i : Int) : Prop := -(n : Int) ≤ i ∧ i < (n : Int)
def ixAt {α : Type} [Inhabited α] (xs : List α) (i : Int) : α := xs.getD (if i < 0 then i + xs.length else i).toNat default
theorem atI_ix {α : Type} [Inhabited α] {xs : List α} {i : Int} (h : ixOk xs.length i) : atI xs i = some (ixAt xs i) := by
  obtain ⟨h1, h2⟩ := h
  have key : ixN xs.length i = some (if i < 0 then i + xs.length else i).toNat := by
    unfold ixN
    by_cases hi : i < 0
    · rw [if_pos hi, if_neg (by omega), if_pos h1]
    · rw [if_neg hi, if_pos (by omega), if_pos h2]
  unfold ixAt atI
  rw [key]
  show xs[_]? = _
  have : (if i < 0 then i + (xs.length : Int) else i).toNat < xs.length := by split <;> omega
  rw [List.getD_eq_getElem?_getD, List.getElem?_eq_getElem this]; rfl
theorem ixL {α : Type} [Inhabited α] {c : Cod α} {xs : List α} {i : Int} : RW (rIxL K) (cList c) xs cInt i c (fun Q => ixOk xs.length i ∧ Q (ixAt xs i)) := fun Q q => rd_ixL ⟨_, atI_ix q.1, q.2⟩
theorem ixT {α : Type} [Inhabited α] {c : Cod α} {xs : List α} {i : Int} : RW (rIxT K) (cTup c) xs cInt i c (fun Q => ixOk xs.length i ∧ Q (ixAt xs i)) := fun Q q => rd_ixT ⟨_, atI_ix q.1, q.2⟩
theorem xix {r : R2} {wa : W α} {wb : W β} {t : α → β → W γ} (hr : ∀ X, Good S X → IxR X r) (ha : PW S Γ k1 a c1 wa) (hb : PW S Γ k2 b c2 wb) (hrd : ∀ x y, RW r c1 x c2 y c3 (t x y)) (hs : PlainIx b) : PW S Γ (k1 + k2) (.Subscript a b pos) c3 (fun Q => wa fun x => wb fun y => t x y Q) :=
  fun Q q => pd_of (fun X G => pe_ix (hr X G) (tE_ok G) (tE_ok G) hs) (td_opD (ha _ q) (fun x p => hb _ p) fun x y _ p => hrd x y Q p)
/-- an item of a tuple, a list of unlike things -/
theorem xixP {r : R2} {i : Int} {f : α → γ} {wa : W α} (hr : ∀ X, Good S X → IxR X r) (hrd : ∀ x, RD r c1 x cInt i c3 (· = f x)) (ha : PW S Γ k a c1 wa) (hb : PW S Γ 0 b cInt (fun Q => Q i)) (hs : PlainIx b) : PW S Γ (k + 0) (.Subscript a b pos) c3 (fun Q => wa fun x => Q (f x)) :=
  fun Q q => pd_of (fun X G => pe_ix (hr X G) (tE_ok G) (tE_ok G) hs) (td_opD (P2 := fun x y => y = i ∧ Q (f x)) (ha _ q) (fun x p => hb _ ⟨rfl, p⟩) fun x y _ p => by
    obtain ⟨rfl, p⟩ := p
    exact (hrd x).imp fun z e => e ▸ p)
end
end DL

set_option Elab.async false
set_option linter.all false
set_option maxRecDepth 100000
set_option maxHeartbeats 4000000
namespace DL
open PySem PySem.Spec L2
section
variable {S : Stc} {X : Cx} {Γ Γ0 Γ1 Γ2 Γ3 : Ctxt} {k k1 k2 k3 kk kt ke kn kf kr lv : Nat} {A α β γ δ ρ τ ω σ υ : Type} {c : Cod α} {c' : Cod β} {cr : Cod ρ} {c1 : Cod α} {c2 : Cod β} {c3 : Cod γ} {c4 : Cod δ} {e a b dd o : Expr} {es : List Expr} {pos pos' pn apos : Pos} {K : PySem.W.Frag}
/-! ### what is walked -/
theorem iL {tg : Expr} {w : W (List α)} (h : PW S Γ k e (cList c) w) : PWI S Γ k tg e c w := fun Q q => pdi_list (h Q q)
theorem iT {tg : Expr} {w : W (List α)} (h : PW S Γ k e (cTup c) w) : PWI S Γ k tg e c w := fun Q q => pdi_tup (h Q q)
theorem iS {tg : Expr} {w : W (List α)} (h : PW S Γ k e (cSeq c) w) : PWI S Γ k tg e c w := fun Q q => pdi_seq (h Q q)
abbrev rng (i : Int) : List Int := rangeL 0 i.toNat
abbrev rngOk (i : Int) : Prop := -4611686018427387904 ≤ i ∧ i ≤ 1000000
theorem iR1 {tg : Expr} {w : W Int} (hg : S.sc.names.lookup ("range" : Str) = some .globalImplicit) (hm : S.mg "range" = none) (h : PW S Γ k a cInt w) (hs : ∀ env : Env, starEach [a] env = [(false, eval a env)]) : PWI S Γ k tg (.Call (.Name "range" pn) [a] [] pos) cInt (fun Q => w fun i => rngOk i ∧ Q (rng i)) :=
  fun Q q => pdi_range1 hg hm (TDA.imp (pda_cons (h _ q) pda_nil hs) fun as h => h) (fun as h => by
    obtain ⟨x, r, ⟨p1, p2⟩, rfl, rfl⟩ := h
    exact ⟨x, rfl, p1.1, p1.2, p2⟩) hs
/-! ### comprehensions -/
/-- the tests of a clause -/
def PWC (S : Stc) (Γ : Ctxt) (k : Nat) (es : List Expr) (w : W Bool) : Prop := ∀ Q, w Q → TDT (tTs S es) Γ k Q
theorem c1W {w : W Bool} (h : PWT S Γ k e w) : PWC S Γ k [e] w := fun Q q => tts_one (h Q q)
theorem split_eq {pre post rest : List α} {x : α} {xs : List α} (h : xs = pre ++ x :: post) (h2 : xs = pre ++ rest) : rest = x :: post := by
  rw [h] at h2
  exact (List.append_cancel_left h2).symm
theorem tmapW {elt tg iter : Expr} {scope : Scope} {f : α → W β} {w : W (List α)} {bd : Nat} (own : List (Str × Nat)) (hw : PWI S Γ k tg iter c w) (nv : NoBxs Γ (own.map (·.2))) (hbd : bd * ke ≤ kn)
    (hs : ∀ x, ∃ Γ1 is, PDG (S.blk scope) tg c x (wipeC Γ (own.map (·.2))) Γ1 is ∧ (∀ i ∈ is, i ∈ own.map (·.2)) ∧ PW (S.blk scope) Γ1 ke elt c' (f x)) (Q : List β → Prop) (h : w fun xs => xs.length ≤ bd ∧ wMap f xs Q) :
    TDF (lcRd S tg iter [] elt scope own) Γ (k + kn) c' Q :=
  (tdf_lc (X := fun xs => xs.length ≤ bd ∧ wMap f xs Q) (kt := 0) (ke := ke) (kn := kn) (fun xs pre ys => ∃ rest, xs = pre ++ rest ∧ wMap f rest fun zs => Q (ys ++ zs)) (hw _ h) (noBxs_mem nv) (fun xs hx => ⟨xs, rfl, hx.2⟩) (fun xs hx => Nat.le_trans (Nat.mul_le_mul_right _ hx.1) (by rw [Nat.zero_add]; exact hbd)) fun xs hx pre x post ys hxs ⟨rest, e1, h1⟩ => by
    obtain rfl := split_eq hxs e1
    obtain ⟨Γ1, is, g1, g2, g4⟩ := hs x
    refine ⟨Γ1, is, (· = true), g1, g2, tts_nil, fun p => ?_, fun p => by cases p⟩
    exact (g4 _ h1).imp fun y py => ⟨post, by rw [hxs]; simp, by
        have : (fun zs => Q (ys ++ [y] ++ zs)) = fun zs => Q (ys ++ (y :: zs)) := by funext zs; rw [List.append_assoc]; rfl
        rw [this]; exact py⟩).imp fun ys ⟨xs, hx, rest, e, h⟩ => by
    have : rest = [] := by
      have e2 := congrArg List.length e
      rw [List.length_append] at e2
      exact List.length_eq_zero_iff.mp (by omega)
    subst this
    have h : Q (ys ++ []) := h
    rwa [List.append_nil] at h
/-- nothing is drawn: no bound -/
theorem tlc0 {elt tg iter : Expr} {ifs : List Expr} {scope : Scope} {q : α → W Bool} {f : α → W β} {w : W (List α)} (own : List (Str × Nat)) (hw : PWI S Γ k tg iter c w) (nv : NoBxs Γ (own.map (·.2)))
    (hs : ∀ x, ∃ Γ1 is, PDG (S.blk scope) tg c x (wipeC Γ (own.map (·.2))) Γ1 is ∧ (∀ i ∈ is, i ∈ own.map (·.2)) ∧ PWC (S.blk scope) Γ1 0 ifs (q x) ∧ PW (S.blk scope) Γ1 0 elt c' (f x)) (Q : List β → Prop) (h : w fun xs => wLc q f xs Q) :
    TDF (lcRd S tg iter ifs elt scope own) Γ k c' Q :=
  (TDF.le (tdf_lc (X := fun xs => wLc q f xs Q) (kt := 0) (ke := 0) (kn := 0) (fun xs pre ys => ∃ rest, xs = pre ++ rest ∧ wLc q f rest fun zs => Q (ys ++ zs)) (hw _ h) (noBxs_mem nv) (fun xs hx => ⟨xs, rfl, hx⟩) (fun xs hx => Nat.le_of_eq (Nat.mul_zero _)) fun xs hx pre x post ys hxs ⟨rest, e1, h1⟩ => by
    obtain rfl := split_eq hxs e1
    obtain ⟨Γ1, is, g1, g2, g3, g4⟩ := hs x
    refine ⟨Γ1, is, _, g1, g2, g3 _ h1, fun p => ?_, fun p => ?_⟩
    · rw [if_pos rfl] at p
      exact (g4 _ p).imp fun y py => ⟨post, by rw [hxs]; simp, by
        have : (fun zs => Q (ys ++ [y] ++ zs)) = fun zs => Q (ys ++ (y :: zs)) := by funext zs; rw [List.append_assoc]; rfl
        rw [this]; exact py⟩
    · rw [if_neg Bool.false_ne_true] at p
      exact ⟨post, by rw [hxs]; simp, p⟩) (Nat.le_refl (k + 0))).imp fun ys ⟨xs, hx, rest, e, h⟩ => by
    have : rest = [] := by
      have e2 := congrArg List.length e
      rw [List.length_append] at e2
      exact List.length_eq_zero_iff.mp (by omega)
    subst this
    have h : Q (ys ++ []) := h
    rwa [List.append_nil] at h
theorem tmap0 {elt tg iter : Expr} {scope : Scope} {f : α → W β} {w : W (List α)} (own : List (Str × Nat)) (hw : PWI S Γ k tg iter c w) (nv : NoBxs Γ (own.map (·.2)))
    (hs : ∀ x, ∃ Γ1 is, PDG (S.blk scope) tg c x (wipeC Γ (own.map (·.2))) Γ1 is ∧ (∀ i ∈ is, i ∈ own.map (·.2)) ∧ PW (S.blk scope) Γ1 0 elt c' (f x)) (Q : List β → Prop) (h : w fun xs => wMap f xs Q) :
    TDF (lcRd S tg iter [] elt scope own) Γ k c' Q :=
  (TDF.le (tdf_lc (X := fun xs => wMap f xs Q) (kt := 0) (ke := 0) (kn := 0) (fun xs pre ys => ∃ rest, xs = pre ++ rest ∧ wMap f rest fun zs => Q (ys ++ zs)) (hw _ h) (noBxs_mem nv) (fun xs hx => ⟨xs, rfl, hx⟩) (fun xs hx => Nat.le_of_eq (Nat.mul_zero _)) fun xs hx pre x post ys hxs ⟨rest, e1, h1⟩ => by
    obtain rfl := split_eq hxs e1
    obtain ⟨Γ1, is, g1, g2, g4⟩ := hs x
    refine ⟨Γ1, is, (· = true), g1, g2, tts_nil, fun p => ?_, fun p => by cases p⟩
    exact (g4 _ h1).imp fun y py => ⟨post, by rw [hxs]; simp, by
        have : (fun zs => Q (ys ++ [y] ++ zs)) = fun zs => Q (ys ++ (y :: zs)) := by funext zs; rw [List.append_assoc]; rfl
        rw [this]; exact py⟩) (Nat.le_refl (k + 0))).imp fun ys ⟨xs, hx, rest, e, h⟩ => by
    have : rest = [] := by
      have e2 := congrArg List.length e
      rw [List.length_append] at e2
      exact List.length_eq_zero_iff.mp (by omega)
    subst this
    have h : Q (ys ++ []) := h
    rwa [List.append_nil] at h
/-- the pure ones -/
theorem wLc_pure {α β : Type} {q : α → Bool} {f : α → β} : ∀ (xs : List α) (Q : List β → Prop), wLc (fun x R => R (q x)) (fun x R => R (f x)) xs Q = Q ((xs.filter q).map f)
  | [], _ => rfl
  | x :: r, Q => by
    show (if q x = true then wLc _ _ r (fun ys => Q (f x :: ys)) else wLc _ _ r Q) = _
    by_cases h : q x = true
    · rw [if_pos h, wLc_pure r, List.filter_cons_of_pos h]; rfl
    · rw [if_neg h, wLc_pure r, List.filter_cons_of_neg h]
theorem wMap_pure {α β : Type} {f : α → β} : ∀ (xs : List α) (Q : List β → Prop), wMap (fun x R => R (f x)) xs Q = Q (xs.map f)
  | [], _ => rfl
  | x :: r, Q => by
    show wMap _ r (fun ys => Q (f x :: ys)) = _
    rw [wMap_pure r]; rfl
theorem tfmP {elt tg iter : Expr} {ifs : List Expr} {scope : Scope} {q : α → Bool} {f : α → β} {w : W (List α)} (own : List (Str × Nat)) (hw : PWI S Γ k tg iter c w) (nv : NoBxs Γ (own.map (·.2)))
    (hs : ∀ x, ∃ Γ1 is, PDG (S.blk scope) tg c x (wipeC Γ (own.map (·.2))) Γ1 is ∧ (∀ i ∈ is, i ∈ own.map (·.2)) ∧ PWC (S.blk scope) Γ1 0 ifs (fun Q => Q (q x)) ∧ PW (S.blk scope) Γ1 0 elt c' (fun Q => Q (f x))) (Q : List β → Prop) (h : w fun xs => Q ((xs.filter q).map f)) :
    TDF (lcRd S tg iter ifs elt scope own) Γ k c' Q := tlc0 (q := fun x R => R (q x)) (f := fun x R => R (f x)) own hw nv hs Q (by
      have : (fun xs => wLc (fun x (R : Bool → Prop) => R (q x)) (fun x (R : β → Prop) => R (f x)) xs Q) = fun xs => Q ((xs.filter q).map f) := by funext xs; exact wLc_pure xs Q
      rw [this]; exact h)
theorem tmapP {elt tg iter : Expr} {scope : Scope} {f : α → β} {w : W (List α)} (own : List (Str × Nat)) (hw : PWI S Γ k tg iter c w) (nv : NoBxs Γ (own.map (·.2)))
    (hs : ∀ x, ∃ Γ1 is, PDG (S.blk scope) tg c x (wipeC Γ (own.map (·.2))) Γ1 is ∧ (∀ i ∈ is, i ∈ own.map (·.2)) ∧ PW (S.blk scope) Γ1 0 elt c' (fun Q => Q (f x))) (Q : List β → Prop) (h : w fun xs => Q (xs.map f)) :
    TDF (lcRd S tg iter [] elt scope own) Γ k c' Q := tmap0 (f := fun x R => R (f x)) own hw nv hs Q (by
      have : (fun xs => wMap (fun x (R : β → Prop) => R (f x)) xs Q) = fun xs => Q (xs.map f) := by funext xs; exact wMap_pure xs Q
      rw [this]; exact h)
/-- a read comprehension, and one as a value -/
def LW {β : Type} (S : Stc) (Γ : Ctxt) (k : Nat) (tg iter : Expr) (ifs : List Expr) (elt : Expr) (scope : Scope) (own : List (Str × Nat)) (c : Cod β) (w : W (List β)) : Prop := ∀ Q, w Q → TDF (lcRd S tg iter ifs elt scope own) Γ k c Q
theorem xlc {elt tg iter : Expr} {ifs : List Expr} {scope : Scope} {own : List (Str × Nat)} {w : W (List β)} (h : LW S Γ k tg iter ifs elt scope own c' w) (ok : blkC S.N S.sc scope own = true) (hfs : ∀ (env : Env) x, foldedSetIterable iter env x = pure x) : PWF S Γ k (.ListComp elt [⟨tg, iter, ifs, 0⟩] scope pos) c' w := fun Q q => pdf_lc ok hfs (h Q q)
theorem mapW {elt tg iter : Expr} {scope : Scope} {f : α → W β} {w : W (List α)} (bd : Nat) (own : List (Str × Nat)) (hw : PWI S Γ k tg iter c w) (nv : NoBxs Γ (own.map (·.2)))
    (hs : ∀ x, ∃ Γ1 is, PDG (S.blk scope) tg c x (wipeC Γ (own.map (·.2))) Γ1 is ∧ (∀ i ∈ is, i ∈ own.map (·.2)) ∧ PW (S.blk scope) Γ1 ke elt c' (f x)) : LW S Γ (k + bd * ke) tg iter [] elt scope own c' (fun Q => w fun xs => xs.length ≤ bd ∧ wMap f xs Q) := fun Q h => tmapW own hw nv (Nat.le_refl _) hs Q h
theorem lc0 {elt tg iter : Expr} {ifs : List Expr} {scope : Scope} {q : α → W Bool} {f : α → W β} {w : W (List α)} (own : List (Str × Nat)) (hw : PWI S Γ k tg iter c w) (nv : NoBxs Γ (own.map (·.2)))
    (hs : ∀ x, ∃ Γ1 is, PDG (S.blk scope) tg c x (wipeC Γ (own.map (·.2))) Γ1 is ∧ (∀ i ∈ is, i ∈ own.map (·.2)) ∧ PWC (S.blk scope) Γ1 0 ifs (q x) ∧ PW (S.blk scope) Γ1 0 elt c' (f x)) : LW S Γ k tg iter ifs elt scope own c' (fun Q => w fun xs => wLc q f xs Q) := fun Q h => tlc0 own hw nv hs Q h
theorem map0 {elt tg iter : Expr} {scope : Scope} {f : α → W β} {w : W (List α)} (own : List (Str × Nat)) (hw : PWI S Γ k tg iter c w) (nv : NoBxs Γ (own.map (·.2)))
    (hs : ∀ x, ∃ Γ1 is, PDG (S.blk scope) tg c x (wipeC Γ (own.map (·.2))) Γ1 is ∧ (∀ i ∈ is, i ∈ own.map (·.2)) ∧ PW (S.blk scope) Γ1 0 elt c' (f x)) : LW S Γ k tg iter [] elt scope own c' (fun Q => w fun xs => wMap f xs Q) := fun Q h => tmap0 own hw nv hs Q h
/-- [x for x in xs if q x] -/
theorem fiP {elt tg iter : Expr} {ifs : List Expr} {scope : Scope} {q : α → Bool} {w : W (List α)} (own : List (Str × Nat)) (hw : PWI S Γ k tg iter c w) (nv : NoBxs Γ (own.map (·.2)))
    (hs : ∀ x, ∃ Γ1 is, PDG (S.blk scope) tg c x (wipeC Γ (own.map (·.2))) Γ1 is ∧ (∀ i ∈ is, i ∈ own.map (·.2)) ∧ PWC (S.blk scope) Γ1 0 ifs (fun Q => Q (q x)) ∧ PW (S.blk scope) Γ1 0 elt c (fun Q => Q x)) : LW S Γ k tg iter ifs elt scope own c (fun Q => w fun xs => Q (xs.filter q)) := fun Q h => tfmP (f := fun x => x) own hw nv hs Q (by
      have : (fun xs : List α => Q ((xs.filter q).map fun x => x)) = fun xs => Q (xs.filter q) := by funext xs; rw [List.map_id']
      rw [this]; exact h)
theorem maP {elt tg iter : Expr} {scope : Scope} {f : α → β} {w : W (List α)} (own : List (Str × Nat)) (hw : PWI S Γ k tg iter c w) (nv : NoBxs Γ (own.map (·.2)))
    (hs : ∀ x, ∃ Γ1 is, PDG (S.blk scope) tg c x (wipeC Γ (own.map (·.2))) Γ1 is ∧ (∀ i ∈ is, i ∈ own.map (·.2)) ∧ PW (S.blk scope) Γ1 0 elt c' (fun Q => Q (f x))) : LW S Γ k tg iter [] elt scope own c' (fun Q => w fun xs => Q (xs.map f)) := fun Q h => tmapP own hw nv hs Q h
/-! ### a list of one's own, looked at -/
theorem vN {i : Nat} {xs : List α} {w : W β} (h : Γ[i]? = some (.l c xs)) (fl : NL c') (ht : PW S (Γ.set i (.d (cList c) xs)) k e c' w) : PW S Γ k e c' w := fun Q q => td_viewN h fl (ht Q q)
theorem vNF {i : Nat} {xs : List α} {w : W (List β)} (h : Γ[i]? = some (.l c xs)) (fl : NL c') (ht : PWF S (Γ.set i (.d (cList c) xs)) k e c' w) : PWF S Γ k e c' w := fun Q q => tdf_viewN h fl (ht Q q)
theorem vT {i : Nat} {xs : List α} {w : W Bool} (h : Γ[i]? = some (.l c xs)) (ht : PWT S (Γ.set i (.d (cList c) xs)) k e w) : PWT S Γ k e w := fun Q q => tt_view h (ht Q q)
end
end DL

set_option Elab.async false
set_option linter.all false
set_option maxRecDepth 100000
set_option maxHeartbeats 4000000
namespace DL
open PySem PySem.Spec L2
/-! ## Statements -/
/-- while t: b -/
def wWhile {σ ρ : Type} (t : σ → W Bool) (b : σ → (σ → Prop) → (σ → Prop) → (σ → Prop) → (ρ → Prop) → Prop) : Nat → σ → (σ → Prop) → (ρ → Prop) → Prop
  | 0, _, _, _ => False
  | n + 1, s, N, R => t s fun x => if x = true then b s (fun s' => wWhile t b n s' N R) N (fun s' => wWhile t b n s' N R) R else N s
/-- what is known of a value that is returned -/
abbrev Rl (ρ : Type) := Org → Ctxt → Hp → Hp → V → ρ → Prop
def rD {ρ : Type} (c : Cod ρ) : Rl ρ := fun _ _ Hf' _ v x => c.rep Hf' v x
/-- a new list that nobody else has -/
def rF {α : Type} (c : Cod α) : Rl (List α) := fun O Γ' Hf' H' v xs => ∃ a vs, v = .ref a ∧ H' a = some (.lst vs) ∧ Hf' a = none ∧ (O.M a ∨ O.H a = none) ∧ ¬ Bx Γ' a ∧ Paired (c.rep Hf') vs xs ∧ vs.length ≤ LB
def HSR {ρ : Type} (ts : TS) (Γ : Ctxt) (k : Nat) (rel : Rl ρ) (N B C : Ctxt → Prop) (R : ρ → Prop) : Prop :=
  ∀ (O : Org) (n : Nat) (σ : Stt) (Hf H : Hp), n + k ≤ LIM → Sat O Hf H σ Γ n → ∀ D : Ends,
    (∀ σ' Hf' H' Γ', N Γ' → Fin O Γ Hf Hf' H' σ' Γ' (n + k) → D.nx σ' H') → (∀ σ' Hf' H' Γ', B Γ' → Fin O Γ Hf Hf' H' σ' Γ' (n + k) → D.bk σ' H') →
    (∀ σ' Hf' H' Γ', C Γ' → Fin O Γ Hf Hf' H' σ' Γ' (n + k) → D.ct σ' H') → (∀ v σ' Hf' H' Γ' x, R x → rel O Γ' Hf' H' v x → Fin O Γ Hf Hf' H' σ' Γ' (n + k) → D.rt v H') → ts D σ H
abbrev noP (ρ : Type) (N : Ctxt → Prop) (c : Cod ρ) : Po ρ := { N := N, bk := fun _ => False, ct := fun _ => False, c := c, R := fun _ => False }
section
variable {O : Org} {Hf H Hf' H' : Hp} {σ' : Stt} {Γ Γ' : Ctxt} {k k1 k2 k3 kt kb kn m : Nat} {ρ τ α : Type} {t u : TS} {tt : TT} {te : TE} {rel : Rl ρ} {N N1 N' B B' C C' : Ctxt → Prop} {R : ρ → Prop} {c : Cod α} {P : α → Prop}
theorem HSR.le (h : HSR t Γ k rel N B C R) (l : k ≤ k2) : HSR t Γ k2 rel N B C R := fun O n σ Hf H hn S D q1 q2 q3 q4 =>
  h O n σ Hf H (by omega) S D (fun _ _ _ _ a f => q1 _ _ _ _ a (f.le (by omega))) (fun _ _ _ _ a f => q2 _ _ _ _ a (f.le (by omega))) (fun _ _ _ _ a f => q3 _ _ _ _ a (f.le (by omega))) fun _ _ _ _ _ _ a r f => q4 _ _ _ _ _ _ a r (f.le (by omega))
/-- a statement that only leads on -/
theorem hsr_of {c0 : Cod τ} (h : HS t Γ k (noP τ N c0)) : HSR t Γ k rel N B C R := fun O n σ Hf H hn S D q1 q2 q3 q4 =>
  h O n σ Hf H hn S D q1 (fun _ _ _ _ z _ => z.elim) (fun _ _ _ _ z _ => z.elim) fun _ _ _ _ _ _ z _ _ => z.elim
theorem hsr_next (h : N Γ) : HSR tNext Γ 0 rel N B C R := fun O n σ Hf H _ S D q1 _ _ _ => q1 σ Hf H Γ h ⟨S, .refl, Ex.rfl'⟩
theorem hsr_seq (h1 : HSR t Γ k1 rel N1 B C R) (h2 : ∀ Γ1, N1 Γ1 → HSR u Γ1 k2 rel N B C R) : HSR (tSeq t u) Γ (k1 + k2) rel N B C R := fun O n σ Hf H hn S D q1 q2 q3 q4 =>
  h1 O n σ Hf H (by omega) S { D with nx := u D } (fun σ1 Hf1 H1 Γ1 a f => h2 Γ1 a O (n + k1) σ1 Hf1 H1 (by omega) f.sat D
      (fun _ _ _ _ b g => q1 _ _ _ _ b ⟨by rw [← Nat.add_assoc]; exact g.sat, f.bx.trans g.bx, f.ex.trans g.ex⟩) (fun _ _ _ _ b g => q2 _ _ _ _ b ⟨by rw [← Nat.add_assoc]; exact g.sat, f.bx.trans g.bx, f.ex.trans g.ex⟩)
      (fun _ _ _ _ b g => q3 _ _ _ _ b ⟨by rw [← Nat.add_assoc]; exact g.sat, f.bx.trans g.bx, f.ex.trans g.ex⟩) fun _ _ _ _ _ _ b r g => q4 _ _ _ _ _ _ b r ⟨by rw [← Nat.add_assoc]; exact g.sat, f.bx.trans g.bx, f.ex.trans g.ex⟩)
    (fun _ _ _ _ a f => q2 _ _ _ _ a (f.le (by omega))) (fun _ _ _ _ a f => q3 _ _ _ _ a (f.le (by omega))) fun _ _ _ _ _ _ a r f => q4 _ _ _ _ _ _ a r (f.le (by omega))
theorem hsr_if {b : Bool → Prop} (ht : TDT tt Γ k1 b) (ha : b true → HSR t Γ k2 rel N B C R) (hb : b false → HSR u Γ k3 rel N B C R) : HSR (tIfS tt t u) Γ (k1 + max k2 k3) rel N B C R := fun O n σ Hf H hn S D q1 q2 q3 q4 =>
  ht O n σ Hf H (by omega) S _ fun d Hf1 H1 pd f1 S1 => by
    cases d with
    | true =>
      rw [if_pos rfl]
      exact (ha pd).le (Nat.le_max_left k2 k3) O (n + k1) σ Hf1 H1 (by omega) S1 D (fun _ _ _ _ a f => q1 _ _ _ _ a ⟨by rw [← Nat.add_assoc]; exact f.sat, f.bx, f1.ex.trans f.ex⟩) (fun _ _ _ _ a f => q2 _ _ _ _ a ⟨by rw [← Nat.add_assoc]; exact f.sat, f.bx, f1.ex.trans f.ex⟩)
        (fun _ _ _ _ a f => q3 _ _ _ _ a ⟨by rw [← Nat.add_assoc]; exact f.sat, f.bx, f1.ex.trans f.ex⟩) fun _ _ _ _ _ _ a r f => q4 _ _ _ _ _ _ a r ⟨by rw [← Nat.add_assoc]; exact f.sat, f.bx, f1.ex.trans f.ex⟩
    | false =>
      rw [if_neg Bool.false_ne_true]
      exact (hb pd).le (Nat.le_max_right k2 k3) O (n + k1) σ Hf1 H1 (by omega) S1 D (fun _ _ _ _ a f => q1 _ _ _ _ a ⟨by rw [← Nat.add_assoc]; exact f.sat, f.bx, f1.ex.trans f.ex⟩) (fun _ _ _ _ a f => q2 _ _ _ _ a ⟨by rw [← Nat.add_assoc]; exact f.sat, f.bx, f1.ex.trans f.ex⟩)
        (fun _ _ _ _ a f => q3 _ _ _ _ a ⟨by rw [← Nat.add_assoc]; exact f.sat, f.bx, f1.ex.trans f.ex⟩) fun _ _ _ _ _ _ a r f => q4 _ _ _ _ _ _ a r ⟨by rw [← Nat.add_assoc]; exact f.sat, f.bx, f1.ex.trans f.ex⟩
theorem hsr_ret {cr : Cod ρ} (h : TD te Γ k cr R) : HSR (tRet te) Γ k (rD cr) N B C R := fun O n σ Hf H hn S D _ _ _ q4 =>
  h O n σ Hf H hn S _ fun v Hf' H' x px r f s => q4 v σ Hf' H' Γ x px r ⟨s, .refl, f.ex⟩
theorem hsr_retO {i : Nat} {xs : List α} {R : List α → Prop} (h : Γ[i]? = some (.l c xs)) (hr : R xs) : HSR (tRet (tVar i)) Γ 0 (rF c) N B C R := fun O n σ Hf H hn S D _ _ _ q4 => by
  obtain ⟨a, vs, h1, h2, h3, h4, h5⟩ := S.at_ i _ h
  exact ⟨.ref a, h1, q4 (.ref a) σ Hf H Γ xs hr ⟨a, vs, rfl, h2, h3, S.mine a ⟨i, _, h, rfl, h1⟩, S.lNe h h1, h4, h5⟩ ⟨S, .refl, Ex.rfl'⟩⟩
theorem hsr_freeze {i : Nat} {xs : List α} (h : Γ[i]? = some (.l c xs)) (nb : NoBx Γ i) (hs : HSR t (Γ.set i (.d (cList c) xs)) k rel N B C R) : HSR t Γ k rel N B C R := fun O n σ Hf H hn S D q1 q2 q3 q4 => by
  obtain ⟨a, vs, h1, h2, h3, _, _, rp, S'⟩ := S.freeze h
  have bk := bxKeep_set (s := .d (cList c) xs) nb
  exact hs O n σ _ H hn S' D (fun _ _ _ _ a f => q1 _ _ _ _ a ⟨f.sat, bk.trans f.bx, (Ex.new h3).trans f.ex⟩) (fun _ _ _ _ a f => q2 _ _ _ _ a ⟨f.sat, bk.trans f.bx, (Ex.new h3).trans f.ex⟩)
    (fun _ _ _ _ a f => q3 _ _ _ _ a ⟨f.sat, bk.trans f.bx, (Ex.new h3).trans f.ex⟩) fun _ _ _ _ _ _ a r f => q4 _ _ _ _ _ _ a r ⟨f.sat, bk.trans f.bx, (Ex.new h3).trans f.ex⟩
theorem wipeC_out {i : Nat} : ∀ {vs : List Nat}, i ∉ vs → (wipeC Γ vs)[i]? = Γ[i]?
  | [], _ => rfl
  | v :: vs, h => by
    unfold wipeC
    rw [List.getElem?_set_ne (fun e => h (by rw [e]; exact List.mem_cons_self))]
    exact wipeC_out fun z => h (List.mem_cons_of_mem _ z)
theorem Fin.forget2 (f : Fin O Γ Hf Hf' H' σ' Γ' m) (vs : List Nat) (nb : NoBxs Γ vs) : Fin O Γ Hf Hf' H' σ' (wipeC Γ' vs) m := ⟨f.sat.forget vs, fun i a h => by
  have h1 := f.bx i a h
  by_cases hi : i ∈ vs
  · have := noBxs_mem nb i hi
    unfold NoBx at this; rw [h] at this; exact this.elim
  · rw [wipeC_out hi]; exact h1, f.ex⟩
theorem HSR.forgetN (vs : List Nat) (nb : NoBxs Γ vs) (h : HSR t Γ k rel N B C R) (hp : ∀ G, N G → N' (wipeC G vs)) : HSR t Γ k rel N' B C R := fun O n σ Hf H hn S D q1 q2 q3 q4 =>
  h O n σ Hf H hn S D (fun σ' Hf' H' Γ' a f => q1 σ' Hf' H' _ (hp Γ' a) (f.forget2 vs nb)) q2 q3 q4
theorem HSR.forgetL (vs : List Nat) (nb : NoBxs Γ vs) (h : HSR t Γ k rel N B C R) (hb : ∀ G, B G → B' (wipeC G vs)) (hc : ∀ G, C G → C' (wipeC G vs)) : HSR t Γ k rel N B' C' R := fun O n σ Hf H hn S D q1 q2 q3 q4 =>
  h O n σ Hf H hn S D q1 (fun σ' Hf' H' Γ' a f => q2 σ' Hf' H' _ (hb Γ' a) (f.forget2 vs nb)) (fun σ' Hf' H' Γ' a f => q3 σ' Hf' H' _ (hc Γ' a) (f.forget2 vs nb)) q4
theorem hsr_for {wi : TI} {g : TG} {kk : Nat} {X : List α → Prop} (I : List α → List α → Ctxt → Prop) (hw : TW wi Γ k c X) (h0 : ∀ xs, X xs → I xs [] Γ) (hk : ∀ xs, X xs → xs.length * kk ≤ kn)
    (hs : ∀ xs, X xs → ∀ pre x post Γ1, xs = pre ++ x :: post → I xs pre Γ1 → ∃ Γ2 is, GD g c x Γ1 Γ2 is ∧ HSR t Γ2 kk rel (I xs (pre ++ [x])) N (I xs (pre ++ [x])) R)
    (hd : ∀ xs Γ1, X xs → I xs xs Γ1 → N Γ1) : HSR (tFor wi g t) Γ (k + kn) rel N B C R := fun O n σ Hf H hn S D q1 q2 q3 q4 =>
  hw O n σ Hf H (by omega) S _ fun J Hf1 H1 xs px W lb f1 S1 => by
    have hk' := hk xs px
    have kle : ∀ i, i ≤ xs.length → i * kk ≤ kn := fun i hi => Nat.le_trans (Nat.mul_le_mul_right kk hi) hk'
    refine ⟨fun i m σ' H' => m = xs.length - i ∧ i ≤ xs.length ∧ ∃ Γ1 Hfi, I xs (xs.take i) Γ1 ∧ Fin O Γ Hf1 Hfi H' σ' Γ1 (n + k + i * kk),
      ⟨xs.length, by simp, Nat.zero_le _, Γ, Hf1, by rw [List.take_zero]; exact h0 xs px, by rw [Nat.zero_mul]; exact S1, .refl, Ex.rfl'⟩, ?_⟩
    rintro i m σ' H' ⟨rfl, hi, Γ1, Hfi, hI, F⟩
    have hki := kle i hi
    by_cases hlt : i < xs.length
    · have hx : xs[i]? = some xs[i] := List.getElem?_eq_getElem hlt
      have hki1 := kle (i + 1) hlt
      rw [Nat.succ_mul] at hki1
      refine .inr ⟨W.go Hfi H' i F.ex F.sat.ex hlt, fun σ2 H2 => ∃ Γ2 Hf2, I xs (xs.take (i + 1)) Γ2 ∧ Fin O Γ Hf1 Hf2 H2 σ2 Γ2 (n + k + (i + 1) * kk), fun σ2 H2 ⟨Γ2, Hf2, a, b⟩ => ⟨xs.length - (i + 1), by omega, rfl, hlt, Γ2, Hf2, a, b⟩, fun v H2 hy => ?_⟩
      obtain ⟨Hf2, rx, fy, ey⟩ := W.yld Hfi H' i v H2 _ F.ex F.sat.ex hy hx
      have S2 : Sat O Hf2 H2 σ' Γ1 (n + k + i * kk) := F.sat.grow0 fy ey
      obtain ⟨Γ2, is, gd, hb⟩ := hs xs px (xs.take i) xs[i] (xs.drop (i + 1)) Γ1 (split_at hx) hI
      have en : n + k + i * kk + kk = n + k + (i + 1) * kk := by rw [Nat.succ_mul]; omega
      refine gd.2.2 O _ σ' Hf2 H2 v rx S2 _ fun σ3 S3 _ => ?_
      have up : ∀ {σ4 : Stt} {Hf4 H4 : Hp} {Γ4 : Ctxt}, Fin O Γ2 Hf2 Hf4 H4 σ4 Γ4 (n + k + i * kk + kk) → Fin O Γ Hf1 Hf4 H4 σ4 Γ4 (n + k + (i + 1) * kk) := fun {σ4 Hf4 H4 Γ4} f => ⟨by rw [← en]; exact f.sat, (F.bx.trans gd.1).trans f.bx, (F.ex.trans fy.ex).trans f.ex⟩
      have up2 : ∀ {σ4 : Stt} {Hf4 H4 : Hp} {Γ4 : Ctxt}, Fin O Γ2 Hf2 Hf4 H4 σ4 Γ4 (n + k + i * kk + kk) → Fin O Γ Hf Hf4 H4 σ4 Γ4 (n + (k + kn)) := fun {σ4 Hf4 H4 Γ4} f => ⟨(up f).sat.le (by rw [Nat.succ_mul]; omega), (up f).bx, f1.ex.trans (up f).ex⟩
      refine hb O _ σ3 Hf2 H2 (by omega) S3 _ (fun σ4 Hf4 H4 Γ4 a f => ⟨Γ4, Hf4, by rw [take_snoc hx]; exact a, up f⟩) (fun σ4 Hf4 H4 Γ4 a f => q1 σ4 Hf4 H4 Γ4 a (up2 f)) (fun σ4 Hf4 H4 Γ4 a f => ⟨Γ4, Hf4, by rw [take_snoc hx]; exact a, up f⟩) (fun v4 σ4 Hf4 H4 Γ4 y a r f => q4 v4 σ4 Hf4 H4 Γ4 y a r (up2 f))
    · have e : i = xs.length := by omega
      subst e
      rw [List.take_length] at hI
      exact .inl ⟨W.stop Hfi H' F.ex F.sat.ex, q1 σ' Hfi H' Γ1 (hd xs Γ1 px hI) ⟨F.sat.le (by omega), F.bx, f1.ex.trans F.ex⟩⟩
/-- while, by what has to hold -/
theorem hsr_while {Γl : τ → Ctxt} {wt : τ → W Bool} {wb : τ → (τ → Prop) → (τ → Prop) → (τ → Prop) → (ρ → Prop) → Prop} {Nt : τ → Prop} (n0 : Nat) (s0 : τ) (hk : n0 * (kt + kb) ≤ kn)
    (ht : ∀ s Q, wt s Q → TDT tt (Γl s) kt Q) (hb : ∀ s (N B C : τ → Prop) (R : ρ → Prop), wb s N B C R → HSR t (Γl s) kb rel (fun G => ∃ s, N s ∧ G = Γl s) (fun G => ∃ s, B s ∧ G = Γl s) (fun G => ∃ s, C s ∧ G = Γl s) R)
    (h : wWhile wt wb n0 s0 Nt R) (hN : ∀ s, Nt s → N (Γl s)) : HSR (tWhile tt t) (Γl s0) kn rel N B C R := fun O n σ Hf H hn S D q1 q2 q3 q4 => by
  refine ⟨fun m σ' H' => m ≤ n0 ∧ ∃ s Hf', wWhile wt wb m s Nt R ∧ Fin O (Γl s0) Hf Hf' H' σ' (Γl s) (n + (n0 - m) * (kt + kb)), ⟨n0, Nat.le_refl _, s0, Hf, h, by rw [Nat.sub_self, Nat.zero_mul]; exact S, .refl, Ex.rfl'⟩, ?_⟩
  rintro m σ1 H1 ⟨hm, s, Hf1, hw, F⟩
  cases m with
  | zero => exact hw.elim
  | succ m =>
    have e1 : (n0 - (m + 1)) * (kt + kb) + (kt + kb) = (n0 - m) * (kt + kb) := by rw [← Nat.succ_mul]; congr 1; omega
    have e2 : (n0 - m) * (kt + kb) ≤ n0 * (kt + kb) := Nat.mul_le_mul_right _ (by omega)
    refine ht s _ hw O _ σ1 Hf1 H1 (by omega) F.sat _ fun b Hf2 H2 pb f2 S2 => ?_
    cases b with
    | true =>
      rw [if_pos rfl] at pb ⊢
      refine ⟨fun σ' H' => m ≤ n0 ∧ ∃ s Hf', wWhile wt wb m s Nt R ∧ Fin O (Γl s0) Hf Hf' H' σ' (Γl s) (n + (n0 - m) * (kt + kb)), fun σ' H' z => ⟨m, Nat.lt_succ_self _, z⟩, ?_⟩
      have up : ∀ {σ4 : Stt} {Hf4 H4 : Hp} {Γ4 : Ctxt}, Fin O (Γl s) Hf2 Hf4 H4 σ4 Γ4 (n + (n0 - (m + 1)) * (kt + kb) + kt + kb) → Fin O (Γl s0) Hf Hf4 H4 σ4 Γ4 (n + (n0 - m) * (kt + kb)) := fun {σ4 Hf4 H4 Γ4} f => ⟨f.sat.le (by omega), F.bx.trans f.bx, (F.ex.trans f2.ex).trans f.ex⟩
      refine hb s _ _ _ _ pb O _ σ1 Hf2 H2 (by omega) S2 _ (fun σ4 Hf4 H4 Γ4 a f => ?_) (fun σ4 Hf4 H4 Γ4 a f => ?_) (fun σ4 Hf4 H4 Γ4 a f => ?_) (fun v4 σ4 Hf4 H4 Γ4 y a r f => q4 v4 σ4 Hf4 H4 Γ4 y a r ((up f).le (by omega)))
      · obtain ⟨s', a, e⟩ := a; subst e
        exact ⟨by omega, s', Hf4, a, up f⟩
      · obtain ⟨s', a, e⟩ := a; subst e
        exact q1 σ4 Hf4 H4 _ (hN s' a) ((up f).le (by omega))
      · obtain ⟨s', a, e⟩ := a; subst e
        exact ⟨by omega, s', Hf4, a, up f⟩
    | false =>
      rw [if_neg Bool.false_ne_true] at pb ⊢
      exact q1 σ1 Hf2 H2 _ (hN s pb) ⟨S2.le (by omega), F.bx, F.ex.trans f2.ex⟩
end
/-- where a block may end: the names at vs are forgotten then -/
structure En (σ : Type) where
  vs : List Nat
  g : σ → Ctxt
def En.at {σ : Type} (n : En σ) (N : σ → Prop) : Ctxt → Prop := fun G => ∃ s, N s ∧ wipeC G n.vs = n.g s
def En.th {σ : Type} (n : En σ) (N : σ → Prop) : Ctxt → Prop := fun G => ∃ s, N s ∧ G = n.g s
abbrev WS (σ τ ρ : Type) := (σ → Prop) → (τ → Prop) → (τ → Prop) → (ρ → Prop) → Prop
def PB {σ τ ρ : Type} (S : Stc) (Γ : Ctxt) (k : Nat) (sts : List Stmt) (rel : Rl ρ) (n : En σ) (l : En τ) (w : WS σ τ ρ) : Prop := ∀ N B C R, w N B C R → HSR (tSs S sts) Γ k rel (n.at N) (l.at B) (l.at C) R
abbrev noEn : En Empty := ⟨[], fun z => nomatch z⟩
section
variable {S : Stc} {X : Cx} {Γ Γ0 Γ1 Γ2 Γ3 : Ctxt} {k k1 k2 k3 kk kt ke kn kf kr lv : Nat} {A α β γ δ ρ τ ω σ υ : Type} {c : Cod α} {c' : Cod β} {cr : Cod ρ} {rel : Rl ρ} {c1 : Cod α} {c2 : Cod β} {c3 : Cod γ} {c4 : Cod δ} {e a b dd o : Expr} {es : List Expr} {pos pos' pn apos : Pos} {K : PySem.W.Frag} {n : En σ} {l : En τ} {st : Stmt} {sts sts2 rest : List Stmt} {w : W α} {N N1 B C : Ctxt → Prop} {R : ρ → Prop}
theorem hsr_ss {ts : TS} (ht : ∀ X, Good S X → PSs X sts ts) (h : HSR ts Γ k rel N B C R) : HSR (tSs S sts) Γ k rel N B C R := fun O n σ Hf H hn s D q1 q2 q3 q4 => ⟨ts, ht, h O n σ Hf H hn s D q1 q2 q3 q4⟩
theorem hsr_cons {ts : TS} (ht : ∀ X, Good S X → PS X st ts) (h1 : HSR ts Γ k1 rel N1 B C R) (h2 : ∀ Γ1, N1 Γ1 → HSR (tSs S rest) Γ1 k2 rel N B C R) : HSR (tSs S (st :: rest)) Γ (k1 + k2) rel N B C R := hsr_ss (fun X G => pss_cons (ht X G) (tSs_ok G)) (hsr_seq h1 h2)
/-- a statement that only leads on, ahead -/
theorem hsr_front {c0 : Cod υ} (h1 : PHs S Γ k1 [st] (noP υ N1 c0)) (h2 : ∀ Γ1, N1 Γ1 → HSR (tSs S rest) Γ1 k2 rel N B C R) : HSR (tSs S (st :: rest)) Γ (k1 + k2) rel N B C R := hsr_ss (fun X G => pss_app (l1 := [st]) (tSs_ok G) (tSs_ok G)) (hsr_seq (hsr_of h1) h2)
theorem hsr_frontS {c0 : Cod υ} (h1 : PH S Γ k1 st (noP υ N1 c0)) (h2 : ∀ Γ1, N1 Γ1 → HSR (tSs S rest) Γ1 k2 rel N B C R) : HSR (tSs S (st :: rest)) Γ (k1 + k2) rel N B C R := hsr_cons (fun X G => tS1_ok G) (hsr_of h1) h2
theorem PB.le {ws : WS σ τ ρ} (h : PB S Γ k sts rel n l ws) (hk : k ≤ k2) : PB S Γ k2 sts rel n l ws := fun N B C R q => (h N B C R q).le hk
theorem vb_ctx {Γ' : Ctxt} {ws : WS σ τ ρ} (e : Γ = Γ') (h : PB S Γ' k sts rel n l ws) : PB S Γ k sts rel n l ws := by subst e; exact h
theorem vb_nil (s : σ) (h : wipeC Γ n.vs = n.g s) : PB S Γ 0 [] rel n l (fun N _ _ _ => N s) := fun N B C R q => hsr_ss (fun X G => pss_nil) (hsr_next ⟨s, q, h⟩)
theorem vb_ret {w : W ρ} (h : PW S Γ k e cr w) : PB S Γ k (.Return (some e) pos :: rest) (rD cr) n l (fun _ _ _ R => w R) := fun N B C R q =>
  hsr_cons (k2 := 0) (N1 := fun _ => False) (fun X G => ps_ret (tE_ok G)) (hsr_ret (h R q)) fun _ z => z.elim
theorem vb_retO (i : Nat) {x : Str} {xs : List α} (hΓ : Γ[i]? = some (.l c xs)) (hN : S.N[i]? = some x) (hv : Vis S.sc x) (hd : (x == ("__debug__" : Str)) = false := by decide) (hcd : (x == ("__classdict__" : Str)) = false := by decide) : PB S Γ 0 (.Return (some (.Name x pos')) pos :: rest) (rF c) n l (fun _ _ _ R => R xs) := fun N B C R q =>
  hsr_cons (k2 := 0) (N1 := fun _ => False) (fun X G => ps_ret (pe_slot G hN hv hd hcd)) (hsr_retO hΓ q) fun _ z => z.elim
theorem vb_raise {x1 x2 : Option Expr} : PB S Γ 0 (.Raise x1 x2 pos :: rest) rel n l (fun _ _ _ _ => False) := fun _ _ _ _ q => q.elim
theorem vb_freeze (i : Nat) {xs : List α} {ws : WS σ τ ρ} (h : Γ[i]? = some (.l c xs)) (nb : NoBx Γ i) (hs : PB S (Γ.set i (.d (cList c) xs)) k sts rel n l ws) : PB S Γ k sts rel n l ws := fun N B C R q => hsr_freeze h nb (hs N B C R q)
/-- x = e -/
theorem vb_set (i : Nat) {nm : Str} {wr : α → WS σ τ ρ} (h : PW S Γ k e c w) (nb : NoBx Γ i) (hi : S.N[i]? = some nm) (hx : Loc S.sc nm) (hs : ∀ env : Env, env.scope = S.sc → swapsWith e (some (.Name nm pos')) pos.line env = pure false) (hf : S.fn nm = true ∨ S.sc.names.lookup nm = some .local) (hr : ∀ x, PB S (Γ.set i (.d c x)) k2 rest rel n l (wr x)) :
    PB S Γ (k + k2) (.Assign [.Name nm pos'] e pos :: rest) rel n l (fun N B C R => w fun x => wr x N B C R) := fun N B C R q =>
  hsr_frontS (c0 := cNon) (N1 := fun G => ∃ x, wr x N B C R ∧ G = Γ.set i (.d c x)) (ph_set (h _ q) nb (fun x p => ⟨x, p, rfl⟩) hi hx hs hf) fun G ⟨x, p, e⟩ => by subst e; exact hr x N B C R p
theorem vb_setL (i : Nat) {nm : Str} {w : W (List α)} {wr : List α → WS σ τ ρ} (h : PWF S Γ k e c w) (nb : NoBx Γ i) (hi : S.N[i]? = some nm) (hx : Loc S.sc nm) (hs : ∀ env : Env, env.scope = S.sc → swapsWith e (some (.Name nm pos')) pos.line env = pure false) (hf : S.fn nm = true ∨ S.sc.names.lookup nm = some .local) (hr : ∀ x, PB S (Γ.set i (.l c x)) k2 rest rel n l (wr x)) :
    PB S Γ (k + k2) (.Assign [.Name nm pos'] e pos :: rest) rel n l (fun N B C R => w fun x => wr x N B C R) := fun N B C R q =>
  hsr_frontS (c0 := cNon) (N1 := fun G => ∃ x, wr x N B C R ∧ G = Γ.set i (.l c x)) (ph_setL (h _ q) nb (fun x p => ⟨x, p, rfl⟩) hi hx hs hf) fun G ⟨x, p, e⟩ => by subst e; exact hr x N B C R p
/-- x = [.. for ..], x a plain local -/
theorem vb_setLc (i : Nat) {nm : Str} {py : Pos} {elt tg iter : Expr} {ifs : List Expr} {scope : Scope} (own : List (Str × Nat)) {w : W (List β)} {wr : List β → WS σ τ ρ} (h : LW S Γ k tg iter ifs elt scope own c' w) (nb : NoBx Γ i) (hi : S.N[i]? = some nm) (hyl : S.sc.names.lookup nm = some .local) (hl : (py.line == pos.line) = true) (hk : S.sc.kind = .function)
    (ha : (scope.names.any fun (n, k) => n == nm && (k == .local || k == .cell)) = false) (ok : blkC S.N S.sc scope own = true) (hfs : ∀ (env : Env) x, foldedSetIterable iter env x = pure x) (hr : ∀ x, PB S (Γ.set i (.d (cList c') x)) k2 rest rel n l (wr x)) :
    PB S Γ (k + k2) (.Assign [.Name nm py] (.ListComp elt [⟨tg, iter, ifs, 0⟩] scope pos) pos' :: rest) rel n l (fun N B C R => w fun x => wr x N B C R) := fun N B C R q =>
  hsr_frontS (c0 := cNon) (N1 := fun G => ∃ x, wr x N B C R ∧ G = Γ.set i (.d (cList c') x)) (ph_setLc (h _ q) nb (fun x p => ⟨x, p, rfl⟩) hi hyl hl hk ha ok hfs) fun G ⟨x, p, e⟩ => by subst e; exact hr x N B C R p
theorem vb_setLcO (i : Nat) {nm : Str} {py : Pos} {elt tg iter : Expr} {ifs : List Expr} {scope : Scope} (own : List (Str × Nat)) {w : W (List β)} {wr : List β → WS σ τ ρ} (h : LW S Γ k tg iter ifs elt scope own c' w) (nb : NoBx Γ i) (hi : S.N[i]? = some nm) (hyl : S.sc.names.lookup nm = some .local) (hl : (py.line == pos.line) = true) (hk : S.sc.kind = .function)
    (ha : (scope.names.any fun (n, k) => n == nm && (k == .local || k == .cell)) = false) (ok : blkC S.N S.sc scope own = true) (hfs : ∀ (env : Env) x, foldedSetIterable iter env x = pure x) (hr : ∀ x, PB S (Γ.set i (.l c' x)) k2 rest rel n l (wr x)) :
    PB S Γ (k + k2) (.Assign [.Name nm py] (.ListComp elt [⟨tg, iter, ifs, 0⟩] scope pos) pos' :: rest) rel n l (fun N B C R => w fun x => wr x N B C R) := fun N B C R q =>
  hsr_frontS (c0 := cNon) (N1 := fun G => ∃ x, wr x N B C R ∧ G = Γ.set i (.l c' x)) (ph_setLcL own (h _ q) nb (fun y py => ⟨y, py, rfl⟩) hi hyl hl hk ha ok hfs) fun G ⟨x, p, e⟩ => by subst e; exact hr x N B C R p
/-- e, for nothing -/
theorem vb_drop {wr : α → WS σ τ ρ} (h : PW S Γ k e c w) (hs : ∀ env : Env, env.scope = S.sc → swapsWith e none pos.line env = pure false) (hr : ∀ x, PB S Γ k2 rest rel n l (wr x)) : PB S Γ (k + k2) (.Expr e pos :: rest) rel n l (fun N B C R => w fun x => wr x N B C R) := fun N B C R q =>
  hsr_cons (N1 := fun G => ∃ x, wr x N B C R ∧ G = Γ) (fun X G => ps_expr (tE_ok G) (hs _ G.sc)) (fun O m σ Hf H hn s D q1 _ _ _ => h _ q O m σ Hf H hn s _ fun v Hf' H' x px r f s' => q1 _ Hf' H' _ ⟨x, px, rfl⟩ ⟨s', .refl, f.ex⟩) fun G ⟨x, p, e⟩ => by subst e; exact hr x N B C R p
/-- if e: .. else: ..; rest -/
theorem vb_if {wd : W Bool} {w1 w2 : WS υ τ ρ} {wr : υ → WS σ τ ρ} (m : En υ) (ht : PWT S Γ k1 e wd) (nb : NoBxs Γ m.vs) (h1 : PB S Γ k2 sts rel m l w1) (h2 : PB S Γ k3 sts2 rel m l w2) (hr : ∀ s, PB S (m.g s) kr rest rel n l (wr s)) :
    PB S Γ (k1 + max k2 k3 + kr) (.If e sts sts2 pos :: rest) rel n l (fun N B C R => wd fun b => if b = true then w1 (fun s => wr s N B C R) B C R else w2 (fun s => wr s N B C R) B C R) := fun N B C R q =>
  hsr_cons (N1 := m.th fun s => wr s N B C R) (fun X G => ps_if (tT_ok G) (tSs_ok G) (tSs_ok G)) (hsr_if (b := fun b => if b = true then w1 (fun s => wr s N B C R) B C R else w2 (fun s => wr s N B C R) B C R) (ht _ q)
    (fun p => HSR.forgetN m.vs nb (h1 _ B C R (by rwa [if_pos rfl] at p)) fun G ⟨s, a, e⟩ => ⟨s, a, e⟩)
    (fun p => HSR.forgetN m.vs nb (h2 _ B C R (by rwa [if_neg Bool.false_ne_true] at p)) fun G ⟨s, a, e⟩ => ⟨s, a, e⟩))
    fun G ⟨s, p, e⟩ => by subst e; exact hr s N B C R p
/-- if e: .., that does not lead on; rest -/
theorem vb_ifR {wd : W Bool} {w1 : WS Empty τ ρ} {wr : WS σ τ ρ} (ht : PWT S Γ k1 e wd) (h1 : PB S Γ k2 sts rel noEn l w1) (hr : PB S Γ kr rest rel n l wr) :
    PB S Γ (k1 + max k2 0 + kr) (.If e sts [] pos :: rest) rel n l (fun N B C R => wd fun b => if b = true then w1 (fun z => nomatch z) B C R else wr N B C R) := fun N B C R q =>
  hsr_cons (N1 := fun G => wr N B C R ∧ G = Γ) (fun X G => ps_if (tT_ok G) (tSs_ok G) pss_nil) (hsr_if (k3 := 0) (b := fun b => if b = true then w1 (fun z => nomatch z) B C R else wr N B C R) (ht _ q)
    (fun p => HSR.forgetN [] trivial (h1 _ B C R (by rwa [if_pos rfl] at p)) fun G h => by obtain ⟨s, _, _⟩ := h; exact nomatch s)
    fun p => hsr_next ⟨by rwa [if_neg Bool.false_ne_true] at p, rfl⟩) fun G ⟨p, e⟩ => by subst e; exact hr N B C R p
/-- for -/
theorem vb_forW {tg iter : Expr} {w : W (List α)} {wb : α → υ → WS υ υ ρ} {wr : υ → WS σ τ ρ} (m : En υ) {Bd : List α → Prop} (s0 : υ) (hΓ : Γ = m.g s0) (hw : PWI S Γ k tg iter c w) (hk : ∀ xs, Bd xs → xs.length * kk ≤ kn)
    (hs : ∀ s x, ∃ Γ2 is, PDG S tg c x (m.g s) Γ2 is ∧ NoBxs Γ2 m.vs ∧ PB S Γ2 kk sts rel m m (wb x s)) (hfs : ∀ (env : Env) x, foldedSetIterable iter env x = pure x) (hr : ∀ s, PB S (m.g s) kr rest rel n l (wr s)) :
    PB S Γ (k + kn + kr) (.For tg iter sts [] pos :: rest) rel n l (fun N B C R => w fun xs => Bd xs ∧ wFor wb xs s0 (fun s => wr s N B C R) R) := fun N B C R q => by
  refine hsr_cons (N1 := m.th fun s => wr s N B C R) (fun X G => ps_for (by rw [G.nox]; exact PassesOwn.never) G.calm (tI_ok G) (tGt_ok G) (tSs_ok G) (hfs _)) (hsr_for (X := fun xs => Bd xs ∧ wFor wb xs s0 (fun s => wr s N B C R) R) (kk := kk) (kn := kn) (fun xs pre G => ∃ rst s, xs = pre ++ rst ∧ wFor wb rst s (fun s => wr s N B C R) R ∧ G = m.g s) (hw _ q) (fun xs hx => ⟨xs, s0, rfl, hx.2, hΓ⟩) (fun xs hx => hk xs hx.1) (fun xs hx pre x post Γ1 hxs ⟨rst, s, e1, h1, e2⟩ => ?_) (fun xs Γ1 hx ⟨rst, s, e1, h1, e2⟩ => ?_)) fun G ⟨s, p, e⟩ => by subst e; exact hr s N B C R p
  · obtain rfl := split_eq hxs e1
    subst e2
    obtain ⟨Γ2, is, g, nb, h⟩ := hs s x
    refine ⟨Γ2, is, g, ?_⟩
    have h2 := h (fun s' => wFor wb post s' (fun s => wr s N B C R) R) (fun s => wr s N B C R) (fun s' => wFor wb post s' (fun s => wr s N B C R) R) R h1
    exact HSR.forgetL m.vs nb (HSR.forgetN (N' := fun G => ∃ rst s, xs = pre ++ [x] ++ rst ∧ wFor wb rst s (fun s => wr s N B C R) R ∧ G = m.g s) m.vs nb h2 fun G ⟨s, a, e⟩ => ⟨post, s, by rw [hxs]; simp, a, e⟩) (fun G ⟨s, a, e⟩ => ⟨s, a, e⟩) fun G ⟨s, a, e⟩ => ⟨post, s, by rw [hxs]; simp, a, e⟩
  · have : rst = [] := by
      have e2 := congrArg List.length e1
      rw [List.length_append] at e2
      exact List.length_eq_zero_iff.mp (by omega)
    subst this
    exact ⟨s, h1, e2⟩
theorem vb_for {tg iter : Expr} {w : W (List α)} {wb : α → υ → WS υ υ ρ} {wr : υ → WS σ τ ρ} (m : En υ) (s0 : υ) (hΓ : Γ = m.g s0) (hw : PWI S Γ k tg iter c w)
    (hs : ∀ s x, ∃ Γ2 is, PDG S tg c x (m.g s) Γ2 is ∧ NoBxs Γ2 m.vs ∧ PB S Γ2 0 sts rel m m (wb x s)) (hfs : ∀ (env : Env) x, foldedSetIterable iter env x = pure x) (hr : ∀ s, PB S (m.g s) kr rest rel n l (wr s)) :
    PB S Γ (k + 0 + kr) (.For tg iter sts [] pos :: rest) rel n l (fun N B C R => w fun xs => wFor wb xs s0 (fun s => wr s N B C R) R) := fun N B C R q =>
  vb_forW m (Bd := fun _ => True) s0 hΓ (w := fun Q => w Q) hw (fun _ _ => Nat.le_of_eq (Nat.mul_zero _)) hs hfs hr N B C R (by
    have : (fun xs => True ∧ wFor wb xs s0 (fun s => wr s N B C R) R) = fun xs => wFor wb xs s0 (fun s => wr s N B C R) R := by funext xs; exact propext ⟨fun h => h.2, fun h => ⟨trivial, h⟩⟩
    show w (fun xs => True ∧ wFor wb xs s0 (fun s => wr s N B C R) R)
    rw [this]; exact q)
/-- .. with draws, at most bd turns -/
theorem vb_forD (bd : Nat) {tg iter : Expr} {w : W (List α)} {wb : α → υ → WS υ υ ρ} {wr : υ → WS σ τ ρ} (m : En υ) (s0 : υ) (hΓ : Γ = m.g s0) (hw : PWI S Γ k tg iter c w)
    (hs : ∀ s x, ∃ Γ2 is, PDG S tg c x (m.g s) Γ2 is ∧ NoBxs Γ2 m.vs ∧ PB S Γ2 kk sts rel m m (wb x s)) (hfs : ∀ (env : Env) x, foldedSetIterable iter env x = pure x) (hr : ∀ s, PB S (m.g s) kr rest rel n l (wr s)) :
    PB S Γ (k + bd * kk + kr) (.For tg iter sts [] pos :: rest) rel n l (fun N B C R => w fun xs => xs.length ≤ bd ∧ wFor wb xs s0 (fun s => wr s N B C R) R) :=
  vb_forW m (Bd := fun xs => xs.length ≤ bd) s0 hΓ hw (fun _ h => Nat.mul_le_mul_right _ h) hs hfs hr
/-- while -/
theorem vb_whileW {w : υ → W Bool} {wb : υ → WS υ υ ρ} {wr : υ → WS σ τ ρ} (m : En υ) {Bd : Nat → Prop} (s0 : υ) (hΓ : Γ = m.g s0) (hk : ∀ n, Bd n → n * (kt + kk) ≤ kn) (ht : ∀ s, PWT S (m.g s) kt e (w s)) (hs : ∀ s, NoBxs (m.g s) m.vs ∧ PB S (m.g s) kk sts rel m m (wb s)) (hr : ∀ s, PB S (m.g s) kr rest rel n l (wr s)) :
    PB S Γ (kn + kr) (.While e sts [] pos :: rest) rel n l (fun N B C R => ∃ n0, Bd n0 ∧ wWhile w wb n0 s0 (fun s => wr s N B C R) R) := fun N B C R ⟨n0, hb, q⟩ => by
  subst hΓ
  refine hsr_cons (N1 := m.th fun s => wr s N B C R) (fun X G => ps_while (by rw [G.nox]; exact PassesOwn.never) (tT_ok G) (tSs_ok G)) (hsr_while (Γl := m.g) n0 s0 (hk n0 hb) (fun s Q h => ht s Q h) (fun s N' B' C' R' h => ?_) q fun s h => ⟨s, h, rfl⟩) fun G ⟨s, p, e⟩ => by subst e; exact hr s N B C R p
  obtain ⟨nb, hb⟩ := hs s
  exact HSR.forgetL m.vs nb (HSR.forgetN m.vs nb (hb N' B' C' R' h) fun G ⟨s, a, e⟩ => ⟨s, a, e⟩) (fun G ⟨s, a, e⟩ => ⟨s, a, e⟩) fun G ⟨s, a, e⟩ => ⟨s, a, e⟩
theorem vb_while {w : υ → W Bool} {wb : υ → WS υ υ ρ} {wr : υ → WS σ τ ρ} (m : En υ) (s0 : υ) (hΓ : Γ = m.g s0) (ht : ∀ s, PWT S (m.g s) 0 e (w s)) (hs : ∀ s, NoBxs (m.g s) m.vs ∧ PB S (m.g s) 0 sts rel m m (wb s)) (hr : ∀ s, PB S (m.g s) kr rest rel n l (wr s)) :
    PB S Γ (0 + kr) (.While e sts [] pos :: rest) rel n l (fun N B C R => ∃ n0, wWhile w wb n0 s0 (fun s => wr s N B C R) R) := fun N B C R ⟨n0, q⟩ =>
  vb_whileW m (Bd := fun _ => True) s0 hΓ (fun n _ => Nat.le_of_eq (Nat.mul_zero _)) ht hs hr N B C R ⟨n0, trivial, q⟩
theorem vb_whileD (bd : Nat) {w : υ → W Bool} {wb : υ → WS υ υ ρ} {wr : υ → WS σ τ ρ} (m : En υ) (s0 : υ) (hΓ : Γ = m.g s0) (ht : ∀ s, PWT S (m.g s) kt e (w s)) (hs : ∀ s, NoBxs (m.g s) m.vs ∧ PB S (m.g s) kk sts rel m m (wb s)) (hr : ∀ s, PB S (m.g s) kr rest rel n l (wr s)) :
    PB S Γ (bd * (kt + kk) + kr) (.While e sts [] pos :: rest) rel n l (fun N B C R => ∃ n0, n0 ≤ bd ∧ wWhile w wb n0 s0 (fun s => wr s N B C R) R) :=
  vb_whileW m (Bd := fun n => n ≤ bd) s0 hΓ (fun n h => Nat.mul_le_mul_right _ h) ht hs hr
end
end DL

set_option Elab.async false
set_option linter.all false
set_option maxRecDepth 100000
set_option maxHeartbeats 4000000
namespace DL
open PySem PySem.Spec L2
section
variable {Γ Γ1 : Ctxt} {k k1 k2 k3 : Nat} {α β γ ρ : Type} {c : Cod α} {P : α → Prop} {te to ti : TE} {p : Po ρ} {R1 R2 R3 : Sl → Prop}
/-! ### dependent ones -/
theorem hs_setItemD {i : Nat} {xs : List α} {Pi : α → Int → Prop} (h : Γ[i]? = some (.l c xs)) (nb : NoBx Γ i) (he : TD te Γ k1 c P) (hi : ∀ y, P y → TD ti Γ k2 cInt (Pi y)) (hp : ∀ y z, P y → Pi y z → ∃ j : Nat, ixN xs.length z = some j ∧ p.N (Γ.set i (.l c (xs.set j y)))) :
    HS (tAsg te (gSub (tVar i) ti rSetL)) Γ (k1 + k2) p := fun O n σ Hf H hn S D q1 _ _ _ => by
  obtain ⟨a, vs, h1, h2, h3, h4, h5⟩ := S.at_ i _ h
  refine he O n σ Hf H (by omega) S _ fun v Hf1 H1 y py ry f1 S1 => ?_
  refine ⟨.ref a, h1, ?_⟩
  refine hi y py O (n + k1) σ Hf1 H1 (by omega) S1 _ fun w Hf2 H2 z pz rz f2 S2 => ?_
  obtain ⟨a', vs', w1, w2, w3, w4, w5⟩ := S2.at_ i _ h
  rw [h1] at w1
  injection w1 with w1; injection w1 with w1; injection w1 with w1
  subst w1
  obtain ⟨j, hj, pn⟩ := hp y z py pz
  have hl := paired_len w4
  refine ⟨a, vs', z, j, rfl, rz, w2, by rw [hl]; exact hj, ?_⟩
  exact q1 σ Hf2 _ _ pn ⟨by rw [← Nat.add_assoc]; exact S2.wr h h1 (paired_set (c.mono f2.ex ry) j w4) (by rw [List.length_set]; exact w5), bxKeep_set nb, f1.ex.trans f2.ex⟩
theorem hs_parD {i j : Nat} {R2 : Sl → Sl → Prop} (ha : TX te Γ k1 R1) (hb : ∀ s, R1 s → TX to Γ k2 (R2 s)) (nb : NoBx Γ i) (nb' : NoBx Γ j) (hij : i ≠ j) (h1 : ∀ s, R1 s → s ≠ .un) (h2 : ∀ s t, R2 s t → t ≠ .un)
    (hp : ∀ s1 s2, R1 s1 → R2 s1 s2 → p.N ((Γ.set i s1).set j s2)) : HS (tPar i j (tCons te (tCons to tNil))) Γ (k1 + k2) p := fun O n σ Hf H hn S D q1 _ _ _ =>
  ha O n σ Hf H (by omega) S _ fun v Hf1 H1 s1 r1 v1 f1 S1 => hb s1 r1 O (n + k1) σ Hf1 H1 (by omega) S1 _ fun w Hf2 H2 s2 r2 v2 f2 S2 => by
    refine ⟨v, w, rfl, ?_⟩
    have v1' := v1.keep f2 S.bxSome
    have T1 := S2.setX (i := i) v1' (h1 s1 r1) (fun a e ho j' sl hj' ho' e' => S.noAd (own_fresh v1 e ho).1 j' sl hj' ho' e') (fun a z => S.fr.dom a z)
    have T2 := T1.setX (i := j) v2 (h2 s1 s2 r2) (fun a e ho => NoAd.set (fun j' sl hj' ho' e' => S1.noAd (own_fresh v2 e ho).1 j' sl hj' ho' e') fun ho1 e1 => (own_fresh v1 e1 ho1).2 (own_fresh v2 e ho).1) (fun a z => S.fr.dom a (f1.dom a z))
    refine q1 _ Hf2 H2 _ (hp s1 s2 r1 r2) ⟨by rw [← Nat.add_assoc]; exact T2, (bxKeep_set nb).trans (bxKeep_set ?_), f1.ex.trans f2.ex⟩
    unfold NoBx at nb' ⊢
    rw [List.getElem?_set_ne hij]; exact nb'
end
section
variable {S : Stc} {X : Cx} {Γ Γ0 Γ1 Γ2 Γ3 : Ctxt} {k k1 k2 k3 kk kt ke kn kf kr lv : Nat} {A α β γ δ ρ τ ω σ υ : Type} {c : Cod α} {c' : Cod β} {cr : Cod ρ} {rel : Rl ρ} {c1 : Cod α} {c2 : Cod β} {c3 : Cod γ} {c4 : Cod δ} {e a b dd o : Expr} {es : List Expr} {pos pos' pos2 pn apos p1 p2 p3 p4 : Pos} {K : PySem.W.Frag} {n : En σ} {l : En τ} {st : Stmt} {sts sts2 rest : List Stmt} {w : W α} {nm nm2 x y z : Str}
/-! ### x, y = a, b -/
/-- what is put into a slot -/
def PX {α : Type} (S : Stc) (Γ : Ctxt) (k : Nat) (e : Expr) (mk : α → Sl) (w : W α) : Prop := (∀ x, mk x ≠ .un) ∧ ∀ Q, w Q → TX (tE S e) Γ k (fun s => ∃ x, Q x ∧ s = mk x)
theorem PW.px (h : PW S Γ k e c w) : PX S Γ k e (fun x => .d c x) w := ⟨fun x z => (by cases z), fun Q q => (h Q q).tx⟩
theorem PWF.px {w : W (List α)} (h : PWF S Γ k e c w) : PX S Γ k e (fun x => .l c x) w := ⟨fun x z => (by cases z), fun Q q => (h Q q).tx⟩
theorem vb_par (i j : Nat) {px py pt pt2 : Pos} {kt kt2 : Nat} {ma : α → Sl} {mb : β → Sl} {wa : W α} {wb : W β} {wr : α → β → WS σ τ ρ} (ha : PX S Γ k1 a ma wa) (hb : PX S Γ k2 b mb wb) (nb : NoBx Γ i) (nb' : NoBx Γ j) (hij : i ≠ j) (hi : S.N[i]? = some x) (hj : S.N[j]? = some y)
    (hx : S.sc.names.lookup x = some .local) (hy : S.sc.names.lookup y = some .local) (hs : ∀ env : Env, starEach [a, b] env = (false, eval a env) :: starEach [b] env) (hs2 : ∀ env : Env, starEach [b] env = (false, eval b env) :: starEach [] env)
    (hw : ∀ env : Env, env.scope = S.sc → swappedStores [.Tuple [.Name x px, .Name y py] kt pt] (.Tuple [a, b] kt2 pt2) env = pure (some [x, y]))
    (hsw : ∀ env : Env, env.scope = S.sc → swapsWithSole [.Tuple [.Name x px, .Name y py] kt pt] (.Tuple [a, b] kt2 pt2) pos.line env = pure false)
    (hr : ∀ u v, PB S ((Γ.set i (ma u)).set j (mb v)) kr rest rel n l (wr u v)) : PB S Γ (k1 + k2 + kr) (.Assign [.Tuple [.Name x px, .Name y py] kt pt] (.Tuple [a, b] kt2 pt2) pos :: rest) rel n l (fun N B C R => wa fun u => wb fun v => wr u v N B C R) := fun N B C R q =>
  hsr_cons (N1 := fun G => ∃ u v, wr u v N B C R ∧ G = (Γ.set i (ma u)).set j (mb v)) (fun X G => ps_par G.calm (by rw [G.N]; exact G.nd) (by rw [G.N]; exact hi) (by rw [G.N]; exact hj) hij (by rw [G.sc]; exact hx) (by rw [G.sc]; exact hy) (pa_cons (tE_ok G) (pa_cons (tE_ok G) pa_nil (hs2 _)) (hs _)) (hw _ G.sc) (hsw _ G.sc))
    (hsr_of (τ := Unit) (c0 := cNon) (hs_parD (R2 := fun s t => ∃ u v, s = ma u ∧ t = mb v ∧ wr u v N B C R) (ha.2 _ q) (fun s ⟨u, p, e⟩ O n' σ Hf H hn S' Q' q' => (hb.2 _ p) O n' σ Hf H hn S' Q' fun v Hf' H' t ⟨v', p', e'⟩ => q' v Hf' H' t ⟨u, v', e, e', p'⟩) nb nb' hij (fun s ⟨u, _, e⟩ => e ▸ ha.1 u) (fun s t ⟨u, v, _, e, _⟩ => e ▸ hb.1 v) fun s t _ ⟨u, v, e1, e2, p⟩ => ⟨u, v, p, by rw [e1, e2]⟩)) fun G ⟨u, v, p, e⟩ => by subst e; exact hr u v N B C R p
/-- (x, y, z) = e -/
theorem vb_unpack {tg : Expr} {wr : α → WS σ τ ρ} (h : PW S Γ k e c w) (hs : ∀ env : Env, env.scope = S.sc → swapsWithSole [tg] e pos.line env = pure false) (hw : ∀ env : Env, env.scope = S.sc → swappedStores [tg] e env = pure none) (h1 : ∀ env : Env, (assignEach [tg] env).map (·.2) = [assign tg env])
    (hr : ∀ x, ∃ Γ1 is, PDG S tg c x Γ Γ1 is ∧ PB S Γ1 kr rest rel n l (wr x)) : PB S Γ (k + kr) (.Assign [tg] e pos :: rest) rel n l (fun N B C R => w fun x => wr x N B C R) := fun N B C R q =>
  hsr_cons (N1 := fun G => HSR (tSs S rest) G kr rel (n.at N) (l.at B) (l.at C) R) (fun X G => ps_asg (tE_ok G) (tGt_ok G) (hs _ G.sc) (hw _ G.sc) (h1 _)) (hsr_of (τ := Unit) (c0 := cNon) (hs_unpackP (h _ q) fun x p => by
    obtain ⟨Γ1, is, g, hb⟩ := hr x
    exact ⟨Γ1, is, g, hb N B C R p⟩)) fun G h => h
/-! ### lists of one's own -/
theorem vb_append (i : Nat) {xs : List α} {wr : α → WS σ τ ρ} (hΓ : Γ[i]? = some (.l c xs)) (he : PW S Γ k e c w) (hN : S.N[i]? = some nm) (hv : Vis S.sc nm)
    (hfew : FewOk p2 e) (hline : (p1.endLine == p2.line) = true) (hs : ∀ env : Env, starEach [e] env = (false, eval e env) :: starEach [] env) (hsw : ∀ env : Env, swapsWith (.Call (.Attribute (.Name nm pos') "append" p1) [e] [] p2) none pos.line env = pure false)
    (hr : ∀ y, PB S (Γ.set i (.l c (xs ++ [y]))) k2 rest rel n l (wr y)) (hd : (nm == ("__debug__" : Str)) = false := by decide) (hcd : (nm == ("__classdict__" : Str)) = false := by decide) :
    PB S Γ (k + k2) (.Expr (.Call (.Attribute (.Name nm pos') "append" p1) [e] [] p2) pos :: rest) rel n l (fun N B C R => xs.length + 1 ≤ LB ∧ w fun y => wr y N B C R) := fun N B C R q =>
  hsr_frontS (c0 := cNon) (N1 := fun G => ∃ y, wr y N B C R ∧ G = Γ.set i (.l c (xs ++ [y]))) (ph_append hΓ (by unfold NoBx; rw [hΓ]; trivial) (he _ q.2) q.1 (fun y p => ⟨y, p, rfl⟩) hN hv hfew hline hs hsw hd hcd) fun G ⟨y, p, e⟩ => by subst e; exact hr y N B C R p
/-- y.append(x.pop(e)) -/
theorem vb_appendPop [Inhabited α] (i j : Nat) {xs ys : List α} {w : W Int} {wr : Int → WS σ τ ρ} (hij : i ≠ j) (h : Γ[i]? = some (.l c ys)) (h' : Γ[j]? = some (.l c xs)) (hi : PW S Γ k e cInt w) (hN : S.N[i]? = some nm) (hN2 : S.N[j]? = some nm2) (hv : Vis S.sc nm) (hv2 : Vis S.sc nm2)
    (hfew : FewOk p2 (.Call (.Attribute (.Name nm2 pos2) "pop" p3) [e] [] p4)) (hfew2 : FewOk p4 e) (hline : (p1.endLine == p2.line) = true) (hline2 : (p3.endLine == p4.line) = true) (hs : ∀ env : Env, starEach [e] env = (false, eval e env) :: starEach [] env)
    (hs2 : ∀ env : Env, starEach [.Call (.Attribute (.Name nm2 pos2) "pop" p3) [e] [] p4] env = (false, eval (.Call (.Attribute (.Name nm2 pos2) "pop" p3) [e] [] p4) env) :: starEach [] env)
    (hsw : ∀ env : Env, swapsWith (.Call (.Attribute (.Name nm pos') "append" p1) [.Call (.Attribute (.Name nm2 pos2) "pop" p3) [e] [] p4] [] p2) none pos.line env = pure false)
    (hr : ∀ z, PB S ((Γ.set j (.l c (xs.eraseIdx z.toNat))).set i (.l c (ys ++ [ixAt xs z]))) kr rest rel n l (wr z))
    (hd : (nm == ("__debug__" : Str)) = false := by decide) (hcd : (nm == ("__classdict__" : Str)) = false := by decide) (hd2 : (nm2 == ("__debug__" : Str)) = false := by decide) (hcd2 : (nm2 == ("__classdict__" : Str)) = false := by decide) :
    PB S Γ (k + kr) (.Expr (.Call (.Attribute (.Name nm pos') "append" p1) [.Call (.Attribute (.Name nm2 pos2) "pop" p3) [e] [] p4] [] p2) pos :: rest) rel n l (fun N B C R => (ys.length + 1 ≤ LB ∧ xs.length ≤ LB) ∧ w fun z => (0 ≤ z ∧ z < (xs.length : Int)) ∧ wr z N B C R) := fun N B C R q =>
  hsr_front (c0 := cNon) (N1 := fun G => ∃ z, wr z N B C R ∧ G = (Γ.set j (.l c (xs.eraseIdx z.toNat))).set i (.l c (ys ++ [ixAt xs z]))) (bappendPop (kr := 0) i j hij h h' (hi _ q.2) q.1.1 q.1.2 hN hN2 hv hv2 hfew hfew2 hline hline2 hs hs2 hsw (fun z p => ⟨z.toNat, ixAt xs z, by omega, by
    have : z.toNat < xs.length := by omega
    unfold ixAt
    rw [if_neg (by omega), List.getD_eq_getElem?_getD, List.getElem?_eq_getElem this]; rfl, phs_nil ⟨z, p.2, rfl⟩⟩) hd hcd hd2 hcd2) fun G ⟨z, p, e⟩ => by subst e; exact hr z N B C R p
/-- x[e] = v -/
def ixS (n : Nat) (i : Int) : Nat := (if i < 0 then i + n else i).toNat
theorem ixN_ok {n : Nat} {i : Int} (h : ixOk n i) : ixN n i = some (ixS n i) := by
  obtain ⟨h1, h2⟩ := h
  unfold ixN ixS
  by_cases hi : i < 0
  · rw [if_pos hi, if_neg (by omega), if_pos h1]
  · rw [if_neg hi, if_pos (by omega), if_pos h2]
theorem vb_setItem (i : Nat) {xs : List α} {wi : W Int} {wr : α → Int → WS σ τ ρ} (hΓ : Γ[i]? = some (.l c xs)) (he : PW S Γ k1 e c w) (hi : PW S Γ k2 a cInt wi) (hN : S.N[i]? = some nm) (hv : Vis S.sc nm)
    (ha : ∀ (env : Env) v, assign (.Subscript (.Name nm pos') a pos2) env v = (do
      let ov ← holding [v] (eval (.Name nm pos') env)
      let iv ← holding [v, ov] (eval a env)
      standAt pos2
      holding [v, ov, iv] (setItem ov iv v)
      release [v, ov, iv] []))
    (hs : ∀ env : Env, swapsWithSole [.Subscript (.Name nm pos') a pos2] e pos.line env = pure false) (hw : ∀ env : Env, swappedStores [.Subscript (.Name nm pos') a pos2] e env = pure none) (h1 : ∀ env : Env, (assignEach [.Subscript (.Name nm pos') a pos2] env).map (·.2) = [assign (.Subscript (.Name nm pos') a pos2) env])
    (hr : ∀ y z, PB S (Γ.set i (.l c (xs.set (ixS xs.length z) y))) kr rest rel n l (wr y z)) (hd : (nm == ("__debug__" : Str)) = false := by decide) (hcd : (nm == ("__classdict__" : Str)) = false := by decide) :
    PB S Γ (k1 + k2 + kr) (.Assign [.Subscript (.Name nm pos') a pos2] e pos :: rest) rel n l (fun N B C R => w fun y => wi fun z => ixOk xs.length z ∧ wr y z N B C R) := fun N B C R q =>
  hsr_cons (N1 := fun G => ∃ y z, wr y z N B C R ∧ G = Γ.set i (.l c (xs.set (ixS xs.length z) y))) (fun X G => ps_asg (tE_ok G) (pg_sub (pe_slot G hN hv hd hcd) (tE_ok G) set_list (ha _)) (hs _) (hw _) (h1 _))
    (hsr_of (τ := Unit) (c0 := cNon) (hs_setItemD (Pi := fun y z => ixOk xs.length z ∧ wr y z N B C R) hΓ (by unfold NoBx; rw [hΓ]; trivial) (he _ q) (fun y p => hi _ p) fun y z _ p => ⟨ixS xs.length z, ixN_ok p.1, y, z, p.2, rfl⟩)) fun G ⟨y, z, p, e⟩ => by subst e; exact hr y z N B C R p
/-- x[e], x a list of one's own -/
theorem xixO [Inhabited α] (i : Nat) {xs : List α} {wi : W Int} (hΓ : Γ[i]? = some (.l c xs)) (hN : S.N[i]? = some nm) (hv : Vis S.sc nm) (hb : PW S Γ k b cInt wi) (hs : PlainIx b) (hd : (nm == ("__debug__" : Str)) = false := by decide) (hcd : (nm == ("__classdict__" : Str)) = false := by decide) : PW S Γ (0 + k) (.Subscript (.Name nm pos') b pos) c (fun Q => wi fun z => ixOk xs.length z ∧ Q (ixAt xs z)) := fun Q q =>
  pd_of (te := tOp (rIxL S.K) (tVar i) (tE S b)) (fun X G => pe_ix (ixLG X G) (pe_slot G hN hv hd hcd) (tE_ok G) hs) fun O m st Hf H hn s Q' q' => by
    obtain ⟨a, vs, h1, h2, h3, h4, h5⟩ := s.at_ i _ hΓ
    refine ⟨.ref a, h1, hb _ q O m st Hf H (by omega) s _ fun v Hf1 H1 z pz rz f1 s1 => ?_⟩
    obtain ⟨a', vs', g1, g2, g3, g4, g5⟩ := s1.at_ i _ hΓ
    rw [h1] at g1
    injection g1 with g1; injection g1 with g1; injection g1 with g1
    subst g1
    obtain rfl : v = .int z := rz
    obtain ⟨ok, pq⟩ := pz
    obtain ⟨u, hu, hru⟩ : ∃ u, vs'[ixS xs.length z]? = some u ∧ c.rep Hf1 u (ixAt xs z) := by
      have hl := paired_len g4
      have hlt : ixS xs.length z < xs.length := by
        obtain ⟨z1, z2⟩ := ok
        unfold ixS; split <;> omega
      have hx : xs[ixS xs.length z]? = some (ixAt xs z) := by
        unfold ixAt; show _ = some (xs.getD (ixS xs.length z) default)
        rw [List.getD_eq_getElem?_getD, List.getElem?_eq_getElem hlt]; rfl
      have hv2 : vs'[ixS xs.length z]? = some (vs'[ixS xs.length z]'(by omega)) := List.getElem?_eq_getElem (by omega)
      exact ⟨_, hv2, paired_get g4 hv2 hx⟩
    refine ⟨a, vs', z, u, rfl, rfl, SqL.of g2, ?_, q' u Hf1 H1 _ pq hru f1 (by rw [Nat.zero_add]; exact s1)⟩
    show atI vs' z = some u
    unfold atI
    rw [paired_len g4, ixN_ok ok]
    exact hu
/-! ### defs -/
variable {P : Program} {wd : World} {mg : Str → Option Value} {base : Heap} {ns N : List Str} {C : Addr} {m qual : Str}
theorem cal_W {ps : Addr → τ → Ctxt} {mt : τ → W ρ} (D : Def K mg x st) (hb : BindsD st x ns) (Sc : FnScope N ns (defScope st)) (hl : ∀ b a, (ps b a).length = ns.length) (hN : ns.length ≤ N.length) (one : ∀ b a, OneB (ps b a))
    (body : ∀ z t, PB ⟨N, defScope st, K, mg, P, wd, base, lv, fun _ => true, false⟩ (entry N (ps z t)) kf (defBody st) (rD cr) noEn noEn (fun _ _ _ R => mt t R)) : Cal P wd K mg base x ns (lv + 1) (spW ps kf mt cr) :=
  cal_D D hb Sc (fun b a => hl b a.1) hN (fun b a => one b a.1) fun z a hp => fun O m σ Hf H hn s D' q1 q2 q3 q4 =>
    body z a.1 (fun _ => False) (fun _ => False) (fun _ => False) a.2 hp O m σ Hf H hn s D' (fun _ _ _ _ ⟨s, _, _⟩ _ => nomatch s) (fun _ _ _ _ ⟨s, _, _⟩ _ => nomatch s) (fun _ _ _ _ ⟨s, _, _⟩ _ => nomatch s) fun v σ' Hf' H' Γ' x r rp f => q4 v σ' Hf' H' Γ' x r rp f
theorem hsf_of {t : TS} {R : List α → Prop} {N1 B1 C1 : Ctxt → Prop} (h : HSR t Γ k (rF c) N1 B1 C1 R) (hN : ∀ G, ¬ N1 G) (hB : ∀ G, ¬ B1 G) (hC : ∀ G, ¬ C1 G) : HSF t Γ k c R := fun O m σ Hf H hn s D' q =>
  h O m σ Hf H hn s D' (fun _ _ _ _ z _ => (hN _ z).elim) (fun _ _ _ _ z _ => (hB _ z).elim) (fun _ _ _ _ z _ => (hC _ z).elim) fun v σ' Hf' H' Γ' xs r rp f => by
    obtain ⟨a, vs, rfl, h1, h2, h3, h4, h5, h6⟩ := rp
    exact q a vs σ' Hf' H' Γ' xs r h1 h2 h3 (fun ⟨i, hi⟩ => h4 ⟨i, f.bx i a hi⟩) h5 h6 f
theorem mcal_W {ps : Addr → τ → Ctxt} {mt : τ → W ρ} (D : MDef K C m qual st) (hb : BindsM st m qual ns) (Sc : FnScope N ns (defScope st)) (hl : ∀ b a, (ps b a).length = ns.length) (hN : ns.length ≤ N.length) (one : ∀ b a, OneB (ps b a))
    (body : ∀ z t, PB ⟨N, defScope st, K, mg, P, wd, base, lv, fun _ => true, false⟩ (entry N (ps z t)) kf (defBody st) (rD cr) noEn noEn (fun _ _ _ R => mt t R)) : MCal P wd K mg base C m ns (lv + 1) (spW ps kf mt cr) :=
  mcal_D D hb Sc (fun b a => hl b a.1) hN (fun b a => one b a.1) fun z a hp => fun O m σ Hf H hn s D' q1 q2 q3 q4 =>
    body z a.1 (fun _ => False) (fun _ => False) (fun _ => False) a.2 hp O m σ Hf H hn s D' (fun _ _ _ _ ⟨s, _, _⟩ _ => nomatch s) (fun _ _ _ _ ⟨s, _, _⟩ _ => nomatch s) (fun _ _ _ _ ⟨s, _, _⟩ _ => nomatch s) fun v σ' Hf' H' Γ' x r rp f => q4 v σ' Hf' H' Γ' x r rp f
end
end DL

set_option Elab.async false
set_option linter.all false
set_option maxRecDepth 100000
set_option maxHeartbeats 4000000
namespace DL
open PySem PySem.Spec L2 StX
/-- xs * n -/
def repL {α : Type} (xs : List α) (i : Int) : List α := (List.replicate i.toNat xs).flatten
section
variable {Γ Γ1 : Ctxt} {k k1 k2 k3 : Nat} {α β γ ρ : Type} {c : Cod α} {P : α → Prop} {te to ti : TE} {tx : TA} {R1 : List α → Prop} {K : PySem.W.Frag}
theorem tdf_catD {R2 : List α → List α → Prop} (ha : TD te Γ k1 (cList c) R1) (hb : ∀ x, R1 x → TD to Γ k2 (cList c) (R2 x)) (lb : ∀ x y, R1 x → R2 x y → x.length + y.length ≤ LB) : TDF (tOp rCat te to) Γ (k1 + k2) c (fun z => ∃ x y, R2 x y ∧ z = x ++ y) := fun O n σ Hf H hn S Q q =>
  ha O n σ Hf H (by omega) S _ fun v Hf1 H1 x ex ⟨a, vs, e1, e2, e3, _⟩ f1 S1 => hb x ex O (n + k1) σ Hf1 H1 (by omega) S1 _ fun u Hf2 H2 y ey ⟨b, us, g1, g2, g3, _⟩ f2 S2 => by
    have l1 := paired_len e3
    have l2 := paired_len g3
    have lb := lb x y ex ey
    refine ⟨a, b, vs, us, e1, g1, S2.ex _ _ (f2.ex _ _ e2), S2.ex _ _ g2, lb_line (by omega), fun p hp => ?_⟩
    have e3' : Paired (c.rep Hf2) vs x := paired_mono e3 fun _ _ z => c.mono f2.ex z
    exact q p (vs ++ us) Hf2 (upd H2 p (.lst (vs ++ us))) _ ⟨x, y, ey, rfl⟩ upd_same (S2.ex.back hp) (f1.dom p (f2.dom p hp)) (pap e3' g3) (by rw [List.length_append]; omega)
      ((f1.trans f2 fun _ h => .inl h).trans (Fr.newO (M := Bx Γ) hp) fun _ z => .inl z) (by rw [← Nat.add_assoc]; exact S2.grow0 (Fr.newO hp) (S2.ex.trans (Ex.new hp)))
theorem ta_starD {Bs : List α → Ctxt → Prop} (h : TD te Γ k1 (cSeq c) R1) (hr : ∀ x, R1 x → TDA tx Γ k2 (Bs x)) : TDA (tStar K te tx) Γ (k1 + k2) (fun as => ∃ xs r, R1 xs ∧ Bs xs r ∧ as = xs.map (fun x => Sl.d c x) ++ r) := fun O n σ Hf H hn s Q q =>
  h O n σ Hf H (by omega) s _ fun v Hf1 H1 x ex r f1 S1 => by
    obtain ⟨a, vs, h1, h2, h3, h4⟩ := sq_seq (K := K) S1.ex r
    refine ⟨a, vs, h1, h2.symm, hr x ex O (n + k1) σ Hf1 H1 (by omega) S1 _ fun us Hf2 H2 as b o hb f2 S2 => ?_⟩
    have ap : ∀ {l : List V} {m : List α}, Paired (c.rep Hf2) l m → ArgsOk Hf2 (l ++ us) (m.map (fun x => Sl.d c x) ++ as) := fun {l m} w => by
      induction w with
      | nil => exact o
      | cons r t ih => exact ⟨r, ih⟩
    exact q (vs ++ us) Hf2 H2 _ ⟨x, as, ex, b, rfl⟩ (ap (paired_mono h3 fun _ _ z => c.mono f2.ex z)) (fun a' h' => by
      rcases List.mem_append.mp h' with e | e
      · obtain ⟨_, _, e⟩ := List.mem_map.mp e
        cases e
      · exact hb a' e) (f1.trans f2 fun _ z => .inl z) (by rw [← Nat.add_assoc]; exact S2)
end
section
variable {S : Stc} {X : Cx} {Γ Γ0 Γ1 Γ2 Γ3 : Ctxt} {k k1 k2 k3 kk kt ke kn kf kr lv : Nat} {A α β γ δ ρ τ ω σ υ : Type} {c : Cod α} {c' : Cod β} {cr : Cod ρ} {c1 : Cod α} {c2 : Cod β} {c3 : Cod γ} {c4 : Cod δ} {e a b dd o : Expr} {es : List Expr} {pos pos' pn apos : Pos} {K : PySem.W.Frag} {w : W α}
theorem xcat {wa wb : W (List α)} (ha : PW S Γ k1 a (cList c) wa) (hb : PW S Γ k2 b (cList c) wb) : PWF S Γ (k1 + k2) (.BinOp a .Add b pos) c (fun Q => wa fun x => wb fun y => x.length + y.length ≤ LB ∧ Q (x ++ y)) := fun Q q =>
  pdf_of (fun X G => pe_op op_cat (tE_ok G) (tE_ok G)) (TDF.imp (tdf_catD (R2 := fun x y => x.length + y.length ≤ LB ∧ Q (x ++ y)) (ha _ q) (fun x p => hb _ p) fun x y _ p => p.1) fun z ⟨x, y, p, e⟩ => by rw [e]; exact p.2)
theorem catT {xs ys : List α} : RW (rCatA K) (cTup c) xs (cTup c) ys (cTup c) (fun Q => xs.length + ys.length ≤ LB ∧ Q (xs ++ ys)) := rwc fun h => rd_catT h
theorem xmul {wa wb : W Int} (ha : PW S Γ k1 a cInt wa) (hb : PW S Γ k2 b cInt wb) : PW S Γ (k1 + k2) (.BinOp a .Mult b pos) cInt (fun Q => wa fun x => wb fun y => CMul x y ∧ Q (x * y)) := xbin (fun _ _ => op_mul) ha hb fun x y => rwc fun h => rd_I h
theorem xmulD {j : Int} {wb : W Int} (hj : -(2 ^ 64) < j ∧ j < 2 ^ 64) (ha : PW S Γ 0 a cInt (fun Q => Q j)) (hb : PW S Γ k b cInt wb) : PW S Γ (0 + k) (.BinOp a .Mult b pos) cInt (fun Q => wb fun y => Q (j * y)) := fun Q q =>
  pd_of (fun X G => pe_op op_mul (tE_ok G) (tE_ok G)) (td_opD (P2 := fun x y => x = j ∧ Q (j * y)) (ha (fun x => x = j ∧ wb fun y => Q (j * y)) ⟨rfl, q⟩) (fun x p => (hb _ p.2).imp fun y h => ⟨p.1, h⟩) fun x y _ p => by
    obtain ⟨rfl, p⟩ := p
    exact (rd_I (g := fun i j => i * j) (.inl hj)).imp fun z e => e ▸ p)
theorem xmodC {j : Int} {wa : W Int} (hj : 0 < j) (ha : PW S Γ k a cInt wa) (hb : PW S Γ 0 b cInt (fun Q => Q j)) : PW S Γ (k + 0) (.BinOp a .Mod b pos) cInt (fun Q => wa fun x => Q (x % j)) := fun Q q =>
  pd_of (fun X G => pe_op op_mod (tE_ok G) (tE_ok G)) (td_opD (P2 := fun x y => y = j ∧ Q (x % j)) (ha _ q) (fun x p => hb _ ⟨rfl, p⟩) fun x y _ p => by
    obtain ⟨rfl, p⟩ := p
    exact (rd_I (C := fun _ j => 0 < j) (g := fun i j => i % j) hj).imp fun z e => e ▸ p)
theorem xpowC {i j : Int} (h : CPow i j) (ha : PW S Γ 0 a cInt (fun Q => Q i)) (hb : PW S Γ 0 b cInt (fun Q => Q j)) : PW S Γ (0 + 0) (.BinOp a .Pow b pos) cInt (fun Q => Q (i ^ j.toNat)) := fun Q q =>
  pd_of (fun X G => pe_op op_pow (tE_ok G) (tE_ok G)) (td_opD (P2 := fun x y => x = i ∧ y = j) (ha (fun x => x = i) rfl) (fun x p => (hb (fun y => y = j) rfl).imp fun y e => ⟨p, e⟩) fun x y _ p => by
    obtain ⟨rfl, rfl⟩ := p
    exact (rd_I (g := fun i j => i ^ j.toNat) h).imp fun z e => e ▸ q)
/-- [*xs, ..] -/
theorem lS {wa wt : W (List α)} {sp : Pos} (h : PW S Γ k1 e (cSeq c) wa) (hr : PWL S Γ k2 es c wt) (hs : ∀ env : Env, starEach (.Starred e sp :: es) env = (true, eval e env) :: starEach es env) : PWL S Γ (k1 + k2) (.Starred e sp :: es) c (fun Q => wa fun x => wt fun t => Q (x ++ t)) := fun Q q =>
  TDA.imp (pda_of (ta := tStar S.K (tE S e) (tA S es)) (fun X G => by rw [← G.K]; exact pa_star (tE_ok G) (tA_ok G) (hs _)) (ta_starD (h _ q) fun x p => hr _ p)) fun as ⟨x, r, _, ⟨t, e, qt⟩, h3⟩ => ⟨x ++ t, by rw [h3, e, List.map_append], qt⟩
/-! ### fields -/
theorem xfld {C : Addr} {F : Hp → List (Str × V) → ω → Prop} {hm : ∀ {H H' fs y}, Ex H H' → F H fs y → F H' fs y} {f : Str} {y : ω → α} {w : W ω} (hC : Cls S.K C) (hN : NoAttr S.K C f) (hf : ∀ H fs y0, F H fs y0 → ∃ v, fs.lookup f = some v ∧ c.rep H v (y y0)) (h : PW S Γ k e (cIns C F hm) w) (hb : ∀ env : Env, attributeBase e f env (eval e env) = eval e env) : PW S Γ k (.Attribute e f pos) c (fun Q => w fun z => Q (y z)) := fun Q q =>
  (pd_of (te := tFld S.K (tE S e) f) (fun X G => by rw [← G.K]; exact pe_fld (tE_ok G) (hb _)) (td_fld (h _ q) hC hN hf)).imp fun x ⟨z', h1, h2⟩ => by subst h2; exact h1
/-! ### builtins -/
theorem xlen {w : W (List α)} (hg : S.sc.names.lookup ("len" : Str) = some .globalImplicit) (hm : S.mg "len" = none) (h : PW S Γ k e (cSeq c) w) (he : ∀ env : Env, starEach [e] env = (false, eval e env) :: starEach [] env) : PW S Γ k (.Call (.Name "len" pn) [e] [] pos) cInt (fun Q => w fun x => Q (x.length : Int)) :=
  xb1 (fun X G => lenG X G) hg hm PySem.boot_len h (fun _ => rc0 rc_len) he
theorem xlen2 {w : W (α × β)} (hg : S.sc.names.lookup ("len" : Str) = some .globalImplicit) (hm : S.mg "len" = none) (h : PW S Γ k e (cT2 c1 c2) w) (he : ∀ env : Env, starEach [e] env = (false, eval e env) :: starEach [] env) : PW S Γ k (.Call (.Name "len" pn) [e] [] pos) cInt (fun Q => w fun _ => Q 2) :=
  xb1 (fun X G => lenG X G) hg hm PySem.boot_len h (fun _ => rc0 rc_len2) he
theorem xlist {w : W (List α)} (hg : S.sc.names.lookup ("list" : Str) = some .globalImplicit) (hm : S.mg "list" = none) (h : PW S Γ k e (cSeq c) w) (he : ∀ env : Env, starEach [e] env = (false, eval e env) :: starEach [] env) : PWF S Γ k (.Call (.Name "list" pn) [e] [] pos) c (fun Q => w fun x => Q x) :=
  xfy1 (fun X G => listG X G) hg hm PyProof.Rows.boot_list h (fun _ => rf0 rc_list) he
theorem xtuple {w : W (List α)} (hg : S.sc.names.lookup ("tuple" : Str) = some .globalImplicit) (hm : S.mg "tuple" = none) (h : PW S Γ k e (cSeq c) w) (he : ∀ env : Env, starEach [e] env = (false, eval e env) :: starEach [] env) : PW S Γ k (.Call (.Name "tuple" pn) [e] [] pos) (cTup c) (fun Q => w fun x => Q x) :=
  xy1 (fun X G => tupG X G) hg hm PyProof.Rows.boot_tuple h (fun _ => rc0 rc_tuple) he
theorem xall {w : W (List Bool)} (hg : S.sc.names.lookup ("all" : Str) = some .globalImplicit) (hm : S.mg "all" = none) (h : PW S Γ k e (cList cBool) w) (he : ∀ env : Env, starEach [e] env = (false, eval e env) :: starEach [] env) : PW S Γ k (.Call (.Name "all" pn) [e] [] pos) cBool (fun Q => w fun x => Q (x.all id)) :=
  xb1 (fun X G => allG X G) hg hm PyProof.Rows.boot_all h (fun _ => rc0 rc_all) he
theorem xany {w : W (List Bool)} (hg : S.sc.names.lookup ("any" : Str) = some .globalImplicit) (hm : S.mg "any" = none) (h : PW S Γ k e (cList cBool) w) (he : ∀ env : Env, starEach [e] env = (false, eval e env) :: starEach [] env) : PW S Γ k (.Call (.Name "any" pn) [e] [] pos) cBool (fun Q => w fun x => Q (x.any id)) :=
  xb1 (fun X G => anyG X G) hg hm PyProof.Rows.boot_any h (fun _ => rc0 rc_any) he
theorem xsum {w : W (List Int)} (hg : S.sc.names.lookup ("sum" : Str) = some .globalImplicit) (hm : S.mg "sum" = none) (h : PW S Γ k e (cList cInt) w) (he : ∀ env : Env, starEach [e] env = (false, eval e env) :: starEach [] env) : PW S Γ k (.Call (.Name "sum" pn) [e] [] pos) cInt (fun Q => w fun x => Q x.sum) :=
  xb1 (fun X G => sumG X G) hg hm PyProof.Rows.boot_sum h (fun _ => rc0 rc_sum) he
theorem xset {w : W (List Int)} (hg : S.sc.names.lookup ("set" : Str) = some .globalImplicit) (hm : S.mg "set" = none) (h : PW S Γ k e (cSeq cInt) w) (he : ∀ env : Env, starEach [e] env = (false, eval e env) :: starEach [] env) : PW S Γ k (.Call (.Name "set" pn) [e] [] pos) (cSet S.w) (fun Q => w fun x => x.length ≤ 1000 ∧ Q (asc x)) :=
  xy1 (fun X G => setIG X G) hg hm PyProof.Rows.boot_set h (fun _ => rcc fun h => rc_setI h) he
theorem xsortI {w : W (List Int)} (hg : S.sc.names.lookup ("sorted" : Str) = some .globalImplicit) (hm : S.mg "sorted" = none) (h : PW S Γ k e (cList cInt) w) (he : ∀ env : Env, starEach [e] env = (false, eval e env) :: starEach [] env) : PWF S Γ k (.Call (.Name "sorted" pn) [e] [] pos) cInt (fun Q => w fun x => Q (sortI x)) := fun Q q =>
  TDF.imp (pdf_b1 (R := fun ys => ∃ x, (ys.Perm x ∧ ys.Pairwise (· ≤ ·)) ∧ Q (sortI x)) (fun X G => sortIG X G) hg hm PyProof.Rows.boot_sorted (h _ q) (fun x p => rc_sortI.imp fun ys h => ⟨x, h, p⟩) he) fun ys ⟨x, h, p⟩ => by
    have : ys = sortI x := sortBy_eq h.1 h.2 fun a _ b _ e => e
    rw [this]; exact p
/-- draws -/
theorem takeW {P : Program} {wd : World} {mg : Str → Option Value} {base : Heap} {x : Str} {ns : List Str} (F : Cal P wd K mg base x ns 1 (spD (fun b (many : Int) => [.bx b, .d cInt many]) (fun _ => 1) (fun many => 0 < many ∧ many < 1073741824) cInt (fun many x => 0 ≤ x ∧ x < many))) : Cal P wd K mg base x ns 1 (spW (fun b (t : Int × Unit) => [.bx b, .d cInt t.1]) 1 (fun t => wTake t.1) cInt) :=
  F.imp fun f fd h => ⟨fun vs H Q E ⟨a, b, n, Hf, hp, hn, ex, o, bx, q⟩ => h.len vs H Q E ⟨a.1.1, b, n, Hf, hp.1, hn, ex, o, bx, fun v Hf' H' x px => q v Hf' H' x (hp.2 x px)⟩, fun A up s H ar us vs Q E hr he hb hv ⟨a, b, n, Hf, hp, hn, ex, o, bx, q⟩ => h.run A up s H ar us vs Q E hr he hb hv ⟨a.1.1, b, n, Hf, hp.1, hn, ex, o, bx, fun v Hf' H' x px => q v Hf' H' x (hp.2 x px)⟩⟩
end
end DL

set_option Elab.async false
set_option linter.all false
set_option maxRecDepth 100000
set_option maxHeartbeats 4000000
namespace DL
open PySem PySem.Spec L2 StX
abbrev wJ {υ : Type} (b : Bool) (p q : (υ → Prop) → Prop) (k : υ → Prop) : Prop := if b = true then p k else q k
abbrev b2n (b : Bool) : Int := if b = true then 1 else 0
section
variable {S : Stc} {X : Cx} {Γ Γ0 Γ1 Γ2 Γ3 : Ctxt} {k k1 k2 k3 kk kt ke kn kf kr lv : Nat} {A α β γ δ ρ τ ω σ υ : Type} {c : Cod α} {c' : Cod β} {cr : Cod ρ} {rel : Rl ρ} {c1 : Cod α} {c2 : Cod β} {c3 : Cod γ} {c4 : Cod δ} {e a b dd o : Expr} {es : List Expr} {pos pos' pn apos : Pos} {K : PySem.W.Frag} {w : W α} {n : En σ} {l : En τ} {sts rest : List Stmt}
theorem HSR.drop {t : TS} {N B C : Ctxt → Prop} {R : ρ → Prop} (vs : List Nat) (nb : NoBxs Γ vs) (h : HSR t (wipeC Γ vs) k rel N B C R) : HSR t Γ k rel N B C R := fun O n σ Hf H hn S D q1 q2 q3 q4 => by
  have bk := wipeC_keep (noBxs_mem nb)
  exact h O n σ Hf H hn (S.forget vs) D (fun _ _ _ _ a f => q1 _ _ _ _ a ⟨f.sat, bk.trans f.bx, f.ex⟩) (fun _ _ _ _ a f => q2 _ _ _ _ a ⟨f.sat, bk.trans f.bx, f.ex⟩) (fun _ _ _ _ a f => q3 _ _ _ _ a ⟨f.sat, bk.trans f.bx, f.ex⟩) fun _ _ _ _ _ _ a r f => q4 _ _ _ _ _ _ a r ⟨f.sat, bk.trans f.bx, f.ex⟩
theorem PB.of {ws ws' : WS σ τ ρ} (h : PB S Γ k sts rel n l ws') (e : ws' = ws) (hk : k ≤ k2) : PB S Γ k2 sts rel n l ws := by subst e; exact h.le hk
theorem rd_inI0 {x : Int} {xs : List Int} : RD (rIn K false) cInt x (cList cInt) xs cBool (· = decide (x ∈ xs)) := rd_inI
theorem rd_inI1 {x : Int} {xs : List Int} : RD (rIn K true) cInt x (cList cInt) xs cBool (· = !decide (x ∈ xs)) := rd_inI
theorem rd_inIT0 {x : Int} {xs : List Int} : RD (rIn K false) cInt x (cTup cInt) xs cBool (· = decide (x ∈ xs)) := rd_inIT
theorem rd_inIT1 {x : Int} {xs : List Int} : RD (rIn K true) cInt x (cTup cInt) xs cBool (· = !decide (x ∈ xs)) := rd_inIT
theorem rd_inQ1 {x : Int} {xs : List Int} : RD (rIn K true) cInt x (cSeq cInt) xs cBool (· = !decide (x ∈ xs)) := fun Hf H v u e h1 h2 Q q => by
  rcases h2 with h2 | h2
  · exact rd_inI1 Hf H v u e h1 h2 Q q
  · exact rd_inIT1 Hf H v u e h1 h2 Q q
theorem inDL : ∀ X, Good S X → OpR X (compareOp .In) (rInD S.K) := inDG trivial
theorem xintB {x : Bool} (hg : S.sc.names.lookup ("int" : Str) = some .globalImplicit) (hm : S.mg "int" = none) (h : PW S Γ 0 e cBool (fun Q => Q x)) (he : ∀ env : Env, starEach [e] env = (false, eval e env) :: starEach [] env) : PW S Γ 0 (.Call (.Name "int" pn) [e] [] pos) cInt (fun Q => Q (b2n x)) := xof (pintB hg hm h.pd he)
end
end DL
namespace DL
open PySem PySem.Spec L2
theorem hno_of {m : Str} : ∀ {fs : List (Str × V)}, ((fs.map (·.1)).any (m == ·)) = false → fs.lookup m = none
  | [], _ => rfl
  | (f, v) :: r, h => by
    rw [List.map_cons, List.any_cons, Bool.or_eq_false_iff] at h
    rw [List.lookup_cons]
    rw [h.1]
    exact hno_of h.2
end DL
namespace DL
open PySem PySem.Spec L2
section
variable {S : Stc} {X : Cx} {Γ : Ctxt} {k k1 k2 : Nat} {α : Type} {e a b : Expr} {pos pn : Pos} {K : PySem.W.Frag}
end
end DL
namespace DL
open PySem PySem.Spec L2
section
variable {Γ Γ1 Γ2 Γ3 : Ctxt} {α β γ : Type} {c1 : Cod α} {c2 : Cod β} {c3 : Cod γ} {g1 g2 g3 : TG}
end
section
variable {S : Stc} {Γ Γ1 Γ2 Γ3 : Ctxt} {α β γ : Type} {c1 : Cod α} {c2 : Cod β} {c3 : Cod γ} {a b d : Expr} {pos : Pos} {K : PySem.W.Frag}
end
section
variable {S : Stc} {α : Type} {c : Cod α}
theorem notInDL : ∀ X, Good S X → OpR X (compareOp .NotIn) (rNotInD S.K) := fun X G => by rw [← G.K]; exact op_notInD (by have := G.room.un; omega)
theorem rd_notInD [DecidableEq α] {K : PySem.W.Frag} {x : α} {xs : List α} (q : EqC c) (hn : q.n ≤ 63) : RD (rNotInD K) c x (cList c) xs cBool (· = !decide (x ∈ xs)) := fun Hf H v u e h1 h2 Q k =>
  rd_inD q hn Hf H v u e h1 h2 (fun v H' => ∃ b, v = .bl b ∧ Q (.bl (!b)) H') (fun z Hf' H' w pz rz f ex => by
    obtain rfl := rz
    exact ⟨z, rfl, k _ Hf' H' _ (by rw [pz]) rfl f ex⟩) |> fun ⟨d, ds, a1, a2, a3, a4, b, eb, qb⟩ => ⟨d, ds, a1, a2, a3, a4, by
    have : b = ds.any fun z => PyData.eqv z d := by injection eb with eb; exact eb.symm
    rw [← this]; exact qb⟩
end
end DL

set_option Elab.async false
set_option linter.all false
set_option maxRecDepth 100000
set_option maxHeartbeats 4000000
namespace DL
open PySem PySem.Spec L2
/-! ### dicts whose keys are tuples: an entry is its key, the key's own tuple, its value -/
abbrev TKey := List L2.Key
abbrev E3 := TKey × Addr × V
abbrev RX : List E3 → List (TKey × Addr × Value) → Prop := Paired fun p y => p.1 = y.1 ∧ p.2.1 = y.2.1 ∧ RelV p.2.2 y.2.2
structure Ents (P : Program) (w : World) (h : Heap) (D : Addr) (kvs : List E3) (ob : Obj) (es : Array DictEntry) (ep : Nat) (ys : List (TKey × Addr × Value)) : Prop where
  rel : RX kvs ys
  here : h.get? D = some ob
  ex : ob.ExactDict
  dat : ob.data = .dict es ep
  ents : es.toList = ys.map (entryOfKey (tupleKind (mixKind P w)))
  nd : (ys.map (·.1)).Nodup
def DXat (P : Program) (w : World) (h : Heap) (D : Addr) (kvs : List E3) : Prop := (D == sysModules) = false ∧ kvs.length ≤ sizeLine ∧ ∃ ob es ep ys, Ents P w h D kvs ob es ep ys
/-- the dict at D -/
def dX (P : Program) (w : World) (D : Addr) (kvs : List E3) : HO := .ext fun h => DXat P w h D kvs
/-- the tuples of the keys -/
def KeysIn (H : Hp) (kvs : List E3) : Prop := ∀ p ∈ kvs, H p.2.1 = some (.tup (p.1.map kV))
theorem KeysIn.ex {H G : Hp} {kvs : List E3} (k : KeysIn H kvs) (e : Ex H G) : KeysIn G kvs := fun p hp => e _ _ (k p hp)
def valX (kvs : List E3) (k : TKey) : Option V := (kvs.find? fun p => decide (p.1 = k)).map (·.2.2)
def putX (kvs : List E3) (k : TKey) (b : Addr) (v : V) : List E3 := if (valX kvs k).isSome = true then kvs.map (fun p => if p.1 = k then (p.1, p.2.1, v) else p) else kvs ++ [(k, b, v)]
theorem length_putX (kvs : List E3) (k : TKey) (b : Addr) (v : V) : (putX kvs k b v).length ≤ kvs.length + 1 := by
  unfold putX
  split
  · rw [List.length_map]; exact Nat.le_succ _
  · rw [List.length_append]; exact Nat.le_refl _
theorem KeysIn.put {H : Hp} {kvs : List E3} (k : KeysIn H kvs) {t : TKey} {b : Addr} (hb : H b = some (.tup (t.map kV))) (v : V) : KeysIn H (putX kvs t b v) := by
  unfold putX
  split
  · intro p hp
    obtain ⟨p0, m, rfl⟩ := List.mem_map.mp hp
    split
    · exact k p0 m
    · exact k p0 m
  · intro p hp
    rcases List.mem_append.mp hp with m | m
    · exact k p m
    · rw [List.mem_singleton.mp m]; exact hb
theorem RX.val {kvs : List E3} {ys : List (TKey × Addr × Value)} (r : RX kvs ys) (k : TKey) : (valX kvs k = none ∧ atKey ys k = none) ∨ ∃ v y, valX kvs k = some v ∧ atKey ys k = some y ∧ RelV v y.2 := by
  induction r with
  | nil => exact .inl ⟨rfl, rfl⟩
  | @cons p y ps qs hd t ih =>
    unfold valX atKey at ih ⊢
    rw [List.find?_cons, List.find?_cons, ← hd.1]
    by_cases e : p.1 = k
    · rw [decide_eq_true e]; exact .inr ⟨_, _, rfl, rfl, hd.2.2⟩
    · rw [decide_eq_false e]; exact ih
theorem RX.subst {kvs : List E3} {ys : List (TKey × Addr × Value)} (r : RX kvs ys) (k : TKey) {v : V} {u : Value} (rv : RelV v u) : RX (kvs.map fun p => if p.1 = k then (p.1, p.2.1, v) else p) (ys.map (putAt k u)) := by
  induction r with
  | nil => exact .nil
  | @cons p y ps qs hd t ih =>
    refine .cons ?_ ih
    unfold putAt
    dsimp only
    by_cases e : p.1 = k
    · rw [if_pos e, if_pos (hd.1.symm.trans e)]; exact ⟨hd.1, hd.2.1, rv⟩
    · rw [if_neg e, if_neg (fun z => e (hd.1.trans z))]; exact hd
theorem RX.put {kvs : List E3} {ys : List (TKey × Addr × Value)} (r : RX kvs ys) (k : TKey) (b : Addr) {v : V} {u : Value} (rv : RelV v u) : RX (putX kvs k b v) (storedH ys k b u) := by
  unfold putX storedH
  rcases r.val k with ⟨e1, e2⟩ | ⟨v0, y0, e1, e2, _⟩
  · rw [e1, e2, if_neg (by simp), if_neg (by simp)]; exact Paired.snoc r ⟨rfl, rfl, rv⟩
  · rw [e1, e2]; exact r.subst k rv
theorem RX.get {kvs : List E3} {ys : List (TKey × Addr × Value)} (r : RX kvs ys) {i : Nat} {p : E3} (h : kvs[i]? = some p) : ∃ y, ys[i]? = some y ∧ p.1 = y.1 ∧ p.2.1 = y.2.1 ∧ RelV p.2.2 y.2.2 := by
  induction r generalizing i with
  | nil => simp at h
  | @cons p0 y0 ps qs hd t ih =>
    cases i with
    | zero =>
      rw [List.getElem?_cons_zero] at h
      injection h with h
      subst h
      exact ⟨y0, rfl, hd⟩
    | succ j => exact ih (i := j) h
section
variable {P : Program} {w : World} {H : Hp} {h : Heap} {D : Addr} {kvs : List E3}
theorem DXat.dict (x : DXat P w h D kvs) (ok : HOk P w H h) (hk : KeysIn H kvs) : ∃ ys, RX kvs ys ∧ h.DictOfH (tupleKind (mixKind P w)) D ys := by
  obtain ⟨_, _, ob, es, ep, ys, e⟩ := x
  have keys : ∀ {l : List E3} {m : List (TKey × Addr × Value)}, RX l m → KeysIn H l → ∀ y ∈ m, (tupleKind (mixKind P w)).is h y.1 y.2.1 := by
    intro l m r
    induction r with
    | nil => intro _ y hy; cases hy
    | @cons p y ps qs hd t ih =>
      intro kk z hz
      rcases List.mem_cons.mp hz with e | hz
      · rw [e, ← hd.1, ← hd.2.1]; exact key_of ok (kk p List.mem_cons_self)
      · exact ih (fun p hp => kk p (List.mem_cons_of_mem _ hp)) z hz
  exact ⟨ys, e.rel, ob, es, ep, e.here, e.ex, e.dat, e.ents, keys e.rel hk, e.nd⟩
theorem DXat.ofDict {ys : List (TKey × Addr × Value)} (hs : (D == sysModules) = false) (hl : kvs.length ≤ sizeLine) (r : RX kvs ys) (d : h.DictOfH (tupleKind (mixKind P w)) D ys) : DXat P w h D kvs := by
  obtain ⟨ob, es, ep, h1, h2, h3, h4, _, h5⟩ := d
  exact ⟨hs, hl, ob, es, ep, ys, r, h1, h2, h3, h4, h5⟩
theorem dX_ok (x : DXat P w h D kvs) : ObjOk P w H h D (dX P w D kvs) := by
  refine ⟨x, ?_, fun h1 h2 y k => ?_⟩
  · obtain ⟨_, _, ob, _, _, _, e⟩ := x; exact ⟨ob, e.here⟩
  · obtain ⟨a, b, ob, es, ep, ys, e⟩ := y
    exact ⟨a, b, ob, es, ep, ys, e.rel, k ob e.here, e.ex, e.dat, e.ents, e.nd⟩
theorem dX_rd (ok : HOk P w H h) (e : Rd H D (dX P w D kvs)) : DXat P w h D kvs := (rd_of ok e).1
theorem dX_new (h : Heap) (hb : sysModules < h.objs.size) : DXat P w (h.push { cls := .type "dict", data := .dict #[] }) h.objs.size [] :=
  .ofDict (beq_eq_false_iff_ne.mpr fun z => by rw [z] at hb; exact Nat.lt_irrefl _ hb) (Nat.zero_le _) .nil (Heap.DictOfH.new h)
end
section
variable {X : Cx} {pins : List (Addr × Obj)} {σ : L2.St} {H : Hp} {s : Shared} {D b : Addr} {v : V} {u r : Value} {A : Around} {E : Value → Shared → Prop} {kvs : List E3} {k : TKey}
theorem dx_get {Q : Value → Shared → Prop} (hu : A.units + 1 < cLine) (I : Inv X pins σ H s) (e : Rd H D (dX X.prog X.w D kvs)) (hk : KeysIn H kvs) (hb : H b = some (.tup (k.map kV))) (l : valX kvs k = some v) (q : ∀ u s', Inv X pins σ H s' → RelV v u → Q u s') :
    wpAny (model X.prog X.w) A (getItem (.ref D) (.ref b)) Q E s := by
  obtain ⟨ys, rx, dd⟩ := (dX_rd I.hok e).dict I.hok hk
  rcases rx.val k with ⟨z, _⟩ | ⟨v0, y, e1, e2, rv⟩
  · rw [l] at z; cases z
  · obtain rfl : v = v0 := Option.some.inj (l.symm.trans e1)
    exact wpAny_getItem_heap (tupleKind_room_in1 hu) (key_of I.hok hb) dd e2 (q _ _ (I.tok _) rv)
/-- the dict behind a store -/
theorem dx_stored {h' : Heap} {t : Nat} (I : Inv X pins σ H s) (e : H D = some (dX X.prog X.w D kvs)) (hl : kvs.length < sizeLine) (rv : RelV v r) {ys : List (TKey × Addr × Value)} (rx : RX kvs ys)
    (dd : h'.DictOfH (tupleKind (mixKind X.prog X.w)) D (storedH ys k b r)) (hs : Heap.SameBut D s.heap h') : Inv X pins σ (upd H D (dX X.prog X.w D (putX kvs k b v))) { s with heap := h', toks := t } := by
  have x := dX_rd I.hok (.inl e)
  have len := length_putX kvs k b v
  have z : DXat X.prog X.w h' D (putX kvs k b v) := .ofDict x.1 (by omega) (rx.put k b rv) dd
  obtain ⟨_, _, ob, _, _, _, en⟩ := id z
  exact d_write I (by rw [e]; exact True.intro) hs ⟨ob, en.here⟩ (dX_ok z)
theorem dx_setItem {Q : Unit → Shared → Prop} (hu : A.units + 1 < cLine) (I : Inv X pins σ H s) (e : H D = some (dX X.prog X.w D kvs)) (hk : KeysIn H kvs) (hb : H b = some (.tup (k.map kV))) (hl : kvs.length < sizeLine) (rv : RelV v r)
    (q : ∀ s', Inv X pins σ (upd H D (dX X.prog X.w D (putX kvs k b v))) s' → Q () s') : wpAny (model X.prog X.w) A (setItem (.ref D) (.ref b) r) Q E s := by
  obtain ⟨ys, rx, dd⟩ := (dX_rd I.hok (.inl e)).dict I.hok hk
  have hz : ys.length ≤ sizeLine := by rw [← Paired.length rx]; exact Nat.le_of_lt hl
  exact wpAny_setItem_heap (hsz := hz) (tupleKind_room_in1 hu) (key_of I.hok hb) dd fun h' dd' hs => q _ (dx_stored I e hl rv rx dd' hs)
theorem dx_dictSet {Q : Unit → Shared → Prop} (hu : A.units + 1 < cLine) (I : Inv X pins σ H s) (e : H D = some (dX X.prog X.w D kvs)) (hk : KeysIn H kvs) (hb : H b = some (.tup (k.map kV))) (hl : kvs.length < sizeLine) (rv : RelV v r)
    (q : ∀ s', Inv X pins σ (upd H D (dX X.prog X.w D (putX kvs k b v))) s' → Q () s') : wpAny (model X.prog X.w) A (dictSet D (.ref b) r) Q E s := by
  obtain ⟨ys, rx, dd⟩ := (dX_rd I.hok (.inl e)).dict I.hok hk
  have hz : ys.length ≤ sizeLine := by rw [← Paired.length rx]; exact Nat.le_of_lt hl
  exact wpAny_dictSet_heap (hsz := hz) ((Nat.lt_of_succ_lt hu)) (key_of I.hok hb) dd fun h' dd' hs => q _ (dx_stored I e hl rv rx dd' hs)
theorem dx_type {s : Shared} (I : Inv X pins σ H s) (e : Rd H D (dX X.prog X.w D kvs)) : s.TypeIs (.ref D) "dict" := by
  obtain ⟨_, _, ob, _, _, _, en⟩ := dX_rd I.hok e
  exact ⟨ob, en.here, en.ex.1⟩
end
/-! ### what the text says of them -/
/-- d[t] -/
def tXGet (P : Program) (w : World) (td ty : TE) : TE := fun σ H Q => td σ H fun x H1 => ty σ H1 fun y H2 => ∃ D kvs k b v, x = .ref D ∧ y = .ref b ∧ Rd H2 D (dX P w D kvs) ∧ KeysIn H2 kvs ∧ H2 b = some (.tup (k.map kV)) ∧ valX kvs k = some v ∧ Q v H2
/-- d[t] = v -/
def sXPut (P : Program) (w : World) (td ty tv : TE) : TS := fun D σ H => tv σ H fun v H1 => td σ H1 fun x H2 => ty σ H2 fun y H3 => ∃ a kvs k b, x = .ref a ∧ y = .ref b ∧ H3 a = some (dX P w a kvs) ∧ KeysIn H3 kvs ∧ H3 b = some (.tup (k.map kV)) ∧ kvs.length < sizeLine ∧ D.nx σ (upd H3 a (dX P w a (putX kvs k b v)))
/-- {} -/
def tXNew (P : Program) (w : World) : TE := fun _ H Q => ∀ p, H p = none → Q (.ref p) (upd H p (dX P w p []))
section
variable {X : Cx} {o i value : Expr} {pos pos' : Pos} {td ty tv : TE}
theorem pe_xget (hu : X.A.units + 1 < cLine) (ho : PE X o td) (hi : PE X i ty) (hs : NoSl i) : PE X (.Subscript o i pos) (tXGet X.prog X.w td ty) := by
  refine ⟨fun pins s σ H Q I hw => subD_of PySem.F.slot_dict_getitem.lookup hs (thn (ho.run pins s σ H _ I hw) ?_)⟩
  rintro u s1 ⟨x, H1, I1, rx, q1⟩
  refine thn (hi.run pins s1 σ H1 _ I1 q1) ?_
  rintro iv s2 ⟨y, H2, I2, ry, D, kvs, k, b, v, rfl, rfl, g, hk, hb, l, q2⟩
  cases (show u = Value.ref D from rx)
  cases (show iv = Value.ref b from ry)
  exact ⟨dx_type I2 g, dx_get hu I2 g hk hb l fun w' s3 I3 rw' => ⟨v, H2, I3, rw', q2⟩⟩
theorem ps_xput (hu : X.A.units + 1 < cLine) (ho : PE X o td) (hi : PE X i ty) (hv : PE X value tv) (hs : swapsWith value (some (.Subscript o i pos')) pos.line X.env = pure false) :
    PS X (.Assign [.Subscript o i pos'] value pos) (sXPut X.prog X.w td ty tv) := by
  refine ⟨fun pins s σ H En I hw => wpAny_Assign_Subscript (thn (hv.run pins s σ H _ I hw) ?_) hs⟩
  rintro r s1 ⟨v, H1, I1, rv, q1⟩
  refine thn (ho.run pins s1 σ H1 _ I1 q1) ?_
  rintro u s2 ⟨x, H2, I2, rx, q2⟩
  refine thn (hi.run pins s2 σ H2 _ I2 q2) ?_
  rintro iv s3 ⟨y, H3, I3, ry, a, kvs, k, b, rfl, rfl, e, hk, hb, hl, q3⟩
  cases (show u = Value.ref a from rx)
  cases (show iv = Value.ref b from ry)
  exact dx_setItem hu I3 e hk hb hl rv fun s4 I4 => ⟨σ, _, I4, q3⟩
theorem pe_xnew : PE X (.Dict [] [] pos) (tXNew X.prog X.w) := ⟨fun pins s σ H Q I q =>
  wpAny_Dict_empty ⟨.ref s.heap.objs.size, _, I.laid (o := dX X.prog X.w s.heap.objs.size []) (t' := s.toks) (fun _ _ e => Heap.get?_push_of_some _ e) (Nat.le_refl _) (dX_ok (dX_new s.heap I.big)), rfl, q _ (I.hok.fresh (Nat.le_refl _))⟩⟩
/-- what was made stays as it is from now on, its very object -/
def tLk (te : TE) : TE := fun σ H Q => te σ H fun v H1 => ∃ a u, v = .ref a ∧ H1 a = some u ∧ Mut (some u) ∧ ∀ ob, Q v (upd H1 a (.frz ob u))
theorem pe_lk {e : Expr} {te : TE} (h : PE X e te) : PE X e (tLk te) := by
  refine ⟨fun pins s σ H Q I hw => thn (h.run pins s σ H _ I hw) ?_⟩
  rintro v s1 ⟨x, H1, I1, r, a, u, rfl, e1, mu, q⟩
  obtain ⟨ob, I2⟩ := I1.lock e1 mu
  exact ⟨.ref a, _, I2, r, q ob⟩
/-- .. the thing at slot i -/
def tLkS (i : Nat) (ts : TS) : TS := fun D σ H => ∃ a u, σ[i]? = some (some (.ref a)) ∧ H a = some u ∧ Mut (some u) ∧ ∀ ob, ts D σ (upd H a (.frz ob u))
theorem pss_lk {sts : List Stmt} {ts : TS} (j : Nat) (h : PSs X sts ts) : PSs X sts (tLkS j ts) := by
  refine ⟨fun pins s σ H D I hw => ?_⟩
  obtain ⟨a, u, _, e1, mu, q⟩ := hw
  obtain ⟨ob, I2⟩ := I.lock e1 mu
  exact h.run pins s σ _ D I2 (q ob)
end
end DL

set_option Elab.async false
set_option linter.all false
set_option maxRecDepth 100000
set_option maxHeartbeats 4000000
namespace DL
open PySem PySem.Spec L2
/-! ### walks over a dict that stays: its pairs, its keys -/
section
variable {X : Cx} {pins : List (Addr × Obj)} {σ : L2.St} {H : Hp} {s : Shared} {D : Addr} {ob : Obj} {kvs : List E3}
structure Lkd (X : Cx) (s : Shared) (D : Addr) (ob : Obj) (kvs : List E3) (es : Array DictEntry) (ep : Nat) : Prop where
  ne : (D == sysModules) = false
  len : kvs.length ≤ sizeLine
  raw : s.heap.DictRaw D es ep
  dat : ob.data = .dict es ep
  size : es.size = kvs.length
  ent : ∀ i p (hi : i < es.size), kvs[i]? = some p → ∃ u, es[i].key = .ref p.2.1 ∧ es[i].val = u ∧ RelV p.2.2 u
theorem frzX (I : Inv X pins σ H s) (h : H D = some (.frz ob (dX X.prog X.w D kvs))) : ∃ es ep, Lkd X s D ob kvs es ep := by
  obtain ⟨g, ⟨ne, len, ob', es, ep, ys, en⟩, _⟩ := I.hok D _ h
  obtain rfl : ob = ob' := Option.some.inj (g.symm.trans en.here)
  have z : es.size = ys.length := size_of_entries en.ents
  refine ⟨es, ep, ne, len, ⟨ob, g, en.ex, en.dat⟩, en.dat, z.trans (Paired.length en.rel).symm, fun i p hi hp => ?_⟩
  obtain ⟨y, hy, _, a2, a3⟩ := en.rel.get hp
  have q := entry_at en.ents i
  rw [hy, Array.getElem?_eq_getElem hi] at q
  have q2 : es[i] = entryOfKey (tupleKind (mixKind X.prog X.w)) y := Option.some.inj q
  exact ⟨y.2.2, by rw [q2, a2]; rfl, by rw [q2]; rfl, a3⟩
theorem lkd_same {X X' : Cx} {s s' : Shared} {es es' : Array DictEntry} {ep ep' : Nat} (a : Lkd X s D ob kvs es ep) (b : ob.data = .dict es' ep') : es' = es ∧ ep' = ep := by
  rw [a.dat] at b
  cases b
  exact ⟨rfl, rfl⟩
end
/-- each pair is a new tuple of the key's own tuple and the value -/
def Itx (P : Program) (w : World) (D : Addr) (ob : Obj) (kvs : List E3) : It where
  go := fun i H => H D = some (.frz ob (dX P w D kvs)) ∧ i < kvs.length
  yld := fun i H x H' => ∃ T p, kvs[i]? = some p ∧ x = .ref T ∧ H T = none ∧ H' = upd H T (.tup [.ref p.2.1, p.2.2])
  stop := fun i H => H D = some (.frz ob (dX P w D kvs)) ∧ kvs.length ≤ i
section
variable {P : Program} {w : World} {K : PySem.W.Frag} {D : Addr} {ob : Obj} {kvs : List E3} {es : Array DictEntry} {ep : Nat}
theorem turnX {elts : List Expr} {kk : Nat} {tpos : Pos} (it : Addr) (dat : ob.data = .dict es ep) : Turn P w K (.Tuple elts kk tpos) (Itx P w D ob kvs) [it] it (fun i h => ∃ a b, IsItemIter h it D i es.size ep a b) where
  mem := List.mem_singleton.mpr rfl
  obj := fun i h ⟨a, b, e⟩ c hc => by
    rw [List.mem_singleton.mp hc]
    exact ⟨_, e, fun v z => nomatch z⟩
  keep := fun i h h' ⟨a, b, e⟩ k => ⟨a, b, k it (List.mem_singleton.mpr rfl) _ e⟩
  item := by
    intro X e1 e2 e3 hc i pins s σ H E I fp ⟨a, b, hit⟩ ⟨hD, hi⟩
    subst e1 e2 e3
    obtain ⟨es', ep', L⟩ := frzX I hD
    obtain ⟨rfl, rfl⟩ := lkd_same (X' := X) (s' := s) L dat
    have hsz : i < es.size := by rw [L.size]; exact hi
    obtain ⟨p, hp⟩ : ∃ p, kvs[i]? = some p := ⟨kvs[i], List.getElem?_eq_getElem hi⟩
    obtain ⟨u, k1, k2, k3⟩ := L.ent i p hsz hp
    refine wpAny_pyNext_items_item_raw hit L.raw hsz fun h' out tup size old => ⟨_, rfl, wpAny_letOwnedTupleGo_items (s := { s with heap := h' }) out fun h'' back but => ?_⟩
    rw [k1, k2] at tup
    have below : it < s.heap.objs.size := Heap.lt_size hit
    have tup2 : h''.get? s.heap.objs.size = some { cls := .type "tuple", data := .seq #[.ref p.2.1, u] } := (but.2 _ (Nat.ne_of_gt below)).trans tup
    have fresh : H s.heap.objs.size = none := I.hok.fresh (Nat.le_refl _)
    have obj : ObjOk X.prog X.w (upd H s.heap.objs.size (.tup [.ref p.2.1, p.2.2])) h'' s.heap.objs.size (.tup [.ref p.2.1, p.2.2]) :=
      ⟨(by show 2 ≤ sizeLine; decide), [.ref p.2.1, u], .cons rfl (.cons k3 .nil), _, tup2, rfl, _, rfl⟩
    refine ⟨.ref s.heap.objs.size, _, I.turnedNew (t' := s.toks) (ch := [it]) (fun c oc hc e => ?_) fp (Nat.le_refl _) obj, rfl, ⟨_, p, hp, rfl, fresh, rfl⟩, ⟨_, _, back⟩, fun c hc => ?_⟩
    · have nc : c ≠ it := fun z => hc (List.mem_singleton.mpr z)
      exact (but.2 c nc).trans (old c oc nc e)
    · rw [List.mem_singleton.mp hc, upd_ne (Nat.ne_of_lt below)]
      exact (fp it (List.mem_singleton.mpr rfl)).1
  done := by
    intro X e1 e2 e3 hc i pins s σ H E I fp ⟨a, b, hit⟩ ⟨hD, hi⟩
    subst e1 e2 e3
    obtain ⟨es', ep', L⟩ := frzX I hD
    obtain ⟨rfl, rfl⟩ := lkd_same (X' := X) (s' := s) L dat
    obtain ⟨f0, f1, f2, f3, f4, f5⟩ := fp it (List.mem_singleton.mpr rfl)
    exact wpAny_pyNext_items_end_raw (I.ok.hd hc) hit L.raw (by rw [L.size]; exact hi) fun h' but => ⟨rfl, I.turned (t' := s.toks) (fun c oc nc e => but c oc nc e) f0 f1 f3 f4 f5⟩
  self := fun A i s Q E ⟨a, b, e⟩ q => PySem.W.kcp_self e q
end
def iItemsX (P : Program) (w : World) (td : TE) : TI := fun σ H R => td σ H fun x H1 => ∃ D ob kvs, x = .ref D ∧ H1 D = some (.frz ob (dX P w D kvs)) ∧ R (Itx P w D ob kvs) H1
section
variable {X : Cx} {tg e : Expr} {td : TE} {apos cpos : Pos}
theorem pi_itemsX {elts : List Expr} {kk : Nat} {tpos : Pos} (he : PE X e td) (hb : attributeBase e "items" X.env (eval e X.env) = eval e X.env := by rfl) (hl : (apos.endLine == cpos.line) = true := by rfl) :
    PI X (.Tuple elts kk tpos) (.Call (.Attribute e "items" apos) [] [] cpos) (iItemsX X.prog X.w td) := by
  refine ⟨fun pins s σ H R I q => wpAny_Call_method (T := "dict") (id := "dict.items") hb rfl hl F.plainAttrs_dict F.slot_dict_items F.type_dict_items (thn (he.run pins s σ H _ I q) ?_)⟩
  rintro u s1 ⟨x, H1, I1, rx, D, ob, kvs, rfl, hD, q⟩
  cases (show u = Value.ref D from rx)
  obtain ⟨es, ep, L⟩ := frzX I1 hD
  obtain ⟨o, ho, hx, hd⟩ := id L.raw
  refine ⟨⟨o, ho, hx.1⟩, fun a e => by cases e; exact ⟨o, ho, hx.2.1⟩, ?_⟩
  have J : Inv X pins σ H1 { s1 with heap := s1.heap.push { cls := .type "dict_items", data := .fields #[.ref D] } } := I1.kept (t' := s1.toks) fun b oc e => Heap.get?_push_of_some _ e
  show wpAny _ _ (callWith cpos (.builtin "dict.items") [.ref D] [] []) _ X.xe s1
  refine method_meetsIn F.slot_dict_items F.entry_dict_items rfl (PySem.evalArgs_none ⟨rfl, ⟨o, ho, hx.1⟩, F.args_dict_items_1 _, _, meets_dict_items_raw D L.ne, ⟨es, ep, L.raw⟩, ?_⟩)
  exact wpAny_pyIter_items_raw (d := D) (es := es) (ep := ep) ⟨_, Heap.get?_push_size _ rfl, rfl, rfl⟩ (L.raw.at fun oc e => Heap.get?_push_of_some _ e) (pi_one (tk := s1.toks) J _ (turnX _ L.dat) ⟨.none, .none, Heap.get?_push_size _ rfl⟩ q)
end
end DL

set_option Elab.async false
set_option linter.all false
set_option maxRecDepth 100000
set_option maxHeartbeats 4000000
namespace DL
open PySem PySem.Spec L2
/-! ### {t: v for .. in ..}, the keys tuples -/
def tDcX (P : Program) (w : World) (wi : TI) (g : TG) (tk tv : TE) (vs : List Nat) : TE := fun σ H Q => wi σ H fun J H1 => ∀ D, H1 D = none → ∃ B : Nat → Nat → Hp → Prop, (∃ m, B 0 m (upd H1 D (dX P w D []))) ∧ ∀ i m H, B i m H →
  (J.stop i H ∧ Q (.ref D) H) ∨ (J.go i H ∧ ∃ B' : Hp → Prop, (∀ G, B' G → ∃ m', m' < m ∧ B (i + 1) m' G) ∧ ∀ x G, J.yld i H x G → g x (wipe σ vs) G fun σ2 G2 => wipe σ2 vs = wipe σ vs ∧
    tk σ2 G2 fun y G3 => tv σ2 G3 fun z G4 => ∃ kvs k b, y = .ref b ∧ G4 D = some (dX P w D kvs) ∧ KeysIn G4 kvs ∧ G4 b = some (.tup (k.map kV)) ∧ kvs.length < sizeLine ∧ B' (upd G4 D (dX P w D (putX kvs k b z))))
section
variable {X : Cx} {pins : List (Addr × Obj)} {σ : L2.St} {H : Hp} {s : Shared} {kx vx tg iter : Expr} {scope : Scope} {own : List (Str × Nat)} {pos : Pos} {wi : TI} {g : TG} {tk tv : TE}
/-- the frame of the block -/
abbrev blkEnv (X : Cx) (scope : Scope) (s : Shared) : Env := compEnvC scope (cellsFrom (s.heap.objs.size + 1) scope.names (cloFrom X.env.cells scope.names [])) s.heap.objs.size X.env
/-- the iterator's objects, within the block -/
theorem fp_in {Y : Cx} {fp : List Addr} {σ' : L2.St} {G : Hp} {s' : Shared} (J : Inv Y [] σ' G s') (hx : Y.ex = fp) (hpn : Y.pn = []) (hn : ∀ b ∈ fp, G b = none) : ∀ b ∈ fp, FpOk Y [] G b := fun b hb => by
  subst hx
  refine ⟨hn b hb, (J.ok.exf b hb).1, J.ok.exfs b hb, .inl hb, fun x c e => (J.ok.exf b hb).2 x c e, fun p hp => ?_⟩
  rw [hpn] at hp
  cases hp
theorem dcX_core {pos' : Pos} {use : Option (Value → Sem Unit)} {Qf : Value → Shared → Prop} {Q : VK} (I : Inv X pins σ H s) (hw : tDcX X.prog X.w wi g tk tv (own.map (·.2)) σ H Q)
    (hend : ∀ D C s' m G, Inv X pins σ G s' → Q (.ref D) G → s'.heap.Ns C m → FpOk X pins G C → compPost (model X.prog X.w) X.A X.xe use Qf (.ref D) C (.ok .next) s') (hu : X.A.units + 1 < cLine) (hc : X.calm = true) (hN : X.N.Nodup) (hi : PI X tg iter wi) (ok : BlkOk X.N X.env.scope scope own)
    (hg : ∀ (s : Shared) (H : Hp) (C : Addr) (cl : List (Str × Addr)) (fp : List Addr), PG (X.blk s H scope (compEnvC scope cl C X.env) fp) tg g)
    (hk : ∀ (s : Shared) (H : Hp) (C : Addr) (cl : List (Str × Addr)) (fp : List Addr), PE (X.blk s H scope (compEnvC scope cl C X.env) fp) kx tk)
    (hv : ∀ (s : Shared) (H : Hp) (C : Addr) (cl : List (Str × Addr)) (fp : List Addr), PE (X.blk s H scope (compEnvC scope cl C X.env) fp) vx tv) (hf : ∀ x, foldedSetIterable iter X.env x = pure x) :
    wpAny (model X.prog X.w) X.A (comprehension (.DictComp kx vx [⟨tg, iter, [], 0⟩] scope pos) scope X.env pos' newDict false (eval iter X.env) use) Qf X.xe s := by
  have cells : ∀ y ∈ scope.names, y.2 = .free → ∃ c, X.env.cells.lookup y.1 = some c := fun y hy e => I.ok.has _ (ok.free y hy e)
  refine wpAny_comprehension_free (use := use) rfl hf (closure_ok cells) ok.kind (fun y hy e => (ok.uniq y hy).trans (by rw [e])) (thn (hi.run pins s σ H _ I hw) fun xv s1 h1 => thn h1 ?_)
  rintro itv s2 ⟨it, fp, tn, J, H2, rfl, I2, T, st2, f2, q⟩
  -- the new dict stands at s2's end
  let D := s2.heap.objs.size
  have newD : H2 D = none := I2.hok.fresh (Nat.le_refl _)
  obtain ⟨B, ⟨m0, b0⟩, turn⟩ := q D newD
  refine wpAny_newObj_type (newEnv_comp ?_)
  let s3 : Shared := { s2 with heap := s2.heap.push { cls := .type "dict", data := .dict #[] } }
  let G0 : Hp := upd H2 D (dX X.prog X.w D [])
  have I3 : Inv X pins σ G0 s3 := I2.laid (t' := s2.toks) (fun b o e => Heap.get?_push_of_some _ e) (Nat.le_refl _) (dX_ok (dX_new s2.heap I2.big))
  have below : ∀ b ∈ fp, b < D := fun b hb => (T.obj 0 _ st2 b hb).elim fun o e => Heap.lt_size e.1
  have none0 : ∀ b ∈ fp, G0 b = none := fun b hb => by
    show upd H2 D _ b = none
    rw [upd_ne (Nat.ne_of_lt (below b hb))]
    exact (f2 b hb).1
  have f3 : ∀ b ∈ fp, FpOk X pins G0 b ∧ b < s3.heap.objs.size := fun b hb => ⟨⟨none0 b hb, (f2 b hb).2⟩, by
    show b < (s2.heap.push _).objs.size
    rw [Heap.size_push]
    exact Nat.lt_succ_of_lt (below b hb)⟩
  have st3 : tn 0 s3.heap := T.keep 0 _ _ st2 fun b _ o e => Heap.get?_push_of_some _ e
  have I4 := block_start I3 ok hN f3
  let Y : Cx := X.blk s3 G0 scope (blkEnv X scope s3) fp
  let s4 : Shared := { s3 with heap := pushCells (s3.heap.push { cls := .type "dict", data := .dict #[] }) scope.names }
  have st4 : tn 0 s4.heap := T.keep 0 _ _ st3 fun b _ o e => pushCells_keeps _ _ _ _ (Heap.get?_push_of_some _ e)
  have I4' : Inv Y [] (wipe σ (own.map (·.2))) G0 s4 := I4
  have wl : (wipe σ (own.map (·.2))).length = σ.length := wipe_length _ _
  have loop : codeAny (model X.prog X.w) X.A (.compLoop (.DictComp kx vx [⟨tg, iter, [], 0⟩] scope pos) 0 (.ref it) (.ref D) (blkEnv X scope s3)) (compPost (model X.prog X.w) X.A X.xe use Qf (.ref D) s3.heap.objs.size) s4 := by
    refine compLoop_anyD (fun m s' => ∃ i G, Inv Y [] (wipe σ (own.map (·.2))) G s' ∧ tn i s'.heap ∧ (∀ b ∈ fp, G b = none) ∧ B i m G) ?_ m0 ⟨0, G0, I4', st4, none0, b0⟩
    rintro m s5 ⟨i, G5, I5, st5, n5, w5⟩
    have fp5 : ∀ b ∈ fp, FpOk Y [] G5 b := fp_in I5 rfl rfl n5
    rcases turn i m G5 w5 with ⟨stop, fin⟩ | ⟨go, B', hB', step⟩
    · refine thnF (T.done Y rfl rfl rfl hc i [] s5 _ G5 (fun _ _ => False) I5 fp5 st5 stop) ?_
      rintro r s6 ⟨rfl, I6⟩
      have I7 : Inv X pins σ G5 s6 := I3.call' (ch := fp) I6.os I6.base I6.hok I6.bare fun b hb => ⟨(f3 b hb).1.2.2.2.1, (f3 b hb).1.2.1, (f3 b hb).1.2.2.2.2⟩
      have nC : G5 s3.heap.objs.size = none := I6.free
      obtain ⟨mm, ns, _⟩ := I6.loc
      exact hend D s3.heap.objs.size s6 mm G5 I7 fin ns (I3.fpOk (Nat.le_refl _) nC)
    · refine thnF (T.item Y rfl rfl rfl hc i [] s5 _ G5 (fun _ _ => False) I5 fp5 st5 go) ?_
      rintro r s6 ⟨u, rfl, h6⟩
      refine thnF h6 ?_
      rintro _ s7 ⟨x, G7, I7, r7, y7, st7, n7⟩
      have I7' := I7.pinned (fp_in I7 rfl rfl n7) (T.obj (i + 1) _ st7)
      have pg : PG Y tg g := hg s3 G0 _ _ fp
      have pk : PE Y kx tk := hk s3 G0 _ _ fp
      have pv : PE Y vx tv := hv s3 G0 _ _ fp
      refine thnF (pg.run _ s7 _ G7 x u _ I7' r7 (step x G7 y7)) ?_
      rintro _ s8 ⟨σ8, G8, I8, w8, q8⟩
      refine wpAny_tests_nil ?_
      show wpAny _ _ (eval kx _) _ _ _
      refine thnF (pk.run _ s8 σ8 G8 _ I8 q8) ?_
      rintro kv s9 ⟨yk, G9, I9, rk, q9⟩
      refine thnF (pv.run _ s9 σ8 G9 _ I9 q9) ?_
      rintro vv s10 ⟨yv, G10, I10, rv, kvs, k, b, rfl, hD, hK, hb, hl, nx⟩
      cases (show kv = Value.ref b from rk)
      refine dx_dictSet (X := Y) hu I10 hD hK hb hl rv fun s11 I11 => ?_
      obtain ⟨m', lt, w'⟩ := hB' _ nx
      have same : ∀ b ∈ fp, ∀ o, s7.heap.get? b = some o → s11.heap.get? b = some o ∧ (upd G10 D (dX X.prog X.w D (putX kvs k _ yv))) b = none := fun b hb o e =>
        let z := I11.pin (b, o) (List.mem_append_right _ (List.mem_append_right _ (mem_pinsAt hb e)))
        ⟨z.1, z.2.1⟩
      refine ⟨m', lt, i + 1, _, (I11.unpinned (pins := [])).weak (by rw [← w8, wipe_length]) (fun j v e => ?_), T.keep (i + 1) _ _ st7 fun b hb o e => (same b hb o e).1, fun b hb => ?_, w'⟩
      · rw [← w8] at e
        exact (wipe_some e).1
      · obtain ⟨o, e, _⟩ := T.obj (i + 1) _ st7 b hb
        exact (same b hb o e).2
  exact codeAny_compStart_dict loop (T.self X.A 0 s4 _ _ st4 loop)
/-- x = {..}, on one line, x a local -/
theorem ps_setDcX {i : Nat} {y : Str} {py spos : Pos} (hy : X.N[i]? = some y) (hyl : X.env.scope.names.lookup y = some .local) (hsw : swapsWith (.DictComp kx vx [⟨tg, iter, [], 0⟩] scope pos) (some (.Name y py)) spos.line X.env = pure true)
    (hu : X.A.units + 1 < cLine) (hc : X.calm = true) (hN : X.N.Nodup) (hi : PI X tg iter wi) (ok : BlkOk X.N X.env.scope scope own)
    (hg : ∀ (s : Shared) (H : Hp) (C : Addr) (cl : List (Str × Addr)) (fp : List Addr), PG (X.blk s H scope (compEnvC scope cl C X.env) fp) tg g)
    (hk : ∀ (s : Shared) (H : Hp) (C : Addr) (cl : List (Str × Addr)) (fp : List Addr), PE (X.blk s H scope (compEnvC scope cl C X.env) fp) kx tk)
    (hv : ∀ (s : Shared) (H : Hp) (C : Addr) (cl : List (Str × Addr)) (fp : List Addr), PE (X.blk s H scope (compEnvC scope cl C X.env) fp) vx tv) (hf : ∀ x, foldedSetIterable iter X.env x = pure x) :
    PS X (.Assign [.Name y py] (.DictComp kx vx [⟨tg, iter, [], 0⟩] scope pos) spos) (tAsg (tDcX X.prog X.w wi g tk tv (own.map (·.2))) (gName i)) := by
  refine ⟨fun pins s σ H En I hw => ?_⟩
  rw [exec_Assign_Name_used _ _ _ _ hsw]
  refine wpAny_bind (wpAny_standAt (wpAny_bind ?_))
  have hw : tDcX X.prog X.w wi g tk tv (own.map (·.2)) σ H (fun x G => gName i x σ G En.nx) := hw
  show wpAny _ X.A (do let _ ← comprehension (.DictComp kx vx [⟨tg, iter, [], 0⟩] scope pos) scope X.env (firstIterPos [⟨tg, iter, [], 0⟩] pos) newDict false (eval iter X.env) (some (assign (.Name y py) X.env))) _ _ s
  refine wpAny_bind (thn (dcX_core (Qf := fun _ s' => SP X pins En .next s') I hw (fun D C s' m G J q ns z => ?_) hu hc hN hi ok hg hk hv hf) fun _ s' e => wpAny_pure (wpAny_pure e))
  show wpAny _ _ (assign (.Name y py) X.env (.ref D)) _ _ _
  refine wpAny_assign_Name (store_ok2 (v := V.ref D) J hN hy (.inl hyl) rfl (fun s2 J2 ⟨a, but, ha⟩ => ?_) (.inr hyl))
  obtain ⟨p0, p1, p2, p3, p4, p5⟩ := z
  have off : C ≠ a := by
    rcases ha with e | e
    · exact e ▸ p1
    · exact Ne.symm (p4 y a e)
  exact ⟨m, ns.sameBut but off, fun h3 but3 => ⟨_, G, J2.turned (t' := s2.toks) (fun b o nb e => (but3.2 b nb).trans e) p0 p1 p3 p4 p5, q⟩⟩
theorem sw_dc {kx vx : Expr} {gs : List Comprehension} {scope : Scope} {pos py : Pos} {y : Str} {l : Nat} {env : Env} (hk : env.scope.kind = .function) (hy : env.scope.names.lookup y = some .local) (hl : (py.line == pos.line) = true)
    (ha : (scope.names.any fun (n, k) => n == y && (k == .local || k == .cell)) = false) : swapsWith (.DictComp kx vx gs scope pos) (some (.Name y py)) l env = pure true := by
  have e1 : env.kindOf y = some .local := hy
  have e2 : env.blockKind = .function := by unfold Env.blockKind; rw [hk]; rfl
  unfold swapsWith
  simp only [e1, e2, ha, Expr.pos, hl]
  rfl
end
end DL

set_option Elab.async false
set_option linter.all false
set_option maxRecDepth 100000
set_option maxHeartbeats 4000000
namespace DL
open PySem PySem.Spec L2
/-! ### dicts with tuple keys as data, and of one's own -/
section
variable {α β γ : Type} {c : Cod α} {c' : Cod β}
abbrev PTx (c : Cod α) (H : Hp) (ks : List E3) (kvs : List (List Int × α)) : Prop := Paired (fun (p : E3) (y : List Int × α) => p.1 = y.1.map Sum.inl ∧ H p.2.1 = some (.tup (y.1.map V.int)) ∧ y.1.length ≤ LB ∧ c.rep H p.2.2 y.2) ks kvs
theorem PTx.mono {H G : Hp} {ks : List E3} {kvs : List (List Int × α)} (e : Ex H G) (h : PTx c H ks kvs) : PTx c G ks kvs := paired_mono h fun _ _ r => ⟨r.1, e _ _ r.2.1, r.2.2.1, c.mono e r.2.2.2⟩
theorem kV_inl (k : List Int) : (k.map Sum.inl : TKey).map kV = k.map V.int := by rw [List.map_map]; rfl
theorem inl_inj : ∀ {k j : List Int}, (k.map Sum.inl : TKey) = j.map Sum.inl → k = j
  | [], [], _ => rfl
  | [], _ :: _, h => by cases h
  | _ :: _, [], h => by cases h
  | x :: k, y :: j, h => by
    rw [List.map_cons, List.map_cons] at h
    injection h with h1 h2
    injection h1 with h1
    rw [h1, inl_inj h2]
theorem PTx.keys {H : Hp} {ks : List E3} {kvs : List (List Int × α)} (h : PTx c H ks kvs) : KeysIn H ks := by
  induction h with
  | nil => intro p hp; cases hp
  | cons r t ih =>
    intro p hp
    rcases List.mem_cons.mp hp with e | m
    · rw [e, r.1, kV_inl]; exact r.2.1
    · exact ih p m
def valT (kvs : List (List Int × α)) (k : List Int) : Option α := (kvs.find? fun p => decide (p.1 = k)).map (·.2)
def putT (kvs : List (List Int × α)) (k : List Int) (x : α) : List (List Int × α) := if (valT kvs k).isSome = true then kvs.map fun p => if p.1 = k then (p.1, x) else p else kvs ++ [(k, x)]
def dtOf (ps : List (List Int × α)) : List (List Int × α) := ps.foldl (fun d p => putT d p.1 p.2) []
theorem dtOf_snoc (ps : List (List Int × α)) (p : List Int × α) : dtOf (ps ++ [p]) = putT (dtOf ps) p.1 p.2 := by unfold dtOf; rw [List.foldl_append]; rfl
theorem putT_len (kvs : List (List Int × α)) (k : List Int) (x : α) : (putT kvs k x).length ≤ kvs.length + 1 := by
  unfold putT
  split
  · rw [List.length_map]; exact Nat.le_succ _
  · rw [List.length_append]; exact Nat.le_refl _
theorem PTx.val {H : Hp} {ks : List E3} {kvs : List (List Int × α)} (h : PTx c H ks kvs) (k : List Int) : (valT kvs k = none ∧ valX ks (k.map Sum.inl) = none) ∨ ∃ v x, valT kvs k = some x ∧ valX ks (k.map Sum.inl) = some v ∧ c.rep H v x := by
  induction h with
  | nil => exact .inl ⟨rfl, rfl⟩
  | @cons p y ps ys r t ih =>
    unfold valT valX at ih ⊢
    rw [List.find?_cons, List.find?_cons, r.1]
    by_cases e : y.1 = k
    · rw [decide_eq_true e, decide_eq_true (congrArg (List.map Sum.inl) e)]
      exact .inr ⟨_, _, rfl, rfl, r.2.2.2⟩
    · rw [decide_eq_false e, decide_eq_false fun z => e (inl_inj z)]; exact ih
theorem PTx.subst {H : Hp} {ks : List E3} {kvs : List (List Int × α)} (h : PTx c H ks kvs) (k : List Int) {v : V} {x : α} (rv : c.rep H v x) :
    PTx c H (ks.map fun p => if p.1 = (k.map Sum.inl : TKey) then (p.1, p.2.1, v) else p) (kvs.map fun p => if p.1 = k then (p.1, x) else p) := by
  induction h with
  | nil => exact .nil
  | @cons p y ps ys r t ih =>
    refine .cons ?_ ih
    dsimp only
    by_cases e : y.1 = k
    · rw [if_pos e, if_pos (by rw [r.1, e])]; exact ⟨r.1, r.2.1, r.2.2.1, rv⟩
    · rw [if_neg e, if_neg fun z => e (inl_inj (r.1.symm.trans z))]; exact r
theorem PTx.put {H : Hp} {ks : List E3} {kvs : List (List Int × α)} (h : PTx c H ks kvs) (k : List Int) {b : Addr} {v : V} {x : α} (hb : H b = some (.tup (k.map V.int))) (lb : k.length ≤ LB) (rv : c.rep H v x) : PTx c H (putX ks (k.map Sum.inl) b v) (putT kvs k x) := by
  unfold putX putT
  rcases h.val k with ⟨e1, e2⟩ | ⟨v0, x0, e1, e2, _⟩
  · rw [e1, e2, if_neg (by simp), if_neg (by simp)]; exact Paired.snoc h ⟨rfl, hb, lb, rv⟩
  · rw [e1, e2]; exact h.subst k rv
def cDt (P : Program) (w : World) (c : Cod α) : Cod (List (List Int × α)) where
  rep := fun H v kvs => ∃ a ob ks, v = .ref a ∧ H a = some (.frz ob (dX P w a ks)) ∧ PTx c H ks kvs ∧ ks.length ≤ LB
  mono := fun e ⟨a, ob, ks, h1, h2, h3, h4⟩ => ⟨a, ob, ks, h1, e _ _ h2, h3.mono e, h4⟩
/-- a dict of one's own, keys tuples, keys ints -/
def opT (P : Program) (w : World) (c : Cod α) (kvs : List (List Int × α)) : OP where
  φ := fun Hf a o => ∃ ks, o = dX P w a ks ∧ PTx c Hf ks kvs ∧ ks.length ≤ LB
  mono := fun e ⟨ks, h1, h2, h3⟩ => ⟨ks, h1, h2.mono e, h3⟩
def opD (c : Cod α) (kvs : List (Int × α)) : OP where
  φ := fun Hf _ o => ∃ ks, o = .dK ks ∧ PDc c Hf ks kvs ∧ ks.length ≤ LB
  mono := fun e ⟨ks, h1, h2, h3⟩ => ⟨ks, h1, h2.mono e, h3⟩
/-- a tuple of ints is a key -/
theorem tupK {H : Hp} {v : V} {k : List Int} (h : (cTup cInt).rep H v k) : ∃ b, v = .ref b ∧ H b = some (.tup (k.map V.int)) ∧ k.length ≤ LB := by
  obtain ⟨b, vs, h1, h2, h3, h4⟩ := h
  exact ⟨b, h1, by rw [h2, ints_of_paired h3], by rw [← h3.length]; exact h4⟩
end
section
variable {S : Stc} {Γ Γ1 Γ2 Γ3 : Ctxt} {k k1 k2 k3 kk kt ke kn kf kr lv : Nat} {A α β γ δ ρ τ ω σ υ : Type} {c : Cod α} {c' : Cod β} {cr : Cod ρ} {rel : Rl ρ} {c1 : Cod α} {c2 : Cod β} {c3 : Cod γ} {e a b dd o : Expr} {es : List Expr} {pos pos' pos2 pn apos cpos p1 p2 : Pos} {n : En σ} {l : En τ} {st : Stmt} {sts rest : List Stmt} {w : W α} {nm x : Str} {te to ti tk tv : TE} {p : Po ρ}
/-! ### d[t], d[i] -/
theorem td_xget {P : Program} {w : World} {Pd : List (List Int × α) → Prop} {Pk : List (List Int × α) → List Int → Prop} {Q0 : α → Prop} (ho : TD to Γ k1 (cDt P w c) Pd) (hi : ∀ d, Pd d → TD ti Γ k2 (cTup cInt) (Pk d)) (hq : ∀ d t, Pd d → Pk d t → ∃ x, valT d t = some x ∧ Q0 x) :
    TD (tXGet P w to ti) Γ (k1 + k2) c Q0 := fun O n σ Hf H hn s Q q => ho O n σ Hf H (by omega) s _ fun v Hf1 H1 d pd ⟨D, ob, ks, h1, h2, h3, h4⟩ f1 s1 => hi d pd O (n + k1) σ Hf1 H1 (by omega) s1 _ fun v2 Hf2 H2 t pt r2 f2 s2 => by
    obtain ⟨b, hb1, hb2, _⟩ := tupK r2
    obtain ⟨x, hx, qx⟩ := hq d t pd pt
    have h3' := h3.mono f2.ex
    rcases h3'.val t with ⟨z, _⟩ | ⟨u, x', e1, e2, r⟩
    · rw [hx] at z; cases z
    · obtain rfl : x = x' := Option.some.inj (hx.symm.trans e1)
      exact ⟨D, ks, t.map Sum.inl, b, u, h1, hb1, .inr ⟨ob, s2.ex _ _ (f2.ex _ _ h2)⟩, h3'.keys.ex s2.ex, by rw [kV_inl]; exact s2.ex _ _ hb2, e2, q u Hf2 H2 x qx r (f1.trans f2 fun _ z => .inl z) (by rw [← Nat.add_assoc]; exact s2)⟩
theorem xgetT {wo : W (List (List Int × α))} {wi : W (List Int)} (ho : PW S Γ k1 o (cDt S.prog S.w c) wo) (hi : PW S Γ k2 e (cTup cInt) wi) (hs : NoSl e) : PW S Γ (k1 + k2) (.Subscript o e pos) c (fun Q => wo fun d => wi fun t => ∃ x, valT d t = some x ∧ Q x) := fun Q q =>
  pd_of (te := tXGet S.prog S.w (tE S o) (tE S e)) (fun X G => by rw [← G.prog, ← G.w]; exact pe_xget (by have := G.room.un; omega) (tE_ok G) (tE_ok G) hs) (td_xget (ho _ q) (fun d p => hi _ p) fun d t _ p => p)

theorem xgetD {wo : W (List (Int × α))} {wi : W Int} (ho : PW S Γ k1 o (cDic c) wo) (hi : PW S Γ k2 e cInt wi) (hs : NoSl e) : PW S Γ (k1 + k2) (.Subscript o e pos) c (fun Q => wo fun d => wi fun t => ∃ x, valD d t = some x ∧ Q x) := fun Q q =>
  pd_of (te := tDGet (tE S o) (tE S e)) (fun X G => pe_dget (by have := G.room.un; omega) (tE_ok G) (tE_ok G) hs) fun O n σ Hf H hn s Q' q' => ho _ q O n σ Hf H (by omega) s _ fun v Hf1 H1 d pd ⟨a, ks, h1, h2, h3, h4⟩ f1 s1 => hi _ pd O (n + k1) σ Hf1 H1 (by omega) s1 _ fun v2 Hf2 H2 t pt r2 f2 s2 => by
    obtain ⟨x, hx, qx⟩ := pt
    obtain rfl := r2
    have h3' := h3.mono f2.ex
    rcases pdc_val h3' t with ⟨z, _⟩ | ⟨u, x', e1, e2, r⟩
    · rw [hx] at z; cases z
    · obtain rfl : x = x' := Option.some.inj (hx.symm.trans e1)
      have g := DGet.k (k := Sum.inl t) (s2.ex _ _ (f2.ex _ _ h2))
      rw [e2] at g
      exact ⟨a, u, h1, g, q' u Hf2 H2 x qx r (f1.trans f2 fun _ z => .inl z) (by rw [← Nat.add_assoc]; exact s2)⟩
/-! ### walks -/
theorem tw_itemsX {P : Program} {w : World} {Pd : List (List Int × α) → Prop} (h : TD te Γ k (cDt P w c) Pd) : TW (iItemsX P w te) Γ k (cT2 (cTup cInt) c) Pd := fun O n σ Hf H hn S R q =>
  h O n σ Hf H hn S _ fun v Hf' H' d pd ⟨D, ob, ks, h1, h2, h3, h4⟩ f s => by
    have hl : ks.length = d.length := h3.length
    refine ⟨D, ob, ks, h1, s.ex _ _ h2, q _ Hf' H' d pd ⟨fun Hf2 H2 i e1 e2 hi => ⟨e2 _ _ (e1 _ _ h2), by omega⟩, fun Hf2 H2 e1 e2 => ⟨e2 _ _ (e1 _ _ h2), by omega⟩, fun Hf2 H2 i u H1 z e1 e2 hy hz => ?_⟩ (by omega) f s⟩
    obtain ⟨T, p, hp, rfl, fresh, rfl⟩ := hy
    obtain ⟨z', hz', r1, r2, r4, r3⟩ := L2.paired_get h3 hp
    obtain rfl : z' = z := Option.some.inj (hz'.symm.trans hz)
    have none2 := e2.back fresh
    have up := e1.trans (Ex.new (o := .tup [.ref p.2.1, p.2.2]) none2)
    exact ⟨upd Hf2 T (.tup [.ref p.2.1, p.2.2]), ⟨T, .ref p.2.1, p.2.2, rfl, upd_same, ⟨p.2.1, z'.1.map V.int, rfl, up _ _ r2, paired_ints _, by rw [List.length_map]; exact r4⟩, c.mono up r3⟩, Fr.new e2 fresh, e2.both none2⟩
theorem iItemsT {elts : List Expr} {tpos : Pos} {kk : Nat} {w : W (List (List Int × α))} (h : PW S Γ k e (cDt S.prog S.w c) w) (hb : ∀ env : Env, attributeBase e "items" env (eval e env) = eval e env) (hl : (apos.endLine == cpos.line) = true) :
    PWI S Γ k (.Tuple elts kk tpos) (.Call (.Attribute e "items" apos) [] [] cpos) (cT2 (cTup cInt) c) w := fun Q q =>
  pdi_of (wi := iItemsX S.prog S.w (tE S e)) (fun X G => by rw [← G.prog, ← G.w]; exact pi_itemsX (tE_ok G) (hb _) hl) (tw_itemsX (h _ q))
/-! ### enumerate, zip -/
def iEnumS (K : PySem.W.Frag) (ta : TA) : TI := fun σ H R => ta σ H fun vs H1 => ∃ a xs, vs = [.ref a] ∧ ((SqL K H1 a xs ∧ R (Ite K a) H1) ∨ (SqT K H1 a xs ∧ R (IteT K a) H1))
theorem pi_enumS {X : Cx} {ta : TA} {tpos : Pos} {elts : List Expr} {kk : Nat} (hg : Gl X "enumerate") (hm : X.mg "enumerate" = none) (ha : PA X [e] ta) (hs : starEach [e] X.env = [(false, eval e X.env)]) : PI X (.Tuple elts kk tpos) (.Call (.Name "enumerate" pn) [e] [] pos) (iEnumS X.K ta) := by
  constructor
  intro pins s σ H R I hw
  have args := thn (Q' := fun us s1 => wpAny (model X.prog X.w) X.A (call (.type "enumerate") us) (fun v s2 => wpAny (model X.prog X.w) X.A (pyIter v) (PIE X pins σ (.Tuple elts kk tpos) R) X.xe s2) X.xe s1) (ha.run pos pins s σ H _ I hw) ?_
  · exact PyProof.Rows.Call_ (ld_blt I hg hm PyProof.Rows.boot_enumerate (PyProof.Rows.callWith_type1 args hs rfl))
  rintro us s1 ⟨vs, H1, I1, r, a, xs, rfl, q⟩
  rw [Vals.ref1 r]
  have new : ∀ b, b ∈ [s1.heap.objs.size + 1, s1.heap.objs.size] → FpOk X pins H1 b := fun b m => by
    have le : s1.heap.objs.size ≤ b := by
      rcases List.mem_cons.mp m with z | z
      · exact z ▸ Nat.le_succ _
      · exact (List.mem_singleton.mp z) ▸ Nat.le_refl _
    exact I1.fpOk le (I1.hok.fresh le)
  rcases q with ⟨sq, q⟩ | ⟨sq, q⟩
  · obtain ⟨its, _, li, _⟩ := I1.list sq
    exact call_enumerate_list li.isList fun g en ti _ more => wpAny_pyIter_enum en ⟨_, _, _, _, H1, rfl, I1.kept (t' := s1.toks) more, turn_enum a _ _, ⟨⟨.none, en⟩, ti, Nat.succ_ne_self _⟩, new, q⟩
  · obtain ⟨its, _, tup, _⟩ := I1.tuple sq
    have la : a < s1.heap.objs.size := by
      obtain ⟨_, g, _⟩ := id tup
      exact Heap.lt_size g
    exact enum_call (show s1.heap.IsTuple a its.toArray from tup) fun g en ti more => wpAny_pyIter_enum en ⟨_, _, _, _, H1, rfl, I1.kept (t' := s1.toks) more, turn_enumT a _ _ (Nat.ne_of_lt la) (Nat.ne_of_gt (Nat.lt_succ_of_lt la)) (Nat.succ_ne_self _), ⟨⟨.none, en⟩, ti⟩, new, q⟩
theorem tw_enumS {K : PySem.W.Frag} {te : TE} {R : List (Int × α) → Prop} (h : TD te Γ k (cSeq c) (fun xs => R (enumL xs))) : TW (iEnumS K (tCons te tNil)) Γ k (cT2 cInt c) R := fun O n σ Hf H hn S Rr q =>
  h O n σ Hf H hn S _ fun v Hf' H' ys px r f s => by
    rcases r with ⟨a, vs, rfl, ha, pr, lb⟩ | ⟨a, vs, rfl, ha, pr, lb⟩
    · have hl := paired_len pr
      refine ⟨a, vs, rfl, .inl ⟨SqL.of (s.ex _ _ ha), q _ Hf' H' _ px ⟨fun Hf2 H2 i e1 e2 hi => ?_, fun Hf2 H2 e1 e2 => ⟨vs, SqL.of (e2 _ _ (e1 _ _ ha)), by rw [enumL_len]; omega⟩, fun Hf2 H2 i w H1 x e1 e2 hy hx => ?_⟩ (by rw [enumL_len]; omega) f s⟩⟩
      · rw [enumL_len] at hi
        exact ⟨vs, vs[i]'(by omega), SqL.of (e2 _ _ (e1 _ _ ha)), List.getElem?_eq_getElem (by omega)⟩
      · obtain ⟨T, y, rfl, hT, rfl, hy⟩ := hy
        obtain ⟨hx1, hx2⟩ := enumL_get hx
        have hTf := e2.back hT
        exact ⟨upd Hf2 T (.tup [.int (i : Nat), y]), ⟨T, .int (i : Nat), y, rfl, upd_same, by rw [hx1]; rfl, c.mono (e1.trans (Ex.new hTf)) (DL.paired_get pr (hy vs (SqL.of (e2 _ _ (e1 _ _ ha)))) hx2)⟩, Fr.new e2 hT, e2.both hTf⟩
    · have hl := paired_len pr
      refine ⟨a, vs, rfl, .inr ⟨SqT.of (s.ex _ _ ha), q _ Hf' H' _ px ⟨fun Hf2 H2 i e1 e2 hi => ?_, fun Hf2 H2 e1 e2 => ⟨vs, SqT.of (e2 _ _ (e1 _ _ ha)), by rw [enumL_len]; exact hl⟩, fun Hf2 H2 i w H1 x e1 e2 hy hx => ?_⟩ (by rw [enumL_len]; omega) f s⟩⟩
      · rw [enumL_len] at hi
        exact ⟨vs, vs[i]'(by omega), SqT.of (e2 _ _ (e1 _ _ ha)), List.getElem?_eq_getElem (by omega)⟩
      · obtain ⟨T, y, rfl, hT, rfl, hy⟩ := hy
        obtain ⟨hx1, hx2⟩ := enumL_get hx
        have hTf := e2.back hT
        exact ⟨upd Hf2 T (.tup [.int (i : Nat), y]), ⟨T, .int (i : Nat), y, rfl, upd_same, by rw [hx1]; rfl, c.mono (e1.trans (Ex.new hTf)) (DL.paired_get pr (hy vs (SqT.of (e2 _ _ (e1 _ _ ha)))) hx2)⟩, Fr.new e2 hT, e2.both hTf⟩
theorem iEnum_ {elts : List Expr} {tpos : Pos} {kk : Nat} {w : W (List α)} (hg : S.sc.names.lookup ("enumerate" : Str) = some .globalImplicit) (hm : S.mg "enumerate" = none) (h : PW S Γ k e (cSeq c) w) (hs : ∀ env : Env, starEach [e] env = (false, eval e env) :: starEach [] env) :
    PWI S Γ k (.Tuple elts kk tpos) (.Call (.Name "enumerate" pn) [e] [] pos) (cT2 cInt c) (fun Q => w fun xs => Q (enumL xs)) := fun Q q =>
  pdi_of (wi := iEnumS S.K (tCons (tE S e) tNil)) (fun X G => by rw [← G.K]; exact pi_enumS (glb G hg) (by rw [G.mg]; exact hm) (pa_cons (tE_ok G) pa_nil (hs _)) (hs _)) (tw_enumS (h _ q))
theorem tw_zipL {K : PySem.W.Frag} {ta tb : TE} {R1 : List α → Prop} {R : List (α × β) → Prop} (h : TD ta Γ k1 (cList c) R1) (h' : ∀ xs, R1 xs → TD tb Γ k2 (cList c2) (fun ys => R (xs.zip ys))) : TW (L2.iZip K (tCons ta (tCons tb tNil))) Γ (k1 + k2) (cT2 c c2) R := fun O n σ Hf H hn S Rr q =>
  h O n σ Hf H (by omega) S _ fun v Hf' H' x px r f s => h' x px O (n + k1) σ Hf' H' (by omega) s _ fun v2 Hf2 H2 y py ⟨b, us, e2, hb, pr2, lb2⟩ f2 s2 => by
    obtain ⟨a, vs, e, ha, pr, lb⟩ := (cList c).mono f2.ex r
    have hl := paired_len pr
    have hl2 := paired_len pr2
    have hz : (x.zip y).length = min x.length y.length := List.length_zip
    refine ⟨a, b, vs, us, by rw [e, e2], SqL.of (s2.ex _ _ ha), SqL.of (s2.ex _ _ hb), q _ Hf2 H2 _ py ⟨fun Hf3 H3 i e1 e3 hi => ?_, fun Hf3 H3 e1 e3 => ⟨vs, us, SqL.of (e3 _ _ (e1 _ _ ha)), SqL.of (e3 _ _ (e1 _ _ hb)), by omega⟩, fun Hf3 H3 i w H1 z e1 e3 hy hx => ?_⟩ (by omega) (f.trans f2 fun _ z => .inl z) (by rw [← Nat.add_assoc]; exact s2)⟩
    · exact ⟨vs, us, vs[i]'(by omega), us[i]'(by omega), SqL.of (e3 _ _ (e1 _ _ ha)), SqL.of (e3 _ _ (e1 _ _ hb)), List.getElem?_eq_getElem (by omega), List.getElem?_eq_getElem (by omega)⟩
    · obtain ⟨T, p, p2, rfl, hT, rfl, hy1, hy2⟩ := hy
      obtain ⟨hx1, hx2⟩ := zip_get hx
      have hTf := e3.back hT
      exact ⟨upd Hf3 T (.tup [p, p2]), ⟨T, p, p2, rfl, upd_same, c.mono (e1.trans (Ex.new hTf)) (DL.paired_get pr (hy1 vs (SqL.of (e3 _ _ (e1 _ _ ha)))) hx1), c2.mono (e1.trans (Ex.new hTf)) (DL.paired_get pr2 (hy2 us (SqL.of (e3 _ _ (e1 _ _ hb)))) hx2)⟩, Fr.new e3 hT, e3.both hTf⟩
end
end DL

set_option Elab.async false
set_option linter.all false
set_option maxRecDepth 100000
set_option maxHeartbeats 4000000
namespace DL
open PySem PySem.Spec L2
section
variable {S : Stc} {Γ Γ1 Γ2 Γ3 : Ctxt} {k k1 k2 k3 kk kt ke kn kf kr lv : Nat} {A α β γ δ ρ τ ω σ υ : Type} {c : Cod α} {c' : Cod β} {cr : Cod ρ} {rel : Rl ρ} {c1 : Cod α} {c2 : Cod β} {c3 : Cod γ} {e e2 a b dd o : Expr} {es : List Expr} {pos pos' pos2 pn apos cpos p1 p2 : Pos} {n : En σ} {l : En τ} {st : Stmt} {sts rest : List Stmt} {w : W α} {nm x : Str} {te to ti tk tv : TE} {p : Po ρ}
theorem iZip_ {elts : List Expr} {tpos : Pos} {kk : Nat} {wa : W (List α)} {wb : W (List β)} (hg : S.sc.names.lookup ("zip" : Str) = some .globalImplicit) (hm : S.mg "zip" = none) (h : PW S Γ k1 e (cList c) wa) (h' : PW S Γ k2 e2 (cList c2) wb) (hs : ∀ env : Env, starEach [e, e2] env = (false, eval e env) :: starEach [e2] env) (hs2 : ∀ env : Env, starEach [e2] env = (false, eval e2 env) :: starEach [] env) (hpl : ∀ env : Env, (backTo pos (starEach [e2] env)).any (·.1) = false) :
    PWI S Γ (k1 + k2) (.Tuple elts kk tpos) (.Call (.Name "zip" pn) [e, e2] [] pos) (cT2 c c2) (fun Q => wa fun xs => wb fun ys => Q (xs.zip ys)) := fun Q q =>
  pdi_of (wi := L2.iZip S.K (tCons (tE S e) (tCons (tE S e2) tNil))) (fun X G => by rw [← G.K]; exact pi_zip (glb G hg) (by rw [G.mg]; exact hm) (pa_cons (tE_ok G) (pa_cons (tE_ok G) pa_nil (hs2 _)) (hs _)) (hs _) (hpl _)) (tw_zipL (h _ q) fun xs p => h' _ p)
/-! ### dict(zip(a, b)) -/
def tDictZip (P : Program) (w : World) (K : PySem.W.Frag) (ta : TA) : TE := fun σ H Q => ta σ H fun vs H1 => ∃ (a b : Addr) (xs ys : List V) (ks : List E3), vs = [.ref a, .ref b] ∧ SqL K H1 a xs ∧ SqL K H1 b ys ∧ ks.length = min xs.length ys.length ∧ KeysIn H1 ks ∧
  (∀ (i : Nat) (x y : V), xs[i]? = some x → ys[i]? = some y → ∃ (k : TKey) (q : Addr), ks[i]? = some (k, q, y) ∧ x = V.ref q) ∧ ∀ D, H1 D = none → Q (.ref D) (upd H1 D (dX P w D (ks.foldl (fun d p => putX d p.1 p.2.1 p.2.2) [])))
theorem RX.fold : ∀ {ks : List E3} {ys : List (TKey × Addr × Value)} {d : List E3} {m : List (TKey × Addr × Value)}, RX ks ys → RX d m → RX (ks.foldl (fun d p => putX d p.1 p.2.1 p.2.2) d) (storedAllH m ys)
  | [], [], d, m, _, r => r
  | p :: ks, y :: ys, d, m, .cons hd t, r => by
    show RX (ks.foldl _ (putX d p.1 p.2.1 p.2.2)) (storedAllH (storedH m y.1 y.2.1 y.2.2) ys)
    rw [← hd.1, ← hd.2.1]
    exact RX.fold t (r.put _ _ hd.2.2)
theorem fold_len : ∀ (ks d : List E3), (ks.foldl (fun d p => putX d p.1 p.2.1 p.2.2) d).length ≤ d.length + ks.length
  | [], d => Nat.le_refl _
  | p :: ks, d => by
    have h1 := fold_len ks (putX d p.1 p.2.1 p.2.2)
    have h2 := length_putX d p.1 p.2.1 p.2.2
    rw [List.foldl_cons, List.length_cons]
    omega
/-- the values of a list of entries -/
theorem rx_of {pins : List (Addr × Obj)} {X : Cx} {σ : L2.St} {H : Hp} {s : Shared} (I : L2.Inv X pins σ H s) : ∀ {vs : List V} {us : List Value}, Vals vs us → ∀ ks : List E3, ks.length ≤ vs.length → (∀ (i : Nat) (p : E3), ks[i]? = some p → vs[i]? = some p.2.2) → ∃ ys, RX ks ys ∧ ∀ (i : Nat) (p : E3), ks[i]? = some p → ∃ u : Value, us[i]? = some u ∧ ys[i]? = some (p.1, p.2.1, u)
  | _, _, _, [], _, _ => ⟨[], .nil, fun i p h => by simp at h⟩
  | [], _, _, p :: ks, h, _ => by simp at h
  | v :: vs, u :: us, .cons r t, p :: ks, h, hv => by
    obtain ⟨ys, r1, r2⟩ := rx_of I t ks (by simpa using h) fun i q hq => by simpa using hv (i + 1) q (by simpa using hq)
    have e : v = p.2.2 := by simpa using hv 0 p rfl
    refine ⟨(p.1, p.2.1, u) :: ys, .cons ⟨rfl, rfl, e ▸ r⟩ r1, fun i q hq => ?_⟩
    cases i with
    | zero =>
      obtain rfl : p = q := by simpa using hq
      exact ⟨u, rfl, rfl⟩
    | succ j => simpa using r2 j q (by simpa using hq)
theorem pe_dictZip {X : Cx} {ta : TA} (hu : X.A.units + 2 < cLine) (hc : X.calm = true) (hg : Gl X "dict") (hm : X.mg "dict" = none) (hg2 : Gl X "zip") (hm2 : X.mg "zip" = none) (ha : PA X [e, e2] ta)
    (hs : starEach [e, e2] X.env = (false, eval e X.env) :: starEach [e2] X.env) (hpl : (backTo pos2 (starEach [e2] X.env)).any (·.1) = false)
    (hs2 : starEach [.Call (.Name "zip" p2) [e, e2] [] pos2] X.env = (false, eval (.Call (.Name "zip" p2) [e, e2] [] pos2) X.env) :: starEach [] X.env) :
    PE X (.Call (.Name "dict" pn) [.Call (.Name "zip" p2) [e, e2] [] pos2] [] pos) (tDictZip X.prog X.w X.K ta) := by
  refine ⟨fun pins s σ H Q I hw => ?_⟩
  have boot : bootBuiltins "dict" = some (.type "dict") := by decide +kernel
  refine PyProof.Rows.Call_ (ld_blt I hg hm boot (PyProof.Rows.callWith_type1 ?_ hs2 rfl))
  rw [hs2]
  show wpAny _ _ (spliced ((false, eval (.Call (.Name "zip" p2) [e, e2] [] pos2) X.env) :: backTo pos (starEach [] X.env))) _ _ s
  refine Calls.spliced_cons (PyProof.Rows.Call_ (ld_blt I hg2 hm2 PyProof.Rows.boot_zip (PyProof.Rows.callWith_type1 (thn (ha.run pos2 pins s σ H _ I hw) ?_) hs hpl)))
  rintro us s1 ⟨vs, H1, I1, r, a, b, xs, ys, ks, rfl, sa, sb, len, kin, ent, q⟩
  obtain ⟨u1, u2, rfl, r1, r2⟩ := vals2 r
  cases (show u1 = Value.ref a from r1)
  cases (show u2 = Value.ref b from r2)
  obtain ⟨ia, va, la, _⟩ := I1.list sa
  obtain ⟨ib, vb, lb, zb⟩ := I1.list sb
  refine call_zip_2 la.isList lb.isList fun h' z0 zI zO i1 i2 sz more => Calls.spliced_nil ?_
  have I2 : L2.Inv X pins σ H1 { s1 with heap := h' } := I1.kept (t' := s1.toks) more
  have hl : ks.length ≤ ys.length := by omega
  obtain ⟨ms, rx, rm⟩ := rx_of I2 vb ks hl fun i p hp => by
    have lt := (List.getElem?_eq_some_iff.mp hp).1
    have hx : xs[i]? = some (xs[i]'(by omega)) := List.getElem?_eq_getElem (by omega)
    have hy : ys[i]? = some (ys[i]'(by omega)) := List.getElem?_eq_getElem (by omega)
    obtain ⟨k0, q0, e0, _⟩ := ent i _ _ hx hy
    rw [hp] at e0
    injection e0 with e0
    rw [hy, e0]
  have mlen : ms.length = ks.length := (Paired.length rx).symm
  have na : xs.length = ia.length := va.length
  have nb : ys.length = ib.length := vb.length
  have keys : ∀ {h2 : Heap}, HOk X.prog X.w H1 h2 → ∀ y ∈ ms, (tupleKind (mixKind X.prog X.w)).is h2 y.1 y.2.1 := fun {h2} ok y hy => by
    obtain ⟨i, hi⟩ := List.getElem?_of_mem hy
    obtain ⟨p, hp⟩ : ∃ p, ks[i]? = some p := ⟨ks[i]'(by rw [← mlen]; exact (List.getElem?_eq_some_iff.mp hi).1), List.getElem?_eq_getElem _⟩
    obtain ⟨u, _, hu2⟩ := rm i p hp
    rw [hi] at hu2
    injection hu2 with hu2
    rw [hu2]
    exact key_of ok (kin p (List.mem_of_getElem? hp))
  have le5 : s1.heap.objs.size ≤ h'.objs.size := by rw [sz]; exact Nat.le_add_right _ _
  have young : ∀ c, c ∈ [s1.heap.objs.size + 4, s1.heap.objs.size + 3, s1.heap.objs.size, s1.heap.objs.size + 1] → s1.heap.objs.size ≤ c := fun c m => by
    rcases List.mem_cons.mp m with z | m
    · rw [z]; exact Nat.le_add_right _ _
    rcases List.mem_cons.mp m with z | m
    · rw [z]; exact Nat.le_add_right _ _
    rcases List.mem_cons.mp m with z | m
    · rw [z]; exact Nat.le_refl _
    · rw [List.mem_singleton.mp m]; exact Nat.le_add_right _ _
  have D := PySem.W.ktu_apart s1.heap.objs.size a b la.lt lb.lt
  refine call_dict_pairsH (knd := tupleKind (mixKind X.prog X.w)) (ps := ms) (PairArg.zip _ _ _ _ _ a b D ia.toArray ib.toArray) (I2.ok.hd hc) (show X.A.in1.in1.units < cLine from hu) ⟨z0, zI, ⟨_, _, zO⟩, i1, i2, la.isList.at fun o e => more _ o e, lb.isList.at fun o e => more _ o e⟩ ⟨?_, fun i key v hkv => ?_⟩ (fun h2 hk y hy => ?_) ?_ fun h2 tk dd hk => ?_
  · rw [mlen, len, na, nb]; simp
  · obtain ⟨g1, g2⟩ := hkv
    rw [List.getElem?_toArray] at g1 g2
    have lx : i < xs.length := by rw [na]; exact (List.getElem?_eq_some_iff.mp g1).1
    have ly : i < ys.length := by rw [nb]; exact (List.getElem?_eq_some_iff.mp g2).1
    have hx : xs[i]? = some xs[i] := List.getElem?_eq_getElem lx
    obtain ⟨k0, q0, e0, x0⟩ := ent i _ _ hx (List.getElem?_eq_getElem ly)
    obtain ⟨u, hu1, hu2⟩ := va.get hx
    obtain ⟨v', hv1, hv2⟩ := rm i _ e0
    rw [g1] at hu1
    rw [g2] at hv1
    injection hu1 with hu1
    injection hv1 with hv1
    rw [x0] at hu2
    cases (show u = Value.ref q0 from hu2)
    exact ⟨k0, q0, by rw [hv2, hv1], hu1⟩
  · obtain ⟨o1, _, _, ho1, _⟩ := keys I1.hok y hy
    have lt : y.2.1 < s1.heap.objs.size := Heap.lt_size ho1
    obtain ⟨o, items, n, ho, z⟩ := keys I2.hok y hy
    exact ⟨o, items, n, hk _ o (Nat.ne_of_lt (Nat.lt_of_lt_of_le lt le5)) (fun m => absurd lt (Nat.not_lt.mpr (young _ m))) ho, z⟩
  · rw [List.size_toArray, List.size_toArray]
    have : ys.length ≤ sizeLine := zb
    omega
  · have ne : (h'.objs.size == sysModules) = false := beq_eq_false_iff_ne.mpr fun z => absurd I1.big (Nat.not_lt.mpr (by rw [← z]; exact le5))
    have small : (ks.foldl (fun d p => putX d p.1 p.2.1 p.2.2) []).length ≤ sizeLine := by
      have := fold_len ks []
      have : ys.length ≤ sizeLine := zb
      simp only [List.length_nil] at *
      omega
    have obj : DXat X.prog X.w h2 h'.objs.size (ks.foldl (fun d p => putX d p.1 p.2.1 p.2.2) []) := .ofDict ne small (RX.fold rx .nil) dd
    have fresh : H1 h'.objs.size = none := I2.hok.fresh (Nat.le_refl _)
    exact ⟨.ref h'.objs.size, _, I2.turnedNew (t' := tk) hk (fun c hc => I1.fpOk (young c hc) (I1.hok.fresh (young c hc))) (Nat.le_refl _) (dX_ok obj), rfl, q _ fresh⟩
end
end DL

set_option Elab.async false
set_option linter.all false
set_option maxRecDepth 100000
set_option maxHeartbeats 4000000
namespace DL
open PySem PySem.Spec L2
section
variable {Γ Γ1 : Ctxt} {k k1 k2 k3 ka kb kn : Nat} {α β γ ρ : Type} {c : Cod α} {c' : Cod β} {te to ti tk tv : TE} {wi : TI} {g : TG} {vs : List Nat} {P : Program} {w : World}
/-- what is new and of one's own stays from now on, its very object -/
theorem TX.lk {R : List (List Int × α) → Prop} (h : TX te Γ k (fun s => ∃ d, R d ∧ s = .r (opT P w c d))) : TD (tLk te) Γ k (cDt P w c) R := fun O n σ Hf H hn S Q q =>
  h O n σ Hf H hn S _ fun v Hf' H' s ⟨d, rd, es⟩ hv f S' => by
    subst es
    obtain ⟨a, o, rfl, h1, h2, h3, ks, rfl, h4, h5⟩ := hv
    refine ⟨a, _, rfl, h1, True.intro, fun ob => ?_⟩
    have e1 : Ex Hf' (upd Hf' a (.frz ob (dX P w a ks))) := Ex.new h2
    have fr : Fr (Bx Γ) Hf H (upd Hf' a (.frz ob (dX P w a ks))) (upd H' a (.frz ob (dX P w a ks))) := by
      refine ⟨f.ex.trans e1, fun b u e m => ?_, fun b u e m z => ?_, fun b e => ?_⟩
      · rw [upd_ne (ne_of_none e h3)]; exact f.keep b u e m
      · rw [upd_ne (ne_of_none e h3)]; exact f.fz b u e m z
      · by_cases z : b = a
        · subst z; exact h3
        · rw [upd_ne z] at e; exact f.dom b e
    refine q _ _ _ d rd ⟨a, ob, ks, rfl, upd_same, h4.mono e1, h5⟩ fr (S.grow fr (S'.ex.both h2) fun b hb => ?_)
    obtain ⟨i, hi⟩ := hb
    obtain ⟨_, z1, z2⟩ := S'.at_ i _ hi
    have nb : b ≠ a := fun z => by
      subst z
      obtain ⟨_, _, w3⟩ := S.at_ i _ hi
      obtain ⟨_, _, _, _, w4, _⟩ := w3
      rw [h3] at w4; cases w4
    exact ⟨by rw [upd_ne nb]; exact z1, boxAt_ex z2 fun o e => by rw [upd_ne nb]; exact e⟩
theorem tx_dcX {X : List α → Prop} (I : List α → List α → List (List Int × β) → Prop) (hw : TW wi Γ k c X) (hv : ∀ i ∈ vs, NoBx Γ i) (h0 : ∀ xs, X xs → I xs [] []) (hk : ∀ xs, X xs → xs.length * (ka + kb) ≤ kn)
    (hs : ∀ xs, X xs → ∀ pre x post d, xs = pre ++ x :: post → I xs pre d → ∃ Γ1 is Pk, GD g c x (wipeC Γ vs) Γ1 is ∧ (∀ i ∈ is, i ∈ vs) ∧ TD tk Γ1 ka (cTup cInt) Pk ∧ ∀ t, Pk t → TD tv Γ1 kb c' fun y => I xs (pre ++ [x]) (putT d t y)) :
    TX (tDcX P w wi g tk tv vs) Γ (k + kn) (fun s => ∃ d, (∃ xs, X xs ∧ I xs xs d) ∧ s = .r (opT P w c' d)) := fun O n σ Hf H hn S Q q =>
  hw O n σ Hf H (by omega) S _ fun J Hf1 H1 xs px W lb f1 S1 D hD => by
    have bound := hk xs px
    have upto : ∀ i, i ≤ xs.length → i * (ka + kb) ≤ kn := fun i hi => Nat.le_trans (Nat.mul_le_mul_right _ hi) bound
    have apart : ∀ a, Bx Γ a → a ≠ D := fun a ⟨i, hi⟩ z => by
      subst z
      obtain ⟨_, _, _, _, _, _, e, _⟩ := S1.at_ i _ hi
      rw [hD] at e; cases e
    have boxes : ∀ a, Bx Γ a → Hf1 a = none ∧ BoxAt H1 a (n + k) := fun a ⟨i, hi⟩ => (S1.at_ i _ hi).2
    let St (i : Nat) (G : Hp) : Prop := i ≤ xs.length ∧ ∃ Gf d ks, I xs (xs.take i) d ∧ G D = some (dX P w D ks) ∧ PTx c' Gf ks d ∧ ks.length ≤ i ∧ Gf D = none ∧ Ex Gf G ∧ Fr (Bx Γ) Hf1 H1 Gf G ∧ ∀ a, Bx Γ a → Gf a = none ∧ BoxAt G a (n + k + i * (ka + kb))
    refine ⟨fun i m G => m = xs.length - i ∧ St i G, ⟨xs.length, (Nat.sub_zero _).symm, Nat.zero_le _, Hf1, [], [], by rw [List.take_zero]; exact h0 xs px, upd_same, .nil, Nat.le_refl _, S1.ex.back hD, S1.ex.trans (Ex.new hD), Fr.newO hD, fun a ha => ⟨(boxes a ha).1, by
      rw [Nat.zero_mul]; exact boxAt_ex (boxes a ha).2 fun o e => by rw [upd_ne (apart a ha)]; exact e⟩⟩, ?_⟩
    rintro i m G ⟨rfl, hi, Gf, d, ks, hI, hDi, pr, al, hfD, ex, fr, hb⟩
    have Si : Sat O Gf G (wipe σ vs) (wipeC Γ vs) (n + k + i * (ka + kb)) := (S1.grow fr ex hb).wipe vs
    by_cases hlt : i < xs.length
    · have hx : xs[i]? = some xs[i] := List.getElem?_eq_getElem hlt
      have next := upto (i + 1) hlt
      have en : n + k + i * (ka + kb) + (ka + kb) = n + k + (i + 1) * (ka + kb) := by rw [Nat.succ_mul]; omega
      refine .inr ⟨W.go Gf G i fr.ex ex hlt, St (i + 1), fun G2 h2 => ⟨xs.length - (i + 1), by omega, rfl, h2⟩, fun v G2 hy => ?_⟩
      obtain ⟨Gf2, rx, fy, ey⟩ := W.yld Gf G i v G2 _ fr.ex ex hy hx
      have S2 : Sat O Gf2 G2 (wipe σ vs) (wipeC Γ vs) (n + k + i * (ka + kb)) := Si.grow0 fy ey
      obtain ⟨Γ1, is, Pk, gd, hin, hK, hV⟩ := hs xs px (xs.take i) xs[i] (xs.drop (i + 1)) d (split_at hx) hI
      have in1 : ∀ a, Bx Γ1 a → Bx Γ a := fun a h => (bx_wipe hv).mp (gd.2.1 a h)
      have in2 : ∀ a, Bx Γ a → Bx Γ1 a := fun a h => by
        obtain ⟨j, hj⟩ := (bx_wipe hv).mpr h
        exact ⟨j, gd.1 j a hj⟩
      have nD1 : ¬ Bx Γ1 D := fun z => apart D (in1 D z) rfl
      have hD2 := fy.keep _ _ hDi id
      have fD2 : Gf2 D = none := fy.fz _ _ hDi id hfD
      refine gd.2.2 O _ _ Gf2 G2 v rx S2 _ fun σ3 S3 w3 => ⟨(w3 vs hin).trans wipe_wipe, ?_⟩
      refine hK O _ σ3 Gf2 G2 (by omega) S3 _ fun vk Gf3 G3 t pt rt f3 S3' => ?_
      obtain ⟨b, eb, hb1, tl⟩ := tupK rt
      have hD3 := f3.keep _ _ hD2 nD1
      have fD3 : Gf3 D = none := f3.fz _ _ hD2 nD1 fD2
      refine hV t pt O _ σ3 Gf3 G3 (by omega) S3' _ fun vv Gf4 G4 y py ry f4 S4 => ?_
      have hD4 := f4.keep _ _ hD3 nD1
      have fD4 : Gf4 D = none := f4.fz _ _ hD3 nD1 fD3
      have F4 : Fr (Bx Γ) Hf1 H1 Gf4 G4 := ((fr.trans fy fun _ z => z.elim).trans f3 fun a z => .inl (in1 a z)).trans f4 fun a z => .inl (in1 a z)
      have pr4 : PTx c' Gf4 ks d := pr.mono ((fy.ex.trans f3.ex).trans f4.ex)
      have hb4 := f4.ex _ _ hb1
      have len1 := length_putX ks (t.map Sum.inl) b vv
      refine ⟨ks, t.map Sum.inl, b, eb, hD4, pr4.keys.ex S4.ex, by rw [kV_inl]; exact S4.ex _ _ hb4, lb_lt (by omega), by omega, Gf4, putT d t y, _, by rw [take_snoc hx]; exact py, upd_same, pr4.put t hb4 tl ry, by omega, fD4, S4.ex.mut fD4, ⟨F4.ex, fun a o e nm => ?_, F4.fz, fun a e => ?_⟩, fun a ha => ?_⟩
      · rw [upd_ne (ne_of_none e hD)]; exact F4.keep a o e nm
      · by_cases z : a = D
        · subst z; exact hD
        · rw [upd_ne z] at e; exact F4.dom a e
      · obtain ⟨j, hj⟩ := in2 a ha
        obtain ⟨_, z1, z2⟩ := S4.at_ j _ hj
        exact ⟨z1, by rw [← en, show n + k + i * (ka + kb) + (ka + kb) = n + k + i * (ka + kb) + ka + kb by omega]; exact boxAt_ex z2 fun o e => by rw [upd_ne (apart a ha)]; exact e⟩
    · obtain rfl : i = xs.length := by omega
      rw [List.take_length] at hI
      have last := upto xs.length (Nat.le_refl _)
      exact .inl ⟨W.stop Gf G fr.ex ex, q (.ref D) Gf G _ ⟨d, ⟨xs, px, hI⟩, rfl⟩ ⟨D, _, rfl, hDi, hfD, f1.dom D hD, ks, rfl, pr, by omega⟩ (f1.trans fr fun _ z => .inl z) ((S1.grow fr ex hb).le (by omega))⟩
theorem dtOf_entries : ∀ (ks : List E3) (zs : List (List Int × α)) (d : List E3) (m : List (List Int × α)) {H : Hp}, PTx c H ks zs → PTx c H d m → PTx c H (ks.foldl (fun d p => putX d p.1 p.2.1 p.2.2) d) (zs.foldl (fun d p => putT d p.1 p.2) m)
  | [], [], d, m, _, _, r => r
  | p :: ks, z :: zs, d, m, H, .cons hd t, r => by
    rw [List.foldl_cons, List.foldl_cons]
    refine dtOf_entries ks zs _ _ t ?_
    rw [hd.1]
    exact r.put z.1 hd.2.1 hd.2.2.1 hd.2.2.2
theorem tx_dictZip {K : PySem.W.Frag} {R1 : List (List Int) → Prop} {R : List (List Int × α) → Prop} (ha : TD te Γ k1 (cList (cTup cInt)) R1) (hb : ∀ xs, R1 xs → TD to Γ k2 (cList c) (fun ys => R (dtOf (xs.zip ys)))) : TX (tDictZip P w K (tCons te (tCons to tNil))) Γ (k1 + k2) (fun s => ∃ d, R d ∧ s = .r (opT P w c d)) := fun O n σ Hf H hn S Q q =>
  ha O n σ Hf H (by omega) S _ fun v Hf1 H1 xs px ra f1 S1 => hb xs px O (n + k1) σ Hf1 H1 (by omega) S1 _ fun u Hf2 H2 ys py rb f2 S2 => by
    obtain ⟨b, us, rfl, g1, g2, g3⟩ := rb
    obtain ⟨a, ws, rfl, h1, h2, h3⟩ := (cList (cTup cInt)).mono f2.ex ra
    have mk : ∀ {ws : List V} {xs : List (List Int)} {us : List V} {ys : List α}, Paired ((cTup cInt).rep Hf2) ws xs → Paired (c.rep Hf2) us ys → ∃ ks : List E3, ks.length = min ws.length us.length ∧ PTx c Hf2 ks (xs.zip ys) ∧ ∀ (i : Nat) (x y : V), ws[i]? = some x → us[i]? = some y → ∃ (k : TKey) (q : Addr), ks[i]? = some (k, q, y) ∧ x = V.ref q := by
      intro ws xs us ys hws
      induction hws generalizing us ys with
      | nil => exact fun _ => ⟨[], by simp, .nil, fun i x y h => by simp at h⟩
      | @cons x0 t0 ws' xs' r0 _ ih =>
        intro hus
        cases hus with
        | nil => exact ⟨[], by simp, .nil, fun i x y _ h => by simp at h⟩
        | @cons y0 z0 us' ys' r1 t1 =>
          obtain ⟨ks, l, pr, ent⟩ := ih t1
          obtain ⟨q0, e0, hq0, l0⟩ := tupK r0
          refine ⟨(t0.map Sum.inl, q0, y0) :: ks, by simp [l], .cons ⟨rfl, hq0, l0, r1⟩ pr, fun i x y hx hy => ?_⟩
          cases i with
          | zero =>
            simp at hx hy
            subst hx hy
            exact ⟨_, q0, rfl, e0⟩
          | succ j => simpa using ent j x y (by simpa using hx) (by simpa using hy)
    obtain ⟨ks, len, pr, ent⟩ := mk h2 g2
    refine ⟨a, b, ws, us, ks, rfl, SqL.of (S2.ex _ _ h1), SqL.of (S2.ex _ _ g1), len, pr.keys.ex S2.ex, ent, fun D hD => ?_⟩
    have small := fold_len ks []
    exact q (.ref D) Hf2 _ _ ⟨_, py, rfl⟩ ⟨D, _, rfl, upd_same, S2.ex.back hD, f1.dom D (f2.dom D hD), _, rfl, dtOf_entries ks _ [] [] pr .nil, by simp only [List.length_nil] at small; omega⟩ ((f1.trans f2 fun _ z => .inl z).trans (Fr.newO (M := Bx Γ) hD) fun _ z => .inl z) (by rw [← Nat.add_assoc]; exact S2.grow0 (Fr.newO hD) (S2.ex.trans (Ex.new hD)))
end
end DL

set_option Elab.async false
set_option linter.all false
set_option maxRecDepth 100000
set_option maxHeartbeats 4000000
namespace DL
open PySem PySem.Spec L2
section
variable {S : Stc} {Γ Γ1 Γ2 Γ3 : Ctxt} {k k1 k2 k3 ka kb kk kt ke kn kf kr lv : Nat} {A α β γ δ ρ τ ω σ υ : Type} {c : Cod α} {c' : Cod β} {cr : Cod ρ} {rel : Rl ρ} {c1 : Cod α} {c2 : Cod β} {c3 : Cod γ} {e e2 a b dd o : Expr} {es : List Expr} {pos pos' pos2 pn apos cpos p1 p2 py : Pos} {n : En σ} {l : En τ} {st : Stmt} {sts rest : List Stmt} {w : W α} {nm x : Str} {te to ti tk tv : TE} {p : Po ρ}
/-! ### {t: v for x in xs} -/
/-- what has to hold: the keys and values in their order -/
def wDt {α β : Type} (f : α → W (List Int)) (g : α → W β) (xs : List α) : W (List (List Int × β)) := fun Q => wMap (fun x Q => f x fun t => g x fun y => Q (t, y)) xs fun ps => Q (dtOf ps)
theorem dcT {kx vx tg iter : Expr} {scope : Scope} {f : α → W (List Int)} {g : α → W β} {w : W (List α)} {bd : Nat} (own : List (Str × Nat)) (hw : PWI S Γ k tg iter c w) (nv : NoBxs Γ (own.map (·.2))) (hbd : bd * (ka + kb) ≤ kn)
    (hs : ∀ x, ∃ Γ1 is, PDG (S.blk scope) tg c x (wipeC Γ (own.map (·.2))) Γ1 is ∧ (∀ i ∈ is, i ∈ own.map (·.2)) ∧ PW (S.blk scope) Γ1 ka kx (cTup cInt) (f x) ∧ PW (S.blk scope) Γ1 kb vx c' (g x)) {P : Program} {wd : World} (Q : List (List Int × β) → Prop) (h : w fun xs => (xs.length * (ka + kb) ≤ bd * (ka + kb)) ∧ wDt f g xs Q) :
    TX (tDcX P wd (tI S tg iter) (tGt (S.blk scope) tg) (tE (S.blk scope) kx) (tE (S.blk scope) vx) (own.map (·.2))) Γ (k + kn) (fun s => ∃ d, Q d ∧ s = .r (opT P wd c' d)) := fun O n σ Hf H hn s Q' q =>
  tx_dcX (X := fun xs => (xs.length * (ka + kb) ≤ bd * (ka + kb)) ∧ wDt f g xs Q) (ka := ka) (kb := kb) (kn := kn) (fun xs pre d => ∃ rest ps, xs = pre ++ rest ∧ d = dtOf ps ∧ wMap (fun x Q => f x fun t => g x fun y => Q (t, y)) rest fun zs => Q (dtOf (ps ++ zs))) (hw _ h) (noBxs_mem nv) (fun xs hx => ⟨xs, [], rfl, rfl, by
    have z := hx.2
    unfold wDt at z
    exact z⟩) (fun xs hx => Nat.le_trans hx.1 hbd) (fun xs hx pre x post d hxs ⟨rest, ps, e1, e2, h1⟩ => by
    obtain rfl := split_eq hxs e1
    obtain ⟨Γ1, is, g1, g2, g3, g4⟩ := hs x
    refine ⟨Γ1, is, _, g1, g2, g3 _ h1, fun t pt => (g4 _ pt).imp fun y h2 => ⟨post, ps ++ [(t, y)], by rw [hxs]; simp, by rw [e2, dtOf_snoc], ?_⟩⟩
    have : (fun zs => Q (dtOf (ps ++ [(t, y)] ++ zs))) = fun zs => Q (dtOf (ps ++ ((t, y) :: zs))) := by funext zs; rw [List.append_assoc]; rfl
    rw [this]; exact h2) O n σ Hf H hn s Q' fun v Hf' H' s ⟨d, ⟨xs, hx, rest, ps, e1, e2, h1⟩, es⟩ => q v Hf' H' s ⟨d, by
    have : rest = [] := by
      have e3 := congrArg List.length e1
      rw [List.length_append] at e3
      exact List.length_eq_zero_iff.mp (by omega)
    subst this
    have h1 : Q (dtOf (ps ++ [])) := h1
    rw [List.append_nil, ← e2] at h1
    exact h1, es⟩
theorem xdictZip {wa : W (List (List Int))} {wb : W (List α)} (hg : S.sc.names.lookup ("dict" : Str) = some .globalImplicit) (hm : S.mg "dict" = none) (hg2 : S.sc.names.lookup ("zip" : Str) = some .globalImplicit) (hm2 : S.mg "zip" = none) (ha : PW S Γ k1 e (cList (cTup cInt)) wa) (hb : PW S Γ k2 e2 (cList c) wb)
    (hs : ∀ env : Env, starEach [e, e2] env = (false, eval e env) :: starEach [e2] env) (hs2 : ∀ env : Env, starEach [e2] env = (false, eval e2 env) :: starEach [] env) (hpl : ∀ env : Env, (backTo pos2 (starEach [e2] env)).any (·.1) = false)
    (hs3 : ∀ env : Env, starEach [.Call (.Name "zip" p2) [e, e2] [] pos2] env = (false, eval (.Call (.Name "zip" p2) [e, e2] [] pos2) env) :: starEach [] env) :
    PW S Γ (k1 + k2) (.Call (.Name "dict" pn) [.Call (.Name "zip" p2) [e, e2] [] pos2] [] pos) (cDt S.prog S.w c) (fun Q => wa fun xs => wb fun ys => Q (dtOf (xs.zip ys))) := fun Q q =>
  pd_of (te := tLk (tDictZip S.prog S.w S.K (tCons (tE S e) (tCons (tE S e2) tNil)))) (fun X G => pe_lk (by
      rw [← G.prog, ← G.w, ← G.K]
      exact pe_dictZip (by have := G.room.un; omega) G.calm (glb G hg) (by rw [G.mg]; exact hm) (glb G hg2) (by rw [G.mg]; exact hm2) (pa_cons (tE_ok G) (pa_cons (tE_ok G) pa_nil (hs2 _)) (hs _)) (hs _) (hpl _) (hs3 _)))
    (TX.lk (tx_dictZip (ha _ q) fun xs p => hb _ p))
/-! ### of one's own -/
theorem vb_setX (i : Nat) {mk : α → Sl} {wr : α → WS σ τ ρ} (h : PX S Γ k e mk w) (nb : NoBx Γ i) (hi : S.N[i]? = some nm) (hx : Loc S.sc nm) (hs : ∀ env : Env, env.scope = S.sc → swapsWith e (some (.Name nm pos')) pos.line env = pure false) (hf : S.fn nm = true ∨ S.sc.names.lookup nm = some .local) (hr : ∀ x, PB S (Γ.set i (mk x)) k2 rest rel n l (wr x)) :
    PB S Γ (k + k2) (.Assign [.Name nm pos'] e pos :: rest) rel n l (fun N B C R => w fun x => wr x N B C R) := fun N B C R q =>
  hsr_cons (N1 := fun G => ∃ x, wr x N B C R ∧ G = Γ.set i (mk x)) (fun X G => ps_set (by rw [G.N]; exact G.nd) (by rw [G.N]; exact hi) (loc G hx) (tE_ok G) (hs _ G.sc) (fnOr G hf)) (fun O m σ Hf H hn s D q1 _ _ _ => h.2 _ q O m σ Hf H hn s _ fun v Hf' H' sl ⟨x, px, es⟩ hv f s' => by
    subst es
    refine q1 _ Hf' H' _ ⟨x, px, rfl⟩ ⟨s'.setX hv (h.1 x) (fun a ea ho j sl hj ho' e' => s.noAd (own_fresh hv ea ho).1 j sl hj ho' e') (fun a z => s.fr.dom a z), bxKeep_set nb, f.ex⟩) fun G ⟨x, p, e⟩ => by subst e; exact hr x N B C R p
theorem xnewT : PX S Γ 0 (.Dict [] [] pos) (fun _ : Unit => .r (opT S.prog S.w c [])) (fun Q => Q ()) := ⟨fun _ z => (by cases z), fun Q q O n σ Hf H hn s Q' q' =>
  ⟨tXNew S.prog S.w, fun X G => by rw [← G.prog, ← G.w]; exact pe_xnew, fun a ha => q' (.ref a) Hf _ _ ⟨(), q, rfl⟩ ⟨a, _, rfl, upd_same, s.ex.back ha, ha, [], rfl, .nil, Nat.zero_le _⟩ (Fr.newO ha) (s.grow0 (Fr.newO ha) (s.ex.trans (Ex.new ha)))⟩⟩
theorem xnewD : PX S Γ 0 (.Dict [] [] pos) (fun _ : Unit => .r (opD c [])) (fun Q => Q ()) := ⟨fun _ z => (by cases z), fun Q q O n σ Hf H hn s Q' q' =>
  ⟨tDNewK, fun X G => pe_dnewK, fun a ha => q' (.ref a) Hf _ _ ⟨(), q, rfl⟩ ⟨a, _, rfl, upd_same, s.ex.back ha, ha, [], rfl, .nil, Nat.zero_le _⟩ (Fr.newO ha) (s.grow0 (Fr.newO ha) (s.ex.trans (Ex.new ha)))⟩⟩
/-- x[t] = v -/
theorem vb_putT (i : Nat) {kvs : List (List Int × α)} {wi : W (List Int)} {wr : α → List Int → WS σ τ ρ} (hΓ : Γ[i]? = some (.r (opT S.prog S.w c kvs))) (he : PW S Γ k1 e c w) (hi : PW S Γ k2 a (cTup cInt) wi) (hN : S.N[i]? = some nm) (hv : Vis S.sc nm)
    (hs : ∀ env : Env, swapsWith e (some (.Subscript (.Name nm pos') a pos2)) pos.line env = pure false) (hr : ∀ y t, PB S (Γ.set i (.r (opT S.prog S.w c (putT kvs t y)))) kr rest rel n l (wr y t)) (hd : (nm == ("__debug__" : Str)) = false := by decide) (hcd : (nm == ("__classdict__" : Str)) = false := by decide) :
    PB S Γ (k1 + k2 + kr) (.Assign [.Subscript (.Name nm pos') a pos2] e pos :: rest) rel n l (fun N B C R => kvs.length < LB ∧ w fun y => wi fun t => wr y t N B C R) := fun N B C R q =>
  hsr_cons (N1 := fun G => ∃ y t, wr y t N B C R ∧ G = Γ.set i (.r (opT S.prog S.w c (putT kvs t y)))) (ts := sXPut S.prog S.w (tVar i) (tE S a) (tE S e)) (fun X G => by rw [← G.prog, ← G.w]; exact ps_xput (by have := G.room.un; omega) (pe_slot G hN hv hd hcd) (tE_ok G) (tE_ok G) (hs _))
    (fun O m σ Hf H hn s D q1 _ _ _ => he _ q.2 O m σ Hf H (by omega) s _ fun v Hf1 H1 y py ry f1 s1 => by
      obtain ⟨ad, o, h1, h2, h3, ks, rfl, h4, h5⟩ := s1.at_ i _ hΓ
      refine ⟨.ref ad, h1, hi _ py O (m + k1) σ Hf1 H1 (by omega) s1 _ fun v2 Hf2 H2 t pt rt f2 s2 => ?_⟩
      obtain ⟨b, eb, hb, tl⟩ := tupK rt
      obtain ⟨ad', o', g1, g2, g3, ks', rfl, g4, g5⟩ := s2.at_ i _ hΓ
      rw [h1] at g1
      injection g1 with g1; injection g1 with g1; injection g1 with g1
      subst g1
      have len : ks'.length = kvs.length := g4.length
      have len2 := length_putX ks' (t.map Sum.inl) b v
      have lt := q.1
      refine ⟨ad, ks', t.map Sum.inl, b, rfl, eb, g2, g4.keys.ex s2.ex, by rw [kV_inl]; exact s2.ex _ _ hb, lb_lt (by omega), ?_⟩
      exact q1 σ Hf2 _ _ ⟨y, t, pt, rfl⟩ ⟨by rw [← Nat.add_assoc]; exact s2.wrR hΓ h1 (p := opT S.prog S.w c (putT kvs t y)) ⟨_, rfl, g4.put t hb tl (c.mono f2.ex ry), by omega⟩, bxKeep_set (by unfold NoBx; rw [hΓ]; trivial), f1.ex.trans f2.ex⟩) fun G ⟨y, t, p, e⟩ => by subst e; exact hr y t N B C R p
/-- x[j] = v -/
theorem vb_putD (i : Nat) {kvs : List (Int × α)} {wi : W Int} {wr : α → Int → WS σ τ ρ} (hΓ : Γ[i]? = some (.r (opD c kvs))) (he : PW S Γ k1 e c w) (hi : PW S Γ k2 a cInt wi) (hN : S.N[i]? = some nm) (hv : Vis S.sc nm)
    (hs : ∀ env : Env, swapsWith e (some (.Subscript (.Name nm pos') a pos2)) pos.line env = pure false) (hr : ∀ y t, PB S (Γ.set i (.r (opD c (putD kvs t y)))) kr rest rel n l (wr y t)) (hd : (nm == ("__debug__" : Str)) = false := by decide) (hcd : (nm == ("__classdict__" : Str)) = false := by decide) :
    PB S Γ (k1 + k2 + kr) (.Assign [.Subscript (.Name nm pos') a pos2] e pos :: rest) rel n l (fun N B C R => kvs.length < LB ∧ w fun y => wi fun t => wr y t N B C R) := fun N B C R q =>
  hsr_cons (N1 := fun G => ∃ y t, wr y t N B C R ∧ G = Γ.set i (.r (opD c (putD kvs t y)))) (ts := sDPut (tVar i) (tE S a) (tE S e)) (fun X G => ps_dput (by have := G.room.un; omega) (pe_slot G hN hv hd hcd) (tE_ok G) (tE_ok G) (hs _))
    (fun O m σ Hf H hn s D q1 _ _ _ => he _ q.2 O m σ Hf H (by omega) s _ fun v Hf1 H1 y py ry f1 s1 => by
      obtain ⟨ad, o, h1, h2, h3, ks, rfl, h4, h5⟩ := s1.at_ i _ hΓ
      refine ⟨.ref ad, h1, hi _ py O (m + k1) σ Hf1 H1 (by omega) s1 _ fun v2 Hf2 H2 t pt rt f2 s2 => ?_⟩
      obtain rfl := rt
      obtain ⟨ad', o', g1, g2, g3, ks', rfl, g4, g5⟩ := s2.at_ i _ hΓ
      rw [h1] at g1
      injection g1 with g1; injection g1 with g1; injection g1 with g1
      subst g1
      have len : ks'.length = kvs.length := g4.length
      have len2 := length_putK ks' (Sum.inl t : Key) v
      have lt := q.1
      refine ⟨ad, _, rfl, DPut.k (k := Sum.inl t) g2 (lb_lt (by omega)), ?_⟩
      exact q1 σ Hf2 _ _ ⟨y, t, pt, rfl⟩ ⟨by rw [← Nat.add_assoc]; exact s2.wrR hΓ h1 (p := opD c (putD kvs t y)) ⟨_, rfl, pdc_put g4 t (c.mono f2.ex ry), by omega⟩, bxKeep_set (by unfold NoBx; rw [hΓ]; trivial), f1.ex.trans f2.ex⟩) fun G ⟨y, t, p, e⟩ => by subst e; exact hr y t N B C R p
end
end DL

set_option Elab.async false
set_option linter.all false
set_option maxRecDepth 100000
set_option maxHeartbeats 4000000
namespace DL
open PySem PySem.Spec L2
section
variable {O : Org} {Hf H : Hp} {σ : Stt} {Γ : Ctxt} {n : Nat} {α : Type}
/-- a thing of one's own becomes data -/
theorem Sat.freezeR (S : Sat O Hf H σ Γ n) {i : Nat} {p : OP} (h : Γ[i]? = some (.r p)) {a : Addr} {o : HO} (ea : σ[i]? = some (some (V.ref a))) (ho : H a = some o) {c : Cod α} {x : α} (rp : c.rep (upd Hf a o) (.ref a) x) : Hf a = none ∧ Sat O (upd Hf a o) H σ (Γ.set i (.d c x)) n := by
  obtain ⟨a0, o0, g1, g2, free, _⟩ := S.at_ i _ h
  rw [ea] at g1
  injection g1 with g1; injection g1 with g1; injection g1 with g1
  subst g1
  have up : Ex Hf (upd Hf a o) := Ex.new free
  have other : ∀ (j : Nat) s, j ≠ i → Γ[j]? = some s → s.own = true → σ[j]? ≠ some (some (V.ref a)) := fun j s ne hs os => S.sep i j _ s a (Ne.symm ne) h hs rfl os ea
  refine ⟨free, ⟨by rw [List.length_set]; exact S.len, fun b u e => ?_, fun j s hs => ?_, fun j l sj sl b ne q1 q2 o1 o2 e => ?_, ⟨S.fr.ex.trans up, S.fr.keep, fun b u e nm z => ?_, S.fr.dom⟩, fun b ⟨j, s, q1, q2, q3⟩ => ?_⟩⟩
  · by_cases q : b = a
    · subst q; rw [upd_same] at e; cases e; exact ho
    · rw [upd_ne q] at e; exact S.ex b u e
  · rcases sget hs with ⟨e, z⟩ | ⟨ne, hs⟩
    · subst e z; exact ⟨_, ea, rp⟩
    · have q := S.at_ j s hs
      cases s with
      | un => trivial
      | d c' y => obtain ⟨v, w1, w2⟩ := q; exact ⟨v, w1, c'.mono up w2⟩
      | l c' ys =>
        obtain ⟨a', vs', w1, w2, w3, w4, w5⟩ := q
        have away : a' ≠ a := fun z => by subst z; exact other j _ ne hs rfl w1
        exact ⟨a', vs', w1, w2, by rw [upd_ne away]; exact w3, paired_mono w4 (fun _ _ r => c'.mono up r), w5⟩
      | bx b =>
        obtain ⟨w1, w2, w3⟩ := q
        have away : b ≠ a := fun z => by subst z; exact other j _ ne hs rfl w1
        exact ⟨w1, by rw [upd_ne away]; exact w2, w3⟩
      | r p' =>
        obtain ⟨a', o', w1, w2, w3, w4⟩ := q
        have away : a' ≠ a := fun z => by subst z; exact other j _ ne hs rfl w1
        exact ⟨a', o', w1, w2, by rw [upd_ne away]; exact w3, p'.mono up w4⟩
  · rcases sget q1 with ⟨_, z⟩ | ⟨_, q1⟩
    · subst z; cases o1
    rcases sget q2 with ⟨_, z⟩ | ⟨_, q2⟩
    · subst z; cases o2
    exact S.sep j l sj sl b ne q1 q2 o1 o2 e
  · have away : b ≠ a := fun q => by
      subst q
      rcases S.mine b ⟨i, _, h, rfl, ea⟩ with w | w
      · exact nm w
      · rw [w] at e; cases e
    rw [upd_ne away]; exact S.fr.fz b u e nm z
  · rcases sget q1 with ⟨_, z⟩ | ⟨_, q1⟩
    · subst z; cases q2
    exact S.mine b ⟨j, s, q1, q2, q3⟩
end
section
variable {S : Stc} {Γ Γ1 Γ2 Γ3 : Ctxt} {k k1 k2 k3 ka kb kk kt ke kn kf kr lv : Nat} {A α β γ δ ρ τ ω σ υ : Type} {c : Cod α} {c' : Cod β} {cr : Cod ρ} {rel : Rl ρ} {c1 : Cod α} {c2 : Cod β} {c3 : Cod γ} {e e2 a b dd o : Expr} {es : List Expr} {pos pos' pos2 pn apos cpos p1 p2 py : Pos} {n : En σ} {l : En τ} {st : Stmt} {sts rest : List Stmt} {w : W α} {nm x : Str} {te to ti tk tv : TE} {p : Po ρ}
theorem vb_freezeD (i : Nat) {kvs : List (Int × α)} {ws : WS σ τ ρ} (h : Γ[i]? = some (.r (opD c kvs))) (nb : NoBx Γ i) (hs : PB S (Γ.set i (.d (cDic c) kvs)) k sts rel n l ws) : PB S Γ k sts rel n l ws := fun N B C R q O m σ Hf H hn s D q1 q2 q3 q4 => by
  obtain ⟨a, o, e1, e2, e3, ks, rfl, e4, e5⟩ := s.at_ i _ h
  have up : Ex Hf (upd Hf a (.dK ks)) := Ex.new e3
  obtain ⟨_, s'⟩ := s.freezeR h e1 e2 (c := cDic c) (x := kvs) ⟨a, ks, rfl, upd_same, e4.mono up, e5⟩
  have bk := bxKeep_set (s := .d (cDic c) kvs) nb
  exact hs N B C R q O m σ _ H hn s' D (fun _ _ _ _ a f => q1 _ _ _ _ a ⟨f.sat, bk.trans f.bx, up.trans f.ex⟩) (fun _ _ _ _ a f => q2 _ _ _ _ a ⟨f.sat, bk.trans f.bx, up.trans f.ex⟩)
    (fun _ _ _ _ a f => q3 _ _ _ _ a ⟨f.sat, bk.trans f.bx, up.trans f.ex⟩) fun _ _ _ _ _ _ a r f => q4 _ _ _ _ _ _ a r ⟨f.sat, bk.trans f.bx, up.trans f.ex⟩
/-- a locked dict of one's own -/
def opL (P : Program) (w : World) (c : Cod α) (kvs : List (List Int × α)) (ob : Obj) : OP where
  φ := fun Hf a o => ∃ ks, o = .frz ob (dX P w a ks) ∧ PTx c Hf ks kvs ∧ ks.length ≤ LB
  mono := fun e ⟨ks, h1, h2, h3⟩ => ⟨ks, h1, h2.mono e, h3⟩
theorem vb_freezeT (i : Nat) {kvs : List (List Int × α)} {ws : WS σ τ ρ} (h : Γ[i]? = some (.r (opT S.prog S.w c kvs))) (nb : NoBx Γ i) (hs : PB S (Γ.set i (.d (cDt S.prog S.w c) kvs)) k sts rel n l ws) : PB S Γ k sts rel n l ws := fun N B C R q =>
  hsr_ss (ts := tLkS i (tSs S sts)) (fun X G => pss_lk i (tSs_ok G)) fun O m σ Hf H hn s D q1 q2 q3 q4 => by
    obtain ⟨a, o, e1, e2, e3, ks, rfl, e4, e5⟩ := s.at_ i _ h
    refine ⟨a, _, e1, e2, True.intro, fun ob => ?_⟩
    have lt : i < Γ.length := (List.getElem?_eq_some_iff.mp h).1
    have s1 := s.wrR h e1 (p := opL S.prog S.w c kvs ob) (o := .frz ob (dX S.prog S.w a ks)) ⟨ks, rfl, e4, e5⟩
    have up : Ex Hf (upd Hf a (.frz ob (dX S.prog S.w a ks))) := Ex.new e3
    obtain ⟨_, s2⟩ := s1.freezeR (i := i) (List.getElem?_set_self lt) e1 upd_same (c := cDt S.prog S.w c) (x := kvs) ⟨a, ob, ks, rfl, upd_same, e4.mono up, e5⟩
    rw [List.set_set] at s2
    have bk := bxKeep_set (s := .d (cDt S.prog S.w c) kvs) nb
    exact hs N B C R q O m σ _ _ hn s2 D (fun _ _ _ _ a f => q1 _ _ _ _ a ⟨f.sat, bk.trans f.bx, up.trans f.ex⟩) (fun _ _ _ _ a f => q2 _ _ _ _ a ⟨f.sat, bk.trans f.bx, up.trans f.ex⟩)
      (fun _ _ _ _ a f => q3 _ _ _ _ a ⟨f.sat, bk.trans f.bx, up.trans f.ex⟩) fun _ _ _ _ _ _ a r f => q4 _ _ _ _ _ _ a r ⟨f.sat, bk.trans f.bx, up.trans f.ex⟩
/-- x = {t: v for ..}, x a plain local: a dict of one's own -/
theorem vb_setDcT (i : Nat) {kx vx tg iter : Expr} {scope : Scope} (own : List (Str × Nat)) {f : α → W (List Int)} {g : α → W β} {w : W (List α)} {wr : List (List Int × β) → WS σ τ ρ} (hw : PWI S Γ k tg iter c w) (nv : NoBxs Γ (own.map (·.2))) (nb : NoBx Γ i) (hi : S.N[i]? = some nm) (hyl : S.sc.names.lookup nm = some .local) (hl : (py.line == pos.line) = true) (hk : S.sc.kind = .function)
    (ha : (scope.names.any fun (n, k) => n == nm && (k == .local || k == .cell)) = false) (ok : blkC S.N S.sc scope own = true) (hfs : ∀ (env : Env) x, foldedSetIterable iter env x = pure x)
    (hs : ∀ x, ∃ Γ1 is, PDG (S.blk scope) tg c x (wipeC Γ (own.map (·.2))) Γ1 is ∧ (∀ i ∈ is, i ∈ own.map (·.2)) ∧ PW (S.blk scope) Γ1 0 kx (cTup cInt) (f x) ∧ PW (S.blk scope) Γ1 0 vx c' (g x)) (hr : ∀ d, PB S (Γ.set i (.r (opT S.prog S.w c' d))) k2 rest rel n l (wr d)) :
    PB S Γ (k + 0 + k2) (.Assign [.Name nm py] (.DictComp kx vx [⟨tg, iter, [], 0⟩] scope pos) pos' :: rest) rel n l (fun N B C R => w fun xs => wDt f g xs fun d => wr d N B C R) := fun N B C R q =>
  hsr_cons (N1 := fun G => ∃ d, wr d N B C R ∧ G = Γ.set i (.r (opT S.prog S.w c' d))) (ts := tAsg (tDcX S.prog S.w (tI S tg iter) (tGt (S.blk scope) tg) (tE (S.blk scope) kx) (tE (S.blk scope) vx) (own.map (·.2))) (gName i)) (fun X G => by
      rw [← G.prog, ← G.w]
      exact ps_setDcX (by rw [G.N]; exact hi) (by rw [G.sc]; exact hyl) (sw_dc (by rw [G.sc]; exact hk) (by rw [G.sc]; exact hyl) hl ha) (by have := G.room.un; omega) G.calm (by rw [G.N]; exact G.nd) (tI_ok G) (blkOk_by (by rw [G.N, G.sc]; exact ok)) (fun s H C cl fp => tGt_ok (G.blk scope s H C cl fp)) (fun s H C cl fp => tE_ok (G.blk scope s H C cl fp)) (fun s H C cl fp => tE_ok (G.blk scope s H C cl fp)) (hfs _))
    (fun O m σ Hf H hn s D q1 _ _ _ => (show tDcX S.prog S.w (tI S tg iter) (tGt (S.blk scope) tg) (tE (S.blk scope) kx) (tE (S.blk scope) vx) (own.map (·.2)) σ H (fun v G => gName i v σ G D.nx) from dcT (ka := 0) (kb := 0) (kn := 0) (bd := 0) own hw nv (Nat.le_refl _) hs (fun d => wr d N B C R) (by
      have : (fun xs : List α => (xs.length * (0 + 0) ≤ 0 * (0 + 0)) ∧ wDt f g xs fun d => wr d N B C R) = fun xs => wDt f g xs fun d => wr d N B C R := by funext xs; exact propext ⟨fun z => z.2, fun z => ⟨Nat.le_refl _, z⟩⟩
      rw [this]; exact q) O m σ Hf H hn s _ fun v Hf' H' sl ⟨d, pd, es⟩ hv f s' => by
      subst es
      exact q1 _ Hf' H' _ ⟨d, pd, rfl⟩ ⟨s'.setX hv (fun z => by cases z) (fun a ea ho j sl hj ho' e' => s.noAd (own_fresh hv ea ho).1 j sl hj ho' e') (fun a z => s.fr.dom a z), bxKeep_set nb, f.ex⟩)) fun G ⟨d, p, e⟩ => by subst e; exact hr d N B C R p
end
end DL

set_option Elab.async false
set_option linter.all false
set_option maxRecDepth 100000
set_option maxHeartbeats 4000000
namespace DL
open PySem PySem.Spec L2
/-! ### t * k, whatever k -/
theorem tup_same (l : Addr) (items : Array Value) (n : Nat) (dd : Option Addr) (sl : Array (Option Value)) (x : Int) (u : Tok) (c0 : (decide (x < -(2 ^ 63)) || decide (x ≥ 2 ^ 63)) = false) (c1 : (items.isEmpty || x == 1) = true) :
    Meets (Builtin.«tuple.__mul__» ⟨[.ref l, .int x u], []⟩) (fun _ R s => s.heap.get? l = some { cls := .type "tuple", dict := dd, data := .seq items n, slots := sl } ∧ R (.ok (.ret (Value.ref l))) s) :=
  .of_wp fun prog w A R s h => by
    obtain ⟨hp, g, d, tk, os⟩ := s
    obtain ⟨hl, h⟩ := h
    have f1 := AutoSeq1.idx_int
    wp_walk using wpAny_loadPart' hl
    repeat (first
      | (refine wpAny_ite_false (decide_eq_false (by rw [c0]; exact Bool.false_ne_true)) ?_; wp_walk using wpAny_loadPart' hl)
      | (refine wpAny_ite_true (decide_eq_true (by rw [c1])) ?_; wp_walk using wpAny_loadPart' hl))
    exact ⟨_, rfl, h⟩
theorem tup_none (l : Addr) (items : Array Value) (n : Nat) (dd : Option Addr) (sl : Array (Option Value)) (x : Int) (u : Tok) (c0 : (decide (x < -(2 ^ 63)) || decide (x ≥ 2 ^ 63)) = false) (c1 : (items.isEmpty || x == 1) = false) (c2 : (decide (x ≤ 0) || items.isEmpty) = true) :
    Meets (Builtin.«tuple.__mul__» ⟨[.ref l, .int x u], []⟩) (fun _ R s => s.heap.get? l = some { cls := .type "tuple", dict := dd, data := .seq items n, slots := sl } ∧
      R (.ok (.ret (Value.ref s.heap.objs.size))) { s with heap := s.heap.push { cls := Value.type "tuple", data := Data.seq #[] }, toks := s.toks }) :=
  .of_wp fun prog w A R s h => by
    obtain ⟨hp, g, d, tk, os⟩ := s
    obtain ⟨hl, h⟩ := h
    have f1 := AutoSeq1.idx_int
    wp_walk using wpAny_loadPart' hl
    repeat (first
      | (refine wpAny_ite_false (decide_eq_false (by rw [c0]; exact Bool.false_ne_true)) ?_; wp_walk using wpAny_loadPart' hl)
      | (refine wpAny_ite_false (decide_eq_false (by rw [c1]; exact Bool.false_ne_true)) ?_; wp_walk using wpAny_loadPart' hl)
      | (refine wpAny_ite_true (decide_eq_true (by rw [c2])) ?_; wp_walk using wpAny_loadPart' hl))
    exact ⟨_, rfl, h⟩
def rRepA (K : PySem.W.Frag) : R2 := fun x y H Q => ∃ l k xs, x = .ref l ∧ y = .int k ∧ SqT K H l xs ∧ xs ≠ [] ∧ 0 ≤ k ∧ k ≤ 1000 ∧ xs.length ≤ 1000 ∧ (k = 1 → Q (.ref l) H) ∧ (k ≠ 1 → ∀ p, H p = none → Q (.ref p) (upd H p (.tup (List.replicate k.toNat xs).flatten)))
theorem op_repA {X : Cx} : OpR X (binaryOp .Mult) (rRepA X.K) := by
  intro pins s σ H x y v u Q I rx ry h
  obtain ⟨l, k, xs, rfl, rfl, hT, some_, h0, h1, hz, q1, q2⟩ := h
  by_cases big : 2 ≤ k
  · exact op_repT pins s σ H _ _ v u Q I rx ry ⟨l, k, xs, rfl, rfl, hT, some_, big, h1, hz, q2 (by omega)⟩
  cases rx
  obtain ⟨t, rfl⟩ := ry
  obtain ⟨its, r, ⟨⟨cls, dd, data, sl⟩, ho, hc, n, hd⟩, hs⟩ := I.tuple hT
  simp only at hc hd
  subst hc hd
  have ne : its.toArray.isEmpty = false := by
    cases its with
    | nil =>
      cases r
      exact absurd rfl some_
    | cons a b => rfl
  have c0 : (decide (k < -(2 ^ 63)) || decide (k ≥ 2 ^ 63)) = false := by
    rw [decide_eq_false (show ¬ k < -(2 ^ 63) by omega), decide_eq_false (show ¬ k ≥ 2 ^ 63 by omega)]; rfl
  refine wpAny_binaryOp_repeat_ref (T := "tuple") (U := "int") (by decide) ⟨_, ho, rfl⟩ (fun s' => typeIs_int s' k t) noFill_tuple_mul F.fills_int_mul F.slot_int_rmul repeat_tuple F.slot_int_index.lookup
    (call_meets F.slot_int_rmul (typeIs_int s k t) F.entry_int_rmul (F.args_int_rmul_2 _ _) (int_rmul_tuple k t l its.toArray n dd sl) ⟨ho, rfl, ⟨_, ho, rfl⟩, ?_⟩)
  by_cases one : k = 1
  · subst one
    exact call_meets F.slot_tuple_mul ⟨_, ho, rfl⟩ F.entry_tuple_mul (F.args_tuple_mul_2 _ _) (tup_same l its.toArray n dd sl 1 t c0 (by rw [ne]; rfl)) ⟨ho, .ref l, H, I, rfl, q1 rfl⟩
  · obtain rfl : k = 0 := by omega
    exact call_meets F.slot_tuple_mul ⟨_, ho, rfl⟩ F.entry_tuple_mul (F.args_tuple_mul_2 _ _) (tup_none l its.toArray n dd sl 0 t c0 (by rw [ne]; rfl) rfl) ⟨ho, .ref s.heap.objs.size, _, I.laid (t' := s.toks) (o := .tup []) (fun b ob q => Heap.get?_push_of_some _ q) (Nat.le_refl _) ⟨Nat.zero_le _, [], .nil, PyProof.Rows.IsTup.new _ _⟩, rfl, q2 one _ (I.hok.fresh (Nat.le_refl _))⟩
section
variable {S : Stc} {Γ Γ1 Γ2 Γ3 : Ctxt} {k k1 k2 k3 ka kb kk kt ke kn kf kr lv : Nat} {A α β γ δ ρ τ ω σ υ : Type} {c : Cod α} {c' : Cod β} {cr : Cod ρ} {rel : Rl ρ} {c1 : Cod α} {c2 : Cod β} {c3 : Cod γ} {e e2 a b dd o : Expr} {es : List Expr} {pos pos' pos2 pn apos cpos p1 p2 py : Pos} {n : En σ} {l : En τ} {st : Stmt} {sts rest : List Stmt} {w : W α} {nm x : Str} {te to ti tk tv : TE} {p : Po ρ} {K : PySem.W.Frag}
theorem repA {xs : List α} {i : Int} : RW (rRepA K) (cTup c) xs cInt i (cTup c) (fun Q => (xs ≠ [] ∧ (0 ≤ i ∧ i ≤ 1000) ∧ xs.length ≤ 1000) ∧ Q (repL xs i)) := rwc fun h => by
  obtain ⟨hne, h, hl⟩ := h
  intro Hf H v u e ⟨p, vs, h1, h2, h3, h4⟩ h5 Q q
  obtain rfl := h5
  have hlen : vs.length = xs.length := h3.length
  have hm : xs.length * i.toNat ≤ 1000000 := Nat.le_trans (Nat.mul_le_mul hl (show i.toNat ≤ 1000 by omega)) (by decide)
  have hll : (List.replicate i.toNat vs).flatten.length = xs.length * i.toNat := by rw [List.length_flatten, List.map_replicate, List.sum_replicate_nat, hlen, Nat.mul_comm]
  refine ⟨p, i, vs, h1, rfl, SqT.of (e _ _ h2), fun z => hne (by rw [z] at hlen; exact List.eq_nil_of_length_eq_zero hlen.symm), h.1, h.2, by omega, fun z => ?_, fun _ p hp => ?_⟩
  · subst z
    have one : repL xs 1 = xs := by unfold repL; simp
    rw [h1] at *
    exact q _ Hf H _ rfl (by rw [one]; exact ⟨p, vs, rfl, h2, h3, h4⟩) Fr.refl e
  · have hpf := e.back hp
    refine q _ _ _ _ rfl ⟨p, _, rfl, upd_same, ?_, by rw [hll]; exact hm⟩ (Fr.new e hp) (e.both hpf)
    exact paired_rep (paired_mono h3 fun _ _ z => c.mono (Ex.new (o := .tup (List.replicate i.toNat vs).flatten) hpf) z) i.toNat
theorem repAG : ∀ X, Good S X → OpR X (binaryOp .Mult) (rRepA S.K) := fun X G => by rw [← G.K]; exact op_repA
/-! ### xs.index(y) -/
theorem idx_first : ∀ {xs : List Int} {y : Int}, y ∈ xs → xs[xs.idxOf y]? = some y ∧ ∀ m z, m < xs.idxOf y → xs[m]? = some z → z ≠ y
  | [], _, h => absurd h List.not_mem_nil
  | x :: xs, y, h => by
    by_cases e : x = y
    · subst e
      rw [List.idxOf_cons_self]
      exact ⟨rfl, fun m z h => absurd h (Nat.not_lt_zero _)⟩
    · have h' : y ∈ xs := (List.mem_cons.mp h).resolve_left fun z => e z.symm
      have en : (x == y) = false := beq_eq_false_iff_ne.mpr e
      rw [List.idxOf_cons, en]
      show (x :: xs)[xs.idxOf y + 1]? = some y ∧ ∀ m z, m < xs.idxOf y + 1 → _
      obtain ⟨i1, i2⟩ := idx_first h'
      refine ⟨by simpa using i1, fun m z hm hz => ?_⟩
      cases m with
      | zero =>
        have : x = z := by simpa using hz
        rw [← this]; exact e
      | succ j => exact i2 j z (by omega) (by simpa using hz)
theorem xindex {wa : W (List Int)} {wb : W Int} (ha : PW S Γ k1 o (cList cInt) wa) (hb : PW S Γ k2 e cInt wb) (hbase : ∀ env : Env, attributeBase o "index" env (eval o env) = eval o env)
    (hfew : FewOk p2 e) (hline : (p1.endLine == p2.line) = true) (hs : ∀ env : Env, starEach [e] env = (false, eval e env) :: starEach [] env) :
    PW S Γ (k1 + k2) (.Call (.Attribute o "index" p1) [e] [] p2) cInt (fun Q => wa fun xs => wb fun y => y ∈ xs ∧ Q (xs.idxOf y : Int)) := fun Q q =>
  pd_of (te := tBM S.K "list" (rIndex S.K) (tE S o) (tCons (tE S e) tNil)) (fun X G => by
      rw [← G.K]
      exact pe_bm PySem.F.plainAttrs_list PySem.F.slot_list_index PySem.F.type_list_index mt_index (tE_ok G) (pa_cons (tE_ok G) pa_nil (hs _)) (hbase _) (hfew _) hline (hs _) rfl)
    fun O n σ Hf H hn s Q' q' => ha _ q O n σ Hf H (by omega) s _ fun v Hf1 H1 xs px r f1 s1 => by
      obtain ⟨a, vs, rfl, h2, h3, h4⟩ := r
      refine ⟨.inl ⟨rfl, _, SqL.of (s1.ex _ _ h2)⟩, ?_⟩
      refine hb _ px O (n + k1) σ Hf1 H1 (by omega) s1 _ fun u Hf2 H2 y py ry f2 s2 => ?_
      obtain rfl := ry
      have e0 := ints_of_paired h3
      subst e0
      obtain ⟨mem, qy⟩ := py
      obtain ⟨i1, i2⟩ := idx_first mem
      refine ⟨a, xs.map V.int, .int y, xs.idxOf y, .int y, rfl, rfl, SqL.of (s2.ex _ _ (f2.ex _ _ h2)), rfl, List.all_eq_true.mpr fun z hz => ?_, by rw [List.getElem?_map, i1]; rfl, beq_self_eq_true y, fun m z hm hz => ?_, q' _ Hf2 H2 _ qy rfl (f1.trans f2 fun _ z => .inl z) (by rw [← Nat.add_assoc]; exact s2)⟩
      · obtain ⟨i, _, rfl⟩ := List.mem_map.mp hz
        rfl
      · rw [List.getElem?_map] at hz
        obtain ⟨i, hi, rfl⟩ := Option.map_eq_some_iff.mp hz
        exact beq_eq_false_iff_ne.mpr (i2 m i hm hi)
end
end DL

set_option Elab.async false
set_option linter.all false
set_option maxRecDepth 100000
set_option maxHeartbeats 4000000
namespace DL
open PySem PySem.Spec L2
theorem nn_int : NotN cInt := ⟨fun H v x h e => by rw [show v = V.int x from h] at e; cases e⟩
theorem nn_list {α : Type} {c : Cod α} : NotN (cList c) := ⟨fun H v x ⟨a, _, h, _⟩ e => by rw [h] at e; cases e⟩
theorem nn_t2 {α β : Type} {c : Cod α} {d : Cod β} : NotN (cT2 c d) := ⟨fun H v x ⟨a, _, _, h, _⟩ e => by rw [h] at e; cases e⟩
def eOptL {α : Type} [DecidableEq α] {c : Cod α} (q : EqC c) : EqC (cOpt (cList c)) where
  D := fun o => match o with | none => .none | some x => (eList q).D x
  n := q.n + 2
  dp := fun K H v o h => match o, h with
    | none, h => by obtain rfl := (show v = .non from h); exact .non
    | some x, h => (eList q).dp K H v x h
  lay := fun o => match o with | none => rfl | some x => (eList q).lay x
  dep := fun o => match o with | none => by simp [PyData.depth] | some x => Nat.le_succ_of_le ((eList q).dep x)
  eqv := fun x y => match x, y with
    | none, none => by simp [PyData.eqv]
    | none, some y => by show PyData.eqv .none (.list _) = _; simp [PyData.eqv]
    | some x, none => by show PyData.eqv (.list _) .none = _; simp [PyData.eqv]
    | some x, some y => ((eList q).eqv x y).trans (decide_eq_decide.mpr ⟨fun h => by rw [h], fun h => Option.some.inj h⟩)
section
variable {S : Stc} {Γ Γ1 Γ2 Γ3 : Ctxt} {k k1 k2 k3 ka kb kk kt ke kn kf kr lv : Nat} {A α β γ δ ρ τ ω σ υ : Type} {c : Cod α} {c' : Cod β} {cr : Cod ρ} {rel : Rl ρ} {c1 : Cod α} {c2 : Cod β} {c3 : Cod γ} {e e1 e2 a b dd o : Expr} {es : List Expr} {pos pos' pos2 pn apos cpos p1 p2 py q1 q2 : Pos} {n : En σ} {l : En τ} {st : Stmt} {sts rest : List Stmt} {w : W α} {nm x xn x1 x2 : Str} {te to ti tk tv : TE} {p : Po ρ} {K : PySem.W.Frag}
/-! ### f(p2 = e2, p1 = e1) -/
theorem xcalR2 {m : α × β × Unit → W ρ} {wa : W α} {wb : W β} (C : CalR S.prog S.w S.K S.mg S.base xn [x1, x2] lv (spW (fun _ (t : α × β × Unit) => [.d c1 t.1, .d c2 t.2.1]) kf m cr)) (hl : lv ≤ S.lv) (hg : S.sc.names.lookup xn = some .globalImplicit) (h2 : PW S Γ k2 e2 c2 wb) (h1 : PW S Γ k1 e1 c1 wa)
    (hall : ∀ env : Env, (backToKw pos (keywordEach [⟨some x2, e2, q2⟩, ⟨some x1, e1, q1⟩] env)).all (·.1.isSome) = true) (hks : ∀ env : Env, (backToKw pos (keywordEach [⟨some x2, e2, q2⟩, ⟨some x1, e1, q1⟩] env)).filterMap (·.1) = [x2, x1])
    (hpl : ∀ env : Env, ((backTo pos (starEach [] env)).any (·.1) || (backToKw pos (keywordEach [⟨some x2, e2, q2⟩, ⟨some x1, e1, q1⟩] env)).any (·.1.isNone)) = false) (hdb : (xn == ("__debug__" : Str)) = false := by decide) :
    PW S Γ (k2 + k1 + kf) (.Call (.Name xn pn) [] [⟨some x2, e2, q2⟩, ⟨some x1, e1, q1⟩] pos) cr (fun Q => wb fun y => wa fun x => m (x, y, ()) Q) := fun Q0 q0 => by
  obtain ⟨f, fd, Fo, hm, hk, _, bd⟩ := C.ex
  exact pd_of (te := tCallN0 2 (spW (fun _ (t : α × β × Unit) => [.d c1 t.1, .d c2 t.2.1]) kf m cr) _ E0 (tCons (tE S e2) (tCons (tE S e1) tNil))) (fun X G => pe_callN0 (fnG Fo G) (G.room.mono hl) (glb G hg) (by rw [G.mg]; exact hm) (by rw [G.K]; exact hk) (by rw [G.K]; exact bd) pass0 (pk_cons (tE_ok G) (pk_cons (tE_ok G) pk_nil)) (hall _) (hks _) hdb (hpl _))
    fun O n σ Hf H hn s Q q => h2 _ q0 O n σ Hf H (by omega) s _ fun v1 Hf1 H1 y' py r1 f1 s1 => h1 _ py O (n + k2) σ Hf1 H1 (by omega) s1 _ fun v2 Hf2 H2 x' px r2 f2 s2 => by
      refine ⟨rfl, ((x', y', ()), Q0), 0, n + k2 + k1, Hf2, px, (by show n + k2 + k1 + kf ≤ LIM; omega), s2.ex, ⟨r2, c2.mono f2.ex r1, trivial⟩, fun w hw => by simp at hw, fun w Hf3 H3 u pu r f3 ex3 _ => ?_⟩
      have f3' : Fr (fun _ => False) Hf2 H2 Hf3 H3 := f3.mono fun w hw => by simp at hw
      exact q w Hf3 H3 u pu r ((f1.trans f2 fun _ z => .inl z).trans f3' fun _ z => z.elim) ((s2.grow0 f3' ex3).le (by omega))
/-! ### len of an instance -/
theorem rc_lenOwnW {C : Addr} {F : Hp → List (Str × V) → ω → Prop} {hm : ∀ {H H' fs y}, Ex H H' → F H fs y → F H' fs y} {gl : ω → Int} {y : ω} (hb : 0 ≤ gl y ∧ gl y < 9223372036854775808) : RC1 (rLenOwn C (spP (fun (a : ω) => [.d (cIns C F hm) a]) (fun _ => True) cInt gl)) (cIns C F hm) y cInt (· = gl y) := rc_lenOwn trivial hb
theorem xlenO {C : Addr} {F : Hp → List (Str × V) → ω → Prop} {hm : ∀ {H H' fs y}, Ex H H' → F H fs y → F H' fs y} {gl : ω → Int} {w : W ω} (E : LenA S.prog S.w S.K S.mg S.base C lv (spP (fun (a : ω) => [.d (cIns C F hm) a]) (fun _ => True) cInt gl)) (hl : lv + 1 ≤ S.lv) (hg : S.sc.names.lookup ("len" : Str) = some .globalImplicit) (hmg : S.mg "len" = none) (h : PW S Γ k e (cIns C F hm) w)
    (he : ∀ env : Env, starEach [e] env = (false, eval e env) :: starEach [] env) : PW S Γ k (.Call (.Name "len" pn) [e] [] pos) cInt (fun Q => w fun y => (0 ≤ gl y ∧ gl y < 9223372036854775808) ∧ Q (gl y)) :=
  xb1 (lenOG E hl) hg hmg PySem.boot_len h (fun _ => rcc fun h => rc_lenOwnW h) he
/-! ### what is not None -/
theorem vb_some (i : Nat) {z : Option α} {ws : α → WS σ τ ρ} (h : Γ[i]? = some (.d (cOpt c) z)) (nb : NoBx Γ i) (hs : ∀ y, PB S (Γ.set i (.d c y)) k sts rel n l (ws y)) : PB S Γ k sts rel n l (fun N B C R => ∃ y, z = some y ∧ ws y N B C R) := fun N B C R ⟨y, ez, q⟩ O m σ Hf H hn s D q1 q2 q3 q4 => by
  subst ez
  obtain ⟨v, e1, r⟩ := s.at_ i _ h
  have s2 := s.set (i := i) (c := c) (x := y) r
  have same : σ.set i (some v) = σ := by
    apply List.ext_getElem?
    intro j
    by_cases e : j = i
    · subst e
      rw [List.getElem?_set_self (List.getElem?_eq_some_iff.mp e1).1, e1]
    · rw [List.getElem?_set_ne (Ne.symm e)]
  rw [same] at s2
  have bk := bxKeep_set (s := .d c y) nb
  exact hs y N B C R q O m σ Hf H hn s2 D (fun _ _ _ _ a f => q1 _ _ _ _ a ⟨f.sat, bk.trans f.bx, f.ex⟩) (fun _ _ _ _ a f => q2 _ _ _ _ a ⟨f.sat, bk.trans f.bx, f.ex⟩)
    (fun _ _ _ _ a f => q3 _ _ _ _ a ⟨f.sat, bk.trans f.bx, f.ex⟩) fun _ _ _ _ _ _ a r f => q4 _ _ _ _ _ _ a r ⟨f.sat, bk.trans f.bx, f.ex⟩
/-- a list of one's own whose items may be None from now on -/
theorem vb_optL (i : Nat) {xs : List α} {ws : WS σ τ ρ} (h : Γ[i]? = some (.l c xs)) (nb : NoBx Γ i) (hs : PB S (Γ.set i (.l (cOpt c) (xs.map some))) k sts rel n l ws) : PB S Γ k sts rel n l ws := fun N B C R q O m σ Hf H hn s D q1 q2 q3 q4 => by
  obtain ⟨a, vs, e1, e2, e3, e4, e5⟩ := s.at_ i _ h
  have s2 := s.wr h e1 (c := cOpt c) (xs := xs.map some) (opt_go e4) e5
  have same : upd H a (.lst vs) = H := by
    funext b
    by_cases e : b = a
    · subst e; rw [upd_same, e2]
    · rw [upd_ne e]
  rw [same] at s2
  have bk := bxKeep_set (s := .l (cOpt c) (xs.map some)) nb
  exact hs N B C R q O m σ Hf H hn s2 D (fun _ _ _ _ a f => q1 _ _ _ _ a ⟨f.sat, bk.trans f.bx, f.ex⟩) (fun _ _ _ _ a f => q2 _ _ _ _ a ⟨f.sat, bk.trans f.bx, f.ex⟩)
    (fun _ _ _ _ a f => q3 _ _ _ _ a ⟨f.sat, bk.trans f.bx, f.ex⟩) fun _ _ _ _ _ _ a r f => q4 _ _ _ _ _ _ a r ⟨f.sat, bk.trans f.bx, f.ex⟩
end
end DL

set_option Elab.async false
set_option linter.all false
set_option maxRecDepth 100000
set_option maxHeartbeats 4000000
namespace DL
open PySem PySem.Spec L2
/-! ### __init__ of any number of attributes -/
abbrev FL := List (Str × Sl)
def FLok (H : Hp) : List (Str × V) → FL → Prop
  | [], [] => True
  | p :: fs, q :: fl => (p.1 = q.1 ∧ match q.2 with
    | .d c x => c.rep H p.2 x
    | _ => False) ∧ FLok H fs fl
  | _, _ => False
theorem FLok.mono {H G : Hp} (e : Ex H G) : ∀ {fs : List (Str × V)} {fl : FL}, FLok H fs fl → FLok G fs fl
  | [], [], _ => trivial
  | [], _ :: _, h => h.elim
  | _ :: _, [], h => h.elim
  | p :: fs, (g, s) :: fl, h => by
    obtain ⟨⟨h1, h2⟩, h3⟩ := h
    refine ⟨⟨h1, ?_⟩, h3.mono e⟩
    cases s with
    | d c x => exact c.mono e h2
    | un => exact h2
    | l c x => exact h2
    | bx a => exact h2
    | r p => exact h2
theorem FLok.len {H : Hp} : ∀ {fs : List (Str × V)} {fl : FL}, FLok H fs fl → fs.length = fl.length
  | [], [], _ => rfl
  | [], _ :: _, h => h.elim
  | _ :: _, [], h => h.elim
  | p :: fs, q :: fl, h => by rw [List.length_cons, List.length_cons, FLok.len h.2]
theorem FLok.put {H : Hp} {α : Type} {c : Cod α} {x : α} {v : V} {f : Str} (r : c.rep H v x) : ∀ {fs : List (Str × V)} {fl : FL}, FLok H fs fl → (fl.all fun q => !(q.1 == f)) = true → FLok H (putF f v fs) (fl ++ [(f, .d c x)])
  | [], [], _, _ => ⟨⟨rfl, r⟩, trivial⟩
  | [], _ :: _, h, _ => h.elim
  | _ :: _, [], h, _ => h.elim
  | (g, u) :: fs, q :: fl, h, hn => by
    rw [List.all_cons, Bool.and_eq_true] at hn
    have ne : ¬ g = f := fun z => by
      have h1 : g = q.1 := h.1.1
      rw [← h1, z] at hn
      simp at hn
    unfold putF
    rw [if_neg ne]
    exact ⟨h.1, FLok.put r h.2 hn.2⟩
/-- self, while it is made -/
def opS (x C dx : Addr) (fl : FL) : OP where
  φ := fun Hf a o => a = x ∧ ∃ fs, o = .ins C dx fs ∧ FLok Hf fs fl
  mono := fun e ⟨h, fs, h1, h2⟩ => ⟨h, fs, h1, h2.mono e⟩
section
variable {S : Stc} {Γ Γ1 Γ2 Γ3 : Ctxt} {k k1 k2 k3 ka kb kk kt ke kn kf kr lv : Nat} {A α β γ δ ρ τ ω σ υ : Type} {c : Cod α} {c' : Cod β} {cr : Cod ρ} {rel : Rl ρ} {c1 : Cod α} {c2 : Cod β} {c3 : Cod γ} {e e1 e2 a b dd o : Expr} {es : List Expr} {pos pos' pos2 pn apos cpos p1 p2 py q1 q2 : Pos} {n : En σ} {l : En τ} {st : Stmt} {sts rest : List Stmt} {w : W α} {nm x xn x1 x2 : Str} {te to ti tk tv : TE} {p : Po ρ} {K : PySem.W.Frag}
theorem vb_fld (i : Nat) {f : Str} {ax C dx : Addr} {fl : FL} {wr : α → WS σ τ ρ} (hΓ : Γ[i]? = some (.r (opS ax C dx fl))) (hN : S.N[i]? = some nm) (hv : Vis S.sc nm) (hC : Cls S.K C) (hNo : NoAttr S.K C f) (hnew : (fl.all fun q => !(q.1 == f)) = true) (hlen : fl.length < 1000) (h : PW S Γ k e c w)
    (hs : ∀ env : Env, swapsWith e (some (.Attribute (.Name nm p1) f p2)) pos.line env = pure false) (hr : ∀ y, PB S (Γ.set i (.r (opS ax C dx (fl ++ [(f, .d c y)])))) kr rest rel n l (wr y)) (hd : (nm == ("__debug__" : Str)) = false := by decide) (hcd : (nm == ("__classdict__" : Str)) = false := by decide) :
    PB S Γ (k + kr) (.Assign [.Attribute (.Name nm p1) f p2] e pos :: rest) rel n l (fun N B C R => w fun y => wr y N B C R) := fun N B C' R q =>
  hsr_cons (N1 := fun G => ∃ y, wr y N B C' R ∧ G = Γ.set i (.r (opS ax C dx (fl ++ [(f, .d c y)])))) (ts := sFld S.K (tVar i) (tE S e) f) (fun X G => by rw [← G.K]; exact ps_fld (pe_slot G hN hv hd hcd) (tE_ok G) (hs _))
    (fun O m σ Hf H hn s D q1 _ _ _ => h _ q O m σ Hf H hn s _ fun v Hf1 H1 y py ry f1 s1 => by
      obtain ⟨a, o, g1, g2, g3, rfl, fs, rfl, g4⟩ := s1.at_ i _ hΓ
      refine ⟨.ref a, g1, a, C, dx, fs, rfl, g2, hC, hNo, by rw [g4.len]; exact hlen, ?_⟩
      exact q1 σ Hf1 _ _ ⟨y, py, rfl⟩ ⟨s1.wrR hΓ g1 (p := opS a C dx (fl ++ [(f, .d c y)])) ⟨rfl, _, rfl, g4.put ry hnew⟩, bxKeep_set (by unfold NoBx; rw [hΓ]; trivial), f1.ex⟩) fun G ⟨y, p, e⟩ => by subst e; exact hr y N B C' R p
end
section
variable {P : Program} {w : World} {K : PySem.W.Frag} {mg : Str → Option Value} {base : Heap} {m qual : Str} {st : Stmt} {N pn : List Str} {lv : Nat} {C : Addr} {ω τ : Type} {F : Hp → List (Str × V) → ω → Prop}
theorem init_W {psi : τ → Ctxt} {mt : τ → W ω} {f : Addr} {fd : FuncData} {n : Addr → Addr → En ω} {flo : ω → FL} {l : En Empty} (Fu : Fun K m qual st f fd) (Sc : FnScope N pn (defScope st)) (hl : ∀ a, (psi a).length + 1 = pn.length) (hN : pn.length ≤ N.length) (nb : ∀ a, NoB (psi a))
    (hn : ∀ ax dx y, (n ax dx).g y = .r (opS ax C dx (flo y)) :: ((n ax dx).g y).tail) (hF : ∀ H fs y, FLok H fs (flo y) → F H fs y)
    (hb : ∀ (ax dx : Addr) (t : τ), PB ⟨N, defScope st, K, mg, P, w, base, lv, fun _ => true, false⟩ (entry N (.r (opS ax C dx []) :: psi t)) 0 (defBody st) (rD cNon) (n ax dx) l (fun Nx _ _ _ => mt t Nx)) :
    FnOk P w K mg base CX0 (lv + 1) f fd pn (spIW C psi mt F) := by
  refine Fu.ok Sc (fun vs H Q E h => ?_) (fun cdv Ar outer s H vs Q E hr hsp => ?_)
  · obtain ⟨a, x, dx, ws, Hf, _, rfl, _, _, _, o, _⟩ := h
    rw [List.length_cons, argsOk_len o]; exact hl a.1
  · obtain ⟨⟨t, R⟩, x, dx, ws, Hf, hp, rfl, hx, hfx, ex, o, q⟩ := hsp
    have G := cxG (P := P) (w := w) (K := K) (mg := mg) (base := base) (qual := qual) (st := st) (f := f) (cdv := cdv) (A := Ar) (outer := outer) (s := s) (H := H) (E := E) (lv := lv) hr Sc.nd
    have none_ : ∀ z, ¬ Sl.bx z ∈ (.d cV (.ref x) :: psi t : Ctxt) := fun z hz => by
      rcases List.mem_cons.mp hz with e | e
      · cases e
      · exact map_un (b := 0) (nb t) z e
    have S0 : Sat ⟨fun z => Sl.bx z ∈ (.d cV (.ref x) :: psi t : Ctxt), Hf, H⟩ Hf H (start N (.ref x :: ws)) (entry N (.d cV (.ref x) :: psi t)) 0 :=
      sat_entry (by rw [List.length_cons, hl t]; exact hN) ⟨rfl, o⟩ (by
        show OneB (psi t)
        exact noB_one (nb t)) ex fun z hz => absurd hz (none_ z)
    have own0 : ∀ (j : Nat) (sl : Sl), (entry N (.d cV (.ref x) :: psi t))[j]? = some sl → sl.own = true → False := fun j sl hj ho => by
      rcases ctx_at hj with h1 | h1
      · have nbb : NoB (.d cV (.ref x) :: psi t) := nb t
        have : ∀ {l : Ctxt} {j : Nat} {sl : Sl}, ArgsOk Hf (.ref x :: ws) (.d cV (.ref x) :: psi t) → (.d cV (.ref x) :: psi t : Ctxt)[j]? = some sl → sl.own = true → False := fun {l j sl} oo hj ho => by
          rcases argsOk_at oo hj with ⟨α, c, y, v, rfl, _, _⟩ | ⟨a, rfl, _⟩
          · cases ho
          · exact none_ a (List.mem_of_getElem? hj)
        exact this (l := []) ⟨rfl, o⟩ h1 ho
      · rw [h1] at ho; cases ho
    have S1 : Sat ⟨fun z => z = x, Hf, H⟩ Hf H (start N (.ref x :: ws)) (entry N (.d cV (.ref x) :: psi t)) 0 := ⟨S0.len, S0.ex, S0.at_, S0.sep, Fr.refl, fun a ⟨j, sl, h1, h2, _⟩ => (own0 j sl h1 h2).elim⟩
    have S2 := S1.setR (i := 0) (p := opS x C dx []) hx hfx ⟨rfl, [], rfl, trivial⟩ (fun j sl _ hj ho => (own0 j sl hj ho).elim) (.inl rfl)
    have e0 : (start N (.ref x :: ws)).set 0 (some (.ref x)) = start N (.ref x :: ws) := rfl
    have e1 : (entry N (.d cV (.ref x) :: psi t)).set 0 (.r (opS x C dx [])) = entry N (.r (opS x C dx []) :: psi t) := rfl
    rw [e0, e1] at S2
    refine ⟨tSs ⟨N, defScope st, K, mg, P, w, base, lv, fun _ => true, false⟩ (defBody st), tSs_ok G, ?_⟩
    refine hb x dx t R (fun _ => False) (fun _ => False) (fun _ => False) hp _ 0 _ Hf H (Nat.zero_le _) S2 _ (fun σ1 Hf1 H1 Γ1 eΓ f1 => ?_) (fun _ _ _ _ z _ => ?_) (fun _ _ _ _ z _ => ?_) fun _ _ _ _ _ _ z _ _ => ?_
    · obtain ⟨y, ry, eG⟩ := eΓ
      have sl0 : (wipeC Γ1 (n x dx).vs)[0]? = some (.r (opS x C dx (flo y))) := by rw [eG, hn x dx y]; rfl
      rcases wipe_at (σ := σ1) sl0 with z | ⟨h1, _⟩
      · cases z
      obtain ⟨a, ob, g1, g2, g3, rfl, fs, rfl, g4⟩ := f1.sat.at_ 0 _ h1
      exact q Hf1 H1 fs y ry g2 g3 (hF Hf1 fs y g4) f1.sat.fr f1.sat.ex
    · obtain ⟨_, z, _⟩ := z; exact z.elim
    · obtain ⟨_, z, _⟩ := z; exact z.elim
    · exact z.elim
end
end DL

set_option Elab.async false
set_option linter.all false
set_option maxRecDepth 100000
set_option maxHeartbeats 4000000
namespace DL
open PySem PySem.Spec L2
abbrev wGet {α : Type} (o : Option α) : W α := fun Q => ∃ x, o = some x ∧ Q x
section
variable {P : Program} {wd : World} {K : PySem.W.Frag} {mg : Str → Option Value} {base : Heap} {x : Str} {st : Stmt} {N ns : List Str} {lv kf : Nat} {τ ρ : Type} {cr : Cod ρ}
/-- a def that returns nothing -/
theorem fn_WN {ps : τ → Ctxt} {mt : τ → W Unit} {n : En Unit} {f : Addr} {fd : FuncData} {qual : Str} (F : Fun K x qual st f fd) (Sc : FnScope N ns (defScope st)) (hl : ∀ a, (ps a).length = ns.length) (hN : ns.length ≤ N.length) (one : ∀ a, NoB (ps a))
    (body : ∀ t, PB ⟨N, defScope st, K, mg, P, wd, base, lv, fun _ => true, false⟩ (entry N (ps t)) 0 (defBody st) (rD cNon) n noEn (fun Nx _ _ _ => mt t Nx)) : FnOk P wd K mg base CX0 (lv + 1) f fd ns (spW (fun _ => ps) 0 mt cNon) := by
  refine F.ok Sc (fun vs H Q E h => ?_) (fun cdv Ar outer s H vs Q E hr h => ?_)
  · obtain ⟨a, b, m, Hf, _, _, _, o, _⟩ := h
    rw [argsOk_len o]; exact hl a.1
  · obtain ⟨⟨t, R⟩, b, m, Hf, hp, hn, ex, o, bx, q⟩ := h
    refine ⟨tSs ⟨N, defScope st, K, mg, P, wd, base, lv, fun _ => true, false⟩ (defBody st), tSs_ok (cxG hr Sc.nd), ?_⟩
    have nb : ∀ z, Sl.bx z ∉ ps t := fun z hz => by
      obtain ⟨i, hi⟩ := List.getElem?_of_mem hz
      exact noB_at (one t) hi
    have S0 : Sat ⟨fun z => Sl.bx z ∈ ps t, Hf, H⟩ Hf H (start N vs) (entry N (ps t)) m := sat_entry (by rw [hl]; exact hN) o (noB_one (one t)) ex bx
    refine body t R (fun _ => False) (fun _ => False) (fun _ => False) hp _ m _ Hf H hn S0 _ (fun σ' Hf' H' Γ' z f => ?_) (fun _ _ _ _ z _ => ?_) (fun _ _ _ _ z _ => ?_) fun _ _ _ _ _ _ z _ _ => z.elim
    · obtain ⟨u, ru, _⟩ := z
      exact q .non Hf' H' () ru rfl f.sat.fr f.sat.ex fun z hz => (nb z hz).elim
    · obtain ⟨s, _, _⟩ := z; exact nomatch s
    · obtain ⟨s, _, _⟩ := z; exact nomatch s
theorem cal_WN {ps : τ → Ctxt} {mt : τ → W Unit} {n : En Unit} (D : Def K mg x st) (hb : BindsD st x ns) (Sc : FnScope N ns (defScope st)) (hl : ∀ a, (ps a).length = ns.length) (hN : ns.length ≤ N.length) (one : ∀ a, NoB (ps a))
    (body : ∀ t, PB ⟨N, defScope st, K, mg, P, wd, base, lv, fun _ => true, false⟩ (entry N (ps t)) 0 (defBody st) (rD cNon) n noEn (fun Nx _ _ _ => mt t Nx)) : Cal P wd K mg base x ns (lv + 1) (spW (fun _ => ps) 0 mt cNon) :=
  cal_of D hb fun f fd F => fn_WN F Sc hl hN one body
end
section
variable {Γ Γ1 : Ctxt} {k k1 k2 k3 ka kb kn : Nat} {α β γ ρ : Type} {c : Cod α} {c' : Cod β} {te to ti tk tv : TE} {wi : TI} {g : TG} {vs : List Nat}
/-- .. becomes data -/
theorem TX.datD {R : List (Int × α) → Prop} (h : TX te Γ k (fun s => ∃ d, R d ∧ s = .r (opD c d))) : TD te Γ k (cDic c) R := fun O n σ Hf H hn S Q q =>
  h O n σ Hf H hn S _ fun v Hf' H' s ⟨d, rd, es⟩ hv f S' => by
    subst es
    obtain ⟨a, o, rfl, h1, h2, h3, ks, rfl, h4, h5⟩ := hv
    have e1 : Ex Hf' (upd Hf' a (.dK ks)) := Ex.new h2
    have fr := f.fix h3 h2 h1
    refine q _ _ _ d rd ⟨a, ks, rfl, upd_same, h4.mono e1, h5⟩ fr (S.grow fr (S'.ex.fix h1) fun b hb => ?_)
    obtain ⟨i, hi⟩ := hb
    obtain ⟨_, z1, z2⟩ := S'.at_ i _ hi
    have nb : b ≠ a := fun z => by
      subst z
      obtain ⟨_, _, w3⟩ := S.at_ i _ hi
      obtain ⟨_, _, _, _, w4, _⟩ := w3
      rw [h3] at w4; cases w4
    exact ⟨by rw [upd_ne nb]; exact z1, z2⟩
theorem tx_dcD {X : List α → Prop} (I : List α → List α → List (Int × β) → Prop) (hw : TW wi Γ k c X) (hv : ∀ i ∈ vs, NoBx Γ i) (h0 : ∀ xs, X xs → I xs [] []) (hk : ∀ xs, X xs → xs.length * (ka + kb) ≤ kn)
    (hs : ∀ xs, X xs → ∀ pre x post d, xs = pre ++ x :: post → I xs pre d → ∃ Γ1 is Pk, GD g c x (wipeC Γ vs) Γ1 is ∧ (∀ i ∈ is, i ∈ vs) ∧ TD tk Γ1 ka cInt Pk ∧ ∀ t, Pk t → TD tv Γ1 kb c' fun y => I xs (pre ++ [x]) (putD d t y)) :
    TX (tDc wi g tYes tk tv vs) Γ (k + kn) (fun s => ∃ d, (∃ xs, X xs ∧ I xs xs d) ∧ s = .r (opD c' d)) := fun O n σ Hf H hn S Q q =>
  hw O n σ Hf H (by omega) S _ fun J Hf1 H1 xs px W lb f1 S1 D hD => by
    have bound := hk xs px
    have upto : ∀ i, i ≤ xs.length → i * (ka + kb) ≤ kn := fun i hi => Nat.le_trans (Nat.mul_le_mul_right _ hi) bound
    have apart : ∀ a, Bx Γ a → a ≠ D := fun a ⟨i, hi⟩ z => by
      subst z
      obtain ⟨_, _, _, _, _, _, e, _⟩ := S1.at_ i _ hi
      rw [hD] at e; cases e
    have boxes : ∀ a, Bx Γ a → Hf1 a = none ∧ BoxAt H1 a (n + k) := fun a ⟨i, hi⟩ => (S1.at_ i _ hi).2
    let St (i : Nat) (G : Hp) : Prop := i ≤ xs.length ∧ ∃ Gf d ks, I xs (xs.take i) d ∧ G D = some (.dK ks) ∧ PDc c' Gf ks d ∧ ks.length ≤ i ∧ Gf D = none ∧ Ex Gf G ∧ Fr (Bx Γ) Hf1 H1 Gf G ∧ ∀ a, Bx Γ a → Gf a = none ∧ BoxAt G a (n + k + i * (ka + kb))
    refine ⟨fun i m G => m = xs.length - i ∧ St i G, ⟨xs.length, (Nat.sub_zero _).symm, Nat.zero_le _, Hf1, [], [], by rw [List.take_zero]; exact h0 xs px, upd_same, .nil, Nat.le_refl _, S1.ex.back hD, S1.ex.trans (Ex.new hD), Fr.newO hD, fun a ha => ⟨(boxes a ha).1, by
      rw [Nat.zero_mul]; exact boxAt_ex (boxes a ha).2 fun o e => by rw [upd_ne (apart a ha)]; exact e⟩⟩, ?_⟩
    rintro i m G ⟨rfl, hi, Gf, d, ks, hI, hDi, pr, al, hfD, ex, fr, hb⟩
    have Si : Sat O Gf G (wipe σ vs) (wipeC Γ vs) (n + k + i * (ka + kb)) := (S1.grow fr ex hb).wipe vs
    by_cases hlt : i < xs.length
    · have hx : xs[i]? = some xs[i] := List.getElem?_eq_getElem hlt
      have next := upto (i + 1) hlt
      have en : n + k + i * (ka + kb) + (ka + kb) = n + k + (i + 1) * (ka + kb) := by rw [Nat.succ_mul]; omega
      refine .inr ⟨W.go Gf G i fr.ex ex hlt, St (i + 1), fun G2 h2 => ⟨xs.length - (i + 1), by omega, rfl, h2⟩, fun v G2 hy => ?_⟩
      obtain ⟨Gf2, rx, fy, ey⟩ := W.yld Gf G i v G2 _ fr.ex ex hy hx
      have S2 : Sat O Gf2 G2 (wipe σ vs) (wipeC Γ vs) (n + k + i * (ka + kb)) := Si.grow0 fy ey
      obtain ⟨Γ1, is, Pk, gd, hin, hK, hV⟩ := hs xs px (xs.take i) xs[i] (xs.drop (i + 1)) d (split_at hx) hI
      have in1 : ∀ a, Bx Γ1 a → Bx Γ a := fun a h => (bx_wipe hv).mp (gd.2.1 a h)
      have in2 : ∀ a, Bx Γ a → Bx Γ1 a := fun a h => by
        obtain ⟨j, hj⟩ := (bx_wipe hv).mpr h
        exact ⟨j, gd.1 j a hj⟩
      have nD1 : ¬ Bx Γ1 D := fun z => apart D (in1 D z) rfl
      have hD2 := fy.keep _ _ hDi id
      have fD2 : Gf2 D = none := fy.fz _ _ hDi id hfD
      refine gd.2.2 O _ _ Gf2 G2 v rx S2 _ fun σ3 S3 w3 => ⟨(w3 vs hin).trans wipe_wipe, ?_⟩
      simp only [tYes, if_true]
      refine hK O _ σ3 Gf2 G2 (by omega) S3 _ fun vk Gf3 G3 t pt rt f3 S3' => ?_
      have hD3 := f3.keep _ _ hD2 nD1
      have fD3 : Gf3 D = none := f3.fz _ _ hD2 nD1 fD2
      refine hV t pt O _ σ3 Gf3 G3 (by omega) S3' _ fun vv Gf4 G4 y py ry f4 S4 => ?_
      have hD4 := f4.keep _ _ hD3 nD1
      have fD4 : Gf4 D = none := f4.fz _ _ hD3 nD1 fD3
      have F4 : Fr (Bx Γ) Hf1 H1 Gf4 G4 := ((fr.trans fy fun _ z => z.elim).trans f3 fun a z => .inl (in1 a z)).trans f4 fun a z => .inl (in1 a z)
      have pr4 : PDc c' Gf4 ks d := pr.mono ((fy.ex.trans f3.ex).trans f4.ex)
      have len1 := length_putK ks (Sum.inl t : Key) vv
      refine ⟨ks, Sum.inl t, rt, hD4, lb_lt (by omega), by omega, Gf4, putD d t y, _, by rw [take_snoc hx]; exact py, upd_same, pdc_put pr4 t ry, by omega, fD4, S4.ex.mut fD4, ⟨F4.ex, fun a o e nm => ?_, F4.fz, fun a e => ?_⟩, fun a ha => ?_⟩
      · rw [upd_ne (ne_of_none e hD)]; exact F4.keep a o e nm
      · by_cases z : a = D
        · subst z; exact hD
        · rw [upd_ne z] at e; exact F4.dom a e
      · obtain ⟨j, hj⟩ := in2 a ha
        obtain ⟨_, z1, z2⟩ := S4.at_ j _ hj
        exact ⟨z1, by rw [← en, show n + k + i * (ka + kb) + (ka + kb) = n + k + i * (ka + kb) + ka + kb by omega]; exact boxAt_ex z2 fun o e => by rw [upd_ne (apart a ha)]; exact e⟩
    · obtain rfl : i = xs.length := by omega
      rw [List.take_length] at hI
      have last := upto xs.length (Nat.le_refl _)
      exact .inl ⟨W.stop Gf G fr.ex ex, q (.ref D) Gf G _ ⟨d, ⟨xs, px, hI⟩, rfl⟩ ⟨D, _, rfl, hDi, hfD, f1.dom D hD, ks, rfl, pr, by omega⟩ (f1.trans fr fun _ z => .inl z) ((S1.grow fr ex hb).le (by omega))⟩
end
section
variable {S : Stc} {Γ Γ1 Γ2 Γ3 : Ctxt} {k k1 k2 k3 ka kb kk kt ke kn kf kr lv : Nat} {A α β γ δ ρ τ ω σ υ : Type} {c : Cod α} {c' : Cod β} {c1 : Cod α} {c2 : Cod β} {c3 : Cod γ} {e e1 e2 a b dd o : Expr} {pos pos' pos2 pn apos cpos p1 p2 py q1 q2 : Pos} {w : W α}
def wDi {α β : Type} (f : α → W Int) (g : α → W β) (xs : List α) : W (List (Int × β)) := fun Q => wMap (fun x Q => f x fun t => g x fun y => Q (t, y)) xs fun ps => Q (dicOf ps)
theorem xdcD {kx vx tg iter : Expr} {scope : Scope} {f : α → W Int} {g : α → W β} {w : W (List α)} (own : List (Str × Nat)) (hw : PWI S Γ k tg iter c w) (nv : NoBxs Γ (own.map (·.2))) (ok : blkC S.N S.sc scope own = true) (hfs : ∀ (env : Env) x, foldedSetIterable iter env x = pure x)
    (hs : ∀ x, ∃ Γ1 is, PDG (S.blk scope) tg c x (wipeC Γ (own.map (·.2))) Γ1 is ∧ (∀ i ∈ is, i ∈ own.map (·.2)) ∧ PW (S.blk scope) Γ1 0 kx cInt (f x) ∧ PW (S.blk scope) Γ1 0 vx c' (g x)) : PW S Γ (k + 0) (.DictComp kx vx [⟨tg, iter, [], 0⟩] scope pos) (cDic c') (fun Q => w fun xs => wDi f g xs Q) := fun Q q =>
  pd_of (te := tDc (tI S tg iter) (tGt (S.blk scope) tg) tYes (tE (S.blk scope) kx) (tE (S.blk scope) vx) (own.map (·.2))) (fun X G =>
      pe_dc G.calm (by rw [G.N]; exact G.nd) (tI_ok G) (blkOk_by (by rw [G.N, G.sc]; exact ok)) (fun s H C cl fp => tGt_ok (G.blk scope s H C cl fp)) (fun s H C cl fp => pts_nil) (fun s H C cl fp => tE_ok (G.blk scope s H C cl fp)) (fun s H C cl fp => tE_ok (G.blk scope s H C cl fp)) (hfs _))
    (TX.datD fun O n σ Hf H hn s Q' q' => tx_dcD (X := fun xs => wDi f g xs Q) (ka := 0) (kb := 0) (kn := 0) (fun xs pre d => ∃ rest ps, xs = pre ++ rest ∧ d = dicOf ps ∧ wMap (fun x Q => f x fun t => g x fun y => Q (t, y)) rest fun zs => Q (dicOf (ps ++ zs))) (hw _ q) (noBxs_mem nv) (fun xs hx => ⟨xs, [], rfl, rfl, by
        have z := hx
        unfold wDi at z
        exact z⟩) (fun xs hx => Nat.le_of_eq (Nat.mul_zero _)) (fun xs hx pre x post d hxs ⟨rest, ps, e1, e2, h1⟩ => by
      obtain rfl := split_eq hxs e1
      obtain ⟨Γ1, is, g1, g2, g3, g4⟩ := hs x
      refine ⟨Γ1, is, _, g1, g2, g3 _ h1, fun t pt => (g4 _ pt).imp fun y h2 => ⟨post, ps ++ [(t, y)], by rw [hxs]; simp, by rw [e2, dicOf_snoc], ?_⟩⟩
      have : (fun zs => Q (dicOf (ps ++ [(t, y)] ++ zs))) = fun zs => Q (dicOf (ps ++ ((t, y) :: zs))) := by funext zs; rw [List.append_assoc]; rfl
      rw [this]; exact h2) O n σ Hf H hn s Q' fun v Hf' H' s ⟨d, ⟨xs, hx, rest, ps, e1, e2, h1⟩, es⟩ => q' v Hf' H' s ⟨d, by
      have : rest = [] := by
        have e3 := congrArg List.length e1
        rw [List.length_append] at e3
        exact List.length_eq_zero_iff.mp (by omega)
      subst this
      have h1 : Q (dicOf (ps ++ [])) := h1
      rw [List.append_nil, ← e2] at h1
      exact h1, es⟩)
end
end DL

set_option Elab.async false
set_option linter.all false
set_option maxRecDepth 100000
set_option maxHeartbeats 4000000
namespace DL
open PySem PySem.Spec L2
theorem nl_opt {α : Type} {c : Cod α} (h : NL c) : NL (cOpt c) := fun H H' v x k r => by
  cases x with
  | none => exact r
  | some y => exact h H H' v y k r
theorem fl1 {α : Type} {H : Hp} {a : Str} {c : Cod α} {x : α} : ∀ {fs : List (Str × V)}, FLok H fs [(a, .d c x)] → ∃ v, fs = [(a, v)] ∧ c.rep H v x
  | [], h => h.elim
  | [(b, v)], h => ⟨v, by rw [show b = a from h.1.1], h.1.2⟩
  | _ :: _ :: _, h => h.2.elim
theorem fl2 {α β : Type} {H : Hp} {a a2 : Str} {c : Cod α} {x : α} {d : Cod β} {y : β} : ∀ {fs : List (Str × V)}, FLok H fs [(a, .d c x), (a2, .d d y)] → ∃ v u, fs = [(a, v), (a2, u)] ∧ c.rep H v x ∧ d.rep H u y
  | [], h => h.elim
  | (b, v) :: fs, h => by
    obtain ⟨u, e, r⟩ := fl1 h.2
    exact ⟨v, u, by rw [e, show b = a from h.1.1], h.1.2, r⟩
section
variable {P : Program} {wd : World} {K : PySem.W.Frag} {mg : Str → Option Value} {base : Heap} {x : Str} {st : Stmt} {N ns : List Str} {lv kf : Nat} {τ ρ α : Type} {c : Cod α}
theorem calR_WF {ps : Addr → τ → Ctxt} {mt : τ → W (List α)} (D : Def K mg x st) (hb : BindsD st x ns) (hk : BindsR st x ns) (Sc : FnScope N ns (defScope st)) (hl : ∀ b a, (ps b a).length = ns.length) (hN : ns.length ≤ N.length) (one : ∀ b a, OneB (ps b a))
    (body : ∀ z t, PB ⟨N, defScope st, K, mg, P, wd, base, lv, fun _ => true, false⟩ (entry N (ps z t)) kf (defBody st) (rF c) noEn noEn (fun _ _ _ R => mt t R)) : CalR P wd K mg base x ns (lv + 1) (spWF ps kf mt c) :=
  calR_of D hb hk fun f fd F => fn_F F Sc (fun b a => hl b a.1) hN (fun b a => one b a.1) fun z a hp =>
    hsf_of (body z a.1 (fun _ => False) (fun _ => False) (fun _ => False) a.2 hp) (fun _ ⟨s, _, _⟩ => nomatch s) (fun _ ⟨s, _, _⟩ => nomatch s) fun _ ⟨s, _, _⟩ => nomatch s
theorem CalR.datW {ps : Addr → τ → Ctxt} {m : τ → W (List α)} (F : CalR P wd K mg base x ns lv (spWF ps kf m c)) : CalR P wd K mg base x ns lv (spW ps kf m (cList c)) := by
  obtain ⟨f, fd, h1, h2⟩ := F.ex
  exact ⟨f, fd, h1.imp fun vs H Q E h => spF_D h, h2⟩
end
end DL

set_option Elab.async false
set_option linter.all false
set_option maxRecDepth 100000
set_option maxHeartbeats 4000000
namespace DL
open PySem PySem.Spec L2
/-! ### a list comprehension of two clauses, by what has to hold -/
def wLc2 {α β γ : Type} (F : α → W (List γ)) (f : α → γ → W β) : List α → List β → (List β → Prop) → Prop
  | [], acc, Q => Q acc
  | x :: r, acc, Q => F x fun ys => acc.length + ys.length ≤ LB ∧ wMap (f x) ys fun zs => wLc2 F f r (acc ++ zs) Q
def noC (Γ : Ctxt) : Bool := Γ.all fun s => !s.own
theorem no_of {Γ : Ctxt} (h : noC Γ = true) : NoOwn Γ := fun s hs => by
  have := List.all_eq_true.mp h s hs
  simpa using this
section
variable {Γ : Ctxt} {α β γ : Type} {c : Cod α} {c1 : Cod γ} {c' : Cod β} {wi wi1 : TI} {g g1 : TG} {te : TE}
theorem drop_at {l : List α} {i : Nat} (h : i < l.length) : l.drop i = l[i] :: l.drop (i + 1) := List.drop_eq_getElem_cons h
theorem tdf_lc2W {vs vs1 : List Nat} {F : α → W (List γ)} {f : α → γ → W β} {Q : List β → Prop} (no : NoOwn Γ) (hw : TW wi Γ 0 c (fun xs => wLc2 F f xs [] Q))
    (hs : ∀ x, ∃ Γ1 is, GD g c x (wipeC Γ vs) Γ1 is ∧ NoOwn Γ1 ∧ (∀ i ∈ is, i ∈ vs) ∧ (∀ R, F x R → TW wi1 Γ1 0 c1 R) ∧ ∀ y, ∃ Γ2 js, GD g1 c1 y (wipeC Γ1 vs1) Γ2 js ∧ (∀ i ∈ js, i ∈ vs1) ∧ ∀ R, f x y R → TD te Γ2 0 c' R) :
    TDF (tLc2 wi g tYes wi1 g1 tYes te vs vs1) Γ 0 c' Q := fun O n σ Hf H hn S Q' q =>
  hw O n σ Hf H hn S _ fun J Hf1 H1 ys px Ws lb f1 S1 D hD => by
    have nb : ∀ a, ¬ Bx Γ a := no.bx
    have hv : ∀ {Γ' : Ctxt} {ws : List Nat}, (∀ a, ¬ Bx Γ' a) → ∀ a, ¬ Bx (wipeC Γ' ws) a := fun {Γ' ws} h a ⟨i, hi⟩ => by
      rcases wipe_at (σ := []) hi with z | ⟨z, _⟩
      · cases z
      · exact h a ⟨i, z⟩
    refine ⟨fun i m H' => m = ys.length - i ∧ i ≤ ys.length ∧ ∃ Hfi acc L, Paired (c'.rep Hfi) acc L ∧ L.length ≤ LB ∧ wLc2 F f (ys.drop i) L Q ∧ H' D = some (.lst acc) ∧ Hfi D = none ∧ Ex Hfi H' ∧ Fr (Bx Γ) Hf1 H1 Hfi H',
      ⟨ys.length, by simp, Nat.zero_le _, Hf1, [], [], .nil, Nat.zero_le _, by rw [List.drop_zero]; exact px, upd_same, S1.ex.back hD, S1.ex.trans (Ex.new hD), Fr.newO hD⟩, ?_⟩
    rintro i m H' ⟨rfl, hi, Hfi, acc, L, pr, hL, hq, hDi, hfD, ex, fr⟩
    have Si : Sat O Hfi H' (wipe σ vs) (wipeC Γ vs) n := (S1.grow fr ex fun a ha => (nb a ha).elim).wipe vs
    by_cases hlt : i < ys.length
    · have hx : ys[i]? = some ys[i] := List.getElem?_eq_getElem hlt
      rw [drop_at hlt] at hq
      refine .inr ⟨Ws.go Hfi H' i fr.ex ex hlt, fun H2 => ∃ Hfi acc L, Paired (c'.rep Hfi) acc L ∧ L.length ≤ LB ∧ wLc2 F f (ys.drop (i + 1)) L Q ∧ H2 D = some (.lst acc) ∧ Hfi D = none ∧ Ex Hfi H2 ∧ Fr (Bx Γ) Hf1 H1 Hfi H2, fun H2 h2 => ⟨ys.length - (i + 1), by omega, rfl, hlt, h2⟩, fun v H2 hy => ?_⟩
      obtain ⟨Hf2, rx, fy, ey⟩ := Ws.yld Hfi H' i v H2 _ fr.ex ex hy hx
      have S2 : Sat O Hf2 H2 (wipe σ vs) (wipeC Γ vs) n := Si.grow0 fy ey
      obtain ⟨Γ1, is, gd, no1, hin, hw1, hs1⟩ := hs ys[i]
      have nb1 : ∀ a, ¬ Bx Γ1 a := fun a h => hv nb a (gd.2.1 a h)
      refine gd.2.2 O _ _ Hf2 H2 v rx S2 _ fun σ3 S3 w3 => ⟨(w3 vs hin).trans wipe_wipe, ?_⟩
      refine yes_if ?_
      have F2 : Fr (Bx Γ) Hf1 H1 Hf2 H2 := fr.trans fy fun _ z => z.elim
      have hD2 : H2 D = some (.lst acc) := fy.keep _ _ hDi id
      have hfD2 : Hf2 D = none := fy.fz _ _ hDi id hfD
      refine hw1 _ hq O _ σ3 Hf2 H2 hn S3 _ fun J1 Hf4 H4 zs pz W1 lb1 f4 S4 => ?_
      obtain ⟨hz, pz⟩ := pz
      have hD4 : H4 D = some (.lst acc) := f4.keep _ _ hD2 (nb1 D)
      have hfD4 : Hf4 D = none := f4.fz _ _ hD2 (nb1 D) hfD2
      have F4 : Fr (Bx Γ) Hf1 H1 Hf4 H4 := F2.trans f4 fun a z => (nb1 a z).elim
      refine ⟨fun j k H5 => k = zs.length - j ∧ j ≤ zs.length ∧ ∃ Hfj acc L', Paired (c'.rep Hfj) acc L' ∧ L'.length = L.length + j ∧ wMap (f ys[i]) (zs.drop j) (fun us => wLc2 F f (ys.drop (i + 1)) (L' ++ us) Q) ∧ H5 D = some (.lst acc) ∧ Hfj D = none ∧ Ex Hfj H5 ∧ Ex Hf4 Hfj ∧ Fr (Bx Γ) Hf1 H1 Hfj H5,
        ⟨zs.length, by simp, Nat.zero_le _, Hf4, acc, L, paired_mono pr fun _ _ z => c'.mono (fy.ex.trans f4.ex) z, rfl, by rw [List.drop_zero]; exact pz, hD4, hfD4, S4.ex, Ex.rfl', F4⟩, ?_⟩
      rintro j k H5 ⟨rfl, hj, Hfj, acc5, L', pr5, len5, hq5, hD5, hfD5, ex5, e45, fr5⟩
      have al : acc5.length ≤ LB := by rw [pr5.length]; omega
      by_cases hlj : j < zs.length
      · have hxj : zs[j]? = some zs[j] := List.getElem?_eq_getElem hlj
        rw [drop_at hlj] at hq5
        refine .inr ⟨W1.go Hfj H5 j e45 ex5 hlj, fun H6 => ∃ Hfj acc L', Paired (c'.rep Hfj) acc L' ∧ L'.length = L.length + (j + 1) ∧ wMap (f ys[i]) (zs.drop (j + 1)) (fun us => wLc2 F f (ys.drop (i + 1)) (L' ++ us) Q) ∧ H6 D = some (.lst acc) ∧ Hfj D = none ∧ Ex Hfj H6 ∧ Ex Hf4 Hfj ∧ Fr (Bx Γ) Hf1 H1 Hfj H6, fun H6 h6 => ⟨zs.length - (j + 1), by omega, rfl, hlj, h6⟩, fun v5 H6 hy5 => ?_⟩
        obtain ⟨Hf6, rx6, fy6, ey6⟩ := W1.yld Hfj H5 j v5 H6 _ e45 ex5 hy5 hxj
        have S5 : Sat O Hfj H5 σ3 Γ1 n := S4.reFr no1 ex5 e45 (S1.fr.trans fr5 fun a z => (nb a z).elim)
        have S6 : Sat O Hf6 H6 (wipe σ3 vs1) (wipeC Γ1 vs1) n := (S5.wipe vs1).grow0 fy6 ey6
        obtain ⟨Γ2, js, gd1, hin1, hte⟩ := hs1 zs[j]
        have nb2 : ∀ a, ¬ Bx Γ2 a := fun a h => hv nb1 a (gd1.2.1 a h)
        refine gd1.2.2 O _ _ Hf6 H6 v5 rx6 S6 _ fun σ7 S7 w7 => ⟨(w7 vs1 hin1).trans wipe_wipe, ?_⟩
        refine yes_if ?_
        have hD6 : H6 D = some (.lst acc5) := fy6.keep _ _ hD5 id
        have hfD6 : Hf6 D = none := fy6.fz _ _ hD5 id hfD5
        refine hte _ hq5 O _ σ7 Hf6 H6 hn S7 _ fun y Hf7 H7 yx py ry f7 S8 => ?_
        have hD7 : H7 D = some (.lst acc5) := f7.keep _ _ hD6 (nb2 D)
        have hfD7 : Hf7 D = none := f7.fz _ _ hD6 (nb2 D) hfD6
        have F7 : Fr (Bx Γ) Hf1 H1 Hf7 H7 := (fr5.trans fy6 fun _ z => z.elim).trans f7 fun a z => (nb2 a z).elim
        refine ⟨acc5, hD7, lb_lt al, Hf7, acc5 ++ [y], L' ++ [yx], Paired.snoc (paired_mono pr5 fun _ _ z => c'.mono (fy6.ex.trans f7.ex) z) ry, by rw [List.length_append, List.length_singleton]; omega, ?_, upd_same, hfD7, S8.ex.mut hfD7, (e45.trans fy6.ex).trans f7.ex, ?_⟩
        · have : (fun us => wLc2 F f (ys.drop (i + 1)) (L' ++ [yx] ++ us) Q) = fun us => wLc2 F f (ys.drop (i + 1)) (L' ++ (yx :: us)) Q := by funext us; rw [List.append_assoc]; rfl
          rw [this]; exact py
        · refine ⟨F7.ex, fun a o e nm => ?_, F7.fz, fun a e => ?_⟩
          · rw [upd_ne (ne_of_none e hD)]; exact F7.keep a o e nm
          · by_cases z : a = D
            · subst z; exact hD
            · rw [upd_ne z] at e; exact F7.dom a e
      · have e : j = zs.length := by omega
        subst e
        rw [List.drop_length] at hq5
        have hq5 : wLc2 F f (ys.drop (i + 1)) (L' ++ []) Q := hq5
        rw [List.append_nil] at hq5
        refine .inl ⟨W1.stop Hfj H5 e45 ex5, Hfj, acc5, L', pr5, by omega, hq5, hD5, hfD5, ex5, fr5⟩
    · have e : i = ys.length := by omega
      subst e
      rw [List.drop_length] at hq
      exact .inl ⟨Ws.stop Hfi H' fr.ex ex, q D acc Hfi H' L hq hDi hfD (f1.dom D hD) pr (by rw [pr.length]; exact hL) (f1.trans fr fun _ z => .inl z) (S1.grow fr ex fun a ha => (nb a ha).elim)⟩
end
section
variable {S : Stc} {Γ : Ctxt} {k k2 : Nat} {α β γ ρ σ τ : Type} {c : Cod α} {c1 : Cod γ} {c' : Cod β} {pos pos' pn : Pos} {a b e : Expr} {rel : Rl ρ} {n : En σ} {l : En τ} {rest : List Stmt}
def LW2 {β : Type} (S : Stc) (Γ : Ctxt) (tg iter tg1 iter1 elt : Expr) (scope : Scope) (own : List (Str × Nat)) (vs1 : List Nat) (c : Cod β) (w : W (List β)) : Prop := ∀ Q, w Q → TDF (lc2Rd S tg iter tg1 iter1 elt scope own vs1) Γ 0 c Q
theorem lc2W {elt tg iter tg1 iter1 : Expr} {scope : Scope} {F : α → W (List γ)} {f : α → γ → W β} {w : W (List α)} (own : List (Str × Nat)) (vs1 : List Nat) (no : noC Γ = true) (hw : PWI S Γ 0 tg iter c w)
    (hs : ∀ x, ∃ Γ1 is, PDG (S.blk scope) tg c x (wipeC Γ (own.map (·.2))) Γ1 is ∧ noC Γ1 = true ∧ (∀ i ∈ is, i ∈ own.map (·.2)) ∧ PWI (S.blk scope) Γ1 0 tg1 iter1 c1 (F x) ∧ ∀ y, ∃ Γ2 js, PDG (S.blk scope) tg1 c1 y (wipeC Γ1 vs1) Γ2 js ∧ (∀ i ∈ js, i ∈ vs1) ∧ PW (S.blk scope) Γ2 0 elt c' (f x y)) :
    LW2 S Γ tg iter tg1 iter1 elt scope own vs1 c' (fun Q => w fun xs => wLc2 F f xs [] Q) := fun Q q =>
  tdf_lc2W (no_of no) (hw _ q) fun x => by
    obtain ⟨Γ1, is, h1, h2, h3, h4, h5⟩ := hs x
    refine ⟨Γ1, is, h1, no_of h2, h3, fun R r => h4 R r, fun y => ?_⟩
    obtain ⟨Γ2, js, h6, h7, h8⟩ := h5 y
    exact ⟨Γ2, js, h6, h7, fun R r => h8 R r⟩
/-- x = [.. for .. for ..], x a plain local -/
theorem vb_setLc2 (i : Nat) {nm : Str} {py : Pos} {elt tg iter tg1 iter1 : Expr} {scope : Scope} (own : List (Str × Nat)) (vs1 : List Nat) {w : W (List β)} {wr : List β → WS σ τ ρ} (h : LW2 S Γ tg iter tg1 iter1 elt scope own vs1 c' w) (nb : NoBx Γ i) (hv : ∀ i ∈ vs1, i ∈ own.map (·.2)) (hi : S.N[i]? = some nm) (hyl : S.sc.names.lookup nm = some .local)
    (hsw : ∀ env : Env, env.scope = S.sc → swapsWith (.ListComp elt [⟨tg, iter, [], 0⟩, ⟨tg1, iter1, [], 0⟩] scope pos) (some (.Name nm py)) pos'.line env = pure true) (ok : blkC S.N S.sc scope own = true) (hfs : ∀ (env : Env) x, foldedSetIterable iter env x = pure x) (hfs1 : ∀ (env : Env) x, foldedSetIterable iter1 env x = pure x)
    (hr : ∀ x, PB S (Γ.set i (.d (cList c') x)) k2 rest rel n l (wr x)) :
    PB S Γ (0 + k2) (.Assign [.Name nm py] (.ListComp elt [⟨tg, iter, [], 0⟩, ⟨tg1, iter1, [], 0⟩] scope pos) pos' :: rest) rel n l (fun N B C R => w fun x => wr x N B C R) := fun N B C R q =>
  hsr_cons (N1 := fun G => ∃ x, wr x N B C R ∧ G = Γ.set i (.d (cList c') x)) (fun X G => ps_setLc2 (own := own) (vs1 := vs1) G.calm (by rw [G.N]; exact G.nd) (by rw [G.N]; exact hi) (by rw [G.sc]; exact hyl) (hsw _ G.sc) (tI_ok G) (blkOk_by (by rw [G.N, G.sc]; exact ok)) hv
    (fun s H C cl fp => tGt_ok (G.blk scope s H C cl fp)) (fun s H C cl fp => pts_nil) (fun s H C cl fp => tI_ok (G.blk scope s H C cl fp)) (fun s H C cl fp => tGt_ok (G.blk scope s H C cl fp)) (fun s H C cl fp => pts_nil) (fun s H C cl fp => tE_ok (G.blk scope s H C cl fp)) (hfs _) hfs1)
    (hsr_of (c0 := cNon) (hs_set (h _ q).td nb fun x px => ⟨x, px, rfl⟩)) fun G ⟨x, p, e⟩ => by subst e; exact hr x N B C R p
/-! ### a list of one number, many times, as a list of one's own -/
theorem tdf_repD {te to : TE} {R1 : List α → Prop} {R2 : List α → Int → Prop} {k1 : Nat} (ha : TD te Γ k1 (cList c) R1) (hb : ∀ x, R1 x → TD to Γ k2 cInt (R2 x)) (lb : ∀ x i, R1 x → R2 x i → (0 ≤ i ∧ i ≤ 1000) ∧ x.length ≤ 1000) : TDF (tOp rRep te to) Γ (k1 + k2) c (fun z => ∃ x i, R2 x i ∧ z = repL x i) := fun O n σ Hf H hn S Q q =>
  ha O n σ Hf H (by omega) S _ fun v Hf1 H1 x ex ⟨a, vs, e1, e2, e3, _⟩ f1 S1 => hb x ex O (n + k1) σ Hf1 H1 (by omega) S1 _ fun u Hf2 H2 i ey r f2 S2 => by
    obtain rfl := r
    obtain ⟨h, hl⟩ := lb x _ ex ey
    have hlen : vs.length = x.length := e3.length
    have hm : x.length * i.toNat ≤ 1000000 := Nat.le_trans (Nat.mul_le_mul hl (show i.toNat ≤ 1000 by omega)) (by decide)
    have hll : (List.replicate i.toNat vs).flatten.length = x.length * i.toNat := by rw [List.length_flatten, List.map_replicate, List.sum_replicate_nat, hlen, Nat.mul_comm]
    refine ⟨a, i, vs, e1, rfl, S2.ex _ _ (f2.ex _ _ e2), by omega, by omega, by rw [hlen]; exact Nat.le_trans hm (by decide), fun p hp => ?_⟩
    have e3' : Paired (c.rep Hf2) vs x := paired_mono e3 fun _ _ z => c.mono f2.ex z
    exact q p _ Hf2 (upd H2 p (.lst _)) _ ⟨x, i, ey, rfl⟩ upd_same (S2.ex.back hp) (f1.dom p (f2.dom p hp)) (paired_rep e3' i.toNat) (by rw [hll]; exact hm)
      ((f1.trans f2 fun _ h => .inl h).trans (Fr.newO (M := Bx Γ) hp) fun _ z => .inl z) (by rw [← Nat.add_assoc]; exact S2.grow0 (Fr.newO hp) (S2.ex.trans (Ex.new hp)))
theorem xrepF {w1 : W (List α)} {w2 : W Int} (ha : PW S Γ k a (cList c) w1) (hb : PW S Γ k2 b cInt w2) : PWF S Γ (k + k2) (.BinOp a .Mult b pos) c (fun Q => w1 fun xs => w2 fun i => ((0 ≤ i ∧ i ≤ 1000) ∧ xs.length ≤ 1000) ∧ Q (repL xs i)) := fun Q q =>
  pdf_of (fun X G => pe_op op_rep (tE_ok G) (tE_ok G)) (TDF.imp (tdf_repD (R2 := fun x i => ((0 ≤ i ∧ i ≤ 1000) ∧ x.length ≤ 1000) ∧ Q (repL x i)) (ha _ q) (fun x p => hb _ p) fun x y _ p => p.1) fun z ⟨x, y, p, e⟩ => by rw [e]; exact p.2)
end
end DL

set_option Elab.async false
set_option linter.all false
set_option maxRecDepth 100000
set_option maxHeartbeats 4000000
namespace DL
open PySem PySem.Spec L2 PyProof.Rows
/-! ### sorted(set), any number of ints -/
section
variable {P : Program} {w : World} {A : Around} {E : Value → Shared → Prop} {s : Shared} {Q : Value → Shared → Prop}
theorem big_sort {R : PySem.Fin → Shared → Prop} {vs : List Value} (int : ∀ v ∈ vs, ∃ k tk, v = Value.int k tk) (fit : vs.length ≤ sizeLine)
    (fin : ∀ (out : List Value), IntsAre out (out.map SrtO.iv) → (out.map SrtO.iv).Perm (vs.map Builtin.Re.reRawOf) → (out.map SrtO.iv).Pairwise (· ≤ ·) → R (.done (.ret (.ref s.heap.objs.size))) { s with heap := sortedHeap (s.heap.push (seqObj "list" vs.toArray 0)) s.heap.objs.size vs out.toArray }) :
    wpAny (model P w) A ((newList vs) >>= fun l => (holding [l] (call (.builtin "list.sort") [l] []) >>= fun _ => ret l)) R E s := by
  have ob : (s.heap.push (seqObj "list" vs.toArray 0)).get? s.heap.objs.size = some (seqObj "list" vs.toArray 0) := Heap.get?_push_size _ rfl
  have are := ints_of vs int
  exact wpAny_bind (wpAny_newList (wpAny_bind (wpAny_holding (wpAny_call_entry slot_list_sort ⟨_, ob, rfl⟩ entry_list_sort (SrtO.list_sort_ord SrtO.swo_int ob fit (fun two => SrtO.ints_sortable are two) fun out z1 z2 => ⟨_, rfl, wpAny_pure ((fun t => fin out t.1 t.2.1 t.2.2) (SrtO.ints_out are z1 z2))⟩) (args_list_sort _)))) fit)
theorem big_set {T : Int → Bool} {n : Nat} {a : Addr} (big : n ≤ 1000) (R : SetR w s.heap a T n) (no : A.handled = none)
    (fin : ∀ s2 b (out : List Value) (c : Nat), (∀ x o, s.heap.get? x = some o → s2.heap.get? x = some o) → s2.gens = s.gens → s2.os = s.os → s.heap.objs.size ≤ b → s2.heap.get? b = some (seqObj "list" out.toArray c) → IntsAre out (out.map SrtO.iv) →
      (out.map SrtO.iv).Pairwise (· < ·) → (∀ k, k ∈ out.map SrtO.iv ↔ T k = true) → (out.map SrtO.iv).length = n → Q (.ref b) s2) : wpAny (model P w) A (call (.builtin "sorted") [.ref a]) Q E s := by
  obtain ⟨ob, en, e0, tab, r1, r2, r3, r4, r5, r6, r7, r8, r9, r10, r11⟩ := R
  have body : ∀ {F : PySem.Fin → Shared → Prop}, (∀ v s2, Q v s2 → F (.done (.ret v)) s2) → wpAny (model P w) A.in1 (Builtin.«sorted» ⟨[.ref a], []⟩) F E s := fun {F} hF => by
    unfold Builtin.«sorted»
    refine wpAny_bind (m := checkCount "sorted" 1 1 1) (wpAny_pure (wpAny_bind (collect_set (A := A.in1) no ⟨ob, r1, r2.1, r3⟩ r8 r7 r10 r11 fun s1 vs keep big1 ge1 os1 pm => ?_)))
    have len : vs.length = n := by rw [pm.length_eq, List.length_map, Array.length_toList]; exact r9
    refine big_sort (fun v hv => ?_) (by rw [len]; exact Nat.le_trans big (by decide)) fun out o1 o2 o3 => hF _ _ ?_
    · obtain ⟨x, hx, rfl⟩ := List.mem_map.mp (pm.mem_iff.mp hv)
      obtain ⟨k, tk, hk, _⟩ := r4 x hx
      exact ⟨k, tk, hk⟩
    · have pk : (out.map SrtO.iv).Perm (en.toList.map keyOf) := o2.trans (by
        have := pm.map Builtin.Re.reRawOf
        rwa [List.map_map] at this)
      obtain ⟨c, hc⟩ := sortedHeap_at (vs := vs) (out := out.toArray) (show (s1.heap.push (seqObj "list" vs.toArray 0)).get? s1.heap.objs.size = some (seqObj "list" vs.toArray 0) from Heap.get?_push_size _ rfl)
      refine fin _ s1.heap.objs.size out c (fun x u hx => ?_) ge1 os1 big1 hc o1 (lt_of_le_nodup _ o3 (pk.nodup_iff.mpr r5)) (fun k => by rw [pk.mem_iff, ← r6 k]) (by rw [pk.length_eq, List.length_map, Array.length_toList]; exact r9)
      have lt := Heap.lt_size (keep x u hx)
      exact (sortedHeap_old (Nat.ne_of_lt lt) (by rw [size_push']; exact Nat.lt_succ_of_lt lt)).trans (Heap.get?_push_of_some _ (keep x u hx))
  exact Calls.call_function_entry (kind_sorted) (plain_sorted) (entry_sorted) (args_sorted1 _) (body fun v s2 q => ⟨_, rfl, q⟩)
def rSortedBig (w : World) : List V → Hp → VK → Prop := fun vs H Q => ∃ (a : Addr) (T : Int → Bool) (n : Nat), vs = [V.ref a] ∧ H a = some (SetO w a T n) ∧ n ≤ 1000 ∧
  ∀ (ns : List Int) (b : Addr), ns.Pairwise (· < ·) → (∀ k : Int, k ∈ ns ↔ T k = true) → ns.length = n → H b = none → Q (.ref b) (upd H b (.lst (ns.map V.int)))
theorem cr_sortedBig {X : Cx} (calm : X.calm = true) : CallR X (.builtin "sorted") (rSortedBig X.w) := fun pins s σ H vs us Q I r ⟨a, T, n, e, ha, big, q⟩ => by
  subst e
  rw [Vals.ref1 r]
  refine big_set big (setO_get I ha) (I.ok.hd calm) fun s2 b out c keep ge os nb hb are lt mem len => ?_
  have none_ : H b = none := I.hok.fresh nb
  have fits : ((out.map SrtO.iv).map V.int).length ≤ sizeLine := by rw [List.length_map, len]; exact Nat.le_trans big (by decide)
  obtain ⟨heap2, gens2, os2, drawn2, toks2⟩ := s2
  cases ge; cases os
  exact ⟨.ref b, upd H b (.lst ((out.map SrtO.iv).map V.int)), I.call (ch := []) (Un.laid keep nb none_) (I.hok.laid keep nb ⟨fits, out, c, vals_of_ints are, hb⟩) I.bare (fun _ z => nomatch z), rfl, q _ b lt mem len none_⟩
end
section
variable {S : Stc} {Γ : Ctxt} {k : Nat} {e : Expr} {pos pn : Pos}
theorem rc_sortBig {w : World} {ns : List Int} : RC1F (rSortedBig w) (cSet w) ns cInt (· = ns) := fun Hf H v e ⟨a, T, h1, h2, h3, h4, h5⟩ Q q => by
  refine ⟨a, T, ns.length, by rw [h1], e _ _ h2, h5, fun ms p hu hm hl hp => ?_⟩
  obtain rfl : ms = ns := up_ext hu h4 fun k => (hm k).trans (by rw [h3 k, decide_eq_true_iff])
  exact q p _ ms rfl hp (paired_ints ms) (by rw [List.length_map]; exact Nat.le_trans h5 (by decide))
theorem xsortBig {w : W (List Int)} (hg : S.sc.names.lookup ("sorted" : Str) = some .globalImplicit) (hm : S.mg "sorted" = none) (h : PW S Γ k e (cSet S.w) w) (he : ∀ env : Env, starEach [e] env = (false, eval e env) :: starEach [] env) : PWF S Γ k (.Call (.Name "sorted" pn) [e] [] pos) cInt w := fun Q q =>
  TDF.imp (pdf_b1 (R := fun ys => ∃ x, ys = x ∧ Q x) (fun X G => by rw [← G.w]; exact cr_sortedBig G.calm) hg hm PyProof.Rows.boot_sorted (h _ q) (fun x p => rc_sortBig.imp fun ys h => ⟨x, h, p⟩) he) fun ys ⟨x, h, p⟩ => by rw [h]; exact p
end
end DL

set_option Elab.async false
set_option linter.all false
set_option maxRecDepth 100000
set_option maxHeartbeats 4000000
namespace DL
open PySem PySem.Spec L2 PyProof.Rows
/-! ### sum of a tuple of ints -/
def rSumT (K : PySem.W.Frag) : List V → Hp → VK → Prop := fun vs H Q => ∃ (a : Addr) (ns : List Int), vs = [V.ref a] ∧ SqT K H a (ns.map V.int) ∧ Q (.int ns.sum) H
theorem cr_sumT {X : Cx} (calm : X.calm = true) : CallR X (.builtin "sum") (rSumT X.K) := fun pins s σ H vs us Q I r ⟨a, ns, e, hs, q⟩ => by
  subst e
  obtain ⟨its, rv, tup, _⟩ := I.tuple hs
  rw [Vals.ref1 r]
  have are := rv.ints
  obtain ⟨xs, ex⟩ := are.allInts.items
  have nums : numsOf (intItems xs).toList = ns := by rw [← ex]; exact are.numsOf
  rw [nums_intItems] at nums
  refine PySem.W.ktm_sumG (xs := xs) (I.ok.hd calm) (by rw [← ex]; exact tup) fun h2 tk t2 keep => ⟨.int ns.sum, H, I.kept keep, ⟨t2, ?_⟩, q⟩
  rw [preSum_eq, List.take_of_length_le (by simp), nums]
section
variable {S : Stc} {Γ : Ctxt} {k : Nat} {e : Expr} {pos pn : Pos}
theorem rc_sumT {K : PySem.W.Frag} {ns : List Int} : RC1 (rSumT K) (cTup cInt) ns cInt (· = ns.sum) := fun Hf H v e ⟨a, vs, h1, h2, h3, h4⟩ Q q => by
  have := ints_of_paired h3
  subst this
  exact ⟨a, ns, by rw [h1], SqT.of (e _ _ h2), q ns.sum Hf H _ rfl rfl Fr.refl e⟩
theorem xsumT {w : W (List Int)} (hg : S.sc.names.lookup ("sum" : Str) = some .globalImplicit) (hm : S.mg "sum" = none) (h : PW S Γ k e (cTup cInt) w) (he : ∀ env : Env, starEach [e] env = (false, eval e env) :: starEach [] env) : PW S Γ k (.Call (.Name "sum" pn) [e] [] pos) cInt (fun Q => w fun x => Q x.sum) :=
  xb1 (r := rSumT S.K) (fun X G => by rw [← G.K]; exact cr_sumT G.calm) hg hm PyProof.Rows.boot_sum h (fun _ => rc0 rc_sumT) he
end
end DL

set_option Elab.async false
set_option linter.all false
set_option maxRecDepth 100000
set_option maxHeartbeats 4000000
namespace DL
open PySem PySem.Spec L2
def inB {α : Type} [DecidableEq α] (x : α) (xs : List α) : Bool := decide (x ∈ xs)
theorem inB_iff {α : Type} [DecidableEq α] {x : α} {xs : List α} : inB x xs = true ↔ x ∈ xs := by unfold inB; exact decide_eq_true_iff
section
variable {S : Stc} {Γ : Ctxt} {k : Nat} {a : Expr} {pos pos' pn pn' : Pos}
/-- list(range(e)) -/
theorem xlrgW {w : W Int} (hg : S.sc.names.lookup ("list" : Str) = some .globalImplicit) (hm : S.mg "list" = none) (hg2 : S.sc.names.lookup ("range" : Str) = some .globalImplicit) (hm2 : S.mg "range" = none) (h : PW S Γ k a cInt w)
    (hs : ∀ env : Env, starEach [a] env = (false, eval a env) :: starEach [] env) (hs2 : ∀ env : Env, starEach [.Call (.Name "range" pn) [a] [] pos] env = (false, eval (.Call (.Name "range" pn) [a] [] pos) env) :: starEach [] env) :
    PWF S Γ k (.Call (.Name "list" pn') [.Call (.Name "range" pn) [a] [] pos] [] pos') cInt (fun Q => w fun j => (j ≤ 1000000 ∧ 0 ≤ j) ∧ Q (rng j)) := fun Q q0 =>
  pdf_of (te := tLstRg (tRg1 (tE S a))) (fun X G => pe_listRg G.calm (glb G hg) (by rw [G.mg]; exact hm) (prg_1 (glb G hg2) (by rw [G.mg]; exact hm2) (tE_ok G) (hs _)) (hs2 _)) fun O n σ Hf H hn s Q q => h _ q0 O n σ Hf H hn s _ fun v Hf' H' y py r f s' => by
    obtain rfl := r
    obtain ⟨hj, py⟩ := py
    refine ⟨y, rfl, RgOk.of_le (by omega) (by omega) (by omega) (by omega), fun p hp => ?_⟩
    have pr : Paired (cInt.rep Hf') (rgV 0 y) (rng y) := by have := rgV_paired (H := Hf') 0 y; rwa [Int.sub_zero] at this
    exact q p (rgV 0 y) Hf' (upd H' p (.lst (rgV 0 y))) _ py upd_same (s'.ex.back hp) (f.dom p hp) pr (by rw [rgV_length]; unfold LB; omega) (f.trans (Fr.newO (M := Bx Γ) hp) fun _ z => .inl z) (s'.grow0 (Fr.newO hp) (s'.ex.trans (Ex.new hp)))
end
end DL

set_option Elab.async false
set_option linter.all false
set_option maxRecDepth 100000
set_option maxHeartbeats 4000000
namespace DL
open PySem PySem.Spec L2
/-! ### a new list of new lists, put together place by place (found[at].append(x), found.append([x])) -/
/-- an object by its address -/
def cAd : Cod Addr := ⟨fun _ v a => v = .ref a, fun _ h => h⟩
section
variable {O : Org} {Hf H : Hp} {σ : Stt} {Γ : Ctxt} {n : Nat}
theorem Sat.mutFree (S : Sat O Hf H σ Γ n) {a : Addr} {o : HO} (h1 : Hf a = none) (h2 : O.H a = none) (h3 : ¬ Owns σ Γ a) : Sat O Hf (upd H a o) σ Γ n where
  len := S.len
  ex := S.ex.mut h1
  at_ := fun i s hs => by
    have q := S.at_ i s hs
    cases s with
    | un => trivial
    | d c x => exact q
    | l c xs =>
      obtain ⟨b, vs, e1, e2, e3⟩ := q
      have ne : b ≠ a := fun z => h3 ⟨i, _, hs, rfl, z ▸ e1⟩
      exact ⟨b, vs, e1, by rw [upd_ne ne]; exact e2, e3⟩
    | bx b =>
      obtain ⟨e1, e2, e3⟩ := q
      have ne : b ≠ a := fun z => h3 ⟨i, _, hs, rfl, z ▸ e1⟩
      exact ⟨e1, e2, boxAt_ex e3 fun o r => by rw [upd_ne ne]; exact r⟩
    | r p =>
      obtain ⟨b, o, e1, e2, e3⟩ := q
      have ne : b ≠ a := fun z => h3 ⟨i, _, hs, rfl, z ▸ e1⟩
      exact ⟨b, o, e1, by rw [upd_ne ne]; exact e2, e3⟩
  sep := S.sep
  fr := ⟨S.fr.ex, fun b u e nm => by
    have ne : b ≠ a := fun z => by subst z; rw [h2] at e; cases e
    rw [upd_ne ne]; exact S.fr.keep b u e nm, S.fr.fz, fun b e => by
    by_cases z : b = a
    · rw [z]; exact h2
    · rw [upd_ne z] at e; exact S.fr.dom b e⟩
  mine := S.mine
open Classical in
/-- what is one's own and lies in F is frozen -/
noncomputable def frzIn (F : Addr → Prop) (Hf H : Hp) : Hp := fun a => if F a then H a else Hf a
theorem frz_ex {F : Addr → Prop} (h : ∀ a, F a → Hf a = none) : Ex Hf (frzIn F Hf H) := fun a o e => by
  unfold frzIn
  rw [if_neg fun z => by rw [h a z] at e; cases e]; exact e
theorem Sat.frzAll (S : Sat O Hf H σ Γ n) {F : Addr → Prop} (h1 : ∀ a, F a → Hf a = none) (h2 : ∀ a, F a → O.M a ∨ O.H a = none) (h3 : ∀ a, Owns σ Γ a → ¬ F a) : Sat O (frzIn F Hf H) H σ Γ n where
  len := S.len
  ex := fun a o e => by
    unfold frzIn at e
    split at e
    · exact e
    · exact S.ex a o e
  at_ := fun i s hs => by
    have q := S.at_ i s hs
    have out : ∀ {b : Addr}, s.own = true → σ[i]? = some (some (V.ref b)) → Hf b = none → frzIn F Hf H b = none := fun {b} o e z => by
      unfold frzIn
      rw [if_neg (h3 b ⟨i, s, hs, o, e⟩)]; exact z
    cases s with
    | un => trivial
    | d c x => obtain ⟨v, e1, e2⟩ := q; exact ⟨v, e1, c.mono (frz_ex h1) e2⟩
    | l c xs =>
      obtain ⟨b, vs, e1, e2, e3, e4, e5⟩ := q
      exact ⟨b, vs, e1, e2, out rfl e1 e3, paired_mono e4 (fun _ _ r => c.mono (frz_ex h1) r), e5⟩
    | bx b => obtain ⟨e1, e2, e3⟩ := q; exact ⟨e1, out rfl e1 e2, e3⟩
    | r p => obtain ⟨b, o, e1, e2, e3, e4⟩ := q; exact ⟨b, o, e1, e2, out rfl e1 e3, p.mono (frz_ex h1) e4⟩
  sep := S.sep
  fr := ⟨S.fr.ex.trans (frz_ex h1), S.fr.keep, fun a o e nm z => by
    unfold frzIn
    by_cases f : F a
    · exfalso
      rcases h2 a f with q | q
      · exact nm q
      · rw [e] at q; cases q
    · rw [if_neg f]; exact S.fr.fz a o e nm z, S.fr.dom⟩
  mine := S.mine
end
/-- lists that are put together: ascending, none empty, at most k of them -/
structure Blk (k : Nat) (bs : List (List Int)) : Prop where
  each : ∀ b ∈ bs, ((b.Pairwise (· < ·) ∧ ∀ x ∈ b, 0 ≤ x ∧ x < (k : Int)) ∧ b ≠ []) ∧ b.length ≤ k
  few : bs.length ≤ k
theorem Blk.put {k : Nat} {bs : List (List Int)} (h : Blk k bs) {i : Nat} (hi : i < bs.length) : Blk (k + 1) (bs.set i (bs[i] ++ [(k : Int)])) := ⟨fun b hb => by
  rcases List.mem_or_eq_of_mem_set hb with z | z
  · have := h.each b z
    exact ⟨⟨⟨this.1.1.1, fun x hx => by have := this.1.1.2 x hx; omega⟩, this.1.2⟩, by omega⟩
  · have := h.each _ (List.getElem_mem hi)
    rw [z]
    refine ⟨⟨⟨List.pairwise_append.mpr ⟨this.1.1.1, by simp, fun a ha c hc => ?_⟩, fun x hx => ?_⟩, by simp⟩, by rw [List.length_append, List.length_singleton]; omega⟩
    · rw [List.mem_singleton.mp hc]; exact (this.1.1.2 a ha).2
    · rcases List.mem_append.mp hx with y | y
      · have := this.1.1.2 x y; omega
      · rw [List.mem_singleton.mp y]; omega, by rw [List.length_set]; have := h.few; omega⟩
theorem Blk.add {k : Nat} {bs : List (List Int)} (h : Blk k bs) : Blk (k + 1) (bs ++ [[(k : Int)]]) := ⟨fun b hb => by
  rcases List.mem_append.mp hb with z | z
  · have := h.each b z
    exact ⟨⟨⟨this.1.1.1, fun x hx => by have := this.1.1.2 x hx; omega⟩, this.1.2⟩, by omega⟩
  · rw [List.mem_singleton.mp z]
    exact ⟨⟨⟨by simp, fun x hx => by rw [List.mem_singleton.mp hx]; omega⟩, by simp⟩, by simp⟩, by rw [List.length_append, List.length_singleton]; have := h.few; omega⟩
/-- the inner lists as they stand -/
structure Inn (O : Org) (Hf H : Hp) (as : List Addr) (bs : List (List Int)) : Prop where
  nd : as.Nodup
  at_ : Paired (fun a (l : List Int) => H a = some (.lst (l.map V.int))) as bs
  fre : ∀ a ∈ as, Hf a = none ∧ O.H a = none
theorem pr_get {α β : Type} {F : α → β → Prop} : ∀ {xs : List α} {ys : List β} {i : Nat} (hx : i < xs.length) (hy : i < ys.length), Paired F xs ys → F xs[i] ys[i]
  | _, _, 0, _, _, .cons r _ => r
  | _, _, i + 1, hx, hy, .cons _ t => pr_get (i := i) (by simpa using hx) (by simpa using hy) t
theorem pr_mono {α β : Type} {F G : α → β → Prop} : ∀ {xs : List α} {ys : List β}, Paired F xs ys → (∀ x ∈ xs, ∀ y, F x y → G x y) → Paired G xs ys
  | _, _, .nil, _ => .nil
  | _, _, .cons r t, h => .cons (h _ List.mem_cons_self _ r) (pr_mono t fun x hx => h x (List.mem_cons_of_mem _ hx))
theorem Inn.has {O : Org} {Hf H : Hp} {as : List Addr} {bs : List (List Int)} (I : Inn O Hf H as bs) {a : Addr} (ha : a ∈ as) : ∃ l : List Int, H a = some (.lst (l.map V.int)) := by
  obtain ⟨i, hi, e⟩ := List.getElem_of_mem ha
  have hb : i < bs.length := by rw [← I.at_.length]; exact hi
  exact ⟨_, e ▸ pr_get hi hb I.at_⟩
theorem Inn.keep {O : Org} {Hf H Hf' H' : Hp} {as : List Addr} {bs : List (List Int)} (I : Inn O Hf H as bs) (h1 : ∀ a ∈ as, ∀ o, H a = some o → H' a = some o) (h2 : ∀ a ∈ as, Hf a = none → Hf' a = none) : Inn O Hf' H' as bs :=
  ⟨I.nd, pr_mono I.at_ fun a ha l e => h1 a ha _ e, fun a ha => ⟨h2 a ha (I.fre a ha).1, (I.fre a ha).2⟩⟩
theorem Inn.put {O : Org} {Hf H : Hp} {x : Int} : ∀ {as : List Addr} {bs : List (List Int)} {j : Nat}, Inn O Hf H as bs → (ha : j < as.length) → (hb : j < bs.length) → Inn O Hf (upd H as[j] (.lst ((bs[j] ++ [x]).map V.int))) as (bs.set j (bs[j] ++ [x])) := fun {as bs j} I ha hb => by
  refine ⟨I.nd, ?_, I.fre⟩
  have go : ∀ {as : List Addr} {bs : List (List Int)} {j : Nat} (ha : j < as.length) (hb : j < bs.length), as.Nodup → Paired (fun a (l : List Int) => H a = some (.lst (l.map V.int))) as bs → ∀ y : List Int, Paired (fun a (l : List Int) => (upd H as[j] (.lst (y.map V.int))) a = some (.lst (l.map V.int))) as (bs.set j y) := fun {as bs j} ha hb nd pr => by
    induction pr generalizing j with
    | nil => exact absurd ha (Nat.not_lt_zero _)
    | @cons a l as bs r t ih =>
      intro y
      have nd' := List.nodup_cons.mp nd
      cases j with
      | zero => exact .cons upd_same (pr_mono t fun b hb2 l2 e => by rw [show (a :: as)[0] = a from rfl, upd_ne (show b ≠ a from fun z => nd'.1 (by rw [← z]; exact hb2))]; exact e)
      | succ j =>
        have hj : j < as.length := by simpa using ha
        refine .cons ?_ (ih hj (by simpa using hb) nd'.2 y)
        show (upd H as[j] _) a = _
        rw [upd_ne (show a ≠ as[j] from fun z => nd'.1 (by rw [z]; exact List.getElem_mem hj))]; exact r
  exact go ha hb I.nd I.at_ _
theorem ad_paired {Hf : Hp} : ∀ {vs : List V} {as : List Addr}, Paired (cAd.rep Hf) vs as → vs = as.map V.ref
  | _, _, .nil => rfl
  | _, _, .cons r t => by rw [ad_paired t, List.map_cons]; rw [show _ = V.ref _ from r]
abbrev bG (z : Addr) (m : Nat) (as : List Addr) (p a : Sl) : Ctxt := [.bx z, .d cInt (m : Int), .l cAd as, p, a]
theorem not_own {O : Org} {Hf H : Hp} {σ : Stt} {z : Addr} {m : Nat} {as : List Addr} {p a : Sl} {n : Nat} {bs : List (List Int)} (hp : p.own = false) (ha : a.own = false) (S : Sat O Hf H σ (bG z m as p a) n) (I : Inn O Hf H as bs) {b : Addr} (hb : b ∈ as) : ¬ Owns σ (bG z m as p a) b := fun ⟨i, s, h1, h2, h3⟩ => by
  obtain ⟨l, hl⟩ := I.has hb
  have q := S.at_ i s h1
  match i, h1 with
  | 0, h1 =>
    cases h1
    obtain ⟨e1, _, g, bb, x, c, e2, _⟩ := q
    rw [h3] at e1
    cases e1
    rw [hl] at e2
    injection e2 with e2; injection e2 with e2
    match l, e2 with
    | [], e2 => cases e2
    | [_], e2 => cases e2
    | _ :: _ :: _, e2 =>
      have := (List.cons.inj (List.cons.inj e2).2).1
      cases this
  | 1, h1 => cases h1; cases h2
  | 2, h1 =>
    cases h1
    obtain ⟨c, vs, e1, e2, _, e4, _⟩ := q
    rw [h3] at e1
    cases e1
    rw [hl] at e2
    injection e2 with e2; injection e2 with e2
    have e5 := ad_paired e4
    rw [← e2] at e5
    cases as with
    | nil => cases hb
    | cons a0 as => cases l with
      | nil => cases e5
      | cons x l =>
        have := (List.cons.inj e5).1
        cases this
  | 3, h1 => cases h1; rw [hp] at h2; cases h2
  | 4, h1 => cases h1; rw [ha] at h2; cases h2
  | k + 5, h1 => cases h1
theorem hsr_blocks {K : PySem.W.Frag} {z : Addr} {m : Nat} {is : List Nat} (hm : m ≤ 8) {wi : TI} {tt : TT} {tat tob tpl tnl : TE} {R : List (List Int) → Prop} {N B C : Ctxt → Prop}
    (hw : TW wi (bG z m [] .un .un) 0 cInt (· = rangeL 0 m))
    (hg : ∀ as x, GD (gName 3) cInt x (bG z m as .un .un) (bG z m as (.d cInt x) .un) is)
    (h3 : ∀ as (x : Int), as.length ≤ 8 → TD tat (bG z m as (.d cInt x) .un) 1 cInt (fun y => 0 ≤ y))
    (ht : ∀ as (x y : Int), TDT tt (bG z m as (.d cInt x) (.d cInt y)) 0 (· = decide (y < (as.length : Int))))
    (ho : ∀ as (x y : Int), 0 ≤ y → (hy : y.toNat < as.length) → TD tob (bG z m as (.d cInt x) (.d cInt y)) 0 cAd (· = as[y.toNat]))
    (hp : ∀ as (x y : Int), TD tpl (bG z m as (.d cInt x) (.d cInt y)) 0 cInt (· = x))
    (hn : ∀ as (x y : Int), TDF tnl (bG z m as (.d cInt x) (.d cInt y)) 0 cInt (· = [x]))
    (q : ∀ bs, Blk m bs → R bs) :
    HSR (tSeq (tFor wi (gName 3) (tSeq (tAsg tat (gName 4)) (tIfS tt (tDrop (tBM K "list" rAppend tob (tCons tpl tNil))) (tDrop (tBM K "list" rAppend (tVar 2) (tCons tnl tNil)))))) (tRet (tVar 2))) (bG z m [] .un .un) 8 (rD (cList (cList cInt))) N B C R := fun O n σ Hf H hk S D q1 q2 q3 q4 =>
  hw O n σ Hf H (by omega) S _ fun J Hf1 H1 ys px Ws lb f1 S1 => by
    subst px
    have ly : (rangeL 0 m).length = m := rangeL_len
    refine ⟨fun i mm σ' H' => mm = m - i ∧ i ≤ m ∧ ∃ Hf' as bs, Sat O Hf' H' σ' (bG z m as .un .un) (n + i) ∧ Inn O Hf' H' as bs ∧ Blk i bs ∧ Ex Hf1 Hf', ⟨m, by simp, Nat.zero_le _, Hf1, [], [], S1, ⟨.nil, .nil, fun a h => (nomatch h)⟩, ⟨fun b hb => (nomatch hb), Nat.le_refl _⟩, Ex.rfl'⟩, ?_⟩
    rintro i mm σ' H' ⟨rfl, hi, Hf', as, bs, S', I, Bk, ex⟩
    have lab : as.length = bs.length := I.at_.length
    have l8 : as.length ≤ 8 := by have := Bk.few; omega
    by_cases hlt : i < m
    · have hx : (rangeL 0 m)[i]? = some (i : Int) := by
        have h0 := List.getElem?_eq_getElem (l := rangeL 0 m) (i := i) (by rw [ly]; exact hlt)
        have := rangeL_get h0
        rw [h0, this]; congr 1; omega
      refine .inr ⟨Ws.go Hf' H' i ex S'.ex (by rw [ly]; exact hlt), fun σ2 H2 => ∃ Hf2 as bs, Sat O Hf2 H2 σ2 (bG z m as .un .un) (n + (i + 1)) ∧ Inn O Hf2 H2 as bs ∧ Blk (i + 1) bs ∧ Ex Hf1 Hf2, fun σ2 H2 h2 => ⟨m - (i + 1), by omega, rfl, hlt, h2⟩, fun v H2 hy => ?_⟩
      obtain ⟨Hf2, rx, fy, ey⟩ := Ws.yld Hf' H' i v H2 _ ex S'.ex hy hx
      have S2 := S'.grow0 fy ey
      have I2 : Inn O Hf2 H2 as bs := I.keep (fun a _ o e => fy.keep a o e id) fun a ha z => by
        obtain ⟨l, e⟩ := I.has ha
        exact fy.fz a _ e id z
      refine (hg as (i : Int)).2.2 O _ σ' Hf2 H2 v rx S2 _ fun σ3 S3 _ => ?_
      -- what a step over data leaves
      have step : ∀ {Hfa Ha Hfb Hb : Hp} {σa : Stt} {p a : Sl} {k : Nat}, p.own = false → a.own = false → Sat O Hfa Ha σa (bG z m as p a) k → Inn O Hfa Ha as bs → Fr (Bx (bG z m as p a)) Hfa Ha Hfb Hb → Inn O Hfb Hb as bs := fun {Hfa Ha Hfb Hb σa p a k} e1 e2 Sa Ia f => Ia.keep (fun b hb o e => f.keep b o e fun y => not_own e1 e2 Sa Ia hb (Sa.bxOwn y)) fun b hb y => by
        obtain ⟨l, e⟩ := Ia.has hb
        exact f.fz b _ e (fun w => not_own e1 e2 Sa Ia hb (Sa.bxOwn w)) y
      refine h3 as (i : Int) l8 O _ σ3 Hf2 H2 (by omega) S3 _ fun u Hf4 H4 y py ry f4 S4 => ?_
      have I4 := step rfl rfl S3 I2 f4
      have S5 : Sat O Hf4 H4 (σ3.set 4 (some u)) (bG z m as (.d cInt (i : Int)) (.d cInt y)) (n + i + 1) := S4.set ry
      refine ht as (i : Int) y O _ _ Hf4 H4 (by omega) S5 _ fun b Hf5 H5 pb f5 S6 => ?_
      have I5 := step rfl rfl S5 I4 f5
      subst pb
      by_cases hy2 : y < (as.length : Int)
      · rw [decide_eq_true hy2, if_pos rfl]
        have hy3 : y.toNat < as.length := by omega
        refine ho as (i : Int) y py hy3 O _ _ Hf5 H5 (by omega) S6 _ fun w Hf6 H6 a ea ra f6 S7 => ?_
        have I6 := step rfl rfl S6 I5 f6
        have ra : w = .ref a := ra
        subst ra
        have hl := pr_get hy3 (by rw [← lab]; exact hy3) I6.at_
        rw [← ea] at hl
        refine ⟨.inl ⟨rfl, _, SqL.of hl⟩, ?_⟩
        refine hp as (i : Int) y O _ _ Hf6 H6 (by omega) S7 _ fun w2 Hf7 H7 x ex7 rx2 f7 S8 => ?_
        have I7 := step rfl rfl S7 I6 f7
        subst ex7
        have rx2 : w2 = .int (i : Int) := rx2
        subst rx2
        have hl7 := pr_get hy3 (by rw [← lab]; exact hy3) I7.at_
        rw [← ea] at hl7
        have am : a ∈ as := by rw [ea]; exact List.getElem_mem hy3
        have bl := (Bk.each _ (List.getElem_mem (show y.toNat < bs.length by rw [← lab]; exact hy3))).2
        refine ⟨a, _, .int (i : Int), rfl, rfl, hl7, lb_lt (by rw [List.length_map]; exact Nat.le_trans bl (Nat.le_trans hi (Nat.le_trans hm (by decide)))), ?_⟩
        have nw := I7.put (x := (i : Int)) hy3 (by rw [← lab]; exact hy3)
        rw [← ea, List.map_append] at nw
        exact ⟨Hf7, as, _, (S8.mutFree (I7.fre a am).1 (I7.fre a am).2 (not_own rfl rfl S8 I7 am)).forget [3, 4], nw, Bk.put (by rw [← lab]; exact hy3), ex.trans (fy.ex.trans (f4.ex.trans (f5.ex.trans (f6.ex.trans f7.ex))))⟩
      · rw [decide_eq_false hy2, if_neg Bool.false_ne_true]
        obtain ⟨Da, vs, d1, d2, d3, d4, d5⟩ := S6.at_ 2 _ rfl
        refine ⟨.ref Da, d1, .inl ⟨rfl, vs, SqL.of d2⟩, ?_⟩
        refine hn as (i : Int) y O _ _ Hf5 H5 (by omega) S6 _ fun p vs2 Hf6 H6 xs pxs hp1 hp2 hp3 pr lbp f6 S7 => ?_
        have I6 := step rfl rfl S6 I5 f6
        subst pxs
        have ev : vs2 = [V.int (i : Int)] := by
          cases pr with
          | cons r t =>
            cases t
            rw [show _ = V.int (i : Int) from r]
        subst ev
        obtain ⟨Da', vs', w1, w2, w3, w4, w5⟩ := S7.at_ 2 _ rfl
        rw [d1] at w1
        injection w1 with w1; injection w1 with w1; injection w1 with w1
        subst w1
        have lv := paired_len w4
        refine ⟨Da, vs', .ref p, rfl, rfl, w2, lb_lt w5, ?_⟩
        have pD : p ≠ Da := fun e => by rw [e, d2] at hp3; cases hp3
        have pas : p ∉ as := fun e => by
          obtain ⟨l, hl⟩ := I5.has e
          rw [hl] at hp3; cases hp3
        have nDa : ∀ b ∈ as, b ≠ Da := fun b hb e => not_own rfl rfl S7 I6 hb ⟨2, _, rfl, rfl, by rw [e]; exact d1⟩
        refine ⟨Hf6, as ++ [p], bs ++ [[(i : Int)]], (S7.wr (i := 2) rfl d1 (c := cAd) (xs := as ++ [p]) (Paired.snoc w4 rfl) (by rw [List.length_append, List.length_singleton]; exact Nat.le_trans (show vs'.length + 1 ≤ 9 by omega) (by decide))).forget [3, 4], ⟨?_, ?_, fun b hb => ?_⟩, Bk.add, ex.trans (fy.ex.trans (f4.ex.trans (f5.ex.trans f6.ex)))⟩
        · exact List.nodup_append.mpr ⟨I6.nd, by simp, fun b hb c hc e => pas (by rw [← List.mem_singleton.mp hc, ← e]; exact hb)⟩
        · refine Paired.snoc (pr_mono I6.at_ fun b hb l e => ?_) ?_
          · rw [upd_ne (nDa b hb)]; exact e
          · rw [upd_ne pD]; exact hp1
        · rcases List.mem_append.mp hb with h | h
          · exact I6.fre b h
          · rw [List.mem_singleton.mp h]; exact ⟨hp2, S6.fr.dom p hp3⟩
    · have e : i = m := by omega
      subst e
      obtain ⟨Da, vs, d1, d2, d3, d4, d5⟩ := S'.at_ 2 _ rfl
      have ev := ad_paired d4
      refine .inl ⟨by have := Ws.stop Hf' H' ex S'.ex; rwa [ly] at this, .ref Da, d1, ?_⟩
      have nDa : ∀ b ∈ as, b ≠ Da := fun b hb e => not_own rfl rfl S' I hb ⟨2, _, rfl, rfl, by rw [e]; exact d1⟩
      have fr0 : ∀ a, (a = Da ∨ a ∈ as) → Hf' a = none := fun a h => by
        rcases h with h | h
        · rw [h]; exact d3
        · exact (I.fre a h).1
      have S9 := (S'.forget [2]).frzAll (F := fun a => a = Da ∨ a ∈ as) fr0 (fun a h => by
        rcases h with h | h
        · rw [h]; exact S'.mine Da ⟨2, _, rfl, rfl, d1⟩
        · exact .inr (I.fre a h).2) (fun a ⟨j, s, h1, h2, h4⟩ h => by
        have own : Owns σ' (bG z i as .un .un) a ∧ j ≠ 2 := by
          match j, h1 with
          | 0, h1 => cases h1; exact ⟨⟨0, _, rfl, rfl, h4⟩, by decide⟩
          | 1, h1 => cases h1; cases h2
          | 2, h1 => cases h1; cases h2
          | 3, h1 => cases h1; cases h2
          | 4, h1 => cases h1; cases h2
          | k + 5, h1 => cases h1
        rcases h with h | h
        · subst h
          match j, h1, own.2 with
          | 0, h1, _ =>
            cases h1
            exact S'.sep 0 2 _ _ a (by decide) rfl rfl rfl rfl h4 d1
          | 1, h1, _ => cases h1; cases h2
          | 3, h1, _ => cases h1; cases h2
          | 4, h1, _ => cases h1; cases h2
          | k + 5, h1, _ => cases h1
        · exact not_own rfl rfl S' I h own.1)
      refine q4 (.ref Da) σ' _ H' _ bs (q bs Bk) ⟨Da, vs, rfl, ?_, ?_, d5⟩ ⟨S9.le (by omega), ?_, f1.ex.trans (ex.trans (frz_ex fr0))⟩
      · unfold frzIn; rw [if_pos (.inl rfl)]; exact d2
      · rw [ev]
        have go : ∀ {as' : List Addr} {bs' : List (List Int)}, Paired (fun a (l : List Int) => H' a = some (.lst (l.map V.int))) as' bs' → (∀ a ∈ as', a ∈ as) → (∀ b ∈ bs', b.length ≤ LB) → Paired ((cList cInt).rep (frzIn (fun a => a = Da ∨ a ∈ as) Hf' H')) (as'.map V.ref) bs' := fun {as' bs'} pr => by
          induction pr with
          | nil => intro _ _; exact .nil
          | @cons a l as' bs' r t ih =>
            intro h1 h2
            refine .cons ⟨a, l.map V.int, rfl, ?_, paired_ints l, by rw [List.length_map]; exact h2 l List.mem_cons_self⟩ (ih (fun b hb => h1 b (List.mem_cons_of_mem _ hb)) fun b hb => h2 b (List.mem_cons_of_mem _ hb))
            unfold frzIn
            rw [if_pos (.inr (h1 a List.mem_cons_self))]; exact r
        exact go I.at_ (fun a h => h) fun b hb => Nat.le_trans (Bk.each b hb).2 (Nat.le_trans hm (by decide))
      · intro j a h
        match j, h with
        | 0, h => exact h
        | 1, h => cases h
        | 2, h => cases h
        | 3, h => cases h
        | 4, h => cases h
        | k + 5, h => cases h
end DL

set_option Elab.async false
set_option linter.all false
set_option maxRecDepth 100000
set_option maxHeartbeats 4000000
namespace K18
open PySem PySem.Spec L2 DL
def m_is_list (value0 : List Int) (R : Bool → Prop) : Prop :=
  R true
def m_is_list_t (value0 : List ((List Int) × (List Int))) (R : Bool → Prop) : Prop :=
  R true
def m_is_integer (value0 : Int) (R : Bool → Prop) : Prop :=
  R (true && (!false))
def m_is_index (value0 : Int) (many0 : Int) (R : Bool → Prop) : Prop :=
  (m_is_integer value0 fun x1 => (wIte x1 (fun Q3 => Q3 (decide ((0 : Int) ≤ value0) && decide (value0 < many0))) (fun Q3 => Q3 false) fun x2 => R x2))
def m_are_numbers (value0 : List Int) (many0 : Int) (R : Bool → Prop) : Prop :=
  (m_is_list value0 fun x2 => (wIte x2 (fun Q4 => (wMap (fun (x1 : Int) => (fun Q6 => (m_is_index x1 many0 fun x7 => Q6 x7))) value0 fun x5 => Q4 (x5.all id))) (fun Q4 => Q4 false) fun x3 => R x3))
def m_is_lot (value0 : List Int) (many0 : Int) (R : Bool → Prop) : Prop :=
  (m_are_numbers value0 many0 fun x1 => (wIte x1 (fun Q3 => (value0.length ≤ 1000 ∧ Q3 (decide (value0 = asc value0)))) (fun Q3 => Q3 false) fun x2 => R x2))
def m_are_places (value0 : List Int) (many0 : Int) (R : Bool → Prop) : Prop :=
  (m_is_lot value0 many0 fun x1 => R x1)
def m_product_of (numbers0 : List Int) (R : Int → Prop) : Prop :=
  (wLet (1 : Int) fun found_1 => wFor (fun (number_3 : Int) (s2 : Int) N4 B5 C6 R7 => (CMul s2 number_3 ∧ wLet (s2 * number_3) fun found_8 => N4 found_8)) numbers0 found_1 (fun s2 => R s2) R)
def m_product_of_t (numbers0 : List Int) (R : Int → Prop) : Prop :=
  (wLet (1 : Int) fun found_1 => wFor (fun (number_3 : Int) (s2 : Int) N4 B5 C6 R7 => (CMul s2 number_3 ∧ wLet (s2 * number_3) fun found_8 => N4 found_8)) numbers0 found_1 (fun s2 => R s2) R)
def m_are_sizes (value0 : List Int) (R : Bool → Prop) : Prop :=
  (m_is_list value0 fun x7 => (wIte (!x7) (fun Q9 => Q9 true) (fun Q9 => Q9 (!(decide ((1 : Int) ≤ (value0.length : Int)) && decide ((value0.length : Int) ≤ (8 : Int))))) fun x8 => (if x8 = true then R false else (wMap (fun (x1 : Int) => (fun Q3 => (m_is_integer x1 fun x4 => (wIte x4 (fun Q6 => Q6 (decide ((2 : Int) ≤ x1) && decide (x1 ≤ (6 : Int)))) (fun Q6 => Q6 false) fun x5 => Q3 x5)))) value0 fun x2 => R (x2.all id)))))
def m_Book___init__ (sizes0 : List Int) (R : (List Int) → Prop) : Prop :=
  (m_are_sizes sizes0 fun x2 => (if (!x2) = true then False else (wLet sizes0 fun v1 => R v1)))
def m_Book_count (self0 : (List Int)) (R : Int → Prop) : Prop :=
  (m_product_of_t self0 fun x1 => R x1)
def m_check_places (book0 : (List Int)) (places0 : List Int) (R : Unit → Prop) : Prop :=
  ((0 ≤ (book0.length : Int) ∧ (book0.length : Int) < 9223372036854775808) ∧ (m_are_places places0 (book0.length : Int) fun x1 => (if (!x1) = true then False else R ())))
def m_check_kind (book0 : (List Int)) (R : Unit → Prop) : Prop :=
  (if (!true) = true then False else R ())
def m_count_rows (book0 : (List Int)) (places0 : List Int) (R : Int → Prop) : Prop :=
  (wMap (fun (x1 : Int) => (fun Q3 => (ixOk book0.length x1 ∧ Q3 (ixAt book0 x1)))) places0 fun x2 => (m_product_of x2 fun x4 => R x4))
def m_rows_at (book0 : (List Int)) (places0 : List Int) (R : List (List Int) → Prop) : Prop :=
  (wLet [([] : List Int)] fun found_1 => wFor (fun (place_3 : Int) (s2 : (List (List Int))) N4 B5 C6 R7 => (wLc2 (fun (x9 : List Int) => (fun Q12 => (ixOk book0.length place_3 ∧ (rngOk (ixAt book0 place_3) ∧ Q12 (rng (ixAt book0 place_3)))))) (fun (x9 : List Int) (y10 : Int) => (fun Q13 => ((x9 ++ (y10 :: []) : List Int).length ≤ 1000 ∧ Q13 (x9 ++ (y10 :: []))))) s2 ([] : List (List Int)) fun x11 => wLet x11 fun found_8 => N4 found_8)) places0 found_1 (fun s2 => R s2) R)
def m_sign (number0 : Int) (other0 : Int) (R : Int → Prop) : Prop :=
  R ((b2n (decide (other0 > number0))) - (b2n (decide (other0 < number0))))
def m_is_table (book0 : (List Int)) (value0 : (List Int) × (List Int)) (R : Bool → Prop) : Prop :=
  (if ((!true) || (!decide ((2 : Int) = (2 : Int)))) = true then R false else (wLet value0 fun v1 => ((0 ≤ (book0.length : Int) ∧ (book0.length : Int) < 9223372036854775808) ∧ (m_are_places v1.1 (book0.length : Int) fun x12 => (wIte (!x12) (fun Q14 => Q14 true) (fun Q14 => (wIte (decide ((v1.1.length : Int) = (0 : Int))) (fun Q16 => Q16 true) (fun Q16 => (m_is_list v1.2 fun x17 => Q16 (!x17))) fun x15 => Q14 x15)) fun x13 => (if x13 = true then R false else (m_count_rows book0 v1.1 fun x11 => wLet x11 fun count_2 => (wIte (decide (count_2 ≤ (100 : Int))) (fun Q5 => (wIte (decide ((v1.2.length : Int) = count_2)) (fun Q7 => (wMap (fun (x3 : Int) => (fun Q9 => (m_is_integer x3 fun x10 => Q9 x10))) v1.2 fun x8 => Q7 (x8.all id))) (fun Q7 => Q7 false) fun x6 => Q5 x6)) (fun Q5 => Q5 false) fun x4 => R x4))))))))
def m_are_tables (book0 : (List Int)) (value0 : List ((List Int) × (List Int))) (R : Bool → Prop) : Prop :=
  (m_is_list_t value0 fun x2 => (wIte x2 (fun Q4 => (wIte (decide ((value0.length : Int) ≤ (8 : Int))) (fun Q6 => (wMap (fun (x1 : (List Int) × (List Int)) => (fun Q8 => (m_is_table book0 x1 fun x9 => Q8 x9))) value0 fun x7 => Q6 (x7.all id))) (fun Q6 => Q6 false) fun x5 => Q4 x5)) (fun Q4 => Q4 false) fun x3 => R x3))
def m_Wish___init__ (book0 : (List Int)) (tables0 : List ((List Int) × (List Int))) (R : (List Int) × (List ((List Int) × (List Int))) → Prop) : Prop :=
  (m_check_kind book0 fun x6 => wLet x6 fun v1 => (m_are_tables book0 tables0 fun x5 => (if (!x5) = true then False else (wLet book0 fun v2 => (wLet (tables0.map (fun (x3 : (List Int) × (List Int)) => (x3.1, x3.2))) fun v4 => R (v2, v4))))))
def m_ranks (numbers0 : List Int) (R : List Int → Prop) : Prop :=
  (numbers0.length ≤ 1000 ∧ (wDi (fun (x2 : Int × Int) => (fun Q8 => Q8 x2.2)) (fun (x2 : Int × Int) => (fun Q9 => Q9 x2.1)) (enumL (asc numbers0)) fun x7 => wLet x7 fun order_1 => (wMap (fun (x3 : Int) => (fun Q5 => (wGet (valD order_1 x3) fun x6 => Q5 x6))) numbers0 fun x4 => R x4)))
def m_unlike_pair (row0 : List Int) (other0 : List Int) (R : Option (Int × Int) → Prop) : Prop :=
  (if (decide (row0 = other0)) = true then R (none : Option (Int × Int)) else (rngOk (row0.length : Int) ∧ wFor (fun (at_2 : Int) (s1 : Unit) N3 B4 C5 R6 => (rngOk at_2 ∧ wFor (fun (ahead_8 : Int) (s7 : Unit) N9 B10 C11 R12 => (ixOk row0.length ahead_8 ∧ (ixOk row0.length at_2 ∧ (m_sign (ixAt row0 ahead_8) (ixAt row0 at_2) fun x13 => (ixOk other0.length ahead_8 ∧ (ixOk other0.length at_2 ∧ (m_sign (ixAt other0 ahead_8) (ixAt other0 at_2) fun x14 => (if (!decide (x13 = x14)) = true then R12 (some (ahead_8, at_2)) else N9 ())))))))) (rng at_2) () (fun s7 => N3 ()) R6)) (rng (row0.length : Int)) () (fun s1 => R (none : Option (Int × Int))) R))
def m_check_count (book0 : (List Int)) (R : Unit → Prop) : Prop :=
  (m_Book_count book0 fun x1 => (if (decide (x1 > (100 : Int))) = true then False else R ()))
def m_touching (wish0 : (List Int) × (List ((List Int) × (List Int)))) (places0 : List Int) (R : List ((List Int) × (List Int)) → Prop) : Prop :=
  R (wish0.2.filter (fun (x1 : (List Int) × (List Int)) => (places0.map (fun (x2 : Int) => decide (x2 ∈ x1.1))).any id))
def m_asked_places (wish0 : (List Int) × (List ((List Int) × (List Int)))) (places0 : List Int) (R : List Int → Prop) : Prop :=
  (m_touching wish0 places0 fun x4 => (wLc2 (fun (x2 : (List Int) × (List Int)) => (fun Q6 => Q6 x2.1)) (fun (x2 : (List Int) × (List Int)) (y3 : Int) => (fun Q7 => Q7 y3)) x4 ([] : List Int) fun x5 => wLet x5 fun every_1 => (every_1.length + places0.length ≤ LB ∧ ((every_1 ++ places0).length ≤ 1000 ∧ R (asc (every_1 ++ places0))))))
def m_check_asked (wish0 : (List Int) × (List ((List Int) × (List Int)))) (places0 : List Int) (R : Unit → Prop) : Prop :=
  (m_check_places wish0.1 places0 fun x5 => wLet x5 fun v1 => (m_asked_places wish0 places0 fun x3 => (m_count_rows wish0.1 x3 fun x4 => wLet x4 fun count_2 => (if (decide (count_2 > (100 : Int))) = true then False else R ()))))
def m_left_out (wish0 : (List Int) × (List ((List Int) × (List Int)))) (places0 : List Int) (R : List Int → Prop) : Prop :=
  (m_asked_places wish0 places0 fun x2 => R (x2.filter (fun (x1 : Int) => (!decide (x1 ∈ places0)))))
def m_steps_of (book0 : (List Int)) (places0 : List Int) (R : List (Int × Int) → Prop) : Prop :=
  (wLet () fun found_1 => (wLet (1 : Int) fun step_2 => wFor (fun (place_4 : Int) (s3 : (List (Int × Int)) × Int) N5 B6 C7 R8 => (s3.1.length < LB ∧ (wLet s3.2 fun v9 => wLet place_4 fun i10 => (ixOk book0.length place_4 ∧ (CMul s3.2 (ixAt book0 place_4) ∧ wLet (s3.2 * (ixAt book0 place_4)) fun step_11 => N5 (putD s3.1 i10 v9, step_11)))))) places0.reverse (([] : List (Int × Int)), step_2) (fun s3 => R s3.1) R))
def m_moved (steps0 : List (Int × Int)) (places0 : List Int) (rows0 : List (List Int)) (R : List Int → Prop) : Prop :=
  (wLet (rows0.map (fun (x2 : List Int) => (0 : Int))) fun found_1 => wFor (fun (at_4 : Int × Int) (s3 : (List Int)) N5 B6 C7 R8 => (wLet ((valD steps0 at_4.2).getD (0 : Int)) fun step_9 => (wMap (fun (x11 : Int × (List Int)) => (fun Q13 => (ixOk x11.2.length at_4.1 ∧ (CMul step_9 (ixAt x11.2 at_4.1) ∧ Q13 (x11.1 + (step_9 * (ixAt x11.2 at_4.1))))))) (s3.zip rows0) fun x12 => wLet x12 fun found_10 => N5 found_10))) (enumL places0) found_1 (fun s3 => R s3) R)
def m_worths_by (wish0 : (List Int) × (List ((List Int) × (List Int)))) (places0 : List Int) (others0 : List Int) (R : List (List Int × (List Int)) → Prop) : Prop :=
  (m_rows_at wish0.1 places0 fun x29 => (m_rows_at wish0.1 others0 fun x30 => wLet (x29, x30) fun v1 => (wLet (v1.2.map (fun (x3 : List Int) => v1.1.map (fun (x4 : List Int) => (0 : Int)))) fun lines_2 => (m_touching wish0 places0 fun x28 => wFor (fun (table_6 : (List Int) × (List Int)) (s5 : (List (List Int))) N7 B8 C9 R10 => (m_steps_of wish0.1 table_6.1 fun x27 => wLet x27 fun steps_11 => (m_moved steps_11 places0 v1.1 fun x26 => wLet x26 fun ours_12 => (m_moved steps_11 others0 v1.2 fun x25 => wLet x25 fun theirs_13 => wFor (fun (at_15 : Int × Int) (s14 : (List (List Int))) N16 B17 C18 R19 => (ixOk s14.length at_15.1 ∧ (wMap (fun (x20 : Int × Int) => (fun Q24 => (ixOk table_6.2.length (at_15.2 + x20.2) ∧ Q24 (x20.1 + (ixAt table_6.2 (at_15.2 + x20.2)))))) ((ixAt s14 at_15.1).zip ours_12) fun x23 => wLet x23 fun v21 => wLet at_15.1 fun i22 => (ixOk s14.length i22 ∧ N16 (s14.set (ixS s14.length i22) v21))))) (enumL theirs_13) s5 (fun s14 => N7 s14) R10)))) x28 lines_2 (fun s5 => R (dtOf (v1.2.zip s5))) R))))
def m_joined (wish0 : (List Int) × (List ((List Int) × (List Int)))) (places0 : List Int) (R : Option ((List (List Int)) × (List (List Int))) → Prop) : Prop :=
  (m_left_out wish0 places0 fun x21 => wLet x21 fun others_1 => (m_worths_by wish0 places0 others_1 fun x17 => (wDt (fun (x3 : (List Int) × (List Int)) => (fun Q18 => Q18 x3.1)) (fun (x3 : (List Int) × (List Int)) => (fun Q19 => (m_ranks x3.2 fun x20 => Q19 x20))) x17 fun orders_2 => (m_rows_at wish0.1 places0 fun x16 => wLet x16 fun rows_4 => (([(0 : Int)] ≠ [] ∧ (0 ≤ (others_1.length : Int) ∧ (others_1.length : Int) ≤ 1000) ∧ [(0 : Int)].length ≤ 1000) ∧ wLet (repL [(0 : Int)] (others_1.length : Int)) fun first_5 => wFor (fun (rest_7 : (List Int) × (List Int)) (s6 : Unit) N8 B9 C10 R11 => (wGet (valT orders_2 first_5) fun x14 => (m_unlike_pair x14 rest_7.2 fun x15 => wLet x15 fun pair_12 => (if pair_12.isSome = true then (∃ y13, pair_12 = some y13 ∧ (ixOk rows_4.length y13.1 ∧ (ixOk rows_4.length y13.2 ∧ (([ixAt rows_4 y13.1, ixAt rows_4 y13.2] : List (List Int)).length ≤ 1000 ∧ R11 (some ([ixAt rows_4 y13.1, ixAt rows_4 y13.2], [first_5, rest_7.1])))))) else N8 ())))) orders_2 () (fun s6 => R (none : Option ((List (List Int)) × (List (List Int))))) R)))))
def m_is_apart (wish0 : (List Int) × (List ((List Int) × (List Int)))) (places0 : List Int) (R : Bool → Prop) : Prop :=
  (m_check_asked wish0 places0 fun x3 => wLet x3 fun v1 => (m_joined wish0 places0 fun x2 => R x2.isNone))
def m_drawn_in (wish0 : (List Int) × (List ((List Int) × (List Int)))) (places0 : List Int) (R : Option Int → Prop) : Prop :=
  (m_left_out wish0 places0 fun x21 => wLet x21 fun others_1 => (m_worths_by wish0 places0 others_1 fun x17 => (wDt (fun (x3 : (List Int) × (List Int)) => (fun Q18 => Q18 x3.1)) (fun (x3 : (List Int) × (List Int)) => (fun Q19 => (m_ranks x3.2 fun x20 => Q19 x20))) x17 fun orders_2 => wFor (fun (at_5 : Int × Int) (s4 : Unit) N6 B7 C8 R9 => wFor (fun (rest_11 : (List Int) × (List Int)) (s10 : Unit) N12 B13 C14 R15 => ((cutD rest_11.1 none (some at_5.1)).length + [(0 : Int)].length ≤ LB ∧ (((cutD rest_11.1 none (some at_5.1)) ++ [(0 : Int)]).length + (cutD rest_11.1 (some (at_5.1 + (1 : Int))) none).length ≤ LB ∧ (wGet (valT orders_2 (((cutD rest_11.1 none (some at_5.1)) ++ [(0 : Int)]) ++ (cutD rest_11.1 (some (at_5.1 + (1 : Int))) none))) fun x16 => (if (!decide (rest_11.2 = x16)) = true then R15 (some at_5.2) else N12 ()))))) orders_2 () (fun s10 => N6 ()) R9) (enumL others_1) () (fun s4 => R (none : Option Int)) R)))
def m_hull (wish0 : (List Int) × (List ((List Int) × (List Int)))) (places0 : List Int) (R : List Int → Prop) : Prop :=
  (m_check_places wish0.1 places0 fun x18 => wLet x18 fun v1 => (m_check_count wish0.1 fun x17 => wLet x17 fun v2 => (wLet places0 fun found_3 => (m_drawn_in wish0 found_3 fun x16 => wLet x16 fun more_4 => (∃ n15, wWhile (fun (s5 : (List Int) × (Option Int)) Q10 => Q10 s5.2.isSome) (fun (s5 : (List Int) × (Option Int)) N6 B7 C8 R9 => (∃ y11, s5.2 = some y11 ∧ ((s5.1 ++ (y11 :: []) : List Int).length ≤ 1000 ∧ wLet (sortI (s5.1 ++ (y11 :: []))) fun found_12 => (m_drawn_in wish0 found_12 fun x14 => wLet x14 fun more_13 => N6 (found_12, more_13))))) n15 (found_3, more_4) (fun s5 => R s5.1) R)))))
def l_mixed_i (items0 : List Int) (R : List Int → Prop) : Prop :=
  (wLet items0 fun left_1 => (wLet ([] : List Int) fun found_2 => (∃ n11, n11 ≤ 66 ∧ wWhile (fun (s3 : (List Int) × (List Int)) Q8 => Q8 (!decide (s3.2 = ([] : List Int)))) (fun (s3 : (List Int) × (List Int)) N4 B5 C6 R7 => ((s3.1.length + 1 ≤ LB ∧ s3.2.length ≤ LB) ∧ (wTake (s3.2.length : Int) fun x10 => wLet x10 fun i9 => ((0 ≤ i9 ∧ i9 < (s3.2.length : Int)) ∧ N4 (s3.1 ++ [ixAt s3.2 i9], s3.2.eraseIdx i9.toNat))))) n11 (found_2, left_1) (fun s3 => R s3.1) R)))
def l_mixed_l (items0 : List (List Int)) (R : List (List Int) → Prop) : Prop :=
  (wLet items0 fun left_1 => (wLet ([] : List (List Int)) fun found_2 => (∃ n11, n11 ≤ 66 ∧ wWhile (fun (s3 : (List (List Int)) × (List (List Int))) Q8 => Q8 (!decide (s3.2 = ([] : List (List Int))))) (fun (s3 : (List (List Int)) × (List (List Int))) N4 B5 C6 R7 => ((s3.1.length + 1 ≤ LB ∧ s3.2.length ≤ LB) ∧ (wTake (s3.2.length : Int) fun x10 => wLet x10 fun i9 => ((0 ≤ i9 ∧ i9 < (s3.2.length : Int)) ∧ N4 (s3.1 ++ [ixAt s3.2 i9], s3.2.eraseIdx i9.toNat))))) n11 (found_2, left_1) (fun s3 => R s3.1) R)))
def l_rows (sizes0 : List Int) (R : List (List Int) → Prop) : Prop :=
  (wLet [([] : List Int)] fun found_1 => wFor (fun (size_3 : Int) (s2 : (List (List Int))) N4 B5 C6 R7 => (wLet ([] : List (List Int)) fun longer_8 => wFor (fun (row_10 : List Int) (s9 : (List (List Int))) N11 B12 C13 R14 => (rngOk size_3 ∧ (wMap (fun (x16 : Int) => (fun Q18 => (row_10.length + [x16].length ≤ LB ∧ Q18 (row_10 ++ [x16])))) (rng size_3) fun x17 => (s9.length + x17.length ≤ LB ∧ wLet (s9 ++ x17) fun longer_15 => N11 longer_15)))) s2 longer_8 (fun s9 => (wLet s9 fun found_19 => N4 found_19)) R7)) sizes0 found_1 (fun s2 => R s2) R)
def l_lots (many0 : Int) (R : List (List Int) → Prop) : Prop :=
  (wLet [([] : List Int)] fun found_1 => (rngOk many0 ∧ wFor (fun (place_3 : Int) (s2 : (List (List Int))) N4 B5 C6 R7 => (wMap (fun (x9 : List Int) => (fun Q11 => (x9.length + [place_3].length ≤ LB ∧ Q11 (x9 ++ [place_3])))) s2 fun x10 => (s2.length + x10.length ≤ LB ∧ wLet (s2 ++ x10) fun found_8 => N4 found_8))) (rng many0) found_1 (fun s2 => R s2) R))
def l_place (places0 : List Int) (sizes0 : List Int) (text0 : List Int) (R : Int → Prop) : Prop :=
  (wLet (0 : Int) fun found_1 => wFor (fun (place_3 : Int) (s2 : Int) N4 B5 C6 R7 => (ixOk sizes0.length place_3 ∧ (CMul s2 (ixAt sizes0 place_3) ∧ (ixOk text0.length place_3 ∧ wLet ((s2 * (ixAt sizes0 place_3)) + (ixAt text0 place_3)) fun found_8 => N4 found_8)))) places0 found_1 (fun s2 => R s2) R)
def l_worth (tables0 : List ((List Int) × (List Int))) (sizes0 : List Int) (text0 : List Int) (R : Int → Prop) : Prop :=
  (wMap (fun (x1 : (List Int) × (List Int)) => (fun Q3 => (l_place x1.1 sizes0 text0 fun x4 => (ixOk x1.2.length x4 ∧ Q3 (ixAt x1.2 x4))))) tables0 fun x2 => R x2.sum)
def l_sizes (large0 : Bool) (R : List Int → Prop) : Prop :=
  (wIte large0 (fun Q4 => (wTake (3 : Int) fun x5 => Q4 (decide (x5 = (0 : Int))))) (fun Q4 => Q4 false) fun x3 => (if x3 = true then (wTake (6 : Int) fun x1 => (ixOk [[(2 : Int), (2 : Int), (2 : Int), (2 : Int), (2 : Int), (2 : Int)], [(2 : Int), (2 : Int), (2 : Int), (2 : Int), (2 : Int)], [(3 : Int), (2 : Int), (2 : Int), (2 : Int), (2 : Int)], [(4 : Int), (4 : Int), (5 : Int)], [(3 : Int), (3 : Int), (3 : Int), (3 : Int)], [(6 : Int), (3 : Int)]].length x1 ∧ R (ixAt [[(2 : Int), (2 : Int), (2 : Int), (2 : Int), (2 : Int), (2 : Int)], [(2 : Int), (2 : Int), (2 : Int), (2 : Int), (2 : Int)], [(3 : Int), (2 : Int), (2 : Int), (2 : Int), (2 : Int)], [(4 : Int), (4 : Int), (5 : Int)], [(3 : Int), (3 : Int), (3 : Int), (3 : Int)], [(6 : Int), (3 : Int)]] x1))) else (wTake (8 : Int) fun x2 => (ixOk [[(2 : Int), (2 : Int), (2 : Int)], [(3 : Int), (2 : Int)], [(2 : Int), (2 : Int), (3 : Int)], [(4 : Int)], [(2 : Int), (2 : Int), (2 : Int), (2 : Int)], [(3 : Int), (3 : Int)], [(2 : Int), (3 : Int), (2 : Int), (2 : Int)], [(2 : Int)]].length x2 ∧ R (ixAt [[(2 : Int), (2 : Int), (2 : Int)], [(3 : Int), (2 : Int)], [(2 : Int), (2 : Int), (3 : Int)], [(4 : Int)], [(2 : Int), (2 : Int), (2 : Int), (2 : Int)], [(3 : Int), (3 : Int)], [(2 : Int), (3 : Int), (2 : Int), (2 : Int)], [(2 : Int)]] x2)))))
def l_table (sizes0 : List Int) (places0 : List Int) (R : (List Int) × (List Int) → Prop) : Prop :=
  (wMap (fun (x2 : Int) => (fun Q12 => (ixOk sizes0.length x2 ∧ Q12 (ixAt sizes0 x2)))) places0 fun x11 => (l_rows x11 fun x13 => wLet x13 fun rows_1 => (wTake (5 : Int) fun x10 => (ixOk [(1 : Int), (1 : Int), -(3 : Int), (10 : Int) ^ ((6 : Int)).toNat, (3 : Int) * ((10 : Int) ^ ((18 : Int)).toNat)].length x10 ∧ wLet (ixAt [(1 : Int), (1 : Int), -(3 : Int), (10 : Int) ^ ((6 : Int)).toNat, (3 : Int) * ((10 : Int) ^ ((18 : Int)).toNat)] x10) fun scale_3 => (wTake (4 : Int) fun x9 => wLet ((2 : Int) + x9) fun many_4 => (rows_1.length ≤ 100 ∧ (wMap (fun (x5 : List Int) => (fun Q7 => (wTake many_4 fun x8 => (CMul x8 scale_3 ∧ Q7 (x8 * scale_3))))) rows_1 fun x6 => R (places0, x6))))))))
def l_blocks (many0 : Int) (R : List (List Int) → Prop) : Prop :=
  ((0 ≤ many0 ∧ many0 ≤ 8) ∧ ∀ bs : List (List Int), Blk many0.toNat bs → R bs)
def l_turned (sizes0 : List Int) (R : List ((List Int) × (List Int)) → Prop) : Prop :=
  (((sizes0.length : Int) ≤ 1000000 ∧ 0 ≤ (sizes0.length : Int)) ∧ (l_mixed_i (rng (sizes0.length : Int)) fun x27 => wLet x27 fun order_1 => (wLet ([] : List Int) fun worths_2 => (l_rows sizes0 fun x26 => wFor (fun (row_4 : List Int) (s3 : (List Int)) N5 B6 C7 R8 => (wIte (decide ((order_1.length : Int) > (1 : Int))) (fun Q15 => (ixOk order_1.length (1 : Int) ∧ (ixOk row_4.length (ixAt order_1 (1 : Int)) ∧ Q15 (ixAt row_4 (ixAt order_1 (1 : Int)))))) (fun Q16 => Q16 (0 : Int)) fun x14 => wLet x14 fun second_9 => (s3.length + 1 ≤ LB ∧ (ixOk order_1.length (0 : Int) ∧ (ixOk row_4.length (ixAt order_1 (0 : Int)) ∧ (ixOk order_1.length (0 : Int) ∧ (ixOk row_4.length (ixAt order_1 (0 : Int)) ∧ (wIte (decide ((ixAt row_4 (ixAt order_1 (0 : Int))) % (2 : Int) = (0 : Int))) (fun Q12 => Q12 second_9) (fun Q13 => Q13 ((0 : Int) - second_9)) fun x11 => wLet (((100 : Int) * (ixAt row_4 (ixAt order_1 (0 : Int)))) + x11) fun v10 => N5 (s3 ++ [v10]))))))))) x26 worths_2 (fun s3 => (((sizes0.length : Int) ≤ 1000000 ∧ 0 ≤ (sizes0.length : Int)) ∧ (([(rng (sizes0.length : Int), s3)] : List ((List Int) × (List Int))).length ≤ 1000 ∧ wLet [(rng (sizes0.length : Int), s3)] fun found_18 => (wJ (decide ((order_1.length : Int) > (2 : Int))) (fun N19 => (found_18.length + 1 ≤ LB ∧ (ixOk order_1.length (2 : Int) ∧ (([ixAt order_1 (2 : Int)] : List Int).length ≤ 1000 ∧ (ixOk order_1.length (2 : Int) ∧ (ixOk sizes0.length (ixAt order_1 (2 : Int)) ∧ (rngOk (ixAt sizes0 (ixAt order_1 (2 : Int))) ∧ ((rng (ixAt sizes0 (ixAt order_1 (2 : Int)))).length ≤ 100 ∧ (wMap (fun (x21 : Int) => (fun Q24 => (wTake (2 : Int) fun x25 => (CMul x21 ((1 : Int) + x25) ∧ Q24 (x21 * ((1 : Int) + x25)))))) (rng (ixAt sizes0 (ixAt order_1 (2 : Int)))) fun x23 => wLet ([ixAt order_1 (2 : Int)], x23) fun v22 => N19 (found_18 ++ [v22])))))))))) (fun N19 => N19 found_18) fun s20 => R s20)))) R))))
def l_squares (sizes0 : List Int) (R : List ((List Int) × (List Int)) → Prop) : Prop :=
  (sizes0.length ≤ 64 ∧ (wMap (fun (x2 : Int) => (fun Q16 => (rngOk x2 ∧ ((rng x2).length ≤ 64 ∧ (wMap (fun (x3 : Int) => (fun Q18 => (wTake (2 : Int) fun x19 => Q18 (x3 + x19)))) (rng x2) fun x17 => Q16 x17))))) sizes0 fun x15 => wLet x15 fun ranks_v_1 => (l_rows sizes0 fun x10 => (wMap (fun (x5 : List Int) => (fun Q12 => (rngOk (sizes0.length : Int) ∧ (wMap (fun (x6 : Int) => (fun Q14 => (ixOk ranks_v_1.length x6 ∧ (ixOk x5.length x6 ∧ (ixOk (ixAt ranks_v_1 x6).length (ixAt x5 x6) ∧ Q14 (ixAt (ixAt ranks_v_1 x6) (ixAt x5 x6))))))) (rng (sizes0.length : Int)) fun x13 => Q12 x13.sum)))) x10 fun x11 => wLet x11 fun sums_4 => (((sizes0.length : Int) ≤ 1000000 ∧ 0 ≤ (sizes0.length : Int)) ∧ (wMap (fun (x7 : Int) => (fun Q9 => (CMul x7 x7 ∧ Q9 (x7 * x7)))) sums_4 fun x8 => (([(rng (sizes0.length : Int), x8)] : List ((List Int) × (List Int))).length ≤ 1000 ∧ R [(rng (sizes0.length : Int), x8)])))))))
def l_mind (sizes0 : List Int) (R : List ((List Int) × (List Int)) → Prop) : Prop :=
  (wTake (6 : Int) fun x20 => wLet x20 fun way_1 => (wLet (sizes0.length : Int) fun many_2 => (if (decide (way_1 = (0 : Int))) = true then (l_turned sizes0 fun x3 => R x3) else (if (decide (way_1 = (1 : Int))) = true then (l_squares sizes0 fun x4 => R x4) else (if (decide (way_1 < (4 : Int))) = true then (l_blocks many_2 fun x6 => (x6.length ≤ 64 ∧ (wMap (fun (x5 : List Int) => (fun Q8 => (l_table sizes0 x5 fun x9 => Q8 x9))) x6 fun x7 => R x7))) else (l_lots many_2 fun x19 => wLet (x19.filter (fun (x11 : List Int) => (!decide (x11 = ([] : List Int))))) fun lots_10 => (wTake (4 : Int) fun x14 => (ixOk [(2 : Int), (1 : Int), (3 : Int), (0 : Int)].length x14 ∧ (rngOk (ixAt [(2 : Int), (1 : Int), (3 : Int), (0 : Int)] x14) ∧ ((rng (ixAt [(2 : Int), (1 : Int), (3 : Int), (0 : Int)] x14)).length ≤ 64 ∧ (wMap (fun (x13 : Int) => (fun Q16 => (wTake (lots_10.length : Int) fun x17 => (ixOk lots_10.length x17 ∧ (l_table sizes0 (ixAt lots_10 x17) fun x18 => Q16 x18))))) (rng (ixAt [(2 : Int), (1 : Int), (3 : Int), (0 : Int)] x14)) fun x15 => wLet x15 fun found_12 => R found_12)))))))))))
def l_chain (sizes0 : List Int) (R : List ((List Int) × (List Int)) → Prop) : Prop :=
  (((sizes0.length : Int) ≤ 1000000 ∧ 0 ≤ (sizes0.length : Int)) ∧ (l_mixed_i (rng (sizes0.length : Int)) fun x19 => wLet x19 fun order_1 => (wLet ([] : List ((List Int) × (List Int))) fun found_2 => (rngOk ((order_1.length : Int) - (1 : Int)) ∧ ((rng ((order_1.length : Int) - (1 : Int))).length ≤ 64 ∧ wFor (fun (k_4 : Int) (s3 : (List ((List Int) × (List Int)))) N5 B6 C7 R8 => (wTake (6 : Int) fun x18 => (ixOk [(1 : Int), (5 : Int), (2 : Int), (3 : Int), (7 : Int), (0 : Int)].length x18 ∧ wLet (sortI (cutD order_1 (some k_4) (some (k_4 + (2 : Int)))), ixAt [(1 : Int), (5 : Int), (2 : Int), (3 : Int), (7 : Int), (0 : Int)] x18) fun v9 => (s3.length + 1 ≤ LB ∧ (wMap (fun (x10 : Int) => (fun Q14 => (ixOk sizes0.length x10 ∧ Q14 (ixAt sizes0 x10)))) v9.1 fun x13 => (l_rows x13 fun x15 => (wMap (fun (x11 : List Int) => (fun Q17 => (CMul v9.2 (x11.sum % (2 : Int)) ∧ Q17 (v9.2 * (x11.sum % (2 : Int)))))) x15 fun x16 => wLet (v9.1, x16) fun v12 => N5 (s3 ++ [v12])))))))) (rng ((order_1.length : Int) - (1 : Int))) found_2 (fun s3 => R s3) R)))))
def l_made (sizes0 : List Int) (tables0 : List ((List Int) × (List Int))) (R : (List Int) × (List ((List Int) × (List Int))) → Prop) : Prop :=
  (m_Book___init__ sizes0 fun x2 => (m_Wish___init__ x2 (tables0.map (fun (x1 : (List Int) × (List Int)) => (x1.1, x1.2))) fun x3 => R x3))
def l_put (sizes0 : List Int) (places0 : List Int) (row0 : List Int) (R : List Int → Prop) : Prop :=
  (((0 ≤ (sizes0.length : Int) ∧ (sizes0.length : Int) ≤ 1000) ∧ [(0 : Int)].length ≤ 1000) ∧ wLet (repL [(0 : Int)] (sizes0.length : Int)) fun found_1 => (rngOk (places0.length : Int) ∧ wFor (fun (k_3 : Int) (s2 : (List Int)) N4 B5 C6 R7 => (ixOk row0.length k_3 ∧ wLet (ixAt row0 k_3) fun v8 => (ixOk places0.length k_3 ∧ wLet (ixAt places0 k_3) fun i9 => (ixOk s2.length i9 ∧ N4 (s2.set (ixS s2.length i9) v8))))) (rng (places0.length : Int)) found_1 (fun s2 => R s2) R))
def l_order (numbers0 : List Int) (R : List Int → Prop) : Prop :=
  (numbers0.length ≤ 1000 ∧ wLet (asc numbers0) fun every_1 => (wMap (fun (x2 : Int) => (fun Q4 => (x2 ∈ every_1 ∧ Q4 (every_1.idxOf x2 : Int)))) numbers0 fun x3 => R x3))
def l_is_apart (worths0 : List (List Int × Int)) (sizes0 : List Int) (places0 : List Int) (R : Bool → Prop) : Prop :=
  (rngOk (sizes0.length : Int) ∧ wLet ((rng (sizes0.length : Int)).filter (fun (x1 : Int) => (!decide (x1 ∈ places0)))) fun beside_2 => (wLet (none : Option (List Int)) fun first_3 => (wMap (fun (x4 : Int) => (fun Q43 => (ixOk sizes0.length x4 ∧ Q43 (ixAt sizes0 x4)))) beside_2 fun x42 => (l_rows x42 fun x44 => wFor (fun (rest_6 : List Int) (s5 : (Option (List Int))) N7 B8 C9 R10 => (l_put sizes0 beside_2 rest_6 fun x41 => wLet x41 fun base_11 => (wLet ([] : List Int) fun numbers_12 => (wMap (fun (x13 : Int) => (fun Q39 => (ixOk sizes0.length x13 ∧ Q39 (ixAt sizes0 x13)))) places0 fun x38 => (l_rows x38 fun x40 => wFor (fun (row_15 : List Int) (s14 : (List Int)) N16 B17 C18 R19 => (wLet base_11 fun text_20 => (rngOk (places0.length : Int) ∧ wFor (fun (k_22 : Int) (s21 : (List Int)) N23 B24 C25 R26 => (ixOk row_15.length k_22 ∧ wLet (ixAt row_15 k_22) fun v27 => (ixOk places0.length k_22 ∧ wLet (ixAt places0 k_22) fun i28 => (ixOk s21.length i28 ∧ N23 (s21.set (ixS s21.length i28) v27))))) (rng (places0.length : Int)) text_20 (fun s21 => (s14.length + 1 ≤ LB ∧ (wGet (valT worths0 s21) fun x30 => wLet x30 fun v29 => N16 (s14 ++ [v29])))) R19))) x40 numbers_12 (fun s14 => (wIte s5.isNone (fun Q35 => (l_order s14 fun x37 => Q35 (some x37))) (fun Q36 => Q36 s5) fun x34 => wLet x34 fun first_32 => (l_order s14 fun x33 => (if (!decide (some x33 = first_32)) = true then R10 false else N7 first_32)))) R10))))) x44 first_3 (fun s5 => R true) R))))
def l_scene (large0 : Bool) (R : (List Int) × (List ((List Int) × (List Int))) → Prop) : Prop :=
  (wTake (5 : Int) fun x24 => wLet x24 fun way_1 => (if (decide (way_1 = (0 : Int))) = true then (wLet [(0 : Int), (1 : Int), (2 : Int), (6 : Int), (3 : Int), (5 : Int), (4 : Int), (7 : Int)] fun worths_2 => (wTake (9 : Int) fun x14 => (wTake (3 : Int) fun x15 => (([(3 : Int) * x15, (0 : Int)] : List Int).length ≤ 1000 ∧ wLet ((1 : Int) + x14, [(3 : Int) * x15, (0 : Int)]) fun v3 => (wMap (fun (x5 : Int) => (fun Q13 => (CMul x5 v3.1 ∧ Q13 (x5 * v3.1)))) worths_2 fun x12 => (([([(0 : Int), (1 : Int), (2 : Int)], x12)] : List ((List Int) × (List Int))).length ≤ 1000 ∧ wLet [([(0 : Int), (1 : Int), (2 : Int)], x12)] fun found_4 => (wTake (2 : Int) fun x11 => (if (decide (x11 = (0 : Int))) = true then R ([(2 : Int), (2 : Int), (2 : Int)], found_4) else (wTake (2 : Int) fun x7 => (wIte (decide (x7 = (0 : Int))) (fun Q9 => (ixOk v3.2.length (0 : Int) ∧ (([(0 : Int), (0 : Int), (0 : Int), ixAt v3.2 (0 : Int)] : List Int).length ≤ 1000 ∧ (([([(2 : Int), (3 : Int)], [(0 : Int), (0 : Int), (0 : Int), ixAt v3.2 (0 : Int)])] : List ((List Int) × (List Int))).length ≤ 1000 ∧ Q9 [([(2 : Int), (3 : Int)], [(0 : Int), (0 : Int), (0 : Int), ixAt v3.2 (0 : Int)])])))) (fun Q10 => Q10 ([] : List ((List Int) × (List Int)))) fun x8 => wLet x8 fun more_6 => (found_4.length + [([(3 : Int)], v3.2)].length ≤ LB ∧ ((found_4 ++ [([(3 : Int)], v3.2)]).length + more_6.length ≤ LB ∧ R ([(2 : Int), (2 : Int), (2 : Int), (2 : Int)], (found_4 ++ [([(3 : Int)], v3.2)]) ++ more_6))))))))))))) else (l_sizes large0 fun x23 => wLet x23 fun sizes_16 => (wIte (decide ((sizes_16.length : Int) > (4 : Int))) (fun Q21 => (wTake (2 : Int) fun x22 => Q21 (decide (x22 = (0 : Int))))) (fun Q21 => Q21 false) fun x20 => (if x20 = true then (l_chain sizes_16 fun x17 => R (sizes_16, x17)) else (if (decide (way_1 = (1 : Int))) = true then (l_turned sizes_16 fun x18 => R (sizes_16, x18)) else (l_mind sizes_16 fun x19 => R (sizes_16, x19))))))))
def l_meet (lists0 : List (List Int)) (many0 : Int) (R : List Int → Prop) : Prop :=
  (rngOk many0 ∧ R ((rng many0).filter (fun (x1 : Int) => decide (lists0.filter (fun (x2 : List Int) => (!decide (x1 ∈ x2))) = ([] : List (List Int))))))
def l_within (lot0 : List Int) (other0 : List Int) (R : Bool → Prop) : Prop :=
  R (decide (lot0.filter (fun (x1 : Int) => (!decide (x1 ∈ other0))) = ([] : List Int)))
def l_right (large0 : Bool) (R : Bool → Prop) : Prop :=
  (l_scene large0 fun x75 => wLet x75 fun v1 => (l_made v1.1 v1.2 fun x74 => wLet x74 fun wish_2 => (wLet (v1.1.length : Int) fun many_3 => (wLet () fun _ => (l_rows v1.1 fun x73 => wFor (fun (text_6 : List Int) (s5 : (List (List Int × Int))) N7 B8 C9 R10 => (s5.length < LB ∧ (l_worth v1.2 v1.1 text_6 fun x13 => wLet x13 fun v11 => wLet text_6 fun i12 => N7 (putT s5 i12 v11)))) x73 ([] : List (List Int × Int)) (fun s5 => (l_lots many_3 fun x71 => (l_mixed_l x71 fun x72 => wLet x72 fun lots_14 => (wLc (fun (x19 : List Int) => (fun Q68 => (l_is_apart s5 v1.1 x19 fun x69 => Q68 x69))) (fun (x19 : List Int) => (fun Q70 => Q70 x19)) lots_14 fun x67 => wLet x67 fun good_18 => ((cutD lots_14 none (some (6 : Int))).length ≤ 64 ∧ wFor (fun (lot_21 : List Int) (s20 : Unit) N22 B23 C24 R25 => (wTake (3 : Int) fun x48 => (wIte (decide (x48 = (0 : Int))) (fun Q50 => Q50 lot_21) (fun Q51 => Q51 lot_21) fun x49 => wLet x49 fun handed_26 => (m_hull wish_2 handed_26 fun x47 => wLet x47 fun found_27 => (wLc (fun (x28 : List Int) => (fun Q41 => (l_within lot_21 x28 fun x42 => Q41 x42))) (fun (x28 : List Int) => (fun Q43 => Q43 x28)) good_18 fun x40 => (l_meet x40 many_3 fun x44 => (wIte (!decide (found_27 = x44)) (fun Q46 => Q46 true) (fun Q46 => Q46 (!true)) fun x45 => (if x45 = true then R25 false else (wIte (!inB found_27 good_18) (fun Q35 => Q35 true) (fun Q35 => (m_hull wish_2 found_27 fun x36 => (wIte (!decide (x36 = found_27)) (fun Q38 => Q38 true) (fun Q38 => (m_is_apart wish_2 handed_26 fun x39 => Q38 (!decide (x39 = (inB lot_21 good_18))))) fun x37 => Q35 x37))) fun x34 => (if x34 = true then R25 false else ((found_27.map some).length + 1 ≤ LB ∧ (wLet (none : Option Int) fun v29 => (m_hull wish_2 handed_26 fun x30 => (wTake many_3 fun x31 => (([x31] : List Int).length ≤ 1000 ∧ (lot_21.length + [x31].length ≤ LB ∧ ((lot_21 ++ [x31]).length ≤ 1000 ∧ (m_hull wish_2 (asc (lot_21 ++ [x31])) fun x32 => (l_within x30 x32 fun x33 => (if (!x33) = true then R25 false else N22 ())))))))))))))))))))) (cutD lots_14 none (some (6 : Int))) () (fun s20 => (rngOk (3 : Int) ∧ ((rng (3 : Int)).length ≤ 64 ∧ wFor (fun (turn_53 : Int) (s52 : Unit) N54 B55 C56 R57 => (wTake (good_18.length : Int) fun x65 => (ixOk good_18.length x65 ∧ (wTake (good_18.length : Int) fun x66 => (ixOk good_18.length x66 ∧ wLet (ixAt good_18 x65, ixAt good_18 x66) fun v58 => (wLet (v58.1.filter (fun (x60 : Int) => decide (x60 ∈ v58.2))) fun meet_59 => (m_is_apart wish_2 meet_59 fun x61 => (wIte (!x61) (fun Q63 => Q63 true) (fun Q63 => (m_hull wish_2 meet_59 fun x64 => Q63 (!decide (x64 = meet_59)))) fun x62 => (if x62 = true then R57 false else N54 ()))))))))) (rng (3 : Int)) () (fun s52 => R true) R))) R))))) R)))))
end K18

set_option Elab.async false
set_option linter.all false
set_option maxRecDepth 100000
set_option maxHeartbeats 4000000
namespace K18
open PySem PySem.Spec L2 DL
def top (i : Nat) : Stmt := PySem.Challenge.pw_dealbook_k18_hulls.main.body.getD i (.Pass ⟨0, 0, 0, 0⟩)
abbrev sTake : Stmt := top 56
abbrev nTake : List Str := ["box", "many", "digit", "mixed"]
theorem scTake : FnScope nTake ["box", "many"] (defScope sTake) := ⟨rfl, rfl, rfl, by decide +kernel, rfl, by decide +kernel, by decide +kernel⟩
section
variable {P : Program} {w : World} {K : PySem.W.Frag} {mg : Str → Option Value} {base : Heap}
abbrev spTake : Sp := spD (fun b (many : Int) => [.bx b, .d cInt many]) (fun _ => 1) (fun many => 0 < many ∧ many < 1073741824) cInt (fun many x => 0 ≤ x ∧ x < many)
theorem ok_take {f : Addr} {fd : FuncData} (F : Fun K "_law_take" "_law_take" sTake f fd) (mI : mg "int" = none) : FnOk P w K mg base CX0 1 f fd ["box", "many"] spTake := by
  refine F.ok scTake (fun vs H Q E h => ?_) (fun cdv A outer s H vs Q E hr h => ?_)
  · obtain ⟨a, b, n, Hf, _, _, _, o, _⟩ := h
    exact argsOk_len o
  · obtain ⟨many, b, n, Hf, ⟨m0, m1⟩, hn, ex, o, bx, q⟩ := h
    obtain ⟨hb0, g, big, m, c, hb, h1, h2, h3, h4⟩ := bx b (by simp)
    obtain ⟨v1, v2, rfl, rfl, rfl⟩ : ∃ v1 v2, vs = [v1, v2] ∧ v1 = .ref b ∧ v2 = .int many := by
      match vs, o with
      | [v1, v2], o => exact ⟨v1, v2, rfl, o.1, o.2.1⟩
    have fin : ∀ (x g' c' : Int), 0 ≤ x → x < many → 0 ≤ c' → c' ≤ c + 1 → Q (.int x) (upd H b (.lst [.int g', .bl big, .int m, .int c'])) := fun x g' c' x0 x1 c0 c1 => by
      have nb : Hf b = none := hb0
      refine q _ Hf _ x ⟨x0, x1⟩ rfl ⟨Ex.rfl', fun a o e ne => ?_, fun a o e ne z => z, fun a e => ?_⟩ (ex.mut nb) fun z hz => ?_
      · rw [upd_ne (fun z => ne (by subst z; simp))]; exact e
      · by_cases z : a = b
        · subst z; rw [upd_same] at e; cases e
        · rw [upd_ne z] at e; exact e
      · have : z = b := by simpa using hz
        subst this
        exact ⟨nb, g', big, m, c', upd_same, h1, h2, c0, by show c' ≤ ((n + 1 : Nat) : Int); omega⟩
    refine ⟨_, pss_cons (ps_if (PW.pt (pw_and (pt_val (pe_ix ix_list (pv 0) pe_int (fun _ _ => rfl))) (pw_and1 (pt_cmpR op_gt (pe_ix ix_list (pv 0) pe_int (fun _ _ => rfl)) pe_int (nomark _)))))
        (pss_cons (ps_set (i := 2) scTake.nd rfl (.inl rfl) (pe_op op_mod (pe_callTy call_int1 (by rfl) mI (by decide +kernel) (pa_cons (pe_ix ix_list (pv 0) pe_int (fun _ _ => rfl)) pa_nil)) (pv 1)))
        (pss_cons (ps_asg (pe_op op_fdiv (pe_ix ix_list (pv 0) pe_int (fun _ _ => rfl)) (pv 1)) (pg_sub (pv 0) pe_int set_list))
        (pss_one (ps_ret (pv 2))))) pss_nil)
      (pss_cons (ps_asg (pe_op op_add (pe_ix ix_list (pv 0) pe_int (fun _ _ => rfl)) pe_int) (pg_sub (pv 0) pe_int set_list))
      (pss_cons (ps_set (i := 3) scTake.nd rfl (.inl rfl) (pe_op op_mod (pe_callTy call_int1 (by rfl) mI (by decide +kernel) (pa_cons (pe_op op_pow (pe_op op_add (pe_op op_add (pe_ix ix_list (pv 0) pe_int (fun _ _ => rfl)) (pe_op op_mul pe_int (pe_ix ix_list (pv 0) pe_int (fun _ _ => rfl)))) pe_int) pe_int) pa_nil)) pe_int))
      (pss_one (ps_ret (pe_op op_mod (pe_op op_fdiv (pe_op op_mod (pe_callTy call_int1 (by rfl) mI (by decide +kernel) (pa_cons (pe_op op_pow (pe_op op_add (pe_op op_mul (pv 3) pe_int) (pe_op op_mul pe_int (pe_ix ix_list (pv 0) pe_int (fun _ _ => rfl)))) pe_int) pa_nil)) pe_int) pe_int) (pv 1)))))), ?_⟩
    have hn' : n + 1 ≤ 8589934592 := hn
    -- the rest, where no digit is left
    refine ⟨.ref b, rfl, b, _, 1, .bl big, rfl, rfl, SqL.of hb, rfl, big, rfl, ?_⟩
    have alt : ∀ {A B C : Prop}, (big = false → C) → (big = true → B) → (if big = true then B else C) := fun {A B C} hC hB => by
      cases big with
      | true => exact iteT (hB rfl)
      | false => exact iteF (hC rfl)
    refine alt (A := True) (fun eb => iteF ?r1) fun eb => ?r2
    rotate_left
    refine ⟨.ref b, rfl, b, _, 0, .int g, rfl, rfl, SqL.of hb, rfl, g, 0, rfl, rfl, _, rfl, ?_⟩
    refine ite2 (fun hg => ?_) fun _ => ?r3
    · refine ⟨.ref b, rfl, b, _, 0, .int g, rfl, rfl, SqL.of hb, rfl, .inl ⟨g, rfl, .int many, rfl, g, many, rfl, rfl, m0, ?_⟩⟩
      refine ⟨.ref b, rfl, b, _, 0, .int g, rfl, rfl, SqL.of hb, rfl, .int many, rfl, g, many, rfl, rfl, ⟨m0, m1⟩, .ref b, rfl, b, _, 0, 0, rfl, rfl, hb, rfl, ?_⟩
      exact ⟨_, rfl, fin _ (g / many) c (Int.emod_nonneg _ (by omega)) (Int.emod_lt_of_pos _ m0) h3 (by omega)⟩
    all_goals
        refine ⟨.ref b, rfl, b, _, 3, .int c, rfl, rfl, SqL.of hb, rfl, c, 1, rfl, rfl, ?_⟩
        refine ⟨.ref b, rfl, b, _, 3, 3, rfl, rfl, hb, rfl, ?_⟩
        have hb2 : (upd H b (.lst [.int g, .bl big, .int m, .int (c + 1)])) b = some (.lst [.int g, .bl big, .int m, .int (c + 1)]) := upd_same
        refine ⟨.ref b, rfl, b, _, 2, .int m, rfl, rfl, SqL.of hb2, rfl, .ref b, rfl, b, _, 3, .int (c + 1), rfl, rfl, SqL.of hb2, rfl, 15485867, c + 1, rfl, rfl, .inl ⟨by decide, by decide⟩, m, 15485867 * (c + 1), rfl, rfl, _, 179425033, rfl, rfl, _, 5, rfl, rfl, ⟨by decide, by decide, ?_⟩, .inl ⟨_, rfl, ?_⟩⟩
        · have : m + 15485867 * (c + 1) + 179425033 < 18446744073709551616 := by omega
          have : 0 ≤ m + 15485867 * (c + 1) + 179425033 := by omega
          omega
        refine ⟨_, 2147483647, rfl, rfl, (show (0 : Int) < 2147483647 by decide), ?_⟩
        have M0 : 0 ≤ ((m + 15485867 * (c + 1) + 179425033) ^ (5 : Int).toNat) % 2147483647 := Int.emod_nonneg _ (by decide)
        have M1 : ((m + 15485867 * (c + 1) + 179425033) ^ (5 : Int).toNat) % 2147483647 < 2147483647 := Int.emod_lt_of_pos _ (by decide)
        refine ⟨_, rfl, _, 48271, rfl, rfl, .inl ⟨Int.lt_of_lt_of_le (by decide) M0, Int.lt_trans M1 (by decide)⟩, .ref b, rfl, b, _, 3, .int (c + 1), rfl, rfl, SqL.of hb2, rfl, 7919, c + 1, rfl, rfl, .inl ⟨by decide, by decide⟩, _, 7919 * (c + 1), rfl, rfl, _, 3, rfl, rfl, ⟨by decide, by decide, ?_⟩, .inl ⟨_, rfl, ?_⟩⟩
        · generalize ((m + 15485867 * (c + 1) + 179425033) ^ (5 : Int).toNat) % 2147483647 = M at M0 M1 ⊢
          omega
        refine ⟨_, 2147483587, rfl, rfl, (show (0 : Int) < 2147483587 by decide), _, 64, rfl, rfl, ⟨by decide, by decide⟩, .int many, rfl, _, many, rfl, rfl, m0, ?_⟩
        exact fin _ g (c + 1) (Int.emod_nonneg _ (by omega)) (Int.emod_lt_of_pos _ m0) (by omega) (by omega)
end
structure All (P : Program) (w : World) (K : PySem.W.Frag) (mg : Str → Option Value) (base : Heap) (CBook CWish : Addr) : Prop where
  b_len : mg "len" = none
  b_list : mg "list" = none
  b_tuple : mg "tuple" = none
  b_sorted : mg "sorted" = none
  b_set : mg "set" = none
  b_range : mg "range" = none
  b_isinstance : mg "isinstance" = none
  b_all : mg "all" = none
  b_any : mg "any" = none
  b_int : mg "int" = none
  b_bool : mg "bool" = none
  b_sum : mg "sum" = none
  b_abs : mg "abs" = none
  b_max : mg "max" = none
  b_min : mg "min" = none
  b_str : mg "str" = none
  b_dict : mg "dict" = none
  b_enumerate : mg "enumerate" = none
  b_zip : mg "zip" = none
  g_MOST_PLACES : ∃ t, mg "MOST_PLACES" = some (.int 8 t)
  g_FEWEST_WORDINGS : ∃ t, mg "FEWEST_WORDINGS" = some (.int 2 t)
  g_MOST_WORDINGS : ∃ t, mg "MOST_WORDINGS" = some (.int 6 t)
  g_MOST_TEXTS : ∃ t, mg "MOST_TEXTS" = some (.int 100 t)
  g_MOST_TABLES : ∃ t, mg "MOST_TABLES" = some (.int 8 t)
  g_MOST_WORTHS : ∃ t, mg "MOST_WORTHS" = some (.int 100 t)
  D_is_list : Def K mg "is_list" (top 10)
  D_is_integer : Def K mg "is_integer" (top 11)
  D_is_index : Def K mg "is_index" (top 12)
  D_are_numbers : Def K mg "are_numbers" (top 13)
  D_is_lot : Def K mg "is_lot" (top 14)
  D_are_places : Def K mg "are_places" (top 15)
  D_product_of : Def K mg "product_of" (top 16)
  D_are_sizes : Def K mg "are_sizes" (top 22)
  D_check_places : Def K mg "check_places" (top 25)
  D_check_kind : Def K mg "check_kind" (top 29)
  D_count_rows : Def K mg "count_rows" (top 30)
  D_rows_at : Def K mg "rows_at" (top 31)
  D_sign : Def K mg "sign" (top 32)
  D_is_table : Def K mg "is_table" (top 33)
  D_are_tables : Def K mg "are_tables" (top 34)
  D_ranks : Def K mg "ranks" (top 38)
  D_unlike_pair : Def K mg "unlike_pair" (top 39)
  D_check_count : Def K mg "check_count" (top 41)
  D_touching : Def K mg "touching" (top 42)
  D_asked_places : Def K mg "asked_places" (top 43)
  D_check_asked : Def K mg "check_asked" (top 44)
  D_left_out : Def K mg "left_out" (top 45)
  D_steps_of : Def K mg "steps_of" (top 46)
  D_moved : Def K mg "moved" (top 47)
  D_worths_by : Def K mg "worths_by" (top 48)
  D_joined : Def K mg "joined" (top 49)
  D_is_apart : Def K mg "is_apart" (top 50)
  D_drawn_in : Def K mg "drawn_in" (top 51)
  D_hull : Def K mg "hull" (top 52)
  D__law_take : Def K mg "_law_take" (top 56)
  D__law_mixed : Def K mg "_law_mixed" (top 57)
  D__law_rows : Def K mg "_law_rows" (top 58)
  D__law_lots : Def K mg "_law_lots" (top 59)
  D__law_place : Def K mg "_law_place" (top 60)
  D__law_worth : Def K mg "_law_worth" (top 61)
  D__law_sizes : Def K mg "_law_sizes" (top 62)
  D__law_table : Def K mg "_law_table" (top 63)
  D__law_blocks : Def K mg "_law_blocks" (top 64)
  D__law_turned : Def K mg "_law_turned" (top 65)
  D__law_squares : Def K mg "_law_squares" (top 66)
  D__law_mind : Def K mg "_law_mind" (top 67)
  D__law_chain : Def K mg "_law_chain" (top 68)
  D__law_made : Def K mg "_law_made" (top 69)
  D__law_put : Def K mg "_law_put" (top 70)
  D__law_order : Def K mg "_law_order" (top 71)
  D__law_is_apart : Def K mg "_law_is_apart" (top 72)
  D__law_scene : Def K mg "_law_scene" (top 73)
  D__law_meet : Def K mg "_law_meet" (top 74)
  D__law_within : Def K mg "_law_within" (top 75)
  D__law_right : Def K mg "_law_right" (top 76)
  kBook : Kls K mg "Book" CBook
  mgBook : mg "Book" = some (.ref CBook)
  nBook_sizes : NoAttr K CBook "sizes"
  D_Book___init__ : ∃ f fd, Fun K "__init__" "Book.__init__" (inClass (top 23) 0) f fd ∧ Mk K CBook f
  D_Book___len__ : ∃ f fd, Fun K "__len__" "Book.__len__" (inClass (top 23) 2) f fd ∧ PySem.W.findIn K (.ref CBook) "__len__" = some (some (.ref f)) ∧ PySem.W.isFn K (.ref f) = true
  D_Book_count : MDef K CBook "count" "Book.count" (inClass (top 23) 3)
  kWish : Kls K mg "Wish" CWish
  mgWish : mg "Wish" = some (.ref CWish)
  nWish_book : NoAttr K CWish "book"
  nWish_tables : NoAttr K CWish "tables"
  D_Wish___init__ : ∃ f fd, Fun K "__init__" "Wish.__init__" (inClass (top 37) 0) f fd ∧ Mk K CWish f
def FBook : Hp → List (Str × V) → (List Int) → Prop := fun H fs y => ∃ v0, fs = [(("sizes" : Str), v0)] ∧ (cTup cInt).rep H v0 y
theorem hmBook {H H' : Hp} {fs : List (Str × V)} {y : (List Int)} (e : Ex H H') (h : FBook H fs y) : FBook H' fs y := by
  obtain ⟨v0, e0, r0⟩ := h
  exact ⟨v0, e0, (cTup cInt).mono e r0⟩
abbrev cBook (C : Addr) : Cod (List Int) := cIns C FBook (fun e h => hmBook e h)
theorem hnoBook {m : Str} (hm : ([("sizes" : Str)].any (m == ·)) = false) : ∀ H fs y, FBook H fs y → fs.lookup m = none := fun H fs y h => by
  obtain ⟨v0, e0, r0⟩ := h
  subst e0
  exact hno_of hm
theorem xBook_sizes {S : Stc} {Γ : Ctxt} {k : Nat} {e : Expr} {pos : Pos} {wv : W (List Int)} {P : Program} {w : World} {K : PySem.W.Frag} {mg : Str → Option Value} {base : Heap} {CBook CWish : Addr} (E : All P w K mg base CBook CWish) (h : PW S Γ k e (cBook CBook) wv) (hb : ∀ env : Env, attributeBase e "sizes" env (eval e env) = eval e env) (hK : S.K = K := by rfl) (hw : S.w = w := by rfl) : PW S Γ k (.Attribute e "sizes" pos) (cTup cInt) (fun Q => wv fun y => Q (y)) := by
  subst hK hw
  exact xfld (y := fun y => y) E.kBook.cl E.nBook_sizes (fun H fs y h => by
    obtain ⟨v0, e0, r0⟩ := h
    subst e0
    exact ⟨v0, by kernel_rfl, r0⟩) h hb
def FWish (CBook : Addr) : Hp → List (Str × V) → ((List Int) × (List ((List Int) × (List Int)))) → Prop := fun H fs y => ∃ v0 v1, fs = [(("book" : Str), v0), (("tables" : Str), v1)] ∧ ((cBook CBook)).rep H v0 y.1 ∧ (cTup (cT2 (cTup cInt) (cTup cInt))).rep H v1 y.2
theorem hmWish {CBook : Addr} {H H' : Hp} {fs : List (Str × V)} {y : (List Int) × (List ((List Int) × (List Int)))} (e : Ex H H') (h : FWish CBook H fs y) : FWish CBook H' fs y := by
  obtain ⟨v0, v1, e0, r0, r1⟩ := h
  exact ⟨v0, v1, e0, ((cBook CBook)).mono e r0, (cTup (cT2 (cTup cInt) (cTup cInt))).mono e r1⟩
abbrev cWish (CBook : Addr) (C : Addr) : Cod ((List Int) × (List ((List Int) × (List Int)))) := cIns C (FWish CBook) (fun e h => hmWish e h)
theorem xWish_book {S : Stc} {Γ : Ctxt} {k : Nat} {e : Expr} {pos : Pos} {wv : W ((List Int) × (List ((List Int) × (List Int))))} {P : Program} {w : World} {K : PySem.W.Frag} {mg : Str → Option Value} {base : Heap} {CBook CWish : Addr} (E : All P w K mg base CBook CWish) (h : PW S Γ k e (cWish CBook CWish) wv) (hb : ∀ env : Env, attributeBase e "book" env (eval e env) = eval e env) (hK : S.K = K := by rfl) (hw : S.w = w := by rfl) : PW S Γ k (.Attribute e "book" pos) ((cBook CBook)) (fun Q => wv fun y => Q (y.1)) := by
  subst hK hw
  exact xfld (y := fun y => y.1) E.kWish.cl E.nWish_book (fun H fs y h => by
    obtain ⟨v0, v1, e0, r0, r1⟩ := h
    subst e0
    exact ⟨v0, by kernel_rfl, r0⟩) h hb
theorem xWish_tables {S : Stc} {Γ : Ctxt} {k : Nat} {e : Expr} {pos : Pos} {wv : W ((List Int) × (List ((List Int) × (List Int))))} {P : Program} {w : World} {K : PySem.W.Frag} {mg : Str → Option Value} {base : Heap} {CBook CWish : Addr} (E : All P w K mg base CBook CWish) (h : PW S Γ k e (cWish CBook CWish) wv) (hb : ∀ env : Env, attributeBase e "tables" env (eval e env) = eval e env) (hK : S.K = K := by rfl) (hw : S.w = w := by rfl) : PW S Γ k (.Attribute e "tables" pos) (cTup (cT2 (cTup cInt) (cTup cInt))) (fun Q => wv fun y => Q (y.2)) := by
  subst hK hw
  exact xfld (y := fun y => y.2) E.kWish.cl E.nWish_tables (fun H fs y h => by
    obtain ⟨v0, v1, e0, r0, r1⟩ := h
    subst e0
    exact ⟨v1, by kernel_rfl, r1⟩) h hb
section
variable {P : Program} {w : World} {K : PySem.W.Frag} {mg : Str → Option Value} {base : Heap} {CBook CWish : Addr}
theorem lenBook (E : All P w K mg base CBook CWish) : LenA P w K mg base CBook 1 (spP (fun (a : List Int) => [.d (cBook CBook) a]) (fun _ => True) cInt (fun a => (a.length : Int))) := by
  obtain ⟨f, fd, Fu, h1, h2⟩ := E.D_Book___len__
  refine ⟨f, fd, ["self"], ?_, h1, h2, Fu.binds (fun _ _ _ _ _ _ us hl => match us, hl with | [_], _ => rfl)⟩
  refine fn_D (N := ["self"]) Fu ⟨rfl, rfl, rfl, by decide +kernel, rfl, by decide +kernel, by decide +kernel⟩ (fun _ _ => rfl) (by decide) (fun _ _ => trivial) fun b a hp => ?_
  exact bret (plen rfl E.b_len (TD.seqT (PW.pd (xBook_sizes E (xname (i := 0) rfl rfl (.inl rfl)) (fun _ => rfl)))) (fun _ => rfl)) fun _ h => h
theorem c_l_take (E : All P w K mg base CBook CWish) : Cal P w K mg base "_law_take" ["box", "many"] 1 (spW (fun b (t : Int × Unit) => [.bx b, .d cInt t.1]) 1 (fun t => wTake t.1) cInt) := by
  exact takeW (cal_of E.D__law_take (fun _ _ _ _ _ _ us hl => match us, hl with | [_, _], _ => rfl) fun f fd F => ok_take F E.b_int)
theorem c_l_blocks (E : All P w K mg base CBook CWish) : Cal P w K mg base "_law_blocks" ["box", "many"] 2 (spW (fun b (t : Int × Unit) => [.bx b, .d cInt t.1]) 8 (fun t => l_blocks t.1) (cList (cList cInt))) := by
  refine cal_W (N := ["box", "many", "found", "place", "at"]) E.D__law_blocks (fun _ _ _ _ _ _ us hl => match us, hl with | [_, _], _ => rfl) ⟨rfl, rfl, rfl, by decide +kernel, rfl, by decide +kernel, by decide +kernel⟩ (fun _ _ => rfl) (by decide) (fun _ _ => trivial) fun z t => ?_
  obtain ⟨many0, u⟩ := t
  intro N B C R q
  obtain ⟨⟨m0, m8⟩, q⟩ := q
  obtain ⟨m, rfl⟩ : ∃ m : Nat, many0 = (m : Int) := ⟨many0.toNat, by omega⟩
  rw [Int.toNat_natCast] at q
  have hm : m ≤ 8 := by omega
  show HSR _ ([.bx z, .d cInt (m : Int), .un, .un, .un] : Ctxt) 8 _ _ _ _ R
  refine HSR.le (k := 0 + 8) ?_ (by decide)
  refine hsr_frontS (c0 := cNon) (N1 := fun G => G = bG z m [] .un .un) (ph_setL (i := 2) (R := (· = [])) ((xlstP (c := cAd) .nil (by simp)) (· = []) rfl) (by trivial) (fun y e => by subst e; rfl) rfl (.inl rfl) (fun env he => by cases env; cases he; rfl) (.inl rfl)) fun G e => ?_
  subst e
  refine hsr_ss (ts := tSeq (tFor _ (gName 3) (tSeq (tAsg _ (gName 4)) (tIfS _ (tDrop (tBM K "list" rAppend _ (tCons _ tNil))) (tDrop (tBM K "list" rAppend (tVar 2) (tCons _ tNil)))))) (tRet (tVar 2))) (fun X G => pss_cons (ps_for (by rw [G.nox]; exact PassesOwn.never) G.calm (tI_ok G) (pg_name (i := 3) (by rw [G.N]; exact G.nd) (by rw [G.N]; rfl) (loc G (.inl rfl)) (fnOr G (.inl rfl)))
      (pss_cons (ps_set (i := 4) (by rw [G.N]; exact G.nd) (by rw [G.N]; rfl) (loc G (.inl rfl)) (tE_ok G) ((fun env he => by cases env; cases he; rfl : ∀ env : Env, env.scope = _ → _) _ G.sc) (fnOr G (.inl rfl)))
        (pss_one (ps_if (tT_ok G)
          (pss_one (ps_expr (by have e : X.K = K := G.K; rw [← e]; exact pe_bm PySem.F.plainAttrs_list PySem.F.slot_list_append PySem.F.type_list_append mt_append (tE_ok G) (pa_cons (tE_ok G) pa_nil rfl) rfl rfl rfl rfl rfl) rfl))
          (pss_one (ps_expr (by have e : X.K = K := G.K; rw [← e]; exact pe_bm PySem.F.plainAttrs_list PySem.F.slot_list_append PySem.F.type_list_append mt_append (pe_slot G (i := 2) rfl (.inl rfl)) (pa_cons (tE_ok G) pa_nil rfl) rfl rfl rfl rfl rfl) rfl))))) (fun _ => rfl))
      (pss_one (ps_ret (pe_slot G (i := 2) rfl (.inl rfl)))))
    (hsr_blocks (is := [3]) hm ?hw (fun as x => gd_name (by trivial)) ?h3 ?ht ?ho ?hp ?hn q)
  case hw => exact (iR1 rfl E.b_range (xname (i := 1) (c := cInt) (y := (m : Int)) rfl rfl (.inl rfl)) (fun _ => rfl)) _ ⟨⟨by omega, by omega⟩, rfl⟩
  case h3 =>
    intro as x la
    exact (vN (i := 2) (c := cAd) (xs := as) rfl nl_int (xcal z (c_l_take E) (show (1 : Nat) ≤ 1 by decide) rfl (aB (i := 0) rfl rfl (.inl rfl) (aC (xbin (fun _ _ => op_add) (xlen rfl E.b_len (xseqL (xname (i := 2) rfl rfl (.inl rfl))) (fun _ => rfl)) (xint (i := 2)) (fun _ _ => rw0 rd_I0)) aN (fun _ => rfl))) (fun _ => rfl) (fun _ => rfl))) _ ⟨⟨by omega, by omega⟩, fun i hi => hi.1⟩
  case ht =>
    intro as x y
    exact (vT (i := 2) (c := cAd) (xs := as) rfl (tcmpW (fun _ _ => op_lt) (xname (i := 4) rfl rfl (.inl rfl)) (xlen rfl E.b_len (xseqL (xname (i := 2) rfl rfl (.inl rfl))) (fun _ => rfl)) (fun _ _ => rw0 rd_B0) (nomark _))) _ rfl
  case ho =>
    intro as x y y0 hy
    refine (xixO 2 (c := cAd) (xs := as) rfl rfl (.inl rfl) (xname (i := 4) (c := cInt) (y := y) rfl rfl (.inl rfl)) (fun _ _ => rfl)) _ ⟨⟨by omega, by omega⟩, ?_⟩
    unfold ixAt
    rw [if_neg (by omega), List.getD_eq_getElem?_getD, List.getElem?_eq_getElem hy]; rfl
  case hp =>
    intro as x y
    exact (xname (i := 3) (c := cInt) (y := x) rfl rfl (.inl rfl)) _ rfl
  case hn =>
    intro as x y
    exact (xlstP (c := cInt) (.cons (xname (i := 3) (c := cInt) (y := x) rfl rfl (.inl rfl)) .nil (fun _ => rfl)) (by simp)) _ rfl

end
end K18

set_option Elab.async false
set_option linter.all false
set_option maxRecDepth 100000
set_option maxHeartbeats 4000000
namespace K18
open PySem PySem.Spec L2 DL
section
variable {P : Program} {w : World} {K : PySem.W.Frag} {mg : Str → Option Value} {base : Heap} {CBook CWish : Addr}
theorem c_m_is_list (E : All P w K mg base CBook CWish) : Cal P w K mg base "is_list" ["value"] 1 (spW (fun _ (t : (List Int) × Unit) => [.d (cSeq cInt) t.1]) 0 (fun t => m_is_list t.1) cBool) := by
  refine cal_W (N := ["value"]) E.D_is_list (fun _ _ _ _ _ _ us hl => match us, hl with | [_], _ => rfl) ⟨rfl, rfl, rfl, by decide +kernel, rfl, by decide +kernel, by decide +kernel⟩ (fun _ _ => rfl) (by decide) (fun _ _ => trivial) fun z t => ?_
  obtain ⟨value0, _⟩ := t
  refine' PB.of ?h ?e ?hk
  case h => exact vb_ctx (Γ' := [.d (cSeq cInt) value0]) rfl (vb_ret (xof (pisiLTs rfl E.b_isinstance rfl E.b_list rfl E.b_tuple (PW.pd (xname (i := 0) rfl rfl (.inl rfl))) (fun _ => rfl))))
  case e => rfl
  case hk => decide
theorem c_m_is_list_t (E : All P w K mg base CBook CWish) : Cal P w K mg base "is_list" ["value"] 1 (spW (fun _ (t : (List ((List Int) × (List Int))) × Unit) => [.d (cSeq (cT2 (cList cInt) (cList cInt))) t.1]) 0 (fun t => m_is_list_t t.1) cBool) := by
  refine cal_W (N := ["value"]) E.D_is_list (fun _ _ _ _ _ _ us hl => match us, hl with | [_], _ => rfl) ⟨rfl, rfl, rfl, by decide +kernel, rfl, by decide +kernel, by decide +kernel⟩ (fun _ _ => rfl) (by decide) (fun _ _ => trivial) fun z t => ?_
  obtain ⟨value0, _⟩ := t
  refine' PB.of ?h ?e ?hk
  case h => exact vb_ctx (Γ' := [.d (cSeq (cT2 (cList cInt) (cList cInt))) value0]) rfl (vb_ret (xof (pisiLTs rfl E.b_isinstance rfl E.b_list rfl E.b_tuple (PW.pd (xname (i := 0) rfl rfl (.inl rfl))) (fun _ => rfl))))
  case e => rfl
  case hk => decide
theorem c_m_is_integer (E : All P w K mg base CBook CWish) : Cal P w K mg base "is_integer" ["value"] 1 (spW (fun _ (t : Int × Unit) => [.d cInt t.1]) 0 (fun t => m_is_integer t.1) cBool) := by
  refine cal_W (N := ["value"]) E.D_is_integer (fun _ _ _ _ _ _ us hl => match us, hl with | [_], _ => rfl) ⟨rfl, rfl, rfl, by decide +kernel, rfl, by decide +kernel, by decide +kernel⟩ (fun _ _ => rfl) (by decide) (fun _ _ => trivial) fun z t => ?_
  obtain ⟨value0, _⟩ := t
  refine' PB.of ?h ?e ?hk
  case h => exact vb_ctx (Γ' := [.d cInt value0]) rfl (vb_ret (xandP (xof (pisi rfl E.b_isinstance (PW.pd (xname (i := 0) rfl rfl (.inl rfl))) (nmTy rfl E.b_int PyProof.Rows.boot_int) (.ty _) ty_int (r := true) (kit_ty (by decide +kernel)) (fun _ => rfl))) (xone (xnot (xof (pisi rfl E.b_isinstance (PW.pd (xname (i := 0) rfl rfl (.inl rfl))) (nmTy rfl E.b_bool PyProof.Rows.boot_bool) (.ty _) ty_int (r := false) (kit_ty (by decide +kernel)) (fun _ => rfl)))))))
  case e => rfl
  case hk => decide
theorem c_m_is_index (E : All P w K mg base CBook CWish) : Cal P w K mg base "is_index" ["value", "many"] 2 (spW (fun _ (t : Int × Int × Unit) => [.d cInt t.1, .d cInt t.2.1]) 0 (fun t => m_is_index t.1 t.2.1) cBool) := by
  refine cal_W (N := ["value", "many"]) E.D_is_index (fun _ _ _ _ _ _ us hl => match us, hl with | [_, _], _ => rfl) ⟨rfl, rfl, rfl, by decide +kernel, rfl, by decide +kernel, by decide +kernel⟩ (fun _ _ => rfl) (by decide) (fun _ _ => trivial) fun z t => ?_
  obtain ⟨value0, many0, _⟩ := t
  refine' PB.of ?h ?e ?hk
  case h => exact vb_ctx (Γ' := [.d cInt value0, .d cInt many0]) rfl (vb_ret (xandW (xcal 0 (c_m_is_integer E) (show (1 : Nat) ≤ 1 by decide) rfl (aC (xname (i := 0) rfl rfl (.inl rfl)) aN (fun _ => rfl)) (fun _ => rfl) (fun _ => rfl)) (xone (xchain (fun _ => op_le) (fun _ => op_lt) (xint (i := 0)) (xname (i := 0) rfl rfl (.inl rfl)) (xname (i := 1) rfl rfl (.inl rfl)) rfl))))
  case e => rfl
  case hk => decide
theorem c_m_are_numbers (E : All P w K mg base CBook CWish) : Cal P w K mg base "are_numbers" ["value", "many"] 3 (spW (fun _ (t : (List Int) × Int × Unit) => [.d (cSeq cInt) t.1, .d cInt t.2.1]) 0 (fun t => m_are_numbers t.1 t.2.1) cBool) := by
  refine cal_W (N := ["value", "many", "item"]) E.D_are_numbers (fun _ _ _ _ _ _ us hl => match us, hl with | [_, _], _ => rfl) ⟨rfl, rfl, rfl, by decide +kernel, rfl, by decide +kernel, by decide +kernel⟩ (fun _ _ => rfl) (by decide) (fun _ _ => trivial) fun z t => ?_
  obtain ⟨value0, many0, _⟩ := t
  refine' PB.of ?h ?e ?hk
  case h => exact vb_ctx (Γ' := [.d (cSeq cInt) value0, .d cInt many0, .un]) rfl (vb_ret (xandW (xcal 0 (c_m_is_list E) (show (1 : Nat) ≤ 2 by decide) rfl (aC (xname (i := 0) rfl rfl (.inl rfl)) aN (fun _ => rfl)) (fun _ => rfl) (fun _ => rfl)) (xone (xall rfl E.b_all (PWF.d (xlc (map0 [("item", 2)] (iS (xname (i := 0) rfl rfl (.inl rfl))) (by trivial) (fun (x1 : Int) => ⟨_, _, (pdg_name (i := 2) (by trivial) rfl (.inl rfl) (.inr rfl)), (fun _ h => h), (xcal 0 (c_m_is_index E) (show (2 : Nat) ≤ 2 by decide) rfl (aC (xname (i := 2) rfl rfl (.inl rfl)) (aC (xname (i := 1) rfl rfl (.inr (.inl rfl))) aN (fun _ => rfl)) (fun _ => rfl)) (fun _ => rfl) (fun _ => rfl))⟩)) (by kernel_rfl) (fun _ _ => rfl))) (fun _ => rfl)))))
  case e => rfl
  case hk => decide
theorem c_m_is_lot (E : All P w K mg base CBook CWish) : Cal P w K mg base "is_lot" ["value", "many"] 4 (spW (fun _ (t : (List Int) × Int × Unit) => [.d (cSeq cInt) t.1, .d cInt t.2.1]) 0 (fun t => m_is_lot t.1 t.2.1) cBool) := by
  refine cal_W (N := ["value", "many"]) E.D_is_lot (fun _ _ _ _ _ _ us hl => match us, hl with | [_, _], _ => rfl) ⟨rfl, rfl, rfl, by decide +kernel, rfl, by decide +kernel, by decide +kernel⟩ (fun _ _ => rfl) (by decide) (fun _ _ => trivial) fun z t => ?_
  obtain ⟨value0, many0, _⟩ := t
  refine' PB.of ?h ?e ?hk
  case h => exact vb_ctx (Γ' := [.d (cSeq cInt) value0, .d cInt many0]) rfl (vb_ret (xandW (xcal 0 (c_m_are_numbers E) (show (3 : Nat) ≤ 3 by decide) rfl (aC (xname (i := 0) rfl rfl (.inl rfl)) (aC (xname (i := 1) rfl rfl (.inl rfl)) aN (fun _ => rfl)) (fun _ => rfl)) (fun _ => rfl) (fun _ => rfl)) (xone (xcmp (op_eqDG rfl) (PWF.d (xlist rfl E.b_list (xname (i := 0) rfl rfl (.inl rfl)) (fun _ => rfl))) (PWF.d (xsortBig rfl E.b_sorted (xset rfl E.b_set (xname (i := 0) rfl rfl (.inl rfl)) (fun _ => rfl)) (fun _ => rfl))) (fun _ _ => rw0 (rd_eqD (eList eInt) (by decide))) (nomark _)))))
  case e => rfl
  case hk => decide
theorem c_m_are_places (E : All P w K mg base CBook CWish) : Cal P w K mg base "are_places" ["value", "many"] 5 (spW (fun _ (t : (List Int) × Int × Unit) => [.d (cSeq cInt) t.1, .d cInt t.2.1]) 0 (fun t => m_are_places t.1 t.2.1) cBool) := by
  refine cal_W (N := ["value", "many"]) E.D_are_places (fun _ _ _ _ _ _ us hl => match us, hl with | [_, _], _ => rfl) ⟨rfl, rfl, rfl, by decide +kernel, rfl, by decide +kernel, by decide +kernel⟩ (fun _ _ => rfl) (by decide) (fun _ _ => trivial) fun z t => ?_
  obtain ⟨value0, many0, _⟩ := t
  refine' PB.of ?h ?e ?hk
  case h => exact vb_ctx (Γ' := [.d (cSeq cInt) value0, .d cInt many0]) rfl (vb_ret (xcal 0 (c_m_is_lot E) (show (4 : Nat) ≤ 4 by decide) rfl (aC (xname (i := 0) rfl rfl (.inl rfl)) (aC (xname (i := 1) rfl rfl (.inl rfl)) aN (fun _ => rfl)) (fun _ => rfl)) (fun _ => rfl) (fun _ => rfl)))
  case e => rfl
  case hk => decide
theorem c_m_product_of (E : All P w K mg base CBook CWish) : Cal P w K mg base "product_of" ["numbers"] 1 (spW (fun _ (t : (List Int) × Unit) => [.d (cList cInt) t.1]) 0 (fun t => m_product_of t.1) cInt) := by
  refine cal_W (N := ["numbers", "found", "number"]) E.D_product_of (fun _ _ _ _ _ _ us hl => match us, hl with | [_], _ => rfl) ⟨rfl, rfl, rfl, by decide +kernel, rfl, by decide +kernel, by decide +kernel⟩ (fun _ _ => rfl) (by decide) (fun _ _ => trivial) fun z t => ?_
  obtain ⟨numbers0, _⟩ := t
  refine' PB.of ?h ?e ?hk
  case h => exact vb_ctx (Γ' := [.d (cList cInt) numbers0, .un, .un]) rfl (vb_set 1 (xint (i := 1)) (by trivial) rfl (.inl rfl) (fun env he => by cases env; cases he; rfl) (.inl rfl) (fun found_1 => vb_ctx (Γ' := [.d (cList cInt) numbers0, .d cInt found_1, .un]) rfl (vb_for (⟨[2], fun (s2 : Int) => [.d (cList cInt) numbers0, .d cInt s2, .un]⟩ : En (Int)) found_1 rfl (iL (xname (i := 0) rfl rfl (.inl rfl))) (fun (s2 : Int) (number_3 : Int) => ⟨_, _, (pdg_name (i := 2) (by trivial) rfl (.inl rfl) (.inl rfl)), (by trivial), vb_ctx (Γ' := [.d (cList cInt) numbers0, .d cInt s2, .d cInt number_3]) rfl (vb_set 1 (xmul (xname (i := 1) rfl rfl (.inl rfl)) (xname (i := 2) rfl rfl (.inl rfl))) (by trivial) rfl (.inl rfl) (fun env he => by cases env; cases he; rfl) (.inl rfl) (fun found_8 => vb_ctx (Γ' := [.d (cList cInt) numbers0, .d cInt found_8, .d cInt number_3]) rfl (vb_nil found_8 rfl)))⟩) (fun _ _ => rfl) (fun s2 => (vb_ret (xname (i := 1) rfl rfl (.inl rfl)))))))
  case e => rfl
  case hk => decide
theorem c_m_product_of_t (E : All P w K mg base CBook CWish) : Cal P w K mg base "product_of" ["numbers"] 1 (spW (fun _ (t : (List Int) × Unit) => [.d (cTup cInt) t.1]) 0 (fun t => m_product_of_t t.1) cInt) := by
  refine cal_W (N := ["numbers", "found", "number"]) E.D_product_of (fun _ _ _ _ _ _ us hl => match us, hl with | [_], _ => rfl) ⟨rfl, rfl, rfl, by decide +kernel, rfl, by decide +kernel, by decide +kernel⟩ (fun _ _ => rfl) (by decide) (fun _ _ => trivial) fun z t => ?_
  obtain ⟨numbers0, _⟩ := t
  refine' PB.of ?h ?e ?hk
  case h => exact vb_ctx (Γ' := [.d (cTup cInt) numbers0, .un, .un]) rfl (vb_set 1 (xint (i := 1)) (by trivial) rfl (.inl rfl) (fun env he => by cases env; cases he; rfl) (.inl rfl) (fun found_1 => vb_ctx (Γ' := [.d (cTup cInt) numbers0, .d cInt found_1, .un]) rfl (vb_for (⟨[2], fun (s2 : Int) => [.d (cTup cInt) numbers0, .d cInt s2, .un]⟩ : En (Int)) found_1 rfl (iT (xname (i := 0) rfl rfl (.inl rfl))) (fun (s2 : Int) (number_3 : Int) => ⟨_, _, (pdg_name (i := 2) (by trivial) rfl (.inl rfl) (.inl rfl)), (by trivial), vb_ctx (Γ' := [.d (cTup cInt) numbers0, .d cInt s2, .d cInt number_3]) rfl (vb_set 1 (xmul (xname (i := 1) rfl rfl (.inl rfl)) (xname (i := 2) rfl rfl (.inl rfl))) (by trivial) rfl (.inl rfl) (fun env he => by cases env; cases he; rfl) (.inl rfl) (fun found_8 => vb_ctx (Γ' := [.d (cTup cInt) numbers0, .d cInt found_8, .d cInt number_3]) rfl (vb_nil found_8 rfl)))⟩) (fun _ _ => rfl) (fun s2 => (vb_ret (xname (i := 1) rfl rfl (.inl rfl)))))))
  case e => rfl
  case hk => decide
theorem c_m_are_sizes (E : All P w K mg base CBook CWish) : Cal P w K mg base "are_sizes" ["value"] 2 (spW (fun _ (t : (List Int) × Unit) => [.d (cList cInt) t.1]) 0 (fun t => m_are_sizes t.1) cBool) := by
  refine cal_W (N := ["value", "size"]) E.D_are_sizes (fun _ _ _ _ _ _ us hl => match us, hl with | [_], _ => rfl) ⟨rfl, rfl, rfl, by decide +kernel, rfl, by decide +kernel, by decide +kernel⟩ (fun _ _ => rfl) (by decide) (fun _ _ => trivial) fun z t => ?_
  obtain ⟨value0, _⟩ := t
  refine' PB.of ?h ?e ?hk
  case h => exact vb_ctx (Γ' := [.d (cList cInt) value0, .un]) rfl (vb_ifR (twW (worW (tnotW (tval (xcal 0 (c_m_is_list E) (show (1 : Nat) ≤ 1 by decide) rfl (aC (xseqL (xname (i := 0) rfl rfl (.inl rfl))) aN (fun _ => rfl)) (fun _ => rfl) (fun _ => rfl)) (fun _ _ => rfl))) (wor1 (tnotW (tchainW (fun _ => op_le) (fun _ => op_le) (xint (i := 1)) (xlen rfl E.b_len (xseqL (xname (i := 0) rfl rfl (.inl rfl))) (fun _ => rfl)) (xof (pd_glob (v := .int 8) (c := cInt) (y := 8) rfl E.g_MOST_PLACES.choose_spec ⟨_, rfl⟩ (fun _ => rfl))) rfl))))) (vb_ret xbool) (vb_ret (xall rfl E.b_all (PWF.d (xlc (map0 [("size", 1)] (iL (xname (i := 0) rfl rfl (.inl rfl))) (by trivial) (fun (x1 : Int) => ⟨_, _, (pdg_name (i := 1) (by trivial) rfl (.inl rfl) (.inr rfl)), (fun _ h => h), (xandW (xcal 0 (c_m_is_integer E) (show (1 : Nat) ≤ 1 by decide) rfl (aC (xname (i := 1) rfl rfl (.inl rfl)) aN (fun _ => rfl)) (fun _ => rfl) (fun _ => rfl)) (xone (xchain (fun _ => op_le) (fun _ => op_le) (xof (pd_glob (v := .int 2) (c := cInt) (y := 2) rfl E.g_FEWEST_WORDINGS.choose_spec ⟨_, rfl⟩ (fun _ => rfl))) (xname (i := 1) rfl rfl (.inl rfl)) (xof (pd_glob (v := .int 6) (c := cInt) (y := 6) rfl E.g_MOST_WORDINGS.choose_spec ⟨_, rfl⟩ (fun _ => rfl))) rfl)))⟩)) (by kernel_rfl) (fun _ _ => rfl))) (fun _ => rfl))))
  case e => rfl
  case hk => decide
theorem c_m_Book___init__ (E : All P w K mg base CBook CWish) : ICal P w K mg base CBook ["self", "sizes"] 3 (spIW CBook (fun (t : (List Int) × Unit) => [.d (cList cInt) t.1]) (fun t => m_Book___init__ t.1) FBook) := by
  obtain ⟨f, fd, Fu, M⟩ := E.D_Book___init__
  refine ⟨f, fd, ?_, M, Fu.binds (fun _ _ _ _ _ _ us hl => match us, hl with | [_, _], _ => rfl)⟩
  refine init_W (N := ["self", "sizes"]) (n := fun ax dx => ⟨[1], fun y => .r (opS ax CBook dx ([(("sizes" : Str), .d (cTup cInt) y)] : FL)) :: [.un]⟩) (flo := fun y => ([(("sizes" : Str), .d (cTup cInt) y)] : FL)) (l := noEn) Fu ⟨rfl, rfl, rfl, by decide +kernel, rfl, by decide +kernel, by decide +kernel⟩ (fun _ => rfl) (by decide) (fun _ => trivial) (fun _ _ _ => rfl) (fun H fs y h => ?hF) fun ax dx t => ?hb
  case hF =>
    obtain ⟨v0, e, r0⟩ := fl1 h
    exact ⟨v0, e, r0⟩
  case hb =>
    obtain ⟨sizes0, _⟩ := t
    refine' PB.of ?h ?e ?hk
    case h => exact vb_ctx (Γ' := [.r (opS ax CBook dx []), .d (cList cInt) sizes0]) rfl (vb_ifR (tnotW (tval (xcal 0 (c_m_are_sizes E) (show (2 : Nat) ≤ 2 by decide) rfl (aC (xname (i := 1) rfl rfl (.inl rfl)) aN (fun _ => rfl)) (fun _ => rfl) (fun _ => rfl)) (fun _ _ => rfl))) vb_raise (vb_fld 0 rfl rfl (.inl rfl) E.kBook.cl E.nBook_sizes rfl (show (0 : Nat) < 1000 by decide) (xtuple rfl E.b_tuple (xseqL (xname (i := 1) rfl rfl (.inl rfl))) (fun _ => rfl)) (fun _ => rfl) (fun v1 => vb_ctx (Γ' := [.r (opS ax CBook dx [(("sizes" : Str), .d (cTup cInt) v1)]), .d (cList cInt) sizes0]) rfl (vb_nil v1 rfl))))
    case e => rfl
    case hk => decide
theorem c_m_Book_count (E : All P w K mg base CBook CWish) : MCal P w K mg base CBook "count" ["self"] 2 (spW (fun _ (t : (List Int) × Unit) => [.d (cBook CBook) t.1]) 0 (fun t => m_Book_count t.1) cInt) := by
  refine mcal_W (N := ["self"]) E.D_Book_count (fun _ _ _ _ _ _ us hl => match us, hl with | [_], _ => rfl) ⟨rfl, rfl, rfl, by decide +kernel, rfl, by decide +kernel, by decide +kernel⟩ (fun _ _ => rfl) (by decide) (fun _ _ => trivial) fun z t => ?_
  obtain ⟨self0, _⟩ := t
  refine' PB.of ?h ?e ?hk
  case h => exact vb_ctx (Γ' := [.d (cBook CBook) self0]) rfl (vb_ret (xcal 0 (c_m_product_of_t E) (show (1 : Nat) ≤ 1 by decide) rfl (aC (xBook_sizes E (xname (i := 0) rfl rfl (.inl rfl)) (fun _ => rfl)) aN (fun _ => rfl)) (fun _ => rfl) (fun _ => rfl)))
  case e => rfl
  case hk => decide
theorem c_m_check_places (E : All P w K mg base CBook CWish) : Cal P w K mg base "check_places" ["book", "places"] 6 (spW (fun _ (t : (List Int) × (List Int) × Unit) => [.d (cBook CBook) t.1, .d (cSeq cInt) t.2.1]) 0 (fun t => m_check_places t.1 t.2.1) cNon) := by
  refine cal_WN (N := ["book", "places"]) (ps := (fun (t : (List Int) × (List Int) × Unit) => [.d (cBook CBook) t.1, .d (cSeq cInt) t.2.1])) (n := ⟨[0, 1], fun _ => [.un, .un]⟩) E.D_check_places (fun _ _ _ _ _ _ us hl => match us, hl with | [_, _], _ => rfl) ⟨rfl, rfl, rfl, by decide +kernel, rfl, by decide +kernel, by decide +kernel⟩ (fun _ => rfl) (by decide) (fun _ => trivial) fun t => ?_
  obtain ⟨book0, places0, _⟩ := t
  refine' PB.of ?h ?e ?hk
  case h => exact vb_ctx (Γ' := [.d (cBook CBook) book0, .d (cSeq cInt) places0]) rfl (vb_ifR (tnotW (tval (xcal 0 (c_m_are_places E) (show (5 : Nat) ≤ 5 by decide) rfl (aC (xname (i := 1) rfl rfl (.inl rfl)) (aC (xlenO (lenBook E) (show (1 + 1 : Nat) ≤ 5 by decide) rfl E.b_len (xname (i := 0) rfl rfl (.inl rfl)) (fun _ => rfl)) aN (fun _ => rfl)) (fun _ => rfl)) (fun _ => rfl) (fun _ => rfl)) (fun _ _ => rfl))) vb_raise (vb_nil () rfl))
  case e => rfl
  case hk => decide
theorem c_m_check_kind (E : All P w K mg base CBook CWish) : Cal P w K mg base "check_kind" ["book"] 1 (spW (fun _ (t : (List Int) × Unit) => [.d (cBook CBook) t.1]) 0 (fun t => m_check_kind t.1) cNon) := by
  refine cal_WN (N := ["book"]) (ps := (fun (t : (List Int) × Unit) => [.d (cBook CBook) t.1])) (n := ⟨[0], fun _ => [.un]⟩) E.D_check_kind (fun _ _ _ _ _ _ us hl => match us, hl with | [_], _ => rfl) ⟨rfl, rfl, rfl, by decide +kernel, rfl, by decide +kernel, by decide +kernel⟩ (fun _ => rfl) (by decide) (fun _ => trivial) fun t => ?_
  obtain ⟨book0, _⟩ := t
  refine' PB.of ?h ?e ?hk
  case h => exact vb_ctx (Γ' := [.d (cBook CBook) book0]) rfl (vb_ifR (tnotW (tval (xof (pisi rfl E.b_isinstance (PW.pd (xname (i := 0) rfl rfl (.inl rfl))) (nmOwn rfl E.mgBook) (.own _) (ty_ins E.kBook.own) (r := true) E.kBook.isC (fun _ => rfl))) (fun _ _ => rfl))) vb_raise (vb_nil () rfl))
  case e => rfl
  case hk => decide
theorem c_m_count_rows (E : All P w K mg base CBook CWish) : Cal P w K mg base "count_rows" ["book", "places"] 2 (spW (fun _ (t : (List Int) × (List Int) × Unit) => [.d (cBook CBook) t.1, .d (cSeq cInt) t.2.1]) 0 (fun t => m_count_rows t.1 t.2.1) cInt) := by
  refine cal_W (N := ["book", "places", "place"]) E.D_count_rows (fun _ _ _ _ _ _ us hl => match us, hl with | [_, _], _ => rfl) ⟨rfl, rfl, rfl, by decide +kernel, rfl, by decide +kernel, by decide +kernel⟩ (fun _ _ => rfl) (by decide) (fun _ _ => trivial) fun z t => ?_
  obtain ⟨book0, places0, _⟩ := t
  refine' PB.of ?h ?e ?hk
  case h => exact vb_ctx (Γ' := [.d (cBook CBook) book0, .d (cSeq cInt) places0, .un]) rfl (vb_ret (xcal 0 (c_m_product_of E) (show (1 : Nat) ≤ 1 by decide) rfl (aC (PWF.d (xlc (map0 [("place", 2)] (iS (xname (i := 1) rfl rfl (.inl rfl))) (by trivial) (fun (x1 : Int) => ⟨_, _, (pdg_name (i := 2) (by trivial) rfl (.inl rfl) (.inr rfl)), (fun _ h => h), (xix ixTG (xBook_sizes E (xname (i := 0) rfl rfl (.inr (.inl rfl))) (fun _ => rfl)) (xname (i := 2) rfl rfl (.inl rfl)) (fun _ _ => ixT) (fun _ _ => rfl))⟩)) (by kernel_rfl) (fun _ _ => rfl))) aN (fun _ => rfl)) (fun _ => rfl) (fun _ => rfl)))
  case e => rfl
  case hk => decide
theorem c_m_rows_at (E : All P w K mg base CBook CWish) : Cal P w K mg base "rows_at" ["book", "places"] 1 (spW (fun _ (t : (List Int) × (List Int) × Unit) => [.d (cBook CBook) t.1, .d (cSeq cInt) t.2.1]) 0 (fun t => m_rows_at t.1 t.2.1) (cList (cTup cInt))) := by
  refine cal_W (N := ["book", "places", "found", "place", "row", "wording"]) E.D_rows_at (fun _ _ _ _ _ _ us hl => match us, hl with | [_, _], _ => rfl) ⟨rfl, rfl, rfl, by decide +kernel, rfl, by decide +kernel, by decide +kernel⟩ (fun _ _ => rfl) (by decide) (fun _ _ => trivial) fun z t => ?_
  obtain ⟨book0, places0, _⟩ := t
  refine' PB.of ?h ?e ?hk
  case h => exact vb_ctx (Γ' := [.d (cBook CBook) book0, .d (cSeq cInt) places0, .un, .un, .un, .un]) rfl (vb_set 2 (PWF.d (xlstP (c := (cTup cInt)) (.cons (xtupP (c := cInt) .nil (by simp)) .nil (fun _ => rfl)) (by simp))) (by trivial) rfl (.inl rfl) (fun env he => by cases env; cases he; rfl) (.inl rfl) (fun found_1 => vb_ctx (Γ' := [.d (cBook CBook) book0, .d (cSeq cInt) places0, .d (cList (cTup cInt)) found_1, .un, .un, .un]) rfl (vb_for (⟨[3], fun (s2 : (List (List Int))) => [.d (cBook CBook) book0, .d (cSeq cInt) places0, .d (cList (cTup cInt)) s2, .un, .un, .un]⟩ : En ((List (List Int)))) found_1 rfl (iS (xname (i := 1) rfl rfl (.inl rfl))) (fun (s2 : (List (List Int))) (place_3 : Int) => ⟨_, _, (pdg_name (i := 3) (by trivial) rfl (.inr rfl) (.inl rfl)), (by trivial), vb_ctx (Γ' := [.d (cBook CBook) book0, .d (cSeq cInt) places0, .d (cList (cTup cInt)) s2, .d cInt place_3, .un, .un]) rfl (vb_setLc2 2 [("row", 4), ("wording", 5)] [5] (lc2W [("row", 4), ("wording", 5)] [5] rfl (iL (xname (i := 2) rfl rfl (.inl rfl))) (fun (x9 : List Int) => ⟨_, _, (pdg_name (i := 4) (by trivial) rfl (.inl rfl) (.inr rfl)), rfl, (by decide), (iR1 rfl E.b_range (xix ixTG (xBook_sizes E (xname (i := 0) rfl rfl (.inr (.inl rfl))) (fun _ => rfl)) (xname (i := 3) rfl rfl (.inr (.inl rfl))) (fun _ _ => ixT) (fun _ _ => rfl)) (fun _ => rfl)), fun (y10 : Int) => ⟨_, _, (pdg_name (i := 5) (by trivial) rfl (.inl rfl) (.inr rfl)), (by decide), (xtup (lS (xseqT (xname (i := 4) rfl rfl (.inl rfl))) (lC (xname (i := 5) rfl rfl (.inl rfl)) lN (fun _ => rfl)) (fun _ => rfl)))⟩⟩)) (by trivial) (by decide) rfl rfl (fun env he => by cases env; cases he; rfl) (by kernel_rfl) (fun _ _ => rfl) (fun _ _ => rfl) (fun found_8 => vb_ctx (Γ' := [.d (cBook CBook) book0, .d (cSeq cInt) places0, .d (cList (cTup cInt)) found_8, .d cInt place_3, .un, .un]) rfl (vb_nil found_8 rfl)))⟩) (fun _ _ => rfl) (fun s2 => (vb_ret (xname (i := 2) rfl rfl (.inl rfl)))))))
  case e => rfl
  case hk => decide
end
end K18

set_option Elab.async false
set_option linter.all false
set_option maxRecDepth 100000
set_option maxHeartbeats 4000000
namespace K18
open PySem PySem.Spec L2 DL
section
variable {P : Program} {w : World} {K : PySem.W.Frag} {mg : Str → Option Value} {base : Heap} {CBook CWish : Addr}
theorem c_m_sign (E : All P w K mg base CBook CWish) : Cal P w K mg base "sign" ["number", "other"] 1 (spW (fun _ (t : Int × Int × Unit) => [.d cInt t.1, .d cInt t.2.1]) 0 (fun t => m_sign t.1 t.2.1) cInt) := by
  refine cal_W (N := ["number", "other"]) E.D_sign (fun _ _ _ _ _ _ us hl => match us, hl with | [_, _], _ => rfl) ⟨rfl, rfl, rfl, by decide +kernel, rfl, by decide +kernel, by decide +kernel⟩ (fun _ _ => rfl) (by decide) (fun _ _ => trivial) fun z t => ?_
  obtain ⟨number0, other0, _⟩ := t
  refine' PB.of ?h ?e ?hk
  case h => exact vb_ctx (Γ' := [.d cInt number0, .d cInt other0]) rfl (vb_ret (xbin (fun _ _ => op_sub) (xintB rfl E.b_int (xcmp (fun _ _ => op_gt) (xname (i := 1) rfl rfl (.inl rfl)) (xname (i := 0) rfl rfl (.inl rfl)) (fun _ _ => rw0 rd_B0) (nomark _)) (fun _ => rfl)) (xintB rfl E.b_int (xcmp (fun _ _ => op_lt) (xname (i := 1) rfl rfl (.inl rfl)) (xname (i := 0) rfl rfl (.inl rfl)) (fun _ _ => rw0 rd_B0) (nomark _)) (fun _ => rfl)) (fun _ _ => rw0 rd_I0)))
  case e => rfl
  case hk => decide
theorem c_m_is_table (E : All P w K mg base CBook CWish) : Cal P w K mg base "is_table" ["book", "value"] 6 (spW (fun _ (t : (List Int) × ((List Int) × (List Int)) × Unit) => [.d (cBook CBook) t.1, .d (cT2 (cList cInt) (cList cInt)) t.2.1]) 0 (fun t => m_is_table t.1 t.2.1) cBool) := by
  refine cal_W (N := ["book", "value", "places", "worths", "count", "worth"]) E.D_is_table (fun _ _ _ _ _ _ us hl => match us, hl with | [_, _], _ => rfl) ⟨rfl, rfl, rfl, by decide +kernel, rfl, by decide +kernel, by decide +kernel⟩ (fun _ _ => rfl) (by decide) (fun _ _ => trivial) fun z t => ?_
  obtain ⟨book0, value0, _⟩ := t
  refine' PB.of ?h ?e ?hk
  case h => exact vb_ctx (Γ' := [.d (cBook CBook) book0, .d (cT2 (cList cInt) (cList cInt)) value0, .un, .un, .un, .un]) rfl (vb_ifR (twW (worP (tnotW (tval (xof (pisi rfl E.b_isinstance (PW.pd (xname (i := 1) rfl rfl (.inl rfl))) (nmTy rfl E.b_tuple PyProof.Rows.boot_tuple) (.ty _) ty_t2 (r := true) (kit_ty (by decide +kernel)) (fun _ => rfl))) (fun _ _ => rfl))) (wor1 (tcmpW (fun _ _ => op_ne) (xlen2 rfl E.b_len (xname (i := 1) rfl rfl (.inl rfl)) (fun _ => rfl)) (xint (i := 2)) (fun _ _ => rw0 rd_neI) (nomark _))))) (vb_ret xbool) (vb_unpack (xname (i := 1) rfl rfl (.inl rfl)) (fun env he => by cases env; cases he; rfl) (fun env he => by cases env; cases he; rfl) (fun _ => rfl) (fun v1 => ⟨_, _, (pdg_t2 (pdg_name (i := 2) (by trivial) rfl (.inl rfl) (.inl rfl)) (pdg_name (i := 3) (by trivial) rfl (.inl rfl) (.inl rfl)) (fun _ => rfl) (fun _ => rfl) (fun _ => rfl) (fun _ => rfl)), (vb_ctx (Γ' := [.d (cBook CBook) book0, .d (cT2 (cList cInt) (cList cInt)) value0, .d (cList cInt) v1.1, .d (cList cInt) v1.2, .un, .un]) rfl (vb_ifR (twW (worW (tnotW (tval (xcal 0 (c_m_are_places E) (show (5 : Nat) ≤ 5 by decide) rfl (aC (xseqL (xname (i := 2) rfl rfl (.inl rfl))) (aC (xlenO (lenBook E) (show (1 + 1 : Nat) ≤ 5 by decide) rfl E.b_len (xname (i := 0) rfl rfl (.inl rfl)) (fun _ => rfl)) aN (fun _ => rfl)) (fun _ => rfl)) (fun _ => rfl) (fun _ => rfl)) (fun _ _ => rfl))) (worW (tcmpW (fun _ _ => op_eq) (xlen rfl E.b_len (xseqL (xname (i := 2) rfl rfl (.inl rfl))) (fun _ => rfl)) (xint (i := 0)) (fun _ _ => rw0 rd_eqI) (nomark _)) (wor1 (tnotW (tval (xcal 0 (c_m_is_list E) (show (1 : Nat) ≤ 5 by decide) rfl (aC (xseqL (xname (i := 3) rfl rfl (.inl rfl))) aN (fun _ => rfl)) (fun _ => rfl) (fun _ => rfl)) (fun _ _ => rfl))))))) (vb_ret xbool) (vb_set 4 (xcal 0 (c_m_count_rows E) (show (2 : Nat) ≤ 5 by decide) rfl (aC (xname (i := 0) rfl rfl (.inl rfl)) (aC (xseqL (xname (i := 2) rfl rfl (.inl rfl))) aN (fun _ => rfl)) (fun _ => rfl)) (fun _ => rfl) (fun _ => rfl)) (by trivial) rfl (.inl rfl) (fun env he => by cases env; cases he; rfl) (.inl rfl) (fun count_2 => vb_ctx (Γ' := [.d (cBook CBook) book0, .d (cT2 (cList cInt) (cList cInt)) value0, .d (cList cInt) v1.1, .d (cList cInt) v1.2, .d cInt count_2, .un]) rfl (vb_ret (xandW (xcmp (fun _ _ => op_le) (xname (i := 4) rfl rfl (.inl rfl)) (xof (pd_glob (v := .int 100) (c := cInt) (y := 100) rfl E.g_MOST_WORTHS.choose_spec ⟨_, rfl⟩ (fun _ => rfl))) (fun _ _ => rw0 rd_B0) (nomark _)) (xandW (xcmp (fun _ _ => op_eq) (xlen rfl E.b_len (xseqL (xname (i := 3) rfl rfl (.inl rfl))) (fun _ => rfl)) (xname (i := 4) rfl rfl (.inl rfl)) (fun _ _ => rw0 rd_eqI) (nomark _)) (xone (xall rfl E.b_all (PWF.d (xlc (map0 [("worth", 5)] (iL (xname (i := 3) rfl rfl (.inl rfl))) (by trivial) (fun (x3 : Int) => ⟨_, _, (pdg_name (i := 5) (by trivial) rfl (.inl rfl) (.inr rfl)), (fun _ h => h), (xcal 0 (c_m_is_integer E) (show (1 : Nat) ≤ 5 by decide) rfl (aC (xname (i := 5) rfl rfl (.inl rfl)) aN (fun _ => rfl)) (fun _ => rfl) (fun _ => rfl))⟩)) (by kernel_rfl) (fun _ _ => rfl))) (fun _ => rfl))))))))))⟩)))
  case e => rfl
  case hk => decide
theorem c_m_are_tables (E : All P w K mg base CBook CWish) : Cal P w K mg base "are_tables" ["book", "value"] 7 (spW (fun _ (t : (List Int) × (List ((List Int) × (List Int))) × Unit) => [.d (cBook CBook) t.1, .d (cList (cT2 (cList cInt) (cList cInt))) t.2.1]) 0 (fun t => m_are_tables t.1 t.2.1) cBool) := by
  refine cal_W (N := ["book", "value", "table"]) E.D_are_tables (fun _ _ _ _ _ _ us hl => match us, hl with | [_, _], _ => rfl) ⟨rfl, rfl, rfl, by decide +kernel, rfl, by decide +kernel, by decide +kernel⟩ (fun _ _ => rfl) (by decide) (fun _ _ => trivial) fun z t => ?_
  obtain ⟨book0, value0, _⟩ := t
  refine' PB.of ?h ?e ?hk
  case h => exact vb_ctx (Γ' := [.d (cBook CBook) book0, .d (cList (cT2 (cList cInt) (cList cInt))) value0, .un]) rfl (vb_ret (xandW (xcal 0 (c_m_is_list_t E) (show (1 : Nat) ≤ 6 by decide) rfl (aC (xseqL (xname (i := 1) rfl rfl (.inl rfl))) aN (fun _ => rfl)) (fun _ => rfl) (fun _ => rfl)) (xandW (xcmp (fun _ _ => op_le) (xlen rfl E.b_len (xseqL (xname (i := 1) rfl rfl (.inl rfl))) (fun _ => rfl)) (xof (pd_glob (v := .int 8) (c := cInt) (y := 8) rfl E.g_MOST_TABLES.choose_spec ⟨_, rfl⟩ (fun _ => rfl))) (fun _ _ => rw0 rd_B0) (nomark _)) (xone (xall rfl E.b_all (PWF.d (xlc (map0 [("table", 2)] (iL (xname (i := 1) rfl rfl (.inl rfl))) (by trivial) (fun (x1 : (List Int) × (List Int)) => ⟨_, _, (pdg_name (i := 2) (by trivial) rfl (.inl rfl) (.inr rfl)), (fun _ h => h), (xcal 0 (c_m_is_table E) (show (6 : Nat) ≤ 6 by decide) rfl (aC (xname (i := 0) rfl rfl (.inr (.inl rfl))) (aC (xname (i := 2) rfl rfl (.inl rfl)) aN (fun _ => rfl)) (fun _ => rfl)) (fun _ => rfl) (fun _ => rfl))⟩)) (by kernel_rfl) (fun _ _ => rfl))) (fun _ => rfl))))))
  case e => rfl
  case hk => decide
theorem c_m_Wish___init__ (E : All P w K mg base CBook CWish) : ICal P w K mg base CWish ["self", "book", "tables"] 8 (spIW CWish (fun (t : (List Int) × (List ((List Int) × (List Int))) × Unit) => [.d (cBook CBook) t.1, .d (cList (cT2 (cList cInt) (cList cInt))) t.2.1]) (fun t => m_Wish___init__ t.1 t.2.1) (FWish CBook)) := by
  obtain ⟨f, fd, Fu, M⟩ := E.D_Wish___init__
  refine ⟨f, fd, ?_, M, Fu.binds (fun _ _ _ _ _ _ us hl => match us, hl with | [_, _, _], _ => rfl)⟩
  refine init_W (N := ["self", "book", "tables", "places", "worths"]) (n := fun ax dx => ⟨[1, 2, 3, 4], fun y => .r (opS ax CWish dx ([(("book" : Str), .d (cBook CBook) y.1), (("tables" : Str), .d (cTup (cT2 (cTup cInt) (cTup cInt))) y.2)] : FL)) :: [.un, .un, .un, .un]⟩) (flo := fun y => ([(("book" : Str), .d (cBook CBook) y.1), (("tables" : Str), .d (cTup (cT2 (cTup cInt) (cTup cInt))) y.2)] : FL)) (l := noEn) Fu ⟨rfl, rfl, rfl, by decide +kernel, rfl, by decide +kernel, by decide +kernel⟩ (fun _ => rfl) (by decide) (fun _ => trivial) (fun _ _ _ => rfl) (fun H fs y h => ?hF) fun ax dx t => ?hb
  case hF =>
    obtain ⟨v0, v1, e, r0, r1⟩ := fl2 h
    exact ⟨v0, v1, e, r0, r1⟩
  case hb =>
    obtain ⟨book0, tables0, _⟩ := t
    refine' PB.of ?h ?e ?hk
    case h => exact vb_ctx (Γ' := [.r (opS ax CWish dx []), .d (cBook CBook) book0, .d (cList (cT2 (cList cInt) (cList cInt))) tables0, .un, .un]) rfl (vb_drop (xcal 0 (c_m_check_kind E) (show (1 : Nat) ≤ 7 by decide) rfl (aC (xname (i := 1) rfl rfl (.inl rfl)) aN (fun _ => rfl)) (fun _ => rfl) (fun _ => rfl)) (fun env he => by cases env; cases he; rfl) (fun v1 => (vb_ifR (tnotW (tval (xcal 0 (c_m_are_tables E) (show (7 : Nat) ≤ 7 by decide) rfl (aC (xname (i := 1) rfl rfl (.inl rfl)) (aC (xname (i := 2) rfl rfl (.inl rfl)) aN (fun _ => rfl)) (fun _ => rfl)) (fun _ => rfl) (fun _ => rfl)) (fun _ _ => rfl))) vb_raise (vb_fld 0 rfl rfl (.inl rfl) E.kWish.cl E.nWish_book rfl (show (0 : Nat) < 1000 by decide) (xname (i := 1) rfl rfl (.inl rfl)) (fun _ => rfl) (fun v2 => vb_ctx (Γ' := [.r (opS ax CWish dx [(("book" : Str), .d (cBook CBook) v2)]), .d (cBook CBook) book0, .d (cList (cT2 (cList cInt) (cList cInt))) tables0, .un, .un]) rfl (vb_fld 0 rfl rfl (.inl rfl) E.kWish.cl E.nWish_tables rfl (show (1 : Nat) < 1000 by decide) (xtuple rfl E.b_tuple (xseqL (PWF.d (xlc (maP [("places", 3), ("worths", 4)] (iL (xname (i := 2) rfl rfl (.inl rfl))) (by trivial) (fun (x3 : (List Int) × (List Int)) => ⟨_, _, (pdg_t2 (pdg_name (i := 3) (by trivial) rfl (.inl rfl) (.inr rfl)) (pdg_name (i := 4) (by trivial) rfl (.inl rfl) (.inr rfl)) (fun _ => rfl) (fun _ => rfl) (fun _ => rfl) (fun _ => rfl)), (fun _ h => h), (xt2 (aC (xtuple rfl E.b_tuple (xseqL (xname (i := 3) rfl rfl (.inl rfl))) (fun _ => rfl)) (aC (xtuple rfl E.b_tuple (xseqL (xname (i := 4) rfl rfl (.inl rfl))) (fun _ => rfl)) aN (fun _ => rfl)) (fun _ => rfl)))⟩)) (by kernel_rfl) (fun _ _ => rfl)))) (fun _ => rfl)) (fun _ => rfl) (fun v4 => vb_ctx (Γ' := [.r (opS ax CWish dx [(("book" : Str), .d (cBook CBook) v2), (("tables" : Str), .d (cTup (cT2 (cTup cInt) (cTup cInt))) v4)]), .d (cBook CBook) book0, .d (cList (cT2 (cList cInt) (cList cInt))) tables0, .un, .un]) rfl (vb_nil (v2, v4) rfl))))))))
    case e => rfl
    case hk => decide
theorem c_m_ranks (E : All P w K mg base CBook CWish) : Cal P w K mg base "ranks" ["numbers"] 1 (spW (fun _ (t : (List Int) × Unit) => [.d (cList cInt) t.1]) 0 (fun t => m_ranks t.1) (cList cInt)) := by
  refine cal_W (N := ["numbers", "order", "at", "number"]) E.D_ranks (fun _ _ _ _ _ _ us hl => match us, hl with | [_], _ => rfl) ⟨rfl, rfl, rfl, by decide +kernel, rfl, by decide +kernel, by decide +kernel⟩ (fun _ _ => rfl) (by decide) (fun _ _ => trivial) fun z t => ?_
  obtain ⟨numbers0, _⟩ := t
  refine' PB.of ?h ?e ?hk
  case h => exact vb_ctx (Γ' := [.d (cList cInt) numbers0, .un, .un, .un]) rfl (vb_set 1 (xdcD [("at", 2), ("number", 3)] (iEnum_ rfl E.b_enumerate (xseqL (PWF.d (xsortBig rfl E.b_sorted (xset rfl E.b_set (xseqL (xname (i := 0) rfl rfl (.inl rfl))) (fun _ => rfl)) (fun _ => rfl)))) (fun _ => rfl)) (by trivial) (by kernel_rfl) (fun _ _ => rfl) (fun (x2 : Int × Int) => ⟨_, _, (pdg_t2 (pdg_name (i := 2) (by trivial) rfl (.inl rfl) (.inr rfl)) (pdg_name (i := 3) (by trivial) rfl (.inl rfl) (.inr rfl)) (fun _ => rfl) (fun _ => rfl) (fun _ => rfl) (fun _ => rfl)), (fun _ h => h), (xname (i := 3) rfl rfl (.inl rfl)), (xname (i := 2) rfl rfl (.inl rfl))⟩)) (by trivial) rfl (.inr rfl) (fun env he => sw_cell rfl env he) (.inl rfl) (fun order_1 => vb_ctx (Γ' := [.d (cList cInt) numbers0, .d (cDic cInt) order_1, .un, .un]) rfl (vb_ret (PWF.d (xlc (map0 [("number", 3)] (iL (xname (i := 0) rfl rfl (.inl rfl))) (by trivial) (fun (x3 : Int) => ⟨_, _, (pdg_name (i := 3) (by trivial) rfl (.inl rfl) (.inr rfl)), (fun _ h => h), (xgetD (xname (i := 1) rfl rfl (.inr (.inl rfl))) (xname (i := 3) rfl rfl (.inl rfl)) (fun _ _ => rfl))⟩)) (by kernel_rfl) (fun _ _ => rfl))))))
  case e => rfl
  case hk => decide
theorem c_m_unlike_pair (E : All P w K mg base CBook CWish) : Cal P w K mg base "unlike_pair" ["row", "other"] 2 (spW (fun _ (t : (List Int) × (List Int) × Unit) => [.d (cList cInt) t.1, .d (cList cInt) t.2.1]) 0 (fun t => m_unlike_pair t.1 t.2.1) (cOpt (cT2 cInt cInt))) := by
  refine cal_W (N := ["row", "other", "at", "ahead"]) E.D_unlike_pair (fun _ _ _ _ _ _ us hl => match us, hl with | [_, _], _ => rfl) ⟨rfl, rfl, rfl, by decide +kernel, rfl, by decide +kernel, by decide +kernel⟩ (fun _ _ => rfl) (by decide) (fun _ _ => trivial) fun z t => ?_
  obtain ⟨row0, other0, _⟩ := t
  refine' PB.of ?h ?e ?hk
  case h => exact vb_ctx (Γ' := [.d (cList cInt) row0, .d (cList cInt) other0, .un, .un]) rfl (vb_ifR (tcmpW (op_eqDG rfl) (xname (i := 0) rfl rfl (.inl rfl)) (xname (i := 1) rfl rfl (.inl rfl)) (fun _ _ => rw0 (rd_eqD (eList eInt) (by decide))) (nomark _)) (vb_ret xnoneO) (vb_for (⟨[3, 2], fun (s1 : Unit) => [.d (cList cInt) row0, .d (cList cInt) other0, .un, .un]⟩ : En (Unit)) () rfl (iR1 rfl E.b_range (xlen rfl E.b_len (xseqL (xname (i := 0) rfl rfl (.inl rfl))) (fun _ => rfl)) (fun _ => rfl)) (fun (s1 : Unit) (at_2 : Int) => ⟨_, _, (pdg_name (i := 2) (by trivial) rfl (.inl rfl) (.inl rfl)), (by trivial), vb_ctx (Γ' := [.d (cList cInt) row0, .d (cList cInt) other0, .d cInt at_2, .un]) rfl (vb_for (⟨[3], fun (s7 : Unit) => [.d (cList cInt) row0, .d (cList cInt) other0, .d cInt at_2, .un]⟩ : En (Unit)) () rfl (iR1 rfl E.b_range (xname (i := 2) rfl rfl (.inl rfl)) (fun _ => rfl)) (fun (s7 : Unit) (ahead_8 : Int) => ⟨_, _, (pdg_name (i := 3) (by trivial) rfl (.inl rfl) (.inl rfl)), (by trivial), vb_ctx (Γ' := [.d (cList cInt) row0, .d (cList cInt) other0, .d cInt at_2, .d cInt ahead_8]) rfl (vb_ifR (tcmpW (fun _ _ => op_ne) (xcal 0 (c_m_sign E) (show (1 : Nat) ≤ 1 by decide) rfl (aC (xix ixLG (xname (i := 0) rfl rfl (.inl rfl)) (xname (i := 3) rfl rfl (.inl rfl)) (fun _ _ => ixL) (fun _ _ => rfl)) (aC (xix ixLG (xname (i := 0) rfl rfl (.inl rfl)) (xname (i := 2) rfl rfl (.inl rfl)) (fun _ _ => ixL) (fun _ _ => rfl)) aN (fun _ => rfl)) (fun _ => rfl)) (fun _ => rfl) (fun _ => rfl)) (xcal 0 (c_m_sign E) (show (1 : Nat) ≤ 1 by decide) rfl (aC (xix ixLG (xname (i := 1) rfl rfl (.inl rfl)) (xname (i := 3) rfl rfl (.inl rfl)) (fun _ _ => ixL) (fun _ _ => rfl)) (aC (xix ixLG (xname (i := 1) rfl rfl (.inl rfl)) (xname (i := 2) rfl rfl (.inl rfl)) (fun _ _ => ixL) (fun _ _ => rfl)) aN (fun _ => rfl)) (fun _ => rfl)) (fun _ => rfl) (fun _ => rfl)) (fun _ _ => rw0 rd_neI) (nomark _)) (vb_ret (xsome (xt2 (aC (xname (i := 3) rfl rfl (.inl rfl)) (aC (xname (i := 2) rfl rfl (.inl rfl)) aN (fun _ => rfl)) (fun _ => rfl))))) (vb_nil () rfl))⟩) (fun _ _ => rfl) (fun s7 => (vb_nil () rfl)))⟩) (fun _ _ => rfl) (fun s1 => (vb_ret xnoneO))))
  case e => rfl
  case hk => decide
theorem c_m_check_count (E : All P w K mg base CBook CWish) : Cal P w K mg base "check_count" ["book"] 3 (spW (fun _ (t : (List Int) × Unit) => [.d (cBook CBook) t.1]) 0 (fun t => m_check_count t.1) cNon) := by
  refine cal_WN (N := ["book"]) (ps := (fun (t : (List Int) × Unit) => [.d (cBook CBook) t.1])) (n := ⟨[0], fun _ => [.un]⟩) E.D_check_count (fun _ _ _ _ _ _ us hl => match us, hl with | [_], _ => rfl) ⟨rfl, rfl, rfl, by decide +kernel, rfl, by decide +kernel, by decide +kernel⟩ (fun _ => rfl) (by decide) (fun _ => trivial) fun t => ?_
  obtain ⟨book0, _⟩ := t
  refine' PB.of ?h ?e ?hk
  case h => exact vb_ctx (Γ' := [.d (cBook CBook) book0]) rfl (vb_ifR (tcmpW (fun _ _ => op_gt) (xmet0 (c_m_Book_count E) E.kBook.cl (show (2 : Nat) ≤ 2 by decide) (xname (i := 0) rfl rfl (.inl rfl)) (hnoBook (by decide +kernel)) (fun _ => rfl) (fun _ => rfl)) (xof (pd_glob (v := .int 100) (c := cInt) (y := 100) rfl E.g_MOST_TEXTS.choose_spec ⟨_, rfl⟩ (fun _ => rfl))) (fun _ _ => rw0 rd_B0) (nomark _)) vb_raise (vb_nil () rfl))
  case e => rfl
  case hk => decide
theorem c_m_touching (E : All P w K mg base CBook CWish) : Cal P w K mg base "touching" ["wish", "places"] 1 (spW (fun _ (t : ((List Int) × (List ((List Int) × (List Int)))) × (List Int) × Unit) => [.d (cWish CBook CWish) t.1, .d (cSeq cInt) t.2.1]) 0 (fun t => m_touching t.1 t.2.1) (cList (cT2 (cTup cInt) (cTup cInt)))) := by
  refine cal_W (N := ["wish", "places", "table", "place"]) E.D_touching (fun _ _ _ _ _ _ us hl => match us, hl with | [_, _], _ => rfl) ⟨rfl, rfl, rfl, by decide +kernel, rfl, by decide +kernel, by decide +kernel⟩ (fun _ _ => rfl) (by decide) (fun _ _ => trivial) fun z t => ?_
  obtain ⟨wish0, places0, _⟩ := t
  refine' PB.of ?h ?e ?hk
  case h => exact vb_ctx (Γ' := [.d (cWish CBook CWish) wish0, .d (cSeq cInt) places0, .un, .un]) rfl (vb_ret (PWF.d (xlc (fiP [("table", 2)] (iT (xWish_tables E (xname (i := 0) rfl rfl (.inl rfl)) (fun _ => rfl))) (by trivial) (fun (x1 : (List Int) × (List Int)) => ⟨_, _, (pdg_name (i := 2) (by trivial) rfl (.inr rfl) (.inl rfl)), (fun _ h => h), (c1W (tval (xany rfl E.b_any (PWF.d (xlc (maP [("place", 3)] (iS (xname (i := 1) rfl rfl (.inr (.inl rfl)))) (by trivial) (fun (x2 : Int) => ⟨_, _, (pdg_name (i := 3) (by trivial) rfl (.inl rfl) (.inr rfl)), (fun _ h => h), (xcmp op_inG (xname (i := 3) rfl rfl (.inl rfl)) (xixP ixTG (fun _ => rd_ix2_0) (xname (i := 2) rfl rfl (.inr (.inl rfl))) (xint (i := 0)) (fun _ _ => rfl)) (fun _ _ => rw0 rd_inIT0) rfl)⟩)) (by kernel_rfl) (fun _ _ => rfl))) (fun _ => rfl)) (fun _ _ => rfl))), (xname (i := 2) rfl rfl (.inr (.inl rfl)))⟩)) (by kernel_rfl) (fun _ _ => rfl))))
  case e => rfl
  case hk => decide
theorem c_m_asked_places (E : All P w K mg base CBook CWish) : Cal P w K mg base "asked_places" ["wish", "places"] 2 (spW (fun _ (t : ((List Int) × (List ((List Int) × (List Int)))) × (List Int) × Unit) => [.d (cWish CBook CWish) t.1, .d (cSeq cInt) t.2.1]) 0 (fun t => m_asked_places t.1 t.2.1) (cList cInt)) := by
  refine cal_W (N := ["wish", "places", "every", "table", "place"]) E.D_asked_places (fun _ _ _ _ _ _ us hl => match us, hl with | [_, _], _ => rfl) ⟨rfl, rfl, rfl, by decide +kernel, rfl, by decide +kernel, by decide +kernel⟩ (fun _ _ => rfl) (by decide) (fun _ _ => trivial) fun z t => ?_
  obtain ⟨wish0, places0, _⟩ := t
  refine' PB.of ?h ?e ?hk
  case h => exact vb_ctx (Γ' := [.d (cWish CBook CWish) wish0, .d (cSeq cInt) places0, .un, .un, .un]) rfl (vb_setLc2 2 [("table", 3), ("place", 4)] [4] (lc2W [("table", 3), ("place", 4)] [4] rfl (iL (xcal 0 (c_m_touching E) (show (1 : Nat) ≤ 1 by decide) rfl (aC (xname (i := 0) rfl rfl (.inl rfl)) (aC (xname (i := 1) rfl rfl (.inl rfl)) aN (fun _ => rfl)) (fun _ => rfl)) (fun _ => rfl) (fun _ => rfl))) (fun (x2 : (List Int) × (List Int)) => ⟨_, _, (pdg_name (i := 3) (by trivial) rfl (.inl rfl) (.inr rfl)), rfl, (by decide), (iT (xixP ixTG (fun _ => rd_ix2_0) (xname (i := 3) rfl rfl (.inl rfl)) (xint (i := 0)) (fun _ _ => rfl))), fun (y3 : Int) => ⟨_, _, (pdg_name (i := 4) (by trivial) rfl (.inl rfl) (.inr rfl)), (by decide), (xname (i := 4) rfl rfl (.inl rfl))⟩⟩)) (by trivial) (by decide) rfl rfl (fun env he => by cases env; cases he; rfl) (by kernel_rfl) (fun _ _ => rfl) (fun _ _ => rfl) (fun every_1 => vb_ctx (Γ' := [.d (cWish CBook CWish) wish0, .d (cSeq cInt) places0, .d (cList cInt) every_1, .un, .un]) rfl (vb_ret (PWF.d (xsortBig rfl E.b_sorted (xset rfl E.b_set (xseqL (PWF.d (xcat (xname (i := 2) rfl rfl (.inl rfl)) (PWF.d (xlist rfl E.b_list (xname (i := 1) rfl rfl (.inl rfl)) (fun _ => rfl)))))) (fun _ => rfl)) (fun _ => rfl))))))
  case e => rfl
  case hk => decide
theorem c_m_check_asked (E : All P w K mg base CBook CWish) : Cal P w K mg base "check_asked" ["wish", "places"] 7 (spW (fun _ (t : ((List Int) × (List ((List Int) × (List Int)))) × (List Int) × Unit) => [.d (cWish CBook CWish) t.1, .d (cSeq cInt) t.2.1]) 0 (fun t => m_check_asked t.1 t.2.1) cNon) := by
  refine cal_WN (N := ["wish", "places", "count"]) (ps := (fun (t : ((List Int) × (List ((List Int) × (List Int)))) × (List Int) × Unit) => [.d (cWish CBook CWish) t.1, .d (cSeq cInt) t.2.1])) (n := ⟨[0, 1, 2], fun _ => [.un, .un, .un]⟩) E.D_check_asked (fun _ _ _ _ _ _ us hl => match us, hl with | [_, _], _ => rfl) ⟨rfl, rfl, rfl, by decide +kernel, rfl, by decide +kernel, by decide +kernel⟩ (fun _ => rfl) (by decide) (fun _ => trivial) fun t => ?_
  obtain ⟨wish0, places0, _⟩ := t
  refine' PB.of ?h ?e ?hk
  case h => exact vb_ctx (Γ' := [.d (cWish CBook CWish) wish0, .d (cSeq cInt) places0, .un]) rfl (vb_drop (xcal 0 (c_m_check_places E) (show (6 : Nat) ≤ 6 by decide) rfl (aC (xWish_book E (xname (i := 0) rfl rfl (.inl rfl)) (fun _ => rfl)) (aC (xname (i := 1) rfl rfl (.inl rfl)) aN (fun _ => rfl)) (fun _ => rfl)) (fun _ => rfl) (fun _ => rfl)) (fun env he => by cases env; cases he; rfl) (fun v1 => (vb_set 2 (xcal 0 (c_m_count_rows E) (show (2 : Nat) ≤ 6 by decide) rfl (aC (xWish_book E (xname (i := 0) rfl rfl (.inl rfl)) (fun _ => rfl)) (aC (xseqL (xcal 0 (c_m_asked_places E) (show (2 : Nat) ≤ 6 by decide) rfl (aC (xname (i := 0) rfl rfl (.inl rfl)) (aC (xname (i := 1) rfl rfl (.inl rfl)) aN (fun _ => rfl)) (fun _ => rfl)) (fun _ => rfl) (fun _ => rfl))) aN (fun _ => rfl)) (fun _ => rfl)) (fun _ => rfl) (fun _ => rfl)) (by trivial) rfl (.inl rfl) (fun env he => by cases env; cases he; rfl) (.inl rfl) (fun count_2 => vb_ctx (Γ' := [.d (cWish CBook CWish) wish0, .d (cSeq cInt) places0, .d cInt count_2]) rfl (vb_ifR (tcmpW (fun _ _ => op_gt) (xname (i := 2) rfl rfl (.inl rfl)) (xof (pd_glob (v := .int 100) (c := cInt) (y := 100) rfl E.g_MOST_TEXTS.choose_spec ⟨_, rfl⟩ (fun _ => rfl))) (fun _ _ => rw0 rd_B0) (nomark _)) vb_raise (vb_nil () rfl))))))
  case e => rfl
  case hk => decide
end
end K18

set_option Elab.async false
set_option linter.all false
set_option maxRecDepth 100000
set_option maxHeartbeats 4000000
namespace K18
open PySem PySem.Spec L2 DL
section
variable {P : Program} {w : World} {K : PySem.W.Frag} {mg : Str → Option Value} {base : Heap} {CBook CWish : Addr}
theorem c_m_left_out (E : All P w K mg base CBook CWish) : Cal P w K mg base "left_out" ["wish", "places"] 3 (spW (fun _ (t : ((List Int) × (List ((List Int) × (List Int)))) × (List Int) × Unit) => [.d (cWish CBook CWish) t.1, .d (cSeq cInt) t.2.1]) 0 (fun t => m_left_out t.1 t.2.1) (cList cInt)) := by
  refine cal_W (N := ["wish", "places", "place"]) E.D_left_out (fun _ _ _ _ _ _ us hl => match us, hl with | [_, _], _ => rfl) ⟨rfl, rfl, rfl, by decide +kernel, rfl, by decide +kernel, by decide +kernel⟩ (fun _ _ => rfl) (by decide) (fun _ _ => trivial) fun z t => ?_
  obtain ⟨wish0, places0, _⟩ := t
  refine' PB.of ?h ?e ?hk
  case h => exact vb_ctx (Γ' := [.d (cWish CBook CWish) wish0, .d (cSeq cInt) places0, .un]) rfl (vb_ret (PWF.d (xlc (fiP [("place", 2)] (iL (xcal 0 (c_m_asked_places E) (show (2 : Nat) ≤ 2 by decide) rfl (aC (xname (i := 0) rfl rfl (.inl rfl)) (aC (xname (i := 1) rfl rfl (.inr (.inl rfl))) aN (fun _ => rfl)) (fun _ => rfl)) (fun _ => rfl) (fun _ => rfl))) (by trivial) (fun (x1 : Int) => ⟨_, _, (pdg_name (i := 2) (by trivial) rfl (.inl rfl) (.inr rfl)), (fun _ h => h), (c1W (tcmpW op_notInG (xname (i := 2) rfl rfl (.inl rfl)) (xname (i := 1) rfl rfl (.inr (.inl rfl))) (fun _ _ => rw0 rd_inQ1) rfl)), (xname (i := 2) rfl rfl (.inl rfl))⟩)) (by kernel_rfl) (fun _ _ => rfl))))
  case e => rfl
  case hk => decide
theorem c_m_steps_of (E : All P w K mg base CBook CWish) : Cal P w K mg base "steps_of" ["book", "places"] 1 (spW (fun _ (t : (List Int) × (List Int) × Unit) => [.d (cBook CBook) t.1, .d (cTup cInt) t.2.1]) 0 (fun t => m_steps_of t.1 t.2.1) (cDic cInt)) := by
  refine cal_W (N := ["book", "places", "found", "step", "place"]) E.D_steps_of (fun _ _ _ _ _ _ us hl => match us, hl with | [_, _], _ => rfl) ⟨rfl, rfl, rfl, by decide +kernel, rfl, by decide +kernel, by decide +kernel⟩ (fun _ _ => rfl) (by decide) (fun _ _ => trivial) fun z t => ?_
  obtain ⟨book0, places0, _⟩ := t
  refine' PB.of ?h ?e ?hk
  case h => exact vb_ctx (Γ' := [.d (cBook CBook) book0, .d (cTup cInt) places0, .un, .un, .un]) rfl (vb_par 2 3 xnewD (PW.px (xint (i := 1))) (by trivial) (by trivial) (by decide) rfl rfl rfl rfl (fun _ => rfl) (fun _ => rfl) (fun env he => by cases env; cases he; rfl) (fun env he => by cases env; cases he; rfl) (fun found_1 step_2 => vb_ctx (Γ' := [.d (cBook CBook) book0, .d (cTup cInt) places0, .r (opD cInt ([] : List (Int × Int))), .d cInt step_2, .un]) rfl (vb_for (⟨[4], fun (s3 : (List (Int × Int)) × Int) => [.d (cBook CBook) book0, .d (cTup cInt) places0, .r (opD cInt s3.1), .d cInt s3.2, .un]⟩ : En ((List (Int × Int)) × Int)) (([] : List (Int × Int)), step_2) rfl (iL (PWF.d (xofF (prev (PW.pd (PWF.d (xlist rfl E.b_list (xseqT (xname (i := 1) rfl rfl (.inl rfl))) (fun _ => rfl)))))))) (fun (s3 : (List (Int × Int)) × Int) (place_4 : Int) => ⟨_, _, (pdg_name (i := 4) (by trivial) rfl (.inl rfl) (.inl rfl)), (by trivial), vb_ctx (Γ' := [.d (cBook CBook) book0, .d (cTup cInt) places0, .r (opD cInt s3.1), .d cInt s3.2, .d cInt place_4]) rfl (vb_putD 2 rfl (xname (i := 3) rfl rfl (.inl rfl)) (xname (i := 4) rfl rfl (.inl rfl)) rfl (.inl rfl) (fun _ => rfl) (fun v9 i10 => vb_ctx (Γ' := [.d (cBook CBook) book0, .d (cTup cInt) places0, .r (opD cInt (putD s3.1 i10 v9)), .d cInt s3.2, .d cInt place_4]) rfl (vb_set 3 (xmul (xname (i := 3) rfl rfl (.inl rfl)) (xix ixTG (xBook_sizes E (xname (i := 0) rfl rfl (.inl rfl)) (fun _ => rfl)) (xname (i := 4) rfl rfl (.inl rfl)) (fun _ _ => ixT) (fun _ _ => rfl))) (by trivial) rfl (.inl rfl) (fun env he => by cases env; cases he; rfl) (.inl rfl) (fun step_11 => vb_ctx (Γ' := [.d (cBook CBook) book0, .d (cTup cInt) places0, .r (opD cInt (putD s3.1 i10 v9)), .d cInt step_11, .d cInt place_4]) rfl (vb_nil (putD s3.1 i10 v9, step_11) rfl)))))⟩) (fun _ _ => rfl) (fun s3 => (vb_freezeD 2 rfl (by trivial) (vb_ctx (Γ' := [.d (cBook CBook) book0, .d (cTup cInt) places0, .d (cDic cInt) s3.1, .d cInt s3.2, .un]) rfl (vb_ret (xname (i := 2) rfl rfl (.inl rfl)))))))))
  case e => rfl
  case hk => decide
theorem c_m_moved (E : All P w K mg base CBook CWish) : Cal P w K mg base "moved" ["steps", "places", "rows"] 1 (spW (fun _ (t : (List (Int × Int)) × (List Int) × (List (List Int)) × Unit) => [.d (cDic cInt) t.1, .d (cSeq cInt) t.2.1, .d (cList (cTup cInt)) t.2.2.1]) 0 (fun t => m_moved t.1 t.2.1 t.2.2.1) (cList cInt)) := by
  refine cal_W (N := ["steps", "places", "rows", "found", "at", "place", "step", "row", "index"]) E.D_moved (fun _ _ _ _ _ _ us hl => match us, hl with | [_, _, _], _ => rfl) ⟨rfl, rfl, rfl, by decide +kernel, rfl, by decide +kernel, by decide +kernel⟩ (fun _ _ => rfl) (by decide) (fun _ _ => trivial) fun z t => ?_
  obtain ⟨steps0, places0, rows0, _⟩ := t
  refine' PB.of ?h ?e ?hk
  case h => exact vb_ctx (Γ' := [.d (cDic cInt) steps0, .d (cSeq cInt) places0, .d (cList (cTup cInt)) rows0, .un, .un, .un, .un, .un, .un]) rfl (vb_setLc 3 [("row", 7)] (maP [("row", 7)] (iL (xname (i := 2) rfl rfl (.inl rfl))) (by trivial) (fun (x2 : List Int) => ⟨_, _, (pdg_name (i := 7) (by trivial) rfl (.inl rfl) (.inr rfl)), (fun _ h => h), (xint (i := 0))⟩)) (by trivial) rfl rfl rfl rfl rfl (by kernel_rfl) (fun _ _ => rfl) (fun found_1 => vb_ctx (Γ' := [.d (cDic cInt) steps0, .d (cSeq cInt) places0, .d (cList (cTup cInt)) rows0, .d (cList cInt) found_1, .un, .un, .un, .un, .un]) rfl (vb_for (⟨[6, 4, 5], fun (s3 : (List Int)) => [.d (cDic cInt) steps0, .d (cSeq cInt) places0, .d (cList (cTup cInt)) rows0, .d (cList cInt) s3, .un, .un, .un, .un, .un]⟩ : En ((List Int))) found_1 rfl (iEnum_ rfl E.b_enumerate (xname (i := 1) rfl rfl (.inl rfl)) (fun _ => rfl)) (fun (s3 : (List Int)) (at_4 : Int × Int) => ⟨_, _, (pdg_t2 (pdg_name (i := 4) (by trivial) rfl (.inr rfl) (.inl rfl)) (pdg_name (i := 5) (by trivial) rfl (.inl rfl) (.inl rfl)) (fun _ => rfl) (fun _ => rfl) (fun _ => rfl) (fun _ => rfl)), (by trivial), vb_ctx (Γ' := [.d (cDic cInt) steps0, .d (cSeq cInt) places0, .d (cList (cTup cInt)) rows0, .d (cList cInt) s3, .d cInt at_4.1, .d cInt at_4.2, .un, .un, .un]) rfl (vb_set 6 (xof (pdget2 (PW.pd (xname (i := 0) rfl rfl (.inl rfl))) (PW.pd (xname (i := 5) rfl rfl (.inl rfl))) (PW.pd (xint (i := 0))) (fun _ => ⟨rfl, rfl, rfl, rfl⟩))) (by trivial) rfl (.inr rfl) (fun env he => sw_cell rfl env he) (.inl rfl) (fun step_9 => vb_ctx (Γ' := [.d (cDic cInt) steps0, .d (cSeq cInt) places0, .d (cList (cTup cInt)) rows0, .d (cList cInt) s3, .d cInt at_4.1, .d cInt at_4.2, .d cInt step_9, .un, .un]) rfl (vb_setLc 3 [("index", 8), ("row", 7)] (map0 [("index", 8), ("row", 7)] (iZip_ rfl E.b_zip (xname (i := 3) rfl rfl (.inl rfl)) (xname (i := 2) rfl rfl (.inl rfl)) (fun _ => rfl) (fun _ => rfl) (fun _ => rfl)) (by trivial) (fun (x11 : Int × (List Int)) => ⟨_, _, (pdg_t2 (pdg_name (i := 8) (by trivial) rfl (.inl rfl) (.inr rfl)) (pdg_name (i := 7) (by trivial) rfl (.inl rfl) (.inr rfl)) (fun _ => rfl) (fun _ => rfl) (fun _ => rfl) (fun _ => rfl)), (fun _ h => h), (xbin (fun _ _ => op_add) (xname (i := 8) rfl rfl (.inl rfl)) (xmul (xname (i := 6) rfl rfl (.inr (.inl rfl))) (xix ixTG (xname (i := 7) rfl rfl (.inl rfl)) (xname (i := 4) rfl rfl (.inr (.inl rfl))) (fun _ _ => ixT) (fun _ _ => rfl))) (fun _ _ => rw0 rd_I0))⟩)) (by trivial) rfl rfl rfl rfl rfl (by kernel_rfl) (fun _ _ => rfl) (fun found_10 => vb_ctx (Γ' := [.d (cDic cInt) steps0, .d (cSeq cInt) places0, .d (cList (cTup cInt)) rows0, .d (cList cInt) found_10, .d cInt at_4.1, .d cInt at_4.2, .d cInt step_9, .un, .un]) rfl (vb_nil found_10 rfl)))))⟩) (fun _ _ => rfl) (fun s3 => (vb_ret (xname (i := 3) rfl rfl (.inl rfl)))))))
  case e => rfl
  case hk => decide
theorem c_m_worths_by (E : All P w K mg base CBook CWish) : Cal P w K mg base "worths_by" ["wish", "places", "others"] 2 (spW (fun _ (t : ((List Int) × (List ((List Int) × (List Int)))) × (List Int) × (List Int) × Unit) => [.d (cWish CBook CWish) t.1, .d (cSeq cInt) t.2.1, .d (cList cInt) t.2.2.1]) 0 (fun t => m_worths_by t.1 t.2.1 t.2.2.1) (cDt P w (cList cInt))) := by
  refine cal_W (N := ["wish", "places", "others", "rows", "beside", "lines", "table", "worths", "steps", "ours", "theirs", "at", "index", "rest", "row", "worth", "more"]) E.D_worths_by (fun _ _ _ _ _ _ us hl => match us, hl with | [_, _, _], _ => rfl) ⟨rfl, rfl, rfl, by decide +kernel, rfl, by decide +kernel, by decide +kernel⟩ (fun _ _ => rfl) (by decide) (fun _ _ => trivial) fun z t => ?_
  obtain ⟨wish0, places0, others0, _⟩ := t
  refine' PB.of ?h ?e ?hk
  case h => exact vb_ctx (Γ' := [.d (cWish CBook CWish) wish0, .d (cSeq cInt) places0, .d (cList cInt) others0, .un, .un, .un, .un, .un, .un, .un, .un, .un, .un, .un, .un, .un, .un]) rfl (vb_unpack (xt2 (aC (xcal 0 (c_m_rows_at E) (show (1 : Nat) ≤ 1 by decide) rfl (aC (xWish_book E (xname (i := 0) rfl rfl (.inl rfl)) (fun _ => rfl)) (aC (xname (i := 1) rfl rfl (.inl rfl)) aN (fun _ => rfl)) (fun _ => rfl)) (fun _ => rfl) (fun _ => rfl)) (aC (xcal 0 (c_m_rows_at E) (show (1 : Nat) ≤ 1 by decide) rfl (aC (xWish_book E (xname (i := 0) rfl rfl (.inl rfl)) (fun _ => rfl)) (aC (xseqL (xname (i := 2) rfl rfl (.inl rfl))) aN (fun _ => rfl)) (fun _ => rfl)) (fun _ => rfl) (fun _ => rfl)) aN (fun _ => rfl)) (fun _ => rfl))) (fun env he => by cases env; cases he; rfl) (fun env he => by cases env; cases he; rfl) (fun _ => rfl) (fun v1 => ⟨_, _, (pdg_t2 (pdg_name (i := 3) (by trivial) rfl (.inr rfl) (.inl rfl)) (pdg_name (i := 4) (by trivial) rfl (.inl rfl) (.inl rfl)) (fun _ => rfl) (fun _ => rfl) (fun _ => rfl) (fun _ => rfl)), (vb_ctx (Γ' := [.d (cWish CBook CWish) wish0, .d (cSeq cInt) places0, .d (cList cInt) others0, .d (cList (cTup cInt)) v1.1, .d (cList (cTup cInt)) v1.2, .un, .un, .un, .un, .un, .un, .un, .un, .un, .un, .un, .un]) rfl (vb_setLcO 5 [("rest", 13)] (maP [("rest", 13)] (iL (xname (i := 4) rfl rfl (.inl rfl))) (by trivial) (fun (x3 : List Int) => ⟨_, _, (pdg_name (i := 13) (by trivial) rfl (.inl rfl) (.inr rfl)), (fun _ h => h), (PWF.d (xlc (maP [("row", 14)] (iL (xname (i := 3) rfl rfl (.inr (.inl rfl)))) (by trivial) (fun (x4 : List Int) => ⟨_, _, (pdg_name (i := 14) (by trivial) rfl (.inl rfl) (.inr rfl)), (fun _ h => h), (xint (i := 0))⟩)) (by kernel_rfl) (fun _ _ => rfl)))⟩)) (by trivial) rfl rfl rfl rfl rfl (by kernel_rfl) (fun _ _ => rfl) (fun lines_2 => vb_ctx (Γ' := [.d (cWish CBook CWish) wish0, .d (cSeq cInt) places0, .d (cList cInt) others0, .d (cList (cTup cInt)) v1.1, .d (cList (cTup cInt)) v1.2, .l (cList cInt) lines_2, .un, .un, .un, .un, .un, .un, .un, .un, .un, .un, .un]) rfl (vb_for (⟨[8, 9, 10, 11, 12, 6, 7], fun (s5 : (List (List Int))) => [.d (cWish CBook CWish) wish0, .d (cSeq cInt) places0, .d (cList cInt) others0, .d (cList (cTup cInt)) v1.1, .d (cList (cTup cInt)) v1.2, .l (cList cInt) s5, .un, .un, .un, .un, .un, .un, .un, .un, .un, .un, .un]⟩ : En ((List (List Int)))) lines_2 rfl (iL (xcal 0 (c_m_touching E) (show (1 : Nat) ≤ 1 by decide) rfl (aC (xname (i := 0) rfl rfl (.inl rfl)) (aC (xname (i := 1) rfl rfl (.inl rfl)) aN (fun _ => rfl)) (fun _ => rfl)) (fun _ => rfl) (fun _ => rfl))) (fun (s5 : (List (List Int))) (table_6 : (List Int) × (List Int)) => ⟨_, _, (pdg_t2 (pdg_name (i := 6) (by trivial) rfl (.inl rfl) (.inl rfl)) (pdg_name (i := 7) (by trivial) rfl (.inr rfl) (.inl rfl)) (fun _ => rfl) (fun _ => rfl) (fun _ => rfl) (fun _ => rfl)), (by trivial), vb_ctx (Γ' := [.d (cWish CBook CWish) wish0, .d (cSeq cInt) places0, .d (cList cInt) others0, .d (cList (cTup cInt)) v1.1, .d (cList (cTup cInt)) v1.2, .l (cList cInt) s5, .d (cTup cInt) table_6.1, .d (cTup cInt) table_6.2, .un, .un, .un, .un, .un, .un, .un, .un, .un]) rfl (vb_set 8 (xcal 0 (c_m_steps_of E) (show (1 : Nat) ≤ 1 by decide) rfl (aC (xWish_book E (xname (i := 0) rfl rfl (.inl rfl)) (fun _ => rfl)) (aC (xname (i := 6) rfl rfl (.inl rfl)) aN (fun _ => rfl)) (fun _ => rfl)) (fun _ => rfl) (fun _ => rfl)) (by trivial) rfl (.inl rfl) (fun env he => by cases env; cases he; rfl) (.inl rfl) (fun steps_11 => vb_ctx (Γ' := [.d (cWish CBook CWish) wish0, .d (cSeq cInt) places0, .d (cList cInt) others0, .d (cList (cTup cInt)) v1.1, .d (cList (cTup cInt)) v1.2, .l (cList cInt) s5, .d (cTup cInt) table_6.1, .d (cTup cInt) table_6.2, .d (cDic cInt) steps_11, .un, .un, .un, .un, .un, .un, .un, .un]) rfl (vb_par 9 10 (PW.px (xcal 0 (c_m_moved E) (show (1 : Nat) ≤ 1 by decide) rfl (aC (xname (i := 8) rfl rfl (.inl rfl)) (aC (xname (i := 1) rfl rfl (.inl rfl)) (aC (xname (i := 3) rfl rfl (.inr (.inl rfl))) aN (fun _ => rfl)) (fun _ => rfl)) (fun _ => rfl)) (fun _ => rfl) (fun _ => rfl))) (PW.px (xcal 0 (c_m_moved E) (show (1 : Nat) ≤ 1 by decide) rfl (aC (xname (i := 8) rfl rfl (.inl rfl)) (aC (xseqL (xname (i := 2) rfl rfl (.inl rfl))) (aC (xname (i := 4) rfl rfl (.inl rfl)) aN (fun _ => rfl)) (fun _ => rfl)) (fun _ => rfl)) (fun _ => rfl) (fun _ => rfl))) (by trivial) (by trivial) (by decide) rfl rfl rfl rfl (fun _ => rfl) (fun _ => rfl) (fun env he => by cases env; cases he; rfl) (fun env he => by cases env; cases he; rfl) (fun ours_12 theirs_13 => vb_ctx (Γ' := [.d (cWish CBook CWish) wish0, .d (cSeq cInt) places0, .d (cList cInt) others0, .d (cList (cTup cInt)) v1.1, .d (cList (cTup cInt)) v1.2, .l (cList cInt) s5, .d (cTup cInt) table_6.1, .d (cTup cInt) table_6.2, .d (cDic cInt) steps_11, .d (cList cInt) ours_12, .d (cList cInt) theirs_13, .un, .un, .un, .un, .un, .un]) rfl (vb_for (⟨[11, 12], fun (s14 : (List (List Int))) => [.d (cWish CBook CWish) wish0, .d (cSeq cInt) places0, .d (cList cInt) others0, .d (cList (cTup cInt)) v1.1, .d (cList (cTup cInt)) v1.2, .l (cList cInt) s14, .d (cTup cInt) table_6.1, .d (cTup cInt) table_6.2, .d (cDic cInt) steps_11, .d (cList cInt) ours_12, .d (cList cInt) theirs_13, .un, .un, .un, .un, .un, .un]⟩ : En ((List (List Int)))) s5 rfl (iEnum_ rfl E.b_enumerate (xseqL (xname (i := 10) rfl rfl (.inl rfl))) (fun _ => rfl)) (fun (s14 : (List (List Int))) (at_15 : Int × Int) => ⟨_, _, (pdg_t2 (pdg_name (i := 11) (by trivial) rfl (.inl rfl) (.inl rfl)) (pdg_name (i := 12) (by trivial) rfl (.inr rfl) (.inl rfl)) (fun _ => rfl) (fun _ => rfl) (fun _ => rfl) (fun _ => rfl)), (by trivial), vb_ctx (Γ' := [.d (cWish CBook CWish) wish0, .d (cSeq cInt) places0, .d (cList cInt) others0, .d (cList (cTup cInt)) v1.1, .d (cList (cTup cInt)) v1.2, .l (cList cInt) s14, .d (cTup cInt) table_6.1, .d (cTup cInt) table_6.2, .d (cDic cInt) steps_11, .d (cList cInt) ours_12, .d (cList cInt) theirs_13, .d cInt at_15.1, .d cInt at_15.2, .un, .un, .un, .un]) rfl (vb_setItem 5 rfl (PWF.d (xlc (map0 [("worth", 15), ("more", 16)] (iZip_ rfl E.b_zip (xixO 5 rfl rfl (.inl rfl) (xname (i := 11) rfl rfl (.inl rfl)) (fun _ _ => rfl)) (xname (i := 9) rfl rfl (.inl rfl)) (fun _ => rfl) (fun _ => rfl) (fun _ => rfl)) (by trivial) (fun (x20 : Int × Int) => ⟨_, _, (pdg_t2 (pdg_name (i := 15) (by trivial) rfl (.inl rfl) (.inr rfl)) (pdg_name (i := 16) (by trivial) rfl (.inl rfl) (.inr rfl)) (fun _ => rfl) (fun _ => rfl) (fun _ => rfl) (fun _ => rfl)), (fun _ h => h), (xbin (fun _ _ => op_add) (xname (i := 15) rfl rfl (.inl rfl)) (xix ixTG (xname (i := 7) rfl rfl (.inr (.inl rfl))) (xbin (fun _ _ => op_add) (xname (i := 12) rfl rfl (.inr (.inl rfl))) (xname (i := 16) rfl rfl (.inl rfl)) (fun _ _ => rw0 rd_I0)) (fun _ _ => ixT) (fun _ _ => rfl)) (fun _ _ => rw0 rd_I0))⟩)) (by kernel_rfl) (fun _ _ => rfl))) (xname (i := 11) rfl rfl (.inl rfl)) rfl (.inl rfl) (fun _ _ => rfl) (fun _ => rfl) (fun _ => rfl) (fun _ => rfl) (fun v21 i22 => vb_ctx (Γ' := [.d (cWish CBook CWish) wish0, .d (cSeq cInt) places0, .d (cList cInt) others0, .d (cList (cTup cInt)) v1.1, .d (cList (cTup cInt)) v1.2, .l (cList cInt) (s14.set (ixS s14.length i22) v21), .d (cTup cInt) table_6.1, .d (cTup cInt) table_6.2, .d (cDic cInt) steps_11, .d (cList cInt) ours_12, .d (cList cInt) theirs_13, .d cInt at_15.1, .d cInt at_15.2, .un, .un, .un, .un]) rfl (vb_nil (s14.set (ixS s14.length i22) v21) rfl)))⟩) (fun _ _ => rfl) (fun s14 => (vb_nil s14 rfl)))))))⟩) (fun _ _ => rfl) (fun s5 => (vb_freeze 5 rfl (by trivial) (vb_ctx (Γ' := [.d (cWish CBook CWish) wish0, .d (cSeq cInt) places0, .d (cList cInt) others0, .d (cList (cTup cInt)) v1.1, .d (cList (cTup cInt)) v1.2, .d (cList (cList cInt)) s5, .un, .un, .un, .un, .un, .un, .un, .un, .un, .un, .un]) rfl (vb_ret (xdictZip rfl E.b_dict rfl E.b_zip (xname (i := 4) rfl rfl (.inl rfl)) (xname (i := 5) rfl rfl (.inl rfl)) (fun _ => rfl) (fun _ => rfl) (fun _ => rfl) (fun _ => rfl))))))))))⟩))
  case e => rfl
  case hk => decide
theorem c_m_joined (E : All P w K mg base CBook CWish) : Cal P w K mg base "joined" ["wish", "places"] 4 (spW (fun _ (t : ((List Int) × (List ((List Int) × (List Int)))) × (List Int) × Unit) => [.d (cWish CBook CWish) t.1, .d (cSeq cInt) t.2.1]) 0 (fun t => m_joined t.1 t.2.1) (cOpt (cT2 (cList (cTup cInt)) (cList (cTup cInt))))) := by
  refine cal_W (N := ["wish", "places", "others", "orders", "rows", "first", "rest", "order", "pair", "line"]) E.D_joined (fun _ _ _ _ _ _ us hl => match us, hl with | [_, _], _ => rfl) ⟨rfl, rfl, rfl, by decide +kernel, rfl, by decide +kernel, by decide +kernel⟩ (fun _ _ => rfl) (by decide) (fun _ _ => trivial) fun z t => ?_
  obtain ⟨wish0, places0, _⟩ := t
  refine' PB.of ?h ?e ?hk
  case h => exact vb_ctx (Γ' := [.d (cWish CBook CWish) wish0, .d (cSeq cInt) places0, .un, .un, .un, .un, .un, .un, .un, .un]) rfl (vb_set 2 (xcal 0 (c_m_left_out E) (show (3 : Nat) ≤ 3 by decide) rfl (aC (xname (i := 0) rfl rfl (.inl rfl)) (aC (xname (i := 1) rfl rfl (.inl rfl)) aN (fun _ => rfl)) (fun _ => rfl)) (fun _ => rfl) (fun _ => rfl)) (by trivial) rfl (.inl rfl) (fun env he => by cases env; cases he; rfl) (.inl rfl) (fun others_1 => vb_ctx (Γ' := [.d (cWish CBook CWish) wish0, .d (cSeq cInt) places0, .d (cList cInt) others_1, .un, .un, .un, .un, .un, .un, .un]) rfl (vb_setDcT 3 [("rest", 6), ("line", 9)] (iItemsT (xcal 0 (c_m_worths_by E) (show (2 : Nat) ≤ 3 by decide) rfl (aC (xname (i := 0) rfl rfl (.inl rfl)) (aC (xname (i := 1) rfl rfl (.inl rfl)) (aC (xname (i := 2) rfl rfl (.inl rfl)) aN (fun _ => rfl)) (fun _ => rfl)) (fun _ => rfl)) (fun _ => rfl) (fun _ => rfl)) (fun _ => rfl) rfl) (by trivial) (by trivial) rfl rfl rfl rfl rfl (by kernel_rfl) (fun _ _ => rfl) (fun (x3 : (List Int) × (List Int)) => ⟨_, _, (pdg_t2 (pdg_name (i := 6) (by trivial) rfl (.inl rfl) (.inr rfl)) (pdg_name (i := 9) (by trivial) rfl (.inl rfl) (.inr rfl)) (fun _ => rfl) (fun _ => rfl) (fun _ => rfl) (fun _ => rfl)), (fun _ h => h), (xname (i := 6) rfl rfl (.inl rfl)), (xcal 0 (c_m_ranks E) (show (1 : Nat) ≤ 3 by decide) rfl (aC (xname (i := 9) rfl rfl (.inl rfl)) aN (fun _ => rfl)) (fun _ => rfl) (fun _ => rfl))⟩) (fun orders_2 => vb_ctx (Γ' := [.d (cWish CBook CWish) wish0, .d (cSeq cInt) places0, .d (cList cInt) others_1, .r (opT P w (cList cInt) orders_2), .un, .un, .un, .un, .un, .un]) rfl (vb_freezeT 3 rfl (by trivial) (vb_ctx (Γ' := [.d (cWish CBook CWish) wish0, .d (cSeq cInt) places0, .d (cList cInt) others_1, .d (cDt P w (cList cInt)) orders_2, .un, .un, .un, .un, .un, .un]) rfl (vb_par 4 5 (PW.px (xcal 0 (c_m_rows_at E) (show (1 : Nat) ≤ 3 by decide) rfl (aC (xWish_book E (xname (i := 0) rfl rfl (.inl rfl)) (fun _ => rfl)) (aC (xname (i := 1) rfl rfl (.inl rfl)) aN (fun _ => rfl)) (fun _ => rfl)) (fun _ => rfl) (fun _ => rfl))) (PW.px (xbin repAG (xtupP (c := cInt) (.cons (xint (i := 0)) .nil (fun _ => rfl)) (by simp)) (xlen rfl E.b_len (xseqL (xname (i := 2) rfl rfl (.inl rfl))) (fun _ => rfl)) (fun _ _ => repA))) (by trivial) (by trivial) (by decide) rfl rfl rfl rfl (fun _ => rfl) (fun _ => rfl) (fun env he => by cases env; cases he; rfl) (fun env he => by cases env; cases he; rfl) (fun rows_4 first_5 => vb_ctx (Γ' := [.d (cWish CBook CWish) wish0, .d (cSeq cInt) places0, .d (cList cInt) others_1, .d (cDt P w (cList cInt)) orders_2, .d (cList (cTup cInt)) rows_4, .d (cTup cInt) first_5, .un, .un, .un, .un]) rfl (vb_for (⟨[8, 6, 7], fun (s6 : Unit) => [.d (cWish CBook CWish) wish0, .d (cSeq cInt) places0, .d (cList cInt) others_1, .d (cDt P w (cList cInt)) orders_2, .d (cList (cTup cInt)) rows_4, .d (cTup cInt) first_5, .un, .un, .un, .un]⟩ : En (Unit)) () rfl (iItemsT (xname (i := 3) rfl rfl (.inl rfl)) (fun _ => rfl) rfl) (fun (s6 : Unit) (rest_7 : (List Int) × (List Int)) => ⟨_, _, (pdg_t2 (pdg_name (i := 6) (by trivial) rfl (.inl rfl) (.inl rfl)) (pdg_name (i := 7) (by trivial) rfl (.inl rfl) (.inl rfl)) (fun _ => rfl) (fun _ => rfl) (fun _ => rfl) (fun _ => rfl)), (by trivial), vb_ctx (Γ' := [.d (cWish CBook CWish) wish0, .d (cSeq cInt) places0, .d (cList cInt) others_1, .d (cDt P w (cList cInt)) orders_2, .d (cList (cTup cInt)) rows_4, .d (cTup cInt) first_5, .d (cTup cInt) rest_7.1, .d (cList cInt) rest_7.2, .un, .un]) rfl (vb_set 8 (xcal 0 (c_m_unlike_pair E) (show (2 : Nat) ≤ 3 by decide) rfl (aC (xgetT (xname (i := 3) rfl rfl (.inl rfl)) (xname (i := 5) rfl rfl (.inl rfl)) (fun _ _ => rfl)) (aC (xname (i := 7) rfl rfl (.inl rfl)) aN (fun _ => rfl)) (fun _ => rfl)) (fun _ => rfl) (fun _ => rfl)) (by trivial) rfl (.inl rfl) (fun env he => by cases env; cases he; rfl) (.inl rfl) (fun pair_12 => vb_ctx (Γ' := [.d (cWish CBook CWish) wish0, .d (cSeq cInt) places0, .d (cList cInt) others_1, .d (cDt P w (cList cInt)) orders_2, .d (cList (cTup cInt)) rows_4, .d (cTup cInt) first_5, .d (cTup cInt) rest_7.1, .d (cList cInt) rest_7.2, .d (cOpt (cT2 cInt cInt)) pair_12, .un]) rfl (vb_ifR (tcmpW (fun _ _ => op_notN) (xname (i := 8) rfl rfl (.inl rfl)) xnone (fun _ _ => rw0 (rd_notNO nn_t2)) rfl) (vb_some 8 rfl (by trivial) (fun y13 => vb_ctx (Γ' := [.d (cWish CBook CWish) wish0, .d (cSeq cInt) places0, .d (cList cInt) others_1, .d (cDt P w (cList cInt)) orders_2, .d (cList (cTup cInt)) rows_4, .d (cTup cInt) first_5, .d (cTup cInt) rest_7.1, .d (cList cInt) rest_7.2, .d (cT2 cInt cInt) y13, .un]) rfl (vb_ret (xsome (xt2 (aC (PWF.d (xlst (lC (xix ixLG (xname (i := 4) rfl rfl (.inl rfl)) (xixP ixTG (fun _ => rd_ix2_0) (xname (i := 8) rfl rfl (.inl rfl)) (xint (i := 0)) (fun _ _ => rfl)) (fun _ _ => ixL) (fun _ _ => rfl)) (lC (xix ixLG (xname (i := 4) rfl rfl (.inl rfl)) (xixP ixTG (fun _ => rd_ix2_1) (xname (i := 8) rfl rfl (.inl rfl)) (xint (i := 1)) (fun _ _ => rfl)) (fun _ _ => ixL) (fun _ _ => rfl)) lN (fun _ => rfl)) (fun _ => rfl)))) (aC (PWF.d (xlstP (c := (cTup cInt)) (.cons (xname (i := 5) rfl rfl (.inl rfl)) (.cons (xname (i := 6) rfl rfl (.inl rfl)) .nil (fun _ => rfl)) (fun _ => rfl)) (by simp))) aN (fun _ => rfl)) (fun _ => rfl))))))) (vb_nil () rfl))))⟩) (fun _ _ => rfl) (fun s6 => (vb_ret xnoneO)))))))))))
  case e => rfl
  case hk => decide
end
end K18

set_option Elab.async false
set_option linter.all false
set_option maxRecDepth 100000
set_option maxHeartbeats 4000000
namespace K18
open PySem PySem.Spec L2 DL
section
variable {P : Program} {w : World} {K : PySem.W.Frag} {mg : Str → Option Value} {base : Heap} {CBook CWish : Addr}
theorem c_m_is_apart (E : All P w K mg base CBook CWish) : Cal P w K mg base "is_apart" ["wish", "places"] 8 (spW (fun _ (t : ((List Int) × (List ((List Int) × (List Int)))) × (List Int) × Unit) => [.d (cWish CBook CWish) t.1, .d (cSeq cInt) t.2.1]) 0 (fun t => m_is_apart t.1 t.2.1) cBool) := by
  refine cal_W (N := ["wish", "places"]) E.D_is_apart (fun _ _ _ _ _ _ us hl => match us, hl with | [_, _], _ => rfl) ⟨rfl, rfl, rfl, by decide +kernel, rfl, by decide +kernel, by decide +kernel⟩ (fun _ _ => rfl) (by decide) (fun _ _ => trivial) fun z t => ?_
  obtain ⟨wish0, places0, _⟩ := t
  refine' PB.of ?h ?e ?hk
  case h => exact vb_ctx (Γ' := [.d (cWish CBook CWish) wish0, .d (cSeq cInt) places0]) rfl (vb_drop (xcal 0 (c_m_check_asked E) (show (7 : Nat) ≤ 7 by decide) rfl (aC (xname (i := 0) rfl rfl (.inl rfl)) (aC (xname (i := 1) rfl rfl (.inl rfl)) aN (fun _ => rfl)) (fun _ => rfl)) (fun _ => rfl) (fun _ => rfl)) (fun env he => by cases env; cases he; rfl) (fun v1 => (vb_ret (xcmp (fun _ _ => op_isN) (xcal 0 (c_m_joined E) (show (4 : Nat) ≤ 7 by decide) rfl (aC (xname (i := 0) rfl rfl (.inl rfl)) (aC (xname (i := 1) rfl rfl (.inl rfl)) aN (fun _ => rfl)) (fun _ => rfl)) (fun _ => rfl) (fun _ => rfl)) xnone (fun _ _ => rw0 (rd_isNO nn_t2)) rfl))))
  case e => rfl
  case hk => decide
theorem c_m_drawn_in (E : All P w K mg base CBook CWish) : Cal P w K mg base "drawn_in" ["wish", "places"] 4 (spW (fun _ (t : ((List Int) × (List ((List Int) × (List Int)))) × (List Int) × Unit) => [.d (cWish CBook CWish) t.1, .d (cList cInt) t.2.1]) 0 (fun t => m_drawn_in t.1 t.2.1) (cOpt cInt)) := by
  refine cal_W (N := ["wish", "places", "others", "orders", "at", "place", "rest", "order", "line"]) E.D_drawn_in (fun _ _ _ _ _ _ us hl => match us, hl with | [_, _], _ => rfl) ⟨rfl, rfl, rfl, by decide +kernel, rfl, by decide +kernel, by decide +kernel⟩ (fun _ _ => rfl) (by decide) (fun _ _ => trivial) fun z t => ?_
  obtain ⟨wish0, places0, _⟩ := t
  refine' PB.of ?h ?e ?hk
  case h => exact vb_ctx (Γ' := [.d (cWish CBook CWish) wish0, .d (cList cInt) places0, .un, .un, .un, .un, .un, .un, .un]) rfl (vb_set 2 (xcal 0 (c_m_left_out E) (show (3 : Nat) ≤ 3 by decide) rfl (aC (xname (i := 0) rfl rfl (.inl rfl)) (aC (xseqL (xname (i := 1) rfl rfl (.inl rfl))) aN (fun _ => rfl)) (fun _ => rfl)) (fun _ => rfl) (fun _ => rfl)) (by trivial) rfl (.inl rfl) (fun env he => by cases env; cases he; rfl) (.inl rfl) (fun others_1 => vb_ctx (Γ' := [.d (cWish CBook CWish) wish0, .d (cList cInt) places0, .d (cList cInt) others_1, .un, .un, .un, .un, .un, .un]) rfl (vb_setDcT 3 [("rest", 6), ("line", 8)] (iItemsT (xcal 0 (c_m_worths_by E) (show (2 : Nat) ≤ 3 by decide) rfl (aC (xname (i := 0) rfl rfl (.inl rfl)) (aC (xseqL (xname (i := 1) rfl rfl (.inl rfl))) (aC (xname (i := 2) rfl rfl (.inl rfl)) aN (fun _ => rfl)) (fun _ => rfl)) (fun _ => rfl)) (fun _ => rfl) (fun _ => rfl)) (fun _ => rfl) rfl) (by trivial) (by trivial) rfl rfl rfl rfl rfl (by kernel_rfl) (fun _ _ => rfl) (fun (x3 : (List Int) × (List Int)) => ⟨_, _, (pdg_t2 (pdg_name (i := 6) (by trivial) rfl (.inl rfl) (.inr rfl)) (pdg_name (i := 8) (by trivial) rfl (.inl rfl) (.inr rfl)) (fun _ => rfl) (fun _ => rfl) (fun _ => rfl) (fun _ => rfl)), (fun _ h => h), (xname (i := 6) rfl rfl (.inl rfl)), (xcal 0 (c_m_ranks E) (show (1 : Nat) ≤ 3 by decide) rfl (aC (xname (i := 8) rfl rfl (.inl rfl)) aN (fun _ => rfl)) (fun _ => rfl) (fun _ => rfl))⟩) (fun orders_2 => vb_ctx (Γ' := [.d (cWish CBook CWish) wish0, .d (cList cInt) places0, .d (cList cInt) others_1, .r (opT P w (cList cInt) orders_2), .un, .un, .un, .un, .un]) rfl (vb_freezeT 3 rfl (by trivial) (vb_ctx (Γ' := [.d (cWish CBook CWish) wish0, .d (cList cInt) places0, .d (cList cInt) others_1, .d (cDt P w (cList cInt)) orders_2, .un, .un, .un, .un, .un]) rfl (vb_for (⟨[6, 7, 4, 5], fun (s4 : Unit) => [.d (cWish CBook CWish) wish0, .d (cList cInt) places0, .d (cList cInt) others_1, .d (cDt P w (cList cInt)) orders_2, .un, .un, .un, .un, .un]⟩ : En (Unit)) () rfl (iEnum_ rfl E.b_enumerate (xseqL (xname (i := 2) rfl rfl (.inl rfl))) (fun _ => rfl)) (fun (s4 : Unit) (at_5 : Int × Int) => ⟨_, _, (pdg_t2 (pdg_name (i := 4) (by trivial) rfl (.inl rfl) (.inl rfl)) (pdg_name (i := 5) (by trivial) rfl (.inl rfl) (.inl rfl)) (fun _ => rfl) (fun _ => rfl) (fun _ => rfl) (fun _ => rfl)), (by trivial), vb_ctx (Γ' := [.d (cWish CBook CWish) wish0, .d (cList cInt) places0, .d (cList cInt) others_1, .d (cDt P w (cList cInt)) orders_2, .d cInt at_5.1, .d cInt at_5.2, .un, .un, .un]) rfl (vb_for (⟨[6, 7], fun (s10 : Unit) => [.d (cWish CBook CWish) wish0, .d (cList cInt) places0, .d (cList cInt) others_1, .d (cDt P w (cList cInt)) orders_2, .d cInt at_5.1, .d cInt at_5.2, .un, .un, .un]⟩ : En (Unit)) () rfl (iItemsT (xname (i := 3) rfl rfl (.inl rfl)) (fun _ => rfl) rfl) (fun (s10 : Unit) (rest_11 : (List Int) × (List Int)) => ⟨_, _, (pdg_t2 (pdg_name (i := 6) (by trivial) rfl (.inl rfl) (.inl rfl)) (pdg_name (i := 7) (by trivial) rfl (.inl rfl) (.inl rfl)) (fun _ => rfl) (fun _ => rfl) (fun _ => rfl) (fun _ => rfl)), (by trivial), vb_ctx (Γ' := [.d (cWish CBook CWish) wish0, .d (cList cInt) places0, .d (cList cInt) others_1, .d (cDt P w (cList cInt)) orders_2, .d cInt at_5.1, .d cInt at_5.2, .d (cTup cInt) rest_11.1, .d (cList cInt) rest_11.2, .un]) rfl (vb_ifR (tcmpW (op_neDG rfl) (xname (i := 7) rfl rfl (.inl rfl)) (xgetT (xname (i := 3) rfl rfl (.inl rfl)) (xbin catTG (xbin catTG (xof (pslT (PW.pd (xname (i := 6) rfl rfl (.inl rfl))) .none (.some (PW.pd (xname (i := 4) rfl rfl (.inl rfl)))))) (xtupP (c := cInt) (.cons (xint (i := 0)) .nil (fun _ => rfl)) (by simp)) (fun _ _ => catT)) (xof (pslT (PW.pd (xname (i := 6) rfl rfl (.inl rfl))) (.some (PW.pd (xbin (fun _ _ => op_add) (xname (i := 4) rfl rfl (.inl rfl)) (xint (i := 1)) (fun _ _ => rw0 rd_I0)))) .none)) (fun _ _ => catT)) (fun _ _ => rfl)) (fun _ _ => rw0 (rd_neD (eList eInt) (by decide))) (nomark _)) (vb_ret (xsome (xname (i := 5) rfl rfl (.inl rfl)))) (vb_nil () rfl))⟩) (fun _ _ => rfl) (fun s10 => (vb_nil () rfl)))⟩) (fun _ _ => rfl) (fun s4 => (vb_ret xnoneO)))))))))
  case e => rfl
  case hk => decide
theorem cr_m_hull (E : All P w K mg base CBook CWish) : CalR P w K mg base "hull" ["wish", "places"] 7 (spWF (fun _ (t : ((List Int) × (List ((List Int) × (List Int)))) × (List Int) × Unit) => [.d (cWish CBook CWish) t.1, .d (cSeq cInt) t.2.1]) 0 (fun t => m_hull t.1 t.2.1) cInt) := by
  refine calR_WF (N := ["wish", "places", "found", "more"]) E.D_hull (fun _ _ _ _ _ _ us hl => match us, hl with | [_, _], _ => rfl) (fun _ _ _ _ _ _ us hl => match us, hl with | [_, _], _ => rfl) ⟨rfl, rfl, rfl, by decide +kernel, rfl, by decide +kernel, by decide +kernel⟩ (fun _ _ => rfl) (by decide) (fun _ _ => trivial) fun z t => ?_
  obtain ⟨wish0, places0, _⟩ := t
  refine' PB.of ?h ?e ?hk
  case h => exact vb_ctx (Γ' := [.d (cWish CBook CWish) wish0, .d (cSeq cInt) places0, .un, .un]) rfl (vb_drop (xcal 0 (c_m_check_places E) (show (6 : Nat) ≤ 6 by decide) rfl (aC (xWish_book E (xname (i := 0) rfl rfl (.inl rfl)) (fun _ => rfl)) (aC (xname (i := 1) rfl rfl (.inl rfl)) aN (fun _ => rfl)) (fun _ => rfl)) (fun _ => rfl) (fun _ => rfl)) (fun env he => by cases env; cases he; rfl) (fun v1 => (vb_drop (xcal 0 (c_m_check_count E) (show (3 : Nat) ≤ 6 by decide) rfl (aC (xWish_book E (xname (i := 0) rfl rfl (.inl rfl)) (fun _ => rfl)) aN (fun _ => rfl)) (fun _ => rfl) (fun _ => rfl)) (fun env he => by cases env; cases he; rfl) (fun v2 => (vb_setL 2 (xlist rfl E.b_list (xname (i := 1) rfl rfl (.inl rfl)) (fun _ => rfl)) (by trivial) rfl (.inl rfl) (fun env he => by cases env; cases he; rfl) (.inl rfl) (fun found_3 => vb_ctx (Γ' := [.d (cWish CBook CWish) wish0, .d (cSeq cInt) places0, .l cInt found_3, .un]) rfl (vb_set 3 (vN (i := 2) rfl (nl_opt nl_int) (xcal 0 (c_m_drawn_in E) (show (4 : Nat) ≤ 6 by decide) rfl (aC (xname (i := 0) rfl rfl (.inl rfl)) (aC (xname (i := 2) rfl rfl (.inl rfl)) aN (fun _ => rfl)) (fun _ => rfl)) (fun _ => rfl) (fun _ => rfl))) (by trivial) rfl (.inl rfl) (fun env he => by cases env; cases he; rfl) (.inl rfl) (fun more_4 => vb_ctx (Γ' := [.d (cWish CBook CWish) wish0, .d (cSeq cInt) places0, .l cInt found_3, .d (cOpt cInt) more_4]) rfl (vb_while (⟨[], fun (s5 : (List Int) × (Option Int)) => [.d (cWish CBook CWish) wish0, .d (cSeq cInt) places0, .l cInt s5.1, .d (cOpt cInt) s5.2]⟩ : En ((List Int) × (Option Int))) (found_3, more_4) rfl (fun (s5 : (List Int) × (Option Int)) => (tcmpW (fun _ _ => op_notN) (xname (i := 3) rfl rfl (.inl rfl)) xnone (fun _ _ => rw0 (rd_notNO nn_int)) rfl)) (fun (s5 : (List Int) × (Option Int)) => ⟨(by trivial), (vb_some 3 rfl (by trivial) (fun y11 => vb_ctx (Γ' := [.d (cWish CBook CWish) wish0, .d (cSeq cInt) places0, .l cInt s5.1, .d cInt y11]) rfl (vb_setL 2 (vNF (i := 2) rfl nl_int (xsortI rfl E.b_sorted (PWF.d (xlst (lS (xseqL (xname (i := 2) rfl rfl (.inl rfl))) (lC (xname (i := 3) rfl rfl (.inl rfl)) lN (fun _ => rfl)) (fun _ => rfl)))) (fun _ => rfl))) (by trivial) rfl (.inl rfl) (fun env he => by cases env; cases he; rfl) (.inl rfl) (fun found_12 => vb_ctx (Γ' := [.d (cWish CBook CWish) wish0, .d (cSeq cInt) places0, .l cInt found_12, .d cInt y11]) rfl (vb_set 3 (vN (i := 2) rfl (nl_opt nl_int) (xcal 0 (c_m_drawn_in E) (show (4 : Nat) ≤ 6 by decide) rfl (aC (xname (i := 0) rfl rfl (.inl rfl)) (aC (xname (i := 2) rfl rfl (.inl rfl)) aN (fun _ => rfl)) (fun _ => rfl)) (fun _ => rfl) (fun _ => rfl))) (by trivial) rfl (.inl rfl) (fun env he => by cases env; cases he; rfl) (.inl rfl) (fun more_13 => vb_ctx (Γ' := [.d (cWish CBook CWish) wish0, .d (cSeq cInt) places0, .l cInt found_12, .d (cOpt cInt) more_13]) rfl (vb_nil (found_12, more_13) rfl)))))))⟩) (fun s5 => (vb_retO 2 rfl rfl (.inl rfl))))))))))))
  case e => rfl
  case hk => decide
theorem c_m_hull (E : All P w K mg base CBook CWish) : Cal P w K mg base "hull" ["wish", "places"] 7 (spWF (fun _ (t : ((List Int) × (List ((List Int) × (List Int)))) × (List Int) × Unit) => [.d (cWish CBook CWish) t.1, .d (cSeq cInt) t.2.1]) 0 (fun t => m_hull t.1 t.2.1) cInt) := (cr_m_hull E).c
theorem c_l_mixed_i (E : All P w K mg base CBook CWish) : Cal P w K mg base "_law_mixed" ["box", "items"] 2 (spW (fun b (t : (List Int) × Unit) => [.bx b, .d (cList cInt) t.1]) 66 (fun t => l_mixed_i t.1) (cList cInt)) := by
  refine cal_W (N := ["box", "items", "left", "found"]) E.D__law_mixed (fun _ _ _ _ _ _ us hl => match us, hl with | [_, _], _ => rfl) ⟨rfl, rfl, rfl, by decide +kernel, rfl, by decide +kernel, by decide +kernel⟩ (fun _ _ => rfl) (by decide) (fun _ _ => trivial) fun z t => ?_
  obtain ⟨items0, _⟩ := t
  refine' PB.of ?h ?e ?hk
  case h => exact vb_ctx (Γ' := [.bx z, .d (cList cInt) items0, .un, .un]) rfl (vb_par 2 3 (PWF.px (xlist rfl E.b_list (xseqL (xname (i := 1) rfl rfl (.inl rfl))) (fun _ => rfl))) (PWF.px (xlstP (c := cInt) .nil (by simp))) (by trivial) (by trivial) (by decide) rfl rfl rfl rfl (fun _ => rfl) (fun _ => rfl) (fun env he => by cases env; cases he; rfl) (fun env he => by cases env; cases he; rfl) (fun left_1 found_2 => vb_ctx (Γ' := [.bx z, .d (cList cInt) items0, .l cInt left_1, .l cInt found_2]) rfl (vb_whileD 66 (⟨[], fun (s3 : (List Int) × (List Int)) => [.bx z, .d (cList cInt) items0, .l cInt s3.2, .l cInt s3.1]⟩ : En ((List Int) × (List Int))) (found_2, left_1) rfl (fun (s3 : (List Int) × (List Int)) => (vT (i := 2) rfl (tcmpW (op_neDG rfl) (xname (i := 2) rfl rfl (.inl rfl)) (PWF.d (xlstP (c := cInt) .nil (by simp))) (fun _ _ => rw0 (rd_neD (eList eInt) (by decide))) (nomark _)))) (fun (s3 : (List Int) × (List Int)) => ⟨(by trivial), (vb_appendPop 3 2 (by decide) rfl rfl (vN (i := 2) rfl nl_int (xcal z (c_l_take E) (show (1 : Nat) ≤ 1 by decide) rfl (aB (i := 0) rfl rfl (.inl rfl) (aC (xlen rfl E.b_len (xseqL (xname (i := 2) rfl rfl (.inl rfl))) (fun _ => rfl)) aN (fun _ => rfl))) (fun _ => rfl) (fun _ => rfl))) rfl rfl (.inl rfl) (.inl rfl) (fun _ => rfl) (fun _ => rfl) rfl rfl (fun _ => rfl) (fun _ => rfl) (fun _ => rfl) (fun i9 => vb_ctx (Γ' := [.bx z, .d (cList cInt) items0, .l cInt (s3.2.eraseIdx i9.toNat), .l cInt (s3.1 ++ [ixAt s3.2 i9])]) rfl (vb_nil (s3.1 ++ [ixAt s3.2 i9], s3.2.eraseIdx i9.toNat) rfl)))⟩) (fun s3 => (vb_freeze 3 rfl (by trivial) (vb_ctx (Γ' := [.bx z, .d (cList cInt) items0, .l cInt s3.2, .d (cList cInt) s3.1]) rfl (vb_ret (xname (i := 3) rfl rfl (.inl rfl)))))))))
  case e => rfl
  case hk => decide
theorem c_l_mixed_l (E : All P w K mg base CBook CWish) : Cal P w K mg base "_law_mixed" ["box", "items"] 2 (spW (fun b (t : (List (List Int)) × Unit) => [.bx b, .d (cList (cList cInt)) t.1]) 66 (fun t => l_mixed_l t.1) (cList (cList cInt))) := by
  refine cal_W (N := ["box", "items", "left", "found"]) E.D__law_mixed (fun _ _ _ _ _ _ us hl => match us, hl with | [_, _], _ => rfl) ⟨rfl, rfl, rfl, by decide +kernel, rfl, by decide +kernel, by decide +kernel⟩ (fun _ _ => rfl) (by decide) (fun _ _ => trivial) fun z t => ?_
  obtain ⟨items0, _⟩ := t
  refine' PB.of ?h ?e ?hk
  case h => exact vb_ctx (Γ' := [.bx z, .d (cList (cList cInt)) items0, .un, .un]) rfl (vb_par 2 3 (PWF.px (xlist rfl E.b_list (xseqL (xname (i := 1) rfl rfl (.inl rfl))) (fun _ => rfl))) (PWF.px (xlstP (c := (cList cInt)) .nil (by simp))) (by trivial) (by trivial) (by decide) rfl rfl rfl rfl (fun _ => rfl) (fun _ => rfl) (fun env he => by cases env; cases he; rfl) (fun env he => by cases env; cases he; rfl) (fun left_1 found_2 => vb_ctx (Γ' := [.bx z, .d (cList (cList cInt)) items0, .l (cList cInt) left_1, .l (cList cInt) found_2]) rfl (vb_whileD 66 (⟨[], fun (s3 : (List (List Int)) × (List (List Int))) => [.bx z, .d (cList (cList cInt)) items0, .l (cList cInt) s3.2, .l (cList cInt) s3.1]⟩ : En ((List (List Int)) × (List (List Int)))) (found_2, left_1) rfl (fun (s3 : (List (List Int)) × (List (List Int))) => (vT (i := 2) rfl (tcmpW (op_neDG rfl) (xname (i := 2) rfl rfl (.inl rfl)) (PWF.d (xlstP (c := (cList cInt)) .nil (by simp))) (fun _ _ => rw0 (rd_neD (eList (eList eInt)) (by decide))) (nomark _)))) (fun (s3 : (List (List Int)) × (List (List Int))) => ⟨(by trivial), (vb_appendPop 3 2 (by decide) rfl rfl (vN (i := 2) rfl nl_int (xcal z (c_l_take E) (show (1 : Nat) ≤ 1 by decide) rfl (aB (i := 0) rfl rfl (.inl rfl) (aC (xlen rfl E.b_len (xseqL (xname (i := 2) rfl rfl (.inl rfl))) (fun _ => rfl)) aN (fun _ => rfl))) (fun _ => rfl) (fun _ => rfl))) rfl rfl (.inl rfl) (.inl rfl) (fun _ => rfl) (fun _ => rfl) rfl rfl (fun _ => rfl) (fun _ => rfl) (fun _ => rfl) (fun i9 => vb_ctx (Γ' := [.bx z, .d (cList (cList cInt)) items0, .l (cList cInt) (s3.2.eraseIdx i9.toNat), .l (cList cInt) (s3.1 ++ [ixAt s3.2 i9])]) rfl (vb_nil (s3.1 ++ [ixAt s3.2 i9], s3.2.eraseIdx i9.toNat) rfl)))⟩) (fun s3 => (vb_freeze 3 rfl (by trivial) (vb_ctx (Γ' := [.bx z, .d (cList (cList cInt)) items0, .l (cList cInt) s3.2, .d (cList (cList cInt)) s3.1]) rfl (vb_ret (xname (i := 3) rfl rfl (.inl rfl)))))))))
  case e => rfl
  case hk => decide
theorem c_l_rows (E : All P w K mg base CBook CWish) : Cal P w K mg base "_law_rows" ["sizes"] 1 (spW (fun _ (t : (List Int) × Unit) => [.d (cList cInt) t.1]) 0 (fun t => l_rows t.1) (cList (cTup cInt))) := by
  refine cal_W (N := ["sizes", "found", "size", "longer", "row", "wording"]) E.D__law_rows (fun _ _ _ _ _ _ us hl => match us, hl with | [_], _ => rfl) ⟨rfl, rfl, rfl, by decide +kernel, rfl, by decide +kernel, by decide +kernel⟩ (fun _ _ => rfl) (by decide) (fun _ _ => trivial) fun z t => ?_
  obtain ⟨sizes0, _⟩ := t
  refine' PB.of ?h ?e ?hk
  case h => exact vb_ctx (Γ' := [.d (cList cInt) sizes0, .un, .un, .un, .un, .un]) rfl (vb_set 1 (PWF.d (xlstP (c := (cTup cInt)) (.cons (xtupP (c := cInt) .nil (by simp)) .nil (fun _ => rfl)) (by simp))) (by trivial) rfl (.inl rfl) (fun env he => by cases env; cases he; rfl) (.inl rfl) (fun found_1 => vb_ctx (Γ' := [.d (cList cInt) sizes0, .d (cList (cTup cInt)) found_1, .un, .un, .un, .un]) rfl (vb_for (⟨[3, 4, 2], fun (s2 : (List (List Int))) => [.d (cList cInt) sizes0, .d (cList (cTup cInt)) s2, .un, .un, .un, .un]⟩ : En ((List (List Int)))) found_1 rfl (iL (xname (i := 0) rfl rfl (.inl rfl))) (fun (s2 : (List (List Int))) (size_3 : Int) => ⟨_, _, (pdg_name (i := 2) (by trivial) rfl (.inl rfl) (.inl rfl)), (by trivial), vb_ctx (Γ' := [.d (cList cInt) sizes0, .d (cList (cTup cInt)) s2, .d cInt size_3, .un, .un, .un]) rfl (vb_set 3 (PWF.d (xlstP (c := (cTup cInt)) .nil (by simp))) (by trivial) rfl (.inl rfl) (fun env he => by cases env; cases he; rfl) (.inl rfl) (fun longer_8 => vb_ctx (Γ' := [.d (cList cInt) sizes0, .d (cList (cTup cInt)) s2, .d cInt size_3, .d (cList (cTup cInt)) longer_8, .un, .un]) rfl (vb_for (⟨[4], fun (s9 : (List (List Int))) => [.d (cList cInt) sizes0, .d (cList (cTup cInt)) s2, .d cInt size_3, .d (cList (cTup cInt)) s9, .un, .un]⟩ : En ((List (List Int)))) longer_8 rfl (iL (xname (i := 1) rfl rfl (.inl rfl))) (fun (s9 : (List (List Int))) (row_10 : List Int) => ⟨_, _, (pdg_name (i := 4) (by trivial) rfl (.inr rfl) (.inl rfl)), (by trivial), vb_ctx (Γ' := [.d (cList cInt) sizes0, .d (cList (cTup cInt)) s2, .d cInt size_3, .d (cList (cTup cInt)) s9, .d (cTup cInt) row_10, .un]) rfl (vb_set 3 (PWF.d (xcat (xname (i := 3) rfl rfl (.inl rfl)) (PWF.d (xlc (map0 [("wording", 5)] (iR1 rfl E.b_range (xname (i := 2) rfl rfl (.inl rfl)) (fun _ => rfl)) (by trivial) (fun (x16 : Int) => ⟨_, _, (pdg_name (i := 5) (by trivial) rfl (.inl rfl) (.inr rfl)), (fun _ h => h), (xbin catTG (xname (i := 4) rfl rfl (.inr (.inl rfl))) (xtupP (c := cInt) (.cons (xname (i := 5) rfl rfl (.inl rfl)) .nil (fun _ => rfl)) (by simp)) (fun _ _ => catT))⟩)) (by kernel_rfl) (fun _ _ => rfl))))) (by trivial) rfl (.inl rfl) (fun env he => by cases env; cases he; rfl) (.inl rfl) (fun longer_15 => vb_ctx (Γ' := [.d (cList cInt) sizes0, .d (cList (cTup cInt)) s2, .d cInt size_3, .d (cList (cTup cInt)) longer_15, .d (cTup cInt) row_10, .un]) rfl (vb_nil longer_15 rfl)))⟩) (fun _ _ => rfl) (fun s9 => (vb_set 1 (xname (i := 3) rfl rfl (.inl rfl)) (by trivial) rfl (.inl rfl) (fun env he => by cases env; cases he; rfl) (.inl rfl) (fun found_19 => vb_ctx (Γ' := [.d (cList cInt) sizes0, .d (cList (cTup cInt)) found_19, .d cInt size_3, .d (cList (cTup cInt)) s9, .un, .un]) rfl (vb_nil found_19 rfl)))))))⟩) (fun _ _ => rfl) (fun s2 => (vb_ret (xname (i := 1) rfl rfl (.inl rfl)))))))
  case e => rfl
  case hk => decide
theorem c_l_lots (E : All P w K mg base CBook CWish) : Cal P w K mg base "_law_lots" ["many"] 1 (spW (fun _ (t : Int × Unit) => [.d cInt t.1]) 0 (fun t => l_lots t.1) (cList (cList cInt))) := by
  refine cal_W (N := ["many", "found", "place", "lot"]) E.D__law_lots (fun _ _ _ _ _ _ us hl => match us, hl with | [_], _ => rfl) ⟨rfl, rfl, rfl, by decide +kernel, rfl, by decide +kernel, by decide +kernel⟩ (fun _ _ => rfl) (by decide) (fun _ _ => trivial) fun z t => ?_
  obtain ⟨many0, _⟩ := t
  refine' PB.of ?h ?e ?hk
  case h => exact vb_ctx (Γ' := [.d cInt many0, .un, .un, .un]) rfl (vb_set 1 (PWF.d (xlstP (c := (cList cInt)) (.cons (PWF.d (xlstP (c := cInt) .nil (by simp))) .nil (fun _ => rfl)) (by simp))) (by trivial) rfl (.inl rfl) (fun env he => by cases env; cases he; rfl) (.inl rfl) (fun found_1 => vb_ctx (Γ' := [.d cInt many0, .d (cList (cList cInt)) found_1, .un, .un]) rfl (vb_for (⟨[2], fun (s2 : (List (List Int))) => [.d cInt many0, .d (cList (cList cInt)) s2, .un, .un]⟩ : En ((List (List Int)))) found_1 rfl (iR1 rfl E.b_range (xname (i := 0) rfl rfl (.inl rfl)) (fun _ => rfl)) (fun (s2 : (List (List Int))) (place_3 : Int) => ⟨_, _, (pdg_name (i := 2) (by trivial) rfl (.inr rfl) (.inl rfl)), (by trivial), vb_ctx (Γ' := [.d cInt many0, .d (cList (cList cInt)) s2, .d cInt place_3, .un]) rfl (vb_set 1 (PWF.d (xcat (xname (i := 1) rfl rfl (.inl rfl)) (PWF.d (xlc (map0 [("lot", 3)] (iL (xname (i := 1) rfl rfl (.inl rfl))) (by trivial) (fun (x9 : List Int) => ⟨_, _, (pdg_name (i := 3) (by trivial) rfl (.inl rfl) (.inr rfl)), (fun _ h => h), (PWF.d (xcat (xname (i := 3) rfl rfl (.inl rfl)) (PWF.d (xlstP (c := cInt) (.cons (xname (i := 2) rfl rfl (.inr (.inl rfl))) .nil (fun _ => rfl)) (by simp)))))⟩)) (by kernel_rfl) (fun _ _ => rfl))))) (by trivial) rfl (.inl rfl) (fun env he => by cases env; cases he; rfl) (.inl rfl) (fun found_8 => vb_ctx (Γ' := [.d cInt many0, .d (cList (cList cInt)) found_8, .d cInt place_3, .un]) rfl (vb_nil found_8 rfl)))⟩) (fun _ _ => rfl) (fun s2 => (vb_ret (xname (i := 1) rfl rfl (.inl rfl)))))))
  case e => rfl
  case hk => decide
end
end K18

set_option Elab.async false
set_option linter.all false
set_option maxRecDepth 100000
set_option maxHeartbeats 4000000
namespace K18
open PySem PySem.Spec L2 DL
section
variable {P : Program} {w : World} {K : PySem.W.Frag} {mg : Str → Option Value} {base : Heap} {CBook CWish : Addr}
theorem c_l_place (E : All P w K mg base CBook CWish) : Cal P w K mg base "_law_place" ["places", "sizes", "text"] 1 (spW (fun _ (t : (List Int) × (List Int) × (List Int) × Unit) => [.d (cSeq cInt) t.1, .d (cList cInt) t.2.1, .d (cTup cInt) t.2.2.1]) 0 (fun t => l_place t.1 t.2.1 t.2.2.1) cInt) := by
  refine cal_W (N := ["places", "sizes", "text", "found", "place"]) E.D__law_place (fun _ _ _ _ _ _ us hl => match us, hl with | [_, _, _], _ => rfl) ⟨rfl, rfl, rfl, by decide +kernel, rfl, by decide +kernel, by decide +kernel⟩ (fun _ _ => rfl) (by decide) (fun _ _ => trivial) fun z t => ?_
  obtain ⟨places0, sizes0, text0, _⟩ := t
  refine' PB.of ?h ?e ?hk
  case h => exact vb_ctx (Γ' := [.d (cSeq cInt) places0, .d (cList cInt) sizes0, .d (cTup cInt) text0, .un, .un]) rfl (vb_set 3 (xint (i := 0)) (by trivial) rfl (.inl rfl) (fun env he => by cases env; cases he; rfl) (.inl rfl) (fun found_1 => vb_ctx (Γ' := [.d (cSeq cInt) places0, .d (cList cInt) sizes0, .d (cTup cInt) text0, .d cInt found_1, .un]) rfl (vb_for (⟨[4], fun (s2 : Int) => [.d (cSeq cInt) places0, .d (cList cInt) sizes0, .d (cTup cInt) text0, .d cInt s2, .un]⟩ : En (Int)) found_1 rfl (iS (xname (i := 0) rfl rfl (.inl rfl))) (fun (s2 : Int) (place_3 : Int) => ⟨_, _, (pdg_name (i := 4) (by trivial) rfl (.inl rfl) (.inl rfl)), (by trivial), vb_ctx (Γ' := [.d (cSeq cInt) places0, .d (cList cInt) sizes0, .d (cTup cInt) text0, .d cInt s2, .d cInt place_3]) rfl (vb_set 3 (xbin (fun _ _ => op_add) (xmul (xname (i := 3) rfl rfl (.inl rfl)) (xix ixLG (xname (i := 1) rfl rfl (.inl rfl)) (xname (i := 4) rfl rfl (.inl rfl)) (fun _ _ => ixL) (fun _ _ => rfl))) (xix ixTG (xname (i := 2) rfl rfl (.inl rfl)) (xname (i := 4) rfl rfl (.inl rfl)) (fun _ _ => ixT) (fun _ _ => rfl)) (fun _ _ => rw0 rd_I0)) (by trivial) rfl (.inl rfl) (fun env he => by cases env; cases he; rfl) (.inl rfl) (fun found_8 => vb_ctx (Γ' := [.d (cSeq cInt) places0, .d (cList cInt) sizes0, .d (cTup cInt) text0, .d cInt found_8, .d cInt place_3]) rfl (vb_nil found_8 rfl)))⟩) (fun _ _ => rfl) (fun s2 => (vb_ret (xname (i := 3) rfl rfl (.inl rfl)))))))
  case e => rfl
  case hk => decide
theorem c_l_worth (E : All P w K mg base CBook CWish) : Cal P w K mg base "_law_worth" ["tables", "sizes", "text"] 2 (spW (fun _ (t : (List ((List Int) × (List Int))) × (List Int) × (List Int) × Unit) => [.d (cList (cT2 (cList cInt) (cList cInt))) t.1, .d (cList cInt) t.2.1, .d (cTup cInt) t.2.2.1]) 0 (fun t => l_worth t.1 t.2.1 t.2.2.1) cInt) := by
  refine cal_W (N := ["tables", "sizes", "text", "places", "worths"]) E.D__law_worth (fun _ _ _ _ _ _ us hl => match us, hl with | [_, _, _], _ => rfl) ⟨rfl, rfl, rfl, by decide +kernel, rfl, by decide +kernel, by decide +kernel⟩ (fun _ _ => rfl) (by decide) (fun _ _ => trivial) fun z t => ?_
  obtain ⟨tables0, sizes0, text0, _⟩ := t
  refine' PB.of ?h ?e ?hk
  case h => exact vb_ctx (Γ' := [.d (cList (cT2 (cList cInt) (cList cInt))) tables0, .d (cList cInt) sizes0, .d (cTup cInt) text0, .un, .un]) rfl (vb_ret (xsum rfl E.b_sum (PWF.d (xlc (map0 [("places", 3), ("worths", 4)] (iL (xname (i := 0) rfl rfl (.inl rfl))) (by trivial) (fun (x1 : (List Int) × (List Int)) => ⟨_, _, (pdg_t2 (pdg_name (i := 3) (by trivial) rfl (.inl rfl) (.inr rfl)) (pdg_name (i := 4) (by trivial) rfl (.inl rfl) (.inr rfl)) (fun _ => rfl) (fun _ => rfl) (fun _ => rfl) (fun _ => rfl)), (fun _ h => h), (xix ixLG (xname (i := 4) rfl rfl (.inl rfl)) (xcal 0 (c_l_place E) (show (1 : Nat) ≤ 1 by decide) rfl (aC (xseqL (xname (i := 3) rfl rfl (.inl rfl))) (aC (xname (i := 1) rfl rfl (.inr (.inl rfl))) (aC (xname (i := 2) rfl rfl (.inr (.inl rfl))) aN (fun _ => rfl)) (fun _ => rfl)) (fun _ => rfl)) (fun _ => rfl) (fun _ => rfl)) (fun _ _ => ixL) (fun _ _ => rfl))⟩)) (by kernel_rfl) (fun _ _ => rfl))) (fun _ => rfl)))
  case e => rfl
  case hk => decide
theorem c_l_sizes (E : All P w K mg base CBook CWish) : Cal P w K mg base "_law_sizes" ["box", "large"] 2 (spW (fun b (t : Bool × Unit) => [.bx b, .d cBool t.1]) 3 (fun t => l_sizes t.1) (cList cInt)) := by
  refine cal_W (N := ["box", "large"]) E.D__law_sizes (fun _ _ _ _ _ _ us hl => match us, hl with | [_, _], _ => rfl) ⟨rfl, rfl, rfl, by decide +kernel, rfl, by decide +kernel, by decide +kernel⟩ (fun _ _ => rfl) (by decide) (fun _ _ => trivial) fun z t => ?_
  obtain ⟨large0, _⟩ := t
  refine' PB.of ?h ?e ?hk
  case h => exact vb_ctx (Γ' := [.bx z, .d cBool large0]) rfl (vb_ifR (twW (wandW (tval (xname (i := 1) rfl rfl (.inl rfl)) (fun _ _ => rfl)) (wand1 (tcmpW (fun _ _ => op_eq) (xcal z (c_l_take E) (show (1 : Nat) ≤ 1 by decide) rfl (aB (i := 0) rfl rfl (.inl rfl) (aC (xint (i := 3)) aN (fun _ => rfl))) (fun _ => rfl) (fun _ => rfl)) (xint (i := 0)) (fun _ _ => rw0 rd_eqI) (nomark _))))) (vb_ret (xix ixLG (PWF.d (xlstP (c := (cList cInt)) (.cons (PWF.d (xlstP (c := cInt) (.cons (xint (i := 2)) (.cons (xint (i := 2)) (.cons (xint (i := 2)) (.cons (xint (i := 2)) (.cons (xint (i := 2)) (.cons (xint (i := 2)) .nil (fun _ => rfl)) (fun _ => rfl)) (fun _ => rfl)) (fun _ => rfl)) (fun _ => rfl)) (fun _ => rfl)) (by simp))) (.cons (PWF.d (xlstP (c := cInt) (.cons (xint (i := 2)) (.cons (xint (i := 2)) (.cons (xint (i := 2)) (.cons (xint (i := 2)) (.cons (xint (i := 2)) .nil (fun _ => rfl)) (fun _ => rfl)) (fun _ => rfl)) (fun _ => rfl)) (fun _ => rfl)) (by simp))) (.cons (PWF.d (xlstP (c := cInt) (.cons (xint (i := 3)) (.cons (xint (i := 2)) (.cons (xint (i := 2)) (.cons (xint (i := 2)) (.cons (xint (i := 2)) .nil (fun _ => rfl)) (fun _ => rfl)) (fun _ => rfl)) (fun _ => rfl)) (fun _ => rfl)) (by simp))) (.cons (PWF.d (xlstP (c := cInt) (.cons (xint (i := 4)) (.cons (xint (i := 4)) (.cons (xint (i := 5)) .nil (fun _ => rfl)) (fun _ => rfl)) (fun _ => rfl)) (by simp))) (.cons (PWF.d (xlstP (c := cInt) (.cons (xint (i := 3)) (.cons (xint (i := 3)) (.cons (xint (i := 3)) (.cons (xint (i := 3)) .nil (fun _ => rfl)) (fun _ => rfl)) (fun _ => rfl)) (fun _ => rfl)) (by simp))) (.cons (PWF.d (xlstP (c := cInt) (.cons (xint (i := 6)) (.cons (xint (i := 3)) .nil (fun _ => rfl)) (fun _ => rfl)) (by simp))) .nil (fun _ => rfl)) (fun _ => rfl)) (fun _ => rfl)) (fun _ => rfl)) (fun _ => rfl)) (fun _ => rfl)) (by simp))) (xcal z (c_l_take E) (show (1 : Nat) ≤ 1 by decide) rfl (aB (i := 0) rfl rfl (.inl rfl) (aC (xint (i := 6)) aN (fun _ => rfl))) (fun _ => rfl) (fun _ => rfl)) (fun _ _ => ixL) (fun _ _ => rfl))) (vb_ret (xix ixLG (PWF.d (xlstP (c := (cList cInt)) (.cons (PWF.d (xlstP (c := cInt) (.cons (xint (i := 2)) (.cons (xint (i := 2)) (.cons (xint (i := 2)) .nil (fun _ => rfl)) (fun _ => rfl)) (fun _ => rfl)) (by simp))) (.cons (PWF.d (xlstP (c := cInt) (.cons (xint (i := 3)) (.cons (xint (i := 2)) .nil (fun _ => rfl)) (fun _ => rfl)) (by simp))) (.cons (PWF.d (xlstP (c := cInt) (.cons (xint (i := 2)) (.cons (xint (i := 2)) (.cons (xint (i := 3)) .nil (fun _ => rfl)) (fun _ => rfl)) (fun _ => rfl)) (by simp))) (.cons (PWF.d (xlstP (c := cInt) (.cons (xint (i := 4)) .nil (fun _ => rfl)) (by simp))) (.cons (PWF.d (xlstP (c := cInt) (.cons (xint (i := 2)) (.cons (xint (i := 2)) (.cons (xint (i := 2)) (.cons (xint (i := 2)) .nil (fun _ => rfl)) (fun _ => rfl)) (fun _ => rfl)) (fun _ => rfl)) (by simp))) (.cons (PWF.d (xlstP (c := cInt) (.cons (xint (i := 3)) (.cons (xint (i := 3)) .nil (fun _ => rfl)) (fun _ => rfl)) (by simp))) (.cons (PWF.d (xlstP (c := cInt) (.cons (xint (i := 2)) (.cons (xint (i := 3)) (.cons (xint (i := 2)) (.cons (xint (i := 2)) .nil (fun _ => rfl)) (fun _ => rfl)) (fun _ => rfl)) (fun _ => rfl)) (by simp))) (.cons (PWF.d (xlstP (c := cInt) (.cons (xint (i := 2)) .nil (fun _ => rfl)) (by simp))) .nil (fun _ => rfl)) (fun _ => rfl)) (fun _ => rfl)) (fun _ => rfl)) (fun _ => rfl)) (fun _ => rfl)) (fun _ => rfl)) (fun _ => rfl)) (by simp))) (xcal z (c_l_take E) (show (1 : Nat) ≤ 1 by decide) rfl (aB (i := 0) rfl rfl (.inl rfl) (aC (xint (i := 8)) aN (fun _ => rfl))) (fun _ => rfl) (fun _ => rfl)) (fun _ _ => ixL) (fun _ _ => rfl))))
  case e => rfl
  case hk => decide
theorem c_l_table (E : All P w K mg base CBook CWish) : Cal P w K mg base "_law_table" ["box", "sizes", "places"] 2 (spW (fun b (t : (List Int) × (List Int) × Unit) => [.bx b, .d (cList cInt) t.1, .d (cList cInt) t.2.1]) 102 (fun t => l_table t.1 t.2.1) (cT2 (cList cInt) (cList cInt))) := by
  refine cal_W (N := ["box", "sizes", "places", "rows", "scale", "many", "place", "row"]) E.D__law_table (fun _ _ _ _ _ _ us hl => match us, hl with | [_, _, _], _ => rfl) ⟨rfl, rfl, rfl, by decide +kernel, rfl, by decide +kernel, by decide +kernel⟩ (fun _ _ => rfl) (by decide) (fun _ _ => trivial) fun z t => ?_
  obtain ⟨sizes0, places0, _⟩ := t
  refine' PB.of ?h ?e ?hk
  case h => exact vb_ctx (Γ' := [.bx z, .d (cList cInt) sizes0, .d (cList cInt) places0, .un, .un, .un, .un, .un]) rfl (vb_set 3 (xcal 0 (c_l_rows E) (show (1 : Nat) ≤ 1 by decide) rfl (aC (PWF.d (xlc (map0 [("place", 6)] (iL (xname (i := 2) rfl rfl (.inl rfl))) (by trivial) (fun (x2 : Int) => ⟨_, _, (pdg_name (i := 6) (by trivial) rfl (.inl rfl) (.inr rfl)), (fun _ h => h), (xix ixLG (xname (i := 1) rfl rfl (.inr (.inl rfl))) (xname (i := 6) rfl rfl (.inl rfl)) (fun _ _ => ixL) (fun _ _ => rfl))⟩)) (by kernel_rfl) (fun _ _ => rfl))) aN (fun _ => rfl)) (fun _ => rfl) (fun _ => rfl)) (by trivial) rfl (.inl rfl) (fun env he => by cases env; cases he; rfl) (.inl rfl) (fun rows_1 => vb_ctx (Γ' := [.bx z, .d (cList cInt) sizes0, .d (cList cInt) places0, .d (cList (cTup cInt)) rows_1, .un, .un, .un, .un]) rfl (vb_set 4 (xix ixLG (PWF.d (xlstP (c := cInt) (.cons (xint (i := 1)) (.cons (xint (i := 1)) (.cons (xun (fun _ _ => un_neg) (xint (i := 3)) (fun _ => ru0 ru_negI)) (.cons (xpowC ⟨by decide, by decide, by decide⟩ (xint (i := 10)) (xint (i := 6))) (.cons (xmulD (by decide) (xint (i := 3)) (xpowC ⟨by decide, by decide, by decide⟩ (xint (i := 10)) (xint (i := 18)))) .nil (fun _ => rfl)) (fun _ => rfl)) (fun _ => rfl)) (fun _ => rfl)) (fun _ => rfl)) (by simp))) (xcal z (c_l_take E) (show (1 : Nat) ≤ 1 by decide) rfl (aB (i := 0) rfl rfl (.inr (.inl rfl)) (aC (xint (i := 5)) aN (fun _ => rfl))) (fun _ => rfl) (fun _ => rfl)) (fun _ _ => ixL) (fun _ _ => rfl)) (by trivial) rfl (.inr rfl) (fun env he => sw_cell rfl env he) (.inl rfl) (fun scale_3 => vb_ctx (Γ' := [.bx z, .d (cList cInt) sizes0, .d (cList cInt) places0, .d (cList (cTup cInt)) rows_1, .d cInt scale_3, .un, .un, .un]) rfl (vb_set 5 (xbin (fun _ _ => op_add) (xint (i := 2)) (xcal z (c_l_take E) (show (1 : Nat) ≤ 1 by decide) rfl (aB (i := 0) rfl rfl (.inr (.inl rfl)) (aC (xint (i := 4)) aN (fun _ => rfl))) (fun _ => rfl) (fun _ => rfl)) (fun _ _ => rw0 rd_I0)) (by trivial) rfl (.inr rfl) (fun env he => sw_cell rfl env he) (.inl rfl) (fun many_4 => vb_ctx (Γ' := [.bx z, .d (cList cInt) sizes0, .d (cList cInt) places0, .d (cList (cTup cInt)) rows_1, .d cInt scale_3, .d cInt many_4, .un, .un]) rfl (vb_ret (xt2 (aC (PWF.d (xlist rfl E.b_list (xseqL (xname (i := 2) rfl rfl (.inl rfl))) (fun _ => rfl))) (aC (PWF.d (xlc (mapW 100 [("row", 7)] (iL (xname (i := 3) rfl rfl (.inl rfl))) (by trivial) (fun (x5 : List Int) => ⟨_, _, (pdg_name (i := 7) (by trivial) rfl (.inl rfl) (.inr rfl)), (fun _ h => h), (xmul (xcal z (c_l_take E) (show (1 : Nat) ≤ 1 by decide) rfl (aB (i := 0) rfl rfl (.inr (.inl rfl)) (aC (xname (i := 5) rfl rfl (.inr (.inl rfl))) aN (fun _ => rfl))) (fun _ => rfl) (fun _ => rfl)) (xname (i := 4) rfl rfl (.inr (.inl rfl))))⟩)) (by kernel_rfl) (fun _ _ => rfl))) aN (fun _ => rfl)) (fun _ => rfl))))))))))
  case e => rfl
  case hk => decide
theorem c_l_turned (E : All P w K mg base CBook CWish) : Cal P w K mg base "_law_turned" ["box", "sizes"] 3 (spW (fun b (t : (List Int) × Unit) => [.bx b, .d (cList cInt) t.1]) 166 (fun t => l_turned t.1) (cList (cT2 (cList cInt) (cList cInt)))) := by
  refine cal_W (N := ["box", "sizes", "order", "worths", "row", "second", "found", "wording"]) E.D__law_turned (fun _ _ _ _ _ _ us hl => match us, hl with | [_, _], _ => rfl) ⟨rfl, rfl, rfl, by decide +kernel, rfl, by decide +kernel, by decide +kernel⟩ (fun _ _ => rfl) (by decide) (fun _ _ => trivial) fun z t => ?_
  obtain ⟨sizes0, _⟩ := t
  refine' PB.of ?h ?e ?hk
  case h => exact vb_ctx (Γ' := [.bx z, .d (cList cInt) sizes0, .un, .un, .un, .un, .un, .un]) rfl (vb_set 2 (xcal z (c_l_mixed_i E) (show (2 : Nat) ≤ 2 by decide) rfl (aB (i := 0) rfl rfl (.inr (.inl rfl)) (aC (PWF.d (xlrgW rfl E.b_list rfl E.b_range (xlen rfl E.b_len (xseqL (xname (i := 1) rfl rfl (.inl rfl))) (fun _ => rfl)) (fun _ => rfl) (fun _ => rfl))) aN (fun _ => rfl))) (fun _ => rfl) (fun _ => rfl)) (by trivial) rfl (.inl rfl) (fun env he => by cases env; cases he; rfl) (.inl rfl) (fun order_1 => vb_ctx (Γ' := [.bx z, .d (cList cInt) sizes0, .d (cList cInt) order_1, .un, .un, .un, .un, .un]) rfl (vb_setL 3 (xlstP (c := cInt) .nil (by simp)) (by trivial) rfl (.inl rfl) (fun env he => by cases env; cases he; rfl) (.inl rfl) (fun worths_2 => vb_ctx (Γ' := [.bx z, .d (cList cInt) sizes0, .d (cList cInt) order_1, .l cInt worths_2, .un, .un, .un, .un]) rfl (vb_for (⟨[5, 4], fun (s3 : (List Int)) => [.bx z, .d (cList cInt) sizes0, .d (cList cInt) order_1, .l cInt s3, .un, .un, .un, .un]⟩ : En ((List Int))) worths_2 rfl (iL (xcal 0 (c_l_rows E) (show (1 : Nat) ≤ 2 by decide) rfl (aC (xname (i := 1) rfl rfl (.inl rfl)) aN (fun _ => rfl)) (fun _ => rfl) (fun _ => rfl))) (fun (s3 : (List Int)) (row_4 : List Int) => ⟨_, _, (pdg_name (i := 4) (by trivial) rfl (.inl rfl) (.inl rfl)), (by trivial), vb_ctx (Γ' := [.bx z, .d (cList cInt) sizes0, .d (cList cInt) order_1, .l cInt s3, .d (cTup cInt) row_4, .un, .un, .un]) rfl (vb_set 5 (xif (tcmpW (fun _ _ => op_gt) (xlen rfl E.b_len (xseqL (xname (i := 2) rfl rfl (.inl rfl))) (fun _ => rfl)) (xint (i := 1)) (fun _ _ => rw0 rd_B0) (nomark _)) (xix ixTG (xname (i := 4) rfl rfl (.inl rfl)) (xix ixLG (xname (i := 2) rfl rfl (.inl rfl)) (xint (i := 1)) (fun _ _ => ixL) (fun _ _ => rfl)) (fun _ _ => ixT) (fun _ _ => rfl)) (xint (i := 0))) (by trivial) rfl (.inl rfl) (fun env he => by cases env; cases he; rfl) (.inl rfl) (fun second_9 => vb_ctx (Γ' := [.bx z, .d (cList cInt) sizes0, .d (cList cInt) order_1, .l cInt s3, .d (cTup cInt) row_4, .d cInt second_9, .un, .un]) rfl (vb_append 3 rfl (xbin (fun _ _ => op_add) (xmulD (by decide) (xint (i := 100)) (xix ixTG (xname (i := 4) rfl rfl (.inl rfl)) (xix ixLG (xname (i := 2) rfl rfl (.inl rfl)) (xint (i := 0)) (fun _ _ => ixL) (fun _ _ => rfl)) (fun _ _ => ixT) (fun _ _ => rfl))) (xif (tcmpW (fun _ _ => op_eq) (xmodC (by decide) (xix ixTG (xname (i := 4) rfl rfl (.inl rfl)) (xix ixLG (xname (i := 2) rfl rfl (.inl rfl)) (xint (i := 0)) (fun _ _ => ixL) (fun _ _ => rfl)) (fun _ _ => ixT) (fun _ _ => rfl)) (xint (i := 2))) (xint (i := 0)) (fun _ _ => rw0 rd_eqI) (nomark _)) (xname (i := 5) rfl rfl (.inl rfl)) (xbin (fun _ _ => op_sub) (xint (i := 0)) (xname (i := 5) rfl rfl (.inl rfl)) (fun _ _ => rw0 rd_I0))) (fun _ _ => rw0 rd_I0)) rfl (.inl rfl) (fun _ => rfl) rfl (fun _ => rfl) (fun _ => rfl) (fun v10 => vb_ctx (Γ' := [.bx z, .d (cList cInt) sizes0, .d (cList cInt) order_1, .l cInt (s3 ++ [v10]), .d (cTup cInt) row_4, .d cInt second_9, .un, .un]) rfl (vb_nil (s3 ++ [v10]) rfl)))))⟩) (fun _ _ => rfl) (fun s3 => (vb_freeze 3 rfl (by trivial) (vb_ctx (Γ' := [.bx z, .d (cList cInt) sizes0, .d (cList cInt) order_1, .d (cList cInt) s3, .un, .un, .un, .un]) rfl (vb_setL 6 (xlst (lC (xt2 (aC (PWF.d (xlrgW rfl E.b_list rfl E.b_range (xlen rfl E.b_len (xseqL (xname (i := 1) rfl rfl (.inl rfl))) (fun _ => rfl)) (fun _ => rfl) (fun _ => rfl))) (aC (xname (i := 3) rfl rfl (.inl rfl)) aN (fun _ => rfl)) (fun _ => rfl))) lN (fun _ => rfl))) (by trivial) rfl (.inl rfl) (fun env he => by cases env; cases he; rfl) (.inl rfl) (fun found_18 => vb_ctx (Γ' := [.bx z, .d (cList cInt) sizes0, .d (cList cInt) order_1, .d (cList cInt) s3, .un, .un, .l (cT2 (cList cInt) (cList cInt)) found_18, .un]) rfl (vb_if (⟨[], fun (s20 : (List ((List Int) × (List Int)))) => [.bx z, .d (cList cInt) sizes0, .d (cList cInt) order_1, .d (cList cInt) s3, .un, .un, .l (cT2 (cList cInt) (cList cInt)) s20, .un]⟩ : En ((List ((List Int) × (List Int))))) (tcmpW (fun _ _ => op_gt) (xlen rfl E.b_len (xseqL (xname (i := 2) rfl rfl (.inl rfl))) (fun _ => rfl)) (xint (i := 2)) (fun _ _ => rw0 rd_B0) (nomark _)) (by trivial) (vb_append 6 rfl (xt2 (aC (PWF.d (xlst (lC (xix ixLG (xname (i := 2) rfl rfl (.inl rfl)) (xint (i := 2)) (fun _ _ => ixL) (fun _ _ => rfl)) lN (fun _ => rfl)))) (aC (PWF.d (xlc (mapW 100 [("wording", 7)] (iR1 rfl E.b_range (xix ixLG (xname (i := 1) rfl rfl (.inl rfl)) (xix ixLG (xname (i := 2) rfl rfl (.inl rfl)) (xint (i := 2)) (fun _ _ => ixL) (fun _ _ => rfl)) (fun _ _ => ixL) (fun _ _ => rfl)) (fun _ => rfl)) (by trivial) (fun (x21 : Int) => ⟨_, _, (pdg_name (i := 7) (by trivial) rfl (.inl rfl) (.inr rfl)), (fun _ h => h), (xmul (xname (i := 7) rfl rfl (.inl rfl)) (xbin (fun _ _ => op_add) (xint (i := 1)) (xcal z (c_l_take E) (show (1 : Nat) ≤ 2 by decide) rfl (aB (i := 0) rfl rfl (.inr (.inl rfl)) (aC (xint (i := 2)) aN (fun _ => rfl))) (fun _ => rfl) (fun _ => rfl)) (fun _ _ => rw0 rd_I0)))⟩)) (by kernel_rfl) (fun _ _ => rfl))) aN (fun _ => rfl)) (fun _ => rfl))) rfl (.inl rfl) (fun _ => rfl) rfl (fun _ => rfl) (fun _ => rfl) (fun v22 => vb_ctx (Γ' := [.bx z, .d (cList cInt) sizes0, .d (cList cInt) order_1, .d (cList cInt) s3, .un, .un, .l (cT2 (cList cInt) (cList cInt)) (found_18 ++ [v22]), .un]) rfl (vb_nil (found_18 ++ [v22]) rfl))) (vb_nil found_18 rfl) (fun s20 => (vb_freeze 6 rfl (by trivial) (vb_ctx (Γ' := [.bx z, .d (cList cInt) sizes0, .d (cList cInt) order_1, .d (cList cInt) s3, .un, .un, .d (cList (cT2 (cList cInt) (cList cInt))) s20, .un]) rfl (vb_ret (xname (i := 6) rfl rfl (.inl rfl)))))))))))))))))
  case e => rfl
  case hk => decide
theorem c_l_squares (E : All P w K mg base CBook CWish) : Cal P w K mg base "_law_squares" ["box", "sizes"] 2 (spW (fun b (t : (List Int) × Unit) => [.bx b, .d (cList cInt) t.1]) 4096 (fun t => l_squares t.1) (cList (cT2 (cList cInt) (cList cInt)))) := by
  refine cal_W (N := ["box", "sizes", "ranks_v", "sums", "size", "row", "wording", "place", "number"]) E.D__law_squares (fun _ _ _ _ _ _ us hl => match us, hl with | [_, _], _ => rfl) ⟨rfl, rfl, rfl, by decide +kernel, rfl, by decide +kernel, by decide +kernel⟩ (fun _ _ => rfl) (by decide) (fun _ _ => trivial) fun z t => ?_
  obtain ⟨sizes0, _⟩ := t
  refine' PB.of ?h ?e ?hk
  case h => exact vb_ctx (Γ' := [.bx z, .d (cList cInt) sizes0, .un, .un, .un, .un, .un, .un, .un]) rfl (vb_set 2 (PWF.d (xlc (mapW 64 [("size", 4)] (iL (xname (i := 1) rfl rfl (.inr (.inl rfl)))) (by trivial) (fun (x2 : Int) => ⟨_, _, (pdg_name (i := 4) (by trivial) rfl (.inl rfl) (.inr rfl)), (fun _ h => h), (PWF.d (xlc (mapW 64 [("wording", 6)] (iR1 rfl E.b_range (xname (i := 4) rfl rfl (.inl rfl)) (fun _ => rfl)) (by trivial) (fun (x3 : Int) => ⟨_, _, (pdg_name (i := 6) (by trivial) rfl (.inl rfl) (.inr rfl)), (fun _ h => h), (xbin (fun _ _ => op_add) (xname (i := 6) rfl rfl (.inl rfl)) (xcal z (c_l_take E) (show (1 : Nat) ≤ 1 by decide) rfl (aB (i := 0) rfl rfl (.inr (.inl rfl)) (aC (xint (i := 2)) aN (fun _ => rfl))) (fun _ => rfl) (fun _ => rfl)) (fun _ _ => rw0 rd_I0))⟩)) (by kernel_rfl) (fun _ _ => rfl)))⟩)) (by kernel_rfl) (fun _ _ => rfl))) (by trivial) rfl (.inr rfl) (fun env he => sw_cell rfl env he) (.inl rfl) (fun ranks_v_1 => vb_ctx (Γ' := [.bx z, .d (cList cInt) sizes0, .d (cList (cList cInt)) ranks_v_1, .un, .un, .un, .un, .un, .un]) rfl (vb_setLc 3 [("row", 5)] (map0 [("row", 5)] (iL (xcal 0 (c_l_rows E) (show (1 : Nat) ≤ 1 by decide) rfl (aC (xname (i := 1) rfl rfl (.inr (.inl rfl))) aN (fun _ => rfl)) (fun _ => rfl) (fun _ => rfl))) (by trivial) (fun (x5 : List Int) => ⟨_, _, (pdg_name (i := 5) (by trivial) rfl (.inr rfl) (.inl rfl)), (fun _ h => h), (xsum rfl E.b_sum (PWF.d (xlc (map0 [("place", 7)] (iR1 rfl E.b_range (xlen rfl E.b_len (xseqL (xname (i := 1) rfl rfl (.inr (.inl rfl)))) (fun _ => rfl)) (fun _ => rfl)) (by trivial) (fun (x6 : Int) => ⟨_, _, (pdg_name (i := 7) (by trivial) rfl (.inl rfl) (.inr rfl)), (fun _ h => h), (xix ixLG (xix ixLG (xname (i := 2) rfl rfl (.inr (.inl rfl))) (xname (i := 7) rfl rfl (.inl rfl)) (fun _ _ => ixL) (fun _ _ => rfl)) (xix ixTG (xname (i := 5) rfl rfl (.inr (.inl rfl))) (xname (i := 7) rfl rfl (.inl rfl)) (fun _ _ => ixT) (fun _ _ => rfl)) (fun _ _ => ixL) (fun _ _ => rfl))⟩)) (by kernel_rfl) (fun _ _ => rfl))) (fun _ => rfl))⟩)) (by trivial) rfl rfl rfl rfl rfl (by kernel_rfl) (fun _ _ => rfl) (fun sums_4 => vb_ctx (Γ' := [.bx z, .d (cList cInt) sizes0, .d (cList (cList cInt)) ranks_v_1, .d (cList cInt) sums_4, .un, .un, .un, .un, .un]) rfl (vb_ret (PWF.d (xlst (lC (xt2 (aC (PWF.d (xlrgW rfl E.b_list rfl E.b_range (xlen rfl E.b_len (xseqL (xname (i := 1) rfl rfl (.inr (.inl rfl)))) (fun _ => rfl)) (fun _ => rfl) (fun _ => rfl))) (aC (PWF.d (xlc (map0 [("number", 8)] (iL (xname (i := 3) rfl rfl (.inl rfl))) (by trivial) (fun (x7 : Int) => ⟨_, _, (pdg_name (i := 8) (by trivial) rfl (.inl rfl) (.inr rfl)), (fun _ h => h), (xmul (xname (i := 8) rfl rfl (.inl rfl)) (xname (i := 8) rfl rfl (.inl rfl)))⟩)) (by kernel_rfl) (fun _ _ => rfl))) aN (fun _ => rfl)) (fun _ => rfl))) lN (fun _ => rfl)))))))))
  case e => rfl
  case hk => decide
end
end K18

set_option Elab.async false
set_option linter.all false
set_option maxRecDepth 100000
set_option maxHeartbeats 4000000
namespace K18
open PySem PySem.Spec L2 DL
section
variable {P : Program} {w : World} {K : PySem.W.Frag} {mg : Str → Option Value} {base : Heap} {CBook CWish : Addr}
theorem c_l_mind (E : All P w K mg base CBook CWish) : Cal P w K mg base "_law_mind" ["box", "sizes"] 4 (spW (fun b (t : (List Int) × Unit) => [.bx b, .d (cList cInt) t.1]) 17392 (fun t => l_mind t.1) (cList (cT2 (cList cInt) (cList cInt)))) := by
  refine cal_W (N := ["box", "sizes", "way", "many", "lots", "found", "lot", "turn", "block"]) E.D__law_mind (fun _ _ _ _ _ _ us hl => match us, hl with | [_, _], _ => rfl) ⟨rfl, rfl, rfl, by decide +kernel, rfl, by decide +kernel, by decide +kernel⟩ (fun _ _ => rfl) (by decide) (fun _ _ => trivial) fun z t => ?_
  obtain ⟨sizes0, _⟩ := t
  refine' PB.of ?h ?e ?hk
  case h => exact vb_ctx (Γ' := [.bx z, .d (cList cInt) sizes0, .un, .un, .un, .un, .un, .un, .un]) rfl (vb_par 2 3 (PW.px (xcal z (c_l_take E) (show (1 : Nat) ≤ 3 by decide) rfl (aB (i := 0) rfl rfl (.inr (.inl rfl)) (aC (xint (i := 6)) aN (fun _ => rfl))) (fun _ => rfl) (fun _ => rfl))) (PW.px (xlen rfl E.b_len (xseqL (xname (i := 1) rfl rfl (.inr (.inl rfl)))) (fun _ => rfl))) (by trivial) (by trivial) (by decide) rfl rfl rfl rfl (fun _ => rfl) (fun _ => rfl) (fun env he => by cases env; cases he; rfl) (fun env he => by cases env; cases he; rfl) (fun way_1 many_2 => vb_ctx (Γ' := [.bx z, .d (cList cInt) sizes0, .d cInt way_1, .d cInt many_2, .un, .un, .un, .un, .un]) rfl (vb_ifR (tcmpW (fun _ _ => op_eq) (xname (i := 2) rfl rfl (.inl rfl)) (xint (i := 0)) (fun _ _ => rw0 rd_eqI) (nomark _)) (vb_ret (xcal z (c_l_turned E) (show (3 : Nat) ≤ 3 by decide) rfl (aB (i := 0) rfl rfl (.inr (.inl rfl)) (aC (xname (i := 1) rfl rfl (.inr (.inl rfl))) aN (fun _ => rfl))) (fun _ => rfl) (fun _ => rfl))) (vb_ifR (tcmpW (fun _ _ => op_eq) (xname (i := 2) rfl rfl (.inl rfl)) (xint (i := 1)) (fun _ _ => rw0 rd_eqI) (nomark _)) (vb_ret (xcal z (c_l_squares E) (show (2 : Nat) ≤ 3 by decide) rfl (aB (i := 0) rfl rfl (.inr (.inl rfl)) (aC (xname (i := 1) rfl rfl (.inr (.inl rfl))) aN (fun _ => rfl))) (fun _ => rfl) (fun _ => rfl))) (vb_ifR (tcmpW (fun _ _ => op_lt) (xname (i := 2) rfl rfl (.inl rfl)) (xint (i := 4)) (fun _ _ => rw0 rd_B0) (nomark _)) (vb_ret (PWF.d (xlc (mapW 64 [("block", 8)] (iL (xcal z (c_l_blocks E) (show (2 : Nat) ≤ 3 by decide) rfl (aB (i := 0) rfl rfl (.inr (.inl rfl)) (aC (xname (i := 3) rfl rfl (.inl rfl)) aN (fun _ => rfl))) (fun _ => rfl) (fun _ => rfl))) (by trivial) (fun (x5 : List Int) => ⟨_, _, (pdg_name (i := 8) (by trivial) rfl (.inl rfl) (.inr rfl)), (fun _ h => h), (xcal z (c_l_table E) (show (2 : Nat) ≤ 3 by decide) rfl (aB (i := 0) rfl rfl (.inr (.inl rfl)) (aC (xname (i := 1) rfl rfl (.inr (.inl rfl))) (aC (xname (i := 8) rfl rfl (.inl rfl)) aN (fun _ => rfl)) (fun _ => rfl))) (fun _ => rfl) (fun _ => rfl))⟩)) (by kernel_rfl) (fun _ _ => rfl)))) (vb_set 4 (PWF.d (xlc (fiP [("lot", 6)] (iL (xcal 0 (c_l_lots E) (show (1 : Nat) ≤ 3 by decide) rfl (aC (xname (i := 3) rfl rfl (.inl rfl)) aN (fun _ => rfl)) (fun _ => rfl) (fun _ => rfl))) (by trivial) (fun (x11 : List Int) => ⟨_, _, (pdg_name (i := 6) (by trivial) rfl (.inl rfl) (.inr rfl)), (fun _ h => h), (c1W (tcmpW (op_neDG rfl) (xname (i := 6) rfl rfl (.inl rfl)) (PWF.d (xlstP (c := cInt) .nil (by simp))) (fun _ _ => rw0 (rd_neD (eList eInt) (by decide))) (nomark _))), (xname (i := 6) rfl rfl (.inl rfl))⟩)) (by kernel_rfl) (fun _ _ => rfl))) (by trivial) rfl (.inr rfl) (fun env he => sw_cell rfl env he) (.inl rfl) (fun lots_10 => vb_ctx (Γ' := [.bx z, .d (cList cInt) sizes0, .d cInt way_1, .d cInt many_2, .d (cList (cList cInt)) lots_10, .un, .un, .un, .un]) rfl (vb_setLc 5 [("turn", 7)] (mapW 64 [("turn", 7)] (iR1 rfl E.b_range (xix ixLG (PWF.d (xlstP (c := cInt) (.cons (xint (i := 2)) (.cons (xint (i := 1)) (.cons (xint (i := 3)) (.cons (xint (i := 0)) .nil (fun _ => rfl)) (fun _ => rfl)) (fun _ => rfl)) (fun _ => rfl)) (by simp))) (xcal z (c_l_take E) (show (1 : Nat) ≤ 3 by decide) rfl (aB (i := 0) rfl rfl (.inr (.inl rfl)) (aC (xint (i := 4)) aN (fun _ => rfl))) (fun _ => rfl) (fun _ => rfl)) (fun _ _ => ixL) (fun _ _ => rfl)) (fun _ => rfl)) (by trivial) (fun (x13 : Int) => ⟨_, _, (pdg_name (i := 7) (by trivial) rfl (.inl rfl) (.inr rfl)), (fun _ h => h), (xcal z (c_l_table E) (show (2 : Nat) ≤ 3 by decide) rfl (aB (i := 0) rfl rfl (.inr (.inl rfl)) (aC (xname (i := 1) rfl rfl (.inr (.inl rfl))) (aC (xix ixLG (xname (i := 4) rfl rfl (.inr (.inl rfl))) (xcal z (c_l_take E) (show (1 : Nat) ≤ 3 by decide) rfl (aB (i := 0) rfl rfl (.inr (.inl rfl)) (aC (xlen rfl E.b_len (xseqL (xname (i := 4) rfl rfl (.inr (.inl rfl)))) (fun _ => rfl)) aN (fun _ => rfl))) (fun _ => rfl) (fun _ => rfl)) (fun _ _ => ixL) (fun _ _ => rfl)) aN (fun _ => rfl)) (fun _ => rfl))) (fun _ => rfl) (fun _ => rfl))⟩)) (by trivial) rfl rfl rfl rfl rfl (by kernel_rfl) (fun _ _ => rfl) (fun found_12 => vb_ctx (Γ' := [.bx z, .d (cList cInt) sizes0, .d cInt way_1, .d cInt many_2, .d (cList (cList cInt)) lots_10, .d (cList (cT2 (cList cInt) (cList cInt))) found_12, .un, .un, .un]) rfl (vb_ret (xname (i := 5) rfl rfl (.inl rfl))))))))))))
  case e => rfl
  case hk => decide
theorem c_l_chain (E : All P w K mg base CBook CWish) : Cal P w K mg base "_law_chain" ["box", "sizes"] 3 (spW (fun b (t : (List Int) × Unit) => [.bx b, .d (cList cInt) t.1]) 130 (fun t => l_chain t.1) (cList (cT2 (cList cInt) (cList cInt)))) := by
  refine cal_W (N := ["box", "sizes", "order", "found", "k", "places", "scale", "row", "place"]) E.D__law_chain (fun _ _ _ _ _ _ us hl => match us, hl with | [_, _], _ => rfl) ⟨rfl, rfl, rfl, by decide +kernel, rfl, by decide +kernel, by decide +kernel⟩ (fun _ _ => rfl) (by decide) (fun _ _ => trivial) fun z t => ?_
  obtain ⟨sizes0, _⟩ := t
  refine' PB.of ?h ?e ?hk
  case h => exact vb_ctx (Γ' := [.bx z, .d (cList cInt) sizes0, .un, .un, .un, .un, .un, .un, .un]) rfl (vb_par 2 3 (PW.px (xcal z (c_l_mixed_i E) (show (2 : Nat) ≤ 2 by decide) rfl (aB (i := 0) rfl rfl (.inl rfl) (aC (PWF.d (xlrgW rfl E.b_list rfl E.b_range (xlen rfl E.b_len (xseqL (xname (i := 1) rfl rfl (.inr (.inl rfl)))) (fun _ => rfl)) (fun _ => rfl) (fun _ => rfl))) aN (fun _ => rfl))) (fun _ => rfl) (fun _ => rfl))) (PWF.px (xlstP (c := (cT2 (cList cInt) (cList cInt))) .nil (by simp))) (by trivial) (by trivial) (by decide) rfl rfl rfl rfl (fun _ => rfl) (fun _ => rfl) (fun env he => by cases env; cases he; rfl) (fun env he => by cases env; cases he; rfl) (fun order_1 found_2 => vb_ctx (Γ' := [.bx z, .d (cList cInt) sizes0, .d (cList cInt) order_1, .l (cT2 (cList cInt) (cList cInt)) found_2, .un, .un, .un, .un, .un]) rfl (vb_forD 64 (⟨[5, 6, 4], fun (s3 : (List ((List Int) × (List Int)))) => [.bx z, .d (cList cInt) sizes0, .d (cList cInt) order_1, .l (cT2 (cList cInt) (cList cInt)) s3, .un, .un, .un, .un, .un]⟩ : En ((List ((List Int) × (List Int))))) found_2 rfl (iR1 rfl E.b_range (xbin (fun _ _ => op_sub) (xlen rfl E.b_len (xseqL (xname (i := 2) rfl rfl (.inl rfl))) (fun _ => rfl)) (xint (i := 1)) (fun _ _ => rw0 rd_I0)) (fun _ => rfl)) (fun (s3 : (List ((List Int) × (List Int)))) (k_4 : Int) => ⟨_, _, (pdg_name (i := 4) (by trivial) rfl (.inl rfl) (.inl rfl)), (by trivial), vb_ctx (Γ' := [.bx z, .d (cList cInt) sizes0, .d (cList cInt) order_1, .l (cT2 (cList cInt) (cList cInt)) s3, .d cInt k_4, .un, .un, .un, .un]) rfl (vb_unpack (xt2 (aC (PWF.d (xsortI rfl E.b_sorted (PWF.d (xofF (pslL (PW.pd (xname (i := 2) rfl rfl (.inl rfl))) (.some (PW.pd (xname (i := 4) rfl rfl (.inl rfl)))) (.some (PW.pd (xbin (fun _ _ => op_add) (xname (i := 4) rfl rfl (.inl rfl)) (xint (i := 2)) (fun _ _ => rw0 rd_I0))))))) (fun _ => rfl))) (aC (xix ixLG (PWF.d (xlstP (c := cInt) (.cons (xint (i := 1)) (.cons (xint (i := 5)) (.cons (xint (i := 2)) (.cons (xint (i := 3)) (.cons (xint (i := 7)) (.cons (xint (i := 0)) .nil (fun _ => rfl)) (fun _ => rfl)) (fun _ => rfl)) (fun _ => rfl)) (fun _ => rfl)) (fun _ => rfl)) (by simp))) (xcal z (c_l_take E) (show (1 : Nat) ≤ 2 by decide) rfl (aB (i := 0) rfl rfl (.inl rfl) (aC (xint (i := 6)) aN (fun _ => rfl))) (fun _ => rfl) (fun _ => rfl)) (fun _ _ => ixL) (fun _ _ => rfl)) aN (fun _ => rfl)) (fun _ => rfl))) (fun env he => by cases env; cases he; rfl) (fun env he => by cases env; cases he; rfl) (fun _ => rfl) (fun v9 => ⟨_, _, (pdg_t2 (pdg_name (i := 5) (by trivial) rfl (.inl rfl) (.inl rfl)) (pdg_name (i := 6) (by trivial) rfl (.inr rfl) (.inl rfl)) (fun _ => rfl) (fun _ => rfl) (fun _ => rfl) (fun _ => rfl)), (vb_ctx (Γ' := [.bx z, .d (cList cInt) sizes0, .d (cList cInt) order_1, .l (cT2 (cList cInt) (cList cInt)) s3, .d cInt k_4, .d (cList cInt) v9.1, .d cInt v9.2, .un, .un]) rfl (vb_append 3 rfl (xt2 (aC (xname (i := 5) rfl rfl (.inl rfl)) (aC (PWF.d (xlc (map0 [("row", 7)] (iL (xcal 0 (c_l_rows E) (show (1 : Nat) ≤ 2 by decide) rfl (aC (PWF.d (xlc (map0 [("place", 8)] (iL (xname (i := 5) rfl rfl (.inl rfl))) (by trivial) (fun (x10 : Int) => ⟨_, _, (pdg_name (i := 8) (by trivial) rfl (.inl rfl) (.inr rfl)), (fun _ h => h), (xix ixLG (xname (i := 1) rfl rfl (.inr (.inl rfl))) (xname (i := 8) rfl rfl (.inl rfl)) (fun _ _ => ixL) (fun _ _ => rfl))⟩)) (by kernel_rfl) (fun _ _ => rfl))) aN (fun _ => rfl)) (fun _ => rfl) (fun _ => rfl))) (by trivial) (fun (x11 : List Int) => ⟨_, _, (pdg_name (i := 7) (by trivial) rfl (.inl rfl) (.inr rfl)), (fun _ h => h), (xmul (xname (i := 6) rfl rfl (.inr (.inl rfl))) (xmodC (by decide) (xsumT rfl E.b_sum (xname (i := 7) rfl rfl (.inl rfl)) (fun _ => rfl)) (xint (i := 2))))⟩)) (by kernel_rfl) (fun _ _ => rfl))) aN (fun _ => rfl)) (fun _ => rfl))) rfl (.inl rfl) (fun _ => rfl) rfl (fun _ => rfl) (fun _ => rfl) (fun v12 => vb_ctx (Γ' := [.bx z, .d (cList cInt) sizes0, .d (cList cInt) order_1, .l (cT2 (cList cInt) (cList cInt)) (s3 ++ [v12]), .d cInt k_4, .d (cList cInt) v9.1, .d cInt v9.2, .un, .un]) rfl (vb_nil (s3 ++ [v12]) rfl))))⟩))⟩) (fun _ _ => rfl) (fun s3 => (vb_freeze 3 rfl (by trivial) (vb_ctx (Γ' := [.bx z, .d (cList cInt) sizes0, .d (cList cInt) order_1, .d (cList (cT2 (cList cInt) (cList cInt))) s3, .un, .un, .un, .un, .un]) rfl (vb_ret (xname (i := 3) rfl rfl (.inl rfl)))))))))
  case e => rfl
  case hk => decide
theorem c_l_made (E : All P w K mg base CBook CWish) : Cal P w K mg base "_law_made" ["sizes", "tables"] 10 (spW (fun _ (t : (List Int) × (List ((List Int) × (List Int))) × Unit) => [.d (cList cInt) t.1, .d (cList (cT2 (cList cInt) (cList cInt))) t.2.1]) 0 (fun t => l_made t.1 t.2.1) (cWish CBook CWish)) := by
  refine cal_W (N := ["sizes", "tables", "places", "worths"]) E.D__law_made (fun _ _ _ _ _ _ us hl => match us, hl with | [_, _], _ => rfl) ⟨rfl, rfl, rfl, by decide +kernel, rfl, by decide +kernel, by decide +kernel⟩ (fun _ _ => rfl) (by decide) (fun _ _ => trivial) fun z t => ?_
  obtain ⟨sizes0, tables0, _⟩ := t
  refine' PB.of ?h ?e ?hk
  case h => exact vb_ctx (Γ' := [.d (cList cInt) sizes0, .d (cList (cT2 (cList cInt) (cList cInt))) tables0, .un, .un]) rfl (vb_ret (xmake (c_m_Wish___init__ E) (show (8 + 1 : Nat) ≤ 9 by decide) rfl E.mgWish (fun _ => trivial) (aC (xmake (c_m_Book___init__ E) (show (3 + 1 : Nat) ≤ 9 by decide) rfl E.mgBook (fun _ => trivial) (aC (PWF.d (xlist rfl E.b_list (xseqL (xname (i := 0) rfl rfl (.inl rfl))) (fun _ => rfl))) aN (fun _ => rfl)) (fun _ => rfl) (fun _ => rfl)) (aC (PWF.d (xlc (maP [("places", 2), ("worths", 3)] (iL (xname (i := 1) rfl rfl (.inl rfl))) (by trivial) (fun (x1 : (List Int) × (List Int)) => ⟨_, _, (pdg_t2 (pdg_name (i := 2) (by trivial) rfl (.inl rfl) (.inr rfl)) (pdg_name (i := 3) (by trivial) rfl (.inl rfl) (.inr rfl)) (fun _ => rfl) (fun _ => rfl) (fun _ => rfl) (fun _ => rfl)), (fun _ h => h), (xt2 (aC (PWF.d (xlist rfl E.b_list (xseqL (xname (i := 2) rfl rfl (.inl rfl))) (fun _ => rfl))) (aC (PWF.d (xlist rfl E.b_list (xseqL (xname (i := 3) rfl rfl (.inl rfl))) (fun _ => rfl))) aN (fun _ => rfl)) (fun _ => rfl)))⟩)) (by kernel_rfl) (fun _ _ => rfl))) aN (fun _ => rfl)) (fun _ => rfl)) (fun _ => rfl) (fun _ => rfl)))
  case e => rfl
  case hk => decide
theorem c_l_put (E : All P w K mg base CBook CWish) : Cal P w K mg base "_law_put" ["sizes", "places", "row"] 1 (spW (fun _ (t : (List Int) × (List Int) × (List Int) × Unit) => [.d (cList cInt) t.1, .d (cList cInt) t.2.1, .d (cTup cInt) t.2.2.1]) 0 (fun t => l_put t.1 t.2.1 t.2.2.1) (cList cInt)) := by
  refine cal_W (N := ["sizes", "places", "row", "found", "k"]) E.D__law_put (fun _ _ _ _ _ _ us hl => match us, hl with | [_, _, _], _ => rfl) ⟨rfl, rfl, rfl, by decide +kernel, rfl, by decide +kernel, by decide +kernel⟩ (fun _ _ => rfl) (by decide) (fun _ _ => trivial) fun z t => ?_
  obtain ⟨sizes0, places0, row0, _⟩ := t
  refine' PB.of ?h ?e ?hk
  case h => exact vb_ctx (Γ' := [.d (cList cInt) sizes0, .d (cList cInt) places0, .d (cTup cInt) row0, .un, .un]) rfl (vb_setL 3 (xrepF (PWF.d (xlstP (c := cInt) (.cons (xint (i := 0)) .nil (fun _ => rfl)) (by simp))) (xlen rfl E.b_len (xseqL (xname (i := 0) rfl rfl (.inl rfl))) (fun _ => rfl))) (by trivial) rfl (.inl rfl) (fun env he => by cases env; cases he; rfl) (.inl rfl) (fun found_1 => vb_ctx (Γ' := [.d (cList cInt) sizes0, .d (cList cInt) places0, .d (cTup cInt) row0, .l cInt found_1, .un]) rfl (vb_for (⟨[4], fun (s2 : (List Int)) => [.d (cList cInt) sizes0, .d (cList cInt) places0, .d (cTup cInt) row0, .l cInt s2, .un]⟩ : En ((List Int))) found_1 rfl (iR1 rfl E.b_range (xlen rfl E.b_len (xseqL (xname (i := 1) rfl rfl (.inl rfl))) (fun _ => rfl)) (fun _ => rfl)) (fun (s2 : (List Int)) (k_3 : Int) => ⟨_, _, (pdg_name (i := 4) (by trivial) rfl (.inl rfl) (.inl rfl)), (by trivial), vb_ctx (Γ' := [.d (cList cInt) sizes0, .d (cList cInt) places0, .d (cTup cInt) row0, .l cInt s2, .d cInt k_3]) rfl (vb_setItem 3 rfl (xix ixTG (xname (i := 2) rfl rfl (.inl rfl)) (xname (i := 4) rfl rfl (.inl rfl)) (fun _ _ => ixT) (fun _ _ => rfl)) (xix ixLG (xname (i := 1) rfl rfl (.inl rfl)) (xname (i := 4) rfl rfl (.inl rfl)) (fun _ _ => ixL) (fun _ _ => rfl)) rfl (.inl rfl) (fun _ _ => rfl) (fun _ => rfl) (fun _ => rfl) (fun _ => rfl) (fun v8 i9 => vb_ctx (Γ' := [.d (cList cInt) sizes0, .d (cList cInt) places0, .d (cTup cInt) row0, .l cInt (s2.set (ixS s2.length i9) v8), .d cInt k_3]) rfl (vb_nil (s2.set (ixS s2.length i9) v8) rfl)))⟩) (fun _ _ => rfl) (fun s2 => (vb_freeze 3 rfl (by trivial) (vb_ctx (Γ' := [.d (cList cInt) sizes0, .d (cList cInt) places0, .d (cTup cInt) row0, .d (cList cInt) s2, .un]) rfl (vb_ret (xname (i := 3) rfl rfl (.inl rfl)))))))))
  case e => rfl
  case hk => decide
theorem c_l_order (E : All P w K mg base CBook CWish) : Cal P w K mg base "_law_order" ["numbers"] 1 (spW (fun _ (t : (List Int) × Unit) => [.d (cList cInt) t.1]) 0 (fun t => l_order t.1) (cList cInt)) := by
  refine cal_W (N := ["numbers", "every", "number"]) E.D__law_order (fun _ _ _ _ _ _ us hl => match us, hl with | [_], _ => rfl) ⟨rfl, rfl, rfl, by decide +kernel, rfl, by decide +kernel, by decide +kernel⟩ (fun _ _ => rfl) (by decide) (fun _ _ => trivial) fun z t => ?_
  obtain ⟨numbers0, _⟩ := t
  refine' PB.of ?h ?e ?hk
  case h => exact vb_ctx (Γ' := [.d (cList cInt) numbers0, .un, .un]) rfl (vb_set 1 (PWF.d (xsortBig rfl E.b_sorted (xset rfl E.b_set (xseqL (xname (i := 0) rfl rfl (.inl rfl))) (fun _ => rfl)) (fun _ => rfl))) (by trivial) rfl (.inr rfl) (fun env he => sw_cell rfl env he) (.inl rfl) (fun every_1 => vb_ctx (Γ' := [.d (cList cInt) numbers0, .d (cList cInt) every_1, .un]) rfl (vb_ret (PWF.d (xlc (map0 [("number", 2)] (iL (xname (i := 0) rfl rfl (.inl rfl))) (by trivial) (fun (x2 : Int) => ⟨_, _, (pdg_name (i := 2) (by trivial) rfl (.inl rfl) (.inr rfl)), (fun _ h => h), (xindex (xname (i := 1) rfl rfl (.inr (.inl rfl))) (xname (i := 2) rfl rfl (.inl rfl)) (fun _ => rfl) (fun _ => rfl) rfl (fun _ => rfl))⟩)) (by kernel_rfl) (fun _ _ => rfl))))))
  case e => rfl
  case hk => decide
theorem c_l_is_apart (E : All P w K mg base CBook CWish) : Cal P w K mg base "_law_is_apart" ["worths", "sizes", "places"] 2 (spW (fun _ (t : (List (List Int × Int)) × (List Int) × (List Int) × Unit) => [.d (cDt P w cInt) t.1, .d (cList cInt) t.2.1, .d (cList cInt) t.2.2.1]) 0 (fun t => l_is_apart t.1 t.2.1 t.2.2.1) cBool) := by
  refine cal_W (N := ["worths", "sizes", "places", "beside", "first", "rest", "base", "numbers", "row", "text", "k", "place"]) E.D__law_is_apart (fun _ _ _ _ _ _ us hl => match us, hl with | [_, _, _], _ => rfl) ⟨rfl, rfl, rfl, by decide +kernel, rfl, by decide +kernel, by decide +kernel⟩ (fun _ _ => rfl) (by decide) (fun _ _ => trivial) fun z t => ?_
  obtain ⟨worths0, sizes0, places0, _⟩ := t
  refine' PB.of ?h ?e ?hk
  case h => exact vb_ctx (Γ' := [.d (cDt P w cInt) worths0, .d (cList cInt) sizes0, .d (cList cInt) places0, .un, .un, .un, .un, .un, .un, .un, .un, .un]) rfl (vb_par 3 4 (PW.px (PWF.d (xlc (fiP [("place", 11)] (iR1 rfl E.b_range (xlen rfl E.b_len (xseqL (xname (i := 1) rfl rfl (.inr (.inl rfl)))) (fun _ => rfl)) (fun _ => rfl)) (by trivial) (fun (x1 : Int) => ⟨_, _, (pdg_name (i := 11) (by trivial) rfl (.inl rfl) (.inr rfl)), (fun _ h => h), (c1W (tcmpW op_notInG (xname (i := 11) rfl rfl (.inl rfl)) (xname (i := 2) rfl rfl (.inr (.inl rfl))) (fun _ _ => rw0 rd_inI1) rfl)), (xname (i := 11) rfl rfl (.inl rfl))⟩)) (by kernel_rfl) (fun _ _ => rfl)))) (PW.px xnoneO) (by trivial) (by trivial) (by decide) rfl rfl rfl rfl (fun _ => rfl) (fun _ => rfl) (fun env he => by cases env; cases he; rfl) (fun env he => by cases env; cases he; rfl) (fun beside_2 first_3 => vb_ctx (Γ' := [.d (cDt P w cInt) worths0, .d (cList cInt) sizes0, .d (cList cInt) places0, .d (cList cInt) beside_2, .d (cOpt (cList cInt)) first_3, .un, .un, .un, .un, .un, .un, .un]) rfl (vb_for (⟨[6, 7, 8, 9, 10, 5], fun (s5 : (Option (List Int))) => [.d (cDt P w cInt) worths0, .d (cList cInt) sizes0, .d (cList cInt) places0, .d (cList cInt) beside_2, .d (cOpt (cList cInt)) s5, .un, .un, .un, .un, .un, .un, .un]⟩ : En ((Option (List Int)))) first_3 rfl (iL (xcal 0 (c_l_rows E) (show (1 : Nat) ≤ 1 by decide) rfl (aC (PWF.d (xlc (map0 [("place", 11)] (iL (xname (i := 3) rfl rfl (.inl rfl))) (by trivial) (fun (x4 : Int) => ⟨_, _, (pdg_name (i := 11) (by trivial) rfl (.inl rfl) (.inr rfl)), (fun _ h => h), (xix ixLG (xname (i := 1) rfl rfl (.inr (.inl rfl))) (xname (i := 11) rfl rfl (.inl rfl)) (fun _ _ => ixL) (fun _ _ => rfl))⟩)) (by kernel_rfl) (fun _ _ => rfl))) aN (fun _ => rfl)) (fun _ => rfl) (fun _ => rfl))) (fun (s5 : (Option (List Int))) (rest_6 : List Int) => ⟨_, _, (pdg_name (i := 5) (by trivial) rfl (.inl rfl) (.inl rfl)), (by trivial), vb_ctx (Γ' := [.d (cDt P w cInt) worths0, .d (cList cInt) sizes0, .d (cList cInt) places0, .d (cList cInt) beside_2, .d (cOpt (cList cInt)) s5, .d (cTup cInt) rest_6, .un, .un, .un, .un, .un, .un]) rfl (vb_par 6 7 (PW.px (xcal 0 (c_l_put E) (show (1 : Nat) ≤ 1 by decide) rfl (aC (xname (i := 1) rfl rfl (.inr (.inl rfl))) (aC (xname (i := 3) rfl rfl (.inl rfl)) (aC (xname (i := 5) rfl rfl (.inl rfl)) aN (fun _ => rfl)) (fun _ => rfl)) (fun _ => rfl)) (fun _ => rfl) (fun _ => rfl))) (PWF.px (xlstP (c := cInt) .nil (by simp))) (by trivial) (by trivial) (by decide) rfl rfl rfl rfl (fun _ => rfl) (fun _ => rfl) (fun env he => by cases env; cases he; rfl) (fun env he => by cases env; cases he; rfl) (fun base_11 numbers_12 => vb_ctx (Γ' := [.d (cDt P w cInt) worths0, .d (cList cInt) sizes0, .d (cList cInt) places0, .d (cList cInt) beside_2, .d (cOpt (cList cInt)) s5, .d (cTup cInt) rest_6, .d (cList cInt) base_11, .l cInt numbers_12, .un, .un, .un, .un]) rfl (vb_for (⟨[9, 10, 8], fun (s14 : (List Int)) => [.d (cDt P w cInt) worths0, .d (cList cInt) sizes0, .d (cList cInt) places0, .d (cList cInt) beside_2, .d (cOpt (cList cInt)) s5, .d (cTup cInt) rest_6, .d (cList cInt) base_11, .l cInt s14, .un, .un, .un, .un]⟩ : En ((List Int))) numbers_12 rfl (iL (xcal 0 (c_l_rows E) (show (1 : Nat) ≤ 1 by decide) rfl (aC (PWF.d (xlc (map0 [("place", 11)] (iL (xname (i := 2) rfl rfl (.inr (.inl rfl)))) (by trivial) (fun (x13 : Int) => ⟨_, _, (pdg_name (i := 11) (by trivial) rfl (.inl rfl) (.inr rfl)), (fun _ h => h), (xix ixLG (xname (i := 1) rfl rfl (.inr (.inl rfl))) (xname (i := 11) rfl rfl (.inl rfl)) (fun _ _ => ixL) (fun _ _ => rfl))⟩)) (by kernel_rfl) (fun _ _ => rfl))) aN (fun _ => rfl)) (fun _ => rfl) (fun _ => rfl))) (fun (s14 : (List Int)) (row_15 : List Int) => ⟨_, _, (pdg_name (i := 8) (by trivial) rfl (.inl rfl) (.inl rfl)), (by trivial), vb_ctx (Γ' := [.d (cDt P w cInt) worths0, .d (cList cInt) sizes0, .d (cList cInt) places0, .d (cList cInt) beside_2, .d (cOpt (cList cInt)) s5, .d (cTup cInt) rest_6, .d (cList cInt) base_11, .l cInt s14, .d (cTup cInt) row_15, .un, .un, .un]) rfl (vb_setL 9 (xlist rfl E.b_list (xseqL (xname (i := 6) rfl rfl (.inl rfl))) (fun _ => rfl)) (by trivial) rfl (.inl rfl) (fun env he => by cases env; cases he; rfl) (.inl rfl) (fun text_20 => vb_ctx (Γ' := [.d (cDt P w cInt) worths0, .d (cList cInt) sizes0, .d (cList cInt) places0, .d (cList cInt) beside_2, .d (cOpt (cList cInt)) s5, .d (cTup cInt) rest_6, .d (cList cInt) base_11, .l cInt s14, .d (cTup cInt) row_15, .l cInt text_20, .un, .un]) rfl (vb_for (⟨[10], fun (s21 : (List Int)) => [.d (cDt P w cInt) worths0, .d (cList cInt) sizes0, .d (cList cInt) places0, .d (cList cInt) beside_2, .d (cOpt (cList cInt)) s5, .d (cTup cInt) rest_6, .d (cList cInt) base_11, .l cInt s14, .d (cTup cInt) row_15, .l cInt s21, .un, .un]⟩ : En ((List Int))) text_20 rfl (iR1 rfl E.b_range (xlen rfl E.b_len (xseqL (xname (i := 2) rfl rfl (.inr (.inl rfl)))) (fun _ => rfl)) (fun _ => rfl)) (fun (s21 : (List Int)) (k_22 : Int) => ⟨_, _, (pdg_name (i := 10) (by trivial) rfl (.inl rfl) (.inl rfl)), (by trivial), vb_ctx (Γ' := [.d (cDt P w cInt) worths0, .d (cList cInt) sizes0, .d (cList cInt) places0, .d (cList cInt) beside_2, .d (cOpt (cList cInt)) s5, .d (cTup cInt) rest_6, .d (cList cInt) base_11, .l cInt s14, .d (cTup cInt) row_15, .l cInt s21, .d cInt k_22, .un]) rfl (vb_setItem 9 rfl (xix ixTG (xname (i := 8) rfl rfl (.inl rfl)) (xname (i := 10) rfl rfl (.inl rfl)) (fun _ _ => ixT) (fun _ _ => rfl)) (xix ixLG (xname (i := 2) rfl rfl (.inr (.inl rfl))) (xname (i := 10) rfl rfl (.inl rfl)) (fun _ _ => ixL) (fun _ _ => rfl)) rfl (.inl rfl) (fun _ _ => rfl) (fun _ => rfl) (fun _ => rfl) (fun _ => rfl) (fun v27 i28 => vb_ctx (Γ' := [.d (cDt P w cInt) worths0, .d (cList cInt) sizes0, .d (cList cInt) places0, .d (cList cInt) beside_2, .d (cOpt (cList cInt)) s5, .d (cTup cInt) rest_6, .d (cList cInt) base_11, .l cInt s14, .d (cTup cInt) row_15, .l cInt (s21.set (ixS s21.length i28) v27), .d cInt k_22, .un]) rfl (vb_nil (s21.set (ixS s21.length i28) v27) rfl)))⟩) (fun _ _ => rfl) (fun s21 => (vb_append 7 rfl (vN (i := 9) rfl nl_int (xgetT (xname (i := 0) rfl rfl (.inl rfl)) (xtuple rfl E.b_tuple (xseqL (xname (i := 9) rfl rfl (.inl rfl))) (fun _ => rfl)) (fun _ _ => rfl))) rfl (.inl rfl) (fun _ => rfl) rfl (fun _ => rfl) (fun _ => rfl) (fun v29 => vb_ctx (Γ' := [.d (cDt P w cInt) worths0, .d (cList cInt) sizes0, .d (cList cInt) places0, .d (cList cInt) beside_2, .d (cOpt (cList cInt)) s5, .d (cTup cInt) rest_6, .d (cList cInt) base_11, .l cInt (s14 ++ [v29]), .d (cTup cInt) row_15, .l cInt s21, .un, .un]) rfl (vb_nil (s14 ++ [v29]) rfl)))))))⟩) (fun _ _ => rfl) (fun s14 => (vb_freeze 7 rfl (by trivial) (vb_ctx (Γ' := [.d (cDt P w cInt) worths0, .d (cList cInt) sizes0, .d (cList cInt) places0, .d (cList cInt) beside_2, .d (cOpt (cList cInt)) s5, .d (cTup cInt) rest_6, .d (cList cInt) base_11, .d (cList cInt) s14, .un, .un, .un, .un]) rfl (vb_set 4 (xif (tcmpW (fun _ _ => op_isN) (xname (i := 4) rfl rfl (.inl rfl)) xnone (fun _ _ => rw0 (rd_isNO nn_list)) rfl) (xsome (xcal 0 (c_l_order E) (show (1 : Nat) ≤ 1 by decide) rfl (aC (xname (i := 7) rfl rfl (.inl rfl)) aN (fun _ => rfl)) (fun _ => rfl) (fun _ => rfl))) (xname (i := 4) rfl rfl (.inl rfl))) (by trivial) rfl (.inl rfl) (fun env he => by cases env; cases he; rfl) (.inl rfl) (fun first_32 => vb_ctx (Γ' := [.d (cDt P w cInt) worths0, .d (cList cInt) sizes0, .d (cList cInt) places0, .d (cList cInt) beside_2, .d (cOpt (cList cInt)) first_32, .d (cTup cInt) rest_6, .d (cList cInt) base_11, .d (cList cInt) s14, .un, .un, .un, .un]) rfl (vb_ifR (tcmpW (op_neDG rfl) (xsome (xcal 0 (c_l_order E) (show (1 : Nat) ≤ 1 by decide) rfl (aC (xname (i := 7) rfl rfl (.inl rfl)) aN (fun _ => rfl)) (fun _ => rfl) (fun _ => rfl))) (xname (i := 4) rfl rfl (.inl rfl)) (fun _ _ => rw0 (rd_neD (eOptL eInt) (by decide))) (nomark _)) (vb_ret xbool) (vb_nil first_32 rfl))))))))))⟩) (fun _ _ => rfl) (fun s5 => (vb_ret xbool)))))
  case e => rfl
  case hk => decide
end
end K18

set_option Elab.async false
set_option linter.all false
set_option maxRecDepth 100000
set_option maxHeartbeats 4000000
namespace K18
open PySem PySem.Spec L2 DL
section
variable {P : Program} {w : World} {K : PySem.W.Frag} {mg : Str → Option Value} {base : Heap} {CBook CWish : Addr}
theorem c_l_scene (E : All P w K mg base CBook CWish) : Cal P w K mg base "_law_scene" ["box", "large"] 5 (spW (fun b (t : Bool × Unit) => [.bx b, .d cBool t.1]) 17697 (fun t => l_scene t.1) (cL2 (cList cInt) (cList (cT2 (cList cInt) (cList cInt))))) := by
  refine cal_W (N := ["box", "large", "way", "worths", "scale", "other", "found", "more", "sizes", "worth"]) E.D__law_scene (fun _ _ _ _ _ _ us hl => match us, hl with | [_, _], _ => rfl) ⟨rfl, rfl, rfl, by decide +kernel, rfl, by decide +kernel, by decide +kernel⟩ (fun _ _ => rfl) (by decide) (fun _ _ => trivial) fun z t => ?_
  obtain ⟨large0, _⟩ := t
  refine' PB.of ?h ?e ?hk
  case h => exact vb_ctx (Γ' := [.bx z, .d cBool large0, .un, .un, .un, .un, .un, .un, .un, .un]) rfl (vb_set 2 (xcal z (c_l_take E) (show (1 : Nat) ≤ 4 by decide) rfl (aB (i := 0) rfl rfl (.inl rfl) (aC (xint (i := 5)) aN (fun _ => rfl))) (fun _ => rfl) (fun _ => rfl)) (by trivial) rfl (.inl rfl) (fun env he => by cases env; cases he; rfl) (.inl rfl) (fun way_1 => vb_ctx (Γ' := [.bx z, .d cBool large0, .d cInt way_1, .un, .un, .un, .un, .un, .un, .un]) rfl (vb_ifR (tcmpW (fun _ _ => op_eq) (xname (i := 2) rfl rfl (.inl rfl)) (xint (i := 0)) (fun _ _ => rw0 rd_eqI) (nomark _)) (vb_set 3 (PWF.d (xlstP (c := cInt) (.cons (xint (i := 0)) (.cons (xint (i := 1)) (.cons (xint (i := 2)) (.cons (xint (i := 6)) (.cons (xint (i := 3)) (.cons (xint (i := 5)) (.cons (xint (i := 4)) (.cons (xint (i := 7)) .nil (fun _ => rfl)) (fun _ => rfl)) (fun _ => rfl)) (fun _ => rfl)) (fun _ => rfl)) (fun _ => rfl)) (fun _ => rfl)) (fun _ => rfl)) (by simp))) (by trivial) rfl (.inl rfl) (fun env he => by cases env; cases he; rfl) (.inl rfl) (fun worths_2 => vb_ctx (Γ' := [.bx z, .d cBool large0, .d cInt way_1, .d (cList cInt) worths_2, .un, .un, .un, .un, .un, .un]) rfl (vb_unpack (xt2 (aC (xbin (fun _ _ => op_add) (xint (i := 1)) (xcal z (c_l_take E) (show (1 : Nat) ≤ 4 by decide) rfl (aB (i := 0) rfl rfl (.inl rfl) (aC (xint (i := 9)) aN (fun _ => rfl))) (fun _ => rfl) (fun _ => rfl)) (fun _ _ => rw0 rd_I0)) (aC (PWF.d (xlst (lC (xmulD (by decide) (xint (i := 3)) (xcal z (c_l_take E) (show (1 : Nat) ≤ 4 by decide) rfl (aB (i := 0) rfl rfl (.inl rfl) (aC (xint (i := 3)) aN (fun _ => rfl))) (fun _ => rfl) (fun _ => rfl))) (lC (xint (i := 0)) lN (fun _ => rfl)) (fun _ => rfl)))) aN (fun _ => rfl)) (fun _ => rfl))) (fun env he => by cases env; cases he; rfl) (fun env he => by cases env; cases he; rfl) (fun _ => rfl) (fun v3 => ⟨_, _, (pdg_t2 (pdg_name (i := 4) (by trivial) rfl (.inr rfl) (.inl rfl)) (pdg_name (i := 5) (by trivial) rfl (.inl rfl) (.inl rfl)) (fun _ => rfl) (fun _ => rfl) (fun _ => rfl) (fun _ => rfl)), (vb_ctx (Γ' := [.bx z, .d cBool large0, .d cInt way_1, .d (cList cInt) worths_2, .d cInt v3.1, .d (cList cInt) v3.2, .un, .un, .un, .un]) rfl (vb_set 6 (PWF.d (xlst (lC (xt2 (aC (PWF.d (xlstP (c := cInt) (.cons (xint (i := 0)) (.cons (xint (i := 1)) (.cons (xint (i := 2)) .nil (fun _ => rfl)) (fun _ => rfl)) (fun _ => rfl)) (by simp))) (aC (PWF.d (xlc (map0 [("worth", 9)] (iL (xname (i := 3) rfl rfl (.inl rfl))) (by trivial) (fun (x5 : Int) => ⟨_, _, (pdg_name (i := 9) (by trivial) rfl (.inl rfl) (.inr rfl)), (fun _ h => h), (xmul (xname (i := 9) rfl rfl (.inl rfl)) (xname (i := 4) rfl rfl (.inr (.inl rfl))))⟩)) (by kernel_rfl) (fun _ _ => rfl))) aN (fun _ => rfl)) (fun _ => rfl))) lN (fun _ => rfl)))) (by trivial) rfl (.inl rfl) (fun env he => by cases env; cases he; rfl) (.inl rfl) (fun found_4 => vb_ctx (Γ' := [.bx z, .d cBool large0, .d cInt way_1, .d (cList cInt) worths_2, .d cInt v3.1, .d (cList cInt) v3.2, .d (cList (cT2 (cList cInt) (cList cInt))) found_4, .un, .un, .un]) rfl (vb_ifR (tcmpW (fun _ _ => op_eq) (xcal z (c_l_take E) (show (1 : Nat) ≤ 4 by decide) rfl (aB (i := 0) rfl rfl (.inl rfl) (aC (xint (i := 2)) aN (fun _ => rfl))) (fun _ => rfl) (fun _ => rfl)) (xint (i := 0)) (fun _ _ => rw0 rd_eqI) (nomark _)) (vb_ret (xL2 (aC (PWF.d (xlstP (c := cInt) (.cons (xint (i := 2)) (.cons (xint (i := 2)) (.cons (xint (i := 2)) .nil (fun _ => rfl)) (fun _ => rfl)) (fun _ => rfl)) (by simp))) (aC (xname (i := 6) rfl rfl (.inl rfl)) aN (fun _ => rfl)) (fun _ => rfl)))) (vb_set 7 (xif (tcmpW (fun _ _ => op_eq) (xcal z (c_l_take E) (show (1 : Nat) ≤ 4 by decide) rfl (aB (i := 0) rfl rfl (.inl rfl) (aC (xint (i := 2)) aN (fun _ => rfl))) (fun _ => rfl) (fun _ => rfl)) (xint (i := 0)) (fun _ _ => rw0 rd_eqI) (nomark _)) (PWF.d (xlst (lC (xt2 (aC (PWF.d (xlstP (c := cInt) (.cons (xint (i := 2)) (.cons (xint (i := 3)) .nil (fun _ => rfl)) (fun _ => rfl)) (by simp))) (aC (PWF.d (xlst (lC (xint (i := 0)) (lC (xint (i := 0)) (lC (xint (i := 0)) (lC (xix ixLG (xname (i := 5) rfl rfl (.inl rfl)) (xint (i := 0)) (fun _ _ => ixL) (fun _ _ => rfl)) lN (fun _ => rfl)) (fun _ => rfl)) (fun _ => rfl)) (fun _ => rfl)))) aN (fun _ => rfl)) (fun _ => rfl))) lN (fun _ => rfl)))) (PWF.d (xlstP (c := (cT2 (cList cInt) (cList cInt))) .nil (by simp)))) (by trivial) rfl (.inl rfl) (fun env he => by cases env; cases he; rfl) (.inl rfl) (fun more_6 => vb_ctx (Γ' := [.bx z, .d cBool large0, .d cInt way_1, .d (cList cInt) worths_2, .d cInt v3.1, .d (cList cInt) v3.2, .d (cList (cT2 (cList cInt) (cList cInt))) found_4, .d (cList (cT2 (cList cInt) (cList cInt))) more_6, .un, .un]) rfl (vb_ret (xL2 (aC (PWF.d (xlstP (c := cInt) (.cons (xint (i := 2)) (.cons (xint (i := 2)) (.cons (xint (i := 2)) (.cons (xint (i := 2)) .nil (fun _ => rfl)) (fun _ => rfl)) (fun _ => rfl)) (fun _ => rfl)) (by simp))) (aC (PWF.d (xcat (PWF.d (xcat (xname (i := 6) rfl rfl (.inl rfl)) (PWF.d (xlstP (c := (cT2 (cList cInt) (cList cInt))) (.cons (xt2 (aC (PWF.d (xlstP (c := cInt) (.cons (xint (i := 3)) .nil (fun _ => rfl)) (by simp))) (aC (xname (i := 5) rfl rfl (.inl rfl)) aN (fun _ => rfl)) (fun _ => rfl))) .nil (fun _ => rfl)) (by simp))))) (xname (i := 7) rfl rfl (.inl rfl)))) aN (fun _ => rfl)) (fun _ => rfl))))))))))⟩)))) (vb_set 8 (xcal z (c_l_sizes E) (show (2 : Nat) ≤ 4 by decide) rfl (aB (i := 0) rfl rfl (.inl rfl) (aC (xname (i := 1) rfl rfl (.inl rfl)) aN (fun _ => rfl))) (fun _ => rfl) (fun _ => rfl)) (by trivial) rfl (.inl rfl) (fun env he => by cases env; cases he; rfl) (.inl rfl) (fun sizes_16 => vb_ctx (Γ' := [.bx z, .d cBool large0, .d cInt way_1, .un, .un, .un, .un, .un, .d (cList cInt) sizes_16, .un]) rfl (vb_ifR (twW (wandW (tcmpW (fun _ _ => op_gt) (xlen rfl E.b_len (xseqL (xname (i := 8) rfl rfl (.inl rfl))) (fun _ => rfl)) (xint (i := 4)) (fun _ _ => rw0 rd_B0) (nomark _)) (wand1 (tcmpW (fun _ _ => op_eq) (xcal z (c_l_take E) (show (1 : Nat) ≤ 4 by decide) rfl (aB (i := 0) rfl rfl (.inl rfl) (aC (xint (i := 2)) aN (fun _ => rfl))) (fun _ => rfl) (fun _ => rfl)) (xint (i := 0)) (fun _ _ => rw0 rd_eqI) (nomark _))))) (vb_ret (xL2 (aC (xname (i := 8) rfl rfl (.inl rfl)) (aC (xcal z (c_l_chain E) (show (3 : Nat) ≤ 4 by decide) rfl (aB (i := 0) rfl rfl (.inl rfl) (aC (xname (i := 8) rfl rfl (.inl rfl)) aN (fun _ => rfl))) (fun _ => rfl) (fun _ => rfl)) aN (fun _ => rfl)) (fun _ => rfl)))) (vb_ifR (tcmpW (fun _ _ => op_eq) (xname (i := 2) rfl rfl (.inl rfl)) (xint (i := 1)) (fun _ _ => rw0 rd_eqI) (nomark _)) (vb_ret (xL2 (aC (xname (i := 8) rfl rfl (.inl rfl)) (aC (xcal z (c_l_turned E) (show (3 : Nat) ≤ 4 by decide) rfl (aB (i := 0) rfl rfl (.inl rfl) (aC (xname (i := 8) rfl rfl (.inl rfl)) aN (fun _ => rfl))) (fun _ => rfl) (fun _ => rfl)) aN (fun _ => rfl)) (fun _ => rfl)))) (vb_ret (xL2 (aC (xname (i := 8) rfl rfl (.inl rfl)) (aC (xcal z (c_l_mind E) (show (4 : Nat) ≤ 4 by decide) rfl (aB (i := 0) rfl rfl (.inl rfl) (aC (xname (i := 8) rfl rfl (.inl rfl)) aN (fun _ => rfl))) (fun _ => rfl) (fun _ => rfl)) aN (fun _ => rfl)) (fun _ => rfl)))))))))))
  case e => rfl
  case hk => decide
theorem c_l_meet (E : All P w K mg base CBook CWish) : Cal P w K mg base "_law_meet" ["lists", "many"] 1 (spW (fun _ (t : (List (List Int)) × Int × Unit) => [.d (cList (cList cInt)) t.1, .d cInt t.2.1]) 0 (fun t => l_meet t.1 t.2.1) (cList cInt)) := by
  refine cal_W (N := ["lists", "many", "place", "lot"]) E.D__law_meet (fun _ _ _ _ _ _ us hl => match us, hl with | [_, _], _ => rfl) ⟨rfl, rfl, rfl, by decide +kernel, rfl, by decide +kernel, by decide +kernel⟩ (fun _ _ => rfl) (by decide) (fun _ _ => trivial) fun z t => ?_
  obtain ⟨lists0, many0, _⟩ := t
  refine' PB.of ?h ?e ?hk
  case h => exact vb_ctx (Γ' := [.d (cList (cList cInt)) lists0, .d cInt many0, .un, .un]) rfl (vb_ret (PWF.d (xlc (fiP [("place", 2)] (iR1 rfl E.b_range (xname (i := 1) rfl rfl (.inl rfl)) (fun _ => rfl)) (by trivial) (fun (x1 : Int) => ⟨_, _, (pdg_name (i := 2) (by trivial) rfl (.inr rfl) (.inl rfl)), (fun _ h => h), (c1W (tcmpW (op_eqDG rfl) (PWF.d (xlc (fiP [("lot", 3)] (iL (xname (i := 0) rfl rfl (.inr (.inl rfl)))) (by trivial) (fun (x2 : List Int) => ⟨_, _, (pdg_name (i := 3) (by trivial) rfl (.inl rfl) (.inr rfl)), (fun _ h => h), (c1W (tcmpW op_notInG (xname (i := 2) rfl rfl (.inr (.inl rfl))) (xname (i := 3) rfl rfl (.inl rfl)) (fun _ _ => rw0 rd_inI1) rfl)), (xname (i := 3) rfl rfl (.inl rfl))⟩)) (by kernel_rfl) (fun _ _ => rfl))) (PWF.d (xlstP (c := (cList cInt)) .nil (by simp))) (fun _ _ => rw0 (rd_eqD (eList (eList eInt)) (by decide))) (nomark _))), (xname (i := 2) rfl rfl (.inr (.inl rfl)))⟩)) (by kernel_rfl) (fun _ _ => rfl))))
  case e => rfl
  case hk => decide
theorem c_l_within (E : All P w K mg base CBook CWish) : Cal P w K mg base "_law_within" ["lot", "other"] 1 (spW (fun _ (t : (List Int) × (List Int) × Unit) => [.d (cList cInt) t.1, .d (cList cInt) t.2.1]) 0 (fun t => l_within t.1 t.2.1) cBool) := by
  refine cal_W (N := ["lot", "other", "place"]) E.D__law_within (fun _ _ _ _ _ _ us hl => match us, hl with | [_, _], _ => rfl) ⟨rfl, rfl, rfl, by decide +kernel, rfl, by decide +kernel, by decide +kernel⟩ (fun _ _ => rfl) (by decide) (fun _ _ => trivial) fun z t => ?_
  obtain ⟨lot0, other0, _⟩ := t
  refine' PB.of ?h ?e ?hk
  case h => exact vb_ctx (Γ' := [.d (cList cInt) lot0, .d (cList cInt) other0, .un]) rfl (vb_ret (xcmp (op_eqDG rfl) (PWF.d (xlc (fiP [("place", 2)] (iL (xname (i := 0) rfl rfl (.inl rfl))) (by trivial) (fun (x1 : Int) => ⟨_, _, (pdg_name (i := 2) (by trivial) rfl (.inl rfl) (.inr rfl)), (fun _ h => h), (c1W (tcmpW op_notInG (xname (i := 2) rfl rfl (.inl rfl)) (xname (i := 1) rfl rfl (.inr (.inl rfl))) (fun _ _ => rw0 rd_inI1) rfl)), (xname (i := 2) rfl rfl (.inl rfl))⟩)) (by kernel_rfl) (fun _ _ => rfl))) (PWF.d (xlstP (c := cInt) .nil (by simp))) (fun _ _ => rw0 (rd_eqD (eList eInt) (by decide))) (nomark _)))
  case e => rfl
  case hk => decide
theorem c_l_right (E : All P w K mg base CBook CWish) : Cal P w K mg base "_law_right" ["box", "large"] 11 (spW (fun b (t : Bool × Unit) => [.bx b, .d cBool t.1]) 18019 (fun t => l_right t.1) cBool) := by
  refine cal_W (N := ["box", "large", "sizes", "tables", "wish", "many", "worths", "text", "lots", "good", "lot", "handed", "found", "turn", "one", "other", "meet", "place"]) E.D__law_right (fun _ _ _ _ _ _ us hl => match us, hl with | [_, _], _ => rfl) ⟨rfl, rfl, rfl, by decide +kernel, rfl, by decide +kernel, by decide +kernel⟩ (fun _ _ => rfl) (by decide) (fun _ _ => trivial) fun z t => ?_
  obtain ⟨large0, _⟩ := t
  refine' PB.of ?h ?e ?hk
  case h => exact vb_ctx (Γ' := [.bx z, .d cBool large0, .un, .un, .un, .un, .un, .un, .un, .un, .un, .un, .un, .un, .un, .un, .un, .un]) rfl (vb_unpack (xcal z (c_l_scene E) (show (5 : Nat) ≤ 10 by decide) rfl (aB (i := 0) rfl rfl (.inl rfl) (aC (xname (i := 1) rfl rfl (.inl rfl)) aN (fun _ => rfl))) (fun _ => rfl) (fun _ => rfl)) (fun env he => by cases env; cases he; rfl) (fun env he => by cases env; cases he; rfl) (fun _ => rfl) (fun v1 => ⟨_, _, (pdg_L2 (pdg_name (i := 2) (by trivial) rfl (.inr rfl) (.inl rfl)) (pdg_name (i := 3) (by trivial) rfl (.inl rfl) (.inl rfl)) (fun _ => rfl) (fun _ => rfl) (fun _ => rfl) (fun _ => rfl)), (vb_ctx (Γ' := [.bx z, .d cBool large0, .d (cList cInt) v1.1, .d (cList (cT2 (cList cInt) (cList cInt))) v1.2, .un, .un, .un, .un, .un, .un, .un, .un, .un, .un, .un, .un, .un, .un]) rfl (vb_par 4 5 (PW.px (xcal 0 (c_l_made E) (show (10 : Nat) ≤ 10 by decide) rfl (aC (xname (i := 2) rfl rfl (.inr (.inl rfl))) (aC (xname (i := 3) rfl rfl (.inl rfl)) aN (fun _ => rfl)) (fun _ => rfl)) (fun _ => rfl) (fun _ => rfl))) (PW.px (xlen rfl E.b_len (xseqL (xname (i := 2) rfl rfl (.inr (.inl rfl)))) (fun _ => rfl))) (by trivial) (by trivial) (by decide) rfl rfl rfl rfl (fun _ => rfl) (fun _ => rfl) (fun env he => by cases env; cases he; rfl) (fun env he => by cases env; cases he; rfl) (fun wish_2 many_3 => vb_ctx (Γ' := [.bx z, .d cBool large0, .d (cList cInt) v1.1, .d (cList (cT2 (cList cInt) (cList cInt))) v1.2, .d (cWish CBook CWish) wish_2, .d cInt many_3, .un, .un, .un, .un, .un, .un, .un, .un, .un, .un, .un, .un]) rfl (vb_setX 6 xnewT (by trivial) rfl (.inr rfl) (fun env he => sw_cell rfl env he) (.inl rfl) (fun _ => vb_ctx (Γ' := [.bx z, .d cBool large0, .d (cList cInt) v1.1, .d (cList (cT2 (cList cInt) (cList cInt))) v1.2, .d (cWish CBook CWish) wish_2, .d cInt many_3, .r (opT P w cInt ([] : List (List Int × Int))), .un, .un, .un, .un, .un, .un, .un, .un, .un, .un, .un]) rfl (vb_for (⟨[7], fun (s5 : (List (List Int × Int))) => [.bx z, .d cBool large0, .d (cList cInt) v1.1, .d (cList (cT2 (cList cInt) (cList cInt))) v1.2, .d (cWish CBook CWish) wish_2, .d cInt many_3, .r (opT P w cInt s5), .un, .un, .un, .un, .un, .un, .un, .un, .un, .un, .un]⟩ : En ((List (List Int × Int)))) ([] : List (List Int × Int)) rfl (iL (xcal 0 (c_l_rows E) (show (1 : Nat) ≤ 10 by decide) rfl (aC (xname (i := 2) rfl rfl (.inr (.inl rfl))) aN (fun _ => rfl)) (fun _ => rfl) (fun _ => rfl))) (fun (s5 : (List (List Int × Int))) (text_6 : List Int) => ⟨_, _, (pdg_name (i := 7) (by trivial) rfl (.inl rfl) (.inl rfl)), (by trivial), vb_ctx (Γ' := [.bx z, .d cBool large0, .d (cList cInt) v1.1, .d (cList (cT2 (cList cInt) (cList cInt))) v1.2, .d (cWish CBook CWish) wish_2, .d cInt many_3, .r (opT P w cInt s5), .d (cTup cInt) text_6, .un, .un, .un, .un, .un, .un, .un, .un, .un, .un]) rfl (vb_putT 6 rfl (xcal 0 (c_l_worth E) (show (2 : Nat) ≤ 10 by decide) rfl (aC (xname (i := 3) rfl rfl (.inl rfl)) (aC (xname (i := 2) rfl rfl (.inr (.inl rfl))) (aC (xname (i := 7) rfl rfl (.inl rfl)) aN (fun _ => rfl)) (fun _ => rfl)) (fun _ => rfl)) (fun _ => rfl) (fun _ => rfl)) (xname (i := 7) rfl rfl (.inl rfl)) rfl (.inr (.inl rfl)) (fun _ => rfl) (fun v11 i12 => vb_ctx (Γ' := [.bx z, .d cBool large0, .d (cList cInt) v1.1, .d (cList (cT2 (cList cInt) (cList cInt))) v1.2, .d (cWish CBook CWish) wish_2, .d cInt many_3, .r (opT P w cInt (putT s5 i12 v11)), .d (cTup cInt) text_6, .un, .un, .un, .un, .un, .un, .un, .un, .un, .un]) rfl (vb_nil (putT s5 i12 v11) rfl)))⟩) (fun _ _ => rfl) (fun s5 => (vb_set 8 (xcal z (c_l_mixed_l E) (show (2 : Nat) ≤ 10 by decide) rfl (aB (i := 0) rfl rfl (.inl rfl) (aC (xcal 0 (c_l_lots E) (show (1 : Nat) ≤ 10 by decide) rfl (aC (xname (i := 5) rfl rfl (.inl rfl)) aN (fun _ => rfl)) (fun _ => rfl) (fun _ => rfl)) aN (fun _ => rfl))) (fun _ => rfl) (fun _ => rfl)) (by trivial) rfl (.inl rfl) (fun env he => by cases env; cases he; rfl) (.inl rfl) (fun lots_14 => vb_ctx (Γ' := [.bx z, .d cBool large0, .d (cList cInt) v1.1, .d (cList (cT2 (cList cInt) (cList cInt))) v1.2, .d (cWish CBook CWish) wish_2, .d cInt many_3, .r (opT P w cInt s5), .un, .d (cList (cList cInt)) lots_14, .un, .un, .un, .un, .un, .un, .un, .un, .un]) rfl (vb_freezeT 6 rfl (by trivial) (vb_ctx (Γ' := [.bx z, .d cBool large0, .d (cList cInt) v1.1, .d (cList (cT2 (cList cInt) (cList cInt))) v1.2, .d (cWish CBook CWish) wish_2, .d cInt many_3, .d (cDt P w cInt) s5, .un, .d (cList (cList cInt)) lots_14, .un, .un, .un, .un, .un, .un, .un, .un, .un]) rfl (vb_setLc 9 [("lot", 10)] (lc0 [("lot", 10)] (iL (xname (i := 8) rfl rfl (.inl rfl))) (by trivial) (fun (x19 : List Int) => ⟨_, _, (pdg_name (i := 10) (by trivial) rfl (.inl rfl) (.inr rfl)), (fun _ h => h), (c1W (tval (xcal 0 (c_l_is_apart E) (show (2 : Nat) ≤ 10 by decide) rfl (aC (xname (i := 6) rfl rfl (.inr (.inl rfl))) (aC (xname (i := 2) rfl rfl (.inr (.inl rfl))) (aC (xname (i := 10) rfl rfl (.inl rfl)) aN (fun _ => rfl)) (fun _ => rfl)) (fun _ => rfl)) (fun _ => rfl) (fun _ => rfl)) (fun _ _ => rfl))), (xname (i := 10) rfl rfl (.inl rfl))⟩)) (by trivial) rfl rfl rfl rfl rfl (by kernel_rfl) (fun _ _ => rfl) (fun good_18 => vb_ctx (Γ' := [.bx z, .d cBool large0, .d (cList cInt) v1.1, .d (cList (cT2 (cList cInt) (cList cInt))) v1.2, .d (cWish CBook CWish) wish_2, .d cInt many_3, .d (cDt P w cInt) s5, .un, .d (cList (cList cInt)) lots_14, .d (cList (cList cInt)) good_18, .un, .un, .un, .un, .un, .un, .un, .un]) rfl (vb_forD 64 (⟨[11, 12, 10], fun (s20 : Unit) => [.bx z, .d cBool large0, .d (cList cInt) v1.1, .d (cList (cT2 (cList cInt) (cList cInt))) v1.2, .d (cWish CBook CWish) wish_2, .d cInt many_3, .d (cDt P w cInt) s5, .un, .d (cList (cList cInt)) lots_14, .d (cList (cList cInt)) good_18, .un, .un, .un, .un, .un, .un, .un, .un]⟩ : En (Unit)) () rfl (iL (PWF.d (xofF (pslL (PW.pd (xname (i := 8) rfl rfl (.inl rfl))) .none (.some (PW.pd (xint (i := 6)))))))) (fun (s20 : Unit) (lot_21 : List Int) => ⟨_, _, (pdg_name (i := 10) (by trivial) rfl (.inr rfl) (.inl rfl)), (by trivial), vb_ctx (Γ' := [.bx z, .d cBool large0, .d (cList cInt) v1.1, .d (cList (cT2 (cList cInt) (cList cInt))) v1.2, .d (cWish CBook CWish) wish_2, .d cInt many_3, .d (cDt P w cInt) s5, .un, .d (cList (cList cInt)) lots_14, .d (cList (cList cInt)) good_18, .d (cList cInt) lot_21, .un, .un, .un, .un, .un, .un, .un]) rfl (vb_set 11 (xif (tcmpW (fun _ _ => op_eq) (xcal z (c_l_take E) (show (1 : Nat) ≤ 10 by decide) rfl (aB (i := 0) rfl rfl (.inl rfl) (aC (xint (i := 3)) aN (fun _ => rfl))) (fun _ => rfl) (fun _ => rfl)) (xint (i := 0)) (fun _ _ => rw0 rd_eqI) (nomark _)) (xseqT (xtuple rfl E.b_tuple (xseqL (xname (i := 10) rfl rfl (.inr (.inl rfl)))) (fun _ => rfl))) (xseqL (PWF.d (xlist rfl E.b_list (xseqL (xname (i := 10) rfl rfl (.inr (.inl rfl)))) (fun _ => rfl))))) (by trivial) rfl (.inl rfl) (fun env he => by cases env; cases he; rfl) (.inl rfl) (fun handed_26 => vb_ctx (Γ' := [.bx z, .d cBool large0, .d (cList cInt) v1.1, .d (cList (cT2 (cList cInt) (cList cInt))) v1.2, .d (cWish CBook CWish) wish_2, .d cInt many_3, .d (cDt P w cInt) s5, .un, .d (cList (cList cInt)) lots_14, .d (cList (cList cInt)) good_18, .d (cList cInt) lot_21, .d (cSeq cInt) handed_26, .un, .un, .un, .un, .un, .un]) rfl (vb_setL 12 (xcalF 0 (c_m_hull E) (show (7 : Nat) ≤ 10 by decide) rfl (aC (xname (i := 4) rfl rfl (.inl rfl)) (aC (xname (i := 11) rfl rfl (.inl rfl)) aN (fun _ => rfl)) (fun _ => rfl)) (fun _ => rfl) (fun _ => rfl)) (by trivial) rfl (.inl rfl) (fun env he => by cases env; cases he; rfl) (.inl rfl) (fun found_27 => vb_ctx (Γ' := [.bx z, .d cBool large0, .d (cList cInt) v1.1, .d (cList (cT2 (cList cInt) (cList cInt))) v1.2, .d (cWish CBook CWish) wish_2, .d cInt many_3, .d (cDt P w cInt) s5, .un, .d (cList (cList cInt)) lots_14, .d (cList (cList cInt)) good_18, .d (cList cInt) lot_21, .d (cSeq cInt) handed_26, .l cInt found_27, .un, .un, .un, .un, .un]) rfl (vb_ifR (vT (i := 12) rfl (twW (worW (tcmpW (op_neDG rfl) (xname (i := 12) rfl rfl (.inl rfl)) (xcal 0 (c_l_meet E) (show (1 : Nat) ≤ 10 by decide) rfl (aC (PWF.d (xlc (lc0 [("one", 14)] (iL (xname (i := 9) rfl rfl (.inl rfl))) (by trivial) (fun (x28 : List Int) => ⟨_, _, (pdg_name (i := 14) (by trivial) rfl (.inl rfl) (.inr rfl)), (fun _ h => h), (c1W (tval (xcal 0 (c_l_within E) (show (1 : Nat) ≤ 10 by decide) rfl (aC (xname (i := 10) rfl rfl (.inr (.inl rfl))) (aC (xname (i := 14) rfl rfl (.inl rfl)) aN (fun _ => rfl)) (fun _ => rfl)) (fun _ => rfl) (fun _ => rfl)) (fun _ _ => rfl))), (xname (i := 14) rfl rfl (.inl rfl))⟩)) (by kernel_rfl) (fun _ _ => rfl))) (aC (xname (i := 5) rfl rfl (.inl rfl)) aN (fun _ => rfl)) (fun _ => rfl)) (fun _ => rfl) (fun _ => rfl)) (fun _ _ => rw0 (rd_neD (eList eInt) (by decide))) (nomark _)) (wor1 (tnotW (tval (xof (pisi rfl E.b_isinstance (PW.pd (xname (i := 12) rfl rfl (.inl rfl))) (nmTy rfl E.b_list PyProof.Rows.boot_list) (.ty _) ty_list (r := true) (kit_ty (by decide +kernel)) (fun _ => rfl))) (fun _ _ => rfl))))))) (vb_ret xbool) (vb_ifR (vT (i := 12) rfl (twW (worW (tcmpW notInDL (xname (i := 12) rfl rfl (.inl rfl)) (xname (i := 9) rfl rfl (.inl rfl)) (fun _ _ => rw0 (rd_notInD (eList eInt) (by decide))) rfl) (worW (tcmpW (op_neDG rfl) (PWF.d (xcalF 0 (c_m_hull E) (show (7 : Nat) ≤ 10 by decide) rfl (aC (xname (i := 4) rfl rfl (.inl rfl)) (aC (xseqL (xname (i := 12) rfl rfl (.inl rfl))) aN (fun _ => rfl)) (fun _ => rfl)) (fun _ => rfl) (fun _ => rfl))) (xname (i := 12) rfl rfl (.inl rfl)) (fun _ _ => rw0 (rd_neD (eList eInt) (by decide))) (nomark _)) (wor1 (tcmpW (fun _ _ => op_ne) (xcal 0 (c_m_is_apart E) (show (8 : Nat) ≤ 10 by decide) rfl (aC (xname (i := 4) rfl rfl (.inl rfl)) (aC (xname (i := 11) rfl rfl (.inl rfl)) aN (fun _ => rfl)) (fun _ => rfl)) (fun _ => rfl) (fun _ => rfl)) (xcmp inDL (xname (i := 10) rfl rfl (.inr (.inl rfl))) (xname (i := 9) rfl rfl (.inl rfl)) (fun _ _ => rw0 (rd_inD (eList eInt) (by decide))) rfl) (fun _ _ => rw0 rd_neB) (nomark _))))))) (vb_ret xbool) (vb_optL 12 rfl (by trivial) (vb_ctx (Γ' := [.bx z, .d cBool large0, .d (cList cInt) v1.1, .d (cList (cT2 (cList cInt) (cList cInt))) v1.2, .d (cWish CBook CWish) wish_2, .d cInt many_3, .d (cDt P w cInt) s5, .un, .d (cList (cList cInt)) lots_14, .d (cList (cList cInt)) good_18, .d (cList cInt) lot_21, .d (cSeq cInt) handed_26, .l (cOpt cInt) (found_27.map some), .un, .un, .un, .un, .un]) rfl (vb_append 12 rfl xnoneO rfl (.inl rfl) (fun _ => rfl) rfl (fun _ => rfl) (fun _ => rfl) (fun v29 => vb_ctx (Γ' := [.bx z, .d cBool large0, .d (cList cInt) v1.1, .d (cList (cT2 (cList cInt) (cList cInt))) v1.2, .d (cWish CBook CWish) wish_2, .d cInt many_3, .d (cDt P w cInt) s5, .un, .d (cList (cList cInt)) lots_14, .d (cList (cList cInt)) good_18, .d (cList cInt) lot_21, .d (cSeq cInt) handed_26, .l (cOpt cInt) ((found_27.map some) ++ [v29]), .un, .un, .un, .un, .un]) rfl (vb_ifR (tnotW (tval (xcal 0 (c_l_within E) (show (1 : Nat) ≤ 10 by decide) rfl (aC (xcalR2 (cr_m_hull E).datW (show (7 : Nat) ≤ 10 by decide) rfl (xname (i := 11) rfl rfl (.inl rfl)) (xname (i := 4) rfl rfl (.inl rfl)) (fun _ => rfl) (fun _ => rfl) (fun _ => rfl)) (aC (PWF.d (xcalF 0 (c_m_hull E) (show (7 : Nat) ≤ 10 by decide) rfl (aC (xname (i := 4) rfl rfl (.inl rfl)) (aC (xseqL (PWF.d (xsortBig rfl E.b_sorted (xset rfl E.b_set (xseqL (PWF.d (xcat (xname (i := 10) rfl rfl (.inr (.inl rfl))) (PWF.d (xlst (lC (xcal z (c_l_take E) (show (1 : Nat) ≤ 10 by decide) rfl (aB (i := 0) rfl rfl (.inl rfl) (aC (xname (i := 5) rfl rfl (.inl rfl)) aN (fun _ => rfl))) (fun _ => rfl) (fun _ => rfl)) lN (fun _ => rfl))))))) (fun _ => rfl)) (fun _ => rfl)))) aN (fun _ => rfl)) (fun _ => rfl)) (fun _ => rfl) (fun _ => rfl))) aN (fun _ => rfl)) (fun _ => rfl)) (fun _ => rfl) (fun _ => rfl)) (fun _ _ => rfl))) (vb_ret xbool) (vb_nil () rfl))))))))))))⟩) (fun _ _ => rfl) (fun s20 => (vb_forD 64 (⟨[14, 15, 16, 13], fun (s52 : Unit) => [.bx z, .d cBool large0, .d (cList cInt) v1.1, .d (cList (cT2 (cList cInt) (cList cInt))) v1.2, .d (cWish CBook CWish) wish_2, .d cInt many_3, .d (cDt P w cInt) s5, .un, .d (cList (cList cInt)) lots_14, .d (cList (cList cInt)) good_18, .un, .un, .un, .un, .un, .un, .un, .un]⟩ : En (Unit)) () rfl (iR1 rfl E.b_range (xint (i := 3)) (fun _ => rfl)) (fun (s52 : Unit) (turn_53 : Int) => ⟨_, _, (pdg_name (i := 13) (by trivial) rfl (.inl rfl) (.inl rfl)), (by trivial), vb_ctx (Γ' := [.bx z, .d cBool large0, .d (cList cInt) v1.1, .d (cList (cT2 (cList cInt) (cList cInt))) v1.2, .d (cWish CBook CWish) wish_2, .d cInt many_3, .d (cDt P w cInt) s5, .un, .d (cList (cList cInt)) lots_14, .d (cList (cList cInt)) good_18, .un, .un, .un, .d cInt turn_53, .un, .un, .un, .un]) rfl (vb_unpack (xt2 (aC (xix ixLG (xname (i := 9) rfl rfl (.inl rfl)) (xcal z (c_l_take E) (show (1 : Nat) ≤ 10 by decide) rfl (aB (i := 0) rfl rfl (.inl rfl) (aC (xlen rfl E.b_len (xseqL (xname (i := 9) rfl rfl (.inl rfl))) (fun _ => rfl)) aN (fun _ => rfl))) (fun _ => rfl) (fun _ => rfl)) (fun _ _ => ixL) (fun _ _ => rfl)) (aC (xix ixLG (xname (i := 9) rfl rfl (.inl rfl)) (xcal z (c_l_take E) (show (1 : Nat) ≤ 10 by decide) rfl (aB (i := 0) rfl rfl (.inl rfl) (aC (xlen rfl E.b_len (xseqL (xname (i := 9) rfl rfl (.inl rfl))) (fun _ => rfl)) aN (fun _ => rfl))) (fun _ => rfl) (fun _ => rfl)) (fun _ _ => ixL) (fun _ _ => rfl)) aN (fun _ => rfl)) (fun _ => rfl))) (fun env he => by cases env; cases he; rfl) (fun env he => by cases env; cases he; rfl) (fun _ => rfl) (fun v58 => ⟨_, _, (pdg_t2 (pdg_name (i := 14) (by trivial) rfl (.inl rfl) (.inl rfl)) (pdg_name (i := 15) (by trivial) rfl (.inr rfl) (.inl rfl)) (fun _ => rfl) (fun _ => rfl) (fun _ => rfl) (fun _ => rfl)), (vb_ctx (Γ' := [.bx z, .d cBool large0, .d (cList cInt) v1.1, .d (cList (cT2 (cList cInt) (cList cInt))) v1.2, .d (cWish CBook CWish) wish_2, .d cInt many_3, .d (cDt P w cInt) s5, .un, .d (cList (cList cInt)) lots_14, .d (cList (cList cInt)) good_18, .un, .un, .un, .d cInt turn_53, .d (cList cInt) v58.1, .d (cList cInt) v58.2, .un, .un]) rfl (vb_setLc 16 [("place", 17)] (fiP [("place", 17)] (iL (xname (i := 14) rfl rfl (.inl rfl))) (by trivial) (fun (x60 : Int) => ⟨_, _, (pdg_name (i := 17) (by trivial) rfl (.inl rfl) (.inr rfl)), (fun _ h => h), (c1W (tcmpW op_inG (xname (i := 17) rfl rfl (.inl rfl)) (xname (i := 15) rfl rfl (.inr (.inl rfl))) (fun _ _ => rw0 rd_inI0) rfl)), (xname (i := 17) rfl rfl (.inl rfl))⟩)) (by trivial) rfl rfl rfl rfl rfl (by kernel_rfl) (fun _ _ => rfl) (fun meet_59 => vb_ctx (Γ' := [.bx z, .d cBool large0, .d (cList cInt) v1.1, .d (cList (cT2 (cList cInt) (cList cInt))) v1.2, .d (cWish CBook CWish) wish_2, .d cInt many_3, .d (cDt P w cInt) s5, .un, .d (cList (cList cInt)) lots_14, .d (cList (cList cInt)) good_18, .un, .un, .un, .d cInt turn_53, .d (cList cInt) v58.1, .d (cList cInt) v58.2, .d (cList cInt) meet_59, .un]) rfl (vb_ifR (twW (worW (tnotW (tval (xcal 0 (c_m_is_apart E) (show (8 : Nat) ≤ 10 by decide) rfl (aC (xname (i := 4) rfl rfl (.inl rfl)) (aC (xseqL (xname (i := 16) rfl rfl (.inl rfl))) aN (fun _ => rfl)) (fun _ => rfl)) (fun _ => rfl) (fun _ => rfl)) (fun _ _ => rfl))) (wor1 (tcmpW (op_neDG rfl) (PWF.d (xcalF 0 (c_m_hull E) (show (7 : Nat) ≤ 10 by decide) rfl (aC (xname (i := 4) rfl rfl (.inl rfl)) (aC (xseqL (xname (i := 16) rfl rfl (.inl rfl))) aN (fun _ => rfl)) (fun _ => rfl)) (fun _ => rfl) (fun _ => rfl))) (xname (i := 16) rfl rfl (.inl rfl)) (fun _ _ => rw0 (rd_neD (eList eInt) (by decide))) (nomark _))))) (vb_ret xbool) (vb_nil () rfl)))))⟩))⟩) (fun _ _ => rfl) (fun s52 => (vb_ret xbool))))))))))))))))))⟩))
  case e => rfl
  case hk => decide
end
end K18

set_option Elab.async false
set_option linter.all false
set_option maxRecDepth 100000
set_option maxHeartbeats 4000000
namespace K18
open PySem PySem.Spec L2 DL
/-! ## The plain law: tools -/
section
variable {α β γ σ ρ : Type}
theorem wMap_of {f : α → W β} (g : α → β) : ∀ {xs : List α} {Q : List β → Prop}, (∀ x ∈ xs, ∀ Q : β → Prop, Q (g x) → f x Q) → Q (xs.map g) → wMap f xs Q
  | [], _, _, q => q
  | x :: r, Q, h, q => h x List.mem_cons_self _ (wMap_of g (Q := fun ys => Q (g x :: ys)) (fun y hy => h y (List.mem_cons_of_mem _ hy)) q)
theorem wMap_any {f : α → W β} (P : α → β → Prop) : ∀ {xs : List α} {Q : List β → Prop}, (∀ x ∈ xs, ∀ Q : β → Prop, (∀ y, P x y → Q y) → f x Q) → (∀ ys, Paired P xs ys → Q ys) → wMap f xs Q
  | [], _, _, q => q [] .nil
  | x :: r, Q, h, q => h x List.mem_cons_self _ fun y py => wMap_any P (Q := fun ys => Q (y :: ys)) (fun z hz => h z (List.mem_cons_of_mem _ hz)) fun ys p => q _ (.cons py p)
theorem wLc_of {q : α → W Bool} {f : α → W β} (c : α → Bool) (g : α → β) : ∀ {xs : List α} {Q : List β → Prop}, (∀ x ∈ xs, ∀ Q : Bool → Prop, Q (c x) → q x Q) → (∀ x ∈ xs, ∀ Q : β → Prop, Q (g x) → f x Q) → Q ((xs.filter c).map g) → wLc q f xs Q
  | [], _, _, _, k => k
  | x :: r, Q, h1, h2, k => h1 x List.mem_cons_self _ (by
    by_cases e : c x = true
    · rw [List.filter_cons_of_pos e] at k
      rw [if_pos e]
      exact h2 x List.mem_cons_self _ (wLc_of c g (Q := fun ys => Q (g x :: ys)) (fun y hy => h1 y (List.mem_cons_of_mem _ hy)) (fun y hy => h2 y (List.mem_cons_of_mem _ hy)) k)
    · rw [List.filter_cons_of_neg e] at k
      rw [if_neg e]
      exact wLc_of c g (fun y hy => h1 y (List.mem_cons_of_mem _ hy)) (fun y hy => h2 y (List.mem_cons_of_mem _ hy)) k)
theorem wLc2_of {F : α → W (List γ)} {f : α → γ → W β} (G : α → List γ) (g : α → γ → β) : ∀ {xs : List α} {acc : List β} {Q : List β → Prop}, (∀ x ∈ xs, ∀ Q : List γ → Prop, Q (G x) → F x Q) → (∀ x ∈ xs, ∀ y ∈ G x, ∀ Q : β → Prop, Q (g x y) → f x y Q) →
    (acc ++ lc2L xs G g).length ≤ LB → Q (acc ++ lc2L xs G g) → wLc2 F f xs acc Q
  | [], acc, Q, _, _, _, k => by
    have e : lc2L ([] : List α) G g = [] := rfl
    rw [e, List.append_nil] at k; exact k
  | x :: r, acc, Q, h1, h2, hl, k => by
    have e : lc2L (x :: r) G g = (G x).map (g x) ++ lc2L r G g := rfl
    rw [e, ← List.append_assoc] at hl k
    refine h1 x List.mem_cons_self _ ⟨?_, wMap_of (g x) (fun y hy => h2 x List.mem_cons_self y hy) (wLc2_of G g (fun y hy => h1 y (List.mem_cons_of_mem _ hy)) (fun y hy => h2 y (List.mem_cons_of_mem _ hy)) hl k)⟩
    rw [List.length_append, List.length_append, List.length_map] at hl; omega
theorem wFor_inv {b : α → σ → (σ → Prop) → (σ → Prop) → (σ → Prop) → (ρ → Prop) → Prop} {N : σ → Prop} {R : ρ → Prop} (I : List α → σ → Prop) : ∀ (xs pre : List α) (s : σ), I pre s → (∀ p x q s, pre ++ xs = p ++ x :: q → I p s → ∀ N' C' : σ → Prop, (∀ s', I (p ++ [x]) s' → N' s') → (∀ s', I (p ++ [x]) s' → C' s') → b x s N' N C' R) →
    (∀ s, I (pre ++ xs) s → N s) → wFor b xs s N R
  | [], pre, s, h0, _, hN => hN s (by rw [List.append_nil]; exact h0)
  | x :: xs, pre, s, h0, hs, hN => hs pre x xs s rfl h0 _ _ (fun s' h' => wFor_inv I xs (pre ++ [x]) s' h' (fun p y q s e => hs p y q s (by rw [← e, List.append_assoc]; rfl)) (by rw [List.append_assoc]; exact hN)) (fun s' h' => wFor_inv I xs (pre ++ [x]) s' h' (fun p y q s e => hs p y q s (by rw [← e, List.append_assoc]; rfl)) (by rw [List.append_assoc]; exact hN))
theorem wFor_fold {b : α → σ → (σ → Prop) → (σ → Prop) → (σ → Prop) → (ρ → Prop) → Prop} {N : σ → Prop} {R : ρ → Prop} (I : σ → Prop) (f : σ → α → σ) : ∀ (xs : List α) (s : σ), I s → (∀ x ∈ xs, ∀ s, I s → I (f s x) ∧ ∀ N' B' C' : σ → Prop, N' (f s x) → b x s N' B' C' R) → N (xs.foldl f s) → wFor b xs s N R
  | [], s, _, _, k => k
  | x :: xs, s, hi, h, k => (h x List.mem_cons_self s hi).2 _ _ _ (wFor_fold I f xs (f s x) (h x List.mem_cons_self s hi).1 (fun y hy => h y (List.mem_cons_of_mem _ hy)) k)
theorem wWhile_inv {t : σ → W Bool} {b : σ → (σ → Prop) → (σ → Prop) → (σ → Prop) → (ρ → Prop) → Prop} {N : σ → Prop} {R : ρ → Prop} (I : σ → Prop) (μ : σ → Nat) (c : σ → Bool) (ht : ∀ s (Q : Bool → Prop), Q (c s) → t s Q)
    (hb : ∀ s, I s → c s = true → ∀ N' B' C' : σ → Prop, (∀ s', I s' → μ s' < μ s → N' s') → b s N' B' C' R) (hN : ∀ s, I s → c s = false → N s) : ∀ (n : Nat) (s : σ), I s → μ s < n → wWhile t b n s N R
  | 0, _, _, h => absurd h (Nat.not_lt_zero _)
  | n + 1, s, hi, hm => ht s _ (by
    by_cases e : c s = true
    · rw [if_pos e]
      exact hb s hi e _ _ _ fun s' h' hlt => wWhile_inv I μ c ht hb hN n s' h' (by omega)
    · rw [if_neg e]
      exact hN s hi (by simpa using e))
end
/-! ### places, indices -/
abbrev atT (word : List Int) (i : Int) : Int := word.getD i.toNat default
theorem ixAt_nn {α : Type} [Inhabited α] {xs : List α} {i : Int} (h : 0 ≤ i) : ixAt xs i = xs.getD i.toNat default := by
  unfold ixAt; rw [if_neg (by omega)]
theorem ixOk_of {n : Nat} {i : Int} (h0 : 0 ≤ i) (h1 : i < (n : Int)) : ixOk n i := ⟨by omega, h1⟩
theorem ixS_nn {n : Nat} {i : Int} (h : 0 ≤ i) : ixS n i = i.toNat := by unfold ixS; rw [if_neg (by omega)]
theorem mem_rangeL {lo x : Int} {n : Nat} : x ∈ rangeL lo n ↔ lo ≤ x ∧ x < lo + (n : Int) := by
  unfold rangeL
  rw [List.mem_map]
  constructor
  · rintro ⟨i, hi, rfl⟩
    have := List.mem_range.mp hi
    omega
  · intro h
    exact ⟨(x - lo).toNat, List.mem_range.mpr (by omega), by omega⟩
theorem mem_rng {i x : Int} : x ∈ rng i ↔ 0 ≤ x ∧ x < i := by
  show x ∈ rangeL 0 i.toNat ↔ _
  rw [mem_rangeL]; omega
theorem rangeL_up {n : Nat} : (rangeL 0 n).Pairwise (· < ·) := by
  unfold rangeL
  exact List.Pairwise.map _ (fun i j (h : i < j) => by omega) List.pairwise_lt_range
theorem rng_len {i : Int} : (rng i).length = i.toNat := rangeL_len
theorem getD_mem {α : Type} [Inhabited α] {l : List α} {i : Nat} (h : i < l.length) : l.getD i default ∈ l := by
  rw [List.getD_eq_getElem?_getD, List.getElem?_eq_getElem h]
  exact List.getElem_mem h
theorem getD_map {α β : Type} [Inhabited α] [Inhabited β] {f : α → β} {l : List α} {i : Nat} (h : i < l.length) : (l.map f).getD i default = f (l.getD i default) := by
  rw [List.getD_eq_getElem?_getD, List.getD_eq_getElem?_getD, List.getElem?_map, List.getElem?_eq_getElem h]; rfl
/-! ### products -/
def prodR : List Int → Int
  | [] => 1
  | n :: ns => n * prodR ns
theorem fold_prod : ∀ (ns : List Int) (f : Int), ns.foldl (fun f n => f * n) f = f * prodR ns
  | [], f => by simp [prodR]
  | n :: ns, f => by rw [List.foldl_cons, fold_prod ns, prodR, Int.mul_assoc]
theorem prodR_app : ∀ a b : List Int, prodR (a ++ b) = prodR a * prodR b
  | [], b => by rw [List.nil_append, prodR, Int.one_mul]
  | x :: a, b => by rw [List.cons_append, prodR, prodR_app a b, prodR, Int.mul_assoc]
theorem prodR_pos : ∀ {ns : List Int}, (∀ n ∈ ns, 0 < n) → 0 < prodR ns
  | [], _ => by decide
  | n :: ns, h => Int.mul_pos (h n List.mem_cons_self) (prodR_pos fun m hm => h m (List.mem_cons_of_mem _ hm))
/-! ### rows -/
def InW : List Int → List Int → Prop
  | [], [] => True
  | w :: ws, p :: ps => (0 ≤ w ∧ w < p) ∧ InW ws ps
  | _, _ => False
theorem InW.len : ∀ {w p : List Int}, InW w p → w.length = p.length
  | [], [], _ => rfl
  | _ :: _, _ :: _, h => by rw [List.length_cons, List.length_cons, h.2.len]
theorem inW_snoc : ∀ {x p : List Int} {s : Int}, InW x (p ++ [s]) ↔ ∃ y w, x = y ++ [w] ∧ InW y p ∧ 0 ≤ w ∧ w < s
  | [], [], s => by simp [InW]
  | [], _ :: _, s => by simp [InW]
  | [w], [], s => by
    constructor
    · intro h; exact ⟨[], w, rfl, trivial, h.1⟩
    · rintro ⟨y, v, e, h1, h2⟩
      cases y with
      | nil => cases e; exact ⟨h2, trivial⟩
      | cons a y => exact h1.elim
  | w :: v :: ws, [], s => by
    constructor
    · intro h; exact h.2.elim
    · rintro ⟨y, u, e, h1, h2⟩
      cases y with
      | nil => cases e
      | cons a y => exact h1.elim
  | w :: ws, q :: p, s => by
    show (_ ∧ InW ws (p ++ [s])) ↔ _
    rw [inW_snoc (x := ws) (p := p)]
    constructor
    · rintro ⟨h1, y, v, e, h2, h3⟩
      exact ⟨w :: y, v, by rw [e]; rfl, ⟨h1, h2⟩, h3⟩
    · rintro ⟨y, v, e, h2, h3⟩
      cases y with
      | nil => exact h2.elim
      | cons a y =>
        obtain ⟨e1, e2⟩ := List.cons.inj e
        subst e1
        exact ⟨h2.1, y, v, e2, h2.2, h3⟩
theorem inW_at : ∀ {w p : List Int}, InW w p → ∀ i : Int, 0 ≤ i → i < (p.length : Int) → 0 ≤ atT w i ∧ atT w i < atT p i
  | [], [], _, i, h0, h1 => by simp at h1; omega
  | w :: ws, p :: ps, h, i, h0, h1 => by
    rw [List.length_cons] at h1
    by_cases z : i = 0
    · subst z; exact h.1
    · have e : i.toNat = (i - 1).toNat + 1 := by omega
      have := inW_at h.2 (i - 1) (by omega) (by omega)
      unfold atT at this ⊢
      rw [e]; exact this
theorem inW_map {f g : Int → Int} : ∀ {l : List Int}, (∀ p ∈ l, 0 ≤ f p ∧ f p < g p) → InW (l.map f) (l.map g)
  | [], _ => trivial
  | p :: l, h => ⟨h p List.mem_cons_self, inW_map fun q hq => h q (List.mem_cons_of_mem _ hq)⟩
theorem lc2_len {α β γ : Type} (f : α → γ → β) (ws : List γ) : ∀ xs : List α, (lc2L xs (fun _ => ws) f).length = xs.length * ws.length
  | [] => by simp [lc2L]
  | x :: xs => by
    have ih := lc2_len f ws xs
    unfold lc2L at ih ⊢
    rw [List.flatMap_cons, List.length_append, List.length_map, ih, List.length_cons, Nat.succ_mul]
    dsimp only
    omega
def rstep (F : List (List Int)) (s : Int) : List (List Int) := lc2L F (fun _ => rng s) fun r w => r ++ [w]
def rws (sz : List Int) : List (List Int) := sz.foldl rstep [[]]
theorem rws_snoc (sz : List Int) (s : Int) : rws (sz ++ [s]) = rstep (rws sz) s := by unfold rws; rw [List.foldl_append]; rfl
theorem snoc_ind {α : Type} {P : List α → Prop} (h0 : P []) (hs : ∀ l x, P l → P (l ++ [x])) (l : List α) : P l := by
  have : ∀ n, ∀ l : List α, l.length = n → P l := fun n => by
    induction n with
    | zero => intro l h; rw [List.length_eq_zero_iff.mp h]; exact h0
    | succ n ih =>
      intro l h
      have ne : l ≠ [] := fun e => by rw [e] at h; cases h
      rw [← List.dropLast_concat_getLast ne]
      exact hs _ _ (ih _ (by rw [List.length_dropLast]; omega))
  exact this _ l rfl
theorem mem_rws (sz : List Int) : ∀ x : List Int, x ∈ rws sz ↔ InW x sz := by
  induction sz using snoc_ind with
  | h0 =>
    intro x
    show x ∈ [[]] ↔ _
    cases x with
    | nil => simp [InW]
    | cons a x => simp [InW]
  | hs l s ih =>
    intro x
    rw [rws_snoc, inW_snoc]
    unfold rstep lc2L
    rw [List.mem_flatMap]
    constructor
    · rintro ⟨y, hy, hx⟩
      obtain ⟨w, hw, e⟩ := List.mem_map.mp hx
      have := mem_rng.mp hw
      exact ⟨y, w, e.symm, (ih y).mp hy, this⟩
    · rintro ⟨y, w, e, h1, h2⟩
      exact ⟨y, (ih y).mpr h1, List.mem_map.mpr ⟨w, mem_rng.mpr h2, e.symm⟩⟩
theorem rws_len (sz : List Int) : (∀ n ∈ sz, 0 ≤ n) → ((rws sz).length : Int) = prodR sz := by
  induction sz using snoc_ind with
  | h0 => intro _; rfl
  | hs l s ih =>
    intro h
    rw [rws_snoc]
    unfold rstep
    rw [lc2_len, Int.natCast_mul, ih fun n hn => h n (List.mem_append_left _ hn), prodR_app, rng_len]
    have := h s (by simp)
    simp only [prodR]
    rw [Int.mul_one, Int.toNat_of_nonneg this]
end K18

set_option Elab.async false
set_option linter.all false
set_option maxRecDepth 100000
set_option maxHeartbeats 4000000
namespace K18
open PySem PySem.Spec L2 DL
/-- sizes of a book of at most 100 texts -/
structure Sz (s : List Int) : Prop where
  one : 1 ≤ s.length
  few : s.length ≤ 8
  bd : ∀ n ∈ s, 2 ≤ n ∧ n ≤ 6
  prod : prodR s ≤ 100
def Spt (S : List Int) (n : Nat) : Prop := S.Pairwise (· < ·) ∧ ∀ x ∈ S, 0 ≤ x ∧ x < (n : Int)
abbrev ssz (s S : List Int) : List Int := S.map (atT s)
theorem Sz.at {s : List Int} (h : Sz s) {p : Int} (hp : 0 ≤ p ∧ p < (s.length : Int)) : 2 ≤ atT s p ∧ atT s p ≤ 6 := h.bd _ (getD_mem (by omega))
theorem Spt.nodup {S : List Int} {n : Nat} (h : Spt S n) : S.Nodup := up_nodup h.1
theorem Spt.filter {S : List Int} {n : Nat} (h : Spt S n) : (rangeL 0 n).filter (fun i => decide (i ∈ S)) = S := by
  refine up_ext (rangeL_up.sublist List.filter_sublist) h.1 fun k => ?_
  rw [List.mem_filter, decide_eq_true_eq, mem_rangeL]
  constructor
  · exact fun z => z.2
  · intro z
    have := h.2 k z
    exact ⟨by omega, z⟩
theorem Spt.len {S : List Int} {n : Nat} (h : Spt S n) : S.length ≤ n := by
  have := List.Sublist.length_le (List.filter_sublist (l := rangeL 0 n) (p := fun i => decide (i ∈ S)))
  rw [h.filter, rangeL_len] at this; exact this
theorem Spt.of {n : Nat} (q : Int → Bool) : Spt ((rangeL 0 n).filter q) n := ⟨rangeL_up.sublist List.filter_sublist, fun x hx => by
  have := mem_rangeL.mp (List.mem_filter.mp hx).1; omega⟩
theorem range_self (s : List Int) : (rangeL 0 s.length).map (atT s) = s := by
  refine List.ext_getElem (by rw [List.length_map, rangeL_len]) fun i h1 h2 => ?_
  rw [List.getElem_map]
  have hi : (rangeL 0 s.length)[i]'(by rw [rangeL_len]; exact h2) = (i : Int) := by
    have := rangeL_get (lo := 0) (n := s.length) (i := i) (List.getElem?_eq_getElem (by rw [rangeL_len]; exact h2))
    rw [this]; omega
  rw [hi]
  unfold atT
  rw [Int.toNat_natCast, List.getD_eq_getElem?_getD, List.getElem?_eq_getElem h2]; rfl
theorem prod_one {g : Int → Int} : ∀ {l : List Int}, (∀ p ∈ l, 1 ≤ g p) → 1 ≤ prodR (l.map g)
  | [], _ => Int.le_refl 1
  | p :: l, h => by
    have := prodR_pos (ns := (p :: l).map g) (fun n hn => by
      obtain ⟨q, hq, rfl⟩ := List.mem_map.mp hn
      have := h q hq; omega)
    omega
theorem prod_filter {g : Int → Int} (q : Int → Bool) : ∀ {l : List Int}, (∀ p ∈ l, 1 ≤ g p) → prodR ((l.filter q).map g) ≤ prodR (l.map g)
  | [], _ => Int.le_refl _
  | p :: l, h => by
    have h1 := h p List.mem_cons_self
    have hl : ∀ p ∈ l, 1 ≤ g p := fun z hz => h z (List.mem_cons_of_mem _ hz)
    have ih := prod_filter q hl
    have o := prod_one hl
    rw [List.map_cons, prodR]
    by_cases e : q p = true
    · rw [List.filter_cons_of_pos e, List.map_cons, prodR]
      exact Int.mul_le_mul_of_nonneg_left ih (by omega)
    · rw [List.filter_cons_of_neg e]
      have : 1 * prodR (l.map g) ≤ g p * prodR (l.map g) := Int.mul_le_mul_of_nonneg_right h1 (by omega)
      omega
theorem Sz.sub {s S : List Int} (h : Sz s) (hS : Spt S s.length) : 1 ≤ prodR (ssz s S) ∧ prodR (ssz s S) ≤ 100 := by
  have g1 : ∀ p ∈ rangeL 0 s.length, 1 ≤ atT s p := fun p hp => by
    have := mem_rangeL.mp hp
    have := h.at (p := p) (by omega); omega
  constructor
  · refine prod_one fun p hp => ?_
    have := h.at (hS.2 p hp); omega
  · have := prod_filter (fun i => decide (i ∈ S)) g1
    rw [hS.filter, range_self] at this
    have := h.prod
    show prodR (S.map (atT s)) ≤ 100
    omega
theorem Spt.pre {S T : List Int} {n : Nat} (h : Spt (S ++ T) n) : Spt S n := ⟨(List.pairwise_append.mp h.1).1, fun x hx => h.2 x (List.mem_append_left _ hx)⟩
theorem rows_few {s S : List Int} (h : Sz s) (hS : Spt S s.length) : (rws (ssz s S)).length ≤ 100 := by
  have := rws_len (ssz s S) fun n hn => by
    obtain ⟨p, hp, rfl⟩ := List.mem_map.mp hn
    have := h.at (hS.2 p hp); omega
  have := (h.sub hS).2
  omega
theorem lb9 {n : Nat} (h : n ≤ 1000) : n ≤ LB := Nat.le_trans h (by decide)
theorem m_rows {s S : List Int} {R : List (List Int) → Prop} (h : Sz s) (hS : Spt S s.length) (q : R (rws (ssz s S))) : m_rows_at s S R := by
  show wFor _ S [[]] (fun s2 => R s2) R
  refine wFor_inv (fun pre st => st = rws (ssz s pre)) S [] [[]] rfl (fun p x post st e hI N' C' hN hC => ?_) fun st e => by rw [e]; exact q
  subst hI
  have e : S = p ++ x :: post := e
  have hp : Spt (p ++ [x]) s.length := Spt.pre (T := post) (by rw [List.append_assoc]; rw [e] at hS; exact hS)
  have hx := hp.2 x (by simp)
  have sx := h.at hx
  have len := rows_few h hp
  have e2 : rws (ssz s (p ++ [x])) = lc2L (rws (ssz s p)) (fun _ => rng (atT s x)) fun r w => r ++ [w] := by
    show rws ((p ++ [x]).map _) = _
    rw [List.map_append]
    exact rws_snoc _ _
  rw [e2] at len
  refine wLc2_of (fun _ => rng (atT s x)) (fun r w => r ++ [w]) (fun r hr Q k => ?_) (fun r hr w hw Q k => ⟨?_, k⟩) (by rw [List.nil_append]; exact lb9 (by omega)) ?_
  · refine ⟨ixOk_of hx.1 hx.2, ?_⟩
    rw [ixAt_nn hx.1]
    exact ⟨⟨by show _ ≤ atT s x; omega, by show atT s x ≤ _; omega⟩, k⟩
  · have := ((mem_rws _ r).mp hr).len
    rw [List.length_map] at this
    have := Spt.len (Spt.pre hp)
    have := h.few
    simp only [List.length_append, List.length_cons, List.length_nil]
    omega
  · exact hN _ (by rw [List.nil_append]; exact e2.symm)
/-! ### the worth of a text -/
def idx (s t : List Int) (f : Int → Int) : Int := t.foldl (fun a p => a * atT s p + f p) 0
def idR (s : List Int) (f : Int → Int) : List Int → Int
  | [] => 0
  | p :: t => f p * prodR (ssz s t) + idR s f t
theorem idx_fold (s : List Int) (f : Int → Int) : ∀ (t : List Int) (a : Int), t.foldl (fun a p => a * atT s p + f p) a = a * prodR (ssz s t) + idR s f t
  | [], a => by simp [prodR, idR]
  | p :: t, a => by
    rw [List.foldl_cons, idx_fold s f t, idR]
    show _ = a * (atT s p * prodR (ssz s t)) + _
    rw [Int.add_mul, Int.mul_assoc, Int.add_assoc]
theorem idx_R (s t : List Int) (f : Int → Int) : idx s t f = idR s f t := by unfold idx; rw [idx_fold, Int.zero_mul, Int.zero_add]
/-- wordings of a text -/
def Vd (s : List Int) (f : Int → Int) : Prop := ∀ p : Int, 0 ≤ p → p < (s.length : Int) → 0 ≤ f p ∧ f p < atT s p
theorem idR_in {s : List Int} (h : Sz s) {f : Int → Int} (hf : Vd s f) : ∀ {t : List Int}, (∀ p ∈ t, 0 ≤ p ∧ p < (s.length : Int)) → 0 ≤ idR s f t ∧ idR s f t < prodR (ssz s t)
  | [], _ => by show (0 : Int) ≤ 0 ∧ (0 : Int) < 1; omega
  | p :: t, ht => by
    have ih := idR_in h hf (t := t) fun q hq => ht q (List.mem_cons_of_mem _ hq)
    have hp := ht p List.mem_cons_self
    have hv := hf p hp.1 hp.2
    show 0 ≤ f p * prodR (ssz s t) + idR s f t ∧ f p * prodR (ssz s t) + idR s f t < atT s p * prodR (ssz s t)
    have h1 : 0 ≤ f p * prodR (ssz s t) := Int.mul_nonneg hv.1 (by omega)
    have h2 : f p * prodR (ssz s t) ≤ (atT s p - 1) * prodR (ssz s t) := Int.mul_le_mul_of_nonneg_right (by omega) (by omega)
    rw [Int.sub_mul, Int.one_mul] at h2
    omega
theorem idx_in {s : List Int} (h : Sz s) {f : Int → Int} (hf : Vd s f) {t : List Int} (ht : ∀ p ∈ t, 0 ≤ p ∧ p < (s.length : Int)) : 0 ≤ idx s t f ∧ idx s t f < prodR (ssz s t) := by rw [idx_R]; exact idR_in h hf ht
theorem idx_ext {s t : List Int} {f g : Int → Int} (h : ∀ p ∈ t, f p = g p) : idx s t f = idx s t g := by
  rw [idx_R, idx_R]
  induction t with
  | nil => rfl
  | cons p t ih => rw [idR, idR, h p List.mem_cons_self, ih fun q hq => h q (List.mem_cons_of_mem _ hq)]
abbrev Tab := List Int × List Int
def wt (s : List Int) (f : Int → Int) (t : Tab) : Int := t.2.getD (idx s t.1 f).toNat default
def Wl (s : List Int) (ts : List Tab) (f : Int → Int) : Int := (ts.map (wt s f)).sum
/-- tables of a wish -/
structure Tbs (s : List Int) (ts : List Tab) : Prop where
  few : ts.length ≤ 8
  pl : ∀ t ∈ ts, Spt t.1 s.length
  ne : ∀ t ∈ ts, t.1 ≠ []
  len : ∀ t ∈ ts, (t.2.length : Int) = prodR (ssz s t.1)
abbrev touch (S : List Int) (t : Tab) : Bool := (S.map fun x => decide (x ∈ t.1)).any id
theorem touch_iff {S : List Int} {t : Tab} : touch S t = true ↔ ∃ p ∈ S, p ∈ t.1 := by
  unfold touch
  rw [List.any_map, List.any_eq_true]
  constructor
  · rintro ⟨p, hp, h⟩; exact ⟨p, hp, by simpa using h⟩
  · rintro ⟨p, hp, h⟩; exact ⟨p, hp, by simpa using h⟩
abbrev Ts (ts : List Tab) (S : List Int) : List Tab := ts.filter (touch S)
/-- what is alike off S: the tables that do not touch S say the same -/
theorem off_S {s : List Int} {S : List Int} {f g : Int → Int} : ∀ {ts : List Tab}, (∀ t ∈ ts, ∀ p ∈ t.1, p ∉ S → f p = g p) → Wl s ts f - Wl s ts g = Wl s (Ts ts S) f - Wl s (Ts ts S) g
  | [], _ => rfl
  | t :: ts, h => by
    have ih := off_S (s := s) (S := S) (ts := ts) fun u hu => h u (List.mem_cons_of_mem _ hu)
    have h0 := h t List.mem_cons_self
    unfold Wl at ih ⊢
    rw [List.map_cons, List.map_cons, List.sum_cons, List.sum_cons]
    by_cases e : touch S t = true
    · rw [show Ts (t :: ts) S = t :: Ts ts S from List.filter_cons_of_pos e, List.map_cons, List.map_cons, List.sum_cons, List.sum_cons]; omega
    · rw [show Ts (t :: ts) S = Ts ts S from List.filter_cons_of_neg e]
      have : wt s f t = wt s g t := by
        unfold wt
        rw [idx_ext fun p hp => h0 p hp fun z => e (touch_iff.mpr ⟨p, z, hp⟩)]
      omega
theorem Wl_ext {s : List Int} {f g : Int → Int} {ts : List Tab} (h : ∀ t ∈ ts, ∀ p ∈ t.1, f p = g p) : Wl s ts f = Wl s ts g := by
  unfold Wl
  congr 1
  refine List.map_congr_left fun t ht => ?_
  unfold wt
  rw [idx_ext fun p hp => h t ht p hp]
/-! ### alike lists of numbers -/
def Ali (a b : List Int) : Prop := a.length = b.length ∧ ∀ i j : Nat, i < a.length → j < a.length → (a.getD i 0 < a.getD j 0 ↔ b.getD i 0 < b.getD j 0)
theorem Ali.symm {a b : List Int} (h : Ali a b) : Ali b a := ⟨h.1.symm, fun i j hi hj => (h.2 i j (by rw [h.1]; exact hi) (by rw [h.1]; exact hj)).symm⟩
theorem Ali.trans {a b c : List Int} (h : Ali a b) (k : Ali b c) : Ali a c := ⟨h.1.trans k.1, fun i j hi hj => (h.2 i j hi hj).trans (k.2 i j (by rw [← h.1]; exact hi) (by rw [← h.1]; exact hj))⟩
theorem Ali.refl (a : List Int) : Ali a a := ⟨rfl, fun _ _ _ _ => Iff.rfl⟩
def rankL (l : List Int) : List Int := l.map fun x => ((asc l).idxOf x : Int)
theorem idx_lt {l : List Int} (h : l.Pairwise (· < ·)) {x y : Int} (hx : x ∈ l) (hy : y ∈ l) : l.idxOf x < l.idxOf y ↔ x < y := by
  have lx := List.idxOf_lt_length_of_mem hx
  have ly := List.idxOf_lt_length_of_mem hy
  have gx : l[l.idxOf x] = x := List.getElem_idxOf lx
  have gy : l[l.idxOf y] = y := List.getElem_idxOf ly
  have pw := List.pairwise_iff_getElem.mp h
  constructor
  · intro z
    have := pw _ _ lx ly z
    rwa [gx, gy] at this
  · intro z
    rcases Nat.lt_trichotomy (l.idxOf x) (l.idxOf y) with q | q | q
    · exact q
    · exfalso
      have : l[l.idxOf x] = l[l.idxOf y] := by congr 1
      rw [gx, gy] at this; omega
    · exfalso
      have := pw _ _ ly lx q
      rw [gx, gy] at this; omega
theorem rank_ali (l : List Int) : Ali (rankL l) l := by
  have hl : (rankL l).length = l.length := List.length_map ..
  refine ⟨hl, fun i j hi hj => ?_⟩
  rw [hl] at hi hj
  have g : ∀ k, k < l.length → (rankL l).getD k 0 = ((asc l).idxOf (l.getD k 0) : Int) ∧ l.getD k 0 ∈ asc l := fun k hk => by
    unfold rankL
    rw [List.getD_eq_getElem?_getD, List.getElem?_map, List.getD_eq_getElem?_getD, List.getElem?_eq_getElem hk]
    exact ⟨rfl, mem_asc.mpr (List.getElem_mem hk)⟩
  obtain ⟨e1, m1⟩ := g i hi
  obtain ⟨e2, m2⟩ := g j hj
  rw [e1, e2]
  have := idx_lt (asc_up l) m1 m2
  omega
theorem idx_map {g : Int → Int} : ∀ {l : List Int} {x : Int}, (∀ y ∈ l, g y = g x → y = x) → x ∈ l → (l.map g).idxOf (g x) = l.idxOf x
  | [], x, _, hx => nomatch hx
  | y :: l, x, h, hx => by
    rw [List.map_cons, List.idxOf_cons, List.idxOf_cons]
    by_cases e : y = x
    · subst e; simp
    · have ne : g y ≠ g x := fun z => e (h y List.mem_cons_self z)
      rcases List.mem_cons.mp hx with q | q
      · exact absurd q.symm e
      · have ih := idx_map (g := g) (fun z hz => h z (List.mem_cons_of_mem _ hz)) q
        rw [show (g y == g x) = false from beq_eq_false_iff_ne.mpr ne, show (y == x) = false from beq_eq_false_iff_ne.mpr e, ih]
theorem ali_rank {a b : List Int} (h : Ali a b) : rankL a = rankL b := by
  have hl := h.1
  have ga : ∀ k, k < a.length → a.getD k 0 ∈ a := fun k hk => by
    rw [List.getD_eq_getElem?_getD, List.getElem?_eq_getElem hk]; exact List.getElem_mem hk
  -- what a's numbers become
  have ex : ∃ g : Int → Int, ∀ k, k < a.length → g (a.getD k 0) = b.getD k 0 := by
    refine ⟨fun x => b.getD (a.idxOf x) 0, fun k hk => ?_⟩
    have hm := ga k hk
    have li := List.idxOf_lt_length_of_mem hm
    have e : a.getD (a.idxOf (a.getD k 0)) 0 = a.getD k 0 := by
      conv => lhs; rw [List.getD_eq_getElem?_getD, List.getElem?_eq_getElem li, List.getElem_idxOf li]
      rfl
    have h1 := h.2 _ _ li hk
    have h2 := h.2 _ _ hk li
    rw [e] at h1 h2
    show b.getD (a.idxOf (a.getD k 0)) 0 = _
    omega
  obtain ⟨g, hg⟩ := ex
  have eb : b = a.map g := by
    refine List.ext_getElem (by rw [List.length_map, hl]) fun i h1 h2 => ?_
    have hi : i < a.length := by omega
    have := hg i hi
    rw [List.getD_eq_getElem?_getD, List.getD_eq_getElem?_getD, List.getElem?_eq_getElem hi, List.getElem?_eq_getElem h1] at this
    rw [List.getElem_map]; exact this.symm
  have mono : ∀ x ∈ a, ∀ y ∈ a, (x < y ↔ g x < g y) := fun x hx y hy => by
    have lx := List.idxOf_lt_length_of_mem hx
    have ly := List.idxOf_lt_length_of_mem hy
    have e : ∀ {z}, (lz : a.idxOf z < a.length) → a.getD (a.idxOf z) 0 = z := fun lz => by
      rw [List.getD_eq_getElem?_getD, List.getElem?_eq_getElem lz, List.getElem_idxOf lz]; rfl
    have := h.2 _ _ lx ly
    rw [← hg _ lx, ← hg _ ly, e lx, e ly] at this
    exact this
  have ea : asc b = (asc a).map g := by
    refine asc_eq ?_ fun k => ?_
    · refine List.pairwise_map.mpr (List.Pairwise.imp_of_mem (fun {x y} hx hy z => (mono x (mem_asc.mp hx) y (mem_asc.mp hy)).mp z) (asc_up a))
    · rw [eb, List.mem_map, List.mem_map]
      constructor
      · rintro ⟨x, hx, e⟩; exact ⟨x, mem_asc.mp hx, e⟩
      · rintro ⟨x, hx, e⟩; exact ⟨x, mem_asc.mpr hx, e⟩
  unfold rankL
  rw [ea]
  conv => rhs; rw [eb]
  rw [List.map_map]
  refine List.map_congr_left fun x hx => ?_
  show _ = (((asc a).map g).idxOf (g x) : Int)
  rw [idx_map (fun y hy e => ?_) (mem_asc.mpr hx)]
  have m1 := mono x hx y (mem_asc.mp hy)
  have m2 := mono y (mem_asc.mp hy) x hx
  omega
theorem rank_iff {a b : List Int} : rankL a = rankL b ↔ Ali a b := ⟨fun h => (rank_ali a).symm.trans (h ▸ rank_ali b), ali_rank⟩
end K18

set_option Elab.async false
set_option linter.all false
set_option maxRecDepth 100000
set_option maxHeartbeats 4000000
namespace K18
open PySem PySem.Spec L2 DL
/-! ### lists of places that are apart -/
def Ap (s : List Int) (ts : List Tab) (S : List Int) : Prop := ∀ f g f' g' : Int → Int, Vd s f → Vd s g → Vd s f' → Vd s g' →
  (∀ p : Int, 0 ≤ p → p < (s.length : Int) → p ∈ S → f p = f' p) → (∀ p : Int, 0 ≤ p → p < (s.length : Int) → p ∈ S → g p = g' p) →
  (∀ p : Int, 0 ≤ p → p < (s.length : Int) → p ∉ S → f p = g p) → (∀ p : Int, 0 ≤ p → p < (s.length : Int) → p ∉ S → f' p = g' p) → (Wl s ts f < Wl s ts g ↔ Wl s ts f' < Wl s ts g')
def comb (S r O rest : List Int) (p : Int) : Int := if p ∈ S then atT r (S.idxOf p) else if p ∈ O then atT rest (O.idxOf p) else 0
theorem at_idx {l : List Int} {f : Int → Int} {p : Int} (h : p ∈ l) : atT (l.map f) (l.idxOf p) = f p := by
  have hl := List.idxOf_lt_length_of_mem h
  unfold atT
  rw [Int.toNat_natCast, List.getD_eq_getElem?_getD, List.getElem?_map, List.getElem?_eq_getElem hl, List.getElem_idxOf hl]; rfl
theorem map_idx {l r : List Int} (hn : l.Nodup) (hl : r.length = l.length) : l.map (fun p => atT r (l.idxOf p)) = r := by
  refine List.ext_getElem (by rw [List.length_map]; exact hl.symm) fun i h1 h2 => ?_
  rw [List.length_map] at h1
  rw [List.getElem_map]
  have e : l.idxOf l[i] = i := by
    have hl2 := List.idxOf_lt_length_of_mem (List.getElem_mem h1)
    exact hn.idxOf_getElem i h1
  rw [e]
  unfold atT
  rw [Int.toNat_natCast, List.getD_eq_getElem?_getD, List.getElem?_eq_getElem h2]; rfl
theorem comb_S {S r O rest : List Int} (hn : S.Nodup) (hl : r.length = S.length) : S.map (comb S r O rest) = r := by
  conv => rhs; rw [← map_idx hn hl]
  refine List.map_congr_left fun p hp => ?_
  unfold comb; rw [if_pos hp]
theorem comb_O {S r O rest : List Int} (hd : ∀ p ∈ O, p ∉ S) (hn : O.Nodup) (hl : rest.length = O.length) : O.map (comb S r O rest) = rest := by
  conv => rhs; rw [← map_idx hn hl]
  refine List.map_congr_left fun p hp => ?_
  unfold comb; rw [if_neg (hd p hp), if_pos hp]
theorem row_at {s S r : List Int} (h : InW r (ssz s S)) {p : Int} (hp : p ∈ S) : 0 ≤ atT r (S.idxOf p) ∧ atT r (S.idxOf p) < atT s p := by
  have hl := List.idxOf_lt_length_of_mem hp
  have := inW_at h (S.idxOf p) (by omega) (by rw [List.length_map]; omega)
  rwa [at_idx hp] at this
theorem comb_vd {s S r O rest : List Int} (hs : Sz s) (h1 : InW r (ssz s S)) (h2 : InW rest (ssz s O)) : Vd s (comb S r O rest) := fun p p0 p1 => by
  have := hs.at ⟨p0, p1⟩
  unfold comb
  split
  · rename_i h; exact row_at h1 h
  · split
    · rename_i h; exact row_at h2 h
    · omega
def lineL (s : List Int) (W : (Int → Int) → Int) (S O rest : List Int) : List Int := (rws (ssz s S)).map fun r => W (comb S r O rest)
/-- W says of the rows over S what the worth says, and looks at the places of S and O alone -/
structure Loc (s : List Int) (ts : List Tab) (S O : List Int) (W : (Int → Int) → Int) : Prop where
  sp : Spt O s.length
  dis : ∀ p ∈ O, p ∉ S
  ext : ∀ f g : Int → Int, (∀ p : Int, 0 ≤ p → p < (s.length : Int) → p ∈ S ∨ p ∈ O → f p = g p) → W f = W g
  off : ∀ f g : Int → Int, (∀ p : Int, 0 ≤ p → p < (s.length : Int) → p ∉ S → f p = g p) → (Wl s ts f < Wl s ts g ↔ W f < W g)
theorem getD_map0 {α : Type} [Inhabited α] {f : α → Int} {l : List α} {i : Nat} (h : i < l.length) : (l.map f).getD i 0 = f (l.getD i default) := by
  rw [List.getD_eq_getElem?_getD, List.getD_eq_getElem?_getD, List.getElem?_map, List.getElem?_eq_getElem h]; rfl
theorem getD_at {α : Type} [Inhabited α] {l : List α} {x : α} (h : x ∈ l) : ∃ i, i < l.length ∧ l.getD i default = x := by
  obtain ⟨i, hi, e⟩ := List.getElem_of_mem h
  exact ⟨i, hi, by rw [List.getD_eq_getElem?_getD, List.getElem?_eq_getElem hi]; exact e⟩
section
variable {s : List Int} {ts : List Tab} {S O : List Int} {W : (Int → Int) → Int}
/-- two rests at two rows -/
theorem ap_two (hs : Sz s) (hS : Spt S s.length) (L : Loc s ts S O W) (h : Ap s ts S) {a b : List Int} (ha : a ∈ rws (ssz s O)) (hb : b ∈ rws (ssz s O)) : Ali (lineL s W S O a) (lineL s W S O b) := by
  refine ⟨by unfold lineL; rw [List.length_map, List.length_map], fun i j hi hj => ?_⟩
  unfold lineL at hi hj ⊢
  rw [List.length_map] at hi hj
  rw [getD_map0 hi, getD_map0 hj, getD_map0 hi, getD_map0 hj]
  have ri := (mem_rws _ _).mp (getD_mem hi)
  have rj := (mem_rws _ _).mp (getD_mem hj)
  generalize (rws (ssz s S)).getD i default = r at ri
  generalize (rws (ssz s S)).getD j default = q at rj
  have ha' := (mem_rws _ _).mp ha
  have hb' := (mem_rws _ _).mp hb
  have oS : ∀ {c d e : List Int} (p : Int), p ∉ S → comb S c O e p = comb S d O e p := fun {c d e} p hp => by unfold comb; rw [if_neg hp, if_neg hp]
  have iS : ∀ {c d e : List Int} (p : Int), p ∈ S → comb S c O d p = comb S c O e p := fun {c d e} p hp => by unfold comb; rw [if_pos hp, if_pos hp]
  have k := h (comb S r O a) (comb S q O a) (comb S r O b) (comb S q O b) (comb_vd hs ri ha') (comb_vd hs rj ha') (comb_vd hs ri hb') (comb_vd hs rj hb') (fun p _ _ z => iS p z) (fun p _ _ z => iS p z) (fun p _ _ z => oS p z) (fun p _ _ z => oS p z)
  rw [L.off _ _ fun p _ _ z => oS p z, L.off _ _ fun p _ _ z => oS p z] at k
  exact k
theorem ap_of (hs : Sz s) (hS : Spt S s.length) (L : Loc s ts S O W) (h : ∀ a ∈ rws (ssz s O), ∀ b ∈ rws (ssz s O), Ali (lineL s W S O a) (lineL s W S O b)) : Ap s ts S := fun f g f' g' vf vg vf' vg' hf hg hfg hfg' => by
  rw [L.off f g hfg, L.off f' g' hfg']
  have row : ∀ {k : Int → Int} {T : List Int}, Vd s k → Spt T s.length → T.map k ∈ rws (ssz s T) := fun {k T} vk hT => (mem_rws _ _).mpr (inW_map fun p hp => vk p (hT.2 p hp).1 (hT.2 p hp).2)
  have eq : ∀ {k k' k2 : Int → Int}, (∀ p : Int, 0 ≤ p → p < (s.length : Int) → p ∈ S → k p = k' p) → (∀ p : Int, 0 ≤ p → p < (s.length : Int) → p ∉ S → k p = k2 p) → W k = W (comb S (S.map k') O (O.map k2)) := fun {k k' k2} z1 z2 => L.ext _ _ fun p p0 p1 hp => by
    unfold comb
    by_cases e : p ∈ S
    · rw [if_pos e, at_idx e]; exact z1 p p0 p1 e
    · rw [if_neg e]
      rcases hp with q | q
      · exact absurd q e
      · rw [if_pos q, at_idx q]; exact z2 p p0 p1 e
  have e1 : W f = W (comb S (S.map f) O (O.map f)) := eq (fun _ _ _ _ => rfl) fun _ _ _ _ => rfl
  have e2 : W g = W (comb S (S.map g) O (O.map f)) := eq (fun _ _ _ _ => rfl) fun p p0 p1 z => (hfg p p0 p1 z).symm
  have e3 : W f' = W (comb S (S.map f) O (O.map f')) := eq (fun p p0 p1 z => (hf p p0 p1 z).symm) fun _ _ _ _ => rfl
  have e4 : W g' = W (comb S (S.map g) O (O.map f')) := eq (fun p p0 p1 z => (hg p p0 p1 z).symm) fun p p0 p1 z => (hfg' p p0 p1 z).symm
  rw [e1, e2, e3, e4]
  have A := h _ (row vf L.sp) _ (row vf' L.sp)
  obtain ⟨i, hi, ei⟩ := getD_at (row vf hS)
  obtain ⟨j, hj, ej⟩ := getD_at (row vg hS)
  have := A.2 i j (by unfold lineL; rw [List.length_map]; exact hi) (by unfold lineL; rw [List.length_map]; exact hj)
  unfold lineL at this
  rw [getD_map0 hi, getD_map0 hj, getD_map0 hi, getD_map0 hj, ei, ej] at this
  exact this
/-- the worth itself -/
theorem loc_all (hT : Tbs s ts) : Loc s ts S ((rangeL 0 s.length).filter fun p => !decide (p ∈ S)) (Wl s ts) where
  sp := Spt.of _
  dis := fun p hp => by have := (List.mem_filter.mp hp).2; simpa using this
  ext := fun f g h => Wl_ext fun t ht p hp => by
    have hp' := (hT.pl t ht).2 p hp
    refine h p hp'.1 hp'.2 ?_
    by_cases e : p ∈ S
    · exact .inl e
    · exact .inr (List.mem_filter.mpr ⟨mem_rangeL.mpr (by omega), by simpa using e⟩)
  off := fun f g h => Iff.rfl
/-- the places asked -/
def askL (ts : List Tab) (S : List Int) : List Int := asc (((Ts ts S).flatMap (·.1)) ++ S)
abbrev outL (ts : List Tab) (S : List Int) : List Int := (askL ts S).filter fun p => !decide (p ∈ S)
theorem mem_ask {p : Int} : p ∈ askL ts S ↔ (∃ t ∈ Ts ts S, p ∈ t.1) ∨ p ∈ S := by
  unfold askL
  rw [mem_asc, List.mem_append, List.mem_flatMap]
theorem ask_spt (hT : Tbs s ts) (hS : Spt S s.length) : Spt (askL ts S) s.length := ⟨asc_up _, fun p hp => by
  rcases mem_ask.mp hp with ⟨t, ht, h⟩ | h
  · exact (hT.pl t (List.mem_filter.mp ht).1).2 p h
  · exact hS.2 p h⟩
theorem loc_ask (hT : Tbs s ts) (hS : Spt S s.length) : Loc s ts S (outL ts S) (Wl s (Ts ts S)) where
  sp := ⟨(asc_up _).sublist List.filter_sublist, fun p hp => (ask_spt hT hS).2 p (List.mem_filter.mp hp).1⟩
  dis := fun p hp => by have := (List.mem_filter.mp hp).2; simpa using this
  ext := fun f g h => Wl_ext fun t ht p hp => by
    have hp' := (hT.pl t (List.mem_filter.mp ht).1).2 p hp
    refine h p hp'.1 hp'.2 ?_
    by_cases e : p ∈ S
    · exact .inl e
    · exact .inr (List.mem_filter.mpr ⟨mem_ask.mpr (.inl ⟨t, ht, hp⟩), by simpa using e⟩)
  off := fun f g h => by
    have := off_S (s := s) (S := S) (f := f) (g := g) (ts := ts) fun t ht p hp hn => by
      have hp' := (hT.pl t ht).2 p hp
      exact h p hp'.1 hp'.2 hn
    omega
/-- a place that is drawn in lies in every list that is apart and holds S -/
theorem drawn_in_all (hs : Sz s) (hS : Spt S s.length) (L : Loc s ts S O W) {T : List Int} (hT : Ap s ts T) (hST : ∀ p ∈ S, p ∈ T) {a b : List Int} {k : Int} (ha : a ∈ rws (ssz s O)) (hb : b ∈ rws (ssz s O)) (hk : k ∉ T) (hab : ∀ p ∈ O, p ≠ k → atT a (O.idxOf p) = atT b (O.idxOf p)) : Ali (lineL s W S O a) (lineL s W S O b) := by
  refine ⟨by unfold lineL; rw [List.length_map, List.length_map], fun i j hi hj => ?_⟩
  unfold lineL at hi hj ⊢
  rw [List.length_map] at hi hj
  rw [getD_map0 hi, getD_map0 hj, getD_map0 hi, getD_map0 hj]
  have ri := (mem_rws _ _).mp (getD_mem hi)
  have rj := (mem_rws _ _).mp (getD_mem hj)
  generalize (rws (ssz s S)).getD i default = r at ri
  generalize (rws (ssz s S)).getD j default = q at rj
  have ha' := (mem_rws _ _).mp ha
  have hb' := (mem_rws _ _).mp hb
  have oS : ∀ {c d e : List Int} (p : Int), p ∉ S → comb S c O e p = comb S d O e p := fun {c d e} p hp => by unfold comb; rw [if_neg hp, if_neg hp]
  have nk : ∀ {c : List Int} (p : Int), p ≠ k → comb S c O a p = comb S c O b p := fun {c} p hp => by
    unfold comb
    split
    · rfl
    · split
      · rename_i z; exact hab p z hp
      · rfl
  have kk := hT (comb S r O a) (comb S q O a) (comb S r O b) (comb S q O b) (comb_vd hs ri ha') (comb_vd hs rj ha') (comb_vd hs ri hb') (comb_vd hs rj hb') (fun p _ _ z => nk p fun e => hk (e ▸ z)) (fun p _ _ z => nk p fun e => hk (e ▸ z)) (fun p _ _ z => oS p fun y => z (hST p y)) (fun p _ _ z => oS p fun y => z (hST p y))
  rw [L.off _ _ fun p _ _ z => oS p z, L.off _ _ fun p _ _ z => oS p z] at kk
  exact kk
end
end K18

set_option Elab.async false
set_option linter.all false
set_option maxRecDepth 100000
set_option maxHeartbeats 4000000
namespace K18
open PySem PySem.Spec L2 DL
/-! ### sums of steps -/
def stp (s : List Int) : List Int → Int → Int
  | [], _ => 0
  | p :: t, q => if q = p then prodR (ssz s t) else stp s t q
theorem stp_out {s : List Int} : ∀ {t : List Int} {q : Int}, q ∉ t → stp s t q = 0
  | [], _, _ => rfl
  | p :: t, q, h => by
    rw [stp, if_neg fun e => h (by rw [e]; exact List.mem_cons_self)]
    exact stp_out fun z => h (List.mem_cons_of_mem _ z)
theorem sum_add {f g : Int → Int} : ∀ L : List Int, (L.map fun q => f q + g q).sum = (L.map f).sum + (L.map g).sum
  | [] => rfl
  | q :: L => by simp only [List.map_cons, List.sum_cons, sum_add L]; omega
theorem sum_zero {f : Int → Int} : ∀ {L : List Int}, (∀ q ∈ L, f q = 0) → (L.map f).sum = 0
  | [], _ => rfl
  | q :: L, h => by rw [List.map_cons, List.sum_cons, h q List.mem_cons_self, sum_zero fun r hr => h r (List.mem_cons_of_mem _ hr)]; rfl
theorem sum_one {c p : Int} : ∀ {L : List Int}, L.Nodup → p ∈ L → (L.map fun q => if q = p then c else 0).sum = c
  | [], _, h => nomatch h
  | q :: L, hn, h => by
    have hn' := List.nodup_cons.mp hn
    rw [List.map_cons, List.sum_cons]
    by_cases e : q = p
    · subst e
      rw [if_pos rfl, sum_zero (f := fun r => if r = q then c else 0) fun r hr => if_neg fun z => hn'.1 (by rw [← z]; exact hr)]; omega
    · rw [if_neg e, sum_one hn'.2 (by rcases List.mem_cons.mp h with z | z; exact absurd z.symm e; exact z)]; omega
theorem sum_stp {s : List Int} {f : Int → Int} {L : List Int} (hL : L.Nodup) : ∀ {t : List Int}, t.Nodup → (∀ p ∈ t, p ∈ L) → (L.map fun q => stp s t q * f q).sum = idR s f t
  | [], _, _ => sum_zero fun q _ => by rw [stp, Int.zero_mul]
  | p :: t, hn, h => by
    have hn' := List.nodup_cons.mp hn
    have e : L.map (fun q => stp s (p :: t) q * f q) = L.map fun q => (if q = p then prodR (ssz s t) * f p else 0) + stp s t q * f q := List.map_congr_left fun q _ => by
      rw [stp]
      by_cases z : q = p
      · rw [if_pos z, if_pos z, z, stp_out hn'.1, Int.zero_mul, Int.add_zero]
      · rw [if_neg z, if_neg z, Int.zero_add]
    rw [e, sum_add (f := fun q => if q = p then prodR (ssz s t) * f p else 0), sum_one hL (h p List.mem_cons_self), sum_stp hL hn'.2 fun q hq => h q (List.mem_cons_of_mem _ hq), idR, Int.mul_comm]
theorem sum_app (a b : List Int) : (a ++ b).sum = a.sum + b.sum := List.sum_append
/-- what moved adds up for one row -/
def mvF (st : Int → Int) (zs : List (Int × Int)) (r : List Int) (a : Int) : Int := zs.foldl (fun a z => a + st z.2 * atT r z.1) a
theorem mv_sum {st f : Int → Int} : ∀ (S pre : List Int) (a : Int), mvF st ((S.zipIdx pre.length).map fun z => ((z.2 : Int), z.1)) ((pre ++ S).map f) a = a + (S.map fun q => st q * f q).sum
  | [], pre, a => by simp [mvF]
  | q :: S, pre, a => by
    have ih := mv_sum (st := st) (f := f) S (pre ++ [q]) (a + st q * f q)
    rw [List.length_append, List.length_singleton, List.append_assoc] at ih
    rw [List.zipIdx_cons, List.map_cons, List.map_cons, List.sum_cons]
    unfold mvF at ih ⊢
    rw [List.foldl_cons]
    have g : atT ((pre ++ q :: S).map f) (pre.length : Int) = f q := by
      unfold atT
      rw [Int.toNat_natCast, List.getD_eq_getElem?_getD, List.getElem?_map, List.getElem?_append_right (Nat.le_refl _), Nat.sub_self]; rfl
    dsimp only
    rw [g]
    refine Eq.trans ih ?_
    omega
theorem mv_all {st f : Int → Int} (S : List Int) : mvF st (enumL S) (S.map f) 0 = (S.map fun q => st q * f q).sum := by
  have := mv_sum (st := st) (f := f) S [] 0
  rw [Int.zero_add] at this
  exact this
theorem comb_idx {s S O r rest t : List Int} (hS : S.Nodup) (hO : O.Nodup) (hd : ∀ p ∈ O, p ∉ S) (hr : r.length = S.length) (hrest : rest.length = O.length) (ht : t.Nodup) (hin : ∀ p ∈ t, p ∈ S ∨ p ∈ O) : mvF (stp s t) (enumL O) rest 0 + mvF (stp s t) (enumL S) r 0 = idx s t (comb S r O rest) := by
  have e1 := mv_all (st := stp s t) (f := comb S r O rest) S
  have e2 := mv_all (st := stp s t) (f := comb S r O rest) O
  rw [comb_S hS hr] at e1
  rw [comb_O hd hO hrest] at e2
  rw [e1, e2, idx_R, ← sum_stp (f := comb S r O rest) (L := S ++ O) (List.nodup_append.mpr ⟨hS, hO, fun a ha b hb e => hd b hb (e ▸ ha)⟩) ht fun p hp => List.mem_append.mpr (hin p hp), List.map_append, sum_app]
  omega
/-! ### the functions of the book -/
section
variable {s : List Int} {ts : List Tab} {S O : List Int}
theorem enum_mem {α : Type} {xs : List α} {z : Int × α} (h : z ∈ enumL xs) : ∃ i : Nat, i < xs.length ∧ z.1 = (i : Int) ∧ xs[i]? = some z.2 := by
  obtain ⟨i, hi, e⟩ := List.getElem_of_mem h
  have := enumL_get (xs := xs) (i := i) (z := z) (by rw [List.getElem?_eq_getElem hi, e])
  rw [enumL_len] at hi
  exact ⟨i, hi, this.1, this.2⟩
theorem m_indices {x n : Int} {R : Bool → Prop} (h : 0 ≤ x ∧ x < n) (q : R true) : m_is_index x n R := by
  dsimp only [m_is_index, m_is_integer, wIte]
  rw [if_pos (by rfl), decide_eq_true h.1, decide_eq_true h.2]; exact q
theorem all_true {α : Type} : ∀ l : List α, (l.map fun _ => true).all id = true
  | [] => rfl
  | _ :: l => by rw [List.map_cons, List.all_cons, all_true l]; rfl
theorem m_places {n : Nat} {R : Bool → Prop} (hS : Spt S n) (hl : S.length ≤ 1000) (q : R true) : m_are_places S (n : Int) R := by
  dsimp only [m_are_places, m_is_lot, m_are_numbers, m_is_list, wIte]
  rw [if_pos rfl]
  refine wMap_of (fun _ => true) (fun x hx Q k => m_indices (hS.2 x hx) k) ?_
  rw [all_true, if_pos rfl]
  refine ⟨hl, ?_⟩
  rw [asc_self hS.1, decide_eq_true rfl]; exact q
theorem m_check (hs : Sz s) (hS : Spt S s.length) {R : Unit → Prop} (q : R ()) : m_check_places s S R :=
  ⟨⟨by omega, by have := hs.few; omega⟩, m_places hS (by have := hS.len; have := hs.few; omega) (by
    show if (!true) = true then False else R ()
    rw [if_neg (by decide)]; exact q)⟩
theorem m_prod {l : List Int} {R : Int → Prop} (h : ∀ n ∈ l, 2 ≤ n ∧ n ≤ 6) (q : R (prodR l)) : m_product_of l R := by
  refine wFor_fold (fun _ => True) (fun f n => f * n) l 1 trivial (fun x hx s _ => ⟨trivial, fun N' B' C' k => ⟨.inr ⟨by have := h x hx; omega, by have := h x hx; omega⟩, k⟩⟩) ?_
  rw [fold_prod, Int.one_mul]; exact q
theorem m_count (hs : Sz s) (hS : ∀ p ∈ S, 0 ≤ p ∧ p < (s.length : Int)) {R : Int → Prop} (q : R (prodR (ssz s S))) : m_count_rows s S R := by
  refine wMap_of (atT s) (fun x hx Q k => ⟨ixOk_of (hS x hx).1 (hS x hx).2, by rw [ixAt_nn (hS x hx).1]; exact k⟩) (m_prod (fun n hn => ?_) q)
  obtain ⟨p, hp, rfl⟩ := List.mem_map.mp hn
  exact hs.at (hS p hp)
theorem m_bcount (hs : Sz s) {R : Unit → Prop} (q : R ()) : m_check_count s R := by
  show m_product_of s _
  refine m_prod hs.bd ?_
  show if _ then False else R ()
  rw [if_neg (by have := hs.prod; simp; omega)]; exact q
theorem lc2_flat {α β : Type} (F : α → List β) : ∀ xs : List α, lc2L xs F (fun _ y => y) = xs.flatMap F
  | [] => rfl
  | x :: xs => by
    show (F x).map (fun y => y) ++ lc2L xs F _ = _
    rw [lc2_flat F xs, List.map_id', List.flatMap_cons]
theorem flat_len {n : Nat} : ∀ {ts : List Tab}, (∀ t ∈ ts, t.1.length ≤ n) → (ts.flatMap (·.1)).length ≤ ts.length * n
  | [], _ => by simp
  | t :: ts, h => by
    have := flat_len (ts := ts) fun u hu => h u (List.mem_cons_of_mem _ hu)
    have := h t List.mem_cons_self
    rw [List.flatMap_cons, List.length_append, List.length_cons, Nat.succ_mul]; omega
theorem m_ask (hs : Sz s) (hT : Tbs s ts) (hS : Spt S s.length) {R : List Int → Prop} (q : R (askL ts S)) : m_asked_places (s, ts) S R := by
  have l1 : ((Ts ts S).flatMap (·.1)).length ≤ 64 := by
    have h1 := flat_len (n := 8) (ts := Ts ts S) fun t ht => by
      have := (hT.pl t (List.mem_filter.mp ht).1).len
      have := hs.few; omega
    have h2 := List.length_filter_le (touch S) ts
    have h3 := hT.few
    have : (Ts ts S).length * 8 ≤ 8 * 8 := Nat.mul_le_mul_right 8 (by show (ts.filter _).length ≤ 8; omega)
    omega
  have l2 := hS.len
  have l3 := hs.few
  show wLc2 _ _ (Ts ts S) [] _
  refine wLc2_of (fun t => t.1) (fun _ y => y) (fun t _ Q k => k) (fun t _ y _ Q k => k) ?_ ?_
  · rw [List.nil_append, lc2_flat]; exact lb9 (by omega)
  · rw [List.nil_append, lc2_flat]
    exact ⟨lb9 (by omega), by rw [List.length_append]; omega, q⟩
theorem m_left (hs : Sz s) (hT : Tbs s ts) (hS : Spt S s.length) {R : List Int → Prop} (q : R (outL ts S)) : m_left_out (s, ts) S R := m_ask hs hT hS q
theorem m_casked (hs : Sz s) (hT : Tbs s ts) (hS : Spt S s.length) {R : Unit → Prop} (q : R ()) : m_check_asked (s, ts) S R := by
  refine m_check hs hS (m_ask hs hT hS (m_count hs (ask_spt hT hS).2 ?_))
  have := (hs.sub (ask_spt hT hS)).2
  show if _ then False else R ()
  rw [if_neg (by simp; omega)]; exact q
theorem putD_len {α : Type} {d : List (Int × α)} {k : Int} {v : α} : (putD d k v).length ≤ d.length + 1 := by
  unfold putD
  split
  · rw [List.length_map]; omega
  · rw [List.length_append]; exact Nat.le_refl _
theorem stp_in (hs : Sz s) : ∀ {t : List Int} {q : Int}, Spt t s.length → 0 ≤ stp s t q ∧ stp s t q ≤ 100
  | [], q, _ => by show (0 : Int) ≤ 0 ∧ (0 : Int) ≤ 100; omega
  | p :: t, q, h => by
    have ht : Spt t s.length := ⟨(List.pairwise_cons.mp h.1).2, fun x hx => h.2 x (List.mem_cons_of_mem _ hx)⟩
    rw [stp]
    split
    · have := hs.sub ht; omega
    · exact stp_in hs ht
theorem m_steps (hs : Sz s) {t : List Int} (ht : Spt t s.length) {R : List (Int × Int) → Prop} (q : ∀ D, (∀ x, (valD D x).getD 0 = stp s t x) → R D) : m_steps_of s t R := by
  have hl := ht.len
  have h8 := hs.few
  refine wFor_inv (fun pre st => st.2 = prodR (ssz s pre.reverse) ∧ (∀ x, (valD st.1 x).getD 0 = stp s pre.reverse x) ∧ st.1.length ≤ pre.length) t.reverse [] ([], 1) ⟨rfl, fun x => rfl, Nat.le_refl _⟩ (fun p x post st e ⟨h1, h2, h3⟩ N' C' hN hC => ?_) fun st ⟨h1, h2, h3⟩ => ?_
  · have e : t.reverse = p ++ x :: post := e
    have e2 : t = post.reverse ++ (x :: p.reverse) := by
      have := congrArg List.reverse e
      rw [List.reverse_reverse] at this
      rw [this]; simp
    have hx := ht.2 x (by rw [e2]; simp)
    have sub : Spt p.reverse s.length := by
      have h0 := ht
      rw [e2] at h0
      have h5 := (List.pairwise_append.mp h0.1).2.1
      exact ⟨(List.pairwise_cons.mp h5).2, fun y hy => h0.2 y (List.mem_append_right _ (List.mem_cons_of_mem _ hy))⟩
    have b := hs.sub sub
    have lp : p.length < t.length := by rw [← List.length_reverse (as := t), e]; simp
    refine ⟨by unfold LB; omega, ixOk_of hx.1 hx.2, .inl ⟨by rw [h1]; omega, by rw [h1]; omega⟩, hN _ ⟨?_, fun y => ?_, ?_⟩⟩
    · rw [ixAt_nn hx.1]
      show st.2 * atT s x = _
      rw [h1, List.reverse_append]
      show _ = atT s x * prodR (ssz s p.reverse)
      rw [Int.mul_comm]
    · show (valD (putD st.1 x st.2) y).getD 0 = _
      rw [valD_put, List.reverse_append]
      show _ = stp s (x :: p.reverse) y
      rw [stp]
      by_cases z : y = x
      · rw [if_pos z, if_pos z]; exact h1
      · rw [if_neg z, if_neg z]; exact h2 y
    · have := putD_len (d := st.1) (k := x) (v := st.2)
      rw [List.length_append, List.length_singleton]
      show (putD st.1 x st.2).length ≤ _
      omega
  · refine q st.1 fun x => ?_
    have := h2 x
    rwa [List.nil_append, List.reverse_reverse] at this
theorem zip_map_self {α β : Type} (A : α → β) : ∀ l : List α, (l.map A).zip l = l.map fun r => (A r, r)
  | [] => rfl
  | r :: l => by rw [List.map_cons, List.zip_cons_cons, zip_map_self A l]; rfl
theorem zip_maps {α β γ : Type} (A : α → β) (B : α → γ) : ∀ l : List α, (l.map A).zip (l.map B) = l.map fun r => (A r, B r)
  | [] => rfl
  | r :: l => by rw [List.map_cons, List.map_cons, List.zip_cons_cons, zip_maps A B l]; rfl
theorem m_move {D : List (Int × Int)} {st : Int → Int} (hD : ∀ x, (valD D x).getD 0 = st x) (hst : ∀ x, 0 ≤ st x ∧ st x ≤ 100) {rows : List (List Int)} (hr : ∀ r ∈ rows, r.length = S.length) {R : List Int → Prop} (q : R (rows.map fun r => mvF st (enumL S) r 0)) : m_moved D S rows R := by
  refine wFor_inv (fun pre sv => sv = rows.map fun r => mvF st pre r 0) (enumL S) [] _ rfl (fun p z post sv e hI N' C' hN hC => ?_) fun sv e => by rw [e]; exact q
  have hz : z ∈ enumL S := by have : enumL S = p ++ z :: post := e; rw [this]; simp
  obtain ⟨i, hi, e1, _⟩ := enum_mem hz
  subst hI
  have z0 : 0 ≤ z.1 := by omega
  show wMap _ ((rows.map _).zip rows) _
  rw [zip_map_self]
  refine wMap_of (fun x => x.1 + st z.2 * atT x.2 z.1) (fun x hx Q k => ?_) (hN _ ?_)
  · obtain ⟨r, hr', rfl⟩ := List.mem_map.mp hx
    have := hst z.2
    rw [hD]
    refine ⟨ixOk_of z0 (by rw [hr r hr']; omega), .inl ⟨by omega, by omega⟩, ?_⟩
    rw [ixAt_nn z0]; exact k
  · rw [List.map_map]
    refine List.map_congr_left fun r _ => ?_
    show _ = mvF st (p ++ [z]) r 0
    unfold mvF
    rw [List.foldl_append]; rfl
end
end K18

set_option Elab.async false
set_option linter.all false
set_option maxRecDepth 100000
set_option maxHeartbeats 4000000
namespace K18
open PySem PySem.Spec L2 DL
/-! ### dicts with a function's values -/
section
variable {α : Type}
theorem valT_putT (d : List (List Int × α)) (k : List Int) (v : α) (q : List Int) : valT (putT d k v) q = if q = k then some v else valT d q := by
  unfold putT
  split
  · rename_i h
    have look : ∀ d : List (List Int × α), valT (d.map fun kv => if kv.1 = k then (kv.1, v) else kv) q = if q = k then (if (valT d k).isSome then some v else none) else valT d q := fun d => by
      induction d with
      | nil => unfold valT; simp
      | cons y d ih =>
        unfold valT at ih ⊢
        rw [List.map_cons, List.find?_cons, List.find?_cons, List.find?_cons]
        by_cases e : y.1 = k
        · rw [if_pos e]
          by_cases e2 : q = k
          · subst e2; simp [e]
          · have ne : ¬ (y.1 = q) := fun z => e2 (by rw [← z, e])
            rw [if_neg e2] at ih ⊢
            simp only [ne, decide_false]; exact ih
        · rw [if_neg e]
          by_cases e3 : y.1 = q
          · have : ¬ (q = k) := fun z => e (by rw [e3, z])
            simp [e3, this]
          · simp only [e3, decide_false, decide_eq_false e]
            exact ih
    rw [look d, if_pos h]
  · rename_i h
    unfold valT at h ⊢
    rw [List.find?_append]
    by_cases e : q = k
    · subst e
      have : d.find? (fun kv => decide (kv.1 = q)) = none := by
        cases z : d.find? (fun kv => decide (kv.1 = q)) with
        | none => rfl
        | some y => rw [z] at h; simp at h
      rw [this, if_pos rfl]; simp
    · rw [if_neg e]
      have : ([(k, v)] : List (List Int × α)).find? (fun kv => decide (kv.1 = q)) = none := by
        rw [List.find?_cons, decide_eq_false (fun z => e z.symm)]; rfl
      rw [this]
      cases d.find? fun kv => decide (kv.1 = q) <;> rfl
/-- keys and their values -/
structure Fnd (d : List (List Int × α)) (keys : List (List Int)) (g : List Int → α) : Prop where
  mem : ∀ e ∈ d, e.1 ∈ keys ∧ e.2 = g e.1
  val : ∀ k ∈ keys, valT d k = some (g k)
theorem Fnd.has {d : List (List Int × α)} {keys : List (List Int)} {g : List Int → α} (F : Fnd d keys g) {k : List Int} (hk : k ∈ keys) : ∃ e ∈ d, e.1 = k := by
  have := F.val k hk
  unfold valT at this
  cases z : d.find? (fun kv => decide (kv.1 = k)) with
  | none => rw [z] at this; cases this
  | some y =>
    have h := List.find?_some z
    exact ⟨y, List.mem_of_find?_eq_some z, by simpa using h⟩
theorem Fnd.put {d : List (List Int × α)} {keys : List (List Int)} {g : List Int → α} (F : Fnd d keys g) (k : List Int) : Fnd (putT d k (g k)) (keys ++ [k]) g where
  mem := fun e he => by
    unfold putT at he
    split at he
    · obtain ⟨y, hy, rfl⟩ := List.mem_map.mp he
      have := F.mem y hy
      by_cases z : y.1 = k
      · rw [if_pos z]; exact ⟨List.mem_append_left _ this.1, by show g k = g y.1; rw [z]⟩
      · rw [if_neg z]; exact ⟨List.mem_append_left _ this.1, this.2⟩
    · rcases List.mem_append.mp he with h | h
      · have := F.mem e h; exact ⟨List.mem_append_left _ this.1, this.2⟩
      · rw [List.mem_singleton.mp h]; exact ⟨by simp, rfl⟩
  val := fun j hj => by
    rw [valT_putT]
    by_cases e : j = k
    · rw [if_pos e, e]
    · rw [if_neg e]
      rcases List.mem_append.mp hj with h | h
      · exact F.val j h
      · exact absurd (List.mem_singleton.mp h) e
theorem dt_fnd {ps : List (List Int × α)} {g : List Int → α} : (∀ p ∈ ps, p.2 = g p.1) → Fnd (dtOf ps) (ps.map (·.1)) g := by
  induction ps using snoc_ind with
  | h0 => intro _; exact ⟨fun e he => (nomatch he), fun k hk => (nomatch hk)⟩
  | hs ps p ih =>
    intro h
    rw [dtOf_snoc, List.map_append, h p (by simp)]
    exact (ih fun q hq => h q (List.mem_append_left _ hq)).put p.1
theorem Fnd.len {d : List (List Int × α)} {ps : List (List Int × α)} : (dtOf ps).length ≤ ps.length := by
  induction ps using snoc_ind with
  | h0 => exact Nat.le_refl _
  | hs ps p ih => rw [dtOf_snoc, List.length_append]; have := putT_len (dtOf ps) p.1 p.2; simp only [List.length_singleton]; omega
theorem Fnd.keys {d : List (List Int × α)} {k1 k2 : List (List Int)} {g : List Int → α} (F : Fnd d k1 g) (h : ∀ k, k ∈ k1 ↔ k ∈ k2) : Fnd d k2 g := ⟨fun e he => ⟨(h _).mp (F.mem e he).1, (F.mem e he).2⟩, fun k hk => F.val k ((h k).mpr hk)⟩
end
theorem valD_fun {α : Type} {ps : List (Int × α)} {g : Int → α} (h : ∀ p ∈ ps, p.2 = g p.1) {k : Int} (hk : ∃ p ∈ ps, p.1 = k) : valD (dicOf ps) k = some (g k) := by
  rw [valD_dicOf]
  unfold valD
  obtain ⟨p, hp, e⟩ := hk
  cases z : ps.reverse.find? (fun kv => decide (kv.1 = k)) with
  | none => exact absurd (decide_eq_true e) (List.find?_eq_none.mp z p (List.mem_reverse.mpr hp))
  | some y =>
    have h1 := List.find?_some z
    have h1 : y.1 = k := by simpa using h1
    have h2 := h y (List.mem_reverse.mp (List.mem_of_find?_eq_some z))
    rw [Option.map_some, h2, h1]
/-! ### the worths by rests -/
section
variable {s : List Int} {ts : List Tab} {S O : List Int}
theorem zip_self {α β : Type} (G : α → β) : ∀ l : List α, l.zip (l.map G) = l.map fun a => (a, G a)
  | [] => rfl
  | a :: l => by rw [List.map_cons, List.zip_cons_cons, zip_self G l]; rfl
theorem row_len {r S : List Int} (h : r ∈ rws (ssz s S)) : r.length = S.length := by
  have := ((mem_rws _ r).mp h).len
  rw [List.length_map] at this; exact this
theorem Wl_snoc (ts : List Tab) (t : Tab) (f : Int → Int) : Wl s (ts ++ [t]) f = Wl s ts f + wt s f t := by
  unfold Wl
  rw [List.map_append, sum_app]
  simp
theorem list_at {α : Type} {pre post : List α} {x : α} : (pre ++ x :: post)[pre.length]? = some x := by
  rw [List.getElem?_append_right (Nat.le_refl _), Nat.sub_self]; rfl
theorem m_worths (hs : Sz s) (hT : Tbs s ts) (hS : Spt S s.length) (hO : Spt O s.length) (dis : ∀ p ∈ O, p ∉ S) (hin : ∀ t ∈ Ts ts S, ∀ p ∈ t.1, p ∈ S ∨ p ∈ O) {R : List (List Int × List Int) → Prop}
    (q : R (dtOf ((rws (ssz s O)).map fun a => (a, lineL s (Wl s (Ts ts S)) S O a)))) : m_worths_by (s, ts) S O R := by
  refine m_rows hs hS (m_rows hs hO ?_)
  show wFor _ (Ts ts S) ((rws (ssz s O)).map fun _ => (rws (ssz s S)).map fun _ => (0 : Int)) _ _
  refine wFor_inv (fun pre st => st = (rws (ssz s O)).map fun a => (rws (ssz s S)).map fun r => Wl s pre (comb S r O a)) (Ts ts S) [] _ rfl (fun p t post st e hI N' C' hN hC => ?_) fun st e => ?_
  · have e : Ts ts S = p ++ t :: post := e
    have ht : t ∈ Ts ts S := by rw [e]; simp
    have htT := (List.mem_filter.mp ht).1
    have tp := hT.pl t htT
    refine m_steps hs tp fun D hD => m_move hD (fun x => stp_in hs tp) (fun r hr => row_len hr) (m_move hD (fun x => stp_in hs tp) (fun r hr => row_len hr) ?_)
    -- the lines, one by one
    show wFor _ (enumL ((rws (ssz s O)).map fun r => mvF (stp s t.1) (enumL O) r 0)) st _ _
    have lenB : (enumL ((rws (ssz s O)).map fun r => mvF (stp s t.1) (enumL O) r 0)).length = (rws (ssz s O)).length := by rw [enumL_len, List.length_map]
    refine wFor_inv (fun pre sv => sv.length = (rws (ssz s O)).length ∧ ∀ j, j < (rws (ssz s O)).length → sv.getD j default = (rws (ssz s S)).map fun r => Wl s (p ++ if j < pre.length then [t] else []) (comb S r O ((rws (ssz s O)).getD j default))) _ [] st ?_ (fun p2 z post2 sv e2 hI2 N2 C2 hN2 hC2 => ?_) fun sv hI2 => hN _ ?_
    · subst hI
      refine ⟨List.length_map .., fun j hj => ?_⟩
      rw [getD_map hj, if_neg (show ¬ j < ([] : List (Int × Int)).length from Nat.not_lt_zero _), List.append_nil]
    · obtain ⟨l2, g2⟩ := hI2
      have e2 : enumL ((rws (ssz s O)).map fun r => mvF (stp s t.1) (enumL O) r 0) = p2 ++ z :: post2 := e2
      have hz := list_at (pre := p2) (x := z) (post := post2)
      rw [← e2] at hz
      obtain ⟨z1, z2⟩ := enumL_get hz
      have hlt : p2.length < (rws (ssz s O)).length := by rw [← lenB, e2]; simp
      rw [List.getElem?_map, List.getElem?_eq_getElem hlt] at z2
      have z2 : mvF (stp s t.1) (enumL O) ((rws (ssz s O))[p2.length]) 0 = z.2 := Option.some.inj z2
      have zB : (rws (ssz s O))[p2.length] = (rws (ssz s O)).getD p2.length default := by rw [List.getD_eq_getElem?_getD, List.getElem?_eq_getElem hlt]; rfl
      have zm : (rws (ssz s O)).getD p2.length default ∈ rws (ssz s O) := getD_mem hlt
      rw [zB] at z2
      have z0 : 0 ≤ z.1 := by omega
      have zt : z.1.toNat = p2.length := by omega
      refine ⟨ixOk_of z0 (by rw [l2]; omega), ?_⟩
      rw [ixAt_nn z0, zt, g2 _ hlt, if_neg (Nat.lt_irrefl _), List.append_nil]
      rw [zip_maps]
      generalize hb : (rws (ssz s O)).getD p2.length default = b at zm z2
      have key : ∀ r ∈ rws (ssz s S), z.2 + mvF (stp s t.1) (enumL S) r 0 = idx s t.1 (comb S r O b) := fun r hr => by
        rw [← z2]
        exact comb_idx hS.nodup hO.nodup dis (row_len hr) (row_len zm) tp.nodup (hin t ht)
      refine wMap_of (fun x => x.1 + t.2.getD (z.2 + x.2).toNat default) (fun x hx Q k => ?_) ⟨ixOk_of z0 (by rw [l2]; omega), hN2 _ ⟨by rw [List.length_set]; exact l2, fun j hj => ?_⟩⟩
      · obtain ⟨r, hr, rfl⟩ := List.mem_map.mp hx
        have kk := key r hr
        have b2 := idx_in hs (comb_vd hs ((mem_rws _ _).mp hr) ((mem_rws _ _).mp zm)) (t := t.1) tp.2
        rw [← hT.len t htT, ← kk] at b2
        refine ⟨ixOk_of b2.1 b2.2, ?_⟩
        rw [ixAt_nn b2.1]; exact k
      · rw [ixS_nn z0, zt]
        rw [List.getD_eq_getElem?_getD, List.getElem?_set]
        by_cases ej : p2.length = j
        · subst ej
          rw [if_pos rfl, if_pos (by rw [l2]; exact hj), if_pos (by rw [List.length_append]; exact Nat.lt_succ_self _), Option.getD_some, List.map_map]
          refine List.map_congr_left fun r hr => ?_
          show Wl s p (comb S r O b) + t.2.getD (z.2 + mvF (stp s t.1) (enumL S) r 0).toNat default = _
          rw [key r hr, Wl_snoc, hb]; rfl
        · rw [if_neg ej, ← List.getD_eq_getElem?_getD, g2 j hj]
          have : (j < p2.length) ↔ (j < (p2 ++ [z]).length) := by rw [List.length_append, List.length_singleton]; omega
          by_cases c : j < p2.length
          · rw [if_pos c, if_pos (this.mp c)]
          · rw [if_neg c, if_neg fun y => c (this.mpr y)]
    · obtain ⟨l2, g2⟩ := hI2
      refine List.ext_getElem (by rw [l2, List.length_map]) fun j h1 h2 => ?_
      have hj : j < (rws (ssz s O)).length := by rw [← l2]; exact h1
      have := g2 j hj
      rw [List.getD_eq_getElem?_getD, List.getElem?_eq_getElem h1, Option.getD_some, if_pos (by rw [List.nil_append, lenB]; exact hj)] at this
      rw [this, List.getElem_map]
      congr 1
      funext r
      rw [List.getD_eq_getElem?_getD, List.getElem?_eq_getElem hj]; rfl
  · subst e
    show R (dtOf ((rws (ssz s O)).zip _))
    rw [zip_self]
    exact q
end
end K18

set_option Elab.async false
set_option linter.all false
set_option maxRecDepth 100000
set_option maxHeartbeats 4000000
namespace K18
open PySem PySem.Spec L2 DL
section
variable {s : List Int} {ts : List Tab} {S O : List Int}
theorem rank_len (l : List Int) : (rankL l).length = l.length := List.length_map ..
theorem rank_rank (l : List Int) : rankL (rankL l) = rankL l := ali_rank (rank_ali l)
theorem m_rank {l : List Int} (hl : l.length ≤ 1000) {R : List Int → Prop} (q : R (rankL l)) : m_ranks l R := by
  refine ⟨hl, ?_⟩
  show wMap _ _ _
  refine wMap_of (fun z => (z.2, z.1)) (fun x _ Q k => k) ?_
  refine wMap_of (fun x => ((asc l).idxOf x : Int)) (fun x hx Q k => ⟨_, ?_, k⟩) q
  have hm : x ∈ asc l := mem_asc.mpr hx
  have li := List.idxOf_lt_length_of_mem hm
  refine valD_fun (g := fun x => ((asc l).idxOf x : Int)) (fun p hp => ?_) ?_
  · obtain ⟨z, hz, rfl⟩ := List.mem_map.mp hp
    obtain ⟨i, hi, e1, e2⟩ := enum_mem hz
    rw [List.getElem?_eq_getElem hi] at e2
    have := (up_nodup (asc_up l)).idxOf_getElem i hi
    show z.1 = ((asc l).idxOf z.2 : Int)
    rw [← Option.some.inj e2, this, e1]
  · have : (enumL (asc l))[(asc l).idxOf x]? = some (((asc l).idxOf x : Int), x) := by
      unfold enumL
      rw [List.getElem?_map, List.getElem?_zipIdx, List.getElem?_eq_getElem li, List.getElem_idxOf li]
      simp
    exact ⟨_, List.mem_map.mpr ⟨_, List.mem_of_getElem? this, rfl⟩, rfl⟩
abbrev sg (x y : Int) : Int := b2n (decide (y > x)) - b2n (decide (y < x))
theorem sg_eq {x y u v : Int} : sg x y = sg u v ↔ ((x < y ↔ u < v) ∧ (y < x ↔ v < u)) := by
  unfold sg b2n
  by_cases h1 : x < y <;> by_cases h2 : y < x <;> by_cases h3 : u < v <;> by_cases h4 : v < u <;> simp [h1, h2, h3, h4] <;> omega
theorem m_unlike {x y : List Int} (hl : x.length = y.length) (hn : x.length ≤ 1000) {R : Option (Int × Int) → Prop} (q : ∀ o : Option (Int × Int), (o = none ↔ Ali x y) → (∀ p, o = some p → (0 ≤ p.1 ∧ p.1 < (x.length : Int)) ∧ 0 ≤ p.2 ∧ p.2 < (x.length : Int)) → R o) : m_unlike_pair (rankL x) (rankL y) R := by
  unfold m_unlike_pair
  by_cases he : rankL x = rankL y
  · rw [decide_eq_true he, if_pos rfl]
    exact q none ⟨fun _ => rank_iff.mp he, fun _ => rfl⟩ fun p hp => (nomatch hp)
  · rw [decide_eq_false he, if_neg (by decide)]
    have lx := rank_len x
    have ly := rank_len y
    refine ⟨⟨by omega, by rw [lx]; omega⟩, ?_⟩
    generalize ha : rankL x = a at *
    generalize hb : rankL y = b at *
    have aa : rankL a = a := by rw [← ha, rank_rank]
    have bb : rankL b = b := by rw [← hb, rank_rank]
    have iff : Ali x y ↔ Ali a b := by rw [← rank_iff, ← rank_iff, ha, hb, aa, bb]
    have no : ∀ i j : Nat, i < j → j < a.length → sg (atT a i) (atT a j) ≠ sg (atT b i) (atT b j) → ¬ Ali x y := fun i j h1 h2 h3 h4 => by
      have A := iff.mp h4
      have k1 := A.2 i j (by omega) h2
      have k2 := A.2 j i h2 (by omega)
      exact h3 (sg_eq.mpr ⟨k1, k2⟩)
    refine wFor_inv (fun pre _ => ∀ j ∈ pre, ∀ i : Int, 0 ≤ i → i < j → sg (atT a i) (atT a j) = sg (atT b i) (atT b j)) (rng (a.length : Int)) [] () (fun j hj => (nomatch hj)) (fun p at_ post _ e hI N' C' hN hC => ?_) fun _ hI => ?_
    · have e : rng (a.length : Int) = p ++ at_ :: post := e
      have hat := mem_rng.mp (show at_ ∈ rng (a.length : Int) by rw [e]; simp)
      refine ⟨⟨by omega, by omega⟩, ?_⟩
      refine wFor_inv (fun pre _ => ∀ i ∈ pre, sg (atT a i) (atT a at_) = sg (atT b i) (atT b at_)) (rng at_) [] () (fun j hj => (nomatch hj)) (fun p2 ah post2 _ e2 hI2 N2 C2 hN2 hC2 => ?_) fun _ hI2 => hN _ fun j hj i i0 i1 => ?_
      · have e2 : rng at_ = p2 ++ ah :: post2 := e2
        have hah := mem_rng.mp (show ah ∈ rng at_ by rw [e2]; simp)
        refine ⟨ixOk_of hah.1 (by omega), ixOk_of hat.1 hat.2, ?_⟩
        show _ ∧ _ ∧ (if (!decide (sg (ixAt a ah) (ixAt a at_) = sg (ixAt b ah) (ixAt b at_))) = true then R (some (ah, at_)) else N2 ())
        refine ⟨ixOk_of hah.1 (by omega), ixOk_of hat.1 (by omega), ?_⟩
        rw [ixAt_nn hah.1, ixAt_nn hat.1, ixAt_nn hah.1, ixAt_nn hat.1]
        by_cases z : sg (atT a ah) (atT a at_) = sg (atT b ah) (atT b at_)
        · rw [decide_eq_true z, if_neg (by decide)]
          refine hN2 _ fun i hi => ?_
          rcases List.mem_append.mp hi with h | h
          · exact hI2 i h
          · rw [List.mem_singleton.mp h]; exact z
        · rw [decide_eq_false z, if_pos (by decide)]
          refine q _ ⟨fun h => (nomatch h), fun h => ?_⟩ fun p hp => ?_
          · refine absurd h (no ah.toNat at_.toNat (by omega) (by omega) ?_)
            rw [Int.toNat_of_nonneg hah.1, Int.toNat_of_nonneg hat.1]; exact z
          · cases hp
            exact ⟨⟨hah.1, by show ah < _; omega⟩, hat.1, by show at_ < _; omega⟩
      · rcases List.mem_append.mp hj with h | h
        · exact hI j h i i0 i1
        · have := List.mem_singleton.mp h
          subst this
          exact hI2 i (mem_rng.mpr ⟨i0, i1⟩)
    · exfalso
      have sgs : ∀ i j : Nat, i < j → j < a.length → sg (atT a i) (atT a j) = sg (atT b i) (atT b j) := fun i j h1 h2 => hI j (mem_rng.mpr ⟨by omega, by omega⟩) i (by omega) (by omega)
      have : Ali a b := ⟨by omega, fun i j hi hj => by
        rcases Nat.lt_trichotomy i j with h | h | h
        · exact (sg_eq.mp (sgs i j h hj)).1
        · subst h; constructor <;> (intro z; omega)
        · exact (sg_eq.mp (sgs j i h hi)).2⟩
      have := ali_rank this
      rw [aa, bb] at this
      exact he this
/-! ### the orders by rests -/
theorem line_len (W : (Int → Int) → Int) (a : List Int) : (lineL s W S O a).length = (rws (ssz s S)).length := List.length_map ..
abbrev ordsD (s : List Int) (W : (Int → Int) → Int) (S O : List Int) : List (List Int × List Int) := dtOf ((dtOf ((rws (ssz s O)).map fun a => (a, lineL s W S O a))).map fun x => (x.1, rankL x.2))
theorem ords_fnd (W : (Int → Int) → Int) : Fnd (ordsD s W S O) (rws (ssz s O)) fun a => rankL (lineL s W S O a) := by
  have F0 : Fnd (dtOf ((rws (ssz s O)).map fun a => (a, lineL s W S O a))) (rws (ssz s O)) (fun a => lineL s W S O a) := (dt_fnd (g := fun a => lineL s W S O a) fun p hp => by
    obtain ⟨a, _, rfl⟩ := List.mem_map.mp hp; rfl).keys fun k => by
      rw [List.map_map]; simp
  refine (dt_fnd (g := fun a => rankL (lineL s W S O a)) fun p hp => ?_).keys fun k => ?_
  · obtain ⟨x, hx, rfl⟩ := List.mem_map.mp hp
    show rankL x.2 = _
    rw [(F0.mem x hx).2]
  · rw [List.map_map]
    constructor
    · intro h
      obtain ⟨x, hx, rfl⟩ := List.mem_map.mp h
      exact (F0.mem x hx).1
    · intro h
      obtain ⟨x, hx, e⟩ := F0.has h
      exact List.mem_map.mpr ⟨x, hx, e⟩
theorem out_in (hT : Tbs s ts) : ∀ t ∈ Ts ts S, ∀ p ∈ t.1, p ∈ S ∨ p ∈ outL ts S := fun t ht p hp => by
  by_cases e : p ∈ S
  · exact .inl e
  · exact .inr (List.mem_filter.mpr ⟨mem_ask.mpr (.inl ⟨t, ht, hp⟩), by simpa using e⟩)
theorem m_ords (hs : Sz s) (hT : Tbs s ts) (hS : Spt S s.length) {R : List (List Int × List Int) → Prop} (q : R (ordsD s (Wl s (Ts ts S)) S (outL ts S))) :
    m_worths_by (s, ts) S (outL ts S) (wDt (fun (x3 : (List Int) × (List Int)) => (fun Q18 => Q18 x3.1)) (fun (x3 : (List Int) × (List Int)) => (fun Q19 => (m_ranks x3.2 fun x20 => Q19 x20))) · R) := by
  have L := loc_ask hT hS
  refine m_worths hs hT hS L.sp L.dis (out_in hT) ?_
  have F0 : Fnd (dtOf ((rws (ssz s (outL ts S))).map fun a => (a, lineL s (Wl s (Ts ts S)) S (outL ts S) a))) _ (fun a => lineL s (Wl s (Ts ts S)) S (outL ts S) a) := dt_fnd (g := fun a => lineL s (Wl s (Ts ts S)) S (outL ts S) a) fun p hp => by
    obtain ⟨a, _, rfl⟩ := List.mem_map.mp hp; rfl
  refine wMap_of (fun x => (x.1, rankL x.2)) (fun x hx Q k => m_rank ?_ k) q
  rw [(F0.mem x hx).2, line_len]
  have := rows_few hs hS; omega
theorem zero_in (hs : Sz s) : ∀ {O : List Int}, (∀ p ∈ O, 0 ≤ p ∧ p < (s.length : Int)) → InW (List.replicate O.length (0 : Int)) (ssz s O)
  | [], _ => trivial
  | p :: O, h => by
    have := hs.at (h p List.mem_cons_self)
    exact ⟨⟨Int.le_refl _, by omega⟩, zero_in hs fun q hq => h q (List.mem_cons_of_mem _ hq)⟩
theorem repL_one (n : Nat) : repL [(0 : Int)] (n : Int) = List.replicate n 0 := by
  unfold repL
  rw [Int.toNat_natCast]
  exact flat_one 0 n
/-- is_apart -/
theorem m_apart (hs : Sz s) (hT : Tbs s ts) (hS : Spt S s.length) {R : Bool → Prop} (q : ∀ b : Bool, (b = true ↔ Ap s ts S) → R b) : m_is_apart (s, ts) S R := by
  have L := loc_ask hT hS
  refine m_casked hs hT hS (m_left hs hT hS (m_ords hs hT hS ?_))
  have F := ords_fnd (s := s) (S := S) (O := outL ts S) (Wl s (Ts ts S))
  show m_rows_at s S _
  refine m_rows hs hS ⟨⟨by decide, ⟨by omega, by have := L.sp.len; have := hs.few; show ((outL ts S).length : Int) ≤ 1000; omega⟩, by decide⟩, ?_⟩
  have z0 : repL [(0 : Int)] ((outL ts S).length : Int) ∈ rws (ssz s (outL ts S)) := by rw [repL_one]; exact (mem_rws _ _).mpr (zero_in hs L.sp.2)
  generalize repL [(0 : Int)] ((outL ts S).length : Int) = z at z0
  refine wFor_inv (fun pre _ => ∀ e ∈ pre, Ali (lineL s (Wl s (Ts ts S)) S (outL ts S) z) (lineL s (Wl s (Ts ts S)) S (outL ts S) e.1)) _ [] () (fun e he => nomatch he) (fun p e post _ ee hI N' C' hN hC => ?_) fun _ hI => ?_
  · have ee : ordsD s (Wl s (Ts ts S)) S (outL ts S) = p ++ e :: post := ee
    have he : e ∈ ordsD s (Wl s (Ts ts S)) S (outL ts S) := by rw [ee]; simp
    obtain ⟨e1, e2⟩ := F.mem e he
    refine ⟨_, F.val z z0, ?_⟩
    rw [e2]
    refine m_unlike (by rw [line_len, line_len]) (by rw [line_len]; have := rows_few hs hS; omega) fun o h1 h2 => ?_
    cases o with
    | none =>
      show if (none : Option (Int × Int)).isSome = true then _ else _
      rw [if_neg (by decide)]
      refine hN _ fun u hu => ?_
      rcases List.mem_append.mp hu with h | h
      · exact hI u h
      · rw [List.mem_singleton.mp h]; exact h1.mp rfl
    | some pr =>
      show if (some pr).isSome = true then _ else _
      rw [if_pos (by rfl)]
      obtain ⟨⟨a0, a1⟩, b0, b1⟩ := h2 pr rfl
      rw [line_len] at a1 b1
      refine ⟨pr, rfl, ixOk_of a0 a1, ixOk_of b0 b1, by simp, ?_⟩
      refine q _ ⟨fun h => (nomatch h), fun h => ?_⟩
      exact nomatch h1.mpr (ap_two hs hS L h z0 e1)
  · refine q _ ⟨fun _ => ap_of hs hS L fun a ha b hb => ?_, fun _ => rfl⟩
    have g : ∀ k ∈ rws (ssz s (outL ts S)), Ali (lineL s (Wl s (Ts ts S)) S (outL ts S) z) (lineL s (Wl s (Ts ts S)) S (outL ts S) k) := fun k hk => by
      obtain ⟨e, he, rfl⟩ := F.has hk
      exact hI e he
    exact (g a ha).symm.trans (g b hb)
/-! ### what is drawn in -/
theorem in_set : ∀ {w p : List Int} (i : Nat), InW w p → InW (w.set i 0) p
  | [], [], _, _ => trivial
  | w :: ws, p :: ps, 0, h => ⟨⟨Int.le_refl _, by have := h.1; omega⟩, h.2⟩
  | w :: ws, p :: ps, i + 1, h => ⟨h.1, in_set i h.2⟩
theorem set_zero (a : List Int) : ∀ k, k < a.length → (List.replicate k (0 : Int) ++ a.drop k).set k 0 = List.replicate (k + 1) (0 : Int) ++ a.drop (k + 1) := fun k hk => by
  rw [List.set_append_right _ _ (by rw [List.length_replicate]; exact Nat.le_refl _), List.length_replicate, Nat.sub_self, List.drop_eq_getElem_cons hk, List.set_cons_zero, List.replicate_succ', List.append_assoc]; rfl
theorem cut_set {a : List Int} {i : Nat} (h : i < a.length) : (cutD a none (some (i : Int)) ++ [(0 : Int)]) ++ cutD a (some ((i : Int) + 1)) none = a.set i 0 := by
  have e1 : cutD a none (some (i : Int)) = a.take i := by
    unfold cutD
    rw [HT.sIx_none, HT.sIx_nat, List.drop_zero, Nat.sub_zero, Nat.min_eq_left (by omega)]
  have e2 : cutD a (some ((i : Int) + 1)) none = a.drop (i + 1) := by
    unfold cutD
    rw [HT.sIx_none, show ((i : Int) + 1) = ((i + 1 : Nat) : Int) by omega, HT.sIx_nat, Nat.min_eq_left (by omega)]
    rw [List.take_of_length_le (by rw [List.length_drop]; omega)]
  rw [e1, e2, List.set_eq_take_append_cons_drop, if_pos h]; simp
/-- what drawn_in answers -/
def Drw (s : List Int) (ts : List Tab) (S : List Int) (o : Option Int) : Prop := (o = none → Ap s ts S) ∧ ∀ k, o = some k → k ∉ S ∧ (0 ≤ k ∧ k < (s.length : Int)) ∧ ∀ T, Ap s ts T → (∀ p ∈ S, p ∈ T) → k ∈ T
theorem m_drawn (hs : Sz s) (hT : Tbs s ts) (hS : Spt S s.length) {R : Option Int → Prop} (q : ∀ o, Drw s ts S o → R o) : m_drawn_in (s, ts) S R := by
  have L := loc_ask hT hS
  refine m_left hs hT hS (m_ords hs hT hS ?_)
  have F := ords_fnd (s := s) (S := S) (O := outL ts S) (Wl s (Ts ts S))
  generalize hO : outL ts S = O at L F
  have lO := L.sp.len
  have l8 := hs.few
  refine wFor_inv (fun pre _ => ∀ z ∈ pre, ∀ a ∈ rws (ssz s O), Ali (lineL s (Wl s (Ts ts S)) S O a) (lineL s (Wl s (Ts ts S)) S O (a.set z.1.toNat 0))) (enumL O) [] () (fun e he => nomatch he) (fun p z post _ e hI N' C' hN hC => ?_) fun _ hI => ?_
  · have e : enumL O = p ++ z :: post := e
    obtain ⟨i, hi, z1, z2⟩ := enum_mem (show z ∈ enumL O by rw [e]; simp)
    refine wFor_inv (fun pre _ => ∀ y ∈ pre, Ali (lineL s (Wl s (Ts ts S)) S O y.1) (lineL s (Wl s (Ts ts S)) S O (y.1.set i 0))) _ [] () (fun e he => nomatch he) (fun p2 y post2 _ e2 hI2 N2 C2 hN2 hC2 => ?_) fun _ hI2 => hN _ fun u hu a ha => ?_
    · have e2 : ordsD s (Wl s (Ts ts S)) S O = p2 ++ y :: post2 := e2
      obtain ⟨y1, y2⟩ := F.mem y (by rw [e2]; simp)
      have ly := row_len y1
      have hy := (mem_rws _ _).mp y1
      have cs := cut_set (a := y.1) (i := i) (by omega)
      have cl := congrArg List.length cs
      rw [List.length_set, List.length_append] at cl
      rw [z1]
      refine ⟨lb9 (by rw [List.length_append] at cl; omega), lb9 (by omega), ?_⟩
      rw [cs]
      have m2 : y.1.set i 0 ∈ rws (ssz s O) := (mem_rws _ _).mpr (in_set i hy)
      refine ⟨_, F.val _ m2, ?_⟩
      rw [y2]
      show if (!decide (rankL (lineL s (Wl s (Ts ts S)) S O y.1) = rankL (lineL s (Wl s (Ts ts S)) S O (y.1.set i 0)))) = true then R (some z.2) else N2 ()
      by_cases c : rankL (lineL s (Wl s (Ts ts S)) S O y.1) = rankL (lineL s (Wl s (Ts ts S)) S O (y.1.set i 0))
      · rw [decide_eq_true c, if_neg (by decide)]
        refine hN2 _ fun u hu => ?_
        rcases List.mem_append.mp hu with h | h
        · exact hI2 u h
        · rw [List.mem_singleton.mp h]; exact rank_iff.mp c
      · rw [decide_eq_false c, if_pos (by decide)]
        rw [List.getElem?_eq_getElem hi] at z2
        have z2 : O[i] = z.2 := Option.some.inj z2
        have kO : z.2 ∈ O := by rw [← z2]; exact List.getElem_mem hi
        refine q _ ⟨fun h => (nomatch h), fun k hk => ?_⟩
        cases hk
        refine ⟨L.dis _ kO, L.sp.2 _ kO, fun T hT2 hST => ?_⟩
        by_cases hk : z.2 ∈ T
        · exact hk
        · refine absurd (rank_iff.mpr (drawn_in_all hs hS L hT2 hST y1 m2 hk fun p hp hne => ?_)) c
          have ne : O.idxOf p ≠ i := fun ei => by
            have li := List.idxOf_lt_length_of_mem hp
            have := List.getElem_idxOf li
            apply hne
            rw [← this, ← z2]
            congr 1
          unfold atT
          rw [Int.toNat_natCast, List.getD_eq_getElem?_getD, List.getD_eq_getElem?_getD, List.getElem?_set_ne (Ne.symm ne)]
    · rcases List.mem_append.mp hu with h | h
      · exact hI u h a ha
      · rw [List.mem_singleton.mp h, z1, Int.toNat_natCast]
        obtain ⟨y, hy, rfl⟩ := F.has ha
        exact hI2 y hy
  · refine q _ ⟨fun _ => ap_of hs hS L fun a ha b hb => ?_, fun k hk => nomatch hk⟩
    have at_ : ∀ i : Nat, i < O.length → ∀ a ∈ rws (ssz s O), Ali (lineL s (Wl s (Ts ts S)) S O a) (lineL s (Wl s (Ts ts S)) S O (a.set i 0)) := fun i hi a ha => by
      have : (enumL O)[i]? = some ((i : Int), O[i]) := by
        unfold enumL
        rw [List.getElem?_map, List.getElem?_zipIdx, List.getElem?_eq_getElem hi]; simp
      have := hI _ (List.mem_of_getElem? this) a ha
      rwa [Int.toNat_natCast] at this
    have all : ∀ k : Nat, k ≤ O.length → ∀ a ∈ rws (ssz s O), (List.replicate k (0 : Int) ++ a.drop k) ∈ rws (ssz s O) ∧ Ali (lineL s (Wl s (Ts ts S)) S O a) (lineL s (Wl s (Ts ts S)) S O (List.replicate k (0 : Int) ++ a.drop k)) := fun k => by
      induction k with
      | zero => intro _ a ha; exact ⟨ha, Ali.refl _⟩
      | succ k ih =>
        intro hk a ha
        obtain ⟨h1, h2⟩ := ih (by omega) a ha
        have la := row_len ha
        rw [← set_zero a k (by omega)]
        exact ⟨(mem_rws _ _).mpr (in_set k ((mem_rws _ _).mp h1)), h2.trans (at_ k (by omega) _ h1)⟩
    have fin : ∀ a ∈ rws (ssz s O), Ali (lineL s (Wl s (Ts ts S)) S O a) (lineL s (Wl s (Ts ts S)) S O (List.replicate O.length 0)) := fun a ha => by
      have := (all O.length (Nat.le_refl _) a ha).2
      rwa [List.drop_eq_nil_of_le (by rw [row_len ha]; exact Nat.le_refl _), List.append_nil] at this
    exact (fin a ha).trans (fin b hb).symm
/-! ### hulls -/
structure Hul (s : List Int) (ts : List Tab) (S l : List Int) : Prop where
  sp : Spt l s.length
  sub : ∀ p ∈ S, p ∈ l
  ap : Ap s ts l
  least : ∀ T, Ap s ts T → (∀ p ∈ S, p ∈ T) → ∀ p ∈ l, p ∈ T
theorem sort_up {l : List Int} (h : l.Nodup) : (sortI l).Pairwise (· < ·) := by
  have up := sortBy_up id l
  have nd : (sortI l).Nodup := (sortBy_perm id l).nodup_iff.mpr h
  exact L2.lt_of_le_nodup _ up nd
theorem mem_sort {l : List Int} {k : Int} : k ∈ sortI l ↔ k ∈ l := (sortBy_perm id l).mem_iff
theorem m_hulls (hs : Sz s) (hT : Tbs s ts) (hS : Spt S s.length) {R : List Int → Prop} (q : ∀ l, Hul s ts S l → R l) : m_hull (s, ts) S R := by
  have l8 := hs.few
  refine m_check hs hS (m_bcount hs (m_drawn hs hT hS fun o ho => ⟨s.length + 1, ?_⟩))
  refine wWhile_inv (fun st => Spt st.1 s.length ∧ (∀ p ∈ S, p ∈ st.1) ∧ (∀ T, Ap s ts T → (∀ p ∈ S, p ∈ T) → ∀ p ∈ st.1, p ∈ T) ∧ Drw s ts st.1 st.2) (fun st => s.length - st.1.length) (fun st => st.2.isSome) (fun st Q k => k) (fun st ⟨h1, h2, h3, h4⟩ hc N' B' C' hN => ?_) (fun st ⟨h1, h2, h3, h4⟩ hc => ?_) (s.length + 1) (S, o) ⟨hS, fun p hp => hp, fun T _ h p hp => h p hp, ho⟩ (by show s.length - S.length < s.length + 1; omega)
  · obtain ⟨k, hk⟩ := Option.isSome_iff_exists.mp hc
    obtain ⟨k1, k2, k3⟩ := h4.2 k hk
    have ll := h1.len
    have sp : Spt (sortI (st.1 ++ [k])) s.length := ⟨sort_up (List.nodup_append.mpr ⟨h1.nodup, by simp, fun a ha b hb e => k1 (by rw [← List.mem_singleton.mp hb, ← e]; exact ha)⟩), fun x hx => by
      rcases List.mem_append.mp (mem_sort.mp hx) with h | h
      · exact h1.2 x h
      · rw [List.mem_singleton.mp h]; exact k2⟩
    have len : (sortI (st.1 ++ [k])).length = st.1.length + 1 := by
      have := (sortBy_perm id (st.1 ++ [k])).length_eq
      rw [List.length_append] at this; exact this
    have l2 := sp.len
    refine ⟨k, hk, by rw [List.length_append, List.length_singleton]; omega, m_drawn hs hT sp fun o2 ho2 => hN _ ⟨sp, fun p hp => mem_sort.mpr (List.mem_append_left _ (h2 p hp)), fun T hTT hST p hp => ?_, ho2⟩ ?_⟩
    · rcases List.mem_append.mp (mem_sort.mp hp) with h | h
      · exact h3 T hTT hST p h
      · rw [List.mem_singleton.mp h]; exact k3 T hTT fun x hx => h3 T hTT hST x hx
    · show s.length - (sortI (st.1 ++ [k])).length < s.length - st.1.length
      omega
  · refine q _ ⟨h1, h2, h4.1 ?_, h3⟩
    simpa using hc
theorem Hul.uniq {S l m : List Int} (h : Hul s ts S l) (k : Hul s ts S m) : l = m := up_ext h.sp.1 k.sp.1 fun p => ⟨fun z => h.least m k.ap k.sub p z, fun z => k.least l h.ap h.sub p z⟩
end
end K18

set_option Elab.async false
set_option linter.all false
set_option maxRecDepth 100000
set_option maxHeartbeats 4000000
namespace K18
open PySem PySem.Spec L2 DL
/-! ### the law's own functions -/
section
variable {s : List Int} {ts : List Tab} {S O : List Int}
theorem l_rowsW {sz : List Int} (h : ∀ n ∈ sz, 0 ≤ n ∧ n ≤ 100) (hl : sz.length ≤ 100) (hp : ∀ a b, sz = a ++ b → (rws a).length ≤ 100) {R : List (List Int) → Prop} (q : R (rws sz)) : l_rows sz R := by
  refine wFor_inv (fun pre st => st = rws pre) sz [] [[]] rfl (fun p x post st e hI N' C' hN hC => ?_) fun st e => by rw [e]; exact q
  have e : sz = p ++ x :: post := e
  subst hI
  have hx := h x (by rw [e]; simp)
  have lp : p.length < 100 := by rw [e] at hl; simp at hl; omega
  have len := hp (p ++ [x]) post (by rw [e]; simp)
  rw [rws_snoc] at len
  refine wFor_inv (fun pre st => st = lc2L pre (fun _ => rng x) fun r w => r ++ [w]) (rws p) [] [] rfl (fun p2 r post2 st e2 hI2 N2 C2 hN2 hC2 => ?_) fun st e2 => hN _ ?_
  · have e2 : rws p = p2 ++ r :: post2 := e2
    subst hI2
    have hr : r ∈ rws p := by rw [e2]; simp
    have lr := ((mem_rws _ r).mp hr).len
    have sp : lc2L (p2 ++ [r]) (fun _ => rng x) (fun r w => r ++ [w]) = lc2L p2 (fun _ => rng x) (fun r w => r ++ [w]) ++ (rng x).map fun w => r ++ [w] := by
      unfold lc2L
      rw [List.flatMap_append, List.flatMap_singleton]
    have le : (lc2L (p2 ++ [r]) (fun _ => rng x) (fun r w => r ++ [w])).length ≤ (rstep (rws p) x).length := by
      unfold rstep
      rw [e2, lc2_len, lc2_len]
      exact Nat.mul_le_mul_right _ (by simp)
    refine ⟨⟨by omega, by omega⟩, wMap_of (fun w => r ++ [w]) (fun w _ Q k => ⟨lb9 (by rw [List.length_singleton]; omega), k⟩) ⟨?_, hN2 _ ?_⟩⟩
    · rw [sp, List.length_append] at le
      exact lb9 (by omega)
    · exact sp.symm
  · rw [e2, List.nil_append, rws_snoc]; rfl
theorem l_rowsS (hs : Sz s) (hS : Spt S s.length) {R : List (List Int) → Prop} (q : R (rws (ssz s S))) : l_rows (ssz s S) R := by
  refine l_rowsW (fun n hn => ?_) (by rw [List.length_map]; have := hS.len; have := hs.few; omega) (fun a b e => ?_) q
  · obtain ⟨p, hp, rfl⟩ := List.mem_map.mp hn
    have := hs.at (hS.2 p hp); omega
  · obtain ⟨A, B, e1, e2, e3⟩ := List.map_eq_append_iff.mp e
    subst e1
    rw [← e2]
    exact rows_few hs (Spt.pre hS)
theorem full_spt (n : Nat) : Spt (rangeL 0 n) n := ⟨rangeL_up, fun x hx => by have := mem_rangeL.mp hx; omega⟩
theorem full_ssz : ssz s (rangeL 0 s.length) = s := range_self s
theorem l_rowsF (hs : Sz s) {R : List (List Int) → Prop} (q : R (rws s)) : l_rows s R := by
  have := l_rowsS hs (full_spt s.length) (R := R)
  rw [full_ssz] at this
  exact this q
theorem inW_vd : ∀ {x : List Int}, InW x s → Vd s (atT x) := fun h p p0 p1 => inW_at h p p0 p1
theorem l_worthW (hs : Sz s) (hT : Tbs s ts) {x : List Int} (hx : InW x s) {R : Int → Prop} (q : R (Wl s ts (atT x))) : l_worth ts s x R := by
  refine wMap_of (wt s (atT x)) (fun t ht Q k => ?_) q
  have tp := hT.pl t ht
  refine wFor_fold (fun _ => True) (fun a p => a * atT s p + atT x p) t.1 0 trivial (fun p hp a _ => ⟨trivial, fun N' B' C' kk => ?_⟩) ?_
  · have hp' := tp.2 p hp
    have := hs.at hp'
    have lx := hx.len
    refine ⟨ixOk_of hp'.1 hp'.2, .inr ?_, ixOk_of hp'.1 (by omega), ?_⟩
    · rw [ixAt_nn hp'.1]; constructor <;> (show _; unfold atT at this; omega)
    · rw [ixAt_nn hp'.1, ixAt_nn hp'.1]; exact kk
  · have b := idx_in hs (inW_vd hx) (t := t.1) tp.2
    rw [← hT.len t ht] at b
    show ixOk t.2.length (idx s t.1 (atT x)) ∧ Q (ixAt t.2 (idx s t.1 (atT x)))
    refine ⟨ixOk_of b.1 b.2, ?_⟩
    rw [ixAt_nn b.1]; exact k
/-- row put at the places P of a list -/
theorem putW {ρ : Type} {n : Nat} {P r b : List Int} (hP : Spt P n) (hn : n ≤ 8) (hr : r.length = P.length) (hb : b.length = n) {N : List Int → Prop} {R : ρ → Prop}
    (q : ∀ st : List Int, st.length = n → (∀ p : Int, 0 ≤ p → p < (n : Int) → atT st p = if p ∈ P then atT r (P.idxOf p) else atT b p) → N st) :
    wFor (fun (k : Int) (s2 : List Int) N4 B5 C6 (R7 : ρ → Prop) => (ixOk r.length k ∧ wLet (ixAt r k) fun v8 => (ixOk P.length k ∧ wLet (ixAt P k) fun i9 => (ixOk s2.length i9 ∧ N4 (s2.set (ixS s2.length i9) v8))))) (rng (P.length : Int)) b N R := by
  refine wFor_inv (fun pre st => st.length = n ∧ ∀ p : Int, 0 ≤ p → p < (n : Int) → atT st p = if p ∈ P ∧ (P.idxOf p : Int) ∈ pre then atT r (P.idxOf p) else atT b p) (rng (P.length : Int)) [] b ⟨hb, fun p _ _ => by rw [if_neg fun z => nomatch z.2]⟩ (fun p k post st e ⟨h1, h2⟩ N' C' hN hC => ?_) fun st ⟨h1, h2⟩ => q st h1 fun p p0 p1 => ?_
  · have e : rng (P.length : Int) = p ++ k :: post := e
    have hk := mem_rng.mp (show k ∈ rng (P.length : Int) by rw [e]; simp)
    have pk : P.getD k.toNat default ∈ P := getD_mem (by omega)
    have pin := hP.2 _ pk
    refine ⟨ixOk_of hk.1 (by rw [hr]; exact hk.2), ixOk_of hk.1 hk.2, ?_⟩
    rw [ixAt_nn hk.1, ixAt_nn hk.1]
    refine ⟨ixOk_of pin.1 (by rw [h1]; exact pin.2), hN _ ⟨by rw [List.length_set]; exact h1, fun x x0 x1 => ?_⟩⟩
    rw [ixS_nn pin.1]
    have hk2 : k.toNat < P.length := by omega
    have gk : P.getD k.toNat default = P[k.toNat] := by rw [List.getD_eq_getElem?_getD, List.getElem?_eq_getElem hk2]; rfl
    have ik : P.idxOf (P.getD k.toNat default) = k.toNat := by rw [gk]; exact hP.nodup.idxOf_getElem k.toNat hk2
    generalize P.getD k.toNat default = y at pk pin ik gk
    by_cases ex : y = x
    · subst ex
      have hxP := pk
      have : atT (st.set y.toNat (r.getD k.toNat default)) y = r.getD k.toNat default := by
        unfold atT
        rw [List.getD_eq_getElem?_getD, List.getElem?_set_self (by omega)]; rfl
      rw [this, if_pos ⟨hxP, by rw [ik]; simp; omega⟩, ik]
      unfold atT
      rw [Int.toNat_natCast]
    · have : atT (st.set y.toNat (r.getD k.toNat default)) x = atT st x := by
        unfold atT
        simp only [List.getD_eq_getElem?_getD, List.getElem?_set_ne (show y.toNat ≠ x.toNat by omega)]
      rw [this, h2 x x0 x1]
      have iff : (x ∈ P ∧ (P.idxOf x : Int) ∈ p) ↔ (x ∈ P ∧ (P.idxOf x : Int) ∈ p ++ [k]) := by
        constructor
        · exact fun z => ⟨z.1, List.mem_append_left _ z.2⟩
        · rintro ⟨z1, z2⟩
          refine ⟨z1, ?_⟩
          rcases List.mem_append.mp z2 with h | h
          · exact h
          · exfalso
            have := List.mem_singleton.mp h
            have li := List.idxOf_lt_length_of_mem z1
            have g := List.getElem_idxOf li
            have e5 : P[k.toNat] = P[P.idxOf x] := by congr 1; omega
            exact ex (gk.trans (e5.trans g))
      by_cases c : x ∈ P ∧ (P.idxOf x : Int) ∈ p
      · rw [if_pos c, if_pos (iff.mp c)]
      · rw [if_neg c, if_neg fun z => c (iff.mpr z)]
  · rw [h2 p p0 p1, List.nil_append]
    by_cases c : p ∈ P
    · rw [if_pos c, if_pos ⟨c, mem_rng.mpr ⟨by omega, by have := List.idxOf_lt_length_of_mem c; omega⟩⟩]
    · rw [if_neg c, if_neg fun z => c z.1]
theorem at_rep (n : Nat) (p : Int) : atT (List.replicate n (0 : Int)) p = 0 := by
  unfold atT
  rw [List.getD_eq_getElem?_getD, List.getElem?_replicate]
  split <;> rfl
theorem l_orderW {l : List Int} (hl : l.length ≤ 1000) {R : List Int → Prop} (q : R (rankL l)) : l_order l R := by
  refine ⟨hl, ?_⟩
  exact wMap_of (fun x => ((asc l).idxOf x : Int)) (fun x hx Q k => ⟨mem_asc.mpr hx, k⟩) q
/-- the worths by texts -/
abbrev Wrt (s : List Int) (ts : List Tab) (d : List (List Int × Int)) : Prop := Fnd d (rws s) fun x => Wl s ts (atT x)
theorem l_apartW (hs : Sz s) (hT : Tbs s ts) (hS : Spt S s.length) {d : List (List Int × Int)} (hd : Wrt s ts d) {R : Bool → Prop} (q : ∀ b : Bool, (b = true ↔ Ap s ts S) → R b) : l_is_apart d s S R := by
  have L : Loc s ts S ((rng (s.length : Int)).filter fun p => !decide (p ∈ S)) (Wl s ts) := loc_all hT
  have l8 := hs.few
  have hO := L.sp
  refine ⟨⟨by omega, by omega⟩, ?_⟩
  show wMap _ ((rng (s.length : Int)).filter fun p => !decide (p ∈ S)) _
  dsimp only [wLet]
  generalize eO : (rng (s.length : Int)).filter (fun p => !decide (p ∈ S)) = O at L hO ⊢
  refine wMap_of (atT s) (fun x hx Q k => ⟨ixOk_of (hO.2 x hx).1 (hO.2 x hx).2, by rw [ixAt_nn (hO.2 x hx).1]; exact k⟩) (l_rowsS hs hO ?_)
  have lS := hS.len
  have lO := hO.len
  refine wFor_inv (fun pre st => (∀ a ∈ pre, ∀ b ∈ pre, Ali (lineL s (Wl s ts) S O a) (lineL s (Wl s ts) S O b)) ∧ (∀ o, st = some o → ∃ a ∈ pre, o = rankL (lineL s (Wl s ts) S O a)) ∧ (st = none → pre = [])) (rws (ssz s O)) [] none ⟨fun a ha => (nomatch ha), fun o ho => (nomatch ho), fun _ => rfl⟩ (fun p rest post st e ⟨i1, i2, i3⟩ N' C' hN hC => ?_) fun st ⟨i1, i2, i3⟩ => ?_
  · have e : rws (ssz s O) = p ++ rest :: post := e
    have hrest : rest ∈ rws (ssz s O) := by rw [e]; simp
    have lrest := row_len hrest
    -- the list with rest put in
    refine ⟨⟨⟨by omega, by omega⟩, by decide⟩, ⟨by omega, by omega⟩, ?_⟩
    rw [repL_one]
    refine putW (b := List.replicate s.length 0) hO l8 lrest (by rw [List.length_replicate]) fun base lb hbase => ?_
    refine wMap_of (atT s) (fun x hx Q k => ⟨ixOk_of (hS.2 x hx).1 (hS.2 x hx).2, by rw [ixAt_nn (hS.2 x hx).1]; exact k⟩) (l_rowsS hs hS ?_)
    have few := rows_few hs hS
    refine wFor_inv (fun pre st => st = pre.map fun r => Wl s ts (comb S r O rest)) (rws (ssz s S)) [] [] rfl (fun p2 row post2 st2 e2 hI2 N2 C2 hN2 hC2 => ?_) fun st2 e2 => ?_
    · have e2 : rws (ssz s S) = p2 ++ row :: post2 := e2
      have hrow : row ∈ rws (ssz s S) := by rw [e2]; simp
      subst hI2
      have lp2 : p2.length < 100 := by rw [e2] at few; simp at few; omega
      refine ⟨⟨by omega, by omega⟩, putW hS l8 (row_len hrow) lb fun text lt htext => ?_⟩
      have tx : ∀ x : Int, 0 ≤ x → x < (s.length : Int) → atT text x = comb S row O rest x := fun x x0 x1 => by
        rw [htext x x0 x1]
        unfold comb
        by_cases c : x ∈ S
        · rw [if_pos c, if_pos c]
        · rw [if_neg c, if_neg c, hbase x x0 x1, at_rep]
      have vd := comb_vd hs ((mem_rws _ _).mp hrow) ((mem_rws _ _).mp hrest)
      have tin : text ∈ rws s := (mem_rws _ _).mpr (by
        have : text = (rangeL 0 s.length).map (comb S row O rest) := by
          have h0 := range_self text
          rw [lt] at h0
          rw [← h0]
          refine List.map_congr_left fun x hx => ?_
          have := mem_rangeL.mp hx
          exact tx x (by omega) (by omega)
        rw [this]
        conv => arg 2; rw [← range_self s]
        exact inW_map fun x hx => by have := mem_rangeL.mp hx; exact vd x (by omega) (by omega))
      refine ⟨lb9 (by rw [List.length_map]; omega), _, hd.val text tin, hN2 _ ?_⟩
      rw [List.map_append]
      show _ = _ ++ [Wl s ts (comb S row O rest)]
      congr 2
      exact Wl_ext fun t ht x hx => by
        have := (hT.pl t ht).2 x hx
        exact tx x this.1 this.2
    · have e3 : st2 = lineL s (Wl s ts) S O rest := e2
      rw [e3]
      have ll : (lineL s (Wl s ts) S O rest).length ≤ 1000 := by rw [line_len]; omega
      cases st with
      | none =>
        have p0 := i3 rfl
        subst p0
        show if (none : Option (List Int)).isNone = true then _ else _
        rw [if_pos (by rfl)]
        refine l_orderW ll (l_orderW ll ?_)
        show if (!decide (some (rankL (lineL s (Wl s ts) S O rest)) = some (rankL (lineL s (Wl s ts) S O rest)))) = true then R false else N' (some (rankL (lineL s (Wl s ts) S O rest)))
        rw [decide_eq_true rfl, if_neg (by decide)]
        refine hN _ ⟨fun a ha b hb => ?_, fun o ho => ⟨rest, by simp, (Option.some.inj ho).symm⟩, fun h => (nomatch h)⟩
        rw [List.mem_singleton.mp ha, List.mem_singleton.mp hb]; exact Ali.refl _
      | some o =>
        show if (some o).isNone = true then _ else _
        rw [if_neg (by simp)]
        refine l_orderW ll ?_
        show if (!decide (some (rankL (lineL s (Wl s ts) S O rest)) = some o)) = true then R false else N' (some o)
        obtain ⟨a, ha, eo⟩ := i2 o rfl
        by_cases c : some (rankL (lineL s (Wl s ts) S O rest)) = some o
        · rw [decide_eq_true c, if_neg (by decide)]
          have A : Ali (lineL s (Wl s ts) S O rest) (lineL s (Wl s ts) S O a) := rank_iff.mp (by rw [Option.some.inj c, eo])
          refine hN _ ⟨fun x hx y hy => ?_, fun o' ho => ?_, fun h => (nomatch h)⟩
          · have g : ∀ x ∈ p ++ [rest], Ali (lineL s (Wl s ts) S O x) (lineL s (Wl s ts) S O a) := fun x hx => by
              rcases List.mem_append.mp hx with h | h
              · exact i1 x h a ha
              · rw [List.mem_singleton.mp h]; exact A
            exact (g x hx).trans (g y hy).symm
          · obtain ⟨b, hb, eb⟩ := i2 o' ho
            exact ⟨b, List.mem_append_left _ hb, eb⟩
        · rw [decide_eq_false c, if_pos (by decide)]
          refine q false ⟨fun h => (nomatch h), fun h => ?_⟩
          have haB : a ∈ rws (ssz s O) := by rw [e]; exact List.mem_append_left _ ha
          have := rank_iff.mpr (ap_two hs hS L h hrest haB)
          exact absurd (by rw [this, eo]) c
  · exact q true ⟨fun _ => ap_of hs hS L fun a ha b hb => i1 a ha b hb, fun _ => rfl⟩
end
end K18

set_option Elab.async false
set_option linter.all false
set_option maxRecDepth 100000
set_option maxHeartbeats 4000000
namespace K18
open PySem PySem.Spec L2 DL
section
variable {s : List Int} {ts : List Tab} {S O : List Int}
/-! ### lots -/
def lotsL (n : Nat) : List (List Int) := (rangeL 0 n).foldl (fun F p => F ++ F.map (· ++ [p])) [[]]
theorem rangeL_succ (n : Nat) : rangeL 0 (n + 1) = rangeL 0 n ++ [(n : Int)] := by
  unfold rangeL
  rw [List.range_succ, List.map_append]; simp
theorem lots_succ (n : Nat) : lotsL (n + 1) = lotsL n ++ (lotsL n).map (· ++ [(n : Int)]) := by
  unfold lotsL
  rw [rangeL_succ, List.foldl_append]; rfl
theorem lots_len : ∀ n : Nat, (lotsL n).length = 2 ^ n
  | 0 => rfl
  | n + 1 => by rw [lots_succ, List.length_append, List.length_map, lots_len n, Nat.pow_succ]; omega
theorem mem_lots : ∀ (n : Nat) (S : List Int), S ∈ lotsL n ↔ Spt S n
  | 0, S => by
    show S ∈ [[]] ↔ _
    constructor
    · intro h; rw [List.mem_singleton.mp h]; exact ⟨.nil, fun x hx => (nomatch hx)⟩
    · intro h
      have := h.len
      rw [List.mem_singleton]; exact List.length_eq_zero_iff.mp (by omega)
  | n + 1, S => by
    rw [lots_succ, List.mem_append, mem_lots n S]
    constructor
    · rintro (h | h)
      · exact ⟨h.1, fun x hx => by have := h.2 x hx; omega⟩
      · obtain ⟨T, hT, rfl⟩ := List.mem_map.mp h
        have hT := (mem_lots n T).mp hT
        refine ⟨List.pairwise_append.mpr ⟨hT.1, by simp, fun a ha b hb => ?_⟩, fun x hx => ?_⟩
        · rw [List.mem_singleton.mp hb]; exact (hT.2 a ha).2
        · rcases List.mem_append.mp hx with q | q
          · have := hT.2 x q; omega
          · rw [List.mem_singleton.mp q]; omega
    · intro h
      by_cases c : (n : Int) ∈ S
      · refine .inr ?_
        have ne : S ≠ [] := fun e => by rw [e] at c; exact nomatch c
        have e := List.dropLast_concat_getLast ne
        have h1 := h.1
        rw [← e] at h1
        obtain ⟨p1, _, p3⟩ := List.pairwise_append.mp h1
        have lastb := h.2 _ (List.getLast_mem ne)
        have el : S.getLast ne = (n : Int) := by
          rw [← e] at c
          rcases List.mem_append.mp c with q | q
          · have := p3 _ q _ (List.mem_singleton.mpr rfl); omega
          · exact (List.mem_singleton.mp q).symm
        rw [el] at e p3
        refine List.mem_map.mpr ⟨S.dropLast, (mem_lots n _).mpr ⟨p1, fun x hx => ?_⟩, e⟩
        have := p3 x hx _ (List.mem_singleton.mpr rfl)
        have := h.2 x ((List.dropLast_sublist S).subset hx)
        omega
      · refine .inl ⟨h.1, fun x hx => ?_⟩
        have := h.2 x hx
        have : x ≠ (n : Int) := fun e => c (e ▸ hx)
        omega
theorem l_lotsW {n : Nat} (hn : n ≤ 8) {R : List (List Int) → Prop} (q : R (lotsL n)) : l_lots (n : Int) R := by
  refine ⟨⟨by omega, by omega⟩, ?_⟩
  refine wFor_inv (fun pre st => (∀ x ∈ st, x.length ≤ pre.length) ∧ st.length = 2 ^ pre.length ∧ st = pre.foldl (fun F p => F ++ F.map (· ++ [p])) [[]]) (rng (n : Int)) [] [[]] ⟨fun x hx => by rw [List.mem_singleton.mp hx]; exact Nat.le_refl _, rfl, rfl⟩ (fun p x post st e ⟨h0, h1, h2⟩ N' C' hN hC => ?_) fun st ⟨h0, h1, h2⟩ => ?_
  · have e : rng (n : Int) = p ++ x :: post := e
    have lp : p.length < n := by
      have := congrArg List.length e
      rw [rng_len, List.length_append, List.length_cons] at this; omega
    have two : 2 ^ p.length ≤ 2 ^ 8 := Nat.pow_le_pow_right (by decide) (by omega)
    refine wMap_of (· ++ [x]) (fun y hy Q k => ⟨lb9 (by have := h0 y hy; rw [List.length_singleton]; omega), k⟩) ⟨lb9 (by rw [List.length_map, h1]; omega), hN _ ⟨fun y hy => ?_, ?_, ?_⟩⟩
    · rw [List.length_append, List.length_singleton]
      rcases List.mem_append.mp hy with h | h
      · have := h0 y h; omega
      · obtain ⟨z, hz, rfl⟩ := List.mem_map.mp h
        have := h0 z hz
        rw [List.length_append, List.length_singleton]; omega
    · rw [List.length_append, List.length_map, h1, List.length_append, List.length_singleton, Nat.pow_succ]; omega
    · rw [List.foldl_append, ← h2]; rfl
  · rw [h2]; exact q
/-! ### drawn orders -/
theorem erase_perm {α : Type} [Inhabited α] : ∀ {l : List α} {i : Nat}, i < l.length → (l.getD i default :: l.eraseIdx i).Perm l
  | [], _, h => absurd h (Nat.not_lt_zero _)
  | x :: l, 0, _ => .refl _
  | x :: l, i + 1, h => by
    rw [List.eraseIdx_cons_succ, List.getD_cons_succ]
    exact (List.Perm.swap _ _ _).trans ((erase_perm (l := l) (i := i) (by simpa using h)).cons x)
theorem l_mixI {l : List Int} (hl : l.length ≤ 64) {R : List Int → Prop} (q : ∀ m : List Int, m.Perm l → R m) : l_mixed_i l R := by
  refine ⟨l.length + 1, by omega, ?_⟩
  refine wWhile_inv (fun st => (st.1 ++ st.2).Perm l) (fun st => st.2.length) (fun st => !decide (st.2 = [])) (fun st Q k => k) (fun st h hc N' B' C' hN => ?_) (fun st h hc => ?_) (l.length + 1) ([], l) (.refl _) (by show l.length < l.length + 1; omega)
  · have hl2 := h.length_eq
    rw [List.length_append] at hl2
    have pos : 0 < st.2.length := List.length_pos_iff.mpr (by simpa using hc)
    refine ⟨⟨lb9 (by omega), lb9 (by omega)⟩, ⟨by omega, by omega⟩, fun i ⟨i0, i1⟩ => ⟨⟨i0, i1⟩, hN _ ?_ ?_⟩⟩
    · rw [ixAt_nn i0]
      show ((st.1 ++ [st.2.getD i.toNat default]) ++ st.2.eraseIdx i.toNat).Perm l
      rw [List.append_assoc]
      exact ((erase_perm (by omega)).append_left st.1).trans h
    · show (st.2.eraseIdx i.toNat).length < st.2.length
      rw [List.length_eraseIdx, if_pos (by omega)]; omega
  · have e : st.2 = [] := by simpa using hc
    rw [e, List.append_nil] at h
    exact q _ h
theorem l_mixL {l : List (List Int)} (hl : l.length ≤ 64) {R : List (List Int) → Prop} (q : ∀ m : List (List Int), m.Perm l → R m) : l_mixed_l l R := by
  refine ⟨l.length + 1, by omega, ?_⟩
  refine wWhile_inv (fun st => (st.1 ++ st.2).Perm l) (fun st => st.2.length) (fun st => !decide (st.2 = [])) (fun st Q k => k) (fun st h hc N' B' C' hN => ?_) (fun st h hc => ?_) (l.length + 1) ([], l) (.refl _) (by show l.length < l.length + 1; omega)
  · have hl2 := h.length_eq
    rw [List.length_append] at hl2
    have pos : 0 < st.2.length := List.length_pos_iff.mpr (by simpa using hc)
    refine ⟨⟨lb9 (by omega), lb9 (by omega)⟩, ⟨by omega, by omega⟩, fun i ⟨i0, i1⟩ => ⟨⟨i0, i1⟩, hN _ ?_ ?_⟩⟩
    · rw [ixAt_nn i0]
      show ((st.1 ++ [st.2.getD i.toNat default]) ++ st.2.eraseIdx i.toNat).Perm l
      rw [List.append_assoc]
      exact ((erase_perm (by omega)).append_left st.1).trans h
    · show (st.2.eraseIdx i.toNat).length < st.2.length
      rw [List.length_eraseIdx, if_pos (by omega)]; omega
  · have e : st.2 = [] := by simpa using hc
    rw [e, List.append_nil] at h
    exact q _ h
/-! ### within, meet -/
theorem l_withinW {a b : List Int} {R : Bool → Prop} (q : ∀ c : Bool, (c = true ↔ ∀ p ∈ a, p ∈ b) → R c) : l_within a b R := by
  refine q _ ?_
  rw [decide_eq_true_eq, List.filter_eq_nil_iff]
  constructor
  · intro h p hp; have := h p hp; simpa using this
  · intro h p hp; have := h p hp; simpa using this
theorem l_meetW {n : Nat} (hn : n ≤ 8) {ls : List (List Int)} {R : List Int → Prop} (q : ∀ l, Spt l n → (∀ p : Int, p ∈ l ↔ (0 ≤ p ∧ p < (n : Int)) ∧ ∀ S ∈ ls, p ∈ S) → R l) : l_meet ls (n : Int) R := by
  refine ⟨⟨by omega, by omega⟩, q _ (Spt.of (n := n) _) fun p => ?_⟩
  rw [List.mem_filter, mem_rng, decide_eq_true_eq, List.filter_eq_nil_iff]
  constructor
  · rintro ⟨h1, h2⟩; exact ⟨h1, fun S hS => by have := h2 S hS; simpa using this⟩
  · rintro ⟨h1, h2⟩; exact ⟨h1, fun S hS => by have := h2 S hS; simpa using this⟩
/-! ### what is apart meets in what is apart -/
theorem ap_meet {A B : List Int} (hA : Ap s ts A) (hB : Ap s ts B) : Ap s ts (A.filter fun p => decide (p ∈ B)) := fun f g f' g' vf vg vf' vg' hf hg hfg hfg' => by
  have inC : ∀ {p : Int}, p ∈ A.filter (fun p => decide (p ∈ B)) ↔ p ∈ A ∧ p ∈ B := fun {p} => by rw [List.mem_filter, decide_eq_true_eq]
  have vm : ∀ {u v : Int → Int}, Vd s u → Vd s v → Vd s fun p => if p ∈ A then u p else v p := fun {u v} hu hv p p0 p1 => by
    dsimp only
    split
    · exact hu p p0 p1
    · exact hv p p0 p1
  have k1 := hA f g (fun p => if p ∈ A then f p else f' p) (fun p => if p ∈ A then g p else g' p) vf vg (vm vf vf') (vm vg vg') (fun p _ _ h => (if_pos h).symm) (fun p _ _ h => (if_pos h).symm) (fun p p0 p1 h => hfg p p0 p1 fun z => h (inC.mp z).1) (fun p p0 p1 h => by rw [if_neg h, if_neg h]; exact hfg' p p0 p1 fun z => h (inC.mp z).1)
  have k2 := hB (fun p => if p ∈ A then f p else f' p) (fun p => if p ∈ A then g p else g' p) f' g' (vm vf vf') (vm vg vg') vf' vg' (fun p p0 p1 h => by
    by_cases c : p ∈ A
    · rw [if_pos c]; exact hf p p0 p1 (inC.mpr ⟨c, h⟩)
    · rw [if_neg c]) (fun p p0 p1 h => by
    by_cases c : p ∈ A
    · rw [if_pos c]; exact hg p p0 p1 (inC.mpr ⟨c, h⟩)
    · rw [if_neg c]) (fun p p0 p1 h => by
    by_cases c : p ∈ A
    · rw [if_pos c, if_pos c]; exact hfg p p0 p1 fun z => h (inC.mp z).2
    · rw [if_neg c, if_neg c]; exact hfg' p p0 p1 fun z => h (inC.mp z).2) (fun p p0 p1 h => hfg' p p0 p1 fun z => h (inC.mp z).2)
  exact k1.trans k2
theorem ap_full (hT : Tbs s ts) : Ap s ts (rangeL 0 s.length) := fun f g f' g' _ _ _ _ hf hg _ _ => by
  have e : ∀ {u v : Int → Int}, (∀ p : Int, 0 ≤ p → p < (s.length : Int) → p ∈ rangeL 0 s.length → u p = v p) → Wl s ts u = Wl s ts v := fun {u v} h => Wl_ext fun t ht p hp => by
    have := (hT.pl t ht).2 p hp
    exact h p this.1 this.2 (mem_rangeL.mpr (by omega))
  rw [e hf, e hg]
theorem hul_self (hS : Spt S s.length) (h : Ap s ts S) : Hul s ts S S := ⟨hS, fun p hp => hp, h, fun T _ h p hp => h p hp⟩
/-- a scene -/
structure Scn (s : List Int) (ts : List Tab) : Prop where
  sz : Sz s
  six : s.length ≤ 6
  tb : Tbs s ts
/-! ### made -/
theorem m_table (hs : Sz s) {t : Tab} (h1 : Spt t.1 s.length) (h2 : t.1 ≠ []) (h3 : (t.2.length : Int) = prodR (ssz s t.1)) {R : Bool → Prop} (q : R true) : m_is_table s t R := by
  unfold m_is_table
  rw [if_neg (by decide)]
  have l8 := hs.few
  have l1 := h1.len
  refine ⟨⟨by omega, by omega⟩, m_places h1 (by omega) ?_⟩
  have pos : 0 < t.1.length := List.length_pos_iff.mpr h2
  show if (!true) = true then _ else _
  rw [if_neg (by decide)]
  show if decide ((t.1.length : Int) = 0) = true then _ else _
  rw [if_neg (by simp; omega)]
  dsimp only [m_is_list, wIte]
  rw [if_neg (by decide)]
  refine m_count hs h1.2 ?_
  have := (hs.sub h1).2
  show if decide (prodR (ssz s t.1) ≤ 100) = true then _ else _
  rw [if_pos (by simp; exact this)]
  show if decide ((t.2.length : Int) = prodR (ssz s t.1)) = true then _ else _
  rw [if_pos (by simp; exact h3)]
  refine wMap_of (fun _ => true) (fun x _ Q k => k) ?_
  rw [all_true]; exact q
theorem l_madeW (h : Scn s ts) {R : List Int × List Tab → Prop} (q : R (s, ts)) : l_made s ts R := by
  have hs := h.sz
  have e : ts.map (fun x1 : Tab => (x1.1, x1.2)) = ts := by
    conv => rhs; rw [← List.map_id ts]
    rfl
  unfold l_made m_Book___init__ m_are_sizes
  dsimp only [m_is_list, wIte]
  rw [if_neg (by decide)]
  show if (!(decide ((1 : Int) ≤ (s.length : Int)) && decide ((s.length : Int) ≤ 8))) = true then _ else _
  rw [if_neg (by have := hs.one; have := hs.few; simp; omega)]
  refine wMap_of (fun _ => true) (fun x hx Q k => ?_) ?_
  · have := hs.bd x hx
    dsimp only [m_is_integer, wIte]
    rw [if_pos (by rfl), decide_eq_true this.1, decide_eq_true this.2]; exact k
  · rw [all_true]
    show if (!true) = true then False else _
    rw [if_neg (by decide), e]
    show m_Wish___init__ s ts R
    unfold m_Wish___init__ m_check_kind
    rw [if_neg (by decide)]
    dsimp only [m_are_tables, m_is_list_t, wIte, wLet]
    rw [if_pos rfl, if_pos (by have := h.tb.few; simp; omega)]
    refine wMap_of (fun _ => true) (fun t ht Q k => m_table hs (h.tb.pl t ht) (h.tb.ne t ht) (h.tb.len t ht) k) ?_
    rw [all_true]
    show if (!true) = true then False else R (s, ts.map fun x3 => (x3.1, x3.2))
    rw [if_neg (by decide), e]; exact q
/-! ### the law -/
open Classical in
theorem l_rightW (sc : ∀ (large : Bool) (R : List Int × List Tab → Prop), (∀ s ts, Scn s ts → R (s, ts)) → l_scene large R) (large : Bool) {R : Bool → Prop} (q : R true) : l_right large R := by
  refine sc large _ fun s ts h => l_madeW h ?_
  have hs := h.sz
  have hT := h.tb
  have l6 := h.six
  refine l_rowsF hs ?_
  have few : (rws s).length ≤ 100 := by
    have := rows_few hs (full_spt s.length)
    rwa [full_ssz] at this
  refine wFor_inv (fun pre d => Fnd d pre (fun x => Wl s ts (atT x)) ∧ d.length ≤ pre.length) (rws s) [] [] ⟨⟨fun e he => (nomatch he), fun k hk => (nomatch hk)⟩, Nat.le_refl _⟩ (fun p x post d e ⟨h1, h2⟩ N' C' hN hC => ?_) fun d ⟨hd, _⟩ => ?_
  · have e : rws s = p ++ x :: post := e
    have lp : p.length < 100 := by rw [e] at few; simp at few; omega
    refine ⟨by unfold LB; omega, l_worthW hs hT ((mem_rws _ x).mp (by rw [e]; simp)) (hN _ ⟨h1.put x, ?_⟩)⟩
    have := putT_len d x (Wl s ts (atT x))
    rw [List.length_append, List.length_singleton]
    show (putT d x (Wl s ts (atT x))).length ≤ _
    omega
  refine l_lotsW (n := s.length) (by omega) (l_mixL (by rw [lots_len]; exact Nat.le_trans (Nat.pow_le_pow_right (by decide) l6) (by decide)) fun lots hp => ?_)
  have inL : ∀ {S : List Int}, S ∈ lots ↔ Spt S s.length := fun {S} => hp.mem_iff.trans (mem_lots _ S)
  refine wLc_of (fun S => decide (Ap s ts S)) (fun S => S) (fun S hS Q k => l_apartW hs hT (inL.mp hS) hd fun b hb => ?_) (fun S _ Q k => k) ?_
  · have : b = decide (Ap s ts S) := by
      cases b with
      | true => exact (decide_eq_true (hb.mp rfl)).symm
      | false => exact (decide_eq_false fun z => Bool.false_ne_true (hb.mpr z)).symm
    rw [this]; exact k
  rw [List.map_id']
  generalize hg : lots.filter (fun S => decide (Ap s ts S)) = good
  have inG : ∀ {S : List Int}, S ∈ good ↔ Spt S s.length ∧ Ap s ts S := fun {S} => by
    rw [← hg, List.mem_filter, inL, decide_eq_true_eq]
  have cut : cutD lots none (some (6 : Int)) = lots.take 6 := by
    unfold cutD
    rw [HT.sIx_none, show (6 : Int) = ((6 : Nat) : Int) from rfl, HT.sIx_nat, List.drop_zero, Nat.sub_zero]
    rw [List.take_eq_take_iff]; omega
  rw [cut]
  refine ⟨by rw [List.length_take]; omega, ?_⟩
  refine wFor_inv (fun _ _ => True) (lots.take 6) [] () trivial (fun p lot post _ e _ N' C' hN hC => ?_) fun _ _ => ?_
  · have e : lots.take 6 = p ++ lot :: post := e
    have hlot := inL.mp (List.mem_of_mem_take (show lot ∈ lots.take 6 by rw [e]; simp))
    refine ⟨by decide, fun way _ => ?_⟩
    have go : ∀ K : List Int → Prop, K lot → wIte (decide (way = (0 : Int))) (fun Q50 => Q50 lot) (fun Q51 => Q51 lot) K := fun K k => by
      show if _ then K lot else K lot
      split <;> exact k
    refine go _ ?_
    refine m_hulls hs hT hlot fun l hl => ?_
    refine wLc_of (fun one => decide (∀ p ∈ lot, p ∈ one)) (fun one => one) (fun one _ Q k => l_withinW fun c hc => ?_) (fun one _ Q k => k) ?_
    · have : c = decide (∀ p ∈ lot, p ∈ one) := by
        cases c with
        | true => exact (decide_eq_true (hc.mp rfl)).symm
        | false => exact (decide_eq_false fun z => Bool.false_ne_true (hc.mpr z)).symm
      rw [this]; exact k
    rw [List.map_id']
    refine l_meetW (n := s.length) (by omega) fun m hm hmem => ?_
    have lG : l ∈ good := inG.mpr ⟨hl.sp, hl.ap⟩
    have em : l = m := up_ext hl.sp.1 hm.1 fun p => by
      rw [hmem p]
      constructor
      · intro z
        refine ⟨hl.sp.2 p z, fun T hT2 => ?_⟩
        obtain ⟨t1, t2⟩ := List.mem_filter.mp hT2
        exact hl.least T (inG.mp t1).2 (of_decide_eq_true t2) p z
      · rintro ⟨_, z⟩
        exact z l (List.mem_filter.mpr ⟨lG, decide_eq_true hl.sub⟩)
    subst em
    show if (!decide (l = l)) = true then _ else _
    rw [decide_eq_true rfl, if_neg (by decide)]
    show if (!true) = true then R false else _
    rw [if_neg (by decide)]
    show if (!inB l good) = true then _ else _
    rw [inB_iff.mpr lG, if_neg (by decide)]
    refine m_hulls hs hT hl.sp fun l2 hl2 => ?_
    have e2 : l2 = l := hl2.uniq (hul_self hl.sp hl.ap)
    subst e2
    show if (!decide (l2 = l2)) = true then _ else _
    rw [decide_eq_true rfl, if_neg (by decide)]
    refine m_apart hs hT hlot fun b hb => ?_
    have eb : b = inB lot good := by
      cases b with
      | true => exact (inB_iff.mpr (inG.mpr ⟨hlot, hb.mp rfl⟩)).symm
      | false =>
        cases z : inB lot good with
        | false => rfl
        | true => exact hb.mpr (inG.mp (inB_iff.mp z)).2
    show if (!decide (b = inB lot good)) = true then R false else _
    rw [decide_eq_true eb, if_neg (by decide)]
    have ll := hl.sp.len
    have llot := hlot.len
    refine ⟨lb9 (by rw [List.length_map]; omega), m_hulls hs hT hlot fun l3 hl3 => ⟨⟨by have := hs.one; show 0 < (s.length : Int); omega, by show (s.length : Int) < _; omega⟩, fun x hx => ⟨by simp, lb9 (by rw [List.length_singleton]; omega), by rw [List.length_append, List.length_singleton]; omega, ?_⟩⟩⟩
    have sp : Spt (asc (lot ++ [x])) s.length := ⟨asc_up _, fun y hy => by
      rcases List.mem_append.mp (mem_asc.mp hy) with z | z
      · exact hlot.2 y z
      · rw [List.mem_singleton.mp z]; exact hx⟩
    refine m_hulls hs hT sp fun l4 hl4 => l_withinW fun c hc => ?_
    have ec : c = true := hc.mpr fun p hp => hl3.least l4 hl4.ap (fun y hy => hl4.sub y (mem_asc.mpr (List.mem_append_left _ hy))) p hp
    rw [ec]
    show if (!true) = true then R false else N' ()
    rw [if_neg (by decide)]
    exact hN () trivial
  · refine ⟨⟨by decide, by decide⟩, by decide, ?_⟩
    have fullG : rangeL 0 s.length ∈ good := inG.mpr ⟨full_spt _, ap_full hT⟩
    have gpos : 0 < good.length := List.length_pos_of_mem fullG
    have gle : good.length ≤ 64 := by
      rw [← hg]
      have h1 := List.length_filter_le (fun S => decide (Ap s ts S)) lots
      have h2 := hp.length_eq
      rw [lots_len] at h2
      have h3 : 2 ^ s.length ≤ 2 ^ 6 := Nat.pow_le_pow_right (by decide) l6
      omega
    refine wFor_inv (fun _ _ => True) (rng 3) [] () trivial (fun p x post _ e _ N' C' hN hC => ?_) fun _ _ => q
    refine ⟨⟨by omega, by omega⟩, fun i hi => ⟨ixOk_of hi.1 hi.2, ⟨by omega, by omega⟩, fun j hj => ⟨ixOk_of hj.1 hj.2, ?_⟩⟩⟩
    have g1 := inG.mp (show ixAt good i ∈ good by rw [ixAt_nn hi.1]; exact getD_mem (by omega))
    have g2 := inG.mp (show ixAt good j ∈ good by rw [ixAt_nn hj.1]; exact getD_mem (by omega))
    show m_is_apart (s, ts) ((ixAt good i).filter fun p => decide (p ∈ ixAt good j)) _
    generalize ixAt good i = A at g1
    generalize ixAt good j = B at g2
    have ap := ap_meet g1.2 g2.2
    have sp : Spt (A.filter fun p => decide (p ∈ B)) s.length := ⟨g1.1.1.sublist List.filter_sublist, fun y hy => g1.1.2 y (List.mem_filter.mp hy).1⟩
    refine m_apart hs hT sp fun b hb => ?_
    rw [hb.mpr ap]
    show if (!true) = true then _ else _
    rw [if_neg (by decide)]
    refine m_hulls hs hT sp fun l hl => ?_
    have el : l = A.filter fun p => decide (p ∈ B) := hl.uniq (hul_self sp ap)
    show if (!decide (l = A.filter fun p => decide (p ∈ B))) = true then R false else N' ()
    rw [decide_eq_true el, if_neg (by decide)]
    exact hN () trivial
end
end K18

set_option Elab.async false
set_option linter.all false
set_option maxRecDepth 100000
set_option maxHeartbeats 4000000
namespace K18
open PySem PySem.Spec L2 DL
section
variable {s : List Int} {ts : List Tab} {S O : List Int}
/-! ### the scenes -/
theorem pr_len {α β : Type} {P : α → β → Prop} : ∀ {xs : List α} {ys : List β}, Paired P xs ys → ys.length = xs.length
  | _, _, .nil => rfl
  | _, _, .cons _ t => by rw [List.length_cons, List.length_cons, pr_len t]
theorem pr_mem {α β : Type} {P : α → β → Prop} : ∀ {xs : List α} {ys : List β}, Paired P xs ys → ∀ y ∈ ys, ∃ x ∈ xs, P x y
  | _, _, .nil, _, h => nomatch h
  | _, _, .cons r t, y, h => by
    rcases List.mem_cons.mp h with e | h
    · exact ⟨_, List.mem_cons_self, e ▸ r⟩
    · obtain ⟨x, hx, p⟩ := pr_mem t y h
      exact ⟨x, List.mem_cons_of_mem _ hx, p⟩
theorem pr_at {α β : Type} [Inhabited α] [Inhabited β] {P : α → β → Prop} : ∀ {xs : List α} {ys : List β} (i : Nat), Paired P xs ys → i < xs.length → P (xs.getD i default) (ys.getD i default)
  | _, _, 0, .cons r _, _ => r
  | _, _, i + 1, .cons _ t, h => pr_at i t (by simpa using h)
  | _, _, _, .nil, h => absurd h (Nat.not_lt_zero _)
theorem l_sizesW (large : Bool) {R : List Int → Prop} (q : ∀ s, Sz s → s.length ≤ 6 → R s) : l_sizes large R := by
  have pick : ∀ (L : List (List Int)) (n : Int), (L.length : Int) = n → (∀ s ∈ L, 1 ≤ s.length ∧ s.length ≤ 6 ∧ (∀ n ∈ s, 2 ≤ n ∧ n ≤ 6) ∧ prodR s ≤ 100) → ∀ i : Int, 0 ≤ i ∧ i < n → ixOk L.length i ∧ R (ixAt L i) := fun L n hn h i hi => by
    refine ⟨ixOk_of hi.1 (by omega), ?_⟩
    rw [ixAt_nn hi.1]
    obtain ⟨a, b, c, d⟩ := h _ (getD_mem (l := L) (i := i.toNat) (by omega))
    exact q _ ⟨a, by omega, c, d⟩ b
  have go : ∀ b : Bool, (fun x3 : Bool => (if x3 = true then (wTake (6 : Int) fun x1 => (ixOk [[(2 : Int), (2 : Int), (2 : Int), (2 : Int), (2 : Int), (2 : Int)], [(2 : Int), (2 : Int), (2 : Int), (2 : Int), (2 : Int)], [(3 : Int), (2 : Int), (2 : Int), (2 : Int), (2 : Int)], [(4 : Int), (4 : Int), (5 : Int)], [(3 : Int), (3 : Int), (3 : Int), (3 : Int)], [(6 : Int), (3 : Int)]].length x1 ∧ R (ixAt [[(2 : Int), (2 : Int), (2 : Int), (2 : Int), (2 : Int), (2 : Int)], [(2 : Int), (2 : Int), (2 : Int), (2 : Int), (2 : Int)], [(3 : Int), (2 : Int), (2 : Int), (2 : Int), (2 : Int)], [(4 : Int), (4 : Int), (5 : Int)], [(3 : Int), (3 : Int), (3 : Int), (3 : Int)], [(6 : Int), (3 : Int)]] x1))) else (wTake (8 : Int) fun x2 => (ixOk [[(2 : Int), (2 : Int), (2 : Int)], [(3 : Int), (2 : Int)], [(2 : Int), (2 : Int), (3 : Int)], [(4 : Int)], [(2 : Int), (2 : Int), (2 : Int), (2 : Int)], [(3 : Int), (3 : Int)], [(2 : Int), (3 : Int), (2 : Int), (2 : Int)], [(2 : Int)]].length x2 ∧ R (ixAt [[(2 : Int), (2 : Int), (2 : Int)], [(3 : Int), (2 : Int)], [(2 : Int), (2 : Int), (3 : Int)], [(4 : Int)], [(2 : Int), (2 : Int), (2 : Int), (2 : Int)], [(3 : Int), (3 : Int)], [(2 : Int), (3 : Int), (2 : Int), (2 : Int)], [(2 : Int)]] x2))))) b := fun b => by
    cases b with
    | true =>
      show if true = true then _ else _
      rw [if_pos rfl]
      exact ⟨by decide, pick _ 6 rfl (by decide)⟩
    | false =>
      show if false = true then _ else _
      rw [if_neg (by decide)]
      exact ⟨by decide, pick _ 8 rfl (by decide)⟩
  unfold l_sizes
  cases large with
  | true =>
    dsimp only [wIte]
    rw [if_pos rfl]
    exact ⟨by decide, fun i _ => go _⟩
  | false =>
    dsimp only [wIte]
    rw [if_neg (by decide)]
    exact go false
theorem rows_cnt (hs : Sz s) (hS : Spt S s.length) : ((rws (ssz s S)).length : Int) = prodR (ssz s S) := rws_len _ fun n hn => by
  obtain ⟨p, hp, rfl⟩ := List.mem_map.mp hn
  have := hs.at (hS.2 p hp); omega
theorem l_tableW (hs : Sz s) (hS : Spt S s.length) {R : Tab → Prop} (q : ∀ w : List Int, (w.length : Int) = prodR (ssz s S) → R (S, w)) : l_table s S R := by
  refine wMap_of (atT s) (fun x hx Q k => ⟨ixOk_of (hS.2 x hx).1 (hS.2 x hx).2, by rw [ixAt_nn (hS.2 x hx).1]; exact k⟩) (l_rowsS hs hS ?_)
  refine ⟨by decide, fun i hi => ⟨ixOk_of hi.1 hi.2, ⟨by decide, fun j hj => ⟨rows_few hs hS, ?_⟩⟩⟩⟩
  refine wMap_any (fun _ _ => True) (fun x _ Q k => ⟨⟨by omega, by omega⟩, fun m hm => ⟨.inl ⟨by omega, by omega⟩, k _ trivial⟩⟩) fun ys hy => q ys ?_
  rw [pr_len hy, rows_cnt hs hS]
theorem l_blocksW {n : Nat} (hn : n ≤ 8) {R : List (List Int) → Prop} (q : ∀ bs : List (List Int), (∀ b ∈ bs, Spt b n ∧ b ≠ []) → bs.length ≤ n → R bs) : l_blocks (n : Int) R := ⟨⟨by omega, by omega⟩, fun bs h => by
  rw [Int.toNat_natCast] at h
  exact q bs (fun b hb => (h.each b hb).1) h.few⟩
theorem tab_full (hs : Sz s) {w : List Int} (hw : (w.length : Int) = prodR s) : Tbs s [(rangeL 0 s.length, w)] where
  few := by show (1 : Nat) ≤ 8; decide
  pl := fun t ht => by rw [List.mem_singleton.mp ht]; exact full_spt _
  ne := fun t ht => by
    rw [List.mem_singleton.mp ht]
    intro e
    have e2 := congrArg List.length e
    rw [rangeL_len, List.length_nil] at e2
    have := hs.one
    omega
  len := fun t ht => by rw [List.mem_singleton.mp ht]; show _ = prodR (ssz s (rangeL 0 s.length)); rw [full_ssz]; exact hw
theorem Tbs.snoc (h : Tbs s ts) (hl : ts.length < 8) {t : Tab} (h1 : Spt t.1 s.length) (h2 : t.1 ≠ []) (h3 : (t.2.length : Int) = prodR (ssz s t.1)) : Tbs s (ts ++ [t]) where
  few := by rw [List.length_append, List.length_singleton]; omega
  pl := fun u hu => by
    rcases List.mem_append.mp hu with z | z
    · exact h.pl u z
    · rw [List.mem_singleton.mp z]; exact h1
  ne := fun u hu => by
    rcases List.mem_append.mp hu with z | z
    · exact h.ne u z
    · rw [List.mem_singleton.mp z]; exact h2
  len := fun u hu => by
    rcases List.mem_append.mp hu with z | z
    · exact h.len u z
    · rw [List.mem_singleton.mp z]; exact h3
theorem one_spt {n : Nat} {x : Int} (h : 0 ≤ x ∧ x < (n : Int)) : Spt [x] n := ⟨by simp, fun y hy => by rw [List.mem_singleton.mp hy]; exact h⟩
theorem ord_in {n : Nat} {m : List Int} (h : m.Perm (rng (n : Int))) : m.length = n ∧ m.Nodup ∧ ∀ x ∈ m, 0 ≤ x ∧ x < (n : Int) := by
  refine ⟨by rw [h.length_eq, rng_len]; omega, h.nodup_iff.mpr (up_nodup rangeL_up), fun x hx => mem_rng.mp (h.mem_iff.mp hx)⟩
theorem l_turnedW (hs : Sz s) {R : List Tab → Prop} (q : ∀ ts, Tbs s ts → R ts) : l_turned s R := by
  have l8 := hs.few
  have l1 := hs.one
  refine ⟨⟨by omega, by omega⟩, l_mixI (by rw [rng_len]; omega) fun m hm => ?_⟩
  obtain ⟨lm, nm, im⟩ := ord_in hm
  refine l_rowsF hs ?_
  have cnt := rows_cnt hs (full_spt s.length)
  rw [full_ssz] at cnt
  have few := hs.prod
  have mAt : ∀ i : Nat, i < m.length → 0 ≤ atT m i ∧ atT m i < (s.length : Int) := fun i hi => by
    unfold atT
    rw [Int.toNat_natCast]
    exact im _ (getD_mem hi)
  refine wFor_inv (fun pre st => st.length = pre.length) (rws s) [] [] rfl (fun p row post st e h1 N' C' hN hC => ?_) fun st h1 => ?_
  · have e : rws s = p ++ row :: post := e
    have hrow := ((mem_rws s row).mp (by rw [e]; simp)).len
    have lp : p.length < (rws s).length := by rw [e]; simp
    have m0 := mAt 0 (by omega)
    have rest : ∀ sec : Int, (st.length + 1 ≤ LB ∧ (ixOk m.length (0 : Int) ∧ (ixOk row.length (ixAt m (0 : Int)) ∧ (ixOk m.length (0 : Int) ∧ (ixOk row.length (ixAt m (0 : Int)) ∧ (wIte (decide ((ixAt row (ixAt m (0 : Int))) % (2 : Int) = (0 : Int))) (fun Q12 => Q12 sec) (fun Q13 => Q13 ((0 : Int) - sec)) fun x11 => wLet (((100 : Int) * (ixAt row (ixAt m (0 : Int)))) + x11) fun v10 => N' (st ++ [v10]))))))) := fun sec => by
      have o0 : ixOk m.length (0 : Int) := ixOk_of (by decide) (by omega)
      have o1 : ixOk row.length (ixAt m (0 : Int)) := by
        rw [ixAt_nn (by decide)]
        exact ixOk_of m0.1 (by rw [hrow]; exact m0.2)
      refine ⟨lb9 (by omega), o0, o1, o0, o1, ?_⟩
      have fin : ∀ v : Int, N' (st ++ [v]) := fun v => hN _ (by rw [List.length_append, List.length_append, h1]; rfl)
      show if _ then N' _ else N' _
      split <;> exact fin _
    show if decide ((m.length : Int) > 1) = true then _ else _
    by_cases c : (m.length : Int) > 1
    · rw [decide_eq_true c, if_pos rfl]
      have m1 := mAt 1 (by omega)
      refine ⟨ixOk_of (by decide) c, ?_, rest _⟩
      rw [ixAt_nn (by decide)]
      exact ixOk_of m1.1 (by rw [hrow]; exact m1.2)
    · rw [decide_eq_false c, if_neg (by decide)]
      exact rest _
  · refine ⟨⟨by omega, by omega⟩, by simp, ?_⟩
    have T1 := tab_full hs (w := st) (by rw [h1, List.nil_append]; exact cnt)
    show if decide ((m.length : Int) > 2) = true then _ else _
    by_cases c : (m.length : Int) > 2
    · rw [decide_eq_true c, if_pos rfl]
      have m2 := mAt 2 (by omega)
      have e2 : ixAt m (2 : Int) = atT m 2 := ixAt_nn (by decide)
      have m2' : 0 ≤ atT m 2 ∧ atT m 2 < (s.length : Int) := m2
      have s2 := hs.at m2'
      have o2 : ixOk m.length (2 : Int) := ixOk_of (by decide) (by omega)
      rw [e2]
      have e3 : ixAt s (atT m 2) = atT s (atT m 2) := ixAt_nn m2'.1
      rw [e3]
      refine ⟨lb9 (by simp), o2, by simp, o2, ixOk_of m2'.1 m2'.2, ⟨by omega, by omega⟩, by rw [rng_len]; omega, ?_⟩
      refine wMap_any (fun _ _ => True) (fun x hx Q k => ⟨by decide, fun j hj => ⟨.inr ⟨by omega, by omega⟩, k _ trivial⟩⟩) fun ys hy => ?_
      refine q _ (T1.snoc (by simp) (t := ([atT m 2], ys)) (one_spt m2') (by simp) ?_)
      show (ys.length : Int) = atT s (atT m 2) * 1
      rw [pr_len hy, rng_len]; omega
    · rw [decide_eq_false c, if_neg (by decide)]
      exact q _ T1
theorem sum_bd : ∀ {l : List Int}, (∀ y ∈ l, 0 ≤ y ∧ y ≤ 100) → 0 ≤ l.sum ∧ l.sum ≤ 100 * (l.length : Int)
  | [], _ => by simp
  | y :: l, h => by
    have := sum_bd (l := l) fun z hz => h z (List.mem_cons_of_mem _ hz)
    have := h y List.mem_cons_self
    rw [List.sum_cons, List.length_cons]; omega
theorem l_squaresW (hs : Sz s) {R : List Tab → Prop} (q : ∀ ts, Tbs s ts → R ts) : l_squares s R := by
  have l8 := hs.few
  refine ⟨by omega, ?_⟩
  refine wMap_any (fun n (l : List Int) => (l.length : Int) = n ∧ ∀ y ∈ l, 0 ≤ y ∧ y ≤ 100) (fun n hn Q k => ?_) fun rv hrv => ?_
  · have := hs.bd n hn
    refine ⟨⟨by omega, by omega⟩, by rw [rng_len]; omega, ?_⟩
    refine wMap_any (fun x y => 0 ≤ y ∧ y ≤ 100) (fun x hx Q2 k2 => ⟨by decide, fun j hj => k2 _ ?_⟩) fun ys hy => k ys ⟨?_, fun y hy2 => ?_⟩
    · have := mem_rng.mp hx; omega
    · rw [pr_len hy, rng_len]; omega
    · obtain ⟨x, _, h⟩ := pr_mem hy y hy2; exact h
  refine l_rowsF hs ?_
  have lrv := pr_len hrv
  refine wMap_any (fun _ y => 0 ≤ y ∧ y ≤ 1000) (fun row hrow Q k => ?_) fun sums hsums => ?_
  · have hr := (mem_rws s row).mp hrow
    have lr := hr.len
    refine ⟨⟨by omega, by omega⟩, ?_⟩
    refine wMap_any (fun _ y => 0 ≤ y ∧ y ≤ 100) (fun p hp Q2 k2 => ?_) fun ys hy => k _ ?_
    · have hp := mem_rng.mp hp
      have hv := inW_at hr p hp.1 hp.2
      have pa := pr_at p.toNat hrv (by omega)
      refine ⟨ixOk_of hp.1 (by omega), ixOk_of hp.1 (by omega), ?_⟩
      rw [ixAt_nn hp.1, ixAt_nn hp.1]
      have hv : 0 ≤ row.getD p.toNat default ∧ row.getD p.toNat default < s.getD p.toNat default := hv
      refine ⟨ixOk_of hv.1 (by rw [pa.1]; exact hv.2), k2 _ ?_⟩
      rw [ixAt_nn hv.1]
      exact pa.2 _ (getD_mem (by have := pa.1; omega))
    · have := sum_bd (l := ys) fun y hy2 => by obtain ⟨x, _, h⟩ := pr_mem hy y hy2; exact h
      have := pr_len hy
      rw [rng_len] at this
      omega
  refine ⟨⟨by omega, by omega⟩, ?_⟩
  refine wMap_any (fun _ _ => True) (fun x hx Q k => ⟨.inl ?_, k _ trivial⟩) fun ys hy => ⟨by simp, q _ ?_⟩
  · obtain ⟨r, _, h⟩ := pr_mem hsums x hx
    constructor <;> omega
  · refine tab_full hs ?_
    rw [pr_len hy, pr_len hsums]
    have := rows_cnt hs (full_spt s.length)
    rwa [full_ssz] at this
theorem tabs_of {F : List Tab} (hs : Sz s) (hl : F.length ≤ 8) (h : ∀ t ∈ F, Spt t.1 s.length ∧ t.1 ≠ [] ∧ (t.2.length : Int) = prodR (ssz s t.1)) : Tbs s F := ⟨hl, fun t ht => (h t ht).1, fun t ht => (h t ht).2.1, fun t ht => (h t ht).2.2⟩
theorem l_mindW (hs : Sz s) (h6 : s.length ≤ 6) {R : List Tab → Prop} (q : ∀ ts, Tbs s ts → R ts) : l_mind s R := by
  refine ⟨by decide, fun way hw => ?_⟩
  show if _ then _ else _
  split
  · exact l_turnedW hs q
  · split
    · exact l_squaresW hs q
    · split
      · refine l_blocksW (n := s.length) (by omega) fun bs hb hl => ⟨by omega, ?_⟩
        refine wMap_any (fun _ (t : Tab) => Spt t.1 s.length ∧ t.1 ≠ [] ∧ (t.2.length : Int) = prodR (ssz s t.1)) (fun b hb2 Q k => l_tableW hs (hb b hb2).1 fun w hw => k _ ⟨(hb b hb2).1, (hb b hb2).2, hw⟩) fun ys hy => q ys (tabs_of hs (by rw [pr_len hy]; omega) fun t ht => ?_)
        obtain ⟨x, _, h⟩ := pr_mem hy t ht
        exact h
      · refine l_lotsW (n := s.length) (by omega) ?_
        dsimp only [wLet]
        generalize hL : (lotsL s.length).filter (fun x11 : List Int => !decide (x11 = [])) = L
        have full : rangeL 0 s.length ∈ L := by
          rw [← hL]
          refine List.mem_filter.mpr ⟨(mem_lots _ _).mpr (full_spt _), ?_⟩
          have : rangeL 0 s.length ≠ [] := fun e => by
            have e2 := congrArg List.length e
            rw [rangeL_len, List.length_nil] at e2
            have := hs.one
            omega
          simp [this]
        have inL : ∀ x ∈ L, Spt x s.length ∧ x ≠ [] := fun x hx => by
          rw [← hL] at hx
          obtain ⟨h1, h2⟩ := List.mem_filter.mp hx
          exact ⟨(mem_lots _ _).mp h1, by simpa using h2⟩
        have pos : 0 < L.length := List.length_pos_of_mem full
        have le : L.length ≤ 64 := by
          rw [← hL]
          have h1 := List.length_filter_le (fun x11 : List Int => !decide (x11 = [])) (lotsL s.length)
          rw [lots_len] at h1
          have h3 : 2 ^ s.length ≤ 2 ^ 6 := Nat.pow_le_pow_right (by decide) h6
          omega
        refine ⟨by decide, fun i hi => ⟨ixOk_of hi.1 hi.2, ?_⟩⟩
        have b4 : 0 ≤ ixAt [(2 : Int), (1 : Int), (3 : Int), (0 : Int)] i ∧ ixAt [(2 : Int), (1 : Int), (3 : Int), (0 : Int)] i ≤ 3 := by
          have all : ∀ x ∈ [(2 : Int), (1 : Int), (3 : Int), (0 : Int)], 0 ≤ x ∧ x ≤ 3 := by decide
          rw [ixAt_nn hi.1]
          exact all _ (getD_mem (by show i.toNat < 4; omega))
        generalize ixAt [(2 : Int), (1 : Int), (3 : Int), (0 : Int)] i = cnt at b4
        refine ⟨⟨by omega, by omega⟩, by rw [rng_len]; omega, ?_⟩
        refine wMap_any (fun _ (t : Tab) => Spt t.1 s.length ∧ t.1 ≠ [] ∧ (t.2.length : Int) = prodR (ssz s t.1)) (fun b hb2 Q k => ⟨⟨by omega, by omega⟩, fun j hj => ⟨ixOk_of hj.1 hj.2, ?_⟩⟩) fun ys hy => q ys (tabs_of hs (by rw [pr_len hy, rng_len]; omega) fun t ht => ?_)
        · have hm := inL (ixAt L j) (by rw [ixAt_nn hj.1]; exact getD_mem (by omega))
          exact l_tableW hs hm.1 fun w hw => k _ ⟨hm.1, hm.2, hw⟩
        · obtain ⟨x, _, h⟩ := pr_mem hy t ht
          exact h
theorem cut_two {m : List Int} {k : Nat} (h : k + 1 < m.length) : (cutD m (some (k : Int)) (some ((k : Int) + 2))).length = 2 ∧ (cutD m (some (k : Int)) (some ((k : Int) + 2))).Sublist m := by
  unfold cutD
  rw [show ((k : Int) + 2) = ((k + 2 : Nat) : Int) by omega, HT.sIx_nat, HT.sIx_nat, Nat.min_eq_left (by omega), Nat.min_eq_left (by omega)]
  refine ⟨by rw [List.length_take, List.length_drop]; omega, (List.take_sublist _ _).trans (List.drop_sublist _ _)⟩
theorem l_chainW (hs : Sz s) {R : List Tab → Prop} (q : ∀ ts, Tbs s ts → R ts) : l_chain s R := by
  have l8 := hs.few
  have l1 := hs.one
  refine ⟨⟨by omega, by omega⟩, l_mixI (by rw [rng_len]; omega) fun m hm => ?_⟩
  obtain ⟨lm, nm, im⟩ := ord_in hm
  refine ⟨⟨by omega, by omega⟩, by rw [rng_len]; omega, ?_⟩
  refine wFor_inv (fun pre st => st.length = pre.length ∧ ∀ t ∈ st, Spt t.1 s.length ∧ t.1 ≠ [] ∧ (t.2.length : Int) = prodR (ssz s t.1)) (rng ((m.length : Int) - 1)) [] [] ⟨rfl, fun t ht => (nomatch ht)⟩ (fun p k post st e ⟨h1, h2⟩ N' C' hN hC => ?_) fun st ⟨h1, h2⟩ => q st (tabs_of hs (by rw [h1, List.nil_append, rng_len]; omega) h2)
  have e : rng ((m.length : Int) - 1) = p ++ k :: post := e
  have hk := mem_rng.mp (show k ∈ rng ((m.length : Int) - 1) by rw [e]; simp)
  have lp : p.length < 8 := by
    have := congrArg List.length e
    rw [rng_len, List.length_append, List.length_cons] at this; omega
  obtain ⟨c1, c2⟩ := cut_two (m := m) (k := k.toNat) (by omega)
  rw [Int.toNat_of_nonneg hk.1] at c1 c2
  have sp : Spt (sortI (cutD m (some k) (some (k + 2)))) s.length := ⟨sort_up (c2.nodup nm), fun x hx => im x (c2.subset (mem_sort.mp hx))⟩
  have ne : sortI (cutD m (some k) (some (k + 2))) ≠ [] := fun z => by
    have := (sortBy_perm id (cutD m (some k) (some (k + 2)))).length_eq
    rw [c1] at this
    have z2 : sortBy id (cutD m (some k) (some (k + 2))) = [] := z
    rw [z2] at this; cases this
  refine ⟨by decide, fun i hi => ⟨ixOk_of hi.1 hi.2, ?_⟩⟩
  have b7 : 0 ≤ ixAt [(1 : Int), (5 : Int), (2 : Int), (3 : Int), (7 : Int), (0 : Int)] i ∧ ixAt [(1 : Int), (5 : Int), (2 : Int), (3 : Int), (7 : Int), (0 : Int)] i ≤ 7 := by
    have all : ∀ x ∈ [(1 : Int), (5 : Int), (2 : Int), (3 : Int), (7 : Int), (0 : Int)], 0 ≤ x ∧ x ≤ 7 := by decide
    rw [ixAt_nn hi.1]
    exact all _ (getD_mem (by show i.toNat < 6; omega))
  dsimp only [wLet]
  generalize ixAt [(1 : Int), (5 : Int), (2 : Int), (3 : Int), (7 : Int), (0 : Int)] i = sc at b7
  generalize sortI (cutD m (some k) (some (k + 2))) = P at sp ne
  refine ⟨lb9 (by omega), wMap_of (atT s) (fun x hx Q kk => ⟨ixOk_of (sp.2 x hx).1 (sp.2 x hx).2, by rw [ixAt_nn (sp.2 x hx).1]; exact kk⟩) (l_rowsS hs sp ?_)⟩
  refine wMap_any (fun _ _ => True) (fun x _ Q kk => ⟨.inl ⟨by show _ < sc; omega, by show sc < _; omega⟩, kk _ trivial⟩) fun ys hy => hN _ ⟨by rw [List.length_append, List.length_append, h1]; rfl, fun t ht => ?_⟩
  rcases List.mem_append.mp ht with z | z
  · exact h2 t z
  · rw [List.mem_singleton.mp z]
    exact ⟨sp, ne, by show (ys.length : Int) = _; rw [pr_len hy, rows_cnt hs sp]⟩
theorem sz_of {s : List Int} (h : 1 ≤ s.length ∧ s.length ≤ 6 ∧ (∀ n ∈ s, 2 ≤ n ∧ n ≤ 6) ∧ prodR s ≤ 100) : Sz s ∧ s.length ≤ 6 := ⟨⟨h.1, by omega, h.2.2.1, h.2.2.2⟩, h.2.1⟩
theorem l_sceneW (large : Bool) (R : List Int × List Tab → Prop) (q : ∀ s ts, Scn s ts → R (s, ts)) : l_scene large R := by
  refine ⟨by decide, fun way hw => ?_⟩
  show if _ then _ else _
  split
  · refine ⟨by decide, fun a ha => ⟨by decide, fun b hb => ⟨by simp, ?_⟩⟩⟩
    show wMap _ [(0 : Int), (1 : Int), (2 : Int), (6 : Int), (3 : Int), (5 : Int), (4 : Int), (7 : Int)] _
    refine wMap_any (fun _ _ => True) (fun x _ Q k => ⟨.inr ⟨by show _ < 1 + a; omega, by show 1 + a < _; omega⟩, k _ trivial⟩) fun ys hy => ⟨by simp, ?_⟩
    have ly := pr_len hy
    have ly : ys.length = 8 := ly
    refine ⟨by decide, fun c hc => ?_⟩
    obtain ⟨z1, z2⟩ := sz_of (s := [2, 2, 2]) (by decide)
    obtain ⟨y1, y2⟩ := sz_of (s := [2, 2, 2, 2]) (by decide)
    split
    · exact q _ _ ⟨z1, z2, tabs_of z1 (by simp) fun t ht => by
        rw [List.mem_singleton.mp ht]
        exact ⟨⟨by simp, (show ∀ x ∈ [(0 : Int), 1, 2], 0 ≤ x ∧ x < ((3 : Nat) : Int) by decide)⟩, by simp, by show (ys.length : Int) = _; rw [ly]; rfl⟩⟩
    · refine ⟨by decide, fun d hd => ?_⟩
      have t1 : Spt [(0 : Int), 1, 2] [(2 : Int), 2, 2, 2].length ∧ [(0 : Int), 1, 2] ≠ [] ∧ (ys.length : Int) = prodR (ssz [(2 : Int), 2, 2, 2] [(0 : Int), 1, 2]) := ⟨⟨by simp, by decide⟩, by simp, by rw [ly]; rfl⟩
      have t2 : ∀ u v : Int, Spt [(3 : Int)] [(2 : Int), 2, 2, 2].length ∧ [(3 : Int)] ≠ [] ∧ ([u, v].length : Int) = prodR (ssz [(2 : Int), 2, 2, 2] [(3 : Int)]) := fun u v => ⟨⟨by simp, by decide⟩, by simp, rfl⟩
      have t3 : ∀ u : Int, Spt [(2 : Int), 3] [(2 : Int), 2, 2, 2].length ∧ [(2 : Int), 3] ≠ [] ∧ ([0, 0, 0, u].length : Int) = prodR (ssz [(2 : Int), 2, 2, 2] [(2 : Int), 3]) := fun u => ⟨⟨by simp, by decide⟩, by simp, rfl⟩
      show if _ then _ else _
      split
      · refine ⟨ixOk_of (by decide) (show (0 : Int) < ((2 : Nat) : Int) by decide), by simp, by simp, lb9 (by simp), lb9 (by simp), q _ _ ⟨y1, y2, tabs_of y1 (by simp) fun t ht => ?_⟩⟩
        simp only [List.mem_append, List.mem_singleton] at ht
        rcases ht with (e | e) | e
        · rw [e]; exact t1
        · rw [e]; exact t2 _ _
        · rw [e]; exact t3 _
      · refine ⟨lb9 (by simp), lb9 (by simp), q _ _ ⟨y1, y2, tabs_of y1 (by simp) fun t ht => ?_⟩⟩
        simp only [List.mem_append, List.mem_singleton, List.append_nil] at ht
        rcases ht with e | e
        · rw [e]; exact t1
        · rw [e]; exact t2 _ _
  · refine l_sizesW large fun s hs h6 => ?_
    have fin : ∀ x20 : Bool, (if x20 = true then (l_chain s fun x17 => R (s, x17)) else (if (decide (way = (1 : Int))) = true then (l_turned s fun x18 => R (s, x18)) else (l_mind s fun x19 => R (s, x19)))) := fun x20 => by
      split
      · exact l_chainW hs fun ts h => q s ts ⟨hs, h6, h⟩
      · split
        · exact l_turnedW hs fun ts h => q s ts ⟨hs, h6, h⟩
        · exact l_mindW hs h6 fun ts h => q s ts ⟨hs, h6, h⟩
    show if _ then _ else _
    split
    · exact ⟨by decide, fun i _ => fin _⟩
    · exact fin _
theorem law_right (large : Bool) : l_right large fun b => b = true := l_rightW l_sceneW large rfl
end
end K18

set_option Elab.async false
set_option linter.all false
set_option maxRecDepth 100000
set_option maxHeartbeats 4000000
namespace K18
open PySem PySem.Spec L2 DL
/-- the script -/
def cScrK (K : PySem.W.Frag) : Cod (List Int) := ⟨fun H v xs => ∃ a, v = .ref a ∧ SqL K H a (xs.map V.int), fun e ⟨a, h1, h2⟩ => ⟨a, h1, by
  rcases h2 with h2 | h2
  · exact .inl (e.rd h2)
  · exact .inr h2⟩⟩
def spCellL (K : PySem.W.Frag) : Sp := fun vs H Q _ => ∃ (a : Addr) (ns : List Int) (k : Int), vs = [.ref a, .int k] ∧ SqL K H a (ns.map V.int) ∧ ns.length ≤ 63 ∧ 0 ≤ k ∧ k ≤ 5 ∧ ∀ (i : Int) H', Ex H H' → (∀ b, H' b = none → H b = none) → Q (.int i) H'
def spBoxL : Sp := fun vs H Q _ => ∃ (g : Int), vs = [.int g] ∧ ∀ (b : Addr) (g' : Int) (big : Bool) (m : Int), H b = none → 0 ≤ m → m < 2147483648 → Q (.ref b) (upd H b (.lst [.int g', .bl big, .int m, .int 0]))
abbrev nLaw : List Str := ["script", "k"]
abbrev sLaw : Stmt := top 77
def spLaw (K : PySem.W.Frag) : Sp := fun vs H Q _ => ∃ (a : Addr) (ns : List Int), vs = [.ref a] ∧ SqL K H a (ns.map V.int) ∧ ns.length ≤ 63 ∧ ∀ H', Q (.bl true) H'
def rMx : List V → Hp → VK → Prop := fun xs H Q => ∃ i j, xs = [.int i, .int j] ∧ Q (.int (if j > i then j else i)) H
def rMn : List V → Hp → VK → Prop := fun xs H Q => ∃ i j, xs = [.int i, .int j] ∧ Q (.int (if j < i then j else i)) H
theorem fr_box {Hf H Hf' H' : Hp} {b : Addr} {o : HO} {M : Addr → Prop} (hb : H b = none) (hM : ∀ z, M z → z = b) (f : Fr M Hf (upd H b o) Hf' H') : Fr (fun _ => False) Hf H Hf' H' := by
  have ne : ∀ a u, H a = some u → a ≠ b := fun a u e z => by subst z; rw [hb] at e; cases e
  exact ⟨f.ex, fun a u e _ => f.keep a u (by rw [upd_ne (ne a u e)]; exact e) fun z => ne a u e (hM a z), fun a u e _ z => f.fz a u (by rw [upd_ne (ne a u e)]; exact e) (fun z => ne a u e (hM a z)) z, fun a h => by
    have h1 := f.dom a h
    by_cases z : a = b
    · subst z; exact hb
    · rw [upd_ne z] at h1; exact h1⟩
section
variable {P : Program} {w : PySem.World} {K : PySem.W.Frag} {mg : Str → Option Value} {base : Heap} {CBook CWish : Addr}
abbrev P_right : Sp := spW (fun b (t : Bool × Unit) => [.bx b, .d cBool t.1]) 18019 (fun t => l_right t.1) cBool
abbrev Slaw (P : Program) (w : PySem.World) (K : PySem.W.Frag) (mg : Str → Option Value) (base : Heap) : Stc := ⟨nLaw, defScope sLaw, K, mg, P, w, base, 11, fun _ => true, false⟩
theorem ok_cell (EA : All P w K mg base CBook CWish) {f : Addr} {fd : FuncData} (F : Fun K "_law_cell" "_law_cell" (top 54) f fd) : FnOk P w K mg base CX0 1 f fd ["script", "k"] (spCellL K) := by
  refine F.ok (N := ["script", "k"]) ⟨rfl, rfl, rfl, by decide +kernel, rfl, by decide +kernel, by decide +kernel⟩ (fun vs H Q E h => ?_) (fun cdv A outer s H vs Q E hr h => ?_)
  · obtain ⟨a, ns, k, rfl, _⟩ := h
    rfl
  · obtain ⟨a, ns, k, rfl, hs, hl, k0, k1, q⟩ := h
    refine ⟨_, pss_one (ps_ret (pe_ifExp (pt_cmpR op_lt (pv 1) (pe_callB call_len_seq rfl EA.b_len PySem.boot_len (pa_cons (pv 0) pa_nil)) (nomark _)) (pe_ix ix_list (pv 0) (pv 1) (fun _ _ => rfl)) (pe_op op_add (pe_op op_mul pe_int (pv 1)) (pe_op op_mod (pe_callB (cr_sum rfl) rfl EA.b_sum PyProof.Rows.boot_sum (pa_cons (pe_slice sl_list (pv 0) po_none (po_some pe_int)) pa_nil)) pe_int)))), ?_⟩
    refine ⟨.int k, rfl, .ref a, rfl, a, _, rfl, .inl hs, k, _, rfl, rfl, _, rfl, ?_⟩
    refine ite2 (fun hlt => ?_) fun _ => ?_
    · have hk : 0 ≤ k ∧ k < ((ns.map V.int).length : Int) := ⟨k0, of_decide_eq_true hlt⟩
      have hk2 : k.toNat < ns.length := by rw [List.length_map] at hk; omega
      refine ⟨.ref a, rfl, .int k, rfl, a, _, k, .int ns[k.toNat], rfl, rfl, hs, ?_, q _ H Ex.rfl' fun _ h => h⟩
      unfold atI
      rw [ixN_at hk]
      show (ns.map V.int)[k.toNat]? = _
      rw [List.getElem?_map, List.getElem?_eq_getElem hk2]; rfl
    · refine ⟨.int k, rfl, 7919, k, rfl, rfl, .inl ⟨by decide, by decide⟩, .ref a, rfl, 1, rfl, a, _, rfl, hs, fun p hp => ?_⟩
      have ec : cutV (ns.map V.int) none (some 1) = ((ns.drop (HT.sIx (ns.map V.int).length 0 none)).take (HT.sIx (ns.map V.int).length (ns.map V.int).length (some 1) - HT.sIx (ns.map V.int).length 0 none)).map V.int := by
        unfold cutV; rw [List.map_take, List.map_drop]
      rw [ec]
      refine ⟨p, _, rfl, SqL.of upd_same, ?_⟩
      refine ⟨_, 1000003, rfl, rfl, (show (0 : Int) < 1000003 by decide), _, _, rfl, rfl, q _ _ (Ex.new hp) fun x hx => ?_⟩
      by_cases z : x = p
      · subst z; rw [upd_same] at hx; cases hx
      · rw [upd_ne z] at hx; exact hx
theorem ok_box (EA : All P w K mg base CBook CWish) {f : Addr} {fd : FuncData} (F : Fun K "_law_box" "_law_box" (top 55) f fd) : FnOk P w K mg base CX0 1 f fd ["great"] spBoxL := by
  refine F.ok (N := ["great"]) ⟨rfl, rfl, rfl, by decide +kernel, rfl, by decide +kernel, by decide +kernel⟩ (fun vs H Q E h => ?_) (fun cdv A outer s H vs Q E hr h => ?_)
  · obtain ⟨g, rfl, _⟩ := h
    rfl
  · obtain ⟨g, rfl, q⟩ := h
    refine ⟨_, pss_one (ps_ret (pe_lst (pa_cons (pe_callB call_abs rfl EA.b_abs PyProof.Rows.boot_abs (pa_cons (pv 0) pa_nil)) (pa_cons (pe_cmpR op_ge (pe_callB call_abs rfl EA.b_abs PyProof.Rows.boot_abs (pa_cons (pv 0) pa_nil)) (pe_op op_pow pe_int pe_int) (nomark _)) (pa_cons (pe_op op_mod (pe_callTy call_int1 rfl EA.b_int (by decide +kernel) (pa_cons (pe_callB call_abs rfl EA.b_abs PyProof.Rows.boot_abs (pa_cons (pv 0) pa_nil)) pa_nil)) pe_int) (pa_cons pe_int pa_nil)))))), ?_⟩
    refine ⟨.int g, rfl, g, rfl, .int g, rfl, g, rfl, 10, 18, rfl, rfl, ⟨by decide, by decide, by decide⟩, _, _, rfl, rfl, .int g, rfl, g, rfl, .inl ⟨_, rfl, _, 2147483629, rfl, rfl, (show (0 : Int) < 2147483629 by decide), ?_⟩⟩
    refine ⟨by show 4 ≤ sizeLine; decide, fun p hp => q p _ _ _ hp (Int.emod_nonneg _ (by decide)) (Int.lt_trans (Int.emod_lt_of_pos _ (by decide)) (by decide))⟩
theorem td_row {Γ : Ctxt} {ns : List Int} {k : Int} {bb : Bool} {te tk tb : TE} (h1 : TD te Γ 0 (cScrK K) (· = ns)) (h2 : TD tk Γ 0 cInt (· = k)) (h3 : TD tb Γ 0 cBool (· = bb)) (hl : ns.length ≤ 63) (h0 : 0 ≤ k) (h5 : k ≤ 5) (no : NoOwn Γ) :
    TD (tCall P_right [] E0 (tCons (tCall spBoxL [] E0 (tCons (tCall (spCellL K) [] E0 (tCons te (tCons tk tNil))) tNil)) (tCons tb tNil))) Γ 0 cBool (· = true) := fun O n σ Hf H hn s Q q =>
  h1 O n σ Hf H hn s _ fun v1 Hf1 H1 x px r1 f1 s1 => by
    subst px
    refine h2 O n σ Hf1 H1 hn s1 _ fun v2 Hf2 H2 y py r2 f2 s2 => ?_
    subst py
    obtain ⟨a, rfl, hs⟩ := (cScrK K).mono (f2.ex.trans s2.ex) r1
    obtain rfl := r2
    refine ⟨a, x, y, rfl, hs, hl, h0, h5, fun i H3 e3 d3 => ?_⟩
    refine ⟨i, rfl, fun b g' big m hb m0 m1 => ?_⟩
    have hb2 : Hf2 b = none := s2.ex.back (d3 b hb)
    have s3 : Sat O Hf2 H3 σ Γ (n + 0) := s2.heap no e3 d3
    have F3 : Fr (fun _ => False) Hf2 H2 Hf2 H3 := ⟨Ex.rfl', fun c u e _ => e3 c u e, fun _ _ _ _ z => z, d3⟩
    have sB := s3.grow0 (Fr.newO (M := fun _ => False) (o := .lst [.int g', .bl big, .int m, .int 0]) hb) (s3.ex.trans (Ex.new hb))
    have nb : ∀ c, ¬ Bx Γ c := no.bx
    refine h3 O n σ Hf2 _ hn sB _ fun v3 Hf5 H5 z pz r3 f5 s5 => ?_
    subst pz
    obtain rfl := r3
    have bx5 : H5 b = some (.lst [.int g', .bl big, .int m, .int 0]) := f5.keep _ _ upd_same (nb b)
    have nf5 : Hf5 b = none := f5.fz _ _ upd_same (nb b) hb2
    refine ⟨((z, ()), fun x => x = true), b, 0, Hf5, law_right z, (show 0 + 18019 ≤ LIM by decide), s5.ex, ⟨rfl, rfl, trivial⟩, fun c hc => ?_, fun v Hf4 H4 u pu ru f4 e4 _ => ?_⟩
    · have : c = b := by
        rcases List.mem_cons.mp hc with h | h
        · exact Sl.bx.inj h
        · rcases List.mem_cons.mp h with h | h
          · cases h
          · cases h
      subst this
      exact ⟨nf5, g', big, m, 0, bx5, m0, m1, Int.le_refl _, Int.le_refl _⟩
    · have hM : ∀ c, Sl.bx c ∈ ([.bx b, .d cBool z] : Ctxt) → c = b := fun c hc => by
        rcases List.mem_cons.mp hc with h | h
        · exact Sl.bx.inj h
        · rcases List.mem_cons.mp h with h | h
          · cases h
          · cases h
      have F45 := (f5.mono (M1 := fun c => c = b) fun c hc => (nb c hc).elim).trans f4 fun c hc => .inl (hM c hc)
      have F4 := fr_box hb (fun c hc => hc) F45
      have s4 := s3.grow0 F4 e4
      exact q v Hf4 H4 u pu ru (((f1.trans f2 fun _ z => .inl z).trans F3 fun _ z => z.elim).trans F4 fun _ z => z.elim) s4
theorem ok_law (EA : All P w K mg base CBook CWish) {f : Addr} {fd : FuncData} (F : Fun K "law" "law" sLaw f fd) (C_right : Cal P w K mg base "_law_right" ["box", "large"] 11 P_right) (C_box : Cal P w K mg base "_law_box" ["great"] 1 spBoxL) (C_cell : Cal P w K mg base "_law_cell" ["script", "k"] 1 (spCellL K)) :
    FnOk P w K mg base CX0 12 f fd ["script"] (spLaw K) := by
  obtain ⟨fr, fdr, Fr', hmr, hkr, hbr⟩ := C_right.ex
  obtain ⟨fb, fdb, Fb, hmb, hkb, hbb⟩ := C_box.ex
  obtain ⟨fc, fdc, Fc, hmc, hkc, hbc⟩ := C_cell.ex
  refine F.ok (N := nLaw) ⟨rfl, rfl, rfl, by decide +kernel, rfl, by decide +kernel, by decide +kernel⟩ (fun vs H Q E h => ?_) (fun cdv A outer s H vs Q E hr h => ?_)
  · obtain ⟨a, ns, rfl, _⟩ := h; rfl
  · obtain ⟨a, ns, rfl, hs, hl, q⟩ := h
    have hsN : (FnScope nLaw ["script"] (defScope sLaw)) := ⟨rfl, rfl, rfl, by decide +kernel, rfl, by decide +kernel, by decide +kernel⟩
    refine ⟨tSs (Slaw P w K mg base) (defBody sLaw), tSs_ok (cxG hr hsN.nd), ?_⟩
    refine body_ok (A := List Int) (ρ := Bool) (ps := fun _ (a : List Int) => [.d (cScrK K) a]) (kf := fun _ => 0) (PR := fun _ x => x = true) (cr := cBool) (a := ns) (b := 0) (n := 0) (Hf := H) (show 1 ≤ 2 by decide) trivial (by decide) Ex.rfl' ⟨⟨a, rfl, hs⟩, trivial⟩ (fun z hz => by simp at hz) (fun v Hf' H' x px r _ _ _ => ?_) ?_
    · subst px; obtain rfl := r; exact q H'
    have no : ∀ k : Int, NoOwn ([.d (cScrK K) ns, .d cInt k] : Ctxt) := fun k s hs => by
      simp at hs; rcases hs with h | h <;> subst h <;> rfl
    show PHs (Slaw P w K mg base) [.d (cScrK K) ns, .un] 0 (defBody sLaw) _
    refine bfor (k := 0) (kk := 0) (kn := 0) (k2 := 0) [1] (X' := fun xs => ∃ j : Int, 2 ≤ j ∧ j ≤ 5 ∧ xs = rangeL 0 j.toNat) (fun _ pre Γ => Γ = [.d (cScrK K) ns, .un]) (pdi_range1 rfl EA.b_range (pda_cons (k1 := 0) (k2 := 0) (P := fun j : Int => 2 ≤ j ∧ j ≤ 5) (c := cInt) ?_ pda_nil (fun _ => rfl)) (fun as e => ?_) (fun _ => rfl)) ?_ ?_ ?_ (fun _ _ => rfl) ?_
    · refine pd_of (te := tCB rMx (tCons (tE (Slaw P w K mg base) _) (tCons (tCB rMn (tCons (tE (Slaw P w K mg base) _) (tCons (tCB (rLenR K) (tCons (tE (Slaw P w K mg base) _) tNil)) tNil))) tNil))) (fun X G => pe_callB (call_max2 G.calm) (glb G rfl) (by rw [G.mg]; exact EA.b_max) PyProof.Rows.boot_max (pa_cons (tE_ok G) (pa_cons (pe_callB (call_min2 G.calm) (glb G rfl) (by rw [G.mg]; exact EA.b_min) PyProof.Rows.boot_min (pa_cons (tE_ok G) (pa_cons (pe_callB (lenG X G) (glb G rfl) (by rw [G.mg]; exact EA.b_len) PySem.boot_len (pa_cons (tE_ok G) pa_nil)) pa_nil))) pa_nil))) ?_
      intro O n σ Hf H hn s Q q
      refine pd_int (S := Slaw P w K mg base) (i := 2) O n σ Hf H hn s _ fun v0 Hf0 H0 x0 px0 r0 f0 s0 => ?_
      refine pd_int (S := Slaw P w K mg base) (i := 3) O n σ Hf0 H0 hn s0 _ fun v1 Hf1 H1 x1 px1 r1 f1 s1 => ?_
      refine pd_name (S := Slaw P w K mg base) (Γ := [.d (cScrK K) ns, .un]) (c := cScrK K) (y := ns) (i := 0) rfl rfl (.inl rfl) (by decide) (by decide) O n σ Hf1 H1 hn s1 _ fun v2 Hf2 H2 x2 px2 r2 f2 s2 => ?_
      subst px0 px1 px2
      obtain rfl := r0
      obtain rfl := r1
      obtain ⟨c, rfl, hc⟩ := (cScrK K).mono s2.ex r2
      refine ⟨c, _, rfl, .inl hc, 3, _, rfl, 2, _, rfl, ?_⟩
      refine q _ Hf2 H2 _ ?_ rfl ((f0.trans f1 fun _ z => .inl z).trans f2 fun _ z => .inl z) s2
      constructor <;> (repeat' split) <;> omega
    · obtain ⟨j, r, ⟨h1, h2⟩, h3, h4⟩ := e
      subst h3 h4
      exact ⟨j, rfl, by omega, by omega, j, h1, h2, rfl⟩
    · intro xs _; rfl
    · intro xs _; simp
    · rintro xs ⟨j, j2, j5, exs⟩ pre x post Γ1 hx e
      subst e
      have hxr : x ∈ rangeL 0 j.toNat := by rw [← exs, hx]; simp
      have hx1 := mem_rangeL.mp hxr
      refine ⟨_, _, pdg_name (i := 1) trivial rfl (.inl rfl) (.inl rfl), ?_⟩
      refine HS.ctx (Γ' := [.d (cScrK K) ns, .d cInt x]) rfl ?_
      refine bifR (b' := (· = false)) (k1 := 0) (k2 := 0) (k3 := 0) (pdt_not (b := true) (pdt_val (pd_of (S := Slaw P w K mg base) (fun X G => pe_call (fnG Fr' G) (G.room.mono (show (11 : Nat) ≤ 11 by decide)) (glb G rfl) (by rw [G.mg]; exact hmr) (by rw [G.K]; exact hkr) (by rw [G.K]; exact hbr) .nil pass0 (pa_cons (pe_call (fnG Fb G) (G.room.mono (show (1 : Nat) ≤ 11 by decide)) (glb G rfl) (by rw [G.mg]; exact hmb) (by rw [G.K]; exact hkb) (by rw [G.K]; exact hbb) .nil pass0 (pa_cons (pe_call (fnG Fc G) (G.room.mono (show (1 : Nat) ≤ 11 by decide)) (glb G rfl) (by rw [G.mg]; exact hmc) (by rw [G.K]; exact hkc) (by rw [G.K]; exact hbc) .nil pass0 (pa_cons (tE_ok G) (pa_cons (tE_ok G) pa_nil))) pa_nil)) (pa_cons (tE_ok G) pa_nil))) (td_row (pd_name (S := Slaw P w K mg base) (i := 0) rfl rfl (.inl rfl)) (pd_name (S := Slaw P w K mg base) (i := 1) rfl rfl (.inl rfl)) (PW.pd (xcmp (S := Slaw P w K mg base) (fun _ _ => op_eq) (xname (i := 1) rfl rfl (.inl rfl)) (xint (i := 0)) (fun _ _ => rw0 rd_eqI) (nomark _))) hl (by omega) (by omega) (no x))) (fun _ _ => rfl))) (fun h => ?_) fun h => ?_
      · exact absurd h (by decide)
      · exact phs_nil ⟨trivial, rfl⟩
    · rintro xs Γ1 _ e
      subst e
      exact bret pd_bool fun _ h => h
end
end K18

set_option Elab.async false
set_option linter.all false
set_option maxRecDepth 100000
namespace K18
open PySem PySem.Spec L2 DL PySem.W

theorem all_mk {l : PySem.W.OpenLaw} {w : World} {K : PySem.W.Frag} {h : Heap} {mg : Str → Option Value} {fa : Addr} (X : K.In h) (Gn : h.Ns mainGlobals mg) (hfa : mg "law" = some (.ref fa))
    {fd0 : Addr} {odd0 and0 : Option Addr} {sld0 : Array (Option Value)} {ocd0 kVd0 dcd0 pmd0 cdd0 ctd0 : Value}
    {fd1 : Addr} {odd1 and1 : Option Addr} {sld1 : Array (Option Value)} {ocd1 kVd1 dcd1 pmd1 cdd1 ctd1 : Value}
    {fd2 : Addr} {odd2 and2 : Option Addr} {sld2 : Array (Option Value)} {ocd2 kVd2 dcd2 pmd2 cdd2 ctd2 : Value}
    {fd3 : Addr} {odd3 and3 : Option Addr} {sld3 : Array (Option Value)} {ocd3 kVd3 dcd3 pmd3 cdd3 ctd3 : Value}
    {fd4 : Addr} {odd4 and4 : Option Addr} {sld4 : Array (Option Value)} {ocd4 kVd4 dcd4 pmd4 cdd4 ctd4 : Value}
    {fd5 : Addr} {odd5 and5 : Option Addr} {sld5 : Array (Option Value)} {ocd5 kVd5 dcd5 pmd5 cdd5 ctd5 : Value}
    {fd6 : Addr} {odd6 and6 : Option Addr} {sld6 : Array (Option Value)} {ocd6 kVd6 dcd6 pmd6 cdd6 ctd6 : Value}
    {fd7 : Addr} {odd7 and7 : Option Addr} {sld7 : Array (Option Value)} {ocd7 kVd7 dcd7 pmd7 cdd7 ctd7 : Value}
    {fd8 : Addr} {odd8 and8 : Option Addr} {sld8 : Array (Option Value)} {ocd8 kVd8 dcd8 pmd8 cdd8 ctd8 : Value}
    {fd9 : Addr} {odd9 and9 : Option Addr} {sld9 : Array (Option Value)} {ocd9 kVd9 dcd9 pmd9 cdd9 ctd9 : Value}
    {fd10 : Addr} {odd10 and10 : Option Addr} {sld10 : Array (Option Value)} {ocd10 kVd10 dcd10 pmd10 cdd10 ctd10 : Value}
    {fd11 : Addr} {odd11 and11 : Option Addr} {sld11 : Array (Option Value)} {ocd11 kVd11 dcd11 pmd11 cdd11 ctd11 : Value}
    {fd12 : Addr} {odd12 and12 : Option Addr} {sld12 : Array (Option Value)} {ocd12 kVd12 dcd12 pmd12 cdd12 ctd12 : Value}
    {fd13 : Addr} {odd13 and13 : Option Addr} {sld13 : Array (Option Value)} {ocd13 kVd13 dcd13 pmd13 cdd13 ctd13 : Value}
    {fd14 : Addr} {odd14 and14 : Option Addr} {sld14 : Array (Option Value)} {ocd14 kVd14 dcd14 pmd14 cdd14 ctd14 : Value}
    {fd15 : Addr} {odd15 and15 : Option Addr} {sld15 : Array (Option Value)} {ocd15 kVd15 dcd15 pmd15 cdd15 ctd15 : Value}
    {fd16 : Addr} {odd16 and16 : Option Addr} {sld16 : Array (Option Value)} {ocd16 kVd16 dcd16 pmd16 cdd16 ctd16 : Value}
    {fd17 : Addr} {odd17 and17 : Option Addr} {sld17 : Array (Option Value)} {ocd17 kVd17 dcd17 pmd17 cdd17 ctd17 : Value}
    {fd18 : Addr} {odd18 and18 : Option Addr} {sld18 : Array (Option Value)} {ocd18 kVd18 dcd18 pmd18 cdd18 ctd18 : Value}
    {fd19 : Addr} {odd19 and19 : Option Addr} {sld19 : Array (Option Value)} {ocd19 kVd19 dcd19 pmd19 cdd19 ctd19 : Value}
    {fd20 : Addr} {odd20 and20 : Option Addr} {sld20 : Array (Option Value)} {ocd20 kVd20 dcd20 pmd20 cdd20 ctd20 : Value}
    {fd21 : Addr} {odd21 and21 : Option Addr} {sld21 : Array (Option Value)} {ocd21 kVd21 dcd21 pmd21 cdd21 ctd21 : Value}
    {fd22 : Addr} {odd22 and22 : Option Addr} {sld22 : Array (Option Value)} {ocd22 kVd22 dcd22 pmd22 cdd22 ctd22 : Value}
    {fd23 : Addr} {odd23 and23 : Option Addr} {sld23 : Array (Option Value)} {ocd23 kVd23 dcd23 pmd23 cdd23 ctd23 : Value}
    {fd24 : Addr} {odd24 and24 : Option Addr} {sld24 : Array (Option Value)} {ocd24 kVd24 dcd24 pmd24 cdd24 ctd24 : Value}
    {fd25 : Addr} {odd25 and25 : Option Addr} {sld25 : Array (Option Value)} {ocd25 kVd25 dcd25 pmd25 cdd25 ctd25 : Value}
    {fd26 : Addr} {odd26 and26 : Option Addr} {sld26 : Array (Option Value)} {ocd26 kVd26 dcd26 pmd26 cdd26 ctd26 : Value}
    {fd27 : Addr} {odd27 and27 : Option Addr} {sld27 : Array (Option Value)} {ocd27 kVd27 dcd27 pmd27 cdd27 ctd27 : Value}
    {fd28 : Addr} {odd28 and28 : Option Addr} {sld28 : Array (Option Value)} {ocd28 kVd28 dcd28 pmd28 cdd28 ctd28 : Value}
    {fd29 : Addr} {odd29 and29 : Option Addr} {sld29 : Array (Option Value)} {ocd29 kVd29 dcd29 pmd29 cdd29 ctd29 : Value}
    {fd30 : Addr} {odd30 and30 : Option Addr} {sld30 : Array (Option Value)} {ocd30 kVd30 dcd30 pmd30 cdd30 ctd30 : Value}
    {fd31 : Addr} {odd31 and31 : Option Addr} {sld31 : Array (Option Value)} {ocd31 kVd31 dcd31 pmd31 cdd31 ctd31 : Value}
    {fd32 : Addr} {odd32 and32 : Option Addr} {sld32 : Array (Option Value)} {ocd32 kVd32 dcd32 pmd32 cdd32 ctd32 : Value}
    {fd33 : Addr} {odd33 and33 : Option Addr} {sld33 : Array (Option Value)} {ocd33 kVd33 dcd33 pmd33 cdd33 ctd33 : Value}
    {fd34 : Addr} {odd34 and34 : Option Addr} {sld34 : Array (Option Value)} {ocd34 kVd34 dcd34 pmd34 cdd34 ctd34 : Value}
    {fd35 : Addr} {odd35 and35 : Option Addr} {sld35 : Array (Option Value)} {ocd35 kVd35 dcd35 pmd35 cdd35 ctd35 : Value}
    {fd36 : Addr} {odd36 and36 : Option Addr} {sld36 : Array (Option Value)} {ocd36 kVd36 dcd36 pmd36 cdd36 ctd36 : Value}
    {fd37 : Addr} {odd37 and37 : Option Addr} {sld37 : Array (Option Value)} {ocd37 kVd37 dcd37 pmd37 cdd37 ctd37 : Value}
    {fd38 : Addr} {odd38 and38 : Option Addr} {sld38 : Array (Option Value)} {ocd38 kVd38 dcd38 pmd38 cdd38 ctd38 : Value}
    {fd39 : Addr} {odd39 and39 : Option Addr} {sld39 : Array (Option Value)} {ocd39 kVd39 dcd39 pmd39 cdd39 ctd39 : Value}
    {fd40 : Addr} {odd40 and40 : Option Addr} {sld40 : Array (Option Value)} {ocd40 kVd40 dcd40 pmd40 cdd40 ctd40 : Value}
    {fd41 : Addr} {odd41 and41 : Option Addr} {sld41 : Array (Option Value)} {ocd41 kVd41 dcd41 pmd41 cdd41 ctd41 : Value}
    {fd42 : Addr} {odd42 and42 : Option Addr} {sld42 : Array (Option Value)} {ocd42 kVd42 dcd42 pmd42 cdd42 ctd42 : Value}
    {fd43 : Addr} {odd43 and43 : Option Addr} {sld43 : Array (Option Value)} {ocd43 kVd43 dcd43 pmd43 cdd43 ctd43 : Value}
    {fd44 : Addr} {odd44 and44 : Option Addr} {sld44 : Array (Option Value)} {ocd44 kVd44 dcd44 pmd44 cdd44 ctd44 : Value}
    {fd45 : Addr} {odd45 and45 : Option Addr} {sld45 : Array (Option Value)} {ocd45 kVd45 dcd45 pmd45 cdd45 ctd45 : Value}
    {fd46 : Addr} {odd46 and46 : Option Addr} {sld46 : Array (Option Value)} {ocd46 kVd46 dcd46 pmd46 cdd46 ctd46 : Value}
    {fd47 : Addr} {odd47 and47 : Option Addr} {sld47 : Array (Option Value)} {ocd47 kVd47 dcd47 pmd47 cdd47 ctd47 : Value}
    {fd48 : Addr} {odd48 and48 : Option Addr} {sld48 : Array (Option Value)} {ocd48 kVd48 dcd48 pmd48 cdd48 ctd48 : Value}
    {fd49 : Addr} {odd49 and49 : Option Addr} {sld49 : Array (Option Value)} {ocd49 kVd49 dcd49 pmd49 cdd49 ctd49 : Value}
    {fd50 : Addr} {odd50 and50 : Option Addr} {sld50 : Array (Option Value)} {ocd50 kVd50 dcd50 pmd50 cdd50 ctd50 : Value}
    {fd51 : Addr} {odd51 and51 : Option Addr} {sld51 : Array (Option Value)} {ocd51 kVd51 dcd51 pmd51 cdd51 ctd51 : Value}
    {fd52 : Addr} {odd52 and52 : Option Addr} {sld52 : Array (Option Value)} {ocd52 kVd52 dcd52 pmd52 cdd52 ctd52 : Value}
    {tk_MOST_PLACES : Tok}
    {tk_FEWEST_WORDINGS : Tok}
    {tk_MOST_WORDINGS : Tok}
    {tk_MOST_TEXTS : Tok}
    {tk_MOST_TABLES : Tok}
    {tk_MOST_WORTHS : Tok}
    {CBook : Addr}
    {fBook0 : Addr} {odBook0 anBook0 : Option Addr} {slBook0 : Array (Option Value)} {ocBook0 kVBook0 dcBook0 pmBook0 cdBook0 ctBook0 : Value}
    {fBook2 : Addr} {odBook2 anBook2 : Option Addr} {slBook2 : Array (Option Value)} {ocBook2 kVBook2 dcBook2 pmBook2 cdBook2 ctBook2 : Value}
    {fBook3 : Addr} {odBook3 anBook3 : Option Addr} {slBook3 : Array (Option Value)} {ocBook3 kVBook3 dcBook3 pmBook3 cdBook3 ctBook3 : Value}
    {CWish : Addr}
    {fWish0 : Addr} {odWish0 anWish0 : Option Addr} {slWish0 : Array (Option Value)} {ocWish0 kVWish0 dcWish0 pmWish0 cdWish0 ctWish0 : Value}
    (ad0 : PySem.W.nsIn K mainGlobals "is_list" = some (some (.ref fd0)))
    (ld0 : K.lookup fd0 = some ⟨ocd0, odd0, .func (PySem.W.fnOf "is_list" "is_list" (defArgs (top 10)) (defBody (top 10)) (defScope (top 10)) .none kVd0 dcd0 pmd0 and0 cdd0 ctd0), sld0⟩)
    (cd0 : PySem.W.codeIn K cdd0 "is_list" = true)
    (kd0 : PySem.W.keepIn K (.ref fd0) = true)
    (ad1 : PySem.W.nsIn K mainGlobals "is_integer" = some (some (.ref fd1)))
    (ld1 : K.lookup fd1 = some ⟨ocd1, odd1, .func (PySem.W.fnOf "is_integer" "is_integer" (defArgs (top 11)) (defBody (top 11)) (defScope (top 11)) .none kVd1 dcd1 pmd1 and1 cdd1 ctd1), sld1⟩)
    (cd1 : PySem.W.codeIn K cdd1 "is_integer" = true)
    (kd1 : PySem.W.keepIn K (.ref fd1) = true)
    (ad2 : PySem.W.nsIn K mainGlobals "is_index" = some (some (.ref fd2)))
    (ld2 : K.lookup fd2 = some ⟨ocd2, odd2, .func (PySem.W.fnOf "is_index" "is_index" (defArgs (top 12)) (defBody (top 12)) (defScope (top 12)) .none kVd2 dcd2 pmd2 and2 cdd2 ctd2), sld2⟩)
    (cd2 : PySem.W.codeIn K cdd2 "is_index" = true)
    (kd2 : PySem.W.keepIn K (.ref fd2) = true)
    (ad3 : PySem.W.nsIn K mainGlobals "are_numbers" = some (some (.ref fd3)))
    (ld3 : K.lookup fd3 = some ⟨ocd3, odd3, .func (PySem.W.fnOf "are_numbers" "are_numbers" (defArgs (top 13)) (defBody (top 13)) (defScope (top 13)) .none kVd3 dcd3 pmd3 and3 cdd3 ctd3), sld3⟩)
    (cd3 : PySem.W.codeIn K cdd3 "are_numbers" = true)
    (kd3 : PySem.W.keepIn K (.ref fd3) = true)
    (ad4 : PySem.W.nsIn K mainGlobals "is_lot" = some (some (.ref fd4)))
    (ld4 : K.lookup fd4 = some ⟨ocd4, odd4, .func (PySem.W.fnOf "is_lot" "is_lot" (defArgs (top 14)) (defBody (top 14)) (defScope (top 14)) .none kVd4 dcd4 pmd4 and4 cdd4 ctd4), sld4⟩)
    (cd4 : PySem.W.codeIn K cdd4 "is_lot" = true)
    (kd4 : PySem.W.keepIn K (.ref fd4) = true)
    (ad5 : PySem.W.nsIn K mainGlobals "are_places" = some (some (.ref fd5)))
    (ld5 : K.lookup fd5 = some ⟨ocd5, odd5, .func (PySem.W.fnOf "are_places" "are_places" (defArgs (top 15)) (defBody (top 15)) (defScope (top 15)) .none kVd5 dcd5 pmd5 and5 cdd5 ctd5), sld5⟩)
    (cd5 : PySem.W.codeIn K cdd5 "are_places" = true)
    (kd5 : PySem.W.keepIn K (.ref fd5) = true)
    (ad6 : PySem.W.nsIn K mainGlobals "product_of" = some (some (.ref fd6)))
    (ld6 : K.lookup fd6 = some ⟨ocd6, odd6, .func (PySem.W.fnOf "product_of" "product_of" (defArgs (top 16)) (defBody (top 16)) (defScope (top 16)) .none kVd6 dcd6 pmd6 and6 cdd6 ctd6), sld6⟩)
    (cd6 : PySem.W.codeIn K cdd6 "product_of" = true)
    (kd6 : PySem.W.keepIn K (.ref fd6) = true)
    (ad7 : PySem.W.nsIn K mainGlobals "are_sizes" = some (some (.ref fd7)))
    (ld7 : K.lookup fd7 = some ⟨ocd7, odd7, .func (PySem.W.fnOf "are_sizes" "are_sizes" (defArgs (top 22)) (defBody (top 22)) (defScope (top 22)) .none kVd7 dcd7 pmd7 and7 cdd7 ctd7), sld7⟩)
    (cd7 : PySem.W.codeIn K cdd7 "are_sizes" = true)
    (kd7 : PySem.W.keepIn K (.ref fd7) = true)
    (ad8 : PySem.W.nsIn K mainGlobals "check_places" = some (some (.ref fd8)))
    (ld8 : K.lookup fd8 = some ⟨ocd8, odd8, .func (PySem.W.fnOf "check_places" "check_places" (defArgs (top 25)) (defBody (top 25)) (defScope (top 25)) .none kVd8 dcd8 pmd8 and8 cdd8 ctd8), sld8⟩)
    (cd8 : PySem.W.codeIn K cdd8 "check_places" = true)
    (kd8 : PySem.W.keepIn K (.ref fd8) = true)
    (ad9 : PySem.W.nsIn K mainGlobals "check_kind" = some (some (.ref fd9)))
    (ld9 : K.lookup fd9 = some ⟨ocd9, odd9, .func (PySem.W.fnOf "check_kind" "check_kind" (defArgs (top 29)) (defBody (top 29)) (defScope (top 29)) .none kVd9 dcd9 pmd9 and9 cdd9 ctd9), sld9⟩)
    (cd9 : PySem.W.codeIn K cdd9 "check_kind" = true)
    (kd9 : PySem.W.keepIn K (.ref fd9) = true)
    (ad10 : PySem.W.nsIn K mainGlobals "count_rows" = some (some (.ref fd10)))
    (ld10 : K.lookup fd10 = some ⟨ocd10, odd10, .func (PySem.W.fnOf "count_rows" "count_rows" (defArgs (top 30)) (defBody (top 30)) (defScope (top 30)) .none kVd10 dcd10 pmd10 and10 cdd10 ctd10), sld10⟩)
    (cd10 : PySem.W.codeIn K cdd10 "count_rows" = true)
    (kd10 : PySem.W.keepIn K (.ref fd10) = true)
    (ad11 : PySem.W.nsIn K mainGlobals "rows_at" = some (some (.ref fd11)))
    (ld11 : K.lookup fd11 = some ⟨ocd11, odd11, .func (PySem.W.fnOf "rows_at" "rows_at" (defArgs (top 31)) (defBody (top 31)) (defScope (top 31)) .none kVd11 dcd11 pmd11 and11 cdd11 ctd11), sld11⟩)
    (cd11 : PySem.W.codeIn K cdd11 "rows_at" = true)
    (kd11 : PySem.W.keepIn K (.ref fd11) = true)
    (ad12 : PySem.W.nsIn K mainGlobals "sign" = some (some (.ref fd12)))
    (ld12 : K.lookup fd12 = some ⟨ocd12, odd12, .func (PySem.W.fnOf "sign" "sign" (defArgs (top 32)) (defBody (top 32)) (defScope (top 32)) .none kVd12 dcd12 pmd12 and12 cdd12 ctd12), sld12⟩)
    (cd12 : PySem.W.codeIn K cdd12 "sign" = true)
    (kd12 : PySem.W.keepIn K (.ref fd12) = true)
    (ad13 : PySem.W.nsIn K mainGlobals "is_table" = some (some (.ref fd13)))
    (ld13 : K.lookup fd13 = some ⟨ocd13, odd13, .func (PySem.W.fnOf "is_table" "is_table" (defArgs (top 33)) (defBody (top 33)) (defScope (top 33)) .none kVd13 dcd13 pmd13 and13 cdd13 ctd13), sld13⟩)
    (cd13 : PySem.W.codeIn K cdd13 "is_table" = true)
    (kd13 : PySem.W.keepIn K (.ref fd13) = true)
    (ad14 : PySem.W.nsIn K mainGlobals "are_tables" = some (some (.ref fd14)))
    (ld14 : K.lookup fd14 = some ⟨ocd14, odd14, .func (PySem.W.fnOf "are_tables" "are_tables" (defArgs (top 34)) (defBody (top 34)) (defScope (top 34)) .none kVd14 dcd14 pmd14 and14 cdd14 ctd14), sld14⟩)
    (cd14 : PySem.W.codeIn K cdd14 "are_tables" = true)
    (kd14 : PySem.W.keepIn K (.ref fd14) = true)
    (ad15 : PySem.W.nsIn K mainGlobals "ranks" = some (some (.ref fd15)))
    (ld15 : K.lookup fd15 = some ⟨ocd15, odd15, .func (PySem.W.fnOf "ranks" "ranks" (defArgs (top 38)) (defBody (top 38)) (defScope (top 38)) .none kVd15 dcd15 pmd15 and15 cdd15 ctd15), sld15⟩)
    (cd15 : PySem.W.codeIn K cdd15 "ranks" = true)
    (kd15 : PySem.W.keepIn K (.ref fd15) = true)
    (ad16 : PySem.W.nsIn K mainGlobals "unlike_pair" = some (some (.ref fd16)))
    (ld16 : K.lookup fd16 = some ⟨ocd16, odd16, .func (PySem.W.fnOf "unlike_pair" "unlike_pair" (defArgs (top 39)) (defBody (top 39)) (defScope (top 39)) .none kVd16 dcd16 pmd16 and16 cdd16 ctd16), sld16⟩)
    (cd16 : PySem.W.codeIn K cdd16 "unlike_pair" = true)
    (kd16 : PySem.W.keepIn K (.ref fd16) = true)
    (ad17 : PySem.W.nsIn K mainGlobals "check_count" = some (some (.ref fd17)))
    (ld17 : K.lookup fd17 = some ⟨ocd17, odd17, .func (PySem.W.fnOf "check_count" "check_count" (defArgs (top 41)) (defBody (top 41)) (defScope (top 41)) .none kVd17 dcd17 pmd17 and17 cdd17 ctd17), sld17⟩)
    (cd17 : PySem.W.codeIn K cdd17 "check_count" = true)
    (kd17 : PySem.W.keepIn K (.ref fd17) = true)
    (ad18 : PySem.W.nsIn K mainGlobals "touching" = some (some (.ref fd18)))
    (ld18 : K.lookup fd18 = some ⟨ocd18, odd18, .func (PySem.W.fnOf "touching" "touching" (defArgs (top 42)) (defBody (top 42)) (defScope (top 42)) .none kVd18 dcd18 pmd18 and18 cdd18 ctd18), sld18⟩)
    (cd18 : PySem.W.codeIn K cdd18 "touching" = true)
    (kd18 : PySem.W.keepIn K (.ref fd18) = true)
    (ad19 : PySem.W.nsIn K mainGlobals "asked_places" = some (some (.ref fd19)))
    (ld19 : K.lookup fd19 = some ⟨ocd19, odd19, .func (PySem.W.fnOf "asked_places" "asked_places" (defArgs (top 43)) (defBody (top 43)) (defScope (top 43)) .none kVd19 dcd19 pmd19 and19 cdd19 ctd19), sld19⟩)
    (cd19 : PySem.W.codeIn K cdd19 "asked_places" = true)
    (kd19 : PySem.W.keepIn K (.ref fd19) = true)
    (ad20 : PySem.W.nsIn K mainGlobals "check_asked" = some (some (.ref fd20)))
    (ld20 : K.lookup fd20 = some ⟨ocd20, odd20, .func (PySem.W.fnOf "check_asked" "check_asked" (defArgs (top 44)) (defBody (top 44)) (defScope (top 44)) .none kVd20 dcd20 pmd20 and20 cdd20 ctd20), sld20⟩)
    (cd20 : PySem.W.codeIn K cdd20 "check_asked" = true)
    (kd20 : PySem.W.keepIn K (.ref fd20) = true)
    (ad21 : PySem.W.nsIn K mainGlobals "left_out" = some (some (.ref fd21)))
    (ld21 : K.lookup fd21 = some ⟨ocd21, odd21, .func (PySem.W.fnOf "left_out" "left_out" (defArgs (top 45)) (defBody (top 45)) (defScope (top 45)) .none kVd21 dcd21 pmd21 and21 cdd21 ctd21), sld21⟩)
    (cd21 : PySem.W.codeIn K cdd21 "left_out" = true)
    (kd21 : PySem.W.keepIn K (.ref fd21) = true)
    (ad22 : PySem.W.nsIn K mainGlobals "steps_of" = some (some (.ref fd22)))
    (ld22 : K.lookup fd22 = some ⟨ocd22, odd22, .func (PySem.W.fnOf "steps_of" "steps_of" (defArgs (top 46)) (defBody (top 46)) (defScope (top 46)) .none kVd22 dcd22 pmd22 and22 cdd22 ctd22), sld22⟩)
    (cd22 : PySem.W.codeIn K cdd22 "steps_of" = true)
    (kd22 : PySem.W.keepIn K (.ref fd22) = true)
    (ad23 : PySem.W.nsIn K mainGlobals "moved" = some (some (.ref fd23)))
    (ld23 : K.lookup fd23 = some ⟨ocd23, odd23, .func (PySem.W.fnOf "moved" "moved" (defArgs (top 47)) (defBody (top 47)) (defScope (top 47)) .none kVd23 dcd23 pmd23 and23 cdd23 ctd23), sld23⟩)
    (cd23 : PySem.W.codeIn K cdd23 "moved" = true)
    (kd23 : PySem.W.keepIn K (.ref fd23) = true)
    (ad24 : PySem.W.nsIn K mainGlobals "worths_by" = some (some (.ref fd24)))
    (ld24 : K.lookup fd24 = some ⟨ocd24, odd24, .func (PySem.W.fnOf "worths_by" "worths_by" (defArgs (top 48)) (defBody (top 48)) (defScope (top 48)) .none kVd24 dcd24 pmd24 and24 cdd24 ctd24), sld24⟩)
    (cd24 : PySem.W.codeIn K cdd24 "worths_by" = true)
    (kd24 : PySem.W.keepIn K (.ref fd24) = true)
    (ad25 : PySem.W.nsIn K mainGlobals "joined" = some (some (.ref fd25)))
    (ld25 : K.lookup fd25 = some ⟨ocd25, odd25, .func (PySem.W.fnOf "joined" "joined" (defArgs (top 49)) (defBody (top 49)) (defScope (top 49)) .none kVd25 dcd25 pmd25 and25 cdd25 ctd25), sld25⟩)
    (cd25 : PySem.W.codeIn K cdd25 "joined" = true)
    (kd25 : PySem.W.keepIn K (.ref fd25) = true)
    (ad26 : PySem.W.nsIn K mainGlobals "is_apart" = some (some (.ref fd26)))
    (ld26 : K.lookup fd26 = some ⟨ocd26, odd26, .func (PySem.W.fnOf "is_apart" "is_apart" (defArgs (top 50)) (defBody (top 50)) (defScope (top 50)) .none kVd26 dcd26 pmd26 and26 cdd26 ctd26), sld26⟩)
    (cd26 : PySem.W.codeIn K cdd26 "is_apart" = true)
    (kd26 : PySem.W.keepIn K (.ref fd26) = true)
    (ad27 : PySem.W.nsIn K mainGlobals "drawn_in" = some (some (.ref fd27)))
    (ld27 : K.lookup fd27 = some ⟨ocd27, odd27, .func (PySem.W.fnOf "drawn_in" "drawn_in" (defArgs (top 51)) (defBody (top 51)) (defScope (top 51)) .none kVd27 dcd27 pmd27 and27 cdd27 ctd27), sld27⟩)
    (cd27 : PySem.W.codeIn K cdd27 "drawn_in" = true)
    (kd27 : PySem.W.keepIn K (.ref fd27) = true)
    (ad28 : PySem.W.nsIn K mainGlobals "hull" = some (some (.ref fd28)))
    (ld28 : K.lookup fd28 = some ⟨ocd28, odd28, .func (PySem.W.fnOf "hull" "hull" (defArgs (top 52)) (defBody (top 52)) (defScope (top 52)) .none kVd28 dcd28 pmd28 and28 cdd28 ctd28), sld28⟩)
    (cd28 : PySem.W.codeIn K cdd28 "hull" = true)
    (kd28 : PySem.W.keepIn K (.ref fd28) = true)
    (ad29 : PySem.W.nsIn K mainGlobals "_law_take" = some (some (.ref fd29)))
    (ld29 : K.lookup fd29 = some ⟨ocd29, odd29, .func (PySem.W.fnOf "_law_take" "_law_take" (defArgs (top 56)) (defBody (top 56)) (defScope (top 56)) .none kVd29 dcd29 pmd29 and29 cdd29 ctd29), sld29⟩)
    (cd29 : PySem.W.codeIn K cdd29 "_law_take" = true)
    (kd29 : PySem.W.keepIn K (.ref fd29) = true)
    (ad30 : PySem.W.nsIn K mainGlobals "_law_mixed" = some (some (.ref fd30)))
    (ld30 : K.lookup fd30 = some ⟨ocd30, odd30, .func (PySem.W.fnOf "_law_mixed" "_law_mixed" (defArgs (top 57)) (defBody (top 57)) (defScope (top 57)) .none kVd30 dcd30 pmd30 and30 cdd30 ctd30), sld30⟩)
    (cd30 : PySem.W.codeIn K cdd30 "_law_mixed" = true)
    (kd30 : PySem.W.keepIn K (.ref fd30) = true)
    (ad31 : PySem.W.nsIn K mainGlobals "_law_rows" = some (some (.ref fd31)))
    (ld31 : K.lookup fd31 = some ⟨ocd31, odd31, .func (PySem.W.fnOf "_law_rows" "_law_rows" (defArgs (top 58)) (defBody (top 58)) (defScope (top 58)) .none kVd31 dcd31 pmd31 and31 cdd31 ctd31), sld31⟩)
    (cd31 : PySem.W.codeIn K cdd31 "_law_rows" = true)
    (kd31 : PySem.W.keepIn K (.ref fd31) = true)
    (ad32 : PySem.W.nsIn K mainGlobals "_law_lots" = some (some (.ref fd32)))
    (ld32 : K.lookup fd32 = some ⟨ocd32, odd32, .func (PySem.W.fnOf "_law_lots" "_law_lots" (defArgs (top 59)) (defBody (top 59)) (defScope (top 59)) .none kVd32 dcd32 pmd32 and32 cdd32 ctd32), sld32⟩)
    (cd32 : PySem.W.codeIn K cdd32 "_law_lots" = true)
    (kd32 : PySem.W.keepIn K (.ref fd32) = true)
    (ad33 : PySem.W.nsIn K mainGlobals "_law_place" = some (some (.ref fd33)))
    (ld33 : K.lookup fd33 = some ⟨ocd33, odd33, .func (PySem.W.fnOf "_law_place" "_law_place" (defArgs (top 60)) (defBody (top 60)) (defScope (top 60)) .none kVd33 dcd33 pmd33 and33 cdd33 ctd33), sld33⟩)
    (cd33 : PySem.W.codeIn K cdd33 "_law_place" = true)
    (kd33 : PySem.W.keepIn K (.ref fd33) = true)
    (ad34 : PySem.W.nsIn K mainGlobals "_law_worth" = some (some (.ref fd34)))
    (ld34 : K.lookup fd34 = some ⟨ocd34, odd34, .func (PySem.W.fnOf "_law_worth" "_law_worth" (defArgs (top 61)) (defBody (top 61)) (defScope (top 61)) .none kVd34 dcd34 pmd34 and34 cdd34 ctd34), sld34⟩)
    (cd34 : PySem.W.codeIn K cdd34 "_law_worth" = true)
    (kd34 : PySem.W.keepIn K (.ref fd34) = true)
    (ad35 : PySem.W.nsIn K mainGlobals "_law_sizes" = some (some (.ref fd35)))
    (ld35 : K.lookup fd35 = some ⟨ocd35, odd35, .func (PySem.W.fnOf "_law_sizes" "_law_sizes" (defArgs (top 62)) (defBody (top 62)) (defScope (top 62)) .none kVd35 dcd35 pmd35 and35 cdd35 ctd35), sld35⟩)
    (cd35 : PySem.W.codeIn K cdd35 "_law_sizes" = true)
    (kd35 : PySem.W.keepIn K (.ref fd35) = true)
    (ad36 : PySem.W.nsIn K mainGlobals "_law_table" = some (some (.ref fd36)))
    (ld36 : K.lookup fd36 = some ⟨ocd36, odd36, .func (PySem.W.fnOf "_law_table" "_law_table" (defArgs (top 63)) (defBody (top 63)) (defScope (top 63)) .none kVd36 dcd36 pmd36 and36 cdd36 ctd36), sld36⟩)
    (cd36 : PySem.W.codeIn K cdd36 "_law_table" = true)
    (kd36 : PySem.W.keepIn K (.ref fd36) = true)
    (ad37 : PySem.W.nsIn K mainGlobals "_law_blocks" = some (some (.ref fd37)))
    (ld37 : K.lookup fd37 = some ⟨ocd37, odd37, .func (PySem.W.fnOf "_law_blocks" "_law_blocks" (defArgs (top 64)) (defBody (top 64)) (defScope (top 64)) .none kVd37 dcd37 pmd37 and37 cdd37 ctd37), sld37⟩)
    (cd37 : PySem.W.codeIn K cdd37 "_law_blocks" = true)
    (kd37 : PySem.W.keepIn K (.ref fd37) = true)
    (ad38 : PySem.W.nsIn K mainGlobals "_law_turned" = some (some (.ref fd38)))
    (ld38 : K.lookup fd38 = some ⟨ocd38, odd38, .func (PySem.W.fnOf "_law_turned" "_law_turned" (defArgs (top 65)) (defBody (top 65)) (defScope (top 65)) .none kVd38 dcd38 pmd38 and38 cdd38 ctd38), sld38⟩)
    (cd38 : PySem.W.codeIn K cdd38 "_law_turned" = true)
    (kd38 : PySem.W.keepIn K (.ref fd38) = true)
    (ad39 : PySem.W.nsIn K mainGlobals "_law_squares" = some (some (.ref fd39)))
    (ld39 : K.lookup fd39 = some ⟨ocd39, odd39, .func (PySem.W.fnOf "_law_squares" "_law_squares" (defArgs (top 66)) (defBody (top 66)) (defScope (top 66)) .none kVd39 dcd39 pmd39 and39 cdd39 ctd39), sld39⟩)
    (cd39 : PySem.W.codeIn K cdd39 "_law_squares" = true)
    (kd39 : PySem.W.keepIn K (.ref fd39) = true)
    (ad40 : PySem.W.nsIn K mainGlobals "_law_mind" = some (some (.ref fd40)))
    (ld40 : K.lookup fd40 = some ⟨ocd40, odd40, .func (PySem.W.fnOf "_law_mind" "_law_mind" (defArgs (top 67)) (defBody (top 67)) (defScope (top 67)) .none kVd40 dcd40 pmd40 and40 cdd40 ctd40), sld40⟩)
    (cd40 : PySem.W.codeIn K cdd40 "_law_mind" = true)
    (kd40 : PySem.W.keepIn K (.ref fd40) = true)
    (ad41 : PySem.W.nsIn K mainGlobals "_law_chain" = some (some (.ref fd41)))
    (ld41 : K.lookup fd41 = some ⟨ocd41, odd41, .func (PySem.W.fnOf "_law_chain" "_law_chain" (defArgs (top 68)) (defBody (top 68)) (defScope (top 68)) .none kVd41 dcd41 pmd41 and41 cdd41 ctd41), sld41⟩)
    (cd41 : PySem.W.codeIn K cdd41 "_law_chain" = true)
    (kd41 : PySem.W.keepIn K (.ref fd41) = true)
    (ad42 : PySem.W.nsIn K mainGlobals "_law_made" = some (some (.ref fd42)))
    (ld42 : K.lookup fd42 = some ⟨ocd42, odd42, .func (PySem.W.fnOf "_law_made" "_law_made" (defArgs (top 69)) (defBody (top 69)) (defScope (top 69)) .none kVd42 dcd42 pmd42 and42 cdd42 ctd42), sld42⟩)
    (cd42 : PySem.W.codeIn K cdd42 "_law_made" = true)
    (kd42 : PySem.W.keepIn K (.ref fd42) = true)
    (ad43 : PySem.W.nsIn K mainGlobals "_law_put" = some (some (.ref fd43)))
    (ld43 : K.lookup fd43 = some ⟨ocd43, odd43, .func (PySem.W.fnOf "_law_put" "_law_put" (defArgs (top 70)) (defBody (top 70)) (defScope (top 70)) .none kVd43 dcd43 pmd43 and43 cdd43 ctd43), sld43⟩)
    (cd43 : PySem.W.codeIn K cdd43 "_law_put" = true)
    (kd43 : PySem.W.keepIn K (.ref fd43) = true)
    (ad44 : PySem.W.nsIn K mainGlobals "_law_order" = some (some (.ref fd44)))
    (ld44 : K.lookup fd44 = some ⟨ocd44, odd44, .func (PySem.W.fnOf "_law_order" "_law_order" (defArgs (top 71)) (defBody (top 71)) (defScope (top 71)) .none kVd44 dcd44 pmd44 and44 cdd44 ctd44), sld44⟩)
    (cd44 : PySem.W.codeIn K cdd44 "_law_order" = true)
    (kd44 : PySem.W.keepIn K (.ref fd44) = true)
    (ad45 : PySem.W.nsIn K mainGlobals "_law_is_apart" = some (some (.ref fd45)))
    (ld45 : K.lookup fd45 = some ⟨ocd45, odd45, .func (PySem.W.fnOf "_law_is_apart" "_law_is_apart" (defArgs (top 72)) (defBody (top 72)) (defScope (top 72)) .none kVd45 dcd45 pmd45 and45 cdd45 ctd45), sld45⟩)
    (cd45 : PySem.W.codeIn K cdd45 "_law_is_apart" = true)
    (kd45 : PySem.W.keepIn K (.ref fd45) = true)
    (ad46 : PySem.W.nsIn K mainGlobals "_law_scene" = some (some (.ref fd46)))
    (ld46 : K.lookup fd46 = some ⟨ocd46, odd46, .func (PySem.W.fnOf "_law_scene" "_law_scene" (defArgs (top 73)) (defBody (top 73)) (defScope (top 73)) .none kVd46 dcd46 pmd46 and46 cdd46 ctd46), sld46⟩)
    (cd46 : PySem.W.codeIn K cdd46 "_law_scene" = true)
    (kd46 : PySem.W.keepIn K (.ref fd46) = true)
    (ad47 : PySem.W.nsIn K mainGlobals "_law_meet" = some (some (.ref fd47)))
    (ld47 : K.lookup fd47 = some ⟨ocd47, odd47, .func (PySem.W.fnOf "_law_meet" "_law_meet" (defArgs (top 74)) (defBody (top 74)) (defScope (top 74)) .none kVd47 dcd47 pmd47 and47 cdd47 ctd47), sld47⟩)
    (cd47 : PySem.W.codeIn K cdd47 "_law_meet" = true)
    (kd47 : PySem.W.keepIn K (.ref fd47) = true)
    (ad48 : PySem.W.nsIn K mainGlobals "_law_within" = some (some (.ref fd48)))
    (ld48 : K.lookup fd48 = some ⟨ocd48, odd48, .func (PySem.W.fnOf "_law_within" "_law_within" (defArgs (top 75)) (defBody (top 75)) (defScope (top 75)) .none kVd48 dcd48 pmd48 and48 cdd48 ctd48), sld48⟩)
    (cd48 : PySem.W.codeIn K cdd48 "_law_within" = true)
    (kd48 : PySem.W.keepIn K (.ref fd48) = true)
    (ad49 : PySem.W.nsIn K mainGlobals "_law_right" = some (some (.ref fd49)))
    (ld49 : K.lookup fd49 = some ⟨ocd49, odd49, .func (PySem.W.fnOf "_law_right" "_law_right" (defArgs (top 76)) (defBody (top 76)) (defScope (top 76)) .none kVd49 dcd49 pmd49 and49 cdd49 ctd49), sld49⟩)
    (cd49 : PySem.W.codeIn K cdd49 "_law_right" = true)
    (kd49 : PySem.W.keepIn K (.ref fd49) = true)
    (ad50 : PySem.W.nsIn K mainGlobals "_law_cell" = some (some (.ref fd50)))
    (ld50 : K.lookup fd50 = some ⟨ocd50, odd50, .func (PySem.W.fnOf "_law_cell" "_law_cell" (defArgs (top 54)) (defBody (top 54)) (defScope (top 54)) .none kVd50 dcd50 pmd50 and50 cdd50 ctd50), sld50⟩)
    (cd50 : PySem.W.codeIn K cdd50 "_law_cell" = true)
    (kd50 : PySem.W.keepIn K (.ref fd50) = true)
    (ad51 : PySem.W.nsIn K mainGlobals "_law_box" = some (some (.ref fd51)))
    (ld51 : K.lookup fd51 = some ⟨ocd51, odd51, .func (PySem.W.fnOf "_law_box" "_law_box" (defArgs (top 55)) (defBody (top 55)) (defScope (top 55)) .none kVd51 dcd51 pmd51 and51 cdd51 ctd51), sld51⟩)
    (cd51 : PySem.W.codeIn K cdd51 "_law_box" = true)
    (kd51 : PySem.W.keepIn K (.ref fd51) = true)
    (ad52 : PySem.W.nsIn K mainGlobals "law" = some (some (.ref fd52)))
    (ld52 : K.lookup fd52 = some ⟨ocd52, odd52, .func (PySem.W.fnOf "law" "law" (defArgs (top 77)) (defBody (top 77)) (defScope (top 77)) .none kVd52 dcd52 pmd52 and52 cdd52 ctd52), sld52⟩)
    (cd52 : PySem.W.codeIn K cdd52 "law" = true)
    (kd52 : PySem.W.keepIn K (.ref fd52) = true)
    (z_len : PySem.W.nsIn K mainGlobals "len" = some none)
    (z_list : PySem.W.nsIn K mainGlobals "list" = some none)
    (z_tuple : PySem.W.nsIn K mainGlobals "tuple" = some none)
    (z_sorted : PySem.W.nsIn K mainGlobals "sorted" = some none)
    (z_set : PySem.W.nsIn K mainGlobals "set" = some none)
    (z_range : PySem.W.nsIn K mainGlobals "range" = some none)
    (z_isinstance : PySem.W.nsIn K mainGlobals "isinstance" = some none)
    (z_all : PySem.W.nsIn K mainGlobals "all" = some none)
    (z_any : PySem.W.nsIn K mainGlobals "any" = some none)
    (z_int : PySem.W.nsIn K mainGlobals "int" = some none)
    (z_bool : PySem.W.nsIn K mainGlobals "bool" = some none)
    (z_sum : PySem.W.nsIn K mainGlobals "sum" = some none)
    (z_abs : PySem.W.nsIn K mainGlobals "abs" = some none)
    (z_max : PySem.W.nsIn K mainGlobals "max" = some none)
    (z_min : PySem.W.nsIn K mainGlobals "min" = some none)
    (z_str : PySem.W.nsIn K mainGlobals "str" = some none)
    (z_dict : PySem.W.nsIn K mainGlobals "dict" = some none)
    (z_enumerate : PySem.W.nsIn K mainGlobals "enumerate" = some none)
    (z_zip : PySem.W.nsIn K mainGlobals "zip" = some none)
    (g_MOST_PLACES : PySem.W.nsIn K mainGlobals "MOST_PLACES" = some (some (.int 8 tk_MOST_PLACES)))
    (g_FEWEST_WORDINGS : PySem.W.nsIn K mainGlobals "FEWEST_WORDINGS" = some (some (.int 2 tk_FEWEST_WORDINGS)))
    (g_MOST_WORDINGS : PySem.W.nsIn K mainGlobals "MOST_WORDINGS" = some (some (.int 6 tk_MOST_WORDINGS)))
    (g_MOST_TEXTS : PySem.W.nsIn K mainGlobals "MOST_TEXTS" = some (some (.int 100 tk_MOST_TEXTS)))
    (g_MOST_TABLES : PySem.W.nsIn K mainGlobals "MOST_TABLES" = some (some (.int 8 tk_MOST_TABLES)))
    (g_MOST_WORTHS : PySem.W.nsIn K mainGlobals "MOST_WORTHS" = some (some (.int 100 tk_MOST_WORTHS)))
    (ohn : PySem.W.specialIn K (.builtin "object.__class__") "__get__" = some (some (.builtin "getset_descriptor.__get__")))
    (oht : PySem.W.takesIn K (.builtin "object.__class__") = some true)
    (aCBook : PySem.W.nsIn K mainGlobals "Book" = some (some (.ref CBook)))
    (pgBook : PySem.W.plainGet K CBook Str.empty = true)
    (hdBook : PySem.W.hasDictIn K CBook = true)
    (poBook : PySem.W.plainOver K CBook = true)
    (saBook : PySem.W.findIn K (.ref CBook) "__setattr__" = some (some (.builtin "object.__setattr__")))
    (mkBook : PySem.W.makesIn K CBook = true)
    (kcBook : PySem.W.keepIn K (.ref CBook) = true)
    (ohaBook : PySem.W.findIn K (.ref CBook) "__class__" = some (some (.builtin "object.__class__")))
    (ohmBook : PySem.W.mroIn K CBook (.type "object") = some true)
    (nBook_sizes : PySem.W.findIn K (.ref CBook) "sizes" = some none)
    (aBook0 : PySem.W.findIn K (.ref CBook) "__init__" = some (some (.ref fBook0)))
    (lBook0 : K.lookup fBook0 = some ⟨ocBook0, odBook0, .func (PySem.W.fnOf "__init__" "Book.__init__" (defArgs (inClass (top 23) 0)) (defBody (inClass (top 23) 0)) (defScope (inClass (top 23) 0)) .none kVBook0 dcBook0 pmBook0 anBook0 cdBook0 ctBook0), slBook0⟩)
    (cBook0 : PySem.W.codeIn K cdBook0 "Book.__init__" = true)
    (kBook0 : PySem.W.keepIn K (.ref fBook0) = true)
    (iBook0 : PySem.W.isFn K (.ref fBook0) = true)
    (aBook2 : PySem.W.findIn K (.ref CBook) "__len__" = some (some (.ref fBook2)))
    (lBook2 : K.lookup fBook2 = some ⟨ocBook2, odBook2, .func (PySem.W.fnOf "__len__" "Book.__len__" (defArgs (inClass (top 23) 2)) (defBody (inClass (top 23) 2)) (defScope (inClass (top 23) 2)) .none kVBook2 dcBook2 pmBook2 anBook2 cdBook2 ctBook2), slBook2⟩)
    (cBook2 : PySem.W.codeIn K cdBook2 "Book.__len__" = true)
    (kBook2 : PySem.W.keepIn K (.ref fBook2) = true)
    (iBook2 : PySem.W.isFn K (.ref fBook2) = true)
    (aBook3 : PySem.W.findIn K (.ref CBook) "count" = some (some (.ref fBook3)))
    (lBook3 : K.lookup fBook3 = some ⟨ocBook3, odBook3, .func (PySem.W.fnOf "count" "Book.count" (defArgs (inClass (top 23) 3)) (defBody (inClass (top 23) 3)) (defScope (inClass (top 23) 3)) .none kVBook3 dcBook3 pmBook3 anBook3 cdBook3 ctBook3), slBook3⟩)
    (cBook3 : PySem.W.codeIn K cdBook3 "Book.count" = true)
    (kBook3 : PySem.W.keepIn K (.ref fBook3) = true)
    (iBook3 : PySem.W.isFn K (.ref fBook3) = true)
    (aCWish : PySem.W.nsIn K mainGlobals "Wish" = some (some (.ref CWish)))
    (pgWish : PySem.W.plainGet K CWish Str.empty = true)
    (hdWish : PySem.W.hasDictIn K CWish = true)
    (poWish : PySem.W.plainOver K CWish = true)
    (saWish : PySem.W.findIn K (.ref CWish) "__setattr__" = some (some (.builtin "object.__setattr__")))
    (mkWish : PySem.W.makesIn K CWish = true)
    (kcWish : PySem.W.keepIn K (.ref CWish) = true)
    (ohaWish : PySem.W.findIn K (.ref CWish) "__class__" = some (some (.builtin "object.__class__")))
    (ohmWish : PySem.W.mroIn K CWish (.type "object") = some true)
    (nWish_book : PySem.W.findIn K (.ref CWish) "book" = some none)
    (nWish_tables : PySem.W.findIn K (.ref CWish) "tables" = some none)
    (aWish0 : PySem.W.findIn K (.ref CWish) "__init__" = some (some (.ref fWish0)))
    (lWish0 : K.lookup fWish0 = some ⟨ocWish0, odWish0, .func (PySem.W.fnOf "__init__" "Wish.__init__" (defArgs (inClass (top 37) 0)) (defBody (inClass (top 37) 0)) (defScope (inClass (top 37) 0)) .none kVWish0 dcWish0 pmWish0 anWish0 cdWish0 ctWish0), slWish0⟩)
    (cWish0 : PySem.W.codeIn K cdWish0 "Wish.__init__" = true)
    (kWish0 : PySem.W.keepIn K (.ref fWish0) = true)
    (iWish0 : PySem.W.isFn K (.ref fWish0) = true) :
    ∃ fd : FuncData, (∀ (s : Shared) (v : Value), BindsTo s fd ⟨[v], []⟩ [("script", v)]) ∧ ∀ base : Heap, K.In base → base.Ns mainGlobals mg → FnOk l.prog w K mg base CX0 12 fa fd ["script"] (spLaw K) := by

  have g : ∀ {x : Str} {v : Value}, PySem.W.nsIn K mainGlobals x = some (some v) → mg x = some v := fun h => PySem.W.mg_of X Gn h
  have z : ∀ {x : Str}, PySem.W.nsIn K mainGlobals x = some none → mg x = none := fun h => PySem.W.mg_none_of X Gn h
  have D0 : Def K mg "is_list" (top 10) := ⟨_, _, fun_mk ld0 cd0 kd0, g ad0⟩
  have D1 : Def K mg "is_integer" (top 11) := ⟨_, _, fun_mk ld1 cd1 kd1, g ad1⟩
  have D2 : Def K mg "is_index" (top 12) := ⟨_, _, fun_mk ld2 cd2 kd2, g ad2⟩
  have D3 : Def K mg "are_numbers" (top 13) := ⟨_, _, fun_mk ld3 cd3 kd3, g ad3⟩
  have D4 : Def K mg "is_lot" (top 14) := ⟨_, _, fun_mk ld4 cd4 kd4, g ad4⟩
  have D5 : Def K mg "are_places" (top 15) := ⟨_, _, fun_mk ld5 cd5 kd5, g ad5⟩
  have D6 : Def K mg "product_of" (top 16) := ⟨_, _, fun_mk ld6 cd6 kd6, g ad6⟩
  have D7 : Def K mg "are_sizes" (top 22) := ⟨_, _, fun_mk ld7 cd7 kd7, g ad7⟩
  have D8 : Def K mg "check_places" (top 25) := ⟨_, _, fun_mk ld8 cd8 kd8, g ad8⟩
  have D9 : Def K mg "check_kind" (top 29) := ⟨_, _, fun_mk ld9 cd9 kd9, g ad9⟩
  have D10 : Def K mg "count_rows" (top 30) := ⟨_, _, fun_mk ld10 cd10 kd10, g ad10⟩
  have D11 : Def K mg "rows_at" (top 31) := ⟨_, _, fun_mk ld11 cd11 kd11, g ad11⟩
  have D12 : Def K mg "sign" (top 32) := ⟨_, _, fun_mk ld12 cd12 kd12, g ad12⟩
  have D13 : Def K mg "is_table" (top 33) := ⟨_, _, fun_mk ld13 cd13 kd13, g ad13⟩
  have D14 : Def K mg "are_tables" (top 34) := ⟨_, _, fun_mk ld14 cd14 kd14, g ad14⟩
  have D15 : Def K mg "ranks" (top 38) := ⟨_, _, fun_mk ld15 cd15 kd15, g ad15⟩
  have D16 : Def K mg "unlike_pair" (top 39) := ⟨_, _, fun_mk ld16 cd16 kd16, g ad16⟩
  have D17 : Def K mg "check_count" (top 41) := ⟨_, _, fun_mk ld17 cd17 kd17, g ad17⟩
  have D18 : Def K mg "touching" (top 42) := ⟨_, _, fun_mk ld18 cd18 kd18, g ad18⟩
  have D19 : Def K mg "asked_places" (top 43) := ⟨_, _, fun_mk ld19 cd19 kd19, g ad19⟩
  have D20 : Def K mg "check_asked" (top 44) := ⟨_, _, fun_mk ld20 cd20 kd20, g ad20⟩
  have D21 : Def K mg "left_out" (top 45) := ⟨_, _, fun_mk ld21 cd21 kd21, g ad21⟩
  have D22 : Def K mg "steps_of" (top 46) := ⟨_, _, fun_mk ld22 cd22 kd22, g ad22⟩
  have D23 : Def K mg "moved" (top 47) := ⟨_, _, fun_mk ld23 cd23 kd23, g ad23⟩
  have D24 : Def K mg "worths_by" (top 48) := ⟨_, _, fun_mk ld24 cd24 kd24, g ad24⟩
  have D25 : Def K mg "joined" (top 49) := ⟨_, _, fun_mk ld25 cd25 kd25, g ad25⟩
  have D26 : Def K mg "is_apart" (top 50) := ⟨_, _, fun_mk ld26 cd26 kd26, g ad26⟩
  have D27 : Def K mg "drawn_in" (top 51) := ⟨_, _, fun_mk ld27 cd27 kd27, g ad27⟩
  have D28 : Def K mg "hull" (top 52) := ⟨_, _, fun_mk ld28 cd28 kd28, g ad28⟩
  have D29 : Def K mg "_law_take" (top 56) := ⟨_, _, fun_mk ld29 cd29 kd29, g ad29⟩
  have D30 : Def K mg "_law_mixed" (top 57) := ⟨_, _, fun_mk ld30 cd30 kd30, g ad30⟩
  have D31 : Def K mg "_law_rows" (top 58) := ⟨_, _, fun_mk ld31 cd31 kd31, g ad31⟩
  have D32 : Def K mg "_law_lots" (top 59) := ⟨_, _, fun_mk ld32 cd32 kd32, g ad32⟩
  have D33 : Def K mg "_law_place" (top 60) := ⟨_, _, fun_mk ld33 cd33 kd33, g ad33⟩
  have D34 : Def K mg "_law_worth" (top 61) := ⟨_, _, fun_mk ld34 cd34 kd34, g ad34⟩
  have D35 : Def K mg "_law_sizes" (top 62) := ⟨_, _, fun_mk ld35 cd35 kd35, g ad35⟩
  have D36 : Def K mg "_law_table" (top 63) := ⟨_, _, fun_mk ld36 cd36 kd36, g ad36⟩
  have D37 : Def K mg "_law_blocks" (top 64) := ⟨_, _, fun_mk ld37 cd37 kd37, g ad37⟩
  have D38 : Def K mg "_law_turned" (top 65) := ⟨_, _, fun_mk ld38 cd38 kd38, g ad38⟩
  have D39 : Def K mg "_law_squares" (top 66) := ⟨_, _, fun_mk ld39 cd39 kd39, g ad39⟩
  have D40 : Def K mg "_law_mind" (top 67) := ⟨_, _, fun_mk ld40 cd40 kd40, g ad40⟩
  have D41 : Def K mg "_law_chain" (top 68) := ⟨_, _, fun_mk ld41 cd41 kd41, g ad41⟩
  have D42 : Def K mg "_law_made" (top 69) := ⟨_, _, fun_mk ld42 cd42 kd42, g ad42⟩
  have D43 : Def K mg "_law_put" (top 70) := ⟨_, _, fun_mk ld43 cd43 kd43, g ad43⟩
  have D44 : Def K mg "_law_order" (top 71) := ⟨_, _, fun_mk ld44 cd44 kd44, g ad44⟩
  have D45 : Def K mg "_law_is_apart" (top 72) := ⟨_, _, fun_mk ld45 cd45 kd45, g ad45⟩
  have D46 : Def K mg "_law_scene" (top 73) := ⟨_, _, fun_mk ld46 cd46 kd46, g ad46⟩
  have D47 : Def K mg "_law_meet" (top 74) := ⟨_, _, fun_mk ld47 cd47 kd47, g ad47⟩
  have D48 : Def K mg "_law_within" (top 75) := ⟨_, _, fun_mk ld48 cd48 kd48, g ad48⟩
  have D49 : Def K mg "_law_right" (top 76) := ⟨_, _, fun_mk ld49 cd49 kd49, g ad49⟩
  have D50 : Def K mg "_law_cell" (top 54) := ⟨_, _, fun_mk ld50 cd50 kd50, g ad50⟩
  have D51 : Def K mg "_law_box" (top 55) := ⟨_, _, fun_mk ld51 cd51 kd51, g ad51⟩
  have D52 : Def K mg "law" (top 77) := ⟨_, _, fun_mk ld52 cd52 kd52, g ad52⟩
  have clBook : Cls K CBook := ⟨pgBook, hdBook, poBook, saBook⟩
  have clWish : Cls K CWish := ⟨pgWish, hdWish, poWish, saWish⟩
  have ef : fa = fd52 := by
    have := g ad52
    rw [hfa] at this
    injection this with h; injection h
  subst ef
  refine ⟨PySem.W.fnOf "law" "law" (defArgs (top 77)) (defBody (top 77)) (defScope (top 77)) .none kVd52 dcd52 pmd52 and52 cdd52 ctd52, fun s v => .of_eq rfl, fun base _ _ => ?_⟩
  have EA : All l.prog w K mg base CBook CWish := { b_len := z z_len, b_list := z z_list, b_tuple := z z_tuple, b_sorted := z z_sorted, b_set := z z_set, b_range := z z_range, b_isinstance := z z_isinstance, b_all := z z_all, b_any := z z_any, b_int := z z_int, b_bool := z z_bool, b_sum := z z_sum, b_abs := z z_abs, b_max := z z_max, b_min := z z_min, b_str := z z_str, b_dict := z z_dict, b_enumerate := z z_enumerate, b_zip := z z_zip, g_MOST_PLACES := ⟨_, g g_MOST_PLACES⟩, g_FEWEST_WORDINGS := ⟨_, g g_FEWEST_WORDINGS⟩, g_MOST_WORDINGS := ⟨_, g g_MOST_WORDINGS⟩, g_MOST_TEXTS := ⟨_, g g_MOST_TEXTS⟩, g_MOST_TABLES := ⟨_, g g_MOST_TABLES⟩, g_MOST_WORTHS := ⟨_, g g_MOST_WORTHS⟩, D_is_list := D0, D_is_integer := D1, D_is_index := D2, D_are_numbers := D3, D_is_lot := D4, D_are_places := D5, D_product_of := D6, D_are_sizes := D7, D_check_places := D8, D_check_kind := D9, D_count_rows := D10, D_rows_at := D11, D_sign := D12, D_is_table := D13, D_are_tables := D14, D_ranks := D15, D_unlike_pair := D16, D_check_count := D17, D_touching := D18, D_asked_places := D19, D_check_asked := D20, D_left_out := D21, D_steps_of := D22, D_moved := D23, D_worths_by := D24, D_joined := D25, D_is_apart := D26, D_drawn_in := D27, D_hull := D28, D__law_take := D29, D__law_mixed := D30, D__law_rows := D31, D__law_lots := D32, D__law_place := D33, D__law_worth := D34, D__law_sizes := D35, D__law_table := D36, D__law_blocks := D37, D__law_turned := D38, D__law_squares := D39, D__law_mind := D40, D__law_chain := D41, D__law_made := D42, D__law_put := D43, D__law_order := D44, D__law_is_apart := D45, D__law_scene := D46, D__law_meet := D47, D__law_within := D48, D__law_right := D49, kBook := ⟨clBook, ⟨clBook, ohaBook, ohn, oht, ohmBook⟩, g aCBook, by unfold PySem.W.kitOne; simp⟩, mgBook := g aCBook, nBook_sizes := nBook_sizes, D_Book___init__ := ⟨_, _, (fun_mk lBook0 cBook0 kBook0), ⟨mkBook, aBook0, iBook0, kcBook⟩⟩, D_Book___len__ := ⟨_, _, (fun_mk lBook2 cBook2 kBook2), aBook2, iBook2⟩, D_Book_count := ⟨⟨_, _, (fun_mk lBook3 cBook3 kBook3), ⟨aBook3, iBook3, kBook3⟩⟩⟩, kWish := ⟨clWish, ⟨clWish, ohaWish, ohn, oht, ohmWish⟩, g aCWish, by unfold PySem.W.kitOne; simp⟩, mgWish := g aCWish, nWish_book := nWish_book, nWish_tables := nWish_tables, D_Wish___init__ := ⟨_, _, (fun_mk lWish0 cWish0 kWish0), ⟨mkWish, aWish0, iWish0, kcWish⟩⟩ }
  have cbx := (cal_of D51 (fun _ _ _ _ _ _ us hl => match us, hl with | [_], _ => rfl) fun f fd F => ok_box (P := l.prog) (w := w) (base := base) EA F)
  have ccl := (cal_of D50 (fun _ _ _ _ _ _ us hl => match us, hl with | [_, _], _ => rfl) fun f fd F => ok_cell (P := l.prog) (w := w) (base := base) EA F)
  exact ok_law EA (fun_mk ld52 cd52 kd52) (c_l_right EA) cbx ccl
theorem walk {l : PySem.W.OpenLaw} {q : Program} {loose : List Str} {XP : (Str → Option Value) → Heap → Prop} {YP : World → Heap → Prop} {d : DefRec} {K : Params → PySem.W.Frag} (hn : l.most = some 63) (hdf : d.params.defaults = [])
    (hY : ∀ (w : World) (h : Heap), YP w h → (K w.params).In h)
    (F : ∀ (w : World) (mg : Str → Option Value) (fa : Addr) (h : Heap), (K w.params).In h → h.Ns mainGlobals mg → mg d.name = some (.ref fa) →
      ∃ fd : FuncData, (∀ (s : Shared) (u : Value), BindsTo s fd ⟨[u], []⟩ [("script", u)]) ∧ ∀ base : Heap, (K w.params).In base → base.Ns mainGlobals mg → FnOk l.prog w (K w.params) mg base CX0 12 fa fd ["script"] (spLaw (K w.params))) :
    PySem.W.WalkO q loose XP YP l.row.toRowW d [] (fun f vs => PySem.call f vs) :=
  L2.walk_of (n := 63) (k := 12) (x := "script") (CX := fun _ => CX0) (sp := fun w => spLaw (K w.params)) hn (by decide) hdf ⟨rfl, by decide, by decide⟩ hY F (fun _ _ a ns hl _ hS => ⟨a, ns, rfl, hS, hl, fun _ => rfl⟩) fun _ _ _ _ _ z => z
end K18
open PySem PySem.W PyProof.Rows
set_option maxRecDepth 100000 in
set_option maxHeartbeats 0 in
theorem PySem.Challenge.cw_dealbook_k18_hulls_holds : PySem.Challenge.rw_dealbook_k18_hulls.Holds := by
  w_on; o_law; k_head; (case hw => w_witness2)
  k_fill
  refine K18.walk (l := PySem.Challenge.rw_dealbook_k18_hulls) rfl rfl (fun w h Y => PySem.W.kIn_of Y) ?F
  case F =>
    intro w mg fa h KX G hmg
    refine' K18.all_mk KX G hmg ?ad0 ?ld0 ?cd0 ?kd0 ?ad1 ?ld1 ?cd1 ?kd1 ?ad2 ?ld2 ?cd2 ?kd2 ?ad3 ?ld3 ?cd3 ?kd3 ?ad4 ?ld4 ?cd4 ?kd4 ?ad5 ?ld5 ?cd5 ?kd5 ?ad6 ?ld6 ?cd6 ?kd6 ?ad7 ?ld7 ?cd7 ?kd7 ?ad8 ?ld8 ?cd8 ?kd8 ?ad9 ?ld9 ?cd9 ?kd9 ?ad10 ?ld10 ?cd10 ?kd10 ?ad11 ?ld11 ?cd11 ?kd11 ?ad12 ?ld12 ?cd12 ?kd12 ?ad13 ?ld13 ?cd13 ?kd13 ?ad14 ?ld14 ?cd14 ?kd14 ?ad15 ?ld15 ?cd15 ?kd15 ?ad16 ?ld16 ?cd16 ?kd16 ?ad17 ?ld17 ?cd17 ?kd17 ?ad18 ?ld18 ?cd18 ?kd18 ?ad19 ?ld19 ?cd19 ?kd19 ?ad20 ?ld20 ?cd20 ?kd20 ?ad21 ?ld21 ?cd21 ?kd21 ?ad22 ?ld22 ?cd22 ?kd22 ?ad23 ?ld23 ?cd23 ?kd23 ?ad24 ?ld24 ?cd24 ?kd24 ?ad25 ?ld25 ?cd25 ?kd25 ?ad26 ?ld26 ?cd26 ?kd26 ?ad27 ?ld27 ?cd27 ?kd27 ?ad28 ?ld28 ?cd28 ?kd28 ?ad29 ?ld29 ?cd29 ?kd29 ?ad30 ?ld30 ?cd30 ?kd30 ?ad31 ?ld31 ?cd31 ?kd31 ?ad32 ?ld32 ?cd32 ?kd32 ?ad33 ?ld33 ?cd33 ?kd33 ?ad34 ?ld34 ?cd34 ?kd34 ?ad35 ?ld35 ?cd35 ?kd35 ?ad36 ?ld36 ?cd36 ?kd36 ?ad37 ?ld37 ?cd37 ?kd37 ?ad38 ?ld38 ?cd38 ?kd38 ?ad39 ?ld39 ?cd39 ?kd39 ?ad40 ?ld40 ?cd40 ?kd40 ?ad41 ?ld41 ?cd41 ?kd41 ?ad42 ?ld42 ?cd42 ?kd42 ?ad43 ?ld43 ?cd43 ?kd43 ?ad44 ?ld44 ?cd44 ?kd44 ?ad45 ?ld45 ?cd45 ?kd45 ?ad46 ?ld46 ?cd46 ?kd46 ?ad47 ?ld47 ?cd47 ?kd47 ?ad48 ?ld48 ?cd48 ?kd48 ?ad49 ?ld49 ?cd49 ?kd49 ?ad50 ?ld50 ?cd50 ?kd50 ?ad51 ?ld51 ?cd51 ?kd51 ?ad52 ?ld52 ?cd52 ?kd52 ?z_len ?z_list ?z_tuple ?z_sorted ?z_set ?z_range ?z_isinstance ?z_all ?z_any ?z_int ?z_bool ?z_sum ?z_abs ?z_max ?z_min ?z_str ?z_dict ?z_enumerate ?z_zip ?g_MOST_PLACES ?g_FEWEST_WORDINGS ?g_MOST_WORDINGS ?g_MOST_TEXTS ?g_MOST_TABLES ?g_MOST_WORTHS ?ohn ?oht ?aCBook ?pgBook ?hdBook ?poBook ?saBook ?mkBook ?kcBook ?ohaBook ?ohmBook ?nBook_sizes ?aBook0 ?lBook0 ?cBook0 ?kBook0 ?iBook0 ?aBook2 ?lBook2 ?cBook2 ?kBook2 ?iBook2 ?aBook3 ?lBook3 ?cBook3 ?kBook3 ?iBook3 ?aCWish ?pgWish ?hdWish ?poWish ?saWish ?mkWish ?kcWish ?ohaWish ?ohmWish ?nWish_book ?nWish_tables ?aWish0 ?lWish0 ?cWish0 ?kWish0 ?iWish0
    (case ad0 => k_is)
    (case ld0 => k_is)
    (case cd0 => k_is)
    (case kd0 => k_is)
    (case ad1 => k_is)
    (case ld1 => k_is)
    (case cd1 => k_is)
    (case kd1 => k_is)
    (case ad2 => k_is)
    (case ld2 => k_is)
    (case cd2 => k_is)
    (case kd2 => k_is)
    (case ad3 => k_is)
    (case ld3 => k_is)
    (case cd3 => k_is)
    (case kd3 => k_is)
    (case ad4 => k_is)
    (case ld4 => k_is)
    (case cd4 => k_is)
    (case kd4 => k_is)
    (case ad5 => k_is)
    (case ld5 => k_is)
    (case cd5 => k_is)
    (case kd5 => k_is)
    (case ad6 => k_is)
    (case ld6 => k_is)
    (case cd6 => k_is)
    (case kd6 => k_is)
    (case ad7 => k_is)
    (case ld7 => k_is)
    (case cd7 => k_is)
    (case kd7 => k_is)
    (case ad8 => k_is)
    (case ld8 => k_is)
    (case cd8 => k_is)
    (case kd8 => k_is)
    (case ad9 => k_is)
    (case ld9 => k_is)
    (case cd9 => k_is)
    (case kd9 => k_is)
    (case ad10 => k_is)
    (case ld10 => k_is)
    (case cd10 => k_is)
    (case kd10 => k_is)
    (case ad11 => k_is)
    (case ld11 => k_is)
    (case cd11 => k_is)
    (case kd11 => k_is)
    (case ad12 => k_is)
    (case ld12 => k_is)
    (case cd12 => k_is)
    (case kd12 => k_is)
    (case ad13 => k_is)
    (case ld13 => k_is)
    (case cd13 => k_is)
    (case kd13 => k_is)
    (case ad14 => k_is)
    (case ld14 => k_is)
    (case cd14 => k_is)
    (case kd14 => k_is)
    (case ad15 => k_is)
    (case ld15 => k_is)
    (case cd15 => k_is)
    (case kd15 => k_is)
    (case ad16 => k_is)
    (case ld16 => k_is)
    (case cd16 => k_is)
    (case kd16 => k_is)
    (case ad17 => k_is)
    (case ld17 => k_is)
    (case cd17 => k_is)
    (case kd17 => k_is)
    (case ad18 => k_is)
    (case ld18 => k_is)
    (case cd18 => k_is)
    (case kd18 => k_is)
    (case ad19 => k_is)
    (case ld19 => k_is)
    (case cd19 => k_is)
    (case kd19 => k_is)
    (case ad20 => k_is)
    (case ld20 => k_is)
    (case cd20 => k_is)
    (case kd20 => k_is)
    (case ad21 => k_is)
    (case ld21 => k_is)
    (case cd21 => k_is)
    (case kd21 => k_is)
    (case ad22 => k_is)
    (case ld22 => k_is)
    (case cd22 => k_is)
    (case kd22 => k_is)
    (case ad23 => k_is)
    (case ld23 => k_is)
    (case cd23 => k_is)
    (case kd23 => k_is)
    (case ad24 => k_is)
    (case ld24 => k_is)
    (case cd24 => k_is)
    (case kd24 => k_is)
    (case ad25 => k_is)
    (case ld25 => k_is)
    (case cd25 => k_is)
    (case kd25 => k_is)
    (case ad26 => k_is)
    (case ld26 => k_is)
    (case cd26 => k_is)
    (case kd26 => k_is)
    (case ad27 => k_is)
    (case ld27 => k_is)
    (case cd27 => k_is)
    (case kd27 => k_is)
    (case ad28 => k_is)
    (case ld28 => k_is)
    (case cd28 => k_is)
    (case kd28 => k_is)
    (case ad29 => k_is)
    (case ld29 => k_is)
    (case cd29 => k_is)
    (case kd29 => k_is)
    (case ad30 => k_is)
    (case ld30 => k_is)
    (case cd30 => k_is)
    (case kd30 => k_is)
    (case ad31 => k_is)
    (case ld31 => k_is)
    (case cd31 => k_is)
    (case kd31 => k_is)
    (case ad32 => k_is)
    (case ld32 => k_is)
    (case cd32 => k_is)
    (case kd32 => k_is)
    (case ad33 => k_is)
    (case ld33 => k_is)
    (case cd33 => k_is)
    (case kd33 => k_is)
    (case ad34 => k_is)
    (case ld34 => k_is)
    (case cd34 => k_is)
    (case kd34 => k_is)
    (case ad35 => k_is)
    (case ld35 => k_is)
    (case cd35 => k_is)
    (case kd35 => k_is)
    (case ad36 => k_is)
    (case ld36 => k_is)
    (case cd36 => k_is)
    (case kd36 => k_is)
    (case ad37 => k_is)
    (case ld37 => k_is)
    (case cd37 => k_is)
    (case kd37 => k_is)
    (case ad38 => k_is)
    (case ld38 => k_is)
    (case cd38 => k_is)
    (case kd38 => k_is)
    (case ad39 => k_is)
    (case ld39 => k_is)
    (case cd39 => k_is)
    (case kd39 => k_is)
    (case ad40 => k_is)
    (case ld40 => k_is)
    (case cd40 => k_is)
    (case kd40 => k_is)
    (case ad41 => k_is)
    (case ld41 => k_is)
    (case cd41 => k_is)
    (case kd41 => k_is)
    (case ad42 => k_is)
    (case ld42 => k_is)
    (case cd42 => k_is)
    (case kd42 => k_is)
    (case ad43 => k_is)
    (case ld43 => k_is)
    (case cd43 => k_is)
    (case kd43 => k_is)
    (case ad44 => k_is)
    (case ld44 => k_is)
    (case cd44 => k_is)
    (case kd44 => k_is)
    (case ad45 => k_is)
    (case ld45 => k_is)
    (case cd45 => k_is)
    (case kd45 => k_is)
    (case ad46 => k_is)
    (case ld46 => k_is)
    (case cd46 => k_is)
    (case kd46 => k_is)
    (case ad47 => k_is)
    (case ld47 => k_is)
    (case cd47 => k_is)
    (case kd47 => k_is)
    (case ad48 => k_is)
    (case ld48 => k_is)
    (case cd48 => k_is)
    (case kd48 => k_is)
    (case ad49 => k_is)
    (case ld49 => k_is)
    (case cd49 => k_is)
    (case kd49 => k_is)
    (case ad50 => k_is)
    (case ld50 => k_is)
    (case cd50 => k_is)
    (case kd50 => k_is)
    (case ad51 => k_is)
    (case ld51 => k_is)
    (case cd51 => k_is)
    (case kd51 => k_is)
    (case ad52 => k_is)
    (case ld52 => k_is)
    (case cd52 => k_is)
    (case kd52 => k_is)
    (case z_len => k_is)
    (case z_list => k_is)
    (case z_tuple => k_is)
    (case z_sorted => k_is)
    (case z_set => k_is)
    (case z_range => k_is)
    (case z_isinstance => k_is)
    (case z_all => k_is)
    (case z_any => k_is)
    (case z_int => k_is)
    (case z_bool => k_is)
    (case z_sum => k_is)
    (case z_abs => k_is)
    (case z_max => k_is)
    (case z_min => k_is)
    (case z_str => k_is)
    (case z_dict => k_is)
    (case z_enumerate => k_is)
    (case z_zip => k_is)
    (case g_MOST_PLACES => k_is)
    (case g_FEWEST_WORDINGS => k_is)
    (case g_MOST_WORDINGS => k_is)
    (case g_MOST_TEXTS => k_is)
    (case g_MOST_TABLES => k_is)
    (case g_MOST_WORTHS => k_is)
    (case ohn => k_is)
    (case oht => k_is)
    (case aCBook => k_is)
    (case pgBook => k_is)
    (case hdBook => k_is)
    (case poBook => k_is)
    (case saBook => k_is)
    (case mkBook => k_is)
    (case kcBook => k_is)
    (case ohaBook => k_is)
    (case ohmBook => k_is)
    (case nBook_sizes => k_is)
    (case aBook0 => k_is)
    (case lBook0 => k_is)
    (case cBook0 => k_is)
    (case kBook0 => k_is)
    (case iBook0 => k_is)
    (case aBook2 => k_is)
    (case lBook2 => k_is)
    (case cBook2 => k_is)
    (case kBook2 => k_is)
    (case iBook2 => k_is)
    (case aBook3 => k_is)
    (case lBook3 => k_is)
    (case cBook3 => k_is)
    (case kBook3 => k_is)
    (case iBook3 => k_is)
    (case aCWish => k_is)
    (case pgWish => k_is)
    (case hdWish => k_is)
    (case poWish => k_is)
    (case saWish => k_is)
    (case mkWish => k_is)
    (case kcWish => k_is)
    (case ohaWish => k_is)
    (case ohmWish => k_is)
    (case nWish_book => k_is)
    (case nWish_tables => k_is)
    (case aWish0 => k_is)
    (case lWish0 => k_is)
    (case cWish0 => k_is)
    (case kWish0 => k_is)
    (case iWish0 => k_is)
