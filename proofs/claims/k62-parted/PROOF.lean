import PyProof.Rows.All
import Wide.All
import OpenK.AllK
import Wide.FinOn
import HandS.ForMost
import HandS.TupAny
import HandS.Zip
import HandS.Wide
import HandS.WideBits
import HandS.IsInst
import HandS.TupSets
import HandS.Deep
import HandS.Conv
import PySem.Challenge.RW_relayholds_k62_parted
set_option Elab.async false
set_option linter.all false
set_option maxRecDepth 100000
set_option maxHeartbeats 4000000
/-! G0: what a value stands for, by types; the state of a def's body by slots. -/
namespace G
open PySem PySem.Spec PyProof.Rows L2

abbrev Fg := PySem.W.Frag
def Ex (H H' : Hp) : Prop := ∀ a o, H a = some o → H' a = some o
theorem Ex.refl (H : Hp) : Ex H H := fun _ _ h => h
theorem Ex.trans {H H1 H2 : Hp} (a : Ex H H1) (b : Ex H1 H2) : Ex H H2 := fun x o h => b x o (a x o h)
theorem Ex.new {H : Hp} {p : Addr} {o : HO} (h : H p = none) : Ex H (upd H p o) := fun a u e => by
  rw [upd_ne (ne_of_none e h)]
  exact e
theorem ex_rd {H H' : Hp} {a : Addr} {u : HO} (e : Ex H H') (h : Rd H a u) : Rd H' a u := by
  rcases h with h | ⟨o, h⟩
  · exact Or.inl (e a _ h)
  · exact Or.inr ⟨o, e a _ h⟩
theorem ex_l {K : Fg} {H H' : Hp} {a : Addr} {xs : List V} (e : Ex H H') (h : SqL K H a xs) : SqL K H' a xs := by
  rcases h with h | h
  · exact Or.inl (ex_rd e h)
  · exact Or.inr h
theorem ex_t {K : Fg} {H H' : Hp} {a : Addr} {xs : List V} (e : Ex H H') (h : SqT K H a xs) : SqT K H' a xs := by
  rcases h with h | h
  · exact Or.inl (ex_rd e h)
  · exact Or.inr h
theorem fresh_back {H H' : Hp} {p : Addr} (e : Ex H H') (h : H' p = none) : H p = none := by
  cases h1 : H p with
  | none => rfl
  | some o =>
    rw [e p o h1] at h
    cases h

/-- a tuple that stands, or is written -/
def TupAt (K : Fg) (H : Hp) (a : Addr) (xs : List V) : Prop :=
  H a = some (.tup xs) ∨ ∃ (o : Obj) (its : Array Value) (n : Nat), K.lookup a = some o ∧ o.cls = .type "tuple" ∧ o.data = .seq its n ∧ its.size ≤ sizeLine ∧ Vals xs its.toList
theorem TupAt.sq {K : Fg} {H : Hp} {a : Addr} {xs : List V} (h : TupAt K H a xs) : SqT K H a xs := by
  rcases h with h | h
  · exact .inl (.inl h)
  · exact .inr h
theorem TupAt.mono {K : Fg} {H H' : Hp} {a : Addr} {xs : List V} (e : Ex H H') (h : TupAt K H a xs) : TupAt K H' a xs := by
  rcases h with h | h
  · exact .inl (e _ _ h)
  · exact .inr h
theorem TupAt.ty {K : Fg} {H : Hp} {a : Addr} {xs : List V} (h : TupAt K H a xs) : TyX K H (.ref a) (.type "tuple") := by
  rcases h with h | ⟨o, its, n, h1, h2, _⟩
  · exact .base (.tup h)
  · exact .kTuple h1 h2

/-! ### typed representation -/
class Rp (α : Type) where
  rp : Fg → Hp → V → α → Prop
  mono : ∀ {K : Fg} {F F' : Hp} {v : V} {x : α}, Ex F F' → rp K F v x → rp K F' v x
open Rp (rp)

instance : Rp Int := ⟨fun _ _ v x => v = .int x, fun _ h => h⟩
instance : Rp Bool := ⟨fun _ _ v x => v = .bl x, fun _ h => h⟩
instance : Rp Str := ⟨fun _ _ v x => v = .str x, fun _ h => h⟩
instance : Rp Unit := ⟨fun _ _ v _ => v = .non, fun _ h => h⟩
theorem paired_mono {α : Type} [Rp α] {K : Fg} {F F' : Hp} {vs : List V} {xs : List α} (e : Ex F F') (h : Paired (rp K F) vs xs) : Paired (rp K F') vs xs :=
  Paired.mapP h fun _ _ => Rp.mono e
/-- a tuple of things of one kind -/
structure Tup (α : Type) where
  l : List α
deriving DecidableEq, Inhabited
instance {α : Type} [Rp α] : Rp (Tup α) := ⟨fun K F v x => ∃ a vs, v = .ref a ∧ TupAt K F a vs ∧ vs.length ≤ sizeLine ∧ Paired (rp K F) vs x.l,
  fun e ⟨a, vs, h1, h2, h3, h4⟩ => ⟨a, vs, h1, h2.mono e, h3, paired_mono e h4⟩⟩
/-- a list of things of one kind -/
instance {α : Type} [Rp α] : Rp (List α) := ⟨fun K F v x => ∃ a vs, v = .ref a ∧ F a = some (.lst vs) ∧ vs.length ≤ sizeLine ∧ Paired (rp K F) vs x,
  fun e ⟨a, vs, h1, h2, h3, h4⟩ => ⟨a, vs, h1, e _ _ h2, h3, paired_mono e h4⟩⟩
/-- a pair -/
instance {α β : Type} [Rp α] [Rp β] : Rp (α × β) := ⟨fun K F u x => ∃ a v w, u = .ref a ∧ TupAt K F a [v, w] ∧ rp K F v x.1 ∧ rp K F w x.2,
  fun e ⟨a, v, w, h1, h2, h3, h4⟩ => ⟨a, v, w, h1, h2.mono e, Rp.mono e h3, Rp.mono e h4⟩⟩
/-- none, or a thing that isn't none -/
instance {α : Type} [Rp α] : Rp (Option α) := ⟨fun K F v x => match x with
    | none => v = .non
    | some y => v ≠ .non ∧ rp K F v y,
  fun {K F F' v x} e h => match x, h with
    | none, h => h
    | some _, h => ⟨h.1, Rp.mono e h.2⟩⟩
/-- the script -/
structure Scr where
  l : List Int
instance : Rp Scr := ⟨fun K F v x => ∃ a, v = .ref a ∧ SqL K F a (x.l.map V.int) ∧ x.l.length ≤ 63, fun e ⟨a, h1, h2, h3⟩ => ⟨a, h1, ex_l e h2, h3⟩⟩

/-! ### what is owned: an object of the body's own, that may change -/
class Ow (α : Type) where
  ow : Fg → Hp → HO → α → Prop
  omono : ∀ {K : Fg} {F F' : Hp} {o : HO} {x : α}, Ex F F' → ow K F o x → ow K F' o x
open Ow (ow)
instance {α : Type} [Rp α] : Ow (List α) := ⟨fun K F o x => ∃ vs, o = .lst vs ∧ vs.length ≤ sizeLine ∧ Paired (rp K F) vs x,
  fun e ⟨vs, h1, h2, h3⟩ => ⟨vs, h1, h2, paired_mono e h3⟩⟩

/-! ### slots -/
inductive Slot : Type 1
  | any
  | un
  | fz {α : Type} [Rp α] (x : α)
  | own {α : Type} [Ow α] (a : Addr) (x : α)
def SlotOk (K : Fg) (F H : Hp) (o : Option V) : Slot → Prop
  | .any => True
  | .un => o = none
  | @Slot.fz _ i x => ∃ v, o = some v ∧ i.rp K F v x
  | @Slot.own _ i a x => o = some (.ref a) ∧ F a = none ∧ ∃ ob, H a = some ob ∧ i.ow K F ob x
def Slots (K : Fg) (F H : Hp) : List (Option V) → List Slot → Prop
  | [], [] => True
  | o :: w, s :: M => SlotOk K F H o s ∧ Slots K F H w M
  | _, _ => False
def owns : List Slot → List Addr
  | [] => []
  | @Slot.own _ _ a _ :: M => a :: owns M
  | .any :: M => owns M
  | .un :: M => owns M
  | @Slot.fz _ _ _ :: M => owns M
structure Base where
  F : Hp
  H : Hp
  may : List Addr
structure St (K : Fg) (B : Base) (F H : Hp) (w : List (Option V)) (M : List Slot) : Prop where
  fh : Ex F H
  f0 : Ex B.F F
  nf : ∀ a, B.H a ≠ none → F a = B.F a
  h0 : ∀ a o, B.H a = some o → a ∉ B.may → H a = some o
  tr : ∀ a, B.H a ≠ none → H a ≠ none
  ok : Slots K F H w M
  nd : (owns M).Nodup
  bo : ∀ a ∈ owns M, B.H a = none ∨ a ∈ B.may

section
variable {K : Fg} {B : Base} {F H F' H' : Hp} {w : List (Option V)} {M : List Slot} {o : Option V} {s : Slot}
theorem SlotOk.step (e1 : Ex F F') (e2 : Ex H H') (nf : ∀ a, H a ≠ none → F' a = F a) (h : SlotOk K F H o s) : SlotOk K F' H' o s := by
  cases s with
  | any => trivial
  | un => exact h
  | fz x =>
    obtain ⟨v, h1, h2⟩ := h
    exact ⟨v, h1, Rp.mono e1 h2⟩
  | own a x =>
    obtain ⟨h1, h2, ob, h3, h4⟩ := h
    exact ⟨h1, by rw [nf a (by rw [h3]; simp)]; exact h2, ob, e2 _ _ h3, Ow.omono e1 h4⟩
theorem Slots.step (e1 : Ex F F') (e2 : Ex H H') (nf : ∀ a, H a ≠ none → F' a = F a) : ∀ {w : List (Option V)} {M : List Slot}, Slots K F H w M → Slots K F' H' w M
  | [], [], _ => trivial
  | _ :: _, _ :: _, h => ⟨h.1.step e1 e2 nf, Slots.step e1 e2 nf h.2⟩
  | [], _ :: _, h => h
  | _ :: _, [], h => h
/-- the heap has grown -/
theorem St.step (h : St K B F H w M) (e1 : Ex F F') (e2 : Ex H H') (e3 : Ex F' H') (nf : ∀ a, H a ≠ none → F' a = F a) : St K B F' H' w M where
  fh := e3
  f0 := h.f0.trans e1
  nf := fun a z => (nf a (h.tr a z)).trans (h.nf a z)
  h0 := fun a o z m => e2 _ _ (h.h0 a o z m)
  tr := fun a z y => by
    cases q : H a with
    | none => exact h.tr a z q
    | some o => rw [e2 _ _ q] at y; cases y
  ok := h.ok.step e1 e2 nf
  nd := h.nd
  bo := h.bo
theorem upd_frz {p : Addr} {ob : HO} (hp : H p = none) : ∀ a, H a ≠ none → upd F p ob a = F a := fun a z => upd_ne fun e => z (e ▸ hp)
theorem ex_both {p : Addr} {ob : HO} (e : Ex F H) : Ex (upd F p ob) (upd H p ob) := fun a u z => by
  by_cases q : a = p
  · subst q
    rw [upd_same] at z ⊢
    exact z
  · rw [upd_ne q] at z ⊢
    exact e _ _ z
/-- a new frozen object -/
theorem St.newF (h : St K B F H w M) {p : Addr} {ob : HO} (hp : H p = none) : St K B (upd F p ob) (upd H p ob) w M :=
  h.step (Ex.new (fresh_back h.fh hp)) (Ex.new hp) (ex_both h.fh) (upd_frz hp)
/-- a new object that isn't frozen -/
theorem St.newO (h : St K B F H w M) {p : Addr} {ob : HO} (hp : H p = none) : St K B F (upd H p ob) w M :=
  h.step (Ex.refl F) (Ex.new hp) (h.fh.trans (Ex.new hp)) fun _ _ => rfl
theorem St.push (h : St K B F H w M) {v : V} {α : Type} [Rp α] {x : α} (hx : rp K F v x) : St K B F H (some v :: w) (.fz x :: M) where
  fh := h.fh
  f0 := h.f0
  nf := h.nf
  h0 := h.h0
  tr := h.tr
  ok := ⟨⟨v, rfl, hx⟩, h.ok⟩
  nd := h.nd
  bo := h.bo
theorem St.pushAny (h : St K B F H w M) (o : Option V) : St K B F H (o :: w) (.any :: M) where
  fh := h.fh
  f0 := h.f0
  nf := h.nf
  h0 := h.h0
  tr := h.tr
  ok := ⟨trivial, h.ok⟩
  nd := h.nd
  bo := h.bo
theorem St.own_tracked (h : St K B F H w M) : ∀ a ∈ owns M, F a = none ∧ ∃ ob, H a = some ob := by
  have key : ∀ {w : List (Option V)} {M : List Slot}, Slots K F H w M → ∀ a ∈ owns M, F a = none ∧ ∃ ob, H a = some ob := by
    intro w M
    induction M generalizing w with
    | nil => intro _ a m; cases m
    | cons s M ih =>
      intro hs a m
      cases w with
      | nil => exact hs.elim
      | cons o w =>
        cases s with
        | any => exact ih hs.2 a m
        | un => exact ih hs.2 a m
        | fz x => exact ih hs.2 a m
        | own b x =>
          rcases List.mem_cons.mp m with e | m
          · obtain ⟨h1, h2, ob, h3, h4⟩ := hs.1
            rw [e]
            exact ⟨h2, ob, h3⟩
          · exact ih hs.2 a m
  exact key h.ok
/-- a fresh object, owned -/
theorem St.pushO (h : St K B F H w M) {α : Type} [Ow α] {x : α} {p : Addr} {ob : HO} (hp : H p = none) (hx : ow K F ob x) : St K B F (upd H p ob) (some (.ref p) :: w) (.own p x :: M) := by
  have g := h.newO (ob := ob) hp
  refine ⟨g.fh, g.f0, g.nf, g.h0, g.tr, ⟨⟨rfl, fresh_back h.fh hp, ob, upd_same, hx⟩, g.ok⟩, List.nodup_cons.mpr ⟨fun m => ?_, g.nd⟩, fun a m => ?_⟩
  · obtain ⟨_, ob', z⟩ := h.own_tracked p m
    rw [hp] at z
    cases z
  · rcases List.mem_cons.mp m with e | m
    · left
      rw [e]
      cases q : B.H p with
      | none => rfl
      | some u => exact absurd hp (h.tr p (by rw [q]; simp))
    · exact h.bo a m
theorem owns_tail {s : Slot} {M : List Slot} {a : Addr} (m : a ∈ owns M) : a ∈ owns (s :: M) := by
  cases s with
  | any => exact m
  | un => exact m
  | fz x => exact m
  | own b x => exact List.mem_cons_of_mem _ m
theorem owns_nd {s : Slot} {M : List Slot} (h : (owns (s :: M)).Nodup) : (owns M).Nodup := by
  cases s with
  | any => exact h
  | un => exact h
  | fz x => exact h
  | own b x => exact (List.nodup_cons.mp h).2
theorem St.pop (h : St K B F H (o :: w) (s :: M)) : St K B F H w M :=
  ⟨h.fh, h.f0, h.nf, h.h0, h.tr, h.ok.2, owns_nd h.nd, fun a m => h.bo a (owns_tail m)⟩
theorem Slots.at : ∀ {w : List (Option V)} {M : List Slot} {i : Nat} {s : Slot}, Slots K F H w M → M[i]? = some s → ∃ o, w[i]? = some o ∧ SlotOk K F H o s
  | [], [], _, _, _, e => by simp at e
  | o :: _, t :: _, 0, _, h, e => by
    simp at e
    subst e
    exact ⟨o, rfl, h.1⟩
  | _ :: _, _ :: _, i + 1, _, h, e => by
    obtain ⟨o, h1, h2⟩ := Slots.at (i := i) h.2 (by simpa using e)
    exact ⟨o, by simpa using h1, h2⟩
  | [], _ :: _, _, _, h, _ => h.elim
  | _ :: _, [], _, _, h, _ => h.elim
/-- what stands in a slot -/
theorem St.fz (h : St K B F H w M) (i : Nat) {α : Type} [Rp α] {x : α} {v : V} (hM : M[i]? = some (.fz x)) (hw : w[i]? = some (some v)) : rp K F v x := by
  obtain ⟨o, h1, v', h2, h3⟩ := h.ok.at hM
  rw [hw] at h1
  cases h1
  cases h2
  exact h3
theorem St.fzE (h : St K B F H w M) (i : Nat) {α : Type} [Rp α] {x : α} (hM : M[i]? = some (.fz x)) : ∃ v, w[i]? = some (some v) ∧ rp K F v x := by
  obtain ⟨o, h1, v', h2, h3⟩ := h.ok.at hM
  subst h2
  exact ⟨v', h1, h3⟩
theorem St.own (h : St K B F H w M) (i : Nat) {α : Type} [Ow α] {x : α} {a : Addr} (hM : M[i]? = some (.own a x)) : w[i]? = some (some (.ref a)) ∧ F a = none ∧ ∃ ob, H a = some ob ∧ Ow.ow K F ob x := by
  obtain ⟨o, h1, h2, h3, h4⟩ := h.ok.at hM
  subst h2
  exact ⟨h1, h3, h4⟩
/-- slot by slot weaker -/
def Wk : List Slot → List Slot → Prop
  | [], [] => True
  | s :: M, s' :: M' => (s' = .any ∨ s' = s) ∧ Wk M M'
  | _, _ => False
theorem Slots.weak : ∀ {w : List (Option V)} {M M' : List Slot}, Slots K F H w M → Wk M M' → Slots K F H w M'
  | [], [], [], _, _ => trivial
  | _ :: _, _ :: _, _ :: _, h, k => ⟨by
      rcases k.1 with e | e
      · rw [e]; trivial
      · rw [e]; exact h.1, Slots.weak h.2 k.2⟩
  | [], [], _ :: _, _, k => k.elim
  | [], _ :: _, _, h, _ => h.elim
  | _ :: _, [], _, h, _ => h.elim
  | _ :: _, _ :: _, [], _, k => k.elim
theorem owns_weak : ∀ {M M' : List Slot}, Wk M M' → (owns M').Sublist (owns M)
  | [], [], _ => .slnil
  | s :: M, s' :: M', k => by
    have ih := owns_weak (M := M) (M' := M') k.2
    rcases k.1 with e | e
    · subst e
      cases s with
      | any => exact ih
      | un => exact ih
      | fz x => exact ih
      | own b x => exact .cons _ ih
    · subst e
      cases s' with
      | any => exact ih
      | un => exact ih
      | fz x => exact ih
      | own b x => exact .cons₂ _ ih
  | [], _ :: _, k => k.elim
  | _ :: _, [], k => k.elim
theorem St.weak {M' : List Slot} (h : St K B F H w M) (k : Wk M M') : St K B F H w M' :=
  ⟨h.fh, h.f0, h.nf, h.h0, h.tr, h.ok.weak k, (owns_weak k).nodup h.nd, fun a m => h.bo a ((owns_weak k).subset m)⟩
theorem Slots.set : ∀ {w : List (Option V)} {M : List Slot} (i : Nat) {o : Option V} {s : Slot}, Slots K F H w M → SlotOk K F H o s → Slots K F H (w.set i o) (M.set i s)
  | [], [], _, _, _, _, _ => trivial
  | _ :: _, _ :: _, 0, _, _, h, k => ⟨k, h.2⟩
  | _ :: _, _ :: _, i + 1, _, _, h, k => ⟨h.1, Slots.set i h.2 k⟩
  | [], _ :: _, _, _, _, h, _ => h.elim
  | _ :: _, [], _, _, _, h, _ => h.elim
theorem owns_setF : ∀ {M : List Slot} (i : Nat) {s : Slot}, owns [s] = [] → (owns (M.set i s)).Sublist (owns M)
  | [], _, _, _ => .slnil
  | t :: M, 0, s, e => by
    cases s with
    | own b x => cases e
    | any => cases t <;> first | exact .refl _ | exact .cons _ (.refl _)
    | un => cases t <;> first | exact .refl _ | exact .cons _ (.refl _)
    | fz x => cases t <;> first | exact .refl _ | exact .cons _ (.refl _)
  | t :: M, i + 1, s, e => by
    have ih := owns_setF (M := M) i e
    cases t with
    | any => exact ih
    | un => exact ih
    | fz x => exact ih
    | own b x => exact .cons₂ _ ih
/-- a name is set to what stands on the pile -/
theorem St.setF (h : St K B F H w M) (i : Nat) {α : Type} [Rp α] {x : α} {v : V} (hx : rp K F v x) : St K B F H (w.set i (some v)) (M.set i (.fz x)) :=
  ⟨h.fh, h.f0, h.nf, h.h0, h.tr, h.ok.set i ⟨v, rfl, hx⟩, (owns_setF i rfl).nodup h.nd, fun a m => h.bo a ((owns_setF i rfl).subset m)⟩
theorem St.setAny (h : St K B F H w M) (i : Nat) (o : Option V) : St K B F H (w.set i o) (M.set i .any) :=
  ⟨h.fh, h.f0, h.nf, h.h0, h.tr, h.ok.set i trivial, (owns_setF i rfl).nodup h.nd, fun a m => h.bo a ((owns_setF i rfl).subset m)⟩
end
end G

set_option Elab.async false
set_option linter.all false
set_option maxRecDepth 100000
set_option maxHeartbeats 4000000
/-! G1: names, tests, loops, comprehensions over the state of slots. -/
namespace G
open PySem PySem.Spec PyProof.Rows L2
open Rp (rp)
open Ow (ow)

section
variable {K : Fg} {B : Base} {F H : Hp} {w : List (Option V)} {σ : L2.St} {M : List Slot} {Q : VK}
theorem drop_at {n k : Nat} (hw : w.drop n = σ) : σ[k]? = w[n + k]? := by
  rw [← hw, List.getElem?_drop]
/-! ### names -/
theorem S_var {α : Type} [Rp α] {x : α} (n : Nat) {k : Nat} (h : St K B F H w M) (hw : w.drop n = σ) (hM : M[n + k]? = some (.fz x)) (q : ∀ v, St K B F H (some v :: w) (.fz x :: M) → Q v H) : tVar k σ H Q := by
  obtain ⟨v, h1, h2⟩ := h.fzE (n + k) hM
  exact ⟨v, by rw [drop_at hw]; exact h1, q v (h.push h2)⟩
theorem S_varI {x : Int} (n : Nat) {k : Nat} (h : St K B F H w M) (hw : w.drop n = σ) (hM : M[n + k]? = some (.fz x)) (q : Q (.int x) H) : tVar k σ H Q := by
  obtain ⟨v, h1, h2⟩ := h.fzE (n + k) hM
  have e : v = .int x := h2
  subst e
  exact ⟨_, by rw [drop_at hw]; exact h1, q⟩
theorem S_varB {x : Bool} (n : Nat) {k : Nat} (h : St K B F H w M) (hw : w.drop n = σ) (hM : M[n + k]? = some (.fz x)) (q : Q (.bl x) H) : tVar k σ H Q := by
  obtain ⟨v, h1, h2⟩ := h.fzE (n + k) hM
  have e : v = .bl x := h2
  subst e
  exact ⟨_, by rw [drop_at hw]; exact h1, q⟩
theorem S_varS {x : Str} (n : Nat) {k : Nat} (h : St K B F H w M) (hw : w.drop n = σ) (hM : M[n + k]? = some (.fz x)) (q : Q (.str x) H) : tVar k σ H Q := by
  obtain ⟨v, h1, h2⟩ := h.fzE (n + k) hM
  have e : v = .str x := h2
  subst e
  exact ⟨_, by rw [drop_at hw]; exact h1, q⟩
theorem S_varO {α : Type} [Ow α] {x : α} {a : Addr} (n : Nat) {k : Nat} (h : St K B F H w M) (hw : w.drop n = σ) (hM : M[n + k]? = some (.own a x)) (q : Q (.ref a) H) : tVar k σ H Q := by
  obtain ⟨h1, _⟩ := h.own (n + k) hM
  exact ⟨_, by rw [drop_at hw]; exact h1, q⟩
end

/-! ### partial things -/
theorem ob {α β : Type} {m : Option α} {f : α → Option β} {y : β} (h : m.bind f = some y) : ∃ x, m = some x ∧ f x = some y := by
  cases m with
  | none => cases h
  | some x => exact ⟨x, rfl, h⟩
theorem oite {α : Type} {c : Bool} {a b : Option α} {y : α} (h : (if c = true then a else b) = some y) : (c = true ∧ a = some y) ∨ (c = false ∧ b = some y) := by
  cases c with
  | true => exact .inl ⟨rfl, h⟩
  | false => exact .inr ⟨rfl, h⟩
theorem S_ite {ρ : Type} {c : Bool} {a b : Option ρ} {y : ρ} {P1 P2 : Prop} (hm : (if c = true then a else b) = some y) (h1 : c = true → a = some y → P1) (h2 : c = false → b = some y → P2) : if c = true then P1 else P2 := by
  cases c with
  | true => exact h1 rfl hm
  | false => exact h2 rfl hm
theorem S_iteP {c : Bool} {P1 P2 : Prop} (h1 : c = true → P1) (h2 : c = false → P2) : if c = true then P1 else P2 := by
  cases c with
  | true => exact h1 rfl
  | false => exact h2 rfl
def guardO (c : Bool) : Option Unit := if c then some () else none
theorem guardO_some {c : Bool} {u : Unit} (h : guardO c = some u) : c = true := by
  cases c with
  | true => rfl
  | false => cases h

/-! ### what a loop walks -/
/-- a list that is to be read: frozen, or one's own -/
def ViewL {α : Type} [Rp α] (K : Fg) (F H : Hp) (v : V) (xs : List α) : Prop := ∃ a vs, v = .ref a ∧ H a = some (.lst vs) ∧ vs.length ≤ sizeLine ∧ Paired (rp K F) vs xs
section
variable {K : Fg} {B : Base} {F H : Hp} {w : List (Option V)} {M : List Slot} {α : Type} [Rp α]
theorem view_fz {v : V} {xs : List α} (e : Ex F H) (h : rp K F v xs) : ViewL K F H v xs := by
  obtain ⟨a, vs, h1, h2, h3, h4⟩ := h
  exact ⟨a, vs, h1, e _ _ h2, h3, h4⟩
theorem St.vF (h : St K B F H w M) (i : Nat) {xs : List α} {v : V} (hM : M[i]? = some (.fz xs)) (hw : w[i]? = some (some v)) : ViewL K F H v xs := view_fz h.fh (h.fz i hM hw)
theorem St.vO (h : St K B F H w M) (i : Nat) {xs : List α} {a : Addr} (hM : M[i]? = some (.own a xs)) : ViewL K F H (.ref a) xs := by
  obtain ⟨_, _, ob, h1, vs, rfl, h3, h4⟩ := h.own i hM
  exact ⟨a, vs, rfl, h1, h3, h4⟩
end
/-- under P the iterator J yields ys, one behind another -/
def Yields {β : Type} [Rp β] (K : Fg) (J : It) (P : Hp → Hp → Prop) (ys : List β) : Prop :=
  ∀ i F H, P F H → Ex F H → (ys.length ≤ i → J.stop i H) ∧
    ∀ y, ys[i]? = some y → J.go i H ∧ ∀ v H', J.yld i H v H' → ∃ F', Ex F F' ∧ Ex F' H' ∧ Ex H H' ∧ (∀ a, H a ≠ none → F' a = F a) ∧ rp K F' v y
theorem Paired.at {α β : Type} {R : α → β → Prop} : ∀ {xs : List α} {ys : List β} {i : Nat} {y : β}, Paired R xs ys → ys[i]? = some y → ∃ x, xs[i]? = some x ∧ R x y
  | _, _, _, _, .nil, e => by simp at e
  | _, _, 0, y, .cons r _, e => by
    simp at e
    subst e
    exact ⟨_, rfl, r⟩
  | _, _, i + 1, y, .cons _ t, e => by
    obtain ⟨x, h1, h2⟩ := Paired.at (i := i) t (by simpa using e)
    exact ⟨x, by simpa using h1, h2⟩
section
variable {K : Fg} {α : Type} [Rp α]
/-- a list, frozen or one's own -/
theorem yields_list (a : Addr) (xs : List α) : Yields K (Itl K a) (fun F H => ViewL K F H (.ref a) xs) xs := fun i F H p e => by
  obtain ⟨a', vs, h1, h2, h3, hq⟩ := p
  cases h1
  have hL : SqL K H a vs := .inl (.inl h2)
  have hl : vs.length = xs.length := Paired.length hq
  refine ⟨fun hi => ⟨vs, hL, by omega⟩, fun y hyi => ?_⟩
  obtain ⟨v, g1, g2⟩ := Paired.at hq hyi
  refine ⟨⟨vs, v, hL, g1⟩, fun v' H' z => ?_⟩
  obtain ⟨e1, e2⟩ := z
  subst e1
  have e2 := e2 vs hL
  rw [g1] at e2
  cases e2
  exact ⟨F, Ex.refl F, e, Ex.refl _, fun _ _ => rfl, g2⟩
/-- a frozen tuple -/
theorem yields_tup (a : Addr) (xs : Tup α) : Yields K (Itt K a) (fun F _ => rp K F (.ref a) xs) xs.l := fun i F H p e => by
  obtain ⟨a', vs, h1, h2, h3, hq⟩ := p
  cases h1
  have hL : SqT K H a vs := ex_t e h2.sq
  have hl : vs.length = xs.l.length := Paired.length hq
  refine ⟨fun hi => ⟨vs, hL, by omega⟩, fun y hyi => ?_⟩
  obtain ⟨v, g1, g2⟩ := Paired.at hq hyi
  refine ⟨⟨vs, v, hL, g1⟩, fun v' H' z => ?_⟩
  obtain ⟨e1, e2⟩ := z
  subst e1
  have e2 := e2 vs hL
  rw [g1] at e2
  cases e2
  exact ⟨F, Ex.refl F, e, Ex.refl _, fun _ _ => rfl, g2⟩
end
theorem yields_range {K : Fg} (lo : Int) (n : Nat) : Yields K (Itr lo n) (fun _ _ => True) ((List.range n).map fun (i : Nat) => lo + (i : Int)) := fun i F H _ e => by
  refine ⟨fun hi => ?_, fun y hy => ?_⟩
  · have : n ≤ i := by simpa using hi
    exact this
  · rw [List.getElem?_map] at hy
    have hi : i < n := by
      have := hy
      rcases Nat.lt_or_ge i n with h | h
      · exact h
      · rw [List.getElem?_eq_none (by simpa using h)] at this
        cases this
    rw [List.getElem?_range hi] at hy
    have ey : lo + (i : Int) = y := Option.some.inj hy
    refine ⟨hi, fun v H' z => ?_⟩
    obtain ⟨e1, e2⟩ := z
    subst e1
    exact ⟨F, Ex.refl F, e, Ex.refl _, fun _ _ => rfl, by rw [← ey]; exact e2⟩
theorem getElem?_zip {α β : Type} : ∀ (xs : List α) (ys : List β) (i : Nat) (p : α × β), (xs.zip ys)[i]? = some p → xs[i]? = some p.1 ∧ ys[i]? = some p.2
  | [], _, _, _, h => by simp at h
  | _ :: _, [], _, _, h => by simp at h
  | x :: xs, y :: ys, 0, p, h => by
    simp at h
    subst h
    exact ⟨rfl, rfl⟩
  | x :: xs, y :: ys, i + 1, p, h => by
    have := getElem?_zip xs ys i p (by simpa using h)
    exact ⟨by simpa using this.1, by simpa using this.2⟩
section
variable {K : Fg} {α β : Type} [Rp α] [Rp β]
theorem pair_new {F H H' : Hp} {T : Addr} {v u v' : V} {y : α × β} (e : Ex F H) (e1 : v' = .ref T) (e2 : H T = none) (e3 : H' = upd H T (.tup [v, u])) (h2 : rp K F v y.1) (h4 : rp K F u y.2) :
    ∃ F', Ex F F' ∧ Ex F' H' ∧ Ex H H' ∧ (∀ a, H a ≠ none → F' a = F a) ∧ rp K F' v' y := by
  subst e1 e3
  have en : Ex F (upd F T (.tup [v, u])) := Ex.new (fresh_back e e2)
  exact ⟨upd F T (.tup [v, u]), en, ex_both e, Ex.new e2, upd_frz e2, T, v, u, rfl, .inl upd_same, Rp.mono en h2, Rp.mono en h4⟩
theorem yields_zipT (a b : Addr) (xs : Tup α) (ys : Tup β) : Yields K (RZ.ItzT K a b) (fun F _ => rp K F (.ref a) xs ∧ rp K F (.ref b) ys) (xs.l.zip ys.l) := fun i F H p e => by
  obtain ⟨⟨a', vs, h1, h2, h3, hq⟩, b', us, k1, k2, k3, kq⟩ := p
  cases h1
  cases k1
  have hL : SqT K H a vs := ex_t e h2.sq
  have kL : SqT K H b us := ex_t e k2.sq
  have hl : vs.length = xs.l.length := Paired.length hq
  have kl : us.length = ys.l.length := Paired.length kq
  refine ⟨fun hi => ⟨vs, us, hL, kL, by rw [List.length_zip] at hi; omega⟩, fun y hyi => ?_⟩
  obtain ⟨g1, g2⟩ := getElem?_zip xs.l ys.l i y hyi
  obtain ⟨v, q1, q2⟩ := Paired.at hq g1
  obtain ⟨u, q3, q4⟩ := Paired.at kq g2
  refine ⟨⟨vs, us, v, u, hL, kL, q1, q3⟩, fun v' H' z => ?_⟩
  obtain ⟨T, x, z', e1, e2, e3, e4, e5⟩ := z
  have e4 := e4 vs hL
  have e5 := e5 us kL
  rw [q1] at e4
  rw [q3] at e5
  cases e4
  cases e5
  exact pair_new e e1 e2 e3 q2 q4
theorem yields_zipL (a b : Addr) (xs : List α) (ys : List β) : Yields K (Itz K a b) (fun F H => ViewL K F H (.ref a) xs ∧ ViewL K F H (.ref b) ys) (xs.zip ys) := fun i F H p e => by
  obtain ⟨⟨a', vs, h1, h2, h3, hq⟩, b', us, k1, k2, k3, kq⟩ := p
  cases h1
  cases k1
  have hL : SqL K H a vs := .inl (.inl h2)
  have kL : SqL K H b us := .inl (.inl k2)
  have hl : vs.length = xs.length := Paired.length hq
  have kl : us.length = ys.length := Paired.length kq
  refine ⟨fun hi => ⟨vs, us, hL, kL, by rw [List.length_zip] at hi; omega⟩, fun y hyi => ?_⟩
  obtain ⟨g1, g2⟩ := getElem?_zip xs ys i y hyi
  obtain ⟨v, q1, q2⟩ := Paired.at hq g1
  obtain ⟨u, q3, q4⟩ := Paired.at kq g2
  refine ⟨⟨vs, us, v, u, hL, kL, q1, q3⟩, fun v' H' z => ?_⟩
  obtain ⟨T, x, z', e1, e2, e3, e4, e5⟩ := z
  have e4 := e4 vs hL
  have e5 := e5 us kL
  rw [q1] at e4
  rw [q3] at e5
  cases e4
  cases e5
  exact pair_new e e1 e2 e3 q2 q4
def enumFrom {α : Type} (i : Nat) : List α → List (Int × α)
  | [] => []
  | x :: xs => ((i : Int), x) :: enumFrom (i + 1) xs
theorem enumFrom_len {α : Type} : ∀ (xs : List α) (i : Nat), (enumFrom i xs).length = xs.length
  | [], _ => rfl
  | _ :: xs, i => by show (enumFrom (i + 1) xs).length + 1 = xs.length + 1; rw [enumFrom_len xs (i + 1)]
theorem enumFrom_at {α : Type} : ∀ (xs : List α) (j i : Nat) (y : Int × α), (enumFrom j xs)[i]? = some y → y.1 = ((j + i : Nat) : Int) ∧ xs[i]? = some y.2
  | [], _, _, _, h => by simp [enumFrom] at h
  | x :: xs, j, 0, y, h => by
    have e : ((j : Int), x) = y := Option.some.inj h
    subst e
    exact ⟨rfl, rfl⟩
  | x :: xs, j, i + 1, y, h => by
    obtain ⟨h1, h2⟩ := enumFrom_at xs (j + 1) i y (by simpa [enumFrom] using h)
    exact ⟨by rw [h1]; congr 1; omega, by simpa using h2⟩
theorem yields_enum (a : Addr) (xs : List α) : Yields K (Ite K a) (fun F H => ViewL K F H (.ref a) xs) (enumFrom 0 xs) := fun i F H p e => by
  obtain ⟨a', vs, h1, h2, h3, hq⟩ := p
  cases h1
  have hL : SqL K H a vs := .inl (.inl h2)
  have hl : vs.length = xs.length := Paired.length hq
  refine ⟨fun hi => ⟨vs, hL, by rw [enumFrom_len] at hi; omega⟩, fun y hyi => ?_⟩
  obtain ⟨g1, g2⟩ := enumFrom_at xs 0 i y hyi
  obtain ⟨v, q1, q2⟩ := Paired.at hq g2
  refine ⟨⟨vs, v, hL, q1⟩, fun v' H' z => ?_⟩
  obtain ⟨T, x, e1, e2, e3, e4⟩ := z
  have e4 := e4 vs hL
  rw [q1] at e4
  cases e4
  exact pair_new e e1 e2 e3 (by rw [g1]; show V.int _ = V.int _; congr 1; omega) q2
end

/-! ### loops -/
inductive Out (τ ρ : Type) where
  | nx (s : τ) | rt (r : ρ) | bk (s : τ)
def forO {α τ ρ : Type} (b : α → τ → Option (Out τ ρ)) : List α → τ → Option (Out τ ρ)
  | [], s => some (.nx s)
  | x :: xs, s => match b x s with
    | none => none
    | some (.nx s') => forO b xs s'
    | some (.rt r) => some (.rt r)
    | some (.bk s') => some (.nx s')
def foldO {α τ : Type} (b : α → τ → Option τ) : List α → τ → Option τ
  | [], s => some s
  | x :: xs, s => (b x s).bind fun s' => foldO b xs s'
/-- the goal of a for, its iterator come -/
def ForG (J : It) (g : TG) (tb : TS) (D : Ends) (σ : L2.St) (H1 : Hp) : Prop := ∃ W : Nat → Nat → L2.St → Hp → Prop, (∃ m, W 0 m σ H1) ∧ ∀ i m σ H, W i m σ H →
  (J.stop i H ∧ D.nx σ H) ∨ (J.go i H ∧ ∃ N : L2.St → Hp → Prop, (∀ σ' H', N σ' H' → ∃ m', m' < m ∧ W (i + 1) m' σ' H') ∧ ∀ x H', J.yld i H x H' → g x σ H' fun σ2 H2 => tb { D with nx := N, ct := N, bk := D.nx } σ2 H2)
section
variable {K : Fg} {B : Base} {F H : Hp} {σ : L2.St} {ts : List (Option V)} {TM : List Slot} {β τ ρ : Type} [Rp β] {J : It} {P : Hp → Hp → Prop} {ys : List β} {g : TG} {tb : TS} {D : Ends}
theorem drop_cons {xs : List β} {i : Nat} (hi : i < xs.length) : xs.drop i = xs[i] :: xs.drop (i + 1) := List.drop_eq_getElem_cons hi
theorem S_fold (Mf : τ → List Slot) {b : β → τ → Option τ} {s0 s1 : τ} (Y : Yields K J P ys) (hm : foldO b ys s0 = some s1) (h : St K B F H (ts ++ σ) (TM ++ Mf s0))
    (hP : ∀ s σ F H, St K B F H (ts ++ σ) (TM ++ Mf s) → P F H)
    (body : ∀ (i : Nat) (x : β) (s s' : τ) v σ F H (D' : Ends), ys[i]? = some x → b x s = some s' → St K B F H (some v :: (ts ++ σ)) (.fz x :: (TM ++ Mf s)) → (∀ σ' F' H', St K B F' H' (ts ++ σ') (TM ++ Mf s') → D'.nx σ' H') → g v σ H fun σ2 H2 => tb D' σ2 H2)
    (hend : ∀ σ F H, St K B F H (ts ++ σ) (TM ++ Mf s1) → D.nx σ H) : ForG J g tb D σ H := by
  refine ⟨fun i m σ H => m = ys.length - i ∧ i ≤ ys.length ∧ ∃ F s, St K B F H (ts ++ σ) (TM ++ Mf s) ∧ foldO b (ys.drop i) s = some s1, ⟨ys.length, by omega, Nat.zero_le _, F, s0, h, hm⟩, ?_⟩
  rintro i m σ H ⟨rfl, hi, F, s, h, hm⟩
  have Yi := Y i F H (hP s σ F H h) h.fh
  by_cases hlt : i < ys.length
  · have hx : ys[i]? = some ys[i] := List.getElem?_eq_getElem hlt
    obtain ⟨go, yl⟩ := Yi.2 _ hx
    rw [drop_cons hlt] at hm
    obtain ⟨s', hs', hm'⟩ := ob hm
    refine .inr ⟨go, fun σ' H' => ∃ F', St K B F' H' (ts ++ σ') (TM ++ Mf s'), fun σ' H' ⟨F', h'⟩ => ⟨ys.length - (i + 1), by omega, rfl, hlt, F', s', h', hm'⟩, fun v H' y => ?_⟩
    obtain ⟨F', e1, e2, e3, e4, e5⟩ := yl v H' y
    exact body i _ s s' v σ F' H' _ hx hs' ((h.step e1 e3 e2 e4).push e5) fun σ' F'' H'' h'' => ⟨F'', h''⟩
  · have e : i = ys.length := by omega
    subst e
    rw [List.drop_length] at hm
    have es : s = s1 := Option.some.inj hm
    subst es
    exact .inl ⟨Yi.1 (Nat.le_refl _), hend σ F H h⟩
theorem S_forO (Mf : τ → List Slot) {b : β → τ → Option (Out τ ρ)} {s0 : τ} {o : Out τ ρ} {R : ρ → V → Hp → Prop} (Y : Yields K J P ys) (hm : forO b ys s0 = some o) (h : St K B F H (ts ++ σ) (TM ++ Mf s0))
    (hP : ∀ s σ F H, St K B F H (ts ++ σ) (TM ++ Mf s) → P F H)
    (body : ∀ (i : Nat) (x : β) (s : τ) o' v σ F H (D' : Ends), ys[i]? = some x → b x s = some o' → St K B F H (some v :: (ts ++ σ)) (.fz x :: (TM ++ Mf s)) →
      (∀ s' σ' F' H', o' = .nx s' → St K B F' H' (ts ++ σ') (TM ++ Mf s') → D'.nx σ' H') → (∀ s' σ' F' H', o' = .nx s' → St K B F' H' (ts ++ σ') (TM ++ Mf s') → D'.ct σ' H') →
      (∀ s' σ' F' H', o' = .bk s' → St K B F' H' (ts ++ σ') (TM ++ Mf s') → D'.bk σ' H') → (∀ r u H', o' = .rt r → R r u H' → D'.rt u H') → g v σ H fun σ2 H2 => tb D' σ2 H2)
    (hend : ∀ s1 σ F H, o = .nx s1 → St K B F H (ts ++ σ) (TM ++ Mf s1) → D.nx σ H) (hrt : ∀ r u H', o = .rt r → R r u H' → D.rt u H') : ForG J g tb D σ H := by
  refine ⟨fun i m σ H => m = ys.length - i ∧ i ≤ ys.length ∧ ∃ F s, St K B F H (ts ++ σ) (TM ++ Mf s) ∧ forO b (ys.drop i) s = some o, ⟨ys.length, by omega, Nat.zero_le _, F, s0, h, hm⟩, ?_⟩
  rintro i m σ H ⟨rfl, hi, F, s, h, hm⟩
  have Yi := Y i F H (hP s σ F H h) h.fh
  by_cases hlt : i < ys.length
  · have hx : ys[i]? = some ys[i] := List.getElem?_eq_getElem hlt
    obtain ⟨go, yl⟩ := Yi.2 _ hx
    rw [drop_cons hlt] at hm
    unfold forO at hm
    cases hb : b ys[i] s with
    | none => rw [hb] at hm; cases hm
    | some o' =>
      rw [hb] at hm
      refine .inr ⟨go, fun σ' H' => ∃ F' s', o' = .nx s' ∧ St K B F' H' (ts ++ σ') (TM ++ Mf s'), fun σ' H' ⟨F', s', eo, h'⟩ => ⟨ys.length - (i + 1), by omega, rfl, hlt, F', s', h', by subst eo; exact hm⟩, fun v H' y => ?_⟩
      obtain ⟨F', e1, e2, e3, e4, e5⟩ := yl v H' y
      exact body i _ s o' v σ F' H' _ hx hb ((h.step e1 e3 e2 e4).push e5) (fun s' σ' F'' H'' eo h'' => ⟨F'', s', eo, h''⟩) (fun s' σ' F'' H'' eo h'' => ⟨F'', s', eo, h''⟩)
        (fun s' σ' F'' H'' eo h'' => hend s' σ' F'' H'' (by subst eo; exact (Option.some.inj hm).symm) h'') (fun r u H'' eo q => hrt r u H'' (by subst eo; exact (Option.some.inj hm).symm) q)
  · have e : i = ys.length := by omega
    subst e
    rw [List.drop_length] at hm
    exact .inl ⟨Yi.1 (Nat.le_refl _), hend s σ F H (Option.some.inj hm).symm h⟩
end

/-! ### comprehensions -/
def compS {α β τ : Type} (f : α → τ → Option (Option β × τ)) : List α → τ → Option (List β × τ)
  | [], s => some ([], s)
  | x :: xs, s => (f x s).bind fun p => (compS f xs p.2).bind fun q => some (p.1.toList ++ q.1, q.2)
def mapO {α β : Type} (f : α → Option β) : List α → Option (List β)
  | [] => some []
  | x :: xs => (f x).bind fun y => (mapO f xs).bind fun ys => some (y :: ys)
def selO {α β : Type} (p : α → Option Bool) (f : α → Option β) : List α → Option (List β)
  | [] => some []
  | x :: xs => (p x).bind fun c => if c = true then (f x).bind fun y => (selO p f xs).bind fun ys => some (y :: ys) else selO p f xs
def mapS {α β τ : Type} (f : α → τ → Option (β × τ)) : List α → τ → Option (List β × τ)
  | [], s => some ([], s)
  | x :: xs, s => (f x s).bind fun p => (mapS f xs p.2).bind fun q => some (p.1 :: q.1, q.2)
theorem compS_map {α β : Type} (f : α → Option β) : ∀ xs : List α, compS (τ := Unit) (fun x s => (f x).bind fun y => some (some y, s)) xs () = (mapO f xs).bind fun ys => some (ys, ())
  | [] => rfl
  | x :: xs => by
    have ih := compS_map f xs
    show ((f x).bind fun y => some (some y, ())).bind _ = ((f x).bind _).bind _
    cases f x with
    | none => rfl
    | some y =>
      show (compS _ xs ()).bind _ = ((mapO f xs).bind _).bind _
      rw [ih]
      cases mapO f xs <;> rfl
theorem compS_sel {α β : Type} (p : α → Option Bool) (f : α → Option β) : ∀ xs : List α, compS (τ := Unit) (fun x s => (p x).bind fun c => if c = true then (f x).bind fun y => some (some y, s) else some (none, s)) xs () = (selO p f xs).bind fun ys => some (ys, ())
  | [] => rfl
  | x :: xs => by
    have ih := compS_sel p f xs
    show ((p x).bind _).bind _ = ((p x).bind _).bind _
    cases p x with
    | none => rfl
    | some c =>
      cases c with
      | false =>
        show (compS _ xs ()).bind _ = (selO p f xs).bind _
        rw [ih]
        cases selO p f xs <;> rfl
      | true =>
        show ((f x).bind fun y => some (some y, ())).bind _ = ((f x).bind _).bind _
        cases f x with
        | none => rfl
        | some y =>
          show (compS _ xs ()).bind _ = ((selO p f xs).bind _).bind _
          rw [ih]
          cases selO p f xs <;> rfl
theorem compS_mapS {α β τ : Type} (f : α → τ → Option (β × τ)) : ∀ (xs : List α) (s : τ), compS (fun x s => (f x s).bind fun p => some (some p.1, p.2)) xs s = mapS f xs s
  | [], _ => rfl
  | x :: xs, s => by
    show ((f x s).bind fun p => some (some p.1, p.2)).bind _ = (f x s).bind _
    cases f x s with
    | none => rfl
    | some p =>
      show (compS _ xs p.2).bind _ = (mapS f xs p.2).bind _
      rw [compS_mapS f xs p.2]
      rfl
/-- the goal of a comprehension, its iterator come -/
def LcG (J : It) (g : TG) (tt : TT) (te : TE) (vs : List Nat) (σ : L2.St) (H1 : Hp) (Q : VK) : Prop := ∀ D, H1 D = none → ∃ W : Nat → Nat → Hp → Prop, (∃ m, W 0 m (upd H1 D (.lst []))) ∧ ∀ i m H, W i m H →
  (J.stop i H ∧ Q (.ref D) H) ∨ (J.go i H ∧ ∃ Nx : Hp → Prop, (∀ H', Nx H' → ∃ m', m' < m ∧ W (i + 1) m' H') ∧ ∀ x H', J.yld i H x H' → g x (wipe σ vs) H' fun σ2 H2 => wipe σ2 vs = wipe σ vs ∧ tt σ2 H2 fun b H3 =>
    if b = true then te σ2 H3 fun y H4 => ∃ acc, H4 D = some (.lst acc) ∧ acc.length < sizeLine ∧ Nx (upd H4 D (.lst (acc ++ [y]))) else Nx H3)
/-- what the element's value goes to -/
def LcE (D : Addr) (Nx : Hp → Prop) : VK := fun y H4 => ∃ acc, H4 D = some (.lst acc) ∧ acc.length < sizeLine ∧ Nx (upd H4 D (.lst (acc ++ [y])))
section
variable {K : Fg} {B : Base} {F H : Hp} {w w' : List (Option V)} {M : List Slot}
theorem Slots.rew : ∀ {w w' : List (Option V)} {M : List Slot}, Slots K F H w M → w'.length = w.length → (∀ i : Nat, M[i]? = some Slot.any ∨ w'[i]? = w[i]?) → Slots K F H w' M
  | [], [], [], _, _, _ => trivial
  | o :: w, o' :: w', s :: M, h, hl, k => by
    refine ⟨?_, Slots.rew h.2 (by simpa using hl) fun i => by have := k (i + 1); simpa using this⟩
    have k0 := k 0
    simp at k0
    rcases k0 with e | e
    · rw [e]; trivial
    · rw [e]; exact h.1
  | [], _ :: _, _, _, hl, _ => by simp at hl
  | _ :: _, [], _, _, hl, _ => by simp at hl
  | [], [], _ :: _, h, _, _ => h.elim
  | _ :: _, _ :: _, [], h, _, _ => h.elim
theorem St.rew (h : St K B F H w M) (hl : w'.length = w.length) (k : ∀ i : Nat, M[i]? = some Slot.any ∨ w'[i]? = w[i]?) : St K B F H w' M :=
  ⟨h.fh, h.f0, h.nf, h.h0, h.tr, h.ok.rew hl k, h.nd, h.bo⟩
theorem wipe_at (σ : L2.St) : ∀ (vs : List Nat) (i : Nat), i ∉ vs → (wipe σ vs)[i]? = σ[i]?
  | [], _, _ => rfl
  | v :: vs, i, h => by
    unfold wipe
    rw [List.getElem?_set_ne (fun e => h (by rw [e]; exact List.mem_cons_self ..)), wipe_at σ vs i (fun m => h (List.mem_cons_of_mem _ m))]
/-- slots that a comprehension's names may have -/
def Free (M : List Slot) : List Nat → Prop
  | [] => True
  | v :: vs => M[v]? = some .any ∧ Free M vs
theorem Free.at {M : List Slot} : ∀ {vs : List Nat} {i : Nat}, Free M vs → i ∈ vs → M[i]? = some .any
  | v :: vs, i, h, m => by
    rcases List.mem_cons.mp m with e | m
    · rw [e]; exact h.1
    · exact Free.at h.2 m
  | [], _, _, m => by cases m
theorem wipe_rew {ts : List (Option V)} {TM : List Slot} {σ : L2.St} {vs : List Nat} (hTM : TM.length = ts.length) (hf : Free M vs) (i : Nat) : (TM ++ M)[i]? = some .any ∨ (ts ++ wipe σ vs)[i]? = (ts ++ σ)[i]? := by
  by_cases hi : i < ts.length
  · right
    rw [List.getElem?_append_left hi, List.getElem?_append_left hi]
  · have hi' : ts.length ≤ i := by omega
    by_cases hm : i - ts.length ∈ vs
    · left
      rw [List.getElem?_append_right (by omega), hTM]
      exact hf.at hm
    · right
      rw [List.getElem?_append_right hi', List.getElem?_append_right hi', wipe_at σ vs _ hm]
end
theorem slots_len {K : Fg} {F H : Hp} : ∀ {w : List (Option V)} {M : List Slot}, Slots K F H w M → M.length = w.length
  | [], [], _ => rfl
  | _ :: _, _ :: _, h => by simp [slots_len h.2]
  | [], _ :: _, h => h.elim
  | _ :: _, [], h => h.elim
section
variable {K : Fg} {B : Base} {F H : Hp} {σ : L2.St} {ts : List (Option V)} {TM : List Slot} {β γ τ : Type} [Rp β] [Rp γ] {J : It} {P : Hp → Hp → Prop} {ys : List β} {g : TG} {tt : TT} {te : TE} {vs : List Nat} {Q : VK}
theorem paired_snoc {α β : Type} {R : α → β → Prop} {a : α} {b : β} (r : R a b) : ∀ {xs : List α} {ys : List β}, Paired R xs ys → Paired R (xs ++ [a]) (ys ++ [b])
  | _, _, .nil => .cons r .nil
  | _, _, .cons q t => .cons q (paired_snoc r t)
/-- an object of one's own that is in no slot changes -/
theorem St.hid {w : List (Option V)} {M : List Slot} {D : Addr} {ob : HO} (h : St K B F H w M) (fr : F D = none) (b : B.H D = none) (no : D ∉ owns M) : St K B F (upd H D ob) w M where
  fh := fun a o e => by
    rw [upd_ne (ne_of_none e fr)]
    exact h.fh a o e
  f0 := h.f0
  nf := h.nf
  h0 := fun a o e m => by
    rw [upd_ne (ne_of_none e b)]
    exact h.h0 a o e m
  tr := fun a z => by
    by_cases q : a = D
    · subst q
      exact absurd b z
    · rw [upd_ne q]
      exact h.tr a z
  ok := by
    have key : ∀ {w : List (Option V)} {M : List Slot}, Slots K F H w M → D ∉ owns M → Slots K F (upd H D ob) w M := by
      intro w M
      induction M generalizing w with
      | nil =>
        intro hs _
        cases w with
        | nil => trivial
        | cons o w => exact hs.elim
      | cons s M ih =>
        intro hs hn
        cases w with
        | nil => exact hs.elim
        | cons o w =>
          refine ⟨?_, ih hs.2 fun m => hn (owns_tail m)⟩
          cases s with
          | any => trivial
          | un => exact hs.1
          | fz x => exact hs.1
          | own a x =>
            obtain ⟨h1, h2, o', h3, h4⟩ := hs.1
            exact ⟨h1, h2, o', by rw [upd_ne (fun e => hn (by rw [← e]; exact List.mem_cons_self ..))]; exact h3, h4⟩
    exact key h.ok no
  nd := h.nd
  bo := h.bo
theorem St.mutO {w : List (Option V)} {M : List Slot} {α : Type} [Ow α] {x y : α} {D : Addr} {o : Option V} {ob : HO} (h : St K B F H (o :: w) (.own D x :: M)) (hy : Ow.ow K F ob y) : St K B F (upd H D ob) (o :: w) (.own D y :: M) := by
  obtain ⟨h1, h2, ob', h3, h4⟩ := h.ok.1
  have nd := List.nodup_cons.mp h.nd
  refine ⟨fun a u e => ?_, h.f0, h.nf, fun a u e m => ?_, fun a z => ?_, ⟨⟨h1, h2, ob, upd_same, hy⟩, ?_⟩, h.nd, h.bo⟩
  · rw [upd_ne (ne_of_none e h2)]
    exact h.fh a u e
  · rw [upd_ne fun q => ?_]
    · exact h.h0 a u e m
    · subst q
      rcases h.bo a (List.mem_cons_self ..) with z | z
      · rw [z] at e; cases e
      · exact m z
  · by_cases q : a = D
    · subst q
      rw [upd_same]
      simp
    · rw [upd_ne q]
      exact h.tr a z
  · have key : ∀ {w : List (Option V)} {M : List Slot}, Slots K F H w M → D ∉ owns M → Slots K F (upd H D ob) w M := by
      intro w M
      induction M generalizing w with
      | nil =>
        intro hs _
        cases w with
        | nil => trivial
        | cons o w => exact hs.elim
      | cons s M ih =>
        intro hs hn
        cases w with
        | nil => exact hs.elim
        | cons o w =>
          refine ⟨?_, ih hs.2 fun m => hn (owns_tail m)⟩
          cases s with
          | any => trivial
          | un => exact hs.1
          | fz x => exact hs.1
          | own a x =>
            obtain ⟨h1, h2, o', h3, h4⟩ := hs.1
            exact ⟨h1, h2, o', by rw [upd_ne (fun e => hn (by rw [← e]; exact List.mem_cons_self ..))]; exact h3, h4⟩
    exact key h.ok.2 nd.1
theorem compS_len {α β τ : Type} {f : α → τ → Option (Option β × τ)} : ∀ {xs : List α} {s : τ} {p : List β × τ}, compS f xs s = some p → p.1.length ≤ xs.length
  | [], s, p, h => by
    have e : ([], s) = p := Option.some.inj h
    subst e
    exact Nat.le_refl _
  | x :: xs, s, p, h => by
    obtain ⟨q, hq, h⟩ := ob h
    obtain ⟨r, hr, h⟩ := ob h
    have ih := compS_len hr
    have e := Option.some.inj h
    subst e
    simp only [List.length_append, List.length_cons]
    have : q.1.toList.length ≤ 1 := by cases q.1 <;> simp
    omega
theorem S_comp (Mf : τ → List Slot) {f : β → τ → Option (Option γ × τ)} {s0 s1 : τ} {zs : List γ} (Y : Yields K J P ys) (hm : compS f ys s0 = some (zs, s1)) (h : St K B F H (ts ++ σ) (TM ++ Mf s0)) (hTM : TM.length = ts.length) (hf : ∀ s, Free (Mf s) vs)
    (hlen : ys.length ≤ sizeLine)
    (hP : ∀ s w F H, St K B F H (ts ++ w) (TM ++ Mf s) → P F H)
    (turn : ∀ (i : Nat) (x : β) (s : τ) p v D (acc : List γ) F H (G : V → Hp → Prop) (N : Hp → Prop), ys[i]? = some x → f x s = some p → St K B F H (some v :: some (.ref D) :: (ts ++ wipe σ vs)) (.fz x :: .own D acc :: (TM ++ Mf s)) →
      (∀ y z F' H', p.1 = some z → St K B F' H' (some (.ref D) :: (ts ++ wipe σ vs)) (.own D acc :: (TM ++ Mf p.2)) → rp K F' y z → G y H') → (∀ F' H', p.1 = none → St K B F' H' (some (.ref D) :: (ts ++ wipe σ vs)) (.own D acc :: (TM ++ Mf p.2)) → N H') →
      g v (wipe σ vs) H fun σ2 H2 => wipe σ2 vs = wipe σ vs ∧ tt σ2 H2 fun b H3 => if b = true then te σ2 H3 G else N H3)
    (hend : ∀ D F H, B.H D = none → St K B F H (some (.ref D) :: (ts ++ σ)) (.own D zs :: (TM ++ Mf s1)) → Q (.ref D) H) : LcG J g tt te vs σ H Q := by
  intro D hD
  have hB : B.H D = none := by
    cases q : B.H D with
    | none => rfl
    | some u => exact absurd hD (h.tr D (by rw [q]; simp))
  have lw := wipe_length σ vs
  -- from the frame's names to the block's, and back
  have into : ∀ {s F H}, St K B F H (ts ++ σ) (TM ++ Mf s) → St K B F H (ts ++ wipe σ vs) (TM ++ Mf s) := fun {s F H} h => h.rew (by simp [lw]) fun i => wipe_rew hTM (hf s) i
  have back : ∀ {s F H acc}, St K B F H (some (.ref D) :: (ts ++ wipe σ vs)) (.own (α := List γ) D acc :: (TM ++ Mf s)) → St K B F H (some (.ref D) :: (ts ++ σ)) (.own (α := List γ) D acc :: (TM ++ Mf s)) := fun {s F H acc} h => h.rew (by simp [lw]) fun i => by
    cases i with
    | zero => right; rfl
    | succ i =>
      rcases wipe_rew (σ := σ) hTM (hf s) i with e | e
      · left; simpa using e
      · right; simpa using e.symm
  have h1 : St K B F (upd H D (.lst [])) (some (.ref D) :: (ts ++ wipe σ vs)) (.own (α := List γ) D [] :: (TM ++ Mf s0)) := (into h).pushO hD ⟨[], rfl, Nat.zero_le _, .nil⟩
  refine ⟨fun i m H => m = ys.length - i ∧ i ≤ ys.length ∧ ∃ F s acc rest, St K B F H (some (.ref D) :: (ts ++ wipe σ vs)) (.own (α := List γ) D acc :: (TM ++ Mf s)) ∧ acc.length ≤ i ∧ compS f (ys.drop i) s = some (rest, s1) ∧ acc ++ rest = zs, ⟨ys.length, by omega, Nat.zero_le _, F, s0, [], zs, h1, Nat.le_refl _, hm, rfl⟩, ?_⟩
  rintro i m H ⟨rfl, hi, F, s, acc, rest, h, hacc, hm, hz⟩
  have Yi := Y i F H (hP s _ F H h.pop) h.fh
  by_cases hlt : i < ys.length
  · have hx : ys[i]? = some ys[i] := List.getElem?_eq_getElem hlt
    obtain ⟨go, yl⟩ := Yi.2 _ hx
    rw [drop_cons hlt] at hm
    obtain ⟨p, hp, hm⟩ := ob hm
    obtain ⟨q, hq, hm⟩ := ob hm
    have eq := Option.some.inj hm
    have eq1 : p.1.toList ++ q.1 = rest := congrArg Prod.fst eq
    have eq2 : q.2 = s1 := congrArg Prod.snd eq
    refine .inr ⟨go, fun H' => ∃ F', St K B F' H' (some (.ref D) :: (ts ++ wipe σ vs)) (.own (α := List γ) D (acc ++ p.1.toList) :: (TM ++ Mf p.2)), fun H' ⟨F', h'⟩ => ⟨ys.length - (i + 1), by omega, rfl, hlt, F', p.2, _, q.1, h', ?_, by rw [hq, ← eq2], by rw [List.append_assoc, eq1, hz]⟩, fun v H' y => ?_⟩
    · rw [List.length_append]
      have : p.1.toList.length ≤ 1 := by cases p.1 <;> simp
      omega
    · obtain ⟨F', e1, e2, e3, e4, e5⟩ := yl v H' y
      refine turn i _ s p v D acc F' H' _ _ hx hp ((h.step e1 e3 e2 e4).push e5) (fun y z F'' H'' ez h'' ry => ?_) (fun F'' H'' ez h'' => ?_)
      · obtain ⟨_, _, ob', ho, vs', rfl, hl, hv⟩ := h''.ok.1
        have hl2 : vs'.length = acc.length := Paired.length hv
        refine ⟨vs', ho, by omega, F'', ?_⟩
        rw [ez]
        exact h''.mutO ⟨_, rfl, by rw [List.length_append]; simp; omega, paired_snoc ry hv⟩
      · refine ⟨F'', ?_⟩
        rw [ez]
        show St K B F'' H'' _ (.own (α := List γ) D (acc ++ []) :: _)
        rw [List.append_nil]
        exact h''
  · have e : i = ys.length := by omega
    subst e
    rw [List.drop_length] at hm
    have eq := Option.some.inj hm
    have eq1 : ([] : List γ) = rest := congrArg Prod.fst eq
    have eq2 : s = s1 := congrArg Prod.snd eq
    subst eq1 eq2
    rw [List.append_nil] at hz
    subst hz
    exact .inl ⟨Yi.1 (Nat.le_refl _), hend D F H hB (back h)⟩
/-- a list of one's own is frozen -/
theorem St.frz {w : List (Option V)} {M : List Slot} {D : Addr} {zs : List γ} (h : St K B F H (some (.ref D) :: w) (.own D zs :: M)) (hB : B.H D = none) : ∃ F', St K B F' H (some (.ref D) :: w) (.fz zs :: M) := by
  obtain ⟨_, h2, ob', ho, vs', rfl, hl, hv⟩ := h.ok.1
  have nd := List.nodup_cons.mp h.nd
  have en : Ex F (upd F D (.lst vs')) := Ex.new h2
  refine ⟨upd F D (.lst vs'), fun a u e => ?_, h.f0.trans en, fun a z => ?_, h.h0, h.tr, ⟨⟨_, rfl, D, vs', rfl, upd_same, hl, paired_mono en hv⟩, ?_⟩, nd.2, fun a m => h.bo a (List.mem_cons_of_mem _ m)⟩
  · by_cases q : a = D
    · subst q
      rw [upd_same] at e
      rw [ho]
      exact e
    · rw [upd_ne q] at e
      exact h.fh a u e
  · rw [upd_ne fun q => z (by rw [q]; exact hB)]
    exact h.nf a z
  · have key : ∀ {w : List (Option V)} {M : List Slot}, Slots K F H w M → D ∉ owns M → Slots K (upd F D (.lst vs')) H w M := by
      intro w M
      induction M generalizing w with
      | nil =>
        intro hs _
        cases w with
        | nil => trivial
        | cons o w => exact hs.elim
      | cons s M ih =>
        intro hs hn
        cases w with
        | nil => exact hs.elim
        | cons o w =>
          refine ⟨?_, ih hs.2 fun m => hn (owns_tail m)⟩
          cases s with
          | any => trivial
          | un => exact hs.1
          | fz x =>
            obtain ⟨v, h1, h2⟩ := hs.1
            exact ⟨v, h1, Rp.mono en h2⟩
          | own a x =>
            obtain ⟨h1, h2, o', h3, h4⟩ := hs.1
            exact ⟨h1, by rw [upd_ne (fun e => hn (by rw [← e]; exact List.mem_cons_self ..))]; exact h2, o', h3, Ow.omono en h4⟩
    exact key h.ok.2 nd.1
end
end G

set_option Elab.async false
set_option linter.all false
set_option maxRecDepth 100000
set_option maxHeartbeats 4000000
/-! G2: contracts of defs, calls, and the operations. -/
namespace G
open PySem PySem.Spec PyProof.Rows L2
open Rp (rp)
open Ow (ow)

/-! ### what a def hands back -/
inductive RSlot : Type 1
  | fz {α : Type} [Rp α] (x : α)
  | fr {α : Type} [Ow α] (x : α)
def RetOk (K : Fg) (H F' H' : Hp) (u : V) : RSlot → Prop
  | @RSlot.fz _ i x => i.rp K F' u x
  | @RSlot.fr _ i x => ∃ p ob, u = .ref p ∧ H p = none ∧ F' p = none ∧ H' p = some ob ∧ i.ow K F' ob x
def After (K : Fg) (F' H' : Hp) : List Slot → Prop
  | [] => True
  | @Slot.own _ i a x :: A => (F' a = none ∧ ∃ ob, H' a = some ob ∧ i.ow K F' ob x) ∧ After K F' H' A
  | .any :: A => After K F' H' A
  | .un :: A => After K F' H' A
  | @Slot.fz _ _ _ :: A => After K F' H' A
structure Fin (K : Fg) (B : Base) (s : RSlot) (A' : List Slot) (u : V) (F' H' : Hp) : Prop where
  f0 : Ex B.F F'
  fh : Ex F' H'
  nf : ∀ a, B.H a ≠ none → F' a = B.F a
  h0 : ∀ a o, B.H a = some o → a ∉ B.may → H' a = some o
  tr : ∀ a, B.H a ≠ none → H' a ≠ none
  ret : RetOk K B.H F' H' u s
  aft : After K F' H' A'
/-- the promise of a def: R says of the arguments' slots what comes back, and how the slots are then -/
def Prom (K : Fg) (R : List Slot → RSlot → List Slot → Prop) : Sp := fun vs H Q _ => ∃ F A s A', R A s A' ∧ Ex F H ∧ Slots K F H (vs.map some) A ∧ (owns A).Nodup ∧ ∀ u F' H', Fin K ⟨F, H, owns A⟩ s A' u F' H' → Q u H'
section
variable {K : Fg} {B : Base} {F H F' H' : Hp} {w : List (Option V)} {M A A' : List Slot} {Q : VK} {u : V}
theorem slots_any : ∀ w : List (Option V), Slots K F H w (w.map fun _ => Slot.any)
  | [] => trivial
  | _ :: w => ⟨trivial, slots_any w⟩
theorem Slots.append : ∀ {w w' : List (Option V)} {M M' : List Slot}, Slots K F H w M → Slots K F H w' M' → Slots K F H (w ++ w') (M ++ M')
  | [], _, [], _, _, k => k
  | _ :: _, _, _ :: _, _, h, k => ⟨h.1, Slots.append h.2 k⟩
  | [], _, _ :: _, _, h, _ => h.elim
  | _ :: _, _, [], _, h, _ => h.elim
theorem owns_append : ∀ (M M' : List Slot), owns (M ++ M') = owns M ++ owns M'
  | [], _ => rfl
  | .any :: M, M' => owns_append M M'
  | .un :: M, M' => owns_append M M'
  | @Slot.fz _ _ _ :: M, M' => owns_append M M'
  | @Slot.own _ _ a x :: M, M' => by show a :: owns (M ++ M') = a :: owns M ++ owns M'; rw [owns_append M M']; rfl
theorem owns_any : ∀ w : List (Option V), owns (w.map fun _ => Slot.any) = []
  | [] => rfl
  | _ :: w => owns_any w
theorem owns_tr : ∀ {w : List (Option V)} {M : List Slot}, Slots K F H w M → ∀ a ∈ owns M, F a = none ∧ ∃ ob, H a = some ob := by
  intro w M
  induction M generalizing w with
  | nil => intro _ a m; cases m
  | cons s M ih =>
    intro hs a m
    cases w with
    | nil => exact hs.elim
    | cons o w =>
      cases s with
      | any => exact ih hs.2 a m
      | un => exact ih hs.2 a m
      | fz x => exact ih hs.2 a m
      | own b x =>
        rcases List.mem_cons.mp m with e | m
        · obtain ⟨h1, h2, ob, h3, h4⟩ := hs.1
          rw [e]
          exact ⟨h2, ob, h3⟩
        · exact ih hs.2 a m
/-- the state at a def's entry -/
theorem St.start {vs : List V} (fh : Ex F H) (hS : Slots K F H (vs.map some) A) (nd : (owns A).Nodup) (w : List (Option V)) : St K ⟨F, H, owns A⟩ F H (vs.map some ++ w) (A ++ w.map fun _ => Slot.any) where
  fh := fh
  f0 := Ex.refl F
  nf := fun _ _ => rfl
  h0 := fun _ _ h _ => h
  tr := fun _ h => h
  ok := hS.append (slots_any w)
  nd := by
    rw [owns_append, owns_any, List.append_nil]
    exact nd
  bo := fun a m => by
    rw [owns_append, owns_any, List.append_nil] at m
    exact .inr m
theorem St.fin {s : RSlot} (h : St K B F H w M) (r : RetOk K B.H F H u s) (a : After K F H A') : Fin K B s A' u F H := ⟨h.f0, h.fh, h.nf, h.h0, h.tr, r, a⟩
theorem St.finF {α : Type} [Rp α] {x : α} (h : St K B F H (some u :: w) (.fz x :: M)) (a : After K F H A') : Fin K B (.fz x) A' u F H := h.fin (h.fz 0 rfl rfl) a
theorem St.finI {x : Int} (h : St K B F H w M) (a : After K F H A') : Fin K B (.fz x) A' (.int x) F H := h.fin (show V.int x = V.int x from rfl) a
theorem St.finB {x : Bool} (h : St K B F H w M) (a : After K F H A') : Fin K B (.fz x) A' (.bl x) F H := h.fin (show V.bl x = V.bl x from rfl) a
theorem St.finS {x : Str} (h : St K B F H w M) (a : After K F H A') : Fin K B (.fz x) A' (.str x) F H := h.fin (show V.str x = V.str x from rfl) a
theorem St.finN {x : Unit} (h : St K B F H w M) (a : After K F H A') : Fin K B (.fz x) A' .non F H := h.fin (show V.non = V.non from rfl) a
theorem St.finO {α : Type} [Ow α] {x : α} {p : Addr} (h : St K B F H (some (.ref p) :: w) (.own p x :: M)) (hB : B.H p = none) (a : After K F H A') : Fin K B (.fr x) A' (.ref p) F H := by
  obtain ⟨_, h2, ob, h3, h4⟩ := h.ok.1
  exact h.fin ⟨p, ob, rfl, hB, h2, h3, h4⟩ a
theorem St.aft (h : St K B F H w M) (i : Nat) {α : Type} [Ow α] {x : α} {a : Addr} (hM : M[i]? = some (.own a x)) (r : After K F H A') : After K F H (.own a x :: A') := by
  obtain ⟨_, h2⟩ := h.own i hM
  exact ⟨h2, r⟩

/-! ### calls -/
/-- a call that changes none of one's own -/
theorem S_call {R : List Slot → RSlot → List Slot → Prop} {E : XK} {vs : List V} {s : RSlot} (h : St K B F H w M) (hA : Slots K F H (vs.map some) A) (hR : R A s A') (ho : owns A = []) (q : ∀ u F' H', St K B F' H' w M → RetOk K H F' H' u s → Q u H') : Prom K R vs H Q E := by
  refine ⟨F, A, s, A', hR, h.fh, hA, by rw [ho]; exact List.nodup_nil, fun u F' H' f => ?_⟩
  rw [ho] at f
  exact q u F' H' (h.step f.f0 (fun a o e => f.h0 a o e (by simp)) f.fh f.nf) f.ret
theorem S_callF {R : List Slot → RSlot → List Slot → Prop} {E : XK} {vs : List V} {α : Type} [Rp α] {x : α} (h : St K B F H w M) (hA : Slots K F H (vs.map some) A) (hR : R A (.fz x) A') (ho : owns A = []) (q : ∀ u F' H', St K B F' H' (some u :: w) (.fz x :: M) → Q u H') : Prom K R vs H Q E :=
  S_call h hA hR ho fun u F' H' h' r => q u F' H' (h'.push r)
theorem S_callI {R : List Slot → RSlot → List Slot → Prop} {E : XK} {vs : List V} {x : Int} (h : St K B F H w M) (hA : Slots K F H (vs.map some) A) (hR : R A (.fz x) A') (ho : owns A = []) (q : ∀ F' H', St K B F' H' w M → Q (.int x) H') : Prom K R vs H Q E :=
  S_call h hA hR ho fun u F' H' h' r => by
    have e : u = .int x := r
    subst e
    exact q F' H' h'
theorem S_callB {R : List Slot → RSlot → List Slot → Prop} {E : XK} {vs : List V} {x : Bool} (h : St K B F H w M) (hA : Slots K F H (vs.map some) A) (hR : R A (.fz x) A') (ho : owns A = []) (q : ∀ F' H', St K B F' H' w M → Q (.bl x) H') : Prom K R vs H Q E :=
  S_call h hA hR ho fun u F' H' h' r => by
    have e : u = .bl x := r
    subst e
    exact q F' H' h'
theorem S_callS {R : List Slot → RSlot → List Slot → Prop} {E : XK} {vs : List V} {x : Str} (h : St K B F H w M) (hA : Slots K F H (vs.map some) A) (hR : R A (.fz x) A') (ho : owns A = []) (q : ∀ F' H', St K B F' H' w M → Q (.str x) H') : Prom K R vs H Q E :=
  S_call h hA hR ho fun u F' H' h' r => by
    have e : u = .str x := r
    subst e
    exact q F' H' h'
theorem S_callN {R : List Slot → RSlot → List Slot → Prop} {E : XK} {vs : List V} {x : Unit} (h : St K B F H w M) (hA : Slots K F H (vs.map some) A) (hR : R A (.fz x) A') (ho : owns A = []) (q : ∀ F' H', St K B F' H' w M → Q .non H') : Prom K R vs H Q E :=
  S_call h hA hR ho fun u F' H' h' r => by
    have e : u = .non := r
    subst e
    exact q F' H' h'
theorem mem_owns_of_at {M : List Slot} {i : Nat} {α : Type} [Ow α] {x : α} {a : Addr} (h : M[i]? = some (.own a x)) : a ∈ owns M := by
  induction M generalizing i with
  | nil => simp at h
  | cons s M ih =>
    cases i with
    | zero =>
      simp at h
      subst h
      exact List.mem_cons_self ..
    | succ i => exact owns_tail (ih (by simpa using h))
/-- a def's fresh list -/
theorem St.pushR (h : St K B F H w M) {H0 : Hp} (tr0 : ∀ a, B.H a ≠ none → H0 a ≠ none) (ow0 : ∀ a ∈ owns M, H0 a ≠ none) {α : Type} [Ow α] {x : α} (r : RetOk K H0 F H u (.fr x)) : ∃ p, u = .ref p ∧ B.H p = none ∧ St K B F H (some u :: w) (.own p x :: M) := by
  obtain ⟨p, ob, rfl, h1, h2, h3, h4⟩ := r
  have hB : B.H p = none := by
    cases q : B.H p with
    | none => rfl
    | some o => exact absurd h1 (tr0 p (by rw [q]; simp))
  refine ⟨p, rfl, hB, h.fh, h.f0, h.nf, h.h0, h.tr, ⟨⟨rfl, h2, ob, h3, h4⟩, h.ok⟩, List.nodup_cons.mpr ⟨fun m => ow0 p m h1, h.nd⟩, fun a m => ?_⟩
  rcases List.mem_cons.mp m with e | m
  · rw [e]; exact .inl hB
  · exact h.bo a m
theorem S_callO {R : List Slot → RSlot → List Slot → Prop} {E : XK} {vs : List V} {α : Type} [Ow α] {x : α} (h : St K B F H w M) (hA : Slots K F H (vs.map some) A) (hR : R A (.fr x) A') (ho : owns A = []) (q : ∀ p F' H', B.H p = none → St K B F' H' (some (.ref p) :: w) (.own p x :: M) → Q (.ref p) H') : Prom K R vs H Q E :=
  S_call h hA hR ho fun u F' H' h' r => by
    obtain ⟨p, rfl, hB, h''⟩ := h'.pushR h.tr (fun a m => by obtain ⟨_, ob, z⟩ := h.own_tracked a m; rw [z]; simp) r
    exact q p F' H' hB h''
/-- a call that changes one thing of one's own -/
theorem S_call1 {R : List Slot → RSlot → List Slot → Prop} {E : XK} {vs : List V} {s : RSlot} {α : Type} [Ow α] {x x' : α} {a : Addr} (i : Nat) (h : St K B F H w M) (hM : M[i]? = some (.own a x)) (hA : Slots K F H (vs.map some) A) (hR : R A s A') (ho : owns A = [a])
    (hA' : ∀ F' H', After K F' H' A' → F' a = none ∧ ∃ ob, H' a = some ob ∧ ow K F' ob x') (q : ∀ u F' H', St K B F' H' w (M.set i (.own a x')) → RetOk K H F' H' u s → Q u H') : Prom K R vs H Q E := by
  refine ⟨F, A, s, A', hR, h.fh, hA, by rw [ho]; exact List.nodup_cons.mpr ⟨by simp, List.nodup_nil⟩, fun u F' H' f => ?_⟩
  rw [ho] at f
  obtain ⟨g1, ob, g2, g3⟩ := hA' F' H' f.aft
  have key : ∀ {w : List (Option V)} {M : List Slot} {i : Nat}, Slots K F H w M → (owns M).Nodup → M[i]? = some (.own a x) → Slots K F' H' w (M.set i (.own a x')) ∧ owns (M.set i (.own a x')) = owns M := by
    intro w M
    have other : ∀ {w : List (Option V)} {M : List Slot}, Slots K F H w M → a ∉ owns M → Slots K F' H' w M := by
      intro w M
      induction M generalizing w with
      | nil =>
        intro hs _
        cases w with
        | nil => trivial
        | cons o w => exact hs.elim
      | cons s M ih =>
        intro hs hn
        cases w with
        | nil => exact hs.elim
        | cons o w =>
          refine ⟨?_, ih hs.2 fun m => hn (owns_tail m)⟩
          cases s with
          | any => trivial
          | un => exact hs.1
          | fz y =>
            obtain ⟨v, h1, h2⟩ := hs.1
            exact ⟨v, h1, Rp.mono f.f0 h2⟩
          | own b y =>
            obtain ⟨h1, h2, o', h3, h4⟩ := hs.1
            exact ⟨h1, by rw [f.nf b (by show H b ≠ none; rw [h3]; simp)]; exact h2, o', f.h0 b _ h3 (by
              intro m
              have e : b = a := by simpa using m
              exact hn (by rw [← e]; exact List.mem_cons_self ..)), Ow.omono f.f0 h4⟩
    induction M generalizing w with
    | nil => intro i _ _ e; simp at e
    | cons s M ih =>
      intro i hs hn e
      cases w with
      | nil => exact hs.elim
      | cons o w =>
        cases i with
        | zero =>
          simp at e
          subst e
          exact ⟨⟨⟨hs.1.1, g1, ob, g2, g3⟩, other hs.2 (List.nodup_cons.mp hn).1⟩, rfl⟩
        | succ i =>
          have e' : M[i]? = some (.own a x) := by simpa using e
          obtain ⟨k1, k2⟩ := ih hs.2 (owns_nd hn) e'
          have ha : a ∈ owns M := mem_owns_of_at e'
          refine ⟨⟨?_, k1⟩, ?_⟩
          · cases s with
            | any => trivial
            | un => exact hs.1
            | fz y =>
              obtain ⟨v, h1, h2⟩ := hs.1
              exact ⟨v, h1, Rp.mono f.f0 h2⟩
            | own b y =>
              obtain ⟨h1, h2, o', h3, h4⟩ := hs.1
              have hne : b ≠ a := fun z => (List.nodup_cons.mp hn).1 (by rw [z]; exact ha)
              exact ⟨h1, by rw [f.nf b (by show H b ≠ none; rw [h3]; simp)]; exact h2, o', f.h0 b _ h3 (by simpa using hne), Ow.omono f.f0 h4⟩
          · cases s with
            | any => exact k2
            | un => exact k2
            | fz y => exact k2
            | own b y => show b :: owns (M.set i _) = b :: owns M; rw [k2]
  obtain ⟨k1, k2⟩ := key h.ok h.nd hM
  refine q u F' H' ⟨f.fh, h.f0.trans f.f0, fun b z => (f.nf b (h.tr b z)).trans (h.nf b z), fun b o z m => ?_, fun b z => f.tr b (h.tr b z), k1, by rw [k2]; exact h.nd, fun b m => h.bo b (by rw [k2] at m; exact m)⟩ f.ret
  refine f.h0 b o (h.h0 b o z m) fun y => ?_
  have e : b = a := by simpa using y
  subst e
  rcases h.bo b (mem_owns_of_at hM) with z' | z'
  · rw [z'] at z; cases z
  · exact m z'
end

/-! ### readings, step by step -/
section
variable {K : Fg} {F H : Hp} {σ : L2.St} {Q : VK} {D : Ends} {t u : TS} {te ta tb tc : TE} {g : TG} {wi : TI} {tt tu : TT} {vs : List Nat} {R : It → Hp → Prop} {QT : Bool → Hp → Prop} {QA : List V → Hp → Prop} {r r' : R2} {tA tR : TA}
theorem S_seq (h : t { D with nx := u D } σ H) : tSeq t u D σ H := h
theorem S_asg (h : te σ H fun x H1 => g x σ H1 D.nx) : tAsg te g D σ H := h
theorem S_ret (h : te σ H D.rt) : tRet te D σ H := h
theorem S_drop (h : te σ H fun _ H1 => D.nx σ H1) : tDrop te D σ H := h
theorem S_for (h : wi σ H fun J H1 => ForG J g t D σ H1) : tFor wi g t D σ H := h
theorem S_lc (h : wi σ H fun J H1 => LcG J g tt te vs σ H1 Q) : tLc wi g tt te vs σ H Q := h
theorem S_if (h : tt σ H fun b H1 => if b = true then t D σ H1 else u D σ H1) : tIfS tt t u D σ H := h
theorem S_test (h : te σ H fun x H1 => ∃ k, x = .bl k ∧ QT k H1) : tTest te σ H QT := h
theorem S_tB (h : te σ H fun x H1 => ∃ k, x = .bl k ∧ QT k H1) : tB te σ H QT := h
theorem S_bl {k : Bool} (h : QT k H) : ∃ k', V.bl k = .bl k' ∧ QT k' H := ⟨k, rfl, h⟩
theorem S_op (h : ta σ H fun x H1 => tb σ H1 fun y H2 => r x y H2 Q) : tOp r ta tb σ H Q := h
theorem S_un {ru : V → Hp → VK → Prop} (h : ta σ H fun x H1 => ru x H1 Q) : tUn ru ta σ H Q := h
theorem S_cons (h : ta σ H fun x H1 => tR σ H1 fun xs H2 => QA (x :: xs) H2) : tCons ta tR σ H QA := h
theorem S_nil (h : QA [] H) : tNil σ H QA := h
theorem S_c {v : V} (h : Q v H) : tC v σ H Q := h
def TupG (xs : List V) (H1 : Hp) (Q : VK) : Prop := xs.length ≤ sizeLine ∧ ∀ p, H1 p = none → Q (.ref p) (upd H1 p (.tup xs))
def LstG (xs : List V) (H1 : Hp) (Q : VK) : Prop := xs.length ≤ sizeLine ∧ ∀ p, H1 p = none → Q (.ref p) (upd H1 p (.lst xs))
theorem S_tT (h : tA σ H fun xs H1 => TupG xs H1 Q) : tTup tA σ H Q := h
theorem S_tL (h : tA σ H fun xs H1 => LstG xs H1 Q) : tLst tA σ H Q := h
theorem S_cb {rc : List V → Hp → VK → Prop} (h : tA σ H fun xs H1 => rc xs H1 Q) : tCB rc tA σ H Q := h
theorem S_tcall {sp : Sp} {E : XK} (h : tA σ H fun xs H1 => sp xs H1 Q E) : tCall sp [] E tA σ H Q := by
  have e : (fun xs H1 => sp (xs ++ []) H1 Q E) = fun xs H1 => sp xs H1 Q E := funext fun xs => funext fun H1 => by rw [List.append_nil]
  show tA σ H fun xs H1 => sp (xs ++ []) H1 Q E
  rw [e]
  exact h
def ZipG (K : Fg) (vs : List V) (H1 : Hp) (R : It → Hp → Prop) : Prop := ∃ a b xs ys, vs = [.ref a, .ref b] ∧ ((SqL K H1 a xs ∧ SqL K H1 b ys ∧ R (Itz K a b) H1) ∨ (SqT K H1 a xs ∧ SqT K H1 b ys ∧ R (RZ.ItzT K a b) H1))
def EnuG (K : Fg) (vs : List V) (H1 : Hp) (R : It → Hp → Prop) : Prop := ∃ a xs, vs = [.ref a] ∧ SqL K H1 a xs ∧ R (Ite K a) H1
def RngG1 (vs : List V) (H1 : Hp) (R : It → Hp → Prop) : Prop := ∃ j : Int, vs = [.int j] ∧ -(2 ^ 62) ≤ j ∧ j < 2 ^ 62 ∧ R (Itr 0 j.toNat) H1
def RngG2 (vs : List V) (H1 : Hp) (R : It → Hp → Prop) : Prop := ∃ i j : Int, vs = [.int i, .int j] ∧ (-(2 ^ 62) ≤ i ∧ i < 2 ^ 62 ∧ -(2 ^ 62) ≤ j ∧ j < 2 ^ 62) ∧ R (Itr i (j - i).toNat) H1
def ItLG (K : Fg) (x : V) (H1 : Hp) (R : It → Hp → Prop) : Prop := ∃ a, x = .ref a ∧ (∃ xs, SqL K H1 a xs) ∧ R (Itl K a) H1
def ItTG (K : Fg) (x : V) (H1 : Hp) (R : It → Hp → Prop) : Prop := ∃ a, x = .ref a ∧ (∃ xs, SqT K H1 a xs) ∧ R (Itt K a) H1
theorem S_iZ (h : tA σ H fun xs H1 => ZipG K xs H1 R) : RZ.iZipA K tA σ H R := h
theorem S_iE (h : tA σ H fun xs H1 => EnuG K xs H1 R) : iEnum K tA σ H R := h
theorem S_iR1 (h : tA σ H fun xs H1 => RngG1 xs H1 R) : iRng1 tA σ H R := h
theorem S_iR2 (h : tA σ H fun xs H1 => RngG2 xs H1 R) : iRng2 tA σ H R := h
theorem S_iL (h : te σ H fun x H1 => ItLG K x H1 R) : iList K te σ H R := h
theorem S_iT (h : te σ H fun x H1 => ItTG K x H1 R) : iTup K te σ H R := h
def TyG (K : Fg) (T : String) (x : V) (H : Hp) (P : Prop) : Prop := tyV K T x H ∧ P
theorem S_bm {T : String} {rm : V → List V → Hp → VK → Prop} (h : ta σ H fun x H1 => TyG K T x H1 (tA σ H1 fun xs H2 => rm x xs H2 Q)) : tBM K T rm ta tA σ H Q := h
theorem S_bm0 {T : String} {rm : V → List V → Hp → VK → Prop} (h : ta σ H fun x H1 => TyG K T x H1 (rm x [] H1 Q)) : tBM0 K T rm ta σ H Q := h
theorem S_gName {i : Nat} {v : V} {QS : L2.St → Hp → Prop} (h : QS (σ.set i (some v)) H) : gName i v σ H QS := h
theorem S_gCons {tg : TG} {tr : TGs} {v : V} {rest : List V} {QS : L2.St → Hp → Prop} (h : tg v σ H fun σ' H' => tr rest σ' H' QS) : gCons tg tr (v :: rest) σ H QS := ⟨v, rest, rfl, h⟩
theorem S_gNil {QS : L2.St → Hp → Prop} (h : QS σ H) : gNil [] σ H QS := ⟨rfl, h⟩
theorem S_gSub {to ti : TE} {ts : TSet} {v : V} {QS : L2.St → Hp → Prop} (h : to σ H fun o H1 => ti σ H1 fun i H2 => ts o i v H2 fun H3 => QS σ H3) : gSub to ti ts v σ H QS := h
end

/-! ### operations -/
section
variable {K : Fg} {B : Base} {F H : Hp} {w : List (Option V)} {σ : L2.St} {M : List Slot} {Q : VK} {α β : Type} [Rp α] [Rp β]
theorem S_I0 {gf : Int → Int → V} {i j : Int} (q : Q (gf i j) H) : rI0 gf (.int i) (.int j) H Q := ⟨i, j, rfl, rfl, q⟩
theorem S_I {C : Int → Int → Prop} {gf : Int → Int → V} {i j : Int} (hc : C i j) (q : Q (gf i j) H) : rI C gf (.int i) (.int j) H Q := ⟨i, j, rfl, rfl, hc, q⟩
theorem S_neg {gf : Int → V} {i : Int} (q : Q (gf i) H) : (fun x H Q => ∃ i, x = V.int i ∧ Q (gf i) H : V → Hp → VK → Prop) (.int i) H Q := ⟨i, rfl, q⟩
theorem dec_eq {γ : Type} [DecidableEq γ] {c : γ → V} (inj : ∀ a b, c a = c b → a = b) {i j : γ} : decide (c i = c j) = decide (i = j) := by
  by_cases h : i = j
  · rw [decide_eq_true h, decide_eq_true (by rw [h])]
  · rw [decide_eq_false h, decide_eq_false fun z => h (inj _ _ z)]
theorem S_eqI {i j : Int} (q : Q (.bl (decide (i = j))) H) : rEq (.int i) (.int j) H Q := ⟨rfl, by rw [dec_eq (c := V.int) fun _ _ => V.int.inj]; exact q⟩
theorem S_neI {i j : Int} (q : Q (.bl (!decide (i = j))) H) : rNe (.int i) (.int j) H Q := ⟨rfl, by rw [dec_eq (c := V.int) fun _ _ => V.int.inj]; exact q⟩
theorem S_eqB {i j : Bool} (q : Q (.bl (decide (i = j))) H) : rEq (.bl i) (.bl j) H Q := ⟨rfl, by rw [dec_eq (c := V.bl) fun _ _ => V.bl.inj]; exact q⟩
theorem S_neB {i j : Bool} (q : Q (.bl (!decide (i = j))) H) : rNe (.bl i) (.bl j) H Q := ⟨rfl, by rw [dec_eq (c := V.bl) fun _ _ => V.bl.inj]; exact q⟩
theorem S_eqS {i j : Str} (q : Q (.bl (decide (i = j))) H) : rEq (.str i) (.str j) H Q := ⟨rfl, by rw [dec_eq (c := V.str) fun _ _ => V.str.inj]; exact q⟩
theorem S_neS {i j : Str} (q : Q (.bl (!decide (i = j))) H) : rNe (.str i) (.str j) H Q := ⟨rfl, by rw [dec_eq (c := V.str) fun _ _ => V.str.inj]; exact q⟩
/-- (a, b, ..) of one kind -/
theorem S_tup {xs : List α} {vs : List V} (h : St K B F H w M) (hv : Paired (rp K F) vs xs) (hz : xs.length ≤ 100000) (q : ∀ p F' H', St K B F' H' (some (.ref p) :: w) (.fz (Tup.mk xs) :: M) → Q (.ref p) H') : TupG vs H Q := by
  have hl : vs.length ≤ sizeLine := by
    rw [Paired.length hv]
    exact Nat.le_trans hz (by decide)
  refine ⟨hl, fun p hp => ?_⟩
  have en : Ex F (upd F p (.tup vs)) := Ex.new (fresh_back h.fh hp)
  exact q p _ _ ((h.newF hp).push ⟨p, vs, rfl, .inl upd_same, hl, paired_mono en hv⟩)
/-- (a, b) -/
theorem S_pair {x : α} {y : β} {v u : V} (h : St K B F H w M) (hv : rp K F v x) (hu : rp K F u y) (q : ∀ p F' H', St K B F' H' (some (.ref p) :: w) (.fz (x, y) :: M) → Q (.ref p) H') : TupG [v, u] H Q := by
  refine ⟨by show 2 ≤ sizeLine; decide, fun p hp => ?_⟩
  have en : Ex F (upd F p (.tup [v, u])) := Ex.new (fresh_back h.fh hp)
  exact q p _ _ ((h.newF hp).push ⟨p, v, u, rfl, .inl upd_same, Rp.mono en hv, Rp.mono en hu⟩)
/-- [a, b, ..] frozen; owned -/
theorem S_lst {xs : List α} {vs : List V} (h : St K B F H w M) (hv : Paired (rp K F) vs xs) (hz : xs.length ≤ 100000) (q : ∀ p F' H', St K B F' H' (some (.ref p) :: w) (.fz xs :: M) → Q (.ref p) H') : LstG vs H Q := by
  have hl : vs.length ≤ sizeLine := by
    rw [Paired.length hv]
    exact Nat.le_trans hz (by decide)
  refine ⟨hl, fun p hp => ?_⟩
  have en : Ex F (upd F p (.lst vs)) := Ex.new (fresh_back h.fh hp)
  exact q p _ _ ((h.newF hp).push ⟨p, vs, rfl, upd_same, hl, paired_mono en hv⟩)
theorem St.freshB {p : Addr} (h : St K B F H w M) (hp : H p = none) : B.H p = none := by
  cases q : B.H p with
  | none => rfl
  | some o => exact absurd hp (h.tr p (by rw [q]; simp))
theorem S_lstO {xs : List α} {vs : List V} (h : St K B F H w M) (hv : Paired (rp K F) vs xs) (hz : xs.length ≤ 100000) (q : ∀ p F' H', B.H p = none → St K B F' H' (some (.ref p) :: w) (.own p xs :: M) → Q (.ref p) H') : LstG vs H Q := by
  have hl : vs.length ≤ sizeLine := by
    rw [Paired.length hv]
    exact Nat.le_trans hz (by decide)
  exact ⟨hl, fun p hp => q p _ _ (h.freshB hp) (h.pushO hp ⟨vs, rfl, hl, hv⟩)⟩
/-- t + u -/
def catT {α : Type} (x y : Tup α) : Option (Tup α) := if x.l.length + y.l.length ≤ 1000000 then some ⟨x.l ++ y.l⟩ else none
theorem catT_some {α : Type} {x y z : Tup α} (h : catT x y = some z) : x.l.length + y.l.length ≤ 1000000 ∧ z = ⟨x.l ++ y.l⟩ := by
  unfold catT at h
  split at h
  · exact ⟨by assumption, (Option.some.inj h).symm⟩
  · cases h
theorem paired_append {R : V → α → Prop} : ∀ {vs us : List V} {xs ys : List α}, Paired R vs xs → Paired R us ys → Paired R (vs ++ us) (xs ++ ys)
  | _, _, _, _, .nil, k => k
  | _, _, _, _, .cons r t, k => .cons r (paired_append t k)
theorem S_catT {x y z : Tup α} {v u : V} (h : St K B F H w M) (hv : rp K F v x) (hu : rp K F u y) (hm : catT x y = some z) (q : ∀ t F' H', St K B F' H' (some t :: w) (.fz z :: M) → Q t H') : rCatA K v u H Q := by
  obtain ⟨hz, rfl⟩ := catT_some hm
  obtain ⟨a, vs, rfl, h2, h3, h4⟩ := hv
  obtain ⟨b, us, rfl, k2, k3, k4⟩ := hu
  have l1 : vs.length = x.l.length := Paired.length h4
  have l2 : us.length = y.l.length := Paired.length k4
  have hl : vs.length + us.length ≤ sizeLine := Nat.le_trans (by omega : _ ≤ 1000000) (by decide)
  refine ⟨a, b, vs, us, rfl, rfl, ex_t h.fh h2.sq, ex_t h.fh k2.sq, hl, fun e => ?_, fun _ e => ?_, fun _ _ p hp => ?_⟩
  · subst e
    have ex : x.l = [] := by cases x with | mk l => cases l with | nil => rfl | cons _ _ => simp at l1
    rw [ex] at q
    exact q _ _ _ (h.push ⟨b, us, rfl, k2, k3, k4⟩)
  · subst e
    have ey : y.l = [] := by cases y with | mk l => cases l with | nil => rfl | cons _ _ => simp at l2
    rw [ey, List.append_nil] at q
    exact q _ _ _ (h.push ⟨a, vs, rfl, h2, h3, h4⟩)
  · have en : Ex F (upd F p (.tup (vs ++ us))) := Ex.new (fresh_back h.fh hp)
    exact q _ _ _ ((h.newF hp).push ⟨p, vs ++ us, rfl, .inl upd_same, by rw [List.length_append]; exact hl, paired_mono en (paired_append h4 k4)⟩)
/-- xs + ys, lists -/
def catL {α : Type} (x y : List α) : Option (List α) := if x.length + y.length ≤ 1000000 then some (x ++ y) else none
theorem catL_some {α : Type} {x y z : List α} (h : catL x y = some z) : x.length + y.length ≤ 1000000 ∧ z = x ++ y := by
  unfold catL at h
  split at h
  · exact ⟨by assumption, (Option.some.inj h).symm⟩
  · cases h
theorem S_catLO {x y z : List α} {v u : V} (h : St K B F H w M) (hv : ViewL K F H v x) (hu : ViewL K F H u y) (hm : catL x y = some z) (q : ∀ p F' H', B.H p = none → St K B F' H' (some (.ref p) :: w) (.own p z :: M) → Q (.ref p) H') : rCat v u H Q := by
  obtain ⟨hz, rfl⟩ := catL_some hm
  obtain ⟨a, vs, rfl, h2, h3, h4⟩ := hv
  obtain ⟨b, us, rfl, k2, k3, k4⟩ := hu
  have l1 : vs.length = x.length := Paired.length h4
  have l2 : us.length = y.length := Paired.length k4
  have hl : vs.length + us.length ≤ sizeLine := Nat.le_trans (by omega : _ ≤ 1000000) (by decide)
  exact ⟨a, b, vs, us, rfl, rfl, h2, k2, hl, fun p hp => q p _ _ (h.freshB hp) (h.pushO hp ⟨vs ++ us, rfl, by rw [List.length_append]; exact hl, paired_append h4 k4⟩)⟩
/-- a new list of one's own is frozen at once -/
theorem S_frz {zs : List α} {D : Addr} (h : St K B F H (some (.ref D) :: w) (.own D zs :: M)) (hB : B.H D = none) (P : Prop) (q : ∀ F', St K B F' H (some (.ref D) :: w) (.fz zs :: M) → P) : P := by
  obtain ⟨F', h'⟩ := h.frz hB
  exact q F' h'
/-! ### subscripts -/
theorem paired_atI {R : V → α → Prop} {vs : List V} {xs : List α} {i : Int} {y : α} (h : Paired R vs xs) (e : atI xs i = some y) : ∃ v, atI vs i = some v ∧ R v y := by
  have hl : vs.length = xs.length := Paired.length h
  unfold atI at e ⊢
  rw [hl]
  cases q : ixN xs.length i with
  | none => rw [q] at e; cases e
  | some j =>
    rw [q] at e
    exact Paired.at h e
theorem S_ixL {x : List α} {v : V} {i : Int} {y : α} (h : St K B F H w M) (hv : ViewL K F H v x) (hm : atI x i = some y) (q : ∀ u, St K B F H (some u :: w) (.fz y :: M) → Q u H) : rIxL K v (.int i) H Q := by
  obtain ⟨a, vs, rfl, h2, h3, h4⟩ := hv
  obtain ⟨u, e, r⟩ := paired_atI h4 hm
  exact ⟨a, vs, i, u, rfl, rfl, .inl (.inl h2), e, q u (h.push r)⟩
theorem S_ixT {x : Tup α} {v : V} {i : Int} {y : α} (h : St K B F H w M) (hv : rp K F v x) (hm : atI x.l i = some y) (q : ∀ u, St K B F H (some u :: w) (.fz y :: M) → Q u H) : rIxT K v (.int i) H Q := by
  obtain ⟨a, vs, rfl, h2, h3, h4⟩ := hv
  obtain ⟨u, e, r⟩ := paired_atI h4 hm
  exact ⟨a, vs, i, u, rfl, rfl, ex_t h.fh h2.sq, e, q u (h.push r)⟩
theorem S_ixP0 {x : α × β} {v : V} (h : St K B F H w M) (hv : rp K F v x) (q : ∀ u, St K B F H (some u :: w) (.fz x.1 :: M) → Q u H) : rIxT K v (.int 0) H Q := by
  obtain ⟨a, v1, v2, rfl, h2, h3, h4⟩ := hv
  exact ⟨a, [v1, v2], 0, v1, rfl, rfl, ex_t h.fh h2.sq, rfl, q v1 (h.push h3)⟩
theorem S_ixP1 {x : α × β} {v : V} (h : St K B F H w M) (hv : rp K F v x) (q : ∀ u, St K B F H (some u :: w) (.fz x.2 :: M) → Q u H) : rIxT K v (.int 1) H Q := by
  obtain ⟨a, v1, v2, rfl, h2, h3, h4⟩ := hv
  exact ⟨a, [v1, v2], 1, v2, rfl, rfl, ex_t h.fh h2.sq, rfl, q v2 (h.push h4)⟩
theorem S_ixScr {x : Scr} {v : V} {i y : Int} (h : St K B F H w M) (hv : rp K F v x) (hm : atI x.l i = some y) (q : Q (.int y) H) : rIxL K v (.int i) H Q := by
  obtain ⟨a, rfl, h2, h3⟩ := hv
  refine ⟨a, _, i, .int y, rfl, rfl, ex_l h.fh h2, ?_, q⟩
  unfold atI at hm ⊢
  rw [List.length_map]
  cases e : ixN x.l.length i with
  | none => rw [e] at hm; cases hm
  | some j =>
    rw [e] at hm
    show (x.l.map V.int)[j]? = some (.int y)
    rw [List.getElem?_map, show x.l[j]? = some y from hm]
    rfl
/-! ### calls of what is built in -/
def rLenG (K : Fg) : List V → Hp → VK → Prop := fun xs H Q => ∃ p ys, xs = [.ref p] ∧ (SqL K H p ys ∨ SqT K H p ys) ∧ Q (.int ys.length) H
theorem cr_lenG {X : Cx} : CallR X (.builtin "len") (rLenG X.K) := call_len_seq
theorem S_lenL {x : List α} {v : V} (hv : ViewL K F H v x) (q : Q (.int (x.length : Int)) H) : rLenG K [v] H Q := by
  obtain ⟨a, vs, rfl, h2, h3, h4⟩ := hv
  exact ⟨a, vs, rfl, .inl (.inl (.inl h2)), by rw [Paired.length h4]; exact q⟩
theorem S_lenT {x : Tup α} {v : V} (h : St K B F H w M) (hv : rp K F v x) (q : Q (.int (x.l.length : Int)) H) : rLenG K [v] H Q := by
  obtain ⟨a, vs, rfl, h2, h3, h4⟩ := hv
  exact ⟨a, vs, rfl, .inr (ex_t h.fh h2.sq), by rw [Paired.length h4]; exact q⟩
theorem S_lenScr {x : Scr} {v : V} (h : St K B F H w M) (hv : rp K F v x) (q : Q (.int (x.l.length : Int)) H) : rLenG K [v] H Q := by
  obtain ⟨a, rfl, h2, h3⟩ := hv
  exact ⟨a, _, rfl, .inl (ex_l h.fh h2), by rw [List.length_map]; exact q⟩
def pyAbs (i : Int) : Int := if i < 0 then -i else i
def pyMax (i j : Int) : Int := if j > i then j else i
def pyMin (i j : Int) : Int := if j < i then j else i
def rAbsG : List V → Hp → VK → Prop := fun xs H Q => ∃ i, xs = [.int i] ∧ Q (.int (pyAbs i)) H
def rMaxG : List V → Hp → VK → Prop := fun xs H Q => ∃ i j, xs = [.int i, .int j] ∧ Q (.int (pyMax i j)) H
def rMinG : List V → Hp → VK → Prop := fun xs H Q => ∃ i j, xs = [.int i, .int j] ∧ Q (.int (pyMin i j)) H
theorem cr_absG {X : Cx} : CallR X (.builtin "abs") rAbsG := call_abs
theorem cr_maxG {X : Cx} (hc : X.calm = true) : CallR X (.builtin "max") rMaxG := call_max2 hc
theorem cr_minG {X : Cx} (hc : X.calm = true) : CallR X (.builtin "min") rMinG := call_min2 hc
theorem S_abs {i : Int} (q : Q (.int (pyAbs i)) H) : rAbsG [.int i] H Q := ⟨i, rfl, q⟩
theorem S_max {i j : Int} (q : Q (.int (pyMax i j)) H) : rMaxG [.int i, .int j] H Q := ⟨i, j, rfl, q⟩
theorem S_min {i j : Int} (q : Q (.int (pyMin i j)) H) : rMinG [.int i, .int j] H Q := ⟨i, j, rfl, q⟩
def rDivG : List V → Hp → VK → Prop := fun xs H Q => ∃ i j, xs = [.int i, .int j] ∧ CDiv i j ∧ ∀ p, H p = none → Q (.ref p) (upd H p (.tup [.int (i / j), .int (i % j)]))
theorem cr_divG {X : Cx} : CallR X (.builtin "divmod") rDivG := call_divmod
def divmodO (i j : Int) : Option (Int × Int) := if 0 < j ∧ j < 1073741824 then some (i / j, i % j) else none
theorem S_divmod {i j : Int} {z : Int × Int} (h : St K B F H w M) (hm : divmodO i j = some z) (q : ∀ p F' H', St K B F' H' (some (.ref p) :: w) (.fz z :: M) → Q (.ref p) H') : rDivG [.int i, .int j] H Q := by
  unfold divmodO at hm
  split at hm
  · rename_i hc
    have e := Option.some.inj hm
    subst e
    refine ⟨i, j, rfl, hc, fun p hp => q p _ _ ((h.newF hp).push ⟨p, _, _, rfl, .inl upd_same, rfl, rfl⟩)⟩
  · cases hm
def modO (i j : Int) : Option Int := if 0 < j then some (i % j) else none
def fdivO (i j : Int) : Option Int := if 0 < j ∧ j < 1073741824 then some (i / j) else none
def mulO (i j : Int) : Option Int := if (-(2 ^ 64) < i ∧ i < 2 ^ 64) ∨ (-(2 ^ 64) < j ∧ j < 2 ^ 64) then some (i * j) else none
theorem S_mod {i j z : Int} (hm : modO i j = some z) (q : Q (.int z) H) : rI (fun _ j => 0 < j) (fun i j => .int (i % j)) (.int i) (.int j) H Q := by
  unfold modO at hm
  split at hm
  · have e := Option.some.inj hm
    subst e
    exact ⟨i, j, rfl, rfl, by assumption, q⟩
  · cases hm
theorem S_fdiv {i j z : Int} (hm : fdivO i j = some z) (q : Q (.int z) H) : rI CDiv (fun i j => .int (i / j)) (.int i) (.int j) H Q := by
  unfold fdivO at hm
  split at hm
  · have e := Option.some.inj hm
    subst e
    exact ⟨i, j, rfl, rfl, by assumption, q⟩
  · cases hm
theorem S_mul {i j z : Int} (hm : mulO i j = some z) (q : Q (.int z) H) : rI CMul (fun i j => .int (i * j)) (.int i) (.int j) H Q := by
  unfold mulO at hm
  split at hm
  · have e := Option.some.inj hm
    subst e
    exact ⟨i, j, rfl, rfl, by assumption, q⟩
  · cases hm
def rTupG (K : Fg) : List V → Hp → VK → Prop := fun xs H Q => ∃ p ys, xs = [.ref p] ∧ ((SqL K H p ys ∧ ∀ l, H l = none → Q (.ref l) (upd H l (.tup ys))) ∨ (SqT K H p ys ∧ Q (.ref p) H))
theorem cr_tupG {X : Cx} : CallR X (.type "tuple") (rTupG X.K) := call_tuple_of
theorem S_tupL {x : List α} {v : V} (h : St K B F H w M) (hv : ViewL K F H v x) (q : ∀ p F' H', St K B F' H' (some (.ref p) :: w) (.fz (Tup.mk x) :: M) → Q (.ref p) H') : rTupG K [v] H Q := by
  obtain ⟨a, vs, rfl, h2, h3, h4⟩ := hv
  refine ⟨a, vs, rfl, .inl ⟨.inl (.inl h2), fun p hp => ?_⟩⟩
  have en : Ex F (upd F p (.tup vs)) := Ex.new (fresh_back h.fh hp)
  exact q p _ _ ((h.newF hp).push ⟨p, vs, rfl, .inl upd_same, h3, paired_mono en h4⟩)
theorem S_tupT {x : Tup α} {v : V} (h : St K B F H w M) (hv : rp K F v x) (q : ∀ p F' H', St K B F' H' (some p :: w) (.fz x :: M) → Q p H') : rTupG K [v] H Q := by
  obtain ⟨a, vs, rfl, h2, h3, h4⟩ := hv
  exact ⟨a, vs, rfl, .inr ⟨ex_t h.fh h2.sq, q _ _ _ (h.push ⟨a, vs, rfl, h2, h3, h4⟩)⟩⟩
def rListG (K : Fg) : List V → Hp → VK → Prop := fun xs H Q => ∃ p ys, xs = [.ref p] ∧ (SqL K H p ys ∨ SqT K H p ys) ∧ ∀ l, H l = none → Q (.ref l) (upd H l (.lst ys))
theorem cr_listG {X : Cx} : CallR X (.type "list") (rListG X.K) := call_list_of
theorem S_listL {x : List α} {v : V} (h : St K B F H w M) (hv : ViewL K F H v x) (q : ∀ p F' H', B.H p = none → St K B F' H' (some (.ref p) :: w) (.own p x :: M) → Q (.ref p) H') : rListG K [v] H Q := by
  obtain ⟨a, vs, rfl, h2, h3, h4⟩ := hv
  exact ⟨a, vs, rfl, .inl (.inl (.inl h2)), fun p hp => q p _ _ (h.freshB hp) (h.pushO hp ⟨vs, rfl, h3, h4⟩)⟩
theorem S_listT {x : Tup α} {v : V} (h : St K B F H w M) (hv : rp K F v x) (q : ∀ p F' H', B.H p = none → St K B F' H' (some (.ref p) :: w) (.own p x.l :: M) → Q (.ref p) H') : rListG K [v] H Q := by
  obtain ⟨a, vs, rfl, h2, h3, h4⟩ := hv
  exact ⟨a, vs, rfl, .inr (ex_t h.fh h2.sq), fun p hp => q p _ _ (h.freshB hp) (h.pushO hp ⟨vs, rfl, h3, h4⟩)⟩
theorem paired_ints {F : Hp} : ∀ {vs : List V} {xs : List Int}, Paired (rp K F) vs xs → vs = xs.map V.int
  | _, _, .nil => rfl
  | _, _, .cons r t => by
    have e : _ = V.int _ := r
    rw [e, paired_ints t]
    rfl
theorem paired_bools {F : Hp} : ∀ {vs : List V} {xs : List Bool}, Paired (rp K F) vs xs → vs = xs.map V.bl
  | _, _, .nil => rfl
  | _, _, .cons r t => by
    have e : _ = V.bl _ := r
    rw [e, paired_bools t]
    rfl
theorem S_all {x : List Bool} {v : V} (hv : ViewL K F H v x) (q : Q (.bl (x.all id)) H) : rAll K [v] H Q := by
  obtain ⟨a, vs, rfl, h2, h3, h4⟩ := hv
  exact ⟨a, x, rfl, by rw [← paired_bools h4]; exact .inl (.inl h2), q⟩
theorem S_any {x : List Bool} {v : V} (hv : ViewL K F H v x) (q : Q (.bl (x.any id)) H) : rAny K [v] H Q := by
  obtain ⟨a, vs, rfl, h2, h3, h4⟩ := hv
  exact ⟨a, x, rfl, by rw [← paired_bools h4]; exact .inl (.inl h2), q⟩
def b2z (b : Bool) : Int := if b then 1 else 0
def rIntG : List V → Hp → VK → Prop := fun xs H Q => (∃ i, xs = [.int i] ∧ Q (.int i) H) ∨ ∃ k, xs = [.bl k] ∧ Q (.int (b2z k)) H
theorem cr_intG {X : Cx} : CallR X (.type "int") rIntG := call_int1
theorem S_intB {b : Bool} (q : Q (.int (b2z b)) H) : rIntG [.bl b] H Q := .inr ⟨b, rfl, q⟩
/-! ### isinstance -/
theorem ty_int {x : Int} : TyX K H (.int x) (.type "int") := .base (.int x)
theorem ty_bool {x : Bool} : TyX K H (.bl x) (.type "bool") := .base (.bl x)
theorem ty_str {x : Str} : TyX K H (.str x) (.type "str") := .base (.str x)
theorem ty_list {x : List α} {v : V} (hv : ViewL K F H v x) : TyX K H v (.type "list") := by
  obtain ⟨a, vs, rfl, h2, _⟩ := hv
  exact .base (.lst h2)
theorem ty_tup {x : Tup α} {v : V} (h : St K B F H w M) (hv : rp K F v x) : TyX K H v (.type "tuple") := by
  obtain ⟨a, vs, rfl, h2, _⟩ := hv
  exact (h2.mono h.fh).ty
theorem ty_pair {x : α × β} {v : V} (h : St K B F H w M) (hv : rp K F v x) : TyX K H v (.type "tuple") := by
  obtain ⟨a, v1, v2, rfl, h2, _⟩ := hv
  exact (h2.mono h.fh).ty
theorem S_isi {v : V} {t u : String} {b : Bool} (ht : TyX K H v (.type t)) (hk : kitB t u = some b) (q : Q (.bl b) H) : rIsi K [v, .ty u] H Q := ⟨v, .ty u, .type t, .type u, b, rfl, .ty u, ht, kit_ty hk, q⟩
/-! ### what a loop walks -/
theorem S_itL {va : V} {x : List α} {R : It → Hp → Prop} (hx : ViewL K F H va x) (q : ∀ a, va = .ref a → R (Itl K a) H) : ItLG K va H R := by
  obtain ⟨a, vs, rfl, h2, h3, h4⟩ := hx
  exact ⟨a, rfl, ⟨vs, .inl (.inl h2)⟩, q a rfl⟩
theorem S_itT {va : V} {x : Tup α} {R : It → Hp → Prop} (h : St K B F H w M) (hx : rp K F va x) (q : ∀ a, va = .ref a → R (Itt K a) H) : ItTG K va H R := by
  obtain ⟨a, vs, rfl, h2, h3, h4⟩ := hx
  exact ⟨a, rfl, ⟨vs, ex_t h.fh h2.sq⟩, q a rfl⟩
theorem S_zipT {va vb : V} {x : Tup α} {y : Tup β} {R : It → Hp → Prop} (h : St K B F H w M) (hx : rp K F va x) (hy : rp K F vb y) (q : ∀ a b, va = .ref a → vb = .ref b → R (RZ.ItzT K a b) H) : ZipG K [va, vb] H R := by
  obtain ⟨a, vs, rfl, h2, h3, h4⟩ := hx
  obtain ⟨b, us, rfl, k2, k3, k4⟩ := hy
  exact ⟨a, b, vs, us, rfl, .inr ⟨ex_t h.fh h2.sq, ex_t h.fh k2.sq, q a b rfl rfl⟩⟩
theorem S_zipL {va vb : V} {x : List α} {y : List β} {R : It → Hp → Prop} (hx : ViewL K F H va x) (hy : ViewL K F H vb y) (q : ∀ a b, va = .ref a → vb = .ref b → R (Itz K a b) H) : ZipG K [va, vb] H R := by
  obtain ⟨a, vs, rfl, h2, h3, h4⟩ := hx
  obtain ⟨b, us, rfl, k2, k3, k4⟩ := hy
  exact ⟨a, b, vs, us, rfl, .inl ⟨.inl (.inl h2), .inl (.inl k2), q a b rfl rfl⟩⟩
theorem S_enum {va : V} {x : List α} {R : It → Hp → Prop} (hx : ViewL K F H va x) (q : ∀ a, va = .ref a → R (Ite K a) H) : EnuG K [va] H R := by
  obtain ⟨a, vs, rfl, h2, h3, h4⟩ := hx
  exact ⟨a, vs, rfl, .inl (.inl h2), q a rfl⟩
def rangeO (n : Int) : Option (List Int) := if -1000000 ≤ n ∧ n < 1000000 then some ((List.range n.toNat).map fun (i : Nat) => (0 : Int) + (i : Int)) else none
def rangeO2 (lo hi : Int) : Option (List Int) := if -1000000 ≤ lo ∧ lo < 1000000 ∧ -1000000 ≤ hi ∧ hi < 1000000 then some ((List.range (hi - lo).toNat).map fun (i : Nat) => lo + (i : Int)) else none
theorem S_rng1 {n : Int} {zs : List Int} {R : It → Hp → Prop} (hm : rangeO n = some zs) (q : ∀ J, Yields K J (fun _ _ => True) zs → R J H) : RngG1 [.int n] H R := by
  unfold rangeO at hm
  split at hm
  · have e := Option.some.inj hm
    subst e
    exact ⟨n, rfl, by omega, by omega, q _ (yields_range 0 n.toNat)⟩
  · cases hm
theorem S_rng2 {lo hi : Int} {zs : List Int} {R : It → Hp → Prop} (hm : rangeO2 lo hi = some zs) (q : ∀ J, Yields K J (fun _ _ => True) zs → R J H) : RngG2 [.int lo, .int hi] H R := by
  unfold rangeO2 at hm
  split at hm
  · have e := Option.some.inj hm
    subst e
    exact ⟨lo, hi, rfl, ⟨by omega, by omega, by omega, by omega⟩, q _ (yields_range lo (hi - lo).toNat)⟩
  · cases hm
end

end G

set_option Elab.async false
set_option linter.all false
set_option maxRecDepth 100000
set_option maxHeartbeats 4000000
/-! G3: sorted lists of names. -/
namespace G
open PySem PySem.Spec PyProof.Rows L2
open Rp (rp)
open Ow (ow)

/-! ### sorting, plainly -/
section
variable {α : Type}
def ins (lt : α → α → Bool) (x : α) : List α → List α
  | [] => [x]
  | y :: ys => if lt x y then x :: y :: ys else y :: ins lt x ys
def isort (lt : α → α → Bool) : List α → List α
  | [] => []
  | x :: xs => ins lt x (isort lt xs)
theorem ins_perm (lt : α → α → Bool) (x : α) : ∀ ys : List α, (ins lt x ys).Perm (x :: ys)
  | [] => .refl _
  | y :: ys => by
    unfold ins
    split
    · exact .refl _
    · exact ((ins_perm lt x ys).cons y).trans (.swap x y ys)
theorem isort_perm (lt : α → α → Bool) : ∀ xs : List α, (isort lt xs).Perm xs
  | [] => .refl _
  | x :: xs => (ins_perm lt x (isort lt xs)).trans ((isort_perm lt xs).cons x)
/-- a strict total order, on those that are P -/
structure Lin (P : α → Prop) (lt : α → α → Bool) : Prop where
  irr : ∀ x, P x → lt x x = false
  tr : ∀ x y z, P x → P y → P z → lt x y = true → lt y z = true → lt x z = true
  tot : ∀ x y, P x → P y → lt x y = false → lt y x = false → x = y
theorem Lin.le_tr {P : α → Prop} {lt : α → α → Bool} (L : Lin P lt) {x y z : α} (px : P x) (py : P y) (pz : P z) (h1 : lt y x = false) (h2 : lt z y = false) : lt z x = false := by
  cases h : lt z x with
  | false => rfl
  | true =>
    cases h3 : lt x y with
    | true => rw [L.tr z x y pz px py h h3] at h2; cases h2
    | false =>
      have e := L.tot x y px py h3 h1
      subst e
      rw [h] at h2
      cases h2
theorem Lin.asym {P : α → Prop} {lt : α → α → Bool} (L : Lin P lt) {x y : α} (px : P x) (py : P y) (h : lt x y = true) : lt y x = false := by
  cases h2 : lt y x with
  | false => rfl
  | true =>
    have := L.tr x y x px py px h h2
    rw [L.irr x px] at this
    cases this
theorem ins_sorted {P : α → Prop} {lt : α → α → Bool} (L : Lin P lt) {x : α} (px : P x) : ∀ {ys : List α}, (∀ y ∈ ys, P y) → ys.Pairwise (fun a b => lt b a = false) → (ins lt x ys).Pairwise (fun a b => lt b a = false)
  | [], _, _ => List.pairwise_singleton ..
  | y :: ys, hp, h => by
    have py := hp y (List.mem_cons_self ..)
    obtain ⟨h1, h2⟩ := List.pairwise_cons.mp h
    unfold ins
    split
    · rename_i hlt
      refine List.pairwise_cons.mpr ⟨fun z hz => ?_, h⟩
      rcases List.mem_cons.mp hz with e | hz
      · rw [e]; exact L.asym px py hlt
      · exact L.le_tr px py (hp z (List.mem_cons_of_mem _ hz)) (L.asym px py hlt) (h1 z hz)
    · rename_i hlt
      refine List.pairwise_cons.mpr ⟨fun z hz => ?_, ins_sorted L px (fun z hz => hp z (List.mem_cons_of_mem _ hz)) h2⟩
      rcases List.mem_cons.mp ((ins_perm lt x ys).mem_iff.mp hz) with e | hz
      · rw [e]; simpa using hlt
      · exact h1 z hz
theorem isort_sorted {P : α → Prop} {lt : α → α → Bool} (L : Lin P lt) : ∀ {xs : List α}, (∀ y ∈ xs, P y) → (isort lt xs).Pairwise (fun a b => lt b a = false)
  | [], _ => .nil
  | x :: xs, hp => ins_sorted L (hp x (List.mem_cons_self ..)) (fun y hy => hp y (List.mem_cons_of_mem _ ((isort_perm lt xs).mem_iff.mp hy))) (isort_sorted L fun y hy => hp y (List.mem_cons_of_mem _ hy))
theorem sorted_uniq {P : α → Prop} {lt : α → α → Bool} (L : Lin P lt) : ∀ {xs ys : List α}, (∀ y ∈ xs, P y) → xs.Perm ys → xs.Pairwise (fun a b => lt b a = false) → ys.Pairwise (fun a b => lt b a = false) → xs = ys
  | [], ys, _, h, _, _ => (List.Perm.eq_nil h.symm).symm
  | x :: xs, [], _, h, _, _ => absurd h.length_eq (by simp)
  | x :: xs, y :: ys, hp, h, h1, h2 => by
    obtain ⟨a1, a2⟩ := List.pairwise_cons.mp h1
    obtain ⟨b1, b2⟩ := List.pairwise_cons.mp h2
    have px := hp x (List.mem_cons_self ..)
    have hy : y ∈ x :: xs := h.mem_iff.mpr (List.mem_cons_self ..)
    have py := hp y hy
    have e1 : lt y x = false := by
      rcases List.mem_cons.mp hy with e | m
      · rw [e]; exact L.irr x px
      · exact a1 y m
    have e2 : lt x y = false := by
      rcases List.mem_cons.mp (h.mem_iff.mp (List.mem_cons_self ..)) with e | m
      · rw [e]; exact L.irr y py
      · exact b1 x m
    have e := L.tot x y px py e2 e1
    subst e
    rw [sorted_uniq L (fun z hz => hp z (List.mem_cons_of_mem _ hz)) h.cons_inv a2 b2]
theorem isort_uniq {P : α → Prop} {lt : α → α → Bool} (L : Lin P lt) {xs ys : List α} (hp : ∀ y ∈ xs, P y) (h : ys.Perm xs) (h1 : ys.Pairwise (fun a b => lt b a = false)) : ys = isort lt xs :=
  sorted_uniq L (fun y hy => hp y (h.mem_iff.mp hy)) (h.trans (isort_perm lt xs).symm) h1 (isort_sorted L hp)
end
/-! ### names: tuples of ints -/
def ltT (x y : Tup Int) : Bool := HT.lexLt x.l y.l
theorem lex_irr : ∀ x : List Int, HT.lexLt x x = false
  | [] => rfl
  | a :: x => by unfold HT.lexLt; rw [if_pos rfl]; exact lex_irr x
theorem lex_tot : ∀ x y : List Int, HT.lexLt x y = false → HT.lexLt y x = false → x = y
  | [], [], _, _ => rfl
  | [], _ :: _, h, _ => by cases h
  | _ :: _, [], _, h => by cases h
  | a :: x, b :: y, h, k => by
    unfold HT.lexLt at h k
    by_cases e : a = b
    · subst e
      rw [if_pos rfl] at h k
      rw [lex_tot x y h k]
    · rw [if_neg e] at h
      rw [if_neg fun z => e z.symm] at k
      have := of_decide_eq_false h
      have := of_decide_eq_false k
      omega
theorem lex_tr : ∀ x y z : List Int, HT.lexLt x y = true → HT.lexLt y z = true → HT.lexLt x z = true
  | _, _, [], _, h => by cases ‹List Int› <;> cases h
  | [], _, _ :: _, _, _ => rfl
  | _ :: _, [], _, h, _ => by cases h
  | a :: x, b :: y, c :: z, h, k => by
    unfold HT.lexLt at h k ⊢
    by_cases e1 : a = b
    · subst e1
      rw [if_pos rfl] at h
      by_cases e2 : a = c
      · subst e2
        rw [if_pos rfl] at k ⊢
        exact lex_tr x y z h k
      · rw [if_neg e2] at k ⊢
        exact k
    · rw [if_neg e1] at h
      have h' := of_decide_eq_true h
      by_cases e2 : b = c
      · subst e2
        rw [if_neg e1]
        exact h
      · rw [if_neg e2] at k
        have k' := of_decide_eq_true k
        rw [if_neg (by omega)]
        exact decide_eq_true (by omega)
theorem lin_ltT : Lin (fun _ => True) ltT := ⟨fun x _ => lex_irr x.l, fun x y z _ _ _ => lex_tr x.l y.l z.l, fun x y _ _ h k => by
  have := lex_tot x.l y.l h k
  cases x; cases y; simp_all⟩
theorem code_le : ∀ (x y : List Int), x.length = y.length → TS.Bd 64 x → TS.Bd 64 y → TS.code 64 x ≤ TS.code 64 y → HT.lexLt y x = false
  | [], [], _, _, _, _ => rfl
  | a :: x, b :: y, hl, bx, by', h => by
    have hl' : x.length = y.length := by simpa using hl
    have bx' : TS.Bd 64 x := fun m hm => bx m (List.mem_cons_of_mem _ hm)
    have by'' : TS.Bd 64 y := fun m hm => by' m (List.mem_cons_of_mem _ hm)
    unfold HT.lexLt
    by_cases e : b = a
    · subst e
      rw [if_pos rfl]
      refine code_le x y hl' bx' by'' ?_
      rcases Int.lt_or_le (TS.code 64 y) (TS.code 64 x) with q | q
      · have := (TS.code_same (d := b) hl'.symm).mpr q
        omega
      · exact q
    · rw [if_neg e]
      refine decide_eq_false fun z => ?_
      have := TS.code_lt hl'.symm by'' bx' z
      omega
  | [], _ :: _, hl, _, _, _ => by simp at hl
  | _ :: _, [], hl, _, _, _ => by simp at hl
/-- names that are sorted: fewer than 64, of one length, of numbers from 0 to 63 -/
def sortT (xs : List (Tup Int)) : Option (List (Tup Int)) :=
  if decide (xs.length < 64) && xs.all (fun x => decide (x.l.length = ((xs.headD ⟨[]⟩).l.length)) && decide (1 ≤ x.l.length) && x.l.all fun i => decide (0 ≤ i ∧ i < 64)) then some (isort ltT xs) else none
/-- the rule, whatever the length -/
def rSortA (K : Fg) : List V → Hp → VK → Prop := fun vs H Q => ∃ d : Nat, 1 ≤ d ∧ rSortU K d 64 vs H Q
theorem cr_sortA {X : Cx} : CallR X (.builtin "sorted") (rSortA X.K) := by
  intro pins s σ H vs us Q I r h
  obtain ⟨d, hd, h⟩ := h
  exact cr_sortT hd pins s σ H vs us Q I r h
theorem paired_perm {α : Type} {R : V → α → Prop} {ys xs : List V} (p : ys.Perm xs) : ∀ {zs : List α}, Paired R xs zs → ∃ ws, Paired R ys ws ∧ ws.Perm zs := by
  induction p with
  | nil => intro zs h; cases h; exact ⟨[], .nil, .refl _⟩
  | cons x p ih =>
    intro zs h
    cases h with
    | cons r t =>
      obtain ⟨ws, h1, h2⟩ := ih t
      exact ⟨_ :: ws, .cons r h1, h2.cons _⟩
  | swap x y l =>
    intro zs h
    cases h with
    | cons r t =>
      cases t with
      | cons r2 t => exact ⟨_ :: _ :: _, .cons r2 (.cons r t), .swap ..⟩
  | trans p1 p2 ih1 ih2 =>
    intro zs h
    obtain ⟨ws, h1, h2⟩ := ih2 h
    obtain ⟨us, h3, h4⟩ := ih1 h1
    exact ⟨us, h3, h4.trans h2⟩
theorem paired_at2 {α β : Type} {R : α → β → Prop} : ∀ {xs : List α} {ys : List β} {i : Nat} {x : α}, Paired R xs ys → xs[i]? = some x → ∃ y, ys[i]? = some y ∧ R x y
  | _, _, _, _, .nil, e => by simp at e
  | _, _, 0, y, .cons r _, e => by
    simp at e
    subst e
    exact ⟨_, rfl, r⟩
  | _, _, i + 1, y, .cons _ t, e => by
    obtain ⟨x, h1, h2⟩ := paired_at2 (i := i) t (by simpa using e)
    exact ⟨x, by simpa using h1, h2⟩
theorem paired_mem {α : Type} {R : V → α → Prop} {xs : List V} {ys : List α} (h : Paired R xs ys) {x : V} (m : x ∈ xs) : ∃ y, y ∈ ys ∧ R x y := by
  obtain ⟨i, hi⟩ := List.getElem?_of_mem m
  obtain ⟨y, h1, h2⟩ := paired_at2 h hi
  exact ⟨y, List.mem_of_getElem? h1, h2⟩
theorem paired_pw {α : Type} {R : V → α → Prop} {S : V → V → Prop} {T : α → α → Prop} (k : ∀ x y a b, R x a → R y b → S x y → T a b) : ∀ {xs : List V} {ys : List α}, Paired R xs ys → xs.Pairwise S → ys.Pairwise T
  | _, _, .nil, _ => .nil
  | _, _, .cons (a := x) (b := a) r t, h => by
    obtain ⟨h1, h2⟩ := List.pairwise_cons.mp h
    refine List.pairwise_cons.mpr ⟨fun b hb => ?_, paired_pw k t h2⟩
    obtain ⟨i, hi⟩ := List.getElem?_of_mem hb
    obtain ⟨y, g1, g2⟩ := Paired.at t hi
    exact k x y a b r g2 (h1 y (List.mem_of_getElem? g1))
section
variable {K : Fg} {B : Base} {F H : Hp} {w : List (Option V)} {M : List Slot} {Q : VK}
theorem S_sortT {xs zs : List (Tup Int)} {v : V} (h : St K B F H w M) (hv : ViewL K F H v xs) (hm : sortT xs = some zs) (q : ∀ p F' H', B.H p = none → St K B F' H' (some (.ref p) :: w) (.own p zs :: M) → Q (.ref p) H') : rSortA K [v] H Q := by
  unfold sortT at hm
  split at hm
  · rename_i hc
    have hz := Option.some.inj hm
    subst hz
    rw [Bool.and_eq_true] at hc
    obtain ⟨h64, hall⟩ := hc
    have h64 := of_decide_eq_true h64
    obtain ⟨a, vs, rfl, h2, h3, h4⟩ := hv
    have hl : vs.length = xs.length := Paired.length h4
    have hx : ∀ x ∈ xs, x.l.length = (xs.headD ⟨[]⟩).l.length ∧ 1 ≤ x.l.length ∧ TS.Bd 64 x.l := fun x m => by
      have := List.all_eq_true.mp hall x m
      simp only [Bool.and_eq_true, decide_eq_true_eq, List.all_eq_true] at this
      exact ⟨this.1.1, this.1.2, fun i hi => this.2 i hi⟩
    have hT : ∀ x : V, ∀ t : Tup Int, rp K F x t → TupI K H x t.l := fun x t r => by
      obtain ⟨b, us, rfl, k2, k3, k4⟩ := r
      have e := paired_ints k4
      subst e
      exact ⟨b, rfl, ex_t h.fh k2.sq⟩
    refine ⟨max 1 (xs.headD ⟨[]⟩).l.length, Nat.le_max_left .., a, vs, rfl, .inl (.inl h2), by omega, fun x m => ?_, fun ys p hp hs hpn => ?_⟩
    · obtain ⟨t, ht, r⟩ := paired_mem h4 m
      obtain ⟨e1, e2, e3⟩ := hx t ht
      exact ⟨t.l, hT x t r, by omega, e3⟩
    · obtain ⟨ws, h5, h6⟩ := paired_perm hp h4
      have hw : ∀ t ∈ ws, t ∈ xs := fun t m => h6.mem_iff.mp m
      have e : ws = isort ltT xs := by
        refine isort_uniq lin_ltT (fun _ _ => trivial) h6 ?_
        have key : ws.Pairwise fun a b => TS.code 64 a.l ≤ TS.code 64 b.l := paired_pw (fun x y a b ra rb s => s _ _ (hT x a ra) (hT y b rb)) h5 hs
        exact List.Pairwise.imp_of_mem (fun {a b} ma mb s => code_le a.l b.l (by rw [(hx a (hw a ma)).1, (hx b (hw b mb)).1]) (hx a (hw a ma)).2.2 (hx b (hw b mb)).2.2 s) key
      subst e
      refine q p F _ (h.freshB hpn) (h.pushO hpn ⟨ys, rfl, ?_, h5⟩)
      rw [hp.length_eq]
      exact h3
  · cases hm
end
end G
namespace G
open PySem PySem.Spec PyProof.Rows L2
open Rp (rp)
open Ow (ow)
section
variable {K : Fg} {B : Base} {F H : Hp} {w : List (Option V)} {σ : L2.St} {M : List Slot} {Q : VK} {D : Ends} {t u : TS} {te ta tb : TE} {g : TG} {wi : TI} {tt : TT} {vs : List Nat} {R : It → Hp → Prop}
theorem S_mapO {ts : List (Option V)} {TM : List Slot} {β γ : Type} [Rp β] [Rp γ] {J : It} {P : Hp → Hp → Prop} {ys : List β} {f : β → Option γ} {zs : List γ} (Y : Yields K J P ys) (hm : mapO f ys = some zs) (h : St K B F H (ts ++ σ) (TM ++ M)) (hTM : TM.length = ts.length) (hf : Free M vs)
    (hlen : ys.length ≤ sizeLine) (hP : ∀ w F H, St K B F H (ts ++ w) (TM ++ M) → P F H)
    (turn : ∀ (x : β) (z : γ) v D (acc : List γ) F H (G : V → Hp → Prop) (N : Hp → Prop), f x = some z → St K B F H (some v :: some (.ref D) :: (ts ++ wipe σ vs)) (.fz x :: .own D acc :: (TM ++ M)) →
      (∀ y F' H', St K B F' H' (some (.ref D) :: (ts ++ wipe σ vs)) (.own D acc :: (TM ++ M)) → rp K F' y z → G y H') →
      g v (wipe σ vs) H fun σ2 H2 => wipe σ2 vs = wipe σ vs ∧ if true = true then te σ2 H2 G else N H2)
    (hend : ∀ D F H, B.H D = none → St K B F H (some (.ref D) :: (ts ++ σ)) (.own D zs :: (TM ++ M)) → Q (.ref D) H) : LcG J g tYes te vs σ H Q := by
  have hc : compS (τ := Unit) (fun x s => (f x).bind fun y => some (some y, s)) ys () = some (zs, ()) := by
    rw [compS_map, hm]
    rfl
  refine S_comp (Mf := fun _ : Unit => M) Y hc h hTM (fun _ => hf) hlen (fun _ => hP) (fun i x s p v D acc F H G N hx hp h' hG hN => ?_) fun D F H hB h' => hend D F H hB h'
  obtain ⟨z, hz, hp⟩ := ob hp
  have hp := Option.some.inj hp
  subst hp
  exact turn x z v D acc F H G N hz h' fun y F' H' h'' r => hG y z F' H' rfl h'' r
theorem S_selO {ts : List (Option V)} {TM : List Slot} {β γ : Type} [Rp β] [Rp γ] {J : It} {P : Hp → Hp → Prop} {ys : List β} {p : β → Option Bool} {f : β → Option γ} {zs : List γ} (Y : Yields K J P ys) (hm : selO p f ys = some zs) (h : St K B F H (ts ++ σ) (TM ++ M)) (hTM : TM.length = ts.length) (hf : Free M vs)
    (hlen : ys.length ≤ sizeLine) (hP : ∀ w F H, St K B F H (ts ++ w) (TM ++ M) → P F H)
    (turn : ∀ (x : β) (c : Bool) v D (acc : List γ) F H (G : V → Hp → Prop) (N : Hp → Prop), p x = some c → (c = true → ∃ z, f x = some z) → St K B F H (some v :: some (.ref D) :: (ts ++ wipe σ vs)) (.fz x :: .own D acc :: (TM ++ M)) →
      (∀ y z F' H', c = true → f x = some z → St K B F' H' (some (.ref D) :: (ts ++ wipe σ vs)) (.own D acc :: (TM ++ M)) → rp K F' y z → G y H') →
      (∀ F' H', c = false → St K B F' H' (some (.ref D) :: (ts ++ wipe σ vs)) (.own D acc :: (TM ++ M)) → N H') →
      g v (wipe σ vs) H fun σ2 H2 => wipe σ2 vs = wipe σ vs ∧ tt σ2 H2 fun b H3 => if b = true then te σ2 H3 G else N H3)
    (hend : ∀ D F H, B.H D = none → St K B F H (some (.ref D) :: (ts ++ σ)) (.own D zs :: (TM ++ M)) → Q (.ref D) H) : LcG J g tt te vs σ H Q := by
  have hc : compS (τ := Unit) (fun x s => (p x).bind fun c => if c = true then (f x).bind fun y => some (some y, s) else some (none, s)) ys () = some (zs, ()) := by
    rw [compS_sel, hm]
    rfl
  refine S_comp (Mf := fun _ : Unit => M) Y hc h hTM (fun _ => hf) hlen (fun _ => hP) (fun i x s q v D acc F H G N hx hp h' hG hN => ?_) fun D F H hB h' => hend D F H hB h'
  obtain ⟨c, hc, hp⟩ := ob hp
  cases c with
  | true =>
    obtain ⟨z, hz, hp⟩ := ob (show (f x).bind _ = some q from hp)
    have hp := Option.some.inj hp
    subst hp
    exact turn x true v D acc F H G N hc (fun _ => ⟨z, hz⟩) h' (fun y z' F' H' _ hz' h'' r => hG y z F' H' rfl h'' (by
      rw [hz] at hz'
      cases hz'
      exact r)) fun F' H' e _ => by cases e
  | false =>
    have hp := Option.some.inj (show some (none, s) = some q from hp)
    subst hp
    exact turn x false v D acc F H G N hc (fun e => by cases e) h' (fun y z' F' H' e _ _ _ => by cases e) fun F' H' _ h'' => hN F' H' rfl h''
theorem S_mapS {ts : List (Option V)} {TM : List Slot} {β γ τ : Type} [Rp β] [Rp γ] {J : It} {P : Hp → Hp → Prop} {ys : List β} (Mf : τ → List Slot) {f : β → τ → Option (γ × τ)} {s0 : τ} {zs : List γ × τ} (Y : Yields K J P ys) (hm : mapS f ys s0 = some zs) (h : St K B F H (ts ++ σ) (TM ++ Mf s0)) (hTM : TM.length = ts.length) (hf : ∀ s, Free (Mf s) vs)
    (hlen : ys.length ≤ sizeLine) (hP : ∀ s w F H, St K B F H (ts ++ w) (TM ++ Mf s) → P F H)
    (turn : ∀ (x : β) (s : τ) (z : γ × τ) v D (acc : List γ) F H (G : V → Hp → Prop) (N : Hp → Prop), f x s = some z → St K B F H (some v :: some (.ref D) :: (ts ++ wipe σ vs)) (.fz x :: .own D acc :: (TM ++ Mf s)) →
      (∀ y F' H', St K B F' H' (some (.ref D) :: (ts ++ wipe σ vs)) (.own D acc :: (TM ++ Mf z.2)) → rp K F' y z.1 → G y H') →
      g v (wipe σ vs) H fun σ2 H2 => wipe σ2 vs = wipe σ vs ∧ if true = true then te σ2 H2 G else N H2)
    (hend : ∀ D F H, B.H D = none → St K B F H (some (.ref D) :: (ts ++ σ)) (.own D zs.1 :: (TM ++ Mf zs.2)) → Q (.ref D) H) : LcG J g tYes te vs σ H Q := by
  have hc : compS (fun x s => (f x s).bind fun p => some (some p.1, p.2)) ys s0 = some (zs.1, zs.2) := by
    rw [compS_mapS, hm]
  refine S_comp (Mf := Mf) Y hc h hTM hf hlen hP (fun i x s p v D acc F H G N hx hp h' hG hN => ?_) hend
  obtain ⟨z, hz, hp⟩ := ob hp
  have hp := Option.some.inj hp
  subst hp
  exact turn x s z v D acc F H G N hz h' fun y F' H' h'' r => hG y z.1 F' H' rfl h'' r
theorem view_len {α : Type} [Rp α] {v : V} {xs : List α} (h : ViewL K F H v xs) : xs.length ≤ sizeLine := by
  obtain ⟨a, vs, h1, h2, h3, h4⟩ := h
  have := Paired.length h4
  omega
theorem tup_len {α : Type} [Rp α] {v : V} {xs : Tup α} (h : rp K F v xs) : xs.l.length ≤ sizeLine := by
  obtain ⟨a, vs, h1, h2, h3, h4⟩ := h
  have := Paired.length h4
  omega
/-- a pair goes to two targets -/
theorem S_gPair {α β : Type} [Rp α] [Rp β] {x : α × β} {v : V} {gr : TGs} {Q : L2.St → Hp → Prop} (h : St K B F H w M) (hv : rp K F v x) (q : ∀ v1 v2, St K B F H (some v2 :: some v1 :: w) (.fz x.2 :: .fz x.1 :: M) → gr [v1, v2] σ H Q) : gTup K 2 gr v σ H Q := by
  obtain ⟨a, v1, v2, rfl, h2, h3, h4⟩ := hv
  exact ⟨a, [v1, v2], rfl, ex_t h.fh h2.sq, rfl, q v1 v2 ((h.push h3).push h4)⟩
end

/-! ### equality, of data of any depth -/
class Py (α : Type) [DecidableEq α] extends Rp α where
  toD : α → PyData
  okD : α → Bool
  dep : Nat
  dp : ∀ {K : Fg} {F : Hp} {v : V} {x : α}, toRp.rp K F v x → Dp K F v (toD x)
  eqv : ∀ a b : α, PyData.eqv (toD a) (toD b) = decide (a = b)
  lay : ∀ a : α, okD a = true → (toD a).canLay0 = true
  dpt : ∀ a : α, (toD a).depth ≤ dep
mutual
theorem Dp.mono {K : Fg} {H H' : Hp} (e : Ex H H') : ∀ {v : V} {d : PyData}, Dp K H v d → Dp K H' v d
  | _, _, .non => .non
  | _, _, .bl b => .bl b
  | _, _, .int i => .int i
  | _, _, .str x => .str x
  | _, _, .lst h1 h2 => .lst (ex_l e h1) (DpAll.mono e h2)
  | _, _, .tup h1 h2 => .tup (ex_t e h1) (DpAll.mono e h2)
theorem DpAll.mono {K : Fg} {H H' : Hp} (e : Ex H H') : ∀ {v : List V} {d : List PyData}, DpAll K H v d → DpAll K H' v d
  | _, _, .nil => .nil
  | _, _, .cons h1 h2 => .cons (Dp.mono e h1) (DpAll.mono e h2)
end
theorem dpall {α : Type} [DecidableEq α] [Py α] {K : Fg} {F : Hp} : ∀ {vs : List V} {xs : List α}, Paired (rp K F) vs xs → DpAll K F vs (xs.map Py.toD)
  | _, _, .nil => .nil
  | _, _, .cons r t => .cons (Py.dp r) (dpall t)
theorem eqvAll_map {α : Type} [DecidableEq α] [Py α] : ∀ xs ys : List α, PyData.eqvAll (xs.map Py.toD) (ys.map Py.toD) = decide (xs = ys)
  | [], [] => by simp [PyData.eqvAll]
  | [], _ :: _ => by simp [PyData.eqvAll]
  | _ :: _, [] => by simp [PyData.eqvAll]
  | x :: xs, y :: ys => by
    rw [List.map_cons, List.map_cons, PyData.eqvAll, Py.eqv, eqvAll_map xs ys]
    by_cases h1 : x = y
    · by_cases h2 : xs = ys
      · simp [h1, h2]
      · simp [h1, h2]
    · simp [h1]
theorem layAll_map {α : Type} [DecidableEq α] [Py α] : ∀ xs : List α, xs.all Py.okD = true → PyData.canLayAll0 (xs.map Py.toD) = true
  | [], _ => by simp [PyData.canLayAll0]
  | x :: xs, h => by
    rw [List.all_cons, Bool.and_eq_true] at h
    rw [List.map_cons, PyData.canLayAll0, Py.lay x h.1, layAll_map xs h.2]
    rfl
theorem depthAll_map {α : Type} [DecidableEq α] [Py α] : ∀ xs : List α, PyData.depthAll (xs.map Py.toD) ≤ Py.dep α
  | [] => by simp [PyData.depthAll]
  | x :: xs => by
    rw [List.map_cons, PyData.depthAll]
    exact Nat.max_le.mpr ⟨Py.dpt x, depthAll_map xs⟩
instance : Py Int where
  toD := .int
  okD := fun _ => true
  dep := 0
  dp := fun {K F v x} h => (show v = .int x from h) ▸ .int x
  eqv := fun a b => by
    simp only [PyData.eqv]
    by_cases h : a = b <;> simp [h]
  lay := fun _ _ => by simp [PyData.canLay0]
  dpt := fun _ => by simp [PyData.depth]
instance : Py Bool where
  toD := .bool
  okD := fun _ => true
  dep := 0
  dp := fun {K F v x} h => (show v = .bl x from h) ▸ .bl x
  eqv := fun a b => by cases a <;> cases b <;> simp [PyData.eqv]
  lay := fun _ _ => by simp [PyData.canLay0]
  dpt := fun _ => by simp [PyData.depth]
instance : Py Str where
  toD := .str
  okD := PyData.strOk
  dep := 0
  dp := fun {K F v x} h => (show v = .str x from h) ▸ .str x
  eqv := fun a b => by
    simp only [PyData.eqv]
    by_cases h : a = b <;> simp [h]
  lay := fun _ h => by simp [PyData.canLay0, h]
  dpt := fun _ => by simp [PyData.depth]
instance {α : Type} [DecidableEq α] [Py α] : Py (Tup α) where
  toD := fun x => .tuple (x.l.map Py.toD)
  okD := fun x => x.l.all Py.okD
  dep := Py.dep α + 1
  dp := fun {K F v x} ⟨a, vs, h1, h2, h3, h4⟩ => h1 ▸ .tup h2.sq (dpall h4)
  eqv := fun a b => by
    simp only [PyData.eqv]
    rw [eqvAll_map]
    cases a; cases b
    simp
  lay := fun a h => by simp only [PyData.canLay0]; exact layAll_map a.l h
  dpt := fun a => by simp only [PyData.depth]; exact Nat.succ_le_succ (depthAll_map a.l)
instance {α : Type} [DecidableEq α] [Py α] : Py (List α) where
  toD := fun x => .list (x.map Py.toD)
  okD := fun x => x.all Py.okD
  dep := Py.dep α + 1
  dp := fun {K F v x} ⟨a, vs, h1, h2, h3, h4⟩ => h1 ▸ .lst (.inl (.inl h2)) (dpall h4)
  eqv := fun a b => by
    simp only [PyData.eqv]
    rw [eqvAll_map]
  lay := fun a h => by simp only [PyData.canLay0]; exact layAll_map a h
  dpt := fun a => by simp only [PyData.depth]; exact Nat.succ_le_succ (depthAll_map a)
instance {α β : Type} [DecidableEq α] [Py α] [DecidableEq β] [Py β] : Py (α × β) where
  toD := fun x => .tuple [Py.toD x.1, Py.toD x.2]
  okD := fun x => Py.okD x.1 && Py.okD x.2
  dep := max (Py.dep α) (Py.dep β) + 1
  dp := fun {K F v x} ⟨a, v1, v2, h1, h2, h3, h4⟩ => h1 ▸ .tup h2.sq (.cons (Py.dp h3) (.cons (Py.dp h4) .nil))
  eqv := fun a b => by
    obtain ⟨a1, a2⟩ := a
    obtain ⟨b1, b2⟩ := b
    simp only [PyData.eqv, PyData.eqvAll, Py.eqv]
    by_cases h1 : a1 = b1 <;> by_cases h2 : a2 = b2 <;> simp [h1, h2]
  lay := fun a h => by
    rw [Bool.and_eq_true] at h
    simp only [PyData.canLay0, PyData.canLayAll0, Py.lay _ h.1, Py.lay _ h.2]
    rfl
  dpt := fun a => by
    have h1 := Py.dpt a.1
    have h2 := Py.dpt a.2
    simp only [PyData.depth, PyData.depthAll]
    omega
/-- what is compared: as data at the heap -/
def ViewD {α : Type} [DecidableEq α] [Py α] (K : Fg) (H : Hp) (v : V) (x : α) : Prop := Dp K H v (Py.toD x)
section
variable {K : Fg} {B : Base} {F H : Hp} {w : List (Option V)} {σ : L2.St} {M : List Slot} {Q : VK} {α β : Type} [DecidableEq α] [Py α] [DecidableEq β] [Py β]
theorem dF {x : α} {v : V} (h : St K B F H w M) (r : rp K F v x) : ViewD K H v x := Dp.mono h.fh (Py.dp r)
theorem dL {x : List α} {v : V} (h : St K B F H w M) (r : ViewL K F H v x) : ViewD K H v x := by
  obtain ⟨a, vs, rfl, h2, h3, h4⟩ := r
  exact .lst (.inl (.inl h2)) (DpAll.mono h.fh (dpall h4))
theorem shaped_of {x : α} (h : Py.okD x = true) (hd : Py.dep α ≤ 60) : SeqAt.shaped (Py.toD x) = true := by
  show ((Py.toD x).canLay0 && decide ((Py.toD x).depth ≤ 64)) = true
  rw [Bool.and_eq_true]
  have := Py.dpt x
  exact ⟨Py.lay x h, decide_eq_true (by omega)⟩
def eqO {α : Type} [DecidableEq α] [Py α] (x y : α) : Option Bool := if Py.okD x && Py.okD y then some (decide (x = y)) else none
theorem S_eqD {x y : α} {v u : V} {c : Bool} (hv : ViewD K H v x) (hu : ViewD K H u y) (hm : eqO x y = some c) (hd : Py.dep α ≤ 60) (q : Q (.bl c) H) : rEqD K v u H Q := by
  unfold eqO at hm
  split at hm
  · rename_i hc
    rw [Bool.and_eq_true] at hc
    have e := Option.some.inj hm
    subst e
    exact ⟨_, _, hv, hu, shaped_of hc.1 hd, shaped_of hc.2 hd, by rw [Py.eqv]; exact q⟩
  · cases hm
theorem S_neD {x y : α} {v u : V} {c : Bool} (hv : ViewD K H v x) (hu : ViewD K H u y) (hm : eqO x y = some c) (hd : Py.dep α ≤ 60) (q : Q (.bl (!c)) H) : rNeD K v u H Q := by
  unfold eqO at hm
  split at hm
  · rename_i hc
    rw [Bool.and_eq_true] at hc
    have e := Option.some.inj hm
    subst e
    exact ⟨_, _, hv, hu, shaped_of hc.1 hd, shaped_of hc.2 hd, by rw [Py.eqv]; exact q⟩
  · cases hm
theorem any_map_eqv (x : α) : ∀ xs : List α, ((xs.map Py.toD).any fun z => PyData.eqv z (Py.toD x)) = xs.any fun z => decide (z = x)
  | [] => rfl
  | y :: ys => by
    have ih := any_map_eqv x ys
    rw [List.map_cons, List.any_cons, List.any_cons, Py.eqv, ih]
/-- x in xs, a list -/
def inO {α : Type} [DecidableEq α] [Py α] (x : α) (xs : List α) : Option Bool := if Py.okD x && Py.okD xs then some (xs.any fun z => decide (z = x)) else none
theorem S_inD {x : α} {xs : List α} {v u : V} {c : Bool} (hv : ViewD K H v x) (hu : ViewD K H u xs) (hm : inO x xs = some c) (hd : Py.dep α ≤ 59) (q : Q (.bl c) H) : rInD K v u H Q := by
  unfold inO at hm
  split at hm
  · rename_i hc
    rw [Bool.and_eq_true] at hc
    have e := Option.some.inj hm
    subst e
    refine ⟨_, xs.map Py.toD, hv, hu, shaped_of hc.1 (by omega), shaped_of (α := List α) hc.2 (by show Py.dep α + 1 ≤ 60; omega), ?_⟩
    rw [any_map_eqv]
    exact q
  · cases hm
theorem S_niD {x : α} {xs : List α} {v u : V} {c : Bool} (hv : ViewD K H v x) (hu : ViewD K H u xs) (hm : inO x xs = some c) (hd : Py.dep α ≤ 59) (q : Q (.bl (!c)) H) : rNotInD K v u H Q := by
  unfold inO at hm
  split at hm
  · rename_i hc
    rw [Bool.and_eq_true] at hc
    have e := Option.some.inj hm
    subst e
    refine ⟨_, xs.map Py.toD, hv, hu, shaped_of hc.1 (by omega), shaped_of (α := List α) hc.2 (by show Py.dep α + 1 ≤ 60; omega), ?_⟩
    rw [any_map_eqv]
    exact q
  · cases hm
end

/-! ### and, or, not -/
section
variable {K : Fg} {B : Base} {F H : Hp} {w : List (Option V)} {σ : L2.St} {M : List Slot} {Q : VK} {QT : Bool → Hp → Prop} {ta tb : TE} {tt tu : TT} {a b c : Bool}
theorem S_andV (h : St K B F H w M) (ha : ∀ Q' : VK, (∀ F H, St K B F H w M → Q' (.bl a) H) → ta σ H Q') (hb : a = true → ∀ F H (Q' : VK), St K B F H w M → (∀ F H, St K B F H w M → Q' (.bl c) H) → tb σ H Q') (hc : a = false → c = false)
    (q : ∀ F H, St K B F H w M → Q (.bl c) H) : tAndV ta tb σ H Q := by
  refine ha _ fun F1 H1 h1 => ⟨a, rfl, ?_⟩
  cases a with
  | true => exact hb rfl F1 H1 Q h1 q
  | false => rw [hc rfl] at q; exact q F1 H1 h1
theorem S_orV (h : St K B F H w M) (ha : ∀ Q' : VK, (∀ F H, St K B F H w M → Q' (.bl a) H) → ta σ H Q') (hb : a = false → ∀ F H (Q' : VK), St K B F H w M → (∀ F H, St K B F H w M → Q' (.bl c) H) → tb σ H Q') (hc : a = true → c = true)
    (q : ∀ F H, St K B F H w M → Q (.bl c) H) : tOrV ta tb σ H Q := by
  refine ha _ fun F1 H1 h1 => ⟨a, rfl, ?_⟩
  cases a with
  | true => rw [hc rfl] at q; exact q F1 H1 h1
  | false => exact hb rfl F1 H1 Q h1 q
theorem S_notV (h : ta σ H fun x H1 => ∃ k, x = .bl k ∧ Q (.bl (!k)) H1) : tNotV ta σ H Q := h
theorem S_blV {k : Bool} (h : Q (.bl (!k)) H) : ∃ k', V.bl k = .bl k' ∧ Q (.bl (!k')) H := ⟨k, rfl, h⟩
theorem S_and (h : St K B F H w M) (ha : ∀ Q' : Bool → Hp → Prop, (∀ F H, St K B F H w M → Q' a H) → tt σ H Q') (hb : a = true → ∀ F H (Q' : Bool → Hp → Prop), St K B F H w M → (∀ F H, St K B F H w M → Q' c H) → tu σ H Q') (hc : a = false → c = false)
    (q : ∀ F H, St K B F H w M → QT c H) : tAnd tt tu σ H QT := by
  refine ha _ fun F1 H1 h1 => ?_
  cases a with
  | true => exact hb rfl F1 H1 QT h1 q
  | false => rw [hc rfl] at q; exact q F1 H1 h1
theorem S_or (h : St K B F H w M) (ha : ∀ Q' : Bool → Hp → Prop, (∀ F H, St K B F H w M → Q' a H) → tt σ H Q') (hb : a = false → ∀ F H (Q' : Bool → Hp → Prop), St K B F H w M → (∀ F H, St K B F H w M → Q' c H) → tu σ H Q') (hc : a = true → c = true)
    (q : ∀ F H, St K B F H w M → QT c H) : tOr tt tu σ H QT := by
  refine ha _ fun F1 H1 h1 => ?_
  cases a with
  | true => rw [hc rfl] at q; exact q F1 H1 h1
  | false => exact hb rfl F1 H1 QT h1 q
theorem S_not (h : tt σ H fun c H1 => QT (!c) H1) : tNot tt σ H QT := h
theorem ifT {α : Type} {c : Bool} {x y : α} {z : α} (hc : c = true) (h : (if c = true then x else y) = z) : x = z := by rw [if_pos hc] at h; exact h
theorem ifF {α : Type} {c : Bool} {x y : α} {z : α} (hc : c = false) (h : (if c = true then x else y) = z) : y = z := by rw [if_neg (by rw [hc]; decide)] at h; exact h
theorem if1 {P1 P2 : Prop} (h : P1) : if true = true then P1 else P2 := by rw [if_pos rfl]; exact h
/-- x if c else y: by a test, then either side -/
theorem S_ifX {T : V → Hp → Prop} (h : St K B F H w M) (hc : ∀ Q' : Bool → Hp → Prop, (∀ F H, St K B F H w M → Q' c H) → tt σ H Q') (h1 : c = true → ∀ F H (Q' : VK), St K B F H w M → (∀ v H, T v H → Q' v H) → ta σ H Q') (h2 : c = false → ∀ F H (Q' : VK), St K B F H w M → (∀ v H, T v H → Q' v H) → tb σ H Q')
    (q : ∀ v H, T v H → Q v H) : tIf tt ta tb σ H Q := by
  refine hc _ fun F1 H1 g => ?_
  cases c with
  | true => exact h1 rfl F1 H1 Q g q
  | false => exact h2 rfl F1 H1 Q g q
end

/-! ### lists of one's own that change -/
section
variable {K : Fg} {B : Base} {F H : Hp} {w : List (Option V)} {σ : L2.St} {M : List Slot} {Q : VK} {α : Type} [Rp α]
theorem St.setO (h : St K B F H w M) (i : Nat) {β : Type} [Ow β] {x y : β} {a : Addr} {ob : HO} (hM : M[i]? = some (.own a x)) (hy : ow K F ob y) : St K B F (upd H a ob) w (M.set i (.own a y)) := by
  have key : ∀ {w : List (Option V)} {M : List Slot} {i : Nat}, Slots K F H w M → (owns M).Nodup → M[i]? = some (.own a x) → Slots K F (upd H a ob) w (M.set i (.own a y)) ∧ owns (M.set i (.own a y)) = owns M := by
    intro w M
    have other : ∀ {w : List (Option V)} {M : List Slot}, Slots K F H w M → a ∉ owns M → Slots K F (upd H a ob) w M := by
      intro w M
      induction M generalizing w with
      | nil =>
        intro hs _
        cases w with
        | nil => trivial
        | cons o w => exact hs.elim
      | cons s M ih =>
        intro hs hn
        cases w with
        | nil => exact hs.elim
        | cons o w =>
          refine ⟨?_, ih hs.2 fun m => hn (owns_tail m)⟩
          cases s with
          | any => trivial
          | un => exact hs.1
          | fz z => exact hs.1
          | own b z =>
            obtain ⟨h1, h2, o', h3, h4⟩ := hs.1
            exact ⟨h1, h2, o', by rw [upd_ne fun e => hn (by rw [← e]; exact List.mem_cons_self ..)]; exact h3, h4⟩
    induction M generalizing w with
    | nil => intro i _ _ e; simp at e
    | cons s M ih =>
      intro i hs hn e
      cases w with
      | nil => exact hs.elim
      | cons o w =>
        cases i with
        | zero =>
          simp at e
          subst e
          obtain ⟨h1, h2, _⟩ := hs.1
          exact ⟨⟨⟨h1, h2, ob, upd_same, hy⟩, other hs.2 (List.nodup_cons.mp hn).1⟩, rfl⟩
        | succ i =>
          have e' : M[i]? = some (.own a x) := by simpa using e
          obtain ⟨k1, k2⟩ := ih hs.2 (owns_nd hn) e'
          have ha : a ∈ owns M := mem_owns_of_at e'
          refine ⟨⟨?_, k1⟩, ?_⟩
          · cases s with
            | any => trivial
            | un => exact hs.1
            | fz z => exact hs.1
            | own b z =>
              obtain ⟨h1, h2, o', h3, h4⟩ := hs.1
              have hne : b ≠ a := fun z => (List.nodup_cons.mp hn).1 (by rw [z]; exact ha)
              exact ⟨h1, h2, o', by rw [upd_ne hne]; exact h3, h4⟩
          · cases s with
            | any => exact k2
            | un => exact k2
            | fz z => exact k2
            | own b z => show b :: owns (M.set i _) = b :: owns M; rw [k2]
  obtain ⟨k1, k2⟩ := key h.ok h.nd hM
  obtain ⟨g0, g1, ob', g2, g3⟩ := h.own i hM
  refine ⟨fun b u e => ?_, h.f0, h.nf, fun b u e m => ?_, fun b z => ?_, k1, by rw [k2]; exact h.nd, fun b m => h.bo b (by rw [k2] at m; exact m)⟩
  · rw [upd_ne (ne_of_none e g1)]
    exact h.fh b u e
  · rw [upd_ne fun q => ?_]
    · exact h.h0 b u e m
    · subst q
      rcases h.bo b (mem_owns_of_at hM) with z | z
      · rw [z] at e; cases e
      · exact m z
  · by_cases q : b = a
    · subst q
      rw [upd_same]
      simp
    · rw [upd_ne q]
      exact h.tr b z
theorem S_tyL {x : List α} {v : V} {P : Prop} (hv : ViewL K F H v x) (q : P) : TyG K "list" v H P := by
  obtain ⟨a, vs, rfl, h2, _⟩ := hv
  exact ⟨.inl ⟨rfl, vs, .inl (.inl h2)⟩, q⟩
def appO {α : Type} (xs : List α) (x : α) : Option (List α) := if xs.length < 1000000 then some (xs ++ [x]) else none
theorem S_append {xs zs : List α} {x : α} {a : Addr} {v : V} (i : Nat) (h : St K B F H w M) (hM : M[i]? = some (.own a xs)) (hv : rp K F v x) (hm : appO xs x = some zs) (q : ∀ H', St K B F H' w (M.set i (.own a zs)) → Q .non H') : rAppend (.ref a) [v] H Q := by
  unfold appO at hm
  split at hm
  · rename_i hc
    have e := Option.some.inj hm
    subst e
    obtain ⟨_, _, ob, g2, vs, rfl, g4, g5⟩ := h.own i hM
    have hl : vs.length = xs.length := Paired.length g5
    have hlt : vs.length < sizeLine := Nat.lt_of_lt_of_le (by omega : _ < 1000000) (by decide)
    exact ⟨a, vs, v, rfl, rfl, g2, hlt, q _ (h.setO i hM ⟨_, rfl, by rw [List.length_append]; exact hlt, paired_snoc hv g5⟩)⟩
  · cases hm
theorem S_extend {xs ys zs : List α} {a : Addr} {v : V} (i : Nat) (h : St K B F H w M) (hM : M[i]? = some (.own a xs)) (hv : ViewL K F H v ys) (hm : catL xs ys = some zs) (q : ∀ H', St K B F H' w (M.set i (.own a zs)) → Q .non H') : rExtend (.ref a) [v] H Q := by
  obtain ⟨hz, rfl⟩ := catL_some hm
  obtain ⟨_, _, ob, g2, vs, rfl, g4, g5⟩ := h.own i hM
  obtain ⟨b, us, rfl, k2, k3, k4⟩ := hv
  have l1 : vs.length = xs.length := Paired.length g5
  have l2 : us.length = ys.length := Paired.length k4
  have hl : vs.length + us.length ≤ sizeLine := Nat.le_trans (by omega : _ ≤ 1000000) (by decide)
  exact ⟨a, b, vs, us, rfl, rfl, g2, k2, hl, q _ (h.setO i hM ⟨_, rfl, by rw [List.length_append]; exact hl, paired_append g5 k4⟩)⟩
theorem S_clear {xs : List α} {a : Addr} (i : Nat) (h : St K B F H w M) (hM : M[i]? = some (.own a xs)) (q : ∀ H', St K B F H' w (M.set i (.own a ([] : List α))) → Q .non H') : rClear (.ref a) [] H Q := by
  obtain ⟨_, _, ob, g2, vs, rfl, g4, g5⟩ := h.own i hM
  exact ⟨a, vs, rfl, rfl, g2, q _ (h.setO i hM ⟨[], rfl, Nat.zero_le _, .nil⟩)⟩
theorem paired_set {R : V → α → Prop} {v : V} {x : α} (r : R v x) : ∀ {vs : List V} {xs : List α} (j : Nat), Paired R vs xs → Paired R (vs.set j v) (xs.set j x)
  | _, _, _, .nil => .nil
  | _, _, 0, .cons _ t => .cons r t
  | _, _, j + 1, .cons q t => .cons q (paired_set r j t)
def setL {α : Type} (xs : List α) (i : Int) (x : α) : Option (List α) := (ixN xs.length i).bind fun j => some (xs.set j x)
theorem S_setL {xs zs : List α} {x : α} {a : Addr} {v : V} {k : Int} {QS : Hp → Prop} (i : Nat) (h : St K B F H w M) (hM : M[i]? = some (.own a xs)) (hv : rp K F v x) (hm : setL xs k x = some zs) (q : ∀ H', St K B F H' w (M.set i (.own a zs)) → QS H') : rSetL (.ref a) (.int k) v H QS := by
  obtain ⟨j, hj, hm⟩ := ob hm
  have e := Option.some.inj hm
  subst e
  obtain ⟨_, _, ob', g2, vs, rfl, g4, g5⟩ := h.own i hM
  have hl : vs.length = xs.length := Paired.length g5
  exact ⟨a, vs, k, j, rfl, rfl, g2, by rw [hl]; exact hj, q _ (h.setO i hM ⟨_, rfl, by rw [List.length_set]; exact g4, paired_set hv j g5⟩)⟩
def popAt {α : Type} (xs : List α) (i : Int) : Option (α × List α) := if -(2 ^ 63) ≤ i ∧ i < 2 ^ 63 then (seqIndex? i xs.length).bind fun k => (xs[k]?).bind fun y => some (y, xs.eraseIdx k) else none
theorem paired_erase {R : V → α → Prop} : ∀ {vs : List V} {xs : List α} (j : Nat), Paired R vs xs → Paired R (vs.eraseIdx j) (xs.eraseIdx j)
  | _, _, _, .nil => .nil
  | _, _, 0, .cons _ t => t
  | _, _, j + 1, .cons q t => .cons q (paired_erase j t)
theorem S_popAt {xs : List α} {z : α × List α} {a : Addr} {k : Int} (i : Nat) (h : St K B F H w M) (hM : M[i]? = some (.own a xs)) (hm : popAt xs k = some z) (q : ∀ u H', St K B F H' (some u :: w) (.fz z.1 :: M.set i (.own a z.2)) → Q u H') : rPopAt (.ref a) [.int k] H Q := by
  unfold popAt at hm
  split at hm
  · rename_i hc
    obtain ⟨j, hj, hm⟩ := ob hm
    obtain ⟨y, hy, hm⟩ := ob hm
    have e := Option.some.inj hm
    subst e
    obtain ⟨_, _, ob', g2, vs, rfl, g4, g5⟩ := h.own i hM
    have hl : vs.length = xs.length := Paired.length g5
    obtain ⟨u, h1, h2⟩ := Paired.at g5 hy
    refine ⟨a, vs, k, j, u, rfl, rfl, g2, hc.1, hc.2, by rw [hl]; exact hj, h1, q u _ ((h.setO i hM ⟨_, rfl, ?_, paired_erase j g5⟩).push h2)⟩
    have := List.length_eraseIdx_le vs j
    omega
  · cases hm
end
end G

set_option Elab.async false
set_option linter.all false
set_option maxRecDepth 100000
set_option maxHeartbeats 4000000
/-! G4: what the printed proofs lean on. -/
namespace G
open PySem PySem.Spec PyProof.Rows L2
open Rp (rp)
open Ow (ow)
theorem len0 {α : Type} {vs : List α} (h : vs.length = 0) : vs = [] := List.eq_nil_of_length_eq_zero h
theorem len1 {α : Type} {vs : List α} (h : vs.length = 1) : ∃ a, vs = [a] := match vs, h with | [a], _ => ⟨a, rfl⟩
theorem len2 {α : Type} {vs : List α} (h : vs.length = 2) : ∃ a b, vs = [a, b] := match vs, h with | [a, b], _ => ⟨a, b, rfl⟩
theorem len3 {α : Type} {vs : List α} (h : vs.length = 3) : ∃ a b c, vs = [a, b, c] := match vs, h with | [a, b, c], _ => ⟨a, b, c, rfl⟩
theorem len4 {α : Type} {vs : List α} (h : vs.length = 4) : ∃ a b c d, vs = [a, b, c, d] := match vs, h with | [a, b, c, d], _ => ⟨a, b, c, d, rfl⟩
theorem len5 {α : Type} {vs : List α} (h : vs.length = 5) : ∃ a b c d e, vs = [a, b, c, d, e] := match vs, h with | [a, b, c, d, e], _ => ⟨a, b, c, d, e, rfl⟩
theorem len6 {α : Type} {vs : List α} (h : vs.length = 6) : ∃ a b c d e f, vs = [a, b, c, d, e, f] := match vs, h with | [a, b, c, d, e, f], _ => ⟨a, b, c, d, e, f, rfl⟩
theorem prom_len {K : Fg} {R : List Slot → RSlot → List Slot → Prop} {ps : List Str} (n : Nat) (hn : ∀ A s A', R A s A' → A.length = n) (vs : List V) (H : Hp) (Q : VK) (E : XK) (h : Prom K R vs H Q E) (hp : ps.length = n := by rfl) : vs.length = ps.length := by
  obtain ⟨F, A, s, A', hR, fh, hS, _⟩ := h
  have := slots_len hS
  rw [hp, ← hn A s A' hR, this, List.length_map]
/-- a def that may be called -/
structure Cal (P : Program) (w : World) (K : Fg) (mg : Str → Option Value) (base : Heap) (k : Nat) (x : Str) (ps : List Str) (R : List Slot → RSlot → List Slot → Prop) : Prop where
  ex : ∃ f fd, FnOk P w K mg base CX0 k f fd ps (Prom K R) ∧ mg x = some (.ref f) ∧ PySem.W.keepIn K (.ref f) = true ∧ Binds K fd ps []
theorem Cal.mk' {P : Program} {w : World} {K : Fg} {mg : Str → Option Value} {base : Heap} {k : Nat} {x : Str} {ps : List Str} {R : List Slot → RSlot → List Slot → Prop} {f : Addr} {fd : FuncData} (h : FnOk P w K mg base CX0 k f fd ps (Prom K R)) (hm : mg x = some (.ref f)) (hk : PySem.W.keepIn K (.ref f) = true) (hb : Binds K fd ps []) : Cal P w K mg base k x ps R := ⟨f, fd, h, hm, hk, hb⟩
section
variable {X : Cx}
theorem Cal.pe {k : Nat} {x : Str} {ps : List Str} {R : List Slot → RSlot → List Slot → Prop} {e : Expr} {es : List Expr} {t : TA} {p pos : Pos} (C : Cal X.prog X.w X.K X.mg X.base k x ps R) (hr : Room k X.A) (hg : Gl X x) (ha : PA X (e :: es) t)
    (hdb : (x == ("__debug__" : Str)) = false := by decide) (he : starEach (e :: es) X.env = (false, eval e X.env) :: starEach es X.env := by rfl) (hpl : (backTo pos (starEach es X.env)).any (·.1) = false := by rfl) :
    PE X (.Call (.Name x p) (e :: es) [] pos) (tCall (Prom X.K R) [] E0 t) := by
  obtain ⟨f, fd, h1, h2, h3, h4⟩ := C.ex
  exact pe_call h1 hr hg h2 h3 h4 .nil pass0 ha hdb he hpl
theorem Cal.pe0 {k : Nat} {x : Str} {ps : List Str} {R : List Slot → RSlot → List Slot → Prop} {p pos : Pos} (C : Cal X.prog X.w X.K X.mg X.base k x ps R) (hr : Room k X.A) (hg : Gl X x)
    (hdb : (x == ("__debug__" : Str)) = false := by decide) : PE X (.Call (.Name x p) [] [] pos) (tCall (Prom X.K R) [] E0 tNil) := by
  obtain ⟨f, fd, h1, h2, h3, h4⟩ := C.ex
  exact pe_call0 h1 hr hg h2 h3 h4 .nil pass0 hdb
end
/-- a statement, then what follows, shown once -/
theorem S_cutJ {t : TS} {D : Ends} {σ : L2.St} {H : Hp} {Post : L2.St → Hp → Prop} (body : ∀ D' : Ends, (∀ σ H, Post σ H → D'.nx σ H) → t D' σ H) (k : ∀ σ H, Post σ H → D.nx σ H) : t D σ H := body D k
theorem rng1_len {n : Int} {xs : List Int} (h : rangeO n = some xs) : xs.length ≤ sizeLine := by
  unfold rangeO at h
  split at h
  · have e := Option.some.inj h
    subst e
    rw [List.length_map, List.length_range]
    exact Nat.le_trans (by omega : _ ≤ 1000000) (by decide)
  · cases h
theorem rng2_len {lo n : Int} {xs : List Int} (h : rangeO2 lo n = some xs) : xs.length ≤ sizeLine := by
  unfold rangeO2 at h
  split at h
  · have e := Option.some.inj h
    subst e
    rw [List.length_map, List.length_range]
    exact Nat.le_trans (by omega : _ ≤ 2000000) (by decide)
  · cases h
theorem zip_len {α β : Type} {xs : List α} {ys : List β} (h : xs.length ≤ sizeLine) : (xs.zip ys).length ≤ sizeLine := by
  rw [List.length_zip]
  omega
theorem enum_len {α : Type} {xs : List α} {i : Nat} (h : xs.length ≤ sizeLine) : (enumFrom i xs).length ≤ sizeLine := by
  rw [enumFrom_len]
  exact h
section
variable {K : Fg} {B : Base} {F H : Hp} {w : List (Option V)} {σ : L2.St} {M : List Slot} {Q : VK} {o o1 : Option V} {s s1 : Slot}
theorem owns_cons_sub {s s1 : Slot} {M : List Slot} : (owns (s :: M)).Sublist (owns (s :: s1 :: M)) := by
  cases s <;> cases s1 <;> first | exact .refl _ | exact .cons _ (.refl _) | exact .cons₂ _ (.cons _ (.refl _))
theorem St.nip (h : St K B F H (o :: o1 :: w) (s :: s1 :: M)) : St K B F H (o :: w) (s :: M) :=
  ⟨h.fh, h.f0, h.nf, h.h0, h.tr, ⟨h.ok.1, h.ok.2.2⟩, owns_cons_sub.nodup h.nd, fun a m => h.bo a (owns_cons_sub.subset m)⟩
theorem owns_setO {α : Type} [Ow α] {x : α} {a : Addr} : ∀ {M : List Slot} (i : Nat), (a :: owns M).Nodup → (owns (M.set i (.own a x))).Nodup ∧ ∀ b ∈ owns (M.set i (.own a x)), b = a ∨ b ∈ owns M
  | [], _, h => ⟨.nil, fun _ m => by cases m⟩
  | s :: M, 0, h => by
    have hM : (a :: owns M).Nodup := by
      obtain ⟨h1, h2⟩ := List.nodup_cons.mp h
      exact List.nodup_cons.mpr ⟨fun m => h1 (owns_tail m), owns_nd h2⟩
    exact ⟨hM, fun b m => (List.mem_cons.mp m).imp id owns_tail⟩
  | s :: M, i + 1, h => by
    obtain ⟨h1, h2⟩ := List.nodup_cons.mp h
    have hM : (a :: owns M).Nodup := List.nodup_cons.mpr ⟨fun m => h1 (owns_tail m), owns_nd h2⟩
    obtain ⟨g1, g2⟩ := owns_setO (x := x) i hM
    cases s with
    | any => exact ⟨g1, g2⟩
    | un => exact ⟨g1, g2⟩
    | fz y => exact ⟨g1, g2⟩
    | own b y =>
      obtain ⟨k1, k2⟩ := List.nodup_cons.mp h2
      refine ⟨List.nodup_cons.mpr ⟨fun m => ?_, g1⟩, fun c m => ?_⟩
      · rcases g2 b m with e | e
        · exact h1 (by rw [← e]; exact List.mem_cons_self ..)
        · exact k1 e
      · rcases List.mem_cons.mp m with e | m
        · exact .inr (by rw [e]; exact List.mem_cons_self ..)
        · exact (g2 c m).imp id (List.mem_cons_of_mem _)
/-- what stands on the pile, one's own, becomes a name's -/
theorem St.setOwn {α : Type} [Ow α] {x : α} {a : Addr} (i : Nat) (h : St K B F H (some (.ref a) :: w) (.own a x :: M)) : St K B F H (w.set i (some (.ref a))) (M.set i (.own a x)) := by
  obtain ⟨g1, g2⟩ := owns_setO (x := x) i h.nd
  exact ⟨h.fh, h.f0, h.nf, h.h0, h.tr, Slots.set i h.ok.2 h.ok.1, g1, fun b m => h.bo b ((g2 b m).elim (fun e => by rw [e]; exact List.mem_cons_self ..) (List.mem_cons_of_mem _))⟩
theorem SlotOk.ofOwn {α : Type} [Ow α] {x : α} {a : Addr} (h : St K B F H w M) (i : Nat) (hM : M[i]? = some (.own a x)) : SlotOk K F H (some (.ref a)) (.own a x) := by
  obtain ⟨_, g⟩ := h.own i hM
  exact ⟨rfl, g⟩
end
section
variable {K : Fg} {F H : Hp} {σ : L2.St} {Q : VK} {D : Ends} {t u u2 : TS} {te : TE} {g : TG} {wi : TI} {tt : TT} {QT : Bool → Hp → Prop} {v : V} {vs : List V} {A : List Slot} {s : Slot}
theorem Q_asg (h : te σ H fun x H1 => g x σ H1 (u D)) : tSeq (tAsg te g) u D σ H := h
theorem Q_drop (h : te σ H fun _ H1 => u D σ H1) : tSeq (tDrop te) u D σ H := h
theorem Q_for (h : wi σ H fun J H1 => ForG J g t { D with nx := u D } σ H1) : tSeq (tFor wi g t) u D σ H := h
theorem Q_if (h : tt σ H fun b H1 => if b = true then t { D with nx := u2 D } σ H1 else u { D with nx := u2 D } σ H1) : tSeq (tIfS tt t u) u2 D σ H := h
theorem Q_next (h : u D σ H) : tNext { D with nx := u D } σ H := h
theorem S_next (h : D.nx σ H) : tNext D σ H := h
theorem Q_cutJ {Post : L2.St → Hp → Prop} (body : ∀ D' : Ends, (∀ σ H, Post σ H → D'.nx σ H) → t D' σ H) (k : ∀ σ H, Post σ H → u D σ H) : tSeq t u D σ H := body _ k
def BlG (QT : Bool → Hp → Prop) (x : V) (H1 : Hp) : Prop := ∃ k, x = .bl k ∧ QT k H1
def BnG (Q : VK) (x : V) (H1 : Hp) : Prop := ∃ k, x = .bl k ∧ Q (.bl (!k)) H1
theorem T_test (h : te σ H fun x H1 => BlG QT x H1) : tTest te σ H QT := h
theorem T_tB (h : te σ H fun x H1 => BlG QT x H1) : tB te σ H QT := h
theorem T_bl {k : Bool} (h : QT k H) : BlG QT (.bl k) H := ⟨k, rfl, h⟩
theorem T_notV (h : te σ H fun x H1 => BnG Q x H1) : tNotV te σ H Q := h
theorem T_blV {k : Bool} (h : Q (.bl (!k)) H) : BnG Q (.bl k) H := ⟨k, rfl, h⟩
theorem slots_nil : Slots K F H ([].map some) [] := trivial
theorem slots_cons (h : SlotOk K F H (some v) s) (k : Slots K F H (vs.map some) A) : Slots K F H ((v :: vs).map some) (s :: A) := ⟨h, k⟩
theorem ok_fz {α : Type} [Rp α] {x : α} (h : rp K F v x) : SlotOk K F H (some v) (.fz x) := ⟨v, rfl, h⟩
end
theorem wipe_get {σ : L2.St} : ∀ {vs : List Nat} {i : Nat}, i ∈ vs → i < σ.length → (wipe σ vs)[i]? = some none
  | v :: vs, i, m, hl => by
    unfold wipe
    by_cases e : v = i
    · subst e
      rw [List.getElem?_set_self (by rw [wipe_length]; exact hl)]
    · rw [List.getElem?_set_ne e]
      rcases List.mem_cons.mp m with z | z
      · exact absurd z.symm e
      · exact wipe_get z hl
  | [], _, m, _ => by cases m
theorem wipe_eq {σ τ : L2.St} {vs : List Nat} (hl : τ.length = σ.length) (h : ∀ i, i ∉ vs → τ[i]? = σ[i]?) : wipe τ vs = wipe σ vs := by
  refine List.ext_getElem? fun i => ?_
  by_cases m : i ∈ vs
  · by_cases hi : i < σ.length
    · rw [wipe_get m (by omega), wipe_get m hi]
    · rw [List.getElem?_eq_none (by rw [wipe_length]; omega), List.getElem?_eq_none (by rw [wipe_length]; omega)]
  · rw [wipe_at τ vs i m, wipe_at σ vs i m, h i m]
theorem wipe_idem {σ : L2.St} {vs : List Nat} : wipe (wipe σ vs) vs = wipe σ vs := wipe_eq (wipe_length σ vs) fun i m => wipe_at σ vs i m
theorem wipe_set {τ : L2.St} {vs : List Nat} {j : Nat} {o : Option V} (h : j ∈ vs) : wipe (τ.set j o) vs = wipe τ vs := wipe_eq (by simp) fun i m => List.getElem?_set_ne fun e => m (by rw [← e]; exact h)
theorem Q_nx {D : Ends} {u : TS} {σ : L2.St} {H : Hp} (h : u D σ H) : Ends.nx { D with nx := u D } σ H := h
theorem St.unset {K : Fg} {B : Base} {F H : Hp} {ts : List (Option V)} {TM M : List Slot} {σ : L2.St} {j : Nat} {o : Option V} (h : St K B F H (ts ++ σ.set j o) (TM ++ M)) (hTM : TM.length = ts.length) (hM : M[j]? = some .any) : St K B F H (ts ++ σ) (TM ++ M) :=
  h.rew (by simp) fun i => by
    by_cases hi : i < ts.length
    · right
      rw [List.getElem?_append_left hi, List.getElem?_append_left hi]
    · have hi' : ts.length ≤ i := by omega
      by_cases e : i = ts.length + j
      · left
        subst e
        rw [List.getElem?_append_right (by omega), hTM]
        rw [show ts.length + j - ts.length = j by omega]
        exact hM
      · right
        rw [List.getElem?_append_right hi', List.getElem?_append_right hi', List.getElem?_set_ne (by omega)]
theorem hu64 {k : Nat} {A : Around} (r : Room k A) : A.units + 64 < cLine := by have := r.un; omega
theorem hu65 {k : Nat} {A : Around} (r : Room k A) : A.units + 65 < cLine := by have := r.un; omega
/-- the law's own promise, from its mirror -/
theorem law_end {K : Fg} {H : Hp} {a : Addr} {ns : List Int} {R : List Slot → RSlot → List Slot → Prop} {A' : List Slot} {E : XK} (hR : R [.fz (Scr.mk ns)] (.fz true) A') (hl : ns.length ≤ 63) (hS : SqL K H a (ns.map V.int)) : Prom K R [.ref a] H (fun v _ => v = .bl true) E :=
  ⟨H, _, _, _, hR, Ex.refl H, slots_cons (ok_fz ⟨a, rfl, hS, hl⟩) slots_nil, List.nodup_nil, fun u F' H' f => f.ret⟩
/-! ### loops of the mirror -/
theorem forO_nx {α τ ρ : Type} {b : α → τ → Option (Out τ ρ)} {I : τ → Prop} : ∀ {xs : List α} {s : τ}, I s → (∀ x ∈ xs, ∀ s, I s → ∃ s', b x s = some (.nx s') ∧ I s') → ∃ s', forO b xs s = some (.nx s') ∧ I s'
  | [], s, h, _ => ⟨s, rfl, h⟩
  | x :: xs, s, h, k => by
    obtain ⟨s1, e1, h1⟩ := k x (List.mem_cons_self ..) s h
    obtain ⟨s2, e2, h2⟩ := forO_nx h1 fun y m => k y (List.mem_cons_of_mem _ m)
    exact ⟨s2, by unfold forO; rw [e1]; exact e2, h2⟩
theorem foldO_inv {α τ : Type} {b : α → τ → Option τ} {I : τ → Prop} : ∀ {xs : List α} {s : τ}, I s → (∀ x ∈ xs, ∀ s, I s → ∃ s', b x s = some s' ∧ I s') → ∃ s', foldO b xs s = some s' ∧ I s'
  | [], s, h, _ => ⟨s, rfl, h⟩
  | x :: xs, s, h, k => by
    obtain ⟨s1, e1, h1⟩ := k x (List.mem_cons_self ..) s h
    obtain ⟨s2, e2, h2⟩ := foldO_inv h1 fun y m => k y (List.mem_cons_of_mem _ m)
    exact ⟨s2, by unfold foldO; rw [e1]; exact e2, h2⟩
theorem mapS_inv {α β τ : Type} {f : α → τ → Option (β × τ)} {I : τ → Prop} {P : β → Prop} : ∀ {xs : List α} {s : τ}, I s → (∀ x ∈ xs, ∀ s, I s → ∃ p, f x s = some p ∧ P p.1 ∧ I p.2) → ∃ q, mapS f xs s = some q ∧ q.1.length = xs.length ∧ (∀ y ∈ q.1, P y) ∧ I q.2
  | [], s, h, _ => ⟨([], s), rfl, rfl, (fun _ m => by cases m), h⟩
  | x :: xs, s, h, k => by
    obtain ⟨p, e1, p1, h1⟩ := k x (List.mem_cons_self ..) s h
    obtain ⟨q, e2, l2, p2, h2⟩ := mapS_inv h1 fun y m => k y (List.mem_cons_of_mem _ m)
    refine ⟨(p.1 :: q.1, q.2), by unfold mapS; rw [e1]; show (mapS f xs p.2).bind _ = _; rw [e2]; rfl, by simp [l2], fun y m => ?_, h2⟩
    rcases List.mem_cons.mp m with e | m
    · rw [e]; exact p1
    · exact p2 y m
theorem mapO_some {α β : Type} {f : α → Option β} {g : α → β} : ∀ {xs : List α}, (∀ x ∈ xs, f x = some (g x)) → mapO f xs = some (xs.map g)
  | [], _ => rfl
  | x :: xs, h => by
    unfold mapO
    rw [h x (List.mem_cons_self ..), mapO_some fun y m => h y (List.mem_cons_of_mem _ m)]
    rfl
theorem bnd {α β : Type} {m : Option α} {f : α → Option β} {x : α} {y : β} (h : m = some x) (k : f x = some y) : m.bind f = some y := by rw [h]; exact k
theorem mem_rangeO {n : Int} {xs : List Int} (h : rangeO n = some xs) {x : Int} (m : x ∈ xs) : 0 ≤ x ∧ x < n := by
  unfold rangeO at h
  split at h
  · have e := Option.some.inj h
    subst e
    obtain ⟨i, hi, e⟩ := List.mem_map.mp m
    have := List.mem_range.mp hi
    omega
  · cases h
theorem rangeO_some {n : Int} (h1 : -1000000 ≤ n) (h2 : n < 1000000) : ∃ xs, rangeO n = some xs ∧ xs.length = n.toNat := by
  unfold rangeO
  rw [if_pos ⟨h1, h2⟩]
  exact ⟨_, rfl, by simp⟩
/-! ### draws -/
/-- a pot of digits: the first number's own digits, then numbers mixed of the second -/
def PotOk (l : List Int) : Prop := ∃ a b, l = [a, b] ∧ 0 ≤ a ∧ 0 ≤ b ∧ b < 1099511627776
def allBits : Nat → List (List Int)
  | 0 => [[]]
  | n + 1 => (allBits n).map (0 :: ·) ++ (allBits n).map (1 :: ·)
theorem mem_allBits : ∀ {l : List Int}, (∀ x ∈ l, x = 0 ∨ x = 1) → l ∈ allBits l.length
  | [], _ => List.mem_singleton.mpr rfl
  | x :: l, h => by
    have ih := mem_allBits fun y m => h y (List.mem_cons_of_mem _ m)
    rw [List.length_cons]
    unfold allBits
    rcases h x (List.mem_cons_self ..) with e | e
    · subst e
      exact List.mem_append_left _ (List.mem_map.mpr ⟨l, ih, rfl⟩)
    · subst e
      exact List.mem_append_right _ (List.mem_map.mpr ⟨l, ih, rfl⟩)
end G

set_option Elab.async false
set_option linter.all false
set_option maxRecDepth 100000
set_option maxHeartbeats 4000000
/-! G5: more operations. -/
namespace G
open PySem PySem.Spec PyProof.Rows L2
open Rp (rp)
open Ow (ow)
theorem lookup_map_free {f : Str × NameKind → Str × NameKind} (hf : ∀ p, (f p).1 = p.1) (hk : ∀ p, (p.2 = .cell ∨ p.2 = .free) → ((f p).2 = .cell ∨ (f p).2 = .free)) : ∀ {names : List (Str × NameKind)} {x : Str}, (names.lookup x = some .cell ∨ names.lookup x = some .free) →
    ((names.map f).lookup x = some .cell ∨ (names.map f).lookup x = some .free)
  | [], _, h => by rcases h with h | h <;> simp at h
  | (n, k) :: r, x, h => by
    have ih := @lookup_map_free f hf hk r x
    rw [List.map_cons]
    have e : f (n, k) = (n, (f (n, k)).2) := Prod.ext (hf _) rfl
    rw [e]
    cases hx : x == n with
    | true =>
      simp only [List.lookup_cons, hx, Option.some.injEq] at h ⊢
      exact hk (n, k) h
    | false =>
      simp only [List.lookup_cons, hx] at h ⊢
      exact ih h
theorem blk_rl {N : List Str} {sc scope : Scope} {own : List (Str × Nat)} {env : Env} (ok : BlkOk N sc scope own) : BlkOk N (relabel sc env) scope own :=
  ⟨ok.kind, ok.uniq, ok.ix, fun y hy e => lookup_map_free (fun p => by dsimp only; split <;> rfl) (fun p h => by dsimp only; split; exact .inl rfl; exact h) (ok.free y hy e), ok.own⟩
section
variable {X : Cx}
def rInTD (K : Fg) : R2 := fun x y H Q => ∃ d ds, Dp K H x d ∧ Dp K H y (.tuple ds) ∧ SeqAt.shaped d = true ∧ SeqAt.shaped (.tuple ds) = true ∧ Q (.bl (ds.any fun z => PyData.eqv z d)) H
def rNotInTD (K : Fg) : R2 := fun x y H Q => ∃ d ds, Dp K H x d ∧ Dp K H y (.tuple ds) ∧ SeqAt.shaped d = true ∧ SeqAt.shaped (.tuple ds) = true ∧ Q (.bl (!ds.any fun z => PyData.eqv z d)) H
theorem op_inTD (hu : X.A.units + 65 < cLine) : OpR X (compareOp .In) (rInTD X.K) := by
  intro pins s σ H x y v u Q I rx ry h
  obtain ⟨d, ds, hd, he, sd, se, q⟩ := h
  obtain ⟨as, r1⟩ := Dp.reads I d x v hd rx
  obtain ⟨bs, r2⟩ := Dp.reads I (.tuple ds) y u he ry
  exact SeqAt.in_tuple_reads r2 r1 (SeqAt.canLay_of_shaped se) (SeqAt.canLay_of_shaped sd) (room_in_shaped sd hu) ⟨.bl _, H, I, rfl, q⟩
theorem op_notInTD (hu : X.A.units + 65 < cLine) : OpR X (compareOp .NotIn) (rNotInTD X.K) := by
  intro pins s σ H x y v u Q I rx ry h
  obtain ⟨d, ds, hd, he, sd, se, q⟩ := h
  obtain ⟨as, r1⟩ := Dp.reads I d x v hd rx
  obtain ⟨bs, r2⟩ := Dp.reads I (.tuple ds) y u he ry
  exact SeqAt.notIn_tuple_reads r2 r1 (SeqAt.canLay_of_shaped se) (SeqAt.canLay_of_shaped sd) (room_in_shaped sd hu) ⟨.bl _, H, I, rfl, q⟩
end
section
variable {K : Fg} {B : Base} {F H : Hp} {w : List (Option V)} {σ : L2.St} {M : List Slot} {Q : VK} {α : Type} [DecidableEq α] [Py α]
theorem S_inTD {x : α} {xs : Tup α} {v u : V} {c : Bool} (hv : ViewD K H v x) (hu : ViewD K H u xs) (hm : inO x xs.l = some c) (hd : Py.dep α ≤ 59) (q : Q (.bl c) H) : rInTD K v u H Q := by
  unfold inO at hm
  split at hm
  · rename_i hc
    rw [Bool.and_eq_true] at hc
    have e := Option.some.inj hm
    subst e
    refine ⟨_, xs.l.map Py.toD, hv, hu, shaped_of hc.1 (by omega), shaped_of (α := Tup α) (x := xs) hc.2 (by show Py.dep α + 1 ≤ 60; omega), ?_⟩
    rw [any_map_eqv]
    exact q
  · cases hm
theorem S_niTD {x : α} {xs : Tup α} {v u : V} {c : Bool} (hv : ViewD K H v x) (hu : ViewD K H u xs) (hm : inO x xs.l = some c) (hd : Py.dep α ≤ 59) (q : Q (.bl (!c)) H) : rNotInTD K v u H Q := by
  unfold inO at hm
  split at hm
  · rename_i hc
    rw [Bool.and_eq_true] at hc
    have e := Option.some.inj hm
    subst e
    refine ⟨_, xs.l.map Py.toD, hv, hu, shaped_of hc.1 (by omega), shaped_of (α := Tup α) (x := xs) hc.2 (by show Py.dep α + 1 ≤ 60; omega), ?_⟩
    rw [any_map_eqv]
    exact q
  · cases hm
end
section
variable {K : Fg} {B : Base} {F H : Hp} {w : List (Option V)} {σ : L2.St} {M : List Slot} {Q : VK} {α : Type} [Rp α] {ta : TE}
/-- list(range(n)) -/
def LrgG (x : V) (H1 : Hp) (Q : VK) : Prop := ∃ n, x = .int n ∧ (RgOk 0 n ∧ ∀ q, H1 q = none → Q (.ref q) (upd H1 q (.lst (rgV 0 n))))
def tLrg (ta : TE) : TE := tLstRg (tRg1 ta)
theorem S_lrg (h : ta σ H fun x H1 => LrgG x H1 Q) : tLrg ta σ H Q := h
theorem paired_map_int : ∀ xs : List Int, Paired (rp K F) (xs.map V.int) xs
  | [] => .nil
  | x :: xs => .cons rfl (paired_map_int xs)
theorem S_lrgE {n : Int} {zs : List Int} (h : St K B F H w M) (hm : rangeO n = some zs) (q : ∀ p F' H', B.H p = none → St K B F' H' (some (.ref p) :: w) (.own p zs :: M) → Q (.ref p) H') : LrgG (.int n) H Q := by
  have hl := rng1_len hm
  unfold rangeO at hm
  split at hm
  · have e := Option.some.inj hm
    subst e
    refine ⟨n, rfl, ⟨by omega, by omega, by omega, by omega, by omega⟩, fun p hp => q p _ _ (h.freshB hp) (h.pushO hp ⟨_, rfl, ?_, ?_⟩)⟩
    · rw [rgV_length]
      exact Nat.le_trans (by omega : _ ≤ 1000000) (by decide)
    · have e : rgV 0 n = ((List.range n.toNat).map fun (i : Nat) => (0 : Int) + (i : Int)).map V.int := by
        unfold rgV
        rw [List.map_map, show n - 0 = n by omega]
        rfl
      rw [e]
      exact paired_map_int _
  · cases hm
theorem pe_lrg {X : Cx} {a : Expr} {ta : TE} {p p2 pos pos2 : Pos} (hg : Gl X "list") (hg2 : Gl X "range") (hm : X.mg "list" = none) (hm2 : X.mg "range" = none) (ha : PE X a ta) (hc : X.calm = true := by rfl)
    (na : starEach [a] X.env = (false, eval a X.env) :: starEach [] X.env := by rfl) (na2 : starEach [.Call (.Name "range" p2) [a] [] pos2] X.env = (false, eval (.Call (.Name "range" p2) [a] [] pos2) X.env) :: starEach [] X.env := by rfl) :
    PE X (.Call (.Name "list" p) [.Call (.Name "range" p2) [a] [] pos2] [] pos) (tLrg ta) := pe_listRg hc hg hm (prg_1 hg2 hm2 ha na) na2
/-- what is to be read, at the heap itself -/
theorem view_rp {x : List α} {v : V} (h : St K B F H w M) (r : ViewL K F H v x) : rp K H v x := by
  obtain ⟨a, vs, h1, h2, h3, h4⟩ := r
  exact ⟨a, vs, h1, h2, h3, paired_mono h.fh h4⟩
/-- a call that hands back a number, a truth value or a text, and changes nothing: one's own lists may be handed in -/
theorem S_callV {R : List Slot → RSlot → List Slot → Prop} {E : XK} {vs : List V} {A A' : List Slot} {s : RSlot} (h : St K B F H w M) (hA : Slots K H H (vs.map some) A) (hR : R A s A') (ho : owns A = []) (q : ∀ u F' H', St K B F H' w M → RetOk K H F' H' u s → Q u H') : Prom K R vs H Q E := by
  refine ⟨H, A, s, A', hR, Ex.refl H, hA, by rw [ho]; exact List.nodup_nil, fun u F' H' f => ?_⟩
  rw [ho] at f
  have e : Ex H H' := fun a o e => f.h0 a o e (by simp)
  exact q u F' H' (h.step (Ex.refl F) e (h.fh.trans e) fun _ _ => rfl) f.ret
theorem S_callVB {R : List Slot → RSlot → List Slot → Prop} {E : XK} {vs : List V} {A A' : List Slot} {x : Bool} (h : St K B F H w M) (hA : Slots K H H (vs.map some) A) (hR : R A (.fz x) A') (ho : owns A = []) (q : ∀ H', St K B F H' w M → Q (.bl x) H') : Prom K R vs H Q E :=
  S_callV h hA hR ho fun u F' H' h' r => by
    have e : u = .bl x := r
    subst e
    exact q H' h'
theorem S_callVI {R : List Slot → RSlot → List Slot → Prop} {E : XK} {vs : List V} {A A' : List Slot} {x : Int} (h : St K B F H w M) (hA : Slots K H H (vs.map some) A) (hR : R A (.fz x) A') (ho : owns A = []) (q : ∀ H', St K B F H' w M → Q (.int x) H') : Prom K R vs H Q E :=
  S_callV h hA hR ho fun u F' H' h' r => by
    have e : u = .int x := r
    subst e
    exact q H' h'
theorem ok_fzH {x : α} {v : V} (h : St K B F H w M) (r : rp K F v x) : SlotOk K H H (some v) (.fz x) := ⟨v, rfl, Rp.mono h.fh r⟩
theorem ok_vwH {x : List α} {v : V} (h : St K B F H w M) (r : ViewL K F H v x) : SlotOk K H H (some v) (.fz x) := ⟨v, rfl, view_rp h r⟩
end
end G

set_option Elab.async false
set_option linter.all false
set_option maxRecDepth 100000
set_option maxHeartbeats 4000000
/-! G6: plain lemmas on the mirrors' operations. -/
namespace G
open PySem PySem.Spec PyProof.Rows L2
class PyT (α : Type) [DecidableEq α] [Py α] : Prop where
  okT : ∀ x : α, Py.okD x = true
instance : PyT Int := ⟨fun _ => rfl⟩
instance : PyT Bool := ⟨fun _ => rfl⟩
instance {α : Type} [DecidableEq α] [Py α] [PyT α] : PyT (Tup α) := ⟨fun x => List.all_eq_true.mpr fun y _ => PyT.okT y⟩
instance {α : Type} [DecidableEq α] [Py α] [PyT α] : PyT (List α) := ⟨fun x => List.all_eq_true.mpr fun y _ => PyT.okT y⟩
instance {α β : Type} [DecidableEq α] [Py α] [PyT α] [DecidableEq β] [Py β] [PyT β] : PyT (α × β) := ⟨fun x => Bool.and_eq_true _ _ ▸ ⟨PyT.okT x.1, PyT.okT x.2⟩⟩
theorem eqO_t {α : Type} [DecidableEq α] [Py α] [PyT α] (x y : α) : eqO x y = some (decide (x = y)) := by
  unfold eqO
  rw [PyT.okT, PyT.okT]
  rfl
theorem inO_t {α : Type} [DecidableEq α] [Py α] [PyT α] (x : α) (xs : List α) : inO x xs = some (xs.any fun z => decide (z = x)) := by
  unfold inO
  rw [PyT.okT, PyT.okT]
  rfl
section
variable {α β τ ρ : Type}
theorem atI_of {xs : List α} {i : Int} {n : Nat} {y : α} (h : xs[n]? = some y) (e : i = (n : Int)) : atI xs i = some y := by
  subst e
  have hn : n < xs.length := by
    rcases Nat.lt_or_ge n xs.length with q | q
    · exact q
    · rw [List.getElem?_eq_none q] at h; cases h
  unfold atI ixN
  rw [if_pos (by omega), if_pos (by omega)]
  exact h
theorem atI_mem {xs : List α} {i : Int} (h0 : 0 ≤ i) (h1 : i < (xs.length : Int)) : ∃ y, atI xs i = some y ∧ y ∈ xs ∧ xs[i.toNat]? = some y := by
  have hn : i.toNat < xs.length := by omega
  have h := List.getElem?_eq_getElem hn
  exact ⟨_, atI_of h (by omega), List.getElem_mem hn, h⟩
theorem popAt_some {xs : List α} {i : Int} (h0 : 0 ≤ i) (h1 : i < (xs.length : Int)) (h2 : i < 2 ^ 63) : ∃ y, popAt xs i = some (y, xs.eraseIdx i.toNat) ∧ y ∈ xs ∧ xs[i.toNat]? = some y := by
  have hn : i.toNat < xs.length := by omega
  have h := List.getElem?_eq_getElem hn
  refine ⟨_, ?_, List.getElem_mem hn, h⟩
  unfold popAt
  rw [if_pos ⟨by omega, h2⟩]
  have e : seqIndex? i xs.length = some i.toNat := (ixN_seq (by unfold ixN; rw [if_pos h0, if_pos h1])).1
  rw [e]
  show (xs[i.toNat]?).bind _ = _
  rw [h]
  rfl
theorem setL_some {xs : List α} {i : Int} {x : α} (h0 : 0 ≤ i) (h1 : i < (xs.length : Int)) : setL xs i x = some (xs.set i.toNat x) := by
  unfold setL ixN
  rw [if_pos h0, if_pos h1]
  rfl
theorem rangeO_eq {n : Nat} (h : n < 1000000) : rangeO (n : Int) = some ((List.range n).map fun (i : Nat) => (i : Int)) := by
  unfold rangeO
  rw [if_pos ⟨by omega, by omega⟩]
  congr 1
  rw [show (n : Int).toNat = n from rfl]
  refine List.map_congr_left fun i _ => by omega
theorem catT_ok {x y : Tup α} (h : x.l.length + y.l.length ≤ 1000000) : catT x y = some ⟨x.l ++ y.l⟩ := if_pos h
theorem catL_ok {x y : List α} (h : x.length + y.length ≤ 1000000) : catL x y = some (x ++ y) := if_pos h
theorem mapO_ok {f : α → Option β} {P : β → Prop} : ∀ {xs : List α}, (∀ x ∈ xs, ∃ y, f x = some y ∧ P y) → ∃ ys, mapO f xs = some ys ∧ ys.length = xs.length ∧ ∀ y ∈ ys, P y
  | [], _ => ⟨[], rfl, rfl, fun _ m => by cases m⟩
  | x :: xs, h => by
    obtain ⟨y, e, p⟩ := h x (List.mem_cons_self ..)
    obtain ⟨ys, e2, l2, p2⟩ := mapO_ok fun z m => h z (List.mem_cons_of_mem _ m)
    refine ⟨y :: ys, by unfold mapO; rw [e, e2]; rfl, by simp [l2], fun z m => ?_⟩
    rcases List.mem_cons.mp m with q | q
    · rw [q]; exact p
    · exact p2 z q
theorem forO_any {b : α → Unit → Option (Out Unit ρ)} {c : α → Bool} {r : ρ} : ∀ {xs : List α}, (∀ x ∈ xs, b x () = some (if c x = true then .rt r else .nx ())) → forO b xs () = some (if xs.any c = true then .rt r else .nx ())
  | [], _ => rfl
  | x :: xs, h => by
    have ih := forO_any fun z m => h z (List.mem_cons_of_mem _ m)
    unfold forO
    rw [h x (List.mem_cons_self ..), List.any_cons]
    by_cases hc : c x = true
    · rw [if_pos hc, hc]; rfl
    · rw [if_neg hc, Bool.eq_false_iff.mpr hc]; exact ih
theorem forO_go {b : α → Unit → Option (Out Unit ρ)} {xs : List α} (h : ∀ x ∈ xs, b x () = some (.nx ())) : forO b xs () = some (.nx ()) := by
  obtain ⟨s, e, _⟩ := forO_nx (b := b) (I := fun _ => True) (xs := xs) (s := ()) trivial fun x m s _ => ⟨(), h x m, trivial⟩
  exact e
theorem foldO_eq {b : α → τ → Option τ} {g : τ → α → τ} {I : τ → Prop} : ∀ {xs : List α} {s : τ}, I s → (∀ x ∈ xs, ∀ s, I s → b x s = some (g s x) ∧ I (g s x)) → foldO b xs s = some (xs.foldl g s)
  | [], s, _, _ => rfl
  | x :: xs, s, h, k => by
    obtain ⟨e, h1⟩ := k x (List.mem_cons_self ..) s h
    unfold foldO
    rw [e]
    exact foldO_eq h1 fun y m => k y (List.mem_cons_of_mem _ m)
theorem bitsN_of {l : List Int} {n : Nat} (h : l ∈ allBits n) : l.length = n ∧ ∀ x ∈ l, x = 0 ∨ x = 1 := by
  induction n generalizing l with
  | zero => rw [List.mem_singleton.mp h]; exact ⟨rfl, fun _ m => by cases m⟩
  | succ n ih =>
    unfold allBits at h
    rcases List.mem_append.mp h with h | h
    · obtain ⟨r, hr, e⟩ := List.mem_map.mp h
      subst e
      obtain ⟨a, b⟩ := ih hr
      refine ⟨by simp [a], fun x m => ?_⟩
      rcases List.mem_cons.mp m with q | q
      · exact .inl q
      · exact b x q
    · obtain ⟨r, hr, e⟩ := List.mem_map.mp h
      subst e
      obtain ⟨a, b⟩ := ih hr
      refine ⟨by simp [a], fun x m => ?_⟩
      rcases List.mem_cons.mp m with q | q
      · exact .inr q
      · exact b x q
/-- how many a list of pots may hold, of the law's usual form -/
theorem most (n : Nat) (h : n ≤ 63) (m : Int) (hm : 1 ≤ m) : -1000000 ≤ pyMax 1 (pyMin (n : Int) m) ∧ pyMax 1 (pyMin (n : Int) m) < 1000 := by
  unfold pyMax pyMin
  split <;> split <;> omega
end
end G

set_option Elab.async false
set_option linter.all false
set_option maxRecDepth 100000
set_option maxHeartbeats 4000000
namespace W
open PySem PySem.Spec PyProof.Rows L2 G
open Rp (rp)
open Ow (ow)
def topS (i : Nat) : Stmt := PySem.Challenge.pw_relayholds_k62_parted.main.body.getD i (.Pass ⟨0, 0, 0, 0⟩)
abbrev s_is_parting : Stmt := topS 1
abbrev s_are_parted : Stmt := topS 2
abbrev s__law_cell_at : Stmt := topS 4
abbrev s__law_pot : Stmt := topS 5
abbrev s__law_digit : Stmt := topS 6
abbrev s__law_all : Stmt := topS 7
abbrev s__law_is_parted : Stmt := topS 8
abbrev s__law_right : Stmt := topS 9
abbrev s_law : Stmt := topS 10
structure Blt (mg : Str → Option Value) : Prop where
  abs : mg "abs" = none
  any_ : mg "any" = none
  bool_ : mg "bool" = none
  divmod : mg "divmod" = none
  int_ : mg "int" = none
  isinstance : mg "isinstance" = none
  len : mg "len" = none
  list_ : mg "list" = none
  max_ : mg "max" = none
  min_ : mg "min" = none
  range : mg "range" = none
  sorted : mg "sorted" = none
def m_is_parting (p_way : List Int) (p_one : Tup Int) (p_other : Tup Int) : Option Bool := ((atI (Tup.l p_one) (0 : Int)).bind fun x4 => (atI p_way x4).bind fun x6 => (atI (Tup.l p_one) (1 : Int)).bind fun x10 => (atI p_way x10).bind fun x12 => some (decide (x6 = x12))).bind fun c39 => (if c39 = true then ((atI (Tup.l p_other) (0 : Int)).bind fun x16 => (atI p_way x16).bind fun x18 => (atI (Tup.l p_other) (1 : Int)).bind fun x22 => (atI p_way x22).bind fun x24 => some (decide (x18 = x24))).bind fun c37 => (if c37 = true then (atI (Tup.l p_one) (0 : Int)).bind fun x28 => (atI p_way x28).bind fun x30 => (atI (Tup.l p_other) (0 : Int)).bind fun x34 => (atI p_way x34).bind fun x36 => some (!(decide (x30 = x36))) else some false).bind fun c38 => some c38 else some false).bind fun c40 => some c40
inductive R_is_parting : List Slot → RSlot → List Slot → Prop
  | mk (p_way : List Int) (p_one : Tup Int) (p_other : Tup Int)  {r : Bool} : m_is_parting p_way p_one p_other = some r → R_is_parting [.fz p_way, .fz p_one, .fz p_other] (.fz r) [.any, .any, .any]
def t_is_parting (K : Fg) : TS := tRet (tAndV (tOp rEq (tOp (rIxL K) (tVar 0) (tOp (rIxT K) (tVar 1) (tC (.int 0)))) (tOp (rIxL K) (tVar 0) (tOp (rIxT K) (tVar 1) (tC (.int 1))))) (tAndV (tOp rEq (tOp (rIxL K) (tVar 0) (tOp (rIxT K) (tVar 2) (tC (.int 0)))) (tOp (rIxL K) (tVar 0) (tOp (rIxT K) (tVar 2) (tC (.int 1))))) (tOp rNe (tOp (rIxL K) (tVar 0) (tOp (rIxT K) (tVar 1) (tC (.int 0)))) (tOp (rIxL K) (tVar 0) (tOp (rIxT K) (tVar 2) (tC (.int 0)))))))
theorem sc_is_parting : FnScope ["way", "one", "other"] ["way", "one", "other"] (defScope s_is_parting) := ⟨rfl, rfl, rfl, by decide +kernel, rfl, by decide +kernel, by decide +kernel⟩
theorem sem_is_parting {K : Fg} {vs : List V} {H : Hp} {Q : VK} {E : XK} (h : Prom K R_is_parting vs H Q E) {D : Ends} (hD : ∀ u H, Q u H → D.rt u H) (hN : ∀ σ H, Q .non H → D.nx σ H) : t_is_parting K D (start ["way", "one", "other"] vs) H := by
  obtain ⟨F, A, rs, A', hR, fh, hS, nd, q⟩ := h
  cases hR with | @mk p_way p_one p_other  r hm => ?_
  have hl := slots_len hS
  obtain ⟨va0, va1, va2, rfl⟩ := len3 (vs := vs) (by simpa using hl.symm)
  have h : St K ⟨F, H, []⟩ F H [some va0, some va1, some va2] [.fz (p_way : List Int), .fz (p_one : Tup Int), .fz (p_other : Tup Int)] := St.start fh hS nd []
  generalize hB : (⟨F, H, []⟩ : Base) = B0 at h
  have q0 := q
  have q : ∀ u F' H', Fin K B0 (.fz r) [.any, .any, .any] u F' H' → D.rt u H' := by subst hB; exact fun u F' H' z => hD _ _ (q u F' H' z)
  have qN : ∀ σ F' H', Fin K B0 (.fz r) [.any, .any, .any] .non F' H' → D.nx σ H' := by subst hB; exact fun σ F' H' z => hN _ _ (q0 _ F' H' z)
  clear hB q0 hD hN
  rw [show start ["way", "one", "other"] [va0, va1, va2] = [some va0, some va1, some va2] from rfl]
  unfold t_is_parting
  unfold m_is_parting at hm
  refine S_ret ?_
  obtain ⟨c39, hc39, hm⟩ := ob hm
  obtain ⟨c40, hc40, hm⟩ := ob hm
  refine S_andV (a := c39) (c := c40) h (fun Q' q' => ?_) (fun hc F H Q' h q' => ?_) (fun hc => ?_) fun F H h => ?_
  · have hm := hc39
    refine S_op ?_
    refine S_op ?_
    refine S_var 0 h rfl rfl fun v1 h => ?_
    refine S_op ?_
    refine S_var 1 h rfl rfl fun v2 h => ?_
    refine S_c ?_
    obtain ⟨x4, hx4, hm⟩ := ob hm
    refine S_ixT h.pop (h.fz 0 rfl rfl) hx4 fun u3 h => ?_
    obtain rfl : u3 = (V.int x4) := h.fz 0 rfl rfl
    have h := h.pop
    obtain ⟨x6, hx6, hm⟩ := ob hm
    refine S_ixL h.pop (h.vF 0 rfl rfl) hx6 fun u5 h => ?_
    obtain rfl : u5 = (V.int x6) := h.fz 0 rfl rfl
    have h := h.pop
    refine S_op ?_
    refine S_var 0 h rfl rfl fun v7 h => ?_
    refine S_op ?_
    refine S_var 1 h rfl rfl fun v8 h => ?_
    refine S_c ?_
    obtain ⟨x10, hx10, hm⟩ := ob hm
    refine S_ixT h.pop (h.fz 0 rfl rfl) hx10 fun u9 h => ?_
    obtain rfl : u9 = (V.int x10) := h.fz 0 rfl rfl
    have h := h.pop
    obtain ⟨x12, hx12, hm⟩ := ob hm
    refine S_ixL h.pop (h.vF 0 rfl rfl) hx12 fun u11 h => ?_
    obtain rfl : u11 = (V.int x12) := h.fz 0 rfl rfl
    have h := h.pop
    refine S_eqI ?_
    have hz := h
    cases hm
    exact q' _ _ hz
  · have hm := ifT hc hc40
    obtain ⟨c37, hc37, hm⟩ := ob hm
    obtain ⟨c38, hc38, hm⟩ := ob hm
    refine S_andV (a := c37) (c := c38) h (fun Q' q' => ?_) (fun hc F H Q' h q' => ?_) (fun hc => ?_) fun F H h => ?_
    · have hm := hc37
      refine S_op ?_
      refine S_op ?_
      refine S_var 0 h rfl rfl fun v13 h => ?_
      refine S_op ?_
      refine S_var 1 h rfl rfl fun v14 h => ?_
      refine S_c ?_
      obtain ⟨x16, hx16, hm⟩ := ob hm
      refine S_ixT h.pop (h.fz 0 rfl rfl) hx16 fun u15 h => ?_
      obtain rfl : u15 = (V.int x16) := h.fz 0 rfl rfl
      have h := h.pop
      obtain ⟨x18, hx18, hm⟩ := ob hm
      refine S_ixL h.pop (h.vF 0 rfl rfl) hx18 fun u17 h => ?_
      obtain rfl : u17 = (V.int x18) := h.fz 0 rfl rfl
      have h := h.pop
      refine S_op ?_
      refine S_var 0 h rfl rfl fun v19 h => ?_
      refine S_op ?_
      refine S_var 1 h rfl rfl fun v20 h => ?_
      refine S_c ?_
      obtain ⟨x22, hx22, hm⟩ := ob hm
      refine S_ixT h.pop (h.fz 0 rfl rfl) hx22 fun u21 h => ?_
      obtain rfl : u21 = (V.int x22) := h.fz 0 rfl rfl
      have h := h.pop
      obtain ⟨x24, hx24, hm⟩ := ob hm
      refine S_ixL h.pop (h.vF 0 rfl rfl) hx24 fun u23 h => ?_
      obtain rfl : u23 = (V.int x24) := h.fz 0 rfl rfl
      have h := h.pop
      refine S_eqI ?_
      have hz := h
      cases hm
      exact q' _ _ hz
    · have hm := ifT hc hc38
      refine S_op ?_
      refine S_op ?_
      refine S_var 0 h rfl rfl fun v25 h => ?_
      refine S_op ?_
      refine S_var 1 h rfl rfl fun v26 h => ?_
      refine S_c ?_
      obtain ⟨x28, hx28, hm⟩ := ob hm
      refine S_ixT h.pop (h.fz 0 rfl rfl) hx28 fun u27 h => ?_
      obtain rfl : u27 = (V.int x28) := h.fz 0 rfl rfl
      have h := h.pop
      obtain ⟨x30, hx30, hm⟩ := ob hm
      refine S_ixL h.pop (h.vF 0 rfl rfl) hx30 fun u29 h => ?_
      obtain rfl : u29 = (V.int x30) := h.fz 0 rfl rfl
      have h := h.pop
      refine S_op ?_
      refine S_var 0 h rfl rfl fun v31 h => ?_
      refine S_op ?_
      refine S_var 1 h rfl rfl fun v32 h => ?_
      refine S_c ?_
      obtain ⟨x34, hx34, hm⟩ := ob hm
      refine S_ixT h.pop (h.fz 0 rfl rfl) hx34 fun u33 h => ?_
      obtain rfl : u33 = (V.int x34) := h.fz 0 rfl rfl
      have h := h.pop
      obtain ⟨x36, hx36, hm⟩ := ob hm
      refine S_ixL h.pop (h.vF 0 rfl rfl) hx36 fun u35 h => ?_
      obtain rfl : u35 = (V.int x36) := h.fz 0 rfl rfl
      have h := h.pop
      refine S_neI ?_
      have hz := h
      cases hm
      exact q' _ _ hz
    · exact (Option.some.inj (ifF hc hc38)).symm
    have hz := h
    cases hm
    exact q' _ _ hz
  · exact (Option.some.inj (ifF hc hc40)).symm
  have hz := h
  cases hm
  exact q _ _ _ (hz.finB trivial)
theorem fn_is_parting {P : Program} {w : World} {K : Fg} {mg : Str → Option Value} {base : Heap} (bz : Blt mg) {f : Addr} {fd : FuncData} (F0 : Fun K "is_parting" "is_parting" s_is_parting f fd)  : FnOk P w K mg base CX0 1 f fd ["way", "one", "other"] (Prom K R_is_parting) :=
  F0.ok sc_is_parting (prom_len 3 fun A s A' h => by cases h; rfl) fun cdv A outer s H vs Q E hr h => ⟨t_is_parting K, pss_one (ps_ret (pe_and (pe_cmpR (r := rEq) op_eq (pe_ix (r := rIxL K) ix_list (pv 0) (pe_ix (r := rIxT K) ix_tup (pv 1) (pe_int) (fun _ _ => rfl)) (fun _ _ => rfl)) (pe_ix (r := rIxL K) ix_list (pv 0) (pe_ix (r := rIxT K) ix_tup (pv 1) (pe_int) (fun _ _ => rfl)) (fun _ _ => rfl)) (nomark _)) (pe_and (pe_cmpR (r := rEq) op_eq (pe_ix (r := rIxL K) ix_list (pv 0) (pe_ix (r := rIxT K) ix_tup (pv 2) (pe_int) (fun _ _ => rfl)) (fun _ _ => rfl)) (pe_ix (r := rIxL K) ix_list (pv 0) (pe_ix (r := rIxT K) ix_tup (pv 2) (pe_int) (fun _ _ => rfl)) (fun _ _ => rfl)) (nomark _)) (pe_one (pe_cmpR (r := rNe) op_ne (pe_ix (r := rIxL K) ix_list (pv 0) (pe_ix (r := rIxT K) ix_tup (pv 1) (pe_int) (fun _ _ => rfl)) (fun _ _ => rfl)) (pe_ix (r := rIxL K) ix_list (pv 0) (pe_ix (r := rIxT K) ix_tup (pv 2) (pe_int) (fun _ _ => rfl)) (fun _ _ => rfl)) (nomark _)))))), sem_is_parting h (fun _ _ z => z) fun _ _ z => z⟩
theorem ok_is_parting {P : Program} {w : World} {K : Fg} {mg : Str → Option Value} {base : Heap} (bz : Blt mg) {f : Addr} {fd : FuncData} (F0 : Fun K "is_parting" "is_parting" s_is_parting f fd) (g0 : mg "is_parting" = some (.ref f)) (b0 : Binds K fd ["way", "one", "other"] [])  : Cal P w K mg base 1 "is_parting" ["way", "one", "other"] R_is_parting :=
  Cal.mk' (fn_is_parting bz F0) g0 F0.kp b0

def m_are_parted_c1 (x5 : Int) (x12 : Tup Int) : Option Int := (atI (Tup.l x12) x5).bind fun x19 => some x19
def m_are_parted_c0 (p_names : List (Tup Int)) (x5 : Int) : Option (List Int) := (mapO (m_are_parted_c1 x5) p_names).bind fun ys20 => some ys20
def m_are_parted_c2 (p_one : Tup Int) (p_other : Tup Int) (x26 : List Int) : Option Bool := (m_is_parting x26 p_one p_other).bind fun r34 => some r34
def m_are_parted (p_names : List (Tup Int)) (p_one : Tup Int) (p_other : Tup Int) : Option Bool := (atI p_names (0 : Int)).bind fun x3 => (rangeO (List.length (Tup.l x3) : Int)).bind fun xs4 => (mapO (m_are_parted_c0 p_names) xs4).bind fun ys22 => (mapO (m_are_parted_c2 p_one p_other) ys22).bind fun ys35 => some (List.any ys35 id)
inductive R_are_parted : List Slot → RSlot → List Slot → Prop
  | mk (p_names : List (Tup Int)) (p_one : Tup Int) (p_other : Tup Int)  {r : Bool} : m_are_parted p_names p_one p_other = some r → R_are_parted [.fz p_names, .fz p_one, .fz p_other] (.fz r) [.any, .any, .any]
def t_are_parted (K : Fg) : TS := tSeq (tAsg (tLc (iRng1 (tCons (tCB (rLenG K) (tCons (tOp (rIxL K) (tVar 0) (tC (.int 0))) (tNil))) (tNil))) (gName 4) (tYes) (tLc (iList K (tVar 0)) (gName 5) (tYes) (tOp (rIxT K) (tVar 5) (tVar 4)) [5]) [4]) (gName 3)) (tRet (tCB (rAny K) (tCons (tLc (iList K (tVar 3)) (gName 6) (tYes) (tCall (Prom K R_is_parting) [] E0 (tCons (tVar 6) (tCons (tVar 1) (tCons (tVar 2) (tNil))))) [6]) (tNil))))
theorem sc_are_parted : FnScope ["names", "one", "other", "ways", "place", "name", "way"] ["names", "one", "other"] (defScope s_are_parted) := ⟨rfl, rfl, rfl, by decide +kernel, rfl, by decide +kernel, by decide +kernel⟩
theorem sem_are_parted {K : Fg} {vs : List V} {H : Hp} {Q : VK} {E : XK} (h : Prom K R_are_parted vs H Q E) {D : Ends} (hD : ∀ u H, Q u H → D.rt u H) (hN : ∀ σ H, Q .non H → D.nx σ H) : t_are_parted K D (start ["names", "one", "other", "ways", "place", "name", "way"] vs) H := by
  obtain ⟨F, A, rs, A', hR, fh, hS, nd, q⟩ := h
  cases hR with | @mk p_names p_one p_other  r hm => ?_
  have hl := slots_len hS
  obtain ⟨va0, va1, va2, rfl⟩ := len3 (vs := vs) (by simpa using hl.symm)
  have h : St K ⟨F, H, []⟩ F H [some va0, some va1, some va2, none, none, none, none] [.fz (p_names : List (Tup Int)), .fz (p_one : Tup Int), .fz (p_other : Tup Int), .any, .any, .any, .any] := St.start fh hS nd [none, none, none, none]
  generalize hB : (⟨F, H, []⟩ : Base) = B0 at h
  have q0 := q
  have q : ∀ u F' H', Fin K B0 (.fz r) [.any, .any, .any] u F' H' → D.rt u H' := by subst hB; exact fun u F' H' z => hD _ _ (q u F' H' z)
  have qN : ∀ σ F' H', Fin K B0 (.fz r) [.any, .any, .any] .non F' H' → D.nx σ H' := by subst hB; exact fun σ F' H' z => hN _ _ (q0 _ F' H' z)
  clear hB q0 hD hN
  rw [show start ["names", "one", "other", "ways", "place", "name", "way"] [va0, va1, va2] = [some va0, some va1, some va2, none, none, none, none] from rfl]
  unfold t_are_parted
  unfold m_are_parted at hm
  refine Q_asg ?_
  refine S_lc ?_
  refine S_iR1 ?_
  refine S_cons ?_
  refine S_cb ?_
  refine S_cons ?_
  refine S_op ?_
  refine S_var 0 h rfl rfl fun v1 h => ?_
  refine S_c ?_
  obtain ⟨x3, hx3, hm⟩ := ob hm
  refine S_ixL h.pop (h.vF 0 rfl rfl) hx3 fun u2 h => ?_
  refine S_nil ?_
  refine S_lenT h (h.fz 0 rfl rfl) ?_
  have h := h.pop
  refine S_nil ?_
  obtain ⟨xs4, hxs4, hm⟩ := ob hm
  refine S_rng1 (K := K) hxs4 fun J Y => ?_
  obtain ⟨ys22, hys22, hm⟩ := ob hm
  refine S_mapO (ts := []) (TM := []) (M := [.fz (p_names : List (Tup Int)), .fz (p_one : Tup Int), .fz (p_other : Tup Int), .any, .any, .any, .any]) Y hys22 h rfl ⟨rfl, trivial⟩ (rng1_len hxs4) (fun w F H h => trivial) (fun x5 z v6 D7 a8 F H G N hf h hG => ?_) (fun D23 F H hBD23 h => ?_)
  · have hm := hf
    unfold m_are_parted_c0 at hm
    have h : St K B0 F H (some v6 :: some (V.ref D7) :: wipe [some va0, some va1, some va2, none, none, none, none] [4]) [.fz (x5 : Int), .own D7 a8, .fz (p_names : List (Tup Int)), .fz (p_one : Tup Int), .fz (p_other : Tup Int), .any, .any, .any, .any] := h
    refine S_gName ?_
    have h : St K B0 F H (some (V.ref D7) :: List.set (wipe [some va0, some va1, some va2, none, none, none, none] [4]) 4 (some v6)) [.own D7 a8, .fz (p_names : List (Tup Int)), .fz (p_one : Tup Int), .fz (p_other : Tup Int), .any, .fz (x5 : Int), .any, .any] := St.setF (v := v6) (x := (x5 : Int)) h.pop 5 (h.fz 0 rfl rfl)
    refine ⟨(wipe_set (by decide)).trans wipe_idem, ?_⟩
    refine if1 ?_
    refine S_lc ?_
    refine S_iL ?_
    refine S_var 1 h rfl rfl fun v10 h => ?_
    refine S_itL (h.vF 0 rfl rfl) fun a11 e1 => ?_
    subst e1
    obtain ⟨ys20, hys20, hm⟩ := ob hm
    refine S_mapO (ts := [some (V.ref a11), some (V.ref D7)]) (TM := [.fz (p_names : List (Tup Int)), .own D7 a8]) (M := [.fz (p_names : List (Tup Int)), .fz (p_one : Tup Int), .fz (p_other : Tup Int), .any, .fz (x5 : Int), .any, .any]) (yields_list a11 p_names) hys20 h rfl ⟨rfl, trivial⟩ (view_len (h.vF 0 rfl rfl)) (fun w F H h => (h.vF 0 rfl rfl)) (fun x12 z v13 D14 a15 F H G N hf h hG => ?_) (fun D21 F H hBD21 h => ?_)
    · have hm := hf
      unfold m_are_parted_c1 at hm
      have h : St K B0 F H (some v13 :: some (V.ref D14) :: some (V.ref a11) :: some (V.ref D7) :: wipe (List.set (wipe [some va0, some va1, some va2, none, none, none, none] [4]) 4 (some v6)) [5]) [.fz (x12 : Tup Int), .own D14 a15, .fz (p_names : List (Tup Int)), .own D7 a8, .fz (p_names : List (Tup Int)), .fz (p_one : Tup Int), .fz (p_other : Tup Int), .any, .fz (x5 : Int), .any, .any] := h
      refine S_gName ?_
      have h : St K B0 F H (some (V.ref D14) :: some (V.ref a11) :: some (V.ref D7) :: List.set (wipe (List.set (wipe [some va0, some va1, some va2, none, none, none, none] [4]) 4 (some v6)) [5]) 5 (some v13)) [.own D14 a15, .fz (p_names : List (Tup Int)), .own D7 a8, .fz (p_names : List (Tup Int)), .fz (p_one : Tup Int), .fz (p_other : Tup Int), .any, .fz (x5 : Int), .fz (x12 : Tup Int), .any] := St.setF (v := v13) (x := (x12 : Tup Int)) h.pop 8 (h.fz 0 rfl rfl)
      refine ⟨(wipe_set (by decide)).trans wipe_idem, ?_⟩
      refine if1 ?_
      refine S_op ?_
      refine S_var 3 h rfl rfl fun v17 h => ?_
      refine S_varI 4 h rfl rfl ?_
      obtain ⟨x19, hx19, hm⟩ := ob hm
      refine S_ixT h.pop (h.fz 0 rfl rfl) hx19 fun u18 h => ?_
      obtain rfl : u18 = (V.int x19) := h.fz 0 rfl rfl
      have h := h.pop
      have hz := h
      cases hm
      exact hG _ _ _ (St.unset (ts := [some (V.ref D14), some (V.ref a11), some (V.ref D7)]) (TM := [.own D14 a15, .fz (p_names : List (Tup Int)), .own D7 a8]) (M := [.fz (p_names : List (Tup Int)), .fz (p_one : Tup Int), .fz (p_other : Tup Int), .any, .fz (x5 : Int), .any, .any]) (hz.weak ⟨.inr rfl, .inr rfl, .inr rfl, .inr rfl, .inr rfl, .inr rfl, .inr rfl, .inr rfl, .inl rfl, .inr rfl, trivial⟩) rfl rfl) rfl
    have h : St K B0 F H (some (V.ref D21) :: some (V.ref a11) :: some (V.ref D7) :: List.set (wipe [some va0, some va1, some va2, none, none, none, none] [4]) 4 (some v6)) [.own D21 ys20, .fz (p_names : List (Tup Int)), .own D7 a8, .fz (p_names : List (Tup Int)), .fz (p_one : Tup Int), .fz (p_other : Tup Int), .any, .fz (x5 : Int), .any, .any] := h
    have h := h.nip
    refine S_frz h hBD21 _ fun F h => ?_
    have hz := h
    cases hm
    exact hG _ _ _ (St.unset (ts := [some (V.ref D7)]) (TM := [.own D7 a8]) (M := [.fz (p_names : List (Tup Int)), .fz (p_one : Tup Int), .fz (p_other : Tup Int), .any, .any, .any, .any]) (hz.pop.weak ⟨.inr rfl, .inr rfl, .inr rfl, .inr rfl, .inr rfl, .inl rfl, .inr rfl, .inr rfl, trivial⟩) rfl rfl) (hz.fz 0 rfl rfl)
  have h : St K B0 F H (some (V.ref D23) :: [some va0, some va1, some va2, none, none, none, none]) [.own D23 ys22, .fz (p_names : List (Tup Int)), .fz (p_one : Tup Int), .fz (p_other : Tup Int), .any, .any, .any, .any] := h
  refine S_gName ?_
  refine S_frz h hBD23 _ fun F h => ?_
  have h : St K B0 F H (List.set [some va0, some va1, some va2, none, none, none, none] 3 (some (V.ref D23))) [.fz (p_names : List (Tup Int)), .fz (p_one : Tup Int), .fz (p_other : Tup Int), .fz (ys22 : List (List Int)), .any, .any, .any] := St.setF (v := (V.ref D23)) (x := (ys22 : List (List Int))) h.pop 3 (h.fz 0 rfl rfl)
  refine S_ret ?_
  refine S_cb ?_
  refine S_cons ?_
  refine S_lc ?_
  refine S_iL ?_
  refine S_var 0 h rfl rfl fun v24 h => ?_
  refine S_itL (h.vF 0 rfl rfl) fun a25 e1 => ?_
  subst e1
  obtain ⟨ys35, hys35, hm⟩ := ob hm
  refine S_mapO (ts := [some (V.ref a25)]) (TM := [.fz (ys22 : List (List Int))]) (M := [.fz (p_names : List (Tup Int)), .fz (p_one : Tup Int), .fz (p_other : Tup Int), .fz (ys22 : List (List Int)), .any, .any, .any]) (yields_list a25 ys22) hys35 h rfl ⟨rfl, trivial⟩ (view_len (h.vF 0 rfl rfl)) (fun w F H h => (h.vF 0 rfl rfl)) (fun x26 z v27 D28 a29 F H G N hf h hG => ?_) (fun D36 F H hBD36 h => ?_)
  · have hm := hf
    unfold m_are_parted_c2 at hm
    have h : St K B0 F H (some v27 :: some (V.ref D28) :: some (V.ref a25) :: wipe (List.set [some va0, some va1, some va2, none, none, none, none] 3 (some (V.ref D23))) [6]) [.fz (x26 : List Int), .own D28 a29, .fz (ys22 : List (List Int)), .fz (p_names : List (Tup Int)), .fz (p_one : Tup Int), .fz (p_other : Tup Int), .fz (ys22 : List (List Int)), .any, .any, .any] := h
    refine S_gName ?_
    have h : St K B0 F H (some (V.ref D28) :: some (V.ref a25) :: List.set (wipe (List.set [some va0, some va1, some va2, none, none, none, none] 3 (some (V.ref D23))) [6]) 6 (some v27)) [.own D28 a29, .fz (ys22 : List (List Int)), .fz (p_names : List (Tup Int)), .fz (p_one : Tup Int), .fz (p_other : Tup Int), .fz (ys22 : List (List Int)), .any, .any, .fz (x26 : List Int)] := St.setF (v := v27) (x := (x26 : List Int)) h.pop 8 (h.fz 0 rfl rfl)
    refine ⟨(wipe_set (by decide)).trans wipe_idem, ?_⟩
    refine if1 ?_
    refine S_tcall ?_
    refine S_cons ?_
    refine S_var 2 h rfl rfl fun v31 h => ?_
    refine S_cons ?_
    refine S_var 3 h rfl rfl fun v32 h => ?_
    refine S_cons ?_
    refine S_var 4 h rfl rfl fun v33 h => ?_
    refine S_nil ?_
    obtain ⟨r34, hr34, hm⟩ := ob hm
    refine S_callB (A := [.fz (x26 : List Int), .fz (p_one : Tup Int), .fz (p_other : Tup Int)]) h.pop.pop.pop (slots_cons (ok_fz (h.fz 2 rfl rfl)) (slots_cons (ok_fz (h.fz 1 rfl rfl)) (slots_cons (ok_fz (h.fz 0 rfl rfl)) slots_nil))) (R_is_parting.mk _ _ _ hr34) rfl fun F H h => ?_
    have hz := h
    cases hm
    exact hG _ _ _ (St.unset (ts := [some (V.ref D28), some (V.ref a25)]) (TM := [.own D28 a29, .fz (ys22 : List (List Int))]) (M := [.fz (p_names : List (Tup Int)), .fz (p_one : Tup Int), .fz (p_other : Tup Int), .fz (ys22 : List (List Int)), .any, .any, .any]) (hz.weak ⟨.inr rfl, .inr rfl, .inr rfl, .inr rfl, .inr rfl, .inr rfl, .inr rfl, .inr rfl, .inl rfl, trivial⟩) rfl rfl) rfl
  have h : St K B0 F H (some (V.ref D36) :: some (V.ref a25) :: List.set [some va0, some va1, some va2, none, none, none, none] 3 (some (V.ref D23))) [.own D36 ys35, .fz (ys22 : List (List Int)), .fz (p_names : List (Tup Int)), .fz (p_one : Tup Int), .fz (p_other : Tup Int), .fz (ys22 : List (List Int)), .any, .any, .any] := h
  have h := h.nip
  refine S_frz h hBD36 _ fun F h => ?_
  refine S_nil ?_
  refine S_any (h.vF 0 rfl rfl) ?_
  have h := h.pop
  have hz := h
  cases hm
  exact q _ _ _ (hz.finB trivial)
theorem fn_are_parted {P : Program} {w : World} {K : Fg} {mg : Str → Option Value} {base : Heap} (bz : Blt mg) {f : Addr} {fd : FuncData} (F0 : Fun K "are_parted" "are_parted" s_are_parted f fd) (C_is_parting : Cal P w K mg base 1 "is_parting" ["way", "one", "other"] R_is_parting) : FnOk P w K mg base CX0 2 f fd ["names", "one", "other"] (Prom K R_are_parted) :=
  F0.ok sc_are_parted (prom_len 3 fun A s A' h => by cases h; rfl) fun cdv A outer s H vs Q E hr h => ⟨t_are_parted K, pss_cons (ps_setLc (i := 3) (own := [("place", 4)]) (g := gName 4) (tt := tYes) (te := tLc (iList K (tVar 0)) (gName 5) (tYes) (tOp (rIxT K) (tVar 5) (tVar 4)) [5]) (wi := iRng1 (tCons (tCB (rLenG K) (tCons (tOp (rIxL K) (tVar 0) (tC (.int 0))) (tNil))) (tNil))) rfl sc_are_parted.nd rfl rfl (sw_true rfl rfl rfl (by decide +kernel)) (pi_range1 (by rfl) bz.range (pa_cons (pe_callB (r := rLenG K) cr_lenG (by rfl) bz.len (by decide +kernel) (pa_cons (pe_ix (r := rIxL K) ix_list (pv 0) (pe_int) (fun _ _ => rfl)) (pa_nil))) (pa_nil))) (blkOk_by (N := ["names", "one", "other", "ways", "place", "name", "way"]) (sc := defScope s_are_parted) (by decide +kernel)) (fun _ _ _ _ _ => pg_name (i := 4) sc_are_parted.nd rfl (by first | exact .inl rfl | exact .inr rfl)) (fun _ _ _ _ _ => pts_nil) (fun _ _ _ _ _ => pe_lc (own := [("name", 5)]) (g := gName 5) (tt := tYes) (te := tOp (rIxT K) (tVar 5) (tVar 4)) (wi := iList K (tVar 0)) rfl sc_are_parted.nd (pi_list (pv 0)) (blk_rl (blkOk_by (N := ["names", "one", "other", "ways", "place", "name", "way"]) (sc := { kind := PySem.ScopeKind.function, names := [ (PySem.Str.ofString ".0", PySem.NameKind.local), (PySem.Str.ofString "place", PySem.NameKind.cell), (PySem.Str.ofString "names", PySem.NameKind.free)], isGenerator := false, isCoroutine := false, more := [] : PySem.Scope }) (by decide +kernel))) (fun _ _ _ _ _ => pg_name (i := 5) sc_are_parted.nd rfl (by first | exact .inl rfl | exact .inr rfl)) (fun _ _ _ _ _ => pts_nil) (fun _ _ _ _ _ => pe_ix (r := rIxT K) ix_tup (pv 5) (pv 4) (fun _ _ => rfl)))) (pss_one (ps_ret (pe_callB (r := rAny K) (cr_any rfl) (by rfl) bz.any_ (by decide +kernel) (pa_cons (pe_lc (own := [("way", 6)]) (g := gName 6) (tt := tYes) (te := tCall (Prom K R_is_parting) [] E0 (tCons (tVar 6) (tCons (tVar 1) (tCons (tVar 2) (tNil))))) (wi := iList K (tVar 3)) rfl sc_are_parted.nd (pi_list (pv 3)) (blkOk_by (N := ["names", "one", "other", "ways", "place", "name", "way"]) (sc := defScope s_are_parted) (by decide +kernel)) (fun _ _ _ _ _ => pg_name (i := 6) sc_are_parted.nd rfl (by first | exact .inl rfl | exact .inr rfl)) (fun _ _ _ _ _ => pts_nil) (fun _ _ _ _ _ => C_is_parting.pe (hr.mono (by decide)) (by rfl) (pa_cons (pv 6) (pa_cons (pv 1) (pa_cons (pv 2) (pa_nil)))))) (pa_nil))))), sem_are_parted h (fun _ _ z => z) fun _ _ z => z⟩
theorem ok_are_parted {P : Program} {w : World} {K : Fg} {mg : Str → Option Value} {base : Heap} (bz : Blt mg) {f : Addr} {fd : FuncData} (F0 : Fun K "are_parted" "are_parted" s_are_parted f fd) (g0 : mg "are_parted" = some (.ref f)) (b0 : Binds K fd ["names", "one", "other"] []) (C_is_parting : Cal P w K mg base 1 "is_parting" ["way", "one", "other"] R_is_parting) : Cal P w K mg base 2 "are_parted" ["names", "one", "other"] R_are_parted :=
  Cal.mk' (fn_are_parted bz F0 C_is_parting) g0 F0.kp b0

def m__law_cell_at (p_script : Scr) (p_k : Int) : Option Int := if (decide (p_k < (List.length p_script.l : Int))) = true then (atI p_script.l p_k).bind fun x4 => some x4 else some (0 : Int)
inductive R__law_cell_at : List Slot → RSlot → List Slot → Prop
  | mk (p_script : Scr) (p_k : Int)  {r : Int} : m__law_cell_at p_script p_k = some r → R__law_cell_at [.fz p_script, .fz p_k] (.fz r) [.any, .any]
def t__law_cell_at (K : Fg) : TS := tSeq (tIfS (tTest (tOp (rI0 fun i j => .bl (decide (i < j))) (tVar 1) (tCB (rLenG K) (tCons (tVar 0) (tNil))))) (tRet (tOp (rIxL K) (tVar 0) (tVar 1))) tNext) (tRet (tC (.int 0)))
theorem sc__law_cell_at : FnScope ["_law_script", "_law_k"] ["_law_script", "_law_k"] (defScope s__law_cell_at) := ⟨rfl, rfl, rfl, by decide +kernel, rfl, by decide +kernel, by decide +kernel⟩
theorem sem__law_cell_at {K : Fg} {vs : List V} {H : Hp} {Q : VK} {E : XK} (h : Prom K R__law_cell_at vs H Q E) {D : Ends} (hD : ∀ u H, Q u H → D.rt u H) (hN : ∀ σ H, Q .non H → D.nx σ H) : t__law_cell_at K D (start ["_law_script", "_law_k"] vs) H := by
  obtain ⟨F, A, rs, A', hR, fh, hS, nd, q⟩ := h
  cases hR with | @mk p_script p_k  r hm => ?_
  have hl := slots_len hS
  obtain ⟨va0, va1, rfl⟩ := len2 (vs := vs) (by simpa using hl.symm)
  have h : St K ⟨F, H, []⟩ F H [some va0, some va1] [.fz (p_script : Scr), .fz (p_k : Int)] := St.start fh hS nd []
  generalize hB : (⟨F, H, []⟩ : Base) = B0 at h
  have q0 := q
  have q : ∀ u F' H', Fin K B0 (.fz r) [.any, .any] u F' H' → D.rt u H' := by subst hB; exact fun u F' H' z => hD _ _ (q u F' H' z)
  have qN : ∀ σ F' H', Fin K B0 (.fz r) [.any, .any] .non F' H' → D.nx σ H' := by subst hB; exact fun σ F' H' z => hN _ _ (q0 _ F' H' z)
  clear hB q0 hD hN
  rw [show start ["_law_script", "_law_k"] [va0, va1] = [some va0, some va1] from rfl]
  unfold t__law_cell_at
  unfold m__law_cell_at at hm
  refine Q_if ?_
  refine T_test ?_
  refine S_op ?_
  refine S_varI 0 h rfl rfl ?_
  refine S_cb ?_
  refine S_cons ?_
  refine S_var 0 h rfl rfl fun v1 h => ?_
  refine S_nil ?_
  refine S_lenScr h (h.fz 0 rfl rfl) ?_
  have h := h.pop
  refine S_I0 ?_
  refine T_bl ?_
  refine S_ite hm (fun hc hm => ?_) (fun hc hm => ?_)
  · skip
    refine S_ret ?_
    refine S_op ?_
    refine S_var 0 h rfl rfl fun v2 h => ?_
    refine S_varI 1 h rfl rfl ?_
    obtain ⟨x4, hx4, hm⟩ := ob hm
    refine S_ixScr h (h.fz 0 rfl rfl) hx4 ?_
    have h := h.pop
    have hz := h
    cases hm
    exact q _ _ _ (hz.finI trivial)
  refine Q_next ?_
  refine S_ret ?_
  refine S_c ?_
  have hz := h
  cases hm
  exact q _ _ _ (hz.finI trivial)
theorem fn__law_cell_at {P : Program} {w : World} {K : Fg} {mg : Str → Option Value} {base : Heap} (bz : Blt mg) {f : Addr} {fd : FuncData} (F0 : Fun K "_law_cell_at" "_law_cell_at" s__law_cell_at f fd)  : FnOk P w K mg base CX0 1 f fd ["_law_script", "_law_k"] (Prom K R__law_cell_at) :=
  F0.ok sc__law_cell_at (prom_len 2 fun A s A' h => by cases h; rfl) fun cdv A outer s H vs Q E hr h => ⟨t__law_cell_at K, pss_cons (ps_if (pt_cmpR (r := (rI0 fun i j => .bl (decide (i < j)))) op_lt (pv 1) (pe_callB (r := rLenG K) cr_lenG (by rfl) bz.len (by decide +kernel) (pa_cons (pv 0) (pa_nil))) (nomark _)) (pss_one (ps_ret (pe_ix (r := rIxL K) ix_list (pv 0) (pv 1) (fun _ _ => rfl)))) pss_nil) (pss_one (ps_ret (pe_int))), sem__law_cell_at h (fun _ _ z => z) fun _ _ z => z⟩
theorem ok__law_cell_at {P : Program} {w : World} {K : Fg} {mg : Str → Option Value} {base : Heap} (bz : Blt mg) {f : Addr} {fd : FuncData} (F0 : Fun K "_law_cell_at" "_law_cell_at" s__law_cell_at f fd) (g0 : mg "_law_cell_at" = some (.ref f)) (b0 : Binds K fd ["_law_script", "_law_k"] [])  : Cal P w K mg base 1 "_law_cell_at" ["_law_script", "_law_k"] R__law_cell_at :=
  Cal.mk' (fn__law_cell_at bz F0) g0 F0.kp b0

def m__law_pot (p_script : Scr) (p_k : Int) : Option (List Int) := (m__law_cell_at p_script p_k).bind fun r2 => (modO (pyAbs r2) (2147483629 : Int)).bind fun x3 => (mulO (977 : Int) p_k).bind fun x4 => some ([(pyMax (0 : Int) ((pyAbs r2) - (1000000000000000000 : Int))), ((x3 + x4) + (1 : Int))] : List Int)
inductive R__law_pot : List Slot → RSlot → List Slot → Prop
  | mk (p_script : Scr) (p_k : Int)  {r : List Int} : m__law_pot p_script p_k = some r → R__law_pot [.fz p_script, .fz p_k] (.fr r) [.any, .any]
def t__law_pot (K : Fg) : TS := tSeq (tAsg (tCall (Prom K R__law_cell_at) [] E0 (tCons (tVar 0) (tCons (tVar 1) (tNil)))) (gName 2)) (tRet (tLst (tCons (tCB rMaxG (tCons (tC (.int 0)) (tCons (tOp (rI0 fun i j => .int (i - j)) (tCB rAbsG (tCons (tVar 2) (tNil))) (tOp (rI CPow (fun i j => .int (i ^ j.toNat))) (tC (.int 10)) (tC (.int 18)))) (tNil)))) (tCons (tOp (rI0 fun i j => .int (i + j)) (tOp (rI0 fun i j => .int (i + j)) (tOp (rI (fun _ j => 0 < j) (fun i j => .int (i % j))) (tCB rAbsG (tCons (tVar 2) (tNil))) (tC (.int 2147483629))) (tOp (rI CMul (fun i j => .int (i * j))) (tC (.int 977)) (tVar 1))) (tC (.int 1))) (tNil)))))
theorem sc__law_pot : FnScope ["_law_script", "_law_k", "_law_cell"] ["_law_script", "_law_k"] (defScope s__law_pot) := ⟨rfl, rfl, rfl, by decide +kernel, rfl, by decide +kernel, by decide +kernel⟩
theorem sem__law_pot {K : Fg} {vs : List V} {H : Hp} {Q : VK} {E : XK} (h : Prom K R__law_pot vs H Q E) {D : Ends} (hD : ∀ u H, Q u H → D.rt u H) (hN : ∀ σ H, Q .non H → D.nx σ H) : t__law_pot K D (start ["_law_script", "_law_k", "_law_cell"] vs) H := by
  obtain ⟨F, A, rs, A', hR, fh, hS, nd, q⟩ := h
  cases hR with | @mk p_script p_k  r hm => ?_
  have hl := slots_len hS
  obtain ⟨va0, va1, rfl⟩ := len2 (vs := vs) (by simpa using hl.symm)
  have h : St K ⟨F, H, []⟩ F H [some va0, some va1, none] [.fz (p_script : Scr), .fz (p_k : Int), .any] := St.start fh hS nd [none]
  generalize hB : (⟨F, H, []⟩ : Base) = B0 at h
  have q0 := q
  have q : ∀ u F' H', Fin K B0 (.fr r) [.any, .any] u F' H' → D.rt u H' := by subst hB; exact fun u F' H' z => hD _ _ (q u F' H' z)
  have qN : ∀ σ F' H', Fin K B0 (.fr r) [.any, .any] .non F' H' → D.nx σ H' := by subst hB; exact fun σ F' H' z => hN _ _ (q0 _ F' H' z)
  clear hB q0 hD hN
  rw [show start ["_law_script", "_law_k", "_law_cell"] [va0, va1] = [some va0, some va1, none] from rfl]
  unfold t__law_pot
  unfold m__law_pot at hm
  refine Q_asg ?_
  refine S_tcall ?_
  refine S_cons ?_
  refine S_var 0 h rfl rfl fun v1 h => ?_
  refine S_cons ?_
  refine S_varI 1 h rfl rfl ?_
  refine S_nil ?_
  obtain ⟨r2, hr2, hm⟩ := ob hm
  refine S_callI (A := [.fz (p_script : Scr), .fz (p_k : Int)]) h.pop (slots_cons (ok_fz (h.fz 0 rfl rfl)) (slots_cons (ok_fz rfl) slots_nil)) (R__law_cell_at.mk _ _ hr2) rfl fun F H h => ?_
  refine S_gName ?_
  have h : St K B0 F H (List.set [some va0, some va1, none] 2 (some (V.int r2))) [.fz (p_script : Scr), .fz (p_k : Int), .fz (r2 : Int)] := St.setF (v := (V.int r2)) (x := (r2 : Int)) h 2 rfl
  refine S_ret ?_
  refine S_tL ?_
  refine S_cons ?_
  refine S_cb ?_
  refine S_cons ?_
  refine S_c ?_
  refine S_cons ?_
  refine S_op ?_
  refine S_cb ?_
  refine S_cons ?_
  refine S_varI 0 h rfl rfl ?_
  refine S_nil ?_
  refine S_abs ?_
  refine S_op ?_
  refine S_c ?_
  refine S_c ?_
  refine S_I ⟨by decide, by decide, by decide⟩ ?_
  have e0 : ((10 : Int) ^ (18 : Int).toNat) = 1000000000000000000 := by decide
  rw [e0]; clear e0
  refine S_I0 ?_
  refine S_nil ?_
  refine S_max ?_
  refine S_cons ?_
  refine S_op ?_
  refine S_op ?_
  refine S_op ?_
  refine S_cb ?_
  refine S_cons ?_
  refine S_varI 0 h rfl rfl ?_
  refine S_nil ?_
  refine S_abs ?_
  refine S_c ?_
  obtain ⟨x3, hx3, hm⟩ := ob hm
  refine S_mod hx3 ?_
  refine S_op ?_
  refine S_c ?_
  refine S_varI 0 h rfl rfl ?_
  obtain ⟨x4, hx4, hm⟩ := ob hm
  refine S_mul hx4 ?_
  refine S_I0 ?_
  refine S_c ?_
  refine S_I0 ?_
  refine S_nil ?_
  refine S_lstO (xs := ([(pyMax (0 : Int) ((pyAbs r2) - (1000000000000000000 : Int))), ((x3 + x4) + (1 : Int))] : List Int)) h (.cons rfl (.cons rfl .nil)) (Nat.le_of_ble_eq_true rfl) fun p5 F H hBp5 h => ?_
  have hz := h
  cases hm
  exact q _ _ _ (hz.finO hBp5 trivial)
theorem fn__law_pot {P : Program} {w : World} {K : Fg} {mg : Str → Option Value} {base : Heap} (bz : Blt mg) {f : Addr} {fd : FuncData} (F0 : Fun K "_law_pot" "_law_pot" s__law_pot f fd) (C__law_cell_at : Cal P w K mg base 1 "_law_cell_at" ["_law_script", "_law_k"] R__law_cell_at) : FnOk P w K mg base CX0 2 f fd ["_law_script", "_law_k"] (Prom K R__law_pot) :=
  F0.ok sc__law_pot (prom_len 2 fun A s A' h => by cases h; rfl) fun cdv A outer s H vs Q E hr h => ⟨t__law_pot K, pss_cons (ps_set (i := 2) sc__law_pot.nd rfl (.inl rfl) (C__law_cell_at.pe (hr.mono (by decide)) (by rfl) (pa_cons (pv 0) (pa_cons (pv 1) (pa_nil))))) (pss_one (ps_ret (pe_lst (pa_cons (pe_callB (r := rMaxG) (cr_maxG rfl) (by rfl) bz.max_ (by decide +kernel) (pa_cons (pe_int) (pa_cons (pe_op op_sub (pe_callB (r := rAbsG) cr_absG (by rfl) bz.abs (by decide +kernel) (pa_cons (pv 2) (pa_nil))) (pe_op op_pow (pe_int) (pe_int))) (pa_nil)))) (pa_cons (pe_op op_add (pe_op op_add (pe_op op_mod (pe_callB (r := rAbsG) cr_absG (by rfl) bz.abs (by decide +kernel) (pa_cons (pv 2) (pa_nil))) (pe_int)) (pe_op op_mul (pe_int) (pv 1))) (pe_int)) (pa_nil)))))), sem__law_pot h (fun _ _ z => z) fun _ _ z => z⟩
theorem ok__law_pot {P : Program} {w : World} {K : Fg} {mg : Str → Option Value} {base : Heap} (bz : Blt mg) {f : Addr} {fd : FuncData} (F0 : Fun K "_law_pot" "_law_pot" s__law_pot f fd) (g0 : mg "_law_pot" = some (.ref f)) (b0 : Binds K fd ["_law_script", "_law_k"] []) (C__law_cell_at : Cal P w K mg base 1 "_law_cell_at" ["_law_script", "_law_k"] R__law_cell_at) : Cal P w K mg base 2 "_law_pot" ["_law_script", "_law_k"] R__law_pot :=
  Cal.mk' (fn__law_pot bz F0 C__law_cell_at) g0 F0.kp b0

def m__law_digit (p_pot_here : List Int) (p_many : Int) : Option (Int × (List Int)) := (atI p_pot_here (0 : Int)).bind fun x2 => if (decide ((0 : Int) < x2)) = true then (atI p_pot_here (0 : Int)).bind fun x4 => (divmodO x4 p_many).bind fun x5 => (setL p_pot_here (0 : Int) x5.1).bind fun x9 => some (x5.2, x9) else (atI p_pot_here (1 : Int)).bind fun x11 => (mulO x11 (48271 : Int)).bind fun x12 => (modO (x12 + (12345 : Int)) (2147483647 : Int)).bind fun x13 => (setL p_pot_here (1 : Int) x13).bind fun x14 => (atI x14 (1 : Int)).bind fun x16 => (atI x14 (1 : Int)).bind fun x18 => (mulO x16 x18).bind fun x19 => (modO x19 (2147483629 : Int)).bind fun x20 => (fdivO x20 (7 : Int)).bind fun x21 => (modO x21 p_many).bind fun x22 => some (x22, x14)
inductive R__law_digit : List Slot → RSlot → List Slot → Prop
  | mk (p_pot_here : List Int) (p_many : Int) {A_pot_here : Addr} {r : Int × (List Int)} : m__law_digit p_pot_here p_many = some r → R__law_digit [.own A_pot_here p_pot_here, .fz p_many] (.fz r.1) [.own A_pot_here r.2, .any]
def t__law_digit (K : Fg) : TS := tSeq (tIfS (tTest (tOp (rI0 fun i j => .bl (decide (j < i))) (tOp (rIxL K) (tVar 0) (tC (.int 0))) (tC (.int 0)))) (tSeq (tAsg (tCB rDivG (tCons (tOp (rIxL K) (tVar 0) (tC (.int 0))) (tCons (tVar 1) (tNil)))) (gTup K 2 (gCons (gSub (tVar 0) (tC (.int 0)) rSetL) (gCons (gName 2) (gNil))))) (tRet (tVar 2))) tNext) (tSeq (tAsg (tOp (rI (fun _ j => 0 < j) (fun i j => .int (i % j))) (tOp (rI0 fun i j => .int (i + j)) (tOp (rI CMul (fun i j => .int (i * j))) (tOp (rIxL K) (tVar 0) (tC (.int 1))) (tC (.int 48271))) (tC (.int 12345))) (tC (.int 2147483647))) (gSub (tVar 0) (tC (.int 1)) rSetL)) (tRet (tOp (rI (fun _ j => 0 < j) (fun i j => .int (i % j))) (tOp (rI CDiv (fun i j => .int (i / j))) (tOp (rI (fun _ j => 0 < j) (fun i j => .int (i % j))) (tOp (rI CMul (fun i j => .int (i * j))) (tOp (rIxL K) (tVar 0) (tC (.int 1))) (tOp (rIxL K) (tVar 0) (tC (.int 1)))) (tC (.int 2147483629))) (tC (.int 7))) (tVar 1))))
theorem sc__law_digit : FnScope ["_law_pot_here", "_law_many", "_law_digit_here"] ["_law_pot_here", "_law_many"] (defScope s__law_digit) := ⟨rfl, rfl, rfl, by decide +kernel, rfl, by decide +kernel, by decide +kernel⟩
theorem sem__law_digit {K : Fg} {vs : List V} {H : Hp} {Q : VK} {E : XK} (h : Prom K R__law_digit vs H Q E) {D : Ends} (hD : ∀ u H, Q u H → D.rt u H) (hN : ∀ σ H, Q .non H → D.nx σ H) : t__law_digit K D (start ["_law_pot_here", "_law_many", "_law_digit_here"] vs) H := by
  obtain ⟨F, A, rs, A', hR, fh, hS, nd, q⟩ := h
  cases hR with | @mk p_pot_here p_many A_pot_here r hm => ?_
  have hl := slots_len hS
  obtain ⟨va0, va1, rfl⟩ := len2 (vs := vs) (by simpa using hl.symm)
  have h : St K ⟨F, H, [A_pot_here]⟩ F H [some va0, some va1, none] [.own A_pot_here p_pot_here, .fz (p_many : Int), .any] := St.start fh hS nd [none]
  generalize hB : (⟨F, H, [A_pot_here]⟩ : Base) = B0 at h
  have q0 := q
  have q : ∀ u F' H', Fin K B0 (.fz r.1) [.own A_pot_here r.2, .any] u F' H' → D.rt u H' := by subst hB; exact fun u F' H' z => hD _ _ (q u F' H' z)
  have qN : ∀ σ F' H', Fin K B0 (.fz r.1) [.own A_pot_here r.2, .any] .non F' H' → D.nx σ H' := by subst hB; exact fun σ F' H' z => hN _ _ (q0 _ F' H' z)
  clear hB q0 hD hN
  rw [show start ["_law_pot_here", "_law_many", "_law_digit_here"] [va0, va1] = [some va0, some va1, none] from rfl]
  unfold t__law_digit
  unfold m__law_digit at hm
  refine Q_if ?_
  refine T_test ?_
  refine S_op ?_
  refine S_op ?_
  refine S_varO 0 h rfl rfl ?_
  refine S_c ?_
  obtain ⟨x2, hx2, hm⟩ := ob hm
  refine S_ixL h (h.vO 0 rfl) hx2 fun u1 h => ?_
  obtain rfl : u1 = (V.int x2) := h.fz 0 rfl rfl
  have h := h.pop
  refine S_c ?_
  refine S_I0 ?_
  refine T_bl ?_
  refine S_ite hm (fun hc hm => ?_) (fun hc hm => ?_)
  · skip
    refine Q_asg ?_
    refine S_cb ?_
    refine S_cons ?_
    refine S_op ?_
    refine S_varO 0 h rfl rfl ?_
    refine S_c ?_
    obtain ⟨x4, hx4, hm⟩ := ob hm
    refine S_ixL h (h.vO 0 rfl) hx4 fun u3 h => ?_
    obtain rfl : u3 = (V.int x4) := h.fz 0 rfl rfl
    have h := h.pop
    refine S_cons ?_
    refine S_varI 0 h rfl rfl ?_
    refine S_nil ?_
    obtain ⟨x5, hx5, hm⟩ := ob hm
    refine S_divmod h hx5 fun p6 F H h => ?_
    refine S_gPair h (h.fz 0 rfl rfl) fun v7 v8 h => ?_
    refine S_gCons ?_
    refine S_gSub ?_
    refine S_varO 3 h rfl rfl ?_
    refine S_c ?_
    obtain ⟨x9, hx9, hm⟩ := ob hm
    refine S_setL 3 h (by rfl) (h.fz 1 rfl rfl) hx9 fun H h => ?_
    have h : St K B0 F H (some v8 :: some v7 :: some (V.ref p6) :: [some va0, some va1, none]) [.fz (x5.2 : Int), .fz (x5.1 : Int), .fz (x5 : Int × Int), .own A_pot_here x9, .fz (p_many : Int), .any] := h
    refine S_gCons ?_
    refine S_gName ?_
    have h : St K B0 F H (some v8 :: some v7 :: some (V.ref p6) :: List.set [some va0, some va1, none] 2 (some v8)) [.fz (x5.2 : Int), .fz (x5.1 : Int), .fz (x5 : Int × Int), .own A_pot_here x9, .fz (p_many : Int), .fz (x5.2 : Int)] := St.setF (v := v8) (x := (x5.2 : Int)) h 5 (h.fz 0 rfl rfl)
    refine S_gNil ?_
    have h := h.pop.pop.pop
    refine S_ret ?_
    refine S_varI 0 h rfl rfl ?_
    have hz := h
    cases hm
    exact q _ _ _ (hz.finI (hz.aft 0 (by rfl) trivial))
  refine Q_next ?_
  refine Q_asg ?_
  refine S_op ?_
  refine S_op ?_
  refine S_op ?_
  refine S_op ?_
  refine S_varO 0 h rfl rfl ?_
  refine S_c ?_
  obtain ⟨x11, hx11, hm⟩ := ob hm
  refine S_ixL h (h.vO 0 rfl) hx11 fun u10 h => ?_
  obtain rfl : u10 = (V.int x11) := h.fz 0 rfl rfl
  have h := h.pop
  refine S_c ?_
  obtain ⟨x12, hx12, hm⟩ := ob hm
  refine S_mul hx12 ?_
  refine S_c ?_
  refine S_I0 ?_
  refine S_c ?_
  obtain ⟨x13, hx13, hm⟩ := ob hm
  refine S_mod hx13 ?_
  refine S_gSub ?_
  refine S_varO 0 h rfl rfl ?_
  refine S_c ?_
  obtain ⟨x14, hx14, hm⟩ := ob hm
  refine S_setL 0 h (by rfl) rfl hx14 fun H h => ?_
  have h : St K B0 F H ([some va0, some va1, none]) [.own A_pot_here x14, .fz (p_many : Int), .any] := h
  refine S_ret ?_
  refine S_op ?_
  refine S_op ?_
  refine S_op ?_
  refine S_op ?_
  refine S_op ?_
  refine S_varO 0 h rfl rfl ?_
  refine S_c ?_
  obtain ⟨x16, hx16, hm⟩ := ob hm
  refine S_ixL h (h.vO 0 rfl) hx16 fun u15 h => ?_
  obtain rfl : u15 = (V.int x16) := h.fz 0 rfl rfl
  have h := h.pop
  refine S_op ?_
  refine S_varO 0 h rfl rfl ?_
  refine S_c ?_
  obtain ⟨x18, hx18, hm⟩ := ob hm
  refine S_ixL h (h.vO 0 rfl) hx18 fun u17 h => ?_
  obtain rfl : u17 = (V.int x18) := h.fz 0 rfl rfl
  have h := h.pop
  obtain ⟨x19, hx19, hm⟩ := ob hm
  refine S_mul hx19 ?_
  refine S_c ?_
  obtain ⟨x20, hx20, hm⟩ := ob hm
  refine S_mod hx20 ?_
  refine S_c ?_
  obtain ⟨x21, hx21, hm⟩ := ob hm
  refine S_fdiv hx21 ?_
  refine S_varI 0 h rfl rfl ?_
  obtain ⟨x22, hx22, hm⟩ := ob hm
  refine S_mod hx22 ?_
  have hz := h
  cases hm
  exact q _ _ _ (hz.finI (hz.aft 0 (by rfl) trivial))
theorem fn__law_digit {P : Program} {w : World} {K : Fg} {mg : Str → Option Value} {base : Heap} (bz : Blt mg) {f : Addr} {fd : FuncData} (F0 : Fun K "_law_digit" "_law_digit" s__law_digit f fd)  : FnOk P w K mg base CX0 1 f fd ["_law_pot_here", "_law_many"] (Prom K R__law_digit) :=
  F0.ok sc__law_digit (prom_len 2 fun A s A' h => by cases h; rfl) fun cdv A outer s H vs Q E hr h => ⟨t__law_digit K, pss_cons (ps_if (pt_cmpR (r := (rI0 fun i j => .bl (decide (j < i)))) op_gt (pe_ix (r := rIxL K) ix_list (pv 0) (pe_int) (fun _ _ => rfl)) (pe_int) (nomark _)) (pss_cons (ps_asg (pe_callB (r := rDivG) cr_divG (by rfl) bz.divmod (by decide +kernel) (pa_cons (pe_ix (r := rIxL K) ix_list (pv 0) (pe_int) (fun _ _ => rfl)) (pa_cons (pv 1) (pa_nil)))) (pg_tup rfl (pgs_cons (pg_sub (pv 0) (pe_int) set_list) (pgs_cons (pg_name (i := 2) sc__law_digit.nd rfl (.inl rfl)) (pgs_nil))))) (pss_one (ps_ret (pv 2)))) pss_nil) (pss_cons (ps_asg (pe_op op_mod (pe_op op_add (pe_op op_mul (pe_ix (r := rIxL K) ix_list (pv 0) (pe_int) (fun _ _ => rfl)) (pe_int)) (pe_int)) (pe_int)) (pg_sub (pv 0) (pe_int) set_list)) (pss_one (ps_ret (pe_op op_mod (pe_op op_fdiv (pe_op op_mod (pe_op op_mul (pe_ix (r := rIxL K) ix_list (pv 0) (pe_int) (fun _ _ => rfl)) (pe_ix (r := rIxL K) ix_list (pv 0) (pe_int) (fun _ _ => rfl))) (pe_int)) (pe_int)) (pv 1))))), sem__law_digit h (fun _ _ z => z) fun _ _ z => z⟩
theorem ok__law_digit {P : Program} {w : World} {K : Fg} {mg : Str → Option Value} {base : Heap} (bz : Blt mg) {f : Addr} {fd : FuncData} (F0 : Fun K "_law_digit" "_law_digit" s__law_digit f fd) (g0 : mg "_law_digit" = some (.ref f)) (b0 : Binds K fd ["_law_pot_here", "_law_many"] [])  : Cal P w K mg base 1 "_law_digit" ["_law_pot_here", "_law_many"] R__law_digit :=
  Cal.mk' (fn__law_digit bz F0) g0 F0.kp b0

def m__law_all_c1  (x9 : Tup Int) : Option (Tup Int) := (catT x9 (Tup.mk [(0 : Int)] : Tup Int)).bind fun x16 => some x16
def m__law_all_c2  (x22 : Tup Int) : Option (Tup Int) := (catT x22 (Tup.mk [(1 : Int)] : Tup Int)).bind fun x29 => some x29
def m__law_all_l0  (x4 : Int) (s6 : (List (Tup Int))) : Option (List (Tup Int)) := (mapO m__law_all_c1 s6).bind fun ys18 => (mapO m__law_all_c2 s6).bind fun ys31 => (catL ys18 ys31).bind fun x33 => some (x33)
def m__law_all (p_size : Int) : Option (List (Tup Int)) := (rangeO p_size).bind fun xs3 => (foldO m__law_all_l0 xs3 (([(Tup.mk [] : Tup Int)] : List (Tup Int)))).bind fun s35 => (sortT s35).bind fun x37 => some x37
inductive R__law_all : List Slot → RSlot → List Slot → Prop
  | mk (p_size : Int)  {r : List (Tup Int)} : m__law_all p_size = some r → R__law_all [.fz p_size] (.fr r) [.any]
def t__law_all (K : Fg) : TS := tSeq (tAsg (tLst (tCons (tTup (tNil)) (tNil))) (gName 1)) (tSeq (tFor (iRng1 (tCons (tVar 0) (tNil))) (gName 2) (tAsg (tOp rCat (tLc (iList K (tVar 1)) (gName 3) (tYes) (tOp (rCatA K) (tVar 3) (tTup (tCons (tC (.int 0)) (tNil)))) [3]) (tLc (iList K (tVar 1)) (gName 3) (tYes) (tOp (rCatA K) (tVar 3) (tTup (tCons (tC (.int 1)) (tNil)))) [3])) (gName 1))) (tRet (tCB (rSortA K) (tCons (tVar 1) (tNil)))))
theorem sc__law_all : FnScope ["_law_size", "_law_found", "_law_k", "_law_tag"] ["_law_size"] (defScope s__law_all) := ⟨rfl, rfl, rfl, by decide +kernel, rfl, by decide +kernel, by decide +kernel⟩
theorem sem__law_all {K : Fg} {vs : List V} {H : Hp} {Q : VK} {E : XK} (h : Prom K R__law_all vs H Q E) {D : Ends} (hD : ∀ u H, Q u H → D.rt u H) (hN : ∀ σ H, Q .non H → D.nx σ H) : t__law_all K D (start ["_law_size", "_law_found", "_law_k", "_law_tag"] vs) H := by
  obtain ⟨F, A, rs, A', hR, fh, hS, nd, q⟩ := h
  cases hR with | @mk p_size  r hm => ?_
  have hl := slots_len hS
  obtain ⟨va0, rfl⟩ := len1 (vs := vs) (by simpa using hl.symm)
  have h : St K ⟨F, H, []⟩ F H [some va0, none, none, none] [.fz (p_size : Int), .any, .any, .any] := St.start fh hS nd [none, none, none]
  generalize hB : (⟨F, H, []⟩ : Base) = B0 at h
  have q0 := q
  have q : ∀ u F' H', Fin K B0 (.fr r) [.any] u F' H' → D.rt u H' := by subst hB; exact fun u F' H' z => hD _ _ (q u F' H' z)
  have qN : ∀ σ F' H', Fin K B0 (.fr r) [.any] .non F' H' → D.nx σ H' := by subst hB; exact fun σ F' H' z => hN _ _ (q0 _ F' H' z)
  clear hB q0 hD hN
  rw [show start ["_law_size", "_law_found", "_law_k", "_law_tag"] [va0] = [some va0, none, none, none] from rfl]
  unfold t__law_all
  unfold m__law_all at hm
  refine Q_asg ?_
  refine S_tL ?_
  refine S_cons ?_
  refine S_tT ?_
  refine S_nil ?_
  refine S_tup (xs := ([] : List Int)) h (.nil) (Nat.le_of_ble_eq_true rfl) fun p1 F H h => ?_
  refine S_nil ?_
  refine S_lstO (xs := ([(Tup.mk [] : Tup Int)] : List (Tup Int))) h.pop (.cons (h.fz 0 rfl rfl) .nil) (Nat.le_of_ble_eq_true rfl) fun p2 F H hBp2 h => ?_
  refine S_gName ?_
  refine S_frz h hBp2 _ fun F h => ?_
  have h : St K B0 F H (List.set [some va0, none, none, none] 1 (some (V.ref p2))) [.fz (p_size : Int), .fz (([(Tup.mk [] : Tup Int)] : List (Tup Int)) : List (Tup Int)), .any, .any] := St.setF (v := (V.ref p2)) (x := (([(Tup.mk [] : Tup Int)] : List (Tup Int)) : List (Tup Int))) h.pop 1 (h.fz 0 rfl rfl)
  refine Q_for ?_
  refine S_iR1 ?_
  refine S_cons ?_
  refine S_varI 0 h rfl rfl ?_
  refine S_nil ?_
  obtain ⟨xs3, hxs3, hm⟩ := ob hm
  refine S_rng1 (K := K) hxs3 fun J Y => ?_
  obtain ⟨s35, hs35, hm⟩ := ob hm
  refine S_fold (ts := []) (TM := []) (Mf := fun (s6 : (List (Tup Int))) => [.fz (p_size : Int), .fz (s6 : List (Tup Int)), .any, .any]) Y hs35 (h.weak ⟨.inr rfl, .inr rfl, .inl rfl, .inl rfl, trivial⟩) (fun s6 σ F H h => trivial) (fun i x4 s6 s' v5 σ F H D hx hb h hn => ?_) (fun σ F H h => ?_)
  · have hm := hb
    unfold m__law_all_l0 at hm
    have h : St K B0 F H (some v5 :: σ) [.fz (x4 : Int), .fz (p_size : Int), .fz (s6 : List (Tup Int)), .any, .any] := h
    refine S_gName ?_
    have h : St K B0 F H (List.set (σ) 2 (some v5)) [.fz (p_size : Int), .fz (s6 : List (Tup Int)), .fz (x4 : Int), .any] := St.setF (v := v5) (x := (x4 : Int)) h.pop 2 (h.fz 0 rfl rfl)
    refine S_asg ?_
    refine S_op ?_
    refine S_lc ?_
    refine S_iL ?_
    refine S_var 0 h rfl rfl fun v7 h => ?_
    refine S_itL (h.vF 0 rfl rfl) fun a8 e1 => ?_
    subst e1
    obtain ⟨ys18, hys18, hm⟩ := ob hm
    refine S_mapO (ts := [some (V.ref a8)]) (TM := [.fz (s6 : List (Tup Int))]) (M := [.fz (p_size : Int), .fz (s6 : List (Tup Int)), .fz (x4 : Int), .any]) (yields_list a8 s6) hys18 h rfl ⟨rfl, trivial⟩ (view_len (h.vF 0 rfl rfl)) (fun w F H h => (h.vF 0 rfl rfl)) (fun x9 z v10 D11 a12 F H G N hf h hG => ?_) (fun D19 F H hBD19 h => ?_)
    · have hm := hf
      unfold m__law_all_c1 at hm
      have h : St K B0 F H (some v10 :: some (V.ref D11) :: some (V.ref a8) :: wipe (List.set (σ) 2 (some v5)) [3]) [.fz (x9 : Tup Int), .own D11 a12, .fz (s6 : List (Tup Int)), .fz (p_size : Int), .fz (s6 : List (Tup Int)), .fz (x4 : Int), .any] := h
      refine S_gName ?_
      have h : St K B0 F H (some (V.ref D11) :: some (V.ref a8) :: List.set (wipe (List.set (σ) 2 (some v5)) [3]) 3 (some v10)) [.own D11 a12, .fz (s6 : List (Tup Int)), .fz (p_size : Int), .fz (s6 : List (Tup Int)), .fz (x4 : Int), .fz (x9 : Tup Int)] := St.setF (v := v10) (x := (x9 : Tup Int)) h.pop 5 (h.fz 0 rfl rfl)
      refine ⟨(wipe_set (by decide)).trans wipe_idem, ?_⟩
      refine if1 ?_
      refine S_op ?_
      refine S_var 2 h rfl rfl fun v14 h => ?_
      refine S_tT ?_
      refine S_cons ?_
      refine S_c ?_
      refine S_nil ?_
      refine S_tup (xs := ([(0 : Int)] : List Int)) h (.cons rfl .nil) (Nat.le_of_ble_eq_true rfl) fun p15 F H h => ?_
      obtain ⟨x16, hx16, hm⟩ := ob hm
      refine S_catT h.pop.pop (h.fz 1 rfl rfl) (h.fz 0 rfl rfl) hx16 fun u17 F H h => ?_
      have hz := h
      cases hm
      exact hG _ _ _ (St.unset (ts := [some (V.ref D11), some (V.ref a8)]) (TM := [.own D11 a12, .fz (s6 : List (Tup Int))]) (M := [.fz (p_size : Int), .fz (s6 : List (Tup Int)), .fz (x4 : Int), .any]) (hz.pop.weak ⟨.inr rfl, .inr rfl, .inr rfl, .inr rfl, .inr rfl, .inl rfl, trivial⟩) rfl rfl) (hz.fz 0 rfl rfl)
    have h : St K B0 F H (some (V.ref D19) :: some (V.ref a8) :: List.set (σ) 2 (some v5)) [.own D19 ys18, .fz (s6 : List (Tup Int)), .fz (p_size : Int), .fz (s6 : List (Tup Int)), .fz (x4 : Int), .any] := h
    have h := h.nip
    refine S_lc ?_
    refine S_iL ?_
    refine S_var 1 h rfl rfl fun v20 h => ?_
    refine S_itL (h.vF 0 rfl rfl) fun a21 e1 => ?_
    subst e1
    obtain ⟨ys31, hys31, hm⟩ := ob hm
    refine S_mapO (ts := [some (V.ref a21), some (V.ref D19)]) (TM := [.fz (s6 : List (Tup Int)), .own D19 ys18]) (M := [.fz (p_size : Int), .fz (s6 : List (Tup Int)), .fz (x4 : Int), .any]) (yields_list a21 s6) hys31 h rfl ⟨rfl, trivial⟩ (view_len (h.vF 0 rfl rfl)) (fun w F H h => (h.vF 0 rfl rfl)) (fun x22 z v23 D24 a25 F H G N hf h hG => ?_) (fun D32 F H hBD32 h => ?_)
    · have hm := hf
      unfold m__law_all_c2 at hm
      have h : St K B0 F H (some v23 :: some (V.ref D24) :: some (V.ref a21) :: some (V.ref D19) :: wipe (List.set (σ) 2 (some v5)) [3]) [.fz (x22 : Tup Int), .own D24 a25, .fz (s6 : List (Tup Int)), .own D19 ys18, .fz (p_size : Int), .fz (s6 : List (Tup Int)), .fz (x4 : Int), .any] := h
      refine S_gName ?_
      have h : St K B0 F H (some (V.ref D24) :: some (V.ref a21) :: some (V.ref D19) :: List.set (wipe (List.set (σ) 2 (some v5)) [3]) 3 (some v23)) [.own D24 a25, .fz (s6 : List (Tup Int)), .own D19 ys18, .fz (p_size : Int), .fz (s6 : List (Tup Int)), .fz (x4 : Int), .fz (x22 : Tup Int)] := St.setF (v := v23) (x := (x22 : Tup Int)) h.pop 6 (h.fz 0 rfl rfl)
      refine ⟨(wipe_set (by decide)).trans wipe_idem, ?_⟩
      refine if1 ?_
      refine S_op ?_
      refine S_var 3 h rfl rfl fun v27 h => ?_
      refine S_tT ?_
      refine S_cons ?_
      refine S_c ?_
      refine S_nil ?_
      refine S_tup (xs := ([(1 : Int)] : List Int)) h (.cons rfl .nil) (Nat.le_of_ble_eq_true rfl) fun p28 F H h => ?_
      obtain ⟨x29, hx29, hm⟩ := ob hm
      refine S_catT h.pop.pop (h.fz 1 rfl rfl) (h.fz 0 rfl rfl) hx29 fun u30 F H h => ?_
      have hz := h
      cases hm
      exact hG _ _ _ (St.unset (ts := [some (V.ref D24), some (V.ref a21), some (V.ref D19)]) (TM := [.own D24 a25, .fz (s6 : List (Tup Int)), .own D19 ys18]) (M := [.fz (p_size : Int), .fz (s6 : List (Tup Int)), .fz (x4 : Int), .any]) (hz.pop.weak ⟨.inr rfl, .inr rfl, .inr rfl, .inr rfl, .inr rfl, .inr rfl, .inl rfl, trivial⟩) rfl rfl) (hz.fz 0 rfl rfl)
    have h : St K B0 F H (some (V.ref D32) :: some (V.ref a21) :: some (V.ref D19) :: List.set (σ) 2 (some v5)) [.own D32 ys31, .fz (s6 : List (Tup Int)), .own D19 ys18, .fz (p_size : Int), .fz (s6 : List (Tup Int)), .fz (x4 : Int), .any] := h
    have h := h.nip
    obtain ⟨x33, hx33, hm⟩ := ob hm
    refine S_catLO h.pop.pop (h.vO 1 rfl) (h.vO 0 rfl) hx33 fun p34 F H hBp34 h => ?_
    refine S_gName ?_
    refine S_frz h hBp34 _ fun F h => ?_
    have h : St K B0 F H (List.set (List.set (σ) 2 (some v5)) 1 (some (V.ref p34))) [.fz (p_size : Int), .fz (x33 : List (Tup Int)), .fz (x4 : Int), .any] := St.setF (v := (V.ref p34)) (x := (x33 : List (Tup Int))) h.pop 1 (h.fz 0 rfl rfl)
    have hz := h
    cases hm
    exact hn _ _ _ (hz.weak ⟨.inr rfl, .inr rfl, .inl rfl, .inl rfl, trivial⟩)
  have h : St K B0 F H (σ) [.fz (p_size : Int), .fz (s35 : List (Tup Int)), .any, .any] := h
  refine Q_nx ?_
  refine S_ret ?_
  refine S_cb ?_
  refine S_cons ?_
  refine S_var 0 h rfl rfl fun v36 h => ?_
  refine S_nil ?_
  obtain ⟨x37, hx37, hm⟩ := ob hm
  refine S_sortT h.pop (h.vF 0 rfl rfl) hx37 fun p38 F H hBp38 h => ?_
  have hz := h
  cases hm
  exact q _ _ _ (hz.finO hBp38 trivial)
theorem fn__law_all {P : Program} {w : World} {K : Fg} {mg : Str → Option Value} {base : Heap} (bz : Blt mg) {f : Addr} {fd : FuncData} (F0 : Fun K "_law_all" "_law_all" s__law_all f fd)  : FnOk P w K mg base CX0 1 f fd ["_law_size"] (Prom K R__law_all) :=
  F0.ok sc__law_all (prom_len 1 fun A s A' h => by cases h; rfl) fun cdv A outer s H vs Q E hr h => ⟨t__law_all K, pss_cons (ps_set (i := 1) sc__law_all.nd rfl (.inl rfl) (pe_lst (pa_cons (pe_tup (pa_nil)) (pa_nil)))) (pss_cons (ps_for PassesOwn.never rfl (pi_range1 (by rfl) bz.range (pa_cons (pv 0) (pa_nil))) (pg_name (i := 2) sc__law_all.nd rfl (.inl rfl)) (pss_one (ps_set (i := 1) sc__law_all.nd rfl (.inl rfl) (pe_op op_cat (pe_lc (own := [("_law_tag", 3)]) (g := gName 3) (tt := tYes) (te := tOp (rCatA K) (tVar 3) (tTup (tCons (tC (.int 0)) (tNil)))) (wi := iList K (tVar 1)) rfl sc__law_all.nd (pi_list (pv 1)) (blkOk_by (N := ["_law_size", "_law_found", "_law_k", "_law_tag"]) (sc := defScope s__law_all) (by decide +kernel)) (fun _ _ _ _ _ => pg_name (i := 3) sc__law_all.nd rfl (by first | exact .inl rfl | exact .inr rfl)) (fun _ _ _ _ _ => pts_nil) (fun _ _ _ _ _ => pe_op (r := rCatA K) op_catA (pv 3) (pe_tup (pa_cons (pe_int) (pa_nil))))) (pe_lc (own := [("_law_tag", 3)]) (g := gName 3) (tt := tYes) (te := tOp (rCatA K) (tVar 3) (tTup (tCons (tC (.int 1)) (tNil)))) (wi := iList K (tVar 1)) rfl sc__law_all.nd (pi_list (pv 1)) (blkOk_by (N := ["_law_size", "_law_found", "_law_k", "_law_tag"]) (sc := defScope s__law_all) (by decide +kernel)) (fun _ _ _ _ _ => pg_name (i := 3) sc__law_all.nd rfl (by first | exact .inl rfl | exact .inr rfl)) (fun _ _ _ _ _ => pts_nil) (fun _ _ _ _ _ => pe_op (r := rCatA K) op_catA (pv 3) (pe_tup (pa_cons (pe_int) (pa_nil))))))))) (pss_one (ps_ret (pe_callB (r := rSortA K) cr_sortA (by rfl) bz.sorted (by decide +kernel) (pa_cons (pv 1) (pa_nil)))))), sem__law_all h (fun _ _ z => z) fun _ _ z => z⟩
theorem ok__law_all {P : Program} {w : World} {K : Fg} {mg : Str → Option Value} {base : Heap} (bz : Blt mg) {f : Addr} {fd : FuncData} (F0 : Fun K "_law_all" "_law_all" s__law_all f fd) (g0 : mg "_law_all" = some (.ref f)) (b0 : Binds K fd ["_law_size"] [])  : Cal P w K mg base 1 "_law_all" ["_law_size"] R__law_all :=
  Cal.mk' (fn__law_all bz F0) g0 F0.kp b0

def m__law_is_parted_c1 (p_tags : List (Tup Int)) (x5 : Int) (x13 : Int) : Option Int := (atI p_tags x13).bind fun x20 => (atI (Tup.l x20) x5).bind fun x22 => some x22
def m__law_is_parted_l0 (p_one : Tup Int) (p_other : Tup Int) (p_tags : List (Tup Int)) (x5 : Int) (s7 : Unit) : Option (Out Unit Bool) := (catT p_one p_other).bind fun x10 => (mapO (m__law_is_parted_c1 p_tags x5) (Tup.l x10)).bind fun ys23 => (inO ys23 (Tup.l (Tup.mk [([(0 : Int), (0 : Int), (1 : Int), (1 : Int)] : List Int), ([(1 : Int), (1 : Int), (0 : Int), (0 : Int)] : List Int)] : Tup (List Int)))).bind fun c29 => if c29 = true then some (.rt true) else some (.nx ())
def m__law_is_parted (p_tags : List (Tup Int)) (p_one : Tup Int) (p_other : Tup Int) : Option Bool := (atI p_tags (0 : Int)).bind fun x3 => (rangeO (List.length (Tup.l x3) : Int)).bind fun xs4 => (forO (m__law_is_parted_l0 p_one p_other p_tags) xs4 ()).bind fun s30 => match s30 with | .nx s1 => some false | .rt r1 => some r1 | .bk _ => none
inductive R__law_is_parted : List Slot → RSlot → List Slot → Prop
  | mk (p_tags : List (Tup Int)) (p_one : Tup Int) (p_other : Tup Int)  {r : Bool} : m__law_is_parted p_tags p_one p_other = some r → R__law_is_parted [.fz p_tags, .fz p_one, .fz p_other] (.fz r) [.any, .any, .any]
def t__law_is_parted (K : Fg) : TS := tSeq (tFor (iRng1 (tCons (tCB (rLenG K) (tCons (tOp (rIxL K) (tVar 0) (tC (.int 0))) (tNil))) (tNil))) (gName 3) (tSeq (tAsg (tLc (iTup K (tOp (rCatA K) (tVar 1) (tVar 2))) (gName 5) (tYes) (tOp (rIxT K) (tOp (rIxL K) (tVar 0) (tVar 5)) (tVar 3)) [5]) (gName 4)) (tIfS (tTest (tOp (rInTD K) (tVar 4) (tTup (tCons (tLst (tCons (tC (.int 0)) (tCons (tC (.int 0)) (tCons (tC (.int 1)) (tCons (tC (.int 1)) (tNil)))))) (tCons (tLst (tCons (tC (.int 1)) (tCons (tC (.int 1)) (tCons (tC (.int 0)) (tCons (tC (.int 0)) (tNil)))))) (tNil)))))) (tRet (tC (.bl true))) tNext))) (tRet (tC (.bl false)))
theorem sc__law_is_parted : FnScope ["_law_tags", "_law_one", "_law_other", "_law_place", "_law_some", "_law_s"] ["_law_tags", "_law_one", "_law_other"] (defScope s__law_is_parted) := ⟨rfl, rfl, rfl, by decide +kernel, rfl, by decide +kernel, by decide +kernel⟩
theorem sem__law_is_parted {K : Fg} {vs : List V} {H : Hp} {Q : VK} {E : XK} (h : Prom K R__law_is_parted vs H Q E) {D : Ends} (hD : ∀ u H, Q u H → D.rt u H) (hN : ∀ σ H, Q .non H → D.nx σ H) : t__law_is_parted K D (start ["_law_tags", "_law_one", "_law_other", "_law_place", "_law_some", "_law_s"] vs) H := by
  obtain ⟨F, A, rs, A', hR, fh, hS, nd, q⟩ := h
  cases hR with | @mk p_tags p_one p_other  r hm => ?_
  have hl := slots_len hS
  obtain ⟨va0, va1, va2, rfl⟩ := len3 (vs := vs) (by simpa using hl.symm)
  have h : St K ⟨F, H, []⟩ F H [some va0, some va1, some va2, none, none, none] [.fz (p_tags : List (Tup Int)), .fz (p_one : Tup Int), .fz (p_other : Tup Int), .any, .any, .any] := St.start fh hS nd [none, none, none]
  generalize hB : (⟨F, H, []⟩ : Base) = B0 at h
  have q0 := q
  have q : ∀ u F' H', Fin K B0 (.fz r) [.any, .any, .any] u F' H' → D.rt u H' := by subst hB; exact fun u F' H' z => hD _ _ (q u F' H' z)
  have qN : ∀ σ F' H', Fin K B0 (.fz r) [.any, .any, .any] .non F' H' → D.nx σ H' := by subst hB; exact fun σ F' H' z => hN _ _ (q0 _ F' H' z)
  clear hB q0 hD hN
  rw [show start ["_law_tags", "_law_one", "_law_other", "_law_place", "_law_some", "_law_s"] [va0, va1, va2] = [some va0, some va1, some va2, none, none, none] from rfl]
  unfold t__law_is_parted
  unfold m__law_is_parted at hm
  have hrt : ∀ (r' : Bool) u H', (some r' : Option _) = some r → (fun r u H' => ∃ F', Fin K B0 (.fz r) [.any, .any, .any] u F' H') r' u H' → D.rt u H' := fun r' u H' e z => by cases e; exact q _ _ _ z.choose_spec
  refine Q_for ?_
  refine S_iR1 ?_
  refine S_cons ?_
  refine S_cb ?_
  refine S_cons ?_
  refine S_op ?_
  refine S_var 0 h rfl rfl fun v1 h => ?_
  refine S_c ?_
  obtain ⟨x3, hx3, hm⟩ := ob hm
  refine S_ixL h.pop (h.vF 0 rfl rfl) hx3 fun u2 h => ?_
  refine S_nil ?_
  refine S_lenT h (h.fz 0 rfl rfl) ?_
  have h := h.pop
  refine S_nil ?_
  obtain ⟨xs4, hxs4, hm⟩ := ob hm
  refine S_rng1 (K := K) hxs4 fun J Y => ?_
  obtain ⟨s30, hs30, hm⟩ := ob hm
  refine S_forO (ts := []) (TM := []) (Mf := fun (s7 : Unit) => [.fz (p_tags : List (Tup Int)), .fz (p_one : Tup Int), .fz (p_other : Tup Int), .any, .any, .any]) (R := (fun r u H' => ∃ F', Fin K B0 (.fz r) [.any, .any, .any] u F' H' : Bool → V → Hp → Prop)) Y hs30 (h.weak ⟨.inr rfl, .inr rfl, .inr rfl, .inl rfl, .inl rfl, .inl rfl, trivial⟩) (fun s7 σ F H h => trivial) (fun i x5 s7 o' v6 σ F H D hx hb h hn hct hbk hrt => ?_) (fun s1 σ F H ho h => ?_) (fun r1 u H' ho hr => ?_)
  · have hm := hb
    unfold m__law_is_parted_l0 at hm
    have h : St K B0 F H (some v6 :: σ) [.fz (x5 : Int), .fz (p_tags : List (Tup Int)), .fz (p_one : Tup Int), .fz (p_other : Tup Int), .any, .any, .any] := h
    refine S_gName ?_
    have h : St K B0 F H (List.set (σ) 3 (some v6)) [.fz (p_tags : List (Tup Int)), .fz (p_one : Tup Int), .fz (p_other : Tup Int), .fz (x5 : Int), .any, .any] := St.setF (v := v6) (x := (x5 : Int)) h.pop 3 (h.fz 0 rfl rfl)
    refine Q_asg ?_
    refine S_lc ?_
    refine S_iT ?_
    refine S_op ?_
    refine S_var 0 h rfl rfl fun v8 h => ?_
    refine S_var 1 h rfl rfl fun v9 h => ?_
    obtain ⟨x10, hx10, hm⟩ := ob hm
    refine S_catT h.pop.pop (h.fz 1 rfl rfl) (h.fz 0 rfl rfl) hx10 fun u11 F H h => ?_
    refine S_itT h (h.fz 0 rfl rfl) fun a12 e1 => ?_
    subst e1
    obtain ⟨ys23, hys23, hm⟩ := ob hm
    refine S_mapO (ts := [some (V.ref a12)]) (TM := [.fz (x10 : Tup Int)]) (M := [.fz (p_tags : List (Tup Int)), .fz (p_one : Tup Int), .fz (p_other : Tup Int), .fz (x5 : Int), .any, .any]) (yields_tup a12 x10) hys23 h rfl ⟨rfl, trivial⟩ (tup_len (h.fz 0 rfl rfl)) (fun w F H h => (h.fz 0 rfl rfl)) (fun x13 z v14 D15 a16 F H G N hf h hG => ?_) (fun D24 F H hBD24 h => ?_)
    · have hm := hf
      unfold m__law_is_parted_c1 at hm
      have h : St K B0 F H (some v14 :: some (V.ref D15) :: some (V.ref a12) :: wipe (List.set (σ) 3 (some v6)) [5]) [.fz (x13 : Int), .own D15 a16, .fz (x10 : Tup Int), .fz (p_tags : List (Tup Int)), .fz (p_one : Tup Int), .fz (p_other : Tup Int), .fz (x5 : Int), .any, .any] := h
      refine S_gName ?_
      have h : St K B0 F H (some (V.ref D15) :: some (V.ref a12) :: List.set (wipe (List.set (σ) 3 (some v6)) [5]) 5 (some v14)) [.own D15 a16, .fz (x10 : Tup Int), .fz (p_tags : List (Tup Int)), .fz (p_one : Tup Int), .fz (p_other : Tup Int), .fz (x5 : Int), .any, .fz (x13 : Int)] := St.setF (v := v14) (x := (x13 : Int)) h.pop 7 (h.fz 0 rfl rfl)
      refine ⟨(wipe_set (by decide)).trans wipe_idem, ?_⟩
      refine if1 ?_
      refine S_op ?_
      refine S_op ?_
      refine S_var 2 h rfl rfl fun v18 h => ?_
      refine S_varI 3 h rfl rfl ?_
      obtain ⟨x20, hx20, hm⟩ := ob hm
      refine S_ixL h.pop (h.vF 0 rfl rfl) hx20 fun u19 h => ?_
      refine S_varI 3 h rfl rfl ?_
      obtain ⟨x22, hx22, hm⟩ := ob hm
      refine S_ixT h.pop (h.fz 0 rfl rfl) hx22 fun u21 h => ?_
      obtain rfl : u21 = (V.int x22) := h.fz 0 rfl rfl
      have h := h.pop
      have hz := h
      cases hm
      exact hG _ _ _ (St.unset (ts := [some (V.ref D15), some (V.ref a12)]) (TM := [.own D15 a16, .fz (x10 : Tup Int)]) (M := [.fz (p_tags : List (Tup Int)), .fz (p_one : Tup Int), .fz (p_other : Tup Int), .fz (x5 : Int), .any, .any]) (hz.weak ⟨.inr rfl, .inr rfl, .inr rfl, .inr rfl, .inr rfl, .inr rfl, .inr rfl, .inl rfl, trivial⟩) rfl rfl) rfl
    have h : St K B0 F H (some (V.ref D24) :: some (V.ref a12) :: List.set (σ) 3 (some v6)) [.own D24 ys23, .fz (x10 : Tup Int), .fz (p_tags : List (Tup Int)), .fz (p_one : Tup Int), .fz (p_other : Tup Int), .fz (x5 : Int), .any, .any] := h
    have h := h.nip
    refine S_gName ?_
    refine S_frz h hBD24 _ fun F h => ?_
    have h : St K B0 F H (List.set (List.set (σ) 3 (some v6)) 4 (some (V.ref D24))) [.fz (p_tags : List (Tup Int)), .fz (p_one : Tup Int), .fz (p_other : Tup Int), .fz (x5 : Int), .fz (ys23 : List Int), .any] := St.setF (v := (V.ref D24)) (x := (ys23 : List Int)) h.pop 4 (h.fz 0 rfl rfl)
    refine S_if ?_
    refine T_test ?_
    refine S_op ?_
    refine S_var 0 h rfl rfl fun v25 h => ?_
    refine S_tT ?_
    refine S_cons ?_
    refine S_tL ?_
    refine S_cons ?_
    refine S_c ?_
    refine S_cons ?_
    refine S_c ?_
    refine S_cons ?_
    refine S_c ?_
    refine S_cons ?_
    refine S_c ?_
    refine S_nil ?_
    refine S_lstO (xs := ([(0 : Int), (0 : Int), (1 : Int), (1 : Int)] : List Int)) h (.cons rfl (.cons rfl (.cons rfl (.cons rfl .nil)))) (Nat.le_of_ble_eq_true rfl) fun p26 F H hBp26 h => ?_
    refine S_frz h hBp26 _ fun F h => ?_
    refine S_cons ?_
    refine S_tL ?_
    refine S_cons ?_
    refine S_c ?_
    refine S_cons ?_
    refine S_c ?_
    refine S_cons ?_
    refine S_c ?_
    refine S_cons ?_
    refine S_c ?_
    refine S_nil ?_
    refine S_lstO (xs := ([(1 : Int), (1 : Int), (0 : Int), (0 : Int)] : List Int)) h (.cons rfl (.cons rfl (.cons rfl (.cons rfl .nil)))) (Nat.le_of_ble_eq_true rfl) fun p27 F H hBp27 h => ?_
    refine S_frz h hBp27 _ fun F h => ?_
    refine S_nil ?_
    refine S_tup (xs := ([([(0 : Int), (0 : Int), (1 : Int), (1 : Int)] : List Int), ([(1 : Int), (1 : Int), (0 : Int), (0 : Int)] : List Int)] : List (List Int))) h.pop.pop (.cons (h.fz 1 rfl rfl) (.cons (h.fz 0 rfl rfl) .nil)) (Nat.le_of_ble_eq_true rfl) fun p28 F H h => ?_
    obtain ⟨c29, hc29, hm⟩ := ob hm
    refine S_inTD (dF h (h.fz 1 rfl rfl)) (dF h (h.fz 0 rfl rfl)) hc29 (by decide) ?_
    have h := h.pop.pop
    refine T_bl ?_
    refine S_ite hm (fun hc hm => ?_) (fun hc hm => ?_)
    · skip
      refine S_ret ?_
      refine S_c ?_
      have hz := h
      cases hm
      exact hrt _ _ _ rfl ⟨_, (hz.finB trivial)⟩
    refine S_next ?_
    have hz := h
    cases hm
    exact hn _ _ _ _ rfl (hz.weak ⟨.inr rfl, .inr rfl, .inr rfl, .inl rfl, .inl rfl, .inl rfl, trivial⟩)
  rotate_left
  · subst ho
    cases hm
    exact hrt _ _ _ rfl hr
  subst ho
  have h : St K B0 F H (σ) [.fz (p_tags : List (Tup Int)), .fz (p_one : Tup Int), .fz (p_other : Tup Int), .any, .any, .any] := h
  refine Q_nx ?_
  refine S_ret ?_
  refine S_c ?_
  have hz := h
  cases hm
  exact q _ _ _ (hz.finB trivial)
theorem fn__law_is_parted {P : Program} {w : World} {K : Fg} {mg : Str → Option Value} {base : Heap} (bz : Blt mg) {f : Addr} {fd : FuncData} (F0 : Fun K "_law_is_parted" "_law_is_parted" s__law_is_parted f fd)  : FnOk P w K mg base CX0 1 f fd ["_law_tags", "_law_one", "_law_other"] (Prom K R__law_is_parted) :=
  F0.ok sc__law_is_parted (prom_len 3 fun A s A' h => by cases h; rfl) fun cdv A outer s H vs Q E hr h => ⟨t__law_is_parted K, pss_cons (ps_for PassesOwn.never rfl (pi_range1 (by rfl) bz.range (pa_cons (pe_callB (r := rLenG K) cr_lenG (by rfl) bz.len (by decide +kernel) (pa_cons (pe_ix (r := rIxL K) ix_list (pv 0) (pe_int) (fun _ _ => rfl)) (pa_nil))) (pa_nil))) (pg_name (i := 3) sc__law_is_parted.nd rfl (.inr rfl)) (pss_cons (ps_setLc (i := 4) (own := [("_law_s", 5)]) (g := gName 5) (tt := tYes) (te := tOp (rIxT K) (tOp (rIxL K) (tVar 0) (tVar 5)) (tVar 3)) (wi := iTup K (tOp (rCatA K) (tVar 1) (tVar 2))) rfl sc__law_is_parted.nd rfl rfl (sw_true rfl rfl rfl (by decide +kernel)) (pi_tup (pe_op (r := rCatA K) op_catA (pv 1) (pv 2))) (blkOk_by (N := ["_law_tags", "_law_one", "_law_other", "_law_place", "_law_some", "_law_s"]) (sc := defScope s__law_is_parted) (by decide +kernel)) (fun _ _ _ _ _ => pg_name (i := 5) sc__law_is_parted.nd rfl (by first | exact .inl rfl | exact .inr rfl)) (fun _ _ _ _ _ => pts_nil) (fun _ _ _ _ _ => pe_ix (r := rIxT K) ix_tup (pe_ix (r := rIxL K) ix_list (pv 0) (pv 5) (fun _ _ => rfl)) (pv 3) (fun _ _ => rfl))) (pss_one (ps_if (pt_cmpR (r := (rInTD K)) (op_inTD (hu65 hr)) (pv 4) (pe_tup (pa_cons (pe_lst (pa_cons (pe_int) (pa_cons (pe_int) (pa_cons (pe_int) (pa_cons (pe_int) (pa_nil)))))) (pa_cons (pe_lst (pa_cons (pe_int) (pa_cons (pe_int) (pa_cons (pe_int) (pa_cons (pe_int) (pa_nil)))))) (pa_nil)))) (by with_unfolding_all rfl)) (pss_one (ps_ret (pe_bl))) pss_nil)))) (pss_one (ps_ret (pe_bl))), sem__law_is_parted h (fun _ _ z => z) fun _ _ z => z⟩
theorem ok__law_is_parted {P : Program} {w : World} {K : Fg} {mg : Str → Option Value} {base : Heap} (bz : Blt mg) {f : Addr} {fd : FuncData} (F0 : Fun K "_law_is_parted" "_law_is_parted" s__law_is_parted f fd) (g0 : mg "_law_is_parted" = some (.ref f)) (b0 : Binds K fd ["_law_tags", "_law_one", "_law_other"] [])  : Cal P w K mg base 1 "_law_is_parted" ["_law_tags", "_law_one", "_law_other"] R__law_is_parted :=
  Cal.mk' (fn__law_is_parted bz F0) g0 F0.kp b0

def m__law_right_c1 (x9 : Int) (x14 : Int) : Option (Tup Int) :=  some (Tup.mk [x9, x14] : Tup Int)
def m__law_right_l0 (x4 : List Int) (x9 : Int) (s11 : (List (Tup Int))) : Option (List (Tup Int)) := (mapO (m__law_right_c1 x9) x4).bind fun ys20 => (catL s11 ys20).bind fun x22 => some (x22)
def m__law_right_l3 (p_tags : List (Tup Int)) (x25 : Tup Int) (x29 : Tup Int) (s31 : Unit) : Option (Out Unit Bool) := (m_are_parted p_tags x25 x29).bind fun r35 => (if (!true) = true then some true else (m__law_is_parted p_tags x25 x29).bind fun r39 => some (!(decide (r35 = r39)))).bind fun c40 => if c40 = true then some (.rt false) else some (.nx ())
def m__law_right_l2 (p_tags : List (Tup Int)) (s23 : (List (Tup Int))) (x25 : Tup Int) (s27 : Unit) : Option (Out Unit Bool) :=  (forO (m__law_right_l3 p_tags x25) s23 ()).bind fun s41 => match s41 with | .nx s1 => some (.nx ()) | .rt r1 => some (.rt r1) | .bk _ => none
def m__law_right (p_tags : List (Tup Int)) : Option Bool := (rangeO (List.length p_tags : Int)).bind fun x4 =>  (foldO (m__law_right_l0 x4) x4 (([] : List (Tup Int)))).bind fun s23 =>  (forO (m__law_right_l2 p_tags s23) s23 ()).bind fun s42 => match s42 with | .nx s1 => (eqO p_tags p_tags).bind fun c45 => some c45 | .rt r1 => some r1 | .bk _ => none
inductive R__law_right : List Slot → RSlot → List Slot → Prop
  | mk (p_tags : List (Tup Int))  {r : Bool} : m__law_right p_tags = some r → R__law_right [.fz p_tags] (.fz r) [.any]
def t__law_right (K : Fg) : TS := tSeq (tAsg (tCB (rListG K) (tCons (tVar 0) (tNil))) (gName 1)) (tSeq (tAsg (tLrg (tCB (rLenG K) (tCons (tVar 0) (tNil)))) (gName 2)) (tSeq (tAsg (tLst (tNil)) (gName 3)) (tSeq (tFor (iList K (tVar 2)) (gName 4) (tDrop (tBM K "list" rExtend (tVar 3) (tCons (tLc (iList K (tVar 2)) (gName 8) (tYes) (tTup (tCons (tVar 4) (tCons (tVar 8) (tNil)))) [8]) (tNil))))) (tSeq (tFor (iList K (tVar 3)) (gName 5) (tFor (iList K (tVar 3)) (gName 6) (tSeq (tAsg (tCall (Prom K R_are_parted) [] E0 (tCons (tVar 0) (tCons (tVar 5) (tCons (tVar 6) (tNil))))) (gName 7)) (tIfS (tOr (tNot (tB (tCB (rIsi K) (tCons (tVar 7) (tCons (tC (.ty "bool")) (tNil)))))) (tTest (tOp rNe (tVar 7) (tCall (Prom K R__law_is_parted) [] E0 (tCons (tVar 1) (tCons (tVar 5) (tCons (tVar 6) (tNil)))))))) (tRet (tC (.bl false))) tNext)))) (tRet (tOp (rEqD K) (tVar 0) (tVar 1)))))))
theorem sc__law_right : FnScope ["_law_tags", "_law_kept", "_law_states", "_law_rows", "_law_s", "_law_one", "_law_other", "_law_told", "_law_t"] ["_law_tags"] (defScope s__law_right) := ⟨rfl, rfl, rfl, by decide +kernel, rfl, by decide +kernel, by decide +kernel⟩
theorem sem__law_right {K : Fg} {vs : List V} {H : Hp} {Q : VK} {E : XK} (h : Prom K R__law_right vs H Q E) {D : Ends} (hD : ∀ u H, Q u H → D.rt u H) (hN : ∀ σ H, Q .non H → D.nx σ H) : t__law_right K D (start ["_law_tags", "_law_kept", "_law_states", "_law_rows", "_law_s", "_law_one", "_law_other", "_law_told", "_law_t"] vs) H := by
  obtain ⟨F, A, rs, A', hR, fh, hS, nd, q⟩ := h
  cases hR with | @mk p_tags  r hm => ?_
  have hl := slots_len hS
  obtain ⟨va0, rfl⟩ := len1 (vs := vs) (by simpa using hl.symm)
  have h : St K ⟨F, H, []⟩ F H [some va0, none, none, none, none, none, none, none, none] [.fz (p_tags : List (Tup Int)), .any, .any, .any, .any, .any, .any, .any, .any] := St.start fh hS nd [none, none, none, none, none, none, none, none]
  generalize hB : (⟨F, H, []⟩ : Base) = B0 at h
  have q0 := q
  have q : ∀ u F' H', Fin K B0 (.fz r) [.any] u F' H' → D.rt u H' := by subst hB; exact fun u F' H' z => hD _ _ (q u F' H' z)
  have qN : ∀ σ F' H', Fin K B0 (.fz r) [.any] .non F' H' → D.nx σ H' := by subst hB; exact fun σ F' H' z => hN _ _ (q0 _ F' H' z)
  clear hB q0 hD hN
  rw [show start ["_law_tags", "_law_kept", "_law_states", "_law_rows", "_law_s", "_law_one", "_law_other", "_law_told", "_law_t"] [va0] = [some va0, none, none, none, none, none, none, none, none] from rfl]
  unfold t__law_right
  unfold m__law_right at hm
  have hrt : ∀ (r' : Bool) u H', (some r' : Option _) = some r → (fun r u H' => ∃ F', Fin K B0 (.fz r) [.any] u F' H') r' u H' → D.rt u H' := fun r' u H' e z => by cases e; exact q _ _ _ z.choose_spec
  refine Q_asg ?_
  refine S_cb ?_
  refine S_cons ?_
  refine S_var 0 h rfl rfl fun v1 h => ?_
  refine S_nil ?_
  refine S_listL h.pop (h.vF 0 rfl rfl) fun p2 F H hBp2 h => ?_
  refine S_gName ?_
  refine S_frz h hBp2 _ fun F h => ?_
  have h : St K B0 F H (List.set [some va0, none, none, none, none, none, none, none, none] 1 (some (V.ref p2))) [.fz (p_tags : List (Tup Int)), .fz (p_tags : List (Tup Int)), .any, .any, .any, .any, .any, .any, .any] := St.setF (v := (V.ref p2)) (x := (p_tags : List (Tup Int))) h.pop 1 (h.fz 0 rfl rfl)
  refine Q_asg ?_
  refine S_lrg ?_
  refine S_cb ?_
  refine S_cons ?_
  refine S_var 0 h rfl rfl fun v3 h => ?_
  refine S_nil ?_
  refine S_lenL (h.vF 0 rfl rfl) ?_
  have h := h.pop
  obtain ⟨x4, hx4, hm⟩ := ob hm
  refine S_lrgE h hx4 fun p5 F H hBp5 h => ?_
  refine S_gName ?_
  refine S_frz h hBp5 _ fun F h => ?_
  have h : St K B0 F H (List.set (List.set [some va0, none, none, none, none, none, none, none, none] 1 (some (V.ref p2))) 2 (some (V.ref p5))) [.fz (p_tags : List (Tup Int)), .fz (p_tags : List (Tup Int)), .fz (x4 : List Int), .any, .any, .any, .any, .any, .any] := St.setF (v := (V.ref p5)) (x := (x4 : List Int)) h.pop 2 (h.fz 0 rfl rfl)
  refine Q_asg ?_
  refine S_tL ?_
  refine S_nil ?_
  refine S_lstO (xs := ([] : List (Tup Int))) h (.nil) (Nat.le_of_ble_eq_true rfl) fun p6 F H hBp6 h => ?_
  refine S_gName ?_
  have h : St K B0 F H (List.set (List.set (List.set [some va0, none, none, none, none, none, none, none, none] 1 (some (V.ref p2))) 2 (some (V.ref p5))) 3 (some (V.ref p6))) [.fz (p_tags : List (Tup Int)), .fz (p_tags : List (Tup Int)), .fz (x4 : List Int), .own p6 ([] : List (Tup Int)), .any, .any, .any, .any, .any] := St.setOwn 3 h
  refine Q_for ?_
  refine S_iL ?_
  refine S_var 0 h rfl rfl fun v7 h => ?_
  refine S_itL (h.vF 0 rfl rfl) fun a8 e1 => ?_
  subst e1
  obtain ⟨s23, hs23, hm⟩ := ob hm
  refine S_fold (ts := [some (V.ref a8)]) (TM := [.fz (x4 : List Int)]) (Mf := fun (s11 : (List (Tup Int))) => [.fz (p_tags : List (Tup Int)), .fz (p_tags : List (Tup Int)), .fz (x4 : List Int), .own p6 s11, .any, .any, .any, .any, .any]) (yields_list a8 x4) hs23 (h.weak ⟨.inr rfl, .inr rfl, .inr rfl, .inr rfl, .inr rfl, .inl rfl, .inl rfl, .inl rfl, .inl rfl, .inl rfl, trivial⟩) (fun s11 σ F H h => (h.vF 0 rfl rfl)) (fun i x9 s11 s' v10 σ F H D hx hb h hn => ?_) (fun σ F H h => ?_)
  · have hm := hb
    unfold m__law_right_l0 at hm
    have h : St K B0 F H (some v10 :: some (V.ref a8) :: σ) [.fz (x9 : Int), .fz (x4 : List Int), .fz (p_tags : List (Tup Int)), .fz (p_tags : List (Tup Int)), .fz (x4 : List Int), .own p6 s11, .any, .any, .any, .any, .any] := h
    refine S_gName ?_
    have h : St K B0 F H (some (V.ref a8) :: List.set (σ) 4 (some v10)) [.fz (x4 : List Int), .fz (p_tags : List (Tup Int)), .fz (p_tags : List (Tup Int)), .fz (x4 : List Int), .own p6 s11, .fz (x9 : Int), .any, .any, .any, .any] := St.setF (v := v10) (x := (x9 : Int)) h.pop 5 (h.fz 0 rfl rfl)
    refine S_drop ?_
    refine S_bm ?_
    refine S_varO 1 h rfl rfl ?_
    refine S_tyL (α := (Tup Int)) (h.vO 4 rfl) ?_
    refine S_cons ?_
    refine S_lc ?_
    refine S_iL ?_
    refine S_var 1 h rfl rfl fun v12 h => ?_
    refine S_itL (h.vF 0 rfl rfl) fun a13 e1 => ?_
    subst e1
    obtain ⟨ys20, hys20, hm⟩ := ob hm
    refine S_mapO (ts := [some (V.ref a13), some (V.ref a8)]) (TM := [.fz (x4 : List Int), .fz (x4 : List Int)]) (M := [.fz (p_tags : List (Tup Int)), .fz (p_tags : List (Tup Int)), .fz (x4 : List Int), .own p6 s11, .fz (x9 : Int), .any, .any, .any, .any]) (yields_list a13 x4) hys20 h rfl ⟨rfl, trivial⟩ (view_len (h.vF 0 rfl rfl)) (fun w F H h => (h.vF 0 rfl rfl)) (fun x14 z v15 D16 a17 F H G N hf h hG => ?_) (fun D21 F H hBD21 h => ?_)
    · have hm := hf
      unfold m__law_right_c1 at hm
      have h : St K B0 F H (some v15 :: some (V.ref D16) :: some (V.ref a13) :: some (V.ref a8) :: wipe (List.set (σ) 4 (some v10)) [8]) [.fz (x14 : Int), .own D16 a17, .fz (x4 : List Int), .fz (x4 : List Int), .fz (p_tags : List (Tup Int)), .fz (p_tags : List (Tup Int)), .fz (x4 : List Int), .own p6 s11, .fz (x9 : Int), .any, .any, .any, .any] := h
      refine S_gName ?_
      have h : St K B0 F H (some (V.ref D16) :: some (V.ref a13) :: some (V.ref a8) :: List.set (wipe (List.set (σ) 4 (some v10)) [8]) 8 (some v15)) [.own D16 a17, .fz (x4 : List Int), .fz (x4 : List Int), .fz (p_tags : List (Tup Int)), .fz (p_tags : List (Tup Int)), .fz (x4 : List Int), .own p6 s11, .fz (x9 : Int), .any, .any, .any, .fz (x14 : Int)] := St.setF (v := v15) (x := (x14 : Int)) h.pop 11 (h.fz 0 rfl rfl)
      refine ⟨(wipe_set (by decide)).trans wipe_idem, ?_⟩
      refine if1 ?_
      refine S_tT ?_
      refine S_cons ?_
      refine S_varI 3 h rfl rfl ?_
      refine S_cons ?_
      refine S_varI 3 h rfl rfl ?_
      refine S_nil ?_
      refine S_tup (xs := ([x9, x14] : List Int)) h (.cons rfl (.cons rfl .nil)) (Nat.le_of_ble_eq_true rfl) fun p19 F H h => ?_
      have hz := h
      cases hm
      exact hG _ _ _ (St.unset (ts := [some (V.ref D16), some (V.ref a13), some (V.ref a8)]) (TM := [.own D16 a17, .fz (x4 : List Int), .fz (x4 : List Int)]) (M := [.fz (p_tags : List (Tup Int)), .fz (p_tags : List (Tup Int)), .fz (x4 : List Int), .own p6 s11, .fz (x9 : Int), .any, .any, .any, .any]) (hz.pop.weak ⟨.inr rfl, .inr rfl, .inr rfl, .inr rfl, .inr rfl, .inr rfl, .inr rfl, .inr rfl, .inr rfl, .inr rfl, .inr rfl, .inl rfl, trivial⟩) rfl rfl) (hz.fz 0 rfl rfl)
    have h : St K B0 F H (some (V.ref D21) :: some (V.ref a13) :: some (V.ref a8) :: List.set (σ) 4 (some v10)) [.own D21 ys20, .fz (x4 : List Int), .fz (x4 : List Int), .fz (p_tags : List (Tup Int)), .fz (p_tags : List (Tup Int)), .fz (x4 : List Int), .own p6 s11, .fz (x9 : Int), .any, .any, .any, .any] := h
    have h := h.nip
    refine S_frz h hBD21 _ fun F h => ?_
    refine S_nil ?_
    obtain ⟨x22, hx22, hm⟩ := ob hm
    refine S_extend 4 h.pop (by rfl) (h.vF 0 rfl rfl) hx22 fun H h => ?_
    have h : St K B0 F H (some (V.ref a8) :: List.set (σ) 4 (some v10)) [.fz (x4 : List Int), .fz (p_tags : List (Tup Int)), .fz (p_tags : List (Tup Int)), .fz (x4 : List Int), .own p6 x22, .fz (x9 : Int), .any, .any, .any, .any] := h
    have hz := h
    cases hm
    exact hn _ _ _ (hz.weak ⟨.inr rfl, .inr rfl, .inr rfl, .inr rfl, .inr rfl, .inl rfl, .inl rfl, .inl rfl, .inl rfl, .inl rfl, trivial⟩)
  have h : St K B0 F H (some (V.ref a8) :: σ) [.fz (x4 : List Int), .fz (p_tags : List (Tup Int)), .fz (p_tags : List (Tup Int)), .fz (x4 : List Int), .own p6 s23, .any, .any, .any, .any, .any] := h
  have h := h.pop
  refine Q_nx ?_
  refine Q_for ?_
  refine S_iL ?_
  refine S_varO 0 h rfl rfl ?_
  refine S_itL (h.vO 3 rfl) fun p6 e1 => ?_
  obtain rfl := V.ref.inj e1
  obtain ⟨s42, hs42, hm⟩ := ob hm
  refine S_forO (ts := []) (TM := []) (Mf := fun (s27 : Unit) => [.fz (p_tags : List (Tup Int)), .fz (p_tags : List (Tup Int)), .fz (x4 : List Int), .own p6 s23, .any, .any, .any, .any, .any]) (R := (fun r u H' => ∃ F', Fin K B0 (.fz r) [.any] u F' H' : Bool → V → Hp → Prop)) (yields_list p6 s23) hs42 (h.weak ⟨.inr rfl, .inr rfl, .inr rfl, .inr rfl, .inl rfl, .inl rfl, .inl rfl, .inl rfl, .inl rfl, trivial⟩) (fun s27 σ F H h => (h.vO 3 rfl)) (fun i x25 s27 o' v26 σ F H D hx hb h hn hct hbk hrt => ?_) (fun s1 σ F H ho h => ?_) (fun r1 u H' ho hr => ?_)
  · have hm := hb
    unfold m__law_right_l2 at hm
    have h : St K B0 F H (some v26 :: σ) [.fz (x25 : Tup Int), .fz (p_tags : List (Tup Int)), .fz (p_tags : List (Tup Int)), .fz (x4 : List Int), .own p6 s23, .any, .any, .any, .any, .any] := h
    refine S_gName ?_
    have h : St K B0 F H (List.set (σ) 5 (some v26)) [.fz (p_tags : List (Tup Int)), .fz (p_tags : List (Tup Int)), .fz (x4 : List Int), .own p6 s23, .any, .fz (x25 : Tup Int), .any, .any, .any] := St.setF (v := v26) (x := (x25 : Tup Int)) h.pop 5 (h.fz 0 rfl rfl)
    refine S_for ?_
    refine S_iL ?_
    refine S_varO 0 h rfl rfl ?_
    refine S_itL (h.vO 3 rfl) fun p6 e1 => ?_
    obtain rfl := V.ref.inj e1
    obtain ⟨s41, hs41, hm⟩ := ob hm
    refine S_forO (ts := []) (TM := []) (Mf := fun (s31 : Unit) => [.fz (p_tags : List (Tup Int)), .fz (p_tags : List (Tup Int)), .fz (x4 : List Int), .own p6 s23, .any, .fz (x25 : Tup Int), .any, .any, .any]) (R := (fun r u H' => ∃ F', Fin K B0 (.fz r) [.any] u F' H' : Bool → V → Hp → Prop)) (yields_list p6 s23) hs41 (h.weak ⟨.inr rfl, .inr rfl, .inr rfl, .inr rfl, .inl rfl, .inr rfl, .inl rfl, .inl rfl, .inl rfl, trivial⟩) (fun s31 σ F H h => (h.vO 3 rfl)) (fun i x29 s31 o' v30 σ F H D hx hb h hn hct hbk hrt => ?_) (fun s1 σ F H ho h => ?_) (fun r1 u H' ho hr => ?_)
    · have hm := hb
      unfold m__law_right_l3 at hm
      have h : St K B0 F H (some v30 :: σ) [.fz (x29 : Tup Int), .fz (p_tags : List (Tup Int)), .fz (p_tags : List (Tup Int)), .fz (x4 : List Int), .own p6 s23, .any, .fz (x25 : Tup Int), .any, .any, .any] := h
      refine S_gName ?_
      have h : St K B0 F H (List.set (σ) 6 (some v30)) [.fz (p_tags : List (Tup Int)), .fz (p_tags : List (Tup Int)), .fz (x4 : List Int), .own p6 s23, .any, .fz (x25 : Tup Int), .fz (x29 : Tup Int), .any, .any] := St.setF (v := v30) (x := (x29 : Tup Int)) h.pop 6 (h.fz 0 rfl rfl)
      refine Q_asg ?_
      refine S_tcall ?_
      refine S_cons ?_
      refine S_var 0 h rfl rfl fun v32 h => ?_
      refine S_cons ?_
      refine S_var 1 h rfl rfl fun v33 h => ?_
      refine S_cons ?_
      refine S_var 2 h rfl rfl fun v34 h => ?_
      refine S_nil ?_
      obtain ⟨r35, hr35, hm⟩ := ob hm
      refine S_callB (A := [.fz (p_tags : List (Tup Int)), .fz (x25 : Tup Int), .fz (x29 : Tup Int)]) h.pop.pop.pop (slots_cons (ok_fz (h.fz 2 rfl rfl)) (slots_cons (ok_fz (h.fz 1 rfl rfl)) (slots_cons (ok_fz (h.fz 0 rfl rfl)) slots_nil))) (R_are_parted.mk _ _ _ hr35) rfl fun F H h => ?_
      refine S_gName ?_
      have h : St K B0 F H (List.set (List.set (σ) 6 (some v30)) 7 (some (V.bl r35))) [.fz (p_tags : List (Tup Int)), .fz (p_tags : List (Tup Int)), .fz (x4 : List Int), .own p6 s23, .any, .fz (x25 : Tup Int), .fz (x29 : Tup Int), .fz (r35 : Bool), .any] := St.setF (v := (V.bl r35)) (x := (r35 : Bool)) h 7 rfl
      refine S_if ?_
      obtain ⟨c40, hc40, hm⟩ := ob hm
      refine S_or (a := (!true)) (c := c40) h (fun Q' q' => ?_) (fun hc F H Q' h q' => ?_) (fun hc => ?_) fun F H h => ?_
      · skip
        refine S_not ?_
        refine T_tB ?_
        refine S_cb ?_
        refine S_cons ?_
        refine S_varB 0 h rfl rfl ?_
        refine S_cons ?_
        refine S_c ?_
        refine S_nil ?_
        refine S_isi (b := true) ty_bool (by decide +kernel) ?_
        refine T_bl ?_
        have hz := h
        exact q' _ _ hz
      · have hm := ifF hc hc40
        refine T_test ?_
        refine S_op ?_
        refine S_varB 0 h rfl rfl ?_
        refine S_tcall ?_
        refine S_cons ?_
        refine S_var 0 h rfl rfl fun v36 h => ?_
        refine S_cons ?_
        refine S_var 1 h rfl rfl fun v37 h => ?_
        refine S_cons ?_
        refine S_var 2 h rfl rfl fun v38 h => ?_
        refine S_nil ?_
        obtain ⟨r39, hr39, hm⟩ := ob hm
        refine S_callB (A := [.fz (p_tags : List (Tup Int)), .fz (x25 : Tup Int), .fz (x29 : Tup Int)]) h.pop.pop.pop (slots_cons (ok_fz (h.fz 2 rfl rfl)) (slots_cons (ok_fz (h.fz 1 rfl rfl)) (slots_cons (ok_fz (h.fz 0 rfl rfl)) slots_nil))) (R__law_is_parted.mk _ _ _ hr39) rfl fun F H h => ?_
        refine S_neB ?_
        refine T_bl ?_
        have hz := h
        cases hm
        exact q' _ _ hz
      · exact (Option.some.inj (ifT hc hc40)).symm
      refine S_ite hm (fun hc hm => ?_) (fun hc hm => ?_)
      · skip
        refine S_ret ?_
        refine S_c ?_
        have hz := h
        cases hm
        exact hrt _ _ _ rfl ⟨_, (hz.finB trivial)⟩
      refine S_next ?_
      have hz := h
      cases hm
      exact hn _ _ _ _ rfl (hz.weak ⟨.inr rfl, .inr rfl, .inr rfl, .inr rfl, .inl rfl, .inr rfl, .inl rfl, .inl rfl, .inl rfl, trivial⟩)
    rotate_left
    · subst ho
      cases hm
      exact hrt _ _ _ rfl hr
    subst ho
    have h : St K B0 F H (σ) [.fz (p_tags : List (Tup Int)), .fz (p_tags : List (Tup Int)), .fz (x4 : List Int), .own p6 s23, .any, .fz (x25 : Tup Int), .any, .any, .any] := h
    have hz := h
    cases hm
    exact hn _ _ _ _ rfl (hz.weak ⟨.inr rfl, .inr rfl, .inr rfl, .inr rfl, .inl rfl, .inl rfl, .inl rfl, .inl rfl, .inl rfl, trivial⟩)
  rotate_left
  · subst ho
    cases hm
    exact hrt _ _ _ rfl hr
  subst ho
  have h : St K B0 F H (σ) [.fz (p_tags : List (Tup Int)), .fz (p_tags : List (Tup Int)), .fz (x4 : List Int), .own p6 s23, .any, .any, .any, .any, .any] := h
  refine Q_nx ?_
  refine S_ret ?_
  refine S_op ?_
  refine S_var 0 h rfl rfl fun v43 h => ?_
  refine S_var 1 h rfl rfl fun v44 h => ?_
  obtain ⟨c45, hc45, hm⟩ := ob hm
  refine S_eqD (dF h (h.fz 1 rfl rfl)) (dF h (h.fz 0 rfl rfl)) hc45 (by decide) ?_
  have h := h.pop.pop
  have hz := h
  cases hm
  exact q _ _ _ (hz.finB trivial)
theorem fn__law_right {P : Program} {w : World} {K : Fg} {mg : Str → Option Value} {base : Heap} (bz : Blt mg) {f : Addr} {fd : FuncData} (F0 : Fun K "_law_right" "_law_right" s__law_right f fd) (C__law_is_parted : Cal P w K mg base 1 "_law_is_parted" ["_law_tags", "_law_one", "_law_other"] R__law_is_parted) (C_are_parted : Cal P w K mg base 2 "are_parted" ["names", "one", "other"] R_are_parted) : FnOk P w K mg base CX0 3 f fd ["_law_tags"] (Prom K R__law_right) :=
  F0.ok sc__law_right (prom_len 1 fun A s A' h => by cases h; rfl) fun cdv A outer s H vs Q E hr h => ⟨t__law_right K, pss_cons (ps_set (i := 1) sc__law_right.nd rfl (.inl rfl) (pe_callTy (r := rListG K) cr_listG (by rfl) bz.list_ (by decide +kernel) (pa_cons (pv 0) (pa_nil)))) (pss_cons (ps_set (i := 2) sc__law_right.nd rfl (.inl rfl) (pe_lrg (by rfl) (by rfl) bz.list_ bz.range (pe_callB (r := rLenG K) cr_lenG (by rfl) bz.len (by decide +kernel) (pa_cons (pv 0) (pa_nil))))) (pss_cons (ps_set (i := 3) sc__law_right.nd rfl (.inl rfl) (pe_lst (pa_nil))) (pss_cons (ps_for PassesOwn.never rfl (pi_list (pv 2)) (pg_name (i := 4) sc__law_right.nd rfl (.inr rfl)) (pss_one (ps_expr (pe_bm PySem.F.plainAttrs_list PySem.F.slot_list_extend PySem.F.type_list_extend mt_extend (pv 3) (pa_cons (pe_lc (own := [("_law_t", 8)]) (g := gName 8) (tt := tYes) (te := tTup (tCons (tVar 4) (tCons (tVar 8) (tNil)))) (wi := iList K (tVar 2)) rfl sc__law_right.nd (pi_list (pv 2)) (blkOk_by (N := ["_law_tags", "_law_kept", "_law_states", "_law_rows", "_law_s", "_law_one", "_law_other", "_law_told", "_law_t"]) (sc := defScope s__law_right) (by decide +kernel)) (fun _ _ _ _ _ => pg_name (i := 8) sc__law_right.nd rfl (by first | exact .inl rfl | exact .inr rfl)) (fun _ _ _ _ _ => pts_nil) (fun _ _ _ _ _ => pe_tup (pa_cons (pv 4) (pa_cons (pv 8) (pa_nil))))) (pa_nil)))))) (pss_cons (ps_for PassesOwn.never rfl (pi_list (pv 3)) (pg_name (i := 5) sc__law_right.nd rfl (.inl rfl)) (pss_one (ps_for PassesOwn.never rfl (pi_list (pv 3)) (pg_name (i := 6) sc__law_right.nd rfl (.inl rfl)) (pss_cons (ps_set (i := 7) sc__law_right.nd rfl (.inl rfl) (C_are_parted.pe (hr.mono (by decide)) (by rfl) (pa_cons (pv 0) (pa_cons (pv 5) (pa_cons (pv 6) (pa_nil)))))) (pss_one (ps_if (PW.pt (pw_or (pt_not (pt_val (pe_callB (r := rIsi K) call_isi (by rfl) bz.isinstance (by decide +kernel) (pa_cons (pv 7) (pa_cons (pe_bltn (v := .ty "bool") (by rfl) bz.bool_ (by decide +kernel) rfl) (pa_nil)))))) (pw_or1 (pt_cmpR (r := rNe) op_ne (pv 7) (C__law_is_parted.pe (hr.mono (by decide)) (by rfl) (pa_cons (pv 1) (pa_cons (pv 5) (pa_cons (pv 6) (pa_nil))))) (nomark _))))) (pss_one (ps_ret (pe_bl))) pss_nil)))))) (pss_one (ps_ret (pe_cmpR (r := (rEqD K)) (op_eqD (hu64 hr)) (pv 0) (pv 1) (nomark _)))))))), sem__law_right h (fun _ _ z => z) fun _ _ z => z⟩
theorem ok__law_right {P : Program} {w : World} {K : Fg} {mg : Str → Option Value} {base : Heap} (bz : Blt mg) {f : Addr} {fd : FuncData} (F0 : Fun K "_law_right" "_law_right" s__law_right f fd) (g0 : mg "_law_right" = some (.ref f)) (b0 : Binds K fd ["_law_tags"] []) (C__law_is_parted : Cal P w K mg base 1 "_law_is_parted" ["_law_tags", "_law_one", "_law_other"] R__law_is_parted) (C_are_parted : Cal P w K mg base 2 "are_parted" ["names", "one", "other"] R_are_parted) : Cal P w K mg base 3 "_law_right" ["_law_tags"] R__law_right :=
  Cal.mk' (fn__law_right bz F0 C__law_is_parted C_are_parted) g0 F0.kp b0

def m_law_c1  (x18 : Int) (s22 : (List Int) × (List (Tup Int))) : Option ((Tup Int) × ((List Int) × (List (Tup Int)))) := (m__law_digit s22.1 (List.length s22.2 : Int)).bind fun r23 => (popAt s22.2 r23.1).bind fun x25 => some (x25.1, (r23.2, x25.2))
def m_law_l0 (p_script : Scr) (x3 : Int) (s5 : Unit) : Option (Out Unit Bool) := (m__law_pot p_script x3).bind fun r7 => (m__law_digit r7 (3 : Int)).bind fun r9 => (some ((2 : Int) + r9.1)).bind fun many11 => (some ((1 : Int) + (b2z (decide ((2 : Int) < many11))))).bind fun least12 => (m__law_digit r9.2 ((5 : Int) - least12)).bind fun r13 => (m__law_all (least12 + r13.1)).bind fun r15 => (rangeO many11).bind fun xs17 => (mapS m_law_c1 xs17 (r13.2, r15)).bind fun ys27 => (m__law_right ys27.1).bind fun r29 => if (!r29) = true then some (.rt false) else (m__law_digit ys27.2.1 many11).bind fun r30 => (((eqO ys27.2.2 ([] : List (Tup Int))).bind fun c33 => if (!c33) = true then (m__law_digit r30.2 (List.length ys27.2.2 : Int)).bind fun r35 => (atI ys27.2.2 r35.1).bind fun x38 => (setL ys27.1 r30.1 x38).bind fun x39 => some (r35.2, x39) else some (r30.2, ys27.1) : Option ((List Int) × (List (Tup Int))))).bind fun j34 => (m__law_right j34.2).bind fun r40 => if (!r40) = true then some (.rt false) else some (.nx ())
def m_law (p_script : Scr) : Option Bool := (rangeO (pyMax (1 : Int) (pyMin (List.length p_script.l : Int) (6 : Int)))).bind fun xs2 => (forO (m_law_l0 p_script) xs2 ()).bind fun s41 => match s41 with | .nx s1 => some true | .rt r1 => some r1 | .bk _ => none
inductive R_law : List Slot → RSlot → List Slot → Prop
  | mk (p_script : Scr)  {r : Bool} : m_law p_script = some r → R_law [.fz p_script] (.fz r) [.any]
def t_law (K : Fg) : TS := tSeq (tFor (iRng1 (tCons (tCB rMaxG (tCons (tC (.int 1)) (tCons (tCB rMinG (tCons (tCB (rLenG K) (tCons (tVar 0) (tNil))) (tCons (tC (.int 6)) (tNil)))) (tNil)))) (tNil))) (gName 1) (tSeq (tAsg (tCall (Prom K R__law_pot) [] E0 (tCons (tVar 0) (tCons (tVar 1) (tNil)))) (gName 2)) (tSeq (tAsg (tOp (rI0 fun i j => .int (i + j)) (tC (.int 2)) (tCall (Prom K R__law_digit) [] E0 (tCons (tVar 2) (tCons (tC (.int 3)) (tNil))))) (gName 3)) (tSeq (tAsg (tOp (rI0 fun i j => .int (i + j)) (tC (.int 1)) (tCB rIntG (tCons (tOp (rI0 fun i j => .bl (decide (j < i))) (tVar 3) (tC (.int 2))) (tNil)))) (gName 4)) (tSeq (tAsg (tCall (Prom K R__law_all) [] E0 (tCons (tOp (rI0 fun i j => .int (i + j)) (tVar 4) (tCall (Prom K R__law_digit) [] E0 (tCons (tVar 2) (tCons (tOp (rI0 fun i j => .int (i - j)) (tC (.int 5)) (tVar 4)) (tNil))))) (tNil))) (gName 5)) (tSeq (tAsg (tLc (iRng1 (tCons (tVar 3) (tNil))) (gName 8) (tYes) (tBM K "list" rPopAt (tVar 5) (tCons (tCall (Prom K R__law_digit) [] E0 (tCons (tVar 2) (tCons (tCB (rLenG K) (tCons (tVar 5) (tNil))) (tNil)))) (tNil))) [8]) (gName 6)) (tSeq (tIfS (tNot (tB (tCall (Prom K R__law_right) [] E0 (tCons (tVar 6) (tNil))))) (tRet (tC (.bl false))) tNext) (tSeq (tAsg (tCall (Prom K R__law_digit) [] E0 (tCons (tVar 2) (tCons (tVar 3) (tNil)))) (gName 7)) (tSeq (tIfS (tTest (tOp (rNeD K) (tVar 5) (tLst (tNil)))) (tAsg (tOp (rIxL K) (tVar 5) (tCall (Prom K R__law_digit) [] E0 (tCons (tVar 2) (tCons (tCB (rLenG K) (tCons (tVar 5) (tNil))) (tNil))))) (gSub (tVar 6) (tVar 7) rSetL)) (tNext)) (tIfS (tNot (tB (tCall (Prom K R__law_right) [] E0 (tCons (tVar 6) (tNil))))) (tRet (tC (.bl false))) tNext)))))))))) (tRet (tC (.bl true)))
theorem sc_law : FnScope ["_law_script", "_law_k", "_law_pot_here", "_law_many", "_law_least", "_law_left", "_law_tags", "_law_at", "_law_s"] ["_law_script"] (defScope s_law) := ⟨rfl, rfl, rfl, by decide +kernel, rfl, by decide +kernel, by decide +kernel⟩
theorem sem_law {K : Fg} {vs : List V} {H : Hp} {Q : VK} {E : XK} (h : Prom K R_law vs H Q E) {D : Ends} (hD : ∀ u H, Q u H → D.rt u H) (hN : ∀ σ H, Q .non H → D.nx σ H) : t_law K D (start ["_law_script", "_law_k", "_law_pot_here", "_law_many", "_law_least", "_law_left", "_law_tags", "_law_at", "_law_s"] vs) H := by
  obtain ⟨F, A, rs, A', hR, fh, hS, nd, q⟩ := h
  cases hR with | @mk p_script  r hm => ?_
  have hl := slots_len hS
  obtain ⟨va0, rfl⟩ := len1 (vs := vs) (by simpa using hl.symm)
  have h : St K ⟨F, H, []⟩ F H [some va0, none, none, none, none, none, none, none, none] [.fz (p_script : Scr), .any, .any, .any, .any, .any, .any, .any, .any] := St.start fh hS nd [none, none, none, none, none, none, none, none]
  generalize hB : (⟨F, H, []⟩ : Base) = B0 at h
  have q0 := q
  have q : ∀ u F' H', Fin K B0 (.fz r) [.any] u F' H' → D.rt u H' := by subst hB; exact fun u F' H' z => hD _ _ (q u F' H' z)
  have qN : ∀ σ F' H', Fin K B0 (.fz r) [.any] .non F' H' → D.nx σ H' := by subst hB; exact fun σ F' H' z => hN _ _ (q0 _ F' H' z)
  clear hB q0 hD hN
  rw [show start ["_law_script", "_law_k", "_law_pot_here", "_law_many", "_law_least", "_law_left", "_law_tags", "_law_at", "_law_s"] [va0] = [some va0, none, none, none, none, none, none, none, none] from rfl]
  unfold t_law
  unfold m_law at hm
  have hrt : ∀ (r' : Bool) u H', (some r' : Option _) = some r → (fun r u H' => ∃ F', Fin K B0 (.fz r) [.any] u F' H') r' u H' → D.rt u H' := fun r' u H' e z => by cases e; exact q _ _ _ z.choose_spec
  refine Q_for ?_
  refine S_iR1 ?_
  refine S_cons ?_
  refine S_cb ?_
  refine S_cons ?_
  refine S_c ?_
  refine S_cons ?_
  refine S_cb ?_
  refine S_cons ?_
  refine S_cb ?_
  refine S_cons ?_
  refine S_var 0 h rfl rfl fun v1 h => ?_
  refine S_nil ?_
  refine S_lenScr h (h.fz 0 rfl rfl) ?_
  have h := h.pop
  refine S_cons ?_
  refine S_c ?_
  refine S_nil ?_
  refine S_min ?_
  refine S_nil ?_
  refine S_max ?_
  refine S_nil ?_
  obtain ⟨xs2, hxs2, hm⟩ := ob hm
  refine S_rng1 (K := K) hxs2 fun J Y => ?_
  obtain ⟨s41, hs41, hm⟩ := ob hm
  refine S_forO (ts := []) (TM := []) (Mf := fun (s5 : Unit) => [.fz (p_script : Scr), .any, .any, .any, .any, .any, .any, .any, .any]) (R := (fun r u H' => ∃ F', Fin K B0 (.fz r) [.any] u F' H' : Bool → V → Hp → Prop)) Y hs41 (h.weak ⟨.inr rfl, .inl rfl, .inl rfl, .inl rfl, .inl rfl, .inl rfl, .inl rfl, .inl rfl, .inl rfl, trivial⟩) (fun s5 σ F H h => trivial) (fun i x3 s5 o' v4 σ F H D hx hb h hn hct hbk hrt => ?_) (fun s1 σ F H ho h => ?_) (fun r1 u H' ho hr => ?_)
  · have hm := hb
    unfold m_law_l0 at hm
    have h : St K B0 F H (some v4 :: σ) [.fz (x3 : Int), .fz (p_script : Scr), .any, .any, .any, .any, .any, .any, .any, .any] := h
    refine S_gName ?_
    have h : St K B0 F H (List.set (σ) 1 (some v4)) [.fz (p_script : Scr), .fz (x3 : Int), .any, .any, .any, .any, .any, .any, .any] := St.setF (v := v4) (x := (x3 : Int)) h.pop 1 (h.fz 0 rfl rfl)
    refine Q_asg ?_
    refine S_tcall ?_
    refine S_cons ?_
    refine S_var 0 h rfl rfl fun v6 h => ?_
    refine S_cons ?_
    refine S_varI 1 h rfl rfl ?_
    refine S_nil ?_
    obtain ⟨r7, hr7, hm⟩ := ob hm
    refine S_callO (A := [.fz (p_script : Scr), .fz (x3 : Int)]) h.pop (slots_cons (ok_fz (h.fz 0 rfl rfl)) (slots_cons (ok_fz rfl) slots_nil)) (R__law_pot.mk _ _ hr7) rfl fun p8 F H hBp8 h => ?_
    refine S_gName ?_
    have h : St K B0 F H (List.set (List.set (σ) 1 (some v4)) 2 (some (V.ref p8))) [.fz (p_script : Scr), .fz (x3 : Int), .own p8 r7, .any, .any, .any, .any, .any, .any] := St.setOwn 2 h
    refine Q_asg ?_
    refine S_op ?_
    refine S_c ?_
    refine S_tcall ?_
    refine S_cons ?_
    refine S_varO 0 h rfl rfl ?_
    refine S_cons ?_
    refine S_c ?_
    refine S_nil ?_
    obtain ⟨r9, hr9, hm⟩ := ob hm
    refine S_call1 (A := [.own p8 r7, .fz ((3 : Int) : Int)]) 2 h (by rfl) (slots_cons (SlotOk.ofOwn h 2 rfl) (slots_cons (ok_fz rfl) slots_nil)) (R__law_digit.mk _ _ hr9) rfl (fun F' H' z => z.1) fun u10 F H h r => ?_
    have h : St K B0 F H (List.set (List.set (σ) 1 (some v4)) 2 (some (V.ref p8))) [.fz (p_script : Scr), .fz (x3 : Int), .own p8 r9.2, .any, .any, .any, .any, .any, .any] := h
    obtain rfl : u10 = (V.int r9.1) := r
    refine S_I0 ?_
    obtain ⟨many11, hmany11, hm⟩ := ob hm
    have hmany11 := Option.some.inj hmany11
    rw [hmany11]
    refine S_gName ?_
    have h : St K B0 F H (List.set (List.set (List.set (σ) 1 (some v4)) 2 (some (V.ref p8))) 3 (some (V.int many11))) [.fz (p_script : Scr), .fz (x3 : Int), .own p8 r9.2, .fz (many11 : Int), .any, .any, .any, .any, .any] := St.setF (v := (V.int many11)) (x := (many11 : Int)) h 3 rfl
    refine Q_asg ?_
    refine S_op ?_
    refine S_c ?_
    refine S_cb ?_
    refine S_cons ?_
    refine S_op ?_
    refine S_varI 0 h rfl rfl ?_
    refine S_c ?_
    refine S_I0 ?_
    refine S_nil ?_
    refine S_intB ?_
    refine S_I0 ?_
    obtain ⟨least12, hleast12, hm⟩ := ob hm
    have hleast12 := Option.some.inj hleast12
    rw [hleast12]
    refine S_gName ?_
    have h : St K B0 F H (List.set (List.set (List.set (List.set (σ) 1 (some v4)) 2 (some (V.ref p8))) 3 (some (V.int many11))) 4 (some (V.int least12))) [.fz (p_script : Scr), .fz (x3 : Int), .own p8 r9.2, .fz (many11 : Int), .fz (least12 : Int), .any, .any, .any, .any] := St.setF (v := (V.int least12)) (x := (least12 : Int)) h 4 rfl
    refine Q_asg ?_
    refine S_tcall ?_
    refine S_cons ?_
    refine S_op ?_
    refine S_varI 0 h rfl rfl ?_
    refine S_tcall ?_
    refine S_cons ?_
    refine S_varO 0 h rfl rfl ?_
    refine S_cons ?_
    refine S_op ?_
    refine S_c ?_
    refine S_varI 0 h rfl rfl ?_
    refine S_I0 ?_
    refine S_nil ?_
    obtain ⟨r13, hr13, hm⟩ := ob hm
    refine S_call1 (A := [.own p8 r9.2, .fz (((5 : Int) - least12) : Int)]) 2 h (by rfl) (slots_cons (SlotOk.ofOwn h 2 rfl) (slots_cons (ok_fz rfl) slots_nil)) (R__law_digit.mk _ _ hr13) rfl (fun F' H' z => z.1) fun u14 F H h r => ?_
    have h : St K B0 F H (List.set (List.set (List.set (List.set (σ) 1 (some v4)) 2 (some (V.ref p8))) 3 (some (V.int many11))) 4 (some (V.int least12))) [.fz (p_script : Scr), .fz (x3 : Int), .own p8 r13.2, .fz (many11 : Int), .fz (least12 : Int), .any, .any, .any, .any] := h
    obtain rfl : u14 = (V.int r13.1) := r
    refine S_I0 ?_
    refine S_nil ?_
    obtain ⟨r15, hr15, hm⟩ := ob hm
    refine S_callO (A := [.fz ((least12 + r13.1) : Int)]) h (slots_cons (ok_fz rfl) slots_nil) (R__law_all.mk _ hr15) rfl fun p16 F H hBp16 h => ?_
    refine S_gName ?_
    have h : St K B0 F H (List.set (List.set (List.set (List.set (List.set (σ) 1 (some v4)) 2 (some (V.ref p8))) 3 (some (V.int many11))) 4 (some (V.int least12))) 5 (some (V.ref p16))) [.fz (p_script : Scr), .fz (x3 : Int), .own p8 r13.2, .fz (many11 : Int), .fz (least12 : Int), .own p16 r15, .any, .any, .any] := St.setOwn 5 h
    refine Q_asg ?_
    refine S_lc ?_
    refine S_iR1 ?_
    refine S_cons ?_
    refine S_varI 0 h rfl rfl ?_
    refine S_nil ?_
    obtain ⟨xs17, hxs17, hm⟩ := ob hm
    refine S_rng1 (K := K) hxs17 fun J Y => ?_
    obtain ⟨ys27, hys27, hm⟩ := ob hm
    refine S_mapS (ts := []) (TM := []) (Mf := fun s22 => [.fz (p_script : Scr), .fz (x3 : Int), .own p8 s22.1, .fz (many11 : Int), .fz (least12 : Int), .own p16 s22.2, .any, .any, .any]) Y hys27 h rfl (fun _ => ⟨rfl, trivial⟩) (rng1_len hxs17) (fun s22 w F H h => trivial) (fun x18 s22 z v19 D20 a21 F H G N hf h hG => ?_) (fun D28 F H hBD28 h => ?_)
    · have hm := hf
      unfold m_law_c1 at hm
      have h : St K B0 F H (some v19 :: some (V.ref D20) :: wipe (List.set (List.set (List.set (List.set (List.set (σ) 1 (some v4)) 2 (some (V.ref p8))) 3 (some (V.int many11))) 4 (some (V.int least12))) 5 (some (V.ref p16))) [8]) [.fz (x18 : Int), .own D20 a21, .fz (p_script : Scr), .fz (x3 : Int), .own p8 s22.1, .fz (many11 : Int), .fz (least12 : Int), .own p16 s22.2, .any, .any, .any] := h
      refine S_gName ?_
      have h : St K B0 F H (some (V.ref D20) :: List.set (wipe (List.set (List.set (List.set (List.set (List.set (σ) 1 (some v4)) 2 (some (V.ref p8))) 3 (some (V.int many11))) 4 (some (V.int least12))) 5 (some (V.ref p16))) [8]) 8 (some v19)) [.own D20 a21, .fz (p_script : Scr), .fz (x3 : Int), .own p8 s22.1, .fz (many11 : Int), .fz (least12 : Int), .own p16 s22.2, .any, .any, .fz (x18 : Int)] := St.setF (v := v19) (x := (x18 : Int)) h.pop 9 (h.fz 0 rfl rfl)
      refine ⟨(wipe_set (by decide)).trans wipe_idem, ?_⟩
      refine if1 ?_
      refine S_bm ?_
      refine S_varO 1 h rfl rfl ?_
      refine S_tyL (α := (Tup Int)) (h.vO 6 rfl) ?_
      refine S_cons ?_
      refine S_tcall ?_
      refine S_cons ?_
      refine S_varO 1 h rfl rfl ?_
      refine S_cons ?_
      refine S_cb ?_
      refine S_cons ?_
      refine S_varO 1 h rfl rfl ?_
      refine S_nil ?_
      refine S_lenL (h.vO 6 rfl) ?_
      refine S_nil ?_
      obtain ⟨r23, hr23, hm⟩ := ob hm
      refine S_call1 (A := [.own p8 s22.1, .fz ((List.length s22.2 : Int) : Int)]) 3 h (by rfl) (slots_cons (SlotOk.ofOwn h 3 rfl) (slots_cons (ok_fz rfl) slots_nil)) (R__law_digit.mk _ _ hr23) rfl (fun F' H' z => z.1) fun u24 F H h r => ?_
      have h : St K B0 F H (some (V.ref D20) :: List.set (wipe (List.set (List.set (List.set (List.set (List.set (σ) 1 (some v4)) 2 (some (V.ref p8))) 3 (some (V.int many11))) 4 (some (V.int least12))) 5 (some (V.ref p16))) [8]) 8 (some v19)) [.own D20 a21, .fz (p_script : Scr), .fz (x3 : Int), .own p8 r23.2, .fz (many11 : Int), .fz (least12 : Int), .own p16 s22.2, .any, .any, .fz (x18 : Int)] := h
      obtain rfl : u24 = (V.int r23.1) := r
      refine S_nil ?_
      obtain ⟨x25, hx25, hm⟩ := ob hm
      refine S_popAt 6 h (by rfl) hx25 fun u26 H h => ?_
      have h : St K B0 F H (some u26 :: some (V.ref D20) :: List.set (wipe (List.set (List.set (List.set (List.set (List.set (σ) 1 (some v4)) 2 (some (V.ref p8))) 3 (some (V.int many11))) 4 (some (V.int least12))) 5 (some (V.ref p16))) [8]) 8 (some v19)) [.fz (x25.1 : Tup Int), .own D20 a21, .fz (p_script : Scr), .fz (x3 : Int), .own p8 r23.2, .fz (many11 : Int), .fz (least12 : Int), .own p16 x25.2, .any, .any, .fz (x18 : Int)] := h
      have hz := h
      cases hm
      exact hG _ _ _ (St.unset (ts := [some (V.ref D20)]) (TM := [.own D20 a21]) (M := [.fz (p_script : Scr), .fz (x3 : Int), .own p8 r23.2, .fz (many11 : Int), .fz (least12 : Int), .own p16 x25.2, .any, .any, .any]) (hz.pop.weak ⟨.inr rfl, .inr rfl, .inr rfl, .inr rfl, .inr rfl, .inr rfl, .inr rfl, .inr rfl, .inr rfl, .inl rfl, trivial⟩) rfl rfl) (hz.fz 0 rfl rfl)
    have h : St K B0 F H (some (V.ref D28) :: List.set (List.set (List.set (List.set (List.set (σ) 1 (some v4)) 2 (some (V.ref p8))) 3 (some (V.int many11))) 4 (some (V.int least12))) 5 (some (V.ref p16))) [.own D28 ys27.1, .fz (p_script : Scr), .fz (x3 : Int), .own p8 ys27.2.1, .fz (many11 : Int), .fz (least12 : Int), .own p16 ys27.2.2, .any, .any, .any] := h
    refine S_gName ?_
    have h : St K B0 F H (List.set (List.set (List.set (List.set (List.set (List.set (σ) 1 (some v4)) 2 (some (V.ref p8))) 3 (some (V.int many11))) 4 (some (V.int least12))) 5 (some (V.ref p16))) 6 (some (V.ref D28))) [.fz (p_script : Scr), .fz (x3 : Int), .own p8 ys27.2.1, .fz (many11 : Int), .fz (least12 : Int), .own p16 ys27.2.2, .own D28 ys27.1, .any, .any] := St.setOwn 6 h
    refine Q_if ?_
    refine S_not ?_
    refine T_tB ?_
    refine S_tcall ?_
    refine S_cons ?_
    refine S_varO 0 h rfl rfl ?_
    refine S_nil ?_
    obtain ⟨r29, hr29, hm⟩ := ob hm
    refine S_callVB (A := [.fz (ys27.1 : List (Tup Int))]) h (slots_cons (ok_vwH h (h.vO 6 rfl)) slots_nil) (R__law_right.mk _ hr29) rfl fun H h => ?_
    refine T_bl ?_
    refine S_ite hm (fun hc hm => ?_) (fun hc hm => ?_)
    · skip
      refine S_ret ?_
      refine S_c ?_
      have hz := h
      cases hm
      exact hrt _ _ _ rfl ⟨_, (hz.finB trivial)⟩
    refine Q_next ?_
    refine Q_asg ?_
    refine S_tcall ?_
    refine S_cons ?_
    refine S_varO 0 h rfl rfl ?_
    refine S_cons ?_
    refine S_varI 0 h rfl rfl ?_
    refine S_nil ?_
    obtain ⟨r30, hr30, hm⟩ := ob hm
    refine S_call1 (A := [.own p8 ys27.2.1, .fz (many11 : Int)]) 2 h (by rfl) (slots_cons (SlotOk.ofOwn h 2 rfl) (slots_cons (ok_fz rfl) slots_nil)) (R__law_digit.mk _ _ hr30) rfl (fun F' H' z => z.1) fun u31 F H h r => ?_
    have h : St K B0 F H (List.set (List.set (List.set (List.set (List.set (List.set (σ) 1 (some v4)) 2 (some (V.ref p8))) 3 (some (V.int many11))) 4 (some (V.int least12))) 5 (some (V.ref p16))) 6 (some (V.ref D28))) [.fz (p_script : Scr), .fz (x3 : Int), .own p8 r30.2, .fz (many11 : Int), .fz (least12 : Int), .own p16 ys27.2.2, .own D28 ys27.1, .any, .any] := h
    obtain rfl : u31 = (V.int r30.1) := r
    refine S_gName ?_
    have h : St K B0 F H (List.set (List.set (List.set (List.set (List.set (List.set (List.set (σ) 1 (some v4)) 2 (some (V.ref p8))) 3 (some (V.int many11))) 4 (some (V.int least12))) 5 (some (V.ref p16))) 6 (some (V.ref D28))) 7 (some (V.int r30.1))) [.fz (p_script : Scr), .fz (x3 : Int), .own p8 r30.2, .fz (many11 : Int), .fz (least12 : Int), .own p16 ys27.2.2, .own D28 ys27.1, .fz (r30.1 : Int), .any] := St.setF (v := (V.int r30.1)) (x := (r30.1 : Int)) h 7 rfl
    obtain ⟨j34, hj34, hm⟩ := ob hm
    refine Q_cutJ (Post := fun σ H => ∃ F, St K B0 F H (σ) [.fz (p_script : Scr), .fz (x3 : Int), .own p8 j34.1, .fz (many11 : Int), .fz (least12 : Int), .own p16 ys27.2.2, .own D28 j34.2, .fz (r30.1 : Int), .any]) (fun D hk => ?_) (fun σ H ⟨F, h⟩ => ?_)
    · have hm := hj34
      refine S_if ?_
      refine T_test ?_
      refine S_op ?_
      refine S_varO 0 h rfl rfl ?_
      refine S_tL ?_
      refine S_nil ?_
      refine S_lstO (xs := ([] : List (Tup Int))) h (.nil) (Nat.le_of_ble_eq_true rfl) fun p32 F H hBp32 h => ?_
      obtain ⟨c33, hc33, hm⟩ := ob hm
      refine S_neD (dL h (h.vO 6 rfl)) (dL h (h.vO 0 rfl)) hc33 (by decide) ?_
      have h := h.pop
      refine T_bl ?_
      refine S_ite hm (fun hc hm => ?_) (fun hc hm => ?_)
      · skip
        refine S_asg ?_
        refine S_op ?_
        refine S_varO 0 h rfl rfl ?_
        refine S_tcall ?_
        refine S_cons ?_
        refine S_varO 0 h rfl rfl ?_
        refine S_cons ?_
        refine S_cb ?_
        refine S_cons ?_
        refine S_varO 0 h rfl rfl ?_
        refine S_nil ?_
        refine S_lenL (h.vO 5 rfl) ?_
        refine S_nil ?_
        obtain ⟨r35, hr35, hm⟩ := ob hm
        refine S_call1 (A := [.own p8 r30.2, .fz ((List.length ys27.2.2 : Int) : Int)]) 2 h (by rfl) (slots_cons (SlotOk.ofOwn h 2 rfl) (slots_cons (ok_fz rfl) slots_nil)) (R__law_digit.mk _ _ hr35) rfl (fun F' H' z => z.1) fun u36 F H h r => ?_
        have h : St K B0 F H (List.set (List.set (List.set (List.set (List.set (List.set (List.set (σ) 1 (some v4)) 2 (some (V.ref p8))) 3 (some (V.int many11))) 4 (some (V.int least12))) 5 (some (V.ref p16))) 6 (some (V.ref D28))) 7 (some (V.int r30.1))) [.fz (p_script : Scr), .fz (x3 : Int), .own p8 r35.2, .fz (many11 : Int), .fz (least12 : Int), .own p16 ys27.2.2, .own D28 ys27.1, .fz (r30.1 : Int), .any] := h
        obtain rfl : u36 = (V.int r35.1) := r
        obtain ⟨x38, hx38, hm⟩ := ob hm
        refine S_ixL h (h.vO 5 rfl) hx38 fun u37 h => ?_
        refine S_gSub ?_
        refine S_varO 1 h rfl rfl ?_
        refine S_varI 1 h rfl rfl ?_
        obtain ⟨x39, hx39, hm⟩ := ob hm
        refine S_setL 7 h (by rfl) (h.fz 0 rfl rfl) hx39 fun H h => ?_
        have h : St K B0 F H (some u37 :: List.set (List.set (List.set (List.set (List.set (List.set (List.set (σ) 1 (some v4)) 2 (some (V.ref p8))) 3 (some (V.int many11))) 4 (some (V.int least12))) 5 (some (V.ref p16))) 6 (some (V.ref D28))) 7 (some (V.int r30.1))) [.fz (x38 : Tup Int), .fz (p_script : Scr), .fz (x3 : Int), .own p8 r35.2, .fz (many11 : Int), .fz (least12 : Int), .own p16 ys27.2.2, .own D28 x39, .fz (r30.1 : Int), .any] := h
        have h := h.pop
        have hz := h
        cases hm
        exact hk _ _ ⟨_, hz.weak ⟨.inr rfl, .inr rfl, .inr rfl, .inr rfl, .inr rfl, .inr rfl, .inr rfl, .inr rfl, .inl rfl, trivial⟩⟩
      · skip
        have hz := h
        cases hm
        exact hk _ _ ⟨_, hz.weak ⟨.inr rfl, .inr rfl, .inr rfl, .inr rfl, .inr rfl, .inr rfl, .inr rfl, .inr rfl, .inl rfl, trivial⟩⟩
    refine S_if ?_
    refine S_not ?_
    refine T_tB ?_
    refine S_tcall ?_
    refine S_cons ?_
    refine S_varO 0 h rfl rfl ?_
    refine S_nil ?_
    obtain ⟨r40, hr40, hm⟩ := ob hm
    refine S_callVB (A := [.fz (j34.2 : List (Tup Int))]) h (slots_cons (ok_vwH h (h.vO 6 rfl)) slots_nil) (R__law_right.mk _ hr40) rfl fun H h => ?_
    refine T_bl ?_
    refine S_ite hm (fun hc hm => ?_) (fun hc hm => ?_)
    · skip
      refine S_ret ?_
      refine S_c ?_
      have hz := h
      cases hm
      exact hrt _ _ _ rfl ⟨_, (hz.finB trivial)⟩
    refine S_next ?_
    have hz := h
    cases hm
    exact hn _ _ _ _ rfl (hz.weak ⟨.inr rfl, .inl rfl, .inl rfl, .inl rfl, .inl rfl, .inl rfl, .inl rfl, .inl rfl, .inl rfl, trivial⟩)
  rotate_left
  · subst ho
    cases hm
    exact hrt _ _ _ rfl hr
  subst ho
  have h : St K B0 F H (σ) [.fz (p_script : Scr), .any, .any, .any, .any, .any, .any, .any, .any] := h
  refine Q_nx ?_
  refine S_ret ?_
  refine S_c ?_
  have hz := h
  cases hm
  exact q _ _ _ (hz.finB trivial)
theorem fn_law {P : Program} {w : World} {K : Fg} {mg : Str → Option Value} {base : Heap} (bz : Blt mg) {f : Addr} {fd : FuncData} (F0 : Fun K "law" "law" s_law f fd) (C__law_all : Cal P w K mg base 1 "_law_all" ["_law_size"] R__law_all) (C__law_digit : Cal P w K mg base 1 "_law_digit" ["_law_pot_here", "_law_many"] R__law_digit) (C__law_pot : Cal P w K mg base 2 "_law_pot" ["_law_script", "_law_k"] R__law_pot) (C__law_right : Cal P w K mg base 3 "_law_right" ["_law_tags"] R__law_right) : FnOk P w K mg base CX0 4 f fd ["_law_script"] (Prom K R_law) :=
  F0.ok sc_law (prom_len 1 fun A s A' h => by cases h; rfl) fun cdv A outer s H vs Q E hr h => ⟨t_law K, pss_cons (ps_for PassesOwn.never rfl (pi_range1 (by rfl) bz.range (pa_cons (pe_callB (r := rMaxG) (cr_maxG rfl) (by rfl) bz.max_ (by decide +kernel) (pa_cons (pe_int) (pa_cons (pe_callB (r := rMinG) (cr_minG rfl) (by rfl) bz.min_ (by decide +kernel) (pa_cons (pe_callB (r := rLenG K) cr_lenG (by rfl) bz.len (by decide +kernel) (pa_cons (pv 0) (pa_nil))) (pa_cons (pe_int) (pa_nil)))) (pa_nil)))) (pa_nil))) (pg_name (i := 1) sc_law.nd rfl (.inl rfl)) (pss_cons (ps_set (i := 2) sc_law.nd rfl (.inr rfl) (C__law_pot.pe (hr.mono (by decide)) (by rfl) (pa_cons (pv 0) (pa_cons (pv 1) (pa_nil))))) (pss_cons (ps_set (i := 3) sc_law.nd rfl (.inl rfl) (pe_op op_add (pe_int) (C__law_digit.pe (hr.mono (by decide)) (by rfl) (pa_cons (pv 2) (pa_cons (pe_int) (pa_nil)))))) (pss_cons (ps_set (i := 4) sc_law.nd rfl (.inl rfl) (pe_op op_add (pe_int) (pe_callTy (r := rIntG) cr_intG (by rfl) bz.int_ (by decide +kernel) (pa_cons (pe_cmpR (r := (rI0 fun i j => .bl (decide (j < i)))) op_gt (pv 3) (pe_int) (nomark _)) (pa_nil))))) (pss_cons (ps_set (i := 5) sc_law.nd rfl (.inr rfl) (C__law_all.pe (hr.mono (by decide)) (by rfl) (pa_cons (pe_op op_add (pv 4) (C__law_digit.pe (hr.mono (by decide)) (by rfl) (pa_cons (pv 2) (pa_cons (pe_op op_sub (pe_int) (pv 4)) (pa_nil))))) (pa_nil)))) (pss_cons (ps_setLc (i := 6) (own := [("_law_s", 8)]) (g := gName 8) (tt := tYes) (te := tBM K "list" rPopAt (tVar 5) (tCons (tCall (Prom K R__law_digit) [] E0 (tCons (tVar 2) (tCons (tCB (rLenG K) (tCons (tVar 5) (tNil))) (tNil)))) (tNil))) (wi := iRng1 (tCons (tVar 3) (tNil))) rfl sc_law.nd rfl rfl (sw_true rfl rfl rfl (by decide +kernel)) (pi_range1 (by rfl) bz.range (pa_cons (pv 3) (pa_nil))) (blkOk_by (N := ["_law_script", "_law_k", "_law_pot_here", "_law_many", "_law_least", "_law_left", "_law_tags", "_law_at", "_law_s"]) (sc := defScope s_law) (by decide +kernel)) (fun _ _ _ _ _ => pg_name (i := 8) sc_law.nd rfl (by first | exact .inl rfl | exact .inr rfl)) (fun _ _ _ _ _ => pts_nil) (fun _ _ _ _ _ => pe_bm PySem.F.plainAttrs_list PySem.F.slot_list_pop PySem.F.type_list_pop mt_popAt (pv 5) (pa_cons (C__law_digit.pe (hr.mono (by decide)) (by rfl) (pa_cons (pv 2) (pa_cons (pe_callB (r := rLenG K) cr_lenG (by rfl) bz.len (by decide +kernel) (pa_cons (pv 5) (pa_nil))) (pa_nil)))) (pa_nil)))) (pss_cons (ps_if (pt_not (pt_val (C__law_right.pe (hr.mono (by decide)) (by rfl) (pa_cons (pv 6) (pa_nil))))) (pss_one (ps_ret (pe_bl))) pss_nil) (pss_cons (ps_set (i := 7) sc_law.nd rfl (.inl rfl) (C__law_digit.pe (hr.mono (by decide)) (by rfl) (pa_cons (pv 2) (pa_cons (pv 3) (pa_nil))))) (pss_cons (ps_if (pt_cmpR (r := (rNeD K)) (op_neD (hu64 hr)) (pv 5) (pe_lst (pa_nil)) (nomark _)) (pss_one (ps_asg (pe_ix (r := rIxL K) ix_list (pv 5) (C__law_digit.pe (hr.mono (by decide)) (by rfl) (pa_cons (pv 2) (pa_cons (pe_callB (r := rLenG K) cr_lenG (by rfl) bz.len (by decide +kernel) (pa_cons (pv 5) (pa_nil))) (pa_nil)))) (fun _ _ => rfl)) (pg_sub (pv 6) (pv 7) set_list))) (pss_nil)) (pss_one (ps_if (pt_not (pt_val (C__law_right.pe (hr.mono (by decide)) (by rfl) (pa_cons (pv 6) (pa_nil))))) (pss_one (ps_ret (pe_bl))) pss_nil))))))))))) (pss_one (ps_ret (pe_bl))), sem_law h (fun _ _ z => z) fun _ _ z => z⟩
theorem ok_law {P : Program} {w : World} {K : Fg} {mg : Str → Option Value} {base : Heap} (bz : Blt mg) {f : Addr} {fd : FuncData} (F0 : Fun K "law" "law" s_law f fd) (g0 : mg "law" = some (.ref f)) (b0 : Binds K fd ["_law_script"] []) (C__law_all : Cal P w K mg base 1 "_law_all" ["_law_size"] R__law_all) (C__law_digit : Cal P w K mg base 1 "_law_digit" ["_law_pot_here", "_law_many"] R__law_digit) (C__law_pot : Cal P w K mg base 2 "_law_pot" ["_law_script", "_law_k"] R__law_pot) (C__law_right : Cal P w K mg base 3 "_law_right" ["_law_tags"] R__law_right) : Cal P w K mg base 4 "law" ["_law_script"] R_law :=
  Cal.mk' (fn_law bz F0 C__law_all C__law_digit C__law_pot C__law_right) g0 F0.kp b0

theorem all_mk {l : PySem.W.OpenLaw} {w : World} {K : PySem.W.Frag} {h : Heap} {mg : Str → Option Value} {fa : Addr} (X : K.In h) (G : h.Ns mainGlobals mg) (hfa : mg "law" = some (.ref fa))
    {f0 : Addr} {od0 an0 : Option Addr} {sl0 : Array (Option Value)} {oc0 kV0 dc0 pm0 cd0 ct0 : Value}
    (a0 : PySem.W.nsIn K mainGlobals "is_parting" = some (some (.ref f0))) (l0 : K.lookup f0 = some ⟨oc0, od0, .func (PySem.W.fnOf "is_parting" "is_parting" (defArgs s_is_parting) (defBody s_is_parting) (defScope s_is_parting) .none kV0 dc0 pm0 an0 cd0 ct0), sl0⟩) (c0 : PySem.W.codeIn K cd0 "is_parting" = true) (k0 : PySem.W.keepIn K (.ref f0) = true)
    {f1 : Addr} {od1 an1 : Option Addr} {sl1 : Array (Option Value)} {oc1 kV1 dc1 pm1 cd1 ct1 : Value}
    (a1 : PySem.W.nsIn K mainGlobals "are_parted" = some (some (.ref f1))) (l1 : K.lookup f1 = some ⟨oc1, od1, .func (PySem.W.fnOf "are_parted" "are_parted" (defArgs s_are_parted) (defBody s_are_parted) (defScope s_are_parted) .none kV1 dc1 pm1 an1 cd1 ct1), sl1⟩) (c1 : PySem.W.codeIn K cd1 "are_parted" = true) (k1 : PySem.W.keepIn K (.ref f1) = true)
    {f2 : Addr} {od2 an2 : Option Addr} {sl2 : Array (Option Value)} {oc2 kV2 dc2 pm2 cd2 ct2 : Value}
    (a2 : PySem.W.nsIn K mainGlobals "_law_cell_at" = some (some (.ref f2))) (l2 : K.lookup f2 = some ⟨oc2, od2, .func (PySem.W.fnOf "_law_cell_at" "_law_cell_at" (defArgs s__law_cell_at) (defBody s__law_cell_at) (defScope s__law_cell_at) .none kV2 dc2 pm2 an2 cd2 ct2), sl2⟩) (c2 : PySem.W.codeIn K cd2 "_law_cell_at" = true) (k2 : PySem.W.keepIn K (.ref f2) = true)
    {f3 : Addr} {od3 an3 : Option Addr} {sl3 : Array (Option Value)} {oc3 kV3 dc3 pm3 cd3 ct3 : Value}
    (a3 : PySem.W.nsIn K mainGlobals "_law_pot" = some (some (.ref f3))) (l3 : K.lookup f3 = some ⟨oc3, od3, .func (PySem.W.fnOf "_law_pot" "_law_pot" (defArgs s__law_pot) (defBody s__law_pot) (defScope s__law_pot) .none kV3 dc3 pm3 an3 cd3 ct3), sl3⟩) (c3 : PySem.W.codeIn K cd3 "_law_pot" = true) (k3 : PySem.W.keepIn K (.ref f3) = true)
    {f4 : Addr} {od4 an4 : Option Addr} {sl4 : Array (Option Value)} {oc4 kV4 dc4 pm4 cd4 ct4 : Value}
    (a4 : PySem.W.nsIn K mainGlobals "_law_digit" = some (some (.ref f4))) (l4 : K.lookup f4 = some ⟨oc4, od4, .func (PySem.W.fnOf "_law_digit" "_law_digit" (defArgs s__law_digit) (defBody s__law_digit) (defScope s__law_digit) .none kV4 dc4 pm4 an4 cd4 ct4), sl4⟩) (c4 : PySem.W.codeIn K cd4 "_law_digit" = true) (k4 : PySem.W.keepIn K (.ref f4) = true)
    {f5 : Addr} {od5 an5 : Option Addr} {sl5 : Array (Option Value)} {oc5 kV5 dc5 pm5 cd5 ct5 : Value}
    (a5 : PySem.W.nsIn K mainGlobals "_law_all" = some (some (.ref f5))) (l5 : K.lookup f5 = some ⟨oc5, od5, .func (PySem.W.fnOf "_law_all" "_law_all" (defArgs s__law_all) (defBody s__law_all) (defScope s__law_all) .none kV5 dc5 pm5 an5 cd5 ct5), sl5⟩) (c5 : PySem.W.codeIn K cd5 "_law_all" = true) (k5 : PySem.W.keepIn K (.ref f5) = true)
    {f6 : Addr} {od6 an6 : Option Addr} {sl6 : Array (Option Value)} {oc6 kV6 dc6 pm6 cd6 ct6 : Value}
    (a6 : PySem.W.nsIn K mainGlobals "_law_is_parted" = some (some (.ref f6))) (l6 : K.lookup f6 = some ⟨oc6, od6, .func (PySem.W.fnOf "_law_is_parted" "_law_is_parted" (defArgs s__law_is_parted) (defBody s__law_is_parted) (defScope s__law_is_parted) .none kV6 dc6 pm6 an6 cd6 ct6), sl6⟩) (c6 : PySem.W.codeIn K cd6 "_law_is_parted" = true) (k6 : PySem.W.keepIn K (.ref f6) = true)
    {f7 : Addr} {od7 an7 : Option Addr} {sl7 : Array (Option Value)} {oc7 kV7 dc7 pm7 cd7 ct7 : Value}
    (a7 : PySem.W.nsIn K mainGlobals "_law_right" = some (some (.ref f7))) (l7 : K.lookup f7 = some ⟨oc7, od7, .func (PySem.W.fnOf "_law_right" "_law_right" (defArgs s__law_right) (defBody s__law_right) (defScope s__law_right) .none kV7 dc7 pm7 an7 cd7 ct7), sl7⟩) (c7 : PySem.W.codeIn K cd7 "_law_right" = true) (k7 : PySem.W.keepIn K (.ref f7) = true)
    {f8 : Addr} {od8 an8 : Option Addr} {sl8 : Array (Option Value)} {oc8 kV8 dc8 pm8 cd8 ct8 : Value}
    (a8 : PySem.W.nsIn K mainGlobals "law" = some (some (.ref f8))) (l8 : K.lookup f8 = some ⟨oc8, od8, .func (PySem.W.fnOf "law" "law" (defArgs s_law) (defBody s_law) (defScope s_law) .none kV8 dc8 pm8 an8 cd8 ct8), sl8⟩) (c8 : PySem.W.codeIn K cd8 "law" = true) (k8 : PySem.W.keepIn K (.ref f8) = true)
    (z0 : PySem.W.nsIn K mainGlobals "abs" = some none)
    (z1 : PySem.W.nsIn K mainGlobals "any" = some none)
    (z2 : PySem.W.nsIn K mainGlobals "bool" = some none)
    (z3 : PySem.W.nsIn K mainGlobals "divmod" = some none)
    (z4 : PySem.W.nsIn K mainGlobals "int" = some none)
    (z5 : PySem.W.nsIn K mainGlobals "isinstance" = some none)
    (z6 : PySem.W.nsIn K mainGlobals "len" = some none)
    (z7 : PySem.W.nsIn K mainGlobals "list" = some none)
    (z8 : PySem.W.nsIn K mainGlobals "max" = some none)
    (z9 : PySem.W.nsIn K mainGlobals "min" = some none)
    (z10 : PySem.W.nsIn K mainGlobals "range" = some none)
    (z11 : PySem.W.nsIn K mainGlobals "sorted" = some none) :
    ∃ fd : FuncData, (∀ (s : Shared) (v : Value), BindsTo s fd ⟨[v], []⟩ [("_law_script", v)]) ∧ ∀ base : Heap, K.In base → base.Ns mainGlobals mg → FnOk l.prog w K mg base CX0 4 fa fd ["_law_script"] (Prom K R_law) := by
  have e := hfa.symm.trans (PySem.W.mg_of X G a8)
  cases e
  have bz : Blt mg := ⟨PySem.W.mg_none_of X G z0, PySem.W.mg_none_of X G z1, PySem.W.mg_none_of X G z2, PySem.W.mg_none_of X G z3, PySem.W.mg_none_of X G z4, PySem.W.mg_none_of X G z5, PySem.W.mg_none_of X G z6, PySem.W.mg_none_of X G z7, PySem.W.mg_none_of X G z8, PySem.W.mg_none_of X G z9, PySem.W.mg_none_of X G z10, PySem.W.mg_none_of X G z11⟩
  have F0 := fun_mk (st := s_is_parting) l0 c0 k0
  have b0 := F0.binds (ps := ["way", "one", "other"]) fun _ _ _ _ _ _ us hl => match us, hl with | [_, _, _], _ => rfl
  have F1 := fun_mk (st := s_are_parted) l1 c1 k1
  have b1 := F1.binds (ps := ["names", "one", "other"]) fun _ _ _ _ _ _ us hl => match us, hl with | [_, _, _], _ => rfl
  have F2 := fun_mk (st := s__law_cell_at) l2 c2 k2
  have b2 := F2.binds (ps := ["_law_script", "_law_k"]) fun _ _ _ _ _ _ us hl => match us, hl with | [_, _], _ => rfl
  have F3 := fun_mk (st := s__law_pot) l3 c3 k3
  have b3 := F3.binds (ps := ["_law_script", "_law_k"]) fun _ _ _ _ _ _ us hl => match us, hl with | [_, _], _ => rfl
  have F4 := fun_mk (st := s__law_digit) l4 c4 k4
  have b4 := F4.binds (ps := ["_law_pot_here", "_law_many"]) fun _ _ _ _ _ _ us hl => match us, hl with | [_, _], _ => rfl
  have F5 := fun_mk (st := s__law_all) l5 c5 k5
  have b5 := F5.binds (ps := ["_law_size"]) fun _ _ _ _ _ _ us hl => match us, hl with | [_], _ => rfl
  have F6 := fun_mk (st := s__law_is_parted) l6 c6 k6
  have b6 := F6.binds (ps := ["_law_tags", "_law_one", "_law_other"]) fun _ _ _ _ _ _ us hl => match us, hl with | [_, _, _], _ => rfl
  have F7 := fun_mk (st := s__law_right) l7 c7 k7
  have b7 := F7.binds (ps := ["_law_tags"]) fun _ _ _ _ _ _ us hl => match us, hl with | [_], _ => rfl
  have F8 := fun_mk (st := s_law) l8 c8 k8
  have b8 := F8.binds (ps := ["_law_script"]) fun _ _ _ _ _ _ us hl => match us, hl with | [_], _ => rfl
  refine ⟨PySem.W.fnOf "law" "law" (defArgs s_law) (defBody s_law) (defScope s_law) .none kV8 dc8 pm8 an8 cd8 ct8, fun s v => .of_eq rfl, fun base _ _ => ?_⟩
  have C0 := ok_is_parting (P := l.prog) (w := w) (base := base) bz F0 (PySem.W.mg_of X G a0) b0
  have C1 := ok_are_parted (P := l.prog) (w := w) (base := base) bz F1 (PySem.W.mg_of X G a1) b1 C0
  have C2 := ok__law_cell_at (P := l.prog) (w := w) (base := base) bz F2 (PySem.W.mg_of X G a2) b2
  have C3 := ok__law_pot (P := l.prog) (w := w) (base := base) bz F3 (PySem.W.mg_of X G a3) b3 C2
  have C4 := ok__law_digit (P := l.prog) (w := w) (base := base) bz F4 (PySem.W.mg_of X G a4) b4
  have C5 := ok__law_all (P := l.prog) (w := w) (base := base) bz F5 (PySem.W.mg_of X G a5) b5
  have C6 := ok__law_is_parted (P := l.prog) (w := w) (base := base) bz F6 (PySem.W.mg_of X G a6) b6
  have C7 := ok__law_right (P := l.prog) (w := w) (base := base) bz F7 (PySem.W.mg_of X G a7) b7 C6 C1
  have C8 := ok_law (P := l.prog) (w := w) (base := base) bz F8 (PySem.W.mg_of X G a8) b8 C5 C4 C3 C7
  exact fn_law bz F8 C5 C4 C3 C7
end W

set_option Elab.async false
set_option linter.all false
set_option maxRecDepth 100000
set_option maxHeartbeats 4000000
namespace W
open PySem L2 G
theorem digit_ok {l : List Int} {many : Int} (h : PotOk l) (h1 : 1 ≤ many) (h2 : many < 1000000) : ∃ p, m__law_digit l many = some p ∧ (0 ≤ p.1 ∧ p.1 < many) ∧ PotOk p.2 := by
  obtain ⟨a, b, rfl, ha, hb, hb2⟩ := h
  unfold m__law_digit
  rw [show atI [a, b] (0 : Int) = some a from rfl, show atI [a, b] (1 : Int) = some b from rfl]
  simp only [Option.bind_some]
  by_cases h0 : 0 < a
  · rw [if_pos (decide_eq_true h0)]
    unfold divmodO
    rw [if_pos ⟨by omega, by omega⟩]
    refine ⟨(a % many, [a / many, b]), rfl, ⟨Int.emod_nonneg _ (by omega), Int.emod_lt_of_pos _ (by omega)⟩, a / many, b, rfl, Int.ediv_nonneg ha (by omega), hb, hb2⟩
  · rw [if_neg (by simpa using h0)]
    have e1 : mulO b 48271 = some (b * 48271) := if_pos (.inr ⟨by decide, by decide⟩)
    have e2 : modO (b * 48271 + 12345) 2147483647 = some ((b * 48271 + 12345) % 2147483647) := if_pos (by decide)
    rw [e1]
    simp only [Option.bind_some]
    rw [e2]
    simp only [Option.bind_some]
    generalize hc : (b * 48271 + 12345) % 2147483647 = c
    have c0 : 0 ≤ c := by omega
    have c1 : c < 2147483647 := by omega
    rw [show setL [a, b] (1 : Int) c = some [a, c] from rfl]
    simp only [Option.bind_some]
    rw [show atI [a, c] (1 : Int) = some c from rfl]
    simp only [Option.bind_some]
    have e3 : mulO c c = some (c * c) := if_pos (.inl ⟨by omega, by omega⟩)
    rw [e3]
    simp only [Option.bind_some]
    have e4 : ∀ x : Int, modO x 2147483629 = some (x % 2147483629) := fun x => if_pos (by decide)
    have e5 : ∀ x : Int, fdivO x 7 = some (x / 7) := fun x => if_pos (by decide)
    have e6 : ∀ x : Int, modO x many = some (x % many) := fun x => if_pos (by omega)
    rw [e4]
    simp only [Option.bind_some]
    rw [e5]
    simp only [Option.bind_some]
    rw [e6]
    exact ⟨_, rfl, ⟨Int.emod_nonneg _ (by omega), Int.emod_lt_of_pos _ (by omega)⟩, a, c, rfl, ha, c0, by omega⟩
theorem pot_ok {ns : List Int} {k : Int} (h0 : 0 ≤ k) (h1 : k < 1000) : ∃ l, m__law_pot ⟨ns⟩ k = some l ∧ PotOk l := by
  have hc : ∃ c, m__law_cell_at ⟨ns⟩ k = some c := by
    unfold m__law_cell_at
    by_cases h : k < (ns.length : Int)
    · rw [if_pos (decide_eq_true h)]
      have : ∃ x, atI ns k = some x := by
        unfold atI L2.ixN
        rw [if_pos h0, if_pos h]
        exact ⟨_, List.getElem?_eq_getElem (by omega)⟩
      obtain ⟨x, hx⟩ := this
      exact ⟨x, by rw [hx]; rfl⟩
    · rw [if_neg (by simpa using h)]
      exact ⟨0, rfl⟩
  obtain ⟨c, hc⟩ := hc
  unfold m__law_pot
  rw [hc]
  simp only [Option.bind_some]
  have e1 : modO (pyAbs c) 2147483629 = some (pyAbs c % 2147483629) := if_pos (by decide)
  have e2 : mulO 977 k = some (977 * k) := if_pos (.inl ⟨by decide, by decide⟩)
  rw [e1]
  simp only [Option.bind_some]
  rw [e2]
  refine ⟨_, rfl, _, _, rfl, ?_, ?_, ?_⟩
  · unfold pyMax
    split <;> omega
  · omega
  · omega
def TagsOk (tags : List (Tup Int)) (n : Nat) : Prop := ∀ t ∈ tags, t.l ∈ allBits n
def col (tags : List (Tup Int)) (p : Nat) : List Int := tags.map fun t => (t.l[p]?).getD 0
def qv (tags : List (Tup Int)) (p : Nat) (a : Nat) : Int := ((col tags p)[a]?).getD 0
theorem qv_at {tags : List (Tup Int)} {p a : Nat} (h : a < tags.length) : atI (col tags p) (a : Int) = some (qv tags p a) := by
  have h' : a < (col tags p).length := by unfold col; simpa using h
  refine atI_of (n := a) ?_ rfl
  unfold qv
  rw [List.getElem?_eq_getElem h']
  rfl
theorem qv_bit {tags : List (Tup Int)} {n p a : Nat} (T : TagsOk tags n) (hp : p < n) (h : a < tags.length) : qv tags p a = 0 ∨ qv tags p a = 1 := by
  unfold qv col
  rw [List.getElem?_map, List.getElem?_eq_getElem h]
  have t := bitsN_of (T _ (List.getElem_mem h))
  have hl : p < (tags[a].l).length := by rw [t.1]; exact hp
  show ((tags[a].l)[p]?).getD 0 = 0 ∨ _
  have := t.2 _ (List.getElem_mem hl)
  rw [show ((tags[a].l)[p]?).getD 0 = (tags[a].l)[p] by rw [List.getElem?_eq_getElem hl]; rfl]
  rcases this with e | e
  · exact .inl e
  · right
    show ((tags[a].l)[p]?).getD 0 = 1
    rw [List.getElem?_eq_getElem hl]
    exact e
theorem tag_at {tags : List (Tup Int)} {n p a : Nat} (T : TagsOk tags n) (hp : p < n) (h : a < tags.length) : m__law_is_parted_c1 tags (p : Int) (a : Int) = some (qv tags p a) := by
  unfold m__law_is_parted_c1
  refine bnd (atI_of (n := a) (List.getElem?_eq_getElem h) rfl) ?_
  have t := bitsN_of (T _ (List.getElem_mem h))
  have hl : p < (tags[a].l).length := by rw [t.1]; exact hp
  refine bnd (atI_of (n := p) (List.getElem?_eq_getElem hl) rfl) ?_
  unfold qv col
  rw [List.getElem?_map, List.getElem?_eq_getElem h]
  show some _ = some (((tags[a].l)[p]?).getD 0)
  rw [List.getElem?_eq_getElem hl]
  rfl
def par4 (x y z w : Int) : Bool := decide (x = y) && (decide (z = w) && !(decide (x = z)))
theorem is_parting_ok {way : List Int} {a b c d : Int} {x y z w : Int} (ha : atI way a = some x) (hb : atI way b = some y) (hc : atI way c = some z) (hd : atI way d = some w) : m_is_parting way ⟨[a, b]⟩ ⟨[c, d]⟩ = some (par4 x y z w) := by
  unfold m_is_parting par4
  have a0 : atI (Tup.mk [a, b]).l (0 : Int) = some a := rfl
  have a1 : atI (Tup.mk [a, b]).l (1 : Int) = some b := rfl
  have c0 : atI (Tup.mk [c, d]).l (0 : Int) = some c := rfl
  have c1 : atI (Tup.mk [c, d]).l (1 : Int) = some d := rfl
  refine bnd (bnd a0 (bnd ha (bnd a1 (bnd hb rfl)))) ?_
  by_cases h1 : x = y
  · rw [if_pos (decide_eq_true h1)]
    rw [decide_eq_true h1, Bool.true_and]
    refine bnd (x := decide (z = w) && !(decide (x = z))) ?_ rfl
    refine bnd (x := decide (z = w)) (bnd c0 (bnd hc (bnd c1 (bnd hd rfl)))) ?_
    refine bnd (x := decide (z = w) && !(decide (x = z))) ?_ rfl
    by_cases h2 : z = w
    · rw [if_pos (decide_eq_true h2), decide_eq_true h2]
      exact bnd a0 (bnd ha (bnd c0 (bnd hc rfl)))
    · rw [if_neg (by simpa using h2), decide_eq_false h2]
      rfl
  · rw [if_neg (by simpa using h1), decide_eq_false h1]
    rfl
theorem are_parted_ok {tags : List (Tup Int)} {n a b c d : Nat} (T : TagsOk tags n) (hn : n < 100) (h0 : 0 < tags.length) (ha : a < tags.length) (hb : b < tags.length) (hc : c < tags.length) (hd : d < tags.length) :
    m_are_parted tags ⟨[(a : Int), (b : Int)]⟩ ⟨[(c : Int), (d : Int)]⟩ = some ((List.range n).any fun p => par4 (qv tags p a) (qv tags p b) (qv tags p c) (qv tags p d)) := by
  unfold m_are_parted
  refine bnd (atI_of (n := 0) (List.getElem?_eq_getElem h0) rfl) ?_
  have t0 := bitsN_of (T _ (List.getElem_mem h0))
  rw [t0.1]
  refine bnd (rangeO_eq (by omega)) ?_
  refine bnd (mapO_some (g := fun i => col tags i.toNat) fun i hi => ?_) ?_
  · obtain ⟨p, hp, e⟩ := List.mem_map.mp hi
    subst e
    have hp := List.mem_range.mp hp
    unfold m_are_parted_c0
    refine bnd (mapO_some (g := fun t => (t.l[p]?).getD 0) fun t ht => ?_) rfl
    unfold m_are_parted_c1
    have hl : p < t.l.length := by rw [(bitsN_of (T _ ht)).1]; exact hp
    refine bnd (atI_of (n := p) (List.getElem?_eq_getElem hl) rfl) ?_
    rw [List.getElem?_eq_getElem hl]
    rfl
  · rw [List.map_map]
    refine bnd (mapO_some (g := fun way => par4 ((way[a]?).getD 0) ((way[b]?).getD 0) ((way[c]?).getD 0) ((way[d]?).getD 0)) fun way hw => ?_) ?_
    · obtain ⟨p, hp, e⟩ := List.mem_map.mp hw
      subst e
      unfold m_are_parted_c2
      exact bnd (is_parting_ok (qv_at ha) (qv_at hb) (qv_at hc) (qv_at hd)) rfl
    · rw [List.map_map, List.any_map]
      rfl
theorem is_parted_ok {tags : List (Tup Int)} {n a b c d : Nat} (T : TagsOk tags n) (hn : n < 100) (h0 : 0 < tags.length) (ha : a < tags.length) (hb : b < tags.length) (hc : c < tags.length) (hd : d < tags.length) :
    m__law_is_parted tags ⟨[(a : Int), (b : Int)]⟩ ⟨[(c : Int), (d : Int)]⟩ = some ((List.range n).any fun p => par4 (qv tags p a) (qv tags p b) (qv tags p c) (qv tags p d)) := by
  unfold m__law_is_parted
  refine bnd (atI_of (n := 0) (List.getElem?_eq_getElem h0) rfl) ?_
  have t0 := bitsN_of (T _ (List.getElem_mem h0))
  rw [t0.1]
  refine bnd (rangeO_eq (by omega)) ?_
  refine bnd (forO_any (c := fun i => par4 (qv tags i.toNat a) (qv tags i.toNat b) (qv tags i.toNat c) (qv tags i.toNat d)) (r := true) fun i hi => ?_) ?_
  · obtain ⟨p, hp, e⟩ := List.mem_map.mp hi
    subst e
    have hp := List.mem_range.mp hp
    unfold m__law_is_parted_l0
    refine bnd (catT_ok (show 2 + 2 ≤ 1000000 by decide)) ?_
    refine bnd (x := [qv tags p a, qv tags p b, qv tags p c, qv tags p d]) ?_ ?_
    · show mapO _ [(a : Int), b, c, d] = _
      unfold mapO
      refine bnd (tag_at T hp ha) ?_
      refine bnd ?_ rfl
      unfold mapO
      refine bnd (tag_at T hp hb) ?_
      refine bnd ?_ rfl
      unfold mapO
      refine bnd (tag_at T hp hc) ?_
      refine bnd ?_ rfl
      unfold mapO
      refine bnd (tag_at T hp hd) ?_
      refine bnd ?_ rfl
      rfl
    · refine bnd (inO_t _ _) ?_
      show _ = some (if par4 (qv tags p a) (qv tags p b) (qv tags p c) (qv tags p d) = true then Out.rt true else Out.nx ())
      have e1 := qv_bit T hp ha
      have e2 := qv_bit T hp hb
      have e3 := qv_bit T hp hc
      have e4 := qv_bit T hp hd
      generalize qv tags p a = x at *
      generalize qv tags p b = y at *
      generalize qv tags p c = z at *
      generalize qv tags p d = w at *
      rcases e1 with e1 | e1 <;> rcases e2 with e2 | e2 <;> rcases e3 with e3 | e3 <;> rcases e4 with e4 | e4 <;> subst e1 <;> subst e2 <;> subst e3 <;> subst e4 <;> rfl
  · rw [List.any_map]
    show _ = some ((List.range n).any ((fun i : Int => par4 (qv tags i.toNat a) (qv tags i.toNat b) (qv tags i.toNat c) (qv tags i.toNat d)) ∘ fun i => (i : Int)))
    cases (List.range n).any _ <;> rfl
def rowsC (m : Nat) : Bool := match foldO (m__law_right_l0 ((List.range m).map fun (i : Nat) => (i : Int))) ((List.range m).map fun (i : Nat) => (i : Int)) [] with
  | some rows => rows.all fun r => match r.l with
    | [a, b] => decide (0 ≤ a ∧ a < m ∧ 0 ≤ b ∧ b < m)
    | _ => false
  | none => false
theorem rows2 : rowsC 2 = true := by decide +kernel
theorem rows3 : rowsC 3 = true := by decide +kernel
theorem rows4 : rowsC 4 = true := by decide +kernel
theorem rows_ok {m : Nat} (h : m = 2 ∨ m = 3 ∨ m = 4) : ∃ rows, foldO (m__law_right_l0 ((List.range m).map fun (i : Nat) => (i : Int))) ((List.range m).map fun (i : Nat) => (i : Int)) [] = some rows ∧ ∀ r ∈ rows, ∃ a b : Nat, a < m ∧ b < m ∧ r = ⟨[(a : Int), (b : Int)]⟩ := by
  have hc : rowsC m = true := by
    rcases h with e | e | e <;> subst e
    · exact rows2
    · exact rows3
    · exact rows4
  unfold rowsC at hc
  split at hc
  · rename_i rows e
    refine ⟨rows, e, fun r hr => ?_⟩
    have q := List.all_eq_true.mp hc r hr
    obtain ⟨l⟩ := r
    dsimp only at q
    split at q
    · rename_i a b
      have q := of_decide_eq_true q
      exact ⟨a.toNat, b.toNat, by omega, by omega, by rw [show ((a.toNat : Nat) : Int) = a by omega, show ((b.toNat : Nat) : Int) = b by omega]⟩
    · cases q
  · cases hc
theorem right_ok {tags : List (Tup Int)} {n : Nat} (T : TagsOk tags n) (hn : n < 100) (h : tags.length = 2 ∨ tags.length = 3 ∨ tags.length = 4) : m__law_right tags = some true := by
  unfold m__law_right
  refine bnd (rangeO_eq (by omega)) ?_
  obtain ⟨rows, er, hr⟩ := rows_ok h
  refine bnd er ?_
  refine bnd (forO_go fun one h1 => ?_) ?_
  · unfold m__law_right_l2
    refine bnd (forO_go fun other h2 => ?_) rfl
    obtain ⟨a, b, ha, hb, e⟩ := hr one h1
    subst e
    obtain ⟨c, d, hc, hd, e⟩ := hr other h2
    subst e
    unfold m__law_right_l3
    refine bnd (are_parted_ok T hn (by omega) ha hb hc hd) ?_
    refine bnd (x := false) ?_ rfl
    rw [if_neg (by decide)]
    refine bnd (is_parted_ok T hn (by omega) ha hb hc hd) ?_
    rw [decide_eq_true rfl]
    rfl
  · refine bnd (eqO_t _ _) ?_
    rw [decide_eq_true rfl]
def allC' (n : Nat) : Option (List (Tup Int)) → Bool
  | some l => decide (l.length = 2 ^ n) && l.all fun t => decide (t.l ∈ allBits n)
  | none => false
theorem allC'_ok {n : Nat} {o : Option (List (Tup Int))} (h : allC' n o = true) : ∃ l, o = some l ∧ l.length = 2 ^ n ∧ TagsOk l n := by
  cases o with
  | none => cases h
  | some l =>
    unfold allC' at h
    rw [Bool.and_eq_true] at h
    exact ⟨l, rfl, of_decide_eq_true h.1, fun t ht => of_decide_eq_true (List.all_eq_true.mp h.2 t ht)⟩
def allC (n : Nat) : Bool := allC' n (m__law_all (n : Int))
theorem all1 : allC 1 = true := by decide +kernel
theorem all2 : allC 2 = true := by decide +kernel
theorem all3 : allC 3 = true := by decide +kernel
theorem all4 : allC 4 = true := by decide +kernel
theorem all_ok {n : Nat} (h : n = 1 ∨ n = 2 ∨ n = 3 ∨ n = 4) : ∃ l, m__law_all (n : Int) = some l ∧ l.length = 2 ^ n ∧ TagsOk l n := by
  have hc : allC n = true := by
    rcases h with e | e | e | e <;> subst e
    · exact all1
    · exact all2
    · exact all3
    · exact all4
  exact allC'_ok hc
theorem pops_ok {n : Nat} : ∀ {xs : List Int} {s : List Int × List (Tup Int)}, PotOk s.1 → TagsOk s.2 n → xs.length ≤ s.2.length → s.2.length < 100 → ∃ q, mapS m_law_c1 xs s = some q ∧ q.1.length = xs.length ∧ TagsOk q.1 n ∧ PotOk q.2.1 ∧ TagsOk q.2.2 n ∧ q.2.2.length + xs.length = s.2.length
  | [], s, hp, hT, _, _ => ⟨([], s), rfl, rfl, (fun _ m => by cases m), hp, hT, rfl⟩
  | x :: xs, s, hp, hT, hl, hs => by
    rw [List.length_cons] at hl
    obtain ⟨p, ep, hp1, hp2⟩ := digit_ok (many := (s.2.length : Int)) hp (by omega) (by omega)
    obtain ⟨y, ey, my, _⟩ := popAt_some (xs := s.2) (i := p.1) hp1.1 hp1.2 (by omega)
    have hle : (s.2.eraseIdx p.1.toNat).length + 1 = s.2.length := by
      rw [List.length_eraseIdx]
      split <;> omega
    obtain ⟨q, eq, lq, T1, P1, T2, l2⟩ := pops_ok (xs := xs) (s := (p.2, s.2.eraseIdx p.1.toNat)) hp2 (fun t ht => hT t (List.mem_of_mem_eraseIdx ht)) (by show _ ≤ (s.2.eraseIdx p.1.toNat).length; omega) (by show (s.2.eraseIdx p.1.toNat).length < _; omega)
    refine ⟨(y :: q.1, q.2), ?_, by simp [lq], fun t ht => ?_, P1, T2, ?_⟩
    · unfold mapS
      refine bnd (x := (y, (p.2, s.2.eraseIdx p.1.toNat))) ?_ ?_
      · unfold m_law_c1
        exact bnd ep (bnd ey rfl)
      · exact bnd eq rfl
    · rcases List.mem_cons.mp ht with e | m
      · rw [e]; exact hT y my
      · exact T1 t m
    · rw [List.length_cons]
      have l2 : q.2.2.length + xs.length = (s.2.eraseIdx p.1.toNat).length := l2
      show q.2.2.length + _ = _
      omega
theorem step_ok (ns : List Int) (k : Int) (h0 : 0 ≤ k) (hk2 : k < 1000) : m_law_l0 ⟨ns⟩ k () = some (.nx ()) := by
  unfold m_law_l0
  obtain ⟨l, el, hl⟩ := pot_ok (ns := ns) h0 hk2
  refine bnd el ?_
  obtain ⟨p, ep, hp, hl⟩ := digit_ok (many := 3) hl (by decide) (by decide)
  refine bnd ep ?_
  refine bnd rfl ?_
  refine bnd rfl ?_
  have hb : 0 ≤ b2z (decide ((2 : Int) < 2 + p.1)) ∧ b2z (decide ((2 : Int) < 2 + p.1)) ≤ 1 ∧ (2 + p.1 ≤ 2 ∨ b2z (decide ((2 : Int) < 2 + p.1)) = 1) := by
    by_cases h : (2 : Int) < 2 + p.1
    · rw [decide_eq_true h]; exact ⟨by decide, by decide, .inr rfl⟩
    · rw [decide_eq_false h]; exact ⟨by decide, by decide, .inl (by omega)⟩
  generalize b2z (decide ((2 : Int) < 2 + p.1)) = e at *
  obtain ⟨r, er, hr, hl⟩ := digit_ok (many := 5 - (1 + e)) hl (by omega) (by omega)
  refine bnd er ?_
  obtain ⟨n, hn, hn2⟩ : ∃ n : Nat, (n : Int) = 1 + e + r.1 ∧ (n = 1 ∨ n = 2 ∨ n = 3 ∨ n = 4) := ⟨(1 + e + r.1).toNat, by omega, by omega⟩
  rw [← hn]
  obtain ⟨all, ea, la, Ta⟩ := all_ok hn2
  refine bnd ea ?_
  obtain ⟨xs, ex, lx⟩ := rangeO_some (n := 2 + p.1) (by omega) (by omega)
  refine bnd ex ?_
  have hsz : xs.length ≤ all.length ∧ all.length < 100 := by
    rw [la, lx]
    rcases hn2 with e | e | e | e <;> subst e <;> omega
  obtain ⟨q, eq, lq, T1, P1, T2, l2⟩ := pops_ok (xs := xs) (s := (r.2, all)) hl Ta hsz.1 hsz.2
  refine bnd eq ?_
  have hq : q.1.length = 2 ∨ q.1.length = 3 ∨ q.1.length = 4 := by omega
  refine bnd (right_ok T1 (by omega) hq) ?_
  rw [if_neg (by decide)]
  obtain ⟨u, eu, hu, hl⟩ := digit_ok (many := 2 + p.1) P1 (by omega) (by omega)
  refine bnd eu ?_
  have hj : ∃ j : List Int × List (Tup Int), ((eqO q.2.2 ([] : List (Tup Int))).bind fun c33 => if (!c33) = true then (m__law_digit u.2 (List.length q.2.2 : Int)).bind fun r35 => (atI q.2.2 r35.1).bind fun x38 => (setL q.1 u.1 x38).bind fun x39 => some (r35.2, x39) else some (u.2, q.1)) = some j ∧ TagsOk j.2 n ∧ j.2.length = q.1.length := by
    rw [eqO_t]
    show ∃ j, (if (!(decide (q.2.2 = []))) = true then _ else _) = _ ∧ _
    by_cases h : q.2.2 = []
    · rw [decide_eq_true h, if_neg (by decide)]
      exact ⟨_, rfl, T1, rfl⟩
    · rw [decide_eq_false h, if_pos (by decide)]
      have hpos := List.length_pos_iff.mpr h
      have hq2 : q.2.2.length + xs.length = all.length := l2
      obtain ⟨d, ed, hd, hl⟩ := digit_ok (many := (q.2.2.length : Int)) hl (by omega) (by omega)
      obtain ⟨y, ey, my, _⟩ := atI_mem (xs := q.2.2) hd.1 hd.2
      have es := setL_some (xs := q.1) (i := u.1) (x := y) hu.1 (by omega)
      refine ⟨(d.2, q.1.set u.1.toNat y), bnd ed (bnd ey (bnd es rfl)), fun t ht => ?_, by simp⟩
      rcases List.mem_or_eq_of_mem_set ht with m | m
      · exact T1 t m
      · rw [m]; exact T2 y my
  obtain ⟨j, ej, Tj, lj⟩ := hj
  refine bnd ej ?_
  refine bnd (right_ok Tj (by omega) (by rw [lj]; exact hq)) ?_
  rfl
theorem law_true (ns : List Int) (hl : ns.length ≤ 63) : m_law ⟨ns⟩ = some true := by
  unfold m_law
  have hb := most ns.length hl 6 (by decide)
  obtain ⟨xs, ex, _⟩ := rangeO_some (n := pyMax 1 (pyMin (ns.length : Int) 6)) hb.1 (by omega)
  refine bnd ex ?_
  refine bnd (forO_go fun k hk => ?_) rfl
  have hk' := mem_rangeO ex hk
  exact step_ok ns k hk'.1 (by omega)
end W

open PySem PySem.W PyProof.Rows
set_option maxHeartbeats 0 in
theorem PySem.Challenge.cw_relayholds_k62_parted_holds : PySem.Challenge.rw_relayholds_k62_parted.Holds := by
  w_on; o_law; k_head; (case hw => w_witness2)
  k_fill
  refine L2.walk_of (l := PySem.Challenge.rw_relayholds_k62_parted) (n := 63) (k := 4) (x := "_law_script") (CX := fun _ => L2.CX0) (sp := fun w => G.Prom _ W.R_law) rfl (by decide) rfl ⟨rfl, by decide, by decide⟩ (fun w h Y => PySem.W.kIn_of Y) ?F (fun _ _ a ns hl _ hS => G.law_end (W.R_law.mk _ (W.law_true ns hl)) hl hS) (fun _ _ _ _ _ h => h)
  case F =>
    intro w mg fa h KX G hmg
    refine' W.all_mk KX G hmg ?a0 ?l0 ?c0 ?k0 ?a1 ?l1 ?c1 ?k1 ?a2 ?l2 ?c2 ?k2 ?a3 ?l3 ?c3 ?k3 ?a4 ?l4 ?c4 ?k4 ?a5 ?l5 ?c5 ?k5 ?a6 ?l6 ?c6 ?k6 ?a7 ?l7 ?c7 ?k7 ?a8 ?l8 ?c8 ?k8 ?z0 ?z1 ?z2 ?z3 ?z4 ?z5 ?z6 ?z7 ?z8 ?z9 ?z10 ?z11
    (case a0 => k_is)
    (case l0 => k_is)
    (case c0 => k_is)
    (case k0 => k_is)
    (case a1 => k_is)
    (case l1 => k_is)
    (case c1 => k_is)
    (case k1 => k_is)
    (case a2 => k_is)
    (case l2 => k_is)
    (case c2 => k_is)
    (case k2 => k_is)
    (case a3 => k_is)
    (case l3 => k_is)
    (case c3 => k_is)
    (case k3 => k_is)
    (case a4 => k_is)
    (case l4 => k_is)
    (case c4 => k_is)
    (case k4 => k_is)
    (case a5 => k_is)
    (case l5 => k_is)
    (case c5 => k_is)
    (case k5 => k_is)
    (case a6 => k_is)
    (case l6 => k_is)
    (case c6 => k_is)
    (case k6 => k_is)
    (case a7 => k_is)
    (case l7 => k_is)
    (case c7 => k_is)
    (case k7 => k_is)
    (case a8 => k_is)
    (case l8 => k_is)
    (case c8 => k_is)
    (case k8 => k_is)
    (case z0 => k_is)
    (case z1 => k_is)
    (case z2 => k_is)
    (case z3 => k_is)
    (case z4 => k_is)
    (case z5 => k_is)
    (case z6 => k_is)
    (case z7 => k_is)
    (case z8 => k_is)
    (case z9 => k_is)
    (case z10 => k_is)
    (case z11 => k_is)

