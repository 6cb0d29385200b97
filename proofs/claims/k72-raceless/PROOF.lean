import PyProof.Rows.All
import Wide.All
import OpenK.AllK
import Wide.FinOn
import HandS.ForMost
import HandS.TupAny
import HandS.Zip
import HandS.Wide
import HandS.WideBits
import HandS.IsInst
import HandS.TupSets
import HandS.Deep
import HandS.Conv
import KE.GoesEnum
import KE.SortData
import PyProof.ReprRoads
import PyProof.ReprLen
import HandS.TryOnly
import HandS.SetFor
import HandS.Strs
import HandS.Style
import PySem.Challenge.RW_relayholds_k72_whole_raceless_names
set_option Elab.async false
set_option linter.all false
set_option maxRecDepth 100000
set_option maxHeartbeats 4000000
/-! G0: what a value stands for, by types; the state of a def's body by slots. -/
namespace G
open PySem PySem.Spec PyProof.Rows L2

abbrev Fg := PySem.W.Frag
def Ex (H H' : Hp) : Prop := ∀ a o, H a = some o → H' a = some o
theorem Ex.refl (H : Hp) : Ex H H := fun _ _ h => h
theorem Ex.trans {H H1 H2 : Hp} (a : Ex H H1) (b : Ex H1 H2) : Ex H H2 := fun x o h => b x o (a x o h)
theorem Ex.new {H : Hp} {p : Addr} {o : HO} (h : H p = none) : Ex H (upd H p o) := fun a u e => by
  rw [upd_ne (ne_of_none e h)]
  exact e
theorem ex_rd {H H' : Hp} {a : Addr} {u : HO} (e : Ex H H') (h : Rd H a u) : Rd H' a u := by
  rcases h with h | ⟨o, h⟩
  · exact Or.inl (e a _ h)
  · exact Or.inr ⟨o, e a _ h⟩
theorem ex_l {K : Fg} {H H' : Hp} {a : Addr} {xs : List V} (e : Ex H H') (h : SqL K H a xs) : SqL K H' a xs := by
  rcases h with h | h
  · exact Or.inl (ex_rd e h)
  · exact Or.inr h
theorem ex_t {K : Fg} {H H' : Hp} {a : Addr} {xs : List V} (e : Ex H H') (h : SqT K H a xs) : SqT K H' a xs := by
  rcases h with h | h
  · exact Or.inl (ex_rd e h)
  · exact Or.inr h
theorem fresh_back {H H' : Hp} {p : Addr} (e : Ex H H') (h : H' p = none) : H p = none := by
  cases h1 : H p with
  | none => rfl
  | some o =>
    rw [e p o h1] at h
    cases h

/-- a tuple that stands, or is written -/
def TupAt (K : Fg) (H : Hp) (a : Addr) (xs : List V) : Prop :=
  H a = some (.tup xs) ∨ ∃ (o : Obj) (its : Array Value) (n : Nat), K.lookup a = some o ∧ o.cls = .type "tuple" ∧ o.data = .seq its n ∧ its.size ≤ sizeLine ∧ Vals xs its.toList
theorem TupAt.sq {K : Fg} {H : Hp} {a : Addr} {xs : List V} (h : TupAt K H a xs) : SqT K H a xs := by
  rcases h with h | h
  · exact .inl (.inl h)
  · exact .inr h
theorem TupAt.mono {K : Fg} {H H' : Hp} {a : Addr} {xs : List V} (e : Ex H H') (h : TupAt K H a xs) : TupAt K H' a xs := by
  rcases h with h | h
  · exact .inl (e _ _ h)
  · exact .inr h
theorem TupAt.ty {K : Fg} {H : Hp} {a : Addr} {xs : List V} (h : TupAt K H a xs) : TyX K H (.ref a) (.type "tuple") := by
  rcases h with h | ⟨o, its, n, h1, h2, _⟩
  · exact .base (.tup h)
  · exact .kTuple h1 h2

/-! ### typed representation -/
class Rp (α : Type) where
  rp : Fg → Hp → V → α → Prop
  mono : ∀ {K : Fg} {F F' : Hp} {v : V} {x : α}, Ex F F' → rp K F v x → rp K F' v x
open Rp (rp)

instance : Rp Int := ⟨fun _ _ v x => v = .int x, fun _ h => h⟩
instance : Rp Bool := ⟨fun _ _ v x => v = .bl x, fun _ h => h⟩
instance : Rp Str := ⟨fun _ _ v x => v = .str x, fun _ h => h⟩
instance : Rp Unit := ⟨fun _ _ v _ => v = .non, fun _ h => h⟩
theorem paired_mono {α : Type} [Rp α] {K : Fg} {F F' : Hp} {vs : List V} {xs : List α} (e : Ex F F') (h : Paired (rp K F) vs xs) : Paired (rp K F') vs xs :=
  Paired.mapP h fun _ _ => Rp.mono e
/-- a tuple of things of one kind -/
structure Tup (α : Type) where
  l : List α
deriving DecidableEq, Inhabited
instance {α : Type} [Rp α] : Rp (Tup α) := ⟨fun K F v x => ∃ a vs, v = .ref a ∧ TupAt K F a vs ∧ vs.length ≤ sizeLine ∧ Paired (rp K F) vs x.l,
  fun e ⟨a, vs, h1, h2, h3, h4⟩ => ⟨a, vs, h1, h2.mono e, h3, paired_mono e h4⟩⟩
/-- a list of things of one kind -/
instance {α : Type} [Rp α] : Rp (List α) := ⟨fun K F v x => ∃ a vs, v = .ref a ∧ F a = some (.lst vs) ∧ vs.length ≤ sizeLine ∧ Paired (rp K F) vs x,
  fun e ⟨a, vs, h1, h2, h3, h4⟩ => ⟨a, vs, h1, e _ _ h2, h3, paired_mono e h4⟩⟩
/-- a pair -/
instance {α β : Type} [Rp α] [Rp β] : Rp (α × β) := ⟨fun K F u x => ∃ a v w, u = .ref a ∧ TupAt K F a [v, w] ∧ rp K F v x.1 ∧ rp K F w x.2,
  fun e ⟨a, v, w, h1, h2, h3, h4⟩ => ⟨a, v, w, h1, h2.mono e, Rp.mono e h3, Rp.mono e h4⟩⟩
/-- none, or a thing that isn't none -/
instance {α : Type} [Rp α] : Rp (Option α) := ⟨fun K F v x => match x with
    | none => v = .non
    | some y => v ≠ .non ∧ rp K F v y,
  fun {K F F' v x} e h => match x, h with
    | none, h => h
    | some _, h => ⟨h.1, Rp.mono e h.2⟩⟩
/-- the script -/
structure Scr where
  l : List Int
instance : Rp Scr := ⟨fun K F v x => ∃ a, v = .ref a ∧ SqL K F a (x.l.map V.int) ∧ x.l.length ≤ 63, fun e ⟨a, h1, h2, h3⟩ => ⟨a, h1, ex_l e h2, h3⟩⟩

/-! ### what is owned: an object of the body's own, that may change -/
class Ow (α : Type) where
  ow : Fg → Hp → HO → α → Prop
  omono : ∀ {K : Fg} {F F' : Hp} {o : HO} {x : α}, Ex F F' → ow K F o x → ow K F' o x
open Ow (ow)
instance {α : Type} [Rp α] : Ow (List α) := ⟨fun K F o x => ∃ vs, o = .lst vs ∧ vs.length ≤ sizeLine ∧ Paired (rp K F) vs x,
  fun e ⟨vs, h1, h2, h3⟩ => ⟨vs, h1, h2, paired_mono e h3⟩⟩

/-! ### shapes of what is owned: one object, or a tree of them; G: where its parts stand -/
structure Sh (α : Type) where
  G : Type
  root : G → V
  ads : G → List Addr
  ok : Fg → Hp → Hp → G → α → Prop
  mono : ∀ {K : Fg} {F F' H H' : Hp} {g : G} {x : α}, Ex F F' → (∀ a ∈ ads g, H' a = H a) → ok K F H g x → ok K F' H' g x
  tr : ∀ {K : Fg} {F H : Hp} {g : G} {x : α}, ok K F H g x → ∀ a ∈ ads g, ∃ ob, H a = some ob
/-- one object -/
abbrev flat (α : Type) [Ow α] : Sh α where
  G := Addr
  root := V.ref
  ads a := [a]
  ok K F H a x := ∃ ob, H a = some ob ∧ ow K F ob x
  mono := fun e k ⟨ob, h1, h2⟩ => ⟨ob, (k _ (List.mem_cons_self ..)).trans h1, Ow.omono e h2⟩
  tr := fun ⟨ob, h1, _⟩ b m => ⟨ob, by rw [List.mem_singleton.mp m]; exact h1⟩
/-! ### slots -/
inductive Slot : Type 1
  | any
  | un
  | fz {α : Type} [Rp α] (x : α)
  | tree {α : Type} (s : Sh α) (g : s.G) (x : α)
abbrev Slot.own {α : Type} [Ow α] (a : Addr) (x : α) : Slot := .tree (flat α) a x
def SlotOk (K : Fg) (F H : Hp) (o : Option V) : Slot → Prop
  | .any => True
  | .un => o = none
  | @Slot.fz _ i x => ∃ v, o = some v ∧ i.rp K F v x
  | .tree s g x => o = some (s.root g) ∧ (∀ a ∈ s.ads g, F a = none) ∧ s.ok K F H g x
def Slots (K : Fg) (F H : Hp) : List (Option V) → List Slot → Prop
  | [], [] => True
  | o :: w, s :: M => SlotOk K F H o s ∧ Slots K F H w M
  | _, _ => False
def owns : List Slot → List Addr
  | [] => []
  | .tree s g _ :: M => s.ads g ++ owns M
  | .any :: M => owns M
  | .un :: M => owns M
  | @Slot.fz _ _ _ :: M => owns M
structure Base where
  F : Hp
  H : Hp
  may : List Addr
structure St (K : Fg) (B : Base) (F H : Hp) (w : List (Option V)) (M : List Slot) : Prop where
  fh : Ex F H
  f0 : Ex B.F F
  nf : ∀ a, B.H a ≠ none → F a = B.F a
  h0 : ∀ a o, B.H a = some o → a ∉ B.may → H a = some o
  tr : ∀ a, B.H a ≠ none → H a ≠ none
  ok : Slots K F H w M
  nd : (owns M).Nodup
  bo : ∀ a ∈ owns M, B.H a = none ∨ a ∈ B.may

section
variable {K : Fg} {B : Base} {F H F' H' : Hp} {w : List (Option V)} {M : List Slot} {o : Option V} {s : Slot}
theorem own_ok {α : Type} [Ow α] {a : Addr} {x : α} : SlotOk K F H o (.own a x) ↔ o = some (.ref a) ∧ F a = none ∧ ∃ ob, H a = some ob ∧ ow K F ob x :=
  ⟨fun ⟨h1, h2, h3⟩ => ⟨h1, h2 a (List.mem_singleton.mpr rfl), h3⟩, fun ⟨h1, h2, h3⟩ => ⟨h1, fun b m => by rw [List.mem_singleton.mp m]; exact h2, h3⟩⟩
/-- what stands in slots, the heap being another one: the frozen part has grown, the owned ones are as they were -/
theorem SlotOk.move (e1 : Ex F F') (k : ∀ a ∈ owns [s], H' a = H a ∧ F' a = none) (h : SlotOk K F H o s) : SlotOk K F' H' o s := by
  cases s with
  | any => trivial
  | un => exact h
  | fz x =>
    obtain ⟨v, h1, h2⟩ := h
    exact ⟨v, h1, Rp.mono e1 h2⟩
  | tree s g x =>
    have k : ∀ a ∈ s.ads g, H' a = H a ∧ F' a = none := fun a m => k a (List.mem_append_left _ m)
    exact ⟨h.1, fun a m => (k a m).2, s.mono e1 (fun a m => (k a m).1) h.2.2⟩
theorem owns_cons (s : Slot) (M : List Slot) : owns (s :: M) = owns [s] ++ owns M := by
  cases s with
  | any => rfl
  | un => rfl
  | fz x => rfl
  | tree s g x => show s.ads g ++ owns M = (s.ads g ++ []) ++ owns M; rw [List.append_nil]
theorem Slots.move : ∀ {w : List (Option V)} {M : List Slot}, Slots K F H w M → Ex F F' → (∀ a ∈ owns M, H' a = H a ∧ F' a = none) → Slots K F' H' w M
  | [], [], _, _, _ => trivial
  | _ :: _, s :: M, h, e, k => ⟨h.1.move e fun a m => k a (by rw [owns_cons]; exact List.mem_append_left _ m), Slots.move h.2 e fun a m => k a (by rw [owns_cons]; exact List.mem_append_right _ m)⟩
  | [], _ :: _, h, _, _ => h
  | _ :: _, [], h, _, _ => h
theorem owns_tr : ∀ {w : List (Option V)} {M : List Slot}, Slots K F H w M → ∀ a ∈ owns M, F a = none ∧ ∃ ob, H a = some ob
  | [], [], _, _, m => by cases m
  | o :: w, s :: M, h, a, m => by
    rw [owns_cons] at m
    rcases List.mem_append.mp m with m | m
    · cases s with
      | any => cases m
      | un => cases m
      | fz x => cases m
      | tree s g x =>
        have m : a ∈ s.ads g ++ [] := m
        rw [List.append_nil] at m
        exact ⟨h.1.2.1 a m, s.tr h.1.2.2 a m⟩
    · exact owns_tr h.2 a m
  | [], _ :: _, h, _, _ => h.elim
  | _ :: _, [], h, _, _ => h.elim
theorem SlotOk.step (e1 : Ex F F') (e2 : Ex H H') (nf : ∀ a, H a ≠ none → F' a = F a) (h : SlotOk K F H o s) : SlotOk K F' H' o s :=
  h.move e1 fun a m => by
    obtain ⟨h1, ob, h2⟩ := owns_tr (w := [o]) (M := [s]) ⟨h, trivial⟩ a m
    exact ⟨by rw [h2]; exact e2 _ _ h2, by rw [nf a (by rw [h2]; simp)]; exact h1⟩
theorem Slots.step (e1 : Ex F F') (e2 : Ex H H') (nf : ∀ a, H a ≠ none → F' a = F a) : ∀ {w : List (Option V)} {M : List Slot}, Slots K F H w M → Slots K F' H' w M
  | [], [], _ => trivial
  | _ :: _, _ :: _, h => ⟨h.1.step e1 e2 nf, Slots.step e1 e2 nf h.2⟩
  | [], _ :: _, h => h
  | _ :: _, [], h => h
/-- the heap has grown -/
theorem St.step (h : St K B F H w M) (e1 : Ex F F') (e2 : Ex H H') (e3 : Ex F' H') (nf : ∀ a, H a ≠ none → F' a = F a) : St K B F' H' w M where
  fh := e3
  f0 := h.f0.trans e1
  nf := fun a z => (nf a (h.tr a z)).trans (h.nf a z)
  h0 := fun a o z m => e2 _ _ (h.h0 a o z m)
  tr := fun a z y => by
    cases q : H a with
    | none => exact h.tr a z q
    | some o => rw [e2 _ _ q] at y; cases y
  ok := h.ok.step e1 e2 nf
  nd := h.nd
  bo := h.bo
theorem upd_frz {p : Addr} {ob : HO} (hp : H p = none) : ∀ a, H a ≠ none → upd F p ob a = F a := fun a z => upd_ne fun e => z (e ▸ hp)
theorem ex_both {p : Addr} {ob : HO} (e : Ex F H) : Ex (upd F p ob) (upd H p ob) := fun a u z => by
  by_cases q : a = p
  · subst q
    rw [upd_same] at z ⊢
    exact z
  · rw [upd_ne q] at z ⊢
    exact e _ _ z
/-- a new frozen object -/
theorem St.newF (h : St K B F H w M) {p : Addr} {ob : HO} (hp : H p = none) : St K B (upd F p ob) (upd H p ob) w M :=
  h.step (Ex.new (fresh_back h.fh hp)) (Ex.new hp) (ex_both h.fh) (upd_frz hp)
/-- a new object that isn't frozen -/
theorem St.newO (h : St K B F H w M) {p : Addr} {ob : HO} (hp : H p = none) : St K B F (upd H p ob) w M :=
  h.step (Ex.refl F) (Ex.new hp) (h.fh.trans (Ex.new hp)) fun _ _ => rfl
theorem St.push (h : St K B F H w M) {v : V} {α : Type} [Rp α] {x : α} (hx : rp K F v x) : St K B F H (some v :: w) (.fz x :: M) where
  fh := h.fh
  f0 := h.f0
  nf := h.nf
  h0 := h.h0
  tr := h.tr
  ok := ⟨⟨v, rfl, hx⟩, h.ok⟩
  nd := h.nd
  bo := h.bo
theorem St.pushAny (h : St K B F H w M) (o : Option V) : St K B F H (o :: w) (.any :: M) where
  fh := h.fh
  f0 := h.f0
  nf := h.nf
  h0 := h.h0
  tr := h.tr
  ok := ⟨trivial, h.ok⟩
  nd := h.nd
  bo := h.bo
theorem St.own_tracked (h : St K B F H w M) : ∀ a ∈ owns M, F a = none ∧ ∃ ob, H a = some ob := owns_tr h.ok
/-- a fresh object, owned -/
theorem St.pushO (h : St K B F H w M) {α : Type} [Ow α] {x : α} {p : Addr} {ob : HO} (hp : H p = none) (hx : ow K F ob x) : St K B F (upd H p ob) (some (.ref p) :: w) (.own p x :: M) := by
  have g := h.newO (ob := ob) hp
  refine ⟨g.fh, g.f0, g.nf, g.h0, g.tr, ⟨own_ok.mpr ⟨rfl, fresh_back h.fh hp, ob, upd_same, hx⟩, g.ok⟩, List.nodup_cons.mpr ⟨fun m => ?_, g.nd⟩, fun a m => ?_⟩
  · obtain ⟨_, ob', z⟩ := h.own_tracked p m
    rw [hp] at z
    cases z
  · rcases List.mem_cons.mp m with e | m
    · left
      rw [e]
      cases q : B.H p with
      | none => rfl
      | some u => exact absurd hp (h.tr p (by rw [q]; simp))
    · exact h.bo a m
theorem owns_tail {s : Slot} {M : List Slot} {a : Addr} (m : a ∈ owns M) : a ∈ owns (s :: M) := by
  rw [owns_cons]
  exact List.mem_append_right _ m
theorem owns_nd {s : Slot} {M : List Slot} (h : (owns (s :: M)).Nodup) : (owns M).Nodup := by
  rw [owns_cons] at h
  exact (List.nodup_append.mp h).2.1
theorem St.pop (h : St K B F H (o :: w) (s :: M)) : St K B F H w M :=
  ⟨h.fh, h.f0, h.nf, h.h0, h.tr, h.ok.2, owns_nd h.nd, fun a m => h.bo a (owns_tail m)⟩
theorem Slots.at : ∀ {w : List (Option V)} {M : List Slot} {i : Nat} {s : Slot}, Slots K F H w M → M[i]? = some s → ∃ o, w[i]? = some o ∧ SlotOk K F H o s
  | [], [], _, _, _, e => by simp at e
  | o :: _, t :: _, 0, _, h, e => by
    simp at e
    subst e
    exact ⟨o, rfl, h.1⟩
  | _ :: _, _ :: _, i + 1, _, h, e => by
    obtain ⟨o, h1, h2⟩ := Slots.at (i := i) h.2 (by simpa using e)
    exact ⟨o, by simpa using h1, h2⟩
  | [], _ :: _, _, _, h, _ => h.elim
  | _ :: _, [], _, _, h, _ => h.elim
/-- what stands in a slot -/
theorem St.fz (h : St K B F H w M) (i : Nat) {α : Type} [Rp α] {x : α} {v : V} (hM : M[i]? = some (.fz x)) (hw : w[i]? = some (some v)) : rp K F v x := by
  obtain ⟨o, h1, v', h2, h3⟩ := h.ok.at hM
  rw [hw] at h1
  cases h1
  cases h2
  exact h3
theorem St.fzE (h : St K B F H w M) (i : Nat) {α : Type} [Rp α] {x : α} (hM : M[i]? = some (.fz x)) : ∃ v, w[i]? = some (some v) ∧ rp K F v x := by
  obtain ⟨o, h1, v', h2, h3⟩ := h.ok.at hM
  subst h2
  exact ⟨v', h1, h3⟩
theorem St.own (h : St K B F H w M) (i : Nat) {α : Type} [Ow α] {x : α} {a : Addr} (hM : M[i]? = some (.own a x)) : w[i]? = some (some (.ref a)) ∧ F a = none ∧ ∃ ob, H a = some ob ∧ Ow.ow K F ob x := by
  obtain ⟨o, h1, hs⟩ := h.ok.at hM
  obtain ⟨h2, h3, h4⟩ := own_ok.mp hs
  subst h2
  exact ⟨h1, h3, h4⟩
/-- slot by slot weaker -/
def Wk : List Slot → List Slot → Prop
  | [], [] => True
  | s :: M, s' :: M' => (s' = .any ∨ s' = s) ∧ Wk M M'
  | _, _ => False
theorem Slots.weak : ∀ {w : List (Option V)} {M M' : List Slot}, Slots K F H w M → Wk M M' → Slots K F H w M'
  | [], [], [], _, _ => trivial
  | _ :: _, _ :: _, _ :: _, h, k => ⟨by
      rcases k.1 with e | e
      · rw [e]; trivial
      · rw [e]; exact h.1, Slots.weak h.2 k.2⟩
  | [], [], _ :: _, _, k => k.elim
  | [], _ :: _, _, h, _ => h.elim
  | _ :: _, [], _, h, _ => h.elim
  | _ :: _, _ :: _, [], _, k => k.elim
theorem owns_weak : ∀ {M M' : List Slot}, Wk M M' → (owns M').Sublist (owns M)
  | [], [], _ => .slnil
  | s :: M, s' :: M', k => by
    have ih := owns_weak (M := M) (M' := M') k.2
    rw [owns_cons s, owns_cons s']
    rcases k.1 with e | e
    · subst e
      exact ih.trans (List.sublist_append_right ..)
    · subst e
      exact (List.Sublist.refl _).append ih
  | [], _ :: _, k => k.elim
  | _ :: _, [], k => k.elim
theorem St.weak {M' : List Slot} (h : St K B F H w M) (k : Wk M M') : St K B F H w M' :=
  ⟨h.fh, h.f0, h.nf, h.h0, h.tr, h.ok.weak k, (owns_weak k).nodup h.nd, fun a m => h.bo a ((owns_weak k).subset m)⟩
theorem Slots.set : ∀ {w : List (Option V)} {M : List Slot} (i : Nat) {o : Option V} {s : Slot}, Slots K F H w M → SlotOk K F H o s → Slots K F H (w.set i o) (M.set i s)
  | [], [], _, _, _, _, _ => trivial
  | _ :: _, _ :: _, 0, _, _, h, k => ⟨k, h.2⟩
  | _ :: _, _ :: _, i + 1, _, _, h, k => ⟨h.1, Slots.set i h.2 k⟩
  | [], _ :: _, _, _, _, h, _ => h.elim
  | _ :: _, [], _, _, _, h, _ => h.elim
theorem owns_setF : ∀ {M : List Slot} (i : Nat) {s : Slot}, owns [s] = [] → (owns (M.set i s)).Sublist (owns M)
  | [], _, _, _ => .slnil
  | t :: M, 0, s, e => by
    show (owns (s :: M)).Sublist _
    rw [owns_cons s, owns_cons t, e]
    exact List.sublist_append_right ..
  | t :: M, i + 1, s, e => by
    have ih := owns_setF (M := M) i e
    show (owns (t :: M.set i s)).Sublist _
    rw [owns_cons t, owns_cons t M]
    exact (List.Sublist.refl _).append ih
/-- a name is set to what stands on the pile -/
theorem St.setF (h : St K B F H w M) (i : Nat) {α : Type} [Rp α] {x : α} {v : V} (hx : rp K F v x) : St K B F H (w.set i (some v)) (M.set i (.fz x)) :=
  ⟨h.fh, h.f0, h.nf, h.h0, h.tr, h.ok.set i ⟨v, rfl, hx⟩, (owns_setF i rfl).nodup h.nd, fun a m => h.bo a ((owns_setF i rfl).subset m)⟩
theorem St.setAny (h : St K B F H w M) (i : Nat) (o : Option V) : St K B F H (w.set i o) (M.set i .any) :=
  ⟨h.fh, h.f0, h.nf, h.h0, h.tr, h.ok.set i trivial, (owns_setF i rfl).nodup h.nd, fun a m => h.bo a ((owns_setF i rfl).subset m)⟩
end
end G

set_option Elab.async false
set_option linter.all false
set_option maxRecDepth 100000
set_option maxHeartbeats 4000000
/-! G1: names, tests, loops, comprehensions over the state of slots. -/
namespace G
open PySem PySem.Spec PyProof.Rows L2
open Rp (rp)
open Ow (ow)

section
variable {K : Fg} {B : Base} {F H : Hp} {w : List (Option V)} {σ : L2.St} {M : List Slot} {Q : VK}
theorem drop_at {n k : Nat} (hw : w.drop n = σ) : σ[k]? = w[n + k]? := by
  rw [← hw, List.getElem?_drop]
/-! ### names -/
theorem S_var {α : Type} [Rp α] {x : α} (n : Nat) {k : Nat} (h : St K B F H w M) (hw : w.drop n = σ) (hM : M[n + k]? = some (.fz x)) (q : ∀ v, St K B F H (some v :: w) (.fz x :: M) → Q v H) : tVar k σ H Q := by
  obtain ⟨v, h1, h2⟩ := h.fzE (n + k) hM
  exact ⟨v, by rw [drop_at hw]; exact h1, q v (h.push h2)⟩
theorem S_varI {x : Int} (n : Nat) {k : Nat} (h : St K B F H w M) (hw : w.drop n = σ) (hM : M[n + k]? = some (.fz x)) (q : Q (.int x) H) : tVar k σ H Q := by
  obtain ⟨v, h1, h2⟩ := h.fzE (n + k) hM
  have e : v = .int x := h2
  subst e
  exact ⟨_, by rw [drop_at hw]; exact h1, q⟩
theorem S_varB {x : Bool} (n : Nat) {k : Nat} (h : St K B F H w M) (hw : w.drop n = σ) (hM : M[n + k]? = some (.fz x)) (q : Q (.bl x) H) : tVar k σ H Q := by
  obtain ⟨v, h1, h2⟩ := h.fzE (n + k) hM
  have e : v = .bl x := h2
  subst e
  exact ⟨_, by rw [drop_at hw]; exact h1, q⟩
theorem S_varS {x : Str} (n : Nat) {k : Nat} (h : St K B F H w M) (hw : w.drop n = σ) (hM : M[n + k]? = some (.fz x)) (q : Q (.str x) H) : tVar k σ H Q := by
  obtain ⟨v, h1, h2⟩ := h.fzE (n + k) hM
  have e : v = .str x := h2
  subst e
  exact ⟨_, by rw [drop_at hw]; exact h1, q⟩
theorem S_varO {α : Type} [Ow α] {x : α} {a : Addr} (n : Nat) {k : Nat} (h : St K B F H w M) (hw : w.drop n = σ) (hM : M[n + k]? = some (.own a x)) (q : Q (.ref a) H) : tVar k σ H Q := by
  obtain ⟨h1, _⟩ := h.own (n + k) hM
  exact ⟨_, by rw [drop_at hw]; exact h1, q⟩
end

/-! ### partial things -/
theorem ob {α β : Type} {m : Option α} {f : α → Option β} {y : β} (h : m.bind f = some y) : ∃ x, m = some x ∧ f x = some y := by
  cases m with
  | none => cases h
  | some x => exact ⟨x, rfl, h⟩
theorem oite {α : Type} {c : Bool} {a b : Option α} {y : α} (h : (if c = true then a else b) = some y) : (c = true ∧ a = some y) ∨ (c = false ∧ b = some y) := by
  cases c with
  | true => exact .inl ⟨rfl, h⟩
  | false => exact .inr ⟨rfl, h⟩
theorem S_ite {ρ : Type} {c : Bool} {a b : Option ρ} {y : ρ} {P1 P2 : Prop} (hm : (if c = true then a else b) = some y) (h1 : c = true → a = some y → P1) (h2 : c = false → b = some y → P2) : if c = true then P1 else P2 := by
  cases c with
  | true => exact h1 rfl hm
  | false => exact h2 rfl hm
theorem S_iteP {c : Bool} {P1 P2 : Prop} (h1 : c = true → P1) (h2 : c = false → P2) : if c = true then P1 else P2 := by
  cases c with
  | true => exact h1 rfl
  | false => exact h2 rfl
def guardO (c : Bool) : Option Unit := if c then some () else none
theorem guardO_some {c : Bool} {u : Unit} (h : guardO c = some u) : c = true := by
  cases c with
  | true => rfl
  | false => cases h

/-! ### what a loop walks -/
/-- a list that is to be read: frozen, or one's own -/
def ViewL {α : Type} [Rp α] (K : Fg) (F H : Hp) (v : V) (xs : List α) : Prop := ∃ a vs, v = .ref a ∧ H a = some (.lst vs) ∧ vs.length ≤ sizeLine ∧ Paired (rp K F) vs xs
section
variable {K : Fg} {B : Base} {F H : Hp} {w : List (Option V)} {M : List Slot} {α : Type} [Rp α]
theorem view_fz {v : V} {xs : List α} (e : Ex F H) (h : rp K F v xs) : ViewL K F H v xs := by
  obtain ⟨a, vs, h1, h2, h3, h4⟩ := h
  exact ⟨a, vs, h1, e _ _ h2, h3, h4⟩
theorem St.vF (h : St K B F H w M) (i : Nat) {xs : List α} {v : V} (hM : M[i]? = some (.fz xs)) (hw : w[i]? = some (some v)) : ViewL K F H v xs := view_fz h.fh (h.fz i hM hw)
theorem St.vO (h : St K B F H w M) (i : Nat) {xs : List α} {a : Addr} (hM : M[i]? = some (.own a xs)) : ViewL K F H (.ref a) xs := by
  obtain ⟨_, _, ob, h1, vs, rfl, h3, h4⟩ := h.own i hM
  exact ⟨a, vs, rfl, h1, h3, h4⟩
end
/-- under P the iterator J yields ys, one behind another -/
def Yields {β : Type} [Rp β] (K : Fg) (J : It) (P : Hp → Hp → Prop) (ys : List β) : Prop :=
  ∀ i F H, P F H → Ex F H → (i = ys.length → J.stop i H) ∧
    ∀ y, ys[i]? = some y → J.go i H ∧ ∀ v H', J.yld i H v H' → ∃ F', Ex F F' ∧ Ex F' H' ∧ Ex H H' ∧ (∀ a, H a ≠ none → F' a = F a) ∧ rp K F' v y
theorem Paired.at {α β : Type} {R : α → β → Prop} : ∀ {xs : List α} {ys : List β} {i : Nat} {y : β}, Paired R xs ys → ys[i]? = some y → ∃ x, xs[i]? = some x ∧ R x y
  | _, _, _, _, .nil, e => by simp at e
  | _, _, 0, y, .cons r _, e => by
    simp at e
    subst e
    exact ⟨_, rfl, r⟩
  | _, _, i + 1, y, .cons _ t, e => by
    obtain ⟨x, h1, h2⟩ := Paired.at (i := i) t (by simpa using e)
    exact ⟨x, by simpa using h1, h2⟩
section
variable {K : Fg} {α : Type} [Rp α]
/-- a list, frozen or one's own -/
theorem yields_list (a : Addr) (xs : List α) : Yields K (Itl K a) (fun F H => ViewL K F H (.ref a) xs) xs := fun i F H p e => by
  obtain ⟨a', vs, h1, h2, h3, hq⟩ := p
  cases h1
  have hL : SqL K H a vs := .inl (.inl h2)
  have hl : vs.length = xs.length := Paired.length hq
  refine ⟨fun hi => ⟨vs, hL, by omega⟩, fun y hyi => ?_⟩
  obtain ⟨v, g1, g2⟩ := Paired.at hq hyi
  refine ⟨⟨vs, v, hL, g1⟩, fun v' H' z => ?_⟩
  obtain ⟨e1, e2⟩ := z
  subst e1
  have e2 := e2 vs hL
  rw [g1] at e2
  cases e2
  exact ⟨F, Ex.refl F, e, Ex.refl _, fun _ _ => rfl, g2⟩
/-- a frozen tuple -/
theorem yields_tup (a : Addr) (xs : Tup α) : Yields K (Itt K a) (fun F _ => rp K F (.ref a) xs) xs.l := fun i F H p e => by
  obtain ⟨a', vs, h1, h2, h3, hq⟩ := p
  cases h1
  have hL : SqT K H a vs := ex_t e h2.sq
  have hl : vs.length = xs.l.length := Paired.length hq
  refine ⟨fun hi => ⟨vs, hL, by omega⟩, fun y hyi => ?_⟩
  obtain ⟨v, g1, g2⟩ := Paired.at hq hyi
  refine ⟨⟨vs, v, hL, g1⟩, fun v' H' z => ?_⟩
  obtain ⟨e1, e2⟩ := z
  subst e1
  have e2 := e2 vs hL
  rw [g1] at e2
  cases e2
  exact ⟨F, Ex.refl F, e, Ex.refl _, fun _ _ => rfl, g2⟩
end
theorem yields_range {K : Fg} (lo : Int) (n : Nat) : Yields K (Itr lo n) (fun _ _ => True) ((List.range n).map fun (i : Nat) => lo + (i : Int)) := fun i F H _ e => by
  refine ⟨fun hi => ?_, fun y hy => ?_⟩
  · have : i = n := by simpa using hi
    have : n ≤ i := by omega
    exact this
  · rw [List.getElem?_map] at hy
    have hi : i < n := by
      have := hy
      rcases Nat.lt_or_ge i n with h | h
      · exact h
      · rw [List.getElem?_eq_none (by simpa using h)] at this
        cases this
    rw [List.getElem?_range hi] at hy
    have ey : lo + (i : Int) = y := Option.some.inj hy
    refine ⟨hi, fun v H' z => ?_⟩
    obtain ⟨e1, e2⟩ := z
    subst e1
    exact ⟨F, Ex.refl F, e, Ex.refl _, fun _ _ => rfl, by rw [← ey]; exact e2⟩
theorem getElem?_zip {α β : Type} : ∀ (xs : List α) (ys : List β) (i : Nat) (p : α × β), (xs.zip ys)[i]? = some p → xs[i]? = some p.1 ∧ ys[i]? = some p.2
  | [], _, _, _, h => by simp at h
  | _ :: _, [], _, _, h => by simp at h
  | x :: xs, y :: ys, 0, p, h => by
    simp at h
    subst h
    exact ⟨rfl, rfl⟩
  | x :: xs, y :: ys, i + 1, p, h => by
    have := getElem?_zip xs ys i p (by simpa using h)
    exact ⟨by simpa using this.1, by simpa using this.2⟩
section
variable {K : Fg} {α β : Type} [Rp α] [Rp β]
theorem pair_new {F H H' : Hp} {T : Addr} {v u v' : V} {y : α × β} (e : Ex F H) (e1 : v' = .ref T) (e2 : H T = none) (e3 : H' = upd H T (.tup [v, u])) (h2 : rp K F v y.1) (h4 : rp K F u y.2) :
    ∃ F', Ex F F' ∧ Ex F' H' ∧ Ex H H' ∧ (∀ a, H a ≠ none → F' a = F a) ∧ rp K F' v' y := by
  subst e1 e3
  have en : Ex F (upd F T (.tup [v, u])) := Ex.new (fresh_back e e2)
  exact ⟨upd F T (.tup [v, u]), en, ex_both e, Ex.new e2, upd_frz e2, T, v, u, rfl, .inl upd_same, Rp.mono en h2, Rp.mono en h4⟩
theorem yields_zipT (a b : Addr) (xs : Tup α) (ys : Tup β) : Yields K (RZ.ItzT K a b) (fun F _ => rp K F (.ref a) xs ∧ rp K F (.ref b) ys) (xs.l.zip ys.l) := fun i F H p e => by
  obtain ⟨⟨a', vs, h1, h2, h3, hq⟩, b', us, k1, k2, k3, kq⟩ := p
  cases h1
  cases k1
  have hL : SqT K H a vs := ex_t e h2.sq
  have kL : SqT K H b us := ex_t e k2.sq
  have hl : vs.length = xs.l.length := Paired.length hq
  have kl : us.length = ys.l.length := Paired.length kq
  refine ⟨fun hi => ⟨vs, us, hL, kL, by rw [List.length_zip] at hi; omega⟩, fun y hyi => ?_⟩
  obtain ⟨g1, g2⟩ := getElem?_zip xs.l ys.l i y hyi
  obtain ⟨v, q1, q2⟩ := Paired.at hq g1
  obtain ⟨u, q3, q4⟩ := Paired.at kq g2
  refine ⟨⟨vs, us, v, u, hL, kL, q1, q3⟩, fun v' H' z => ?_⟩
  obtain ⟨T, x, z', e1, e2, e3, e4, e5⟩ := z
  have e4 := e4 vs hL
  have e5 := e5 us kL
  rw [q1] at e4
  rw [q3] at e5
  cases e4
  cases e5
  exact pair_new e e1 e2 e3 q2 q4
theorem yields_zipL (a b : Addr) (xs : List α) (ys : List β) : Yields K (Itz K a b) (fun F H => ViewL K F H (.ref a) xs ∧ ViewL K F H (.ref b) ys) (xs.zip ys) := fun i F H p e => by
  obtain ⟨⟨a', vs, h1, h2, h3, hq⟩, b', us, k1, k2, k3, kq⟩ := p
  cases h1
  cases k1
  have hL : SqL K H a vs := .inl (.inl h2)
  have kL : SqL K H b us := .inl (.inl k2)
  have hl : vs.length = xs.length := Paired.length hq
  have kl : us.length = ys.length := Paired.length kq
  refine ⟨fun hi => ⟨vs, us, hL, kL, by rw [List.length_zip] at hi; omega⟩, fun y hyi => ?_⟩
  obtain ⟨g1, g2⟩ := getElem?_zip xs ys i y hyi
  obtain ⟨v, q1, q2⟩ := Paired.at hq g1
  obtain ⟨u, q3, q4⟩ := Paired.at kq g2
  refine ⟨⟨vs, us, v, u, hL, kL, q1, q3⟩, fun v' H' z => ?_⟩
  obtain ⟨T, x, z', e1, e2, e3, e4, e5⟩ := z
  have e4 := e4 vs hL
  have e5 := e5 us kL
  rw [q1] at e4
  rw [q3] at e5
  cases e4
  cases e5
  exact pair_new e e1 e2 e3 q2 q4
def enumFrom {α : Type} (i : Nat) : List α → List (Int × α)
  | [] => []
  | x :: xs => ((i : Int), x) :: enumFrom (i + 1) xs
theorem enumFrom_len {α : Type} : ∀ (xs : List α) (i : Nat), (enumFrom i xs).length = xs.length
  | [], _ => rfl
  | _ :: xs, i => by show (enumFrom (i + 1) xs).length + 1 = xs.length + 1; rw [enumFrom_len xs (i + 1)]
theorem enumFrom_at {α : Type} : ∀ (xs : List α) (j i : Nat) (y : Int × α), (enumFrom j xs)[i]? = some y → y.1 = ((j + i : Nat) : Int) ∧ xs[i]? = some y.2
  | [], _, _, _, h => by simp [enumFrom] at h
  | x :: xs, j, 0, y, h => by
    have e : ((j : Int), x) = y := Option.some.inj h
    subst e
    exact ⟨rfl, rfl⟩
  | x :: xs, j, i + 1, y, h => by
    obtain ⟨h1, h2⟩ := enumFrom_at xs (j + 1) i y (by simpa [enumFrom] using h)
    exact ⟨by rw [h1]; congr 1; omega, by simpa using h2⟩
theorem yields_enum (a : Addr) (xs : List α) : Yields K (Ite K a) (fun F H => ViewL K F H (.ref a) xs) (enumFrom 0 xs) := fun i F H p e => by
  obtain ⟨a', vs, h1, h2, h3, hq⟩ := p
  cases h1
  have hL : SqL K H a vs := .inl (.inl h2)
  have hl : vs.length = xs.length := Paired.length hq
  refine ⟨fun hi => ⟨vs, hL, by rw [enumFrom_len] at hi; omega⟩, fun y hyi => ?_⟩
  obtain ⟨g1, g2⟩ := enumFrom_at xs 0 i y hyi
  obtain ⟨v, q1, q2⟩ := Paired.at hq g2
  refine ⟨⟨vs, v, hL, q1⟩, fun v' H' z => ?_⟩
  obtain ⟨T, x, e1, e2, e3, e4⟩ := z
  have e4 := e4 vs hL
  rw [q1] at e4
  cases e4
  exact pair_new e e1 e2 e3 (by rw [g1]; show V.int _ = V.int _; congr 1; omega) q2
end

/-! ### loops -/
inductive Out (τ ρ : Type) where
  | nx (s : τ) | rt (r : ρ) | bk (s : τ)
def forO {α τ ρ : Type} (b : α → τ → Option (Out τ ρ)) : List α → τ → Option (Out τ ρ)
  | [], s => some (.nx s)
  | x :: xs, s => match b x s with
    | none => none
    | some (.nx s') => forO b xs s'
    | some (.rt r) => some (.rt r)
    | some (.bk s') => some (.nx s')
def foldO {α τ : Type} (b : α → τ → Option τ) : List α → τ → Option τ
  | [], s => some s
  | x :: xs, s => (b x s).bind fun s' => foldO b xs s'
/-- the goal of a for, its iterator come -/
def ForG (J : It) (g : TG) (tb : TS) (D : Ends) (σ : L2.St) (H1 : Hp) : Prop := ∃ W : Nat → Nat → L2.St → Hp → Prop, (∃ m, W 0 m σ H1) ∧ ∀ i m σ H, W i m σ H →
  (J.stop i H ∧ D.nx σ H) ∨ (J.go i H ∧ ∃ N : L2.St → Hp → Prop, (∀ σ' H', N σ' H' → ∃ m', m' < m ∧ W (i + 1) m' σ' H') ∧ ∀ x H', J.yld i H x H' → g x σ H' fun σ2 H2 => tb { D with nx := N, ct := N, bk := D.nx } σ2 H2)
section
variable {K : Fg} {B : Base} {F H : Hp} {σ : L2.St} {ts : List (Option V)} {TM : List Slot} {β τ ρ : Type} [Rp β] {J : It} {P : Hp → Hp → Prop} {ys : List β} {g : TG} {tb : TS} {D : Ends}
theorem drop_cons {xs : List β} {i : Nat} (hi : i < xs.length) : xs.drop i = xs[i] :: xs.drop (i + 1) := List.drop_eq_getElem_cons hi
theorem S_fold (Mf : τ → List Slot) {b : β → τ → Option τ} {s0 s1 : τ} (Y : Yields K J P ys) (hm : foldO b ys s0 = some s1) (h : St K B F H (ts ++ σ) (TM ++ Mf s0))
    (hP : ∀ s σ F H, St K B F H (ts ++ σ) (TM ++ Mf s) → P F H)
    (body : ∀ (i : Nat) (x : β) (s s' : τ) v σ F H (D' : Ends), ys[i]? = some x → b x s = some s' → St K B F H (some v :: (ts ++ σ)) (.fz x :: (TM ++ Mf s)) → (∀ σ' F' H', St K B F' H' (ts ++ σ') (TM ++ Mf s') → D'.nx σ' H') → g v σ H fun σ2 H2 => tb D' σ2 H2)
    (hend : ∀ σ F H, St K B F H (ts ++ σ) (TM ++ Mf s1) → D.nx σ H) : ForG J g tb D σ H := by
  refine ⟨fun i m σ H => m = ys.length - i ∧ i ≤ ys.length ∧ ∃ F s, St K B F H (ts ++ σ) (TM ++ Mf s) ∧ foldO b (ys.drop i) s = some s1, ⟨ys.length, by omega, Nat.zero_le _, F, s0, h, hm⟩, ?_⟩
  rintro i m σ H ⟨rfl, hi, F, s, h, hm⟩
  have Yi := Y i F H (hP s σ F H h) h.fh
  by_cases hlt : i < ys.length
  · have hx : ys[i]? = some ys[i] := List.getElem?_eq_getElem hlt
    obtain ⟨go, yl⟩ := Yi.2 _ hx
    rw [drop_cons hlt] at hm
    obtain ⟨s', hs', hm'⟩ := ob hm
    refine .inr ⟨go, fun σ' H' => ∃ F', St K B F' H' (ts ++ σ') (TM ++ Mf s'), fun σ' H' ⟨F', h'⟩ => ⟨ys.length - (i + 1), by omega, rfl, hlt, F', s', h', hm'⟩, fun v H' y => ?_⟩
    obtain ⟨F', e1, e2, e3, e4, e5⟩ := yl v H' y
    exact body i _ s s' v σ F' H' _ hx hs' ((h.step e1 e3 e2 e4).push e5) fun σ' F'' H'' h'' => ⟨F'', h''⟩
  · have e : i = ys.length := by omega
    subst e
    rw [List.drop_length] at hm
    have es : s = s1 := Option.some.inj hm
    subst es
    exact .inl ⟨Yi.1 rfl, hend σ F H h⟩
theorem S_forO (Mf : τ → List Slot) {b : β → τ → Option (Out τ ρ)} {s0 : τ} {o : Out τ ρ} {R : ρ → V → Hp → Prop} (Y : Yields K J P ys) (hm : forO b ys s0 = some o) (h : St K B F H (ts ++ σ) (TM ++ Mf s0))
    (hP : ∀ s σ F H, St K B F H (ts ++ σ) (TM ++ Mf s) → P F H)
    (body : ∀ (i : Nat) (x : β) (s : τ) o' v σ F H (D' : Ends), ys[i]? = some x → b x s = some o' → St K B F H (some v :: (ts ++ σ)) (.fz x :: (TM ++ Mf s)) →
      (∀ s' σ' F' H', o' = .nx s' → St K B F' H' (ts ++ σ') (TM ++ Mf s') → D'.nx σ' H') → (∀ s' σ' F' H', o' = .nx s' → St K B F' H' (ts ++ σ') (TM ++ Mf s') → D'.ct σ' H') →
      (∀ s' σ' F' H', o' = .bk s' → St K B F' H' (ts ++ σ') (TM ++ Mf s') → D'.bk σ' H') → (∀ r u H', o' = .rt r → R r u H' → D'.rt u H') → g v σ H fun σ2 H2 => tb D' σ2 H2)
    (hend : ∀ s1 σ F H, o = .nx s1 → St K B F H (ts ++ σ) (TM ++ Mf s1) → D.nx σ H) (hrt : ∀ r u H', o = .rt r → R r u H' → D.rt u H') : ForG J g tb D σ H := by
  refine ⟨fun i m σ H => m = ys.length - i ∧ i ≤ ys.length ∧ ∃ F s, St K B F H (ts ++ σ) (TM ++ Mf s) ∧ forO b (ys.drop i) s = some o, ⟨ys.length, by omega, Nat.zero_le _, F, s0, h, hm⟩, ?_⟩
  rintro i m σ H ⟨rfl, hi, F, s, h, hm⟩
  have Yi := Y i F H (hP s σ F H h) h.fh
  by_cases hlt : i < ys.length
  · have hx : ys[i]? = some ys[i] := List.getElem?_eq_getElem hlt
    obtain ⟨go, yl⟩ := Yi.2 _ hx
    rw [drop_cons hlt] at hm
    unfold forO at hm
    cases hb : b ys[i] s with
    | none => rw [hb] at hm; cases hm
    | some o' =>
      rw [hb] at hm
      refine .inr ⟨go, fun σ' H' => ∃ F' s', o' = .nx s' ∧ St K B F' H' (ts ++ σ') (TM ++ Mf s'), fun σ' H' ⟨F', s', eo, h'⟩ => ⟨ys.length - (i + 1), by omega, rfl, hlt, F', s', h', by subst eo; exact hm⟩, fun v H' y => ?_⟩
      obtain ⟨F', e1, e2, e3, e4, e5⟩ := yl v H' y
      exact body i _ s o' v σ F' H' _ hx hb ((h.step e1 e3 e2 e4).push e5) (fun s' σ' F'' H'' eo h'' => ⟨F'', s', eo, h''⟩) (fun s' σ' F'' H'' eo h'' => ⟨F'', s', eo, h''⟩)
        (fun s' σ' F'' H'' eo h'' => hend s' σ' F'' H'' (by subst eo; exact (Option.some.inj hm).symm) h'') (fun r u H'' eo q => hrt r u H'' (by subst eo; exact (Option.some.inj hm).symm) q)
  · have e : i = ys.length := by omega
    subst e
    rw [List.drop_length] at hm
    exact .inl ⟨Yi.1 rfl, hend s σ F H (Option.some.inj hm).symm h⟩
end

/-! ### comprehensions -/
def compS {α β τ : Type} (f : α → τ → Option (Option β × τ)) : List α → τ → Option (List β × τ)
  | [], s => some ([], s)
  | x :: xs, s => (f x s).bind fun p => (compS f xs p.2).bind fun q => some (p.1.toList ++ q.1, q.2)
def mapO {α β : Type} (f : α → Option β) : List α → Option (List β)
  | [] => some []
  | x :: xs => (f x).bind fun y => (mapO f xs).bind fun ys => some (y :: ys)
def selO {α β : Type} (p : α → Option Bool) (f : α → Option β) : List α → Option (List β)
  | [] => some []
  | x :: xs => (p x).bind fun c => if c = true then (f x).bind fun y => (selO p f xs).bind fun ys => some (y :: ys) else selO p f xs
def mapS {α β τ : Type} (f : α → τ → Option (β × τ)) : List α → τ → Option (List β × τ)
  | [], s => some ([], s)
  | x :: xs, s => (f x s).bind fun p => (mapS f xs p.2).bind fun q => some (p.1 :: q.1, q.2)
theorem compS_map {α β : Type} (f : α → Option β) : ∀ xs : List α, compS (τ := Unit) (fun x s => (f x).bind fun y => some (some y, s)) xs () = (mapO f xs).bind fun ys => some (ys, ())
  | [] => rfl
  | x :: xs => by
    have ih := compS_map f xs
    show ((f x).bind fun y => some (some y, ())).bind _ = ((f x).bind _).bind _
    cases f x with
    | none => rfl
    | some y =>
      show (compS _ xs ()).bind _ = ((mapO f xs).bind _).bind _
      rw [ih]
      cases mapO f xs <;> rfl
theorem compS_sel {α β : Type} (p : α → Option Bool) (f : α → Option β) : ∀ xs : List α, compS (τ := Unit) (fun x s => (p x).bind fun c => if c = true then (f x).bind fun y => some (some y, s) else some (none, s)) xs () = (selO p f xs).bind fun ys => some (ys, ())
  | [] => rfl
  | x :: xs => by
    have ih := compS_sel p f xs
    show ((p x).bind _).bind _ = ((p x).bind _).bind _
    cases p x with
    | none => rfl
    | some c =>
      cases c with
      | false =>
        show (compS _ xs ()).bind _ = (selO p f xs).bind _
        rw [ih]
        cases selO p f xs <;> rfl
      | true =>
        show ((f x).bind fun y => some (some y, ())).bind _ = ((f x).bind _).bind _
        cases f x with
        | none => rfl
        | some y =>
          show (compS _ xs ()).bind _ = ((selO p f xs).bind _).bind _
          rw [ih]
          cases selO p f xs <;> rfl
theorem compS_mapS {α β τ : Type} (f : α → τ → Option (β × τ)) : ∀ (xs : List α) (s : τ), compS (fun x s => (f x s).bind fun p => some (some p.1, p.2)) xs s = mapS f xs s
  | [], _ => rfl
  | x :: xs, s => by
    show ((f x s).bind fun p => some (some p.1, p.2)).bind _ = (f x s).bind _
    cases f x s with
    | none => rfl
    | some p =>
      show (compS _ xs p.2).bind _ = (mapS f xs p.2).bind _
      rw [compS_mapS f xs p.2]
      rfl
/-- the goal of a comprehension, its iterator come -/
def LcG (J : It) (g : TG) (tt : TT) (te : TE) (vs : List Nat) (σ : L2.St) (H1 : Hp) (Q : VK) : Prop := ∀ D, H1 D = none → ∃ W : Nat → Nat → Hp → Prop, (∃ m, W 0 m (upd H1 D (.lst []))) ∧ ∀ i m H, W i m H →
  (J.stop i H ∧ Q (.ref D) H) ∨ (J.go i H ∧ ∃ Nx : Hp → Prop, (∀ H', Nx H' → ∃ m', m' < m ∧ W (i + 1) m' H') ∧ ∀ x H', J.yld i H x H' → g x (wipe σ vs) H' fun σ2 H2 => wipe σ2 vs = wipe σ vs ∧ tt σ2 H2 fun b H3 =>
    if b = true then te σ2 H3 fun y H4 => ∃ acc, H4 D = some (.lst acc) ∧ acc.length < sizeLine ∧ Nx (upd H4 D (.lst (acc ++ [y]))) else Nx H3)
/-- what the element's value goes to -/
def LcE (D : Addr) (Nx : Hp → Prop) : VK := fun y H4 => ∃ acc, H4 D = some (.lst acc) ∧ acc.length < sizeLine ∧ Nx (upd H4 D (.lst (acc ++ [y])))
section
variable {K : Fg} {B : Base} {F H : Hp} {w w' : List (Option V)} {M : List Slot}
theorem Slots.rew : ∀ {w w' : List (Option V)} {M : List Slot}, Slots K F H w M → w'.length = w.length → (∀ i : Nat, M[i]? = some Slot.any ∨ w'[i]? = w[i]?) → Slots K F H w' M
  | [], [], [], _, _, _ => trivial
  | o :: w, o' :: w', s :: M, h, hl, k => by
    refine ⟨?_, Slots.rew h.2 (by simpa using hl) fun i => by have := k (i + 1); simpa using this⟩
    have k0 := k 0
    simp at k0
    rcases k0 with e | e
    · rw [e]; trivial
    · rw [e]; exact h.1
  | [], _ :: _, _, _, hl, _ => by simp at hl
  | _ :: _, [], _, _, hl, _ => by simp at hl
  | [], [], _ :: _, h, _, _ => h.elim
  | _ :: _, _ :: _, [], h, _, _ => h.elim
theorem St.rew (h : St K B F H w M) (hl : w'.length = w.length) (k : ∀ i : Nat, M[i]? = some Slot.any ∨ w'[i]? = w[i]?) : St K B F H w' M :=
  ⟨h.fh, h.f0, h.nf, h.h0, h.tr, h.ok.rew hl k, h.nd, h.bo⟩
theorem wipe_at (σ : L2.St) : ∀ (vs : List Nat) (i : Nat), i ∉ vs → (wipe σ vs)[i]? = σ[i]?
  | [], _, _ => rfl
  | v :: vs, i, h => by
    unfold wipe
    rw [List.getElem?_set_ne (fun e => h (by rw [e]; exact List.mem_cons_self ..)), wipe_at σ vs i (fun m => h (List.mem_cons_of_mem _ m))]
/-- slots that a comprehension's names may have -/
def Free (M : List Slot) : List Nat → Prop
  | [] => True
  | v :: vs => M[v]? = some .any ∧ Free M vs
theorem Free.at {M : List Slot} : ∀ {vs : List Nat} {i : Nat}, Free M vs → i ∈ vs → M[i]? = some .any
  | v :: vs, i, h, m => by
    rcases List.mem_cons.mp m with e | m
    · rw [e]; exact h.1
    · exact Free.at h.2 m
  | [], _, _, m => by cases m
theorem wipe_rew {ts : List (Option V)} {TM : List Slot} {σ : L2.St} {vs : List Nat} (hTM : TM.length = ts.length) (hf : Free M vs) (i : Nat) : (TM ++ M)[i]? = some .any ∨ (ts ++ wipe σ vs)[i]? = (ts ++ σ)[i]? := by
  by_cases hi : i < ts.length
  · right
    rw [List.getElem?_append_left hi, List.getElem?_append_left hi]
  · have hi' : ts.length ≤ i := by omega
    by_cases hm : i - ts.length ∈ vs
    · left
      rw [List.getElem?_append_right (by omega), hTM]
      exact hf.at hm
    · right
      rw [List.getElem?_append_right hi', List.getElem?_append_right hi', wipe_at σ vs _ hm]
end
theorem slots_len {K : Fg} {F H : Hp} : ∀ {w : List (Option V)} {M : List Slot}, Slots K F H w M → M.length = w.length
  | [], [], _ => rfl
  | _ :: _, _ :: _, h => by simp [slots_len h.2]
  | [], _ :: _, h => h.elim
  | _ :: _, [], h => h.elim
section
variable {K : Fg} {B : Base} {F H : Hp} {σ : L2.St} {ts : List (Option V)} {TM : List Slot} {β γ τ : Type} [Rp β] [Rp γ] {J : It} {P : Hp → Hp → Prop} {ys : List β} {g : TG} {tt : TT} {te : TE} {vs : List Nat} {Q : VK}
theorem paired_snoc {α β : Type} {R : α → β → Prop} {a : α} {b : β} (r : R a b) : ∀ {xs : List α} {ys : List β}, Paired R xs ys → Paired R (xs ++ [a]) (ys ++ [b])
  | _, _, .nil => .cons r .nil
  | _, _, .cons q t => .cons q (paired_snoc r t)
/-- an object of one's own that is in no slot changes -/
theorem upd_out {D : Addr} {ob : HO} {M : List Slot} (fo : ∀ a ∈ owns M, F a = none) (no : D ∉ owns M) : ∀ a ∈ owns M, upd H D ob a = H a ∧ F a = none := fun a m => ⟨upd_ne fun e => no (by rw [← e]; exact m), fo a m⟩
theorem Slots.fo {w : List (Option V)} {M : List Slot} (h : Slots K F H w M) : ∀ a ∈ owns M, F a = none := fun a m => (owns_tr h a m).1
theorem St.hid {w : List (Option V)} {M : List Slot} {D : Addr} {ob : HO} (h : St K B F H w M) (fr : F D = none) (b : B.H D = none) (no : D ∉ owns M) : St K B F (upd H D ob) w M where
  fh := fun a o e => by
    rw [upd_ne (ne_of_none e fr)]
    exact h.fh a o e
  f0 := h.f0
  nf := h.nf
  h0 := fun a o e m => by
    rw [upd_ne (ne_of_none e b)]
    exact h.h0 a o e m
  tr := fun a z => by
    by_cases q : a = D
    · subst q
      exact absurd b z
    · rw [upd_ne q]
      exact h.tr a z
  ok := h.ok.move (Ex.refl F) (upd_out h.ok.fo no)
  nd := h.nd
  bo := h.bo
theorem St.mutO {w : List (Option V)} {M : List Slot} {α : Type} [Ow α] {x y : α} {D : Addr} {o : Option V} {ob : HO} (h : St K B F H (o :: w) (.own D x :: M)) (hy : Ow.ow K F ob y) : St K B F (upd H D ob) (o :: w) (.own D y :: M) := by
  obtain ⟨h1, h2, ob', h3, h4⟩ := own_ok.mp h.ok.1
  have nd := List.nodup_cons.mp h.nd
  refine ⟨fun a u e => ?_, h.f0, h.nf, fun a u e m => ?_, fun a z => ?_, ⟨own_ok.mpr ⟨h1, h2, ob, upd_same, hy⟩, ?_⟩, h.nd, h.bo⟩
  · rw [upd_ne (ne_of_none e h2)]
    exact h.fh a u e
  · rw [upd_ne fun q => ?_]
    · exact h.h0 a u e m
    · subst q
      rcases h.bo a (List.mem_cons_self ..) with z | z
      · rw [z] at e; cases e
      · exact m z
  · by_cases q : a = D
    · subst q
      rw [upd_same]
      simp
    · rw [upd_ne q]
      exact h.tr a z
  · exact h.ok.2.move (Ex.refl F) (upd_out h.ok.2.fo nd.1)
theorem compS_len {α β τ : Type} {f : α → τ → Option (Option β × τ)} : ∀ {xs : List α} {s : τ} {p : List β × τ}, compS f xs s = some p → p.1.length ≤ xs.length
  | [], s, p, h => by
    have e : ([], s) = p := Option.some.inj h
    subst e
    exact Nat.le_refl _
  | x :: xs, s, p, h => by
    obtain ⟨q, hq, h⟩ := ob h
    obtain ⟨r, hr, h⟩ := ob h
    have ih := compS_len hr
    have e := Option.some.inj h
    subst e
    simp only [List.length_append, List.length_cons]
    have : q.1.toList.length ≤ 1 := by cases q.1 <;> simp
    omega
theorem S_comp (Mf : τ → List Slot) {f : β → τ → Option (Option γ × τ)} {s0 s1 : τ} {zs : List γ} (Y : Yields K J P ys) (hm : compS f ys s0 = some (zs, s1)) (h : St K B F H (ts ++ σ) (TM ++ Mf s0)) (hTM : TM.length = ts.length) (hf : ∀ s, Free (Mf s) vs)
    (hlen : ys.length ≤ sizeLine)
    (hP : ∀ s w F H, St K B F H (ts ++ w) (TM ++ Mf s) → P F H)
    (turn : ∀ (i : Nat) (x : β) (s : τ) p v D (acc : List γ) F H (G : V → Hp → Prop) (N : Hp → Prop), ys[i]? = some x → f x s = some p → St K B F H (some v :: some (.ref D) :: (ts ++ wipe σ vs)) (.fz x :: .own D acc :: (TM ++ Mf s)) →
      (∀ y z F' H', p.1 = some z → St K B F' H' (some (.ref D) :: (ts ++ wipe σ vs)) (.own D acc :: (TM ++ Mf p.2)) → rp K F' y z → G y H') → (∀ F' H', p.1 = none → St K B F' H' (some (.ref D) :: (ts ++ wipe σ vs)) (.own D acc :: (TM ++ Mf p.2)) → N H') →
      g v (wipe σ vs) H fun σ2 H2 => wipe σ2 vs = wipe σ vs ∧ tt σ2 H2 fun b H3 => if b = true then te σ2 H3 G else N H3)
    (hend : ∀ D F H, B.H D = none → St K B F H (some (.ref D) :: (ts ++ σ)) (.own D zs :: (TM ++ Mf s1)) → Q (.ref D) H) : LcG J g tt te vs σ H Q := by
  intro D hD
  have hB : B.H D = none := by
    cases q : B.H D with
    | none => rfl
    | some u => exact absurd hD (h.tr D (by rw [q]; simp))
  have lw := wipe_length σ vs
  -- from the frame's names to the block's, and back
  have into : ∀ {s F H}, St K B F H (ts ++ σ) (TM ++ Mf s) → St K B F H (ts ++ wipe σ vs) (TM ++ Mf s) := fun {s F H} h => h.rew (by simp [lw]) fun i => wipe_rew hTM (hf s) i
  have back : ∀ {s F H acc}, St K B F H (some (.ref D) :: (ts ++ wipe σ vs)) (.own (α := List γ) D acc :: (TM ++ Mf s)) → St K B F H (some (.ref D) :: (ts ++ σ)) (.own (α := List γ) D acc :: (TM ++ Mf s)) := fun {s F H acc} h => h.rew (by simp [lw]) fun i => by
    cases i with
    | zero => right; rfl
    | succ i =>
      rcases wipe_rew (σ := σ) hTM (hf s) i with e | e
      · left; simpa using e
      · right; simpa using e.symm
  have h1 : St K B F (upd H D (.lst [])) (some (.ref D) :: (ts ++ wipe σ vs)) (.own (α := List γ) D [] :: (TM ++ Mf s0)) := (into h).pushO hD ⟨[], rfl, Nat.zero_le _, .nil⟩
  refine ⟨fun i m H => m = ys.length - i ∧ i ≤ ys.length ∧ ∃ F s acc rest, St K B F H (some (.ref D) :: (ts ++ wipe σ vs)) (.own (α := List γ) D acc :: (TM ++ Mf s)) ∧ acc.length ≤ i ∧ compS f (ys.drop i) s = some (rest, s1) ∧ acc ++ rest = zs, ⟨ys.length, by omega, Nat.zero_le _, F, s0, [], zs, h1, Nat.le_refl _, hm, rfl⟩, ?_⟩
  rintro i m H ⟨rfl, hi, F, s, acc, rest, h, hacc, hm, hz⟩
  have Yi := Y i F H (hP s _ F H h.pop) h.fh
  by_cases hlt : i < ys.length
  · have hx : ys[i]? = some ys[i] := List.getElem?_eq_getElem hlt
    obtain ⟨go, yl⟩ := Yi.2 _ hx
    rw [drop_cons hlt] at hm
    obtain ⟨p, hp, hm⟩ := ob hm
    obtain ⟨q, hq, hm⟩ := ob hm
    have eq := Option.some.inj hm
    have eq1 : p.1.toList ++ q.1 = rest := congrArg Prod.fst eq
    have eq2 : q.2 = s1 := congrArg Prod.snd eq
    refine .inr ⟨go, fun H' => ∃ F', St K B F' H' (some (.ref D) :: (ts ++ wipe σ vs)) (.own (α := List γ) D (acc ++ p.1.toList) :: (TM ++ Mf p.2)), fun H' ⟨F', h'⟩ => ⟨ys.length - (i + 1), by omega, rfl, hlt, F', p.2, _, q.1, h', ?_, by rw [hq, ← eq2], by rw [List.append_assoc, eq1, hz]⟩, fun v H' y => ?_⟩
    · rw [List.length_append]
      have : p.1.toList.length ≤ 1 := by cases p.1 <;> simp
      omega
    · obtain ⟨F', e1, e2, e3, e4, e5⟩ := yl v H' y
      refine turn i _ s p v D acc F' H' _ _ hx hp ((h.step e1 e3 e2 e4).push e5) (fun y z F'' H'' ez h'' ry => ?_) (fun F'' H'' ez h'' => ?_)
      · obtain ⟨_, _, ob', ho, vs', rfl, hl, hv⟩ := own_ok.mp h''.ok.1
        have hl2 : vs'.length = acc.length := Paired.length hv
        refine ⟨vs', ho, by omega, F'', ?_⟩
        rw [ez]
        exact h''.mutO ⟨_, rfl, by rw [List.length_append]; simp; omega, paired_snoc ry hv⟩
      · refine ⟨F'', ?_⟩
        rw [ez]
        show St K B F'' H'' _ (.own (α := List γ) D (acc ++ []) :: _)
        rw [List.append_nil]
        exact h''
  · have e : i = ys.length := by omega
    subst e
    rw [List.drop_length] at hm
    have eq := Option.some.inj hm
    have eq1 : ([] : List γ) = rest := congrArg Prod.fst eq
    have eq2 : s = s1 := congrArg Prod.snd eq
    subst eq1 eq2
    rw [List.append_nil] at hz
    subst hz
    exact .inl ⟨Yi.1 rfl, hend D F H hB (back h)⟩
/-- a list of one's own is frozen -/
theorem frz_out {D : Addr} {ob : HO} {w : List (Option V)} {M : List Slot} (h : Slots K F H w M) (h2 : F D = none) (no : D ∉ owns M) : Slots K (upd F D ob) H w M :=
  h.move (Ex.new h2) fun a m => ⟨rfl, by rw [upd_ne fun e => no (by rw [← e]; exact m)]; exact h.fo a m⟩
theorem St.frz {w : List (Option V)} {M : List Slot} {D : Addr} {zs : List γ} (h : St K B F H (some (.ref D) :: w) (.own D zs :: M)) (hB : B.H D = none) : ∃ F', St K B F' H (some (.ref D) :: w) (.fz zs :: M) := by
  obtain ⟨_, h2, ob', ho, vs', rfl, hl, hv⟩ := own_ok.mp h.ok.1
  have nd := List.nodup_cons.mp h.nd
  have en : Ex F (upd F D (.lst vs')) := Ex.new h2
  refine ⟨upd F D (.lst vs'), fun a u e => ?_, h.f0.trans en, fun a z => ?_, h.h0, h.tr, ⟨⟨_, rfl, D, vs', rfl, upd_same, hl, paired_mono en hv⟩, ?_⟩, nd.2, fun a m => h.bo a (List.mem_cons_of_mem _ m)⟩
  · by_cases q : a = D
    · subst q
      rw [upd_same] at e
      rw [ho]
      exact e
    · rw [upd_ne q] at e
      exact h.fh a u e
  · rw [upd_ne fun q => z (by rw [q]; exact hB)]
    exact h.nf a z
  · exact frz_out h.ok.2 h2 nd.1
end
end G

set_option Elab.async false
set_option linter.all false
set_option maxRecDepth 100000
set_option maxHeartbeats 4000000
/-! G2: contracts of defs, calls, and the operations. -/
namespace G
open PySem PySem.Spec PyProof.Rows L2
open Rp (rp)
open Ow (ow)

/-! ### what a def hands back -/
inductive RSlot : Type 1
  | fz {α : Type} [Rp α] (x : α)
  | tree {α : Type} (s : Sh α) (x : α)
  | ex (p : Fg → Hp → Value → Option Addr → Prop)
abbrev RSlot.fr {α : Type} [Ow α] (x : α) : RSlot := .tree (flat α) x
def RetOk (K : Fg) (F' H' : Hp) (u : V) : RSlot → List Addr → Prop
  | @RSlot.fz _ i x, L => L = [] ∧ i.rp K F' u x
  | .tree s x, L => ∃ g, u = s.root g ∧ L = s.ads g ∧ s.ok K F' H' g x
  | .ex _, _ => False
/-- the own arguments behind a call: where their parts stand -/
def Aft (K : Fg) (F' H' : Hp) : List Slot → List Addr → Prop
  | [], L => L = []
  | .tree s g x :: A, L => ∃ g' L', s.root g' = s.root g ∧ L = s.ads g' ++ L' ∧ s.ok K F' H' g' x ∧ Aft K F' H' A L'
  | .any :: A, L => Aft K F' H' A L
  | .un :: A, L => Aft K F' H' A L
  | @Slot.fz _ _ _ :: A, L => Aft K F' H' A L
structure Fin (K : Fg) (B : Base) (s : RSlot) (A' : List Slot) (u : V) (F' H' : Hp) : Prop where
  f0 : Ex B.F F'
  fh : Ex F' H'
  nf : ∀ a, B.H a ≠ none → F' a = B.F a
  h0 : ∀ a o, B.H a = some o → a ∉ B.may → H' a = some o
  tr : ∀ a, B.H a ≠ none → H' a ≠ none
  ret : ∃ Lr L, RetOk K F' H' u s Lr ∧ Aft K F' H' A' L ∧ (Lr ++ L).Nodup ∧ (∀ a ∈ Lr, B.H a = none) ∧ (∀ a ∈ L, B.H a = none ∨ a ∈ B.may) ∧ ∀ a ∈ Lr ++ L, F' a = none
structure FinX (K : Fg) (B : Base) (p : Fg → Hp → Value → Option Addr → Prop) (A' : List Slot) (C : Value) (d : Option Addr) (F' H' : Hp) : Prop where
  f0 : Ex B.F F'
  fh : Ex F' H'
  nf : ∀ a, B.H a ≠ none → F' a = B.F a
  h0 : ∀ a o, B.H a = some o → a ∉ B.may → H' a = some o
  tr : ∀ a, B.H a ≠ none → H' a ≠ none
  ret : p K F' C d ∧ ∃ L, Aft K F' H' A' L ∧ L.Nodup ∧ (∀ a ∈ L, B.H a = none ∨ a ∈ B.may) ∧ ∀ a ∈ L, F' a = none
/-- the promise of a def: R says of the arguments' slots what comes back, and how the slots are then -/
def Prom (K : Fg) (R : List Slot → RSlot → List Slot → Prop) : Sp := fun vs H Q _ => ∃ F A s A', R A s A' ∧ Ex F H ∧ Slots K F H (vs.map some) A ∧ (owns A).Nodup ∧ ∀ u F' H', Fin K ⟨F, H, owns A⟩ s A' u F' H' → Q u H'
/-- .. of a def that may raise -/
def PromX (K : Fg) (R : List Slot → RSlot → List Slot → Prop) : Sp := fun vs H Q E => ∃ F A s A', R A s A' ∧ Ex F H ∧ Slots K F H (vs.map some) A ∧ (owns A).Nodup ∧ (∀ u F' H', Fin K ⟨F, H, owns A⟩ s A' u F' H' → Q u H') ∧
  ∀ p C d F' H', s = .ex p → FinX K ⟨F, H, owns A⟩ p A' C d F' H' → E C d H'
section
variable {K : Fg} {B : Base} {F H F' H' : Hp} {w : List (Option V)} {M A A' : List Slot} {Q : VK} {u : V}
theorem slots_any : ∀ w : List (Option V), Slots K F H w (w.map fun _ => Slot.any)
  | [] => trivial
  | _ :: w => ⟨trivial, slots_any w⟩
theorem Slots.append : ∀ {w w' : List (Option V)} {M M' : List Slot}, Slots K F H w M → Slots K F H w' M' → Slots K F H (w ++ w') (M ++ M')
  | [], _, [], _, _, k => k
  | _ :: _, _, _ :: _, _, h, k => ⟨h.1, Slots.append h.2 k⟩
  | [], _, _ :: _, _, h, _ => h.elim
  | _ :: _, _, [], _, h, _ => h.elim
theorem owns_append : ∀ (M M' : List Slot), owns (M ++ M') = owns M ++ owns M'
  | [], _ => rfl
  | s :: M, M' => by rw [List.cons_append, owns_cons, owns_append M M', owns_cons s M, List.append_assoc]
theorem owns_any : ∀ w : List (Option V), owns (w.map fun _ => Slot.any) = []
  | [] => rfl
  | _ :: w => owns_any w
/-- the state at a def's entry -/
theorem St.start {vs : List V} (fh : Ex F H) (hS : Slots K F H (vs.map some) A) (nd : (owns A).Nodup) (w : List (Option V)) : St K ⟨F, H, owns A⟩ F H (vs.map some ++ w) (A ++ w.map fun _ => Slot.any) where
  fh := fh
  f0 := Ex.refl F
  nf := fun _ _ => rfl
  h0 := fun _ _ h _ => h
  tr := fun _ h => h
  ok := hS.append (slots_any w)
  nd := by
    rw [owns_append, owns_any, List.append_nil]
    exact nd
  bo := fun a m => by
    rw [owns_append, owns_any, List.append_nil] at m
    exact .inr m
/-! ### the end of a def: the own parameters are found among the slots, in order -/
def AftM (K : Fg) (F H : Hp) (M A' : List Slot) : Prop := ∃ L, Aft K F H A' L ∧ L.Sublist (owns M)
theorem AftM.nil : AftM K F H M [] := ⟨[], rfl, List.nil_sublist _⟩
theorem aft0 {A' : List Slot} (h : Aft K F H A' [] := by rfl) : AftM K F H M A' := ⟨[], h, List.nil_sublist _⟩
theorem AftM.skip (r : AftM K F H M A') : AftM K F H M (.any :: A') := r
theorem owns_drop_sub : ∀ (M : List Slot) (n : Nat), (owns (M.drop n)).Sublist (owns M)
  | [], n => by rw [List.drop_nil]; exact .refl _
  | _ :: _, 0 => .refl _
  | s :: M, n + 1 => by
    rw [owns_cons s M]
    exact (owns_drop_sub M n).trans (List.sublist_append_right ..)
theorem owns_take_sub : ∀ (M : List Slot) (n : Nat), (owns (M.take n)).Sublist (owns M)
  | [], n => by rw [List.take_nil]; exact .refl _
  | _ :: _, 0 => List.nil_sublist _
  | s :: M, n + 1 => by
    show (owns (s :: M.take n)).Sublist _
    rw [owns_cons s M, owns_cons]
    exact (List.Sublist.refl _).append (owns_take_sub M n)
theorem owns_at_drop {α : Type} {s : Sh α} {g : s.G} {x : α} : ∀ {M : List Slot} {i : Nat}, M[i]? = some (.tree s g x) → ((s.ads g) ++ owns (M.drop (i + 1))).Sublist (owns M)
  | [], _, e => by simp at e
  | t :: M, 0, e => by
    simp at e
    subst e
    exact .refl _
  | t :: M, i + 1, e => by
    have ih := owns_at_drop (M := M) (i := i) (by simpa using e)
    rw [owns_cons t M]
    exact ih.trans (List.sublist_append_right ..)
theorem Slots.drop : ∀ {w : List (Option V)} {M : List Slot} (n : Nat), Slots K F H w M → Slots K F H (w.drop n) (M.drop n)
  | _, _, 0, h => h
  | [], [], n + 1, _ => by simp; trivial
  | _ :: _, _ :: _, n + 1, h => Slots.drop n h.2
  | [], _ :: _, _, h => h.elim
  | _ :: _, [], _, h => h.elim
theorem Slots.take : ∀ {w : List (Option V)} {M : List Slot} (n : Nat), Slots K F H w M → Slots K F H (w.take n) (M.take n)
  | _, _, 0, _ => by simp; trivial
  | [], [], n + 1, _ => by simp; trivial
  | _ :: _, _ :: _, n + 1, h => ⟨h.1, Slots.take n h.2⟩
  | [], _ :: _, _, h => h.elim
  | _ :: _, [], _, h => h.elim
theorem AftM.own {α : Type} {s : Sh α} {g g' : s.G} {x : α} (h : Slots K F H w M) (i : Nat) (hM : M[i]? = some (.tree s g' x)) (hr : s.root g' = s.root g) (r : AftM K F H (M.drop (i + 1)) A') : AftM K F H M (.tree s g x :: A') := by
  obtain ⟨L, h1, h2⟩ := r
  obtain ⟨o, _, hs⟩ := h.at hM
  exact ⟨s.ads g' ++ L, ⟨g', L, hr, rfl, hs.2.2, h1⟩, ((List.Sublist.refl _).append h2).trans (owns_at_drop hM)⟩
theorem St.finG {s : RSlot} (h : St K B F H w M) {Lr : List Addr} (r : RetOk K F H u s Lr) {L : List Addr} (a : Aft K F H A' L) (nd : (Lr ++ L).Nodup) (hr : ∀ a ∈ Lr, B.H a = none) (sb : ∀ a ∈ Lr ++ L, a ∈ owns M) : Fin K B s A' u F H :=
  ⟨h.f0, h.fh, h.nf, h.h0, h.tr, Lr, L, r, a, nd, hr, fun b m => h.bo b (sb b (List.mem_append_right _ m)), fun b m => h.ok.fo b (sb b m)⟩
theorem St.fin {α : Type} [Rp α] {x : α} (h : St K B F H w M) (r : rp K F u x) (a : AftM K F H M A') : Fin K B (.fz x) A' u F H := by
  obtain ⟨L, h1, h2⟩ := a
  exact h.finG (Lr := []) ⟨rfl, r⟩ h1 (h2.nodup h.nd) (fun _ m => by cases m) fun b m => h2.subset m
theorem St.finF {α : Type} [Rp α] {x : α} (h : St K B F H (some u :: w) (.fz x :: M)) (a : AftM K F H (.fz x :: M) A') : Fin K B (.fz x) A' u F H := h.fin (h.fz 0 rfl rfl) a
theorem St.finI {x : Int} (h : St K B F H w M) (a : AftM K F H M A') : Fin K B (.fz x) A' (.int x) F H := h.fin (show V.int x = V.int x from rfl) a
theorem St.finB {x : Bool} (h : St K B F H w M) (a : AftM K F H M A') : Fin K B (.fz x) A' (.bl x) F H := h.fin (show V.bl x = V.bl x from rfl) a
theorem St.finS {x : Str} (h : St K B F H w M) (a : AftM K F H M A') : Fin K B (.fz x) A' (.str x) F H := h.fin (show V.str x = V.str x from rfl) a
theorem St.finN {x : Unit} (h : St K B F H w M) (a : AftM K F H M A') : Fin K B (.fz x) A' .non F H := h.fin (show V.non = V.non from rfl) a
/-- the fresh thing on top of the pile is handed back -/
theorem St.finO {α : Type} {s : Sh α} {g : s.G} {x : α} {o : Option V} (h : St K B F H (o :: w) (.tree s g x :: M)) (hB : ∀ a ∈ s.ads g, B.H a = none) (a : AftM K F H M A') : Fin K B (.tree s x) A' (s.root g) F H := by
  obtain ⟨L, h1, h2⟩ := a
  exact h.finG (Lr := s.ads g) ⟨g, rfl, rfl, h.ok.1.2.2⟩ h1 (((List.Sublist.refl _).append h2).nodup h.nd) hB fun b m => by
    rcases List.mem_append.mp m with m | m
    · exact List.mem_append_left _ m
    · exact List.mem_append_right _ (h2.subset m)
/-- the fresh thing of a name is handed back -/
theorem St.finV {α : Type} {s : Sh α} {g : s.G} {x : α} (i : Nat) (h : St K B F H w M) (hM : M[i]? = some (.tree s g x)) (hB : ∀ a ∈ s.ads g, B.H a = none) (a : AftM K F H (M.take i) A') : Fin K B (.tree s x) A' (s.root g) F H := by
  obtain ⟨L, h1, h2⟩ := a
  obtain ⟨o, _, hs⟩ := h.ok.at hM
  have e : owns M = owns (M.take i) ++ (s.ads g ++ owns (M.drop (i + 1))) := by
    have hi : i < M.length := by
      rcases Nat.lt_or_ge i M.length with z | z
      · exact z
      · rw [List.getElem?_eq_none z] at hM; cases hM
    have hx : M[i] = .tree s g x := by
      rw [List.getElem?_eq_getElem hi] at hM
      exact Option.some.inj hM
    conv => lhs; rw [← List.take_append_drop i M]
    rw [owns_append, List.drop_eq_getElem_cons hi, hx]
    rfl
  have nd := h.nd
  rw [e] at nd
  have hsub : (L ++ s.ads g).Sublist (owns (M.take i) ++ (s.ads g ++ owns (M.drop (i + 1)))) := h2.append (List.sublist_append_left ..)
  exact h.finG (Lr := s.ads g) ⟨g, rfl, rfl, hs.2.2⟩ h1 ((List.perm_append_comm).nodup_iff.mp (hsub.nodup nd)) hB fun b m => by
    rw [e]
    exact hsub.subset ((List.perm_append_comm).mem_iff.mp m)

theorem Fin.fz {α : Type} [Rp α] {x : α} (f : Fin K B (.fz x) A' u F' H') : rp K F' u x := by
  obtain ⟨Lr, L, r, _⟩ := f.ret
  exact r.2
/-! ### calls -/
theorem St.call {as : List Addr} (h : St K B F H w M) (f0 : Ex F F') (fh : Ex F' H') (nf : ∀ a, H a ≠ none → F' a = F a) (h0 : ∀ a o, H a = some o → a ∉ as → H' a = some o) (tr : ∀ a, H a ≠ none → H' a ≠ none) (hn : ∀ a ∈ as, a ∉ owns M) (hb : ∀ a ∈ as, B.H a = none ∨ a ∈ B.may) : St K B F' H' w M where
  fh := fh
  f0 := h.f0.trans f0
  nf := fun b z => (nf b (h.tr b z)).trans (h.nf b z)
  h0 := fun b o z m => h0 b o (h.h0 b o z m) fun y => by
    rcases hb b y with z' | z'
    · rw [z'] at z; cases z
    · exact m z'
  tr := fun b z => tr b (h.tr b z)
  ok := h.ok.move f0 fun a m => by
    obtain ⟨q1, ob, q2⟩ := h.own_tracked a m
    exact ⟨by rw [q2]; exact h0 a ob q2 fun y => hn a y m, by rw [nf a (by rw [q2]; simp)]; exact q1⟩
  nd := h.nd
  bo := h.bo
/-- what comes back is put upon the pile -/
def RetSt (K : Fg) (B : Base) (F' H' : Hp) (w : List (Option V)) (M : List Slot) (u : V) : RSlot → Prop
  | @RSlot.fz _ i x => i.rp K F' u x
  | .tree s x => ∃ g, u = s.root g ∧ (∀ a ∈ s.ads g, B.H a = none) ∧ St K B F' H' (some u :: w) (.tree s g x :: M)
  | .ex _ => False
theorem St.pushT {α : Type} {s : Sh α} {g : s.G} {x : α} (h : St K B F H w M) (ok : s.ok K F H g x) (nd : (s.ads g).Nodup) (dj : ∀ a ∈ s.ads g, a ∉ owns M) (fo : ∀ a ∈ s.ads g, F a = none) (bo : ∀ a ∈ s.ads g, B.H a = none ∨ a ∈ B.may) : St K B F H (some (s.root g) :: w) (.tree s g x :: M) :=
  ⟨h.fh, h.f0, h.nf, h.h0, h.tr, ⟨⟨rfl, fo, ok⟩, h.ok⟩, List.nodup_append.mpr ⟨nd, h.nd, fun a m b n e => dj a m (by rw [e]; exact n)⟩, fun a m => by
    rcases List.mem_append.mp m with m | m
    · exact bo a m
    · exact h.bo a m⟩
theorem St.ret {s : RSlot} {H0 : Hp} {Lr : List Addr} (h : St K B F H w M) (r : RetOk K F H u s Lr) (nd : Lr.Nodup) (fr : ∀ a ∈ Lr, B.H a = none) (dj : ∀ a ∈ Lr, a ∉ owns M) (fo : ∀ a ∈ Lr, F a = none) : RetSt K B F H w M u s := by
  cases s with
  | fz x => exact r.2
  | tree s x =>
    obtain ⟨g, rfl, rfl, ok⟩ := r
    exact ⟨g, rfl, fr, h.pushT ok nd dj fo fun a m => .inl (fr a m)⟩
  | ex p => exact r.elim
/-- a slot is taken out -/
theorem wk_refl : ∀ M : List Slot, Wk M M
  | [] => trivial
  | _ :: M => ⟨.inr rfl, wk_refl M⟩
theorem wk_any : ∀ (M : List Slot) (i : Nat), Wk M (M.set i .any)
  | [], _ => trivial
  | _ :: M, 0 => ⟨.inl rfl, wk_refl M⟩
  | _ :: M, i + 1 => ⟨.inr rfl, wk_any M i⟩
theorem owns_put {α : Type} {s : Sh α} {g : s.G} {x : α} : ∀ {M : List Slot} {i : Nat}, M[i]? = some .any → (owns (M.set i (.tree s g x))).Perm (s.ads g ++ owns M)
  | [], _, e => by simp at e
  | t :: M, 0, e => by
    simp at e
    subst e
    exact .refl _
  | t :: M, i + 1, e => by
    have ih := owns_put (s := s) (g := g) (x := x) (M := M) (i := i) (by simpa using e)
    show (owns (t :: M.set i (.tree s g x))).Perm _
    rw [owns_cons t, owns_cons t M]
    refine (ih.append_left _).trans ?_
    rw [← List.append_assoc, ← List.append_assoc]
    exact (List.perm_append_comm).append_right _
theorem at_lt.{u} {α : Type u} {M : List α} {i : Nat} {x : α} (h : M[i]? = some x) : i < M.length := by
  rcases Nat.lt_or_ge i M.length with z | z
  · exact z
  · rw [List.getElem?_eq_none z] at h; cases h
theorem set_any_at {M : List Slot} {i : Nat} {s : Slot} (h : M[i]? = some s) : (M.set i .any)[i]? = some .any := List.getElem?_set_self (at_lt h)
theorem owns_out {α : Type} {s : Sh α} {g : s.G} {x : α} {M : List Slot} {i : Nat} (hM : M[i]? = some (.tree s g x)) : (owns M).Perm (s.ads g ++ owns (M.set i .any)) := by
  have p := owns_put (s := s) (g := g) (x := x) (set_any_at hM)
  rw [List.set_set] at p
  have e : M.set i (.tree s g x) = M := by
    have hi := at_lt hM
    rw [List.getElem?_eq_getElem hi] at hM
    rw [← Option.some.inj hM, List.set_getElem_self]
  rwa [e] at p
theorem St.outT {α : Type} {s : Sh α} {g : s.G} {x : α} {i : Nat} (h : St K B F H w M) (hM : M[i]? = some (.tree s g x)) : St K B F H w (M.set i .any) ∧ (∀ a ∈ s.ads g, a ∉ owns (M.set i .any)) ∧ (s.ads g).Nodup ∧ (∀ a ∈ s.ads g, B.H a = none ∨ a ∈ B.may) ∧ w[i]? = some (some (s.root g)) ∧ (∀ a ∈ s.ads g, F a = none) ∧ s.ok K F H g x := by
  have p := owns_out hM
  have nd := p.nodup_iff.mp h.nd
  obtain ⟨n1, n2, n3⟩ := List.nodup_append.mp nd
  obtain ⟨o, e, hs⟩ := h.ok.at hM
  exact ⟨h.weak (wk_any M i), fun a m n => n3 a m a n rfl, n1, fun a m => h.bo a (p.mem_iff.mpr (List.mem_append_left _ m)), by rw [e, hs.1], hs.2.1, hs.2.2⟩
theorem St.putT {α : Type} {s : Sh α} {g : s.G} {x : α} (h : St K B F H w M) (i : Nat) (hM : M[i]? = some .any) (hw : w[i]? = some (some (s.root g))) (ok : s.ok K F H g x) (nd : (s.ads g).Nodup) (dj : ∀ a ∈ s.ads g, a ∉ owns M) (fo : ∀ a ∈ s.ads g, F a = none) (bo : ∀ a ∈ s.ads g, B.H a = none ∨ a ∈ B.may) : St K B F H w (M.set i (.tree s g x)) := by
  have p := owns_put (s := s) (g := g) (x := x) hM
  have hs : ∀ {w : List (Option V)} {M : List Slot} {i : Nat}, Slots K F H w M → w[i]? = some (some (s.root g)) → Slots K F H w (M.set i (.tree s g x)) := by
    intro w M
    induction M generalizing w with
    | nil => intro i hs e; cases w with
      | nil => trivial
      | cons o w => exact hs.elim
    | cons t M ih =>
      intro i hs e
      cases w with
      | nil => exact hs.elim
      | cons o w =>
        cases i with
        | zero =>
          simp at e
          subst e
          exact ⟨⟨rfl, fo, ok⟩, hs.2⟩
        | succ i => exact ⟨hs.1, ih hs.2 (by simpa using e)⟩
  refine ⟨h.fh, h.f0, h.nf, h.h0, h.tr, hs h.ok hw, p.nodup_iff.mpr (List.nodup_append.mpr ⟨nd, h.nd, fun a m b n e => dj a m (by rw [e]; exact n)⟩), fun a m => ?_⟩
  rcases List.mem_append.mp (p.mem_iff.mp m) with q | q
  · exact bo a q
  · exact h.bo a q
/-- a call that changes none of one's own -/
theorem St.call0 {s : RSlot} (h : St K B F H w M) (f : Fin K ⟨F, H, []⟩ s A' u F' H') : St K B F' H' w M ∧ RetSt K B F' H' w M u s := by
  obtain ⟨Lr, L, r, _, nd, fr, _, fo⟩ := f.ret
  have h' := h.call (as := []) f.f0 f.fh f.nf f.h0 f.tr (fun _ m => by cases m) fun _ m => by cases m
  have hfr : ∀ a ∈ Lr, H a = none := fr
  refine ⟨h', h'.ret (H0 := H) r (List.nodup_append.mp nd).1 (fun a m => ?_) (fun a m n => ?_) fun a m => fo a (List.mem_append_left _ m)⟩
  · cases q : B.H a with
    | none => rfl
    | some o => exact absurd (hfr a m) (h.tr a (by rw [q]; simp))
  · obtain ⟨_, ob, z⟩ := h.own_tracked a n
    rw [hfr a m] at z
    cases z
theorem S_call {R : List Slot → RSlot → List Slot → Prop} {E : XK} {vs : List V} {s : RSlot} (h : St K B F H w M) (hA : Slots K F H (vs.map some) A) (hR : R A s A') (ho : owns A = []) (q : ∀ u F' H', St K B F' H' w M → RetSt K B F' H' w M u s → Q u H') : Prom K R vs H Q E := by
  refine ⟨F, A, s, A', hR, h.fh, hA, by rw [ho]; exact List.nodup_nil, fun u F' H' f => ?_⟩
  rw [ho] at f
  obtain ⟨h1, h2⟩ := h.call0 f
  exact q u F' H' h1 h2
theorem S_callF {R : List Slot → RSlot → List Slot → Prop} {E : XK} {vs : List V} {α : Type} [Rp α] {x : α} (h : St K B F H w M) (hA : Slots K F H (vs.map some) A) (hR : R A (.fz x) A') (ho : owns A = []) (q : ∀ u F' H', St K B F' H' (some u :: w) (.fz x :: M) → Q u H') : Prom K R vs H Q E :=
  S_call h hA hR ho fun u F' H' h' r => q u F' H' (h'.push r)
theorem S_callI {R : List Slot → RSlot → List Slot → Prop} {E : XK} {vs : List V} {x : Int} (h : St K B F H w M) (hA : Slots K F H (vs.map some) A) (hR : R A (.fz x) A') (ho : owns A = []) (q : ∀ F' H', St K B F' H' w M → Q (.int x) H') : Prom K R vs H Q E :=
  S_call h hA hR ho fun u F' H' h' r => by
    have e : u = .int x := r
    subst e
    exact q F' H' h'
theorem S_callB {R : List Slot → RSlot → List Slot → Prop} {E : XK} {vs : List V} {x : Bool} (h : St K B F H w M) (hA : Slots K F H (vs.map some) A) (hR : R A (.fz x) A') (ho : owns A = []) (q : ∀ F' H', St K B F' H' w M → Q (.bl x) H') : Prom K R vs H Q E :=
  S_call h hA hR ho fun u F' H' h' r => by
    have e : u = .bl x := r
    subst e
    exact q F' H' h'
theorem S_callS {R : List Slot → RSlot → List Slot → Prop} {E : XK} {vs : List V} {x : Str} (h : St K B F H w M) (hA : Slots K F H (vs.map some) A) (hR : R A (.fz x) A') (ho : owns A = []) (q : ∀ F' H', St K B F' H' w M → Q (.str x) H') : Prom K R vs H Q E :=
  S_call h hA hR ho fun u F' H' h' r => by
    have e : u = .str x := r
    subst e
    exact q F' H' h'
theorem S_callN {R : List Slot → RSlot → List Slot → Prop} {E : XK} {vs : List V} {x : Unit} (h : St K B F H w M) (hA : Slots K F H (vs.map some) A) (hR : R A (.fz x) A') (ho : owns A = []) (q : ∀ F' H', St K B F' H' w M → Q .non H') : Prom K R vs H Q E :=
  S_call h hA hR ho fun u F' H' h' r => by
    have e : u = .non := r
    subst e
    exact q F' H' h'
theorem S_callT {R : List Slot → RSlot → List Slot → Prop} {E : XK} {vs : List V} {α : Type} {sh : Sh α} {x : α} (h : St K B F H w M) (hA : Slots K F H (vs.map some) A) (hR : R A (.tree sh x) A') (ho : owns A = []) (q : ∀ g F' H', (∀ a ∈ sh.ads g, B.H a = none) → St K B F' H' (some (sh.root g) :: w) (.tree sh g x :: M) → Q (sh.root g) H') : Prom K R vs H Q E :=
  S_call h hA hR ho fun u F' H' _ r => by
    obtain ⟨g, rfl, hB, h''⟩ := r
    exact q g F' H' hB h''
theorem S_callO {R : List Slot → RSlot → List Slot → Prop} {E : XK} {vs : List V} {α : Type} [Ow α] {x : α} (h : St K B F H w M) (hA : Slots K F H (vs.map some) A) (hR : R A (.fr x) A') (ho : owns A = []) (q : ∀ p F' H', B.H p = none → St K B F' H' (some (.ref p) :: w) (.own p x :: M) → Q (.ref p) H') : Prom K R vs H Q E :=
  S_callT h hA hR ho fun g F' H' hB h' => q g F' H' (hB g (List.mem_singleton.mpr rfl)) h'
theorem mem_owns_of_at {M : List Slot} {i : Nat} {α : Type} {s : Sh α} {g : s.G} {x : α} (h : M[i]? = some (.tree s g x)) {a : Addr} (m : a ∈ s.ads g) : a ∈ owns M := (owns_out h).mem_iff.mpr (List.mem_append_left _ m)
/-- a call that changes one thing of one's own -/
theorem St.call1 {s : RSlot} {α : Type} {sh : Sh α} {g : sh.G} {x : α} {α' : Type} {sh' : Sh α'} {x' : α'} (i : Nat) (h : St K B F H w M) (hM : M[i]? = some (.tree sh g x)) (f : Fin K ⟨F, H, sh.ads g⟩ s A' u F' H')
    (hA' : ∀ L, Aft K F' H' A' L → ∃ g' : sh'.G, sh'.root g' = sh.root g ∧ L = sh'.ads g' ∧ sh'.ok K F' H' g' x') : ∃ g' : sh'.G, sh'.root g' = sh.root g ∧ St K B F' H' w (M.set i (.tree sh' g' x')) ∧ RetSt K B F' H' w (M.set i (.tree sh' g' x')) u s := by
  obtain ⟨h0, dj, nd0, bo, hw, fo0, ok0⟩ := h.outT hM
  obtain ⟨Lr, L, r, ha, nd, fr, hL, fo⟩ := f.ret
  obtain ⟨g', er, rfl, ok'⟩ := hA' L ha
  have hfr : ∀ a ∈ Lr, H a = none := fr
  have hL : ∀ a ∈ sh'.ads g', H a = none ∨ a ∈ sh.ads g := hL
  obtain ⟨nd1, nd2, nd3⟩ := List.nodup_append.mp nd
  have h1 := h0.call (as := sh.ads g) f.f0 f.fh f.nf f.h0 f.tr dj bo
  have new : ∀ a, H a = none → a ∉ owns (M.set i .any) := fun a e n => by
    obtain ⟨_, ob, z⟩ := h0.own_tracked a n
    rw [e] at z; cases z
  have newB : ∀ a, H a = none → B.H a = none := fun a e => by
    cases q : B.H a with
    | none => rfl
    | some o => exact absurd e (h.tr a (by rw [q]; simp))
  have h2 := h1.putT (s := sh') (g := g') (x := x') i (set_any_at hM) (by rw [hw, er]) ok' nd2 (fun a m n => by
    rcases hL a m with e | e
    · exact new a e n
    · exact dj a e n) (fun a m => fo a (List.mem_append_right _ m)) (fun a m => by
    rcases hL a m with e | e
    · exact .inl (newB a e)
    · exact bo a e)
  have p := owns_put (s := sh') (g := g') (x := x') (set_any_at hM)
  rw [List.set_set] at h2 p
  refine ⟨g', er, h2, h2.ret (H0 := H) r nd1 (fun a m => newB a (hfr a m)) (fun a m n => ?_) fun a m => fo a (List.mem_append_left _ m)⟩
  rcases List.mem_append.mp (p.mem_iff.mp n) with n | n
  · exact nd3 a m a n rfl
  · exact new a (hfr a m) n
theorem S_call1T {R : List Slot → RSlot → List Slot → Prop} {E : XK} {vs : List V} {s : RSlot} {α : Type} {sh : Sh α} {g : sh.G} {x : α} {α' : Type} {sh' : Sh α'} {x' : α'} (i : Nat) (h : St K B F H w M) (hM : M[i]? = some (.tree sh g x)) (hA : Slots K F H (vs.map some) A) (hR : R A s A') (ho : owns A = sh.ads g)
    (hA' : ∀ F' H' L, Aft K F' H' A' L → ∃ g' : sh'.G, sh'.root g' = sh.root g ∧ L = sh'.ads g' ∧ sh'.ok K F' H' g' x')
    (q : ∀ u F' H' (g' : sh'.G), sh'.root g' = sh.root g → St K B F' H' w (M.set i (.tree sh' g' x')) → RetSt K B F' H' w (M.set i (.tree sh' g' x')) u s → Q u H') : Prom K R vs H Q E := by
  refine ⟨F, A, s, A', hR, h.fh, hA, by rw [ho]; exact (h.outT hM).2.2.1, fun u F' H' f => ?_⟩
  rw [ho] at f
  obtain ⟨g', er, h1, h2⟩ := h.call1 i hM f (hA' F' H')
  exact q u F' H' g' er h1 h2
/-- what stands behind a call for one own argument -/
theorem aft1 {α : Type} {sh : Sh α} {g : sh.G} {x : α} {L : List Addr} {P : List Addr → Prop} (h : Aft K F' H' (.tree sh g x :: A') L) (r : ∀ g' L', sh.root g' = sh.root g → L = sh.ads g' ++ L' → sh.ok K F' H' g' x → Aft K F' H' A' L' → P L) : P L := by
  obtain ⟨g', L', h1, h2, h3, h4⟩ := h
  exact r g' L' h1 h2 h3 h4
theorem aft_one {α : Type} {sh : Sh α} {g : sh.G} {x : α} {L : List Addr} (h : Aft K F' H' (.tree sh g x :: A') L) (r : ∀ L', Aft K F' H' A' L' → L' = []) : ∃ g' : sh.G, sh.root g' = sh.root g ∧ L = sh.ads g' ∧ sh.ok K F' H' g' x := by
  obtain ⟨g', L', h1, h2, h3, h4⟩ := h
  have := r L' h4
  subst this
  exact ⟨g', h1, by rw [h2, List.append_nil], h3⟩
/-- a call that changes two things of one's own -/
theorem St.call2 {s : RSlot} {α β : Type} {sh : Sh α} {g : sh.G} {x : α} {α' : Type} {sh' : Sh α'} {x' : α'} {th : Sh β} {k : th.G} {y : β} {β' : Type} {th' : Sh β'} {y' : β'} (i j : Nat) (hij : i ≠ j) (h : St K B F H w M) (hM : M[i]? = some (.tree sh g x)) (hN : M[j]? = some (.tree th k y)) (f : Fin K ⟨F, H, sh.ads g ++ th.ads k⟩ s A' u F' H')
    (hA' : ∀ L, Aft K F' H' A' L → ∃ (g' : sh'.G) (k' : th'.G), sh'.root g' = sh.root g ∧ th'.root k' = th.root k ∧ L = sh'.ads g' ++ th'.ads k' ∧ sh'.ok K F' H' g' x' ∧ th'.ok K F' H' k' y') : ∃ (g' : sh'.G) (k' : th'.G), sh'.root g' = sh.root g ∧ th'.root k' = th.root k ∧ St K B F' H' w ((M.set i (.tree sh' g' x')).set j (.tree th' k' y')) ∧ RetSt K B F' H' w ((M.set i (.tree sh' g' x')).set j (.tree th' k' y')) u s := by
  obtain ⟨h0, dj, nd0, bo, hw, fo0, ok0⟩ := h.outT hM
  have hN0 : (M.set i .any)[j]? = some (.tree th k y) := by rw [List.getElem?_set_ne hij]; exact hN
  obtain ⟨h00, dj2, nd02, bo2, hw2, fo02, ok02⟩ := h0.outT hN0
  obtain ⟨Lr, L, r, ha, nd, fr, hL, fo⟩ := f.ret
  obtain ⟨g', k', er, ek, rfl, ok', okk⟩ := hA' L ha
  have hfr : ∀ a ∈ Lr, H a = none := fr
  have hL : ∀ a ∈ sh'.ads g' ++ th'.ads k', H a = none ∨ a ∈ sh.ads g ++ th.ads k := hL
  obtain ⟨nd1, nd2, nd3⟩ := List.nodup_append.mp nd
  obtain ⟨nd4, nd5, nd6⟩ := List.nodup_append.mp nd2
  have sub : ∀ a, a ∈ owns ((M.set i .any).set j .any) → a ∈ owns (M.set i .any) := fun a n => (owns_weak (wk_any (M.set i .any) j)).subset n
  have dja : ∀ a ∈ sh.ads g ++ th.ads k, a ∉ owns ((M.set i .any).set j .any) := fun a m n => by
    rcases List.mem_append.mp m with m | m
    · exact dj a m (sub a n)
    · exact dj2 a m n
  have boa : ∀ a ∈ sh.ads g ++ th.ads k, B.H a = none ∨ a ∈ B.may := fun a m => by
    rcases List.mem_append.mp m with m | m
    · exact bo a m
    · exact bo2 a m
  have h1 := h00.call (as := sh.ads g ++ th.ads k) f.f0 f.fh f.nf f.h0 f.tr dja boa
  have new : ∀ a, H a = none → a ∉ owns ((M.set i .any).set j .any) := fun a e n => by
    obtain ⟨_, ob, z⟩ := h00.own_tracked a n
    rw [e] at z; cases z
  have newB : ∀ a, H a = none → B.H a = none := fun a e => by
    cases q : B.H a with
    | none => rfl
    | some o => exact absurd e (h.tr a (by rw [q]; simp))
  have djL : ∀ a ∈ sh'.ads g' ++ th'.ads k', a ∉ owns ((M.set i .any).set j .any) := fun a m n => by
    rcases hL a m with e | e
    · exact new a e n
    · exact dja a e n
  have boL : ∀ a ∈ sh'.ads g' ++ th'.ads k', B.H a = none ∨ a ∈ B.may := fun a m => by
    rcases hL a m with e | e
    · exact .inl (newB a e)
    · exact boa a e
  have ei : ((M.set i .any).set j .any)[i]? = some .any := by rw [List.getElem?_set_ne hij.symm]; exact set_any_at hM
  have h2 := h1.putT (s := sh') (g := g') (x := x') i ei (by rw [hw, er]) ok' nd4 (fun a m => djL a (List.mem_append_left _ m)) (fun a m => fo a (List.mem_append_right _ (List.mem_append_left _ m))) fun a m => boL a (List.mem_append_left _ m)
  have p2 := owns_put (s := sh') (g := g') (x := x') ei
  have e2 : ((M.set i .any).set j .any).set i (.tree sh' g' x') = (M.set i (.tree sh' g' x')).set j .any := by
    rw [List.set_comm (l := M.set i .any) _ _ hij.symm, List.set_set]
  rw [e2] at h2 p2
  have ej : ((M.set i (.tree sh' g' x')).set j .any)[j]? = some .any := List.getElem?_set_self (by simpa using at_lt hN)
  have dj3 : ∀ a ∈ th'.ads k', a ∉ owns ((M.set i (.tree sh' g' x')).set j .any) := fun a m n => by
    rcases List.mem_append.mp (p2.mem_iff.mp n) with n | n
    · exact nd6 a n a m rfl
    · exact djL a (List.mem_append_right _ m) n
  have h3 := h2.putT (s := th') (g := k') (x := y') j ej (by rw [hw2, ek]) okk nd5 dj3 (fun a m => fo a (List.mem_append_right _ (List.mem_append_right _ m))) fun a m => boL a (List.mem_append_right _ m)
  have p3 := owns_put (s := th') (g := k') (x := y') ej
  rw [List.set_set] at h3 p3
  refine ⟨g', k', er, ek, h3, h3.ret (H0 := H) r nd1 (fun a m => newB a (hfr a m)) (fun a m n => ?_) fun a m => fo a (List.mem_append_left _ m)⟩
  rcases List.mem_append.mp (p3.mem_iff.mp n) with n | n
  · exact nd3 a m a (List.mem_append_right _ n) rfl
  · rcases List.mem_append.mp (p2.mem_iff.mp n) with n | n
    · exact nd3 a m a (List.mem_append_left _ n) rfl
    · exact new a (hfr a m) n
theorem S_call2T {R : List Slot → RSlot → List Slot → Prop} {E : XK} {vs : List V} {s : RSlot} {α β : Type} {sh : Sh α} {g : sh.G} {x : α} {α' : Type} {sh' : Sh α'} {x' : α'} {th : Sh β} {k : th.G} {y : β} {β' : Type} {th' : Sh β'} {y' : β'} (i j : Nat) (hij : i ≠ j) (h : St K B F H w M) (hM : M[i]? = some (.tree sh g x)) (hN : M[j]? = some (.tree th k y)) (hA : Slots K F H (vs.map some) A) (hR : R A s A') (ho : owns A = sh.ads g ++ th.ads k)
    (hA' : ∀ F' H' L, Aft K F' H' A' L → ∃ (g' : sh'.G) (k' : th'.G), sh'.root g' = sh.root g ∧ th'.root k' = th.root k ∧ L = sh'.ads g' ++ th'.ads k' ∧ sh'.ok K F' H' g' x' ∧ th'.ok K F' H' k' y')
    (q : ∀ u F' H' (g' : sh'.G) (k' : th'.G), sh'.root g' = sh.root g → th'.root k' = th.root k → St K B F' H' w ((M.set i (.tree sh' g' x')).set j (.tree th' k' y')) → RetSt K B F' H' w ((M.set i (.tree sh' g' x')).set j (.tree th' k' y')) u s → Q u H') : Prom K R vs H Q E := by
  refine ⟨F, A, s, A', hR, h.fh, hA, ?_, fun u F' H' f => ?_⟩
  · rw [ho]
    obtain ⟨h0, dj, nd0, _⟩ := h.outT hM
    have hN0 : (M.set i .any)[j]? = some (.tree th k y) := by rw [List.getElem?_set_ne hij]; exact hN
    obtain ⟨_, _, nd02, _⟩ := h0.outT hN0
    exact List.nodup_append.mpr ⟨nd0, nd02, fun a m b n e => dj a m (by rw [e]; exact mem_owns_of_at hN0 n)⟩
  · rw [ho] at f
    obtain ⟨g', k', er, ek, h1, h2⟩ := h.call2 i j hij hM hN f (hA' F' H')
    exact q u F' H' g' k' er ek h1 h2
theorem aft_two {α β : Type} {sh : Sh α} {g : sh.G} {x : α} {th : Sh β} {k : th.G} {y : β} {A1 A2 : List Slot} {L : List Addr} (h : Aft K F' H' (.tree sh g x :: A1) L) (e : ∀ L', Aft K F' H' A1 L' → Aft K F' H' (.tree th k y :: A2) L') (r : ∀ L', Aft K F' H' A2 L' → L' = []) : ∃ (g' : sh.G) (k' : th.G), sh.root g' = sh.root g ∧ th.root k' = th.root k ∧ L = sh.ads g' ++ th.ads k' ∧ sh.ok K F' H' g' x ∧ th.ok K F' H' k' y := by
  obtain ⟨g', L', h1, h2, h3, h4⟩ := h
  obtain ⟨k', h5, h6, h7⟩ := aft_one (e L' h4) r
  exact ⟨g', k', h1, h5, by rw [h2, h6], h3, h7⟩
theorem flat_root {α β : Type} [Ow α] [Ow β] {a b : Addr} (h : (flat α).root a = (flat β).root b) : a = b := V.ref.inj h
/-- .. of one object each -/
theorem S_call1 {R : List Slot → RSlot → List Slot → Prop} {E : XK} {vs : List V} {s : RSlot} {α β : Type} [Ow α] [Ow β] {x : α} {x' : β} {a : Addr} (i : Nat) (h : St K B F H w M) (hM : M[i]? = some (.own a x)) (hA : Slots K F H (vs.map some) A) (hR : R A s A') (ho : owns A = [a])
    (hA' : ∀ F' H' L, Aft K F' H' A' L → Aft K F' H' [.own a x'] L) (q : ∀ u F' H', St K B F' H' w (M.set i (.own a x')) → RetSt K B F' H' w (M.set i (.own a x')) u s → Q u H') : Prom K R vs H Q E :=
  S_call1T (sh' := flat β) i h hM hA hR ho (fun F' H' L z => by
    obtain ⟨g', h1, h2, h3⟩ := aft_one (hA' F' H' L z) fun L' h => h
    exact ⟨g', h1, h2, h3⟩) fun u F' H' g' e h' r => by
    have e := flat_root e
    subst e
    exact q u F' H' h' r
theorem S_call2 {R : List Slot → RSlot → List Slot → Prop} {E : XK} {vs : List V} {s : RSlot} {α β α' β' : Type} [Ow α] [Ow β] [Ow α'] [Ow β'] {x : α} {x' : α'} {y : β} {y' : β'} {a b : Addr} (i j : Nat) (hij : i ≠ j) (h : St K B F H w M) (hM : M[i]? = some (.own a x)) (hN : M[j]? = some (.own b y)) (hA : Slots K F H (vs.map some) A) (hR : R A s A') (ho : owns A = [a, b])
    (hA' : ∀ F' H' L, Aft K F' H' A' L → Aft K F' H' [.own a x', .own b y'] L) (q : ∀ u F' H', St K B F' H' w ((M.set i (.own a x')).set j (.own b y')) → RetSt K B F' H' w ((M.set i (.own a x')).set j (.own b y')) u s → Q u H') : Prom K R vs H Q E :=
  S_call2T (sh' := flat α') (th' := flat β') i j hij h hM hN hA hR ho (fun F' H' L z => by
    obtain ⟨g', k', h1, h2, h3, h4, h5⟩ := aft_two (hA' F' H' L z) (fun L' h => h) fun L' h => h
    exact ⟨g', k', h1, h2, h3, h4, h5⟩) fun u F' H' g' k' e e2 h' r => by
    have e := flat_root e
    have e2 := flat_root e2
    subst e e2
    exact q u F' H' h' r
end

/-! ### readings, step by step -/
section
variable {K : Fg} {F H : Hp} {σ : L2.St} {Q : VK} {D : Ends} {t u : TS} {te ta tb tc : TE} {g : TG} {wi : TI} {tt tu : TT} {vs : List Nat} {R : It → Hp → Prop} {QT : Bool → Hp → Prop} {QA : List V → Hp → Prop} {r r' : R2} {tA tR : TA}
theorem S_seq (h : t { D with nx := u D } σ H) : tSeq t u D σ H := h
theorem S_asg (h : te σ H fun x H1 => g x σ H1 D.nx) : tAsg te g D σ H := h
theorem S_ret (h : te σ H D.rt) : tRet te D σ H := h
theorem S_drop (h : te σ H fun _ H1 => D.nx σ H1) : tDrop te D σ H := h
theorem S_for (h : wi σ H fun J H1 => ForG J g t D σ H1) : tFor wi g t D σ H := h
theorem S_lc (h : wi σ H fun J H1 => LcG J g tt te vs σ H1 Q) : tLc wi g tt te vs σ H Q := h
theorem S_if (h : tt σ H fun b H1 => if b = true then t D σ H1 else u D σ H1) : tIfS tt t u D σ H := h
theorem S_test (h : te σ H fun x H1 => ∃ k, x = .bl k ∧ QT k H1) : tTest te σ H QT := h
theorem S_tB (h : te σ H fun x H1 => ∃ k, x = .bl k ∧ QT k H1) : tB te σ H QT := h
theorem S_bl {k : Bool} (h : QT k H) : ∃ k', V.bl k = .bl k' ∧ QT k' H := ⟨k, rfl, h⟩
theorem S_op (h : ta σ H fun x H1 => tb σ H1 fun y H2 => r x y H2 Q) : tOp r ta tb σ H Q := h
theorem S_un {ru : V → Hp → VK → Prop} (h : ta σ H fun x H1 => ru x H1 Q) : tUn ru ta σ H Q := h
theorem S_cons (h : ta σ H fun x H1 => tR σ H1 fun xs H2 => QA (x :: xs) H2) : tCons ta tR σ H QA := h
theorem S_nil (h : QA [] H) : tNil σ H QA := h
theorem S_c {v : V} (h : Q v H) : tC v σ H Q := h
def TupG (xs : List V) (H1 : Hp) (Q : VK) : Prop := xs.length ≤ sizeLine ∧ ∀ p, H1 p = none → Q (.ref p) (upd H1 p (.tup xs))
def LstG (xs : List V) (H1 : Hp) (Q : VK) : Prop := xs.length ≤ sizeLine ∧ ∀ p, H1 p = none → Q (.ref p) (upd H1 p (.lst xs))
theorem S_tT (h : tA σ H fun xs H1 => TupG xs H1 Q) : tTup tA σ H Q := h
theorem S_tL (h : tA σ H fun xs H1 => LstG xs H1 Q) : tLst tA σ H Q := h
theorem S_cb {rc : List V → Hp → VK → Prop} (h : tA σ H fun xs H1 => rc xs H1 Q) : tCB rc tA σ H Q := h
theorem S_tcall {sp : Sp} {E : XK} (h : tA σ H fun xs H1 => sp xs H1 Q E) : tCall sp [] E tA σ H Q := by
  have e : (fun xs H1 => sp (xs ++ []) H1 Q E) = fun xs H1 => sp xs H1 Q E := funext fun xs => funext fun H1 => by rw [List.append_nil]
  show tA σ H fun xs H1 => sp (xs ++ []) H1 Q E
  rw [e]
  exact h
def ZipG (K : Fg) (vs : List V) (H1 : Hp) (R : It → Hp → Prop) : Prop := ∃ a b xs ys, vs = [.ref a, .ref b] ∧ ((SqL K H1 a xs ∧ SqL K H1 b ys ∧ R (Itz K a b) H1) ∨ (SqT K H1 a xs ∧ SqT K H1 b ys ∧ R (RZ.ItzT K a b) H1))
def EnuG (K : Fg) (vs : List V) (H1 : Hp) (R : It → Hp → Prop) : Prop := ∃ a xs, vs = [.ref a] ∧ SqL K H1 a xs ∧ R (Ite K a) H1
def RngG1 (vs : List V) (H1 : Hp) (R : It → Hp → Prop) : Prop := ∃ j : Int, vs = [.int j] ∧ -(2 ^ 62) ≤ j ∧ j < 2 ^ 62 ∧ R (Itr 0 j.toNat) H1
def RngG2 (vs : List V) (H1 : Hp) (R : It → Hp → Prop) : Prop := ∃ i j : Int, vs = [.int i, .int j] ∧ (-(2 ^ 62) ≤ i ∧ i < 2 ^ 62 ∧ -(2 ^ 62) ≤ j ∧ j < 2 ^ 62) ∧ R (Itr i (j - i).toNat) H1
def ItLG (K : Fg) (x : V) (H1 : Hp) (R : It → Hp → Prop) : Prop := ∃ a, x = .ref a ∧ (∃ xs, SqL K H1 a xs) ∧ R (Itl K a) H1
def ItTG (K : Fg) (x : V) (H1 : Hp) (R : It → Hp → Prop) : Prop := ∃ a, x = .ref a ∧ (∃ xs, SqT K H1 a xs) ∧ R (Itt K a) H1
theorem S_iZ (h : tA σ H fun xs H1 => ZipG K xs H1 R) : RZ.iZipA K tA σ H R := h
theorem S_iE (h : tA σ H fun xs H1 => EnuG K xs H1 R) : iEnum K tA σ H R := h
theorem S_iR1 (h : tA σ H fun xs H1 => RngG1 xs H1 R) : iRng1 tA σ H R := h
theorem S_iR2 (h : tA σ H fun xs H1 => RngG2 xs H1 R) : iRng2 tA σ H R := h
theorem S_iL (h : te σ H fun x H1 => ItLG K x H1 R) : iList K te σ H R := h
theorem S_iT (h : te σ H fun x H1 => ItTG K x H1 R) : iTup K te σ H R := h
def TyG (K : Fg) (T : String) (x : V) (H : Hp) (P : Prop) : Prop := tyV K T x H ∧ P
theorem S_bm {T : String} {rm : V → List V → Hp → VK → Prop} (h : ta σ H fun x H1 => TyG K T x H1 (tA σ H1 fun xs H2 => rm x xs H2 Q)) : tBM K T rm ta tA σ H Q := h
theorem S_bm0 {T : String} {rm : V → List V → Hp → VK → Prop} (h : ta σ H fun x H1 => TyG K T x H1 (rm x [] H1 Q)) : tBM0 K T rm ta σ H Q := h
theorem S_gName {i : Nat} {v : V} {QS : L2.St → Hp → Prop} (h : QS (σ.set i (some v)) H) : gName i v σ H QS := h
theorem S_gCons {tg : TG} {tr : TGs} {v : V} {rest : List V} {QS : L2.St → Hp → Prop} (h : tg v σ H fun σ' H' => tr rest σ' H' QS) : gCons tg tr (v :: rest) σ H QS := ⟨v, rest, rfl, h⟩
theorem S_gNil {QS : L2.St → Hp → Prop} (h : QS σ H) : gNil [] σ H QS := ⟨rfl, h⟩
theorem S_gSub {to ti : TE} {ts : TSet} {v : V} {QS : L2.St → Hp → Prop} (h : to σ H fun o H1 => ti σ H1 fun i H2 => ts o i v H2 fun H3 => QS σ H3) : gSub to ti ts v σ H QS := h
end

/-! ### operations -/
section
variable {K : Fg} {B : Base} {F H : Hp} {w : List (Option V)} {σ : L2.St} {M : List Slot} {Q : VK} {α β : Type} [Rp α] [Rp β]
theorem S_I0 {gf : Int → Int → V} {i j : Int} (q : Q (gf i j) H) : rI0 gf (.int i) (.int j) H Q := ⟨i, j, rfl, rfl, q⟩
theorem S_I {C : Int → Int → Prop} {gf : Int → Int → V} {i j : Int} (hc : C i j) (q : Q (gf i j) H) : rI C gf (.int i) (.int j) H Q := ⟨i, j, rfl, rfl, hc, q⟩
theorem S_neg {gf : Int → V} {i : Int} (q : Q (gf i) H) : (fun x H Q => ∃ i, x = V.int i ∧ Q (gf i) H : V → Hp → VK → Prop) (.int i) H Q := ⟨i, rfl, q⟩
theorem dec_eq {γ : Type} [DecidableEq γ] {c : γ → V} (inj : ∀ a b, c a = c b → a = b) {i j : γ} : decide (c i = c j) = decide (i = j) := by
  by_cases h : i = j
  · rw [decide_eq_true h, decide_eq_true (by rw [h])]
  · rw [decide_eq_false h, decide_eq_false fun z => h (inj _ _ z)]
theorem S_eqI {i j : Int} (q : Q (.bl (decide (i = j))) H) : rEq (.int i) (.int j) H Q := ⟨rfl, by rw [dec_eq (c := V.int) fun _ _ => V.int.inj]; exact q⟩
theorem S_neI {i j : Int} (q : Q (.bl (!decide (i = j))) H) : rNe (.int i) (.int j) H Q := ⟨rfl, by rw [dec_eq (c := V.int) fun _ _ => V.int.inj]; exact q⟩
theorem S_eqB {i j : Bool} (q : Q (.bl (decide (i = j))) H) : rEq (.bl i) (.bl j) H Q := ⟨rfl, by rw [dec_eq (c := V.bl) fun _ _ => V.bl.inj]; exact q⟩
theorem S_neB {i j : Bool} (q : Q (.bl (!decide (i = j))) H) : rNe (.bl i) (.bl j) H Q := ⟨rfl, by rw [dec_eq (c := V.bl) fun _ _ => V.bl.inj]; exact q⟩
theorem S_eqS {i j : Str} (q : Q (.bl (decide (i = j))) H) : rEq (.str i) (.str j) H Q := ⟨rfl, by rw [dec_eq (c := V.str) fun _ _ => V.str.inj]; exact q⟩
theorem S_neS {i j : Str} (q : Q (.bl (!decide (i = j))) H) : rNe (.str i) (.str j) H Q := ⟨rfl, by rw [dec_eq (c := V.str) fun _ _ => V.str.inj]; exact q⟩
/-- (a, b, ..) of one kind -/
theorem S_tup {xs : List α} {vs : List V} (h : St K B F H w M) (hv : Paired (rp K F) vs xs) (hz : xs.length ≤ 100000) (q : ∀ p F' H', St K B F' H' (some (.ref p) :: w) (.fz (Tup.mk xs) :: M) → Q (.ref p) H') : TupG vs H Q := by
  have hl : vs.length ≤ sizeLine := by
    rw [Paired.length hv]
    exact Nat.le_trans hz (by decide)
  refine ⟨hl, fun p hp => ?_⟩
  have en : Ex F (upd F p (.tup vs)) := Ex.new (fresh_back h.fh hp)
  exact q p _ _ ((h.newF hp).push ⟨p, vs, rfl, .inl upd_same, hl, paired_mono en hv⟩)
/-- (a, b) -/
theorem S_pair {x : α} {y : β} {v u : V} (h : St K B F H w M) (hv : rp K F v x) (hu : rp K F u y) (q : ∀ p F' H', St K B F' H' (some (.ref p) :: w) (.fz (x, y) :: M) → Q (.ref p) H') : TupG [v, u] H Q := by
  refine ⟨by show 2 ≤ sizeLine; decide, fun p hp => ?_⟩
  have en : Ex F (upd F p (.tup [v, u])) := Ex.new (fresh_back h.fh hp)
  exact q p _ _ ((h.newF hp).push ⟨p, v, u, rfl, .inl upd_same, Rp.mono en hv, Rp.mono en hu⟩)
/-- [a, b, ..] frozen; owned -/
theorem S_lst {xs : List α} {vs : List V} (h : St K B F H w M) (hv : Paired (rp K F) vs xs) (hz : xs.length ≤ 100000) (q : ∀ p F' H', St K B F' H' (some (.ref p) :: w) (.fz xs :: M) → Q (.ref p) H') : LstG vs H Q := by
  have hl : vs.length ≤ sizeLine := by
    rw [Paired.length hv]
    exact Nat.le_trans hz (by decide)
  refine ⟨hl, fun p hp => ?_⟩
  have en : Ex F (upd F p (.lst vs)) := Ex.new (fresh_back h.fh hp)
  exact q p _ _ ((h.newF hp).push ⟨p, vs, rfl, upd_same, hl, paired_mono en hv⟩)
theorem St.freshB {p : Addr} (h : St K B F H w M) (hp : H p = none) : B.H p = none := by
  cases q : B.H p with
  | none => rfl
  | some o => exact absurd hp (h.tr p (by rw [q]; simp))
theorem S_lstO {xs : List α} {vs : List V} (h : St K B F H w M) (hv : Paired (rp K F) vs xs) (hz : xs.length ≤ 100000) (q : ∀ p F' H', B.H p = none → St K B F' H' (some (.ref p) :: w) (.own p xs :: M) → Q (.ref p) H') : LstG vs H Q := by
  have hl : vs.length ≤ sizeLine := by
    rw [Paired.length hv]
    exact Nat.le_trans hz (by decide)
  exact ⟨hl, fun p hp => q p _ _ (h.freshB hp) (h.pushO hp ⟨vs, rfl, hl, hv⟩)⟩
/-- t + u -/
def catT {α : Type} (x y : Tup α) : Option (Tup α) := if x.l.length + y.l.length ≤ 1000000 then some ⟨x.l ++ y.l⟩ else none
theorem catT_some {α : Type} {x y z : Tup α} (h : catT x y = some z) : x.l.length + y.l.length ≤ 1000000 ∧ z = ⟨x.l ++ y.l⟩ := by
  unfold catT at h
  split at h
  · exact ⟨by assumption, (Option.some.inj h).symm⟩
  · cases h
theorem paired_append {R : V → α → Prop} : ∀ {vs us : List V} {xs ys : List α}, Paired R vs xs → Paired R us ys → Paired R (vs ++ us) (xs ++ ys)
  | _, _, _, _, .nil, k => k
  | _, _, _, _, .cons r t, k => .cons r (paired_append t k)
theorem S_catT {x y z : Tup α} {v u : V} (h : St K B F H w M) (hv : rp K F v x) (hu : rp K F u y) (hm : catT x y = some z) (q : ∀ t F' H', St K B F' H' (some t :: w) (.fz z :: M) → Q t H') : rCatA K v u H Q := by
  obtain ⟨hz, rfl⟩ := catT_some hm
  obtain ⟨a, vs, rfl, h2, h3, h4⟩ := hv
  obtain ⟨b, us, rfl, k2, k3, k4⟩ := hu
  have l1 : vs.length = x.l.length := Paired.length h4
  have l2 : us.length = y.l.length := Paired.length k4
  have hl : vs.length + us.length ≤ sizeLine := Nat.le_trans (by omega : _ ≤ 1000000) (by decide)
  refine ⟨a, b, vs, us, rfl, rfl, ex_t h.fh h2.sq, ex_t h.fh k2.sq, hl, fun e => ?_, fun _ e => ?_, fun _ _ p hp => ?_⟩
  · subst e
    have ex : x.l = [] := by cases x with | mk l => cases l with | nil => rfl | cons _ _ => simp at l1
    rw [ex] at q
    exact q _ _ _ (h.push ⟨b, us, rfl, k2, k3, k4⟩)
  · subst e
    have ey : y.l = [] := by cases y with | mk l => cases l with | nil => rfl | cons _ _ => simp at l2
    rw [ey, List.append_nil] at q
    exact q _ _ _ (h.push ⟨a, vs, rfl, h2, h3, h4⟩)
  · have en : Ex F (upd F p (.tup (vs ++ us))) := Ex.new (fresh_back h.fh hp)
    exact q _ _ _ ((h.newF hp).push ⟨p, vs ++ us, rfl, .inl upd_same, by rw [List.length_append]; exact hl, paired_mono en (paired_append h4 k4)⟩)
/-- xs + ys, lists -/
def catL {α : Type} (x y : List α) : Option (List α) := if x.length + y.length ≤ 1000000 then some (x ++ y) else none
theorem catL_some {α : Type} {x y z : List α} (h : catL x y = some z) : x.length + y.length ≤ 1000000 ∧ z = x ++ y := by
  unfold catL at h
  split at h
  · exact ⟨by assumption, (Option.some.inj h).symm⟩
  · cases h
theorem S_catLO {x y z : List α} {v u : V} (h : St K B F H w M) (hv : ViewL K F H v x) (hu : ViewL K F H u y) (hm : catL x y = some z) (q : ∀ p F' H', B.H p = none → St K B F' H' (some (.ref p) :: w) (.own p z :: M) → Q (.ref p) H') : rCat v u H Q := by
  obtain ⟨hz, rfl⟩ := catL_some hm
  obtain ⟨a, vs, rfl, h2, h3, h4⟩ := hv
  obtain ⟨b, us, rfl, k2, k3, k4⟩ := hu
  have l1 : vs.length = x.length := Paired.length h4
  have l2 : us.length = y.length := Paired.length k4
  have hl : vs.length + us.length ≤ sizeLine := Nat.le_trans (by omega : _ ≤ 1000000) (by decide)
  exact ⟨a, b, vs, us, rfl, rfl, h2, k2, hl, fun p hp => q p _ _ (h.freshB hp) (h.pushO hp ⟨vs ++ us, rfl, by rw [List.length_append]; exact hl, paired_append h4 k4⟩)⟩
/-- a new list of one's own is frozen at once -/
theorem S_frz {zs : List α} {D : Addr} (h : St K B F H (some (.ref D) :: w) (.own D zs :: M)) (hB : B.H D = none) (P : Prop) (q : ∀ F', St K B F' H (some (.ref D) :: w) (.fz zs :: M) → P) : P := by
  obtain ⟨F', h'⟩ := h.frz hB
  exact q F' h'
/-! ### subscripts -/
theorem paired_atI {R : V → α → Prop} {vs : List V} {xs : List α} {i : Int} {y : α} (h : Paired R vs xs) (e : atI xs i = some y) : ∃ v, atI vs i = some v ∧ R v y := by
  have hl : vs.length = xs.length := Paired.length h
  unfold atI at e ⊢
  rw [hl]
  cases q : ixN xs.length i with
  | none => rw [q] at e; cases e
  | some j =>
    rw [q] at e
    exact Paired.at h e
theorem S_ixL {x : List α} {v : V} {i : Int} {y : α} (h : St K B F H w M) (hv : ViewL K F H v x) (hm : atI x i = some y) (q : ∀ u, St K B F H (some u :: w) (.fz y :: M) → Q u H) : rIxL K v (.int i) H Q := by
  obtain ⟨a, vs, rfl, h2, h3, h4⟩ := hv
  obtain ⟨u, e, r⟩ := paired_atI h4 hm
  exact ⟨a, vs, i, u, rfl, rfl, .inl (.inl h2), e, q u (h.push r)⟩
theorem S_ixT {x : Tup α} {v : V} {i : Int} {y : α} (h : St K B F H w M) (hv : rp K F v x) (hm : atI x.l i = some y) (q : ∀ u, St K B F H (some u :: w) (.fz y :: M) → Q u H) : rIxT K v (.int i) H Q := by
  obtain ⟨a, vs, rfl, h2, h3, h4⟩ := hv
  obtain ⟨u, e, r⟩ := paired_atI h4 hm
  exact ⟨a, vs, i, u, rfl, rfl, ex_t h.fh h2.sq, e, q u (h.push r)⟩
theorem S_ixP0 {x : α × β} {v : V} (h : St K B F H w M) (hv : rp K F v x) (q : ∀ u, St K B F H (some u :: w) (.fz x.1 :: M) → Q u H) : rIxT K v (.int 0) H Q := by
  obtain ⟨a, v1, v2, rfl, h2, h3, h4⟩ := hv
  exact ⟨a, [v1, v2], 0, v1, rfl, rfl, ex_t h.fh h2.sq, rfl, q v1 (h.push h3)⟩
theorem S_ixP1 {x : α × β} {v : V} (h : St K B F H w M) (hv : rp K F v x) (q : ∀ u, St K B F H (some u :: w) (.fz x.2 :: M) → Q u H) : rIxT K v (.int 1) H Q := by
  obtain ⟨a, v1, v2, rfl, h2, h3, h4⟩ := hv
  exact ⟨a, [v1, v2], 1, v2, rfl, rfl, ex_t h.fh h2.sq, rfl, q v2 (h.push h4)⟩
theorem S_ixScr {x : Scr} {v : V} {i y : Int} (h : St K B F H w M) (hv : rp K F v x) (hm : atI x.l i = some y) (q : Q (.int y) H) : rIxL K v (.int i) H Q := by
  obtain ⟨a, rfl, h2, h3⟩ := hv
  refine ⟨a, _, i, .int y, rfl, rfl, ex_l h.fh h2, ?_, q⟩
  unfold atI at hm ⊢
  rw [List.length_map]
  cases e : ixN x.l.length i with
  | none => rw [e] at hm; cases hm
  | some j =>
    rw [e] at hm
    show (x.l.map V.int)[j]? = some (.int y)
    rw [List.getElem?_map, show x.l[j]? = some y from hm]
    rfl
/-! ### calls of what is built in -/
def rLenG (K : Fg) : List V → Hp → VK → Prop := fun xs H Q => ∃ p ys, xs = [.ref p] ∧ (SqL K H p ys ∨ SqT K H p ys) ∧ Q (.int ys.length) H
theorem cr_lenG {X : Cx} : CallR X (.builtin "len") (rLenG X.K) := call_len_seq
theorem S_lenL {x : List α} {v : V} (hv : ViewL K F H v x) (q : Q (.int (x.length : Int)) H) : rLenG K [v] H Q := by
  obtain ⟨a, vs, rfl, h2, h3, h4⟩ := hv
  exact ⟨a, vs, rfl, .inl (.inl (.inl h2)), by rw [Paired.length h4]; exact q⟩
theorem S_lenT {x : Tup α} {v : V} (h : St K B F H w M) (hv : rp K F v x) (q : Q (.int (x.l.length : Int)) H) : rLenG K [v] H Q := by
  obtain ⟨a, vs, rfl, h2, h3, h4⟩ := hv
  exact ⟨a, vs, rfl, .inr (ex_t h.fh h2.sq), by rw [Paired.length h4]; exact q⟩
theorem S_lenScr {x : Scr} {v : V} (h : St K B F H w M) (hv : rp K F v x) (q : Q (.int (x.l.length : Int)) H) : rLenG K [v] H Q := by
  obtain ⟨a, rfl, h2, h3⟩ := hv
  exact ⟨a, _, rfl, .inl (ex_l h.fh h2), by rw [List.length_map]; exact q⟩
def pyAbs (i : Int) : Int := if i < 0 then -i else i
def pyMax (i j : Int) : Int := if j > i then j else i
def pyMin (i j : Int) : Int := if j < i then j else i
def rAbsG : List V → Hp → VK → Prop := fun xs H Q => ∃ i, xs = [.int i] ∧ Q (.int (pyAbs i)) H
def rMaxG : List V → Hp → VK → Prop := fun xs H Q => ∃ i j, xs = [.int i, .int j] ∧ Q (.int (pyMax i j)) H
def rMinG : List V → Hp → VK → Prop := fun xs H Q => ∃ i j, xs = [.int i, .int j] ∧ Q (.int (pyMin i j)) H
theorem cr_absG {X : Cx} : CallR X (.builtin "abs") rAbsG := call_abs
theorem cr_maxG {X : Cx} (hc : X.calm = true) : CallR X (.builtin "max") rMaxG := call_max2 hc
theorem cr_minG {X : Cx} (hc : X.calm = true) : CallR X (.builtin "min") rMinG := call_min2 hc
theorem S_abs {i : Int} (q : Q (.int (pyAbs i)) H) : rAbsG [.int i] H Q := ⟨i, rfl, q⟩
theorem S_max {i j : Int} (q : Q (.int (pyMax i j)) H) : rMaxG [.int i, .int j] H Q := ⟨i, j, rfl, q⟩
theorem S_min {i j : Int} (q : Q (.int (pyMin i j)) H) : rMinG [.int i, .int j] H Q := ⟨i, j, rfl, q⟩
def rDivG : List V → Hp → VK → Prop := fun xs H Q => ∃ i j, xs = [.int i, .int j] ∧ CDiv i j ∧ ∀ p, H p = none → Q (.ref p) (upd H p (.tup [.int (i / j), .int (i % j)]))
theorem cr_divG {X : Cx} : CallR X (.builtin "divmod") rDivG := call_divmod
def divmodO (i j : Int) : Option (Int × Int) := if 0 < j ∧ j < 1073741824 then some (i / j, i % j) else none
theorem S_divmod {i j : Int} {z : Int × Int} (h : St K B F H w M) (hm : divmodO i j = some z) (q : ∀ p F' H', St K B F' H' (some (.ref p) :: w) (.fz z :: M) → Q (.ref p) H') : rDivG [.int i, .int j] H Q := by
  unfold divmodO at hm
  split at hm
  · rename_i hc
    have e := Option.some.inj hm
    subst e
    refine ⟨i, j, rfl, hc, fun p hp => q p _ _ ((h.newF hp).push ⟨p, _, _, rfl, .inl upd_same, rfl, rfl⟩)⟩
  · cases hm
def modO (i j : Int) : Option Int := if 0 < j then some (i % j) else none
def fdivO (i j : Int) : Option Int := if 0 < j ∧ j < 1073741824 then some (i / j) else none
def mulO (i j : Int) : Option Int := if (-(2 ^ 64) < i ∧ i < 2 ^ 64) ∨ (-(2 ^ 64) < j ∧ j < 2 ^ 64) then some (i * j) else none
theorem S_mod {i j z : Int} (hm : modO i j = some z) (q : Q (.int z) H) : rI (fun _ j => 0 < j) (fun i j => .int (i % j)) (.int i) (.int j) H Q := by
  unfold modO at hm
  split at hm
  · have e := Option.some.inj hm
    subst e
    exact ⟨i, j, rfl, rfl, by assumption, q⟩
  · cases hm
theorem S_fdiv {i j z : Int} (hm : fdivO i j = some z) (q : Q (.int z) H) : rI CDiv (fun i j => .int (i / j)) (.int i) (.int j) H Q := by
  unfold fdivO at hm
  split at hm
  · have e := Option.some.inj hm
    subst e
    exact ⟨i, j, rfl, rfl, by assumption, q⟩
  · cases hm
theorem S_mul {i j z : Int} (hm : mulO i j = some z) (q : Q (.int z) H) : rI CMul (fun i j => .int (i * j)) (.int i) (.int j) H Q := by
  unfold mulO at hm
  split at hm
  · have e := Option.some.inj hm
    subst e
    exact ⟨i, j, rfl, rfl, by assumption, q⟩
  · cases hm
def rTupG (K : Fg) : List V → Hp → VK → Prop := fun xs H Q => ∃ p ys, xs = [.ref p] ∧ ((SqL K H p ys ∧ ∀ l, H l = none → Q (.ref l) (upd H l (.tup ys))) ∨ (SqT K H p ys ∧ Q (.ref p) H))
theorem cr_tupG {X : Cx} : CallR X (.type "tuple") (rTupG X.K) := call_tuple_of
theorem S_tupL {x : List α} {v : V} (h : St K B F H w M) (hv : ViewL K F H v x) (q : ∀ p F' H', St K B F' H' (some (.ref p) :: w) (.fz (Tup.mk x) :: M) → Q (.ref p) H') : rTupG K [v] H Q := by
  obtain ⟨a, vs, rfl, h2, h3, h4⟩ := hv
  refine ⟨a, vs, rfl, .inl ⟨.inl (.inl h2), fun p hp => ?_⟩⟩
  have en : Ex F (upd F p (.tup vs)) := Ex.new (fresh_back h.fh hp)
  exact q p _ _ ((h.newF hp).push ⟨p, vs, rfl, .inl upd_same, h3, paired_mono en h4⟩)
theorem S_tupT {x : Tup α} {v : V} (h : St K B F H w M) (hv : rp K F v x) (q : ∀ p F' H', St K B F' H' (some p :: w) (.fz x :: M) → Q p H') : rTupG K [v] H Q := by
  obtain ⟨a, vs, rfl, h2, h3, h4⟩ := hv
  exact ⟨a, vs, rfl, .inr ⟨ex_t h.fh h2.sq, q _ _ _ (h.push ⟨a, vs, rfl, h2, h3, h4⟩)⟩⟩
def rListG (K : Fg) : List V → Hp → VK → Prop := fun xs H Q => ∃ p ys, xs = [.ref p] ∧ (SqL K H p ys ∨ SqT K H p ys) ∧ ∀ l, H l = none → Q (.ref l) (upd H l (.lst ys))
theorem cr_listG {X : Cx} : CallR X (.type "list") (rListG X.K) := call_list_of
theorem S_listL {x : List α} {v : V} (h : St K B F H w M) (hv : ViewL K F H v x) (q : ∀ p F' H', B.H p = none → St K B F' H' (some (.ref p) :: w) (.own p x :: M) → Q (.ref p) H') : rListG K [v] H Q := by
  obtain ⟨a, vs, rfl, h2, h3, h4⟩ := hv
  exact ⟨a, vs, rfl, .inl (.inl (.inl h2)), fun p hp => q p _ _ (h.freshB hp) (h.pushO hp ⟨vs, rfl, h3, h4⟩)⟩
theorem S_listT {x : Tup α} {v : V} (h : St K B F H w M) (hv : rp K F v x) (q : ∀ p F' H', B.H p = none → St K B F' H' (some (.ref p) :: w) (.own p x.l :: M) → Q (.ref p) H') : rListG K [v] H Q := by
  obtain ⟨a, vs, rfl, h2, h3, h4⟩ := hv
  exact ⟨a, vs, rfl, .inr (ex_t h.fh h2.sq), fun p hp => q p _ _ (h.freshB hp) (h.pushO hp ⟨vs, rfl, h3, h4⟩)⟩
theorem paired_ints {F : Hp} : ∀ {vs : List V} {xs : List Int}, Paired (rp K F) vs xs → vs = xs.map V.int
  | _, _, .nil => rfl
  | _, _, .cons r t => by
    have e : _ = V.int _ := r
    rw [e, paired_ints t]
    rfl
theorem paired_bools {F : Hp} : ∀ {vs : List V} {xs : List Bool}, Paired (rp K F) vs xs → vs = xs.map V.bl
  | _, _, .nil => rfl
  | _, _, .cons r t => by
    have e : _ = V.bl _ := r
    rw [e, paired_bools t]
    rfl
theorem S_all {x : List Bool} {v : V} (hv : ViewL K F H v x) (q : Q (.bl (x.all id)) H) : rAll K [v] H Q := by
  obtain ⟨a, vs, rfl, h2, h3, h4⟩ := hv
  exact ⟨a, x, rfl, by rw [← paired_bools h4]; exact .inl (.inl h2), q⟩
theorem S_any {x : List Bool} {v : V} (hv : ViewL K F H v x) (q : Q (.bl (x.any id)) H) : rAny K [v] H Q := by
  obtain ⟨a, vs, rfl, h2, h3, h4⟩ := hv
  exact ⟨a, x, rfl, by rw [← paired_bools h4]; exact .inl (.inl h2), q⟩
def b2z (b : Bool) : Int := if b then 1 else 0
def rIntG : List V → Hp → VK → Prop := fun xs H Q => (∃ i, xs = [.int i] ∧ Q (.int i) H) ∨ ∃ k, xs = [.bl k] ∧ Q (.int (b2z k)) H
theorem cr_intG {X : Cx} : CallR X (.type "int") rIntG := call_int1
theorem S_intB {b : Bool} (q : Q (.int (b2z b)) H) : rIntG [.bl b] H Q := .inr ⟨b, rfl, q⟩
/-! ### isinstance -/
theorem ty_int {x : Int} : TyX K H (.int x) (.type "int") := .base (.int x)
theorem ty_bool {x : Bool} : TyX K H (.bl x) (.type "bool") := .base (.bl x)
theorem ty_str {x : Str} : TyX K H (.str x) (.type "str") := .base (.str x)
theorem ty_list {x : List α} {v : V} (hv : ViewL K F H v x) : TyX K H v (.type "list") := by
  obtain ⟨a, vs, rfl, h2, _⟩ := hv
  exact .base (.lst h2)
theorem ty_tup {x : Tup α} {v : V} (h : St K B F H w M) (hv : rp K F v x) : TyX K H v (.type "tuple") := by
  obtain ⟨a, vs, rfl, h2, _⟩ := hv
  exact (h2.mono h.fh).ty
theorem ty_pair {x : α × β} {v : V} (h : St K B F H w M) (hv : rp K F v x) : TyX K H v (.type "tuple") := by
  obtain ⟨a, v1, v2, rfl, h2, _⟩ := hv
  exact (h2.mono h.fh).ty
theorem S_isi {v : V} {t u : String} {b : Bool} (ht : TyX K H v (.type t)) (hk : kitB t u = some b) (q : Q (.bl b) H) : rIsi K [v, .ty u] H Q := ⟨v, .ty u, .type t, .type u, b, rfl, .ty u, ht, kit_ty hk, q⟩
/-! ### what a loop walks -/
theorem S_itL {va : V} {x : List α} {R : It → Hp → Prop} (hx : ViewL K F H va x) (q : ∀ a, va = .ref a → R (Itl K a) H) : ItLG K va H R := by
  obtain ⟨a, vs, rfl, h2, h3, h4⟩ := hx
  exact ⟨a, rfl, ⟨vs, .inl (.inl h2)⟩, q a rfl⟩
theorem S_itT {va : V} {x : Tup α} {R : It → Hp → Prop} (h : St K B F H w M) (hx : rp K F va x) (q : ∀ a, va = .ref a → R (Itt K a) H) : ItTG K va H R := by
  obtain ⟨a, vs, rfl, h2, h3, h4⟩ := hx
  exact ⟨a, rfl, ⟨vs, ex_t h.fh h2.sq⟩, q a rfl⟩
theorem S_zipT {va vb : V} {x : Tup α} {y : Tup β} {R : It → Hp → Prop} (h : St K B F H w M) (hx : rp K F va x) (hy : rp K F vb y) (q : ∀ a b, va = .ref a → vb = .ref b → R (RZ.ItzT K a b) H) : ZipG K [va, vb] H R := by
  obtain ⟨a, vs, rfl, h2, h3, h4⟩ := hx
  obtain ⟨b, us, rfl, k2, k3, k4⟩ := hy
  exact ⟨a, b, vs, us, rfl, .inr ⟨ex_t h.fh h2.sq, ex_t h.fh k2.sq, q a b rfl rfl⟩⟩
theorem S_zipL {va vb : V} {x : List α} {y : List β} {R : It → Hp → Prop} (hx : ViewL K F H va x) (hy : ViewL K F H vb y) (q : ∀ a b, va = .ref a → vb = .ref b → R (Itz K a b) H) : ZipG K [va, vb] H R := by
  obtain ⟨a, vs, rfl, h2, h3, h4⟩ := hx
  obtain ⟨b, us, rfl, k2, k3, k4⟩ := hy
  exact ⟨a, b, vs, us, rfl, .inl ⟨.inl (.inl h2), .inl (.inl k2), q a b rfl rfl⟩⟩
theorem S_enum {va : V} {x : List α} {R : It → Hp → Prop} (hx : ViewL K F H va x) (q : ∀ a, va = .ref a → R (Ite K a) H) : EnuG K [va] H R := by
  obtain ⟨a, vs, rfl, h2, h3, h4⟩ := hx
  exact ⟨a, vs, rfl, .inl (.inl h2), q a rfl⟩
def rangeO (n : Int) : Option (List Int) := if -1000000 ≤ n ∧ n < 1000000 then some ((List.range n.toNat).map fun (i : Nat) => (0 : Int) + (i : Int)) else none
def rangeO2 (lo hi : Int) : Option (List Int) := if -1000000 ≤ lo ∧ lo < 1000000 ∧ -1000000 ≤ hi ∧ hi < 1000000 then some ((List.range (hi - lo).toNat).map fun (i : Nat) => lo + (i : Int)) else none
theorem S_rng1 {n : Int} {zs : List Int} {R : It → Hp → Prop} (hm : rangeO n = some zs) (q : ∀ J, Yields K J (fun _ _ => True) zs → R J H) : RngG1 [.int n] H R := by
  unfold rangeO at hm
  split at hm
  · have e := Option.some.inj hm
    subst e
    exact ⟨n, rfl, by omega, by omega, q _ (yields_range 0 n.toNat)⟩
  · cases hm
theorem S_rng2 {lo hi : Int} {zs : List Int} {R : It → Hp → Prop} (hm : rangeO2 lo hi = some zs) (q : ∀ J, Yields K J (fun _ _ => True) zs → R J H) : RngG2 [.int lo, .int hi] H R := by
  unfold rangeO2 at hm
  split at hm
  · have e := Option.some.inj hm
    subst e
    exact ⟨lo, hi, rfl, ⟨by omega, by omega, by omega, by omega⟩, q _ (yields_range lo (hi - lo).toNat)⟩
  · cases hm
end

end G

set_option Elab.async false
set_option linter.all false
set_option maxRecDepth 100000
set_option maxHeartbeats 4000000
/-! G3: sorted lists of names. -/
namespace G
open PySem PySem.Spec PyProof.Rows L2
open Rp (rp)
open Ow (ow)

/-! ### sorting, plainly -/
section
variable {α : Type}
def ins (lt : α → α → Bool) (x : α) : List α → List α
  | [] => [x]
  | y :: ys => if lt x y then x :: y :: ys else y :: ins lt x ys
def isort (lt : α → α → Bool) : List α → List α
  | [] => []
  | x :: xs => ins lt x (isort lt xs)
theorem ins_perm (lt : α → α → Bool) (x : α) : ∀ ys : List α, (ins lt x ys).Perm (x :: ys)
  | [] => .refl _
  | y :: ys => by
    unfold ins
    split
    · exact .refl _
    · exact ((ins_perm lt x ys).cons y).trans (.swap x y ys)
theorem isort_perm (lt : α → α → Bool) : ∀ xs : List α, (isort lt xs).Perm xs
  | [] => .refl _
  | x :: xs => (ins_perm lt x (isort lt xs)).trans ((isort_perm lt xs).cons x)
/-- a strict total order, on those that are P -/
structure Lin (P : α → Prop) (lt : α → α → Bool) : Prop where
  irr : ∀ x, P x → lt x x = false
  tr : ∀ x y z, P x → P y → P z → lt x y = true → lt y z = true → lt x z = true
  tot : ∀ x y, P x → P y → lt x y = false → lt y x = false → x = y
theorem Lin.le_tr {P : α → Prop} {lt : α → α → Bool} (L : Lin P lt) {x y z : α} (px : P x) (py : P y) (pz : P z) (h1 : lt y x = false) (h2 : lt z y = false) : lt z x = false := by
  cases h : lt z x with
  | false => rfl
  | true =>
    cases h3 : lt x y with
    | true => rw [L.tr z x y pz px py h h3] at h2; cases h2
    | false =>
      have e := L.tot x y px py h3 h1
      subst e
      rw [h] at h2
      cases h2
theorem Lin.asym {P : α → Prop} {lt : α → α → Bool} (L : Lin P lt) {x y : α} (px : P x) (py : P y) (h : lt x y = true) : lt y x = false := by
  cases h2 : lt y x with
  | false => rfl
  | true =>
    have := L.tr x y x px py px h h2
    rw [L.irr x px] at this
    cases this
theorem ins_sorted {P : α → Prop} {lt : α → α → Bool} (L : Lin P lt) {x : α} (px : P x) : ∀ {ys : List α}, (∀ y ∈ ys, P y) → ys.Pairwise (fun a b => lt b a = false) → (ins lt x ys).Pairwise (fun a b => lt b a = false)
  | [], _, _ => List.pairwise_singleton ..
  | y :: ys, hp, h => by
    have py := hp y (List.mem_cons_self ..)
    obtain ⟨h1, h2⟩ := List.pairwise_cons.mp h
    unfold ins
    split
    · rename_i hlt
      refine List.pairwise_cons.mpr ⟨fun z hz => ?_, h⟩
      rcases List.mem_cons.mp hz with e | hz
      · rw [e]; exact L.asym px py hlt
      · exact L.le_tr px py (hp z (List.mem_cons_of_mem _ hz)) (L.asym px py hlt) (h1 z hz)
    · rename_i hlt
      refine List.pairwise_cons.mpr ⟨fun z hz => ?_, ins_sorted L px (fun z hz => hp z (List.mem_cons_of_mem _ hz)) h2⟩
      rcases List.mem_cons.mp ((ins_perm lt x ys).mem_iff.mp hz) with e | hz
      · rw [e]; simpa using hlt
      · exact h1 z hz
theorem isort_sorted {P : α → Prop} {lt : α → α → Bool} (L : Lin P lt) : ∀ {xs : List α}, (∀ y ∈ xs, P y) → (isort lt xs).Pairwise (fun a b => lt b a = false)
  | [], _ => .nil
  | x :: xs, hp => ins_sorted L (hp x (List.mem_cons_self ..)) (fun y hy => hp y (List.mem_cons_of_mem _ ((isort_perm lt xs).mem_iff.mp hy))) (isort_sorted L fun y hy => hp y (List.mem_cons_of_mem _ hy))
theorem sorted_uniq {P : α → Prop} {lt : α → α → Bool} (L : Lin P lt) : ∀ {xs ys : List α}, (∀ y ∈ xs, P y) → xs.Perm ys → xs.Pairwise (fun a b => lt b a = false) → ys.Pairwise (fun a b => lt b a = false) → xs = ys
  | [], ys, _, h, _, _ => (List.Perm.eq_nil h.symm).symm
  | x :: xs, [], _, h, _, _ => absurd h.length_eq (by simp)
  | x :: xs, y :: ys, hp, h, h1, h2 => by
    obtain ⟨a1, a2⟩ := List.pairwise_cons.mp h1
    obtain ⟨b1, b2⟩ := List.pairwise_cons.mp h2
    have px := hp x (List.mem_cons_self ..)
    have hy : y ∈ x :: xs := h.mem_iff.mpr (List.mem_cons_self ..)
    have py := hp y hy
    have e1 : lt y x = false := by
      rcases List.mem_cons.mp hy with e | m
      · rw [e]; exact L.irr x px
      · exact a1 y m
    have e2 : lt x y = false := by
      rcases List.mem_cons.mp (h.mem_iff.mp (List.mem_cons_self ..)) with e | m
      · rw [e]; exact L.irr y py
      · exact b1 x m
    have e := L.tot x y px py e2 e1
    subst e
    rw [sorted_uniq L (fun z hz => hp z (List.mem_cons_of_mem _ hz)) h.cons_inv a2 b2]
theorem isort_uniq {P : α → Prop} {lt : α → α → Bool} (L : Lin P lt) {xs ys : List α} (hp : ∀ y ∈ xs, P y) (h : ys.Perm xs) (h1 : ys.Pairwise (fun a b => lt b a = false)) : ys = isort lt xs :=
  sorted_uniq L (fun y hy => hp y (h.mem_iff.mp hy)) (h.trans (isort_perm lt xs).symm) h1 (isort_sorted L hp)
end
/-! ### names: tuples of ints -/
def ltT (x y : Tup Int) : Bool := HT.lexLt x.l y.l
theorem lex_irr : ∀ x : List Int, HT.lexLt x x = false
  | [] => rfl
  | a :: x => by unfold HT.lexLt; rw [if_pos rfl]; exact lex_irr x
theorem lex_tot : ∀ x y : List Int, HT.lexLt x y = false → HT.lexLt y x = false → x = y
  | [], [], _, _ => rfl
  | [], _ :: _, h, _ => by cases h
  | _ :: _, [], _, h => by cases h
  | a :: x, b :: y, h, k => by
    unfold HT.lexLt at h k
    by_cases e : a = b
    · subst e
      rw [if_pos rfl] at h k
      rw [lex_tot x y h k]
    · rw [if_neg e] at h
      rw [if_neg fun z => e z.symm] at k
      have := of_decide_eq_false h
      have := of_decide_eq_false k
      omega
theorem lex_tr : ∀ x y z : List Int, HT.lexLt x y = true → HT.lexLt y z = true → HT.lexLt x z = true
  | _, _, [], _, h => by cases ‹List Int› <;> cases h
  | [], _, _ :: _, _, _ => rfl
  | _ :: _, [], _, h, _ => by cases h
  | a :: x, b :: y, c :: z, h, k => by
    unfold HT.lexLt at h k ⊢
    by_cases e1 : a = b
    · subst e1
      rw [if_pos rfl] at h
      by_cases e2 : a = c
      · subst e2
        rw [if_pos rfl] at k ⊢
        exact lex_tr x y z h k
      · rw [if_neg e2] at k ⊢
        exact k
    · rw [if_neg e1] at h
      have h' := of_decide_eq_true h
      by_cases e2 : b = c
      · subst e2
        rw [if_neg e1]
        exact h
      · rw [if_neg e2] at k
        have k' := of_decide_eq_true k
        rw [if_neg (by omega)]
        exact decide_eq_true (by omega)
theorem lin_ltT : Lin (fun _ => True) ltT := ⟨fun x _ => lex_irr x.l, fun x y z _ _ _ => lex_tr x.l y.l z.l, fun x y _ _ h k => by
  have := lex_tot x.l y.l h k
  cases x; cases y; simp_all⟩
theorem code_le : ∀ (x y : List Int), x.length = y.length → TS.Bd 64 x → TS.Bd 64 y → TS.code 64 x ≤ TS.code 64 y → HT.lexLt y x = false
  | [], [], _, _, _, _ => rfl
  | a :: x, b :: y, hl, bx, by', h => by
    have hl' : x.length = y.length := by simpa using hl
    have bx' : TS.Bd 64 x := fun m hm => bx m (List.mem_cons_of_mem _ hm)
    have by'' : TS.Bd 64 y := fun m hm => by' m (List.mem_cons_of_mem _ hm)
    unfold HT.lexLt
    by_cases e : b = a
    · subst e
      rw [if_pos rfl]
      refine code_le x y hl' bx' by'' ?_
      rcases Int.lt_or_le (TS.code 64 y) (TS.code 64 x) with q | q
      · have := (TS.code_same (d := b) hl'.symm).mpr q
        omega
      · exact q
    · rw [if_neg e]
      refine decide_eq_false fun z => ?_
      have := TS.code_lt hl'.symm by'' bx' z
      omega
  | [], _ :: _, hl, _, _, _ => by simp at hl
  | _ :: _, [], hl, _, _, _ => by simp at hl
/-- names that are sorted: fewer than 64, of one length, of numbers from 0 to 63 -/
def sortT (xs : List (Tup Int)) : Option (List (Tup Int)) :=
  if decide (xs.length < 64) && xs.all (fun x => decide (x.l.length = ((xs.headD ⟨[]⟩).l.length)) && decide (1 ≤ x.l.length) && x.l.all fun i => decide (0 ≤ i ∧ i < 64)) then some (isort ltT xs) else none
/-- the rule, whatever the length -/
def rSortA (K : Fg) : List V → Hp → VK → Prop := fun vs H Q => ∃ d : Nat, 1 ≤ d ∧ rSortU K d 64 vs H Q
theorem cr_sortA {X : Cx} : CallR X (.builtin "sorted") (rSortA X.K) := by
  intro pins s σ H vs us Q I r h
  obtain ⟨d, hd, h⟩ := h
  exact cr_sortT hd pins s σ H vs us Q I r h
theorem paired_perm {α : Type} {R : V → α → Prop} {ys xs : List V} (p : ys.Perm xs) : ∀ {zs : List α}, Paired R xs zs → ∃ ws, Paired R ys ws ∧ ws.Perm zs := by
  induction p with
  | nil => intro zs h; cases h; exact ⟨[], .nil, .refl _⟩
  | cons x p ih =>
    intro zs h
    cases h with
    | cons r t =>
      obtain ⟨ws, h1, h2⟩ := ih t
      exact ⟨_ :: ws, .cons r h1, h2.cons _⟩
  | swap x y l =>
    intro zs h
    cases h with
    | cons r t =>
      cases t with
      | cons r2 t => exact ⟨_ :: _ :: _, .cons r2 (.cons r t), .swap ..⟩
  | trans p1 p2 ih1 ih2 =>
    intro zs h
    obtain ⟨ws, h1, h2⟩ := ih2 h
    obtain ⟨us, h3, h4⟩ := ih1 h1
    exact ⟨us, h3, h4.trans h2⟩
theorem paired_at2 {α β : Type} {R : α → β → Prop} : ∀ {xs : List α} {ys : List β} {i : Nat} {x : α}, Paired R xs ys → xs[i]? = some x → ∃ y, ys[i]? = some y ∧ R x y
  | _, _, _, _, .nil, e => by simp at e
  | _, _, 0, y, .cons r _, e => by
    simp at e
    subst e
    exact ⟨_, rfl, r⟩
  | _, _, i + 1, y, .cons _ t, e => by
    obtain ⟨x, h1, h2⟩ := paired_at2 (i := i) t (by simpa using e)
    exact ⟨x, by simpa using h1, h2⟩
theorem paired_mem {α : Type} {R : V → α → Prop} {xs : List V} {ys : List α} (h : Paired R xs ys) {x : V} (m : x ∈ xs) : ∃ y, y ∈ ys ∧ R x y := by
  obtain ⟨i, hi⟩ := List.getElem?_of_mem m
  obtain ⟨y, h1, h2⟩ := paired_at2 h hi
  exact ⟨y, List.mem_of_getElem? h1, h2⟩
theorem paired_pw {α : Type} {R : V → α → Prop} {S : V → V → Prop} {T : α → α → Prop} (k : ∀ x y a b, R x a → R y b → S x y → T a b) : ∀ {xs : List V} {ys : List α}, Paired R xs ys → xs.Pairwise S → ys.Pairwise T
  | _, _, .nil, _ => .nil
  | _, _, .cons (a := x) (b := a) r t, h => by
    obtain ⟨h1, h2⟩ := List.pairwise_cons.mp h
    refine List.pairwise_cons.mpr ⟨fun b hb => ?_, paired_pw k t h2⟩
    obtain ⟨i, hi⟩ := List.getElem?_of_mem hb
    obtain ⟨y, g1, g2⟩ := Paired.at t hi
    exact k x y a b r g2 (h1 y (List.mem_of_getElem? g1))
section
variable {K : Fg} {B : Base} {F H : Hp} {w : List (Option V)} {M : List Slot} {Q : VK}
theorem S_sortT {xs zs : List (Tup Int)} {v : V} (h : St K B F H w M) (hv : ViewL K F H v xs) (hm : sortT xs = some zs) (q : ∀ p F' H', B.H p = none → St K B F' H' (some (.ref p) :: w) (.own p zs :: M) → Q (.ref p) H') : rSortA K [v] H Q := by
  unfold sortT at hm
  split at hm
  · rename_i hc
    have hz := Option.some.inj hm
    subst hz
    rw [Bool.and_eq_true] at hc
    obtain ⟨h64, hall⟩ := hc
    have h64 := of_decide_eq_true h64
    obtain ⟨a, vs, rfl, h2, h3, h4⟩ := hv
    have hl : vs.length = xs.length := Paired.length h4
    have hx : ∀ x ∈ xs, x.l.length = (xs.headD ⟨[]⟩).l.length ∧ 1 ≤ x.l.length ∧ TS.Bd 64 x.l := fun x m => by
      have := List.all_eq_true.mp hall x m
      simp only [Bool.and_eq_true, decide_eq_true_eq, List.all_eq_true] at this
      exact ⟨this.1.1, this.1.2, fun i hi => this.2 i hi⟩
    have hT : ∀ x : V, ∀ t : Tup Int, rp K F x t → TupI K H x t.l := fun x t r => by
      obtain ⟨b, us, rfl, k2, k3, k4⟩ := r
      have e := paired_ints k4
      subst e
      exact ⟨b, rfl, ex_t h.fh k2.sq⟩
    refine ⟨max 1 (xs.headD ⟨[]⟩).l.length, Nat.le_max_left .., a, vs, rfl, .inl (.inl h2), by omega, fun x m => ?_, fun ys p hp hs hpn => ?_⟩
    · obtain ⟨t, ht, r⟩ := paired_mem h4 m
      obtain ⟨e1, e2, e3⟩ := hx t ht
      exact ⟨t.l, hT x t r, by omega, e3⟩
    · obtain ⟨ws, h5, h6⟩ := paired_perm hp h4
      have hw : ∀ t ∈ ws, t ∈ xs := fun t m => h6.mem_iff.mp m
      have e : ws = isort ltT xs := by
        refine isort_uniq lin_ltT (fun _ _ => trivial) h6 ?_
        have key : ws.Pairwise fun a b => TS.code 64 a.l ≤ TS.code 64 b.l := paired_pw (fun x y a b ra rb s => s _ _ (hT x a ra) (hT y b rb)) h5 hs
        exact List.Pairwise.imp_of_mem (fun {a b} ma mb s => code_le a.l b.l (by rw [(hx a (hw a ma)).1, (hx b (hw b mb)).1]) (hx a (hw a ma)).2.2 (hx b (hw b mb)).2.2 s) key
      subst e
      refine q p F _ (h.freshB hpn) (h.pushO hpn ⟨ys, rfl, ?_, h5⟩)
      rw [hp.length_eq]
      exact h3
  · cases hm
end
end G
namespace G
open PySem PySem.Spec PyProof.Rows L2
open Rp (rp)
open Ow (ow)
section
variable {K : Fg} {B : Base} {F H : Hp} {w : List (Option V)} {σ : L2.St} {M : List Slot} {Q : VK} {D : Ends} {t u : TS} {te ta tb : TE} {g : TG} {wi : TI} {tt : TT} {vs : List Nat} {R : It → Hp → Prop}
theorem S_mapO {ts : List (Option V)} {TM : List Slot} {β γ : Type} [Rp β] [Rp γ] {J : It} {P : Hp → Hp → Prop} {ys : List β} {f : β → Option γ} {zs : List γ} (Y : Yields K J P ys) (hm : mapO f ys = some zs) (h : St K B F H (ts ++ σ) (TM ++ M)) (hTM : TM.length = ts.length) (hf : Free M vs)
    (hlen : ys.length ≤ sizeLine) (hP : ∀ w F H, St K B F H (ts ++ w) (TM ++ M) → P F H)
    (turn : ∀ (x : β) (z : γ) v D (acc : List γ) F H (G : V → Hp → Prop) (N : Hp → Prop), f x = some z → St K B F H (some v :: some (.ref D) :: (ts ++ wipe σ vs)) (.fz x :: .own D acc :: (TM ++ M)) →
      (∀ y F' H', St K B F' H' (some (.ref D) :: (ts ++ wipe σ vs)) (.own D acc :: (TM ++ M)) → rp K F' y z → G y H') →
      g v (wipe σ vs) H fun σ2 H2 => wipe σ2 vs = wipe σ vs ∧ if true = true then te σ2 H2 G else N H2)
    (hend : ∀ D F H, B.H D = none → St K B F H (some (.ref D) :: (ts ++ σ)) (.own D zs :: (TM ++ M)) → Q (.ref D) H) : LcG J g tYes te vs σ H Q := by
  have hc : compS (τ := Unit) (fun x s => (f x).bind fun y => some (some y, s)) ys () = some (zs, ()) := by
    rw [compS_map, hm]
    rfl
  refine S_comp (Mf := fun _ : Unit => M) Y hc h hTM (fun _ => hf) hlen (fun _ => hP) (fun i x s p v D acc F H G N hx hp h' hG hN => ?_) fun D F H hB h' => hend D F H hB h'
  obtain ⟨z, hz, hp⟩ := ob hp
  have hp := Option.some.inj hp
  subst hp
  exact turn x z v D acc F H G N hz h' fun y F' H' h'' r => hG y z F' H' rfl h'' r
theorem S_selO {ts : List (Option V)} {TM : List Slot} {β γ : Type} [Rp β] [Rp γ] {J : It} {P : Hp → Hp → Prop} {ys : List β} {p : β → Option Bool} {f : β → Option γ} {zs : List γ} (Y : Yields K J P ys) (hm : selO p f ys = some zs) (h : St K B F H (ts ++ σ) (TM ++ M)) (hTM : TM.length = ts.length) (hf : Free M vs)
    (hlen : ys.length ≤ sizeLine) (hP : ∀ w F H, St K B F H (ts ++ w) (TM ++ M) → P F H)
    (turn : ∀ (x : β) (c : Bool) v D (acc : List γ) F H (G : V → Hp → Prop) (N : Hp → Prop), p x = some c → (c = true → ∃ z, f x = some z) → St K B F H (some v :: some (.ref D) :: (ts ++ wipe σ vs)) (.fz x :: .own D acc :: (TM ++ M)) →
      (∀ y z F' H', c = true → f x = some z → St K B F' H' (some (.ref D) :: (ts ++ wipe σ vs)) (.own D acc :: (TM ++ M)) → rp K F' y z → G y H') →
      (∀ F' H', c = false → St K B F' H' (some (.ref D) :: (ts ++ wipe σ vs)) (.own D acc :: (TM ++ M)) → N H') →
      g v (wipe σ vs) H fun σ2 H2 => wipe σ2 vs = wipe σ vs ∧ tt σ2 H2 fun b H3 => if b = true then te σ2 H3 G else N H3)
    (hend : ∀ D F H, B.H D = none → St K B F H (some (.ref D) :: (ts ++ σ)) (.own D zs :: (TM ++ M)) → Q (.ref D) H) : LcG J g tt te vs σ H Q := by
  have hc : compS (τ := Unit) (fun x s => (p x).bind fun c => if c = true then (f x).bind fun y => some (some y, s) else some (none, s)) ys () = some (zs, ()) := by
    rw [compS_sel, hm]
    rfl
  refine S_comp (Mf := fun _ : Unit => M) Y hc h hTM (fun _ => hf) hlen (fun _ => hP) (fun i x s q v D acc F H G N hx hp h' hG hN => ?_) fun D F H hB h' => hend D F H hB h'
  obtain ⟨c, hc, hp⟩ := ob hp
  cases c with
  | true =>
    obtain ⟨z, hz, hp⟩ := ob (show (f x).bind _ = some q from hp)
    have hp := Option.some.inj hp
    subst hp
    exact turn x true v D acc F H G N hc (fun _ => ⟨z, hz⟩) h' (fun y z' F' H' _ hz' h'' r => hG y z F' H' rfl h'' (by
      rw [hz] at hz'
      cases hz'
      exact r)) fun F' H' e _ => by cases e
  | false =>
    have hp := Option.some.inj (show some (none, s) = some q from hp)
    subst hp
    exact turn x false v D acc F H G N hc (fun e => by cases e) h' (fun y z' F' H' e _ _ _ => by cases e) fun F' H' _ h'' => hN F' H' rfl h''
theorem S_mapS {ts : List (Option V)} {TM : List Slot} {β γ τ : Type} [Rp β] [Rp γ] {J : It} {P : Hp → Hp → Prop} {ys : List β} (Mf : τ → List Slot) {f : β → τ → Option (γ × τ)} {s0 : τ} {zs : List γ × τ} (Y : Yields K J P ys) (hm : mapS f ys s0 = some zs) (h : St K B F H (ts ++ σ) (TM ++ Mf s0)) (hTM : TM.length = ts.length) (hf : ∀ s, Free (Mf s) vs)
    (hlen : ys.length ≤ sizeLine) (hP : ∀ s w F H, St K B F H (ts ++ w) (TM ++ Mf s) → P F H)
    (turn : ∀ (x : β) (s : τ) (z : γ × τ) v D (acc : List γ) F H (G : V → Hp → Prop) (N : Hp → Prop), f x s = some z → St K B F H (some v :: some (.ref D) :: (ts ++ wipe σ vs)) (.fz x :: .own D acc :: (TM ++ Mf s)) →
      (∀ y F' H', St K B F' H' (some (.ref D) :: (ts ++ wipe σ vs)) (.own D acc :: (TM ++ Mf z.2)) → rp K F' y z.1 → G y H') →
      g v (wipe σ vs) H fun σ2 H2 => wipe σ2 vs = wipe σ vs ∧ if true = true then te σ2 H2 G else N H2)
    (hend : ∀ D F H, B.H D = none → St K B F H (some (.ref D) :: (ts ++ σ)) (.own D zs.1 :: (TM ++ Mf zs.2)) → Q (.ref D) H) : LcG J g tYes te vs σ H Q := by
  have hc : compS (fun x s => (f x s).bind fun p => some (some p.1, p.2)) ys s0 = some (zs.1, zs.2) := by
    rw [compS_mapS, hm]
  refine S_comp (Mf := Mf) Y hc h hTM hf hlen hP (fun i x s p v D acc F H G N hx hp h' hG hN => ?_) hend
  obtain ⟨z, hz, hp⟩ := ob hp
  have hp := Option.some.inj hp
  subst hp
  exact turn x s z v D acc F H G N hz h' fun y F' H' h'' r => hG y z.1 F' H' rfl h'' r
theorem view_len {α : Type} [Rp α] {v : V} {xs : List α} (h : ViewL K F H v xs) : xs.length ≤ sizeLine := by
  obtain ⟨a, vs, h1, h2, h3, h4⟩ := h
  have := Paired.length h4
  omega
theorem tup_len {α : Type} [Rp α] {v : V} {xs : Tup α} (h : rp K F v xs) : xs.l.length ≤ sizeLine := by
  obtain ⟨a, vs, h1, h2, h3, h4⟩ := h
  have := Paired.length h4
  omega
/-- a pair goes to two targets -/
theorem S_gPair {α β : Type} [Rp α] [Rp β] {x : α × β} {v : V} {gr : TGs} {Q : L2.St → Hp → Prop} (h : St K B F H w M) (hv : rp K F v x) (q : ∀ v1 v2, St K B F H (some v2 :: some v1 :: w) (.fz x.2 :: .fz x.1 :: M) → gr [v1, v2] σ H Q) : gTup K 2 gr v σ H Q := by
  obtain ⟨a, v1, v2, rfl, h2, h3, h4⟩ := hv
  exact ⟨a, [v1, v2], rfl, ex_t h.fh h2.sq, rfl, q v1 v2 ((h.push h3).push h4)⟩
end

/-! ### equality, of data of any depth -/
class Py (α : Type) [DecidableEq α] extends Rp α where
  toD : α → PyData
  okD : α → Bool
  dep : Nat
  dp : ∀ {K : Fg} {F : Hp} {v : V} {x : α}, toRp.rp K F v x → Dp K F v (toD x)
  eqv : ∀ a b : α, PyData.eqv (toD a) (toD b) = decide (a = b)
  lay : ∀ a : α, okD a = true → (toD a).canLay0 = true
  dpt : ∀ a : α, (toD a).depth ≤ dep
mutual
theorem Dp.mono {K : Fg} {H H' : Hp} (e : Ex H H') : ∀ {v : V} {d : PyData}, Dp K H v d → Dp K H' v d
  | _, _, .non => .non
  | _, _, .bl b => .bl b
  | _, _, .int i => .int i
  | _, _, .str x => .str x
  | _, _, .lst h1 h2 => .lst (ex_l e h1) (DpAll.mono e h2)
  | _, _, .tup h1 h2 => .tup (ex_t e h1) (DpAll.mono e h2)
theorem DpAll.mono {K : Fg} {H H' : Hp} (e : Ex H H') : ∀ {v : List V} {d : List PyData}, DpAll K H v d → DpAll K H' v d
  | _, _, .nil => .nil
  | _, _, .cons h1 h2 => .cons (Dp.mono e h1) (DpAll.mono e h2)
end
theorem dpall {α : Type} [DecidableEq α] [Py α] {K : Fg} {F : Hp} : ∀ {vs : List V} {xs : List α}, Paired (rp K F) vs xs → DpAll K F vs (xs.map Py.toD)
  | _, _, .nil => .nil
  | _, _, .cons r t => .cons (Py.dp r) (dpall t)
theorem eqvAll_map {α : Type} [DecidableEq α] [Py α] : ∀ xs ys : List α, PyData.eqvAll (xs.map Py.toD) (ys.map Py.toD) = decide (xs = ys)
  | [], [] => by simp [PyData.eqvAll]
  | [], _ :: _ => by simp [PyData.eqvAll]
  | _ :: _, [] => by simp [PyData.eqvAll]
  | x :: xs, y :: ys => by
    rw [List.map_cons, List.map_cons, PyData.eqvAll, Py.eqv, eqvAll_map xs ys]
    by_cases h1 : x = y
    · by_cases h2 : xs = ys
      · simp [h1, h2]
      · simp [h1, h2]
    · simp [h1]
theorem layAll_map {α : Type} [DecidableEq α] [Py α] : ∀ xs : List α, xs.all Py.okD = true → PyData.canLayAll0 (xs.map Py.toD) = true
  | [], _ => by simp [PyData.canLayAll0]
  | x :: xs, h => by
    rw [List.all_cons, Bool.and_eq_true] at h
    rw [List.map_cons, PyData.canLayAll0, Py.lay x h.1, layAll_map xs h.2]
    rfl
theorem depthAll_map {α : Type} [DecidableEq α] [Py α] : ∀ xs : List α, PyData.depthAll (xs.map Py.toD) ≤ Py.dep α
  | [] => by simp [PyData.depthAll]
  | x :: xs => by
    rw [List.map_cons, PyData.depthAll]
    exact Nat.max_le.mpr ⟨Py.dpt x, depthAll_map xs⟩
instance : Py Int where
  toD := .int
  okD := fun _ => true
  dep := 0
  dp := fun {K F v x} h => (show v = .int x from h) ▸ .int x
  eqv := fun a b => by
    simp only [PyData.eqv]
    by_cases h : a = b <;> simp [h]
  lay := fun _ _ => by simp [PyData.canLay0]
  dpt := fun _ => by simp [PyData.depth]
instance : Py Bool where
  toD := .bool
  okD := fun _ => true
  dep := 0
  dp := fun {K F v x} h => (show v = .bl x from h) ▸ .bl x
  eqv := fun a b => by cases a <;> cases b <;> simp [PyData.eqv]
  lay := fun _ _ => by simp [PyData.canLay0]
  dpt := fun _ => by simp [PyData.depth]
instance : Py Str where
  toD := .str
  okD := PyData.strOk
  dep := 0
  dp := fun {K F v x} h => (show v = .str x from h) ▸ .str x
  eqv := fun a b => by
    simp only [PyData.eqv]
    by_cases h : a = b <;> simp [h]
  lay := fun _ h => by simp [PyData.canLay0, h]
  dpt := fun _ => by simp [PyData.depth]
instance {α : Type} [DecidableEq α] [Py α] : Py (Tup α) where
  toD := fun x => .tuple (x.l.map Py.toD)
  okD := fun x => x.l.all Py.okD
  dep := Py.dep α + 1
  dp := fun {K F v x} ⟨a, vs, h1, h2, h3, h4⟩ => h1 ▸ .tup h2.sq (dpall h4)
  eqv := fun a b => by
    simp only [PyData.eqv]
    rw [eqvAll_map]
    cases a; cases b
    simp
  lay := fun a h => by simp only [PyData.canLay0]; exact layAll_map a.l h
  dpt := fun a => by simp only [PyData.depth]; exact Nat.succ_le_succ (depthAll_map a.l)
instance {α : Type} [DecidableEq α] [Py α] : Py (List α) where
  toD := fun x => .list (x.map Py.toD)
  okD := fun x => x.all Py.okD
  dep := Py.dep α + 1
  dp := fun {K F v x} ⟨a, vs, h1, h2, h3, h4⟩ => h1 ▸ .lst (.inl (.inl h2)) (dpall h4)
  eqv := fun a b => by
    simp only [PyData.eqv]
    rw [eqvAll_map]
  lay := fun a h => by simp only [PyData.canLay0]; exact layAll_map a h
  dpt := fun a => by simp only [PyData.depth]; exact Nat.succ_le_succ (depthAll_map a)
instance {α β : Type} [DecidableEq α] [Py α] [DecidableEq β] [Py β] : Py (α × β) where
  toD := fun x => .tuple [Py.toD x.1, Py.toD x.2]
  okD := fun x => Py.okD x.1 && Py.okD x.2
  dep := max (Py.dep α) (Py.dep β) + 1
  dp := fun {K F v x} ⟨a, v1, v2, h1, h2, h3, h4⟩ => h1 ▸ .tup h2.sq (.cons (Py.dp h3) (.cons (Py.dp h4) .nil))
  eqv := fun a b => by
    obtain ⟨a1, a2⟩ := a
    obtain ⟨b1, b2⟩ := b
    simp only [PyData.eqv, PyData.eqvAll, Py.eqv]
    by_cases h1 : a1 = b1 <;> by_cases h2 : a2 = b2 <;> simp [h1, h2]
  lay := fun a h => by
    rw [Bool.and_eq_true] at h
    simp only [PyData.canLay0, PyData.canLayAll0, Py.lay _ h.1, Py.lay _ h.2]
    rfl
  dpt := fun a => by
    have h1 := Py.dpt a.1
    have h2 := Py.dpt a.2
    simp only [PyData.depth, PyData.depthAll]
    omega
/-- what is compared: as data at the heap -/
def ViewD {α : Type} [DecidableEq α] [Py α] (K : Fg) (H : Hp) (v : V) (x : α) : Prop := Dp K H v (Py.toD x)
section
variable {K : Fg} {B : Base} {F H : Hp} {w : List (Option V)} {σ : L2.St} {M : List Slot} {Q : VK} {α β : Type} [DecidableEq α] [Py α] [DecidableEq β] [Py β]
theorem dF {x : α} {v : V} (h : St K B F H w M) (r : rp K F v x) : ViewD K H v x := Dp.mono h.fh (Py.dp r)
theorem dL {x : List α} {v : V} (h : St K B F H w M) (r : ViewL K F H v x) : ViewD K H v x := by
  obtain ⟨a, vs, rfl, h2, h3, h4⟩ := r
  exact .lst (.inl (.inl h2)) (DpAll.mono h.fh (dpall h4))
theorem shaped_of {x : α} (h : Py.okD x = true) (hd : Py.dep α ≤ 60) : SeqAt.shaped (Py.toD x) = true := by
  show ((Py.toD x).canLay0 && decide ((Py.toD x).depth ≤ 64)) = true
  rw [Bool.and_eq_true]
  have := Py.dpt x
  exact ⟨Py.lay x h, decide_eq_true (by omega)⟩
def eqO {α : Type} [DecidableEq α] [Py α] (x y : α) : Option Bool := if Py.okD x && Py.okD y then some (decide (x = y)) else none
theorem S_eqD {x y : α} {v u : V} {c : Bool} (hv : ViewD K H v x) (hu : ViewD K H u y) (hm : eqO x y = some c) (hd : Py.dep α ≤ 60) (q : Q (.bl c) H) : rEqD K v u H Q := by
  unfold eqO at hm
  split at hm
  · rename_i hc
    rw [Bool.and_eq_true] at hc
    have e := Option.some.inj hm
    subst e
    exact ⟨_, _, hv, hu, shaped_of hc.1 hd, shaped_of hc.2 hd, by rw [Py.eqv]; exact q⟩
  · cases hm
theorem S_neD {x y : α} {v u : V} {c : Bool} (hv : ViewD K H v x) (hu : ViewD K H u y) (hm : eqO x y = some c) (hd : Py.dep α ≤ 60) (q : Q (.bl (!c)) H) : rNeD K v u H Q := by
  unfold eqO at hm
  split at hm
  · rename_i hc
    rw [Bool.and_eq_true] at hc
    have e := Option.some.inj hm
    subst e
    exact ⟨_, _, hv, hu, shaped_of hc.1 hd, shaped_of hc.2 hd, by rw [Py.eqv]; exact q⟩
  · cases hm
theorem any_map_eqv (x : α) : ∀ xs : List α, ((xs.map Py.toD).any fun z => PyData.eqv z (Py.toD x)) = xs.any fun z => decide (z = x)
  | [] => rfl
  | y :: ys => by
    have ih := any_map_eqv x ys
    rw [List.map_cons, List.any_cons, List.any_cons, Py.eqv, ih]
/-- x in xs, a list -/
def inO {α : Type} [DecidableEq α] [Py α] (x : α) (xs : List α) : Option Bool := if Py.okD x && Py.okD xs then some (xs.any fun z => decide (z = x)) else none
theorem S_inD {x : α} {xs : List α} {v u : V} {c : Bool} (hv : ViewD K H v x) (hu : ViewD K H u xs) (hm : inO x xs = some c) (hd : Py.dep α ≤ 59) (q : Q (.bl c) H) : rInD K v u H Q := by
  unfold inO at hm
  split at hm
  · rename_i hc
    rw [Bool.and_eq_true] at hc
    have e := Option.some.inj hm
    subst e
    refine ⟨_, xs.map Py.toD, hv, hu, shaped_of hc.1 (by omega), shaped_of (α := List α) hc.2 (by show Py.dep α + 1 ≤ 60; omega), ?_⟩
    rw [any_map_eqv]
    exact q
  · cases hm
theorem S_niD {x : α} {xs : List α} {v u : V} {c : Bool} (hv : ViewD K H v x) (hu : ViewD K H u xs) (hm : inO x xs = some c) (hd : Py.dep α ≤ 59) (q : Q (.bl (!c)) H) : rNotInD K v u H Q := by
  unfold inO at hm
  split at hm
  · rename_i hc
    rw [Bool.and_eq_true] at hc
    have e := Option.some.inj hm
    subst e
    refine ⟨_, xs.map Py.toD, hv, hu, shaped_of hc.1 (by omega), shaped_of (α := List α) hc.2 (by show Py.dep α + 1 ≤ 60; omega), ?_⟩
    rw [any_map_eqv]
    exact q
  · cases hm
end

/-! ### and, or, not -/
section
variable {K : Fg} {B : Base} {F H : Hp} {w : List (Option V)} {σ : L2.St} {M : List Slot} {Q : VK} {QT : Bool → Hp → Prop} {ta tb : TE} {tt tu : TT} {a b c : Bool}
theorem S_andV (h : St K B F H w M) (ha : ∀ Q' : VK, (∀ F H, St K B F H w M → Q' (.bl a) H) → ta σ H Q') (hb : a = true → ∀ F H (Q' : VK), St K B F H w M → (∀ F H, St K B F H w M → Q' (.bl c) H) → tb σ H Q') (hc : a = false → c = false)
    (q : ∀ F H, St K B F H w M → Q (.bl c) H) : tAndV ta tb σ H Q := by
  refine ha _ fun F1 H1 h1 => ⟨a, rfl, ?_⟩
  cases a with
  | true => exact hb rfl F1 H1 Q h1 q
  | false => rw [hc rfl] at q; exact q F1 H1 h1
theorem S_orV (h : St K B F H w M) (ha : ∀ Q' : VK, (∀ F H, St K B F H w M → Q' (.bl a) H) → ta σ H Q') (hb : a = false → ∀ F H (Q' : VK), St K B F H w M → (∀ F H, St K B F H w M → Q' (.bl c) H) → tb σ H Q') (hc : a = true → c = true)
    (q : ∀ F H, St K B F H w M → Q (.bl c) H) : tOrV ta tb σ H Q := by
  refine ha _ fun F1 H1 h1 => ⟨a, rfl, ?_⟩
  cases a with
  | true => rw [hc rfl] at q; exact q F1 H1 h1
  | false => exact hb rfl F1 H1 Q h1 q
theorem S_notV (h : ta σ H fun x H1 => ∃ k, x = .bl k ∧ Q (.bl (!k)) H1) : tNotV ta σ H Q := h
theorem S_blV {k : Bool} (h : Q (.bl (!k)) H) : ∃ k', V.bl k = .bl k' ∧ Q (.bl (!k')) H := ⟨k, rfl, h⟩
theorem S_and (h : St K B F H w M) (ha : ∀ Q' : Bool → Hp → Prop, (∀ F H, St K B F H w M → Q' a H) → tt σ H Q') (hb : a = true → ∀ F H (Q' : Bool → Hp → Prop), St K B F H w M → (∀ F H, St K B F H w M → Q' c H) → tu σ H Q') (hc : a = false → c = false)
    (q : ∀ F H, St K B F H w M → QT c H) : tAnd tt tu σ H QT := by
  refine ha _ fun F1 H1 h1 => ?_
  cases a with
  | true => exact hb rfl F1 H1 QT h1 q
  | false => rw [hc rfl] at q; exact q F1 H1 h1
theorem S_or (h : St K B F H w M) (ha : ∀ Q' : Bool → Hp → Prop, (∀ F H, St K B F H w M → Q' a H) → tt σ H Q') (hb : a = false → ∀ F H (Q' : Bool → Hp → Prop), St K B F H w M → (∀ F H, St K B F H w M → Q' c H) → tu σ H Q') (hc : a = true → c = true)
    (q : ∀ F H, St K B F H w M → QT c H) : tOr tt tu σ H QT := by
  refine ha _ fun F1 H1 h1 => ?_
  cases a with
  | true => rw [hc rfl] at q; exact q F1 H1 h1
  | false => exact hb rfl F1 H1 QT h1 q
theorem S_not (h : tt σ H fun c H1 => QT (!c) H1) : tNot tt σ H QT := h
theorem ifT {α : Type} {c : Bool} {x y : α} {z : α} (hc : c = true) (h : (if c = true then x else y) = z) : x = z := by rw [if_pos hc] at h; exact h
theorem ifF {α : Type} {c : Bool} {x y : α} {z : α} (hc : c = false) (h : (if c = true then x else y) = z) : y = z := by rw [if_neg (by rw [hc]; decide)] at h; exact h
theorem if1 {P1 P2 : Prop} (h : P1) : if true = true then P1 else P2 := by rw [if_pos rfl]; exact h
/-- x if c else y: by a test, then either side -/
theorem S_ifX {T : V → Hp → Prop} (h : St K B F H w M) (hc : ∀ Q' : Bool → Hp → Prop, (∀ F H, St K B F H w M → Q' c H) → tt σ H Q') (h1 : c = true → ∀ F H (Q' : VK), St K B F H w M → (∀ v H, T v H → Q' v H) → ta σ H Q') (h2 : c = false → ∀ F H (Q' : VK), St K B F H w M → (∀ v H, T v H → Q' v H) → tb σ H Q')
    (q : ∀ v H, T v H → Q v H) : tIf tt ta tb σ H Q := by
  refine hc _ fun F1 H1 g => ?_
  cases c with
  | true => exact h1 rfl F1 H1 Q g q
  | false => exact h2 rfl F1 H1 Q g q
end

/-! ### lists of one's own that change -/
section
variable {K : Fg} {B : Base} {F H : Hp} {w : List (Option V)} {σ : L2.St} {M : List Slot} {Q : VK} {α : Type} [Rp α]
/-- an object of one's own that is in no slot changes -/
theorem St.updO {a : Addr} {ob : HO} (h : St K B F H w M) (fr : F a = none) (bo : B.H a = none ∨ a ∈ B.may) (no : a ∉ owns M) : St K B F (L2.upd H a ob) w M := by
  refine ⟨fun b o z => ?_, h.f0, h.nf, fun b o z m => ?_, fun b z => ?_, h.ok.move (Ex.refl F) (upd_out h.ok.fo no), h.nd, h.bo⟩
  · rw [upd_ne (ne_of_none z fr)]
    exact h.fh b o z
  · have hne : b ≠ a := fun e => by
      rcases bo with z' | z'
      · rw [e, z'] at z; cases z
      · exact m (by rw [e]; exact z')
    rw [upd_ne hne]
    exact h.h0 b o z m
  · by_cases e : b = a
    · rw [e, upd_same]; simp
    · rw [upd_ne e]; exact h.tr b z
theorem St.setOG (h : St K B F H w M) (i : Nat) {γ β : Type} [Ow γ] [Ow β] {x : γ} {y : β} {a : Addr} {ob : HO} (hM : M[i]? = some (.own a x)) (hy : ow K F ob y) : St K B F (L2.upd H a ob) w (M.set i (.own a y)) := by
  obtain ⟨h0, dj, nd0, bo, hw, fo0, ok0⟩ := h.outT hM
  have ha : a ∈ (flat γ).ads a := List.mem_singleton.mpr rfl
  have h1 := h0.updO (ob := ob) (fo0 a ha) (bo a ha) (dj a ha)
  have h2 := h1.putT (s := flat β) (g := a) (x := y) i (set_any_at hM) hw ⟨ob, upd_same, hy⟩ nd0 dj fo0 bo
  rwa [List.set_set] at h2
theorem St.setO (h : St K B F H w M) (i : Nat) {β : Type} [Ow β] {x y : β} {a : Addr} {ob : HO} (hM : M[i]? = some (.own a x)) (hy : ow K F ob y) : St K B F (L2.upd H a ob) w (M.set i (.own a y)) := h.setOG i hM hy
theorem S_tyL {x : List α} {v : V} {P : Prop} (hv : ViewL K F H v x) (q : P) : TyG K "list" v H P := by
  obtain ⟨a, vs, rfl, h2, _⟩ := hv
  exact ⟨.inl ⟨rfl, vs, .inl (.inl h2)⟩, q⟩
def appO {α : Type} (xs : List α) (x : α) : Option (List α) := if xs.length < 1000000 then some (xs ++ [x]) else none
theorem S_append {xs zs : List α} {x : α} {a : Addr} {v : V} (i : Nat) (h : St K B F H w M) (hM : M[i]? = some (.own a xs)) (hv : rp K F v x) (hm : appO xs x = some zs) (q : ∀ H', St K B F H' w (M.set i (.own a zs)) → Q .non H') : rAppend (.ref a) [v] H Q := by
  unfold appO at hm
  split at hm
  · rename_i hc
    have e := Option.some.inj hm
    subst e
    obtain ⟨_, _, ob, g2, vs, rfl, g4, g5⟩ := h.own i hM
    have hl : vs.length = xs.length := Paired.length g5
    have hlt : vs.length < sizeLine := Nat.lt_of_lt_of_le (by omega : _ < 1000000) (by decide)
    exact ⟨a, vs, v, rfl, rfl, g2, hlt, q _ (h.setO i hM ⟨_, rfl, by rw [List.length_append]; exact hlt, paired_snoc hv g5⟩)⟩
  · cases hm
theorem S_extend {xs ys zs : List α} {a : Addr} {v : V} (i : Nat) (h : St K B F H w M) (hM : M[i]? = some (.own a xs)) (hv : ViewL K F H v ys) (hm : catL xs ys = some zs) (q : ∀ H', St K B F H' w (M.set i (.own a zs)) → Q .non H') : rExtend (.ref a) [v] H Q := by
  obtain ⟨hz, rfl⟩ := catL_some hm
  obtain ⟨_, _, ob, g2, vs, rfl, g4, g5⟩ := h.own i hM
  obtain ⟨b, us, rfl, k2, k3, k4⟩ := hv
  have l1 : vs.length = xs.length := Paired.length g5
  have l2 : us.length = ys.length := Paired.length k4
  have hl : vs.length + us.length ≤ sizeLine := Nat.le_trans (by omega : _ ≤ 1000000) (by decide)
  exact ⟨a, b, vs, us, rfl, rfl, g2, k2, hl, q _ (h.setO i hM ⟨_, rfl, by rw [List.length_append]; exact hl, paired_append g5 k4⟩)⟩
theorem S_clear {xs : List α} {a : Addr} (i : Nat) (h : St K B F H w M) (hM : M[i]? = some (.own a xs)) (q : ∀ H', St K B F H' w (M.set i (.own a ([] : List α))) → Q .non H') : rClear (.ref a) [] H Q := by
  obtain ⟨_, _, ob, g2, vs, rfl, g4, g5⟩ := h.own i hM
  exact ⟨a, vs, rfl, rfl, g2, q _ (h.setO i hM ⟨[], rfl, Nat.zero_le _, .nil⟩)⟩
theorem paired_set {R : V → α → Prop} {v : V} {x : α} (r : R v x) : ∀ {vs : List V} {xs : List α} (j : Nat), Paired R vs xs → Paired R (vs.set j v) (xs.set j x)
  | _, _, _, .nil => .nil
  | _, _, 0, .cons _ t => .cons r t
  | _, _, j + 1, .cons q t => .cons q (paired_set r j t)
def setL {α : Type} (xs : List α) (i : Int) (x : α) : Option (List α) := (ixN xs.length i).bind fun j => some (xs.set j x)
theorem S_setL {xs zs : List α} {x : α} {a : Addr} {v : V} {k : Int} {QS : Hp → Prop} (i : Nat) (h : St K B F H w M) (hM : M[i]? = some (.own a xs)) (hv : rp K F v x) (hm : setL xs k x = some zs) (q : ∀ H', St K B F H' w (M.set i (.own a zs)) → QS H') : rSetL (.ref a) (.int k) v H QS := by
  obtain ⟨j, hj, hm⟩ := ob hm
  have e := Option.some.inj hm
  subst e
  obtain ⟨_, _, ob', g2, vs, rfl, g4, g5⟩ := h.own i hM
  have hl : vs.length = xs.length := Paired.length g5
  exact ⟨a, vs, k, j, rfl, rfl, g2, by rw [hl]; exact hj, q _ (h.setO i hM ⟨_, rfl, by rw [List.length_set]; exact g4, paired_set hv j g5⟩)⟩
def popAt {α : Type} (xs : List α) (i : Int) : Option (α × List α) := if -(2 ^ 63) ≤ i ∧ i < 2 ^ 63 then (seqIndex? i xs.length).bind fun k => (xs[k]?).bind fun y => some (y, xs.eraseIdx k) else none
theorem paired_erase {R : V → α → Prop} : ∀ {vs : List V} {xs : List α} (j : Nat), Paired R vs xs → Paired R (vs.eraseIdx j) (xs.eraseIdx j)
  | _, _, _, .nil => .nil
  | _, _, 0, .cons _ t => t
  | _, _, j + 1, .cons q t => .cons q (paired_erase j t)
theorem S_popAt {xs : List α} {z : α × List α} {a : Addr} {k : Int} (i : Nat) (h : St K B F H w M) (hM : M[i]? = some (.own a xs)) (hm : popAt xs k = some z) (q : ∀ u H', St K B F H' (some u :: w) (.fz z.1 :: M.set i (.own a z.2)) → Q u H') : rPopAt (.ref a) [.int k] H Q := by
  unfold popAt at hm
  split at hm
  · rename_i hc
    obtain ⟨j, hj, hm⟩ := ob hm
    obtain ⟨y, hy, hm⟩ := ob hm
    have e := Option.some.inj hm
    subst e
    obtain ⟨_, _, ob', g2, vs, rfl, g4, g5⟩ := h.own i hM
    have hl : vs.length = xs.length := Paired.length g5
    obtain ⟨u, h1, h2⟩ := Paired.at g5 hy
    refine ⟨a, vs, k, j, u, rfl, rfl, g2, hc.1, hc.2, by rw [hl]; exact hj, h1, q u _ ((h.setO i hM ⟨_, rfl, ?_, paired_erase j g5⟩).push h2)⟩
    have := List.length_eraseIdx_le vs j
    omega
  · cases hm
end
end G

set_option Elab.async false
set_option linter.all false
set_option maxRecDepth 100000
set_option maxHeartbeats 4000000
/-! G4: what the printed proofs lean on. -/
namespace G
open PySem PySem.Spec PyProof.Rows L2
open Rp (rp)
open Ow (ow)
theorem len0 {α : Type} {vs : List α} (h : vs.length = 0) : vs = [] := List.eq_nil_of_length_eq_zero h
theorem len1 {α : Type} {vs : List α} (h : vs.length = 1) : ∃ a, vs = [a] := match vs, h with | [a], _ => ⟨a, rfl⟩
theorem len2 {α : Type} {vs : List α} (h : vs.length = 2) : ∃ a b, vs = [a, b] := match vs, h with | [a, b], _ => ⟨a, b, rfl⟩
theorem len3 {α : Type} {vs : List α} (h : vs.length = 3) : ∃ a b c, vs = [a, b, c] := match vs, h with | [a, b, c], _ => ⟨a, b, c, rfl⟩
theorem len4 {α : Type} {vs : List α} (h : vs.length = 4) : ∃ a b c d, vs = [a, b, c, d] := match vs, h with | [a, b, c, d], _ => ⟨a, b, c, d, rfl⟩
theorem len5 {α : Type} {vs : List α} (h : vs.length = 5) : ∃ a b c d e, vs = [a, b, c, d, e] := match vs, h with | [a, b, c, d, e], _ => ⟨a, b, c, d, e, rfl⟩
theorem len6 {α : Type} {vs : List α} (h : vs.length = 6) : ∃ a b c d e f, vs = [a, b, c, d, e, f] := match vs, h with | [a, b, c, d, e, f], _ => ⟨a, b, c, d, e, f, rfl⟩
theorem prom_len {K : Fg} {R : List Slot → RSlot → List Slot → Prop} {ps : List Str} (n : Nat) (hn : ∀ A s A', R A s A' → A.length = n) (vs : List V) (H : Hp) (Q : VK) (E : XK) (h : Prom K R vs H Q E) (hp : ps.length = n := by rfl) : vs.length = ps.length := by
  obtain ⟨F, A, s, A', hR, fh, hS, _⟩ := h
  have := slots_len hS
  rw [hp, ← hn A s A' hR, this, List.length_map]
/-- a def that may be called -/
structure Cal (P : Program) (w : World) (K : Fg) (mg : Str → Option Value) (base : Heap) (k : Nat) (x : Str) (ps : List Str) (R : List Slot → RSlot → List Slot → Prop) : Prop where
  ex : ∃ f fd, FnOk P w K mg base CX0 k f fd ps (Prom K R) ∧ mg x = some (.ref f) ∧ PySem.W.keepIn K (.ref f) = true ∧ Binds K fd ps []
theorem Cal.mk' {P : Program} {w : World} {K : Fg} {mg : Str → Option Value} {base : Heap} {k : Nat} {x : Str} {ps : List Str} {R : List Slot → RSlot → List Slot → Prop} {f : Addr} {fd : FuncData} (h : FnOk P w K mg base CX0 k f fd ps (Prom K R)) (hm : mg x = some (.ref f)) (hk : PySem.W.keepIn K (.ref f) = true) (hb : Binds K fd ps []) : Cal P w K mg base k x ps R := ⟨f, fd, h, hm, hk, hb⟩
section
variable {X : Cx}
theorem Cal.pe {k : Nat} {x : Str} {ps : List Str} {R : List Slot → RSlot → List Slot → Prop} {e : Expr} {es : List Expr} {t : TA} {p pos : Pos} (C : Cal X.prog X.w X.K X.mg X.base k x ps R) (hr : Room k X.A) (hg : Gl X x) (ha : PA X (e :: es) t)
    (hdb : (x == ("__debug__" : Str)) = false := by decide) (he : starEach (e :: es) X.env = (false, eval e X.env) :: starEach es X.env := by rfl) (hpl : (backTo pos (starEach es X.env)).any (·.1) = false := by rfl) :
    PE X (.Call (.Name x p) (e :: es) [] pos) (tCall (Prom X.K R) [] E0 t) := by
  obtain ⟨f, fd, h1, h2, h3, h4⟩ := C.ex
  exact pe_call h1 hr hg h2 h3 h4 .nil pass0 ha hdb he hpl
theorem Cal.pe0 {k : Nat} {x : Str} {ps : List Str} {R : List Slot → RSlot → List Slot → Prop} {p pos : Pos} (C : Cal X.prog X.w X.K X.mg X.base k x ps R) (hr : Room k X.A) (hg : Gl X x)
    (hdb : (x == ("__debug__" : Str)) = false := by decide) : PE X (.Call (.Name x p) [] [] pos) (tCall (Prom X.K R) [] E0 tNil) := by
  obtain ⟨f, fd, h1, h2, h3, h4⟩ := C.ex
  exact pe_call0 h1 hr hg h2 h3 h4 .nil pass0 hdb
end
/-- a statement, then what follows, shown once -/
theorem S_cutJ {t : TS} {D : Ends} {σ : L2.St} {H : Hp} {Post : L2.St → Hp → Prop} (body : ∀ D' : Ends, (∀ σ H, Post σ H → D'.nx σ H) → t D' σ H) (k : ∀ σ H, Post σ H → D.nx σ H) : t D σ H := body D k
theorem rng1_len {n : Int} {xs : List Int} (h : rangeO n = some xs) : xs.length ≤ sizeLine := by
  unfold rangeO at h
  split at h
  · have e := Option.some.inj h
    subst e
    rw [List.length_map, List.length_range]
    exact Nat.le_trans (by omega : _ ≤ 1000000) (by decide)
  · cases h
theorem rng2_len {lo n : Int} {xs : List Int} (h : rangeO2 lo n = some xs) : xs.length ≤ sizeLine := by
  unfold rangeO2 at h
  split at h
  · have e := Option.some.inj h
    subst e
    rw [List.length_map, List.length_range]
    exact Nat.le_trans (by omega : _ ≤ 2000000) (by decide)
  · cases h
theorem zip_len {α β : Type} {xs : List α} {ys : List β} (h : xs.length ≤ sizeLine) : (xs.zip ys).length ≤ sizeLine := by
  rw [List.length_zip]
  omega
theorem enum_len {α : Type} {xs : List α} {i : Nat} (h : xs.length ≤ sizeLine) : (enumFrom i xs).length ≤ sizeLine := by
  rw [enumFrom_len]
  exact h
section
variable {K : Fg} {B : Base} {F H : Hp} {w : List (Option V)} {σ : L2.St} {M : List Slot} {Q : VK} {o o1 : Option V} {s s1 : Slot}
theorem owns_cons_sub {s s1 : Slot} {M : List Slot} : (owns (s :: M)).Sublist (owns (s :: s1 :: M)) := by
  rw [owns_cons s M, owns_cons s (s1 :: M), owns_cons s1 M]
  exact (List.Sublist.refl _).append (List.sublist_append_right ..)
theorem St.nip (h : St K B F H (o :: o1 :: w) (s :: s1 :: M)) : St K B F H (o :: w) (s :: M) :=
  ⟨h.fh, h.f0, h.nf, h.h0, h.tr, ⟨h.ok.1, h.ok.2.2⟩, owns_cons_sub.nodup h.nd, fun a m => h.bo a (owns_cons_sub.subset m)⟩
theorem owns_setT {α : Type} {s : Sh α} {g : s.G} {x : α} : ∀ {M : List Slot} (i : Nat), (s.ads g ++ owns M).Nodup → (owns (M.set i (.tree s g x))).Nodup ∧ ∀ b ∈ owns (M.set i (.tree s g x)), b ∈ s.ads g ∨ b ∈ owns M
  | [], _, h => ⟨.nil, fun _ m => by cases m⟩
  | t :: M, 0, h => by
    rw [owns_cons t M, ← List.append_assoc] at h
    refine ⟨?_, fun b m => (List.mem_append.mp m).imp id owns_tail⟩
    have hs : (s.ads g ++ owns M).Sublist (s.ads g ++ owns [t] ++ owns M) := (List.sublist_append_left ..).append (List.Sublist.refl _)
    exact hs.nodup h
  | t :: M, i + 1, h => by
    rw [owns_cons t M] at h
    have hs : (s.ads g ++ owns M).Sublist (s.ads g ++ (owns [t] ++ owns M)) := (List.Sublist.refl _).append (List.sublist_append_right ..)
    obtain ⟨g1, g2⟩ := owns_setT (s := s) (g := g) (x := x) i (hs.nodup h)
    obtain ⟨n1, n2, n3⟩ := List.nodup_append.mp h
    obtain ⟨n4, n5, n6⟩ := List.nodup_append.mp n2
    show (owns (t :: M.set i (.tree s g x))).Nodup ∧ ∀ b ∈ owns (t :: M.set i (.tree s g x)), _
    rw [owns_cons t, owns_cons t M]
    refine ⟨List.nodup_append.mpr ⟨n4, g1, fun b m c n e => ?_⟩, fun b m => ?_⟩
    · subst e
      rcases g2 b n with q | q
      · exact n3 b q b (List.mem_append_left _ m) rfl
      · exact n6 b m b q rfl
    · rcases List.mem_append.mp m with m | m
      · exact .inr (List.mem_append_left _ m)
      · exact (g2 b m).imp id (List.mem_append_right _)
/-- what stands on the pile, one's own, becomes a name's -/
theorem St.setTree {α : Type} {s : Sh α} {g : s.G} {x : α} (i : Nat) (h : St K B F H (some (s.root g) :: w) (.tree s g x :: M)) : St K B F H (w.set i (some (s.root g))) (M.set i (.tree s g x)) := by
  obtain ⟨g1, g2⟩ := owns_setT (s := s) (g := g) (x := x) i h.nd
  exact ⟨h.fh, h.f0, h.nf, h.h0, h.tr, Slots.set i h.ok.2 h.ok.1, g1, fun b m => h.bo b ((g2 b m).elim (List.mem_append_left _) (List.mem_append_right _))⟩
theorem St.setOwn {α : Type} [Ow α] {x : α} {a : Addr} (i : Nat) (h : St K B F H (some (.ref a) :: w) (.own a x :: M)) : St K B F H (w.set i (some (.ref a))) (M.set i (.own a x)) := St.setTree (s := flat α) i h
theorem SlotOk.ofTree {α : Type} {s : Sh α} {g : s.G} {x : α} (h : St K B F H w M) (i : Nat) (hM : M[i]? = some (.tree s g x)) : SlotOk K F H (some (s.root g)) (.tree s g x) := by
  obtain ⟨o, _, hs⟩ := h.ok.at hM
  exact ⟨rfl, hs.2⟩
theorem SlotOk.ofOwn {α : Type} [Ow α] {x : α} {a : Addr} (h : St K B F H w M) (i : Nat) (hM : M[i]? = some (.own a x)) : SlotOk K F H (some (.ref a)) (.own a x) := SlotOk.ofTree (s := flat α) h i hM
end
section
variable {K : Fg} {F H : Hp} {σ : L2.St} {Q : VK} {D : Ends} {t u u2 : TS} {te : TE} {g : TG} {wi : TI} {tt : TT} {QT : Bool → Hp → Prop} {v : V} {vs : List V} {A : List Slot} {s : Slot}
theorem Q_asg (h : te σ H fun x H1 => g x σ H1 (u D)) : tSeq (tAsg te g) u D σ H := h
theorem Q_drop (h : te σ H fun _ H1 => u D σ H1) : tSeq (tDrop te) u D σ H := h
theorem Q_for (h : wi σ H fun J H1 => ForG J g t { D with nx := u D } σ H1) : tSeq (tFor wi g t) u D σ H := h
theorem Q_if (h : tt σ H fun b H1 => if b = true then t { D with nx := u2 D } σ H1 else u { D with nx := u2 D } σ H1) : tSeq (tIfS tt t u) u2 D σ H := h
theorem Q_next (h : u D σ H) : tNext { D with nx := u D } σ H := h
theorem S_next (h : D.nx σ H) : tNext D σ H := h
theorem Q_cutJ {Post : L2.St → Hp → Prop} (body : ∀ D' : Ends, (∀ σ H, Post σ H → D'.nx σ H) → t D' σ H) (k : ∀ σ H, Post σ H → u D σ H) : tSeq t u D σ H := body _ k
def BlG (QT : Bool → Hp → Prop) (x : V) (H1 : Hp) : Prop := ∃ k, x = .bl k ∧ QT k H1
def BnG (Q : VK) (x : V) (H1 : Hp) : Prop := ∃ k, x = .bl k ∧ Q (.bl (!k)) H1
theorem T_test (h : te σ H fun x H1 => BlG QT x H1) : tTest te σ H QT := h
theorem T_tB (h : te σ H fun x H1 => BlG QT x H1) : tB te σ H QT := h
theorem T_bl {k : Bool} (h : QT k H) : BlG QT (.bl k) H := ⟨k, rfl, h⟩
theorem T_notV (h : te σ H fun x H1 => BnG Q x H1) : tNotV te σ H Q := h
theorem T_blV {k : Bool} (h : Q (.bl (!k)) H) : BnG Q (.bl k) H := ⟨k, rfl, h⟩
theorem slots_nil : Slots K F H ([].map some) [] := trivial
theorem slots_cons (h : SlotOk K F H (some v) s) (k : Slots K F H (vs.map some) A) : Slots K F H ((v :: vs).map some) (s :: A) := ⟨h, k⟩
theorem ok_fz {α : Type} [Rp α] {x : α} (h : rp K F v x) : SlotOk K F H (some v) (.fz x) := ⟨v, rfl, h⟩
end
theorem wipe_get {σ : L2.St} : ∀ {vs : List Nat} {i : Nat}, i ∈ vs → i < σ.length → (wipe σ vs)[i]? = some none
  | v :: vs, i, m, hl => by
    unfold wipe
    by_cases e : v = i
    · subst e
      rw [List.getElem?_set_self (by rw [wipe_length]; exact hl)]
    · rw [List.getElem?_set_ne e]
      rcases List.mem_cons.mp m with z | z
      · exact absurd z.symm e
      · exact wipe_get z hl
  | [], _, m, _ => by cases m
theorem wipe_eq {σ τ : L2.St} {vs : List Nat} (hl : τ.length = σ.length) (h : ∀ i, i ∉ vs → τ[i]? = σ[i]?) : wipe τ vs = wipe σ vs := by
  refine List.ext_getElem? fun i => ?_
  by_cases m : i ∈ vs
  · by_cases hi : i < σ.length
    · rw [wipe_get m (by omega), wipe_get m hi]
    · rw [List.getElem?_eq_none (by rw [wipe_length]; omega), List.getElem?_eq_none (by rw [wipe_length]; omega)]
  · rw [wipe_at τ vs i m, wipe_at σ vs i m, h i m]
theorem wipe_idem {σ : L2.St} {vs : List Nat} : wipe (wipe σ vs) vs = wipe σ vs := wipe_eq (wipe_length σ vs) fun i m => wipe_at σ vs i m
theorem wipe_set {τ : L2.St} {vs : List Nat} {j : Nat} {o : Option V} (h : j ∈ vs) : wipe (τ.set j o) vs = wipe τ vs := wipe_eq (by simp) fun i m => List.getElem?_set_ne fun e => m (by rw [← e]; exact h)
theorem Q_nx {D : Ends} {u : TS} {σ : L2.St} {H : Hp} (h : u D σ H) : Ends.nx { D with nx := u D } σ H := h
theorem St.unset {K : Fg} {B : Base} {F H : Hp} {ts : List (Option V)} {TM M : List Slot} {σ : L2.St} {j : Nat} {o : Option V} (h : St K B F H (ts ++ σ.set j o) (TM ++ M)) (hTM : TM.length = ts.length) (hM : M[j]? = some .any) : St K B F H (ts ++ σ) (TM ++ M) :=
  h.rew (by simp) fun i => by
    by_cases hi : i < ts.length
    · right
      rw [List.getElem?_append_left hi, List.getElem?_append_left hi]
    · have hi' : ts.length ≤ i := by omega
      by_cases e : i = ts.length + j
      · left
        subst e
        rw [List.getElem?_append_right (by omega), hTM]
        rw [show ts.length + j - ts.length = j by omega]
        exact hM
      · right
        rw [List.getElem?_append_right hi', List.getElem?_append_right hi', List.getElem?_set_ne (by omega)]
theorem hu64 {k : Nat} {A : Around} (r : Room k A) : A.units + 64 < cLine := by have := r.un; omega
theorem hu65 {k : Nat} {A : Around} (r : Room k A) : A.units + 65 < cLine := by have := r.un; omega
/-- the law's own promise, from its mirror -/
theorem law_end {K : Fg} {H : Hp} {a : Addr} {ns : List Int} {R : List Slot → RSlot → List Slot → Prop} {A' : List Slot} {E : XK} (hR : R [.fz (Scr.mk ns)] (.fz true) A') (hl : ns.length ≤ 63) (hS : SqL K H a (ns.map V.int)) : Prom K R [.ref a] H (fun v _ => v = .bl true) E :=
  ⟨H, _, _, _, hR, Ex.refl H, slots_cons (ok_fz ⟨a, rfl, hS, hl⟩) slots_nil, List.nodup_nil, fun u F' H' f => f.fz⟩
/-! ### loops of the mirror -/
theorem forO_nx {α τ ρ : Type} {b : α → τ → Option (Out τ ρ)} {I : τ → Prop} : ∀ {xs : List α} {s : τ}, I s → (∀ x ∈ xs, ∀ s, I s → ∃ s', b x s = some (.nx s') ∧ I s') → ∃ s', forO b xs s = some (.nx s') ∧ I s'
  | [], s, h, _ => ⟨s, rfl, h⟩
  | x :: xs, s, h, k => by
    obtain ⟨s1, e1, h1⟩ := k x (List.mem_cons_self ..) s h
    obtain ⟨s2, e2, h2⟩ := forO_nx h1 fun y m => k y (List.mem_cons_of_mem _ m)
    exact ⟨s2, by unfold forO; rw [e1]; exact e2, h2⟩
theorem foldO_inv {α τ : Type} {b : α → τ → Option τ} {I : τ → Prop} : ∀ {xs : List α} {s : τ}, I s → (∀ x ∈ xs, ∀ s, I s → ∃ s', b x s = some s' ∧ I s') → ∃ s', foldO b xs s = some s' ∧ I s'
  | [], s, h, _ => ⟨s, rfl, h⟩
  | x :: xs, s, h, k => by
    obtain ⟨s1, e1, h1⟩ := k x (List.mem_cons_self ..) s h
    obtain ⟨s2, e2, h2⟩ := foldO_inv h1 fun y m => k y (List.mem_cons_of_mem _ m)
    exact ⟨s2, by unfold foldO; rw [e1]; exact e2, h2⟩
theorem mapS_inv {α β τ : Type} {f : α → τ → Option (β × τ)} {I : τ → Prop} {P : β → Prop} : ∀ {xs : List α} {s : τ}, I s → (∀ x ∈ xs, ∀ s, I s → ∃ p, f x s = some p ∧ P p.1 ∧ I p.2) → ∃ q, mapS f xs s = some q ∧ q.1.length = xs.length ∧ (∀ y ∈ q.1, P y) ∧ I q.2
  | [], s, h, _ => ⟨([], s), rfl, rfl, (fun _ m => by cases m), h⟩
  | x :: xs, s, h, k => by
    obtain ⟨p, e1, p1, h1⟩ := k x (List.mem_cons_self ..) s h
    obtain ⟨q, e2, l2, p2, h2⟩ := mapS_inv h1 fun y m => k y (List.mem_cons_of_mem _ m)
    refine ⟨(p.1 :: q.1, q.2), by unfold mapS; rw [e1]; show (mapS f xs p.2).bind _ = _; rw [e2]; rfl, by simp [l2], fun y m => ?_, h2⟩
    rcases List.mem_cons.mp m with e | m
    · rw [e]; exact p1
    · exact p2 y m
theorem mapO_some {α β : Type} {f : α → Option β} {g : α → β} : ∀ {xs : List α}, (∀ x ∈ xs, f x = some (g x)) → mapO f xs = some (xs.map g)
  | [], _ => rfl
  | x :: xs, h => by
    unfold mapO
    rw [h x (List.mem_cons_self ..), mapO_some fun y m => h y (List.mem_cons_of_mem _ m)]
    rfl
theorem bnd {α β : Type} {m : Option α} {f : α → Option β} {x : α} {y : β} (h : m = some x) (k : f x = some y) : m.bind f = some y := by rw [h]; exact k
theorem mem_rangeO {n : Int} {xs : List Int} (h : rangeO n = some xs) {x : Int} (m : x ∈ xs) : 0 ≤ x ∧ x < n := by
  unfold rangeO at h
  split at h
  · have e := Option.some.inj h
    subst e
    obtain ⟨i, hi, e⟩ := List.mem_map.mp m
    have := List.mem_range.mp hi
    omega
  · cases h
theorem rangeO_some {n : Int} (h1 : -1000000 ≤ n) (h2 : n < 1000000) : ∃ xs, rangeO n = some xs ∧ xs.length = n.toNat := by
  unfold rangeO
  rw [if_pos ⟨h1, h2⟩]
  exact ⟨_, rfl, by simp⟩
/-! ### draws -/
/-- a pot of digits: the first number's own digits, then numbers mixed of the second -/
def PotOk (l : List Int) : Prop := ∃ a b, l = [a, b] ∧ 0 ≤ a ∧ 0 ≤ b ∧ b < 1099511627776
def allBits : Nat → List (List Int)
  | 0 => [[]]
  | n + 1 => (allBits n).map (0 :: ·) ++ (allBits n).map (1 :: ·)
theorem mem_allBits : ∀ {l : List Int}, (∀ x ∈ l, x = 0 ∨ x = 1) → l ∈ allBits l.length
  | [], _ => List.mem_singleton.mpr rfl
  | x :: l, h => by
    have ih := mem_allBits fun y m => h y (List.mem_cons_of_mem _ m)
    rw [List.length_cons]
    unfold allBits
    rcases h x (List.mem_cons_self ..) with e | e
    · subst e
      exact List.mem_append_left _ (List.mem_map.mpr ⟨l, ih, rfl⟩)
    · subst e
      exact List.mem_append_right _ (List.mem_map.mpr ⟨l, ih, rfl⟩)
end G

set_option Elab.async false
set_option linter.all false
set_option maxRecDepth 100000
set_option maxHeartbeats 4000000
/-! G5: more operations. -/
namespace G
open PySem PySem.Spec PyProof.Rows L2
open Rp (rp)
open Ow (ow)
theorem lookup_map_free {f : Str × NameKind → Str × NameKind} (hf : ∀ p, (f p).1 = p.1) (hk : ∀ p, (p.2 = .cell ∨ p.2 = .free) → ((f p).2 = .cell ∨ (f p).2 = .free)) : ∀ {names : List (Str × NameKind)} {x : Str}, (names.lookup x = some .cell ∨ names.lookup x = some .free) →
    ((names.map f).lookup x = some .cell ∨ (names.map f).lookup x = some .free)
  | [], _, h => by rcases h with h | h <;> simp at h
  | (n, k) :: r, x, h => by
    have ih := @lookup_map_free f hf hk r x
    rw [List.map_cons]
    have e : f (n, k) = (n, (f (n, k)).2) := Prod.ext (hf _) rfl
    rw [e]
    cases hx : x == n with
    | true =>
      simp only [List.lookup_cons, hx, Option.some.injEq] at h ⊢
      exact hk (n, k) h
    | false =>
      simp only [List.lookup_cons, hx] at h ⊢
      exact ih h
theorem blk_rl {N : List Str} {sc scope : Scope} {own : List (Str × Nat)} {env : Env} (ok : BlkOk N sc scope own) : BlkOk N (relabel sc env) scope own :=
  ⟨ok.kind, ok.uniq, ok.ix, fun y hy e => lookup_map_free (fun p => by dsimp only; split <;> rfl) (fun p h => by dsimp only; split; exact .inl rfl; exact h) (ok.free y hy e), ok.own⟩
section
variable {X : Cx}
def rInTD (K : Fg) : R2 := fun x y H Q => ∃ d ds, Dp K H x d ∧ Dp K H y (.tuple ds) ∧ SeqAt.shaped d = true ∧ SeqAt.shaped (.tuple ds) = true ∧ Q (.bl (ds.any fun z => PyData.eqv z d)) H
def rNotInTD (K : Fg) : R2 := fun x y H Q => ∃ d ds, Dp K H x d ∧ Dp K H y (.tuple ds) ∧ SeqAt.shaped d = true ∧ SeqAt.shaped (.tuple ds) = true ∧ Q (.bl (!ds.any fun z => PyData.eqv z d)) H
theorem op_inTD (hu : X.A.units + 65 < cLine) : OpR X (compareOp .In) (rInTD X.K) := by
  intro pins s σ H x y v u Q I rx ry h
  obtain ⟨d, ds, hd, he, sd, se, q⟩ := h
  obtain ⟨as, r1⟩ := Dp.reads I d x v hd rx
  obtain ⟨bs, r2⟩ := Dp.reads I (.tuple ds) y u he ry
  exact SeqAt.in_tuple_reads r2 r1 (SeqAt.canLay_of_shaped se) (SeqAt.canLay_of_shaped sd) (room_in_shaped sd hu) ⟨.bl _, H, I, rfl, q⟩
theorem op_notInTD (hu : X.A.units + 65 < cLine) : OpR X (compareOp .NotIn) (rNotInTD X.K) := by
  intro pins s σ H x y v u Q I rx ry h
  obtain ⟨d, ds, hd, he, sd, se, q⟩ := h
  obtain ⟨as, r1⟩ := Dp.reads I d x v hd rx
  obtain ⟨bs, r2⟩ := Dp.reads I (.tuple ds) y u he ry
  exact SeqAt.notIn_tuple_reads r2 r1 (SeqAt.canLay_of_shaped se) (SeqAt.canLay_of_shaped sd) (room_in_shaped sd hu) ⟨.bl _, H, I, rfl, q⟩
end
section
variable {K : Fg} {B : Base} {F H : Hp} {w : List (Option V)} {σ : L2.St} {M : List Slot} {Q : VK} {α : Type} [DecidableEq α] [Py α]
theorem S_inTD {x : α} {xs : Tup α} {v u : V} {c : Bool} (hv : ViewD K H v x) (hu : ViewD K H u xs) (hm : inO x xs.l = some c) (hd : Py.dep α ≤ 59) (q : Q (.bl c) H) : rInTD K v u H Q := by
  unfold inO at hm
  split at hm
  · rename_i hc
    rw [Bool.and_eq_true] at hc
    have e := Option.some.inj hm
    subst e
    refine ⟨_, xs.l.map Py.toD, hv, hu, shaped_of hc.1 (by omega), shaped_of (α := Tup α) (x := xs) hc.2 (by show Py.dep α + 1 ≤ 60; omega), ?_⟩
    rw [any_map_eqv]
    exact q
  · cases hm
theorem S_niTD {x : α} {xs : Tup α} {v u : V} {c : Bool} (hv : ViewD K H v x) (hu : ViewD K H u xs) (hm : inO x xs.l = some c) (hd : Py.dep α ≤ 59) (q : Q (.bl (!c)) H) : rNotInTD K v u H Q := by
  unfold inO at hm
  split at hm
  · rename_i hc
    rw [Bool.and_eq_true] at hc
    have e := Option.some.inj hm
    subst e
    refine ⟨_, xs.l.map Py.toD, hv, hu, shaped_of hc.1 (by omega), shaped_of (α := Tup α) (x := xs) hc.2 (by show Py.dep α + 1 ≤ 60; omega), ?_⟩
    rw [any_map_eqv]
    exact q
  · cases hm
end
section
variable {K : Fg} {B : Base} {F H : Hp} {w : List (Option V)} {σ : L2.St} {M : List Slot} {Q : VK} {α : Type} [Rp α] {ta : TE}
/-- list(range(n)) -/
def LrgG (x : V) (H1 : Hp) (Q : VK) : Prop := ∃ n, x = .int n ∧ (RgOk 0 n ∧ ∀ q, H1 q = none → Q (.ref q) (upd H1 q (.lst (rgV 0 n))))
def tLrg (ta : TE) : TE := tLstRg (tRg1 ta)
theorem S_lrg (h : ta σ H fun x H1 => LrgG x H1 Q) : tLrg ta σ H Q := h
theorem paired_map_int : ∀ xs : List Int, Paired (rp K F) (xs.map V.int) xs
  | [] => .nil
  | x :: xs => .cons rfl (paired_map_int xs)
theorem S_lrgE {n : Int} {zs : List Int} (h : St K B F H w M) (hm : rangeO n = some zs) (q : ∀ p F' H', B.H p = none → St K B F' H' (some (.ref p) :: w) (.own p zs :: M) → Q (.ref p) H') : LrgG (.int n) H Q := by
  have hl := rng1_len hm
  unfold rangeO at hm
  split at hm
  · have e := Option.some.inj hm
    subst e
    refine ⟨n, rfl, ⟨by omega, by omega, by omega, by omega, by omega⟩, fun p hp => q p _ _ (h.freshB hp) (h.pushO hp ⟨_, rfl, ?_, ?_⟩)⟩
    · rw [rgV_length]
      exact Nat.le_trans (by omega : _ ≤ 1000000) (by decide)
    · have e : rgV 0 n = ((List.range n.toNat).map fun (i : Nat) => (0 : Int) + (i : Int)).map V.int := by
        unfold rgV
        rw [List.map_map, show n - 0 = n by omega]
        rfl
      rw [e]
      exact paired_map_int _
  · cases hm
theorem pe_lrg {X : Cx} {a : Expr} {ta : TE} {p p2 pos pos2 : Pos} (hg : Gl X "list") (hg2 : Gl X "range") (hm : X.mg "list" = none) (hm2 : X.mg "range" = none) (ha : PE X a ta) (hc : X.calm = true := by rfl)
    (na : starEach [a] X.env = (false, eval a X.env) :: starEach [] X.env := by rfl) (na2 : starEach [.Call (.Name "range" p2) [a] [] pos2] X.env = (false, eval (.Call (.Name "range" p2) [a] [] pos2) X.env) :: starEach [] X.env := by rfl) :
    PE X (.Call (.Name "list" p) [.Call (.Name "range" p2) [a] [] pos2] [] pos) (tLrg ta) := pe_listRg hc hg hm (prg_1 hg2 hm2 ha na) na2
/-- what is to be read, at the heap itself -/
theorem view_rp {x : List α} {v : V} (h : St K B F H w M) (r : ViewL K F H v x) : rp K H v x := by
  obtain ⟨a, vs, h1, h2, h3, h4⟩ := r
  exact ⟨a, vs, h1, h2, h3, paired_mono h.fh h4⟩
/-- a call that hands back a number, a truth value or a text, and changes nothing: one's own lists may be handed in -/
theorem S_callV {R : List Slot → RSlot → List Slot → Prop} {E : XK} {vs : List V} {A A' : List Slot} {β : Type} [Rp β] {x : β} (h : St K B F H w M) (hA : Slots K H H (vs.map some) A) (hR : R A (.fz x) A') (ho : owns A = []) (q : ∀ u F' H', St K B F' H' w M → rp K H' u x → Q u H') : Prom K R vs H Q E := by
  refine ⟨H, A, _, A', hR, Ex.refl H, hA, by rw [ho]; exact List.nodup_nil, fun u F' H' f => ?_⟩
  rw [ho] at f
  have e : Ex H H' := fun a o e => f.h0 a o e (by simp)
  exact q u F H' (h.step (Ex.refl F) e (h.fh.trans e) fun _ _ => rfl) (Rp.mono f.fh f.fz)
theorem S_callVB {R : List Slot → RSlot → List Slot → Prop} {E : XK} {vs : List V} {A A' : List Slot} {x : Bool} (h : St K B F H w M) (hA : Slots K H H (vs.map some) A) (hR : R A (.fz x) A') (ho : owns A = []) (q : ∀ F' H', St K B F' H' w M → Q (.bl x) H') : Prom K R vs H Q E :=
  S_callV h hA hR ho fun u F' H' h' r => by
    have e : u = .bl x := r
    subst e
    exact q F' H' h'
theorem S_callVI {R : List Slot → RSlot → List Slot → Prop} {E : XK} {vs : List V} {A A' : List Slot} {x : Int} (h : St K B F H w M) (hA : Slots K H H (vs.map some) A) (hR : R A (.fz x) A') (ho : owns A = []) (q : ∀ F' H', St K B F' H' w M → Q (.int x) H') : Prom K R vs H Q E :=
  S_callV h hA hR ho fun u F' H' h' r => by
    have e : u = .int x := r
    subst e
    exact q F' H' h'
theorem ok_fzH {x : α} {v : V} (h : St K B F H w M) (r : rp K F v x) : SlotOk K H H (some v) (.fz x) := ⟨v, rfl, Rp.mono h.fh r⟩
theorem ok_vwH {x : List α} {v : V} (h : St K B F H w M) (r : ViewL K F H v x) : SlotOk K H H (some v) (.fz x) := ⟨v, rfl, view_rp h r⟩
end
end G

set_option Elab.async false
set_option linter.all false
set_option maxRecDepth 100000
set_option maxHeartbeats 4000000
/-! G6: plain lemmas on the mirrors' operations. -/
namespace G
open PySem PySem.Spec PyProof.Rows L2
class PyT (α : Type) [DecidableEq α] [Py α] : Prop where
  okT : ∀ x : α, Py.okD x = true
instance : PyT Int := ⟨fun _ => rfl⟩
instance : PyT Bool := ⟨fun _ => rfl⟩
instance {α : Type} [DecidableEq α] [Py α] [PyT α] : PyT (Tup α) := ⟨fun x => List.all_eq_true.mpr fun y _ => PyT.okT y⟩
instance {α : Type} [DecidableEq α] [Py α] [PyT α] : PyT (List α) := ⟨fun x => List.all_eq_true.mpr fun y _ => PyT.okT y⟩
instance {α β : Type} [DecidableEq α] [Py α] [PyT α] [DecidableEq β] [Py β] [PyT β] : PyT (α × β) := ⟨fun x => Bool.and_eq_true _ _ ▸ ⟨PyT.okT x.1, PyT.okT x.2⟩⟩
theorem eqO_t {α : Type} [DecidableEq α] [Py α] [PyT α] (x y : α) : eqO x y = some (decide (x = y)) := by
  unfold eqO
  rw [PyT.okT, PyT.okT]
  rfl
theorem inO_t {α : Type} [DecidableEq α] [Py α] [PyT α] (x : α) (xs : List α) : inO x xs = some (xs.any fun z => decide (z = x)) := by
  unfold inO
  rw [PyT.okT, PyT.okT]
  rfl
section
variable {α β τ ρ : Type}
theorem atI_of {xs : List α} {i : Int} {n : Nat} {y : α} (h : xs[n]? = some y) (e : i = (n : Int)) : atI xs i = some y := by
  subst e
  have hn : n < xs.length := by
    rcases Nat.lt_or_ge n xs.length with q | q
    · exact q
    · rw [List.getElem?_eq_none q] at h; cases h
  unfold atI ixN
  rw [if_pos (by omega), if_pos (by omega)]
  exact h
theorem atI_mem {xs : List α} {i : Int} (h0 : 0 ≤ i) (h1 : i < (xs.length : Int)) : ∃ y, atI xs i = some y ∧ y ∈ xs ∧ xs[i.toNat]? = some y := by
  have hn : i.toNat < xs.length := by omega
  have h := List.getElem?_eq_getElem hn
  exact ⟨_, atI_of h (by omega), List.getElem_mem hn, h⟩
theorem popAt_some {xs : List α} {i : Int} (h0 : 0 ≤ i) (h1 : i < (xs.length : Int)) (h2 : i < 2 ^ 63) : ∃ y, popAt xs i = some (y, xs.eraseIdx i.toNat) ∧ y ∈ xs ∧ xs[i.toNat]? = some y := by
  have hn : i.toNat < xs.length := by omega
  have h := List.getElem?_eq_getElem hn
  refine ⟨_, ?_, List.getElem_mem hn, h⟩
  unfold popAt
  rw [if_pos ⟨by omega, h2⟩]
  have e : seqIndex? i xs.length = some i.toNat := (ixN_seq (by unfold ixN; rw [if_pos h0, if_pos h1])).1
  rw [e]
  show (xs[i.toNat]?).bind _ = _
  rw [h]
  rfl
theorem setL_some {xs : List α} {i : Int} {x : α} (h0 : 0 ≤ i) (h1 : i < (xs.length : Int)) : setL xs i x = some (xs.set i.toNat x) := by
  unfold setL ixN
  rw [if_pos h0, if_pos h1]
  rfl
theorem rangeO_eq {n : Nat} (h : n < 1000000) : rangeO (n : Int) = some ((List.range n).map fun (i : Nat) => (i : Int)) := by
  unfold rangeO
  rw [if_pos ⟨by omega, by omega⟩]
  congr 1
  rw [show (n : Int).toNat = n from rfl]
  refine List.map_congr_left fun i _ => by omega
theorem catT_ok {x y : Tup α} (h : x.l.length + y.l.length ≤ 1000000) : catT x y = some ⟨x.l ++ y.l⟩ := if_pos h
theorem catL_ok {x y : List α} (h : x.length + y.length ≤ 1000000) : catL x y = some (x ++ y) := if_pos h
theorem mapO_ok {f : α → Option β} {P : β → Prop} : ∀ {xs : List α}, (∀ x ∈ xs, ∃ y, f x = some y ∧ P y) → ∃ ys, mapO f xs = some ys ∧ ys.length = xs.length ∧ ∀ y ∈ ys, P y
  | [], _ => ⟨[], rfl, rfl, fun _ m => by cases m⟩
  | x :: xs, h => by
    obtain ⟨y, e, p⟩ := h x (List.mem_cons_self ..)
    obtain ⟨ys, e2, l2, p2⟩ := mapO_ok fun z m => h z (List.mem_cons_of_mem _ m)
    refine ⟨y :: ys, by unfold mapO; rw [e, e2]; rfl, by simp [l2], fun z m => ?_⟩
    rcases List.mem_cons.mp m with q | q
    · rw [q]; exact p
    · exact p2 z q
theorem forO_any {b : α → Unit → Option (Out Unit ρ)} {c : α → Bool} {r : ρ} : ∀ {xs : List α}, (∀ x ∈ xs, b x () = some (if c x = true then .rt r else .nx ())) → forO b xs () = some (if xs.any c = true then .rt r else .nx ())
  | [], _ => rfl
  | x :: xs, h => by
    have ih := forO_any fun z m => h z (List.mem_cons_of_mem _ m)
    unfold forO
    rw [h x (List.mem_cons_self ..), List.any_cons]
    by_cases hc : c x = true
    · rw [if_pos hc, hc]; rfl
    · rw [if_neg hc, Bool.eq_false_iff.mpr hc]; exact ih
theorem forO_go {b : α → Unit → Option (Out Unit ρ)} {xs : List α} (h : ∀ x ∈ xs, b x () = some (.nx ())) : forO b xs () = some (.nx ()) := by
  obtain ⟨s, e, _⟩ := forO_nx (b := b) (I := fun _ => True) (xs := xs) (s := ()) trivial fun x m s _ => ⟨(), h x m, trivial⟩
  exact e
theorem foldO_eq {b : α → τ → Option τ} {g : τ → α → τ} {I : τ → Prop} : ∀ {xs : List α} {s : τ}, I s → (∀ x ∈ xs, ∀ s, I s → b x s = some (g s x) ∧ I (g s x)) → foldO b xs s = some (xs.foldl g s)
  | [], s, _, _ => rfl
  | x :: xs, s, h, k => by
    obtain ⟨e, h1⟩ := k x (List.mem_cons_self ..) s h
    unfold foldO
    rw [e]
    exact foldO_eq h1 fun y m => k y (List.mem_cons_of_mem _ m)
theorem bitsN_of {l : List Int} {n : Nat} (h : l ∈ allBits n) : l.length = n ∧ ∀ x ∈ l, x = 0 ∨ x = 1 := by
  induction n generalizing l with
  | zero => rw [List.mem_singleton.mp h]; exact ⟨rfl, fun _ m => by cases m⟩
  | succ n ih =>
    unfold allBits at h
    rcases List.mem_append.mp h with h | h
    · obtain ⟨r, hr, e⟩ := List.mem_map.mp h
      subst e
      obtain ⟨a, b⟩ := ih hr
      refine ⟨by simp [a], fun x m => ?_⟩
      rcases List.mem_cons.mp m with q | q
      · exact .inl q
      · exact b x q
    · obtain ⟨r, hr, e⟩ := List.mem_map.mp h
      subst e
      obtain ⟨a, b⟩ := ih hr
      refine ⟨by simp [a], fun x m => ?_⟩
      rcases List.mem_cons.mp m with q | q
      · exact .inr q
      · exact b x q
/-- how many a list of pots may hold, of the law's usual form -/
theorem most (n : Nat) (h : n ≤ 63) (m : Int) (hm : 1 ≤ m) : -1000000 ≤ pyMax 1 (pyMin (n : Int) m) ∧ pyMax 1 (pyMin (n : Int) m) < 1000 := by
  unfold pyMax pyMin
  split <;> split <;> omega
end
end G

set_option Elab.async false
set_option linter.all false
set_option maxRecDepth 100000
set_option maxHeartbeats 4000000
/-! G7: tuples of unlike things, instances, texts, slices, none or not, dead code. -/
namespace G
open PySem PySem.Spec PyProof.Rows L2
open Rp (rp)
open Ow (ow)
/-! ### fields -/
class Flds (τ : Type) where
  fl : Fg → Hp → List V → τ → Prop
  fmono : ∀ {K : Fg} {F F' : Hp} {vs : List V} {x : τ}, Ex F F' → fl K F vs x → fl K F' vs x
instance : Flds Unit := ⟨fun _ _ vs _ => vs = [], fun _ h => h⟩
instance {α τ : Type} [Rp α] [Flds τ] : Flds (α × τ) := ⟨fun K F vs x => ∃ v r, vs = v :: r ∧ rp K F v x.1 ∧ Flds.fl K F r x.2, fun e ⟨v, r, h1, h2, h3⟩ => ⟨v, r, h1, Rp.mono e h2, Flds.fmono e h3⟩⟩
class FAt (k : Nat) (τ : Type) [Flds τ] (α : outParam Type) [i : outParam (Rp α)] where
  get : τ → α
  ok : ∀ {K : Fg} {F : Hp} {vs : List V} {x : τ}, Flds.fl K F vs x → ∃ v, vs[k]? = some v ∧ rp K F v (get x)
instance {α τ : Type} [Rp α] [Flds τ] : FAt 0 (α × τ) α := ⟨fun x => x.1, fun ⟨v, r, h1, h2, _⟩ => ⟨v, by rw [h1]; rfl, h2⟩⟩
instance {k : Nat} {α β τ : Type} [Rp α] [Rp β] [Flds τ] [FAt k τ α] : FAt (k + 1) (β × τ) α := ⟨fun x => FAt.get k x.2, fun ⟨v, r, h1, _, h3⟩ => by
  obtain ⟨u, g1, g2⟩ := FAt.ok (k := k) (τ := _) h3
  exact ⟨u, by rw [h1]; simpa using g1, g2⟩⟩
/-- a tuple of unlike things -/
structure HT (τ : Type) where
  x : τ
deriving DecidableEq
instance {τ : Type} [Flds τ] : Rp (HT τ) := ⟨fun K F v x => ∃ a vs, v = .ref a ∧ TupAt K F a vs ∧ Flds.fl K F vs x.x, fun e ⟨a, vs, h1, h2, h3⟩ => ⟨a, vs, h1, h2.mono e, Flds.fmono e h3⟩⟩
/-- an instance, its fields the last ones ahead -/
structure PI (C : Addr) (ns : List Str) (τ : Type) where
  x : τ
instance {C : Addr} {ns : List Str} {τ : Type} [Flds τ] : Ow (PI C ns τ) := ⟨fun K F o x => ∃ dx vs, o = .ins C dx ((ns.zip vs).reverse) ∧ vs.length = ns.length ∧ Flds.fl K F vs x.x, fun e ⟨dx, vs, h1, h2, h3⟩ => ⟨dx, vs, h1, h2, Flds.fmono e h3⟩⟩
instance {C : Addr} {ns : List Str} {τ : Type} [Flds τ] : Rp (PI C ns τ) := ⟨fun K F v x => ∃ a o, v = .ref a ∧ F a = some o ∧ Ow.ow K F o x, fun e ⟨a, o, h1, h2, h3⟩ => ⟨a, o, h1, e _ _ h2, Ow.omono e h3⟩⟩
/-- what is never None -/
class NN (α : Type) [Rp α] : Prop where
  nn : ∀ {K : Fg} {F : Hp} {v : V} {x : α}, rp K F v x → v ≠ .non
instance : NN Int := ⟨fun {K F v x} h => by have h : v = .int x := h; rw [h]; intro z; cases z⟩
instance : NN Bool := ⟨fun {K F v x} h => by have h : v = .bl x := h; rw [h]; intro z; cases z⟩
instance : NN Str := ⟨fun {K F v x} h => by have h : v = .str x := h; rw [h]; intro z; cases z⟩
instance {α : Type} [Rp α] : NN (Tup α) := ⟨fun h => by obtain ⟨a, vs, rfl, _⟩ := h; intro z; cases z⟩
instance {α : Type} [Rp α] : NN (List α) := ⟨fun h => by obtain ⟨a, vs, rfl, _⟩ := h; intro z; cases z⟩
instance {α β : Type} [Rp α] [Rp β] : NN (α × β) := ⟨fun h => by obtain ⟨a, v, w, rfl, _⟩ := h; intro z; cases z⟩
instance {τ : Type} [Flds τ] : NN (HT τ) := ⟨fun h => by obtain ⟨a, vs, rfl, _⟩ := h; intro z; cases z⟩
instance {C : Addr} {ns : List Str} {τ : Type} [Flds τ] : NN (PI C ns τ) := ⟨fun h => by obtain ⟨a, o, rfl, _⟩ := h; intro z; cases z⟩
section
variable {K : Fg} {B : Base} {F H : Hp} {w : List (Option V)} {σ : L2.St} {M : List Slot} {Q : VK} {α β τ : Type} [Rp α] [Rp β] [Flds τ]
theorem rp_some [NN α] {v : V} {x : α} (h : rp K F v x) : rp K F v (some x) := ⟨NN.nn h, h⟩
theorem rp_none : rp K F .non (none : Option α) := rfl
theorem isNone_rp {v : V} {o : Option α} (h : rp K F v o) : decide (v = .non) = o.isNone := by
  cases o with
  | none => exact decide_eq_true (show v = .non from h)
  | some x => exact decide_eq_false h.1
def rIsNG : R2 := fun x y H Q => y = .non ∧ Q (.bl (decide (x = .non))) H
def rNotNG : R2 := fun x y H Q => y = .non ∧ Q (.bl (!decide (x = .non))) H
theorem op_isNG {X : Cx} : OpR X (compareOp .Is) rIsNG := op_isN
theorem op_notNG {X : Cx} : OpR X (compareOp .IsNot) rNotNG := op_notN
theorem S_isN {v : V} {o : Option α} (h : rp K F v o) (q : Q (.bl o.isNone) H) : rIsNG v .non H Q := ⟨rfl, by rw [isNone_rp h]; exact q⟩
theorem S_notN {v : V} {o : Option α} (h : rp K F v o) (q : Q (.bl (!o.isNone)) H) : rNotNG v .non H Q := ⟨rfl, by rw [isNone_rp h]; exact q⟩
theorem some_of_notNone {o : Option α} (h : (!o.isNone) = true) : ∃ x, o = some x := by
  cases o with
  | none => cases h
  | some x => exact ⟨x, rfl⟩
theorem some_of_notNone' {o : Option α} (h : o.isNone = false) : ∃ x, o = some x := by
  cases o with
  | none => cases h
  | some x => exact ⟨x, rfl⟩
theorem Slots.cast : ∀ {w : List (Option V)} {M : List Slot} (i : Nat) {s t : Slot}, Slots K F H w M → M[i]? = some s → (∀ o, SlotOk K F H o s → SlotOk K F H o t) → Slots K F H w (M.set i t)
  | [], [], _, _, _, _, e, _ => by simp at e
  | _ :: _, _ :: _, 0, _, _, h, e, k => by
    simp at e
    subst e
    exact ⟨k _ h.1, h.2⟩
  | _ :: _, _ :: _, i + 1, _, _, h, e, k => ⟨h.1, Slots.cast i h.2 (by simpa using e) k⟩
  | [], _ :: _, _, _, _, h, _, _ => h.elim
  | _ :: _, [], _, _, _, h, _, _ => h.elim
/-- a name that isn't None is known as such -/
theorem St.narrow (h : St K B F H w M) (i : Nat) {o : Option α} {x : α} (hM : M[i]? = some (.fz o)) (e : o = some x) : St K B F H w (M.set i (.fz x)) := by
  refine ⟨h.fh, h.f0, h.nf, h.h0, h.tr, h.ok.cast i hM fun u hu => ?_, (owns_setF i rfl).nodup h.nd, fun a m => h.bo a ((owns_setF i rfl).subset m)⟩
  obtain ⟨v, h1, h2⟩ := hu
  subst e
  exact ⟨v, h1, h2.2⟩
/-! ### tuples of unlike things -/
theorem S_htup {vs : List V} {x : τ} (h : St K B F H w M) (hv : Flds.fl K F vs x) (hz : vs.length ≤ 100000) (q : ∀ p F' H', St K B F' H' (some (.ref p) :: w) (.fz (HT.mk x) :: M) → Q (.ref p) H') : TupG vs H Q := by
  refine ⟨Nat.le_trans hz (by decide), fun t ht => ?_⟩
  have e := Ex.new (o := .tup vs) (fresh_back h.fh ht)
  exact q t _ _ ((h.newF (ob := .tup vs) ht).push ⟨t, vs, rfl, .inl upd_same, Flds.fmono e hv⟩)
theorem atI_ix {vs : List V} {k : Nat} {v : V} (h : vs[k]? = some v) : atI vs (k : Int) = some v := atI_of h rfl
theorem S_ixH {x : HT τ} {v : V} (k : Nat) [FAt k τ α] (h : St K B F H w M) (hv : rp K F v x) (q : ∀ u, St K B F H (some u :: w) (.fz (FAt.get k x.x : α) :: M) → Q u H) : rIxT K v (.int (k : Int)) H Q := by
  obtain ⟨a, vs, rfl, h2, h3⟩ := hv
  obtain ⟨u, g1, g2⟩ := FAt.ok (k := k) h3
  exact ⟨a, vs, _, u, rfl, rfl, ex_t h.fh h2.sq, atI_ix g1, q u (h.push g2)⟩
end
/-! ### dead code -/
def eDead : TE := fun _ _ _ => False
def tDead : TS := fun _ _ _ => False
theorem pe_dead {X : Cx} {e : Expr} : PE X e eDead := ⟨fun _ _ _ _ _ _ h => h.elim⟩
theorem ps_dead {X : Cx} {s : Stmt} : PS X s tDead := ⟨fun _ _ _ _ _ _ h => h.elim⟩
theorem pss_dead {X : Cx} {s : List Stmt} : PSs X s tDead := ⟨fun _ _ _ _ _ _ h => h.elim⟩
theorem dead {α β : Type} {f : α → Option β} {y : β} {P : Prop} (h : (none : Option α).bind f = some y) : P := by cases h
theorem dead0 {β : Type} {y : β} {P : Prop} (h : (none : Option β) = some y) : P := by cases h
/-! ### a constant of the module -/
theorem pe_globE {X : Cx} {x : Str} {v : V} {pos : Pos} (hg : Gl X x) (hm : ∃ u, X.mg x = some u ∧ RelV v u) (hd : (x == ("__debug__" : Str)) = false := by decide) : PE X (.Name x pos) (tC v) := by
  obtain ⟨u, h1, h2⟩ := hm
  exact pe_glob hg h1 h2 hd
section
variable {K : Fg} {B : Base} {F H : Hp} {w : List (Option V)} {σ : L2.St} {M : List Slot} {Q : VK} {α β τ : Type} [Rp α] [Rp β]
/-! ### texts -/
def catS (a b : Str) : Option Str := if a.length + b.length ≤ 1000000 then some (a ++ b) else none
def rCatS : R2 := fun x y H Q => ∃ i j, x = .str i ∧ y = .str j ∧ i.length + j.length ≤ sizeLine ∧ Q (.str (i ++ j)) H
theorem op_catS {X : Cx} : OpR X (binaryOp .Add) rCatS := op_add_str
theorem S_catS {a b c : Str} (hm : catS a b = some c) (q : Q (.str c) H) : rCatS (.str a) (.str b) H Q := by
  unfold catS at hm
  split at hm
  · rename_i hl
    have e := Option.some.inj hm
    subst e
    exact ⟨a, b, rfl, rfl, Nat.le_trans hl (by decide), q⟩
  · cases hm
def ixS (z : Str) (i : Int) : Option Str := if z.length ≤ 1000000 then (atI z.cps.toList i).bind fun c => some ⟨#[c]⟩ else none
theorem S_ixS {z c : Str} {i : Int} (hm : ixS z i = some c) (q : Q (.str c) H) : rIxS (.str z) (.int i) H Q := by
  unfold ixS at hm
  split at hm
  · rename_i hl
    obtain ⟨x, h1, h2⟩ := ob hm
    have e := Option.some.inj h2
    subst e
    exact ⟨z, i, x, rfl, rfl, Nat.le_trans hl (by decide), h1, q⟩
  · cases hm
def inS (c z : Str) : Option Bool := match c.cps.toList with
  | [x] => some (decide (x ∈ z.cps.toList))
  | _ => none
theorem inS_some {c z : Str} {b : Bool} (h : inS c z = some b) : ∃ x, c = ⟨#[x]⟩ ∧ b = decide (x ∈ z.cps.toList) := by
  obtain ⟨⟨l⟩⟩ := c
  unfold inS at h
  split at h
  · rename_i x e
    have e : l = [x] := e
    subst e
    exact ⟨x, rfl, (Option.some.inj h).symm⟩
  · cases h
def rInS : R2 := fun x y H Q => ∃ (c : Nat) (z : Str), x = .str ⟨#[c]⟩ ∧ y = .str z ∧ Q (.bl (decide (c ∈ z.cps.toList))) H
def rNotInS : R2 := fun x y H Q => ∃ (c : Nat) (z : Str), x = .str ⟨#[c]⟩ ∧ y = .str z ∧ Q (.bl (!decide (c ∈ z.cps.toList))) H
theorem op_inS {X : Cx} : OpR X (compareOp .In) rInS := op_in_sign
theorem op_notInS {X : Cx} : OpR X (compareOp .NotIn) rNotInS := op_notIn_sign
theorem S_inS {c z : Str} {b : Bool} (hm : inS c z = some b) (q : Q (.bl b) H) : rInS (.str c) (.str z) H Q := by
  obtain ⟨x, e1, e2⟩ := inS_some hm
  subst e1 e2
  exact ⟨x, z, rfl, rfl, q⟩
theorem S_niS {c z : Str} {b : Bool} (hm : inS c z = some b) (q : Q (.bl (!b)) H) : rNotInS (.str c) (.str z) H Q := by
  obtain ⟨x, e1, e2⟩ := inS_some hm
  subst e1 e2
  exact ⟨x, z, rfl, rfl, q⟩
def lenS (z : Str) : Option Int := if z.length ≤ 1000000 then some (z.length : Int) else none
def rLenS : List V → Hp → VK → Prop := fun xs H Q => ∃ z, xs = [.str z] ∧ z.length ≤ sizeLine ∧ Q (.int z.length) H
theorem cr_lenS {X : Cx} : CallR X (.builtin "len") rLenS := call_len_str
theorem S_lenS {z : Str} {n : Int} (hm : lenS z = some n) (q : Q (.int n) H) : rLenS [.str z] H Q := by
  unfold lenS at hm
  split at hm
  · rename_i hl
    have e := Option.some.inj hm
    subst e
    exact ⟨z, rfl, Nat.le_trans hl (by decide), q⟩
  · cases hm
def signs (z : Str) : List Str := z.cps.toList.map fun c => ⟨#[c]⟩
theorem yields_str (z : Str) : Yields K (Its z) (fun _ _ => True) (signs z) := fun i F H _ e => by
  have hl : (signs z).length = z.cps.size := by simp [signs]
  refine ⟨fun hi => (show z.cps.size ≤ i by omega), fun y hy => ?_⟩
  unfold signs at hy
  rw [List.getElem?_map] at hy
  cases hc : z.cps.toList[i]? with
  | none => rw [hc] at hy; cases hy
  | some c =>
    rw [hc] at hy
    have ey : (⟨#[c]⟩ : Str) = y := Option.some.inj hy
    have hc' : z.cps[i]? = some c := by rw [← Array.getElem?_toList]; exact hc
    refine ⟨?_, fun v H' g => ?_⟩
    · have := Array.getElem?_eq_some_iff.mp hc'
      exact this.choose
    · obtain ⟨rfl, c', g1, g2⟩ := g
      rw [hc'] at g1
      cases g1
      exact ⟨F, Ex.refl F, e, Ex.refl _, fun _ _ => rfl, by rw [g2, ← ey]; rfl⟩
def StrG (x : V) (H1 : Hp) (R : It → Hp → Prop) : Prop := ∃ z, x = .str z ∧ R (Its z) H1
theorem S_iS {te : TE} {R : It → Hp → Prop} (h : te σ H fun x H1 => StrG x H1 R) : iStr te σ H R := h
theorem S_itS {z : Str} {R : It → Hp → Prop} (q : R (Its z) H) : StrG (.str z) H R := ⟨z, rfl, q⟩
def signsO (z : Str) : Option (List Str) := if z.length ≤ 1000000 then some (signs z) else none
theorem signsO_some {z : Str} {l : List Str} (h : signsO z = some l) : l = signs z ∧ l.length ≤ sizeLine := by
  unfold signsO at h
  split at h
  · rename_i hl
    have e := Option.some.inj h
    subst e
    refine ⟨rfl, ?_⟩
    have : (signs z).length = z.length := by simp [signs]; rfl
    rw [this]
    exact Nat.le_trans hl (by decide)
  · cases h
theorem yields_signs {z : Str} {l : List Str} (h : signsO z = some l) : Yields K (Its z) (fun _ _ => True) l := by
  rw [(signsO_some h).1]
  exact yields_str z
theorem signs_len {z : Str} {l : List Str} (h : signsO z = some l) : l.length ≤ sizeLine := (signsO_some h).2
/-! ### shifts -/
def shlO (i j : Int) : Option Int := if 0 ≤ j ∧ j ≤ 100 ∧ i.natAbs < 2 ^ 64 then some (i * 2 ^ j.toNat) else none
theorem S_shl {i j z : Int} (hm : shlO i j = some z) (q : Q (.int z) H) : rI CPow (fun i j => .int (i * 2 ^ j.toNat)) (.int i) (.int j) H Q := by
  unfold shlO at hm
  split at hm
  · rename_i hc
    have e := Option.some.inj hm
    subst e
    exact ⟨i, j, rfl, rfl, ⟨hc.1, by omega, hc.2.2⟩, q⟩
  · cases hm
/-! ### slices -/
def cutL {α : Type} (xs : List α) (lo hi : Option Int) : List α := (xs.drop (HT.sIx xs.length 0 lo)).take (HT.sIx xs.length xs.length hi - HT.sIx xs.length 0 lo)
theorem cutL_length {α : Type} (xs : List α) (lo hi : Option Int) : (cutL xs lo hi).length ≤ xs.length := by
  unfold cutL
  rw [List.length_take, List.length_drop]
  omega
theorem paired_drop {R : V → α → Prop} : ∀ (n : Nat) {vs : List V} {xs : List α}, Paired R vs xs → Paired R (vs.drop n) (xs.drop n)
  | 0, _, _, h => h
  | _ + 1, _, _, .nil => .nil
  | n + 1, _, _, .cons _ t => paired_drop n t
theorem paired_take {R : V → α → Prop} : ∀ (n : Nat) {vs : List V} {xs : List α}, Paired R vs xs → Paired R (vs.take n) (xs.take n)
  | 0, _, _, _ => .nil
  | _ + 1, _, _, .nil => .nil
  | n + 1, _, _, .cons r t => .cons r (paired_take n t)
theorem paired_cut {R : V → α → Prop} {vs : List V} {xs : List α} (h : Paired R vs xs) (lo hi : Option Int) : Paired R (cutV vs lo hi) (cutL xs lo hi) := by
  unfold cutV cutL
  rw [Paired.length h]
  exact paired_take _ (paired_drop _ h)
theorem S_slL {x : List α} {v : V} {lo hi : Option Int} (h : St K B F H w M) (hv : ViewL K F H v x) (q : ∀ p F' H', B.H p = none → St K B F' H' (some (.ref p) :: w) (.own p (cutL x lo hi) :: M) → Q (.ref p) H') : rSlL K v lo hi H Q := by
  obtain ⟨a, vs, rfl, h2, h3, h4⟩ := hv
  refine ⟨a, vs, rfl, .inl (.inl h2), fun p hp => ?_⟩
  exact q p _ _ (h.freshB hp) (h.pushO hp ⟨_, rfl, Nat.le_trans (cutV_length vs lo hi) h3, paired_cut h4 lo hi⟩)
theorem S_slT {x : Tup α} {v : V} {lo hi : Option Int} (h : St K B F H w M) (hv : rp K F v x) (q : ∀ u F' H', St K B F' H' (some u :: w) (.fz (Tup.mk (cutL x.l lo hi)) :: M) → Q u H') : rSlA K v lo hi H Q := by
  obtain ⟨a, vs, rfl, h2, h3, h4⟩ := hv
  refine ⟨a, vs, rfl, ex_t h.fh h2.sq, fun hw => ?_, fun _ p hp => ?_⟩
  · have e : cutL x.l lo hi = x.l := by
      unfold cutL
      rw [← Paired.length h4, hw.1, hw.2, Paired.length h4]
      simp
    rw [e] at q
    exact q _ _ _ (h.push ⟨a, vs, rfl, h2, h3, h4⟩)
  · have e := Ex.new (o := .tup (cutV vs lo hi)) (fresh_back h.fh hp)
    exact q _ _ _ ((h.newF hp).push ⟨p, cutV vs lo hi, rfl, .inl upd_same, Nat.le_trans (cutV_length vs lo hi) h3, paired_mono e (paired_cut h4 lo hi)⟩)
def cutSO (z : Str) (lo hi : Option Int) : Option Str := if z.length ≤ 1000000 then some (cutS z lo hi) else none
theorem S_slS {z c : Str} {lo hi : Option Int} (hm : cutSO z lo hi = some c) (q : Q (.str c) H) : rSlS (.str z) lo hi H Q := by
  unfold cutSO at hm
  split at hm
  · rename_i hl
    have e := Option.some.inj hm
    subst e
    exact ⟨z, rfl, Nat.le_trans hl (by decide), q⟩
  · cases hm
variable {r r' : R2} {te ta tb tc : TE} {tl th : TO} {rs : V → Option Int → Option Int → Hp → VK → Prop}
theorem S_sl (h : te σ H fun x H1 => tl σ H1 fun l H2 => th σ H2 fun u H3 => rs x l u H3 Q) : L2.tSl rs te tl th σ H Q := h
theorem S_noPart {QO : Option Int → Hp → Prop} (h : QO none H) : tNoPart σ H QO := h
/-! ### chains -/
def ChG (σ : L2.St) (r' : R2) (tc : TE) (y : V) (Q : VK) (z : V) (H3 : Hp) : Prop := ∃ k, z = .bl k ∧ (if k = true then tc σ H3 fun w' H4 => r' y w' H4 Q else Q (.bl false) H3)
theorem S_chain (h : ta σ H fun x H1 => tb σ H1 fun y H2 => r x y H2 fun z H3 => ChG σ r' tc y Q z H3) : tChain r r' ta tb tc σ H Q := h
theorem S_chK {k c : Bool} {y : V} (h1 : k = true → tc σ H fun w' H4 => r' y w' H4 Q) (h2 : k = false → Q (.bl false) H) : ChG σ r' tc y Q (.bl k) H := by
  refine ⟨k, rfl, ?_⟩
  cases k with
  | true => exact h1 rfl
  | false => exact h2 rfl
end
end G

set_option Elab.async false
set_option linter.all false
set_option maxRecDepth 100000
set_option maxHeartbeats 4000000
/-! G8: instances; calls that change several things of one's own. -/
namespace G
open PySem PySem.Spec PyProof.Rows L2
open Rp (rp)
open Ow (ow)
section
variable {K : Fg} {B : Base} {F H F' H' : Hp} {w : List (Option V)} {σ : L2.St} {M A A' : List Slot} {Q : VK} {α β τ : Type}
def PartG (QO : Option Int → Hp → Prop) (x : V) (H1 : Hp) : Prop := ∃ i, x = .int i ∧ QO (some i) H1
theorem S_part {te : TE} {QO : Option Int → Hp → Prop} (h : te σ H fun x H1 => PartG QO x H1) : tPart te σ H QO := h
theorem S_partI {QO : Option Int → Hp → Prop} {i : Int} (h : QO (some i) H) : PartG QO (.int i) H := ⟨i, rfl, h⟩
/-! ### instances -/
theorem St.frzG [Rp α] [Ow α] {D : Addr} {z : α} (h : St K B F H (some (.ref D) :: w) (.own D z :: M)) (hB : B.H D = none) (conv : ∀ {F : Hp} {ob : HO}, F D = some ob → ow K F ob z → rp K F (.ref D) z) : ∃ F', St K B F' H (some (.ref D) :: w) (.fz z :: M) := by
  obtain ⟨_, h2, ob, ho, hv⟩ := own_ok.mp h.ok.1
  have nd := List.nodup_cons.mp h.nd
  have en : Ex F (upd F D ob) := Ex.new h2
  refine ⟨upd F D ob, fun a u e => ?_, h.f0.trans en, fun a z => ?_, h.h0, h.tr, ⟨⟨_, rfl, conv upd_same (Ow.omono en hv)⟩, frz_out h.ok.2 h2 nd.1⟩, nd.2, fun a m => h.bo a (List.mem_cons_of_mem _ m)⟩
  · by_cases q : a = D
    · subst q
      rw [upd_same] at e
      rw [ho]
      exact e
    · rw [upd_ne q] at e
      exact h.fh a u e
  · rw [upd_ne fun q => z (by rw [q]; exact hB)]
    exact h.nf a z
/-- an instance, frozen or one's own -/
def ViewI {C : Addr} {ns : List Str} {τ : Type} [Flds τ] (K : Fg) (F H : Hp) (v : V) (x : PI C ns τ) : Prop := ∃ a o, v = .ref a ∧ H a = some o ∧ ow K F o x
section
variable {C : Addr} {ns : List Str} [Flds τ]
theorem St.vIF (h : St K B F H w M) {x : PI C ns τ} {v : V} (r : rp K F v x) : ViewI K F H v x := by
  obtain ⟨a, o, h1, h2, h3⟩ := r
  exact ⟨a, o, h1, h.fh _ _ h2, h3⟩
theorem St.vIO (h : St K B F H w M) (i : Nat) {x : PI C ns τ} {a : Addr} (hM : M[i]? = some (.own a x)) : ViewI K F H (.ref a) x := by
  obtain ⟨_, _, ob, h1, h2⟩ := h.own i hM
  exact ⟨a, ob, rfl, h1, h2⟩
theorem lookup_rev {vs : List V} : ∀ {ns : List Str} {vs : List V} {f : Str}, f ∉ ns → ((ns.zip vs).reverse).lookup f = none
  | ns, vs, f, h => by
    rw [List.lookup_eq_none_iff]
    intro p hp
    have hp := List.mem_reverse.mp hp
    have := (List.of_mem_zip hp).1
    have e : ¬ f = p.1 := fun e => h (by rw [e]; exact this)
    simpa using e
theorem lookup_nd : ∀ {l : List (Str × V)} {f : Str} {v : V}, (l.map (·.1)).Nodup → (f, v) ∈ l → l.lookup f = some v
  | [], _, _, _, m => by cases m
  | (g, u) :: l, f, v, nd, m => by
    rw [List.map_cons, List.nodup_cons] at nd
    rcases List.mem_cons.mp m with e | m
    · cases e
      simp
    · have hne : ¬ f = g := fun e => nd.1 (by rw [← e]; exact List.mem_map.mpr ⟨(f, v), m, rfl⟩)
      rw [List.lookup_cons, show (f == g) = false by simpa using hne]
      exact lookup_nd nd.2 m
theorem lookup_at {ns : List Str} {vs : List V} {f : Str} {i : Nat} {v : V} (nd : ns.Nodup) (hl : vs.length = ns.length) (h1 : ns[i]? = some f) (h2 : vs[i]? = some v) : ((ns.zip vs).reverse).lookup f = some v := by
  refine lookup_nd ?_ ?_
  · rw [List.map_reverse, List.map_fst_zip (by omega)]
    exact (List.reverse_perm ns).nodup_iff.mpr nd
  · refine List.mem_reverse.mpr (List.mem_iff_getElem?.mpr ⟨i, ?_⟩)
    rw [List.getElem?_zip_eq_some]
    exact ⟨h1, h2⟩
def FldG (K : Fg) (f : Str) (Q : VK) (x : V) (H1 : Hp) : Prop := ∃ a C dx fs v, x = .ref a ∧ H1 a = some (.ins C dx fs) ∧ Cls K C ∧ NoAttr K C f ∧ fs.lookup f = some v ∧ Q v H1
theorem S_fldG {ta : TE} {f : Str} (h : ta σ H fun x H1 => FldG K f Q x H1) : tFld K ta f σ H Q := h
theorem S_fld {x : PI C ns τ} {v : V} {f : Str} (i : Nat) [ia : Rp α] [FAt i τ α] (h : St K B F H w M) (hv : ViewI K F H v x) (cl : Cls K C) (na : NoAttr K C f) (nd : ns.Nodup) (hf : ns[i]? = some f) (q : ∀ u, St K B F H (some u :: w) (.fz (FAt.get i x.x : α) :: M) → Q u H) : FldG K f Q v H := by
  obtain ⟨a, o, rfl, h2, dx, vs, rfl, h4, h5⟩ := hv
  obtain ⟨u, g1, g2⟩ := FAt.ok (k := i) h5
  exact ⟨a, C, dx, _, u, rfl, h2, cl, na, lookup_at nd h4 hf g1, q u (h.push g2)⟩
def MethG (C : Addr) (m : Str) (P : Prop) (x : V) (H1 : Hp) : Prop := ∃ a dx fs, x = .ref a ∧ H1 a = some (.ins C dx fs) ∧ fs.lookup m = none ∧ P
theorem S_methG {C : Addr} {m : Str} {sp : Sp} {dvs : List V} {E : XK} {ta : TE} {t : TA} (h : ta σ H fun x H1 => MethG C m (t σ H1 fun vs H2 => sp (x :: (vs ++ dvs)) H2 Q E) x H1) : tMeth C m sp dvs E ta t σ H Q := h
theorem S_meth {x : PI C ns τ} {v : V} {m : Str} {P : Prop} (hv : ViewI K F H v x) (hm : m ∉ ns) (q : P) : MethG C m P v H := by
  obtain ⟨a, o, rfl, h2, dx, vs, rfl, h4, h5⟩ := hv
  exact ⟨a, dx, _, rfl, h2, lookup_rev (vs := vs) hm, q⟩
theorem putF_new {f : Str} {y : V} : ∀ {fs : List (Str × V)}, f ∉ fs.map (·.1) → putF f y fs = fs ++ [(f, y)]
  | [], _ => rfl
  | (g, u) :: fs, h => by
    have hne : ¬ g = f := fun e => h (by rw [e]; exact List.mem_cons_self ..)
    show (if g = f then _ else _) = _
    rw [if_neg hne, putF_new fun m => h (List.mem_cons_of_mem _ m)]
    rfl
/-- self.f = e in a making: the object on top of its slot -/
theorem S_sFld {ta tv : TE} {f : Str} {D : Ends} (h : tv σ H fun y H1 => ta σ H1 fun x H2 => ∃ a C dx fs, x = .ref a ∧ H2 a = some (.ins C dx fs) ∧ Cls K C ∧ NoAttr K C f ∧ fs.length < 1000 ∧ D.nx σ (upd H2 a (.ins C dx (putF f y fs)))) : sFld K ta tv f D σ H := h
theorem setO_any [Ow β] {y : β} {a : Addr} {ob : HO} [Ow α] {x : α} (h : St K B F H w M) (i : Nat) (hM : M[i]? = some (.own a x)) (hy : ow K F ob y) : St K B F (upd H a ob) w (M.set i (.own a y)) := h.setOG i hM hy
theorem S_setFld [Rp α] {x : PI C ns τ} {a : Addr} {v : V} {f : Str} {z : α} {P : L2.St → Hp → Prop} (i : Nat) (h : St K B F H w M) (hM : M[i]? = some (.own a x)) (hv : rp K F v z) (cl : Cls K C) (na : NoAttr K C f) (hn : f ∉ ns) (hl : ns.length < 1000) (q : ∀ H', St K B F H' w (M.set i (.own a (PI.mk (z, x.x) : PI C (f :: ns) (α × τ)))) → P σ H') :
    ∃ a' C' dx fs, (V.ref a) = .ref a' ∧ H a' = some (.ins C' dx fs) ∧ Cls K C' ∧ NoAttr K C' f ∧ fs.length < 1000 ∧ P σ (upd H a' (.ins C' dx (putF f v fs))) := by
  obtain ⟨_, _, ob, hH, dx, vs, rfl, h4, h5⟩ := h.own i hM
  have hlen : ((ns.zip vs).reverse).length = ns.length := by simp [h4]
  refine ⟨a, C, dx, _, rfl, hH, cl, na, by rw [hlen]; exact hl, q _ (setO_any h i hM ⟨dx, v :: vs, ?_, by simp [h4], v, vs, rfl, hv, h5⟩)⟩
  rw [putF_new (by rw [List.map_reverse, List.map_fst_zip (by omega)]; exact fun m => hn (List.mem_reverse.mp m))]
  simp
/-- C(..) -/
theorem S_tmake {sp : Sp} {dvs : List V} {E : XK} {t : TA} (h : t σ H fun vs H1 => ∀ x dx, H1 x = none → H1 dx = none → dx ≠ x → sp (.ref x :: (vs ++ dvs)) (upd (upd H1 dx (.own x)) x (.ins C dx [])) (fun v H2 => v = .non ∧ Q (.ref x) H2) E) : tMake C sp dvs E t σ H Q := h
theorem S_make {R : List Slot → RSlot → List Slot → Prop} {E : XK} {vs : List V} {y : PI C ns τ} (h : St K B F H w M) (hA : Slots K F H (vs.map some) A) (hR : ∀ x : Addr, R (.own x (PI.mk () : PI C [] Unit) :: A) (.fz ()) (.own x y :: A')) (ho : owns A = []) (hA' : ∀ F' H' L, Aft K F' H' A' L → L = [])
    (q : ∀ p F' H', St K B F' H' (some (.ref p) :: w) (.fz y :: M) → Q (.ref p) H') : ∀ x dx, H x = none → H dx = none → dx ≠ x → Prom K R (.ref x :: (vs ++ [])) (upd (upd H dx (.own x)) x (.ins C dx [])) (fun v H2 => v = .non ∧ Q (.ref x) H2) E := by
  intro x dx hx hdx hne
  rw [List.append_nil]
  have hB := h.freshB hx
  have h1 := h.newO (ob := .own x) hdx
  have hx1 : upd H dx (.own x) x = none := by rw [upd_ne hne.symm]; exact hx
  have h2 := h1.pushO (α := PI C [] Unit) (x := PI.mk ()) hx1 (ob := .ins C dx []) ⟨dx, [], rfl, rfl, rfl⟩
  have hA2 : Slots K F (upd (upd H dx (.own x)) x (.ins C dx [])) ((.ref x :: vs).map some) (.own x (PI.mk () : PI C [] Unit) :: A) := by
    refine ⟨h2.ok.1, ?_⟩
    have e : Ex H (upd (upd H dx (.own x)) x (.ins C dx [])) := (Ex.new hdx).trans (Ex.new hx1)
    exact hA.step (Ex.refl F) e fun _ _ => rfl
  refine S_call1 (x := (PI.mk () : PI C [] Unit)) (x' := y) 0 h2 rfl hA2 (hR x) (by show x :: owns A = _; rw [ho]) (fun F' H' L z => ?_) fun u F' H' h3 r => ?_
  · obtain ⟨g', L', e1, e2, e3, e4⟩ := z
    exact ⟨g', [], e1, by rw [e2, hA' _ _ _ e4], e3, rfl⟩
  have e : u = .non := r
  obtain ⟨F2, h4⟩ := St.frzG (α := PI C ns τ) (z := y) h3 hB (fun {F0 ob0} z1 z2 => show ∃ a o, V.ref x = .ref a ∧ F0 a = some o ∧ Ow.ow K F0 o y from ⟨x, ob0, rfl, z1, z2⟩)
  exact ⟨e, q x F2 H' h4⟩
end
end
/-- a class of the program -/
structure CalI (P : Program) (w : World) (K : Fg) (mg : Str → Option Value) (base : Heap) (k : Nat) (x : Str) (C : Addr) (ps : List Str) (R : List Slot → RSlot → List Slot → Prop) : Prop where
  ex : ∃ f fd, FnOk P w K mg base CX0 k f fd ps (Prom K R) ∧ Mk K C f ∧ mg x = some (.ref C) ∧ Binds K fd ps []
structure CalM (P : Program) (w : World) (K : Fg) (mg : Str → Option Value) (base : Heap) (k : Nat) (C : Addr) (m : Str) (ps : List Str) (R : List Slot → RSlot → List Slot → Prop) : Prop where
  ex : ∃ f fd, FnOk P w K mg base CX0 k f fd ps (Prom K R) ∧ Meth K C m f ∧ Binds K fd ps []
section
variable {X : Cx} {k : Nat} {C : Addr} {x m : Str} {ps : List Str} {R : List Slot → RSlot → List Slot → Prop} {e o : Expr} {es : List Expr} {t : TA} {ta : TE} {p pos apos : Pos}
theorem CalI.pe (c : CalI X.prog X.w X.K X.mg X.base k x C ps R) (hr : Room (k + 1) X.A) (hg : Gl X x) (ha : PA X (e :: es) t)
    (hdb : (x == ("__debug__" : Str)) = false := by decide) (he : starEach (e :: es) X.env = (false, eval e X.env) :: starEach es X.env := by rfl) (hpl : (backTo pos (starEach es X.env)).any (·.1) = false := by rfl) :
    PE X (.Call (.Name x p) (e :: es) [] pos) (tMake C (Prom X.K R) [] E0 t) := by
  obtain ⟨f, fd, h1, h2, h3, h4⟩ := c.ex
  exact pe_make h2 h1 hr hg h3 h4 .nil pass0 ha hdb he hpl
theorem CalM.pe {pl : Sem Bool} (c : CalM X.prog X.w X.K X.mg X.base k C m ps R) (cl : Cls X.K C) (hr : Room k X.A) (he : PE X o ta) (ha : PA X (e :: es) t)
    (hst : starEach (e :: es) X.env = (false, eval e X.env) :: starEach es X.env := by rfl) (hpl : (backTo pos (starEach es X.env)).any (·.1) = false := by rfl)
    (ht : eval (.Call (.Attribute o m apos) (e :: es) [] pos) X.env = (do
      let ov ← eval o X.env
      standAt apos.atName
      let (f, first) ← holding [ov] (getMethod ov m pl)
      callWith pos f first (backTo pos (starEach (e :: es) X.env)) (backToKw pos (keywordEach [] X.env))) := by rfl) :
    PE X (.Call (.Attribute o m apos) (e :: es) [] pos) (tMeth C m (Prom X.K R) [] E0 ta t) := by
  obtain ⟨f, fd, h1, h2, h4⟩ := c.ex
  exact pe_meth he cl h2 h1 hr h4 .nil pass0 ha hst hpl ht
theorem CalM.pe0 {pl : Sem Bool} (c : CalM X.prog X.w X.K X.mg X.base k C m ps R) (cl : Cls X.K C) (hr : Room k X.A) (he : PE X o ta)
    (ht : eval (.Call (.Attribute o m apos) [] [] pos) X.env = (do
      let ov ← eval o X.env
      standAt apos.atName
      let (f, first) ← holding [ov] (getMethod ov m pl)
      callWith pos f first (backTo pos (starEach [] X.env)) (backToKw pos (keywordEach [] X.env))) := by rfl) :
    PE X (.Call (.Attribute o m apos) [] [] pos) (tMeth C m (Prom X.K R) [] E0 ta tNil) := by
  obtain ⟨f, fd, h1, h2, h4⟩ := c.ex
  exact pe_meth0 he cl h2 h1 hr h4 .nil pass0 ht
end
end G

set_option Elab.async false
set_option linter.all false
set_option maxRecDepth 100000
set_option maxHeartbeats 4000000
/-! G9: how many unlike tuples of ints a list holds: len(set(xs)). -/
namespace G
open PySem PySem.Spec PyProof.Rows L2
open Rp (rp)
open Ow (ow)
def nub {α : Type} [DecidableEq α] : List α → List α
  | [] => []
  | x :: xs => if x ∈ xs then nub xs else x :: nub xs
theorem mem_nub {α : Type} [DecidableEq α] {y : α} : ∀ {xs : List α}, y ∈ nub xs ↔ y ∈ xs
  | [] => Iff.rfl
  | x :: xs => by
    unfold nub
    have ih := mem_nub (y := y) (xs := xs)
    split
    · rename_i h
      rw [ih]
      refine ⟨fun m => List.mem_cons_of_mem _ m, fun m => ?_⟩
      rcases List.mem_cons.mp m with e | m
      · rw [e]; exact h
      · exact m
    · rw [List.mem_cons, List.mem_cons, ih]
theorem nub_nodup {α : Type} [DecidableEq α] : ∀ xs : List α, (nub xs).Nodup
  | [] => List.nodup_nil
  | x :: xs => by
    unfold nub
    split
    · exact nub_nodup xs
    · rename_i h
      exact List.nodup_cons.mpr ⟨fun m => h (mem_nub.mp m), nub_nodup xs⟩
theorem nub_of_nodup {α : Type} [DecidableEq α] : ∀ {xs : List α}, xs.Nodup → nub xs = xs
  | [], _ => rfl
  | x :: xs, h => by
    have h' := List.nodup_cons.mp h
    unfold nub
    rw [if_neg h'.1, nub_of_nodup h'.2]
theorem len_le_of_sub {α : Type} [DecidableEq α] : ∀ {l xs : List α}, l.Nodup → (∀ x ∈ l, x ∈ xs) → l.length ≤ xs.length
  | [], _, _, _ => Nat.zero_le _
  | x :: l, xs, nd, h => by
    have nd' := List.nodup_cons.mp nd
    have hx := h x (List.mem_cons_self ..)
    have ih := len_le_of_sub (l := l) (xs := xs.erase x) nd'.2 fun y m => by
      have hne : y ≠ x := fun e => nd'.1 (by rw [← e]; exact m)
      exact (List.mem_erase_of_ne hne).mpr (h y (List.mem_cons_of_mem _ m))
    rw [List.length_erase_of_mem hx] at ih
    have hp : 0 < xs.length := List.length_pos_of_mem hx
    rw [List.length_cons]
    omega
theorem len_nub {α : Type} [DecidableEq α] {l xs : List α} (nd : l.Nodup) (h1 : ∀ x ∈ l, x ∈ xs) (h2 : ∀ x ∈ xs, x ∈ l) : l.length = (nub xs).length := by
  refine Nat.le_antisymm ?_ ?_
  · exact len_le_of_sub nd fun x m => mem_nub.mpr (h1 x m)
  · exact len_le_of_sub (nub_nodup xs) fun x m => h2 x (mem_nub.mp m)
def rLenST (P : Program) (w : World) : List V → Hp → VK → Prop := fun xs H Q => ∃ a L, xs = [.ref a] ∧ H a = some (SetTO P w a L) ∧ ((L.map (·.2)).Nodup → Q (.int L.length) H)
theorem cr_lenST {X : Cx} : CallR X (.builtin "len") (rLenST X.prog X.w) := by
  intro pins s σ H xs us Q I r h
  obtain ⟨a, L, rfl, ha, q⟩ := h
  rw [Vals.ref1 r]
  have R0 : SetT0 X.prog X.w s.heap a L := (I.hok a _ ha).1
  obtain ⟨es, ep, t, ⟨o, ho, hex, hd⟩, hr, T, nd, _, _, room, few⟩ := R0.ex
  have hs : es.size = L.length := by
    have := congrArg List.length hr
    simpa [rowsOf] using this
  have hf : t.fits es.size = true := by
    unfold SetTable.fits SetTable.fill
    have h1 := T.sz
    have h2 := T.dm
    rw [List.length_map] at h1
    rw [h1, h2, hs]
    simp
    omega
  refine call_len_set ho hex hd hf (by rw [hs]; omega) ?_
  rw [hs]
  exact ⟨.int L.length, H, I.tok _, ⟨_, rfl⟩, q nd⟩
section
variable {K : Fg} {B : Base} {F H : Hp} {w : List (Option V)} {σ : L2.St} {M : List Slot} {Q : VK}
theorem refs_of {F : Hp} : ∀ {vs : List V} {xs : List (Tup Int)}, Paired (rp K F) vs xs → ∃ ks : List (Addr × List Int), vs = ks.map (fun p => V.ref p.1) ∧ ks.map (·.2) = xs.map (·.l) ∧ ∀ p ∈ ks, SqT K F p.1 (p.2.map V.int)
  | _, _, .nil => ⟨[], rfl, rfl, fun _ m => by cases m⟩
  | _, _, .cons (a := v) (b := x) r t => by
    obtain ⟨ks, h1, h2, h3⟩ := refs_of t
    obtain ⟨a, us, rfl, g2, g3, g4⟩ := r
    have e := paired_ints g4
    subst e
    refine ⟨(a, x.l) :: ks, by rw [h1]; rfl, by simp [h2], fun p m => ?_⟩
    rcases List.mem_cons.mp m with e | m
    · rw [e]; exact g2.sq
    · exact h3 p m
def nubO (xs : List (Tup Int)) : Option Int := if xs.length < 64 then some ((nub xs).length : Int) else none
/-- set(xs), then its length -/
theorem S_setT {P : Program} {w0 : World} {xs : List (Tup Int)} {v : V} {n : Int} (h : St K B F H w M) (hv : ViewL K F H v xs) (hm : nubO xs = some n) (q : ∀ a H', St K B F H' w M → (∀ Q' : VK, Q' (.int n) H' → rLenST P w0 [.ref a] H' Q') → Q (.ref a) H') : rSetOfT K P w0 [v] H Q := by
  unfold nubO at hm
  split at hm
  · rename_i hl
    have e := Option.some.inj hm
    subst e
    obtain ⟨a, vs, rfl, h2, h3, h4⟩ := hv
    obtain ⟨ks, g1, g2, g3⟩ := refs_of h4
    have hlen : ks.length = xs.length := by
      have := congrArg List.length g2
      simpa using this
    refine ⟨a, ks, rfl, .inl (.inl (by rw [← g1]; exact h2)), fun p m => ex_t h.fh (g3 p m), by omega, fun b L hb s1 s2 => ?_⟩
    refine q b _ (h.newO hb) fun Q' q' => ⟨b, L, rfl, upd_same, fun nd => ?_⟩
    have hn : (L.map (·.2)).length = (nub (xs.map (·.l))).length := by
      refine len_nub nd (fun x m => ?_) fun x m => ?_
      · obtain ⟨p, hp, e⟩ := List.mem_map.mp m
        rw [← g2, ← e]
        exact List.mem_map.mpr ⟨p, s1 p hp, rfl⟩
      · rw [← g2] at m
        obtain ⟨p, hp, e⟩ := List.mem_map.mp m
        rw [← e]
        exact s2 p hp
    have key : ∀ ys : List (Tup Int), (nub (ys.map (·.l))).length = (nub ys).length := by
      intro ys
      induction ys with
      | nil => rfl
      | cons y ys ih =>
        rw [List.map_cons]
        unfold nub
        have e : (y.l ∈ ys.map (·.l)) ↔ y ∈ ys := by
          rw [List.mem_map]
          refine ⟨fun ⟨z, hz, e⟩ => ?_, fun m => ⟨y, m, rfl⟩⟩
          have : z = y := by cases z; cases y; exact congrArg Tup.mk e
          rw [← this]; exact hz
        by_cases hy : y ∈ ys
        · rw [if_pos (e.mpr hy), if_pos hy, ih]
        · rw [if_neg (fun z => hy (e.mp z)), if_neg hy, List.length_cons, List.length_cons, ih]
    rw [List.length_map, key] at hn
    rw [hn]
    exact q'
  · cases hm
end
/-! ### more for the printed proofs -/
section
variable {K : Fg} {B : Base} {F H : Hp} {w : List (Option V)} {σ : L2.St} {M : List Slot} {Q : VK} {α τ : Type} {r r' : R2} {te ta tb tc tv : TE} {u : TS} {D : Ends}
def SFG (K : Fg) (f : Str) (y : V) (P : Hp → Prop) (x : V) (H2 : Hp) : Prop := ∃ a C dx fs, x = .ref a ∧ H2 a = some (.ins C dx fs) ∧ Cls K C ∧ NoAttr K C f ∧ fs.length < 1000 ∧ P (upd H2 a (.ins C dx (putF f y fs)))
theorem S_sfl {f : Str} (h : tv σ H fun y H1 => ta σ H1 fun x H2 => SFG K f y (fun H3 => D.nx σ H3) x H2) : sFld K ta tv f D σ H := h
theorem Q_sfl {f : Str} (h : tv σ H fun y H1 => ta σ H1 fun x H2 => SFG K f y (fun H3 => u D σ H3) x H2) : tSeq (sFld K ta tv f) u D σ H := h
theorem S_sfE {C : Addr} {ns : List Str} [Flds τ] [Rp α] {x : PI C ns τ} {a : Addr} {v : V} {f : Str} {z : α} {P : Hp → Prop} (i : Nat) (h : St K B F H w M) (hM : M[i]? = some (.own a x)) (hv : rp K F v z) (cl : Cls K C) (na : NoAttr K C f) (hn : f ∉ ns) (hl : ns.length < 1000) (q : ∀ H', St K B F H' w (M.set i (.own a (PI.mk (z, x.x) : PI C (f :: ns) (α × τ)))) → P H') : SFG K f v P (.ref a) H :=
  S_setFld (P := fun _ H => P H) (σ := w) i h hM hv cl na hn hl q
def ParG (P : V → V → Hp → Prop) (vs : List V) (H1 : Hp) : Prop := ∃ v w, vs = [v, w] ∧ P v w H1
theorem S_par {i j : Nat} {tA : TA} (h : tA σ H fun vs H1 => ParG (fun v w H2 => D.nx ((σ.set i (some v)).set j (some w)) H2) vs H1) : tPar i j tA D σ H := h
theorem Q_par {i j : Nat} {tA : TA} (h : tA σ H fun vs H1 => ParG (fun v w H2 => u D ((σ.set i (some v)).set j (some w)) H2) vs H1) : tSeq (tPar i j tA) u D σ H := h
theorem S_parE {P : V → V → Hp → Prop} {v w : V} (h : P v w H) : ParG P [v, w] H := ⟨v, w, rfl, h⟩
/-- a chain whose last part changes nothing -/
theorem S_chP {k c : Bool} {y : V} (h1 : k = true → ∀ Q' : VK, Q' (.bl c) H → tc σ H fun w' H4 => r' y w' H4 Q') (q : Q (.bl (k && c)) H) : ChG σ r' tc y Q (.bl k) H := by
  refine S_chK (c := c) (fun e => h1 e Q ?_) (fun e => ?_)
  · rw [e] at q; exact q
  · rw [e] at q; exact q
theorem ht3 [Rp α] {α2 α3 : Type} [Rp α2] [Rp α3] {x : HT (α × α2 × α3 × Unit)} {v : V} {gr : TGs} {Q : L2.St → Hp → Prop} (h : St K B F H w M) (hv : rp K F v x) (q : ∀ v1 v2 v3, St K B F H (some v3 :: some v2 :: some v1 :: w) (.fz x.x.2.2.1 :: .fz x.x.2.1 :: .fz x.x.1 :: M) → gr [v1, v2, v3] σ H Q) : gTup K 3 gr v σ H Q := by
  obtain ⟨a, vs, rfl, h2, v1, r1, rfl, h3, v2, r2, rfl, h4, v3, r3, rfl, h5, rfl⟩ := hv
  exact ⟨a, [v1, v2, v3], rfl, ex_t h.fh h2.sq, rfl, q v1 v2 v3 (((h.push h3).push h4).push h5)⟩
theorem ht4 [Rp α] {α2 α3 α4 : Type} [Rp α2] [Rp α3] [Rp α4] {x : HT (α × α2 × α3 × α4 × Unit)} {v : V} {gr : TGs} {Q : L2.St → Hp → Prop} (h : St K B F H w M) (hv : rp K F v x) (q : ∀ v1 v2 v3 v4, St K B F H (some v4 :: some v3 :: some v2 :: some v1 :: w) (.fz x.x.2.2.2.1 :: .fz x.x.2.2.1 :: .fz x.x.2.1 :: .fz x.x.1 :: M) → gr [v1, v2, v3, v4] σ H Q) : gTup K 4 gr v σ H Q := by
  obtain ⟨a, vs, rfl, h2, v1, r1, rfl, h3, v2, r2, rfl, h4, v3, r3, rfl, h5, v4, r4, rfl, h6, rfl⟩ := hv
  exact ⟨a, [v1, v2, v3, v4], rfl, ex_t h.fh h2.sq, rfl, q v1 v2 v3 v4 ((((h.push h3).push h4).push h5).push h6)⟩
/-- the first things of a tuple, all of one kind -/
class FPre (k : Nat) (τ : Type) [Flds τ] (α : Type) [Rp α] where
  pre : τ → List α
  ok : ∀ {K : Fg} {F : Hp} {vs : List V} {x : τ}, Flds.fl K F vs x → Paired (rp K F) (vs.take k) (pre x) ∧ k ≤ vs.length
instance {α τ : Type} [Rp α] [Flds τ] : FPre 0 τ α := ⟨fun _ => [], fun _ => ⟨.nil, Nat.zero_le _⟩⟩
instance {k : Nat} {α τ : Type} [Rp α] [Flds τ] [FPre k τ α] : FPre (k + 1) (α × τ) α := ⟨fun x => x.1 :: FPre.pre k x.2, fun ⟨v, r, h1, h2, h3⟩ => by
  obtain ⟨g1, g2⟩ := FPre.ok (k := k) (α := α) h3
  rw [h1]
  exact ⟨.cons h2 g1, Nat.succ_le_succ g2⟩⟩
theorem sIx_nat {n k : Nat} (h : k ≤ n) : HT.sIx n n (some (k : Int)) = k := by
  unfold HT.sIx
  simp
  rw [if_neg (by omega)]
  omega
theorem S_slH [Rp α] [Flds τ] {x : HT τ} {v : V} (k : Nat) [FPre k τ α] (hk : k ≤ 1000) (h : St K B F H w M) (hv : rp K F v x) (q : ∀ u F' H', St K B F' H' (some u :: w) (.fz (Tup.mk (FPre.pre k x.x : List α)) :: M) → Q u H') : rSlA K v none (some (k : Int)) H Q := by
  obtain ⟨a, vs, rfl, h2, h3⟩ := hv
  obtain ⟨g1, g2⟩ := FPre.ok (k := k) (α := α) h3
  have e0 : HT.sIx vs.length 0 none = 0 := rfl
  have e1 := sIx_nat g2
  have hs : sizeLine = 16777216 := sizeLine_eq
  refine ⟨a, vs, rfl, ex_t h.fh h2.sq, fun hw => ?_, fun _ p hp => ?_⟩
  · rw [e1] at hw
    have e3 : vs.take k = vs := List.take_of_length_le (by omega)
    rw [e3] at g1
    exact q _ _ _ (h.push ⟨a, vs, rfl, h2, by omega, g1⟩)
  · have e := Ex.new (o := .tup (vs.take k)) (fresh_back h.fh hp)
    have e2 : cutV vs none (some (k : Int)) = vs.take k := by
      unfold cutV
      rw [e0, e1]
      simp
    rw [e2]
    exact q _ _ _ ((h.newF hp).push ⟨p, vs.take k, rfl, .inl upd_same, by rw [List.length_take]; omega, paired_mono e g1⟩)
theorem St.widen [Rp α] [NN α] (h : St K B F H w M) (i : Nat) {o : Option α} {x : α} (hM : M[i]? = some (.fz x)) (e : o = some x) : St K B F H w (M.set i (.fz o)) := by
  refine ⟨h.fh, h.f0, h.nf, h.h0, h.tr, h.ok.cast i hM fun u hu => ?_, (owns_setF i rfl).nodup h.nd, fun a m => h.bo a ((owns_setF i rfl).subset m)⟩
  obtain ⟨v, h1, h2⟩ := hu
  subst e
  exact ⟨v, h1, rp_some h2⟩
theorem St.finOwn [Ow α] {x : α} {p : Addr} {A' : List Slot} (h : St K B F H w M) (i : Nat) (hM : M[i]? = some (.own p x)) (hB : B.H p = none) (a : AftM K F H (M.take i) A') : Fin K B (.fr x) A' (.ref p) F H :=
  St.finV (s := flat α) i h hM (fun b m => by rw [List.mem_singleton.mp m]; exact hB) a
theorem St.finFr [Ow α] {x : α} {p : Addr} {A' : List Slot} {o : Option V} (h : St K B F H (o :: w) (.own p x :: M)) (hB : B.H p = none) (a : AftM K F H M A') : Fin K B (.fr x) A' (.ref p) F H :=
  St.finO (s := flat α) h (fun b m => by rw [List.mem_singleton.mp m]; exact hB) a
theorem fl_nil : Flds.fl K F [] () := rfl
theorem fl_cons [Rp α] [Flds τ] {v : V} {vs : List V} {x : α} {y : τ} (h : rp K F v x) (k : Flds.fl K F vs y) : Flds.fl K F (v :: vs) (x, y) := ⟨v, vs, rfl, h, k⟩
def MakeG (C : Addr) (sp : Sp) (dvs : List V) (E : XK) (Q : VK) (vs : List V) (H1 : Hp) : Prop := ∀ x dx, H1 x = none → H1 dx = none → dx ≠ x → sp (.ref x :: (vs ++ dvs)) (upd (upd H1 dx (.own x)) x (.ins C dx [])) (fun v H2 => v = .non ∧ Q (.ref x) H2) E
theorem S_tmk {C : Addr} {sp : Sp} {dvs : List V} {E : XK} {t : TA} (h : t σ H fun vs H1 => MakeG C sp dvs E Q vs H1) : tMake C sp dvs E t σ H Q := h
theorem S_mkE {C : Addr} {ns : List Str} [Flds τ] {A A' : List Slot} {R : List Slot → RSlot → List Slot → Prop} {E : XK} {vs : List V} {y : PI C ns τ} (h : St K B F H w M) (hA : Slots K F H (vs.map some) A) (hR : ∀ x : Addr, R (.own x (PI.mk () : PI C [] Unit) :: A) (.fz ()) (.own x y :: A')) (ho : owns A = []) (hA' : ∀ F' H' L, Aft K F' H' A' L → L = [])
    (q : ∀ p F' H', St K B F' H' (some (.ref p) :: w) (.fz y :: M) → Q (.ref p) H') : MakeG C (Prom K R) [] E Q vs H := S_make h hA hR ho hA' q
end
end G

set_option Elab.async false
set_option linter.all false
set_option maxRecDepth 100000
set_option maxHeartbeats 4000000
/-! G10: plain lemmas: loops that gather, that count, that select; texts. -/
namespace G
open PySem PySem.Spec PyProof.Rows L2
section
variable {α β γ τ ρ : Type}
theorem foldO_app {b : α → List β → Option (List β)} {g : α → List β} {c : Nat} : ∀ {xs : List α} {s : List β}, (∀ x ∈ xs, (g x).length ≤ c) → s.length + xs.length * c ≤ 1000000 → (∀ x ∈ xs, ∀ s : List β, s.length + c ≤ 1000000 → b x s = some (s ++ g x)) → foldO b xs s = some (s ++ xs.flatMap g)
  | [], s, _, _, _ => by simp [foldO]
  | x :: xs, s, hc, hl, h => by
    have h1 := hc x (List.mem_cons_self ..)
    have e : (xs.length + 1) * c = xs.length * c + c := Nat.succ_mul ..
    rw [List.length_cons, e] at hl
    unfold foldO
    rw [h x (List.mem_cons_self ..) s (by omega)]
    show foldO b xs (s ++ g x) = _
    rw [foldO_app (g := g) (c := c) (fun y m => hc y (List.mem_cons_of_mem _ m)) (by rw [List.length_append]; omega) fun y m => h y (List.mem_cons_of_mem _ m)]
    rw [List.flatMap_cons, List.append_assoc]
theorem forO_sum {b : α → Int → Option (Out Int ρ)} {g : α → Nat} : ∀ {xs : List α} {s : Int}, (∀ x ∈ xs, ∀ s, b x s = some (.nx (s + (g x : Int)))) → forO b xs s = some (.nx (s + ((xs.map g).sum : Nat)))
  | [], s, _ => by simp [forO]
  | x :: xs, s, h => by
    have ih := forO_sum (xs := xs) (s := s + (g x : Int)) fun y m => h y (List.mem_cons_of_mem _ m)
    unfold forO
    rw [h x (List.mem_cons_self ..)]
    show forO b xs (s + (g x : Int)) = _
    rw [ih, List.map_cons, List.sum_cons]
    congr 2
    omega
theorem selO_eq {p : α → Option Bool} {f : α → Option β} {p' : α → Bool} {f' : α → β} : ∀ {xs : List α}, (∀ x ∈ xs, p x = some (p' x)) → (∀ x ∈ xs, p' x = true → f x = some (f' x)) → selO p f xs = some ((xs.filter p').map f')
  | [], _, _ => rfl
  | x :: xs, hp, hf => by
    have ih := selO_eq (fun y m => hp y (List.mem_cons_of_mem _ m)) (fun y m => hf y (List.mem_cons_of_mem _ m))
    unfold selO
    rw [hp x (List.mem_cons_self ..)]
    show (if p' x = true then _ else _) = _
    by_cases h : p' x = true
    · rw [if_pos h, hf x (List.mem_cons_self ..) h, ih, List.filter_cons_of_pos h]
      rfl
    · rw [if_neg h, ih, List.filter_cons_of_neg h]
theorem flatMap_one {g : α → List β} [DecidableEq α] {x : α} : ∀ {xs : List α}, xs.Nodup → x ∈ xs → (∀ y ∈ xs, y ≠ x → g y = []) → xs.flatMap g = g x
  | [], _, m, _ => by cases m
  | y :: xs, nd, m, h => by
    have nd' := List.nodup_cons.mp nd
    rw [List.flatMap_cons]
    by_cases e : y = x
    · subst e
      have : xs.flatMap g = [] := by
        rw [List.flatMap_eq_nil_iff]
        intro z hz
        exact h z (List.mem_cons_of_mem _ hz) fun e => nd'.1 (by rw [← e]; exact hz)
      rw [this, List.append_nil]
    · rw [h y (List.mem_cons_self ..) e, List.nil_append]
      refine flatMap_one nd'.2 ?_ fun z hz => h z (List.mem_cons_of_mem _ hz)
      rcases List.mem_cons.mp m with q | q
      · exact absurd q.symm e
      · exact q
theorem foldO_ix {b : α → τ → Option τ} {I : Nat → τ → Prop} {N : Nat} : ∀ {xs : List α} {s : τ} {n : Nat}, I n s → n + xs.length ≤ N → (∀ x ∈ xs, ∀ n s, n < N → I n s → ∃ s', b x s = some s' ∧ I (n + 1) s') → ∃ s', foldO b xs s = some s' ∧ I (n + xs.length) s'
  | [], s, n, h, _, _ => ⟨s, rfl, h⟩
  | x :: xs, s, n, h, hN, k => by
    rw [List.length_cons] at hN
    obtain ⟨s1, e1, h1⟩ := k x (List.mem_cons_self ..) n s (by omega) h
    obtain ⟨s2, e2, h2⟩ := foldO_ix (N := N) h1 (by omega) fun y m => k y (List.mem_cons_of_mem _ m)
    exact ⟨s2, by unfold foldO; rw [e1]; exact e2, by rw [List.length_cons, ← Nat.add_assoc, Nat.add_right_comm]; exact h2⟩
/-- a mapS whose elements are told one by one -/
theorem mapS_rel {f : α → τ → Option (β × τ)} {I : τ → Prop} {R : α → β → Prop} : ∀ {xs : List α} {s : τ}, I s → (∀ x ∈ xs, ∀ s, I s → ∃ p, f x s = some p ∧ R x p.1 ∧ I p.2) → ∃ q, mapS f xs s = some q ∧ Paired R xs q.1 ∧ I q.2
  | [], s, h, _ => ⟨([], s), rfl, .nil, h⟩
  | x :: xs, s, h, k => by
    obtain ⟨p, e1, p1, h1⟩ := k x (List.mem_cons_self ..) s h
    obtain ⟨q, e2, r2, h2⟩ := mapS_rel h1 fun y m => k y (List.mem_cons_of_mem _ m)
    exact ⟨(p.1 :: q.1, q.2), by unfold mapS; rw [e1]; show (mapS f xs p.2).bind _ = _; rw [e2]; rfl, .cons p1 r2, h2⟩
theorem enumFrom_mem {xs : List α} {p : Int × α} (h : p ∈ enumFrom 0 xs) : ∃ i : Nat, p.1 = (i : Int) ∧ xs[i]? = some p.2 := by
  obtain ⟨i, hi⟩ := List.mem_iff_getElem?.mp h
  have := enumFrom_at xs 0 i p hi
  exact ⟨i, by rw [this.1]; simp, this.2⟩
theorem rangeO2_eq {lo hi : Nat} (h1 : lo < 1000000) (h2 : hi < 1000000) : rangeO2 (lo : Int) (hi : Int) = some ((List.range' lo (hi - lo)).map fun (i : Nat) => (i : Int)) := by
  unfold rangeO2
  rw [if_pos ⟨by omega, by omega, by omega, by omega⟩]
  congr 1
  rw [List.range'_eq_map_range, List.map_map, show ((hi : Int) - (lo : Int)).toNat = hi - lo by omega]
  refine List.map_congr_left fun i _ => ?_
  show (lo : Int) + (i : Int) = ((lo + i : Nat) : Int)
  omega
/-! ### texts -/
def chars (w : Str) : List Nat := w.cps.toList
theorem chars_append (a b : Str) : chars (a ++ b) = chars a ++ chars b := by
  show (a.cps ++ b.cps).toList = _
  exact Array.toList_append
theorem chars_len (a : Str) : (chars a).length = a.length := Array.length_toList
theorem str_ext {a b : Str} (h : chars a = chars b) : a = b := by
  cases a; cases b
  exact congrArg Str.mk (Array.toList_inj.mp h)
theorem catS_ok {a b : Str} (h : (chars a).length + (chars b).length ≤ 1000000) : catS a b = some (a ++ b) := by
  rw [chars_len, chars_len] at h
  exact if_pos h
theorem ixS_ok {z : Str} {i : Int} {n c : Nat} (h : (chars z)[n]? = some c) (e : i = (n : Int)) (hl : (chars z).length ≤ 1000000) : ixS z i = some ⟨#[c]⟩ := by
  rw [chars_len] at hl
  unfold ixS
  rw [if_pos hl, show atI z.cps.toList i = some c from atI_of h e]
  rfl
theorem cutSO_ok {z : Str} {n : Nat} (hl : (chars z).length ≤ 1000000) : ∃ w, cutSO z none (some (n : Int)) = some w ∧ chars w = (chars z).take n := by
  rw [chars_len] at hl
  refine ⟨cutS z none (some (n : Int)), if_pos hl, ?_⟩
  show ((z.cps.toList.drop (HT.sIx z.length 0 none)).take (HT.sIx z.length z.length (some (n : Int)) - HT.sIx z.length 0 none)) = _
  rw [HT.sIx_none, HT.sIx_nat, List.drop_zero, Nat.sub_zero]
  show (chars z).take (min n z.length) = (chars z).take n
  rw [← chars_len z]
  rw [List.take_eq_take_iff]
  omega
theorem signsO_ok {z : Str} (hl : (chars z).length ≤ 1000000) : signsO z = some ((chars z).map fun c => ⟨#[c]⟩) := by
  rw [chars_len] at hl
  unfold signsO
  rw [if_pos hl]
  rfl
theorem lenS_ok {z : Str} (hl : (chars z).length ≤ 1000000) : lenS z = some ((chars z).length : Int) := by
  rw [chars_len] at hl ⊢
  exact if_pos hl
theorem inS_ok {c : Nat} {z : Str} : inS ⟨#[c]⟩ z = some (decide (c ∈ chars z)) := rfl
end
end G

set_option Elab.async false
set_option linter.all false
set_option maxRecDepth 100000
set_option maxHeartbeats 4000000
/-! G11: enumerate over a tuple; while loops. -/
namespace G
open PySem PySem.Spec PyProof.Rows L2
open Rp (rp)
open Ow (ow)
set_option maxHeartbeats 4000000 in
theorem meets_enumerate_newB1 {v : Value} {o : Obj} {H : Heap → Prop} (B : Begins v o H) :
    Meets (Builtin.«enumerate.__new__» ⟨[.type "enumerate", v], []⟩) (fun _ R s => H s.heap ∧
      R (.ok (.ret (.ref (s.heap.push o).objs.size))) { s with heap := (s.heap.push o).push { cls := .type "enumerate", data := .fields #[.none, .bool false, .ref s.heap.objs.size, rawInt 0, .none, .none] } }) :=
  .of_wp fun prog w A R s h => by
    obtain ⟨hp, g, d, tk, os⟩ := s; obtain ⟨h1, h⟩ := h
    have hsub := sub_enumerate
    have q1 : ∀ {A' : Around} {E : Value → Shared → Prop} {Q : Value → Shared → Prop}, Q (.ref hp.objs.size) ⟨hp.push o, g, d, tk, os⟩ → wpAny (model prog w) A' (pyIter v) Q E ⟨hp, g, d, tk, os⟩ :=
      fun q => B.iter prog w _ _ ⟨hp, g, d, tk, os⟩ _ h1 q
    wp_walk using q1
    refine wpAny_stack_any fun st => wpAny_pure ?_
    split
    · rename_i c _ _ _ _ _
      cases (c == Value.type "enumerate")
      · wp_walk using q1
        exact ⟨_, rfl, h⟩
      · wp_walk using q1
        exact ⟨_, rfl, h⟩
    · wp_walk using q1
      exact ⟨_, rfl, h⟩
section
variable {prog : Program} {w : World} {A : Around} {E : Value → Shared → Prop} {s : Shared}
theorem enum_begins1 {v : Value} {o : Obj} {H : Heap → Prop} {Q : Value → Shared → Prop} (B : Begins v o H) (h1 : H s.heap)
    (h : ∀ h', IsEnum h' (s.heap.objs.size + 1) s.heap.objs.size 0 .none → h'.get? s.heap.objs.size = some o → h'.objs.size = s.heap.objs.size + 2 →
      (∀ b o, s.heap.get? b = some o → h'.get? b = some o) → Q (.ref (s.heap.objs.size + 1)) { s with heap := h' }) :
    wpAny (model prog w) A (call (.type "enumerate") [v]) Q E s := by
  refine callType_new F.called_enumerate (by decide) (F.typeCall_enumerate_1 _) (F.newCall_enumerate_1 _) (fun obj => F.args_object_init_2 obj _) F.entry_enumerate_new
    (meets_enumerate_newB1 B) ⟨h1, ?_⟩
  have hz : (s.heap.push o).objs.size = s.heap.objs.size + 1 := Heap.size_push ..
  show _ ∧ _
  rw [hz]
  have he : IsEnum ((s.heap.push o).push { cls := .type "enumerate", data := .fields #[.none, .bool false, .ref s.heap.objs.size, rawInt 0, .none, .none] }) (s.heap.objs.size + 1) s.heap.objs.size 0 .none := by
    have := Heap.get?_push_size (s.heap.push o) (o := { cls := .type "enumerate", data := .fields #[.none, .bool false, .ref s.heap.objs.size, rawInt 0, .none, .none] }) rfl
    rw [hz] at this; exact this
  refine ⟨⟨_, he, rfl⟩, h _ he (Heap.get?_push_of_some _ (Heap.get?_push_size _ B.free)) (by rw [Heap.size_push, hz]) fun b o x => Heap.get?_push_of_some _ (Heap.get?_push_of_some _ x)⟩
theorem pyNext_enumT_end {e it t : Addr} {i : Nat} {items : Array Value} {c : Int} {old : Value} {Q : Option Value → Shared → Prop} (hh : A.handled = none)
    (he : IsEnum s.heap e it c old) (hit : s.heap.IsTupleIter it t i) (ht : s.heap.IsTuple t items) (hn : items[i]? = none)
    (hQ : ∀ h', Heap.ExtBut it s.heap h' → Q none { s with heap := h' }) : wpAny (model prog w) A (pyNext (.ref e)) Q E s := by
  have hT : s.TypeIs (.ref e) "enumerate" := ⟨_, he, rfl⟩
  unfold pyNext
  refine wpAny_bind (wpAny_attempt (wpAny_callSpecial?_slot (name := Str.ofString "__next__") hT F.slot_enumerate_next
    (wpAny_call_entry F.slot_enumerate_next hT F.entry_enumerate_next ?_ (F.args_enumerate_next_1 _))))
  show wpAny _ _ (field (.ref e) 2 >>= _) _ _ _
  refine wpAny_bind (wpAny_field he rfl (x := .ref it) rfl ?_)
  refine wpAny_bind (wpAny_nextOf_tuple_end hh hit ht hn fun h' x he' hx' => ?_)
  obtain ⟨o, ho, hc⟩ := hx'
  refine wpAny_bind (wpAny_isInstance (T := "StopIteration") (b := true) ⟨o, ho, hc⟩ isSubtype_stop ?_)
  exact wpAny_pure (hQ _ he')
end
/-- the tuple at a as it stands at each turn, each item with its number in a new pair -/
def ItTe (K : PySem.W.Frag) (a : Addr) : It :=
  ⟨fun i H => ∃ (xs : List V) (x : V), SqT K H a xs ∧ xs[i]? = some x, fun i H v H' => ∃ T x, v = .ref T ∧ H T = none ∧ H' = upd H T (.tup [.int (i : Nat), x]) ∧ ∀ xs, SqT K H a xs → xs[i]? = some x, fun i H => ∃ xs : List V, SqT K H a xs ∧ xs.length ≤ i⟩
theorem turn_enumT {P : Program} {w : World} {K : PySem.W.Frag} {elts : List Expr} {kk : Nat} {tpos : Pos} (a e it : Addr) :
    Turn P w K (.Tuple elts kk tpos) (ItTe K a) [e, it] e (fun i h => (∃ old, IsEnum h e it ((i : Nat) : Int) old) ∧ h.IsTupleIter it a i ∧ e ≠ it ∧ a ≠ it ∧ e ≠ a) where
  mem := by simp
  obj := fun i h st b hb => by
    obtain ⟨⟨old, he⟩, ⟨o, ho, hc, hd⟩, _⟩ := st
    have e' : b = e ∨ b = it := by simpa using hb
    rcases e' with z | z
    · rw [z]; exact ⟨_, he, fun v q => nomatch q⟩
    · rw [z]; exact ⟨o, ho, fun v q => by rw [hd] at q; cases q⟩
  keep := fun i h h' st k => let ⟨⟨old, he⟩, hi, hne⟩ := st; ⟨⟨old, k e (by simp) _ he⟩, hi.at fun o q => k it (by simp) o q, hne⟩
  item := by
    intro X hP hw hK hc i pins s σ H E I hf st hg
    subst hP hw hK
    obtain ⟨⟨old, he⟩, hit, hne, hai, hea⟩ := st
    obtain ⟨xs, x, hq, hx⟩ := hg
    obtain ⟨its, rv, p, hz⟩ := I.tuple hq
    obtain ⟨u, hu, ru⟩ := rv.get hx
    have hel : e < s.heap.objs.size := Heap.lt_size he
    have hil : it < s.heap.objs.size := by obtain ⟨_, q, _⟩ := hit; exact Heap.lt_size q
    have hun : its.toArray[i]? = some u := by simpa using hu
    have hlt : i < its.toArray.size := (Array.getElem?_eq_some_iff.mp hun).choose
    refine wpAny_pyNext_enum_itemD (Draws.tuple (A := X.A.in1) (I.ok.hd hc) it a hai its.toArray) he ⟨hit, p⟩ hlt hne (by simp; exact ⟨hne, hea⟩) fun u' h' tk hPx ho hst' hT hsz hk => ?_
    have hPx : its.toArray[i]? = some u' := hPx
    have eu : u' = u := by rw [hun] at hPx; exact (Option.some.inj hPx).symm
    subst eu
    refine ⟨_, rfl, wpAny_letOwnedTupleGo_enum (s := { s with heap := h', toks := tk + 1 }) ho fun h'' he' sb => ?_⟩
    have hT2 : h''.get? s.heap.objs.size = some { cls := .type "tuple", data := .seq #[.int i tk, u'] } := (sb.2 _ (Nat.ne_of_gt hel)).trans hT
    have new : ObjOk X.prog X.w (upd H s.heap.objs.size (.tup [.int (i : Nat), x])) h'' s.heap.objs.size (.tup [.int (i : Nat), x]) :=
      ⟨by show 2 ≤ sizeLine; decide, [.int i tk, u'], .cons ⟨_, rfl⟩ (.cons ru .nil), ⟨_, hT2, rfl, _, rfl⟩⟩
    have I1 : Inv X pins σ (upd H s.heap.objs.size (.tup [.int (i : Nat), x])) { s with heap := h'', toks := tk + 1 } :=
      I.turnedNew (ch := [e, it]) (fun b ob hb q => (sb.2 b (fun z => hb (by simp [z]))).trans (hk b ob (fun z => hb (by simp [z])) (fun z => hb (by simp [z])) q)) hf (Nat.le_refl _) new
    refine ⟨.ref s.heap.objs.size, _, I1, rfl, ⟨_, x, rfl, I.hok.fresh (Nat.le_refl _), rfl, fun ys hy => by rw [I.tuple_inj hy hq]; exact hx⟩, ⟨⟨u', ?_⟩, hst'.1.at fun o q => (sb.2 it (Ne.symm hne)).trans q, hne, hai, hea⟩, fun b hb => ?_⟩
    · have e1 : ((i + 1 : Nat) : Int) = (i : Int) + 1 := by omega
      rw [e1]; exact he'
    · have hb' : b < s.heap.objs.size := by
        have e' : b = e ∨ b = it := by simpa using hb
        rcases e' with z | z
        · rw [z]; exact hel
        · rw [z]; exact hil
      rw [upd_ne (Nat.ne_of_lt hb')]
      exact (hf b hb).1
  done := by
    intro X hP hw hK hc i pins s σ H E I hf st hg
    subst hP hw hK
    obtain ⟨⟨old, he⟩, hit, hne, hai, hea⟩ := st
    obtain ⟨xs, hq, hx⟩ := hg
    obtain ⟨its, rv, p, hz⟩ := I.tuple hq
    obtain ⟨f0, f1, f2, f3, f4, f5⟩ := hf it (by simp)
    have hl := rv.length
    exact pyNext_enumT_end (I.ok.hd hc) he hit p (by simp; omega) fun h' eb => ⟨rfl, I.turned (t' := s.toks) (fun b o hb q => eb b o hb q) f0 f1 f3 f4 f5⟩
  self := fun A i s Q E st h => let ⟨⟨_, he⟩, _⟩ := st; wpAny_pyIter_enum he h
def iEnumT (K : PySem.W.Frag) (ta : TA) : TI := fun σ H R => ta σ H fun vs H1 => ∃ a xs, vs = [.ref a] ∧ SqT K H1 a xs ∧ R (ItTe K a) H1
theorem pi_enumT {X : Cx} {e : Expr} {ta : TA} {p pos tpos : Pos} {elts : List Expr} {kk : Nat} (hg : Gl X "enumerate") (hm : X.mg "enumerate" = none) (ha : PA X [e] ta) (hs : starEach [e] X.env = [(false, eval e X.env)] := by rfl) :
    L2.PI X (.Tuple elts kk tpos) (.Call (.Name "enumerate" p) [e] [] pos) (iEnumT X.K ta) := by
  refine ⟨fun pins s σ H R I h => ?_⟩
  refine Call_ (ld_blt I hg hm boot_enumerate (PyProof.Rows.callWith_type1 (thn (ha.run pos pins s σ H _ I h) fun us s1 ⟨vs, H1, I1, r1, q1⟩ => ?_) hs rfl))
  obtain ⟨a, xs, ex, hq, q⟩ := q1
  subst ex
  cases r1 with
  | cons r rr =>
    cases rr
    cases r
    obtain ⟨its, rv, p', hz⟩ := I1.tuple hq
    have hal : a < s1.heap.objs.size := by obtain ⟨_, q, _⟩ := p'; exact Heap.lt_size q
    refine enum_begins1 (begins_tuple a its.toArray) p' fun h' he hit hsz hk => wpAny_pyIter_enum he ?_
    have I2 : Inv X pins σ H1 { s1 with heap := h' } := I1.kept (t' := s1.toks) hk
    refine ⟨s1.heap.objs.size + 1, [s1.heap.objs.size + 1, s1.heap.objs.size], _, _, H1, rfl, I2, turn_enumT a (s1.heap.objs.size + 1) s1.heap.objs.size, ⟨⟨.none, he⟩, ⟨_, hit, rfl, rfl⟩, Nat.succ_ne_self _, Nat.ne_of_lt hal, Nat.ne_of_gt (Nat.lt_succ_of_lt hal)⟩, fun b hb => ?_, q⟩
    have e' : b = s1.heap.objs.size + 1 ∨ b = s1.heap.objs.size := by simpa using hb
    have hle : s1.heap.objs.size ≤ b := by
      rcases e' with z | z
      · rw [z]; exact Nat.le_add_right _ _
      · rw [z]; exact Nat.le_refl _
    exact I1.fpOk hle (I1.hok.fresh hle)
section
variable {K : Fg} {B : Base} {F H : Hp} {w : List (Option V)} {σ : L2.St} {M : List Slot} {Q : VK} {α : Type} [Rp α]
theorem yields_enumT (a : Addr) (xs : Tup α) : Yields K (ItTe K a) (fun F _ => rp K F (.ref a) xs) (enumFrom 0 xs.l) := fun i F H p e => by
  obtain ⟨a', vs, h1, h2, h3, hq⟩ := p
  cases h1
  have hL : SqT K H a vs := ex_t e h2.sq
  have hl : vs.length = xs.l.length := Paired.length hq
  refine ⟨fun hi => ⟨vs, hL, by rw [enumFrom_len] at hi; omega⟩, fun y hyi => ?_⟩
  obtain ⟨e1, e2⟩ := enumFrom_at _ _ _ _ hyi
  obtain ⟨v, g1, g2⟩ := Paired.at hq e2
  refine ⟨⟨vs, v, hL, g1⟩, fun v' H' z => ?_⟩
  obtain ⟨T, x, f1, f2, f3, f4⟩ := z
  have f4 := f4 vs hL
  rw [g1] at f4
  cases f4
  exact pair_new e f1 f2 f3 (by rw [e1]; show V.int _ = V.int _; congr 1; omega) g2
def EnuTG (K : Fg) (vs : List V) (H1 : Hp) (R : It → Hp → Prop) : Prop := ∃ a xs, vs = [.ref a] ∧ SqT K H1 a xs ∧ R (ItTe K a) H1
theorem S_iET {tA : TA} {R : It → Hp → Prop} (h : tA σ H fun xs H1 => EnuTG K xs H1 R) : iEnumT K tA σ H R := h
theorem S_enumT {va : V} {x : Tup α} {R : It → Hp → Prop} (h : St K B F H w M) (hx : rp K F va x) (q : ∀ a, va = .ref a → R (ItTe K a) H) : EnuTG K [va] H R := by
  obtain ⟨a, vs, rfl, h2, h3, h4⟩ := hx
  exact ⟨a, vs, rfl, ex_t h.fh h2.sq, q a rfl⟩
end
end G

set_option Elab.async false
set_option linter.all false
set_option maxRecDepth 100000
set_option maxHeartbeats 4000000
/-! G12: zip of a list and a tuple; while loops. -/
namespace G
open PySem PySem.Spec PyProof.Rows L2
open Rp (rp)
open Ow (ow)
/-- the list at a and the tuple at b as they stand, the items in new pairs -/
def ItM (K : PySem.W.Frag) (a b : Addr) : It :=
  ⟨fun i H => ∃ (xs ys : List V) (x y : V), SqL K H a xs ∧ SqT K H b ys ∧ xs[i]? = some x ∧ ys[i]? = some y,
    fun i H v H' => ∃ T x y, v = .ref T ∧ H T = none ∧ H' = upd H T (.tup [x, y]) ∧ (∀ xs, SqL K H a xs → xs[i]? = some x) ∧ ∀ ys, SqT K H b ys → ys[i]? = some y,
    fun i H => ∃ xs ys : List V, SqL K H a xs ∧ SqT K H b ys ∧ i ≤ xs.length ∧ i ≤ ys.length ∧ (i = xs.length ∨ i = ys.length)⟩
theorem turn_zipM {P : Program} {w : World} {K : PySem.W.Frag} {elts : List Expr} {kk : Nat} {tpos : Pos} {a b z TI TO i1 i2 : Addr} (D : ZipSep2 z TI TO i1 i2 [i1, a] [i2, b]) (ha : a ≠ i1) (hb : b ≠ i2) :
    Turn P w K (.Tuple elts kk tpos) (ItM K a b) [z, TI, TO, i1, i2] z (fun i h => IsZip h z TI TO .none ∧ IsTupOf2 h TI (.ref i1) (.ref i2) ∧ (∃ x y, IsTupOf2 h TO x y) ∧ h.IsListIter i1 a i ∧ h.IsTupleIter i2 b i) where
  mem := by simp
  obj := fun i h st c hc => by
    obtain ⟨hz, hTI, ⟨x, y, hTO⟩, ⟨o1, e1, _, d1⟩, ⟨o2, e2, _, d2⟩⟩ := st
    have e' : c = z ∨ c = TI ∨ c = TO ∨ c = i1 ∨ c = i2 := by simpa using hc
    rcases e' with q | q | q | q | q
    · rw [q]; exact ⟨_, hz, fun v q => nomatch q⟩
    · rw [q]; exact ⟨_, hTI, fun v q => nomatch q⟩
    · rw [q]; exact ⟨_, hTO, fun v q => nomatch q⟩
    · rw [q]; exact ⟨o1, e1, fun v q => by rw [d1] at q; cases q⟩
    · rw [q]; exact ⟨o2, e2, fun v q => by rw [d2] at q; cases q⟩
  keep := fun i h h' st k => by
    obtain ⟨hz, hTI, ⟨x, y, hTO⟩, h1, h2⟩ := st
    exact ⟨k z (by simp) _ hz, k TI (by simp) _ hTI, ⟨x, y, k TO (by simp) _ hTO⟩, h1.at fun o q => k i1 (by simp) o q, h2.at fun o q => k i2 (by simp) o q⟩
  item := by
    intro X hP hw hK hc i pins s σ H E I hf st hg
    subst hP hw hK
    obtain ⟨hz, hTI, ⟨x0, y0, hTO⟩, h1, h2⟩ := st
    obtain ⟨xs, ys, x, y, hqx, hqy, hx, hy⟩ := hg
    obtain ⟨its, rv, p, _⟩ := I.list hqx
    obtain ⟨its2, rv2, p2, _⟩ := I.tuple hqy
    obtain ⟨u, hu, ru⟩ := rv.get hx
    obtain ⟨u2, hu2, ru2⟩ := rv2.get hy
    have hun : its.toArray[i]? = some u := by simpa using hu
    have hun2 : its2.toArray[i]? = some u2 := by simpa using hu2
    have hzl : z < s.heap.objs.size := Heap.lt_size hz
    refine wpAny_pyNext_zipD2_item (i := i) D (Draws.list (A := X.A.in1) (I.ok.hd hc) i1 a ha its.toArray) (Draws.tuple (A := X.A.in1) (I.ok.hd hc) i2 b hb its2.toArray) hz hTI hTO ⟨h1, p.isList⟩ ⟨h2, p2⟩ (Array.getElem?_eq_some_iff.mp hun).choose (Array.getElem?_eq_some_iff.mp hun2).choose fun v v2 h' tk hv hv2 z' TO' h1' h2' hT hsz hk => ?_
    have hv : its.toArray[i]? = some v := hv
    have hv2 : its2.toArray[i]? = some v2 := hv2
    rw [hun] at hv
    rw [hun2] at hv2
    cases hv
    cases hv2
    refine ⟨_, rfl, wpAny_letOwnedTupleGo_zip (s := { s with heap := h', toks := tk }) z' fun h'' z'' sb => ?_⟩
    have hT2 : h''.get? s.heap.objs.size = some { cls := .type "tuple", data := .seq #[u, u2] } := (sb.2 _ (Nat.ne_of_gt hzl)).trans hT
    have new : ObjOk X.prog X.w (upd H s.heap.objs.size (.tup [x, y])) h'' s.heap.objs.size (.tup [x, y]) :=
      ⟨by show 2 ≤ sizeLine; decide, [u, u2], .cons ru (.cons ru2 .nil), ⟨_, hT2, rfl, _, rfl⟩⟩
    have I1 : Inv X pins σ (upd H s.heap.objs.size (.tup [x, y])) { s with heap := h'', toks := tk } :=
      I.turnedNew (t' := tk) (ch := [z, TI, TO, i1, i2]) (fun c o hb q => (sb.2 c (fun q' => hb (by simp [q']))).trans (hk c o (fun q' => hb (by simp [q'])) (fun q' => hb (by simp [q'])) (fun q' => hb (by simp [q'])) (fun q' => hb (by simp [q'])) q)) hf (Nat.le_refl _) new
    refine ⟨.ref s.heap.objs.size, _, I1, rfl, ⟨_, x, y, rfl, I.hok.fresh (Nat.le_refl _), rfl, fun l hl => by rw [I.list_inj hl hqx]; exact hx, fun l hl => by rw [I.tuple_inj hl hqy]; exact hy⟩, ⟨z'', ?_, ⟨u, u2, ?_⟩, ?_, ?_⟩, fun c hcm => ?_⟩
    · exact (sb.2 _ D.TIz).trans (hk _ _ D.TIz D.TITO D.TIi1 D.TIi2 hTI)
    · exact (sb.2 _ D.TOz).trans TO'
    · exact h1'.1.at fun o q => (sb.2 _ (Ne.symm D.zi1)).trans q
    · exact h2'.1.at fun o q => (sb.2 _ (Ne.symm D.zi2)).trans q
    · have hlt : c < s.heap.objs.size := by
        have e' : c = z ∨ c = TI ∨ c = TO ∨ c = i1 ∨ c = i2 := by simpa using hcm
        rcases e' with q | q | q | q | q
        · rw [q]; exact hzl
        · rw [q]; exact Heap.lt_size hTI
        · rw [q]; exact Heap.lt_size hTO
        · rw [q]; obtain ⟨_, e1, _⟩ := h1; exact Heap.lt_size e1
        · rw [q]; obtain ⟨_, e2, _⟩ := h2; exact Heap.lt_size e2
      rw [upd_ne (Nat.ne_of_lt hlt)]
      exact (hf c hcm).1
  done := by
    intro X hP hw hK hc i pins s σ H E I hf st hg
    subst hP hw hK
    obtain ⟨hz, hTI, ⟨x0, y0, hTO⟩, h1, h2⟩ := st
    obtain ⟨xs, ys, hqx, hqy, hle1, hle2, hend⟩ := hg
    obtain ⟨its, rv, p, _⟩ := I.list hqx
    obtain ⟨its2, rv2, p2, _⟩ := I.tuple hqy
    have l1 := rv.length
    have l2 := rv2.length
    refine wpAny_pyNext_zipD2_end (i := i) D (Draws.list (A := X.A.in1) (I.ok.hd hc) i1 a ha its.toArray) (Draws.tuple (A := X.A.in1) (I.ok.hd hc) i2 b hb its2.toArray) hz hTI hTO ⟨h1, p.isList⟩ ⟨h2, p2⟩ (by simp; omega) (by simp; omega) (by simp; omega) fun h' tk hk => ⟨rfl, I.turnedL (t' := tk) (ch := [z, TI, TO, i1, i2]) (fun c o hb q =>
      hk c o (fun q' => hb (by simp [q'])) (fun q' => hb (by simp [q'])) (fun q' => hb (by simp [q'])) (fun q' => hb (by simp [q'])) q) hf⟩
  self := fun A i s Q E st h => wpAny_pyIter_zip st.1 h
def iZipM (K : PySem.W.Frag) (ta : TA) : TI := fun σ H R => ta σ H fun vs H1 => ∃ a b xs ys, vs = [.ref a, .ref b] ∧ SqL K H1 a xs ∧ SqT K H1 b ys ∧ R (ItM K a b) H1
theorem pi_zipM {X : Cx} {e e2 : Expr} {ta : TA} {p pos tpos : Pos} {elts : List Expr} {kk : Nat} (hg : Gl X "zip") (hm : X.mg "zip" = none) (ha : PA X [e, e2] ta)
    (hs : starEach [e, e2] X.env = (false, eval e X.env) :: starEach [e2] X.env := by rfl) (hpl : (backTo pos (starEach [e2] X.env)).any (·.1) = false := by rfl) :
    L2.PI X (.Tuple elts kk tpos) (.Call (.Name "zip" p) [e, e2] [] pos) (iZipM X.K ta) := by
  refine ⟨fun pins s σ H R I h => ?_⟩
  refine Call_ (ld_blt I hg hm PyProof.Rows.boot_zip (PyProof.Rows.callWith_type1 (thn (ha.run pos pins s σ H _ I h) fun us s1 ⟨vs, H1, I1, r1, q1⟩ => ?_) hs hpl))
  obtain ⟨a, b, xs, ys, ex, hqx, hqy, q⟩ := q1
  subst ex
  cases r1 with
  | cons r rr =>
    cases rr with
    | cons r' rr =>
      cases rr
      cases r
      cases r'
      have fresh5 : ∀ c, c ∈ [s1.heap.objs.size + 4, s1.heap.objs.size + 2, s1.heap.objs.size + 3, s1.heap.objs.size, s1.heap.objs.size + 1] → FpOk X pins H1 c := fun c hcm => by
        have e' : c = s1.heap.objs.size + 4 ∨ c = s1.heap.objs.size + 2 ∨ c = s1.heap.objs.size + 3 ∨ c = s1.heap.objs.size ∨ c = s1.heap.objs.size + 1 := by simpa using hcm
        have hle : s1.heap.objs.size ≤ c := by
          rcases e' with z | z | z | z | z
          · rw [z]; exact Nat.le_add_right _ _
          · rw [z]; exact Nat.le_add_right _ _
          · rw [z]; exact Nat.le_add_right _ _
          · rw [z]; exact Nat.le_refl _
          · rw [z]; exact Nat.le_add_right _ _
        exact I1.fpOk hle (I1.hok.fresh hle)
      obtain ⟨its, rv, p1, _⟩ := I1.list hqx
      obtain ⟨its2, rv2, p2, _⟩ := I1.tuple hqy
      obtain ⟨o2, ho2, _⟩ := id p2
      have la : a < s1.heap.objs.size := p1.lt
      have lb : b < s1.heap.objs.size := Heap.lt_size ho2
      refine zip_begins2 (begins_list a its.toArray) (begins_tuple b its2.toArray) p1.isList p2 fun h' hz hTI hTO h1 h2 hsz hk => wpAny_pyIter_zip hz ?_
      have I2 : Inv X pins σ H1 { s1 with heap := h' } := I1.kept (t' := s1.toks) hk
      have sep : ZipSep2 (s1.heap.objs.size + 4) (s1.heap.objs.size + 2) (s1.heap.objs.size + 3) s1.heap.objs.size (s1.heap.objs.size + 1) (s1.heap.objs.size :: [a]) ((s1.heap.objs.size + 1) :: [b]) := zip_sep2 (fun c m => by rw [List.mem_singleton.mp m]; exact la) fun c m => by rw [List.mem_singleton.mp m]; exact lb
      exact ⟨s1.heap.objs.size + 4, [s1.heap.objs.size + 4, s1.heap.objs.size + 2, s1.heap.objs.size + 3, s1.heap.objs.size, s1.heap.objs.size + 1], _, _, H1, rfl, I2, turn_zipM sep (Nat.ne_of_lt la) (Nat.ne_of_lt (Nat.lt_succ_of_lt lb)), ⟨hz, hTI, ⟨_, _, hTO⟩, ⟨_, h1, rfl, rfl⟩, ⟨_, h2, rfl, rfl⟩⟩, fresh5, q⟩
section
variable {K : Fg} {B : Base} {F H : Hp} {w : List (Option V)} {σ : L2.St} {M : List Slot} {Q : VK} {α β : Type} [Rp α] [Rp β]
theorem yields_zipM (a b : Addr) (xs : List α) (ys : Tup β) : Yields K (ItM K a b) (fun F H => ViewL K F H (.ref a) xs ∧ rp K F (.ref b) ys) (xs.zip ys.l) := fun i F H p e => by
  obtain ⟨⟨a', vs, h1, h2, h3, hq⟩, ⟨b', us, g1, g2, g3, gq⟩⟩ := p
  cases h1
  cases g1
  have hL : SqL K H a vs := .inl (.inl h2)
  have hT : SqT K H b us := ex_t e g2.sq
  have hl : vs.length = xs.length := Paired.length hq
  have gl : us.length = ys.l.length := Paired.length gq
  refine ⟨fun hi => ⟨vs, us, hL, hT, ?_⟩, fun y hyi => ?_⟩
  · rw [List.length_zip] at hi
    omega
  obtain ⟨f1, f2⟩ := getElem?_zip _ _ _ _ hyi
  obtain ⟨v, k1, k2⟩ := Paired.at hq f1
  obtain ⟨u, k3, k4⟩ := Paired.at gq f2
  refine ⟨⟨vs, us, v, u, hL, hT, k1, k3⟩, fun v' H' z => ?_⟩
  obtain ⟨T, x, y', e1, e2, e3, e4, e5⟩ := z
  have e4 := e4 vs hL
  have e5 := e5 us hT
  rw [k1] at e4
  rw [k3] at e5
  cases e4
  cases e5
  exact pair_new e e1 e2 e3 k2 k4
def ZipMG (K : Fg) (vs : List V) (H1 : Hp) (R : It → Hp → Prop) : Prop := ∃ a b xs ys, vs = [.ref a, .ref b] ∧ SqL K H1 a xs ∧ SqT K H1 b ys ∧ R (ItM K a b) H1
theorem S_iZM {tA : TA} {R : It → Hp → Prop} (h : tA σ H fun xs H1 => ZipMG K xs H1 R) : iZipM K tA σ H R := h
theorem S_zipM {va vb : V} {x : List α} {y : Tup β} {R : It → Hp → Prop} (h : St K B F H w M) (hx : ViewL K F H va x) (hy : rp K F vb y) (q : ∀ a b, va = .ref a → vb = .ref b → R (ItM K a b) H) : ZipMG K [va, vb] H R := by
  obtain ⟨a, vs, rfl, h2, h3, h4⟩ := hx
  obtain ⟨b, us, rfl, g2, g3, g4⟩ := hy
  exact ⟨a, b, vs, us, rfl, .inl (.inl h2), ex_t h.fh g2.sq, q a b rfl rfl⟩
end
/-! ### while -/
def whileO {τ : Type} (c : τ → Option Bool) (b : τ → Option τ) : Nat → τ → Option τ
  | 0, _ => none
  | n + 1, s => (c s).bind fun k => if k = true then (b s).bind fun s' => whileO c b n s' else some s
section
variable {K : Fg} {B : Base} {F H : Hp} {σ : L2.St} {ts : List (Option V)} {TM : List Slot} {τ : Type} {tc : TT} {tb u : TS} {D : Ends}
theorem S_while (Mf : τ → List Slot) {c : τ → Option Bool} {b : τ → Option τ} {n : Nat} {s0 s1 : τ} (hm : whileO c b n s0 = some s1) (h : St K B F H (ts ++ σ) (TM ++ Mf s0))
    (test : ∀ (s : τ) (k : Bool) σ F H (QT : Bool → Hp → Prop), c s = some k → St K B F H (ts ++ σ) (TM ++ Mf s) → (∀ F H, St K B F H (ts ++ σ) (TM ++ Mf s) → QT k H) → tc σ H QT)
    (body : ∀ (s s' : τ) σ F H (D' : Ends), b s = some s' → St K B F H (ts ++ σ) (TM ++ Mf s) → (∀ σ' F' H', St K B F' H' (ts ++ σ') (TM ++ Mf s') → D'.nx σ' H') → tb D' σ H)
    (hend : ∀ σ F H, St K B F H (ts ++ σ) (TM ++ Mf s1) → D.nx σ H) : tWhile tc tb D σ H := by
  refine ⟨fun m σ H => ∃ F s, St K B F H (ts ++ σ) (TM ++ Mf s) ∧ whileO c b m s = some s1, ⟨n, F, s0, h, hm⟩, ?_⟩
  rintro m σ H ⟨F, s, h, hm⟩
  cases m with
  | zero => cases hm
  | succ m =>
    unfold whileO at hm
    obtain ⟨k, hk, hm⟩ := ob hm
    refine test s k σ F H _ hk h fun F H h => ?_
    cases k with
    | true =>
      rw [if_pos rfl] at hm
      obtain ⟨s', hs', hm⟩ := ob hm
      rw [if_pos rfl]
      exact ⟨fun σ' H' => ∃ F', St K B F' H' (ts ++ σ') (TM ++ Mf s'), fun σ' H' ⟨F', h'⟩ => ⟨m, Nat.lt_succ_self _, F', s', h', hm⟩, body s s' σ F H _ hs' h fun σ' F' H' h' => ⟨F', h'⟩⟩
    | false =>
      rw [if_neg (by decide)] at hm
      cases hm
      rw [if_neg (by decide)]
      exact hend σ F H h
theorem Q_while (h : tWhile tc tb { D with nx := u D } σ H) : tSeq (tWhile tc tb) u D σ H := h
end
end G

set_option Elab.async false
set_option linter.all false
set_option maxRecDepth 100000
set_option maxHeartbeats 4000000
/-! G13: equality of tuples of unlike things; minus. -/
namespace G
open PySem PySem.Spec PyProof.Rows L2
open Rp (rp)
open Ow (ow)
section
variable {H : Hp} {Q : VK}
theorem S_negU {i : Int} (q : Q (.int (-i)) H) : rU (fun i => .int (-i)) (.int i) H Q := ⟨i, rfl, q⟩
end
instance decHT {τ : Type} [DecidableEq τ] : DecidableEq (HT τ) := fun a b => if h : a.x = b.x then isTrue (by cases a; cases b; exact congrArg HT.mk h) else isFalse fun e => h (by rw [e])
class PyFl (τ : Type) [DecidableEq τ] extends Flds τ where
  toDs : τ → List PyData
  okDs : τ → Bool
  depF : Nat
  dps : ∀ {K : Fg} {F : Hp} {vs : List V} {x : τ}, toFlds.fl K F vs x → DpAll K F vs (toDs x)
  eqvs : ∀ a b : τ, PyData.eqvAll (toDs a) (toDs b) = decide (a = b)
  lays : ∀ a : τ, okDs a = true → PyData.canLayAll0 (toDs a) = true
  dpts : ∀ a : τ, PyData.depthAll (toDs a) ≤ depF
instance : PyFl Unit where
  toDs := fun _ => []
  okDs := fun _ => true
  depF := 0
  dps := fun {K F vs x} h => (show vs = [] from h) ▸ .nil
  eqvs := fun a b => by simp [PyData.eqvAll]
  lays := fun a _ => by simp [PyData.canLayAll0]
  dpts := fun a => by simp [PyData.depthAll]
instance {α τ : Type} [DecidableEq α] [Py α] [DecidableEq τ] [PyFl τ] : PyFl (α × τ) where
  toDs := fun x => Py.toD x.1 :: PyFl.toDs x.2
  okDs := fun x => Py.okD x.1 && PyFl.okDs x.2
  depF := max (Py.dep α) (PyFl.depF τ)
  dps := fun {K F vs x} ⟨v, r, h1, h2, h3⟩ => h1 ▸ .cons (Py.dp h2) (PyFl.dps h3)
  eqvs := fun a b => by
    obtain ⟨a1, a2⟩ := a
    obtain ⟨b1, b2⟩ := b
    simp only [PyData.eqvAll, Py.eqv, PyFl.eqvs]
    by_cases h1 : a1 = b1 <;> by_cases h2 : a2 = b2 <;> simp [h1, h2]
  lays := fun a h => by
    rw [Bool.and_eq_true] at h
    simp only [PyData.canLayAll0, Py.lay _ h.1, PyFl.lays _ h.2]
    rfl
  dpts := fun a => by
    have h1 := Py.dpt a.1
    have h2 := PyFl.dpts a.2
    simp only [PyData.depthAll]
    omega
instance {τ : Type} [DecidableEq τ] [PyFl τ] : Py (HT τ) where
  toD := fun x => .tuple (PyFl.toDs x.x)
  okD := fun x => PyFl.okDs x.x
  dep := PyFl.depF τ + 1
  dp := fun {K F v x} ⟨a, vs, h1, h2, h3⟩ => h1 ▸ .tup h2.sq (PyFl.dps h3)
  eqv := fun a b => by
    simp only [PyData.eqv]
    rw [PyFl.eqvs]
    cases a; cases b
    simp
  lay := fun a h => by simp only [PyData.canLay0]; exact PyFl.lays a.x h
  dpt := fun a => by simp only [PyData.depth]; exact Nat.succ_le_succ (PyFl.dpts a.x)
class PyTF (τ : Type) [DecidableEq τ] [PyFl τ] : Prop where
  okT : ∀ x : τ, PyFl.okDs x = true
instance : PyTF Unit := ⟨fun _ => rfl⟩
instance {α τ : Type} [DecidableEq α] [Py α] [PyT α] [DecidableEq τ] [PyFl τ] [PyTF τ] : PyTF (α × τ) := ⟨fun x => Bool.and_eq_true _ _ ▸ ⟨PyT.okT x.1, PyTF.okT x.2⟩⟩
instance {τ : Type} [DecidableEq τ] [PyFl τ] [PyTF τ] : PyT (HT τ) := ⟨fun x => PyTF.okT x.x⟩

end G

set_option Elab.async false
set_option linter.all false
set_option maxRecDepth 100000
set_option maxHeartbeats 4000000
/-! G14: a fresh thing back from a call that changes one of one's own; length and kind of tuples of unlike things; things lost. -/
namespace G
open PySem PySem.Spec PyProof.Rows L2
open Rp (rp)
open Ow (ow)
section
variable {K : Fg} {B : Base} {F H F' H' : Hp} {w : List (Option V)} {σ : L2.St} {M A A' : List Slot} {Q : VK} {α β γ τ : Type}
theorem S_call1O {R : List Slot → RSlot → List Slot → Prop} {E : XK} {vs : List V} [Ow α] [Ow β] [Ow γ] {x : α} {x' : β} {y : γ} {a : Addr} (i : Nat) (h : St K B F H w M) (hM : M[i]? = some (.own a x)) (hA : Slots K F H (vs.map some) A) (hR : R A (.fr y) A') (ho : owns A = [a])
    (hA' : ∀ F' H' L, Aft K F' H' A' L → Aft K F' H' [.own a x'] L) (q : ∀ p F' H', B.H p = none → St K B F' H' (some (.ref p) :: w) (.own p y :: M.set i (.own a x')) → Q (.ref p) H') : Prom K R vs H Q E :=
  S_call1 i h hM hA hR ho hA' fun u F' H' h' r => by
    obtain ⟨g, rfl, hB, h''⟩ := r
    exact q g F' H' (hB g (List.mem_singleton.mpr rfl)) h''
/-- a thing of one's own of which nothing is known any more -/
structure Junk where
  mk ::
instance : Ow Junk := ⟨fun _ _ _ _ => True, fun _ h => h⟩
theorem S_appendJ [Rp α] {xs : List α} {a : Addr} {v : V} (i : Nat) (h : St K B F H w M) (hM : M[i]? = some (.own a xs)) (hl : xs.length < 1000000) (q : ∀ H', St K B F H' w (M.set i (.own a Junk.mk)) → Q .non H') : rAppend (.ref a) [v] H Q := by
  obtain ⟨_, _, ob, h1, vs, rfl, h3, h4⟩ := h.own i hM
  have hlen := Paired.length h4
  have hs : sizeLine = 16777216 := sizeLine_eq
  exact ⟨a, vs, v, rfl, rfl, h1, by omega, q _ (setO_any h i hM trivial)⟩
theorem ty_ht [Flds τ] {x : HT τ} {v : V} (h : St K B F H w M) (hv : rp K F v x) : TyX K H v (.type "tuple") := by
  obtain ⟨a, vs, rfl, h2, _⟩ := hv
  exact (h2.mono h.fh).ty
class FLen (τ : Type) [Flds τ] (n : outParam Nat) : Prop where
  len : ∀ {K : Fg} {F : Hp} {vs : List V} {x : τ}, Flds.fl K F vs x → vs.length = n
instance : FLen Unit 0 := ⟨fun {K F vs x} h => by have h : vs = [] := h; rw [h]; rfl⟩
instance {n : Nat} [Rp α] [Flds τ] [FLen τ n] : FLen (α × τ) (n + 1) := ⟨fun ⟨v, r, h1, _, h3⟩ => by rw [h1, List.length_cons, FLen.len h3]⟩
theorem S_lenH [Flds τ] {n : Nat} [FLen τ n] {x : HT τ} {v : V} (h : St K B F H w M) (hv : rp K F v x) (q : Q (.int (n : Int)) H) : rLenG K [v] H Q := by
  obtain ⟨a, vs, rfl, h2, h3⟩ := hv
  exact ⟨a, vs, rfl, .inr (ex_t h.fh h2.sq), by rw [FLen.len h3]; exact q⟩
end
/-! ### a loop that only reads: everything is frozen meanwhile -/
def Agr (ks : List Nat) (σ τ : L2.St) : Prop := τ.length = σ.length ∧ ∀ i, i ∉ ks → τ[i]? = σ[i]?
theorem agr_refl {ks : List Nat} {σ : L2.St} : Agr ks σ σ := ⟨rfl, fun _ _ => rfl⟩
theorem agr_set {ks : List Nat} {σ τ : L2.St} {k : Nat} {o : Option V} (h : Agr ks σ τ) (m : k ∈ ks) : Agr ks σ (τ.set k o) := ⟨by simp [h.1], fun i hi => by rw [List.getElem?_set_ne fun e => hi (by rw [← e]; exact m)]; exact h.2 i hi⟩
section
variable {K : Fg} {B : Base} {F H H' : Hp} {w : List (Option V)} {σ : L2.St} {ts : List (Option V)} {TM M : List Slot} {α β τ ρ : Type} [Rp β] {J : It} {P : Hp → Hp → Prop} {ys : List β} {g : TG} {tb : TS} {D : Ends}
def Lns (K : Fg) (F H : Hp) : List Slot → List Slot → Prop
  | [], [] => True
  | s :: M, t :: N => ((∀ o, SlotOk K F H o s → SlotOk K H H o t) ∧ owns [t] = []) ∧ Lns K F H M N
  | _, _ => False
theorem ln_any {s : Slot} : (∀ o, SlotOk K F H o s → SlotOk K H H o .any) ∧ owns [Slot.any] = [] := ⟨fun _ _ => trivial, rfl⟩
theorem ln_fz [Rp α] {x : α} (e : Ex F H) : (∀ o, SlotOk K F H o (.fz x) → SlotOk K H H o (.fz x)) ∧ owns [Slot.fz x] = [] := ⟨fun _ ⟨v, h1, h2⟩ => ⟨v, h1, Rp.mono e h2⟩, rfl⟩
theorem ln_own [Rp α] {xs : List α} {a : Addr} (e : Ex F H) : (∀ o, SlotOk K F H o (.own a xs) → SlotOk K H H o (.fz xs)) ∧ owns [Slot.fz xs] = [] := ⟨fun _ hs => by
  obtain ⟨h1, _, ob, h3, vs, h4, h5, h6⟩ := own_ok.mp hs
  exact ⟨_, h1, a, vs, rfl, by rw [h3, h4], h5, paired_mono e h6⟩, rfl⟩
theorem lns_slots : ∀ {w : List (Option V)} {M N : List Slot}, Slots K F H w M → Lns K F H M N → Slots K H H w N ∧ owns N = []
  | [], [], [], _, _ => ⟨trivial, rfl⟩
  | o :: w, s :: M, t :: N, h, l => by
    obtain ⟨i1, i2⟩ := lns_slots h.2 l.2
    refine ⟨⟨l.1.1 o h.1, i1⟩, ?_⟩
    have := l.1.2
    rw [owns_cons, this, i2]
    rfl
  | [], [], _ :: _, _, l => l.elim
  | _ :: _, _ :: _, [], _, l => l.elim
  | [], _ :: _, _, h, _ => h.elim
  | _ :: _, [], _, h, _ => h.elim
theorem St.lend {N : List Slot} (h : St K B F H w M) (l : Lns K F H M N) : St K ⟨H, H, []⟩ H H w N := by
  obtain ⟨h1, h2⟩ := lns_slots h.ok l
  exact ⟨Ex.refl H, Ex.refl H, fun _ _ => rfl, fun a o e _ => e, fun a e => e, h1, by rw [h2]; exact List.nodup_nil, fun a m => by rw [h2] at m; cases m⟩
theorem St.ext {H0 : Hp} (h : St K ⟨H0, H0, []⟩ F H w M) : Ex H0 H := fun a o e => h.h0 a o e (by simp)
theorem St.grow (h : St K B F H w M) (e : Ex H H') : St K B F H' w M := h.step (Ex.refl F) e (h.fh.trans e) fun _ _ => rfl
theorem St.back {σ0 : L2.St} {ks : List Nat} (h : St K B F H (ts ++ σ0) (TM ++ M)) (e : Ex H H') (a : Agr ks σ0 σ) (hk : ∀ k ∈ ks, M[k]? = some .any) (hTM : TM.length = ts.length) : St K B F H' (ts ++ σ) (TM ++ M) :=
  (h.grow e).rew (by simp [a.1]) fun i => by
    by_cases hi : i < ts.length
    · right
      rw [List.getElem?_append_left hi, List.getElem?_append_left hi]
    · have hi' : ts.length ≤ i := by omega
      by_cases m : i - ts.length ∈ ks
      · left
        rw [List.getElem?_append_right (by omega), hTM]
        exact hk _ m
      · right
        rw [List.getElem?_append_right hi', List.getElem?_append_right hi']
        exact a.2 _ m
theorem S_forI (I : L2.St → Prop) (Mf : τ → List Slot) {b : β → τ → Option (Out τ ρ)} {s0 : τ} {o : Out τ ρ} {R : ρ → V → Hp → Prop} (Y : Yields K J P ys) (hm : forO b ys s0 = some o) (h : St K B F H (ts ++ σ) (TM ++ Mf s0)) (hI : I σ)
    (hP : ∀ s σ F H, St K B F H (ts ++ σ) (TM ++ Mf s) → P F H)
    (body : ∀ (i : Nat) (x : β) (s : τ) o' v σ F H (D' : Ends), ys[i]? = some x → b x s = some o' → I σ → St K B F H (some v :: (ts ++ σ)) (.fz x :: (TM ++ Mf s)) →
      (∀ s' σ' F' H', o' = .nx s' → St K B F' H' (ts ++ σ') (TM ++ Mf s') → I σ' → D'.nx σ' H') → (∀ r u H', o' = .rt r → R r u H' → D'.rt u H') → g v σ H fun σ2 H2 => tb D' σ2 H2)
    (hend : ∀ s1 σ F H, o = .nx s1 → St K B F H (ts ++ σ) (TM ++ Mf s1) → I σ → D.nx σ H) (hrt : ∀ r u H', o = .rt r → R r u H' → D.rt u H') : ForG J g tb D σ H := by
  refine ⟨fun i m σ H => m = ys.length - i ∧ i ≤ ys.length ∧ I σ ∧ ∃ F s, St K B F H (ts ++ σ) (TM ++ Mf s) ∧ forO b (ys.drop i) s = some o, ⟨ys.length, by omega, Nat.zero_le _, hI, F, s0, h, hm⟩, ?_⟩
  rintro i m σ H ⟨rfl, hi, hI, F, s, h, hm⟩
  have Yi := Y i F H (hP s σ F H h) h.fh
  by_cases hlt : i < ys.length
  · have hx : ys[i]? = some ys[i] := List.getElem?_eq_getElem hlt
    obtain ⟨go, yl⟩ := Yi.2 _ hx
    rw [drop_cons hlt] at hm
    unfold forO at hm
    cases hb : b ys[i] s with
    | none => rw [hb] at hm; cases hm
    | some o' =>
      rw [hb] at hm
      refine .inr ⟨go, fun σ' H' => I σ' ∧ ∃ F' s', o' = .nx s' ∧ St K B F' H' (ts ++ σ') (TM ++ Mf s'), fun σ' H' ⟨hI', F', s', eo, h'⟩ => ⟨ys.length - (i + 1), by omega, rfl, hlt, hI', F', s', h', by subst eo; exact hm⟩, fun v H' y => ?_⟩
      obtain ⟨F', e1, e2, e3, e4, e5⟩ := yl v H' y
      exact body i _ s o' v σ F' H' _ hx hb hI ((h.step e1 e3 e2 e4).push e5) (fun s' σ' F'' H'' eo h'' hI'' => ⟨hI'', F'', s', eo, h''⟩)
        (fun r u H'' eo q => hrt r u H'' (by subst eo; exact (Option.some.inj hm).symm) q)
  · have e : i = ys.length := by omega
    subst e
    rw [List.drop_length] at hm
    exact .inl ⟨Yi.1 rfl, hend s σ F H (Option.some.inj hm).symm h hI⟩
end
end G

set_option Elab.async false
set_option linter.all false
set_option maxRecDepth 100000
set_option maxHeartbeats 4000000
/-! G15: lists and tuples of things of one's own. -/
namespace G
open PySem PySem.Spec PyProof.Rows L2
open Rp (rp)
open Ow (ow)
theorem pairedM {α β : Type} {R R' : α → β → Prop} : ∀ {xs : List α} {ys : List β}, Paired R xs ys → (∀ x y, x ∈ xs → R x y → R' x y) → Paired R' xs ys
  | _, _, .nil, _ => .nil
  | _, _, .cons r t, k => .cons (k _ _ (List.mem_cons_self ..) r) (pairedM t fun x y m => k x y (List.mem_cons_of_mem _ m))
theorem paired_exists {α β : Type} {R : α → β → Prop} : ∀ {xs : List α} {ys : List β}, Paired R xs ys → ∀ x ∈ xs, ∃ y, R x y
  | _, _, .nil, _, m => by cases m
  | _, _, .cons r t, x, m => by
    rcases List.mem_cons.mp m with e | m
    · rw [e]; exact ⟨_, r⟩
    · exact paired_exists t x m
theorem paired_iff {α β : Type} {R : α → β → Prop} : ∀ {xs : List α} {ys : List β}, xs.length = ys.length → (∀ (j : Nat) (x : α) (y : β), xs[j]? = some x → ys[j]? = some y → R x y) → Paired R xs ys
  | [], [], _, _ => .nil
  | x :: xs, y :: ys, hl, k => .cons (k 0 x y rfl rfl) (paired_iff (by simpa using hl) fun j a b h1 h2 => k (j + 1) a b (by simpa using h1) (by simpa using h2))
  | [], _ :: _, hl, _ => by simp at hl
  | _ :: _, [], hl, _ => by simp at hl
theorem Paired.both {α β : Type} {R : α → β → Prop} {xs : List α} {ys : List β} (h : Paired R xs ys) {j : Nat} {x : α} {y : β} (h1 : xs[j]? = some x) (h2 : ys[j]? = some y) : R x y := by
  obtain ⟨x', e, r⟩ := Paired.at h h2
  rw [h1] at e
  cases e
  exact r
/-- a list (a tuple) of things of one's own -/
abbrev seqS {α : Type} (ob : List V → HO) (s : Sh α) : Sh (List α) where
  G := Addr × List s.G
  root g := .ref g.1
  ads g := g.1 :: g.2.flatMap s.ads
  ok K F H g x := H g.1 = some (ob (g.2.map s.root)) ∧ g.2.length ≤ sizeLine ∧ Paired (s.ok K F H) g.2 x
  mono := fun {K F F' H H' g x} e k ⟨h1, h2, h3⟩ => ⟨(k _ (List.mem_cons_self ..)).trans h1, h2, pairedM h3 fun a b m r => s.mono e (fun c n => k c (List.mem_cons_of_mem _ (List.mem_flatMap.mpr ⟨a, m, n⟩))) r⟩
  tr := fun {K F H g x} ⟨h1, h2, h3⟩ a m => by
    rcases List.mem_cons.mp m with e | m
    · rw [e]; exact ⟨_, h1⟩
    · obtain ⟨c, hc, hm⟩ := List.mem_flatMap.mp m
      obtain ⟨y, r⟩ := paired_exists h3 c hc
      exact s.tr r a hm
/-- .. of which one is taken out -/
abbrev holS {α : Type} (ob : List V → HO) (s : Sh α) (i : Nat) : Sh (List α) where
  G := Addr × List s.G
  root g := .ref g.1
  ads g := g.1 :: (g.2.eraseIdx i).flatMap s.ads
  ok K F H g x := H g.1 = some (ob (g.2.map s.root)) ∧ g.2.length ≤ sizeLine ∧ g.2.length = x.length ∧ ∀ (j : Nat) (a : s.G) (y : α), j ≠ i → g.2[j]? = some a → x[j]? = some y → s.ok K F H a y
  mono := fun {K F F' H H' g x} e k ⟨h1, h2, h3, h4⟩ => ⟨(k _ (List.mem_cons_self ..)).trans h1, h2, h3, fun j a y hj ha hy => s.mono e (fun c n => k c (List.mem_cons_of_mem _ (List.mem_flatMap.mpr ⟨a, List.mem_eraseIdx_iff_getElem?.mpr ⟨j, hj, ha⟩, n⟩))) (h4 j a y hj ha hy)⟩
  tr := fun {K F H g x} ⟨h1, h2, h3, h4⟩ a m => by
    rcases List.mem_cons.mp m with e | m
    · rw [e]; exact ⟨_, h1⟩
    · obtain ⟨c, hc, hm⟩ := List.mem_flatMap.mp m
      obtain ⟨j, hj, ha⟩ := List.mem_eraseIdx_iff_getElem?.mp hc
      obtain ⟨hlt, _⟩ := List.getElem?_eq_some_iff.mp ha
      exact s.tr (h4 j c x[j] hj ha (List.getElem?_eq_getElem (by omega))) a hm
/-- .. of which the value is another one -/
abbrev Sh.via {α β : Type} (f : β → α) (s : Sh α) : Sh β where
  G := s.G
  root := s.root
  ads := s.ads
  ok K F H g x := s.ok K F H g (f x)
  mono := s.mono
  tr := s.tr
abbrev lstS {α : Type} (s : Sh α) : Sh (List α) := seqS HO.lst s
abbrev tupS {α : Type} (s : Sh α) : Sh (Tup α) := (seqS HO.tup s).via Tup.l
theorem flat_erase {α β : Type} {f : α → List β} : ∀ {l : List α} {i : Nat} {a : α}, l[i]? = some a → (l.flatMap f).Perm (f a ++ (l.eraseIdx i).flatMap f)
  | [], _, _, h => by simp at h
  | x :: l, 0, a, h => by
    simp at h
    subst h
    exact .refl _
  | x :: l, i + 1, a, h => by
    have ih := flat_erase (f := f) (l := l) (i := i) (a := a) (by simpa using h)
    rw [List.flatMap_cons, List.eraseIdx_cons_succ, List.flatMap_cons]
    refine (ih.append_left _).trans ?_
    rw [← List.append_assoc, ← List.append_assoc]
    exact (List.perm_append_comm).append_right _
section
variable {K : Fg} {B : Base} {F H F' H' : Hp} {w : List (Option V)} {σ : L2.St} {M A A' : List Slot} {Q : VK} {α β γ τ : Type}
/-- a slot is put otherwise, its parts standing where they stood -/
theorem St.reT {s : Sh α} {s' : Sh β} {g : s.G} {g' : s'.G} {x : α} {y : β} (h : St K B F H w M) (i : Nat) (hM : M[i]? = some (.tree s g x)) (hr : s'.root g' = s.root g) (hp : (s'.ads g').Sublist (s.ads g)) (ok : s.ok K F H g x → s'.ok K F H g' y) : St K B F H w (M.set i (.tree s' g' y)) := by
  obtain ⟨h0, dj, nd0, bo, hw, fo0, ok0⟩ := h.outT hM
  have h1 := h0.putT (s := s') (g := g') (x := y) i (set_any_at hM) (by rw [hw, hr]) (ok ok0) (hp.nodup nd0) (fun a m => dj a (hp.subset m)) (fun a m => fo0 a (hp.subset m)) fun a m => bo a (hp.subset m)
  rwa [List.set_set] at h1
theorem seq_len {ob : List V → HO} {s : Sh α} {g : Addr × List s.G} {x : List α} (h : (seqS ob s).ok K F H g x) : g.2.length = x.length := Paired.length h.2.2
/-- one of a list's things is looked at -/
theorem St.at_ {ob : List V → HO} {s : Sh α} {g : Addr × List s.G} {x : List α} {y : α} {i : Nat} (h : St K B F H w M) (k : Nat) (hM : M[k]? = some (.tree (seqS ob s) g x)) (hx : x[i]? = some y) : ∃ a, g.2[i]? = some a ∧ s.ok K F H a y := by
  obtain ⟨o, _, hs⟩ := h.ok.at hM
  obtain ⟨a, e, r⟩ := Paired.at hs.2.2.2.2 hx
  exact ⟨a, e, r⟩
/-- one of a list's things is taken out, onto the pile -/
theorem St.focus {ob : List V → HO} {s : Sh α} {g : Addr × List s.G} {x : List α} {y : α} {a : s.G} {i : Nat} (h : St K B F H w M) (k : Nat) (hM : M[k]? = some (.tree (seqS ob s) g x)) (hx : x[i]? = some y) (ha : g.2[i]? = some a) : St K B F H (some (s.root a) :: w) (.tree s a y :: M.set k (.tree (holS ob s i) g x)) := by
  obtain ⟨h0, dj, nd0, bo, hw, fo0, ok0⟩ := h.outT hM
  have p : ((seqS ob s).ads g).Perm (s.ads a ++ (holS ob s i).ads g) := by
    show (g.1 :: g.2.flatMap s.ads).Perm (s.ads a ++ g.1 :: (g.2.eraseIdx i).flatMap s.ads)
    exact ((flat_erase ha).cons _).trans (List.perm_middle).symm
  obtain ⟨n1, n2, n3⟩ := List.nodup_append.mp (p.nodup_iff.mp nd0)
  have m1 : ∀ c ∈ s.ads a, c ∈ (seqS ob s).ads g := fun c m => p.mem_iff.mpr (List.mem_append_left _ m)
  have m2 : ∀ c ∈ (holS ob s i).ads g, c ∈ (seqS ob s).ads g := fun c m => p.mem_iff.mpr (List.mem_append_right _ m)
  have okh : (holS ob s i).ok K F H g x := ⟨ok0.1, ok0.2.1, seq_len ok0, fun j b z hj hb hz => Paired.both ok0.2.2 hb hz⟩
  have h1 := h0.putT (s := holS ob s i) (g := g) (x := x) k (set_any_at hM) hw okh n2 (fun c m => dj c (m2 c m)) (fun c m => fo0 c (m2 c m)) fun c m => bo c (m2 c m)
  have pp := owns_put (s := holS ob s i) (g := g) (x := x) (set_any_at hM)
  rw [List.set_set] at h1 pp
  exact h1.pushT (Paired.both ok0.2.2 ha hx) n1 (fun c m n => by
    rcases List.mem_append.mp (pp.mem_iff.mp n) with n | n
    · exact n3 c m c n rfl
    · exact dj c (m1 c m) n) (fun c m => fo0 c (m1 c m)) fun c m => bo c (m1 c m)
theorem set_same {l : List α} {i : Nat} {a : α} : ∀ {j : Nat} {b : α}, (l.set i a)[j]? = some b → (j = i ∧ b = a) ∨ (j ≠ i ∧ l[j]? = some b) := by
  intro j b h
  by_cases e : j = i
  · subst e
    rw [List.getElem?_set_self (by
      rcases Nat.lt_or_ge j (l.set j a).length with z | z
      · simpa using z
      · rw [List.getElem?_eq_none z] at h; cases h)] at h
    exact .inl ⟨rfl, (Option.some.inj h).symm⟩
  · rw [List.getElem?_set_ne (fun z => e z.symm)] at h
    exact .inr ⟨e, h⟩
theorem erase_set {l : List α} {a : α} : ∀ {i : Nat}, (l.set i a).eraseIdx i = l.eraseIdx i := by
  intro i
  induction l generalizing i with
  | nil => rfl
  | cons x l ih =>
    cases i with
    | zero => rfl
    | succ i => simp [ih]
theorem root_set {s : Sh α} {a b : s.G} (hr : s.root b = s.root a) : ∀ {l : List s.G} {i : Nat}, l[i]? = some a → (l.set i b).map s.root = l.map s.root := by
  intro l i ha
  rw [List.map_set, hr]
  exact List.ext_getElem? fun j => by
    by_cases e : i = j
    · subst e
      have hi : i < l.length := at_lt ha
      rw [List.getElem?_set_self (by simpa using hi), List.getElem?_map, ha]
      rfl
    · rw [List.getElem?_set_ne e]
/-- .. and put back -/
theorem St.unfocus {ob : List V → HO} {s : Sh α} {g : Addr × List s.G} {x : List α} {y' : α} {a a' : s.G} {i : Nat} {o : Option V} (h : St K B F H (o :: w) (.tree s a' y' :: M)) (k : Nat) (hM : M[k]? = some (.tree (holS ob s i) g x)) (ha : g.2[i]? = some a) (hr : s.root a' = s.root a) : St K B F H w (M.set k (.tree (seqS ob s) (g.1, g.2.set i a') (x.set i y'))) := by
  have hM1 : (Slot.tree s a' y' :: M)[k + 1]? = some (.tree (holS ob s i) g x) := by simpa using hM
  obtain ⟨h0, dj, nd0, bo, hw, fo0, ok0⟩ := h.outT hM1
  obtain ⟨_, f1, ok1⟩ := h.ok.1
  have h2 := h0.pop
  have e1 : (Slot.tree s a' y' :: M).set (k + 1) .any = .tree s a' y' :: M.set k .any := rfl
  rw [e1] at dj h0
  have hi : i < g.2.length := at_lt ha
  obtain ⟨n1, n2, n3⟩ := List.nodup_append.mp h0.nd
  have h3 : St K B F H w (M.set k .any) := h2
  have p : ((seqS ob s).ads (g.1, g.2.set i a')).Perm (s.ads a' ++ (holS ob s i).ads g) := by
    show (g.1 :: (g.2.set i a').flatMap s.ads).Perm (s.ads a' ++ g.1 :: (g.2.eraseIdx i).flatMap s.ads)
    have q := flat_erase (f := s.ads) (l := g.2.set i a') (i := i) (a := a') (List.getElem?_set_self hi)
    rw [erase_set] at q
    exact (q.cons _).trans (List.perm_middle).symm
  have djp : ∀ c ∈ (seqS ob s).ads (g.1, g.2.set i a'), c ∉ owns (M.set k .any) := fun c m n => by
    rcases List.mem_append.mp (p.mem_iff.mp m) with m | m
    · exact n3 c m c n rfl
    · exact dj c m (List.mem_append_right _ n)
  have all : ∀ c ∈ (seqS ob s).ads (g.1, g.2.set i a'), F c = none ∧ (B.H c = none ∨ c ∈ B.may) := fun c m => by
    rcases List.mem_append.mp (p.mem_iff.mp m) with m | m
    · exact ⟨f1 c m, h.bo c (List.mem_append_left _ m)⟩
    · exact ⟨fo0 c m, bo c m⟩
  have okp : (seqS ob s).ok K F H (g.1, g.2.set i a') (x.set i y') := by
    obtain ⟨k1, k2, k3, k4⟩ := ok0
    refine ⟨?_, by show (g.2.set i a').length ≤ _; rw [List.length_set]; exact k2, paired_iff (by show (g.2.set i a').length = _; rw [List.length_set, List.length_set, k3]) fun j b z hb hz => ?_⟩
    · show H g.1 = some (ob ((g.2.set i a').map s.root))
      rw [root_set hr ha]
      exact k1
    · rcases set_same hb with ⟨e, q⟩ | ⟨e, q⟩
      · rcases set_same hz with ⟨e', q'⟩ | ⟨e', q'⟩
        · rw [q, q']; exact ok1
        · exact absurd e e'
      · rcases set_same hz with ⟨e', q'⟩ | ⟨e', q'⟩
        · exact absurd e' e
        · exact k4 j b z e q q'
  have ndp : ((seqS ob s).ads (g.1, g.2.set i a')).Nodup := p.nodup_iff.mpr (List.nodup_append.mpr ⟨n1, nd0, fun c m d n e => dj c (by rw [e]; exact n) (List.mem_append_left _ m)⟩)
  have h4 := h3.putT (s := seqS ob s) (g := (g.1, g.2.set i a')) (x := x.set i y') k (set_any_at hM) (by simpa using hw) okp ndp djp (fun c m => (all c m).1) fun c m => (all c m).2
  rwa [List.set_set] at h4
theorem atI_some {xs : List α} {i : Int} {y : α} (h : atI xs i = some y) : ∃ j, ixN xs.length i = some j ∧ xs[j]? = some y := ob h
/-- xs[i], xs of one's own, its things of one's own -/
theorem S_ixN {s : Sh α} {g : Addr × List s.G} {x : List α} {y : α} {i : Int} (h : St K B F H w M) (k : Nat) (hM : M[k]? = some (.tree (lstS s) g x)) (hm : atI x i = some y) (q : ∀ j a, ixN x.length i = some j → x[j]? = some y → g.2[j]? = some a → s.ok K F H a y → Q (s.root a) H) : rIxL K (.ref g.1) (.int i) H Q := by
  obtain ⟨j, e1, e2⟩ := atI_some hm
  obtain ⟨o, _, hs⟩ := h.ok.at hM
  obtain ⟨k1, k2, k3⟩ := hs.2.2
  obtain ⟨a, e3, ok⟩ := h.at_ k hM e2
  refine ⟨g.1, _, i, s.root a, rfl, rfl, .inl (.inl k1), ?_, q j a e1 e2 e3 ok⟩
  unfold atI
  rw [List.length_map, Paired.length k3, e1]
  show (g.2.map s.root)[j]? = some (s.root a)
  rw [List.getElem?_map, e3]
  rfl
theorem S_ixM {s : Sh α} {g : Addr × List s.G} {x : Tup α} {y : α} {i : Int} (h : St K B F H w M) (k : Nat) (hM : M[k]? = some (.tree (tupS s) g x)) (hm : atI x.l i = some y) (q : ∀ j a, ixN x.l.length i = some j → x.l[j]? = some y → g.2[j]? = some a → s.ok K F H a y → Q (s.root a) H) : rIxT K (.ref g.1) (.int i) H Q := by
  obtain ⟨j, e1, e2⟩ := atI_some hm
  obtain ⟨o, _, hs⟩ := h.ok.at hM
  obtain ⟨k1, k2, k3⟩ := hs.2.2
  obtain ⟨a, e3, ok⟩ := Paired.at k3 e2
  refine ⟨g.1, _, i, s.root a, rfl, rfl, .inl (.inl k1), ?_, q j a e1 e2 e3 ok⟩
  unfold atI
  rw [List.length_map, Paired.length k3, e1]
  show (g.2.map s.root)[j]? = some (s.root a)
  rw [List.getElem?_map, e3]
  rfl
/-- a list that is to be read -/
theorem view_flat [Rp β] {a : Addr} {y : List β} (ok : (flat (List β)).ok K F H a y) : ViewL K F H (.ref a) y := by
  obtain ⟨ob, h1, vs, rfl, h2, h3⟩ := ok
  exact ⟨a, vs, rfl, h1, h2, h3⟩
/-- the pile's own things make a tuple, a list -/
theorem St.mk2 {ob : List V → HO} {s : Sh α} {g1 g2 : s.G} {y1 y2 : α} {o1 o2 : Option V} {p : Addr} (h : St K B F H (o2 :: o1 :: w) (.tree s g2 y2 :: .tree s g1 y1 :: M)) (hp : H p = none) : St K B F (upd H p (ob [s.root g1, s.root g2])) (some (.ref p) :: w) (.tree (seqS ob s) (p, [g1, g2]) [y1, y2] :: M) := by
  have g := h.newO (ob := ob [s.root g1, s.root g2]) hp
  have ok2 := g.ok.1.2
  have ok1 := g.ok.2.1.2
  have nd := h.nd
  have np : p ∉ owns (Slot.tree s g2 y2 :: .tree s g1 y1 :: M) := fun m => by
    obtain ⟨_, ob', z⟩ := h.own_tracked p m
    rw [hp] at z; cases z
  have e : owns (Slot.tree s g2 y2 :: .tree s g1 y1 :: M) = s.ads g2 ++ (s.ads g1 ++ owns M) := rfl
  rw [e] at nd np
  have ea : (seqS ob s).ads (p, [g1, g2]) = p :: (s.ads g1 ++ (s.ads g2 ++ [])) := rfl
  refine ⟨g.fh, g.f0, g.nf, g.h0, g.tr, ⟨⟨rfl, fun a m => ?_, upd_same, (by show 2 ≤ sizeLine; decide), .cons ok1.2 (.cons ok2.2 .nil)⟩, g.ok.2.2⟩, ?_, fun a m => ?_⟩
  · rw [ea, List.append_nil] at m
    rcases List.mem_cons.mp m with q | m
    · rw [q]; exact fresh_back h.fh hp
    · rcases List.mem_append.mp m with m | m
      · exact ok1.1 a m
      · exact ok2.1 a m
  · show ((seqS ob s).ads (p, [g1, g2]) ++ owns M).Nodup
    rw [ea, List.append_nil]
    have q : (s.ads g2 ++ (s.ads g1 ++ owns M)).Perm ((s.ads g1 ++ s.ads g2) ++ owns M) := by
      rw [← List.append_assoc]
      exact (List.perm_append_comm).append_right _
    exact List.nodup_cons.mpr ⟨fun m => np (q.mem_iff.mpr m), q.nodup_iff.mp nd⟩
  · have m : a ∈ (seqS ob s).ads (p, [g1, g2]) ++ owns M := m
    rw [ea, List.append_nil] at m
    rcases List.mem_cons.mp m with q | m
    · left
      rw [q]
      exact h.freshB hp
    · refine h.bo a ?_
      rw [e]
      rcases List.mem_append.mp m with m | m
      · rcases List.mem_append.mp m with m | m
        · exact List.mem_append_right _ (List.mem_append_left _ m)
        · exact List.mem_append_left _ m
      · exact List.mem_append_right _ (List.mem_append_right _ m)
/-! ### what is one's own is frozen -/
def frzF (F H : Hp) (L : List Addr) : Hp := fun a => if a ∈ L then H a else F a
/-- shapes that can be frozen -/
structure Fz {α : Type} [Rp α] (s : Sh α) : Prop where
  conv : ∀ {K : Fg} {F F' H : Hp} {g : s.G} {x : α}, Ex F F' → (∀ a ∈ s.ads g, F' a = H a) → s.ok K F H g x → rp K F' (s.root g) x
theorem fzL [Rp β] : Fz (flat (List β)) := ⟨fun {K F F' H g x} e k ok => by
  obtain ⟨ob, h1, vs, rfl, h2, h3⟩ := ok
  exact ⟨g, vs, rfl, by rw [k g (List.mem_singleton.mpr rfl)]; exact h1, h2, paired_mono e h3⟩⟩
theorem conv_all [Rp α] {s : Sh α} (c : Fz s) (e : Ex F F') : ∀ {gs : List s.G} {xs : List α}, (∀ g ∈ gs, ∀ a ∈ s.ads g, F' a = H a) → Paired (s.ok K F H) gs xs → Paired (rp K F') (gs.map s.root) xs
  | _, _, _, .nil => .nil
  | _, _, k, .cons r t => .cons (c.conv e (k _ (List.mem_cons_self ..)) r) (conv_all c e (fun g m => k g (List.mem_cons_of_mem _ m)) t)
theorem fzLL [Rp α] {s : Sh α} (c : Fz s) : Fz (lstS s) := ⟨fun {K F F' H g x} e k ⟨h1, h2, h3⟩ =>
  ⟨g.1, _, rfl, by rw [k g.1 (List.mem_cons_self ..)]; exact h1, by rw [List.length_map]; exact h2, conv_all c e (fun q m a n => k a (List.mem_cons_of_mem _ (List.mem_flatMap.mpr ⟨q, m, n⟩))) h3⟩⟩
theorem fzTT [Rp α] {s : Sh α} (c : Fz s) : Fz (tupS s) := ⟨fun {K F F' H g x} e k ⟨h1, h2, h3⟩ =>
  ⟨g.1, _, rfl, .inl (by rw [k g.1 (List.mem_cons_self ..)]; exact h1), by rw [List.length_map]; exact h2, conv_all c e (fun q m a n => k a (List.mem_cons_of_mem _ (List.mem_flatMap.mpr ⟨q, m, n⟩))) h3⟩⟩
theorem frzF_in {L : List Addr} {a : Addr} (m : a ∈ L) : frzF F H L a = H a := if_pos m
theorem frzF_out {L : List Addr} {a : Addr} (m : a ∉ L) : frzF F H L a = F a := if_neg m
theorem St.frzT [Rp α] {s : Sh α} {g : s.G} {x : α} (c : Fz s) (i : Nat) (h : St K B F H w M) (hM : M[i]? = some (.tree s g x)) (hB : ∀ a ∈ s.ads g, B.H a = none) : ∃ F', St K B F' H w (M.set i (.fz x)) := by
  obtain ⟨h0, dj, nd0, bo, hw, fo0, ok0⟩ := h.outT hM
  have e1 : Ex F (frzF F H (s.ads g)) := fun a o e => by
    rw [frzF_out fun m => by rw [fo0 a m] at e; cases e]
    exact e
  have h1 : St K B (frzF F H (s.ads g)) H w (M.set i .any) := by
    refine ⟨fun a o e => ?_, h0.f0.trans e1, fun a z => ?_, h0.h0, h0.tr, h0.ok.move e1 fun a m => ⟨rfl, ?_⟩, h0.nd, h0.bo⟩
    · by_cases m : a ∈ s.ads g
      · rw [frzF_in m] at e; exact e
      · rw [frzF_out m] at e; exact h0.fh a o e
    · rw [frzF_out fun m => z (hB a m)]
      exact h0.nf a z
    · rw [frzF_out fun n => dj a n m]
      exact h0.ok.fo a m
  have h2 := h1.setF i (v := s.root g) (c.conv e1 (fun a m => frzF_in m) ok0)
  rw [List.set_set] at h2
  have e2 : w.set i (some (s.root g)) = w := by
    obtain ⟨hi, e⟩ := List.getElem?_eq_some_iff.mp hw
    rw [← e, List.set_getElem_self]
  rw [e2] at h2
  exact ⟨_, h2⟩
/-- a thing of one's own, on the pile, goes to the end of a list of one's own -/
theorem St.appT {s : Sh α} {g : Addr × List s.G} {x : List α} {a : s.G} {y : α} {o : Option V} (h : St K B F H (o :: w) (.tree s a y :: M)) (k : Nat) (hM : M[k]? = some (.tree (lstS s) g x)) (hl : x.length < sizeLine) : St K B F (upd H g.1 (.lst (g.2.map s.root ++ [s.root a]))) w (M.set k (.tree (lstS s) (g.1, g.2 ++ [a]) (x ++ [y]))) := by
  have hM1 : (Slot.tree s a y :: M)[k + 1]? = some (.tree (lstS s) g x) := by simpa using hM
  obtain ⟨h0, dj, nd0, bo, hw, fo0, ok0⟩ := h.outT hM1
  have e1 : (Slot.tree s a y :: M).set (k + 1) .any = .tree s a y :: M.set k .any := rfl
  rw [e1] at dj h0
  have hD : g.1 ∈ (lstS s).ads g := List.mem_cons_self ..
  have h1 := h0.updO (ob := .lst (g.2.map s.root ++ [s.root a])) (fo0 _ hD) (bo _ hD) (dj _ hD)
  obtain ⟨_, f1, ok1⟩ := h1.ok.1
  obtain ⟨n1, n2, n3⟩ := List.nodup_append.mp h1.nd
  have hlen := seq_len ok0
  have p : ((lstS s).ads (g.1, g.2 ++ [a])).Perm (s.ads a ++ (lstS s).ads g) := by
    show (g.1 :: (g.2 ++ [a]).flatMap s.ads).Perm (s.ads a ++ g.1 :: g.2.flatMap s.ads)
    rw [List.flatMap_append, List.flatMap_cons, List.flatMap_nil, List.append_nil]
    exact ((List.perm_append_comm).cons _).trans (List.perm_middle).symm
  have djp : ∀ c ∈ (lstS s).ads (g.1, g.2 ++ [a]), c ∉ owns (M.set k .any) := fun c m n => by
    rcases List.mem_append.mp (p.mem_iff.mp m) with m | m
    · exact n3 c m c n rfl
    · exact dj c m (List.mem_append_right _ n)
  have all : ∀ c ∈ (lstS s).ads (g.1, g.2 ++ [a]), F c = none ∧ (B.H c = none ∨ c ∈ B.may) := fun c m => by
    rcases List.mem_append.mp (p.mem_iff.mp m) with m | m
    · exact ⟨f1 c m, h1.bo c (List.mem_append_left _ m)⟩
    · exact ⟨fo0 c m, bo c m⟩
  have ndp : ((lstS s).ads (g.1, g.2 ++ [a])).Nodup := p.nodup_iff.mpr (List.nodup_append.mpr ⟨n1, nd0, fun c m d n e => dj c (by rw [e]; exact n) (List.mem_append_left _ m)⟩)
  have nD : g.1 ∉ g.2.flatMap s.ads := (List.nodup_cons.mp nd0).1
  have okp : (lstS s).ok K F (upd H g.1 (.lst (g.2.map s.root ++ [s.root a]))) (g.1, g.2 ++ [a]) (x ++ [y]) := by
    refine ⟨?_, by show (g.2 ++ [a]).length ≤ _; rw [List.length_append]; show g.2.length + 1 ≤ _; omega, paired_snoc ok1 (pairedM ok0.2.2 fun b z m r => s.mono (Ex.refl F) (fun c n => upd_ne fun e => nD (by rw [← e]; exact List.mem_flatMap.mpr ⟨b, m, n⟩)) r)⟩
    rw [upd_same, List.map_append]
    rfl
  have h4 := h1.pop.putT (s := lstS s) (g := (g.1, g.2 ++ [a])) (x := x ++ [y]) k (set_any_at hM) (by simpa using hw) okp ndp djp (fun c m => (all c m).1) fun c m => (all c m).2
  rwa [List.set_set] at h4
theorem St.newT {s : Sh α} {D : Addr} (h : St K B F H w M) (hD : H D = none) : St K B F (upd H D (.lst [])) (some (.ref D) :: w) (.tree (lstS s) (D, []) [] :: M) := by
  have h1 := h.pushO (α := List Unit) (x := []) hD (ob := .lst []) ⟨[], rfl, Nat.zero_le _, .nil⟩
  obtain ⟨a1, a2, a3⟩ := own_ok.mp h1.ok.1
  exact h1.reT 0 rfl (s' := lstS s) (g' := (D, [])) (y := []) rfl (.refl _) fun _ => ⟨upd_same, Nat.zero_le _, .nil⟩
end
section
variable {K : Fg} {B : Base} {F H : Hp} {σ : L2.St} {ts : List (Option V)} {TM M : List Slot} {β γ τ : Type} [Rp β] {J : It} {P : Hp → Hp → Prop} {ys : List β} {g : TG} {tt : TT} {te : TE} {vs : List Nat} {Q : VK}
theorem mapO_len {α β : Type} {f : α → Option β} : ∀ {xs : List α} {ys : List β}, mapO f xs = some ys → ys.length = xs.length
  | [], _, h => by cases Option.some.inj h; rfl
  | x :: xs, _, h => by
    obtain ⟨y, _, h⟩ := ob h
    obtain ⟨zs, hz, h⟩ := ob h
    cases Option.some.inj h
    simp [mapO_len hz]
/-- [e for ..], its things of one's own -/
theorem S_mapT (s : Sh γ) {f : β → Option γ} {zs : List γ} (Y : Yields K J P ys) (hm : mapO f ys = some zs) (h : St K B F H (ts ++ σ) (TM ++ M)) (hTM : TM.length = ts.length) (hf : Free M vs)
    (hlen : ys.length ≤ sizeLine) (hP : ∀ w F H, St K B F H (ts ++ w) (TM ++ M) → P F H)
    (turn : ∀ (x : β) (z : γ) v D gs acc F H (G : V → Hp → Prop) (N : Hp → Prop), f x = some z → St K B F H (some v :: some (.ref D) :: (ts ++ wipe σ vs)) (.fz x :: .tree (lstS s) (D, gs) acc :: (TM ++ M)) →
      (∀ a F' H', (∀ c ∈ s.ads a, B.H c = none) → St K B F' H' (some (s.root a) :: some (.ref D) :: (ts ++ wipe σ vs)) (.tree s a z :: .tree (lstS s) (D, gs) acc :: (TM ++ M)) → G (s.root a) H') →
      g v (wipe σ vs) H fun σ2 H2 => wipe σ2 vs = wipe σ vs ∧ tt σ2 H2 fun b H3 => if b = true then te σ2 H3 G else N H3)
    (hend : ∀ q F H, (∀ c ∈ (lstS s).ads q, B.H c = none) → St K B F H (some (.ref q.1) :: (ts ++ σ)) (.tree (lstS s) q zs :: (TM ++ M)) → Q (.ref q.1) H) : LcG J g tt te vs σ H Q := by
  intro D hD
  have hB : B.H D = none := h.freshB hD
  have lw := wipe_length σ vs
  have into : ∀ {F H}, St K B F H (ts ++ σ) (TM ++ M) → St K B F H (ts ++ wipe σ vs) (TM ++ M) := fun {F H} h => h.rew (by simp [lw]) fun i => wipe_rew hTM hf i
  have back : ∀ {F H gs acc}, St K B F H (some (.ref D) :: (ts ++ wipe σ vs)) (.tree (lstS s) (D, gs) acc :: (TM ++ M)) → St K B F H (some (.ref D) :: (ts ++ σ)) (.tree (lstS s) (D, gs) acc :: (TM ++ M)) := fun {F H gs acc} h => h.rew (by simp [lw]) fun i => by
    cases i with
    | zero => right; rfl
    | succ i =>
      rcases wipe_rew (σ := σ) hTM hf i with e | e
      · left; simpa using e
      · right; simpa using e.symm
  have h1 := (into h).newT (s := s) hD
  refine ⟨fun i m H => m = ys.length - i ∧ i ≤ ys.length ∧ ∃ F gs acc rest, St K B F H (some (.ref D) :: (ts ++ wipe σ vs)) (.tree (lstS s) (D, gs) acc :: (TM ++ M)) ∧ (∀ c ∈ (lstS s).ads (D, gs), B.H c = none) ∧ acc.length = i ∧ mapO f (ys.drop i) = some rest ∧ acc ++ rest = zs, ⟨ys.length, by omega, Nat.zero_le _, F, [], [], zs, h1, (fun c m => by rw [List.mem_singleton.mp m]; exact hB), rfl, hm, rfl⟩, ?_⟩
  rintro i m H ⟨rfl, hi, F, gs, acc, rest, h, hfr, hacc, hm, hz⟩
  have Yi := Y i F H (hP _ F H h.pop) h.fh
  by_cases hlt : i < ys.length
  · have hx : ys[i]? = some ys[i] := List.getElem?_eq_getElem hlt
    obtain ⟨go, yl⟩ := Yi.2 _ hx
    rw [drop_cons hlt] at hm
    obtain ⟨z, hp, hm⟩ := ob hm
    obtain ⟨q, hq, hm⟩ := ob hm
    have eq := Option.some.inj hm
    refine .inr ⟨go, fun H' => ∃ F' gs', St K B F' H' (some (.ref D) :: (ts ++ wipe σ vs)) (.tree (lstS s) (D, gs') (acc ++ [z]) :: (TM ++ M)) ∧ ∀ c ∈ (lstS s).ads (D, gs'), B.H c = none, fun H' ⟨F', gs', h', hfr'⟩ => ⟨ys.length - (i + 1), by omega, rfl, hlt, F', gs', _, q, h', hfr', by simp [hacc], hq, by rw [List.append_assoc]; show acc ++ z :: q = zs; rw [eq, hz]⟩, fun v H' y => ?_⟩
    obtain ⟨F', e1, e2, e3, e4, e5⟩ := yl v H' y
    refine turn _ z v D gs acc F' H' _ _ hp ((h.step e1 e3 e2 e4).push e5) fun a F'' H'' ha h'' => ?_
    obtain ⟨k1, k2, k3⟩ := h''.ok.2.1.2.2
    have hl : gs.length = acc.length := Paired.length k3
    refine ⟨gs.map s.root, k1, by rw [List.length_map, hl]; omega, F'', gs ++ [a], h''.appT 0 rfl (by omega), fun c m => ?_⟩
    have m : c ∈ D :: (gs ++ [a]).flatMap s.ads := m
    rw [List.flatMap_append, List.flatMap_cons, List.flatMap_nil, List.append_nil] at m
    rcases List.mem_cons.mp m with q | m
    · rw [q]; exact hB
    · rcases List.mem_append.mp m with m | m
      · exact hfr c (List.mem_cons_of_mem _ m)
      · exact ha c m
  · have e : i = ys.length := by omega
    subst e
    rw [List.drop_length] at hm
    have eq := Option.some.inj hm
    subst eq
    rw [List.append_nil] at hz
    subst hz
    exact .inl ⟨Yi.1 rfl, hend (D, gs) F H hfr (back h)⟩
end
end G

set_option Elab.async false
set_option linter.all false
set_option maxRecDepth 100000
set_option maxHeartbeats 4000000
/-! G16: sorted lists of data of any depth. -/
namespace G
open PySem PySem.Spec PyProof.Rows L2
open PySem.W (dataLt dataLe alike alikeAll keyToksAll EachIs AllAlike Sortable)
open Rp (rp)
/-- items that can be ordered -/
class Od (α : Type) [DecidableEq α] extends Py α where
  lt : α → α → Bool
  lin : Lin (fun _ => True) lt
  dlt : ∀ a b : α, dataLt (toPy.toD a) (toPy.toD b) = lt a b
  alk : ∀ a b : α, alike (toPy.toD a) (toPy.toD b) = true
  tup : Bool
  ne : α → Bool
  srt : ∀ a : α, ne a = true → if tup = true then ∃ x r, toPy.toD a = .tuple (x :: r) else toPy.toD a ≠ .none ∧ ∀ xs, toPy.toD a ≠ .tuple xs
def lexG {α : Type} [DecidableEq α] (lt : α → α → Bool) : List α → List α → Bool
  | [], [] => false
  | [], _ :: _ => true
  | _ :: _, [] => false
  | x :: xs, y :: ys => if x = y then lexG lt xs ys else lt x y
theorem lexG_irr {α : Type} [DecidableEq α] {lt : α → α → Bool} : ∀ x : List α, lexG lt x x = false
  | [] => rfl
  | a :: x => by unfold lexG; rw [if_pos rfl]; exact lexG_irr x
theorem lexG_tot {α : Type} [DecidableEq α] {lt : α → α → Bool} (L : Lin (fun _ => True) lt) : ∀ x y : List α, lexG lt x y = false → lexG lt y x = false → x = y
  | [], [], _, _ => rfl
  | [], _ :: _, h, _ => by cases h
  | _ :: _, [], _, h => by cases h
  | a :: x, b :: y, h, k => by
    unfold lexG at h k
    by_cases e : a = b
    · subst e
      rw [if_pos rfl] at h k
      rw [lexG_tot L x y h k]
    · rw [if_neg e] at h
      rw [if_neg fun z => e z.symm] at k
      exact absurd (L.tot a b trivial trivial h k) e
theorem lexG_tr {α : Type} [DecidableEq α] {lt : α → α → Bool} (L : Lin (fun _ => True) lt) : ∀ x y z : List α, lexG lt x y = true → lexG lt y z = true → lexG lt x z = true
  | [], [], _, h, _ => by cases h
  | [], _ :: _, [], _, k => by cases k
  | [], _ :: _, _ :: _, _, _ => rfl
  | _ :: _, [], _, h, _ => by cases h
  | _ :: _, _ :: _, [], _, k => by cases k
  | a :: x, b :: y, c :: z, h, k => by
    unfold lexG at h k ⊢
    by_cases e1 : a = b
    · subst e1
      rw [if_pos rfl] at h
      by_cases e2 : a = c
      · subst e2
        rw [if_pos rfl] at k ⊢
        exact lexG_tr L x y z h k
      · rw [if_neg e2] at k ⊢
        exact k
    · rw [if_neg e1] at h
      by_cases e2 : b = c
      · subst e2
        rw [if_neg e1]
        exact h
      · rw [if_neg e2] at k
        have t := L.tr a b c trivial trivial trivial h k
        by_cases e3 : a = c
        · subst e3
          rw [L.irr a trivial] at t
          cases t
        · rw [if_neg e3]
          exact t
theorem lin_lexG {α : Type} [DecidableEq α] {lt : α → α → Bool} (L : Lin (fun _ => True) lt) : Lin (fun _ => True) (lexG lt) := ⟨fun x _ => lexG_irr x, fun x y z _ _ _ => lexG_tr L x y z, fun x y _ _ => lexG_tot L x y⟩
theorem rows_lt {α : Type} [DecidableEq α] [Od α] : ∀ xs ys : List α, PyProof.Rows.lexLt itemOrd (keyToksAll (xs.map Py.toD)) (keyToksAll (ys.map Py.toD)) = lexG Od.lt xs ys
  | [], [] => PyProof.Rows.lex_irrefl _
  | [], y :: ys => by
    show PyProof.Rows.lexLt itemOrd (keyToksAll []) (keyToksAll (Py.toD y :: ys.map Py.toD)) = true
    rw [keyToksAll, keyToksAll, PyProof.Rows.lex_diff (by decide)]
    decide
  | x :: xs, [] => by
    show PyProof.Rows.lexLt itemOrd (keyToksAll (Py.toD x :: xs.map Py.toD)) (keyToksAll []) = false
    rw [keyToksAll, keyToksAll, PyProof.Rows.lex_diff (by decide)]
    decide
  | x :: xs, y :: ys => by
    rw [List.map_cons, List.map_cons, PySem.W.dataLt_cons (Od.alk x y), Py.eqv, Od.dlt, rows_lt xs ys]
    show _ = if x = y then lexG Od.lt xs ys else Od.lt x y
    by_cases h : x = y
    · rw [if_pos h, decide_eq_true h, if_pos rfl]
    · rw [if_neg h, decide_eq_false h, if_neg (by decide)]
theorem alikeAll_map {α : Type} [DecidableEq α] [Od α] : ∀ xs ys : List α, alikeAll (xs.map Py.toD) (ys.map Py.toD) = true
  | [], _ => by simp [alikeAll]
  | _ :: _, [] => by simp [alikeAll]
  | x :: xs, y :: ys => by
    rw [List.map_cons, List.map_cons, alikeAll, Od.alk, alikeAll_map xs ys]
    rfl
instance : Od Int where
  lt := fun a b => decide (a < b)
  lin := ⟨fun x _ => decide_eq_false (Int.lt_irrefl x), fun x y z _ _ _ h k => by
    have := of_decide_eq_true h
    have := of_decide_eq_true k
    exact decide_eq_true (by omega), fun x y _ _ h k => by
    have := of_decide_eq_false h
    have := of_decide_eq_false k
    omega⟩
  dlt := fun a b => PySem.W.dataLt_int a b
  alk := fun a b => by simp [Py.toD, alike]
  tup := false
  ne := fun _ => true
  srt := fun a _ => by
    rw [if_neg (by decide)]
    exact ⟨(fun z => by cases z), fun xs z => by cases z⟩
instance {α : Type} [DecidableEq α] [Od α] : Od (Tup α) where
  lt := fun a b => lexG Od.lt a.l b.l
  lin := ⟨fun x _ => lexG_irr x.l, fun x y z _ _ _ => lexG_tr Od.lin x.l y.l z.l, fun x y _ _ h k => by
    have := lexG_tot Od.lin x.l y.l h k
    cases x; cases y; simp_all⟩
  dlt := fun a b => (PySem.W.dataLt_tuple _ _).trans (rows_lt a.l b.l)
  alk := fun a b => by
    show alike (.tuple (a.l.map Py.toD)) (.tuple (b.l.map Py.toD)) = true
    rw [alike]
    exact alikeAll_map a.l b.l
  tup := true
  ne := fun a => !a.l.isEmpty
  srt := fun a h => by
    rw [if_pos rfl]
    obtain ⟨l⟩ := a
    cases l with
    | nil => cases h
    | cons x r => exact ⟨_, _, rfl⟩
/-- things one behind another that can be ordered -/
class OdF (τ : Type) [DecidableEq τ] extends PyFl τ where
  ltF : τ → τ → Bool
  linF : Lin (fun _ => True) ltF
  dltF : ∀ a b : τ, PyProof.Rows.lexLt itemOrd (keyToksAll (toPyFl.toDs a)) (keyToksAll (toPyFl.toDs b)) = ltF a b
  alkF : ∀ a b : τ, alikeAll (toPyFl.toDs a) (toPyFl.toDs b) = true
instance : OdF Unit where
  ltF := fun _ _ => false
  linF := ⟨fun _ _ => rfl, (fun _ _ _ _ _ _ h _ => by cases h), fun _ _ _ _ _ _ => rfl⟩
  dltF := fun _ _ => PyProof.Rows.lex_irrefl _
  alkF := fun _ _ => by simp [PyFl.toDs, alikeAll]
theorem lin_pair {α τ : Type} [DecidableEq α] {lt : α → α → Bool} {ltF : τ → τ → Bool} (L : Lin (fun _ => True) lt) (L2 : Lin (fun _ => True) ltF) : Lin (fun _ => True) fun (a b : α × τ) => if a.1 = b.1 then ltF a.2 b.2 else lt a.1 b.1 := ⟨fun x _ => by rw [if_pos rfl]; exact L2.irr _ trivial, fun x y z _ _ _ h k => by
    by_cases e1 : x.1 = y.1
    · rw [if_pos e1] at h
      by_cases e2 : y.1 = z.1
      · rw [if_pos e2] at k
        rw [if_pos (e1.trans e2)]
        exact L2.tr _ _ _ trivial trivial trivial h k
      · rw [if_neg e2] at k
        rw [if_neg (by rw [e1]; exact e2), e1]
        exact k
    · rw [if_neg e1] at h
      by_cases e2 : y.1 = z.1
      · rw [if_neg (by rw [← e2]; exact e1), ← e2]
        exact h
      · rw [if_neg e2] at k
        have t := L.tr _ _ _ trivial trivial trivial h k
        by_cases e3 : x.1 = z.1
        · rw [e3, L.irr _ trivial] at t
          cases t
        · rw [if_neg e3]
          exact t, fun x y _ _ h k => by
    by_cases e : x.1 = y.1
    · rw [if_pos e] at h
      rw [if_pos e.symm] at k
      exact Prod.ext e (L2.tot _ _ trivial trivial h k)
    · rw [if_neg e] at h
      rw [if_neg fun z => e z.symm] at k
      exact absurd (L.tot _ _ trivial trivial h k) e⟩
instance {α τ : Type} [DecidableEq α] [Od α] [DecidableEq τ] [OdF τ] : OdF (α × τ) where
  ltF := fun a b => if a.1 = b.1 then OdF.ltF a.2 b.2 else Od.lt a.1 b.1
  linF := lin_pair Od.lin OdF.linF
  dltF := fun a b => by
    show PyProof.Rows.lexLt itemOrd (keyToksAll (Py.toD a.1 :: PyFl.toDs a.2)) (keyToksAll (Py.toD b.1 :: PyFl.toDs b.2)) = _
    rw [PySem.W.dataLt_cons (Od.alk a.1 b.1), Py.eqv, Od.dlt, OdF.dltF]
    by_cases h : a.1 = b.1
    · rw [if_pos h, decide_eq_true h, if_pos rfl]
    · rw [if_neg h, decide_eq_false h, if_neg (by decide)]
  alkF := fun a b => by
    show alikeAll (Py.toD a.1 :: PyFl.toDs a.2) (Py.toD b.1 :: PyFl.toDs b.2) = true
    rw [alikeAll, Od.alk, OdF.alkF]
    rfl
instance {α τ : Type} [DecidableEq α] [Od α] [DecidableEq τ] [OdF τ] : Od (HT (α × τ)) where
  lt := fun a b => OdF.ltF a.x b.x
  lin := ⟨fun x _ => OdF.linF.irr x.x trivial, fun x y z _ _ _ => OdF.linF.tr x.x y.x z.x trivial trivial trivial, fun x y _ _ h k => by
    have := OdF.linF.tot x.x y.x trivial trivial h k
    cases x; cases y; simp_all⟩
  dlt := fun a b => (PySem.W.dataLt_tuple _ _).trans (OdF.dltF a.x b.x)
  alk := fun a b => by
    show alike (.tuple (PyFl.toDs a.x)) (.tuple (PyFl.toDs b.x)) = true
    rw [alike]
    exact OdF.alkF a.x b.x
  tup := true
  ne := fun _ => true
  srt := fun a _ => by
    rw [if_pos rfl]
    exact ⟨_, _, rfl⟩
instance {α β : Type} [DecidableEq α] [Od α] [DecidableEq β] [Od β] : Od (α × β) where
  lt := fun a b => if a.1 = b.1 then (if a.2 = b.2 then false else Od.lt a.2 b.2) else Od.lt a.1 b.1
  lin := lin_pair Od.lin (ltF := fun (x y : β) => if x = y then false else Od.lt x y) ⟨fun x _ => if_pos rfl, fun x y z _ _ _ h k => by
    by_cases e1 : x = y
    · rw [if_pos e1] at h; cases h
    · by_cases e2 : y = z
      · rw [if_pos e2] at k; cases k
      · rw [if_neg e1] at h
        rw [if_neg e2] at k
        have t := Od.lin.tr _ _ _ trivial trivial trivial h k
        by_cases e3 : x = z
        · rw [e3, Od.lin.irr _ trivial] at t; cases t
        · rw [if_neg e3]; exact t, fun x y _ _ h k => by
    by_cases e : x = y
    · exact e
    · rw [if_neg e] at h
      rw [if_neg fun z => e z.symm] at k
      exact Od.lin.tot _ _ trivial trivial h k⟩
  dlt := fun a b => by
    show dataLt (.tuple [Py.toD a.1, Py.toD a.2]) (.tuple [Py.toD b.1, Py.toD b.2]) = _
    rw [PySem.W.dataLt_pair (Od.alk _ _) (Od.alk _ _), Py.eqv, Py.eqv, Od.dlt, Od.dlt]
    by_cases h : a.1 = b.1
    · rw [if_pos h, decide_eq_true h, if_pos rfl]
      by_cases h2 : a.2 = b.2
      · rw [if_pos h2, decide_eq_true h2, if_pos rfl]
      · rw [if_neg h2, decide_eq_false h2, if_neg (by decide)]
    · rw [if_neg h, decide_eq_false h, if_neg (by decide)]
  alk := fun a b => by
    show alike (.tuple [Py.toD a.1, Py.toD a.2]) (.tuple [Py.toD b.1, Py.toD b.2]) = true
    rw [alike, alikeAll, alikeAll, alikeAll, Od.alk, Od.alk]
    rfl
  tup := true
  ne := fun _ => true
  srt := fun a _ => by
    rw [if_pos rfl]
    exact ⟨_, _, rfl⟩
/-! ### the rule -/
def sortV (xs : List V) (ds : List PyData) : List V := ((xs.zip ds).mergeSort (dataLe false Prod.snd)).map Prod.fst
def rSortD (K : Fg) : List V → Hp → VK → Prop := fun vs H Q => ∃ (a : Addr) (xs : List V) (ds : List PyData), vs = [.ref a] ∧ SqL K H a xs ∧ DpAll K H xs ds ∧ AllAlike ds ∧ Sortable ds ∧ (∀ d ∈ ds, d.depth ≤ 60) ∧ xs.length ≤ sizeLine ∧
  ∀ p, H p = none → Q (.ref p) (upd H p (.lst (sortV xs ds)))
theorem dpall_len {K : Fg} {H : Hp} : ∀ {xs : List V} {ds : List PyData}, DpAll K H xs ds → xs.length = ds.length
  | _, _, .nil => rfl
  | _, _, .cons _ h => by simp [dpall_len h]
theorem each_zip {R : Value → V × PyData → Prop} : ∀ {us : List Value} {xs : List V} {ds : List PyData}, Vals xs us → xs.length = ds.length → (∀ (v : V) (u : Value) (d : PyData), RelV v u → d ∈ ds → (v, d) ∈ xs.zip ds → R u (v, d)) → EachIs R us (xs.zip ds)
  | _, _, [], .nil, _, _ => .nil
  | _, _, d :: ds, .cons r t, hl, k => .cons (k _ _ _ r (List.mem_cons_self ..) (List.mem_cons_self ..)) (each_zip t (by simpa using hl) fun v u e r m n => k v u e r (List.mem_cons_of_mem _ m) (List.mem_cons_of_mem _ n))
  | _, _, _ :: _, .nil, hl, _ => by simp at hl
  | _, _, [], .cons _ _, hl, _ => by simp at hl
theorem each_vals : ∀ {us : List Value} {ps : List (V × PyData)}, EachIs (fun (u : Value) (p : V × PyData) => RelV p.1 u) us ps → Vals (ps.map Prod.fst) us
  | _, _, .nil => .nil
  | _, _, .cons r t => .cons r (each_vals t)
theorem dp_zip {K : Fg} {H : Hp} : ∀ {xs : List V} {ds : List PyData}, DpAll K H xs ds → ∀ p ∈ xs.zip ds, Dp K H p.1 p.2
  | _, _, .nil, _, m => by cases m
  | _, _, .cons h t, p, m => by
    rcases List.mem_cons.mp m with e | m
    · rw [e]; exact h
    · exact dp_zip t p m
theorem snd_zip : ∀ {xs : List V} {ds : List PyData}, xs.length = ds.length → (xs.zip ds).map Prod.snd = ds
  | [], [], _ => rfl
  | _ :: xs, d :: ds, h => by
    show d :: (xs.zip ds).map Prod.snd = _
    rw [snd_zip (by simpa using h)]
  | [], _ :: _, h => by simp at h
  | _ :: _, [], h => by simp at h
theorem cr_sortD {X : Cx} (hu : X.A.units + 64 < cLine) : CallR X (.builtin "sorted") (rSortD X.K) := by
  intro pins s σ H vs us Q I r h
  obtain ⟨a, xs, ds, rfl, hs, hd, hal, hk, hdep, hz, q⟩ := h
  obtain ⟨its, rv, hl, hz'⟩ := I.list hs
  rw [Vals.ref1 r]
  have hln := dpall_len hd
  have hsn := snd_zip hln
  have hzl : (xs.zip ds).length = xs.length := by rw [List.length_zip]; omega
  refine PySem.W.sorted_data (β := V × PyData) (bs := xs.zip ds) (enc := Prod.snd) (R := fun u p => RelV p.1 u) hl.isList (each_zip rv hln fun v u d r _ _ => r) (each_zip rv hln fun v u d r _ m => Dp.reads I d v u (dp_zip hd _ m) r) (by rw [hsn]; exact hal) (by rw [hsn]; exact hk) (by rw [hzl]; exact hz) (fun p hp => ?_) fun out hlen he => ?_
  · have := hdep p.2 (List.of_mem_zip hp).2
    omega
  · obtain ⟨ep, he'⟩ := PyProof.Rows.sortedAll_at s.heap its out.toArray
    have hv := each_vals he
    have hlen2 : (sortV xs ds).length ≤ sizeLine := by
      show (List.map Prod.fst _).length ≤ _
      rw [hv.length, hlen, hzl]
      exact hz
    exact ⟨.ref _, upd H (s.heap.objs.size + 1) (.lst (sortV xs ds)), I.laid (t' := s.toks) (fun _ _ => PyProof.Rows.sortedAll_old) (Nat.le_succ _) ⟨hlen2, out, ep, hv, he'⟩, rfl, q _ (I.hok.fresh (Nat.le_succ _))⟩
section
variable {K : Fg} {B : Base} {F H : Hp} {w : List (Option V)} {σ : L2.St} {M : List Slot} {Q : VK} {α : Type} [DecidableEq α] [Od α]
def sortD (xs : List α) : Option (List α) := if decide (xs.length ≤ 1000000) && xs.all Od.ne then some (isort Od.lt xs) else none
theorem merge_isort (xs : List α) : xs.mergeSort (fun a b => !Od.lt b a) = isort Od.lt xs := by
  have L := Od.lin (α := α)
  refine isort_uniq L (fun _ _ => trivial) (List.mergeSort_perm ..) ?_
  have := List.pairwise_mergeSort (le := fun a b : α => !Od.lt b a) (fun a b c h1 h2 => by
    have h1 : Od.lt b a = false := by simpa using h1
    have h2 : Od.lt c b = false := by simpa using h2
    show (!Od.lt c a) = true
    rw [L.le_tr trivial trivial trivial h1 h2]
    rfl) (fun a b => by
    show (!Od.lt b a || !Od.lt a b) = true
    cases h : Od.lt b a with
    | false => rfl
    | true => rw [L.asym trivial trivial h]; rfl) xs
  exact this.imp fun {a b} h => by simpa using h
theorem paired_zip {β : Type} {R : V → β → Prop} : ∀ {vs : List V} {xs : List β}, Paired R vs xs → (∀ p ∈ vs.zip xs, R p.1 p.2) ∧ (vs.zip xs).map Prod.snd = xs ∧ (vs.zip xs).map Prod.fst = vs
  | _, _, .nil => ⟨(fun _ m => by cases m), rfl, rfl⟩
  | _, _, .cons (a := v) (b := x) r t => by
    obtain ⟨h1, h2, h3⟩ := paired_zip t
    refine ⟨fun p m => ?_, by rw [List.zip_cons_cons, List.map_cons, h2], by rw [List.zip_cons_cons, List.map_cons, h3]⟩
    rcases List.mem_cons.mp m with e | m
    · rw [e]; exact r
    · exact h1 p m
theorem paired_of {β : Type} {R : V → β → Prop} : ∀ {Z : List (V × β)}, (∀ p ∈ Z, R p.1 p.2) → Paired R (Z.map Prod.fst) (Z.map Prod.snd)
  | [], _ => .nil
  | p :: Z, h => .cons (h p (List.mem_cons_self ..)) (paired_of fun q m => h q (List.mem_cons_of_mem _ m))
theorem sortV_paired {vs : List V} {xs : List α} (h : Paired (rp K F) vs xs) : Paired (rp K F) (sortV vs (xs.map Py.toD)) (isort Od.lt xs) := by
  obtain ⟨h1, h2, h3⟩ := paired_zip h
  have e : vs.zip (xs.map Py.toD) = (vs.zip xs).map fun p => (p.1, Py.toD p.2) := by
    rw [List.zip_map_right]
    rfl
  have key : ((vs.zip xs).map fun p => (p.1, Py.toD p.2)).mergeSort (dataLe false Prod.snd) = ((vs.zip xs).mergeSort fun p q => !Od.lt q.2 p.2).map fun p => (p.1, Py.toD p.2) := by
    refine (List.map_mergeSort fun a _ b _ => ?_).symm
    show _ = (!dataLt (Py.toD b.2) (Py.toD a.2))
    rw [Od.dlt]
  have k2 : ((vs.zip xs).mergeSort fun p q => !Od.lt q.2 p.2).map Prod.snd = isort Od.lt xs := by
    rw [← merge_isort xs]
    conv => rhs; rw [← h2]
    exact List.map_mergeSort fun a _ b _ => rfl
  unfold sortV
  rw [e, key, List.map_map, ← k2]
  have hp := paired_of (R := rp K F) (Z := (vs.zip xs).mergeSort fun p q => !Od.lt q.2 p.2) fun p m => h1 p ((List.mergeSort_perm ..).mem_iff.mp m)
  exact hp
theorem S_sortD {x z : List α} {v : V} (h : St K B F H w M) (hv : ViewL K F H v x) (hm : sortD x = some z) (hd : Py.dep α ≤ 60) (q : ∀ p F' H', B.H p = none → St K B F' H' (some (.ref p) :: w) (.own p z :: M) → Q (.ref p) H') : rSortD K [v] H Q := by
  unfold sortD at hm
  split at hm
  · rename_i hc
    have e := Option.some.inj hm
    subst e
    rw [Bool.and_eq_true] at hc
    obtain ⟨a, vs, rfl, h2, h3, h4⟩ := hv
    have hs := List.all_eq_true.mp hc.2
    refine ⟨a, vs, x.map Py.toD, rfl, .inl (.inl h2), DpAll.mono h.fh (dpall h4), PySem.W.AllAlike.of fun a b => Od.alk a b, ?_, fun d hd' => ?_, h3, fun p hp => q p _ _ (h.freshB hp) (h.pushO hp ⟨_, rfl, ?_, sortV_paired h4⟩)⟩
    · by_cases ht : Od.tup α = true
      · refine .inl fun d hd' => ?_
        obtain ⟨y, my, rfl⟩ := List.mem_map.mp hd'
        have := Od.srt y (hs y my)
        rw [if_pos ht] at this
        exact this
      · refine .inr fun d hd' => ?_
        obtain ⟨y, my, rfl⟩ := List.mem_map.mp hd'
        have := Od.srt y (hs y my)
        rw [if_neg ht] at this
        exact this
    · obtain ⟨y, my, rfl⟩ := List.mem_map.mp hd'
      exact Nat.le_trans (Py.dpt y) hd
    · have := Paired.length (sortV_paired h4)
      have l1 := (isort_perm (Od.lt (α := α)) x).length_eq
      have l2 := Paired.length h4
      omega
  · cases hm
end
end G

set_option Elab.async false
set_option linter.all false
set_option maxRecDepth 100000
set_option maxHeartbeats 4000000
/-! G17: what repr writes; defs that are called where no repr is under way. -/
namespace G
open PySem PySem.Spec PyProof.Rows L2
open Rp (rp)
open Ow (ow)
/-- as FnOk, of a call around which no repr is under way -/
structure FnG (P : Program) (w : World) (K : Fg) (mg : Str → Option Value) (base : Heap) (k : Nat) (f : Addr) (fd : FuncData) (ps : List Str) (sp : Sp) : Prop where
  len : ∀ vs H Q E, sp vs H Q E → vs.length = ps.length
  run : ∀ (A : Around) (l : List Env) (s : Shared) (H : Hp) (args : Args) (us : List Value) (vs : List V) (Q : VK) (E : XK), A.guards = some [] → Room k A → Env0 P w K mg base A l s H → BindsTo s fd args (ps.zip us) → Vals vs us → sp vs H Q E →
    codeAny (model P w) A (.call (.ref f) args) (CR CX0 l P w H s Q E) s
theorem fnG_of {P : Program} {w : World} {K : Fg} {mg : Str → Option Value} {base : Heap} {k : Nat} {f : Addr} {x q : Str} {pars : Arguments} {b : List Stmt} {sc : Scope} {v1 v2 v3 v4 v5 v6 v7 : Value} {o1 o2 : Option Addr} {sl : Array (Option Value)} {N ps : List Str} {sp : Sp}
    (lk : K.lookup f = some ⟨v1, o1, .func (PySem.W.fnOf x q pars b sc v2 v3 v4 v5 o2 v6 v7), sl⟩) (cd : PySem.W.codeIn K v6 q = true) (S : FnScope N ps sc) (len : ∀ vs H Q E, sp vs H Q E → vs.length = ps.length)
    (body : ∀ (A : Around) (l : List Env) (s : Shared) (H : Hp) (vs : List V) (Q : VK) (E : XK), (A.deeper (envOfC q sc s.heap.objs.size f v6)).guards = some [] → Room k (A.deeper (envOfC q sc s.heap.objs.size f v6)) → sp vs H Q E →
      ∃ t, PSs (cxOf CX0 P w K mg base N q sc f v6 A l s H E) b t ∧ t { nx := fun _ H' => Q .non H', rt := Q } (start N vs) H) :
    FnG P w K mg base (k + 1) f (PySem.W.fnOf x q pars b sc v2 v3 v4 v5 o2 v6 v7) ps sp := by
  constructor
  · exact len
  intro A l s H args us vs Q E hgd room env bt rv h
  have hlen := len _ _ _ _ h
  have kin : K.In s.heap := env.mod.kin.keeps fun a o e => (env.bs a o e).1
  have nl : s.heap.NoLimit := env.mod.nolimit.keeps fun a o e => (env.bs a o e).1
  have kinds : ∀ z ∈ ps.zip us, sc.names.lookup z.1 = some .local ∨
      (sc.names.lookup z.1 = some .cell ∧ ((cellsFrom (s.heap.objs.size + 1) sc.names []).lookup z.1).isSome = true) := by
    rintro ⟨n, v⟩ hz
    rcases S.par n (List.of_mem_zip hz).1 with c | c
    · exact .inl c
    · exact .inr ⟨c, PySem.W.cellsFrom_some _ _ _ (.inl c)⟩
  have rec_ := PySem.W.codeRec_of kin cd
  refine codeAny_call_function room.depth (kin _ _ lk) rfl S.co S.gen rfl rec_ (bt _ _ _ _ ?_)
  refine wpAny_newFunctionEnv_cells S.kind kinds fun e he s1 y => ?_
  subst he
  refine ⟨nl.keeps y.toInCall.keep, codeAny_func ?_⟩
  obtain ⟨t, ht, hq⟩ := body A l s H vs Q E hgd (room.deeper _) h
  have inv : Inv (cxOf CX0 P w K mg base N q sc f v6 A l s H E) [] (start N vs) H s1 :=
    inv_start S room.hd env hlen rv y
  have close : ∀ {τ : L2.St} {H' : Hp} {v : V} {u : Value} {s' : Shared}, Inv (cxOf CX0 P w K mg base N q sc f v6 A l s H E) [] τ H' s' → RelV v u → Q v H' → CE l P w H s Q u s' := by
    intro τ H' v u s' J r2 q2
    exact ⟨v, H', J.os, J.bare, J.base, J.hok, r2, q2⟩
  have ran := ht.run [] s1 (start N vs) H _ inv hq
  refine wpAny_mono ran (fun fl s' hs => ?_) fun e s' hs => hs
  match fl, hs with
  | .ret u, ⟨v, τ, H', J, r2, q2⟩ => exact close J r2 q2
  | .next, ⟨τ, H', J, q2⟩ => exact close (v := V.non) (u := Value.none) J rfl q2
  | .brk, ⟨_, _, _, z⟩ => exact z.elim
  | .cont, ⟨_, _, _, z⟩ => exact z.elim
section
variable {P : Program} {w : World} {K : Fg} {mg : Str → Option Value} {base : Heap}
theorem funOkG {x q : Str} {st : Stmt} {f : Addr} {fd : FuncData} {N ps : List Str} {k : Nat} {sp : Sp} (F : Fun K x q st f fd) (S : FnScope N ps (defScope st)) (len : ∀ vs H Q E, sp vs H Q E → vs.length = ps.length)
    (body : ∀ (cdv : Value) (A : Around) (l : List Env) (s : Shared) (H : Hp) (vs : List V) (Q : VK) (E : XK), (A.deeper (envOfC q (defScope st) s.heap.objs.size f cdv)).guards = some [] → Room k (A.deeper (envOfC q (defScope st) s.heap.objs.size f cdv)) → sp vs H Q E →
      ∃ t, PSs (cxOf CX0 P w K mg base N q (defScope st) f cdv A l s H E).nox (defBody st) t ∧ t { nx := fun _ H' => Q .non H', rt := Q } (start N vs) H) : FnG P w K mg base (k + 1) f fd ps sp := by
  obtain ⟨_, _, _, _, _, _, cdv, _, _, rfl, lk, hc⟩ := F.ex
  refine fnG_of lk hc S len fun A l s H vs Q E hg hr h => ?_
  obtain ⟨t, h1, h2⟩ := body cdv A l s H vs Q E hg hr h
  exact ⟨t, h1.nox, h2⟩
end
structure CalG (P : Program) (w : World) (K : Fg) (mg : Str → Option Value) (base : Heap) (k : Nat) (x : Str) (ps : List Str) (R : List Slot → RSlot → List Slot → Prop) : Prop where
  ex : ∃ f fd, FnG P w K mg base k f fd ps (Prom K R) ∧ mg x = some (.ref f) ∧ PySem.W.keepIn K (.ref f) = true ∧ Binds K fd ps []
theorem CalG.mk' {P : Program} {w : World} {K : Fg} {mg : Str → Option Value} {base : Heap} {k : Nat} {x : Str} {ps : List Str} {R : List Slot → RSlot → List Slot → Prop} {f : Addr} {fd : FuncData} (h : FnG P w K mg base k f fd ps (Prom K R)) (hm : mg x = some (.ref f)) (hk : PySem.W.keepIn K (.ref f) = true) (hb : Binds K fd ps []) : CalG P w K mg base k x ps R := ⟨f, fd, h, hm, hk, hb⟩
section
variable {X : Cx}
theorem FnG.mono {P : Program} {w : World} {K : Fg} {mg : Str → Option Value} {base : Heap} {j k : Nat} {f : Addr} {fd : FuncData} {ps : List Str} {sp : Sp} (F : FnG P w K mg base j f fd ps sp) (h : j ≤ k) : FnG P w K mg base k f fd ps sp :=
  ⟨F.len, fun A l s H args us vs Q E hg hr => F.run A l s H args us vs Q E hg (hr.mono h)⟩
theorem CalG.pe {k : Nat} {x : Str} {ps : List Str} {R : List Slot → RSlot → List Slot → Prop} {e : Expr} {es : List Expr} {t : TA} {p pos : Pos} (C : CalG X.prog X.w X.K X.mg X.base k x ps R) (hgd : X.A.guards = some []) (hr : Room k X.A) (hg : Gl X x) (ha : PA X (e :: es) t)
    (hdb : (x == ("__debug__" : Str)) = false := by decide) (he : starEach (e :: es) X.env = (false, eval e X.env) :: starEach es X.env := by rfl) (hpl : (backTo pos (starEach es X.env)).any (·.1) = false := by rfl) :
    PE X (.Call (.Name x p) (e :: es) [] pos) (tCall (Prom X.K R) [] E0 t) := by
  obtain ⟨f, fd, F, hm, hk, hb⟩ := C.ex
  constructor
  intro pins s σ H Q I h
  refine wpAny_Call_Name_kw (ld_glob I hg hm ?_ hdb)
  have args := ha.run pos pins s σ H _ I h
  refine PySem.W.callWith_K (h₀ := X.base) I.ok.mod.kin hk (thn args fun us s1 hh => ?_) he hpl
  obtain ⟨vs, H1, I1, r, q⟩ := hh
  rw [List.append_nil] at q
  refine ⟨I1.kIn, ?_⟩
  have hl : us.length = ps.length := by
    rw [← r.length]
    exact F.len _ _ _ _ q
  have b := hb s1 us I1.kIn (by rw [List.append_nil]; exact hl)
  rw [List.append_nil] at b
  refine wpAny_call (codeAny_mono (F.run X.A X.stack s1 H1 ⟨us, []⟩ us vs Q E0 hgd hr I1.env0 b r q) fun res s2 hs => ?_)
  match res, hs with
  | .error e, hs => exact pass0 pins σ H1 s1 e s2 I1 hs
  | .ok (.ret u), hs => exact I1.after hs
  | .ok .next, hs => exact hs.elim
  | .ok .brk, hs => exact hs.elim
  | .ok .cont, hs => exact hs.elim
/-! ### repr -/
def rRepr (K : Fg) : List V → Hp → VK → Prop := fun vs H Q => ∃ (a : Addr) (d : PyData), vs = [.ref a] ∧ Dp K H (.ref a) d ∧ d.showable = true ∧ d.hasDict = false ∧ d.shown.length ≤ sizeLine ∧ d.depth ≤ 60 ∧ Q (.str d.shown) H
theorem cr_repr (hgd : X.A.guards = some []) (hu : X.A.units + 64 < cLine) : CallR X (.builtin "repr") (rRepr X.K) := by
  intro pins s σ H vs us Q I r h
  obtain ⟨a, d, rfl, hd, h1, h2, h3, h4, q⟩ := h
  rw [Vals.ref1 r]
  obtain ⟨as, rd⟩ := Dp.reads I d _ _ hd (show RelV (.ref a) (.ref a) from rfl)
  refine repr_of_reads' rd h1 (PyData.noDict_hsm h2) hgd (by omega) (fun _ _ e => e) (fun h' u tk k => ?_) h3
  exact ⟨.str d.shown, H, I.kept (t' := tk) k, ⟨u, rfl⟩, q⟩
end
/-- what can be shown, and at most how many signs it takes -/
class Sw (α : Type) [DecidableEq α] [Py α] where
  okW : α → Bool
  wt : α → Nat
  shw : ∀ a : α, okW a = true → (Py.toD a).showable = true
  sz : ∀ a : α, okW a = true → (Py.toD a).shown.length ≤ wt a
theorem log_lt {n : Nat} (h : n < 2 ^ 64) : n.log2 < 64 := by
  by_cases h0 : n = 0
  · subst h0; decide
  · exact (Nat.log2_lt h0).mpr h
instance : Sw Int where
  okW := fun i => decide (i.natAbs < 2 ^ 64)
  wt := fun _ => 65
  shw := fun a h => by
    have := log_lt (of_decide_eq_true h)
    show PyData.showable (.int a) = true
    rw [PyData.showable]
    exact decide_eq_true (by omega)
  sz := fun a h => by
    have h1 := log_lt (of_decide_eq_true h)
    have := int_text_length_le (a := a) (k := 64) (by decide) h1
    show (PyData.shown (.int a)).length ≤ 65
    rw [PyData.shown]
    show (Str.ofString (toString a)).length ≤ 65
    rw [PySem.ofString_length]
    exact this
instance : Sw Bool where
  okW := fun _ => true
  wt := fun _ => 5
  shw := fun a _ => by show PyData.showable (.bool a) = true; rw [PyData.showable]
  sz := fun a _ => by
    show (PyData.shown (.bool a)).length ≤ 5
    rw [PyData.shown]
    cases a <;> decide
instance : Sw Str where
  okW := fun x => x.cps.toList.all fun c => decide (c < 16 ^ 8)
  wt := fun x => 10 * x.length + 2
  shw := fun a _ => by show PyData.showable (.str a) = true; rw [PyData.showable]
  sz := fun a h => by
    show (PyData.shown (.str a)).length ≤ _
    rw [PyData.shown]
    exact StrLaws.reprText_len a fun c m => of_decide_eq_true (List.all_eq_true.mp h c m)
def wtL {α : Type} [DecidableEq α] [Py α] [Sw α] : List α → Nat
  | [] => 0
  | x :: xs => Sw.wt x + 2 + wtL xs
theorem shwAll {α : Type} [DecidableEq α] [Py α] [Sw α] : ∀ {xs : List α}, xs.all Sw.okW = true → PyData.showableAll (xs.map Py.toD) = true
  | [], _ => by simp [PyData.showableAll]
  | x :: xs, h => by
    rw [List.all_cons, Bool.and_eq_true] at h
    rw [List.map_cons, PyData.showableAll, Sw.shw x h.1, shwAll h.2]
    rfl
theorem szAll {α : Type} [DecidableEq α] [Py α] [Sw α] : ∀ {xs : List α}, xs.all Sw.okW = true → ((PyData.shownAll (xs.map Py.toD)).map (·.length)).sum + 2 * (PyData.shownAll (xs.map Py.toD)).length ≤ wtL xs
  | [], _ => by simp [PyData.shownAll, wtL]
  | x :: xs, h => by
    rw [List.all_cons, Bool.and_eq_true] at h
    have h1 := Sw.sz x h.1
    have h2 := szAll h.2
    rw [List.map_cons, PyData.shownAll, List.map_cons, List.sum_cons, List.length_cons]
    unfold wtL
    omega
instance {α : Type} [DecidableEq α] [Py α] [Sw α] : Sw (Tup α) where
  okW := fun x => x.l.all Sw.okW
  wt := fun x => wtL x.l + 3
  shw := fun a h => by
    show PyData.showable (.tuple (a.l.map Py.toD)) = true
    rw [PyData.showable]
    exact shwAll h
  sz := fun a h => by
    show (PyData.shown (.tuple (a.l.map Py.toD))).length ≤ _
    rw [PyData.shown]
    have h1 := szAll h
    have h2 := tupleText_len_le (PyData.shownAll (a.l.map Py.toD))
    omega
instance {α : Type} [DecidableEq α] [Py α] [Sw α] : Sw (List α) where
  okW := fun x => x.all Sw.okW
  wt := fun x => wtL x + 3
  shw := fun a h => by
    show PyData.showable (.list (a.map Py.toD)) = true
    rw [PyData.showable]
    exact shwAll h
  sz := fun a h => by
    show (PyData.shown (.list (a.map Py.toD))).length ≤ _
    rw [PyData.shown]
    have h1 := szAll h
    have h2 := listText_len_le (PyData.shownAll (a.map Py.toD))
    omega
class SwF (τ : Type) [DecidableEq τ] [PyFl τ] where
  okF : τ → Bool
  wtF : τ → Nat
  shwF : ∀ a : τ, okF a = true → PyData.showableAll (PyFl.toDs a) = true
  szF : ∀ a : τ, okF a = true → ((PyData.shownAll (PyFl.toDs a)).map (·.length)).sum + 2 * (PyData.shownAll (PyFl.toDs a)).length ≤ wtF a
instance : SwF Unit where
  okF := fun _ => true
  wtF := fun _ => 0
  shwF := fun _ _ => by simp [PyFl.toDs, PyData.showableAll]
  szF := fun _ _ => by simp [PyFl.toDs, PyData.shownAll]
instance {α τ : Type} [DecidableEq α] [Py α] [Sw α] [DecidableEq τ] [PyFl τ] [SwF τ] : SwF (α × τ) where
  okF := fun x => Sw.okW x.1 && SwF.okF x.2
  wtF := fun x => Sw.wt x.1 + 2 + SwF.wtF x.2
  shwF := fun a h => by
    rw [Bool.and_eq_true] at h
    show PyData.showableAll (Py.toD a.1 :: PyFl.toDs a.2) = true
    rw [PyData.showableAll, Sw.shw a.1 h.1, SwF.shwF a.2 h.2]
    rfl
  szF := fun a h => by
    rw [Bool.and_eq_true] at h
    have h1 := Sw.sz a.1 h.1
    have h2 := SwF.szF a.2 h.2
    show ((PyData.shownAll (Py.toD a.1 :: PyFl.toDs a.2)).map (·.length)).sum + 2 * (PyData.shownAll (Py.toD a.1 :: PyFl.toDs a.2)).length ≤ _
    rw [PyData.shownAll, List.map_cons, List.sum_cons, List.length_cons]
    omega
instance {τ : Type} [DecidableEq τ] [PyFl τ] [SwF τ] : Sw (HT τ) where
  okW := fun x => SwF.okF x.x
  wt := fun x => SwF.wtF x.x + 3
  shw := fun a h => by
    show PyData.showable (.tuple (PyFl.toDs a.x)) = true
    rw [PyData.showable]
    exact SwF.shwF a.x h
  sz := fun a h => by
    show (PyData.shown (.tuple (PyFl.toDs a.x))).length ≤ _
    rw [PyData.shown]
    have h1 := SwF.szF a.x h
    have h2 := tupleText_len_le (PyData.shownAll (PyFl.toDs a.x))
    omega
instance {α β : Type} [DecidableEq α] [Py α] [Sw α] [DecidableEq β] [Py β] [Sw β] : Sw (α × β) where
  okW := fun x => Sw.okW x.1 && Sw.okW x.2
  wt := fun x => Sw.wt x.1 + Sw.wt x.2 + 7
  shw := fun a h => by
    rw [Bool.and_eq_true] at h
    show PyData.showable (.tuple [Py.toD a.1, Py.toD a.2]) = true
    rw [PyData.showable, PyData.showableAll, PyData.showableAll, PyData.showableAll, Sw.shw a.1 h.1, Sw.shw a.2 h.2]
    rfl
  sz := fun a h => by
    rw [Bool.and_eq_true] at h
    have h1 := Sw.sz a.1 h.1
    have h2 := Sw.sz a.2 h.2
    show (PyData.shown (.tuple [Py.toD a.1, Py.toD a.2])).length ≤ _
    rw [PyData.shown]
    have h3 := tupleText_len_le (PyData.shownAll [Py.toD a.1, Py.toD a.2])
    rw [PyData.shownAll, PyData.shownAll, PyData.shownAll] at h3 ⊢
    simp only [List.map_cons, List.map_nil, List.sum_cons, List.sum_nil, List.length_cons, List.length_nil] at h3
    omega
def reprO {α : Type} [DecidableEq α] [Py α] [Sw α] (x : α) : Option Str := if Py.okD x && (Sw.okW x && decide (Sw.wt x ≤ 1000000)) then some (Py.toD x).shown else none
section
variable {K : Fg} {B : Base} {F H : Hp} {w : List (Option V)} {M : List Slot} {Q : VK} {α : Type} [DecidableEq α] [Py α] [Sw α]
theorem S_repr {x : α} {a : Addr} {z : Str} (hv : ViewD K H (.ref a) x) (hm : reprO x = some z) (hd : Py.dep α ≤ 60) (q : Q (.str z) H) : rRepr K [.ref a] H Q := by
  unfold reprO at hm
  split at hm
  · rename_i hc
    have e := Option.some.inj hm
    subst e
    rw [Bool.and_eq_true, Bool.and_eq_true] at hc
    have h1 := Sw.sz x hc.2.1
    have h2 := of_decide_eq_true hc.2.2
    have hs : sizeLine = 16777216 := sizeLine_eq
    exact ⟨a, _, rfl, hv, Sw.shw x hc.2.1, PyData.hasDict_of_canLay _ (Py.lay x hc.1), by omega, Nat.le_trans (Py.dpt x) hd, q⟩
  · cases hm
end
end G

set_option Elab.async false
set_option linter.all false
set_option maxRecDepth 100000
set_option maxHeartbeats 4000000
/-! G18: the law's end where its def writes by repr. -/
namespace G
open PySem PySem.Spec PyProof.Rows L2
section
variable {P : Program} {w : World} {K : Fg} {mg mb : Str → Option Value} {k : Nat} {fa a : Addr} {fd : FuncData} {x : Str} {sp : Sp} {s : Shared} {vs : List Value} {ns : List Int}
/-- the law's call, H telling of the script at most -/
theorem callG_at (kin : K.In s.heap) (gl : s.heap.Ns mainGlobals mg) (bl : s.heap.Ns builtinsNs mb) (bb : ∀ x : Str, x ≠ "__name__" → mb x = bootBuiltins x) (nl : s.heap.NoLimit) (gens : s.gens = #[])
    (scr : s.heap.get? a = some { cls := .type "list", data := .seq vs.toArray }) (hr : Room k callerA)
    (F : ∀ base : Heap, K.In base → base.Ns mainGlobals mg → FnG P w K mg base k fa fd [x] sp) (bind : ∀ (s : Shared) (u : Value), BindsTo s fd ⟨[u], []⟩ [(x, u)])
    {H : Hp} (only : Only H) (h : sp [.ref a] H (fun v _ => v = .bl true) fun _ _ _ => False) (ok : HOk P w H s.heap) (at_ : ∀ b, H b ≠ none → b = a) (out : H a ≠ none → K.lookup a = none) :
    codeAny (model P w) callerA (.call (.ref fa) ⟨[.ref a], []⟩) (fun r t => r = .ok (.ret (.bool true)) ∧ OldK s.heap t.heap ∧ t.os = s.os ∧ AllBare t.gens) s := by
  have hid : ∀ {b : Addr} {o : Obj}, s.heap.get? b = some o → H b = none → (hidT s.heap H).get? b = some o := hidT_get
  have nodict : ∀ {b : Addr} {o : Obj} {es : Array DictEntry} {ep : Nat}, s.heap.get? b = some o → o.data = .dict es ep → H b = none := by
    intro b o es ep e d
    by_cases q : H b = none
    · exact q
    · have e' := at_ b q
      subst e'
      rw [scr] at e
      cases e
      have d : Data.seq vs.toArray _ = Data.dict es ep := d
      cases d
  have names : ∀ {b : Addr} {m : Str → Option Value}, s.heap.Ns b m → (hidT s.heap H).Ns b m := by
    rintro b m ⟨o, es, ep, e, d, r⟩
    exact ⟨o, es, ep, hid e (nodict e d), d, r⟩
  have kin' : K.In (hidT s.heap H) := by
    intro b o e
    refine hid (kin b o e) ?_
    by_cases q : H b = none
    · exact q
    · have e' := at_ b q
      subst e'
      rw [out q] at e
      cases e
  obtain ⟨mc, n1, n2⟩ := nl
  have mod : Mod K mg (hidT s.heap H) := ⟨kin', names gl, ⟨mb, names bl, bb⟩, mc, names n1, n2⟩
  have env : Env0 P w K mg (hidT s.heap H) callerA [] s H := by
    refine ⟨rfl, mod, fun b o e => of_hidT e, Nat.le_of_eq (hidT_size _ _), trivial, fun b m => ?_, ok, .of_eq gens⟩
    cases m
  have ran := (F _ kin' (names gl)).run callerA [] s H ⟨[.ref a], []⟩ [.ref a] [.ref a] _ _ rfl hr env (bind s (.ref a)) (.cons rfl .nil) h
  refine codeAny_mono ran fun r t hs => ?_
  match r, hs with
  | .error e, hs => exact hs.elim
  | .ok .next, hs => exact hs.elim
  | .ok .brk, hs => exact hs.elim
  | .ok .cont, hs => exact hs.elim
  | .ok (.ret u), ⟨v, H', os, bare, un, ok', ru, q⟩ =>
    have q : v = .bl true := q
    subst q
    obtain rfl : u = Value.bool true := ru
    refine ⟨rfl, OldK.of_keep fun b o e => ?_, os, bare⟩
    rcases only b with z | ⟨o', xs, z⟩
    · exact un.keep b o e z (fun m => by cases m) fun m => by cases m
    · have z' := un.frzs b o' _ z
      obtain ⟨e1, _⟩ := ok b _ z
      obtain ⟨e2, _⟩ := ok' b _ z'
      rw [e] at e1
      cases e1
      exact e2
theorem callG (kin : K.In s.heap) (gl : s.heap.Ns mainGlobals mg) (bl : s.heap.Ns builtinsNs mb) (bb : ∀ x : Str, x ≠ "__name__" → mb x = bootBuiltins x) (nl : s.heap.NoLimit) (gens : s.gens = #[])
    (scr : s.heap.get? a = some { cls := .type "list", data := .seq vs.toArray }) (intsA : IntsAre vs ns) (len : ns.length ≤ sizeLine) (hr : Room k callerA)
    (F : ∀ base : Heap, K.In base → base.Ns mainGlobals mg → FnG P w K mg base k fa fd [x] sp) (bind : ∀ (s : Shared) (u : Value), BindsTo s fd ⟨[u], []⟩ [(x, u)])
    (h : ∀ H : Hp, Only H → SqL K H a (ns.map V.int) → sp [.ref a] H (fun v _ => v = .bl true) fun _ _ _ => False) :
    codeAny (model P w) callerA (.call (.ref fa) ⟨[.ref a], []⟩) (fun r t => r = .ok (.ret (.bool true)) ∧ OldK s.heap t.heap ∧ t.os = s.os ∧ AllBare t.gens) s := by
  have rv := vals_ints intsA
  have hl := intsA.length
  by_cases hk : K.lookup a = none
  · let O : Obj := { cls := .type "list", data := .seq vs.toArray }
    let H : Hp := fun b => if b = a then some (.frz O (.lst (ns.map V.int))) else none
    have ha : H a = some (.frz O (.lst (ns.map V.int))) := if_pos rfl
    have hn : ∀ b, b ≠ a → H b = none := fun b e => if_neg e
    have only : Only H := fun b => by
      by_cases e : b = a
      · exact .inr ⟨O, _, by rw [e]; exact ha⟩
      · exact .inl (hn b e)
    refine callG_at kin gl bl bb nl gens scr hr F bind only (h H only (.inl (.inr ⟨O, ha⟩))) (fun b u z => ?_) (fun b z => ?_) fun _ => hk
    · by_cases e : b = a
      · subst e
        rw [ha] at z
        cases z
        exact ⟨scr, by rw [List.length_map]; exact len, vs, _, rv, scr⟩
      · rw [hn b e] at z
        cases z
    · by_cases e : b = a
      · exact e
      · exact absurd (hn b e) z
  · obtain ⟨o, ho⟩ := Option.ne_none_iff_exists'.mp hk
    have e := kin a o ho
    rw [scr] at e
    cases e
    have only : Only (fun _ => none) := fun _ => .inl rfl
    have sq : SqL K (fun _ => none) a (ns.map V.int) := .inr ⟨_, vs.toArray, _, ho, rfl, rfl, rfl, by rw [List.size_toArray, hl]; exact len, by simpa using rv⟩
    exact callG_at kin gl bl bb nl gens scr hr F bind only (h _ only sq) (fun b u z => by cases z) (fun b z => absurd rfl z) fun z => absurd rfl z
end
theorem walk_G {l : PySem.W.OpenLaw} {n k : Nat} {q : Program} {loose : List Str} {XP : (Str → Option Value) → Heap → Prop} {YP : World → Heap → Prop} {d : DefRec} {K : Params → PySem.W.Frag} {sp : World → Sp} {x : Str}
    (most : l.most = some n) (line : n ≤ sizeLine) (nod : d.params.defaults = []) (hr : Room k callerA) (kin : ∀ (w : World) (h : Heap), YP w h → (K w.params).In h)
    (F : ∀ (w : World) (mg : Str → Option Value) (fa : Addr) (h : Heap), (K w.params).In h → h.Ns mainGlobals mg → mg d.name = some (.ref fa) →
      ∃ fd : FuncData, (∀ (s : Shared) (u : Value), BindsTo s fd ⟨[u], []⟩ [(x, u)]) ∧ ∀ base : Heap, (K w.params).In base → base.Ns mainGlobals mg → FnG l.prog w (K w.params) mg base k fa fd [x] (sp w))
    (hsp : ∀ (w : World) (H : Hp) (a : Addr) (ns : List Int), ns.length ≤ n → Only H → SqL (K w.params) H a (ns.map V.int) → sp w [.ref a] H (fun v _ => v = .bl true) fun _ _ _ => False) :
    PySem.W.WalkO q loose XP YP l.row.toRowW d [] (fun f vs => PySem.call f vs) := by
  refine Att.attach_call most nod fun w s0 s1 mg mb fa o pm cd doc a vs ns G Y ho hd hcd hmg scr intsA len gens => ?_
  have KX := kin w _ Y
  obtain ⟨fd, bind, hF⟩ := F w mg fa _ KX G.T.g hmg
  exact callG KX G.T.g G.T.b G.T.builtins G.T.nolimit gens scr intsA (Nat.le_trans len line) hr hF bind fun H only sq => hsp w H a ns len only sq
end G

set_option Elab.async false
set_option linter.all false
set_option maxRecDepth 100000
set_option maxHeartbeats 4000000
/-! G19: what printed proofs say of things of one's own within things of one's own. -/
namespace G
open PySem PySem.Spec PyProof.Rows L2
open Rp (rp)
open Ow (ow)
section
variable {K : Fg} {B : Base} {F H F' H' : Hp} {w : List (Option V)} {σ : L2.St} {M A A' : List Slot} {Q : VK} {α β γ τ : Type}
theorem S_varT {s : Sh α} {g : s.G} {x : α} (n : Nat) {k : Nat} (h : St K B F H w M) (hw : w.drop n = σ) (hM : M[n + k]? = some (.tree s g x)) (q : Q (s.root g) H) : tVar k σ H Q := by
  obtain ⟨o, e, hs⟩ := h.ok.at hM
  exact ⟨_, by rw [drop_at hw, e, hs.1], q⟩
/-- a list within a list (a tuple) of one's own, to be read -/
theorem St.vN [Rp β] {g : Addr × List Addr} {x : List (List β)} {y : List β} {a : Addr} {j : Nat} (h : St K B F H w M) (k : Nat) (hM : M[k]? = some (.tree (lstS (flat (List β))) g x)) (e2 : x[j]? = some y) (e3 : g.2[j]? = some a) : ViewL K F H (.ref a) y := by
  obtain ⟨o, _, hs⟩ := h.ok.at hM
  exact view_flat (Paired.both hs.2.2.2.2 e3 e2)
theorem St.vM [Rp β] {g : Addr × List Addr} {x : Tup (List β)} {y : List β} {a : Addr} {j : Nat} (h : St K B F H w M) (k : Nat) (hM : M[k]? = some (.tree (tupS (flat (List β))) g x)) (e2 : x.l[j]? = some y) (e3 : g.2[j]? = some a) : ViewL K F H (.ref a) y := by
  obtain ⟨o, _, hs⟩ := h.ok.at hM
  exact view_flat (Paired.both hs.2.2.2.2 e3 e2)
theorem set_self {l : List α} {j : Nat} {a : α} (h : l[j]? = some a) : l.set j a = l := by
  obtain ⟨hj, e⟩ := List.getElem?_eq_some_iff.mp h
  rw [← e, List.set_getElem_self]
theorem St.unfocusF {ob : List V → HO} {s : Sh α} {g : Addr × List s.G} {x : List α} {y' : α} {a : s.G} {i : Nat} {o : Option V} (h : St K B F H (o :: w) (.tree s a y' :: M)) (k : Nat) (hM : M[k]? = some (.tree (holS ob s i) g x)) (ha : g.2[i]? = some a) : St K B F H w (M.set k (.tree (seqS ob s) g (x.set i y'))) := by
  have h1 := h.unfocus k hM ha rfl
  rw [set_self ha] at h1
  exact h1
theorem St.focusM {s : Sh α} {g : Addr × List s.G} {x : Tup α} {y : α} {a : s.G} {i : Nat} (h : St K B F H w M) (k : Nat) (hM : M[k]? = some (.tree (tupS s) g x)) (hx : x.l[i]? = some y) (ha : g.2[i]? = some a) : St K B F H (some (s.root a) :: w) (.tree s a y :: M.set k (.tree (holS HO.tup s i) g x.l)) := by
  have h1 := h.reT (s' := seqS HO.tup s) (g' := g) (y := x.l) k hM rfl (.refl _) fun z => z
  have h2 := h1.focus k (List.getElem?_set_self (at_lt hM)) hx ha
  rwa [List.set_set] at h2
theorem St.unfocusM {s : Sh α} {g : Addr × List s.G} {x : List α} {y' : α} {a : s.G} {i : Nat} {o : Option V} (h : St K B F H (o :: w) (.tree s a y' :: M)) (k : Nat) (hM : M[k]? = some (.tree (holS HO.tup s i) g x)) (ha : g.2[i]? = some a) : St K B F H w (M.set k (.tree (tupS s) g (Tup.mk (x.set i y')))) := by
  have h1 := h.unfocusF k hM ha
  have h2 := h1.reT (s' := tupS s) (g' := g) (y := Tup.mk (x.set i y')) k (List.getElem?_set_self (at_lt hM)) rfl (.refl _) fun z => z
  rwa [List.set_set] at h2
/-- (a, b), both of one's own -/
theorem S_tup2T {s : Sh α} {g1 g2 : s.G} {y1 y2 : α} {o1 o2 : Option V} (h : St K B F H (o2 :: o1 :: w) (.tree s g2 y2 :: .tree s g1 y1 :: M)) (h1 : ∀ a ∈ s.ads g1, B.H a = none) (h2 : ∀ a ∈ s.ads g2, B.H a = none)
    (q : ∀ (g : Addr × List s.G) F' H', (∀ a ∈ (tupS s).ads g, B.H a = none) → St K B F' H' (some (.ref g.1) :: w) (.tree (tupS s) g (Tup.mk [y1, y2]) :: M) → Q (.ref g.1) H') : TupG [s.root g1, s.root g2] H Q := by
  refine ⟨by show 2 ≤ sizeLine; decide, fun p hp => q (p, [g1, g2]) F _ (fun a m => ?_) ?_⟩
  · have m : a ∈ p :: (s.ads g1 ++ (s.ads g2 ++ [])) := m
    rw [List.append_nil] at m
    rcases List.mem_cons.mp m with e | m
    · rw [e]; exact h.freshB hp
    · rcases List.mem_append.mp m with m | m
      · exact h1 a m
      · exact h2 a m
  · have hx := h.mk2 (ob := HO.tup) hp
    exact hx.reT 0 rfl (s' := tupS s) (g' := (p, [g1, g2])) (y := Tup.mk [y1, y2]) rfl (.refl _) fun z => z
theorem St.finT {s : Sh α} {g : s.G} {x : α} {o : Option V} (h : St K B F H (o :: w) (.tree s g x :: M)) (hB : ∀ a ∈ s.ads g, B.H a = none) (a : AftM K F H M A') : Fin K B (.tree s x) A' (s.root g) F H := h.finO hB a
theorem hb1 [Ow β] {a : Addr} (h : B.H a = none) : ∀ c ∈ (flat β).ads a, B.H c = none := fun c m => by rw [List.mem_singleton.mp m]; exact h
theorem ty_tupS {s : Sh α} {g : Addr × List s.G} {x : Tup α} (h : St K B F H w M) (k : Nat) (hM : M[k]? = some (.tree (tupS s) g x)) : TyX K H (.ref g.1) (.type "tuple") := by
  obtain ⟨o, _, hs⟩ := h.ok.at hM
  exact .base (.tup hs.2.2.1)
theorem ty_lstS {s : Sh α} {g : Addr × List s.G} {x : List α} (h : St K B F H w M) (k : Nat) (hM : M[k]? = some (.tree (lstS s) g x)) : TyX K H (.ref g.1) (.type "list") := by
  obtain ⟨o, _, hs⟩ := h.ok.at hM
  exact .base (.lst hs.2.2.1)
theorem S_lenTS {s : Sh α} {g : Addr × List s.G} {x : Tup α} (h : St K B F H w M) (k : Nat) (hM : M[k]? = some (.tree (tupS s) g x)) (q : Q (.int (x.l.length : Int)) H) : rLenG K [.ref g.1] H Q := by
  obtain ⟨o, _, hs⟩ := h.ok.at hM
  exact ⟨g.1, _, rfl, .inr (.inl (.inl hs.2.2.1)), by rw [List.length_map, Paired.length hs.2.2.2.2]; exact q⟩
theorem S_lenLS {s : Sh α} {g : Addr × List s.G} {x : List α} (h : St K B F H w M) (k : Nat) (hM : M[k]? = some (.tree (lstS s) g x)) (q : Q (.int (x.length : Int)) H) : rLenG K [.ref g.1] H Q := by
  obtain ⟨o, _, hs⟩ := h.ok.at hM
  exact ⟨g.1, _, rfl, .inl (.inl (.inl hs.2.2.1)), by rw [List.length_map, Paired.length hs.2.2.2.2]; exact q⟩
/-- what is one's own, as data -/
theorem dAll {s : Sh α} [DecidableEq α] [Py α] (c : Fz s) (e : Ex F H) {gs : List s.G} {xs : List α} (h : Paired (s.ok K F H) gs xs) : DpAll K H (gs.map s.root) (xs.map Py.toD) :=
  dpall (conv_all c e (fun _ _ _ _ => rfl) h)
theorem dTS {s : Sh α} [DecidableEq α] [Py α] (c : Fz s) {g : Addr × List s.G} {x : Tup α} (h : St K B F H w M) (k : Nat) (hM : M[k]? = some (.tree (tupS s) g x)) : ViewD K H (.ref g.1) x := by
  obtain ⟨o, _, hs⟩ := h.ok.at hM
  exact .tup (.inl (.inl hs.2.2.1)) (dAll c h.fh hs.2.2.2.2)
theorem dLS {s : Sh α} [DecidableEq α] [Py α] (c : Fz s) {g : Addr × List s.G} {x : List α} (h : St K B F H w M) (k : Nat) (hM : M[k]? = some (.tree (lstS s) g x)) : ViewD K H (.ref g.1) x := by
  obtain ⟨o, _, hs⟩ := h.ok.at hM
  exact .lst (.inl (.inl hs.2.2.1)) (dAll c h.fh hs.2.2.2.2)
theorem setL_at {x z : List α} {i : Int} {j : Nat} {y : α} (e : ixN x.length i = some j) (h : setL x i y = some z) : z = x.set j y := by
  unfold setL at h
  rw [e] at h
  exact (Option.some.inj h).symm
theorem St.unfocusZ {ob : List V → HO} {s : Sh α} {g : Addr × List s.G} {x z : List α} {y' : α} {a : s.G} {i : Nat} {ix : Int} {o : Option V} (h : St K B F H (o :: w) (.tree s a y' :: M)) (k : Nat) (hM : M[k]? = some (.tree (holS ob s i) g x)) (ha : g.2[i]? = some a) (e1 : ixN x.length ix = some i) (hz : setL x ix y' = some z) : St K B F H w (M.set k (.tree (seqS ob s) g z)) := by
  rw [setL_at e1 hz]
  exact h.unfocusF k hM ha
theorem St.unfocusY {s : Sh α} {g : Addr × List s.G} {x z : List α} {y' : α} {a : s.G} {i : Nat} {ix : Int} {o : Option V} (h : St K B F H (o :: w) (.tree s a y' :: M)) (k : Nat) (hM : M[k]? = some (.tree (holS HO.tup s i) g x)) (ha : g.2[i]? = some a) (e1 : ixN x.length ix = some i) (hz : setL x ix y' = some z) : St K B F H w (M.set k (.tree (tupS s) g (Tup.mk z))) := by
  rw [setL_at e1 hz]
  exact h.unfocusM k hM ha
theorem S_reverse [Rp α] {xs : List α} {a : Addr} (i : Nat) (h : St K B F H w M) (hM : M[i]? = some (.own a xs)) (q : ∀ H', St K B F H' w (M.set i (.own a xs.reverse)) → Q .non H') : rReverse (.ref a) [] H Q := by
  obtain ⟨_, _, ob, g2, vs, rfl, g4, g5⟩ := h.own i hM
  refine ⟨a, vs, rfl, rfl, g2, q _ (h.setO i hM ⟨vs.reverse, rfl, by rw [List.length_reverse]; exact g4, ?_⟩)⟩
  have rv : ∀ {vs : List V} {xs : List α}, Paired (rp K F) vs xs → Paired (rp K F) vs.reverse xs.reverse := by
    intro vs
    induction vs with
    | nil => intro xs h; cases h; exact .nil
    | cons v vs ih =>
      intro xs h
      cases h with
      | cons r t =>
        rw [List.reverse_cons, List.reverse_cons]
        exact paired_snoc r (ih t)
  exact rv g5
def popL (xs : List α) : Option (α × List α) := (xs[xs.length - 1]?).bind fun y => some (y, xs.dropLast)
theorem paired_dropLast {R : V → α → Prop} : ∀ {vs : List V} {xs : List α}, Paired R vs xs → Paired R vs.dropLast xs.dropLast
  | _, _, .nil => .nil
  | _, _, .cons r .nil => .nil
  | _, _, .cons r (.cons r2 t) => .cons r (paired_dropLast (.cons r2 t))
theorem S_pop [Rp α] {xs : List α} {z : α × List α} {a : Addr} (i : Nat) (h : St K B F H w M) (hM : M[i]? = some (.own a xs)) (hm : popL xs = some z) (q : ∀ u H', St K B F H' (some u :: w) (.fz z.1 :: M.set i (.own a z.2)) → Q u H') : rPop (.ref a) [] H Q := by
  obtain ⟨y, hy, hm⟩ := ob hm
  have e := Option.some.inj hm
  subst e
  obtain ⟨_, _, ob, g2, vs, rfl, g4, g5⟩ := h.own i hM
  have hl : vs.length = xs.length := Paired.length g5
  obtain ⟨v, h1, h2⟩ := Paired.at g5 hy
  refine ⟨a, vs, v, rfl, rfl, g2, by rw [hl]; exact h1, q v _ ((h.setO i hM ⟨vs.dropLast, rfl, by rw [List.length_dropLast]; omega, paired_dropLast g5⟩).push h2)⟩
def idxO [DecidableEq α] [Py α] (xs : List α) (x : α) : Option Int := if xs.all Py.okD && Py.okD x then (xs.findIdx? fun z => decide (z = x)).bind fun j => some (j : Int) else none
theorem S_indexD [DecidableEq α] [Py α] {xs : List α} {x : α} {v u : V} {n : Int} (h : St K B F H w M) (hv : ViewL K F H v xs) (hu : ViewD K H u x) (hm : idxO xs x = some n) (hd : Py.dep α ≤ 50) (q : Q (.int n) H) : rIndexD K v [u] H Q := by
  unfold idxO at hm
  split at hm
  · rename_i hc
    rw [Bool.and_eq_true] at hc
    obtain ⟨j, hj, hm⟩ := ob hm
    have e := Option.some.inj hm
    subst e
    obtain ⟨hlt, hp, hn⟩ := List.findIdx?_eq_some_iff_getElem.mp hj
    have hD := dL h hv
    obtain ⟨a, vs, rfl, h2, h3, h4⟩ := hv
    have e1 : ∀ (m : Nat) (z : PyData), (xs.map Py.toD)[m]? = some z → ∃ y, xs[m]? = some y ∧ z = Py.toD y := fun m z e => by
      rw [List.getElem?_map] at e
      cases q : xs[m]? with
      | none => rw [q] at e; cases e
      | some y => rw [q] at e; exact ⟨y, rfl, (Option.some.inj e).symm⟩
    refine ⟨a, u, Py.toD x, xs.map Py.toD, j, Py.toD xs[j], rfl, rfl, hD, hu, shaped_of (α := List α) (x := xs) hc.1 (show Py.dep α + 1 ≤ 60 by omega), shaped_of hc.2 (by omega), ?_, ?_, fun m z hm hz => ?_, q⟩
    · rw [List.getElem?_map, List.getElem?_eq_getElem hlt]
      rfl
    · rw [Py.eqv]
      exact hp
    · obtain ⟨y, hy, rfl⟩ := e1 m z hz
      obtain ⟨hml, e⟩ := List.getElem?_eq_some_iff.mp hy
      have := hn m hm
      rw [Py.eqv, ← e]
      simpa using this
  · cases hm
theorem isref_L [Rp α] {v : V} {x : List α} (h : rp K F v x) : ∃ a, v = .ref a := ⟨_, h.choose_spec.choose_spec.1⟩
theorem isref_T [Rp α] {v : V} {x : Tup α} (h : rp K F v x) : ∃ a, v = .ref a := ⟨_, h.choose_spec.choose_spec.1⟩
theorem isref_P [Rp α] [Rp β] {v : V} {x : α × β} (h : rp K F v x) : ∃ a, v = .ref a := ⟨_, h.choose_spec.choose_spec.choose_spec.1⟩
theorem isref_H [Flds τ] {v : V} {x : HT τ} (h : rp K F v x) : ∃ a, v = .ref a := ⟨_, h.choose_spec.choose_spec.1⟩
/-- a thing of one's own, read at the heap itself -/
theorem ok_trH [Rp α] {s : Sh α} (c : Fz s) {g : s.G} {x : α} (h : St K B F H w M) (k : Nat) (hM : M[k]? = some (.tree s g x)) : SlotOk K H H (some (s.root g)) (.fz x) := by
  obtain ⟨o, _, hs⟩ := h.ok.at hM
  exact ⟨_, rfl, c.conv h.fh (fun _ _ => rfl) hs.2.2⟩
end
end G

set_option Elab.async false
set_option linter.all false
set_option maxRecDepth 100000
namespace G
open PySem PySem.Spec PyProof.Rows L2
open Rp (rp)
open Ow (ow)
/-! ### unpacking -/
def un2 {α : Type} : List α → Option (α × α)
  | [a, b] => some (a, b)
  | _ => none
def un3 {α : Type} : List α → Option (α × α × α)
  | [a, b, c] => some (a, b, c)
  | _ => none
def un4 {α : Type} : List α → Option (α × α × α × α)
  | [a, b, c, d] => some (a, b, c, d)
  | _ => none
theorem un2_eq {α : Type} {x : List α} {p : α × α} (h : un2 x = some p) : x = [p.1, p.2] := by
  match x, h with
  | [a, b], h => cases h; rfl
theorem un3_eq {α : Type} {x : List α} {p : α × α × α} (h : un3 x = some p) : x = [p.1, p.2.1, p.2.2] := by
  match x, h with
  | [a, b, c], h => cases h; rfl
theorem un4_eq {α : Type} {x : List α} {p : α × α × α × α} (h : un4 x = some p) : x = [p.1, p.2.1, p.2.2.1, p.2.2.2] := by
  match x, h with
  | [a, b, c, d], h => cases h; rfl
section
variable {K : Fg} {B : Base} {F H : Hp} {w : List (Option V)} {σ : L2.St} {M : List Slot} {Q : VK} {α τ τ2 τ3 : Type} {gr : TGs} {QG : L2.St → Hp → Prop}
theorem paired2 {R : α → V → Prop} {vs : List V} {a b : α} {P : V → α → Prop} (h : Paired P vs [a, b]) : ∃ v1 v2, vs = [v1, v2] ∧ P v1 a ∧ P v2 b := by
  cases h with | cons h1 h => cases h with | cons h2 h => cases h; exact ⟨_, _, rfl, h1, h2⟩
theorem paired3 {vs : List V} {a b c : α} {P : V → α → Prop} (h : Paired P vs [a, b, c]) : ∃ v1 v2 v3, vs = [v1, v2, v3] ∧ P v1 a ∧ P v2 b ∧ P v3 c := by
  cases h with | cons h1 h => cases h with | cons h2 h => cases h with | cons h3 h => cases h; exact ⟨_, _, _, rfl, h1, h2, h3⟩
theorem paired4 {vs : List V} {a b c d : α} {P : V → α → Prop} (h : Paired P vs [a, b, c, d]) : ∃ v1 v2 v3 v4, vs = [v1, v2, v3, v4] ∧ P v1 a ∧ P v2 b ∧ P v3 c ∧ P v4 d := by
  cases h with | cons h1 h => cases h with | cons h2 h => cases h with | cons h3 h => cases h with | cons h4 h => cases h; exact ⟨_, _, _, _, rfl, h1, h2, h3, h4⟩
variable [Rp α]
theorem S_gT2 {x : Tup α} {v : V} {p : α × α} (h : St K B F H w M) (hv : rp K F v x) (hm : un2 x.l = some p) (q : ∀ v1 v2, St K B F H (some v2 :: some v1 :: w) (.fz p.2 :: .fz p.1 :: M) → gr [v1, v2] σ H QG) : gTup K 2 gr v σ H QG := by
  obtain ⟨a, vs, rfl, h2, h3, h4⟩ := hv
  rw [un2_eq hm] at h4
  obtain ⟨v1, v2, rfl, g1, g2⟩ := paired2 (R := fun _ _ => True) h4
  exact ⟨a, [v1, v2], rfl, ex_t h.fh h2.sq, rfl, q v1 v2 ((h.push g1).push g2)⟩
theorem S_gL2 {x : List α} {v : V} {p : α × α} (h : St K B F H w M) (hv : ViewL K F H v x) (hm : un2 x = some p) (q : ∀ v1 v2, St K B F H (some v2 :: some v1 :: w) (.fz p.2 :: .fz p.1 :: M) → gr [v1, v2] σ H QG) : gLst K 2 gr v σ H QG := by
  obtain ⟨a, vs, rfl, h2, h3, h4⟩ := hv
  rw [un2_eq hm] at h4
  obtain ⟨v1, v2, rfl, g1, g2⟩ := paired2 (R := fun _ _ => True) h4
  exact ⟨a, [v1, v2], rfl, .inl (.inl h2), rfl, q v1 v2 ((h.push g1).push g2)⟩
theorem S_gT3 {x : Tup α} {v : V} {p : α × α × α} (h : St K B F H w M) (hv : rp K F v x) (hm : un3 x.l = some p) (q : ∀ v1 v2 v3, St K B F H (some v3 :: some v2 :: some v1 :: w) (.fz p.2.2 :: .fz p.2.1 :: .fz p.1 :: M) → gr [v1, v2, v3] σ H QG) : gTup K 3 gr v σ H QG := by
  obtain ⟨a, vs, rfl, h2, h3, h4⟩ := hv
  rw [un3_eq hm] at h4
  obtain ⟨v1, v2, v3, rfl, g1, g2, g3⟩ := paired3 h4
  exact ⟨a, [v1, v2, v3], rfl, ex_t h.fh h2.sq, rfl, q v1 v2 v3 (((h.push g1).push g2).push g3)⟩
theorem S_gL3 {x : List α} {v : V} {p : α × α × α} (h : St K B F H w M) (hv : ViewL K F H v x) (hm : un3 x = some p) (q : ∀ v1 v2 v3, St K B F H (some v3 :: some v2 :: some v1 :: w) (.fz p.2.2 :: .fz p.2.1 :: .fz p.1 :: M) → gr [v1, v2, v3] σ H QG) : gLst K 3 gr v σ H QG := by
  obtain ⟨a, vs, rfl, h2, h3, h4⟩ := hv
  rw [un3_eq hm] at h4
  obtain ⟨v1, v2, v3, rfl, g1, g2, g3⟩ := paired3 h4
  exact ⟨a, [v1, v2, v3], rfl, .inl (.inl h2), rfl, q v1 v2 v3 (((h.push g1).push g2).push g3)⟩
theorem ht5 {α2 α3 α4 α5 : Type} [Rp α2] [Rp α3] [Rp α4] [Rp α5] {x : HT (α × α2 × α3 × α4 × α5 × Unit)} {v : V} (h : St K B F H w M) (hv : rp K F v x) (q : ∀ v1 v2 v3 v4 v5, St K B F H (some v5 :: some v4 :: some v3 :: some v2 :: some v1 :: w) (.fz x.x.2.2.2.2.1 :: .fz x.x.2.2.2.1 :: .fz x.x.2.2.1 :: .fz x.x.2.1 :: .fz x.x.1 :: M) → gr [v1, v2, v3, v4, v5] σ H QG) : gTup K 5 gr v σ H QG := by
  obtain ⟨a, vs, rfl, h2, v1, r1, rfl, h3, v2, r2, rfl, h4, v3, r3, rfl, h5, v4, r4, rfl, h6, v5, r5, rfl, h7, rfl⟩ := hv
  exact ⟨a, [v1, v2, v3, v4, v5], rfl, ex_t h.fh h2.sq, rfl, q v1 v2 v3 v4 v5 (((((h.push h3).push h4).push h5).push h6).push h7)⟩
theorem ht6 {α2 α3 α4 α5 α6 : Type} [Rp α2] [Rp α3] [Rp α4] [Rp α5] [Rp α6] {x : HT (α × α2 × α3 × α4 × α5 × α6 × Unit)} {v : V} (h : St K B F H w M) (hv : rp K F v x) (q : ∀ v1 v2 v3 v4 v5 v6, St K B F H (some v6 :: some v5 :: some v4 :: some v3 :: some v2 :: some v1 :: w) (.fz x.x.2.2.2.2.2.1 :: .fz x.x.2.2.2.2.1 :: .fz x.x.2.2.2.1 :: .fz x.x.2.2.1 :: .fz x.x.2.1 :: .fz x.x.1 :: M) → gr [v1, v2, v3, v4, v5, v6] σ H QG) : gTup K 6 gr v σ H QG := by
  obtain ⟨a, vs, rfl, h2, v1, r1, rfl, h3, v2, r2, rfl, h4, v3, r3, rfl, h5, v4, r4, rfl, h6, v5, r5, rfl, h7, v6, r6, rfl, h8, rfl⟩ := hv
  exact ⟨a, [v1, v2, v3, v4, v5, v6], rfl, ex_t h.fh h2.sq, rfl, q v1 v2 v3 v4 v5 v6 ((((((h.push h3).push h4).push h5).push h6).push h7).push h8)⟩
end
/-! ### tuples of unlike things: cut and joined -/
class FTake (k : Nat) (τ : Type) [Flds τ] (τ2 : outParam Type) [i : outParam (Flds τ2)] where
  tk : τ → τ2
  ok : ∀ {K : Fg} {F : Hp} {vs : List V} {x : τ}, Flds.fl K F vs x → Flds.fl K F (vs.take k) (tk x) ∧ k ≤ vs.length
instance {τ : Type} [Flds τ] : FTake 0 τ Unit := ⟨fun _ => (), fun _ => ⟨rfl, Nat.zero_le _⟩⟩
instance {k : Nat} {α τ τ2 : Type} [Rp α] [Flds τ] [Flds τ2] [FTake k τ τ2] : FTake (k + 1) (α × τ) (α × τ2) := ⟨fun x => (x.1, FTake.tk k x.2), fun ⟨v, r, h1, h2, h3⟩ => by
  obtain ⟨g1, g2⟩ := FTake.ok (k := k) h3
  rw [h1]
  exact ⟨⟨v, r.take k, rfl, h2, g1⟩, Nat.succ_le_succ g2⟩⟩
class FCat (τ : Type) [Flds τ] (τ2 : Type) [Flds τ2] (τ3 : outParam Type) [i : outParam (Flds τ3)] where
  ct : τ → τ2 → τ3
  ok : ∀ {K : Fg} {F : Hp} {vs us : List V} {x : τ} {y : τ2}, Flds.fl K F vs x → Flds.fl K F us y → Flds.fl K F (vs ++ us) (ct x y)
instance {τ2 : Type} [Flds τ2] : FCat Unit τ2 τ2 := ⟨fun _ y => y, fun {K F vs us x y} h1 h2 => by
  have e : vs = [] := h1
  rw [e]; exact h2⟩
instance {α τ τ2 τ3 : Type} [Rp α] [Flds τ] [Flds τ2] [Flds τ3] [FCat τ τ2 τ3] : FCat (α × τ) τ2 (α × τ3) := ⟨fun x y => (x.1, FCat.ct x.2 y), fun ⟨v, r, h1, h2, h3⟩ h => by
  rw [h1]
  exact ⟨v, _, rfl, h2, FCat.ok h3 h⟩⟩
section
variable {K : Fg} {B : Base} {F H : Hp} {w : List (Option V)} {σ : L2.St} {M : List Slot} {Q : VK} {α τ τ2 τ3 : Type}
theorem S_slHH [Flds τ] [Flds τ2] {x : HT τ} {v : V} (k : Nat) [FTake k τ τ2] (hk : k ≤ 1000) (h : St K B F H w M) (hv : rp K F v x) (q : ∀ u F' H', St K B F' H' (some u :: w) (.fz (HT.mk (FTake.tk k x.x) : HT τ2) :: M) → Q u H') : rSlA K v none (some (k : Int)) H Q := by
  obtain ⟨a, vs, rfl, h2, h3⟩ := hv
  obtain ⟨g1, g2⟩ := FTake.ok (k := k) h3
  have e0 : HT.sIx vs.length 0 none = 0 := rfl
  have e1 := sIx_nat g2
  refine ⟨a, vs, rfl, ex_t h.fh h2.sq, fun hw => ?_, fun _ p hp => ?_⟩
  · rw [e1] at hw
    have e3 : vs.take k = vs := List.take_of_length_le (by omega)
    rw [e3] at g1
    exact q _ _ _ (h.push ⟨a, vs, rfl, h2, g1⟩)
  · have e := Ex.new (o := .tup (vs.take k)) (fresh_back h.fh hp)
    have e2 : cutV vs none (some (k : Int)) = vs.take k := by
      unfold cutV
      rw [e0, e1]
      simp
    rw [e2]
    exact q _ _ _ ((h.newF hp).push ⟨p, vs.take k, rfl, .inl upd_same, Flds.fmono e g1⟩)
theorem S_catHH [Flds τ] [Flds τ2] [Flds τ3] [FCat τ τ2 τ3] {n m : Nat} [FLen τ n] [FLen τ2 m] {x : HT τ} {y : HT τ2} {v u : V} (hn : 0 < n ∧ 0 < m ∧ n + m ≤ 1000 := by decide) (h : St K B F H w M) (hv : rp K F v x) (hu : rp K F u y) (q : ∀ t F' H', St K B F' H' (some t :: w) (.fz (HT.mk (FCat.ct x.x y.x) : HT τ3) :: M) → Q t H') : rCatA K v u H Q := by
  obtain ⟨a, vs, rfl, h2, h3⟩ := hv
  obtain ⟨b, us, rfl, k2, k3⟩ := hu
  have l1 := FLen.len h3
  have l2 := FLen.len k3
  have hl : vs.length + us.length ≤ sizeLine := Nat.le_trans (by omega : _ ≤ 1000) (by decide)
  refine ⟨a, b, vs, us, rfl, rfl, ex_t h.fh h2.sq, ex_t h.fh k2.sq, hl, fun e => ?_, fun _ e => ?_, fun _ _ p hp => ?_⟩
  · subst e; simp at l1; omega
  · subst e; simp at l2; omega
  · have en : Ex F (upd F p (.tup (vs ++ us))) := Ex.new (fresh_back h.fh hp)
    exact q _ _ _ ((h.newF hp).push ⟨p, vs ++ us, rfl, .inl upd_same, Flds.fmono en (FCat.ok h3 k3)⟩)
end
end G

set_option Elab.async false
set_option linter.all false
namespace G
open PySem PySem.Spec PyProof.Rows L2
section
variable {σ : L2.St} {H : Hp} {tt tu : TT} {te ta tb : TE} {QT : Bool → Hp → Prop} {Q : VK}
theorem S_and0 (h : tt σ H fun c H1 => if c = true then tu σ H1 QT else QT false H1) : tAnd tt tu σ H QT := h
theorem S_or0 (h : tt σ H fun c H1 => if c = true then QT true H1 else tu σ H1 QT) : tOr tt tu σ H QT := h
theorem S_andV0 (h : ta σ H fun x H1 => ∃ c, x = .bl c ∧ if c = true then tb σ H1 Q else Q (.bl false) H1) : tAndV ta tb σ H Q := h
theorem S_orV0 (h : ta σ H fun x H1 => ∃ c, x = .bl c ∧ if c = true then Q (.bl true) H1 else tb σ H1 Q) : tOrV ta tb σ H Q := h
theorem S_blX {k : Bool} {P1 P2 : Prop} (h : if k = true then P1 else P2) : ∃ c, V.bl k = .bl c ∧ if c = true then P1 else P2 := ⟨k, rfl, h⟩
theorem S_boT {T : Bool → Hp → Prop} (h1 : ∀ Q' : Bool → Hp → Prop, (∀ k H, T k H → Q' k H) → tt σ H Q') (q : ∀ k H, T k H → QT k H) : tt σ H QT := h1 _ q
theorem S_boV {T : V → Hp → Prop} (h1 : ∀ Q' : VK, (∀ k H, T k H → Q' k H) → te σ H Q') (q : ∀ k H, T k H → Q k H) : te σ H Q := h1 _ q
theorem S_if0 (h : tt σ H fun c H1 => if c = true then ta σ H1 Q else tb σ H1 Q) : tIf tt ta tb σ H Q := h
end
end G

set_option Elab.async false
set_option linter.all false
set_option maxRecDepth 100000
namespace G
open PySem PySem.Spec PyProof.Rows L2
open Rp (rp)
section
variable {K : Fg} {B : Base} {F H : Hp} {w : List (Option V)} {σ : L2.St} {M : List Slot} {Q : VK} {α : Type}
theorem ints_paired {vs : List V} {xs : List Int} (h : Paired (rp K F) vs xs) : vs = xs.map V.int := by
  induction h with
  | nil => rfl
  | cons h _ ih => rw [List.map_cons, ← ih, show _ = V.int _ from h]
theorem S_sum {xs : List Int} {v : V} (hv : ViewL K F H v xs) (q : Q (.int xs.sum) H) : rSum K [v] H Q := by
  obtain ⟨a, vs, rfl, h2, h3, h4⟩ := hv
  exact ⟨a, xs, rfl, by rw [← ints_paired h4]; exact .inl (.inl h2), q⟩
theorem tupC [Rp α] {a : Addr} {vs : List V} {x : Tup α} {o : Obj} {its : Array Value} {n : Nat} (l : K.lookup a = some o) (c : o.cls = .type "tuple") (d : o.data = .seq its n) (s : its.size ≤ sizeLine) (v : Vals vs its.toList) (e : vs.length ≤ sizeLine) (p : Paired (rp K F) vs x.l) : rp K F (.ref a) x :=
  ⟨a, vs, rfl, .inr ⟨o, its, n, l, c, d, s, v⟩, e, p⟩
end
/-! ### a set of ints made of a list -/
section
variable {P : Program} {w : World} {A : Around} {E : Value → Shared → Prop} {s : Shared}
set_option maxHeartbeats 3200000 in
theorem call_set_lstI {l : Addr} {items : Array Value} (ns : List Int) {Q : Value → Shared → Prop} (hh : A.handled = none) (hl : s.heap.IsList l items) (hit : IntsAre items.toList ns) (hb : ns.length + 1 < scanBound)
    (h : ∀ (h' : Heap) (tk c : Nat), SetR w h' s.heap.objs.size (fun j => decide (j ∈ ns)) c → (∀ b o, s.heap.get? b = some o → h'.get? b = some o) → Q (.ref s.heap.objs.size) { s with heap := h', toks := tk }) :
    wpAny (model P w) A (call (.type "set") [.ref l]) Q E s := by
  have hsz : items.size = ns.length := by have := IntsAre.length hit; rw [Array.length_toList] at this; exact this
  obtain ⟨c, tl, hmro⟩ := F.called_set.mro
  have hmade := F.called_set.made
  have hsub := F.called_set.sub
  refine wpAny_call (codeAny_of_tree ?_)
  show wpAny _ _ (callAny (.type "set") _) _ _ _
  refine wpAny_pure ⟨Code.quiet_builtin _ (by decide +kernel), codeAny_builtin F.entry_type_call ?_⟩
  rw [Around.under_plain (weight_type_call_type "set" [.ref l] []) rfl]
  have h1 := F.called_set.notType
  have h2 := F.called_set.canCreate
  have hct := F.typeCall_set_1 (.ref l)
  repeat (any_goals (first | assumption | wp_step))
  generalize hO : ({ cls := .type "set", dict := none, data := .set #[] 0 (.fresh 0 0 (!w.params.followText "set-order")) } : Obj) = O
  refine codeAny_mono (code_set_led1 (.ref l) (E := E) (Q₁ := fun obj s₁ => obj = .ref s.heap.objs.size ∧ s₁ = { s with heap := s.heap.push O }) ⟨rfl, by rw [← hO]⟩) fun r s₁ hr => ?_
  match r, hr with
  | .error e, hr => exact hr
  | .ok (.ret obj), hr =>
    obtain ⟨rfl, rfl⟩ := hr
    have hS : (s.heap.push O).get? s.heap.objs.size = some O := Heap.get?_push_size _ (by rw [← hO]; rfl)
    have hT : Shared.TypeIs { s with heap := s.heap.push O } (.ref s.heap.objs.size) "set" := ⟨_, hS, by rw [← hO]⟩
    have hli := F.called_set.init.lookup
    have hbi := F.called_set.init.bind (.ref s.heap.objs.size)
    repeat (any_goals (first | assumption | wp_step))
    refine codeAny_mono (codeAny_call_builtin (R := wants (fun r s₂ => r = .none ∧ ∃ h' tk c, s₂ = { s with heap := h', toks := tk } ∧ SetR w h' s.heap.objs.size (fun j => decide (j ∈ ns)) c ∧
        (∀ b o, s.heap.get? b = some o → h'.get? b = some o)) E) F.called_set.init.plain F.entry_set_init (check_set_init_1 hT ?_)) fun r₂ s₂ hr₂ => ?_
    · obtain ⟨ol, hol, hcl, nl, hdl⟩ := hl
      obtain ⟨ocls, odict, odata, oslots⟩ := ol
      simp only at hcl hdl
      subst hcl; subst hdl
      have hol' : (s.heap.push O).get? l = some { cls := .type "list", dict := odict, data := .seq items nl, slots := oslots } := Heap.get?_push_of_some _ hol
      have hsls := F.sub_list_set
      have hslf := F.sub_list_frozenset
      have hne : (Value.type "list" == Value.type "dict") = false := by decide
      have hl1 : (s.heap.push O).IsList l items := ⟨_, hol', rfl, nl, rfl⟩
      unfold Builtin.«set.__init__» noKeywords Builtin.Frozenset.updateFrom
      generalize hPI : pyIter = PI
      subst hO
      wp_walk
      subst hPI
      refine wpAny_pyIter_list hl1 ?_
      refine wpAny_bind (wpAny_runValue ?_)
      generalize hO : ({ cls := .type "set", dict := none, data := .set #[] 0 (.fresh 0 0 (!w.params.followText "set-order")) } : Obj) = O at hl1 hol' hS ⊢
      have hlS : l < s.heap.objs.size := Heap.lt_size hol
      have hh3 : A.in1.in1.in1.handled = none := by simp [hh]
      have hpz : (s.heap.push O).objs.size = s.heap.objs.size + 1 := Heap.size_push ..
      have hneI : l ≠ (s.heap.push O).objs.size := by rw [hpz]; exact Nat.ne_of_lt (Nat.lt_succ_of_lt hlS)
      have hSf : s.heap.objs.size ∉ [(s.heap.push O).objs.size, l] := by
        rw [hpz]
        simp only [List.mem_cons, List.not_mem_nil, or_false, not_or]
        exact ⟨Nat.ne_of_lt (Nat.lt_succ_self _), Nat.ne_of_gt hlS⟩
      have hval : ∀ (i : Nat) (v : Value), items[i]? = some v → ∃ k t, ns[i]? = some k ∧ v = .int k t := fun i v hv => by
        have hi : i < ns.length := by rw [← hsz]; exact (Array.getElem?_eq_some_iff.mp hv).1
        obtain ⟨t, e⟩ := PyProof.Rows.IntsAre.int_at hit i v (by rw [Array.getElem?_toList]; exact hv)
        refine ⟨ns[i], t, List.getElem?_eq_getElem hi, ?_⟩
        rw [e, List.getD_eq_getElem?_getD, List.getElem?_eq_getElem hi] <;> rfl
      refine set_update_ints ((Walks.list hh3 _ l hneI items).toS) s.heap.objs.size
        hSf ns hsz hb hval (items.size - 0) 0 _ (by omega) (Nat.zero_le _)
        ⟨⟨_, Heap.get?_push_size _ rfl, rfl, rfl⟩, (hl1.push _)⟩ ?hS0 ?hR
      case hS0 =>
        exact ⟨0, Nat.le_refl 0, setR_new_at (Heap.get?_push_of_some _ (by rw [hS, ← hO]))⟩
      case hR =>
        intro s' c' hm hc' hS'
        obtain ⟨h', g2, d', tk', os'⟩ := s'
        have eg : g2 = s.gens := hm.gens
        have ed : d' = s.drawn := hm.drawn
        have eo : os' = s.os := hm.os
        subst eg; subst ed; subst eo
        show wpAny _ _ _ _ _ _
        refine wpAny_pure ?_
        show wpAny _ _ (ret Value.none) _ _ _
        refine wpAny_pure ⟨rfl, h', tk', c', rfl, hS', fun b o e => ?_⟩
        have hb0 : b < s.heap.objs.size := Heap.lt_size e
        exact hm.heap b o (by rw [hpz]; simp only [List.mem_cons, List.not_mem_nil, or_false, not_or]; exact ⟨Nat.ne_of_lt hb0, Nat.ne_of_lt (Nat.lt_succ_of_lt hb0)⟩) (Heap.get?_push_of_some _ (Heap.get?_push_of_some _ e))
    · match r₂, hr₂ with
      | .error e, hr₂ => exact hr₂
      | .ok (.ret r), hr₂ =>
        obtain ⟨rfl, h', tk, c', rfl, hS', hk'⟩ := hr₂
        repeat (any_goals (first | assumption | wp_step))
        exact h _ _ _ hS' hk'
      | .ok .next, hr₂ => exact hr₂.elim
      | .ok .brk, hr₂ => exact hr₂.elim
      | .ok .cont, hr₂ => exact hr₂.elim
  | .ok .next, hr => exact hr.elim
  | .ok .brk, hr => exact hr.elim
  | .ok .cont, hr => exact hr.elim
end
end G

set_option Elab.async false
set_option linter.all false
set_option maxRecDepth 100000
namespace G
open PySem PySem.Spec PyProof.Rows L2
open Rp (rp)
open Ow (ow)
/-- set(xs), of ints -/
def rSetOfI (K : Fg) (w : World) : List V → Hp → VK → Prop := fun xs H Q => ∃ (l : Addr) (ns : List Int), xs = [V.ref l] ∧ SqL K H l (ns.map V.int) ∧ ns.length < 64 ∧ ∀ p, H p = none → Q (.ref p) (upd H p (SetO w p (fun j => decide (j ∈ ns)) (nub ns).length))
theorem cr_setOfI {X : Cx} (hc : X.calm = true) : CallR X (.type "set") (rSetOfI X.K X.w) := by
  intro pins s σ H xs us Q I r h
  obtain ⟨l, ns, rfl, hq, hl, q⟩ := h
  rw [Vals.ref1 r]
  obtain ⟨its, rv, pl, hz⟩ := I.list hq
  have hi : IntsAre its.toArray.toList ns := ints_of_vals rv
  refine call_set_lstI ns (I.ok.hd hc) pl.isList hi (by unfold scanBound; omega) fun h' tk c R1 k => ?_
  have hn : H s.heap.objs.size = none := I.hok.fresh (Nat.le_refl _)
  have R2 : SetR X.w h' s.heap.objs.size (fun j => decide (j ∈ ns)) (nub ns).length := by
    obtain ⟨o, es, ep, t, ho, hex, hdt, g, nd, hm2, hb, hf, hn, hr, hl2⟩ := R1
    have hm3 : ∀ k, k ∈ es.toList.map keyOf ↔ k ∈ ns := fun k => by rw [← hm2 k, decide_eq_true_eq]
    have := len_nub nd (fun x m => (hm3 x).mp m) fun x m => (hm3 x).mpr m
    rw [List.length_map, Array.length_toList] at this
    exact ⟨o, es, ep, t, ho, hex, hdt, g, nd, hm2, hb, hf, this, hr, hl2⟩
  exact ⟨.ref _, upd H s.heap.objs.size (SetO X.w s.heap.objs.size (fun j => decide (j ∈ ns)) (nub ns).length), I.laid (t' := tk) k (Nat.le_refl _) (setO_new R2), rfl, q _ hn⟩
def rLenSI (w : World) : List V → Hp → VK → Prop := fun xs H Q => ∃ a S n, xs = [.ref a] ∧ H a = some (SetO w a S n) ∧ n < 1000000 ∧ Q (.int (n : Int)) H
theorem cr_lenSI {X : Cx} : CallR X (.builtin "len") (rLenSI X.w) := by
  intro pins s σ H xs us Q I r h
  obtain ⟨a, S, n, rfl, ha, hl, q⟩ := h
  rw [Vals.ref1 r]
  obtain ⟨o, es, ep, t, ho, hex, hdt, g, nd, hm2, hb, hf, hn, hr, hl2⟩ := setO_get I ha
  refine call_len_set ho hex hdt hf (by rw [hn]; omega) ?_
  rw [hn]
  exact ⟨.int n, H, I.tok _, ⟨_, rfl⟩, q⟩
def sortSO (xs : List Int) : Option (List Int) := if xs.length < 64 then some (isort Od.lt (nub xs)) else none
def nubI (xs : List Int) : Option Int := if xs.length < 64 then some ((nub xs).length : Int) else none
theorem ints_to {K : Fg} (F : Hp) : ∀ xs : List Int, Paired (rp K F) (xs.map V.int) xs
  | [] => .nil
  | _ :: xs => .cons rfl (ints_to F xs)
section
variable {K : Fg} {B : Base} {F H : Hp} {w : List (Option V)} {σ : L2.St} {M : List Slot} {Q : VK} {w0 : World}
theorem nub_len_le {α : Type} [DecidableEq α] : ∀ xs : List α, (nub xs).length ≤ xs.length
  | [] => Nat.le_refl _
  | x :: xs => by
    have := nub_len_le xs
    unfold nub
    split
    · rw [List.length_cons]; omega
    · rw [List.length_cons, List.length_cons]; omega
theorem S_setI {xs : List Int} {v : V} (h : St K B F H w M) (hv : ViewL K F H v xs) (hl : xs.length < 64) (q : ∀ a H', St K B F H' w M → H' a = some (SetO w0 a (fun j => decide (j ∈ xs)) (nub xs).length) → B.H a = none → Q (.ref a) H') : rSetOfI K w0 [v] H Q := by
  obtain ⟨a, vs, rfl, h2, h3, h4⟩ := hv
  exact ⟨a, xs, rfl, by rw [← ints_paired h4]; exact .inl (.inl h2), hl, fun p hp => q p _ (h.newO hp) upd_same (h.freshB hp)⟩
theorem S_lenSI {xs : List Int} {n : Int} {a : Addr} {k : Nat} {S : Int → Bool} (hx : nubI xs = some n) (ha : H a = some (SetO w0 a S (nub xs).length)) (q : Q (.int n) H) : rLenSI w0 [.ref a] H Q := by
  unfold nubI at hx
  split at hx
  · have e := Option.some.inj hx
    subst e
    have := nub_len_le xs
    exact ⟨a, S, _, rfl, ha, by omega, q⟩
  · cases hx
theorem S_sortSI {xs zs : List Int} {a : Addr} (h : St K B F H w M) (hx : sortSO xs = some zs) (ha : H a = some (SetO w0 a (fun j => decide (j ∈ xs)) (nub xs).length)) (q : ∀ p F' H', B.H p = none → St K B F' H' (some (.ref p) :: w) (.own p zs :: M) → Q (.ref p) H') : rSortedSet w0 [.ref a] H Q := by
  unfold sortSO at hx
  split at hx
  · rename_i hl
    have e := Option.some.inj hx
    have hn := nub_len_le xs
    refine ⟨a, _, _, rfl, ha, by omega, fun ns p hs hm hlen hp => ?_⟩
    have pm : ns.Perm (nub xs) := (List.perm_ext_iff_of_nodup (hs.imp fun h e => by subst e; exact Int.lt_irrefl _ h) (nub_nodup xs)).mpr fun k => by
      rw [hm k, decide_eq_true_eq, mem_nub]
    have e2 : ns = zs := by
      rw [← e]
      refine isort_uniq Od.lin (fun _ _ => trivial) pm (hs.imp fun {a b} h => ?_)
      show decide (b < a) = false
      exact decide_eq_false (by omega)
    subst e2
    refine q p F _ (h.freshB hp) (h.pushO hp ⟨_, rfl, ?_, ints_to F ns⟩)
    rw [List.length_map, hlen]
    have : 64 ≤ sizeLine := by rw [sizeLine_eq]; decide
    omega
  · cases hx
end
end G
namespace G
open PySem PySem.Spec PyProof.Rows L2
theorem sortSO_lt {xs zs : List Int} (h : sortSO xs = some zs) : xs.length < 64 := by
  unfold sortSO at h
  split at h
  · assumption
  · cases h
theorem nubI_lt {xs : List Int} {n : Int} (h : nubI xs = some n) : xs.length < 64 := by
  unfold nubI at h
  split at h
  · assumption
  · cases h
theorem S_isB {a b : Bool} {H : Hp} {Q : VK} (q : Q (.bl (decide (a = b))) H) : rIsB (.bl a) (.bl b) H Q := ⟨a, b, rfl, rfl, q⟩
theorem S_notB {a b : Bool} {H : Hp} {Q : VK} (q : Q (.bl (!decide (a = b))) H) : rNotB (.bl a) (.bl b) H Q := ⟨a, b, rfl, rfl, q⟩
end G
namespace G
open PySem PySem.Spec PyProof.Rows L2
open Rp (rp)
section
variable {K : Fg} {B : Base} {F H : Hp} {w : List (Option V)} {σ : L2.St} {M : List Slot} {Q : VK}
theorem tyes1 {A N : Hp → Prop} (h : A H) : tYes σ H (fun b H3 => if b = true then A H3 else N H3) := by
  show if true = true then A H else N H
  rw [if_pos rfl]
  exact h
theorem S_cg {v0 : V} {P : V → Prop} (p : P v0) (q : ∀ v, P v → Q v H) : tC v0 σ H Q := q v0 p
theorem St.takeT {α : Type} {s : Sh α} {g : s.G} {x : α} (i : Nat) (h : St K B F H w M) (hM : M[i]? = some (.tree s g x)) : St K B F H (some (s.root g) :: w) (.tree s g x :: M.set i .any) := by
  obtain ⟨h0, dj, nd0, bo, hw, fo0, ok0⟩ := h.outT hM
  exact h0.pushT ok0 nd0 dj fo0 bo
end
end G

set_option Elab.async false
set_option linter.all false
set_option maxRecDepth 100000
set_option maxHeartbeats 4000000
set_option synthInstance.maxHeartbeats 400000
set_option synthInstance.maxSize 2000
namespace W
open PySem PySem.Spec PyProof.Rows L2 G
open Rp (rp)
open Ow (ow)
def topS (i : Nat) : Stmt := PySem.Challenge.pw_relayholds_k72_whole_raceless_names.main.body.getD i (.Pass ⟨0, 0, 0, 0⟩)
abbrev s_Table_goes : Stmt := inClass (topS 37) 5
abbrev s_Table_states : Stmt := inClass (topS 37) 2
abbrev s_goings_on : Stmt := topS 3
abbrev s_unlike_ones : Stmt := topS 4
abbrev s_Table_letters : Stmt := inClass (topS 37) 4
abbrev s_pairs : Stmt := topS 5
abbrev s_raceless_names : Stmt := topS 6
abbrev s_is_name : Stmt := topS 13
abbrev s_want_names : Stmt := topS 14
abbrev s_span : Stmt := topS 15
abbrev s_is_parting : Stmt := topS 16
abbrev s_are_parted : Stmt := topS 17
abbrev s_first_common : Stmt := topS 19
abbrev s_race_at : Stmt := topS 20
abbrev s_races : Stmt := topS 21
abbrev s_is_word : Stmt := topS 25
abbrev s_word_fault : Stmt := topS 26
abbrev s_first_crowd : Stmt := topS 32
abbrev s_first_misfit__r : Stmt := topS 33
abbrev s_first_misfit__l : Stmt := topS 33
abbrev s_first_unsettled : Stmt := topS 34
abbrev s_look : Stmt := topS 35
abbrev s_look_at_words : Stmt := topS 36
abbrev s_Table___init__ : Stmt := inClass (topS 37) 0
abbrev s__law_pot : Stmt := topS 39
abbrev s__law_digit : Stmt := topS 40
abbrev s__law_words : Stmt := topS 41
abbrev s__law_rows : Stmt := topS 42
abbrev s__law_told : Stmt := topS 43
abbrev s__law_parts : Stmt := topS 44
abbrev s__law_clashes : Stmt := topS 45
abbrev s__law_between : Stmt := topS 46
abbrev s__law_is_number : Stmt := topS 47
abbrev s__law_are_names : Stmt := topS 48
abbrev s__law_is_met : Stmt := topS 49
abbrev s__law_are_free : Stmt := topS 50
abbrev s__law_told_parted : Stmt := topS 51
abbrev s_law : Stmt := topS 52
def A_Table : Addr := 237
abbrev C_Table := PI A_Table ["shining", "goals", "all_lamps", "all_states", "all_keys"] ((List (Tup Int)) × (List (List Int)) × (List Str) × (List Str) × (List Str) × Unit)
def tv_HALVINGS : Tup (Tup Int) := (Tup.mk [(Tup.mk [(0 : Int), (0 : Int), (1 : Int), (1 : Int)] : Tup Int), (Tup.mk [(0 : Int), (1 : Int), (0 : Int), (1 : Int)] : Tup Int), (Tup.mk [(0 : Int), (1 : Int), (1 : Int), (0 : Int)] : Tup Int)] : Tup (Tup Int))
structure KF (K : Fg) : Prop where
  cl_Table : Cls K A_Table
  n_Table_all_keys : NoAttr K A_Table "all_keys"
  n_Table_all_states : NoAttr K A_Table "all_states"
  n_Table_all_lamps : NoAttr K A_Table "all_lamps"
  n_Table_goals : NoAttr K A_Table "goals"
  n_Table_shining : NoAttr K A_Table "shining"
  tc_HALVINGS : ∀ F : Hp, rp K F (V.ref 25) tv_HALVINGS
structure Cst (mg : Str → Option Value) : Prop where
  FEWEST_STATES : ∃ u, mg "FEWEST_STATES" = some u ∧ RelV (.int 2) u
  LETTERS : ∃ u, mg "LETTERS" = some u ∧ RelV (.str (Str.ofString "abcdefghijklmnopqrstuvwxyz")) u
  MOST_KEYS : ∃ u, mg "MOST_KEYS" = some u ∧ RelV (.int 2) u
  MOST_LAMPS : ∃ u, mg "MOST_LAMPS" = some u ∧ RelV (.int 2) u
  MOST_LETTERS : ∃ u, mg "MOST_LETTERS" = some u ∧ RelV (.int 8) u
  MOST_PLACES : ∃ u, mg "MOST_PLACES" = some u ∧ RelV (.int 4) u
  MOST_STATES : ∃ u, mg "MOST_STATES" = some u ∧ RelV (.int 4) u
  HALVINGS : ∃ u, mg "HALVINGS" = some u ∧ RelV (.ref 25) u
structure Blt (mg : Str → Option Value) : Prop where
  abs : mg "abs" = none
  all_ : mg "all" = none
  any_ : mg "any" = none
  bool_ : mg "bool" = none
  enumerate : mg "enumerate" = none
  int_ : mg "int" = none
  isinstance : mg "isinstance" = none
  len : mg "len" = none
  list_ : mg "list" = none
  max_ : mg "max" = none
  min_ : mg "min" = none
  range : mg "range" = none
  repr : mg "repr" = none
  set_ : mg "set" = none
  sorted : mg "sorted" = none
  sum : mg "sum" = none
  tuple : mg "tuple" = none
  zip : mg "zip" = none
def m_Table_goes (p_self : C_Table) (p_s : Int) (p_x : Int) : Option Int := (atI p_self.x.2.1 p_s).bind fun x4 => (atI x4 p_x).bind fun x7 => some x7
inductive R_Table_goes : List Slot → RSlot → List Slot → Prop
  | mk (p_self : C_Table) (p_s : Int) (p_x : Int)  {r : Int} : m_Table_goes p_self p_s p_x = some r → R_Table_goes [.fz p_self, .fz p_s, .fz p_x] (.fz r) [.any, .any, .any]
def t_Table_goes (K : Fg) : TS := tSeq (tAsg (tOp (rIxL K) (tFld K (tVar 0) "goals") (tVar 1)) (gName 3)) (tRet (tOp (rIxL K) (tVar 3) (tVar 2)))
theorem sc_Table_goes : FnScope ["self", "s", "x", "row"] ["self", "s", "x"] (defScope s_Table_goes) := ⟨rfl, rfl, rfl, by decide +kernel, rfl, by decide +kernel, by decide +kernel⟩
theorem sem_Table_goes {K : Fg} (kf : KF K) {vs : List V} {H : Hp} {Q : VK} {E : XK} (h : Prom K R_Table_goes vs H Q E) {D : Ends} (hD : ∀ u H, Q u H → D.rt u H) (hN : ∀ σ H, Q .non H → D.nx σ H) : t_Table_goes K D (start ["self", "s", "x", "row"] vs) H := by
  obtain ⟨F, A, rs, A', hR, fh, hS, nd, q⟩ := h
  cases hR with | @mk p_self p_s p_x  r hm => ?_
  have hl := slots_len hS
  obtain ⟨va0, va1, va2, rfl⟩ := len3 (vs := vs) (by simpa using hl.symm)
  have h : St K ⟨F, H, []⟩ F H [some va0, some va1, some va2, none] [.fz (p_self : C_Table), .fz (p_s : Int), .fz (p_x : Int), .any] := St.start fh hS nd [none]
  generalize hB : (⟨F, H, []⟩ : Base) = B0 at h
  have q0 := q
  have q : ∀ u F' H', Fin K B0 (.fz r) [.any, .any, .any] u F' H' → D.rt u H' := by subst hB; exact fun u F' H' z => hD _ _ (q u F' H' z)
  have qN : ∀ σ F' H', Fin K B0 (.fz r) [.any, .any, .any] .non F' H' → D.nx σ H' := by subst hB; exact fun σ F' H' z => hN _ _ (q0 _ F' H' z)
  clear hB q0 hD hN
  rw [show start ["self", "s", "x", "row"] [va0, va1, va2] = [some va0, some va1, some va2, none] from rfl]
  unfold t_Table_goes
  unfold m_Table_goes at hm
  refine Q_asg ?_
  refine S_op ?_
  refine S_fldG ?_
  refine S_var 0 h rfl rfl fun v1 h => ?_
  refine S_fld 1 h.pop (h.vIF (h.fz 0 rfl rfl)) kf.cl_Table kf.n_Table_goals (by decide +kernel) (by rfl) fun u2 h => ?_
  refine S_varI 1 h rfl rfl ?_
  obtain ⟨x4, hx4, hm⟩ := ob hm
  refine S_ixL h.pop (h.vF 0 rfl rfl) hx4 fun u3 h => ?_
  refine S_gName ?_
  have h : St K B0 F H (List.set [some va0, some va1, some va2, none] 3 (some u3)) [.fz (p_self : C_Table), .fz (p_s : Int), .fz (p_x : Int), .fz (x4 : List Int)] := St.setF (v := u3) (x := (x4 : List Int)) h.pop 3 (h.fz 0 rfl rfl)
  refine S_ret ?_
  refine S_op ?_
  refine S_var 0 h rfl rfl fun v5 h => ?_
  refine S_varI 1 h rfl rfl ?_
  obtain ⟨x7, hx7, hm⟩ := ob hm
  refine S_ixL h.pop (h.vF 0 rfl rfl) hx7 fun u6 h => ?_
  obtain rfl : u6 = (V.int x7) := h.fz 0 rfl rfl
  have h := h.pop
  have hz := h
  cases hm
  exact q _ _ _ (hz.finI aft0)
theorem fn_Table_goes {P : Program} {w : World} {K : Fg} {mg : Str → Option Value} {base : Heap} (bz : Blt mg) (kf : KF K) (cz : Cst mg) {f : Addr} {fd : FuncData} (F0 : Fun K "goes" "Table.goes" s_Table_goes f fd)  : FnOk P w K mg base CX0 1 f fd ["self", "s", "x"] (Prom K R_Table_goes) :=
  F0.ok sc_Table_goes (prom_len 3 fun A s A' h => by cases h; rfl) fun cdv A outer s H vs Q E hr h => ⟨t_Table_goes K, pss_cons (ps_set (i := 3) sc_Table_goes.nd rfl (.inl rfl) (pe_ix (r := rIxL K) ix_list (pe_fld (pv 0) rfl) (pv 1) (fun _ _ => rfl))) (pss_one (ps_ret (pe_ix (r := rIxL K) ix_list (pv 3) (pv 2) (fun _ _ => rfl)))), sem_Table_goes kf h (fun _ _ z => z) fun _ _ z => z⟩
theorem ok_Table_goes {P : Program} {w : World} {K : Fg} {mg : Str → Option Value} {base : Heap} (bz : Blt mg) (kf : KF K) (cz : Cst mg) {f : Addr} {fd : FuncData} (F0 : Fun K "goes" "Table.goes" s_Table_goes f fd) (g0 : Meth K A_Table "goes" f) (b0 : Binds K fd ["self", "s", "x"] [])  : CalM P w K mg base 1 A_Table "goes" ["self", "s", "x"] R_Table_goes :=
  ⟨f, fd, (fn_Table_goes bz kf cz F0), g0, b0⟩

def m_Table_states (p_self : C_Table) : Option (List Str) := some p_self.x.2.2.2.1
inductive R_Table_states : List Slot → RSlot → List Slot → Prop
  | mk (p_self : C_Table)  {r : List Str} : m_Table_states p_self = some r → R_Table_states [.fz p_self] (.fr r) [.any]
def t_Table_states (K : Fg) : TS := tRet (tCB (rListG K) (tCons (tFld K (tVar 0) "all_states") (tNil)))
theorem sc_Table_states : FnScope ["self"] ["self"] (defScope s_Table_states) := ⟨rfl, rfl, rfl, by decide +kernel, rfl, by decide +kernel, by decide +kernel⟩
theorem sem_Table_states {K : Fg} (kf : KF K) {vs : List V} {H : Hp} {Q : VK} {E : XK} (h : Prom K R_Table_states vs H Q E) {D : Ends} (hD : ∀ u H, Q u H → D.rt u H) (hN : ∀ σ H, Q .non H → D.nx σ H) : t_Table_states K D (start ["self"] vs) H := by
  obtain ⟨F, A, rs, A', hR, fh, hS, nd, q⟩ := h
  cases hR with | @mk p_self  r hm => ?_
  have hl := slots_len hS
  obtain ⟨va0, rfl⟩ := len1 (vs := vs) (by simpa using hl.symm)
  have h : St K ⟨F, H, []⟩ F H [some va0] [.fz (p_self : C_Table)] := St.start fh hS nd []
  generalize hB : (⟨F, H, []⟩ : Base) = B0 at h
  have q0 := q
  have q : ∀ u F' H', Fin K B0 (.fr r) [.any] u F' H' → D.rt u H' := by subst hB; exact fun u F' H' z => hD _ _ (q u F' H' z)
  have qN : ∀ σ F' H', Fin K B0 (.fr r) [.any] .non F' H' → D.nx σ H' := by subst hB; exact fun σ F' H' z => hN _ _ (q0 _ F' H' z)
  clear hB q0 hD hN
  rw [show start ["self"] [va0] = [some va0] from rfl]
  unfold t_Table_states
  unfold m_Table_states at hm
  refine S_ret ?_
  refine S_cb ?_
  refine S_cons ?_
  refine S_fldG ?_
  refine S_var 0 h rfl rfl fun v1 h => ?_
  refine S_fld 3 h.pop (h.vIF (h.fz 0 rfl rfl)) kf.cl_Table kf.n_Table_all_states (by decide +kernel) (by rfl) fun u2 h => ?_
  refine S_nil ?_
  refine S_listL h.pop (h.vF 0 rfl rfl) fun p3 F H hBp3 h => ?_
  have hz := h
  cases hm
  exact q _ _ _ (hz.finFr hBp3 aft0)
theorem fn_Table_states {P : Program} {w : World} {K : Fg} {mg : Str → Option Value} {base : Heap} (bz : Blt mg) (kf : KF K) (cz : Cst mg) {f : Addr} {fd : FuncData} (F0 : Fun K "states" "Table.states" s_Table_states f fd)  : FnOk P w K mg base CX0 1 f fd ["self"] (Prom K R_Table_states) :=
  F0.ok sc_Table_states (prom_len 1 fun A s A' h => by cases h; rfl) fun cdv A outer s H vs Q E hr h => ⟨t_Table_states K, pss_one (ps_ret (pe_callTy (r := rListG K) cr_listG (by rfl) bz.list_ (by decide +kernel) (pa_cons (pe_fld (pv 0) rfl) (pa_nil)))), sem_Table_states kf h (fun _ _ z => z) fun _ _ z => z⟩
theorem ok_Table_states {P : Program} {w : World} {K : Fg} {mg : Str → Option Value} {base : Heap} (bz : Blt mg) (kf : KF K) (cz : Cst mg) {f : Addr} {fd : FuncData} (F0 : Fun K "states" "Table.states" s_Table_states f fd) (g0 : Meth K A_Table "states" f) (b0 : Binds K fd ["self"] [])  : CalM P w K mg base 1 A_Table "states" ["self"] R_Table_states :=
  ⟨f, fd, (fn_Table_states bz kf cz F0), g0, b0⟩

def m_goings_on_c0 (p_table : C_Table) (p_x : Int) (x5 : Int) : Option (Tup Int) := (m_Table_goes p_table x5 p_x).bind fun r12 => some (Tup.mk [x5, r12] : Tup Int)
def m_goings_on (p_table : C_Table) (p_x : Int) : Option (List (Tup Int)) := (m_Table_states p_table).bind fun r2 => (rangeO (List.length r2 : Int)).bind fun xs4 => (mapO (m_goings_on_c0 p_table p_x) xs4).bind fun ys14 => some ys14
inductive R_goings_on : List Slot → RSlot → List Slot → Prop
  | mk (p_table : C_Table) (p_x : Int)  {r : List (Tup Int)} : m_goings_on p_table p_x = some r → R_goings_on [.fz p_table, .fz p_x] (.fr r) [.any, .any]
def t_goings_on (K : Fg) : TS := tRet (tLc (iRng1 (tCons (tCB (rLenG K) (tCons (tMeth A_Table "states" (Prom K R_Table_states) [] E0 (tVar 0) (tNil)) (tNil))) (tNil))) (gName 2) (tYes) (tTup (tCons (tVar 2) (tCons (tMeth A_Table "goes" (Prom K R_Table_goes) [] E0 (tVar 0) (tCons (tVar 2) (tCons (tVar 1) (tNil)))) (tNil)))) [2])
theorem sc_goings_on : FnScope ["table", "x", "s"] ["table", "x"] (defScope s_goings_on) := ⟨rfl, rfl, rfl, by decide +kernel, rfl, by decide +kernel, by decide +kernel⟩
theorem sem_goings_on {K : Fg} (kf : KF K) {vs : List V} {H : Hp} {Q : VK} {E : XK} (h : Prom K R_goings_on vs H Q E) {D : Ends} (hD : ∀ u H, Q u H → D.rt u H) (hN : ∀ σ H, Q .non H → D.nx σ H) : t_goings_on K D (start ["table", "x", "s"] vs) H := by
  obtain ⟨F, A, rs, A', hR, fh, hS, nd, q⟩ := h
  cases hR with | @mk p_table p_x  r hm => ?_
  have hl := slots_len hS
  obtain ⟨va0, va1, rfl⟩ := len2 (vs := vs) (by simpa using hl.symm)
  have h : St K ⟨F, H, []⟩ F H [some va0, some va1, none] [.fz (p_table : C_Table), .fz (p_x : Int), .any] := St.start fh hS nd [none]
  generalize hB : (⟨F, H, []⟩ : Base) = B0 at h
  have q0 := q
  have q : ∀ u F' H', Fin K B0 (.fr r) [.any, .any] u F' H' → D.rt u H' := by subst hB; exact fun u F' H' z => hD _ _ (q u F' H' z)
  have qN : ∀ σ F' H', Fin K B0 (.fr r) [.any, .any] .non F' H' → D.nx σ H' := by subst hB; exact fun σ F' H' z => hN _ _ (q0 _ F' H' z)
  clear hB q0 hD hN
  rw [show start ["table", "x", "s"] [va0, va1] = [some va0, some va1, none] from rfl]
  unfold t_goings_on
  unfold m_goings_on at hm
  refine S_ret ?_
  refine S_lc ?_
  refine S_iR1 ?_
  refine S_cons ?_
  refine S_cb ?_
  refine S_cons ?_
  refine S_methG ?_
  refine S_var 0 h rfl rfl fun v1 h => ?_
  refine S_meth (h.vIF (h.fz 0 rfl rfl)) (by decide +kernel) ?_
  refine S_nil ?_
  obtain ⟨r2, hr2, hm⟩ := ob hm
  refine S_callO (A := [.fz (p_table : C_Table)]) h.pop (slots_cons (ok_fz (h.fz 0 rfl rfl)) slots_nil) (R_Table_states.mk _ hr2) rfl fun p3 F H hBp3 h => ?_
  refine S_frz h hBp3 _ fun F h => ?_
  refine S_nil ?_
  refine S_lenL (h.vF 0 rfl rfl) ?_
  have h := h.pop
  refine S_nil ?_
  obtain ⟨xs4, hxs4, hm⟩ := ob hm
  refine S_rng1 (K := K) hxs4 fun J Y => ?_
  obtain ⟨ys14, hys14, hm⟩ := ob hm
  refine S_mapO (ts := []) (TM := []) (M := [.fz (p_table : C_Table), .fz (p_x : Int), .any]) Y hys14 h rfl ⟨rfl, trivial⟩ (rng1_len hxs4) (fun w F H h => trivial) (fun x5 z v6 D7 a8 F H G N hf h hG => ?_) (fun D15 F H hBD15 h => ?_)
  · have hm := hf
    unfold m_goings_on_c0 at hm
    have h : St K B0 F H (some v6 :: some (V.ref D7) :: wipe [some va0, some va1, none] [2]) [.fz (x5 : Int), .own D7 a8, .fz (p_table : C_Table), .fz (p_x : Int), .any] := h
    refine S_gName ?_
    have h : St K B0 F H (some (V.ref D7) :: List.set (wipe [some va0, some va1, none] [2]) 2 (some v6)) [.own D7 a8, .fz (p_table : C_Table), .fz (p_x : Int), .fz (x5 : Int)] := St.setF (v := v6) (x := (x5 : Int)) h.pop 3 (h.fz 0 rfl rfl)
    refine ⟨(wipe_set (by decide)).trans wipe_idem, ?_⟩
    refine if1 ?_
    refine S_tT ?_
    refine S_cons ?_
    refine S_varI 1 h rfl rfl ?_
    refine S_cons ?_
    refine S_methG ?_
    refine S_var 1 h rfl rfl fun v11 h => ?_
    refine S_meth (h.vIF (h.fz 0 rfl rfl)) (by decide +kernel) ?_
    refine S_cons ?_
    refine S_varI 2 h rfl rfl ?_
    refine S_cons ?_
    refine S_varI 2 h rfl rfl ?_
    refine S_nil ?_
    obtain ⟨r12, hr12, hm⟩ := ob hm
    refine S_callI (A := [.fz (p_table : C_Table), .fz (x5 : Int), .fz (p_x : Int)]) h.pop (slots_cons (ok_fz (h.fz 0 rfl rfl)) (slots_cons (ok_fz rfl) (slots_cons (ok_fz rfl) slots_nil))) (R_Table_goes.mk _ _ _ hr12) rfl fun F H h => ?_
    refine S_nil ?_
    refine S_tup (xs := ([x5, r12] : List Int)) h (.cons rfl (.cons rfl .nil)) (Nat.le_of_ble_eq_true rfl) fun p13 F H h => ?_
    have hz := h
    cases hm
    exact hG _ _ _ (St.unset (ts := [some (V.ref D7)]) (TM := [.own D7 a8]) (M := [.fz (p_table : C_Table), .fz (p_x : Int), .any]) (hz.pop.weak ⟨.inr rfl, .inr rfl, .inr rfl, .inl rfl, trivial⟩) rfl rfl) (hz.fz 0 rfl rfl)
  have h : St K B0 F H (some (V.ref D15) :: [some va0, some va1, none]) [.own D15 ys14, .fz (p_table : C_Table), .fz (p_x : Int), .any] := h
  have hz := h
  cases hm
  exact q _ _ _ (hz.finFr hBD15 aft0)
theorem fn_goings_on {P : Program} {w : World} {K : Fg} {mg : Str → Option Value} {base : Heap} (bz : Blt mg) (kf : KF K) (cz : Cst mg) {f : Addr} {fd : FuncData} (F0 : Fun K "goings_on" "goings_on" s_goings_on f fd) (C_Table_goes : CalM P w K mg base 1 A_Table "goes" ["self", "s", "x"] R_Table_goes) (C_Table_states : CalM P w K mg base 1 A_Table "states" ["self"] R_Table_states) : FnOk P w K mg base CX0 2 f fd ["table", "x"] (Prom K R_goings_on) :=
  F0.ok sc_goings_on (prom_len 2 fun A s A' h => by cases h; rfl) fun cdv A outer s H vs Q E hr h => ⟨t_goings_on K, pss_one (ps_ret (pe_lc (own := [("s", 2)]) (g := gName 2) (tt := tYes) (te := tTup (tCons (tVar 2) (tCons (tMeth A_Table "goes" (Prom K R_Table_goes) [] E0 (tVar 0) (tCons (tVar 2) (tCons (tVar 1) (tNil)))) (tNil)))) (wi := iRng1 (tCons (tCB (rLenG K) (tCons (tMeth A_Table "states" (Prom K R_Table_states) [] E0 (tVar 0) (tNil)) (tNil))) (tNil))) rfl sc_goings_on.nd (pi_range1 (by rfl) bz.range (pa_cons (pe_callB (r := rLenG K) cr_lenG (by rfl) bz.len (by decide +kernel) (pa_cons (C_Table_states.pe0 kf.cl_Table (hr.mono (by decide)) (pv 0)) (pa_nil))) (pa_nil))) (blkOk_by (N := ["table", "x", "s"]) (sc := defScope s_goings_on) (by decide +kernel)) (fun _ _ _ _ _ => pg_name (i := 2) sc_goings_on.nd rfl (by first | exact .inl rfl | exact .inr rfl)) (fun _ _ _ _ _ => pts_nil) (fun _ _ _ _ _ => pe_tup (pa_cons (pv 2) (pa_cons (C_Table_goes.pe kf.cl_Table (hr.mono (by decide)) (pv 0) (pa_cons (pv 2) (pa_cons (pv 1) (pa_nil)))) (pa_nil)))))), sem_goings_on kf h (fun _ _ z => z) fun _ _ z => z⟩
theorem ok_goings_on {P : Program} {w : World} {K : Fg} {mg : Str → Option Value} {base : Heap} (bz : Blt mg) (kf : KF K) (cz : Cst mg) {f : Addr} {fd : FuncData} (F0 : Fun K "goings_on" "goings_on" s_goings_on f fd) (g0 : mg "goings_on" = some (.ref f)) (b0 : Binds K fd ["table", "x"] []) (C_Table_goes : CalM P w K mg base 1 A_Table "goes" ["self", "s", "x"] R_Table_goes) (C_Table_states : CalM P w K mg base 1 A_Table "states" ["self"] R_Table_states) : Cal P w K mg base 2 "goings_on" ["table", "x"] R_goings_on :=
  Cal.mk' (fn_goings_on bz kf cz F0 C_Table_goes C_Table_states) g0 F0.kp b0

def m_unlike_ones_c1_p (x4 : Int × (Tup Int)) (x12 : Tup Int) : Option Bool := (atI (Tup.l x4.2) (1 : Int)).bind fun x20 => (atI (Tup.l x12) (1 : Int)).bind fun x23 => some (!(decide (x20 = x23)))
def m_unlike_ones_c1 (x4 : Int × (Tup Int)) (x12 : Tup Int) : Option (Tup (Tup Int)) :=  some (Tup.mk [x4.2, x12] : Tup (Tup Int))
def m_unlike_ones_l0 (p_some : List (Tup Int)) (x4 : Int × (Tup Int)) (s6 : (List (Tup (Tup Int)))) : Option (List (Tup (Tup Int))) := (selO (m_unlike_ones_c1_p x4) (m_unlike_ones_c1 x4) (cutL p_some (some (x4.1 + (1 : Int))) none)).bind fun ys28 => (catL s6 ys28).bind fun x30 => some (x30)
def m_unlike_ones (p_some : List (Tup Int)) : Option (List (Tup (Tup Int))) :=  (foldO (m_unlike_ones_l0 p_some) (enumFrom 0 p_some) (([] : List (Tup (Tup Int))))).bind fun s31 => some s31
inductive R_unlike_ones : List Slot → RSlot → List Slot → Prop
  | mk (p_some : List (Tup Int))  {r : List (Tup (Tup Int))} : m_unlike_ones p_some = some r → R_unlike_ones [.fz p_some] (.fr r) [.any]
def t_unlike_ones (K : Fg) : TS := tSeq (tAsg (tLst (tNil)) (gName 1)) (tSeq (tFor (iEnum K (tCons (tVar 0) (tNil))) (gTup K 2 (gCons (gName 2) (gCons (gName 3) (gNil)))) (tDrop (tBM K "list" rExtend (tVar 1) (tCons (tLc (iList K (L2.tSl (rSlL K) (tVar 0) (tPart (tOp (rI0 fun i j => .int (i + j)) (tVar 2) (tC (.int 1)))) (tNoPart))) (gName 4) (tTest (tOp rNe (tOp (rIxT K) (tVar 3) (tC (.int 1))) (tOp (rIxT K) (tVar 4) (tC (.int 1))))) (tTup (tCons (tVar 3) (tCons (tVar 4) (tNil)))) [4]) (tNil))))) (tRet (tVar 1)))
theorem sc_unlike_ones : FnScope ["some", "found", "k", "one", "other"] ["some"] (defScope s_unlike_ones) := ⟨rfl, rfl, rfl, by decide +kernel, rfl, by decide +kernel, by decide +kernel⟩
theorem sem_unlike_ones {K : Fg} (kf : KF K) {vs : List V} {H : Hp} {Q : VK} {E : XK} (h : Prom K R_unlike_ones vs H Q E) {D : Ends} (hD : ∀ u H, Q u H → D.rt u H) (hN : ∀ σ H, Q .non H → D.nx σ H) : t_unlike_ones K D (start ["some", "found", "k", "one", "other"] vs) H := by
  obtain ⟨F, A, rs, A', hR, fh, hS, nd, q⟩ := h
  cases hR with | @mk p_some  r hm => ?_
  have hl := slots_len hS
  obtain ⟨va0, rfl⟩ := len1 (vs := vs) (by simpa using hl.symm)
  have h : St K ⟨F, H, []⟩ F H [some va0, none, none, none, none] [.fz (p_some : List (Tup Int)), .any, .any, .any, .any] := St.start fh hS nd [none, none, none, none]
  generalize hB : (⟨F, H, []⟩ : Base) = B0 at h
  have q0 := q
  have q : ∀ u F' H', Fin K B0 (.fr r) [.any] u F' H' → D.rt u H' := by subst hB; exact fun u F' H' z => hD _ _ (q u F' H' z)
  have qN : ∀ σ F' H', Fin K B0 (.fr r) [.any] .non F' H' → D.nx σ H' := by subst hB; exact fun σ F' H' z => hN _ _ (q0 _ F' H' z)
  clear hB q0 hD hN
  rw [show start ["some", "found", "k", "one", "other"] [va0] = [some va0, none, none, none, none] from rfl]
  unfold t_unlike_ones
  unfold m_unlike_ones at hm
  refine Q_asg ?_
  refine S_tL ?_
  refine S_nil ?_
  refine S_lstO (xs := ([] : List (Tup (Tup Int)))) h (.nil) (Nat.le_of_ble_eq_true rfl) fun p1 F H hBp1 h => ?_
  refine S_gName ?_
  have h : St K B0 F H (List.set [some va0, none, none, none, none] 1 (some (V.ref p1))) [.fz (p_some : List (Tup Int)), .own p1 ([] : List (Tup (Tup Int))), .any, .any, .any] := St.setOwn 1 h
  refine Q_for ?_
  refine S_iE ?_
  refine S_cons ?_
  refine S_var 0 h rfl rfl fun v2 h => ?_
  refine S_nil ?_
  refine S_enum (h.vF 0 rfl rfl) fun a3 e1 => ?_
  subst e1
  obtain ⟨s31, hs31, hm⟩ := ob hm
  refine S_fold (ts := [some (V.ref a3)]) (TM := [.fz (p_some : List (Tup Int))]) (Mf := fun (s6 : (List (Tup (Tup Int)))) => [.fz (p_some : List (Tup Int)), .own p1 s6, .any, .any, .any]) (yields_enum a3 p_some) hs31 (h.weak ⟨.inr rfl, .inr rfl, .inr rfl, .inl rfl, .inl rfl, .inl rfl, trivial⟩) (fun s6 σ F H h => (h.vF 0 rfl rfl)) (fun i x4 s6 s' v5 σ F H D hx hb h hn => ?_) (fun σ F H h => ?_)
  · have hm := hb
    unfold m_unlike_ones_l0 at hm
    have h : St K B0 F H (some v5 :: some (V.ref a3) :: σ) [.fz (x4 : Int × (Tup Int)), .fz (p_some : List (Tup Int)), .fz (p_some : List (Tup Int)), .own p1 s6, .any, .any, .any] := h
    refine S_gPair h (h.fz 0 rfl rfl) fun v7 v8 h => ?_
    refine S_gCons ?_
    refine S_gName ?_
    have h : St K B0 F H (some v8 :: some v7 :: some v5 :: some (V.ref a3) :: List.set (σ) 2 (some v7)) [.fz (x4.2 : Tup Int), .fz (x4.1 : Int), .fz (x4 : Int × (Tup Int)), .fz (p_some : List (Tup Int)), .fz (p_some : List (Tup Int)), .own p1 s6, .fz (x4.1 : Int), .any, .any] := St.setF (v := v7) (x := (x4.1 : Int)) h 6 (h.fz 1 rfl rfl)
    refine S_gCons ?_
    refine S_gName ?_
    have h : St K B0 F H (some v8 :: some v7 :: some v5 :: some (V.ref a3) :: List.set (List.set (σ) 2 (some v7)) 3 (some v8)) [.fz (x4.2 : Tup Int), .fz (x4.1 : Int), .fz (x4 : Int × (Tup Int)), .fz (p_some : List (Tup Int)), .fz (p_some : List (Tup Int)), .own p1 s6, .fz (x4.1 : Int), .fz (x4.2 : Tup Int), .any] := St.setF (v := v8) (x := (x4.2 : Tup Int)) h 7 (h.fz 0 rfl rfl)
    refine S_gNil ?_
    have h := h.pop.pop.pop
    refine S_drop ?_
    refine S_bm ?_
    refine S_varO 1 h rfl rfl ?_
    refine S_tyL (α := (Tup (Tup Int))) (h.vO 2 rfl) ?_
    refine S_cons ?_
    refine S_lc ?_
    refine S_iL ?_
    refine S_sl ?_
    refine S_var 1 h rfl rfl fun v9 h => ?_
    refine S_part ?_
    refine S_op ?_
    refine S_varI 2 h rfl rfl ?_
    refine S_c ?_
    refine S_I0 ?_
    refine S_partI ?_
    refine S_noPart ?_
    refine S_slL h.pop (h.vF 0 rfl rfl) fun p10 F H hBp10 h => ?_
    refine S_itL (h.vO 0 rfl) fun p10 e1 => ?_
    obtain rfl := V.ref.inj e1
    obtain ⟨ys28, hys28, hm⟩ := ob hm
    refine S_selO (ts := [some (V.ref p10), some (V.ref a3)]) (TM := [.own p10 (cutL p_some (some (x4.1 + (1 : Int))) none), .fz (p_some : List (Tup Int))]) (M := [.fz (p_some : List (Tup Int)), .own p1 s6, .fz (x4.1 : Int), .fz (x4.2 : Tup Int), .any]) (yields_list p10 (cutL p_some (some (x4.1 + (1 : Int))) none)) hys28 h rfl ⟨rfl, trivial⟩ (view_len (h.vO 0 rfl)) (fun w F H h => (h.vO 0 rfl)) (fun x12 c v13 D14 a15 F H G N hp hf h hG hN => ?_) (fun D29 F H hBD29 h => ?_)
    · have hm := hp
      unfold m_unlike_ones_c1_p at hm
      have h : St K B0 F H (some v13 :: some (V.ref D14) :: some (V.ref p10) :: some (V.ref a3) :: wipe (List.set (List.set (σ) 2 (some v7)) 3 (some v8)) [4]) [.fz (x12 : Tup Int), .own D14 a15, .own p10 (cutL p_some (some (x4.1 + (1 : Int))) none), .fz (p_some : List (Tup Int)), .fz (p_some : List (Tup Int)), .own p1 s6, .fz (x4.1 : Int), .fz (x4.2 : Tup Int), .any] := h
      refine S_gName ?_
      have h : St K B0 F H (some (V.ref D14) :: some (V.ref p10) :: some (V.ref a3) :: List.set (wipe (List.set (List.set (σ) 2 (some v7)) 3 (some v8)) [4]) 4 (some v13)) [.own D14 a15, .own p10 (cutL p_some (some (x4.1 + (1 : Int))) none), .fz (p_some : List (Tup Int)), .fz (p_some : List (Tup Int)), .own p1 s6, .fz (x4.1 : Int), .fz (x4.2 : Tup Int), .fz (x12 : Tup Int)] := St.setF (v := v13) (x := (x12 : Tup Int)) h.pop 7 (h.fz 0 rfl rfl)
      refine ⟨(wipe_set (by decide)).trans wipe_idem, ?_⟩
      refine T_test ?_
      refine S_op ?_
      refine S_op ?_
      refine S_var 3 h rfl rfl fun v18 h => ?_
      refine S_c ?_
      obtain ⟨x20, hx20, hm⟩ := ob hm
      refine S_ixT h.pop (h.fz 0 rfl rfl) hx20 fun u19 h => ?_
      obtain rfl : u19 = (V.int x20) := h.fz 0 rfl rfl
      have h := h.pop
      refine S_op ?_
      refine S_var 3 h rfl rfl fun v21 h => ?_
      refine S_c ?_
      obtain ⟨x23, hx23, hm⟩ := ob hm
      refine S_ixT h.pop (h.fz 0 rfl rfl) hx23 fun u22 h => ?_
      obtain rfl : u22 = (V.int x23) := h.fz 0 rfl rfl
      have h := h.pop
      refine S_neI ?_
      refine T_bl ?_
      cases hm
      refine S_iteP (fun hc => ?_) (fun hc => ?_)
      · obtain ⟨z, hm⟩ := hf hc
        have hf := hm
        unfold m_unlike_ones_c1 at hm
        refine S_tT ?_
        refine S_cons ?_
        refine S_var 3 h rfl rfl fun v25 h => ?_
        refine S_cons ?_
        refine S_var 4 h rfl rfl fun v26 h => ?_
        refine S_nil ?_
        refine S_tup (xs := ([x4.2, x12] : List (Tup Int))) h.pop.pop (.cons (h.fz 1 rfl rfl) (.cons (h.fz 0 rfl rfl) .nil)) (Nat.le_of_ble_eq_true rfl) fun p27 F H h => ?_
        have hz := h
        cases hm
        exact hG _ _ _ _ hc hf (St.unset (ts := [some (V.ref D14), some (V.ref p10), some (V.ref a3)]) (TM := [.own D14 a15, .own p10 (cutL p_some (some (x4.1 + (1 : Int))) none), .fz (p_some : List (Tup Int))]) (M := [.fz (p_some : List (Tup Int)), .own p1 s6, .fz (x4.1 : Int), .fz (x4.2 : Tup Int), .any]) (hz.pop.weak ⟨.inr rfl, .inr rfl, .inr rfl, .inr rfl, .inr rfl, .inr rfl, .inr rfl, .inl rfl, trivial⟩) rfl rfl) (hz.fz 0 rfl rfl)
      · exact hN _ _ hc (St.unset (ts := [some (V.ref D14), some (V.ref p10), some (V.ref a3)]) (TM := [.own D14 a15, .own p10 (cutL p_some (some (x4.1 + (1 : Int))) none), .fz (p_some : List (Tup Int))]) (M := [.fz (p_some : List (Tup Int)), .own p1 s6, .fz (x4.1 : Int), .fz (x4.2 : Tup Int), .any]) (h.weak ⟨.inr rfl, .inr rfl, .inr rfl, .inr rfl, .inr rfl, .inr rfl, .inr rfl, .inl rfl, trivial⟩) rfl rfl)
    have h : St K B0 F H (some (V.ref D29) :: some (V.ref p10) :: some (V.ref a3) :: List.set (List.set (σ) 2 (some v7)) 3 (some v8)) [.own D29 ys28, .own p10 (cutL p_some (some (x4.1 + (1 : Int))) none), .fz (p_some : List (Tup Int)), .fz (p_some : List (Tup Int)), .own p1 s6, .fz (x4.1 : Int), .fz (x4.2 : Tup Int), .any] := h
    have h := h.nip
    refine S_frz h hBD29 _ fun F h => ?_
    refine S_nil ?_
    obtain ⟨x30, hx30, hm⟩ := ob hm
    refine S_extend 2 h.pop (by rfl) (h.vF 0 rfl rfl) hx30 fun H h => ?_
    have h : St K B0 F H (some (V.ref a3) :: List.set (List.set (σ) 2 (some v7)) 3 (some v8)) [.fz (p_some : List (Tup Int)), .fz (p_some : List (Tup Int)), .own p1 x30, .fz (x4.1 : Int), .fz (x4.2 : Tup Int), .any] := h
    have hz := h
    cases hm
    exact hn _ _ _ (hz.weak ⟨.inr rfl, .inr rfl, .inr rfl, .inl rfl, .inl rfl, .inl rfl, trivial⟩)
  have h : St K B0 F H (some (V.ref a3) :: σ) [.fz (p_some : List (Tup Int)), .fz (p_some : List (Tup Int)), .own p1 s31, .any, .any, .any] := h
  have h := h.pop
  refine Q_nx ?_
  refine S_ret ?_
  refine S_varO 0 h rfl rfl ?_
  have hz := h
  cases hm
  exact q _ _ _ (hz.finOwn 1 (by rfl) hBp1 aft0)
theorem fn_unlike_ones {P : Program} {w : World} {K : Fg} {mg : Str → Option Value} {base : Heap} (bz : Blt mg) (kf : KF K) (cz : Cst mg) {f : Addr} {fd : FuncData} (F0 : Fun K "unlike_ones" "unlike_ones" s_unlike_ones f fd)  : FnOk P w K mg base CX0 1 f fd ["some"] (Prom K R_unlike_ones) :=
  F0.ok sc_unlike_ones (prom_len 1 fun A s A' h => by cases h; rfl) fun cdv A outer s H vs Q E hr h => ⟨t_unlike_ones K, pss_cons (ps_set (i := 1) sc_unlike_ones.nd rfl (.inl rfl) (pe_lst (pa_nil))) (pss_cons (ps_for PassesOwn.never rfl (pi_enum (by rfl) bz.enumerate (pa_cons (pv 0) (pa_nil))) (pg_tup rfl (pgs_cons (pg_name (i := 2) sc_unlike_ones.nd rfl (.inl rfl)) (pgs_cons (pg_name (i := 3) sc_unlike_ones.nd rfl (.inr rfl)) (pgs_nil)))) (pss_one (ps_expr (pe_bm PySem.F.plainAttrs_list PySem.F.slot_list_extend PySem.F.type_list_extend mt_extend (pv 1) (pa_cons (pe_lc (own := [("other", 4)]) (g := gName 4) (tt := tTest (tOp rNe (tOp (rIxT K) (tVar 3) (tC (.int 1))) (tOp (rIxT K) (tVar 4) (tC (.int 1))))) (te := tTup (tCons (tVar 3) (tCons (tVar 4) (tNil)))) (wi := iList K (L2.tSl (rSlL K) (tVar 0) (tPart (tOp (rI0 fun i j => .int (i + j)) (tVar 2) (tC (.int 1)))) (tNoPart))) rfl sc_unlike_ones.nd (pi_list (pe_slice (r := (rSlL K)) sl_list (pv 0) (po_some (pe_op op_add (pv 2) (pe_int))) (po_none))) (blkOk_by (N := ["some", "found", "k", "one", "other"]) (sc := defScope s_unlike_ones) (by decide +kernel)) (fun _ _ _ _ _ => pg_name (i := 4) sc_unlike_ones.nd rfl (by first | exact .inl rfl | exact .inr rfl)) (fun _ _ _ _ _ => pts_one (pt_cmpR (r := rNe) op_ne (pe_ix (r := rIxT K) ix_tup (pv 3) (pe_int) (fun _ _ => rfl)) (pe_ix (r := rIxT K) ix_tup (pv 4) (pe_int) (fun _ _ => rfl)) (nomark _))) (fun _ _ _ _ _ => pe_tup (pa_cons (pv 3) (pa_cons (pv 4) (pa_nil))))) (pa_nil)))))) (pss_one (ps_ret (pv 1)))), sem_unlike_ones kf h (fun _ _ z => z) fun _ _ z => z⟩
theorem ok_unlike_ones {P : Program} {w : World} {K : Fg} {mg : Str → Option Value} {base : Heap} (bz : Blt mg) (kf : KF K) (cz : Cst mg) {f : Addr} {fd : FuncData} (F0 : Fun K "unlike_ones" "unlike_ones" s_unlike_ones f fd) (g0 : mg "unlike_ones" = some (.ref f)) (b0 : Binds K fd ["some"] [])  : Cal P w K mg base 1 "unlike_ones" ["some"] R_unlike_ones :=
  Cal.mk' (fn_unlike_ones bz kf cz F0) g0 F0.kp b0

def m_Table_letters (p_self : C_Table) : Option Int := (shlO (1 : Int) (List.length p_self.x.2.2.2.2.1 : Int)).bind fun x3 => some x3
inductive R_Table_letters : List Slot → RSlot → List Slot → Prop
  | mk (p_self : C_Table)  {r : Int} : m_Table_letters p_self = some r → R_Table_letters [.fz p_self] (.fz r) [.any]
def t_Table_letters (K : Fg) : TS := tRet (tOp (rI CPow (fun i j => .int (i * 2 ^ j.toNat))) (tC (.int 1)) (tCB (rLenG K) (tCons (tFld K (tVar 0) "all_keys") (tNil))))
theorem sc_Table_letters : FnScope ["self"] ["self"] (defScope s_Table_letters) := ⟨rfl, rfl, rfl, by decide +kernel, rfl, by decide +kernel, by decide +kernel⟩
theorem sem_Table_letters {K : Fg} (kf : KF K) {vs : List V} {H : Hp} {Q : VK} {E : XK} (h : Prom K R_Table_letters vs H Q E) {D : Ends} (hD : ∀ u H, Q u H → D.rt u H) (hN : ∀ σ H, Q .non H → D.nx σ H) : t_Table_letters K D (start ["self"] vs) H := by
  obtain ⟨F, A, rs, A', hR, fh, hS, nd, q⟩ := h
  cases hR with | @mk p_self  r hm => ?_
  have hl := slots_len hS
  obtain ⟨va0, rfl⟩ := len1 (vs := vs) (by simpa using hl.symm)
  have h : St K ⟨F, H, []⟩ F H [some va0] [.fz (p_self : C_Table)] := St.start fh hS nd []
  generalize hB : (⟨F, H, []⟩ : Base) = B0 at h
  have q0 := q
  have q : ∀ u F' H', Fin K B0 (.fz r) [.any] u F' H' → D.rt u H' := by subst hB; exact fun u F' H' z => hD _ _ (q u F' H' z)
  have qN : ∀ σ F' H', Fin K B0 (.fz r) [.any] .non F' H' → D.nx σ H' := by subst hB; exact fun σ F' H' z => hN _ _ (q0 _ F' H' z)
  clear hB q0 hD hN
  rw [show start ["self"] [va0] = [some va0] from rfl]
  unfold t_Table_letters
  unfold m_Table_letters at hm
  refine S_ret ?_
  refine S_op ?_
  refine S_c ?_
  refine S_cb ?_
  refine S_cons ?_
  refine S_fldG ?_
  refine S_var 0 h rfl rfl fun v1 h => ?_
  refine S_fld 4 h.pop (h.vIF (h.fz 0 rfl rfl)) kf.cl_Table kf.n_Table_all_keys (by decide +kernel) (by rfl) fun u2 h => ?_
  refine S_nil ?_
  refine S_lenL (h.vF 0 rfl rfl) ?_
  have h := h.pop
  obtain ⟨x3, hx3, hm⟩ := ob hm
  refine S_shl hx3 ?_
  have hz := h
  cases hm
  exact q _ _ _ (hz.finI aft0)
theorem fn_Table_letters {P : Program} {w : World} {K : Fg} {mg : Str → Option Value} {base : Heap} (bz : Blt mg) (kf : KF K) (cz : Cst mg) {f : Addr} {fd : FuncData} (F0 : Fun K "letters" "Table.letters" s_Table_letters f fd)  : FnOk P w K mg base CX0 1 f fd ["self"] (Prom K R_Table_letters) :=
  F0.ok sc_Table_letters (prom_len 1 fun A s A' h => by cases h; rfl) fun cdv A outer s H vs Q E hr h => ⟨t_Table_letters K, pss_one (ps_ret (pe_op op_shl (pe_int) (pe_callB (r := rLenG K) cr_lenG (by rfl) bz.len (by decide +kernel) (pa_cons (pe_fld (pv 0) rfl) (pa_nil))))), sem_Table_letters kf h (fun _ _ z => z) fun _ _ z => z⟩
theorem ok_Table_letters {P : Program} {w : World} {K : Fg} {mg : Str → Option Value} {base : Heap} (bz : Blt mg) (kf : KF K) (cz : Cst mg) {f : Addr} {fd : FuncData} (F0 : Fun K "letters" "Table.letters" s_Table_letters f fd) (g0 : Meth K A_Table "letters" f) (b0 : Binds K fd ["self"] [])  : CalM P w K mg base 1 A_Table "letters" ["self"] R_Table_letters :=
  ⟨f, fd, (fn_Table_letters bz kf cz F0), g0, b0⟩

def m_pairs_c0  (x5 : Int) : Option (Tup Int) :=  some (Tup.mk [x5, x5] : Tup Int)
def m_pairs_c2_p (s21 : (List (Tup (Tup Int)))) (x28 : Tup (Tup Int)) : Option Bool := (inO x28 s21).bind fun c35 => some (!c35)
def m_pairs_c2  (x28 : Tup (Tup Int)) : Option (Tup (Tup Int)) :=  some x28
def m_pairs_l1 (p_table : C_Table) (x19 : Int) (s21 : (List (Tup (Tup Int)))) : Option (List (Tup (Tup Int))) := (m_goings_on p_table x19).bind fun r23 => (m_unlike_ones r23).bind fun r25 => (selO (m_pairs_c2_p s21) m_pairs_c2 r25).bind fun ys38 => (catL s21 ys38).bind fun x40 => some (x40)
def m_pairs (p_table : C_Table) : Option (List (Tup (Tup Int))) := (m_Table_states p_table).bind fun r2 => (rangeO (List.length r2 : Int)).bind fun xs4 => (mapO m_pairs_c0 xs4).bind fun ys12 => (m_unlike_ones ys12).bind fun r14 => (m_Table_letters p_table).bind fun r17 => (rangeO r17).bind fun xs18 => (foldO (m_pairs_l1 p_table) xs18 (r14)).bind fun s41 => (sortD s41).bind fun x42 => some x42
inductive R_pairs : List Slot → RSlot → List Slot → Prop
  | mk (p_table : C_Table)  {r : List (Tup (Tup Int))} : m_pairs p_table = some r → R_pairs [.fz p_table] (.fr r) [.any]
def t_pairs (K : Fg) : TS := tSeq (tAsg (tCall (Prom K R_unlike_ones) [] E0 (tCons (tLc (iRng1 (tCons (tCB (rLenG K) (tCons (tMeth A_Table "states" (Prom K R_Table_states) [] E0 (tVar 0) (tNil)) (tNil))) (tNil))) (gName 3) (tYes) (tTup (tCons (tVar 3) (tCons (tVar 3) (tNil)))) [3]) (tNil))) (gName 1)) (tSeq (tFor (iRng1 (tCons (tMeth A_Table "letters" (Prom K R_Table_letters) [] E0 (tVar 0) (tNil)) (tNil))) (gName 2) (tDrop (tBM K "list" rExtend (tVar 1) (tCons (tLc (iList K (tCall (Prom K R_unlike_ones) [] E0 (tCons (tCall (Prom K R_goings_on) [] E0 (tCons (tVar 0) (tCons (tVar 2) (tNil)))) (tNil)))) (gName 4) (tTest (tOp (rNotInD K) (tVar 4) (tVar 1))) (tVar 4) [4]) (tNil))))) (tRet (tCB (rSortD K) (tCons (tVar 1) (tNil)))))
theorem sc_pairs : FnScope ["table", "found", "x", "s", "pair"] ["table"] (defScope s_pairs) := ⟨rfl, rfl, rfl, by decide +kernel, rfl, by decide +kernel, by decide +kernel⟩
theorem sem_pairs {K : Fg} (kf : KF K) {vs : List V} {H : Hp} {Q : VK} {E : XK} (h : Prom K R_pairs vs H Q E) {D : Ends} (hD : ∀ u H, Q u H → D.rt u H) (hN : ∀ σ H, Q .non H → D.nx σ H) : t_pairs K D (start ["table", "found", "x", "s", "pair"] vs) H := by
  obtain ⟨F, A, rs, A', hR, fh, hS, nd, q⟩ := h
  cases hR with | @mk p_table  r hm => ?_
  have hl := slots_len hS
  obtain ⟨va0, rfl⟩ := len1 (vs := vs) (by simpa using hl.symm)
  have h : St K ⟨F, H, []⟩ F H [some va0, none, none, none, none] [.fz (p_table : C_Table), .any, .any, .any, .any] := St.start fh hS nd [none, none, none, none]
  generalize hB : (⟨F, H, []⟩ : Base) = B0 at h
  have q0 := q
  have q : ∀ u F' H', Fin K B0 (.fr r) [.any] u F' H' → D.rt u H' := by subst hB; exact fun u F' H' z => hD _ _ (q u F' H' z)
  have qN : ∀ σ F' H', Fin K B0 (.fr r) [.any] .non F' H' → D.nx σ H' := by subst hB; exact fun σ F' H' z => hN _ _ (q0 _ F' H' z)
  clear hB q0 hD hN
  rw [show start ["table", "found", "x", "s", "pair"] [va0] = [some va0, none, none, none, none] from rfl]
  unfold t_pairs
  unfold m_pairs at hm
  refine Q_asg ?_
  refine S_tcall ?_
  refine S_cons ?_
  refine S_lc ?_
  refine S_iR1 ?_
  refine S_cons ?_
  refine S_cb ?_
  refine S_cons ?_
  refine S_methG ?_
  refine S_var 0 h rfl rfl fun v1 h => ?_
  refine S_meth (h.vIF (h.fz 0 rfl rfl)) (by decide +kernel) ?_
  refine S_nil ?_
  obtain ⟨r2, hr2, hm⟩ := ob hm
  refine S_callO (A := [.fz (p_table : C_Table)]) h.pop (slots_cons (ok_fz (h.fz 0 rfl rfl)) slots_nil) (R_Table_states.mk _ hr2) rfl fun p3 F H hBp3 h => ?_
  refine S_frz h hBp3 _ fun F h => ?_
  refine S_nil ?_
  refine S_lenL (h.vF 0 rfl rfl) ?_
  have h := h.pop
  refine S_nil ?_
  obtain ⟨xs4, hxs4, hm⟩ := ob hm
  refine S_rng1 (K := K) hxs4 fun J Y => ?_
  obtain ⟨ys12, hys12, hm⟩ := ob hm
  refine S_mapO (ts := []) (TM := []) (M := [.fz (p_table : C_Table), .any, .any, .any, .any]) Y hys12 h rfl ⟨rfl, trivial⟩ (rng1_len hxs4) (fun w F H h => trivial) (fun x5 z v6 D7 a8 F H G N hf h hG => ?_) (fun D13 F H hBD13 h => ?_)
  · have hm := hf
    unfold m_pairs_c0 at hm
    have h : St K B0 F H (some v6 :: some (V.ref D7) :: wipe [some va0, none, none, none, none] [3]) [.fz (x5 : Int), .own D7 a8, .fz (p_table : C_Table), .any, .any, .any, .any] := h
    refine S_gName ?_
    have h : St K B0 F H (some (V.ref D7) :: List.set (wipe [some va0, none, none, none, none] [3]) 3 (some v6)) [.own D7 a8, .fz (p_table : C_Table), .any, .any, .fz (x5 : Int), .any] := St.setF (v := v6) (x := (x5 : Int)) h.pop 4 (h.fz 0 rfl rfl)
    refine ⟨(wipe_set (by decide)).trans wipe_idem, ?_⟩
    refine if1 ?_
    refine S_tT ?_
    refine S_cons ?_
    refine S_varI 1 h rfl rfl ?_
    refine S_cons ?_
    refine S_varI 1 h rfl rfl ?_
    refine S_nil ?_
    refine S_tup (xs := ([x5, x5] : List Int)) h (.cons rfl (.cons rfl .nil)) (Nat.le_of_ble_eq_true rfl) fun p11 F H h => ?_
    have hz := h
    cases hm
    exact hG _ _ _ (St.unset (ts := [some (V.ref D7)]) (TM := [.own D7 a8]) (M := [.fz (p_table : C_Table), .any, .any, .any, .any]) (hz.pop.weak ⟨.inr rfl, .inr rfl, .inr rfl, .inr rfl, .inl rfl, .inr rfl, trivial⟩) rfl rfl) (hz.fz 0 rfl rfl)
  have h : St K B0 F H (some (V.ref D13) :: [some va0, none, none, none, none]) [.own D13 ys12, .fz (p_table : C_Table), .any, .any, .any, .any] := h
  refine S_frz h hBD13 _ fun F h => ?_
  refine S_nil ?_
  obtain ⟨r14, hr14, hm⟩ := ob hm
  refine S_callO (A := [.fz (ys12 : List (Tup Int))]) h.pop (slots_cons (ok_fz (h.fz 0 rfl rfl)) slots_nil) (R_unlike_ones.mk _ hr14) rfl fun p15 F H hBp15 h => ?_
  refine S_gName ?_
  have h : St K B0 F H (List.set [some va0, none, none, none, none] 1 (some (V.ref p15))) [.fz (p_table : C_Table), .own p15 r14, .any, .any, .any] := St.setOwn 1 h
  refine Q_for ?_
  refine S_iR1 ?_
  refine S_cons ?_
  refine S_methG ?_
  refine S_var 0 h rfl rfl fun v16 h => ?_
  refine S_meth (h.vIF (h.fz 0 rfl rfl)) (by decide +kernel) ?_
  refine S_nil ?_
  obtain ⟨r17, hr17, hm⟩ := ob hm
  refine S_callI (A := [.fz (p_table : C_Table)]) h.pop (slots_cons (ok_fz (h.fz 0 rfl rfl)) slots_nil) (R_Table_letters.mk _ hr17) rfl fun F H h => ?_
  refine S_nil ?_
  obtain ⟨xs18, hxs18, hm⟩ := ob hm
  refine S_rng1 (K := K) hxs18 fun J Y => ?_
  obtain ⟨s41, hs41, hm⟩ := ob hm
  refine S_fold (ts := []) (TM := []) (Mf := fun (s21 : (List (Tup (Tup Int)))) => [.fz (p_table : C_Table), .own p15 s21, .any, .any, .any]) Y hs41 (h.weak ⟨.inr rfl, .inr rfl, .inl rfl, .inl rfl, .inl rfl, trivial⟩) (fun s21 σ F H h => trivial) (fun i x19 s21 s' v20 σ F H D hx hb h hn => ?_) (fun σ F H h => ?_)
  · have hm := hb
    unfold m_pairs_l1 at hm
    have h : St K B0 F H (some v20 :: σ) [.fz (x19 : Int), .fz (p_table : C_Table), .own p15 s21, .any, .any, .any] := h
    refine S_gName ?_
    have h : St K B0 F H (List.set (σ) 2 (some v20)) [.fz (p_table : C_Table), .own p15 s21, .fz (x19 : Int), .any, .any] := St.setF (v := v20) (x := (x19 : Int)) h.pop 2 (h.fz 0 rfl rfl)
    refine S_drop ?_
    refine S_bm ?_
    refine S_varO 0 h rfl rfl ?_
    refine S_tyL (α := (Tup (Tup Int))) (h.vO 1 rfl) ?_
    refine S_cons ?_
    refine S_lc ?_
    refine S_iL ?_
    refine S_tcall ?_
    refine S_cons ?_
    refine S_tcall ?_
    refine S_cons ?_
    refine S_var 0 h rfl rfl fun v22 h => ?_
    refine S_cons ?_
    refine S_varI 1 h rfl rfl ?_
    refine S_nil ?_
    obtain ⟨r23, hr23, hm⟩ := ob hm
    refine S_callO (A := [.fz (p_table : C_Table), .fz (x19 : Int)]) h.pop (slots_cons (ok_fz (h.fz 0 rfl rfl)) (slots_cons (ok_fz rfl) slots_nil)) (R_goings_on.mk _ _ hr23) rfl fun p24 F H hBp24 h => ?_
    refine S_frz h hBp24 _ fun F h => ?_
    refine S_nil ?_
    obtain ⟨r25, hr25, hm⟩ := ob hm
    refine S_callO (A := [.fz (r23 : List (Tup Int))]) h.pop (slots_cons (ok_fz (h.fz 0 rfl rfl)) slots_nil) (R_unlike_ones.mk _ hr25) rfl fun p26 F H hBp26 h => ?_
    refine S_itL (h.vO 0 rfl) fun p26 e1 => ?_
    obtain rfl := V.ref.inj e1
    obtain ⟨ys38, hys38, hm⟩ := ob hm
    refine S_selO (ts := [some (V.ref p26)]) (TM := [.own p26 r25]) (M := [.fz (p_table : C_Table), .own p15 s21, .fz (x19 : Int), .any, .any]) (yields_list p26 r25) hys38 h rfl ⟨rfl, trivial⟩ (view_len (h.vO 0 rfl)) (fun w F H h => (h.vO 0 rfl)) (fun x28 c v29 D30 a31 F H G N hp hf h hG hN => ?_) (fun D39 F H hBD39 h => ?_)
    · have hm := hp
      unfold m_pairs_c2_p at hm
      have h : St K B0 F H (some v29 :: some (V.ref D30) :: some (V.ref p26) :: wipe (List.set (σ) 2 (some v20)) [4]) [.fz (x28 : Tup (Tup Int)), .own D30 a31, .own p26 r25, .fz (p_table : C_Table), .own p15 s21, .fz (x19 : Int), .any, .any] := h
      refine S_gName ?_
      have h : St K B0 F H (some (V.ref D30) :: some (V.ref p26) :: List.set (wipe (List.set (σ) 2 (some v20)) [4]) 4 (some v29)) [.own D30 a31, .own p26 r25, .fz (p_table : C_Table), .own p15 s21, .fz (x19 : Int), .any, .fz (x28 : Tup (Tup Int))] := St.setF (v := v29) (x := (x28 : Tup (Tup Int))) h.pop 6 (h.fz 0 rfl rfl)
      refine ⟨(wipe_set (by decide)).trans wipe_idem, ?_⟩
      refine T_test ?_
      refine S_op ?_
      refine S_var 2 h rfl rfl fun v34 h => ?_
      refine S_varO 3 h rfl rfl ?_
      obtain ⟨c35, hc35, hm⟩ := ob hm
      refine S_niD (dF h (h.fz 0 rfl rfl)) (dL h (h.vO 4 rfl)) hc35 (by decide) ?_
      have h := h.pop
      refine T_bl ?_
      cases hm
      refine S_iteP (fun hc => ?_) (fun hc => ?_)
      · obtain ⟨z, hm⟩ := hf hc
        have hf := hm
        unfold m_pairs_c2 at hm
        refine S_var 2 h rfl rfl fun v37 h => ?_
        have hz := h
        cases hm
        exact hG _ _ _ _ hc hf (St.unset (ts := [some (V.ref D30), some (V.ref p26)]) (TM := [.own D30 a31, .own p26 r25]) (M := [.fz (p_table : C_Table), .own p15 s21, .fz (x19 : Int), .any, .any]) (hz.pop.weak ⟨.inr rfl, .inr rfl, .inr rfl, .inr rfl, .inr rfl, .inr rfl, .inl rfl, trivial⟩) rfl rfl) (hz.fz 0 rfl rfl)
      · exact hN _ _ hc (St.unset (ts := [some (V.ref D30), some (V.ref p26)]) (TM := [.own D30 a31, .own p26 r25]) (M := [.fz (p_table : C_Table), .own p15 s21, .fz (x19 : Int), .any, .any]) (h.weak ⟨.inr rfl, .inr rfl, .inr rfl, .inr rfl, .inr rfl, .inr rfl, .inl rfl, trivial⟩) rfl rfl)
    have h : St K B0 F H (some (V.ref D39) :: some (V.ref p26) :: List.set (σ) 2 (some v20)) [.own D39 ys38, .own p26 r25, .fz (p_table : C_Table), .own p15 s21, .fz (x19 : Int), .any, .any] := h
    have h := h.nip
    refine S_frz h hBD39 _ fun F h => ?_
    refine S_nil ?_
    obtain ⟨x40, hx40, hm⟩ := ob hm
    refine S_extend 1 h.pop (by rfl) (h.vF 0 rfl rfl) hx40 fun H h => ?_
    have h : St K B0 F H (List.set (σ) 2 (some v20)) [.fz (p_table : C_Table), .own p15 x40, .fz (x19 : Int), .any, .any] := h
    have hz := h
    cases hm
    exact hn _ _ _ (hz.weak ⟨.inr rfl, .inr rfl, .inl rfl, .inl rfl, .inl rfl, trivial⟩)
  have h : St K B0 F H (σ) [.fz (p_table : C_Table), .own p15 s41, .any, .any, .any] := h
  refine Q_nx ?_
  refine S_ret ?_
  refine S_cb ?_
  refine S_cons ?_
  refine S_varO 0 h rfl rfl ?_
  refine S_nil ?_
  obtain ⟨x42, hx42, hm⟩ := ob hm
  refine S_sortD h (h.vO 1 rfl) hx42 (by decide) fun p43 F H hBp43 h => ?_
  have hz := h
  cases hm
  exact q _ _ _ (hz.finFr hBp43 aft0)
theorem fn_pairs {P : Program} {w : World} {K : Fg} {mg : Str → Option Value} {base : Heap} (bz : Blt mg) (kf : KF K) (cz : Cst mg) {f : Addr} {fd : FuncData} (F0 : Fun K "pairs" "pairs" s_pairs f fd) (C_Table_letters : CalM P w K mg base 1 A_Table "letters" ["self"] R_Table_letters) (C_Table_states : CalM P w K mg base 1 A_Table "states" ["self"] R_Table_states) (C_goings_on : Cal P w K mg base 2 "goings_on" ["table", "x"] R_goings_on) (C_unlike_ones : Cal P w K mg base 1 "unlike_ones" ["some"] R_unlike_ones) : FnOk P w K mg base CX0 3 f fd ["table"] (Prom K R_pairs) :=
  F0.ok sc_pairs (prom_len 1 fun A s A' h => by cases h; rfl) fun cdv A outer s H vs Q E hr h => ⟨t_pairs K, pss_cons (ps_set (i := 1) sc_pairs.nd rfl (.inr rfl) (C_unlike_ones.pe (hr.mono (by decide)) (by rfl) (pa_cons (pe_lc (own := [("s", 3)]) (g := gName 3) (tt := tYes) (te := tTup (tCons (tVar 3) (tCons (tVar 3) (tNil)))) (wi := iRng1 (tCons (tCB (rLenG K) (tCons (tMeth A_Table "states" (Prom K R_Table_states) [] E0 (tVar 0) (tNil)) (tNil))) (tNil))) rfl sc_pairs.nd (pi_range1 (by rfl) bz.range (pa_cons (pe_callB (r := rLenG K) cr_lenG (by rfl) bz.len (by decide +kernel) (pa_cons (C_Table_states.pe0 kf.cl_Table (hr.mono (by decide)) (pv 0)) (pa_nil))) (pa_nil))) (blkOk_by (N := ["table", "found", "x", "s", "pair"]) (sc := defScope s_pairs) (by decide +kernel)) (fun _ _ _ _ _ => pg_name (i := 3) sc_pairs.nd rfl (by first | exact .inl rfl | exact .inr rfl)) (fun _ _ _ _ _ => pts_nil) (fun _ _ _ _ _ => pe_tup (pa_cons (pv 3) (pa_cons (pv 3) (pa_nil))))) (pa_nil)))) (pss_cons (ps_for PassesOwn.never rfl (pi_range1 (by rfl) bz.range (pa_cons (C_Table_letters.pe0 kf.cl_Table (hr.mono (by decide)) (pv 0)) (pa_nil))) (pg_name (i := 2) sc_pairs.nd rfl (.inl rfl)) (pss_one (ps_expr (pe_bm PySem.F.plainAttrs_list PySem.F.slot_list_extend PySem.F.type_list_extend mt_extend (pv 1) (pa_cons (pe_lc (own := [("pair", 4)]) (g := gName 4) (tt := tTest (tOp (rNotInD K) (tVar 4) (tVar 1))) (te := tVar 4) (wi := iList K (tCall (Prom K R_unlike_ones) [] E0 (tCons (tCall (Prom K R_goings_on) [] E0 (tCons (tVar 0) (tCons (tVar 2) (tNil)))) (tNil)))) rfl sc_pairs.nd (pi_list (C_unlike_ones.pe (hr.mono (by decide)) (by rfl) (pa_cons (C_goings_on.pe (hr.mono (by decide)) (by rfl) (pa_cons (pv 0) (pa_cons (pv 2) (pa_nil)))) (pa_nil)))) (blkOk_by (N := ["table", "found", "x", "s", "pair"]) (sc := defScope s_pairs) (by decide +kernel)) (fun _ _ _ _ _ => pg_name (i := 4) sc_pairs.nd rfl (by first | exact .inl rfl | exact .inr rfl)) (fun _ _ _ _ _ => pts_one (pt_cmpR (r := (rNotInD K)) (op_notInD (hu65 hr)) (pv 4) (pv 1) (by with_unfolding_all rfl))) (fun _ _ _ _ _ => pv 4)) (pa_nil)))))) (pss_one (ps_ret (pe_callB (r := rSortD K) (cr_sortD (hu64 hr)) (by rfl) bz.sorted (by decide +kernel) (pa_cons (pv 1) (pa_nil)))))), sem_pairs kf h (fun _ _ z => z) fun _ _ z => z⟩
theorem ok_pairs {P : Program} {w : World} {K : Fg} {mg : Str → Option Value} {base : Heap} (bz : Blt mg) (kf : KF K) (cz : Cst mg) {f : Addr} {fd : FuncData} (F0 : Fun K "pairs" "pairs" s_pairs f fd) (g0 : mg "pairs" = some (.ref f)) (b0 : Binds K fd ["table"] []) (C_Table_letters : CalM P w K mg base 1 A_Table "letters" ["self"] R_Table_letters) (C_Table_states : CalM P w K mg base 1 A_Table "states" ["self"] R_Table_states) (C_goings_on : Cal P w K mg base 2 "goings_on" ["table", "x"] R_goings_on) (C_unlike_ones : Cal P w K mg base 1 "unlike_ones" ["some"] R_unlike_ones) : Cal P w K mg base 3 "pairs" ["table"] R_pairs :=
  Cal.mk' (fn_pairs bz kf cz F0 C_Table_letters C_Table_states C_goings_on C_unlike_ones) g0 F0.kp b0

def m_raceless_names_c1 (x5 : Int) (x13 : Tup Int) : Option Int := (atI (Tup.l x13) x5).bind fun x21 => some x21
def m_raceless_names_c0  (x5 : Int) : Option (Tup Int) := (mapO (m_raceless_names_c1 x5) (Tup.l tv_HALVINGS)).bind fun ys22 => some (Tup.mk ys22)
def m_raceless_names (p_table : C_Table) : Option (List (Tup Int)) := (m_Table_states p_table).bind fun r2 => (rangeO (List.length r2 : Int)).bind fun xs4 => (mapO m_raceless_names_c0 xs4).bind fun ys25 => some ys25
inductive R_raceless_names : List Slot → RSlot → List Slot → Prop
  | mk (p_table : C_Table)  {r : List (Tup Int)} : m_raceless_names p_table = some r → R_raceless_names [.fz p_table] (.fr r) [.any]
def t_raceless_names (K : Fg) : TS := tRet (tLc (iRng1 (tCons (tCB (rLenG K) (tCons (tMeth A_Table "states" (Prom K R_Table_states) [] E0 (tVar 0) (tNil)) (tNil))) (tNil))) (gName 1) (tYes) (tCB (rTupG K) (tCons (tLc (iTup K (tC (.ref 25))) (gName 2) (tYes) (tOp (rIxT K) (tVar 2) (tVar 1)) [2]) (tNil))) [1])
theorem sc_raceless_names : FnScope ["table", "s", "way"] ["table"] (defScope s_raceless_names) := ⟨rfl, rfl, rfl, by decide +kernel, rfl, by decide +kernel, by decide +kernel⟩
theorem sem_raceless_names {K : Fg} (kf : KF K) {vs : List V} {H : Hp} {Q : VK} {E : XK} (h : Prom K R_raceless_names vs H Q E) {D : Ends} (hD : ∀ u H, Q u H → D.rt u H) (hN : ∀ σ H, Q .non H → D.nx σ H) : t_raceless_names K D (start ["table", "s", "way"] vs) H := by
  obtain ⟨F, A, rs, A', hR, fh, hS, nd, q⟩ := h
  cases hR with | @mk p_table  r hm => ?_
  have hl := slots_len hS
  obtain ⟨va0, rfl⟩ := len1 (vs := vs) (by simpa using hl.symm)
  have h : St K ⟨F, H, []⟩ F H [some va0, none, none] [.fz (p_table : C_Table), .any, .any] := St.start fh hS nd [none, none]
  generalize hB : (⟨F, H, []⟩ : Base) = B0 at h
  have q0 := q
  have q : ∀ u F' H', Fin K B0 (.fr r) [.any] u F' H' → D.rt u H' := by subst hB; exact fun u F' H' z => hD _ _ (q u F' H' z)
  have qN : ∀ σ F' H', Fin K B0 (.fr r) [.any] .non F' H' → D.nx σ H' := by subst hB; exact fun σ F' H' z => hN _ _ (q0 _ F' H' z)
  clear hB q0 hD hN
  rw [show start ["table", "s", "way"] [va0] = [some va0, none, none] from rfl]
  unfold t_raceless_names
  unfold m_raceless_names at hm
  refine S_ret ?_
  refine S_lc ?_
  refine S_iR1 ?_
  refine S_cons ?_
  refine S_cb ?_
  refine S_cons ?_
  refine S_methG ?_
  refine S_var 0 h rfl rfl fun v1 h => ?_
  refine S_meth (h.vIF (h.fz 0 rfl rfl)) (by decide +kernel) ?_
  refine S_nil ?_
  obtain ⟨r2, hr2, hm⟩ := ob hm
  refine S_callO (A := [.fz (p_table : C_Table)]) h.pop (slots_cons (ok_fz (h.fz 0 rfl rfl)) slots_nil) (R_Table_states.mk _ hr2) rfl fun p3 F H hBp3 h => ?_
  refine S_frz h hBp3 _ fun F h => ?_
  refine S_nil ?_
  refine S_lenL (h.vF 0 rfl rfl) ?_
  have h := h.pop
  refine S_nil ?_
  obtain ⟨xs4, hxs4, hm⟩ := ob hm
  refine S_rng1 (K := K) hxs4 fun J Y => ?_
  obtain ⟨ys25, hys25, hm⟩ := ob hm
  refine S_mapO (ts := []) (TM := []) (M := [.fz (p_table : C_Table), .any, .any]) Y hys25 h rfl ⟨rfl, trivial⟩ (rng1_len hxs4) (fun w F H h => trivial) (fun x5 z v6 D7 a8 F H G N hf h hG => ?_) (fun D26 F H hBD26 h => ?_)
  · have hm := hf
    unfold m_raceless_names_c0 at hm
    have h : St K B0 F H (some v6 :: some (V.ref D7) :: wipe [some va0, none, none] [1]) [.fz (x5 : Int), .own D7 a8, .fz (p_table : C_Table), .any, .any] := h
    refine S_gName ?_
    have h : St K B0 F H (some (V.ref D7) :: List.set (wipe [some va0, none, none] [1]) 1 (some v6)) [.own D7 a8, .fz (p_table : C_Table), .fz (x5 : Int), .any] := St.setF (v := v6) (x := (x5 : Int)) h.pop 2 (h.fz 0 rfl rfl)
    refine ⟨(wipe_set (by decide)).trans wipe_idem, ?_⟩
    refine if1 ?_
    refine S_cb ?_
    refine S_cons ?_
    refine S_lc ?_
    refine S_iT ?_
    refine S_cg (P := fun v => ∀ F, rp K F v tv_HALVINGS) kf.tc_HALVINGS fun u11 tu11 => ?_
    have h := h.push (v := u11) (x := (tv_HALVINGS : Tup (Tup Int))) (tu11 _)
    refine S_itT h (h.fz 0 rfl rfl) fun a12 e1 => ?_
    subst e1
    obtain ⟨ys22, hys22, hm⟩ := ob hm
    refine S_mapO (ts := [some (V.ref a12), some (V.ref D7)]) (TM := [.fz (tv_HALVINGS : Tup (Tup Int)), .own D7 a8]) (M := [.fz (p_table : C_Table), .fz (x5 : Int), .any]) (yields_tup a12 tv_HALVINGS) hys22 h rfl ⟨rfl, trivial⟩ (tup_len (h.fz 0 rfl rfl)) (fun w F H h => (h.fz 0 rfl rfl)) (fun x13 z v14 D15 a16 F H G N hf h hG => ?_) (fun D23 F H hBD23 h => ?_)
    · have hm := hf
      unfold m_raceless_names_c1 at hm
      have h : St K B0 F H (some v14 :: some (V.ref D15) :: some (V.ref a12) :: some (V.ref D7) :: wipe (List.set (wipe [some va0, none, none] [1]) 1 (some v6)) [2]) [.fz (x13 : Tup Int), .own D15 a16, .fz (tv_HALVINGS : Tup (Tup Int)), .own D7 a8, .fz (p_table : C_Table), .fz (x5 : Int), .any] := h
      refine S_gName ?_
      have h : St K B0 F H (some (V.ref D15) :: some (V.ref a12) :: some (V.ref D7) :: List.set (wipe (List.set (wipe [some va0, none, none] [1]) 1 (some v6)) [2]) 2 (some v14)) [.own D15 a16, .fz (tv_HALVINGS : Tup (Tup Int)), .own D7 a8, .fz (p_table : C_Table), .fz (x5 : Int), .fz (x13 : Tup Int)] := St.setF (v := v14) (x := (x13 : Tup Int)) h.pop 5 (h.fz 0 rfl rfl)
      refine ⟨(wipe_set (by decide)).trans wipe_idem, ?_⟩
      refine if1 ?_
      refine S_op ?_
      refine S_var 3 h rfl rfl fun v19 h => ?_
      refine S_varI 4 h rfl rfl ?_
      obtain ⟨x21, hx21, hm⟩ := ob hm
      refine S_ixT h.pop (h.fz 0 rfl rfl) hx21 fun u20 h => ?_
      obtain rfl : u20 = (V.int x21) := h.fz 0 rfl rfl
      have h := h.pop
      have hz := h
      cases hm
      exact hG _ _ _ (St.unset (ts := [some (V.ref D15), some (V.ref a12), some (V.ref D7)]) (TM := [.own D15 a16, .fz (tv_HALVINGS : Tup (Tup Int)), .own D7 a8]) (M := [.fz (p_table : C_Table), .fz (x5 : Int), .any]) (hz.weak ⟨.inr rfl, .inr rfl, .inr rfl, .inr rfl, .inr rfl, .inl rfl, trivial⟩) rfl rfl) rfl
    have h : St K B0 F H (some (V.ref D23) :: some (V.ref a12) :: some (V.ref D7) :: List.set (wipe [some va0, none, none] [1]) 1 (some v6)) [.own D23 ys22, .fz (tv_HALVINGS : Tup (Tup Int)), .own D7 a8, .fz (p_table : C_Table), .fz (x5 : Int), .any] := h
    have h := h.nip
    refine S_frz h hBD23 _ fun F h => ?_
    refine S_nil ?_
    refine S_tupL h.pop (h.vF 0 rfl rfl) fun p24 F H h => ?_
    have hz := h
    cases hm
    exact hG _ _ _ (St.unset (ts := [some (V.ref D7)]) (TM := [.own D7 a8]) (M := [.fz (p_table : C_Table), .any, .any]) (hz.pop.weak ⟨.inr rfl, .inr rfl, .inl rfl, .inr rfl, trivial⟩) rfl rfl) (hz.fz 0 rfl rfl)
  have h : St K B0 F H (some (V.ref D26) :: [some va0, none, none]) [.own D26 ys25, .fz (p_table : C_Table), .any, .any] := h
  have hz := h
  cases hm
  exact q _ _ _ (hz.finFr hBD26 aft0)
theorem fn_raceless_names {P : Program} {w : World} {K : Fg} {mg : Str → Option Value} {base : Heap} (bz : Blt mg) (kf : KF K) (cz : Cst mg) {f : Addr} {fd : FuncData} (F0 : Fun K "raceless_names" "raceless_names" s_raceless_names f fd) (C_Table_states : CalM P w K mg base 1 A_Table "states" ["self"] R_Table_states) : FnOk P w K mg base CX0 2 f fd ["table"] (Prom K R_raceless_names) :=
  F0.ok sc_raceless_names (prom_len 1 fun A s A' h => by cases h; rfl) fun cdv A outer s H vs Q E hr h => ⟨t_raceless_names K, pss_one (ps_ret (pe_lc (own := [("s", 1)]) (g := gName 1) (tt := tYes) (te := tCB (rTupG K) (tCons (tLc (iTup K (tC (.ref 25))) (gName 2) (tYes) (tOp (rIxT K) (tVar 2) (tVar 1)) [2]) (tNil))) (wi := iRng1 (tCons (tCB (rLenG K) (tCons (tMeth A_Table "states" (Prom K R_Table_states) [] E0 (tVar 0) (tNil)) (tNil))) (tNil))) rfl sc_raceless_names.nd (pi_range1 (by rfl) bz.range (pa_cons (pe_callB (r := rLenG K) cr_lenG (by rfl) bz.len (by decide +kernel) (pa_cons (C_Table_states.pe0 kf.cl_Table (hr.mono (by decide)) (pv 0)) (pa_nil))) (pa_nil))) (blkOk_by (N := ["table", "s", "way"]) (sc := defScope s_raceless_names) (by decide +kernel)) (fun _ _ _ _ _ => pg_name (i := 1) sc_raceless_names.nd rfl (by first | exact .inl rfl | exact .inr rfl)) (fun _ _ _ _ _ => pts_nil) (fun _ _ _ _ _ => pe_callTy (r := rTupG K) cr_tupG (by rfl) bz.tuple (by decide +kernel) (pa_cons (pe_lc (own := [("way", 2)]) (g := gName 2) (tt := tYes) (te := tOp (rIxT K) (tVar 2) (tVar 1)) (wi := iTup K (tC (.ref 25))) rfl sc_raceless_names.nd (pi_tup (pe_globE (by rfl) cz.HALVINGS)) (blk_rl (blkOk_by (N := ["table", "s", "way"]) (sc := { kind := PySem.ScopeKind.function, names := [ (PySem.Str.ofString ".0", PySem.NameKind.local), (PySem.Str.ofString "s", PySem.NameKind.cell), (PySem.Str.ofString "tuple", PySem.NameKind.globalImplicit), (PySem.Str.ofString "HALVINGS", PySem.NameKind.globalImplicit)], isGenerator := false, isCoroutine := false, more := [] : PySem.Scope }) (by decide +kernel))) (fun _ _ _ _ _ => pg_name (i := 2) sc_raceless_names.nd rfl (by first | exact .inl rfl | exact .inr rfl)) (fun _ _ _ _ _ => pts_nil) (fun _ _ _ _ _ => pe_ix (r := rIxT K) ix_tup (pv 2) (pv 1) (fun _ _ => rfl))) (pa_nil))))), sem_raceless_names kf h (fun _ _ z => z) fun _ _ z => z⟩
theorem ok_raceless_names {P : Program} {w : World} {K : Fg} {mg : Str → Option Value} {base : Heap} (bz : Blt mg) (kf : KF K) (cz : Cst mg) {f : Addr} {fd : FuncData} (F0 : Fun K "raceless_names" "raceless_names" s_raceless_names f fd) (g0 : mg "raceless_names" = some (.ref f)) (b0 : Binds K fd ["table"] []) (C_Table_states : CalM P w K mg base 1 A_Table "states" ["self"] R_Table_states) : Cal P w K mg base 2 "raceless_names" ["table"] R_raceless_names :=
  Cal.mk' (fn_raceless_names bz kf cz F0 C_Table_states) g0 F0.kp b0

def m_is_name_c0  (x4 : Int) : Option Bool := (inO x4 (Tup.l (Tup.mk [(0 : Int), (1 : Int)] : Tup Int))).bind fun c11 => some c11
def m_is_name (p_thing : Tup Int) (p_size : Int) : Option Bool := (if (decide ((List.length (Tup.l p_thing) : Int) = p_size)) = true then (mapO m_is_name_c0 (Tup.l p_thing)).bind fun ys12 => some (List.all ys12 id) else some false).bind fun c14 => some c14
inductive R_is_name : List Slot → RSlot → List Slot → Prop
  | mk (p_thing : Tup Int) (p_size : Int)  {r : Bool} : m_is_name p_thing p_size = some r → R_is_name [.fz p_thing, .fz p_size] (.fz r) [.any, .any]
def t_is_name (K : Fg) : TS := tRet (tAndV (tOp rEq (tCB (rLenG K) (tCons (tVar 0) (tNil))) (tVar 1)) (tCB (rAll K) (tCons (tLc (iTup K (tVar 0)) (gName 2) (tYes) (tOp (rInTD K) (tVar 2) (tTup (tCons (tC (.int 0)) (tCons (tC (.int 1)) (tNil))))) [2]) (tNil))))
theorem sc_is_name : FnScope ["thing", "size", "number"] ["thing", "size"] (defScope s_is_name) := ⟨rfl, rfl, rfl, by decide +kernel, rfl, by decide +kernel, by decide +kernel⟩
theorem sem_is_name {K : Fg} (kf : KF K) {vs : List V} {H : Hp} {Q : VK} {E : XK} (h : Prom K R_is_name vs H Q E) {D : Ends} (hD : ∀ u H, Q u H → D.rt u H) (hN : ∀ σ H, Q .non H → D.nx σ H) : t_is_name K D (start ["thing", "size", "number"] vs) H := by
  obtain ⟨F, A, rs, A', hR, fh, hS, nd, q⟩ := h
  cases hR with | @mk p_thing p_size  r hm => ?_
  have hl := slots_len hS
  obtain ⟨va0, va1, rfl⟩ := len2 (vs := vs) (by simpa using hl.symm)
  have h : St K ⟨F, H, []⟩ F H [some va0, some va1, none] [.fz (p_thing : Tup Int), .fz (p_size : Int), .any] := St.start fh hS nd [none]
  generalize hB : (⟨F, H, []⟩ : Base) = B0 at h
  have q0 := q
  have q : ∀ u F' H', Fin K B0 (.fz r) [.any, .any] u F' H' → D.rt u H' := by subst hB; exact fun u F' H' z => hD _ _ (q u F' H' z)
  have qN : ∀ σ F' H', Fin K B0 (.fz r) [.any, .any] .non F' H' → D.nx σ H' := by subst hB; exact fun σ F' H' z => hN _ _ (q0 _ F' H' z)
  clear hB q0 hD hN
  rw [show start ["thing", "size", "number"] [va0, va1] = [some va0, some va1, none] from rfl]
  unfold t_is_name
  unfold m_is_name at hm
  refine S_ret ?_
  obtain ⟨c14, hc14, hm⟩ := ob hm
  refine S_andV (a := (decide ((List.length (Tup.l p_thing) : Int) = p_size))) (c := c14) h (fun Q' q' => ?_) (fun hc F H Q' h q' => ?_) (fun hc => ?_) fun F H h => ?_
  · skip
    refine S_op ?_
    refine S_cb ?_
    refine S_cons ?_
    refine S_var 0 h rfl rfl fun v1 h => ?_
    refine S_nil ?_
    refine S_lenT h (h.fz 0 rfl rfl) ?_
    have h := h.pop
    refine S_varI 0 h rfl rfl ?_
    refine S_eqI ?_
    have hz := h
    exact q' _ _ hz
  · have hm := ifT hc hc14
    refine S_cb ?_
    refine S_cons ?_
    refine S_lc ?_
    refine S_iT ?_
    refine S_var 0 h rfl rfl fun v2 h => ?_
    refine S_itT h (h.fz 0 rfl rfl) fun a3 e1 => ?_
    subst e1
    obtain ⟨ys12, hys12, hm⟩ := ob hm
    refine S_mapO (ts := [some (V.ref a3)]) (TM := [.fz (p_thing : Tup Int)]) (M := [.fz (p_thing : Tup Int), .fz (p_size : Int), .any]) (yields_tup a3 p_thing) hys12 h rfl ⟨rfl, trivial⟩ (tup_len (h.fz 0 rfl rfl)) (fun w F H h => (h.fz 0 rfl rfl)) (fun x4 z v5 D6 a7 F H G N hf h hG => ?_) (fun D13 F H hBD13 h => ?_)
    · have hm := hf
      unfold m_is_name_c0 at hm
      have h : St K B0 F H (some v5 :: some (V.ref D6) :: some (V.ref a3) :: wipe [some va0, some va1, none] [2]) [.fz (x4 : Int), .own D6 a7, .fz (p_thing : Tup Int), .fz (p_thing : Tup Int), .fz (p_size : Int), .any] := h
      refine S_gName ?_
      have h : St K B0 F H (some (V.ref D6) :: some (V.ref a3) :: List.set (wipe [some va0, some va1, none] [2]) 2 (some v5)) [.own D6 a7, .fz (p_thing : Tup Int), .fz (p_thing : Tup Int), .fz (p_size : Int), .fz (x4 : Int)] := St.setF (v := v5) (x := (x4 : Int)) h.pop 4 (h.fz 0 rfl rfl)
      refine ⟨(wipe_set (by decide)).trans wipe_idem, ?_⟩
      refine if1 ?_
      refine S_op ?_
      refine S_varI 2 h rfl rfl ?_
      refine S_tT ?_
      refine S_cons ?_
      refine S_c ?_
      refine S_cons ?_
      refine S_c ?_
      refine S_nil ?_
      refine S_tup (xs := ([(0 : Int), (1 : Int)] : List Int)) h (.cons rfl (.cons rfl .nil)) (Nat.le_of_ble_eq_true rfl) fun p10 F H h => ?_
      obtain ⟨c11, hc11, hm⟩ := ob hm
      refine S_inTD (dF h rfl) (dF h (h.fz 0 rfl rfl)) hc11 (by decide) ?_
      have h := h.pop
      have hz := h
      cases hm
      exact hG _ _ _ (St.unset (ts := [some (V.ref D6), some (V.ref a3)]) (TM := [.own D6 a7, .fz (p_thing : Tup Int)]) (M := [.fz (p_thing : Tup Int), .fz (p_size : Int), .any]) (hz.weak ⟨.inr rfl, .inr rfl, .inr rfl, .inr rfl, .inl rfl, trivial⟩) rfl rfl) rfl
    have h : St K B0 F H (some (V.ref D13) :: some (V.ref a3) :: [some va0, some va1, none]) [.own D13 ys12, .fz (p_thing : Tup Int), .fz (p_thing : Tup Int), .fz (p_size : Int), .any] := h
    have h := h.nip
    refine S_frz h hBD13 _ fun F h => ?_
    refine S_nil ?_
    refine S_all (h.vF 0 rfl rfl) ?_
    have h := h.pop
    have hz := h
    cases hm
    exact q' _ _ hz
  · exact (Option.some.inj (ifF hc hc14)).symm
  have hz := h
  cases hm
  exact q _ _ _ (hz.finB aft0)
theorem fn_is_name {P : Program} {w : World} {K : Fg} {mg : Str → Option Value} {base : Heap} (bz : Blt mg) (kf : KF K) (cz : Cst mg) {f : Addr} {fd : FuncData} (F0 : Fun K "is_name" "is_name" s_is_name f fd)  : FnOk P w K mg base CX0 1 f fd ["thing", "size"] (Prom K R_is_name) :=
  F0.ok sc_is_name (prom_len 2 fun A s A' h => by cases h; rfl) fun cdv A outer s H vs Q E hr h => ⟨t_is_name K, pss_one (ps_ret (pe_and (pe_cmpR (r := rEq) op_eq (pe_callB (r := rLenG K) cr_lenG (by rfl) bz.len (by decide +kernel) (pa_cons (pv 0) (pa_nil))) (pv 1) (nomark _)) (pe_one (pe_callB (r := rAll K) (cr_all rfl) (by rfl) bz.all_ (by decide +kernel) (pa_cons (pe_lc (own := [("number", 2)]) (g := gName 2) (tt := tYes) (te := tOp (rInTD K) (tVar 2) (tTup (tCons (tC (.int 0)) (tCons (tC (.int 1)) (tNil))))) (wi := iTup K (tVar 0)) rfl sc_is_name.nd (pi_tup (pv 0)) (blkOk_by (N := ["thing", "size", "number"]) (sc := defScope s_is_name) (by decide +kernel)) (fun _ _ _ _ _ => pg_name (i := 2) sc_is_name.nd rfl (by first | exact .inl rfl | exact .inr rfl)) (fun _ _ _ _ _ => pts_nil) (fun _ _ _ _ _ => pe_cmpR (r := (rInTD K)) (op_inTD (hu65 hr)) (pv 2) (pe_tup (pa_cons (pe_int) (pa_cons (pe_int) (pa_nil)))) (by with_unfolding_all rfl))) (pa_nil)))))), sem_is_name kf h (fun _ _ z => z) fun _ _ z => z⟩
theorem ok_is_name {P : Program} {w : World} {K : Fg} {mg : Str → Option Value} {base : Heap} (bz : Blt mg) (kf : KF K) (cz : Cst mg) {f : Addr} {fd : FuncData} (F0 : Fun K "is_name" "is_name" s_is_name f fd) (g0 : mg "is_name" = some (.ref f)) (b0 : Binds K fd ["thing", "size"] [])  : Cal P w K mg base 1 "is_name" ["thing", "size"] R_is_name :=
  Cal.mk' (fn_is_name bz kf cz F0) g0 F0.kp b0

def m_want_names_c0 (size6 : Int) (x8 : Tup Int) : Option Bool := (m_is_name x8 size6).bind fun r15 => some r15
def m_want_names (p_many : Int) (p_names : List (Tup Int)) : Option (Unit × (List (Tup Int))) := (if (!(decide ((List.length p_names : Int) = p_many))) = true then some true else (nubO p_names).bind fun x1 => some (!(decide (x1 = p_many)))).bind fun c3 => if c3 = true then none else (atI p_names (0 : Int)).bind fun x5 => (some (List.length (Tup.l x5) : Int)).bind fun size6 => (if (!((decide ((1 : Int) ≤ size6)) && (decide (size6 ≤ (4 : Int))))) = true then some true else (mapO (m_want_names_c0 size6) p_names).bind fun ys16 => some (!(List.all ys16 id))).bind fun c18 => if c18 = true then none else some ((), p_names)
inductive R_want_names : List Slot → RSlot → List Slot → Prop
  | mk (p_many : Int) (p_names : List (Tup Int)) {A_names : Addr} {r : Unit × (List (Tup Int))} : m_want_names p_many p_names = some r → R_want_names [.fz p_many, .own A_names p_names] (.fz r.1) [.any, .own A_names r.2]
def t_want_names (PP : Program) (ww : World) (K : Fg) : TS := tSeq (tIfS (tOr (tTest (tOp rNe (tCB (rLenG K) (tCons (tVar 1) (tNil))) (tVar 0))) (tTest (tOp rNe (tCB (rLenST PP ww) (tCons (tCB (rSetOfT K PP ww) (tCons (tVar 1) (tNil))) tNil)) (tVar 0)))) (tDead) tNext) (tSeq (tAsg (tCB (rLenG K) (tCons (tOp (rIxL K) (tVar 1) (tC (.int 0))) (tNil))) (gName 2)) (tIfS (tOr (tNot (tTest (tChain (rI0 fun i j => .bl (decide (i ≤ j))) (rI0 fun i j => .bl (decide (i ≤ j))) (tC (.int 1)) (tVar 2) (tC (.int 4))))) (tNot (tB (tCB (rAll K) (tCons (tLc (iList K (tVar 1)) (gName 3) (tYes) (tCall (Prom K R_is_name) [] E0 (tCons (tVar 3) (tCons (tVar 2) (tNil)))) [3]) (tNil)))))) (tDead) tNext))
theorem sc_want_names : FnScope ["many", "names", "size", "name"] ["many", "names"] (defScope s_want_names) := ⟨rfl, rfl, rfl, by decide +kernel, rfl, by decide +kernel, by decide +kernel⟩
theorem sem_want_names {PP : Program} {ww : World} {K : Fg} (kf : KF K) {vs : List V} {H : Hp} {Q : VK} {E : XK} (h : Prom K R_want_names vs H Q E) {D : Ends} (hD : ∀ u H, Q u H → D.rt u H) (hN : ∀ σ H, Q .non H → D.nx σ H) : t_want_names PP ww K D (start ["many", "names", "size", "name"] vs) H := by
  obtain ⟨F, A, rs, A', hR, fh, hS, nd, q⟩ := h
  cases hR with | @mk p_many p_names A_names r hm => ?_
  have hl := slots_len hS
  obtain ⟨va0, va1, rfl⟩ := len2 (vs := vs) (by simpa using hl.symm)
  have h : St K ⟨F, H, [A_names]⟩ F H [some va0, some va1, none, none] [.fz (p_many : Int), .own A_names p_names, .any, .any] := St.start fh hS nd [none, none]
  generalize hB : (⟨F, H, [A_names]⟩ : Base) = B0 at h
  have q0 := q
  have q : ∀ u F' H', Fin K B0 (.fz r.1) [.any, .own A_names r.2] u F' H' → D.rt u H' := by subst hB; exact fun u F' H' z => hD _ _ (q u F' H' z)
  have qN : ∀ σ F' H', Fin K B0 (.fz r.1) [.any, .own A_names r.2] .non F' H' → D.nx σ H' := by subst hB; exact fun σ F' H' z => hN _ _ (q0 _ F' H' z)
  clear hB q0 hD hN
  rw [show start ["many", "names", "size", "name"] [va0, va1] = [some va0, some va1, none, none] from rfl]
  unfold t_want_names
  unfold m_want_names at hm
  refine Q_if ?_
  obtain ⟨c3, hc3, hm⟩ := ob hm
  refine S_or (a := (!(decide ((List.length p_names : Int) = p_many)))) (c := c3) h (fun Q' q' => ?_) (fun hc F H Q' h q' => ?_) (fun hc => ?_) fun F H h => ?_
  · skip
    refine T_test ?_
    refine S_op ?_
    refine S_cb ?_
    refine S_cons ?_
    refine S_varO 0 h rfl rfl ?_
    refine S_nil ?_
    refine S_lenL (h.vO 1 rfl) ?_
    refine S_varI 0 h rfl rfl ?_
    refine S_neI ?_
    refine T_bl ?_
    have hz := h
    exact q' _ _ hz
  · have hm := ifF hc hc3
    refine T_test ?_
    refine S_op ?_
    refine S_cb ?_
    refine S_cons ?_
    refine S_cb ?_
    refine S_cons ?_
    refine S_varO 0 h rfl rfl ?_
    refine S_nil ?_
    obtain ⟨x1, hx1, hm⟩ := ob hm
    refine S_setT h (h.vO 1 rfl) hx1 fun p2 H h q' => ?_
    refine S_nil ?_
    refine q' _ ?_
    refine S_varI 0 h rfl rfl ?_
    refine S_neI ?_
    refine T_bl ?_
    have hz := h
    cases hm
    exact q' _ _ hz
  · exact (Option.some.inj (ifT hc hc3)).symm
  refine S_ite hm (fun hc hm => ?_) (fun hc hm => ?_)
  · skip
    exact dead0 hm
  refine Q_next ?_
  refine Q_asg ?_
  refine S_cb ?_
  refine S_cons ?_
  refine S_op ?_
  refine S_varO 0 h rfl rfl ?_
  refine S_c ?_
  obtain ⟨x5, hx5, hm⟩ := ob hm
  refine S_ixL h (h.vO 1 rfl) hx5 fun u4 h => ?_
  refine S_nil ?_
  refine S_lenT h (h.fz 0 rfl rfl) ?_
  have h := h.pop
  obtain ⟨size6, hsize6, hm⟩ := ob hm
  have hsize6 := Option.some.inj hsize6
  rw [hsize6]
  refine S_gName ?_
  have h : St K B0 F H (List.set [some va0, some va1, none, none] 2 (some (V.int size6))) [.fz (p_many : Int), .own A_names p_names, .fz (size6 : Int), .any] := St.setF (v := (V.int size6)) (x := (size6 : Int)) h 2 rfl
  refine S_if ?_
  obtain ⟨c18, hc18, hm⟩ := ob hm
  refine S_or (a := (!((decide ((1 : Int) ≤ size6)) && (decide (size6 ≤ (4 : Int)))))) (c := c18) h (fun Q' q' => ?_) (fun hc F H Q' h q' => ?_) (fun hc => ?_) fun F H h => ?_
  · skip
    refine S_not ?_
    refine T_test ?_
    refine S_chain ?_
    refine S_c ?_
    refine S_varI 0 h rfl rfl ?_
    refine S_I0 ?_
    refine S_chP (c := (decide (size6 ≤ (4 : Int)))) (fun _ Q' q' => ?_) ?_
    · skip
      refine S_c ?_
      refine S_I0 ?_
      exact q'
    refine T_bl ?_
    have hz := h
    exact q' _ _ hz
  · have hm := ifF hc hc18
    refine S_not ?_
    refine T_tB ?_
    refine S_cb ?_
    refine S_cons ?_
    refine S_lc ?_
    refine S_iL ?_
    refine S_varO 0 h rfl rfl ?_
    refine S_itL (h.vO 1 rfl) fun A_names e1 => ?_
    obtain rfl := V.ref.inj e1
    obtain ⟨ys16, hys16, hm⟩ := ob hm
    refine S_mapO (ts := []) (TM := []) (M := [.fz (p_many : Int), .own A_names p_names, .fz (size6 : Int), .any]) (yields_list A_names p_names) hys16 h rfl ⟨rfl, trivial⟩ (view_len (h.vO 1 rfl)) (fun w F H h => (h.vO 1 rfl)) (fun x8 z v9 D10 a11 F H G N hf h hG => ?_) (fun D17 F H hBD17 h => ?_)
    · have hm := hf
      unfold m_want_names_c0 at hm
      have h : St K B0 F H (some v9 :: some (V.ref D10) :: wipe (List.set [some va0, some va1, none, none] 2 (some (V.int size6))) [3]) [.fz (x8 : Tup Int), .own D10 a11, .fz (p_many : Int), .own A_names p_names, .fz (size6 : Int), .any] := h
      refine S_gName ?_
      have h : St K B0 F H (some (V.ref D10) :: List.set (wipe (List.set [some va0, some va1, none, none] 2 (some (V.int size6))) [3]) 3 (some v9)) [.own D10 a11, .fz (p_many : Int), .own A_names p_names, .fz (size6 : Int), .fz (x8 : Tup Int)] := St.setF (v := v9) (x := (x8 : Tup Int)) h.pop 4 (h.fz 0 rfl rfl)
      refine ⟨(wipe_set (by decide)).trans wipe_idem, ?_⟩
      refine if1 ?_
      refine S_tcall ?_
      refine S_cons ?_
      refine S_var 1 h rfl rfl fun v14 h => ?_
      refine S_cons ?_
      refine S_varI 2 h rfl rfl ?_
      refine S_nil ?_
      obtain ⟨r15, hr15, hm⟩ := ob hm
      refine S_callB (A := [.fz (x8 : Tup Int), .fz (size6 : Int)]) h.pop (slots_cons (ok_fz (h.fz 0 rfl rfl)) (slots_cons (ok_fz rfl) slots_nil)) (R_is_name.mk _ _ hr15) rfl fun F H h => ?_
      have hz := h
      cases hm
      exact hG _ _ _ (St.unset (ts := [some (V.ref D10)]) (TM := [.own D10 a11]) (M := [.fz (p_many : Int), .own A_names p_names, .fz (size6 : Int), .any]) (hz.weak ⟨.inr rfl, .inr rfl, .inr rfl, .inr rfl, .inl rfl, trivial⟩) rfl rfl) rfl
    have h : St K B0 F H (some (V.ref D17) :: List.set [some va0, some va1, none, none] 2 (some (V.int size6))) [.own D17 ys16, .fz (p_many : Int), .own A_names p_names, .fz (size6 : Int), .any] := h
    refine S_frz h hBD17 _ fun F h => ?_
    refine S_nil ?_
    refine S_all (h.vF 0 rfl rfl) ?_
    have h := h.pop
    refine T_bl ?_
    have hz := h
    cases hm
    exact q' _ _ hz
  · exact (Option.some.inj (ifT hc hc18)).symm
  refine S_ite hm (fun hc hm => ?_) (fun hc hm => ?_)
  · skip
    exact dead0 hm
  refine S_next ?_
  have hz := h
  cases hm
  exact qN _ _ _ (hz.finN (AftM.skip (AftM.own hz.ok 1 rfl rfl AftM.nil)))
theorem fn_want_names {P : Program} {w : World} {K : Fg} {mg : Str → Option Value} {base : Heap} (bz : Blt mg) (kf : KF K) (cz : Cst mg) {f : Addr} {fd : FuncData} (F0 : Fun K "want_names" "want_names" s_want_names f fd) (C_is_name : Cal P w K mg base 1 "is_name" ["thing", "size"] R_is_name) : FnOk P w K mg base CX0 2 f fd ["many", "names"] (Prom K R_want_names) :=
  F0.ok sc_want_names (prom_len 2 fun A s A' h => by cases h; rfl) fun cdv A outer s H vs Q E hr h => ⟨t_want_names P w K, pss_cons (ps_if (PW.pt (pw_or (pt_cmpR (r := rNe) op_ne (pe_callB (r := rLenG K) cr_lenG (by rfl) bz.len (by decide +kernel) (pa_cons (pv 1) (pa_nil))) (pv 0) (nomark _)) (pw_or1 (pt_cmpR (r := rNe) op_ne (pe_callB (r := rLenST P w) cr_lenST (by rfl) bz.len (by decide +kernel) (pa_cons (pe_callTy (r := rSetOfT K P w) (cr_setOfT rfl (hu64 hr)) (by rfl) bz.set_ (by decide +kernel) (pa_cons (pv 1) (pa_nil))) pa_nil)) (pv 0) (nomark _))))) (pss_dead) pss_nil) (pss_cons (ps_set (i := 2) sc_want_names.nd rfl (.inr rfl) (pe_callB (r := rLenG K) cr_lenG (by rfl) bz.len (by decide +kernel) (pa_cons (pe_ix (r := rIxL K) ix_list (pv 1) (pe_int) (fun _ _ => rfl)) (pa_nil)))) (pss_one (ps_if (PW.pt (pw_or (pt_not (pt_chain (r := (rI0 fun i j => .bl (decide (i ≤ j)))) (r' := (rI0 fun i j => .bl (decide (i ≤ j)))) op_le op_le (pe_int) (pv 2) (pe_globE (by rfl) cz.MOST_PLACES))) (pw_or1 (pt_not (pt_val (pe_callB (r := rAll K) (cr_all rfl) (by rfl) bz.all_ (by decide +kernel) (pa_cons (pe_lc (own := [("name", 3)]) (g := gName 3) (tt := tYes) (te := tCall (Prom K R_is_name) [] E0 (tCons (tVar 3) (tCons (tVar 2) (tNil)))) (wi := iList K (tVar 1)) rfl sc_want_names.nd (pi_list (pv 1)) (blkOk_by (N := ["many", "names", "size", "name"]) (sc := defScope s_want_names) (by decide +kernel)) (fun _ _ _ _ _ => pg_name (i := 3) sc_want_names.nd rfl (by first | exact .inl rfl | exact .inr rfl)) (fun _ _ _ _ _ => pts_nil) (fun _ _ _ _ _ => C_is_name.pe (hr.mono (by decide)) (by rfl) (pa_cons (pv 3) (pa_cons (pv 2) (pa_nil))))) (pa_nil)))))))) (pss_dead) pss_nil))), sem_want_names kf h (fun _ _ z => z) fun _ _ z => z⟩
theorem ok_want_names {P : Program} {w : World} {K : Fg} {mg : Str → Option Value} {base : Heap} (bz : Blt mg) (kf : KF K) (cz : Cst mg) {f : Addr} {fd : FuncData} (F0 : Fun K "want_names" "want_names" s_want_names f fd) (g0 : mg "want_names" = some (.ref f)) (b0 : Binds K fd ["many", "names"] []) (C_is_name : Cal P w K mg base 1 "is_name" ["thing", "size"] R_is_name) : Cal P w K mg base 2 "want_names" ["many", "names"] R_want_names :=
  Cal.mk' (fn_want_names bz kf cz F0 C_is_name) g0 F0.kp b0

def m_span_c1 (x7 : Int × Int) (x15 : Tup Int) : Option (Tup Int) := (catT x15 (Tup.mk [x7.1] : Tup Int)).bind fun x23 => some x23
def m_span_c2  (x29 : Tup Int) : Option (Tup Int) := (catT x29 (Tup.mk [(0 : Int)] : Tup Int)).bind fun x37 => some x37
def m_span_c3  (x43 : Tup Int) : Option (Tup Int) := (catT x43 (Tup.mk [(1 : Int)] : Tup Int)).bind fun x51 => some x51
def m_span_l0  (x7 : Int × Int) (s9 : (List (Tup Int))) : Option (List (Tup Int)) := (( if (decide (x7.1 = x7.2)) = true then (mapO (m_span_c1 x7) s9).bind fun ys25 => some (ys25) else (mapO m_span_c2 s9).bind fun ys39 => (mapO m_span_c3 s9).bind fun ys53 => (catL ys39 ys53).bind fun x55 => some (x55) : Option (List (Tup Int)))).bind fun j12 => some (j12)
def m_span (p_one : Tup Int) (p_other : Tup Int) : Option (List (Tup Int)) :=  (foldO m_span_l0 (List.zip (Tup.l p_one) (Tup.l p_other)) (([(Tup.mk [] : Tup Int)] : List (Tup Int)))).bind fun s57 => (sortD s57).bind fun x59 => some x59
inductive R_span : List Slot → RSlot → List Slot → Prop
  | mk (p_one : Tup Int) (p_other : Tup Int)  {r : List (Tup Int)} : m_span p_one p_other = some r → R_span [.fz p_one, .fz p_other] (.fz r) [.any, .any]
def t_span (K : Fg) : TS := tSeq (tAsg (tLst (tCons (tTup (tNil)) (tNil))) (gName 2)) (tSeq (tFor (RZ.iZipA K (tCons (tVar 0) (tCons (tVar 1) (tNil)))) (gTup K 2 (gCons (gName 3) (gCons (gName 4) (gNil)))) (tIfS (tTest (tOp rEq (tVar 3) (tVar 4))) (tAsg (tLc (iList K (tVar 2)) (gName 5) (tYes) (tOp (rCatA K) (tVar 5) (tTup (tCons (tVar 3) (tNil)))) [5]) (gName 2)) (tAsg (tOp rCat (tLc (iList K (tVar 2)) (gName 5) (tYes) (tOp (rCatA K) (tVar 5) (tTup (tCons (tC (.int 0)) (tNil)))) [5]) (tLc (iList K (tVar 2)) (gName 5) (tYes) (tOp (rCatA K) (tVar 5) (tTup (tCons (tC (.int 1)) (tNil)))) [5])) (gName 2)))) (tRet (tCB (rSortD K) (tCons (tVar 2) (tNil)))))
theorem sc_span : FnScope ["one", "other", "found", "first", "second", "name"] ["one", "other"] (defScope s_span) := ⟨rfl, rfl, rfl, by decide +kernel, rfl, by decide +kernel, by decide +kernel⟩
theorem sem_span {K : Fg} (kf : KF K) {vs : List V} {H : Hp} {Q : VK} {E : XK} (h : Prom K R_span vs H Q E) {D : Ends} (hD : ∀ u H, Q u H → D.rt u H) (hN : ∀ σ H, Q .non H → D.nx σ H) : t_span K D (start ["one", "other", "found", "first", "second", "name"] vs) H := by
  obtain ⟨F, A, rs, A', hR, fh, hS, nd, q⟩ := h
  cases hR with | @mk p_one p_other  r hm => ?_
  have hl := slots_len hS
  obtain ⟨va0, va1, rfl⟩ := len2 (vs := vs) (by simpa using hl.symm)
  have h : St K ⟨F, H, []⟩ F H [some va0, some va1, none, none, none, none] [.fz (p_one : Tup Int), .fz (p_other : Tup Int), .any, .any, .any, .any] := St.start fh hS nd [none, none, none, none]
  generalize hB : (⟨F, H, []⟩ : Base) = B0 at h
  have q0 := q
  have q : ∀ u F' H', Fin K B0 (.fz r) [.any, .any] u F' H' → D.rt u H' := by subst hB; exact fun u F' H' z => hD _ _ (q u F' H' z)
  have qN : ∀ σ F' H', Fin K B0 (.fz r) [.any, .any] .non F' H' → D.nx σ H' := by subst hB; exact fun σ F' H' z => hN _ _ (q0 _ F' H' z)
  clear hB q0 hD hN
  rw [show start ["one", "other", "found", "first", "second", "name"] [va0, va1] = [some va0, some va1, none, none, none, none] from rfl]
  unfold t_span
  unfold m_span at hm
  refine Q_asg ?_
  refine S_tL ?_
  refine S_cons ?_
  refine S_tT ?_
  refine S_nil ?_
  refine S_tup (xs := ([] : List Int)) h (.nil) (Nat.le_of_ble_eq_true rfl) fun p1 F H h => ?_
  refine S_nil ?_
  refine S_lstO (xs := ([(Tup.mk [] : Tup Int)] : List (Tup Int))) h.pop (.cons (h.fz 0 rfl rfl) .nil) (Nat.le_of_ble_eq_true rfl) fun p2 F H hBp2 h => ?_
  refine S_gName ?_
  refine S_frz h hBp2 _ fun F h => ?_
  have h : St K B0 F H (List.set [some va0, some va1, none, none, none, none] 2 (some (V.ref p2))) [.fz (p_one : Tup Int), .fz (p_other : Tup Int), .fz (([(Tup.mk [] : Tup Int)] : List (Tup Int)) : List (Tup Int)), .any, .any, .any] := St.setF (v := (V.ref p2)) (x := (([(Tup.mk [] : Tup Int)] : List (Tup Int)) : List (Tup Int))) h.pop 2 (h.fz 0 rfl rfl)
  refine Q_for ?_
  refine S_iZ ?_
  refine S_cons ?_
  refine S_var 0 h rfl rfl fun v3 h => ?_
  refine S_cons ?_
  refine S_var 1 h rfl rfl fun v4 h => ?_
  refine S_nil ?_
  refine S_zipT h (h.fz 1 rfl rfl) (h.fz 0 rfl rfl) fun a5 a6 e1 e2 => ?_
  subst e1
  subst e2
  obtain ⟨s57, hs57, hm⟩ := ob hm
  refine S_fold (ts := [some (V.ref a6), some (V.ref a5)]) (TM := [.fz (p_other : Tup Int), .fz (p_one : Tup Int)]) (Mf := fun (s9 : (List (Tup Int))) => [.fz (p_one : Tup Int), .fz (p_other : Tup Int), .fz (s9 : List (Tup Int)), .any, .any, .any]) (yields_zipT a5 a6 p_one p_other) hs57 (h.weak ⟨.inr rfl, .inr rfl, .inr rfl, .inr rfl, .inr rfl, .inl rfl, .inl rfl, .inl rfl, trivial⟩) (fun s9 σ F H h => ⟨(h.fz 1 rfl rfl), (h.fz 0 rfl rfl)⟩) (fun i x7 s9 s' v8 σ F H D hx hb h hn => ?_) (fun σ F H h => ?_)
  · have hm := hb
    unfold m_span_l0 at hm
    have h : St K B0 F H (some v8 :: some (V.ref a6) :: some (V.ref a5) :: σ) [.fz (x7 : Int × Int), .fz (p_other : Tup Int), .fz (p_one : Tup Int), .fz (p_one : Tup Int), .fz (p_other : Tup Int), .fz (s9 : List (Tup Int)), .any, .any, .any] := h
    refine S_gPair h (h.fz 0 rfl rfl) fun v10 v11 h => ?_
    refine S_gCons ?_
    refine S_gName ?_
    have h : St K B0 F H (some v11 :: some v10 :: some v8 :: some (V.ref a6) :: some (V.ref a5) :: List.set (σ) 3 (some v10)) [.fz (x7.2 : Int), .fz (x7.1 : Int), .fz (x7 : Int × Int), .fz (p_other : Tup Int), .fz (p_one : Tup Int), .fz (p_one : Tup Int), .fz (p_other : Tup Int), .fz (s9 : List (Tup Int)), .fz (x7.1 : Int), .any, .any] := St.setF (v := v10) (x := (x7.1 : Int)) h 8 (h.fz 1 rfl rfl)
    refine S_gCons ?_
    refine S_gName ?_
    have h : St K B0 F H (some v11 :: some v10 :: some v8 :: some (V.ref a6) :: some (V.ref a5) :: List.set (List.set (σ) 3 (some v10)) 4 (some v11)) [.fz (x7.2 : Int), .fz (x7.1 : Int), .fz (x7 : Int × Int), .fz (p_other : Tup Int), .fz (p_one : Tup Int), .fz (p_one : Tup Int), .fz (p_other : Tup Int), .fz (s9 : List (Tup Int)), .fz (x7.1 : Int), .fz (x7.2 : Int), .any] := St.setF (v := v11) (x := (x7.2 : Int)) h 9 (h.fz 0 rfl rfl)
    refine S_gNil ?_
    have h := h.pop.pop.pop
    obtain ⟨j12, hj12, hm⟩ := ob hm
    refine S_cutJ (Post := fun σ H => ∃ F, St K B0 F H (some (V.ref a6) :: some (V.ref a5) :: σ) [.fz (p_other : Tup Int), .fz (p_one : Tup Int), .fz (p_one : Tup Int), .fz (p_other : Tup Int), .fz (j12 : List (Tup Int)), .fz (x7.1 : Int), .fz (x7.2 : Int), .any]) (fun D hk => ?_) (fun σ H ⟨F, h⟩ => ?_)
    · have hm := hj12
      refine S_if ?_
      refine T_test ?_
      refine S_op ?_
      refine S_varI 2 h rfl rfl ?_
      refine S_varI 2 h rfl rfl ?_
      refine S_eqI ?_
      refine T_bl ?_
      refine S_ite hm (fun hc hm => ?_) (fun hc hm => ?_)
      · skip
        refine S_asg ?_
        refine S_lc ?_
        refine S_iL ?_
        refine S_var 2 h rfl rfl fun v13 h => ?_
        refine S_itL (h.vF 0 rfl rfl) fun a14 e1 => ?_
        subst e1
        obtain ⟨ys25, hys25, hm⟩ := ob hm
        refine S_mapO (ts := [some (V.ref a14), some (V.ref a6), some (V.ref a5)]) (TM := [.fz (s9 : List (Tup Int)), .fz (p_other : Tup Int), .fz (p_one : Tup Int)]) (M := [.fz (p_one : Tup Int), .fz (p_other : Tup Int), .fz (s9 : List (Tup Int)), .fz (x7.1 : Int), .fz (x7.2 : Int), .any]) (yields_list a14 s9) hys25 h rfl ⟨rfl, trivial⟩ (view_len (h.vF 0 rfl rfl)) (fun w F H h => (h.vF 0 rfl rfl)) (fun x15 z v16 D17 a18 F H G N hf h hG => ?_) (fun D26 F H hBD26 h => ?_)
        · have hm := hf
          unfold m_span_c1 at hm
          have h : St K B0 F H (some v16 :: some (V.ref D17) :: some (V.ref a14) :: some (V.ref a6) :: some (V.ref a5) :: wipe (List.set (List.set (σ) 3 (some v10)) 4 (some v11)) [5]) [.fz (x15 : Tup Int), .own D17 a18, .fz (s9 : List (Tup Int)), .fz (p_other : Tup Int), .fz (p_one : Tup Int), .fz (p_one : Tup Int), .fz (p_other : Tup Int), .fz (s9 : List (Tup Int)), .fz (x7.1 : Int), .fz (x7.2 : Int), .any] := h
          refine S_gName ?_
          have h : St K B0 F H (some (V.ref D17) :: some (V.ref a14) :: some (V.ref a6) :: some (V.ref a5) :: List.set (wipe (List.set (List.set (σ) 3 (some v10)) 4 (some v11)) [5]) 5 (some v16)) [.own D17 a18, .fz (s9 : List (Tup Int)), .fz (p_other : Tup Int), .fz (p_one : Tup Int), .fz (p_one : Tup Int), .fz (p_other : Tup Int), .fz (s9 : List (Tup Int)), .fz (x7.1 : Int), .fz (x7.2 : Int), .fz (x15 : Tup Int)] := St.setF (v := v16) (x := (x15 : Tup Int)) h.pop 9 (h.fz 0 rfl rfl)
          refine ⟨(wipe_set (by decide)).trans wipe_idem, ?_⟩
          refine if1 ?_
          refine S_op ?_
          refine S_var 4 h rfl rfl fun v21 h => ?_
          refine S_tT ?_
          refine S_cons ?_
          refine S_varI 5 h rfl rfl ?_
          refine S_nil ?_
          refine S_tup (xs := ([x7.1] : List Int)) h (.cons rfl .nil) (Nat.le_of_ble_eq_true rfl) fun p22 F H h => ?_
          obtain ⟨x23, hx23, hm⟩ := ob hm
          refine S_catT h.pop.pop (h.fz 1 rfl rfl) (h.fz 0 rfl rfl) hx23 fun u24 F H h => ?_
          have hz := h
          cases hm
          exact hG _ _ _ (St.unset (ts := [some (V.ref D17), some (V.ref a14), some (V.ref a6), some (V.ref a5)]) (TM := [.own D17 a18, .fz (s9 : List (Tup Int)), .fz (p_other : Tup Int), .fz (p_one : Tup Int)]) (M := [.fz (p_one : Tup Int), .fz (p_other : Tup Int), .fz (s9 : List (Tup Int)), .fz (x7.1 : Int), .fz (x7.2 : Int), .any]) (hz.pop.weak ⟨.inr rfl, .inr rfl, .inr rfl, .inr rfl, .inr rfl, .inr rfl, .inr rfl, .inr rfl, .inr rfl, .inl rfl, trivial⟩) rfl rfl) (hz.fz 0 rfl rfl)
        have h : St K B0 F H (some (V.ref D26) :: some (V.ref a14) :: some (V.ref a6) :: some (V.ref a5) :: List.set (List.set (σ) 3 (some v10)) 4 (some v11)) [.own D26 ys25, .fz (s9 : List (Tup Int)), .fz (p_other : Tup Int), .fz (p_one : Tup Int), .fz (p_one : Tup Int), .fz (p_other : Tup Int), .fz (s9 : List (Tup Int)), .fz (x7.1 : Int), .fz (x7.2 : Int), .any] := h
        have h := h.nip
        refine S_gName ?_
        refine S_frz h hBD26 _ fun F h => ?_
        have h : St K B0 F H (some (V.ref a6) :: some (V.ref a5) :: List.set (List.set (List.set (σ) 3 (some v10)) 4 (some v11)) 2 (some (V.ref D26))) [.fz (p_other : Tup Int), .fz (p_one : Tup Int), .fz (p_one : Tup Int), .fz (p_other : Tup Int), .fz (ys25 : List (Tup Int)), .fz (x7.1 : Int), .fz (x7.2 : Int), .any] := St.setF (v := (V.ref D26)) (x := (ys25 : List (Tup Int))) h.pop 4 (h.fz 0 rfl rfl)
        have hz := h
        cases hm
        exact hk _ _ ⟨_, hz.weak ⟨.inr rfl, .inr rfl, .inr rfl, .inr rfl, .inr rfl, .inr rfl, .inr rfl, .inl rfl, trivial⟩⟩
      · skip
        refine S_asg ?_
        refine S_op ?_
        refine S_lc ?_
        refine S_iL ?_
        refine S_var 2 h rfl rfl fun v27 h => ?_
        refine S_itL (h.vF 0 rfl rfl) fun a28 e1 => ?_
        subst e1
        obtain ⟨ys39, hys39, hm⟩ := ob hm
        refine S_mapO (ts := [some (V.ref a28), some (V.ref a6), some (V.ref a5)]) (TM := [.fz (s9 : List (Tup Int)), .fz (p_other : Tup Int), .fz (p_one : Tup Int)]) (M := [.fz (p_one : Tup Int), .fz (p_other : Tup Int), .fz (s9 : List (Tup Int)), .fz (x7.1 : Int), .fz (x7.2 : Int), .any]) (yields_list a28 s9) hys39 h rfl ⟨rfl, trivial⟩ (view_len (h.vF 0 rfl rfl)) (fun w F H h => (h.vF 0 rfl rfl)) (fun x29 z v30 D31 a32 F H G N hf h hG => ?_) (fun D40 F H hBD40 h => ?_)
        · have hm := hf
          unfold m_span_c2 at hm
          have h : St K B0 F H (some v30 :: some (V.ref D31) :: some (V.ref a28) :: some (V.ref a6) :: some (V.ref a5) :: wipe (List.set (List.set (σ) 3 (some v10)) 4 (some v11)) [5]) [.fz (x29 : Tup Int), .own D31 a32, .fz (s9 : List (Tup Int)), .fz (p_other : Tup Int), .fz (p_one : Tup Int), .fz (p_one : Tup Int), .fz (p_other : Tup Int), .fz (s9 : List (Tup Int)), .fz (x7.1 : Int), .fz (x7.2 : Int), .any] := h
          refine S_gName ?_
          have h : St K B0 F H (some (V.ref D31) :: some (V.ref a28) :: some (V.ref a6) :: some (V.ref a5) :: List.set (wipe (List.set (List.set (σ) 3 (some v10)) 4 (some v11)) [5]) 5 (some v30)) [.own D31 a32, .fz (s9 : List (Tup Int)), .fz (p_other : Tup Int), .fz (p_one : Tup Int), .fz (p_one : Tup Int), .fz (p_other : Tup Int), .fz (s9 : List (Tup Int)), .fz (x7.1 : Int), .fz (x7.2 : Int), .fz (x29 : Tup Int)] := St.setF (v := v30) (x := (x29 : Tup Int)) h.pop 9 (h.fz 0 rfl rfl)
          refine ⟨(wipe_set (by decide)).trans wipe_idem, ?_⟩
          refine if1 ?_
          refine S_op ?_
          refine S_var 4 h rfl rfl fun v35 h => ?_
          refine S_tT ?_
          refine S_cons ?_
          refine S_c ?_
          refine S_nil ?_
          refine S_tup (xs := ([(0 : Int)] : List Int)) h (.cons rfl .nil) (Nat.le_of_ble_eq_true rfl) fun p36 F H h => ?_
          obtain ⟨x37, hx37, hm⟩ := ob hm
          refine S_catT h.pop.pop (h.fz 1 rfl rfl) (h.fz 0 rfl rfl) hx37 fun u38 F H h => ?_
          have hz := h
          cases hm
          exact hG _ _ _ (St.unset (ts := [some (V.ref D31), some (V.ref a28), some (V.ref a6), some (V.ref a5)]) (TM := [.own D31 a32, .fz (s9 : List (Tup Int)), .fz (p_other : Tup Int), .fz (p_one : Tup Int)]) (M := [.fz (p_one : Tup Int), .fz (p_other : Tup Int), .fz (s9 : List (Tup Int)), .fz (x7.1 : Int), .fz (x7.2 : Int), .any]) (hz.pop.weak ⟨.inr rfl, .inr rfl, .inr rfl, .inr rfl, .inr rfl, .inr rfl, .inr rfl, .inr rfl, .inr rfl, .inl rfl, trivial⟩) rfl rfl) (hz.fz 0 rfl rfl)
        have h : St K B0 F H (some (V.ref D40) :: some (V.ref a28) :: some (V.ref a6) :: some (V.ref a5) :: List.set (List.set (σ) 3 (some v10)) 4 (some v11)) [.own D40 ys39, .fz (s9 : List (Tup Int)), .fz (p_other : Tup Int), .fz (p_one : Tup Int), .fz (p_one : Tup Int), .fz (p_other : Tup Int), .fz (s9 : List (Tup Int)), .fz (x7.1 : Int), .fz (x7.2 : Int), .any] := h
        have h := h.nip
        refine S_lc ?_
        refine S_iL ?_
        refine S_var 3 h rfl rfl fun v41 h => ?_
        refine S_itL (h.vF 0 rfl rfl) fun a42 e1 => ?_
        subst e1
        obtain ⟨ys53, hys53, hm⟩ := ob hm
        refine S_mapO (ts := [some (V.ref a42), some (V.ref D40), some (V.ref a6), some (V.ref a5)]) (TM := [.fz (s9 : List (Tup Int)), .own D40 ys39, .fz (p_other : Tup Int), .fz (p_one : Tup Int)]) (M := [.fz (p_one : Tup Int), .fz (p_other : Tup Int), .fz (s9 : List (Tup Int)), .fz (x7.1 : Int), .fz (x7.2 : Int), .any]) (yields_list a42 s9) hys53 h rfl ⟨rfl, trivial⟩ (view_len (h.vF 0 rfl rfl)) (fun w F H h => (h.vF 0 rfl rfl)) (fun x43 z v44 D45 a46 F H G N hf h hG => ?_) (fun D54 F H hBD54 h => ?_)
        · have hm := hf
          unfold m_span_c3 at hm
          have h : St K B0 F H (some v44 :: some (V.ref D45) :: some (V.ref a42) :: some (V.ref D40) :: some (V.ref a6) :: some (V.ref a5) :: wipe (List.set (List.set (σ) 3 (some v10)) 4 (some v11)) [5]) [.fz (x43 : Tup Int), .own D45 a46, .fz (s9 : List (Tup Int)), .own D40 ys39, .fz (p_other : Tup Int), .fz (p_one : Tup Int), .fz (p_one : Tup Int), .fz (p_other : Tup Int), .fz (s9 : List (Tup Int)), .fz (x7.1 : Int), .fz (x7.2 : Int), .any] := h
          refine S_gName ?_
          have h : St K B0 F H (some (V.ref D45) :: some (V.ref a42) :: some (V.ref D40) :: some (V.ref a6) :: some (V.ref a5) :: List.set (wipe (List.set (List.set (σ) 3 (some v10)) 4 (some v11)) [5]) 5 (some v44)) [.own D45 a46, .fz (s9 : List (Tup Int)), .own D40 ys39, .fz (p_other : Tup Int), .fz (p_one : Tup Int), .fz (p_one : Tup Int), .fz (p_other : Tup Int), .fz (s9 : List (Tup Int)), .fz (x7.1 : Int), .fz (x7.2 : Int), .fz (x43 : Tup Int)] := St.setF (v := v44) (x := (x43 : Tup Int)) h.pop 10 (h.fz 0 rfl rfl)
          refine ⟨(wipe_set (by decide)).trans wipe_idem, ?_⟩
          refine if1 ?_
          refine S_op ?_
          refine S_var 5 h rfl rfl fun v49 h => ?_
          refine S_tT ?_
          refine S_cons ?_
          refine S_c ?_
          refine S_nil ?_
          refine S_tup (xs := ([(1 : Int)] : List Int)) h (.cons rfl .nil) (Nat.le_of_ble_eq_true rfl) fun p50 F H h => ?_
          obtain ⟨x51, hx51, hm⟩ := ob hm
          refine S_catT h.pop.pop (h.fz 1 rfl rfl) (h.fz 0 rfl rfl) hx51 fun u52 F H h => ?_
          have hz := h
          cases hm
          exact hG _ _ _ (St.unset (ts := [some (V.ref D45), some (V.ref a42), some (V.ref D40), some (V.ref a6), some (V.ref a5)]) (TM := [.own D45 a46, .fz (s9 : List (Tup Int)), .own D40 ys39, .fz (p_other : Tup Int), .fz (p_one : Tup Int)]) (M := [.fz (p_one : Tup Int), .fz (p_other : Tup Int), .fz (s9 : List (Tup Int)), .fz (x7.1 : Int), .fz (x7.2 : Int), .any]) (hz.pop.weak ⟨.inr rfl, .inr rfl, .inr rfl, .inr rfl, .inr rfl, .inr rfl, .inr rfl, .inr rfl, .inr rfl, .inr rfl, .inl rfl, trivial⟩) rfl rfl) (hz.fz 0 rfl rfl)
        have h : St K B0 F H (some (V.ref D54) :: some (V.ref a42) :: some (V.ref D40) :: some (V.ref a6) :: some (V.ref a5) :: List.set (List.set (σ) 3 (some v10)) 4 (some v11)) [.own D54 ys53, .fz (s9 : List (Tup Int)), .own D40 ys39, .fz (p_other : Tup Int), .fz (p_one : Tup Int), .fz (p_one : Tup Int), .fz (p_other : Tup Int), .fz (s9 : List (Tup Int)), .fz (x7.1 : Int), .fz (x7.2 : Int), .any] := h
        have h := h.nip
        obtain ⟨x55, hx55, hm⟩ := ob hm
        refine S_catLO h.pop.pop (h.vO 1 rfl) (h.vO 0 rfl) hx55 fun p56 F H hBp56 h => ?_
        refine S_gName ?_
        refine S_frz h hBp56 _ fun F h => ?_
        have h : St K B0 F H (some (V.ref a6) :: some (V.ref a5) :: List.set (List.set (List.set (σ) 3 (some v10)) 4 (some v11)) 2 (some (V.ref p56))) [.fz (p_other : Tup Int), .fz (p_one : Tup Int), .fz (p_one : Tup Int), .fz (p_other : Tup Int), .fz (x55 : List (Tup Int)), .fz (x7.1 : Int), .fz (x7.2 : Int), .any] := St.setF (v := (V.ref p56)) (x := (x55 : List (Tup Int))) h.pop 4 (h.fz 0 rfl rfl)
        have hz := h
        cases hm
        exact hk _ _ ⟨_, hz.weak ⟨.inr rfl, .inr rfl, .inr rfl, .inr rfl, .inr rfl, .inr rfl, .inr rfl, .inl rfl, trivial⟩⟩
    have hz := h
    cases hm
    exact hn _ _ _ (hz.weak ⟨.inr rfl, .inr rfl, .inr rfl, .inr rfl, .inr rfl, .inl rfl, .inl rfl, .inl rfl, trivial⟩)
  have h : St K B0 F H (some (V.ref a6) :: some (V.ref a5) :: σ) [.fz (p_other : Tup Int), .fz (p_one : Tup Int), .fz (p_one : Tup Int), .fz (p_other : Tup Int), .fz (s57 : List (Tup Int)), .any, .any, .any] := h
  have h := h.pop.pop
  refine Q_nx ?_
  refine S_ret ?_
  refine S_cb ?_
  refine S_cons ?_
  refine S_var 0 h rfl rfl fun v58 h => ?_
  refine S_nil ?_
  obtain ⟨x59, hx59, hm⟩ := ob hm
  refine S_sortD h.pop (h.vF 0 rfl rfl) hx59 (by decide) fun p60 F H hBp60 h => ?_
  refine S_frz h hBp60 _ fun F h => ?_
  have hz := h
  cases hm
  exact q _ _ _ (hz.finF aft0)
theorem fn_span {P : Program} {w : World} {K : Fg} {mg : Str → Option Value} {base : Heap} (bz : Blt mg) (kf : KF K) (cz : Cst mg) {f : Addr} {fd : FuncData} (F0 : Fun K "span" "span" s_span f fd)  : FnOk P w K mg base CX0 1 f fd ["one", "other"] (Prom K R_span) :=
  F0.ok sc_span (prom_len 2 fun A s A' h => by cases h; rfl) fun cdv A outer s H vs Q E hr h => ⟨t_span K, pss_cons (ps_set (i := 2) sc_span.nd rfl (.inl rfl) (pe_lst (pa_cons (pe_tup (pa_nil)) (pa_nil)))) (pss_cons (ps_for PassesOwn.never rfl (RZ.pi_zipA (by rfl) bz.zip (pa_cons (pv 0) (pa_cons (pv 1) (pa_nil)))) (pg_tup rfl (pgs_cons (pg_name (i := 3) sc_span.nd rfl (.inr rfl)) (pgs_cons (pg_name (i := 4) sc_span.nd rfl (.inl rfl)) (pgs_nil)))) (pss_one (ps_if (pt_cmpR (r := rEq) op_eq (pv 3) (pv 4) (nomark _)) (pss_one (ps_setLc (i := 2) (own := [("name", 5)]) (g := gName 5) (tt := tYes) (te := tOp (rCatA K) (tVar 5) (tTup (tCons (tVar 3) (tNil)))) (wi := iList K (tVar 2)) rfl sc_span.nd rfl rfl (sw_true rfl rfl rfl (by decide +kernel)) (pi_list (pv 2)) (blkOk_by (N := ["one", "other", "found", "first", "second", "name"]) (sc := defScope s_span) (by decide +kernel)) (fun _ _ _ _ _ => pg_name (i := 5) sc_span.nd rfl (by first | exact .inl rfl | exact .inr rfl)) (fun _ _ _ _ _ => pts_nil) (fun _ _ _ _ _ => pe_op (r := rCatA K) op_catA (pv 5) (pe_tup (pa_cons (pv 3) (pa_nil)))))) (pss_one (ps_set (i := 2) sc_span.nd rfl (.inl rfl) (pe_op op_cat (pe_lc (own := [("name", 5)]) (g := gName 5) (tt := tYes) (te := tOp (rCatA K) (tVar 5) (tTup (tCons (tC (.int 0)) (tNil)))) (wi := iList K (tVar 2)) rfl sc_span.nd (pi_list (pv 2)) (blkOk_by (N := ["one", "other", "found", "first", "second", "name"]) (sc := defScope s_span) (by decide +kernel)) (fun _ _ _ _ _ => pg_name (i := 5) sc_span.nd rfl (by first | exact .inl rfl | exact .inr rfl)) (fun _ _ _ _ _ => pts_nil) (fun _ _ _ _ _ => pe_op (r := rCatA K) op_catA (pv 5) (pe_tup (pa_cons (pe_int) (pa_nil))))) (pe_lc (own := [("name", 5)]) (g := gName 5) (tt := tYes) (te := tOp (rCatA K) (tVar 5) (tTup (tCons (tC (.int 1)) (tNil)))) (wi := iList K (tVar 2)) rfl sc_span.nd (pi_list (pv 2)) (blkOk_by (N := ["one", "other", "found", "first", "second", "name"]) (sc := defScope s_span) (by decide +kernel)) (fun _ _ _ _ _ => pg_name (i := 5) sc_span.nd rfl (by first | exact .inl rfl | exact .inr rfl)) (fun _ _ _ _ _ => pts_nil) (fun _ _ _ _ _ => pe_op (r := rCatA K) op_catA (pv 5) (pe_tup (pa_cons (pe_int) (pa_nil))))))))))) (pss_one (ps_ret (pe_callB (r := rSortD K) (cr_sortD (hu64 hr)) (by rfl) bz.sorted (by decide +kernel) (pa_cons (pv 2) (pa_nil)))))), sem_span kf h (fun _ _ z => z) fun _ _ z => z⟩
theorem ok_span {P : Program} {w : World} {K : Fg} {mg : Str → Option Value} {base : Heap} (bz : Blt mg) (kf : KF K) (cz : Cst mg) {f : Addr} {fd : FuncData} (F0 : Fun K "span" "span" s_span f fd) (g0 : mg "span" = some (.ref f)) (b0 : Binds K fd ["one", "other"] [])  : Cal P w K mg base 1 "span" ["one", "other"] R_span :=
  Cal.mk' (fn_span bz kf cz F0) g0 F0.kp b0

def m_is_parting (p_way : List Int) (p_one : Tup Int) (p_other : Tup Int) : Option Bool := ((atI (Tup.l p_one) (0 : Int)).bind fun x4 => (atI p_way x4).bind fun x6 => (atI (Tup.l p_one) (1 : Int)).bind fun x10 => (atI p_way x10).bind fun x12 => some (decide (x6 = x12))).bind fun c39 => (if c39 = true then ((atI (Tup.l p_other) (0 : Int)).bind fun x16 => (atI p_way x16).bind fun x18 => (atI (Tup.l p_other) (1 : Int)).bind fun x22 => (atI p_way x22).bind fun x24 => some (decide (x18 = x24))).bind fun c37 => (if c37 = true then (atI (Tup.l p_one) (0 : Int)).bind fun x28 => (atI p_way x28).bind fun x30 => (atI (Tup.l p_other) (0 : Int)).bind fun x34 => (atI p_way x34).bind fun x36 => some (!(decide (x30 = x36))) else some false).bind fun c38 => some c38 else some false).bind fun c40 => some c40
inductive R_is_parting : List Slot → RSlot → List Slot → Prop
  | mk (p_way : List Int) (p_one : Tup Int) (p_other : Tup Int)  {r : Bool} : m_is_parting p_way p_one p_other = some r → R_is_parting [.fz p_way, .fz p_one, .fz p_other] (.fz r) [.any, .any, .any]
def t_is_parting (K : Fg) : TS := tRet (tAndV (tOp rEq (tOp (rIxL K) (tVar 0) (tOp (rIxT K) (tVar 1) (tC (.int 0)))) (tOp (rIxL K) (tVar 0) (tOp (rIxT K) (tVar 1) (tC (.int 1))))) (tAndV (tOp rEq (tOp (rIxL K) (tVar 0) (tOp (rIxT K) (tVar 2) (tC (.int 0)))) (tOp (rIxL K) (tVar 0) (tOp (rIxT K) (tVar 2) (tC (.int 1))))) (tOp rNe (tOp (rIxL K) (tVar 0) (tOp (rIxT K) (tVar 1) (tC (.int 0)))) (tOp (rIxL K) (tVar 0) (tOp (rIxT K) (tVar 2) (tC (.int 0)))))))
theorem sc_is_parting : FnScope ["way", "one", "other"] ["way", "one", "other"] (defScope s_is_parting) := ⟨rfl, rfl, rfl, by decide +kernel, rfl, by decide +kernel, by decide +kernel⟩
theorem sem_is_parting {K : Fg} (kf : KF K) {vs : List V} {H : Hp} {Q : VK} {E : XK} (h : Prom K R_is_parting vs H Q E) {D : Ends} (hD : ∀ u H, Q u H → D.rt u H) (hN : ∀ σ H, Q .non H → D.nx σ H) : t_is_parting K D (start ["way", "one", "other"] vs) H := by
  obtain ⟨F, A, rs, A', hR, fh, hS, nd, q⟩ := h
  cases hR with | @mk p_way p_one p_other  r hm => ?_
  have hl := slots_len hS
  obtain ⟨va0, va1, va2, rfl⟩ := len3 (vs := vs) (by simpa using hl.symm)
  have h : St K ⟨F, H, []⟩ F H [some va0, some va1, some va2] [.fz (p_way : List Int), .fz (p_one : Tup Int), .fz (p_other : Tup Int)] := St.start fh hS nd []
  generalize hB : (⟨F, H, []⟩ : Base) = B0 at h
  have q0 := q
  have q : ∀ u F' H', Fin K B0 (.fz r) [.any, .any, .any] u F' H' → D.rt u H' := by subst hB; exact fun u F' H' z => hD _ _ (q u F' H' z)
  have qN : ∀ σ F' H', Fin K B0 (.fz r) [.any, .any, .any] .non F' H' → D.nx σ H' := by subst hB; exact fun σ F' H' z => hN _ _ (q0 _ F' H' z)
  clear hB q0 hD hN
  rw [show start ["way", "one", "other"] [va0, va1, va2] = [some va0, some va1, some va2] from rfl]
  unfold t_is_parting
  unfold m_is_parting at hm
  refine S_ret ?_
  obtain ⟨c39, hc39, hm⟩ := ob hm
  obtain ⟨c40, hc40, hm⟩ := ob hm
  refine S_andV (a := c39) (c := c40) h (fun Q' q' => ?_) (fun hc F H Q' h q' => ?_) (fun hc => ?_) fun F H h => ?_
  · have hm := hc39
    refine S_op ?_
    refine S_op ?_
    refine S_var 0 h rfl rfl fun v1 h => ?_
    refine S_op ?_
    refine S_var 1 h rfl rfl fun v2 h => ?_
    refine S_c ?_
    obtain ⟨x4, hx4, hm⟩ := ob hm
    refine S_ixT h.pop (h.fz 0 rfl rfl) hx4 fun u3 h => ?_
    obtain rfl : u3 = (V.int x4) := h.fz 0 rfl rfl
    have h := h.pop
    obtain ⟨x6, hx6, hm⟩ := ob hm
    refine S_ixL h.pop (h.vF 0 rfl rfl) hx6 fun u5 h => ?_
    obtain rfl : u5 = (V.int x6) := h.fz 0 rfl rfl
    have h := h.pop
    refine S_op ?_
    refine S_var 0 h rfl rfl fun v7 h => ?_
    refine S_op ?_
    refine S_var 1 h rfl rfl fun v8 h => ?_
    refine S_c ?_
    obtain ⟨x10, hx10, hm⟩ := ob hm
    refine S_ixT h.pop (h.fz 0 rfl rfl) hx10 fun u9 h => ?_
    obtain rfl : u9 = (V.int x10) := h.fz 0 rfl rfl
    have h := h.pop
    obtain ⟨x12, hx12, hm⟩ := ob hm
    refine S_ixL h.pop (h.vF 0 rfl rfl) hx12 fun u11 h => ?_
    obtain rfl : u11 = (V.int x12) := h.fz 0 rfl rfl
    have h := h.pop
    refine S_eqI ?_
    have hz := h
    cases hm
    exact q' _ _ hz
  · have hm := ifT hc hc40
    obtain ⟨c37, hc37, hm⟩ := ob hm
    obtain ⟨c38, hc38, hm⟩ := ob hm
    refine S_andV (a := c37) (c := c38) h (fun Q' q' => ?_) (fun hc F H Q' h q' => ?_) (fun hc => ?_) fun F H h => ?_
    · have hm := hc37
      refine S_op ?_
      refine S_op ?_
      refine S_var 0 h rfl rfl fun v13 h => ?_
      refine S_op ?_
      refine S_var 1 h rfl rfl fun v14 h => ?_
      refine S_c ?_
      obtain ⟨x16, hx16, hm⟩ := ob hm
      refine S_ixT h.pop (h.fz 0 rfl rfl) hx16 fun u15 h => ?_
      obtain rfl : u15 = (V.int x16) := h.fz 0 rfl rfl
      have h := h.pop
      obtain ⟨x18, hx18, hm⟩ := ob hm
      refine S_ixL h.pop (h.vF 0 rfl rfl) hx18 fun u17 h => ?_
      obtain rfl : u17 = (V.int x18) := h.fz 0 rfl rfl
      have h := h.pop
      refine S_op ?_
      refine S_var 0 h rfl rfl fun v19 h => ?_
      refine S_op ?_
      refine S_var 1 h rfl rfl fun v20 h => ?_
      refine S_c ?_
      obtain ⟨x22, hx22, hm⟩ := ob hm
      refine S_ixT h.pop (h.fz 0 rfl rfl) hx22 fun u21 h => ?_
      obtain rfl : u21 = (V.int x22) := h.fz 0 rfl rfl
      have h := h.pop
      obtain ⟨x24, hx24, hm⟩ := ob hm
      refine S_ixL h.pop (h.vF 0 rfl rfl) hx24 fun u23 h => ?_
      obtain rfl : u23 = (V.int x24) := h.fz 0 rfl rfl
      have h := h.pop
      refine S_eqI ?_
      have hz := h
      cases hm
      exact q' _ _ hz
    · have hm := ifT hc hc38
      refine S_op ?_
      refine S_op ?_
      refine S_var 0 h rfl rfl fun v25 h => ?_
      refine S_op ?_
      refine S_var 1 h rfl rfl fun v26 h => ?_
      refine S_c ?_
      obtain ⟨x28, hx28, hm⟩ := ob hm
      refine S_ixT h.pop (h.fz 0 rfl rfl) hx28 fun u27 h => ?_
      obtain rfl : u27 = (V.int x28) := h.fz 0 rfl rfl
      have h := h.pop
      obtain ⟨x30, hx30, hm⟩ := ob hm
      refine S_ixL h.pop (h.vF 0 rfl rfl) hx30 fun u29 h => ?_
      obtain rfl : u29 = (V.int x30) := h.fz 0 rfl rfl
      have h := h.pop
      refine S_op ?_
      refine S_var 0 h rfl rfl fun v31 h => ?_
      refine S_op ?_
      refine S_var 1 h rfl rfl fun v32 h => ?_
      refine S_c ?_
      obtain ⟨x34, hx34, hm⟩ := ob hm
      refine S_ixT h.pop (h.fz 0 rfl rfl) hx34 fun u33 h => ?_
      obtain rfl : u33 = (V.int x34) := h.fz 0 rfl rfl
      have h := h.pop
      obtain ⟨x36, hx36, hm⟩ := ob hm
      refine S_ixL h.pop (h.vF 0 rfl rfl) hx36 fun u35 h => ?_
      obtain rfl : u35 = (V.int x36) := h.fz 0 rfl rfl
      have h := h.pop
      refine S_neI ?_
      have hz := h
      cases hm
      exact q' _ _ hz
    · exact (Option.some.inj (ifF hc hc38)).symm
    have hz := h
    cases hm
    exact q' _ _ hz
  · exact (Option.some.inj (ifF hc hc40)).symm
  have hz := h
  cases hm
  exact q _ _ _ (hz.finB aft0)
theorem fn_is_parting {P : Program} {w : World} {K : Fg} {mg : Str → Option Value} {base : Heap} (bz : Blt mg) (kf : KF K) (cz : Cst mg) {f : Addr} {fd : FuncData} (F0 : Fun K "is_parting" "is_parting" s_is_parting f fd)  : FnOk P w K mg base CX0 1 f fd ["way", "one", "other"] (Prom K R_is_parting) :=
  F0.ok sc_is_parting (prom_len 3 fun A s A' h => by cases h; rfl) fun cdv A outer s H vs Q E hr h => ⟨t_is_parting K, pss_one (ps_ret (pe_and (pe_cmpR (r := rEq) op_eq (pe_ix (r := rIxL K) ix_list (pv 0) (pe_ix (r := rIxT K) ix_tup (pv 1) (pe_int) (fun _ _ => rfl)) (fun _ _ => rfl)) (pe_ix (r := rIxL K) ix_list (pv 0) (pe_ix (r := rIxT K) ix_tup (pv 1) (pe_int) (fun _ _ => rfl)) (fun _ _ => rfl)) (nomark _)) (pe_and (pe_cmpR (r := rEq) op_eq (pe_ix (r := rIxL K) ix_list (pv 0) (pe_ix (r := rIxT K) ix_tup (pv 2) (pe_int) (fun _ _ => rfl)) (fun _ _ => rfl)) (pe_ix (r := rIxL K) ix_list (pv 0) (pe_ix (r := rIxT K) ix_tup (pv 2) (pe_int) (fun _ _ => rfl)) (fun _ _ => rfl)) (nomark _)) (pe_one (pe_cmpR (r := rNe) op_ne (pe_ix (r := rIxL K) ix_list (pv 0) (pe_ix (r := rIxT K) ix_tup (pv 1) (pe_int) (fun _ _ => rfl)) (fun _ _ => rfl)) (pe_ix (r := rIxL K) ix_list (pv 0) (pe_ix (r := rIxT K) ix_tup (pv 2) (pe_int) (fun _ _ => rfl)) (fun _ _ => rfl)) (nomark _)))))), sem_is_parting kf h (fun _ _ z => z) fun _ _ z => z⟩
theorem ok_is_parting {P : Program} {w : World} {K : Fg} {mg : Str → Option Value} {base : Heap} (bz : Blt mg) (kf : KF K) (cz : Cst mg) {f : Addr} {fd : FuncData} (F0 : Fun K "is_parting" "is_parting" s_is_parting f fd) (g0 : mg "is_parting" = some (.ref f)) (b0 : Binds K fd ["way", "one", "other"] [])  : Cal P w K mg base 1 "is_parting" ["way", "one", "other"] R_is_parting :=
  Cal.mk' (fn_is_parting bz kf cz F0) g0 F0.kp b0

def m_are_parted_c1 (x5 : Int) (x13 : Tup Int) : Option Int := (atI (Tup.l x13) x5).bind fun x21 => some x21
def m_are_parted_c0 (p_names : List (Tup Int)) (x5 : Int) : Option (List Int) := (mapO (m_are_parted_c1 x5) p_names).bind fun ys22 => some ys22
def m_are_parted_c2 (p_one : Tup Int) (p_other : Tup Int) (x28 : List Int) : Option Bool := (m_is_parting x28 p_one p_other).bind fun r37 => some r37
def m_are_parted (p_names : List (Tup Int)) (p_one : Tup Int) (p_other : Tup Int) : Option Bool := (atI p_names (0 : Int)).bind fun x3 => (rangeO (List.length (Tup.l x3) : Int)).bind fun xs4 => (mapO (m_are_parted_c0 p_names) xs4).bind fun ys24 => (mapO (m_are_parted_c2 p_one p_other) ys24).bind fun ys38 => some (List.any ys38 id)
inductive R_are_parted : List Slot → RSlot → List Slot → Prop
  | mk (p_names : List (Tup Int)) (p_one : Tup Int) (p_other : Tup Int)  {r : Bool} : m_are_parted p_names p_one p_other = some r → R_are_parted [.fz p_names, .fz p_one, .fz p_other] (.fz r) [.any, .any, .any]
def t_are_parted (K : Fg) : TS := tSeq (tAsg (tLc (iRng1 (tCons (tCB (rLenG K) (tCons (tOp (rIxL K) (tVar 0) (tC (.int 0))) (tNil))) (tNil))) (gName 4) (tYes) (tLc (iList K (tVar 0)) (gName 5) (tYes) (tOp (rIxT K) (tVar 5) (tVar 4)) [5]) [4]) (gName 3)) (tRet (tCB (rAny K) (tCons (tLc (iList K (tVar 3)) (gName 6) (tYes) (tCall (Prom K R_is_parting) [] E0 (tCons (tVar 6) (tCons (tVar 1) (tCons (tVar 2) (tNil))))) [6]) (tNil))))
theorem sc_are_parted : FnScope ["names", "one", "other", "ways", "place", "name", "way"] ["names", "one", "other"] (defScope s_are_parted) := ⟨rfl, rfl, rfl, by decide +kernel, rfl, by decide +kernel, by decide +kernel⟩
theorem sem_are_parted {K : Fg} (kf : KF K) {vs : List V} {H : Hp} {Q : VK} {E : XK} (h : Prom K R_are_parted vs H Q E) {D : Ends} (hD : ∀ u H, Q u H → D.rt u H) (hN : ∀ σ H, Q .non H → D.nx σ H) : t_are_parted K D (start ["names", "one", "other", "ways", "place", "name", "way"] vs) H := by
  obtain ⟨F, A, rs, A', hR, fh, hS, nd, q⟩ := h
  cases hR with | @mk p_names p_one p_other  r hm => ?_
  have hl := slots_len hS
  obtain ⟨va0, va1, va2, rfl⟩ := len3 (vs := vs) (by simpa using hl.symm)
  have h : St K ⟨F, H, []⟩ F H [some va0, some va1, some va2, none, none, none, none] [.fz (p_names : List (Tup Int)), .fz (p_one : Tup Int), .fz (p_other : Tup Int), .any, .any, .any, .any] := St.start fh hS nd [none, none, none, none]
  generalize hB : (⟨F, H, []⟩ : Base) = B0 at h
  have q0 := q
  have q : ∀ u F' H', Fin K B0 (.fz r) [.any, .any, .any] u F' H' → D.rt u H' := by subst hB; exact fun u F' H' z => hD _ _ (q u F' H' z)
  have qN : ∀ σ F' H', Fin K B0 (.fz r) [.any, .any, .any] .non F' H' → D.nx σ H' := by subst hB; exact fun σ F' H' z => hN _ _ (q0 _ F' H' z)
  clear hB q0 hD hN
  rw [show start ["names", "one", "other", "ways", "place", "name", "way"] [va0, va1, va2] = [some va0, some va1, some va2, none, none, none, none] from rfl]
  unfold t_are_parted
  unfold m_are_parted at hm
  refine Q_asg ?_
  refine S_lc ?_
  refine S_iR1 ?_
  refine S_cons ?_
  refine S_cb ?_
  refine S_cons ?_
  refine S_op ?_
  refine S_var 0 h rfl rfl fun v1 h => ?_
  refine S_c ?_
  obtain ⟨x3, hx3, hm⟩ := ob hm
  refine S_ixL h.pop (h.vF 0 rfl rfl) hx3 fun u2 h => ?_
  refine S_nil ?_
  refine S_lenT h (h.fz 0 rfl rfl) ?_
  have h := h.pop
  refine S_nil ?_
  obtain ⟨xs4, hxs4, hm⟩ := ob hm
  refine S_rng1 (K := K) hxs4 fun J Y => ?_
  obtain ⟨ys24, hys24, hm⟩ := ob hm
  refine S_mapO (ts := []) (TM := []) (M := [.fz (p_names : List (Tup Int)), .fz (p_one : Tup Int), .fz (p_other : Tup Int), .any, .any, .any, .any]) Y hys24 h rfl ⟨rfl, trivial⟩ (rng1_len hxs4) (fun w F H h => trivial) (fun x5 z v6 D7 a8 F H G N hf h hG => ?_) (fun D25 F H hBD25 h => ?_)
  · have hm := hf
    unfold m_are_parted_c0 at hm
    have h : St K B0 F H (some v6 :: some (V.ref D7) :: wipe [some va0, some va1, some va2, none, none, none, none] [4]) [.fz (x5 : Int), .own D7 a8, .fz (p_names : List (Tup Int)), .fz (p_one : Tup Int), .fz (p_other : Tup Int), .any, .any, .any, .any] := h
    refine S_gName ?_
    have h : St K B0 F H (some (V.ref D7) :: List.set (wipe [some va0, some va1, some va2, none, none, none, none] [4]) 4 (some v6)) [.own D7 a8, .fz (p_names : List (Tup Int)), .fz (p_one : Tup Int), .fz (p_other : Tup Int), .any, .fz (x5 : Int), .any, .any] := St.setF (v := v6) (x := (x5 : Int)) h.pop 5 (h.fz 0 rfl rfl)
    refine ⟨(wipe_set (by decide)).trans wipe_idem, ?_⟩
    refine if1 ?_
    refine S_lc ?_
    refine S_iL ?_
    refine S_var 1 h rfl rfl fun v11 h => ?_
    refine S_itL (h.vF 0 rfl rfl) fun a12 e1 => ?_
    subst e1
    obtain ⟨ys22, hys22, hm⟩ := ob hm
    refine S_mapO (ts := [some (V.ref a12), some (V.ref D7)]) (TM := [.fz (p_names : List (Tup Int)), .own D7 a8]) (M := [.fz (p_names : List (Tup Int)), .fz (p_one : Tup Int), .fz (p_other : Tup Int), .any, .fz (x5 : Int), .any, .any]) (yields_list a12 p_names) hys22 h rfl ⟨rfl, trivial⟩ (view_len (h.vF 0 rfl rfl)) (fun w F H h => (h.vF 0 rfl rfl)) (fun x13 z v14 D15 a16 F H G N hf h hG => ?_) (fun D23 F H hBD23 h => ?_)
    · have hm := hf
      unfold m_are_parted_c1 at hm
      have h : St K B0 F H (some v14 :: some (V.ref D15) :: some (V.ref a12) :: some (V.ref D7) :: wipe (List.set (wipe [some va0, some va1, some va2, none, none, none, none] [4]) 4 (some v6)) [5]) [.fz (x13 : Tup Int), .own D15 a16, .fz (p_names : List (Tup Int)), .own D7 a8, .fz (p_names : List (Tup Int)), .fz (p_one : Tup Int), .fz (p_other : Tup Int), .any, .fz (x5 : Int), .any, .any] := h
      refine S_gName ?_
      have h : St K B0 F H (some (V.ref D15) :: some (V.ref a12) :: some (V.ref D7) :: List.set (wipe (List.set (wipe [some va0, some va1, some va2, none, none, none, none] [4]) 4 (some v6)) [5]) 5 (some v14)) [.own D15 a16, .fz (p_names : List (Tup Int)), .own D7 a8, .fz (p_names : List (Tup Int)), .fz (p_one : Tup Int), .fz (p_other : Tup Int), .any, .fz (x5 : Int), .fz (x13 : Tup Int), .any] := St.setF (v := v14) (x := (x13 : Tup Int)) h.pop 8 (h.fz 0 rfl rfl)
      refine ⟨(wipe_set (by decide)).trans wipe_idem, ?_⟩
      refine if1 ?_
      refine S_op ?_
      refine S_var 3 h rfl rfl fun v19 h => ?_
      refine S_varI 4 h rfl rfl ?_
      obtain ⟨x21, hx21, hm⟩ := ob hm
      refine S_ixT h.pop (h.fz 0 rfl rfl) hx21 fun u20 h => ?_
      obtain rfl : u20 = (V.int x21) := h.fz 0 rfl rfl
      have h := h.pop
      have hz := h
      cases hm
      exact hG _ _ _ (St.unset (ts := [some (V.ref D15), some (V.ref a12), some (V.ref D7)]) (TM := [.own D15 a16, .fz (p_names : List (Tup Int)), .own D7 a8]) (M := [.fz (p_names : List (Tup Int)), .fz (p_one : Tup Int), .fz (p_other : Tup Int), .any, .fz (x5 : Int), .any, .any]) (hz.weak ⟨.inr rfl, .inr rfl, .inr rfl, .inr rfl, .inr rfl, .inr rfl, .inr rfl, .inr rfl, .inl rfl, .inr rfl, trivial⟩) rfl rfl) rfl
    have h : St K B0 F H (some (V.ref D23) :: some (V.ref a12) :: some (V.ref D7) :: List.set (wipe [some va0, some va1, some va2, none, none, none, none] [4]) 4 (some v6)) [.own D23 ys22, .fz (p_names : List (Tup Int)), .own D7 a8, .fz (p_names : List (Tup Int)), .fz (p_one : Tup Int), .fz (p_other : Tup Int), .any, .fz (x5 : Int), .any, .any] := h
    have h := h.nip
    refine S_frz h hBD23 _ fun F h => ?_
    have hz := h
    cases hm
    exact hG _ _ _ (St.unset (ts := [some (V.ref D7)]) (TM := [.own D7 a8]) (M := [.fz (p_names : List (Tup Int)), .fz (p_one : Tup Int), .fz (p_other : Tup Int), .any, .any, .any, .any]) (hz.pop.weak ⟨.inr rfl, .inr rfl, .inr rfl, .inr rfl, .inr rfl, .inl rfl, .inr rfl, .inr rfl, trivial⟩) rfl rfl) (hz.fz 0 rfl rfl)
  have h : St K B0 F H (some (V.ref D25) :: [some va0, some va1, some va2, none, none, none, none]) [.own D25 ys24, .fz (p_names : List (Tup Int)), .fz (p_one : Tup Int), .fz (p_other : Tup Int), .any, .any, .any, .any] := h
  refine S_gName ?_
  refine S_frz h hBD25 _ fun F h => ?_
  have h : St K B0 F H (List.set [some va0, some va1, some va2, none, none, none, none] 3 (some (V.ref D25))) [.fz (p_names : List (Tup Int)), .fz (p_one : Tup Int), .fz (p_other : Tup Int), .fz (ys24 : List (List Int)), .any, .any, .any] := St.setF (v := (V.ref D25)) (x := (ys24 : List (List Int))) h.pop 3 (h.fz 0 rfl rfl)
  refine S_ret ?_
  refine S_cb ?_
  refine S_cons ?_
  refine S_lc ?_
  refine S_iL ?_
  refine S_var 0 h rfl rfl fun v26 h => ?_
  refine S_itL (h.vF 0 rfl rfl) fun a27 e1 => ?_
  subst e1
  obtain ⟨ys38, hys38, hm⟩ := ob hm
  refine S_mapO (ts := [some (V.ref a27)]) (TM := [.fz (ys24 : List (List Int))]) (M := [.fz (p_names : List (Tup Int)), .fz (p_one : Tup Int), .fz (p_other : Tup Int), .fz (ys24 : List (List Int)), .any, .any, .any]) (yields_list a27 ys24) hys38 h rfl ⟨rfl, trivial⟩ (view_len (h.vF 0 rfl rfl)) (fun w F H h => (h.vF 0 rfl rfl)) (fun x28 z v29 D30 a31 F H G N hf h hG => ?_) (fun D39 F H hBD39 h => ?_)
  · have hm := hf
    unfold m_are_parted_c2 at hm
    have h : St K B0 F H (some v29 :: some (V.ref D30) :: some (V.ref a27) :: wipe (List.set [some va0, some va1, some va2, none, none, none, none] 3 (some (V.ref D25))) [6]) [.fz (x28 : List Int), .own D30 a31, .fz (ys24 : List (List Int)), .fz (p_names : List (Tup Int)), .fz (p_one : Tup Int), .fz (p_other : Tup Int), .fz (ys24 : List (List Int)), .any, .any, .any] := h
    refine S_gName ?_
    have h : St K B0 F H (some (V.ref D30) :: some (V.ref a27) :: List.set (wipe (List.set [some va0, some va1, some va2, none, none, none, none] 3 (some (V.ref D25))) [6]) 6 (some v29)) [.own D30 a31, .fz (ys24 : List (List Int)), .fz (p_names : List (Tup Int)), .fz (p_one : Tup Int), .fz (p_other : Tup Int), .fz (ys24 : List (List Int)), .any, .any, .fz (x28 : List Int)] := St.setF (v := v29) (x := (x28 : List Int)) h.pop 8 (h.fz 0 rfl rfl)
    refine ⟨(wipe_set (by decide)).trans wipe_idem, ?_⟩
    refine if1 ?_
    refine S_tcall ?_
    refine S_cons ?_
    refine S_var 2 h rfl rfl fun v34 h => ?_
    refine S_cons ?_
    refine S_var 3 h rfl rfl fun v35 h => ?_
    refine S_cons ?_
    refine S_var 4 h rfl rfl fun v36 h => ?_
    refine S_nil ?_
    obtain ⟨r37, hr37, hm⟩ := ob hm
    refine S_callB (A := [.fz (x28 : List Int), .fz (p_one : Tup Int), .fz (p_other : Tup Int)]) h.pop.pop.pop (slots_cons (ok_fz (h.fz 2 rfl rfl)) (slots_cons (ok_fz (h.fz 1 rfl rfl)) (slots_cons (ok_fz (h.fz 0 rfl rfl)) slots_nil))) (R_is_parting.mk _ _ _ hr37) rfl fun F H h => ?_
    have hz := h
    cases hm
    exact hG _ _ _ (St.unset (ts := [some (V.ref D30), some (V.ref a27)]) (TM := [.own D30 a31, .fz (ys24 : List (List Int))]) (M := [.fz (p_names : List (Tup Int)), .fz (p_one : Tup Int), .fz (p_other : Tup Int), .fz (ys24 : List (List Int)), .any, .any, .any]) (hz.weak ⟨.inr rfl, .inr rfl, .inr rfl, .inr rfl, .inr rfl, .inr rfl, .inr rfl, .inr rfl, .inl rfl, trivial⟩) rfl rfl) rfl
  have h : St K B0 F H (some (V.ref D39) :: some (V.ref a27) :: List.set [some va0, some va1, some va2, none, none, none, none] 3 (some (V.ref D25))) [.own D39 ys38, .fz (ys24 : List (List Int)), .fz (p_names : List (Tup Int)), .fz (p_one : Tup Int), .fz (p_other : Tup Int), .fz (ys24 : List (List Int)), .any, .any, .any] := h
  have h := h.nip
  refine S_frz h hBD39 _ fun F h => ?_
  refine S_nil ?_
  refine S_any (h.vF 0 rfl rfl) ?_
  have h := h.pop
  have hz := h
  cases hm
  exact q _ _ _ (hz.finB aft0)
theorem fn_are_parted {P : Program} {w : World} {K : Fg} {mg : Str → Option Value} {base : Heap} (bz : Blt mg) (kf : KF K) (cz : Cst mg) {f : Addr} {fd : FuncData} (F0 : Fun K "are_parted" "are_parted" s_are_parted f fd) (C_is_parting : Cal P w K mg base 1 "is_parting" ["way", "one", "other"] R_is_parting) : FnOk P w K mg base CX0 2 f fd ["names", "one", "other"] (Prom K R_are_parted) :=
  F0.ok sc_are_parted (prom_len 3 fun A s A' h => by cases h; rfl) fun cdv A outer s H vs Q E hr h => ⟨t_are_parted K, pss_cons (ps_setLc (i := 3) (own := [("place", 4)]) (g := gName 4) (tt := tYes) (te := tLc (iList K (tVar 0)) (gName 5) (tYes) (tOp (rIxT K) (tVar 5) (tVar 4)) [5]) (wi := iRng1 (tCons (tCB (rLenG K) (tCons (tOp (rIxL K) (tVar 0) (tC (.int 0))) (tNil))) (tNil))) rfl sc_are_parted.nd rfl rfl (sw_true rfl rfl rfl (by decide +kernel)) (pi_range1 (by rfl) bz.range (pa_cons (pe_callB (r := rLenG K) cr_lenG (by rfl) bz.len (by decide +kernel) (pa_cons (pe_ix (r := rIxL K) ix_list (pv 0) (pe_int) (fun _ _ => rfl)) (pa_nil))) (pa_nil))) (blkOk_by (N := ["names", "one", "other", "ways", "place", "name", "way"]) (sc := defScope s_are_parted) (by decide +kernel)) (fun _ _ _ _ _ => pg_name (i := 4) sc_are_parted.nd rfl (by first | exact .inl rfl | exact .inr rfl)) (fun _ _ _ _ _ => pts_nil) (fun _ _ _ _ _ => pe_lc (own := [("name", 5)]) (g := gName 5) (tt := tYes) (te := tOp (rIxT K) (tVar 5) (tVar 4)) (wi := iList K (tVar 0)) rfl sc_are_parted.nd (pi_list (pv 0)) (blk_rl (blkOk_by (N := ["names", "one", "other", "ways", "place", "name", "way"]) (sc := { kind := PySem.ScopeKind.function, names := [ (PySem.Str.ofString ".0", PySem.NameKind.local), (PySem.Str.ofString "place", PySem.NameKind.cell), (PySem.Str.ofString "names", PySem.NameKind.free)], isGenerator := false, isCoroutine := false, more := [] : PySem.Scope }) (by decide +kernel))) (fun _ _ _ _ _ => pg_name (i := 5) sc_are_parted.nd rfl (by first | exact .inl rfl | exact .inr rfl)) (fun _ _ _ _ _ => pts_nil) (fun _ _ _ _ _ => pe_ix (r := rIxT K) ix_tup (pv 5) (pv 4) (fun _ _ => rfl)))) (pss_one (ps_ret (pe_callB (r := rAny K) (cr_any rfl) (by rfl) bz.any_ (by decide +kernel) (pa_cons (pe_lc (own := [("way", 6)]) (g := gName 6) (tt := tYes) (te := tCall (Prom K R_is_parting) [] E0 (tCons (tVar 6) (tCons (tVar 1) (tCons (tVar 2) (tNil))))) (wi := iList K (tVar 3)) rfl sc_are_parted.nd (pi_list (pv 3)) (blkOk_by (N := ["names", "one", "other", "ways", "place", "name", "way"]) (sc := defScope s_are_parted) (by decide +kernel)) (fun _ _ _ _ _ => pg_name (i := 6) sc_are_parted.nd rfl (by first | exact .inl rfl | exact .inr rfl)) (fun _ _ _ _ _ => pts_nil) (fun _ _ _ _ _ => C_is_parting.pe (hr.mono (by decide)) (by rfl) (pa_cons (pv 6) (pa_cons (pv 1) (pa_cons (pv 2) (pa_nil)))))) (pa_nil))))), sem_are_parted kf h (fun _ _ z => z) fun _ _ z => z⟩
theorem ok_are_parted {P : Program} {w : World} {K : Fg} {mg : Str → Option Value} {base : Heap} (bz : Blt mg) (kf : KF K) (cz : Cst mg) {f : Addr} {fd : FuncData} (F0 : Fun K "are_parted" "are_parted" s_are_parted f fd) (g0 : mg "are_parted" = some (.ref f)) (b0 : Binds K fd ["names", "one", "other"] []) (C_is_parting : Cal P w K mg base 1 "is_parting" ["way", "one", "other"] R_is_parting) : Cal P w K mg base 2 "are_parted" ["names", "one", "other"] R_are_parted :=
  Cal.mk' (fn_are_parted bz kf cz F0 C_is_parting) g0 F0.kp b0

def m_first_common_l0 (p_others : List (Tup Int)) (x3 : Tup Int) (s5 : Unit) : Option (Out Unit (Option (Tup Int))) := (inO x3 p_others).bind fun c8 => if c8 = true then some (.rt (some x3)) else some (.nx ())
def m_first_common (p_some : List (Tup Int)) (p_others : List (Tup Int)) : Option (Option (Tup Int)) :=  (forO (m_first_common_l0 p_others) p_some ()).bind fun s10 => match s10 with | .nx s1 => some none | .rt r1 => some r1 | .bk _ => none
inductive R_first_common : List Slot → RSlot → List Slot → Prop
  | mk (p_some : List (Tup Int)) (p_others : List (Tup Int))  {r : Option (Tup Int)} : m_first_common p_some p_others = some r → R_first_common [.fz p_some, .fz p_others] (.fz r) [.any, .any]
def t_first_common (K : Fg) : TS := tSeq (tFor (iList K (tVar 0)) (gName 2) (tIfS (tTest (tOp (rInD K) (tVar 2) (tVar 1))) (tRet (tVar 2)) tNext)) (tRet (tC .non))
theorem sc_first_common : FnScope ["some", "others", "name"] ["some", "others"] (defScope s_first_common) := ⟨rfl, rfl, rfl, by decide +kernel, rfl, by decide +kernel, by decide +kernel⟩
theorem sem_first_common {K : Fg} (kf : KF K) {vs : List V} {H : Hp} {Q : VK} {E : XK} (h : Prom K R_first_common vs H Q E) {D : Ends} (hD : ∀ u H, Q u H → D.rt u H) (hN : ∀ σ H, Q .non H → D.nx σ H) : t_first_common K D (start ["some", "others", "name"] vs) H := by
  obtain ⟨F, A, rs, A', hR, fh, hS, nd, q⟩ := h
  cases hR with | @mk p_some p_others  r hm => ?_
  have hl := slots_len hS
  obtain ⟨va0, va1, rfl⟩ := len2 (vs := vs) (by simpa using hl.symm)
  have h : St K ⟨F, H, []⟩ F H [some va0, some va1, none] [.fz (p_some : List (Tup Int)), .fz (p_others : List (Tup Int)), .any] := St.start fh hS nd [none]
  generalize hB : (⟨F, H, []⟩ : Base) = B0 at h
  have q0 := q
  have q : ∀ u F' H', Fin K B0 (.fz r) [.any, .any] u F' H' → D.rt u H' := by subst hB; exact fun u F' H' z => hD _ _ (q u F' H' z)
  have qN : ∀ σ F' H', Fin K B0 (.fz r) [.any, .any] .non F' H' → D.nx σ H' := by subst hB; exact fun σ F' H' z => hN _ _ (q0 _ F' H' z)
  clear hB q0 hD hN
  rw [show start ["some", "others", "name"] [va0, va1] = [some va0, some va1, none] from rfl]
  unfold t_first_common
  unfold m_first_common at hm
  have hrt : ∀ (r' : Option (Tup Int)) u H', (some r' : Option _) = some r → (fun r u H' => ∃ F', Fin K B0 (.fz r) [.any, .any] u F' H') r' u H' → D.rt u H' := fun r' u H' e z => by cases e; exact q _ _ _ z.choose_spec
  refine Q_for ?_
  refine S_iL ?_
  refine S_var 0 h rfl rfl fun v1 h => ?_
  refine S_itL (h.vF 0 rfl rfl) fun a2 e1 => ?_
  subst e1
  obtain ⟨s10, hs10, hm⟩ := ob hm
  refine S_forO (ts := [some (V.ref a2)]) (TM := [.fz (p_some : List (Tup Int))]) (Mf := fun (s5 : Unit) => [.fz (p_some : List (Tup Int)), .fz (p_others : List (Tup Int)), .any]) (R := (fun r u H' => ∃ F', Fin K B0 (.fz r) [.any, .any] u F' H' : Option (Tup Int) → V → Hp → Prop)) (yields_list a2 p_some) hs10 (h.weak ⟨.inr rfl, .inr rfl, .inr rfl, .inl rfl, trivial⟩) (fun s5 σ F H h => (h.vF 0 rfl rfl)) (fun i x3 s5 o' v4 σ F H D hx hb h hn hct hbk hrt => ?_) (fun s1 σ F H ho h => ?_) (fun r1 u H' ho hr => ?_)
  · have hm := hb
    unfold m_first_common_l0 at hm
    have h : St K B0 F H (some v4 :: some (V.ref a2) :: σ) [.fz (x3 : Tup Int), .fz (p_some : List (Tup Int)), .fz (p_some : List (Tup Int)), .fz (p_others : List (Tup Int)), .any] := h
    refine S_gName ?_
    have h : St K B0 F H (some (V.ref a2) :: List.set (σ) 2 (some v4)) [.fz (p_some : List (Tup Int)), .fz (p_some : List (Tup Int)), .fz (p_others : List (Tup Int)), .fz (x3 : Tup Int)] := St.setF (v := v4) (x := (x3 : Tup Int)) h.pop 3 (h.fz 0 rfl rfl)
    refine S_if ?_
    refine T_test ?_
    refine S_op ?_
    refine S_var 1 h rfl rfl fun v6 h => ?_
    refine S_var 2 h rfl rfl fun v7 h => ?_
    obtain ⟨c8, hc8, hm⟩ := ob hm
    refine S_inD (dF h (h.fz 1 rfl rfl)) (dF h (h.fz 0 rfl rfl)) hc8 (by decide) ?_
    have h := h.pop.pop
    refine T_bl ?_
    refine S_ite hm (fun hc hm => ?_) (fun hc hm => ?_)
    · skip
      refine S_ret ?_
      refine S_var 1 h rfl rfl fun v9 h => ?_
      have h := h.push (v := v9) (x := ((some x3) : Option (Tup Int))) (rp_some (x := (x3 : Tup Int)) (h.fz 0 rfl rfl))
      have h := h.nip
      have hz := h
      cases hm
      exact hrt _ _ _ rfl ⟨_, (hz.finF aft0)⟩
    refine S_next ?_
    have hz := h
    cases hm
    exact hn _ _ _ _ rfl (hz.weak ⟨.inr rfl, .inr rfl, .inr rfl, .inl rfl, trivial⟩)
  rotate_left
  · subst ho
    cases hm
    exact hrt _ _ _ rfl hr
  subst ho
  have h : St K B0 F H (some (V.ref a2) :: σ) [.fz (p_some : List (Tup Int)), .fz (p_some : List (Tup Int)), .fz (p_others : List (Tup Int)), .any] := h
  have h := h.pop
  refine Q_nx ?_
  refine S_ret ?_
  refine S_c ?_
  have h := h.push (v := V.non) (x := (none : Option (Tup Int))) rfl
  have hz := h
  cases hm
  exact q _ _ _ (hz.finF aft0)
theorem fn_first_common {P : Program} {w : World} {K : Fg} {mg : Str → Option Value} {base : Heap} (bz : Blt mg) (kf : KF K) (cz : Cst mg) {f : Addr} {fd : FuncData} (F0 : Fun K "first_common" "first_common" s_first_common f fd)  : FnOk P w K mg base CX0 1 f fd ["some", "others"] (Prom K R_first_common) :=
  F0.ok sc_first_common (prom_len 2 fun A s A' h => by cases h; rfl) fun cdv A outer s H vs Q E hr h => ⟨t_first_common K, pss_cons (ps_for PassesOwn.never rfl (pi_list (pv 0)) (pg_name (i := 2) sc_first_common.nd rfl (.inl rfl)) (pss_one (ps_if (pt_cmpR (r := (rInD K)) (op_inD (hu65 hr)) (pv 2) (pv 1) (by with_unfolding_all rfl)) (pss_one (ps_ret (pv 2))) pss_nil))) (pss_one (ps_ret (pe_non))), sem_first_common kf h (fun _ _ z => z) fun _ _ z => z⟩
theorem ok_first_common {P : Program} {w : World} {K : Fg} {mg : Str → Option Value} {base : Heap} (bz : Blt mg) (kf : KF K) (cz : Cst mg) {f : Addr} {fd : FuncData} (F0 : Fun K "first_common" "first_common" s_first_common f fd) (g0 : mg "first_common" = some (.ref f)) (b0 : Binds K fd ["some", "others"] [])  : Cal P w K mg base 1 "first_common" ["some", "others"] R_first_common :=
  Cal.mk' (fn_first_common bz kf cz F0) g0 F0.kp b0

def m_race_at (p_table : C_Table) (p_names : List (Tup Int)) (p_x : Int) (p_s : Int) (p_u : Int) : Option ((Option (Tup Int)) × (List (Tup Int))) := (m_Table_goes p_table p_s p_x).bind fun r2 => (m_Table_goes p_table p_u p_x).bind fun r4 => if (decide (r2 = r4)) = true then some (none, p_names) else (atI p_names p_s).bind fun x6 => (atI p_names r2).bind fun x8 => (m_span x6 x8).bind fun r9 => (atI p_names p_u).bind fun x12 => (atI p_names r4).bind fun x14 => (m_span x12 x14).bind fun r15 => (m_first_common r9 r15).bind fun r17 => some (r17, p_names)
inductive R_race_at : List Slot → RSlot → List Slot → Prop
  | mk (p_table : C_Table) (p_names : List (Tup Int)) (p_x : Int) (p_s : Int) (p_u : Int) {A_names : Addr} {r : (Option (Tup Int)) × (List (Tup Int))} : m_race_at p_table p_names p_x p_s p_u = some r → R_race_at [.fz p_table, .own A_names p_names, .fz p_x, .fz p_s, .fz p_u] (.fz r.1) [.any, .own A_names r.2, .any, .any, .any]
def t_race_at (K : Fg) : TS := tSeq (tPar 5 6 (tCons (tMeth A_Table "goes" (Prom K R_Table_goes) [] E0 (tVar 0) (tCons (tVar 3) (tCons (tVar 2) (tNil)))) (tCons (tMeth A_Table "goes" (Prom K R_Table_goes) [] E0 (tVar 0) (tCons (tVar 4) (tCons (tVar 2) (tNil)))) (tNil)))) (tSeq (tIfS (tTest (tOp rEq (tVar 5) (tVar 6))) (tRet (tC .non)) tNext) (tRet (tCall (Prom K R_first_common) [] E0 (tCons (tCall (Prom K R_span) [] E0 (tCons (tOp (rIxL K) (tVar 1) (tVar 3)) (tCons (tOp (rIxL K) (tVar 1) (tVar 5)) (tNil)))) (tCons (tCall (Prom K R_span) [] E0 (tCons (tOp (rIxL K) (tVar 1) (tVar 4)) (tCons (tOp (rIxL K) (tVar 1) (tVar 6)) (tNil)))) (tNil))))))
theorem sc_race_at : FnScope ["table", "names", "x", "s", "u", "t", "v"] ["table", "names", "x", "s", "u"] (defScope s_race_at) := ⟨rfl, rfl, rfl, by decide +kernel, rfl, by decide +kernel, by decide +kernel⟩
theorem sem_race_at {K : Fg} (kf : KF K) {vs : List V} {H : Hp} {Q : VK} {E : XK} (h : Prom K R_race_at vs H Q E) {D : Ends} (hD : ∀ u H, Q u H → D.rt u H) (hN : ∀ σ H, Q .non H → D.nx σ H) : t_race_at K D (start ["table", "names", "x", "s", "u", "t", "v"] vs) H := by
  obtain ⟨F, A, rs, A', hR, fh, hS, nd, q⟩ := h
  cases hR with | @mk p_table p_names p_x p_s p_u A_names r hm => ?_
  have hl := slots_len hS
  obtain ⟨va0, va1, va2, va3, va4, rfl⟩ := len5 (vs := vs) (by simpa using hl.symm)
  have h : St K ⟨F, H, [A_names]⟩ F H [some va0, some va1, some va2, some va3, some va4, none, none] [.fz (p_table : C_Table), .own A_names p_names, .fz (p_x : Int), .fz (p_s : Int), .fz (p_u : Int), .any, .any] := St.start fh hS nd [none, none]
  generalize hB : (⟨F, H, [A_names]⟩ : Base) = B0 at h
  have q0 := q
  have q : ∀ u F' H', Fin K B0 (.fz r.1) [.any, .own A_names r.2, .any, .any, .any] u F' H' → D.rt u H' := by subst hB; exact fun u F' H' z => hD _ _ (q u F' H' z)
  have qN : ∀ σ F' H', Fin K B0 (.fz r.1) [.any, .own A_names r.2, .any, .any, .any] .non F' H' → D.nx σ H' := by subst hB; exact fun σ F' H' z => hN _ _ (q0 _ F' H' z)
  clear hB q0 hD hN
  rw [show start ["table", "names", "x", "s", "u", "t", "v"] [va0, va1, va2, va3, va4] = [some va0, some va1, some va2, some va3, some va4, none, none] from rfl]
  unfold t_race_at
  unfold m_race_at at hm
  refine Q_par ?_
  refine S_cons ?_
  refine S_methG ?_
  refine S_var 0 h rfl rfl fun v1 h => ?_
  refine S_meth (h.vIF (h.fz 0 rfl rfl)) (by decide +kernel) ?_
  refine S_cons ?_
  refine S_varI 1 h rfl rfl ?_
  refine S_cons ?_
  refine S_varI 1 h rfl rfl ?_
  refine S_nil ?_
  obtain ⟨r2, hr2, hm⟩ := ob hm
  refine S_callI (A := [.fz (p_table : C_Table), .fz (p_s : Int), .fz (p_x : Int)]) h.pop (slots_cons (ok_fz (h.fz 0 rfl rfl)) (slots_cons (ok_fz rfl) (slots_cons (ok_fz rfl) slots_nil))) (R_Table_goes.mk _ _ _ hr2) rfl fun F H h => ?_
  refine S_cons ?_
  refine S_methG ?_
  refine S_var 0 h rfl rfl fun v3 h => ?_
  refine S_meth (h.vIF (h.fz 0 rfl rfl)) (by decide +kernel) ?_
  refine S_cons ?_
  refine S_varI 1 h rfl rfl ?_
  refine S_cons ?_
  refine S_varI 1 h rfl rfl ?_
  refine S_nil ?_
  obtain ⟨r4, hr4, hm⟩ := ob hm
  refine S_callI (A := [.fz (p_table : C_Table), .fz (p_u : Int), .fz (p_x : Int)]) h.pop (slots_cons (ok_fz (h.fz 0 rfl rfl)) (slots_cons (ok_fz rfl) (slots_cons (ok_fz rfl) slots_nil))) (R_Table_goes.mk _ _ _ hr4) rfl fun F H h => ?_
  refine S_nil ?_
  refine S_parE ?_
  have h : St K B0 F H (List.set [some va0, some va1, some va2, some va3, some va4, none, none] 5 (some (V.int r2))) [.fz (p_table : C_Table), .own A_names p_names, .fz (p_x : Int), .fz (p_s : Int), .fz (p_u : Int), .fz (r2 : Int), .any] := St.setF (v := (V.int r2)) (x := (r2 : Int)) h 5 rfl
  have h : St K B0 F H (List.set (List.set [some va0, some va1, some va2, some va3, some va4, none, none] 5 (some (V.int r2))) 6 (some (V.int r4))) [.fz (p_table : C_Table), .own A_names p_names, .fz (p_x : Int), .fz (p_s : Int), .fz (p_u : Int), .fz (r2 : Int), .fz (r4 : Int)] := St.setF (v := (V.int r4)) (x := (r4 : Int)) h 6 rfl
  refine Q_if ?_
  refine T_test ?_
  refine S_op ?_
  refine S_varI 0 h rfl rfl ?_
  refine S_varI 0 h rfl rfl ?_
  refine S_eqI ?_
  refine T_bl ?_
  refine S_ite hm (fun hc hm => ?_) (fun hc hm => ?_)
  · skip
    refine S_ret ?_
    refine S_c ?_
    have h := h.push (v := V.non) (x := (none : Option (Tup Int))) rfl
    have hz := h
    cases hm
    exact q _ _ _ (hz.finF (AftM.skip (AftM.own hz.ok 2 rfl rfl (AftM.skip (AftM.skip (AftM.skip AftM.nil))))))
  refine Q_next ?_
  refine S_ret ?_
  refine S_tcall ?_
  refine S_cons ?_
  refine S_tcall ?_
  refine S_cons ?_
  refine S_op ?_
  refine S_varO 0 h rfl rfl ?_
  refine S_varI 0 h rfl rfl ?_
  obtain ⟨x6, hx6, hm⟩ := ob hm
  refine S_ixL h (h.vO 1 rfl) hx6 fun u5 h => ?_
  refine S_cons ?_
  refine S_op ?_
  refine S_varO 1 h rfl rfl ?_
  refine S_varI 1 h rfl rfl ?_
  obtain ⟨x8, hx8, hm⟩ := ob hm
  refine S_ixL h (h.vO 2 rfl) hx8 fun u7 h => ?_
  refine S_nil ?_
  obtain ⟨r9, hr9, hm⟩ := ob hm
  refine S_callF (A := [.fz (x6 : Tup Int), .fz (x8 : Tup Int)]) h.pop.pop (slots_cons (ok_fz (h.fz 1 rfl rfl)) (slots_cons (ok_fz (h.fz 0 rfl rfl)) slots_nil)) (R_span.mk _ _ hr9) rfl fun u10 F H h => ?_
  refine S_cons ?_
  refine S_tcall ?_
  refine S_cons ?_
  refine S_op ?_
  refine S_varO 1 h rfl rfl ?_
  refine S_varI 1 h rfl rfl ?_
  obtain ⟨x12, hx12, hm⟩ := ob hm
  refine S_ixL h (h.vO 2 rfl) hx12 fun u11 h => ?_
  refine S_cons ?_
  refine S_op ?_
  refine S_varO 2 h rfl rfl ?_
  refine S_varI 2 h rfl rfl ?_
  obtain ⟨x14, hx14, hm⟩ := ob hm
  refine S_ixL h (h.vO 3 rfl) hx14 fun u13 h => ?_
  refine S_nil ?_
  obtain ⟨r15, hr15, hm⟩ := ob hm
  refine S_callF (A := [.fz (x12 : Tup Int), .fz (x14 : Tup Int)]) h.pop.pop (slots_cons (ok_fz (h.fz 1 rfl rfl)) (slots_cons (ok_fz (h.fz 0 rfl rfl)) slots_nil)) (R_span.mk _ _ hr15) rfl fun u16 F H h => ?_
  refine S_nil ?_
  obtain ⟨r17, hr17, hm⟩ := ob hm
  refine S_callF (A := [.fz (r9 : List (Tup Int)), .fz (r15 : List (Tup Int))]) h.pop.pop (slots_cons (ok_fz (h.fz 1 rfl rfl)) (slots_cons (ok_fz (h.fz 0 rfl rfl)) slots_nil)) (R_first_common.mk _ _ hr17) rfl fun u18 F H h => ?_
  have hz := h
  cases hm
  exact q _ _ _ (hz.finF (AftM.skip (AftM.own hz.ok 2 rfl rfl (AftM.skip (AftM.skip (AftM.skip AftM.nil))))))
theorem fn_race_at {P : Program} {w : World} {K : Fg} {mg : Str → Option Value} {base : Heap} (bz : Blt mg) (kf : KF K) (cz : Cst mg) {f : Addr} {fd : FuncData} (F0 : Fun K "race_at" "race_at" s_race_at f fd) (C_Table_goes : CalM P w K mg base 1 A_Table "goes" ["self", "s", "x"] R_Table_goes) (C_first_common : Cal P w K mg base 1 "first_common" ["some", "others"] R_first_common) (C_span : Cal P w K mg base 1 "span" ["one", "other"] R_span) : FnOk P w K mg base CX0 2 f fd ["table", "names", "x", "s", "u"] (Prom K R_race_at) :=
  F0.ok sc_race_at (prom_len 5 fun A s A' h => by cases h; rfl) fun cdv A outer s H vs Q E hr h => ⟨t_race_at K, pss_cons (ps_par (i := 5) (j := 6) rfl sc_race_at.nd rfl rfl (by decide) rfl rfl (pa_cons (C_Table_goes.pe kf.cl_Table (hr.mono (by decide)) (pv 0) (pa_cons (pv 3) (pa_cons (pv 2) (pa_nil)))) (pa_cons (C_Table_goes.pe kf.cl_Table (hr.mono (by decide)) (pv 0) (pa_cons (pv 4) (pa_cons (pv 2) (pa_nil)))) (pa_nil))) (by rfl)) (pss_cons (ps_if (pt_cmpR (r := rEq) op_eq (pv 5) (pv 6) (nomark _)) (pss_one (ps_ret (pe_non))) pss_nil) (pss_one (ps_ret (C_first_common.pe (hr.mono (by decide)) (by rfl) (pa_cons (C_span.pe (hr.mono (by decide)) (by rfl) (pa_cons (pe_ix (r := rIxL K) ix_list (pv 1) (pv 3) (fun _ _ => rfl)) (pa_cons (pe_ix (r := rIxL K) ix_list (pv 1) (pv 5) (fun _ _ => rfl)) (pa_nil)))) (pa_cons (C_span.pe (hr.mono (by decide)) (by rfl) (pa_cons (pe_ix (r := rIxL K) ix_list (pv 1) (pv 4) (fun _ _ => rfl)) (pa_cons (pe_ix (r := rIxL K) ix_list (pv 1) (pv 6) (fun _ _ => rfl)) (pa_nil)))) (pa_nil))))))), sem_race_at kf h (fun _ _ z => z) fun _ _ z => z⟩
theorem ok_race_at {P : Program} {w : World} {K : Fg} {mg : Str → Option Value} {base : Heap} (bz : Blt mg) (kf : KF K) (cz : Cst mg) {f : Addr} {fd : FuncData} (F0 : Fun K "race_at" "race_at" s_race_at f fd) (g0 : mg "race_at" = some (.ref f)) (b0 : Binds K fd ["table", "names", "x", "s", "u"] []) (C_Table_goes : CalM P w K mg base 1 A_Table "goes" ["self", "s", "x"] R_Table_goes) (C_first_common : Cal P w K mg base 1 "first_common" ["some", "others"] R_first_common) (C_span : Cal P w K mg base 1 "span" ["one", "other"] R_span) : Cal P w K mg base 2 "race_at" ["table", "names", "x", "s", "u"] R_race_at :=
  Cal.mk' (fn_race_at bz kf cz F0 C_Table_goes C_first_common C_span) g0 F0.kp b0

def m_races_l2 (p_table : C_Table) (x11 : Int) (x15 : Int) (x19 : Int) (s21 : (List (Tup Int)) × (List (HT (Int × Int × Int × (Tup Int) × Unit)))) : Option ((List (Tup Int)) × (List (HT (Int × Int × Int × (Tup Int) × Unit)))) := (m_race_at p_table s21.1 x11 x15 x19).bind fun r23 => (( if (!(Option.isNone r23.1)) = true then (r23.1).bind fun y27 => (appO s21.2 (HT.mk (x11, x15, x19, y27, ()) : HT (Int × Int × Int × (Tup Int) × Unit))).bind fun x30 => some (x30) else some (s21.2) : Option (List (HT (Int × Int × Int × (Tup Int) × Unit))))).bind fun j26 => some (r23.2, j26)
def m_races_l1 (many4 : Int) (p_table : C_Table) (x11 : Int) (x15 : Int) (s17 : (List (Tup Int)) × (List (HT (Int × Int × Int × (Tup Int) × Unit)))) : Option ((List (Tup Int)) × (List (HT (Int × Int × Int × (Tup Int) × Unit)))) := (rangeO2 (x15 + (1 : Int)) many4).bind fun xs18 => (foldO (m_races_l2 p_table x11 x15) xs18 (s17.1, s17.2)).bind fun s31 => some (s31.1, s31.2)
def m_races_l0 (many4 : Int) (p_table : C_Table) (x11 : Int) (s13 : (List (Tup Int)) × (List (HT (Int × Int × Int × (Tup Int) × Unit)))) : Option ((List (Tup Int)) × (List (HT (Int × Int × Int × (Tup Int) × Unit)))) := (rangeO many4).bind fun xs14 => (foldO (m_races_l1 many4 p_table x11) xs14 (s13.1, s13.2)).bind fun s32 => some (s32.1, s32.2)
def m_races (p_table : C_Table) (p_names : List (Tup Int)) : Option ((List (HT (Int × Int × Int × (Tup Int) × Unit))) × (List (Tup Int))) := (m_Table_states p_table).bind fun r2 => (some (List.length r2 : Int)).bind fun many4 => (m_want_names many4 p_names).bind fun r5 => (m_Table_letters p_table).bind fun r9 => (rangeO r9).bind fun xs10 => (foldO (m_races_l0 many4 p_table) xs10 (r5.2, ([] : List (HT (Int × Int × Int × (Tup Int) × Unit))))).bind fun s33 => some (s33.2, s33.1)
inductive R_races : List Slot → RSlot → List Slot → Prop
  | mk (p_table : C_Table) (p_names : List (Tup Int)) {A_names : Addr} {r : (List (HT (Int × Int × Int × (Tup Int) × Unit))) × (List (Tup Int))} : m_races p_table p_names = some r → R_races [.fz p_table, .own A_names p_names] (.fr r.1) [.any, .own A_names r.2]
def t_races (K : Fg) : TS := tSeq (tAsg (tCB (rLenG K) (tCons (tMeth A_Table "states" (Prom K R_Table_states) [] E0 (tVar 0) (tNil)) (tNil))) (gName 2)) (tSeq (tDrop (tCall (Prom K R_want_names) [] E0 (tCons (tVar 2) (tCons (tVar 1) (tNil))))) (tSeq (tAsg (tLst (tNil)) (gName 3)) (tSeq (tFor (iRng1 (tCons (tMeth A_Table "letters" (Prom K R_Table_letters) [] E0 (tVar 0) (tNil)) (tNil))) (gName 4) (tFor (iRng1 (tCons (tVar 2) (tNil))) (gName 5) (tFor (iRng2 (tCons (tOp (rI0 fun i j => .int (i + j)) (tVar 5) (tC (.int 1))) (tCons (tVar 2) (tNil)))) (gName 6) (tSeq (tAsg (tCall (Prom K R_race_at) [] E0 (tCons (tVar 0) (tCons (tVar 1) (tCons (tVar 4) (tCons (tVar 5) (tCons (tVar 6) (tNil))))))) (gName 7)) (tIfS (tTest (tOp rNotNG (tVar 7) (tC .non))) (tDrop (tBM K "list" rAppend (tVar 3) (tCons (tTup (tCons (tVar 4) (tCons (tVar 5) (tCons (tVar 6) (tCons (tVar 7) (tNil)))))) (tNil)))) (tNext)))))) (tRet (tVar 3)))))
theorem sc_races : FnScope ["table", "names", "many", "found", "x", "s", "u", "name"] ["table", "names"] (defScope s_races) := ⟨rfl, rfl, rfl, by decide +kernel, rfl, by decide +kernel, by decide +kernel⟩
theorem sem_races {K : Fg} (kf : KF K) {vs : List V} {H : Hp} {Q : VK} {E : XK} (h : Prom K R_races vs H Q E) {D : Ends} (hD : ∀ u H, Q u H → D.rt u H) (hN : ∀ σ H, Q .non H → D.nx σ H) : t_races K D (start ["table", "names", "many", "found", "x", "s", "u", "name"] vs) H := by
  obtain ⟨F, A, rs, A', hR, fh, hS, nd, q⟩ := h
  cases hR with | @mk p_table p_names A_names r hm => ?_
  have hl := slots_len hS
  obtain ⟨va0, va1, rfl⟩ := len2 (vs := vs) (by simpa using hl.symm)
  have h : St K ⟨F, H, [A_names]⟩ F H [some va0, some va1, none, none, none, none, none, none] [.fz (p_table : C_Table), .own A_names p_names, .any, .any, .any, .any, .any, .any] := St.start fh hS nd [none, none, none, none, none, none]
  generalize hB : (⟨F, H, [A_names]⟩ : Base) = B0 at h
  have q0 := q
  have q : ∀ u F' H', Fin K B0 (.fr r.1) [.any, .own A_names r.2] u F' H' → D.rt u H' := by subst hB; exact fun u F' H' z => hD _ _ (q u F' H' z)
  have qN : ∀ σ F' H', Fin K B0 (.fr r.1) [.any, .own A_names r.2] .non F' H' → D.nx σ H' := by subst hB; exact fun σ F' H' z => hN _ _ (q0 _ F' H' z)
  clear hB q0 hD hN
  rw [show start ["table", "names", "many", "found", "x", "s", "u", "name"] [va0, va1] = [some va0, some va1, none, none, none, none, none, none] from rfl]
  unfold t_races
  unfold m_races at hm
  refine Q_asg ?_
  refine S_cb ?_
  refine S_cons ?_
  refine S_methG ?_
  refine S_var 0 h rfl rfl fun v1 h => ?_
  refine S_meth (h.vIF (h.fz 0 rfl rfl)) (by decide +kernel) ?_
  refine S_nil ?_
  obtain ⟨r2, hr2, hm⟩ := ob hm
  refine S_callO (A := [.fz (p_table : C_Table)]) h.pop (slots_cons (ok_fz (h.fz 0 rfl rfl)) slots_nil) (R_Table_states.mk _ hr2) rfl fun p3 F H hBp3 h => ?_
  refine S_frz h hBp3 _ fun F h => ?_
  refine S_nil ?_
  refine S_lenL (h.vF 0 rfl rfl) ?_
  have h := h.pop
  obtain ⟨many4, hmany4, hm⟩ := ob hm
  have hmany4 := Option.some.inj hmany4
  rw [hmany4]
  refine S_gName ?_
  have h : St K B0 F H (List.set [some va0, some va1, none, none, none, none, none, none] 2 (some (V.int many4))) [.fz (p_table : C_Table), .own A_names p_names, .fz (many4 : Int), .any, .any, .any, .any, .any] := St.setF (v := (V.int many4)) (x := (many4 : Int)) h 2 rfl
  refine Q_drop ?_
  refine S_tcall ?_
  refine S_cons ?_
  refine S_varI 0 h rfl rfl ?_
  refine S_cons ?_
  refine S_varO 0 h rfl rfl ?_
  refine S_nil ?_
  obtain ⟨r5, hr5, hm⟩ := ob hm
  refine S_call1 (A := [.fz (many4 : Int), .own A_names p_names]) 1 h (by rfl) (slots_cons (ok_fz rfl) (slots_cons (SlotOk.ofOwn h 1 rfl) slots_nil)) (R_want_names.mk _ _ hr5) rfl (fun F' H' L z => z) fun u6 F H h r => ?_
  have h : St K B0 F H (List.set [some va0, some va1, none, none, none, none, none, none] 2 (some (V.int many4))) [.fz (p_table : C_Table), .own A_names r5.2, .fz (many4 : Int), .any, .any, .any, .any, .any] := h
  obtain rfl : u6 = V.non := r
  refine Q_asg ?_
  refine S_tL ?_
  refine S_nil ?_
  refine S_lstO (xs := ([] : List (HT (Int × Int × Int × (Tup Int) × Unit)))) h (.nil) (Nat.le_of_ble_eq_true rfl) fun p7 F H hBp7 h => ?_
  refine S_gName ?_
  have h : St K B0 F H (List.set (List.set [some va0, some va1, none, none, none, none, none, none] 2 (some (V.int many4))) 3 (some (V.ref p7))) [.fz (p_table : C_Table), .own A_names r5.2, .fz (many4 : Int), .own p7 ([] : List (HT (Int × Int × Int × (Tup Int) × Unit))), .any, .any, .any, .any] := St.setOwn 3 h
  refine Q_for ?_
  refine S_iR1 ?_
  refine S_cons ?_
  refine S_methG ?_
  refine S_var 0 h rfl rfl fun v8 h => ?_
  refine S_meth (h.vIF (h.fz 0 rfl rfl)) (by decide +kernel) ?_
  refine S_nil ?_
  obtain ⟨r9, hr9, hm⟩ := ob hm
  refine S_callI (A := [.fz (p_table : C_Table)]) h.pop (slots_cons (ok_fz (h.fz 0 rfl rfl)) slots_nil) (R_Table_letters.mk _ hr9) rfl fun F H h => ?_
  refine S_nil ?_
  obtain ⟨xs10, hxs10, hm⟩ := ob hm
  refine S_rng1 (K := K) hxs10 fun J Y => ?_
  obtain ⟨s33, hs33, hm⟩ := ob hm
  refine S_fold (ts := []) (TM := []) (Mf := fun (s13 : (List (Tup Int)) × (List (HT (Int × Int × Int × (Tup Int) × Unit)))) => [.fz (p_table : C_Table), .own A_names s13.1, .fz (many4 : Int), .own p7 s13.2, .any, .any, .any, .any]) Y hs33 (h.weak ⟨.inr rfl, .inr rfl, .inr rfl, .inr rfl, .inl rfl, .inl rfl, .inl rfl, .inl rfl, trivial⟩) (fun s13 σ F H h => trivial) (fun i x11 s13 s' v12 σ F H D hx hb h hn => ?_) (fun σ F H h => ?_)
  · have hm := hb
    unfold m_races_l0 at hm
    have h : St K B0 F H (some v12 :: σ) [.fz (x11 : Int), .fz (p_table : C_Table), .own A_names s13.1, .fz (many4 : Int), .own p7 s13.2, .any, .any, .any, .any] := h
    refine S_gName ?_
    have h : St K B0 F H (List.set (σ) 4 (some v12)) [.fz (p_table : C_Table), .own A_names s13.1, .fz (many4 : Int), .own p7 s13.2, .fz (x11 : Int), .any, .any, .any] := St.setF (v := v12) (x := (x11 : Int)) h.pop 4 (h.fz 0 rfl rfl)
    refine S_for ?_
    refine S_iR1 ?_
    refine S_cons ?_
    refine S_varI 0 h rfl rfl ?_
    refine S_nil ?_
    obtain ⟨xs14, hxs14, hm⟩ := ob hm
    refine S_rng1 (K := K) hxs14 fun J Y => ?_
    obtain ⟨s32, hs32, hm⟩ := ob hm
    refine S_fold (ts := []) (TM := []) (Mf := fun (s17 : (List (Tup Int)) × (List (HT (Int × Int × Int × (Tup Int) × Unit)))) => [.fz (p_table : C_Table), .own A_names s17.1, .fz (many4 : Int), .own p7 s17.2, .fz (x11 : Int), .any, .any, .any]) Y hs32 (h.weak ⟨.inr rfl, .inr rfl, .inr rfl, .inr rfl, .inr rfl, .inl rfl, .inl rfl, .inl rfl, trivial⟩) (fun s17 σ F H h => trivial) (fun i x15 s17 s' v16 σ F H D hx hb h hn => ?_) (fun σ F H h => ?_)
    · have hm := hb
      unfold m_races_l1 at hm
      have h : St K B0 F H (some v16 :: σ) [.fz (x15 : Int), .fz (p_table : C_Table), .own A_names s17.1, .fz (many4 : Int), .own p7 s17.2, .fz (x11 : Int), .any, .any, .any] := h
      refine S_gName ?_
      have h : St K B0 F H (List.set (σ) 5 (some v16)) [.fz (p_table : C_Table), .own A_names s17.1, .fz (many4 : Int), .own p7 s17.2, .fz (x11 : Int), .fz (x15 : Int), .any, .any] := St.setF (v := v16) (x := (x15 : Int)) h.pop 5 (h.fz 0 rfl rfl)
      refine S_for ?_
      refine S_iR2 ?_
      refine S_cons ?_
      refine S_op ?_
      refine S_varI 0 h rfl rfl ?_
      refine S_c ?_
      refine S_I0 ?_
      refine S_cons ?_
      refine S_varI 0 h rfl rfl ?_
      refine S_nil ?_
      obtain ⟨xs18, hxs18, hm⟩ := ob hm
      refine S_rng2 (K := K) hxs18 fun J Y => ?_
      obtain ⟨s31, hs31, hm⟩ := ob hm
      refine S_fold (ts := []) (TM := []) (Mf := fun (s21 : (List (Tup Int)) × (List (HT (Int × Int × Int × (Tup Int) × Unit)))) => [.fz (p_table : C_Table), .own A_names s21.1, .fz (many4 : Int), .own p7 s21.2, .fz (x11 : Int), .fz (x15 : Int), .any, .any]) Y hs31 (h.weak ⟨.inr rfl, .inr rfl, .inr rfl, .inr rfl, .inr rfl, .inr rfl, .inl rfl, .inl rfl, trivial⟩) (fun s21 σ F H h => trivial) (fun i x19 s21 s' v20 σ F H D hx hb h hn => ?_) (fun σ F H h => ?_)
      · have hm := hb
        unfold m_races_l2 at hm
        have h : St K B0 F H (some v20 :: σ) [.fz (x19 : Int), .fz (p_table : C_Table), .own A_names s21.1, .fz (many4 : Int), .own p7 s21.2, .fz (x11 : Int), .fz (x15 : Int), .any, .any] := h
        refine S_gName ?_
        have h : St K B0 F H (List.set (σ) 6 (some v20)) [.fz (p_table : C_Table), .own A_names s21.1, .fz (many4 : Int), .own p7 s21.2, .fz (x11 : Int), .fz (x15 : Int), .fz (x19 : Int), .any] := St.setF (v := v20) (x := (x19 : Int)) h.pop 6 (h.fz 0 rfl rfl)
        refine Q_asg ?_
        refine S_tcall ?_
        refine S_cons ?_
        refine S_var 0 h rfl rfl fun v22 h => ?_
        refine S_cons ?_
        refine S_varO 1 h rfl rfl ?_
        refine S_cons ?_
        refine S_varI 1 h rfl rfl ?_
        refine S_cons ?_
        refine S_varI 1 h rfl rfl ?_
        refine S_cons ?_
        refine S_varI 1 h rfl rfl ?_
        refine S_nil ?_
        obtain ⟨r23, hr23, hm⟩ := ob hm
        refine S_call1 (A := [.fz (p_table : C_Table), .own A_names s21.1, .fz (x11 : Int), .fz (x15 : Int), .fz (x19 : Int)]) 1 h.pop (by rfl) (slots_cons (ok_fz (h.fz 0 rfl rfl)) (slots_cons (SlotOk.ofOwn h 2 rfl) (slots_cons (ok_fz rfl) (slots_cons (ok_fz rfl) (slots_cons (ok_fz rfl) slots_nil))))) (R_race_at.mk _ _ _ _ _ hr23) rfl (fun F' H' L z => z) fun u24 F H h r => ?_
        have h : St K B0 F H (List.set (σ) 6 (some v20)) [.fz (p_table : C_Table), .own A_names r23.2, .fz (many4 : Int), .own p7 s21.2, .fz (x11 : Int), .fz (x15 : Int), .fz (x19 : Int), .any] := h
        have h := h.push r
        refine S_gName ?_
        have h : St K B0 F H (List.set (List.set (σ) 6 (some v20)) 7 (some u24)) [.fz (p_table : C_Table), .own A_names r23.2, .fz (many4 : Int), .own p7 s21.2, .fz (x11 : Int), .fz (x15 : Int), .fz (x19 : Int), .fz (r23.1 : Option (Tup Int))] := St.setF (v := u24) (x := (r23.1 : Option (Tup Int))) h.pop 7 (h.fz 0 rfl rfl)
        obtain ⟨j26, hj26, hm⟩ := ob hm
        refine S_cutJ (Post := fun σ H => ∃ F, St K B0 F H (σ) [.fz (p_table : C_Table), .own A_names r23.2, .fz (many4 : Int), .own p7 j26, .fz (x11 : Int), .fz (x15 : Int), .fz (x19 : Int), .fz (r23.1 : Option (Tup Int))]) (fun D hk => ?_) (fun σ H ⟨F, h⟩ => ?_)
        · have hm := hj26
          refine S_if ?_
          refine T_test ?_
          refine S_op ?_
          refine S_var 0 h rfl rfl fun v25 h => ?_
          refine S_c ?_
          refine S_notN (h.fz 0 rfl rfl) ?_
          have h := h.pop
          refine T_bl ?_
          refine S_ite hm (fun hc hm => ?_) (fun hc hm => ?_)
          · skip
            obtain ⟨y27, hy27, hm⟩ := ob hm
            have h : St K B0 F H (List.set (List.set (σ) 6 (some v20)) 7 (some u24)) [.fz (p_table : C_Table), .own A_names r23.2, .fz (many4 : Int), .own p7 s21.2, .fz (x11 : Int), .fz (x15 : Int), .fz (x19 : Int), .fz (y27 : Tup Int)] := St.narrow h 7 (by rfl) hy27
            refine S_drop ?_
            refine S_bm ?_
            refine S_varO 0 h rfl rfl ?_
            refine S_tyL (α := (HT (Int × Int × Int × (Tup Int) × Unit))) (h.vO 3 rfl) ?_
            refine S_cons ?_
            refine S_tT ?_
            refine S_cons ?_
            refine S_varI 0 h rfl rfl ?_
            refine S_cons ?_
            refine S_varI 0 h rfl rfl ?_
            refine S_cons ?_
            refine S_varI 0 h rfl rfl ?_
            refine S_cons ?_
            refine S_var 0 h rfl rfl fun v28 h => ?_
            refine S_nil ?_
            refine S_htup (x := ((x11, x15, x19, y27, ()) : Int × Int × Int × (Tup Int) × Unit)) h.pop (fl_cons (x := (x11 : Int)) rfl (fl_cons (x := (x15 : Int)) rfl (fl_cons (x := (x19 : Int)) rfl (fl_cons (x := (y27 : Tup Int)) (h.fz 0 rfl rfl) fl_nil)))) (Nat.le_of_ble_eq_true rfl) fun p29 F H h => ?_
            refine S_nil ?_
            obtain ⟨x30, hx30, hm⟩ := ob hm
            refine S_append 3 h.pop (by rfl) (h.fz 0 rfl rfl) hx30 fun H h => ?_
            have h : St K B0 F H (List.set (List.set (σ) 6 (some v20)) 7 (some u24)) [.fz (p_table : C_Table), .own A_names r23.2, .fz (many4 : Int), .own p7 x30, .fz (x11 : Int), .fz (x15 : Int), .fz (x19 : Int), .fz (y27 : Tup Int)] := h
            have h : St K B0 F H (List.set (List.set (σ) 6 (some v20)) 7 (some u24)) [.fz (p_table : C_Table), .own A_names r23.2, .fz (many4 : Int), .own p7 x30, .fz (x11 : Int), .fz (x15 : Int), .fz (x19 : Int), .fz (r23.1 : Option (Tup Int))] := St.widen h 7 (by rfl) hy27
            have hz := h
            cases hm
            exact hk _ _ ⟨_, hz.weak ⟨.inr rfl, .inr rfl, .inr rfl, .inr rfl, .inr rfl, .inr rfl, .inr rfl, .inr rfl, trivial⟩⟩
          · skip
            have hz := h
            cases hm
            exact hk _ _ ⟨_, hz.weak ⟨.inr rfl, .inr rfl, .inr rfl, .inr rfl, .inr rfl, .inr rfl, .inr rfl, .inr rfl, trivial⟩⟩
        have hz := h
        cases hm
        exact hn _ _ _ (hz.weak ⟨.inr rfl, .inr rfl, .inr rfl, .inr rfl, .inr rfl, .inr rfl, .inl rfl, .inl rfl, trivial⟩)
      have h : St K B0 F H (σ) [.fz (p_table : C_Table), .own A_names s31.1, .fz (many4 : Int), .own p7 s31.2, .fz (x11 : Int), .fz (x15 : Int), .any, .any] := h
      have hz := h
      cases hm
      exact hn _ _ _ (hz.weak ⟨.inr rfl, .inr rfl, .inr rfl, .inr rfl, .inr rfl, .inl rfl, .inl rfl, .inl rfl, trivial⟩)
    have h : St K B0 F H (σ) [.fz (p_table : C_Table), .own A_names s32.1, .fz (many4 : Int), .own p7 s32.2, .fz (x11 : Int), .any, .any, .any] := h
    have hz := h
    cases hm
    exact hn _ _ _ (hz.weak ⟨.inr rfl, .inr rfl, .inr rfl, .inr rfl, .inl rfl, .inl rfl, .inl rfl, .inl rfl, trivial⟩)
  have h : St K B0 F H (σ) [.fz (p_table : C_Table), .own A_names s33.1, .fz (many4 : Int), .own p7 s33.2, .any, .any, .any, .any] := h
  refine Q_nx ?_
  refine S_ret ?_
  refine S_varO 0 h rfl rfl ?_
  have hz := h
  cases hm
  exact q _ _ _ (hz.finOwn 3 (by rfl) hBp7 (AftM.skip (AftM.own (hz.ok.take 3) 1 rfl rfl AftM.nil)))
theorem fn_races {P : Program} {w : World} {K : Fg} {mg : Str → Option Value} {base : Heap} (bz : Blt mg) (kf : KF K) (cz : Cst mg) {f : Addr} {fd : FuncData} (F0 : Fun K "races" "races" s_races f fd) (C_Table_letters : CalM P w K mg base 1 A_Table "letters" ["self"] R_Table_letters) (C_Table_states : CalM P w K mg base 1 A_Table "states" ["self"] R_Table_states) (C_race_at : Cal P w K mg base 2 "race_at" ["table", "names", "x", "s", "u"] R_race_at) (C_want_names : Cal P w K mg base 2 "want_names" ["many", "names"] R_want_names) : FnOk P w K mg base CX0 3 f fd ["table", "names"] (Prom K R_races) :=
  F0.ok sc_races (prom_len 2 fun A s A' h => by cases h; rfl) fun cdv A outer s H vs Q E hr h => ⟨t_races K, pss_cons (ps_set (i := 2) sc_races.nd rfl (.inl rfl) (pe_callB (r := rLenG K) cr_lenG (by rfl) bz.len (by decide +kernel) (pa_cons (C_Table_states.pe0 kf.cl_Table (hr.mono (by decide)) (pv 0)) (pa_nil)))) (pss_cons (ps_expr (C_want_names.pe (hr.mono (by decide)) (by rfl) (pa_cons (pv 2) (pa_cons (pv 1) (pa_nil))))) (pss_cons (ps_set (i := 3) sc_races.nd rfl (.inl rfl) (pe_lst (pa_nil))) (pss_cons (ps_for PassesOwn.never rfl (pi_range1 (by rfl) bz.range (pa_cons (C_Table_letters.pe0 kf.cl_Table (hr.mono (by decide)) (pv 0)) (pa_nil))) (pg_name (i := 4) sc_races.nd rfl (.inl rfl)) (pss_one (ps_for PassesOwn.never rfl (pi_range1 (by rfl) bz.range (pa_cons (pv 2) (pa_nil))) (pg_name (i := 5) sc_races.nd rfl (.inl rfl)) (pss_one (ps_for PassesOwn.never rfl (pi_range2 (by rfl) bz.range (pa_cons (pe_op op_add (pv 5) (pe_int)) (pa_cons (pv 2) (pa_nil)))) (pg_name (i := 6) sc_races.nd rfl (.inl rfl)) (pss_cons (ps_set (i := 7) sc_races.nd rfl (.inl rfl) (C_race_at.pe (hr.mono (by decide)) (by rfl) (pa_cons (pv 0) (pa_cons (pv 1) (pa_cons (pv 4) (pa_cons (pv 5) (pa_cons (pv 6) (pa_nil)))))))) (pss_one (ps_if (pt_cmpR (r := rNotNG) op_notNG (pv 7) (pe_non) (by with_unfolding_all rfl)) (pss_one (ps_expr (pe_bm PySem.F.plainAttrs_list PySem.F.slot_list_append PySem.F.type_list_append mt_append (pv 3) (pa_cons (pe_tup (pa_cons (pv 4) (pa_cons (pv 5) (pa_cons (pv 6) (pa_cons (pv 7) (pa_nil)))))) (pa_nil))))) (pss_nil))))))))) (pss_one (ps_ret (pv 3)))))), sem_races kf h (fun _ _ z => z) fun _ _ z => z⟩
theorem ok_races {P : Program} {w : World} {K : Fg} {mg : Str → Option Value} {base : Heap} (bz : Blt mg) (kf : KF K) (cz : Cst mg) {f : Addr} {fd : FuncData} (F0 : Fun K "races" "races" s_races f fd) (g0 : mg "races" = some (.ref f)) (b0 : Binds K fd ["table", "names"] []) (C_Table_letters : CalM P w K mg base 1 A_Table "letters" ["self"] R_Table_letters) (C_Table_states : CalM P w K mg base 1 A_Table "states" ["self"] R_Table_states) (C_race_at : Cal P w K mg base 2 "race_at" ["table", "names", "x", "s", "u"] R_race_at) (C_want_names : Cal P w K mg base 2 "want_names" ["many", "names"] R_want_names) : Cal P w K mg base 3 "races" ["table", "names"] R_races :=
  Cal.mk' (fn_races bz kf cz F0 C_Table_letters C_Table_states C_race_at C_want_names) g0 F0.kp b0

def m_is_word_c0  (x4 : Str) : Option Bool := (inS x4 (Str.ofString "abcdefghijklmnopqrstuvwxyz")).bind fun c10 => some c10
def m_is_word (p_text : Str) : Option Bool := ((lenS p_text).bind fun x1 => some ((decide ((1 : Int) ≤ x1)) && (decide (x1 ≤ (8 : Int))))).bind fun c13 => (if c13 = true then (signsO p_text).bind fun xs3 => (mapO m_is_word_c0 xs3).bind fun ys11 => some (List.all ys11 id) else some false).bind fun c14 => some c14
inductive R_is_word : List Slot → RSlot → List Slot → Prop
  | mk (p_text : Str)  {r : Bool} : m_is_word p_text = some r → R_is_word [.fz p_text] (.fz r) [.any]
def t_is_word (K : Fg) : TS := tRet (tAndV (tChain (rI0 fun i j => .bl (decide (i ≤ j))) (rI0 fun i j => .bl (decide (i ≤ j))) (tC (.int 1)) (tCB rLenS (tCons (tVar 0) (tNil))) (tC (.int 8))) (tCB (rAll K) (tCons (tLc (iStr (tVar 0)) (gName 1) (tYes) (tOp rInS (tVar 1) (tC (.str (Str.ofString "abcdefghijklmnopqrstuvwxyz")))) [1]) (tNil))))
theorem sc_is_word : FnScope ["text", "sign"] ["text"] (defScope s_is_word) := ⟨rfl, rfl, rfl, by decide +kernel, rfl, by decide +kernel, by decide +kernel⟩
theorem sem_is_word {K : Fg} (kf : KF K) {vs : List V} {H : Hp} {Q : VK} {E : XK} (h : Prom K R_is_word vs H Q E) {D : Ends} (hD : ∀ u H, Q u H → D.rt u H) (hN : ∀ σ H, Q .non H → D.nx σ H) : t_is_word K D (start ["text", "sign"] vs) H := by
  obtain ⟨F, A, rs, A', hR, fh, hS, nd, q⟩ := h
  cases hR with | @mk p_text  r hm => ?_
  have hl := slots_len hS
  obtain ⟨va0, rfl⟩ := len1 (vs := vs) (by simpa using hl.symm)
  have h : St K ⟨F, H, []⟩ F H [some va0, none] [.fz (p_text : Str), .any] := St.start fh hS nd [none]
  generalize hB : (⟨F, H, []⟩ : Base) = B0 at h
  have q0 := q
  have q : ∀ u F' H', Fin K B0 (.fz r) [.any] u F' H' → D.rt u H' := by subst hB; exact fun u F' H' z => hD _ _ (q u F' H' z)
  have qN : ∀ σ F' H', Fin K B0 (.fz r) [.any] .non F' H' → D.nx σ H' := by subst hB; exact fun σ F' H' z => hN _ _ (q0 _ F' H' z)
  clear hB q0 hD hN
  rw [show start ["text", "sign"] [va0] = [some va0, none] from rfl]
  unfold t_is_word
  unfold m_is_word at hm
  refine S_ret ?_
  obtain ⟨c13, hc13, hm⟩ := ob hm
  obtain ⟨c14, hc14, hm⟩ := ob hm
  refine S_andV (a := c13) (c := c14) h (fun Q' q' => ?_) (fun hc F H Q' h q' => ?_) (fun hc => ?_) fun F H h => ?_
  · have hm := hc13
    refine S_chain ?_
    refine S_c ?_
    refine S_cb ?_
    refine S_cons ?_
    refine S_varS 0 h rfl rfl ?_
    refine S_nil ?_
    obtain ⟨x1, hx1, hm⟩ := ob hm
    refine S_lenS hx1 ?_
    refine S_I0 ?_
    refine S_chP (c := (decide (x1 ≤ (8 : Int)))) (fun _ Q' q' => ?_) ?_
    · skip
      refine S_c ?_
      refine S_I0 ?_
      exact q'
    have hz := h
    cases hm
    exact q' _ _ hz
  · have hm := ifT hc hc14
    refine S_cb ?_
    refine S_cons ?_
    refine S_lc ?_
    refine S_iS ?_
    refine S_varS 0 h rfl rfl ?_
    obtain ⟨xs3, hxs3, hm⟩ := ob hm
    refine S_itS ?_
    obtain ⟨ys11, hys11, hm⟩ := ob hm
    refine S_mapO (ts := []) (TM := []) (M := [.fz (p_text : Str), .any]) (yields_signs (K := K) hxs3) hys11 h rfl ⟨rfl, trivial⟩ (signs_len hxs3) (fun w F H h => trivial) (fun x4 z v5 D6 a7 F H G N hf h hG => ?_) (fun D12 F H hBD12 h => ?_)
    · have hm := hf
      unfold m_is_word_c0 at hm
      have h : St K B0 F H (some v5 :: some (V.ref D6) :: wipe [some va0, none] [1]) [.fz (x4 : Str), .own D6 a7, .fz (p_text : Str), .any] := h
      refine S_gName ?_
      have h : St K B0 F H (some (V.ref D6) :: List.set (wipe [some va0, none] [1]) 1 (some v5)) [.own D6 a7, .fz (p_text : Str), .fz (x4 : Str)] := St.setF (v := v5) (x := (x4 : Str)) h.pop 2 (h.fz 0 rfl rfl)
      refine ⟨(wipe_set (by decide)).trans wipe_idem, ?_⟩
      refine if1 ?_
      refine S_op ?_
      refine S_varS 1 h rfl rfl ?_
      refine S_c ?_
      obtain ⟨c10, hc10, hm⟩ := ob hm
      refine S_inS hc10 ?_
      have hz := h
      cases hm
      exact hG _ _ _ (St.unset (ts := [some (V.ref D6)]) (TM := [.own D6 a7]) (M := [.fz (p_text : Str), .any]) (hz.weak ⟨.inr rfl, .inr rfl, .inl rfl, trivial⟩) rfl rfl) rfl
    have h : St K B0 F H (some (V.ref D12) :: [some va0, none]) [.own D12 ys11, .fz (p_text : Str), .any] := h
    refine S_frz h hBD12 _ fun F h => ?_
    refine S_nil ?_
    refine S_all (h.vF 0 rfl rfl) ?_
    have h := h.pop
    have hz := h
    cases hm
    exact q' _ _ hz
  · exact (Option.some.inj (ifF hc hc14)).symm
  have hz := h
  cases hm
  exact q _ _ _ (hz.finB aft0)
theorem fn_is_word {P : Program} {w : World} {K : Fg} {mg : Str → Option Value} {base : Heap} (bz : Blt mg) (kf : KF K) (cz : Cst mg) {f : Addr} {fd : FuncData} (F0 : Fun K "is_word" "is_word" s_is_word f fd)  : FnOk P w K mg base CX0 1 f fd ["text"] (Prom K R_is_word) :=
  F0.ok sc_is_word (prom_len 1 fun A s A' h => by cases h; rfl) fun cdv A outer s H vs Q E hr h => ⟨t_is_word K, pss_one (ps_ret (pe_and (pe_chain (r := (rI0 fun i j => .bl (decide (i ≤ j)))) (r' := (rI0 fun i j => .bl (decide (i ≤ j)))) op_le op_le (pe_int) (pe_callB (r := rLenS) cr_lenS (by rfl) bz.len (by decide +kernel) (pa_cons (pv 0) (pa_nil))) (pe_globE (by rfl) cz.MOST_LETTERS)) (pe_one (pe_callB (r := rAll K) (cr_all rfl) (by rfl) bz.all_ (by decide +kernel) (pa_cons (pe_lc (own := [("sign", 1)]) (g := gName 1) (tt := tYes) (te := tOp rInS (tVar 1) (tC (.str (Str.ofString "abcdefghijklmnopqrstuvwxyz")))) (wi := iStr (tVar 0)) rfl sc_is_word.nd (pi_str (pv 0)) (blkOk_by (N := ["text", "sign"]) (sc := defScope s_is_word) (by decide +kernel)) (fun _ _ _ _ _ => pg_name (i := 1) sc_is_word.nd rfl (by first | exact .inl rfl | exact .inr rfl)) (fun _ _ _ _ _ => pts_nil) (fun _ _ _ _ _ => pe_cmpR (r := rInS) op_inS (pv 1) (pe_globE (by rfl) cz.LETTERS) (by with_unfolding_all rfl))) (pa_nil)))))), sem_is_word kf h (fun _ _ z => z) fun _ _ z => z⟩
theorem ok_is_word {P : Program} {w : World} {K : Fg} {mg : Str → Option Value} {base : Heap} (bz : Blt mg) (kf : KF K) (cz : Cst mg) {f : Addr} {fd : FuncData} (F0 : Fun K "is_word" "is_word" s_is_word f fd) (g0 : mg "is_word" = some (.ref f)) (b0 : Binds K fd ["text"] [])  : Cal P w K mg base 1 "is_word" ["text"] R_is_word :=
  Cal.mk' (fn_is_word bz kf cz F0) g0 F0.kp b0

def m_word_fault_l0 (p_words : List Str) (x3 : Int × Str) (s5 : Unit) : Option (Out Unit (Option (Str × Int))) := ((m_is_word x3.2).bind fun r8 => some (!r8)).bind fun c12 => (if c12 = true then some true else (inO x3.2 (cutL p_words none (some x3.1))).bind fun c11 => some c11).bind fun c13 => if c13 = true then some (.rt (some ((Str.ofString "words"), x3.1))) else some (.nx ())
def m_word_fault (p_words : List Str) : Option (Option (Str × Int)) :=  (forO (m_word_fault_l0 p_words) (enumFrom 0 p_words) ()).bind fun s15 => match s15 with | .nx s1 => some none | .rt r1 => some r1 | .bk _ => none
inductive R_word_fault : List Slot → RSlot → List Slot → Prop
  | mk (p_words : List Str)  {r : Option (Str × Int)} : m_word_fault p_words = some r → R_word_fault [.fz p_words] (.fz r) [.any]
def t_word_fault (K : Fg) : TS := tSeq (tFor (iEnum K (tCons (tVar 0) (tNil))) (gTup K 2 (gCons (gName 1) (gCons (gName 2) (gNil)))) (tIfS (tOr (tNot (tB (tCall (Prom K R_is_word) [] E0 (tCons (tVar 2) (tNil))))) (tTest (tOp (rInD K) (tVar 2) (L2.tSl (rSlL K) (tVar 0) (tNoPart) (tPart (tVar 1)))))) (tRet (tTup (tCons (tC (.str (Str.ofString "words"))) (tCons (tVar 1) (tNil))))) tNext)) (tRet (tC .non))
theorem sc_word_fault : FnScope ["words", "k", "word"] ["words"] (defScope s_word_fault) := ⟨rfl, rfl, rfl, by decide +kernel, rfl, by decide +kernel, by decide +kernel⟩
theorem sem_word_fault {K : Fg} (kf : KF K) {vs : List V} {H : Hp} {Q : VK} {E : XK} (h : Prom K R_word_fault vs H Q E) {D : Ends} (hD : ∀ u H, Q u H → D.rt u H) (hN : ∀ σ H, Q .non H → D.nx σ H) : t_word_fault K D (start ["words", "k", "word"] vs) H := by
  obtain ⟨F, A, rs, A', hR, fh, hS, nd, q⟩ := h
  cases hR with | @mk p_words  r hm => ?_
  have hl := slots_len hS
  obtain ⟨va0, rfl⟩ := len1 (vs := vs) (by simpa using hl.symm)
  have h : St K ⟨F, H, []⟩ F H [some va0, none, none] [.fz (p_words : List Str), .any, .any] := St.start fh hS nd [none, none]
  generalize hB : (⟨F, H, []⟩ : Base) = B0 at h
  have q0 := q
  have q : ∀ u F' H', Fin K B0 (.fz r) [.any] u F' H' → D.rt u H' := by subst hB; exact fun u F' H' z => hD _ _ (q u F' H' z)
  have qN : ∀ σ F' H', Fin K B0 (.fz r) [.any] .non F' H' → D.nx σ H' := by subst hB; exact fun σ F' H' z => hN _ _ (q0 _ F' H' z)
  clear hB q0 hD hN
  rw [show start ["words", "k", "word"] [va0] = [some va0, none, none] from rfl]
  unfold t_word_fault
  unfold m_word_fault at hm
  have hrt : ∀ (r' : Option (Str × Int)) u H', (some r' : Option _) = some r → (fun r u H' => ∃ F', Fin K B0 (.fz r) [.any] u F' H') r' u H' → D.rt u H' := fun r' u H' e z => by cases e; exact q _ _ _ z.choose_spec
  refine Q_for ?_
  refine S_iE ?_
  refine S_cons ?_
  refine S_var 0 h rfl rfl fun v1 h => ?_
  refine S_nil ?_
  refine S_enum (h.vF 0 rfl rfl) fun a2 e1 => ?_
  subst e1
  obtain ⟨s15, hs15, hm⟩ := ob hm
  refine S_forO (ts := [some (V.ref a2)]) (TM := [.fz (p_words : List Str)]) (Mf := fun (s5 : Unit) => [.fz (p_words : List Str), .any, .any]) (R := (fun r u H' => ∃ F', Fin K B0 (.fz r) [.any] u F' H' : Option (Str × Int) → V → Hp → Prop)) (yields_enum a2 p_words) hs15 (h.weak ⟨.inr rfl, .inr rfl, .inl rfl, .inl rfl, trivial⟩) (fun s5 σ F H h => (h.vF 0 rfl rfl)) (fun i x3 s5 o' v4 σ F H D hx hb h hn hct hbk hrt => ?_) (fun s1 σ F H ho h => ?_) (fun r1 u H' ho hr => ?_)
  · have hm := hb
    unfold m_word_fault_l0 at hm
    have h : St K B0 F H (some v4 :: some (V.ref a2) :: σ) [.fz (x3 : Int × Str), .fz (p_words : List Str), .fz (p_words : List Str), .any, .any] := h
    refine S_gPair h (h.fz 0 rfl rfl) fun v6 v7 h => ?_
    refine S_gCons ?_
    refine S_gName ?_
    have h : St K B0 F H (some v7 :: some v6 :: some v4 :: some (V.ref a2) :: List.set (σ) 1 (some v6)) [.fz (x3.2 : Str), .fz (x3.1 : Int), .fz (x3 : Int × Str), .fz (p_words : List Str), .fz (p_words : List Str), .fz (x3.1 : Int), .any] := St.setF (v := v6) (x := (x3.1 : Int)) h 5 (h.fz 1 rfl rfl)
    refine S_gCons ?_
    refine S_gName ?_
    have h : St K B0 F H (some v7 :: some v6 :: some v4 :: some (V.ref a2) :: List.set (List.set (σ) 1 (some v6)) 2 (some v7)) [.fz (x3.2 : Str), .fz (x3.1 : Int), .fz (x3 : Int × Str), .fz (p_words : List Str), .fz (p_words : List Str), .fz (x3.1 : Int), .fz (x3.2 : Str)] := St.setF (v := v7) (x := (x3.2 : Str)) h 6 (h.fz 0 rfl rfl)
    refine S_gNil ?_
    have h := h.pop.pop.pop
    refine S_if ?_
    obtain ⟨c12, hc12, hm⟩ := ob hm
    obtain ⟨c13, hc13, hm⟩ := ob hm
    refine S_or (a := c12) (c := c13) h (fun Q' q' => ?_) (fun hc F H Q' h q' => ?_) (fun hc => ?_) fun F H h => ?_
    · have hm := hc12
      refine S_not ?_
      refine T_tB ?_
      refine S_tcall ?_
      refine S_cons ?_
      refine S_varS 1 h rfl rfl ?_
      refine S_nil ?_
      obtain ⟨r8, hr8, hm⟩ := ob hm
      refine S_callB (A := [.fz (x3.2 : Str)]) h (slots_cons (ok_fz rfl) slots_nil) (R_is_word.mk _ hr8) rfl fun F H h => ?_
      refine T_bl ?_
      have hz := h
      cases hm
      exact q' _ _ hz
    · have hm := ifF hc hc13
      refine T_test ?_
      refine S_op ?_
      refine S_varS 1 h rfl rfl ?_
      refine S_sl ?_
      refine S_var 1 h rfl rfl fun v9 h => ?_
      refine S_noPart ?_
      refine S_part ?_
      refine S_varI 2 h rfl rfl ?_
      refine S_partI ?_
      refine S_slL h.pop (h.vF 0 rfl rfl) fun p10 F H hBp10 h => ?_
      obtain ⟨c11, hc11, hm⟩ := ob hm
      refine S_inD (dF h rfl) (dL h (h.vO 0 rfl)) hc11 (by decide) ?_
      have h := h.pop
      refine T_bl ?_
      have hz := h
      cases hm
      exact q' _ _ hz
    · exact (Option.some.inj (ifT hc hc13)).symm
    refine S_ite hm (fun hc hm => ?_) (fun hc hm => ?_)
    · skip
      refine S_ret ?_
      refine S_tT ?_
      refine S_cons ?_
      refine S_c ?_
      refine S_cons ?_
      refine S_varI 1 h rfl rfl ?_
      refine S_nil ?_
      refine S_pair (x := ((Str.ofString "words") : Str)) (y := (x3.1 : Int)) h rfl rfl fun p14 F H h => ?_
      have h := h.push (v := (V.ref p14)) (x := ((some ((Str.ofString "words"), x3.1)) : Option (Str × Int))) (rp_some (x := (((Str.ofString "words"), x3.1) : Str × Int)) (h.fz 0 rfl rfl))
      have h := h.nip
      have hz := h
      cases hm
      exact hrt _ _ _ rfl ⟨_, (hz.finF aft0)⟩
    refine S_next ?_
    have hz := h
    cases hm
    exact hn _ _ _ _ rfl (hz.weak ⟨.inr rfl, .inr rfl, .inl rfl, .inl rfl, trivial⟩)
  rotate_left
  · subst ho
    cases hm
    exact hrt _ _ _ rfl hr
  subst ho
  have h : St K B0 F H (some (V.ref a2) :: σ) [.fz (p_words : List Str), .fz (p_words : List Str), .any, .any] := h
  have h := h.pop
  refine Q_nx ?_
  refine S_ret ?_
  refine S_c ?_
  have h := h.push (v := V.non) (x := (none : Option (Str × Int))) rfl
  have hz := h
  cases hm
  exact q _ _ _ (hz.finF aft0)
theorem fn_word_fault {P : Program} {w : World} {K : Fg} {mg : Str → Option Value} {base : Heap} (bz : Blt mg) (kf : KF K) (cz : Cst mg) {f : Addr} {fd : FuncData} (F0 : Fun K "word_fault" "word_fault" s_word_fault f fd) (C_is_word : Cal P w K mg base 1 "is_word" ["text"] R_is_word) : FnOk P w K mg base CX0 2 f fd ["words"] (Prom K R_word_fault) :=
  F0.ok sc_word_fault (prom_len 1 fun A s A' h => by cases h; rfl) fun cdv A outer s H vs Q E hr h => ⟨t_word_fault K, pss_cons (ps_for PassesOwn.never rfl (pi_enum (by rfl) bz.enumerate (pa_cons (pv 0) (pa_nil))) (pg_tup rfl (pgs_cons (pg_name (i := 1) sc_word_fault.nd rfl (.inl rfl)) (pgs_cons (pg_name (i := 2) sc_word_fault.nd rfl (.inl rfl)) (pgs_nil)))) (pss_one (ps_if (PW.pt (pw_or (pt_not (pt_val (C_is_word.pe (hr.mono (by decide)) (by rfl) (pa_cons (pv 2) (pa_nil))))) (pw_or1 (pt_cmpR (r := (rInD K)) (op_inD (hu65 hr)) (pv 2) (pe_slice (r := (rSlL K)) sl_list (pv 0) (po_none) (po_some (pv 1))) (by with_unfolding_all rfl))))) (pss_one (ps_ret (pe_tup (pa_cons (pe_str) (pa_cons (pv 1) (pa_nil)))))) pss_nil))) (pss_one (ps_ret (pe_non))), sem_word_fault kf h (fun _ _ z => z) fun _ _ z => z⟩
theorem ok_word_fault {P : Program} {w : World} {K : Fg} {mg : Str → Option Value} {base : Heap} (bz : Blt mg) (kf : KF K) (cz : Cst mg) {f : Addr} {fd : FuncData} (F0 : Fun K "word_fault" "word_fault" s_word_fault f fd) (g0 : mg "word_fault" = some (.ref f)) (b0 : Binds K fd ["words"] []) (C_is_word : Cal P w K mg base 1 "is_word" ["text"] R_is_word) : Cal P w K mg base 2 "word_fault" ["words"] R_word_fault :=
  Cal.mk' (fn_word_fault bz kf cz F0 C_is_word) g0 F0.kp b0

def m_first_crowd (p_keys : List Str) (p_states : List Str) (p_lamps : List Str) : Option (Option Int) := ((inO false ([(decide ((List.length p_keys : Int) ≤ (2 : Int))), ((decide ((2 : Int) ≤ (List.length p_states : Int))) && (decide ((List.length p_states : Int) ≤ (4 : Int)))), (decide ((List.length p_lamps : Int) ≤ (2 : Int)))] : List Bool)).bind fun c6 => some c6).bind fun c9 => ((if c9 = true then (idxO ([(decide ((List.length p_keys : Int) ≤ (2 : Int))), ((decide ((2 : Int) ≤ (List.length p_states : Int))) && (decide ((List.length p_states : Int) ≤ (4 : Int)))), (decide ((List.length p_lamps : Int) ≤ (2 : Int)))] : List Bool) false).bind fun x8 => some (some x8) else some none : Option (Option Int))).bind fun y10 => some y10
inductive R_first_crowd : List Slot → RSlot → List Slot → Prop
  | mk (p_keys : List Str) (p_states : List Str) (p_lamps : List Str)  {r : Option Int} : m_first_crowd p_keys p_states p_lamps = some r → R_first_crowd [.fz p_keys, .fz p_states, .fz p_lamps] (.fz r) [.any, .any, .any]
def t_first_crowd (K : Fg) : TS := tSeq (tAsg (tLst (tCons (tOp (rI0 fun i j => .bl (decide (i ≤ j))) (tCB (rLenG K) (tCons (tVar 0) (tNil))) (tC (.int 2))) (tCons (tChain (rI0 fun i j => .bl (decide (i ≤ j))) (rI0 fun i j => .bl (decide (i ≤ j))) (tC (.int 2)) (tCB (rLenG K) (tCons (tVar 1) (tNil))) (tC (.int 4))) (tCons (tOp (rI0 fun i j => .bl (decide (i ≤ j))) (tCB (rLenG K) (tCons (tVar 2) (tNil))) (tC (.int 2))) (tNil))))) (gName 3)) (tRet (tIf (tTest (tOp (rInD K) (tC (.bl false)) (tVar 3))) (tBM K "list" (rIndexD K) (tVar 3) (tCons (tC (.bl false)) (tNil))) (tC .non)))
theorem sc_first_crowd : FnScope ["keys", "states", "lamps", "fits"] ["keys", "states", "lamps"] (defScope s_first_crowd) := ⟨rfl, rfl, rfl, by decide +kernel, rfl, by decide +kernel, by decide +kernel⟩
theorem sem_first_crowd {K : Fg} (kf : KF K) {vs : List V} {H : Hp} {Q : VK} {E : XK} (h : Prom K R_first_crowd vs H Q E) {D : Ends} (hD : ∀ u H, Q u H → D.rt u H) (hN : ∀ σ H, Q .non H → D.nx σ H) : t_first_crowd K D (start ["keys", "states", "lamps", "fits"] vs) H := by
  obtain ⟨F, A, rs, A', hR, fh, hS, nd, q⟩ := h
  cases hR with | @mk p_keys p_states p_lamps  r hm => ?_
  have hl := slots_len hS
  obtain ⟨va0, va1, va2, rfl⟩ := len3 (vs := vs) (by simpa using hl.symm)
  have h : St K ⟨F, H, []⟩ F H [some va0, some va1, some va2, none] [.fz (p_keys : List Str), .fz (p_states : List Str), .fz (p_lamps : List Str), .any] := St.start fh hS nd [none]
  generalize hB : (⟨F, H, []⟩ : Base) = B0 at h
  have q0 := q
  have q : ∀ u F' H', Fin K B0 (.fz r) [.any, .any, .any] u F' H' → D.rt u H' := by subst hB; exact fun u F' H' z => hD _ _ (q u F' H' z)
  have qN : ∀ σ F' H', Fin K B0 (.fz r) [.any, .any, .any] .non F' H' → D.nx σ H' := by subst hB; exact fun σ F' H' z => hN _ _ (q0 _ F' H' z)
  clear hB q0 hD hN
  rw [show start ["keys", "states", "lamps", "fits"] [va0, va1, va2] = [some va0, some va1, some va2, none] from rfl]
  unfold t_first_crowd
  unfold m_first_crowd at hm
  refine Q_asg ?_
  refine S_tL ?_
  refine S_cons ?_
  refine S_op ?_
  refine S_cb ?_
  refine S_cons ?_
  refine S_var 0 h rfl rfl fun v1 h => ?_
  refine S_nil ?_
  refine S_lenL (h.vF 0 rfl rfl) ?_
  have h := h.pop
  refine S_c ?_
  refine S_I0 ?_
  refine S_cons ?_
  refine S_chain ?_
  refine S_c ?_
  refine S_cb ?_
  refine S_cons ?_
  refine S_var 0 h rfl rfl fun v2 h => ?_
  refine S_nil ?_
  refine S_lenL (h.vF 0 rfl rfl) ?_
  have h := h.pop
  refine S_I0 ?_
  refine S_chP (c := (decide ((List.length p_states : Int) ≤ (4 : Int)))) (fun _ Q' q' => ?_) ?_
  · skip
    refine S_c ?_
    refine S_I0 ?_
    exact q'
  refine S_cons ?_
  refine S_op ?_
  refine S_cb ?_
  refine S_cons ?_
  refine S_var 0 h rfl rfl fun v3 h => ?_
  refine S_nil ?_
  refine S_lenL (h.vF 0 rfl rfl) ?_
  have h := h.pop
  refine S_c ?_
  refine S_I0 ?_
  refine S_nil ?_
  refine S_lstO (xs := ([(decide ((List.length p_keys : Int) ≤ (2 : Int))), ((decide ((2 : Int) ≤ (List.length p_states : Int))) && (decide ((List.length p_states : Int) ≤ (4 : Int)))), (decide ((List.length p_lamps : Int) ≤ (2 : Int)))] : List Bool)) h (.cons rfl (.cons rfl (.cons rfl .nil))) (Nat.le_of_ble_eq_true rfl) fun p4 F H hBp4 h => ?_
  refine S_gName ?_
  refine S_frz h hBp4 _ fun F h => ?_
  have h : St K B0 F H (List.set [some va0, some va1, some va2, none] 3 (some (V.ref p4))) [.fz (p_keys : List Str), .fz (p_states : List Str), .fz (p_lamps : List Str), .fz (([(decide ((List.length p_keys : Int) ≤ (2 : Int))), ((decide ((2 : Int) ≤ (List.length p_states : Int))) && (decide ((List.length p_states : Int) ≤ (4 : Int)))), (decide ((List.length p_lamps : Int) ≤ (2 : Int)))] : List Bool) : List Bool)] := St.setF (v := (V.ref p4)) (x := (([(decide ((List.length p_keys : Int) ≤ (2 : Int))), ((decide ((2 : Int) ≤ (List.length p_states : Int))) && (decide ((List.length p_states : Int) ≤ (4 : Int)))), (decide ((List.length p_lamps : Int) ≤ (2 : Int)))] : List Bool) : List Bool)) h.pop 3 (h.fz 0 rfl rfl)
  refine S_ret ?_
  obtain ⟨c9, hc9, hm⟩ := ob hm
  obtain ⟨y10, hy10, hm⟩ := ob hm
  refine S_ifX (c := c9) (T := fun v11 H => ∃ F, St K B0 F H (some v11 :: List.set [some va0, some va1, some va2, none] 3 (some (V.ref p4))) [.fz (y10 : Option Int), .fz (p_keys : List Str), .fz (p_states : List Str), .fz (p_lamps : List Str), .fz (([(decide ((List.length p_keys : Int) ≤ (2 : Int))), ((decide ((2 : Int) ≤ (List.length p_states : Int))) && (decide ((List.length p_states : Int) ≤ (4 : Int)))), (decide ((List.length p_lamps : Int) ≤ (2 : Int)))] : List Bool) : List Bool)]) h (fun Q' q' => ?_) (fun hc F H Q' h q' => ?_) (fun hc F H Q' h q' => ?_) (fun v11 H ⟨F, h⟩ => ?_)
  · have hm := hc9
    refine T_test ?_
    refine S_op ?_
    refine S_c ?_
    refine S_var 0 h rfl rfl fun v5 h => ?_
    obtain ⟨c6, hc6, hm⟩ := ob hm
    refine S_inD (dF h rfl) (dF h (h.fz 0 rfl rfl)) hc6 (by decide) ?_
    have h := h.pop
    refine T_bl ?_
    have hz := h
    cases hm
    exact q' _ _ hz
  · have hm := ifT hc hy10
    refine S_bm ?_
    refine S_var 0 h rfl rfl fun v7 h => ?_
    refine S_tyL (α := Bool) (h.vF 0 rfl rfl) ?_
    refine S_cons ?_
    refine S_c ?_
    refine S_nil ?_
    obtain ⟨x8, hx8, hm⟩ := ob hm
    refine S_indexD h (h.vF 0 rfl rfl) (dF h rfl) hx8 (by decide) ?_
    have h := h.pop
    have h := h.push (v := (V.int x8)) (x := ((some x8) : Option Int)) (rp_some (x := (x8 : Int)) rfl)
    have hz := h
    cases hm
    exact q' _ _ ⟨_, hz⟩
  · have hm := ifF hc hy10
    refine S_c ?_
    have h := h.push (v := V.non) (x := (none : Option Int)) rfl
    have hz := h
    cases hm
    exact q' _ _ ⟨_, hz⟩
  have hz := h
  cases hm
  exact q _ _ _ (hz.finF aft0)
theorem fn_first_crowd {P : Program} {w : World} {K : Fg} {mg : Str → Option Value} {base : Heap} (bz : Blt mg) (kf : KF K) (cz : Cst mg) {f : Addr} {fd : FuncData} (F0 : Fun K "first_crowd" "first_crowd" s_first_crowd f fd)  : FnOk P w K mg base CX0 1 f fd ["keys", "states", "lamps"] (Prom K R_first_crowd) :=
  F0.ok sc_first_crowd (prom_len 3 fun A s A' h => by cases h; rfl) fun cdv A outer s H vs Q E hr h => ⟨t_first_crowd K, pss_cons (ps_set (i := 3) sc_first_crowd.nd rfl (.inl rfl) (pe_lst (pa_cons (pe_cmpR (r := (rI0 fun i j => .bl (decide (i ≤ j)))) op_le (pe_callB (r := rLenG K) cr_lenG (by rfl) bz.len (by decide +kernel) (pa_cons (pv 0) (pa_nil))) (pe_globE (by rfl) cz.MOST_KEYS) (nomark _)) (pa_cons (pe_chain (r := (rI0 fun i j => .bl (decide (i ≤ j)))) (r' := (rI0 fun i j => .bl (decide (i ≤ j)))) op_le op_le (pe_globE (by rfl) cz.FEWEST_STATES) (pe_callB (r := rLenG K) cr_lenG (by rfl) bz.len (by decide +kernel) (pa_cons (pv 1) (pa_nil))) (pe_globE (by rfl) cz.MOST_STATES)) (pa_cons (pe_cmpR (r := (rI0 fun i j => .bl (decide (i ≤ j)))) op_le (pe_callB (r := rLenG K) cr_lenG (by rfl) bz.len (by decide +kernel) (pa_cons (pv 2) (pa_nil))) (pe_globE (by rfl) cz.MOST_LAMPS) (nomark _)) (pa_nil)))))) (pss_one (ps_ret (pe_ifExp (pt_cmpR (r := (rInD K)) (op_inD (hu65 hr)) (pe_bl) (pv 3) (by with_unfolding_all rfl)) (pe_bm PySem.F.plainAttrs_list PySem.F.slot_list_index PySem.F.type_list_index (mt_indexD (hu65 hr)) (pv 3) (pa_cons (pe_bl) (pa_nil))) (pe_non)))), sem_first_crowd kf h (fun _ _ z => z) fun _ _ z => z⟩
theorem ok_first_crowd {P : Program} {w : World} {K : Fg} {mg : Str → Option Value} {base : Heap} (bz : Blt mg) (kf : KF K) (cz : Cst mg) {f : Addr} {fd : FuncData} (F0 : Fun K "first_crowd" "first_crowd" s_first_crowd f fd) (g0 : mg "first_crowd" = some (.ref f)) (b0 : Binds K fd ["keys", "states", "lamps"] [])  : Cal P w K mg base 1 "first_crowd" ["keys", "states", "lamps"] R_first_crowd :=
  Cal.mk' (fn_first_crowd bz kf cz F0) g0 F0.kp b0

def m_first_misfit__r_c1 (p_bound : Int) (x13 : Int) : Option Bool :=  some ((decide ((0 : Int) ≤ x13)) && (decide (x13 < p_bound)))
def m_first_misfit__r_l0 (p_told : List (List Int)) (p_long : Int) (p_bound : Int) (x2 : Int) (s4 : Unit) : Option (Out Unit (Option Int)) := (if (decide ((List.length p_told : Int) ≤ x2)) = true then some true else ((atI p_told x2).bind fun x8 => some (!(decide ((List.length x8 : Int) = p_long)))).bind fun c21 => (if c21 = true then some true else (atI p_told x2).bind fun x11 => (mapO (m_first_misfit__r_c1 p_bound) x11).bind fun ys19 => some (!(List.all ys19 id))).bind fun c22 => some c22).bind fun c23 => if c23 = true then some (.rt (some x2)) else some (.nx ())
def m_first_misfit__r (p_many : Int) (p_told : List (List Int)) (p_long : Int) (p_bound : Int) : Option (Option Int) := (rangeO p_many).bind fun xs1 => (forO (m_first_misfit__r_l0 p_told p_long p_bound) xs1 ()).bind fun s24 => match s24 with | .nx s1 => ((if (decide (p_many < (List.length p_told : Int))) = true then some (some p_many) else some none : Option (Option Int))).bind fun y26 => some y26 | .rt r1 => some r1 | .bk _ => none
inductive R_first_misfit__r : List Slot → RSlot → List Slot → Prop
  | mk (p_many : Int) (p_told : List (List Int)) (p_long : Int) (p_bound : Int)  {r : Option Int} : m_first_misfit__r p_many p_told p_long p_bound = some r → R_first_misfit__r [.fz p_many, .fz p_told, .fz p_long, .fz p_bound] (.fz r) [.any, .any, .any, .any]
def t_first_misfit__r (K : Fg) : TS := tSeq (tFor (iRng1 (tCons (tVar 0) (tNil))) (gName 4) (tIfS (tOr (tTest (tOp (rI0 fun i j => .bl (decide (j ≤ i))) (tVar 4) (tCB (rLenG K) (tCons (tVar 1) (tNil))))) (tOr (tTest (tOp rNe (tCB (rLenG K) (tCons (tOp (rIxL K) (tVar 1) (tVar 4)) (tNil))) (tVar 2))) (tNot (tB (tCB (rAll K) (tCons (tLc (iList K (tOp (rIxL K) (tVar 1) (tVar 4))) (gName 5) (tYes) (tChain (rI0 fun i j => .bl (decide (i ≤ j))) (rI0 fun i j => .bl (decide (i < j))) (tC (.int 0)) (tVar 5) (tVar 3)) [5]) (tNil))))))) (tRet (tVar 4)) tNext)) (tRet (tIf (tTest (tOp (rI0 fun i j => .bl (decide (j < i))) (tCB (rLenG K) (tCons (tVar 1) (tNil))) (tVar 0))) (tVar 0) (tC .non)))
theorem sc_first_misfit__r : FnScope ["many", "told", "long", "bound", "s", "number"] ["many", "told", "long", "bound"] (defScope s_first_misfit__r) := ⟨rfl, rfl, rfl, by decide +kernel, rfl, by decide +kernel, by decide +kernel⟩
theorem sem_first_misfit__r {K : Fg} (kf : KF K) {vs : List V} {H : Hp} {Q : VK} {E : XK} (h : Prom K R_first_misfit__r vs H Q E) {D : Ends} (hD : ∀ u H, Q u H → D.rt u H) (hN : ∀ σ H, Q .non H → D.nx σ H) : t_first_misfit__r K D (start ["many", "told", "long", "bound", "s", "number"] vs) H := by
  obtain ⟨F, A, rs, A', hR, fh, hS, nd, q⟩ := h
  cases hR with | @mk p_many p_told p_long p_bound  r hm => ?_
  have hl := slots_len hS
  obtain ⟨va0, va1, va2, va3, rfl⟩ := len4 (vs := vs) (by simpa using hl.symm)
  have h : St K ⟨F, H, []⟩ F H [some va0, some va1, some va2, some va3, none, none] [.fz (p_many : Int), .fz (p_told : List (List Int)), .fz (p_long : Int), .fz (p_bound : Int), .any, .any] := St.start fh hS nd [none, none]
  generalize hB : (⟨F, H, []⟩ : Base) = B0 at h
  have q0 := q
  have q : ∀ u F' H', Fin K B0 (.fz r) [.any, .any, .any, .any] u F' H' → D.rt u H' := by subst hB; exact fun u F' H' z => hD _ _ (q u F' H' z)
  have qN : ∀ σ F' H', Fin K B0 (.fz r) [.any, .any, .any, .any] .non F' H' → D.nx σ H' := by subst hB; exact fun σ F' H' z => hN _ _ (q0 _ F' H' z)
  clear hB q0 hD hN
  rw [show start ["many", "told", "long", "bound", "s", "number"] [va0, va1, va2, va3] = [some va0, some va1, some va2, some va3, none, none] from rfl]
  unfold t_first_misfit__r
  unfold m_first_misfit__r at hm
  have hrt : ∀ (r' : Option Int) u H', (some r' : Option _) = some r → (fun r u H' => ∃ F', Fin K B0 (.fz r) [.any, .any, .any, .any] u F' H') r' u H' → D.rt u H' := fun r' u H' e z => by cases e; exact q _ _ _ z.choose_spec
  refine Q_for ?_
  refine S_iR1 ?_
  refine S_cons ?_
  refine S_varI 0 h rfl rfl ?_
  refine S_nil ?_
  obtain ⟨xs1, hxs1, hm⟩ := ob hm
  refine S_rng1 (K := K) hxs1 fun J Y => ?_
  obtain ⟨s24, hs24, hm⟩ := ob hm
  refine S_forO (ts := []) (TM := []) (Mf := fun (s4 : Unit) => [.fz (p_many : Int), .fz (p_told : List (List Int)), .fz (p_long : Int), .fz (p_bound : Int), .any, .any]) (R := (fun r u H' => ∃ F', Fin K B0 (.fz r) [.any, .any, .any, .any] u F' H' : Option Int → V → Hp → Prop)) Y hs24 (h.weak ⟨.inr rfl, .inr rfl, .inr rfl, .inr rfl, .inl rfl, .inl rfl, trivial⟩) (fun s4 σ F H h => trivial) (fun i x2 s4 o' v3 σ F H D hx hb h hn hct hbk hrt => ?_) (fun s1 σ F H ho h => ?_) (fun r1 u H' ho hr => ?_)
  · have hm := hb
    unfold m_first_misfit__r_l0 at hm
    have h : St K B0 F H (some v3 :: σ) [.fz (x2 : Int), .fz (p_many : Int), .fz (p_told : List (List Int)), .fz (p_long : Int), .fz (p_bound : Int), .any, .any] := h
    refine S_gName ?_
    have h : St K B0 F H (List.set (σ) 4 (some v3)) [.fz (p_many : Int), .fz (p_told : List (List Int)), .fz (p_long : Int), .fz (p_bound : Int), .fz (x2 : Int), .any] := St.setF (v := v3) (x := (x2 : Int)) h.pop 4 (h.fz 0 rfl rfl)
    refine S_if ?_
    obtain ⟨c23, hc23, hm⟩ := ob hm
    refine S_or (a := (decide ((List.length p_told : Int) ≤ x2))) (c := c23) h (fun Q' q' => ?_) (fun hc F H Q' h q' => ?_) (fun hc => ?_) fun F H h => ?_
    · skip
      refine T_test ?_
      refine S_op ?_
      refine S_varI 0 h rfl rfl ?_
      refine S_cb ?_
      refine S_cons ?_
      refine S_var 0 h rfl rfl fun v5 h => ?_
      refine S_nil ?_
      refine S_lenL (h.vF 0 rfl rfl) ?_
      have h := h.pop
      refine S_I0 ?_
      refine T_bl ?_
      have hz := h
      exact q' _ _ hz
    · have hm := ifF hc hc23
      obtain ⟨c21, hc21, hm⟩ := ob hm
      obtain ⟨c22, hc22, hm⟩ := ob hm
      refine S_or (a := c21) (c := c22) h (fun Q' q' => ?_) (fun hc F H Q' h q' => ?_) (fun hc => ?_) fun F H h => ?_
      · have hm := hc21
        refine T_test ?_
        refine S_op ?_
        refine S_cb ?_
        refine S_cons ?_
        refine S_op ?_
        refine S_var 0 h rfl rfl fun v6 h => ?_
        refine S_varI 1 h rfl rfl ?_
        obtain ⟨x8, hx8, hm⟩ := ob hm
        refine S_ixL h.pop (h.vF 0 rfl rfl) hx8 fun u7 h => ?_
        refine S_nil ?_
        refine S_lenL (h.vF 0 rfl rfl) ?_
        have h := h.pop
        refine S_varI 0 h rfl rfl ?_
        refine S_neI ?_
        refine T_bl ?_
        have hz := h
        cases hm
        exact q' _ _ hz
      · have hm := ifF hc hc22
        refine S_not ?_
        refine T_tB ?_
        refine S_cb ?_
        refine S_cons ?_
        refine S_lc ?_
        refine S_iL ?_
        refine S_op ?_
        refine S_var 0 h rfl rfl fun v9 h => ?_
        refine S_varI 1 h rfl rfl ?_
        obtain ⟨x11, hx11, hm⟩ := ob hm
        refine S_ixL h.pop (h.vF 0 rfl rfl) hx11 fun u10 h => ?_
        refine S_itL (h.vF 0 rfl rfl) fun a12 e1 => ?_
        subst e1
        obtain ⟨ys19, hys19, hm⟩ := ob hm
        refine S_mapO (ts := [some (V.ref a12)]) (TM := [.fz (x11 : List Int)]) (M := [.fz (p_many : Int), .fz (p_told : List (List Int)), .fz (p_long : Int), .fz (p_bound : Int), .fz (x2 : Int), .any]) (yields_list a12 x11) hys19 h rfl ⟨rfl, trivial⟩ (view_len (h.vF 0 rfl rfl)) (fun w F H h => (h.vF 0 rfl rfl)) (fun x13 z v14 D15 a16 F H G N hf h hG => ?_) (fun D20 F H hBD20 h => ?_)
        · have hm := hf
          unfold m_first_misfit__r_c1 at hm
          have h : St K B0 F H (some v14 :: some (V.ref D15) :: some (V.ref a12) :: wipe (List.set (σ) 4 (some v3)) [5]) [.fz (x13 : Int), .own D15 a16, .fz (x11 : List Int), .fz (p_many : Int), .fz (p_told : List (List Int)), .fz (p_long : Int), .fz (p_bound : Int), .fz (x2 : Int), .any] := h
          refine S_gName ?_
          have h : St K B0 F H (some (V.ref D15) :: some (V.ref a12) :: List.set (wipe (List.set (σ) 4 (some v3)) [5]) 5 (some v14)) [.own D15 a16, .fz (x11 : List Int), .fz (p_many : Int), .fz (p_told : List (List Int)), .fz (p_long : Int), .fz (p_bound : Int), .fz (x2 : Int), .fz (x13 : Int)] := St.setF (v := v14) (x := (x13 : Int)) h.pop 7 (h.fz 0 rfl rfl)
          refine ⟨(wipe_set (by decide)).trans wipe_idem, ?_⟩
          refine if1 ?_
          refine S_chain ?_
          refine S_c ?_
          refine S_varI 2 h rfl rfl ?_
          refine S_I0 ?_
          refine S_chP (c := (decide (x13 < p_bound))) (fun _ Q' q' => ?_) ?_
          · skip
            refine S_varI 2 h rfl rfl ?_
            refine S_I0 ?_
            exact q'
          have hz := h
          cases hm
          exact hG _ _ _ (St.unset (ts := [some (V.ref D15), some (V.ref a12)]) (TM := [.own D15 a16, .fz (x11 : List Int)]) (M := [.fz (p_many : Int), .fz (p_told : List (List Int)), .fz (p_long : Int), .fz (p_bound : Int), .fz (x2 : Int), .any]) (hz.weak ⟨.inr rfl, .inr rfl, .inr rfl, .inr rfl, .inr rfl, .inr rfl, .inr rfl, .inl rfl, trivial⟩) rfl rfl) rfl
        have h : St K B0 F H (some (V.ref D20) :: some (V.ref a12) :: List.set (σ) 4 (some v3)) [.own D20 ys19, .fz (x11 : List Int), .fz (p_many : Int), .fz (p_told : List (List Int)), .fz (p_long : Int), .fz (p_bound : Int), .fz (x2 : Int), .any] := h
        have h := h.nip
        refine S_frz h hBD20 _ fun F h => ?_
        refine S_nil ?_
        refine S_all (h.vF 0 rfl rfl) ?_
        have h := h.pop
        refine T_bl ?_
        have hz := h
        cases hm
        exact q' _ _ hz
      · exact (Option.some.inj (ifT hc hc22)).symm
      have hz := h
      cases hm
      exact q' _ _ hz
    · exact (Option.some.inj (ifT hc hc23)).symm
    refine S_ite hm (fun hc hm => ?_) (fun hc hm => ?_)
    · skip
      refine S_ret ?_
      refine S_varI 0 h rfl rfl ?_
      have h := h.push (v := (V.int x2)) (x := ((some x2) : Option Int)) (rp_some (x := (x2 : Int)) rfl)
      have hz := h
      cases hm
      exact hrt _ _ _ rfl ⟨_, (hz.finF aft0)⟩
    refine S_next ?_
    have hz := h
    cases hm
    exact hn _ _ _ _ rfl (hz.weak ⟨.inr rfl, .inr rfl, .inr rfl, .inr rfl, .inl rfl, .inl rfl, trivial⟩)
  rotate_left
  · subst ho
    cases hm
    exact hrt _ _ _ rfl hr
  subst ho
  have h : St K B0 F H (σ) [.fz (p_many : Int), .fz (p_told : List (List Int)), .fz (p_long : Int), .fz (p_bound : Int), .any, .any] := h
  refine Q_nx ?_
  refine S_ret ?_
  obtain ⟨y26, hy26, hm⟩ := ob hm
  refine S_ifX (c := (decide (p_many < (List.length p_told : Int)))) (T := fun v27 H => ∃ F, St K B0 F H (some v27 :: σ) [.fz (y26 : Option Int), .fz (p_many : Int), .fz (p_told : List (List Int)), .fz (p_long : Int), .fz (p_bound : Int), .any, .any]) h (fun Q' q' => ?_) (fun hc F H Q' h q' => ?_) (fun hc F H Q' h q' => ?_) (fun v27 H ⟨F, h⟩ => ?_)
  · skip
    refine T_test ?_
    refine S_op ?_
    refine S_cb ?_
    refine S_cons ?_
    refine S_var 0 h rfl rfl fun v25 h => ?_
    refine S_nil ?_
    refine S_lenL (h.vF 0 rfl rfl) ?_
    have h := h.pop
    refine S_varI 0 h rfl rfl ?_
    refine S_I0 ?_
    refine T_bl ?_
    have hz := h
    exact q' _ _ hz
  · have hm := ifT hc hy26
    refine S_varI 0 h rfl rfl ?_
    have h := h.push (v := (V.int p_many)) (x := ((some p_many) : Option Int)) (rp_some (x := (p_many : Int)) rfl)
    have hz := h
    cases hm
    exact q' _ _ ⟨_, hz⟩
  · have hm := ifF hc hy26
    refine S_c ?_
    have h := h.push (v := V.non) (x := (none : Option Int)) rfl
    have hz := h
    cases hm
    exact q' _ _ ⟨_, hz⟩
  have hz := h
  cases hm
  exact q _ _ _ (hz.finF aft0)
theorem fn_first_misfit__r {P : Program} {w : World} {K : Fg} {mg : Str → Option Value} {base : Heap} (bz : Blt mg) (kf : KF K) (cz : Cst mg) {f : Addr} {fd : FuncData} (F0 : Fun K "first_misfit" "first_misfit" s_first_misfit__r f fd)  : FnOk P w K mg base CX0 1 f fd ["many", "told", "long", "bound"] (Prom K R_first_misfit__r) :=
  F0.ok sc_first_misfit__r (prom_len 4 fun A s A' h => by cases h; rfl) fun cdv A outer s H vs Q E hr h => ⟨t_first_misfit__r K, pss_cons (ps_for PassesOwn.never rfl (pi_range1 (by rfl) bz.range (pa_cons (pv 0) (pa_nil))) (pg_name (i := 4) sc_first_misfit__r.nd rfl (.inl rfl)) (pss_one (ps_if (PW.pt (pw_or (pt_cmpR (r := (rI0 fun i j => .bl (decide (j ≤ i)))) op_ge (pv 4) (pe_callB (r := rLenG K) cr_lenG (by rfl) bz.len (by decide +kernel) (pa_cons (pv 1) (pa_nil))) (nomark _)) (pw_or (pt_cmpR (r := rNe) op_ne (pe_callB (r := rLenG K) cr_lenG (by rfl) bz.len (by decide +kernel) (pa_cons (pe_ix (r := rIxL K) ix_list (pv 1) (pv 4) (fun _ _ => rfl)) (pa_nil))) (pv 2) (nomark _)) (pw_or1 (pt_not (pt_val (pe_callB (r := rAll K) (cr_all rfl) (by rfl) bz.all_ (by decide +kernel) (pa_cons (pe_lc (own := [("number", 5)]) (g := gName 5) (tt := tYes) (te := tChain (rI0 fun i j => .bl (decide (i ≤ j))) (rI0 fun i j => .bl (decide (i < j))) (tC (.int 0)) (tVar 5) (tVar 3)) (wi := iList K (tOp (rIxL K) (tVar 1) (tVar 4))) rfl sc_first_misfit__r.nd (pi_list (pe_ix (r := rIxL K) ix_list (pv 1) (pv 4) (fun _ _ => rfl))) (blkOk_by (N := ["many", "told", "long", "bound", "s", "number"]) (sc := defScope s_first_misfit__r) (by decide +kernel)) (fun _ _ _ _ _ => pg_name (i := 5) sc_first_misfit__r.nd rfl (by first | exact .inl rfl | exact .inr rfl)) (fun _ _ _ _ _ => pts_nil) (fun _ _ _ _ _ => pe_chain (r := (rI0 fun i j => .bl (decide (i ≤ j)))) (r' := (rI0 fun i j => .bl (decide (i < j)))) op_le op_lt (pe_int) (pv 5) (pv 3))) (pa_nil))))))))) (pss_one (ps_ret (pv 4))) pss_nil))) (pss_one (ps_ret (pe_ifExp (pt_cmpR (r := (rI0 fun i j => .bl (decide (j < i)))) op_gt (pe_callB (r := rLenG K) cr_lenG (by rfl) bz.len (by decide +kernel) (pa_cons (pv 1) (pa_nil))) (pv 0) (nomark _)) (pv 0) (pe_non)))), sem_first_misfit__r kf h (fun _ _ z => z) fun _ _ z => z⟩
theorem ok_first_misfit__r {P : Program} {w : World} {K : Fg} {mg : Str → Option Value} {base : Heap} (bz : Blt mg) (kf : KF K) (cz : Cst mg) {f : Addr} {fd : FuncData} (F0 : Fun K "first_misfit" "first_misfit" s_first_misfit__r f fd) (g0 : mg "first_misfit" = some (.ref f)) (b0 : Binds K fd ["many", "told", "long", "bound"] [])  : Cal P w K mg base 1 "first_misfit" ["many", "told", "long", "bound"] R_first_misfit__r :=
  Cal.mk' (fn_first_misfit__r bz kf cz F0) g0 F0.kp b0

def m_first_misfit__l_c1 (p_bound : Int) (x13 : Int) : Option Bool :=  some ((decide ((0 : Int) ≤ x13)) && (decide (x13 < p_bound)))
def m_first_misfit__l_l0 (p_told : List (Tup Int)) (p_long : Int) (p_bound : Int) (x2 : Int) (s4 : Unit) : Option (Out Unit (Option Int)) := (if (decide ((List.length p_told : Int) ≤ x2)) = true then some true else ((atI p_told x2).bind fun x8 => some (!(decide ((List.length (Tup.l x8) : Int) = p_long)))).bind fun c21 => (if c21 = true then some true else (atI p_told x2).bind fun x11 => (mapO (m_first_misfit__l_c1 p_bound) (Tup.l x11)).bind fun ys19 => some (!(List.all ys19 id))).bind fun c22 => some c22).bind fun c23 => if c23 = true then some (.rt (some x2)) else some (.nx ())
def m_first_misfit__l (p_many : Int) (p_told : List (Tup Int)) (p_long : Int) (p_bound : Int) : Option (Option Int) := (rangeO p_many).bind fun xs1 => (forO (m_first_misfit__l_l0 p_told p_long p_bound) xs1 ()).bind fun s24 => match s24 with | .nx s1 => ((if (decide (p_many < (List.length p_told : Int))) = true then some (some p_many) else some none : Option (Option Int))).bind fun y26 => some y26 | .rt r1 => some r1 | .bk _ => none
inductive R_first_misfit__l : List Slot → RSlot → List Slot → Prop
  | mk (p_many : Int) (p_told : List (Tup Int)) (p_long : Int) (p_bound : Int)  {r : Option Int} : m_first_misfit__l p_many p_told p_long p_bound = some r → R_first_misfit__l [.fz p_many, .fz p_told, .fz p_long, .fz p_bound] (.fz r) [.any, .any, .any, .any]
def t_first_misfit__l (K : Fg) : TS := tSeq (tFor (iRng1 (tCons (tVar 0) (tNil))) (gName 4) (tIfS (tOr (tTest (tOp (rI0 fun i j => .bl (decide (j ≤ i))) (tVar 4) (tCB (rLenG K) (tCons (tVar 1) (tNil))))) (tOr (tTest (tOp rNe (tCB (rLenG K) (tCons (tOp (rIxL K) (tVar 1) (tVar 4)) (tNil))) (tVar 2))) (tNot (tB (tCB (rAll K) (tCons (tLc (iTup K (tOp (rIxL K) (tVar 1) (tVar 4))) (gName 5) (tYes) (tChain (rI0 fun i j => .bl (decide (i ≤ j))) (rI0 fun i j => .bl (decide (i < j))) (tC (.int 0)) (tVar 5) (tVar 3)) [5]) (tNil))))))) (tRet (tVar 4)) tNext)) (tRet (tIf (tTest (tOp (rI0 fun i j => .bl (decide (j < i))) (tCB (rLenG K) (tCons (tVar 1) (tNil))) (tVar 0))) (tVar 0) (tC .non)))
theorem sc_first_misfit__l : FnScope ["many", "told", "long", "bound", "s", "number"] ["many", "told", "long", "bound"] (defScope s_first_misfit__l) := ⟨rfl, rfl, rfl, by decide +kernel, rfl, by decide +kernel, by decide +kernel⟩
theorem sem_first_misfit__l {K : Fg} (kf : KF K) {vs : List V} {H : Hp} {Q : VK} {E : XK} (h : Prom K R_first_misfit__l vs H Q E) {D : Ends} (hD : ∀ u H, Q u H → D.rt u H) (hN : ∀ σ H, Q .non H → D.nx σ H) : t_first_misfit__l K D (start ["many", "told", "long", "bound", "s", "number"] vs) H := by
  obtain ⟨F, A, rs, A', hR, fh, hS, nd, q⟩ := h
  cases hR with | @mk p_many p_told p_long p_bound  r hm => ?_
  have hl := slots_len hS
  obtain ⟨va0, va1, va2, va3, rfl⟩ := len4 (vs := vs) (by simpa using hl.symm)
  have h : St K ⟨F, H, []⟩ F H [some va0, some va1, some va2, some va3, none, none] [.fz (p_many : Int), .fz (p_told : List (Tup Int)), .fz (p_long : Int), .fz (p_bound : Int), .any, .any] := St.start fh hS nd [none, none]
  generalize hB : (⟨F, H, []⟩ : Base) = B0 at h
  have q0 := q
  have q : ∀ u F' H', Fin K B0 (.fz r) [.any, .any, .any, .any] u F' H' → D.rt u H' := by subst hB; exact fun u F' H' z => hD _ _ (q u F' H' z)
  have qN : ∀ σ F' H', Fin K B0 (.fz r) [.any, .any, .any, .any] .non F' H' → D.nx σ H' := by subst hB; exact fun σ F' H' z => hN _ _ (q0 _ F' H' z)
  clear hB q0 hD hN
  rw [show start ["many", "told", "long", "bound", "s", "number"] [va0, va1, va2, va3] = [some va0, some va1, some va2, some va3, none, none] from rfl]
  unfold t_first_misfit__l
  unfold m_first_misfit__l at hm
  have hrt : ∀ (r' : Option Int) u H', (some r' : Option _) = some r → (fun r u H' => ∃ F', Fin K B0 (.fz r) [.any, .any, .any, .any] u F' H') r' u H' → D.rt u H' := fun r' u H' e z => by cases e; exact q _ _ _ z.choose_spec
  refine Q_for ?_
  refine S_iR1 ?_
  refine S_cons ?_
  refine S_varI 0 h rfl rfl ?_
  refine S_nil ?_
  obtain ⟨xs1, hxs1, hm⟩ := ob hm
  refine S_rng1 (K := K) hxs1 fun J Y => ?_
  obtain ⟨s24, hs24, hm⟩ := ob hm
  refine S_forO (ts := []) (TM := []) (Mf := fun (s4 : Unit) => [.fz (p_many : Int), .fz (p_told : List (Tup Int)), .fz (p_long : Int), .fz (p_bound : Int), .any, .any]) (R := (fun r u H' => ∃ F', Fin K B0 (.fz r) [.any, .any, .any, .any] u F' H' : Option Int → V → Hp → Prop)) Y hs24 (h.weak ⟨.inr rfl, .inr rfl, .inr rfl, .inr rfl, .inl rfl, .inl rfl, trivial⟩) (fun s4 σ F H h => trivial) (fun i x2 s4 o' v3 σ F H D hx hb h hn hct hbk hrt => ?_) (fun s1 σ F H ho h => ?_) (fun r1 u H' ho hr => ?_)
  · have hm := hb
    unfold m_first_misfit__l_l0 at hm
    have h : St K B0 F H (some v3 :: σ) [.fz (x2 : Int), .fz (p_many : Int), .fz (p_told : List (Tup Int)), .fz (p_long : Int), .fz (p_bound : Int), .any, .any] := h
    refine S_gName ?_
    have h : St K B0 F H (List.set (σ) 4 (some v3)) [.fz (p_many : Int), .fz (p_told : List (Tup Int)), .fz (p_long : Int), .fz (p_bound : Int), .fz (x2 : Int), .any] := St.setF (v := v3) (x := (x2 : Int)) h.pop 4 (h.fz 0 rfl rfl)
    refine S_if ?_
    obtain ⟨c23, hc23, hm⟩ := ob hm
    refine S_or (a := (decide ((List.length p_told : Int) ≤ x2))) (c := c23) h (fun Q' q' => ?_) (fun hc F H Q' h q' => ?_) (fun hc => ?_) fun F H h => ?_
    · skip
      refine T_test ?_
      refine S_op ?_
      refine S_varI 0 h rfl rfl ?_
      refine S_cb ?_
      refine S_cons ?_
      refine S_var 0 h rfl rfl fun v5 h => ?_
      refine S_nil ?_
      refine S_lenL (h.vF 0 rfl rfl) ?_
      have h := h.pop
      refine S_I0 ?_
      refine T_bl ?_
      have hz := h
      exact q' _ _ hz
    · have hm := ifF hc hc23
      obtain ⟨c21, hc21, hm⟩ := ob hm
      obtain ⟨c22, hc22, hm⟩ := ob hm
      refine S_or (a := c21) (c := c22) h (fun Q' q' => ?_) (fun hc F H Q' h q' => ?_) (fun hc => ?_) fun F H h => ?_
      · have hm := hc21
        refine T_test ?_
        refine S_op ?_
        refine S_cb ?_
        refine S_cons ?_
        refine S_op ?_
        refine S_var 0 h rfl rfl fun v6 h => ?_
        refine S_varI 1 h rfl rfl ?_
        obtain ⟨x8, hx8, hm⟩ := ob hm
        refine S_ixL h.pop (h.vF 0 rfl rfl) hx8 fun u7 h => ?_
        refine S_nil ?_
        refine S_lenT h (h.fz 0 rfl rfl) ?_
        have h := h.pop
        refine S_varI 0 h rfl rfl ?_
        refine S_neI ?_
        refine T_bl ?_
        have hz := h
        cases hm
        exact q' _ _ hz
      · have hm := ifF hc hc22
        refine S_not ?_
        refine T_tB ?_
        refine S_cb ?_
        refine S_cons ?_
        refine S_lc ?_
        refine S_iT ?_
        refine S_op ?_
        refine S_var 0 h rfl rfl fun v9 h => ?_
        refine S_varI 1 h rfl rfl ?_
        obtain ⟨x11, hx11, hm⟩ := ob hm
        refine S_ixL h.pop (h.vF 0 rfl rfl) hx11 fun u10 h => ?_
        refine S_itT h (h.fz 0 rfl rfl) fun a12 e1 => ?_
        subst e1
        obtain ⟨ys19, hys19, hm⟩ := ob hm
        refine S_mapO (ts := [some (V.ref a12)]) (TM := [.fz (x11 : Tup Int)]) (M := [.fz (p_many : Int), .fz (p_told : List (Tup Int)), .fz (p_long : Int), .fz (p_bound : Int), .fz (x2 : Int), .any]) (yields_tup a12 x11) hys19 h rfl ⟨rfl, trivial⟩ (tup_len (h.fz 0 rfl rfl)) (fun w F H h => (h.fz 0 rfl rfl)) (fun x13 z v14 D15 a16 F H G N hf h hG => ?_) (fun D20 F H hBD20 h => ?_)
        · have hm := hf
          unfold m_first_misfit__l_c1 at hm
          have h : St K B0 F H (some v14 :: some (V.ref D15) :: some (V.ref a12) :: wipe (List.set (σ) 4 (some v3)) [5]) [.fz (x13 : Int), .own D15 a16, .fz (x11 : Tup Int), .fz (p_many : Int), .fz (p_told : List (Tup Int)), .fz (p_long : Int), .fz (p_bound : Int), .fz (x2 : Int), .any] := h
          refine S_gName ?_
          have h : St K B0 F H (some (V.ref D15) :: some (V.ref a12) :: List.set (wipe (List.set (σ) 4 (some v3)) [5]) 5 (some v14)) [.own D15 a16, .fz (x11 : Tup Int), .fz (p_many : Int), .fz (p_told : List (Tup Int)), .fz (p_long : Int), .fz (p_bound : Int), .fz (x2 : Int), .fz (x13 : Int)] := St.setF (v := v14) (x := (x13 : Int)) h.pop 7 (h.fz 0 rfl rfl)
          refine ⟨(wipe_set (by decide)).trans wipe_idem, ?_⟩
          refine if1 ?_
          refine S_chain ?_
          refine S_c ?_
          refine S_varI 2 h rfl rfl ?_
          refine S_I0 ?_
          refine S_chP (c := (decide (x13 < p_bound))) (fun _ Q' q' => ?_) ?_
          · skip
            refine S_varI 2 h rfl rfl ?_
            refine S_I0 ?_
            exact q'
          have hz := h
          cases hm
          exact hG _ _ _ (St.unset (ts := [some (V.ref D15), some (V.ref a12)]) (TM := [.own D15 a16, .fz (x11 : Tup Int)]) (M := [.fz (p_many : Int), .fz (p_told : List (Tup Int)), .fz (p_long : Int), .fz (p_bound : Int), .fz (x2 : Int), .any]) (hz.weak ⟨.inr rfl, .inr rfl, .inr rfl, .inr rfl, .inr rfl, .inr rfl, .inr rfl, .inl rfl, trivial⟩) rfl rfl) rfl
        have h : St K B0 F H (some (V.ref D20) :: some (V.ref a12) :: List.set (σ) 4 (some v3)) [.own D20 ys19, .fz (x11 : Tup Int), .fz (p_many : Int), .fz (p_told : List (Tup Int)), .fz (p_long : Int), .fz (p_bound : Int), .fz (x2 : Int), .any] := h
        have h := h.nip
        refine S_frz h hBD20 _ fun F h => ?_
        refine S_nil ?_
        refine S_all (h.vF 0 rfl rfl) ?_
        have h := h.pop
        refine T_bl ?_
        have hz := h
        cases hm
        exact q' _ _ hz
      · exact (Option.some.inj (ifT hc hc22)).symm
      have hz := h
      cases hm
      exact q' _ _ hz
    · exact (Option.some.inj (ifT hc hc23)).symm
    refine S_ite hm (fun hc hm => ?_) (fun hc hm => ?_)
    · skip
      refine S_ret ?_
      refine S_varI 0 h rfl rfl ?_
      have h := h.push (v := (V.int x2)) (x := ((some x2) : Option Int)) (rp_some (x := (x2 : Int)) rfl)
      have hz := h
      cases hm
      exact hrt _ _ _ rfl ⟨_, (hz.finF aft0)⟩
    refine S_next ?_
    have hz := h
    cases hm
    exact hn _ _ _ _ rfl (hz.weak ⟨.inr rfl, .inr rfl, .inr rfl, .inr rfl, .inl rfl, .inl rfl, trivial⟩)
  rotate_left
  · subst ho
    cases hm
    exact hrt _ _ _ rfl hr
  subst ho
  have h : St K B0 F H (σ) [.fz (p_many : Int), .fz (p_told : List (Tup Int)), .fz (p_long : Int), .fz (p_bound : Int), .any, .any] := h
  refine Q_nx ?_
  refine S_ret ?_
  obtain ⟨y26, hy26, hm⟩ := ob hm
  refine S_ifX (c := (decide (p_many < (List.length p_told : Int)))) (T := fun v27 H => ∃ F, St K B0 F H (some v27 :: σ) [.fz (y26 : Option Int), .fz (p_many : Int), .fz (p_told : List (Tup Int)), .fz (p_long : Int), .fz (p_bound : Int), .any, .any]) h (fun Q' q' => ?_) (fun hc F H Q' h q' => ?_) (fun hc F H Q' h q' => ?_) (fun v27 H ⟨F, h⟩ => ?_)
  · skip
    refine T_test ?_
    refine S_op ?_
    refine S_cb ?_
    refine S_cons ?_
    refine S_var 0 h rfl rfl fun v25 h => ?_
    refine S_nil ?_
    refine S_lenL (h.vF 0 rfl rfl) ?_
    have h := h.pop
    refine S_varI 0 h rfl rfl ?_
    refine S_I0 ?_
    refine T_bl ?_
    have hz := h
    exact q' _ _ hz
  · have hm := ifT hc hy26
    refine S_varI 0 h rfl rfl ?_
    have h := h.push (v := (V.int p_many)) (x := ((some p_many) : Option Int)) (rp_some (x := (p_many : Int)) rfl)
    have hz := h
    cases hm
    exact q' _ _ ⟨_, hz⟩
  · have hm := ifF hc hy26
    refine S_c ?_
    have h := h.push (v := V.non) (x := (none : Option Int)) rfl
    have hz := h
    cases hm
    exact q' _ _ ⟨_, hz⟩
  have hz := h
  cases hm
  exact q _ _ _ (hz.finF aft0)
theorem fn_first_misfit__l {P : Program} {w : World} {K : Fg} {mg : Str → Option Value} {base : Heap} (bz : Blt mg) (kf : KF K) (cz : Cst mg) {f : Addr} {fd : FuncData} (F0 : Fun K "first_misfit" "first_misfit" s_first_misfit__l f fd)  : FnOk P w K mg base CX0 1 f fd ["many", "told", "long", "bound"] (Prom K R_first_misfit__l) :=
  F0.ok sc_first_misfit__l (prom_len 4 fun A s A' h => by cases h; rfl) fun cdv A outer s H vs Q E hr h => ⟨t_first_misfit__l K, pss_cons (ps_for PassesOwn.never rfl (pi_range1 (by rfl) bz.range (pa_cons (pv 0) (pa_nil))) (pg_name (i := 4) sc_first_misfit__l.nd rfl (.inl rfl)) (pss_one (ps_if (PW.pt (pw_or (pt_cmpR (r := (rI0 fun i j => .bl (decide (j ≤ i)))) op_ge (pv 4) (pe_callB (r := rLenG K) cr_lenG (by rfl) bz.len (by decide +kernel) (pa_cons (pv 1) (pa_nil))) (nomark _)) (pw_or (pt_cmpR (r := rNe) op_ne (pe_callB (r := rLenG K) cr_lenG (by rfl) bz.len (by decide +kernel) (pa_cons (pe_ix (r := rIxL K) ix_list (pv 1) (pv 4) (fun _ _ => rfl)) (pa_nil))) (pv 2) (nomark _)) (pw_or1 (pt_not (pt_val (pe_callB (r := rAll K) (cr_all rfl) (by rfl) bz.all_ (by decide +kernel) (pa_cons (pe_lc (own := [("number", 5)]) (g := gName 5) (tt := tYes) (te := tChain (rI0 fun i j => .bl (decide (i ≤ j))) (rI0 fun i j => .bl (decide (i < j))) (tC (.int 0)) (tVar 5) (tVar 3)) (wi := iTup K (tOp (rIxL K) (tVar 1) (tVar 4))) rfl sc_first_misfit__l.nd (pi_tup (pe_ix (r := rIxL K) ix_list (pv 1) (pv 4) (fun _ _ => rfl))) (blkOk_by (N := ["many", "told", "long", "bound", "s", "number"]) (sc := defScope s_first_misfit__l) (by decide +kernel)) (fun _ _ _ _ _ => pg_name (i := 5) sc_first_misfit__l.nd rfl (by first | exact .inl rfl | exact .inr rfl)) (fun _ _ _ _ _ => pts_nil) (fun _ _ _ _ _ => pe_chain (r := (rI0 fun i j => .bl (decide (i ≤ j)))) (r' := (rI0 fun i j => .bl (decide (i < j)))) op_le op_lt (pe_int) (pv 5) (pv 3))) (pa_nil))))))))) (pss_one (ps_ret (pv 4))) pss_nil))) (pss_one (ps_ret (pe_ifExp (pt_cmpR (r := (rI0 fun i j => .bl (decide (j < i)))) op_gt (pe_callB (r := rLenG K) cr_lenG (by rfl) bz.len (by decide +kernel) (pa_cons (pv 1) (pa_nil))) (pv 0) (nomark _)) (pv 0) (pe_non)))), sem_first_misfit__l kf h (fun _ _ z => z) fun _ _ z => z⟩
theorem ok_first_misfit__l {P : Program} {w : World} {K : Fg} {mg : Str → Option Value} {base : Heap} (bz : Blt mg) (kf : KF K) (cz : Cst mg) {f : Addr} {fd : FuncData} (F0 : Fun K "first_misfit" "first_misfit" s_first_misfit__l f fd) (g0 : mg "first_misfit" = some (.ref f)) (b0 : Binds K fd ["many", "told", "long", "bound"] [])  : Cal P w K mg base 1 "first_misfit" ["many", "told", "long", "bound"] R_first_misfit__l :=
  Cal.mk' (fn_first_misfit__l bz kf cz F0) g0 F0.kp b0

def m_first_unsettled_c1 (p_rows : List (List Int)) (x10 : Int × Int) : Option Bool := (atI p_rows x10.2).bind fun x20 => (atI x20 x10.1).bind fun x22 => some (!(decide (x22 = x10.2)))
def m_first_unsettled_l0 (p_rows : List (List Int)) (x3 : Int × (List Int)) (s5 : Unit) : Option (Out Unit (Option Int)) := (mapO (m_first_unsettled_c1 p_rows) (enumFrom 0 x3.2)).bind fun ys23 => if (List.any ys23 id) = true then some (.rt (some x3.1)) else some (.nx ())
def m_first_unsettled (p_rows : List (List Int)) : Option (Option Int) :=  (forO (m_first_unsettled_l0 p_rows) (enumFrom 0 p_rows) ()).bind fun s25 => match s25 with | .nx s1 => some none | .rt r1 => some r1 | .bk _ => none
inductive R_first_unsettled : List Slot → RSlot → List Slot → Prop
  | mk (p_rows : List (List Int))  {r : Option Int} : m_first_unsettled p_rows = some r → R_first_unsettled [.fz p_rows] (.fz r) [.any]
def t_first_unsettled (K : Fg) : TS := tSeq (tFor (iEnum K (tCons (tVar 0) (tNil))) (gTup K 2 (gCons (gName 1) (gCons (gName 2) (gNil)))) (tIfS (tB (tCB (rAny K) (tCons (tLc (iEnum K (tCons (tVar 2) (tNil))) (gTup K 2 (gCons (gName 3) (gCons (gName 4) (gNil)))) (tYes) (tOp rNe (tOp (rIxL K) (tOp (rIxL K) (tVar 0) (tVar 4)) (tVar 3)) (tVar 4)) [3, 4]) (tNil)))) (tRet (tVar 1)) tNext)) (tRet (tC .non))
theorem sc_first_unsettled : FnScope ["rows", "s", "row", "x", "goal"] ["rows"] (defScope s_first_unsettled) := ⟨rfl, rfl, rfl, by decide +kernel, rfl, by decide +kernel, by decide +kernel⟩
theorem sem_first_unsettled {K : Fg} (kf : KF K) {vs : List V} {H : Hp} {Q : VK} {E : XK} (h : Prom K R_first_unsettled vs H Q E) {D : Ends} (hD : ∀ u H, Q u H → D.rt u H) (hN : ∀ σ H, Q .non H → D.nx σ H) : t_first_unsettled K D (start ["rows", "s", "row", "x", "goal"] vs) H := by
  obtain ⟨F, A, rs, A', hR, fh, hS, nd, q⟩ := h
  cases hR with | @mk p_rows  r hm => ?_
  have hl := slots_len hS
  obtain ⟨va0, rfl⟩ := len1 (vs := vs) (by simpa using hl.symm)
  have h : St K ⟨F, H, []⟩ F H [some va0, none, none, none, none] [.fz (p_rows : List (List Int)), .any, .any, .any, .any] := St.start fh hS nd [none, none, none, none]
  generalize hB : (⟨F, H, []⟩ : Base) = B0 at h
  have q0 := q
  have q : ∀ u F' H', Fin K B0 (.fz r) [.any] u F' H' → D.rt u H' := by subst hB; exact fun u F' H' z => hD _ _ (q u F' H' z)
  have qN : ∀ σ F' H', Fin K B0 (.fz r) [.any] .non F' H' → D.nx σ H' := by subst hB; exact fun σ F' H' z => hN _ _ (q0 _ F' H' z)
  clear hB q0 hD hN
  rw [show start ["rows", "s", "row", "x", "goal"] [va0] = [some va0, none, none, none, none] from rfl]
  unfold t_first_unsettled
  unfold m_first_unsettled at hm
  have hrt : ∀ (r' : Option Int) u H', (some r' : Option _) = some r → (fun r u H' => ∃ F', Fin K B0 (.fz r) [.any] u F' H') r' u H' → D.rt u H' := fun r' u H' e z => by cases e; exact q _ _ _ z.choose_spec
  refine Q_for ?_
  refine S_iE ?_
  refine S_cons ?_
  refine S_var 0 h rfl rfl fun v1 h => ?_
  refine S_nil ?_
  refine S_enum (h.vF 0 rfl rfl) fun a2 e1 => ?_
  subst e1
  obtain ⟨s25, hs25, hm⟩ := ob hm
  refine S_forO (ts := [some (V.ref a2)]) (TM := [.fz (p_rows : List (List Int))]) (Mf := fun (s5 : Unit) => [.fz (p_rows : List (List Int)), .any, .any, .any, .any]) (R := (fun r u H' => ∃ F', Fin K B0 (.fz r) [.any] u F' H' : Option Int → V → Hp → Prop)) (yields_enum a2 p_rows) hs25 (h.weak ⟨.inr rfl, .inr rfl, .inl rfl, .inl rfl, .inl rfl, .inl rfl, trivial⟩) (fun s5 σ F H h => (h.vF 0 rfl rfl)) (fun i x3 s5 o' v4 σ F H D hx hb h hn hct hbk hrt => ?_) (fun s1 σ F H ho h => ?_) (fun r1 u H' ho hr => ?_)
  · have hm := hb
    unfold m_first_unsettled_l0 at hm
    have h : St K B0 F H (some v4 :: some (V.ref a2) :: σ) [.fz (x3 : Int × (List Int)), .fz (p_rows : List (List Int)), .fz (p_rows : List (List Int)), .any, .any, .any, .any] := h
    refine S_gPair h (h.fz 0 rfl rfl) fun v6 v7 h => ?_
    refine S_gCons ?_
    refine S_gName ?_
    have h : St K B0 F H (some v7 :: some v6 :: some v4 :: some (V.ref a2) :: List.set (σ) 1 (some v6)) [.fz (x3.2 : List Int), .fz (x3.1 : Int), .fz (x3 : Int × (List Int)), .fz (p_rows : List (List Int)), .fz (p_rows : List (List Int)), .fz (x3.1 : Int), .any, .any, .any] := St.setF (v := v6) (x := (x3.1 : Int)) h 5 (h.fz 1 rfl rfl)
    refine S_gCons ?_
    refine S_gName ?_
    have h : St K B0 F H (some v7 :: some v6 :: some v4 :: some (V.ref a2) :: List.set (List.set (σ) 1 (some v6)) 2 (some v7)) [.fz (x3.2 : List Int), .fz (x3.1 : Int), .fz (x3 : Int × (List Int)), .fz (p_rows : List (List Int)), .fz (p_rows : List (List Int)), .fz (x3.1 : Int), .fz (x3.2 : List Int), .any, .any] := St.setF (v := v7) (x := (x3.2 : List Int)) h 6 (h.fz 0 rfl rfl)
    refine S_gNil ?_
    have h := h.pop.pop.pop
    refine S_if ?_
    refine T_tB ?_
    refine S_cb ?_
    refine S_cons ?_
    refine S_lc ?_
    refine S_iE ?_
    refine S_cons ?_
    refine S_var 1 h rfl rfl fun v8 h => ?_
    refine S_nil ?_
    refine S_enum (h.vF 0 rfl rfl) fun a9 e1 => ?_
    subst e1
    obtain ⟨ys23, hys23, hm⟩ := ob hm
    refine S_mapO (ts := [some (V.ref a9), some (V.ref a2)]) (TM := [.fz (x3.2 : List Int), .fz (p_rows : List (List Int))]) (M := [.fz (p_rows : List (List Int)), .fz (x3.1 : Int), .fz (x3.2 : List Int), .any, .any]) (yields_enum a9 x3.2) hys23 h rfl ⟨rfl, rfl, trivial⟩ (enum_len (view_len (h.vF 0 rfl rfl))) (fun w F H h => (h.vF 0 rfl rfl)) (fun x10 z v11 D12 a13 F H G N hf h hG => ?_) (fun D24 F H hBD24 h => ?_)
    · have hm := hf
      unfold m_first_unsettled_c1 at hm
      have h : St K B0 F H (some v11 :: some (V.ref D12) :: some (V.ref a9) :: some (V.ref a2) :: wipe (List.set (List.set (σ) 1 (some v6)) 2 (some v7)) [3, 4]) [.fz (x10 : Int × Int), .own D12 a13, .fz (x3.2 : List Int), .fz (p_rows : List (List Int)), .fz (p_rows : List (List Int)), .fz (x3.1 : Int), .fz (x3.2 : List Int), .any, .any] := h
      refine S_gPair h (h.fz 0 rfl rfl) fun v16 v17 h => ?_
      refine S_gCons ?_
      refine S_gName ?_
      have h : St K B0 F H (some v17 :: some v16 :: some v11 :: some (V.ref D12) :: some (V.ref a9) :: some (V.ref a2) :: List.set (wipe (List.set (List.set (σ) 1 (some v6)) 2 (some v7)) [3, 4]) 3 (some v16)) [.fz (x10.2 : Int), .fz (x10.1 : Int), .fz (x10 : Int × Int), .own D12 a13, .fz (x3.2 : List Int), .fz (p_rows : List (List Int)), .fz (p_rows : List (List Int)), .fz (x3.1 : Int), .fz (x3.2 : List Int), .fz (x10.1 : Int), .any] := St.setF (v := v16) (x := (x10.1 : Int)) h 9 (h.fz 1 rfl rfl)
      refine S_gCons ?_
      refine S_gName ?_
      have h : St K B0 F H (some v17 :: some v16 :: some v11 :: some (V.ref D12) :: some (V.ref a9) :: some (V.ref a2) :: List.set (List.set (wipe (List.set (List.set (σ) 1 (some v6)) 2 (some v7)) [3, 4]) 3 (some v16)) 4 (some v17)) [.fz (x10.2 : Int), .fz (x10.1 : Int), .fz (x10 : Int × Int), .own D12 a13, .fz (x3.2 : List Int), .fz (p_rows : List (List Int)), .fz (p_rows : List (List Int)), .fz (x3.1 : Int), .fz (x3.2 : List Int), .fz (x10.1 : Int), .fz (x10.2 : Int)] := St.setF (v := v17) (x := (x10.2 : Int)) h 10 (h.fz 0 rfl rfl)
      refine S_gNil ?_
      have h := h.pop.pop.pop
      refine ⟨(wipe_set (by decide)).trans ((wipe_set (by decide)).trans wipe_idem), ?_⟩
      refine if1 ?_
      refine S_op ?_
      refine S_op ?_
      refine S_op ?_
      refine S_var 3 h rfl rfl fun v18 h => ?_
      refine S_varI 4 h rfl rfl ?_
      obtain ⟨x20, hx20, hm⟩ := ob hm
      refine S_ixL h.pop (h.vF 0 rfl rfl) hx20 fun u19 h => ?_
      refine S_varI 4 h rfl rfl ?_
      obtain ⟨x22, hx22, hm⟩ := ob hm
      refine S_ixL h.pop (h.vF 0 rfl rfl) hx22 fun u21 h => ?_
      obtain rfl : u21 = (V.int x22) := h.fz 0 rfl rfl
      have h := h.pop
      refine S_varI 3 h rfl rfl ?_
      refine S_neI ?_
      have hz := h
      cases hm
      exact hG _ _ _ (St.unset (ts := [some (V.ref D12), some (V.ref a9), some (V.ref a2)]) (TM := [.own D12 a13, .fz (x3.2 : List Int), .fz (p_rows : List (List Int))]) (M := [.fz (p_rows : List (List Int)), .fz (x3.1 : Int), .fz (x3.2 : List Int), .any, .any]) (St.unset (ts := [some (V.ref D12), some (V.ref a9), some (V.ref a2)]) (TM := [.own D12 a13, .fz (x3.2 : List Int), .fz (p_rows : List (List Int))]) (M := [.fz (p_rows : List (List Int)), .fz (x3.1 : Int), .fz (x3.2 : List Int), .any, .any]) (hz.weak ⟨.inr rfl, .inr rfl, .inr rfl, .inr rfl, .inr rfl, .inr rfl, .inl rfl, .inl rfl, trivial⟩) rfl rfl) rfl rfl) rfl
    have h : St K B0 F H (some (V.ref D24) :: some (V.ref a9) :: some (V.ref a2) :: List.set (List.set (σ) 1 (some v6)) 2 (some v7)) [.own D24 ys23, .fz (x3.2 : List Int), .fz (p_rows : List (List Int)), .fz (p_rows : List (List Int)), .fz (x3.1 : Int), .fz (x3.2 : List Int), .any, .any] := h
    have h := h.nip
    refine S_frz h hBD24 _ fun F h => ?_
    refine S_nil ?_
    refine S_any (h.vF 0 rfl rfl) ?_
    have h := h.pop
    refine T_bl ?_
    refine S_ite hm (fun hc hm => ?_) (fun hc hm => ?_)
    · skip
      refine S_ret ?_
      refine S_varI 1 h rfl rfl ?_
      have h := h.push (v := (V.int x3.1)) (x := ((some x3.1) : Option Int)) (rp_some (x := (x3.1 : Int)) rfl)
      have hz := h
      cases hm
      exact hrt _ _ _ rfl ⟨_, (hz.finF aft0)⟩
    refine S_next ?_
    have hz := h
    cases hm
    exact hn _ _ _ _ rfl (hz.weak ⟨.inr rfl, .inr rfl, .inl rfl, .inl rfl, .inl rfl, .inl rfl, trivial⟩)
  rotate_left
  · subst ho
    cases hm
    exact hrt _ _ _ rfl hr
  subst ho
  have h : St K B0 F H (some (V.ref a2) :: σ) [.fz (p_rows : List (List Int)), .fz (p_rows : List (List Int)), .any, .any, .any, .any] := h
  have h := h.pop
  refine Q_nx ?_
  refine S_ret ?_
  refine S_c ?_
  have h := h.push (v := V.non) (x := (none : Option Int)) rfl
  have hz := h
  cases hm
  exact q _ _ _ (hz.finF aft0)
theorem fn_first_unsettled {P : Program} {w : World} {K : Fg} {mg : Str → Option Value} {base : Heap} (bz : Blt mg) (kf : KF K) (cz : Cst mg) {f : Addr} {fd : FuncData} (F0 : Fun K "first_unsettled" "first_unsettled" s_first_unsettled f fd)  : FnOk P w K mg base CX0 1 f fd ["rows"] (Prom K R_first_unsettled) :=
  F0.ok sc_first_unsettled (prom_len 1 fun A s A' h => by cases h; rfl) fun cdv A outer s H vs Q E hr h => ⟨t_first_unsettled K, pss_cons (ps_for PassesOwn.never rfl (pi_enum (by rfl) bz.enumerate (pa_cons (pv 0) (pa_nil))) (pg_tup rfl (pgs_cons (pg_name (i := 1) sc_first_unsettled.nd rfl (.inl rfl)) (pgs_cons (pg_name (i := 2) sc_first_unsettled.nd rfl (.inl rfl)) (pgs_nil)))) (pss_one (ps_if (pt_val (pe_callB (r := rAny K) (cr_any rfl) (by rfl) bz.any_ (by decide +kernel) (pa_cons (pe_lc (own := [("x", 3), ("goal", 4)]) (g := gTup K 2 (gCons (gName 3) (gCons (gName 4) (gNil)))) (tt := tYes) (te := tOp rNe (tOp (rIxL K) (tOp (rIxL K) (tVar 0) (tVar 4)) (tVar 3)) (tVar 4)) (wi := iEnum K (tCons (tVar 2) (tNil))) rfl sc_first_unsettled.nd (pi_enum (by rfl) bz.enumerate (pa_cons (pv 2) (pa_nil))) (blkOk_by (N := ["rows", "s", "row", "x", "goal"]) (sc := defScope s_first_unsettled) (by decide +kernel)) (fun _ _ _ _ _ => pg_tup rfl (pgs_cons (pg_name (i := 3) sc_first_unsettled.nd rfl (by first | exact .inl rfl | exact .inr rfl)) (pgs_cons (pg_name (i := 4) sc_first_unsettled.nd rfl (by first | exact .inl rfl | exact .inr rfl)) (pgs_nil)))) (fun _ _ _ _ _ => pts_nil) (fun _ _ _ _ _ => pe_cmpR (r := rNe) op_ne (pe_ix (r := rIxL K) ix_list (pe_ix (r := rIxL K) ix_list (pv 0) (pv 4) (fun _ _ => rfl)) (pv 3) (fun _ _ => rfl)) (pv 4) (nomark _))) (pa_nil)))) (pss_one (ps_ret (pv 1))) pss_nil))) (pss_one (ps_ret (pe_non))), sem_first_unsettled kf h (fun _ _ z => z) fun _ _ z => z⟩
theorem ok_first_unsettled {P : Program} {w : World} {K : Fg} {mg : Str → Option Value} {base : Heap} (bz : Blt mg) (kf : KF K) (cz : Cst mg) {f : Addr} {fd : FuncData} (F0 : Fun K "first_unsettled" "first_unsettled" s_first_unsettled f fd) (g0 : mg "first_unsettled" = some (.ref f)) (b0 : Binds K fd ["rows"] [])  : Cal P w K mg base 1 "first_unsettled" ["rows"] R_first_unsettled :=
  Cal.mk' (fn_first_unsettled bz kf cz F0) g0 F0.kp b0

def m_look (p_word : Str) (p_number : Option Int) : Option Unit := if (!(Option.isNone p_number)) = true then none else some ()
inductive R_look : List Slot → RSlot → List Slot → Prop
  | mk (p_word : Str) (p_number : Option Int)  {r : Unit} : m_look p_word p_number = some r → R_look [.fz p_word, .fz p_number] (.fz r) [.any, .any]
def t_look (K : Fg) : TS := tIfS (tTest (tOp rNotNG (tVar 1) (tC .non))) (tDead) tNext
theorem sc_look : FnScope ["word", "number"] ["word", "number"] (defScope s_look) := ⟨rfl, rfl, rfl, by decide +kernel, rfl, by decide +kernel, by decide +kernel⟩
theorem sem_look {K : Fg} (kf : KF K) {vs : List V} {H : Hp} {Q : VK} {E : XK} (h : Prom K R_look vs H Q E) {D : Ends} (hD : ∀ u H, Q u H → D.rt u H) (hN : ∀ σ H, Q .non H → D.nx σ H) : t_look K D (start ["word", "number"] vs) H := by
  obtain ⟨F, A, rs, A', hR, fh, hS, nd, q⟩ := h
  cases hR with | @mk p_word p_number  r hm => ?_
  have hl := slots_len hS
  obtain ⟨va0, va1, rfl⟩ := len2 (vs := vs) (by simpa using hl.symm)
  have h : St K ⟨F, H, []⟩ F H [some va0, some va1] [.fz (p_word : Str), .fz (p_number : Option Int)] := St.start fh hS nd []
  generalize hB : (⟨F, H, []⟩ : Base) = B0 at h
  have q0 := q
  have q : ∀ u F' H', Fin K B0 (.fz r) [.any, .any] u F' H' → D.rt u H' := by subst hB; exact fun u F' H' z => hD _ _ (q u F' H' z)
  have qN : ∀ σ F' H', Fin K B0 (.fz r) [.any, .any] .non F' H' → D.nx σ H' := by subst hB; exact fun σ F' H' z => hN _ _ (q0 _ F' H' z)
  clear hB q0 hD hN
  rw [show start ["word", "number"] [va0, va1] = [some va0, some va1] from rfl]
  unfold t_look
  unfold m_look at hm
  refine S_if ?_
  refine T_test ?_
  refine S_op ?_
  refine S_var 0 h rfl rfl fun v1 h => ?_
  refine S_c ?_
  refine S_notN (h.fz 0 rfl rfl) ?_
  have h := h.pop
  refine T_bl ?_
  refine S_ite hm (fun hc hm => ?_) (fun hc hm => ?_)
  · skip
    exact dead0 hm
  refine S_next ?_
  have hz := h
  cases hm
  exact qN _ _ _ (hz.finN aft0)
theorem fn_look {P : Program} {w : World} {K : Fg} {mg : Str → Option Value} {base : Heap} (bz : Blt mg) (kf : KF K) (cz : Cst mg) {f : Addr} {fd : FuncData} (F0 : Fun K "look" "look" s_look f fd)  : FnOk P w K mg base CX0 1 f fd ["word", "number"] (Prom K R_look) :=
  F0.ok sc_look (prom_len 2 fun A s A' h => by cases h; rfl) fun cdv A outer s H vs Q E hr h => ⟨t_look K, pss_one (ps_if (pt_cmpR (r := rNotNG) op_notNG (pv 1) (pe_non) (by with_unfolding_all rfl)) (pss_dead) pss_nil), sem_look kf h (fun _ _ z => z) fun _ _ z => z⟩
theorem ok_look {P : Program} {w : World} {K : Fg} {mg : Str → Option Value} {base : Heap} (bz : Blt mg) (kf : KF K) (cz : Cst mg) {f : Addr} {fd : FuncData} (F0 : Fun K "look" "look" s_look f fd) (g0 : mg "look" = some (.ref f)) (b0 : Binds K fd ["word", "number"] [])  : Cal P w K mg base 1 "look" ["word", "number"] R_look :=
  Cal.mk' (fn_look bz kf cz F0) g0 F0.kp b0

def m_look_at_words (p_words : List Str) : Option Unit := (m_word_fault p_words).bind fun r2 => if (!(Option.isNone r2)) = true then none else some ()
inductive R_look_at_words : List Slot → RSlot → List Slot → Prop
  | mk (p_words : List Str)  {r : Unit} : m_look_at_words p_words = some r → R_look_at_words [.fz p_words] (.fz r) [.any]
def t_look_at_words (K : Fg) : TS := tSeq (tAsg (tCall (Prom K R_word_fault) [] E0 (tCons (tVar 0) (tNil))) (gName 1)) (tIfS (tTest (tOp rNotNG (tVar 1) (tC .non))) (tDead) tNext)
theorem sc_look_at_words : FnScope ["words", "fault"] ["words"] (defScope s_look_at_words) := ⟨rfl, rfl, rfl, by decide +kernel, rfl, by decide +kernel, by decide +kernel⟩
theorem sem_look_at_words {K : Fg} (kf : KF K) {vs : List V} {H : Hp} {Q : VK} {E : XK} (h : Prom K R_look_at_words vs H Q E) {D : Ends} (hD : ∀ u H, Q u H → D.rt u H) (hN : ∀ σ H, Q .non H → D.nx σ H) : t_look_at_words K D (start ["words", "fault"] vs) H := by
  obtain ⟨F, A, rs, A', hR, fh, hS, nd, q⟩ := h
  cases hR with | @mk p_words  r hm => ?_
  have hl := slots_len hS
  obtain ⟨va0, rfl⟩ := len1 (vs := vs) (by simpa using hl.symm)
  have h : St K ⟨F, H, []⟩ F H [some va0, none] [.fz (p_words : List Str), .any] := St.start fh hS nd [none]
  generalize hB : (⟨F, H, []⟩ : Base) = B0 at h
  have q0 := q
  have q : ∀ u F' H', Fin K B0 (.fz r) [.any] u F' H' → D.rt u H' := by subst hB; exact fun u F' H' z => hD _ _ (q u F' H' z)
  have qN : ∀ σ F' H', Fin K B0 (.fz r) [.any] .non F' H' → D.nx σ H' := by subst hB; exact fun σ F' H' z => hN _ _ (q0 _ F' H' z)
  clear hB q0 hD hN
  rw [show start ["words", "fault"] [va0] = [some va0, none] from rfl]
  unfold t_look_at_words
  unfold m_look_at_words at hm
  refine Q_asg ?_
  refine S_tcall ?_
  refine S_cons ?_
  refine S_var 0 h rfl rfl fun v1 h => ?_
  refine S_nil ?_
  obtain ⟨r2, hr2, hm⟩ := ob hm
  refine S_callF (A := [.fz (p_words : List Str)]) h.pop (slots_cons (ok_fz (h.fz 0 rfl rfl)) slots_nil) (R_word_fault.mk _ hr2) rfl fun u3 F H h => ?_
  refine S_gName ?_
  have h : St K B0 F H (List.set [some va0, none] 1 (some u3)) [.fz (p_words : List Str), .fz (r2 : Option (Str × Int))] := St.setF (v := u3) (x := (r2 : Option (Str × Int))) h.pop 1 (h.fz 0 rfl rfl)
  refine S_if ?_
  refine T_test ?_
  refine S_op ?_
  refine S_var 0 h rfl rfl fun v4 h => ?_
  refine S_c ?_
  refine S_notN (h.fz 0 rfl rfl) ?_
  have h := h.pop
  refine T_bl ?_
  refine S_ite hm (fun hc hm => ?_) (fun hc hm => ?_)
  · skip
    exact dead0 hm
  refine S_next ?_
  have hz := h
  cases hm
  exact qN _ _ _ (hz.finN aft0)
theorem fn_look_at_words {P : Program} {w : World} {K : Fg} {mg : Str → Option Value} {base : Heap} (bz : Blt mg) (kf : KF K) (cz : Cst mg) {f : Addr} {fd : FuncData} (F0 : Fun K "look_at_words" "look_at_words" s_look_at_words f fd) (C_word_fault : Cal P w K mg base 2 "word_fault" ["words"] R_word_fault) : FnOk P w K mg base CX0 3 f fd ["words"] (Prom K R_look_at_words) :=
  F0.ok sc_look_at_words (prom_len 1 fun A s A' h => by cases h; rfl) fun cdv A outer s H vs Q E hr h => ⟨t_look_at_words K, pss_cons (ps_set (i := 1) sc_look_at_words.nd rfl (.inl rfl) (C_word_fault.pe (hr.mono (by decide)) (by rfl) (pa_cons (pv 0) (pa_nil)))) (pss_one (ps_if (pt_cmpR (r := rNotNG) op_notNG (pv 1) (pe_non) (by with_unfolding_all rfl)) (pss_dead) pss_nil)), sem_look_at_words kf h (fun _ _ z => z) fun _ _ z => z⟩
theorem ok_look_at_words {P : Program} {w : World} {K : Fg} {mg : Str → Option Value} {base : Heap} (bz : Blt mg) (kf : KF K) (cz : Cst mg) {f : Addr} {fd : FuncData} (F0 : Fun K "look_at_words" "look_at_words" s_look_at_words f fd) (g0 : mg "look_at_words" = some (.ref f)) (b0 : Binds K fd ["words"] []) (C_word_fault : Cal P w K mg base 2 "word_fault" ["words"] R_word_fault) : Cal P w K mg base 3 "look_at_words" ["words"] R_look_at_words :=
  Cal.mk' (fn_look_at_words bz kf cz F0 C_word_fault) g0 F0.kp b0

def m_Table___init___c0  (x41 : List Int) : Option (List Int) :=  some x41
def m_Table___init__ (p_self : PI A_Table [] (Unit)) (p_keys : List Str) (p_states : List Str) (p_lamps : List Str) (p_rows : List (List Int)) (p_lights : List (Tup Int)) : Option (Unit × C_Table) := (catL p_keys p_states).bind fun x3 => (catL x3 p_lamps).bind fun x6 => (m_look_at_words x6).bind fun r8 => (m_first_crowd p_keys p_states p_lamps).bind fun r12 => (m_look (Str.ofString "many") r12).bind fun r14 => (shlO (1 : Int) (List.length p_keys : Int)).bind fun x18 => (m_first_misfit__r (List.length p_states : Int) p_rows x18 (List.length p_states : Int)).bind fun r20 => (m_look (Str.ofString "row") r20).bind fun r22 => (m_first_misfit__l (List.length p_states : Int) p_lights (List.length p_lamps : Int) (2 : Int)).bind fun r26 => (m_look (Str.ofString "lights") r26).bind fun r28 => (m_first_unsettled p_rows).bind fun r30 => (m_look (Str.ofString "unsettled") r30).bind fun r32 => (mapO m_Table___init___c0 p_rows).bind fun ys49 => some ((), (PI.mk (p_lights, (PI.mk (ys49, (PI.mk (p_lamps, (PI.mk (p_states, (PI.mk (p_keys, p_self.x) : PI A_Table ["all_keys"] ((List Str) × Unit)).x) : PI A_Table ["all_states", "all_keys"] ((List Str) × (List Str) × Unit)).x) : PI A_Table ["all_lamps", "all_states", "all_keys"] ((List Str) × (List Str) × (List Str) × Unit)).x) : PI A_Table ["goals", "all_lamps", "all_states", "all_keys"] ((List (List Int)) × (List Str) × (List Str) × (List Str) × Unit)).x) : PI A_Table ["shining", "goals", "all_lamps", "all_states", "all_keys"] ((List (Tup Int)) × (List (List Int)) × (List Str) × (List Str) × (List Str) × Unit)))
inductive R_Table___init__ : List Slot → RSlot → List Slot → Prop
  | mk (p_self : PI A_Table [] (Unit)) (p_keys : List Str) (p_states : List Str) (p_lamps : List Str) (p_rows : List (List Int)) (p_lights : List (Tup Int)) {A_self : Addr} {r : Unit × C_Table} : m_Table___init__ p_self p_keys p_states p_lamps p_rows p_lights = some r → R_Table___init__ [.own A_self p_self, .fz p_keys, .fz p_states, .fz p_lamps, .fz p_rows, .fz p_lights] (.fz r.1) [.own A_self r.2, .any, .any, .any, .any, .any]
def t_Table___init__ (K : Fg) : TS := tSeq (tDrop (tCall (Prom K R_look_at_words) [] E0 (tCons (tOp rCat (tOp rCat (tVar 1) (tVar 2)) (tVar 3)) (tNil)))) (tSeq (tDrop (tCall (Prom K R_look) [] E0 (tCons (tC (.str (Str.ofString "many"))) (tCons (tCall (Prom K R_first_crowd) [] E0 (tCons (tVar 1) (tCons (tVar 2) (tCons (tVar 3) (tNil))))) (tNil))))) (tSeq (tDrop (tCall (Prom K R_look) [] E0 (tCons (tC (.str (Str.ofString "row"))) (tCons (tCall (Prom K R_first_misfit__r) [] E0 (tCons (tCB (rLenG K) (tCons (tVar 2) (tNil))) (tCons (tVar 4) (tCons (tOp (rI CPow (fun i j => .int (i * 2 ^ j.toNat))) (tC (.int 1)) (tCB (rLenG K) (tCons (tVar 1) (tNil)))) (tCons (tCB (rLenG K) (tCons (tVar 2) (tNil))) (tNil)))))) (tNil))))) (tSeq (tDrop (tCall (Prom K R_look) [] E0 (tCons (tC (.str (Str.ofString "lights"))) (tCons (tCall (Prom K R_first_misfit__l) [] E0 (tCons (tCB (rLenG K) (tCons (tVar 2) (tNil))) (tCons (tVar 5) (tCons (tCB (rLenG K) (tCons (tVar 3) (tNil))) (tCons (tC (.int 2)) (tNil)))))) (tNil))))) (tSeq (tDrop (tCall (Prom K R_look) [] E0 (tCons (tC (.str (Str.ofString "unsettled"))) (tCons (tCall (Prom K R_first_unsettled) [] E0 (tCons (tVar 4) (tNil))) (tNil))))) (tSeq (sFld K (tVar 0) (tCB (rListG K) (tCons (tVar 1) (tNil))) "all_keys") (tSeq (sFld K (tVar 0) (tCB (rListG K) (tCons (tVar 2) (tNil))) "all_states") (tSeq (sFld K (tVar 0) (tCB (rListG K) (tCons (tVar 3) (tNil))) "all_lamps") (tSeq (sFld K (tVar 0) (tLc (iList K (tVar 4)) (gName 6) (tYes) (tCB (rListG K) (tCons (tVar 6) (tNil))) [6]) "goals") (sFld K (tVar 0) (tCB (rListG K) (tCons (tVar 5) (tNil))) "shining")))))))))
theorem sc_Table___init__ : FnScope ["self", "keys", "states", "lamps", "rows", "lights", "row"] ["self", "keys", "states", "lamps", "rows", "lights"] (defScope s_Table___init__) := ⟨rfl, rfl, rfl, by decide +kernel, rfl, by decide +kernel, by decide +kernel⟩
theorem sem_Table___init__ {K : Fg} (kf : KF K) {vs : List V} {H : Hp} {Q : VK} {E : XK} (h : Prom K R_Table___init__ vs H Q E) {D : Ends} (hD : ∀ u H, Q u H → D.rt u H) (hN : ∀ σ H, Q .non H → D.nx σ H) : t_Table___init__ K D (start ["self", "keys", "states", "lamps", "rows", "lights", "row"] vs) H := by
  obtain ⟨F, A, rs, A', hR, fh, hS, nd, q⟩ := h
  cases hR with | @mk p_self p_keys p_states p_lamps p_rows p_lights A_self r hm => ?_
  have hl := slots_len hS
  obtain ⟨va0, va1, va2, va3, va4, va5, rfl⟩ := len6 (vs := vs) (by simpa using hl.symm)
  have h : St K ⟨F, H, [A_self]⟩ F H [some va0, some va1, some va2, some va3, some va4, some va5, none] [.own A_self p_self, .fz (p_keys : List Str), .fz (p_states : List Str), .fz (p_lamps : List Str), .fz (p_rows : List (List Int)), .fz (p_lights : List (Tup Int)), .any] := St.start fh hS nd [none]
  generalize hB : (⟨F, H, [A_self]⟩ : Base) = B0 at h
  have q0 := q
  have q : ∀ u F' H', Fin K B0 (.fz r.1) [.own A_self r.2, .any, .any, .any, .any, .any] u F' H' → D.rt u H' := by subst hB; exact fun u F' H' z => hD _ _ (q u F' H' z)
  have qN : ∀ σ F' H', Fin K B0 (.fz r.1) [.own A_self r.2, .any, .any, .any, .any, .any] .non F' H' → D.nx σ H' := by subst hB; exact fun σ F' H' z => hN _ _ (q0 _ F' H' z)
  clear hB q0 hD hN
  rw [show start ["self", "keys", "states", "lamps", "rows", "lights", "row"] [va0, va1, va2, va3, va4, va5] = [some va0, some va1, some va2, some va3, some va4, some va5, none] from rfl]
  unfold t_Table___init__
  unfold m_Table___init__ at hm
  refine Q_drop ?_
  refine S_tcall ?_
  refine S_cons ?_
  refine S_op ?_
  refine S_op ?_
  refine S_var 0 h rfl rfl fun v1 h => ?_
  refine S_var 1 h rfl rfl fun v2 h => ?_
  obtain ⟨x3, hx3, hm⟩ := ob hm
  refine S_catLO h.pop.pop (h.vF 1 rfl rfl) (h.vF 0 rfl rfl) hx3 fun p4 F H hBp4 h => ?_
  refine S_var 1 h rfl rfl fun v5 h => ?_
  obtain ⟨x6, hx6, hm⟩ := ob hm
  refine S_catLO h.pop.pop (h.vO 1 rfl) (h.vF 0 rfl rfl) hx6 fun p7 F H hBp7 h => ?_
  refine S_frz h hBp7 _ fun F h => ?_
  refine S_nil ?_
  obtain ⟨r8, hr8, hm⟩ := ob hm
  refine S_callN (A := [.fz (x6 : List Str)]) h.pop (slots_cons (ok_fz (h.fz 0 rfl rfl)) slots_nil) (R_look_at_words.mk _ hr8) rfl fun F H h => ?_
  refine Q_drop ?_
  refine S_tcall ?_
  refine S_cons ?_
  refine S_c ?_
  refine S_cons ?_
  refine S_tcall ?_
  refine S_cons ?_
  refine S_var 0 h rfl rfl fun v9 h => ?_
  refine S_cons ?_
  refine S_var 1 h rfl rfl fun v10 h => ?_
  refine S_cons ?_
  refine S_var 2 h rfl rfl fun v11 h => ?_
  refine S_nil ?_
  obtain ⟨r12, hr12, hm⟩ := ob hm
  refine S_callF (A := [.fz (p_keys : List Str), .fz (p_states : List Str), .fz (p_lamps : List Str)]) h.pop.pop.pop (slots_cons (ok_fz (h.fz 2 rfl rfl)) (slots_cons (ok_fz (h.fz 1 rfl rfl)) (slots_cons (ok_fz (h.fz 0 rfl rfl)) slots_nil))) (R_first_crowd.mk _ _ _ hr12) rfl fun u13 F H h => ?_
  refine S_nil ?_
  obtain ⟨r14, hr14, hm⟩ := ob hm
  refine S_callN (A := [.fz ((Str.ofString "many") : Str), .fz (r12 : Option Int)]) h.pop (slots_cons (ok_fz rfl) (slots_cons (ok_fz (h.fz 0 rfl rfl)) slots_nil)) (R_look.mk _ _ hr14) rfl fun F H h => ?_
  refine Q_drop ?_
  refine S_tcall ?_
  refine S_cons ?_
  refine S_c ?_
  refine S_cons ?_
  refine S_tcall ?_
  refine S_cons ?_
  refine S_cb ?_
  refine S_cons ?_
  refine S_var 0 h rfl rfl fun v15 h => ?_
  refine S_nil ?_
  refine S_lenL (h.vF 0 rfl rfl) ?_
  have h := h.pop
  refine S_cons ?_
  refine S_var 0 h rfl rfl fun v16 h => ?_
  refine S_cons ?_
  refine S_op ?_
  refine S_c ?_
  refine S_cb ?_
  refine S_cons ?_
  refine S_var 1 h rfl rfl fun v17 h => ?_
  refine S_nil ?_
  refine S_lenL (h.vF 0 rfl rfl) ?_
  have h := h.pop
  obtain ⟨x18, hx18, hm⟩ := ob hm
  refine S_shl hx18 ?_
  refine S_cons ?_
  refine S_cb ?_
  refine S_cons ?_
  refine S_var 1 h rfl rfl fun v19 h => ?_
  refine S_nil ?_
  refine S_lenL (h.vF 0 rfl rfl) ?_
  have h := h.pop
  refine S_nil ?_
  obtain ⟨r20, hr20, hm⟩ := ob hm
  refine S_callF (A := [.fz ((List.length p_states : Int) : Int), .fz (p_rows : List (List Int)), .fz (x18 : Int), .fz ((List.length p_states : Int) : Int)]) h.pop (slots_cons (ok_fz rfl) (slots_cons (ok_fz (h.fz 0 rfl rfl)) (slots_cons (ok_fz rfl) (slots_cons (ok_fz rfl) slots_nil)))) (R_first_misfit__r.mk _ _ _ _ hr20) rfl fun u21 F H h => ?_
  refine S_nil ?_
  obtain ⟨r22, hr22, hm⟩ := ob hm
  refine S_callN (A := [.fz ((Str.ofString "row") : Str), .fz (r20 : Option Int)]) h.pop (slots_cons (ok_fz rfl) (slots_cons (ok_fz (h.fz 0 rfl rfl)) slots_nil)) (R_look.mk _ _ hr22) rfl fun F H h => ?_
  refine Q_drop ?_
  refine S_tcall ?_
  refine S_cons ?_
  refine S_c ?_
  refine S_cons ?_
  refine S_tcall ?_
  refine S_cons ?_
  refine S_cb ?_
  refine S_cons ?_
  refine S_var 0 h rfl rfl fun v23 h => ?_
  refine S_nil ?_
  refine S_lenL (h.vF 0 rfl rfl) ?_
  have h := h.pop
  refine S_cons ?_
  refine S_var 0 h rfl rfl fun v24 h => ?_
  refine S_cons ?_
  refine S_cb ?_
  refine S_cons ?_
  refine S_var 1 h rfl rfl fun v25 h => ?_
  refine S_nil ?_
  refine S_lenL (h.vF 0 rfl rfl) ?_
  have h := h.pop
  refine S_cons ?_
  refine S_c ?_
  refine S_nil ?_
  obtain ⟨r26, hr26, hm⟩ := ob hm
  refine S_callF (A := [.fz ((List.length p_states : Int) : Int), .fz (p_lights : List (Tup Int)), .fz ((List.length p_lamps : Int) : Int), .fz ((2 : Int) : Int)]) h.pop (slots_cons (ok_fz rfl) (slots_cons (ok_fz (h.fz 0 rfl rfl)) (slots_cons (ok_fz rfl) (slots_cons (ok_fz rfl) slots_nil)))) (R_first_misfit__l.mk _ _ _ _ hr26) rfl fun u27 F H h => ?_
  refine S_nil ?_
  obtain ⟨r28, hr28, hm⟩ := ob hm
  refine S_callN (A := [.fz ((Str.ofString "lights") : Str), .fz (r26 : Option Int)]) h.pop (slots_cons (ok_fz rfl) (slots_cons (ok_fz (h.fz 0 rfl rfl)) slots_nil)) (R_look.mk _ _ hr28) rfl fun F H h => ?_
  refine Q_drop ?_
  refine S_tcall ?_
  refine S_cons ?_
  refine S_c ?_
  refine S_cons ?_
  refine S_tcall ?_
  refine S_cons ?_
  refine S_var 0 h rfl rfl fun v29 h => ?_
  refine S_nil ?_
  obtain ⟨r30, hr30, hm⟩ := ob hm
  refine S_callF (A := [.fz (p_rows : List (List Int))]) h.pop (slots_cons (ok_fz (h.fz 0 rfl rfl)) slots_nil) (R_first_unsettled.mk _ hr30) rfl fun u31 F H h => ?_
  refine S_nil ?_
  obtain ⟨r32, hr32, hm⟩ := ob hm
  refine S_callN (A := [.fz ((Str.ofString "unsettled") : Str), .fz (r30 : Option Int)]) h.pop (slots_cons (ok_fz rfl) (slots_cons (ok_fz (h.fz 0 rfl rfl)) slots_nil)) (R_look.mk _ _ hr32) rfl fun F H h => ?_
  refine Q_sfl ?_
  refine S_cb ?_
  refine S_cons ?_
  refine S_var 0 h rfl rfl fun v33 h => ?_
  refine S_nil ?_
  refine S_listL h.pop (h.vF 0 rfl rfl) fun p34 F H hBp34 h => ?_
  refine S_frz h hBp34 _ fun F h => ?_
  refine S_varO 1 h rfl rfl ?_
  refine S_sfE (z := (p_keys : List Str)) 1 h (by rfl) (h.fz 0 rfl rfl) kf.cl_Table kf.n_Table_all_keys (by decide +kernel) (by decide) fun H h => ?_
  have h : St K B0 F H (some (V.ref p34) :: [some va0, some va1, some va2, some va3, some va4, some va5, none]) [.fz (p_keys : List Str), .own A_self (PI.mk (p_keys, p_self.x) : PI A_Table ["all_keys"] ((List Str) × Unit)), .fz (p_keys : List Str), .fz (p_states : List Str), .fz (p_lamps : List Str), .fz (p_rows : List (List Int)), .fz (p_lights : List (Tup Int)), .any] := h
  have h := h.pop
  refine Q_sfl ?_
  refine S_cb ?_
  refine S_cons ?_
  refine S_var 0 h rfl rfl fun v35 h => ?_
  refine S_nil ?_
  refine S_listL h.pop (h.vF 0 rfl rfl) fun p36 F H hBp36 h => ?_
  refine S_frz h hBp36 _ fun F h => ?_
  refine S_varO 1 h rfl rfl ?_
  refine S_sfE (z := (p_states : List Str)) 1 h (by rfl) (h.fz 0 rfl rfl) kf.cl_Table kf.n_Table_all_states (by decide +kernel) (by decide) fun H h => ?_
  have h : St K B0 F H (some (V.ref p36) :: [some va0, some va1, some va2, some va3, some va4, some va5, none]) [.fz (p_states : List Str), .own A_self (PI.mk (p_states, (PI.mk (p_keys, p_self.x) : PI A_Table ["all_keys"] ((List Str) × Unit)).x) : PI A_Table ["all_states", "all_keys"] ((List Str) × (List Str) × Unit)), .fz (p_keys : List Str), .fz (p_states : List Str), .fz (p_lamps : List Str), .fz (p_rows : List (List Int)), .fz (p_lights : List (Tup Int)), .any] := h
  have h := h.pop
  refine Q_sfl ?_
  refine S_cb ?_
  refine S_cons ?_
  refine S_var 0 h rfl rfl fun v37 h => ?_
  refine S_nil ?_
  refine S_listL h.pop (h.vF 0 rfl rfl) fun p38 F H hBp38 h => ?_
  refine S_frz h hBp38 _ fun F h => ?_
  refine S_varO 1 h rfl rfl ?_
  refine S_sfE (z := (p_lamps : List Str)) 1 h (by rfl) (h.fz 0 rfl rfl) kf.cl_Table kf.n_Table_all_lamps (by decide +kernel) (by decide) fun H h => ?_
  have h : St K B0 F H (some (V.ref p38) :: [some va0, some va1, some va2, some va3, some va4, some va5, none]) [.fz (p_lamps : List Str), .own A_self (PI.mk (p_lamps, (PI.mk (p_states, (PI.mk (p_keys, p_self.x) : PI A_Table ["all_keys"] ((List Str) × Unit)).x) : PI A_Table ["all_states", "all_keys"] ((List Str) × (List Str) × Unit)).x) : PI A_Table ["all_lamps", "all_states", "all_keys"] ((List Str) × (List Str) × (List Str) × Unit)), .fz (p_keys : List Str), .fz (p_states : List Str), .fz (p_lamps : List Str), .fz (p_rows : List (List Int)), .fz (p_lights : List (Tup Int)), .any] := h
  have h := h.pop
  refine Q_sfl ?_
  refine S_lc ?_
  refine S_iL ?_
  refine S_var 0 h rfl rfl fun v39 h => ?_
  refine S_itL (h.vF 0 rfl rfl) fun a40 e1 => ?_
  subst e1
  obtain ⟨ys49, hys49, hm⟩ := ob hm
  refine S_mapO (ts := [some (V.ref a40)]) (TM := [.fz (p_rows : List (List Int))]) (M := [.own A_self (PI.mk (p_lamps, (PI.mk (p_states, (PI.mk (p_keys, p_self.x) : PI A_Table ["all_keys"] ((List Str) × Unit)).x) : PI A_Table ["all_states", "all_keys"] ((List Str) × (List Str) × Unit)).x) : PI A_Table ["all_lamps", "all_states", "all_keys"] ((List Str) × (List Str) × (List Str) × Unit)), .fz (p_keys : List Str), .fz (p_states : List Str), .fz (p_lamps : List Str), .fz (p_rows : List (List Int)), .fz (p_lights : List (Tup Int)), .any]) (yields_list a40 p_rows) hys49 h rfl ⟨rfl, trivial⟩ (view_len (h.vF 0 rfl rfl)) (fun w F H h => (h.vF 0 rfl rfl)) (fun x41 z v42 D43 a44 F H G N hf h hG => ?_) (fun D50 F H hBD50 h => ?_)
  · have hm := hf
    unfold m_Table___init___c0 at hm
    have h : St K B0 F H (some v42 :: some (V.ref D43) :: some (V.ref a40) :: wipe [some va0, some va1, some va2, some va3, some va4, some va5, none] [6]) [.fz (x41 : List Int), .own D43 a44, .fz (p_rows : List (List Int)), .own A_self (PI.mk (p_lamps, (PI.mk (p_states, (PI.mk (p_keys, p_self.x) : PI A_Table ["all_keys"] ((List Str) × Unit)).x) : PI A_Table ["all_states", "all_keys"] ((List Str) × (List Str) × Unit)).x) : PI A_Table ["all_lamps", "all_states", "all_keys"] ((List Str) × (List Str) × (List Str) × Unit)), .fz (p_keys : List Str), .fz (p_states : List Str), .fz (p_lamps : List Str), .fz (p_rows : List (List Int)), .fz (p_lights : List (Tup Int)), .any] := h
    refine S_gName ?_
    have h : St K B0 F H (some (V.ref D43) :: some (V.ref a40) :: List.set (wipe [some va0, some va1, some va2, some va3, some va4, some va5, none] [6]) 6 (some v42)) [.own D43 a44, .fz (p_rows : List (List Int)), .own A_self (PI.mk (p_lamps, (PI.mk (p_states, (PI.mk (p_keys, p_self.x) : PI A_Table ["all_keys"] ((List Str) × Unit)).x) : PI A_Table ["all_states", "all_keys"] ((List Str) × (List Str) × Unit)).x) : PI A_Table ["all_lamps", "all_states", "all_keys"] ((List Str) × (List Str) × (List Str) × Unit)), .fz (p_keys : List Str), .fz (p_states : List Str), .fz (p_lamps : List Str), .fz (p_rows : List (List Int)), .fz (p_lights : List (Tup Int)), .fz (x41 : List Int)] := St.setF (v := v42) (x := (x41 : List Int)) h.pop 8 (h.fz 0 rfl rfl)
    refine ⟨(wipe_set (by decide)).trans wipe_idem, ?_⟩
    refine if1 ?_
    refine S_cb ?_
    refine S_cons ?_
    refine S_var 2 h rfl rfl fun v47 h => ?_
    refine S_nil ?_
    refine S_listL h.pop (h.vF 0 rfl rfl) fun p48 F H hBp48 h => ?_
    refine S_frz h hBp48 _ fun F h => ?_
    have hz := h
    cases hm
    exact hG _ _ _ (St.unset (ts := [some (V.ref D43), some (V.ref a40)]) (TM := [.own D43 a44, .fz (p_rows : List (List Int))]) (M := [.own A_self (PI.mk (p_lamps, (PI.mk (p_states, (PI.mk (p_keys, p_self.x) : PI A_Table ["all_keys"] ((List Str) × Unit)).x) : PI A_Table ["all_states", "all_keys"] ((List Str) × (List Str) × Unit)).x) : PI A_Table ["all_lamps", "all_states", "all_keys"] ((List Str) × (List Str) × (List Str) × Unit)), .fz (p_keys : List Str), .fz (p_states : List Str), .fz (p_lamps : List Str), .fz (p_rows : List (List Int)), .fz (p_lights : List (Tup Int)), .any]) (hz.pop.weak ⟨.inr rfl, .inr rfl, .inr rfl, .inr rfl, .inr rfl, .inr rfl, .inr rfl, .inr rfl, .inl rfl, trivial⟩) rfl rfl) (hz.fz 0 rfl rfl)
  have h : St K B0 F H (some (V.ref D50) :: some (V.ref a40) :: [some va0, some va1, some va2, some va3, some va4, some va5, none]) [.own D50 ys49, .fz (p_rows : List (List Int)), .own A_self (PI.mk (p_lamps, (PI.mk (p_states, (PI.mk (p_keys, p_self.x) : PI A_Table ["all_keys"] ((List Str) × Unit)).x) : PI A_Table ["all_states", "all_keys"] ((List Str) × (List Str) × Unit)).x) : PI A_Table ["all_lamps", "all_states", "all_keys"] ((List Str) × (List Str) × (List Str) × Unit)), .fz (p_keys : List Str), .fz (p_states : List Str), .fz (p_lamps : List Str), .fz (p_rows : List (List Int)), .fz (p_lights : List (Tup Int)), .any] := h
  have h := h.nip
  refine S_frz h hBD50 _ fun F h => ?_
  refine S_varO 1 h rfl rfl ?_
  refine S_sfE (z := (ys49 : List (List Int))) 1 h (by rfl) (h.fz 0 rfl rfl) kf.cl_Table kf.n_Table_goals (by decide +kernel) (by decide) fun H h => ?_
  have h : St K B0 F H (some (V.ref D50) :: [some va0, some va1, some va2, some va3, some va4, some va5, none]) [.fz (ys49 : List (List Int)), .own A_self (PI.mk (ys49, (PI.mk (p_lamps, (PI.mk (p_states, (PI.mk (p_keys, p_self.x) : PI A_Table ["all_keys"] ((List Str) × Unit)).x) : PI A_Table ["all_states", "all_keys"] ((List Str) × (List Str) × Unit)).x) : PI A_Table ["all_lamps", "all_states", "all_keys"] ((List Str) × (List Str) × (List Str) × Unit)).x) : PI A_Table ["goals", "all_lamps", "all_states", "all_keys"] ((List (List Int)) × (List Str) × (List Str) × (List Str) × Unit)), .fz (p_keys : List Str), .fz (p_states : List Str), .fz (p_lamps : List Str), .fz (p_rows : List (List Int)), .fz (p_lights : List (Tup Int)), .any] := h
  have h := h.pop
  refine S_sfl ?_
  refine S_cb ?_
  refine S_cons ?_
  refine S_var 0 h rfl rfl fun v51 h => ?_
  refine S_nil ?_
  refine S_listL h.pop (h.vF 0 rfl rfl) fun p52 F H hBp52 h => ?_
  refine S_frz h hBp52 _ fun F h => ?_
  refine S_varO 1 h rfl rfl ?_
  refine S_sfE (z := (p_lights : List (Tup Int))) 1 h (by rfl) (h.fz 0 rfl rfl) kf.cl_Table kf.n_Table_shining (by decide +kernel) (by decide) fun H h => ?_
  have h : St K B0 F H (some (V.ref p52) :: [some va0, some va1, some va2, some va3, some va4, some va5, none]) [.fz (p_lights : List (Tup Int)), .own A_self (PI.mk (p_lights, (PI.mk (ys49, (PI.mk (p_lamps, (PI.mk (p_states, (PI.mk (p_keys, p_self.x) : PI A_Table ["all_keys"] ((List Str) × Unit)).x) : PI A_Table ["all_states", "all_keys"] ((List Str) × (List Str) × Unit)).x) : PI A_Table ["all_lamps", "all_states", "all_keys"] ((List Str) × (List Str) × (List Str) × Unit)).x) : PI A_Table ["goals", "all_lamps", "all_states", "all_keys"] ((List (List Int)) × (List Str) × (List Str) × (List Str) × Unit)).x) : PI A_Table ["shining", "goals", "all_lamps", "all_states", "all_keys"] ((List (Tup Int)) × (List (List Int)) × (List Str) × (List Str) × (List Str) × Unit)), .fz (p_keys : List Str), .fz (p_states : List Str), .fz (p_lamps : List Str), .fz (p_rows : List (List Int)), .fz (p_lights : List (Tup Int)), .any] := h
  have h := h.pop
  have hz := h
  cases hm
  exact qN _ _ _ (hz.finN (AftM.own hz.ok 0 rfl rfl (AftM.skip (AftM.skip (AftM.skip (AftM.skip (AftM.skip AftM.nil)))))))
theorem fn_Table___init__ {P : Program} {w : World} {K : Fg} {mg : Str → Option Value} {base : Heap} (bz : Blt mg) (kf : KF K) (cz : Cst mg) {f : Addr} {fd : FuncData} (F0 : Fun K "__init__" "Table.__init__" s_Table___init__ f fd) (C_first_crowd : Cal P w K mg base 1 "first_crowd" ["keys", "states", "lamps"] R_first_crowd) (C_first_misfit__l : Cal P w K mg base 1 "first_misfit" ["many", "told", "long", "bound"] R_first_misfit__l) (C_first_misfit__r : Cal P w K mg base 1 "first_misfit" ["many", "told", "long", "bound"] R_first_misfit__r) (C_first_unsettled : Cal P w K mg base 1 "first_unsettled" ["rows"] R_first_unsettled) (C_look : Cal P w K mg base 1 "look" ["word", "number"] R_look) (C_look_at_words : Cal P w K mg base 3 "look_at_words" ["words"] R_look_at_words) : FnOk P w K mg base CX0 4 f fd ["self", "keys", "states", "lamps", "rows", "lights"] (Prom K R_Table___init__) :=
  F0.ok sc_Table___init__ (prom_len 6 fun A s A' h => by cases h; rfl) fun cdv A outer s H vs Q E hr h => ⟨t_Table___init__ K, pss_cons (ps_expr (C_look_at_words.pe (hr.mono (by decide)) (by rfl) (pa_cons (pe_op op_cat (pe_op op_cat (pv 1) (pv 2)) (pv 3)) (pa_nil)))) (pss_cons (ps_expr (C_look.pe (hr.mono (by decide)) (by rfl) (pa_cons (pe_str) (pa_cons (C_first_crowd.pe (hr.mono (by decide)) (by rfl) (pa_cons (pv 1) (pa_cons (pv 2) (pa_cons (pv 3) (pa_nil))))) (pa_nil))))) (pss_cons (ps_expr (C_look.pe (hr.mono (by decide)) (by rfl) (pa_cons (pe_str) (pa_cons (C_first_misfit__r.pe (hr.mono (by decide)) (by rfl) (pa_cons (pe_callB (r := rLenG K) cr_lenG (by rfl) bz.len (by decide +kernel) (pa_cons (pv 2) (pa_nil))) (pa_cons (pv 4) (pa_cons (pe_op op_shl (pe_int) (pe_callB (r := rLenG K) cr_lenG (by rfl) bz.len (by decide +kernel) (pa_cons (pv 1) (pa_nil)))) (pa_cons (pe_callB (r := rLenG K) cr_lenG (by rfl) bz.len (by decide +kernel) (pa_cons (pv 2) (pa_nil))) (pa_nil)))))) (pa_nil))))) (pss_cons (ps_expr (C_look.pe (hr.mono (by decide)) (by rfl) (pa_cons (pe_str) (pa_cons (C_first_misfit__l.pe (hr.mono (by decide)) (by rfl) (pa_cons (pe_callB (r := rLenG K) cr_lenG (by rfl) bz.len (by decide +kernel) (pa_cons (pv 2) (pa_nil))) (pa_cons (pv 5) (pa_cons (pe_callB (r := rLenG K) cr_lenG (by rfl) bz.len (by decide +kernel) (pa_cons (pv 3) (pa_nil))) (pa_cons (pe_int) (pa_nil)))))) (pa_nil))))) (pss_cons (ps_expr (C_look.pe (hr.mono (by decide)) (by rfl) (pa_cons (pe_str) (pa_cons (C_first_unsettled.pe (hr.mono (by decide)) (by rfl) (pa_cons (pv 4) (pa_nil))) (pa_nil))))) (pss_cons (ps_fld (pv 0) (pe_callTy (r := rListG K) cr_listG (by rfl) bz.list_ (by decide +kernel) (pa_cons (pv 1) (pa_nil))) rfl) (pss_cons (ps_fld (pv 0) (pe_callTy (r := rListG K) cr_listG (by rfl) bz.list_ (by decide +kernel) (pa_cons (pv 2) (pa_nil))) rfl) (pss_cons (ps_fld (pv 0) (pe_callTy (r := rListG K) cr_listG (by rfl) bz.list_ (by decide +kernel) (pa_cons (pv 3) (pa_nil))) rfl) (pss_cons (ps_fld (pv 0) (pe_lc (own := [("row", 6)]) (g := gName 6) (tt := tYes) (te := tCB (rListG K) (tCons (tVar 6) (tNil))) (wi := iList K (tVar 4)) rfl sc_Table___init__.nd (pi_list (pv 4)) (blkOk_by (N := ["self", "keys", "states", "lamps", "rows", "lights", "row"]) (sc := defScope s_Table___init__) (by decide +kernel)) (fun _ _ _ _ _ => pg_name (i := 6) sc_Table___init__.nd rfl (by first | exact .inl rfl | exact .inr rfl)) (fun _ _ _ _ _ => pts_nil) (fun _ _ _ _ _ => pe_callTy (r := rListG K) cr_listG (by rfl) bz.list_ (by decide +kernel) (pa_cons (pv 6) (pa_nil)))) rfl) (pss_one (ps_fld (pv 0) (pe_callTy (r := rListG K) cr_listG (by rfl) bz.list_ (by decide +kernel) (pa_cons (pv 5) (pa_nil))) rfl)))))))))), sem_Table___init__ kf h (fun _ _ z => z) fun _ _ z => z⟩
theorem ok_Table___init__ {P : Program} {w : World} {K : Fg} {mg : Str → Option Value} {base : Heap} (bz : Blt mg) (kf : KF K) (cz : Cst mg) {f : Addr} {fd : FuncData} (F0 : Fun K "__init__" "Table.__init__" s_Table___init__ f fd) (g0 : Mk K A_Table f) (g1 : mg "Table" = some (.ref A_Table)) (b0 : Binds K fd ["self", "keys", "states", "lamps", "rows", "lights"] []) (C_first_crowd : Cal P w K mg base 1 "first_crowd" ["keys", "states", "lamps"] R_first_crowd) (C_first_misfit__l : Cal P w K mg base 1 "first_misfit" ["many", "told", "long", "bound"] R_first_misfit__l) (C_first_misfit__r : Cal P w K mg base 1 "first_misfit" ["many", "told", "long", "bound"] R_first_misfit__r) (C_first_unsettled : Cal P w K mg base 1 "first_unsettled" ["rows"] R_first_unsettled) (C_look : Cal P w K mg base 1 "look" ["word", "number"] R_look) (C_look_at_words : Cal P w K mg base 3 "look_at_words" ["words"] R_look_at_words) : CalI P w K mg base 4 "Table" A_Table ["self", "keys", "states", "lamps", "rows", "lights"] R_Table___init__ :=
  ⟨f, fd, (fn_Table___init__ bz kf cz F0 C_first_crowd C_first_misfit__l C_first_misfit__r C_first_unsettled C_look C_look_at_words), g0, g1, b0⟩

def m__law_pot (p_script : Scr) (p_k : Int) : Option (List Int) := (mulO (7 : Int) p_k).bind fun x1 => (some (x1 + (5 : Int))).bind fun cell2 => (( if (decide (p_k < (List.length p_script.l : Int))) = true then (atI p_script.l p_k).bind fun x7 => some (x7) else some (cell2) : Option Int)).bind fun j4 => (modO (pyAbs j4) (2147483587 : Int)).bind fun x8 => (mulO (101 : Int) p_k).bind fun x9 => some ([(pyMax (0 : Int) ((pyAbs j4) - (1000000000000000000 : Int))), ((x8 + x9) + (3 : Int))] : List Int)
inductive R__law_pot : List Slot → RSlot → List Slot → Prop
  | mk (p_script : Scr) (p_k : Int)  {r : List Int} : m__law_pot p_script p_k = some r → R__law_pot [.fz p_script, .fz p_k] (.fr r) [.any, .any]
def t__law_pot (K : Fg) : TS := tSeq (tAsg (tOp (rI0 fun i j => .int (i + j)) (tOp (rI CMul (fun i j => .int (i * j))) (tC (.int 7)) (tVar 1)) (tC (.int 5))) (gName 2)) (tSeq (tIfS (tTest (tOp (rI0 fun i j => .bl (decide (i < j))) (tVar 1) (tCB (rLenG K) (tCons (tVar 0) (tNil))))) (tAsg (tOp (rIxL K) (tVar 0) (tVar 1)) (gName 2)) (tNext)) (tRet (tLst (tCons (tCB rMaxG (tCons (tC (.int 0)) (tCons (tOp (rI0 fun i j => .int (i - j)) (tCB rAbsG (tCons (tVar 2) (tNil))) (tOp (rI CPow (fun i j => .int (i ^ j.toNat))) (tC (.int 10)) (tC (.int 18)))) (tNil)))) (tCons (tOp (rI0 fun i j => .int (i + j)) (tOp (rI0 fun i j => .int (i + j)) (tOp (rI (fun _ j => 0 < j) (fun i j => .int (i % j))) (tCB rAbsG (tCons (tVar 2) (tNil))) (tC (.int 2147483587))) (tOp (rI CMul (fun i j => .int (i * j))) (tC (.int 101)) (tVar 1))) (tC (.int 3))) (tNil))))))
theorem sc__law_pot : FnScope ["_law_script", "_law_k", "_law_cell"] ["_law_script", "_law_k"] (defScope s__law_pot) := ⟨rfl, rfl, rfl, by decide +kernel, rfl, by decide +kernel, by decide +kernel⟩
theorem sem__law_pot {K : Fg} (kf : KF K) {vs : List V} {H : Hp} {Q : VK} {E : XK} (h : Prom K R__law_pot vs H Q E) {D : Ends} (hD : ∀ u H, Q u H → D.rt u H) (hN : ∀ σ H, Q .non H → D.nx σ H) : t__law_pot K D (start ["_law_script", "_law_k", "_law_cell"] vs) H := by
  obtain ⟨F, A, rs, A', hR, fh, hS, nd, q⟩ := h
  cases hR with | @mk p_script p_k  r hm => ?_
  have hl := slots_len hS
  obtain ⟨va0, va1, rfl⟩ := len2 (vs := vs) (by simpa using hl.symm)
  have h : St K ⟨F, H, []⟩ F H [some va0, some va1, none] [.fz (p_script : Scr), .fz (p_k : Int), .any] := St.start fh hS nd [none]
  generalize hB : (⟨F, H, []⟩ : Base) = B0 at h
  have q0 := q
  have q : ∀ u F' H', Fin K B0 (.fr r) [.any, .any] u F' H' → D.rt u H' := by subst hB; exact fun u F' H' z => hD _ _ (q u F' H' z)
  have qN : ∀ σ F' H', Fin K B0 (.fr r) [.any, .any] .non F' H' → D.nx σ H' := by subst hB; exact fun σ F' H' z => hN _ _ (q0 _ F' H' z)
  clear hB q0 hD hN
  rw [show start ["_law_script", "_law_k", "_law_cell"] [va0, va1] = [some va0, some va1, none] from rfl]
  unfold t__law_pot
  unfold m__law_pot at hm
  refine Q_asg ?_
  refine S_op ?_
  refine S_op ?_
  refine S_c ?_
  refine S_varI 0 h rfl rfl ?_
  obtain ⟨x1, hx1, hm⟩ := ob hm
  refine S_mul hx1 ?_
  refine S_c ?_
  refine S_I0 ?_
  obtain ⟨cell2, hcell2, hm⟩ := ob hm
  have hcell2 := Option.some.inj hcell2
  rw [hcell2]
  refine S_gName ?_
  have h : St K B0 F H (List.set [some va0, some va1, none] 2 (some (V.int cell2))) [.fz (p_script : Scr), .fz (p_k : Int), .fz (cell2 : Int)] := St.setF (v := (V.int cell2)) (x := (cell2 : Int)) h 2 rfl
  obtain ⟨j4, hj4, hm⟩ := ob hm
  refine Q_cutJ (Post := fun σ H => ∃ F, St K B0 F H (σ) [.fz (p_script : Scr), .fz (p_k : Int), .fz (j4 : Int)]) (fun D hk => ?_) (fun σ H ⟨F, h⟩ => ?_)
  · have hm := hj4
    refine S_if ?_
    refine T_test ?_
    refine S_op ?_
    refine S_varI 0 h rfl rfl ?_
    refine S_cb ?_
    refine S_cons ?_
    refine S_var 0 h rfl rfl fun v3 h => ?_
    refine S_nil ?_
    refine S_lenScr h (h.fz 0 rfl rfl) ?_
    have h := h.pop
    refine S_I0 ?_
    refine T_bl ?_
    refine S_ite hm (fun hc hm => ?_) (fun hc hm => ?_)
    · skip
      refine S_asg ?_
      refine S_op ?_
      refine S_var 0 h rfl rfl fun v5 h => ?_
      refine S_varI 1 h rfl rfl ?_
      obtain ⟨x7, hx7, hm⟩ := ob hm
      refine S_ixScr h (h.fz 0 rfl rfl) hx7 ?_
      have h := h.pop
      refine S_gName ?_
      have h : St K B0 F H (List.set (List.set [some va0, some va1, none] 2 (some (V.int cell2))) 2 (some (V.int x7))) [.fz (p_script : Scr), .fz (p_k : Int), .fz (x7 : Int)] := St.setF (v := (V.int x7)) (x := (x7 : Int)) h 2 rfl
      have hz := h
      cases hm
      exact hk _ _ ⟨_, hz.weak ⟨.inr rfl, .inr rfl, .inr rfl, trivial⟩⟩
    · skip
      have hz := h
      cases hm
      exact hk _ _ ⟨_, hz.weak ⟨.inr rfl, .inr rfl, .inr rfl, trivial⟩⟩
  refine S_ret ?_
  refine S_tL ?_
  refine S_cons ?_
  refine S_cb ?_
  refine S_cons ?_
  refine S_c ?_
  refine S_cons ?_
  refine S_op ?_
  refine S_cb ?_
  refine S_cons ?_
  refine S_varI 0 h rfl rfl ?_
  refine S_nil ?_
  refine S_abs ?_
  refine S_op ?_
  refine S_c ?_
  refine S_c ?_
  refine S_I ⟨by decide, by decide, by decide⟩ ?_
  have e0 : ((10 : Int) ^ (18 : Int).toNat) = 1000000000000000000 := by decide
  rw [e0]; clear e0
  refine S_I0 ?_
  refine S_nil ?_
  refine S_max ?_
  refine S_cons ?_
  refine S_op ?_
  refine S_op ?_
  refine S_op ?_
  refine S_cb ?_
  refine S_cons ?_
  refine S_varI 0 h rfl rfl ?_
  refine S_nil ?_
  refine S_abs ?_
  refine S_c ?_
  obtain ⟨x8, hx8, hm⟩ := ob hm
  refine S_mod hx8 ?_
  refine S_op ?_
  refine S_c ?_
  refine S_varI 0 h rfl rfl ?_
  obtain ⟨x9, hx9, hm⟩ := ob hm
  refine S_mul hx9 ?_
  refine S_I0 ?_
  refine S_c ?_
  refine S_I0 ?_
  refine S_nil ?_
  refine S_lstO (xs := ([(pyMax (0 : Int) ((pyAbs j4) - (1000000000000000000 : Int))), ((x8 + x9) + (3 : Int))] : List Int)) h (.cons rfl (.cons rfl .nil)) (Nat.le_of_ble_eq_true rfl) fun p10 F H hBp10 h => ?_
  have hz := h
  cases hm
  exact q _ _ _ (hz.finFr hBp10 aft0)
theorem fn__law_pot {P : Program} {w : World} {K : Fg} {mg : Str → Option Value} {base : Heap} (bz : Blt mg) (kf : KF K) (cz : Cst mg) {f : Addr} {fd : FuncData} (F0 : Fun K "_law_pot" "_law_pot" s__law_pot f fd)  : FnOk P w K mg base CX0 1 f fd ["_law_script", "_law_k"] (Prom K R__law_pot) :=
  F0.ok sc__law_pot (prom_len 2 fun A s A' h => by cases h; rfl) fun cdv A outer s H vs Q E hr h => ⟨t__law_pot K, pss_cons (ps_set (i := 2) sc__law_pot.nd rfl (.inl rfl) (pe_op op_add (pe_op op_mul (pe_int) (pv 1)) (pe_int))) (pss_cons (ps_if (pt_cmpR (r := (rI0 fun i j => .bl (decide (i < j)))) op_lt (pv 1) (pe_callB (r := rLenG K) cr_lenG (by rfl) bz.len (by decide +kernel) (pa_cons (pv 0) (pa_nil))) (nomark _)) (pss_one (ps_set (i := 2) sc__law_pot.nd rfl (.inl rfl) (pe_ix (r := rIxL K) ix_list (pv 0) (pv 1) (fun _ _ => rfl)))) (pss_nil)) (pss_one (ps_ret (pe_lst (pa_cons (pe_callB (r := rMaxG) (cr_maxG rfl) (by rfl) bz.max_ (by decide +kernel) (pa_cons (pe_int) (pa_cons (pe_op op_sub (pe_callB (r := rAbsG) cr_absG (by rfl) bz.abs (by decide +kernel) (pa_cons (pv 2) (pa_nil))) (pe_op op_pow (pe_int) (pe_int))) (pa_nil)))) (pa_cons (pe_op op_add (pe_op op_add (pe_op op_mod (pe_callB (r := rAbsG) cr_absG (by rfl) bz.abs (by decide +kernel) (pa_cons (pv 2) (pa_nil))) (pe_int)) (pe_op op_mul (pe_int) (pv 1))) (pe_int)) (pa_nil))))))), sem__law_pot kf h (fun _ _ z => z) fun _ _ z => z⟩
theorem ok__law_pot {P : Program} {w : World} {K : Fg} {mg : Str → Option Value} {base : Heap} (bz : Blt mg) (kf : KF K) (cz : Cst mg) {f : Addr} {fd : FuncData} (F0 : Fun K "_law_pot" "_law_pot" s__law_pot f fd) (g0 : mg "_law_pot" = some (.ref f)) (b0 : Binds K fd ["_law_script", "_law_k"] [])  : Cal P w K mg base 1 "_law_pot" ["_law_script", "_law_k"] R__law_pot :=
  Cal.mk' (fn__law_pot bz kf cz F0) g0 F0.kp b0

def m__law_digit (p_pot_here : List Int) (p_many : Int) : Option (Int × (List Int)) := (atI p_pot_here (0 : Int)).bind fun x2 => if (decide ((0 : Int) < x2)) = true then (atI p_pot_here (0 : Int)).bind fun x4 => (modO x4 p_many).bind fun x5 => (atI p_pot_here (0 : Int)).bind fun x7 => (fdivO x7 p_many).bind fun x8 => (setL p_pot_here (0 : Int) x8).bind fun x9 => some (x5, x9) else (atI p_pot_here (1 : Int)).bind fun x11 => (mulO x11 (39373 : Int)).bind fun x12 => (modO (x12 + (20011 : Int)) (2147483647 : Int)).bind fun x13 => (setL p_pot_here (1 : Int) x13).bind fun x14 => (atI x14 (1 : Int)).bind fun x16 => (atI x14 (1 : Int)).bind fun x18 => (mulO x16 x18).bind fun x19 => (modO x19 (2147483563 : Int)).bind fun x20 => (fdivO x20 (11 : Int)).bind fun x21 => (modO x21 p_many).bind fun x22 => some (x22, x14)
inductive R__law_digit : List Slot → RSlot → List Slot → Prop
  | mk (p_pot_here : List Int) (p_many : Int) {A_pot_here : Addr} {r : Int × (List Int)} : m__law_digit p_pot_here p_many = some r → R__law_digit [.own A_pot_here p_pot_here, .fz p_many] (.fz r.1) [.own A_pot_here r.2, .any]
def t__law_digit (K : Fg) : TS := tSeq (tIfS (tTest (tOp (rI0 fun i j => .bl (decide (j < i))) (tOp (rIxL K) (tVar 0) (tC (.int 0))) (tC (.int 0)))) (tSeq (tAsg (tOp (rI (fun _ j => 0 < j) (fun i j => .int (i % j))) (tOp (rIxL K) (tVar 0) (tC (.int 0))) (tVar 1)) (gName 2)) (tSeq (tAsg (tOp (rI CDiv (fun i j => .int (i / j))) (tOp (rIxL K) (tVar 0) (tC (.int 0))) (tVar 1)) (gSub (tVar 0) (tC (.int 0)) rSetL)) (tRet (tVar 2)))) tNext) (tSeq (tAsg (tOp (rI (fun _ j => 0 < j) (fun i j => .int (i % j))) (tOp (rI0 fun i j => .int (i + j)) (tOp (rI CMul (fun i j => .int (i * j))) (tOp (rIxL K) (tVar 0) (tC (.int 1))) (tC (.int 39373))) (tC (.int 20011))) (tC (.int 2147483647))) (gSub (tVar 0) (tC (.int 1)) rSetL)) (tRet (tOp (rI (fun _ j => 0 < j) (fun i j => .int (i % j))) (tOp (rI CDiv (fun i j => .int (i / j))) (tOp (rI (fun _ j => 0 < j) (fun i j => .int (i % j))) (tOp (rI CMul (fun i j => .int (i * j))) (tOp (rIxL K) (tVar 0) (tC (.int 1))) (tOp (rIxL K) (tVar 0) (tC (.int 1)))) (tC (.int 2147483563))) (tC (.int 11))) (tVar 1))))
theorem sc__law_digit : FnScope ["_law_pot_here", "_law_many", "_law_digit_here"] ["_law_pot_here", "_law_many"] (defScope s__law_digit) := ⟨rfl, rfl, rfl, by decide +kernel, rfl, by decide +kernel, by decide +kernel⟩
theorem sem__law_digit {K : Fg} (kf : KF K) {vs : List V} {H : Hp} {Q : VK} {E : XK} (h : Prom K R__law_digit vs H Q E) {D : Ends} (hD : ∀ u H, Q u H → D.rt u H) (hN : ∀ σ H, Q .non H → D.nx σ H) : t__law_digit K D (start ["_law_pot_here", "_law_many", "_law_digit_here"] vs) H := by
  obtain ⟨F, A, rs, A', hR, fh, hS, nd, q⟩ := h
  cases hR with | @mk p_pot_here p_many A_pot_here r hm => ?_
  have hl := slots_len hS
  obtain ⟨va0, va1, rfl⟩ := len2 (vs := vs) (by simpa using hl.symm)
  have h : St K ⟨F, H, [A_pot_here]⟩ F H [some va0, some va1, none] [.own A_pot_here p_pot_here, .fz (p_many : Int), .any] := St.start fh hS nd [none]
  generalize hB : (⟨F, H, [A_pot_here]⟩ : Base) = B0 at h
  have q0 := q
  have q : ∀ u F' H', Fin K B0 (.fz r.1) [.own A_pot_here r.2, .any] u F' H' → D.rt u H' := by subst hB; exact fun u F' H' z => hD _ _ (q u F' H' z)
  have qN : ∀ σ F' H', Fin K B0 (.fz r.1) [.own A_pot_here r.2, .any] .non F' H' → D.nx σ H' := by subst hB; exact fun σ F' H' z => hN _ _ (q0 _ F' H' z)
  clear hB q0 hD hN
  rw [show start ["_law_pot_here", "_law_many", "_law_digit_here"] [va0, va1] = [some va0, some va1, none] from rfl]
  unfold t__law_digit
  unfold m__law_digit at hm
  refine Q_if ?_
  refine T_test ?_
  refine S_op ?_
  refine S_op ?_
  refine S_varO 0 h rfl rfl ?_
  refine S_c ?_
  obtain ⟨x2, hx2, hm⟩ := ob hm
  refine S_ixL h (h.vO 0 rfl) hx2 fun u1 h => ?_
  obtain rfl : u1 = (V.int x2) := h.fz 0 rfl rfl
  have h := h.pop
  refine S_c ?_
  refine S_I0 ?_
  refine T_bl ?_
  refine S_ite hm (fun hc hm => ?_) (fun hc hm => ?_)
  · skip
    refine Q_asg ?_
    refine S_op ?_
    refine S_op ?_
    refine S_varO 0 h rfl rfl ?_
    refine S_c ?_
    obtain ⟨x4, hx4, hm⟩ := ob hm
    refine S_ixL h (h.vO 0 rfl) hx4 fun u3 h => ?_
    obtain rfl : u3 = (V.int x4) := h.fz 0 rfl rfl
    have h := h.pop
    refine S_varI 0 h rfl rfl ?_
    obtain ⟨x5, hx5, hm⟩ := ob hm
    refine S_mod hx5 ?_
    refine S_gName ?_
    have h : St K B0 F H (List.set [some va0, some va1, none] 2 (some (V.int x5))) [.own A_pot_here p_pot_here, .fz (p_many : Int), .fz (x5 : Int)] := St.setF (v := (V.int x5)) (x := (x5 : Int)) h 2 rfl
    refine Q_asg ?_
    refine S_op ?_
    refine S_op ?_
    refine S_varO 0 h rfl rfl ?_
    refine S_c ?_
    obtain ⟨x7, hx7, hm⟩ := ob hm
    refine S_ixL h (h.vO 0 rfl) hx7 fun u6 h => ?_
    obtain rfl : u6 = (V.int x7) := h.fz 0 rfl rfl
    have h := h.pop
    refine S_varI 0 h rfl rfl ?_
    obtain ⟨x8, hx8, hm⟩ := ob hm
    refine S_fdiv hx8 ?_
    refine S_gSub ?_
    refine S_varO 0 h rfl rfl ?_
    refine S_c ?_
    obtain ⟨x9, hx9, hm⟩ := ob hm
    refine S_setL 0 h (by rfl) rfl hx9 fun H h => ?_
    have h : St K B0 F H (List.set [some va0, some va1, none] 2 (some (V.int x5))) [.own A_pot_here x9, .fz (p_many : Int), .fz (x5 : Int)] := h
    refine S_ret ?_
    refine S_varI 0 h rfl rfl ?_
    have hz := h
    cases hm
    exact q _ _ _ (hz.finI (AftM.own hz.ok 0 rfl rfl (AftM.skip AftM.nil)))
  refine Q_next ?_
  refine Q_asg ?_
  refine S_op ?_
  refine S_op ?_
  refine S_op ?_
  refine S_op ?_
  refine S_varO 0 h rfl rfl ?_
  refine S_c ?_
  obtain ⟨x11, hx11, hm⟩ := ob hm
  refine S_ixL h (h.vO 0 rfl) hx11 fun u10 h => ?_
  obtain rfl : u10 = (V.int x11) := h.fz 0 rfl rfl
  have h := h.pop
  refine S_c ?_
  obtain ⟨x12, hx12, hm⟩ := ob hm
  refine S_mul hx12 ?_
  refine S_c ?_
  refine S_I0 ?_
  refine S_c ?_
  obtain ⟨x13, hx13, hm⟩ := ob hm
  refine S_mod hx13 ?_
  refine S_gSub ?_
  refine S_varO 0 h rfl rfl ?_
  refine S_c ?_
  obtain ⟨x14, hx14, hm⟩ := ob hm
  refine S_setL 0 h (by rfl) rfl hx14 fun H h => ?_
  have h : St K B0 F H ([some va0, some va1, none]) [.own A_pot_here x14, .fz (p_many : Int), .any] := h
  refine S_ret ?_
  refine S_op ?_
  refine S_op ?_
  refine S_op ?_
  refine S_op ?_
  refine S_op ?_
  refine S_varO 0 h rfl rfl ?_
  refine S_c ?_
  obtain ⟨x16, hx16, hm⟩ := ob hm
  refine S_ixL h (h.vO 0 rfl) hx16 fun u15 h => ?_
  obtain rfl : u15 = (V.int x16) := h.fz 0 rfl rfl
  have h := h.pop
  refine S_op ?_
  refine S_varO 0 h rfl rfl ?_
  refine S_c ?_
  obtain ⟨x18, hx18, hm⟩ := ob hm
  refine S_ixL h (h.vO 0 rfl) hx18 fun u17 h => ?_
  obtain rfl : u17 = (V.int x18) := h.fz 0 rfl rfl
  have h := h.pop
  obtain ⟨x19, hx19, hm⟩ := ob hm
  refine S_mul hx19 ?_
  refine S_c ?_
  obtain ⟨x20, hx20, hm⟩ := ob hm
  refine S_mod hx20 ?_
  refine S_c ?_
  obtain ⟨x21, hx21, hm⟩ := ob hm
  refine S_fdiv hx21 ?_
  refine S_varI 0 h rfl rfl ?_
  obtain ⟨x22, hx22, hm⟩ := ob hm
  refine S_mod hx22 ?_
  have hz := h
  cases hm
  exact q _ _ _ (hz.finI (AftM.own hz.ok 0 rfl rfl (AftM.skip AftM.nil)))
theorem fn__law_digit {P : Program} {w : World} {K : Fg} {mg : Str → Option Value} {base : Heap} (bz : Blt mg) (kf : KF K) (cz : Cst mg) {f : Addr} {fd : FuncData} (F0 : Fun K "_law_digit" "_law_digit" s__law_digit f fd)  : FnOk P w K mg base CX0 1 f fd ["_law_pot_here", "_law_many"] (Prom K R__law_digit) :=
  F0.ok sc__law_digit (prom_len 2 fun A s A' h => by cases h; rfl) fun cdv A outer s H vs Q E hr h => ⟨t__law_digit K, pss_cons (ps_if (pt_cmpR (r := (rI0 fun i j => .bl (decide (j < i)))) op_gt (pe_ix (r := rIxL K) ix_list (pv 0) (pe_int) (fun _ _ => rfl)) (pe_int) (nomark _)) (pss_cons (ps_set (i := 2) sc__law_digit.nd rfl (.inl rfl) (pe_op op_mod (pe_ix (r := rIxL K) ix_list (pv 0) (pe_int) (fun _ _ => rfl)) (pv 1))) (pss_cons (ps_asg (pe_op op_fdiv (pe_ix (r := rIxL K) ix_list (pv 0) (pe_int) (fun _ _ => rfl)) (pv 1)) (pg_sub (pv 0) (pe_int) set_list)) (pss_one (ps_ret (pv 2))))) pss_nil) (pss_cons (ps_asg (pe_op op_mod (pe_op op_add (pe_op op_mul (pe_ix (r := rIxL K) ix_list (pv 0) (pe_int) (fun _ _ => rfl)) (pe_int)) (pe_int)) (pe_int)) (pg_sub (pv 0) (pe_int) set_list)) (pss_one (ps_ret (pe_op op_mod (pe_op op_fdiv (pe_op op_mod (pe_op op_mul (pe_ix (r := rIxL K) ix_list (pv 0) (pe_int) (fun _ _ => rfl)) (pe_ix (r := rIxL K) ix_list (pv 0) (pe_int) (fun _ _ => rfl))) (pe_int)) (pe_int)) (pv 1))))), sem__law_digit kf h (fun _ _ z => z) fun _ _ z => z⟩
theorem ok__law_digit {P : Program} {w : World} {K : Fg} {mg : Str → Option Value} {base : Heap} (bz : Blt mg) (kf : KF K) (cz : Cst mg) {f : Addr} {fd : FuncData} (F0 : Fun K "_law_digit" "_law_digit" s__law_digit f fd) (g0 : mg "_law_digit" = some (.ref f)) (b0 : Binds K fd ["_law_pot_here", "_law_many"] [])  : Cal P w K mg base 1 "_law_digit" ["_law_pot_here", "_law_many"] R__law_digit :=
  Cal.mk' (fn__law_digit bz kf cz F0) g0 F0.kp b0

def m__law_words_l1  (x11 : Int) (s13 : Str × (List Int)) : Option (Str × (List Int)) := (m__law_digit s13.2 (26 : Int)).bind fun r14 => (ixS (Str.ofString "abcdefghijklmnopqrstuvwxyz") r14.1).bind fun x16 => (catS s13.1 x16).bind fun x17 => some (x17, r14.2)
def m__law_words_l0 (r1 : Int × (List Int)) (x5 : Int) (s7 : (List Int) × (List Str)) : Option ((List Int) × (List Str)) := (m__law_digit s7.1 (8 : Int)).bind fun r8 => (rangeO r8.1).bind fun xs10 => (foldO m__law_words_l1 xs10 ((Str.ofString ""), r8.2)).bind fun s18 => (mulO (11 : Int) x5).bind fun x19 => (modO (r1.1 + x19) (26 : Int)).bind fun x20 => (ixS (Str.ofString "abcdefghijklmnopqrstuvwxyz") x20).bind fun x21 => (catS s18.1 x21).bind fun x22 => (appO s7.2 x22).bind fun x23 => some (s18.2, x23)
def m__law_words (p_pot_here : List Int) (p_many : Int) : Option ((List Str) × (List Int)) := (m__law_digit p_pot_here (26 : Int)).bind fun r1 => (rangeO p_many).bind fun xs4 => (foldO (m__law_words_l0 r1) xs4 (r1.2, ([] : List Str))).bind fun s24 => some (s24.2, s24.1)
inductive R__law_words : List Slot → RSlot → List Slot → Prop
  | mk (p_pot_here : List Int) (p_many : Int) {A_pot_here : Addr} {r : (List Str) × (List Int)} : m__law_words p_pot_here p_many = some r → R__law_words [.own A_pot_here p_pot_here, .fz p_many] (.fr r.1) [.own A_pot_here r.2, .any]
def t__law_words (K : Fg) : TS := tSeq (tAsg (tC (.str (Str.ofString "abcdefghijklmnopqrstuvwxyz"))) (gName 2)) (tSeq (tAsg (tCall (Prom K R__law_digit) [] E0 (tCons (tVar 0) (tCons (tC (.int 26)) (tNil)))) (gName 3)) (tSeq (tAsg (tLst (tNil)) (gName 4)) (tSeq (tFor (iRng1 (tCons (tVar 1) (tNil))) (gName 5) (tSeq (tAsg (tC (.str (Str.ofString ""))) (gName 6)) (tSeq (tFor (iRng1 (tCons (tCall (Prom K R__law_digit) [] E0 (tCons (tVar 0) (tCons (tC (.int 8)) (tNil)))) (tNil))) (gName 7) (tAsg (tOp rCatS (tVar 6) (tOp rIxS (tVar 2) (tCall (Prom K R__law_digit) [] E0 (tCons (tVar 0) (tCons (tC (.int 26)) (tNil)))))) (gName 6))) (tDrop (tBM K "list" rAppend (tVar 4) (tCons (tOp rCatS (tVar 6) (tOp rIxS (tVar 2) (tOp (rI (fun _ j => 0 < j) (fun i j => .int (i % j))) (tOp (rI0 fun i j => .int (i + j)) (tVar 3) (tOp (rI CMul (fun i j => .int (i * j))) (tC (.int 11)) (tVar 5))) (tC (.int 26))))) (tNil))))))) (tRet (tVar 4)))))
theorem sc__law_words : FnScope ["_law_pot_here", "_law_many", "_law_letters", "_law_turn", "_law_found", "_law_k", "_law_begin", "_law_place"] ["_law_pot_here", "_law_many"] (defScope s__law_words) := ⟨rfl, rfl, rfl, by decide +kernel, rfl, by decide +kernel, by decide +kernel⟩
theorem sem__law_words {K : Fg} (kf : KF K) {vs : List V} {H : Hp} {Q : VK} {E : XK} (h : Prom K R__law_words vs H Q E) {D : Ends} (hD : ∀ u H, Q u H → D.rt u H) (hN : ∀ σ H, Q .non H → D.nx σ H) : t__law_words K D (start ["_law_pot_here", "_law_many", "_law_letters", "_law_turn", "_law_found", "_law_k", "_law_begin", "_law_place"] vs) H := by
  obtain ⟨F, A, rs, A', hR, fh, hS, nd, q⟩ := h
  cases hR with | @mk p_pot_here p_many A_pot_here r hm => ?_
  have hl := slots_len hS
  obtain ⟨va0, va1, rfl⟩ := len2 (vs := vs) (by simpa using hl.symm)
  have h : St K ⟨F, H, [A_pot_here]⟩ F H [some va0, some va1, none, none, none, none, none, none] [.own A_pot_here p_pot_here, .fz (p_many : Int), .any, .any, .any, .any, .any, .any] := St.start fh hS nd [none, none, none, none, none, none]
  generalize hB : (⟨F, H, [A_pot_here]⟩ : Base) = B0 at h
  have q0 := q
  have q : ∀ u F' H', Fin K B0 (.fr r.1) [.own A_pot_here r.2, .any] u F' H' → D.rt u H' := by subst hB; exact fun u F' H' z => hD _ _ (q u F' H' z)
  have qN : ∀ σ F' H', Fin K B0 (.fr r.1) [.own A_pot_here r.2, .any] .non F' H' → D.nx σ H' := by subst hB; exact fun σ F' H' z => hN _ _ (q0 _ F' H' z)
  clear hB q0 hD hN
  rw [show start ["_law_pot_here", "_law_many", "_law_letters", "_law_turn", "_law_found", "_law_k", "_law_begin", "_law_place"] [va0, va1] = [some va0, some va1, none, none, none, none, none, none] from rfl]
  unfold t__law_words
  unfold m__law_words at hm
  refine Q_asg ?_
  refine S_c ?_
  refine S_gName ?_
  have h : St K B0 F H (List.set [some va0, some va1, none, none, none, none, none, none] 2 (some (V.str (Str.ofString "abcdefghijklmnopqrstuvwxyz")))) [.own A_pot_here p_pot_here, .fz (p_many : Int), .fz ((Str.ofString "abcdefghijklmnopqrstuvwxyz") : Str), .any, .any, .any, .any, .any] := St.setF (v := (V.str (Str.ofString "abcdefghijklmnopqrstuvwxyz"))) (x := ((Str.ofString "abcdefghijklmnopqrstuvwxyz") : Str)) h 2 rfl
  refine Q_asg ?_
  refine S_tcall ?_
  refine S_cons ?_
  refine S_varO 0 h rfl rfl ?_
  refine S_cons ?_
  refine S_c ?_
  refine S_nil ?_
  obtain ⟨r1, hr1, hm⟩ := ob hm
  refine S_call1 (A := [.own A_pot_here p_pot_here, .fz ((26 : Int) : Int)]) 0 h (by rfl) (slots_cons (SlotOk.ofOwn h 0 rfl) (slots_cons (ok_fz rfl) slots_nil)) (R__law_digit.mk _ _ hr1) rfl (fun F' H' L z => z) fun u2 F H h r => ?_
  have h : St K B0 F H (List.set [some va0, some va1, none, none, none, none, none, none] 2 (some (V.str (Str.ofString "abcdefghijklmnopqrstuvwxyz")))) [.own A_pot_here r1.2, .fz (p_many : Int), .fz ((Str.ofString "abcdefghijklmnopqrstuvwxyz") : Str), .any, .any, .any, .any, .any] := h
  obtain rfl : u2 = (V.int r1.1) := r
  refine S_gName ?_
  have h : St K B0 F H (List.set (List.set [some va0, some va1, none, none, none, none, none, none] 2 (some (V.str (Str.ofString "abcdefghijklmnopqrstuvwxyz")))) 3 (some (V.int r1.1))) [.own A_pot_here r1.2, .fz (p_many : Int), .fz ((Str.ofString "abcdefghijklmnopqrstuvwxyz") : Str), .fz (r1.1 : Int), .any, .any, .any, .any] := St.setF (v := (V.int r1.1)) (x := (r1.1 : Int)) h 3 rfl
  refine Q_asg ?_
  refine S_tL ?_
  refine S_nil ?_
  refine S_lstO (xs := ([] : List Str)) h (.nil) (Nat.le_of_ble_eq_true rfl) fun p3 F H hBp3 h => ?_
  refine S_gName ?_
  have h : St K B0 F H (List.set (List.set (List.set [some va0, some va1, none, none, none, none, none, none] 2 (some (V.str (Str.ofString "abcdefghijklmnopqrstuvwxyz")))) 3 (some (V.int r1.1))) 4 (some (V.ref p3))) [.own A_pot_here r1.2, .fz (p_many : Int), .fz ((Str.ofString "abcdefghijklmnopqrstuvwxyz") : Str), .fz (r1.1 : Int), .own p3 ([] : List Str), .any, .any, .any] := St.setOwn 4 h
  refine Q_for ?_
  refine S_iR1 ?_
  refine S_cons ?_
  refine S_varI 0 h rfl rfl ?_
  refine S_nil ?_
  obtain ⟨xs4, hxs4, hm⟩ := ob hm
  refine S_rng1 (K := K) hxs4 fun J Y => ?_
  obtain ⟨s24, hs24, hm⟩ := ob hm
  refine S_fold (ts := []) (TM := []) (Mf := fun (s7 : (List Int) × (List Str)) => [.own A_pot_here s7.1, .fz (p_many : Int), .fz ((Str.ofString "abcdefghijklmnopqrstuvwxyz") : Str), .fz (r1.1 : Int), .own p3 s7.2, .any, .any, .any]) Y hs24 (h.weak ⟨.inr rfl, .inr rfl, .inr rfl, .inr rfl, .inr rfl, .inl rfl, .inl rfl, .inl rfl, trivial⟩) (fun s7 σ F H h => trivial) (fun i x5 s7 s' v6 σ F H D hx hb h hn => ?_) (fun σ F H h => ?_)
  · have hm := hb
    unfold m__law_words_l0 at hm
    have h : St K B0 F H (some v6 :: σ) [.fz (x5 : Int), .own A_pot_here s7.1, .fz (p_many : Int), .fz ((Str.ofString "abcdefghijklmnopqrstuvwxyz") : Str), .fz (r1.1 : Int), .own p3 s7.2, .any, .any, .any] := h
    refine S_gName ?_
    have h : St K B0 F H (List.set (σ) 5 (some v6)) [.own A_pot_here s7.1, .fz (p_many : Int), .fz ((Str.ofString "abcdefghijklmnopqrstuvwxyz") : Str), .fz (r1.1 : Int), .own p3 s7.2, .fz (x5 : Int), .any, .any] := St.setF (v := v6) (x := (x5 : Int)) h.pop 5 (h.fz 0 rfl rfl)
    refine Q_asg ?_
    refine S_c ?_
    refine S_gName ?_
    have h : St K B0 F H (List.set (List.set (σ) 5 (some v6)) 6 (some (V.str (Str.ofString "")))) [.own A_pot_here s7.1, .fz (p_many : Int), .fz ((Str.ofString "abcdefghijklmnopqrstuvwxyz") : Str), .fz (r1.1 : Int), .own p3 s7.2, .fz (x5 : Int), .fz ((Str.ofString "") : Str), .any] := St.setF (v := (V.str (Str.ofString ""))) (x := ((Str.ofString "") : Str)) h 6 rfl
    refine Q_for ?_
    refine S_iR1 ?_
    refine S_cons ?_
    refine S_tcall ?_
    refine S_cons ?_
    refine S_varO 0 h rfl rfl ?_
    refine S_cons ?_
    refine S_c ?_
    refine S_nil ?_
    obtain ⟨r8, hr8, hm⟩ := ob hm
    refine S_call1 (A := [.own A_pot_here s7.1, .fz ((8 : Int) : Int)]) 0 h (by rfl) (slots_cons (SlotOk.ofOwn h 0 rfl) (slots_cons (ok_fz rfl) slots_nil)) (R__law_digit.mk _ _ hr8) rfl (fun F' H' L z => z) fun u9 F H h r => ?_
    have h : St K B0 F H (List.set (List.set (σ) 5 (some v6)) 6 (some (V.str (Str.ofString "")))) [.own A_pot_here r8.2, .fz (p_many : Int), .fz ((Str.ofString "abcdefghijklmnopqrstuvwxyz") : Str), .fz (r1.1 : Int), .own p3 s7.2, .fz (x5 : Int), .fz ((Str.ofString "") : Str), .any] := h
    obtain rfl : u9 = (V.int r8.1) := r
    refine S_nil ?_
    obtain ⟨xs10, hxs10, hm⟩ := ob hm
    refine S_rng1 (K := K) hxs10 fun J Y => ?_
    obtain ⟨s18, hs18, hm⟩ := ob hm
    refine S_fold (ts := []) (TM := []) (Mf := fun (s13 : Str × (List Int)) => [.own A_pot_here s13.2, .fz (p_many : Int), .fz ((Str.ofString "abcdefghijklmnopqrstuvwxyz") : Str), .fz (r1.1 : Int), .own p3 s7.2, .fz (x5 : Int), .fz (s13.1 : Str), .any]) Y hs18 (h.weak ⟨.inr rfl, .inr rfl, .inr rfl, .inr rfl, .inr rfl, .inr rfl, .inr rfl, .inl rfl, trivial⟩) (fun s13 σ F H h => trivial) (fun i x11 s13 s' v12 σ F H D hx hb h hn => ?_) (fun σ F H h => ?_)
    · have hm := hb
      unfold m__law_words_l1 at hm
      have h : St K B0 F H (some v12 :: σ) [.fz (x11 : Int), .own A_pot_here s13.2, .fz (p_many : Int), .fz ((Str.ofString "abcdefghijklmnopqrstuvwxyz") : Str), .fz (r1.1 : Int), .own p3 s7.2, .fz (x5 : Int), .fz (s13.1 : Str), .any] := h
      refine S_gName ?_
      have h : St K B0 F H (List.set (σ) 7 (some v12)) [.own A_pot_here s13.2, .fz (p_many : Int), .fz ((Str.ofString "abcdefghijklmnopqrstuvwxyz") : Str), .fz (r1.1 : Int), .own p3 s7.2, .fz (x5 : Int), .fz (s13.1 : Str), .fz (x11 : Int)] := St.setF (v := v12) (x := (x11 : Int)) h.pop 7 (h.fz 0 rfl rfl)
      refine S_asg ?_
      refine S_op ?_
      refine S_varS 0 h rfl rfl ?_
      refine S_op ?_
      refine S_varS 0 h rfl rfl ?_
      refine S_tcall ?_
      refine S_cons ?_
      refine S_varO 0 h rfl rfl ?_
      refine S_cons ?_
      refine S_c ?_
      refine S_nil ?_
      obtain ⟨r14, hr14, hm⟩ := ob hm
      refine S_call1 (A := [.own A_pot_here s13.2, .fz ((26 : Int) : Int)]) 0 h (by rfl) (slots_cons (SlotOk.ofOwn h 0 rfl) (slots_cons (ok_fz rfl) slots_nil)) (R__law_digit.mk _ _ hr14) rfl (fun F' H' L z => z) fun u15 F H h r => ?_
      have h : St K B0 F H (List.set (σ) 7 (some v12)) [.own A_pot_here r14.2, .fz (p_many : Int), .fz ((Str.ofString "abcdefghijklmnopqrstuvwxyz") : Str), .fz (r1.1 : Int), .own p3 s7.2, .fz (x5 : Int), .fz (s13.1 : Str), .fz (x11 : Int)] := h
      obtain rfl : u15 = (V.int r14.1) := r
      obtain ⟨x16, hx16, hm⟩ := ob hm
      refine S_ixS hx16 ?_
      obtain ⟨x17, hx17, hm⟩ := ob hm
      refine S_catS hx17 ?_
      refine S_gName ?_
      have h : St K B0 F H (List.set (List.set (σ) 7 (some v12)) 6 (some (V.str x17))) [.own A_pot_here r14.2, .fz (p_many : Int), .fz ((Str.ofString "abcdefghijklmnopqrstuvwxyz") : Str), .fz (r1.1 : Int), .own p3 s7.2, .fz (x5 : Int), .fz (x17 : Str), .fz (x11 : Int)] := St.setF (v := (V.str x17)) (x := (x17 : Str)) h 6 rfl
      have hz := h
      cases hm
      exact hn _ _ _ (hz.weak ⟨.inr rfl, .inr rfl, .inr rfl, .inr rfl, .inr rfl, .inr rfl, .inr rfl, .inl rfl, trivial⟩)
    have h : St K B0 F H (σ) [.own A_pot_here s18.2, .fz (p_many : Int), .fz ((Str.ofString "abcdefghijklmnopqrstuvwxyz") : Str), .fz (r1.1 : Int), .own p3 s7.2, .fz (x5 : Int), .fz (s18.1 : Str), .any] := h
    refine Q_nx ?_
    refine S_drop ?_
    refine S_bm ?_
    refine S_varO 0 h rfl rfl ?_
    refine S_tyL (α := Str) (h.vO 4 rfl) ?_
    refine S_cons ?_
    refine S_op ?_
    refine S_varS 0 h rfl rfl ?_
    refine S_op ?_
    refine S_varS 0 h rfl rfl ?_
    refine S_op ?_
    refine S_op ?_
    refine S_varI 0 h rfl rfl ?_
    refine S_op ?_
    refine S_c ?_
    refine S_varI 0 h rfl rfl ?_
    obtain ⟨x19, hx19, hm⟩ := ob hm
    refine S_mul hx19 ?_
    refine S_I0 ?_
    refine S_c ?_
    obtain ⟨x20, hx20, hm⟩ := ob hm
    refine S_mod hx20 ?_
    obtain ⟨x21, hx21, hm⟩ := ob hm
    refine S_ixS hx21 ?_
    obtain ⟨x22, hx22, hm⟩ := ob hm
    refine S_catS hx22 ?_
    refine S_nil ?_
    obtain ⟨x23, hx23, hm⟩ := ob hm
    refine S_append 4 h (by rfl) rfl hx23 fun H h => ?_
    have h : St K B0 F H (σ) [.own A_pot_here s18.2, .fz (p_many : Int), .fz ((Str.ofString "abcdefghijklmnopqrstuvwxyz") : Str), .fz (r1.1 : Int), .own p3 x23, .fz (x5 : Int), .fz (s18.1 : Str), .any] := h
    have hz := h
    cases hm
    exact hn _ _ _ (hz.weak ⟨.inr rfl, .inr rfl, .inr rfl, .inr rfl, .inr rfl, .inl rfl, .inl rfl, .inl rfl, trivial⟩)
  have h : St K B0 F H (σ) [.own A_pot_here s24.1, .fz (p_many : Int), .fz ((Str.ofString "abcdefghijklmnopqrstuvwxyz") : Str), .fz (r1.1 : Int), .own p3 s24.2, .any, .any, .any] := h
  refine Q_nx ?_
  refine S_ret ?_
  refine S_varO 0 h rfl rfl ?_
  have hz := h
  cases hm
  exact q _ _ _ (hz.finOwn 4 (by rfl) hBp3 (AftM.own (hz.ok.take 4) 0 rfl rfl (AftM.skip AftM.nil)))
theorem fn__law_words {P : Program} {w : World} {K : Fg} {mg : Str → Option Value} {base : Heap} (bz : Blt mg) (kf : KF K) (cz : Cst mg) {f : Addr} {fd : FuncData} (F0 : Fun K "_law_words" "_law_words" s__law_words f fd) (C__law_digit : Cal P w K mg base 1 "_law_digit" ["_law_pot_here", "_law_many"] R__law_digit) : FnOk P w K mg base CX0 2 f fd ["_law_pot_here", "_law_many"] (Prom K R__law_words) :=
  F0.ok sc__law_words (prom_len 2 fun A s A' h => by cases h; rfl) fun cdv A outer s H vs Q E hr h => ⟨t__law_words K, pss_cons (ps_set (i := 2) sc__law_words.nd rfl (.inl rfl) (pe_str)) (pss_cons (ps_set (i := 3) sc__law_words.nd rfl (.inl rfl) (C__law_digit.pe (hr.mono (by decide)) (by rfl) (pa_cons (pv 0) (pa_cons (pe_int) (pa_nil))))) (pss_cons (ps_set (i := 4) sc__law_words.nd rfl (.inl rfl) (pe_lst (pa_nil))) (pss_cons (ps_for PassesOwn.never rfl (pi_range1 (by rfl) bz.range (pa_cons (pv 1) (pa_nil))) (pg_name (i := 5) sc__law_words.nd rfl (.inl rfl)) (pss_cons (ps_set (i := 6) sc__law_words.nd rfl (.inl rfl) (pe_str)) (pss_cons (ps_for PassesOwn.never rfl (pi_range1 (by rfl) bz.range (pa_cons (C__law_digit.pe (hr.mono (by decide)) (by rfl) (pa_cons (pv 0) (pa_cons (pe_int) (pa_nil)))) (pa_nil))) (pg_name (i := 7) sc__law_words.nd rfl (.inl rfl)) (pss_one (ps_set (i := 6) sc__law_words.nd rfl (.inl rfl) (pe_op (r := rCatS) op_catS (pv 6) (pe_ix (r := rIxS) ix_str (pv 2) (C__law_digit.pe (hr.mono (by decide)) (by rfl) (pa_cons (pv 0) (pa_cons (pe_int) (pa_nil)))) (fun _ _ => rfl)))))) (pss_one (ps_expr (pe_bm PySem.F.plainAttrs_list PySem.F.slot_list_append PySem.F.type_list_append mt_append (pv 4) (pa_cons (pe_op (r := rCatS) op_catS (pv 6) (pe_ix (r := rIxS) ix_str (pv 2) (pe_op op_mod (pe_op op_add (pv 3) (pe_op op_mul (pe_int) (pv 5))) (pe_int)) (fun _ _ => rfl))) (pa_nil)))))))) (pss_one (ps_ret (pv 4)))))), sem__law_words kf h (fun _ _ z => z) fun _ _ z => z⟩
theorem ok__law_words {P : Program} {w : World} {K : Fg} {mg : Str → Option Value} {base : Heap} (bz : Blt mg) (kf : KF K) (cz : Cst mg) {f : Addr} {fd : FuncData} (F0 : Fun K "_law_words" "_law_words" s__law_words f fd) (g0 : mg "_law_words" = some (.ref f)) (b0 : Binds K fd ["_law_pot_here", "_law_many"] []) (C__law_digit : Cal P w K mg base 1 "_law_digit" ["_law_pot_here", "_law_many"] R__law_digit) : Cal P w K mg base 2 "_law_words" ["_law_pot_here", "_law_many"] R__law_words :=
  Cal.mk' (fn__law_words bz kf cz F0 C__law_digit) g0 F0.kp b0

def m__law_rows_c0  (x2 : Int) : Option (List Int) :=  some ([] : List Int)
def m__law_rows_c2 (r15 : Int × (List Int)) (x18 : Int) (s22 : (List Int)) : Option (Option Int × (List Int)) := ((m__law_digit s22 (2 : Int)).bind fun r25 => if (decide (r25.1 = (1 : Int))) = true then some (true, r25.2) else some ((decide (x18 = r15.1)), r25.2) : Option (Bool × (List Int))).bind fun c24 => if c24.1 = true then  some (some x18, c24.2) else some (none, c24.2)
def m__law_rows_l3 (ys28 : (List Int) × (List Int)) (x31 : Int) (s33 : (List Int) × (List (List Int))) : Option ((List Int) × (List (List Int))) := (m__law_digit s33.1 (List.length ys28.1 : Int)).bind fun r36 => (atI ys28.1 r36.1).bind fun x39 => (atI s33.2 x31).bind fun x41 => (inO x31 ys28.1).bind fun c46 => (atI ([x39, x31] : List Int) (b2z c46)).bind fun x48 => (appO x41 x48).bind fun x49 => (setL s33.2 x31 x49).bind fun x50 => some (r36.2, x50)
def m__law_rows_l1 (p_many : Int) (x12 : Int) (s14 : (List Int) × (List (List Int))) : Option ((List Int) × (List (List Int))) := (m__law_digit s14.1 p_many).bind fun r15 => (rangeO p_many).bind fun xs17 => (compS (m__law_rows_c2 r15) xs17 r15.2).bind fun ys28 => (rangeO p_many).bind fun xs30 => (foldO (m__law_rows_l3 ys28) xs30 (ys28.2, s14.2)).bind fun s51 => some (s51.1, s51.2)
def m__law_rows (p_pot_here : List Int) (p_many : Int) (p_letters : Int) : Option ((List (List Int)) × (List Int)) := (rangeO p_many).bind fun xs1 => (mapO m__law_rows_c0 xs1).bind fun ys9 => (rangeO p_letters).bind fun xs11 => (foldO (m__law_rows_l1 p_many) xs11 (p_pot_here, ys9)).bind fun s52 => some (s52.2, s52.1)
inductive R__law_rows : List Slot → RSlot → List Slot → Prop
  | mk (p_pot_here : List Int) (p_many : Int) (p_letters : Int) {A_pot_here : Addr} {r : (List (List Int)) × (List Int)} : m__law_rows p_pot_here p_many p_letters = some r → R__law_rows [.own A_pot_here p_pot_here, .fz p_many, .fz p_letters] (.fz r.1) [.own A_pot_here r.2, .any, .any]
def t__law_rows (K : Fg) : TS := tSeq (tAsg (tLc (iRng1 (tCons (tVar 1) (tNil))) (gName 7) (tYes) (tLst (tNil)) [7]) (gName 3)) (tSeq (tFor (iRng1 (tCons (tVar 2) (tNil))) (gName 4) (tSeq (tAsg (tCall (Prom K R__law_digit) [] E0 (tCons (tVar 0) (tCons (tVar 1) (tNil)))) (gName 5)) (tSeq (tAsg (tLc (iRng1 (tCons (tVar 1) (tNil))) (gName 7) (tOr (tTest (tOp rEq (tCall (Prom K R__law_digit) [] E0 (tCons (tVar 0) (tCons (tC (.int 2)) (tNil)))) (tC (.int 1)))) (tTest (tOp rEq (tVar 7) (tVar 5)))) (tVar 7) [7]) (gName 6)) (tFor (iRng1 (tCons (tVar 1) (tNil))) (gName 7) (tSeq (tAsg (tOp (rIxL K) (tVar 6) (tCall (Prom K R__law_digit) [] E0 (tCons (tVar 0) (tCons (tCB (rLenG K) (tCons (tVar 6) (tNil))) (tNil))))) (gName 8)) (tDrop (tBM K "list" rAppend (tOp (rIxL K) (tVar 3) (tVar 7)) (tCons (tOp (rIxL K) (tLst (tCons (tVar 8) (tCons (tVar 7) (tNil)))) (tCB rIntG (tCons (tOp (rInD K) (tVar 7) (tVar 6)) (tNil)))) (tNil))))))))) (tRet (tVar 3)))
theorem sc__law_rows : FnScope ["_law_pot_here", "_law_many", "_law_letters", "_law_rows_here", "_law_x", "_law_sure", "_law_stays", "_law_s", "_law_goal"] ["_law_pot_here", "_law_many", "_law_letters"] (defScope s__law_rows) := ⟨rfl, rfl, rfl, by decide +kernel, rfl, by decide +kernel, by decide +kernel⟩
theorem sem__law_rows {K : Fg} (kf : KF K) {vs : List V} {H : Hp} {Q : VK} {E : XK} (h : Prom K R__law_rows vs H Q E) {D : Ends} (hD : ∀ u H, Q u H → D.rt u H) (hN : ∀ σ H, Q .non H → D.nx σ H) : t__law_rows K D (start ["_law_pot_here", "_law_many", "_law_letters", "_law_rows_here", "_law_x", "_law_sure", "_law_stays", "_law_s", "_law_goal"] vs) H := by
  obtain ⟨F, A, rs, A', hR, fh, hS, nd, q⟩ := h
  cases hR with | @mk p_pot_here p_many p_letters A_pot_here r hm => ?_
  have hl := slots_len hS
  obtain ⟨va0, va1, va2, rfl⟩ := len3 (vs := vs) (by simpa using hl.symm)
  have h : St K ⟨F, H, [A_pot_here]⟩ F H [some va0, some va1, some va2, none, none, none, none, none, none] [.own A_pot_here p_pot_here, .fz (p_many : Int), .fz (p_letters : Int), .any, .any, .any, .any, .any, .any] := St.start fh hS nd [none, none, none, none, none, none]
  generalize hB : (⟨F, H, [A_pot_here]⟩ : Base) = B0 at h
  have q0 := q
  have q : ∀ u F' H', Fin K B0 (.fz r.1) [.own A_pot_here r.2, .any, .any] u F' H' → D.rt u H' := by subst hB; exact fun u F' H' z => hD _ _ (q u F' H' z)
  have qN : ∀ σ F' H', Fin K B0 (.fz r.1) [.own A_pot_here r.2, .any, .any] .non F' H' → D.nx σ H' := by subst hB; exact fun σ F' H' z => hN _ _ (q0 _ F' H' z)
  clear hB q0 hD hN
  rw [show start ["_law_pot_here", "_law_many", "_law_letters", "_law_rows_here", "_law_x", "_law_sure", "_law_stays", "_law_s", "_law_goal"] [va0, va1, va2] = [some va0, some va1, some va2, none, none, none, none, none, none] from rfl]
  unfold t__law_rows
  unfold m__law_rows at hm
  refine Q_asg ?_
  refine S_lc ?_
  refine S_iR1 ?_
  refine S_cons ?_
  refine S_varI 0 h rfl rfl ?_
  refine S_nil ?_
  obtain ⟨xs1, hxs1, hm⟩ := ob hm
  refine S_rng1 (K := K) hxs1 fun J Y => ?_
  obtain ⟨ys9, hys9, hm⟩ := ob hm
  refine S_mapT (flat (List Int)) (ts := []) (TM := []) (M := [.own A_pot_here p_pot_here, .fz (p_many : Int), .fz (p_letters : Int), .any, .any, .any, .any, .any, .any]) Y hys9 h rfl ⟨rfl, trivial⟩ (rng1_len hxs1) (fun w F H h => trivial) (fun x2 z v3 D4 gs7 a5 F H G N hf h hG => ?_) (fun D10 F H hBD10 h => ?_)
  · have hm := hf
    unfold m__law_rows_c0 at hm
    have h : St K B0 F H (some v3 :: some (V.ref D4) :: wipe [some va0, some va1, some va2, none, none, none, none, none, none] [7]) [.fz (x2 : Int), .tree (lstS (flat (List Int))) (D4, gs7) a5, .own A_pot_here p_pot_here, .fz (p_many : Int), .fz (p_letters : Int), .any, .any, .any, .any, .any, .any] := h
    refine S_gName ?_
    have h : St K B0 F H (some (V.ref D4) :: List.set (wipe [some va0, some va1, some va2, none, none, none, none, none, none] [7]) 7 (some v3)) [.tree (lstS (flat (List Int))) (D4, gs7) a5, .own A_pot_here p_pot_here, .fz (p_many : Int), .fz (p_letters : Int), .any, .any, .any, .any, .fz (x2 : Int), .any] := St.setF (v := v3) (x := (x2 : Int)) h.pop 8 (h.fz 0 rfl rfl)
    refine ⟨(wipe_set (by decide)).trans wipe_idem, ?_⟩
    refine tyes1 ?_
    refine S_tL ?_
    refine S_nil ?_
    refine S_lstO (xs := ([] : List Int)) h (.nil) (Nat.le_of_ble_eq_true rfl) fun p8 F H hBp8 h => ?_
    have hz := h
    cases hm
    exact hG _ _ _ (hb1 hBp8) (St.unset (ts := [some (V.ref p8), some (V.ref D4)]) (TM := [.own p8 ([] : List Int), .tree (lstS (flat (List Int))) (D4, gs7) a5]) (M := [.own A_pot_here p_pot_here, .fz (p_many : Int), .fz (p_letters : Int), .any, .any, .any, .any, .any, .any]) (hz.weak ⟨.inr rfl, .inr rfl, .inr rfl, .inr rfl, .inr rfl, .inr rfl, .inr rfl, .inr rfl, .inr rfl, .inl rfl, .inr rfl, trivial⟩) rfl rfl)
  have h : St K B0 F H (some (V.ref D10.1) :: [some va0, some va1, some va2, none, none, none, none, none, none]) [.tree (lstS (flat (List Int))) D10 ys9, .own A_pot_here p_pot_here, .fz (p_many : Int), .fz (p_letters : Int), .any, .any, .any, .any, .any, .any] := h
  refine S_gName ?_
  have h : St K B0 F H (List.set [some va0, some va1, some va2, none, none, none, none, none, none] 3 (some (V.ref D10.1))) [.own A_pot_here p_pot_here, .fz (p_many : Int), .fz (p_letters : Int), .tree (lstS (flat (List Int))) D10 ys9, .any, .any, .any, .any, .any] := St.setTree (s := (lstS (flat (List Int)))) (g := D10) 3 h
  refine Q_for ?_
  refine S_iR1 ?_
  refine S_cons ?_
  refine S_varI 0 h rfl rfl ?_
  refine S_nil ?_
  obtain ⟨xs11, hxs11, hm⟩ := ob hm
  refine S_rng1 (K := K) hxs11 fun J Y => ?_
  obtain ⟨s52, hs52, hm⟩ := ob hm
  refine S_fold (ts := []) (TM := []) (Mf := fun (s14 : (List Int) × (List (List Int))) => [.own A_pot_here s14.1, .fz (p_many : Int), .fz (p_letters : Int), .tree (lstS (flat (List Int))) D10 s14.2, .any, .any, .any, .any, .any]) Y hs52 (h.weak ⟨.inr rfl, .inr rfl, .inr rfl, .inr rfl, .inl rfl, .inl rfl, .inl rfl, .inl rfl, .inl rfl, trivial⟩) (fun s14 σ F H h => trivial) (fun i x12 s14 s' v13 σ F H D hx hb h hn => ?_) (fun σ F H h => ?_)
  · have hm := hb
    unfold m__law_rows_l1 at hm
    have h : St K B0 F H (some v13 :: σ) [.fz (x12 : Int), .own A_pot_here s14.1, .fz (p_many : Int), .fz (p_letters : Int), .tree (lstS (flat (List Int))) D10 s14.2, .any, .any, .any, .any, .any] := h
    refine S_gName ?_
    have h : St K B0 F H (List.set (σ) 4 (some v13)) [.own A_pot_here s14.1, .fz (p_many : Int), .fz (p_letters : Int), .tree (lstS (flat (List Int))) D10 s14.2, .fz (x12 : Int), .any, .any, .any, .any] := St.setF (v := v13) (x := (x12 : Int)) h.pop 4 (h.fz 0 rfl rfl)
    refine Q_asg ?_
    refine S_tcall ?_
    refine S_cons ?_
    refine S_varO 0 h rfl rfl ?_
    refine S_cons ?_
    refine S_varI 0 h rfl rfl ?_
    refine S_nil ?_
    obtain ⟨r15, hr15, hm⟩ := ob hm
    refine S_call1 (A := [.own A_pot_here s14.1, .fz (p_many : Int)]) 0 h (by rfl) (slots_cons (SlotOk.ofOwn h 0 rfl) (slots_cons (ok_fz rfl) slots_nil)) (R__law_digit.mk _ _ hr15) rfl (fun F' H' L z => z) fun u16 F H h r => ?_
    have h : St K B0 F H (List.set (σ) 4 (some v13)) [.own A_pot_here r15.2, .fz (p_many : Int), .fz (p_letters : Int), .tree (lstS (flat (List Int))) D10 s14.2, .fz (x12 : Int), .any, .any, .any, .any] := h
    obtain rfl : u16 = (V.int r15.1) := r
    refine S_gName ?_
    have h : St K B0 F H (List.set (List.set (σ) 4 (some v13)) 5 (some (V.int r15.1))) [.own A_pot_here r15.2, .fz (p_many : Int), .fz (p_letters : Int), .tree (lstS (flat (List Int))) D10 s14.2, .fz (x12 : Int), .fz (r15.1 : Int), .any, .any, .any] := St.setF (v := (V.int r15.1)) (x := (r15.1 : Int)) h 5 rfl
    refine Q_asg ?_
    refine S_lc ?_
    refine S_iR1 ?_
    refine S_cons ?_
    refine S_varI 0 h rfl rfl ?_
    refine S_nil ?_
    obtain ⟨xs17, hxs17, hm⟩ := ob hm
    refine S_rng1 (K := K) hxs17 fun J Y => ?_
    obtain ⟨ys28, hys28, hm⟩ := ob hm
    refine S_comp (ts := []) (TM := []) (Mf := fun s22 => [.own A_pot_here s22, .fz (p_many : Int), .fz (p_letters : Int), .tree (lstS (flat (List Int))) D10 s14.2, .fz (x12 : Int), .fz (r15.1 : Int), .any, .any, .any]) Y hys28 h rfl (fun _ => ⟨rfl, trivial⟩) (rng1_len hxs17) (fun s22 w F H h => trivial) (fun i x18 s22 z v19 D20 a21 F H G N hx hf h hG hN => ?_) (fun D29 F H hBD29 h => ?_)
    · have hm := hf
      unfold m__law_rows_c2 at hm
      have h : St K B0 F H (some v19 :: some (V.ref D20) :: wipe (List.set (List.set (σ) 4 (some v13)) 5 (some (V.int r15.1))) [7]) [.fz (x18 : Int), .own D20 a21, .own A_pot_here s22, .fz (p_many : Int), .fz (p_letters : Int), .tree (lstS (flat (List Int))) D10 s14.2, .fz (x12 : Int), .fz (r15.1 : Int), .any, .any, .any] := h
      refine S_gName ?_
      have h : St K B0 F H (some (V.ref D20) :: List.set (wipe (List.set (List.set (σ) 4 (some v13)) 5 (some (V.int r15.1))) [7]) 7 (some v19)) [.own D20 a21, .own A_pot_here s22, .fz (p_many : Int), .fz (p_letters : Int), .tree (lstS (flat (List Int))) D10 s14.2, .fz (x12 : Int), .fz (r15.1 : Int), .any, .fz (x18 : Int), .any] := St.setF (v := v19) (x := (x18 : Int)) h.pop 8 (h.fz 0 rfl rfl)
      refine ⟨(wipe_set (by decide)).trans wipe_idem, ?_⟩
      obtain ⟨c24, hc24, hm⟩ := ob hm
      refine S_boT (T := fun k H => k = c24.1 ∧ ∃ F, St K B0 F H (some (V.ref D20) :: List.set (wipe (List.set (List.set (σ) 4 (some v13)) 5 (some (V.int r15.1))) [7]) 7 (some v19)) [.own D20 a21, .own A_pot_here c24.2, .fz (p_many : Int), .fz (p_letters : Int), .tree (lstS (flat (List Int))) D10 s14.2, .fz (x12 : Int), .fz (r15.1 : Int), .any, .fz (x18 : Int), .any]) (fun Q' q' => ?_) (fun k H ⟨ek, F, h⟩ => ?_)
      · have hm := hc24
        refine S_or0 ?_
        refine T_test ?_
        refine S_op ?_
        refine S_tcall ?_
        refine S_cons ?_
        refine S_varO 1 h rfl rfl ?_
        refine S_cons ?_
        refine S_c ?_
        refine S_nil ?_
        obtain ⟨r25, hr25, hm⟩ := ob hm
        refine S_call1 (A := [.own A_pot_here s22, .fz ((2 : Int) : Int)]) 1 h (by rfl) (slots_cons (SlotOk.ofOwn h 1 rfl) (slots_cons (ok_fz rfl) slots_nil)) (R__law_digit.mk _ _ hr25) rfl (fun F' H' L z => z) fun u26 F H h r => ?_
        have h : St K B0 F H (some (V.ref D20) :: List.set (wipe (List.set (List.set (σ) 4 (some v13)) 5 (some (V.int r15.1))) [7]) 7 (some v19)) [.own D20 a21, .own A_pot_here r25.2, .fz (p_many : Int), .fz (p_letters : Int), .tree (lstS (flat (List Int))) D10 s14.2, .fz (x12 : Int), .fz (r15.1 : Int), .any, .fz (x18 : Int), .any] := h
        obtain rfl : u26 = (V.int r25.1) := r
        refine S_c ?_
        refine S_eqI ?_
        refine T_bl ?_
        refine S_ite hm (fun hc hm => ?_) (fun hc hm => ?_)
        · skip
          have hz := h
          cases hm
          exact q' _ _ ⟨rfl, _, hz⟩
        · skip
          refine T_test ?_
          refine S_op ?_
          refine S_varI 1 h rfl rfl ?_
          refine S_varI 1 h rfl rfl ?_
          refine S_eqI ?_
          refine T_bl ?_
          have hz := h
          cases hm
          exact q' _ _ ⟨rfl, _, hz⟩
      subst ek
      refine S_ite hm (fun hc hm => ?_) (fun hc hm => ?_)
      · skip
        refine S_varI 1 h rfl rfl ?_
        have hz := h
        cases hm
        exact hG _ _ _ _ rfl (St.unset (ts := [some (V.ref D20)]) (TM := [.own D20 a21]) (M := [.own A_pot_here c24.2, .fz (p_many : Int), .fz (p_letters : Int), .tree (lstS (flat (List Int))) D10 s14.2, .fz (x12 : Int), .fz (r15.1 : Int), .any, .any, .any]) (hz.weak ⟨.inr rfl, .inr rfl, .inr rfl, .inr rfl, .inr rfl, .inr rfl, .inr rfl, .inr rfl, .inl rfl, .inr rfl, trivial⟩) rfl rfl) rfl
      · have hz := h
        cases hm
        exact hN _ _ rfl (St.unset (ts := [some (V.ref D20)]) (TM := [.own D20 a21]) (M := [.own A_pot_here c24.2, .fz (p_many : Int), .fz (p_letters : Int), .tree (lstS (flat (List Int))) D10 s14.2, .fz (x12 : Int), .fz (r15.1 : Int), .any, .any, .any]) (hz.weak ⟨.inr rfl, .inr rfl, .inr rfl, .inr rfl, .inr rfl, .inr rfl, .inr rfl, .inr rfl, .inl rfl, .inr rfl, trivial⟩) rfl rfl)
    have h : St K B0 F H (some (V.ref D29) :: List.set (List.set (σ) 4 (some v13)) 5 (some (V.int r15.1))) [.own D29 ys28.1, .own A_pot_here ys28.2, .fz (p_many : Int), .fz (p_letters : Int), .tree (lstS (flat (List Int))) D10 s14.2, .fz (x12 : Int), .fz (r15.1 : Int), .any, .any, .any] := h
    refine S_gName ?_
    refine S_frz h hBD29 _ fun F h => ?_
    have h : St K B0 F H (List.set (List.set (List.set (σ) 4 (some v13)) 5 (some (V.int r15.1))) 6 (some (V.ref D29))) [.own A_pot_here ys28.2, .fz (p_many : Int), .fz (p_letters : Int), .tree (lstS (flat (List Int))) D10 s14.2, .fz (x12 : Int), .fz (r15.1 : Int), .fz (ys28.1 : List Int), .any, .any] := St.setF (v := (V.ref D29)) (x := (ys28.1 : List Int)) h.pop 6 (h.fz 0 rfl rfl)
    refine S_for ?_
    refine S_iR1 ?_
    refine S_cons ?_
    refine S_varI 0 h rfl rfl ?_
    refine S_nil ?_
    obtain ⟨xs30, hxs30, hm⟩ := ob hm
    refine S_rng1 (K := K) hxs30 fun J Y => ?_
    obtain ⟨s51, hs51, hm⟩ := ob hm
    refine S_fold (ts := []) (TM := []) (Mf := fun (s33 : (List Int) × (List (List Int))) => [.own A_pot_here s33.1, .fz (p_many : Int), .fz (p_letters : Int), .tree (lstS (flat (List Int))) D10 s33.2, .fz (x12 : Int), .fz (r15.1 : Int), .fz (ys28.1 : List Int), .any, .any]) Y hs51 (h.weak ⟨.inr rfl, .inr rfl, .inr rfl, .inr rfl, .inr rfl, .inr rfl, .inr rfl, .inl rfl, .inl rfl, trivial⟩) (fun s33 σ F H h => trivial) (fun i x31 s33 s' v32 σ F H D hx hb h hn => ?_) (fun σ F H h => ?_)
    · have hm := hb
      unfold m__law_rows_l3 at hm
      have h : St K B0 F H (some v32 :: σ) [.fz (x31 : Int), .own A_pot_here s33.1, .fz (p_many : Int), .fz (p_letters : Int), .tree (lstS (flat (List Int))) D10 s33.2, .fz (x12 : Int), .fz (r15.1 : Int), .fz (ys28.1 : List Int), .any, .any] := h
      refine S_gName ?_
      have h : St K B0 F H (List.set (σ) 7 (some v32)) [.own A_pot_here s33.1, .fz (p_many : Int), .fz (p_letters : Int), .tree (lstS (flat (List Int))) D10 s33.2, .fz (x12 : Int), .fz (r15.1 : Int), .fz (ys28.1 : List Int), .fz (x31 : Int), .any] := St.setF (v := v32) (x := (x31 : Int)) h.pop 7 (h.fz 0 rfl rfl)
      refine Q_asg ?_
      refine S_op ?_
      refine S_var 0 h rfl rfl fun v34 h => ?_
      refine S_tcall ?_
      refine S_cons ?_
      refine S_varO 1 h rfl rfl ?_
      refine S_cons ?_
      refine S_cb ?_
      refine S_cons ?_
      refine S_var 1 h rfl rfl fun v35 h => ?_
      refine S_nil ?_
      refine S_lenL (h.vF 0 rfl rfl) ?_
      have h := h.pop
      refine S_nil ?_
      obtain ⟨r36, hr36, hm⟩ := ob hm
      refine S_call1 (A := [.own A_pot_here s33.1, .fz ((List.length ys28.1 : Int) : Int)]) 1 h (by rfl) (slots_cons (SlotOk.ofOwn h 1 rfl) (slots_cons (ok_fz rfl) slots_nil)) (R__law_digit.mk _ _ hr36) rfl (fun F' H' L z => z) fun u37 F H h r => ?_
      have h : St K B0 F H (some v34 :: List.set (σ) 7 (some v32)) [.fz (ys28.1 : List Int), .own A_pot_here r36.2, .fz (p_many : Int), .fz (p_letters : Int), .tree (lstS (flat (List Int))) D10 s33.2, .fz (x12 : Int), .fz (r15.1 : Int), .fz (ys28.1 : List Int), .fz (x31 : Int), .any] := h
      obtain rfl : u37 = (V.int r36.1) := r
      obtain ⟨x39, hx39, hm⟩ := ob hm
      refine S_ixL h.pop (h.vF 0 rfl rfl) hx39 fun u38 h => ?_
      obtain rfl : u38 = (V.int x39) := h.fz 0 rfl rfl
      have h := h.pop
      refine S_gName ?_
      have h : St K B0 F H (List.set (List.set (σ) 7 (some v32)) 8 (some (V.int x39))) [.own A_pot_here r36.2, .fz (p_many : Int), .fz (p_letters : Int), .tree (lstS (flat (List Int))) D10 s33.2, .fz (x12 : Int), .fz (r15.1 : Int), .fz (ys28.1 : List Int), .fz (x31 : Int), .fz (x39 : Int)] := St.setF (v := (V.int x39)) (x := (x39 : Int)) h 8 rfl
      refine S_drop ?_
      refine S_bm ?_
      refine S_op ?_
      refine S_varT 0 h rfl rfl ?_
      refine S_varI 0 h rfl rfl ?_
      obtain ⟨x41, hx41, hm⟩ := ob hm
      refine S_ixN h 3 rfl hx41 fun j42 a43 e1j42 e2j42 e3j42 okj42 => ?_
      have h := h.focus 3 rfl e2j42 e3j42
      refine S_tyL (α := Int) (h.vO 0 rfl) ?_
      refine S_cons ?_
      refine S_op ?_
      refine S_tL ?_
      refine S_cons ?_
      refine S_varI 1 h rfl rfl ?_
      refine S_cons ?_
      refine S_varI 1 h rfl rfl ?_
      refine S_nil ?_
      refine S_lstO (xs := ([x39, x31] : List Int)) h (.cons rfl (.cons rfl .nil)) (Nat.le_of_ble_eq_true rfl) fun p44 F H hBp44 h => ?_
      refine S_cb ?_
      refine S_cons ?_
      refine S_op ?_
      refine S_varI 2 h rfl rfl ?_
      refine S_var 2 h rfl rfl fun v45 h => ?_
      obtain ⟨c46, hc46, hm⟩ := ob hm
      refine S_inD (dF h rfl) (dF h (h.fz 0 rfl rfl)) hc46 (by decide) ?_
      have h := h.pop
      refine S_nil ?_
      refine S_intB ?_
      obtain ⟨x48, hx48, hm⟩ := ob hm
      refine S_ixL h.pop (h.vO 0 rfl) hx48 fun u47 h => ?_
      obtain rfl : u47 = (V.int x48) := h.fz 0 rfl rfl
      have h := h.pop
      refine S_nil ?_
      obtain ⟨x49, hx49, hm⟩ := ob hm
      refine S_append 0 h (by rfl) rfl hx49 fun H h => ?_
      have h : St K B0 F H (some (V.ref a43) :: List.set (List.set (σ) 7 (some v32)) 8 (some (V.int x39))) [.own a43 x49, .own A_pot_here r36.2, .fz (p_many : Int), .fz (p_letters : Int), .tree (holS HO.lst (flat (List Int)) j42) D10 s33.2, .fz (x12 : Int), .fz (r15.1 : Int), .fz (ys28.1 : List Int), .fz (x31 : Int), .fz (x39 : Int)] := h
      obtain ⟨x50, hx50, hm⟩ := ob hm
      have h : St K B0 F H (List.set (List.set (σ) 7 (some v32)) 8 (some (V.int x39))) [.own A_pot_here r36.2, .fz (p_many : Int), .fz (p_letters : Int), .tree (lstS (flat (List Int))) D10 x50, .fz (x12 : Int), .fz (r15.1 : Int), .fz (ys28.1 : List Int), .fz (x31 : Int), .fz (x39 : Int)] := h.unfocusZ 3 rfl e3j42 e1j42 hx50
      have hz := h
      cases hm
      exact hn _ _ _ (hz.weak ⟨.inr rfl, .inr rfl, .inr rfl, .inr rfl, .inr rfl, .inr rfl, .inr rfl, .inl rfl, .inl rfl, trivial⟩)
    have h : St K B0 F H (σ) [.own A_pot_here s51.1, .fz (p_many : Int), .fz (p_letters : Int), .tree (lstS (flat (List Int))) D10 s51.2, .fz (x12 : Int), .fz (r15.1 : Int), .fz (ys28.1 : List Int), .any, .any] := h
    have hz := h
    cases hm
    exact hn _ _ _ (hz.weak ⟨.inr rfl, .inr rfl, .inr rfl, .inr rfl, .inl rfl, .inl rfl, .inl rfl, .inl rfl, .inl rfl, trivial⟩)
  have h : St K B0 F H (σ) [.own A_pot_here s52.1, .fz (p_many : Int), .fz (p_letters : Int), .tree (lstS (flat (List Int))) D10 s52.2, .any, .any, .any, .any, .any] := h
  refine Q_nx ?_
  refine S_ret ?_
  refine S_varT 0 h rfl rfl ?_
  have h := St.takeT (s := (lstS (flat (List Int)))) (g := D10) 3 h rfl
  have h : St K B0 F H (some (V.ref D10.1) :: σ) [.tree (lstS (flat (List Int))) D10 s52.2, .own A_pot_here s52.1, .fz (p_many : Int), .fz (p_letters : Int), .any, .any, .any, .any, .any, .any] := h
  obtain ⟨F, h⟩ : ∃ F, St K B0 F H (some (V.ref D10.1) :: σ) [.fz (s52.2 : List (List Int)), .own A_pot_here s52.1, .fz (p_many : Int), .fz (p_letters : Int), .any, .any, .any, .any, .any, .any] := St.frzT (fzLL fzL) 0 h rfl hBD10
  have hz := h
  cases hm
  exact q _ _ _ (hz.finF (AftM.own hz.ok 1 rfl rfl (AftM.skip (AftM.skip AftM.nil))))
theorem fn__law_rows {P : Program} {w : World} {K : Fg} {mg : Str → Option Value} {base : Heap} (bz : Blt mg) (kf : KF K) (cz : Cst mg) {f : Addr} {fd : FuncData} (F0 : Fun K "_law_rows" "_law_rows" s__law_rows f fd) (C__law_digit : Cal P w K mg base 1 "_law_digit" ["_law_pot_here", "_law_many"] R__law_digit) : FnOk P w K mg base CX0 2 f fd ["_law_pot_here", "_law_many", "_law_letters"] (Prom K R__law_rows) :=
  F0.ok sc__law_rows (prom_len 3 fun A s A' h => by cases h; rfl) fun cdv A outer s H vs Q E hr h => ⟨t__law_rows K, pss_cons (ps_setLc (i := 3) (own := [("_law_s", 7)]) (g := gName 7) (tt := tYes) (te := tLst (tNil)) (wi := iRng1 (tCons (tVar 1) (tNil))) rfl sc__law_rows.nd rfl rfl (sw_true rfl rfl rfl (by decide +kernel)) (pi_range1 (by rfl) bz.range (pa_cons (pv 1) (pa_nil))) (blkOk_by (N := ["_law_pot_here", "_law_many", "_law_letters", "_law_rows_here", "_law_x", "_law_sure", "_law_stays", "_law_s", "_law_goal"]) (sc := defScope s__law_rows) (by decide +kernel)) (fun _ _ _ _ _ => pg_name (i := 7) sc__law_rows.nd rfl (by first | exact .inl rfl | exact .inr rfl)) (fun _ _ _ _ _ => pts_nil) (fun _ _ _ _ _ => pe_lst (pa_nil))) (pss_cons (ps_for PassesOwn.never rfl (pi_range1 (by rfl) bz.range (pa_cons (pv 2) (pa_nil))) (pg_name (i := 4) sc__law_rows.nd rfl (.inl rfl)) (pss_cons (ps_set (i := 5) sc__law_rows.nd rfl (.inr rfl) (C__law_digit.pe (hr.mono (by decide)) (by rfl) (pa_cons (pv 0) (pa_cons (pv 1) (pa_nil))))) (pss_cons (ps_setLc (i := 6) (own := [("_law_s", 7)]) (g := gName 7) (tt := tOr (tTest (tOp rEq (tCall (Prom K R__law_digit) [] E0 (tCons (tVar 0) (tCons (tC (.int 2)) (tNil)))) (tC (.int 1)))) (tTest (tOp rEq (tVar 7) (tVar 5)))) (te := tVar 7) (wi := iRng1 (tCons (tVar 1) (tNil))) rfl sc__law_rows.nd rfl rfl (sw_true rfl rfl rfl (by decide +kernel)) (pi_range1 (by rfl) bz.range (pa_cons (pv 1) (pa_nil))) (blkOk_by (N := ["_law_pot_here", "_law_many", "_law_letters", "_law_rows_here", "_law_x", "_law_sure", "_law_stays", "_law_s", "_law_goal"]) (sc := defScope s__law_rows) (by decide +kernel)) (fun _ _ _ _ _ => pg_name (i := 7) sc__law_rows.nd rfl (by first | exact .inl rfl | exact .inr rfl)) (fun _ _ _ _ _ => pts_one (PW.pt (pw_or (pt_cmpR (r := rEq) op_eq (C__law_digit.pe (hr.mono (by decide)) (by rfl) (pa_cons (pv 0) (pa_cons (pe_int) (pa_nil)))) (pe_int) (nomark _)) (pw_or1 (pt_cmpR (r := rEq) op_eq (pv 7) (pv 5) (nomark _)))))) (fun _ _ _ _ _ => pv 7)) (pss_one (ps_for PassesOwn.never rfl (pi_range1 (by rfl) bz.range (pa_cons (pv 1) (pa_nil))) (pg_name (i := 7) sc__law_rows.nd rfl (.inl rfl)) (pss_cons (ps_set (i := 8) sc__law_rows.nd rfl (.inl rfl) (pe_ix (r := rIxL K) ix_list (pv 6) (C__law_digit.pe (hr.mono (by decide)) (by rfl) (pa_cons (pv 0) (pa_cons (pe_callB (r := rLenG K) cr_lenG (by rfl) bz.len (by decide +kernel) (pa_cons (pv 6) (pa_nil))) (pa_nil)))) (fun _ _ => rfl))) (pss_one (ps_expr (pe_bm PySem.F.plainAttrs_list PySem.F.slot_list_append PySem.F.type_list_append mt_append (pe_ix (r := rIxL K) ix_list (pv 3) (pv 7) (fun _ _ => rfl)) (pa_cons (pe_ix (r := rIxL K) ix_list (pe_lst (pa_cons (pv 8) (pa_cons (pv 7) (pa_nil)))) (pe_callTy (r := rIntG) cr_intG (by rfl) bz.int_ (by decide +kernel) (pa_cons (pe_cmpR (r := (rInD K)) (op_inD (hu65 hr)) (pv 7) (pv 6) (by with_unfolding_all rfl)) (pa_nil))) (fun _ _ => rfl)) (pa_nil))))))))))) (pss_one (ps_ret (pv 3)))), sem__law_rows kf h (fun _ _ z => z) fun _ _ z => z⟩
theorem ok__law_rows {P : Program} {w : World} {K : Fg} {mg : Str → Option Value} {base : Heap} (bz : Blt mg) (kf : KF K) (cz : Cst mg) {f : Addr} {fd : FuncData} (F0 : Fun K "_law_rows" "_law_rows" s__law_rows f fd) (g0 : mg "_law_rows" = some (.ref f)) (b0 : Binds K fd ["_law_pot_here", "_law_many", "_law_letters"] []) (C__law_digit : Cal P w K mg base 1 "_law_digit" ["_law_pot_here", "_law_many"] R__law_digit) : Cal P w K mg base 2 "_law_rows" ["_law_pot_here", "_law_many", "_law_letters"] R__law_rows :=
  Cal.mk' (fn__law_rows bz kf cz F0 C__law_digit) g0 F0.kp b0

def m__law_told_c1  (x35 : Int) (s39 : (List Int)) : Option (Int × (List Int)) := (m__law_digit s39 (2 : Int)).bind fun r41 => some (r41.1, r41.2)
def m__law_told_l0 (r1 : Int × (List Int)) (r3 : Int × (List Int)) (r5 : Int × (List Int)) (x28 : Int) (s30 : (List (Tup Int)) × (List Int)) : Option ((List (Tup Int)) × (List Int)) := (atI ([r1.1, ((2 : Int) + r3.1), r5.1] : List Int) (2 : Int)).bind fun x33 => (rangeO x33).bind fun xs34 => (mapS m__law_told_c1 xs34 s30.2).bind fun ys43 => (appO s30.1 (Tup.mk ys43.1)).bind fun x46 => some (x46, ys43.2)
def m__law_told (p_pot_here : List Int) : Option ((HT ((List Str) × (List Str) × (List Str) × (List (List Int)) × (List (Tup Int)) × Unit)) × (List Int)) := (m__law_digit p_pot_here (3 : Int)).bind fun r1 => (m__law_digit r1.2 (3 : Int)).bind fun r3 => (m__law_digit r3.2 (3 : Int)).bind fun r5 => (m__law_words r5.2 (List.sum ([r1.1, ((2 : Int) + r3.1), r5.1] : List Int))).bind fun r9 => (atI ([r1.1, ((2 : Int) + r3.1), r5.1] : List Int) (1 : Int)).bind fun x14 => (atI ([r1.1, ((2 : Int) + r3.1), r5.1] : List Int) (0 : Int)).bind fun x18 => (atI ([(1 : Int), (2 : Int), (4 : Int)] : List Int) x18).bind fun x20 => (m__law_rows r9.2 x14 x20).bind fun r21 => (atI ([r1.1, ((2 : Int) + r3.1), r5.1] : List Int) (1 : Int)).bind fun x26 => (rangeO x26).bind fun xs27 => (foldO (m__law_told_l0 r1 r3 r5) xs27 (([] : List (Tup Int)), r21.2)).bind fun s47 => (atI ([r1.1, ((2 : Int) + r3.1), r5.1] : List Int) (0 : Int)).bind fun x51 => (atI ([r1.1, ((2 : Int) + r3.1), r5.1] : List Int) (0 : Int)).bind fun x56 => (atI ([r1.1, ((2 : Int) + r3.1), r5.1] : List Int) (1 : Int)).bind fun x62 => (atI ([r1.1, ((2 : Int) + r3.1), r5.1] : List Int) (1 : Int)).bind fun x67 => some ((HT.mk ((cutL r9.1 none (some x51)), (cutL (cutL r9.1 (some x56) none) none (some x62)), (cutL (cutL r9.1 (some x56) none) (some x67) none), r21.1, s47.1, ()) : HT ((List Str) × (List Str) × (List Str) × (List (List Int)) × (List (Tup Int)) × Unit)), s47.2)
inductive R__law_told : List Slot → RSlot → List Slot → Prop
  | mk (p_pot_here : List Int) {A_pot_here : Addr} {r : (HT ((List Str) × (List Str) × (List Str) × (List (List Int)) × (List (Tup Int)) × Unit)) × (List Int)} : m__law_told p_pot_here = some r → R__law_told [.own A_pot_here p_pot_here] (.fz r.1) [.own A_pot_here r.2]
def t__law_told (K : Fg) : TS := tSeq (tAsg (tLst (tCons (tCall (Prom K R__law_digit) [] E0 (tCons (tVar 0) (tCons (tC (.int 3)) (tNil)))) (tCons (tOp (rI0 fun i j => .int (i + j)) (tC (.int 2)) (tCall (Prom K R__law_digit) [] E0 (tCons (tVar 0) (tCons (tC (.int 3)) (tNil))))) (tCons (tCall (Prom K R__law_digit) [] E0 (tCons (tVar 0) (tCons (tC (.int 3)) (tNil)))) (tNil))))) (gName 1)) (tSeq (tAsg (tCall (Prom K R__law_words) [] E0 (tCons (tVar 0) (tCons (tCB (rSum K) (tCons (tVar 1) (tNil))) (tNil)))) (gName 2)) (tSeq (tAsg (tCall (Prom K R__law_rows) [] E0 (tCons (tVar 0) (tCons (tOp (rIxL K) (tVar 1) (tC (.int 1))) (tCons (tOp (rIxL K) (tLst (tCons (tC (.int 1)) (tCons (tC (.int 2)) (tCons (tC (.int 4)) (tNil))))) (tOp (rIxL K) (tVar 1) (tC (.int 0)))) (tNil))))) (gName 3)) (tSeq (tAsg (tLst (tNil)) (gName 4)) (tSeq (tFor (iRng1 (tCons (tOp (rIxL K) (tVar 1) (tC (.int 1))) (tNil))) (gName 5) (tDrop (tBM K "list" rAppend (tVar 4) (tCons (tCB (rTupG K) (tCons (tLc (iRng1 (tCons (tOp (rIxL K) (tVar 1) (tC (.int 2))) (tNil))) (gName 8) (tYes) (tCall (Prom K R__law_digit) [] E0 (tCons (tVar 0) (tCons (tC (.int 2)) (tNil)))) [8]) (tNil))) (tNil))))) (tSeq (tPar 6 7 (tCons (L2.tSl (rSlL K) (tVar 2) (tNoPart) (tPart (tOp (rIxL K) (tVar 1) (tC (.int 0))))) (tCons (L2.tSl (rSlL K) (tVar 2) (tPart (tOp (rIxL K) (tVar 1) (tC (.int 0)))) (tNoPart)) (tNil)))) (tRet (tTup (tCons (tVar 6) (tCons (L2.tSl (rSlL K) (tVar 7) (tNoPart) (tPart (tOp (rIxL K) (tVar 1) (tC (.int 1))))) (tCons (L2.tSl (rSlL K) (tVar 7) (tPart (tOp (rIxL K) (tVar 1) (tC (.int 1)))) (tNoPart)) (tCons (tVar 3) (tCons (tVar 4) (tNil)))))))))))))
theorem sc__law_told : FnScope ["_law_pot_here", "_law_sizes", "_law_words_here", "_law_rows_here", "_law_lights", "_law_s", "_law_keys", "_law_others", "_law_lamp"] ["_law_pot_here"] (defScope s__law_told) := ⟨rfl, rfl, rfl, by decide +kernel, rfl, by decide +kernel, by decide +kernel⟩
theorem sem__law_told {K : Fg} (kf : KF K) {vs : List V} {H : Hp} {Q : VK} {E : XK} (h : Prom K R__law_told vs H Q E) {D : Ends} (hD : ∀ u H, Q u H → D.rt u H) (hN : ∀ σ H, Q .non H → D.nx σ H) : t__law_told K D (start ["_law_pot_here", "_law_sizes", "_law_words_here", "_law_rows_here", "_law_lights", "_law_s", "_law_keys", "_law_others", "_law_lamp"] vs) H := by
  obtain ⟨F, A, rs, A', hR, fh, hS, nd, q⟩ := h
  cases hR with | @mk p_pot_here A_pot_here r hm => ?_
  have hl := slots_len hS
  obtain ⟨va0, rfl⟩ := len1 (vs := vs) (by simpa using hl.symm)
  have h : St K ⟨F, H, [A_pot_here]⟩ F H [some va0, none, none, none, none, none, none, none, none] [.own A_pot_here p_pot_here, .any, .any, .any, .any, .any, .any, .any, .any] := St.start fh hS nd [none, none, none, none, none, none, none, none]
  generalize hB : (⟨F, H, [A_pot_here]⟩ : Base) = B0 at h
  have q0 := q
  have q : ∀ u F' H', Fin K B0 (.fz r.1) [.own A_pot_here r.2] u F' H' → D.rt u H' := by subst hB; exact fun u F' H' z => hD _ _ (q u F' H' z)
  have qN : ∀ σ F' H', Fin K B0 (.fz r.1) [.own A_pot_here r.2] .non F' H' → D.nx σ H' := by subst hB; exact fun σ F' H' z => hN _ _ (q0 _ F' H' z)
  clear hB q0 hD hN
  rw [show start ["_law_pot_here", "_law_sizes", "_law_words_here", "_law_rows_here", "_law_lights", "_law_s", "_law_keys", "_law_others", "_law_lamp"] [va0] = [some va0, none, none, none, none, none, none, none, none] from rfl]
  unfold t__law_told
  unfold m__law_told at hm
  refine Q_asg ?_
  refine S_tL ?_
  refine S_cons ?_
  refine S_tcall ?_
  refine S_cons ?_
  refine S_varO 0 h rfl rfl ?_
  refine S_cons ?_
  refine S_c ?_
  refine S_nil ?_
  obtain ⟨r1, hr1, hm⟩ := ob hm
  refine S_call1 (A := [.own A_pot_here p_pot_here, .fz ((3 : Int) : Int)]) 0 h (by rfl) (slots_cons (SlotOk.ofOwn h 0 rfl) (slots_cons (ok_fz rfl) slots_nil)) (R__law_digit.mk _ _ hr1) rfl (fun F' H' L z => z) fun u2 F H h r => ?_
  have h : St K B0 F H ([some va0, none, none, none, none, none, none, none, none]) [.own A_pot_here r1.2, .any, .any, .any, .any, .any, .any, .any, .any] := h
  obtain rfl : u2 = (V.int r1.1) := r
  refine S_cons ?_
  refine S_op ?_
  refine S_c ?_
  refine S_tcall ?_
  refine S_cons ?_
  refine S_varO 0 h rfl rfl ?_
  refine S_cons ?_
  refine S_c ?_
  refine S_nil ?_
  obtain ⟨r3, hr3, hm⟩ := ob hm
  refine S_call1 (A := [.own A_pot_here r1.2, .fz ((3 : Int) : Int)]) 0 h (by rfl) (slots_cons (SlotOk.ofOwn h 0 rfl) (slots_cons (ok_fz rfl) slots_nil)) (R__law_digit.mk _ _ hr3) rfl (fun F' H' L z => z) fun u4 F H h r => ?_
  have h : St K B0 F H ([some va0, none, none, none, none, none, none, none, none]) [.own A_pot_here r3.2, .any, .any, .any, .any, .any, .any, .any, .any] := h
  obtain rfl : u4 = (V.int r3.1) := r
  refine S_I0 ?_
  refine S_cons ?_
  refine S_tcall ?_
  refine S_cons ?_
  refine S_varO 0 h rfl rfl ?_
  refine S_cons ?_
  refine S_c ?_
  refine S_nil ?_
  obtain ⟨r5, hr5, hm⟩ := ob hm
  refine S_call1 (A := [.own A_pot_here r3.2, .fz ((3 : Int) : Int)]) 0 h (by rfl) (slots_cons (SlotOk.ofOwn h 0 rfl) (slots_cons (ok_fz rfl) slots_nil)) (R__law_digit.mk _ _ hr5) rfl (fun F' H' L z => z) fun u6 F H h r => ?_
  have h : St K B0 F H ([some va0, none, none, none, none, none, none, none, none]) [.own A_pot_here r5.2, .any, .any, .any, .any, .any, .any, .any, .any] := h
  obtain rfl : u6 = (V.int r5.1) := r
  refine S_nil ?_
  refine S_lstO (xs := ([r1.1, ((2 : Int) + r3.1), r5.1] : List Int)) h (.cons rfl (.cons rfl (.cons rfl .nil))) (Nat.le_of_ble_eq_true rfl) fun p7 F H hBp7 h => ?_
  refine S_gName ?_
  refine S_frz h hBp7 _ fun F h => ?_
  have h : St K B0 F H (List.set [some va0, none, none, none, none, none, none, none, none] 1 (some (V.ref p7))) [.own A_pot_here r5.2, .fz (([r1.1, ((2 : Int) + r3.1), r5.1] : List Int) : List Int), .any, .any, .any, .any, .any, .any, .any] := St.setF (v := (V.ref p7)) (x := (([r1.1, ((2 : Int) + r3.1), r5.1] : List Int) : List Int)) h.pop 1 (h.fz 0 rfl rfl)
  refine Q_asg ?_
  refine S_tcall ?_
  refine S_cons ?_
  refine S_varO 0 h rfl rfl ?_
  refine S_cons ?_
  refine S_cb ?_
  refine S_cons ?_
  refine S_var 0 h rfl rfl fun v8 h => ?_
  refine S_nil ?_
  refine S_sum (h.vF 0 rfl rfl) ?_
  have h := h.pop
  refine S_nil ?_
  obtain ⟨r9, hr9, hm⟩ := ob hm
  refine S_call1 (A := [.own A_pot_here r5.2, .fz ((List.sum ([r1.1, ((2 : Int) + r3.1), r5.1] : List Int)) : Int)]) 0 h (by rfl) (slots_cons (SlotOk.ofOwn h 0 rfl) (slots_cons (ok_fz rfl) slots_nil)) (R__law_words.mk _ _ hr9) rfl (fun F' H' L z => z) fun u10 F H h r => ?_
  obtain ⟨p11, rfl, hBp11, h⟩ := r
  replace hBp11 : B0.H p11 = none := hBp11 p11 (List.mem_singleton.mpr rfl)
  have h : St K B0 F H (some (V.ref p11) :: List.set [some va0, none, none, none, none, none, none, none, none] 1 (some (V.ref p7))) [.own p11 r9.1, .own A_pot_here r9.2, .fz (([r1.1, ((2 : Int) + r3.1), r5.1] : List Int) : List Int), .any, .any, .any, .any, .any, .any, .any] := h
  refine S_gName ?_
  refine S_frz h hBp11 _ fun F h => ?_
  have h : St K B0 F H (List.set (List.set [some va0, none, none, none, none, none, none, none, none] 1 (some (V.ref p7))) 2 (some (V.ref p11))) [.own A_pot_here r9.2, .fz (([r1.1, ((2 : Int) + r3.1), r5.1] : List Int) : List Int), .fz (r9.1 : List Str), .any, .any, .any, .any, .any, .any] := St.setF (v := (V.ref p11)) (x := (r9.1 : List Str)) h.pop 2 (h.fz 0 rfl rfl)
  refine Q_asg ?_
  refine S_tcall ?_
  refine S_cons ?_
  refine S_varO 0 h rfl rfl ?_
  refine S_cons ?_
  refine S_op ?_
  refine S_var 0 h rfl rfl fun v12 h => ?_
  refine S_c ?_
  obtain ⟨x14, hx14, hm⟩ := ob hm
  refine S_ixL h.pop (h.vF 0 rfl rfl) hx14 fun u13 h => ?_
  obtain rfl : u13 = (V.int x14) := h.fz 0 rfl rfl
  have h := h.pop
  refine S_cons ?_
  refine S_op ?_
  refine S_tL ?_
  refine S_cons ?_
  refine S_c ?_
  refine S_cons ?_
  refine S_c ?_
  refine S_cons ?_
  refine S_c ?_
  refine S_nil ?_
  refine S_lstO (xs := ([(1 : Int), (2 : Int), (4 : Int)] : List Int)) h (.cons rfl (.cons rfl (.cons rfl .nil))) (Nat.le_of_ble_eq_true rfl) fun p15 F H hBp15 h => ?_
  refine S_op ?_
  refine S_var 1 h rfl rfl fun v16 h => ?_
  refine S_c ?_
  obtain ⟨x18, hx18, hm⟩ := ob hm
  refine S_ixL h.pop (h.vF 0 rfl rfl) hx18 fun u17 h => ?_
  obtain rfl : u17 = (V.int x18) := h.fz 0 rfl rfl
  have h := h.pop
  obtain ⟨x20, hx20, hm⟩ := ob hm
  refine S_ixL h.pop (h.vO 0 rfl) hx20 fun u19 h => ?_
  obtain rfl : u19 = (V.int x20) := h.fz 0 rfl rfl
  have h := h.pop
  refine S_nil ?_
  obtain ⟨r21, hr21, hm⟩ := ob hm
  refine S_call1 (A := [.own A_pot_here r9.2, .fz (x14 : Int), .fz (x20 : Int)]) 0 h (by rfl) (slots_cons (SlotOk.ofOwn h 0 rfl) (slots_cons (ok_fz rfl) (slots_cons (ok_fz rfl) slots_nil))) (R__law_rows.mk _ _ _ hr21) rfl (fun F' H' L z => z) fun u22 F H h r => ?_
  have h : St K B0 F H (List.set (List.set [some va0, none, none, none, none, none, none, none, none] 1 (some (V.ref p7))) 2 (some (V.ref p11))) [.own A_pot_here r21.2, .fz (([r1.1, ((2 : Int) + r3.1), r5.1] : List Int) : List Int), .fz (r9.1 : List Str), .any, .any, .any, .any, .any, .any] := h
  have h := h.push r
  refine S_gName ?_
  have h : St K B0 F H (List.set (List.set (List.set [some va0, none, none, none, none, none, none, none, none] 1 (some (V.ref p7))) 2 (some (V.ref p11))) 3 (some u22)) [.own A_pot_here r21.2, .fz (([r1.1, ((2 : Int) + r3.1), r5.1] : List Int) : List Int), .fz (r9.1 : List Str), .fz (r21.1 : List (List Int)), .any, .any, .any, .any, .any] := St.setF (v := u22) (x := (r21.1 : List (List Int))) h.pop 3 (h.fz 0 rfl rfl)
  refine Q_asg ?_
  refine S_tL ?_
  refine S_nil ?_
  refine S_lstO (xs := ([] : List (Tup Int))) h (.nil) (Nat.le_of_ble_eq_true rfl) fun p23 F H hBp23 h => ?_
  refine S_gName ?_
  have h : St K B0 F H (List.set (List.set (List.set (List.set [some va0, none, none, none, none, none, none, none, none] 1 (some (V.ref p7))) 2 (some (V.ref p11))) 3 (some u22)) 4 (some (V.ref p23))) [.own A_pot_here r21.2, .fz (([r1.1, ((2 : Int) + r3.1), r5.1] : List Int) : List Int), .fz (r9.1 : List Str), .fz (r21.1 : List (List Int)), .own p23 ([] : List (Tup Int)), .any, .any, .any, .any] := St.setOwn 4 h
  refine Q_for ?_
  refine S_iR1 ?_
  refine S_cons ?_
  refine S_op ?_
  refine S_var 0 h rfl rfl fun v24 h => ?_
  refine S_c ?_
  obtain ⟨x26, hx26, hm⟩ := ob hm
  refine S_ixL h.pop (h.vF 0 rfl rfl) hx26 fun u25 h => ?_
  obtain rfl : u25 = (V.int x26) := h.fz 0 rfl rfl
  have h := h.pop
  refine S_nil ?_
  obtain ⟨xs27, hxs27, hm⟩ := ob hm
  refine S_rng1 (K := K) hxs27 fun J Y => ?_
  obtain ⟨s47, hs47, hm⟩ := ob hm
  refine S_fold (ts := []) (TM := []) (Mf := fun (s30 : (List (Tup Int)) × (List Int)) => [.own A_pot_here s30.2, .fz (([r1.1, ((2 : Int) + r3.1), r5.1] : List Int) : List Int), .fz (r9.1 : List Str), .fz (r21.1 : List (List Int)), .own p23 s30.1, .any, .any, .any, .any]) Y hs47 (h.weak ⟨.inr rfl, .inr rfl, .inr rfl, .inr rfl, .inr rfl, .inl rfl, .inl rfl, .inl rfl, .inl rfl, trivial⟩) (fun s30 σ F H h => trivial) (fun i x28 s30 s' v29 σ F H D hx hb h hn => ?_) (fun σ F H h => ?_)
  · have hm := hb
    unfold m__law_told_l0 at hm
    have h : St K B0 F H (some v29 :: σ) [.fz (x28 : Int), .own A_pot_here s30.2, .fz (([r1.1, ((2 : Int) + r3.1), r5.1] : List Int) : List Int), .fz (r9.1 : List Str), .fz (r21.1 : List (List Int)), .own p23 s30.1, .any, .any, .any, .any] := h
    refine S_gName ?_
    have h : St K B0 F H (List.set (σ) 5 (some v29)) [.own A_pot_here s30.2, .fz (([r1.1, ((2 : Int) + r3.1), r5.1] : List Int) : List Int), .fz (r9.1 : List Str), .fz (r21.1 : List (List Int)), .own p23 s30.1, .fz (x28 : Int), .any, .any, .any] := St.setF (v := v29) (x := (x28 : Int)) h.pop 5 (h.fz 0 rfl rfl)
    refine S_drop ?_
    refine S_bm ?_
    refine S_varO 0 h rfl rfl ?_
    refine S_tyL (α := (Tup Int)) (h.vO 4 rfl) ?_
    refine S_cons ?_
    refine S_cb ?_
    refine S_cons ?_
    refine S_lc ?_
    refine S_iR1 ?_
    refine S_cons ?_
    refine S_op ?_
    refine S_var 0 h rfl rfl fun v31 h => ?_
    refine S_c ?_
    obtain ⟨x33, hx33, hm⟩ := ob hm
    refine S_ixL h.pop (h.vF 0 rfl rfl) hx33 fun u32 h => ?_
    obtain rfl : u32 = (V.int x33) := h.fz 0 rfl rfl
    have h := h.pop
    refine S_nil ?_
    obtain ⟨xs34, hxs34, hm⟩ := ob hm
    refine S_rng1 (K := K) hxs34 fun J Y => ?_
    obtain ⟨ys43, hys43, hm⟩ := ob hm
    refine S_mapS (ts := []) (TM := []) (Mf := fun s39 => [.own A_pot_here s39, .fz (([r1.1, ((2 : Int) + r3.1), r5.1] : List Int) : List Int), .fz (r9.1 : List Str), .fz (r21.1 : List (List Int)), .own p23 s30.1, .fz (x28 : Int), .any, .any, .any]) Y hys43 h rfl (fun _ => ⟨rfl, trivial⟩) (rng1_len hxs34) (fun s39 w F H h => trivial) (fun x35 s39 z v36 D37 a38 F H G N hf h hG => ?_) (fun D44 F H hBD44 h => ?_)
    · have hm := hf
      unfold m__law_told_c1 at hm
      have h : St K B0 F H (some v36 :: some (V.ref D37) :: wipe (List.set (σ) 5 (some v29)) [8]) [.fz (x35 : Int), .own D37 a38, .own A_pot_here s39, .fz (([r1.1, ((2 : Int) + r3.1), r5.1] : List Int) : List Int), .fz (r9.1 : List Str), .fz (r21.1 : List (List Int)), .own p23 s30.1, .fz (x28 : Int), .any, .any, .any] := h
      refine S_gName ?_
      have h : St K B0 F H (some (V.ref D37) :: List.set (wipe (List.set (σ) 5 (some v29)) [8]) 8 (some v36)) [.own D37 a38, .own A_pot_here s39, .fz (([r1.1, ((2 : Int) + r3.1), r5.1] : List Int) : List Int), .fz (r9.1 : List Str), .fz (r21.1 : List (List Int)), .own p23 s30.1, .fz (x28 : Int), .any, .any, .fz (x35 : Int)] := St.setF (v := v36) (x := (x35 : Int)) h.pop 9 (h.fz 0 rfl rfl)
      refine ⟨(wipe_set (by decide)).trans wipe_idem, ?_⟩
      refine if1 ?_
      refine S_tcall ?_
      refine S_cons ?_
      refine S_varO 1 h rfl rfl ?_
      refine S_cons ?_
      refine S_c ?_
      refine S_nil ?_
      obtain ⟨r41, hr41, hm⟩ := ob hm
      refine S_call1 (A := [.own A_pot_here s39, .fz ((2 : Int) : Int)]) 1 h (by rfl) (slots_cons (SlotOk.ofOwn h 1 rfl) (slots_cons (ok_fz rfl) slots_nil)) (R__law_digit.mk _ _ hr41) rfl (fun F' H' L z => z) fun u42 F H h r => ?_
      have h : St K B0 F H (some (V.ref D37) :: List.set (wipe (List.set (σ) 5 (some v29)) [8]) 8 (some v36)) [.own D37 a38, .own A_pot_here r41.2, .fz (([r1.1, ((2 : Int) + r3.1), r5.1] : List Int) : List Int), .fz (r9.1 : List Str), .fz (r21.1 : List (List Int)), .own p23 s30.1, .fz (x28 : Int), .any, .any, .fz (x35 : Int)] := h
      obtain rfl : u42 = (V.int r41.1) := r
      have hz := h
      cases hm
      exact hG _ _ _ (St.unset (ts := [some (V.ref D37)]) (TM := [.own D37 a38]) (M := [.own A_pot_here r41.2, .fz (([r1.1, ((2 : Int) + r3.1), r5.1] : List Int) : List Int), .fz (r9.1 : List Str), .fz (r21.1 : List (List Int)), .own p23 s30.1, .fz (x28 : Int), .any, .any, .any]) (hz.weak ⟨.inr rfl, .inr rfl, .inr rfl, .inr rfl, .inr rfl, .inr rfl, .inr rfl, .inr rfl, .inr rfl, .inl rfl, trivial⟩) rfl rfl) rfl
    have h : St K B0 F H (some (V.ref D44) :: List.set (σ) 5 (some v29)) [.own D44 ys43.1, .own A_pot_here ys43.2, .fz (([r1.1, ((2 : Int) + r3.1), r5.1] : List Int) : List Int), .fz (r9.1 : List Str), .fz (r21.1 : List (List Int)), .own p23 s30.1, .fz (x28 : Int), .any, .any, .any] := h
    refine S_frz h hBD44 _ fun F h => ?_
    refine S_nil ?_
    refine S_tupL h.pop (h.vF 0 rfl rfl) fun p45 F H h => ?_
    refine S_nil ?_
    obtain ⟨x46, hx46, hm⟩ := ob hm
    refine S_append 4 h.pop (by rfl) (h.fz 0 rfl rfl) hx46 fun H h => ?_
    have h : St K B0 F H (List.set (σ) 5 (some v29)) [.own A_pot_here ys43.2, .fz (([r1.1, ((2 : Int) + r3.1), r5.1] : List Int) : List Int), .fz (r9.1 : List Str), .fz (r21.1 : List (List Int)), .own p23 x46, .fz (x28 : Int), .any, .any, .any] := h
    have hz := h
    cases hm
    exact hn _ _ _ (hz.weak ⟨.inr rfl, .inr rfl, .inr rfl, .inr rfl, .inr rfl, .inl rfl, .inl rfl, .inl rfl, .inl rfl, trivial⟩)
  have h : St K B0 F H (σ) [.own A_pot_here s47.2, .fz (([r1.1, ((2 : Int) + r3.1), r5.1] : List Int) : List Int), .fz (r9.1 : List Str), .fz (r21.1 : List (List Int)), .own p23 s47.1, .any, .any, .any, .any] := h
  refine Q_nx ?_
  refine Q_par ?_
  refine S_cons ?_
  refine S_sl ?_
  refine S_var 0 h rfl rfl fun v48 h => ?_
  refine S_noPart ?_
  refine S_part ?_
  refine S_op ?_
  refine S_var 1 h rfl rfl fun v49 h => ?_
  refine S_c ?_
  obtain ⟨x51, hx51, hm⟩ := ob hm
  refine S_ixL h.pop (h.vF 0 rfl rfl) hx51 fun u50 h => ?_
  obtain rfl : u50 = (V.int x51) := h.fz 0 rfl rfl
  have h := h.pop
  refine S_partI ?_
  refine S_slL h.pop (h.vF 0 rfl rfl) fun p52 F H hBp52 h => ?_
  refine S_frz h hBp52 _ fun F h => ?_
  refine S_cons ?_
  refine S_sl ?_
  refine S_var 1 h rfl rfl fun v53 h => ?_
  refine S_part ?_
  refine S_op ?_
  refine S_var 2 h rfl rfl fun v54 h => ?_
  refine S_c ?_
  obtain ⟨x56, hx56, hm⟩ := ob hm
  refine S_ixL h.pop (h.vF 0 rfl rfl) hx56 fun u55 h => ?_
  obtain rfl : u55 = (V.int x56) := h.fz 0 rfl rfl
  have h := h.pop
  refine S_partI ?_
  refine S_noPart ?_
  refine S_slL h.pop (h.vF 0 rfl rfl) fun p57 F H hBp57 h => ?_
  refine S_frz h hBp57 _ fun F h => ?_
  refine S_nil ?_
  refine S_parE ?_
  have h : St K B0 F H (some (V.ref p57) :: some (V.ref p52) :: List.set (σ) 6 (some (V.ref p52))) [.fz ((cutL r9.1 (some x56) none) : List Str), .fz ((cutL r9.1 none (some x51)) : List Str), .own A_pot_here s47.2, .fz (([r1.1, ((2 : Int) + r3.1), r5.1] : List Int) : List Int), .fz (r9.1 : List Str), .fz (r21.1 : List (List Int)), .own p23 s47.1, .any, .fz ((cutL r9.1 none (some x51)) : List Str), .any, .any] := St.setF (v := (V.ref p52)) (x := ((cutL r9.1 none (some x51)) : List Str)) h 8 (h.fz 1 rfl rfl)
  have h : St K B0 F H (some (V.ref p57) :: some (V.ref p52) :: List.set (List.set (σ) 6 (some (V.ref p52))) 7 (some (V.ref p57))) [.fz ((cutL r9.1 (some x56) none) : List Str), .fz ((cutL r9.1 none (some x51)) : List Str), .own A_pot_here s47.2, .fz (([r1.1, ((2 : Int) + r3.1), r5.1] : List Int) : List Int), .fz (r9.1 : List Str), .fz (r21.1 : List (List Int)), .own p23 s47.1, .any, .fz ((cutL r9.1 none (some x51)) : List Str), .fz ((cutL r9.1 (some x56) none) : List Str), .any] := St.setF (v := (V.ref p57)) (x := ((cutL r9.1 (some x56) none) : List Str)) h 9 (h.fz 0 rfl rfl)
  have h := h.pop.pop
  obtain ⟨F, h⟩ : ∃ F, St K B0 F H (List.set (List.set (σ) 6 (some (V.ref p52))) 7 (some (V.ref p57))) [.own A_pot_here s47.2, .fz (([r1.1, ((2 : Int) + r3.1), r5.1] : List Int) : List Int), .fz (r9.1 : List Str), .fz (r21.1 : List (List Int)), .fz (s47.1 : List (Tup Int)), .any, .fz ((cutL r9.1 none (some x51)) : List Str), .fz ((cutL r9.1 (some x56) none) : List Str), .any] := St.frzT fzL 4 h rfl (hb1 hBp23)
  refine S_ret ?_
  refine S_tT ?_
  refine S_cons ?_
  refine S_var 0 h rfl rfl fun v58 h => ?_
  refine S_cons ?_
  refine S_sl ?_
  refine S_var 1 h rfl rfl fun v59 h => ?_
  refine S_noPart ?_
  refine S_part ?_
  refine S_op ?_
  refine S_var 2 h rfl rfl fun v60 h => ?_
  refine S_c ?_
  obtain ⟨x62, hx62, hm⟩ := ob hm
  refine S_ixL h.pop (h.vF 0 rfl rfl) hx62 fun u61 h => ?_
  obtain rfl : u61 = (V.int x62) := h.fz 0 rfl rfl
  have h := h.pop
  refine S_partI ?_
  refine S_slL h.pop (h.vF 0 rfl rfl) fun p63 F H hBp63 h => ?_
  refine S_frz h hBp63 _ fun F h => ?_
  refine S_cons ?_
  refine S_sl ?_
  refine S_var 2 h rfl rfl fun v64 h => ?_
  refine S_part ?_
  refine S_op ?_
  refine S_var 3 h rfl rfl fun v65 h => ?_
  refine S_c ?_
  obtain ⟨x67, hx67, hm⟩ := ob hm
  refine S_ixL h.pop (h.vF 0 rfl rfl) hx67 fun u66 h => ?_
  obtain rfl : u66 = (V.int x67) := h.fz 0 rfl rfl
  have h := h.pop
  refine S_partI ?_
  refine S_noPart ?_
  refine S_slL h.pop (h.vF 0 rfl rfl) fun p68 F H hBp68 h => ?_
  refine S_frz h hBp68 _ fun F h => ?_
  refine S_cons ?_
  refine S_var 3 h rfl rfl fun v69 h => ?_
  refine S_cons ?_
  refine S_var 4 h rfl rfl fun v70 h => ?_
  refine S_nil ?_
  refine S_htup (x := (((cutL r9.1 none (some x51)), (cutL (cutL r9.1 (some x56) none) none (some x62)), (cutL (cutL r9.1 (some x56) none) (some x67) none), r21.1, s47.1, ()) : (List Str) × (List Str) × (List Str) × (List (List Int)) × (List (Tup Int)) × Unit)) h.pop.pop.pop.pop.pop (fl_cons (x := ((cutL r9.1 none (some x51)) : List Str)) (h.fz 4 rfl rfl) (fl_cons (x := ((cutL (cutL r9.1 (some x56) none) none (some x62)) : List Str)) (h.fz 3 rfl rfl) (fl_cons (x := ((cutL (cutL r9.1 (some x56) none) (some x67) none) : List Str)) (h.fz 2 rfl rfl) (fl_cons (x := (r21.1 : List (List Int))) (h.fz 1 rfl rfl) (fl_cons (x := (s47.1 : List (Tup Int))) (h.fz 0 rfl rfl) fl_nil))))) (Nat.le_of_ble_eq_true rfl) fun p71 F H h => ?_
  have hz := h
  cases hm
  exact q _ _ _ (hz.finF (AftM.own hz.ok 1 rfl rfl AftM.nil))
theorem fn__law_told {P : Program} {w : World} {K : Fg} {mg : Str → Option Value} {base : Heap} (bz : Blt mg) (kf : KF K) (cz : Cst mg) {f : Addr} {fd : FuncData} (F0 : Fun K "_law_told" "_law_told" s__law_told f fd) (C__law_digit : Cal P w K mg base 1 "_law_digit" ["_law_pot_here", "_law_many"] R__law_digit) (C__law_rows : Cal P w K mg base 2 "_law_rows" ["_law_pot_here", "_law_many", "_law_letters"] R__law_rows) (C__law_words : Cal P w K mg base 2 "_law_words" ["_law_pot_here", "_law_many"] R__law_words) : FnOk P w K mg base CX0 3 f fd ["_law_pot_here"] (Prom K R__law_told) :=
  F0.ok sc__law_told (prom_len 1 fun A s A' h => by cases h; rfl) fun cdv A outer s H vs Q E hr h => ⟨t__law_told K, pss_cons (ps_set (i := 1) sc__law_told.nd rfl (.inl rfl) (pe_lst (pa_cons (C__law_digit.pe (hr.mono (by decide)) (by rfl) (pa_cons (pv 0) (pa_cons (pe_int) (pa_nil)))) (pa_cons (pe_op op_add (pe_int) (C__law_digit.pe (hr.mono (by decide)) (by rfl) (pa_cons (pv 0) (pa_cons (pe_int) (pa_nil))))) (pa_cons (C__law_digit.pe (hr.mono (by decide)) (by rfl) (pa_cons (pv 0) (pa_cons (pe_int) (pa_nil)))) (pa_nil)))))) (pss_cons (ps_set (i := 2) sc__law_told.nd rfl (.inl rfl) (C__law_words.pe (hr.mono (by decide)) (by rfl) (pa_cons (pv 0) (pa_cons (pe_callB (r := rSum K) (cr_sum rfl) (by rfl) bz.sum (by decide +kernel) (pa_cons (pv 1) (pa_nil))) (pa_nil))))) (pss_cons (ps_set (i := 3) sc__law_told.nd rfl (.inl rfl) (C__law_rows.pe (hr.mono (by decide)) (by rfl) (pa_cons (pv 0) (pa_cons (pe_ix (r := rIxL K) ix_list (pv 1) (pe_int) (fun _ _ => rfl)) (pa_cons (pe_ix (r := rIxL K) ix_list (pe_lst (pa_cons (pe_int) (pa_cons (pe_int) (pa_cons (pe_int) (pa_nil))))) (pe_ix (r := rIxL K) ix_list (pv 1) (pe_int) (fun _ _ => rfl)) (fun _ _ => rfl)) (pa_nil)))))) (pss_cons (ps_set (i := 4) sc__law_told.nd rfl (.inl rfl) (pe_lst (pa_nil))) (pss_cons (ps_for PassesOwn.never rfl (pi_range1 (by rfl) bz.range (pa_cons (pe_ix (r := rIxL K) ix_list (pv 1) (pe_int) (fun _ _ => rfl)) (pa_nil))) (pg_name (i := 5) sc__law_told.nd rfl (.inl rfl)) (pss_one (ps_expr (pe_bm PySem.F.plainAttrs_list PySem.F.slot_list_append PySem.F.type_list_append mt_append (pv 4) (pa_cons (pe_callTy (r := rTupG K) cr_tupG (by rfl) bz.tuple (by decide +kernel) (pa_cons (pe_lc (own := [("_law_lamp", 8)]) (g := gName 8) (tt := tYes) (te := tCall (Prom K R__law_digit) [] E0 (tCons (tVar 0) (tCons (tC (.int 2)) (tNil)))) (wi := iRng1 (tCons (tOp (rIxL K) (tVar 1) (tC (.int 2))) (tNil))) rfl sc__law_told.nd (pi_range1 (by rfl) bz.range (pa_cons (pe_ix (r := rIxL K) ix_list (pv 1) (pe_int) (fun _ _ => rfl)) (pa_nil))) (blkOk_by (N := ["_law_pot_here", "_law_sizes", "_law_words_here", "_law_rows_here", "_law_lights", "_law_s", "_law_keys", "_law_others", "_law_lamp"]) (sc := defScope s__law_told) (by decide +kernel)) (fun _ _ _ _ _ => pg_name (i := 8) sc__law_told.nd rfl (by first | exact .inl rfl | exact .inr rfl)) (fun _ _ _ _ _ => pts_nil) (fun _ _ _ _ _ => C__law_digit.pe (hr.mono (by decide)) (by rfl) (pa_cons (pv 0) (pa_cons (pe_int) (pa_nil))))) (pa_nil))) (pa_nil)))))) (pss_cons (ps_par (i := 6) (j := 7) rfl sc__law_told.nd rfl rfl (by decide) rfl rfl (pa_cons (pe_slice (r := (rSlL K)) sl_list (pv 2) (po_none) (po_some (pe_ix (r := rIxL K) ix_list (pv 1) (pe_int) (fun _ _ => rfl)))) (pa_cons (pe_slice (r := (rSlL K)) sl_list (pv 2) (po_some (pe_ix (r := rIxL K) ix_list (pv 1) (pe_int) (fun _ _ => rfl))) (po_none)) (pa_nil))) (by rfl)) (pss_one (ps_ret (pe_tup (pa_cons (pv 6) (pa_cons (pe_slice (r := (rSlL K)) sl_list (pv 7) (po_none) (po_some (pe_ix (r := rIxL K) ix_list (pv 1) (pe_int) (fun _ _ => rfl)))) (pa_cons (pe_slice (r := (rSlL K)) sl_list (pv 7) (po_some (pe_ix (r := rIxL K) ix_list (pv 1) (pe_int) (fun _ _ => rfl))) (po_none)) (pa_cons (pv 3) (pa_cons (pv 4) (pa_nil)))))))))))))), sem__law_told kf h (fun _ _ z => z) fun _ _ z => z⟩
theorem ok__law_told {P : Program} {w : World} {K : Fg} {mg : Str → Option Value} {base : Heap} (bz : Blt mg) (kf : KF K) (cz : Cst mg) {f : Addr} {fd : FuncData} (F0 : Fun K "_law_told" "_law_told" s__law_told f fd) (g0 : mg "_law_told" = some (.ref f)) (b0 : Binds K fd ["_law_pot_here"] []) (C__law_digit : Cal P w K mg base 1 "_law_digit" ["_law_pot_here", "_law_many"] R__law_digit) (C__law_rows : Cal P w K mg base 2 "_law_rows" ["_law_pot_here", "_law_many", "_law_letters"] R__law_rows) (C__law_words : Cal P w K mg base 2 "_law_words" ["_law_pot_here", "_law_many"] R__law_words) : Cal P w K mg base 3 "_law_told" ["_law_pot_here"] R__law_told :=
  Cal.mk' (fn__law_told bz kf cz F0 C__law_digit C__law_rows C__law_words) g0 F0.kp b0

def m__law_parts_l0 (p_one : Tup Int) (p_names : List (Tup Int)) (p_other : Tup Int) (x5 : Int) (s7 : Unit) : Option (Out Unit Bool) := (atI (Tup.l p_one) (0 : Int)).bind fun x11 => (atI p_names x11).bind fun x13 => (atI (Tup.l x13) x5).bind fun x15 => (atI (Tup.l p_other) (0 : Int)).bind fun x19 => (atI p_names x19).bind fun x21 => (atI (Tup.l x21) x5).bind fun x23 => (if (!(decide (x15 = x23))) = true then ((atI (Tup.l p_one) (1 : Int)).bind fun x27 => (atI p_names x27).bind fun x29 => (atI (Tup.l x29) x5).bind fun x31 => some (decide (x31 = x15))).bind fun c40 => (if c40 = true then (atI (Tup.l p_other) (1 : Int)).bind fun x35 => (atI p_names x35).bind fun x37 => (atI (Tup.l x37) x5).bind fun x39 => some (decide (x39 = x23)) else some false).bind fun c41 => some c41 else some false).bind fun c42 => if c42 = true then some (.rt true) else some (.nx ())
def m__law_parts (p_names : List (Tup Int)) (p_one : Tup Int) (p_other : Tup Int) : Option Bool := (atI p_names (0 : Int)).bind fun x3 => (rangeO (List.length (Tup.l x3) : Int)).bind fun xs4 => (forO (m__law_parts_l0 p_one p_names p_other) xs4 ()).bind fun s43 => match s43 with | .nx s1 => some false | .rt r1 => some r1 | .bk _ => none
inductive R__law_parts : List Slot → RSlot → List Slot → Prop
  | mk (p_names : List (Tup Int)) (p_one : Tup Int) (p_other : Tup Int)  {r : Bool} : m__law_parts p_names p_one p_other = some r → R__law_parts [.fz p_names, .fz p_one, .fz p_other] (.fz r) [.any, .any, .any]
def t__law_parts (K : Fg) : TS := tSeq (tFor (iRng1 (tCons (tCB (rLenG K) (tCons (tOp (rIxL K) (tVar 0) (tC (.int 0))) (tNil))) (tNil))) (gName 3) (tSeq (tPar 4 5 (tCons (tOp (rIxT K) (tOp (rIxL K) (tVar 0) (tOp (rIxT K) (tVar 1) (tC (.int 0)))) (tVar 3)) (tCons (tOp (rIxT K) (tOp (rIxL K) (tVar 0) (tOp (rIxT K) (tVar 2) (tC (.int 0)))) (tVar 3)) (tNil)))) (tIfS (tAnd (tTest (tOp rNe (tVar 4) (tVar 5))) (tAnd (tTest (tOp rEq (tOp (rIxT K) (tOp (rIxL K) (tVar 0) (tOp (rIxT K) (tVar 1) (tC (.int 1)))) (tVar 3)) (tVar 4))) (tTest (tOp rEq (tOp (rIxT K) (tOp (rIxL K) (tVar 0) (tOp (rIxT K) (tVar 2) (tC (.int 1)))) (tVar 3)) (tVar 5))))) (tRet (tC (.bl true))) tNext))) (tRet (tC (.bl false)))
theorem sc__law_parts : FnScope ["_law_names", "_law_one", "_law_other", "_law_place", "_law_near", "_law_far"] ["_law_names", "_law_one", "_law_other"] (defScope s__law_parts) := ⟨rfl, rfl, rfl, by decide +kernel, rfl, by decide +kernel, by decide +kernel⟩
theorem sem__law_parts {K : Fg} (kf : KF K) {vs : List V} {H : Hp} {Q : VK} {E : XK} (h : Prom K R__law_parts vs H Q E) {D : Ends} (hD : ∀ u H, Q u H → D.rt u H) (hN : ∀ σ H, Q .non H → D.nx σ H) : t__law_parts K D (start ["_law_names", "_law_one", "_law_other", "_law_place", "_law_near", "_law_far"] vs) H := by
  obtain ⟨F, A, rs, A', hR, fh, hS, nd, q⟩ := h
  cases hR with | @mk p_names p_one p_other  r hm => ?_
  have hl := slots_len hS
  obtain ⟨va0, va1, va2, rfl⟩ := len3 (vs := vs) (by simpa using hl.symm)
  have h : St K ⟨F, H, []⟩ F H [some va0, some va1, some va2, none, none, none] [.fz (p_names : List (Tup Int)), .fz (p_one : Tup Int), .fz (p_other : Tup Int), .any, .any, .any] := St.start fh hS nd [none, none, none]
  generalize hB : (⟨F, H, []⟩ : Base) = B0 at h
  have q0 := q
  have q : ∀ u F' H', Fin K B0 (.fz r) [.any, .any, .any] u F' H' → D.rt u H' := by subst hB; exact fun u F' H' z => hD _ _ (q u F' H' z)
  have qN : ∀ σ F' H', Fin K B0 (.fz r) [.any, .any, .any] .non F' H' → D.nx σ H' := by subst hB; exact fun σ F' H' z => hN _ _ (q0 _ F' H' z)
  clear hB q0 hD hN
  rw [show start ["_law_names", "_law_one", "_law_other", "_law_place", "_law_near", "_law_far"] [va0, va1, va2] = [some va0, some va1, some va2, none, none, none] from rfl]
  unfold t__law_parts
  unfold m__law_parts at hm
  have hrt : ∀ (r' : Bool) u H', (some r' : Option _) = some r → (fun r u H' => ∃ F', Fin K B0 (.fz r) [.any, .any, .any] u F' H') r' u H' → D.rt u H' := fun r' u H' e z => by cases e; exact q _ _ _ z.choose_spec
  refine Q_for ?_
  refine S_iR1 ?_
  refine S_cons ?_
  refine S_cb ?_
  refine S_cons ?_
  refine S_op ?_
  refine S_var 0 h rfl rfl fun v1 h => ?_
  refine S_c ?_
  obtain ⟨x3, hx3, hm⟩ := ob hm
  refine S_ixL h.pop (h.vF 0 rfl rfl) hx3 fun u2 h => ?_
  refine S_nil ?_
  refine S_lenT h (h.fz 0 rfl rfl) ?_
  have h := h.pop
  refine S_nil ?_
  obtain ⟨xs4, hxs4, hm⟩ := ob hm
  refine S_rng1 (K := K) hxs4 fun J Y => ?_
  obtain ⟨s43, hs43, hm⟩ := ob hm
  refine S_forO (ts := []) (TM := []) (Mf := fun (s7 : Unit) => [.fz (p_names : List (Tup Int)), .fz (p_one : Tup Int), .fz (p_other : Tup Int), .any, .any, .any]) (R := (fun r u H' => ∃ F', Fin K B0 (.fz r) [.any, .any, .any] u F' H' : Bool → V → Hp → Prop)) Y hs43 (h.weak ⟨.inr rfl, .inr rfl, .inr rfl, .inl rfl, .inl rfl, .inl rfl, trivial⟩) (fun s7 σ F H h => trivial) (fun i x5 s7 o' v6 σ F H D hx hb h hn hct hbk hrt => ?_) (fun s1 σ F H ho h => ?_) (fun r1 u H' ho hr => ?_)
  · have hm := hb
    unfold m__law_parts_l0 at hm
    have h : St K B0 F H (some v6 :: σ) [.fz (x5 : Int), .fz (p_names : List (Tup Int)), .fz (p_one : Tup Int), .fz (p_other : Tup Int), .any, .any, .any] := h
    refine S_gName ?_
    have h : St K B0 F H (List.set (σ) 3 (some v6)) [.fz (p_names : List (Tup Int)), .fz (p_one : Tup Int), .fz (p_other : Tup Int), .fz (x5 : Int), .any, .any] := St.setF (v := v6) (x := (x5 : Int)) h.pop 3 (h.fz 0 rfl rfl)
    refine Q_par ?_
    refine S_cons ?_
    refine S_op ?_
    refine S_op ?_
    refine S_var 0 h rfl rfl fun v8 h => ?_
    refine S_op ?_
    refine S_var 1 h rfl rfl fun v9 h => ?_
    refine S_c ?_
    obtain ⟨x11, hx11, hm⟩ := ob hm
    refine S_ixT h.pop (h.fz 0 rfl rfl) hx11 fun u10 h => ?_
    obtain rfl : u10 = (V.int x11) := h.fz 0 rfl rfl
    have h := h.pop
    obtain ⟨x13, hx13, hm⟩ := ob hm
    refine S_ixL h.pop (h.vF 0 rfl rfl) hx13 fun u12 h => ?_
    refine S_varI 1 h rfl rfl ?_
    obtain ⟨x15, hx15, hm⟩ := ob hm
    refine S_ixT h.pop (h.fz 0 rfl rfl) hx15 fun u14 h => ?_
    obtain rfl : u14 = (V.int x15) := h.fz 0 rfl rfl
    have h := h.pop
    refine S_cons ?_
    refine S_op ?_
    refine S_op ?_
    refine S_var 0 h rfl rfl fun v16 h => ?_
    refine S_op ?_
    refine S_var 1 h rfl rfl fun v17 h => ?_
    refine S_c ?_
    obtain ⟨x19, hx19, hm⟩ := ob hm
    refine S_ixT h.pop (h.fz 0 rfl rfl) hx19 fun u18 h => ?_
    obtain rfl : u18 = (V.int x19) := h.fz 0 rfl rfl
    have h := h.pop
    obtain ⟨x21, hx21, hm⟩ := ob hm
    refine S_ixL h.pop (h.vF 0 rfl rfl) hx21 fun u20 h => ?_
    refine S_varI 1 h rfl rfl ?_
    obtain ⟨x23, hx23, hm⟩ := ob hm
    refine S_ixT h.pop (h.fz 0 rfl rfl) hx23 fun u22 h => ?_
    obtain rfl : u22 = (V.int x23) := h.fz 0 rfl rfl
    have h := h.pop
    refine S_nil ?_
    refine S_parE ?_
    have h : St K B0 F H (List.set (List.set (σ) 3 (some v6)) 4 (some (V.int x15))) [.fz (p_names : List (Tup Int)), .fz (p_one : Tup Int), .fz (p_other : Tup Int), .fz (x5 : Int), .fz (x15 : Int), .any] := St.setF (v := (V.int x15)) (x := (x15 : Int)) h 4 rfl
    have h : St K B0 F H (List.set (List.set (List.set (σ) 3 (some v6)) 4 (some (V.int x15))) 5 (some (V.int x23))) [.fz (p_names : List (Tup Int)), .fz (p_one : Tup Int), .fz (p_other : Tup Int), .fz (x5 : Int), .fz (x15 : Int), .fz (x23 : Int)] := St.setF (v := (V.int x23)) (x := (x23 : Int)) h 5 rfl
    refine S_if ?_
    obtain ⟨c42, hc42, hm⟩ := ob hm
    refine S_and (a := (!(decide (x15 = x23)))) (c := c42) h (fun Q' q' => ?_) (fun hc F H Q' h q' => ?_) (fun hc => ?_) fun F H h => ?_
    · skip
      refine T_test ?_
      refine S_op ?_
      refine S_varI 0 h rfl rfl ?_
      refine S_varI 0 h rfl rfl ?_
      refine S_neI ?_
      refine T_bl ?_
      have hz := h
      exact q' _ _ hz
    · have hm := ifT hc hc42
      obtain ⟨c40, hc40, hm⟩ := ob hm
      obtain ⟨c41, hc41, hm⟩ := ob hm
      refine S_and (a := c40) (c := c41) h (fun Q' q' => ?_) (fun hc F H Q' h q' => ?_) (fun hc => ?_) fun F H h => ?_
      · have hm := hc40
        refine T_test ?_
        refine S_op ?_
        refine S_op ?_
        refine S_op ?_
        refine S_var 0 h rfl rfl fun v24 h => ?_
        refine S_op ?_
        refine S_var 1 h rfl rfl fun v25 h => ?_
        refine S_c ?_
        obtain ⟨x27, hx27, hm⟩ := ob hm
        refine S_ixT h.pop (h.fz 0 rfl rfl) hx27 fun u26 h => ?_
        obtain rfl : u26 = (V.int x27) := h.fz 0 rfl rfl
        have h := h.pop
        obtain ⟨x29, hx29, hm⟩ := ob hm
        refine S_ixL h.pop (h.vF 0 rfl rfl) hx29 fun u28 h => ?_
        refine S_varI 1 h rfl rfl ?_
        obtain ⟨x31, hx31, hm⟩ := ob hm
        refine S_ixT h.pop (h.fz 0 rfl rfl) hx31 fun u30 h => ?_
        obtain rfl : u30 = (V.int x31) := h.fz 0 rfl rfl
        have h := h.pop
        refine S_varI 0 h rfl rfl ?_
        refine S_eqI ?_
        refine T_bl ?_
        have hz := h
        cases hm
        exact q' _ _ hz
      · have hm := ifT hc hc41
        refine T_test ?_
        refine S_op ?_
        refine S_op ?_
        refine S_op ?_
        refine S_var 0 h rfl rfl fun v32 h => ?_
        refine S_op ?_
        refine S_var 1 h rfl rfl fun v33 h => ?_
        refine S_c ?_
        obtain ⟨x35, hx35, hm⟩ := ob hm
        refine S_ixT h.pop (h.fz 0 rfl rfl) hx35 fun u34 h => ?_
        obtain rfl : u34 = (V.int x35) := h.fz 0 rfl rfl
        have h := h.pop
        obtain ⟨x37, hx37, hm⟩ := ob hm
        refine S_ixL h.pop (h.vF 0 rfl rfl) hx37 fun u36 h => ?_
        refine S_varI 1 h rfl rfl ?_
        obtain ⟨x39, hx39, hm⟩ := ob hm
        refine S_ixT h.pop (h.fz 0 rfl rfl) hx39 fun u38 h => ?_
        obtain rfl : u38 = (V.int x39) := h.fz 0 rfl rfl
        have h := h.pop
        refine S_varI 0 h rfl rfl ?_
        refine S_eqI ?_
        refine T_bl ?_
        have hz := h
        cases hm
        exact q' _ _ hz
      · exact (Option.some.inj (ifF hc hc41)).symm
      have hz := h
      cases hm
      exact q' _ _ hz
    · exact (Option.some.inj (ifF hc hc42)).symm
    refine S_ite hm (fun hc hm => ?_) (fun hc hm => ?_)
    · skip
      refine S_ret ?_
      refine S_c ?_
      have hz := h
      cases hm
      exact hrt _ _ _ rfl ⟨_, (hz.finB aft0)⟩
    refine S_next ?_
    have hz := h
    cases hm
    exact hn _ _ _ _ rfl (hz.weak ⟨.inr rfl, .inr rfl, .inr rfl, .inl rfl, .inl rfl, .inl rfl, trivial⟩)
  rotate_left
  · subst ho
    cases hm
    exact hrt _ _ _ rfl hr
  subst ho
  have h : St K B0 F H (σ) [.fz (p_names : List (Tup Int)), .fz (p_one : Tup Int), .fz (p_other : Tup Int), .any, .any, .any] := h
  refine Q_nx ?_
  refine S_ret ?_
  refine S_c ?_
  have hz := h
  cases hm
  exact q _ _ _ (hz.finB aft0)
theorem fn__law_parts {P : Program} {w : World} {K : Fg} {mg : Str → Option Value} {base : Heap} (bz : Blt mg) (kf : KF K) (cz : Cst mg) {f : Addr} {fd : FuncData} (F0 : Fun K "_law_parts" "_law_parts" s__law_parts f fd)  : FnOk P w K mg base CX0 1 f fd ["_law_names", "_law_one", "_law_other"] (Prom K R__law_parts) :=
  F0.ok sc__law_parts (prom_len 3 fun A s A' h => by cases h; rfl) fun cdv A outer s H vs Q E hr h => ⟨t__law_parts K, pss_cons (ps_for PassesOwn.never rfl (pi_range1 (by rfl) bz.range (pa_cons (pe_callB (r := rLenG K) cr_lenG (by rfl) bz.len (by decide +kernel) (pa_cons (pe_ix (r := rIxL K) ix_list (pv 0) (pe_int) (fun _ _ => rfl)) (pa_nil))) (pa_nil))) (pg_name (i := 3) sc__law_parts.nd rfl (.inl rfl)) (pss_cons (ps_par (i := 4) (j := 5) rfl sc__law_parts.nd rfl rfl (by decide) rfl rfl (pa_cons (pe_ix (r := rIxT K) ix_tup (pe_ix (r := rIxL K) ix_list (pv 0) (pe_ix (r := rIxT K) ix_tup (pv 1) (pe_int) (fun _ _ => rfl)) (fun _ _ => rfl)) (pv 3) (fun _ _ => rfl)) (pa_cons (pe_ix (r := rIxT K) ix_tup (pe_ix (r := rIxL K) ix_list (pv 0) (pe_ix (r := rIxT K) ix_tup (pv 2) (pe_int) (fun _ _ => rfl)) (fun _ _ => rfl)) (pv 3) (fun _ _ => rfl)) (pa_nil))) (by rfl)) (pss_one (ps_if (PW.pt (pw_and (pt_cmpR (r := rNe) op_ne (pv 4) (pv 5) (nomark _)) (pw_and (pt_cmpR (r := rEq) op_eq (pe_ix (r := rIxT K) ix_tup (pe_ix (r := rIxL K) ix_list (pv 0) (pe_ix (r := rIxT K) ix_tup (pv 1) (pe_int) (fun _ _ => rfl)) (fun _ _ => rfl)) (pv 3) (fun _ _ => rfl)) (pv 4) (nomark _)) (pw_and1 (pt_cmpR (r := rEq) op_eq (pe_ix (r := rIxT K) ix_tup (pe_ix (r := rIxL K) ix_list (pv 0) (pe_ix (r := rIxT K) ix_tup (pv 2) (pe_int) (fun _ _ => rfl)) (fun _ _ => rfl)) (pv 3) (fun _ _ => rfl)) (pv 5) (nomark _)))))) (pss_one (ps_ret (pe_bl))) pss_nil)))) (pss_one (ps_ret (pe_bl))), sem__law_parts kf h (fun _ _ z => z) fun _ _ z => z⟩
theorem ok__law_parts {P : Program} {w : World} {K : Fg} {mg : Str → Option Value} {base : Heap} (bz : Blt mg) (kf : KF K) (cz : Cst mg) {f : Addr} {fd : FuncData} (F0 : Fun K "_law_parts" "_law_parts" s__law_parts f fd) (g0 : mg "_law_parts" = some (.ref f)) (b0 : Binds K fd ["_law_names", "_law_one", "_law_other"] [])  : Cal P w K mg base 1 "_law_parts" ["_law_names", "_law_one", "_law_other"] R__law_parts :=
  Cal.mk' (fn__law_parts bz kf cz F0) g0 F0.kp b0

def m__law_clashes_l2 (p_rows_here : List (List Int)) (x11 : Int) (x6 : Int) (x16 : Int) (s18 : (List (HT (Int × (Tup Int) × (Tup Int) × Unit)))) : Option (List (HT (Int × (Tup Int) × (Tup Int) × Unit))) := (((atI p_rows_here x11).bind fun x21 => (atI x21 x6).bind fun x23 => (atI p_rows_here x16).bind fun x26 => (atI x26 x6).bind fun x28 => if (!(decide (x23 = x28))) = true then (atI p_rows_here x11).bind fun x32 => (atI x32 x6).bind fun x34 => (atI p_rows_here x16).bind fun x38 => (atI x38 x6).bind fun x40 => (appO s18 (HT.mk (x6, (Tup.mk [x11, x34] : Tup Int), (Tup.mk [x16, x40] : Tup Int), ()) : HT (Int × (Tup Int) × (Tup Int) × Unit))).bind fun x43 => some (x43) else some (s18) : Option (List (HT (Int × (Tup Int) × (Tup Int) × Unit))))).bind fun j29 => some (j29)
def m__law_clashes_l1 (p_rows_here : List (List Int)) (x6 : Int) (x11 : Int) (s13 : (List (HT (Int × (Tup Int) × (Tup Int) × Unit)))) : Option (List (HT (Int × (Tup Int) × (Tup Int) × Unit))) := (rangeO2 (x11 + (1 : Int)) (List.length p_rows_here : Int)).bind fun xs15 => (foldO (m__law_clashes_l2 p_rows_here x11 x6) xs15 (s13)).bind fun s44 => some (s44)
def m__law_clashes_l0 (p_rows_here : List (List Int)) (x6 : Int) (s8 : (List (HT (Int × (Tup Int) × (Tup Int) × Unit)))) : Option (List (HT (Int × (Tup Int) × (Tup Int) × Unit))) := (rangeO (List.length p_rows_here : Int)).bind fun xs10 => (foldO (m__law_clashes_l1 p_rows_here x6) xs10 (s8)).bind fun s45 => some (s45)
def m__law_clashes (p_rows_here : List (List Int)) : Option (List (HT (Int × (Tup Int) × (Tup Int) × Unit))) := (atI p_rows_here (0 : Int)).bind fun x4 => (rangeO (List.length x4 : Int)).bind fun xs5 => (foldO (m__law_clashes_l0 p_rows_here) xs5 (([] : List (HT (Int × (Tup Int) × (Tup Int) × Unit))))).bind fun s46 => some s46
inductive R__law_clashes : List Slot → RSlot → List Slot → Prop
  | mk (p_rows_here : List (List Int))  {r : List (HT (Int × (Tup Int) × (Tup Int) × Unit))} : m__law_clashes p_rows_here = some r → R__law_clashes [.fz p_rows_here] (.fr r) [.any]
def t__law_clashes (K : Fg) : TS := tSeq (tAsg (tLst (tNil)) (gName 1)) (tSeq (tFor (iRng1 (tCons (tCB (rLenG K) (tCons (tOp (rIxL K) (tVar 0) (tC (.int 0))) (tNil))) (tNil))) (gName 2) (tFor (iRng1 (tCons (tCB (rLenG K) (tCons (tVar 0) (tNil))) (tNil))) (gName 3) (tFor (iRng2 (tCons (tOp (rI0 fun i j => .int (i + j)) (tVar 3) (tC (.int 1))) (tCons (tCB (rLenG K) (tCons (tVar 0) (tNil))) (tNil)))) (gName 4) (tIfS (tTest (tOp rNe (tOp (rIxL K) (tOp (rIxL K) (tVar 0) (tVar 3)) (tVar 2)) (tOp (rIxL K) (tOp (rIxL K) (tVar 0) (tVar 4)) (tVar 2)))) (tDrop (tBM K "list" rAppend (tVar 1) (tCons (tTup (tCons (tVar 2) (tCons (tTup (tCons (tVar 3) (tCons (tOp (rIxL K) (tOp (rIxL K) (tVar 0) (tVar 3)) (tVar 2)) (tNil)))) (tCons (tTup (tCons (tVar 4) (tCons (tOp (rIxL K) (tOp (rIxL K) (tVar 0) (tVar 4)) (tVar 2)) (tNil)))) (tNil))))) (tNil)))) (tNext))))) (tRet (tVar 1)))
theorem sc__law_clashes : FnScope ["_law_rows_here", "_law_found", "_law_x", "_law_s", "_law_u"] ["_law_rows_here"] (defScope s__law_clashes) := ⟨rfl, rfl, rfl, by decide +kernel, rfl, by decide +kernel, by decide +kernel⟩
theorem sem__law_clashes {K : Fg} (kf : KF K) {vs : List V} {H : Hp} {Q : VK} {E : XK} (h : Prom K R__law_clashes vs H Q E) {D : Ends} (hD : ∀ u H, Q u H → D.rt u H) (hN : ∀ σ H, Q .non H → D.nx σ H) : t__law_clashes K D (start ["_law_rows_here", "_law_found", "_law_x", "_law_s", "_law_u"] vs) H := by
  obtain ⟨F, A, rs, A', hR, fh, hS, nd, q⟩ := h
  cases hR with | @mk p_rows_here  r hm => ?_
  have hl := slots_len hS
  obtain ⟨va0, rfl⟩ := len1 (vs := vs) (by simpa using hl.symm)
  have h : St K ⟨F, H, []⟩ F H [some va0, none, none, none, none] [.fz (p_rows_here : List (List Int)), .any, .any, .any, .any] := St.start fh hS nd [none, none, none, none]
  generalize hB : (⟨F, H, []⟩ : Base) = B0 at h
  have q0 := q
  have q : ∀ u F' H', Fin K B0 (.fr r) [.any] u F' H' → D.rt u H' := by subst hB; exact fun u F' H' z => hD _ _ (q u F' H' z)
  have qN : ∀ σ F' H', Fin K B0 (.fr r) [.any] .non F' H' → D.nx σ H' := by subst hB; exact fun σ F' H' z => hN _ _ (q0 _ F' H' z)
  clear hB q0 hD hN
  rw [show start ["_law_rows_here", "_law_found", "_law_x", "_law_s", "_law_u"] [va0] = [some va0, none, none, none, none] from rfl]
  unfold t__law_clashes
  unfold m__law_clashes at hm
  refine Q_asg ?_
  refine S_tL ?_
  refine S_nil ?_
  refine S_lstO (xs := ([] : List (HT (Int × (Tup Int) × (Tup Int) × Unit)))) h (.nil) (Nat.le_of_ble_eq_true rfl) fun p1 F H hBp1 h => ?_
  refine S_gName ?_
  have h : St K B0 F H (List.set [some va0, none, none, none, none] 1 (some (V.ref p1))) [.fz (p_rows_here : List (List Int)), .own p1 ([] : List (HT (Int × (Tup Int) × (Tup Int) × Unit))), .any, .any, .any] := St.setOwn 1 h
  refine Q_for ?_
  refine S_iR1 ?_
  refine S_cons ?_
  refine S_cb ?_
  refine S_cons ?_
  refine S_op ?_
  refine S_var 0 h rfl rfl fun v2 h => ?_
  refine S_c ?_
  obtain ⟨x4, hx4, hm⟩ := ob hm
  refine S_ixL h.pop (h.vF 0 rfl rfl) hx4 fun u3 h => ?_
  refine S_nil ?_
  refine S_lenL (h.vF 0 rfl rfl) ?_
  have h := h.pop
  refine S_nil ?_
  obtain ⟨xs5, hxs5, hm⟩ := ob hm
  refine S_rng1 (K := K) hxs5 fun J Y => ?_
  obtain ⟨s46, hs46, hm⟩ := ob hm
  refine S_fold (ts := []) (TM := []) (Mf := fun (s8 : (List (HT (Int × (Tup Int) × (Tup Int) × Unit)))) => [.fz (p_rows_here : List (List Int)), .own p1 s8, .any, .any, .any]) Y hs46 (h.weak ⟨.inr rfl, .inr rfl, .inl rfl, .inl rfl, .inl rfl, trivial⟩) (fun s8 σ F H h => trivial) (fun i x6 s8 s' v7 σ F H D hx hb h hn => ?_) (fun σ F H h => ?_)
  · have hm := hb
    unfold m__law_clashes_l0 at hm
    have h : St K B0 F H (some v7 :: σ) [.fz (x6 : Int), .fz (p_rows_here : List (List Int)), .own p1 s8, .any, .any, .any] := h
    refine S_gName ?_
    have h : St K B0 F H (List.set (σ) 2 (some v7)) [.fz (p_rows_here : List (List Int)), .own p1 s8, .fz (x6 : Int), .any, .any] := St.setF (v := v7) (x := (x6 : Int)) h.pop 2 (h.fz 0 rfl rfl)
    refine S_for ?_
    refine S_iR1 ?_
    refine S_cons ?_
    refine S_cb ?_
    refine S_cons ?_
    refine S_var 0 h rfl rfl fun v9 h => ?_
    refine S_nil ?_
    refine S_lenL (h.vF 0 rfl rfl) ?_
    have h := h.pop
    refine S_nil ?_
    obtain ⟨xs10, hxs10, hm⟩ := ob hm
    refine S_rng1 (K := K) hxs10 fun J Y => ?_
    obtain ⟨s45, hs45, hm⟩ := ob hm
    refine S_fold (ts := []) (TM := []) (Mf := fun (s13 : (List (HT (Int × (Tup Int) × (Tup Int) × Unit)))) => [.fz (p_rows_here : List (List Int)), .own p1 s13, .fz (x6 : Int), .any, .any]) Y hs45 (h.weak ⟨.inr rfl, .inr rfl, .inr rfl, .inl rfl, .inl rfl, trivial⟩) (fun s13 σ F H h => trivial) (fun i x11 s13 s' v12 σ F H D hx hb h hn => ?_) (fun σ F H h => ?_)
    · have hm := hb
      unfold m__law_clashes_l1 at hm
      have h : St K B0 F H (some v12 :: σ) [.fz (x11 : Int), .fz (p_rows_here : List (List Int)), .own p1 s13, .fz (x6 : Int), .any, .any] := h
      refine S_gName ?_
      have h : St K B0 F H (List.set (σ) 3 (some v12)) [.fz (p_rows_here : List (List Int)), .own p1 s13, .fz (x6 : Int), .fz (x11 : Int), .any] := St.setF (v := v12) (x := (x11 : Int)) h.pop 3 (h.fz 0 rfl rfl)
      refine S_for ?_
      refine S_iR2 ?_
      refine S_cons ?_
      refine S_op ?_
      refine S_varI 0 h rfl rfl ?_
      refine S_c ?_
      refine S_I0 ?_
      refine S_cons ?_
      refine S_cb ?_
      refine S_cons ?_
      refine S_var 0 h rfl rfl fun v14 h => ?_
      refine S_nil ?_
      refine S_lenL (h.vF 0 rfl rfl) ?_
      have h := h.pop
      refine S_nil ?_
      obtain ⟨xs15, hxs15, hm⟩ := ob hm
      refine S_rng2 (K := K) hxs15 fun J Y => ?_
      obtain ⟨s44, hs44, hm⟩ := ob hm
      refine S_fold (ts := []) (TM := []) (Mf := fun (s18 : (List (HT (Int × (Tup Int) × (Tup Int) × Unit)))) => [.fz (p_rows_here : List (List Int)), .own p1 s18, .fz (x6 : Int), .fz (x11 : Int), .any]) Y hs44 (h.weak ⟨.inr rfl, .inr rfl, .inr rfl, .inr rfl, .inl rfl, trivial⟩) (fun s18 σ F H h => trivial) (fun i x16 s18 s' v17 σ F H D hx hb h hn => ?_) (fun σ F H h => ?_)
      · have hm := hb
        unfold m__law_clashes_l2 at hm
        have h : St K B0 F H (some v17 :: σ) [.fz (x16 : Int), .fz (p_rows_here : List (List Int)), .own p1 s18, .fz (x6 : Int), .fz (x11 : Int), .any] := h
        refine S_gName ?_
        have h : St K B0 F H (List.set (σ) 4 (some v17)) [.fz (p_rows_here : List (List Int)), .own p1 s18, .fz (x6 : Int), .fz (x11 : Int), .fz (x16 : Int)] := St.setF (v := v17) (x := (x16 : Int)) h.pop 4 (h.fz 0 rfl rfl)
        obtain ⟨j29, hj29, hm⟩ := ob hm
        refine S_cutJ (Post := fun σ H => ∃ F, St K B0 F H (σ) [.fz (p_rows_here : List (List Int)), .own p1 j29, .fz (x6 : Int), .fz (x11 : Int), .fz (x16 : Int)]) (fun D hk => ?_) (fun σ H ⟨F, h⟩ => ?_)
        · have hm := hj29
          refine S_if ?_
          refine T_test ?_
          refine S_op ?_
          refine S_op ?_
          refine S_op ?_
          refine S_var 0 h rfl rfl fun v19 h => ?_
          refine S_varI 1 h rfl rfl ?_
          obtain ⟨x21, hx21, hm⟩ := ob hm
          refine S_ixL h.pop (h.vF 0 rfl rfl) hx21 fun u20 h => ?_
          refine S_varI 1 h rfl rfl ?_
          obtain ⟨x23, hx23, hm⟩ := ob hm
          refine S_ixL h.pop (h.vF 0 rfl rfl) hx23 fun u22 h => ?_
          obtain rfl : u22 = (V.int x23) := h.fz 0 rfl rfl
          have h := h.pop
          refine S_op ?_
          refine S_op ?_
          refine S_var 0 h rfl rfl fun v24 h => ?_
          refine S_varI 1 h rfl rfl ?_
          obtain ⟨x26, hx26, hm⟩ := ob hm
          refine S_ixL h.pop (h.vF 0 rfl rfl) hx26 fun u25 h => ?_
          refine S_varI 1 h rfl rfl ?_
          obtain ⟨x28, hx28, hm⟩ := ob hm
          refine S_ixL h.pop (h.vF 0 rfl rfl) hx28 fun u27 h => ?_
          obtain rfl : u27 = (V.int x28) := h.fz 0 rfl rfl
          have h := h.pop
          refine S_neI ?_
          refine T_bl ?_
          refine S_ite hm (fun hc hm => ?_) (fun hc hm => ?_)
          · skip
            refine S_drop ?_
            refine S_bm ?_
            refine S_varO 0 h rfl rfl ?_
            refine S_tyL (α := (HT (Int × (Tup Int) × (Tup Int) × Unit))) (h.vO 1 rfl) ?_
            refine S_cons ?_
            refine S_tT ?_
            refine S_cons ?_
            refine S_varI 0 h rfl rfl ?_
            refine S_cons ?_
            refine S_tT ?_
            refine S_cons ?_
            refine S_varI 0 h rfl rfl ?_
            refine S_cons ?_
            refine S_op ?_
            refine S_op ?_
            refine S_var 0 h rfl rfl fun v30 h => ?_
            refine S_varI 1 h rfl rfl ?_
            obtain ⟨x32, hx32, hm⟩ := ob hm
            refine S_ixL h.pop (h.vF 0 rfl rfl) hx32 fun u31 h => ?_
            refine S_varI 1 h rfl rfl ?_
            obtain ⟨x34, hx34, hm⟩ := ob hm
            refine S_ixL h.pop (h.vF 0 rfl rfl) hx34 fun u33 h => ?_
            obtain rfl : u33 = (V.int x34) := h.fz 0 rfl rfl
            have h := h.pop
            refine S_nil ?_
            refine S_tup (xs := ([x11, x34] : List Int)) h (.cons rfl (.cons rfl .nil)) (Nat.le_of_ble_eq_true rfl) fun p35 F H h => ?_
            refine S_cons ?_
            refine S_tT ?_
            refine S_cons ?_
            refine S_varI 1 h rfl rfl ?_
            refine S_cons ?_
            refine S_op ?_
            refine S_op ?_
            refine S_var 1 h rfl rfl fun v36 h => ?_
            refine S_varI 2 h rfl rfl ?_
            obtain ⟨x38, hx38, hm⟩ := ob hm
            refine S_ixL h.pop (h.vF 0 rfl rfl) hx38 fun u37 h => ?_
            refine S_varI 2 h rfl rfl ?_
            obtain ⟨x40, hx40, hm⟩ := ob hm
            refine S_ixL h.pop (h.vF 0 rfl rfl) hx40 fun u39 h => ?_
            obtain rfl : u39 = (V.int x40) := h.fz 0 rfl rfl
            have h := h.pop
            refine S_nil ?_
            refine S_tup (xs := ([x16, x40] : List Int)) h (.cons rfl (.cons rfl .nil)) (Nat.le_of_ble_eq_true rfl) fun p41 F H h => ?_
            refine S_nil ?_
            refine S_htup (x := ((x6, (Tup.mk [x11, x34] : Tup Int), (Tup.mk [x16, x40] : Tup Int), ()) : Int × (Tup Int) × (Tup Int) × Unit)) h.pop.pop (fl_cons (x := (x6 : Int)) rfl (fl_cons (x := ((Tup.mk [x11, x34] : Tup Int) : Tup Int)) (h.fz 1 rfl rfl) (fl_cons (x := ((Tup.mk [x16, x40] : Tup Int) : Tup Int)) (h.fz 0 rfl rfl) fl_nil))) (Nat.le_of_ble_eq_true rfl) fun p42 F H h => ?_
            refine S_nil ?_
            obtain ⟨x43, hx43, hm⟩ := ob hm
            refine S_append 1 h.pop (by rfl) (h.fz 0 rfl rfl) hx43 fun H h => ?_
            have h : St K B0 F H (List.set (σ) 4 (some v17)) [.fz (p_rows_here : List (List Int)), .own p1 x43, .fz (x6 : Int), .fz (x11 : Int), .fz (x16 : Int)] := h
            have hz := h
            cases hm
            exact hk _ _ ⟨_, hz.weak ⟨.inr rfl, .inr rfl, .inr rfl, .inr rfl, .inr rfl, trivial⟩⟩
          · skip
            have hz := h
            cases hm
            exact hk _ _ ⟨_, hz.weak ⟨.inr rfl, .inr rfl, .inr rfl, .inr rfl, .inr rfl, trivial⟩⟩
        have hz := h
        cases hm
        exact hn _ _ _ (hz.weak ⟨.inr rfl, .inr rfl, .inr rfl, .inr rfl, .inl rfl, trivial⟩)
      have h : St K B0 F H (σ) [.fz (p_rows_here : List (List Int)), .own p1 s44, .fz (x6 : Int), .fz (x11 : Int), .any] := h
      have hz := h
      cases hm
      exact hn _ _ _ (hz.weak ⟨.inr rfl, .inr rfl, .inr rfl, .inl rfl, .inl rfl, trivial⟩)
    have h : St K B0 F H (σ) [.fz (p_rows_here : List (List Int)), .own p1 s45, .fz (x6 : Int), .any, .any] := h
    have hz := h
    cases hm
    exact hn _ _ _ (hz.weak ⟨.inr rfl, .inr rfl, .inl rfl, .inl rfl, .inl rfl, trivial⟩)
  have h : St K B0 F H (σ) [.fz (p_rows_here : List (List Int)), .own p1 s46, .any, .any, .any] := h
  refine Q_nx ?_
  refine S_ret ?_
  refine S_varO 0 h rfl rfl ?_
  have hz := h
  cases hm
  exact q _ _ _ (hz.finOwn 1 (by rfl) hBp1 aft0)
theorem fn__law_clashes {P : Program} {w : World} {K : Fg} {mg : Str → Option Value} {base : Heap} (bz : Blt mg) (kf : KF K) (cz : Cst mg) {f : Addr} {fd : FuncData} (F0 : Fun K "_law_clashes" "_law_clashes" s__law_clashes f fd)  : FnOk P w K mg base CX0 1 f fd ["_law_rows_here"] (Prom K R__law_clashes) :=
  F0.ok sc__law_clashes (prom_len 1 fun A s A' h => by cases h; rfl) fun cdv A outer s H vs Q E hr h => ⟨t__law_clashes K, pss_cons (ps_set (i := 1) sc__law_clashes.nd rfl (.inl rfl) (pe_lst (pa_nil))) (pss_cons (ps_for PassesOwn.never rfl (pi_range1 (by rfl) bz.range (pa_cons (pe_callB (r := rLenG K) cr_lenG (by rfl) bz.len (by decide +kernel) (pa_cons (pe_ix (r := rIxL K) ix_list (pv 0) (pe_int) (fun _ _ => rfl)) (pa_nil))) (pa_nil))) (pg_name (i := 2) sc__law_clashes.nd rfl (.inl rfl)) (pss_one (ps_for PassesOwn.never rfl (pi_range1 (by rfl) bz.range (pa_cons (pe_callB (r := rLenG K) cr_lenG (by rfl) bz.len (by decide +kernel) (pa_cons (pv 0) (pa_nil))) (pa_nil))) (pg_name (i := 3) sc__law_clashes.nd rfl (.inl rfl)) (pss_one (ps_for PassesOwn.never rfl (pi_range2 (by rfl) bz.range (pa_cons (pe_op op_add (pv 3) (pe_int)) (pa_cons (pe_callB (r := rLenG K) cr_lenG (by rfl) bz.len (by decide +kernel) (pa_cons (pv 0) (pa_nil))) (pa_nil)))) (pg_name (i := 4) sc__law_clashes.nd rfl (.inl rfl)) (pss_one (ps_if (pt_cmpR (r := rNe) op_ne (pe_ix (r := rIxL K) ix_list (pe_ix (r := rIxL K) ix_list (pv 0) (pv 3) (fun _ _ => rfl)) (pv 2) (fun _ _ => rfl)) (pe_ix (r := rIxL K) ix_list (pe_ix (r := rIxL K) ix_list (pv 0) (pv 4) (fun _ _ => rfl)) (pv 2) (fun _ _ => rfl)) (nomark _)) (pss_one (ps_expr (pe_bm PySem.F.plainAttrs_list PySem.F.slot_list_append PySem.F.type_list_append mt_append (pv 1) (pa_cons (pe_tup (pa_cons (pv 2) (pa_cons (pe_tup (pa_cons (pv 3) (pa_cons (pe_ix (r := rIxL K) ix_list (pe_ix (r := rIxL K) ix_list (pv 0) (pv 3) (fun _ _ => rfl)) (pv 2) (fun _ _ => rfl)) (pa_nil)))) (pa_cons (pe_tup (pa_cons (pv 4) (pa_cons (pe_ix (r := rIxL K) ix_list (pe_ix (r := rIxL K) ix_list (pv 0) (pv 4) (fun _ _ => rfl)) (pv 2) (fun _ _ => rfl)) (pa_nil)))) (pa_nil))))) (pa_nil))))) (pss_nil)))))))) (pss_one (ps_ret (pv 1)))), sem__law_clashes kf h (fun _ _ z => z) fun _ _ z => z⟩
theorem ok__law_clashes {P : Program} {w : World} {K : Fg} {mg : Str → Option Value} {base : Heap} (bz : Blt mg) (kf : KF K) (cz : Cst mg) {f : Addr} {fd : FuncData} (F0 : Fun K "_law_clashes" "_law_clashes" s__law_clashes f fd) (g0 : mg "_law_clashes" = some (.ref f)) (b0 : Binds K fd ["_law_rows_here"] [])  : Cal P w K mg base 1 "_law_clashes" ["_law_rows_here"] R__law_clashes :=
  Cal.mk' (fn__law_clashes bz kf cz F0) g0 F0.kp b0

def m__law_between_c2 (x18 : Int) (x24 : Tup Int) : Option (Tup Int) := (catT x24 (Tup.mk [x18] : Tup Int)).bind fun x32 => some x32
def m__law_between_l1 (s9 : (List (Tup Int))) (x18 : Int) (s20 : (List (Tup Int))) : Option (List (Tup Int)) := (mapO (m__law_between_c2 x18) s9).bind fun ys34 => (catL s20 ys34).bind fun x36 => some (x36)
def m__law_between_l0  (x7 : Int × Int) (s9 : (List (Tup Int))) : Option (List (Tup Int)) := (sortSO ([x7.1, x7.2] : List Int)).bind fun x14 => (foldO (m__law_between_l1 s9) x14 (([] : List (Tup Int)))).bind fun s38 => some (s38)
def m__law_between (p_one : Tup Int) (p_other : Tup Int) : Option (List (Tup Int)) :=  (foldO m__law_between_l0 (List.zip (Tup.l p_one) (Tup.l p_other)) (([(Tup.mk [] : Tup Int)] : List (Tup Int)))).bind fun s40 => (sortD s40).bind fun x42 => some x42
inductive R__law_between : List Slot → RSlot → List Slot → Prop
  | mk (p_one : Tup Int) (p_other : Tup Int)  {r : List (Tup Int)} : m__law_between p_one p_other = some r → R__law_between [.fz p_one, .fz p_other] (.fr r) [.any, .any]
def t__law_between (PP : Program) (ww : World) (K : Fg) : TS := tSeq (tAsg (tLst (tCons (tTup (tNil)) (tNil))) (gName 2)) (tSeq (tFor (RZ.iZipA K (tCons (tVar 0) (tCons (tVar 1) (tNil)))) (gTup K 2 (gCons (gName 3) (gCons (gName 4) (gNil)))) (tSeq (tAsg (tLst (tNil)) (gName 5)) (tSeq (tFor (iList K (tCB (rSortedSet ww) (tCons (tCB (rSetOfI K ww) (tCons (tLst (tCons (tVar 3) (tCons (tVar 4) (tNil)))) (tNil))) tNil))) (gName 6) (tAsg (tOp rCat (tVar 5) (tLc (iList K (tVar 2)) (gName 7) (tYes) (tOp (rCatA K) (tVar 7) (tTup (tCons (tVar 6) (tNil)))) [7])) (gName 5))) (tAsg (tVar 5) (gName 2))))) (tRet (tCB (rSortD K) (tCons (tVar 2) (tNil)))))
theorem sc__law_between : FnScope ["_law_one", "_law_other", "_law_found", "_law_near", "_law_far", "_law_longer", "_law_number", "_law_name"] ["_law_one", "_law_other"] (defScope s__law_between) := ⟨rfl, rfl, rfl, by decide +kernel, rfl, by decide +kernel, by decide +kernel⟩
theorem sem__law_between {PP : Program} {ww : World} {K : Fg} (kf : KF K) {vs : List V} {H : Hp} {Q : VK} {E : XK} (h : Prom K R__law_between vs H Q E) {D : Ends} (hD : ∀ u H, Q u H → D.rt u H) (hN : ∀ σ H, Q .non H → D.nx σ H) : t__law_between PP ww K D (start ["_law_one", "_law_other", "_law_found", "_law_near", "_law_far", "_law_longer", "_law_number", "_law_name"] vs) H := by
  obtain ⟨F, A, rs, A', hR, fh, hS, nd, q⟩ := h
  cases hR with | @mk p_one p_other  r hm => ?_
  have hl := slots_len hS
  obtain ⟨va0, va1, rfl⟩ := len2 (vs := vs) (by simpa using hl.symm)
  have h : St K ⟨F, H, []⟩ F H [some va0, some va1, none, none, none, none, none, none] [.fz (p_one : Tup Int), .fz (p_other : Tup Int), .any, .any, .any, .any, .any, .any] := St.start fh hS nd [none, none, none, none, none, none]
  generalize hB : (⟨F, H, []⟩ : Base) = B0 at h
  have q0 := q
  have q : ∀ u F' H', Fin K B0 (.fr r) [.any, .any] u F' H' → D.rt u H' := by subst hB; exact fun u F' H' z => hD _ _ (q u F' H' z)
  have qN : ∀ σ F' H', Fin K B0 (.fr r) [.any, .any] .non F' H' → D.nx σ H' := by subst hB; exact fun σ F' H' z => hN _ _ (q0 _ F' H' z)
  clear hB q0 hD hN
  rw [show start ["_law_one", "_law_other", "_law_found", "_law_near", "_law_far", "_law_longer", "_law_number", "_law_name"] [va0, va1] = [some va0, some va1, none, none, none, none, none, none] from rfl]
  unfold t__law_between
  unfold m__law_between at hm
  refine Q_asg ?_
  refine S_tL ?_
  refine S_cons ?_
  refine S_tT ?_
  refine S_nil ?_
  refine S_tup (xs := ([] : List Int)) h (.nil) (Nat.le_of_ble_eq_true rfl) fun p1 F H h => ?_
  refine S_nil ?_
  refine S_lstO (xs := ([(Tup.mk [] : Tup Int)] : List (Tup Int))) h.pop (.cons (h.fz 0 rfl rfl) .nil) (Nat.le_of_ble_eq_true rfl) fun p2 F H hBp2 h => ?_
  refine S_gName ?_
  refine S_frz h hBp2 _ fun F h => ?_
  have h : St K B0 F H (List.set [some va0, some va1, none, none, none, none, none, none] 2 (some (V.ref p2))) [.fz (p_one : Tup Int), .fz (p_other : Tup Int), .fz (([(Tup.mk [] : Tup Int)] : List (Tup Int)) : List (Tup Int)), .any, .any, .any, .any, .any] := St.setF (v := (V.ref p2)) (x := (([(Tup.mk [] : Tup Int)] : List (Tup Int)) : List (Tup Int))) h.pop 2 (h.fz 0 rfl rfl)
  refine Q_for ?_
  refine S_iZ ?_
  refine S_cons ?_
  refine S_var 0 h rfl rfl fun v3 h => ?_
  refine S_cons ?_
  refine S_var 1 h rfl rfl fun v4 h => ?_
  refine S_nil ?_
  refine S_zipT h (h.fz 1 rfl rfl) (h.fz 0 rfl rfl) fun a5 a6 e1 e2 => ?_
  subst e1
  subst e2
  obtain ⟨s40, hs40, hm⟩ := ob hm
  refine S_fold (ts := [some (V.ref a6), some (V.ref a5)]) (TM := [.fz (p_other : Tup Int), .fz (p_one : Tup Int)]) (Mf := fun (s9 : (List (Tup Int))) => [.fz (p_one : Tup Int), .fz (p_other : Tup Int), .fz (s9 : List (Tup Int)), .any, .any, .any, .any, .any]) (yields_zipT a5 a6 p_one p_other) hs40 (h.weak ⟨.inr rfl, .inr rfl, .inr rfl, .inr rfl, .inr rfl, .inl rfl, .inl rfl, .inl rfl, .inl rfl, .inl rfl, trivial⟩) (fun s9 σ F H h => ⟨(h.fz 1 rfl rfl), (h.fz 0 rfl rfl)⟩) (fun i x7 s9 s' v8 σ F H D hx hb h hn => ?_) (fun σ F H h => ?_)
  · have hm := hb
    unfold m__law_between_l0 at hm
    have h : St K B0 F H (some v8 :: some (V.ref a6) :: some (V.ref a5) :: σ) [.fz (x7 : Int × Int), .fz (p_other : Tup Int), .fz (p_one : Tup Int), .fz (p_one : Tup Int), .fz (p_other : Tup Int), .fz (s9 : List (Tup Int)), .any, .any, .any, .any, .any] := h
    refine S_gPair h (h.fz 0 rfl rfl) fun v10 v11 h => ?_
    refine S_gCons ?_
    refine S_gName ?_
    have h : St K B0 F H (some v11 :: some v10 :: some v8 :: some (V.ref a6) :: some (V.ref a5) :: List.set (σ) 3 (some v10)) [.fz (x7.2 : Int), .fz (x7.1 : Int), .fz (x7 : Int × Int), .fz (p_other : Tup Int), .fz (p_one : Tup Int), .fz (p_one : Tup Int), .fz (p_other : Tup Int), .fz (s9 : List (Tup Int)), .fz (x7.1 : Int), .any, .any, .any, .any] := St.setF (v := v10) (x := (x7.1 : Int)) h 8 (h.fz 1 rfl rfl)
    refine S_gCons ?_
    refine S_gName ?_
    have h : St K B0 F H (some v11 :: some v10 :: some v8 :: some (V.ref a6) :: some (V.ref a5) :: List.set (List.set (σ) 3 (some v10)) 4 (some v11)) [.fz (x7.2 : Int), .fz (x7.1 : Int), .fz (x7 : Int × Int), .fz (p_other : Tup Int), .fz (p_one : Tup Int), .fz (p_one : Tup Int), .fz (p_other : Tup Int), .fz (s9 : List (Tup Int)), .fz (x7.1 : Int), .fz (x7.2 : Int), .any, .any, .any] := St.setF (v := v11) (x := (x7.2 : Int)) h 9 (h.fz 0 rfl rfl)
    refine S_gNil ?_
    have h := h.pop.pop.pop
    refine Q_asg ?_
    refine S_tL ?_
    refine S_nil ?_
    refine S_lstO (xs := ([] : List (Tup Int))) h (.nil) (Nat.le_of_ble_eq_true rfl) fun p12 F H hBp12 h => ?_
    refine S_gName ?_
    refine S_frz h hBp12 _ fun F h => ?_
    have h : St K B0 F H (some (V.ref a6) :: some (V.ref a5) :: List.set (List.set (List.set (σ) 3 (some v10)) 4 (some v11)) 5 (some (V.ref p12))) [.fz (p_other : Tup Int), .fz (p_one : Tup Int), .fz (p_one : Tup Int), .fz (p_other : Tup Int), .fz (s9 : List (Tup Int)), .fz (x7.1 : Int), .fz (x7.2 : Int), .fz (([] : List (Tup Int)) : List (Tup Int)), .any, .any] := St.setF (v := (V.ref p12)) (x := (([] : List (Tup Int)) : List (Tup Int))) h.pop 7 (h.fz 0 rfl rfl)
    refine Q_for ?_
    refine S_iL ?_
    refine S_cb ?_
    refine S_cons ?_
    refine S_cb ?_
    refine S_cons ?_
    refine S_tL ?_
    refine S_cons ?_
    refine S_varI 2 h rfl rfl ?_
    refine S_cons ?_
    refine S_varI 2 h rfl rfl ?_
    refine S_nil ?_
    refine S_lstO (xs := ([x7.1, x7.2] : List Int)) h (.cons rfl (.cons rfl .nil)) (Nat.le_of_ble_eq_true rfl) fun p13 F H hBp13 h => ?_
    refine S_frz h hBp13 _ fun F h => ?_
    refine S_nil ?_
    obtain ⟨x14, hx14, hm⟩ := ob hm
    refine S_setI h.pop (h.vF 0 rfl rfl) (sortSO_lt hx14) fun p15 H h ha hBs => ?_
    refine S_nil ?_
    refine S_sortSI h hx14 ha fun p16 F H hBp16 h => ?_
    refine S_itL (h.vO 0 rfl) fun p16 e1 => ?_
    obtain rfl := V.ref.inj e1
    obtain ⟨s38, hs38, hm⟩ := ob hm
    refine S_fold (ts := [some (V.ref p16), some (V.ref a6), some (V.ref a5)]) (TM := [.own p16 x14, .fz (p_other : Tup Int), .fz (p_one : Tup Int)]) (Mf := fun (s20 : (List (Tup Int))) => [.fz (p_one : Tup Int), .fz (p_other : Tup Int), .fz (s9 : List (Tup Int)), .fz (x7.1 : Int), .fz (x7.2 : Int), .fz (s20 : List (Tup Int)), .any, .any]) (yields_list p16 x14) hs38 (h.weak ⟨.inr rfl, .inr rfl, .inr rfl, .inr rfl, .inr rfl, .inr rfl, .inr rfl, .inr rfl, .inr rfl, .inl rfl, .inl rfl, trivial⟩) (fun s20 σ F H h => (h.vO 0 rfl)) (fun i x18 s20 s' v19 σ F H D hx hb h hn => ?_) (fun σ F H h => ?_)
    · have hm := hb
      unfold m__law_between_l1 at hm
      have h : St K B0 F H (some v19 :: some (V.ref p16) :: some (V.ref a6) :: some (V.ref a5) :: σ) [.fz (x18 : Int), .own p16 x14, .fz (p_other : Tup Int), .fz (p_one : Tup Int), .fz (p_one : Tup Int), .fz (p_other : Tup Int), .fz (s9 : List (Tup Int)), .fz (x7.1 : Int), .fz (x7.2 : Int), .fz (s20 : List (Tup Int)), .any, .any] := h
      refine S_gName ?_
      have h : St K B0 F H (some (V.ref p16) :: some (V.ref a6) :: some (V.ref a5) :: List.set (σ) 6 (some v19)) [.own p16 x14, .fz (p_other : Tup Int), .fz (p_one : Tup Int), .fz (p_one : Tup Int), .fz (p_other : Tup Int), .fz (s9 : List (Tup Int)), .fz (x7.1 : Int), .fz (x7.2 : Int), .fz (s20 : List (Tup Int)), .fz (x18 : Int), .any] := St.setF (v := v19) (x := (x18 : Int)) h.pop 9 (h.fz 0 rfl rfl)
      refine S_asg ?_
      refine S_op ?_
      refine S_var 3 h rfl rfl fun v21 h => ?_
      refine S_lc ?_
      refine S_iL ?_
      refine S_var 4 h rfl rfl fun v22 h => ?_
      refine S_itL (h.vF 0 rfl rfl) fun a23 e1 => ?_
      subst e1
      obtain ⟨ys34, hys34, hm⟩ := ob hm
      refine S_mapO (ts := [some (V.ref a23), some v21, some (V.ref p16), some (V.ref a6), some (V.ref a5)]) (TM := [.fz (s9 : List (Tup Int)), .fz (s20 : List (Tup Int)), .own p16 x14, .fz (p_other : Tup Int), .fz (p_one : Tup Int)]) (M := [.fz (p_one : Tup Int), .fz (p_other : Tup Int), .fz (s9 : List (Tup Int)), .fz (x7.1 : Int), .fz (x7.2 : Int), .fz (s20 : List (Tup Int)), .fz (x18 : Int), .any]) (yields_list a23 s9) hys34 h rfl ⟨rfl, trivial⟩ (view_len (h.vF 0 rfl rfl)) (fun w F H h => (h.vF 0 rfl rfl)) (fun x24 z v25 D26 a27 F H G N hf h hG => ?_) (fun D35 F H hBD35 h => ?_)
      · have hm := hf
        unfold m__law_between_c2 at hm
        have h : St K B0 F H (some v25 :: some (V.ref D26) :: some (V.ref a23) :: some v21 :: some (V.ref p16) :: some (V.ref a6) :: some (V.ref a5) :: wipe (List.set (σ) 6 (some v19)) [7]) [.fz (x24 : Tup Int), .own D26 a27, .fz (s9 : List (Tup Int)), .fz (s20 : List (Tup Int)), .own p16 x14, .fz (p_other : Tup Int), .fz (p_one : Tup Int), .fz (p_one : Tup Int), .fz (p_other : Tup Int), .fz (s9 : List (Tup Int)), .fz (x7.1 : Int), .fz (x7.2 : Int), .fz (s20 : List (Tup Int)), .fz (x18 : Int), .any] := h
        refine S_gName ?_
        have h : St K B0 F H (some (V.ref D26) :: some (V.ref a23) :: some v21 :: some (V.ref p16) :: some (V.ref a6) :: some (V.ref a5) :: List.set (wipe (List.set (σ) 6 (some v19)) [7]) 7 (some v25)) [.own D26 a27, .fz (s9 : List (Tup Int)), .fz (s20 : List (Tup Int)), .own p16 x14, .fz (p_other : Tup Int), .fz (p_one : Tup Int), .fz (p_one : Tup Int), .fz (p_other : Tup Int), .fz (s9 : List (Tup Int)), .fz (x7.1 : Int), .fz (x7.2 : Int), .fz (s20 : List (Tup Int)), .fz (x18 : Int), .fz (x24 : Tup Int)] := St.setF (v := v25) (x := (x24 : Tup Int)) h.pop 13 (h.fz 0 rfl rfl)
        refine ⟨(wipe_set (by decide)).trans wipe_idem, ?_⟩
        refine if1 ?_
        refine S_op ?_
        refine S_var 6 h rfl rfl fun v30 h => ?_
        refine S_tT ?_
        refine S_cons ?_
        refine S_varI 7 h rfl rfl ?_
        refine S_nil ?_
        refine S_tup (xs := ([x18] : List Int)) h (.cons rfl .nil) (Nat.le_of_ble_eq_true rfl) fun p31 F H h => ?_
        obtain ⟨x32, hx32, hm⟩ := ob hm
        refine S_catT h.pop.pop (h.fz 1 rfl rfl) (h.fz 0 rfl rfl) hx32 fun u33 F H h => ?_
        have hz := h
        cases hm
        exact hG _ _ _ (St.unset (ts := [some (V.ref D26), some (V.ref a23), some v21, some (V.ref p16), some (V.ref a6), some (V.ref a5)]) (TM := [.own D26 a27, .fz (s9 : List (Tup Int)), .fz (s20 : List (Tup Int)), .own p16 x14, .fz (p_other : Tup Int), .fz (p_one : Tup Int)]) (M := [.fz (p_one : Tup Int), .fz (p_other : Tup Int), .fz (s9 : List (Tup Int)), .fz (x7.1 : Int), .fz (x7.2 : Int), .fz (s20 : List (Tup Int)), .fz (x18 : Int), .any]) (hz.pop.weak ⟨.inr rfl, .inr rfl, .inr rfl, .inr rfl, .inr rfl, .inr rfl, .inr rfl, .inr rfl, .inr rfl, .inr rfl, .inr rfl, .inr rfl, .inr rfl, .inl rfl, trivial⟩) rfl rfl) (hz.fz 0 rfl rfl)
      have h : St K B0 F H (some (V.ref D35) :: some (V.ref a23) :: some v21 :: some (V.ref p16) :: some (V.ref a6) :: some (V.ref a5) :: List.set (σ) 6 (some v19)) [.own D35 ys34, .fz (s9 : List (Tup Int)), .fz (s20 : List (Tup Int)), .own p16 x14, .fz (p_other : Tup Int), .fz (p_one : Tup Int), .fz (p_one : Tup Int), .fz (p_other : Tup Int), .fz (s9 : List (Tup Int)), .fz (x7.1 : Int), .fz (x7.2 : Int), .fz (s20 : List (Tup Int)), .fz (x18 : Int), .any] := h
      have h := h.nip
      obtain ⟨x36, hx36, hm⟩ := ob hm
      refine S_catLO h.pop.pop (h.vF 1 rfl rfl) (h.vO 0 rfl) hx36 fun p37 F H hBp37 h => ?_
      refine S_gName ?_
      refine S_frz h hBp37 _ fun F h => ?_
      have h : St K B0 F H (some (V.ref p16) :: some (V.ref a6) :: some (V.ref a5) :: List.set (List.set (σ) 6 (some v19)) 5 (some (V.ref p37))) [.own p16 x14, .fz (p_other : Tup Int), .fz (p_one : Tup Int), .fz (p_one : Tup Int), .fz (p_other : Tup Int), .fz (s9 : List (Tup Int)), .fz (x7.1 : Int), .fz (x7.2 : Int), .fz (x36 : List (Tup Int)), .fz (x18 : Int), .any] := St.setF (v := (V.ref p37)) (x := (x36 : List (Tup Int))) h.pop 8 (h.fz 0 rfl rfl)
      have hz := h
      cases hm
      exact hn _ _ _ (hz.weak ⟨.inr rfl, .inr rfl, .inr rfl, .inr rfl, .inr rfl, .inr rfl, .inr rfl, .inr rfl, .inr rfl, .inl rfl, .inl rfl, trivial⟩)
    have h : St K B0 F H (some (V.ref p16) :: some (V.ref a6) :: some (V.ref a5) :: σ) [.own p16 x14, .fz (p_other : Tup Int), .fz (p_one : Tup Int), .fz (p_one : Tup Int), .fz (p_other : Tup Int), .fz (s9 : List (Tup Int)), .fz (x7.1 : Int), .fz (x7.2 : Int), .fz (s38 : List (Tup Int)), .any, .any] := h
    have h := h.pop
    refine Q_nx ?_
    refine S_asg ?_
    refine S_var 2 h rfl rfl fun v39 h => ?_
    refine S_gName ?_
    have h : St K B0 F H (some (V.ref a6) :: some (V.ref a5) :: List.set (σ) 2 (some v39)) [.fz (p_other : Tup Int), .fz (p_one : Tup Int), .fz (p_one : Tup Int), .fz (p_other : Tup Int), .fz (s38 : List (Tup Int)), .fz (x7.1 : Int), .fz (x7.2 : Int), .fz (s38 : List (Tup Int)), .any, .any] := St.setF (v := v39) (x := (s38 : List (Tup Int))) h.pop 4 (h.fz 0 rfl rfl)
    have hz := h
    cases hm
    exact hn _ _ _ (hz.weak ⟨.inr rfl, .inr rfl, .inr rfl, .inr rfl, .inr rfl, .inl rfl, .inl rfl, .inl rfl, .inl rfl, .inl rfl, trivial⟩)
  have h : St K B0 F H (some (V.ref a6) :: some (V.ref a5) :: σ) [.fz (p_other : Tup Int), .fz (p_one : Tup Int), .fz (p_one : Tup Int), .fz (p_other : Tup Int), .fz (s40 : List (Tup Int)), .any, .any, .any, .any, .any] := h
  have h := h.pop.pop
  refine Q_nx ?_
  refine S_ret ?_
  refine S_cb ?_
  refine S_cons ?_
  refine S_var 0 h rfl rfl fun v41 h => ?_
  refine S_nil ?_
  obtain ⟨x42, hx42, hm⟩ := ob hm
  refine S_sortD h.pop (h.vF 0 rfl rfl) hx42 (by decide) fun p43 F H hBp43 h => ?_
  have hz := h
  cases hm
  exact q _ _ _ (hz.finFr hBp43 aft0)
theorem fn__law_between {P : Program} {w : World} {K : Fg} {mg : Str → Option Value} {base : Heap} (bz : Blt mg) (kf : KF K) (cz : Cst mg) {f : Addr} {fd : FuncData} (F0 : Fun K "_law_between" "_law_between" s__law_between f fd)  : FnOk P w K mg base CX0 1 f fd ["_law_one", "_law_other"] (Prom K R__law_between) :=
  F0.ok sc__law_between (prom_len 2 fun A s A' h => by cases h; rfl) fun cdv A outer s H vs Q E hr h => ⟨t__law_between P w K, pss_cons (ps_set (i := 2) sc__law_between.nd rfl (.inl rfl) (pe_lst (pa_cons (pe_tup (pa_nil)) (pa_nil)))) (pss_cons (ps_for PassesOwn.never rfl (RZ.pi_zipA (by rfl) bz.zip (pa_cons (pv 0) (pa_cons (pv 1) (pa_nil)))) (pg_tup rfl (pgs_cons (pg_name (i := 3) sc__law_between.nd rfl (.inl rfl)) (pgs_cons (pg_name (i := 4) sc__law_between.nd rfl (.inl rfl)) (pgs_nil)))) (pss_cons (ps_set (i := 5) sc__law_between.nd rfl (.inl rfl) (pe_lst (pa_nil))) (pss_cons (ps_for PassesOwn.never rfl (pi_list (pe_callB (r := rSortedSet w) (cr_sortedSet rfl) (by rfl) bz.sorted (by decide +kernel) (pa_cons (pe_callTy (r := rSetOfI K w) (cr_setOfI rfl) (by rfl) bz.set_ (by decide +kernel) (pa_cons (pe_lst (pa_cons (pv 3) (pa_cons (pv 4) (pa_nil)))) (pa_nil))) pa_nil))) (pg_name (i := 6) sc__law_between.nd rfl (.inr rfl)) (pss_one (ps_set (i := 5) sc__law_between.nd rfl (.inl rfl) (pe_op op_cat (pv 5) (pe_lc (own := [("_law_name", 7)]) (g := gName 7) (tt := tYes) (te := tOp (rCatA K) (tVar 7) (tTup (tCons (tVar 6) (tNil)))) (wi := iList K (tVar 2)) rfl sc__law_between.nd (pi_list (pv 2)) (blkOk_by (N := ["_law_one", "_law_other", "_law_found", "_law_near", "_law_far", "_law_longer", "_law_number", "_law_name"]) (sc := defScope s__law_between) (by decide +kernel)) (fun _ _ _ _ _ => pg_name (i := 7) sc__law_between.nd rfl (by first | exact .inl rfl | exact .inr rfl)) (fun _ _ _ _ _ => pts_nil) (fun _ _ _ _ _ => pe_op (r := rCatA K) op_catA (pv 7) (pe_tup (pa_cons (pv 6) (pa_nil))))))))) (pss_one (ps_set (i := 2) sc__law_between.nd rfl (.inl rfl) (pv 5)))))) (pss_one (ps_ret (pe_callB (r := rSortD K) (cr_sortD (hu64 hr)) (by rfl) bz.sorted (by decide +kernel) (pa_cons (pv 2) (pa_nil)))))), sem__law_between kf h (fun _ _ z => z) fun _ _ z => z⟩
theorem ok__law_between {P : Program} {w : World} {K : Fg} {mg : Str → Option Value} {base : Heap} (bz : Blt mg) (kf : KF K) (cz : Cst mg) {f : Addr} {fd : FuncData} (F0 : Fun K "_law_between" "_law_between" s__law_between f fd) (g0 : mg "_law_between" = some (.ref f)) (b0 : Binds K fd ["_law_one", "_law_other"] [])  : Cal P w K mg base 1 "_law_between" ["_law_one", "_law_other"] R__law_between :=
  Cal.mk' (fn__law_between bz kf cz F0) g0 F0.kp b0

def m__law_is_number (p_thing : Int) : Option Bool := (if true = true then (if (!false) = true then (inO p_thing (Tup.l (Tup.mk [(0 : Int), (1 : Int)] : Tup Int))).bind fun c2 => some c2 else some false).bind fun c3 => some c3 else some false).bind fun c4 => some c4
inductive R__law_is_number : List Slot → RSlot → List Slot → Prop
  | mk (p_thing : Int)  {r : Bool} : m__law_is_number p_thing = some r → R__law_is_number [.fz p_thing] (.fz r) [.any]
def t__law_is_number (K : Fg) : TS := tRet (tAndV (tCB (rIsi K) (tCons (tVar 0) (tCons (tC (.ty "int")) (tNil)))) (tAndV (tNotV (tCB (rIsi K) (tCons (tVar 0) (tCons (tC (.ty "bool")) (tNil))))) (tOp (rInTD K) (tVar 0) (tTup (tCons (tC (.int 0)) (tCons (tC (.int 1)) (tNil)))))))
theorem sc__law_is_number : FnScope ["_law_thing"] ["_law_thing"] (defScope s__law_is_number) := ⟨rfl, rfl, rfl, by decide +kernel, rfl, by decide +kernel, by decide +kernel⟩
theorem sem__law_is_number {K : Fg} (kf : KF K) {vs : List V} {H : Hp} {Q : VK} {E : XK} (h : Prom K R__law_is_number vs H Q E) {D : Ends} (hD : ∀ u H, Q u H → D.rt u H) (hN : ∀ σ H, Q .non H → D.nx σ H) : t__law_is_number K D (start ["_law_thing"] vs) H := by
  obtain ⟨F, A, rs, A', hR, fh, hS, nd, q⟩ := h
  cases hR with | @mk p_thing  r hm => ?_
  have hl := slots_len hS
  obtain ⟨va0, rfl⟩ := len1 (vs := vs) (by simpa using hl.symm)
  have h : St K ⟨F, H, []⟩ F H [some va0] [.fz (p_thing : Int)] := St.start fh hS nd []
  generalize hB : (⟨F, H, []⟩ : Base) = B0 at h
  have q0 := q
  have q : ∀ u F' H', Fin K B0 (.fz r) [.any] u F' H' → D.rt u H' := by subst hB; exact fun u F' H' z => hD _ _ (q u F' H' z)
  have qN : ∀ σ F' H', Fin K B0 (.fz r) [.any] .non F' H' → D.nx σ H' := by subst hB; exact fun σ F' H' z => hN _ _ (q0 _ F' H' z)
  clear hB q0 hD hN
  rw [show start ["_law_thing"] [va0] = [some va0] from rfl]
  unfold t__law_is_number
  unfold m__law_is_number at hm
  refine S_ret ?_
  obtain ⟨c4, hc4, hm⟩ := ob hm
  refine S_andV (a := true) (c := c4) h (fun Q' q' => ?_) (fun hc F H Q' h q' => ?_) (fun hc => ?_) fun F H h => ?_
  · skip
    refine S_cb ?_
    refine S_cons ?_
    refine S_varI 0 h rfl rfl ?_
    refine S_cons ?_
    refine S_c ?_
    refine S_nil ?_
    refine S_isi (b := true) ty_int (by decide +kernel) ?_
    have hz := h
    exact q' _ _ hz
  · have hm := ifT hc hc4
    obtain ⟨c3, hc3, hm⟩ := ob hm
    refine S_andV (a := (!false)) (c := c3) h (fun Q' q' => ?_) (fun hc F H Q' h q' => ?_) (fun hc => ?_) fun F H h => ?_
    · skip
      refine T_notV ?_
      refine S_cb ?_
      refine S_cons ?_
      refine S_varI 0 h rfl rfl ?_
      refine S_cons ?_
      refine S_c ?_
      refine S_nil ?_
      refine S_isi (b := false) ty_int (by decide +kernel) ?_
      refine T_blV ?_
      have hz := h
      exact q' _ _ hz
    · have hm := ifT hc hc3
      refine S_op ?_
      refine S_varI 0 h rfl rfl ?_
      refine S_tT ?_
      refine S_cons ?_
      refine S_c ?_
      refine S_cons ?_
      refine S_c ?_
      refine S_nil ?_
      refine S_tup (xs := ([(0 : Int), (1 : Int)] : List Int)) h (.cons rfl (.cons rfl .nil)) (Nat.le_of_ble_eq_true rfl) fun p1 F H h => ?_
      obtain ⟨c2, hc2, hm⟩ := ob hm
      refine S_inTD (dF h rfl) (dF h (h.fz 0 rfl rfl)) hc2 (by decide) ?_
      have h := h.pop
      have hz := h
      cases hm
      exact q' _ _ hz
    · exact (Option.some.inj (ifF hc hc3)).symm
    have hz := h
    cases hm
    exact q' _ _ hz
  · exact (Option.some.inj (ifF hc hc4)).symm
  have hz := h
  cases hm
  exact q _ _ _ (hz.finB aft0)
theorem fn__law_is_number {P : Program} {w : World} {K : Fg} {mg : Str → Option Value} {base : Heap} (bz : Blt mg) (kf : KF K) (cz : Cst mg) {f : Addr} {fd : FuncData} (F0 : Fun K "_law_is_number" "_law_is_number" s__law_is_number f fd)  : FnOk P w K mg base CX0 1 f fd ["_law_thing"] (Prom K R__law_is_number) :=
  F0.ok sc__law_is_number (prom_len 1 fun A s A' h => by cases h; rfl) fun cdv A outer s H vs Q E hr h => ⟨t__law_is_number K, pss_one (ps_ret (pe_and (pe_callB (r := rIsi K) call_isi (by rfl) bz.isinstance (by decide +kernel) (pa_cons (pv 0) (pa_cons (pe_bltn (v := .ty "int") (by rfl) bz.int_ (by decide +kernel) rfl) (pa_nil)))) (pe_and (pe_not (pe_callB (r := rIsi K) call_isi (by rfl) bz.isinstance (by decide +kernel) (pa_cons (pv 0) (pa_cons (pe_bltn (v := .ty "bool") (by rfl) bz.bool_ (by decide +kernel) rfl) (pa_nil))))) (pe_one (pe_cmpR (r := (rInTD K)) (op_inTD (hu65 hr)) (pv 0) (pe_tup (pa_cons (pe_int) (pa_cons (pe_int) (pa_nil)))) (by with_unfolding_all rfl)))))), sem__law_is_number kf h (fun _ _ z => z) fun _ _ z => z⟩
theorem ok__law_is_number {P : Program} {w : World} {K : Fg} {mg : Str → Option Value} {base : Heap} (bz : Blt mg) (kf : KF K) (cz : Cst mg) {f : Addr} {fd : FuncData} (F0 : Fun K "_law_is_number" "_law_is_number" s__law_is_number f fd) (g0 : mg "_law_is_number" = some (.ref f)) (b0 : Binds K fd ["_law_thing"] [])  : Cal P w K mg base 1 "_law_is_number" ["_law_thing"] R__law_is_number :=
  Cal.mk' (fn__law_is_number bz kf cz F0) g0 F0.kp b0

def m__law_are_names_c0 (p_found : List (Tup Int)) (x5 : Tup Int) : Option Bool := (if true = true then (atI p_found (0 : Int)).bind fun x15 => some (decide ((List.length (Tup.l x5) : Int) = (List.length (Tup.l x15) : Int))) else some false).bind fun c16 => some c16
def m__law_are_names_c2  (x42 : Int) : Option Bool := (m__law_is_number x42).bind fun r48 => some r48
def m__law_are_names_c1  (x34 : Tup Int) : Option Bool := (mapO m__law_are_names_c2 (Tup.l x34)).bind fun ys49 => some (List.all ys49 id)
def m__law_are_names (p_found : List (Tup Int)) (p_many : Int) : Option Bool := if ((!true) || (!(decide ((List.length p_found : Int) = p_many)))) = true then some false else (mapO (m__law_are_names_c0 p_found) p_found).bind fun ys17 => if (!(List.all ys17 id)) = true then some false else ((atI p_found (0 : Int)).bind fun x21 => some (decide ((List.length (Tup.l x21) : Int) < (1 : Int)))).bind fun c30 => (if c30 = true then some true else ((atI p_found (0 : Int)).bind fun x24 => some (decide ((4 : Int) < (List.length (Tup.l x24) : Int)))).bind fun c28 => (if c28 = true then some true else (nubO p_found).bind fun x26 => some (!(decide (x26 = p_many)))).bind fun c29 => some c29).bind fun c31 => if c31 = true then some false else (mapO m__law_are_names_c1 p_found).bind fun ys51 => some (List.all ys51 id)
inductive R__law_are_names : List Slot → RSlot → List Slot → Prop
  | mk (p_found : List (Tup Int)) (p_many : Int)  {r : Bool} : m__law_are_names p_found p_many = some r → R__law_are_names [.fz p_found, .fz p_many] (.fz r) [.any, .any]
def t__law_are_names (PP : Program) (ww : World) (K : Fg) : TS := tSeq (tIfS (tOr (tNot (tB (tCB (rIsi K) (tCons (tVar 0) (tCons (tC (.ty "list")) (tNil)))))) (tTest (tOp rNe (tCB (rLenG K) (tCons (tVar 0) (tNil))) (tVar 1)))) (tRet (tC (.bl false))) tNext) (tSeq (tIfS (tNot (tB (tCB (rAll K) (tCons (tLc (iList K (tVar 0)) (gName 2) (tYes) (tAndV (tCB (rIsi K) (tCons (tVar 2) (tCons (tC (.ty "tuple")) (tNil)))) (tOp rEq (tCB (rLenG K) (tCons (tVar 2) (tNil))) (tCB (rLenG K) (tCons (tOp (rIxL K) (tVar 0) (tC (.int 0))) (tNil))))) [2]) (tNil))))) (tRet (tC (.bl false))) tNext) (tSeq (tIfS (tOr (tTest (tOp (rI0 fun i j => .bl (decide (i < j))) (tCB (rLenG K) (tCons (tOp (rIxL K) (tVar 0) (tC (.int 0))) (tNil))) (tC (.int 1)))) (tOr (tTest (tOp (rI0 fun i j => .bl (decide (j < i))) (tCB (rLenG K) (tCons (tOp (rIxL K) (tVar 0) (tC (.int 0))) (tNil))) (tC (.int 4)))) (tTest (tOp rNe (tCB (rLenST PP ww) (tCons (tCB (rSetOfT K PP ww) (tCons (tVar 0) (tNil))) tNil)) (tVar 1))))) (tRet (tC (.bl false))) tNext) (tRet (tCB (rAll K) (tCons (tLc (iList K (tVar 0)) (gName 2) (tYes) (tCB (rAll K) (tCons (tLc (iTup K (tVar 2)) (gName 3) (tYes) (tCall (Prom K R__law_is_number) [] E0 (tCons (tVar 3) (tNil))) [3]) (tNil))) [2]) (tNil))))))
theorem sc__law_are_names : FnScope ["_law_found", "_law_many", "_law_name", "_law_number"] ["_law_found", "_law_many"] (defScope s__law_are_names) := ⟨rfl, rfl, rfl, by decide +kernel, rfl, by decide +kernel, by decide +kernel⟩
theorem sem__law_are_names {PP : Program} {ww : World} {K : Fg} (kf : KF K) {vs : List V} {H : Hp} {Q : VK} {E : XK} (h : Prom K R__law_are_names vs H Q E) {D : Ends} (hD : ∀ u H, Q u H → D.rt u H) (hN : ∀ σ H, Q .non H → D.nx σ H) : t__law_are_names PP ww K D (start ["_law_found", "_law_many", "_law_name", "_law_number"] vs) H := by
  obtain ⟨F, A, rs, A', hR, fh, hS, nd, q⟩ := h
  cases hR with | @mk p_found p_many  r hm => ?_
  have hl := slots_len hS
  obtain ⟨va0, va1, rfl⟩ := len2 (vs := vs) (by simpa using hl.symm)
  have h : St K ⟨F, H, []⟩ F H [some va0, some va1, none, none] [.fz (p_found : List (Tup Int)), .fz (p_many : Int), .any, .any] := St.start fh hS nd [none, none]
  generalize hB : (⟨F, H, []⟩ : Base) = B0 at h
  have q0 := q
  have q : ∀ u F' H', Fin K B0 (.fz r) [.any, .any] u F' H' → D.rt u H' := by subst hB; exact fun u F' H' z => hD _ _ (q u F' H' z)
  have qN : ∀ σ F' H', Fin K B0 (.fz r) [.any, .any] .non F' H' → D.nx σ H' := by subst hB; exact fun σ F' H' z => hN _ _ (q0 _ F' H' z)
  clear hB q0 hD hN
  rw [show start ["_law_found", "_law_many", "_law_name", "_law_number"] [va0, va1] = [some va0, some va1, none, none] from rfl]
  unfold t__law_are_names
  unfold m__law_are_names at hm
  refine Q_if ?_
  refine S_or (a := (!true)) (c := ((!true) || (!(decide ((List.length p_found : Int) = p_many))))) h (fun Q' q' => ?_) (fun hc F H Q' h q' => ?_) (fun hc => ?_) fun F H h => ?_
  · skip
    refine S_not ?_
    refine T_tB ?_
    refine S_cb ?_
    refine S_cons ?_
    refine S_var 0 h rfl rfl fun v1 h => ?_
    refine S_cons ?_
    refine S_c ?_
    refine S_nil ?_
    refine S_isi (b := true) (ty_list (h.vF 0 rfl rfl)) (by decide +kernel) ?_
    have h := h.pop
    refine T_bl ?_
    have hz := h
    exact q' _ _ hz
  · skip
    refine T_test ?_
    refine S_op ?_
    refine S_cb ?_
    refine S_cons ?_
    refine S_var 0 h rfl rfl fun v2 h => ?_
    refine S_nil ?_
    refine S_lenL (h.vF 0 rfl rfl) ?_
    have h := h.pop
    refine S_varI 0 h rfl rfl ?_
    refine S_neI ?_
    refine T_bl ?_
    have e0 : ((!true) || (!(decide ((List.length p_found : Int) = p_many)))) = (!(decide ((List.length p_found : Int) = p_many))) := by rw [hc]; rfl
    rw [e0] at q'
    exact q' _ _ h
  · rw [hc]; rfl
  refine S_ite hm (fun hc hm => ?_) (fun hc hm => ?_)
  · skip
    refine S_ret ?_
    refine S_c ?_
    have hz := h
    cases hm
    exact q _ _ _ (hz.finB aft0)
  refine Q_next ?_
  refine Q_if ?_
  refine S_not ?_
  refine T_tB ?_
  refine S_cb ?_
  refine S_cons ?_
  refine S_lc ?_
  refine S_iL ?_
  refine S_var 0 h rfl rfl fun v3 h => ?_
  refine S_itL (h.vF 0 rfl rfl) fun a4 e1 => ?_
  subst e1
  obtain ⟨ys17, hys17, hm⟩ := ob hm
  refine S_mapO (ts := [some (V.ref a4)]) (TM := [.fz (p_found : List (Tup Int))]) (M := [.fz (p_found : List (Tup Int)), .fz (p_many : Int), .any, .any]) (yields_list a4 p_found) hys17 h rfl ⟨rfl, trivial⟩ (view_len (h.vF 0 rfl rfl)) (fun w F H h => (h.vF 0 rfl rfl)) (fun x5 z v6 D7 a8 F H G N hf h hG => ?_) (fun D18 F H hBD18 h => ?_)
  · have hm := hf
    unfold m__law_are_names_c0 at hm
    have h : St K B0 F H (some v6 :: some (V.ref D7) :: some (V.ref a4) :: wipe [some va0, some va1, none, none] [2]) [.fz (x5 : Tup Int), .own D7 a8, .fz (p_found : List (Tup Int)), .fz (p_found : List (Tup Int)), .fz (p_many : Int), .any, .any] := h
    refine S_gName ?_
    have h : St K B0 F H (some (V.ref D7) :: some (V.ref a4) :: List.set (wipe [some va0, some va1, none, none] [2]) 2 (some v6)) [.own D7 a8, .fz (p_found : List (Tup Int)), .fz (p_found : List (Tup Int)), .fz (p_many : Int), .fz (x5 : Tup Int), .any] := St.setF (v := v6) (x := (x5 : Tup Int)) h.pop 4 (h.fz 0 rfl rfl)
    refine ⟨(wipe_set (by decide)).trans wipe_idem, ?_⟩
    refine if1 ?_
    obtain ⟨c16, hc16, hm⟩ := ob hm
    refine S_andV (a := true) (c := c16) h (fun Q' q' => ?_) (fun hc F H Q' h q' => ?_) (fun hc => ?_) fun F H h => ?_
    · skip
      refine S_cb ?_
      refine S_cons ?_
      refine S_var 2 h rfl rfl fun v11 h => ?_
      refine S_cons ?_
      refine S_c ?_
      refine S_nil ?_
      refine S_isi (b := true) (ty_tup h (h.fz 0 rfl rfl)) (by decide +kernel) ?_
      have h := h.pop
      have hz := h
      exact q' _ _ hz
    · have hm := ifT hc hc16
      refine S_op ?_
      refine S_cb ?_
      refine S_cons ?_
      refine S_var 2 h rfl rfl fun v12 h => ?_
      refine S_nil ?_
      refine S_lenT h (h.fz 0 rfl rfl) ?_
      have h := h.pop
      refine S_cb ?_
      refine S_cons ?_
      refine S_op ?_
      refine S_var 2 h rfl rfl fun v13 h => ?_
      refine S_c ?_
      obtain ⟨x15, hx15, hm⟩ := ob hm
      refine S_ixL h.pop (h.vF 0 rfl rfl) hx15 fun u14 h => ?_
      refine S_nil ?_
      refine S_lenT h (h.fz 0 rfl rfl) ?_
      have h := h.pop
      refine S_eqI ?_
      have hz := h
      cases hm
      exact q' _ _ hz
    · exact (Option.some.inj (ifF hc hc16)).symm
    have hz := h
    cases hm
    exact hG _ _ _ (St.unset (ts := [some (V.ref D7), some (V.ref a4)]) (TM := [.own D7 a8, .fz (p_found : List (Tup Int))]) (M := [.fz (p_found : List (Tup Int)), .fz (p_many : Int), .any, .any]) (hz.weak ⟨.inr rfl, .inr rfl, .inr rfl, .inr rfl, .inl rfl, .inr rfl, trivial⟩) rfl rfl) rfl
  have h : St K B0 F H (some (V.ref D18) :: some (V.ref a4) :: [some va0, some va1, none, none]) [.own D18 ys17, .fz (p_found : List (Tup Int)), .fz (p_found : List (Tup Int)), .fz (p_many : Int), .any, .any] := h
  have h := h.nip
  refine S_frz h hBD18 _ fun F h => ?_
  refine S_nil ?_
  refine S_all (h.vF 0 rfl rfl) ?_
  have h := h.pop
  refine T_bl ?_
  refine S_ite hm (fun hc hm => ?_) (fun hc hm => ?_)
  · skip
    refine S_ret ?_
    refine S_c ?_
    have hz := h
    cases hm
    exact q _ _ _ (hz.finB aft0)
  refine Q_next ?_
  refine Q_if ?_
  obtain ⟨c30, hc30, hm⟩ := ob hm
  obtain ⟨c31, hc31, hm⟩ := ob hm
  refine S_or (a := c30) (c := c31) h (fun Q' q' => ?_) (fun hc F H Q' h q' => ?_) (fun hc => ?_) fun F H h => ?_
  · have hm := hc30
    refine T_test ?_
    refine S_op ?_
    refine S_cb ?_
    refine S_cons ?_
    refine S_op ?_
    refine S_var 0 h rfl rfl fun v19 h => ?_
    refine S_c ?_
    obtain ⟨x21, hx21, hm⟩ := ob hm
    refine S_ixL h.pop (h.vF 0 rfl rfl) hx21 fun u20 h => ?_
    refine S_nil ?_
    refine S_lenT h (h.fz 0 rfl rfl) ?_
    have h := h.pop
    refine S_c ?_
    refine S_I0 ?_
    refine T_bl ?_
    have hz := h
    cases hm
    exact q' _ _ hz
  · have hm := ifF hc hc31
    obtain ⟨c28, hc28, hm⟩ := ob hm
    obtain ⟨c29, hc29, hm⟩ := ob hm
    refine S_or (a := c28) (c := c29) h (fun Q' q' => ?_) (fun hc F H Q' h q' => ?_) (fun hc => ?_) fun F H h => ?_
    · have hm := hc28
      refine T_test ?_
      refine S_op ?_
      refine S_cb ?_
      refine S_cons ?_
      refine S_op ?_
      refine S_var 0 h rfl rfl fun v22 h => ?_
      refine S_c ?_
      obtain ⟨x24, hx24, hm⟩ := ob hm
      refine S_ixL h.pop (h.vF 0 rfl rfl) hx24 fun u23 h => ?_
      refine S_nil ?_
      refine S_lenT h (h.fz 0 rfl rfl) ?_
      have h := h.pop
      refine S_c ?_
      refine S_I0 ?_
      refine T_bl ?_
      have hz := h
      cases hm
      exact q' _ _ hz
    · have hm := ifF hc hc29
      refine T_test ?_
      refine S_op ?_
      refine S_cb ?_
      refine S_cons ?_
      refine S_cb ?_
      refine S_cons ?_
      refine S_var 0 h rfl rfl fun v25 h => ?_
      refine S_nil ?_
      obtain ⟨x26, hx26, hm⟩ := ob hm
      refine S_setT h.pop (h.vF 0 rfl rfl) hx26 fun p27 H h q' => ?_
      refine S_nil ?_
      refine q' _ ?_
      refine S_varI 0 h rfl rfl ?_
      refine S_neI ?_
      refine T_bl ?_
      have hz := h
      cases hm
      exact q' _ _ hz
    · exact (Option.some.inj (ifT hc hc29)).symm
    have hz := h
    cases hm
    exact q' _ _ hz
  · exact (Option.some.inj (ifT hc hc31)).symm
  refine S_ite hm (fun hc hm => ?_) (fun hc hm => ?_)
  · skip
    refine S_ret ?_
    refine S_c ?_
    have hz := h
    cases hm
    exact q _ _ _ (hz.finB aft0)
  refine Q_next ?_
  refine S_ret ?_
  refine S_cb ?_
  refine S_cons ?_
  refine S_lc ?_
  refine S_iL ?_
  refine S_var 0 h rfl rfl fun v32 h => ?_
  refine S_itL (h.vF 0 rfl rfl) fun a33 e1 => ?_
  subst e1
  obtain ⟨ys51, hys51, hm⟩ := ob hm
  refine S_mapO (ts := [some (V.ref a33)]) (TM := [.fz (p_found : List (Tup Int))]) (M := [.fz (p_found : List (Tup Int)), .fz (p_many : Int), .any, .any]) (yields_list a33 p_found) hys51 h rfl ⟨rfl, trivial⟩ (view_len (h.vF 0 rfl rfl)) (fun w F H h => (h.vF 0 rfl rfl)) (fun x34 z v35 D36 a37 F H G N hf h hG => ?_) (fun D52 F H hBD52 h => ?_)
  · have hm := hf
    unfold m__law_are_names_c1 at hm
    have h : St K B0 F H (some v35 :: some (V.ref D36) :: some (V.ref a33) :: wipe [some va0, some va1, none, none] [2]) [.fz (x34 : Tup Int), .own D36 a37, .fz (p_found : List (Tup Int)), .fz (p_found : List (Tup Int)), .fz (p_many : Int), .any, .any] := h
    refine S_gName ?_
    have h : St K B0 F H (some (V.ref D36) :: some (V.ref a33) :: List.set (wipe [some va0, some va1, none, none] [2]) 2 (some v35)) [.own D36 a37, .fz (p_found : List (Tup Int)), .fz (p_found : List (Tup Int)), .fz (p_many : Int), .fz (x34 : Tup Int), .any] := St.setF (v := v35) (x := (x34 : Tup Int)) h.pop 4 (h.fz 0 rfl rfl)
    refine ⟨(wipe_set (by decide)).trans wipe_idem, ?_⟩
    refine if1 ?_
    refine S_cb ?_
    refine S_cons ?_
    refine S_lc ?_
    refine S_iT ?_
    refine S_var 2 h rfl rfl fun v40 h => ?_
    refine S_itT h (h.fz 0 rfl rfl) fun a41 e1 => ?_
    subst e1
    obtain ⟨ys49, hys49, hm⟩ := ob hm
    refine S_mapO (ts := [some (V.ref a41), some (V.ref D36), some (V.ref a33)]) (TM := [.fz (x34 : Tup Int), .own D36 a37, .fz (p_found : List (Tup Int))]) (M := [.fz (p_found : List (Tup Int)), .fz (p_many : Int), .fz (x34 : Tup Int), .any]) (yields_tup a41 x34) hys49 h rfl ⟨rfl, trivial⟩ (tup_len (h.fz 0 rfl rfl)) (fun w F H h => (h.fz 0 rfl rfl)) (fun x42 z v43 D44 a45 F H G N hf h hG => ?_) (fun D50 F H hBD50 h => ?_)
    · have hm := hf
      unfold m__law_are_names_c2 at hm
      have h : St K B0 F H (some v43 :: some (V.ref D44) :: some (V.ref a41) :: some (V.ref D36) :: some (V.ref a33) :: wipe (List.set (wipe [some va0, some va1, none, none] [2]) 2 (some v35)) [3]) [.fz (x42 : Int), .own D44 a45, .fz (x34 : Tup Int), .own D36 a37, .fz (p_found : List (Tup Int)), .fz (p_found : List (Tup Int)), .fz (p_many : Int), .fz (x34 : Tup Int), .any] := h
      refine S_gName ?_
      have h : St K B0 F H (some (V.ref D44) :: some (V.ref a41) :: some (V.ref D36) :: some (V.ref a33) :: List.set (wipe (List.set (wipe [some va0, some va1, none, none] [2]) 2 (some v35)) [3]) 3 (some v43)) [.own D44 a45, .fz (x34 : Tup Int), .own D36 a37, .fz (p_found : List (Tup Int)), .fz (p_found : List (Tup Int)), .fz (p_many : Int), .fz (x34 : Tup Int), .fz (x42 : Int)] := St.setF (v := v43) (x := (x42 : Int)) h.pop 7 (h.fz 0 rfl rfl)
      refine ⟨(wipe_set (by decide)).trans wipe_idem, ?_⟩
      refine if1 ?_
      refine S_tcall ?_
      refine S_cons ?_
      refine S_varI 4 h rfl rfl ?_
      refine S_nil ?_
      obtain ⟨r48, hr48, hm⟩ := ob hm
      refine S_callB (A := [.fz (x42 : Int)]) h (slots_cons (ok_fz rfl) slots_nil) (R__law_is_number.mk _ hr48) rfl fun F H h => ?_
      have hz := h
      cases hm
      exact hG _ _ _ (St.unset (ts := [some (V.ref D44), some (V.ref a41), some (V.ref D36), some (V.ref a33)]) (TM := [.own D44 a45, .fz (x34 : Tup Int), .own D36 a37, .fz (p_found : List (Tup Int))]) (M := [.fz (p_found : List (Tup Int)), .fz (p_many : Int), .fz (x34 : Tup Int), .any]) (hz.weak ⟨.inr rfl, .inr rfl, .inr rfl, .inr rfl, .inr rfl, .inr rfl, .inr rfl, .inl rfl, trivial⟩) rfl rfl) rfl
    have h : St K B0 F H (some (V.ref D50) :: some (V.ref a41) :: some (V.ref D36) :: some (V.ref a33) :: List.set (wipe [some va0, some va1, none, none] [2]) 2 (some v35)) [.own D50 ys49, .fz (x34 : Tup Int), .own D36 a37, .fz (p_found : List (Tup Int)), .fz (p_found : List (Tup Int)), .fz (p_many : Int), .fz (x34 : Tup Int), .any] := h
    have h := h.nip
    refine S_frz h hBD50 _ fun F h => ?_
    refine S_nil ?_
    refine S_all (h.vF 0 rfl rfl) ?_
    have h := h.pop
    have hz := h
    cases hm
    exact hG _ _ _ (St.unset (ts := [some (V.ref D36), some (V.ref a33)]) (TM := [.own D36 a37, .fz (p_found : List (Tup Int))]) (M := [.fz (p_found : List (Tup Int)), .fz (p_many : Int), .any, .any]) (hz.weak ⟨.inr rfl, .inr rfl, .inr rfl, .inr rfl, .inl rfl, .inr rfl, trivial⟩) rfl rfl) rfl
  have h : St K B0 F H (some (V.ref D52) :: some (V.ref a33) :: [some va0, some va1, none, none]) [.own D52 ys51, .fz (p_found : List (Tup Int)), .fz (p_found : List (Tup Int)), .fz (p_many : Int), .any, .any] := h
  have h := h.nip
  refine S_frz h hBD52 _ fun F h => ?_
  refine S_nil ?_
  refine S_all (h.vF 0 rfl rfl) ?_
  have h := h.pop
  have hz := h
  cases hm
  exact q _ _ _ (hz.finB aft0)
theorem fn__law_are_names {P : Program} {w : World} {K : Fg} {mg : Str → Option Value} {base : Heap} (bz : Blt mg) (kf : KF K) (cz : Cst mg) {f : Addr} {fd : FuncData} (F0 : Fun K "_law_are_names" "_law_are_names" s__law_are_names f fd) (C__law_is_number : Cal P w K mg base 1 "_law_is_number" ["_law_thing"] R__law_is_number) : FnOk P w K mg base CX0 2 f fd ["_law_found", "_law_many"] (Prom K R__law_are_names) :=
  F0.ok sc__law_are_names (prom_len 2 fun A s A' h => by cases h; rfl) fun cdv A outer s H vs Q E hr h => ⟨t__law_are_names P w K, pss_cons (ps_if (PW.pt (pw_or (pt_not (pt_val (pe_callB (r := rIsi K) call_isi (by rfl) bz.isinstance (by decide +kernel) (pa_cons (pv 0) (pa_cons (pe_bltn (v := .ty "list") (by rfl) bz.list_ (by decide +kernel) rfl) (pa_nil)))))) (pw_or1 (pt_cmpR (r := rNe) op_ne (pe_callB (r := rLenG K) cr_lenG (by rfl) bz.len (by decide +kernel) (pa_cons (pv 0) (pa_nil))) (pv 1) (nomark _))))) (pss_one (ps_ret (pe_bl))) pss_nil) (pss_cons (ps_if (pt_not (pt_val (pe_callB (r := rAll K) (cr_all rfl) (by rfl) bz.all_ (by decide +kernel) (pa_cons (pe_lc (own := [("_law_name", 2)]) (g := gName 2) (tt := tYes) (te := tAndV (tCB (rIsi K) (tCons (tVar 2) (tCons (tC (.ty "tuple")) (tNil)))) (tOp rEq (tCB (rLenG K) (tCons (tVar 2) (tNil))) (tCB (rLenG K) (tCons (tOp (rIxL K) (tVar 0) (tC (.int 0))) (tNil))))) (wi := iList K (tVar 0)) rfl sc__law_are_names.nd (pi_list (pv 0)) (blkOk_by (N := ["_law_found", "_law_many", "_law_name", "_law_number"]) (sc := defScope s__law_are_names) (by decide +kernel)) (fun _ _ _ _ _ => pg_name (i := 2) sc__law_are_names.nd rfl (by first | exact .inl rfl | exact .inr rfl)) (fun _ _ _ _ _ => pts_nil) (fun _ _ _ _ _ => pe_and (pe_callB (r := rIsi K) call_isi (by rfl) bz.isinstance (by decide +kernel) (pa_cons (pv 2) (pa_cons (pe_bltn (v := .ty "tuple") (by rfl) bz.tuple (by decide +kernel) rfl) (pa_nil)))) (pe_one (pe_cmpR (r := rEq) op_eq (pe_callB (r := rLenG K) cr_lenG (by rfl) bz.len (by decide +kernel) (pa_cons (pv 2) (pa_nil))) (pe_callB (r := rLenG K) cr_lenG (by rfl) bz.len (by decide +kernel) (pa_cons (pe_ix (r := rIxL K) ix_list (pv 0) (pe_int) (fun _ _ => rfl)) (pa_nil))) (nomark _))))) (pa_nil))))) (pss_one (ps_ret (pe_bl))) pss_nil) (pss_cons (ps_if (PW.pt (pw_or (pt_cmpR (r := (rI0 fun i j => .bl (decide (i < j)))) op_lt (pe_callB (r := rLenG K) cr_lenG (by rfl) bz.len (by decide +kernel) (pa_cons (pe_ix (r := rIxL K) ix_list (pv 0) (pe_int) (fun _ _ => rfl)) (pa_nil))) (pe_int) (nomark _)) (pw_or (pt_cmpR (r := (rI0 fun i j => .bl (decide (j < i)))) op_gt (pe_callB (r := rLenG K) cr_lenG (by rfl) bz.len (by decide +kernel) (pa_cons (pe_ix (r := rIxL K) ix_list (pv 0) (pe_int) (fun _ _ => rfl)) (pa_nil))) (pe_int) (nomark _)) (pw_or1 (pt_cmpR (r := rNe) op_ne (pe_callB (r := rLenST P w) cr_lenST (by rfl) bz.len (by decide +kernel) (pa_cons (pe_callTy (r := rSetOfT K P w) (cr_setOfT rfl (hu64 hr)) (by rfl) bz.set_ (by decide +kernel) (pa_cons (pv 0) (pa_nil))) pa_nil)) (pv 1) (nomark _)))))) (pss_one (ps_ret (pe_bl))) pss_nil) (pss_one (ps_ret (pe_callB (r := rAll K) (cr_all rfl) (by rfl) bz.all_ (by decide +kernel) (pa_cons (pe_lc (own := [("_law_name", 2)]) (g := gName 2) (tt := tYes) (te := tCB (rAll K) (tCons (tLc (iTup K (tVar 2)) (gName 3) (tYes) (tCall (Prom K R__law_is_number) [] E0 (tCons (tVar 3) (tNil))) [3]) (tNil))) (wi := iList K (tVar 0)) rfl sc__law_are_names.nd (pi_list (pv 0)) (blkOk_by (N := ["_law_found", "_law_many", "_law_name", "_law_number"]) (sc := defScope s__law_are_names) (by decide +kernel)) (fun _ _ _ _ _ => pg_name (i := 2) sc__law_are_names.nd rfl (by first | exact .inl rfl | exact .inr rfl)) (fun _ _ _ _ _ => pts_nil) (fun _ _ _ _ _ => pe_callB (r := rAll K) (cr_all rfl) (by rfl) bz.all_ (by decide +kernel) (pa_cons (pe_lc (own := [("_law_number", 3)]) (g := gName 3) (tt := tYes) (te := tCall (Prom K R__law_is_number) [] E0 (tCons (tVar 3) (tNil))) (wi := iTup K (tVar 2)) rfl sc__law_are_names.nd (pi_tup (pv 2)) (blk_rl (blkOk_by (N := ["_law_found", "_law_many", "_law_name", "_law_number"]) (sc := { kind := PySem.ScopeKind.function, names := [ (PySem.Str.ofString ".0", PySem.NameKind.local), (PySem.Str.ofString "_law_name", PySem.NameKind.local), (PySem.Str.ofString "all", PySem.NameKind.globalImplicit)], isGenerator := false, isCoroutine := false, more := [] : PySem.Scope }) (by decide +kernel))) (fun _ _ _ _ _ => pg_name (i := 3) sc__law_are_names.nd rfl (by first | exact .inl rfl | exact .inr rfl)) (fun _ _ _ _ _ => pts_nil) (fun _ _ _ _ _ => C__law_is_number.pe (hr.mono (by decide)) (by rfl) (pa_cons (pv 3) (pa_nil)))) (pa_nil)))) (pa_nil))))))), sem__law_are_names kf h (fun _ _ z => z) fun _ _ z => z⟩
theorem ok__law_are_names {P : Program} {w : World} {K : Fg} {mg : Str → Option Value} {base : Heap} (bz : Blt mg) (kf : KF K) (cz : Cst mg) {f : Addr} {fd : FuncData} (F0 : Fun K "_law_are_names" "_law_are_names" s__law_are_names f fd) (g0 : mg "_law_are_names" = some (.ref f)) (b0 : Binds K fd ["_law_found", "_law_many"] []) (C__law_is_number : Cal P w K mg base 1 "_law_is_number" ["_law_thing"] R__law_is_number) : Cal P w K mg base 2 "_law_are_names" ["_law_found", "_law_many"] R__law_are_names :=
  Cal.mk' (fn__law_are_names bz kf cz F0 C__law_is_number) g0 F0.kp b0

def m__law_is_met_c0 (r13 : List (Tup Int)) (x30 : Tup Int) : Option Bool := (inO x30 r13).bind fun c38 => some c38
def m__law_is_met (p_names : List (Tup Int)) (p_one : Tup Int) (p_other : Tup Int) : Option Bool := (atI (Tup.l p_one) (0 : Int)).bind fun x4 => (atI p_names x4).bind fun x6 => (atI (Tup.l p_one) (1 : Int)).bind fun x10 => (atI p_names x10).bind fun x12 => (m__law_between x6 x12).bind fun r13 => (atI (Tup.l p_other) (0 : Int)).bind fun x18 => (atI p_names x18).bind fun x20 => (atI (Tup.l p_other) (1 : Int)).bind fun x24 => (atI p_names x24).bind fun x26 => (m__law_between x20 x26).bind fun r27 => (mapO (m__law_is_met_c0 r13) r27).bind fun ys39 => some (List.any ys39 id)
inductive R__law_is_met : List Slot → RSlot → List Slot → Prop
  | mk (p_names : List (Tup Int)) (p_one : Tup Int) (p_other : Tup Int)  {r : Bool} : m__law_is_met p_names p_one p_other = some r → R__law_is_met [.fz p_names, .fz p_one, .fz p_other] (.fz r) [.any, .any, .any]
def t__law_is_met (K : Fg) : TS := tSeq (tAsg (tCall (Prom K R__law_between) [] E0 (tCons (tOp (rIxL K) (tVar 0) (tOp (rIxT K) (tVar 1) (tC (.int 0)))) (tCons (tOp (rIxL K) (tVar 0) (tOp (rIxT K) (tVar 1) (tC (.int 1)))) (tNil)))) (gName 3)) (tRet (tCB (rAny K) (tCons (tLc (iList K (tCall (Prom K R__law_between) [] E0 (tCons (tOp (rIxL K) (tVar 0) (tOp (rIxT K) (tVar 2) (tC (.int 0)))) (tCons (tOp (rIxL K) (tVar 0) (tOp (rIxT K) (tVar 2) (tC (.int 1)))) (tNil))))) (gName 4) (tYes) (tOp (rInD K) (tVar 4) (tVar 3)) [4]) (tNil))))
theorem sc__law_is_met : FnScope ["_law_names", "_law_one", "_law_other", "_law_some", "_law_name"] ["_law_names", "_law_one", "_law_other"] (defScope s__law_is_met) := ⟨rfl, rfl, rfl, by decide +kernel, rfl, by decide +kernel, by decide +kernel⟩
theorem sem__law_is_met {K : Fg} (kf : KF K) {vs : List V} {H : Hp} {Q : VK} {E : XK} (h : Prom K R__law_is_met vs H Q E) {D : Ends} (hD : ∀ u H, Q u H → D.rt u H) (hN : ∀ σ H, Q .non H → D.nx σ H) : t__law_is_met K D (start ["_law_names", "_law_one", "_law_other", "_law_some", "_law_name"] vs) H := by
  obtain ⟨F, A, rs, A', hR, fh, hS, nd, q⟩ := h
  cases hR with | @mk p_names p_one p_other  r hm => ?_
  have hl := slots_len hS
  obtain ⟨va0, va1, va2, rfl⟩ := len3 (vs := vs) (by simpa using hl.symm)
  have h : St K ⟨F, H, []⟩ F H [some va0, some va1, some va2, none, none] [.fz (p_names : List (Tup Int)), .fz (p_one : Tup Int), .fz (p_other : Tup Int), .any, .any] := St.start fh hS nd [none, none]
  generalize hB : (⟨F, H, []⟩ : Base) = B0 at h
  have q0 := q
  have q : ∀ u F' H', Fin K B0 (.fz r) [.any, .any, .any] u F' H' → D.rt u H' := by subst hB; exact fun u F' H' z => hD _ _ (q u F' H' z)
  have qN : ∀ σ F' H', Fin K B0 (.fz r) [.any, .any, .any] .non F' H' → D.nx σ H' := by subst hB; exact fun σ F' H' z => hN _ _ (q0 _ F' H' z)
  clear hB q0 hD hN
  rw [show start ["_law_names", "_law_one", "_law_other", "_law_some", "_law_name"] [va0, va1, va2] = [some va0, some va1, some va2, none, none] from rfl]
  unfold t__law_is_met
  unfold m__law_is_met at hm
  refine Q_asg ?_
  refine S_tcall ?_
  refine S_cons ?_
  refine S_op ?_
  refine S_var 0 h rfl rfl fun v1 h => ?_
  refine S_op ?_
  refine S_var 1 h rfl rfl fun v2 h => ?_
  refine S_c ?_
  obtain ⟨x4, hx4, hm⟩ := ob hm
  refine S_ixT h.pop (h.fz 0 rfl rfl) hx4 fun u3 h => ?_
  obtain rfl : u3 = (V.int x4) := h.fz 0 rfl rfl
  have h := h.pop
  obtain ⟨x6, hx6, hm⟩ := ob hm
  refine S_ixL h.pop (h.vF 0 rfl rfl) hx6 fun u5 h => ?_
  refine S_cons ?_
  refine S_op ?_
  refine S_var 1 h rfl rfl fun v7 h => ?_
  refine S_op ?_
  refine S_var 2 h rfl rfl fun v8 h => ?_
  refine S_c ?_
  obtain ⟨x10, hx10, hm⟩ := ob hm
  refine S_ixT h.pop (h.fz 0 rfl rfl) hx10 fun u9 h => ?_
  obtain rfl : u9 = (V.int x10) := h.fz 0 rfl rfl
  have h := h.pop
  obtain ⟨x12, hx12, hm⟩ := ob hm
  refine S_ixL h.pop (h.vF 0 rfl rfl) hx12 fun u11 h => ?_
  refine S_nil ?_
  obtain ⟨r13, hr13, hm⟩ := ob hm
  refine S_callO (A := [.fz (x6 : Tup Int), .fz (x12 : Tup Int)]) h.pop.pop (slots_cons (ok_fz (h.fz 1 rfl rfl)) (slots_cons (ok_fz (h.fz 0 rfl rfl)) slots_nil)) (R__law_between.mk _ _ hr13) rfl fun p14 F H hBp14 h => ?_
  refine S_gName ?_
  refine S_frz h hBp14 _ fun F h => ?_
  have h : St K B0 F H (List.set [some va0, some va1, some va2, none, none] 3 (some (V.ref p14))) [.fz (p_names : List (Tup Int)), .fz (p_one : Tup Int), .fz (p_other : Tup Int), .fz (r13 : List (Tup Int)), .any] := St.setF (v := (V.ref p14)) (x := (r13 : List (Tup Int))) h.pop 3 (h.fz 0 rfl rfl)
  refine S_ret ?_
  refine S_cb ?_
  refine S_cons ?_
  refine S_lc ?_
  refine S_iL ?_
  refine S_tcall ?_
  refine S_cons ?_
  refine S_op ?_
  refine S_var 0 h rfl rfl fun v15 h => ?_
  refine S_op ?_
  refine S_var 1 h rfl rfl fun v16 h => ?_
  refine S_c ?_
  obtain ⟨x18, hx18, hm⟩ := ob hm
  refine S_ixT h.pop (h.fz 0 rfl rfl) hx18 fun u17 h => ?_
  obtain rfl : u17 = (V.int x18) := h.fz 0 rfl rfl
  have h := h.pop
  obtain ⟨x20, hx20, hm⟩ := ob hm
  refine S_ixL h.pop (h.vF 0 rfl rfl) hx20 fun u19 h => ?_
  refine S_cons ?_
  refine S_op ?_
  refine S_var 1 h rfl rfl fun v21 h => ?_
  refine S_op ?_
  refine S_var 2 h rfl rfl fun v22 h => ?_
  refine S_c ?_
  obtain ⟨x24, hx24, hm⟩ := ob hm
  refine S_ixT h.pop (h.fz 0 rfl rfl) hx24 fun u23 h => ?_
  obtain rfl : u23 = (V.int x24) := h.fz 0 rfl rfl
  have h := h.pop
  obtain ⟨x26, hx26, hm⟩ := ob hm
  refine S_ixL h.pop (h.vF 0 rfl rfl) hx26 fun u25 h => ?_
  refine S_nil ?_
  obtain ⟨r27, hr27, hm⟩ := ob hm
  refine S_callO (A := [.fz (x20 : Tup Int), .fz (x26 : Tup Int)]) h.pop.pop (slots_cons (ok_fz (h.fz 1 rfl rfl)) (slots_cons (ok_fz (h.fz 0 rfl rfl)) slots_nil)) (R__law_between.mk _ _ hr27) rfl fun p28 F H hBp28 h => ?_
  refine S_itL (h.vO 0 rfl) fun p28 e1 => ?_
  obtain rfl := V.ref.inj e1
  obtain ⟨ys39, hys39, hm⟩ := ob hm
  refine S_mapO (ts := [some (V.ref p28)]) (TM := [.own p28 r27]) (M := [.fz (p_names : List (Tup Int)), .fz (p_one : Tup Int), .fz (p_other : Tup Int), .fz (r13 : List (Tup Int)), .any]) (yields_list p28 r27) hys39 h rfl ⟨rfl, trivial⟩ (view_len (h.vO 0 rfl)) (fun w F H h => (h.vO 0 rfl)) (fun x30 z v31 D32 a33 F H G N hf h hG => ?_) (fun D40 F H hBD40 h => ?_)
  · have hm := hf
    unfold m__law_is_met_c0 at hm
    have h : St K B0 F H (some v31 :: some (V.ref D32) :: some (V.ref p28) :: wipe (List.set [some va0, some va1, some va2, none, none] 3 (some (V.ref p14))) [4]) [.fz (x30 : Tup Int), .own D32 a33, .own p28 r27, .fz (p_names : List (Tup Int)), .fz (p_one : Tup Int), .fz (p_other : Tup Int), .fz (r13 : List (Tup Int)), .any] := h
    refine S_gName ?_
    have h : St K B0 F H (some (V.ref D32) :: some (V.ref p28) :: List.set (wipe (List.set [some va0, some va1, some va2, none, none] 3 (some (V.ref p14))) [4]) 4 (some v31)) [.own D32 a33, .own p28 r27, .fz (p_names : List (Tup Int)), .fz (p_one : Tup Int), .fz (p_other : Tup Int), .fz (r13 : List (Tup Int)), .fz (x30 : Tup Int)] := St.setF (v := v31) (x := (x30 : Tup Int)) h.pop 6 (h.fz 0 rfl rfl)
    refine ⟨(wipe_set (by decide)).trans wipe_idem, ?_⟩
    refine if1 ?_
    refine S_op ?_
    refine S_var 2 h rfl rfl fun v36 h => ?_
    refine S_var 3 h rfl rfl fun v37 h => ?_
    obtain ⟨c38, hc38, hm⟩ := ob hm
    refine S_inD (dF h (h.fz 1 rfl rfl)) (dF h (h.fz 0 rfl rfl)) hc38 (by decide) ?_
    have h := h.pop.pop
    have hz := h
    cases hm
    exact hG _ _ _ (St.unset (ts := [some (V.ref D32), some (V.ref p28)]) (TM := [.own D32 a33, .own p28 r27]) (M := [.fz (p_names : List (Tup Int)), .fz (p_one : Tup Int), .fz (p_other : Tup Int), .fz (r13 : List (Tup Int)), .any]) (hz.weak ⟨.inr rfl, .inr rfl, .inr rfl, .inr rfl, .inr rfl, .inr rfl, .inl rfl, trivial⟩) rfl rfl) rfl
  have h : St K B0 F H (some (V.ref D40) :: some (V.ref p28) :: List.set [some va0, some va1, some va2, none, none] 3 (some (V.ref p14))) [.own D40 ys39, .own p28 r27, .fz (p_names : List (Tup Int)), .fz (p_one : Tup Int), .fz (p_other : Tup Int), .fz (r13 : List (Tup Int)), .any] := h
  have h := h.nip
  refine S_frz h hBD40 _ fun F h => ?_
  refine S_nil ?_
  refine S_any (h.vF 0 rfl rfl) ?_
  have h := h.pop
  have hz := h
  cases hm
  exact q _ _ _ (hz.finB aft0)
theorem fn__law_is_met {P : Program} {w : World} {K : Fg} {mg : Str → Option Value} {base : Heap} (bz : Blt mg) (kf : KF K) (cz : Cst mg) {f : Addr} {fd : FuncData} (F0 : Fun K "_law_is_met" "_law_is_met" s__law_is_met f fd) (C__law_between : Cal P w K mg base 1 "_law_between" ["_law_one", "_law_other"] R__law_between) : FnOk P w K mg base CX0 2 f fd ["_law_names", "_law_one", "_law_other"] (Prom K R__law_is_met) :=
  F0.ok sc__law_is_met (prom_len 3 fun A s A' h => by cases h; rfl) fun cdv A outer s H vs Q E hr h => ⟨t__law_is_met K, pss_cons (ps_set (i := 3) sc__law_is_met.nd rfl (.inr rfl) (C__law_between.pe (hr.mono (by decide)) (by rfl) (pa_cons (pe_ix (r := rIxL K) ix_list (pv 0) (pe_ix (r := rIxT K) ix_tup (pv 1) (pe_int) (fun _ _ => rfl)) (fun _ _ => rfl)) (pa_cons (pe_ix (r := rIxL K) ix_list (pv 0) (pe_ix (r := rIxT K) ix_tup (pv 1) (pe_int) (fun _ _ => rfl)) (fun _ _ => rfl)) (pa_nil))))) (pss_one (ps_ret (pe_callB (r := rAny K) (cr_any rfl) (by rfl) bz.any_ (by decide +kernel) (pa_cons (pe_lc (own := [("_law_name", 4)]) (g := gName 4) (tt := tYes) (te := tOp (rInD K) (tVar 4) (tVar 3)) (wi := iList K (tCall (Prom K R__law_between) [] E0 (tCons (tOp (rIxL K) (tVar 0) (tOp (rIxT K) (tVar 2) (tC (.int 0)))) (tCons (tOp (rIxL K) (tVar 0) (tOp (rIxT K) (tVar 2) (tC (.int 1)))) (tNil))))) rfl sc__law_is_met.nd (pi_list (C__law_between.pe (hr.mono (by decide)) (by rfl) (pa_cons (pe_ix (r := rIxL K) ix_list (pv 0) (pe_ix (r := rIxT K) ix_tup (pv 2) (pe_int) (fun _ _ => rfl)) (fun _ _ => rfl)) (pa_cons (pe_ix (r := rIxL K) ix_list (pv 0) (pe_ix (r := rIxT K) ix_tup (pv 2) (pe_int) (fun _ _ => rfl)) (fun _ _ => rfl)) (pa_nil))))) (blkOk_by (N := ["_law_names", "_law_one", "_law_other", "_law_some", "_law_name"]) (sc := defScope s__law_is_met) (by decide +kernel)) (fun _ _ _ _ _ => pg_name (i := 4) sc__law_is_met.nd rfl (by first | exact .inl rfl | exact .inr rfl)) (fun _ _ _ _ _ => pts_nil) (fun _ _ _ _ _ => pe_cmpR (r := (rInD K)) (op_inD (hu65 hr)) (pv 4) (pv 3) (by with_unfolding_all rfl))) (pa_nil))))), sem__law_is_met kf h (fun _ _ z => z) fun _ _ z => z⟩
theorem ok__law_is_met {P : Program} {w : World} {K : Fg} {mg : Str → Option Value} {base : Heap} (bz : Blt mg) (kf : KF K) (cz : Cst mg) {f : Addr} {fd : FuncData} (F0 : Fun K "_law_is_met" "_law_is_met" s__law_is_met f fd) (g0 : mg "_law_is_met" = some (.ref f)) (b0 : Binds K fd ["_law_names", "_law_one", "_law_other"] []) (C__law_between : Cal P w K mg base 1 "_law_between" ["_law_one", "_law_other"] R__law_between) : Cal P w K mg base 2 "_law_is_met" ["_law_names", "_law_one", "_law_other"] R__law_is_met :=
  Cal.mk' (fn__law_is_met bz kf cz F0 C__law_between) g0 F0.kp b0

def m__law_are_free_l0 (p_names : List (Tup Int)) (x5 : HT (Int × (Tup Int) × (Tup Int) × Unit)) (s7 : Unit) : Option (Out Unit Bool) := ((m__law_parts p_names x5.x.2.1 x5.x.2.2.1).bind fun r14 => some (!r14)).bind fun c19 => (if c19 = true then some true else (m__law_is_met p_names x5.x.2.1 x5.x.2.2.1).bind fun r18 => some r18).bind fun c20 => if c20 = true then some (.rt false) else some (.nx ())
def m__law_are_free (p_rows_here : List (List Int)) (p_names : List (Tup Int)) : Option Bool := (m__law_clashes p_rows_here).bind fun r2 => (forO (m__law_are_free_l0 p_names) r2 ()).bind fun s21 => match s21 with | .nx s1 => some true | .rt r1 => some r1 | .bk _ => none
inductive R__law_are_free : List Slot → RSlot → List Slot → Prop
  | mk (p_rows_here : List (List Int)) (p_names : List (Tup Int))  {r : Bool} : m__law_are_free p_rows_here p_names = some r → R__law_are_free [.fz p_rows_here, .fz p_names] (.fz r) [.any, .any]
def t__law_are_free (K : Fg) : TS := tSeq (tFor (iList K (tCall (Prom K R__law_clashes) [] E0 (tCons (tVar 0) (tNil)))) (gTup K 3 (gCons (gName 2) (gCons (gName 3) (gCons (gName 4) (gNil))))) (tIfS (tOr (tNot (tB (tCall (Prom K R__law_parts) [] E0 (tCons (tVar 1) (tCons (tVar 3) (tCons (tVar 4) (tNil))))))) (tB (tCall (Prom K R__law_is_met) [] E0 (tCons (tVar 1) (tCons (tVar 3) (tCons (tVar 4) (tNil))))))) (tRet (tC (.bl false))) tNext)) (tRet (tC (.bl true)))
theorem sc__law_are_free : FnScope ["_law_rows_here", "_law_names", "_law_x", "_law_one", "_law_other"] ["_law_rows_here", "_law_names"] (defScope s__law_are_free) := ⟨rfl, rfl, rfl, by decide +kernel, rfl, by decide +kernel, by decide +kernel⟩
theorem sem__law_are_free {K : Fg} (kf : KF K) {vs : List V} {H : Hp} {Q : VK} {E : XK} (h : Prom K R__law_are_free vs H Q E) {D : Ends} (hD : ∀ u H, Q u H → D.rt u H) (hN : ∀ σ H, Q .non H → D.nx σ H) : t__law_are_free K D (start ["_law_rows_here", "_law_names", "_law_x", "_law_one", "_law_other"] vs) H := by
  obtain ⟨F, A, rs, A', hR, fh, hS, nd, q⟩ := h
  cases hR with | @mk p_rows_here p_names  r hm => ?_
  have hl := slots_len hS
  obtain ⟨va0, va1, rfl⟩ := len2 (vs := vs) (by simpa using hl.symm)
  have h : St K ⟨F, H, []⟩ F H [some va0, some va1, none, none, none] [.fz (p_rows_here : List (List Int)), .fz (p_names : List (Tup Int)), .any, .any, .any] := St.start fh hS nd [none, none, none]
  generalize hB : (⟨F, H, []⟩ : Base) = B0 at h
  have q0 := q
  have q : ∀ u F' H', Fin K B0 (.fz r) [.any, .any] u F' H' → D.rt u H' := by subst hB; exact fun u F' H' z => hD _ _ (q u F' H' z)
  have qN : ∀ σ F' H', Fin K B0 (.fz r) [.any, .any] .non F' H' → D.nx σ H' := by subst hB; exact fun σ F' H' z => hN _ _ (q0 _ F' H' z)
  clear hB q0 hD hN
  rw [show start ["_law_rows_here", "_law_names", "_law_x", "_law_one", "_law_other"] [va0, va1] = [some va0, some va1, none, none, none] from rfl]
  unfold t__law_are_free
  unfold m__law_are_free at hm
  have hrt : ∀ (r' : Bool) u H', (some r' : Option _) = some r → (fun r u H' => ∃ F', Fin K B0 (.fz r) [.any, .any] u F' H') r' u H' → D.rt u H' := fun r' u H' e z => by cases e; exact q _ _ _ z.choose_spec
  refine Q_for ?_
  refine S_iL ?_
  refine S_tcall ?_
  refine S_cons ?_
  refine S_var 0 h rfl rfl fun v1 h => ?_
  refine S_nil ?_
  obtain ⟨r2, hr2, hm⟩ := ob hm
  refine S_callO (A := [.fz (p_rows_here : List (List Int))]) h.pop (slots_cons (ok_fz (h.fz 0 rfl rfl)) slots_nil) (R__law_clashes.mk _ hr2) rfl fun p3 F H hBp3 h => ?_
  refine S_itL (h.vO 0 rfl) fun p3 e1 => ?_
  obtain rfl := V.ref.inj e1
  obtain ⟨s21, hs21, hm⟩ := ob hm
  refine S_forO (ts := [some (V.ref p3)]) (TM := [.own p3 r2]) (Mf := fun (s7 : Unit) => [.fz (p_rows_here : List (List Int)), .fz (p_names : List (Tup Int)), .any, .any, .any]) (R := (fun r u H' => ∃ F', Fin K B0 (.fz r) [.any, .any] u F' H' : Bool → V → Hp → Prop)) (yields_list p3 r2) hs21 (h.weak ⟨.inr rfl, .inr rfl, .inr rfl, .inl rfl, .inl rfl, .inl rfl, trivial⟩) (fun s7 σ F H h => (h.vO 0 rfl)) (fun i x5 s7 o' v6 σ F H D hx hb h hn hct hbk hrt => ?_) (fun s1 σ F H ho h => ?_) (fun r1 u H' ho hr => ?_)
  · have hm := hb
    unfold m__law_are_free_l0 at hm
    have h : St K B0 F H (some v6 :: some (V.ref p3) :: σ) [.fz (x5 : HT (Int × (Tup Int) × (Tup Int) × Unit)), .own p3 r2, .fz (p_rows_here : List (List Int)), .fz (p_names : List (Tup Int)), .any, .any, .any] := h
    refine ht3 h (h.fz 0 rfl rfl) fun v8 v9 v10 h => ?_
    refine S_gCons ?_
    refine S_gName ?_
    have h : St K B0 F H (some v10 :: some v9 :: some v8 :: some v6 :: some (V.ref p3) :: List.set (σ) 2 (some v8)) [.fz (x5.x.2.2.1 : Tup Int), .fz (x5.x.2.1 : Tup Int), .fz (x5.x.1 : Int), .fz (x5 : HT (Int × (Tup Int) × (Tup Int) × Unit)), .own p3 r2, .fz (p_rows_here : List (List Int)), .fz (p_names : List (Tup Int)), .fz (x5.x.1 : Int), .any, .any] := St.setF (v := v8) (x := (x5.x.1 : Int)) h 7 (h.fz 2 rfl rfl)
    refine S_gCons ?_
    refine S_gName ?_
    have h : St K B0 F H (some v10 :: some v9 :: some v8 :: some v6 :: some (V.ref p3) :: List.set (List.set (σ) 2 (some v8)) 3 (some v9)) [.fz (x5.x.2.2.1 : Tup Int), .fz (x5.x.2.1 : Tup Int), .fz (x5.x.1 : Int), .fz (x5 : HT (Int × (Tup Int) × (Tup Int) × Unit)), .own p3 r2, .fz (p_rows_here : List (List Int)), .fz (p_names : List (Tup Int)), .fz (x5.x.1 : Int), .fz (x5.x.2.1 : Tup Int), .any] := St.setF (v := v9) (x := (x5.x.2.1 : Tup Int)) h 8 (h.fz 1 rfl rfl)
    refine S_gCons ?_
    refine S_gName ?_
    have h : St K B0 F H (some v10 :: some v9 :: some v8 :: some v6 :: some (V.ref p3) :: List.set (List.set (List.set (σ) 2 (some v8)) 3 (some v9)) 4 (some v10)) [.fz (x5.x.2.2.1 : Tup Int), .fz (x5.x.2.1 : Tup Int), .fz (x5.x.1 : Int), .fz (x5 : HT (Int × (Tup Int) × (Tup Int) × Unit)), .own p3 r2, .fz (p_rows_here : List (List Int)), .fz (p_names : List (Tup Int)), .fz (x5.x.1 : Int), .fz (x5.x.2.1 : Tup Int), .fz (x5.x.2.2.1 : Tup Int)] := St.setF (v := v10) (x := (x5.x.2.2.1 : Tup Int)) h 9 (h.fz 0 rfl rfl)
    refine S_gNil ?_
    have h := h.pop.pop.pop.pop
    refine S_if ?_
    obtain ⟨c19, hc19, hm⟩ := ob hm
    obtain ⟨c20, hc20, hm⟩ := ob hm
    refine S_or (a := c19) (c := c20) h (fun Q' q' => ?_) (fun hc F H Q' h q' => ?_) (fun hc => ?_) fun F H h => ?_
    · have hm := hc19
      refine S_not ?_
      refine T_tB ?_
      refine S_tcall ?_
      refine S_cons ?_
      refine S_var 1 h rfl rfl fun v11 h => ?_
      refine S_cons ?_
      refine S_var 2 h rfl rfl fun v12 h => ?_
      refine S_cons ?_
      refine S_var 3 h rfl rfl fun v13 h => ?_
      refine S_nil ?_
      obtain ⟨r14, hr14, hm⟩ := ob hm
      refine S_callB (A := [.fz (p_names : List (Tup Int)), .fz (x5.x.2.1 : Tup Int), .fz (x5.x.2.2.1 : Tup Int)]) h.pop.pop.pop (slots_cons (ok_fz (h.fz 2 rfl rfl)) (slots_cons (ok_fz (h.fz 1 rfl rfl)) (slots_cons (ok_fz (h.fz 0 rfl rfl)) slots_nil))) (R__law_parts.mk _ _ _ hr14) rfl fun F H h => ?_
      refine T_bl ?_
      have hz := h
      cases hm
      exact q' _ _ hz
    · have hm := ifF hc hc20
      refine T_tB ?_
      refine S_tcall ?_
      refine S_cons ?_
      refine S_var 1 h rfl rfl fun v15 h => ?_
      refine S_cons ?_
      refine S_var 2 h rfl rfl fun v16 h => ?_
      refine S_cons ?_
      refine S_var 3 h rfl rfl fun v17 h => ?_
      refine S_nil ?_
      obtain ⟨r18, hr18, hm⟩ := ob hm
      refine S_callB (A := [.fz (p_names : List (Tup Int)), .fz (x5.x.2.1 : Tup Int), .fz (x5.x.2.2.1 : Tup Int)]) h.pop.pop.pop (slots_cons (ok_fz (h.fz 2 rfl rfl)) (slots_cons (ok_fz (h.fz 1 rfl rfl)) (slots_cons (ok_fz (h.fz 0 rfl rfl)) slots_nil))) (R__law_is_met.mk _ _ _ hr18) rfl fun F H h => ?_
      refine T_bl ?_
      have hz := h
      cases hm
      exact q' _ _ hz
    · exact (Option.some.inj (ifT hc hc20)).symm
    refine S_ite hm (fun hc hm => ?_) (fun hc hm => ?_)
    · skip
      refine S_ret ?_
      refine S_c ?_
      have hz := h
      cases hm
      exact hrt _ _ _ rfl ⟨_, (hz.finB aft0)⟩
    refine S_next ?_
    have hz := h
    cases hm
    exact hn _ _ _ _ rfl (hz.weak ⟨.inr rfl, .inr rfl, .inr rfl, .inl rfl, .inl rfl, .inl rfl, trivial⟩)
  rotate_left
  · subst ho
    cases hm
    exact hrt _ _ _ rfl hr
  subst ho
  have h : St K B0 F H (some (V.ref p3) :: σ) [.own p3 r2, .fz (p_rows_here : List (List Int)), .fz (p_names : List (Tup Int)), .any, .any, .any] := h
  have h := h.pop
  refine Q_nx ?_
  refine S_ret ?_
  refine S_c ?_
  have hz := h
  cases hm
  exact q _ _ _ (hz.finB aft0)
theorem fn__law_are_free {P : Program} {w : World} {K : Fg} {mg : Str → Option Value} {base : Heap} (bz : Blt mg) (kf : KF K) (cz : Cst mg) {f : Addr} {fd : FuncData} (F0 : Fun K "_law_are_free" "_law_are_free" s__law_are_free f fd) (C__law_clashes : Cal P w K mg base 1 "_law_clashes" ["_law_rows_here"] R__law_clashes) (C__law_is_met : Cal P w K mg base 2 "_law_is_met" ["_law_names", "_law_one", "_law_other"] R__law_is_met) (C__law_parts : Cal P w K mg base 1 "_law_parts" ["_law_names", "_law_one", "_law_other"] R__law_parts) : FnOk P w K mg base CX0 3 f fd ["_law_rows_here", "_law_names"] (Prom K R__law_are_free) :=
  F0.ok sc__law_are_free (prom_len 2 fun A s A' h => by cases h; rfl) fun cdv A outer s H vs Q E hr h => ⟨t__law_are_free K, pss_cons (ps_for PassesOwn.never rfl (pi_list (C__law_clashes.pe (hr.mono (by decide)) (by rfl) (pa_cons (pv 0) (pa_nil)))) (pg_tup rfl (pgs_cons (pg_name (i := 2) sc__law_are_free.nd rfl (.inl rfl)) (pgs_cons (pg_name (i := 3) sc__law_are_free.nd rfl (.inl rfl)) (pgs_cons (pg_name (i := 4) sc__law_are_free.nd rfl (.inl rfl)) (pgs_nil))))) (pss_one (ps_if (PW.pt (pw_or (pt_not (pt_val (C__law_parts.pe (hr.mono (by decide)) (by rfl) (pa_cons (pv 1) (pa_cons (pv 3) (pa_cons (pv 4) (pa_nil))))))) (pw_or1 (pt_val (C__law_is_met.pe (hr.mono (by decide)) (by rfl) (pa_cons (pv 1) (pa_cons (pv 3) (pa_cons (pv 4) (pa_nil))))))))) (pss_one (ps_ret (pe_bl))) pss_nil))) (pss_one (ps_ret (pe_bl))), sem__law_are_free kf h (fun _ _ z => z) fun _ _ z => z⟩
theorem ok__law_are_free {P : Program} {w : World} {K : Fg} {mg : Str → Option Value} {base : Heap} (bz : Blt mg) (kf : KF K) (cz : Cst mg) {f : Addr} {fd : FuncData} (F0 : Fun K "_law_are_free" "_law_are_free" s__law_are_free f fd) (g0 : mg "_law_are_free" = some (.ref f)) (b0 : Binds K fd ["_law_rows_here", "_law_names"] []) (C__law_clashes : Cal P w K mg base 1 "_law_clashes" ["_law_rows_here"] R__law_clashes) (C__law_is_met : Cal P w K mg base 2 "_law_is_met" ["_law_names", "_law_one", "_law_other"] R__law_is_met) (C__law_parts : Cal P w K mg base 1 "_law_parts" ["_law_names", "_law_one", "_law_other"] R__law_parts) : Cal P w K mg base 3 "_law_are_free" ["_law_rows_here", "_law_names"] R__law_are_free :=
  Cal.mk' (fn__law_are_free bz kf cz F0 C__law_clashes C__law_is_met C__law_parts) g0 F0.kp b0

def m__law_told_parted_c0 (p_names : List (Tup Int)) (x5 : Tup (Tup Int)) : Option Bool := (un2 (Tup.l x5)).bind fun x11 => (m_are_parted p_names x11.1 x11.2).bind fun r17 => some (decide (r17 = true))
def m__law_told_parted (p_table : C_Table) (p_names : List (Tup Int)) : Option Bool := (m_pairs p_table).bind fun r2 => (mapO (m__law_told_parted_c0 p_names) r2).bind fun ys18 => some (List.all ys18 id)
inductive R__law_told_parted : List Slot → RSlot → List Slot → Prop
  | mk (p_table : C_Table) (p_names : List (Tup Int))  {r : Bool} : m__law_told_parted p_table p_names = some r → R__law_told_parted [.fz p_table, .fz p_names] (.fz r) [.any, .any]
def t__law_told_parted (K : Fg) : TS := tRet (tCB (rAll K) (tCons (tLc (iList K (tCall (Prom K R_pairs) [] E0 (tCons (tVar 0) (tNil)))) (gTup K 2 (gCons (gName 2) (gCons (gName 3) (gNil)))) (tYes) (tOp rIsB (tCall (Prom K R_are_parted) [] E0 (tCons (tVar 1) (tCons (tVar 2) (tCons (tVar 3) (tNil))))) (tC (.bl true))) [2, 3]) (tNil)))
theorem sc__law_told_parted : FnScope ["_law_table", "_law_names", "_law_one", "_law_other"] ["_law_table", "_law_names"] (defScope s__law_told_parted) := ⟨rfl, rfl, rfl, by decide +kernel, rfl, by decide +kernel, by decide +kernel⟩
theorem sem__law_told_parted {K : Fg} (kf : KF K) {vs : List V} {H : Hp} {Q : VK} {E : XK} (h : Prom K R__law_told_parted vs H Q E) {D : Ends} (hD : ∀ u H, Q u H → D.rt u H) (hN : ∀ σ H, Q .non H → D.nx σ H) : t__law_told_parted K D (start ["_law_table", "_law_names", "_law_one", "_law_other"] vs) H := by
  obtain ⟨F, A, rs, A', hR, fh, hS, nd, q⟩ := h
  cases hR with | @mk p_table p_names  r hm => ?_
  have hl := slots_len hS
  obtain ⟨va0, va1, rfl⟩ := len2 (vs := vs) (by simpa using hl.symm)
  have h : St K ⟨F, H, []⟩ F H [some va0, some va1, none, none] [.fz (p_table : C_Table), .fz (p_names : List (Tup Int)), .any, .any] := St.start fh hS nd [none, none]
  generalize hB : (⟨F, H, []⟩ : Base) = B0 at h
  have q0 := q
  have q : ∀ u F' H', Fin K B0 (.fz r) [.any, .any] u F' H' → D.rt u H' := by subst hB; exact fun u F' H' z => hD _ _ (q u F' H' z)
  have qN : ∀ σ F' H', Fin K B0 (.fz r) [.any, .any] .non F' H' → D.nx σ H' := by subst hB; exact fun σ F' H' z => hN _ _ (q0 _ F' H' z)
  clear hB q0 hD hN
  rw [show start ["_law_table", "_law_names", "_law_one", "_law_other"] [va0, va1] = [some va0, some va1, none, none] from rfl]
  unfold t__law_told_parted
  unfold m__law_told_parted at hm
  refine S_ret ?_
  refine S_cb ?_
  refine S_cons ?_
  refine S_lc ?_
  refine S_iL ?_
  refine S_tcall ?_
  refine S_cons ?_
  refine S_var 0 h rfl rfl fun v1 h => ?_
  refine S_nil ?_
  obtain ⟨r2, hr2, hm⟩ := ob hm
  refine S_callO (A := [.fz (p_table : C_Table)]) h.pop (slots_cons (ok_fz (h.fz 0 rfl rfl)) slots_nil) (R_pairs.mk _ hr2) rfl fun p3 F H hBp3 h => ?_
  refine S_itL (h.vO 0 rfl) fun p3 e1 => ?_
  obtain rfl := V.ref.inj e1
  obtain ⟨ys18, hys18, hm⟩ := ob hm
  refine S_mapO (ts := [some (V.ref p3)]) (TM := [.own p3 r2]) (M := [.fz (p_table : C_Table), .fz (p_names : List (Tup Int)), .any, .any]) (yields_list p3 r2) hys18 h rfl ⟨rfl, rfl, trivial⟩ (view_len (h.vO 0 rfl)) (fun w F H h => (h.vO 0 rfl)) (fun x5 z v6 D7 a8 F H G N hf h hG => ?_) (fun D19 F H hBD19 h => ?_)
  · have hm := hf
    unfold m__law_told_parted_c0 at hm
    have h : St K B0 F H (some v6 :: some (V.ref D7) :: some (V.ref p3) :: wipe [some va0, some va1, none, none] [2, 3]) [.fz (x5 : Tup (Tup Int)), .own D7 a8, .own p3 r2, .fz (p_table : C_Table), .fz (p_names : List (Tup Int)), .any, .any] := h
    obtain ⟨x11, hx11, hm⟩ := ob hm
    refine S_gT2 h (h.fz 0 rfl rfl) hx11 fun v12 v13 h => ?_
    refine S_gCons ?_
    refine S_gName ?_
    have h : St K B0 F H (some v13 :: some v12 :: some v6 :: some (V.ref D7) :: some (V.ref p3) :: List.set (wipe [some va0, some va1, none, none] [2, 3]) 2 (some v12)) [.fz (x11.2 : Tup Int), .fz (x11.1 : Tup Int), .fz (x5 : Tup (Tup Int)), .own D7 a8, .own p3 r2, .fz (p_table : C_Table), .fz (p_names : List (Tup Int)), .fz (x11.1 : Tup Int), .any] := St.setF (v := v12) (x := (x11.1 : Tup Int)) h 7 (h.fz 1 rfl rfl)
    refine S_gCons ?_
    refine S_gName ?_
    have h : St K B0 F H (some v13 :: some v12 :: some v6 :: some (V.ref D7) :: some (V.ref p3) :: List.set (List.set (wipe [some va0, some va1, none, none] [2, 3]) 2 (some v12)) 3 (some v13)) [.fz (x11.2 : Tup Int), .fz (x11.1 : Tup Int), .fz (x5 : Tup (Tup Int)), .own D7 a8, .own p3 r2, .fz (p_table : C_Table), .fz (p_names : List (Tup Int)), .fz (x11.1 : Tup Int), .fz (x11.2 : Tup Int)] := St.setF (v := v13) (x := (x11.2 : Tup Int)) h 8 (h.fz 0 rfl rfl)
    refine S_gNil ?_
    have h := h.pop.pop.pop
    refine ⟨(wipe_set (by decide)).trans ((wipe_set (by decide)).trans wipe_idem), ?_⟩
    refine if1 ?_
    refine S_op ?_
    refine S_tcall ?_
    refine S_cons ?_
    refine S_var 2 h rfl rfl fun v14 h => ?_
    refine S_cons ?_
    refine S_var 3 h rfl rfl fun v15 h => ?_
    refine S_cons ?_
    refine S_var 4 h rfl rfl fun v16 h => ?_
    refine S_nil ?_
    obtain ⟨r17, hr17, hm⟩ := ob hm
    refine S_callB (A := [.fz (p_names : List (Tup Int)), .fz (x11.1 : Tup Int), .fz (x11.2 : Tup Int)]) h.pop.pop.pop (slots_cons (ok_fz (h.fz 2 rfl rfl)) (slots_cons (ok_fz (h.fz 1 rfl rfl)) (slots_cons (ok_fz (h.fz 0 rfl rfl)) slots_nil))) (R_are_parted.mk _ _ _ hr17) rfl fun F H h => ?_
    refine S_c ?_
    refine S_isB ?_
    have hz := h
    cases hm
    exact hG _ _ _ (St.unset (ts := [some (V.ref D7), some (V.ref p3)]) (TM := [.own D7 a8, .own p3 r2]) (M := [.fz (p_table : C_Table), .fz (p_names : List (Tup Int)), .any, .any]) (St.unset (ts := [some (V.ref D7), some (V.ref p3)]) (TM := [.own D7 a8, .own p3 r2]) (M := [.fz (p_table : C_Table), .fz (p_names : List (Tup Int)), .any, .any]) (hz.weak ⟨.inr rfl, .inr rfl, .inr rfl, .inr rfl, .inl rfl, .inl rfl, trivial⟩) rfl rfl) rfl rfl) rfl
  have h : St K B0 F H (some (V.ref D19) :: some (V.ref p3) :: [some va0, some va1, none, none]) [.own D19 ys18, .own p3 r2, .fz (p_table : C_Table), .fz (p_names : List (Tup Int)), .any, .any] := h
  have h := h.nip
  refine S_frz h hBD19 _ fun F h => ?_
  refine S_nil ?_
  refine S_all (h.vF 0 rfl rfl) ?_
  have h := h.pop
  have hz := h
  cases hm
  exact q _ _ _ (hz.finB aft0)
theorem fn__law_told_parted {P : Program} {w : World} {K : Fg} {mg : Str → Option Value} {base : Heap} (bz : Blt mg) (kf : KF K) (cz : Cst mg) {f : Addr} {fd : FuncData} (F0 : Fun K "_law_told_parted" "_law_told_parted" s__law_told_parted f fd) (C_are_parted : Cal P w K mg base 2 "are_parted" ["names", "one", "other"] R_are_parted) (C_pairs : Cal P w K mg base 3 "pairs" ["table"] R_pairs) : FnOk P w K mg base CX0 4 f fd ["_law_table", "_law_names"] (Prom K R__law_told_parted) :=
  F0.ok sc__law_told_parted (prom_len 2 fun A s A' h => by cases h; rfl) fun cdv A outer s H vs Q E hr h => ⟨t__law_told_parted K, pss_one (ps_ret (pe_callB (r := rAll K) (cr_all rfl) (by rfl) bz.all_ (by decide +kernel) (pa_cons (pe_lc (own := [("_law_one", 2), ("_law_other", 3)]) (g := gTup K 2 (gCons (gName 2) (gCons (gName 3) (gNil)))) (tt := tYes) (te := tOp rIsB (tCall (Prom K R_are_parted) [] E0 (tCons (tVar 1) (tCons (tVar 2) (tCons (tVar 3) (tNil))))) (tC (.bl true))) (wi := iList K (tCall (Prom K R_pairs) [] E0 (tCons (tVar 0) (tNil)))) rfl sc__law_told_parted.nd (pi_list (C_pairs.pe (hr.mono (by decide)) (by rfl) (pa_cons (pv 0) (pa_nil)))) (blkOk_by (N := ["_law_table", "_law_names", "_law_one", "_law_other"]) (sc := defScope s__law_told_parted) (by decide +kernel)) (fun _ _ _ _ _ => pg_tup rfl (pgs_cons (pg_name (i := 2) sc__law_told_parted.nd rfl (by first | exact .inl rfl | exact .inr rfl)) (pgs_cons (pg_name (i := 3) sc__law_told_parted.nd rfl (by first | exact .inl rfl | exact .inr rfl)) (pgs_nil)))) (fun _ _ _ _ _ => pts_nil) (fun _ _ _ _ _ => pe_cmpR (r := rIsB) op_isBl (C_are_parted.pe (hr.mono (by decide)) (by rfl) (pa_cons (pv 1) (pa_cons (pv 2) (pa_cons (pv 3) (pa_nil))))) (pe_bl) (by with_unfolding_all rfl))) (pa_nil)))), sem__law_told_parted kf h (fun _ _ z => z) fun _ _ z => z⟩
theorem ok__law_told_parted {P : Program} {w : World} {K : Fg} {mg : Str → Option Value} {base : Heap} (bz : Blt mg) (kf : KF K) (cz : Cst mg) {f : Addr} {fd : FuncData} (F0 : Fun K "_law_told_parted" "_law_told_parted" s__law_told_parted f fd) (g0 : mg "_law_told_parted" = some (.ref f)) (b0 : Binds K fd ["_law_table", "_law_names"] []) (C_are_parted : Cal P w K mg base 2 "are_parted" ["names", "one", "other"] R_are_parted) (C_pairs : Cal P w K mg base 3 "pairs" ["table"] R_pairs) : Cal P w K mg base 4 "_law_told_parted" ["_law_table", "_law_names"] R__law_told_parted :=
  Cal.mk' (fn__law_told_parted bz kf cz F0 C_are_parted C_pairs) g0 F0.kp b0

def m_law_c1  (x21 : List Int) : Option (List Int) :=  some x21
def m_law_l0 (p_script : Scr) (x3 : Int) (s5 : Unit) : Option (Out Unit Bool) := (m__law_pot p_script x3).bind fun r7 => (m__law_told r7).bind fun r9 => (mapO m_law_c1 r9.1.x.2.2.2.1).bind fun ys29 => (m_Table___init__ (PI.mk ()) r9.1.x.1 r9.1.x.2.1 r9.1.x.2.2.1 ys29 r9.1.x.2.2.2.2.1).bind fun r32 => (m_raceless_names r32.2).bind fun r35 => ((m__law_are_names r35 (List.length r9.1.x.2.2.2.1 : Int)).bind fun r38 => some (!r38)).bind fun c41 => (if c41 = true then some true else (m__law_are_free r9.1.x.2.2.2.1 r35).bind fun r40 => some (!r40)).bind fun c42 => if c42 = true then some (.rt false) else ((m_races r32.2 r35).bind fun r45 => (eqO r45.1 ([] : List (HT (Int × Int × Int × (Tup Int) × Unit)))).bind fun c49 => if (!c49) = true then some (true, r45.2) else (m__law_told_parted r32.2 r45.2).bind fun r51 => some ((!r51), r45.2) : Option (Bool × (List (Tup Int)))).bind fun c43 => if c43.1 = true then some (.rt false) else (popL (List.reverse c43.2)).bind fun x53 => (m_raceless_names r32.2).bind fun r56 => (reprO r56).bind fun x58 => (reprO c43.2).bind fun x60 => if (!(decide (x58 = x60))) = true then some (.rt false) else some (.nx ())
def m_law (p_script : Scr) : Option Bool := (rangeO (pyMax (1 : Int) (pyMin (8 : Int) (List.length p_script.l : Int)))).bind fun xs2 => (forO (m_law_l0 p_script) xs2 ()).bind fun s62 => match s62 with | .nx s1 => some true | .rt r1 => some r1 | .bk _ => none
inductive R_law : List Slot → RSlot → List Slot → Prop
  | mk (p_script : Scr)  {r : Bool} : m_law p_script = some r → R_law [.fz p_script] (.fz r) [.any]
def t_law (K : Fg) : TS := tSeq (tFor (iRng1 (tCons (tCB rMaxG (tCons (tC (.int 1)) (tCons (tCB rMinG (tCons (tC (.int 8)) (tCons (tCB (rLenG K) (tCons (tVar 0) (tNil))) (tNil)))) (tNil)))) (tNil))) (gName 1) (tSeq (tAsg (tCall (Prom K R__law_told) [] E0 (tCons (tCall (Prom K R__law_pot) [] E0 (tCons (tVar 0) (tCons (tVar 1) (tNil)))) (tNil))) (gTup K 5 (gCons (gName 2) (gCons (gName 3) (gCons (gName 4) (gCons (gName 5) (gCons (gName 6) (gNil)))))))) (tSeq (tAsg (tMake A_Table (Prom K R_Table___init__) [] E0 (tCons (tVar 2) (tCons (tVar 3) (tCons (tVar 4) (tCons (tLc (iList K (tVar 5)) (gName 10) (tYes) (tCB (rListG K) (tCons (tVar 10) (tNil))) [10]) (tCons (tVar 6) (tNil))))))) (gName 7)) (tSeq (tAsg (tCall (Prom K R_raceless_names) [] E0 (tCons (tVar 7) (tNil))) (gName 8)) (tSeq (tIfS (tOr (tNot (tB (tCall (Prom K R__law_are_names) [] E0 (tCons (tVar 8) (tCons (tCB (rLenG K) (tCons (tVar 5) (tNil))) (tNil)))))) (tNot (tB (tCall (Prom K R__law_are_free) [] E0 (tCons (tVar 5) (tCons (tVar 8) (tNil))))))) (tRet (tC (.bl false))) tNext) (tSeq (tIfS (tOr (tTest (tOp (rNeD K) (tCall (Prom K R_races) [] E0 (tCons (tVar 7) (tCons (tVar 8) (tNil)))) (tLst (tNil)))) (tNot (tB (tCall (Prom K R__law_told_parted) [] E0 (tCons (tVar 7) (tCons (tVar 8) (tNil))))))) (tRet (tC (.bl false))) tNext) (tSeq (tAsg (tCB (rListG K) (tCons (tVar 8) (tNil))) (gName 9)) (tSeq (tDrop (tBM0 K "list" rReverse (tVar 8))) (tSeq (tDrop (tBM0 K "list" rPop (tVar 8))) (tIfS (tTest (tOp rNe (tCB (rRepr K) (tCons (tCall (Prom K R_raceless_names) [] E0 (tCons (tVar 7) (tNil))) (tNil))) (tCB (rRepr K) (tCons (tVar 9) (tNil))))) (tRet (tC (.bl false))) tNext)))))))))) (tRet (tC (.bl true)))
theorem sc_law : FnScope ["_law_script", "_law_k", "_law_keys", "_law_states", "_law_lamps", "_law_rows_here", "_law_lights", "_law_table", "_law_found", "_law_kept", "_law_row"] ["_law_script"] (defScope s_law) := ⟨rfl, rfl, rfl, by decide +kernel, rfl, by decide +kernel, by decide +kernel⟩
theorem sem_law {K : Fg} (kf : KF K) {vs : List V} {H : Hp} {Q : VK} {E : XK} (h : Prom K R_law vs H Q E) {D : Ends} (hD : ∀ u H, Q u H → D.rt u H) (hN : ∀ σ H, Q .non H → D.nx σ H) : t_law K D (start ["_law_script", "_law_k", "_law_keys", "_law_states", "_law_lamps", "_law_rows_here", "_law_lights", "_law_table", "_law_found", "_law_kept", "_law_row"] vs) H := by
  obtain ⟨F, A, rs, A', hR, fh, hS, nd, q⟩ := h
  cases hR with | @mk p_script  r hm => ?_
  have hl := slots_len hS
  obtain ⟨va0, rfl⟩ := len1 (vs := vs) (by simpa using hl.symm)
  have h : St K ⟨F, H, []⟩ F H [some va0, none, none, none, none, none, none, none, none, none, none] [.fz (p_script : Scr), .any, .any, .any, .any, .any, .any, .any, .any, .any, .any] := St.start fh hS nd [none, none, none, none, none, none, none, none, none, none]
  generalize hB : (⟨F, H, []⟩ : Base) = B0 at h
  have q0 := q
  have q : ∀ u F' H', Fin K B0 (.fz r) [.any] u F' H' → D.rt u H' := by subst hB; exact fun u F' H' z => hD _ _ (q u F' H' z)
  have qN : ∀ σ F' H', Fin K B0 (.fz r) [.any] .non F' H' → D.nx σ H' := by subst hB; exact fun σ F' H' z => hN _ _ (q0 _ F' H' z)
  clear hB q0 hD hN
  rw [show start ["_law_script", "_law_k", "_law_keys", "_law_states", "_law_lamps", "_law_rows_here", "_law_lights", "_law_table", "_law_found", "_law_kept", "_law_row"] [va0] = [some va0, none, none, none, none, none, none, none, none, none, none] from rfl]
  unfold t_law
  unfold m_law at hm
  have hrt : ∀ (r' : Bool) u H', (some r' : Option _) = some r → (fun r u H' => ∃ F', Fin K B0 (.fz r) [.any] u F' H') r' u H' → D.rt u H' := fun r' u H' e z => by cases e; exact q _ _ _ z.choose_spec
  refine Q_for ?_
  refine S_iR1 ?_
  refine S_cons ?_
  refine S_cb ?_
  refine S_cons ?_
  refine S_c ?_
  refine S_cons ?_
  refine S_cb ?_
  refine S_cons ?_
  refine S_c ?_
  refine S_cons ?_
  refine S_cb ?_
  refine S_cons ?_
  refine S_var 0 h rfl rfl fun v1 h => ?_
  refine S_nil ?_
  refine S_lenScr h (h.fz 0 rfl rfl) ?_
  have h := h.pop
  refine S_nil ?_
  refine S_min ?_
  refine S_nil ?_
  refine S_max ?_
  refine S_nil ?_
  obtain ⟨xs2, hxs2, hm⟩ := ob hm
  refine S_rng1 (K := K) hxs2 fun J Y => ?_
  obtain ⟨s62, hs62, hm⟩ := ob hm
  refine S_forO (ts := []) (TM := []) (Mf := fun (s5 : Unit) => [.fz (p_script : Scr), .any, .any, .any, .any, .any, .any, .any, .any, .any, .any]) (R := (fun r u H' => ∃ F', Fin K B0 (.fz r) [.any] u F' H' : Bool → V → Hp → Prop)) Y hs62 (h.weak ⟨.inr rfl, .inl rfl, .inl rfl, .inl rfl, .inl rfl, .inl rfl, .inl rfl, .inl rfl, .inl rfl, .inl rfl, .inl rfl, trivial⟩) (fun s5 σ F H h => trivial) (fun i x3 s5 o' v4 σ F H D hx hb h hn hct hbk hrt => ?_) (fun s1 σ F H ho h => ?_) (fun r1 u H' ho hr => ?_)
  · have hm := hb
    unfold m_law_l0 at hm
    have h : St K B0 F H (some v4 :: σ) [.fz (x3 : Int), .fz (p_script : Scr), .any, .any, .any, .any, .any, .any, .any, .any, .any, .any] := h
    refine S_gName ?_
    have h : St K B0 F H (List.set (σ) 1 (some v4)) [.fz (p_script : Scr), .fz (x3 : Int), .any, .any, .any, .any, .any, .any, .any, .any, .any] := St.setF (v := v4) (x := (x3 : Int)) h.pop 1 (h.fz 0 rfl rfl)
    refine Q_asg ?_
    refine S_tcall ?_
    refine S_cons ?_
    refine S_tcall ?_
    refine S_cons ?_
    refine S_var 0 h rfl rfl fun v6 h => ?_
    refine S_cons ?_
    refine S_varI 1 h rfl rfl ?_
    refine S_nil ?_
    obtain ⟨r7, hr7, hm⟩ := ob hm
    refine S_callO (A := [.fz (p_script : Scr), .fz (x3 : Int)]) h.pop (slots_cons (ok_fz (h.fz 0 rfl rfl)) (slots_cons (ok_fz rfl) slots_nil)) (R__law_pot.mk _ _ hr7) rfl fun p8 F H hBp8 h => ?_
    refine S_nil ?_
    obtain ⟨r9, hr9, hm⟩ := ob hm
    refine S_call1 (A := [.own p8 r7]) 0 h (by rfl) (slots_cons (SlotOk.ofOwn h 0 rfl) slots_nil) (R__law_told.mk _ hr9) rfl (fun F' H' L z => z) fun u10 F H h r => ?_
    have h : St K B0 F H (some (V.ref p8) :: List.set (σ) 1 (some v4)) [.own p8 r9.2, .fz (p_script : Scr), .fz (x3 : Int), .any, .any, .any, .any, .any, .any, .any, .any, .any] := h
    have h := h.push r
    have h := h.nip
    refine ht5 h (h.fz 0 rfl rfl) fun v11 v12 v13 v14 v15 h => ?_
    refine S_gCons ?_
    refine S_gName ?_
    have h : St K B0 F H (some v15 :: some v14 :: some v13 :: some v12 :: some v11 :: some u10 :: List.set (List.set (σ) 1 (some v4)) 2 (some v11)) [.fz (r9.1.x.2.2.2.2.1 : List (Tup Int)), .fz (r9.1.x.2.2.2.1 : List (List Int)), .fz (r9.1.x.2.2.1 : List Str), .fz (r9.1.x.2.1 : List Str), .fz (r9.1.x.1 : List Str), .fz (r9.1 : HT ((List Str) × (List Str) × (List Str) × (List (List Int)) × (List (Tup Int)) × Unit)), .fz (p_script : Scr), .fz (x3 : Int), .fz (r9.1.x.1 : List Str), .any, .any, .any, .any, .any, .any, .any, .any] := St.setF (v := v11) (x := (r9.1.x.1 : List Str)) h 8 (h.fz 4 rfl rfl)
    refine S_gCons ?_
    refine S_gName ?_
    have h : St K B0 F H (some v15 :: some v14 :: some v13 :: some v12 :: some v11 :: some u10 :: List.set (List.set (List.set (σ) 1 (some v4)) 2 (some v11)) 3 (some v12)) [.fz (r9.1.x.2.2.2.2.1 : List (Tup Int)), .fz (r9.1.x.2.2.2.1 : List (List Int)), .fz (r9.1.x.2.2.1 : List Str), .fz (r9.1.x.2.1 : List Str), .fz (r9.1.x.1 : List Str), .fz (r9.1 : HT ((List Str) × (List Str) × (List Str) × (List (List Int)) × (List (Tup Int)) × Unit)), .fz (p_script : Scr), .fz (x3 : Int), .fz (r9.1.x.1 : List Str), .fz (r9.1.x.2.1 : List Str), .any, .any, .any, .any, .any, .any, .any] := St.setF (v := v12) (x := (r9.1.x.2.1 : List Str)) h 9 (h.fz 3 rfl rfl)
    refine S_gCons ?_
    refine S_gName ?_
    have h : St K B0 F H (some v15 :: some v14 :: some v13 :: some v12 :: some v11 :: some u10 :: List.set (List.set (List.set (List.set (σ) 1 (some v4)) 2 (some v11)) 3 (some v12)) 4 (some v13)) [.fz (r9.1.x.2.2.2.2.1 : List (Tup Int)), .fz (r9.1.x.2.2.2.1 : List (List Int)), .fz (r9.1.x.2.2.1 : List Str), .fz (r9.1.x.2.1 : List Str), .fz (r9.1.x.1 : List Str), .fz (r9.1 : HT ((List Str) × (List Str) × (List Str) × (List (List Int)) × (List (Tup Int)) × Unit)), .fz (p_script : Scr), .fz (x3 : Int), .fz (r9.1.x.1 : List Str), .fz (r9.1.x.2.1 : List Str), .fz (r9.1.x.2.2.1 : List Str), .any, .any, .any, .any, .any, .any] := St.setF (v := v13) (x := (r9.1.x.2.2.1 : List Str)) h 10 (h.fz 2 rfl rfl)
    refine S_gCons ?_
    refine S_gName ?_
    have h : St K B0 F H (some v15 :: some v14 :: some v13 :: some v12 :: some v11 :: some u10 :: List.set (List.set (List.set (List.set (List.set (σ) 1 (some v4)) 2 (some v11)) 3 (some v12)) 4 (some v13)) 5 (some v14)) [.fz (r9.1.x.2.2.2.2.1 : List (Tup Int)), .fz (r9.1.x.2.2.2.1 : List (List Int)), .fz (r9.1.x.2.2.1 : List Str), .fz (r9.1.x.2.1 : List Str), .fz (r9.1.x.1 : List Str), .fz (r9.1 : HT ((List Str) × (List Str) × (List Str) × (List (List Int)) × (List (Tup Int)) × Unit)), .fz (p_script : Scr), .fz (x3 : Int), .fz (r9.1.x.1 : List Str), .fz (r9.1.x.2.1 : List Str), .fz (r9.1.x.2.2.1 : List Str), .fz (r9.1.x.2.2.2.1 : List (List Int)), .any, .any, .any, .any, .any] := St.setF (v := v14) (x := (r9.1.x.2.2.2.1 : List (List Int))) h 11 (h.fz 1 rfl rfl)
    refine S_gCons ?_
    refine S_gName ?_
    have h : St K B0 F H (some v15 :: some v14 :: some v13 :: some v12 :: some v11 :: some u10 :: List.set (List.set (List.set (List.set (List.set (List.set (σ) 1 (some v4)) 2 (some v11)) 3 (some v12)) 4 (some v13)) 5 (some v14)) 6 (some v15)) [.fz (r9.1.x.2.2.2.2.1 : List (Tup Int)), .fz (r9.1.x.2.2.2.1 : List (List Int)), .fz (r9.1.x.2.2.1 : List Str), .fz (r9.1.x.2.1 : List Str), .fz (r9.1.x.1 : List Str), .fz (r9.1 : HT ((List Str) × (List Str) × (List Str) × (List (List Int)) × (List (Tup Int)) × Unit)), .fz (p_script : Scr), .fz (x3 : Int), .fz (r9.1.x.1 : List Str), .fz (r9.1.x.2.1 : List Str), .fz (r9.1.x.2.2.1 : List Str), .fz (r9.1.x.2.2.2.1 : List (List Int)), .fz (r9.1.x.2.2.2.2.1 : List (Tup Int)), .any, .any, .any, .any] := St.setF (v := v15) (x := (r9.1.x.2.2.2.2.1 : List (Tup Int))) h 12 (h.fz 0 rfl rfl)
    refine S_gNil ?_
    have h := h.pop.pop.pop.pop.pop.pop
    refine Q_asg ?_
    refine S_tmk ?_
    refine S_cons ?_
    refine S_var 0 h rfl rfl fun v16 h => ?_
    refine S_cons ?_
    refine S_var 1 h rfl rfl fun v17 h => ?_
    refine S_cons ?_
    refine S_var 2 h rfl rfl fun v18 h => ?_
    refine S_cons ?_
    refine S_lc ?_
    refine S_iL ?_
    refine S_var 3 h rfl rfl fun v19 h => ?_
    refine S_itL (h.vF 0 rfl rfl) fun a20 e1 => ?_
    subst e1
    obtain ⟨ys29, hys29, hm⟩ := ob hm
    refine S_mapO (ts := [some (V.ref a20), some v18, some v17, some v16]) (TM := [.fz (r9.1.x.2.2.2.1 : List (List Int)), .fz (r9.1.x.2.2.1 : List Str), .fz (r9.1.x.2.1 : List Str), .fz (r9.1.x.1 : List Str)]) (M := [.fz (p_script : Scr), .fz (x3 : Int), .fz (r9.1.x.1 : List Str), .fz (r9.1.x.2.1 : List Str), .fz (r9.1.x.2.2.1 : List Str), .fz (r9.1.x.2.2.2.1 : List (List Int)), .fz (r9.1.x.2.2.2.2.1 : List (Tup Int)), .any, .any, .any, .any]) (yields_list a20 r9.1.x.2.2.2.1) hys29 h rfl ⟨rfl, trivial⟩ (view_len (h.vF 0 rfl rfl)) (fun w F H h => (h.vF 0 rfl rfl)) (fun x21 z v22 D23 a24 F H G N hf h hG => ?_) (fun D30 F H hBD30 h => ?_)
    · have hm := hf
      unfold m_law_c1 at hm
      have h : St K B0 F H (some v22 :: some (V.ref D23) :: some (V.ref a20) :: some v18 :: some v17 :: some v16 :: wipe (List.set (List.set (List.set (List.set (List.set (List.set (σ) 1 (some v4)) 2 (some v11)) 3 (some v12)) 4 (some v13)) 5 (some v14)) 6 (some v15)) [10]) [.fz (x21 : List Int), .own D23 a24, .fz (r9.1.x.2.2.2.1 : List (List Int)), .fz (r9.1.x.2.2.1 : List Str), .fz (r9.1.x.2.1 : List Str), .fz (r9.1.x.1 : List Str), .fz (p_script : Scr), .fz (x3 : Int), .fz (r9.1.x.1 : List Str), .fz (r9.1.x.2.1 : List Str), .fz (r9.1.x.2.2.1 : List Str), .fz (r9.1.x.2.2.2.1 : List (List Int)), .fz (r9.1.x.2.2.2.2.1 : List (Tup Int)), .any, .any, .any, .any] := h
      refine S_gName ?_
      have h : St K B0 F H (some (V.ref D23) :: some (V.ref a20) :: some v18 :: some v17 :: some v16 :: List.set (wipe (List.set (List.set (List.set (List.set (List.set (List.set (σ) 1 (some v4)) 2 (some v11)) 3 (some v12)) 4 (some v13)) 5 (some v14)) 6 (some v15)) [10]) 10 (some v22)) [.own D23 a24, .fz (r9.1.x.2.2.2.1 : List (List Int)), .fz (r9.1.x.2.2.1 : List Str), .fz (r9.1.x.2.1 : List Str), .fz (r9.1.x.1 : List Str), .fz (p_script : Scr), .fz (x3 : Int), .fz (r9.1.x.1 : List Str), .fz (r9.1.x.2.1 : List Str), .fz (r9.1.x.2.2.1 : List Str), .fz (r9.1.x.2.2.2.1 : List (List Int)), .fz (r9.1.x.2.2.2.2.1 : List (Tup Int)), .any, .any, .any, .fz (x21 : List Int)] := St.setF (v := v22) (x := (x21 : List Int)) h.pop 15 (h.fz 0 rfl rfl)
      refine ⟨(wipe_set (by decide)).trans wipe_idem, ?_⟩
      refine if1 ?_
      refine S_cb ?_
      refine S_cons ?_
      refine S_var 5 h rfl rfl fun v27 h => ?_
      refine S_nil ?_
      refine S_listL h.pop (h.vF 0 rfl rfl) fun p28 F H hBp28 h => ?_
      refine S_frz h hBp28 _ fun F h => ?_
      have hz := h
      cases hm
      exact hG _ _ _ (St.unset (ts := [some (V.ref D23), some (V.ref a20), some v18, some v17, some v16]) (TM := [.own D23 a24, .fz (r9.1.x.2.2.2.1 : List (List Int)), .fz (r9.1.x.2.2.1 : List Str), .fz (r9.1.x.2.1 : List Str), .fz (r9.1.x.1 : List Str)]) (M := [.fz (p_script : Scr), .fz (x3 : Int), .fz (r9.1.x.1 : List Str), .fz (r9.1.x.2.1 : List Str), .fz (r9.1.x.2.2.1 : List Str), .fz (r9.1.x.2.2.2.1 : List (List Int)), .fz (r9.1.x.2.2.2.2.1 : List (Tup Int)), .any, .any, .any, .any]) (hz.pop.weak ⟨.inr rfl, .inr rfl, .inr rfl, .inr rfl, .inr rfl, .inr rfl, .inr rfl, .inr rfl, .inr rfl, .inr rfl, .inr rfl, .inr rfl, .inr rfl, .inr rfl, .inr rfl, .inl rfl, trivial⟩) rfl rfl) (hz.fz 0 rfl rfl)
    have h : St K B0 F H (some (V.ref D30) :: some (V.ref a20) :: some v18 :: some v17 :: some v16 :: List.set (List.set (List.set (List.set (List.set (List.set (σ) 1 (some v4)) 2 (some v11)) 3 (some v12)) 4 (some v13)) 5 (some v14)) 6 (some v15)) [.own D30 ys29, .fz (r9.1.x.2.2.2.1 : List (List Int)), .fz (r9.1.x.2.2.1 : List Str), .fz (r9.1.x.2.1 : List Str), .fz (r9.1.x.1 : List Str), .fz (p_script : Scr), .fz (x3 : Int), .fz (r9.1.x.1 : List Str), .fz (r9.1.x.2.1 : List Str), .fz (r9.1.x.2.2.1 : List Str), .fz (r9.1.x.2.2.2.1 : List (List Int)), .fz (r9.1.x.2.2.2.2.1 : List (Tup Int)), .any, .any, .any, .any] := h
    have h := h.nip
    refine S_frz h hBD30 _ fun F h => ?_
    refine S_cons ?_
    refine S_var 4 h rfl rfl fun v31 h => ?_
    refine S_nil ?_
    obtain ⟨r32, hr32, hm⟩ := ob hm
    refine S_mkE (A := [.fz (r9.1.x.1 : List Str), .fz (r9.1.x.2.1 : List Str), .fz (r9.1.x.2.2.1 : List Str), .fz (ys29 : List (List Int)), .fz (r9.1.x.2.2.2.2.1 : List (Tup Int))]) h.pop.pop.pop.pop.pop (slots_cons (ok_fz (h.fz 4 rfl rfl)) (slots_cons (ok_fz (h.fz 3 rfl rfl)) (slots_cons (ok_fz (h.fz 2 rfl rfl)) (slots_cons (ok_fz (h.fz 1 rfl rfl)) (slots_cons (ok_fz (h.fz 0 rfl rfl)) slots_nil))))) (fun _ => R_Table___init__.mk _ _ _ _ _ _ hr32) rfl (fun _ _ _ z => z) fun p33 F H h => ?_
    refine S_gName ?_
    have h : St K B0 F H (List.set (List.set (List.set (List.set (List.set (List.set (List.set (σ) 1 (some v4)) 2 (some v11)) 3 (some v12)) 4 (some v13)) 5 (some v14)) 6 (some v15)) 7 (some (V.ref p33))) [.fz (p_script : Scr), .fz (x3 : Int), .fz (r9.1.x.1 : List Str), .fz (r9.1.x.2.1 : List Str), .fz (r9.1.x.2.2.1 : List Str), .fz (r9.1.x.2.2.2.1 : List (List Int)), .fz (r9.1.x.2.2.2.2.1 : List (Tup Int)), .fz (r32.2 : C_Table), .any, .any, .any] := St.setF (v := (V.ref p33)) (x := (r32.2 : C_Table)) h.pop 7 (h.fz 0 rfl rfl)
    refine Q_asg ?_
    refine S_tcall ?_
    refine S_cons ?_
    refine S_var 0 h rfl rfl fun v34 h => ?_
    refine S_nil ?_
    obtain ⟨r35, hr35, hm⟩ := ob hm
    refine S_callO (A := [.fz (r32.2 : C_Table)]) h.pop (slots_cons (ok_fz (h.fz 0 rfl rfl)) slots_nil) (R_raceless_names.mk _ hr35) rfl fun p36 F H hBp36 h => ?_
    refine S_gName ?_
    have h : St K B0 F H (List.set (List.set (List.set (List.set (List.set (List.set (List.set (List.set (σ) 1 (some v4)) 2 (some v11)) 3 (some v12)) 4 (some v13)) 5 (some v14)) 6 (some v15)) 7 (some (V.ref p33))) 8 (some (V.ref p36))) [.fz (p_script : Scr), .fz (x3 : Int), .fz (r9.1.x.1 : List Str), .fz (r9.1.x.2.1 : List Str), .fz (r9.1.x.2.2.1 : List Str), .fz (r9.1.x.2.2.2.1 : List (List Int)), .fz (r9.1.x.2.2.2.2.1 : List (Tup Int)), .fz (r32.2 : C_Table), .own p36 r35, .any, .any] := St.setOwn 8 h
    refine Q_if ?_
    obtain ⟨c41, hc41, hm⟩ := ob hm
    obtain ⟨c42, hc42, hm⟩ := ob hm
    refine S_or (a := c41) (c := c42) h (fun Q' q' => ?_) (fun hc F H Q' h q' => ?_) (fun hc => ?_) fun F H h => ?_
    · have hm := hc41
      refine S_not ?_
      refine T_tB ?_
      refine S_tcall ?_
      refine S_cons ?_
      refine S_varO 0 h rfl rfl ?_
      refine S_cons ?_
      refine S_cb ?_
      refine S_cons ?_
      refine S_var 0 h rfl rfl fun v37 h => ?_
      refine S_nil ?_
      refine S_lenL (h.vF 0 rfl rfl) ?_
      have h := h.pop
      refine S_nil ?_
      obtain ⟨r38, hr38, hm⟩ := ob hm
      refine S_callVB (A := [.fz (r35 : List (Tup Int)), .fz ((List.length r9.1.x.2.2.2.1 : Int) : Int)]) h (slots_cons (ok_vwH h (h.vO 8 rfl)) (slots_cons (ok_fzH h rfl) slots_nil)) (R__law_are_names.mk _ _ hr38) rfl fun F H h => ?_
      refine T_bl ?_
      have hz := h
      cases hm
      exact q' _ _ hz
    · have hm := ifF hc hc42
      refine S_not ?_
      refine T_tB ?_
      refine S_tcall ?_
      refine S_cons ?_
      refine S_var 0 h rfl rfl fun v39 h => ?_
      refine S_cons ?_
      refine S_varO 1 h rfl rfl ?_
      refine S_nil ?_
      obtain ⟨r40, hr40, hm⟩ := ob hm
      refine S_callVB (A := [.fz (r9.1.x.2.2.2.1 : List (List Int)), .fz (r35 : List (Tup Int))]) h.pop (slots_cons (ok_fzH h (h.fz 0 rfl rfl)) (slots_cons (ok_vwH h (h.vO 9 rfl)) slots_nil)) (R__law_are_free.mk _ _ hr40) rfl fun F H h => ?_
      refine T_bl ?_
      have hz := h
      cases hm
      exact q' _ _ hz
    · exact (Option.some.inj (ifT hc hc42)).symm
    refine S_ite hm (fun hc hm => ?_) (fun hc hm => ?_)
    · skip
      refine S_ret ?_
      refine S_c ?_
      have hz := h
      cases hm
      exact hrt _ _ _ rfl ⟨_, (hz.finB aft0)⟩
    refine Q_next ?_
    refine Q_if ?_
    obtain ⟨c43, hc43, hm⟩ := ob hm
    refine S_boT (T := fun k H => k = c43.1 ∧ ∃ F, St K B0 F H (List.set (List.set (List.set (List.set (List.set (List.set (List.set (List.set (σ) 1 (some v4)) 2 (some v11)) 3 (some v12)) 4 (some v13)) 5 (some v14)) 6 (some v15)) 7 (some (V.ref p33))) 8 (some (V.ref p36))) [.fz (p_script : Scr), .fz (x3 : Int), .fz (r9.1.x.1 : List Str), .fz (r9.1.x.2.1 : List Str), .fz (r9.1.x.2.2.1 : List Str), .fz (r9.1.x.2.2.2.1 : List (List Int)), .fz (r9.1.x.2.2.2.2.1 : List (Tup Int)), .fz (r32.2 : C_Table), .own p36 c43.2, .any, .any]) (fun Q' q' => ?_) (fun k H ⟨ek, F, h⟩ => ?_)
    · have hm := hc43
      refine S_or0 ?_
      refine T_test ?_
      refine S_op ?_
      refine S_tcall ?_
      refine S_cons ?_
      refine S_var 0 h rfl rfl fun v44 h => ?_
      refine S_cons ?_
      refine S_varO 1 h rfl rfl ?_
      refine S_nil ?_
      obtain ⟨r45, hr45, hm⟩ := ob hm
      refine S_call1 (A := [.fz (r32.2 : C_Table), .own p36 r35]) 8 h.pop (by rfl) (slots_cons (ok_fz (h.fz 0 rfl rfl)) (slots_cons (SlotOk.ofOwn h 9 rfl) slots_nil)) (R_races.mk _ _ hr45) rfl (fun F' H' L z => z) fun u46 F H h r => ?_
      obtain ⟨p47, rfl, hBp47, h⟩ := r
      replace hBp47 : B0.H p47 = none := hBp47 p47 (List.mem_singleton.mpr rfl)
      have h : St K B0 F H (some (V.ref p47) :: List.set (List.set (List.set (List.set (List.set (List.set (List.set (List.set (σ) 1 (some v4)) 2 (some v11)) 3 (some v12)) 4 (some v13)) 5 (some v14)) 6 (some v15)) 7 (some (V.ref p33))) 8 (some (V.ref p36))) [.own p47 r45.1, .fz (p_script : Scr), .fz (x3 : Int), .fz (r9.1.x.1 : List Str), .fz (r9.1.x.2.1 : List Str), .fz (r9.1.x.2.2.1 : List Str), .fz (r9.1.x.2.2.2.1 : List (List Int)), .fz (r9.1.x.2.2.2.2.1 : List (Tup Int)), .fz (r32.2 : C_Table), .own p36 r45.2, .any, .any] := h
      refine S_tL ?_
      refine S_nil ?_
      refine S_lstO (xs := ([] : List (HT (Int × Int × Int × (Tup Int) × Unit)))) h (.nil) (Nat.le_of_ble_eq_true rfl) fun p48 F H hBp48 h => ?_
      obtain ⟨c49, hc49, hm⟩ := ob hm
      refine S_neD (dL h (h.vO 1 rfl)) (dL h (h.vO 0 rfl)) hc49 (by decide) ?_
      have h := h.pop.pop
      refine T_bl ?_
      refine S_ite hm (fun hc hm => ?_) (fun hc hm => ?_)
      · skip
        have hz := h
        cases hm
        exact q' _ _ ⟨rfl, _, hz⟩
      · skip
        refine S_not ?_
        refine T_tB ?_
        refine S_tcall ?_
        refine S_cons ?_
        refine S_var 0 h rfl rfl fun v50 h => ?_
        refine S_cons ?_
        refine S_varO 1 h rfl rfl ?_
        refine S_nil ?_
        obtain ⟨r51, hr51, hm⟩ := ob hm
        refine S_callVB (A := [.fz (r32.2 : C_Table), .fz (r45.2 : List (Tup Int))]) h.pop (slots_cons (ok_fzH h (h.fz 0 rfl rfl)) (slots_cons (ok_vwH h (h.vO 9 rfl)) slots_nil)) (R__law_told_parted.mk _ _ hr51) rfl fun F H h => ?_
        refine T_bl ?_
        have hz := h
        cases hm
        exact q' _ _ ⟨rfl, _, hz⟩
    subst ek
    refine S_ite hm (fun hc hm => ?_) (fun hc hm => ?_)
    · skip
      refine S_ret ?_
      refine S_c ?_
      have hz := h
      cases hm
      exact hrt _ _ _ rfl ⟨_, (hz.finB aft0)⟩
    refine Q_next ?_
    refine Q_asg ?_
    refine S_cb ?_
    refine S_cons ?_
    refine S_varO 0 h rfl rfl ?_
    refine S_nil ?_
    refine S_listL h (h.vO 8 rfl) fun p52 F H hBp52 h => ?_
    refine S_gName ?_
    refine S_frz h hBp52 _ fun F h => ?_
    have h : St K B0 F H (List.set (List.set (List.set (List.set (List.set (List.set (List.set (List.set (List.set (σ) 1 (some v4)) 2 (some v11)) 3 (some v12)) 4 (some v13)) 5 (some v14)) 6 (some v15)) 7 (some (V.ref p33))) 8 (some (V.ref p36))) 9 (some (V.ref p52))) [.fz (p_script : Scr), .fz (x3 : Int), .fz (r9.1.x.1 : List Str), .fz (r9.1.x.2.1 : List Str), .fz (r9.1.x.2.2.1 : List Str), .fz (r9.1.x.2.2.2.1 : List (List Int)), .fz (r9.1.x.2.2.2.2.1 : List (Tup Int)), .fz (r32.2 : C_Table), .own p36 c43.2, .fz (c43.2 : List (Tup Int)), .any] := St.setF (v := (V.ref p52)) (x := (c43.2 : List (Tup Int))) h.pop 9 (h.fz 0 rfl rfl)
    refine Q_drop ?_
    refine S_bm0 ?_
    refine S_varO 0 h rfl rfl ?_
    refine S_tyL (α := (Tup Int)) (h.vO 8 rfl) ?_
    refine S_reverse (α := (Tup Int)) 8 h (by rfl) fun H h => ?_
    have h : St K B0 F H (List.set (List.set (List.set (List.set (List.set (List.set (List.set (List.set (List.set (σ) 1 (some v4)) 2 (some v11)) 3 (some v12)) 4 (some v13)) 5 (some v14)) 6 (some v15)) 7 (some (V.ref p33))) 8 (some (V.ref p36))) 9 (some (V.ref p52))) [.fz (p_script : Scr), .fz (x3 : Int), .fz (r9.1.x.1 : List Str), .fz (r9.1.x.2.1 : List Str), .fz (r9.1.x.2.2.1 : List Str), .fz (r9.1.x.2.2.2.1 : List (List Int)), .fz (r9.1.x.2.2.2.2.1 : List (Tup Int)), .fz (r32.2 : C_Table), .own p36 (List.reverse c43.2), .fz (c43.2 : List (Tup Int)), .any] := h
    refine Q_drop ?_
    refine S_bm0 ?_
    refine S_varO 0 h rfl rfl ?_
    refine S_tyL (α := (Tup Int)) (h.vO 8 rfl) ?_
    obtain ⟨x53, hx53, hm⟩ := ob hm
    refine S_pop 8 h (by rfl) hx53 fun u54 H h => ?_
    have h : St K B0 F H (some u54 :: List.set (List.set (List.set (List.set (List.set (List.set (List.set (List.set (List.set (σ) 1 (some v4)) 2 (some v11)) 3 (some v12)) 4 (some v13)) 5 (some v14)) 6 (some v15)) 7 (some (V.ref p33))) 8 (some (V.ref p36))) 9 (some (V.ref p52))) [.fz (x53.1 : Tup Int), .fz (p_script : Scr), .fz (x3 : Int), .fz (r9.1.x.1 : List Str), .fz (r9.1.x.2.1 : List Str), .fz (r9.1.x.2.2.1 : List Str), .fz (r9.1.x.2.2.2.1 : List (List Int)), .fz (r9.1.x.2.2.2.2.1 : List (Tup Int)), .fz (r32.2 : C_Table), .own p36 x53.2, .fz (c43.2 : List (Tup Int)), .any] := h
    have h := h.pop
    refine S_if ?_
    refine T_test ?_
    refine S_op ?_
    refine S_cb ?_
    refine S_cons ?_
    refine S_tcall ?_
    refine S_cons ?_
    refine S_var 0 h rfl rfl fun v55 h => ?_
    refine S_nil ?_
    obtain ⟨r56, hr56, hm⟩ := ob hm
    refine S_callO (A := [.fz (r32.2 : C_Table)]) h.pop (slots_cons (ok_fz (h.fz 0 rfl rfl)) slots_nil) (R_raceless_names.mk _ hr56) rfl fun p57 F H hBp57 h => ?_
    refine S_nil ?_
    obtain ⟨x58, hx58, hm⟩ := ob hm
    refine S_repr (dL h (h.vO 0 rfl)) hx58 (by decide) ?_
    have h := h.pop
    refine S_cb ?_
    refine S_cons ?_
    refine S_var 0 h rfl rfl fun v59 h => ?_
    refine S_nil ?_
    obtain ⟨x60, hx60, hm⟩ := ob hm
    obtain ⟨a61, hva61⟩ := isref_L (h.fz 0 rfl rfl)
    subst hva61
    refine S_repr (dF h (h.fz 0 rfl rfl)) hx60 (by decide) ?_
    have h := h.pop
    refine S_neS ?_
    refine T_bl ?_
    refine S_ite hm (fun hc hm => ?_) (fun hc hm => ?_)
    · skip
      refine S_ret ?_
      refine S_c ?_
      have hz := h
      cases hm
      exact hrt _ _ _ rfl ⟨_, (hz.finB aft0)⟩
    refine S_next ?_
    have hz := h
    cases hm
    exact hn _ _ _ _ rfl (hz.weak ⟨.inr rfl, .inl rfl, .inl rfl, .inl rfl, .inl rfl, .inl rfl, .inl rfl, .inl rfl, .inl rfl, .inl rfl, .inl rfl, trivial⟩)
  rotate_left
  · subst ho
    cases hm
    exact hrt _ _ _ rfl hr
  subst ho
  have h : St K B0 F H (σ) [.fz (p_script : Scr), .any, .any, .any, .any, .any, .any, .any, .any, .any, .any] := h
  refine Q_nx ?_
  refine S_ret ?_
  refine S_c ?_
  have hz := h
  cases hm
  exact q _ _ _ (hz.finB aft0)
theorem fn_law {P : Program} {w : World} {K : Fg} {mg : Str → Option Value} {base : Heap} (bz : Blt mg) (kf : KF K) (cz : Cst mg) {f : Addr} {fd : FuncData} (F0 : Fun K "law" "law" s_law f fd) (C_Table___init__ : CalI P w K mg base 4 "Table" A_Table ["self", "keys", "states", "lamps", "rows", "lights"] R_Table___init__) (C__law_are_free : Cal P w K mg base 3 "_law_are_free" ["_law_rows_here", "_law_names"] R__law_are_free) (C__law_are_names : Cal P w K mg base 2 "_law_are_names" ["_law_found", "_law_many"] R__law_are_names) (C__law_pot : Cal P w K mg base 1 "_law_pot" ["_law_script", "_law_k"] R__law_pot) (C__law_told : Cal P w K mg base 3 "_law_told" ["_law_pot_here"] R__law_told) (C__law_told_parted : Cal P w K mg base 4 "_law_told_parted" ["_law_table", "_law_names"] R__law_told_parted) (C_raceless_names : Cal P w K mg base 2 "raceless_names" ["table"] R_raceless_names) (C_races : Cal P w K mg base 3 "races" ["table", "names"] R_races) : FnG P w K mg base 6 f fd ["_law_script"] (Prom K R_law) :=
  funOkG F0 sc_law (prom_len 1 fun A s A' h => by cases h; rfl) fun cdv A outer s H vs Q E hgd hr h => ⟨t_law K, pss_cons (ps_for PassesOwn.never rfl (pi_range1 (by rfl) bz.range (pa_cons (pe_callB (r := rMaxG) (cr_maxG rfl) (by rfl) bz.max_ (by decide +kernel) (pa_cons (pe_int) (pa_cons (pe_callB (r := rMinG) (cr_minG rfl) (by rfl) bz.min_ (by decide +kernel) (pa_cons (pe_int) (pa_cons (pe_callB (r := rLenG K) cr_lenG (by rfl) bz.len (by decide +kernel) (pa_cons (pv 0) (pa_nil))) (pa_nil)))) (pa_nil)))) (pa_nil))) (pg_name (i := 1) sc_law.nd rfl (.inl rfl)) (pss_cons (ps_asg (C__law_told.pe (hr.mono (by decide)) (by rfl) (pa_cons (C__law_pot.pe (hr.mono (by decide)) (by rfl) (pa_cons (pv 0) (pa_cons (pv 1) (pa_nil)))) (pa_nil))) (pg_tup rfl (pgs_cons (pg_name (i := 2) sc_law.nd rfl (.inl rfl)) (pgs_cons (pg_name (i := 3) sc_law.nd rfl (.inl rfl)) (pgs_cons (pg_name (i := 4) sc_law.nd rfl (.inl rfl)) (pgs_cons (pg_name (i := 5) sc_law.nd rfl (.inl rfl)) (pgs_cons (pg_name (i := 6) sc_law.nd rfl (.inl rfl)) (pgs_nil)))))))) (pss_cons (ps_set (i := 7) sc_law.nd rfl (.inl rfl) (C_Table___init__.pe (hr.mono (by decide)) (by rfl) (pa_cons (pv 2) (pa_cons (pv 3) (pa_cons (pv 4) (pa_cons (pe_lc (own := [("_law_row", 10)]) (g := gName 10) (tt := tYes) (te := tCB (rListG K) (tCons (tVar 10) (tNil))) (wi := iList K (tVar 5)) rfl sc_law.nd (pi_list (pv 5)) (blkOk_by (N := ["_law_script", "_law_k", "_law_keys", "_law_states", "_law_lamps", "_law_rows_here", "_law_lights", "_law_table", "_law_found", "_law_kept", "_law_row"]) (sc := defScope s_law) (by decide +kernel)) (fun _ _ _ _ _ => pg_name (i := 10) sc_law.nd rfl (by first | exact .inl rfl | exact .inr rfl)) (fun _ _ _ _ _ => pts_nil) (fun _ _ _ _ _ => pe_callTy (r := rListG K) cr_listG (by rfl) bz.list_ (by decide +kernel) (pa_cons (pv 10) (pa_nil)))) (pa_cons (pv 6) (pa_nil)))))))) (pss_cons (ps_set (i := 8) sc_law.nd rfl (.inl rfl) (C_raceless_names.pe (hr.mono (by decide)) (by rfl) (pa_cons (pv 7) (pa_nil)))) (pss_cons (ps_if (PW.pt (pw_or (pt_not (pt_val (C__law_are_names.pe (hr.mono (by decide)) (by rfl) (pa_cons (pv 8) (pa_cons (pe_callB (r := rLenG K) cr_lenG (by rfl) bz.len (by decide +kernel) (pa_cons (pv 5) (pa_nil))) (pa_nil)))))) (pw_or1 (pt_not (pt_val (C__law_are_free.pe (hr.mono (by decide)) (by rfl) (pa_cons (pv 5) (pa_cons (pv 8) (pa_nil))))))))) (pss_one (ps_ret (pe_bl))) pss_nil) (pss_cons (ps_if (PW.pt (pw_or (pt_cmpR (r := (rNeD K)) (op_neD (hu64 hr)) (C_races.pe (hr.mono (by decide)) (by rfl) (pa_cons (pv 7) (pa_cons (pv 8) (pa_nil)))) (pe_lst (pa_nil)) (nomark _)) (pw_or1 (pt_not (pt_val (C__law_told_parted.pe (hr.mono (by decide)) (by rfl) (pa_cons (pv 7) (pa_cons (pv 8) (pa_nil))))))))) (pss_one (ps_ret (pe_bl))) pss_nil) (pss_cons (ps_set (i := 9) sc_law.nd rfl (.inl rfl) (pe_callTy (r := rListG K) cr_listG (by rfl) bz.list_ (by decide +kernel) (pa_cons (pv 8) (pa_nil)))) (pss_cons (ps_expr (pe_bm0 PySem.F.plainAttrs_list PySem.F.slot_list_reverse PySem.F.type_list_reverse mt_reverse (pv 8))) (pss_cons (ps_expr (pe_bm0 PySem.F.plainAttrs_list PySem.F.slot_list_pop PySem.F.type_list_pop mt_pop (pv 8))) (pss_one (ps_if (pt_cmpR (r := rNe) op_ne (pe_callB (r := rRepr K) (cr_repr hgd (hu64 hr)) (by rfl) bz.repr (by decide +kernel) (pa_cons (C_raceless_names.pe (hr.mono (by decide)) (by rfl) (pa_cons (pv 7) (pa_nil))) (pa_nil))) (pe_callB (r := rRepr K) (cr_repr hgd (hu64 hr)) (by rfl) bz.repr (by decide +kernel) (pa_cons (pv 9) (pa_nil))) (nomark _)) (pss_one (ps_ret (pe_bl))) pss_nil))))))))))) (pss_one (ps_ret (pe_bl))), sem_law kf h (fun _ _ z => z) fun _ _ z => z⟩
theorem ok_law {P : Program} {w : World} {K : Fg} {mg : Str → Option Value} {base : Heap} (bz : Blt mg) (kf : KF K) (cz : Cst mg) {f : Addr} {fd : FuncData} (F0 : Fun K "law" "law" s_law f fd) (g0 : mg "law" = some (.ref f)) (b0 : Binds K fd ["_law_script"] []) (C_Table___init__ : CalI P w K mg base 4 "Table" A_Table ["self", "keys", "states", "lamps", "rows", "lights"] R_Table___init__) (C__law_are_free : Cal P w K mg base 3 "_law_are_free" ["_law_rows_here", "_law_names"] R__law_are_free) (C__law_are_names : Cal P w K mg base 2 "_law_are_names" ["_law_found", "_law_many"] R__law_are_names) (C__law_pot : Cal P w K mg base 1 "_law_pot" ["_law_script", "_law_k"] R__law_pot) (C__law_told : Cal P w K mg base 3 "_law_told" ["_law_pot_here"] R__law_told) (C__law_told_parted : Cal P w K mg base 4 "_law_told_parted" ["_law_table", "_law_names"] R__law_told_parted) (C_raceless_names : Cal P w K mg base 2 "raceless_names" ["table"] R_raceless_names) (C_races : Cal P w K mg base 3 "races" ["table", "names"] R_races) : CalG P w K mg base 6 "law" ["_law_script"] R_law :=
  CalG.mk' (fn_law bz kf cz F0 C_Table___init__ C__law_are_free C__law_are_names C__law_pot C__law_told C__law_told_parted C_raceless_names C_races) g0 F0.kp b0

theorem all_mk {l : PySem.W.OpenLaw} {w : World} {K : PySem.W.Frag} {h : Heap} {mg : Str → Option Value} {fa : Addr} (X : K.In h) (G : h.Ns mainGlobals mg) (hfa : mg "law" = some (.ref fa))
    (gC_Table : PySem.W.nsIn K mainGlobals "Table" = some (some (.ref A_Table)))
    (pg_Table : PySem.W.plainGet K A_Table Str.empty = true)
    (hd_Table : PySem.W.hasDictIn K A_Table = true)
    (po_Table : PySem.W.plainOver K A_Table = true)
    (sa_Table : PySem.W.findIn K (.ref A_Table) "__setattr__" = some (some (.builtin "object.__setattr__")))
    (mk_Table : PySem.W.makesIn K A_Table = true)
    (kc_Table : PySem.W.keepIn K (.ref A_Table) = true)
    (n_Table_all_keys : PySem.W.findIn K (.ref A_Table) "all_keys" = some none)
    (n_Table_all_states : PySem.W.findIn K (.ref A_Table) "all_states" = some none)
    (n_Table_all_lamps : PySem.W.findIn K (.ref A_Table) "all_lamps" = some none)
    (n_Table_goals : PySem.W.findIn K (.ref A_Table) "goals" = some none)
    (n_Table_shining : PySem.W.findIn K (.ref A_Table) "shining" = some none)
    {f0 : Addr} {od0 an0 : Option Addr} {sl0 : Array (Option Value)} {oc0 kV0 dc0 pm0 cd0 ct0 : Value}
    (a0 : PySem.W.findIn K (.ref A_Table) "goes" = some (some (.ref f0)))
    (i0 : PySem.W.isFn K (.ref f0) = true)
    (l0 : K.lookup f0 = some ⟨oc0, od0, .func (PySem.W.fnOf "goes" "Table.goes" (defArgs s_Table_goes) (defBody s_Table_goes) (defScope s_Table_goes) .none kV0 dc0 pm0 an0 cd0 ct0), sl0⟩)
    (c0 : PySem.W.codeIn K cd0 "Table.goes" = true)
    (k0 : PySem.W.keepIn K (.ref f0) = true)
    {f1 : Addr} {od1 an1 : Option Addr} {sl1 : Array (Option Value)} {oc1 kV1 dc1 pm1 cd1 ct1 : Value}
    (a1 : PySem.W.findIn K (.ref A_Table) "states" = some (some (.ref f1)))
    (i1 : PySem.W.isFn K (.ref f1) = true)
    (l1 : K.lookup f1 = some ⟨oc1, od1, .func (PySem.W.fnOf "states" "Table.states" (defArgs s_Table_states) (defBody s_Table_states) (defScope s_Table_states) .none kV1 dc1 pm1 an1 cd1 ct1), sl1⟩)
    (c1 : PySem.W.codeIn K cd1 "Table.states" = true)
    (k1 : PySem.W.keepIn K (.ref f1) = true)
    {f2 : Addr} {od2 an2 : Option Addr} {sl2 : Array (Option Value)} {oc2 kV2 dc2 pm2 cd2 ct2 : Value}
    (a2 : PySem.W.nsIn K mainGlobals "goings_on" = some (some (.ref f2)))
    (l2 : K.lookup f2 = some ⟨oc2, od2, .func (PySem.W.fnOf "goings_on" "goings_on" (defArgs s_goings_on) (defBody s_goings_on) (defScope s_goings_on) .none kV2 dc2 pm2 an2 cd2 ct2), sl2⟩)
    (c2 : PySem.W.codeIn K cd2 "goings_on" = true)
    (k2 : PySem.W.keepIn K (.ref f2) = true)
    {f3 : Addr} {od3 an3 : Option Addr} {sl3 : Array (Option Value)} {oc3 kV3 dc3 pm3 cd3 ct3 : Value}
    (a3 : PySem.W.nsIn K mainGlobals "unlike_ones" = some (some (.ref f3)))
    (l3 : K.lookup f3 = some ⟨oc3, od3, .func (PySem.W.fnOf "unlike_ones" "unlike_ones" (defArgs s_unlike_ones) (defBody s_unlike_ones) (defScope s_unlike_ones) .none kV3 dc3 pm3 an3 cd3 ct3), sl3⟩)
    (c3 : PySem.W.codeIn K cd3 "unlike_ones" = true)
    (k3 : PySem.W.keepIn K (.ref f3) = true)
    {f4 : Addr} {od4 an4 : Option Addr} {sl4 : Array (Option Value)} {oc4 kV4 dc4 pm4 cd4 ct4 : Value}
    (a4 : PySem.W.findIn K (.ref A_Table) "letters" = some (some (.ref f4)))
    (i4 : PySem.W.isFn K (.ref f4) = true)
    (l4 : K.lookup f4 = some ⟨oc4, od4, .func (PySem.W.fnOf "letters" "Table.letters" (defArgs s_Table_letters) (defBody s_Table_letters) (defScope s_Table_letters) .none kV4 dc4 pm4 an4 cd4 ct4), sl4⟩)
    (c4 : PySem.W.codeIn K cd4 "Table.letters" = true)
    (k4 : PySem.W.keepIn K (.ref f4) = true)
    {f5 : Addr} {od5 an5 : Option Addr} {sl5 : Array (Option Value)} {oc5 kV5 dc5 pm5 cd5 ct5 : Value}
    (a5 : PySem.W.nsIn K mainGlobals "pairs" = some (some (.ref f5)))
    (l5 : K.lookup f5 = some ⟨oc5, od5, .func (PySem.W.fnOf "pairs" "pairs" (defArgs s_pairs) (defBody s_pairs) (defScope s_pairs) .none kV5 dc5 pm5 an5 cd5 ct5), sl5⟩)
    (c5 : PySem.W.codeIn K cd5 "pairs" = true)
    (k5 : PySem.W.keepIn K (.ref f5) = true)
    {f6 : Addr} {od6 an6 : Option Addr} {sl6 : Array (Option Value)} {oc6 kV6 dc6 pm6 cd6 ct6 : Value}
    (a6 : PySem.W.nsIn K mainGlobals "raceless_names" = some (some (.ref f6)))
    (l6 : K.lookup f6 = some ⟨oc6, od6, .func (PySem.W.fnOf "raceless_names" "raceless_names" (defArgs s_raceless_names) (defBody s_raceless_names) (defScope s_raceless_names) .none kV6 dc6 pm6 an6 cd6 ct6), sl6⟩)
    (c6 : PySem.W.codeIn K cd6 "raceless_names" = true)
    (k6 : PySem.W.keepIn K (.ref f6) = true)
    {f7 : Addr} {od7 an7 : Option Addr} {sl7 : Array (Option Value)} {oc7 kV7 dc7 pm7 cd7 ct7 : Value}
    (a7 : PySem.W.nsIn K mainGlobals "is_name" = some (some (.ref f7)))
    (l7 : K.lookup f7 = some ⟨oc7, od7, .func (PySem.W.fnOf "is_name" "is_name" (defArgs s_is_name) (defBody s_is_name) (defScope s_is_name) .none kV7 dc7 pm7 an7 cd7 ct7), sl7⟩)
    (c7 : PySem.W.codeIn K cd7 "is_name" = true)
    (k7 : PySem.W.keepIn K (.ref f7) = true)
    {f8 : Addr} {od8 an8 : Option Addr} {sl8 : Array (Option Value)} {oc8 kV8 dc8 pm8 cd8 ct8 : Value}
    (a8 : PySem.W.nsIn K mainGlobals "want_names" = some (some (.ref f8)))
    (l8 : K.lookup f8 = some ⟨oc8, od8, .func (PySem.W.fnOf "want_names" "want_names" (defArgs s_want_names) (defBody s_want_names) (defScope s_want_names) .none kV8 dc8 pm8 an8 cd8 ct8), sl8⟩)
    (c8 : PySem.W.codeIn K cd8 "want_names" = true)
    (k8 : PySem.W.keepIn K (.ref f8) = true)
    {f9 : Addr} {od9 an9 : Option Addr} {sl9 : Array (Option Value)} {oc9 kV9 dc9 pm9 cd9 ct9 : Value}
    (a9 : PySem.W.nsIn K mainGlobals "span" = some (some (.ref f9)))
    (l9 : K.lookup f9 = some ⟨oc9, od9, .func (PySem.W.fnOf "span" "span" (defArgs s_span) (defBody s_span) (defScope s_span) .none kV9 dc9 pm9 an9 cd9 ct9), sl9⟩)
    (c9 : PySem.W.codeIn K cd9 "span" = true)
    (k9 : PySem.W.keepIn K (.ref f9) = true)
    {f10 : Addr} {od10 an10 : Option Addr} {sl10 : Array (Option Value)} {oc10 kV10 dc10 pm10 cd10 ct10 : Value}
    (a10 : PySem.W.nsIn K mainGlobals "is_parting" = some (some (.ref f10)))
    (l10 : K.lookup f10 = some ⟨oc10, od10, .func (PySem.W.fnOf "is_parting" "is_parting" (defArgs s_is_parting) (defBody s_is_parting) (defScope s_is_parting) .none kV10 dc10 pm10 an10 cd10 ct10), sl10⟩)
    (c10 : PySem.W.codeIn K cd10 "is_parting" = true)
    (k10 : PySem.W.keepIn K (.ref f10) = true)
    {f11 : Addr} {od11 an11 : Option Addr} {sl11 : Array (Option Value)} {oc11 kV11 dc11 pm11 cd11 ct11 : Value}
    (a11 : PySem.W.nsIn K mainGlobals "are_parted" = some (some (.ref f11)))
    (l11 : K.lookup f11 = some ⟨oc11, od11, .func (PySem.W.fnOf "are_parted" "are_parted" (defArgs s_are_parted) (defBody s_are_parted) (defScope s_are_parted) .none kV11 dc11 pm11 an11 cd11 ct11), sl11⟩)
    (c11 : PySem.W.codeIn K cd11 "are_parted" = true)
    (k11 : PySem.W.keepIn K (.ref f11) = true)
    {f12 : Addr} {od12 an12 : Option Addr} {sl12 : Array (Option Value)} {oc12 kV12 dc12 pm12 cd12 ct12 : Value}
    (a12 : PySem.W.nsIn K mainGlobals "first_common" = some (some (.ref f12)))
    (l12 : K.lookup f12 = some ⟨oc12, od12, .func (PySem.W.fnOf "first_common" "first_common" (defArgs s_first_common) (defBody s_first_common) (defScope s_first_common) .none kV12 dc12 pm12 an12 cd12 ct12), sl12⟩)
    (c12 : PySem.W.codeIn K cd12 "first_common" = true)
    (k12 : PySem.W.keepIn K (.ref f12) = true)
    {f13 : Addr} {od13 an13 : Option Addr} {sl13 : Array (Option Value)} {oc13 kV13 dc13 pm13 cd13 ct13 : Value}
    (a13 : PySem.W.nsIn K mainGlobals "race_at" = some (some (.ref f13)))
    (l13 : K.lookup f13 = some ⟨oc13, od13, .func (PySem.W.fnOf "race_at" "race_at" (defArgs s_race_at) (defBody s_race_at) (defScope s_race_at) .none kV13 dc13 pm13 an13 cd13 ct13), sl13⟩)
    (c13 : PySem.W.codeIn K cd13 "race_at" = true)
    (k13 : PySem.W.keepIn K (.ref f13) = true)
    {f14 : Addr} {od14 an14 : Option Addr} {sl14 : Array (Option Value)} {oc14 kV14 dc14 pm14 cd14 ct14 : Value}
    (a14 : PySem.W.nsIn K mainGlobals "races" = some (some (.ref f14)))
    (l14 : K.lookup f14 = some ⟨oc14, od14, .func (PySem.W.fnOf "races" "races" (defArgs s_races) (defBody s_races) (defScope s_races) .none kV14 dc14 pm14 an14 cd14 ct14), sl14⟩)
    (c14 : PySem.W.codeIn K cd14 "races" = true)
    (k14 : PySem.W.keepIn K (.ref f14) = true)
    {f15 : Addr} {od15 an15 : Option Addr} {sl15 : Array (Option Value)} {oc15 kV15 dc15 pm15 cd15 ct15 : Value}
    (a15 : PySem.W.nsIn K mainGlobals "is_word" = some (some (.ref f15)))
    (l15 : K.lookup f15 = some ⟨oc15, od15, .func (PySem.W.fnOf "is_word" "is_word" (defArgs s_is_word) (defBody s_is_word) (defScope s_is_word) .none kV15 dc15 pm15 an15 cd15 ct15), sl15⟩)
    (c15 : PySem.W.codeIn K cd15 "is_word" = true)
    (k15 : PySem.W.keepIn K (.ref f15) = true)
    {f16 : Addr} {od16 an16 : Option Addr} {sl16 : Array (Option Value)} {oc16 kV16 dc16 pm16 cd16 ct16 : Value}
    (a16 : PySem.W.nsIn K mainGlobals "word_fault" = some (some (.ref f16)))
    (l16 : K.lookup f16 = some ⟨oc16, od16, .func (PySem.W.fnOf "word_fault" "word_fault" (defArgs s_word_fault) (defBody s_word_fault) (defScope s_word_fault) .none kV16 dc16 pm16 an16 cd16 ct16), sl16⟩)
    (c16 : PySem.W.codeIn K cd16 "word_fault" = true)
    (k16 : PySem.W.keepIn K (.ref f16) = true)
    {f17 : Addr} {od17 an17 : Option Addr} {sl17 : Array (Option Value)} {oc17 kV17 dc17 pm17 cd17 ct17 : Value}
    (a17 : PySem.W.nsIn K mainGlobals "first_crowd" = some (some (.ref f17)))
    (l17 : K.lookup f17 = some ⟨oc17, od17, .func (PySem.W.fnOf "first_crowd" "first_crowd" (defArgs s_first_crowd) (defBody s_first_crowd) (defScope s_first_crowd) .none kV17 dc17 pm17 an17 cd17 ct17), sl17⟩)
    (c17 : PySem.W.codeIn K cd17 "first_crowd" = true)
    (k17 : PySem.W.keepIn K (.ref f17) = true)
    {f18 : Addr} {od18 an18 : Option Addr} {sl18 : Array (Option Value)} {oc18 kV18 dc18 pm18 cd18 ct18 : Value}
    (a18 : PySem.W.nsIn K mainGlobals "first_misfit" = some (some (.ref f18)))
    (l18 : K.lookup f18 = some ⟨oc18, od18, .func (PySem.W.fnOf "first_misfit" "first_misfit" (defArgs s_first_misfit__r) (defBody s_first_misfit__r) (defScope s_first_misfit__r) .none kV18 dc18 pm18 an18 cd18 ct18), sl18⟩)
    (c18 : PySem.W.codeIn K cd18 "first_misfit" = true)
    (k18 : PySem.W.keepIn K (.ref f18) = true)
    {f19 : Addr} {od19 an19 : Option Addr} {sl19 : Array (Option Value)} {oc19 kV19 dc19 pm19 cd19 ct19 : Value}
    (a19 : PySem.W.nsIn K mainGlobals "first_misfit" = some (some (.ref f19)))
    (l19 : K.lookup f19 = some ⟨oc19, od19, .func (PySem.W.fnOf "first_misfit" "first_misfit" (defArgs s_first_misfit__l) (defBody s_first_misfit__l) (defScope s_first_misfit__l) .none kV19 dc19 pm19 an19 cd19 ct19), sl19⟩)
    (c19 : PySem.W.codeIn K cd19 "first_misfit" = true)
    (k19 : PySem.W.keepIn K (.ref f19) = true)
    {f20 : Addr} {od20 an20 : Option Addr} {sl20 : Array (Option Value)} {oc20 kV20 dc20 pm20 cd20 ct20 : Value}
    (a20 : PySem.W.nsIn K mainGlobals "first_unsettled" = some (some (.ref f20)))
    (l20 : K.lookup f20 = some ⟨oc20, od20, .func (PySem.W.fnOf "first_unsettled" "first_unsettled" (defArgs s_first_unsettled) (defBody s_first_unsettled) (defScope s_first_unsettled) .none kV20 dc20 pm20 an20 cd20 ct20), sl20⟩)
    (c20 : PySem.W.codeIn K cd20 "first_unsettled" = true)
    (k20 : PySem.W.keepIn K (.ref f20) = true)
    {f21 : Addr} {od21 an21 : Option Addr} {sl21 : Array (Option Value)} {oc21 kV21 dc21 pm21 cd21 ct21 : Value}
    (a21 : PySem.W.nsIn K mainGlobals "look" = some (some (.ref f21)))
    (l21 : K.lookup f21 = some ⟨oc21, od21, .func (PySem.W.fnOf "look" "look" (defArgs s_look) (defBody s_look) (defScope s_look) .none kV21 dc21 pm21 an21 cd21 ct21), sl21⟩)
    (c21 : PySem.W.codeIn K cd21 "look" = true)
    (k21 : PySem.W.keepIn K (.ref f21) = true)
    {f22 : Addr} {od22 an22 : Option Addr} {sl22 : Array (Option Value)} {oc22 kV22 dc22 pm22 cd22 ct22 : Value}
    (a22 : PySem.W.nsIn K mainGlobals "look_at_words" = some (some (.ref f22)))
    (l22 : K.lookup f22 = some ⟨oc22, od22, .func (PySem.W.fnOf "look_at_words" "look_at_words" (defArgs s_look_at_words) (defBody s_look_at_words) (defScope s_look_at_words) .none kV22 dc22 pm22 an22 cd22 ct22), sl22⟩)
    (c22 : PySem.W.codeIn K cd22 "look_at_words" = true)
    (k22 : PySem.W.keepIn K (.ref f22) = true)
    {f23 : Addr} {od23 an23 : Option Addr} {sl23 : Array (Option Value)} {oc23 kV23 dc23 pm23 cd23 ct23 : Value}
    (a23 : PySem.W.findIn K (.ref A_Table) "__init__" = some (some (.ref f23)))
    (i23 : PySem.W.isFn K (.ref f23) = true)
    (l23 : K.lookup f23 = some ⟨oc23, od23, .func (PySem.W.fnOf "__init__" "Table.__init__" (defArgs s_Table___init__) (defBody s_Table___init__) (defScope s_Table___init__) .none kV23 dc23 pm23 an23 cd23 ct23), sl23⟩)
    (c23 : PySem.W.codeIn K cd23 "Table.__init__" = true)
    (k23 : PySem.W.keepIn K (.ref f23) = true)
    {f24 : Addr} {od24 an24 : Option Addr} {sl24 : Array (Option Value)} {oc24 kV24 dc24 pm24 cd24 ct24 : Value}
    (a24 : PySem.W.nsIn K mainGlobals "_law_pot" = some (some (.ref f24)))
    (l24 : K.lookup f24 = some ⟨oc24, od24, .func (PySem.W.fnOf "_law_pot" "_law_pot" (defArgs s__law_pot) (defBody s__law_pot) (defScope s__law_pot) .none kV24 dc24 pm24 an24 cd24 ct24), sl24⟩)
    (c24 : PySem.W.codeIn K cd24 "_law_pot" = true)
    (k24 : PySem.W.keepIn K (.ref f24) = true)
    {f25 : Addr} {od25 an25 : Option Addr} {sl25 : Array (Option Value)} {oc25 kV25 dc25 pm25 cd25 ct25 : Value}
    (a25 : PySem.W.nsIn K mainGlobals "_law_digit" = some (some (.ref f25)))
    (l25 : K.lookup f25 = some ⟨oc25, od25, .func (PySem.W.fnOf "_law_digit" "_law_digit" (defArgs s__law_digit) (defBody s__law_digit) (defScope s__law_digit) .none kV25 dc25 pm25 an25 cd25 ct25), sl25⟩)
    (c25 : PySem.W.codeIn K cd25 "_law_digit" = true)
    (k25 : PySem.W.keepIn K (.ref f25) = true)
    {f26 : Addr} {od26 an26 : Option Addr} {sl26 : Array (Option Value)} {oc26 kV26 dc26 pm26 cd26 ct26 : Value}
    (a26 : PySem.W.nsIn K mainGlobals "_law_words" = some (some (.ref f26)))
    (l26 : K.lookup f26 = some ⟨oc26, od26, .func (PySem.W.fnOf "_law_words" "_law_words" (defArgs s__law_words) (defBody s__law_words) (defScope s__law_words) .none kV26 dc26 pm26 an26 cd26 ct26), sl26⟩)
    (c26 : PySem.W.codeIn K cd26 "_law_words" = true)
    (k26 : PySem.W.keepIn K (.ref f26) = true)
    {f27 : Addr} {od27 an27 : Option Addr} {sl27 : Array (Option Value)} {oc27 kV27 dc27 pm27 cd27 ct27 : Value}
    (a27 : PySem.W.nsIn K mainGlobals "_law_rows" = some (some (.ref f27)))
    (l27 : K.lookup f27 = some ⟨oc27, od27, .func (PySem.W.fnOf "_law_rows" "_law_rows" (defArgs s__law_rows) (defBody s__law_rows) (defScope s__law_rows) .none kV27 dc27 pm27 an27 cd27 ct27), sl27⟩)
    (c27 : PySem.W.codeIn K cd27 "_law_rows" = true)
    (k27 : PySem.W.keepIn K (.ref f27) = true)
    {f28 : Addr} {od28 an28 : Option Addr} {sl28 : Array (Option Value)} {oc28 kV28 dc28 pm28 cd28 ct28 : Value}
    (a28 : PySem.W.nsIn K mainGlobals "_law_told" = some (some (.ref f28)))
    (l28 : K.lookup f28 = some ⟨oc28, od28, .func (PySem.W.fnOf "_law_told" "_law_told" (defArgs s__law_told) (defBody s__law_told) (defScope s__law_told) .none kV28 dc28 pm28 an28 cd28 ct28), sl28⟩)
    (c28 : PySem.W.codeIn K cd28 "_law_told" = true)
    (k28 : PySem.W.keepIn K (.ref f28) = true)
    {f29 : Addr} {od29 an29 : Option Addr} {sl29 : Array (Option Value)} {oc29 kV29 dc29 pm29 cd29 ct29 : Value}
    (a29 : PySem.W.nsIn K mainGlobals "_law_parts" = some (some (.ref f29)))
    (l29 : K.lookup f29 = some ⟨oc29, od29, .func (PySem.W.fnOf "_law_parts" "_law_parts" (defArgs s__law_parts) (defBody s__law_parts) (defScope s__law_parts) .none kV29 dc29 pm29 an29 cd29 ct29), sl29⟩)
    (c29 : PySem.W.codeIn K cd29 "_law_parts" = true)
    (k29 : PySem.W.keepIn K (.ref f29) = true)
    {f30 : Addr} {od30 an30 : Option Addr} {sl30 : Array (Option Value)} {oc30 kV30 dc30 pm30 cd30 ct30 : Value}
    (a30 : PySem.W.nsIn K mainGlobals "_law_clashes" = some (some (.ref f30)))
    (l30 : K.lookup f30 = some ⟨oc30, od30, .func (PySem.W.fnOf "_law_clashes" "_law_clashes" (defArgs s__law_clashes) (defBody s__law_clashes) (defScope s__law_clashes) .none kV30 dc30 pm30 an30 cd30 ct30), sl30⟩)
    (c30 : PySem.W.codeIn K cd30 "_law_clashes" = true)
    (k30 : PySem.W.keepIn K (.ref f30) = true)
    {f31 : Addr} {od31 an31 : Option Addr} {sl31 : Array (Option Value)} {oc31 kV31 dc31 pm31 cd31 ct31 : Value}
    (a31 : PySem.W.nsIn K mainGlobals "_law_between" = some (some (.ref f31)))
    (l31 : K.lookup f31 = some ⟨oc31, od31, .func (PySem.W.fnOf "_law_between" "_law_between" (defArgs s__law_between) (defBody s__law_between) (defScope s__law_between) .none kV31 dc31 pm31 an31 cd31 ct31), sl31⟩)
    (c31 : PySem.W.codeIn K cd31 "_law_between" = true)
    (k31 : PySem.W.keepIn K (.ref f31) = true)
    {f32 : Addr} {od32 an32 : Option Addr} {sl32 : Array (Option Value)} {oc32 kV32 dc32 pm32 cd32 ct32 : Value}
    (a32 : PySem.W.nsIn K mainGlobals "_law_is_number" = some (some (.ref f32)))
    (l32 : K.lookup f32 = some ⟨oc32, od32, .func (PySem.W.fnOf "_law_is_number" "_law_is_number" (defArgs s__law_is_number) (defBody s__law_is_number) (defScope s__law_is_number) .none kV32 dc32 pm32 an32 cd32 ct32), sl32⟩)
    (c32 : PySem.W.codeIn K cd32 "_law_is_number" = true)
    (k32 : PySem.W.keepIn K (.ref f32) = true)
    {f33 : Addr} {od33 an33 : Option Addr} {sl33 : Array (Option Value)} {oc33 kV33 dc33 pm33 cd33 ct33 : Value}
    (a33 : PySem.W.nsIn K mainGlobals "_law_are_names" = some (some (.ref f33)))
    (l33 : K.lookup f33 = some ⟨oc33, od33, .func (PySem.W.fnOf "_law_are_names" "_law_are_names" (defArgs s__law_are_names) (defBody s__law_are_names) (defScope s__law_are_names) .none kV33 dc33 pm33 an33 cd33 ct33), sl33⟩)
    (c33 : PySem.W.codeIn K cd33 "_law_are_names" = true)
    (k33 : PySem.W.keepIn K (.ref f33) = true)
    {f34 : Addr} {od34 an34 : Option Addr} {sl34 : Array (Option Value)} {oc34 kV34 dc34 pm34 cd34 ct34 : Value}
    (a34 : PySem.W.nsIn K mainGlobals "_law_is_met" = some (some (.ref f34)))
    (l34 : K.lookup f34 = some ⟨oc34, od34, .func (PySem.W.fnOf "_law_is_met" "_law_is_met" (defArgs s__law_is_met) (defBody s__law_is_met) (defScope s__law_is_met) .none kV34 dc34 pm34 an34 cd34 ct34), sl34⟩)
    (c34 : PySem.W.codeIn K cd34 "_law_is_met" = true)
    (k34 : PySem.W.keepIn K (.ref f34) = true)
    {f35 : Addr} {od35 an35 : Option Addr} {sl35 : Array (Option Value)} {oc35 kV35 dc35 pm35 cd35 ct35 : Value}
    (a35 : PySem.W.nsIn K mainGlobals "_law_are_free" = some (some (.ref f35)))
    (l35 : K.lookup f35 = some ⟨oc35, od35, .func (PySem.W.fnOf "_law_are_free" "_law_are_free" (defArgs s__law_are_free) (defBody s__law_are_free) (defScope s__law_are_free) .none kV35 dc35 pm35 an35 cd35 ct35), sl35⟩)
    (c35 : PySem.W.codeIn K cd35 "_law_are_free" = true)
    (k35 : PySem.W.keepIn K (.ref f35) = true)
    {f36 : Addr} {od36 an36 : Option Addr} {sl36 : Array (Option Value)} {oc36 kV36 dc36 pm36 cd36 ct36 : Value}
    (a36 : PySem.W.nsIn K mainGlobals "_law_told_parted" = some (some (.ref f36)))
    (l36 : K.lookup f36 = some ⟨oc36, od36, .func (PySem.W.fnOf "_law_told_parted" "_law_told_parted" (defArgs s__law_told_parted) (defBody s__law_told_parted) (defScope s__law_told_parted) .none kV36 dc36 pm36 an36 cd36 ct36), sl36⟩)
    (c36 : PySem.W.codeIn K cd36 "_law_told_parted" = true)
    (k36 : PySem.W.keepIn K (.ref f36) = true)
    {f37 : Addr} {od37 an37 : Option Addr} {sl37 : Array (Option Value)} {oc37 kV37 dc37 pm37 cd37 ct37 : Value}
    (a37 : PySem.W.nsIn K mainGlobals "law" = some (some (.ref f37)))
    (l37 : K.lookup f37 = some ⟨oc37, od37, .func (PySem.W.fnOf "law" "law" (defArgs s_law) (defBody s_law) (defScope s_law) .none kV37 dc37 pm37 an37 cd37 ct37), sl37⟩)
    (c37 : PySem.W.codeIn K cd37 "law" = true)
    (k37 : PySem.W.keepIn K (.ref f37) = true)
    {cu0 : Value}
    (y0 : PySem.W.nsIn K mainGlobals "FEWEST_STATES" = some (some cu0))
    (w0 : RelV (.int 2) cu0)
    {cu1 : Value}
    (y1 : PySem.W.nsIn K mainGlobals "LETTERS" = some (some cu1))
    (w1 : RelV (.str (Str.ofString "abcdefghijklmnopqrstuvwxyz")) cu1)
    {cu2 : Value}
    (y2 : PySem.W.nsIn K mainGlobals "MOST_KEYS" = some (some cu2))
    (w2 : RelV (.int 2) cu2)
    {cu3 : Value}
    (y3 : PySem.W.nsIn K mainGlobals "MOST_LAMPS" = some (some cu3))
    (w3 : RelV (.int 2) cu3)
    {cu4 : Value}
    (y4 : PySem.W.nsIn K mainGlobals "MOST_LETTERS" = some (some cu4))
    (w4 : RelV (.int 8) cu4)
    {cu5 : Value}
    (y5 : PySem.W.nsIn K mainGlobals "MOST_PLACES" = some (some cu5))
    (w5 : RelV (.int 4) cu5)
    {cu6 : Value}
    (y6 : PySem.W.nsIn K mainGlobals "MOST_STATES" = some (some cu6))
    (w6 : RelV (.int 4) cu6)
    {cu7 : Value}
    (y7 : PySem.W.nsIn K mainGlobals "HALVINGS" = some (some cu7))
    (w7 : RelV (.ref 25) cu7)
    (q_HALVINGS : ∀ F : Hp, rp K F (V.ref 25) tv_HALVINGS)
    (z0 : PySem.W.nsIn K mainGlobals "abs" = some none)
    (z1 : PySem.W.nsIn K mainGlobals "all" = some none)
    (z2 : PySem.W.nsIn K mainGlobals "any" = some none)
    (z3 : PySem.W.nsIn K mainGlobals "bool" = some none)
    (z4 : PySem.W.nsIn K mainGlobals "enumerate" = some none)
    (z5 : PySem.W.nsIn K mainGlobals "int" = some none)
    (z6 : PySem.W.nsIn K mainGlobals "isinstance" = some none)
    (z7 : PySem.W.nsIn K mainGlobals "len" = some none)
    (z8 : PySem.W.nsIn K mainGlobals "list" = some none)
    (z9 : PySem.W.nsIn K mainGlobals "max" = some none)
    (z10 : PySem.W.nsIn K mainGlobals "min" = some none)
    (z11 : PySem.W.nsIn K mainGlobals "range" = some none)
    (z12 : PySem.W.nsIn K mainGlobals "repr" = some none)
    (z13 : PySem.W.nsIn K mainGlobals "set" = some none)
    (z14 : PySem.W.nsIn K mainGlobals "sorted" = some none)
    (z15 : PySem.W.nsIn K mainGlobals "sum" = some none)
    (z16 : PySem.W.nsIn K mainGlobals "tuple" = some none)
    (z17 : PySem.W.nsIn K mainGlobals "zip" = some none) :
    ∃ fd : FuncData, (∀ (s : Shared) (v : Value), BindsTo s fd ⟨[v], []⟩ [("_law_script", v)]) ∧ ∀ base : Heap, K.In base → base.Ns mainGlobals mg → FnG l.prog w K mg base 6 fa fd ["_law_script"] (Prom K R_law) := by
  have e := hfa.symm.trans (PySem.W.mg_of X G a37)
  cases e
  have bz : Blt mg := ⟨PySem.W.mg_none_of X G z0, PySem.W.mg_none_of X G z1, PySem.W.mg_none_of X G z2, PySem.W.mg_none_of X G z3, PySem.W.mg_none_of X G z4, PySem.W.mg_none_of X G z5, PySem.W.mg_none_of X G z6, PySem.W.mg_none_of X G z7, PySem.W.mg_none_of X G z8, PySem.W.mg_none_of X G z9, PySem.W.mg_none_of X G z10, PySem.W.mg_none_of X G z11, PySem.W.mg_none_of X G z12, PySem.W.mg_none_of X G z13, PySem.W.mg_none_of X G z14, PySem.W.mg_none_of X G z15, PySem.W.mg_none_of X G z16, PySem.W.mg_none_of X G z17⟩
  have kf : KF K := ⟨⟨pg_Table, hd_Table, po_Table, sa_Table⟩, n_Table_all_keys, n_Table_all_states, n_Table_all_lamps, n_Table_goals, n_Table_shining, q_HALVINGS⟩
  have cz : Cst mg := ⟨⟨_, PySem.W.mg_of X G y0, w0⟩, ⟨_, PySem.W.mg_of X G y1, w1⟩, ⟨_, PySem.W.mg_of X G y2, w2⟩, ⟨_, PySem.W.mg_of X G y3, w3⟩, ⟨_, PySem.W.mg_of X G y4, w4⟩, ⟨_, PySem.W.mg_of X G y5, w5⟩, ⟨_, PySem.W.mg_of X G y6, w6⟩, ⟨_, PySem.W.mg_of X G y7, w7⟩⟩
  have F0 := fun_mk (st := s_Table_goes) l0 c0 k0
  have b0 := F0.binds (ps := ["self", "s", "x"]) fun _ _ _ _ _ _ us hl => match us, hl with | [_, _, _], _ => rfl
  have F1 := fun_mk (st := s_Table_states) l1 c1 k1
  have b1 := F1.binds (ps := ["self"]) fun _ _ _ _ _ _ us hl => match us, hl with | [_], _ => rfl
  have F2 := fun_mk (st := s_goings_on) l2 c2 k2
  have b2 := F2.binds (ps := ["table", "x"]) fun _ _ _ _ _ _ us hl => match us, hl with | [_, _], _ => rfl
  have F3 := fun_mk (st := s_unlike_ones) l3 c3 k3
  have b3 := F3.binds (ps := ["some"]) fun _ _ _ _ _ _ us hl => match us, hl with | [_], _ => rfl
  have F4 := fun_mk (st := s_Table_letters) l4 c4 k4
  have b4 := F4.binds (ps := ["self"]) fun _ _ _ _ _ _ us hl => match us, hl with | [_], _ => rfl
  have F5 := fun_mk (st := s_pairs) l5 c5 k5
  have b5 := F5.binds (ps := ["table"]) fun _ _ _ _ _ _ us hl => match us, hl with | [_], _ => rfl
  have F6 := fun_mk (st := s_raceless_names) l6 c6 k6
  have b6 := F6.binds (ps := ["table"]) fun _ _ _ _ _ _ us hl => match us, hl with | [_], _ => rfl
  have F7 := fun_mk (st := s_is_name) l7 c7 k7
  have b7 := F7.binds (ps := ["thing", "size"]) fun _ _ _ _ _ _ us hl => match us, hl with | [_, _], _ => rfl
  have F8 := fun_mk (st := s_want_names) l8 c8 k8
  have b8 := F8.binds (ps := ["many", "names"]) fun _ _ _ _ _ _ us hl => match us, hl with | [_, _], _ => rfl
  have F9 := fun_mk (st := s_span) l9 c9 k9
  have b9 := F9.binds (ps := ["one", "other"]) fun _ _ _ _ _ _ us hl => match us, hl with | [_, _], _ => rfl
  have F10 := fun_mk (st := s_is_parting) l10 c10 k10
  have b10 := F10.binds (ps := ["way", "one", "other"]) fun _ _ _ _ _ _ us hl => match us, hl with | [_, _, _], _ => rfl
  have F11 := fun_mk (st := s_are_parted) l11 c11 k11
  have b11 := F11.binds (ps := ["names", "one", "other"]) fun _ _ _ _ _ _ us hl => match us, hl with | [_, _, _], _ => rfl
  have F12 := fun_mk (st := s_first_common) l12 c12 k12
  have b12 := F12.binds (ps := ["some", "others"]) fun _ _ _ _ _ _ us hl => match us, hl with | [_, _], _ => rfl
  have F13 := fun_mk (st := s_race_at) l13 c13 k13
  have b13 := F13.binds (ps := ["table", "names", "x", "s", "u"]) fun _ _ _ _ _ _ us hl => match us, hl with | [_, _, _, _, _], _ => rfl
  have F14 := fun_mk (st := s_races) l14 c14 k14
  have b14 := F14.binds (ps := ["table", "names"]) fun _ _ _ _ _ _ us hl => match us, hl with | [_, _], _ => rfl
  have F15 := fun_mk (st := s_is_word) l15 c15 k15
  have b15 := F15.binds (ps := ["text"]) fun _ _ _ _ _ _ us hl => match us, hl with | [_], _ => rfl
  have F16 := fun_mk (st := s_word_fault) l16 c16 k16
  have b16 := F16.binds (ps := ["words"]) fun _ _ _ _ _ _ us hl => match us, hl with | [_], _ => rfl
  have F17 := fun_mk (st := s_first_crowd) l17 c17 k17
  have b17 := F17.binds (ps := ["keys", "states", "lamps"]) fun _ _ _ _ _ _ us hl => match us, hl with | [_, _, _], _ => rfl
  have F18 := fun_mk (st := s_first_misfit__r) l18 c18 k18
  have b18 := F18.binds (ps := ["many", "told", "long", "bound"]) fun _ _ _ _ _ _ us hl => match us, hl with | [_, _, _, _], _ => rfl
  have F19 := fun_mk (st := s_first_misfit__l) l19 c19 k19
  have b19 := F19.binds (ps := ["many", "told", "long", "bound"]) fun _ _ _ _ _ _ us hl => match us, hl with | [_, _, _, _], _ => rfl
  have F20 := fun_mk (st := s_first_unsettled) l20 c20 k20
  have b20 := F20.binds (ps := ["rows"]) fun _ _ _ _ _ _ us hl => match us, hl with | [_], _ => rfl
  have F21 := fun_mk (st := s_look) l21 c21 k21
  have b21 := F21.binds (ps := ["word", "number"]) fun _ _ _ _ _ _ us hl => match us, hl with | [_, _], _ => rfl
  have F22 := fun_mk (st := s_look_at_words) l22 c22 k22
  have b22 := F22.binds (ps := ["words"]) fun _ _ _ _ _ _ us hl => match us, hl with | [_], _ => rfl
  have F23 := fun_mk (st := s_Table___init__) l23 c23 k23
  have b23 := F23.binds (ps := ["self", "keys", "states", "lamps", "rows", "lights"]) fun _ _ _ _ _ _ us hl => match us, hl with | [_, _, _, _, _, _], _ => rfl
  have F24 := fun_mk (st := s__law_pot) l24 c24 k24
  have b24 := F24.binds (ps := ["_law_script", "_law_k"]) fun _ _ _ _ _ _ us hl => match us, hl with | [_, _], _ => rfl
  have F25 := fun_mk (st := s__law_digit) l25 c25 k25
  have b25 := F25.binds (ps := ["_law_pot_here", "_law_many"]) fun _ _ _ _ _ _ us hl => match us, hl with | [_, _], _ => rfl
  have F26 := fun_mk (st := s__law_words) l26 c26 k26
  have b26 := F26.binds (ps := ["_law_pot_here", "_law_many"]) fun _ _ _ _ _ _ us hl => match us, hl with | [_, _], _ => rfl
  have F27 := fun_mk (st := s__law_rows) l27 c27 k27
  have b27 := F27.binds (ps := ["_law_pot_here", "_law_many", "_law_letters"]) fun _ _ _ _ _ _ us hl => match us, hl with | [_, _, _], _ => rfl
  have F28 := fun_mk (st := s__law_told) l28 c28 k28
  have b28 := F28.binds (ps := ["_law_pot_here"]) fun _ _ _ _ _ _ us hl => match us, hl with | [_], _ => rfl
  have F29 := fun_mk (st := s__law_parts) l29 c29 k29
  have b29 := F29.binds (ps := ["_law_names", "_law_one", "_law_other"]) fun _ _ _ _ _ _ us hl => match us, hl with | [_, _, _], _ => rfl
  have F30 := fun_mk (st := s__law_clashes) l30 c30 k30
  have b30 := F30.binds (ps := ["_law_rows_here"]) fun _ _ _ _ _ _ us hl => match us, hl with | [_], _ => rfl
  have F31 := fun_mk (st := s__law_between) l31 c31 k31
  have b31 := F31.binds (ps := ["_law_one", "_law_other"]) fun _ _ _ _ _ _ us hl => match us, hl with | [_, _], _ => rfl
  have F32 := fun_mk (st := s__law_is_number) l32 c32 k32
  have b32 := F32.binds (ps := ["_law_thing"]) fun _ _ _ _ _ _ us hl => match us, hl with | [_], _ => rfl
  have F33 := fun_mk (st := s__law_are_names) l33 c33 k33
  have b33 := F33.binds (ps := ["_law_found", "_law_many"]) fun _ _ _ _ _ _ us hl => match us, hl with | [_, _], _ => rfl
  have F34 := fun_mk (st := s__law_is_met) l34 c34 k34
  have b34 := F34.binds (ps := ["_law_names", "_law_one", "_law_other"]) fun _ _ _ _ _ _ us hl => match us, hl with | [_, _, _], _ => rfl
  have F35 := fun_mk (st := s__law_are_free) l35 c35 k35
  have b35 := F35.binds (ps := ["_law_rows_here", "_law_names"]) fun _ _ _ _ _ _ us hl => match us, hl with | [_, _], _ => rfl
  have F36 := fun_mk (st := s__law_told_parted) l36 c36 k36
  have b36 := F36.binds (ps := ["_law_table", "_law_names"]) fun _ _ _ _ _ _ us hl => match us, hl with | [_, _], _ => rfl
  have F37 := fun_mk (st := s_law) l37 c37 k37
  have b37 := F37.binds (ps := ["_law_script"]) fun _ _ _ _ _ _ us hl => match us, hl with | [_], _ => rfl
  refine ⟨PySem.W.fnOf "law" "law" (defArgs s_law) (defBody s_law) (defScope s_law) .none kV37 dc37 pm37 an37 cd37 ct37, fun s v => .of_eq rfl, fun base _ _ => ?_⟩
  have C0 := ok_Table_goes (P := l.prog) (w := w) (base := base) bz kf cz F0 ⟨a0, i0, k0⟩ b0
  have C1 := ok_Table_states (P := l.prog) (w := w) (base := base) bz kf cz F1 ⟨a1, i1, k1⟩ b1
  have C2 := ok_goings_on (P := l.prog) (w := w) (base := base) bz kf cz F2 (PySem.W.mg_of X G a2) b2 C0 C1
  have C3 := ok_unlike_ones (P := l.prog) (w := w) (base := base) bz kf cz F3 (PySem.W.mg_of X G a3) b3
  have C4 := ok_Table_letters (P := l.prog) (w := w) (base := base) bz kf cz F4 ⟨a4, i4, k4⟩ b4
  have C5 := ok_pairs (P := l.prog) (w := w) (base := base) bz kf cz F5 (PySem.W.mg_of X G a5) b5 C4 C1 C2 C3
  have C6 := ok_raceless_names (P := l.prog) (w := w) (base := base) bz kf cz F6 (PySem.W.mg_of X G a6) b6 C1
  have C7 := ok_is_name (P := l.prog) (w := w) (base := base) bz kf cz F7 (PySem.W.mg_of X G a7) b7
  have C8 := ok_want_names (P := l.prog) (w := w) (base := base) bz kf cz F8 (PySem.W.mg_of X G a8) b8 C7
  have C9 := ok_span (P := l.prog) (w := w) (base := base) bz kf cz F9 (PySem.W.mg_of X G a9) b9
  have C10 := ok_is_parting (P := l.prog) (w := w) (base := base) bz kf cz F10 (PySem.W.mg_of X G a10) b10
  have C11 := ok_are_parted (P := l.prog) (w := w) (base := base) bz kf cz F11 (PySem.W.mg_of X G a11) b11 C10
  have C12 := ok_first_common (P := l.prog) (w := w) (base := base) bz kf cz F12 (PySem.W.mg_of X G a12) b12
  have C13 := ok_race_at (P := l.prog) (w := w) (base := base) bz kf cz F13 (PySem.W.mg_of X G a13) b13 C0 C12 C9
  have C14 := ok_races (P := l.prog) (w := w) (base := base) bz kf cz F14 (PySem.W.mg_of X G a14) b14 C4 C1 C13 C8
  have C15 := ok_is_word (P := l.prog) (w := w) (base := base) bz kf cz F15 (PySem.W.mg_of X G a15) b15
  have C16 := ok_word_fault (P := l.prog) (w := w) (base := base) bz kf cz F16 (PySem.W.mg_of X G a16) b16 C15
  have C17 := ok_first_crowd (P := l.prog) (w := w) (base := base) bz kf cz F17 (PySem.W.mg_of X G a17) b17
  have C18 := ok_first_misfit__r (P := l.prog) (w := w) (base := base) bz kf cz F18 (PySem.W.mg_of X G a18) b18
  have C19 := ok_first_misfit__l (P := l.prog) (w := w) (base := base) bz kf cz F19 (PySem.W.mg_of X G a19) b19
  have C20 := ok_first_unsettled (P := l.prog) (w := w) (base := base) bz kf cz F20 (PySem.W.mg_of X G a20) b20
  have C21 := ok_look (P := l.prog) (w := w) (base := base) bz kf cz F21 (PySem.W.mg_of X G a21) b21
  have C22 := ok_look_at_words (P := l.prog) (w := w) (base := base) bz kf cz F22 (PySem.W.mg_of X G a22) b22 C16
  have C23 := ok_Table___init__ (P := l.prog) (w := w) (base := base) bz kf cz F23 ⟨mk_Table, a23, i23, kc_Table⟩ (PySem.W.mg_of X G gC_Table) b23 C17 C19 C18 C20 C21 C22
  have C24 := ok__law_pot (P := l.prog) (w := w) (base := base) bz kf cz F24 (PySem.W.mg_of X G a24) b24
  have C25 := ok__law_digit (P := l.prog) (w := w) (base := base) bz kf cz F25 (PySem.W.mg_of X G a25) b25
  have C26 := ok__law_words (P := l.prog) (w := w) (base := base) bz kf cz F26 (PySem.W.mg_of X G a26) b26 C25
  have C27 := ok__law_rows (P := l.prog) (w := w) (base := base) bz kf cz F27 (PySem.W.mg_of X G a27) b27 C25
  have C28 := ok__law_told (P := l.prog) (w := w) (base := base) bz kf cz F28 (PySem.W.mg_of X G a28) b28 C25 C27 C26
  have C29 := ok__law_parts (P := l.prog) (w := w) (base := base) bz kf cz F29 (PySem.W.mg_of X G a29) b29
  have C30 := ok__law_clashes (P := l.prog) (w := w) (base := base) bz kf cz F30 (PySem.W.mg_of X G a30) b30
  have C31 := ok__law_between (P := l.prog) (w := w) (base := base) bz kf cz F31 (PySem.W.mg_of X G a31) b31
  have C32 := ok__law_is_number (P := l.prog) (w := w) (base := base) bz kf cz F32 (PySem.W.mg_of X G a32) b32
  have C33 := ok__law_are_names (P := l.prog) (w := w) (base := base) bz kf cz F33 (PySem.W.mg_of X G a33) b33 C32
  have C34 := ok__law_is_met (P := l.prog) (w := w) (base := base) bz kf cz F34 (PySem.W.mg_of X G a34) b34 C31
  have C35 := ok__law_are_free (P := l.prog) (w := w) (base := base) bz kf cz F35 (PySem.W.mg_of X G a35) b35 C30 C34 C29
  have C36 := ok__law_told_parted (P := l.prog) (w := w) (base := base) bz kf cz F36 (PySem.W.mg_of X G a36) b36 C11 C5
  have C37 := ok_law (P := l.prog) (w := w) (base := base) bz kf cz F37 (PySem.W.mg_of X G a37) b37 C23 C35 C33 C24 C28 C36 C6 C14
  exact fn_law bz kf cz F37 C23 C35 C33 C24 C28 C36 C6 C14
end W

set_option Elab.async false
set_option linter.all false
set_option maxRecDepth 100000
set_option maxHeartbeats 4000000
set_option synthInstance.maxHeartbeats 400000
set_option synthInstance.maxSize 2000
namespace W
open PySem L2 G
def Good (w : Str) : Prop := 1 ≤ (chars w).length ∧ (chars w).length ≤ 8 ∧ ∀ c ∈ chars w, 97 ≤ c ∧ c ≤ 122
abbrev abc : Str := Str.ofString "abcdefghijklmnopqrstuvwxyz"
theorem abc_chars : chars abc = List.range' 97 26 := by decide +kernel
theorem abc_len : (chars abc).length ≤ 1000000 := by rw [abc_chars]; decide
theorem abc_at {d : Nat} (h : d < 26) : (chars abc)[d]? = some (97 + d) := by
  rw [abc_chars, List.getElem?_eq_getElem (by simpa using h), List.getElem_range']
  simp
theorem good_ok {w : Str} (h : Good w) : PyData.strOk w = true := by
  unfold PyData.strOk
  rw [Array.all_eq_true_iff_forall_mem]
  intro c hc
  have := h.2.2 c (Array.mem_toList_iff.mpr hc)
  exact decide_eq_true (by omega)
theorem inO_str {w : Str} {ws : List Str} (h : Good w) (hs : ∀ x ∈ ws, Good x) : inO w ws = some (ws.any fun z => decide (z = w)) := by
  unfold inO
  have h1 : Py.okD w = true := good_ok h
  have h2 : Py.okD ws = true := List.all_eq_true.mpr fun x m => good_ok (hs x m)
  rw [h1, h2]
  rfl
theorem any_mem {ws : List Str} {w : Str} : (ws.any fun z => decide (z = w)) = true ↔ w ∈ ws := by
  rw [List.any_eq_true]
  refine ⟨fun ⟨z, m, e⟩ => by rw [← of_decide_eq_true e]; exact m, fun m => ⟨w, m, decide_eq_true rfl⟩⟩
theorem is_word_ok {w : Str} (h : Good w) : m_is_word w = some true := by
  unfold m_is_word
  have hl : (chars w).length ≤ 1000000 := by have := h.2.1; omega
  refine bnd (x := true) (bnd (lenS_ok hl) ?_) ?_
  · rw [decide_eq_true (show (1 : Int) ≤ ((chars w).length : Int) by have := h.1; omega), decide_eq_true (show ((chars w).length : Int) ≤ 8 by have := h.2.1; omega)]
    rfl
  · refine bnd (x := true) ?_ rfl
    rw [if_pos rfl]
    refine bnd (signsO_ok hl) (bnd (mapO_some (g := fun _ => true) fun x m => ?_) ?_)
    · obtain ⟨c, mc, e⟩ := List.mem_map.mp m
      subst e
      unfold m_is_word_c0
      refine bnd inS_ok ?_
      have : c ∈ chars abc := by
        rw [abc_chars]
        have := h.2.2 c mc
        exact List.mem_range'_1.mpr (by omega)
      rw [decide_eq_true this]
    · congr 1
      rw [List.all_map]
      exact List.all_eq_true.mpr fun _ _ => rfl
theorem take_ne {l : List Str} {i : Nat} {w : Str} (nd : l.Nodup) (h : l[i]? = some w) : w ∉ l.take i := by
  intro m
  obtain ⟨j, hj⟩ := List.mem_iff_getElem?.mp m
  rw [List.getElem?_take] at hj
  split at hj
  · rename_i hlt
    have h1 := (List.getElem?_eq_some_iff.mp h)
    have h2 := (List.getElem?_eq_some_iff.mp hj)
    obtain ⟨a1, b1⟩ := h1
    obtain ⟨a2, b2⟩ := h2
    exact List.pairwise_iff_getElem.mp nd j i a2 a1 hlt (by rw [b1, b2])
  · cases hj
theorem words_ok {l : List Str} (hg : ∀ w ∈ l, Good w) (nd : l.Nodup) : m_look_at_words l = some () := by
  unfold m_look_at_words
  refine bnd (x := none) ?_ rfl
  unfold m_word_fault
  refine bnd (forO_go fun p hp => ?_) rfl
  obtain ⟨i, e1, e2⟩ := enumFrom_mem hp
  have hG := hg p.2 (List.mem_of_getElem? e2)
  unfold m_word_fault_l0
  refine bnd (x := false) (bnd (is_word_ok hG) rfl) (bnd (x := false) ?_ rfl)
  rw [if_neg (by decide)]
  have hc : cutL l none (some p.1) = l.take i := by
    unfold cutL
    rw [e1, HT.sIx_none, HT.sIx_nat, List.drop_zero, Nat.sub_zero, List.take_eq_take_iff]
    omega
  rw [hc]
  refine bnd (inO_str hG fun x m => hg x (List.mem_of_mem_take m)) ?_
  congr 1
  cases hq : ((l.take i).any fun z => decide (z = p.2)) with
  | false => rfl
  | true => exact absurd (any_mem.mp hq) (take_ne nd e2)
theorem crowd_ok {a b c : List Str} (h1 : a.length ≤ 2) (h2 : 2 ≤ b.length) (h3 : b.length ≤ 4) (h4 : c.length ≤ 2) : m_first_crowd a b c = some none := by
  unfold m_first_crowd
  rw [decide_eq_true (show (a.length : Int) ≤ 2 by omega), decide_eq_true (show (2 : Int) ≤ (b.length : Int) by omega), decide_eq_true (show (b.length : Int) ≤ 4 by omega), decide_eq_true (show (c.length : Int) ≤ 2 by omega)]
  refine bnd (x := false) (bnd (inO_t _ _) rfl) (bnd (x := none) rfl rfl)
theorem bound_ok {l : List Int} {b : Int} (h : ∀ x ∈ l, 0 ≤ x ∧ x < b) : (l.map fun x => (decide ((0 : Int) ≤ x)) && (decide (x < b))).all id = true := by
  rw [List.all_map]
  refine List.all_eq_true.mpr fun x m => ?_
  have := h x m
  show (decide ((0 : Int) ≤ x) && decide (x < b)) = true
  rw [decide_eq_true this.1, decide_eq_true this.2]
  rfl
theorem misfit_r {n : Nat} {rows : List (List Int)} {long : Nat} {b : Int} (hn : n < 1000) (hl : rows.length = n) (h : ∀ r ∈ rows, r.length = long ∧ ∀ x ∈ r, 0 ≤ x ∧ x < b) : m_first_misfit__r (n : Int) rows (long : Int) b = some none := by
  unfold m_first_misfit__r
  refine bnd (rangeO_eq (by omega)) (bnd (forO_go fun i hi => ?_) ?_)
  · obtain ⟨k, hk, e⟩ := List.mem_map.mp hi
    subst e
    have hk := List.mem_range.mp hk
    unfold m_first_misfit__r_l0
    obtain ⟨r, er, mr, _⟩ := atI_mem (xs := rows) (i := (k : Int)) (by omega) (by omega)
    have hr := h r mr
    refine bnd (x := false) ?_ rfl
    rw [decide_eq_false (show ¬ (rows.length : Int) ≤ (k : Int) by omega), if_neg (by decide)]
    refine bnd (x := false) (bnd er (by rw [decide_eq_true (show (r.length : Int) = (long : Int) by omega)]; rfl)) (bnd (x := false) ?_ rfl)
    rw [if_neg (by decide)]
    refine bnd er (bnd (mapO_some (g := fun x => (decide ((0 : Int) ≤ x)) && (decide (x < b))) fun x _ => rfl) ?_)
    rw [bound_ok hr.2]
    rfl
  · show ((if decide ((n : Int) < (rows.length : Int)) = true then _ else _) : Option (Option Int)).bind _ = _
    rw [decide_eq_false (show ¬ (n : Int) < (rows.length : Int) by omega)]
    rfl
theorem misfit_l {n : Nat} {rows : List (Tup Int)} {long : Nat} {b : Int} (hn : n < 1000) (hl : rows.length = n) (h : ∀ r ∈ rows, r.l.length = long ∧ ∀ x ∈ r.l, 0 ≤ x ∧ x < b) : m_first_misfit__l (n : Int) rows (long : Int) b = some none := by
  unfold m_first_misfit__l
  refine bnd (rangeO_eq (by omega)) (bnd (forO_go fun i hi => ?_) ?_)
  · obtain ⟨k, hk, e⟩ := List.mem_map.mp hi
    subst e
    have hk := List.mem_range.mp hk
    unfold m_first_misfit__l_l0
    obtain ⟨r, er, mr, _⟩ := atI_mem (xs := rows) (i := (k : Int)) (by omega) (by omega)
    have hr := h r mr
    refine bnd (x := false) ?_ rfl
    rw [decide_eq_false (show ¬ (rows.length : Int) ≤ (k : Int) by omega), if_neg (by decide)]
    refine bnd (x := false) (bnd er (by rw [decide_eq_true (show (r.l.length : Int) = (long : Int) by omega)]; rfl)) (bnd (x := false) ?_ rfl)
    rw [if_neg (by decide)]
    refine bnd er (bnd (mapO_some (g := fun x => (decide ((0 : Int) ≤ x)) && (decide (x < b))) fun x _ => rfl) ?_)
    rw [bound_ok hr.2]
    rfl
  · show ((if decide ((n : Int) < (rows.length : Int)) = true then _ else _) : Option (Option Int)).bind _ = _
    rw [decide_eq_false (show ¬ (n : Int) < (rows.length : Int) by omega)]
    rfl
structure RowsOk (rows : List (List Int)) (n m : Nat) : Prop where
  len : rows.length = n
  row : ∀ r ∈ rows, r.length = m ∧ ∀ x ∈ r, 0 ≤ x ∧ x < n
  set : ∀ r ∈ rows, ∀ (x : Nat) (g : Int), r[x]? = some g → ∃ r', rows[g.toNat]? = some r' ∧ r'[x]? = some g
theorem unsettled_ok {rows : List (List Int)} {n m : Nat} (R : RowsOk rows n m) : m_first_unsettled rows = some none := by
  unfold m_first_unsettled
  refine bnd (forO_go fun p hp => ?_) rfl
  obtain ⟨s, e1, e2⟩ := enumFrom_mem hp
  have mr := List.mem_of_getElem? e2
  unfold m_first_unsettled_l0
  refine bnd (mapO_some (g := fun _ => false) fun q hq => ?_) ?_
  · obtain ⟨x, f1, f2⟩ := enumFrom_mem hq
    obtain ⟨r', g1, g2⟩ := R.set p.2 mr x q.2 f2
    have hb := (R.row p.2 mr).2 q.2 (List.mem_of_getElem? f2)
    unfold m_first_unsettled_c1
    refine bnd (atI_of g1 (by omega)) (bnd (atI_of g2 f1) ?_)
    rw [decide_eq_true rfl]
    rfl
  · have : (List.map (fun (_ : Int × Int) => false) (enumFrom 0 p.2)).any id = false := by
      rw [List.any_map]
      exact List.any_eq_false.mpr fun _ _ => by simp
    rw [this]
    rfl
def mkT (keys states lamps : List Str) (rows : List (List Int)) (lights : List (Tup Int)) : C_Table := PI.mk (lights, rows, lamps, states, keys, ())
theorem table_ok {keys states lamps : List Str} {rows : List (List Int)} {lights : List (Tup Int)} (h1 : keys.length ≤ 2) (h2 : 2 ≤ states.length) (h3 : states.length ≤ 4) (h4 : lamps.length ≤ 2) (hg : ∀ w ∈ keys ++ states ++ lamps, Good w) (nd : (keys ++ states ++ lamps).Nodup)
    (R : RowsOk rows states.length (2 ^ keys.length)) (hl : lights.length = states.length) (hls : ∀ r ∈ lights, r.l.length = lamps.length ∧ ∀ x ∈ r.l, 0 ≤ x ∧ x < 2) : m_Table___init__ (PI.mk ()) keys states lamps rows lights = some ((), mkT keys states lamps rows lights) := by
  unfold m_Table___init__
  refine bnd (catL_ok (by omega)) (bnd (catL_ok (by rw [List.length_append]; omega)) (bnd (words_ok hg nd) (bnd (crowd_ok h1 h2 h3 h4) (bnd rfl ?_))))
  have es : shlO (1 : Int) (keys.length : Int) = some ((2 ^ keys.length : Nat) : Int) := by
    unfold shlO
    rw [if_pos ⟨by omega, by omega, by decide⟩]
    simp
  refine bnd es (bnd (misfit_r (by omega) R.len R.row) (bnd rfl (bnd (misfit_l (b := 2) (by omega) hl hls) (bnd rfl (bnd (unsettled_ok R) (bnd rfl (bnd (mapO_some (g := id) fun x _ => rfl) ?_)))))))
  rw [List.map_id]
  rfl
def TagsOk (tags : List (Tup Int)) (n : Nat) : Prop := ∀ t ∈ tags, t.l ∈ allBits n
def gt (rows : List (List Int)) (s x : Nat) : Nat := (((rows[s]?).getD [])[x]?.getD 0).toNat
def nm (tags : List (Tup Int)) (s : Nat) : Tup Int := (tags[s]?).getD ⟨[]⟩
theorem gt_ok {rows : List (List Int)} {n m s x : Nat} (R : RowsOk rows n m) (hs : s < n) (hx : x < m) : ∃ r, atI rows (s : Int) = some r ∧ atI r (x : Int) = some ((gt rows s x : Nat) : Int) ∧ gt rows s x < n := by
  have h1 : s < rows.length := by rw [R.len]; exact hs
  have e1 := List.getElem?_eq_getElem h1
  have hr := R.row _ (List.getElem_mem h1)
  have h2 : x < (rows[s]).length := by rw [hr.1]; exact hx
  have e2 := List.getElem?_eq_getElem h2
  have hb := hr.2 _ (List.getElem_mem h2)
  have hg : gt rows s x = (rows[s][x]).toNat := by
    unfold gt
    rw [e1]
    show ((rows[s])[x]?.getD 0).toNat = _
    rw [e2]
    rfl
  refine ⟨rows[s], atI_of e1 rfl, ?_, by rw [hg]; omega⟩
  rw [hg, show (((rows[s][x]).toNat : Nat) : Int) = rows[s][x] by omega]
  exact atI_of e2 rfl
theorem nm_ok {tags : List (Tup Int)} {n s : Nat} (T : TagsOk tags n) (hs : s < tags.length) : atI tags (s : Int) = some (nm tags s) ∧ (nm tags s).l ∈ allBits n := by
  have e := List.getElem?_eq_getElem hs
  unfold nm
  rw [e]
  exact ⟨atI_of e rfl, T _ (List.getElem_mem hs)⟩
theorem goes_ok {keys states lamps : List Str} {lights : List (Tup Int)} {rows : List (List Int)} {n m s x : Nat} (R : RowsOk rows n m) (hs : s < n) (hx : x < m) : m_Table_goes (mkT keys states lamps rows lights) (s : Int) (x : Int) = some ((gt rows s x : Nat) : Int) := by
  obtain ⟨r, e1, e2, _⟩ := gt_ok R hs hx
  unfold m_Table_goes
  exact bnd e1 (bnd e2 rfl)
/-! family 7: what is drawn -/
theorem digit_ok {l : List Int} {many : Int} (h : PotOk l) (h1 : 1 ≤ many) (h2 : many < 1000000) : ∃ p, m__law_digit l many = some p ∧ (0 ≤ p.1 ∧ p.1 < many) ∧ PotOk p.2 := by
  obtain ⟨a, b, rfl, ha, hb, hb2⟩ := h
  have e4 : ∀ x : Int, modO x 2147483563 = some (x % 2147483563) := fun x => if_pos (by decide)
  have e5 : ∀ x : Int, fdivO x 11 = some (x / 11) := fun x => if_pos (by decide)
  have e6 : ∀ x : Int, modO x many = some (x % many) := fun x => if_pos (by omega)
  have e7 : ∀ x : Int, fdivO x many = some (x / many) := fun x => if_pos (by omega)
  unfold m__law_digit
  by_cases h0 : 0 < a
  · refine ⟨(a % many, [a / many, b]), bnd (x := a) rfl ((if_pos (decide_eq_true h0)).trans (bnd (x := a) rfl (bnd (e6 a) (bnd (x := a) rfl (bnd (e7 a) (bnd (x := [a / many, b]) rfl rfl)))))), ⟨Int.emod_nonneg _ (by omega), Int.emod_lt_of_pos _ (by omega)⟩, a / many, b, rfl, Int.ediv_nonneg ha (by omega), hb, hb2⟩
  · have e1 : mulO b 39373 = some (b * 39373) := if_pos (.inr ⟨by decide, by decide⟩)
    have e2 : modO (b * 39373 + 20011) 2147483647 = some ((b * 39373 + 20011) % 2147483647) := if_pos (by decide)
    generalize hc : (b * 39373 + 20011) % 2147483647 = c at e2
    have c0 : 0 ≤ c := by omega
    have c1 : c < 2147483647 := by omega
    have e3 : mulO c c = some (c * c) := if_pos (.inl ⟨by omega, by omega⟩)
    exact ⟨_, bnd (x := a) rfl ((if_neg (by simpa using h0)).trans (bnd (x := b) rfl (bnd e1 (bnd e2 (bnd (x := [a, c]) rfl (bnd (x := c) rfl (bnd (x := c) rfl (bnd e3 (bnd (e4 _) (bnd (e5 _) (bnd (e6 _) rfl))))))))))), ⟨Int.emod_nonneg _ (by omega), Int.emod_lt_of_pos _ (by omega)⟩, a, c, rfl, ha, c0, by omega⟩
theorem pot_ok {ns : List Int} {k : Int} (h0 : 0 ≤ k) (h1 : k < 1000) : ∃ l, m__law_pot ⟨ns⟩ k = some l ∧ PotOk l := by
  have hm : ∀ a : Int, 0 ≤ a → a < 1000 → mulO a k = some (a * k) := fun a ha hb => if_pos (.inl ⟨by omega, by omega⟩)
  have hc : ∃ c, (( if (decide (k < (List.length (Scr.mk ns).l : Int))) = true then (atI (Scr.mk ns).l k).bind fun x7 => some (x7) else some (7 * k + 5) : Option Int)) = some c := by
    by_cases h : k < (ns.length : Int)
    · have : ∃ x, atI ns k = some x := by
        unfold atI L2.ixN
        rw [if_pos h0, if_pos h]
        exact ⟨_, List.getElem?_eq_getElem (by omega)⟩
      obtain ⟨x, hx⟩ := this
      exact ⟨x, (if_pos (decide_eq_true h)).trans (bnd hx rfl)⟩
    · exact ⟨7 * k + 5, if_neg (by simpa using h)⟩
  obtain ⟨c, hc⟩ := hc
  have e1 : modO (pyAbs c) 2147483587 = some (pyAbs c % 2147483587) := if_pos (by decide)
  unfold m__law_pot
  refine ⟨_, bnd (hm 7 (by decide) (by decide)) (bnd rfl (bnd hc (bnd e1 (bnd (hm 101 (by decide) (by decide)) rfl)))), _, _, rfl, ?_, ?_, ?_⟩
  · unfold pyMax
    split <;> omega
  · omega
  · omega
/-- a fold over 0, 1, .. -/
theorem foldR {τ : Type} {b : Int → τ → Option τ} {I : Nat → τ → Prop} {m : Nat} {s : τ} (h0 : I 0 s) (st : ∀ k < m, ∀ s, I k s → ∃ s', b (k : Int) s = some s' ∧ I (k + 1) s') : ∃ s', foldO b ((List.range m).map fun (i : Nat) => (i : Int)) s = some s' ∧ I m s' := by
  have key : ∀ (c k : Nat) (s : τ), k + c = m → I k s → ∃ s', foldO b ((List.range' k c).map fun (i : Nat) => (i : Int)) s = some s' ∧ I m s' := by
    intro c
    induction c with
    | zero => intro k s e h; exact ⟨s, rfl, by rw [← e]; exact h⟩
    | succ c ih =>
      intro k s e h
      obtain ⟨s1, e1, h1⟩ := st k (by omega) s h
      obtain ⟨s2, e2, h2⟩ := ih (k + 1) s1 (by omega) h1
      refine ⟨s2, ?_, h2⟩
      rw [List.range'_succ, List.map_cons]
      unfold foldO
      rw [e1]
      exact e2
  have := key m 0 s (by omega) h0
  rw [← List.range_eq_range'] at this
  exact this
def lastC (w : Str) : Nat := ((chars w).getLast?).getD 0
theorem words_mk {pot : List Int} {many : Nat} (hp : PotOk pot) (hm : many ≤ 20) : ∃ ws pot', m__law_words pot (many : Int) = some (ws, pot') ∧ PotOk pot' ∧ ws.length = many ∧ (∀ w ∈ ws, Good w) ∧ ws.Nodup := by
  unfold m__law_words
  obtain ⟨t, et, ht, hp⟩ := digit_ok (many := 26) hp (by decide) (by decide)
  have er := rangeO_eq (n := many) (by omega)
  obtain ⟨s, es, hs1, hs2, hs3, hs4⟩ := foldR (b := m__law_words_l0 t) (m := many) (s := (t.2, [])) (I := fun k s => PotOk s.1 ∧ s.2.length = k ∧ (∀ w ∈ s.2, Good w) ∧ s.2.map lastC = (List.range k).map fun j => 97 + (t.1.toNat + 11 * j) % 26) ⟨hp, rfl, (fun _ m => by cases m), rfl⟩ fun k hk s ⟨i1, i2, i3, i4⟩ => by
    unfold m__law_words_l0
    obtain ⟨d, ed, hd, hp2⟩ := digit_ok (many := 8) i1 (by decide) (by decide)
    obtain ⟨xs, ex, lx⟩ := rangeO_some (n := d.1) (by omega) (by omega)
    obtain ⟨b, eb, b1, b2, b3⟩ := foldO_ix (b := m__law_words_l1) (I := fun n s => (chars s.1).length = n ∧ (∀ c ∈ chars s.1, 97 ≤ c ∧ c ≤ 122) ∧ PotOk s.2) (N := 7) (xs := xs) (s := (Str.ofString "", d.2)) (n := 0) ⟨(by decide +kernel : (chars (Str.ofString "")).length = 0), (by decide +kernel : ∀ c ∈ chars (Str.ofString ""), 97 ≤ c ∧ c ≤ 122), hp2⟩ (by omega) fun x _ n s hn ⟨h1, h2, h3⟩ => by
      unfold m__law_words_l1
      obtain ⟨d, ed, hd, h3⟩ := digit_ok (many := 26) h3 (by decide) (by decide)
      have hc := abc_at (d := d.1.toNat) (by omega)
      refine ⟨_, bnd ed (bnd (ixS_ok hc (by omega) abc_len) (bnd (catS_ok (by rw [h1]; show n + 1 ≤ 1000000; omega)) rfl)), ?_, ?_, h3⟩
      · show (chars (_ ++ _)).length = _
        rw [chars_append, List.length_append, h1]
        rfl
      · intro c hc
        rw [chars_append] at hc
        rcases List.mem_append.mp hc with m | m
        · exact h2 c m
        · have : c = 97 + d.1.toNat := List.mem_singleton.mp m
          omega
    have e1 : mulO 11 (k : Int) = some (11 * (k : Int)) := if_pos (.inl ⟨by omega, by omega⟩)
    have e2 : modO (t.1 + 11 * (k : Int)) 26 = some ((t.1 + 11 * (k : Int)) % 26) := if_pos (by decide)
    have hlt : (t.1.toNat + 11 * k) % 26 < 26 := Nat.mod_lt _ (by decide)
    have e3 : ixS abc ((t.1 + 11 * (k : Int)) % 26) = some ⟨#[97 + (t.1.toNat + 11 * k) % 26]⟩ := ixS_ok (abc_at hlt) (by omega) abc_len
    have e4 : catS b.1 ⟨#[97 + (t.1.toNat + 11 * k) % 26]⟩ = some (b.1 ++ ⟨#[97 + (t.1.toNat + 11 * k) % 26]⟩) := catS_ok (by rw [b1]; show _ + 1 ≤ _; omega)
    have e5 : appO s.2 (b.1 ++ ⟨#[97 + (t.1.toNat + 11 * k) % 26]⟩) = some (s.2 ++ [b.1 ++ ⟨#[97 + (t.1.toNat + 11 * k) % 26]⟩]) := if_pos (by omega)
    refine ⟨(b.2, s.2 ++ [b.1 ++ ⟨#[97 + (t.1.toNat + 11 * k) % 26]⟩]), bnd ed (bnd ex (bnd eb (bnd e1 (bnd e2 (bnd e3 (bnd e4 (bnd e5 rfl))))))), b3, by rw [List.length_append, i2]; rfl, fun w m => ?_, ?_⟩
    · rcases List.mem_append.mp m with m | m
      · exact i3 w m
      · rw [List.mem_singleton.mp m]
        refine ⟨by rw [chars_append, List.length_append]; show 1 ≤ _ + 1; omega, by rw [chars_append, List.length_append, b1]; show _ + 1 ≤ 8; omega, fun c hc => ?_⟩
        rw [chars_append] at hc
        rcases List.mem_append.mp hc with m | m
        · exact b2 c m
        · have : c = 97 + (t.1.toNat + 11 * k) % 26 := List.mem_singleton.mp m
          omega
    · rw [List.map_append, i4, List.range_succ, List.map_append]
      have hl : lastC (b.1 ++ ⟨#[97 + (t.1.toNat + 11 * k) % 26]⟩) = 97 + (t.1.toNat + 11 * k) % 26 := by
        unfold lastC
        rw [chars_append]
        show ((chars b.1 ++ [97 + (t.1.toNat + 11 * k) % 26]).getLast?).getD 0 = _
        rw [List.getLast?_append]
        rfl
      rw [List.map_cons, List.map_nil, hl]
      rfl
  have nd : s.2.Nodup := by
    have h1 : (s.2.map lastC).Nodup := by
      rw [hs4]
      exact List.pairwise_map.mpr (List.Pairwise.imp_of_mem (fun {a b} ma mb hab e => by
        have := List.mem_range.mp ma
        have := List.mem_range.mp mb
        omega) List.pairwise_lt_range)
    exact List.Pairwise.of_map lastC (fun a b h e => h (by rw [e])) h1
  exact ⟨s.2, s.1, bnd et (bnd er (bnd es rfl)), hs1, hs2, hs3, nd⟩

/-! rows -/
theorem compS_inv {α τ : Type} {I : τ → Prop} {f : α → τ → Option (Option α × τ)} {x0 : α} : ∀ {xs : List α} {s : τ}, I s → (∀ x ∈ xs, ∀ s, I s → ∃ p, f x s = some p ∧ (p.1 = none ∨ p.1 = some x) ∧ (x = x0 → p.1 = some x) ∧ I p.2) →
    ∃ q, compS f xs s = some q ∧ (∀ z ∈ q.1, z ∈ xs) ∧ (x0 ∈ xs → x0 ∈ q.1) ∧ q.1.length ≤ xs.length ∧ I q.2
  | [], s, h, _ => ⟨([], s), rfl, fun _ m => m, fun m => m, Nat.le_refl _, h⟩
  | x :: xs, s, h, k => by
    obtain ⟨p, ep, h1, h2, h3⟩ := k x (List.mem_cons_self ..) s h
    obtain ⟨q, eq, g1, g2, g3, g4⟩ := compS_inv (x0 := x0) h3 fun y m => k y (List.mem_cons_of_mem _ m)
    refine ⟨(p.1.toList ++ q.1, q.2), by unfold compS; exact bnd ep (bnd eq rfl), fun z m => ?_, fun m => ?_, ?_, g4⟩
    · rcases List.mem_append.mp m with m | m
      · rcases h1 with e | e
        · rw [e] at m; cases m
        · rw [e] at m
          rw [List.mem_singleton.mp m]
          exact List.mem_cons_self ..
      · exact List.mem_cons_of_mem _ (g1 z m)
    · rcases List.mem_cons.mp m with e | m
      · have := h2 e.symm
        rw [this, ← e]
        exact List.mem_append_left _ (List.mem_singleton.mpr rfl)
      · exact List.mem_append_right _ (g2 m)
    · rw [List.length_append, List.length_cons]
      rcases h1 with e | e <;> rw [e] <;> simp <;> omega
theorem inO_i {x : Int} {xs : List Int} : inO x xs = some (xs.any fun z => decide (z = x)) := inO_t _ _
theorem any_i {xs : List Int} {x : Int} : (xs.any fun z => decide (z = x)) = true ↔ x ∈ xs := by
  rw [List.any_eq_true]
  exact ⟨fun ⟨z, m, e⟩ => by rw [← of_decide_eq_true e]; exact m, fun m => ⟨x, m, decide_eq_true rfl⟩⟩
theorem set_get {α : Type} {l : List α} {k i : Nat} {x : α} (hk : k < l.length) : (l.set k x)[i]? = if i = k then some x else l[i]? := by
  by_cases h : i = k
  · subst h
    rw [if_pos rfl, List.getElem?_set_self hk]
  · rw [if_neg h, List.getElem?_set_ne (fun e => h e.symm)]
theorem rows_mk {pot : List Int} {n m : Nat} (hp : PotOk pot) (hn : n = 2 ∨ n = 3 ∨ n = 4) (hm : m ≤ 4) : ∃ rows pot', m__law_rows pot (n : Int) (m : Int) = some (rows, pot') ∧ PotOk pot' ∧ RowsOk rows n m := by
  unfold m__law_rows
  have ern := rangeO_eq (n := n) (by omega)
  have erm := rangeO_eq (n := m) (by omega)
  have e0 : mapO m__law_rows_c0 ((List.range n).map fun (i : Nat) => (i : Int)) = some (((List.range n).map fun (i : Nat) => (i : Int)).map fun _ => []) := mapO_some fun _ _ => rfl
  have R0 : RowsOk (((List.range n).map fun (i : Nat) => (i : Int)).map fun _ => []) n 0 := by
    refine ⟨by simp, fun r hr => ?_, fun r hr x g hg => ?_⟩
    · obtain ⟨_, _, e⟩ := List.mem_map.mp hr
      rw [← e]
      exact ⟨rfl, fun _ m => by cases m⟩
    · obtain ⟨_, _, e⟩ := List.mem_map.mp hr
      rw [← e] at hg
      cases hg
  obtain ⟨s, es, hs1, hs2⟩ := foldR (b := m__law_rows_l1 (n : Int)) (m := m) (I := fun x s => PotOk s.1 ∧ RowsOk s.2 n x) (s := (pot, _)) ⟨hp, R0⟩ fun x hx s ⟨i1, R⟩ => by
    unfold m__law_rows_l1
    obtain ⟨d, ed, hd, hp1⟩ := digit_ok (many := (n : Int)) i1 (by omega) (by omega)
    obtain ⟨q, eq, q1, q2, q3, hp2⟩ := compS_inv (I := PotOk) (f := m__law_rows_c2 d) (x0 := d.1) (xs := (List.range n).map fun (i : Nat) => (i : Int)) hp1 fun y _ s hs => by
      unfold m__law_rows_c2
      obtain ⟨e, ee, he, hs⟩ := digit_ok (many := 2) hs (by decide) (by decide)
      by_cases h : e.1 = 1
      · exact ⟨(some y, e.2), bnd (x := (true, e.2)) (bnd ee (if_pos (decide_eq_true h))) rfl, .inr rfl, fun _ => rfl, hs⟩
      · by_cases h2 : y = d.1
        · exact ⟨(some y, e.2), bnd (x := (true, e.2)) (bnd ee ((if_neg (by rw [decide_eq_false h]; decide)).trans (by rw [decide_eq_true h2]))) rfl, .inr rfl, fun _ => rfl, hs⟩
        · exact ⟨(none, e.2), bnd (x := (false, e.2)) (bnd ee ((if_neg (by rw [decide_eq_false h]; decide)).trans (by rw [decide_eq_false h2]))) rfl, .inl rfl, fun e => absurd e h2, hs⟩
    have hd1 : d.1 ∈ q.1 := q2 (List.mem_map.mpr ⟨d.1.toNat, List.mem_range.mpr (by omega), by omega⟩)
    have hql : q.1.length ≤ n := by rw [List.length_map, List.length_range] at q3; exact q3
    have hq0 : 0 < q.1.length := List.length_pos_of_mem hd1
    have hst : ∀ z ∈ q.1, 0 ≤ z ∧ z < n := fun z m => by
      obtain ⟨i, hi, e⟩ := List.mem_map.mp (q1 z m)
      have := List.mem_range.mp hi
      omega
    obtain ⟨u, eu, hu1, hu2, c, hc, hu3⟩ := foldR (b := m__law_rows_l3 q) (m := n) (I := fun k u => PotOk u.1 ∧ u.2.length = n ∧ ∃ c : Nat → Int, (∀ i < k, c i ∈ q.1 ∧ ((i : Int) ∈ q.1 → c i = i)) ∧ ∀ i < n, u.2[i]? = (s.2[i]?).map fun r => if i < k then r ++ [c i] else r) (s := (q.2, s.2)) ⟨hp2, R.len, fun _ => 0, (fun i h => absurd h (Nat.not_lt_zero _)), fun i hi => by
      cases s.2[i]? <;> rfl⟩ fun k hk u ⟨j1, j2, c, j3, j4⟩ => by
      unfold m__law_rows_l3
      obtain ⟨e, ee, he, hp3⟩ := digit_ok (many := (q.1.length : Int)) j1 (by omega) (by omega)
      obtain ⟨y, ey, my, _⟩ := atI_mem (xs := q.1) he.1 he.2
      have hks : k < s.2.length := by rw [R.len]; exact hk
      have hr := List.getElem?_eq_getElem hks
      have hrl := (R.row _ (List.getElem_mem hks)).1
      have hu : u.2[k]? = some (s.2[k]) := by
        rw [j4 k hk, hr]
        show some (if k < k then _ else _) = _
        rw [if_neg (Nat.lt_irrefl _)]
      have e1 : atI u.2 (k : Int) = some (s.2[k]) := atI_of hu rfl
      have hcell : ∃ z, atI ([y, (k : Int)] : List Int) (b2z (q.1.any fun z => decide (z = (k : Int)))) = some z ∧ z ∈ q.1 ∧ ((k : Int) ∈ q.1 → z = k) := by
        by_cases h : (k : Int) ∈ q.1
        · rw [any_i.mpr h]
          exact ⟨k, rfl, h, fun _ => rfl⟩
        · cases hq : (q.1.any fun z => decide (z = (k : Int))) with
          | true => exact absurd (any_i.mp hq) h
          | false => exact ⟨y, rfl, my, fun h2 => absurd h2 h⟩
      obtain ⟨z, ez, mz, hz⟩ := hcell
      have e2 : appO (s.2[k]) z = some (s.2[k] ++ [z]) := if_pos (by omega)
      have e3 : setL u.2 (k : Int) (s.2[k] ++ [z]) = some (u.2.set k (s.2[k] ++ [z])) := setL_some (by omega) (by omega)
      refine ⟨(e.2, u.2.set k (s.2[k] ++ [z])), bnd ee (bnd ey (bnd e1 (bnd inO_i (bnd ez (bnd e2 (bnd e3 rfl)))))), hp3, by rw [List.length_set]; exact j2, fun i => if i = k then z else c i, fun i hi => ?_, fun i hi => ?_⟩
      · show (if i = k then z else c i) ∈ q.1 ∧ (_ → (if i = k then z else c i) = _)
        by_cases h : i = k
        · rw [if_pos h, h]; exact ⟨mz, hz⟩
        · rw [if_neg h]; exact j3 i (by omega)
      · rw [set_get (by omega)]
        by_cases h : i = k
        · rw [if_pos h, h, hr]
          show _ = some (if k < k + 1 then s.2[k] ++ [if k = k then z else c k] else _)
          rw [if_pos (Nat.lt_succ_self _), if_pos rfl]
        · rw [if_neg h, j4 i hi]
          refine congrArg (fun f => Option.map f s.2[i]?) (funext fun r => ?_)
          show (if i < k then r ++ [c i] else r) = if i < k + 1 then r ++ [if i = k then z else c i] else r
          rw [if_neg h]
          by_cases h2 : i < k
          · rw [if_pos h2, if_pos (by omega)]
          · rw [if_neg h2, if_neg (by omega)]
    have hget : ∀ i < n, ∀ r, u.2[i]? = some r → ∃ r0, s.2[i]? = some r0 ∧ r = r0 ++ [c i] := fun i hi r h => by
      rw [hu3 i hi] at h
      cases hs : s.2[i]? with
      | none => rw [hs] at h; cases h
      | some r0 =>
        rw [hs] at h
        have h : some (if i < n then r0 ++ [c i] else r0) = some r := h
        rw [if_pos hi] at h
        exact ⟨r0, rfl, (Option.some.inj h).symm⟩
    refine ⟨u, bnd ed (bnd ern (bnd eq (bnd ern (bnd eu rfl)))), hu1, hu2, fun r hr => ?_, fun r hr y g hg => ?_⟩
    · obtain ⟨i, hi⟩ := List.mem_iff_getElem?.mp hr
      have hin : i < n := by rw [← hu2]; exact (List.getElem?_eq_some_iff.mp hi).1
      obtain ⟨r0, h0, rfl⟩ := hget i hin r hi
      have := R.row r0 (List.mem_of_getElem? h0)
      refine ⟨by rw [List.length_append, this.1]; rfl, fun z mz => ?_⟩
      rcases List.mem_append.mp mz with mz | mz
      · exact this.2 z mz
      · rw [List.mem_singleton.mp mz]
        exact hst _ (hc i hin).1
    · obtain ⟨i, hi⟩ := List.mem_iff_getElem?.mp hr
      have hin : i < n := by rw [← hu2]; exact (List.getElem?_eq_some_iff.mp hi).1
      obtain ⟨r0, h0, rfl⟩ := hget i hin r hi
      have hl0 := (R.row r0 (List.mem_of_getElem? h0)).1
      have up : ∀ j r', s.2[j]? = some r' → u.2[j]? = some (r' ++ [c j]) := fun j r' h => by
        have hj : j < n := by rw [← R.len]; exact (List.getElem?_eq_some_iff.mp h).1
        rw [hu3 j hj, h]
        show some (if j < n then _ else _) = _
        rw [if_pos hj]
      by_cases hy : y < x
      · rw [List.getElem?_append_left (by omega)] at hg
        obtain ⟨r', g1, g2⟩ := R.set r0 (List.mem_of_getElem? h0) y g hg
        refine ⟨r' ++ [c g.toNat], up _ _ g1, ?_⟩
        have hl1 := (R.row r' (List.mem_of_getElem? g1)).1
        rw [List.getElem?_append_left (by omega)]
        exact g2
      · have hyx : y = x := by
          have := (List.getElem?_eq_some_iff.mp hg).1
          rw [List.length_append, hl0] at this
          have : y < x + 1 := this
          omega
        subst hyx
        rw [List.getElem?_append_right (by omega), hl0, Nat.sub_self] at hg
        have e : c i = g := by simpa using hg
        have hgm : g ∈ q.1 := by rw [← e]; exact (hc i hin).1
        have hgb := hst g hgm
        have hgl : g.toNat < s.2.length := by rw [R.len]; omega
        refine ⟨_, up g.toNat _ (List.getElem?_eq_getElem hgl), ?_⟩
        have hl1 := (R.row _ (List.getElem_mem hgl)).1
        rw [List.getElem?_append_right (by omega), hl1, Nat.sub_self]
        have := (hc g.toNat (by omega)).2 (by rw [show ((g.toNat : Nat) : Int) = g by omega]; exact hgm)
        show some (c g.toNat) = some g
        rw [this]
        exact congrArg some (by omega)
  exact ⟨s.2, s.1, bnd ern (bnd e0 (bnd erm (bnd es rfl))), hs1, hs2⟩

/-! all that is drawn -/
theorem cut_take {α : Type} {l : List α} {k : Nat} (h : k ≤ l.length) : cutL l none (some (k : Int)) = l.take k := by
  unfold cutL
  rw [HT.sIx_none, sIx_nat h, List.drop_zero, Nat.sub_zero]
theorem sIx_nat0 {n k : Nat} (h : k ≤ n) : HT.sIx n 0 (some (k : Int)) = k := by
  unfold HT.sIx
  simp
  rw [if_neg (by omega)]
  omega
theorem cut_drop {α : Type} {l : List α} {k : Nat} (h : k ≤ l.length) : cutL l (some (k : Int)) none = l.drop k := by
  unfold cutL
  rw [sIx_nat0 h]
  show (l.drop k).take (l.length - k) = l.drop k
  rw [List.take_of_length_le (by rw [List.length_drop]; omega)]
structure Told (keys states lamps : List Str) (rows : List (List Int)) (lights : List (Tup Int)) (n m : Nat) : Prop where
  n4 : n = 2 ∨ n = 3 ∨ n = 4
  st : states.length = n
  kl : keys.length ≤ 2
  hm : m = 2 ^ keys.length
  ro : RowsOk rows n m
  tb : m_Table___init__ (PI.mk ()) keys states lamps rows lights = some ((), mkT keys states lamps rows lights)
theorem told_mk {pot : List Int} (hp : PotOk pot) : ∃ keys states lamps rows lights pot' n m, m__law_told pot = some (HT.mk (keys, states, lamps, rows, lights, ()), pot') ∧ PotOk pot' ∧ Told keys states lamps rows lights n m := by
  unfold m__law_told
  obtain ⟨a, ea, ha, hp⟩ := digit_ok (many := 3) hp (by decide) (by decide)
  obtain ⟨b, eb, hb, hp⟩ := digit_ok (many := 3) hp (by decide) (by decide)
  obtain ⟨c, ec, hc, hp⟩ := digit_ok (many := 3) hp (by decide) (by decide)
  obtain ⟨k, hk, hk2⟩ : ∃ k : Nat, (k : Int) = a.1 ∧ k ≤ 2 := ⟨a.1.toNat, by omega, by omega⟩
  obtain ⟨n, hn, hn4⟩ : ∃ n : Nat, (n : Int) = 2 + b.1 ∧ (n = 2 ∨ n = 3 ∨ n = 4) := ⟨(2 + b.1).toNat, by omega, by omega⟩
  obtain ⟨l, hl, hl2⟩ : ∃ l : Nat, (l : Int) = c.1 ∧ l ≤ 2 := ⟨c.1.toNat, by omega, by omega⟩
  have h2k : (2 : Nat) ^ k ≤ 2 ^ 2 := Nat.pow_le_pow_right (by decide) hk2
  obtain ⟨ws, pot1, ew, hp, wl, wg, wn⟩ := words_mk (many := k + n + l) hp (by omega)
  obtain ⟨rows, pot2, er, hp, R⟩ := rows_mk (n := n) (m := 2 ^ k) hp hn4 (by omega)
  have esz : ∀ x y z : Int, atI [x, y, z] (0 : Int) = some x ∧ atI [x, y, z] (1 : Int) = some y ∧ atI [x, y, z] (2 : Int) = some z := fun x y z => ⟨rfl, rfl, rfl⟩
  have e124 : atI [(1 : Int), 2, 4] a.1 = some ((2 ^ k : Nat) : Int) := by
    rw [← hk]
    rcases (show k = 0 ∨ k = 1 ∨ k = 2 by omega) with e | e | e <;> subst e <;> rfl
  obtain ⟨xs, ex, lx⟩ := rangeO_some (n := 2 + b.1) (by omega) (by omega)
  obtain ⟨y, ey, y1, y2, y3⟩ := foldO_ix (b := m__law_told_l0 a b c) (I := fun i s => s.1.length = i ∧ (∀ r ∈ s.1, r.l.length = l ∧ ∀ x ∈ r.l, 0 ≤ x ∧ x < 2) ∧ PotOk s.2) (N := 4) (xs := xs) (s := ([], pot2)) (n := 0) ⟨rfl, (fun _ m => by cases m), hp⟩ (by omega) fun x _ i s hi ⟨h1, h2, h3⟩ => by
    unfold m__law_told_l0
    obtain ⟨zs, ez, lz⟩ := rangeO_some (n := c.1) (by omega) (by omega)
    obtain ⟨z, ez2, lz2, hz, hs⟩ := mapS_inv (f := m__law_told_c1) (I := PotOk) (P := fun x => 0 ≤ x ∧ x < 2) (xs := zs) h3 fun x _ s hs => by
      obtain ⟨d, ed, hd, hs⟩ := digit_ok (many := 2) hs (by decide) (by decide)
      exact ⟨(d.1, d.2), by unfold m__law_told_c1; exact bnd ed rfl, hd, hs⟩
    have e5 : appO s.1 (Tup.mk z.1) = some (s.1 ++ [Tup.mk z.1]) := if_pos (by omega)
    refine ⟨(s.1 ++ [Tup.mk z.1], z.2), bnd (esz _ _ _).2.2 (bnd ez (bnd ez2 (bnd e5 rfl))), by rw [List.length_append, h1, List.length_singleton], fun r hr => ?_, hs⟩
    rcases List.mem_append.mp hr with m | m
    · exact h2 r m
    · rw [List.mem_singleton.mp m]
      exact ⟨by show z.1.length = l; omega, hz⟩
  have hkk : (ws.take k).length = k := by rw [List.length_take]; omega
  have hss : ((ws.drop k).take n).length = n := by rw [List.length_take, List.length_drop]; omega
  have hll : ((ws.drop k).drop n).length = l := by rw [List.length_drop, List.length_drop]; omega
  have eW : ws.take k ++ (ws.drop k).take n ++ (ws.drop k).drop n = ws := by rw [List.append_assoc, List.take_append_drop, List.take_append_drop]
  have hT := table_ok (keys := ws.take k) (states := (ws.drop k).take n) (lamps := (ws.drop k).drop n) (rows := rows) (lights := y.1) (by omega) (by omega) (by omega) (by omega) (by rw [eW]; exact wg) (by rw [eW]; exact wn) (by
    rw [hss, hkk]; exact R) (by omega) (by rw [hll]; exact y2)
  refine ⟨ws.take k, (ws.drop k).take n, (ws.drop k).drop n, rows, y.1, y.2, n, 2 ^ k, ?_, y3, hn4, hss, by omega, by rw [hkk], R, hT⟩
  have esum : List.sum [a.1, 2 + b.1, c.1] = ((k + n + l : Nat) : Int) := by
    simp only [List.sum_cons, List.sum_nil]
    omega
  refine bnd ea (bnd eb (bnd ec (bnd (x := (ws, pot1)) (by rw [esum]; exact ew) (bnd (esz _ _ _).2.1 (bnd (esz _ _ _).1 (bnd e124 (bnd (x := (rows, pot2)) (by rw [← hn]; exact er) (bnd (esz _ _ _).2.1 (bnd ex (bnd ey (bnd (esz _ _ _).1 (bnd (esz _ _ _).1 (bnd (esz _ _ _).2.1 (bnd (esz _ _ _).2.1 ?_))))))))))))))
  show some (HT.mk (cutL ws none (some a.1), cutL (cutL ws (some a.1) none) none (some (2 + b.1)), cutL (cutL ws (some a.1) none) (some (2 + b.1)) none, rows, y.1, ()), y.2) = _
  rw [← hk, ← hn, cut_take (by omega), cut_drop (by omega), cut_take (by rw [List.length_drop]; omega), cut_drop (by rw [List.length_drop]; omega)]
end W

set_option Elab.async false
set_option linter.all false
set_option maxRecDepth 100000
set_option maxHeartbeats 4000000
set_option synthInstance.maxHeartbeats 400000
set_option synthInstance.maxSize 2000
namespace W
open PySem L2 G
/-! k72 -/
def hn (n : Nat) : List (Tup Int) := ([⟨[0, 0, 0]⟩, ⟨[0, 1, 1]⟩, ⟨[1, 0, 1]⟩, ⟨[1, 1, 0]⟩] : List (Tup Int)).take n
/-- two pairs of states with nothing in common -/
def Dis (s t u v : Nat) : Bool := !(decide (s = u)) && !(decide (s = v)) && !(decide (t = u)) && !(decide (t = v))
def pr (s t : Nat) : Tup Int := ⟨[(s : Int), (t : Int)]⟩
def chk (n s t u v : Nat) : Bool :=
  decide (m__law_parts (hn n) (pr s t) (pr u v) = some true) && decide (m__law_is_met (hn n) (pr s t) (pr u v) = some false) && decide (m_are_parted (hn n) (pr s t) (pr u v) = some true) &&
  decide (((atI (hn n) (s : Int)).bind fun x6 => (atI (hn n) (t : Int)).bind fun x8 => (m_span x6 x8).bind fun r9 => (atI (hn n) (u : Int)).bind fun x12 => (atI (hn n) (v : Int)).bind fun x14 => (m_span x12 x14).bind fun r15 => (m_first_common r9 r15).bind fun r17 => some r17) = some none)
def chkAll (n : Nat) : Bool := (List.range n).all fun s => (List.range n).all fun t => (List.range n).all fun u => (List.range n).all fun v => !(Dis s t u v) || chk n s t u v
theorem chk2 : chkAll 2 = true := by decide +kernel
theorem chk3 : chkAll 3 = true := by decide +kernel
theorem chk4 : chkAll 4 = true := by decide +kernel
theorem chk_ok {n s t u v : Nat} (hn4 : n = 2 ∨ n = 3 ∨ n = 4) (hs : s < n) (ht : t < n) (hu : u < n) (hv : v < n) (h : Dis s t u v = true) : chk n s t u v = true := by
  have hc : chkAll n = true := by
    rcases hn4 with e | e | e <;> subst e
    · exact chk2
    · exact chk3
    · exact chk4
  have := List.all_eq_true.mp (List.all_eq_true.mp (List.all_eq_true.mp (List.all_eq_true.mp hc s (List.mem_range.mpr hs)) t (List.mem_range.mpr ht)) u (List.mem_range.mpr hu)) v (List.mem_range.mpr hv)
  rw [h] at this
  exact this
theorem gt_set {rows : List (List Int)} {n m s x : Nat} (R : RowsOk rows n m) (hs : s < n) (hx : x < m) : gt rows (gt rows s x) x = gt rows s x := by
  have hl : s < rows.length := by rw [R.len]; exact hs
  have hr : rows[s]? = some (rows[s]) := List.getElem?_eq_getElem hl
  have hrl := (R.row _ (List.getElem_mem hl)).1
  have hxl : x < (rows[s]).length := by omega
  have hv := (R.row _ (List.getElem_mem hl)).2 _ (List.getElem_mem hxl)
  have e : gt rows s x = ((rows[s])[x]).toNat := by
    unfold gt
    rw [hr]
    show (((rows[s])[x]?).getD 0).toNat = _
    rw [List.getElem?_eq_getElem hxl]
    rfl
  obtain ⟨r', b1, b2⟩ := R.set _ (List.getElem_mem hl) x _ (List.getElem?_eq_getElem hxl)
  rw [e]
  unfold gt
  rw [b1]
  show ((r'[x]?).getD 0).toNat = _
  rw [b2]
  rfl
theorem dis_rows {rows : List (List Int)} {n m s u x : Nat} (R : RowsOk rows n m) (hs : s < n) (hu : u < n) (hx : x < m) (hne : s ≠ u) (h : gt rows s x ≠ gt rows u x) : Dis s (gt rows s x) u (gt rows u x) = true := by
  have h1 := gt_set R hs hx
  have h2 := gt_set R hu hx
  have k1 : s ≠ gt rows u x := fun e => h (by conv => lhs; rw [e, h2])
  have k2 : gt rows s x ≠ u := fun e => h (by conv => rhs; rw [← e, h1])
  unfold Dis
  rw [decide_eq_false hne, decide_eq_false k1, decide_eq_false k2, decide_eq_false h]
  rfl
theorem dis_same {s u : Nat} (h : s ≠ u) : Dis s s u u = true := by
  unfold Dis
  rw [decide_eq_false h]
  rfl
theorem names_c {n : Nat} (hn4 : n = 2 ∨ n = 3 ∨ n = 4) : m_want_names (n : Int) (hn n) = some ((), hn n) ∧ m__law_are_names (hn n) (n : Int) = some true ∧ (reprO (hn n)).isSome = true := by
  rcases hn4 with e | e | e <;> subst e <;> refine ⟨by decide +kernel, by decide +kernel, by decide +kernel⟩
theorem goes_eq {keys states lamps : List Str} {lights : List (Tup Int)} {rows : List (List Int)} {n m s x : Nat} (R : RowsOk rows n m) (hs : s < n) (hx : x < m) : m_Table_goes (mkT keys states lamps rows lights) (s : Int) (x : Int) = some ((gt rows s x : Nat) : Int) := goes_ok R hs hx
theorem race_none {keys states lamps : List Str} {lights : List (Tup Int)} {rows : List (List Int)} {n m x s u : Nat} (hn4 : n = 2 ∨ n = 3 ∨ n = 4) (R : RowsOk rows n m) (hx : x < m) (hs : s < n) (hu : u < n) (hne : s ≠ u) :
    m_race_at (mkT keys states lamps rows lights) (hn n) (x : Int) (s : Int) (u : Int) = some (none, hn n) := by
  unfold m_race_at
  refine bnd (goes_eq R hs hx) (bnd (goes_eq R hu hx) ?_)
  obtain ⟨_, _, _, g1⟩ := gt_ok R hs hx
  obtain ⟨_, _, _, g2⟩ := gt_ok R hu hx
  by_cases h : gt rows s x = gt rows u x
  · rw [if_pos (decide_eq_true (by rw [h]))]
  · rw [if_neg (by rw [decide_eq_false (fun e => h (by omega))]; decide)]
    have hc := chk_ok hn4 hs g1 hu g2 (dis_rows R hs hu hx hne h)
    unfold chk at hc
    rw [Bool.and_eq_true] at hc
    have := of_decide_eq_true hc.2
    obtain ⟨a, ea, this⟩ := ob this
    obtain ⟨b, eb, this⟩ := ob this
    obtain ⟨c, ec, this⟩ := ob this
    obtain ⟨d, ed, this⟩ := ob this
    obtain ⟨e, ee, this⟩ := ob this
    obtain ⟨f, ef, this⟩ := ob this
    obtain ⟨g, eg, this⟩ := ob this
    cases this
    exact bnd ea (bnd eb (bnd ec (bnd ed (bnd ee (bnd ef (bnd eg rfl))))))
theorem foldR2 {τ : Type} {b : Int → τ → Option τ} {s : τ} {xs : List Int} (h : ∀ x ∈ xs, b x s = some s) : foldO b xs s = some s := by
  induction xs with
  | nil => rfl
  | cons x xs ih =>
    unfold foldO
    rw [h x (List.mem_cons_self ..)]
    exact ih fun y m => h y (List.mem_cons_of_mem _ m)
theorem letters_ok {keys states lamps : List Str} {lights : List (Tup Int)} {rows : List (List Int)} {m : Nat} (hkl : keys.length ≤ 2) (hm : m = 2 ^ keys.length) : m_Table_letters (mkT keys states lamps rows lights) = some (m : Int) := by
  unfold m_Table_letters
  refine bnd (x := (m : Int)) ?_ rfl
  show shlO (1 : Int) (keys.length : Int) = _
  unfold shlO
  rw [if_pos ⟨by omega, by omega, by decide⟩, hm]
  simp
theorem races_none {keys states lamps : List Str} {lights : List (Tup Int)} {rows : List (List Int)} {n m : Nat} (T : Told keys states lamps rows lights n m) : m_races (mkT keys states lamps rows lights) (hn n) = some ([], hn n) := by
  have hm4 : m ≤ 4 := by
    rw [T.hm]
    exact Nat.pow_le_pow_right (by decide) T.kl
  have hn4 := T.n4
  unfold m_races
  refine bnd (x := states) rfl (bnd (x := (n : Int)) (by rw [T.st]) (bnd (names_c hn4).1 (bnd (letters_ok T.kl T.hm) (bnd (rangeO_eq (by omega)) (bnd (x := (hn n, [])) (foldR2 fun x mx => ?_) rfl)))))
  obtain ⟨x, hx, e⟩ := List.mem_map.mp mx
  have hx := List.mem_range.mp hx
  subst e
  unfold m_races_l0
  refine bnd (rangeO_eq (by omega)) (bnd (x := (hn n, [])) (foldR2 fun s ms => ?_) rfl)
  obtain ⟨s, hs, e⟩ := List.mem_map.mp ms
  have hs := List.mem_range.mp hs
  subst e
  unfold m_races_l1
  refine bnd (show rangeO2 ((s : Int) + 1) (n : Int) = _ from rangeO2_eq (lo := s + 1) (by omega) (by omega)) (bnd (x := (hn n, [])) (foldR2 fun u mu => ?_) rfl)
  obtain ⟨u, hu, e⟩ := List.mem_map.mp mu
  have hu := List.mem_range'_1.mp hu
  subst e
  unfold m_races_l2
  exact bnd (race_none hn4 T.ro hx hs (by omega) (by omega)) (bnd (x := []) rfl rfl)
/-! the pairs -/
def GoodP (n : Nat) (p : Tup (Tup Int)) : Prop := ∃ s t u v : Nat, s < n ∧ t < n ∧ u < n ∧ v < n ∧ Dis s t u v = true ∧ p = ⟨[pr s t, pr u v]⟩
theorem unlike_ok {n : Nat} (hn4 : n ≤ 4) {f : Nat → Nat} (hf : ∀ s < n, f s < n) (hd : ∀ s < n, ∀ u < n, s ≠ u → f s ≠ f u → Dis s (f s) u (f u) = true) :
    ∃ L, m_unlike_ones ((List.range n).map fun s => pr s (f s)) = some L ∧ L.length ≤ 16 ∧ ∀ p ∈ L, GoodP n p := by
  unfold m_unlike_ones
  have hlen : ((List.range n).map fun s => pr s (f s)).length = n := by rw [List.length_map, List.length_range]
  have hget : ∀ {i : Nat} {o : Tup Int}, ((List.range n).map fun s => pr s (f s))[i]? = some o → i < n ∧ o = pr i (f i) := fun {i o} h => by
    have hi : i < n := by rw [← hlen]; exact (List.getElem?_eq_some_iff.mp h).1
    rw [List.getElem?_map, List.getElem?_range hi] at h
    exact ⟨hi, (Option.some.inj h).symm⟩
  obtain ⟨s, es, h1, h2⟩ := foldO_ix (b := m_unlike_ones_l0 ((List.range n).map fun s => pr s (f s))) (I := fun i (s : List (Tup (Tup Int))) => s.length ≤ 4 * i ∧ ∀ p ∈ s, GoodP n p) (N := 4) (xs := enumFrom 0 ((List.range n).map fun s => pr s (f s))) (s := []) (n := 0) ⟨Nat.le_refl _, fun _ m => by cases m⟩ (by rw [enumFrom_len, hlen]; omega) fun x mx i s hi ⟨h1, h2⟩ => by
    obtain ⟨k, e1, e2⟩ := enumFrom_mem mx
    obtain ⟨hk, e3⟩ := hget e2
    unfold m_unlike_ones_l0
    have hcut : cutL ((List.range n).map fun s => pr s (f s)) (some (x.1 + 1)) none = ((List.range n).map fun s => pr s (f s)).drop (k + 1) := by
      rw [e1, show ((k : Int) + 1) = ((k + 1 : Nat) : Int) by omega]
      exact cut_drop (by omega)
    rw [hcut]
    have hmem : ∀ o ∈ ((List.range n).map fun s => pr s (f s)).drop (k + 1), ∃ u, k < u ∧ u < n ∧ o = pr u (f u) := fun o mo => by
      obtain ⟨j, hj⟩ := List.mem_iff_getElem?.mp mo
      rw [List.getElem?_drop] at hj
      obtain ⟨h1, h2⟩ := hget hj
      exact ⟨k + 1 + j, by omega, h1, h2⟩
    have eS := selO_eq (p := m_unlike_ones_c1_p x) (f := m_unlike_ones_c1 x) (p' := fun o => !(decide ((atI x.2.l 1) = (atI o.l 1)))) (f' := fun o => (⟨[x.2, o]⟩ : Tup (Tup Int))) (xs := ((List.range n).map fun s => pr s (f s)).drop (k + 1)) (fun o mo => by
      obtain ⟨u, _, _, e⟩ := hmem o mo
      unfold m_unlike_ones_c1_p
      rw [e3, e]
      refine bnd (x := ((f k : Nat) : Int)) rfl (bnd (x := ((f u : Nat) : Int)) rfl ?_)
      show some (!decide (((f k : Nat) : Int) = ((f u : Nat) : Int))) = some (!decide (some ((f k : Nat) : Int) = some ((f u : Nat) : Int)))
      by_cases h : ((f k : Nat) : Int) = ((f u : Nat) : Int)
      · rw [decide_eq_true h, decide_eq_true (congrArg some h)]
      · rw [decide_eq_false h, decide_eq_false (fun e => h (Option.some.inj e))]) fun o mo _ => rfl
    have hll : ((((List.range n).map fun s => pr s (f s)).drop (k + 1)).filter fun o => !(decide ((atI x.2.l 1) = (atI o.l 1)))).length ≤ 4 := by
      refine Nat.le_trans (List.length_filter_le ..) ?_
      rw [List.length_drop, hlen]
      omega
    have eC : catL s (((((List.range n).map fun s => pr s (f s)).drop (k + 1)).filter fun o => !(decide ((atI x.2.l 1) = (atI o.l 1)))).map fun o => (⟨[x.2, o]⟩ : Tup (Tup Int))) = some (s ++ ((((List.range n).map fun s => pr s (f s)).drop (k + 1)).filter fun o => !(decide ((atI x.2.l 1) = (atI o.l 1)))).map fun o => (⟨[x.2, o]⟩ : Tup (Tup Int))) := if_pos (by rw [List.length_map]; omega)
    refine ⟨_, bnd eS (bnd eC rfl), by rw [List.length_append, List.length_map]; omega, fun p mp => ?_⟩
    rcases List.mem_append.mp mp with m | m
    · exact h2 p m
    · obtain ⟨o, mo, e⟩ := List.mem_map.mp m
      obtain ⟨m1, m2⟩ := List.mem_filter.mp mo
      obtain ⟨u, hku, hu, eo⟩ := hmem o m1
      have hne : f k ≠ f u := fun e => by
        rw [e3, eo] at m2
        have : atI (pr k (f k)).l 1 = atI (pr u (f u)).l 1 := by
          show some ((f k : Nat) : Int) = some ((f u : Nat) : Int)
          rw [e]
        rw [decide_eq_true this] at m2
        cases m2
      exact ⟨k, f k, u, f u, hk, hf k hk, hu, hf u hu, hd k hk u hu (by omega) hne, by rw [← e, e3, eo]⟩
  rw [enumFrom_len, hlen] at h1
  exact ⟨s, bnd es rfl, by omega, h2⟩
theorem pairs_ok {keys states lamps : List Str} {rows : List (List Int)} {lights : List (Tup Int)} {n m : Nat} (T : Told keys states lamps rows lights n m) : ∃ L, m_pairs (mkT keys states lamps rows lights) = some L ∧ ∀ p ∈ L, GoodP n p := by
  have hm4 : m ≤ 4 := by
    rw [T.hm]
    exact Nat.pow_le_pow_right (by decide) T.kl
  have hn4 := T.n4
  unfold m_pairs
  have ern := rangeO_eq (n := n) (by omega)
  have e0 : mapO m_pairs_c0 ((List.range n).map fun (i : Nat) => (i : Int)) = some ((List.range n).map fun s => pr s (id s)) := by
    rw [mapO_some (f := m_pairs_c0) (g := fun x : Int => (⟨[x, x]⟩ : Tup Int)) fun _ _ => rfl, List.map_map]
    rfl
  obtain ⟨L0, eL0, l0, g0⟩ := unlike_ok (n := n) (by omega) (f := id) (fun s h => h) fun s _ u _ h _ => dis_same h
  obtain ⟨s, es, h1, h2⟩ := foldR (b := m_pairs_l1 (mkT keys states lamps rows lights)) (m := m) (I := fun i (s : List (Tup (Tup Int))) => s.length ≤ 16 + 16 * i ∧ ∀ p ∈ s, GoodP n p) (s := L0) ⟨by omega, g0⟩ fun x hx s ⟨h1, h2⟩ => by
    unfold m_pairs_l1
    have eg : m_goings_on (mkT keys states lamps rows lights) (x : Int) = some ((List.range n).map fun s => pr s (gt rows s x)) := by
      unfold m_goings_on
      refine bnd (x := states) rfl (bnd (by rw [T.st]; exact ern) (bnd (mapO_some (g := fun s : Int => pr s.toNat (gt rows s.toNat x)) fun s ms => ?_) ?_))
      · obtain ⟨s, hs, e⟩ := List.mem_map.mp ms
        subst e
        unfold m_goings_on_c0
        exact bnd (goes_eq T.ro (List.mem_range.mp hs) hx) rfl
      · rw [List.map_map]
        rfl
    obtain ⟨L, eL, l1, g1⟩ := unlike_ok (n := n) (by omega) (f := fun s => gt rows s x) (fun s h => by
      obtain ⟨_, _, _, g⟩ := gt_ok T.ro h hx
      exact g) fun s hs u hu hne h => dis_rows T.ro hs hu hx hne h
    have eS := selO_eq (p := m_pairs_c2_p s) (f := m_pairs_c2) (p' := fun p => !(s.any fun z => decide (z = p))) (f' := id) (xs := L) (fun p _ => by
      unfold m_pairs_c2_p
      exact bnd (inO_t _ _) rfl) fun p _ _ => rfl
    rw [List.map_id] at eS
    have hlf : (L.filter fun p => !(s.any fun z => decide (z = p))).length ≤ 16 := Nat.le_trans (List.length_filter_le ..) l1
    have eC : catL s (L.filter fun p => !(s.any fun z => decide (z = p))) = some (s ++ L.filter fun p => !(s.any fun z => decide (z = p))) := if_pos (by omega)
    refine ⟨_, bnd eg (bnd eL (bnd eS (bnd eC rfl))), by rw [List.length_append]; omega, fun p mp => ?_⟩
    rcases List.mem_append.mp mp with q | q
    · exact h2 p q
    · exact g1 p (List.mem_filter.mp q).1
  have hc : (decide (s.length ≤ 1000000) && s.all Od.ne) = true := by
    rw [Bool.and_eq_true]
    refine ⟨decide_eq_true (by omega), List.all_eq_true.mpr fun p mp => ?_⟩
    obtain ⟨a, b, c, d, _, _, _, _, _, e⟩ := h2 p mp
    rw [e]
    rfl
  have eSo : sortD s = some (isort Od.lt s) := if_pos hc
  refine ⟨isort Od.lt s, bnd (x := states) rfl (bnd (by rw [T.st]; exact ern) (bnd e0 (bnd eL0 (bnd (letters_ok T.kl T.hm) (bnd (rangeO_eq (by omega)) (bnd es (bnd eSo rfl))))))), fun p mp => h2 p ((isort_perm Od.lt s).mem_iff.mp mp)⟩

theorem all_true' {α : Type} {l : List α} : (l.map fun _ => true).all id = true := by
  rw [List.all_map]
  exact List.all_eq_true.mpr fun _ _ => rfl
theorem parted_ok {keys states lamps : List Str} {rows : List (List Int)} {lights : List (Tup Int)} {n m : Nat} (T : Told keys states lamps rows lights n m) : m__law_told_parted (mkT keys states lamps rows lights) (hn n) = some true := by
  obtain ⟨L, eL, hL⟩ := pairs_ok T
  unfold m__law_told_parted
  refine bnd eL (bnd (mapO_some (g := fun _ => true) fun p mp => ?_) (by rw [all_true']))
  obtain ⟨s, t, u, v, hs, ht, hu, hv, hd, e⟩ := hL p mp
  have hc := chk_ok T.n4 hs ht hu hv hd
  unfold chk at hc
  rw [Bool.and_eq_true, Bool.and_eq_true] at hc
  rw [e]
  unfold m__law_told_parted_c0
  exact bnd (x := (pr s t, pr u v)) rfl (bnd (of_decide_eq_true hc.1.2) rfl)
def GoodC (n : Nat) (p : HT (Int × (Tup Int) × (Tup Int) × Unit)) : Prop := ∃ s t u v : Nat, s < n ∧ t < n ∧ u < n ∧ v < n ∧ Dis s t u v = true ∧ p.x.2.1 = pr s t ∧ p.x.2.2.1 = pr u v
theorem clashes_ok {rows : List (List Int)} {n m : Nat} (hn4 : n = 2 ∨ n = 3 ∨ n = 4) (hm4 : m ≤ 4) (R : RowsOk rows n m) : ∃ L, m__law_clashes rows = some L ∧ ∀ p ∈ L, GoodC n p := by
  unfold m__law_clashes
  have hr0 : 0 < rows.length := by rw [R.len]; omega
  have l0 := (R.row _ (List.getElem_mem hr0)).1
  obtain ⟨s, es, h1, h2⟩ := foldR (b := m__law_clashes_l0 rows) (m := m) (I := fun i (s : List (HT (Int × (Tup Int) × (Tup Int) × Unit))) => s.length ≤ 16 * i ∧ ∀ p ∈ s, GoodC n p) (s := []) ⟨Nat.le_refl _, fun _ m => by cases m⟩ fun x hx a ⟨a1, a2⟩ => by
    unfold m__law_clashes_l0
    rw [R.len]
    obtain ⟨b, eb, b1, b2⟩ := foldR (b := m__law_clashes_l1 rows (x : Int)) (m := n) (I := fun i (s : List (HT (Int × (Tup Int) × (Tup Int) × Unit))) => s.length ≤ 16 * x + 4 * i ∧ ∀ p ∈ s, GoodC n p) (s := a) ⟨by omega, a2⟩ fun s hs c ⟨c1, c2⟩ => by
      unfold m__law_clashes_l1
      rw [R.len]
      obtain ⟨d, ed, d1, d2⟩ := foldO_ix (b := m__law_clashes_l2 rows (s : Int) (x : Int)) (I := fun i (q : List (HT (Int × (Tup Int) × (Tup Int) × Unit))) => q.length ≤ 16 * x + 4 * s + i ∧ ∀ p ∈ q, GoodC n p) (N := 4) (xs := (List.range' (s + 1) (n - (s + 1))).map fun (i : Nat) => (i : Int)) (s := c) (n := 0) ⟨c1, c2⟩ (by rw [List.length_map, List.length_range']; omega) fun u mu i q hi ⟨q1, q2⟩ => by
        obtain ⟨u, hu, e⟩ := List.mem_map.mp mu
        have hu := List.mem_range'_1.mp hu
        subst e
        unfold m__law_clashes_l2
        obtain ⟨r1, x1, x2, x3⟩ := gt_ok R hs hx
        obtain ⟨r2, y1, y2, y3⟩ := gt_ok R (show u < n by omega) hx
        by_cases h : gt rows s x = gt rows u x
        · refine ⟨q, bnd (x := q) (bnd x1 (bnd x2 (bnd y1 (bnd y2 ((if_neg (by rw [h, decide_eq_true rfl]; decide)).trans rfl))))) rfl, by omega, q2⟩
        · have e5 : appO q (HT.mk ((x : Int), (Tup.mk [(s : Int), ((gt rows s x : Nat) : Int)] : Tup Int), (Tup.mk [(u : Int), ((gt rows u x : Nat) : Int)] : Tup Int), ()) : HT (Int × (Tup Int) × (Tup Int) × Unit)) = some (q ++ [HT.mk ((x : Int), pr s (gt rows s x), pr u (gt rows u x), ())]) := if_pos (by omega)
          refine ⟨q ++ [HT.mk ((x : Int), pr s (gt rows s x), pr u (gt rows u x), ())], bnd (x := q ++ [HT.mk ((x : Int), pr s (gt rows s x), pr u (gt rows u x), ())]) (bnd x1 (bnd x2 (bnd y1 (bnd y2 ((if_pos (by rw [decide_eq_false (fun e => h (by omega))]; rfl)).trans (bnd x1 (bnd x2 (bnd y1 (bnd y2 (bnd e5 rfl)))))))))) rfl, by rw [List.length_append, List.length_singleton]; omega, fun p mp => ?_⟩
          rcases List.mem_append.mp mp with m | m
          · exact q2 p m
          · rw [List.mem_singleton.mp m]
            exact ⟨s, gt rows s x, u, gt rows u x, hs, x3, by omega, y3, dis_rows R hs (by omega) hx (by omega) h, rfl, rfl⟩
      rw [List.length_map, List.length_range'] at d1
      exact ⟨d, bnd (show rangeO2 ((s : Int) + 1) (n : Int) = _ from rangeO2_eq (lo := s + 1) (by omega) (by omega)) (bnd ed rfl), by omega, d2⟩
    exact ⟨b, bnd (rangeO_eq (by omega)) (bnd eb rfl), by omega, b2⟩
  exact ⟨s, bnd (atI_of (n := 0) (List.getElem?_eq_getElem hr0) rfl) (bnd (by rw [l0]; exact rangeO_eq (by omega)) (bnd es rfl)), h2⟩
theorem free_ok {rows : List (List Int)} {n m : Nat} (hn4 : n = 2 ∨ n = 3 ∨ n = 4) (hm4 : m ≤ 4) (R : RowsOk rows n m) : m__law_are_free rows (hn n) = some true := by
  obtain ⟨L, eL, hL⟩ := clashes_ok hn4 hm4 R
  unfold m__law_are_free
  refine bnd eL (bnd (x := .nx ()) (forO_go fun p mp => ?_) rfl)
  obtain ⟨s, t, u, v, hs, ht, hu, hv, hd, e1, e2⟩ := hL p mp
  have hc := chk_ok hn4 hs ht hu hv hd
  unfold chk at hc
  rw [Bool.and_eq_true, Bool.and_eq_true, Bool.and_eq_true] at hc
  unfold m__law_are_free_l0
  rw [e1, e2]
  exact bnd (x := false) (bnd (of_decide_eq_true hc.1.1.1) rfl) (bnd (x := false) ((if_neg (by decide)).trans (bnd (of_decide_eq_true hc.1.1.2) rfl)) rfl)
theorem names_n {n : Nat} (hn4 : n = 2 ∨ n = 3 ∨ n = 4) : ((rangeO (n : Int)).bind fun xs4 => (mapO m_raceless_names_c0 xs4).bind fun ys25 => some ys25) = some (hn n) := by
  rcases hn4 with e | e | e <;> subst e <;> decide +kernel
theorem pop_n {n : Nat} (hn4 : n = 2 ∨ n = 3 ∨ n = 4) : (popL (List.reverse (hn n))).isSome = true := by
  rcases hn4 with e | e | e <;> subst e <;> decide +kernel
theorem step_ok (ns : List Int) (k : Int) (h0 : 0 ≤ k) (hk2 : k < 1000) : m_law_l0 ⟨ns⟩ k () = some (.nx ()) := by
  unfold m_law_l0
  obtain ⟨l, el, hl⟩ := pot_ok (ns := ns) h0 hk2
  obtain ⟨keys, states, lamps, rows, lights, pot', n, m, et, hp, T⟩ := told_mk hl
  have hn4 := T.n4
  have hm4 : m ≤ 4 := by
    rw [T.hm]
    exact Nat.pow_le_pow_right (by decide) T.kl
  have eR : mapO m_law_c1 rows = some rows := by
    have := mapO_some (f := m_law_c1) (g := id) (xs := rows) fun _ _ => rfl
    rw [List.map_id] at this
    exact this
  have eN : m_raceless_names (mkT keys states lamps rows lights) = some (hn n) := by
    unfold m_raceless_names
    refine bnd (x := states) rfl ?_
    rw [T.st]
    exact names_n hn4
  obtain ⟨z, ez⟩ := Option.isSome_iff_exists.mp (names_c hn4).2.2
  obtain ⟨y, ey⟩ := Option.isSome_iff_exists.mp (pop_n hn4)
  refine bnd el (bnd et (bnd eR (bnd T.tb (bnd eN (bnd (x := false) (bnd (show m__law_are_names (hn n) (rows.length : Int) = some true by rw [T.ro.len]; exact (names_c hn4).2.1) rfl) (bnd (x := false) ((if_neg (by decide)).trans (bnd (free_ok hn4 hm4 T.ro) rfl)) ?_))))))
  refine (if_neg (by decide)).trans ?_
  refine bnd (x := (false, hn n)) (bnd (races_none T) (bnd (eqO_t _ _) ?_)) ?_
  · rw [decide_eq_true rfl]
    exact (if_neg (by decide)).trans (bnd (parted_ok T) rfl)
  · refine (if_neg (show ¬ (false = true) by decide)).trans ?_
    refine bnd ey (bnd eN (bnd ez (bnd ez ?_)))
    rw [decide_eq_true rfl]
    rfl
theorem most8 (n : Nat) (h : n ≤ 63) : -1000000 ≤ pyMax 1 (pyMin 8 (n : Int)) ∧ pyMax 1 (pyMin 8 (n : Int)) ≤ 8 := by
  unfold pyMax pyMin
  split <;> split <;> omega
theorem law_true (ns : List Int) (hl : ns.length ≤ 63) : m_law ⟨ns⟩ = some true := by
  unfold m_law
  have hb := most8 ns.length hl
  obtain ⟨xs, ex, _⟩ := rangeO_some (n := pyMax 1 (pyMin 8 (ns.length : Int))) hb.1 (by omega)
  refine bnd ex (bnd (x := .nx ()) (forO_go fun k hk => ?_) rfl)
  have hk' := mem_rangeO ex hk
  exact step_ok ns k hk'.1 (by omega)
end W

open PySem PySem.W PyProof.Rows
set_option maxHeartbeats 0 in
theorem PySem.Challenge.cw_relayholds_k72_whole_raceless_names_holds : PySem.Challenge.rw_relayholds_k72_whole_raceless_names.Holds := by
  w_on; o_law; k_head; (case hw => w_witness2)
  k_fill
  refine G.walk_G (l := PySem.Challenge.rw_relayholds_k72_whole_raceless_names) (n := 63) (k := 6) (x := "_law_script") (sp := fun w => G.Prom _ W.R_law) rfl (by decide) rfl ⟨rfl, by decide, by decide⟩ (fun w h Y => PySem.W.kIn_of Y) ?F (fun _ _ a ns hl _ hS => G.law_end (W.R_law.mk _ (W.law_true ns hl)) hl hS)
  case F =>
    intro w mg fa h KX G hmg
    refine' W.all_mk KX G hmg ?gC_Table ?pg_Table ?hd_Table ?po_Table ?sa_Table ?mk_Table ?kc_Table ?n_Table_all_keys ?n_Table_all_states ?n_Table_all_lamps ?n_Table_goals ?n_Table_shining ?a0 ?i0 ?l0 ?c0 ?k0 ?a1 ?i1 ?l1 ?c1 ?k1 ?a2 ?l2 ?c2 ?k2 ?a3 ?l3 ?c3 ?k3 ?a4 ?i4 ?l4 ?c4 ?k4 ?a5 ?l5 ?c5 ?k5 ?a6 ?l6 ?c6 ?k6 ?a7 ?l7 ?c7 ?k7 ?a8 ?l8 ?c8 ?k8 ?a9 ?l9 ?c9 ?k9 ?a10 ?l10 ?c10 ?k10 ?a11 ?l11 ?c11 ?k11 ?a12 ?l12 ?c12 ?k12 ?a13 ?l13 ?c13 ?k13 ?a14 ?l14 ?c14 ?k14 ?a15 ?l15 ?c15 ?k15 ?a16 ?l16 ?c16 ?k16 ?a17 ?l17 ?c17 ?k17 ?a18 ?l18 ?c18 ?k18 ?a19 ?l19 ?c19 ?k19 ?a20 ?l20 ?c20 ?k20 ?a21 ?l21 ?c21 ?k21 ?a22 ?l22 ?c22 ?k22 ?a23 ?i23 ?l23 ?c23 ?k23 ?a24 ?l24 ?c24 ?k24 ?a25 ?l25 ?c25 ?k25 ?a26 ?l26 ?c26 ?k26 ?a27 ?l27 ?c27 ?k27 ?a28 ?l28 ?c28 ?k28 ?a29 ?l29 ?c29 ?k29 ?a30 ?l30 ?c30 ?k30 ?a31 ?l31 ?c31 ?k31 ?a32 ?l32 ?c32 ?k32 ?a33 ?l33 ?c33 ?k33 ?a34 ?l34 ?c34 ?k34 ?a35 ?l35 ?c35 ?k35 ?a36 ?l36 ?c36 ?k36 ?a37 ?l37 ?c37 ?k37 ?y0 ?w0 ?y1 ?w1 ?y2 ?w2 ?y3 ?w3 ?y4 ?w4 ?y5 ?w5 ?y6 ?w6 ?y7 ?w7 ?q_HALVINGS ?z0 ?z1 ?z2 ?z3 ?z4 ?z5 ?z6 ?z7 ?z8 ?z9 ?z10 ?z11 ?z12 ?z13 ?z14 ?z15 ?z16 ?z17
    (case gC_Table => k_is)
    (case pg_Table => k_is)
    (case hd_Table => k_is)
    (case po_Table => k_is)
    (case sa_Table => k_is)
    (case mk_Table => k_is)
    (case kc_Table => k_is)
    (case n_Table_all_keys => k_is)
    (case n_Table_all_states => k_is)
    (case n_Table_all_lamps => k_is)
    (case n_Table_goals => k_is)
    (case n_Table_shining => k_is)
    (case a0 => k_is)
    (case i0 => k_is)
    (case l0 => k_is)
    (case c0 => k_is)
    (case k0 => k_is)
    (case a1 => k_is)
    (case i1 => k_is)
    (case l1 => k_is)
    (case c1 => k_is)
    (case k1 => k_is)
    (case a2 => k_is)
    (case l2 => k_is)
    (case c2 => k_is)
    (case k2 => k_is)
    (case a3 => k_is)
    (case l3 => k_is)
    (case c3 => k_is)
    (case k3 => k_is)
    (case a4 => k_is)
    (case i4 => k_is)
    (case l4 => k_is)
    (case c4 => k_is)
    (case k4 => k_is)
    (case a5 => k_is)
    (case l5 => k_is)
    (case c5 => k_is)
    (case k5 => k_is)
    (case a6 => k_is)
    (case l6 => k_is)
    (case c6 => k_is)
    (case k6 => k_is)
    (case a7 => k_is)
    (case l7 => k_is)
    (case c7 => k_is)
    (case k7 => k_is)
    (case a8 => k_is)
    (case l8 => k_is)
    (case c8 => k_is)
    (case k8 => k_is)
    (case a9 => k_is)
    (case l9 => k_is)
    (case c9 => k_is)
    (case k9 => k_is)
    (case a10 => k_is)
    (case l10 => k_is)
    (case c10 => k_is)
    (case k10 => k_is)
    (case a11 => k_is)
    (case l11 => k_is)
    (case c11 => k_is)
    (case k11 => k_is)
    (case a12 => k_is)
    (case l12 => k_is)
    (case c12 => k_is)
    (case k12 => k_is)
    (case a13 => k_is)
    (case l13 => k_is)
    (case c13 => k_is)
    (case k13 => k_is)
    (case a14 => k_is)
    (case l14 => k_is)
    (case c14 => k_is)
    (case k14 => k_is)
    (case a15 => k_is)
    (case l15 => k_is)
    (case c15 => k_is)
    (case k15 => k_is)
    (case a16 => k_is)
    (case l16 => k_is)
    (case c16 => k_is)
    (case k16 => k_is)
    (case a17 => k_is)
    (case l17 => k_is)
    (case c17 => k_is)
    (case k17 => k_is)
    (case a18 => k_is)
    (case l18 => k_is)
    (case c18 => k_is)
    (case k18 => k_is)
    (case a19 => k_is)
    (case l19 => k_is)
    (case c19 => k_is)
    (case k19 => k_is)
    (case a20 => k_is)
    (case l20 => k_is)
    (case c20 => k_is)
    (case k20 => k_is)
    (case a21 => k_is)
    (case l21 => k_is)
    (case c21 => k_is)
    (case k21 => k_is)
    (case a22 => k_is)
    (case l22 => k_is)
    (case c22 => k_is)
    (case k22 => k_is)
    (case a23 => k_is)
    (case i23 => k_is)
    (case l23 => k_is)
    (case c23 => k_is)
    (case k23 => k_is)
    (case a24 => k_is)
    (case l24 => k_is)
    (case c24 => k_is)
    (case k24 => k_is)
    (case a25 => k_is)
    (case l25 => k_is)
    (case c25 => k_is)
    (case k25 => k_is)
    (case a26 => k_is)
    (case l26 => k_is)
    (case c26 => k_is)
    (case k26 => k_is)
    (case a27 => k_is)
    (case l27 => k_is)
    (case c27 => k_is)
    (case k27 => k_is)
    (case a28 => k_is)
    (case l28 => k_is)
    (case c28 => k_is)
    (case k28 => k_is)
    (case a29 => k_is)
    (case l29 => k_is)
    (case c29 => k_is)
    (case k29 => k_is)
    (case a30 => k_is)
    (case l30 => k_is)
    (case c30 => k_is)
    (case k30 => k_is)
    (case a31 => k_is)
    (case l31 => k_is)
    (case c31 => k_is)
    (case k31 => k_is)
    (case a32 => k_is)
    (case l32 => k_is)
    (case c32 => k_is)
    (case k32 => k_is)
    (case a33 => k_is)
    (case l33 => k_is)
    (case c33 => k_is)
    (case k33 => k_is)
    (case a34 => k_is)
    (case l34 => k_is)
    (case c34 => k_is)
    (case k34 => k_is)
    (case a35 => k_is)
    (case l35 => k_is)
    (case c35 => k_is)
    (case k35 => k_is)
    (case a36 => k_is)
    (case l36 => k_is)
    (case c36 => k_is)
    (case k36 => k_is)
    (case a37 => k_is)
    (case l37 => k_is)
    (case c37 => k_is)
    (case k37 => k_is)
    (case y0 => k_is)
    (case w0 => exact ⟨_, rfl⟩)
    (case y1 => k_is)
    (case w1 => exact ⟨_, rfl⟩)
    (case y2 => k_is)
    (case w2 => exact ⟨_, rfl⟩)
    (case y3 => k_is)
    (case w3 => exact ⟨_, rfl⟩)
    (case y4 => k_is)
    (case w4 => exact ⟨_, rfl⟩)
    (case y5 => k_is)
    (case w5 => exact ⟨_, rfl⟩)
    (case y6 => k_is)
    (case w6 => exact ⟨_, rfl⟩)
    (case y7 => k_is)
    (case w7 => rfl)
    (case q_HALVINGS => intro F; refine' _root_.G.tupC (vs := [.ref 22, .ref 23, .ref 24]) ?tc1l ?tc1c ?tc1d ?tc1s ?tc1v ?tc1e ?tc1p; (case tc1l => k_is); (case tc1c => rfl); (case tc1d => rfl); (case tc1s => decide); (case tc1v => exact .cons rfl (.cons rfl (.cons rfl (.nil)))); (case tc1e => decide); (case tc1p => (refine' .cons ?tc2q0 (.cons ?tc2q1 (.cons ?tc2q2 (.nil))); (case tc2q0 => (refine' _root_.G.tupC (vs := [.int 0, .int 0, .int 1, .int 1]) ?tc3l ?tc3c ?tc3d ?tc3s ?tc3v ?tc3e ?tc3p; (case tc3l => k_is); (case tc3c => rfl); (case tc3d => rfl); (case tc3s => decide); (case tc3v => exact .cons ⟨_, rfl⟩ (.cons ⟨_, rfl⟩ (.cons ⟨_, rfl⟩ (.cons ⟨_, rfl⟩ (.nil))))); (case tc3e => decide); (case tc3p => (refine' .cons ?tc4q0 (.cons ?tc4q1 (.cons ?tc4q2 (.cons ?tc4q3 (.nil)))); (case tc4q0 => rfl); (case tc4q1 => rfl); (case tc4q2 => rfl); (case tc4q3 => rfl))))); (case tc2q1 => (refine' _root_.G.tupC (vs := [.int 0, .int 1, .int 0, .int 1]) ?tc5l ?tc5c ?tc5d ?tc5s ?tc5v ?tc5e ?tc5p; (case tc5l => k_is); (case tc5c => rfl); (case tc5d => rfl); (case tc5s => decide); (case tc5v => exact .cons ⟨_, rfl⟩ (.cons ⟨_, rfl⟩ (.cons ⟨_, rfl⟩ (.cons ⟨_, rfl⟩ (.nil))))); (case tc5e => decide); (case tc5p => (refine' .cons ?tc6q0 (.cons ?tc6q1 (.cons ?tc6q2 (.cons ?tc6q3 (.nil)))); (case tc6q0 => rfl); (case tc6q1 => rfl); (case tc6q2 => rfl); (case tc6q3 => rfl))))); (case tc2q2 => (refine' _root_.G.tupC (vs := [.int 0, .int 1, .int 1, .int 0]) ?tc7l ?tc7c ?tc7d ?tc7s ?tc7v ?tc7e ?tc7p; (case tc7l => k_is); (case tc7c => rfl); (case tc7d => rfl); (case tc7s => decide); (case tc7v => exact .cons ⟨_, rfl⟩ (.cons ⟨_, rfl⟩ (.cons ⟨_, rfl⟩ (.cons ⟨_, rfl⟩ (.nil))))); (case tc7e => decide); (case tc7p => (refine' .cons ?tc8q0 (.cons ?tc8q1 (.cons ?tc8q2 (.cons ?tc8q3 (.nil)))); (case tc8q0 => rfl); (case tc8q1 => rfl); (case tc8q2 => rfl); (case tc8q3 => rfl))))))))
    (case z0 => k_is)
    (case z1 => k_is)
    (case z2 => k_is)
    (case z3 => k_is)
    (case z4 => k_is)
    (case z5 => k_is)
    (case z6 => k_is)
    (case z7 => k_is)
    (case z8 => k_is)
    (case z9 => k_is)
    (case z10 => k_is)
    (case z11 => k_is)
    (case z12 => k_is)
    (case z13 => k_is)
    (case z14 => k_is)
    (case z15 => k_is)
    (case z16 => k_is)
    (case z17 => k_is)

