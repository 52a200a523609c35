import PyProof.Rows.All
import Wide.All
import OpenK.AllK
import Wide.FinOn
import HandS.ForMost
import HandS.Evl
import HandS.SetFor
import HandS.SortInts
import HandS.Strs
import HandS.Wide
import HandS.IsInst
import HandS.Style
import HandS.Conv
import HandS.SortRule
import HandS.SortKw
import HandS.Rev
import HandS.More
import PyProof.ListRange
import PyProof.SetRoads
import HandS.CallLocal
import HandS.Text
import HandS.TryMany
import HandS.ExcCtx
import HandS.HotCalls
import HandS.ExcIs
import HandS.WordsExc
import HandS.DictTup
import HandS.Iter
import PySem.Challenge.RW_bandorder_k14_steps_by_columns
set_option Elab.async false
set_option linter.all false
set_option maxRecDepth 100000
/-! The value layer: Python's defs as functions over plain data, over the hand layer. -/
namespace VL
open PySem PySem.Spec PyProof.Rows L2

/-! ### the monad -/
inductive Er where | stuck | exc (c : String)
  deriving DecidableEq, Repr
abbrev M (α : Type) := Except Er α
def ends {α : Type} (m : M α) (good : α → Prop) (ex : String → Prop) : Prop :=
  match m with
  | .ok a => good a
  | .error (.exc c) => ex c
  | .error .stuck => False
theorem ends_ok {α : Type} {a : α} {P : α → Prop} {E : String → Prop} (h : P a) : ends (.ok a) P E := h
theorem ends_bind {α β : Type} {m : M α} {f : α → M β} {P : β → Prop} {E : String → Prop} (h : ends (m >>= f) P E) : ends m (fun a => ends (f a) P E) E := by
  cases m with
  | ok a => exact h
  | error e => cases e <;> exact h
theorem ends_mono {α : Type} {m : M α} {P P' : α → Prop} {E E' : String → Prop} (h : ends m P E) (hp : ∀ a, m = .ok a → P a → P' a) (he : ∀ c, E c → E' c) : ends m P' E' := by
  cases m with
  | ok a => exact hp a rfl h
  | error e => cases e with
    | stuck => exact h
    | exc c => exact he c h
theorem ends_unbind {α β : Type} {m : M α} {f : α → M β} {P : β → Prop} {E : String → Prop} (h : ends m (fun a => ends (f a) P E) E) : ends (m >>= f) P E := by
  cases m with
  | ok a => exact h
  | error e => cases e <;> exact h

/-! ### heaps -/
def Sub (S H : Hp) : Prop := ∀ a o, S a = some o → H a = some o
theorem Sub.refl (H : Hp) : Sub H H := fun _ _ h => h
theorem Sub.trans {H H1 H2 : Hp} (a : Sub H H1) (b : Sub H1 H2) : Sub H H2 := fun x o h => b x o (a x o h)
theorem Sub.new {H : Hp} {p : Addr} {o : HO} (h : H p = none) : Sub H (upd H p o) := fun a u e => by
  rw [upd_ne (ne_of_none e h)]; exact e
theorem Sub.back {S H : Hp} (h : Sub S H) {p : Addr} (e : H p = none) : S p = none := by
  cases q : S p with
  | none => rfl
  | some o => rw [h p o q] at e; cases e
theorem Sub.eq_of {S H : Hp} (h : Sub S H) {p : Addr} (e : S p ≠ none) : H p = S p := by
  cases q : S p with
  | none => exact absurd q e
  | some o => exact h p o q
theorem Sub.at {H H' : Hp} (h : Sub H H') {p : Addr} (e : H p ≠ none) : H' p = H p := h.eq_of e
/-- H' with what stands at F in H -/
def add (S H : Hp) (F : List Addr) : Hp := fun p => if p ∈ F then H p else S p
theorem add_in {S H : Hp} {F : List Addr} {p : Addr} (h : p ∈ F) : add S H F p = H p := by unfold add; rw [if_pos h]
theorem add_out {S H : Hp} {F : List Addr} {p : Addr} (h : p ∉ F) : add S H F p = S p := by unfold add; rw [if_neg h]
theorem add_sub {S H : Hp} {F : List Addr} (hd : ∀ p ∈ F, S p = none) : Sub S (add S H F) := fun p o e => by
  by_cases h : p ∈ F
  · rw [hd p h] at e; cases e
  · rw [add_out h]; exact e
theorem add_le {S H : Hp} {F : List Addr} (hs : Sub S H) : Sub (add S H F) H := fun p o e => by
  by_cases h : p ∈ F
  · rw [add_in h] at e; exact e
  · rw [add_out h] at e; exact hs p o e

/-! ### types of data -/
/-- v is a, by the shared part S of the heap and by the objects at F of H, which nobody else holds; k: how many layers from the top are held so -/
class PyTy (α : Type) where
  rep : PySem.W.Frag → Nat → Hp → Hp → V → α → List Addr → Prop
  mono : ∀ {K k S H S' H' v a F}, rep K k S H v a F → Sub S S' → (∀ p ∈ F, H' p = H p) → rep K k S' H' v a F
  here : ∀ {K k S H v a F}, rep K k S H v a F → ∀ p ∈ F, H p ≠ none
  freeze : ∀ {K k S H S' v a F}, rep K k S H v a F → Sub S S' → (∀ p ∈ F, S' p = H p) → ∀ H', rep K 0 S' H' v a []
  zero : ∀ {K S H v a F}, rep K 0 S H v a F → F = []
theorem PyTy.froz {α : Type} [T : PyTy α] {K : PySem.W.Frag} {S H : Hp} {v : V} {a : α} {F : List Addr} (h : T.rep K 0 S H v a F) (H' : Hp) : T.rep K 0 S H' v a [] := by
  have e := T.zero h
  subst e
  exact T.mono h (Sub.refl S) fun p hp => nomatch hp
/-- a value without an object -/
class Scal (α : Type) [T : PyTy α] where
  val : α → V
  scal : ∀ {K k S H v a F}, T.rep K k S H v a F ↔ v = val a ∧ F = []
@[reducible] def scalTy {α : Type} (f : α → V) : PyTy α where
  rep _ _ _ _ v a F := v = f a ∧ F = []
  mono h _ _ := h
  here h p hp := by rw [h.2] at hp; cases hp
  freeze h _ _ _ := ⟨h.1, rfl⟩
  zero h := h.2
instance instPyInt : PyTy Int := scalTy V.int
instance : Scal Int := ⟨V.int, Iff.rfl⟩
instance instPyBool : PyTy Bool := scalTy V.bl
instance : Scal Bool := ⟨V.bl, Iff.rfl⟩
instance instPyStr : PyTy Str := scalTy V.str
instance : Scal Str := ⟨V.str, Iff.rfl⟩
instance instPyUnit : PyTy Unit := scalTy fun _ => V.non
instance : Scal Unit := ⟨fun _ => V.non, Iff.rfl⟩

/-- items one by one -/
def Reps {α : Type} (r : V → α → List Addr → Prop) : List V → List α → List Addr → Prop
  | [], [], F => F = []
  | v :: vs, a :: as, F => ∃ F1 F2, F = F1 ++ F2 ∧ r v a F1 ∧ Reps r vs as F2
  | _, _, _ => False
theorem Reps.imp {α : Type} {r r' : V → α → List Addr → Prop} : ∀ {vs : List V} {as : List α} {F : List Addr}, Reps r vs as F → (∀ v a F', (∀ p ∈ F', p ∈ F) → r v a F' → r' v a F') → Reps r' vs as F
  | [], [], F, h, _ => h
  | [], _ :: _, _, h, _ => h.elim
  | _ :: _, [], _, h, _ => h.elim
  | v :: vs, a :: as, F, ⟨F1, F2, e, h1, h2⟩, k => by
    subst e
    exact ⟨F1, F2, rfl, k v a F1 (fun p hp => List.mem_append_left _ hp) h1, Reps.imp h2 fun v a F' hs => k v a F' fun p hp => List.mem_append_right _ (hs p hp)⟩
theorem Reps.len {α : Type} {r : V → α → List Addr → Prop} : ∀ {vs : List V} {as : List α} {F : List Addr}, Reps r vs as F → vs.length = as.length
  | [], [], _, _ => rfl
  | [], _ :: _, _, h => h.elim
  | _ :: _, [], _, h => h.elim
  | v :: vs, a :: as, _, ⟨_, _, _, _, h2⟩ => by rw [List.length_cons, List.length_cons, h2.len]
theorem Reps.here {α : Type} {r : V → α → List Addr → Prop} {G : Addr → Prop} : ∀ {vs : List V} {as : List α} {F : List Addr}, Reps r vs as F → (∀ v a F', r v a F' → ∀ p ∈ F', G p) → ∀ p ∈ F, G p
  | [], [], _, h, _ => by rw [show _ = [] from h]; intro p hp; cases hp
  | [], _ :: _, _, h, _ => h.elim
  | _ :: _, [], _, h, _ => h.elim
  | v :: vs, a :: as, F, ⟨F1, F2, e, h1, h2⟩, k => by
    subst e
    intro p hp
    rcases List.mem_append.mp hp with hp | hp
    · exact k v a F1 h1 p hp
    · exact Reps.here h2 k p hp
theorem Reps.none {α : Type} {r : V → α → List Addr → Prop} : ∀ {vs : List V} {as : List α} {F : List Addr}, Reps r vs as F → (∀ v a F', r v a F' → F' = []) → F = []
  | [], [], F, h, _ => h
  | [], _ :: _, _, h, _ => h.elim
  | _ :: _, [], _, h, _ => h.elim
  | v :: vs, a :: as, F, ⟨F1, F2, e, h1, h2⟩, k => by rw [e, k v a F1 h1, Reps.none h2 k]; rfl
/-- all items without footprint -/
theorem Reps.nil {α : Type} {r r' : V → α → List Addr → Prop} : ∀ {vs : List V} {as : List α} {F : List Addr}, Reps r vs as F → (∀ v a F', (∀ p ∈ F', p ∈ F) → r v a F' → r' v a []) → Reps r' vs as []
  | [], [], F, h, _ => rfl
  | [], _ :: _, _, h, _ => h.elim
  | _ :: _, [], _, h, _ => h.elim
  | v :: vs, a :: as, F, ⟨F1, F2, e, h1, h2⟩, k => by
    subst e
    exact ⟨[], [], rfl, k v a F1 (fun p hp => List.mem_append_left _ hp) h1, Reps.nil h2 fun v a F' hs => k v a F' fun p hp => List.mem_append_right _ (hs p hp)⟩
theorem Reps.append {α : Type} {r : V → α → List Addr → Prop} : ∀ {vs ws : List V} {as bs : List α} {F G : List Addr}, Reps r vs as F → Reps r ws bs G → Reps r (vs ++ ws) (as ++ bs) (F ++ G)
  | [], _, [], _, F, G, h, g => by rw [show F = [] from h]; exact g
  | [], _, _ :: _, _, _, _, h, _ => h.elim
  | _ :: _, _, [], _, _, _, h, _ => h.elim
  | v :: vs, ws, a :: as, bs, F, G, ⟨F1, F2, e, h1, h2⟩, g => by
    subst e
    exact ⟨F1, F2 ++ G, List.append_assoc .., h1, Reps.append h2 g⟩
theorem Reps.get {α : Type} {r : V → α → List Addr → Prop} : ∀ {vs : List V} {as : List α} {i : Nat} {v : V}, Reps r vs as [] → vs[i]? = some v → ∃ a, as[i]? = some a ∧ r v a []
  | [], _, _, _, _, e => by simp at e
  | _ :: _, [], _, _, h, _ => h.elim
  | v :: vs, a :: as, 0, w, ⟨F1, F2, e0, h1, h2⟩, e => by
    obtain ⟨e1, e2⟩ := List.append_eq_nil_iff.mp e0.symm
    subst e1 e2
    cases e
    exact ⟨a, rfl, h1⟩
  | v :: vs, a :: as, i + 1, w, ⟨F1, F2, e0, h1, h2⟩, e => by
    obtain ⟨e1, e2⟩ := List.append_eq_nil_iff.mp e0.symm
    subst e1 e2
    exact Reps.get (i := i) h2 e
theorem Reps.get' {α : Type} {r : V → α → List Addr → Prop} {vs : List V} {as : List α} {i : Nat} {a : α} (h : Reps r vs as []) (e : as[i]? = some a) : ∃ v, vs[i]? = some v ∧ r v a [] := by
  have hl := h.len
  obtain ⟨hi, _⟩ := List.getElem?_eq_some_iff.mp e
  have hi' : i < vs.length := by omega
  obtain ⟨b, e2, r2⟩ := Reps.get (v := vs[i]) h (List.getElem?_eq_getElem hi')
  rw [e] at e2
  cases e2
  exact ⟨vs[i], List.getElem?_eq_getElem hi', r2⟩
theorem Reps.drop {α : Type} {r : V → α → List Addr → Prop} : ∀ {vs : List V} {as : List α} (n : Nat), Reps r vs as [] → Reps r (vs.drop n) (as.drop n) []
  | _, _, 0, h => h
  | [], [], _ + 1, _ => rfl
  | [], _ :: _, _, h => h.elim
  | _ :: _, [], _, h => h.elim
  | v :: vs, a :: as, n + 1, ⟨F1, F2, e0, h1, h2⟩ => by
    obtain ⟨e1, e2⟩ := List.append_eq_nil_iff.mp e0.symm
    subst e1 e2
    exact Reps.drop n h2
theorem Reps.take {α : Type} {r : V → α → List Addr → Prop} : ∀ {vs : List V} {as : List α} (n : Nat), Reps r vs as [] → Reps r (vs.take n) (as.take n) []
  | _, _, 0, h => by rw [List.take_zero, List.take_zero]; rfl
  | [], [], _ + 1, _ => rfl
  | [], _ :: _, _, h => h.elim
  | _ :: _, [], _, h => h.elim
  | v :: vs, a :: as, n + 1, ⟨F1, F2, e0, h1, h2⟩ => by
    obtain ⟨e1, e2⟩ := List.append_eq_nil_iff.mp e0.symm
    subst e1 e2
    exact ⟨[], [], rfl, h1, Reps.take n h2⟩
theorem Reps.reverse {α : Type} {r : V → α → List Addr → Prop} : ∀ {vs : List V} {as : List α}, Reps r vs as [] → Reps r vs.reverse as.reverse []
  | [], [], _ => rfl
  | [], _ :: _, h => h.elim
  | _ :: _, [], h => h.elim
  | v :: vs, a :: as, ⟨F1, F2, e0, h1, h2⟩ => by
    obtain ⟨e1, e2⟩ := List.append_eq_nil_iff.mp e0.symm
    subst e1 e2
    rw [List.reverse_cons, List.reverse_cons]
    exact Reps.append (F := []) (G := []) (Reps.reverse h2) ⟨[], [], rfl, h1, rfl⟩

/-- the greatest length of a list -/
def line : Nat := 2 ^ 24
theorem line_eq : line = sizeLine := rfl

/-- the nodes' own part: at level 0 in S, else at H, the first address of F -/
def nodeAt (k : Nat) (S H : Hp) (p : Addr) (o : HO) (F F' : List Addr) : Prop :=
  match k with
  | 0 => S p = some o ∧ F = F'
  | _ + 1 => H p = some o ∧ F = p :: F'
theorem nodeAt.mono {k : Nat} {S H S' H' : Hp} {p : Addr} {o : HO} {F F' : List Addr} (h : nodeAt k S H p o F F') (hs : Sub S S') (hk : ∀ p ∈ F, H' p = H p) : nodeAt k S' H' p o F F' := by
  cases k with
  | zero => exact ⟨hs _ _ h.1, h.2⟩
  | succ k => exact ⟨by rw [hk p (by rw [h.2]; exact List.mem_cons_self)]; exact h.1, h.2⟩
theorem nodeAt.sub {k : Nat} {S H : Hp} {p : Addr} {o : HO} {F F' : List Addr} (h : nodeAt k S H p o F F') : ∀ q ∈ F', q ∈ F := by
  cases k with
  | zero => intro q hq; rw [h.2]; exact hq
  | succ k => intro q hq; rw [h.2]; exact List.mem_cons_of_mem _ hq
theorem nodeAt.here {k : Nat} {S H : Hp} {p : Addr} {o : HO} {F F' : List Addr} (h : nodeAt k S H p o F F') (h' : ∀ q ∈ F', H q ≠ none) : ∀ q ∈ F, H q ≠ none := by
  cases k with
  | zero => intro q hq; rw [h.2] at hq; exact h' q hq
  | succ k =>
    intro q hq
    rw [h.2] at hq
    rcases List.mem_cons.mp hq with e | hq
    · rw [e, h.1]; exact fun z => nomatch z
    · exact h' q hq
theorem nodeAt.froz {k : Nat} {S H S' : Hp} {p : Addr} {o : HO} {F F' : List Addr} (h : nodeAt k S H p o F F') (hs : Sub S S') (hk : ∀ p ∈ F, S' p = H p) : S' p = some o := by
  cases k with
  | zero => exact hs _ _ h.1
  | succ k => rw [hk p (by rw [h.2]; exact List.mem_cons_self)]; exact h.1

instance instList {α : Type} [T : PyTy α] : PyTy (List α) where
  rep K k S H v l F := ∃ p xs F', v = .ref p ∧ nodeAt k S H p (.lst xs) F F' ∧ xs.length ≤ line ∧ Reps (fun v a F => T.rep K (k - 1) S H v a F) xs l F'
  mono := fun {K k S H S' H' v a F} ⟨p, xs, F', e, n, z, r⟩ hs hk => ⟨p, xs, F', e, n.mono hs hk, z, r.imp fun v a G hg q => T.mono q hs fun p hp => hk p (n.sub p (hg p hp))⟩
  here := fun {K k S H v a F} ⟨p, xs, F', e, n, z, r⟩ => n.here (r.here fun v a G q => T.here q)
  freeze := fun {K k S H S' v a F} ⟨p, xs, F', e, n, z, r⟩ hs hk H' => ⟨p, xs, [], e, ⟨n.froz hs hk, rfl⟩, z, r.nil fun v a G hg q => T.freeze q hs (fun p hp => hk p (n.sub p (hg p hp))) H'⟩
  zero := fun ⟨p, xs, F', e, n, z, r⟩ => by rw [n.2]; exact r.none fun v a F q => T.zero q
instance instProd {α β : Type} [TA : PyTy α] [TB : PyTy β] : PyTy (α × β) where
  rep K k S H v t F := ∃ p x y F1 F2, v = .ref p ∧ nodeAt k S H p (.tup [x, y]) F (F1 ++ F2) ∧ TA.rep K (k - 1) S H x t.1 F1 ∧ TB.rep K (k - 1) S H y t.2 F2
  mono := fun {K k S H S' H' v a F} ⟨p, x, y, F1, F2, e, n, r1, r2⟩ hs hk => ⟨p, x, y, F1, F2, e, n.mono hs hk, TA.mono r1 hs (fun p hp => hk p (n.sub p (List.mem_append_left _ hp))), TB.mono r2 hs fun p hp => hk p (n.sub p (List.mem_append_right _ hp))⟩
  here := fun {K k S H v a F} ⟨p, x, y, F1, F2, e, n, r1, r2⟩ => n.here fun q hq => (List.mem_append.mp hq).elim (TA.here r1 q) (TB.here r2 q)
  freeze := fun {K k S H S' v a F} ⟨p, x, y, F1, F2, e, n, r1, r2⟩ hs hk H' => ⟨p, x, y, [], [], e, ⟨n.froz hs hk, rfl⟩, TA.freeze r1 hs (fun p hp => hk p (n.sub p (List.mem_append_left _ hp))) H', TB.freeze r2 hs (fun p hp => hk p (n.sub p (List.mem_append_right _ hp))) H'⟩
  zero := fun ⟨p, x, y, F1, F2, e, n, r1, r2⟩ => by rw [n.2, TA.zero r1, TB.zero r2]; rfl
/-- the script -/
structure Scr where
  l : List Int
instance : PyTy Scr where
  rep K _ S _ v a F := F = [] ∧ ∃ p, v = .ref p ∧ SqL K S p (a.l.map V.int)
  mono := fun h hs _ => ⟨h.1, let ⟨p, e, q⟩ := h.2; ⟨p, e, Evl.ex_l (fun a o z => hs a o z) q⟩⟩
  here := fun h p hp => by rw [h.1] at hp; cases hp
  freeze := fun h hs _ _ => ⟨rfl, let ⟨p, e, q⟩ := h.2; ⟨p, e, Evl.ex_l (fun a o z => hs a o z) q⟩⟩
  zero := fun h => h.1
end VL
namespace VL
open PySem PySem.Spec PyProof.Rows L2

/-! ### slots, modes, assertions -/
structure Slot where
  {α : Type}
  [inst : PyTy α]
  a : α
/-- what is held of a slot: nothing; a look at it as the heap stands; k layers of its own (io: it holds the call's i-th argument) -/
inductive Mode where | un | vw | own (k : Nat) (io : Option Nat) | id (n : Nat)
  deriving DecidableEq
abbrev lv (k : Nat) : Mode := .own k none

structure Assn where
  p : Hp → Hp → List Addr → Prop
  mono : ∀ {S H S' H' F}, p S H F → Sub S S' → (∀ q ∈ F, H' q = H q) → p S' H' F
  here : ∀ {S H F}, p S H F → ∀ q ∈ F, H q ≠ none

def anyA : Assn := ⟨fun _ _ F => F = [], fun h _ _ => h, fun h q hq => by rw [h] at hq; cases hq⟩
/-- the value v is a, k layers held -/
def itm (K : PySem.W.Frag) (k : Nat) {α : Type} [T : PyTy α] (a : α) (v : V) : Assn := ⟨fun S H F => T.rep K k S H v a F, T.mono, T.here⟩
def ioAt (A : Nat → Option V) (io : Option Nat) (x : V) : Prop := match io with
  | none => True
  | some i => A i = some x
/-- a slot -/
def slotA (K : PySem.W.Frag) (A : Nat → Option V) (m : Mode) (s : Slot) (v : Option V) : Assn := match m with
  | .un => anyA
  | .vw => anyA
  | .id n => ⟨fun _ _ F => F = [] ∧ ∃ x, v = some x ∧ A n = some x, fun h _ _ => h, fun h q hq => by rw [h.1] at hq; cases hq⟩
  | .own k io => ⟨fun S H F => ∃ x, v = some x ∧ ioAt A io x ∧ s.inst.rep K k S H x s.a F, fun ⟨x, e, i, r⟩ hs hk => ⟨x, e, i, s.inst.mono r hs hk⟩, fun ⟨x, e, i, r⟩ => s.inst.here r⟩
/-- all slots; False where the lengths differ -/
def falseA : Assn := ⟨fun _ _ _ => False, fun h _ _ => h.elim, fun h => h.elim⟩
def Env (K : PySem.W.Frag) (A : Nat → Option V) : List Mode → List Slot → List (Option V) → List Assn
  | [], [], [] => []
  | m :: ms, s :: ss, v :: vs => slotA K A m s v :: Env K A ms ss vs
  | _, _, _ => [falseA]

def Star : List Assn → Hp → Hp → List Addr → Prop
  | [], _, _, F => F = []
  | a :: l, S, H, F => ∃ F1 F2, F = F1 ++ F2 ∧ a.p S H F1 ∧ Star l S H F2
theorem Star.mono : ∀ {l : List Assn} {S H S' H' : Hp} {F : List Addr}, Star l S H F → Sub S S' → (∀ q ∈ F, H' q = H q) → Star l S' H' F
  | [], _, _, _, _, _, h, _, _ => h
  | a :: l, _, _, _, _, _, ⟨F1, F2, e, h1, h2⟩, hs, hk => by
    subst e
    exact ⟨F1, F2, rfl, a.mono h1 hs (fun q hq => hk q (List.mem_append_left _ hq)), Star.mono h2 hs fun q hq => hk q (List.mem_append_right _ hq)⟩
theorem Star.here : ∀ {l : List Assn} {S H : Hp} {F : List Addr}, Star l S H F → ∀ q ∈ F, H q ≠ none
  | [], _, _, _, h => by rw [show _ = [] from h]; intro q hq; cases hq
  | a :: l, _, _, _, ⟨F1, F2, e, h1, h2⟩ => by
    subst e
    intro q hq
    exact (List.mem_append.mp hq).elim (a.here h1 q) (Star.here h2 q)
theorem Star.perm {l l' : List Assn} (p : l.Perm l') : ∀ {S H : Hp} {F : List Addr}, Star l S H F → ∃ F', F.Perm F' ∧ Star l' S H F' := by
  induction p with
  | nil => exact fun h => ⟨_, .refl _, h⟩
  | cons a _ ih =>
    rintro S H F ⟨F1, F2, e, h1, h2⟩
    subst e
    obtain ⟨F', p', h'⟩ := ih h2
    exact ⟨F1 ++ F', .append_left _ p', F1, F', rfl, h1, h'⟩
  | swap a b l =>
    rintro S H F ⟨F1, F2, e, h1, F3, F4, e2, h2, h3⟩
    subst e e2
    refine ⟨F3 ++ (F1 ++ F4), ?_, F3, _, rfl, h2, F1, F4, rfl, h1, h3⟩
    rw [← List.append_assoc, ← List.append_assoc]
    exact List.Perm.append_right _ List.perm_append_comm
  | trans _ _ ih1 ih2 =>
    intro S H F h
    obtain ⟨F1, p1, h1⟩ := ih1 h
    obtain ⟨F2, p2, h2⟩ := ih2 h1
    exact ⟨F2, p1.trans p2, h2⟩
theorem Star.append : ∀ {l l' : List Assn} {S H : Hp} {F F' : List Addr}, Star l S H F → Star l' S H F' → Star (l ++ l') S H (F ++ F')
  | [], _, _, _, F, _, h, h' => by rw [show F = [] from h]; exact h'
  | a :: l, _, _, _, _, _, ⟨F1, F2, e, h1, h2⟩, h' => by
    subst e
    exact ⟨F1, _, List.append_assoc .., h1, Star.append h2 h'⟩
theorem Star.split : ∀ {l l' : List Assn} {S H : Hp} {F : List Addr}, Star (l ++ l') S H F → ∃ F1 F2, F = F1 ++ F2 ∧ Star l S H F1 ∧ Star l' S H F2
  | [], _, _, _, F, h => ⟨[], F, rfl, rfl, h⟩
  | a :: l, _, _, _, _, ⟨F1, F2, e, h1, h2⟩ => by
    obtain ⟨G1, G2, e2, g1, g2⟩ := Star.split (l := l) h2
    subst e e2
    exact ⟨F1 ++ G1, G2, (List.append_assoc ..).symm, ⟨F1, G1, rfl, h1, g1⟩, g2⟩

/-- the context of a call: the written part, the heap and its shared part at the entry, what the call may change, its arguments, the wish about errors -/
structure Ct where
  K : PySem.W.Frag
  H0 : Hp
  S0 : Hp
  P : List Addr
  A : Nat → Option V
  W : Hp → String → Prop
structure OkS (C : Ct) (S : Hp) (F : List Addr) (H : Hp) : Prop where
  nd : F.Nodup
  dj : ∀ p ∈ F, S p = none
  sh : Sub S H
  s0 : Sub C.S0 S
  fr : ∀ p o, C.H0 p = some o → p ∉ C.P → H p = some o
  nw : ∀ p, (p ∈ F ∨ S p ≠ none) → C.S0 p ≠ none ∨ p ∈ C.P ∨ C.H0 p = none
def Hd (C : Ct) (l : List Assn) (H : Hp) : Prop := ∃ S F, Star l S H F ∧ OkS C S F H
theorem OkS.perm {C : Ct} {S H : Hp} {F F' : List Addr} (h : OkS C S F H) (p : F.Perm F') : OkS C S F' H :=
  ⟨p.nodup_iff.mp h.nd, fun q hq => h.dj q (p.mem_iff.mpr hq), h.sh, h.s0, h.fr, fun q hq => h.nw q (hq.imp_left p.mem_iff.mpr)⟩
theorem OkS.less {C : Ct} {S H : Hp} {F F' : List Addr} (h : OkS C S F H) (p : F'.Sublist F) : OkS C S F' H :=
  ⟨h.nd.sublist p, fun q hq => h.dj q (p.subset hq), h.sh, h.s0, h.fr, fun q hq => h.nw q (hq.imp_left fun z => p.subset z)⟩
theorem Hd.perm {C : Ct} {l l' : List Assn} {H : Hp} (h : Hd C l H) (p : l.Perm l') : Hd C l' H := by
  obtain ⟨S, F, s, o⟩ := h
  obtain ⟨F', q, s'⟩ := s.perm p
  exact ⟨S, F', s', o.perm q⟩
theorem Hd.drop {C : Ct} {a : Assn} {l : List Assn} {H : Hp} (h : Hd C (a :: l) H) : Hd C l H := by
  obtain ⟨S, F, ⟨F1, F2, e, h1, h2⟩, o⟩ := h
  subst e
  exact ⟨S, F2, h2, o.less (List.sublist_append_right _ _)⟩
theorem Hd.dropL {C : Ct} {l l' : List Assn} {H : Hp} (h : Hd C (l ++ l') H) : Hd C l' H := by
  obtain ⟨S, F, s, o⟩ := h
  obtain ⟨F1, F2, e, _, h2⟩ := s.split
  subst e
  exact ⟨S, F2, h2, o.less (List.sublist_append_right _ _)⟩
theorem Hd.dropR {C : Ct} {l l' : List Assn} {H : Hp} (h : Hd C (l ++ l') H) : Hd C l H := by
  obtain ⟨S, F, s, o⟩ := h
  obtain ⟨F1, F2, e, h1, _⟩ := s.split
  subst e
  exact ⟨S, F1, h1, o.less (List.sublist_append_left _ _)⟩
/-- an item is changed for what follows of it, where it stands -/
theorem Hd.imp {C : Ct} {a b : Assn} {l : List Assn} {H : Hp} (h : Hd C (a :: l) H) (k : ∀ S F, a.p S H F → b.p S H F) : Hd C (b :: l) H := by
  obtain ⟨S, F, ⟨F1, F2, e, h1, h2⟩, o⟩ := h
  exact ⟨S, F, ⟨F1, F2, e, k S F1 h1, h2⟩, o⟩
/-- the heap has grown -/
theorem OkS.grow {C : Ct} {S H H' : Hp} {F : List Addr} (h : OkS C S F H) (e : Sub H H') : OkS C S F H' :=
  ⟨h.nd, h.dj, h.sh.trans e, h.s0, fun p o q r => e p o (h.fr p o q r), h.nw⟩
theorem Hd.grow {C : Ct} {l : List Assn} {H H' : Hp} (h : Hd C l H) (e : Sub H H') : Hd C l H' := by
  obtain ⟨S, F, s, o⟩ := h
  exact ⟨S, F, s.mono (Sub.refl S) (fun q hq => e.at (s.here q hq)), o.grow e⟩
/-- something is added that has its own new objects -/
structure Ext (S H S' H' : Hp) (F : List Addr) : Prop where
  hh : Sub H H'
  ss : Sub S S'
  sh : Sub S' H'
  nw : ∀ p, S' p ≠ none → S p ≠ none ∨ H p = none
  fr : ∀ p ∈ F, H p = none ∧ S' p = none
  nd : F.Nodup
theorem Ext.refl {S H : Hp} (h : Sub S H) : Ext S H S H [] := ⟨Sub.refl H, Sub.refl S, h, fun p q => .inl q, (fun p hp => nomatch hp), List.nodup_nil⟩
theorem Ext.trans {S H S1 H1 S2 H2 : Hp} {F F' : List Addr} (a : Ext S H S1 H1 F) (b : Ext S1 H1 S2 H2 F') (hl : ∀ p ∈ F, H1 p ≠ none) : Ext S H S2 H2 (F' ++ F) where
  hh := a.hh.trans b.hh
  ss := a.ss.trans b.ss
  sh := b.sh
  nw p q := by
    rcases b.nw p q with z | z
    · exact a.nw p z
    · exact .inr (a.hh.back z)
  fr p hp := by
    rcases List.mem_append.mp hp with hp | hp
    · exact ⟨a.hh.back (b.fr p hp).1, (b.fr p hp).2⟩
    · refine ⟨(a.fr p hp).1, ?_⟩
      cases q : S2 p with
      | none => rfl
      | some o =>
        rcases b.nw p (by rw [q]; exact fun z => nomatch z) with z | z
        · exact absurd (a.fr p hp).2 z
        · exact absurd z (hl p hp)
  nd := by
    refine List.nodup_append.mpr ⟨b.nd, a.nd, fun x hx y hy e => ?_⟩
    subst e
    exact hl x hy (b.fr x hx).1
theorem Ext.perm {S H S' H' : Hp} {F F' : List Addr} (e : Ext S H S' H' F) (p : F.Perm F') : Ext S H S' H' F' := ⟨e.hh, e.ss, e.sh, e.nw, fun q hq => e.fr q (p.mem_iff.mpr hq), p.nodup_iff.mp e.nd⟩
/-- the objects at F become shared -/
theorem Ext.share {S H S' H' : Hp} {F : List Addr} (e : Ext S H S' H' F) (hl : ∀ p ∈ F, H' p ≠ none) : Ext S H (add S' H' F) H' [] where
  hh := e.hh
  ss := e.ss.trans (add_sub fun p hp => (e.fr p hp).2)
  sh := add_le e.sh
  nw p q := by
    by_cases h : p ∈ F
    · exact .inr (e.fr p h).1
    · rw [add_out h] at q; exact e.nw p q
  fr p hp := nomatch hp
  nd := List.nodup_nil
theorem OkS.ext {C : Ct} {S H S' H' : Hp} {F F' : List Addr} (h : OkS C S F H) (e : Ext S H S' H' F') (hl : ∀ p ∈ F, H p ≠ none) : OkS C S' (F' ++ F) H' where
  nd := by
    refine List.nodup_append.mpr ⟨e.nd, h.nd, fun x hx y hy z => ?_⟩
    subst z
    exact hl x hy (e.fr x hx).1
  dj p hp := by
    rcases List.mem_append.mp hp with hp | hp
    · exact (e.fr p hp).2
    · cases q : S' p with
      | none => rfl
      | some o =>
        rcases e.nw p (by rw [q]; exact fun z => nomatch z) with z | z
        · exact absurd (h.dj p hp) z
        · exact absurd z (hl p hp)
  sh := e.sh
  s0 := h.s0.trans e.ss
  fr p o q r := e.hh p o (h.fr p o q r)
  nw p q := by
    have back : H p = none → C.S0 p ≠ none ∨ p ∈ C.P ∨ C.H0 p = none := fun z => by
      by_cases hp : p ∈ C.P
      · exact .inr (.inl hp)
      · refine .inr (.inr ?_)
        cases y : C.H0 p with
        | none => rfl
        | some o => rw [h.fr p o y hp] at z; cases z
    rcases q with q | q
    · rcases List.mem_append.mp q with q | q
      · exact back (e.fr p q).1
      · exact h.nw p (.inl q)
    · rcases e.nw p q with z | z
      · exact h.nw p (.inr z)
      · exact back z
/-- the objects of an item become shared -/
theorem OkS.share {C : Ct} {S H : Hp} {F F' : List Addr} (h : OkS C S (F ++ F') H) : OkS C (add S H F) F' H where
  nd := (List.nodup_append.mp h.nd).2.1
  dj p hp := by
    have hn : p ∉ F := fun z => (List.nodup_append.mp h.nd).2.2 p z p hp rfl
    rw [add_out hn]
    exact h.dj p (List.mem_append_right _ hp)
  sh := add_le h.sh
  s0 := h.s0.trans (add_sub fun p hp => h.dj p (List.mem_append_left _ hp))
  fr := h.fr
  nw p q := by
    rcases q with q | q
    · exact h.nw p (.inl (List.mem_append_right _ q))
    · by_cases hp : p ∈ F
      · exact h.nw p (.inl (List.mem_append_left _ hp))
      · rw [add_out hp] at q; exact h.nw p (.inr q)
theorem Hd.share {C : Ct} {K : PySem.W.Frag} {k : Nat} {α : Type} [T : PyTy α] {a : α} {v : V} {l : List Assn} {H : Hp} (h : Hd C (itm K k a v :: l) H) : Hd C (itm K 0 a v :: l) H := by
  obtain ⟨S, F, ⟨F1, F2, e, h1, h2⟩, o⟩ := h
  subst e
  have dj : ∀ p ∈ F1, S p = none := fun p hp => o.dj p (List.mem_append_left _ hp)
  refine ⟨add S H F1, F2, ⟨[], F2, rfl, T.freeze h1 (add_sub dj) (fun p hp => add_in hp) H, h2.mono (add_sub dj) fun _ _ => rfl⟩, o.share⟩
/-- what is held may be looked at -/
theorem look {K : PySem.W.Frag} {k : Nat} {α : Type} [T : PyTy α] {a : α} {v : V} {S H : Hp} {F : List Addr} (h : T.rep K k S H v a F) (hs : Sub S H) : T.rep K 0 H H v a [] := T.freeze h hs (fun _ _ => rfl) H
end VL
namespace VL
open PySem PySem.Spec PyProof.Rows L2

/-! ### looking: expressions that change nothing -/
def viewA (K : PySem.W.Frag) (m : Mode) (s : Slot) (v : Option V) (S H : Hp) : Prop := match m with
  | .un => True
  | .vw => ∃ x, v = some x ∧ s.inst.rep K 0 H H x s.a []
  | .id _ => ∃ x, v = some x ∧ s.inst.rep K 0 H H x s.a []
  | .own _ _ => ∃ x, v = some x ∧ s.inst.rep K 0 S S x s.a []
def View (K : PySem.W.Frag) (S H : Hp) : List Mode → List Slot → List (Option V) → Prop
  | [], [], [] => True
  | m :: ms, s :: ss, v :: vs => viewA K m s v S H ∧ View K S H ms ss vs
  | _, _, _ => False
theorem viewA.mono {K : PySem.W.Frag} {m : Mode} {s : Slot} {v : Option V} {S H S' H' : Hp} (h : viewA K m s v S H) (hs : Sub S S') (hh : Sub H H') : viewA K m s v S' H' := by
  cases m with
  | un => trivial
  | vw => obtain ⟨x, e, r⟩ := h; exact ⟨x, e, s.inst.mono r hh fun p hp => nomatch hp⟩
  | id _ => obtain ⟨x, e, r⟩ := h; exact ⟨x, e, s.inst.mono r hh fun p hp => nomatch hp⟩
  | own k io => obtain ⟨x, e, r⟩ := h; exact ⟨x, e, s.inst.mono r hs fun p hp => nomatch hp⟩
theorem View.mono {K : PySem.W.Frag} {S H S' H' : Hp} : ∀ {ms : List Mode} {ss : List Slot} {vs : List (Option V)}, View K S H ms ss vs → Sub S S' → Sub H H' → View K S' H' ms ss vs
  | [], [], [], _, _, _ => trivial
  | _ :: _, _ :: _, _ :: _, ⟨h1, h2⟩, hs, hh => ⟨h1.mono hs hh, View.mono h2 hs hh⟩
  | [], [], _ :: _, h, _, _ => h.elim
  | [], _ :: _, _, h, _, _ => h.elim
  | _ :: _, [], _, h, _, _ => h.elim
  | _ :: _, _ :: _, [], h, _, _ => h.elim
theorem View.get {K : PySem.W.Frag} {S H : Hp} : ∀ {ms : List Mode} {ss : List Slot} {vs : List (Option V)} {i : Nat} {m : Mode} {s : Slot}, View K S H ms ss vs → ms[i]? = some m → ss[i]? = some s → ∃ v, vs[i]? = some v ∧ viewA K m s v S H
  | [], [], [], _, _, _, _, e, _ => by simp at e
  | [], [], _ :: _, _, _, _, h, _, _ => h.elim
  | [], _ :: _, _, _, _, _, h, _, _ => h.elim
  | _ :: _, [], _, _, _, _, h, _, _ => h.elim
  | _ :: _, _ :: _, [], _, _, _, h, _, _ => h.elim
  | _ :: _, _ :: _, _ :: _, 0, _, _, h, e1, e2 => by cases e1; cases e2; exact ⟨_, rfl, h.1⟩
  | _ :: _, _ :: _, _ :: _, i + 1, _, _, h, e1, e2 => View.get (i := i) h.2 e1 e2
theorem View.len {K : PySem.W.Frag} {S H : Hp} : ∀ {ms : List Mode} {ss : List Slot} {vs : List (Option V)}, View K S H ms ss vs → ss.length = vs.length ∧ ms.length = vs.length
  | [], [], [], _ => ⟨rfl, rfl⟩
  | [], [], _ :: _, h => h.elim
  | [], _ :: _, _, h => h.elim
  | _ :: _, [], _, h => h.elim
  | _ :: _, _ :: _, [], h => h.elim
  | _ :: _, _ :: _, _ :: _, h => by have := View.len h.2; simp only [List.length_cons]; omega
theorem View.set {K : PySem.W.Frag} {S H : Hp} : ∀ {ms : List Mode} {ss : List Slot} {vs : List (Option V)} {i : Nat} {m : Mode} {s : Slot} {v : Option V}, View K S H ms ss vs → viewA K m s v S H → View K S H (ms.set i m) (ss.set i s) (vs.set i v)
  | [], [], [], _, _, _, _, _, _ => trivial
  | [], [], _ :: _, _, _, _, _, h, _ => h.elim
  | [], _ :: _, _, _, _, _, _, h, _ => h.elim
  | _ :: _, [], _, _, _, _, _, h, _ => h.elim
  | _ :: _, _ :: _, [], _, _, _, _, h, _ => h.elim
  | _ :: _, _ :: _, _ :: _, 0, _, _, _, h, h1 => ⟨h1, h.2⟩
  | _ :: _, _ :: _, _ :: _, i + 1, _, _, _, h, h1 => ⟨h.1, View.set (i := i) h.2 h1⟩

/-- what is known of a value that has come: vw: as the heap stands; own k: k layers new, the rest shared -/
def got (K : PySem.W.Frag) (kd : Mode) {α : Type} [T : PyTy α] (a : α) (S H : Hp) (v : V) (F : List Addr) : Prop := match kd with
  | .un => F = []
  | .vw => F = [] ∧ T.rep K 0 H H v a []
  | .id _ => F = [] ∧ T.rep K 0 H H v a []
  | .own k _ => T.rep K k S H v a F
theorem got.mono {K : PySem.W.Frag} {kd : Mode} {α : Type} [T : PyTy α] {a : α} {S H S' H' : Hp} {v : V} {F : List Addr} (h : got K kd a S H v F) (hs : Sub S S') (hh : Sub H H') (hl : ∀ p ∈ F, H p ≠ none) : got K kd a S' H' v F := by
  cases kd with
  | un => exact h
  | vw => exact ⟨h.1, T.mono h.2 hh fun p hp => nomatch hp⟩
  | id _ => exact ⟨h.1, T.mono h.2 hh fun p hp => nomatch hp⟩
  | own k io => exact T.mono h hs fun p hp => hh.at (hl p hp)
theorem got.here {K : PySem.W.Frag} {kd : Mode} {α : Type} [T : PyTy α] {a : α} {S H : Hp} {v : V} {F : List Addr} (h : got K kd a S H v F) : ∀ p ∈ F, H p ≠ none := by
  cases kd with
  | un => rw [show F = [] from h]; intro p hp; cases hp
  | vw => rw [h.1]; intro p hp; cases hp
  | id _ => rw [h.1]; intro p hp; cases hp
  | own k io => exact T.here h
theorem got.look {K : PySem.W.Frag} {kd : Mode} {α : Type} [T : PyTy α] {a : α} {S H : Hp} {v : V} {F : List Addr} (h : got K kd a S H v F) (hs : Sub S H) (hk : kd ≠ .un) : T.rep K 0 H H v a [] := by
  cases kd with
  | un => exact absurd rfl hk
  | vw => exact h.2
  | id _ => exact h.2
  | own k io => exact VL.look h hs

/-- the reading of an expression that only looks: f tells its value -/
def tP (K : PySem.W.Frag) (W : Hp → String → Prop) {ρ : Type} (sl : ρ → List Slot) (ms : List Mode) {α : Type} [T : PyTy α] (f : ρ → M α) (kd : Mode) : TE := fun σ H Q =>
  ∃ (r : ρ) (S : Hp), Sub S H ∧ View K S H ms (sl r) σ ∧ ends (f r) (fun a => ∀ v S' H' F, Ext S H S' H' F → got K kd a S' H' v F → Q v H') (fun c => ∀ H', Sub H H' → W H' c)
def tPT (K : PySem.W.Frag) (W : Hp → String → Prop) {ρ : Type} (sl : ρ → List Slot) (ms : List Mode) (f : ρ → M Bool) : TT := fun σ H Q =>
  ∃ (r : ρ) (S : Hp), Sub S H ∧ View K S H ms (sl r) σ ∧ ends (f r) (fun a => ∀ S' H', Ext S H S' H' [] → Q a H') (fun c => ∀ H', Sub H H' → W H' c)
theorem PE.conv {X : Cx} {e : Expr} {t t' : TE} (h : PE X e t) (k : ∀ σ H Q, t' σ H Q → t σ H Q) : PE X e t' := ⟨fun pins s σ H Q I q => h.run pins s σ H Q I (k σ H Q q)⟩
theorem PT.conv {X : Cx} {e : Expr} {t t' : TT} (h : PT X e t) (k : ∀ σ H Q, t' σ H Q → t σ H Q) : PT X e t' := ⟨fun pins s σ H Q I q => h.run pins s σ H Q I (k σ H Q q)⟩
theorem PW.conv {X : Cx} {e : Expr} {t t' : TT} (h : PW X e t) (k : ∀ σ H Q, t' σ H Q → t σ H Q) : PW X e t' := ⟨fun w pins s σ H Q I q => h.run w pins s σ H Q I (k σ H Q q)⟩
theorem PA.conv {X : Cx} {es : List Expr} {t t' : TA} (h : PA X es t) (k : ∀ σ H Q, t' σ H Q → t σ H Q) : PA X es t' := ⟨fun pos pins s σ H Q I q => h.run pos pins s σ H Q I (k σ H Q q)⟩
theorem PS.conv {X : Cx} {e : Stmt} {t t' : TS} (h : PS X e t) (k : ∀ D σ H, t' D σ H → t D σ H) : PS X e t' := ⟨fun pins s σ H D I q => h.run pins s σ H D I (k D σ H q)⟩
theorem PSs.conv {X : Cx} {e : List Stmt} {t t' : TS} (h : PSs X e t) (k : ∀ D σ H, t' D σ H → t D σ H) : PSs X e t' := ⟨fun pins s σ H D I q => h.run pins s σ H D I (k D σ H q)⟩

/-! ### the functions that expressions are -/
def up {α : Type} : Option α → M α
  | some a => .ok a
  | none => .error .stuck
def mute {α : Type} : M α → M α
  | .ok a => .ok a
  | .error _ => .error .stuck
section
variable {ρ α β γ δ : Type}
def e0 (a : α) : ρ → M α := fun _ => .ok a
def eV (g : ρ → α) : ρ → M α := fun r => .ok (g r)
def e1 (op : α → Option β) (f : ρ → M α) : ρ → M β := fun r => f r >>= fun a => up (op a)
def e2 (op : α → β → Option γ) (f : ρ → M α) (g : ρ → M β) : ρ → M γ := fun r => f r >>= fun a => g r >>= fun b => up (op a b)
def e3 (op : α → β → γ → Option δ) (f : ρ → M α) (g : ρ → M β) (h : ρ → M γ) : ρ → M δ := fun r => f r >>= fun a => g r >>= fun b => h r >>= fun c => up (op a b c)
def eIf (c : ρ → M Bool) (f g : ρ → M α) : ρ → M α := fun r => c r >>= fun b => if b then f r else g r
def eAnd (f g : ρ → M Bool) : ρ → M Bool := fun r => f r >>= fun b => if b then g r else .ok false
def eOr (f g : ρ → M Bool) : ρ → M Bool := fun r => f r >>= fun b => if b then .ok true else g r
end

section
variable {X : Cx} {K : PySem.W.Frag} {W : Hp → String → Prop} {ρ : Type} {sl : ρ → List Slot} {ms : List Mode} {a b c e : Expr} {pos : Pos}
variable {α β γ : Type} [TA : PyTy α] [TB : PyTy β] [TC : PyTy γ]

/-- what has come may be shared -/
theorem pv_share {f : ρ → M α} {k : Nat} {io : Option Nat} (h : PE X e (tP K W sl ms f (.own k io))) : PE X e (tP K W sl ms f (lv 0)) :=
  PE.conv h fun σ H Q ⟨r, S, hs, hv, he⟩ => ⟨r, S, hs, hv, ends_mono he (fun a ea q v S' H' F x g => q v (add S' H' F) H' [] (x.share (TA.here g)) (TA.freeze g (add_sub fun p hp => (x.fr p hp).2) (fun p hp => add_in hp) H')) fun c q => q⟩
/-- .. or only looked at -/
theorem pv_look {f : ρ → M α} {kd : Mode} (h : PE X e (tP K W sl ms f kd)) (hk : kd ≠ .un := by decide) : PE X e (tP K W sl ms f .vw) :=
  PE.conv h fun σ H Q ⟨r, S, hs, hv, he⟩ => ⟨r, S, hs, hv, ends_mono he (fun a ea q v S' H' F x g => q v (add S' H' F) H' [] (x.share g.here) ⟨rfl, g.look x.sh hk⟩) fun c q => q⟩
/-- a look at what has no object is as good as any -/
theorem pv_scal {α : Type} [PT : PyTy α] [T : Scal α] {f : ρ → M α} {kd : Mode} (k : Nat) (h : PE X e (tP K W sl ms f kd)) (hk : kd ≠ .un := by decide) : PE X e (tP K W sl ms f (lv k)) :=
  PE.conv h fun σ H Q ⟨r, S, hs, hv, he⟩ => ⟨r, S, hs, hv, ends_mono he (fun a ea q v S' H' F x g => by
    have e := (T.scal.mp (g.look x.sh hk)).1
    exact q v (add S' H' F) H' [] (x.share g.here) (T.scal.mpr ⟨e, rfl⟩)) fun c q => q⟩

theorem pv_c {α : Type} [PT : PyTy α] [T : Scal α] {x : α} (h : PE X e (tC (T.val x))) : PE X e (tP K W sl ms (e0 x) (lv 0)) :=
  PE.conv h fun σ H Q ⟨r, S, hs, hv, he⟩ => he _ S H [] (Ext.refl hs) (T.scal.mpr ⟨rfl, rfl⟩)
theorem pv_int {i : Int} {j : Nat} : PE X (.Constant (.int i) j pos) (tP K W sl ms (e0 i) (lv 0)) := pv_c (α := Int) pe_int
theorem pv_bl {i : Bool} {j : Nat} : PE X (.Constant (.bool i) j pos) (tP K W sl ms (e0 i) (lv 0)) := pv_c (α := Bool) pe_bl
theorem pv_str {i : Str} {j : Nat} : PE X (.Constant (.str i) j pos) (tP K W sl ms (e0 i) (lv 0)) := pv_c (α := Str) pe_str
theorem pv_non {j : Nat} : PE X (.Constant .none j pos) (tP K W sl ms (e0 ()) (lv 0)) := pv_c (α := Unit) pe_non

/-- a name whose slot is shared; one that is looked at -/
theorem pv_v {g : ρ → α} (i : Nat) (h : PE X e (tVar i)) (hm : ms[i]? = some (lv 0)) (hg : ∀ r, (sl r)[i]? = some ⟨g r⟩) : PE X e (tP K W sl ms (eV g) (lv 0)) :=
  PE.conv h fun σ H Q ⟨r, S, hs, hv, he⟩ => by
    obtain ⟨v, e, x, e2, q⟩ := hv.get hm (hg r)
    subst e2
    exact ⟨x, e, he x S H [] (Ext.refl hs) (TA.mono q (Sub.refl S) fun p hp => nomatch hp)⟩
theorem pv_w {g : ρ → α} (i : Nat) (h : PE X e (tVar i)) (hm : ms[i]? = some .vw) (hg : ∀ r, (sl r)[i]? = some ⟨g r⟩) : PE X e (tP K W sl ms (eV g) .vw) :=
  PE.conv h fun σ H Q ⟨r, S, hs, hv, he⟩ => by
    obtain ⟨v, e, x, e2, q⟩ := hv.get hm (hg r)
    subst e2
    exact ⟨x, e, he x S H [] (Ext.refl hs) ⟨rfl, q⟩⟩

/-- two expressions in a row -/
theorem two {f : ρ → M α} {g : ρ → M β} {ka kb : Mode} (ha : PE X a (tP K W sl ms f ka)) (hb : PE X b (tP K W sl ms g kb)) {σ : L2.St} {H : Hp} {R : V → V → Hp → Prop} {S : Hp} {r : ρ} (hs : Sub S H) (hv : View K S H ms (sl r) σ)
    (h : ends (f r) (fun x => ends (g r) (fun y => ∀ v u S' H' F1 F2, Ext S H S' H' (F2 ++ F1) → got K ka x S' H' v F1 → got K kb y S' H' u F2 → R v u H') (fun c => ∀ H', Sub H H' → W H' c)) (fun c => ∀ H', Sub H H' → W H' c)) :
    tP K W sl ms f ka σ H fun v H1 => tP K W sl ms g kb σ H1 fun u H2 => R v u H2 :=
  ⟨r, S, hs, hv, ends_mono h (fun x ex q v S1 H1 F1 x1 g1 => ⟨r, S1, x1.sh, hv.mono x1.ss x1.hh, ends_mono q (fun y ey q u S2 H2 F2 x2 g2 => q v u S2 H2 F1 F2 (x1.trans x2 g1.here) (g1.mono x2.ss x2.hh g1.here) g2) fun c q H' h => q H' (x1.hh.trans h)⟩) fun c q => q⟩

/-! ### operations on values, whose outcome is new or without an object -/
/-- closed: what comes has k layers of its own, and nothing below -/
def New (K : PySem.W.Frag) (k : Nat) {α : Type} [T : PyTy α] (a : α) (H : Hp) (v : V) (H' : Hp) : Prop := ∃ F, Sub H H' ∧ (∀ p ∈ F, H p = none) ∧ F.Nodup ∧ ∀ S, T.rep K k S H' v a F
def Op2 (K : PySem.W.Frag) (r : R2) (op : α → β → Option γ) (k : Nat) : Prop :=
  ∀ (H : Hp) (x y : V) (a : α) (b : β) (c : γ) (Q : VK), TA.rep K 0 H H x a [] → TB.rep K 0 H H y b [] → op a b = some c → (∀ v H', New K k c H v H' → Q v H') → r x y H Q
def Op1 (K : PySem.W.Frag) (r : V → Hp → VK → Prop) (op : α → Option γ) (k : Nat) : Prop :=
  ∀ (H : Hp) (x : V) (a : α) (c : γ) (Q : VK), TA.rep K 0 H H x a [] → op a = some c → (∀ v H', New K k c H v H' → Q v H') → r x H Q
theorem New.scal {α : Type} [PT : PyTy α] [T : Scal α] {a : α} {k : Nat} {H : Hp} : New K k a H (T.val a) H := ⟨[], Sub.refl H, (fun p hp => nomatch hp), List.nodup_nil, fun S => T.scal.mpr ⟨rfl, rfl⟩⟩
theorem New.got {k : Nat} {a : α} {S H H' : Hp} {v : V} (h : New K k a H v H') (hs : Sub S H) : ∃ F, Ext S H S H' F ∧ VL.got K (lv k) a S H' v F := by
  obtain ⟨F, hh, hn, nd, r⟩ := h
  exact ⟨F, ⟨hh, Sub.refl S, hs.trans hh, fun p q => .inl q, fun p hp => ⟨hn p hp, hs.back (hn p hp)⟩, nd⟩, r S⟩
theorem up_ends {o : Option γ} {P : γ → Prop} {E : String → Prop} (h : ends (up o) P E) : ∃ c, o = some c ∧ P c := by
  cases o with
  | none => exact h.elim
  | some c => exact ⟨c, rfl, h⟩
theorem pv_e2 {t : R2} {op : α → β → Option γ} {k : Nat} {f : ρ → M α} {g : ρ → M β} {ka kb : Mode} (hp : Op2 K t op k) (ha : PE X a (tP K W sl ms f ka)) (hb : PE X b (tP K W sl ms g kb))
    (h : PE X e (tOp t (tP K W sl ms f ka) (tP K W sl ms g kb))) (hka : ka ≠ .un := by decide) (hkb : kb ≠ .un := by decide) : PE X e (tP K W sl ms (e2 op f g) (lv k)) :=
  PE.conv h fun σ H Q ⟨r, S, hs, hv, he⟩ => by
    refine two ha hb hs hv ?_
    refine ends_mono (ends_bind he) (fun x ex q => ends_mono (ends_bind q) (fun y ey q v u S' H' F1 F2 x g1 g2 => ?_) fun c q => q) fun c q => q
    obtain ⟨z, ez, q⟩ := up_ends q
    refine hp H' v u _ _ z Q (g1.look x.sh hka) (g2.look x.sh hkb) ez fun w' H2 hn => ?_
    obtain ⟨F, x2, g3⟩ := hn.got x.sh
    have x0 := (x.share (F := F2 ++ F1) fun p hp => (List.mem_append.mp hp).elim (g2.here p) (g1.here p))
    obtain ⟨F, x2, g3⟩ := hn.got x0.sh
    refine q w' _ H2 F ?_ g3
    have := x0.trans x2 (fun p hp => nomatch hp)
    rw [List.append_nil] at this
    exact this
theorem pv_e1 {t : V → Hp → VK → Prop} {op : α → Option γ} {k : Nat} {f : ρ → M α} {ka : Mode} (hp : Op1 K t op k) (h : PE X e (tUn t (tP K W sl ms f ka))) (hka : ka ≠ .un := by decide) : PE X e (tP K W sl ms (e1 op f) (lv k)) :=
  PE.conv h fun σ H Q ⟨r, S, hs, hv, he⟩ => ⟨r, S, hs, hv, ends_mono (ends_bind he) (fun x ex q v S' H' F x g => by
    obtain ⟨z, ez, q⟩ := up_ends q
    refine hp H' v _ z Q (g.look x.sh hka) ez fun w' H2 hn => ?_
    have x0 := x.share g.here
    obtain ⟨F, x2, g3⟩ := hn.got x0.sh
    refine q w' _ H2 F ?_ g3
    have := x0.trans x2 (fun p hp => nomatch hp)
    rw [List.append_nil] at this
    exact this) fun c q => q⟩
/-- a binary operation of the text, a comparison, a unary one -/
theorem pv_bin {o : Operator} {t : R2} {op : α → β → Option γ} {k : Nat} {f : ρ → M α} {g : ρ → M β} {ka kb : Mode} (ho : OpR X (binaryOp o) t) (hp : Op2 K t op k) (ha : PE X a (tP K W sl ms f ka)) (hb : PE X b (tP K W sl ms g kb)) (hka : ka ≠ .un := by decide) (hkb : kb ≠ .un := by decide) :
    PE X (.BinOp a o b pos) (tP K W sl ms (e2 op f g) (lv k)) := pv_e2 hp ha hb (pe_op ho ha hb) hka hkb
theorem pv_cmp {o : CmpOp} {t : R2} {op : α → β → Option γ} {k : Nat} {f : ρ → M α} {g : ρ → M β} {ka kb : Mode} (ho : OpR X (compareOp o) t) (hp : Op2 K t op k) (ha : PE X a (tP K W sl ms f ka)) (hb : PE X b (tP K W sl ms g kb)) (hm : behindInMarks o b = false) (hka : ka ≠ .un := by decide) (hkb : kb ≠ .un := by decide) :
    PE X (.Compare a [o] [b] pos) (tP K W sl ms (e2 op f g) (lv k)) := pv_e2 hp ha hb (pe_cmpR ho ha hb hm) hka hkb
theorem pv_un {o : UnaryOp} {t : V → Hp → VK → Prop} {op : α → Option γ} {k : Nat} {f : ρ → M α} {ka : Mode} (ho : UnR X (unaryOp o) t) (hp : Op1 K t op k) (ha : PE X a (tP K W sl ms f ka)) (hka : ka ≠ .un := by decide) :
    PE X (.UnaryOp o a pos) (tP K W sl ms (e1 op f) (lv k)) := pv_e1 hp (pe_un ho ha) hka

/-! ### tests -/
theorem tPT_of {t : TE} {f : ρ → M Bool} {kd : Mode} (hk : kd ≠ .un) {σ : L2.St} {H : Hp} {Q : Bool → Hp → Prop} (h : tPT K W sl ms f σ H Q) : tP K W sl ms f kd σ H fun x H1 => ∃ c, x = .bl c ∧ Q c H1 := by
  obtain ⟨r, S, hs, hv, he⟩ := h
  refine ⟨r, S, hs, hv, ends_mono he (fun a ea q v S' H' F x g => ?_) fun c q => q⟩
  have z := Scal.scal.mp (g.look x.sh hk)
  exact ⟨a, z.1, q _ H' (x.share g.here)⟩
/-- a name, a call .. as a test -/
theorem pt_e {f : ρ → M Bool} {kd : Mode} (h : PE X e (tP K W sl ms f kd)) (hk : kd ≠ .un := by decide) (he : ∀ whole, isTrue e X.env whole = (do let v ← whole; standAt e.pos; holding [v] (truthy v)) := by intro _; rfl) : PT X e (tPT K W sl ms f) :=
  PT.conv (pt_val h he) fun σ H Q q => tPT_of (t := tP K W sl ms f kd) hk q
theorem pt_cmpV {o : CmpOp} {t : R2} {op : α → β → Option Bool} {f : ρ → M α} {g : ρ → M β} {ka kb : Mode} (ho : OpR X (compareOp o) t) (hp : Op2 K t op 0) (ha : PE X a (tP K W sl ms f ka)) (hb : PE X b (tP K W sl ms g kb)) (hm : behindInMarks o b = false) (hka : ka ≠ .un := by decide) (hkb : kb ≠ .un := by decide) :
    PT X (.Compare a [o] [b] pos) (tPT K W sl ms (e2 op f g)) :=
  PT.conv (pt_cmpR ho ha hb hm) fun σ H Q q => by
    obtain ⟨r, S, hs, hv, he⟩ := q
    refine two (R := fun x y H2 => t x y H2 fun z H3 => ∃ k, z = .bl k ∧ Q k H3) ha hb hs hv ?_
    refine ends_mono (ends_bind he) (fun x ex q => ends_mono (ends_bind q) (fun y ey q v u S' H' F1 F2 x g1 g2 => ?_) fun c q => q) fun c q => q
    obtain ⟨z, ez, q⟩ := up_ends q
    refine hp H' v u _ _ z _ (g1.look x.sh hka) (g2.look x.sh hkb) ez fun w' H2 hn => ?_
    have x0 := (x.share (F := F2 ++ F1) fun p hp => (List.mem_append.mp hp).elim (g2.here p) (g1.here p))
    obtain ⟨F, x2, g3⟩ := hn.got x0.sh
    have z1 := Scal.scal.mp g3
    have e3 := z1.2
    subst e3
    exact ⟨z, z1.1, q (add S' H' (F2 ++ F1)) H2 (x0.trans x2 (fun p hp => nomatch hp))⟩
theorem pt_notV {f : ρ → M Bool} (h : PT X a (tPT K W sl ms f)) : PT X (.UnaryOp .Not a pos) (tPT K W sl ms (e1 (fun b => some !b) f)) :=
  PT.conv (pt_not h) fun σ H Q ⟨r, S, hs, hv, he⟩ => ⟨r, S, hs, hv, ends_mono (ends_bind he) (fun b eb q S' H' x => q S' H' x) fun c q => q⟩
theorem tAnd_of {f g : ρ → M Bool} {tA tB : TT} (hA : tA = tPT K W sl ms f) (hB : tB = tPT K W sl ms g) {σ : L2.St} {H : Hp} {Q : Bool → Hp → Prop} (h : tPT K W sl ms (eAnd f g) σ H Q) : tAnd tA tB σ H Q := by
  subst hA hB
  obtain ⟨r, S, hs, hv, he⟩ := h
  refine ⟨r, S, hs, hv, ends_mono (ends_bind he) (fun b eb q S' H' x => ?_) fun c q => q⟩
  cases b with
  | true =>
    show tPT K W sl ms g σ H' Q
    exact ⟨r, S', x.sh, hv.mono x.ss x.hh, ends_mono q (fun d ed q S2 H2 x2 => q S2 H2 (x.trans x2 fun p hp => nomatch hp)) fun c q H2 h2 => q H2 (x.hh.trans h2)⟩
  | false =>
    show Q false H'
    exact q S' H' x
theorem tOr_of {f g : ρ → M Bool} {tA tB : TT} (hA : tA = tPT K W sl ms f) (hB : tB = tPT K W sl ms g) {σ : L2.St} {H : Hp} {Q : Bool → Hp → Prop} (h : tPT K W sl ms (eOr f g) σ H Q) : tOr tA tB σ H Q := by
  subst hA hB
  obtain ⟨r, S, hs, hv, he⟩ := h
  refine ⟨r, S, hs, hv, ends_mono (ends_bind he) (fun b eb q S' H' x => ?_) fun c q => q⟩
  cases b with
  | false =>
    show tPT K W sl ms g σ H' Q
    exact ⟨r, S', x.sh, hv.mono x.ss x.hh, ends_mono q (fun d ed q S2 H2 x2 => q S2 H2 (x.trans x2 fun p hp => nomatch hp)) fun c q H2 h2 => q H2 (x.hh.trans h2)⟩
  | true =>
    show Q true H'
    exact q S' H' x
theorem pw_and1V {f : ρ → M Bool} (h : PT X a (tPT K W sl ms f)) : PW X (.BoolOp .And [a] pos) (tPT K W sl ms f) := pw_and1 h
theorem pw_or1V {f : ρ → M Bool} (h : PT X a (tPT K W sl ms f)) : PW X (.BoolOp .Or [a] pos) (tPT K W sl ms f) := pw_or1 h
theorem pw_andV {f g : ρ → M Bool} {rest : List Expr} (h : PT X a (tPT K W sl ms f)) (h2 : PW X (.BoolOp .And (b :: rest) pos) (tPT K W sl ms g)) : PW X (.BoolOp .And (a :: b :: rest) pos) (tPT K W sl ms (eAnd f g)) := PW.conv (pw_and h h2) fun _ _ _ q => tAnd_of rfl rfl q
theorem pw_orV {f g : ρ → M Bool} {rest : List Expr} (h : PT X a (tPT K W sl ms f)) (h2 : PW X (.BoolOp .Or (b :: rest) pos) (tPT K W sl ms g)) : PW X (.BoolOp .Or (a :: b :: rest) pos) (tPT K W sl ms (eOr f g)) := PW.conv (pw_or h h2) fun _ _ _ q => tOr_of rfl rfl q
/-! .. as values -/
theorem pv_one {op : BoolOp} {f : ρ → M Bool} {kd : Mode} (h : PE X a (tP K W sl ms f kd)) : PE X (.BoolOp op [a] pos) (tP K W sl ms f kd) := pe_one h
theorem pv_notV {f : ρ → M Bool} {kd : Mode} (h : PE X a (tP K W sl ms f kd)) (hk : kd ≠ .un := by decide) : PE X (.UnaryOp .Not a pos) (tP K W sl ms (e1 (fun b => some !b) f) (lv 0)) :=
  pv_e1 (t := fun x H Q => ∃ c, x = .bl c ∧ Q (.bl (!c)) H) (fun H x a c Q r e q => by
    have z := Scal.scal.mp r
    cases e
    exact ⟨a, z.1, q _ H (New.scal (α := Bool))⟩) (pe_not h) hk
theorem pv_ifV {c : Expr} {t : ρ → M Bool} {f g : ρ → M α} {kd : Mode} (hc : PT X c (tPT K W sl ms t)) (ha : PE X a (tP K W sl ms f kd)) (hb : PE X b (tP K W sl ms g kd)) : PE X (.IfExp c a b pos) (tP K W sl ms (eIf t f g) kd) :=
  PE.conv (pe_ifExp hc ha hb) fun σ H Q ⟨r, S, hs, hv, he⟩ => ⟨r, S, hs, hv, ends_mono (ends_bind he) (fun d ed q S' H' x => by
    cases d with
    | true => exact ⟨r, S', x.sh, hv.mono x.ss x.hh, ends_mono q (fun a ea q v S2 H2 F x2 g => q v S2 H2 F (by have := x.trans x2 (fun p hp => nomatch hp); rw [List.append_nil] at this; exact this) g) fun c q H2 h2 => q H2 (x.hh.trans h2)⟩
    | false => exact ⟨r, S', x.sh, hv.mono x.ss x.hh, ends_mono q (fun a ea q v S2 H2 F x2 g => q v S2 H2 F (by have := x.trans x2 (fun p hp => nomatch hp); rw [List.append_nil] at this; exact this) g) fun c q H2 h2 => q H2 (x.hh.trans h2)⟩) fun c q => q⟩
theorem pv_andV {f g : ρ → M Bool} {rest : List Expr} {ka : Mode} (h : PE X a (tP K W sl ms f ka)) (h2 : PE X (.BoolOp .And (b :: rest) pos) (tP K W sl ms g (lv 0))) (hk : ka ≠ .un := by decide) : PE X (.BoolOp .And (a :: b :: rest) pos) (tP K W sl ms (eAnd f g) (lv 0)) :=
  PE.conv (pe_and h h2) fun σ H Q ⟨r, S, hs, hv, he⟩ => ⟨r, S, hs, hv, ends_mono (ends_bind he) (fun d ed q v S' H' F x g' => by
    have z := Scal.scal.mp (g'.look x.sh hk)
    have x0 := x.share g'.here
    refine ⟨d, z.1, ?_⟩
    cases d with
    | true =>
      rw [if_pos rfl]
      exact ⟨r, _, x0.sh, hv.mono x0.ss x0.hh, ends_mono q (fun a ea q v S2 H2 F x2 g => q v S2 H2 F (by have := x0.trans x2 (fun p hp => nomatch hp); rw [List.append_nil] at this; exact this) g) fun c q H2 h2 => q H2 (x.hh.trans h2)⟩
    | false =>
      rw [if_neg (by decide)]
      exact q _ _ H' [] x0 (Scal.scal.mpr ⟨rfl, rfl⟩)) fun c q => q⟩
theorem pv_orV {f g : ρ → M Bool} {rest : List Expr} {ka : Mode} (h : PE X a (tP K W sl ms f ka)) (h2 : PE X (.BoolOp .Or (b :: rest) pos) (tP K W sl ms g (lv 0))) (hk : ka ≠ .un := by decide) : PE X (.BoolOp .Or (a :: b :: rest) pos) (tP K W sl ms (eOr f g) (lv 0)) :=
  PE.conv (pe_or h h2) fun σ H Q ⟨r, S, hs, hv, he⟩ => ⟨r, S, hs, hv, ends_mono (ends_bind he) (fun d ed q v S' H' F x g' => by
    have z := Scal.scal.mp (g'.look x.sh hk)
    have x0 := x.share g'.here
    refine ⟨d, z.1, ?_⟩
    cases d with
    | false =>
      rw [if_neg (by decide)]
      exact ⟨r, _, x0.sh, hv.mono x0.ss x0.hh, ends_mono q (fun a ea q v S2 H2 F x2 g => q v S2 H2 F (by have := x0.trans x2 (fun p hp => nomatch hp); rw [List.append_nil] at this; exact this) g) fun c q H2 h2 => q H2 (x.hh.trans h2)⟩
    | true =>
      rw [if_pos rfl]
      exact q _ _ H' [] x0 (Scal.scal.mpr ⟨rfl, rfl⟩)) fun c q => q⟩
end
end VL
namespace VL
open PySem PySem.Spec PyProof.Rows L2

/-! ### set(xs) of a list of ints -/
abbrev set0 (w : World) : Obj := { cls := .type "set", dict := none, data := .set #[] 0 (.fresh 0 0 (!w.params.followText "set-order")) }
abbrev hs0 (w : World) (s : Shared) : Heap := s.heap.push (set0 w)
section
variable {P : Program} {w : World} {A : Around} {E : Value → Shared → Prop} {s : Shared}
/-- what is known behind the filling: a set of just these -/
def SetGot (w : World) (s : Shared) (ns : List Int) (r : Value) (s2 : Shared) : Prop :=
  r = .none ∧ ∃ h2 tk2 c2, s2 = { s with heap := h2, toks := tk2 } ∧ SetR w h2 s.heap.objs.size (fun j => decide (j ∈ ns)) c2 ∧ c2 ≤ ns.length ∧ ∀ b o, s.heap.get? b = some o → h2.get? b = some o
set_option maxHeartbeats 3200000 in
theorem set_of_list {l : Addr} {its : Array Value} (ns : List Int) {Q : Value → Shared → Prop} (quiet : A.handled = none) (hl : s.heap.IsList l its) (hi : IntsAre its.toList ns) (few : ns.length + 1 < scanBound)
    (h : ∀ (h2 : Heap) (tk c : Nat), SetR w h2 s.heap.objs.size (fun j => decide (j ∈ ns)) c → c ≤ ns.length → (∀ b o, s.heap.get? b = some o → h2.get? b = some o) → Q (.ref s.heap.objs.size) { s with heap := h2, toks := tk }) :
    wpAny (model P w) A (call (.type "set") [.ref l]) Q E s := by
  have hz : its.size = ns.length := by
    have q := IntsAre.length hi
    rwa [Array.length_toList] at q
  obtain ⟨c0, tl0, mro0⟩ := F.called_set.mro
  have made0 := F.called_set.made
  have sub0 := F.called_set.sub
  refine wpAny_call (codeAny_of_tree ?_)
  show wpAny _ _ (callAny (.type "set") _) _ _ _
  refine wpAny_pure ⟨Code.quiet_builtin _ (by decide +kernel), codeAny_builtin F.entry_type_call ?_⟩
  rw [Around.under_plain (weight_type_call_type "set" [.ref l] []) rfl]
  have nt0 := F.called_set.notType
  have cc0 := F.called_set.canCreate
  have tc0 := F.typeCall_set_1 (.ref l)
  repeat (any_goals (first | assumption | wp_step))
  refine codeAny_mono (code_set_led1 (.ref l) (E := E) (Q₁ := fun ob s1 => ob = .ref s.heap.objs.size ∧ s1 = { s with heap := hs0 w s }) ⟨rfl, rfl⟩) fun r s1 hr => ?_
  cases r with
  | error e => exact hr
  | ok fl =>
    cases fl with
    | ret ob =>
      obtain ⟨rfl, rfl⟩ := hr
      have at0 : (hs0 w s).get? s.heap.objs.size = some (set0 w) := Heap.get?_push_size _ rfl
      have ty0 : Shared.TypeIs { s with heap := hs0 w s } (.ref s.heap.objs.size) "set" := ⟨_, at0, rfl⟩
      have li0 := F.called_set.init.lookup
      have bi0 := F.called_set.init.bind (.ref s.heap.objs.size)
      repeat (any_goals (first | assumption | wp_step))
      refine codeAny_mono (codeAny_call_builtin (R := wants (SetGot w s ns) E) F.called_set.init.plain F.entry_set_init (check_set_init_1 ty0 ?_)) fun r2 s2 hr2 => ?_
      · obtain ⟨ol, hol, ecl, nl, edl⟩ := hl
        obtain ⟨ocls, odict, odata, oslots⟩ := ol
        simp only at ecl edl
        subst ecl
        subst edl
        have lat : (hs0 w s).get? l = some { cls := .type "list", dict := odict, data := .seq its nl, slots := oslots } := Heap.get?_push_of_some _ hol
        have sls0 := F.sub_list_set
        have slf0 := F.sub_list_frozenset
        have nd0 : (Value.type "list" == Value.type "dict") = false := by decide
        have hl1 : (hs0 w s).IsList l its := ⟨_, lat, rfl, nl, rfl⟩
        unfold Builtin.«set.__init__» noKeywords Builtin.Frozenset.updateFrom
        generalize hPI : pyIter = PI
        wp_walk
        subst hPI
        refine wpAny_pyIter_list hl1 (wpAny_bind (wpAny_runValue ?_))
        have hlS : l < s.heap.objs.size := Heap.lt_size hol
        have quiet3 : A.in1.in1.in1.handled = none := by simp [quiet]
        have szp : (hs0 w s).objs.size = s.heap.objs.size + 1 := Heap.size_push ..
        have neI : l ≠ (hs0 w s).objs.size := by
          rw [szp]
          exact Nat.ne_of_lt (Nat.lt_succ_of_lt hlS)
        have nfp : s.heap.objs.size ∉ [(hs0 w s).objs.size, l] := by
          rw [szp]
          simp only [List.mem_cons, List.not_mem_nil, or_false, not_or]
          exact ⟨Nat.ne_of_lt (Nat.lt_succ_self _), Nat.ne_of_gt hlS⟩
        have vals : ∀ (i : Nat) (v : Value), its[i]? = some v → ∃ k t, ns[i]? = some k ∧ v = .int k t := fun i v hv => by
          have ilt : i < ns.length := by
            rw [← hz]
            exact (Array.getElem?_eq_some_iff.mp hv).1
          obtain ⟨t, e⟩ := PyProof.Rows.IntsAre.int_at hi i v (by rw [Array.getElem?_toList]; exact hv)
          refine ⟨ns[i], t, List.getElem?_eq_getElem ilt, ?_⟩
          rw [e, List.getD_eq_getElem?_getD, List.getElem?_eq_getElem ilt]
          rfl
        refine set_update_ints ((Walks.list quiet3 _ l neI its).toS) s.heap.objs.size nfp ns hz few vals (its.size - 0) 0 _ (by omega) (Nat.zero_le _) ⟨⟨_, Heap.get?_push_size _ rfl, rfl, rfl⟩, (hl1.push _)⟩ ⟨0, Nat.le_refl 0, setR_new_at (Heap.get?_push_of_some _ at0)⟩ fun s3 c3 mv hc3 hS3 => ?_
        obtain ⟨h3, g3, d3, tk3, os3⟩ := s3
        obtain rfl : g3 = s.gens := mv.gens
        obtain rfl : d3 = s.drawn := mv.drawn
        obtain rfl : os3 = s.os := mv.os
        show wpAny _ _ _ _ _ _
        refine wpAny_pure ?_
        show wpAny _ _ (ret Value.none) _ _ _
        rw [hz] at hc3
        refine wpAny_pure ⟨rfl, h3, tk3, c3, rfl, hS3, hc3, fun b o e => ?_⟩
        have b0 : b < s.heap.objs.size := Heap.lt_size e
        refine mv.heap b o ?_ (Heap.get?_push_of_some _ (Heap.get?_push_of_some _ e))
        rw [szp]
        simp only [List.mem_cons, List.not_mem_nil, or_false, not_or]
        exact ⟨Nat.ne_of_lt b0, Nat.ne_of_lt (Nat.lt_succ_of_lt b0)⟩
      · cases r2 with
        | error e => exact hr2
        | ok fl2 =>
          cases fl2 with
          | ret v2 =>
            obtain ⟨rfl, h2, tk2, c2, rfl, hS2, hc2, k2⟩ := hr2
            repeat (any_goals (first | assumption | wp_step))
            exact h h2 tk2 c2 hS2 hc2 k2
          | _ => exact hr2.elim
    | _ => exact hr.elim
end
end VL
namespace VL
open PySem PySem.Spec PyProof.Rows L2

/-! ### operations by their values -/
section
variable {K : PySem.W.Frag}
theorem rep_scal {α : Type} [PT : PyTy α] [T : Scal α] {k : Nat} {S H : Hp} {v : V} {a : α} {F : List Addr} (h : PT.rep K k S H v a F) : v = T.val a := (T.scal.mp h).1
/-- a list of things without objects -/
theorem reps_scal {α : Type} [PT : PyTy α] [T : Scal α] {k : Nat} {S H : Hp} : ∀ {vs : List V} {l : List α} {F : List Addr}, Reps (fun v a F => PT.rep K k S H v a F) vs l F → vs = l.map T.val ∧ F = []
  | [], [], _, h => ⟨rfl, h⟩
  | [], _ :: _, _, h => h.elim
  | _ :: _, [], _, h => h.elim
  | v :: vs, a :: as, F, ⟨F1, F2, e, h1, h2⟩ => by
    obtain ⟨e1, e2⟩ := reps_scal h2
    have z := T.scal.mp h1
    subst e
    exact ⟨by rw [z.1, e1]; rfl, by rw [z.2, e2]; rfl⟩
theorem scal_reps {α : Type} [PT : PyTy α] [T : Scal α] {k : Nat} {S H : Hp} : ∀ {l : List α}, Reps (fun v a F => PT.rep K k S H v a F) (l.map T.val) l []
  | [] => rfl
  | a :: l => ⟨[], [], rfl, T.scal.mpr ⟨rfl, rfl⟩, scal_reps⟩
theorem rep_list {α : Type} [PT : PyTy α] [T : Scal α] {H : Hp} {v : V} {l : List α} (h : (instList (α := α)).rep K 0 H H v l []) : ∃ p, v = .ref p ∧ H p = some (.lst (l.map T.val)) ∧ l.length ≤ line := by
  obtain ⟨p, xs, F', e, n, z, r⟩ := h
  obtain ⟨e1, e2⟩ := reps_scal r
  subst e1
  exact ⟨p, e, n.1, by rwa [List.length_map] at z⟩
theorem New.list {α : Type} [PT : PyTy α] [T : Scal α] {H : Hp} {p : Addr} {l : List α} (h : H p = none) (hl : l.length ≤ line) : New K 1 l H (.ref p) (upd H p (.lst (l.map T.val))) :=
  ⟨[p], Sub.new h, fun q hq => by rw [List.mem_singleton.mp hq]; exact h, List.nodup_cons.mpr ⟨by simp, List.nodup_nil⟩, fun S => ⟨p, _, [], rfl, ⟨upd_same, rfl⟩, by rwa [List.length_map], scal_reps⟩⟩
theorem any_lvl {α : Type} [PT : PyTy α] [T : Scal α] {k : Nat} {a : α} {H H' : Hp} {v : V} (h : New K 0 a H v H') : New K k a H v H' := by
  obtain ⟨F, h1, h2, h3, r⟩ := h
  exact ⟨F, h1, h2, h3, fun S => T.scal.mpr (T.scal.mp (r S))⟩
/-- an operation of two things without objects, one more -/
theorem Op2.scal {α β γ : Type} [PyTy α] [PyTy β] [PyTy γ] [A : Scal α] [B : Scal β] [C : Scal γ] {r : R2} {op : α → β → Option γ} (h : ∀ (H : Hp) (a : α) (b : β) (c : γ) (Q : VK), op a b = some c → Q (C.val c) H → r (A.val a) (B.val b) H Q) : Op2 K r op 0 := fun H x y a b c Q ra rb e q => by
  rw [rep_scal ra, rep_scal rb]
  exact h H a b c Q e (q _ H New.scal)
theorem Op1.scal {α γ : Type} [PyTy α] [PyTy γ] [A : Scal α] [C : Scal γ] {r : V → Hp → VK → Prop} {op : α → Option γ} (h : ∀ (H : Hp) (a : α) (c : γ) (Q : VK), op a = some c → Q (C.val c) H → r (A.val a) H Q) : Op1 K r op 0 := fun H x a c Q ra e q => by
  rw [rep_scal ra]
  exact h H a c Q e (q _ H New.scal)

/-! whole numbers -/
def addI (x y : Int) : Option Int := some (x + y)
def subI (x y : Int) : Option Int := some (x - y)
def negI (x : Int) : Option Int := some (-x)
/-- products of great numbers have a bound -/
def mulI (x y : Int) : Option Int := if x.natAbs < 2 ^ 64 ∨ y.natAbs < 2 ^ 64 ∨ x.natAbs.log2 + y.natAbs.log2 < 1000000 then some (x * y) else none
def fdivI (x y : Int) : Option Int := if y ≠ 0 ∧ y.natAbs < 1073741824 ∨ 0 < y ∧ y.natAbs.log2 < 9000 then some (x.fdiv y) else none
def modI (x y : Int) : Option Int := if y ≠ 0 then some (x.fmod y) else none
def powI (x y : Int) : Option Int := if 0 ≤ y ∧ y ≤ 1000000 ∧ x.natAbs < 2 ^ 64 then some (x ^ y.toNat) else none
def ltI (x y : Int) : Option Bool := some (decide (x < y))
def leI (x y : Int) : Option Bool := some (decide (x ≤ y))
def gtI (x y : Int) : Option Bool := some (decide (y < x))
def geI (x y : Int) : Option Bool := some (decide (y ≤ x))
def eqS {α : Type} [DecidableEq α] (x y : α) : Option Bool := some (decide (x = y))
def neS {α : Type} [DecidableEq α] (x y : α) : Option Bool := some (!decide (x = y))
theorem o_add : Op2 K (rI0 fun i j => .int (i + j)) addI 0 := Op2.scal (α := Int) (β := Int) (γ := Int) fun H a b c Q e q => by cases e; exact ⟨a, b, rfl, rfl, q⟩
theorem o_sub : Op2 K (rI0 fun i j => .int (i - j)) subI 0 := Op2.scal (α := Int) (β := Int) (γ := Int) fun H a b c Q e q => by cases e; exact ⟨a, b, rfl, rfl, q⟩
theorem o_neg : Op1 K (rU fun i => .int (-i)) negI 0 := Op1.scal (α := Int) (γ := Int) fun H a c Q e q => by cases e; exact ⟨a, rfl, q⟩
def rMulA : R2 := fun x y H Q => rI CMul (fun i j => .int (i * j)) x y H Q ∨ rI CMulW (fun i j => .int (i * j)) x y H Q
def rDivA : R2 := fun x y H Q => rI CDivN (fun i j => .int (i.fdiv j)) x y H Q ∨ rI CDivW (fun i j => .int (i / j)) x y H Q
theorem op_mulA {X : Cx} : OpR X (binaryOp .Mult) rMulA := op_mul.or op_mulW
theorem op_divA {X : Cx} : OpR X (binaryOp .FloorDiv) rDivA := op_fdivN.or op_fdivW
theorem o_mul : Op2 K rMulA mulI 0 := Op2.scal (α := Int) (β := Int) (γ := Int) fun H a b c Q e q => by
  unfold mulI at e
  split at e
  · rename_i h
    cases e
    rcases h with h | h | h
    · exact .inl ⟨a, b, rfl, rfl, .inl (by omega), q⟩
    · exact .inl ⟨a, b, rfl, rfl, .inr (by omega), q⟩
    · exact .inr ⟨a, b, rfl, rfl, h, q⟩
  · cases e
theorem o_fdiv : Op2 K rDivA fdivI 0 := Op2.scal (α := Int) (β := Int) (γ := Int) fun H a b c Q e q => by
  unfold fdivI at e
  split at e
  · rename_i h
    cases e
    rcases h with h | h
    · exact .inl ⟨a, b, rfl, rfl, h, q⟩
    · exact .inr ⟨a, b, rfl, rfl, h, by
      show Q (.int (a / b)) H
      rw [← Int.fdiv_eq_ediv_of_nonneg a (by omega)]
      exact q⟩
  · cases e
theorem o_mod : Op2 K (rI (fun _ j => j ≠ 0) fun i j => .int (i.fmod j)) modI 0 := Op2.scal (α := Int) (β := Int) (γ := Int) fun H a b c Q e q => by
  unfold modI at e
  split at e
  · rename_i h
    cases e
    exact ⟨a, b, rfl, rfl, h, q⟩
  · cases e
theorem o_pow : Op2 K (rI CPow fun i j => .int (i ^ j.toNat)) powI 0 := Op2.scal (α := Int) (β := Int) (γ := Int) fun H a b c Q e q => by
  unfold powI at e
  split at e
  · rename_i h
    cases e
    exact ⟨a, b, rfl, rfl, h, q⟩
  · cases e
theorem o_lt : Op2 K (rI0 fun i j => .bl (decide (i < j))) ltI 0 := Op2.scal (α := Int) (β := Int) (γ := Bool) fun H a b c Q e q => by cases e; exact ⟨a, b, rfl, rfl, q⟩
theorem o_le : Op2 K (rI0 fun i j => .bl (decide (i ≤ j))) leI 0 := Op2.scal (α := Int) (β := Int) (γ := Bool) fun H a b c Q e q => by cases e; exact ⟨a, b, rfl, rfl, q⟩
theorem o_gt : Op2 K (rI0 fun i j => .bl (decide (j < i))) gtI 0 := Op2.scal (α := Int) (β := Int) (γ := Bool) fun H a b c Q e q => by cases e; exact ⟨a, b, rfl, rfl, q⟩
theorem o_ge : Op2 K (rI0 fun i j => .bl (decide (j ≤ i))) geI 0 := Op2.scal (α := Int) (β := Int) (γ := Bool) fun H a b c Q e q => by cases e; exact ⟨a, b, rfl, rfl, q⟩
/-- things without objects whose == is their being the same -/
class ScalE (α : Type) [PyTy α] extends Scal α where
  dec : DecidableEq α
  inj : ∀ a b : α, val a = val b → a = b
  sc : ∀ a b : α, L2.scal (val a) (val b) = true
  fl : ∀ a : α, flatV (val a) = true
  eqv : ∀ a b : α, eqV (val a) (val b) = decide (a = b)
instance {α : Type} [PyTy α] [T : ScalE α] : DecidableEq α := T.dec
instance : ScalE Int := { (inferInstance : Scal Int) with
  dec := inferInstance
  inj := fun a b h => V.int.inj h
  sc := fun _ _ => rfl
  fl := fun _ => rfl
  eqv := fun a b => Bool.beq_eq_decide_eq a b }
instance : ScalE Bool := { (inferInstance : Scal Bool) with
  dec := inferInstance
  inj := fun a b h => V.bl.inj h
  sc := fun _ _ => rfl
  fl := fun _ => rfl
  eqv := fun a b => Bool.beq_eq_decide_eq a b }
instance : ScalE Str := { (inferInstance : Scal Str) with
  dec := inferInstance
  inj := fun a b h => V.str.inj h
  sc := fun _ _ => rfl
  fl := fun _ => rfl
  eqv := fun a b => by
    show (a == b) = decide (a = b)
    exact Bool.beq_eq_decide_eq a b }
theorem o_eqS {α : Type} [PT : PyTy α] [T : ScalE α] : Op2 K rEq (eqS (α := α)) 0 := Op2.scal (α := α) (β := α) (γ := Bool) fun H a b c Q e q => by
  cases e
  refine ⟨T.sc a b, ?_⟩
  rw [show decide (T.val a = T.val b) = decide (a = b) from decide_eq_decide.mpr ⟨T.inj a b, fun h => by rw [h]⟩]
  exact q
theorem o_neS {α : Type} [PT : PyTy α] [T : ScalE α] : Op2 K rNe (neS (α := α)) 0 := Op2.scal (α := α) (β := α) (γ := Bool) fun H a b c Q e q => by
  cases e
  refine ⟨T.sc a b, ?_⟩
  rw [show decide (T.val a = T.val b) = decide (a = b) from decide_eq_decide.mpr ⟨T.inj a b, fun h => by rw [h]⟩]
  exact q

/-! ### data: whole numbers, truths, None, lists and pairs of such -/
class DatI (α : Type) [PT : PyTy α] where
  toD : α → PyData
  n : Nat
  dp : ∀ {K H v a}, PT.rep K 0 H H v a [] → Dp K H v (toD a)
  can : ∀ a, (toD a).canLay0 = true
  dep : ∀ a, (toD a).depth ≤ n
  same : ∀ a b, PyData.eqv (toD a) (toD b) = true ↔ a = b
instance : DatI Int where
  toD := PyData.int
  n := 0
  dp h := by rw [show _ = _ from rep_scal h]; exact Dp.int _
  can _ := rfl
  dep _ := Nat.le_refl _
  same a b := by
    show (a == b) = true ↔ a = b
    exact beq_iff_eq
instance : DatI Bool where
  toD := PyData.bool
  n := 0
  dp h := by rw [show _ = _ from rep_scal h]; exact Dp.bl _
  can _ := rfl
  dep _ := Nat.le_refl _
  same a b := by
    show (a == b) = true ↔ a = b
    exact beq_iff_eq
instance : DatI Unit where
  toD _ := PyData.none
  n := 0
  dp h := by rw [show _ = _ from rep_scal h]; exact Dp.non
  can _ := rfl
  dep _ := Nat.le_refl _
  same a b := ⟨fun _ => rfl, fun _ => rfl⟩
theorem dpAll {α : Type} [PT : PyTy α] [T : DatI α] {H : Hp} : ∀ {vs : List V} {l : List α}, Reps (fun v a F => PT.rep K 0 H H v a F) vs l [] → DpAll K H vs (l.map T.toD)
  | [], [], _ => .nil
  | [], _ :: _, h => h.elim
  | _ :: _, [], h => h.elim
  | v :: vs, a :: l, ⟨F1, F2, e, h1, h2⟩ => by
    obtain ⟨e1, e2⟩ := List.append_eq_nil_iff.mp e.symm
    subst e1 e2
    exact .cons (T.dp h1) (dpAll h2)
theorem canAll {α : Type} [PT : PyTy α] [T : DatI α] : ∀ l : List α, PyData.canLayAll0 (l.map T.toD) = true
  | [] => rfl
  | a :: l => by
    show ((T.toD a).canLay0 && PyData.canLayAll0 (l.map T.toD)) = true
    rw [T.can a, canAll l]
    rfl
theorem depAll {α : Type} [PT : PyTy α] [T : DatI α] : ∀ l : List α, PyData.depthAll (l.map T.toD) ≤ T.n
  | [] => Nat.zero_le _
  | a :: l => by
    show max (T.toD a).depth (PyData.depthAll (l.map T.toD)) ≤ T.n
    have h1 := T.dep a
    have h2 := depAll l
    omega
theorem sameAll {α : Type} [PT : PyTy α] [T : DatI α] : ∀ l m : List α, PyData.eqvAll (l.map T.toD) (m.map T.toD) = true ↔ l = m
  | [], [] => ⟨fun _ => rfl, fun _ => rfl⟩
  | [], _ :: _ => ⟨(fun h => nomatch h), (fun h => nomatch h)⟩
  | _ :: _, [] => ⟨(fun h => nomatch h), (fun h => nomatch h)⟩
  | a :: l, b :: m => by
    show (PyData.eqv (T.toD a) (T.toD b) && PyData.eqvAll (l.map T.toD) (m.map T.toD)) = true ↔ a :: l = b :: m
    rw [Bool.and_eq_true, T.same a b, sameAll l m, List.cons.injEq]
instance {α : Type} [PT : PyTy α] [T : DatI α] : DatI (List α) where
  toD l := .list (l.map T.toD)
  n := T.n + 1
  dp := fun ⟨p, xs, F', e, n, z, r⟩ => by
    rw [e]
    have e2 : F' = [] := n.2.symm
    subst e2
    exact Dp.lst (.inl (.inl n.1)) (dpAll r)
  can l := canAll l
  dep l := Nat.succ_le_succ (depAll l)
  same l m := sameAll l m
instance {α β : Type} [PyTy α] [PyTy β] [TA : DatI α] [TB : DatI β] : DatI (α × β) where
  toD t := .tuple [TA.toD t.1, TB.toD t.2]
  n := max TA.n TB.n + 1
  dp := fun {K H v a} ⟨p, x, y, F1, F2, e, n, r1, r2⟩ => by
    rw [e]
    obtain ⟨e1, e2⟩ := List.append_eq_nil_iff.mp n.2.symm
    subst e1 e2
    exact Dp.tup (.inl (.inl n.1)) (.cons (TA.dp r1) (.cons (TB.dp r2) .nil))
  can t := by
    show ((TA.toD t.1).canLay0 && ((TB.toD t.2).canLay0 && true)) = true
    rw [TA.can, TB.can]
    rfl
  dep t := by
    show max (TA.toD t.1).depth (max (TB.toD t.2).depth 0) + 1 ≤ _
    have h1 := TA.dep t.1
    have h2 := TB.dep t.2
    omega
  same s t := by
    show (PyData.eqv (TA.toD s.1) (TA.toD t.1) && (PyData.eqv (TB.toD s.2) (TB.toD t.2) && true)) = true ↔ s = t
    rw [Bool.and_true, Bool.and_eq_true, TA.same, TB.same, Prod.ext_iff]
def eqD {α : Type} [PT : PyTy α] [T : DatI α] [DecidableEq α] (x y : α) : Option Bool := some (decide (x = y))
def neD {α : Type} [PT : PyTy α] [T : DatI α] [DecidableEq α] (x y : α) : Option Bool := some (!decide (x = y))
theorem shaped_of {α : Type} [PT : PyTy α] [T : DatI α] (a : α) (h : T.n ≤ 64) : SeqAt.shaped (T.toD a) = true := by
  unfold SeqAt.shaped
  rw [T.can a, Bool.true_and]
  exact decide_eq_true (Nat.le_trans (T.dep a) h)
theorem eqv_dec {α : Type} [PT : PyTy α] [T : DatI α] [DecidableEq α] (a b : α) : PyData.eqv (T.toD a) (T.toD b) = decide (a = b) := by
  by_cases h : a = b
  · rw [decide_eq_true h]
    exact (T.same a b).mpr h
  · rw [decide_eq_false h]
    cases e : PyData.eqv (T.toD a) (T.toD b) with
    | false => rfl
    | true => exact absurd ((T.same a b).mp e) h
theorem o_eqD {α : Type} [PT : PyTy α] [T : DatI α] [DecidableEq α] (h : T.n ≤ 64 := by decide) : Op2 K (rEqD K) (eqD (α := α)) 0 := fun H x y a b c Q ra rb e q => by
  cases e
  refine ⟨T.toD a, T.toD b, T.dp ra, T.dp rb, shaped_of a h, shaped_of b h, ?_⟩
  rw [eqv_dec]
  exact q _ H (New.scal (α := Bool))
theorem o_neD {α : Type} [PT : PyTy α] [T : DatI α] [DecidableEq α] (h : T.n ≤ 64 := by decide) : Op2 K (rNeD K) (neD (α := α)) 0 := fun H x y a b c Q ra rb e q => by
  cases e
  refine ⟨T.toD a, T.toD b, T.dp ra, T.dp rb, shaped_of a h, shaped_of b h, ?_⟩
  rw [eqv_dec]
  exact q _ H (New.scal (α := Bool))

/-! ### in a list, its length, its items -/
def inL {α : Type} [DecidableEq α] (x : α) (l : List α) : Option Bool := some (decide (x ∈ l))
def ninL {α : Type} [DecidableEq α] (x : α) (l : List α) : Option Bool := some (!decide (x ∈ l))
theorem inV_dec {α : Type} [PT : PyTy α] [T : ScalE α] (x : α) (l : List α) : inV (T.val x) (l.map T.val) = decide (x ∈ l) := by
  unfold inV
  induction l with
  | nil => rfl
  | cons a l ih =>
    rw [List.map_cons, List.any_cons, ih, T.eqv]
    by_cases h : a = x
    · simp [h]
    · have h' : ¬ x = a := fun z => h z.symm
      simp [h, h']
theorem all_flat {α : Type} [PT : PyTy α] [T : ScalE α] (l : List α) : (l.map T.val).all flatV = true := by
  rw [List.all_map]
  exact List.all_eq_true.mpr fun a _ => T.fl a
theorem o_inL {α : Type} [PT : PyTy α] [T : ScalE α] : Op2 K (rIn K false) (inL (α := α)) 0 := fun H x y a b c Q ra rb e q => by
  cases e
  obtain ⟨p, rfl, hp, _⟩ := rep_list rb
  rw [rep_scal ra]
  refine ⟨p, _, rfl, .inl (.inl (.inl hp)), T.fl a, all_flat b, ?_⟩
  rw [if_neg (by decide), inV_dec]
  exact q _ H (New.scal (α := Bool))
theorem o_ninL {α : Type} [PT : PyTy α] [T : ScalE α] : Op2 K (rIn K true) (ninL (α := α)) 0 := fun H x y a b c Q ra rb e q => by
  cases e
  obtain ⟨p, rfl, hp, _⟩ := rep_list rb
  rw [rep_scal ra]
  refine ⟨p, _, rfl, .inl (.inl (.inl hp)), T.fl a, all_flat b, ?_⟩
  rw [if_pos rfl, inV_dec]
  exact q _ H (New.scal (α := Bool))
def rOne (r : List V → Hp → VK → Prop) : V → Hp → VK → Prop := fun x H Q => r [x] H Q
def rTwo (r : List V → Hp → VK → Prop) : R2 := fun x y H Q => r [x, y] H Q
def rLen (K : PySem.W.Frag) : List V → Hp → VK → Prop := fun xs H Q => ∃ p ys, xs = [.ref p] ∧ (SqL K H p ys ∨ SqT K H p ys) ∧ Q (.int ys.length) H
def lenL {α : Type} (l : List α) : Option Int := some (l.length : Int)
theorem o_lenL {α : Type} [T : PyTy α] : Op1 K (rOne (rLen K)) (lenL (α := α)) 0 := fun H x a c Q ⟨p, xs, F', e, n, z, r⟩ ec q => by
  cases ec
  subst e
  refine ⟨p, xs, rfl, .inl (.inl (.inl n.1)), ?_⟩
  rw [r.len]
  exact q _ H (New.scal (α := Int))
def lenScr (s : Scr) : Option Int := some (s.l.length : Int)
theorem o_lenScr : Op1 K (rOne (rLen K)) lenScr 0 := fun H x a c Q ⟨_, p, e, h⟩ ec q => by
  cases ec
  subst e
  refine ⟨p, _, rfl, .inl h, ?_⟩
  rw [List.length_map]
  exact q _ H (New.scal (α := Int))
def ixL {α : Type} (l : List α) (i : Int) : Option α := if 0 ≤ i then l[i.toNat]? else if 0 ≤ i + l.length then l[(i + l.length).toNat]? else none
theorem ixL_at {α : Type} {r : V → α → List Addr → Prop} {vs : List V} {l : List α} {i : Int} {a : α} (h : Reps r vs l []) (e : ixL l i = some a) : ∃ v, atI vs i = some v ∧ r v a [] := by
  have hl := h.len
  unfold ixL at e
  unfold atI ixN
  by_cases h0 : 0 ≤ i
  · rw [if_pos h0] at e ⊢
    obtain ⟨v, e1, r1⟩ := h.get' e
    obtain ⟨h1, _⟩ := List.getElem?_eq_some_iff.mp e1
    rw [if_pos (by omega)]
    exact ⟨v, e1, r1⟩
  · rw [if_neg h0] at e ⊢
    split at e
    · rename_i h2
      rw [if_pos (by omega)]
      obtain ⟨v, e1, r1⟩ := h.get' e
      rw [← hl] at e1
      exact ⟨v, e1, r1⟩
    · cases e
end
theorem TL_zero {K : PySem.W.Frag} {α : Type} [T : PyTy α] {S H : Hp} {v : V} {a : α} {F : List Addr} (h : got K (lv 0) a S H v F) : T.rep K 0 S H v a [] := PyTy.froz h H
section
variable {X : Cx} {W : Hp → String → Prop} {ρ : Type} {sl : ρ → List Slot} {ms : List Mode} {a b c e : Expr} {pos : Pos}
variable {α β γ : Type} [TA : PyTy α] [TB : PyTy β] [TC : PyTy γ]
/-- an item of a shared list is shared; of one that is looked at, it is looked at -/
theorem pv_ix {f : ρ → M (List α)} {g : ρ → M Int} {kb : Mode} (ha : PE X a (tP X.K W sl ms f (lv 0))) (hb : PE X b (tP X.K W sl ms g kb)) (hs : PlainIx b := by exact fun _ _ => rfl) (hkb : kb ≠ .un := by decide) : PE X (.Subscript a b pos) (tP X.K W sl ms (e2 ixL f g) (lv 0)) :=
  PE.conv (pe_ix ix_list ha hb hs) fun σ H Q ⟨r, S, hs, hv, he⟩ => by
    refine two (R := fun x y H2 => rIxL X.K x y H2 Q) ha hb hs hv ?_
    refine ends_mono (ends_bind he) (fun l el q => ends_mono (ends_bind q) (fun i ei q v u S2 H2 F1 F2 x g1 g2 => ?_) fun c q => q) fun c q => q
    obtain ⟨z, ez, q⟩ := up_ends q
    obtain ⟨p, xs, F', e1, n, z1, r1⟩ := TL_zero g1
    have e3 : F' = [] := n.2.symm
    subst e3
    obtain ⟨v1, at1, r2⟩ := ixL_at r1 ez
    have hi := rep_scal (g2.look x.sh hkb)
    refine ⟨p, xs, i, v1, e1, hi, .inl (.inl (x.sh _ _ n.1)), at1, q v1 _ H2 [] (x.share fun p hp => (List.mem_append.mp hp).elim (g2.here p) (g1.here p)) ?_⟩
    exact TA.mono r2 (add_sub fun p hp => (x.fr p hp).2) fun p hp => nomatch hp
theorem pv_ixW {f : ρ → M (List α)} {g : ρ → M Int} {ka kb : Mode} (ha : PE X a (tP X.K W sl ms f ka)) (hb : PE X b (tP X.K W sl ms g kb)) (hs : PlainIx b := by exact fun _ _ => rfl) (hka : ka ≠ .un := by decide) (hkb : kb ≠ .un := by decide) : PE X (.Subscript a b pos) (tP X.K W sl ms (e2 ixL f g) .vw) :=
  PE.conv (pe_ix ix_list ha hb hs) fun σ H Q ⟨r, S, hs, hv, he⟩ => by
    refine two (R := fun x y H2 => rIxL X.K x y H2 Q) ha hb hs hv ?_
    refine ends_mono (ends_bind he) (fun l el q => ends_mono (ends_bind q) (fun i ei q v u S2 H2 F1 F2 x g1 g2 => ?_) fun c q => q) fun c q => q
    obtain ⟨z, ez, q⟩ := up_ends q
    obtain ⟨p, xs, F', e1, n, z1, r1⟩ := g1.look x.sh hka
    have e3 : F' = [] := n.2.symm
    subst e3
    obtain ⟨v1, at1, r2⟩ := ixL_at r1 ez
    have hi := rep_scal (g2.look x.sh hkb)
    exact ⟨p, xs, i, v1, e1, hi, .inl (.inl n.1), at1, q v1 _ H2 [] (x.share fun p hp => (List.mem_append.mp hp).elim (g2.here p) (g1.here p)) ⟨rfl, r2⟩⟩
end
end VL
namespace VL
open PySem PySem.Spec PyProof.Rows L2

/-! ### walks: what a loop or a comprehension goes through -/
def setAll : L2.St → List Nat → List V → L2.St
  | σ, i :: is, v :: vs => setAll (σ.set i (some v)) is vs
  | σ, _, _ => σ
def setSlots : List Slot → List Nat → List Slot → List Slot
  | l, i :: is, s :: ss => setSlots (l.set i s) is ss
  | l, _, _ => l
def setModes (ms : List Mode) (is : List Nat) (kd : Mode) : List Mode := is.foldl (fun ms i => ms.set i kd) ms
/-- the parts of an item, one by one -/
def Parts (K : PySem.W.Frag) (kd : Mode) (S H : Hp) : List Slot → List V → Prop
  | [], [] => True
  | s :: ss, v :: vs => viewA K kd s (some v) S H ∧ Parts K kd S H ss vs
  | _, _ => False
theorem Parts.mono {K : PySem.W.Frag} {kd : Mode} {S H S' H' : Hp} : ∀ {ss : List Slot} {vs : List V}, Parts K kd S H ss vs → Sub S S' → Sub H H' → Parts K kd S' H' ss vs
  | [], [], _, _, _ => trivial
  | _ :: _, _ :: _, ⟨h1, h2⟩, hs, hh => ⟨h1.mono hs hh, Parts.mono h2 hs hh⟩
  | [], _ :: _, h, _, _ => h.elim
  | _ :: _, [], h, _, _ => h.elim
theorem View.setAll {K : PySem.W.Frag} {kd : Mode} {S H : Hp} : ∀ {is : List Nat} {ss : List Slot} {vs : List V} {ms : List Mode} {l : List Slot} {σ : L2.St}, View K S H ms l σ → Parts K kd S H ss vs → is.length = ss.length → View K S H (setModes ms is kd) (setSlots l is ss) (VL.setAll σ is vs)
  | [], [], [], _, _, _, h, _, _ => h
  | i :: is, s :: ss, v :: vs, ms, l, σ, h, ⟨h1, h2⟩, e => View.setAll (is := is) (h.set (i := i) h1) h2 (by simpa using e)
  | [], _ :: _, _, _, _, _, _, _, e => by simp at e
  | _ :: _, [], _, _, _, _, _, _, e => by simp at e
  | [], [], _ :: _, _, _, _, _, h, _ => h.elim
  | _ :: _, _ :: _, [], _, _, _, _, h, _ => h.elim

def base (kd : Mode) (S H : Hp) : Hp := match kd with
  | .vw => H
  | .id _ => H
  | _ => S
theorem base_sub {kd : Mode} {S H : Hp} (h : Sub S H) : Sub (base kd S H) H := by
  cases kd with
  | vw => exact Sub.refl H
  | id _ => exact Sub.refl H
  | un => exact h
  | own k io => exact h
theorem base_mono {kd : Mode} {S H S' H' : Hp} (h : Sub S S') (h2 : Sub H H') : Sub (base kd S H) (base kd S' H') := by
  cases kd with
  | vw => exact h2
  | id _ => exact h2
  | un => exact h
  | own k io => exact h
theorem viewA.up {K : PySem.W.Frag} {kd : Mode} {s : Slot} {v : Option V} {S H H' : Hp} (h : viewA K kd s v S H) (q : Sub (base kd S H) H') : viewA K kd s v S H' := by
  cases kd with
  | vw => exact h.mono (Sub.refl S) q
  | id _ => exact h.mono (Sub.refl S) q
  | un => exact h
  | own k io => exact h
structure Goes (K : PySem.W.Frag) (J : It) (g : TG) (S0 H0 : Hp) (kd : Mode) {β : Type} (l : List β) (is : List Nat) (parts : β → List Slot) : Prop where
  stop : ∀ i H, l.length ≤ i → Sub (base kd S0 H0) H → J.stop i H
  go : ∀ i H, i < l.length → Sub (base kd S0 H0) H → J.go i H
  yld : ∀ i b H x H' (σ : L2.St) (Q : L2.St → Hp → Prop), l[i]? = some b → Sub (base kd S0 H0) H → J.yld i H x H' → (∀ vs, Sub H H' → Parts K kd S0 H' (parts b) vs → Q (setAll σ is vs) H') → g x σ H' Q
/-- the reading of a thing that is walked -/
def tW (K : PySem.W.Frag) (W : Hp → String → Prop) {ρ : Type} (sl : ρ → List Slot) (ms : List Mode) {β : Type} (f : ρ → M (List β)) (kd : Mode) (g : TG) (is : List Nat) (parts : β → List Slot) : TI := fun σ H R =>
  ∃ (r : ρ) (S : Hp), Sub S H ∧ View K S H ms (sl r) σ ∧ ends (f r) (fun l => ∀ J S' H', Ext S H S' H' [] → l.length ≤ line → Goes K J g S' H' kd l is parts → R J H') (fun c => ∀ H', Sub H H' → W H' c)
theorem PI.conv {X : Cx} {tg it : Expr} {t t' : TI} (h : PI X tg it t) (k : ∀ σ H R, t' σ H R → t σ H R) : PI X tg it t' := ⟨fun pins s σ H R I q => h.run pins s σ H R I (k σ H R q)⟩

/-! ### comprehensions -/
def lcGo {ρ β γ : Type} (set : β → ρ → ρ) (t : ρ → M Bool) (e : ρ → M γ) (r : ρ) : List β → M (List γ)
  | [] => .ok []
  | b :: l => mute (t (set b r)) >>= fun k => if k then mute (e (set b r)) >>= fun y => lcGo set t e r l >>= fun ys => .ok (y :: ys) else lcGo set t e r l
def eLc {ρ β γ : Type} (xs : ρ → M (List β)) (set : β → ρ → ρ) (t : ρ → M Bool) (e : ρ → M γ) : ρ → M (List γ) := fun r => xs r >>= lcGo set t e r
theorem ends_mute {α : Type} {m : M α} {P : α → Prop} {E E' : String → Prop} (h : ends (mute m) P E) : ends m P E' := by
  cases m with
  | ok a => exact h
  | error e => exact h.elim
theorem mute_ok {α : Type} {m : M α} {a : α} (h : mute m = .ok a) : m = .ok a := by
  cases m with
  | ok b => exact h
  | error e => cases h
abbrev noW : Hp → String → Prop := fun _ _ => False

theorem wipe_in {σ : L2.St} {i : Nat} : ∀ {vs : List Nat}, i ∈ vs → (wipe σ vs)[i]? = if i < σ.length then some none else none
  | v :: vs, h => by
    unfold wipe
    by_cases hv : v = i
    · subst hv
      by_cases hl : v < σ.length
      · rw [if_pos hl, List.getElem?_set_self (by rw [wipe_length]; exact hl)]
      · rw [if_neg hl, List.getElem?_eq_none_iff]
        rw [List.length_set, wipe_length]
        omega
    · rw [List.getElem?_set_ne hv]
      exact wipe_in ((List.mem_cons.mp h).resolve_left fun z => hv z.symm)
theorem setAll_length : ∀ {is : List Nat} {vs : List V} {σ : L2.St}, (setAll σ is vs).length = σ.length
  | [], _, _ => by unfold setAll; rfl
  | _ :: _, [], _ => rfl
  | i :: is, v :: vs, σ => by
    unfold setAll
    rw [setAll_length, List.length_set]
theorem setAll_out {j : Nat} : ∀ {is : List Nat} {vs : List V} {σ : L2.St}, j ∉ is → (setAll σ is vs)[j]? = σ[j]?
  | [], _, _, _ => by unfold setAll; rfl
  | _ :: _, [], _, _ => rfl
  | i :: is, v :: vs, σ, h => by
    unfold setAll
    rw [setAll_out (fun z => h (List.mem_cons_of_mem _ z)), List.getElem?_set_ne (fun z => h (by rw [z]; exact List.mem_cons_self))]
theorem wipe_setAll {σ : L2.St} {vs is : List Nat} {xs : List V} (h : ∀ i ∈ is, i ∈ vs) : wipe (setAll (wipe σ vs) is xs) vs = wipe σ vs := by
  apply List.ext_getElem?
  intro j
  by_cases hj : j ∈ vs
  · rw [wipe_in hj, wipe_in hj, setAll_length, wipe_length]
  · rw [wipe_out hj, setAll_out (fun z => hj (h j z))]
def wipeM (ms : List Mode) : List Nat → List Mode
  | [] => ms
  | v :: vs => (wipeM ms vs).set v .un
theorem View.wipe {K : PySem.W.Frag} {S H : Hp} {ms : List Mode} {l : List Slot} {σ : L2.St} (h : View K S H ms l σ) : ∀ vs : List Nat, View K S H (wipeM ms vs) l (L2.wipe σ vs)
  | [] => h
  | v :: vs => by
    have ih := View.wipe h vs
    unfold wipeM L2.wipe
    by_cases hv : v < l.length
    · have e : l.set v l[v] = l := List.set_getElem_self hv
      have := View.set (i := v) (m := .un) (s := l[v]) (v := none) ih trivial
      rw [e] at this
      exact this
    · have e1 : (wipeM ms vs).set v .un = wipeM ms vs := List.set_eq_of_length_le (by have := ih.len; omega)
      have e2 : (L2.wipe σ vs).set v none = L2.wipe σ vs := List.set_eq_of_length_le (by have := ih.len; omega)
      rw [e1, e2]
      exact ih

section
variable {X : Cx} {W : Hp → String → Prop} {ρ : Type} {sl : ρ → List Slot} {ms : List Mode}
/-- tests of a comprehension -/
theorem ptsV_nil {K : PySem.W.Frag} : PTs X [] (tPT K W sl ms (fun _ => .ok true)) := by
  refine ⟨fun pins s σ H Q I h => pts_nil.run pins s σ H Q I ?_⟩
  obtain ⟨r, S, hs, hv, he⟩ := h
  exact he S H (Ext.refl hs)
theorem ptsV_one {K : PySem.W.Frag} {c : Expr} {f : ρ → M Bool} (h : PT X c (tPT K W sl ms f)) : PTs X [c] (tPT K W sl ms f) := pts_one h

theorem lc_read {K : PySem.W.Frag} {β γ : Type} [TC : PyTy γ] {g : TG} {f : ρ → M (List β)} {kd : Mode} {is vs : List Nat} {parts : β → List Slot} {set : β → ρ → ρ} {t : ρ → M Bool} {e : ρ → M γ} {k : Nat}
    (hset : ∀ b r, sl (set b r) = setSlots (sl r) is (parts b)) (hpl : ∀ b, is.length = (parts b).length) (hin : ∀ i ∈ is, i ∈ vs) {σ : L2.St} {H : Hp} {Q : VK} (hq : tP K W sl ms (eLc f set t e) (lv (k + 1)) σ H Q) :
    tLc (tW K W sl ms f kd g is parts) g (tPT K noW sl (setModes (wipeM ms vs) is kd) t) (tP K noW sl (setModes (wipeM ms vs) is kd) e (lv k)) vs σ H Q := by
    obtain ⟨r, S, hs, hv, hh⟩ := hq
    refine ⟨r, S, hs, hv, ends_mono (ends_bind hh) (fun l el q J S1 H1 x1 hl G D hD => ?_) fun c q => q⟩
    refine ⟨fun i m H2 => m = l.length - i ∧ i ≤ l.length ∧ ∃ (S2 : Hp) (F : List Addr) (acc : List V) (dn : List γ), Ext S1 H1 S2 H2 F ∧ D ∉ F ∧ S2 D = none ∧ H2 D = some (.lst acc) ∧ acc.length ≤ i ∧ Reps (fun v a F => TC.rep K k S2 H2 v a F) acc dn F ∧
      ends (lcGo set t e r (l.drop i)) (fun rest => ∀ v S' H' F, Ext S H S' H' F → got K (lv (k + 1)) (dn ++ rest) S' H' v F → Q v H') (fun _ => False), ⟨l.length, by simp, Nat.zero_le _, S1, [], [], [], ?_, (fun z => nomatch z), x1.sh.back hD, upd_same, Nat.le_refl _, rfl, ?_⟩, ?_⟩
    · exact ⟨Sub.new hD, Sub.refl S1, x1.sh.trans (Sub.new hD), fun p q => .inl q, (fun p hp => nomatch hp), List.nodup_nil⟩
    · rw [List.drop_zero]
      have no : ∀ l c, lcGo set t e r l ≠ .error (.exc c) := by
        intro l c
        induction l with
        | nil => exact fun z => nomatch z
        | cons b l ih =>
          unfold lcGo
          cases e1 : t (set b r) with
          | error z => exact fun z => nomatch z
          | ok d =>
            show (if d = true then _ else _) ≠ _
            cases d with
            | false => exact ih
            | true =>
              rw [if_pos rfl]
              cases e2 : e (set b r) with
              | error z => exact fun z => nomatch z
              | ok y =>
                show (lcGo set t e r l >>= fun ys => Except.ok (y :: ys)) ≠ _
                cases e3 : lcGo set t e r l with
                | ok ys => exact fun z => nomatch z
                | error z =>
                  intro h
                  have h2 : (Except.error z : M (List γ)) = .error (.exc c) := h
                  rw [← e3] at h2
                  exact ih h2
      cases e1 : lcGo set t e r l with
      | ok a => rw [e1] at q; exact q
      | error z => cases z with
        | stuck => rw [e1] at q; exact q
        | exc c => exact absurd e1 (no l c)
    · rintro i m H2 ⟨rfl, hi, S2, F, acc, dn, x2, hDF, hS2, hD2, hacc, hr, hend⟩
      have sub12 : Sub H1 H2 := x2.hh
      have hlF : ∀ p ∈ F, H2 p ≠ none := hr.here fun v a F' q => TC.here q
      by_cases hlt : i < l.length
      · refine .inr ⟨G.go i H2 hlt ((base_sub x1.sh).trans sub12), fun H3 => ∃ m', m' < l.length - i ∧ (m' = l.length - (i + 1) ∧ i + 1 ≤ l.length ∧ ∃ (S2 : Hp) (F : List Addr) (acc : List V) (dn : List γ), Ext S1 H1 S2 H3 F ∧ D ∉ F ∧ S2 D = none ∧ H3 D = some (.lst acc) ∧ acc.length ≤ i + 1 ∧ Reps (fun v a F => TC.rep K k S2 H3 v a F) acc dn F ∧
          ends (lcGo set t e r (l.drop (i + 1))) (fun rest => ∀ v S' H' F, Ext S H S' H' F → got K (lv (k + 1)) (dn ++ rest) S' H' v F → Q v H') (fun _ => False)), fun H3 h => h, fun x H3 hy => ?_⟩
        have el : l[i]? = some l[i] := List.getElem?_eq_getElem hlt
        refine G.yld i l[i] H2 x H3 _ _ el ((base_sub x1.sh).trans sub12) hy fun ws s23 pt => ⟨wipe_setAll hin, ?_⟩
        have ed : l.drop i = l[i] :: l.drop (i + 1) := List.drop_eq_getElem_cons hlt
        rw [ed] at hend
        have hv3 : View K S2 H3 (setModes (wipeM ms vs) is kd) (sl (set l[i] r)) (setAll (L2.wipe σ vs) is ws) := by
          rw [hset]
          exact View.setAll ((hv.wipe _).mono (x1.ss.trans x2.ss) (x1.hh.trans (sub12.trans s23))) (pt.mono x2.ss (Sub.refl H3)) (hpl _)
        have x3 : Ext S1 H1 S2 H3 F := ⟨sub12.trans s23, x2.ss, x2.sh.trans s23, x2.nw, x2.fr, x2.nd⟩
        refine ⟨set l[i] r, S2, x2.sh.trans s23, hv3, ends_mute (E := fun _ => False) (ends_mono (ends_bind hend) (fun d ed q S4 H4 x4 => ?_) fun c q => q)⟩
        cases d with
        | false =>
          rw [if_neg (by decide)]
          refine ⟨l.length - (i + 1), by omega, rfl, by omega, S4, F, acc, dn, ?_, hDF, ?_, x4.hh _ _ (s23 _ _ hD2), by omega, ?_, q⟩
          · have := x3.trans x4 (fun p hp => by rw [s23.at (hlF p hp)]; exact hlF p hp)
            simpa using this
          · cases z : S4 D with
            | none => rfl
            | some o =>
              rcases x4.nw D (by rw [z]; exact fun z => nomatch z) with y | y
              · exact absurd hS2 y
              · rw [s23 _ _ hD2] at y; cases y
          · exact hr.imp fun v a F' hf q => TC.mono q x4.ss fun p hp => (s23.trans x4.hh).at (hlF p (hf p hp))
        | true =>
          rw [if_pos rfl]
          refine ⟨set l[i] r, S4, x4.sh, hv3.mono x4.ss x4.hh, ends_mute (E := fun _ => False) (ends_mono (ends_bind q) (fun y ey q v S5 H5 F5 x5 g5 => ?_) fun c q => q)⟩
          have hD5 : H5 D = some (.lst acc) := x5.hh _ _ (x4.hh _ _ (s23 _ _ hD2))
          have hS5 : S5 D = none := by
            cases z : S5 D with
            | none => rfl
            | some o =>
              rcases x5.nw D (by rw [z]; exact fun z => nomatch z) with y | y
              · rcases x4.nw D y with y | y
                · exact absurd hS2 y
                · rw [s23 _ _ hD2] at y; cases y
              · rw [x4.hh _ _ (s23 _ _ hD2)] at y; cases y
          have h24 : ∀ p ∈ F, H4 p ≠ none := fun p hp => by rw [(s23.trans x4.hh).at (hlF p hp)]; exact hlF p hp
          have x34 : Ext S1 H1 S4 H4 F := by
            have := x3.trans x4 (fun p hp => by rw [s23.at (hlF p hp)]; exact hlF p hp)
            simpa using this
          have x35 := (x34.trans x5 h24).perm List.perm_append_comm
          have hDF5 : D ∉ F5 := fun z => by
            have := (x5.fr D z).1
            rw [x4.hh _ _ (s23 _ _ hD2)] at this; cases this
          refine ⟨acc, hD5, by show acc.length < line; omega, l.length - (i + 1), by omega, rfl, by omega, S5, F ++ F5, acc ++ [v], dn ++ [y], ?_, ?_, hS5, upd_same, ?_, ?_, ?_⟩
          · refine ⟨fun p o q => ?_, x35.ss, fun p o q => ?_, x35.nw, x35.fr, x35.nd⟩
            · rw [upd_ne (ne_of_none q hD)]
              exact x35.hh p o q
            · rw [upd_ne (ne_of_none q hS5)]
              exact x35.sh p o q
          · intro z
            exact (List.mem_append.mp z).elim hDF hDF5
          · rw [List.length_append]
            show acc.length + 1 ≤ i + 1
            omega
          · have h45 : ∀ p ∈ F, H5 p = H2 p := fun p hp => ((s23.trans x4.hh).trans x5.hh).at (hlF p hp)
            have r1 : Reps (fun u a F => TC.rep K k S5 (upd H5 D (.lst (acc ++ [v]))) u a F) acc dn F := hr.imp fun w a F' hf q => TC.mono q (x4.ss.trans x5.ss) fun p hp => by
              rw [upd_ne (fun z => hDF (by rw [← z]; exact hf p hp))]
              exact h45 p (hf p hp)
            have r2 : TC.rep K k S5 (upd H5 D (.lst (acc ++ [v]))) v y F5 := TC.mono g5 (Sub.refl S5) fun p hp => upd_ne (fun z => hDF5 (by rw [← z]; exact hp))
            have := r1.append (ws := [v]) (bs := [y]) (G := F5) ⟨F5, [], (List.append_nil _).symm, r2, rfl⟩
            exact this
          · refine ends_mono (ends_bind q) (fun ys eys q => ?_) fun c q => q
            rw [List.append_assoc]
            exact q
      · have ei : i = l.length := by omega
        refine .inl ⟨G.stop i H2 (by omega) ((base_sub x1.sh).trans sub12), ?_⟩
        rw [show l.drop i = [] from List.drop_eq_nil_iff.mpr (by omega)] at hend
        have q : ∀ v S' H' F, Ext S H S' H' F → got K (lv (k + 1)) (dn ++ []) S' H' v F → Q v H' := hend
        rw [List.append_nil] at q
        refine q (.ref D) S2 H2 (D :: F) ?_ ⟨D, acc, F, rfl, ⟨hD2, rfl⟩, by omega, hr⟩
        have := x1.trans x2 (fun p hp => nomatch hp)
        rw [List.append_nil] at this
        exact ⟨this.hh, this.ss, this.sh, this.nw, fun p hp => by
          rcases List.mem_cons.mp hp with e | hp
          · rw [e]
            exact ⟨x1.hh.back hD, hS2⟩
          · exact this.fr p hp, List.nodup_cons.mpr ⟨hDF, this.nd⟩⟩
theorem pv_lc {β γ : Type} [TC : PyTy γ] {elt tg iter : Expr} {ifs : List Expr} {scope : Scope} {own : List (Str × Nat)} {pos : Pos} {g : TG} {f : ρ → M (List β)} {kd : Mode} {is : List Nat} {parts : β → List Slot} {set : β → ρ → ρ} {t : ρ → M Bool} {e : ρ → M γ} {k : Nat} (hc : X.calm = true) (hN : X.N.Nodup)
    (hi : PI X tg iter (tW X.K W sl ms f kd g is parts)) (ok : BlkOk X.N X.env.scope scope own)
    (hg : ∀ (s : Shared) (H : Hp) (C : Addr) (cl : List (Str × Addr)) (fp : List Addr), PG (X.blk s H scope (compEnvC scope cl C X.env) fp) tg g)
    (ht : ∀ (s : Shared) (H : Hp) (C : Addr) (cl : List (Str × Addr)) (fp : List Addr), PTs (X.blk s H scope (compEnvC scope cl C X.env) fp) ifs (tPT X.K noW sl (setModes (wipeM ms (own.map (·.2))) is kd) t))
    (he : ∀ (s : Shared) (H : Hp) (C : Addr) (cl : List (Str × Addr)) (fp : List Addr), PE (X.blk s H scope (compEnvC scope cl C X.env) fp) elt (tP X.K noW sl (setModes (wipeM ms (own.map (·.2))) is kd) e (lv k)))
    (hset : ∀ b r, sl (set b r) = setSlots (sl r) is (parts b)) (hpl : ∀ b, is.length = (parts b).length) (hin : ∀ i ∈ is, i ∈ own.map (·.2)) (hs : ∀ x, foldedSetIterable iter X.env x = pure x := by intro _; rfl) :
    PE X (.ListComp elt [⟨tg, iter, ifs, 0⟩] scope pos) (tP X.K W sl ms (eLc f set t e) (lv (k + 1))) := PE.conv (pe_lc hc hN hi ok hg ht he hs) fun σ H Q q => lc_read hset hpl hin q
end
end VL
namespace VL
open PySem PySem.Spec PyProof.Rows L2

/-! ### what is walked -/
structure ListOk (K : PySem.W.Frag) (kd : Mode) (S H : Hp) (a : Addr) (xs : List V) {α : Type} [PyTy α] (l : List α) : Prop where
  node : base kd S H a = some (.lst xs)
  len : xs.length = l.length
  item : ∀ (i : Nat) (b : α), l[i]? = some b → ∃ v, xs[i]? = some v ∧ viewA K kd ⟨b⟩ (some v) S H
theorem listOk {K : PySem.W.Frag} {kd : Mode} {α : Type} [T : PyTy α] {l : List α} {S H : Hp} {v : V} {F : List Addr} (h : got K kd l S H v F) (hs : Sub S H) (hk : kd = lv 0 ∨ kd = .vw) : ∃ a xs, v = .ref a ∧ ListOk K kd S H a xs l ∧ l.length ≤ line := by
  rcases hk with e | e
  · subst e
    obtain ⟨p, xs, F', e1, n, z, r⟩ := TL_zero h
    have e3 : F' = [] := n.2.symm
    subst e3
    exact ⟨p, xs, e1, ⟨n.1, r.len, fun i b hb => let ⟨v, e, q⟩ := r.get' hb; ⟨v, e, v, rfl, PyTy.froz q S⟩⟩, by rw [← r.len]; exact z⟩
  · subst e
    obtain ⟨p, xs, F', e1, n, z, r⟩ := h.2
    have e3 : F' = [] := n.2.symm
    subst e3
    exact ⟨p, xs, e1, ⟨n.1, r.len, fun i b hb => let ⟨v, e, q⟩ := r.get' hb; ⟨v, e, v, rfl, q⟩⟩, by rw [← r.len]; exact z⟩
theorem ListOk.mono {K : PySem.W.Frag} {kd : Mode} {S H S' H' : Hp} {a : Addr} {xs : List V} {α : Type} [PyTy α] {l : List α} (h : ListOk K kd S H a xs l) (hs : Sub S S') (hh : Sub H H') : ListOk K kd S' H' a xs l :=
  ⟨base_mono hs hh _ _ h.node, h.len, fun i b hb => let ⟨v, e, r⟩ := h.item i b hb; ⟨v, e, r.mono hs hh⟩⟩
theorem ListOk.at {K : PySem.W.Frag} {kd : Mode} {S H : Hp} {a : Addr} {xs : List V} {α : Type} [PyTy α] {l : List α} (h : ListOk K kd S H a xs l) (hs : Sub S H) : H a = some (.lst xs) := base_sub hs _ _ h.node
abbrev gPair (K : PySem.W.Frag) (i j : Nat) : TG := gTup K 2 (gCons (gName i) (gCons (gName j) gNil))
section
variable {K : PySem.W.Frag} {kd : Mode} {S H : Hp} {a : Addr} {xs : List V} {α β : Type} [TA : PyTy α] [TB : PyTy β]
theorem goes_list {l : List α} {i : Nat} (h : ListOk K kd S H a xs l) : Goes K (Itl K a) (gName i) S H kd l [i] (fun b => [⟨b⟩]) where
  stop j H2 hj s := ⟨xs, .inl (.inl (s _ _ h.node)), by rw [h.len]; exact hj⟩
  go j H2 hj s := ⟨xs, xs[j]'(by rw [h.len]; exact hj), .inl (.inl (s _ _ h.node)), List.getElem?_eq_getElem _⟩
  yld j b H2 x H3 σ Q eb s hy q := by
    obtain ⟨e, hx⟩ := hy
    subst e
    obtain ⟨v, ev, r⟩ := h.item j b eb
    have e2 := hx xs (.inl (.inl (s _ _ h.node)))
    rw [ev] at e2
    cases e2
    exact q [x] (Sub.refl _) ⟨r.up s, trivial⟩
theorem goes_listP {l : List (α × β)} {i j : Nat} (hk : kd = lv 0 ∨ kd = .vw) (hs : Sub S H) (h : ListOk K kd S H a xs l) : Goes K (Itl K a) (gPair K i j) S H kd l [i, j] (fun b => [⟨b.1⟩, ⟨b.2⟩]) where
  stop j H2 hj s := ⟨xs, .inl (.inl (s _ _ h.node)), by rw [h.len]; exact hj⟩
  go j H2 hj s := ⟨xs, xs[j]'(by rw [h.len]; exact hj), .inl (.inl (s _ _ h.node)), List.getElem?_eq_getElem _⟩
  yld m b H2 x H3 σ Q eb s hy q := by
    obtain ⟨e, hx⟩ := hy
    subst e
    obtain ⟨v, ev, r⟩ := h.item m b eb
    have e2 := hx xs (.inl (.inl (s _ _ h.node)))
    rw [ev] at e2
    cases e2
    have key : ∃ p u w', x = .ref p ∧ H3 p = some (.tup [u, w']) ∧ viewA K kd ⟨b.1⟩ (some u) S H3 ∧ viewA K kd ⟨b.2⟩ (some w') S H3 := by
      rcases hk with e | e
      · subst e
        obtain ⟨v', ev', p, u, w', F1, F2, e1, n, r1, r2⟩ := r
        cases ev'
        obtain ⟨e3, e4⟩ := List.append_eq_nil_iff.mp n.2.symm
        subst e3 e4
        exact ⟨p, u, w', e1, s _ _ n.1, ⟨u, rfl, r1⟩, ⟨w', rfl, r2⟩⟩
      · subst e
        obtain ⟨v', ev', p, u, w', F1, F2, e1, n, r1, r2⟩ := r
        cases ev'
        obtain ⟨e3, e4⟩ := List.append_eq_nil_iff.mp n.2.symm
        subst e3 e4
        exact ⟨p, u, w', e1, s _ _ n.1, ⟨u, rfl, TA.mono r1 s fun p hp => nomatch hp⟩, ⟨w', rfl, TB.mono r2 s fun p hp => nomatch hp⟩⟩
    obtain ⟨p, u, w', e1, n, r1, r2⟩ := key
    exact ⟨p, [u, w'], e1, .inl (.inl n), rfl, u, [w'], rfl, w', [], rfl, rfl, q [u, w'] (Sub.refl _) ⟨r1, r2, trivial⟩⟩
/-- enumerate -/
def enumF {α : Type} : Int → List α → List (Int × α)
  | _, [] => []
  | k, a :: l => (k, a) :: enumF (k + 1) l
theorem enumF_get {α : Type} : ∀ {l : List α} {k : Int} {i : Nat}, (enumF k l)[i]? = l[i]?.map fun a => (k + i, a)
  | [], _, _ => rfl
  | a :: l, k, 0 => by
    show some (k, a) = some (k + 0, a)
    rw [Int.add_zero]
  | a :: l, k, i + 1 => by
    show (enumF (k + 1) l)[i]? = l[i]?.map fun a => (k + ((i + 1 : Nat) : Int), a)
    rw [enumF_get]
    congr 1
    funext x
    rw [Int.natCast_add]
    congr 1
    show k + 1 + (i : Int) = k + ((i : Int) + 1)
    omega
theorem enumF_len {α : Type} : ∀ {l : List α} {k : Int}, (enumF k l).length = l.length
  | [], _ => rfl
  | _ :: l, k => by
    show (enumF (k + 1) l).length + 1 = l.length + 1
    rw [enumF_len]
theorem viewI {K : PySem.W.Frag} {kd : Mode} {S H : Hp} {i : Int} : viewA K kd ⟨i⟩ (some (.int i)) S H := by
  cases kd with
  | un => trivial
  | vw => exact ⟨_, rfl, rfl, rfl⟩
  | id _ => exact ⟨_, rfl, rfl, rfl⟩
  | own k io => exact ⟨_, rfl, rfl, rfl⟩
theorem goes_enum {l : List α} {i j : Nat} (h : ListOk K kd S H a xs l) : Goes K (Ite K a) (gPair K i j) S H kd (enumF 0 l) [i, j] (fun b => [⟨b.1⟩, ⟨b.2⟩]) where
  stop j H2 hj s := ⟨xs, .inl (.inl (s _ _ h.node)), by rw [h.len]; rw [enumF_len] at hj; exact hj⟩
  go j H2 hj s := ⟨xs, xs[j]'(by rw [h.len]; rw [enumF_len] at hj; exact hj), .inl (.inl (s _ _ h.node)), List.getElem?_eq_getElem _⟩
  yld m b H2 x H3 σ Q eb s hy q := by
    obtain ⟨T, y, e1, hT, e2, hx⟩ := hy
    subst e1 e2
    rw [enumF_get] at eb
    obtain ⟨b2, eb2, eb3⟩ := Option.map_eq_some_iff.mp eb
    subst eb3
    obtain ⟨v, ev, r⟩ := h.item m b2 eb2
    have e2 := hx xs (.inl (.inl (s _ _ h.node)))
    rw [ev] at e2
    cases e2
    refine ⟨T, [.int (m : Nat), y], rfl, .inl (.inl upd_same), rfl, .int (m : Nat), [y], rfl, y, [], rfl, rfl, q [.int (m : Nat), y] (Sub.new hT) ⟨?_, (r.up s).mono (Sub.refl S) (Sub.new hT), trivial⟩⟩
    have := viewI (K := K) (kd := kd) (S := S) (H := upd H2 T (.tup [.int (m : Nat), y])) (i := 0 + (m : Int))
    rw [Int.zero_add] at this ⊢
    exact this
theorem goes_zip {b : Addr} {ys : List V} {l : List α} {l2 : List β} {i j : Nat} (h : ListOk K kd S H a xs l) (h2 : ListOk K kd S H b ys l2) : Goes K (Itz K a b) (gPair K i j) S H kd (l.zip l2) [i, j] (fun b => [⟨b.1⟩, ⟨b.2⟩]) where
  stop j H2 hj s := ⟨xs, ys, .inl (.inl (s _ _ h.node)), .inl (.inl (s _ _ h2.node)), by rw [h.len, h2.len]; rw [List.length_zip] at hj; omega⟩
  go j H2 hj s := by
    rw [List.length_zip] at hj
    exact ⟨xs, ys, xs[j]'(by rw [h.len]; omega), ys[j]'(by rw [h2.len]; omega), .inl (.inl (s _ _ h.node)), .inl (.inl (s _ _ h2.node)), List.getElem?_eq_getElem _, List.getElem?_eq_getElem _⟩
  yld m b2 H2 x H3 σ Q eb s hy q := by
    obtain ⟨T, x1, y1, e1, hT, e2, hx, hy⟩ := hy
    subst e1 e2
    have eb' := List.getElem?_zip_eq_some.mp eb
    obtain ⟨v, ev, r⟩ := h.item m b2.1 eb'.1
    obtain ⟨v2, ev2, r2⟩ := h2.item m b2.2 eb'.2
    have e2 := hx xs (.inl (.inl (s _ _ h.node)))
    rw [ev] at e2
    cases e2
    have e3 := hy ys (.inl (.inl (s _ _ h2.node)))
    rw [ev2] at e3
    cases e3
    exact ⟨T, [x1, y1], rfl, .inl (.inl upd_same), rfl, x1, [y1], rfl, y1, [], rfl, rfl, q [x1, y1] (Sub.new hT) ⟨(r.up s).mono (Sub.refl S) (Sub.new hT), (r2.up s).mono (Sub.refl S) (Sub.new hT), trivial⟩⟩
theorem goes_rev {l : List α} {i : Nat} (h : ListOk K kd S H a xs l) : Goes K (Itv K a xs.length) (gName i) S H kd l.reverse [i] (fun b => [⟨b⟩]) where
  stop j H2 hj s := by
    rw [List.length_reverse] at hj
    show xs.length ≤ j
    rw [h.len]
    exact hj
  go j H2 hj s := by
    rw [List.length_reverse] at hj
    refine ⟨by rw [h.len]; exact hj, xs, xs[xs.length - 1 - j]'(by rw [h.len]; omega), .inl (.inl (s _ _ h.node)), List.getElem?_eq_getElem _⟩
  yld m b H2 x H3 σ Q eb s hy q := by
    obtain ⟨e, hx⟩ := hy
    subst e
    obtain ⟨hm, _⟩ := List.getElem?_eq_some_iff.mp eb
    rw [List.length_reverse] at hm
    rw [List.getElem?_reverse hm] at eb
    obtain ⟨v, ev, r⟩ := h.item _ b eb
    have e2 := hx xs (.inl (.inl (s _ _ h.node)))
    rw [h.len, ev] at e2
    cases e2
    exact q [x] (Sub.refl _) ⟨r.up s, trivial⟩
@[irreducible] def rng (a b : Int) : Option (List Int) := if -(2 ^ 62) ≤ a ∧ a < 2 ^ 62 ∧ -(2 ^ 62) ≤ b ∧ b < 2 ^ 62 ∧ b - a ≤ 2 ^ 24 then some ((List.range (b - a).toNat).map fun (k : Nat) => a + (k : Int)) else none
def rng1 (b : Int) : Option (List Int) := rng 0 b
theorem goes_rng {lo : Int} {n : Nat} {i : Nat} : Goes K (Itr lo n) (gName i) S H kd ((List.range n).map fun (k : Nat) => lo + (k : Int)) [i] (fun b => [⟨b⟩]) where
  stop j H2 hj s := by
    rw [List.length_map, List.length_range] at hj
    exact hj
  go j H2 hj s := by
    rw [List.length_map, List.length_range] at hj
    exact hj
  yld m b H2 x H3 σ Q eb s hy q := by
    obtain ⟨e, hx⟩ := hy
    subst e hx
    obtain ⟨k, ek, e2⟩ := Option.map_eq_some_iff.mp (by rw [List.getElem?_map] at eb; exact eb)
    obtain ⟨h1, h2⟩ := List.getElem?_eq_some_iff.mp ek
    rw [List.getElem_range] at h2
    subst h2 e2
    exact q [.int (lo + (m : Int))] (Sub.refl _) ⟨viewI, trivial⟩
end
section
variable {X : Cx} {W : Hp → String → Prop} {ρ : Type} {sl : ρ → List Slot} {ms : List Mode} {a b e tg : Expr} {pos p tpos : Pos} {kd : Mode}
variable {α β : Type} [TA : PyTy α] [TB : PyTy β]
theorem pw_list {i : Nat} {f : ρ → M (List α)} (h : PE X e (tP X.K W sl ms f kd)) (hk : kd = lv 0 ∨ kd = .vw := by first | exact Or.inl rfl | exact Or.inr rfl) : PI X tg e (tW X.K W sl ms f kd (gName i) [i] (fun b => [⟨b⟩])) :=
  PI.conv (pi_list h) fun σ H R ⟨r, S, hs, hv, he⟩ => ⟨r, S, hs, hv, ends_mono he (fun l el q v S1 H1 F x g => by
    obtain ⟨a, xs, e1, lo, hl⟩ := listOk g x.sh hk
    refine ⟨a, e1, ⟨xs, .inl (.inl (lo.at x.sh))⟩, q _ (add S1 H1 F) H1 (x.share g.here) hl (goes_list (lo.mono (add_sub fun p hp => (x.fr p hp).2) (Sub.refl _)))⟩) fun c q => q⟩
theorem pw_listP {i j : Nat} {f : ρ → M (List (α × β))} (h : PE X e (tP X.K W sl ms f kd)) (hk : kd = lv 0 ∨ kd = .vw := by first | exact Or.inl rfl | exact Or.inr rfl) : PI X tg e (tW X.K W sl ms f kd (gPair X.K i j) [i, j] (fun b => [⟨b.1⟩, ⟨b.2⟩])) :=
  PI.conv (pi_list h) fun σ H R ⟨r, S, hs, hv, he⟩ => ⟨r, S, hs, hv, ends_mono he (fun l el q v S1 H1 F x g => by
    obtain ⟨a, xs, e1, lo, hl⟩ := listOk g x.sh hk
    have x0 := x.share g.here
    refine ⟨a, e1, ⟨xs, .inl (.inl (lo.at x.sh))⟩, q _ (add S1 H1 F) H1 x0 hl (goes_listP hk x0.sh (lo.mono (add_sub fun p hp => (x.fr p hp).2) (Sub.refl _)))⟩) fun c q => q⟩
def eEnum {ρ α : Type} (f : ρ → M (List α)) : ρ → M (List (Int × α)) := fun r => f r >>= fun l => .ok (enumF 0 l)
theorem pw_enum {i j : Nat} {elts : List Expr} {kk : Nat} {f : ρ → M (List α)} (hg : Gl X "enumerate") (hm : X.mg "enumerate" = none) (h : PE X e (tP X.K W sl ms f kd)) (hk : kd = lv 0 ∨ kd = .vw := by first | exact Or.inl rfl | exact Or.inr rfl)
    (hs : starEach [e] X.env = [(false, eval e X.env)] := by rfl) (hs2 : starEach [e] X.env = (false, eval e X.env) :: starEach [] X.env := by rfl) : PI X (.Tuple elts kk tpos) (.Call (.Name "enumerate" p) [e] [] pos) (tW X.K W sl ms (eEnum f) kd (gPair X.K i j) [i, j] (fun b => [⟨b.1⟩, ⟨b.2⟩])) :=
  PI.conv (pi_enum hg hm (pa_cons h pa_nil hs2) hs) fun σ H R ⟨r, S, hs, hv, he⟩ => ⟨r, S, hs, hv, ends_mono (ends_bind he) (fun l el q v S1 H1 F x g => by
    obtain ⟨a, xs, e1, lo, hl⟩ := listOk g x.sh hk
    subst e1
    refine ⟨a, xs, rfl, .inl (.inl (lo.at x.sh)), q _ (add S1 H1 F) H1 (x.share g.here) (by rw [enumF_len]; exact hl) (goes_enum (lo.mono (add_sub fun p hp => (x.fr p hp).2) (Sub.refl _)))⟩) fun c q => q⟩
def eZip {ρ α β : Type} (f : ρ → M (List α)) (g : ρ → M (List β)) : ρ → M (List (α × β)) := fun r => f r >>= fun l => g r >>= fun m => .ok (l.zip m)
theorem pw_zip {i j : Nat} {elts : List Expr} {kk : Nat} {f : ρ → M (List α)} {g : ρ → M (List β)} (hg : Gl X "zip") (hm : X.mg "zip" = none) (h : PE X a (tP X.K W sl ms f kd)) (h2 : PE X b (tP X.K W sl ms g kd)) (hk : kd = lv 0 ∨ kd = .vw := by first | exact Or.inl rfl | exact Or.inr rfl)
    (hs : starEach [a, b] X.env = (false, eval a X.env) :: starEach [b] X.env := by rfl) (hpl : (backTo pos (starEach [b] X.env)).any (·.1) = false := by rfl) (hs2 : starEach [b] X.env = (false, eval b X.env) :: starEach [] X.env := by rfl) :
    PI X (.Tuple elts kk tpos) (.Call (.Name "zip" p) [a, b] [] pos) (tW X.K W sl ms (eZip f g) kd (gPair X.K i j) [i, j] (fun b => [⟨b.1⟩, ⟨b.2⟩])) :=
  PI.conv (pi_zip hg hm (pa_cons h (pa_cons h2 pa_nil hs2) hs) hs hpl) fun σ H R ⟨r, S, hs, hv, he⟩ => by
    refine two (R := fun x y H2 => ∃ a b xs ys, [x, y] = [V.ref a, V.ref b] ∧ SqL X.K H2 a xs ∧ SqL X.K H2 b ys ∧ R (Itz X.K a b) H2) h h2 hs hv ?_
    refine ends_mono (ends_bind he) (fun l el q => ends_mono (ends_bind q) (fun m em q v u S1 H1 F1 F2 x g1 g2 => ?_) fun c q => q) fun c q => q
    obtain ⟨a, xs, e1, lo, hl⟩ := listOk g1 x.sh hk
    obtain ⟨b, ys, e2, lo2, hl2⟩ := listOk g2 x.sh hk
    subst e1 e2
    have x0 := x.share (F := F2 ++ F1) fun p hp => (List.mem_append.mp hp).elim (g2.here p) (g1.here p)
    have sb : Sub S1 (add S1 H1 (F2 ++ F1)) := add_sub fun p hp => (x.fr p hp).2
    refine ⟨a, b, xs, ys, rfl, .inl (.inl (lo.at x.sh)), .inl (.inl (lo2.at x.sh)), q _ _ H1 x0 (by rw [List.length_zip]; omega) (goes_zip (lo.mono sb (Sub.refl _)) (lo2.mono sb (Sub.refl _)))⟩
def eRev {ρ α : Type} (f : ρ → M (List α)) : ρ → M (List α) := fun r => f r >>= fun l => .ok l.reverse
theorem pw_rev {i : Nat} {f : ρ → M (List α)} (hg : Gl X "reversed") (hm : X.mg "reversed" = none) (h : PE X e (tP X.K W sl ms f kd)) (hk : kd = lv 0 ∨ kd = .vw := by first | exact Or.inl rfl | exact Or.inr rfl)
    (hs : starEach [e] X.env = [(false, eval e X.env)] := by rfl) (hs2 : starEach [e] X.env = (false, eval e X.env) :: starEach [] X.env := by rfl) : PI X tg (.Call (.Name "reversed" p) [e] [] pos) (tW X.K W sl ms (eRev f) kd (gName i) [i] (fun b => [⟨b⟩])) :=
  PI.conv (pi_reversed hg hm (pa_cons h pa_nil hs2) hs) fun σ H R ⟨r, S, hs, hv, he⟩ => ⟨r, S, hs, hv, ends_mono (ends_bind he) (fun l el q v S1 H1 F x g => by
    obtain ⟨a, xs, e1, lo, hl⟩ := listOk g x.sh hk
    subst e1
    refine ⟨a, xs, rfl, .inl (.inl (lo.at x.sh)), q _ (add S1 H1 F) H1 (x.share g.here) (by rw [List.length_reverse]; exact hl) (goes_rev (lo.mono (add_sub fun p hp => (x.fr p hp).2) (Sub.refl _)))⟩) fun c q => q⟩
theorem rng_len {a b : Int} {l : List Int} (h : rng a b = some l) : l.length ≤ line ∧ -(2 ^ 62) ≤ a ∧ a < 2 ^ 62 ∧ -(2 ^ 62) ≤ b ∧ b < 2 ^ 62 ∧ l = (List.range (b - a).toNat).map fun (k : Nat) => a + (k : Int) := by
  unfold rng at h
  split at h
  · rename_i hh
    cases h
    refine ⟨?_, hh.1, hh.2.1, hh.2.2.1, hh.2.2.2.1, rfl⟩
    rw [List.length_map, List.length_range]
    show _ ≤ 2 ^ 24
    omega
  · cases h
theorem pw_rng1 {i : Nat} {f : ρ → M Int} {ka : Mode} (hg : Gl X "range") (hm : X.mg "range" = none) (h : PE X e (tP X.K W sl ms f ka)) (hka : ka ≠ .un := by decide)
    (hs : starEach [e] X.env = [(false, eval e X.env)] := by rfl) (hs2 : starEach [e] X.env = (false, eval e X.env) :: starEach [] X.env := by rfl) : PI X tg (.Call (.Name "range" p) [e] [] pos) (tW X.K W sl ms (e1 rng1 f) (lv 0) (gName i) [i] (fun b => [⟨b⟩])) :=
  PI.conv (pi_range1 hg hm (pa_cons h pa_nil hs2) hs) fun σ H R ⟨r, S, hs, hv, he⟩ => ⟨r, S, hs, hv, ends_mono (ends_bind he) (fun n en q v S1 H1 F x g => by
    obtain ⟨l, el, q⟩ := up_ends q
    have hn := rep_scal (g.look x.sh hka)
    obtain ⟨hl, h1, h2, h3, h4, e⟩ := rng_len el
    subst e
    refine ⟨n, by rw [hn]; rfl, h3, h4, ?_⟩
    have := q (Itr 0 n.toNat) (add S1 H1 F) H1 (x.share g.here) hl
    rw [Int.sub_zero] at this
    exact this goes_rng) fun c q => q⟩
theorem pw_rng2 {i : Nat} {f g : ρ → M Int} {ka kb : Mode} (hg : Gl X "range") (hm : X.mg "range" = none) (h : PE X a (tP X.K W sl ms f ka)) (h2 : PE X b (tP X.K W sl ms g kb)) (hka : ka ≠ .un := by decide) (hkb : kb ≠ .un := by decide)
    (hs : starEach [a, b] X.env = [(false, eval a X.env), (false, eval b X.env)] := by rfl) (hs2 : starEach [b] X.env = [(false, eval b X.env)] := by rfl) (hs3 : starEach [a, b] X.env = (false, eval a X.env) :: starEach [b] X.env := by rfl) (hs4 : starEach [b] X.env = (false, eval b X.env) :: starEach [] X.env := by rfl) :
    PI X tg (.Call (.Name "range" p) [a, b] [] pos) (tW X.K W sl ms (e2 rng f g) (lv 0) (gName i) [i] (fun b => [⟨b⟩])) :=
  PI.conv (pi_range2 hg hm (pa_cons h (pa_cons h2 pa_nil hs4) hs3) hs hs2) fun σ H R ⟨r, S, hs, hv, he⟩ => by
    refine two (R := fun x y H2 => ∃ i j : Int, [x, y] = [V.int i, V.int j] ∧ (-(2 ^ 62) ≤ i ∧ i < 2 ^ 62 ∧ -(2 ^ 62) ≤ j ∧ j < 2 ^ 62) ∧ R (Itr i (j - i).toNat) H2) h h2 hs hv ?_
    refine ends_mono (ends_bind he) (fun n en q => ends_mono (ends_bind q) (fun m em q v u S1 H1 F1 F2 x g1 g2 => ?_) fun c q => q) fun c q => q
    obtain ⟨l, el, q⟩ := up_ends q
    have hn := rep_scal (g1.look x.sh hka)
    have hm := rep_scal (g2.look x.sh hkb)
    obtain ⟨hl, h1, h2, h3, h4, e⟩ := rng_len el
    subst e
    have x0 := x.share (F := F2 ++ F1) fun p hp => (List.mem_append.mp hp).elim (g2.here p) (g1.here p)
    exact ⟨n, m, by rw [hn, hm]; rfl, ⟨h1, h2, h3, h4⟩, q _ _ H1 x0 hl goes_rng⟩

/-! ### displays -/
def tPL (K : PySem.W.Frag) (W : Hp → String → Prop) {ρ : Type} (sl : ρ → List Slot) (ms : List Mode) {α : Type} [T : PyTy α] (f : ρ → M (List α)) (k : Nat) : L2.TA := fun σ H Q =>
  ∃ (r : ρ) (S : Hp), Sub S H ∧ View K S H ms (sl r) σ ∧ ends (f r) (fun l => ∀ vs S' H' F, Ext S H S' H' F → Reps (fun v a F => T.rep K k S' H' v a F) vs l F → Q vs H') (fun c => ∀ H', Sub H H' → W H' c)
def eNil {ρ α : Type} : ρ → M (List α) := fun _ => .ok []
def eCons {ρ α : Type} (f : ρ → M α) (g : ρ → M (List α)) : ρ → M (List α) := fun r => f r >>= fun a => g r >>= fun l => .ok (a :: l)
def eLst {ρ α : Type} (f : ρ → M (List α)) : ρ → M (List α) := fun r => f r >>= fun l => if l.length ≤ line then .ok l else .error .stuck
theorem pl_nil {K : PySem.W.Frag} {k : Nat} : PA X [] (tPL K W sl ms (eNil (α := α)) k) := PA.conv pa_nil fun σ H Q ⟨r, S, hs, hv, he⟩ => he [] S H [] (Ext.refl hs) rfl
theorem pl_cons {K : PySem.W.Frag} {k : Nat} {es : List Expr} {f : ρ → M α} {g : ρ → M (List α)} (ha : PE X e (tP K W sl ms f (lv k))) (hr : PA X es (tPL K W sl ms g k)) (hs : starEach (e :: es) X.env = (false, eval e X.env) :: starEach es X.env := by rfl) : PA X (e :: es) (tPL K W sl ms (eCons f g) k) :=
  PA.conv (pa_cons ha hr hs) fun σ H Q ⟨r, S, hs, hv, he⟩ => ⟨r, S, hs, hv, ends_mono (ends_bind he) (fun a ea q v S1 H1 F1 x1 g1 => ⟨r, S1, x1.sh, hv.mono x1.ss x1.hh, ends_mono (ends_bind q) (fun l el q vs S2 H2 F2 x2 g2 => q (v :: vs) S2 H2 (F1 ++ F2) ((x1.trans x2 (TA.here g1)).perm List.perm_append_comm) ⟨F1, F2, rfl, g1.mono x2.ss x2.hh (TA.here g1), g2⟩) fun c q H2 h2 => q H2 (x1.hh.trans h2)⟩) fun c q => q⟩
theorem pv_lst {K : PySem.W.Frag} {k : Nat} {es : List Expr} {f : ρ → M (List α)} (h : PA X es (tPL K W sl ms f k)) : PE X (.List es pos) (tP K W sl ms (eLst f) (lv (k + 1))) :=
  PE.conv (pe_lst h) fun σ H Q ⟨r, S, hs, hv, he⟩ => ⟨r, S, hs, hv, ends_mono (ends_bind he) (fun l el q vs S1 H1 F x g => by
    split at q
    · rename_i hz
      refine ⟨by rw [g.len]; exact hz, fun p hp => ?_⟩
      have hlF : ∀ q ∈ F, H1 q ≠ none := g.here fun v a F' z => TA.here z
      have hpF : p ∉ F := fun z => hlF p z hp
      refine q (.ref p) S1 (upd H1 p (.lst vs)) (p :: F) ⟨x.hh.trans (Sub.new hp), x.ss, x.sh.trans (Sub.new hp), x.nw, fun q hq => ?_, List.nodup_cons.mpr ⟨hpF, x.nd⟩⟩ ⟨p, vs, F, rfl, ⟨upd_same, rfl⟩, by rw [g.len]; exact hz, g.imp fun v a F' hf z => TA.mono z (Sub.refl S1) fun q hq => upd_ne (fun e => hpF (by rw [← e]; exact hf q hq))⟩
      rcases List.mem_cons.mp hq with e | hq
      · rw [e]
        exact ⟨x.hh.back hp, x.sh.back hp⟩
      · exact x.fr q hq
    · exact q.elim) fun c q => q⟩
/-- [] -/
theorem pv_nil {K : PySem.W.Frag} {k : Nat} : PE X (.List [] pos) (tP K W sl ms (e0 ([] : List α)) (lv (k + 1))) :=
  PE.conv (pv_lst (pl_nil (α := α) (K := K) (k := k))) fun σ H Q h => h
def ePair {ρ α β : Type} (f : ρ → M α) (g : ρ → M β) : ρ → M (α × β) := fun r => f r >>= fun a => g r >>= fun b => .ok (a, b)
theorem pv_pair {K : PySem.W.Frag} {k kk : Nat} {f : ρ → M α} {g : ρ → M β} (ha : PE X a (tP K W sl ms f (lv k))) (hb : PE X b (tP K W sl ms g (lv k))) (hs : starEach [a, b] X.env = (false, eval a X.env) :: starEach [b] X.env := by rfl) (hs2 : starEach [b] X.env = (false, eval b X.env) :: starEach [] X.env := by rfl) :
    PE X (.Tuple [a, b] kk pos) (tP K W sl ms (ePair f g) (lv (k + 1))) :=
  PE.conv (pe_tup (pa_cons ha (pa_cons hb pa_nil hs2) hs)) fun σ H Q ⟨r, S, hs, hv, he⟩ => by
    refine two (R := fun x y H2 => [x, y].length ≤ sizeLine ∧ ∀ p, H2 p = none → Q (.ref p) (upd H2 p (.tup [x, y]))) ha hb hs hv ?_
    refine ends_mono (ends_bind he) (fun n en q => ends_mono (ends_bind q) (fun m em q v u S1 H1 F1 F2 x g1 g2 => ?_) fun c q => q) fun c q => q
    refine ⟨by show 2 ≤ sizeLine; decide, fun p hp => ?_⟩
    have h1 : p ∉ F1 := fun z => TA.here g1 p z hp
    have h2 : p ∉ F2 := fun z => TB.here g2 p z hp
    have x' := x.perm (List.perm_append_comm (l₁ := F2) (l₂ := F1))
    refine q (.ref p) S1 _ (p :: (F1 ++ F2)) ⟨x.hh.trans (Sub.new hp), x.ss, x.sh.trans (Sub.new hp), x.nw, fun q hq => ?_, List.nodup_cons.mpr ⟨fun z => (List.mem_append.mp z).elim h1 h2, x'.nd⟩⟩ ⟨p, v, u, F1, F2, rfl, ⟨upd_same, rfl⟩, TA.mono g1 (Sub.refl S1) (fun q hq => upd_ne (fun e => h1 (by rw [← e]; exact hq))), TB.mono g2 (Sub.refl S1) (fun q hq => upd_ne (fun e => h2 (by rw [← e]; exact hq)))⟩
    rcases List.mem_cons.mp hq with e | hq
    · rw [e]
      exact ⟨x.hh.back hp, x.sh.back hp⟩
    · exact x'.fr q hq
end
end VL
namespace VL
open PySem PySem.Spec PyProof.Rows L2

/-! ### a new list, made of a list -/
def tFunL (φV : List V → List V) (te : TE) : TE := fun σ H Q => te σ H fun x H1 => ∃ a xs, x = .ref a ∧ H1 a = some (.lst xs) ∧ ∀ p, H1 p = none → Q (.ref p) (upd H1 p (.lst (φV xs)))
def Nat1 {α : Type} (φV : List V → List V) (φ : List α → List α) : Prop := (∀ (r : V → α → List Addr → Prop) vs as, Reps r vs as [] → Reps r (φV vs) (φ as) []) ∧ (∀ l, (φV l).length ≤ l.length)
section
variable {X : Cx} {K : PySem.W.Frag} {W : Hp → String → Prop} {ρ : Type} {sl : ρ → List Slot} {ms : List Mode} {a b c e : Expr} {pos p tpos : Pos} {kd : Mode}
variable {α β γ : Type} [TA : PyTy α] [TB : PyTy β] [TC : PyTy γ]
/-- a new list at p, its items shared -/
theorem new_list {S1 H1 : Hp} {p : Addr} {xs : List V} {l : List α} (hs : Sub S1 H1) (hp : H1 p = none) (hz : xs.length ≤ line) (hr : ∀ H, Reps (fun v a F => TA.rep K 0 S1 H v a F) xs l []) : Ext S1 H1 S1 (upd H1 p (.lst xs)) [p] ∧ got K (lv 1) l S1 (upd H1 p (.lst xs)) (.ref p) [p] :=
  ⟨⟨Sub.new hp, Sub.refl S1, hs.trans (Sub.new hp), fun p q => .inl q, fun q hq => by rw [List.mem_singleton.mp hq]; exact ⟨hp, hs.back hp⟩, List.nodup_cons.mpr ⟨by simp, List.nodup_nil⟩⟩, p, xs, [], rfl, ⟨upd_same, rfl⟩, hz, hr _⟩
theorem pv_fun {φV : List V → List V} {φ : List α → List α} {f : ρ → M (List α)} (hn : Nat1 φV φ) (h : PE X e (tFunL φV (tP K W sl ms f (lv 0)))) : PE X e (tP K W sl ms (e1 (fun l => some (φ l)) f) (lv 1)) :=
  PE.conv h fun σ H Q ⟨r, S, hs, hv, he⟩ => ⟨r, S, hs, hv, ends_mono (ends_bind he) (fun l el q v S1 H1 F x g => by
    have eF : F = [] := PyTy.zero g
    subst eF
    obtain ⟨p, xs, F', e1, n, z, r⟩ := g
    have e3 : F' = [] := n.2.symm
    subst e3
    refine ⟨p, xs, e1, x.sh _ _ n.1, fun p hp => ?_⟩
    obtain ⟨x2, g2⟩ := new_list (K := K) (l := φ l) x.sh hp (Nat.le_trans (hn.2 xs) z) fun H => hn.1 _ _ _ (r.imp fun v a F' hf q => TA.mono q (Sub.refl S1) fun p hp => by rw [List.eq_nil_of_subset_nil (fun y hy => hf y hy)] at hp; cases hp)
    have := x.trans x2 (fun p hp => nomatch hp)
    exact q _ _ _ _ this g2) fun c q => q⟩
/-- .. of things without objects, whatever it was -/
theorem pv_funS [SA : Scal α] {φV : List V → List V} {φ : List α → List α} {f : ρ → M (List α)} (hn : Nat1 φV φ) (h : PE X e (tFunL φV (tP K W sl ms f kd))) (hk : kd ≠ .un := by decide) : PE X e (tP K W sl ms (e1 (fun l => some (φ l)) f) (lv 1)) :=
  PE.conv h fun σ H Q ⟨r, S, hs, hv, he⟩ => ⟨r, S, hs, hv, ends_mono (ends_bind he) (fun l el q v S1 H1 F x g => by
    obtain ⟨p, e1, n, z⟩ := rep_list (g.look x.sh hk)
    refine ⟨p, _, e1, n, fun p hp => ?_⟩
    have x0 := x.share g.here
    obtain ⟨x2, g2⟩ := new_list (K := K) (l := φ l) x0.sh hp (Nat.le_trans (hn.2 (l.map SA.val)) (by rw [List.length_map]; exact z)) fun H => hn.1 _ _ _ scal_reps
    have := x0.trans x2 (fun p hp => nomatch hp)
    exact q _ _ _ _ this g2) fun c q => q⟩
theorem nat_id : Nat1 (α := α) (fun l => l) (fun l => l) := ⟨fun _ _ _ h => h, fun _ => Nat.le_refl _⟩
theorem nat_rev : Nat1 (α := α) List.reverse List.reverse := ⟨fun _ _ _ h => h.reverse, fun l => by rw [List.length_reverse]; exact Nat.le_refl _⟩

/-! xs[lo:hi] -/
def cutA {α : Type} (l : List α) (lo hi : Option Int) : List α := (l.drop (HT.sIx l.length 0 lo)).take (HT.sIx l.length l.length hi - HT.sIx l.length 0 lo)
def tPO (K : PySem.W.Frag) (W : Hp → String → Prop) {ρ : Type} (sl : ρ → List Slot) (ms : List Mode) (f : ρ → M (Option Int)) : TO := fun σ H Q =>
  ∃ (r : ρ) (S : Hp), Sub S H ∧ View K S H ms (sl r) σ ∧ ends (f r) (fun o => ∀ S' H', Ext S H S' H' [] → Q o H') (fun c => ∀ H', Sub H H' → W H' c)
theorem PO.conv {X : Cx} {e : Option Expr} {t t' : TO} (h : PO X e t) (k : ∀ σ H Q, t' σ H Q → t σ H Q) : PO X e t' := ⟨fun pins s σ H Q I q => h.run pins s σ H Q I (k σ H Q q)⟩
def oNone {ρ : Type} : ρ → M (Option Int) := fun _ => .ok none
def oSome {ρ : Type} (f : ρ → M Int) : ρ → M (Option Int) := fun r => f r >>= fun i => .ok (some i)
theorem po_n : PO X none (tPO K W sl ms oNone) := PO.conv po_none fun σ H Q ⟨r, S, hs, hv, he⟩ => he S H (Ext.refl hs)
theorem po_s {f : ρ → M Int} (h : PE X e (tP K W sl ms f kd)) (hk : kd ≠ .un := by decide) : PO X (some e) (tPO K W sl ms (oSome f)) := PO.conv (po_some h) fun σ H Q ⟨r, S, hs, hv, he⟩ => ⟨r, S, hs, hv, ends_mono (ends_bind he) (fun i ei q v S1 H1 F x g => ⟨i, rep_scal (g.look x.sh hk), q _ H1 (x.share g.here)⟩) fun c q => q⟩
def eCut {ρ α : Type} (f : ρ → M (List α)) (g h : ρ → M (Option Int)) : ρ → M (List α) := fun r => f r >>= fun l => g r >>= fun a => h r >>= fun b => .ok (cutA l a b)
theorem cut_reps {r : V → α → List Addr → Prop} {vs : List V} {l : List α} {lo hi : Option Int} (h : Reps r vs l []) : Reps r (cutV vs lo hi) (cutA l lo hi) [] := by
  unfold cutV cutA
  rw [h.len]
  exact (h.drop _).take _
theorem pv_cut {lo hi : Option Expr} {f : ρ → M (List α)} {g h : ρ → M (Option Int)} {p2 : Pos} (he : PE X e (tP X.K W sl ms f (lv 0))) (hl : PO X lo (tPO X.K W sl ms g)) (hu : PO X hi (tPO X.K W sl ms h)) : PE X (.Subscript e (.Slice lo hi none p2) pos) (tP X.K W sl ms (eCut f g h) (lv 1)) :=
  PE.conv (pe_slice sl_list he hl hu) fun σ H Q ⟨r, S, hs, hv, he⟩ => ⟨r, S, hs, hv, ends_mono (ends_bind he) (fun l el q v S1 H1 F x g => by
    have eF : F = [] := PyTy.zero g
    subst eF
    refine ⟨r, S1, x.sh, hv.mono x.ss x.hh, ends_mono (ends_bind q) (fun o eo q S2 H2 x2 => ⟨r, S2, x2.sh, (hv.mono x.ss x.hh).mono x2.ss x2.hh, ends_mono (ends_bind q) (fun o2 eo2 q S3 H3 x3 => ?_) fun c q H4 h4 => q H4 (x.hh.trans (x2.hh.trans h4))⟩) fun c q H4 h4 => q H4 (x.hh.trans h4)⟩
    obtain ⟨p, xs, F', e1, n, z, r⟩ := g
    have e3 : F' = [] := n.2.symm
    subst e3
    have x13 := (x.trans x2 (fun p hp => nomatch hp)).trans x3 (fun p hp => nomatch hp)
    refine ⟨p, xs, e1, .inl (.inl (x13.sh _ _ (x3.ss _ _ (x2.ss _ _ n.1)))), fun p hp => ?_⟩
    obtain ⟨y, g2⟩ := new_list (K := X.K) (l := cutA l o o2) x13.sh hp (Nat.le_trans (cutV_length xs o o2) z) fun H => cut_reps (r.imp fun v a F' hf q => TA.mono q (x2.ss.trans x3.ss) fun p hp => by rw [List.eq_nil_of_subset_nil (fun y hy => hf y hy)] at hp; cases hp)
    exact q _ _ _ _ (x13.trans y (fun p hp => nomatch hp)) g2) fun c q => q⟩
theorem pv_cutS [SA : Scal α] {lo hi : Option Expr} {f : ρ → M (List α)} {g h : ρ → M (Option Int)} {p2 : Pos} (he : PE X e (tP X.K W sl ms f kd)) (hl : PO X lo (tPO X.K W sl ms g)) (hu : PO X hi (tPO X.K W sl ms h)) (hk : kd ≠ .un := by decide) : PE X (.Subscript e (.Slice lo hi none p2) pos) (tP X.K W sl ms (eCut f g h) (lv 1)) :=
  PE.conv (pe_slice sl_list he hl hu) fun σ H Q ⟨r, S, hs, hv, he⟩ => ⟨r, S, hs, hv, ends_mono (ends_bind he) (fun l el q v S1 H1 F x g => by
    have x' := x.share g.here
    have hv' := hv.mono x'.ss x'.hh
    refine ⟨r, _, x'.sh, hv', ends_mono (ends_bind q) (fun o eo q S2 H2 x2 => ⟨r, S2, x2.sh, hv'.mono x2.ss x2.hh, ends_mono (ends_bind q) (fun o2 eo2 q S3 H3 x3 => ?_) fun c q H4 h4 => q H4 (x.hh.trans (x2.hh.trans h4))⟩) fun c q H4 h4 => q H4 (x.hh.trans h4)⟩
    obtain ⟨p, e1, n, z⟩ := rep_list (g.look x.sh hk)
    have x13 := (x'.trans x2 (fun p hp => nomatch hp)).trans x3 (fun p hp => nomatch hp)
    refine ⟨p, _, e1, .inl (.inl (x3.hh _ _ (x2.hh _ _ n))), fun p hp => ?_⟩
    obtain ⟨y, g2⟩ := new_list (K := X.K) (l := cutA l o o2) x13.sh hp (Nat.le_trans (cutV_length _ o o2) (by rw [List.length_map]; exact z)) fun H => cut_reps scal_reps
    exact q _ _ _ _ (x13.trans y (fun p hp => nomatch hp)) g2) fun c q => q⟩

/-! xs + ys -/
@[irreducible] def catL {α : Type} (l m : List α) : Option (List α) := if l.length + m.length ≤ 2 ^ 24 then some (l ++ m) else none
theorem catL_some {l m n : List α} (h : catL l m = some n) : l.length + m.length ≤ line ∧ n = l ++ m := by
  unfold catL at h
  split at h
  · cases h
    exact ⟨by assumption, rfl⟩
  · cases h
theorem pv_cat {f g : ρ → M (List α)} (ha : PE X a (tP K W sl ms f (lv 0))) (hb : PE X b (tP K W sl ms g (lv 0))) : PE X (.BinOp a .Add b pos) (tP K W sl ms (e2 catL f g) (lv 1)) :=
  PE.conv (pe_op op_cat ha hb) fun σ H Q ⟨r, S, hs, hv, he⟩ => by
    refine two (R := fun x y H2 => rCat x y H2 Q) ha hb hs hv ?_
    refine ends_mono (ends_bind he) (fun l el q => ends_mono (ends_bind q) (fun m em q v u S1 H1 F1 F2 x g1 g2 => ?_) fun c q => q) fun c q => q
    obtain ⟨n, en, q⟩ := up_ends q
    have eF1 : F1 = [] := PyTy.zero g1
    have eF2 : F2 = [] := PyTy.zero g2
    subst eF1 eF2
    obtain ⟨hz, e⟩ := catL_some en
    subst e
    obtain ⟨p1, xs, F', e1, n1, z1, r1⟩ := g1
    obtain ⟨p2, ys, F'', e2, n2, z2, r2⟩ := g2
    have e3 : F' = [] := n1.2.symm
    have e4 : F'' = [] := n2.2.symm
    subst e3 e4
    have hz' : xs.length + ys.length ≤ line := by rw [r1.len, r2.len]; exact hz
    refine ⟨p1, p2, xs, ys, e1, e2, x.sh _ _ n1.1, x.sh _ _ n2.1, hz', fun p hp => ?_⟩
    obtain ⟨y, g2⟩ := new_list (K := K) (l := l ++ m) x.sh hp (xs := xs ++ ys) (by rw [List.length_append]; exact hz') fun H => by
      have := r1.append r2
      exact this.imp fun v a F' hf q => TA.mono q (Sub.refl S1) fun p hp => by have := hf p hp; cases this
    exact q _ _ _ _ (x.trans y (fun p hp => nomatch hp)) g2
theorem o_cat [SA : Scal α] : Op2 K rCat (catL (α := α)) 1 := fun H x y a b c Q ra rb e q => by
  obtain ⟨p1, rfl, h1, z1⟩ := rep_list ra
  obtain ⟨p2, rfl, h2, z2⟩ := rep_list rb
  obtain ⟨hz, e⟩ := catL_some e
  subst e
  refine ⟨p1, p2, _, _, rfl, rfl, h1, h2, by rw [List.length_map, List.length_map]; exact hz, fun p hp => ?_⟩
  rw [← List.map_append]
  exact q _ _ (New.list hp (by rw [List.length_append]; exact hz))
/-- [x] * n -/
@[irreducible] def repL {α : Type} (l : List α) (n : Int) : Option (List α) := if -(2 ^ 63) ≤ n ∧ n < 2 ^ 63 ∧ l.length * n.toNat ≤ 2 ^ 24 then some (List.replicate n.toNat l).flatten else none

/-! ### built-in functions -/
theorem pv_b1 {id : String} {x : Str} {t : List V → Hp → VK → Prop} {op : α → Option γ} {k : Nat} {f : ρ → M α} (hc : CallR X (.builtin id) t) (hp : Op1 K (rOne t) op k) (hg : Gl X x) (hm : X.mg x = none) (hv : bootBuiltins x = some (.builtin id)) (ha : PE X a (tP K W sl ms f kd)) (hka : kd ≠ .un := by decide)
    (hn : x ≠ "__name__" := by decide) (hdb : (x == ("__debug__" : Str)) = false := by decide) (he : starEach [a] X.env = (false, eval a X.env) :: starEach [] X.env := by rfl) (hpl : (backTo pos (starEach [] X.env)).any (·.1) = false := by rfl) : PE X (.Call (.Name x p) [a] [] pos) (tP K W sl ms (e1 op f) (lv k)) :=
  pv_e1 hp (PE.conv (pe_callB hc hg hm hv (pa_cons ha pa_nil he) hn hdb he hpl) fun _ _ _ h => h) hka
theorem pv_t1 {T : String} {x : Str} {t : List V → Hp → VK → Prop} {op : α → Option γ} {k : Nat} {f : ρ → M α} (hc : CallR X (.type T) t) (hp : Op1 K (rOne t) op k) (hg : Gl X x) (hm : X.mg x = none) (hv : bootBuiltins x = some (.type T)) (ha : PE X a (tP K W sl ms f kd)) (hka : kd ≠ .un := by decide)
    (hn : x ≠ "__name__" := by decide) (hdb : (x == ("__debug__" : Str)) = false := by decide) (he : starEach [a] X.env = (false, eval a X.env) :: starEach [] X.env := by rfl) (hpl : (backTo pos (starEach [] X.env)).any (·.1) = false := by rfl) : PE X (.Call (.Name x p) [a] [] pos) (tP K W sl ms (e1 op f) (lv k)) :=
  pv_e1 hp (PE.conv (pe_callTy hc hg hm hv (pa_cons ha pa_nil he) hn hdb he hpl) fun _ _ _ h => h) hka
theorem pv_b2 {id : String} {x : Str} {t : List V → Hp → VK → Prop} {op : α → β → Option γ} {k : Nat} {f : ρ → M α} {g : ρ → M β} {kb : Mode} (hc : CallR X (.builtin id) t) (hp : Op2 K (rTwo t) op k) (hg : Gl X x) (hm : X.mg x = none) (hv : bootBuiltins x = some (.builtin id)) (ha : PE X a (tP K W sl ms f kd)) (hb : PE X b (tP K W sl ms g kb)) (hka : kd ≠ .un := by decide) (hkb : kb ≠ .un := by decide)
    (hn : x ≠ "__name__" := by decide) (hdb : (x == ("__debug__" : Str)) = false := by decide) (he : starEach [a, b] X.env = (false, eval a X.env) :: starEach [b] X.env := by rfl) (he2 : starEach [b] X.env = (false, eval b X.env) :: starEach [] X.env := by rfl) (hpl : (backTo pos (starEach [b] X.env)).any (·.1) = false := by rfl) :
    PE X (.Call (.Name x p) [a, b] [] pos) (tP K W sl ms (e2 op f g) (lv k)) :=
  pv_e2 hp ha hb (PE.conv (pe_callB hc hg hm hv (pa_cons ha (pa_cons hb pa_nil he2) he) hn hdb he hpl) fun _ _ _ h => h) hka hkb
/-- list(xs) -/
theorem pv_list {f : ρ → M (List α)} (hg : Gl X "list") (hm : X.mg "list" = none) (ha : PE X a (tP X.K W sl ms f (lv 0))) (he : starEach [a] X.env = (false, eval a X.env) :: starEach [] X.env := by rfl) (hpl : (backTo pos (starEach [] X.env)).any (·.1) = false := by rfl) : PE X (.Call (.Name "list" p) [a] [] pos) (tP X.K W sl ms (e1 (fun l => some l) f) (lv 1)) :=
  pv_fun (φV := fun l => l) (φ := fun l => l) nat_id (PE.conv (pe_callTy call_list_of hg hm boot_list (pa_cons ha pa_nil he) (by decide) (by decide) he hpl) fun σ H Q h => by
    obtain ⟨r, S, hs, hv, q⟩ := h
    exact ⟨r, S, hs, hv, ends_mono q (fun l el q v S1 H1 F x g => let ⟨a, xs, e, n, k⟩ := q v S1 H1 F x g; ⟨a, xs, by rw [e], .inl (.inl (.inl n)), k⟩) fun c q => q⟩)
theorem pv_listS [SA : Scal α] {f : ρ → M (List α)} (hg : Gl X "list") (hm : X.mg "list" = none) (ha : PE X a (tP X.K W sl ms f kd)) (hk : kd ≠ .un := by decide) (he : starEach [a] X.env = (false, eval a X.env) :: starEach [] X.env := by rfl) (hpl : (backTo pos (starEach [] X.env)).any (·.1) = false := by rfl) : PE X (.Call (.Name "list" p) [a] [] pos) (tP X.K W sl ms (e1 (fun l => some l) f) (lv 1)) :=
  pv_funS (φV := fun l => l) (φ := fun l => l) nat_id (PE.conv (pe_callTy call_list_of hg hm boot_list (pa_cons ha pa_nil he) (by decide) (by decide) he hpl) fun σ H Q h => by
    obtain ⟨r, S, hs, hv, q⟩ := h
    exact ⟨r, S, hs, hv, ends_mono q (fun l el q v S1 H1 F x g => let ⟨a, xs, e, n, k⟩ := q v S1 H1 F x g; ⟨a, xs, by rw [e], .inl (.inl (.inl n)), k⟩) fun c q => q⟩) hk
/-- xs[::-1] -/
theorem pv_back {k : Nat} {p1 p2 p3 : Pos} {f : ρ → M (List α)} (ha : PE X a (tP X.K W sl ms f (lv 0))) : PE X (.Subscript a (.Slice none none (some (.UnaryOp .USub (.Constant (.int 1) k p1) p2)) p3) pos) (tP X.K W sl ms (e1 (fun l => some l.reverse) f) (lv 1)) :=
  pv_fun nat_rev (PE.conv (pe_revL ha) fun σ H Q ⟨r, S, hs, hv, q⟩ => ⟨r, S, hs, hv, ends_mono q (fun l el q v S1 H1 F x g => let ⟨a, xs, e, n, k⟩ := q v S1 H1 F x g; ⟨a, xs, e, .inl (.inl n), k⟩) fun c q => q⟩)
theorem pv_backS [SA : Scal α] {k : Nat} {p1 p2 p3 : Pos} {f : ρ → M (List α)} (ha : PE X a (tP X.K W sl ms f kd)) (hk : kd ≠ .un := by decide) : PE X (.Subscript a (.Slice none none (some (.UnaryOp .USub (.Constant (.int 1) k p1) p2)) p3) pos) (tP X.K W sl ms (e1 (fun l => some l.reverse) f) (lv 1)) :=
  pv_funS nat_rev (PE.conv (pe_revL ha) fun σ H Q ⟨r, S, hs, hv, q⟩ => ⟨r, S, hs, hv, ends_mono q (fun l el q v S1 H1 F x g => let ⟨a, xs, e, n, k⟩ := q v S1 H1 F x g; ⟨a, xs, e, .inl (.inl n), k⟩) fun c q => q⟩) hk
end

section
variable {K : PySem.W.Frag}
def sumL (l : List Int) : Option Int := some l.sum
theorem o_sum : Op1 K (rOne (rSum K)) sumL 0 := fun H x a c Q ra e q => by
  cases e
  obtain ⟨p, rfl, h, z⟩ := rep_list ra
  exact ⟨p, a, rfl, .inl (.inl h), q _ H (New.scal (α := Int))⟩
def maxL : List Int → Option Int
  | [] => none
  | x :: l => some (l.foldl max x)
def minL : List Int → Option Int
  | [] => none
  | x :: l => some (l.foldl min x)
theorem foldl_max : ∀ (l : List Int) (x : Int), l.foldl max x ∈ x :: l ∧ ∀ y ∈ x :: l, y ≤ l.foldl max x
  | [], x => ⟨List.mem_cons_self, fun y hy => by rw [List.mem_singleton.mp hy]; exact Int.le_refl _⟩
  | a :: l, x => by
    have h := foldl_max l (max x a)
    show l.foldl max (max x a) ∈ _ ∧ ∀ y ∈ _, y ≤ l.foldl max (max x a)
    refine ⟨?_, fun y hy => ?_⟩
    · rcases List.mem_cons.mp h.1 with e | e
      · rw [e]
        rcases Int.le_total x a with z | z
        · rw [Int.max_eq_right z]; simp
        · rw [Int.max_eq_left z]; simp
      · exact List.mem_cons_of_mem _ (List.mem_cons_of_mem _ e)
    · have hm := h.2 (max x a) List.mem_cons_self
      rcases List.mem_cons.mp hy with e | hy
      · subst e; omega
      · rcases List.mem_cons.mp hy with e | hy
        · subst e; omega
        · exact h.2 y (List.mem_cons_of_mem _ hy)
theorem foldl_min : ∀ (l : List Int) (x : Int), l.foldl min x ∈ x :: l ∧ ∀ y ∈ x :: l, l.foldl min x ≤ y
  | [], x => ⟨List.mem_cons_self, fun y hy => by rw [List.mem_singleton.mp hy]; exact Int.le_refl _⟩
  | a :: l, x => by
    have h := foldl_min l (min x a)
    show l.foldl min (min x a) ∈ _ ∧ ∀ y ∈ _, l.foldl min (min x a) ≤ y
    refine ⟨?_, fun y hy => ?_⟩
    · rcases List.mem_cons.mp h.1 with e | e
      · rw [e]
        rcases Int.le_total x a with z | z
        · rw [Int.min_eq_left z]; simp
        · rw [Int.min_eq_right z]; simp
      · exact List.mem_cons_of_mem _ (List.mem_cons_of_mem _ e)
    · have hm := h.2 (min x a) List.mem_cons_self
      rcases List.mem_cons.mp hy with e | hy
      · subst e; omega
      · rcases List.mem_cons.mp hy with e | hy
        · subst e; omega
        · exact h.2 y (List.mem_cons_of_mem _ hy)
theorem maxL_spec {l : List Int} {c : Int} (h : maxL l = some c) : c ∈ l ∧ ∀ y ∈ l, y ≤ c := by
  cases l with
  | nil => cases h
  | cons x l => cases h; exact foldl_max l x
theorem minL_spec {l : List Int} {c : Int} (h : minL l = some c) : c ∈ l ∧ ∀ y ∈ l, c ≤ y := by
  cases l with
  | nil => cases h
  | cons x l => cases h; exact foldl_min l x
theorem o_max : Op1 K (rOne (rMax K)) maxL 0 := fun H x a c Q ra e q => by
  obtain ⟨p, rfl, h, z⟩ := rep_list ra
  obtain ⟨h1, h2⟩ := maxL_spec e
  refine ⟨p, a, rfl, .inl (.inl h), List.length_pos_of_mem h1, fun m hm hy => ?_⟩
  rw [show m = c from Int.le_antisymm (h2 m hm) (hy c h1)]
  exact q _ H (New.scal (α := Int))
theorem o_min : Op1 K (rOne (rMin K)) minL 0 := fun H x a c Q ra e q => by
  obtain ⟨p, rfl, h, z⟩ := rep_list ra
  obtain ⟨h1, h2⟩ := minL_spec e
  refine ⟨p, a, rfl, .inl (.inl h), List.length_pos_of_mem h1, fun m hm hy => ?_⟩
  rw [show m = c from Int.le_antisymm (hy c h1) (h2 m hm)]
  exact q _ H (New.scal (α := Int))
def rAbs : List V → Hp → VK → Prop := fun xs H Q => ∃ i, xs = [.int i] ∧ Q (.int (if i < 0 then -i else i)) H
def absI (x : Int) : Option Int := some (if x < 0 then -x else x)
theorem o_abs : Op1 K (rOne rAbs) absI 0 := Op1.scal (α := Int) (γ := Int) fun H a c Q e q => by cases e; exact ⟨a, rfl, q⟩
def rMax2 : List V → Hp → VK → Prop := fun xs H Q => ∃ i j, xs = [.int i, .int j] ∧ Q (.int (if j > i then j else i)) H
def rMin2 : List V → Hp → VK → Prop := fun xs H Q => ∃ i j, xs = [.int i, .int j] ∧ Q (.int (if j < i then j else i)) H
def max2 (x y : Int) : Option Int := some (max x y)
def min2 (x y : Int) : Option Int := some (min x y)
theorem o_max2 : Op2 K (rTwo rMax2) max2 0 := Op2.scal (α := Int) (β := Int) (γ := Int) fun H a b c Q e q => by
  cases e
  refine ⟨a, b, rfl, ?_⟩
  rw [show (if b > a then b else a) = max a b by split <;> omega]
  exact q
theorem o_min2 : Op2 K (rTwo rMin2) min2 0 := Op2.scal (α := Int) (β := Int) (γ := Int) fun H a b c Q e q => by
  cases e
  refine ⟨a, b, rfl, ?_⟩
  rw [show (if b < a then b else a) = min a b by split <;> omega]
  exact q
/-- sorted of whole numbers -/
def sortI (l : List Int) : Option (List Int) := some (l.mergeSort fun a b => decide (a ≤ b))
theorem sortI_spec (l : List Int) : (l.mergeSort fun a b => decide (a ≤ b)).Perm l ∧ (l.mergeSort fun a b => decide (a ≤ b)).Pairwise (· ≤ ·) := by
  refine ⟨List.mergeSort_perm l _, ?_⟩
  have := List.pairwise_mergeSort (le := fun a b : Int => decide (a ≤ b)) (fun a b c h1 h2 => by simp at *; omega) (fun a b => by simp; omega) l
  exact this.imp fun h => of_decide_eq_true h
theorem o_sort : Op1 K (rOne (rSortedI K)) sortI 1 := fun H x a c Q ra e q => by
  cases e
  obtain ⟨p, rfl, h, z⟩ := rep_list ra
  refine ⟨p, a, rfl, .inl (.inl h), fun ns p hp hs hn => ?_⟩
  obtain ⟨h1, h2⟩ := sortI_spec a
  rw [PySem.W.ksm_same (hp.trans h1.symm) hs h2]
  exact q _ _ (New.list hn (by rw [h1.length_eq]; exact z))
def rIntB : List V → Hp → VK → Prop := fun xs H Q => (∃ i, xs = [.int i] ∧ Q (.int i) H) ∨ ∃ k, xs = [.bl k] ∧ Q (.int (if k then 1 else 0)) H
def intB (b : Bool) : Option Int := some (if b then 1 else 0)
theorem o_intB : Op1 K (rOne rIntB) intB 0 := Op1.scal (α := Bool) (γ := Int) fun H a c Q e q => by cases e; exact .inr ⟨a, rfl, q⟩
def rRepI : R2 := rRep
theorem o_rep {α : Type} [PyTy α] [Scal α] : Op2 K rRep (repL (α := α)) 1 := fun H x y a b c Q ra rb e q => by
  obtain ⟨p1, rfl, h1, z1⟩ := rep_list ra
  have e2 := rep_scal rb
  unfold repL at e
  split at e
  · rename_i hh
    cases e
    refine ⟨p1, b, _, rfl, e2, h1, hh.1, hh.2.1, by rw [List.length_map]; exact hh.2.2, fun p hp => ?_⟩
    have e3 : (List.replicate b.toNat (a.map Scal.val)).flatten = (List.replicate b.toNat a).flatten.map Scal.val := by
      rw [List.map_flatten, List.map_replicate]
    rw [e3]
    exact q _ _ (New.list hp (by rw [List.length_flatten, List.map_replicate, List.sum_replicate_nat]; rw [Nat.mul_comm]; exact hh.2.2))
  · cases e
end
end VL
namespace VL
open PySem PySem.Spec PyProof.Rows L2

/-! ### arguments, promises, calls -/
class ArgTy (A : Type) where
  al : A → List Slot
instance : ArgTy Unit := ⟨fun _ => []⟩
instance {α B : Type} [PyTy α] [T : ArgTy B] : ArgTy (α × B) := ⟨fun t => ⟨t.1⟩ :: T.al t.2⟩
def tPA (K : PySem.W.Frag) (W : Hp → String → Prop) {ρ : Type} (sl : ρ → List Slot) (ms : List Mode) {A : Type} [T : ArgTy A] (f : ρ → M A) (kd : Mode) : L2.TA := fun σ H Q =>
  ∃ (r : ρ) (S : Hp), Sub S H ∧ View K S H ms (sl r) σ ∧ ends (f r) (fun a => ∀ vs S' H', Ext S H S' H' [] → Parts K kd S' H' (T.al a) vs → Q vs H') (fun c => ∀ H', Sub H H' → W H' c)
/-- a def that changes nothing: called with a, it answers m a, rk layers new -/
def spP (K : PySem.W.Frag) {A R : Type} [T : ArgTy A] [PyTy R] (rk : Nat) (m : A → M R) : Sp := fun vs H Q E =>
  ∃ (a : A) (S : Hp), Sub S H ∧ Parts K (lv 0) S H (T.al a) vs ∧ ends (m a) (fun c => ∀ v S' H' F, Ext S H S' H' F → got K (lv rk) c S' H' v F → Q v H') (fun _ => False)
def aNil {ρ : Type} : ρ → M Unit := fun _ => .ok ()
def aCons {ρ α B : Type} (f : ρ → M α) (g : ρ → M B) : ρ → M (α × B) := fun r => f r >>= fun a => g r >>= fun b => .ok (a, b)
def eCall {ρ A R : Type} (m : A → M R) (f : ρ → M A) : ρ → M R := fun r => f r >>= fun a => mute (m a)
/-- a thing whose k layers are all it has -/
class Closed (α : Type) [T : PyTy α] (k : Nat) : Prop where
  closed : ∀ {K S S' H v a F}, T.rep K k S H v a F → T.rep K k S' H v a F
instance {α : Type} [T : PyTy α] [C : Scal α] {k : Nat} : Closed α k := ⟨fun h => C.scal.mpr (C.scal.mp h)⟩
instance {α : Type} [T : PyTy α] {k : Nat} [C : Closed α k] : Closed (List α) (k + 1) := ⟨fun ⟨p, xs, F', e, n, z, r⟩ => ⟨p, xs, F', e, n, z, r.imp fun v a F' hf q => C.closed q⟩⟩
instance {α β : Type} [PyTy α] [PyTy β] {k : Nat} [CA : Closed α k] [CB : Closed β k] : Closed (α × β) (k + 1) := ⟨fun ⟨p, x, y, F1, F2, e, n, r1, r2⟩ => ⟨p, x, y, F1, F2, e, n, CA.closed r1, CB.closed r2⟩⟩
section
variable {X : Cx} {K : PySem.W.Frag} {W : Hp → String → Prop} {ρ : Type} {sl : ρ → List Slot} {ms : List Mode} {e : Expr} {es : List Expr} {pos p : Pos} {kd : Mode}
variable {α B A R : Type} [TA : PyTy α] [AB : ArgTy B] [AA : ArgTy A] [TR : PyTy R]
theorem pa_n : PA X [] (tPA K W sl ms (aNil (ρ := ρ)) kd) := PA.conv pa_nil fun σ H Q ⟨r, S, hs, hv, he⟩ => he [] S H (Ext.refl hs) trivial
theorem pa_c {f : ρ → M α} {g : ρ → M B} (ha : PE X e (tP K W sl ms f kd)) (hr : PA X es (tPA K W sl ms g kd)) (hk : kd = lv 0 ∨ kd = .vw := by first | exact Or.inl rfl | exact Or.inr rfl) (hs : starEach (e :: es) X.env = (false, eval e X.env) :: starEach es X.env := by rfl) : PA X (e :: es) (tPA K W sl ms (aCons f g) kd) :=
  PA.conv (pa_cons ha hr hs) fun σ H Q ⟨r, S, hs, hv, he⟩ => ⟨r, S, hs, hv, ends_mono (ends_bind he) (fun a ea q v S1 H1 F1 x1 g1 => by
    have x := x1.share g1.here
    have gv : viewA K kd ⟨a⟩ (some v) (add S1 H1 F1) H1 := by
      rcases hk with e | e
      · subst e
        exact ⟨v, rfl, TA.freeze g1 (add_sub fun p hp => (x1.fr p hp).2) (fun p hp => add_in hp) _⟩
      · subst e
        exact ⟨v, rfl, g1.2⟩
    exact ⟨r, _, x.sh, hv.mono x.ss x.hh, ends_mono (ends_bind q) (fun b eb q vs S2 H2 x2 ps => q (v :: vs) S2 H2 (x.trans x2 fun p hp => nomatch hp) ⟨gv.mono x2.ss x2.hh, ps⟩) fun c q H2 h2 => q H2 (x1.hh.trans h2)⟩) fun c q => q⟩
theorem ends_muted {α : Type} {m : M α} {P : α → Prop} {E : String → Prop} (h : ends (mute m) P E) : ends m P (fun _ => False) := ends_mute h
/-- the arguments shared: what comes may be made of them -/
theorem pv_call {k rk : Nat} {f : Addr} {fd : FuncData} {ps : List Str} {x : Str} {m : A → M R} {g : ρ → M A} (F : FnOk X.prog X.w X.K X.mg X.base CX0 k f fd ps (spP X.K rk m)) (hr : Room k X.A) (hg : Gl X x) (hm : X.mg x = some (.ref f)) (hk : PySem.W.keepIn X.K (.ref f) = true) (hb : Binds X.K fd ps [])
    (ha : PA X (e :: es) (tPA X.K W sl ms g (lv 0))) (hdb : (x == ("__debug__" : Str)) = false := by decide) (he : starEach (e :: es) X.env = (false, eval e X.env) :: starEach es X.env := by rfl) (hpl : (backTo pos (starEach es X.env)).any (·.1) = false := by rfl) :
    PE X (.Call (.Name x p) (e :: es) [] pos) (tP X.K W sl ms (eCall m g) (lv rk)) :=
  PE.conv (pe_call F hr hg hm hk hb .nil pass0 ha hdb he hpl) fun σ H Q ⟨r, S, hs, hv, q⟩ => ⟨r, S, hs, hv, ends_mono (ends_bind q) (fun a ea q vs S1 H1 x1 pt => by
    show spP X.K rk m (vs ++ []) H1 Q E0
    rw [List.append_nil]
    exact ⟨a, S1, x1.sh, pt, ends_mono (ends_muted q) (fun c ec q v S2 H2 F2 x2 g2 => q v S2 H2 F2 (by have := x1.trans x2 (fun p hp => nomatch hp); rw [List.append_nil] at this; exact this) g2) fun c q => q⟩) fun c q => q⟩
/-- the arguments looked at: what comes has nothing of them -/
theorem pv_callC {k rk : Nat} [CR : Closed R rk] {f : Addr} {fd : FuncData} {ps : List Str} {x : Str} {m : A → M R} {g : ρ → M A} (F : FnOk X.prog X.w X.K X.mg X.base CX0 k f fd ps (spP X.K rk m)) (hr : Room k X.A) (hg : Gl X x) (hm : X.mg x = some (.ref f)) (hk : PySem.W.keepIn X.K (.ref f) = true) (hb : Binds X.K fd ps [])
    (ha : PA X (e :: es) (tPA X.K W sl ms g .vw)) (hdb : (x == ("__debug__" : Str)) = false := by decide) (he : starEach (e :: es) X.env = (false, eval e X.env) :: starEach es X.env := by rfl) (hpl : (backTo pos (starEach es X.env)).any (·.1) = false := by rfl) :
    PE X (.Call (.Name x p) (e :: es) [] pos) (tP X.K W sl ms (eCall m g) (lv rk)) :=
  PE.conv (pe_call F hr hg hm hk hb .nil pass0 ha hdb he hpl) fun σ H Q ⟨r, S, hs, hv, q⟩ => ⟨r, S, hs, hv, ends_mono (ends_bind q) (fun a ea q vs S1 H1 x1 pt => by
    show spP X.K rk m (vs ++ []) H1 Q E0
    rw [List.append_nil]
    have look : ∀ {ss : List Slot} {vs : List V}, Parts X.K .vw S1 H1 ss vs → Parts X.K (lv 0) H1 H1 ss vs := by
      intro ss
      induction ss with
      | nil => intro vs h; cases vs with
        | nil => exact h
        | cons _ _ => exact h.elim
      | cons s ss ih => intro vs h; cases vs with
        | nil => exact h.elim
        | cons v vs => exact ⟨h.1, ih h.2⟩
    refine ⟨a, H1, Sub.refl H1, look pt, ends_mono (ends_muted q) (fun c ec q v S2 H2 F2 x2 g2 => ?_) fun c q => q⟩
    have gn : got X.K (lv rk) c S1 H2 v F2 := CR.closed g2
    have y : Ext S1 H1 S1 H2 F2 := ⟨x2.hh, Sub.refl S1, x1.sh.trans x2.hh, fun p q => .inl q, fun p hp => ⟨(x2.fr p hp).1, x1.sh.back (x2.fr p hp).1⟩, x2.nd⟩
    exact q v S1 H2 F2 (by have := x1.trans y (fun p hp => nomatch hp); rw [List.append_nil] at this; exact this) gn) fun c q => q⟩
end
end VL
namespace VL
open PySem PySem.Spec PyProof.Rows L2

/-! ### the slots as assertions -/
theorem Env_len {K : PySem.W.Frag} {A : Nat → Option V} {S H : Hp} : ∀ {ms : List Mode} {ss : List Slot} {vs : List (Option V)} {F : List Addr}, Star (Env K A ms ss vs) S H F → ms.length = vs.length ∧ ss.length = vs.length
  | [], [], [], _, _ => ⟨rfl, rfl⟩
  | [], [], _ :: _, _, ⟨_, _, _, h, _⟩ => h.elim
  | [], _ :: _, [], _, ⟨_, _, _, h, _⟩ => h.elim
  | [], _ :: _, _ :: _, _, ⟨_, _, _, h, _⟩ => h.elim
  | _ :: _, [], [], _, ⟨_, _, _, h, _⟩ => h.elim
  | _ :: _, [], _ :: _, _, ⟨_, _, _, h, _⟩ => h.elim
  | _ :: _, _ :: _, [], _, ⟨_, _, _, h, _⟩ => h.elim
  | _ :: _, _ :: _, _ :: _, _, ⟨_, _, _, _, h⟩ => by
    have := Env_len h
    simp only [List.length_cons]
    omega
theorem Env_at {K : PySem.W.Frag} {A : Nat → Option V} : ∀ {ms : List Mode} {ss : List Slot} {vs : List (Option V)} {i : Nat} {m : Mode} {s : Slot} {v : Option V}, ms[i]? = some m → ss[i]? = some s → vs[i]? = some v →
    ∃ l1 l2, Env K A ms ss vs = l1 ++ slotA K A m s v :: l2 ∧ ∀ m' s' v', Env K A (ms.set i m') (ss.set i s') (vs.set i v') = l1 ++ slotA K A m' s' v' :: l2
  | [], _, _, _, _, _, _, h, _, _ => by simp at h
  | _ :: _, [], _, _, _, _, _, _, h, _ => by simp at h
  | _ :: _, _ :: _, [], _, _, _, _, _, _, h => by simp at h
  | m :: ms, s :: ss, v :: vs, 0, _, _, _, h1, h2, h3 => by
    cases h1
    cases h2
    cases h3
    exact ⟨[], Env K A ms ss vs, rfl, fun _ _ _ => rfl⟩
  | m :: ms, s :: ss, v :: vs, i + 1, _, _, _, h1, h2, h3 => by
    obtain ⟨l1, l2, e, k⟩ := Env_at (K := K) (A := A) (ms := ms) (ss := ss) (vs := vs) (i := i) h1 h2 h3
    exact ⟨slotA K A m s v :: l1, l2, by show slotA K A m s v :: Env K A ms ss vs = _; rw [e]; rfl, fun m' s' v' => by
      show slotA K A m s v :: Env K A (ms.set i m') (ss.set i s') (vs.set i v') = _
      rw [k]
      rfl⟩
section
variable {C : Ct} {L T : List Assn} {H : Hp} {ms : List Mode} {ss : List Slot} {vs : List (Option V)} {i : Nat} {m : Mode} {s : Slot}
theorem Hd.lens (h : Hd C (T ++ Env C.K C.A ms ss vs) H) : ms.length = vs.length ∧ ss.length = vs.length := by
  obtain ⟨S, F, st, _⟩ := h
  obtain ⟨_, _, _, _, h2⟩ := st.split
  exact Env_len h2
/-- a slot is opened: nothing of it is held by the slots then -/
theorem Hd.open (h : Hd C (T ++ Env C.K C.A ms ss vs) H) (e1 : ms[i]? = some m) (e2 : ss[i]? = some s) : ∃ v, vs[i]? = some v ∧ Hd C (slotA C.K C.A m s v :: (T ++ Env C.K C.A (ms.set i .un) ss vs)) H := by
  obtain ⟨l1, l2⟩ := h.lens
  obtain ⟨hi, _⟩ := List.getElem?_eq_some_iff.mp e1
  have hv : i < vs.length := by omega
  have e3 : vs[i]? = some vs[i] := List.getElem?_eq_getElem hv
  obtain ⟨a, b, e, k⟩ := Env_at (K := C.K) (A := C.A) e1 e2 e3
  have k2 := k .un s vs[i]
  rw [show ss.set i s = ss from by
    obtain ⟨hs, z⟩ := List.getElem?_eq_some_iff.mp e2
    rw [← z]
    exact List.set_getElem_self hs, List.set_getElem_self hv] at k2
  refine ⟨vs[i], e3, ?_⟩
  rw [e] at h
  rw [k2]
  obtain ⟨S, F, st, o⟩ := h.perm (l' := slotA C.K C.A m s vs[i] :: (T ++ (a ++ b))) (by
    rw [← List.append_assoc, ← List.append_assoc]
    exact List.perm_middle)
  refine Hd.perm (l := slotA C.K C.A m s vs[i] :: anyA :: (T ++ (a ++ b))) ⟨S, F, ?_, o⟩ (by
    refine .cons _ ?_
    show (anyA :: (T ++ (a ++ b))).Perm (T ++ (a ++ anyA :: b))
    rw [← List.append_assoc, ← List.append_assoc]
    exact List.perm_middle.symm)
  obtain ⟨F1, F2, e, h1, h2⟩ := st
  exact ⟨F1, F2, e, h1, [], F2, rfl, rfl, h2⟩
/-- a slot is filled: what it held before is dropped -/
theorem Hd.close {m0 : Mode} {s : Slot} {v : Option V} (h : Hd C (slotA C.K C.A m s v :: (T ++ Env C.K C.A ms ss vs)) H) (hi : i < vs.length) : Hd C (T ++ Env C.K C.A (ms.set i m) (ss.set i s) (vs.set i v)) H := by
  obtain ⟨l1, l2⟩ := (Hd.drop h).lens
  have e1 : ms[i]? = some ms[i] := List.getElem?_eq_getElem (by omega)
  have e2 : ss[i]? = some ss[i] := List.getElem?_eq_getElem (by omega)
  have e3 : vs[i]? = some vs[i] := List.getElem?_eq_getElem hi
  obtain ⟨a, b, e, k⟩ := Env_at (K := C.K) (A := C.A) e1 e2 e3
  rw [k]
  rw [e] at h
  have h2 := h.perm (l' := slotA C.K C.A ms[i] ss[i] vs[i] :: slotA C.K C.A m s v :: (T ++ (a ++ b))) (by
    rw [← List.append_assoc, ← List.append_assoc]
    refine (List.Perm.cons _ List.perm_middle).trans (.swap _ _ _))
  refine h2.drop.perm ?_
  rw [← List.append_assoc, ← List.append_assoc]
  exact List.perm_middle.symm
theorem Hd.close' {v : V} {k : Nat} {α : Type} [PyTy α] {a : α} (h : Hd C (itm C.K k a v :: (T ++ Env C.K C.A ms ss vs)) H) (hi : i < vs.length) : Hd C (T ++ Env C.K C.A (ms.set i (lv k)) (ss.set i ⟨a⟩) (vs.set i (some v))) H :=
  Hd.close (m0 := .un) (h.imp (b := slotA C.K C.A (lv k) ⟨a⟩ (some v)) fun S F q => ⟨v, rfl, trivial, q⟩) hi
end

theorem froz_at {α : Type} (T : PyTy α) {K : PySem.W.Frag} {S H : Hp} {v : V} {a : α} {F : List Addr} (h : T.rep K 0 S H v a F) (H' : Hp) : T.rep K 0 S H' v a [] := PyTy.froz h H'
theorem look_at {α : Type} (T : PyTy α) {K : PySem.W.Frag} {k : Nat} {S H : Hp} {v : V} {a : α} {F : List Addr} (h : T.rep K k S H v a F) (hs : Sub S H) : T.rep K 0 H H v a [] := look h hs
/-! ### looking at the slots -/
def downM : Mode → Mode
  | .own 0 _ => lv 0
  | .own (_ + 1) _ => .vw
  | .vw => .un
  | .un => .un
  | .id _ => .un
theorem Star.view {K : PySem.W.Frag} {A : Nat → Option V} {S H : Hp} (hs : Sub S H) : ∀ {ms : List Mode} {ss : List Slot} {vs : List (Option V)} {F : List Addr}, Star (Env K A ms ss vs) S H F → View K S H (ms.map downM) ss vs
  | [], [], [], _, _ => trivial
  | [], [], _ :: _, _, ⟨_, _, _, h, _⟩ => h.elim
  | [], _ :: _, [], _, ⟨_, _, _, h, _⟩ => h.elim
  | [], _ :: _, _ :: _, _, ⟨_, _, _, h, _⟩ => h.elim
  | _ :: _, [], [], _, ⟨_, _, _, h, _⟩ => h.elim
  | _ :: _, [], _ :: _, _, ⟨_, _, _, h, _⟩ => h.elim
  | _ :: _, _ :: _, [], _, ⟨_, _, _, h, _⟩ => h.elim
  | m :: ms, s :: ss, v :: vs, _, ⟨F1, F2, _, h1, h2⟩ => by
    refine ⟨?_, Star.view hs h2⟩
    cases m with
    | un => trivial
    | vw => trivial
    | id _ => trivial
    | own k io =>
      obtain ⟨x, e, _, r⟩ := h1
      cases k with
      | zero => exact ⟨x, e, froz_at s.inst r S⟩
      | succ k => exact ⟨x, e, look_at s.inst r hs⟩
/-- an error may leave: what was there stands -/
def Fr (C : Ct) (H : Hp) : Prop := ∀ p o, C.H0 p = some o → p ∉ C.P → H p = some o
theorem Hd.fr {C : Ct} {l : List Assn} {H H' : Hp} (h : Hd C l H) (e : Sub H H') : Fr C H' := by
  obtain ⟨S, F, _, o⟩ := h
  exact fun p q z w => e p q (o.fr p q z w)
theorem Hd.ext {C : Ct} {l : List Assn} {S H S' H' : Hp} {F F' : List Addr} {k : Nat} {α : Type} [T : PyTy α] {a : α} {v : V} (st : Star l S H F) (o : OkS C S F H) (x : Ext S H S' H' F') (g : T.rep C.K k S' H' v a F') : Hd C (itm C.K k a v :: l) H' :=
  ⟨S', F' ++ F, ⟨F', F, rfl, g, st.mono x.ss fun p hp => x.hh.at (st.here p hp)⟩, o.ext x st.here⟩
theorem Hd.ext0 {C : Ct} {l : List Assn} {S H S' H' : Hp} {F : List Addr} (st : Star l S H F) (o : OkS C S F H) (x : Ext S H S' H' []) : Hd C l H' :=
  ⟨S', F, st.mono x.ss fun p hp => x.hh.at (st.here p hp), by have := o.ext x st.here; exact this⟩

/-! ### expressions that may change what is held -/
def tE (C : Ct) {ρ : Type} (sl : ρ → List Slot) (ms ms' : List Mode) {α : Type} [PyTy α] (f : ρ → M (α × ρ)) (k : Nat) : TE := fun σ H Q =>
  ∃ (r : ρ) (T : List Assn), Hd C (T ++ Env C.K C.A ms (sl r) σ) H ∧ ends (f r) (fun ar => ∀ v H', Hd C (itm C.K k ar.1 v :: (T ++ Env C.K C.A ms' (sl ar.2) σ)) H' → Q v H') (fun c => ∀ H', Fr C H' → C.W H' c)
def tET (C : Ct) {ρ : Type} (sl : ρ → List Slot) (ms ms' : List Mode) (f : ρ → M (Bool × ρ)) : TT := fun σ H Q =>
  ∃ (r : ρ) (T : List Assn), Hd C (T ++ Env C.K C.A ms (sl r) σ) H ∧ ends (f r) (fun ar => ∀ H', Hd C (T ++ Env C.K C.A ms' (sl ar.2) σ) H' → Q ar.1 H') (fun c => ∀ H', Fr C H' → C.W H' c)
def lift {ρ α : Type} (f : ρ → M α) : ρ → M (α × ρ) := fun r => f r >>= fun a => .ok (a, r)
section
variable {X : Cx} {C : Ct} {ρ : Type} {sl : ρ → List Slot} {ms ms' : List Mode} {e : Expr} {α : Type} [TA : PyTy α]
theorem ev {f : ρ → M α} {k : Nat} (h : PE X e (tP C.K C.W sl (ms.map downM) f (lv k))) : PE X e (tE C sl ms ms (lift f) k) :=
  PE.conv h fun σ H Q ⟨r, T, hd, he⟩ => by
    obtain ⟨S, F, st, o⟩ := id hd
    obtain ⟨F1, F2, _, _, h2⟩ := st.split
    exact ⟨r, S, o.sh, h2.view o.sh, ends_mono (ends_bind he) (fun a ea q v S' H' F' x g => q v H' (Hd.ext st o x g)) fun c q H' s => q H' (hd.fr s)⟩
theorem et {f : ρ → M Bool} (h : PT X e (tPT C.K C.W sl (ms.map downM) f)) : PT X e (tET C sl ms ms (lift f)) :=
  PT.conv h fun σ H Q ⟨r, T, hd, he⟩ => by
    obtain ⟨S, F, st, o⟩ := id hd
    obtain ⟨F1, F2, _, _, h2⟩ := st.split
    exact ⟨r, S, o.sh, h2.view o.sh, ends_mono (ends_bind he) (fun a ea q S' H' x => q H' (Hd.ext0 st o x)) fun c q H' s => q H' (hd.fr s)⟩
/-- a name's own thing is handed on: the name holds nothing then -/
theorem ev_mv {g : ρ → α} (i : Nat) {k : Nat} (h : PE X e (tVar i)) (hm : ms[i]? = some (lv k)) (hg : ∀ r, (sl r)[i]? = some ⟨g r⟩) (hms : ms' = ms.set i .un := by rfl) : PE X e (tE C sl ms ms' (fun r => .ok (g r, r)) k) :=
  PE.conv h fun σ H Q ⟨r, T, hd, he⟩ => by
    subst hms
    obtain ⟨v, ev, h2⟩ := hd.open hm (hg r)
    obtain ⟨S, F, ⟨F1, F2, e1, ⟨x, ex, _, r1⟩, st⟩, o⟩ := h2
    subst ex
    exact ⟨x, ev, he x H ⟨S, F, ⟨F1, F2, e1, r1, st⟩, o⟩⟩
end

/-! ### statements -/
inductive Fl (ρ R : Type) where | nx (r : ρ) | rt (a : R) (r : ρ) | bk (r : ρ) | ct (r : ρ)
def tS (C : Ct) {ρ R : Type} [PyTy R] (sl : ρ → List Slot) (ms ms' lm rm : List Mode) (rk : Nat) (f : ρ → M (Fl ρ R)) : TS := fun D σ H =>
  ∃ (r : ρ) (T : List Assn), Hd C (T ++ Env C.K C.A ms (sl r) σ) H ∧ ends (f r) (fun
    | .nx r' => ∀ σ' H', Hd C (T ++ Env C.K C.A ms' (sl r') σ') H' → D.nx σ' H'
    | .rt a r' => ∀ v σ' H', Hd C (itm C.K rk a v :: Env C.K C.A rm (sl r') σ') H' → D.rt v H'
    | .bk r' => ∀ σ' H', Hd C (T ++ Env C.K C.A lm (sl r') σ') H' → D.bk σ' H'
    | .ct r' => ∀ σ' H', Hd C (T ++ Env C.K C.A lm (sl r') σ') H' → D.ct σ' H') (fun c => ∀ H', Fr C H' → C.W H' c)
def fNil {ρ R : Type} : ρ → M (Fl ρ R) := fun r => .ok (.nx r)
def fSeq {ρ R : Type} (f g : ρ → M (Fl ρ R)) : ρ → M (Fl ρ R) := fun r => f r >>= fun
  | .nx r' => g r'
  | .rt a r' => .ok (.rt a r')
  | .bk r' => .ok (.bk r')
  | .ct r' => .ok (.ct r')
def fSet {ρ R α : Type} (set : α → ρ → ρ) (f : ρ → M (α × ρ)) : ρ → M (Fl ρ R) := fun r => f r >>= fun ar => .ok (.nx (set ar.1 ar.2))
def fIf {ρ R : Type} (c : ρ → M (Bool × ρ)) (f g : ρ → M (Fl ρ R)) : ρ → M (Fl ρ R) := fun r => c r >>= fun br => if br.1 then f br.2 else g br.2
def fRet {ρ R : Type} (f : ρ → M (R × ρ)) : ρ → M (Fl ρ R) := fun r => f r >>= fun ar => .ok (.rt ar.1 ar.2)
def fDrop {ρ R α : Type} (f : ρ → M (α × ρ)) : ρ → M (Fl ρ R) := fun r => f r >>= fun ar => .ok (.nx ar.2)
/-- what may be forgotten: own things, a slot; own layers may become shared -/
def wkM : Mode → Mode → Bool
  | _, .un => true
  | .own k none, .own j none => k == j || j == 0
  | .own k (some i), .own j (some i') => k == j && i == i'
  | .id n, .id m => n == m
  | _, _ => false
def wk : List Mode → List Mode → Bool
  | [], [] => true
  | m :: ms, n :: ns => wkM m n && wk ms ns
  | _, _ => false
theorem Hd.weak1 {C : Ct} {m n : Mode} {s : Slot} {v : Option V} {l : List Assn} {H : Hp} (h : Hd C (slotA C.K C.A m s v :: l) H) (w : wkM m n = true) : Hd C (slotA C.K C.A n s v :: l) H := by
  cases n with
  | un =>
    obtain ⟨S, F, st, o⟩ := h.drop
    exact ⟨S, F, ⟨[], F, rfl, rfl, st⟩, o⟩
  | vw => cases m <;> simp [wkM] at w
  | id j =>
    cases m with
    | id k =>
      have e : k = j := by simpa [wkM] using w
      subst e
      exact h
    | un => simp [wkM] at w
    | vw => simp [wkM] at w
    | own k io => cases io <;> simp [wkM] at w
  | own j io =>
    cases m with
    | un => simp [wkM] at w
    | vw => simp [wkM] at w
    | id _ => cases io <;> simp [wkM] at w
    | own k io' =>
      cases io with
      | none =>
        cases io' with
        | some i => simp [wkM] at w
        | none =>
          by_cases e : k = j
          · subst e
            exact h
          · have e0 : j = 0 := by simpa [wkM, e] using w
            subst e0
            obtain ⟨S, F, ⟨F1, F2, e, ⟨x, ex, i, r⟩, st⟩, o⟩ := h
            subst ex
            have := Hd.share (C := C) (T := s.inst) (k := k) (a := s.a) (v := x) (l := l) (H := H) ⟨S, F, ⟨F1, F2, e, r, st⟩, o⟩
            exact this.imp fun S F q => ⟨x, rfl, trivial, q⟩
      | some i =>
        cases io' with
        | none => simp [wkM] at w
        | some i' =>
          simp [wkM] at w
          obtain ⟨e1, e2⟩ := w
          subst e1 e2
          exact h
theorem Hd.weak {C : Ct} {H : Hp} : ∀ {ms ns : List Mode} {ss : List Slot} {vs : List (Option V)} {T : List Assn}, Hd C (T ++ Env C.K C.A ms ss vs) H → wk ms ns = true → Hd C (T ++ Env C.K C.A ns ss vs) H
  | [], [], _, _, _, h, _ => h
  | [], _ :: _, _, _, _, _, w => nomatch w
  | _ :: _, [], _, _, _, _, w => nomatch w
  | m :: ms, n :: ns, [], [], _, h, _ => h
  | m :: ms, n :: ns, [], _ :: _, _, h, _ => h
  | m :: ms, n :: ns, _ :: _, [], _, h, _ => h
  | m :: ms, n :: ns, s :: ss, v :: vs, T, h, w => by
    have w' := Bool.and_eq_true_iff.mp w
    have h2 : Hd C (slotA C.K C.A m s v :: (T ++ Env C.K C.A ms ss vs)) H := h.perm List.perm_middle
    have h3 := (h2.weak1 w'.1)
    have h4 : Hd C ((slotA C.K C.A n s v :: T) ++ Env C.K C.A ns ss vs) H := Hd.weak (T := slotA C.K C.A n s v :: T) h3 w'.2
    exact h4.perm List.perm_middle.symm

section
variable {X : Cx} {C : Ct} {ρ R : Type} [TR : PyTy R] {sl : ρ → List Slot} {ms ms1 ms2 lm rm : List Mode} {rk : Nat} {e : Expr} {st : Stmt} {rest : List Stmt} {pos : Pos} {α : Type} [TA : PyTy α]
theorem ss_nil : PSs X [] (tS C (R := R) sl ms ms lm rm rk fNil) := PSs.conv pss_nil fun D σ H ⟨r, T, hd, he⟩ => he σ H hd
theorem ss_cons {f g : ρ → M (Fl ρ R)} (h1 : PS X st (tS C sl ms ms1 lm rm rk f)) (h2 : PSs X rest (tS C sl ms1 ms2 lm rm rk g)) : PSs X (st :: rest) (tS C sl ms ms2 lm rm rk (fSeq f g)) :=
  PSs.conv (pss_cons h1 h2) fun D σ H ⟨r, T, hd, he⟩ => ⟨r, T, hd, ends_mono (ends_bind he) (fun o eo q => by
    cases o with
    | nx r' => exact fun σ' H' h' => ⟨r', T, h', q⟩
    | rt a r' => exact q
    | bk r' => exact q
    | ct r' => exact q) fun c q => q⟩
theorem ss_one {f : ρ → M (Fl ρ R)} (h1 : PS X st (tS C sl ms ms1 lm rm rk f)) : PSs X [st] (tS C sl ms ms1 lm rm rk f) := pss_one h1
theorem s_weak {f : ρ → M (Fl ρ R)} (h1 : PS X st (tS C sl ms ms1 lm rm rk f)) (w : wk ms1 ms2 = true := by rfl) : PS X st (tS C sl ms ms2 lm rm rk f) :=
  PS.conv h1 fun D σ H ⟨r, T, hd, he⟩ => ⟨r, T, hd, ends_mono he (fun o eo q => by
    cases o with
    | nx r' => exact fun σ' H' h' => q σ' H' (h'.weak w)
    | rt a r' => exact q
    | bk r' => exact q
    | ct r' => exact q) fun c q => q⟩
theorem ss_weak {sts : List Stmt} {f : ρ → M (Fl ρ R)} (h1 : PSs X sts (tS C sl ms ms1 lm rm rk f)) (w : wk ms1 ms2 = true := by rfl) : PSs X sts (tS C sl ms ms2 lm rm rk f) :=
  PSs.conv h1 fun D σ H ⟨r, T, hd, he⟩ => ⟨r, T, hd, ends_mono he (fun o eo q => by
    cases o with
    | nx r' => exact fun σ' H' h' => q σ' H' (h'.weak w)
    | rt a r' => exact q
    | bk r' => exact q
    | ct r' => exact q) fun c q => q⟩
/-- .. ahead of a block: own things become shared, or are dropped -/
theorem ss_pre {sts : List Stmt} {f : ρ → M (Fl ρ R)} (h1 : PSs X sts (tS C sl ms1 ms2 lm rm rk f)) (w : wk ms ms1 = true := by rfl) : PSs X sts (tS C sl ms ms2 lm rm rk f) :=
  PSs.conv h1 fun D σ H ⟨r, T, hd, he⟩ => ⟨r, T, hd.weak w, he⟩
theorem set_read {i : Nat} {k : Nat} {f : ρ → M (α × ρ)} {set : α → ρ → ρ} (hset : ∀ a r, sl (set a r) = (sl r).set i ⟨a⟩) (hi : i < ms1.length) {D : Ends} {σ : L2.St} {H : Hp} (h : tS C (R := R) sl ms (ms1.set i (lv k)) lm rm rk (fSet set f) D σ H) : tAsg (tE C sl ms ms1 f k) (gName i) D σ H := by
  obtain ⟨r, T, hd, he⟩ := h
  exact ⟨r, T, hd, ends_mono (ends_bind he) (fun ar ear q v H' h' => q _ H' (by
    rw [hset]
    exact Hd.close' h' (by have := (Hd.drop h').lens; omega))) fun c q => q⟩
/-- name = e -/
theorem s_set {i : Nat} {x : Str} {k : Nat} {pos' : Pos} {f : ρ → M (α × ρ)} {set : α → ρ → ρ} (hN : X.N.Nodup) (hxi : X.N[i]? = some x) (hx : Loc X.env.scope x) (he : PE X e (tE C sl ms ms1 f k)) (hset : ∀ a r, sl (set a r) = (sl r).set i ⟨a⟩) (hi : i < ms1.length)
    (hs : swapsWith e (some (.Name x pos')) pos.line X.env = pure false := by rfl) (hf : X.fn x = true ∨ X.env.scope.names.lookup x = some .local := by first | exact .inl rfl | exact .inr rfl | assumption) (hms : ms2 = ms1.set i (lv k) := by rfl) : PS X (.Assign [.Name x pos'] e pos) (tS C (R := R) sl ms ms2 lm rm rk (fSet set f)) :=
  PS.conv (ps_set (i := i) hN hxi hx he hs hf) fun D σ H h => by subst hms; exact set_read hset hi h
theorem s_if {c : Expr} {a b : List Stmt} {t : ρ → M (Bool × ρ)} {f g : ρ → M (Fl ρ R)} (hc : PT X c (tET C sl ms ms1 t)) (ha : PSs X a (tS C sl ms1 ms2 lm rm rk f)) (hb : PSs X b (tS C sl ms1 ms2 lm rm rk g)) : PS X (.If c a b pos) (tS C sl ms ms2 lm rm rk (fIf t f g)) :=
  PS.conv (ps_if hc ha hb) fun D σ H ⟨r, T, hd, he⟩ => ⟨r, T, hd, ends_mono (ends_bind he) (fun br ebr q H' h' => by
    obtain ⟨d, r'⟩ := br
    cases d with
    | true =>
      rw [if_pos rfl]
      exact ⟨r', T, h', q⟩
    | false =>
      rw [if_neg Bool.false_ne_true]
      exact ⟨r', T, h', q⟩) fun c q => q⟩
theorem s_ret {f : ρ → M (R × ρ)} (he : PE X e (tE C sl ms ms1 f rk)) (w : wk ms1 rm = true := by rfl) : PS X (.Return (some e) pos) (tS C sl ms ms2 lm rm rk (fRet f)) :=
  PS.conv (ps_ret he) fun D σ H ⟨r, T, hd, he⟩ => ⟨r, T, hd, ends_mono (ends_bind he) (fun ar ear q v H' h' => q v σ H' (by
    have h1 := Hd.weak (T := itm C.K rk ar.1 v :: T) h' w
    have h2 : Hd C (T ++ (itm C.K rk ar.1 v :: Env C.K C.A rm (sl ar.2) σ)) H' := h1.perm List.perm_middle.symm
    exact h2.dropL)) fun c q => q⟩
theorem s_drop {f : ρ → M (α × ρ)} {k : Nat} (he : PE X e (tE C sl ms ms1 f k)) (hs : swapsWith e none pos.line X.env = pure false := by rfl) : PS X (.Expr e pos) (tS C (R := R) sl ms ms1 lm rm rk (fDrop f)) :=
  PS.conv (ps_expr he hs) fun D σ H ⟨r, T, hd, he⟩ => ⟨r, T, hd, ends_mono (ends_bind he) (fun ar ear q v H' h' => q σ H' h'.drop) fun c q => q⟩
def fBk {ρ R : Type} : ρ → M (Fl ρ R) := fun r => .ok (.bk r)
def fCt {ρ R : Type} : ρ → M (Fl ρ R) := fun r => .ok (.ct r)
theorem s_pass : PS X (.Pass pos) (tS C (R := R) sl ms ms lm rm rk fNil) := PS.conv ps_pass fun D σ H ⟨r, T, hd, he⟩ => he σ H hd
theorem s_break (w : wk ms lm = true := by rfl) : PS X (.Break pos) (tS C (R := R) sl ms ms1 lm rm rk fBk) := PS.conv ps_break fun D σ H ⟨r, T, hd, he⟩ => he σ H (hd.weak w)
theorem s_cont (w : wk ms lm = true := by rfl) : PS X (.Continue pos) (tS C (R := R) sl ms ms1 lm rm rk fCt) := PS.conv ps_continue fun D σ H ⟨r, T, hd, he⟩ => he σ H (hd.weak w)
end
end VL
namespace VL
open PySem PySem.Spec PyProof.Rows L2

/-! ### loops -/
def loop {ρ R β : Type} (set : β → ρ → ρ) (body : ρ → M (Fl ρ R)) : List β → ρ → M (Fl ρ R)
  | [], r => .ok (.nx r)
  | b :: l, r => body (set b r) >>= fun
    | .nx r' => loop set body l r'
    | .ct r' => loop set body l r'
    | .bk r' => .ok (.nx r')
    | .rt a r' => .ok (.rt a r')
def fFor {ρ R β : Type} (xs : ρ → M (List β)) (set : β → ρ → ρ) (body : ρ → M (Fl ρ R)) : ρ → M (Fl ρ R) := fun r => xs r >>= fun l => loop set body l r
def whileN {ρ R : Type} (c : ρ → M (Bool × ρ)) (body : ρ → M (Fl ρ R)) : Nat → ρ → M (Fl ρ R)
  | 0, _ => .error .stuck
  | n + 1, r => c r >>= fun br => if br.1 then body br.2 >>= fun
    | .nx r' => whileN c body n r'
    | .ct r' => whileN c body n r'
    | .bk r' => .ok (.nx r')
    | .rt a r' => .ok (.rt a r')
    else .ok (.nx br.2)
/-- a part of the heap stays shared -/
def keepA (S0 : Hp) : Assn := ⟨fun S _ F => F = [] ∧ Sub S0 S, fun h hs _ => ⟨h.1, h.2.trans hs⟩, fun h q hq => by rw [h.1] at hq; cases hq⟩
theorem Hd.keep {C : Ct} {l : List Assn} {S : Hp} {F : List Addr} {H : Hp} (st : Star l S H F) (o : OkS C S F H) : Hd C (keepA S :: l) H := ⟨S, F, ⟨[], F, rfl, ⟨rfl, Sub.refl S⟩, st⟩, o⟩
/-- what a turn finds: the item's parts in their slots, shared -/
theorem Hd.parts {C : Ct} {S0 H : Hp} {T : List Assn} : ∀ {is : List Nat} {ps : List Slot} {vs : List V} {ms : List Mode} {ss : List Slot} {σ : L2.St}, Hd C (keepA S0 :: T ++ Env C.K C.A ms ss σ) H → Parts C.K (lv 0) S0 H ps vs → is.length = ps.length → (∀ i ∈ is, i < σ.length) →
    Hd C (keepA S0 :: T ++ Env C.K C.A (setModes ms is (lv 0)) (setSlots ss is ps) (setAll σ is vs)) H
  | [], [], [], _, _, _, h, _, _, _ => h
  | [], [], _ :: _, _, _, _, _, p, _, _ => p.elim
  | _ :: _, [], _, _, _, _, _, _, e, _ => by simp at e
  | [], _ :: _, _, _, _, _, _, _, e, _ => by simp at e
  | _ :: _, _ :: _, [], _, _, _, _, p, _, _ => p.elim
  | i :: is, s :: ps, v :: vs, ms, ss, σ, h, ⟨p1, p2⟩, e, hi => by
    refine Hd.parts (is := is) (ps := ps) (vs := vs) (ms := ms.set i (lv 0)) (ss := ss.set i s) (σ := σ.set i (some v)) ?_ p2 (by simpa using e) (fun j hj => by rw [List.length_set]; exact hi j (List.mem_cons_of_mem _ hj))
    refine Hd.close (m0 := .un) (T := keepA S0 :: T) ?_ (hi i List.mem_cons_self)
    obtain ⟨S, F, st, o⟩ := h
    obtain ⟨x, ex, r⟩ := p1
    cases ex
    obtain ⟨F1, F2, e1, h1, h2⟩ := id st
    refine ⟨S, F, ⟨[], F, rfl, ⟨v, rfl, trivial, ?_⟩, st⟩, o⟩
    exact s.inst.mono r h1.2 fun p hp => nomatch hp

section
variable {X : Cx} {C : Ct} {ρ R : Type} [TR : PyTy R] {sl : ρ → List Slot} {ms ms1 ms2 lm lm' rm : List Mode} {rk : Nat} {e tg iter : Expr} {body : List Stmt} {pos : Pos} {α β : Type} [TA : PyTy α] [TB : PyTy β]
theorem s_for {g : TG} {β : Type} {xs : ρ → M (List β)} {is : List Nat} {parts : β → List Slot} {set : β → ρ → ρ} {f : ρ → M (Fl ρ R)} (hp : PassesOwn (model X.prog X.w) X.A X.env X.xe) (hc : X.calm = true) (hi : PI X tg iter (tW C.K C.W sl (lm.map downM) xs (lv 0) g is parts)) (hg : PG X tg g)
    (hb : PSs X body (tS C sl (setModes lm is (lv 0)) lm lm rm rk f)) (hset : ∀ b r, sl (set b r) = setSlots (sl r) is (parts b)) (hpl : ∀ b, is.length = (parts b).length) (hin : ∀ i ∈ is, i < lm.length) (hs : ∀ x, foldedSetIterable iter X.env x = pure x := by intro _; rfl) :
    PS X (.For tg iter body [] pos) (tS C sl lm lm lm' rm rk (fFor xs set f)) :=
  PS.conv (ps_for hp hc hi hg hb hs) fun D σ H ⟨r, T, hd, he⟩ => by
    obtain ⟨S, F, st, o⟩ := id hd
    obtain ⟨F1, F2, _, _, h2⟩ := st.split
    refine ⟨r, S, o.sh, h2.view o.sh, ends_mono (ends_bind he) (fun l el q J S1 H1 x1 hl G => ?_) fun c q H' s => q H' (hd.fr s)⟩
    have kd : Hd C (keepA S1 :: T ++ Env C.K C.A lm (sl r) σ) H1 := Hd.keep (st.mono x1.ss fun p hp => x1.hh.at (st.here p hp)) (o.ext x1 st.here)
    refine ⟨fun i m σ' H2 => m = l.length - i ∧ i ≤ l.length ∧ ∃ r', Hd C (keepA S1 :: T ++ Env C.K C.A lm (sl r') σ') H2 ∧ ends (loop set f (l.drop i) r') (fun
      | .nx r' => ∀ σ' H', Hd C (T ++ Env C.K C.A lm (sl r') σ') H' → D.nx σ' H'
      | .rt a r' => ∀ v σ' H', Hd C (itm C.K rk a v :: Env C.K C.A rm (sl r') σ') H' → D.rt v H'
      | .bk r' => ∀ σ' H', Hd C (T ++ Env C.K C.A lm' (sl r') σ') H' → D.bk σ' H'
      | .ct r' => ∀ σ' H', Hd C (T ++ Env C.K C.A lm' (sl r') σ') H' → D.ct σ' H') (fun c => ∀ H', Fr C H' → C.W H' c), ⟨l.length, by simp, Nat.zero_le _, r, kd, by rw [List.drop_zero]; exact q⟩, ?_⟩
    rintro i m σ2 H2 ⟨rfl, hi2, r2, hd2, q2⟩
    have sub : Sub S1 H2 := by
      obtain ⟨S, F, ⟨F1, F2, e1, h1, h2⟩, o⟩ := id hd2
      exact h1.2.trans o.sh
    by_cases hlt : i < l.length
    · refine .inr ⟨G.go i H2 hlt sub, fun σ' H' => ∃ m', m' < l.length - i ∧ (m' = l.length - (i + 1) ∧ i + 1 ≤ l.length ∧ ∃ r', Hd C (keepA S1 :: T ++ Env C.K C.A lm (sl r') σ') H' ∧ ends (loop set f (l.drop (i + 1)) r') (fun
      | .nx r' => ∀ σ' H', Hd C (T ++ Env C.K C.A lm (sl r') σ') H' → D.nx σ' H'
      | .rt a r' => ∀ v σ' H', Hd C (itm C.K rk a v :: Env C.K C.A rm (sl r') σ') H' → D.rt v H'
      | .bk r' => ∀ σ' H', Hd C (T ++ Env C.K C.A lm' (sl r') σ') H' → D.bk σ' H'
      | .ct r' => ∀ σ' H', Hd C (T ++ Env C.K C.A lm' (sl r') σ') H' → D.ct σ' H') (fun c => ∀ H', Fr C H' → C.W H' c)), fun σ' H' h => h, fun x H3 hy => ?_⟩
      refine G.yld i l[i] H2 x H3 σ2 _ (List.getElem?_eq_getElem hlt) sub hy fun vs s23 pt => ?_
      have hlen := (Hd.lens hd2)
      have hd3 := Hd.parts (is := is) (ps := parts l[i]) (vs := vs) (hd2.grow s23) pt (hpl _) (fun i hi => by have := hin i hi; omega)
      rw [show setSlots (sl r2) is (parts l[i]) = sl (set l[i] r2) from (hset _ _).symm] at hd3
      rw [List.drop_eq_getElem_cons hlt] at q2
      refine ⟨set l[i] r2, keepA S1 :: T, hd3, ends_mono (ends_bind q2) (fun fl efl q3 => ?_) fun c q => q⟩
      cases fl with
      | nx r' => exact fun σ' H' h' => ⟨l.length - (i + 1), by omega, rfl, by omega, r', h', q3⟩
      | ct r' => exact fun σ' H' h' => ⟨l.length - (i + 1), by omega, rfl, by omega, r', h', q3⟩
      | bk r' => exact fun σ' H' h' => q3 σ' H' (Hd.drop h')
      | rt a r' => exact q3
    · rw [show l.drop i = [] from List.drop_eq_nil_iff.mpr (by omega)] at q2
      exact .inl ⟨G.stop i H2 (by omega) sub, q2 σ2 H2 (Hd.drop hd2)⟩
theorem s_while {c : Expr} {t : ρ → M (Bool × ρ)} {f : ρ → M (Fl ρ R)} (n : Nat) (hp : PassesOwn (model X.prog X.w) X.A X.env X.xe) (hc : PT X c (tET C sl lm lm t)) (hb : PSs X body (tS C sl lm lm lm rm rk f)) : PS X (.While c body [] pos) (tS C sl lm lm lm' rm rk (whileN t f n)) :=
  PS.conv (ps_while hp hc hb) fun D σ H ⟨r, T, hd, he⟩ => by
    refine ⟨fun m σ' H' => ∃ r', Hd C (T ++ Env C.K C.A lm (sl r') σ') H' ∧ ends (whileN t f m r') (fun
      | .nx r' => ∀ σ' H', Hd C (T ++ Env C.K C.A lm (sl r') σ') H' → D.nx σ' H'
      | .rt a r' => ∀ v σ' H', Hd C (itm C.K rk a v :: Env C.K C.A rm (sl r') σ') H' → D.rt v H'
      | .bk r' => ∀ σ' H', Hd C (T ++ Env C.K C.A lm' (sl r') σ') H' → D.bk σ' H'
      | .ct r' => ∀ σ' H', Hd C (T ++ Env C.K C.A lm' (sl r') σ') H' → D.ct σ' H') (fun c => ∀ H', Fr C H' → C.W H' c), ⟨n, r, hd, he⟩, ?_⟩
    rintro m σ2 H2 ⟨r2, hd2, q2⟩
    cases m with
    | zero => exact q2.elim
    | succ m =>
      refine ⟨r2, T, hd2, ends_mono (ends_bind q2) (fun br ebr q3 H3 h3 => ?_) fun c q => q⟩
      obtain ⟨d, r3⟩ := br
      cases d with
      | false =>
        rw [if_neg Bool.false_ne_true]
        exact q3 σ2 H3 h3
      | true =>
        rw [if_pos rfl]
        refine ⟨fun σ' H' => ∃ m', m' < m + 1 ∧ ∃ r', Hd C (T ++ Env C.K C.A lm (sl r') σ') H' ∧ ends (whileN t f m' r') (fun
          | .nx r' => ∀ σ' H', Hd C (T ++ Env C.K C.A lm (sl r') σ') H' → D.nx σ' H'
          | .rt a r' => ∀ v σ' H', Hd C (itm C.K rk a v :: Env C.K C.A rm (sl r') σ') H' → D.rt v H'
          | .bk r' => ∀ σ' H', Hd C (T ++ Env C.K C.A lm' (sl r') σ') H' → D.bk σ' H'
          | .ct r' => ∀ σ' H', Hd C (T ++ Env C.K C.A lm' (sl r') σ') H' → D.ct σ' H') (fun c => ∀ H', Fr C H' → C.W H' c), fun σ' H' h => h, r3, T, h3, ends_mono (ends_bind q3) (fun fl efl q4 => ?_) fun c q => q⟩
        cases fl with
        | nx r' => exact fun σ' H' h' => ⟨m, by omega, r', h', q4⟩
        | ct r' => exact fun σ' H' h' => ⟨m, by omega, r', h', q4⟩
        | bk r' => exact fun σ' H' h' => q4 σ' H' h'
        | rt a r' => exact q4

/-! ### changes of own things -/
theorem Hd.upd {A B : Assn} {L : List Assn} {H : Hp} {p : Addr} {o : HO} (h : Hd C (A :: L) H) (hp : ∀ S F, A.p S H F → F.Nodup → (∀ q ∈ F, S q = none) → Sub S H → p ∈ F ∧ ∃ F', F'.Nodup ∧ (∀ q ∈ F', q ∈ F) ∧ B.p S (L2.upd H p o) F') : Hd C (B :: L) (L2.upd H p o) := by
  obtain ⟨S, F, ⟨F1, F2, e, h1, h2⟩, k⟩ := h
  subst e
  have nd := List.nodup_append.mp k.nd
  obtain ⟨pin, F', nd', sub, hB⟩ := hp S F1 h1 nd.1 (fun q hq => k.dj q (List.mem_append_left _ hq)) k.sh
  have p2 : p ∉ F2 := fun z => nd.2.2 p pin p z rfl
  have sub' : ∀ q ∈ F' ++ F2, q ∈ F1 ++ F2 := fun q hq => (List.mem_append.mp hq).elim (fun z => List.mem_append_left _ (sub q z)) fun z => List.mem_append_right _ z
  refine ⟨S, F' ++ F2, ⟨F', F2, rfl, hB, h2.mono (Sub.refl S) fun q hq => upd_ne (fun z => p2 (by rw [← z]; exact hq))⟩, ?_⟩
  have pS : S p = none := k.dj p (List.mem_append_left _ pin)
  refine ⟨List.nodup_append.mpr ⟨nd', nd.2.1, fun x hx y hy z => nd.2.2 x (sub x hx) y hy z⟩, fun q hq => k.dj q (sub' q hq), fun q u hq => ?_, k.s0, fun q u hq hn => ?_, fun q hq => k.nw q (hq.imp_left (sub' q))⟩
  · rw [upd_ne (ne_of_none hq pS)]
    exact k.sh q u hq
  · by_cases e : q = p
    · subst e
      rcases k.nw q (.inl (List.mem_append_left _ pin)) with z | z | z
      · exact absurd (k.s0.back pS) z
      · exact absurd z hn
      · rw [hq] at z; cases z
    · rw [upd_ne e]
      exact k.fr q u hq hn
def starA (A B : Assn) : Assn := ⟨fun S H F => ∃ F1 F2, F = F1 ++ F2 ∧ A.p S H F1 ∧ B.p S H F2, fun ⟨F1, F2, e, h1, h2⟩ hs hk => ⟨F1, F2, e, A.mono h1 hs (fun q hq => hk q (by rw [e]; exact List.mem_append_left _ hq)), B.mono h2 hs (fun q hq => hk q (by rw [e]; exact List.mem_append_right _ hq))⟩,
  fun ⟨F1, F2, e, h1, h2⟩ q hq => by rw [e] at hq; exact (List.mem_append.mp hq).elim (A.here h1 q) (B.here h2 q)⟩
theorem Hd.join {A B : Assn} {L : List Assn} {H : Hp} (h : Hd C (A :: B :: L) H) : Hd C (starA A B :: L) H := by
  obtain ⟨S, F, ⟨F1, F2, e, h1, F3, F4, e2, h2, h3⟩, o⟩ := h
  subst e e2
  exact ⟨S, _, ⟨F1 ++ F3, F4, (List.append_assoc ..).symm, ⟨F1, F3, rfl, h1, h2⟩, h3⟩, o⟩
/-- a method that changes a list of our own, with one more thing -/
def Mut1 (K : PySem.W.Frag) (r : V → List V → Hp → VK → Prop) (op : List α → β → Option (List α)) (k kb : Nat) : Prop :=
  ∀ (H : Hp) (p : Addr) (xs : List V) (l : List α) (y : V) (b : β) (l' : List α) (Q : VK), H p = some (.lst xs) → xs.length = l.length → xs.length ≤ line → (∃ S F, Sub S H ∧ TB.rep K kb S H y b F) → op l b = some l' →
    (∀ xs' : List V, (∀ S F1 F2, Sub S H → Reps (fun v a F => TA.rep K k S H v a F) xs l F1 → TB.rep K kb S H y b F2 → (F1 ++ F2).Nodup → ∃ F', F'.Nodup ∧ (∀ q ∈ F', q ∈ F1 ++ F2) ∧ Reps (fun v a F => TA.rep K k S H v a F) xs' l' F') → xs'.length ≤ line → Q .non (L2.upd H p (.lst xs'))) → r (.ref p) [y] H Q
def fMut1 {ρ R α β : Type} (get : ρ → α) (set : α → ρ → ρ) (op : α → β → Option α) (f : ρ → M (β × ρ)) : ρ → M (Fl ρ R) := fun r => f r >>= fun br => up (op (get br.2) br.1) >>= fun l => .ok (.nx (set l br.2))
theorem s_mut1 {i k kb : Nat} {io : Option Nat} {t : V → List V → Hp → VK → Prop} {op : List α → β → Option (List α)} {get : ρ → List α} {set : List α → ρ → ρ} {f : ρ → M (β × ρ)} (mo : Mut1 C.K t op k kb) (h : PE X e (tBM C.K "list" t (tVar i) (tCons (tE C sl ms ms1 f kb) tNil)))
    (hm : ms[i]? = some (.own (k + 1) io)) (hm1 : ms1[i]? = some (.own (k + 1) io)) (hg : ∀ r, (sl r)[i]? = some ⟨get r⟩) (hset : ∀ a r, sl (set a r) = (sl r).set i ⟨a⟩) (hs : swapsWith e none pos.line X.env = pure false := by rfl) : PS X (.Expr e pos) (tS C (R := R) sl ms ms1 lm rm rk (fMut1 get set op f)) :=
  PS.conv (ps_expr h hs) fun D σ H ⟨r, T, hd, he⟩ => by
    obtain ⟨v, ev, S0, F0, ⟨Fa, Fb, _, ⟨x0, ex0, io0, p0, xs0, F', ep, n0, _, _⟩, _⟩, _⟩ := hd.open hm (hg r)
    subst ex0
    subst ep
    refine ⟨.ref p0, ev, Or.inl ⟨rfl, _, Or.inl (Or.inl n0.1)⟩, r, T, hd, ends_mono (ends_bind he) (fun br ebr q y H1 hd1 => ?_) fun c q => q⟩
    obtain ⟨l', el, q⟩ := up_ends (ends_bind q)
    have hd2 : Hd C ((itm C.K kb br.1 y :: T) ++ Env C.K C.A ms1 (sl br.2) σ) H1 := hd1
    obtain ⟨v', ev', hd3⟩ := hd2.open hm1 (hg br.2)
    rw [ev] at ev'
    cases ev'
    have hd4 := Hd.join (A := slotA C.K C.A (.own (k + 1) io) ⟨get br.2⟩ (some (.ref p0))) (B := itm C.K kb br.1 y) hd3
    obtain ⟨S1, F1, ⟨Fa1, Fb1, _, ⟨G1, G2, _, ⟨x1, ex1, io1, p1, xs1, G', ep1, n1, z1, r1⟩, rb1⟩, _⟩, ok1⟩ := id hd4
    cases ex1
    cases ep1
    refine mo H1 p0 xs1 (get br.2) y br.1 l' _ n1.1 r1.len z1 ⟨S1, G2, ok1.sh, rb1⟩ el fun xs' hx hz => ?_
    have hd5 : Hd C (slotA C.K C.A (.own (k + 1) io) ⟨l'⟩ (some (.ref p0)) :: (T ++ Env C.K C.A (ms1.set i .un) (sl br.2) σ)) (L2.upd H1 p0 (.lst xs')) := by
      refine hd4.upd fun S F hA nd dj sh => ?_
      obtain ⟨G1, G2, eF, ⟨x2, ex2, io2, p2, xs2, G', ep2, n2, z2, r2⟩, rb⟩ := hA
      cases ex2
      cases ep2
      have e2 : xs2 = xs1 := by
        have := n2.1.symm.trans n1.1
        cases this
        rfl
      subst e2
      have eG : G1 = p0 :: G' := n2.2
      subst eG eF
      have nd' : p0 ∉ G' ++ G2 ∧ (G' ++ G2).Nodup := List.nodup_cons.mp nd
      obtain ⟨F', ndF, sub, rr⟩ := hx S G' G2 sh r2 rb nd'.2
      have pF : p0 ∉ F' := fun z => nd'.1 (sub _ z)
      refine ⟨List.mem_append_left _ List.mem_cons_self, p0 :: F', List.nodup_cons.mpr ⟨pF, ndF⟩, fun q hq => ?_, .ref p0, rfl, io2, p0, xs', F', rfl, ⟨upd_same, rfl⟩, hz, rr.imp fun v a F2 hf q => TA.mono q (Sub.refl S) fun p hp => upd_ne (fun z => pF (by rw [← z]; exact hf p hp))⟩
      rcases List.mem_cons.mp hq with e | hq
      · rw [e]
        exact List.mem_append_left _ List.mem_cons_self
      · exact List.mem_cons_of_mem _ (sub q hq)
    have hlen : i < σ.length := (List.getElem?_eq_some_iff.mp ev).1
    have hd6 := Hd.close (m0 := .un) (i := i) hd5 hlen
    have e1 : σ.set i (some (.ref p0)) = σ := by
      obtain ⟨h1, h2⟩ := List.getElem?_eq_some_iff.mp ev
      rw [← h2]
      exact List.set_getElem_self h1
    have e3 : (ms1.set i .un).set i (.own (k + 1) io) = ms1 := by
      obtain ⟨h1, h2⟩ := List.getElem?_eq_some_iff.mp hm1
      rw [List.set_set, ← h2]
      exact List.set_getElem_self h1
    rw [e1, e3, ← hset] at hd6
    exact q σ _ hd6
@[irreducible] def appL {α : Type} (l : List α) (a : α) : Option (List α) := if l.length < 2 ^ 24 then some (l ++ [a]) else none
theorem mut_app {K : PySem.W.Frag} {k : Nat} : Mut1 K rAppend (appL (α := α)) k k := fun H p xs l y b l' Q hn hl hz _ e q => by
  unfold appL at e
  split at e
  · rename_i hh
    cases e
    refine ⟨p, xs, y, rfl, rfl, hn, by rw [hl]; exact hh, q _ (fun S F1 F2 _ r1 r2 nd => ⟨F1 ++ F2, nd, fun q hq => hq, ?_⟩) (by rw [List.length_append, hl]; exact hh)⟩
    exact r1.append ⟨F2, [], (List.append_nil _).symm, r2, rfl⟩
  · cases e
end

/-! ### a def -/
def runR {ρ R : Type} (f : ρ → M (Fl ρ R)) (r : ρ) : M R := f r >>= fun
  | .rt a _ => .ok a
  | _ => .error .stuck
theorem start_env {K : PySem.W.Frag} {A : Nat → Option V} {S H : Hp} : ∀ {ss : List Slot} {vs : List V} {n : Nat} {rest : List Slot}, Parts K (lv 0) S H ss vs → rest.length = n → Star (Env K A (List.replicate ss.length (lv 0) ++ List.replicate n .un) (ss ++ rest) (vs.map some ++ List.replicate n none)) S H []
  | [], [], 0, [], _, _ => rfl
  | [], [], n + 1, s :: rest, _, e => ⟨[], [], rfl, rfl, start_env (ss := []) (vs := []) (n := n) trivial (by simpa using e)⟩
  | [], [], 0, _ :: _, _, e => by simp at e
  | [], [], _ + 1, [], _, e => by simp at e
  | [], _ :: _, _, _, h, _ => h.elim
  | _ :: _, [], _, _, h, _ => h.elim
  | s :: ss, v :: vs, n, rest, ⟨h1, h2⟩, e => by
    obtain ⟨x, ex, r⟩ := h1
    cases ex
    refine ⟨[], [], rfl, ⟨v, rfl, trivial, s.inst.mono r (Sub.refl S) fun p hp => nomatch hp⟩, start_env h2 e⟩
section
variable {P : Program} {w : World} {K : PySem.W.Frag} {mg : Str → Option Value} {base : Heap}
theorem Parts.length {kd : Mode} {S H : Hp} : ∀ {ss : List Slot} {vs : List V}, Parts K kd S H ss vs → ss.length = vs.length
  | [], [], _ => rfl
  | [], _ :: _, h => h.elim
  | _ :: _, [], h => h.elim
  | _ :: _, _ :: _, ⟨_, h⟩ => by rw [List.length_cons, List.length_cons, h.length]
/-- a def that changes nothing: its body, for every call -/
theorem ok_def {x qual : Str} {st : Stmt} {f : Addr} {fd : FuncData} {N ps : List Str} {k rk : Nat} {A ρ R : Type} [T : ArgTy A] [TR : PyTy R] {sl : ρ → List Slot} {ms' rm : List Mode} {g : ρ → M (Fl ρ R)} {ini : A → ρ} (F : Fun K x qual st f fd) (S : FnScope N ps (defScope st))
    (hal : ∀ a, (T.al a).length = ps.length) (hini : ∀ a, ∃ rest, sl (ini a) = T.al a ++ rest ∧ rest.length = N.length - ps.length)
    (hbody : ∀ (cdv : Value) (A : Around) (outer : List PySem.Env) (s : Shared) (H : Hp) (E : XK) (H0 S0 : Hp) (vs : List V), Room k (A.deeper (envOfC qual (defScope st) s.heap.objs.size f cdv)) → PSs (cxOf CX0 P w K mg base N qual (defScope st) f cdv A outer s H E).nox (defBody st) (tS ⟨K, H0, S0, [], fun i => vs[i]?, noW⟩ sl (List.replicate ps.length (lv 0) ++ List.replicate (N.length - ps.length) .un) ms' [] rm rk g)) :
    FnOk P w K mg base CX0 (k + 1) f fd ps (spP K rk fun a => runR g (ini a)) := by
  refine F.ok S (fun vs H Q E h => ?_) (fun cdv A outer s H vs Q E hr h => ?_)
  · obtain ⟨a, S, _, pt, _⟩ := h
    rw [← pt.length, hal]
  · obtain ⟨a, S0, hs, pt, he⟩ := h
    refine ⟨_, hbody cdv A outer s H E H S0 vs hr, ini a, [], ⟨S0, [], ?_, List.nodup_nil, (fun p hp => nomatch hp), hs, Sub.refl S0, fun p o q _ => q, fun p q => .inl (q.resolve_left fun z => nomatch z)⟩, ends_mono (ends_bind he) (fun o eo q => ?_) fun c q => q.elim⟩
    · obtain ⟨rest, e, hl⟩ := hini a
      rw [e]
      have := start_env (K := K) (A := fun i => vs[i]?) (S := S0) (H := H) pt hl
      rw [hal] at this
      have e2 : start N vs = vs.map some ++ List.replicate (N.length - ps.length) none := by
        show vs.map some ++ List.replicate (N.length - vs.length) none = _
        rw [← pt.length, hal]
      rw [e2]
      exact this
    · cases o with
      | nx r' => exact q.elim
      | bk r' => exact q.elim
      | ct r' => exact q.elim
      | rt c r' =>
        intro v σ' H' hd
        obtain ⟨S', F, ⟨F1, F2, e, h1, h2⟩, o⟩ := hd
        subst e
        have o' := o.less (List.sublist_append_left F1 F2)
        refine q v S' H' F1 ⟨(fun p u z => o'.fr p u z (fun y => nomatch y)), o'.s0, o'.sh, (fun p z => (o'.nw p (.inr z)).imp_right fun y => y.resolve_left fun y => nomatch y), (fun p hp => ⟨?_, o'.dj p hp⟩), o'.nd⟩ h1
        rcases o'.nw p (.inl hp) with z | z | z
        · exact absurd (o'.s0.back (o'.dj p hp)) z
        · cases z
        · exact z
end
end VL
namespace VL
open PySem PySem.Spec PyProof.Rows L2

/-! ### lending: a statement that only looks at own things, and then they are own again -/
/-- what v is, the heap tells -/
class Func (α : Type) [T : PyTy α] : Prop where
  one : ∀ {K S H H' v a b F F'}, T.rep K 0 S H v a F → T.rep K 0 S H' v b F' → a = b
theorem reps_one {α : Type} [T : PyTy α] [Fn : Func α] {K : PySem.W.Frag} {S H H' : Hp} : ∀ {vs : List V} {l m : List α} {F F' : List Addr}, Reps (fun v a F => T.rep K 0 S H v a F) vs l F → Reps (fun v a F => T.rep K 0 S H' v a F) vs m F' → l = m
  | [], [], [], _, _, _, _ => rfl
  | [], _ :: _, _, _, _, h, _ => h.elim
  | [], [], _ :: _, _, _, _, h => h.elim
  | _ :: _, [], _, _, _, h, _ => h.elim
  | _ :: _, _ :: _, [], _, _, _, h => h.elim
  | _ :: _, _ :: _, _ :: _, _, _, ⟨_, _, _, h1, h2⟩, ⟨_, _, _, g1, g2⟩ => by rw [Fn.one h1 g1, reps_one h2 g2]
class ValInj (α : Type) [PyTy α] [T : Scal α] : Prop where
  vinj : ∀ a b : α, T.val a = T.val b → a = b
instance : ValInj Int := ⟨fun _ _ h => V.int.inj h⟩
instance : ValInj Bool := ⟨fun _ _ h => V.bl.inj h⟩
instance : ValInj Str := ⟨fun _ _ h => V.str.inj h⟩
instance : ValInj Unit := ⟨fun _ _ _ => rfl⟩
instance {α : Type} [T : PyTy α] [C : Scal α] [I : ValInj α] : Func α := ⟨fun h g => I.vinj _ _ ((C.scal.mp h).1.symm.trans (C.scal.mp g).1)⟩
instance {α : Type} [T : PyTy α] [Fn : Func α] : Func (List α) := ⟨fun ⟨p, xs, F', e, n, z, r⟩ ⟨p2, xs2, F2, e2, n2, z2, r2⟩ => by
  rw [e] at e2
  cases e2
  have := n.1.symm.trans n2.1
  cases this
  exact reps_one r r2⟩
instance {α β : Type} [TA : PyTy α] [TB : PyTy β] [FA : Func α] [FB : Func β] : Func (α × β) := ⟨fun ⟨p, x, y, F1, F2, e, n, r1, r2⟩ ⟨p2, x2, y2, G1, G2, e2, n2, q1, q2⟩ => by
  rw [e] at e2
  cases e2
  have := n.1.symm.trans n2.1
  cases this
  exact Prod.ext (FA.one r1 q1) (FB.one r2 q2)⟩
/-- what becomes of a slot: it is lent (it stays as it is), it is closed, or it is dropped -/
inductive Pl where | fix (k : Nat) (io : Option Nat) | cl (k : Nat) (io : Option Nat) | un
def plB (j : Nat) : Pl → Mode
  | .fix _ _ => .own 0 (some (1000 + j))
  | .cl k io => .own k io
  | .un => .un
def plM : Pl → Mode
  | .fix k io => .own k io
  | .cl k io => .own k io
  | .un => .un
def plBs : Nat → List Pl → List Mode
  | _, [] => []
  | j, p :: ps => plB j p :: plBs (j + 1) ps
structure Get (ρ : Type) where
  {α : Type}
  [inst : PyTy α]
  get : ρ → α
abbrev slots {ρ : Type} (gs : List (Get ρ)) (r : ρ) : List Slot := gs.map fun g => @Slot.mk g.α g.inst (g.get r)
def PlOk {ρ : Type} : List Pl → List (Get ρ) → Prop
  | [], [] => True
  | .fix _ _ :: ps, g :: gs => @Func g.α g.inst ∧ PlOk ps gs
  | .cl k _ :: ps, g :: gs => @Closed g.α g.inst k ∧ PlOk ps gs
  | .un :: ps, _ :: gs => PlOk ps gs
  | _, _ => False
def smallIo : List Pl → Bool
  | [] => true
  | .fix _ (some i) :: ps => decide (i < 1000) && smallIo ps
  | .cl _ (some i) :: ps => decide (i < 1000) && smallIo ps
  | .fix _ none :: ps => smallIo ps
  | .cl _ none :: ps => smallIo ps
  | .un :: ps => smallIo ps
/-- the slots that are lent, with their footprint -/
def Lent (K : PySem.W.Frag) (A : Nat → Option V) (S H : Hp) {ρ : Type} (r : ρ) : List Pl → List (Get ρ) → List (Option V) → List Addr → Prop
  | [], [], [], F => F = []
  | .fix k io :: ps, g :: gs, v :: vs, F => ∃ F1 F2, F = F1 ++ F2 ∧ (∃ x, v = some x ∧ ioAt A io x ∧ g.inst.rep K k S H x (g.get r) F1) ∧ Lent K A S H r ps gs vs F2
  | .cl _ _ :: ps, _ :: gs, _ :: vs, F => Lent K A S H r ps gs vs F
  | .un :: ps, _ :: gs, _ :: vs, F => Lent K A S H r ps gs vs F
  | _, _, _, _ => False
def newA (A : Nat → Option V) (vs : List (Option V)) : Nat → Option V := fun n => if n < 1000 then A n else (vs[n - 1000]?).join
theorem newA_lo {A : Nat → Option V} {vs : List (Option V)} {n : Nat} (h : n < 1000) : newA A vs n = A n := if_pos h
theorem newA_hi {A : Nat → Option V} {vs : List (Option V)} {j : Nat} : newA A vs (1000 + j) = (vs[j]?).join := by
  unfold newA
  rw [if_neg (by omega), show 1000 + j - 1000 = j by omega]
section
variable {K : PySem.W.Frag} {A : Nat → Option V} {ρ : Type} {r r' : ρ} {S H : Hp}
/-- the slots part: what is lent, the rest -/
theorem lend_split : ∀ {pl : List Pl} {gs : List (Get ρ)} {vs : List (Option V)} {F : List Addr}, Star (Env K A (pl.map plM) (slots gs r) vs) S H F → pl.length = gs.length → ∃ FL FC, F.Perm (FL ++ FC) ∧ Lent K A S H r pl gs vs FL ∧
    ∀ (S1 : Hp) (vs0 : List (Option V)) (j : Nat), Sub S S1 → (∀ p ∈ FL, S1 p = H p) → (∀ i, vs0[j + i]? = vs[i]?) → smallIo pl = true → Star (Env K (newA A vs0) (plBs j pl) (slots gs r) vs) S1 H FC
  | [], [], [], F, h, _ => ⟨[], [], by rw [show F = [] from h]; exact .nil, rfl, fun S1 vs0 j _ _ _ _ => rfl⟩
  | [], [], _ :: _, _, ⟨_, _, _, h, _⟩, _ => h.elim
  | [], _ :: _, _, _, _, e => by simp at e
  | _ :: _, [], _, _, _, e => by simp at e
  | _ :: _, _ :: _, [], _, ⟨_, _, _, h, _⟩, _ => h.elim
  | .un :: pl, g :: gs, v :: vs, F, ⟨F1, F2, e, h1, h2⟩, el => by
    obtain ⟨FL, FC, p, l, k⟩ := lend_split (pl := pl) (gs := gs) h2 (by simpa using el)
    have e1 : F1 = [] := h1
    subst e1 e
    refine ⟨FL, FC, p, l, fun S1 vs0 j hs hk hv hio => ⟨[], FC, rfl, rfl, k S1 vs0 (j + 1) hs hk (fun i => ?_) hio⟩⟩
    have := hv (i + 1)
    rw [show j + 1 + i = j + (i + 1) by omega, this]
    rfl
  | .cl c io :: pl, g :: gs, v :: vs, F, ⟨F1, F2, e, ⟨x, ex, hx, hr⟩, h2⟩, el => by
    obtain ⟨FL, FC, p, l, k⟩ := lend_split (pl := pl) (gs := gs) h2 (by simpa using el)
    subst e ex
    refine ⟨FL, F1 ++ FC, ?_, l, fun S1 vs0 j hs hk hv hio => ⟨F1, FC, rfl, ⟨x, rfl, ?_, g.inst.mono hr hs fun _ _ => rfl⟩, k S1 vs0 (j + 1) hs hk (fun i => ?_) ?_⟩⟩
    · refine (List.Perm.append_left F1 p).trans ?_
      rw [← List.append_assoc, ← List.append_assoc]
      exact List.Perm.append_right _ List.perm_append_comm
    · cases io with
      | none => trivial
      | some i =>
        have hio' := Bool.and_eq_true_iff.mp (show (decide (i < 1000) && smallIo pl) = true from hio)
        show newA A vs0 i = some x
        rw [newA_lo (of_decide_eq_true hio'.1)]
        exact hx
    · have := hv (i + 1)
      rw [show j + 1 + i = j + (i + 1) by omega, this]
      rfl
    · cases io with
      | none => exact hio
      | some i => exact (Bool.and_eq_true_iff.mp (show (decide (i < 1000) && smallIo pl) = true from hio)).2
  | .fix c io :: pl, g :: gs, v :: vs, F, ⟨F1, F2, e, ⟨x, ex, hx, hr⟩, h2⟩, el => by
    obtain ⟨FL, FC, p, l, k⟩ := lend_split (pl := pl) (gs := gs) h2 (by simpa using el)
    subst e ex
    refine ⟨F1 ++ FL, FC, ?_, ⟨F1, FL, rfl, ⟨x, rfl, hx, hr⟩, l⟩, fun S1 vs0 j hs hk hv hio => ⟨[], FC, rfl, ⟨x, rfl, ?_, g.inst.freeze hr hs (fun p hp => hk p (List.mem_append_left _ hp)) H⟩, k S1 vs0 (j + 1) hs (fun p hp => hk p (List.mem_append_right _ hp)) (fun i => ?_) ?_⟩⟩
    · rw [List.append_assoc]
      exact List.Perm.append_left F1 p
    · show newA A vs0 (1000 + j) = some x
      rw [newA_hi]
      have := hv 0
      rw [Nat.add_zero] at this
      rw [this]
      rfl
    · have := hv (i + 1)
      rw [show j + 1 + i = j + (i + 1) by omega, this]
      rfl
    · cases io with
      | none => exact hio
      | some i => exact (Bool.and_eq_true_iff.mp (show (decide (i < 1000) && smallIo pl) = true from hio)).2
theorem Lent.here : ∀ {pl : List Pl} {gs : List (Get ρ)} {vs : List (Option V)} {F : List Addr}, Lent K A S H r pl gs vs F → ∀ q ∈ F, H q ≠ none
  | [], [], [], _, h => by rw [show _ = [] from h]; intro q hq; cases hq
  | .fix _ _ :: _, g :: _, _ :: _, _, ⟨F1, F2, e, ⟨x, ex, _, hr⟩, h2⟩ => by
    subst e
    intro q hq
    exact (List.mem_append.mp hq).elim (g.inst.here hr q) (Lent.here h2 q)
  | .cl _ _ :: pl, _ :: gs, _ :: vs, _, h => Lent.here (pl := pl) (gs := gs) (vs := vs) h
  | .un :: pl, _ :: gs, _ :: vs, _, h => Lent.here (pl := pl) (gs := gs) (vs := vs) h
  | [], [], _ :: _, _, h => h.elim
  | [], _ :: _, _, _, h => h.elim
  | .fix _ _ :: _, [], _, _, h => h.elim
  | .cl _ _ :: _, [], _, _, h => h.elim
  | .un :: _, [], _, _, h => h.elim
  | .fix _ _ :: _, _ :: _, [], _, h => h.elim
  | .cl _ _ :: _, _ :: _, [], _, h => h.elim
  | .un :: _, _ :: _, [], _, h => h.elim
/-- .. and back -/
theorem lend_back {S' H' S2 : Hp} (s1 : Sub S S2) (s2 : Sub S S') : ∀ {pl : List Pl} {gs : List (Get ρ)} {vs vs' : List (Option V)} {FL F' : List Addr} {vs0 : List (Option V)} {j : Nat}, Lent K A S H r pl gs vs FL → (∀ p ∈ FL, S' p = H p ∧ H' p = H p) → Star (Env K (newA A vs0) (plBs j pl) (slots gs r') vs') S' H' F' → PlOk pl gs → smallIo pl = true → (∀ i, vs0[j + i]? = vs[i]?)  →
    ∃ F'', F''.Perm (FL ++ F') ∧ Star (Env K A (pl.map plM) (slots gs r') vs') S2 H' F''
  | [], [], [], [], FL, F', _, _, l, _, h, _, _, _ => ⟨[], by rw [show FL = [] from l, show F' = [] from h]; exact .nil, rfl⟩
  | [], [], [], _ :: _, _, _, _, _, _, _, ⟨_, _, _, h, _⟩, _, _, _ => h.elim
  | [], [], _ :: _, _, _, _, _, _, h, _, _, _, _, _ => h.elim
  | [], _ :: _, _, _, _, _, _, _, h, _, _, _, _, _ => h.elim
  | .fix _ _ :: _, [], _, _, _, _, _, _, h, _, _, _, _, _ => h.elim
  | .cl _ _ :: _, [], _, _, _, _, _, _, h, _, _, _, _, _ => h.elim
  | .un :: _, [], _, _, _, _, _, _, h, _, _, _, _, _ => h.elim
  | .fix _ _ :: _, _ :: _, [], _, _, _, _, _, h, _, _, _, _, _ => h.elim
  | .cl _ _ :: _, _ :: _, [], _, _, _, _, _, h, _, _, _, _, _ => h.elim
  | .un :: _, _ :: _, [], _, _, _, _, _, h, _, _, _, _, _ => h.elim
  | .fix _ _ :: _, _ :: _, _ :: _, [], _, _, _, _, _, _, ⟨_, _, _, h, _⟩, _, _, _ => h.elim
  | .cl _ _ :: _, _ :: _, _ :: _, [], _, _, _, _, _, _, ⟨_, _, _, h, _⟩, _, _, _ => h.elim
  | .un :: _, _ :: _, _ :: _, [], _, _, _, _, _, _, ⟨_, _, _, h, _⟩, _, _, _ => h.elim
  | .un :: pl, g :: gs, v :: vs, v' :: vs', FL, F', vs0, j, l, hk, ⟨F1, F2, e, h1, h2⟩, ok, hio, hv => by
    have e1 : F1 = [] := h1
    subst e1 e
    obtain ⟨F'', p, st⟩ := lend_back s1 s2 (pl := pl) (gs := gs) (vs := vs) (vs' := vs') (j := j + 1) l hk h2 ok hio (fun i => by
      have := hv (i + 1)
      rw [show j + 1 + i = j + (i + 1) by omega, this]
      rfl)
    exact ⟨F'', p, [], F'', rfl, rfl, st⟩
  | .cl c io :: pl, g :: gs, v :: vs, v' :: vs', FL, F', vs0, j, l, hk, ⟨F1, F2, e, ⟨x, ex, hx, hr⟩, h2⟩, ok, hio, hv => by
    subst e ex
    have hio2 : smallIo pl = true := by
      cases io with
      | none => exact hio
      | some i => exact (Bool.and_eq_true_iff.mp (show (decide (i < 1000) && smallIo pl) = true from hio)).2
    obtain ⟨F'', p, st⟩ := lend_back s1 s2 (pl := pl) (gs := gs) (vs := vs) (vs' := vs') (j := j + 1) l hk h2 ok.2 hio2 (fun i => by
      have := hv (i + 1)
      rw [show j + 1 + i = j + (i + 1) by omega, this]
      rfl)
    refine ⟨F1 ++ F'', ?_, F1, F'', rfl, ⟨x, rfl, ?_, @Closed.closed g.α g.inst c ok.1 _ _ _ _ _ _ _ hr⟩, st⟩
    · refine (List.Perm.append_left F1 p).trans ?_
      rw [← List.append_assoc, ← List.append_assoc]
      exact List.Perm.append_right _ List.perm_append_comm
    · cases io with
      | none => trivial
      | some i =>
        have hio' := Bool.and_eq_true_iff.mp (show (decide (i < 1000) && smallIo pl) = true from hio)
        have : newA A vs0 i = some x := hx
        rw [newA_lo (of_decide_eq_true hio'.1)] at this
        exact this
  | .fix c io :: pl, g :: gs, v :: vs, v' :: vs', FL, F', vs0, j, ⟨G1, G2, eG, ⟨y, ey, hiy, hy⟩, l⟩, hk, ⟨F1, F2, e, ⟨x, ex, hx, hr⟩, h2⟩, ok, hio, hv => by
    subst e ex ey eG
    have hio2 : smallIo pl = true := by
      cases io with
      | none => exact hio
      | some i => exact (Bool.and_eq_true_iff.mp (show (decide (i < 1000) && smallIo pl) = true from hio)).2
    obtain ⟨F'', p, st⟩ := lend_back s1 s2 (pl := pl) (gs := gs) (vs := vs) (vs' := vs') (j := j + 1) l (fun p hp => hk p (List.mem_append_right _ hp)) h2 ok.2 hio2 (fun i => by
      have := hv (i + 1)
      rw [show j + 1 + i = j + (i + 1) by omega, this]
      rfl)
    have exy : x = y := by
      have h0 : newA A vs0 (1000 + j) = some x := hx
      rw [newA_hi] at h0
      have := hv 0
      rw [Nat.add_zero] at this
      rw [this] at h0
      have h1 : some y = some x := h0
      cases h1
      rfl
    subst exy
    have same : g.get r = g.get r' := @Func.one g.α g.inst ok.1 _ _ _ _ _ _ _ _ _ (g.inst.freeze hy s2 (fun p hp => (hk p (List.mem_append_left _ hp)).1) H') hr
    have F10 : F1 = [] := g.inst.zero hr
    subst F10
    refine ⟨G1 ++ F'', ?_, G1, F'', rfl, ⟨x, rfl, ?_, ?_⟩, st⟩
    · rw [List.append_assoc]
      exact List.Perm.append_left G1 p
    · exact hiy
    · show g.inst.rep K c S2 H' x (g.get r') G1
      rw [← same]
      exact g.inst.mono hy s1 fun p hp => (hk p (List.mem_append_left _ hp)).2
end
theorem lent_len {K : PySem.W.Frag} {A : Nat → Option V} {S H : Hp} {ρ : Type} {r : ρ} {pl : List Pl} {gs : List (Get ρ)} (h : PlOk pl gs) : pl.length = gs.length := by
  induction pl generalizing gs with
  | nil => cases gs with
    | nil => rfl
    | cons _ _ => exact h.elim
  | cons p pl ih => cases gs with
    | nil => cases p <;> exact h.elim
    | cons g gs =>
      rw [List.length_cons, List.length_cons]
      cases p with
      | fix _ _ => rw [ih h.2]
      | cl _ _ => rw [ih h.2]
      | un => rw [ih h]
/-- what is not touched: as it stood in H0 -/
def asA (F0 : List Addr) (H0 : Hp) : Assn := ⟨fun _ H F => F = F0 ∧ (∀ q ∈ F, H q = H0 q) ∧ ∀ q ∈ F, H0 q ≠ none, fun h _ hk => ⟨h.1, fun q hq => (hk q hq).trans (h.2.1 q hq), h.2.2⟩, fun h q hq => by rw [h.2.1 q hq]; exact h.2.2 q hq⟩
section
variable {X : Cx} {C : Ct} {ρ R : Type} [TR : PyTy R] {gs : List (Get ρ)} {rm : List Mode} {rk : Nat} {st : Stmt}
def NoB {ρ R : Type} (f : ρ → M (Fl ρ R)) : Prop := ∀ r r', f r ≠ .ok (.bk r') ∧ f r ≠ .ok (.ct r')
theorem nob_loop {ρ R β : Type} {set : β → ρ → ρ} {body : ρ → M (Fl ρ R)} : ∀ (l : List β) (r r' : ρ), loop set body l r ≠ .ok (.bk r') ∧ loop set body l r ≠ .ok (.ct r')
  | [], r, r' => ⟨(fun h => nomatch h), (fun h => nomatch h)⟩
  | b :: l, r, r' => by
    unfold loop
    cases e : body (set b r) with
    | error z => exact ⟨(fun h => nomatch h), (fun h => nomatch h)⟩
    | ok o => cases o with
      | nx r1 => exact nob_loop l r1 r'
      | ct r1 => exact nob_loop l r1 r'
      | bk r1 => exact ⟨(fun h => nomatch h), (fun h => nomatch h)⟩
      | rt a r1 => exact ⟨(fun h => nomatch h), (fun h => nomatch h)⟩
theorem nob_for {ρ R β : Type} {xs : ρ → M (List β)} {set : β → ρ → ρ} {body : ρ → M (Fl ρ R)} : NoB (fFor xs set body) := fun r r' => by
  unfold fFor
  cases e : xs r with
  | error z => exact ⟨(fun h => nomatch h), (fun h => nomatch h)⟩
  | ok l => exact nob_loop l r r'
theorem s_lend {pl : List Pl} {ms0 ms2 lm0 : List Mode} [CR : Closed R rk] {f : ρ → M (Fl ρ R)} (ok : PlOk pl gs) (hio : smallIo pl = true) (w : wk (pl.map plM) rm = true) (nb : NoB f) (h : ∀ (S0 : Hp) (A : Nat → Option V), PS X st (tS ⟨C.K, C.H0, S0, C.P, A, C.W⟩ (slots gs) (plBs 0 pl) (plBs 0 pl) (plBs 0 pl) (plBs 0 pl) rk f)) (e0 : ms0 = pl.map plM := by rfl) (e2 : ms2 = pl.map plM := by rfl) :
    PS X st (tS C (slots gs) ms0 ms2 lm0 rm rk f) := by
  subst e0 e2
  refine ⟨fun pins s σ H D I q => ?_⟩
  obtain ⟨r, T, ⟨S, F, star, o⟩, he⟩ := q
  obtain ⟨FT, FE, e, hT, hE⟩ := star.split
  subst e
  obtain ⟨FL, FC, p, l, k⟩ := lend_split hE (lent_len (K := C.K) (A := C.A) (S := S) (H := H) (r := r) ok)
  have dj : ∀ q ∈ FL, S q = none := fun q hq => o.dj q (List.mem_append_right _ (p.mem_iff.mpr (List.mem_append_left _ hq)))
  have o1 : OkS C S (FL ++ (FT ++ FC)) H := o.perm (by
    refine (List.Perm.append_left FT p).trans ?_
    rw [← List.append_assoc, ← List.append_assoc]
    exact List.Perm.append_right _ List.perm_append_comm)
  have o2 := o1.share
  have ndL := List.nodup_append.mp o1.nd
  -- what is wanted, behind the block
  have back : ∀ (L' L : List Assn) (r' : ρ) (σ' : List (Option V)) (H' : Hp), (∀ S' S2 F1, Sub S S2 → Star L' S' H' F1 → Star L S2 H' F1) → Hd ⟨C.K, C.H0, add S H FL, C.P, newA C.A σ, C.W⟩ (L' ++ Env C.K (newA C.A σ) (plBs 0 pl) (slots gs r') σ') H' → Hd C (L ++ Env C.K C.A (pl.map plM) (slots gs r') σ') H' := by
    rintro L' L r' σ' H' conv ⟨S', F', star', o'⟩
    obtain ⟨F1, F2, e, h1, h2⟩ := star'.split
    subst e
    have sub : Sub (add S H FL) S' := o'.s0
    have sS : Sub S S' := (add_sub dj).trans sub
    have atL : ∀ q ∈ FL, S' q = H q := fun q hq => by
      have := l.here q hq
      rw [sub.eq_of (p := q) (by rw [add_in hq]; exact this), add_in hq]
    have atH : ∀ q ∈ FL, H' q = H q := fun q hq => by
      have := atL q hq
      rw [o'.sh.eq_of (by rw [this]; exact l.here q hq), this]
    let S2 : Hp := fun q => if q ∈ FL then none else S' q
    have S2in : ∀ q, q ∈ FL → S2 q = none := fun q hq => if_pos hq
    have S2out : ∀ q, q ∉ FL → S2 q = S' q := fun q hq => if_neg hq
    have s12 : Sub S S2 := fun q u hu => by
      by_cases hq : q ∈ FL
      · rw [dj q hq] at hu; cases hu
      · rw [S2out q hq]; exact sS q u hu
    obtain ⟨F'', pp, st'⟩ := lend_back s12 sS l (fun q hq => ⟨atL q hq, atH q hq⟩) h2 ok hio (fun i => by rw [Nat.zero_add])
    have nd' := List.nodup_append.mp o'.nd
    have notL : ∀ q ∈ F1 ++ F2, q ∉ FL := fun q hq z => by
      have := o'.dj q hq
      rw [atL q z] at this
      exact l.here q z this
    refine ⟨S2, F1 ++ F'', (conv S' S2 F1 s12 h1).append st', ?_⟩
    have o3 : OkS C S2 (F1 ++ (FL ++ F2)) H' := by
      refine ⟨?_, fun q hq => ?_, fun q u hu => ?_, o.s0.trans s12, o'.fr, fun q hq => ?_⟩
      · refine List.nodup_append.mpr ⟨nd'.1, List.nodup_append.mpr ⟨ndL.1, nd'.2.1, fun x hx y hy z => notL y (List.mem_append_right _ hy) (by rw [← z]; exact hx)⟩, fun x hx y hy z => ?_⟩
        subst z
        rcases List.mem_append.mp hy with hy | hy
        · exact notL x (List.mem_append_left _ hx) hy
        · exact nd'.2.2 x hx x hy rfl
      · by_cases z : q ∈ FL
        · exact S2in q z
        · rw [S2out q z]
          refine o'.dj q ?_
          rcases List.mem_append.mp hq with hq | hq
          · exact List.mem_append_left _ hq
          · exact List.mem_append_right _ ((List.mem_append.mp hq).resolve_left z)
      · by_cases z : q ∈ FL
        · rw [S2in q z] at hu; cases hu
        · rw [S2out q z] at hu; exact o'.sh q u hu
      · have orig : q ∈ FL ∨ S q ≠ none → C.S0 q ≠ none ∨ q ∈ C.P ∨ C.H0 q = none := fun z => o1.nw q (z.imp_left fun y => List.mem_append_left _ y)
        have via : (q ∈ F1 ++ F2 ∨ S' q ≠ none) → C.S0 q ≠ none ∨ q ∈ C.P ∨ C.H0 q = none := fun z => by
          rcases o'.nw q z with y | y
          · by_cases hq : q ∈ FL
            · exact orig (.inl hq)
            · have y' : add S H FL q ≠ none := y
              rw [add_out hq] at y'
              exact orig (.inr y')
          · exact .inr y
        rcases hq with hq | hq
        · rcases List.mem_append.mp hq with hq | hq
          · exact via (.inl (List.mem_append_left _ hq))
          · rcases List.mem_append.mp hq with hq | hq
            · exact orig (.inl hq)
            · exact via (.inl (List.mem_append_right _ hq))
        · by_cases z : q ∈ FL
          · exact orig (.inl z)
          · rw [S2out q z] at hq
            exact via (.inr hq)
    exact o3.perm (List.Perm.append_left F1 pp.symm)
  have convT : ∀ (H' : Hp) (S' S2 : Hp) (F1 : List Addr), Sub S S2 → Star [asA FT H] S' H' F1 → Star T S2 H' F1 := by
    rintro H' S' S2 F1 s12 ⟨G1, G2, eg, ⟨eF, hk, _⟩, h1'⟩
    have eG2 : G2 = [] := h1'
    subst eG2
    rw [List.append_nil] at eg
    subst eg
    subst eF
    exact hT.mono s12 hk
  refine (h (add S H FL) (newA C.A σ)).run pins s σ H D I ⟨r, [asA FT H], ⟨add S H FL, FT ++ FC, ?_, ?_⟩, ends_mono he (fun fl efl q => ?_) fun c q => q⟩
  · refine Star.append (l := [asA FT H]) ⟨FT, [], (List.append_nil _).symm, ⟨rfl, fun _ _ => rfl, hT.here⟩, rfl⟩ (k (add S H FL) σ 0 (add_sub dj) (fun q hq => add_in hq) (fun i => by rw [Nat.zero_add]) hio)
  · exact ⟨o2.nd, o2.dj, o2.sh, Sub.refl _, o2.fr, fun q hq => by
      rcases hq with hq | hq
      · rcases o2.nw q (.inl hq) with z | z
        · refine .inl ?_
          have := o2.s0.eq_of z
          show add S H FL q ≠ none
          rw [this]; exact z
        · exact .inr z
      · exact .inl hq⟩
  · cases fl with
    | nx r' => exact fun σ' H' h' => q σ' H' (back [asA FT H] T r' σ' H' (convT H') h')
    | bk r' => exact absurd efl (nb r r').1
    | ct r' => exact absurd efl (nb r r').2
    | rt a r' =>
      intro v σ' H' h'
      refine q v σ' H' (Hd.weak (T := [itm C.K rk a v]) (back [itm C.K rk a v] [itm C.K rk a v] r' σ' H' (fun S' S2 F1 _ z => ?_) h') w)
      obtain ⟨G1, G2, e, h1, h2⟩ := z
      exact ⟨G1, G2, e, CR.closed h1, h2⟩
end
end VL
namespace VL
open PySem PySem.Spec PyProof.Rows L2

/-! ### sorted(set(xs)) -/
/-- rising, each once -/
def sins (x : Int) : List Int → List Int
  | [] => [x]
  | y :: l => if x < y then x :: y :: l else if x = y then y :: l else y :: sins x l
def ssort (l : List Int) : List Int := l.foldr sins []
theorem sins_mem {x y : Int} : ∀ {l : List Int}, y ∈ sins x l ↔ y = x ∨ y ∈ l
  | [] => by simp [sins]
  | z :: l => by
    unfold sins
    split
    · simp
    · split
      · rename_i h
        subst h
        simp
      · rw [List.mem_cons, sins_mem, List.mem_cons]
        constructor
        · rintro (h | h | h)
          · exact .inr (.inl h)
          · exact .inl h
          · exact .inr (.inr h)
        · rintro (h | h | h)
          · exact .inr (.inl h)
          · exact .inl h
          · exact .inr (.inr h)
theorem sins_sorted {x : Int} : ∀ {l : List Int}, l.Pairwise (· < ·) → (sins x l).Pairwise (· < ·)
  | [], _ => by simp [sins]
  | z :: l, h => by
    obtain ⟨h1, h2⟩ := List.pairwise_cons.mp h
    unfold sins
    split
    · rename_i hx
      refine List.pairwise_cons.mpr ⟨fun y hy => ?_, h⟩
      rcases List.mem_cons.mp hy with e | hy
      · rw [e]; exact hx
      · have := h1 y hy; omega
    · split
      · exact h
      · refine List.pairwise_cons.mpr ⟨fun y hy => ?_, sins_sorted h2⟩
        rcases sins_mem.mp hy with e | hy
        · rw [e]; omega
        · exact h1 y hy
theorem ssort_mem {y : Int} : ∀ {l : List Int}, y ∈ ssort l ↔ y ∈ l
  | [] => Iff.rfl
  | x :: l => by
    show y ∈ sins x (ssort l) ↔ y ∈ x :: l
    rw [sins_mem, ssort_mem, List.mem_cons]
theorem ssort_sorted : ∀ l : List Int, (ssort l).Pairwise (· < ·)
  | [] => .nil
  | x :: l => sins_sorted (ssort_sorted l)
theorem rising_eq : ∀ {l m : List Int}, l.Pairwise (· < ·) → m.Pairwise (· < ·) → (∀ k, k ∈ l ↔ k ∈ m) → l = m
  | [], [], _, _, _ => rfl
  | [], y :: m, _, _, h => absurd ((h y).mpr List.mem_cons_self) (fun z => nomatch z)
  | x :: l, [], _, _, h => absurd ((h x).mp List.mem_cons_self) (fun z => nomatch z)
  | x :: l, y :: m, h1, h2, h => by
    obtain ⟨a1, a2⟩ := List.pairwise_cons.mp h1
    obtain ⟨b1, b2⟩ := List.pairwise_cons.mp h2
    have exy : x = y := by
      rcases List.mem_cons.mp ((h x).mp List.mem_cons_self) with e | hx
      · exact e
      · rcases List.mem_cons.mp ((h y).mpr List.mem_cons_self) with e | hy
        · exact e.symm
        · have := a1 y hy
          have := b1 x hx
          omega
    subst exy
    rw [rising_eq a2 b2 fun k => ⟨fun hk => ?_, fun hk => ?_⟩]
    · rcases List.mem_cons.mp ((h k).mp (List.mem_cons_of_mem _ hk)) with e | z
      · have := a1 k hk; omega
      · exact z
    · rcases List.mem_cons.mp ((h k).mpr (List.mem_cons_of_mem _ hk)) with e | z
      · have := b1 k hk; omega
      · exact z
theorem sins_len (x : Int) : ∀ l : List Int, (sins x l).length ≤ l.length + 1
  | [] => Nat.le_refl _
  | y :: l => by
    unfold sins
    split
    · exact Nat.le_refl _
    · split
      · exact Nat.le_succ _
      · have := sins_len x l
        rw [List.length_cons, List.length_cons]
        omega
theorem ssort_len : ∀ l : List Int, (ssort l).length ≤ l.length
  | [] => Nat.le_refl _
  | x :: l => by
    have h1 := sins_len x (ssort l)
    have h2 := ssort_len l
    show (sins x (ssort l)).length ≤ l.length + 1
    omega
def rSetI (w : World) (K : PySem.W.Frag) : List V → Hp → VK → Prop := fun xs H Q => ∃ (l : Addr) (ns : List Int), xs = [.ref l] ∧ SqL K H l (ns.map V.int) ∧ ns.length + 1 < 4096 ∧ ∀ p, H p = none → Q (.ref p) (L2.upd H p (SetO w p (fun j => decide (j ∈ ns)) (ssort ns).length))
theorem cr_setI {X : Cx} (hc : X.calm = true) : CallR X (.type "set") (rSetI X.w X.K) := by
  intro pins s σ H xs us Q I r h
  obtain ⟨l, ns, rfl, hs, few, q⟩ := h
  rw [Vals.ref1 r]
  obtain ⟨its, rv, hl, hz⟩ := I.list hs
  refine set_of_list ns (I.ok.hd hc) hl.isList (by simpa using rv.ints) few fun h2 tk c R1 hc2 k => ?_
  have hn : H s.heap.objs.size = none := I.hok.fresh (Nat.le_refl _)
  have ec : c = (ssort ns).length := by
    obtain ⟨o, es, ep, t, _, _, _, _, nd, hS, _, _, hn2, _⟩ := R1
    have pm : (es.toList.map keyOf).Perm (ssort ns) := (List.perm_ext_iff_of_nodup nd ((ssort_sorted ns).imp fun h => by omega)).mpr fun k => by
      rw [← hS k, ssort_mem]
      exact ⟨fun h => of_decide_eq_true h, fun h => decide_eq_true h⟩
    rw [← pm.length_eq, List.length_map, Array.length_toList, hn2]
  subst ec
  exact ⟨.ref _, _, I.laid (t' := tk) k (Nat.le_refl _) (setO_new R1), rfl, q _ hn⟩
/-- sorted(set(xs)): the set has fewer than 64 members -/
def sortSetI (l : List Int) : Option (List Int) := if l.length < 4000 ∧ (ssort l).length < 64 then some (ssort l) else none
section
variable {X : Cx} {W : Hp → String → Prop} {ρ : Type} {sl : ρ → List Slot} {ms : List Mode} {a e : Expr} {pos p pos2 p2 : Pos} {kd : Mode}
theorem pv_sortSet {f : ρ → M (List Int)} (hc : X.calm = true) (hg : Gl X "sorted") (hm : X.mg "sorted" = none) (hg2 : Gl X "set") (hm2 : X.mg "set" = none) (ha : PE X a (tP X.K W sl ms f kd)) (hk : kd ≠ .un := by decide)
    (he : starEach [a] X.env = (false, eval a X.env) :: starEach [] X.env := by rfl) (hpl : (backTo pos2 (starEach [] X.env)).any (·.1) = false := by rfl) (he2 : starEach [.Call (.Name "set" p2) [a] [] pos2] X.env = (false, eval (.Call (.Name "set" p2) [a] [] pos2) X.env) :: starEach [] X.env := by rfl) (hpl2 : (backTo pos (starEach [] X.env)).any (·.1) = false := by rfl) :
    PE X (.Call (.Name "sorted" p) [.Call (.Name "set" p2) [a] [] pos2] [] pos) (tP X.K W sl ms (e1 sortSetI f) (lv 1)) :=
  PE.conv (pe_callB (cr_sortedSet hc) hg hm boot_sorted (pa_cons (pe_callTy (cr_setI hc) hg2 hm2 boot_set (pa_cons ha pa_nil he) (by decide) (by decide) he hpl) pa_nil he2) (by decide) (by decide) he2 hpl2) fun σ H Q ⟨r, S, hs, hv, q⟩ => ⟨r, S, hs, hv, ends_mono (ends_bind q) (fun l el q v S1 H1 F x g => by
    obtain ⟨c, ec, q⟩ := up_ends q
    unfold sortSetI at ec
    split at ec
    · rename_i few
      cases ec
      obtain ⟨p, e1, n, z⟩ := rep_list (g.look x.sh hk)
      subst e1
      refine ⟨p, l, rfl, .inl (.inl n), by omega, fun p2 hp => ⟨p2, _, (ssort l).length, rfl, upd_same, few.2, fun ns p3 hs hm hl hp3 => ?_⟩⟩
      have en : ns = ssort l := rising_eq hs (ssort_sorted l) fun k => by
        rw [hm k, ssort_mem]
        exact ⟨fun h => of_decide_eq_true h, fun h => decide_eq_true h⟩
      subst en
      have x0 := x.share g.here
      have x1 : Ext S H (add S1 H1 F) (L2.upd H1 p2 (SetO X.w p2 (fun j => decide (j ∈ l)) (ssort l).length)) [] := ⟨x0.hh.trans (Sub.new hp), x0.ss, x0.sh.trans (Sub.new hp), x0.nw, x0.fr, x0.nd⟩
      obtain ⟨x2, g2⟩ := new_list (K := X.K) (l := ssort l) x1.sh hp3 (xs := (ssort l).map V.int) (by rw [List.length_map]; show _ ≤ 2 ^ 24; omega) fun H => scal_reps
      exact q _ _ _ _ (x1.trans x2 (fun p hp => nomatch hp)) g2
    · cases ec) fun c q => q⟩

/-! ### the script -/
theorem pv_ixScr {f : ρ → M Scr} {g : ρ → M Int} {b : Expr} {kb : Mode} (ha : PE X a (tP X.K W sl ms f kd)) (hb : PE X b (tP X.K W sl ms g kb)) (hs : PlainIx b := by exact fun _ _ => rfl) (hka : kd ≠ .un := by decide) (hkb : kb ≠ .un := by decide) : PE X (.Subscript a b pos) (tP X.K W sl ms (e2 (fun s i => ixL s.l i) f g) (lv 0)) :=
  pv_e2 (t := rIxL X.K) (fun H x y a b c Q ra rb e q => by
    obtain ⟨_, p, e1, h⟩ := ra
    obtain ⟨v, at1, r⟩ := ixL_at (r := fun v a F => v = V.int a ∧ F = []) (vs := a.l.map V.int) (l := a.l) (scal_reps (α := Int) (K := X.K) (k := 0) (S := H) (H := H)) e
    refine ⟨p, _, b, v, e1, rep_scal rb, h, at1, ?_⟩
    rw [r.1]
    exact q _ H (New.scal (α := Int))) ha hb (pe_ix ix_list ha hb hs) hka hkb
theorem pv_cutScr {lo hi : Option Expr} {f : ρ → M Scr} {g h : ρ → M (Option Int)} {p2 : Pos} (he : PE X e (tP X.K W sl ms f (lv 0))) (hl : PO X lo (tPO X.K W sl ms g)) (hu : PO X hi (tPO X.K W sl ms h)) : PE X (.Subscript e (.Slice lo hi none p2) pos) (tP X.K W sl ms (eCut (fun r => f r >>= fun s => if s.l.length ≤ line then .ok s.l else .error .stuck) g h) (lv 1)) :=
  PE.conv (pe_slice sl_list he hl hu) fun σ H Q ⟨r, S, hs, hv, he⟩ => ⟨r, S, hs, hv, ends_mono (ends_bind (ends_bind he)) (fun s es q v S1 H1 F x g => by
    have eF : F = [] := PyTy.zero g
    subst eF
    by_cases hz : s.l.length ≤ line
    · rw [if_pos hz] at q
      refine ⟨r, S1, x.sh, hv.mono x.ss x.hh, ends_mono (ends_bind q) (fun o eo q S2 H2 x2 => ⟨r, S2, x2.sh, (hv.mono x.ss x.hh).mono x2.ss x2.hh, ends_mono (ends_bind q) (fun o2 eo2 q S3 H3 x3 => ?_) fun c q H4 h4 => q H4 (x.hh.trans (x2.hh.trans h4))⟩) fun c q H4 h4 => q H4 (x.hh.trans h4)⟩
      obtain ⟨_, p, e1, n⟩ := g
      have x13 := (x.trans x2 (fun p hp => nomatch hp)).trans x3 (fun p hp => nomatch hp)
      refine ⟨p, _, e1, Evl.ex_l (fun a o z => x3.hh a o (x2.hh a o (x.sh a o z))) n, fun p hp => ?_⟩
      obtain ⟨y, g2⟩ := new_list (K := X.K) (l := cutA s.l o o2) x13.sh hp (Nat.le_trans (cutV_length _ o o2) (by rw [List.length_map]; exact hz)) fun H => cut_reps scal_reps
      exact q _ _ _ _ (x13.trans y (fun p hp => nomatch hp)) g2
    · rw [if_neg hz] at q
      exact q.elim) fun c q => q⟩

/-! ### isinstance, of a thing whose type is known -/
class TypOf (α : Type) [T : PyTy α] (t : outParam String) : Prop where
  ty : ∀ {K H v a}, T.rep K 0 H H v a [] → TyX K H v (.type t)
instance : TypOf Int "int" := ⟨fun h => by rw [rep_scal h]; exact .base (.int _)⟩
instance : TypOf Bool "bool" := ⟨fun h => by rw [rep_scal h]; exact .base (.bl _)⟩
instance : TypOf Str "str" := ⟨fun h => by rw [rep_scal h]; exact .base (.str _)⟩
instance : TypOf Unit "NoneType" := ⟨fun h => by rw [rep_scal h]; exact .base .non⟩
instance {α : Type} [PyTy α] : TypOf (List α) "list" := ⟨fun ⟨p, xs, F', e, n, z, r⟩ => by rw [e]; exact .base (.lst n.1)⟩
instance {α β : Type} [PyTy α] [PyTy β] : TypOf (α × β) "tuple" := ⟨fun ⟨p, x, y, F1, F2, e, n, r⟩ => by rw [e]; exact .base (.tup n.1)⟩
theorem pv_isi {α : Type} [T : PyTy α] {t u : String} {b : Bool} [TO : TypOf α t] {x : Str} {p3 : Pos} {f : ρ → M α} (hb : kitB t u = some b) (hg : Gl X "isinstance") (hm : X.mg "isinstance" = none) (hgx : Gl X x) (hmx : X.mg x = none) (hv : bootBuiltins x = some (.type u)) (ha : PE X a (tP X.K W sl ms f kd)) (hk : kd ≠ .un := by decide) (hn : x ≠ "__name__" := by decide) (hdb : (x == ("__debug__" : Str)) = false := by decide)
    (he : starEach [a, .Name x p3] X.env = (false, eval a X.env) :: starEach [.Name x p3] X.env := by rfl) (he2 : starEach [.Name x p3] X.env = (false, eval (.Name x p3) X.env) :: starEach [] X.env := by rfl) (hpl : (backTo pos (starEach [.Name x p3] X.env)).any (·.1) = false := by rfl) :
    PE X (.Call (.Name "isinstance" p) [a, .Name x p3] [] pos) (tP X.K W sl ms (e1 (fun _ => some b) f) (lv 0)) :=
  PE.conv (pe_callB call_isi hg hm boot_isinstance (pa_cons ha (pa_cons (pe_bltn (v := .ty u) hgx hmx hv rfl hn hdb) pa_nil he2) he) (by decide) (by decide) he hpl) fun σ H Q ⟨r, S, hs, hv, q⟩ => ⟨r, S, hs, hv, ends_mono (ends_bind q) (fun l el q v S1 H1 F x g =>
    ⟨v, .ty u, .type t, .type u, b, rfl, .ty u, TO.ty (g.look x.sh hk), kit_ty hb, q _ _ H1 [] (x.share g.here) (Scal.scal.mpr ⟨rfl, rfl⟩)⟩) fun c q => q⟩
@[irreducible] def extL {α : Type} (l m : List α) : Option (List α) := if l.length + m.length ≤ 2 ^ 24 then some (l ++ m) else none
theorem mut_ext0 {α : Type} [T : PyTy α] {K : PySem.W.Frag} : Mut1 K rExtend (extL (α := α)) 0 0 := fun H p xs l y b l' Q hn hl hz ⟨S0, G0, s0, p0, ys, F0, e0, n0, z0, r0⟩ e q => by
  unfold extL at e
  split at e
  · rename_i hh
    cases e
    refine ⟨p, p0, xs, ys, rfl, by rw [e0], hn, s0 _ _ n0.1, by rw [hl, r0.len]; exact hh, q _ (fun S F1 F2 sh r1 r2 nd => ?_) (by rw [List.length_append, hl, r0.len]; exact hh)⟩
    obtain ⟨p2, ys2, F3, e2, n2, z2, r2⟩ := r2
    rw [e0] at e2
    cases e2
    have := (sh _ _ n2.1).symm.trans (s0 _ _ n0.1)
    cases this
    have eF3 : F2 = F3 := n2.2
    subst eF3
    exact ⟨F1 ++ F2, nd, fun q hq => hq, r1.append r2⟩
  · cases e
end
end VL
namespace VL
open PySem PySem.Spec PyProof.Rows L2
section
variable {X : Cx} {C : Ct} {ρ R : Type} [TR : PyTy R] {sl : ρ → List Slot} {ms ms1 ms2 lm rm : List Mode} {rk : Nat} {st : Stmt}
theorem s_pre {f : ρ → M (Fl ρ R)} (h1 : PS X st (tS C sl ms1 ms2 lm rm rk f)) (w : wk ms ms1 = true := by rfl) : PS X st (tS C sl ms ms2 lm rm rk f) :=
  PS.conv h1 fun D σ H ⟨r, T, hd, he⟩ => ⟨r, T, hd.weak w, he⟩
/-- an expression that only looks, ahead of a store -/
theorem look_read {α : Type} [TA : PyTy α] {f : ρ → M α} {k : Nat} {σ : L2.St} {H : Hp} {Q : VK} (h : tE C sl ms ms (lift f) k σ H Q) : tP C.K C.W sl (ms.map downM) f (lv k) σ H Q := by
  obtain ⟨r, T, hd, he⟩ := h
  obtain ⟨S, F, st, o⟩ := id hd
  obtain ⟨F1, F2, _, _, h2⟩ := st.split
  exact ⟨r, S, o.sh, h2.view o.sh, ends_mono (ends_bind he) (fun a ea q v S' H' F' x g => q v H' (Hd.ext st o x g)) fun c q H' s => q H' (hd.fr s)⟩
theorem share_read {α : Type} [TA : PyTy α] {K : PySem.W.Frag} {W : Hp → String → Prop} {f : ρ → M α} {k : Nat} {io : Option Nat} {σ : L2.St} {H : Hp} {Q : VK} (h : tP K W sl ms f (lv 0) σ H Q) : tP K W sl ms f (.own k io) σ H Q := by
  obtain ⟨r, S, hs, hv, he⟩ := h
  exact ⟨r, S, hs, hv, ends_mono he (fun a ea q v S' H' F x g => q v (add S' H' F) H' [] (x.share (TA.here g)) (TA.freeze g (add_sub fun p hp => (x.fr p hp).2) (fun p hp => add_in hp) H')) fun c q => q⟩
section
variable {β γ : Type} [TC : PyTy γ] {i : Nat} {y : Str} {py : Pos} {elt tg iter : Expr} {ifs : List Expr} {scope : Scope} {own : List (Str × Nat)} {pos spos : Pos} {g : TG} {f : ρ → M (List β)} {kd : Mode} {is : List Nat} {parts : β → List Slot} {set : β → ρ → ρ} {t : ρ → M Bool} {e : ρ → M γ} {k : Nat} {setv : List γ → ρ → ρ}
/-- name = [..] on one row -/
theorem s_setLc (hc : X.calm = true) (hN : X.N.Nodup) (hy : X.N[i]? = some y) (hyl : X.env.scope.names.lookup y = some .local) (hsw : swapsWith (.ListComp elt [⟨tg, iter, ifs, 0⟩] scope pos) (some (.Name y py)) spos.line X.env = pure true)
    (hi : PI X tg iter (tW C.K C.W sl (ms.map downM) f kd g is parts)) (ok : BlkOk X.N X.env.scope scope own)
    (hg : ∀ (s : Shared) (H : Hp) (C : Addr) (cl : List (Str × Addr)) (fp : List Addr), PG (X.blk s H scope (compEnvC scope cl C X.env) fp) tg g)
    (ht : ∀ (s : Shared) (H : Hp) (D : Addr) (cl : List (Str × Addr)) (fp : List Addr), PTs (X.blk s H scope (compEnvC scope cl D X.env) fp) ifs (tPT C.K noW sl (setModes (wipeM (ms.map downM) (own.map (·.2))) is kd) t))
    (he : ∀ (s : Shared) (H : Hp) (D : Addr) (cl : List (Str × Addr)) (fp : List Addr), PE (X.blk s H scope (compEnvC scope cl D X.env) fp) elt (tP C.K noW sl (setModes (wipeM (ms.map downM) (own.map (·.2))) is kd) e (lv k)))
    (hset : ∀ b r, sl (set b r) = setSlots (sl r) is (parts b)) (hpl : ∀ b, is.length = (parts b).length) (hin : ∀ i ∈ is, i ∈ own.map (·.2)) (hsv : ∀ a r, sl (setv a r) = (sl r).set i ⟨a⟩) (hil : i < ms.length) (hs : ∀ x, foldedSetIterable iter X.env x = pure x := by intro _; rfl) (hms : ms2 = ms.set i (lv (k + 1)) := by rfl) :
    PS X (.Assign [.Name y py] (.ListComp elt [⟨tg, iter, ifs, 0⟩] scope pos) spos) (tS C (R := R) sl ms ms2 lm rm rk (fSet setv (lift (eLc f set t e)))) :=
  PS.conv (ps_setLc hc hN hy hyl hsw hi ok hg ht he hs) fun D σ H h => by
    subst hms
    have h2 := set_read (i := i) (k := k + 1) hsv hil h
    exact lc_read hset hpl hin (look_read h2)
/-- .. shared at once -/
theorem s_setLc0 (hc : X.calm = true) (hN : X.N.Nodup) (hy : X.N[i]? = some y) (hyl : X.env.scope.names.lookup y = some .local) (hsw : swapsWith (.ListComp elt [⟨tg, iter, ifs, 0⟩] scope pos) (some (.Name y py)) spos.line X.env = pure true)
    (hi : PI X tg iter (tW C.K C.W sl (ms.map downM) f kd g is parts)) (ok : BlkOk X.N X.env.scope scope own)
    (hg : ∀ (s : Shared) (H : Hp) (C : Addr) (cl : List (Str × Addr)) (fp : List Addr), PG (X.blk s H scope (compEnvC scope cl C X.env) fp) tg g)
    (ht : ∀ (s : Shared) (H : Hp) (D : Addr) (cl : List (Str × Addr)) (fp : List Addr), PTs (X.blk s H scope (compEnvC scope cl D X.env) fp) ifs (tPT C.K noW sl (setModes (wipeM (ms.map downM) (own.map (·.2))) is kd) t))
    (he : ∀ (s : Shared) (H : Hp) (D : Addr) (cl : List (Str × Addr)) (fp : List Addr), PE (X.blk s H scope (compEnvC scope cl D X.env) fp) elt (tP C.K noW sl (setModes (wipeM (ms.map downM) (own.map (·.2))) is kd) e (lv k)))
    (hset : ∀ b r, sl (set b r) = setSlots (sl r) is (parts b)) (hpl : ∀ b, is.length = (parts b).length) (hin : ∀ i ∈ is, i ∈ own.map (·.2)) (hsv : ∀ a r, sl (setv a r) = (sl r).set i ⟨a⟩) (hil : i < ms.length) (hs : ∀ x, foldedSetIterable iter X.env x = pure x := by intro _; rfl) (hms : ms2 = ms.set i (lv 0) := by rfl) :
    PS X (.Assign [.Name y py] (.ListComp elt [⟨tg, iter, ifs, 0⟩] scope pos) spos) (tS C (R := R) sl ms ms2 lm rm rk (fSet setv (lift (eLc f set t e)))) :=
  PS.conv (ps_setLc hc hN hy hyl hsw hi ok hg ht he hs) fun D σ H h => by
    subst hms
    have h2 := set_read (i := i) (k := 0) hsv hil h
    exact lc_read hset hpl hin (share_read (look_read h2))
end
end
section
variable {X : Cx} {W : Hp → String → Prop} {ρ : Type} {sl : ρ → List Slot} {ms : List Mode} {a b e : Expr} {pos p pos2 p2 : Pos} {ka kb : Mode}
theorem rgV_rng (a b : Int) : rgV a b = ((List.range (b - a).toNat).map fun (k : Nat) => a + (k : Int)).map V.int := by
  unfold rgV
  rw [List.map_map]
  rfl
theorem rng_ok {a b : Int} {l : List Int} (h : rng a b = some l) : RgOk a b ∧ l.length ≤ line ∧ rgV a b = l.map V.int := by
  obtain ⟨hl, h1, h2, h3, h4, e⟩ := rng_len h
  subst e
  rw [List.length_map, List.length_range] at hl
  exact ⟨⟨h1, h2, h3, h4, hl⟩, by rw [List.length_map, List.length_range]; exact hl, rgV_rng a b⟩
/-- list(range(n)) -/
theorem pv_lrng1 {f : ρ → M Int} (hc : X.calm = true) (hg : Gl X "list") (hm : X.mg "list" = none) (hg2 : Gl X "range") (hm2 : X.mg "range" = none) (ha : PE X a (tP X.K W sl ms f ka)) (hka : ka ≠ .un := by decide) (na : starEach [a] X.env = (false, eval a X.env) :: starEach [] X.env := by rfl) (na2 : starEach [.Call (.Name "range" p2) [a] [] pos2] X.env = (false, eval (.Call (.Name "range" p2) [a] [] pos2) X.env) :: starEach [] X.env := by rfl) :
    PE X (.Call (.Name "list" p) [.Call (.Name "range" p2) [a] [] pos2] [] pos) (tP X.K W sl ms (e1 rng1 f) (lv 1)) :=
  PE.conv (pe_listRg hc hg hm (prg_1 hg2 hm2 ha na) na2) fun σ H Q ⟨r, S, hs, hv, he⟩ => ⟨r, S, hs, hv, ends_mono (ends_bind he) (fun n en q v S1 H1 F x g => by
    obtain ⟨l, el, q⟩ := up_ends q
    obtain ⟨ok, hl, e⟩ := rng_ok el
    refine ⟨n, rep_scal (g.look x.sh hka), ok, fun p hp => ?_⟩
    have x0 := x.share g.here
    obtain ⟨y, g2⟩ := new_list (K := X.K) (l := l) x0.sh hp (xs := rgV 0 n) (by rw [e, List.length_map]; exact hl) fun H => by rw [e]; exact scal_reps
    exact q _ _ _ _ (x0.trans y (fun p hp => nomatch hp)) g2) fun c q => q⟩
theorem pv_lrng2 {f g : ρ → M Int} (hc : X.calm = true) (hg : Gl X "list") (hm : X.mg "list" = none) (hg2 : Gl X "range") (hm2 : X.mg "range" = none) (ha : PE X a (tP X.K W sl ms f ka)) (hb : PE X b (tP X.K W sl ms g kb)) (hka : ka ≠ .un := by decide) (hkb : kb ≠ .un := by decide) (na : starEach [a, b] X.env = (false, eval a X.env) :: starEach [b] X.env := by rfl) (nb : starEach [b] X.env = (false, eval b X.env) :: starEach [] X.env := by rfl) (hpl : (backTo pos2 (starEach [b] X.env)).any (·.1) = false := by rfl) (na2 : starEach [.Call (.Name "range" p2) [a, b] [] pos2] X.env = (false, eval (.Call (.Name "range" p2) [a, b] [] pos2) X.env) :: starEach [] X.env := by rfl) :
    PE X (.Call (.Name "list" p) [.Call (.Name "range" p2) [a, b] [] pos2] [] pos) (tP X.K W sl ms (e2 rng f g) (lv 1)) :=
  PE.conv (pe_listRg hc hg hm (prg_2 hg2 hm2 ha hb na nb hpl) na2) fun σ H Q ⟨r, S, hs, hv, he⟩ => by
    refine two (R := fun x y H2 => ∃ i j, x = .int i ∧ y = .int j ∧ RgOk i j ∧ ∀ q, H2 q = none → Q (.ref q) (L2.upd H2 q (.lst (rgV i j)))) ha hb hs hv ?_
    refine ends_mono (ends_bind he) (fun n en q => ends_mono (ends_bind q) (fun m em q v u S1 H1 F1 F2 x g1 g2 => ?_) fun c q => q) fun c q => q
    obtain ⟨l, el, q⟩ := up_ends q
    obtain ⟨ok, hl, e⟩ := rng_ok el
    refine ⟨n, m, rep_scal (g1.look x.sh hka), rep_scal (g2.look x.sh hkb), ok, fun p hp => ?_⟩
    have x0 := x.share (F := F2 ++ F1) fun p hp => (List.mem_append.mp hp).elim (g2.here p) (g1.here p)
    obtain ⟨y, g2⟩ := new_list (K := X.K) (l := l) x0.sh hp (xs := rgV n m) (by rw [e, List.length_map]; exact hl) fun H => by rw [e]; exact scal_reps
    exact q _ _ _ _ (x0.trans y (fun p hp => nomatch hp)) g2
end
/-- the law's own call -/
theorem law_ok {K : PySem.W.Frag} {H : Hp} {a : Addr} {ns : List Int} {m : Scr × Unit → M Bool} (hS : SqL K H a (ns.map V.int)) (h : m (⟨ns⟩, ()) = .ok true) : spP K 0 m [.ref a] H (fun v _ => v = .bl true) fun _ _ _ => False :=
  ⟨(⟨ns⟩, ()), H, Sub.refl H, ⟨⟨.ref a, rfl, rfl, a, rfl, hS⟩, trivial⟩, by rw [h]; exact fun v S' H' F x g => rep_scal g⟩
end VL
namespace VL
open PySem PySem.Spec PyProof.Rows L2

/-! ### places: lists held somewhere in a slot -/
theorem Reps.at {α : Type} {r : V → α → List Addr → Prop} : ∀ {vs : List V} {as : List α} {F : List Addr} {i : Nat} {a : α}, Reps r vs as F → as[i]? = some a → ∃ v F1 G, vs[i]? = some v ∧ F.Perm (F1 ++ G) ∧ r v a F1 ∧
    ∀ (r' : V → α → List Addr → Prop) v' a' F', (∀ v a F0, (∀ p ∈ F0, p ∈ G) → r v a F0 → r' v a F0) → r' v' a' F' → ∃ F3, F3.Perm (F' ++ G) ∧ Reps r' (vs.set i v') (as.set i a') F3
  | [], [], _, _, _, _, e => by simp at e
  | [], _ :: _, _, _, _, h, _ => h.elim
  | _ :: _, [], _, _, _, h, _ => h.elim
  | v :: vs, a :: as, _, 0, b, ⟨F1, F2, e0, h1, h2⟩, e => by
    cases e
    subst e0
    exact ⟨v, F1, F2, rfl, .refl _, h1, fun r' v' a' F' k h => ⟨F' ++ F2, .refl _, F', F2, rfl, h, h2.imp fun v a F0 hp q => k v a F0 hp q⟩⟩
  | v :: vs, a :: as, _, i + 1, b, ⟨F1, F2, e0, h1, h2⟩, e => by
    subst e0
    obtain ⟨w, G1, G, ew, pm, hr, k⟩ := Reps.at (i := i) h2 e
    refine ⟨w, G1, F1 ++ G, ew, ?_, hr, fun r' v' a' F' kk h => ?_⟩
    · refine (List.Perm.append_left F1 pm).trans ?_
      rw [← List.append_assoc, ← List.append_assoc]
      exact List.Perm.append_right _ List.perm_append_comm
    · obtain ⟨F3, p3, h3⟩ := k r' v' a' F' (fun v a F0 hp q => kk v a F0 (fun p hq => List.mem_append_right _ (hp p hq)) q) h
      refine ⟨F1 ++ F3, ?_, F1, F3, rfl, kk _ _ _ (fun p hp => List.mem_append_left _ hp) h1, h3⟩
      refine (List.Perm.append_left F1 p3).trans ?_
      rw [← List.append_assoc, ← List.append_assoc]
      exact List.Perm.append_right _ List.perm_append_comm

section
variable {C : Ct} {α β γ : Type} [TA : PyTy α] [TB : PyTy β]
/-- a list of k + 1 layers that is held within A, at p -/
def Fcs (K : PySem.W.Frag) (k : Nat) (A : Assn) (A' : List α → Assn) (p : Addr) (l : List α) (H : Hp) : Prop :=
  ∀ S F, Sub S H → A.p S H F → F.Nodup → ∃ xs F1 G, H p = some (.lst xs) ∧ xs.length ≤ line ∧ F.Perm (p :: (F1 ++ G)) ∧ Reps (fun v a F => TA.rep K k S H v a F) xs l F1 ∧
    ∀ H' xs' l' F', (∀ q ∈ G, H' q = H q) → H' p = some (.lst xs') → xs'.length ≤ line → Reps (fun v a F => TA.rep K k S H' v a F) xs' l' F' → ∃ F3, F3.Perm (p :: (F' ++ G)) ∧ (A' l').p S H' F3
theorem Hd.chg {A B : Assn} {A' : List α → Assn} {L : List Assn} {k : Nat} {p : Addr} {l l' : List α} {H : Hp} {xs xs' : List V} (h : Hd C (A :: B :: L) H) (f : Fcs C.K k A A' p l H) (hx : H p = some (.lst xs))
    (chg : ∀ S F1 F2, Sub S H → Reps (fun v a F => TA.rep C.K k S H v a F) xs l F1 → B.p S H F2 → (F1 ++ F2).Nodup → ∃ F', F'.Nodup ∧ (∀ q ∈ F', q ∈ F1 ++ F2) ∧ Reps (fun v a F => TA.rep C.K k S H v a F) xs' l' F') (hz : xs'.length ≤ line) : Hd C (A' l' :: L) (L2.upd H p (.lst xs')) := by
  refine (Hd.join h).upd fun S F hA nd dj sh => ?_
  obtain ⟨F1, F2, e, hA, hB⟩ := hA
  subst e
  have nd2 := List.nodup_append.mp nd
  obtain ⟨xs2, G1, G, hx2, hz2, pm, hr, put⟩ := f S F1 sh hA nd2.1
  have e2 : xs2 = xs := by
    have := hx2.symm.trans hx
    cases this
    rfl
  subst e2
  have ndp : (p :: (G1 ++ G)).Nodup := pm.nodup_iff.mp nd2.1
  have ndq := List.nodup_cons.mp ndp
  have ndr := List.nodup_append.mp ndq.2
  have memF : ∀ q, q = p ∨ q ∈ G1 ∨ q ∈ G → q ∈ F1 := fun q hq => pm.mem_iff.mpr (by
    rcases hq with e | hq | hq
    · rw [e]; exact List.mem_cons_self
    · exact List.mem_cons_of_mem _ (List.mem_append_left _ hq)
    · exact List.mem_cons_of_mem _ (List.mem_append_right _ hq))
  obtain ⟨F', ndF, sub, hr'⟩ := chg S G1 F2 sh hr hB (List.nodup_append.mpr ⟨ndr.1, nd2.2.1, fun x hx y hy z => nd2.2.2 x (memF x (.inr (.inl hx))) y hy z⟩)
  have notF : ∀ q ∈ F', q ≠ p ∧ q ∉ G := fun q hq => by
    rcases List.mem_append.mp (sub q hq) with z | z
    · exact ⟨fun e => ndq.1 (by rw [← e]; exact List.mem_append_left _ z), fun y => ndr.2.2 q z q y rfl⟩
    · exact ⟨fun e => nd2.2.2 p (memF p (.inl rfl)) q z e.symm, fun y => nd2.2.2 q (memF q (.inr (.inr y))) q z rfl⟩
  have pG : p ∉ G := fun z => ndq.1 (List.mem_append_right _ z)
  obtain ⟨F3, p3, h3⟩ := put (L2.upd H p (.lst xs')) xs' l' F' (fun q hq => upd_ne (fun e => pG (by rw [← e]; exact hq))) upd_same hz (hr'.imp fun v a F0 hf q => TA.mono q (Sub.refl S) fun q hq => upd_ne (notF q (hf q hq)).1)
  refine ⟨List.mem_append_left _ (memF p (.inl rfl)), F3, p3.nodup_iff.mpr (List.nodup_cons.mpr ⟨fun z => ?_, List.nodup_append.mpr ⟨ndF, ndr.2.1, fun x hx y hy z => (notF x hx).2 (by rw [z]; exact hy)⟩⟩), fun q hq => ?_, h3⟩
  · rcases List.mem_append.mp z with z | z
    · exact (notF p z).1 rfl
    · exact pG z
  · rcases List.mem_cons.mp (p3.mem_iff.mp hq) with e | hq
    · rw [e]; exact List.mem_append_left _ (memF p (.inl rfl))
    · rcases List.mem_append.mp hq with hq | hq
      · rcases List.mem_append.mp (sub q hq) with z | z
        · exact List.mem_append_left _ (memF q (.inr (.inl z)))
        · exact List.mem_append_right _ z
      · exact List.mem_append_left _ (memF q (.inr (.inr hq)))
theorem fcs_own {k : Nat} {io : Option Nat} {p : Addr} {l : List α} {H : Hp} : Fcs C.K k (slotA C.K C.A (.own (k + 1) io) ⟨l⟩ (some (.ref p))) (fun l' => slotA C.K C.A (.own (k + 1) io) ⟨l'⟩ (some (.ref p))) p l H := by
  rintro S F sh ⟨x1, ex1, io1, p1, xs1, G', ep1, n1, z1, r1⟩ nd
  cases ex1
  cases ep1
  have eG : F = p :: G' := n1.2
  subst eG
  refine ⟨xs1, G', [], n1.1, z1, by rw [List.append_nil], r1, fun H' xs' l' F' hq hp hz h => ⟨p :: F', by rw [List.append_nil], .ref p, rfl, io1, p, xs', F', rfl, ⟨hp, rfl⟩, hz, h⟩⟩
/-- the place in a list of n -/
def nI (n : Nat) (i : Int) : Nat := if 0 ≤ i then i.toNat else (i + n).toNat
theorem ixL_nI {α : Type} {l : List α} {i : Int} {a : α} (h : ixL l i = some a) : l[nI l.length i]? = some a ∧ (∀ vs : List V, vs.length = l.length → ixN vs.length i = some (nI l.length i)) := by
  unfold ixL at h
  unfold nI ixN
  split at h
  · rename_i h0
    have := (List.getElem?_eq_some_iff.mp h).1
    refine ⟨by rw [if_pos h0]; exact h, fun vs e => ?_⟩
    rw [if_pos h0, if_pos (by omega), if_pos h0]
  · rename_i h0
    split at h
    · rename_i h1
      refine ⟨by rw [if_neg h0]; exact h, fun vs e => ?_⟩
      rw [if_neg h0, if_pos (by omega), if_neg h0, e]
    · cases h
theorem Fcs.inn {k : Nat} {A : Assn} {A' : List (List α) → Assn} {p0 p : Addr} {L : List (List α)} {l : List α} {H : Hp} {n : Nat} {XS : List V} (f : Fcs C.K (k + 1) A A' p0 L H) (hx : H p0 = some (.lst XS)) (hn : XS[n]? = some (.ref p)) (hl : L[n]? = some l) :
    Fcs C.K k A (fun l' => A' (L.set n l')) p l H := by
  intro S F sh hA nd
  obtain ⟨xs, F1, G, hx2, hz, pm, hr, put⟩ := f S F sh hA nd
  have e2 : xs = XS := by
    have := hx2.symm.trans hx
    cases this
    rfl
  subst e2
  obtain ⟨v, Fa, Ga, ev, pm2, rv, put2⟩ := Reps.at hr hl
  have e3 : v = .ref p := by
    have := ev.symm.trans hn
    cases this
    rfl
  subst e3
  obtain ⟨p1, ys, Fb, ep, n1, z1, r1⟩ := rv
  cases ep
  have eF : Fa = p :: Fb := n1.2
  subst eF
  refine ⟨ys, Fb, p0 :: (Ga ++ G), n1.1, z1, ?_, r1, fun H' xs' l' F' hq hp hz' h => ?_⟩
  · refine pm.trans ?_
    refine ((List.Perm.append_right G pm2).cons p0).trans ?_
    show (p0 :: ((p :: Fb ++ Ga) ++ G)).Perm (p :: (Fb ++ p0 :: (Ga ++ G)))
    rw [List.append_assoc]
    refine (List.Perm.swap _ _ _).trans (List.Perm.cons p ?_)
    exact List.perm_middle.symm
  · obtain ⟨F3, p3, h3⟩ := put2 (fun v a F => (instList (T := TA)).rep C.K (k + 1) S H' v a F) (.ref p) l' (p :: F') (fun v a F0 hf q => (instList (T := TA)).mono q (Sub.refl S) fun q hq' => hq q (List.mem_cons_of_mem _ (List.mem_append_left _ (hf q hq')))) ⟨p, xs', F', rfl, ⟨hp, rfl⟩, hz', h⟩
    rw [show xs.set n (.ref p) = xs from by
      obtain ⟨a, b⟩ := List.getElem?_eq_some_iff.mp hn
      rw [← b]
      exact List.set_getElem_self a] at h3
    obtain ⟨F4, p4, h4⟩ := put H' xs (L.set n l') F3 (fun q hq' => hq q (List.mem_cons_of_mem _ (List.mem_append_right _ hq'))) ((hq p0 List.mem_cons_self).trans hx) hz h3
    refine ⟨F4, ?_, h4⟩
    refine p4.trans ?_
    refine ((List.Perm.append_right G p3).cons p0).trans ?_
    show (p0 :: ((p :: F' ++ Ga) ++ G)).Perm (p :: (F' ++ p0 :: (Ga ++ G)))
    rw [List.append_assoc]
    refine (List.Perm.swap _ _ _).trans (List.Perm.cons p ?_)
    exact List.perm_middle.symm
end

/-! ### what stands to the left of a change -/
section
variable {X : Cx} {C : Ct} {ρ R : Type} [TR : PyTy R] {sl : ρ → List Slot} {ms ms1 ms2 lm rm : List Mode} {rk : Nat} {α β : Type} [TA : PyTy α] [TB : PyTy β]
/-- at p stands the list that the place tells; behind a growth of the heap it still does -/
def Ready (C : Ct) (sl : ρ → List Slot) (ms : List Mode) (k : Nat) (σ : L2.St) (r : ρ) (p : Addr) (lw : List α × (List α → ρ)) (H1 : Hp) : Prop :=
  ∀ H2 T B, Sub H1 H2 → Hd C (B :: (T ++ Env C.K C.A ms (sl r) σ)) H2 → ∃ (A : Assn) (A' : List α → Assn) (L : List Assn), Hd C (A :: B :: L) H2 ∧ Fcs C.K k A A' p lw.1 H2 ∧ ∀ l' H3, Hd C (A' l' :: L) H3 → Hd C (T ++ Env C.K C.A ms (sl (lw.2 l')) σ) H3
def Rcv (C : Ct) (sl : ρ → List Slot) (ms : List Mode) (k : Nat) (te : TE) (pl : ρ → M (List α × (List α → ρ))) : Prop :=
  ∀ σ H r T Q, Hd C (T ++ Env C.K C.A ms (sl r) σ) H → ends (pl r) (fun lw => ∀ p H1, Sub H H1 → Hd C (T ++ Env C.K C.A ms (sl r) σ) H1 → (∃ xs, H1 p = some (.lst xs)) → Ready C sl ms k σ r p lw H1 → Q (.ref p) H1) (fun c => ∀ H', Fr C H' → C.W H' c) → te σ H Q
theorem Hd.any {l : List Assn} {H : Hp} (h : Hd C l H) : Hd C (anyA :: l) H := by
  obtain ⟨S, F, st, o⟩ := h
  exact ⟨S, F, ⟨[], F, rfl, rfl, st⟩, o⟩
theorem Fcs.here {k : Nat} {A B : Assn} {A' : List α → Assn} {L : List Assn} {p : Addr} {l : List α} {H : Hp} (f : Fcs C.K k A A' p l H) (h : Hd C (A :: B :: L) H) : ∃ S xs F1 F2, Sub S H ∧ H p = some (.lst xs) ∧ xs.length ≤ line ∧ Reps (fun v a F => TA.rep C.K k S H v a F) xs l F1 ∧ B.p S H F2 := by
  obtain ⟨S, F, ⟨F1, F2, e, hA, F3, F4, e2, hB, _⟩, o⟩ := h
  subst e e2
  obtain ⟨xs, G1, G, hx, hz, _, hr, _⟩ := f S F1 o.sh hA (List.nodup_append.mp o.nd).1
  exact ⟨S, xs, G1, F3, o.sh, hx, hz, hr, hB⟩
def pV (get : ρ → List α) (set : List α → ρ → ρ) : ρ → M (List α × (List α → ρ)) := fun r => .ok (get r, fun l => set l r)
def pIx (pl : ρ → M (List (List α) × (List (List α) → ρ))) (fi : ρ → M Int) : ρ → M (List α × (List α → ρ)) := fun r => pl r >>= fun lw => fi r >>= fun j => up (ixL lw.1 j) >>= fun l => .ok (l, fun l' => lw.2 (lw.1.set (nI lw.1.length j) l'))
theorem rcv_var {i k : Nat} {io : Option Nat} {get : ρ → List α} {set : List α → ρ → ρ} (hm : ms[i]? = some (.own (k + 1) io)) (hg : ∀ r, (sl r)[i]? = some ⟨get r⟩) (hset : ∀ a r, sl (set a r) = (sl r).set i ⟨a⟩) : Rcv C sl ms k (tVar i) (pV get set) := by
  intro σ H r T Q hd q
  obtain ⟨v, ev, S0, F0, ⟨Fa, Fb, _, ⟨x0, ex0, io0, p0, xs0, F', ep, n0, _, _⟩, _⟩, _⟩ := hd.open hm (hg r)
  subst ex0
  subst ep
  refine ⟨.ref p0, ev, q p0 H (Sub.refl H) hd ⟨xs0, n0.1⟩ fun H2 T B s hd2 => ?_⟩
  obtain ⟨v', ev', hd3⟩ := Hd.open (T := B :: T) hd2 hm (hg r)
  rw [ev] at ev'
  cases ev'
  refine ⟨slotA C.K C.A (.own (k + 1) io) ⟨get r⟩ (some (.ref p0)), fun l' => slotA C.K C.A (.own (k + 1) io) ⟨l'⟩ (some (.ref p0)), T ++ Env C.K C.A (ms.set i .un) (sl r) σ, hd3, fcs_own, fun l' H3 h3 => ?_⟩
  have hlen : i < σ.length := (List.getElem?_eq_some_iff.mp ev).1
  have hd6 := Hd.close (m0 := .un) (i := i) h3 hlen
  have e1 : σ.set i (some (.ref p0)) = σ := by
    obtain ⟨h1, h2⟩ := List.getElem?_eq_some_iff.mp ev
    rw [← h2]
    exact List.set_getElem_self h1
  have e3 : (ms.set i .un).set i (.own (k + 1) io) = ms := by
    obtain ⟨h1, h2⟩ := List.getElem?_eq_some_iff.mp hm
    rw [List.set_set, ← h2]
    exact List.set_getElem_self h1
  rw [e1, e3, ← hset] at hd6
  exact hd6
/-- a look, where things are held -/
theorem look_hd {f : ρ → M β} {kb : Nat} {T : List Assn} {σ : L2.St} {H : Hp} {r : ρ} {Q : VK} (hd : Hd C (T ++ Env C.K C.A ms (sl r) σ) H) (q : ends (f r) (fun b => ∀ v H', Sub H H' → Hd C (itm C.K kb b v :: (T ++ Env C.K C.A ms (sl r) σ)) H' → Q v H') (fun c => ∀ H', Fr C H' → C.W H' c)) :
    tP C.K C.W sl (ms.map downM) f (lv kb) σ H Q := by
  obtain ⟨S, F, st, o⟩ := id hd
  obtain ⟨F1, F2, _, _, h2⟩ := st.split
  exact ⟨r, S, o.sh, h2.view o.sh, ends_mono q (fun a _ q v S' H' F' x g => q v H' x.hh (Hd.ext st o x g)) fun c q H' s => q H' (hd.fr s)⟩
theorem itm_int {k : Nat} {n : Int} {v : V} {L : List Assn} {H : Hp} (h : Hd C (itm C.K k n v :: L) H) : v = .int n := by
  obtain ⟨S, F, ⟨F1, F2, _, h1, _⟩, o⟩ := h
  exact rep_scal h1
theorem rcv_ix {k : Nat} {te ti : TE} {pl : ρ → M (List (List α) × (List (List α) → ρ))} {fi : ρ → M Int} (h : Rcv C sl ms (k + 1) te pl) (hi : ti = tP C.K C.W sl (ms.map downM) fi (lv 0)) : Rcv C sl ms k (tOp (rIxL C.K) te ti) (pIx pl fi) := by
  subst hi
  intro σ H r T Q hd q
  refine h σ H r T _ hd (ends_mono (ends_bind q) (fun lw _ q p0 H1 s1 hd1 hx rd => ?_) fun c q => q)
  refine look_hd hd1 (ends_mono (ends_bind q) (fun j _ q v H2 s2 hd2 => ?_) fun c q => q)
  obtain ⟨l, el, q⟩ := up_ends (ends_bind q)
  have ev := itm_int hd2
  subst ev
  have hd3 := hd2.drop
  obtain ⟨A, A', L, hd4, f, _⟩ := rd H2 T anyA s2 hd3.any
  obtain ⟨S, XS, F1, F2, sh, hx0, hz, hr, _⟩ := f.here hd4
  obtain ⟨hn, hn2⟩ := ixL_nI el
  obtain ⟨w, G1, G, ew, _, rw', _⟩ := Reps.at hr hn
  obtain ⟨p, ys, G2, ep, n1, z1, r1⟩ := rw'
  subst ep
  refine ⟨p0, XS, j, .ref p, rfl, rfl, .inl (.inl hx0), ?_, q p H2 (s1.trans s2) hd3 ⟨ys, n1.1⟩ fun H3 T B s3 hd5 => ?_⟩
  · unfold atI
    rw [hn2 XS hr.len]
    exact ew
  · obtain ⟨A2, A2', L2, hd6, f2, back⟩ := rd H3 T B (s2.trans s3) hd5
    exact ⟨A2, fun l' => A2' (lw.1.set (nI lw.1.length j) l'), L2, hd6, f2.inn (s3 _ _ hx0) ew hn, fun l' H4 h4 => back _ H4 h4⟩
/-- a method that changes the list at a place, with one more thing -/
def fMutP (pl : ρ → M (List α × (List α → ρ))) (op : List α → β → Option (List α)) (f : ρ → M β) : ρ → M (Fl ρ R) := fun r => pl r >>= fun lw => f r >>= fun b => up (op lw.1 b) >>= fun l' => .ok (.nx (lw.2 l'))
theorem s_mutP {k kb : Nat} {t : V → List V → Hp → VK → Prop} {te : TE} {op : List α → β → Option (List α)} {pl : ρ → M (List α × (List α → ρ))} {f : ρ → M β} {e : Expr} {pos : Pos} (mo : Mut1 C.K t op k kb) (rc : Rcv C sl ms k te pl) (h : PE X e (tBM C.K "list" t te (tCons (tP C.K C.W sl (ms.map downM) f (lv kb)) tNil)))
    (hs : swapsWith e none pos.line X.env = pure false := by rfl) : PS X (.Expr e pos) (tS C (R := R) sl ms ms lm rm rk (fMutP pl op f)) :=
  PS.conv (ps_expr h hs) fun D σ H ⟨r, T, hd, he⟩ => by
    refine rc σ H r T _ hd (ends_mono (ends_bind he) (fun lw _ q p H1 s1 hd1 hx rd => ⟨Or.inl ⟨rfl, _, Or.inl (Or.inl hx.choose_spec)⟩, ?_⟩) fun c q => q)
    refine look_hd hd1 (ends_mono (ends_bind q) (fun b _ q y H2 s2 hd2 => ?_) fun c q => q)
    obtain ⟨l', el, q⟩ := up_ends (ends_bind q)
    obtain ⟨A, A', L, hd4, fc, back⟩ := rd H2 T _ s2 hd2
    obtain ⟨S, xs, F1, F2, sh, hx0, hz, hr, hb⟩ := fc.here hd4
    exact mo H2 p xs lw.1 y b l' _ hx0 hr.len hz ⟨S, F2, sh, hb⟩ el fun xs' chg hz' => q σ _ (back l' _ (hd4.chg fc hx0 chg hz'))
/-- place[j] = e -/
def putL (l : List α) (i : Int) (a : α) : Option (List α) := (ixL l i).map fun _ => l.set (nI l.length i) a
def fPutP (pl : ρ → M (List α × (List α → ρ))) (fj : ρ → M Int) (f : ρ → M (α × ρ)) : ρ → M (Fl ρ R) := fun r => f r >>= fun ar => pl ar.2 >>= fun lw => fj ar.2 >>= fun j => up (putL lw.1 j ar.1) >>= fun l' => .ok (.nx (lw.2 l'))
theorem putL_chg {k : Nat} {l l' : List α} {j : Int} {a : α} {v : V} {H : Hp} {xs : List V} (e : putL l j a = some l') (hl : xs.length = l.length) : ∃ n, ixN xs.length j = some n ∧ ∀ S F1 F2, Reps (fun v a F => TA.rep C.K k S H v a F) xs l F1 → TA.rep C.K k S H v a F2 → (F1 ++ F2).Nodup → ∃ F', F'.Nodup ∧ (∀ q ∈ F', q ∈ F1 ++ F2) ∧ Reps (fun v a F => TA.rep C.K k S H v a F) (xs.set n v) l' F' := by
  unfold putL at e
  obtain ⟨b, eb, e⟩ := Option.map_eq_some_iff.mp e
  obtain ⟨hn, hn2⟩ := ixL_nI eb
  refine ⟨_, hn2 xs hl, fun S F1 F2 r1 r2 nd => ?_⟩
  obtain ⟨w, G1, G, ew, pm, rw', put⟩ := Reps.at r1 hn
  obtain ⟨F3, p3, h3⟩ := put _ v a F2 (fun v a F0 _ q => q) r2
  subst e
  have n1 := List.nodup_append.mp nd
  have n2 := List.nodup_append.mp (pm.nodup_iff.mp n1.1)
  refine ⟨F3, p3.nodup_iff.mpr (List.nodup_append.mpr ⟨n1.2.1, n2.2.1, fun x hx y hy z => n1.2.2 y (pm.mem_iff.mpr (List.mem_append_right _ hy)) x hx z.symm⟩), fun q hq => ?_, h3⟩
  rcases List.mem_append.mp (p3.mem_iff.mp hq) with z | z
  · exact List.mem_append_right _ z
  · exact List.mem_append_left _ (pm.mem_iff.mpr (List.mem_append_right _ z))
theorem s_putP {k : Nat} {to : TE} {pl : ρ → M (List α × (List α → ρ))} {fj : ρ → M Int} {f : ρ → M (α × ρ)} {o i e : Expr} {pos tpos : Pos} (rc : Rcv C sl ms1 k to pl) (he : PE X e (tE C sl ms ms1 f k)) (ho : PE X o to) (hi : PE X i (tP C.K C.W sl (ms1.map downM) fj (lv 0)))
    (ha : ∀ v, assign (.Subscript o i tpos) X.env v = (do
      let ov ← holding [v] (eval o X.env)
      let iv ← holding [v, ov] (eval i X.env)
      standAt tpos
      holding [v, ov, iv] (setItem ov iv v)
      release [v, ov, iv] []) := by intro _; rfl)
    (hs : swapsWithSole [.Subscript o i tpos] e pos.line X.env = pure false := by rfl) (hw : swappedStores [.Subscript o i tpos] e X.env = pure none := by rfl)
    (h1 : (assignEach [.Subscript o i tpos] X.env).map (·.2) = [assign (.Subscript o i tpos) X.env] := by rfl) : PS X (.Assign [.Subscript o i tpos] e pos) (tS C (R := R) sl ms ms1 lm rm rk (fPutP pl fj f)) :=
  PS.conv (ps_asg he (pg_sub ho hi set_list ha) hs hw h1) fun D σ H ⟨r, T, hd, he⟩ => by
    refine ⟨r, T, hd, ends_mono (ends_bind he) (fun ar _ q v H1 hd1 => ?_) fun c q => q⟩
    have hd1' : Hd C ((itm C.K k ar.1 v :: T) ++ Env C.K C.A ms1 (sl ar.2) σ) H1 := hd1
    refine rc σ H1 ar.2 (itm C.K k ar.1 v :: T) _ hd1' (ends_mono (ends_bind q) (fun lw _ q p H2 s2 hd2 hx rd => ?_) fun c q => q)
    refine look_hd hd2 (ends_mono (ends_bind q) (fun j _ q y H3 s3 hd3 => ?_) fun c q => q)
    obtain ⟨l', el, q⟩ := up_ends (ends_bind q)
    have ey := itm_int hd3
    subst ey
    obtain ⟨A, A', L, hd4, fc, back⟩ := rd H3 T _ s3 hd3.drop
    obtain ⟨S, xs, F1, F2, sh, hx0, hz, hr, hb⟩ := fc.here hd4
    obtain ⟨n, en, chg⟩ := putL_chg (C := C) (k := k) (v := v) (H := H3) el hr.len
    refine ⟨p, xs, j, n, rfl, rfl, hx0, en, q σ _ (back l' _ (hd4.chg fc hx0 (fun S F1 F2 _ r1 r2 nd => ?_) (by rw [List.length_set]; exact hz)))⟩
    exact chg S F1 F2 r1 r2 nd
end
end VL
namespace VL
universe u
open PySem PySem.Spec PyProof.Rows L2

/-! ### walking a list of our own whose things are changed on the way -/
def jset {α : Type u} (je : Option Nat) (l : List α) (x : α) : List α := match je with
  | none => l
  | some j => l.set j x
def A2 (A : Nat → Option V) (n : Nat) (x y : V) : Nat → Option V := fun m => if m = n then some x else if m = n + 1 then some y else A m
def tagM (n : Nat) : Mode → Bool
  | .own _ (some m) => m != n && m != n + 1
  | .id m => m != n && m != n + 1
  | _ => true
def tagFree (n : Nat) (ms : List Mode) : Bool := ms.all (tagM n)
theorem slotA_tag {K : PySem.W.Frag} {A : Nat → Option V} {n : Nat} {x y : V} {m : Mode} {s : Slot} {v : Option V} (h : tagM n m = true) : slotA K (A2 A n x y) m s v = slotA K A m s v := by
  cases m with
  | un => rfl
  | vw => rfl
  | own k io =>
    cases io with
    | none => rfl
    | some i =>
      simp only [tagM, Bool.and_eq_true, bne_iff_ne] at h
      have e : A2 A n x y i = A i := by unfold A2; rw [if_neg h.1, if_neg h.2]
      unfold slotA
      simp only [ioAt, e]
  | id i =>
    simp only [tagM, Bool.and_eq_true, bne_iff_ne] at h
    have e : A2 A n x y i = A i := by unfold A2; rw [if_neg h.1, if_neg h.2]
    unfold slotA
    simp only [e]
theorem Env_tag {K : PySem.W.Frag} {A : Nat → Option V} {n : Nat} {x y : V} : ∀ {ms : List Mode} {ss : List Slot} {vs : List (Option V)}, tagFree n ms = true → Env K (A2 A n x y) ms ss vs = Env K A ms ss vs
  | [], [], [], _ => rfl
  | [], [], _ :: _, _ => rfl
  | [], _ :: _, _, _ => rfl
  | _ :: _, [], _, _ => rfl
  | _ :: _, _ :: _, [], _ => rfl
  | m :: ms, s :: ss, v :: vs, h => by
    have h' := Bool.and_eq_true_iff.mp h
    show slotA _ _ m s v :: Env _ _ ms ss vs = slotA _ _ m s v :: Env _ _ ms ss vs
    rw [slotA_tag h'.1, Env_tag (show tagFree n ms = true from h'.2)]
section
variable {C : Ct} {β : Type} [TB : PyTy β]
/-- the list at p: dn stands for its first things, rest for those from j on -/
def WholeA (K : PySem.W.Frag) (k : Nat) (p : Addr) (vs : List V) (j : Nat) (dn rest : List β) : Assn :=
  ⟨fun S H F => ∃ F1 F2, F = p :: (F1 ++ F2) ∧ H p = some (.lst vs) ∧ Reps (fun v a F => TB.rep K k S H v a F) (vs.take j) dn F1 ∧ Reps (fun v a F => TB.rep K k S H v a F) (vs.drop j) rest F2,
   fun ⟨F1, F2, e, h, r1, r2⟩ hs hk => by
    subst e
    exact ⟨F1, F2, rfl, (hk p List.mem_cons_self).trans h, r1.imp fun v a F0 hf q => TB.mono q hs fun q hq => hk q (List.mem_cons_of_mem _ (List.mem_append_left _ (hf q hq))), r2.imp fun v a F0 hf q => TB.mono q hs fun q hq => hk q (List.mem_cons_of_mem _ (List.mem_append_right _ (hf q hq)))⟩,
   fun ⟨F1, F2, e, h, r1, r2⟩ q hq => by
    subst e
    rcases List.mem_cons.mp hq with e | hq
    · rw [e, h]; exact fun z => nomatch z
    · rcases List.mem_append.mp hq with hq | hq
      · exact r1.here (fun v a F0 q => TB.here q) q hq
      · exact r2.here (fun v a F0 q => TB.here q) q hq⟩
def HoleA (K : PySem.W.Frag) (k : Nat) (p : Addr) (vs : List V) (j : Nat) (dn rest : List β) : Assn :=
  ⟨fun S H F => ∃ F1 F2, F = p :: (F1 ++ F2) ∧ H p = some (.lst vs) ∧ Reps (fun v a F => TB.rep K k S H v a F) (vs.take j) dn F1 ∧ Reps (fun v a F => TB.rep K k S H v a F) (vs.drop (j + 1)) rest F2,
   fun ⟨F1, F2, e, h, r1, r2⟩ hs hk => by
    subst e
    exact ⟨F1, F2, rfl, (hk p List.mem_cons_self).trans h, r1.imp fun v a F0 hf q => TB.mono q hs fun q hq => hk q (List.mem_cons_of_mem _ (List.mem_append_left _ (hf q hq))), r2.imp fun v a F0 hf q => TB.mono q hs fun q hq => hk q (List.mem_cons_of_mem _ (List.mem_append_right _ (hf q hq)))⟩,
   fun ⟨F1, F2, e, h, r1, r2⟩ q hq => by
    subst e
    rcases List.mem_cons.mp hq with e | hq
    · rw [e, h]; exact fun z => nomatch z
    · rcases List.mem_append.mp hq with hq | hq
      · exact r1.here (fun v a F0 q => TB.here q) q hq
      · exact r2.here (fun v a F0 q => TB.here q) q hq⟩
theorem Hd.at {A : Assn} {L : List Assn} {H : Hp} {P : Prop} (h : Hd C (A :: L) H) (k : ∀ S F, A.p S H F → P) : P := by
  obtain ⟨S, F, ⟨F1, F2, _, h1, _⟩, _⟩ := h
  exact k S F1 h1
theorem Hd.hole {k : Nat} {p : Addr} {vs : List V} {j : Nat} {dn rest : List β} {b : β} {v : V} {L : List Assn} {H : Hp} (h : Hd C (WholeA C.K k p vs j dn (b :: rest) :: L) H) (hv : vs[j]? = some v) : Hd C (itm C.K k b v :: HoleA C.K k p vs j dn rest :: L) H := by
  obtain ⟨S, F, ⟨Fa, Fb, e, ⟨F1, F2, e1, hp, r1, r2⟩, hL⟩, o⟩ := h
  subst e e1
  obtain ⟨hj, ev⟩ := List.getElem?_eq_some_iff.mp hv
  rw [List.drop_eq_getElem_cons hj, ev] at r2
  obtain ⟨G1, G2, e2, g1, g2⟩ := r2
  subst e2
  have pm : (p :: (F1 ++ (G1 ++ G2)) ++ Fb).Perm (G1 ++ (p :: (F1 ++ G2) ++ Fb)) := by
    show (p :: (F1 ++ (G1 ++ G2) ++ Fb)).Perm (G1 ++ p :: (F1 ++ G2 ++ Fb))
    refine List.Perm.trans (List.Perm.cons p ?_) List.perm_middle.symm
    rw [← List.append_assoc F1, ← List.append_assoc G1, ← List.append_assoc G1]
    exact List.Perm.append_right _ (List.Perm.append_right _ List.perm_append_comm)
  exact ⟨S, _, ⟨G1, _, rfl, g1, p :: (F1 ++ G2), Fb, rfl, ⟨F1, G2, rfl, hp, r1, g2⟩, hL⟩, o.perm pm⟩
theorem Hd.fill {k : Nat} {p : Addr} {vs : List V} {j : Nat} {dn rest : List β} {b : β} {v : V} {L : List Assn} {H : Hp} (h : Hd C (itm C.K k b v :: HoleA C.K k p vs j dn rest :: L) H) (hv : vs[j]? = some v) : Hd C (WholeA C.K k p vs (j + 1) (dn ++ [b]) rest :: L) H := by
  obtain ⟨S, F, ⟨G1, Fa, e, g1, Fb, Fc, e1, ⟨F1, F2, e2, hp, r1, r2⟩, hL⟩, o⟩ := h
  subst e e1 e2
  have pm : (G1 ++ (p :: (F1 ++ F2) ++ Fc)).Perm (p :: ((F1 ++ G1) ++ F2) ++ Fc) := by
    show (G1 ++ p :: (F1 ++ F2 ++ Fc)).Perm (p :: (F1 ++ G1 ++ F2 ++ Fc))
    refine List.perm_middle.trans (List.Perm.cons p ?_)
    rw [← List.append_assoc G1, ← List.append_assoc G1]
    exact List.Perm.append_right _ (List.Perm.append_right _ List.perm_append_comm)
  refine ⟨S, _, ⟨p :: ((F1 ++ G1) ++ F2), Fc, rfl, ⟨F1 ++ G1, F2, rfl, hp, ?_, r2⟩, hL⟩, o.perm pm⟩
  rw [List.take_add_one, hv]
  exact r1.append ⟨G1, [], (List.append_nil _).symm, g1, rfl⟩
/-- the walk's own turns -/
structure GoM (J : It) (g : TG) (p : Addr) (je : Option Nat) (i : Nat) : Prop where
  stop : ∀ m H vs, H p = some (.lst vs) → vs.length ≤ m → J.stop m H
  go : ∀ m H vs, H p = some (.lst vs) → m < vs.length → J.go m H
  yld : ∀ m H vs v x H' (σ : L2.St) (Q : L2.St → Hp → Prop), H p = some (.lst vs) → vs[m]? = some v → J.yld m H x H' → (Sub H H' → Q ((jset je σ (some (.int m))).set i (some v)) H') → g x σ H' Q
theorem goM_list {K : PySem.W.Frag} {p : Addr} {i : Nat} : GoM (Itl K p) (gName i) p none i where
  stop m H vs h hm := ⟨vs, .inl (.inl h), hm⟩
  go m H vs h hm := ⟨vs, vs[m], .inl (.inl h), List.getElem?_eq_getElem hm⟩
  yld m H vs v x H' σ Q h hv hy q := by
    obtain ⟨e, hx⟩ := hy
    subst e
    have e2 := hx vs (.inl (.inl h))
    rw [hv] at e2
    cases e2
    exact q (Sub.refl _)
theorem goM_enum {K : PySem.W.Frag} {p : Addr} {j i : Nat} : GoM (Ite K p) (gPair K j i) p (some j) i where
  stop m H vs h hm := ⟨vs, .inl (.inl h), hm⟩
  go m H vs h hm := ⟨vs, vs[m], .inl (.inl h), List.getElem?_eq_getElem hm⟩
  yld m H vs v x H' σ Q h hv hy q := by
    obtain ⟨T, y, e1, hT, e2, hx⟩ := hy
    subst e1 e2
    have e2 := hx vs (.inl (.inl h))
    rw [hv] at e2
    cases e2
    exact ⟨T, [.int (m : Nat), v], rfl, .inl (.inl upd_same), rfl, .int (m : Nat), [v], rfl, v, [], rfl, rfl, q (Sub.new hT)⟩
end
def loopM {ρ R β : Type} (setl : List β → ρ → ρ) (set : Int → β → ρ → ρ) (getb : ρ → β) (body : ρ → M (Fl ρ R)) : List β → List β → ρ → M (Fl ρ R)
  | dn, [], r => .ok (.nx (setl dn r))
  | dn, b :: l, r => body (set (dn.length : Int) b r) >>= fun
    | .nx r' => loopM setl set getb body (dn ++ [getb r']) l r'
    | .ct r' => loopM setl set getb body (dn ++ [getb r']) l r'
    | .bk r' => .ok (.nx (setl (dn ++ getb r' :: l) r'))
    | .rt a r' => .ok (.rt a r')
def fForM {ρ R β : Type} (get : ρ → List β) (setl : List β → ρ → ρ) (set : Int → β → ρ → ρ) (getb : ρ → β) (body : ρ → M (Fl ρ R)) : ρ → M (Fl ρ R) := fun r => loopM setl set getb body [] (get r) r
def bodyM (lm : List Mode) (je : Option Nat) (i ix k n : Nat) : List Mode := ((jset je (lm.set ix .un) (lv 0)).set i (.own k (some n))).set ix (.id (n + 1))
section
variable {X : Cx} {C : Ct} {ρ R : Type} [TR : PyTy R] {sl : ρ → List Slot} {lm lm' rm bm : List Mode} {rk : Nat} {tg iter : Expr} {body : List Stmt} {pos : Pos} {β : Type} [TB : PyTy β]
theorem jset_len {α : Type u} (je : Option Nat) (l : List α) (x : α) : (jset je l x).length = l.length := by
  cases je with
  | none => rfl
  | some j => exact List.length_set ..
theorem Hd.withA {l : List Assn} {H : Hp} (A : Nat → Option V) (h : Hd C l H) : Hd ⟨C.K, C.H0, C.S0, C.P, A, C.W⟩ l H := by
  obtain ⟨S, F, st, o⟩ := h
  exact ⟨S, F, st, ⟨o.nd, o.dj, o.sh, o.s0, o.fr, o.nw⟩⟩
theorem Hd.fromA {l : List Assn} {H : Hp} {A : Nat → Option V} (h : Hd ⟨C.K, C.H0, C.S0, C.P, A, C.W⟩ l H) : Hd C l H := by
  obtain ⟨S, F, st, o⟩ := h
  exact ⟨S, F, st, ⟨o.nd, o.dj, o.sh, o.s0, o.fr, o.nw⟩⟩
theorem pss_all {ι : Type} {body : List Stmt} {t : ι → TS} (h : ∀ A, PSs X body (t A)) : PSs X body (fun D σ H => ∃ A, t A D σ H) := ⟨fun pins s σ H D I ⟨A, q⟩ => (h A).run pins s σ H D I q⟩
theorem s_forM {g : TG} {wi : TI} {i ix k n : Nat} {io : Option Nat} {je : Option Nat} {get : ρ → List β} {setl : List β → ρ → ρ} {set : Int → β → ρ → ρ} {getb : ρ → β} {f : ρ → M (Fl ρ R)} (hp : PassesOwn (model X.prog X.w) X.A X.env X.xe) (hc : X.calm = true)
    (hi : PI X tg iter wi) (hw : ∀ σ H p (vs : List V) RR, σ[ix]? = some (some (.ref p)) → H p = some (.lst vs) → (∀ J, GoM J g p je i → RR J H) → wi σ H RR) (hg : PG X tg g)
    (hb : ∀ A, PSs X body (tS ⟨C.K, C.H0, C.S0, C.P, A, C.W⟩ sl bm bm bm rm rk f))
    (hix : lm[ix]? = some (.own (k + 1) io)) (hbm : bm = bodyM lm je i ix k n := by rfl) (ht : tagFree n (lm.set ix .un) = true := by rfl) (ht2 : tagFree n rm = true := by rfl) (hwk : wk ((bm.set ix .un).set i .un) (lm.set ix .un) = true := by rfl) (hne : i ≠ ix := by decide) (hje : je ≠ some ix ∧ je ≠ some i := by decide) (hil : i < lm.length := by decide)
    (hgl : ∀ r, (sl r)[ix]? = some ⟨get r⟩) (hgb : ∀ r, (sl r)[i]? = some ⟨getb r⟩) (hset : ∀ m b r, sl (set m b r) = (jset je (sl r) (Slot.mk m)).set i (Slot.mk b)) (hsl : ∀ l r, sl (setl l r) = (sl r).set ix ⟨l⟩) (hs : ∀ x, foldedSetIterable iter X.env x = pure x := by intro _; rfl) :
    PS X (.For tg iter body [] pos) (tS C sl lm lm lm' rm rk (fForM get setl set getb f)) :=
  PS.conv (ps_for hp hc hi hg (pss_all hb) hs) fun D σ H ⟨r, T, hd, he⟩ => by
    subst hbm
    obtain ⟨v0, ev0, hd0⟩ := hd.open hix (hgl r)
    obtain ⟨p, vs, e0, hp0, hz, io0, hdW⟩ : ∃ p vs, v0 = some (.ref p) ∧ H p = some (.lst vs) ∧ vs.length ≤ line ∧ ioAt C.A io (.ref p) ∧ Hd C (WholeA C.K k p vs 0 [] (get r) :: (T ++ Env C.K C.A (lm.set ix .un) (sl r) σ)) H := by
      obtain ⟨S, F, ⟨F1, F2, e, ⟨x, ex, hio, p, vs, F', ep, hn, hz, hr⟩, st⟩, o⟩ := hd0
      subst ex ep
      have eF : F1 = p :: F' := hn.2
      subst eF
      exact ⟨p, vs, rfl, hn.1, hz, hio, S, F, ⟨_, F2, e, ⟨[], F', by rw [List.nil_append], hn.1, by rw [List.take_zero]; rfl, by rw [List.drop_zero]; exact hr⟩, st⟩, o⟩
    subst e0
    refine hw σ H p vs _ ev0 hp0 fun J G => ?_
    let fin : M (Fl ρ R) → Prop := fun m => ends m (fun
      | .nx r' => ∀ σ' H', Hd C (T ++ Env C.K C.A lm (sl r') σ') H' → D.nx σ' H'
      | .rt a r' => ∀ v σ' H', Hd C (itm C.K rk a v :: Env C.K C.A rm (sl r') σ') H' → D.rt v H'
      | .bk r' => ∀ σ' H', Hd C (T ++ Env C.K C.A lm' (sl r') σ') H' → D.bk σ' H'
      | .ct r' => ∀ σ' H', Hd C (T ++ Env C.K C.A lm' (sl r') σ') H' → D.ct σ' H') (fun c => ∀ H', Fr C H' → C.W H' c)
    let W : Nat → Nat → L2.St → Hp → Prop := fun j m σ' H2 => m = vs.length - j ∧ j ≤ vs.length ∧ σ'[ix]? = some (some (.ref p)) ∧ ∃ r' dn rest, dn.length = j ∧ Hd C (WholeA C.K k p vs j dn rest :: (T ++ Env C.K C.A (lm.set ix .un) (sl r') σ')) H2 ∧ fin (loopM setl set getb f dn rest r')
    -- the list is whole again
    have back : ∀ {σ' : L2.St} {H' : Hp} {r' : ρ} {j : Nat} {dn rest : List β}, σ'[ix]? = some (some (.ref p)) → Hd C (WholeA C.K k p vs j dn rest :: (T ++ Env C.K C.A (lm.set ix .un) (sl r') σ')) H' → Hd C (T ++ Env C.K C.A lm (sl (setl (dn ++ rest) r')) σ') H' := by
      intro σ' H' r' j dn rest es h
      have h2 : Hd C (slotA C.K C.A (.own (k + 1) io) ⟨dn ++ rest⟩ (some (.ref p)) :: (T ++ Env C.K C.A (lm.set ix .un) (sl r') σ')) H' := h.imp fun S F ⟨F1, F2, e, hp', r1, r2⟩ => by
        refine ⟨.ref p, rfl, io0, p, vs, F1 ++ F2, rfl, ⟨hp', e⟩, hz, ?_⟩
        have := r1.append r2
        rw [List.take_append_drop] at this
        exact this
      have hl := (h2.drop).lens
      have h3 := Hd.close (m0 := .un) (i := ix) h2 (List.getElem?_eq_some_iff.mp es).1
      rw [show σ'.set ix (some (.ref p)) = σ' from by
        obtain ⟨a, b⟩ := List.getElem?_eq_some_iff.mp es
        rw [← b]
        exact List.set_getElem_self a, List.set_set, show lm.set ix (.own (k + 1) io) = lm from by
        obtain ⟨a, b⟩ := List.getElem?_eq_some_iff.mp hix
        rw [← b]
        exact List.set_getElem_self a, ← hsl] at h3
      exact h3
    refine ⟨W, ⟨vs.length, by simp, Nat.zero_le _, ev0, r, [], get r, rfl, hdW, he⟩, ?_⟩
    rintro j m σ2 H2 ⟨rfl, hj, es2, r2, dn, rest, edn, hd2, q2⟩
    have hp2 : H2 p = some (.lst vs) := hd2.at fun S F ⟨_, _, _, h, _⟩ => h
    have hlen : dn.length + rest.length = vs.length := hd2.at fun S F ⟨F1, F2, e, h, r1, r2⟩ => by
      have a := r1.len
      have b := r2.len
      rw [List.length_take] at a
      rw [List.length_drop] at b
      omega
    cases rest with
    | nil =>
      have q3 : fin (.ok (.nx (setl dn r2))) := q2
      refine .inl ⟨G.stop j H2 vs hp2 (by simp at hlen; omega), q3 σ2 H2 ?_⟩
      have := back es2 hd2
      rw [List.append_nil] at this
      exact this
    | cons b rest =>
      rw [List.length_cons] at hlen
      have hlt : j < vs.length := by omega
      have hv : vs[j]? = some vs[j] := List.getElem?_eq_getElem hlt
      refine .inr ⟨G.go j H2 vs hp2 hlt, fun σ' H' => ∃ m', m' < vs.length - j ∧ W (j + 1) m' σ' H', fun σ' H' h => h, fun x H3 hy => ?_⟩
      refine G.yld j H2 vs vs[j] x H3 σ2 _ hp2 hv hy fun s23 => ?_
      have hd3 := (hd2.grow s23).hole hv
      have hl2 : lm.length = σ2.length := by
        have := hd3.drop.drop.lens
        rw [List.length_set] at this
        exact this.1
      have hl3 : (sl r2).length = σ2.length := hd3.drop.drop.lens.2
      -- the turn's own context
      let A' := A2 C.A n vs[j] (.ref p)
      have hd4 := hd3.withA A'
      have e4 : Env C.K C.A (lm.set ix .un) (sl r2) σ2 = Env C.K A' (lm.set ix .un) (sl r2) σ2 := (Env_tag ht).symm
      rw [e4] at hd4
      have hix2 : ix < lm.length := (List.getElem?_eq_some_iff.mp hix).1
      -- the turn's number
      have hd5 : Hd ⟨C.K, C.H0, C.S0, C.P, A', C.W⟩ (itm C.K k b vs[j] :: HoleA C.K k p vs j dn rest :: (T ++ Env C.K A' (jset je (lm.set ix .un) (lv 0)) (jset je (sl r2) (Slot.mk (j : Int))) (jset je σ2 (some (.int j))))) H3 := by
        cases je with
        | none => exact hd4
        | some jj =>
          by_cases hjl : jj < σ2.length
          · have h1 : Hd ⟨C.K, C.H0, C.S0, C.P, A', C.W⟩ (itm C.K 0 (j : Int) (.int j) :: ((itm C.K k b vs[j] :: HoleA C.K k p vs j dn rest :: T) ++ Env C.K A' (lm.set ix .un) (sl r2) σ2)) H3 := by
              obtain ⟨S, F, st, o⟩ := hd4
              exact ⟨S, F, ⟨[], F, rfl, Scal.scal.mpr ⟨rfl, rfl⟩, st⟩, o⟩
            exact Hd.close' (i := jj) h1 hjl
          · show Hd _ (itm C.K k b vs[j] :: HoleA C.K k p vs j dn rest :: (T ++ Env C.K A' ((lm.set ix .un).set jj (lv 0)) ((sl r2).set jj (Slot.mk (j : Int))) (σ2.set jj (some (.int j))))) H3
            have a1 : (lm.set ix .un).set jj (lv 0) = lm.set ix .un := List.set_eq_of_length_le (by rw [List.length_set]; omega)
            have a2 : (sl r2).set jj (Slot.mk (j : Int)) = sl r2 := List.set_eq_of_length_le (by omega)
            have a3 : σ2.set jj (some (.int j)) = σ2 := List.set_eq_of_length_le (by omega)
            rw [a1, a2, a3]
            exact hd4
      -- the thing
      have hd6 : Hd ⟨C.K, C.H0, C.S0, C.P, A', C.W⟩ ((HoleA C.K k p vs j dn rest :: T) ++ Env C.K A' ((jset je (lm.set ix .un) (lv 0)).set i (.own k (some n))) (sl (set (dn.length : Int) b r2)) ((jset je σ2 (some (.int j))).set i (some vs[j]))) H3 := by
        rw [hset, edn]
        refine Hd.close (m0 := .un) (C := ⟨C.K, C.H0, C.S0, C.P, A', C.W⟩) (T := HoleA C.K k p vs j dn rest :: T) ?_ (by rw [jset_len]; omega)
        exact hd5.imp fun S F q => ⟨vs[j], rfl, by show A2 C.A n vs[j] (.ref p) n = _; unfold A2; rw [if_pos rfl], q⟩
      -- where the list stands
      let σ3 := (jset je σ2 (some (.int j))).set i (some vs[j])
      have es3 : σ3[ix]? = some (some (.ref p)) := by
        show ((jset je σ2 (some (.int j))).set i (some vs[j]))[ix]? = _
        rw [List.getElem?_set_ne hne]
        cases je with
        | none => exact es2
        | some jj =>
          show (σ2.set jj _)[ix]? = _
          rw [List.getElem?_set_ne (fun e => hje.1 (by rw [e]))]
          exact es2
      have hd7 : Hd ⟨C.K, C.H0, C.S0, C.P, A', C.W⟩ ((HoleA C.K k p vs j dn rest :: T) ++ Env C.K A' (bodyM lm je i ix k n) (sl (set (dn.length : Int) b r2)) σ3) H3 := by
        obtain ⟨hlm, hls⟩ := hd6.lens
        have hi3 : ix < σ3.length := (List.getElem?_eq_some_iff.mp es3).1
        have h1 : Hd ⟨C.K, C.H0, C.S0, C.P, A', C.W⟩ (slotA C.K A' (.id (n + 1)) ((sl (set (dn.length : Int) b r2))[ix]'(by have := hls; show ix < _; rw [this]; exact hi3)) (some (.ref p)) :: ((HoleA C.K k p vs j dn rest :: T) ++ Env C.K A' ((jset je (lm.set ix .un) (lv 0)).set i (.own k (some n))) (sl (set (dn.length : Int) b r2)) σ3)) H3 := by
          obtain ⟨S, F, st, o⟩ := hd6
          exact ⟨S, F, ⟨[], F, rfl, ⟨rfl, .ref p, rfl, by show A2 C.A n vs[j] (.ref p) (n + 1) = _; unfold A2; rw [if_neg (by omega), if_pos rfl]⟩, st⟩, o⟩
        have h2 := Hd.close (m0 := .un) (C := ⟨C.K, C.H0, C.S0, C.P, A', C.W⟩) (T := HoleA C.K k p vs j dn rest :: T) (i := ix) h1 hi3
        rw [List.set_getElem_self, show σ3.set ix (some (.ref p)) = σ3 from by
          obtain ⟨a, b⟩ := List.getElem?_eq_some_iff.mp es3
          rw [← b]
          exact List.set_getElem_self a] at h2
        exact h2
      have q3 : fin (f (set (dn.length : Int) b r2) >>= fun
        | .nx r' => loopM setl set getb f (dn ++ [getb r']) rest r'
        | .ct r' => loopM setl set getb f (dn ++ [getb r']) rest r'
        | .bk r' => .ok (.nx (setl (dn ++ getb r' :: rest) r'))
        | .rt a r' => .ok (.rt a r')) := q2
      have next : ∀ (r' : ρ) (σ' : L2.St) (H' : Hp), Hd ⟨C.K, C.H0, C.S0, C.P, A', C.W⟩ ((HoleA C.K k p vs j dn rest :: T) ++ Env C.K A' (bodyM lm je i ix k n) (sl r') σ') H' → σ'[ix]? = some (some (.ref p)) ∧ Hd C (WholeA C.K k p vs (j + 1) (dn ++ [getb r']) rest :: (T ++ Env C.K C.A (lm.set ix .un) (sl r') σ')) H' := by
        intro r' σ' H' h
        have hb1 : (bodyM lm je i ix k n)[ix]? = some (.id (n + 1)) := by
          unfold bodyM
          rw [List.getElem?_set_self (by rw [List.length_set, jset_len, List.length_set]; exact hix2)]
        obtain ⟨w, ew, h1⟩ := Hd.open h hb1 (hgl r')
        have hw2 : w = some (.ref p) := h1.at fun S F ⟨_, x, ex, ax⟩ => by
          have ax' : A2 C.A n vs[j] (.ref p) (n + 1) = some x := ax
          unfold A2 at ax'
          rw [if_neg (by omega), if_pos rfl] at ax'
          cases ax'
          exact ex
        subst hw2
        have h2 := h1.drop
        have hb2 : ((bodyM lm je i ix k n).set ix .un)[i]? = some (.own k (some n)) := by
          unfold bodyM
          rw [List.set_set, List.getElem?_set_ne (fun e => hne e.symm), List.getElem?_set_self (by rw [jset_len, List.length_set]; exact hil)]
        obtain ⟨w2, ew2, h3⟩ := Hd.open h2 hb2 (hgb r')
        have hw3 : w2 = some vs[j] := h3.at fun S F ⟨x, ex, ax, _⟩ => by
          have ax' : A2 C.A n vs[j] (.ref p) n = some x := ax
          unfold A2 at ax'
          rw [if_pos rfl] at ax'
          cases ax'
          exact ex
        subst hw3
        have h4 : Hd ⟨C.K, C.H0, C.S0, C.P, A', C.W⟩ (itm C.K k (getb r') vs[j] :: ((HoleA C.K k p vs j dn rest :: T) ++ Env C.K A' (((bodyM lm je i ix k n).set ix .un).set i .un) (sl r') σ')) H' := h3.imp fun S F ⟨x, ex, _, rr⟩ => by
          cases ex
          exact rr
        have h5 := Hd.weak (C := ⟨C.K, C.H0, C.S0, C.P, A', C.W⟩) (T := itm C.K k (getb r') vs[j] :: HoleA C.K k p vs j dn rest :: T) h4 hwk
        rw [show Env C.K A' (lm.set ix .un) (sl r') σ' = Env C.K C.A (lm.set ix .un) (sl r') σ' from Env_tag ht] at h5
        exact ⟨ew, (Hd.fromA h5).fill hv⟩
      refine ⟨A', set (dn.length : Int) b r2, HoleA C.K k p vs j dn rest :: T, hd7, ends_mono (ends_bind q3) (fun fl efl q4 => ?_) fun c q => q⟩
      cases fl with
      | nx r' => exact fun σ' H' h' => ⟨vs.length - (j + 1), by omega, rfl, by omega, (next r' σ' H' h').1, r', _, rest, by simp [edn], (next r' σ' H' h').2, q4⟩
      | ct r' => exact fun σ' H' h' => ⟨vs.length - (j + 1), by omega, rfl, by omega, (next r' σ' H' h').1, r', _, rest, by simp [edn], (next r' σ' H' h').2, q4⟩
      | bk r' =>
        intro σ' H' h'
        refine q4 σ' H' ?_
        have := back (next r' σ' H' h').1 (next r' σ' H' h').2
        rw [List.append_assoc] at this
        exact this
      | rt a r' =>
        intro v σ' H' h'
        refine q4 v σ' H' ?_
        rw [show Env C.K A' rm (sl r') σ' = Env C.K C.A rm (sl r') σ' from Env_tag ht2] at h'
        exact Hd.fromA h'
theorem hw_list {K : PySem.W.Frag} {i ix : Nat} : ∀ (σ : L2.St) (H : Hp) (p : Addr) (vs : List V) (RR : It → Hp → Prop), σ[ix]? = some (some (.ref p)) → H p = some (.lst vs) → (∀ J, GoM J (gName i) p none i → RR J H) → iList K (tVar ix) σ H RR :=
  fun σ H p vs RR e h q => ⟨.ref p, e, p, rfl, ⟨vs, .inl (.inl h)⟩, q _ goM_list⟩
theorem hw_enum {K : PySem.W.Frag} {i j ix : Nat} : ∀ (σ : L2.St) (H : Hp) (p : Addr) (vs : List V) (RR : It → Hp → Prop), σ[ix]? = some (some (.ref p)) → H p = some (.lst vs) → (∀ J, GoM J (gPair K j i) p (some j) i → RR J H) → iEnum K (tCons (tVar ix) tNil) σ H RR :=
  fun σ H p vs RR e h q => ⟨.ref p, e, p, vs, rfl, .inl (.inl h), q _ goM_enum⟩
/-- name op= e, of whole numbers -/
theorem s_aug {i : Nat} {x : Str} {e : Expr} {op : Operator} {pos' : Pos} {get : ρ → Int} {set : Int → ρ → ρ} {f : ρ → M Int} {fn : Int → Int → Int} {opI : Int → Int → Option Int} {ms : List Mode} (hN : X.N.Nodup) (hxi : X.N[i]? = some x) (hx : Loc X.env.scope x) (ho : PIp X op (ipI fn)) (he : PE X e (tP C.K C.W sl (ms.map downM) f (lv 0))) (hop : ∀ a b, opI a b = some (fn a b)) (hm : ms[i]? = some (lv 0)) (hg : ∀ r, (sl r)[i]? = some ⟨get r⟩) (hset : ∀ a r, sl (set a r) = (sl r).set i (Slot.mk a))
    (hf : X.fn x = true ∨ X.env.scope.names.lookup x = some .local := by first | exact .inl rfl | exact .inr rfl | assumption) : PS X (.AugAssign (.Name x pos') op e pos) (tS C (R := R) sl ms ms lm rm rk (fSet set (lift (e2 opI (eV get) f)))) :=
  PS.conv (ps_aug hN hxi hx he ho hf) fun D σ H ⟨r, T, hd, he⟩ => by
    obtain ⟨v, ev, h1⟩ := hd.open hm (hg r)
    have hv : v = some (.int (get r)) := h1.at fun S F ⟨x, ex, _, rr⟩ => by
      rw [ex, rep_scal rr]
      rfl
    subst hv
    refine ⟨.int (get r), ev, look_hd hd (ends_mono (ends_bind (ends_bind (ends_bind he))) (fun b _ q v H' s' hd' => ?_) fun c q => q)⟩
    rw [hop] at q
    have ey := itm_int hd'
    subst ey
    refine ⟨get r, b, rfl, rfl, q _ H' ?_⟩
    have h2 : Hd C (itm C.K 0 (fn (get r) b) (.int (fn (get r) b)) :: (T ++ Env C.K C.A ms (sl r) σ)) H' := by
      obtain ⟨S, F, st, o⟩ := hd'.drop
      exact ⟨S, F, ⟨[], F, rfl, Scal.scal.mpr ⟨rfl, rfl⟩, st⟩, o⟩
    have h3 := Hd.close' (i := i) h2 (List.getElem?_eq_some_iff.mp ev).1
    rw [show ms.set i (lv 0) = ms from by
      obtain ⟨a, b⟩ := List.getElem?_eq_some_iff.mp hm
      rw [← b]
      exact List.set_getElem_self a] at h3
    show Hd C (T ++ Env C.K C.A ms (sl (set (fn (get r) b) r)) (σ.set i (some (.int (fn (get r) b))))) H'
    rw [hset]
    exact h3
end
end VL
namespace VL
universe u
open PySem PySem.Spec PyProof.Rows L2

/-! ### len(set(xs)) -/
def rLenSet (w : World) : List V → Hp → VK → Prop := fun xs H Q => ∃ (a : Addr) (S : Int → Bool) (n : Nat), xs = [.ref a] ∧ H a = some (SetO w a S n) ∧ Q (.int n) H
theorem call_lenSet {X : Cx} : CallR X (.builtin "len") (rLenSet X.w) := by
  intro pins s σ H xs us Q I r h
  obtain ⟨a, S, n, rfl, ha, q⟩ := h
  rw [Vals.ref1 r]
  obtain ⟨o, es, ep, t, ho, hex, hd, _, _, _, few, hf, hn, _⟩ := setO_get I ha
  have hb : scanBound = 4096 := rfl
  refine call_len_set ho hex hd hf (by omega) ⟨.int n, H, I.tok _, ⟨_, by rw [hn]⟩, q⟩
def lenSetI (l : List Int) : Option Int := if l.length < 4000 then some ((ssort l).length : Int) else none
section
variable {X : Cx} {W : Hp → String → Prop} {ρ : Type} {sl : ρ → List Slot} {ms : List Mode} {a e : Expr} {pos p pos2 p2 : Pos} {kd : Mode}
theorem pv_lenSet {f : ρ → M (List Int)} (hc : X.calm = true) (hg : Gl X "len") (hm : X.mg "len" = none) (hg2 : Gl X "set") (hm2 : X.mg "set" = none) (ha : PE X a (tP X.K W sl ms f kd)) (hk : kd ≠ .un := by decide)
    (he : starEach [a] X.env = (false, eval a X.env) :: starEach [] X.env := by rfl) (hpl : (backTo pos2 (starEach [] X.env)).any (·.1) = false := by rfl) (he2 : starEach [.Call (.Name "set" p2) [a] [] pos2] X.env = (false, eval (.Call (.Name "set" p2) [a] [] pos2) X.env) :: starEach [] X.env := by rfl) (hpl2 : (backTo pos (starEach [] X.env)).any (·.1) = false := by rfl) :
    PE X (.Call (.Name "len" p) [.Call (.Name "set" p2) [a] [] pos2] [] pos) (tP X.K W sl ms (e1 lenSetI f) (lv 0)) :=
  PE.conv (pe_callB call_lenSet hg hm boot_len (pa_cons (pe_callTy (cr_setI hc) hg2 hm2 boot_set (pa_cons ha pa_nil he) (by decide) (by decide) he hpl) pa_nil he2) (by decide) (by decide) he2 hpl2) fun σ H Q ⟨r, S, hs, hv, q⟩ => ⟨r, S, hs, hv, ends_mono (ends_bind q) (fun l el q v S1 H1 F x g => by
    obtain ⟨c, ec, q⟩ := up_ends q
    unfold lenSetI at ec
    split at ec
    · rename_i few
      cases ec
      obtain ⟨p, e1, n, z⟩ := rep_list (g.look x.sh hk)
      subst e1
      refine ⟨p, l, rfl, .inl (.inl n), by omega, fun p2 hp => ⟨p2, _, (ssort l).length, rfl, upd_same, ?_⟩⟩
      have x0 := x.share g.here
      have x1 : Ext S H (add S1 H1 F) (L2.upd H1 p2 (SetO X.w p2 (fun j => decide (j ∈ l)) (ssort l).length)) [] := ⟨x0.hh.trans (Sub.new hp), x0.ss, x0.sh.trans (Sub.new hp), x0.nw, x0.fr, x0.nd⟩
      exact q _ _ _ _ x1 (Scal.scal.mpr ⟨rfl, rfl⟩)
    · cases ec) fun c q => q⟩
end
end VL
namespace VL
universe u
open PySem PySem.Spec PyProof.Rows L2

/-! ### expressions whose parts may change what is held -/
section
variable {ρ α β γ : Type}
def E2 (op : α → β → Option γ) (f : ρ → M (α × ρ)) (g : ρ → M (β × ρ)) : ρ → M (γ × ρ) := fun r => f r >>= fun ar => g ar.2 >>= fun br => up (op ar.1 br.1) >>= fun c => .ok (c, br.2)
def E1 (op : α → Option γ) (f : ρ → M (α × ρ)) : ρ → M (γ × ρ) := fun r => f r >>= fun ar => up (op ar.1) >>= fun c => .ok (c, ar.2)
end
section
variable {X : Cx} {C : Ct} {ρ : Type} {sl : ρ → List Slot} {ms ms1 ms2 : List Mode} {a b e : Expr} {pos : Pos} {α β γ : Type} [TA : PyTy α] [TB : PyTy β] [TC : PyTy γ]
theorem Hd.look1 {k : Nat} {x : α} {v : V} {L : List Assn} {H : Hp} (h : Hd C (itm C.K k x v :: L) H) : TA.rep C.K 0 H H v x [] := by
  obtain ⟨S, F, ⟨F1, F2, _, h1, _⟩, o⟩ := h
  exact look_at TA h1 o.sh
theorem Hd.new {k : Nat} {x : α} {v : V} {L : List Assn} {H H' : Hp} (h : Hd C L H) (n : New C.K k x H v H') : Hd C (itm C.K k x v :: L) H' := by
  obtain ⟨S, F, st, o⟩ := h
  obtain ⟨F', y, g⟩ := n.got o.sh
  exact Hd.ext st o y g
theorem ve_2 {t : R2} {op : α → β → Option γ} {k ka kb : Nat} {f : ρ → M (α × ρ)} {g : ρ → M (β × ρ)} (hp : Op2 C.K t op k) (h : PE X e (tOp t (tE C sl ms ms1 f ka) (tE C sl ms1 ms2 g kb))) : PE X e (tE C sl ms ms2 (E2 op f g) k) :=
  PE.conv h fun σ H Q ⟨r, T, hd, he⟩ => ⟨r, T, hd, ends_mono (ends_bind he) (fun ar _ q v H1 hd1 => ⟨ar.2, itm C.K ka ar.1 v :: T, hd1, ends_mono (ends_bind q) (fun br _ q u H2 hd2 => by
    obtain ⟨z, ez, q⟩ := up_ends (ends_bind q)
    have h1 : Hd C (itm C.K ka ar.1 v :: (T ++ Env C.K C.A ms2 (sl br.2) σ)) H2 := hd2.drop
    exact hp H2 v u _ _ z Q h1.look1 hd2.look1 ez fun w' H3 hn => q w' H3 (h1.drop.new hn)) fun c q => q⟩) fun c q => q⟩
theorem ve_1 {t : V → Hp → VK → Prop} {op : α → Option γ} {k ka : Nat} {f : ρ → M (α × ρ)} (hp : Op1 C.K t op k) (h : PE X e (tUn t (tE C sl ms ms1 f ka))) : PE X e (tE C sl ms ms1 (E1 op f) k) :=
  PE.conv h fun σ H Q ⟨r, T, hd, he⟩ => ⟨r, T, hd, ends_mono (ends_bind he) (fun ar _ q v H1 hd1 => by
    obtain ⟨z, ez, q⟩ := up_ends (ends_bind q)
    exact hp H1 v _ z Q hd1.look1 ez fun w' H3 hn => q w' H3 (hd1.drop.new hn)) fun c q => q⟩
theorem ve_bin {o : Operator} {t : R2} {op : α → β → Option γ} {k ka kb : Nat} {f : ρ → M (α × ρ)} {g : ρ → M (β × ρ)} (ho : OpR X (binaryOp o) t) (hp : Op2 C.K t op k) (ha : PE X a (tE C sl ms ms1 f ka)) (hb : PE X b (tE C sl ms1 ms2 g kb)) : PE X (.BinOp a o b pos) (tE C sl ms ms2 (E2 op f g) k) := ve_2 hp (pe_op ho ha hb)
theorem ve_cmp {o : CmpOp} {t : R2} {op : α → β → Option γ} {k ka kb : Nat} {f : ρ → M (α × ρ)} {g : ρ → M (β × ρ)} (ho : OpR X (compareOp o) t) (hp : Op2 C.K t op k) (ha : PE X a (tE C sl ms ms1 f ka)) (hb : PE X b (tE C sl ms1 ms2 g kb)) (hm : behindInMarks o b = false) : PE X (.Compare a [o] [b] pos) (tE C sl ms ms2 (E2 op f g) k) := ve_2 hp (pe_cmpR ho ha hb hm)
theorem ve_un {o : UnaryOp} {t : V → Hp → VK → Prop} {op : α → Option γ} {k ka : Nat} {f : ρ → M (α × ρ)} (ho : UnR X (unaryOp o) t) (hp : Op1 C.K t op k) (ha : PE X a (tE C sl ms ms1 f ka)) : PE X (.UnaryOp o a pos) (tE C sl ms ms1 (E1 op f) k) := ve_1 hp (pe_un ho ha)
theorem vt_cmp {o : CmpOp} {t : R2} {op : α → β → Option Bool} {ka kb : Nat} {f : ρ → M (α × ρ)} {g : ρ → M (β × ρ)} (ho : OpR X (compareOp o) t) (hp : Op2 C.K t op 0) (ha : PE X a (tE C sl ms ms1 f ka)) (hb : PE X b (tE C sl ms1 ms2 g kb)) (hm : behindInMarks o b = false) : PT X (.Compare a [o] [b] pos) (tET C sl ms ms2 (E2 op f g)) :=
  PT.conv (pt_cmpR ho ha hb hm) fun σ H Q ⟨r, T, hd, he⟩ => ⟨r, T, hd, ends_mono (ends_bind he) (fun ar _ q v H1 hd1 => ⟨ar.2, itm C.K ka ar.1 v :: T, hd1, ends_mono (ends_bind q) (fun br _ q u H2 hd2 => by
    obtain ⟨z, ez, q⟩ := up_ends (ends_bind q)
    have h1 : Hd C (itm C.K ka ar.1 v :: (T ++ Env C.K C.A ms2 (sl br.2) σ)) H2 := hd2.drop
    refine hp H2 v u _ _ z _ h1.look1 hd2.look1 ez fun w' H3 hn => ?_
    have h3 := h1.drop.new hn
    exact ⟨z, rep_scal h3.look1, q H3 h3.drop⟩) fun c q => q⟩) fun c q => q⟩
end
end VL
namespace VL
universe u
open PySem PySem.Spec PyProof.Rows L2

/-! ### calls that change lists that they are handed -/
def pureA (p : Prop) : Assn := ⟨fun _ _ F => F = [] ∧ p, fun h _ _ => h, fun h q hq => by rw [h.1] at hq; cases hq⟩
/-- an argument: a value of k layers that is handed on; slot j's own list of k layers, which is lent -/
inductive Ad | va (k : Nat) | io (j k : Nat) | tm (k : Nat)
def pmsA : Nat → List Ad → List Mode
  | _, [] => []
  | i, .va k :: ds => lv k :: pmsA (i + 1) ds
  | i, .io _ k :: ds => .own k (some i) :: pmsA (i + 1) ds
  | i, .tm k :: ds => .own k (some i) :: pmsA (i + 1) ds
def qmsA : Nat → List Ad → List Mode
  | _, [] => []
  | i, .va _ :: ds => .un :: qmsA (i + 1) ds
  | i, .io _ k :: ds => .own k (some i) :: qmsA (i + 1) ds
  | i, .tm k :: ds => .own k (some i) :: qmsA (i + 1) ds
def allBy0 : List Ad → Bool
  | [] => true
  | .va 0 :: ds => allBy0 ds
  | _ => false
def ioM : List Ad → List Mode → Bool
  | [], _ => true
  | .va _ :: ds, ms => ioM ds ms
  | .tm _ :: ds, ms => ioM ds ms
  | .io j k :: ds, ms => (match ms[j]? with
    | some (.own k' _) => k' == k
    | _ => false) && ioM ds (ms.set j .un)
def unM : List Ad → List Mode → List Mode
  | [], ms => ms
  | .va _ :: ds, ms => unM ds ms
  | .tm _ :: ds, ms => unM ds ms
  | .io j _ :: ds, ms => unM ds (ms.set j .un)
def putS : List Ad → List Slot → List Slot → List Slot
  | .va _ :: ds, _ :: ss, l => putS ds ss l
  | .tm _ :: ds, _ :: ss, l => putS ds ss l
  | .io j _ :: ds, s :: ss, l => (putS ds ss l).set j s
  | _, _, l => l
def Got (C : Ct) (σ : L2.St) (s1 : List Slot) : List Ad → List Slot → List V → List Assn
  | [], [], [] => []
  | .va k :: ds, s :: ss, v :: vs => slotA C.K C.A (lv k) s (some v) :: Got C σ s1 ds ss vs
  | .tm k :: ds, s :: ss, v :: vs => slotA C.K C.A (lv k) s (some v) :: Got C σ s1 ds ss vs
  | .io j _ :: ds, s :: ss, v :: vs => pureA (σ[j]? = some (some v) ∧ s1[j]? = some s) :: Got C σ s1 ds ss vs
  | _, _, _ => [falseA]
def IoF (C : Ct) (σ : L2.St) : List Ad → List V → List Mode → Prop
  | .va _ :: ds, _ :: vs, ms => IoF C σ ds vs ms
  | .tm _ :: ds, _ :: vs, ms => IoF C σ ds vs ms
  | .io j k :: ds, v :: vs, ms => σ[j]? = some (some v) ∧ (∃ io, ms[j]? = some (.own k io) ∧ ioAt C.A io v) ∧ IoF C σ ds vs (ms.set j .un)
  | _, _, _ => True
theorem Hd.fact {C : Ct} {a : Assn} {l : List Assn} {H : Hp} {p : Prop} (h : Hd C (a :: l) H) (k : ∀ S F, a.p S H F → p) : p := by
  obtain ⟨S, F, ⟨F1, F2, e, h1, h2⟩, o⟩ := h
  exact k S F1 h1
theorem Hd.toFront {C : Ct} {a : Assn} {l m : List Assn} {H : Hp} (h : Hd C (l ++ a :: m) H) : Hd C (a :: (l ++ m)) H := h.perm List.perm_middle
theorem Hd.toBack {C : Ct} {a : Assn} {l m : List Assn} {H : Hp} (h : Hd C (a :: (l ++ m)) H) : Hd C (l ++ a :: m) H := h.perm List.perm_middle.symm
theorem Hd.openA {C : Ct} {σ : L2.St} {s1 : List Slot} {A' : Nat → Option V} {H : Hp} : ∀ {ds : List Ad} {ss : List Slot} {vs : List V} {ms : List Mode} {T : List Assn} {i : Nat}, Hd C (Got C σ s1 ds ss vs ++ (T ++ Env C.K C.A ms s1 σ)) H → ioM ds ms = true → (∀ n, A' (i + n) = vs[n]?) →
    Hd C (Env C.K A' (pmsA i ds) ss (vs.map some) ++ (T ++ Env C.K C.A (unM ds ms) s1 σ)) H ∧ IoF C σ ds vs ms ∧ ss.length = ds.length ∧ vs.length = ds.length
  | [], [], [], ms, T, i, h, _, _ => ⟨h, trivial, rfl, rfl⟩
  | [], [], _ :: _, _, _, _, h, _, _ => (h.fact (p := False) fun _ _ z => z).elim
  | [], _ :: _, _, _, _, _, h, _, _ => (h.fact (p := False) fun _ _ z => z).elim
  | .va _ :: _, [], _, _, _, _, h, _, _ => (h.fact (p := False) fun _ _ z => z).elim
  | .va _ :: _, _ :: _, [], _, _, _, h, _, _ => (h.fact (p := False) fun _ _ z => z).elim
  | .tm _ :: _, [], _, _, _, _, h, _, _ => (h.fact (p := False) fun _ _ z => z).elim
  | .tm _ :: _, _ :: _, [], _, _, _, h, _, _ => (h.fact (p := False) fun _ _ z => z).elim
  | .io _ _ :: _, [], _, _, _, _, h, _, _ => (h.fact (p := False) fun _ _ z => z).elim
  | .io _ _ :: _, _ :: _, [], _, _, _, h, _, _ => (h.fact (p := False) fun _ _ z => z).elim
  | .va k :: ds, s :: ss, v :: vs, ms, T, i, h, w, hA => by
    have h1 : Hd C (Got C σ s1 ds ss vs ++ ((slotA C.K C.A (lv k) s (some v) :: T) ++ Env C.K C.A ms s1 σ)) H := h.toBack
    obtain ⟨h2, f, l1, l2⟩ := Hd.openA (A' := A') (ds := ds) (i := i + 1) h1 w (fun n => by
      have := hA (n + 1)
      rw [show i + 1 + n = i + (n + 1) by omega, this]
      rfl)
    refine ⟨?_, f, by simp [l1], by simp [l2]⟩
    exact Hd.toFront (a := slotA C.K C.A (lv k) s (some v)) h2
  | .tm k :: ds, s :: ss, v :: vs, ms, T, i, h, w, hA => by
    have h0 : Hd C (slotA C.K A' (.own k (some i)) s (some v) :: (Got C σ s1 ds ss vs ++ (T ++ Env C.K C.A ms s1 σ))) H := Hd.imp (a := slotA C.K C.A (lv k) s (some v)) h fun S F ⟨x, ex, _, r⟩ => ⟨x, ex, by
      cases ex
      exact hA 0, r⟩
    have h1 : Hd C (Got C σ s1 ds ss vs ++ ((slotA C.K A' (.own k (some i)) s (some v) :: T) ++ Env C.K C.A ms s1 σ)) H := h0.toBack
    obtain ⟨h2, f, l1, l2⟩ := Hd.openA (A' := A') (ds := ds) (i := i + 1) h1 w (fun n => by
      have := hA (n + 1)
      rw [show i + 1 + n = i + (n + 1) by omega, this]
      rfl)
    refine ⟨?_, f, by simp [l1], by simp [l2]⟩
    exact Hd.toFront (a := slotA C.K A' (.own k (some i)) s (some v)) h2
  | .io j k :: ds, s :: ss, v :: vs, ms, T, i, h, w, hA => by
    have w2 := Bool.and_eq_true_iff.mp w
    obtain ⟨io, em⟩ : ∃ io, ms[j]? = some (.own k io) := by
      have w1 := w2.1
      split at w1
      · rename_i k' io e
        exact ⟨io, by rw [e, beq_iff_eq.mp w1]⟩
      · cases w1
    obtain ⟨hσ, hs⟩ := h.fact (p := σ[j]? = some (some v) ∧ s1[j]? = some s) fun S F z => z.2
    have h1 : Hd C ((Got C σ s1 ds ss vs ++ T) ++ Env C.K C.A ms s1 σ) H := by
      rw [List.append_assoc]
      exact h.drop
    obtain ⟨v', ev', h2⟩ := h1.open em hs
    rw [hσ] at ev'
    cases ev'
    have hio : ioAt C.A io v := h2.fact fun S F ⟨x, ex, ax, _⟩ => by cases ex; exact ax
    have h3 : Hd C (slotA C.K A' (.own k (some i)) s (some v) :: ((Got C σ s1 ds ss vs ++ T) ++ Env C.K C.A (ms.set j .un) s1 σ)) H := h2.imp fun S F ⟨x, ex, _, r⟩ => ⟨x, ex, by
      cases ex
      exact hA 0, r⟩
    have h4 : Hd C (Got C σ s1 ds ss vs ++ ((slotA C.K A' (.own k (some i)) s (some v) :: T) ++ Env C.K C.A (ms.set j .un) s1 σ)) H := by
      rw [List.append_assoc] at h3
      exact h3.toBack
    obtain ⟨h5, f, l1, l2⟩ := Hd.openA (A' := A') (ds := ds) (i := i + 1) h4 w2.2 (fun n => by
      have := hA (n + 1)
      rw [show i + 1 + n = i + (n + 1) by omega, this]
      rfl)
    exact ⟨Hd.toFront (a := slotA C.K A' (.own k (some i)) s (some v)) h5, ⟨hσ, ⟨io, em, hio⟩, f⟩, by simp [l1], by simp [l2]⟩
theorem Hd.closeA {C : Ct} {σ : L2.St} {s1 : List Slot} {A' : Nat → Option V} {H : Hp} : ∀ {ds : List Ad} {ss : List Slot} {vs : List V} {ms : List Mode} {T : List Assn} {i : Nat}, Hd C (Env C.K A' (qmsA i ds) ss (vs.map some) ++ (T ++ Env C.K C.A (unM ds ms) s1 σ)) H → IoF C σ ds vs ms → ss.length = ds.length → vs.length = ds.length →
    Hd C (T ++ Env C.K C.A ms (putS ds ss s1) σ) H
  | [], [], [], ms, T, i, h, _, _, _ => h
  | [], _ :: _, _, _, _, _, _, _, e, _ => by simp at e
  | [], _, _ :: _, _, _, _, _, _, _, e => by simp at e
  | _ :: _, [], _, _, _, _, _, _, e, _ => by simp at e
  | _ :: _, _, [], _, _, _, _, _, _, e => by simp at e
  | .va k :: ds, s :: ss, v :: vs, ms, T, i, h, f, e1, e2 => Hd.closeA (ds := ds) (i := i + 1) h.drop f (by simpa using e1) (by simpa using e2)
  | .tm k :: ds, s :: ss, v :: vs, ms, T, i, h, f, e1, e2 => Hd.closeA (ds := ds) (i := i + 1) h.drop f (by simpa using e1) (by simpa using e2)
  | .io j k :: ds, s :: ss, v :: vs, ms, T, i, h, ⟨hσ, ⟨io, em, hio⟩, f⟩, e1, e2 => by
    have h1 : Hd C (slotA C.K C.A (.own k io) s (some v) :: (Env C.K A' (qmsA (i + 1) ds) ss (vs.map some) ++ (T ++ Env C.K C.A (unM ds (ms.set j .un)) s1 σ))) H := Hd.imp (a := slotA C.K A' (.own k (some i)) s (some v)) h fun S F ⟨x, ex, _, r⟩ => ⟨x, ex, by
      cases ex
      exact hio, r⟩
    have h2 := Hd.closeA (ds := ds) (ms := ms.set j .un) (T := slotA C.K C.A (.own k io) s (some v) :: T) (i := i + 1) h1.toBack f (by simpa using e1) (by simpa using e2)
    have hj : j < σ.length := (List.getElem?_eq_some_iff.mp hσ).1
    have h3 := Hd.close (m0 := .un) (i := j) h2 hj
    rw [show (ms.set j .un).set j (.own k io) = ms from by
      obtain ⟨a, b⟩ := List.getElem?_eq_some_iff.mp em
      rw [List.set_set, ← b]
      exact List.set_getElem_self a, show σ.set j (some v) = σ from by
      obtain ⟨a, b⟩ := List.getElem?_eq_some_iff.mp hσ
      rw [← b]
      exact List.set_getElem_self a] at h3
    exact h3

def tAI (C : Ct) {ρ : Type} (sl : ρ → List Slot) (ms ms' : List Mode) {A : Type} [T : ArgTy A] (ds : List Ad) (f : ρ → M ((ρ → A) × ρ)) : L2.TA := fun σ H Q =>
  ∃ (r : ρ) (Tl : List Assn), Hd C (Tl ++ Env C.K C.A ms (sl r) σ) H ∧ ends (f r) (fun φr => ∀ vs H', Hd C (Got C σ (sl φr.2) ds (T.al (φr.1 φr.2)) vs ++ (Tl ++ Env C.K C.A ms' (sl φr.2) σ)) H' → Q vs H') (fun c => ∀ H', Fr C H' → C.W H' c)
section
variable {ρ α B A R : Type}
def iNil : ρ → M ((ρ → Unit) × ρ) := fun r => .ok (fun _ => (), r)
def iBy (g : ρ → M (α × ρ)) (f : ρ → M ((ρ → B) × ρ)) : ρ → M ((ρ → α × B) × ρ) := fun r => g r >>= fun ar => f ar.2 >>= fun φr => .ok (fun r' => (ar.1, φr.1 r'), φr.2)
def iIo (get : ρ → α) (f : ρ → M ((ρ → B) × ρ)) : ρ → M ((ρ → α × B) × ρ) := fun r => f r >>= fun φr => .ok (fun r' => (get r', φr.1 r'), φr.2)
def eCallI (m : A → M (R × A)) (put : A → ρ → ρ) (f : ρ → M ((ρ → A) × ρ)) : ρ → M (R × ρ) := fun r => f r >>= fun φr => mute (m (φr.1 φr.2)) >>= fun cb => .ok (cb.1, put cb.2 φr.2)
end
/-- a def that changes lists it is handed: m answers its value and what the arguments are then -/
def spI (K : PySem.W.Frag) {A R : Type} [T : ArgTy A] [PyTy R] (rk : Nat) (pms qms : List Mode) (m : A → M (R × A)) : Sp := fun vs H Q E =>
  ∃ (a : A) (S : Hp) (F : List Addr), Sub S H ∧ F.Nodup ∧ (∀ p ∈ F, S p = none) ∧ Star (Env K (fun i => vs[i]?) pms (T.al a) (vs.map some)) S H F ∧
    ends (m a) (fun cb => ∀ v S' H' F', OkS ⟨K, H, S, F, fun i => vs[i]?, noW⟩ S' F' H' → Star (itm K rk cb.1 v :: Env K (fun i => vs[i]?) qms (T.al cb.2) (vs.map some)) S' H' F' → Q v H') (fun _ => False)
/-- the heap behind a call that may change what stands at F -/
theorem OkS.call {C : Ct} {S H S' H' : Hp} {FA FL F' : List Addr} {K : PySem.W.Frag} {A : Nat → Option V} {W : Hp → String → Prop} (o : OkS C S (FA ++ FL) H) (c : OkS ⟨K, H, S, FA, A, W⟩ S' F' H') (hl : ∀ p ∈ FL, H p ≠ none) : OkS C S' (F' ++ FL) H' := by
  have nd := List.nodup_append.mp o.nd
  have off : ∀ q ∈ FL, ¬ (S q ≠ none ∨ q ∈ FA ∨ H q = none) := fun q hq z => by
    rcases z with z | z | z
    · exact z (o.dj q (List.mem_append_right _ hq))
    · exact nd.2.2 q z q hq rfl
    · exact hl q hq z
  refine ⟨List.nodup_append.mpr ⟨c.nd, nd.2.1, fun x hx y hy z => ?_⟩, fun p hp => ?_, c.sh, o.s0.trans c.s0, fun p u h1 h2 => ?_, fun p hp => ?_⟩
  · subst z
    exact off x hy (c.nw x (.inl hx))
  · rcases List.mem_append.mp hp with hp | hp
    · exact c.dj p hp
    · cases e : S' p with
      | none => rfl
      | some u => exact absurd (c.nw p (.inr (by rw [e]; exact fun z => nomatch z))) (off p hp)
  · have h3 := o.fr p u h1 h2
    by_cases hp : p ∈ FA
    · rcases o.nw p (.inl (List.mem_append_left _ hp)) with z | z | z
      · exact absurd (o.s0.back (o.dj p (List.mem_append_left _ hp))) z
      · exact absurd z h2
      · rw [h1] at z; cases z
    · exact c.fr p u h3 hp
  · have base : S p ≠ none ∨ p ∈ FA ∨ H p = none → C.S0 p ≠ none ∨ p ∈ C.P ∨ C.H0 p = none := fun z => by
      rcases z with z | z | z
      · exact o.nw p (.inr z)
      · exact o.nw p (.inl (List.mem_append_left _ z))
      · by_cases hp : p ∈ C.P
        · exact .inr (.inl hp)
        · refine .inr (.inr ?_)
          cases y : C.H0 p with
          | none => rfl
          | some u => rw [o.fr p u y hp] at z; cases z
    rcases hp with hp | hp
    · rcases List.mem_append.mp hp with hp | hp
      · exact base (c.nw p (.inl hp))
      · exact o.nw p (.inl (List.mem_append_right _ hp))
    · exact base (c.nw p (.inr hp))
section
variable {X : Cx} {C : Ct} {ρ : Type} {sl : ρ → List Slot} {ms ms1 ms2 : List Mode} {e : Expr} {es : List Expr} {pos p : Pos} {α B A R : Type} [TA : PyTy α] [AB : ArgTy B] [AA : ArgTy A] [TR : PyTy R]
theorem ai_nil : PA X [] (tAI C sl ms ms [] (iNil (ρ := ρ))) := PA.conv pa_nil fun σ H Q ⟨r, T, hd, he⟩ => he [] H hd
theorem ai_by {k : Nat} {ds : List Ad} {g : ρ → M (α × ρ)} {f : ρ → M ((ρ → B) × ρ)} (ha : PE X e (tE C sl ms ms1 g k)) (hr : PA X es (tAI C sl ms1 ms2 ds f)) (hs : starEach (e :: es) X.env = (false, eval e X.env) :: starEach es X.env := by rfl) : PA X (e :: es) (tAI C sl ms ms2 (.va k :: ds) (iBy g f)) :=
  PA.conv (pa_cons ha hr hs) fun σ H Q ⟨r, T, hd, he⟩ => ⟨r, T, hd, ends_mono (ends_bind he) (fun ar _ q v H1 hd1 => ⟨ar.2, itm C.K k ar.1 v :: T, hd1, ends_mono (ends_bind q) (fun φr _ q vs H2 hd2 => q (v :: vs) H2 (by
    have h1 : Hd C (itm C.K k ar.1 v :: (Got C σ (sl φr.2) ds (AB.al (φr.1 φr.2)) vs ++ (T ++ Env C.K C.A ms2 (sl φr.2) σ))) H2 := Hd.toFront hd2
    exact h1.imp (b := slotA C.K C.A (lv k) ⟨ar.1⟩ (some v)) fun S F r => ⟨v, rfl, trivial, r⟩)) fun c q => q⟩) fun c q => q⟩
theorem ai_tm {k : Nat} {ds : List Ad} {g : ρ → M (α × ρ)} {f : ρ → M ((ρ → B) × ρ)} (ha : PE X e (tE C sl ms ms1 g k)) (hr : PA X es (tAI C sl ms1 ms2 ds f)) (hs : starEach (e :: es) X.env = (false, eval e X.env) :: starEach es X.env := by rfl) : PA X (e :: es) (tAI C sl ms ms2 (.tm k :: ds) (iBy g f)) :=
  PA.conv (pa_cons ha hr hs) fun σ H Q ⟨r, T, hd, he⟩ => ⟨r, T, hd, ends_mono (ends_bind he) (fun ar _ q v H1 hd1 => ⟨ar.2, itm C.K k ar.1 v :: T, hd1, ends_mono (ends_bind q) (fun φr _ q vs H2 hd2 => q (v :: vs) H2 (by
    have h1 : Hd C (itm C.K k ar.1 v :: (Got C σ (sl φr.2) ds (AB.al (φr.1 φr.2)) vs ++ (T ++ Env C.K C.A ms2 (sl φr.2) σ))) H2 := Hd.toFront hd2
    exact h1.imp (b := slotA C.K C.A (lv k) ⟨ar.1⟩ (some v)) fun S F r => ⟨v, rfl, trivial, r⟩)) fun c q => q⟩) fun c q => q⟩
theorem ai_io {j k : Nat} {io : Option Nat} {ds : List Ad} {get : ρ → α} {f : ρ → M ((ρ → B) × ρ)} (h : PE X e (tVar j)) (hm : ms[j]? = some (.own k io)) (hg : ∀ r, (sl r)[j]? = some ⟨get r⟩) (hr : PA X es (tAI C sl ms ms2 ds f)) (hs : starEach (e :: es) X.env = (false, eval e X.env) :: starEach es X.env := by rfl) : PA X (e :: es) (tAI C sl ms ms2 (.io j k :: ds) (iIo get f)) :=
  PA.conv (pa_cons h hr hs) fun σ H Q ⟨r, T, hd, he⟩ => by
    obtain ⟨v, ev, hd1⟩ := hd.open hm (hg r)
    obtain ⟨x, ex⟩ : ∃ x, v = some x := hd1.fact fun S F ⟨x, ex, _⟩ => ⟨x, ex⟩
    subst ex
    refine ⟨x, ev, r, T, hd, ends_mono (ends_bind he) (fun φr _ q vs H2 hd2 => q (x :: vs) H2 ?_) fun c q => q⟩
    obtain ⟨S, F, st, o⟩ := hd2
    exact ⟨S, F, ⟨[], F, rfl, ⟨rfl, ev, hg φr.2⟩, st⟩, o⟩
theorem ev_callI {k rk : Nat} {ds : List Ad} {f : Addr} {fd : FuncData} {ps : List Str} {x : Str} {pms qms : List Mode} {m : A → M (R × A)} {put : A → ρ → ρ} {g : ρ → M ((ρ → A) × ρ)} (F : FnOk X.prog X.w X.K X.mg X.base CX0 k f fd ps (spI X.K rk pms qms m)) (hr : Room k X.A) (hg : Gl X x) (hm : X.mg x = some (.ref f)) (hk : PySem.W.keepIn X.K (.ref f) = true) (hb : Binds X.K fd ps [])
    (ha : PA X (e :: es) (tAI C sl ms ms1 ds g)) (hio : ioM ds ms1 = true) (hput : ∀ b r, sl (put b r) = putS ds (AA.al b) (sl r)) (hal : ∀ a, (AA.al a).length = ds.length) (hp : pms = pmsA 0 ds := by rfl) (hq : qms = qmsA 0 ds := by rfl) (hK : C.K = X.K := by rfl) (hdb : (x == ("__debug__" : Str)) = false := by decide) (he : starEach (e :: es) X.env = (false, eval e X.env) :: starEach es X.env := by rfl) (hpl : (backTo pos (starEach es X.env)).any (·.1) = false := by rfl) :
    PE X (.Call (.Name x p) (e :: es) [] pos) (tE C sl ms ms1 (eCallI m put g) rk) :=
  PE.conv (pe_call F hr hg hm hk hb .nil pass0 ha hdb he hpl) fun σ H Q ⟨r, T, hd, q⟩ => ⟨r, T, hd, ends_mono (ends_bind q) (fun φr _ q vs H1 hd1 => by
    obtain ⟨CK, CH0, CS0, CP, CA, CW⟩ := C
    subst hK hp hq
    show spI X.K rk _ _ m (vs ++ []) H1 Q E0
    rw [List.append_nil]
    obtain ⟨hd2, fa, l1, l2⟩ := Hd.openA (i := 0) (A' := fun i => vs[i]?) hd1 hio (fun n => by rw [Nat.zero_add])
    obtain ⟨S, F, st, o⟩ := hd2
    obtain ⟨FA, FL, eF, hA, hL⟩ := st.split
    subst eF
    have o1 := o.less (List.sublist_append_left FA FL)
    refine ⟨φr.1 φr.2, S, FA, o.sh, o1.nd, o1.dj, hA, ends_mono (ends_muted (ends_bind q)) (fun cb _ q v S2 H2 F2 c st2 => ?_) fun c q => q⟩
    refine q v H2 ?_
    have o2 := o.call c hL.here
    have hL2 := hL.mono (S' := S2) (H' := H2) c.s0 fun q hq => by
      have h0 := hL.here q hq
      cases e : H1 q with
      | none => exact absurd e h0
      | some u => exact c.fr q u e fun z => (List.nodup_append.mp o.nd).2.2 q z q hq rfl
    have h3 : Hd ⟨X.K, CH0, CS0, CP, CA, CW⟩ ((itm X.K rk cb.1 v :: Env X.K (fun i => vs[i]?) (qmsA 0 ds) (AA.al cb.2) (vs.map some)) ++ (T ++ Env X.K CA (unM ds ms1) (sl φr.2) σ)) H2 := ⟨S2, F2 ++ FL, st2.append hL2, o2⟩
    have h4 : Hd ⟨X.K, CH0, CS0, CP, CA, CW⟩ (Env X.K (fun i => vs[i]?) (qmsA 0 ds) (AA.al cb.2) (vs.map some) ++ ((itm X.K rk cb.1 v :: T) ++ Env X.K CA (unM ds ms1) (sl φr.2) σ)) H2 := Hd.toBack (a := itm X.K rk cb.1 v) h3
    have h5 := Hd.closeA (C := ⟨X.K, CH0, CS0, CP, CA, CW⟩) (T := itm X.K rk cb.1 v :: T) h4 fa (hal _) l2
    show Hd ⟨X.K, CH0, CS0, CP, CA, CW⟩ (itm X.K rk cb.1 v :: (T ++ Env X.K CA ms1 (sl (put cb.2 φr.2)) σ)) H2
    rw [hput]
    exact h5) fun c q => q⟩
/-- a def that changes nothing, called with what may come of changes -/
theorem ev_callP {k rk : Nat} {ds : List Ad} {f : Addr} {fd : FuncData} {ps : List Str} {x : Str} {m : A → M R} {g : ρ → M ((ρ → A) × ρ)} (F : FnOk X.prog X.w X.K X.mg X.base CX0 k f fd ps (spP X.K rk m)) (hr : Room k X.A) (hg : Gl X x) (hm : X.mg x = some (.ref f)) (hk : PySem.W.keepIn X.K (.ref f) = true) (hb : Binds X.K fd ps [])
    (ha : PA X (e :: es) (tAI C sl ms ms1 ds g)) (hal : ∀ a, (AA.al a).length = ds.length) (hp : allBy0 ds = true := by rfl) (hK : C.K = X.K := by rfl) (hdb : (x == ("__debug__" : Str)) = false := by decide) (he : starEach (e :: es) X.env = (false, eval e X.env) :: starEach es X.env := by rfl) (hpl : (backTo pos (starEach es X.env)).any (·.1) = false := by rfl) :
    PE X (.Call (.Name x p) (e :: es) [] pos) (tE C sl ms ms1 (fun r => g r >>= fun φr => mute (m (φr.1 φr.2)) >>= fun c => .ok (c, φr.2)) rk) :=
  PE.conv (pe_call F hr hg hm hk hb .nil pass0 ha hdb he hpl) fun σ H Q ⟨r, T, hd, q⟩ => ⟨r, T, hd, ends_mono (ends_bind q) (fun φr _ q vs H1 hd1 => by
    obtain ⟨CK, CH0, CS0, CP, CA, CW⟩ := C
    subst hK
    show spP X.K rk m (vs ++ []) H1 Q E0
    rw [List.append_nil]
    obtain ⟨S, F, st, o⟩ := hd1
    obtain ⟨FA, FL, eF, hA, hL⟩ := st.split
    subst eF
    have key : ∀ {ds : List Ad} {ss : List Slot} {vs : List V} {F : List Addr}, allBy0 ds = true → Star (Got ⟨X.K, CH0, CS0, CP, CA, CW⟩ σ (sl φr.2) ds ss vs) S H1 F → Parts X.K (lv 0) S H1 ss vs ∧ F = [] := by
      intro ds
      induction ds with
      | nil =>
        intro ss vs F _ h
        cases ss with
        | nil => cases vs with
          | nil => exact ⟨trivial, h⟩
          | cons _ _ => obtain ⟨_, _, _, z, _⟩ := h; exact z.elim
        | cons _ _ => obtain ⟨_, _, _, z, _⟩ := h; exact z.elim
      | cons d ds ih =>
        intro ss vs F hp h
        cases d with
        | io j k => exact nomatch hp
        | tm k => exact nomatch hp
        | va k =>
          cases k with
          | succ k => exact nomatch hp
          | zero =>
            cases ss with
            | nil => obtain ⟨_, _, _, z, _⟩ := h; exact z.elim
            | cons s ss => cases vs with
              | nil => obtain ⟨_, _, _, z, _⟩ := h; exact z.elim
              | cons v vs =>
                obtain ⟨F1, F2, e, ⟨x, ex, _, rr⟩, h2⟩ := h
                cases ex
                have i2 := ih hp h2
                have e1 : F1 = [] := s.inst.zero rr
                subst e1
                rw [e, i2.2]
                exact ⟨⟨⟨v, rfl, froz_at s.inst rr S⟩, i2.1⟩, rfl⟩
    obtain ⟨pt, e0⟩ := key hp hA
    subst e0
    refine ⟨φr.1 φr.2, S, o.sh, pt, ends_mono (ends_muted (ends_bind q)) (fun c _ q v S2 H2 F2 x g => ?_) fun c q => q⟩
    exact q v H2 (Hd.ext (st := hL) (o := o) x g)) fun c q => q⟩
end
end VL
namespace VL
universe u
open PySem PySem.Spec PyProof.Rows L2

/-! ### a def that changes lists it is handed: its body -/
def qtag : Nat → List Mode → Bool
  | _, [] => true
  | i, .un :: ms => qtag (i + 1) ms
  | i, .own _ (some j) :: ms => (i == j) && qtag (i + 1) ms
  | _, _ => false
theorem un_env {K : PySem.W.Frag} {A : Nat → Option V} {S H : Hp} : ∀ {n : Nat} {ss : List Slot} {vs : List (Option V)} {F : List Addr}, Star (Env K A (List.replicate n .un) ss vs) S H F → F = []
  | 0, [], [], _, h => h
  | 0, [], _ :: _, _, ⟨_, _, _, z, _⟩ => z.elim
  | 0, _ :: _, [], _, ⟨_, _, _, z, _⟩ => z.elim
  | 0, _ :: _, _ :: _, _, ⟨_, _, _, z, _⟩ => z.elim
  | n + 1, [], [], _, ⟨_, _, _, z, _⟩ => z.elim
  | n + 1, [], _ :: _, _, ⟨_, _, _, z, _⟩ => z.elim
  | n + 1, _ :: _, [], _, ⟨_, _, _, z, _⟩ => z.elim
  | n + 1, s :: ss, v :: vs, _, ⟨F1, F2, e, h1, h2⟩ => by
    have e1 : F1 = [] := h1
    rw [e, e1, un_env (n := n) h2]
    rfl
theorem back_env {K : PySem.W.Frag} {A : Nat → Option V} {S H : Hp} {n : Nat} {rest : List Slot} : ∀ {qms : List Mode} {ss : List Slot} {vs : List V} {σ : List (Option V)} {F : List Addr} {i : Nat}, Star (Env K A (qms ++ List.replicate n .un) (ss ++ rest) σ) S H F → qtag i qms = true → (∀ m, A (i + m) = vs[m]?) → qms.length = ss.length → vs.length = ss.length → Star (Env K A qms ss (vs.map some)) S H F
  | [], [], [], _, _, _, h, _, _, _, _ => un_env h
  | [], [], _ :: _, _, _, _, _, _, _, _, e => by simp at e
  | [], _ :: _, _, _, _, _, _, _, _, e, _ => by simp at e
  | _ :: _, [], _, _, _, _, _, _, _, e, _ => by simp at e
  | _ :: _, _ :: _, [], _, _, _, _, _, _, _, e => by simp at e
  | _ :: _, _ :: _, _ :: _, [], _, _, ⟨_, _, _, z, _⟩, _, _, _, _ => z.elim
  | m :: qms, s :: ss, v :: vs, x :: σ, _, i, ⟨F1, F2, e, h1, h2⟩, w, hA, e1, e2 => by
    have hA' : ∀ m, A (i + 1 + m) = vs[m]? := fun m => by
      have := hA (m + 1)
      rw [show i + 1 + m = i + (m + 1) by omega, this]
      rfl
    cases m with
    | un => exact ⟨F1, F2, e, h1, back_env (qms := qms) (ss := ss) (i := i + 1) h2 w hA' (by simpa using e1) (by simpa using e2)⟩
    | vw => exact nomatch w
    | id _ => exact nomatch w
    | own k io =>
      cases io with
      | none => exact nomatch w
      | some j =>
        have w2 := Bool.and_eq_true_iff.mp (show ((i == j) && qtag (i + 1) qms) = true from w)
        obtain ⟨y, ey, hy, r⟩ := h1
        have hj : i = j := beq_iff_eq.mp w2.1
        subst hj
        have h0 : A i = some v := hA 0
        have hy' : A i = some y := hy
        rw [h0] at hy'
        cases hy'
        exact ⟨F1, F2, e, ⟨v, rfl, h0, r⟩, back_env (qms := qms) (ss := ss) (i := i + 1) h2 w2.2 hA' (by simpa using e1) (by simpa using e2)⟩
theorem start_envI {K : PySem.W.Frag} {A : Nat → Option V} {S H : Hp} {n : Nat} {rest : List Slot} : ∀ {pms : List Mode} {ss : List Slot} {vs : List (Option V)} {F : List Addr}, Star (Env K A pms ss vs) S H F → rest.length = n → Star (Env K A (pms ++ List.replicate n .un) (ss ++ rest) (vs ++ List.replicate n none)) S H F
  | [], [], [], _, h, e => by
    subst e
    rw [show _ = [] from h]
    clear h
    induction rest with
    | nil => rfl
    | cons s rest ih => exact ⟨[], [], rfl, rfl, ih⟩
  | [], [], _ :: _, _, ⟨_, _, _, z, _⟩, _ => z.elim
  | [], _ :: _, [], _, ⟨_, _, _, z, _⟩, _ => z.elim
  | [], _ :: _, _ :: _, _, ⟨_, _, _, z, _⟩, _ => z.elim
  | _ :: _, [], [], _, ⟨_, _, _, z, _⟩, _ => z.elim
  | _ :: _, [], _ :: _, _, ⟨_, _, _, z, _⟩, _ => z.elim
  | _ :: _, _ :: _, [], _, ⟨_, _, _, z, _⟩, _ => z.elim
  | m :: pms, s :: ss, v :: vs, _, ⟨F1, F2, e, h1, h2⟩, el => ⟨F1, F2, e, h1, start_envI h2 el⟩
def runI {ρ R A : Type} (f : ρ → M (Fl ρ R)) (args : ρ → A) (r : ρ) : M (R × A) := f r >>= fun
  | .rt a r' => .ok (a, args r')
  | _ => .error .stuck
def runIU {ρ A : Type} (f : ρ → M (Fl ρ Unit)) (args : ρ → A) (r : ρ) : M (Unit × A) := f r >>= fun
  | .rt a r' => .ok (a, args r')
  | .nx r' => .ok ((), args r')
  | _ => .error .stuck
section
variable {P : Program} {w : World} {K : PySem.W.Frag} {mg : Str → Option Value} {base : Heap}
theorem ok_defI {x qual : Str} {st : Stmt} {f : Addr} {fd : FuncData} {N ps : List Str} {k rk : Nat} {A ρ R : Type} [T : ArgTy A] [TR : PyTy R] {sl : ρ → List Slot} {ms' pms qms : List Mode} {g : ρ → M (Fl ρ R)} {ini : A → ρ} {args : ρ → A} (F : Fun K x qual st f fd) (S : FnScope N ps (defScope st))
    (hal : ∀ a, (T.al a).length = ps.length) (hini : ∀ a, ∃ rest, sl (ini a) = T.al a ++ rest ∧ rest.length = N.length - ps.length) (hargs : ∀ r, ∃ rest, sl r = T.al (args r) ++ rest) (hp : pms.length = ps.length) (hq : qms.length = ps.length) (qt : qtag 0 qms = true)
    (hbody : ∀ (cdv : Value) (A : Around) (outer : List PySem.Env) (s : Shared) (H : Hp) (E : XK) (H0 S0 : Hp) (PF : List Addr) (vs : List V), Room k (A.deeper (envOfC qual (defScope st) s.heap.objs.size f cdv)) → PSs (cxOf CX0 P w K mg base N qual (defScope st) f cdv A outer s H E).nox (defBody st) (tS ⟨K, H0, S0, PF, fun i => vs[i]?, noW⟩ sl (pms ++ List.replicate (N.length - ps.length) .un) ms' [] (qms ++ List.replicate (N.length - ps.length) .un) rk g)) :
    FnOk P w K mg base CX0 (k + 1) f fd ps (spI K rk pms qms fun a => runI g args (ini a)) := by
  refine F.ok S (fun vs H Q E h => ?_) (fun cdv A outer s H vs Q E hr h => ?_)
  · obtain ⟨a, S, F, _, _, _, st, _⟩ := h
    have := (Env_len st).1
    rw [List.length_map, hp] at this
    exact this.symm
  · obtain ⟨a, S0, FA, hs, nd, dj, st, he⟩ := h
    have hlv : vs.length = ps.length := by
      have := (Env_len st).1
      rw [List.length_map, hp] at this
      exact this.symm
    refine ⟨_, hbody cdv A outer s H E H S0 FA vs hr, ini a, [], ⟨S0, FA, ?_, nd, dj, hs, Sub.refl S0, fun p o q _ => q, fun p q => q.elim (fun z => .inr (.inl z)) fun z => .inl z⟩, ends_mono (ends_bind he) (fun o eo q => ?_) fun c q => q.elim⟩
    · obtain ⟨rest, e, hl⟩ := hini a
      rw [e]
      have := start_envI (n := N.length - ps.length) st hl
      have e2 : start N vs = vs.map some ++ List.replicate (N.length - ps.length) none := by
        show vs.map some ++ List.replicate (N.length - vs.length) none = _
        rw [hlv]
      rw [e2]
      exact this
    · cases o with
      | nx r' => exact q.elim
      | bk r' => exact q.elim
      | ct r' => exact q.elim
      | rt c r' =>
        intro v σ' H' hd
        obtain ⟨S', F', ⟨F1, F2, e, h1, h2⟩, o⟩ := hd
        obtain ⟨rest, er⟩ := hargs r'
        rw [er] at h2
        exact q v S' H' F' o ⟨F1, F2, e, h1, back_env (i := 0) h2 qt (fun m => by rw [Nat.zero_add]) (by rw [hq, hal]) (by rw [hlv, hal])⟩
theorem ok_defIU {x qual : Str} {st : Stmt} {f : Addr} {fd : FuncData} {N ps : List Str} {k rk : Nat} {A ρ : Type} [T : ArgTy A] {sl : ρ → List Slot} {pms qms : List Mode} {g : ρ → M (Fl ρ Unit)} {ini : A → ρ} {args : ρ → A} (F : Fun K x qual st f fd) (S : FnScope N ps (defScope st))
    (hal : ∀ a, (T.al a).length = ps.length) (hini : ∀ a, ∃ rest, sl (ini a) = T.al a ++ rest ∧ rest.length = N.length - ps.length) (hargs : ∀ r, ∃ rest, sl r = T.al (args r) ++ rest) (hp : pms.length = ps.length) (hq : qms.length = ps.length) (qt : qtag 0 qms = true)
    (hbody : ∀ (cdv : Value) (A : Around) (outer : List PySem.Env) (s : Shared) (H : Hp) (E : XK) (H0 S0 : Hp) (PF : List Addr) (vs : List V), Room k (A.deeper (envOfC qual (defScope st) s.heap.objs.size f cdv)) → PSs (cxOf CX0 P w K mg base N qual (defScope st) f cdv A outer s H E).nox (defBody st) (tS ⟨K, H0, S0, PF, fun i => vs[i]?, noW⟩ sl (pms ++ List.replicate (N.length - ps.length) .un) (qms ++ List.replicate (N.length - ps.length) .un) [] (qms ++ List.replicate (N.length - ps.length) .un) rk g)) :
    FnOk P w K mg base CX0 (k + 1) f fd ps (spI K rk pms qms fun a => runIU g args (ini a)) := by
  refine F.ok S (fun vs H Q E h => ?_) (fun cdv A outer s H vs Q E hr h => ?_)
  · obtain ⟨a, S, F, _, _, _, st, _⟩ := h
    have := (Env_len st).1
    rw [List.length_map, hp] at this
    exact this.symm
  · obtain ⟨a, S0, FA, hs, nd, dj, st, he⟩ := h
    have hlv : vs.length = ps.length := by
      have := (Env_len st).1
      rw [List.length_map, hp] at this
      exact this.symm
    refine ⟨_, hbody cdv A outer s H E H S0 FA vs hr, ini a, [], ⟨S0, FA, ?_, nd, dj, hs, Sub.refl S0, fun p o q _ => q, fun p q => q.elim (fun z => .inr (.inl z)) fun z => .inl z⟩, ends_mono (ends_bind he) (fun o eo q => ?_) fun c q => q.elim⟩
    · obtain ⟨rest, e, hl⟩ := hini a
      rw [e]
      have := start_envI (n := N.length - ps.length) st hl
      have e2 : start N vs = vs.map some ++ List.replicate (N.length - ps.length) none := by
        show vs.map some ++ List.replicate (N.length - vs.length) none = _
        rw [hlv]
      rw [e2]
      exact this
    · have fin : ∀ (c : Unit) (r' : ρ) (v : V) (σ' : L2.St) (H' : Hp), Hd ⟨K, H, S0, FA, fun i => vs[i]?, noW⟩ (itm K rk c v :: Env K (fun i => vs[i]?) (qms ++ List.replicate (N.length - ps.length) .un) (sl r') σ') H' → (∀ v S' H' F', OkS ⟨K, H, S0, FA, fun i => vs[i]?, noW⟩ S' F' H' → Star (itm K rk c v :: Env K (fun i => vs[i]?) qms (T.al (args r')) (vs.map some)) S' H' F' → Q v H') → Q v H' := by
        intro c r' v σ' H' hd q
        obtain ⟨S', F', ⟨F1, F2, e, h1, h2⟩, o⟩ := hd
        obtain ⟨rest, er⟩ := hargs r'
        rw [er] at h2
        exact q v S' H' F' o ⟨F1, F2, e, h1, back_env (i := 0) h2 qt (fun m => by rw [Nat.zero_add]) (by rw [hq, hal]) (by rw [hlv, hal])⟩
      cases o with
      | nx r' =>
        intro σ' H' hd
        refine fin () r' .non σ' H' ?_ q
        obtain ⟨S', F', st', o⟩ := hd
        exact ⟨S', F', ⟨[], F', rfl, Scal.scal.mpr ⟨rfl, rfl⟩, st'⟩, o⟩
      | bk r' => exact q.elim
      | ct r' => exact q.elim
      | rt c r' => exact fun v σ' H' hd => fin c r' v σ' H' hd q
end

/-! ### tests over parts that may change what is held -/
section
variable {ρ : Type}
def tAnd2 (f g : ρ → M (Bool × ρ)) : ρ → M (Bool × ρ) := fun r => f r >>= fun br => if br.1 then g br.2 else .ok (false, br.2)
def tOr2 (f g : ρ → M (Bool × ρ)) : ρ → M (Bool × ρ) := fun r => f r >>= fun br => if br.1 then .ok (true, br.2) else g br.2
def tNot2 (f : ρ → M (Bool × ρ)) : ρ → M (Bool × ρ) := fun r => f r >>= fun br => .ok (!br.1, br.2)
end
section
variable {X : Cx} {C : Ct} {ρ R : Type} [TR : PyTy R] {sl : ρ → List Slot} {ms ms1 ms2 lm rm : List Mode} {rk : Nat} {a b c e : Expr} {pos : Pos}
theorem vt_e {f : ρ → M (Bool × ρ)} {k : Nat} (h : PE X e (tE C sl ms ms1 f k)) (he : ∀ whole, isTrue e X.env whole = (do let v ← whole; standAt e.pos; holding [v] (truthy v)) := by intro _; rfl) : PT X e (tET C sl ms ms1 f) :=
  PT.conv (pt_val h he) fun σ H Q ⟨r, T, hd, q⟩ => ⟨r, T, hd, ends_mono q (fun ar _ q v H1 hd1 => by
    have e := rep_scal (α := Bool) hd1.look1
    exact ⟨ar.1, e, q H1 hd1.drop⟩) fun c q => q⟩
theorem vt_not {f : ρ → M (Bool × ρ)} (h : PT X a (tET C sl ms ms1 f)) : PT X (.UnaryOp .Not a pos) (tET C sl ms ms1 (tNot2 f)) :=
  PT.conv (pt_not h) fun σ H Q ⟨r, T, hd, he⟩ => ⟨r, T, hd, ends_mono (ends_bind he) (fun br _ q H1 hd1 => q H1 hd1) fun c q => q⟩
theorem vw_and1 {f : ρ → M (Bool × ρ)} (h : PT X a (tET C sl ms ms1 f)) : PW X (.BoolOp .And [a] pos) (tET C sl ms ms1 f) := pw_and1 h
theorem vw_or1 {f : ρ → M (Bool × ρ)} (h : PT X a (tET C sl ms ms1 f)) : PW X (.BoolOp .Or [a] pos) (tET C sl ms ms1 f) := pw_or1 h
theorem tAnd2_of {f g : ρ → M (Bool × ρ)} {tA tB : TT} (hA : tA = tET C sl ms ms f) (hB : tB = tET C sl ms ms g) {σ : L2.St} {H : Hp} {Q : Bool → Hp → Prop} (h : tET C sl ms ms (tAnd2 f g) σ H Q) : tAnd tA tB σ H Q := by
  subst hA hB
  obtain ⟨r, T, hd, he⟩ := h
  refine ⟨r, T, hd, ends_mono (ends_bind he) (fun br _ q H' hd' => ?_) fun c q => q⟩
  obtain ⟨d, r'⟩ := br
  cases d with
  | true =>
    show tET C sl ms ms g σ H' Q
    exact ⟨r', T, hd', q⟩
  | false =>
    show Q false H'
    exact q H' hd'
theorem tOr2_of {f g : ρ → M (Bool × ρ)} {tA tB : TT} (hA : tA = tET C sl ms ms f) (hB : tB = tET C sl ms ms g) {σ : L2.St} {H : Hp} {Q : Bool → Hp → Prop} (h : tET C sl ms ms (tOr2 f g) σ H Q) : tOr tA tB σ H Q := by
  subst hA hB
  obtain ⟨r, T, hd, he⟩ := h
  refine ⟨r, T, hd, ends_mono (ends_bind he) (fun br _ q H' hd' => ?_) fun c q => q⟩
  obtain ⟨d, r'⟩ := br
  cases d with
  | false =>
    show tET C sl ms ms g σ H' Q
    exact ⟨r', T, hd', q⟩
  | true =>
    show Q true H'
    exact q H' hd'
theorem vw_and {f g : ρ → M (Bool × ρ)} {rest : List Expr} (h : PT X a (tET C sl ms ms f)) (h2 : PW X (.BoolOp .And (b :: rest) pos) (tET C sl ms ms g)) : PW X (.BoolOp .And (a :: b :: rest) pos) (tET C sl ms ms (tAnd2 f g)) := PW.conv (pw_and h h2) fun _ _ _ q => tAnd2_of rfl rfl q
theorem vw_or {f g : ρ → M (Bool × ρ)} {rest : List Expr} (h : PT X a (tET C sl ms ms f)) (h2 : PW X (.BoolOp .Or (b :: rest) pos) (tET C sl ms ms g)) : PW X (.BoolOp .Or (a :: b :: rest) pos) (tET C sl ms ms (tOr2 f g)) := PW.conv (pw_or h h2) fun _ _ _ q => tOr2_of rfl rfl q
end

/-! ### items, by an index that may change what is held -/
theorem o_ixS {K : PySem.W.Frag} {α : Type} [PT : PyTy α] [T : Scal α] : Op2 K (rIxL K) (ixL (α := α)) 0 := fun H x y a b c Q ra rb e q => by
  obtain ⟨p, xs, F', e1, n, z, r⟩ := ra
  have e3 : F' = [] := n.2.symm
  subst e3
  obtain ⟨v, at1, r2⟩ := ixL_at r e
  refine ⟨p, xs, b, v, e1, rep_scal rb, .inl (.inl n.1), at1, ?_⟩
  rw [rep_scal r2]
  exact q _ H New.scal
section
variable {X : Cx} {C : Ct} {ρ R : Type} [TR : PyTy R] {sl : ρ → List Slot} {ms ms1 ms2 lm rm : List Mode} {rk : Nat} {a b c e : Expr} {pos p : Pos} {α β : Type} [TA : PyTy α] [TB : PyTy β]
/-- an item of a list that is shared -/
theorem ve_ix0 {f : ρ → M (List α × ρ)} {g : ρ → M (Int × ρ)} {kb : Nat} (ha : PE X a (tE C sl ms ms1 f 0)) (hb : PE X b (tE C sl ms1 ms2 g kb)) (hs : PlainIx b := by exact fun _ _ => rfl) (hK : C.K = X.K := by rfl) : PE X (.Subscript a b pos) (tE C sl ms ms2 (E2 ixL f g) 0) :=
  PE.conv (pe_ix ix_list ha hb hs) fun σ H Q ⟨r, T, hd, he⟩ => ⟨r, T, hd, ends_mono (ends_bind he) (fun ar _ q v H1 hd1 => ⟨ar.2, itm C.K 0 ar.1 v :: T, hd1, ends_mono (ends_bind q) (fun br _ q u H2 hd2 => by
    obtain ⟨z, ez, q⟩ := up_ends (ends_bind q)
    have eu : u = .int br.1 := rep_scal hd2.look1
    have h1 : Hd C (itm C.K 0 ar.1 v :: (T ++ Env C.K C.A ms2 (sl br.2) σ)) H2 := hd2.drop
    obtain ⟨p, xs, F', e1, n, z1, r1⟩ := h1.look1
    have e3 : F' = [] := n.2.symm
    subst e3
    obtain ⟨v1, at1, r2⟩ := ixL_at r1 ez
    refine ⟨p, xs, br.1, v1, e1, eu, by rw [← hK]; exact .inl (.inl n.1), at1, q v1 H2 ?_⟩
    obtain ⟨S, F, ⟨F1, F2, e, h2, h3⟩, o⟩ := h1
    refine ⟨S, F, ⟨F1, F2, e, ?_, h3⟩, o⟩
    obtain ⟨p2, xs2, F2, e4, n2, z2, r3⟩ := TL_zero (K := C.K) (S := S) (H := H2) h2
    have e5 : F2 = [] := n2.2.symm
    subst e5
    rw [e1] at e4
    cases e4
    have e6 := (o.sh _ _ n2.1).symm.trans n.1
    cases e6
    obtain ⟨v2, at2, r4⟩ := ixL_at r3 ez
    rw [at1] at at2
    cases at2
    rw [PyTy.zero h2]
    exact r4) fun c q => q⟩) fun c q => q⟩

/-! ### loops over range(..) of what may change what is held -/
def tW2 (C : Ct) {ρ : Type} (sl : ρ → List Slot) (ms ms1 : List Mode) {β : Type} (xs : ρ → M (List β × ρ)) (g : TG) (is : List Nat) (parts : β → List Slot) : TI := fun σ H RR =>
  ∃ (r : ρ) (T : List Assn), Hd C (T ++ Env C.K C.A ms (sl r) σ) H ∧ ends (xs r) (fun lr => ∀ J S1 H1, Hd C (keepA S1 :: T ++ Env C.K C.A ms1 (sl lr.2) σ) H1 → lr.1.length ≤ line → Goes C.K J g S1 H1 (lv 0) lr.1 is parts → RR J H1) (fun c => ∀ H', Fr C H' → C.W H' c)
def fFor2 {ρ R β : Type} (xs : ρ → M (List β × ρ)) (set : β → ρ → ρ) (body : ρ → M (Fl ρ R)) : ρ → M (Fl ρ R) := fun r => xs r >>= fun lr => loop set body lr.1 lr.2
theorem s_for2 {g : TG} {tg iter : Expr} {body : List Stmt} {lm' : List Mode} {β : Type} {xs : ρ → M (List β × ρ)} {is : List Nat} {parts : β → List Slot} {set : β → ρ → ρ} {f : ρ → M (Fl ρ R)} (hp : PassesOwn (model X.prog X.w) X.A X.env X.xe) (hc : X.calm = true) (hi : PI X tg iter (tW2 C sl ms lm xs g is parts)) (hg : PG X tg g)
    (hb : PSs X body (tS C sl (setModes lm is (lv 0)) lm lm rm rk f)) (hset : ∀ b r, sl (set b r) = setSlots (sl r) is (parts b)) (hpl : ∀ b, is.length = (parts b).length) (hin : ∀ i ∈ is, i < lm.length) (hs : ∀ x, foldedSetIterable iter X.env x = pure x := by intro _; rfl) :
    PS X (.For tg iter body [] pos) (tS C sl ms lm lm' rm rk (fFor2 xs set f)) :=
  PS.conv (ps_for hp hc hi hg hb hs) fun D σ H ⟨r, T, hd, he⟩ => by
    refine ⟨r, T, hd, ends_mono (ends_bind he) (fun lr el q J S1 H1 kd hl G => ?_) fun c q => q⟩
    obtain ⟨l, r0⟩ := lr
    have G : Goes C.K J g S1 H1 (lv 0) l is parts := G
    refine ⟨fun i m σ' H2 => m = l.length - i ∧ i ≤ l.length ∧ ∃ r', Hd C (keepA S1 :: T ++ Env C.K C.A lm (sl r') σ') H2 ∧ ends (loop set f (l.drop i) r') (fun
      | .nx r' => ∀ σ' H', Hd C (T ++ Env C.K C.A lm (sl r') σ') H' → D.nx σ' H'
      | .rt a r' => ∀ v σ' H', Hd C (itm C.K rk a v :: Env C.K C.A rm (sl r') σ') H' → D.rt v H'
      | .bk r' => ∀ σ' H', Hd C (T ++ Env C.K C.A lm' (sl r') σ') H' → D.bk σ' H'
      | .ct r' => ∀ σ' H', Hd C (T ++ Env C.K C.A lm' (sl r') σ') H' → D.ct σ' H') (fun c => ∀ H', Fr C H' → C.W H' c), ⟨l.length, by simp, Nat.zero_le _, r0, kd, by rw [List.drop_zero]; exact q⟩, ?_⟩
    rintro i m σ2 H2 ⟨rfl, hi2, r2, hd2, q2⟩
    have sub : Sub S1 H2 := by
      obtain ⟨S, F, ⟨F1, F2, e1, h1, h2⟩, o⟩ := id hd2
      exact h1.2.trans o.sh
    by_cases hlt : i < l.length
    · refine .inr ⟨G.go i H2 hlt sub, fun σ' H' => ∃ m', m' < l.length - i ∧ (m' = l.length - (i + 1) ∧ i + 1 ≤ l.length ∧ ∃ r', Hd C (keepA S1 :: T ++ Env C.K C.A lm (sl r') σ') H' ∧ ends (loop set f (l.drop (i + 1)) r') (fun
      | .nx r' => ∀ σ' H', Hd C (T ++ Env C.K C.A lm (sl r') σ') H' → D.nx σ' H'
      | .rt a r' => ∀ v σ' H', Hd C (itm C.K rk a v :: Env C.K C.A rm (sl r') σ') H' → D.rt v H'
      | .bk r' => ∀ σ' H', Hd C (T ++ Env C.K C.A lm' (sl r') σ') H' → D.bk σ' H'
      | .ct r' => ∀ σ' H', Hd C (T ++ Env C.K C.A lm' (sl r') σ') H' → D.ct σ' H') (fun c => ∀ H', Fr C H' → C.W H' c)), fun σ' H' h => h, fun x H3 hy => ?_⟩
      refine G.yld i l[i] H2 x H3 σ2 _ (List.getElem?_eq_getElem hlt) sub hy fun vs s23 pt => ?_
      have hlen := (Hd.lens hd2)
      have hd3 := Hd.parts (is := is) (ps := parts l[i]) (vs := vs) (hd2.grow s23) pt (hpl _) (fun i hi => by have := hin i hi; omega)
      rw [show setSlots (sl r2) is (parts l[i]) = sl (set l[i] r2) from (hset _ _).symm] at hd3
      rw [List.drop_eq_getElem_cons hlt] at q2
      refine ⟨set l[i] r2, keepA S1 :: T, hd3, ends_mono (ends_bind q2) (fun fl efl q3 => ?_) fun c q => q⟩
      cases fl with
      | nx r' => exact fun σ' H' h' => ⟨l.length - (i + 1), by omega, rfl, by omega, r', h', q3⟩
      | ct r' => exact fun σ' H' h' => ⟨l.length - (i + 1), by omega, rfl, by omega, r', h', q3⟩
      | bk r' => exact fun σ' H' h' => q3 σ' H' (Hd.drop h')
      | rt a r' => exact q3
    · rw [show l.drop i = [] from List.drop_eq_nil_iff.mpr (by omega)] at q2
      exact .inl ⟨G.stop i H2 (by omega) sub, q2 σ2 H2 (Hd.drop hd2)⟩
theorem pw2_rng1 {i : Nat} {tg : Expr} {f : ρ → M (Int × ρ)} (hg : Gl X "range") (hm : X.mg "range" = none) (h : PE X e (tE C sl ms ms1 f 0))
    (hs : starEach [e] X.env = [(false, eval e X.env)] := by rfl) (hs2 : starEach [e] X.env = (false, eval e X.env) :: starEach [] X.env := by rfl) : PI X tg (.Call (.Name "range" p) [e] [] pos) (tW2 C sl ms ms1 (E1 rng1 f) (gName i) [i] (fun b => [⟨b⟩])) :=
  PI.conv (pi_range1 hg hm (pa_cons h pa_nil hs2) hs) fun σ H R ⟨r, T, hd, he⟩ => ⟨r, T, hd, ends_mono (ends_bind he) (fun ar _ q v H1 hd1 => by
    obtain ⟨l, el, q⟩ := up_ends (ends_bind q)
    have hn : v = .int ar.1 := rep_scal hd1.look1
    obtain ⟨hl, h1, h2, h3, h4, e⟩ := rng_len el
    subst e
    obtain ⟨S, F, st, o⟩ := hd1.drop
    refine ⟨ar.1, by rw [hn], h3, h4, ?_⟩
    have := q (Itr 0 ar.1.toNat) S H1 (Hd.keep st o) hl
    rw [Int.sub_zero] at this
    exact this goes_rng) fun c q => q⟩
end

/-! ### name, name = e, e -/
def gNames : List Nat → TGs
  | [] => gNil
  | i :: is => gCons (gName i) (gNames is)
def allBy : List Ad → Bool
  | [] => true
  | .va _ :: ds => allBy ds
  | _ => false
def setMs : List Mode → List Nat → List Ad → List Mode
  | ms, i :: is, .va k :: ds => setMs (ms.set i (lv k)) is ds
  | ms, _, _ => ms
theorem Hd.setA {C : Ct} {σ0 : L2.St} {s1 : List Slot} {H : Hp} : ∀ {ds : List Ad} {is : List Nat} {ss : List Slot} {vs : List V} {ms : List Mode} {l : List Slot} {σ : L2.St} {T : List Assn}, Hd C (Got C σ0 s1 ds ss vs ++ (T ++ Env C.K C.A ms l σ)) H → allBy ds = true → is.length = ds.length → (∀ i ∈ is, i < ms.length) →
    Hd C (T ++ Env C.K C.A (setMs ms is ds) (setSlots l is ss) (setAll σ is vs)) H
  | [], [], [], [], _, _, _, _, h, _, _, _ => h
  | [], _ :: _, _, _, _, _, _, _, _, _, e, _ => by simp at e
  | _ :: _, [], _, _, _, _, _, _, _, _, e, _ => by simp at e
  | [], [], [], _ :: _, _, _, _, _, h, _, _, _ => (h.fact (p := False) fun _ _ z => z).elim
  | [], [], _ :: _, _, _, _, _, _, h, _, _, _ => (h.fact (p := False) fun _ _ z => z).elim
  | .tm _ :: _, _ :: _, _, _, _, _, _, _, _, w, _, _ => nomatch w
  | .va _ :: _, _ :: _, [], _, _, _, _, _, h, _, _, _ => (h.fact (p := False) fun _ _ z => z).elim
  | .va _ :: _, _ :: _, _ :: _, [], _, _, _, _, h, _, _, _ => (h.fact (p := False) fun _ _ z => z).elim
  | .io _ _ :: _, _ :: _, _, _, _, _, _, _, _, w, _, _ => nomatch w
  | .va k :: ds, i :: is, s :: ss, v :: vs, ms, l, σ, T, h, w, e, hi => by
    have h1 : Hd C (Got C σ0 s1 ds ss vs ++ ((slotA C.K C.A (lv k) s (some v) :: T) ++ Env C.K C.A ms l σ)) H := h.toBack
    have h2 : Hd C (slotA C.K C.A (lv k) s (some v) :: ((Got C σ0 s1 ds ss vs ++ T) ++ Env C.K C.A ms l σ)) H := by
      rw [List.append_assoc]
      exact h
    have hlen := (Hd.lens (T := slotA C.K C.A (lv k) s (some v) :: (Got C σ0 s1 ds ss vs ++ T)) h2).1
    have h3 := Hd.close (m0 := .un) (i := i) h2 (by rw [← hlen]; exact hi i List.mem_cons_self)
    rw [List.append_assoc] at h3
    exact Hd.setA (is := is) h3 w (by simpa using e) (fun j hj => by rw [List.length_set]; exact hi j (List.mem_cons_of_mem _ hj))
theorem g_names {σ : L2.St} {H : Hp} {Q : L2.St → Hp → Prop} : ∀ {is : List Nat} {vs : List V} {σ : L2.St}, is.length = vs.length → Q (setAll σ is vs) H → gNames is vs σ H Q
  | [], [], _, _, q => ⟨rfl, q⟩
  | [], _ :: _, _, e, _ => by simp at e
  | _ :: _, [], _, e, _ => by simp at e
  | i :: is, v :: vs, σ, e, q => ⟨v, vs, rfl, g_names (σ := σ.set i (some v)) (by simpa using e) q⟩
def fUnp {ρ R A : Type} (set : A → ρ → ρ) (f : ρ → M ((ρ → A) × ρ)) : ρ → M (Fl ρ R) := fun r => f r >>= fun φr => .ok (.nx (set (φr.1 φr.2) φr.2))
theorem got_len {C : Ct} {σ0 : L2.St} {s1 : List Slot} {S H : Hp} : ∀ {ds : List Ad} {ss : List Slot} {vs : List V} {F : List Addr}, Star (Got C σ0 s1 ds ss vs) S H F → vs.length = ds.length
  | [], [], [], _, _ => rfl
  | [], [], _ :: _, _, ⟨_, _, _, z, _⟩ => z.elim
  | [], _ :: _, _, _, ⟨_, _, _, z, _⟩ => z.elim
  | .va _ :: _, [], _, _, ⟨_, _, _, z, _⟩ => z.elim
  | .va _ :: _, _ :: _, [], _, ⟨_, _, _, z, _⟩ => z.elim
  | .io _ _ :: _, [], _, _, ⟨_, _, _, z, _⟩ => z.elim
  | .io _ _ :: _, _ :: _, [], _, ⟨_, _, _, z, _⟩ => z.elim
  | .tm _ :: ds, _ :: ss, _ :: vs, _, ⟨_, _, _, _, h⟩ => by rw [List.length_cons, List.length_cons, got_len h]
  | .va _ :: ds, _ :: ss, _ :: vs, _, ⟨_, _, _, _, h⟩ => by rw [List.length_cons, List.length_cons, got_len h]
  | .io _ _ :: ds, _ :: ss, _ :: vs, _, ⟨_, _, _, _, h⟩ => by rw [List.length_cons, List.length_cons, got_len h]
section
variable {X : Cx} {C : Ct} {ρ R A : Type} [TR : PyTy R] [AA : ArgTy A] {sl : ρ → List Slot} {ms ms1 ms2 lm rm : List Mode} {rk : Nat} {pos : Pos}
theorem s_unp {es : List Expr} {tg : Expr} {kk : Nat} {tpos : Pos} {is : List Nat} {n : Nat} {ds : List Ad} {f : ρ → M ((ρ → A) × ρ)} {set : A → ρ → ρ} (ha : PA X es (tAI C sl ms ms1 ds f)) (hg : PG X tg (gTup X.K n (gNames is))) (hby : allBy ds = true) (hl : is.length = ds.length) (hn : ds.length = n) (hi : ∀ i ∈ is, i < ms1.length) (hset : ∀ a r, sl (set a r) = setSlots (sl r) is (AA.al a)) (hms : ms2 = setMs ms1 is ds := by rfl) (hsz : n ≤ sizeLine := by decide)
    (hs : swapsWithSole [tg] (.Tuple es kk tpos) pos.line X.env = pure false := by rfl) (hw : swappedStores [tg] (.Tuple es kk tpos) X.env = pure none := by rfl) (h1 : (assignEach [tg] X.env).map (·.2) = [assign tg X.env] := by rfl) :
    PS X (.Assign [tg] (.Tuple es kk tpos) pos) (tS C (R := R) sl ms ms2 lm rm rk (fUnp set f)) :=
  PS.conv (ps_asg (pe_tup ha) hg hs hw h1) fun D σ H ⟨r, T, hd, he⟩ => ⟨r, T, hd, ends_mono (ends_bind he) (fun φr _ q vs H1 hd1 => by
    subst hms
    have hlv : vs.length = ds.length := by
      obtain ⟨S, F, st, o⟩ := id hd1
      obtain ⟨F1, F2, _, h1, _⟩ := st.split
      exact got_len h1
    refine ⟨by rw [hlv, hn]; exact hsz, fun p hp => ⟨p, vs, rfl, .inl (.inl upd_same), by rw [hlv, hn], g_names (σ := σ) (by rw [hl, hlv]) (q _ _ ?_)⟩⟩
    rw [hset]
    exact Hd.setA (hd1.grow (Sub.new hp)) hby hl hi) fun c q => q⟩
end
end VL
namespace VL
universe u
open PySem PySem.Spec PyProof.Rows L2

/-! ### a statement that is not reached -/
def fStuck {ρ R : Type} : ρ → M (Fl ρ R) := fun _ => .error .stuck
section
variable {X : Cx} {C : Ct} {ρ R : Type} [TR : PyTy R] {sl : ρ → List Slot} {ms ms1 ms2 lm rm : List Mode} {rk : Nat} {st : Stmt}
theorem s_stuck : PS X st (tS C (R := R) sl ms ms1 lm rm rk fStuck) := ⟨fun pins s σ H D I h => by
  obtain ⟨r, T, _, he⟩ := h
  exact he.elim⟩
end

/-! ### a, b = e -/
theorem Hd.split2 {C : Ct} {l : List Assn} {H : Hp} {k : Nat} {α β : Type} [TA : PyTy α] [TB : PyTy β] {t : α × β} {v : V} (h : Hd C (itm C.K k t v :: l) H) : ∃ p x y, v = .ref p ∧ H p = some (.tup [x, y]) ∧ Hd C (itm C.K (k - 1) t.1 x :: itm C.K (k - 1) t.2 y :: l) H := by
  obtain ⟨S, F, ⟨F1, F2, e, h1, h2⟩, o⟩ := h
  obtain ⟨p, x, y, G1, G2, ev, n, r1, r2⟩ := h1
  subst e
  cases k with
  | zero =>
    have eF : F1 = G1 ++ G2 := n.2
    subst eF
    exact ⟨p, x, y, ev, o.sh _ _ n.1, S, (G1 ++ G2) ++ F2, ⟨G1, G2 ++ F2, List.append_assoc .., r1, G2, F2, rfl, r2, h2⟩, o⟩
  | succ k =>
    have eF : F1 = p :: (G1 ++ G2) := n.2
    subst eF
    refine ⟨p, x, y, ev, n.1, S, (G1 ++ G2) ++ F2, ⟨G1, G2 ++ F2, List.append_assoc .., r1, G2, F2, rfl, r2, h2⟩, o.less ?_⟩
    exact List.sublist_cons_self _ _
section
variable {X : Cx} {C : Ct} {ρ R α β γ : Type} [TR : PyTy R] [TA : PyTy α] [TB : PyTy β] [TC : PyTy γ] {sl : ρ → List Slot} {ms ms1 ms2 lm rm : List Mode} {rk k : Nat} {e tg : Expr} {pos : Pos}
theorem s_unpP {i j : Nat} {f : ρ → M ((α × β) × ρ)} {set : α × β → ρ → ρ} (he : PE X e (tE C sl ms ms1 f k)) (hg : PG X tg (gTup X.K 2 (gNames [i, j]))) (hi : i < ms1.length) (hj : j < ms1.length) (hset : ∀ a r, sl (set a r) = ((sl r).set i ⟨a.1⟩).set j ⟨a.2⟩) (hms : ms2 = (ms1.set i (lv (k - 1))).set j (lv (k - 1)) := by rfl)
    (hs : swapsWithSole [tg] e pos.line X.env = pure false := by rfl) (hw : swappedStores [tg] e X.env = pure none := by rfl) (h1 : (assignEach [tg] X.env).map (·.2) = [assign tg X.env] := by rfl) : PS X (.Assign [tg] e pos) (tS C (R := R) sl ms ms2 lm rm rk (fSet set f)) :=
  PS.conv (ps_asg he hg hs hw h1) fun D σ H ⟨r, T, hd, he⟩ => ⟨r, T, hd, ends_mono (ends_bind he) (fun ar _ q v H1 hd1 => by
    subst hms
    obtain ⟨p, x, y, ev, hp, hd2⟩ := hd1.split2
    refine ⟨p, [x, y], ev, .inl (.inl hp), rfl, x, [y], rfl, y, [], rfl, rfl, q _ H1 ?_⟩
    rw [hset]
    have hl := (Hd.lens (T := itm C.K (k - 1) ar.1.1 x :: itm C.K (k - 1) ar.1.2 y :: T) hd2).1
    have h3 : Hd C (itm C.K (k - 1) ar.1.1 x :: ((itm C.K (k - 1) ar.1.2 y :: T) ++ Env C.K C.A ms1 (sl ar.2) σ)) H1 := hd2
    have h4 := Hd.close' (i := i) h3 (by omega)
    exact Hd.close' (i := j) (T := T) h4 (by rw [List.length_set]; omega)) fun c q => q⟩
end

/-! ### t[0], t[1] -/
section
variable {X : Cx} {W : Hp → String → Prop} {ρ : Type} {sl : ρ → List Slot} {ms : List Mode} {a b e : Expr} {pos p p2 : Pos} {kk : Nat} {α β : Type} [TA : PyTy α] [TB : PyTy β] {kd : Mode}
theorem pv_fst {f : ρ → M (α × β)} (ha : PE X a (tP X.K W sl ms f (lv 0))) : PE X (.Subscript a (.Constant (.int 0) kk p2) pos) (tP X.K W sl ms (e1 (fun t => some t.1) f) (lv 0)) :=
  PE.conv (pe_ix ix_tup ha (pv_int (K := X.K) (W := W) (sl := sl) (ms := ms)) (fun _ _ => rfl)) fun σ H Q ⟨r, S, hs, hv, he⟩ => by
    refine two (R := fun x y H2 => rIxT X.K x y H2 Q) ha (pv_int (j := kk) (pos := p2)) hs hv ?_
    refine ends_mono (ends_bind he) (fun t et q v u S2 H2 F1 F2 x g1 g2 => ?_) fun c q => q
    have e2 := rep_scal g2
    obtain ⟨p, y1, y2, G1, G2, e1, n, r1, r2⟩ := TL_zero g1
    obtain ⟨e3, e4⟩ := List.append_eq_nil_iff.mp n.2.symm
    subst e3 e4
    refine ⟨p, [y1, y2], 0, y1, e1, e2, .inl (.inl (x.sh _ _ n.1)), rfl, q y1 _ H2 [] (x.share fun p hp => (List.mem_append.mp hp).elim (g2.here p) (g1.here p)) ?_⟩
    exact TA.mono r1 (add_sub fun p hp => (x.fr p hp).2) fun p hp => nomatch hp
theorem pv_fstW {f : ρ → M (α × β)} (ha : PE X a (tP X.K W sl ms f kd)) (hk : kd ≠ .un := by decide) : PE X (.Subscript a (.Constant (.int 0) kk p2) pos) (tP X.K W sl ms (e1 (fun t => some t.1) f) .vw) :=
  PE.conv (pe_ix ix_tup ha (pv_int (K := X.K) (W := W) (sl := sl) (ms := ms)) (fun _ _ => rfl)) fun σ H Q ⟨r, S, hs, hv, he⟩ => by
    refine two (R := fun x y H2 => rIxT X.K x y H2 Q) ha (pv_int (j := kk) (pos := p2)) hs hv ?_
    refine ends_mono (ends_bind he) (fun t et q v u S2 H2 F1 F2 x g1 g2 => ?_) fun c q => q
    have e2 := rep_scal g2
    obtain ⟨p, y1, y2, G1, G2, e1, n, r1, r2⟩ := g1.look x.sh hk
    obtain ⟨e3, e4⟩ := List.append_eq_nil_iff.mp n.2.symm
    subst e3 e4
    exact ⟨p, [y1, y2], 0, y1, e1, e2, .inl (.inl n.1), rfl, q y1 _ H2 [] (x.share fun p hp => (List.mem_append.mp hp).elim (g2.here p) (g1.here p)) ⟨rfl, r1⟩⟩
theorem pv_snd {f : ρ → M (α × β)} (ha : PE X a (tP X.K W sl ms f (lv 0))) : PE X (.Subscript a (.Constant (.int 1) kk p2) pos) (tP X.K W sl ms (e1 (fun t => some t.2) f) (lv 0)) :=
  PE.conv (pe_ix ix_tup ha (pv_int (K := X.K) (W := W) (sl := sl) (ms := ms)) (fun _ _ => rfl)) fun σ H Q ⟨r, S, hs, hv, he⟩ => by
    refine two (R := fun x y H2 => rIxT X.K x y H2 Q) ha (pv_int (j := kk) (pos := p2)) hs hv ?_
    refine ends_mono (ends_bind he) (fun t et q v u S2 H2 F1 F2 x g1 g2 => ?_) fun c q => q
    have e2 := rep_scal g2
    obtain ⟨p, y1, y2, G1, G2, e1, n, r1, r2⟩ := TL_zero g1
    obtain ⟨e3, e4⟩ := List.append_eq_nil_iff.mp n.2.symm
    subst e3 e4
    refine ⟨p, [y1, y2], 1, y2, e1, e2, .inl (.inl (x.sh _ _ n.1)), rfl, q y2 _ H2 [] (x.share fun p hp => (List.mem_append.mp hp).elim (g2.here p) (g1.here p)) ?_⟩
    exact TB.mono r2 (add_sub fun p hp => (x.fr p hp).2) fun p hp => nomatch hp
theorem pv_sndW {f : ρ → M (α × β)} (ha : PE X a (tP X.K W sl ms f kd)) (hk : kd ≠ .un := by decide) : PE X (.Subscript a (.Constant (.int 1) kk p2) pos) (tP X.K W sl ms (e1 (fun t => some t.2) f) .vw) :=
  PE.conv (pe_ix ix_tup ha (pv_int (K := X.K) (W := W) (sl := sl) (ms := ms)) (fun _ _ => rfl)) fun σ H Q ⟨r, S, hs, hv, he⟩ => by
    refine two (R := fun x y H2 => rIxT X.K x y H2 Q) ha (pv_int (j := kk) (pos := p2)) hs hv ?_
    refine ends_mono (ends_bind he) (fun t et q v u S2 H2 F1 F2 x g1 g2 => ?_) fun c q => q
    have e2 := rep_scal g2
    obtain ⟨p, y1, y2, G1, G2, e1, n, r1, r2⟩ := g1.look x.sh hk
    obtain ⟨e3, e4⟩ := List.append_eq_nil_iff.mp n.2.symm
    subst e3 e4
    exact ⟨p, [y1, y2], 1, y2, e1, e2, .inl (.inl n.1), rfl, q y2 _ H2 [] (x.share fun p hp => (List.mem_append.mp hp).elim (g2.here p) (g1.here p)) ⟨rfl, r2⟩⟩
end

/-! ### b is True -/
def rIsB : R2 := fun x y H Q => ∃ a b, x = .bl a ∧ y = .bl b ∧ Q (.bl (decide (a = b))) H
theorem op_isB {X : Cx} : OpR X (compareOp .Is) rIsB := by
  intro pins s σ H x y v u Q I rx ry h
  obtain ⟨a, b, rfl, rfl, q⟩ := h
  cases rx
  cases ry
  refine wpAny_is_plain rfl ⟨.bl (decide (a = b)), H, I, ?_, q⟩
  cases a <;> cases b <;> rfl
theorem op_isnB {X : Cx} : OpR X (compareOp .IsNot) (fun x y H Q => ∃ a b, x = .bl a ∧ y = .bl b ∧ Q (.bl (!decide (a = b))) H) := by
  intro pins s σ H x y v u Q I rx ry h
  obtain ⟨a, b, rfl, rfl, q⟩ := h
  cases rx
  cases ry
  refine wpAny_isNot_plain rfl ⟨.bl (!decide (a = b)), H, I, ?_, q⟩
  cases a <;> cases b <;> rfl
def isBB (x y : Bool) : Option Bool := some (decide (x = y))
def isnBB (x y : Bool) : Option Bool := some (!decide (x = y))
section
variable {K : PySem.W.Frag}
theorem o_isB : Op2 K rIsB isBB 0 := Op2.scal (α := Bool) (β := Bool) (γ := Bool) fun H a b c Q e q => by cases e; exact ⟨a, b, rfl, rfl, q⟩
theorem o_isnB : Op2 K (fun x y H Q => ∃ a b, x = .bl a ∧ y = .bl b ∧ Q (.bl (!decide (a = b))) H) isnBB 0 := Op2.scal (α := Bool) (β := Bool) (γ := Bool) fun H a b c Q e q => by cases e; exact ⟨a, b, rfl, rfl, q⟩

/-! ### sorted of pairs -/
def leP (p q : Int × Int) : Bool := decide (p.1 < q.1 ∨ (p.1 = q.1 ∧ p.2 ≤ q.2))
def sortP (l : List (Int × Int)) : Option (List (Int × Int)) := some (l.mergeSort leP)
theorem leP_anti {p q : Int × Int} (h1 : leP p q = true) (h2 : leP q p = true) : p = q := by
  unfold leP at h1 h2
  have a := of_decide_eq_true h1
  have b := of_decide_eq_true h2
  exact Prod.ext (by omega) (by omega)
theorem sortP_uniq {l m : List (Int × Int)} (hp : l.Perm m) (h1 : l.Pairwise fun a b => leP a b = true) (h2 : m.Pairwise fun a b => leP a b = true) : l = m :=
  List.Perm.eq_of_pairwise (fun a b _ _ x y => leP_anti x y) h1 h2 hp
theorem sortP_spec (l : List (Int × Int)) : (l.mergeSort leP).Perm l ∧ (l.mergeSort leP).Pairwise fun a b => leP a b = true :=
  ⟨List.mergeSort_perm l _, List.pairwise_mergeSort (le := leP) (fun a b c h1 h2 => by unfold leP at *; simp at *; omega) (fun a b => by unfold leP; simp; omega) l⟩
def keyP (H : Hp) (v : V) : Int × Int := match v with
  | .ref t => match H t with
    | some (.tup [.int i, .int j]) => (i, j)
    | _ => (0, 0)
  | _ => (0, 0)
theorem reps_key {H : Hp} : ∀ {vs : List V} {l : List (Int × Int)}, Reps (fun v a F => (instProd (α := Int) (β := Int)).rep K 0 H H v a F) vs l [] → l = vs.map (keyP H) ∧ ∀ x ∈ vs, ∃ t, x = .ref t ∧ H t = some (.tup [.int (keyP H x).1, .int (keyP H x).2])
  | [], [], _ => ⟨rfl, fun x hx => nomatch hx⟩
  | [], _ :: _, h => h.elim
  | _ :: _, [], h => h.elim
  | v :: vs, a :: as, ⟨F1, F2, e, ⟨p, x, y, G1, G2, ev, n, r1, r2⟩, h2⟩ => by
    obtain ⟨e1, e2⟩ := List.append_eq_nil_iff.mp e.symm
    subst e1 e2
    obtain ⟨i1, i2⟩ := reps_key h2
    have ex : x = .int a.1 := rep_scal r1
    have ey : y = .int a.2 := rep_scal r2
    subst ex ey ev
    have hk : keyP H (.ref p) = a := by
      have n1 : H p = some (.tup [.int a.1, .int a.2]) := n.1
      unfold keyP
      show (match H p with
        | some (.tup [.int i, .int j]) => (i, j)
        | _ => (0, 0)) = a
      rw [n1]
    refine ⟨by rw [List.map_cons, hk, ← i1], fun z hz => ?_⟩
    rcases List.mem_cons.mp hz with e | hz
    · subst e
      exact ⟨p, rfl, by rw [hk]; exact n.1⟩
    · exact i2 z hz
theorem key_reps {H : Hp} {S : Hp} : ∀ {vs : List V}, (∀ x ∈ vs, ∃ t, x = .ref t ∧ S t = some (.tup [.int (keyP H x).1, .int (keyP H x).2])) → ∀ H', Reps (fun v a F => (instProd (α := Int) (β := Int)).rep K 0 S H' v a F) vs (vs.map (keyP H)) []
  | [], _, _ => rfl
  | v :: vs, h, H' => by
    obtain ⟨t, e, n⟩ := h v List.mem_cons_self
    exact ⟨[], [], rfl, ⟨t, _, _, [], [], e, ⟨n, rfl⟩, Scal.scal.mpr ⟨rfl, rfl⟩, Scal.scal.mpr ⟨rfl, rfl⟩⟩, key_reps (fun x hx => h x (List.mem_cons_of_mem _ hx)) H'⟩
end
section
variable {X : Cx} {W : Hp → String → Prop} {ρ : Type} {sl : ρ → List Slot} {ms : List Mode} {a b e : Expr} {pos p p2 : Pos}
theorem pv_sortP {f : ρ → M (List (Int × Int))} (hg : Gl X "sorted") (hm : X.mg "sorted" = none) (ha : PE X a (tP X.K W sl ms f (lv 0))) (he : starEach [a] X.env = (false, eval a X.env) :: starEach [] X.env := by rfl) (hpl : (backTo pos (starEach [] X.env)).any (·.1) = false := by rfl) : PE X (.Call (.Name "sorted" p) [a] [] pos) (tP X.K W sl ms (e1 sortP f) (lv 1)) :=
  PE.conv (pe_callB cr_sortedPO hg hm boot_sorted (pa_cons ha pa_nil he) (by decide) (by decide) he hpl) fun σ H Q ⟨r, S, hs, hv, he⟩ => ⟨r, S, hs, hv, ends_mono (ends_bind he) (fun l el q v S1 H1 F x g => by
    have eF : F = [] := PyTy.zero g
    subst eF
    obtain ⟨p, xs, F', e1, n, z, rr⟩ := g
    have e3 : F' = [] := n.2.symm
    subst e3
    have hS : Reps (fun v a F => (instProd (α := Int) (β := Int)).rep X.K 0 S1 S1 v a F) xs l [] := rr.imp fun v a F hF q => by
      rw [PyTy.zero q]
      exact PyTy.froz q S1
    obtain ⟨k1, k2⟩ := reps_key hS
    refine ⟨p, xs, keyP S1, by rw [e1], .inl (.inl (x.sh _ _ n.1)), fun y hy => let ⟨t, et, nt⟩ := k2 y hy; ⟨t, et, x.sh _ _ nt⟩, fun ys p2 hsr hst hp => ?_⟩
    have hlen : ys.length = xs.length := hst.perm.length_eq
    have ek : l.mergeSort leP = ys.map (keyP S1) := by
      obtain ⟨s1, s2⟩ := sortP_spec l
      refine sortP_uniq ?_ s2 ?_
      · refine s1.trans ?_
        rw [k1]
        exact (hst.perm.map _).symm
      · refine List.pairwise_map.mpr (hsr.imp fun {a b} h => ?_)
        have := SrtO.lexB_no.mp h
        unfold leP
        exact decide_eq_true (by omega)
    have hy : ∀ y ∈ ys, ∃ t, y = .ref t ∧ S1 t = some (.tup [.int (keyP S1 y).1, .int (keyP S1 y).2]) := fun y hy => k2 y (hst.perm.mem_iff.mp hy)
    obtain ⟨x2, g2⟩ := new_list (K := X.K) (l := l.mergeSort leP) x.sh hp (xs := ys) (by rw [hlen]; exact z) fun H => by rw [ek]; exact key_reps hy H
    have := x.trans x2 (fun p hp => nomatch hp)
    exact q _ _ _ _ this g2) fun c q => q⟩
/-- sorted(xs, reverse=True) -/
def sortR (l : List Int) : Option (List Int) := some (l.mergeSort fun a b => decide (b ≤ a))
theorem sortR_spec (l : List Int) : (l.mergeSort fun a b => decide (b ≤ a)).Perm l ∧ (l.mergeSort fun a b => decide (b ≤ a)).Pairwise (· ≥ ·) := by
  refine ⟨List.mergeSort_perm l _, ?_⟩
  have := List.pairwise_mergeSort (le := fun a b : Int => decide (b ≤ a)) (fun a b c h1 h2 => by simp at *; omega) (fun a b => by simp; omega) l
  exact this.imp fun h => of_decide_eq_true h
end
end VL
namespace VL
universe u
open PySem PySem.Spec PyProof.Rows L2

/-! ### sorted(xs, reverse=True) -/
section
variable {X : Cx} {W : Hp → String → Prop} {ρ : Type} {sl : ρ → List Slot} {ms : List Mode} {a b e : Expr} {pos p p2 p3 : Pos} {kd : Mode} {jj : Nat}
theorem pv_sortR {f : ρ → M (List Int)} (hg : Gl X "sorted") (hm : X.mg "sorted" = none) (ha : PE X a (tP X.K W sl ms f kd)) (hk : kd ≠ .un := by decide) (hs : starEach [a] X.env = (false, eval a X.env) :: starEach [] X.env := by rfl)
    (he : backTo pos (starEach [a] X.env) = (false, eval a X.env) :: backTo pos (starEach [] X.env) := by rfl) (hpl : (backTo pos (starEach [a] X.env)).any (·.1) = false := by rfl)
    (hall : (backToKw pos (keywordEach [⟨some "reverse", .Constant (.bool true) jj p2, p3⟩] X.env)).all (·.1.isSome) = true := by rfl) (hnone : (backToKw pos (keywordEach [⟨some "reverse", .Constant (.bool true) jj p2, p3⟩] X.env)).any (·.1.isNone) = false := by rfl) (hks : (backToKw pos (keywordEach [⟨some "reverse", .Constant (.bool true) jj p2, p3⟩] X.env)).filterMap (·.1) = [Str.ofString "reverse"] := by rfl) :
    PE X (.Call (.Name "sorted" p) [a] [⟨some "reverse", .Constant (.bool true) jj p2, p3⟩] pos) (tP X.K W sl ms (e1 sortR f) (lv 1)) :=
  PE.conv (pe_callBK (cr_sortedRev (b := true)) hg hm boot_sorted (pa_cons ha pa_nil hs) (pk_cons pe_bl pk_nil) (by decide) (by decide) he hpl hall hnone hks) fun σ H Q ⟨r, S, hs, hv, he⟩ => ⟨r, S, hs, hv, ends_mono (ends_bind he) (fun l el q v S1 H1 F x g => by
    obtain ⟨p, e1, n, z⟩ := rep_list (g.look x.sh hk)
    refine ⟨p, l, by rw [e1], rfl, .inl (.inl n), fun ns p2 hp ho hn => ?_⟩
    obtain ⟨s1, s2⟩ := sortR_spec l
    have en : ns = l.mergeSort fun a b => decide (b ≤ a) := List.Perm.eq_of_pairwise (fun a b _ _ x y => by omega) (show ns.Pairwise (· ≥ ·) from ho) s2 (hp.trans s1.symm)
    subst en
    have x0 := x.share g.here
    obtain ⟨x2, g2⟩ := new_list (K := X.K) (l := l.mergeSort fun a b => decide (b ≤ a)) x0.sh hn (xs := (l.mergeSort fun a b => decide (b ≤ a)).map V.int) (by rw [List.length_map, s1.length_eq]; exact z) fun H => scal_reps (α := Int)
    have := x0.trans x2 (fun p hp => nomatch hp)
    exact q _ _ _ _ this g2) fun c q => q⟩
end

/-! ### own lists: x.insert(i, a), x.reverse() -/
section
variable {X : Cx} {C : Ct} {ρ R : Type} [TR : PyTy R] {sl : ρ → List Slot} {ms ms1 ms2 lm rm : List Mode} {rk : Nat} {α β : Type} [TA : PyTy α] [TB : PyTy β] {pos p2 : Pos} {e a b : Expr}
@[irreducible] def insL {α : Type} (l : List α) (i : Int) (a : α) : Option (List α) := if l.length < 2 ^ 24 ∧ 0 ≤ i ∧ i < 2 ^ 62 then some (l.take i.toNat ++ [a] ++ l.drop i.toNat) else none
def fIns {ρ R α : Type} (get : ρ → List α) (set : List α → ρ → ρ) (f : ρ → M (Int × ρ)) (g : ρ → M (α × ρ)) : ρ → M (Fl ρ R) := fun r => f r >>= fun ir => g ir.2 >>= fun ar => up (insL (get ar.2) ir.1 ar.1) >>= fun l => .ok (.nx (set l ar.2))
theorem s_ins [SA : Scal α] {i k kb : Nat} {io : Option Nat} {get : ρ → List α} {set : List α → ρ → ρ} {f : ρ → M (Int × ρ)} {g : ρ → M (α × ρ)} (h : PE X e (tBM C.K "list" (fun x vs H Q => ∃ (l : Addr) (xs : List V) (i : Int) (y : V), x = .ref l ∧ vs = [.int i, y] ∧ H l = some (.lst xs) ∧ xs.length < sizeLine ∧ 0 ≤ i ∧ i < 2 ^ 63 ∧
    Q .non (upd H l (.lst (xs.take i.toNat ++ [y] ++ xs.drop i.toNat)))) (tVar i) (tCons (tE C sl ms ms1 f 0) (tCons (tE C sl ms1 ms2 g kb) tNil))))
    (hm : ms[i]? = some (.own (k + 1) io)) (hm2 : ms2[i]? = some (.own (k + 1) io)) (hg : ∀ r, (sl r)[i]? = some ⟨get r⟩) (hset : ∀ a r, sl (set a r) = (sl r).set i ⟨a⟩) (hs : swapsWith e none pos.line X.env = pure false := by rfl) : PS X (.Expr e pos) (tS C (R := R) sl ms ms2 lm rm rk (fIns get set f g)) :=
  PS.conv (ps_expr h hs) fun D σ H ⟨r, T, hd, he⟩ => by
    obtain ⟨v, ev, hd0⟩ := hd.open hm (hg r)
    obtain ⟨p0, xs0, ep, n0⟩ : ∃ p0 xs0, v = some (.ref p0) ∧ H p0 = some (.lst xs0) := hd0.at fun S F ⟨x0, ex0, io0, p0, xs0, F', ep, n0, _, _⟩ => ⟨p0, xs0, by rw [ex0, ep], n0.1⟩
    subst ep
    refine ⟨.ref p0, ev, Or.inl ⟨rfl, _, Or.inl (Or.inl n0)⟩, r, T, hd, ends_mono (ends_bind he) (fun ir _ q y H1 hd1 => ?_) fun c q => q⟩
    have ey : y = .int ir.1 := rep_scal hd1.look1
    subst ey
    refine ⟨ir.2, T, hd1.drop, ends_mono (ends_bind q) (fun ar _ q z H2 hd2 => ?_) fun c q => q⟩
    have ez : z = SA.val ar.1 := rep_scal hd2.look1
    obtain ⟨l', el, q⟩ := up_ends (ends_bind q)
    have hd3 := hd2.drop
    obtain ⟨v', ev', hd4⟩ := hd3.open hm2 (hg ar.2)
    rw [ev] at ev'
    cases ev'
    have hx : ∃ xs, H2 p0 = some (.lst xs) := hd4.fact fun S F ⟨x1, ex1, io1, p1, xs1, G', ep1, n1, z1, r1⟩ => by
      cases ex1; cases ep1
      exact ⟨xs1, n1.1⟩
    have hx2 : H2 p0 = some (.lst ((get ar.2).map SA.val)) ∧ (get ar.2).length ≤ line := hd4.fact fun S F ⟨x1, ex1, io1, p1, xs1, G', ep1, n1, z1, r1⟩ => by
      cases ex1; cases ep1
      obtain ⟨e1, e2⟩ := reps_scal r1
      rw [e1] at z1 n1
      exact ⟨n1.1, by rwa [List.length_map] at z1⟩
    unfold insL at el
    split at el
    · rename_i hh
      cases el
      have hlen : ((get ar.2).map SA.val).length < sizeLine := by rw [List.length_map]; exact hh.1
      refine ⟨p0, _, ir.1, z, rfl, rfl, hx2.1, hlen, hh.2.1, Int.lt_trans hh.2.2 (by decide), ?_⟩
      have em : ((get ar.2).map SA.val).take ir.1.toNat ++ [z] ++ ((get ar.2).map SA.val).drop ir.1.toNat = ((get ar.2).take ir.1.toNat ++ [ar.1] ++ (get ar.2).drop ir.1.toNat).map SA.val := by
        rw [ez, ← List.map_take, ← List.map_drop, List.map_append, List.map_append]
        rfl
      rw [em]
      have hd5 : Hd C (slotA C.K C.A (.own (k + 1) io) ⟨(get ar.2).take ir.1.toNat ++ [ar.1] ++ (get ar.2).drop ir.1.toNat⟩ (some (.ref p0)) :: (T ++ Env C.K C.A (ms2.set i .un) (sl ar.2) σ)) (L2.upd H2 p0 (.lst (((get ar.2).take ir.1.toNat ++ [ar.1] ++ (get ar.2).drop ir.1.toNat).map SA.val))) := by
        refine hd4.upd fun S F hA nd dj sh => ?_
        obtain ⟨x2, ex2, io2, p2, xs2, G', ep2, n2, z2, r2⟩ := hA
        cases ex2
        cases ep2
        have eG : F = p0 :: G' := n2.2
        subst eG
        refine ⟨List.mem_cons_self, [p0], List.nodup_cons.mpr ⟨by simp, List.nodup_nil⟩, fun q hq => by rw [List.mem_singleton.mp hq]; exact List.mem_cons_self, .ref p0, rfl, io2, p0, _, [], rfl, ⟨upd_same, rfl⟩, ?_, scal_reps⟩
        rw [List.length_map, List.length_append, List.length_append, List.length_take, List.length_drop]
        have := hh.1
        show _ ≤ 2 ^ 24
        simp
        omega
      have hl : i < σ.length := (List.getElem?_eq_some_iff.mp ev).1
      have hd6 := Hd.close (m0 := .un) (i := i) hd5 hl
      have e1 : σ.set i (some (.ref p0)) = σ := by
        obtain ⟨h1, h2⟩ := List.getElem?_eq_some_iff.mp ev
        rw [← h2]
        exact List.set_getElem_self h1
      have e3 : (ms2.set i .un).set i (.own (k + 1) io) = ms2 := by
        obtain ⟨h1, h2⟩ := List.getElem?_eq_some_iff.mp hm2
        rw [List.set_set, ← h2]
        exact List.set_getElem_self h1
      rw [e1, e3, ← hset] at hd6
      exact q σ _ hd6
    · cases el
def fMut0 {ρ R α : Type} (pl : ρ → M (List α × (List α → ρ))) (φ : List α → List α) : ρ → M (Fl ρ R) := fun r => pl r >>= fun lw => .ok (.nx (lw.2 (φ lw.1)))
/-- a list at a place is turned about -/
theorem Reps.rev {r : V → α → List Addr → Prop} : ∀ {vs : List V} {as : List α} {F : List Addr}, Reps r vs as F → ∃ F', F'.Perm F ∧ Reps r vs.reverse as.reverse F'
  | [], [], F, h => ⟨F, .refl _, h⟩
  | [], _ :: _, _, h => h.elim
  | _ :: _, [], _, h => h.elim
  | v :: vs, a :: as, _, ⟨F1, F2, e, h1, h2⟩ => by
    obtain ⟨F', p, h'⟩ := Reps.rev h2
    refine ⟨F' ++ F1, ?_, ?_⟩
    · rw [e]
      exact (List.perm_append_comm).trans (List.Perm.append_left F1 p)
    · rw [List.reverse_cons, List.reverse_cons]
      exact Reps.append h' ⟨F1, [], (List.append_nil _).symm, h1, rfl⟩
theorem s_rev {k : Nat} {te : TE} {pl : ρ → M (List α × (List α → ρ))} (rc : Rcv C sl ms k te pl) (h : PE X e (tBM0 C.K "list" rReverse te)) (hs : swapsWith e none pos.line X.env = pure false := by rfl) : PS X (.Expr e pos) (tS C (R := R) sl ms ms lm rm rk (fMut0 pl List.reverse)) :=
  PS.conv (ps_expr h hs) fun D σ H ⟨r, T, hd, he⟩ => by
    refine rc σ H r T _ hd (ends_mono (ends_bind he) (fun lw _ q p H1 s1 hd1 hx rd => ⟨Or.inl ⟨rfl, _, Or.inl (Or.inl hx.choose_spec)⟩, ?_⟩) fun c q => q)
    obtain ⟨A, A', L, hd4, fc, back⟩ := rd H1 T anyA (Sub.refl _) hd1.any
    obtain ⟨S, xs, F1, F2, sh, hx0, hz, hr, hb⟩ := fc.here hd4
    refine ⟨p, xs, rfl, rfl, hx0, q σ _ (back _ _ (hd4.chg fc hx0 (fun S F1 F2 _ r1 r2 nd => ?_) (by rw [List.length_reverse]; exact hz)))⟩
    obtain ⟨F', pm, rr⟩ := r1.rev
    exact ⟨F', pm.nodup_iff.mpr (List.nodup_append.mp nd).1, fun q hq => List.mem_append_left _ (pm.mem_iff.mp hq), rr⟩

/-! ### place[j] op= e, of whole numbers; place[i], place[j] = e, e -/
theorem pget_list : PGet X (rIxL X.K) := by
  intro pins s σ H x y v u Q I rx ry h
  obtain ⟨p, xs, i, z, rfl, rfl, hq, he, q⟩ := h
  cases rx
  obtain ⟨t, rfl⟩ := ry
  obtain ⟨its, r, pl, hz⟩ := I.list hq
  obtain ⟨j, h1, h2, h3, h4, h5⟩ := atI_get he
  obtain ⟨w, ew, rw'⟩ := r.get h2
  have hl := r.length
  have hn := line63
  have fin : EP X pins σ Q w s := ⟨z, H, I, rw', q⟩
  by_cases h0 : 0 ≤ i
  · have hj : i.toNat = j := by
      rw [seqIndex_of h0 h5] at h1
      exact Option.some.inj h1
    exact wpAny_getItem_list pl.isList h0 (by omega) (by rw [hj]; simpa using ew) fin
  · have hj : (i + (its.toArray.size : Int)).toNat = j := by
      rw [seqIndex_neg (by omega) h4] at h1
      rw [List.size_toArray, ← hl]
      exact Option.some.inj h1
    exact wpAny_getItem_list_neg pl.isList (by omega) (by rw [List.size_toArray] <;> omega) (by omega) (by rw [hj]; simpa using ew) fin
def fAugP {ρ R : Type} (pl : ρ → M (List Int × (List Int → ρ))) (fj : ρ → M Int) (op : Int → Int → Option Int) (f : ρ → M Int) : ρ → M (Fl ρ R) := fun r => pl r >>= fun lw => fj r >>= fun j => up (ixL lw.1 j) >>= fun x => f r >>= fun y => up (op x y) >>= fun z => up (putL lw.1 j z) >>= fun l' => .ok (.nx (lw.2 l'))
theorem s_augP {k : Nat} {to : TE} {pl : ρ → M (List Int × (List Int → ρ))} {fj f : ρ → M Int} {opI : Int → Int → Option Int} {fn : Int → Int → Int} {o i e : Expr} {op : Operator} {tpos : Pos} (rc : Rcv C sl ms k to pl) (ho : PE X o to) (hi : PE X i (tP C.K C.W sl (ms.map downM) fj (lv 0))) (he : PE X e (tP C.K C.W sl (ms.map downM) f (lv 0))) (hp : PIp X op (ipI fn)) (hop : ∀ a b, opI a b = some (fn a b)) (hK : C.K = X.K := by rfl)
    (ha : ∀ ov iv new, augStore i ov iv new = (do holding [new, ov, iv] (setItem ov iv new); release [new, ov, iv] []; pure .next) := by intros; rfl) : PS X (.AugAssign (.Subscript o i tpos) op e pos) (tS C (R := R) sl ms ms lm rm rk (fAugP pl fj opI f)) :=
  PS.conv (ps_augS ho hi pget_list he hp set_list ha) fun D σ H ⟨r, T, hd, he⟩ => by
    refine rc σ H r T _ hd (ends_mono (ends_bind he) (fun lw _ q p H1 s1 hd1 hx rd => ?_) fun c q => q)
    refine look_hd hd1 (ends_mono (ends_bind q) (fun j _ q y H2 s2 hd2 => ?_) fun c q => q)
    obtain ⟨x, ex, q⟩ := up_ends (ends_bind q)
    have ey := itm_int hd2
    subst ey
    obtain ⟨A, A', L, hd4, fc, back⟩ := rd H2 T _ s2 hd2
    obtain ⟨S, xs, F1, F2, sh, hx0, hz, hr, hb⟩ := fc.here hd4
    have exs := (reps_scal hr).1
    obtain ⟨v, at1, rv⟩ := ixL_at (r := fun v a F => v = V.int a ∧ F = []) (vs := lw.1.map V.int) (l := lw.1) (scal_reps (α := Int) (K := C.K) (k := 0) (S := H) (H := H)) ex
    refine ⟨p, xs, j, v, rfl, rfl, by rw [← hK]; exact .inl (.inl hx0), by rw [exs]; exact at1, ?_⟩
    refine look_hd hd2.drop (ends_mono (ends_bind q) (fun y _ q yv H3 s3 hd3 => ?_) fun c q => q)
    obtain ⟨z, ez, q⟩ := up_ends (ends_bind q)
    have ey := itm_int hd3
    subst ey
    rw [hop] at ez
    cases ez
    obtain ⟨l', el, q⟩ := up_ends (ends_bind q)
    refine ⟨x, y, rv.1, rfl, ?_⟩
    obtain ⟨A2, A2', L2, hd5, fc2, back2⟩ := rd H3 T anyA (s2.trans s3) hd3.drop.any
    obtain ⟨S2, xs2, G1, G2, sh2, hx2, hz2, hr2, hb2⟩ := fc2.here hd5
    obtain ⟨n, en, chg⟩ := putL_chg (C := C) (k := k) (v := .int (fn x y)) (H := H3) el hr2.len
    refine ⟨p, xs2, j, n, rfl, rfl, hx2, en, q σ _ (back2 l' _ (hd5.chg fc2 hx2 (fun S F1 F2 _ r1 r2 nd => ?_) (by rw [List.length_set]; exact hz2)))⟩
    have nd1 := (List.nodup_append.mp nd).1
    obtain ⟨F', p1, p2, p3⟩ := chg S F1 [] r1 (Scal.scal.mpr ⟨rfl, rfl⟩) (by rw [List.append_nil]; exact nd1)
    exact ⟨F', p1, fun q hq => by have := p2 q hq; rw [List.append_nil] at this; exact List.mem_append_left _ this, p3⟩
end
end VL
namespace VL
universe u
open PySem PySem.Spec PyProof.Rows L2

/-! ### tuples of things of one kind -/
structure Tp (α : Type) where
  l : List α
  deriving DecidableEq
instance instTp {α : Type} [T : PyTy α] : PyTy (Tp α) where
  rep K k S H v t F := ∃ p xs F', v = .ref p ∧ nodeAt k S H p (.tup xs) F F' ∧ xs.length ≤ line ∧ Reps (fun v a F => T.rep K (k - 1) S H v a F) xs t.l F'
  mono := fun {K k S H S' H' v a F} ⟨p, xs, F', e, n, z, r⟩ hs hk => ⟨p, xs, F', e, n.mono hs hk, z, r.imp fun v a G hg q => T.mono q hs fun p hp => hk p (n.sub p (hg p hp))⟩
  here := fun {K k S H v a F} ⟨p, xs, F', e, n, z, r⟩ => n.here (r.here fun v a G q => T.here q)
  freeze := fun {K k S H S' v a F} ⟨p, xs, F', e, n, z, r⟩ hs hk H' => ⟨p, xs, [], e, ⟨n.froz hs hk, rfl⟩, z, r.nil fun v a G hg q => T.freeze q hs (fun p hp => hk p (n.sub p (hg p hp))) H'⟩
  zero := fun ⟨p, xs, F', e, n, z, r⟩ => by rw [n.2]; exact r.none fun v a F q => T.zero q
instance {α : Type} [T : PyTy α] {k : Nat} [C : Closed α k] : Closed (Tp α) (k + 1) := ⟨fun ⟨p, xs, F', e, n, z, r⟩ => ⟨p, xs, F', e, n, z, r.imp fun v a F' hf q => C.closed q⟩⟩
instance {α : Type} [T : PyTy α] [Fn : Func α] : Func (Tp α) := ⟨fun {K S H H' v a b F F'} ⟨p, xs, F1, e, n, z, r⟩ ⟨p2, xs2, F2, e2, n2, z2, r2⟩ => by
  rw [e] at e2
  cases e2
  have := n.1.symm.trans n2.1
  cases this
  cases a
  cases b
  exact congrArg Tp.mk (reps_one r r2)⟩
instance {α : Type} [PyTy α] : TypOf (Tp α) "tuple" := ⟨fun ⟨p, xs, F', e, n, z, r⟩ => by rw [e]; exact .base (.tup n.1)⟩
def ixTp {α : Type} (t : Tp α) (i : Int) : Option α := ixL t.l i
theorem o_ixTp {K : PySem.W.Frag} {α : Type} [PT : PyTy α] [T : Scal α] : Op2 K (rIxT K) (ixTp (α := α)) 0 := fun H x y a b c Q ra rb e q => by
  obtain ⟨p, xs, F', e1, n, z, r⟩ := ra
  have e3 : F' = [] := n.2.symm
  subst e3
  obtain ⟨v, at1, r2⟩ := ixL_at r e
  refine ⟨p, xs, b, v, e1, rep_scal rb, .inl (.inl n.1), at1, ?_⟩
  rw [rep_scal r2]
  exact q _ H New.scal
def eTpl {ρ α : Type} (f : ρ → M (List α)) : ρ → M (Tp α) := fun r => f r >>= fun l => if l.length ≤ line then .ok ⟨l⟩ else .error .stuck
section
variable {X : Cx} {W : Hp → String → Prop} {ρ : Type} {sl : ρ → List Slot} {ms : List Mode} {a b e : Expr} {pos p p2 p3 : Pos} {ka kb : Mode} {α : Type} [TA : PyTy α]
theorem pv_tpl {K : PySem.W.Frag} {k kk : Nat} {es : List Expr} {f : ρ → M (List α)} (h : PA X es (tPL K W sl ms f k)) : PE X (.Tuple es kk pos) (tP K W sl ms (eTpl f) (lv (k + 1))) :=
  PE.conv (pe_tup h) fun σ H Q ⟨r, S, hs, hv, he⟩ => ⟨r, S, hs, hv, ends_mono (ends_bind he) (fun l el q vs S1 H1 F x g => by
    split at q
    · rename_i hz
      refine ⟨by rw [g.len]; exact hz, fun p hp => ?_⟩
      have hlF : ∀ q ∈ F, H1 q ≠ none := g.here fun v a F' z => TA.here z
      have hpF : p ∉ F := fun z => hlF p z hp
      refine q (.ref p) S1 (upd H1 p (.tup vs)) (p :: F) ⟨x.hh.trans (Sub.new hp), x.ss, x.sh.trans (Sub.new hp), x.nw, fun q hq => ?_, List.nodup_cons.mpr ⟨hpF, x.nd⟩⟩ ⟨p, vs, F, rfl, ⟨upd_same, rfl⟩, by rw [g.len]; exact hz, g.imp fun v a F' hf z => TA.mono z (Sub.refl S1) fun q hq => upd_ne (fun e => hpF (by rw [← e]; exact hf q hq))⟩
      rcases List.mem_cons.mp hq with e | hq
      · rw [e]
        exact ⟨x.hh.back hp, x.sh.back hp⟩
      · exact x.fr q hq
    · exact q.elim) fun c q => q⟩
theorem pv_ixTp [SA : Scal α] {f : ρ → M (Tp α)} {g : ρ → M Int} (ha : PE X a (tP X.K W sl ms f ka)) (hb : PE X b (tP X.K W sl ms g kb)) (hs : PlainIx b := by exact fun _ _ => rfl) (hka : ka ≠ .un := by decide) (hkb : kb ≠ .un := by decide) : PE X (.Subscript a b pos) (tP X.K W sl ms (e2 ixTp f g) (lv 0)) :=
  pv_e2 o_ixTp ha hb (pe_ix ix_tup ha hb hs) hka hkb
end
section
variable {X : Cx} {C : Ct} {ρ R : Type} [TR : PyTy R] {sl : ρ → List Slot} {ms ms1 ms2 lm rm : List Mode} {rk : Nat} {a b : Expr} {pos : Pos} {α : Type} [TA : PyTy α]
theorem ve_ixTp [SA : Scal α] {f : ρ → M (Tp α × ρ)} {g : ρ → M (Int × ρ)} {ka kb : Nat} (ha : PE X a (tE C sl ms ms1 f ka)) (hb : PE X b (tE C sl ms1 ms2 g kb)) (hs : PlainIx b := by exact fun _ _ => rfl) (hK : C.K = X.K := by rfl) : PE X (.Subscript a b pos) (tE C sl ms ms2 (E2 ixTp f g) 0) :=
  ve_2 (t := rIxT X.K) (hK ▸ o_ixTp) (pe_ix ix_tup ha hb hs)
theorem ve_ixS [SA : Scal α] {f : ρ → M (List α × ρ)} {g : ρ → M (Int × ρ)} {ka kb : Nat} (ha : PE X a (tE C sl ms ms1 f ka)) (hb : PE X b (tE C sl ms1 ms2 g kb)) (hs : PlainIx b := by exact fun _ _ => rfl) (hK : C.K = X.K := by rfl) : PE X (.Subscript a b pos) (tE C sl ms ms2 (E2 ixL f g) 0) :=
  ve_2 (t := rIxL X.K) (hK ▸ o_ixS) (pe_ix ix_list ha hb hs)

/-! ### place[i], place[j] = e, e of whole numbers -/
def fPut2 {ρ R : Type} (pl : ρ → M (List Int × (List Int → ρ))) (fi fj f g : ρ → M Int) : ρ → M (Fl ρ R) := fun r => f r >>= fun a => g r >>= fun b => pl r >>= fun lw => fi r >>= fun i => up (putL lw.1 i a) >>= fun l1 => pl (lw.2 l1) >>= fun lw2 => fj (lw.2 l1) >>= fun j => up (putL lw2.1 j b) >>= fun l2 => .ok (.nx (lw2.2 l2))
theorem s_put2 {k kk kk2 : Nat} {to : TE} {pl : ρ → M (List Int × (List Int → ρ))} {fi fj f g : ρ → M Int} {o i o2 j e e2 : Expr} {tpos tpos2 epos epos2 : Pos} (rc : Rcv C sl ms k to pl) (he : PE X e (tP C.K C.W sl (ms.map downM) f (lv 0))) (he2 : PE X e2 (tP C.K C.W sl (ms.map downM) g (lv 0))) (ho : PE X o to) (hi : PE X i (tP C.K C.W sl (ms.map downM) fi (lv 0))) (ho2 : PE X o2 to) (hj : PE X j (tP C.K C.W sl (ms.map downM) fj (lv 0))) (hc : X.calm = true) (hK : C.K = X.K := by rfl)
    (ha : ∀ v, assign (.Subscript o i tpos) X.env v = (do
      let ov ← holding [v] (eval o X.env)
      let iv ← holding [v, ov] (eval i X.env)
      standAt tpos
      holding [v, ov, iv] (setItem ov iv v)
      release [v, ov, iv] []) := by intro _; rfl)
    (ha2 : ∀ v, assign (.Subscript o2 j tpos2) X.env v = (do
      let ov ← holding [v] (eval o2 X.env)
      let iv ← holding [v, ov] (eval j X.env)
      standAt tpos2
      holding [v, ov, iv] (setItem ov iv v)
      release [v, ov, iv] []) := by intro _; rfl)
    (hst : starEach [e, e2] X.env = (false, eval e X.env) :: starEach [e2] X.env := by rfl) (hst2 : starEach [e2] X.env = (false, eval e2 X.env) :: starEach [] X.env := by rfl)
    (hn : (assignEach [.Subscript o i tpos, .Subscript o2 j tpos2] X.env).length = 2 := by rfl) (hfi : (assignEach [.Subscript o i tpos, .Subscript o2 j tpos2] X.env).findIdx? (·.1) = none := by rfl)
    (hp1 : (assignEach [.Subscript o i tpos, .Subscript o2 j tpos2] X.env).map (·.2) = assign (.Subscript o i tpos) X.env :: (assignEach [.Subscript o2 j tpos2] X.env).map (·.2) := by rfl) (hp2 : (assignEach [.Subscript o2 j tpos2] X.env).map (·.2) = assign (.Subscript o2 j tpos2) X.env :: (assignEach [] X.env).map (·.2) := by rfl)
    (hs : swapsWithSole [.Tuple [.Subscript o i tpos, .Subscript o2 j tpos2] kk2 epos2] (.Tuple [e, e2] kk epos) pos.line X.env = pure false := by rfl) (hw : swappedStores [.Tuple [.Subscript o i tpos, .Subscript o2 j tpos2] kk2 epos2] (.Tuple [e, e2] kk epos) X.env = pure none := by rfl)
    (h1 : (assignEach [.Tuple [.Subscript o i tpos, .Subscript o2 j tpos2] kk2 epos2] X.env).map (·.2) = [assign (.Tuple [.Subscript o i tpos, .Subscript o2 j tpos2] kk2 epos2) X.env] := by rfl) :
    PS X (.Assign [.Tuple [.Subscript o i tpos, .Subscript o2 j tpos2] kk2 epos2] (.Tuple [e, e2] kk epos) pos) (tS C (R := R) sl ms ms lm rm rk (fPut2 pl fi fj f g)) :=
  PS.conv (ps_asg (pe_tup (pa_cons he (pa_cons he2 pa_nil hst2) hst)) (pg_tup hc (pgs_cons (pg_sub ho hi set_list ha) (pgs_cons (pg_sub ho2 hj set_list ha2) pgs_nil hp2) hp1) hn hfi) hs hw h1) fun D σ H ⟨r, T, hd, he⟩ => by
    refine look_hd hd (ends_mono (ends_bind he) (fun a _ q va H1 s1 hd1 => ?_) fun c q => q)
    have ea := itm_int hd1
    subst ea
    refine look_hd hd1.drop (ends_mono (ends_bind q) (fun b _ q vb H2 s2 hd2 => ?_) fun c q => q)
    have eb := itm_int hd2
    subst eb
    refine ⟨by show 2 ≤ sizeLine; decide, fun t ht => ⟨t, [.int a, .int b], rfl, .inl (.inl upd_same), rfl, .int a, [.int b], rfl, ?_⟩⟩
    have hd3 : Hd C (T ++ Env C.K C.A ms (sl r) σ) (L2.upd H2 t (.tup [.int a, .int b])) := hd2.drop.grow (Sub.new ht)
    refine rc σ _ r T _ hd3 (ends_mono (ends_bind q) (fun lw _ q p H3 s3 hd4 hx rd => ?_) fun c q => q)
    refine look_hd hd4 (ends_mono (ends_bind q) (fun i _ q vi H4 s4 hd5 => ?_) fun c q => q)
    have ei := itm_int hd5
    subst ei
    obtain ⟨l1, el, q⟩ := up_ends (ends_bind q)
    obtain ⟨A, A', L, hd6, fc, back⟩ := rd H4 T anyA s4 hd5.drop.any
    obtain ⟨S, xs, F1, F2, sh, hx0, hz, hr, hb⟩ := fc.here hd6
    obtain ⟨n, en, chg⟩ := putL_chg (C := C) (k := k) (v := .int a) (H := H4) el hr.len
    have int_chg : ∀ {H : Hp} {xs xs' : List V} {l l' : List Int} {a : Int}, (∀ S F1 F2, Reps (fun v a F => (inferInstance : PyTy Int).rep C.K k S H v a F) xs l F1 → (inferInstance : PyTy Int).rep C.K k S H (.int a) a F2 → (F1 ++ F2).Nodup → ∃ F', F'.Nodup ∧ (∀ q ∈ F', q ∈ F1 ++ F2) ∧ Reps (fun v a F => (inferInstance : PyTy Int).rep C.K k S H v a F) xs' l' F') → ∀ S F1 F2, Sub S H → Reps (fun v a F => (inferInstance : PyTy Int).rep C.K k S H v a F) xs l F1 → anyA.p S H F2 → (F1 ++ F2).Nodup → ∃ F', F'.Nodup ∧ (∀ q ∈ F', q ∈ F1 ++ F2) ∧ Reps (fun v a F => (inferInstance : PyTy Int).rep C.K k S H v a F) xs' l' F' := by
      intro H xs xs' l l' a chg S F1 F2 _ r1 _ nd
      have nd1 := (List.nodup_append.mp nd).1
      obtain ⟨F', p1, p2, p3⟩ := chg S F1 [] r1 (Scal.scal.mpr ⟨rfl, rfl⟩) (by rw [List.append_nil]; exact nd1)
      exact ⟨F', p1, fun q hq => by have := p2 q hq; rw [List.append_nil] at this; exact List.mem_append_left _ this, p3⟩
    have hd7 := back l1 _ (hd6.chg fc hx0 (int_chg chg) (by rw [List.length_set]; exact hz))
    refine ⟨p, xs, i, n, rfl, rfl, hx0, en, .int b, [], rfl, ?_⟩
    refine rc σ _ (lw.2 l1) T _ hd7 (ends_mono (ends_bind q) (fun lw2 _ q p H5 s5 hd8 hx rd => ?_) fun c q => q)
    refine look_hd hd8 (ends_mono (ends_bind q) (fun j _ q vj H6 s6 hd9 => ?_) fun c q => q)
    have ej := itm_int hd9
    subst ej
    obtain ⟨l2, el2, q⟩ := up_ends (ends_bind q)
    obtain ⟨A2, A2', L2, hd10, fc2, back2⟩ := rd H6 T anyA s6 hd9.drop.any
    obtain ⟨S2, xs2, G1, G2, sh2, hx2, hz2, hr2, hb2⟩ := fc2.here hd10
    obtain ⟨n2, en2, chg2⟩ := putL_chg (C := C) (k := k) (v := .int b) (H := H6) el2 hr2.len
    exact ⟨p, xs2, j, n2, rfl, rfl, hx2, en2, rfl, q σ _ (back2 l2 _ (hd10.chg fc2 hx2 (int_chg chg2) (by rw [List.length_set]; exact hz2)))⟩
end

/-! ### more of what may change what is held -/
section
variable {X : Cx} {C : Ct} {ρ R : Type} [TR : PyTy R] {sl : ρ → List Slot} {ms ms1 ms2 lm rm : List Mode} {rk : Nat} {a b e : Expr} {es : List Expr} {pos p : Pos} {α β γ : Type} [TA : PyTy α] [TB : PyTy β] [TC : PyTy γ]
theorem ve_share {f : ρ → M (α × ρ)} {k : Nat} (h : PE X e (tE C sl ms ms1 f k)) : PE X e (tE C sl ms ms1 f 0) :=
  PE.conv h fun σ H Q ⟨r, T, hd, he⟩ => ⟨r, T, hd, ends_mono he (fun ar _ q v H' h' => q v H' (Hd.share (K := C.K) h')) fun c q => q⟩
theorem Hd.pair {k : Nat} {x : α} {y : β} {v u : V} {l : List Assn} {H : Hp} {p : Addr} (h : Hd C (itm C.K k y u :: itm C.K k x v :: l) H) (hp : H p = none) : Hd C (itm C.K (k + 1) (x, y) (.ref p) :: l) (L2.upd H p (.tup [v, u])) := by
  obtain ⟨S, F, ⟨F1, F2, e, h1, F3, F4, e2, h2, h3⟩, o⟩ := h
  subst e e2
  have here1 : ∀ q ∈ F1, H q ≠ none := TB.here h1
  have here3 : ∀ q ∈ F3, H q ≠ none := TA.here h2
  have here4 := h3.here
  have n1 : p ∉ F1 := fun z => here1 p z hp
  have n3 : p ∉ F3 := fun z => here3 p z hp
  have n4 : p ∉ F4 := fun z => here4 p z hp
  have pS : S p = none := o.sh.back hp
  have o1 : OkS C S (F3 ++ F1 ++ F4) H := o.perm (by
    rw [← List.append_assoc]
    exact List.Perm.append_right _ List.perm_append_comm)
  refine ⟨S, (p :: (F3 ++ F1)) ++ F4, ⟨p :: (F3 ++ F1), F4, rfl, ⟨p, v, u, F3, F1, rfl, ⟨upd_same, rfl⟩, TA.mono h2 (Sub.refl S) fun q hq => upd_ne fun z => n3 (by rw [← z]; exact hq), TB.mono h1 (Sub.refl S) fun q hq => upd_ne fun z => n1 (by rw [← z]; exact hq)⟩, h3.mono (Sub.refl S) fun q hq => upd_ne fun z => n4 (by rw [← z]; exact hq)⟩, ?_⟩
  have e : Ext S H S (L2.upd H p (.tup [v, u])) [p] := ⟨Sub.new hp, Sub.refl S, o.sh.trans (Sub.new hp), fun p q => .inl q, fun q hq => by rw [List.mem_singleton.mp hq]; exact ⟨hp, pS⟩, List.nodup_cons.mpr ⟨by simp, List.nodup_nil⟩⟩
  exact o1.ext e fun q hq => by
    rcases List.mem_append.mp hq with hq | hq
    · rcases List.mem_append.mp hq with hq | hq
      · exact here3 q hq
      · exact here1 q hq
    · exact here4 q hq
theorem ve_pair {k kk : Nat} {f : ρ → M (α × ρ)} {g : ρ → M (β × ρ)} (ha : PE X a (tE C sl ms ms1 f k)) (hb : PE X b (tE C sl ms1 ms2 g k)) (hs : starEach [a, b] X.env = (false, eval a X.env) :: starEach [b] X.env := by rfl) (hs2 : starEach [b] X.env = (false, eval b X.env) :: starEach [] X.env := by rfl) :
    PE X (.Tuple [a, b] kk pos) (tE C sl ms ms2 (E2 (fun a b => some (a, b)) f g) (k + 1)) :=
  PE.conv (pe_tup (pa_cons ha (pa_cons hb pa_nil hs2) hs)) fun σ H Q ⟨r, T, hd, he⟩ => ⟨r, T, hd, ends_mono (ends_bind he) (fun ar _ q v H1 hd1 => ⟨ar.2, itm C.K k ar.1 v :: T, hd1, ends_mono (ends_bind q) (fun br _ q u H2 hd2 => ⟨by show 2 ≤ sizeLine; decide, fun p hp => q _ _ (hd2.pair hp)⟩) fun c q => q⟩) fun c q => q⟩
theorem nob_set {ρ R α : Type} {set : α → ρ → ρ} {f : ρ → M (α × ρ)} : NoB (fSet (R := R) set f) := fun r r' => by
  unfold fSet
  cases e : f r with
  | error z => exact ⟨(fun h => nomatch h), (fun h => nomatch h)⟩
  | ok l => exact ⟨(fun h => nomatch h), (fun h => nomatch h)⟩
theorem nob_unp {ρ R A : Type} {set : A → ρ → ρ} {f : ρ → M ((ρ → A) × ρ)} : NoB (fUnp (R := R) set f) := fun r r' => by
  unfold fUnp
  cases e : f r with
  | error z => exact ⟨(fun h => nomatch h), (fun h => nomatch h)⟩
  | ok l => exact ⟨(fun h => nomatch h), (fun h => nomatch h)⟩
end
section
variable {ρ R α : Type}
theorem nob_nil : NoB (fNil (ρ := ρ) (R := R)) := fun r r' => ⟨(fun h => nomatch h), (fun h => nomatch h)⟩
theorem nob_stuck : NoB (fStuck (ρ := ρ) (R := R)) := fun r r' => ⟨(fun h => nomatch h), (fun h => nomatch h)⟩
theorem nob_ret {f : ρ → M (R × ρ)} : NoB (fRet f) := fun r r' => by
  unfold fRet
  cases e : f r with
  | error z => exact ⟨(fun h => nomatch h), (fun h => nomatch h)⟩
  | ok l => exact ⟨(fun h => nomatch h), (fun h => nomatch h)⟩
theorem nob_if {c : ρ → M (Bool × ρ)} {f g : ρ → M (Fl ρ R)} (hf : NoB f) (hg : NoB g) : NoB (fIf c f g) := fun r r' => by
  unfold fIf
  cases e : c r with
  | error z => exact ⟨(fun h => nomatch h), (fun h => nomatch h)⟩
  | ok b =>
    show (if b.1 then f b.2 else g b.2) ≠ _ ∧ (if b.1 then f b.2 else g b.2) ≠ _
    split
    · exact hf _ _
    · exact hg _ _
theorem nob_seq {f g : ρ → M (Fl ρ R)} (hf : NoB f) (hg : NoB g) : NoB (fSeq f g) := fun r r' => by
  unfold fSeq
  have h1 := hf r
  cases e : f r with
  | error z => exact ⟨(fun h => nomatch h), (fun h => nomatch h)⟩
  | ok o =>
    rw [e] at h1
    cases o with
    | nx r1 => exact hg r1 r'
    | rt a r1 => exact ⟨(fun h => nomatch h), (fun h => nomatch h)⟩
    | bk r1 => exact absurd rfl (h1 r1).1
    | ct r1 => exact absurd rfl (h1 r1).2
end
/-! a module's constant -/
section
variable {X : Cx} {K : PySem.W.Frag} {W : Hp → String → Prop} {ρ : Type} {sl : ρ → List Slot} {ms : List Mode} {pos : Pos}
theorem pv_glob {x : Str} {i : Int} (hg : Gl X x) (hm : ∃ t, X.mg x = some (.int i t)) (hd : (x == ("__debug__" : Str)) = false := by decide) : PE X (.Name x pos) (tP K W sl ms (e0 i) (lv 0)) :=
  let ⟨t, h⟩ := hm
  pv_c (α := Int) (pe_glob hg h ⟨t, rfl⟩ hd)
end
/-! a def that changes nothing and answers None at its end -/
def runRU {ρ : Type} (f : ρ → M (Fl ρ Unit)) (r : ρ) : M Unit := f r >>= fun
  | .rt a _ => .ok a
  | .nx _ => .ok ()
  | _ => .error .stuck
section
variable {P : Program} {w : World} {K : PySem.W.Frag} {mg : Str → Option Value} {base : Heap}
theorem ok_defU {x qual : Str} {st : Stmt} {f : Addr} {fd : FuncData} {N ps : List Str} {k rk : Nat} {A ρ : Type} [T : ArgTy A] {sl : ρ → List Slot} {ms' rm : List Mode} {g : ρ → M (Fl ρ Unit)} {ini : A → ρ} (F : Fun K x qual st f fd) (S : FnScope N ps (defScope st))
    (hal : ∀ a, (T.al a).length = ps.length) (hini : ∀ a, ∃ rest, sl (ini a) = T.al a ++ rest ∧ rest.length = N.length - ps.length)
    (hbody : ∀ (cdv : Value) (A : Around) (outer : List PySem.Env) (s : Shared) (H : Hp) (E : XK) (H0 S0 : Hp) (vs : List V), Room k (A.deeper (envOfC qual (defScope st) s.heap.objs.size f cdv)) → PSs (cxOf CX0 P w K mg base N qual (defScope st) f cdv A outer s H E).nox (defBody st) (tS ⟨K, H0, S0, [], fun i => vs[i]?, noW⟩ sl (List.replicate ps.length (lv 0) ++ List.replicate (N.length - ps.length) .un) ms' [] rm rk g)) :
    FnOk P w K mg base CX0 (k + 1) f fd ps (spP K rk fun a => runRU g (ini a)) := by
  refine F.ok S (fun vs H Q E h => ?_) (fun cdv A outer s H vs Q E hr h => ?_)
  · obtain ⟨a, S, _, pt, _⟩ := h
    rw [← pt.length, hal]
  · obtain ⟨a, S0, hs, pt, he⟩ := h
    refine ⟨_, hbody cdv A outer s H E H S0 vs hr, ini a, [], ⟨S0, [], ?_, List.nodup_nil, (fun p hp => nomatch hp), hs, Sub.refl S0, fun p o q _ => q, fun p q => .inl (q.resolve_left fun z => nomatch z)⟩, ends_mono (ends_bind he) (fun o eo q => ?_) fun c q => q.elim⟩
    · obtain ⟨rest, e, hl⟩ := hini a
      rw [e]
      have := start_env (K := K) (A := fun i => vs[i]?) (S := S0) (H := H) pt hl
      rw [hal] at this
      have e2 : start N vs = vs.map some ++ List.replicate (N.length - ps.length) none := by
        show vs.map some ++ List.replicate (N.length - vs.length) none = _
        rw [← pt.length, hal]
      rw [e2]
      exact this
    · have ex : ∀ {S' : Hp} {F1 : List Addr} {H' : Hp}, OkS ⟨K, H, S0, [], fun i => vs[i]?, noW⟩ S' F1 H' → Ext S0 H S' H' F1 := fun o' => ⟨(fun p u z => o'.fr p u z (fun y => nomatch y)), o'.s0, o'.sh, (fun p z => (o'.nw p (.inr z)).imp_right fun y => y.resolve_left fun y => nomatch y), (fun p hp => ⟨by
          rcases o'.nw p (.inl hp) with z | z | z
          · exact absurd (o'.s0.back (o'.dj p hp)) z
          · cases z
          · exact z, o'.dj p hp⟩), o'.nd⟩
      cases o with
      | nx r' =>
        intro σ' H' hd
        obtain ⟨S', F, st', o⟩ := hd
        exact q .non S' H' [] (ex (o.less (List.nil_sublist F))) (Scal.scal.mpr ⟨rfl, rfl⟩)
      | bk r' => exact q.elim
      | ct r' => exact q.elim
      | rt c r' =>
        intro v σ' H' hd
        obtain ⟨S', F, ⟨F1, F2, e, h1, h2⟩, o⟩ := hd
        subst e
        exact q v S' H' F1 (ex (o.less (List.sublist_append_left F1 F2))) h1
end
end VL
namespace VL
universe u
open PySem PySem.Spec PyProof.Rows L2 RT

/-! ### list(reversed(xs)) -/
section
variable {prog : Program} {w : World} {A : Around} {E : Value → Shared → Prop} {s : Shared}
theorem ext_rev {R : Result → Shared → Prop} {it l : Addr} {items : Array Value} (hh : A.handled = none) (hit : s.heap.IsRevIter it l ((items.size : Int) - 1)) (hl : s.heap.IsList l items) (hne : l ≠ it) (hn : items.size ≤ sizeLine) (S : Addr) (hSi : S ≠ it) (hSl : S ≠ l) (res : Value) (c₀ : Nat)
    (hS : s.heap.get? S = some { cls := .type "list", data := .seq #[] c₀ })
    (hR : ∀ h' tk acc' c', (∀ b o, b ≠ S → b ≠ it → s.heap.get? b = some o → h'.get? b = some o) → h'.get? S = some { cls := .type "list", dict := none, data := .seq acc' c', slots := #[] } → ItemsOf (fun i v => items[items.size - 1 - i]? = some v) acc' items.size → R (.ok (.ret res)) { s with heap := h', toks := tk }) :
    wpAny (model prog w) A.in1 (Builtin.List.listExtendWith (.ref S) (.ref it) res) (fun fin s' => match fin with | .done f => R (.ok f) s' | .again c' => c'.quiet = true ∧ codeAny (model prog w) A c' R s') (fun e s' => R (.error e) s') s := by
  have W := (Walks.listRev (prog := prog) (w := w) (A := A.in1) hh it l hne items).toS
  have hSf : S ∉ [it, l] := by simp only [List.mem_cons, List.not_mem_nil, or_false, not_or]; exact ⟨hSi, hSl⟩
  have hT : s.TypeIs (.ref it) "list_reverseiterator" := Heap.IsRevIter.typeIs hit
  have h1 : Builtin.List.listSameRef (.ref S) (.ref it) = false := by simp [Builtin.List.listSameRef, hSi]
  unfold Builtin.List.listExtendWith
  refine wpAny_bind (wpAny_typeOf hT ?_)
  rw [if_neg (by rw [h1]; decide)]
  refine wpAny_bind (wpAny_pyIter_revIter hit ?_)
  refine wpAny_bind (wpAny_holding ?_)
  unfold Builtin.List.listLengthHint
  refine wpAny_bind (wpAny_specialOf hT nolen_lri ?_)
  show wpAny _ A.in1 (specialOf (Value.ref it) (Str.ofString "__length_hint__") >>= _) _ _ _
  refine wpAny_bind (wpAny_specialOf hT hint_lri ?_)
  generalize hid : ("list_reverseiterator.__length_hint__" : String) = id0
  wp_delta
  rw [show splitId id0 = some ("list_reverseiterator", "__length_hint__") from by subst hid; decide +kernel]
  subst hid
  refine wpAny_bind (wpAny_isInstance (b := true) hT (by rw [isSubtype_type]; kernel_rfl) ?_)
  refine wpAny_pure ?_
  rw [if_neg (by decide)]
  have e0 : ((items.size : Nat) : Int) - 1 - ((0 : Nat) : Int) = (items.size : Int) - 1 := by omega
  refine wpAny_pure ⟨plainId_quiet F.plain_extend_loop _, codeAny_extend_loopS W hn S hSf res items.size 0 _ _ _ rfl (Nat.zero_le _) ⟨Nat.zero_le _, by rw [e0]; exact hit, hl⟩ hS (ItemsOf.nil _) fun s' acc' c' hm hS' hacc => ?_⟩
  rw [Moved.eq_with hm]
  refine hR s'.heap s'.toks acc' c' (fun b o hb hb2 e => hm.heap b o (fun hmem => ?_) e) hS' hacc
  rcases List.mem_cons.mp hmem with e' | hmem
  · exact hb e'
  · exact hb2 (List.mem_singleton.mp hmem)
theorem call_list_rev {Q : Value → Shared → Prop} {it l : Addr} {items : Array Value} (hh : A.handled = none) (hit : s.heap.IsRevIter it l ((items.size : Int) - 1)) (hl : s.heap.IsList l items) (hne : l ≠ it) (hn : items.size ≤ sizeLine)
    (hQ : ∀ h' tk acc' c', (∀ b o, b ≠ it → s.heap.get? b = some o → h'.get? b = some o) →
      h'.get? s.heap.objs.size = some { cls := .type "list", dict := none, data := .seq acc' c', slots := #[] } → ItemsOf (fun i v => items[items.size - 1 - i]? = some v) acc' items.size → Q (.ref s.heap.objs.size) { s with heap := h', toks := tk }) :
    wpAny (model prog w) A (call (.type "list") [.ref it]) Q E s := by
  refine callType_codes (Q₁ := fun obj s₁ => obj = .ref s.heap.objs.size ∧ s₁ = { s with heap := s.heap.push { cls := .type "list", data := .seq #[] } }) F.called_list (F.typeCall_list_1 _) F.entry_list_init
    (code_list_new _ ⟨rfl, rfl⟩) fun obj s₁ h₁ => ?_
  obtain ⟨rfl, rfl⟩ := h₁
  obtain ⟨oi, hoi, _⟩ := id hit
  obtain ⟨ol, hol, _⟩ := id hl
  have hSi : s.heap.objs.size ≠ it := Nat.ne_of_gt (Heap.lt_size hoi)
  have hSl : s.heap.objs.size ≠ l := Nat.ne_of_gt (Heap.lt_size hol)
  have hS : (s.heap.push { cls := .type "list", data := .seq #[] }).get? s.heap.objs.size = some { cls := .type "list", data := .seq #[] } := Heap.get?_push_size _ rfl
  refine ⟨⟨_, hS, rfl⟩, F.args_list_init_2 _ _, ?_⟩
  show wpAny _ _ (do let old ← Builtin.List.listItems (.ref s.heap.objs.size); Builtin.List.listUpdate (.ref s.heap.objs.size) (fun _ => #[]); letGo old.toList.reverse; Builtin.List.listExtendWith (.ref s.heap.objs.size) (.ref it) .none) _ _ _
  refine wpAny_bind ?_
  unfold Builtin.List.listItems
  refine wpAny_bind (wpAny_seqItems hS rfl (wpAny_pure ?_))
  show wpAny _ _ (updateSeq s.heap.objs.size (fun _ => #[]) >>= fun _ => letGo (#[] : Array Value).toList.reverse >>= fun _ => Builtin.List.listExtendWith (.ref s.heap.objs.size) (.ref it) .none) _ _ _
  refine wpAny_bind (wpAny_updateSeq hS rfl ?_)
  have hS₂ := Heap.get?_update_self (Obj.mapSeq (fun _ => (#[] : Array Value))) hS rfl
  have oth : ∀ b o, b ≠ s.heap.objs.size → s.heap.get? b = some o → ((s.heap.push { cls := .type "list", data := .seq #[] }).update s.heap.objs.size (Obj.mapSeq (fun _ => (#[] : Array Value)))).get? b = some o :=
    fun b o hb e => (Heap.get?_update_other _ _ (Ne.symm hb)).trans (Heap.get?_push_of_some _ e)
  refine wpAny_bind (wpAny_letGo ?_)
  refine ext_rev (A := A.in1) (s := { s with heap := (s.heap.push { cls := .type "list", data := .seq #[] }).update s.heap.objs.size (Obj.mapSeq (fun _ => (#[] : Array Value))) }) hh (hit.at fun o e => oth it o (Ne.symm hSi) e) (hl.at fun o e => oth l o (Ne.symm hSl) e) hne hn _ hSi hSl .none _ hS₂ fun h' tk acc' c' hk hS' hacc => ?_
  exact ⟨rfl, hQ h' tk acc' c' (fun b o hb e => hk b o (Nat.ne_of_lt (Heap.lt_size e)) hb (oth b o (Nat.ne_of_lt (Heap.lt_size e)) e)) hS' hacc⟩
end
def tLstRev (K : PySem.W.Frag) (te : TE) : TE := fun σ H Q => te σ H fun v H1 => ∃ (a : Addr) (xs : List V), v = .ref a ∧ SqL K H1 a xs ∧ ∀ q, H1 q = none → Q (.ref q) (upd H1 q (.lst xs.reverse))
section
variable {X : Cx}
theorem pe_lstRev {e : Expr} {te : TE} {p p2 pos pos2 : Pos} (hc : X.calm = true) (hg : Gl X "list") (hm : X.mg "list" = none) (hg2 : Gl X "reversed") (hm2 : X.mg "reversed" = none) (he : PE X e te)
    (hs : starEach [e] X.env = (false, eval e X.env) :: starEach [] X.env := by rfl)
    (hs2 : starEach [.Call (.Name "reversed" p2) [e] [] pos2] X.env = (false, eval (.Call (.Name "reversed" p2) [e] [] pos2) X.env) :: starEach [] X.env := by rfl) :
    PE X (.Call (.Name "list" p) [.Call (.Name "reversed" p2) [e] [] pos2] [] pos) (tLstRev X.K te) := by
  refine ⟨fun pins s σ H Q I h => ?_⟩
  refine Call_ (ld_blt I hg hm boot_list (PyProof.Rows.callWith_type1 (args_cons (Call_ (ld_blt I hg2 hm2 PyProof.Rows.boot_reversed (PyProof.Rows.callWith_type1 (args_cons (thn (he.run pins s σ H _ I h) fun u s1 ⟨v, H1, I1, r1, q1⟩ => args_nil ?_) hs) hs rfl))) hs2) hs2 rfl))
  obtain ⟨a, xs, ev, hq, q⟩ := q1
  subst ev
  obtain rfl : u = Value.ref a := r1
  obtain ⟨its, rv, p', hz⟩ := I1.list hq
  refine call_reversed_list p'.isList (args_nil ?_)
  have k0 : ∀ b o, s1.heap.get? b = some o → (s1.heap.push (revObj a ((its.toArray.size : Int) - 1))).get? b = some o := fun b o e => Heap.get?_push_of_some _ e
  have I2 : Inv X pins σ H1 { s1 with heap := s1.heap.push (revObj a ((its.toArray.size : Int) - 1)) } := I1.kept (t' := s1.toks) k0
  obtain ⟨f0, f1, f2, f3, f4, f5⟩ := I1.fpOk (H' := H1) (b := s1.heap.objs.size) (Nat.le_refl _) (I1.hok.fresh (Nat.le_refl _))
  have hl := p'.isList
  obtain ⟨ol, hol, _⟩ := id hl
  have hne : a ≠ s1.heap.objs.size := Nat.ne_of_lt (Heap.lt_size hol)
  have hn : its.toArray.size ≤ sizeLine := by rw [List.size_toArray, ← rv.length]; exact hz
  have hsz : (s1.heap.push (revObj a ((its.toArray.size : Int) - 1))).objs.size = s1.heap.objs.size + 1 := Heap.size_push ..
  refine call_list_rev (s := { s1 with heap := s1.heap.push (revObj a ((its.toArray.size : Int) - 1)) }) (I1.ok.hd hc) ⟨_, Heap.get?_push_size _ rfl, rfl, rfl⟩ (hl.push _) hne hn fun h' tk acc c' hk e' hi => ?_
  have hT : (s1.heap.push (revObj a ((its.toArray.size : Int) - 1))).objs.size ≤ s1.heap.objs.size + 1 := by rw [hsz]; exact Nat.le_refl _
  have hfree : H1 (s1.heap.objs.size + 1) = none := I1.hok.fresh (Nat.le_succ _)
  refine ⟨.ref (s1.heap.objs.size + 1), upd H1 (s1.heap.objs.size + 1) (.lst xs.reverse), I2.turnedNew (ch := [s1.heap.objs.size]) (t' := tk) (fun b o hb e => hk b o (fun z => hb (by simp [z])) e) (fun b hb => ?_) (by rw [hsz]; exact Nat.le_refl _) (show ObjOk X.prog X.w _ _ _ (.lst xs.reverse) from ⟨by rw [List.length_reverse]; exact hz, acc.toList, c', vals_rev rv hi, ?_⟩), ?_, q _ hfree⟩
  · rw [List.mem_singleton.mp hb]
    exact ⟨f0, f1, f2, f3, f4, f5⟩
  · rw [Array.toArray_toList]
    rw [hsz] at e'
    exact e'
  · show RelV _ (Value.ref (s1.heap.push (revObj a ((its.toArray.size : Int) - 1))).objs.size)
    rw [hsz]
    rfl
end
section
variable {X : Cx} {W : Hp → String → Prop} {ρ : Type} {sl : ρ → List Slot} {ms : List Mode} {a : Expr} {pos p pos2 p2 : Pos} {kd : Mode} {α : Type} [TA : PyTy α]
theorem pv_lstRev {f : ρ → M (List α)} (hc : X.calm = true) (hg : Gl X "list") (hm : X.mg "list" = none) (hg2 : Gl X "reversed") (hm2 : X.mg "reversed" = none) (ha : PE X a (tP X.K W sl ms f (lv 0))) (hs : starEach [a] X.env = (false, eval a X.env) :: starEach [] X.env := by rfl) (hs2 : starEach [.Call (.Name "reversed" p2) [a] [] pos2] X.env = (false, eval (.Call (.Name "reversed" p2) [a] [] pos2) X.env) :: starEach [] X.env := by rfl) :
    PE X (.Call (.Name "list" p) [.Call (.Name "reversed" p2) [a] [] pos2] [] pos) (tP X.K W sl ms (e1 (fun l => some l.reverse) f) (lv 1)) :=
  pv_fun nat_rev (PE.conv (pe_lstRev hc hg hm hg2 hm2 ha hs hs2) fun σ H Q ⟨r, S, hs, hv, q⟩ => ⟨r, S, hs, hv, ends_mono q (fun l el q v S1 H1 F x g => let ⟨a, xs, e, n, k⟩ := q v S1 H1 F x g; ⟨a, xs, e, .inl (.inl n), k⟩) fun c q => q⟩)
theorem pv_lstRevS [SA : Scal α] {f : ρ → M (List α)} (hc : X.calm = true) (hg : Gl X "list") (hm : X.mg "list" = none) (hg2 : Gl X "reversed") (hm2 : X.mg "reversed" = none) (ha : PE X a (tP X.K W sl ms f kd)) (hk : kd ≠ .un := by decide) (hs : starEach [a] X.env = (false, eval a X.env) :: starEach [] X.env := by rfl) (hs2 : starEach [.Call (.Name "reversed" p2) [a] [] pos2] X.env = (false, eval (.Call (.Name "reversed" p2) [a] [] pos2) X.env) :: starEach [] X.env := by rfl) :
    PE X (.Call (.Name "list" p) [.Call (.Name "reversed" p2) [a] [] pos2] [] pos) (tP X.K W sl ms (e1 (fun l => some l.reverse) f) (lv 1)) :=
  pv_funS nat_rev (PE.conv (pe_lstRev hc hg hm hg2 hm2 ha hs hs2) fun σ H Q ⟨r, S, hs, hv, q⟩ => ⟨r, S, hs, hv, ends_mono q (fun l el q v S1 H1 F x g => let ⟨a, xs, e, n, k⟩ := q v S1 H1 F x g; ⟨a, xs, e, .inl (.inl n), k⟩) fun c q => q⟩) hk
end

/-! ### x.pop(i), of an own list of things without objects -/
@[irreducible] def popL {α : Type} (l : List α) (i : Int) : Option (α × List α) := if 0 ≤ i ∧ i < 2 ^ 62 then (l[i.toNat]?).map fun a => (a, l.eraseIdx i.toNat) else none
def ePop {ρ α : Type} (get : ρ → List α) (set : List α → ρ → ρ) (f : ρ → M (Int × ρ)) : ρ → M (α × ρ) := fun r => f r >>= fun ir => up (popL (get ir.2) ir.1) >>= fun al => .ok (al.1, set al.2 ir.2)
section
variable {X : Cx} {C : Ct} {ρ R : Type} [TR : PyTy R] {sl : ρ → List Slot} {ms ms1 ms2 lm rm : List Mode} {rk : Nat} {α β : Type} [TA : PyTy α] [TB : PyTy β] {pos p2 : Pos} {e a b : Expr}
theorem ve_pop [SA : Scal α] {i k : Nat} {io : Option Nat} {get : ρ → List α} {set : List α → ρ → ρ} {f : ρ → M (Int × ρ)} (h : PE X e (tBM C.K "list" rPopAt (tVar i) (tCons (tE C sl ms ms1 f 0) tNil)))
    (hm : ms[i]? = some (.own (k + 1) io)) (hm1 : ms1[i]? = some (.own (k + 1) io)) (hg : ∀ r, (sl r)[i]? = some ⟨get r⟩) (hset : ∀ a r, sl (set a r) = (sl r).set i ⟨a⟩) : PE X e (tE C sl ms ms1 (ePop get set f) 0) :=
  PE.conv h fun σ H Q ⟨r, T, hd, he⟩ => by
    obtain ⟨v, ev, hd0⟩ := hd.open hm (hg r)
    obtain ⟨p0, xs0, ep, n0⟩ : ∃ p0 xs0, v = some (.ref p0) ∧ H p0 = some (.lst xs0) := hd0.at fun S F ⟨x0, ex0, io0, p0, xs0, F', ep, n0, _, _⟩ => ⟨p0, xs0, by rw [ex0, ep], n0.1⟩
    subst ep
    refine ⟨.ref p0, ev, Or.inl ⟨rfl, _, Or.inl (Or.inl n0)⟩, r, T, hd, ends_mono (ends_bind he) (fun ir _ q y H1 hd1 => ?_) fun c q => q⟩
    have ey : y = .int ir.1 := rep_scal hd1.look1
    subst ey
    obtain ⟨al, el, q⟩ := up_ends (ends_bind q)
    have hd3 := hd1.drop
    obtain ⟨v', ev', hd4⟩ := hd3.open hm1 (hg ir.2)
    rw [ev] at ev'
    cases ev'
    have hx2 : H1 p0 = some (.lst ((get ir.2).map SA.val)) ∧ (get ir.2).length ≤ line := hd4.fact fun S F ⟨x1, ex1, io1, p1, xs1, G', ep1, n1, z1, r1⟩ => by
      cases ex1; cases ep1
      obtain ⟨e1, e2⟩ := reps_scal r1
      rw [e1] at z1 n1
      exact ⟨n1.1, by rwa [List.length_map] at z1⟩
    unfold popL at el
    split at el
    · rename_i hh
      obtain ⟨x, ex, ea⟩ := Option.map_eq_some_iff.mp el
      subst ea
      have hlt : ir.1.toNat < (get ir.2).length := (List.getElem?_eq_some_iff.mp ex).1
      have hln : line = 2 ^ 24 := rfl
      refine ⟨p0, _, ir.1, ir.1.toNat, SA.val x, rfl, rfl, hx2.1, by omega, by omega, seqIndex_of hh.1 (by rw [List.length_map]; omega), by rw [List.getElem?_map, ex]; rfl, ?_⟩
      have em : ((get ir.2).map SA.val).eraseIdx ir.1.toNat = ((get ir.2).eraseIdx ir.1.toNat).map SA.val := by rw [List.eraseIdx_eq_take_drop_succ, List.eraseIdx_eq_take_drop_succ, List.map_append, List.map_take, List.map_drop]
      rw [em]
      have hd5 : Hd C (slotA C.K C.A (.own (k + 1) io) ⟨(get ir.2).eraseIdx ir.1.toNat⟩ (some (.ref p0)) :: (T ++ Env C.K C.A (ms1.set i .un) (sl ir.2) σ)) (L2.upd H1 p0 (.lst (((get ir.2).eraseIdx ir.1.toNat).map SA.val))) := by
        refine hd4.upd fun S F hA nd dj sh => ?_
        obtain ⟨x2, ex2, io2, p2, xs2, G', ep2, n2, z2, r2⟩ := hA
        cases ex2
        cases ep2
        have eG : F = p0 :: G' := n2.2
        subst eG
        refine ⟨List.mem_cons_self, [p0], List.nodup_cons.mpr ⟨by simp, List.nodup_nil⟩, fun q hq => by rw [List.mem_singleton.mp hq]; exact List.mem_cons_self, .ref p0, rfl, io2, p0, _, [], rfl, ⟨upd_same, rfl⟩, ?_, scal_reps⟩
        rw [List.length_map]
        have := List.length_eraseIdx_le (get ir.2) ir.1.toNat
        omega
      have hl : i < σ.length := (List.getElem?_eq_some_iff.mp ev).1
      have hd6 := Hd.close (m0 := .un) (i := i) hd5 hl
      have e1 : σ.set i (some (.ref p0)) = σ := by
        obtain ⟨h1, h2⟩ := List.getElem?_eq_some_iff.mp ev
        rw [← h2]
        exact List.set_getElem_self h1
      have e3 : (ms1.set i .un).set i (.own (k + 1) io) = ms1 := by
        obtain ⟨h1, h2⟩ := List.getElem?_eq_some_iff.mp hm1
        rw [List.set_set, ← h2]
        exact List.set_getElem_self h1
      rw [e1, e3, ← hset] at hd6
      refine q _ _ ?_
      obtain ⟨S, F, st, o⟩ := hd6
      exact ⟨S, F, ⟨[], F, rfl, SA.scal.mpr ⟨rfl, rfl⟩, st⟩, o⟩
    · cases el
end
end VL
namespace VL
universe u
open PySem PySem.Spec PyProof.Rows L2

/-! ### dicts with whole numbers as keys -/
structure Dc (α : Type) where
  l : List (Int × α)
def DRel {α : Type} (r : V → α → Prop) : List (Key × V) → List (Int × α) → Prop
  | [], [] => True
  | kv :: kvs, x :: l => kv.1 = Sum.inl x.1 ∧ r kv.2 x.2 ∧ DRel r kvs l
  | _, _ => False
theorem DRel.imp {α : Type} {r r' : V → α → Prop} : ∀ {kvs : List (Key × V)} {l : List (Int × α)}, DRel r kvs l → (∀ v a, r v a → r' v a) → DRel r' kvs l
  | [], [], h, _ => h
  | [], _ :: _, h, _ => h.elim
  | _ :: _, [], h, _ => h.elim
  | _ :: _, _ :: _, ⟨h1, h2, h3⟩, k => ⟨h1, k _ _ h2, DRel.imp h3 k⟩
theorem DRel.len {α : Type} {r : V → α → Prop} : ∀ {kvs : List (Key × V)} {l : List (Int × α)}, DRel r kvs l → kvs.length = l.length
  | [], [], _ => rfl
  | [], _ :: _, h => h.elim
  | _ :: _, [], h => h.elim
  | _ :: _, _ :: _, ⟨_, _, h⟩ => by rw [List.length_cons, List.length_cons, h.len]
theorem DRel.keys {α : Type} {r : V → α → Prop} : ∀ {kvs : List (Key × V)} {l : List (Int × α)}, DRel r kvs l → kvs.map (·.1) = (l.map (·.1)).map Sum.inl
  | [], [], _ => rfl
  | [], _ :: _, h => h.elim
  | _ :: _, [], h => h.elim
  | kv :: kvs, x :: l, ⟨h1, _, h⟩ => by rw [List.map_cons, List.map_cons, List.map_cons, h.keys, h1]
instance instDc {α : Type} [T : PyTy α] : PyTy (Dc α) where
  rep K k S H v d F := ∃ p kvs, v = .ref p ∧ nodeAt k S H p (.dK kvs) F [] ∧ kvs.length ≤ line ∧ DRel (fun v a => T.rep K 0 S H v a []) kvs d.l
  mono := fun {K k S H S' H' v a F} ⟨p, kvs, e, n, z, r⟩ hs hk => ⟨p, kvs, e, n.mono hs hk, z, r.imp fun v a q => T.mono q hs fun p hp => nomatch hp⟩
  here := fun {K k S H v a F} ⟨p, kvs, e, n, z, r⟩ => n.here fun q hq => nomatch hq
  freeze := fun {K k S H S' v a F} ⟨p, kvs, e, n, z, r⟩ hs hk H' => ⟨p, kvs, e, ⟨n.froz hs hk, rfl⟩, z, r.imp fun v a q => T.mono (PyTy.froz q H') hs fun p hp => nomatch hp⟩
  zero := fun ⟨p, kvs, e, n, z, r⟩ => n.2
theorem DRel.one {α : Type} {r r' : V → α → Prop} (h1 : ∀ v a b, r v a → r' v b → a = b) : ∀ {kvs : List (Key × V)} {l m : List (Int × α)}, DRel r kvs l → DRel r' kvs m → l = m
  | [], [], [], _, _ => rfl
  | [], [], _ :: _, _, h => h.elim
  | [], _ :: _, _, h, _ => h.elim
  | _ :: _, [], _, h, _ => h.elim
  | _ :: _, _ :: _, [], _, h => h.elim
  | kv :: kvs, x :: l, y :: m, ⟨a1, a2, a3⟩, ⟨b1, b2, b3⟩ => by
    have e := a1.symm.trans b1
    cases x
    cases y
    cases e
    cases h1 _ _ _ a2 b2
    rw [DRel.one h1 a3 b3]
instance {α : Type} [T : PyTy α] [Fn : Func α] : Func (Dc α) := ⟨fun {K S H H' v a b F F'} ⟨p, kvs, e, n, z, r⟩ ⟨p2, kvs2, e2, n2, z2, r2⟩ => by
  rw [e] at e2
  cases e2
  have := n.1.symm.trans n2.1
  cases this
  cases a
  cases b
  exact congrArg Dc.mk (DRel.one (r := fun v a => T.rep K 0 S H v a []) (r' := fun v a => T.rep K 0 S H' v a []) (fun v a b x y => Fn.one x y) r r2)⟩
def getDl {α : Type} (l : List (Int × α)) (k : Int) : Option α := (l.find? fun x => decide (x.1 = k)).map (·.2)
def putDl {α : Type} (l : List (Int × α)) (k : Int) (v : α) : List (Int × α) := if (l.any fun x => decide (x.1 = k)) = true then l.map (fun x => if x.1 = k then (x.1, v) else x) else l ++ [(k, v)]
theorem DRel.get {α : Type} {r : V → α → Prop} {k : Int} : ∀ {kvs : List (Key × V)} {l : List (Int × α)}, DRel r kvs l → (valV kvs (Sum.inl k) = none ∧ getDl l k = none) ∨ ∃ v a, valV kvs (Sum.inl k) = some v ∧ getDl l k = some a ∧ r v a
  | [], [], _ => .inl ⟨rfl, rfl⟩
  | [], _ :: _, h => h.elim
  | _ :: _, [], h => h.elim
  | kv :: kvs, x :: l, ⟨h1, h2, h3⟩ => by
    by_cases c : x.1 = k
    · refine .inr ⟨kv.2, x.2, valV_pos (by rw [h1, c]), ?_, h2⟩
      unfold getDl
      rw [List.find?_cons, decide_eq_true c]
      rfl
    · have c' : ¬ kv.1 = Sum.inl k := fun z => c (by rw [h1] at z; exact Sum.inl.inj z)
      rw [valV_neg c']
      have e : getDl (x :: l) k = getDl l k := by
        unfold getDl
        rw [List.find?_cons, decide_eq_false c]
      rw [e]
      exact DRel.get h3
theorem DRel.any {α : Type} {r : V → α → Prop} {k : Int} : ∀ {kvs : List (Key × V)} {l : List (Int × α)}, DRel r kvs l → (kvs.any fun kv => decide (kv.1 = Sum.inl k)) = l.any fun x => decide (x.1 = k)
  | [], [], _ => rfl
  | [], _ :: _, h => h.elim
  | _ :: _, [], h => h.elim
  | kv :: kvs, x :: l, ⟨h1, _, h⟩ => by
    rw [List.any_cons, List.any_cons, DRel.any h, h1]
    congr 1
    exact decide_eq_decide.mpr ⟨fun z => Sum.inl.inj z, fun z => by rw [z]⟩
theorem DRel.map {α : Type} {r : V → α → Prop} {k : Int} {v : V} {a : α} (hr : r v a) : ∀ {kvs : List (Key × V)} {l : List (Int × α)}, DRel r kvs l → DRel r (kvs.map fun kv => if kv.1 = Sum.inl k then (kv.1, v) else kv) (l.map fun x => if x.1 = k then (x.1, a) else x)
  | [], [], _ => trivial
  | [], _ :: _, h => h.elim
  | _ :: _, [], h => h.elim
  | kv :: kvs, x :: l, ⟨h1, h2, h⟩ => by
    by_cases c : x.1 = k
    · rw [List.map_cons, List.map_cons, if_pos c, if_pos (by rw [h1, c])]
      exact ⟨h1, hr, DRel.map hr h⟩
    · rw [List.map_cons, List.map_cons, if_neg c, if_neg (fun z => c (by rw [h1] at z; exact Sum.inl.inj z))]
      exact ⟨h1, h2, DRel.map hr h⟩
theorem DRel.snoc {α : Type} {r : V → α → Prop} {k : Int} {v : V} {a : α} (hr : r v a) : ∀ {kvs : List (Key × V)} {l : List (Int × α)}, DRel r kvs l → DRel r (kvs ++ [(Sum.inl k, v)]) (l ++ [(k, a)])
  | [], [], _ => ⟨rfl, hr, trivial⟩
  | [], _ :: _, h => h.elim
  | _ :: _, [], h => h.elim
  | kv :: kvs, x :: l, ⟨h1, h2, h⟩ => ⟨h1, h2, DRel.snoc hr h⟩
theorem DRel.put {α : Type} {r : V → α → Prop} {k : Int} {v : V} {a : α} (hr : r v a) {kvs : List (Key × V)} {l : List (Int × α)} (h : DRel r kvs l) : DRel r (putK kvs (Sum.inl k) v) (putDl l k a) := by
  unfold putK putDl
  rw [h.any (k := k)]
  split
  · exact h.map hr
  · exact h.snoc hr
theorem putK_len (kvs : List (Key × V)) (k : Key) (v : V) : (putK kvs k v).length ≤ kvs.length + 1 := by
  unfold putK
  split
  · rw [List.length_map]; omega
  · rw [List.length_append, List.length_singleton]; exact Nat.le_refl _
def inD {α : Type} (k : Int) (d : Dc α) : Option Bool := some (getDl d.l k).isSome
def ninD {α : Type} (k : Int) (d : Dc α) : Option Bool := some (!(getDl d.l k).isSome)
@[irreducible] def putDo {α : Type} (d : Dc α) (k : Int) (v : α) : Option (Dc α) := if d.l.length < 2 ^ 24 then some ⟨putDl d.l k v⟩ else none
@[irreducible] def sortD {α : Type} (d : Dc α) : Option (List Int) := if d.l.length < 64 then some ((d.l.map (·.1)).mergeSort fun a b => decide (a ≤ b)) else none
section
variable {X : Cx} {K : PySem.W.Frag} {W : Hp → String → Prop} {ρ : Type} {sl : ρ → List Slot} {ms : List Mode} {a b e : Expr} {pos p : Pos} {ka kb : Mode} {α : Type} [TA : PyTy α]
theorem pv_dnew {k : Nat} : PE X (.Dict [] [] pos) (tP K W sl ms (e0 (⟨[]⟩ : Dc α)) (lv (k + 1))) :=
  PE.conv pe_dnewK fun σ H Q ⟨r, S, hs, hv, he⟩ => fun q hq => he (.ref q) S (L2.upd H q (.dK [])) [q] ⟨Sub.new hq, Sub.refl S, hs.trans (Sub.new hq), fun p z => .inl z, fun p hp => by rw [List.mem_singleton.mp hp]; exact ⟨hq, hs.back hq⟩, List.nodup_cons.mpr ⟨by simp, List.nodup_nil⟩⟩ ⟨q, [], rfl, ⟨upd_same, rfl⟩, Nat.zero_le _, trivial⟩
theorem dget_of {H : Hp} {x : V} {d : Dc α} {k : Int} (h : (instDc (T := TA)).rep K 0 H H x d []) : ∃ a o, x = .ref a ∧ DGet H a (.int k) o ∧ o.isSome = (getDl d.l k).isSome := by
  obtain ⟨p, kvs, e, n, z, r⟩ := h
  refine ⟨p, valV kvs (Sum.inl k), e, DGet.k (k := Sum.inl k) n.1, ?_⟩
  rcases r.get (k := k) with ⟨h1, h2⟩ | ⟨v, a, h1, h2, _⟩ <;> rw [h1, h2] <;> rfl
theorem din_read {op : Int → Dc α → Option Bool} (φ : Bool → Bool) (hop : ∀ k d, op k d = some (φ (getDl d.l k).isSome)) {f : ρ → M Int} {g : ρ → M (Dc α)} (ha : PE X a (tP K W sl ms f ka)) (hb : PE X b (tP K W sl ms g kb)) (hka : ka ≠ .un) (hkb : kb ≠ .un) {σ : L2.St} {H : Hp} {Q : VK} (h : tP K W sl ms (e2 op f g) (lv 0) σ H Q) :
    tP K W sl ms f ka σ H fun y H1 => tP K W sl ms g kb σ H1 fun x H2 => ∃ a o, x = .ref a ∧ DGet H2 a y o ∧ Q (.bl (φ o.isSome)) H2 := by
  obtain ⟨r, S, hs, hv, he⟩ := h
  refine two (R := fun y x H2 => ∃ a o, x = .ref a ∧ DGet H2 a y o ∧ Q (.bl (φ o.isSome)) H2) ha hb hs hv ?_
  refine ends_mono (ends_bind he) (fun x ex q => ends_mono (ends_bind q) (fun y ey q v u S' H' F1 F2 x' g1 g2 => ?_) fun c q => q) fun c q => q
  have ev := rep_scal (g1.look x'.sh hka)
  obtain ⟨p, o, e1, hd, ho⟩ := dget_of (k := x) (g2.look x'.sh hkb)
  rw [ev]
  refine ⟨p, o, e1, hd, ?_⟩
  rw [hop] at q
  rw [ho]
  exact q _ (add S' H' (F2 ++ F1)) H' [] (x'.share fun p hp => (List.mem_append.mp hp).elim (g2.here p) (g1.here p)) (Scal.scal.mpr ⟨rfl, rfl⟩)
theorem pv_din {f : ρ → M Int} {g : ρ → M (Dc α)} (hu : X.A.units + 1 < cLine) (ha : PE X a (tP K W sl ms f ka)) (hb : PE X b (tP K W sl ms g kb)) (hka : ka ≠ .un := by decide) (hkb : kb ≠ .un := by decide) (h1 : behindInMarks .In b = false := by rfl) : PE X (.Compare a [.In] [b] pos) (tP K W sl ms (e2 inD f g) (lv 0)) :=
  PE.conv (pe_cmp (pc_din hu ha hb) h1) fun σ H Q h => by
    exact din_read (fun b => b) (fun k d => rfl) ha hb hka hkb h
theorem pt_din {f : ρ → M Int} {g : ρ → M (Dc α)} (hu : X.A.units + 1 < cLine) (ha : PE X a (tP K W sl ms f ka)) (hb : PE X b (tP K W sl ms g kb)) (hka : ka ≠ .un := by decide) (hkb : kb ≠ .un := by decide) (h1 : behindInMarks .In b = false := by rfl) : PT X (.Compare a [.In] [b] pos) (tPT K W sl ms (e2 inD f g)) :=
  PT.conv (pt_cmp (pc_din hu ha hb) h1) fun σ H Q h => by
    exact din_read (fun b => b) (fun k d => rfl) ha hb hka hkb (tPT_of (t := tP K W sl ms (e2 inD f g) (lv 0)) (kd := lv 0) (by decide) h)
theorem pt_dnin {f : ρ → M Int} {g : ρ → M (Dc α)} (hu : X.A.units + 1 < cLine) (ha : PE X a (tP K W sl ms f ka)) (hb : PE X b (tP K W sl ms g kb)) (hka : ka ≠ .un := by decide) (hkb : kb ≠ .un := by decide) (h1 : behindInMarks .NotIn b = false := by rfl) : PT X (.Compare a [.NotIn] [b] pos) (tPT K W sl ms (e2 ninD f g)) :=
  PT.conv (pt_cmp (pc_dnotin hu ha hb) h1) fun σ H Q h => by
    exact din_read (fun b => !b) (fun k d => rfl) ha hb hka hkb (tPT_of (t := tP K W sl ms (e2 ninD f g) (lv 0)) (kd := lv 0) (by decide) h)
/-- sorted(d) -/
def rSortD : List V → Hp → VK → Prop := fun xs H Q => ∃ (a : Addr) (kvs : List (Key × V)) (ks : List Int), xs = [.ref a] ∧ Rd H a (.dK kvs) ∧ kvs.map (·.1) = ks.map Sum.inl ∧ ks.length < 64 ∧
    ∀ (ys : List Int) (p : Addr), ys.Perm ks → ys.Pairwise (· ≤ ·) → H p = none → Q (.ref p) (upd H p (.lst (ys.map V.int)))
theorem cr_sortD (hc : X.calm = true) : CallR X (.builtin "sorted") rSortD := call_sortedDI hc
theorem o_sortD : Op1 K (rOne rSortD) (sortD (α := α)) 1 := fun H x d c Q ra e q => by
  unfold sortD at e
  split at e
  · rename_i few
    cases e
    obtain ⟨p, kvs, e1, n, z, r⟩ := ra
    refine ⟨p, kvs, d.l.map (·.1), by rw [e1], .inl n.1, r.keys, by rw [List.length_map]; exact few, fun ys p2 hp hs hn => ?_⟩
    obtain ⟨h1, h2⟩ := sortI_spec (d.l.map (·.1))
    have ey : ys = (d.l.map (·.1)).mergeSort fun a b => decide (a ≤ b) := List.Perm.eq_of_pairwise (fun a b _ _ x y => by omega) hs h2 (hp.trans h1.symm)
    rw [ey]
    exact q _ _ (New.list hn (by rw [h1.length_eq, List.length_map]; exact Nat.le_trans (Nat.le_of_lt few) (by decide)))
  · cases e
def lenD {α : Type} (d : Dc α) : Option Int := some (d.l.length : Int)
def rLenD : List V → Hp → VK → Prop := fun xs H Q => ∃ a kvs, xs = [V.ref a] ∧ H a = some (.dK kvs) ∧ Q (.int kvs.length) H
theorem cr_lenD : CallR X (.builtin "len") rLenD := call_lenD
theorem o_lenD : Op1 K (rOne rLenD) (lenD (α := α)) 0 := fun H x d c Q ra e q => by
  cases e
  obtain ⟨p, kvs, e1, n, z, r⟩ := ra
  refine ⟨p, kvs, by rw [e1], n.1, ?_⟩
  rw [r.len]
  exact q _ H (New.scal (α := Int))
/-- d[k], of a dict that is shared -/
def getDo {α : Type} (d : Dc α) (k : Int) : Option α := getDl d.l k
theorem pv_dget {f : ρ → M (Dc α)} {g : ρ → M Int} (hu : X.A.units + 1 < cLine) (ha : PE X a (tP K W sl ms f (lv 0))) (hb : PE X b (tP K W sl ms g kb)) (hs : NoSl b := by exact fun _ _ => rfl) (hkb : kb ≠ .un := by decide) : PE X (.Subscript a b pos) (tP K W sl ms (e2 getDo f g) (lv 0)) :=
  PE.conv (pe_dget hu ha hb hs) fun σ H Q ⟨r, S, hs, hv, he⟩ => by
    refine two (R := fun x y H2 => ∃ a v, x = .ref a ∧ DGet H2 a y (some v) ∧ Q v H2) ha hb hs hv ?_
    refine ends_mono (ends_bind he) (fun d ed q => ends_mono (ends_bind q) (fun k ek q v u S2 H2 F1 F2 x g1 g2 => ?_) fun c q => q) fun c q => q
    obtain ⟨z, ez, q⟩ := up_ends q
    have eu := rep_scal (g2.look x.sh hkb)
    obtain ⟨p, kvs, e1, n, zz, rr⟩ := TL_zero g1
    rcases rr.get (k := k) with ⟨h1, h2⟩ | ⟨v1, a1, h1, h2, h3⟩
    · have ez' : getDl d.l k = some z := ez
      rw [h2] at ez'
      cases ez'
    · have ez' : getDl d.l k = some z := ez
      rw [h2] at ez'
      cases ez'
      refine ⟨p, v1, e1, ?_, q v1 _ H2 [] (x.share fun p hp => (List.mem_append.mp hp).elim (g2.here p) (g1.here p)) ?_⟩
      · have := DGet.k (k := Sum.inl k) (x.sh _ _ n.1)
        rw [h1] at this
        rw [eu]
        exact this
      · exact TA.mono (PyTy.froz h3 H2) (add_sub fun p hp => (x.fr p hp).2) fun p hp => nomatch hp
end
section
variable {X : Cx} {C : Ct} {ρ R : Type} [TR : PyTy R] {sl : ρ → List Slot} {ms ms1 ms2 lm rm : List Mode} {rk : Nat} {α : Type} [TA : PyTy α] {pos pos' : Pos} {o ik value : Expr}
def fDput {ρ R α : Type} (get : ρ → Dc α) (set : Dc α → ρ → ρ) (fk : ρ → M Int) (fv : ρ → M α) : ρ → M (Fl ρ R) := fun r => fv r >>= fun v => fk r >>= fun k => up (putDo (get r) k v) >>= fun d => .ok (.nx (set d r))
theorem s_dput {i k : Nat} {io : Option Nat} {get : ρ → Dc α} {set : Dc α → ρ → ρ} {fk : ρ → M Int} {fv : ρ → M α} (hu : X.A.units + 1 < cLine) (ho : PE X o (tVar i)) (hi : PE X ik (tP C.K C.W sl (ms.map downM) fk (lv 0))) (hv : PE X value (tP C.K C.W sl (ms.map downM) fv (lv 0)))
    (hm : ms[i]? = some (.own (k + 1) io)) (hg : ∀ r, (sl r)[i]? = some ⟨get r⟩) (hset : ∀ a r, sl (set a r) = (sl r).set i ⟨a⟩) (hs : swapsWith value (some (.Subscript o ik pos')) pos.line X.env = pure false := by rfl) : PS X (.Assign [.Subscript o ik pos'] value pos) (tS C (R := R) sl ms ms lm rm rk (fDput get set fk fv)) :=
  PS.conv (ps_dput hu ho hi hv hs) fun D σ H ⟨r, T, hd, he⟩ => by
    refine look_hd hd (ends_mono (ends_bind he) (fun v _ q x H1 s1 hd1 => ?_) fun c q => q)
    have hd1' : Hd C ((itm C.K 0 v x :: T) ++ Env C.K C.A ms (sl r) σ) H1 := hd1
    obtain ⟨w, ew, hdo⟩ := hd1'.open hm (hg r)
    obtain ⟨p0, ep⟩ : ∃ p0, w = some (.ref p0) := hdo.at fun S F ⟨x0, ex0, io0, p0, kvs, ep, n, _⟩ => ⟨p0, by rw [ex0, ep]⟩
    subst ep
    refine ⟨.ref p0, ew, look_hd hd1' (ends_mono (ends_bind q) (fun key _ q y H2 s2 hd2 => ?_) fun c q => q)⟩
    obtain ⟨d', ed, q⟩ := up_ends (ends_bind q)
    have ey := itm_int hd2
    subst ey
    have hd3 : Hd C ((itm C.K 0 v x :: T) ++ Env C.K C.A ms (sl r) σ) H2 := hd2.drop
    obtain ⟨w', ew', hd4⟩ := hd3.open hm (hg r)
    rw [ew] at ew'
    cases ew'
    obtain ⟨kvs, hk, hkl⟩ : ∃ kvs, H2 p0 = some (.dK kvs) ∧ kvs.length = (get r).l.length := hd4.fact fun S F ⟨x0, ex0, io0, p1, kvs, ep, n, z, rr⟩ => by
      cases ex0; cases ep
      exact ⟨kvs, n.1, rr.len⟩
    unfold putDo at ed
    split at ed
    · rename_i hh
      cases ed
      have hln : line = 2 ^ 24 := rfl
      refine ⟨p0, _, rfl, DPut.k (k := Sum.inl key) hk (by rw [hkl]; exact hh), q σ _ ?_⟩
      have hd5 := Hd.join hd4
      have hd6 : Hd C (slotA C.K C.A (.own (k + 1) io) ⟨(⟨putDl (get r).l key v⟩ : Dc α)⟩ (some (.ref p0)) :: (T ++ Env C.K C.A (ms.set i .un) (sl r) σ)) (L2.upd H2 p0 (.dK (putK kvs (Sum.inl key) x))) := by
        refine hd5.upd fun S F hA nd dj sh => ?_
        obtain ⟨G1, G2, eF, ⟨x2, ex2, io2, p2, kvs2, ep2, n2, z2, r2⟩, rb⟩ := hA
        cases ex2
        cases ep2
        have e2 : kvs2 = kvs := by
          have := n2.1.symm.trans hk
          cases this
          rfl
        subst e2
        have eG : G1 = [p0] := n2.2
        have eG2 : G2 = [] := TA.zero rb
        subst eG eG2 eF
        refine ⟨List.mem_cons_self, [p0], List.nodup_cons.mpr ⟨by simp, List.nodup_nil⟩, fun q hq => by rw [List.mem_singleton.mp hq]; exact List.mem_cons_self, .ref p0, rfl, io2, p0, _, rfl, ⟨upd_same, rfl⟩, ?_, ?_⟩
        · have := putK_len kvs2 (Sum.inl key) x
          omega
        · exact DRel.put (PyTy.froz rb _) (r2.imp fun v a q => PyTy.froz q _)
      have hl : i < σ.length := (List.getElem?_eq_some_iff.mp ew).1
      have hd7 := Hd.close (m0 := .un) (i := i) hd6 hl
      have e1 : σ.set i (some (.ref p0)) = σ := by
        obtain ⟨h1, h2⟩ := List.getElem?_eq_some_iff.mp ew
        rw [← h2]
        exact List.set_getElem_self h1
      have e3 : (ms.set i .un).set i (.own (k + 1) io) = ms := by
        obtain ⟨h1, h2⟩ := List.getElem?_eq_some_iff.mp hm
        rw [List.set_set, ← h2]
        exact List.set_getElem_self h1
      rw [e1, e3, ← hset] at hd7
      exact hd7
    · cases ed
end

/-! ### bits -/
@[irreducible] def shlI (x y : Int) : Option Int := if 0 ≤ y ∧ y ≤ 1000000 ∧ x.natAbs < 2 ^ 64 then some (x * 2 ^ y.toNat) else none
@[irreducible] def shrI (x y : Int) : Option Int := if 0 ≤ y then some (x / 2 ^ y.toNat) else none
def andI (x y : Int) : Option Int := some (Builtin.bitAnd x y)
section
variable {K : PySem.W.Frag}
theorem o_shl : Op2 K (rI CPow fun i j => .int (i * 2 ^ j.toNat)) shlI 0 := Op2.scal (α := Int) (β := Int) (γ := Int) fun H a b c Q e q => by
  unfold shlI at e
  split at e
  · rename_i h
    cases e
    exact ⟨a, b, rfl, rfl, h, q⟩
  · cases e
theorem o_shr : Op2 K (rI (fun _ j => 0 ≤ j) fun i j => .int (i / 2 ^ j.toNat)) shrI 0 := Op2.scal (α := Int) (β := Int) (γ := Int) fun H a b c Q e q => by
  unfold shrI at e
  split at e
  · rename_i h
    cases e
    exact ⟨a, b, rfl, rfl, h, q⟩
  · cases e
theorem o_and : Op2 K (rI0 fun i j => .int (Builtin.bitAnd i j)) andI 0 := Op2.scal (α := Int) (β := Int) (γ := Int) fun H a b c Q e q => by cases e; exact ⟨a, b, rfl, rfl, q⟩
end

/-! ### a, b = e, e of plain local names: stored from the right -/
section
variable {X : Cx} {C : Ct} {ρ R A : Type} [TR : PyTy R] [AA : ArgTy A] {sl : ρ → List Slot} {ms ms1 ms2 lm rm : List Mode} {rk : Nat} {pos : Pos}
theorem s_par2 {i j : Nat} {x y : Str} {a b : Expr} {px py pt : Pos} {kt k2 : Nat} {pt2 : Pos} {ds : List Ad} {f : ρ → M ((ρ → A) × ρ)} {set : A → ρ → ρ} (hc : X.calm = true) (hN : X.N.Nodup) (hi : X.N[i]? = some x) (hj : X.N[j]? = some y) (hij : i ≠ j)
    (hx : X.env.scope.names.lookup x = some .local) (hy : X.env.scope.names.lookup y = some .local) (ha : PA X [a, b] (tAI C sl ms ms1 ds f)) (hw : swappedStores [.Tuple [.Name x px, .Name y py] kt pt] (.Tuple [a, b] k2 pt2) X.env = pure (some [x, y]))
    (hby : allBy ds = true) (hn : ds.length = 2) (hi1 : i < ms1.length) (hj1 : j < ms1.length) (hset : ∀ a r, sl (set a r) = setSlots (sl r) [i, j] (AA.al a)) (hms : ms2 = setMs ms1 [i, j] ds := by rfl)
    (hs : swapsWithSole [.Tuple [.Name x px, .Name y py] kt pt] (.Tuple [a, b] k2 pt2) pos.line X.env = pure false := by rfl) :
    PS X (.Assign [.Tuple [.Name x px, .Name y py] kt pt] (.Tuple [a, b] k2 pt2) pos) (tS C (R := R) sl ms ms2 lm rm rk (fUnp set f)) :=
  PS.conv (ps_par hc hN hi hj hij hx hy ha hw hs) fun D σ H ⟨r, T, hd, he⟩ => ⟨r, T, hd, ends_mono (ends_bind he) (fun φr _ q vs H1 hd1 => by
    subst hms
    have hlv : vs.length = ds.length := by
      obtain ⟨S, F, st, o⟩ := id hd1
      obtain ⟨F1, F2, _, h1, _⟩ := st.split
      exact got_len h1
    rw [hn] at hlv
    match vs, hlv with
    | [v, w], _ =>
      refine ⟨v, w, rfl, q _ H1 ?_⟩
      rw [hset]
      exact Hd.setA (is := [i, j]) hd1 hby (by rw [hn]; rfl) (fun k hk => by
        rcases List.mem_cons.mp hk with e | hk
        · rw [e]; exact hi1
        · rw [List.mem_singleton.mp hk]; exact hj1)) fun c q => q⟩
theorem s_par3 {i j l : Nat} {x y z : Str} {a b c : Expr} {px py pz pt : Pos} {kt k2 : Nat} {pt2 : Pos} {ds : List Ad} {f : ρ → M ((ρ → A) × ρ)} {set : A → ρ → ρ} (hc : X.calm = true) (hN : X.N.Nodup) (hi : X.N[i]? = some x) (hj : X.N[j]? = some y) (hl : X.N[l]? = some z) (hij : i ≠ j) (hil : i ≠ l) (hjl : j ≠ l)
    (hx : X.env.scope.names.lookup x = some .local) (hy : X.env.scope.names.lookup y = some .local) (hz : X.env.scope.names.lookup z = some .local) (ha : PA X [a, b, c] (tAI C sl ms ms1 ds f)) (hw : swappedStores [.Tuple [.Name x px, .Name y py, .Name z pz] kt pt] (.Tuple [a, b, c] k2 pt2) X.env = pure (some [x, y, z]))
    (hby : allBy ds = true) (hn : ds.length = 3) (hi1 : i < ms1.length) (hj1 : j < ms1.length) (hl1 : l < ms1.length) (hset : ∀ a r, sl (set a r) = setSlots (sl r) [i, j, l] (AA.al a)) (hms : ms2 = setMs ms1 [i, j, l] ds := by rfl)
    (hs : swapsWithSole [.Tuple [.Name x px, .Name y py, .Name z pz] kt pt] (.Tuple [a, b, c] k2 pt2) pos.line X.env = pure false := by rfl) :
    PS X (.Assign [.Tuple [.Name x px, .Name y py, .Name z pz] kt pt] (.Tuple [a, b, c] k2 pt2) pos) (tS C (R := R) sl ms ms2 lm rm rk (fUnp set f)) :=
  PS.conv (ps_par3 hc hN hi hj hl hij hil hjl hx hy hz ha hw hs) fun D σ H ⟨r, T, hd, he⟩ => ⟨r, T, hd, ends_mono (ends_bind he) (fun φr _ q vs H1 hd1 => by
    subst hms
    have hlv : vs.length = ds.length := by
      obtain ⟨S, F, st, o⟩ := id hd1
      obtain ⟨F1, F2, _, h1, _⟩ := st.split
      exact got_len h1
    rw [hn] at hlv
    match vs, hlv with
    | [u, v, w], _ =>
      refine ⟨u, v, w, rfl, q _ H1 ?_⟩
      rw [hset]
      exact Hd.setA (is := [i, j, l]) hd1 hby (by rw [hn]; rfl) (fun k hk => by
        rcases List.mem_cons.mp hk with e | hk
        · rw [e]; exact hi1
        · rcases List.mem_cons.mp hk with e | hk
          · rw [e]; exact hj1
          · rw [List.mem_singleton.mp hk]; exact hl1)) fun c q => q⟩
end
end VL
namespace VL
universe u
open PySem PySem.Spec PyProof.Rows L2

/-! ### None or a value -/
class NotNon (α : Type) [T : PyTy α] : Prop where
  ne : ∀ {K k S H v a F}, T.rep K k S H v a F → v ≠ .non
instance : NotNon Int := ⟨fun h => by rw [h.1]; exact fun z => nomatch z⟩
instance : NotNon Bool := ⟨fun h => by rw [h.1]; exact fun z => nomatch z⟩
instance : NotNon Str := ⟨fun h => by rw [h.1]; exact fun z => nomatch z⟩
instance {α : Type} [T : PyTy α] : NotNon (List α) := ⟨fun ⟨p, xs, F', e, _⟩ => by rw [e]; exact fun z => nomatch z⟩
instance {α β : Type} [TA : PyTy α] [TB : PyTy β] : NotNon (α × β) := ⟨fun ⟨p, x, y, F1, F2, e, _⟩ => by rw [e]; exact fun z => nomatch z⟩
instance instOpt {α : Type} [T : PyTy α] : PyTy (Option α) where
  rep K k S H v o F := match o with
    | none => v = .non ∧ F = []
    | some a => T.rep K k S H v a F
  mono {K k S H S' H' v o F} h hs hk := by
    cases o with
    | none => exact h
    | some a => exact T.mono h hs hk
  here {K k S H v o F} h := by
    cases o with
    | none => rw [h.2]; exact fun p hp => nomatch hp
    | some a => exact T.here h
  freeze {K k S H S' v o F} h hs hk H' := by
    cases o with
    | none => exact ⟨h.1, rfl⟩
    | some a => exact T.freeze h hs hk H'
  zero {K S H v o F} h := by
    cases o with
    | none => exact h.2
    | some a => exact T.zero h
instance instScalOpt {α : Type} [T : PyTy α] [C : Scal α] : Scal (Option α) := ⟨fun o => match o with
    | none => V.non
    | some a => C.val a, by
  intro K k S H v o F
  cases o with
  | none => exact Iff.rfl
  | some a => exact C.scal⟩
instance {α : Type} [T : PyTy α] [Fn : Func α] [N : NotNon α] : Func (Option α) := ⟨fun {K S H H' v a b F F'} h g => by
  cases a with
  | none => cases b with
    | none => rfl
    | some b => exact absurd h.1 (N.ne (show T.rep K 0 S H' v b F' from g))
  | some a => cases b with
    | none => exact absurd g.1 (N.ne (show T.rep K 0 S H v a F from h))
    | some b => exact congrArg some (Fn.one (show T.rep K 0 S H v a F from h) (show T.rep K 0 S H' v b F' from g))⟩
theorem opt_non {α : Type} [T : PyTy α] [N : NotNon α] {K : PySem.W.Frag} {k : Nat} {S H : Hp} {v : V} {o : Option α} {F : List Addr} (h : (instOpt (T := T)).rep K k S H v o F) : decide (v = .non) = o.isNone := by
  cases o with
  | none => rw [h.1]; rfl
  | some a => exact decide_eq_false (N.ne (show T.rep K k S H v a F from h))
def isNo {α : Type} (o : Option α) : Option Bool := some o.isNone
def isSo {α : Type} (o : Option α) : Option Bool := some (!o.isNone)
def unO {α : Type} (o : Option α) : Option α := o
def toO {α : Type} (a : α) : Option (Option α) := some (some a)
section
variable {X : Cx} {K : PySem.W.Frag} {W : Hp → String → Prop} {ρ : Type} {sl : ρ → List Slot} {ms : List Mode} {a b e : Expr} {pos p : Pos} {kd : Mode} {α β : Type} [TA : PyTy α] [TB : PyTy β]
/-- the same value, seen otherwise -/
theorem pv_re {op : α → Option β} {f : ρ → M α} (hr : ∀ {K k S H v a b F}, op a = some b → TA.rep K k S H v a F → TB.rep K k S H v b F) (h : PE X e (tP K W sl ms f kd)) : PE X e (tP K W sl ms (e1 op f) kd) :=
  PE.conv h fun σ H Q ⟨r, S, hs, hv, he⟩ => ⟨r, S, hs, hv, ends_mono (ends_bind he) (fun a ea q v S' H' F x g => by
    obtain ⟨z, ez, q⟩ := up_ends q
    refine q v S' H' F x ?_
    cases kd with
    | un => exact g
    | vw => exact ⟨g.1, hr ez g.2⟩
    | id n => exact ⟨g.1, hr ez g.2⟩
    | own k io => exact hr ez g) fun c q => q⟩
theorem pv_unO {f : ρ → M (Option α)} (h : PE X e (tP K W sl ms f kd)) : PE X e (tP K W sl ms (e1 unO f) kd) := pv_re (fun {K k S H v a b F} e r => by
  cases a with
  | none => cases e
  | some a => cases e; exact r) h
theorem pv_toO {f : ρ → M α} (h : PE X e (tP K W sl ms f kd)) : PE X e (tP K W sl ms (e1 toO f) kd) := pv_re (fun {K k S H v a b F} e r => by
  cases e
  exact r) h
theorem pv_noO {j : Nat} {k : Nat} : PE X (.Constant .none j pos) (tP K W sl ms (e0 (none : Option α)) (lv k)) :=
  PE.conv pe_non fun σ H Q ⟨r, S, hs, hv, he⟩ => he .non S H [] (Ext.refl hs) ⟨rfl, rfl⟩
variable [NA : NotNon α]
theorem isN_read {φ : Bool → Bool} {op : Option α → Option Bool} (hop : ∀ o, op o = some (φ o.isNone)) {f : ρ → M (Option α)} (ha : PE X a (tP K W sl ms f kd)) (hk : kd ≠ .un) {σ : L2.St} {H : Hp} {Q : VK} (h : tP K W sl ms (e1 op f) (lv 0) σ H Q) :
    tP K W sl ms f kd σ H fun x H1 => Q (.bl (φ (decide (x = .non)))) H1 := by
  obtain ⟨r, S, hs, hv, he⟩ := h
  refine ⟨r, S, hs, hv, ends_mono (ends_bind he) (fun o eo q v S' H' F x g => ?_) fun c q => q⟩
  show Q (.bl (φ (decide (v = .non)))) H'
  rw [opt_non (g.look x.sh hk)]
  rw [hop] at q
  exact q _ (add S' H' F) H' [] (x.share g.here) (Scal.scal.mpr ⟨rfl, rfl⟩)
theorem pv_isN {j : Nat} {p2 : Pos} {f : ρ → M (Option α)} (ha : PE X a (tP K W sl ms f kd)) (hk : kd ≠ .un := by decide) : PE X (.Compare a [.Is] [.Constant .none j p2] pos) (tP K W sl ms (e1 isNo f) (lv 0)) :=
  PE.conv (pe_cmp (pc_isN ha) (by rfl)) fun σ H Q h => isN_read (φ := fun b => b) (fun _ => rfl) ha hk h
theorem pv_notN {j : Nat} {p2 : Pos} {f : ρ → M (Option α)} (ha : PE X a (tP K W sl ms f kd)) (hk : kd ≠ .un := by decide) : PE X (.Compare a [.IsNot] [.Constant .none j p2] pos) (tP K W sl ms (e1 isSo f) (lv 0)) :=
  PE.conv (pe_cmp (pc_notN ha) (by rfl)) fun σ H Q h => isN_read (φ := fun b => !b) (fun _ => rfl) ha hk h
theorem pt_isN {j : Nat} {p2 : Pos} {f : ρ → M (Option α)} (ha : PE X a (tP K W sl ms f kd)) (hk : kd ≠ .un := by decide) : PT X (.Compare a [.Is] [.Constant .none j p2] pos) (tPT K W sl ms (e1 isNo f)) :=
  PT.conv (pt_cmp (pc_isN ha) (by rfl)) fun σ H Q h => isN_read (φ := fun b => b) (fun _ => rfl) ha hk (tPT_of (t := tP K W sl ms (e1 isNo f) (lv 0)) (kd := lv 0) (by decide) h)
theorem pt_notN {j : Nat} {p2 : Pos} {f : ρ → M (Option α)} (ha : PE X a (tP K W sl ms f kd)) (hk : kd ≠ .un := by decide) : PT X (.Compare a [.IsNot] [.Constant .none j p2] pos) (tPT K W sl ms (e1 isSo f)) :=
  PT.conv (pt_cmp (pc_notN ha) (by rfl)) fun σ H Q h => isN_read (φ := fun b => !b) (fun _ => rfl) ha hk (tPT_of (t := tP K W sl ms (e1 isSo f) (lv 0)) (kd := lv 0) (by decide) h)
end
section
variable {X : Cx} {C : Ct} {ρ : Type} {sl : ρ → List Slot} {ms ms1 ms2 : List Mode} {a b e : Expr} {pos : Pos} {α β : Type} [TA : PyTy α] [TB : PyTy β]
theorem ve_re {op : α → Option β} {k : Nat} {f : ρ → M (α × ρ)} (hr : ∀ {K k S H v a b F}, op a = some b → TA.rep K k S H v a F → TB.rep K k S H v b F) (h : PE X e (tE C sl ms ms1 f k)) : PE X e (tE C sl ms ms1 (E1 op f) k) :=
  PE.conv h fun σ H Q ⟨r, T, hd, he⟩ => ⟨r, T, hd, ends_mono (ends_bind he) (fun ar _ q v H1 hd1 => by
    obtain ⟨z, ez, q⟩ := up_ends (ends_bind q)
    exact q v H1 (hd1.imp fun S F r => hr ez r)) fun c q => q⟩
theorem ve_unO {k : Nat} {f : ρ → M (Option α × ρ)} (h : PE X e (tE C sl ms ms1 f k)) : PE X e (tE C sl ms ms1 (E1 unO f) k) := ve_re (fun {K k S H v a b F} e r => by
  cases a with
  | none => cases e
  | some a => cases e; exact r) h
theorem ve_toO {k : Nat} {f : ρ → M (α × ρ)} (h : PE X e (tE C sl ms ms1 f k)) : PE X e (tE C sl ms ms1 (E1 toO f) k) := ve_re (fun {K k S H v a b F} e r => by
  cases e
  exact r) h
end

/-! ### tier two: calls of one argument -/
def rListOf (K : PySem.W.Frag) : List V → Hp → VK → Prop := fun xs H Q => ∃ p ys, xs = [.ref p] ∧ (SqL K H p ys ∨ SqT K H p ys) ∧ ∀ l, H l = none → Q (.ref l) (upd H l (.lst ys))
theorem o_listS {K : PySem.W.Frag} {α : Type} [TA : PyTy α] [SA : Scal α] : Op1 K (rOne (rListOf K)) (fun l : List α => some l) 1 := fun H x d c Q ra e q => by
  cases e
  obtain ⟨p, e1, n, z⟩ := rep_list ra
  exact ⟨p, _, by rw [e1], .inl (.inl (.inl n)), fun l hl => q _ _ (New.list hl z)⟩
section
variable {X : Cx} {C : Ct} {ρ : Type} {sl : ρ → List Slot} {ms ms1 ms2 : List Mode} {a b e : Expr} {pos p : Pos} {α γ : Type} [TA : PyTy α] [TC : PyTy γ]
theorem ve_b1 {id : String} {x : Str} {t : List V → Hp → VK → Prop} {op : α → Option γ} {k ka : Nat} {f : ρ → M (α × ρ)} (hc : CallR X (.builtin id) t) (hp : Op1 C.K (rOne t) op k) (hg : Gl X x) (hm : X.mg x = none) (hv : bootBuiltins x = some (.builtin id)) (ha : PE X a (tE C sl ms ms1 f ka))
    (hn : x ≠ "__name__" := by decide) (hdb : (x == ("__debug__" : Str)) = false := by decide) (he : starEach [a] X.env = (false, eval a X.env) :: starEach [] X.env := by rfl) (hpl : (backTo pos (starEach [] X.env)).any (·.1) = false := by rfl) : PE X (.Call (.Name x p) [a] [] pos) (tE C sl ms ms1 (E1 op f) k) :=
  ve_1 hp (PE.conv (pe_callB hc hg hm hv (pa_cons ha pa_nil he) hn hdb he hpl) fun _ _ _ h => h)
theorem ve_t1 {T : String} {x : Str} {t : List V → Hp → VK → Prop} {op : α → Option γ} {k ka : Nat} {f : ρ → M (α × ρ)} (hc : CallR X (.type T) t) (hp : Op1 C.K (rOne t) op k) (hg : Gl X x) (hm : X.mg x = none) (hv : bootBuiltins x = some (.type T)) (ha : PE X a (tE C sl ms ms1 f ka))
    (hn : x ≠ "__name__" := by decide) (hdb : (x == ("__debug__" : Str)) = false := by decide) (he : starEach [a] X.env = (false, eval a X.env) :: starEach [] X.env := by rfl) (hpl : (backTo pos (starEach [] X.env)).any (·.1) = false := by rfl) : PE X (.Call (.Name x p) [a] [] pos) (tE C sl ms ms1 (E1 op f) k) :=
  ve_1 hp (PE.conv (pe_callTy hc hg hm hv (pa_cons ha pa_nil he) hn hdb he hpl) fun _ _ _ h => h)
theorem ve_listS [SA : Scal α] {f : ρ → M (List α × ρ)} {ka : Nat} (hg : Gl X "list") (hm : X.mg "list" = none) (ha : PE X a (tE C sl ms ms1 f ka)) (hK : C.K = X.K := by rfl) (he : starEach [a] X.env = (false, eval a X.env) :: starEach [] X.env := by rfl) (hpl : (backTo pos (starEach [] X.env)).any (·.1) = false := by rfl) : PE X (.Call (.Name "list" p) [a] [] pos) (tE C sl ms ms1 (E1 (fun l => some l) f) 1) :=
  ve_t1 (t := rListOf X.K) call_list_of (hK ▸ o_listS) hg hm boot_list ha (by decide) (by decide) he hpl
end
end VL
namespace VL
universe u
open PySem PySem.Spec PyProof.Rows L2

/-! ### walking a list of our own that stays as it is, its things shared: the list is held aside -/
section
variable {C : Ct} {β : Type} [TB : PyTy β]
def CellA (K : PySem.W.Frag) (p : Addr) (vs : List V) (l : List β) : Assn :=
  ⟨fun S H F => F = [p] ∧ H p = some (.lst vs) ∧ Reps (fun v a F => TB.rep K 0 S H v a F) vs l [],
   fun ⟨e, h, r⟩ hs hk => by
    subst e
    exact ⟨rfl, (hk p List.mem_cons_self).trans h, r.imp fun v a F0 hf q => TB.mono q hs fun q hq => by
      have := hf q hq
      cases this⟩,
   fun ⟨e, h, r⟩ q hq => by
    subst e
    rw [List.mem_singleton.mp hq, h]
    exact fun z => nomatch z⟩
/-- the walk's own turns -/
structure GoO (K : PySem.W.Frag) (J : It) (g : TG) (p : Addr) (is : List Nat) {γ : Type} (ofI : Nat → β → γ) (parts : γ → List Slot) : Prop where
  stop : ∀ m H vs, H p = some (.lst vs) → vs.length ≤ m → J.stop m H
  go : ∀ m H vs, H p = some (.lst vs) → m < vs.length → J.go m H
  yld : ∀ m H vs v x H' (σ : L2.St) (Q : L2.St → Hp → Prop) (S : Hp) (b : β), H p = some (.lst vs) → vs[m]? = some v → J.yld m H x H' → Sub S H → TB.rep K 0 S H v b [] → (∀ ws, Sub H H' → Parts K (lv 0) S H' (parts (ofI m b)) ws → Q (setAll σ is ws) H') → g x σ H' Q
theorem goO_list {K : PySem.W.Frag} {p : Addr} {i : Nat} : GoO (β := β) K (Itl K p) (gName i) p [i] (fun _ b => b) (fun b => [⟨b⟩]) where
  stop m H vs h hm := ⟨vs, .inl (.inl h), hm⟩
  go m H vs h hm := ⟨vs, vs[m], .inl (.inl h), List.getElem?_eq_getElem hm⟩
  yld m H vs v x H' σ Q S b h hv hy hs hr q := by
    obtain ⟨e, hx⟩ := hy
    subst e
    have e2 := hx vs (.inl (.inl h))
    rw [hv] at e2
    cases e2
    exact q [v] (Sub.refl _) ⟨⟨v, rfl, PyTy.froz hr S⟩, trivial⟩
theorem goO_enum {K : PySem.W.Frag} {p : Addr} {i j : Nat} : GoO (β := β) K (Ite K p) (gPair K i j) p [i, j] (fun m b => ((m : Int), b)) (fun b => [⟨b.1⟩, ⟨b.2⟩]) where
  stop m H vs h hm := ⟨vs, .inl (.inl h), hm⟩
  go m H vs h hm := ⟨vs, vs[m], .inl (.inl h), List.getElem?_eq_getElem hm⟩
  yld m H vs v x H' σ Q S b h hv hy hs hr q := by
    obtain ⟨T, y, e1, hT, e2, hx⟩ := hy
    subst e1 e2
    have e2 := hx vs (.inl (.inl h))
    rw [hv] at e2
    cases e2
    exact ⟨T, [.int (m : Nat), v], rfl, .inl (.inl upd_same), rfl, .int (m : Nat), [v], rfl, v, [], rfl, rfl, q [.int (m : Nat), v] (Sub.new hT) ⟨viewI, ⟨v, rfl, PyTy.froz hr S⟩, trivial⟩⟩
end
theorem goO_pair {β γ : Type} [TB : PyTy β] [TC : PyTy γ] {K : PySem.W.Frag} {p : Addr} {i j : Nat} : GoO (β := β × γ) K (Itl K p) (gPair K i j) p [i, j] (fun _ b => b) (fun b => [⟨b.1⟩, ⟨b.2⟩]) where
  stop m H vs h hm := ⟨vs, .inl (.inl h), hm⟩
  go m H vs h hm := ⟨vs, vs[m], .inl (.inl h), List.getElem?_eq_getElem hm⟩
  yld m H vs v x H' σ Q S b h hv hy hs hr q := by
    obtain ⟨e, hx⟩ := hy
    subst e
    have e2 := hx vs (.inl (.inl h))
    rw [hv] at e2
    cases e2
    obtain ⟨t, x, y, F1, F2, e1, n, r1, r2⟩ := hr
    obtain ⟨e3, e4⟩ := List.append_eq_nil_iff.mp n.2.symm
    subst e1 e3 e4
    exact ⟨t, [x, y], rfl, .inl (.inl (hs _ _ n.1)), rfl, x, [y], rfl, y, [], rfl, rfl, q [x, y] (Sub.refl _) ⟨⟨x, rfl, PyTy.froz r1 S⟩, ⟨y, rfl, PyTy.froz r2 S⟩, trivial⟩⟩
def numF {β γ : Type} (ofI : Nat → β → γ) : Nat → List β → List γ
  | _, [] => []
  | m, b :: l => ofI m b :: numF ofI (m + 1) l
def fForO {ρ R β γ : Type} (ret : Bool) (get : ρ → List β) (setl : List β → ρ → ρ) (ofI : Nat → β → γ) (set : γ → ρ → ρ) (f : ρ → M (Fl ρ R)) : ρ → M (Fl ρ R) := fun r => loop set f (numF ofI 0 (get r)) r >>= fun
  | .nx r' => .ok (.nx (setl (get r) r'))
  | .rt a r' => if ret = true then .ok (.rt a r') else .error .stuck
  | o => .ok o
section
variable {X : Cx} {C : Ct} {ρ R : Type} [TR : PyTy R] {sl : ρ → List Slot} {lm lm' rm rmB bm : List Mode} {rk : Nat} {tg iter : Expr} {body : List Stmt} {pos : Pos} {β γ : Type} [TB : PyTy β]
theorem s_forO {g : TG} {wi : TI} {is : List Nat} {ix n : Nat} {io : Option Nat} {get : ρ → List β} {setl : List β → ρ → ρ} {ofI : Nat → β → γ} {parts : γ → List Slot} {set : γ → ρ → ρ} {f : ρ → M (Fl ρ R)} (hp : PassesOwn (model X.prog X.w) X.A X.env X.xe) (hc : X.calm = true)
    (hi : PI X tg iter wi) (hw : ∀ σ H p (vs : List V) RR, σ[ix]? = some (some (.ref p)) → H p = some (.lst vs) → (∀ J, GoO C.K J g p is ofI parts → RR J H) → wi σ H RR) (hg : PG X tg g)
    (hb : ∀ A, PSs X body (tS ⟨C.K, C.H0, C.S0, C.P, A, C.W⟩ sl (setModes bm is (lv 0)) bm bm rmB rk f))
    (hix : lm[ix]? = some (.own 1 io)) (hbm : bm = lm.set ix (.id (n + 1)) := by rfl) (ht : tagFree n (lm.set ix .un) = true := by rfl) {ret : Bool} (hrm : ret = false ∨ rmB = rm ∧ tagFree n rm = true) (hni : ix ∉ is) (hpl : ∀ b, is.length = (parts b).length) (hin : ∀ i ∈ is, i < lm.length)
    (hgl : ∀ r, (sl r)[ix]? = some ⟨get r⟩) (hset : ∀ b r, sl (set b r) = setSlots (sl r) is (parts b)) (hsl : ∀ l r, sl (setl l r) = (sl r).set ix ⟨l⟩) (hs : ∀ x, foldedSetIterable iter X.env x = pure x := by intro _; rfl) :
    PS X (.For tg iter body [] pos) (tS C sl lm lm lm' rm rk (fForO ret get setl ofI set f)) :=
  PS.conv (ps_for hp hc hi hg (pss_all hb) hs) fun D σ H ⟨r, T, hd, he⟩ => by
    subst hbm
    obtain ⟨v0, ev0, hd0⟩ := hd.open hix (hgl r)
    obtain ⟨p, vs, e0, hp0, hz, io0, hdW⟩ : ∃ p vs, v0 = some (.ref p) ∧ H p = some (.lst vs) ∧ vs.length ≤ line ∧ ioAt C.A io (.ref p) ∧ Hd C (CellA C.K p vs (get r) :: (T ++ Env C.K C.A (lm.set ix .un) (sl r) σ)) H := by
      obtain ⟨S, F, ⟨F1, F2, e, ⟨x, ex, hio, p, vs, F', ep, hn, hz, hr⟩, st⟩, o⟩ := hd0
      subst ex ep
      have eF : F1 = p :: F' := hn.2
      have eF' : F' = [] := hr.none fun v a F q => TB.zero q
      subst eF'
      subst eF
      exact ⟨p, vs, rfl, hn.1, hz, hio, S, F, ⟨_, F2, e, ⟨rfl, hn.1, hr⟩, st⟩, o⟩
    subst e0
    refine hw σ H p vs _ ev0 hp0 fun J G => ?_
    let l := get r
    have el : get r = l := rfl
    rw [el] at hdW
    let A' := A2 C.A n (.ref p) (.ref p)
    let C' : Ct := ⟨C.K, C.H0, C.S0, C.P, A', C.W⟩
    have hix2 : ix < lm.length := (List.getElem?_eq_some_iff.mp hix).1
    have eA : A' (n + 1) = some (.ref p) := by show A2 C.A n (.ref p) (.ref p) (n + 1) = _; unfold A2; rw [if_neg (by omega), if_pos rfl]
    let fin : M (Fl ρ R) → Prop := fun m => ends m (fun
      | .nx r' => ∀ σ' H', Hd C (T ++ Env C.K C.A lm (sl r') σ') H' → D.nx σ' H'
      | .rt a r' => ∀ v σ' H', Hd C (itm C.K rk a v :: Env C.K C.A rm (sl r') σ') H' → D.rt v H'
      | .bk r' => ∀ σ' H', Hd C (T ++ Env C.K C.A lm' (sl r') σ') H' → D.bk σ' H'
      | .ct r' => ∀ σ' H', Hd C (T ++ Env C.K C.A lm' (sl r') σ') H' → D.ct σ' H') (fun c => ∀ H', Fr C H' → C.W H' c)
    let cont : M (Fl ρ R) → M (Fl ρ R) := fun m => m >>= fun
      | .nx r' => .ok (.nx (setl l r'))
      | .rt a r' => if ret = true then .ok (.rt a r') else .error .stuck
      | o => .ok o
    let W : Nat → Nat → L2.St → Hp → Prop := fun j m σ' H2 => m = vs.length - j ∧ j ≤ vs.length ∧ ∃ r', Hd C' ((CellA C.K p vs l :: T) ++ Env C.K A' (lm.set ix (.id (n + 1))) (sl r') σ') H2 ∧ fin (cont (loop set f (numF ofI j (l.drop j)) r'))
    have hlen : vs.length = l.length := hdW.at fun S F ⟨_, _, rr⟩ => rr.len
    -- the list aside
    have into : ∀ {σ' : L2.St} {H' : Hp} {r' : ρ}, σ'[ix]? = some (some (.ref p)) → Hd C (CellA C.K p vs l :: (T ++ Env C.K C.A (lm.set ix .un) (sl r') σ')) H' → Hd C' ((CellA C.K p vs l :: T) ++ Env C.K A' (lm.set ix (.id (n + 1))) (sl r') σ') H' := by
      intro σ' H' r' es h
      have h0 := h.withA A'
      rw [show Env C.K C.A (lm.set ix .un) (sl r') σ' = Env C.K A' (lm.set ix .un) (sl r') σ' from (Env_tag ht).symm] at h0
      have hi3 : ix < σ'.length := (List.getElem?_eq_some_iff.mp es).1
      have hls : (sl r').length = σ'.length := (h.drop).lens.2
      have h1 : Hd C' (slotA C.K A' (.id (n + 1)) ((sl r')[ix]'(by rw [hls]; exact hi3)) (some (.ref p)) :: ((CellA C.K p vs l :: T) ++ Env C.K A' (lm.set ix .un) (sl r') σ')) H' := by
        obtain ⟨S, F, st, o⟩ := h0
        exact ⟨S, F, ⟨[], F, rfl, ⟨rfl, .ref p, rfl, eA⟩, st⟩, o⟩
      have h2 := Hd.close (m0 := .un) (C := C') (T := CellA C.K p vs l :: T) (i := ix) h1 hi3
      rw [List.set_getElem_self, List.set_set, show σ'.set ix (some (.ref p)) = σ' from by
        obtain ⟨a, b⟩ := List.getElem?_eq_some_iff.mp es
        rw [← b]
        exact List.set_getElem_self a] at h2
      exact h2
    -- and back
    have back : ∀ {ms : List Mode} {σ' : L2.St} {H' : Hp} {r' : ρ} {T' : List Assn}, ms[ix]? = some (.own 1 io) → tagFree n (ms.set ix .un) = true → Hd C' ((CellA C.K p vs l :: T') ++ Env C.K A' (ms.set ix (.id (n + 1))) (sl r') σ') H' → Hd C (T' ++ Env C.K C.A ms (sl (setl l r')) σ') H' := by
      intro ms σ' H' r' T' hms htm h
      have hl : ix < ms.length := (List.getElem?_eq_some_iff.mp hms).1
      obtain ⟨w, ew, h1⟩ := Hd.open (C := C') h (List.getElem?_set_self hl) (hgl r')
      have hw2 : w = some (.ref p) := h1.at fun S F ⟨_, x, ex, ax⟩ => by
        have ax' : A' (n + 1) = some x := ax
        rw [eA] at ax'
        cases ax'
        exact ex
      subst hw2
      have h2 := h1.drop
      rw [List.set_set, show Env C'.K C'.A (ms.set ix .un) (sl r') σ' = Env C.K C.A (ms.set ix .un) (sl r') σ' from Env_tag htm] at h2
      have h3 : Hd C (slotA C.K C.A (.own 1 io) ⟨l⟩ (some (.ref p)) :: (T' ++ Env C.K C.A (ms.set ix .un) (sl r') σ')) H' := (Hd.fromA h2).imp fun S F ⟨e, hp', rr⟩ => ⟨.ref p, rfl, io0, p, vs, [], rfl, ⟨hp', e⟩, hz, rr⟩
      have h4 := Hd.close (m0 := .un) (i := ix) h3 (List.getElem?_eq_some_iff.mp ew).1
      rw [show σ'.set ix (some (.ref p)) = σ' from by
        obtain ⟨a, b⟩ := List.getElem?_eq_some_iff.mp ew
        rw [← b]
        exact List.set_getElem_self a, List.set_set, show ms.set ix (.own 1 io) = ms from by
        obtain ⟨a, b⟩ := List.getElem?_eq_some_iff.mp hms
        rw [← b]
        exact List.set_getElem_self a, ← hsl] at h4
      exact h4
    refine ⟨W, ⟨vs.length, by simp, Nat.zero_le _, r, into ev0 hdW, he⟩, ?_⟩
    rintro j m σ2 H2 ⟨rfl, hj, r2, hd2, q2⟩
    have hp2 : H2 p = some (.lst vs) := hd2.at fun S F ⟨_, h, _⟩ => h
    by_cases hlt : j < vs.length
    · have hv : vs[j]? = some vs[j] := List.getElem?_eq_getElem hlt
      refine .inr ⟨G.go j H2 vs hp2 hlt, fun σ' H' => ∃ m', m' < vs.length - j ∧ W (j + 1) m' σ' H', fun σ' H' h => h, fun x H3 hy => ?_⟩
      obtain ⟨S, F, st, o⟩ := id hd2
      obtain ⟨F1, F2, eF, ⟨_, _, rr⟩, st2⟩ := id st
      obtain ⟨b, eb, rb⟩ := rr.get hv
      refine G.yld j H2 vs vs[j] x H3 σ2 _ S b hp2 hv hy o.sh rb fun ws s23 pt => ?_
      have hk : Hd C' (keepA S :: ((CellA C.K p vs l :: T) ++ Env C.K A' (lm.set ix (.id (n + 1))) (sl r2) σ2)) H2 := Hd.keep (C := C') st o
      have hk3 := hk.grow s23
      have hls := (hd2.lens)
      have hd3 := Hd.parts (C := C') (S0 := S) (T := CellA C.K p vs l :: T) (is := is) (ps := parts (ofI j b)) (vs := ws) hk3 pt (hpl _) (fun i hi => by
        have := hin i hi
        have h1 := hls.1
        rw [List.length_set] at h1
        omega)
      rw [show setSlots (sl r2) is (parts (ofI j b)) = sl (set (ofI j b) r2) from (hset _ _).symm] at hd3
      have ed : l.drop j = b :: l.drop (j + 1) := by
        obtain ⟨h1, h2⟩ := List.getElem?_eq_some_iff.mp eb
        rw [List.drop_eq_getElem_cons h1, h2]
      rw [ed] at q2
      have q3 : fin ((f (set (ofI j b) r2) >>= fun
        | .nx r' => loop set f (numF ofI (j + 1) (l.drop (j + 1))) r'
        | .ct r' => loop set f (numF ofI (j + 1) (l.drop (j + 1))) r'
        | .bk r' => .ok (.nx r')
        | .rt a r' => .ok (.rt a r')) >>= fun
        | .nx r' => .ok (.nx (setl l r'))
        | .rt a r' => if ret = true then .ok (.rt a r') else .error .stuck
        | o => .ok o) := q2
      rw [bind_assoc] at q3
      refine ⟨A', set (ofI j b) r2, CellA C.K p vs l :: T, Hd.drop hd3, ends_mono (ends_bind q3) (fun fl efl q4 => ?_) fun c q => q⟩
      cases fl with
      | nx r' => exact fun σ' H' h' => ⟨vs.length - (j + 1), by omega, rfl, by omega, r', h', q4⟩
      | ct r' => exact fun σ' H' h' => ⟨vs.length - (j + 1), by omega, rfl, by omega, r', h', q4⟩
      | bk r' => exact fun σ' H' h' => q4 σ' H' (back hix ht h')
      | rt a r' =>
        intro v σ' H' h'
        rcases hrm with e | ⟨e, et⟩
        · subst e
          exact q4.elim
        · subst e
          have q5 : fin (if ret = true then .ok (.rt a r') else .error .stuck) := q4
          cases ret with
          | false => exact q5.elim
          | true =>
            have q6 : ∀ v σ' H', Hd C (itm C.K rk a v :: Env C.K C.A rmB (sl r') σ') H' → D.rt v H' := q5
            refine q6 v σ' H' ?_
            rw [show Env C'.K C'.A rmB (sl r') σ' = Env C.K C.A rmB (sl r') σ' from Env_tag et] at h'
            exact Hd.fromA h'
    · have ej : j = vs.length := by omega
      have e1 : l.drop j = [] := List.drop_eq_nil_iff.mpr (by omega)
      rw [e1] at q2
      have q3 : fin (.ok (.nx (setl l r2))) := q2
      exact .inl ⟨G.stop j H2 vs hp2 (by omega), q3 σ2 H2 (back hix ht hd2)⟩
end

theorem hwO_list {β : Type} [TB : PyTy β] {K : PySem.W.Frag} {i ix : Nat} : ∀ (σ : L2.St) (H : Hp) (p : Addr) (vs : List V) (RR : It → Hp → Prop), σ[ix]? = some (some (.ref p)) → H p = some (.lst vs) → (∀ J, GoO (β := β) K J (gName i) p [i] (fun _ b => b) (fun b => [⟨b⟩]) → RR J H) → iList K (tVar ix) σ H RR :=
  fun σ H p vs RR e h q => ⟨.ref p, e, p, rfl, ⟨vs, .inl (.inl h)⟩, q _ goO_list⟩
theorem hwO_pair {β γ : Type} [TB : PyTy β] [TC : PyTy γ] {K : PySem.W.Frag} {i j ix : Nat} : ∀ (σ : L2.St) (H : Hp) (p : Addr) (vs : List V) (RR : It → Hp → Prop), σ[ix]? = some (some (.ref p)) → H p = some (.lst vs) → (∀ J, GoO (β := β × γ) K J (gPair K i j) p [i, j] (fun _ b => b) (fun b => [⟨b.1⟩, ⟨b.2⟩]) → RR J H) → iList K (tVar ix) σ H RR :=
  fun σ H p vs RR e h q => ⟨.ref p, e, p, rfl, ⟨vs, .inl (.inl h)⟩, q _ goO_pair⟩
theorem hwO_enum {β : Type} [TB : PyTy β] {K : PySem.W.Frag} {i j ix : Nat} : ∀ (σ : L2.St) (H : Hp) (p : Addr) (vs : List V) (RR : It → Hp → Prop), σ[ix]? = some (some (.ref p)) → H p = some (.lst vs) → (∀ J, GoO (β := β) K J (gPair K i j) p [i, j] (fun m b => ((m : Int), b)) (fun b => [⟨b.1⟩, ⟨b.2⟩]) → RR J H) → iEnum K (tCons (tVar ix) tNil) σ H RR :=
  fun σ H p vs RR e h q => ⟨.ref p, e, p, vs, rfl, .inl (.inl h), q _ goO_enum⟩

/-! ### d[k] of a dict of our own: what it holds is shared -/
section
variable {X : Cx} {C : Ct} {ρ : Type} {sl : ρ → List Slot} {ms ms1 ms2 : List Mode} {o ik : Expr} {pos : Pos} {α : Type} [TA : PyTy α]
def eDget {ρ α : Type} (get : ρ → Dc α) (fk : ρ → M Int) : ρ → M (α × ρ) := fun r => fk r >>= fun k => up (getDo (get r) k) >>= fun a => .ok (a, r)
theorem ve_dgetO {i k : Nat} {io : Option Nat} {get : ρ → Dc α} {fk : ρ → M Int} (hu : X.A.units + 1 < cLine) (ho : PE X o (tVar i)) (hi : PE X ik (tP C.K C.W sl (ms.map downM) fk (lv 0)))
    (hm : ms[i]? = some (.own (k + 1) io)) (hg : ∀ r, (sl r)[i]? = some ⟨get r⟩) (hs : NoSl ik := by exact fun _ _ => rfl) : PE X (.Subscript o ik pos) (tE C sl ms ms (eDget get fk) 0) :=
  PE.conv (pe_dget hu ho hi hs) fun σ H Q ⟨r, T, hd, he⟩ => by
    obtain ⟨w, ew, hdo⟩ := hd.open hm (hg r)
    obtain ⟨p0, ep⟩ : ∃ p0, w = some (.ref p0) := hdo.at fun S F ⟨x0, ex0, io0, p0, kvs, ep, n, _⟩ => ⟨p0, by rw [ex0, ep]⟩
    subst ep
    refine ⟨.ref p0, ew, look_hd hd (ends_mono (ends_bind he) (fun key _ q y H2 s2 hd2 => ?_) fun c q => q)⟩
    obtain ⟨a, ea, q⟩ := up_ends (ends_bind q)
    have ey := itm_int hd2
    subst ey
    have hd3 : Hd C (T ++ Env C.K C.A ms (sl r) σ) H2 := hd2.drop
    obtain ⟨w', ew', hd4⟩ := hd3.open hm (hg r)
    rw [ew] at ew'
    cases ew'
    obtain ⟨S, F, ⟨F1, F2, eF, hA, st⟩, ok⟩ := id hd4
    obtain ⟨x0, ex0, io0, p1, kvs, ep, n, z, rr⟩ := id hA
    cases ex0
    cases ep
    have ea' : getDl (get r).l key = some a := ea
    rcases rr.get (k := key) with ⟨h1, h2⟩ | ⟨v1, a1, h1, h2, h3⟩
    · rw [h2] at ea'; cases ea'
    · rw [h2] at ea'
      cases ea'
      refine ⟨p0, v1, rfl, ?_, q v1 H2 ?_⟩
      · have hn : H2 p0 = some (.dK kvs) := n.1
        have := DGet.k (k := Sum.inl key) hn
        rw [h1] at this
        exact this
      · have hd5 : Hd C (slotA C.K C.A (.own (k + 1) io) ⟨get r⟩ (some (.ref p0)) :: ((itm C.K 0 a v1 :: T) ++ Env C.K C.A (ms.set i .un) (sl r) σ)) H2 :=
          ⟨S, F, ⟨F1, F2, eF, hA, ⟨[], F2, rfl, PyTy.froz h3 H2, st⟩⟩, ok⟩
        have hl : i < σ.length := (List.getElem?_eq_some_iff.mp ew).1
        have hd7 := Hd.close (m0 := .un) (i := i) hd5 hl
        have e1 : σ.set i (some (.ref p0)) = σ := by
          obtain ⟨h1, h2⟩ := List.getElem?_eq_some_iff.mp ew
          rw [← h2]
          exact List.set_getElem_self h1
        have e2 : (sl r).set i ⟨get r⟩ = sl r := by
          obtain ⟨h1, h2⟩ := List.getElem?_eq_some_iff.mp (hg r)
          rw [← h2]
          exact List.set_getElem_self h1
        have e3 : (ms.set i .un).set i (.own (k + 1) io) = ms := by
          obtain ⟨h1, h2⟩ := List.getElem?_eq_some_iff.mp hm
          rw [List.set_set, ← h2]
          exact List.set_getElem_self h1
        rw [e1, e2, e3] at hd7
        exact hd7
end

/-! ### x[i] of a list of our own whose things are shared -/
section
variable {X : Cx} {C : Ct} {ρ : Type} {sl : ρ → List Slot} {ms ms1 ms2 : List Mode} {o ik : Expr} {pos : Pos} {α : Type} [TA : PyTy α]
def eIxO {ρ α : Type} (get : ρ → List α) (g : ρ → M (Int × ρ)) : ρ → M (α × ρ) := fun r => g r >>= fun ir => up (ixL (get ir.2) ir.1) >>= fun a => .ok (a, ir.2)
theorem ve_ixO {i kb : Nat} {io : Option Nat} {get : ρ → List α} {g : ρ → M (Int × ρ)} (ho : PE X o (tVar i)) (hi : PE X ik (tE C sl ms ms1 g kb))
    (hm : ms[i]? = some (.own 1 io)) (hm1 : ms1[i]? = some (.own 1 io)) (hg : ∀ r, (sl r)[i]? = some ⟨get r⟩) (hs : PlainIx ik := by exact fun _ _ => rfl) : PE X (.Subscript o ik pos) (tE C sl ms ms1 (eIxO get g) 0) :=
  PE.conv (pe_ix ix_list ho hi hs) fun σ H Q ⟨r, T, hd, he⟩ => by
    obtain ⟨w, ew, hdo⟩ := hd.open hm (hg r)
    obtain ⟨p0, ep⟩ : ∃ p0, w = some (.ref p0) := hdo.at fun S F ⟨x0, ex0, io0, p0, kvs, F', ep, n, _⟩ => ⟨p0, by rw [ex0, ep]⟩
    subst ep
    refine ⟨.ref p0, ew, r, T, hd, ends_mono (ends_bind he) (fun kr _ q y H2 hd2 => ?_) fun c q => q⟩
    obtain ⟨a, ea, q⟩ := up_ends (ends_bind q)
    obtain ⟨key, r2⟩ := kr
    have ey := itm_int hd2
    subst ey
    have hd3 : Hd C (T ++ Env C.K C.A ms1 (sl r2) σ) H2 := hd2.drop
    obtain ⟨w', ew', hd4⟩ := hd3.open hm1 (hg r2)
    rw [ew] at ew'
    cases ew'
    obtain ⟨S, F, ⟨F1, F2, eF, hA, st⟩, ok⟩ := id hd4
    obtain ⟨x0, ex0, io0, p1, vs, F', ep, n, z, rr⟩ := id hA
    cases ex0
    cases ep
    have eF' : F' = [] := rr.none fun v a F q => TA.zero q
    subst eF'
    obtain ⟨v1, at1, r1⟩ := ixL_at rr ea
    refine ⟨p0, vs, key, v1, rfl, rfl, .inl (.inl n.1), at1, q v1 H2 ?_⟩
    have hd5 : Hd C (slotA C.K C.A (.own 1 io) ⟨get r2⟩ (some (.ref p0)) :: ((itm C.K 0 a v1 :: T) ++ Env C.K C.A (ms1.set i .un) (sl r2) σ)) H2 :=
      ⟨S, F, ⟨F1, F2, eF, hA, ⟨[], F2, rfl, PyTy.froz r1 H2, st⟩⟩, ok⟩
    have hl : i < σ.length := (List.getElem?_eq_some_iff.mp ew).1
    have hd7 := Hd.close (m0 := .un) (i := i) hd5 hl
    have e1 : σ.set i (some (.ref p0)) = σ := by
      obtain ⟨h1, h2⟩ := List.getElem?_eq_some_iff.mp ew
      rw [← h2]
      exact List.set_getElem_self h1
    have e2 : (sl r2).set i ⟨get r2⟩ = sl r2 := by
      obtain ⟨h1, h2⟩ := List.getElem?_eq_some_iff.mp (hg r2)
      rw [← h2]
      exact List.set_getElem_self h1
    have e3 : (ms1.set i .un).set i (.own 1 io) = ms1 := by
      obtain ⟨h1, h2⟩ := List.getElem?_eq_some_iff.mp hm1
      rw [List.set_set, ← h2]
      exact List.set_getElem_self h1
    rw [e1, e2, e3] at hd7
    exact hd7
end
end VL
namespace VL
universe u
open PySem PySem.Spec PyProof.Rows L2

/-! ### walking a tuple -/
def eTl {ρ α : Type} (f : ρ → M (Tp α)) : ρ → M (List α) := fun r => f r >>= fun t => .ok t.l
section
variable {X : Cx} {W : Hp → String → Prop} {ρ : Type} {sl : ρ → List Slot} {ms : List Mode} {e tg : Expr} {α : Type} [TA : PyTy α]
theorem pw_tp {i : Nat} {f : ρ → M (Tp α)} (h : PE X e (tP X.K W sl ms f (lv 0))) : PI X tg e (tW X.K W sl ms (eTl f) (lv 0) (gName i) [i] (fun b => [⟨b⟩])) :=
  PI.conv (pi_tup h) fun σ H R ⟨r, S, hs, hv, he⟩ => ⟨r, S, hs, hv, ends_mono (ends_bind he) (fun t et q v S1 H1 F x g => by
    have eF : F = [] := PyTy.zero g
    subst eF
    obtain ⟨p, xs, F', e1, n, z, rr⟩ := TL_zero g
    have e3 : F' = [] := n.2.symm
    subst e3
    refine ⟨p, e1, ⟨xs, .inl (.inl (x.sh _ _ n.1))⟩, q _ S1 H1 x (by rw [← rr.len]; exact z) ⟨fun j H2 hj s => ?_, fun j H2 hj s => ?_, fun m b H2 y H3 σ Q eb s hy q => ?_⟩⟩
    · exact ⟨xs, .inl (.inl (s _ _ n.1)), by rw [rr.len]; exact hj⟩
    · exact ⟨xs, xs[j]'(by rw [rr.len]; exact hj), .inl (.inl (s _ _ n.1)), List.getElem?_eq_getElem _⟩
    · obtain ⟨e, hx⟩ := hy
      subst e
      have e2 := hx xs (.inl (.inl (s _ _ n.1)))
      obtain ⟨a, ea, ra⟩ := rr.get e2
      rw [eb] at ea
      cases ea
      exact q [y] (Sub.refl _) ⟨⟨y, rfl, PyTy.froz ra S1⟩, trivial⟩) fun c q => q⟩
end

/-! ### x.clear(), and x.append(None) behind which x is used no more -/
section
variable {X : Cx} {C : Ct} {ρ R : Type} [TR : PyTy R] {sl : ρ → List Slot} {ms ms1 ms2 lm rm : List Mode} {rk : Nat} {α β : Type} [TA : PyTy α] [TB : PyTy β] {pos : Pos} {e : Expr}
theorem s_clear {k : Nat} {te : TE} {pl : ρ → M (List α × (List α → ρ))} (rc : Rcv C sl ms k te pl) (h : PE X e (tBM0 C.K "list" rClear te)) (hs : swapsWith e none pos.line X.env = pure false := by rfl) : PS X (.Expr e pos) (tS C (R := R) sl ms ms lm rm rk (fMut0 pl (fun _ => []))) :=
  PS.conv (ps_expr h hs) fun D σ H ⟨r, T, hd, he⟩ => by
    refine rc σ H r T _ hd (ends_mono (ends_bind he) (fun lw _ q p H1 s1 hd1 hx rd => ⟨Or.inl ⟨rfl, _, Or.inl (Or.inl hx.choose_spec)⟩, ?_⟩) fun c q => q)
    obtain ⟨A, A', L, hd4, fc, back⟩ := rd H1 T anyA (Sub.refl _) hd1.any
    obtain ⟨S, xs, F1, F2, sh, hx0, hz, hr, hb⟩ := fc.here hd4
    refine ⟨p, xs, rfl, rfl, hx0, q σ _ (back _ _ (hd4.chg fc hx0 (fun S F1 F2 _ r1 r2 nd => ?_) (by show 0 ≤ line; exact Nat.zero_le _)))⟩
    exact ⟨[], List.nodup_nil, (fun q hq => nomatch hq), rfl⟩
@[irreducible] def appN {α : Type} (l : List α) : Option Unit := if l.length < 2 ^ 24 then some () else none
def fAppN {ρ R α β : Type} (get : ρ → List α) (f : ρ → M (β × ρ)) : ρ → M (Fl ρ R) := fun r => f r >>= fun br => up (appN (get br.2)) >>= fun _ => .ok (.nx br.2)
theorem s_appN {i k kb : Nat} {io : Option Nat} {get : ρ → List α} {f : ρ → M (β × ρ)} (h : PE X e (tBM C.K "list" rAppend (tVar i) (tCons (tE C sl ms ms1 f kb) tNil)))
    (hm : ms[i]? = some (.own (k + 1) io)) (hm1 : ms1[i]? = some (.own (k + 1) io)) (hg : ∀ r, (sl r)[i]? = some ⟨get r⟩) (he2 : ms2 = ms1.set i .un := by rfl) (hs : swapsWith e none pos.line X.env = pure false := by rfl) : PS X (.Expr e pos) (tS C (R := R) sl ms ms2 lm rm rk (fAppN get f)) :=
  PS.conv (ps_expr h hs) fun D σ H ⟨r, T, hd, he⟩ => by
    subst he2
    obtain ⟨v, ev, S0, F0, ⟨Fa, Fb, _, ⟨x0, ex0, io0, p0, xs0, F', ep, n0, _, _⟩, _⟩, _⟩ := hd.open hm (hg r)
    subst ex0
    subst ep
    refine ⟨.ref p0, ev, Or.inl ⟨rfl, _, Or.inl (Or.inl n0.1)⟩, r, T, hd, ends_mono (ends_bind he) (fun br ebr q y H1 hd1 => ?_) fun c q => q⟩
    obtain ⟨_, el, q⟩ := up_ends (ends_bind q)
    have hlt : (get br.2).length < 2 ^ 24 := by
      unfold appN at el
      split at el
      · assumption
      · cases el
    have hd2 : Hd C (T ++ Env C.K C.A ms1 (sl br.2) σ) H1 := Hd.drop (a := itm C.K kb br.1 y) hd1
    obtain ⟨v', ev', hd3⟩ := hd2.open hm1 (hg br.2)
    rw [ev] at ev'
    cases ev'
    obtain ⟨xs1, hx1, hl1⟩ : ∃ xs1, H1 p0 = some (.lst xs1) ∧ xs1.length = (get br.2).length := hd3.at fun S F ⟨x1, ex1, io1, p1, xs1, G', ep1, n1, z1, r1⟩ => by
      cases ex1
      cases ep1
      exact ⟨xs1, n1.1, r1.len⟩
    refine ⟨p0, xs1, y, rfl, rfl, hx1, by rw [hl1]; exact hlt, ?_⟩
    have hd5 : Hd C (anyA :: (T ++ Env C.K C.A (ms1.set i .un) (sl br.2) σ)) (L2.upd H1 p0 (.lst (xs1 ++ [y]))) := hd3.upd fun S F ⟨x2, ex2, io2, p2, xs2, G', ep2, n2, z2, r2⟩ nd dj sh => by
      cases ex2
      cases ep2
      have eG : F = p0 :: G' := n2.2
      subst eG
      exact ⟨List.mem_cons_self, [], List.nodup_nil, (fun q hq => nomatch hq), rfl⟩
    exact q σ _ hd5.drop
end

/-! ### [x] of what is looked at -/
section
variable {X : Cx} {K : PySem.W.Frag} {W : Hp → String → Prop} {ρ : Type} {sl : ρ → List Slot} {ms : List Mode} {e : Expr} {pos : Pos} {α : Type} [TA : PyTy α]
theorem pv_lst1W {f : ρ → M α} (h : PE X e (tP K W sl ms f .vw)) (hs : starEach [e] X.env = (false, eval e X.env) :: starEach [] X.env := by rfl) : PE X (.List [e] pos) (tP K W sl ms (eLst (eCons f eNil)) .vw) :=
  PE.conv (pe_lst (pa_cons h pa_nil hs)) fun σ H Q ⟨r, S, hs, hv, he⟩ => ⟨r, S, hs, hv, by
    unfold eLst eCons at he
    refine ends_mono (ends_bind (ends_bind he)) (fun a ea q v S1 H1 F x g => ?_) fun c q => q
    have q2 : ends (if [a].length ≤ line then Except.ok [a] else Except.error Er.stuck) (fun l => ∀ v S' H' F, Ext S H S' H' F → got K .vw l S' H' v F → Q v H') (fun c => ∀ H', Sub H H' → W H' c) := q
    rw [if_pos (show [a].length ≤ line by show 1 ≤ 2 ^ 24; decide)] at q2
    refine ⟨by show 1 ≤ sizeLine; decide, fun p hp => ?_⟩
    have eF : F = [] := g.1
    subst eF
    refine q2 (.ref p) S1 (upd H1 p (.lst [v])) [] ⟨x.hh.trans (Sub.new hp), x.ss, x.sh.trans (Sub.new hp), x.nw, (fun q hq => nomatch hq), List.nodup_nil⟩ ⟨rfl, p, [v], [], rfl, ⟨upd_same, rfl⟩, by show 1 ≤ 2 ^ 24; decide, [], [], rfl, ?_, rfl⟩
    exact TA.mono g.2 (Sub.new hp) fun p hp => nomatch hp⟩
end
end VL
namespace VL
universe u
open PySem PySem.Spec PyProof.Rows L2

/-! ### defs as values: the address of one of some that are known -/
structure FnV where
  a : Addr
instance instFnV : PyTy FnV := scalTy fun f => V.ref f.a
instance : Scal FnV := ⟨fun f => V.ref f.a, Iff.rfl⟩
instance : ValInj FnV := ⟨fun x y h => by
  cases x
  cases y
  exact congrArg FnV.mk (V.ref.inj h)⟩
def findF {B : Type} (tbl : List (Addr × B)) (f : Addr) : Option B := (tbl.find? fun x => decide (x.1 = f)).map (·.2)
def eCallF {ρ A R : Type} (tbl : List (Addr × (A → M R))) (get : ρ → FnV) (g : ρ → M A) : ρ → M R := fun r => up (findF tbl (get r).a) >>= fun m => g r >>= fun a => mute (m a)
section
variable {X : Cx} {W : Hp → String → Prop} {ρ : Type} {sl : ρ → List Slot} {ms : List Mode} {e : Expr} {es : List Expr} {pos p : Pos} {A R : Type} [AA : ArgTy A] [TR : PyTy R]
theorem pv_fnv {K : PySem.W.Frag} {x : Str} {f : Addr} (hg : Gl X x) (hm : X.mg x = some (.ref f)) (hd : (x == ("__debug__" : Str)) = false := by decide) : PE X (.Name x pos) (tP K W sl ms (e0 (⟨f⟩ : FnV)) (lv 0)) :=
  pv_c (α := FnV) (pe_glob hg hm rfl hd)
abbrev HeldF (P : Program) (w : World) (K : PySem.W.Frag) (mg : Str → Option Value) (base : Heap) (k rk : Nat) (tbl : List (Addr × (A → M R))) : Prop := ∀ f m, findF tbl f = some m → Held P w K mg base k f (spP K rk m)
theorem held_nil {P : Program} {w : World} {K : PySem.W.Frag} {mg : Str → Option Value} {base : Heap} {k rk : Nat} : HeldF P w K mg base k rk ([] : List (Addr × (A → M R))) := fun f m h => by cases h
theorem held_cons {P : Program} {w : World} {K : PySem.W.Frag} {mg : Str → Option Value} {base : Heap} {k rk : Nat} {f0 : Addr} {m0 : A → M R} {tbl : List (Addr × (A → M R))} {fd : FuncData} {ps : List Str} (F : FnOk P w K mg base CX0 k f0 fd ps (spP K rk m0)) (hk : PySem.W.keepIn K (.ref f0) = true) (hb : Binds K fd ps []) (h : HeldF P w K mg base k rk tbl) : HeldF P w K mg base k rk ((f0, m0) :: tbl) := fun f m e => by
  unfold findF at e
  rw [List.find?_cons] at e
  by_cases q : f0 = f
  · subst q
    rw [decide_eq_true rfl] at e
    cases e
    exact ⟨fd, ps, F, hk, hb⟩
  · rw [decide_eq_false q] at e
    exact h f m e
theorem pv_callF {k rk i : Nat} {x : Str} {tbl : List (Addr × (A → M R))} {get : ρ → FnV} {g : ρ → M A} (hT : HeldF X.prog X.w X.K X.mg X.base k rk tbl) (hr : Room k X.A) (hN : X.N[i]? = some x) (hv : Vis X.env.scope x) (hm : ms[i]? = some (lv 0)) (hg : ∀ r, (sl r)[i]? = some ⟨get r⟩)
    (ha : PA X (e :: es) (tPA X.K W sl ms g (lv 0))) (hdb : (x == ("__debug__" : Str)) = false := by decide) (hcd : (x == ("__classdict__" : Str)) = false := by decide) (he : starEach (e :: es) X.env = (false, eval e X.env) :: starEach es X.env := by rfl) (hpl : (backTo pos (starEach es X.env)).any (·.1) = false := by rfl) :
    PE X (.Call (.Name x p) (e :: es) [] pos) (tP X.K W sl ms (eCallF tbl get g) (lv rk)) :=
  PE.conv (pe_callA (S := fun f => (findF tbl f).map fun m => spP X.K rk m) (fun f sp h => by
    obtain ⟨m, e1, e2⟩ := Option.map_eq_some_iff.mp h
    subst e2
    exact hT f m e1) hr hN hv ha hdb hcd he hpl) fun σ H Q ⟨r, S, hs, hv, q⟩ => by
    obtain ⟨v, ev, x, e2, rx⟩ := hv.get hm (hg r)
    subst e2
    have ex : x = .ref (get r).a := rep_scal rx
    subst ex
    unfold eCallF at q
    cases em : findF tbl (get r).a with
    | none =>
      rw [em] at q
      exact q.elim
    | some m =>
      rw [em] at q
      have q2 : ends (g r >>= fun a => mute (m a)) (fun c => ∀ v S' H' F, Ext S H S' H' F → got X.K (lv rk) c S' H' v F → Q v H') (fun c => ∀ H', Sub H H' → W H' c) := q
      exact ⟨(get r).a, spP X.K rk m, ev, by show Option.map _ (findF tbl (get r).a) = _; rw [em]; rfl, r, S, hs, hv, ends_mono (ends_bind q2) (fun a ea q vs S1 H1 x1 pt =>
        ⟨a, S1, x1.sh, pt, ends_mono (ends_muted q) (fun c ec q v S2 H2 F2 x2 g2 => q v S2 H2 F2 (by have := x1.trans x2 (fun p hp => nomatch hp); rw [List.append_nil] at this; exact this) g2) fun c q => q⟩) fun c q => q⟩
end
/-- a promise that holds wherever the known defs stand -/
def spF (K : PySem.W.Frag) {A R : Type} [T : ArgTy A] [PyTy R] (rk : Nat) (m : (Nat → Addr) → A → M R) : Sp := fun vs H Q E => ∀ fs : Nat → Addr, spP K rk (m fs) vs H Q E
theorem law_okF {K : PySem.W.Frag} {H : Hp} {a : Addr} {ns : List Int} {m : (Nat → Addr) → Scr × Unit → M Bool} (hS : SqL K H a (ns.map V.int)) (h : ∀ fs, m fs (⟨ns⟩, ()) = .ok true) : spF K 0 m [.ref a] H (fun v _ => v = .bl true) fun _ _ _ => False := fun fs => law_ok hS (h fs)

/-! ### [e], e may change what is held -/
section
variable {X : Cx} {C : Ct} {ρ : Type} {sl : ρ → List Slot} {ms ms1 : List Mode} {e : Expr} {pos : Pos} {α : Type} [TA : PyTy α]
theorem ve_lst1 [SA : Scal α] {f : ρ → M (α × ρ)} {ka : Nat} (h : PE X e (tE C sl ms ms1 f ka)) (hs : starEach [e] X.env = (false, eval e X.env) :: starEach [] X.env := by rfl) : PE X (.List [e] pos) (tE C sl ms ms1 (E1 (fun a => some [a]) f) 1) :=
  PE.conv (pe_lst (pa_cons h pa_nil hs)) fun σ H Q ⟨r, T, hd, he⟩ => ⟨r, T, hd, ends_mono (ends_bind he) (fun ar _ q v H1 hd1 => ⟨by show 1 ≤ sizeLine; decide, fun p hp => by
    obtain ⟨z, ez, q⟩ := up_ends (ends_bind q)
    cases ez
    have ev : v = SA.val ar.1 := rep_scal hd1.look1
    subst ev
    exact q (.ref p) _ (hd1.drop.new (New.list (l := [ar.1]) hp (by show 1 ≤ 2 ^ 24; decide)))⟩) fun c q => q⟩
end

/-! ### e[lo:hi], e may change what is held -/
def eCut2 {ρ α : Type} (f : ρ → M (List α × ρ)) (g h : ρ → M (Option Int)) : ρ → M (List α × ρ) := fun r => f r >>= fun lr => g lr.2 >>= fun a => h lr.2 >>= fun b => .ok (cutA lr.1 a b, lr.2)
section
variable {X : Cx} {C : Ct} {ρ : Type} {sl : ρ → List Slot} {ms ms1 : List Mode} {e : Expr} {pos p2 : Pos} {α : Type} [TA : PyTy α]
theorem look_po {g : ρ → M (Option Int)} {T : List Assn} {σ : L2.St} {H : Hp} {r : ρ} {Q : Option Int → Hp → Prop} (hd : Hd C (T ++ Env C.K C.A ms (sl r) σ) H) (q : ends (g r) (fun o => ∀ H', Sub H H' → Hd C (T ++ Env C.K C.A ms (sl r) σ) H' → Q o H') (fun c => ∀ H', Fr C H' → C.W H' c)) :
    tPO C.K C.W sl (ms.map downM) g σ H Q := by
  obtain ⟨S, F, st, o⟩ := id hd
  obtain ⟨F1, F2, _, _, h2⟩ := st.split
  exact ⟨r, S, o.sh, h2.view o.sh, ends_mono q (fun a _ q S' H' x => q H' x.hh (hd.grow x.hh)) fun c q H' s => q H' (hd.fr s)⟩
theorem ve_cut {lo hi : Option Expr} {f : ρ → M (List α × ρ)} {g h : ρ → M (Option Int)} (he : PE X e (tE C sl ms ms1 f 0)) (hl : PO X lo (tPO C.K C.W sl (ms1.map downM) g)) (hu : PO X hi (tPO C.K C.W sl (ms1.map downM) h)) (hK : C.K = X.K := by rfl) : PE X (.Subscript e (.Slice lo hi none p2) pos) (tE C sl ms ms1 (eCut2 f g h) 1) :=
  PE.conv (pe_slice sl_list he hl hu) fun σ H Q ⟨r, T, hd, he⟩ => ⟨r, T, hd, ends_mono (ends_bind he) (fun lr _ q v H1 hd1 => by
    have hd1' : Hd C ((itm C.K 0 lr.1 v :: T) ++ Env C.K C.A ms1 (sl lr.2) σ) H1 := hd1
    refine look_po hd1' (ends_mono (ends_bind q) (fun a _ q H2 s2 hd2 => look_po hd2 (ends_mono (ends_bind q) (fun b _ q H3 s3 hd3 => ?_) fun c q => q)) fun c q => q)
    obtain ⟨S, F, ⟨F1, F2, eF, h1, h2⟩, o⟩ := hd3
    have e1 : F1 = [] := PyTy.zero h1
    subst e1
    obtain ⟨p, xs, F', ep, n, z, rr⟩ := h1
    have e3 : F' = [] := n.2.symm
    subst e3
    subst eF
    refine ⟨p, xs, ep, by rw [← hK]; exact .inl (.inl (o.sh _ _ n.1)), fun p' hp => ?_⟩
    obtain ⟨y, g2⟩ := new_list (K := C.K) (l := cutA lr.1 a b) o.sh hp (Nat.le_trans (cutV_length xs a b) z) fun H => cut_reps (rr.imp fun v a F' hf q => TA.mono q (Sub.refl S) fun p hp => by rw [List.eq_nil_of_subset_nil (fun y hy => hf y hy)] at hp; cases hp)
    exact q _ _ (Hd.ext h2 o y g2)) fun c q => q⟩
end
end VL
namespace VL
universe u
open PySem PySem.Spec PyProof.Rows L2

/-! ### texts -/
@[irreducible] def addS (a b : Str) : Option Str := if a.length + b.length ≤ 2 ^ 24 then some (a ++ b) else none
@[irreducible] def ixStr (z : Str) (i : Int) : Option Str := if z.length ≤ 2 ^ 24 then (ixL z.cps.toList i).map fun c => ⟨#[c]⟩ else none
def repTxt (z : Str) (n : Int) : Str := if n < 1 then Str.empty else if (n == 1 || z.length == 0) = true then z else ⟨(List.replicate n.toNat z.cps).foldl (· ++ ·) #[]⟩
@[irreducible] def repStr (z : Str) (n : Int) : Option Str := if -(2 ^ 62) ≤ n ∧ n < 2 ^ 62 ∧ z.length * n.toNat ≤ 2 ^ 24 then some (repTxt z n) else none
@[irreducible] def joinStr (a : Str) (l : List Str) : Option Str := if (l.map (·.length)).sum + l.length * a.length ≤ 2 ^ 24 then some (Txt.join a l) else none
@[irreducible] def stripStr (a : Str) : Option Str := if a.length ≤ 2 ^ 24 then some (Txt.strip a) else none
theorem ite_some {α : Type} {c : Prop} [Decidable c] {a b : α} (h : (if c then some a else none) = some b) : c ∧ b = a := by
  by_cases q : c
  · rw [if_pos q] at h
    cases h
    exact ⟨q, rfl⟩
  · rw [if_neg q] at h
    cases h
theorem atI_ixL {α : Type} {l : List α} {i : Int} {a : α} (h : ixL l i = some a) : atI l i = some a := by
  unfold ixL at h
  unfold atI ixN
  by_cases h0 : 0 ≤ i
  · rw [if_pos h0] at h ⊢
    obtain ⟨h1, _⟩ := List.getElem?_eq_some_iff.mp h
    rw [if_pos (by omega)]
    exact h
  · rw [if_neg h0] at h ⊢
    by_cases h1 : 0 ≤ i + l.length
    · rw [if_pos h1] at h
      rw [if_pos (by omega)]
      exact h
    · rw [if_neg h1] at h
      cases h
section
variable {X : Cx} {K : PySem.W.Frag} {W : Hp → String → Prop} {ρ : Type} {sl : ρ → List Slot} {ms : List Mode} {a b c e : Expr} {pos p tpos : Pos} {ka kb kd : Mode}
variable {α β γ : Type} [TA : PyTy α] [TB : PyTy β] [TC : PyTy γ]
theorem o_addS : Op2 K (fun x y H Q => ∃ i j, x = .str i ∧ y = .str j ∧ i.length + j.length ≤ sizeLine ∧ Q (.str (i ++ j)) H) addS 0 := fun H x y a b c Q ra rb e q => by
  unfold addS at e
  obtain ⟨h, ec⟩ := ite_some e
  subst ec
  exact ⟨a, b, rep_scal ra, rep_scal rb, h, q _ H New.scal⟩
theorem o_ixStr : Op2 K rIxS ixStr 0 := fun H x y a b c Q ra rb e q => by
  unfold ixStr at e
  by_cases h : a.length ≤ 2 ^ 24
  · rw [if_pos h] at e
    obtain ⟨k, ek, ec⟩ := Option.map_eq_some_iff.mp e
    subst ec
    exact ⟨a, b, k, rep_scal ra, rep_scal rb, h, atI_ixL ek, q _ H New.scal⟩
  · rw [if_neg h] at e
    cases e
def rRepS : R2 := fun x y H Q => ∃ z n, x = .str z ∧ y = .int n ∧ -(2 ^ 62) ≤ n ∧ n < 2 ^ 62 ∧ z.length * n.toNat ≤ sizeLine ∧ Q (.str (repTxt z n)) H
theorem op_repS : OpR X (binaryOp .Mult) rRepS := by
  intro pins s σ H x y v u Q I rx ry h
  obtain ⟨z, n, rfl, rfl, h1, h2, h3, q⟩ := h
  obtain ⟨t, rfl⟩ := rx
  obtain ⟨t', rfl⟩ := ry
  have h3' : z.length * n.toNat ≤ 2 ^ 24 := h3
  refine P.mul_str (by rw [decide_eq_false (by omega), decide_eq_false (by omega)]; rfl) (fun g1 g2 g3 => ?_) (fun g1 g2 => ?_) ?_
  · have hn : 1 ≤ n := by omega
    have : (z.length : Int) * n ≤ 2 ^ 24 := by
      have : ((z.length * n.toNat : Nat) : Int) ≤ ((2 ^ 24 : Nat) : Int) := Int.ofNat_le.mpr h3'
      rw [Int.natCast_mul, Int.toNat_of_nonneg (by omega)] at this
      exact this
    have : (z.length : Int) ≤ (2 ^ 63 - 1) / n := (Int.le_ediv_iff_mul_le (by omega)).mpr (by omega)
    omega
  · unfold PySem.Builtin.Str.tooLong
    exact decide_eq_false (by show ¬ _ > 2 ^ 24; omega)
  · unfold repTxt at q
    by_cases c1 : n < 1
    · rw [if_pos c1] at q ⊢
      exact ⟨by decide, .str _, H, I.tok _, ⟨_, rfl⟩, q⟩
    · rw [if_neg c1] at q ⊢
      by_cases c2 : (n == 1 || z.length == 0) = true
      · rw [if_pos c2] at q ⊢
        exact ⟨.str _, H, I, ⟨_, rfl⟩, q⟩
      · rw [if_neg c2] at q ⊢
        refine ⟨?_, .str _, H, I.tok _, ⟨_, rfl⟩, q⟩
        have key : ∀ (k : Nat) (acc : Array Nat), ((List.replicate k z.cps).foldl (· ++ ·) acc).size = acc.size + k * z.cps.size := by
          intro k
          induction k with
          | zero => intro acc; simp
          | succ k ih => intro acc; rw [List.replicate_succ, List.foldl_cons, ih, Array.size_append, Nat.succ_mul]; omega
        show ((List.replicate n.toNat z.cps).foldl (· ++ ·) #[]).size ≤ 2 ^ 24
        rw [key]
        have : z.length = z.cps.size := rfl
        rw [this] at h3'
        rw [Nat.mul_comm]
        simpa using h3'
theorem o_repStr : Op2 K rRepS repStr 0 := fun H x y a b c Q ra rb e q => by
  unfold repStr at e
  obtain ⟨h, ec⟩ := ite_some e
  subst ec
  exact ⟨a, b, rep_scal ra, rep_scal rb, h.1, h.2.1, h.2.2, q _ H New.scal⟩
theorem pv_ixStr {f : ρ → M Str} {g : ρ → M Int} (ha : PE X a (tP K W sl ms f ka)) (hb : PE X b (tP K W sl ms g kb)) (hka : ka ≠ .un := by decide) (hkb : kb ≠ .un := by decide) (hs : PlainIx b := by exact fun _ _ => rfl) : PE X (.Subscript a b pos) (tP K W sl ms (e2 ixStr f g) (lv 0)) :=
  pv_e2 o_ixStr ha hb (pe_ix ix_str ha hb hs) hka hkb
/-- z[lo:hi] of a text -/
def eCutS {ρ : Type} (f : ρ → M Str) (g h : ρ → M (Option Int)) : ρ → M Str := fun r => f r >>= fun z => g r >>= fun a => h r >>= fun b => if z.length ≤ line then .ok (cutS z a b) else .error .stuck
theorem pv_cutT {lo hi : Option Expr} {f : ρ → M Str} {g h : ρ → M (Option Int)} {p2 : Pos} (he : PE X e (tP X.K W sl ms f kd)) (hl : PO X lo (tPO X.K W sl ms g)) (hu : PO X hi (tPO X.K W sl ms h)) (hk : kd ≠ .un := by decide) : PE X (.Subscript e (.Slice lo hi none p2) pos) (tP X.K W sl ms (eCutS f g h) (lv 0)) :=
  PE.conv (pe_slice sl_str he hl hu) fun σ H Q ⟨r, S, hs, hv, he⟩ => ⟨r, S, hs, hv, ends_mono (ends_bind he) (fun l el q v S1 H1 F x g => by
    have x' := x.share g.here
    have hv' := hv.mono x'.ss x'.hh
    refine ⟨r, _, x'.sh, hv', ends_mono (ends_bind q) (fun o eo q S2 H2 x2 => ⟨r, S2, x2.sh, hv'.mono x2.ss x2.hh, ends_mono (ends_bind q) (fun o2 eo2 q S3 H3 x3 => ?_) fun c q H4 h4 => q H4 (x.hh.trans (x2.hh.trans h4))⟩) fun c q H4 h4 => q H4 (x.hh.trans h4)⟩
    have ev := rep_scal (g.look x.sh hk)
    have x13 := (x'.trans x2 (fun p hp => nomatch hp)).trans x3 (fun p hp => nomatch hp)
    by_cases hz : l.length ≤ line
    · rw [if_pos hz] at q
      exact ⟨l, ev, hz, q _ S3 H3 [] x13 (Scal.scal.mpr ⟨rfl, rfl⟩)⟩
    · rw [if_neg hz] at q
      exact q.elim) fun c q => q⟩
/-- a method of a text, of one thing -/
theorem pv_m1 {r : V → List V → Hp → VK → Prop} {t : R2} {op : Str → β → Option γ} {k : Nat} {f : ρ → M Str} {g : ρ → M β} (hp : Op2 K t op k) (ht : ∀ x y H Q, t x y H Q → r x [y] H Q)
    (h : PE X e (tM1 r (tP K W sl ms f ka) (tP K W sl ms g kb))) (hka : ka ≠ .un := by decide) (hkb : kb ≠ .un := by decide) : PE X e (tP K W sl ms (e2 op f g) (lv k)) :=
  PE.conv h fun σ H Q ⟨r, S, hs, hv, he⟩ => ⟨r, S, hs, hv, ends_mono (ends_bind he) (fun x ex q v S1 H1 F1 x1 g1 => ⟨⟨x, rep_scal (g1.look x1.sh hka)⟩, r, S1, x1.sh, hv.mono x1.ss x1.hh, ends_mono (ends_bind q) (fun y ey q u S2 H2 F2 x2 g2 => by
    obtain ⟨z, ez, q⟩ := up_ends q
    have g1' := g1.mono x2.ss x2.hh g1.here
    have xx := x1.trans x2 g1.here
    refine ht _ _ _ _ (hp H2 v u _ _ z Q (g1'.look xx.sh hka) (g2.look xx.sh hkb) ez fun w' H3 hn => ?_)
    have x0 := (xx.share (F := F2 ++ F1) fun p hp => (List.mem_append.mp hp).elim (g2.here p) (g1'.here p))
    obtain ⟨F, x3, g3⟩ := hn.got x0.sh
    refine q w' _ H3 F ?_ g3
    have := x0.trans x3 (fun p hp => nomatch hp)
    rw [List.append_nil] at this
    exact this) fun c q H' h => q H' (x1.hh.trans h)⟩) fun c q => q⟩
def rJoin (K : PySem.W.Frag) : R2 := fun x y H Q => ∃ a p, ∃ ys : List Str, x = .str a ∧ y = .ref p ∧ (SqL K H p (ys.map V.str) ∨ SqT K H p (ys.map V.str)) ∧ (ys.map (·.length)).sum + ys.length * a.length ≤ 16777216 ∧ Q (.str (Txt.join a ys)) H
theorem o_join : Op2 K (rJoin K) joinStr 0 := fun H x y a b c Q ra rb e q => by
  unfold joinStr at e
  obtain ⟨h, ec⟩ := ite_some e
  subst ec
  obtain ⟨p, e1, n, z⟩ := rep_list rb
  exact ⟨a, p, b, rep_scal ra, e1, .inl (.inl (.inl n)), h, q _ H New.scal⟩
theorem pv_join {f : ρ → M Str} {g : ρ → M (List Str)} {apos : Pos} (ha : PE X a (tP X.K W sl ms f ka)) (hb : PE X b (tP X.K W sl ms g kb)) (hka : ka ≠ .un := by decide) (hkb : kb ≠ .un := by decide)
    (hs : starEach [b] X.env = [(false, eval b X.env)] := by rfl) (hbase : attributeBase a "join" X.env (eval a X.env) = eval a X.env := by rfl) (hline : (apos.endLine == pos.line) = true := by rfl) :
    PE X (.Call (.Attribute a "join" apos) [b] [] pos) (tP X.K W sl ms (e2 joinStr f g) (lv 0)) :=
  pv_m1 o_join (fun x y H Q ⟨a, p, ys, h1, h2, h3⟩ => ⟨a, p, ys, h1, by rw [h2], h3⟩) (pe_join ha hb hs hbase hline) hka hkb
def rStrip : V → Hp → VK → Prop := fun x H Q => (∃ a, x = .str a) ∧ ∃ a, x = .str a ∧ ([] : List V) = [] ∧ a.length ≤ sizeLine ∧ Q (.str (Txt.strip a)) H
theorem o_strip : Op1 K rStrip stripStr 0 := fun H x a c Q ra e q => by
  unfold stripStr at e
  obtain ⟨h, ec⟩ := ite_some e
  subst ec
  exact ⟨⟨a, rep_scal ra⟩, a, rep_scal ra, rfl, h, q _ H New.scal⟩
theorem pv_strip {f : ρ → M Str} {apos : Pos} (ha : PE X a (tP K W sl ms f ka)) (hka : ka ≠ .un := by decide) (hbase : attributeBase a "strip" X.env (eval a X.env) = eval a X.env := by rfl) (hline : (apos.endLine == pos.line) = true := by rfl) :
    PE X (.Call (.Attribute a "strip" apos) [] [] pos) (tP K W sl ms (e1 stripStr f) (lv 0)) :=
  pv_e1 o_strip (pe_strip ha hbase hline) hka
end
section
variable {X : Cx} {C : Ct} {ρ : Type} {sl : ρ → List Slot} {ms ms1 ms2 : List Mode} {a b e : Expr} {pos p2 : Pos}
end

/-! ### data with texts among it: == where the texts can be laid -/
class DatC (α : Type) [PT : PyTy α] where
  toD : α → PyData
  n : Nat
  dp : ∀ {K H v a}, PT.rep K 0 H H v a [] → Dp K H v (toD a)
  dep : ∀ a, (toD a).depth ≤ n
/-- .. whose == is their being the same -/
class DatS (α : Type) [PT : PyTy α] extends DatC α where
  same : ∀ a b, PyData.eqv (toD a) (toD b) = true ↔ a = b
instance dsInt : DatS Int where
  toD := PyData.int
  n := 0
  dp h := by rw [show _ = _ from rep_scal h]; exact Dp.int _
  dep _ := Nat.le_refl _
  same a b := by
    show (a == b) = true ↔ a = b
    exact beq_iff_eq
instance dsBool : DatS Bool where
  toD := PyData.bool
  n := 0
  dp h := by rw [show _ = _ from rep_scal h]; exact Dp.bl _
  dep _ := Nat.le_refl _
  same a b := by
    show (a == b) = true ↔ a = b
    exact beq_iff_eq
instance dsStr : DatS Str where
  toD := PyData.str
  n := 0
  dp h := by rw [show _ = _ from rep_scal h]; exact Dp.str _
  dep _ := Nat.le_refl _
  same a b := by
    show (a == b) = true ↔ a = b
    exact beq_iff_eq
theorem dcAll {α : Type} [PT : PyTy α] [T : DatC α] {K : PySem.W.Frag} {H : Hp} : ∀ {vs : List V} {l : List α}, Reps (fun v a F => PT.rep K 0 H H v a F) vs l [] → DpAll K H vs (l.map T.toD)
  | [], [], _ => .nil
  | [], _ :: _, h => h.elim
  | _ :: _, [], h => h.elim
  | v :: vs, a :: l, ⟨F1, F2, e, h1, h2⟩ => by
    obtain ⟨e1, e2⟩ := List.append_eq_nil_iff.mp e.symm
    subst e1 e2
    exact .cons (T.dp h1) (dcAll h2)
theorem decAll {α : Type} [PT : PyTy α] [T : DatC α] : ∀ l : List α, PyData.depthAll (l.map T.toD) ≤ T.n
  | [] => Nat.zero_le _
  | a :: l => by
    show max (T.toD a).depth (PyData.depthAll (l.map T.toD)) ≤ T.n
    have h1 := T.dep a
    have h2 := decAll l
    omega
theorem scAll {α : Type} [PT : PyTy α] [T : DatS α] : ∀ l m : List α, PyData.eqvAll (l.map T.toD) (m.map T.toD) = true ↔ l = m
  | [], [] => ⟨fun _ => rfl, fun _ => rfl⟩
  | [], _ :: _ => ⟨(fun h => nomatch h), (fun h => nomatch h)⟩
  | _ :: _, [] => ⟨(fun h => nomatch h), (fun h => nomatch h)⟩
  | a :: l, b :: m => by
    show (PyData.eqv (T.toD a) (T.toD b) && PyData.eqvAll (l.map T.toD) (m.map T.toD)) = true ↔ a :: l = b :: m
    rw [Bool.and_eq_true, T.same a b, scAll l m, List.cons.injEq]
instance dcList {α : Type} [PT : PyTy α] [T : DatC α] : DatC (List α) where
  toD l := .list (l.map T.toD)
  n := T.n + 1
  dp := fun ⟨p, xs, F', e, n, z, r⟩ => by
    rw [e]
    have e2 : F' = [] := n.2.symm
    subst e2
    exact Dp.lst (.inl (.inl n.1)) (dcAll r)
  dep l := Nat.succ_le_succ (decAll l)
instance dsList {α : Type} [PT : PyTy α] [T : DatS α] : DatS (List α) := { dcList with same := fun l m => scAll l m }
instance dcProd {α β : Type} [PyTy α] [PyTy β] [TA : DatC α] [TB : DatC β] : DatC (α × β) where
  toD t := .tuple [TA.toD t.1, TB.toD t.2]
  n := max TA.n TB.n + 1
  dp := fun {K H v a} ⟨p, x, y, F1, F2, e, n, r1, r2⟩ => by
    rw [e]
    obtain ⟨e1, e2⟩ := List.append_eq_nil_iff.mp n.2.symm
    subst e1 e2
    exact Dp.tup (.inl (.inl n.1)) (.cons (TA.dp r1) (.cons (TB.dp r2) .nil))
  dep t := by
    show max (TA.toD t.1).depth (max (TB.toD t.2).depth 0) + 1 ≤ _
    have h1 := TA.dep t.1
    have h2 := TB.dep t.2
    omega
theorem dsPair {α β : Type} [PyTy α] [PyTy β] [TA : DatS α] [TB : DatS β] (s t : α × β) : PyData.eqv (dcProd.toD s) (dcProd.toD t) = true ↔ s = t := by
  show (PyData.eqv (TA.toD s.1) (TA.toD t.1) && (PyData.eqv (TB.toD s.2) (TB.toD t.2) && true)) = true ↔ s = t
  rw [Bool.and_true, Bool.and_eq_true, TA.same, TB.same, Prod.ext_iff]
instance dsProd {α β : Type} [PyTy α] [PyTy β] [TA : DatS α] [TB : DatS β] : DatS (α × β) := { dcProd with same := fun s t => dsPair s t }
def layC {α : Type} [PT : PyTy α] [T : DatC α] (x : α) : Bool := (T.toD x).canLay0
def eqC {α : Type} [PT : PyTy α] [T : DatC α] (x y : α) : Option Bool := if (layC x && layC y) = true then some (PyData.eqv (T.toD x) (T.toD y)) else none
def neC {α : Type} [PT : PyTy α] [T : DatC α] (x y : α) : Option Bool := if (layC x && layC y) = true then some (!PyData.eqv (T.toD x) (T.toD y)) else none
theorem shapedC {α : Type} [PT : PyTy α] [T : DatC α] {a : α} (hl : layC a = true) (h : T.n ≤ 64) : SeqAt.shaped (T.toD a) = true := by
  have hl' : (T.toD a).canLay0 = true := hl
  unfold SeqAt.shaped
  rw [hl', Bool.true_and]
  exact decide_eq_true (Nat.le_trans (T.dep a) h)
theorem o_eqC {K : PySem.W.Frag} {α : Type} [PT : PyTy α] [T : DatC α] (h : T.n ≤ 64 := by decide) : Op2 K (rEqD K) (eqC (α := α)) 0 := fun H x y a b c Q ra rb e q => by
  unfold eqC at e
  obtain ⟨hc, ec⟩ := ite_some e
  obtain ⟨h1, h2⟩ := Bool.and_eq_true_iff.mp hc
  subst ec
  exact ⟨T.toD a, T.toD b, T.dp ra, T.dp rb, shapedC h1 h, shapedC h2 h, q _ H (New.scal (α := Bool))⟩
theorem o_neC {K : PySem.W.Frag} {α : Type} [PT : PyTy α] [T : DatC α] (h : T.n ≤ 64 := by decide) : Op2 K (rNeD K) (neC (α := α)) 0 := fun H x y a b c Q ra rb e q => by
  unfold neC at e
  obtain ⟨hc, ec⟩ := ite_some e
  obtain ⟨h1, h2⟩ := Bool.and_eq_true_iff.mp hc
  subst ec
  exact ⟨T.toD a, T.toD b, T.dp ra, T.dp rb, shapedC h1 h, shapedC h2 h, q _ H (New.scal (α := Bool))⟩
theorem eqv_decC {α : Type} [PT : PyTy α] [T : DatS α] [DecidableEq α] (a b : α) : PyData.eqv (T.toD a) (T.toD b) = decide (a = b) := by
  by_cases h : a = b
  · rw [decide_eq_true h]
    exact (T.same a b).mpr h
  · rw [decide_eq_false h]
    cases e : PyData.eqv (T.toD a) (T.toD b) with
    | false => rfl
    | true => exact absurd ((T.same a b).mp e) h
end VL
namespace VL
open PySem PySem.Spec PyProof.Rows L2
end VL
namespace VL
universe u
open PySem PySem.Spec PyProof.Rows L2

/-! ### several clauses «except X as n» -/
abbrev TSx := Addr → Value → Option Addr → TS
/-- an ending that forgets the slot of the name -/
def offE (i : Nat) (D : Ends) : Ends := { nx := fun t K => D.nx (t.set i none) K, rt := D.rt, bk := fun t K => D.bk (t.set i none) K, ct := fun t K => D.ct (t.set i none) K }
def wNames (F : PySem.W.Frag) (Wo : WX) (D : Ends) : List (Value × Nat × TSx) → WX
  | [] => Wo
  | (c, i, ts) :: rest => fun cls d t K => ∃ b, PySem.W.exmOne F cls c = some b ∧
      (b = true → ∀ a, K a = none → ts a cls d (offE i D) (t.set i (some (.ref a))) K) ∧
      (b = false → wNames F Wo D rest cls d t K)
inductive HdsN (X : Cx) : List ExceptHandler → List (Value × Nat × TSx) → Prop
  | nil : HdsN X [] []
  | cons {x n : Str} {c : Value} {i : Nat} {ts : TSx} {b0 : Stmt} {su : List Stmt} {p1 p2 : Pos} {hds : List ExceptHandler} {l : List (Value × Nat × TSx)}
      (hi : X.N[i]? = some n) (hk : X.env.kindOf n = some .local) (hc : Names X x c)
      (hs : ∀ (a : Addr) (oe : Obj) (cls : Value) (d : Option Addr) (pn : List (Addr × Obj)), L2N.Zn cls d oe → (∃ vs, oe.data = .fields vs) →
        PSs (X.suite a ((a, oe) :: pn)) (b0 :: su) (ts a cls d)) (r : HdsN X hds l) :
      HdsN X (.ExceptHandler (some (.Name x p1)) (some n) (b0 :: su) p2 :: hds) ((c, i, ts) :: l)
theorem ps_try_N {X : Cx} {body : List Stmt} {hd0 : ExceptHandler} {hds : List ExceptHandler} {l : List (Value × Nat × TSx)} {pos : Pos} {tb : WX → TS} {Wo : WX}
    (hs : X.stack = X.env :: X.outer) (hf : X.env.frame = some X.env.locals) (hN : X.N.Nodup) (tk : L2N.Takes X Wo)
    (hb : ∀ (W : WX) (pn : List (Addr × Obj)) (xe : Value → Shared → Prop), L2N.Takes (X.tr pn xe) W →
      PassesOwn (model X.prog X.w) X.A X.env xe → PSs (X.tr pn xe) body (tb W))
    (hh : HdsN X (hd0 :: hds) l) : PS X (.Try body (hd0 :: hds) [] [] pos) (fun D t K => tb (wNames X.K Wo D l) D t K) := by
  refine ⟨fun pins s0 t0 K0 D I0 h0 => ?_⟩
  have ok := I0.ok
  have frs0 : X.A.frames = some (X.env :: X.outer) := by rw [ok.frames, hs]
  refine wpAny_Try_except ?_
  have B1 := hb (wNames X.K Wo D l) (X.pn ++ pins) (fun e0 u1 => wpAny (model X.prog X.w) X.A (noteFrame e0 X.env)
    (fun _ u2 => wpAny (model X.prog X.w) X.A (setFlight e0 none)
      (fun _ u3 => wpAny (model X.prog X.w) X.A (handleBy e0 X.env (hd0 :: hds)) (SP X pins D) X.xe u3) X.xe u2) X.xe u1)
  refine wpAny_mono ((B1 (fun u sx caught => ?_) PassesOwn.looking).run [] s0 t0 K0 D (I0.toTry _) h0) (fun fl sx hsp => ?_) (fun _ _ z => z)
  · obtain ⟨a, G, sy, pins1, t1, K1, cls, d, rfl, J1, nb, up1, sky, na, os1, ag, wish⟩ := caught
    have J := J1.ofTry ok
    have sky1 : Sky G (X.env :: X.outer) a (L2N.Zn cls d) X.env.locals sx.heap := by
      rw [← hs]
      exact sky
    show wpAny (model X.prog X.w) X.A (noteFrame (.ref a) X.env) _ _ _
    refine L2N.Sky.land L2N.Zn.steady frs0 hf sky1 fun g1 fly1 up2 => ?_
    have Jl : Inv X pins t1 K1 { sx with heap := g1 } := J.landed nb fly1.1 (up1.trans up2) os1 ag
    obtain ⟨o1, fs1, ho1, hz1, hd1⟩ := fly1.there
    have off : a ∉ frs (X.env :: X.outer) := fun hm => by
      obtain ⟨_, o2, ho2, hne⟩ := fly1.2.2.1.mem hm
      rw [ho1] at ho2
      cases ho2
      exact hne _ hd1
    have offL : a ≠ X.env.locals := fun z => off (List.mem_filterMap.mpr ⟨X.env, List.mem_cons_self, by rw [hf, z]⟩)
    have offF : a ∉ X.fs := fun hm => by
      obtain ⟨e, he, q⟩ := List.mem_filterMap.mp hm
      exact off (List.mem_filterMap.mpr ⟨e, List.mem_cons_of_mem _ he, q⟩)
    have Su := Jl.suite ho1 hd1 na offL offF
    suffices go : ∀ {hx : List ExceptHandler} {lx : List (Value × Nat × TSx)}, HdsN X hx lx → wNames X.K Wo D lx cls d t1 K1 →
        wpAny (model X.prog X.w) X.A (handleBy (.ref a) X.env hx) (SP X pins D) X.xe { sx with heap := g1 } from go hh wish
    intro hx lx hk
    induction hk with
    | nil =>
      intro wish
      refine wpAny_handleBy_nil ?_
      obtain ⟨_, _, _, oe, vs, T, oT, ts', he, hz, hd, hT, hr⟩ := id fly1
      unfold PySem.passOn
      refine wpAny_bind (wpAny_field he hd hT ?_)
      rw [if_neg (by simp : ¬ ((Value.ref T == Value.none) = true))]
      have fin : wpAny (model X.prog X.w) X.A (setFlight (.ref a) X.env.frame)
          (fun _ u => wpAny (model X.prog X.w) X.A (throw (.ref a) : Sem Flow) (SP X pins D) X.xe u) X.xe { sx with heap := g1 } := by
        rw [hf]
        refine HandSPX.setFlight_upZ fly1 fun g2 sk2 up3 => wpAny_throw (tk _ _ ?_)
        exact ⟨a, G, sy, pins, t1, K1, cls, d, rfl, J, nb, (up1.trans up2).trans up3,
          .inr (.inr (by rw [hs]; exact sk2)), na, os1, ag, wish⟩
      first | exact wpAny_bind (wpAny_pure (wpAny_bind fin)) | exact wpAny_bind fin
    | @cons x n c i ts b0 su p1 p2 hds2 l2 hi hk hc hsu r ih =>
      intro wish
      obtain ⟨b, eb, yes, no⟩ := wish
      refine wpAny_handleBy_cons (codeAny_handlers_test ?_) (by intro q; cases q)
      have LT : PySem.W.Looks (model X.prog X.w) g1 (typeOf (.ref a)) cls := fun A Q E s k q =>
        wpAny_typeOf_ref (k _ _ ho1) (by rw [hz1.1]; exact q)
      have LM := PySem.W.exm_one (M := model X.prog X.w) Jl.kIn LT eb
      have nm : ∀ {Q E : Value → Shared → Prop}, Q c { sx with heap := g1 } →
          wpAny (model X.prog X.w) (X.A.mark (some (.ref a))) (eval (.Name x p1) X.env) Q E { sx with heap := g1 } := fun {Q E} q => by
        obtain ⟨hg, hdb, hm | ⟨hm, hv, hn⟩⟩ := hc
        · exact ld_glob (X := X.suite a ((a, o1) :: (X.pn ++ pins))) Su hg hm q hdb
        · exact ld_blt (X := X.suite a ((a, o1) :: (X.pn ++ pins))) Su hg hm hv q hn hdb
      refine nm (LM.here ?_)
      cases b with
      | false => exact ih (no rfl)
      | true =>
        refine codeAny_handlers_suite_as ?_
        refine HandSPX.lands_againZ fly1 fun g2 fly2 up3 => ?_
        have J2 : Inv X pins t1 K1 { sx with heap := g2 } := J.landed nb fly2.1 ((up1.trans up2).trans up3) os1 ag
        obtain ⟨o2, fs2, ho2, hz2, hd2⟩ := fly2.there
        have S2 := J2.suite ho2 hd2 na offL offF
        refine store_ok (X := X.suite a ((a, o2) :: (X.pn ++ pins))) (v := .ref a) S2 hN hi (.inl hk) rfl (fun s5 S5 => ?_) (.inr hk)
        refine wpAny_mono ((hsu a o2 cls d (X.pn ++ pins) hz2 ⟨_, hd2⟩).run [] s5 _ K1 _ S5 (yes rfl a na)) (fun fl s6 h6 => ?_) (fun _ _ z => False.elim z)
        have gone : ∀ {t6 : L2.St} {K6 : Hp} {Q : Shared → Prop}, Inv (X.suite a ((a, o2) :: (X.pn ++ pins))) [] t6 K6 s6 → (∀ s7, Inv X pins (t6.set i none) K6 s7 → Q s7) →
            wpAny (model X.prog X.w) X.A (do bindName X.env n .none; unbindBehindTheSuite X.env n p2) (fun _ s7 => Q s7) X.xe s6 :=
          fun {t6 K6 Q} S6 hq => gone_ok (S6.unsuite ok) hN hi hk hq
        cases fl with
        | next =>
          obtain ⟨t6, K6, S6, q6⟩ := h6
          exact gone S6 fun s7 J7 => ⟨_, _, J7, q6⟩
        | brk =>
          obtain ⟨t6, K6, S6, q6⟩ := h6
          exact gone S6 fun s7 J7 => ⟨_, _, J7, q6⟩
        | cont =>
          obtain ⟨t6, K6, S6, q6⟩ := h6
          exact gone S6 fun s7 J7 => ⟨_, _, J7, q6⟩
        | ret u6 =>
          obtain ⟨v6, t6, K6, S6, r6, q6⟩ := h6
          exact gone S6 fun s7 J7 => ⟨_, _, _, J7, r6, q6⟩
  · cases fl with
    | next => exact let ⟨t6, K6, J6, q6⟩ := hsp; wpAny_execs_nil ⟨t6, K6, J6.ofTry ok, q6⟩
    | brk => exact let ⟨t6, K6, J6, q6⟩ := hsp; ⟨t6, K6, J6.ofTry ok, q6⟩
    | cont => exact let ⟨t6, K6, J6, q6⟩ := hsp; ⟨t6, K6, J6.ofTry ok, q6⟩
    | ret u6 => exact let ⟨v6, t6, K6, J6, r6, q6⟩ := hsp; ⟨v6, t6, K6, J6.ofTry ok, r6, q6⟩

/-! ### defs that may raise -/
/-- what leaves such a def: an error of an own class, by its name -/
def wOwn (mg : Str → Option Value) (E : XK) (H : Hp) : String → Prop := fun c => ∀ H', Sub H H' → ∀ C0, mg (Str.ofString c) = some (.ref C0) → E (.ref C0) none H'
def spE (K : PySem.W.Frag) (mg : Str → Option Value) {A R : Type} [T : ArgTy A] [PyTy R] (rk : Nat) (m : A → M R) : Sp := fun vs H Q E =>
  ∃ (a : A) (S : Hp), Sub S H ∧ Parts K (lv 0) S H (T.al a) vs ∧ ends (m a) (fun c => ∀ v S' H' F, Ext S H S' H' F → got K (lv rk) c S' H' v F → Q v H') (wOwn mg E H)
/-- a call whose error is handed on -/
def eCallX {ρ A R : Type} (m : A → M R) (f : ρ → M A) : ρ → M R := fun r => f r >>= fun a => m a
def fRaise {ρ R : Type} (c : String) : ρ → M (Fl ρ R) := fun _ => .error (.exc c)
/-- what a body wishes of an error, by name, from the wish of its class -/
def wNam (mg : Str → Option Value) (n : Nat) (W : WX) : Hp → String → Prop := fun H c => ∀ C0, mg (Str.ofString c) = some (.ref C0) → ∀ σ : L2.St, σ.length = n → W (.ref C0) none σ H
section
variable {P : Program} {w : World} {K : PySem.W.Frag} {mg : Str → Option Value} {base : Heap}
theorem okN {x qual : Str} {st : Stmt} {f : Addr} {fd : FuncData} {N ps : List Str} {k : Nat} {sp : Sp} (F : Fun K x qual st f fd) (S : FnScope N ps (defScope st)) (len : ∀ vs H Q E, sp vs H Q E → vs.length = ps.length)
    (hbody : ∀ (cdv : Value) (A : Around) (outer : List PySem.Env) (s : Shared) (H : Hp) (vs : List V) (Q : VK) (E : XK), Room k (A.deeper (envOfC qual (defScope st) s.heap.objs.size f cdv)) → sp vs H Q E →
      ∃ t, PSs (cxOf (L2N.CX P w) P w K mg base N qual (defScope st) f cdv A outer s H E) (defBody st) t ∧ t { nx := fun _ H' => Q .non H', rt := Q } (start N vs) H) : FnOk P w K mg base (L2N.CX P w) (k + 1) f fd ps sp := by
  obtain ⟨_, _, _, _, _, _, cdv, _, _, rfl, lk, hcd⟩ := F.ex
  exact fn_of lk hcd S len fun A outer s H vs Q E hr hsp => hbody cdv A outer s H vs Q E hr hsp
theorem Hd.unit {C : Ct} {k : Nat} {l : List Assn} {H : Hp} (h : Hd C l H) : Hd C (itm C.K k () V.non :: l) H :=
  let ⟨S, F, st, o⟩ := h
  ⟨S, F, ⟨[], F, rfl, Scal.scal.mpr ⟨rfl, rfl⟩, st⟩, o⟩
/-- the end of a body, told of its def -/
theorem end_def {C : Ct} (hP : C.P = []) {R : Type} [TR : PyTy R] {rk : Nat} {Q : VK} {ms : List Mode} {ss : List Slot} {σ : L2.St} {c : R} {S H0 : Hp} (e1 : C.H0 = H0) (e2 : C.S0 = S) {v : V} {H' : Hp} (hd : Hd C (itm C.K rk c v :: Env C.K C.A ms ss σ) H') (q : ∀ v S' H' F, Ext S H0 S' H' F → got C.K (lv rk) c S' H' v F → Q v H') : Q v H' := by
  subst e1 e2
  obtain ⟨S', F, ⟨F1, F2, e, h1, h2⟩, o⟩ := hd
  subst e
  have o' := o.less (List.sublist_append_left F1 F2)
  refine q v S' H' F1 ⟨(fun p u z => o'.fr p u z (by rw [hP]; exact fun y => nomatch y)), o'.s0, o'.sh, (fun p z => (o'.nw p (.inr z)).imp_right fun y => y.resolve_left (by rw [hP]; exact fun y => nomatch y)), (fun p hp => ⟨?_, o'.dj p hp⟩), o'.nd⟩ h1
  rcases o'.nw p (.inl hp) with z | z | z
  · exact absurd (o'.s0.back (o'.dj p hp)) z
  · rw [hP] at z
    cases z
  · exact z
theorem start_def {C : Ct} (hP : C.P = []) {N ps : List Str} {A ρ : Type} [T : ArgTy A] {sl : ρ → List Slot} {ini : A → ρ} {a : A} {vs : List V} {S0 H : Hp} (eH : C.H0 = H) (eS : C.S0 = S0) (eA : C.A = fun i => vs[i]?) (hal : (T.al a).length = ps.length) (hini : ∃ rest, sl (ini a) = T.al a ++ rest ∧ rest.length = N.length - ps.length) (hs : Sub S0 H) (pt : Parts C.K (lv 0) S0 H (T.al a) vs) :
    Hd C ([] ++ Env C.K C.A (List.replicate ps.length (lv 0) ++ List.replicate (N.length - ps.length) .un) (sl (ini a)) (start N vs)) H := by
  refine ⟨S0, [], ?_, List.nodup_nil, (fun p hp => nomatch hp), hs, by rw [eS]; exact Sub.refl S0, fun p o q _ => by rw [← eH]; exact q, fun p q => .inl (by rw [eS]; exact q.resolve_left fun z => nomatch z)⟩
  obtain ⟨rest, e, hl⟩ := hini
  rw [e]
  have := start_env (K := C.K) (A := C.A) (S := S0) (H := H) pt hl
  rw [hal] at this
  have e2 : start N vs = vs.map some ++ List.replicate (N.length - ps.length) none := by
    show vs.map some ++ List.replicate (N.length - vs.length) none = _
    rw [← pt.length, hal]
  rw [e2]
  exact this
theorem ok_defE {x qual : Str} {st : Stmt} {f : Addr} {fd : FuncData} {N ps : List Str} {k rk : Nat} {A ρ R : Type} [T : ArgTy A] [TR : PyTy R] {sl : ρ → List Slot} {ms' rm : List Mode} {g : ρ → M (Fl ρ R)} {ini : A → ρ} (F : Fun K x qual st f fd) (S : FnScope N ps (defScope st))
    (hal : ∀ a, (T.al a).length = ps.length) (hini : ∀ a, ∃ rest, sl (ini a) = T.al a ++ rest ∧ rest.length = N.length - ps.length)
    (hbody : ∀ (cdv : Value) (A : Around) (outer : List PySem.Env) (s : Shared) (H : Hp) (E : XK) (H0 S0 : Hp) (vs : List V), Room k (A.deeper (envOfC qual (defScope st) s.heap.objs.size f cdv)) → PSs (cxOf (L2N.CX P w) P w K mg base N qual (defScope st) f cdv A outer s H E) (defBody st) (tS ⟨K, H0, S0, [], fun i => vs[i]?, wNam mg N.length fun cls d _ H => E cls d H⟩ sl (List.replicate ps.length (lv 0) ++ List.replicate (N.length - ps.length) .un) ms' [] rm rk g)) :
    FnOk P w K mg base (L2N.CX P w) (k + 1) f fd ps (spE K mg rk fun a => runR g (ini a)) := by
  refine okN F S (fun vs H Q E h => ?_) (fun cdv A outer s H vs Q E hr h => ?_)
  · obtain ⟨a, S, _, pt, _⟩ := h
    rw [← pt.length, hal]
  · obtain ⟨a, S0, hs, pt, he⟩ := h
    refine ⟨_, hbody cdv A outer s H E H S0 vs hr, ini a, [], start_def rfl rfl rfl rfl (hal a) (hini a) hs pt, ends_mono (ends_bind he) (fun o eo q => ?_) fun c q H' fr C0 e0 _ _ => q H' (fun p o z => fr p o z fun y => nomatch y) C0 e0⟩
    cases o with
    | nx r' => exact q.elim
    | bk r' => exact q.elim
    | ct r' => exact q.elim
    | rt c r' => exact fun v σ' H' hd => end_def (C := ⟨K, H, S0, [], fun i => vs[i]?, _⟩) rfl rfl rfl hd q
theorem ok_defEU {x qual : Str} {st : Stmt} {f : Addr} {fd : FuncData} {N ps : List Str} {k rk : Nat} {A ρ : Type} [T : ArgTy A] {sl : ρ → List Slot} {ms' rm : List Mode} {g : ρ → M (Fl ρ Unit)} {ini : A → ρ} (F : Fun K x qual st f fd) (S : FnScope N ps (defScope st))
    (hal : ∀ a, (T.al a).length = ps.length) (hini : ∀ a, ∃ rest, sl (ini a) = T.al a ++ rest ∧ rest.length = N.length - ps.length)
    (hbody : ∀ (cdv : Value) (A : Around) (outer : List PySem.Env) (s : Shared) (H : Hp) (E : XK) (H0 S0 : Hp) (vs : List V), Room k (A.deeper (envOfC qual (defScope st) s.heap.objs.size f cdv)) → PSs (cxOf (L2N.CX P w) P w K mg base N qual (defScope st) f cdv A outer s H E) (defBody st) (tS ⟨K, H0, S0, [], fun i => vs[i]?, wNam mg N.length fun cls d _ H => E cls d H⟩ sl (List.replicate ps.length (lv 0) ++ List.replicate (N.length - ps.length) .un) ms' [] rm rk g)) :
    FnOk P w K mg base (L2N.CX P w) (k + 1) f fd ps (spE K mg rk fun a => runRU g (ini a)) := by
  refine okN F S (fun vs H Q E h => ?_) (fun cdv A outer s H vs Q E hr h => ?_)
  · obtain ⟨a, S, _, pt, _⟩ := h
    rw [← pt.length, hal]
  · obtain ⟨a, S0, hs, pt, he⟩ := h
    refine ⟨_, hbody cdv A outer s H E H S0 vs hr, ini a, [], start_def rfl rfl rfl rfl (hal a) (hini a) hs pt, ends_mono (ends_bind he) (fun o eo q => ?_) fun c q H' fr C0 e0 _ _ => q H' (fun p o z => fr p o z fun y => nomatch y) C0 e0⟩
    cases o with
    | nx r' => exact fun σ' H' hd => end_def (C := ⟨K, H, S0, [], fun i => vs[i]?, _⟩) (c := ()) (v := V.non) rfl rfl rfl (Hd.unit hd) q
    | bk r' => exact q.elim
    | ct r' => exact q.elim
    | rt c r' => exact fun v σ' H' hd => end_def (C := ⟨K, H, S0, [], fun i => vs[i]?, _⟩) rfl rfl rfl hd q
/-- a def around a try: what it starts with stands in the heap -/
theorem ok_defT {x qual : Str} {st : Stmt} {f : Addr} {fd : FuncData} {N ps : List Str} {k rk : Nat} {A ρ R : Type} [T : ArgTy A] [TR : PyTy R] {sl : ρ → List Slot} {ms' rm : List Mode} {g : ρ → M (Fl ρ R)} {ini : A → ρ} (F : Fun K x qual st f fd) (S : FnScope N ps (defScope st))
    (hal : ∀ a, (T.al a).length = ps.length) (hini : ∀ a, ∃ rest, sl (ini a) = T.al a ++ rest ∧ rest.length = N.length - ps.length)
    (hbody : ∀ (cdv : Value) (A : Around) (outer : List PySem.Env) (s : Shared) (H : Hp) (E : XK) (H0 S0 : Hp) (vs : List V), Sub S0 H0 → Room k (A.deeper (envOfC qual (defScope st) s.heap.objs.size f cdv)) → PSs (cxOf CX0 P w K mg base N qual (defScope st) f cdv A outer s H E).nox (defBody st) (tS ⟨K, H0, S0, [], fun i => vs[i]?, noW⟩ sl (List.replicate ps.length (lv 0) ++ List.replicate (N.length - ps.length) .un) ms' [] rm rk g)) :
    FnOk P w K mg base CX0 (k + 1) f fd ps (spP K rk fun a => runR g (ini a)) := by
  refine F.ok S (fun vs H Q E h => ?_) (fun cdv A outer s H vs Q E hr h => ?_)
  · obtain ⟨a, S, _, pt, _⟩ := h
    rw [← pt.length, hal]
  · obtain ⟨a, S0, hs, pt, he⟩ := h
    refine ⟨_, hbody cdv A outer s H E H S0 vs hs hr, ini a, [], start_def rfl rfl rfl rfl (hal a) (hini a) hs pt, ends_mono (ends_bind he) (fun o eo q => ?_) fun c q => q.elim⟩
    cases o with
    | nx r' => exact q.elim
    | bk r' => exact q.elim
    | ct r' => exact q.elim
    | rt c r' => exact fun v σ' H' hd => end_def (C := ⟨K, H, S0, [], fun i => vs[i]?, _⟩) rfl rfl rfl hd q
end
section
variable {X : Cx} {K : PySem.W.Frag} {W : Hp → String → Prop} {ρ : Type} {sl : ρ → List Slot} {ms : List Mode} {e : Expr} {es : List Expr} {pos p p2 pos' : Pos} {kd : Mode}
variable {A R : Type} [AA : ArgTy A] [TR : PyTy R]
theorem passN {X : Cx} : Passes (L2N.CX X.prog X.w) X E0 := fun _ _ _ _ _ _ _ h => by
  obtain ⟨_, _, _, _, _, _, _, _, _, _, _, _, z⟩ := h
  exact z.elim
/-- a call of such a def, where its error is taken -/
theorem pv_callE {k rk : Nat} {f : Addr} {fd : FuncData} {ps : List Str} {x : Str} {m : A → M R} {g : ρ → M A} {Wx : WX} (F : FnOk X.prog X.w X.K X.mg X.base (L2N.CX X.prog X.w) k f fd ps (spE X.K X.mg rk m)) (hr : Room k X.A) (hg : Gl X x) (hm : X.mg x = some (.ref f)) (hk : PySem.W.keepIn X.K (.ref f) = true) (hb : Binds X.K fd ps [])
    (tk : L2N.Takes X Wx) (hW : ∀ H c, W H c → ∀ C0, X.mg (Str.ofString c) = some (.ref C0) → ∀ σ : L2.St, σ.length = ms.length → Wx (.ref C0) none σ H)
    (ha : PA X (e :: es) (tPA X.K W sl ms g (lv 0))) (hdb : (x == ("__debug__" : Str)) = false := by decide) (he : starEach (e :: es) X.env = (false, eval e X.env) :: starEach es X.env := by rfl) (hpl : (backTo pos (starEach es X.env)).any (·.1) = false := by rfl) :
    PE X (.Call (.Name x p) (e :: es) [] pos) (tP X.K W sl ms (eCallX m g) (lv rk)) :=
  PE.conv (pe_callS F hr hg hm hk hb (fun σ => L2N.passAt tk σ) ha hdb he hpl) fun σ H Q ⟨r, S, hs, hv, q⟩ => ⟨r, S, hs, hv, ends_mono (ends_bind q) (fun a ea q vs S1 H1 x1 pt => by
    exact ⟨a, S1, x1.sh, pt, ends_mono q (fun c ec q v S2 H2 F2 x2 g2 => q v S2 H2 F2 (by have := x1.trans x2 (fun p hp => nomatch hp); rw [List.append_nil] at this; exact this) g2) fun c q H2 h2 C0 e0 => hW H2 c (q H2 (x1.hh.trans h2)) C0 e0 σ hv.len.2.symm⟩) fun c q => q⟩
/-- .. where it raises nothing -/
theorem pv_callM {k rk : Nat} {f : Addr} {fd : FuncData} {ps : List Str} {x : Str} {m : A → M R} {g : ρ → M A} (F : FnOk X.prog X.w X.K X.mg X.base (L2N.CX X.prog X.w) k f fd ps (spE X.K X.mg rk m)) (hr : Room k X.A) (hg : Gl X x) (hm : X.mg x = some (.ref f)) (hk : PySem.W.keepIn X.K (.ref f) = true) (hb : Binds X.K fd ps [])
    (ha : PA X (e :: es) (tPA X.K W sl ms g (lv 0))) (hdb : (x == ("__debug__" : Str)) = false := by decide) (he : starEach (e :: es) X.env = (false, eval e X.env) :: starEach es X.env := by rfl) (hpl : (backTo pos (starEach es X.env)).any (·.1) = false := by rfl) :
    PE X (.Call (.Name x p) (e :: es) [] pos) (tP X.K W sl ms (eCall m g) (lv rk)) :=
  PE.conv (pe_call F hr hg hm hk hb .nil passN ha hdb he hpl) fun σ H Q ⟨r, S, hs, hv, q⟩ => ⟨r, S, hs, hv, ends_mono (ends_bind q) (fun a ea q vs S1 H1 x1 pt => by
    show spE X.K X.mg rk m (vs ++ []) H1 Q E0
    rw [List.append_nil]
    exact ⟨a, S1, x1.sh, pt, ends_mono (ends_muted q) (fun c ec q v S2 H2 F2 x2 g2 => q v S2 H2 F2 (by have := x1.trans x2 (fun p hp => nomatch hp); rw [List.append_nil] at this; exact this) g2) fun c q => q.elim⟩) fun c q => q⟩
/-- .. its arguments looked at -/
theorem pv_callMC {k rk : Nat} [CR : Closed R rk] {f : Addr} {fd : FuncData} {ps : List Str} {x : Str} {m : A → M R} {g : ρ → M A} (F : FnOk X.prog X.w X.K X.mg X.base (L2N.CX X.prog X.w) k f fd ps (spE X.K X.mg rk m)) (hr : Room k X.A) (hg : Gl X x) (hm : X.mg x = some (.ref f)) (hk : PySem.W.keepIn X.K (.ref f) = true) (hb : Binds X.K fd ps [])
    (ha : PA X (e :: es) (tPA X.K W sl ms g .vw)) (hdb : (x == ("__debug__" : Str)) = false := by decide) (he : starEach (e :: es) X.env = (false, eval e X.env) :: starEach es X.env := by rfl) (hpl : (backTo pos (starEach es X.env)).any (·.1) = false := by rfl) :
    PE X (.Call (.Name x p) (e :: es) [] pos) (tP X.K W sl ms (eCall m g) (lv rk)) :=
  PE.conv (pe_call F hr hg hm hk hb .nil passN ha hdb he hpl) fun σ H Q ⟨r, S, hs, hv, q⟩ => ⟨r, S, hs, hv, ends_mono (ends_bind q) (fun a ea q vs S1 H1 x1 pt => by
    show spE X.K X.mg rk m (vs ++ []) H1 Q E0
    rw [List.append_nil]
    have look : ∀ {ss : List Slot} {vs : List V}, Parts X.K .vw S1 H1 ss vs → Parts X.K (lv 0) H1 H1 ss vs := by
      intro ss
      induction ss with
      | nil => intro vs h; cases vs with
        | nil => exact h
        | cons _ _ => exact h.elim
      | cons s ss ih => intro vs h; cases vs with
        | nil => exact h.elim
        | cons v vs => exact ⟨h.1, ih h.2⟩
    refine ⟨a, H1, Sub.refl H1, look pt, ends_mono (ends_muted q) (fun c ec q v S2 H2 F2 x2 g2 => ?_) fun c q => q.elim⟩
    have gn : got X.K (lv rk) c S1 H2 v F2 := CR.closed g2
    have y : Ext S1 H1 S1 H2 F2 := ⟨x2.hh, Sub.refl S1, x1.sh.trans x2.hh, fun p q => .inl q, fun p hp => ⟨(x2.fr p hp).1, x1.sh.back (x2.fr p hp).1⟩, x2.nd⟩
    exact q v S1 H2 F2 (by have := x1.trans y (fun p hp => nomatch hp); rw [List.append_nil] at this; exact this) gn) fun c q => q⟩
end
section
variable {X : Cx} {C : Ct} {ρ R : Type} [TR : PyTy R] {sl : ρ → List Slot} {ms ms1 ms2 lm rm : List Mode} {rk : Nat} {e : Expr} {pos pos' p p2 : Pos}
theorem s_raise {c : String} {C0 : Addr} {Wx : WX} (hc : X.calm = true) (tk : L2N.Takes X Wx) (he : L2N.PMk X e fun _ H Q => Q (.ref C0) none H) (hm : X.mg (Str.ofString c) = some (.ref C0)) (hW : ∀ H c, C.W H c → ∀ C0, X.mg (Str.ofString c) = some (.ref C0) → ∀ σ : L2.St, σ.length = ms.length → Wx (.ref C0) none σ H) :
    PS X (.Raise (some e) none pos) (tS C sl ms ms2 lm rm rk (fRaise (R := R) c)) :=
  PS.conv (L2N.ps_raise hc tk he) fun D σ H ⟨r, T, hd, he⟩ => hW H c (he H (hd.fr (Sub.refl H))) C0 hm σ hd.lens.1.symm
theorem OkS.cw {C C' : Ct} {S H : Hp} {F : List Addr} (e1 : C'.H0 = C.H0) (e2 : C'.S0 = C.S0) (e3 : C'.P = C.P) (o : OkS C S F H) : OkS C' S F H :=
  ⟨o.nd, o.dj, o.sh, by rw [e2]; exact o.s0, by rw [e1, e3]; exact o.fr, by rw [e1, e2, e3]; exact o.nw⟩
theorem Hd.cw {C C' : Ct} {l : List Assn} {H : Hp} (h : Hd C l H) (e1 : C'.H0 = C.H0) (e2 : C'.S0 = C.S0) (e3 : C'.P = C.P) : Hd C' l H :=
  let ⟨S, F, st, o⟩ := h
  ⟨S, F, st, o.cw e1 e2 e3⟩
/-- a try: what its clauses answer, by the error's name -/
def tryR {ρ R : Type} (h : String → Option R) (r : ρ) : M (Fl ρ R) → M (Fl ρ R)
  | .ok o => .ok o
  | .error .stuck => .error .stuck
  | .error (.exc c) => match h c with
    | some v => .ok (.rt v r)
    | none => .error .stuck
def fTry {ρ R : Type} (fb : ρ → M (Fl ρ R)) (h : String → Option R) : ρ → M (Fl ρ R) := fun r => tryR h r (fb r)
theorem env_un {K : PySem.W.Frag} {A : Nat → Option V} {S H : Hp} : ∀ {n : Nat} {ss : List Slot} {vs : List (Option V)}, ss.length = n → vs.length = n → Star (Env K A (List.replicate n .un) ss vs) S H []
  | 0, [], [], _, _ => rfl
  | 0, _ :: _, _, h, _ => by cases h
  | 0, [], _ :: _, _, h => by cases h
  | n + 1, [], _, h, _ => by cases h
  | n + 1, _ :: _, [], _, h => by cases h
  | n + 1, s :: ss, v :: vs, h1, h2 => ⟨[], [], rfl, rfl, env_un (n := n) (by simpa using h1) (by simpa using h2)⟩
theorem s_try {body : List Stmt} {h0 : ExceptHandler} {hds : List ExceptHandler} {l : List (Value × Nat × TSx)} {fb : ρ → M (Fl ρ R)} {h : String → Option R} (hS : Sub C.S0 C.H0) (hP : C.P = []) (hs : X.stack = X.env :: X.outer) (hf : X.env.frame = some X.env.locals) (hN : X.N.Nodup) (hrm : rm = List.replicate ms.length .un)
    (hb : ∀ (W : WX) (pn : List (Addr × Obj)) (xe : Value → Shared → Prop), L2N.Takes (X.tr pn xe) W → PassesOwn (model X.prog X.w) X.A X.env xe → PSs (X.tr pn xe) body (tS ⟨C.K, C.H0, C.S0, C.P, C.A, wNam X.mg ms.length W⟩ sl ms ms1 lm rm rk fb))
    (hh : HdsN X (h0 :: hds) l)
    (hv : ∀ c v, h c = some v → ∃ u : V, (∀ S H, TR.rep C.K rk S H u v []) ∧ ∀ C0, X.mg (Str.ofString c) = some (.ref C0) → ∀ D (σ : L2.St) H, σ.length = ms.length → (∀ H', Sub H H' → D.rt u H') → wNames X.K (fun _ _ _ _ => False) D l (.ref C0) none σ H) :
    PS X (.Try body (h0 :: hds) [] [] pos) (tS C sl ms ms1 lm rm rk (fTry fb h)) :=
  PS.conv (ps_try_N (Wo := fun _ _ _ _ => False) hs hf hN (fun _ _ x => by
    obtain ⟨_, _, _, _, _, _, _, _, _, _, _, _, _, _, _, _, z⟩ := x
    exact z.elim) hb hh) fun D σ H ⟨r, T, hd, he⟩ => by
    have hl := hd.lens
    refine ⟨r, T, hd.cw rfl rfl rfl, ?_⟩
    have he : ends (tryR h r (fb r)) _ _ := he
    show ends (fb r) _ _
    cases eb : fb r with
    | ok o =>
      rw [eb] at he
      cases o with
      | nx r' => exact fun σ' H' h' => he σ' H' (h'.cw rfl rfl rfl)
      | rt a r' => exact fun v σ' H' h' => he v σ' H' (h'.cw rfl rfl rfl)
      | bk r' => exact fun σ' H' h' => he σ' H' (h'.cw rfl rfl rfl)
      | ct r' => exact fun σ' H' h' => he σ' H' (h'.cw rfl rfl rfl)
    | error er =>
      rw [eb] at he
      cases er with
      | stuck => exact he
      | exc c =>
        cases ev : h c with
        | none =>
          have he : ends (match h c with | some v => (.ok (.rt v r) : M (Fl ρ R)) | none => .error .stuck) _ _ := he
          rw [ev] at he
          exact he.elim
        | some v =>
          have he : ends (match h c with | some v => (.ok (.rt v r) : M (Fl ρ R)) | none => .error .stuck) _ _ := he
          rw [ev] at he
          have q : ∀ u σ' H', Hd C (itm C.K rk v u :: Env C.K C.A rm (sl r) σ') H' → D.rt u H' := he
          intro H' fr C0 e0 σ' el
          obtain ⟨u, ru, k⟩ := hv c v ev
          refine k C0 e0 D σ' H' el fun H2 h2 => q u σ H2 ⟨C.S0, [], ⟨[], [], rfl, ru _ _, ?_⟩, List.nodup_nil, (fun p hp => nomatch hp), (fun p o q => h2 p o (fr p o (hS p o q) (by show p ∉ C.P; rw [hP]; exact fun z => nomatch z))), Sub.refl _, (fun p o q n => h2 p o (fr p o q n)), fun p q => .inl (q.resolve_left fun z => nomatch z)⟩
          rw [hrm]
          exact env_un (by omega) hl.1.symm
end
end VL
namespace VL
universe u
open PySem PySem.Spec PyProof.Rows L2

/-! ### things of several plain kinds -/
inductive Sc where
  | i (n : Int)
  | b (t : Bool)
  | s (x : Str)
  | non
  deriving DecidableEq
def Sc.v : Sc → V
  | .i n => .int n
  | .b t => .bl t
  | .s x => .str x
  | .non => .non
def Sc.ty : Sc → String
  | .i _ => "int"
  | .b _ => "bool"
  | .s _ => "str"
  | .non => "NoneType"
instance instPySc : PyTy Sc := scalTy Sc.v
instance : Scal Sc := ⟨Sc.v, Iff.rfl⟩
instance : ValInj Sc := ⟨fun x y h => by
  cases x <;> cases y <;> first | rfl | (exact congrArg _ (V.int.inj h)) | (exact congrArg _ (V.bl.inj h)) | (exact congrArg _ (V.str.inj h)) | (exact nomatch h)⟩
def scI (n : Int) : Option Sc := some (.i n)
def scB (t : Bool) : Option Sc := some (.b t)
def scS (x : Str) : Option Sc := some (.s x)
def scN (_ : Unit) : Option Sc := some .non
def toI : Sc → Option Int
  | .i n => some n
  | _ => none
def toS : Sc → Option Str
  | .s x => some x
  | _ => none
def lsY (l : List Int) : Option (List Sc) := some (l.map .i)
def allI : List Sc → Option (List Int)
  | [] => some []
  | .i n :: l => (allI l).map (n :: ·)
  | _ :: _ => none
theorem re_scI {K : PySem.W.Frag} {k : Nat} {S H : Hp} {v : V} {a : Int} {b : Sc} {F : List Addr} (e : scI a = some b) (h : instPyInt.rep K k S H v a F) : instPySc.rep K k S H v b F := by cases e; exact h
theorem re_scB {K : PySem.W.Frag} {k : Nat} {S H : Hp} {v : V} {a : Bool} {b : Sc} {F : List Addr} (e : scB a = some b) (h : instPyBool.rep K k S H v a F) : instPySc.rep K k S H v b F := by cases e; exact h
theorem re_scS {K : PySem.W.Frag} {k : Nat} {S H : Hp} {v : V} {a : Str} {b : Sc} {F : List Addr} (e : scS a = some b) (h : instPyStr.rep K k S H v a F) : instPySc.rep K k S H v b F := by cases e; exact h
theorem re_scN {K : PySem.W.Frag} {k : Nat} {S H : Hp} {v : V} {a : Unit} {b : Sc} {F : List Addr} (e : scN a = some b) (h : instPyUnit.rep K k S H v a F) : instPySc.rep K k S H v b F := by cases e; exact h
theorem re_toI {K : PySem.W.Frag} {k : Nat} {S H : Hp} {v : V} {a : Sc} {b : Int} {F : List Addr} (e : toI a = some b) (h : instPySc.rep K k S H v a F) : instPyInt.rep K k S H v b F := by
  cases a with
  | i n => cases e; exact h
  | b t => cases e
  | s x => cases e
  | non => cases e
theorem re_toS {K : PySem.W.Frag} {k : Nat} {S H : Hp} {v : V} {a : Sc} {b : Str} {F : List Addr} (e : toS a = some b) (h : instPySc.rep K k S H v a F) : instPyStr.rep K k S H v b F := by
  cases a with
  | s n => cases e; exact h
  | b t => cases e
  | i x => cases e
  | non => cases e
theorem reps_lsY {K : PySem.W.Frag} {k : Nat} {S H : Hp} : ∀ {vs : List V} {l : List Int} {F : List Addr}, Reps (fun v a F => instPyInt.rep K k S H v a F) vs l F → Reps (fun v a F => instPySc.rep K k S H v a F) vs (l.map .i) F
  | [], [], _, h => h
  | [], _ :: _, _, h => h.elim
  | _ :: _, [], _, h => h.elim
  | _ :: _, _ :: _, _, ⟨F1, F2, e, h1, h2⟩ => ⟨F1, F2, e, h1, reps_lsY h2⟩
theorem reps_allI {K : PySem.W.Frag} {k : Nat} {S H : Hp} : ∀ {vs : List V} {l : List Sc} {m : List Int} {F : List Addr}, allI l = some m → Reps (fun v a F => instPySc.rep K k S H v a F) vs l F → Reps (fun v a F => instPyInt.rep K k S H v a F) vs m F
  | [], [], _, _, e, h => by cases e; exact h
  | [], _ :: _, _, _, _, h => h.elim
  | _ :: _, [], _, _, _, h => h.elim
  | v :: vs, x :: l, m, F, e, ⟨F1, F2, eF, h1, h2⟩ => by
    cases x with
    | i n =>
      obtain ⟨m', e', em⟩ := Option.map_eq_some_iff.mp (show (allI l).map (n :: ·) = some m from e)
      subst em
      exact ⟨F1, F2, eF, h1, reps_allI e' h2⟩
    | b t => cases e
    | s x => cases e
    | non => cases e
theorem re_lsY {K : PySem.W.Frag} {k : Nat} {S H : Hp} {v : V} {a : List Int} {b : List Sc} {F : List Addr} (e : lsY a = some b) (h : (instList (α := Int)).rep K k S H v a F) : (instList (α := Sc)).rep K k S H v b F := by
  cases e
  obtain ⟨p, xs, F', e, n, z, r⟩ := h
  exact ⟨p, xs, F', e, n, z, reps_lsY r⟩
theorem re_allI {K : PySem.W.Frag} {k : Nat} {S H : Hp} {v : V} {a : List Sc} {b : List Int} {F : List Addr} (e : allI a = some b) (h : (instList (α := Sc)).rep K k S H v a F) : (instList (α := Int)).rep K k S H v b F := by
  obtain ⟨p, xs, F', e1, n, z, r⟩ := h
  exact ⟨p, xs, F', e1, n, z, reps_allI e r⟩
/-! isinstance of such a thing -/
def isIntY : Sc → Option Bool
  | .i _ => some true
  | .b _ => some true
  | .s _ => some false
  | .non => some false
def isBoolY : Sc → Option Bool
  | .b _ => some true
  | .i _ => some false
  | .s _ => some false
  | .non => some false
def isStrY : Sc → Option Bool
  | .s _ => some true
  | .i _ => some false
  | .b _ => some false
  | .non => some false
theorem ty_sc {K : PySem.W.Frag} {H : Hp} {v : V} {a : Sc} (h : instPySc.rep K 0 H H v a []) : TyX K H v (.type a.ty) := by
  rw [show v = a.v from rep_scal h]
  cases a with
  | i n => exact .base (.int _)
  | b n => exact .base (.bl _)
  | s n => exact .base (.str _)
  | non => exact .base .non
section
variable {X : Cx} {K : PySem.W.Frag} {W : Hp → String → Prop} {ρ : Type} {sl : ρ → List Slot} {ms : List Mode} {a e : Expr} {pos p : Pos} {kd : Mode}
theorem pv_isiY {u : String} {op : Sc → Option Bool} {x : Str} {p3 : Pos} {f : ρ → M Sc} (hb : ∀ y b, op y = some b → kitB y.ty u = some b) (hg : Gl X "isinstance") (hm : X.mg "isinstance" = none) (hgx : Gl X x) (hmx : X.mg x = none) (hv : bootBuiltins x = some (.type u)) (ha : PE X a (tP X.K W sl ms f kd)) (hk : kd ≠ .un := by decide) (hn : x ≠ "__name__" := by decide) (hdb : (x == ("__debug__" : Str)) = false := by decide)
    (he : starEach [a, .Name x p3] X.env = (false, eval a X.env) :: starEach [.Name x p3] X.env := by rfl) (he2 : starEach [.Name x p3] X.env = (false, eval (.Name x p3) X.env) :: starEach [] X.env := by rfl) (hpl : (backTo pos (starEach [.Name x p3] X.env)).any (·.1) = false := by rfl) :
    PE X (.Call (.Name "isinstance" p) [a, .Name x p3] [] pos) (tP X.K W sl ms (e1 op f) (lv 0)) :=
  PE.conv (pe_callB call_isi hg hm boot_isinstance (pa_cons ha (pa_cons (pe_bltn (v := .ty u) hgx hmx hv rfl hn hdb) pa_nil he2) he) (by decide) (by decide) he hpl) fun σ H Q ⟨r, S, hs, hv, q⟩ => ⟨r, S, hs, hv, ends_mono (ends_bind q) (fun y ey q v S1 H1 F x g => by
    obtain ⟨b, eb, q⟩ := up_ends q
    exact ⟨v, .ty u, .type y.ty, .type u, b, rfl, .ty u, ty_sc (g.look x.sh hk), kit_ty (hb y b eb), q _ _ H1 [] (x.share g.here) (Scal.scal.mpr ⟨rfl, rfl⟩)⟩) fun c q => q⟩
end
theorem kit_intY : ∀ y b, isIntY y = some b → kitB y.ty "int" = some b := fun y b e => by
  cases y <;> (cases e; simp only [Sc.ty]; decide +kernel)
theorem kit_boolY : ∀ y b, isBoolY y = some b → kitB y.ty "bool" = some b := fun y b e => by
  cases y <;> (cases e; simp only [Sc.ty]; decide +kernel)
theorem kit_strY : ∀ y b, isStrY y = some b → kitB y.ty "str" = some b := fun y b e => by
  cases y <;> (cases e; simp only [Sc.ty]; decide +kernel)
instance dcSc : DatC Sc where
  toD
    | .i n => .int n
    | .b t => .bool t
    | .s x => .str x
    | .non => .none
  n := 0
  dp {K H v a} h := by
    rw [show v = a.v from rep_scal h]
    cases a with
    | i n => exact Dp.int _
    | b n => exact Dp.bl _
    | s n => exact Dp.str _
    | non => exact Dp.non
  dep a := by cases a <;> exact Nat.le_refl _
end VL
namespace VL
universe u
open PySem PySem.Spec PyProof.Rows L2

/-! ### isinstance of a caught error -/
theorem kit_cl {K : PySem.W.Frag} {D C : Addr} {b : Bool} (hd : PySem.W.hasDictIn K C = true) (ht : PySem.W.typeIn K (.ref C) = some (.type "type")) (h : PySem.W.subIn K (.ref D) (.ref C) = some b) (hs : PySem.W.subIn K (.ref D) (.ref D) = some true) : PySem.W.kitOne K (.ref D) (.ref C) = some b := by
  unfold PySem.W.kitOne
  by_cases q : (Value.ref D == Value.ref C) = true
  · rw [if_pos q]
    have e : D = C := Value.ref.inj (beq_iff_eq.mp q)
    subst e
    rw [h] at hs
    exact hs.symm
  · rw [if_neg q]
    obtain ⟨cd, hc, _⟩ := PySem.W.any_some hd
    show (if ((PySem.W.clsIn K C).isSome && PySem.W.typeIn K (.ref C) == some (.type "type")) = true then PySem.W.subIn K (.ref D) (.ref C) else none) = some b
    rw [hc, ht]
    exact h
theorem kit_ve {K : PySem.W.Frag} {D : Addr} (h : PySem.W.subIn K (.ref D) (.type "ValueError") = some true) : PySem.W.kitOne K (.ref D) (.type "ValueError") = some true := by
  unfold PySem.W.kitOne
  rw [if_neg (by simp)]
  show (if PySem.W.kitMeta "ValueError" = true then PySem.W.subIn K (.ref D) (.type "ValueError") else none) = some true
  rw [if_pos (by decide +kernel)]
  exact h
/-- what is asked of the object that is handled -/
structure PinE (X : Cx) (D : Addr) (p : Addr × Obj) : Prop where
  mem : p ∈ X.pn
  cls : ExcC X.K D
  zc : Zc (.ref D) none p.2
  fld : ∃ vs, p.2.data = .fields vs
theorem PinE.inst {X : Cx} {D : Addr} {p : Addr × Obj} (E : PinE X D p) {pins : List (Addr × Obj)} {σ : L2.St} {H : Hp} {s : Shared} (I : Inv X pins σ H s) : PySem.W.InstAt s.heap p.1 p.2 D none := by
  have hget := (I.pin p (List.mem_append_left _ E.mem)).1
  obtain ⟨vs, hv⟩ := E.fld
  have hz := E.zc
  obtain ⟨a, oe⟩ := p
  obtain ⟨oc, od, oda, osl⟩ := oe
  obtain ⟨h1, h2⟩ := hz
  dsimp only at h1 h2 hv hget
  subst h1 h2 hv
  exact ⟨hget, rfl, rfl, trivial⟩
theorem call_isE1 {X : Cx} {D : Addr} {p : Addr × Obj} (P : PinE X D p) : CallR X (.builtin "isinstance") (rIsE X.K D p.1) := by
  intro pins s σ H xs us Q I r h
  obtain ⟨c, cv, b, rfl, hcv, e, q⟩ := h
  obtain ⟨u1, u2, rfl, r1, r2⟩ := vals2 r
  cases (show u1 = Value.ref p.1 from r1)
  have ec := hcv _ r2
  subst ec
  have C := P.cls
  exact PySem.W.kia_one (PySem.W.handS_kitx_exc C.hg C.hk C.hs C.hd C.ha C.hn C.ht C.hm) I.kIn (P.inst I) e (fun z => nomatch z) fun tk => ⟨.bl b, H, I.kept (t' := tk) fun _ _ z => z, rfl, q⟩
def rIsET (K : PySem.W.Frag) (D a : Addr) : List V → Hp → VK → Prop := fun xs H Q => ∃ (tp : Addr) (cs : List V) (us : List Value) (b : Bool), xs = [.ref a, .ref tp] ∧ H tp = some (.tup cs) ∧ Paired ClsV cs us ∧ PySem.W.kitAny K (.ref D) us = some b ∧ Q (.bl b) H
theorem call_isET {X : Cx} {D : Addr} {p : Addr × Obj} (P : PinE X D p) : CallR X (.builtin "isinstance") (rIsET X.K D p.1) := by
  intro pins s σ H xs us Q I r h
  obtain ⟨tp, cs, ws, b, rfl, hT, k, e, q⟩ := h
  obtain ⟨u1, u2, rfl, r1, r2⟩ := vals2 r
  cases (show u1 = Value.ref p.1 from r1)
  cases (show u2 = Value.ref tp from r2)
  obtain ⟨_, its, rv, o, h1, h2, n, h3⟩ := (show ObjOk X.prog X.w H s.heap tp (.tup cs) from I.hok tp _ hT)
  have e3 := ClsV.all k rv
  subst e3
  obtain ⟨oc, od, dt, sl⟩ := o
  dsimp only at h2 h3
  subst h2 h3
  have C := P.cls
  exact PySem.W.kia_tup (PySem.W.handS_kitx_exc C.hg C.hk C.hs C.hd C.ha C.hn C.ht C.hm) I.kIn (P.inst I) h1 e (fun z => nomatch z) fun tk => ⟨.bl b, H, I.tok tk, rfl, q⟩
/-- the error in slot i, asked: b -/
def tIsE (i : Nat) (a : Addr) (b : Bool) : TE := fun σ H Q => σ[i]? = some (some (.ref a)) ∧ ∀ H', Sub H H' → Q (.bl b) H'
section
variable {X : Cx} {D C : Addr} {p : Addr × Obj} {b : Bool} {i : Nat} {n x : Str} {p1 p2 p3 pos : Pos} {en : Expr}
theorem pe_isE (P : PinE X D p) (kb : PySem.W.kitOne X.K (.ref D) (.ref C) = some b) (hg : Gl X "isinstance") (hmi : X.mg "isinstance" = none) (hn : PE X en (tVar i)) (hgx : Gl X x) (hmx : X.mg x = some (.ref C)) (hdb : (x == ("__debug__" : Str)) = false := by decide)
    (he : starEach [en, .Name x p3] X.env = (false, eval en X.env) :: starEach [.Name x p3] X.env := by rfl) (he2 : starEach [.Name x p3] X.env = (false, eval (.Name x p3) X.env) :: starEach [] X.env := by rfl) (hpl : (backTo pos (starEach [.Name x p3] X.env)).any (·.1) = false := by rfl) :
    PE X (.Call (.Name "isinstance" p1) [en, .Name x p3] [] pos) (tIsE i p.1 b) :=
  PE.conv (pe_callB (call_isE1 P) hg hmi boot_isinstance (pa_cons hn (pa_cons (pe_glob (v := .ref C) hgx hmx rfl hdb) pa_nil he2) he) (by decide) (by decide) he hpl) fun σ H Q ⟨e, q⟩ => ⟨_, e, .ref C, .ref C, b, rfl, fun u r => r, kb, q H (Sub.refl H)⟩
theorem pe_isEB {T : String} (P : PinE X D p) (kb : PySem.W.kitOne X.K (.ref D) (.type T) = some b) (hg : Gl X "isinstance") (hmi : X.mg "isinstance" = none) (hn : PE X en (tVar i)) (hgx : Gl X x) (hmx : X.mg x = none) (hv : bootBuiltins x = some (.type T)) (hxn : x ≠ "__name__" := by decide) (hdb : (x == ("__debug__" : Str)) = false := by decide)
    (he : starEach [en, .Name x p3] X.env = (false, eval en X.env) :: starEach [.Name x p3] X.env := by rfl) (he2 : starEach [.Name x p3] X.env = (false, eval (.Name x p3) X.env) :: starEach [] X.env := by rfl) (hpl : (backTo pos (starEach [.Name x p3] X.env)).any (·.1) = false := by rfl) :
    PE X (.Call (.Name "isinstance" p1) [en, .Name x p3] [] pos) (tIsE i p.1 b) :=
  PE.conv (pe_callB (call_isE1 P) hg hmi boot_isinstance (pa_cons hn (pa_cons (pe_bltn (v := .ty T) hgx hmx hv rfl hxn hdb) pa_nil he2) he) (by decide) (by decide) he hpl) fun σ H Q ⟨e, q⟩ => ⟨_, e, .ty T, .type T, b, rfl, fun u r => r, kb, q H (Sub.refl H)⟩
/-- names of own classes, one after another -/
def tCs (vs : List V) : L2.TA := fun _ H Q => Q vs H
theorem pa_cs0 : PA X [] (tCs []) := PA.conv pa_nil fun _ _ _ h => h
theorem pa_cs {es : List Expr} {vs : List V} (hgx : Gl X x) (hmx : X.mg x = some (.ref C)) (h : PA X es (tCs vs)) (hdb : (x == ("__debug__" : Str)) = false := by decide) (he : starEach (.Name x p3 :: es) X.env = (false, eval (.Name x p3) X.env) :: starEach es X.env := by rfl) : PA X (.Name x p3 :: es) (tCs (.ref C :: vs)) :=
  PA.conv (pa_cons (pe_glob (v := .ref C) hgx hmx rfl hdb) h he) fun _ _ _ h => h
theorem pe_isET {m3 : Nat} {es : List Expr} {vs : List V} {us : List Value} (P : PinE X D p) (kb : PySem.W.kitAny X.K (.ref D) us = some b) (hp : Paired ClsV vs us) (hl : vs.length ≤ 1000) (hg : Gl X "isinstance") (hmi : X.mg "isinstance" = none) (hn : PE X en (tVar i)) (hes : PA X es (tCs vs))
    (he : starEach [en, .Tuple es m3 p3] X.env = (false, eval en X.env) :: starEach [.Tuple es m3 p3] X.env := by rfl) (he2 : starEach [.Tuple es m3 p3] X.env = (false, eval (.Tuple es m3 p3) X.env) :: starEach [] X.env := by rfl) (hpl : (backTo pos (starEach [.Tuple es m3 p3] X.env)).any (·.1) = false := by rfl) :
    PE X (.Call (.Name "isinstance" p1) [en, .Tuple es m3 p3] [] pos) (tIsE i p.1 b) :=
  PE.conv (pe_callB (call_isET P) hg hmi boot_isinstance (pa_cons hn (pa_cons (pe_tup hes) pa_nil he2) he) (by decide) (by decide) he hpl) fun σ H Q ⟨e, q⟩ => ⟨_, e, Nat.le_trans hl (by decide), fun q' hq => ⟨q', vs, us, b, rfl, upd_same, hp, kb, q _ (Sub.new hq)⟩⟩
theorem kit_no {K : PySem.W.Frag} {t c : Value} {cs : List Value} (h : PySem.W.kitOne K t c = some false) (hr : PySem.W.kitAny K t cs = some false) : PySem.W.kitAny K t (c :: cs) = some false := by
  unfold PySem.W.kitAny
  rw [h]
  exact hr
end
/-- a suite for one class alone -/
theorem pss_for {X : Cx} {sts : List Stmt} {cls c : Value} {d : Option Addr} {t : TS} (h : cls = c → d = none → PSs X sts t) : PSs X sts (fun D σ H => (cls = c ∧ d = none) ∧ t D σ H) :=
  ⟨fun pins s σ H D I q => (h q.1.1 q.1.2).run pins s σ H D I q.2⟩
/-- x = isinstance(e, (..)); return isinstance(e, B) and isinstance(e, V) and not x -/
theorem pss_asked {X : Cx} {s1 : Stmt} {i j : Nat} {a : Addr} {b1 b2 b3 : Bool} {e2 e3 e4 : Expr} (hij : i ≠ j) (h1 : PS X s1 (tAsg (tIsE i a b1) (gName j))) (h2 : PE X e2 (tIsE i a b2)) (h3 : PE X e3 (tIsE i a b3)) (h4 : PE X e4 (tVar j)) {pn pb pr : Pos} :
    PSs X [s1, .Return (some (.BoolOp .And [e2, e3, .UnaryOp .Not e4 pn] pb)) pr] (fun D σ H => (σ[i]? = some (some (.ref a)) ∧ j < σ.length) ∧ ∀ H', Sub H H' → D.rt (.bl (b2 && (b3 && !b1))) H') :=
  PSs.conv (pss_cons h1 (pss_one (ps_ret (pe_and h2 (pe_and h3 (pe_one (pe_not h4))))))) fun D σ H ⟨⟨e, hj⟩, q⟩ => ⟨e, fun H1 k1 => by
    have e' : (σ.set j (some (V.bl b1)))[i]? = some (some (.ref a)) := by rw [List.getElem?_set_ne (fun z => hij z.symm)]; exact e
    have ej : (σ.set j (some (V.bl b1)))[j]? = some (some (.bl b1)) := by rw [List.getElem?_set_self hj]
    refine ⟨e', fun H2 k2 => ⟨b2, rfl, ?_⟩⟩
    cases b2 with
    | false =>
      rw [if_neg Bool.false_ne_true]
      exact q H2 (k1.trans k2)
    | true =>
      rw [if_pos rfl]
      refine ⟨e', fun H3 k3 => ⟨b3, rfl, ?_⟩⟩
      cases b3 with
      | false =>
        rw [if_neg Bool.false_ne_true]
        exact q H3 (k1.trans (k2.trans k3))
      | true =>
        rw [if_pos rfl]
        exact ⟨_, ej, b1, rfl, q H3 (k1.trans (k2.trans k3))⟩⟩

/-! ### xs.index(x) -/
def ixOf {α : Type} [DecidableEq α] (l : List α) (x : α) : Option Int := (l.findIdx? fun y => decide (y = x)).map fun (j : Nat) => (j : Int)
section
variable {X : Cx} {K : PySem.W.Frag} {W : Hp → String → Prop} {ρ : Type} {sl : ρ → List Slot} {ms : List Mode} {a b e : Expr} {pos apos : Pos} {ka kb : Mode} {α β γ : Type} [TA : PyTy α] [TB : PyTy β] [TC : PyTy γ]
theorem pv_bm1 {T : String} {r : V → List V → Hp → VK → Prop} {t : R2} {op : α → β → Option γ} {k : Nat} {f : ρ → M α} {g : ρ → M β} (hp : Op2 K t op k) (ht : ∀ x y H Q, t x y H Q → r x [y] H Q) (hT : ∀ {H v a}, TA.rep K 0 H H v a [] → tyV K T v H)
    (h : PE X e (tBM K T r (tP K W sl ms f ka) (tCons (tP K W sl ms g kb) tNil))) (hka : ka ≠ .un := by decide) (hkb : kb ≠ .un := by decide) : PE X e (tP K W sl ms (e2 op f g) (lv k)) :=
  PE.conv h fun σ H Q ⟨r, S, hs, hv, he⟩ => ⟨r, S, hs, hv, ends_mono (ends_bind he) (fun x ex q v S1 H1 F1 x1 g1 => ⟨hT (g1.look x1.sh hka), r, S1, x1.sh, hv.mono x1.ss x1.hh, ends_mono (ends_bind q) (fun y ey q u S2 H2 F2 x2 g2 => by
    obtain ⟨z, ez, q⟩ := up_ends q
    have g1' := g1.mono x2.ss x2.hh g1.here
    have xx := x1.trans x2 g1.here
    refine ht _ _ _ _ (hp H2 v u _ _ z Q (g1'.look xx.sh hka) (g2.look xx.sh hkb) ez fun w' H3 hn => ?_)
    have x0 := (xx.share (F := F2 ++ F1) fun p hp => (List.mem_append.mp hp).elim (g2.here p) (g1'.here p))
    obtain ⟨F, x3, g3⟩ := hn.got x0.sh
    refine q w' _ H3 F ?_ g3
    have := x0.trans x3 (fun p hp => nomatch hp)
    rw [List.append_nil] at this
    exact this) fun c q H' h => q H' (x1.hh.trans h)⟩) fun c q => q⟩
theorem tyV_list {H : Hp} {v : V} {l : List α} (h : (instList (T := TA)).rep K 0 H H v l []) : tyV K "list" v H := by
  obtain ⟨p, xs, F', e, n, z, r⟩ := h
  rw [e]
  exact .inl ⟨rfl, xs, .inl (.inl n.1)⟩
def rIx1 (K : PySem.W.Frag) : R2 := fun x y H Q => ∃ (a : Addr) (ys : List V) (j : Nat) (z : V), x = V.ref a ∧ SqL K H a ys ∧ flatV y = true ∧ ys.all flatV = true ∧ ys[j]? = some z ∧ eqV z y = true ∧ (∀ (m : Nat) (z' : V), m < j → ys[m]? = some z' → eqV z' y = false) ∧ Q (.int (j : Nat)) H
theorem o_index [E : ScalE α] : Op2 K (rIx1 K) (ixOf (α := α)) 0 := fun H x y a b c Q ra rb e q => by
  obtain ⟨p, e1, n, z⟩ := rep_list ra
  obtain ⟨j, ej, ec⟩ := Option.map_eq_some_iff.mp (show (a.findIdx? fun y => decide (y = b)).map (fun (j : Nat) => (j : Int)) = some c from e)
  subst ec
  have ey := rep_scal rb
  subst ey
  obtain ⟨hj, h1, h2⟩ := List.findIdx?_eq_some_iff_getElem.mp ej
  refine ⟨p, a.map E.val, j, E.val a[j], e1, .inl (.inl n), E.fl b, ?_, by rw [List.getElem?_map, List.getElem?_eq_getElem hj]; rfl, by rw [E.eqv]; exact h1, fun m z' hm hz => ?_, q _ H (New.scal (α := Int))⟩
  · rw [List.all_eq_true]
    intro v hv
    obtain ⟨w, _, rfl⟩ := List.mem_map.mp hv
    exact E.fl w
  · rw [List.getElem?_map] at hz
    obtain ⟨w, hw, rfl⟩ := Option.map_eq_some_iff.mp hz
    rw [E.eqv]
    obtain ⟨hm', ew⟩ := List.getElem?_eq_some_iff.mp hw
    have := h2 m hm
    rw [← ew]
    cases q : decide (a[m] = b) with
    | false => rfl
    | true => exact absurd q this
theorem pv_index [E : ScalE α] {f : ρ → M (List α)} {g : ρ → M α} (ha : PE X a (tP X.K W sl ms f ka)) (hb : PE X b (tP X.K W sl ms g kb)) (hka : ka ≠ .un := by decide) (hkb : kb ≠ .un := by decide)
    (hbase : attributeBase a "index" X.env (eval a X.env) = eval a X.env := by rfl)
    (hfew : ((backTo pos (starEach [b] X.env)).all (fun x => !x.1) && (backToKw pos (keywordEach [] X.env)).all (fun x => x.1.isSome) && decide ([b].length + ([] : List Keyword).length + (if ([] : List Keyword).isEmpty then 0 else 1) < 30)) = true := by rfl)
    (hline : (apos.endLine == pos.line) = true := by rfl) (hs : starEach [b] X.env = (false, eval b X.env) :: starEach [] X.env := by rfl) (hpl : (backTo pos (starEach [] X.env)).any (·.1) = false := by rfl) :
    PE X (.Call (.Attribute a "index" apos) [b] [] pos) (tP X.K W sl ms (e2 ixOf f g) (lv 0)) :=
  pv_bm1 o_index (fun x y H Q ⟨p, ys, j, z, h1, h2, h3, h4, h5, h6, h7, q⟩ => ⟨p, ys, y, j, z, h1, rfl, h2, h3, h4, h5, h6, h7, q⟩) tyV_list (pe_bm PySem.F.plainAttrs_list PySem.F.slot_list_index PySem.F.type_list_index mt_index ha (pa_cons hb pa_nil hs) hbase hfew hline hs hpl) hka hkb
end
end VL
set_option maxHeartbeats 2000000
namespace VL
universe u
open PySem PySem.Spec PyProof.Rows L2
open L2H (RoomH Hot1 PinOk cxH inv_startH)

/-! ### a def that is handed the error that is handled -/
structure FnW (P : Program) (w : World) (K : PySem.W.Frag) (mg : Str → Option Value) (base : Heap) (CX : CXT) (k : Nat) (f : Addr) (fd : FuncData) (ps : List Str) (sp : Addr × Obj → Sp) : Prop where
  len : ∀ p vs H Q E, sp p vs H Q E → vs.length = ps.length
  run : ∀ (A : Around) (outer : List PySem.Env) (s : Shared) (H : Hp) (args : Args) (us : List Value) (vs : List V) (Q : VK) (E : XK) (p : Addr × Obj),
    RoomH k A → Hot1 A p → PinOk outer H s p → Env0 P w K mg base A outer s H → BindsTo s fd args (ps.zip us) → Vals vs us →
    sp p vs H Q E → codeAny (model P w) A (.call (.ref f) args) (CR CX outer P w H s Q E) s
theorem okW {CX : CXT} {P : Program} {w : World} {K : PySem.W.Frag} {mg : Str → Option Value} {base : Heap} {x qual : Str} {st : Stmt} {f : Addr} {fd : FuncData} {N ps : List Str} {k : Nat} {sp : Addr × Obj → Sp} (F : Fun K x qual st f fd) (S : FnScope N ps (defScope st))
    (hlen : ∀ p vs H Q E, sp p vs H Q E → vs.length = ps.length)
    (hbody : ∀ (cdv : Value) (A : Around) (outer : List PySem.Env) (s : Shared) (H : Hp) (vs : List V) (Q : VK) (E : XK) (p : Addr × Obj), Hot1 A p → sp p vs H Q E →
      ∃ t, PSs (cxH CX P w K mg base N qual (defScope st) f cdv A outer s H E p) (defBody st) t ∧ t { nx := fun _ H' => Q .non H', rt := Q } (L2.start N vs) H) :
    FnW P w K mg base CX (k + 1) f fd ps sp := by
  obtain ⟨_, _, _, _, _, _, cdv, _, _, rfl, lk, hcd⟩ := F.ex
  refine ⟨hlen, fun A outer s0 H args us vs Q E p room hot pin e0 bnd rv hsp => ?_⟩
  have nvs := hlen p _ _ _ _ hsp
  have kin : K.In s0.heap := e0.mod.kin.keeps fun b o e => (e0.bs b o e).1
  have nolim : s0.heap.NoLimit := e0.mod.nolimit.keeps fun b o e => (e0.bs b o e).1
  have kinds : ∀ y ∈ ps.zip us, (defScope st).names.lookup y.1 = some .local ∨ ((defScope st).names.lookup y.1 = some .cell ∧ ((cellsFrom (s0.heap.objs.size + 1) (defScope st).names []).lookup y.1).isSome = true) := by
    rintro ⟨n, v⟩ hy
    rcases S.par n (List.of_mem_zip hy).1 with q | q
    · exact .inl q
    · exact .inr ⟨q, PySem.W.cellsFrom_some _ _ _ (.inl q)⟩
  refine codeAny_call_function room.depth (kin _ _ lk) rfl S.co S.gen rfl (PySem.W.codeRec_of kin hcd) (bnd _ _ _ _ ?_)
  refine wpAny_newFunctionEnv_cells S.kind kinds fun env he s1 ic => ?_
  subst he
  refine ⟨nolim.keeps ic.toInCall.keep, codeAny_func ?_⟩
  obtain ⟨t, ht, hq⟩ := hbody cdv A outer s0 H vs Q E p hot hsp
  have I0 : Inv (cxH CX P w K mg base N qual (defScope st) f cdv A outer s0 H E p) [] (L2.start N vs) H s1 := inv_startH S pin e0 nvs rv ic
  refine wpAny_mono (ht.run [] s1 (L2.start N vs) H _ I0 hq) (fun fl s2 hs => ?_) fun _ _ z => z
  have fin : ∀ {σ' : L2.St} {H' : Hp} {v : V} {u : Value}, Inv (cxH CX P w K mg base N qual (defScope st) f cdv A outer s0 H E p) [] σ' H' s2 → RelV v u → Q v H' → CE outer P w H s0 Q u s2 :=
    fun {σ' H' v u} J rv q => ⟨v, H', J.os, J.bare, J.base, J.hok, rv, q⟩
  cases fl with
  | next => exact let ⟨σ', H', J, q⟩ := hs; fin (v := V.non) (u := Value.none) J rfl q
  | ret u => exact let ⟨v, σ', H', J, rv, q⟩ := hs; fin J rv q
  | brk => exact let ⟨_, _, _, q⟩ := hs; False.elim q
  | cont => exact let ⟨_, _, _, q⟩ := hs; False.elim q
def tCallW (sp : Addr × Obj → Sp) (p : Addr × Obj) (t : L2.TA) : TE := fun σ H Q => t σ H fun vs H1 => sp p vs H1 Q (fun _ _ _ => False)
theorem pe_callW {X : Cx} {k : Nat} {f : Addr} {fd : FuncData} {ps : List Str} {sp : Addr × Obj → Sp} {x : Str} {q pos : Pos} {e : Expr} {es : List Expr} {t : L2.TA} {p : Addr × Obj} (F : FnW X.prog X.w X.K X.mg X.base CX0 k f fd ps sp) (hr : RoomH k X.A) (hot : Hot1 X.A p) (hp : p ∈ X.pn) (hg : Gl X x) (hm : X.mg x = some (.ref f)) (hk : PySem.W.keepIn X.K (.ref f) = true) (hb : Binds X.K fd ps [])
    (ha : PA X (e :: es) t) (hdb : (x == ("__debug__" : Str)) = false := by decide) (he : starEach (e :: es) X.env = (false, eval e X.env) :: starEach es X.env := by rfl) (hpl : (backTo pos (starEach es X.env)).any (·.1) = false := by rfl) :
    PE X (.Call (.Name x q) (e :: es) [] pos) (tCallW sp p t) := by
  refine ⟨fun pins s0 σ H Q I h => ?_⟩
  refine wpAny_Call_Name_kw (ld_glob I hg hm ?_ hdb)
  refine PySem.W.callWith_K (h₀ := X.base) I.ok.mod.kin hk (thn (ha.run pos pins s0 σ H _ I h) fun us s1 ⟨vs, H1, I1, r, hsp⟩ => ⟨I1.kIn, ?_⟩) he hpl
  have nus : us.length = ps.length := by rw [← r.length]; exact F.len p _ _ _ _ hsp
  have bnd := hb s1 us I1.kIn (by rw [List.append_nil]; exact nus)
  rw [List.append_nil] at bnd
  have P1 := I1.pin p (List.mem_append_left _ hp)
  have pin : PinOk X.stack H1 s1 p := ⟨P1.1, P1.2.1, fun hm => (List.mem_cons.mp (I1.stkSub p.1 hm)).elim P1.2.2.1 P1.2.2.2.1, P1.2.2.2.2⟩
  refine wpAny_call (codeAny_mono (F.run X.A X.stack s1 H1 ⟨us, []⟩ us vs Q (fun _ _ _ => False) p hr hot pin I1.env0 bnd r hsp) fun res s2 hq => ?_)
  cases res with
  | error _ => exact False.elim hq
  | ok fl => cases fl with
    | ret u => exact I1.after hq
    | next => exact False.elim hq
    | brk => exact False.elim hq
    | cont => exact False.elim hq
/-! the value layer in such a def: the error is a thing without objects -/
def isEv (pa : Addr) (b : Bool) (v : FnV) : Option Bool := if v.a = pa then some b else none
section
variable {X : Cx} {W : Hp → String → Prop} {ρ : Type} {sl : ρ → List Slot} {ms : List Mode} {i : Nat} {n x : Str} {p1 p2 p3 pos : Pos} {D C : Addr} {p : Addr × Obj} {b : Bool}
theorem isE_read {e : Expr} {get : ρ → FnV} (h : PE X e (tIsE i p.1 b)) (hm : ms[i]? = some (lv 0)) (hg : ∀ r, (sl r)[i]? = some ⟨get r⟩) : PE X e (tP X.K W sl ms (e1 (isEv p.1 b) (eV get)) (lv 0)) :=
  PE.conv h fun σ H Q ⟨r, S, hs, hv, he⟩ => by
    obtain ⟨v, ev, x, e2, rx⟩ := hv.get hm (hg r)
    subst e2
    have ex : x = .ref (get r).a := rep_scal rx
    subst ex
    have he' : ends (up (isEv p.1 b (get r))) (fun a => ∀ (v : V) (S' H' : Hp) (F : List Addr), Ext S H S' H' F → got X.K (lv 0) a S' H' v F → Q v H') fun c => ∀ (H' : Hp), Sub H H' → W H' c := he
    obtain ⟨z, ez, q⟩ := up_ends he'
    unfold isEv at ez
    obtain ⟨c, ec⟩ := ite_some ez
    subst ec
    rw [c] at ev
    exact ⟨ev, fun H' h' => q (.bl z) S H' [] ⟨h', Sub.refl S, hs.trans h', fun p q => .inl q, fun p hp => (nomatch hp), List.nodup_nil⟩ (Scal.scal.mpr ⟨rfl, rfl⟩)⟩
end
/-! xs.count(x) of truths -/
def rCntF (K : PySem.W.Frag) : R2 := fun x y H Q => ∃ (a : Addr) (ys : List V), x = .ref a ∧ SqL K H a ys ∧ flatV y = true ∧ ys.all flatV = true ∧ Q (.int ((ys.countP fun z => eqV z y) : Nat)) H
theorem count_eqU {y : V} : ∀ {ys : List V} {us : List Value}, Vals ys us → ys.all flatV = true → us.countP (eqU y) = ys.countP fun z => eqV z y
  | _, _, .nil, _ => rfl
  | z :: ys, u :: us, .cons r t, f => by
    rw [List.all_cons, Bool.and_eq_true] at f
    rw [List.countP_cons, List.countP_cons, count_eqU t f.2, eqU_of r f.1]
theorem mt_countF {X : Cx} : MtR X "list.count" (fun x xs H Q => ∃ y, xs = [y] ∧ rCntF X.K x y H Q) := by
  intro pins s σ H x xs v us Q I rx rxs h
  obtain ⟨y, rfl, a, ys, rfl, hs, fy, fys, q⟩ := h
  cases rx
  obtain ⟨uy, rfl, ry⟩ := rxs.one
  obtain ⟨its, rv, ⟨⟨cls, dd, data, sl⟩, n, ho, hc, hdn, hd⟩, hlen⟩ := I.list hs
  simp only at hc hd
  subst hc hd
  refine call_meets PySem.F.slot_list_count ⟨_, ho, rfl⟩ PySem.F.entry_list_count (PySem.F.args_list_count_2 _ _)
    (SeqAt.list_countAt a its.toArray n dd sl uy (eqU y)) ⟨ho, fun u' hu' => mem_eqAt ry fy rv fys u' (by simpa using hu'), ?_⟩
  refine ⟨.int ((ys.countP fun z => eqV z y) : Nat), H, I.tok _, ⟨s.toks, ?_⟩, q⟩
  rw [show its.toArray.toList = its from rfl, count_eqU rv fys]
def cntOf {α : Type} [DecidableEq α] (l : List α) (x : α) : Option Int := some ((l.countP fun y => decide (y = x) : Nat) : Int)
theorem o_count {K : PySem.W.Frag} {α : Type} [TA : PyTy α] [E : ScalE α] : Op2 K (rCntF K) (cntOf (α := α)) 0 := fun H x y a b c Q ra rb e q => by
  obtain ⟨p, e1, n, z⟩ := rep_list ra
  have ey := rep_scal rb
  subst ey
  cases e
  refine ⟨p, a.map E.val, e1, .inl (.inl n), E.fl b, ?_, ?_⟩
  · rw [List.all_eq_true]
    intro v hv
    obtain ⟨w, _, rfl⟩ := List.mem_map.mp hv
    exact E.fl w
  · have ec : (a.map E.val).countP (fun z => eqV z (E.val b)) = a.countP fun y => decide (y = b) := by
      rw [List.countP_map]
      refine List.countP_congr fun w _ => ?_
      show eqV (E.val w) (E.val b) = true ↔ _
      rw [E.eqv]
    rw [ec]
    exact q _ H (New.scal (α := Int))
section
variable {X : Cx} {W : Hp → String → Prop} {ρ : Type} {sl : ρ → List Slot} {ms : List Mode} {a b : Expr} {pos apos : Pos} {ka kb : Mode} {α : Type} [TA : PyTy α]
theorem pv_count [E : ScalE α] {f : ρ → M (List α)} {g : ρ → M α} (ha : PE X a (tP X.K W sl ms f ka)) (hb : PE X b (tP X.K W sl ms g kb)) (hka : ka ≠ .un := by decide) (hkb : kb ≠ .un := by decide)
    (hbase : attributeBase a "count" X.env (eval a X.env) = eval a X.env := by rfl)
    (hfew : ((backTo pos (starEach [b] X.env)).all (fun x => !x.1) && (backToKw pos (keywordEach [] X.env)).all (fun x => x.1.isSome) && decide ([b].length + ([] : List Keyword).length + (if ([] : List Keyword).isEmpty then 0 else 1) < 30)) = true := by rfl)
    (hline : (apos.endLine == pos.line) = true := by rfl) (hs : starEach [b] X.env = (false, eval b X.env) :: starEach [] X.env := by rfl) (hpl : (backTo pos (starEach [] X.env)).any (·.1) = false := by rfl) :
    PE X (.Call (.Attribute a "count" apos) [b] [] pos) (tP X.K W sl ms (e2 cntOf f g) (lv 0)) :=
  pv_bm1 o_count (fun x y H Q h => ⟨y, rfl, h⟩) tyV_list (pe_bm PySem.F.plainAttrs_list PySem.F.slot_list_count PySem.F.type_list_count mt_countF ha (pa_cons hb pa_nil hs) hbase hfew hline hs hpl) hka hkb
end
/-- the promise of a def that names the error's class -/
def spW (C0 : Addr) (nm : Str) (p : Addr × Obj) : Sp := fun vs H Q _ => (vs = [V.ref p.1] ∧ Zc (.ref C0) none p.2 ∧ ∃ fs, p.2.data = .fields fs) ∧ ∀ H', Sub H H' → Q (.str nm) H'
theorem ok_defW {P : Program} {w : World} {K : PySem.W.Frag} {mg : Str → Option Value} {base : Heap} {x qual y : Str} {st : Stmt} {f C0 : Addr} {fd : FuncData} {N : List Str} {k : Nat} {nm : Str} {ρ : Type} {sl : ρ → List Slot} {ms' rm : List Mode} {g : Addr → ρ → M (Fl ρ Str)} {ini : FnV × Unit → ρ} (F : Fun K x qual st f fd) (S : FnScope N [y] (defScope st))
    (hini : ∀ a : FnV × Unit, ∃ rest, sl (ini a) = ArgTy.al a ++ rest ∧ rest.length = N.length - 1) (hres : ∀ pa, runR (g pa) (ini (⟨pa⟩, ())) = .ok nm)
    (hbody : ∀ (cdv : Value) (A : Around) (outer : List PySem.Env) (s : Shared) (H : Hp) (E : XK) (H0 S0 : Hp) (vs : List V) (p : Addr × Obj), Zc (.ref C0) none p.2 → (∃ fs, p.2.data = .fields fs) →
      PSs (cxH CX0 P w K mg base N qual (defScope st) f cdv A outer s H E p) (defBody st) (tS ⟨K, H0, S0, [], fun i => vs[i]?, noW⟩ sl (List.replicate 1 (lv 0) ++ List.replicate (N.length - 1) .un) ms' [] rm 0 (g p.1))) :
    FnW P w K mg base CX0 (k + 1) f fd [y] (spW C0 nm) :=
  okW F S (fun p vs H Q E h => by rw [h.1.1]; rfl) fun cdv A outer s H vs Q E p hot ⟨⟨e, hz, hf⟩, q⟩ => by
    subst e
    refine ⟨_, hbody cdv A outer s H E H H [V.ref p.1] p hz hf, ini (⟨p.1⟩, ()), [], start_def (C := ⟨K, H, H, [], fun i => [V.ref p.1][i]?, noW⟩) (vs := [V.ref p.1]) (N := N) (ps := [y]) (sl := sl) (ini := ini) (A := FnV × Unit) (a := (⟨p.1⟩, ())) rfl rfl rfl rfl rfl (hini _) (Sub.refl H) ⟨⟨.ref p.1, rfl, Scal.scal.mpr ⟨rfl, rfl⟩⟩, trivial⟩, ?_⟩
    have hr := hres p.1
    cases eg : g p.1 (ini (⟨p.1⟩, ())) with
    | error er =>
      unfold runR at hr
      rw [eg] at hr
      cases hr
    | ok o =>
      unfold runR at hr
      rw [eg] at hr
      cases o with
      | nx r' => cases hr
      | bk r' => cases hr
      | ct r' => cases hr
      | rt c r' =>
        cases hr
        exact fun v σ' H' hd => end_def (C := ⟨K, H, H, [], fun i => [V.ref p.1][i]?, _⟩) rfl rfl rfl hd fun v S' H2 F x gt => by
          have ev : v = .str nm := (Scal.scal.mp gt).1
          rw [ev]
          exact q H2 x.hh
/-! all(xs) -/
def allB (l : List Bool) : Option Bool := some (l.all id)
theorem o_all {K : PySem.W.Frag} : Op1 K (rOne (rAll K)) allB 0 := fun H x a c Q ra e q => by
  obtain ⟨p, e1, n, z⟩ := rep_list ra
  cases e
  exact ⟨p, a, by rw [e1], .inl (.inl n), q _ H (New.scal (α := Bool))⟩
end VL
namespace VL
universe u
open PySem PySem.Spec PyProof.Rows L2

/-! ### x[i].append(e), the index may change what is held -/
def fMutIx {ρ R α β : Type} (get : ρ → List (List α)) (set : List (List α) → ρ → ρ) (fi : ρ → M (Int × ρ)) (op : List α → β → Option (List α)) (f : ρ → M β) : ρ → M (Fl ρ R) := fun r => fi r >>= fun ir => fMutP (pIx (pV get set) (fun _ => .ok ir.1)) op f ir.2
section
variable {X : Cx} {C : Ct} {ρ R : Type} [TR : PyTy R] {sl : ρ → List Slot} {ms ms1 lm rm : List Mode} {rk : Nat} {α β : Type} [TA : PyTy α] [TB : PyTy β]
theorem s_mutIx {i k kb : Nat} {io : Option Nat} {get : ρ → List (List α)} {set : List (List α) → ρ → ρ} {t : V → List V → Hp → VK → Prop} {op : List α → β → Option (List α)} {fi : ρ → M (Int × ρ)} {f : ρ → M β} {e : Expr} {pos : Pos} (mo : Mut1 C.K t op k kb)
    (hm : ms[i]? = some (.own (k + 2) io)) (hm1 : ms1[i]? = some (.own (k + 2) io)) (hg : ∀ r, (sl r)[i]? = some ⟨get r⟩) (hset : ∀ a r, sl (set a r) = (sl r).set i ⟨a⟩)
    (h : PE X e (tBM C.K "list" t (tOp (rIxL C.K) (tVar i) (tE C sl ms ms1 fi 0)) (tCons (tP C.K C.W sl (ms1.map downM) f (lv kb)) tNil)))
    (hs : swapsWith e none pos.line X.env = pure false := by rfl) : PS X (.Expr e pos) (tS C (R := R) sl ms ms1 lm rm rk (fMutIx get set fi op f)) :=
  PS.conv (ps_expr h hs) fun D σ H ⟨r, T, hd, he⟩ => by
    obtain ⟨v, ev, hd0⟩ := hd.open hm (hg r)
    obtain ⟨p0, ep⟩ : ∃ p0, v = some (.ref p0) := hd0.fact fun S F ⟨x0, ex0, io0, q0, xs0, F', e0, n0, _, _⟩ => ⟨q0, by rw [ex0, e0]⟩
    subst ep
    refine ⟨.ref p0, ev, r, T, hd, ends_mono (ends_bind he) (fun ir _ q y H1 hd1 => ?_) fun c q => q⟩
    have ey : y = .int ir.1 := rep_scal hd1.look1
    subst ey
    have rc : Rcv C sl ms1 k (tOp (rIxL C.K) (tVar i) (tP C.K C.W sl (ms1.map downM) (fun _ => .ok ir.1) (lv 0))) (pIx (pV get set) (fun _ => .ok ir.1)) := rcv_ix (rcv_var (i := i) (get := get) (set := set) hm1 hg hset) rfl
    have key := rc σ H1 ir.2 T (fun x H2 => tyV C.K "list" x H2 ∧ tCons (tP C.K C.W sl (ms1.map downM) f (lv kb)) tNil σ H2 fun xs H3 => t x xs H3 fun _ H4 => D.nx σ H4) hd1.drop (ends_mono (ends_bind q) (fun lw _ q p H1 s1 hd1 hx rd => ⟨Or.inl ⟨rfl, _, Or.inl (Or.inl hx.choose_spec)⟩, by
      refine look_hd hd1 (ends_mono (ends_bind q) (fun b _ q y H2 s2 hd2 => ?_) fun c q => q)
      obtain ⟨l', el, q⟩ := up_ends (ends_bind q)
      obtain ⟨A, A', L, hd4, fc, back⟩ := rd H2 T _ s2 hd2
      obtain ⟨S, xs, F1, F2, sh, hx0, hz, hr, hb⟩ := fc.here hd4
      exact mo H2 p xs lw.1 y b l' _ hx0 hr.len hz ⟨S, F2, sh, hb⟩ el fun xs' chg hz' => q σ _ (back l' _ (hd4.chg fc hx0 chg hz'))⟩) fun c q => q)
    obtain ⟨v2, ev2, r2, S2, hs2, hv2, q2⟩ := key
    have e2 : v2 = V.ref p0 := by
      have ev3 : some (some v2) = some (some (V.ref p0)) := ev2.symm.trans ev
      cases ev3
      rfl
    subst e2
    exact q2 (.int ir.1) S2 H1 [] (Ext.refl hs2) (Scal.scal.mpr ⟨rfl, rfl⟩)
end

/-! ### xs[a::2] -/
/-- every other one -/
def evs {α : Type} : List α → List α
  | [] => []
  | [a] => [a]
  | a :: _ :: l => a :: evs l
def ods {α : Type} (l : List α) : List α := evs (l.drop 1)
theorem evs_len {α : Type} : ∀ l : List α, (evs l).length ≤ l.length
  | [] => Nat.le_refl _
  | [a] => Nat.le_refl _
  | a :: b :: l => by
    have := evs_len l
    show (evs l).length + 1 ≤ l.length + 1 + 1
    omega
theorem evs_at {α : Type} : ∀ (l : List α) (i : Nat), (evs l)[i]? = l[2 * i]?
  | [], i => by simp [evs]
  | [a], 0 => rfl
  | [a], i + 1 => by
    show ([a] : List α)[i + 1]? = [a][2 * (i + 1)]?
    rw [List.getElem?_eq_none (by simp), List.getElem?_eq_none (by simp; omega)]
  | a :: b :: l, 0 => rfl
  | a :: b :: l, i + 1 => by
    show (evs l)[i]? = (a :: b :: l)[2 * (i + 1)]?
    rw [evs_at l i, show 2 * (i + 1) = 2 * i + 1 + 1 from by omega, List.getElem?_cons_succ, List.getElem?_cons_succ]
theorem evs_reps {α : Type} {r : V → α → List Addr → Prop} : ∀ {vs : List V} {l : List α}, Reps r vs l [] → Reps r (evs vs) (evs l) []
  | [], [], _ => rfl
  | [], _ :: _, h => h.elim
  | _ :: _, [], h => h.elim
  | [v], [a], h => h
  | [v], a :: b :: l, ⟨_, _, _, _, h⟩ => h.elim
  | v :: w :: vs, [a], ⟨_, _, _, _, h⟩ => h.elim
  | v :: w :: vs, a :: b :: l, ⟨F1, F2, e, h1, F3, F4, e2, h2, h3⟩ => by
    obtain ⟨e1, e3⟩ := List.append_eq_nil_iff.mp e.symm
    subst e1 e3
    obtain ⟨e4, e5⟩ := List.append_eq_nil_iff.mp e2.symm
    subst e4 e5
    exact ⟨[], [], rfl, h1, evs_reps h3⟩
theorem nat_evs {α : Type} : Nat1 (α := α) evs evs := ⟨fun _ _ _ h => evs_reps h, evs_len⟩
theorem nat_ods {α : Type} : Nat1 (α := α) ods ods := ⟨fun r vs l h => evs_reps (h.drop 1), fun l => Nat.le_trans (evs_len _) (by rw [List.length_drop]; omega)⟩
theorem fm_congr {α β : Type} {f g : α → Option β} : ∀ {l : List α}, (∀ x ∈ l, f x = g x) → l.filterMap f = l.filterMap g
  | [], _ => rfl
  | a :: l, h => by
    rw [List.filterMap_cons, List.filterMap_cons, h a (List.mem_cons_self ..), fm_congr fun x hx => h x (List.mem_cons_of_mem _ hx)]
theorem evs_pick {α : Type} : ∀ l : List α, (List.range ((l.length + 1) / 2)).filterMap (fun k => l[2 * k]?) = evs l
  | [] => by simp [evs]
  | [a] => by simp [evs, List.range_succ]
  | a :: b :: l => by
    have e : ((a :: b :: l).length + 1) / 2 = (l.length + 1) / 2 + 1 := by
      rw [List.length_cons, List.length_cons]
      omega
    rw [e, List.range_succ_eq_map, List.filterMap_cons, List.filterMap_map]
    show a :: _ = a :: evs l
    congr 1
    rw [← evs_pick l]
    rfl
theorem evs_vals : ∀ {xs : List V} {us : List Value}, Vals xs us → Vals (evs xs) (evs us)
  | _, _, .nil => .nil
  | _, _, .cons h .nil => .cons h .nil
  | _, _, .cons h (.cons _ t) => .cons h (evs_vals t)
theorem ods_vals {xs : List V} {us : List Value} (h : Vals xs us) : Vals (ods xs) (ods us) := by
  cases h with
  | nil => exact .nil
  | cons h t => exact evs_vals t
theorem range2 (a b : Nat) : sliceRange a b 2 = (List.range ((b - a + 1) / 2)).map fun k => a + 2 * k := by
  unfold sliceRange
  by_cases h : (a : Int) < b
  · have e : (((b : Int) - a + 2 - 1) / 2).toNat = (b - a + 1) / 2 := by omega
    simp only [show (2 : Int) > 0 by decide, if_true, h, e]
    apply List.map_congr_left
    intro k _
    omega
  · have e : (b - a + 1) / 2 = 0 := by omega
    simp only [show (2 : Int) > 0 by decide, if_true, h, if_false, e]
    rfl
theorem pick_evs (items : Array Value) : slicePick items none none (some 2) = (evs items.toList).toArray := by
  unfold slicePick
  have e : sliceBounds none none (some 2) items.size = (0, (items.size : Int), 2) := rfl
  rw [e]
  show ((sliceRange ((0 : Nat) : Int) (items.size : Int) 2).filterMap (items[·]?)).toArray = _
  rw [range2, List.filterMap_map, ← evs_pick items.toList]
  congr 1
  rw [Array.length_toList, Nat.sub_zero]
  refine fm_congr fun k _ => ?_
  show items[0 + 2 * k]? = items.toList[2 * k]?
  rw [Nat.zero_add]
  simp
theorem pick_ods (items : Array Value) : slicePick items (some 1) none (some 2) = (ods items.toList).toArray := by
  unfold slicePick
  have e : sliceBounds (some 1) none (some 2) items.size = (max 0 (min 1 (items.size : Int)), (items.size : Int), 2) := rfl
  rw [e]
  show ((sliceRange (max 0 (min 1 (items.size : Int))) (items.size : Int) 2).filterMap (items[·]?)).toArray = _
  have e2 : max 0 (min 1 (items.size : Int)) = ((min 1 items.size : Nat) : Int) := by omega
  rw [e2, range2, List.filterMap_map]
  unfold ods
  rw [← evs_pick (items.toList.drop 1)]
  congr 1
  rw [List.length_drop, Array.length_toList, show items.size - min 1 items.size = items.size - 1 from by omega]
  refine fm_congr fun k hk => ?_
  have hk := List.mem_range.mp hk
  show items[min 1 items.size + 2 * k]? = (items.toList.drop 1)[2 * k]?
  rw [List.getElem?_drop, show min 1 items.size = 1 from by omega]
  simp
section
variable {X : Cx}
def tPick (φ : List V → List V) (K : PySem.W.Frag) (te : TE) : TE := fun σ H Q => te σ H fun x H1 => ∃ a xs, x = .ref a ∧ SqL K H1 a xs ∧ ∀ p, H1 p = none → Q (.ref p) (upd H1 p (.lst (φ xs)))
theorem pe_evsL {e : Expr} {te : TE} {k : Nat} {p1 p3 pos : Pos} (he : PE X e te) : PE X (.Subscript e (.Slice none none (some (.Constant (.int 2) k p1)) p3) pos) (tPick evs X.K te) := by
  refine ⟨fun pins s σ H Q I h => ?_⟩
  refine Subscript_ (thn (he.run pins s σ H _ I h) fun v t1 ⟨x, K1, J1, rx, hx⟩ => ?_)
  obtain ⟨a, xs, ex, hsq, q⟩ := hx
  subst ex
  cases rx
  have hst : PO X (some (.Constant (.int 2) k p1)) (tPart (tC (.int 2))) := po_some pe_int
  refine wpAny_Slice (thn (po_none.run pins t1 σ K1 (fun o K2 => o = none ∧ K2 = K1) J1 ⟨rfl, rfl⟩) fun vl t2 ⟨l, K2, J2, pl, el, e2⟩ => ?_)
  subst el e2
  refine thn (po_none.run pins t2 σ K2 (fun o K3 => o = none ∧ K3 = K2) J2 ⟨rfl, rfl⟩) fun vu t3 ⟨u, K3, J3, pu, eu, e3⟩ => ?_
  subst eu e3
  refine thn (hst.run pins t3 σ K3 (fun o K4 => o = some 2 ∧ K4 = K3) J3 ⟨2, rfl, rfl, rfl⟩) fun vs t4 ⟨o, K4, J4, ps, eo, e4⟩ => ?_
  subst eo e4
  have J5 : Inv X pins σ K4 { t4 with heap := t4.heap.push { cls := .type "slice", data := .fields #[vl, vu, vs] } } := J4.kept (t' := t4.toks) fun b ob q => Heap.get?_push_of_some _ q
  obtain ⟨its, rv, ht, hz⟩ := J5.list hsq
  have nl := rv.length
  show wpAny (model X.prog X.w) X.A (subscriptTail e (.Slice none none (some (.Constant (.int 2) k p1)) p3) (.ref a) (.ref t4.heap.objs.size)) (EP X pins σ Q) X.xe { t4 with heap := t4.heap.push { cls := .type "slice", data := .fields #[vl, vu, vs] } }
  refine tail_any (ops := [.ref a, .ref t4.heap.objs.size]) ht.isList.typeIs (PySem.slot_list_getitem.lookup) ?_ (by with_unfolding_all rfl)
  refine wpAny_getItem_list_slice ht.isList (Heap.IsSliceOf.new _ vl vu vs) pl pu ps (by decide) ?_ (by rw [List.size_toArray]; omega)
  rw [pick_evs]
  refine ⟨.ref _, _, J5.laid (t' := t4.toks) (o := .lst (evs xs)) (fun b ob q => Heap.get?_push_of_some _ q) (Nat.le_refl _) ?_, rfl, q _ (J5.hok.fresh (Nat.le_refl _))⟩
  exact ⟨Nat.le_trans (evs_len _) hz, _, 0, evs_vals rv, Heap.get?_push_size _ rfl⟩
theorem pe_odsL {e : Expr} {te : TE} {k j : Nat} {p1 p2 p3 pos : Pos} (he : PE X e te) : PE X (.Subscript e (.Slice (some (.Constant (.int 1) j p2)) none (some (.Constant (.int 2) k p1)) p3) pos) (tPick ods X.K te) := by
  refine ⟨fun pins s σ H Q I h => ?_⟩
  refine Subscript_ (thn (he.run pins s σ H _ I h) fun v t1 ⟨x, K1, J1, rx, hx⟩ => ?_)
  obtain ⟨a, xs, ex, hsq, q⟩ := hx
  subst ex
  cases rx
  have hlo : PO X (some (.Constant (.int 1) j p2)) (tPart (tC (.int 1))) := po_some pe_int
  have hst : PO X (some (.Constant (.int 2) k p1)) (tPart (tC (.int 2))) := po_some pe_int
  refine wpAny_Slice (thn (hlo.run pins t1 σ K1 (fun o K2 => o = some 1 ∧ K2 = K1) J1 ⟨1, rfl, rfl, rfl⟩) fun vl t2 ⟨l, K2, J2, pl, el, e2⟩ => ?_)
  subst el e2
  refine thn (po_none.run pins t2 σ K2 (fun o K3 => o = none ∧ K3 = K2) J2 ⟨rfl, rfl⟩) fun vu t3 ⟨u, K3, J3, pu, eu, e3⟩ => ?_
  subst eu e3
  refine thn (hst.run pins t3 σ K3 (fun o K4 => o = some 2 ∧ K4 = K3) J3 ⟨2, rfl, rfl, rfl⟩) fun vs t4 ⟨o, K4, J4, ps, eo, e4⟩ => ?_
  subst eo e4
  have J5 : Inv X pins σ K4 { t4 with heap := t4.heap.push { cls := .type "slice", data := .fields #[vl, vu, vs] } } := J4.kept (t' := t4.toks) fun b ob q => Heap.get?_push_of_some _ q
  obtain ⟨its, rv, ht, hz⟩ := J5.list hsq
  have nl := rv.length
  show wpAny (model X.prog X.w) X.A (subscriptTail e (.Slice (some (.Constant (.int 1) j p2)) none (some (.Constant (.int 2) k p1)) p3) (.ref a) (.ref t4.heap.objs.size)) (EP X pins σ Q) X.xe { t4 with heap := t4.heap.push { cls := .type "slice", data := .fields #[vl, vu, vs] } }
  refine tail_any (ops := [.ref a, .ref t4.heap.objs.size]) ht.isList.typeIs (PySem.slot_list_getitem.lookup) ?_ (by with_unfolding_all rfl)
  refine wpAny_getItem_list_slice ht.isList (Heap.IsSliceOf.new _ vl vu vs) pl pu ps (by decide) ?_ (by rw [List.size_toArray]; omega)
  rw [pick_ods]
  refine ⟨.ref _, _, J5.laid (t' := t4.toks) (o := .lst (ods xs)) (fun b ob q => Heap.get?_push_of_some _ q) (Nat.le_refl _) ?_, rfl, q _ (J5.hok.fresh (Nat.le_refl _))⟩
  exact ⟨Nat.le_trans ((nat_ods (α := Int)).2 xs) hz, _, 0, ods_vals rv, Heap.get?_push_size _ rfl⟩
end
section
variable {X : Cx} {W : Hp → String → Prop} {ρ : Type} {sl : ρ → List Slot} {ms : List Mode} {a : Expr} {pos : Pos} {kd : Mode} {α : Type} [TA : PyTy α] [SA : Scal α]
theorem pv_evs {k : Nat} {p1 p3 : Pos} {f : ρ → M (List α)} (ha : PE X a (tP X.K W sl ms f kd)) (hk : kd ≠ .un := by decide) : PE X (.Subscript a (.Slice none none (some (.Constant (.int 2) k p1)) p3) pos) (tP X.K W sl ms (e1 (fun l => some (evs l)) f) (lv 1)) :=
  pv_funS (φV := evs) (φ := evs) nat_evs (PE.conv (pe_evsL ha) fun σ H Q ⟨r, S, hs, hv, q⟩ => ⟨r, S, hs, hv, ends_mono q (fun l el q v S1 H1 F x g => let ⟨a, xs, e, n, k⟩ := q v S1 H1 F x g; ⟨a, xs, e, .inl (.inl n), k⟩) fun c q => q⟩) hk
theorem pv_ods {k j : Nat} {p1 p2 p3 : Pos} {f : ρ → M (List α)} (ha : PE X a (tP X.K W sl ms f kd)) (hk : kd ≠ .un := by decide) : PE X (.Subscript a (.Slice (some (.Constant (.int 1) j p2)) none (some (.Constant (.int 2) k p1)) p3) pos) (tP X.K W sl ms (e1 (fun l => some (ods l)) f) (lv 1)) :=
  pv_funS (φV := ods) (φ := ods) nat_ods (PE.conv (pe_odsL ha) fun σ H Q ⟨r, S, hs, hv, q⟩ => ⟨r, S, hs, hv, ends_mono q (fun l el q v S1 H1 F x g => let ⟨a, xs, e, n, k⟩ := q v S1 H1 F x g; ⟨a, xs, e, .inl (.inl n), k⟩) fun c q => q⟩) hk
end
end VL
namespace VL
/-! ### what a run must show, read off the text -/
section
variable {ρ α β γ δ R A B : Type}
def val (m : M α) (Q : α → Prop) : Prop := match m with
  | .ok a => Q a
  | .error _ => False
def opt (o : Option α) (Q : α → Prop) : Prop := match o with
  | some a => Q a
  | none => False
def wp (m : M (Fl ρ R)) (N : ρ → Prop) (T : R → Prop) (B C : ρ → Prop) : Prop := match m with
  | .ok (.nx r) => N r
  | .ok (.rt a _) => T a
  | .ok (.bk r) => B r
  | .ok (.ct r) => C r
  | .error _ => False
theorem val_eq {m : M α} {a : α} (h : val m (· = a)) : m = .ok a := by
  cases m with
  | ok b => exact congrArg _ h
  | error e => exact h.elim
theorem val_ex {m : M α} {Q : α → Prop} (h : val m Q) : ∃ a, m = .ok a ∧ Q a := by
  cases m with
  | ok b => exact ⟨b, rfl, h⟩
  | error e => exact h.elim
theorem val_mono {m : M α} {P Q : α → Prop} (h : val m P) (f : ∀ a, P a → Q a) : val m Q := by
  cases m with
  | ok b => exact f _ h
  | error e => exact h.elim
theorem wp_mono {m : M (Fl ρ R)} {N N' : ρ → Prop} {T T' : R → Prop} {B B' C C' : ρ → Prop} (h : wp m N T B C) (hN : ∀ r, N r → N' r) (hT : ∀ a, T a → T' a) (hB : ∀ r, B r → B' r) (hC : ∀ r, C r → C' r) : wp m N' T' B' C' := by
  cases m with
  | ok f => cases f with
    | nx r => exact hN _ h
    | rt a r => exact hT _ h
    | bk r => exact hB _ h
    | ct r => exact hC _ h
  | error e => exact h.elim
@[simp] theorem val_ok (a : α) (Q : α → Prop) : val (.ok a) Q = Q a := id rfl
@[simp] theorem val_er (e : Er) (Q : α → Prop) : val (.error e : M α) Q = False := id rfl
@[simp] theorem val_bind (m : M α) (f : α → M β) (Q : β → Prop) : val (m >>= f) Q = val m (fun a => val (f a) Q) := by cases m <;> rfl
@[simp] theorem val_up (o : Option α) (Q : α → Prop) : val (up o) Q = opt o Q := by cases o <;> rfl
@[simp] theorem val_mute (m : M α) (Q : α → Prop) : val (mute m) Q = val m Q := by cases m <;> rfl
@[simp] theorem val_ite (c : Prop) [Decidable c] (m n : M α) (Q : α → Prop) : val (if c then m else n) Q = if c then val m Q else val n Q := by split <;> rfl
@[simp] theorem opt_some (a : α) (Q : α → Prop) : opt (some a) Q = Q a := id rfl
@[simp] theorem opt_none (Q : α → Prop) : opt none Q = False := id rfl
@[simp] theorem opt_ite (c : Prop) [Decidable c] (m n : Option α) (Q : α → Prop) : opt (if c then m else n) Q = if c then opt m Q else opt n Q := by split <;> rfl
@[simp] theorem val_e0 (a : α) (r : ρ) (Q : α → Prop) : val (e0 a r) Q = Q a := id rfl
@[simp] theorem val_eV (g : ρ → α) (r : ρ) (Q : α → Prop) : val (eV g r) Q = Q (g r) := id rfl
@[simp] theorem val_e1 (op : α → Option β) (f : ρ → M α) (r : ρ) (Q : β → Prop) : val (e1 op f r) Q = val (f r) fun a => opt (op a) Q := by simp [e1]
@[simp] theorem val_e2 (op : α → β → Option γ) (f : ρ → M α) (g : ρ → M β) (r : ρ) (Q : γ → Prop) : val (e2 op f g r) Q = val (f r) fun a => val (g r) fun b => opt (op a b) Q := by simp [e2]
@[simp] theorem val_e3 (op : α → β → γ → Option δ) (f : ρ → M α) (g : ρ → M β) (h : ρ → M γ) (r : ρ) (Q : δ → Prop) : val (e3 op f g h r) Q = val (f r) fun a => val (g r) fun b => val (h r) fun c => opt (op a b c) Q := by simp [e3]
@[simp] theorem val_eIf (c : ρ → M Bool) (f g : ρ → M α) (r : ρ) (Q : α → Prop) : val (eIf c f g r) Q = val (c r) fun b => if b then val (f r) Q else val (g r) Q := by simp [eIf]
@[simp] theorem val_eAnd (f g : ρ → M Bool) (r : ρ) (Q : Bool → Prop) : val (eAnd f g r) Q = val (f r) fun b => if b then val (g r) Q else Q false := by simp [eAnd]
@[simp] theorem val_eOr (f g : ρ → M Bool) (r : ρ) (Q : Bool → Prop) : val (eOr f g r) Q = val (f r) fun b => if b then Q true else val (g r) Q := by simp [eOr]
@[simp] theorem val_lift (f : ρ → M α) (r : ρ) (Q : α × ρ → Prop) : val (lift f r) Q = val (f r) fun a => Q (a, r) := by simp [lift]
@[simp] theorem val_eNil (r : ρ) (Q : List α → Prop) : val (eNil r) Q = Q [] := id rfl
@[simp] theorem val_eCons (f : ρ → M α) (g : ρ → M (List α)) (r : ρ) (Q : List α → Prop) : val (eCons f g r) Q = val (f r) fun a => val (g r) fun l => Q (a :: l) := by simp [eCons]
@[simp] theorem val_eLst (f : ρ → M (List α)) (r : ρ) (Q : List α → Prop) : val (eLst f r) Q = val (f r) fun l => if l.length ≤ line then Q l else False := by simp [eLst]
@[simp] theorem val_ePair (f : ρ → M α) (g : ρ → M β) (r : ρ) (Q : α × β → Prop) : val (ePair f g r) Q = val (f r) fun a => val (g r) fun b => Q (a, b) := by simp [ePair]
@[simp] theorem val_eEnum (f : ρ → M (List α)) (r : ρ) (Q : List (Int × α) → Prop) : val (eEnum f r) Q = val (f r) fun l => Q (enumF 0 l) := by simp [eEnum]
@[simp] theorem val_eZip (f : ρ → M (List α)) (g : ρ → M (List β)) (r : ρ) (Q : List (α × β) → Prop) : val (eZip f g r) Q = val (f r) fun l => val (g r) fun m => Q (l.zip m) := by simp [eZip]
@[simp] theorem val_eRev (f : ρ → M (List α)) (r : ρ) (Q : List α → Prop) : val (eRev f r) Q = val (f r) fun l => Q l.reverse := by simp [eRev]
@[simp] theorem val_oNone (r : ρ) (Q : Option Int → Prop) : val (oNone r) Q = Q none := id rfl
@[simp] theorem val_oSome (f : ρ → M Int) (r : ρ) (Q : Option Int → Prop) : val (oSome f r) Q = val (f r) fun i => Q (some i) := by simp [oSome]
@[simp] theorem val_eCut (f : ρ → M (List α)) (g h : ρ → M (Option Int)) (r : ρ) (Q : List α → Prop) : val (eCut f g h r) Q = val (f r) fun l => val (g r) fun a => val (h r) fun b => Q (cutA l a b) := by simp [eCut]
@[simp] theorem val_aNil (r : ρ) (Q : Unit → Prop) : val (aNil r) Q = Q () := id rfl
@[simp] theorem val_aCons (f : ρ → M α) (g : ρ → M B) (r : ρ) (Q : α × B → Prop) : val (aCons f g r) Q = val (f r) fun a => val (g r) fun b => Q (a, b) := by simp [aCons]
@[simp] theorem val_eCall (m : A → M R) (f : ρ → M A) (r : ρ) (Q : R → Prop) : val (eCall m f r) Q = val (f r) fun a => val (m a) Q := by simp [eCall]
@[simp] theorem val_eLc (xs : ρ → M (List β)) (set : β → ρ → ρ) (t : ρ → M Bool) (e : ρ → M γ) (r : ρ) (Q : List γ → Prop) : val (eLc xs set t e r) Q = val (xs r) fun l => val (lcGo set t e r l) Q := by simp [eLc]
@[simp] theorem wp_nx (r : ρ) (N : ρ → Prop) (T : R → Prop) (B C : ρ → Prop) : wp (.ok (.nx r)) N T B C = N r := id rfl
@[simp] theorem wp_rt (a : R) (r : ρ) (N : ρ → Prop) (T : R → Prop) (B C : ρ → Prop) : wp (.ok (.rt a r)) N T B C = T a := id rfl
@[simp] theorem wp_bk (r : ρ) (N : ρ → Prop) (T : R → Prop) (B C : ρ → Prop) : wp (.ok (.bk r)) N T B C = B r := id rfl
@[simp] theorem wp_ct (r : ρ) (N : ρ → Prop) (T : R → Prop) (B C : ρ → Prop) : wp (.ok (.ct r)) N T B C = C r := id rfl
@[simp] theorem wp_bind (m : M α) (f : α → M (Fl ρ R)) (N : ρ → Prop) (T : R → Prop) (B C : ρ → Prop) : wp (m >>= f) N T B C = val m (fun a => wp (f a) N T B C) := by cases m <;> rfl
@[simp] theorem wp_seq (f g : ρ → M (Fl ρ R)) (r : ρ) (N : ρ → Prop) (T : R → Prop) (B C : ρ → Prop) : wp (fSeq f g r) N T B C = wp (f r) (fun r' => wp (g r') N T B C) T B C := by
  unfold fSeq
  cases f r with
  | ok f => cases f <;> rfl
  | error e => rfl
@[simp] theorem wp_set (s : α → ρ → ρ) (f : ρ → M (α × ρ)) (r : ρ) (N : ρ → Prop) (T : R → Prop) (B C : ρ → Prop) : wp (fSet s f r) N T B C = val (f r) fun ar => N (s ar.1 ar.2) := by simp [fSet]
@[simp] theorem wp_if (c : ρ → M (Bool × ρ)) (f g : ρ → M (Fl ρ R)) (r : ρ) (N : ρ → Prop) (T : R → Prop) (B C : ρ → Prop) : wp (fIf c f g r) N T B C = val (c r) fun br => if br.1 then wp (f br.2) N T B C else wp (g br.2) N T B C := by
  simp only [fIf, wp_bind]
  congr
  funext br
  split <;> rfl
@[simp] theorem wp_ret (f : ρ → M (R × ρ)) (r : ρ) (N : ρ → Prop) (T : R → Prop) (B C : ρ → Prop) : wp (fRet f r) N T B C = val (f r) fun ar => T ar.1 := by simp [fRet]
@[simp] theorem wp_drop (f : ρ → M (α × ρ)) (r : ρ) (N : ρ → Prop) (T : R → Prop) (B C : ρ → Prop) : wp (fDrop (R := R) f r) N T B C = val (f r) fun ar => N ar.2 := by simp [fDrop]
@[simp] theorem wp_nil (r : ρ) (N : ρ → Prop) (T : R → Prop) (B C : ρ → Prop) : wp (fNil r) N T B C = N r := id rfl
@[simp] theorem wp_fbk (r : ρ) (N : ρ → Prop) (T : R → Prop) (B C : ρ → Prop) : wp (fBk r) N T B C = B r := id rfl
@[simp] theorem wp_fct (r : ρ) (N : ρ → Prop) (T : R → Prop) (B C : ρ → Prop) : wp (fCt r) N T B C = C r := id rfl
@[simp] theorem wp_mut1 (get : ρ → α) (set : α → ρ → ρ) (op : α → β → Option α) (f : ρ → M (β × ρ)) (r : ρ) (N : ρ → Prop) (T : R → Prop) (B C : ρ → Prop) : wp (fMut1 get set op f r) N T B C = val (f r) fun br => opt (op (get br.2) br.1) fun l => N (set l br.2) := by
  simp [fMut1]
@[simp] theorem wp_for (xs : ρ → M (List β)) (set : β → ρ → ρ) (body : ρ → M (Fl ρ R)) (r : ρ) (N : ρ → Prop) (T : R → Prop) (B C : ρ → Prop) : wp (fFor xs set body r) N T B C = val (xs r) fun l => wp (loop set body l r) N T B C := by
  simp [fFor]
@[simp] theorem val_runR (f : ρ → M (Fl ρ R)) (r : ρ) (Q : R → Prop) : val (runR f r) Q = wp (f r) (fun _ => False) Q (fun _ => False) (fun _ => False) := by
  unfold runR
  cases f r with
  | ok f => cases f <;> rfl
  | error e => rfl
/-- a loop, by what holds ahead of its turn n -/
theorem wp_loop {set : β → ρ → ρ} {body : ρ → M (Fl ρ R)} {N : ρ → Prop} {T : R → Prop} {B C : ρ → Prop} (P : Nat → ρ → Prop) {l : List β} {r : ρ} (h0 : P 0 r)
    (hs : ∀ n b r, l[n]? = some b → P n r → wp (body (set b r)) (P (n + 1)) T N (P (n + 1))) (hN : ∀ r, P l.length r → N r) : wp (loop set body l r) N T B C := by
  induction l generalizing P r with
  | nil => exact hN r h0
  | cons b l ih =>
    have h := hs 0 b r rfl h0
    unfold loop
    cases hb : body (set b r) with
    | error e => rw [hb] at h; exact h.elim
    | ok f =>
      rw [hb] at h
      cases f with
      | nx r' => exact ih (fun n => P (n + 1)) h (fun n b r e => hs (n + 1) b r e) hN
      | ct r' => exact ih (fun n => P (n + 1)) h (fun n b r e => hs (n + 1) b r e) hN
      | bk r' => exact h
      | rt a r' => exact h
/-- a while, by a bound on its turns -/
theorem wp_while {c : ρ → M (Bool × ρ)} {body : ρ → M (Fl ρ R)} {N : ρ → Prop} {T : R → Prop} {B C : ρ → Prop} (P : Nat → ρ → Prop) {k : Nat} {r : ρ} (h0 : P k r)
    (hs : ∀ n r, P n r → val (c r) fun br => if br.1 then 0 < n ∧ wp (body br.2) (P (n - 1)) T N (P (n - 1)) else N br.2) {m : Nat} (hm : k < m) : wp (whileN c body m r) N T B C := by
  induction m generalizing k r with
  | zero => omega
  | succ m ih =>
    have h := hs k r h0
    unfold whileN
    cases hc : c r with
    | error e => rw [hc] at h; exact h.elim
    | ok br =>
      rw [hc] at h
      simp only [val_ok] at h
      show wp (if br.1 then _ else _) N T B C
      split
      · rename_i hb
        rw [if_pos hb] at h
        have h2 := h.2
        have hn := h.1
        cases hb : body br.2 with
        | error e => rw [hb] at h2; exact h2.elim
        | ok f =>
          rw [hb] at h2
          cases f with
          | nx r' => exact ih h2 (by omega)
          | ct r' => exact ih h2 (by omega)
          | bk r' => exact h2
          | rt a r' => exact h2
      · rename_i hb
        rw [if_neg hb] at h
        exact h
theorem val_lc {set : β → ρ → ρ} {t : ρ → M Bool} {e : ρ → M γ} {r : ρ} {Q : List γ → Prop} {l : List β} (T : β → Bool) (E : β → γ) (ht : ∀ b ∈ l, t (set b r) = .ok (T b)) (he : ∀ b ∈ l, T b = true → e (set b r) = .ok (E b)) (q : Q ((l.filter T).map E)) : val (lcGo set t e r l) Q := by
  suffices h : lcGo set t e r l = .ok ((l.filter T).map E) by rw [h]; exact q
  clear q
  induction l with
  | nil => rfl
  | cons b l ih =>
    have h1 := ht b (List.mem_cons_self ..)
    have h2 := he b (List.mem_cons_self ..)
    have h3 := ih (fun b m => ht b (List.mem_cons_of_mem _ m)) (fun b m => he b (List.mem_cons_of_mem _ m))
    unfold lcGo
    rw [h1, h3]
    show (if T b then _ else _) = _
    cases hb : T b with
    | true => rw [List.filter_cons_of_pos hb, h2 hb]; rfl
    | false => rw [List.filter_cons_of_neg (by rw [hb]; exact Bool.false_ne_true)]; rfl
theorem val_lcA {set : β → ρ → ρ} {e : ρ → M γ} {r : ρ} {Q : List γ → Prop} {l : List β} (E : β → γ) (he : ∀ b ∈ l, val (e (set b r)) (· = E b)) (q : Q (l.map E)) : val (lcGo set (fun _ => .ok true) e r l) Q :=
  val_lc (fun _ => true) E (fun _ _ => rfl) (fun b m _ => val_eq (he b m)) (by rw [List.filter_eq_self.mpr fun _ _ => rfl]; exact q)
theorem val_lcF {set : β → ρ → ρ} {t : ρ → M Bool} {e : ρ → M γ} {r : ρ} {Q : List γ → Prop} {l : List β} (T : β → Bool) (E : β → γ) (ht : ∀ b ∈ l, val (t (set b r)) (· = T b)) (he : ∀ b ∈ l, T b = true → val (e (set b r)) (· = E b)) (q : Q ((l.filter T).map E)) : val (lcGo set t e r l) Q :=
  val_lc T E (fun b m => val_eq (ht b m)) (fun b m h => val_eq (he b m h)) q
end
@[simp] theorem opt_add (x y : Int) (Q : Int → Prop) : opt (addI x y) Q = Q (x + y) := id rfl
@[simp] theorem opt_sub (x y : Int) (Q : Int → Prop) : opt (subI x y) Q = Q (x - y) := id rfl
@[simp] theorem opt_neg (x : Int) (Q : Int → Prop) : opt (negI x) Q = Q (-x) := id rfl
@[simp] theorem opt_lt (x y : Int) (Q : Bool → Prop) : opt (ltI x y) Q = Q (decide (x < y)) := id rfl
@[simp] theorem opt_le (x y : Int) (Q : Bool → Prop) : opt (leI x y) Q = Q (decide (x ≤ y)) := id rfl
@[simp] theorem opt_gt (x y : Int) (Q : Bool → Prop) : opt (gtI x y) Q = Q (decide (y < x)) := id rfl
@[simp] theorem opt_ge (x y : Int) (Q : Bool → Prop) : opt (geI x y) Q = Q (decide (y ≤ x)) := id rfl
@[simp] theorem opt_eqS {α : Type} [DecidableEq α] (x y : α) (Q : Bool → Prop) : opt (eqS x y) Q = Q (decide (x = y)) := id rfl
@[simp] theorem opt_neS {α : Type} [DecidableEq α] (x y : α) (Q : Bool → Prop) : opt (neS x y) Q = Q (!decide (x = y)) := id rfl
@[simp] theorem opt_eqD {α : Type} [PyTy α] [DatI α] [DecidableEq α] (x y : α) (Q : Bool → Prop) : opt (eqD x y) Q = Q (decide (x = y)) := id rfl
@[simp] theorem opt_neD {α : Type} [PyTy α] [DatI α] [DecidableEq α] (x y : α) (Q : Bool → Prop) : opt (neD x y) Q = Q (!decide (x = y)) := id rfl
@[simp] theorem opt_in {α : Type} [DecidableEq α] (x : α) (l : List α) (Q : Bool → Prop) : opt (inL x l) Q = Q (decide (x ∈ l)) := id rfl
@[simp] theorem opt_nin {α : Type} [DecidableEq α] (x : α) (l : List α) (Q : Bool → Prop) : opt (ninL x l) Q = Q (!decide (x ∈ l)) := id rfl
@[simp] theorem opt_len {α : Type} (l : List α) (Q : Int → Prop) : opt (lenL l) Q = Q (l.length : Int) := id rfl
@[simp] theorem opt_lenScr (s : Scr) (Q : Int → Prop) : opt (lenScr s) Q = Q (s.l.length : Int) := id rfl
@[simp] theorem opt_abs (x : Int) (Q : Int → Prop) : opt (absI x) Q = Q (if x < 0 then -x else x) := id rfl
@[simp] theorem opt_max2 (x y : Int) (Q : Int → Prop) : opt (max2 x y) Q = Q (max x y) := id rfl
@[simp] theorem opt_min2 (x y : Int) (Q : Int → Prop) : opt (min2 x y) Q = Q (min x y) := id rfl
@[simp] theorem opt_sum (l : List Int) (Q : Int → Prop) : opt (sumL l) Q = Q l.sum := id rfl
@[simp] theorem opt_sort (l : List Int) (Q : List Int → Prop) : opt (sortI l) Q = Q (l.mergeSort fun a b => decide (a ≤ b)) := id rfl
@[simp] theorem opt_intB (b : Bool) (Q : Int → Prop) : opt (intB b) Q = Q (if b then 1 else 0) := id rfl
@[simp] theorem opt_maxC (x : Int) (l : List Int) (Q : Int → Prop) : opt (maxL (x :: l)) Q = Q (l.foldl max x) := id rfl
@[simp] theorem opt_minC (x : Int) (l : List Int) (Q : Int → Prop) : opt (minL (x :: l)) Q = Q (l.foldl min x) := id rfl
theorem opt_mul {x y : Int} {Q : Int → Prop} (h : x.natAbs < 2 ^ 64 ∨ y.natAbs < 2 ^ 64 ∨ x.natAbs.log2 + y.natAbs.log2 < 1000000) (q : Q (x * y)) : opt (mulI x y) Q := by
  unfold mulI
  rw [if_pos h]
  exact q
theorem opt_mulE {x y : Int} {Q : Int → Prop} (h : x.natAbs < 2 ^ 64 ∨ y.natAbs < 2 ^ 64 ∨ x.natAbs.log2 + y.natAbs.log2 < 1000000) : opt (mulI x y) Q = Q (x * y) := by
  unfold mulI
  rw [if_pos h]
  rfl
theorem opt_fdivE {x y : Int} {Q : Int → Prop} (h : 0 < y) (h2 : y < 1073741824) : opt (fdivI x y) Q = Q (x / y) := by
  unfold fdivI
  rw [if_pos (.inl ⟨by omega, by omega⟩), Int.fdiv_eq_ediv_of_nonneg x (by omega)]
  rfl
theorem opt_modE {x y : Int} {Q : Int → Prop} (h : 0 < y) : opt (modI x y) Q = Q (x % y) := by
  unfold modI
  rw [if_pos (by omega), Int.fmod_eq_emod_of_nonneg x (by omega)]
  rfl
theorem opt_powE {x y : Int} {Q : Int → Prop} (h : 0 ≤ y ∧ y ≤ 1000000 ∧ x.natAbs < 2 ^ 64) : opt (powI x y) Q = Q (x ^ y.toNat) := by
  unfold powI
  rw [if_pos h]
  rfl
theorem opt_appE {α : Type} {l : List α} {a : α} {Q : List α → Prop} (h : l.length < 2 ^ 24) : opt (appL l a) Q = Q (l ++ [a]) := by
  unfold appL
  rw [if_pos h]
  rfl
theorem opt_extE {α : Type} {l m : List α} {Q : List α → Prop} (h : l.length + m.length ≤ 2 ^ 24) : opt (extL l m) Q = Q (l ++ m) := by
  unfold extL
  rw [if_pos h]
  rfl
theorem opt_catE {α : Type} {l m : List α} {Q : List α → Prop} (h : l.length + m.length ≤ 2 ^ 24) : opt (catL l m) Q = Q (l ++ m) := by
  unfold catL
  rw [if_pos h]
  rfl
theorem opt_rng {a b : Int} {Q : List Int → Prop} (h : -(2 ^ 62) ≤ a ∧ a < 2 ^ 62 ∧ -(2 ^ 62) ≤ b ∧ b < 2 ^ 62 ∧ b - a ≤ 2 ^ 24) : opt (rng a b) Q = Q ((List.range (b - a).toNat).map fun (k : Nat) => a + (k : Int)) := by
  unfold rng
  rw [if_pos h]
  rfl
theorem opt_rng1 {b : Int} {Q : List Int → Prop} (h : -(2 ^ 62) ≤ b ∧ b ≤ 2 ^ 24) : opt (rng1 b) Q = Q ((List.range b.toNat).map fun (k : Nat) => (k : Int)) := by
  unfold rng1
  rw [opt_rng ⟨by decide, by decide, h.1, by omega, by omega⟩, Int.sub_zero]
  simp only [Int.zero_add]
/-- the number at a place -/
theorem opt_ixE {α : Type} {l : List α} {i : Int} {Q : α → Prop} {a : α} (h : 0 ≤ i) (h2 : l[i.toNat]? = some a) : opt (ixL l i) Q = Q a := by
  unfold ixL
  rw [if_pos h, h2]
  rfl
theorem rng_at {n : Nat} {f : Nat → Int} {i : Nat} {b : Int} (h : ((List.range n).map f)[i]? = some b) : i < n ∧ b = f i := by
  rw [List.getElem?_map] at h
  obtain ⟨x, e, rfl⟩ := Option.map_eq_some_iff.mp h
  obtain ⟨h1, h2⟩ := List.getElem?_eq_some_iff.mp e
  rw [List.getElem_range] at h2
  rw [List.length_range] at h1
  subst h2
  exact ⟨h1, rfl⟩
end VL
namespace VL
/-! ### orders -/
structure IsOrd (o : List (List Int)) : Prop where
  up : ∀ {j : Nat} {row : List Int}, o[j]? = some row → row.Pairwise (· < ·)
  lo : ∀ {j : Nat} {row : List Int}, o[j]? = some row → ∀ x ∈ row, 0 ≤ x ∧ x < j
  tr : ∀ {j : Nat} {row : List Int}, o[j]? = some row → ∀ x ∈ row, ∀ row', o[x.toNat]? = some row' → ∀ y ∈ row', y ∈ row
theorem IsOrd.nil : IsOrd [] := ⟨fun h => (nomatch h), fun h => (nomatch h), fun h => (nomatch h)⟩
theorem snoc_at {α : Type} {l : List α} {a b : α} {j : Nat} (h : (l ++ [a])[j]? = some b) : l[j]? = some b ∨ j = l.length ∧ b = a := by
  rw [List.getElem?_append] at h
  split at h
  · exact .inl h
  · rename_i hj
    have e : j - l.length = 0 := by
      obtain ⟨h1, _⟩ := List.getElem?_eq_some_iff.mp h
      simp at h1
      omega
    rw [e] at h
    cases h
    exact .inr ⟨by omega, rfl⟩
theorem at_lt {α : Type} {l : List α} {a : α} {j : Nat} (h : l[j]? = some a) : j < l.length := (List.getElem?_eq_some_iff.mp h).1
theorem at_some {α : Type} {l : List α} {j : Nat} (h : j < l.length) : ∃ a, l[j]? = some a := ⟨_, List.getElem?_eq_getElem h⟩
theorem at_mem {α : Type} {l : List α} {a : α} {j : Nat} (h : l[j]? = some a) : a ∈ l := List.mem_of_getElem? h
theorem snoc_lo {α : Type} {l : List α} {a : α} {j : Nat} (h : j < l.length) : (l ++ [a])[j]? = l[j]? := List.getElem?_append_left h
theorem IsOrd.snoc {o : List (List Int)} {row : List Int} (h : IsOrd o) (h1 : row.Pairwise (· < ·)) (h2 : ∀ x ∈ row, 0 ≤ x ∧ x < o.length) (h3 : ∀ x ∈ row, ∀ row', o[x.toNat]? = some row' → ∀ y ∈ row', y ∈ row) : IsOrd (o ++ [row]) := by
  refine ⟨fun e => ?_, fun e => ?_, fun e x hx row' e' y hy => ?_⟩
  · rcases snoc_at e with e | ⟨rfl, rfl⟩
    · exact h.up e
    · exact h1
  · rcases snoc_at e with e | ⟨rfl, rfl⟩
    · exact h.lo e
    · exact h2
  · rcases snoc_at e with e | ⟨rfl, rfl⟩
    · have hh := h.lo e x hx
      have := at_lt e
      rw [snoc_lo (by omega)] at e'
      exact h.tr e x hx row' e' y hy
    · have hh := h2 x hx
      rw [snoc_lo (by omega)] at e'
      exact h3 x hx row' e' y hy
/-- rising numbers from a on below b are few -/
theorem few {l : List Int} {a b : Int} (h : l.Pairwise (· < ·)) (hb : ∀ x ∈ l, a ≤ x ∧ x < b) : (l.length : Int) ≤ b - a ∨ l = [] := by
  induction l generalizing a with
  | nil => exact .inr rfl
  | cons x l ih =>
    left
    obtain ⟨h1, h2⟩ := List.pairwise_cons.mp h
    have hx := hb x (List.mem_cons_self ..)
    rcases ih (a := x + 1) h2 (fun y hy => ⟨by have := h1 y hy; omega, (hb y (List.mem_cons_of_mem _ hy)).2⟩) with h | h
    · rw [List.length_cons]; omega
    · subst h
      simp only [List.length_cons, List.length_nil]
      omega
theorem IsOrd.few {o : List (List Int)} (h : IsOrd o) {j : Nat} {row : List Int} (e : o[j]? = some row) : row.length ≤ j := by
  rcases VL.few (h.up e) (fun x hx => h.lo e x hx) with h | h
  · omega
  · subst h
    exact Nat.zero_le _
theorem IsOrd.row {o : List (List Int)} (h : IsOrd o) {j : Nat} {row : List Int} (e : o[j]? = some row) {x : Int} (hx : x ∈ row) : ∃ r, o[x.toNat]? = some r := by
  have := h.lo e x hx
  have := at_lt e
  exact at_some (by omega)
/-- the digits from a place on -/
def tn : Nat → Nat
  | 0 => 0
  | n + 1 => tn n + n
theorem tn_next (n : Nat) : tn (n + 1) = tn n + n := rfl
theorem tn_le : ∀ {n m : Nat}, n ≤ m → tn n ≤ tn m
  | n, 0, h => by rw [show n = 0 from by omega]; exact Nat.le_refl _
  | n, m + 1, h => by
    rcases Nat.lt_or_ge n (m + 1) with g | g
    · exact Nat.le_trans (tn_le (by omega)) (Nat.le_add_right _ _)
    · rw [show n = m + 1 from by omega]; exact Nat.le_refl _
theorem opt_sortSetE {l : List Int} {Q : List Int → Prop} (h : l.length < 4000) (h2 : (ssort l).length < 64) : opt (sortSetI l) Q = Q (ssort l) := by
  unfold sortSetI
  rw [if_pos ⟨h, h2⟩]
  rfl
theorem snoc_ind {α : Type} {P : List α → Prop} (nil : P []) (snoc : ∀ l a, P l → P (l ++ [a])) (l : List α) : P l := by
  suffices ∀ n (l : List α), l.length = n → P l from this _ l rfl
  intro n
  induction n with
  | zero => intro l h; rw [List.length_eq_zero_iff.mp h]; exact nil
  | succ n ih =>
    intro l h
    have hn : l ≠ [] := fun e => by rw [e] at h; cases h
    rw [← List.dropLast_concat_getLast hn]
    exact snoc _ _ (ih _ (by rw [List.length_dropLast, h]; rfl))
theorem take_next {α : Type} {l : List α} {n : Nat} {a : α} (h : l[n]? = some a) : l.take (n + 1) = l.take n ++ [a] := by
  rw [List.take_add_one, h]
  rfl
theorem IsOrd.init {o : List (List Int)} {row : List Int} (h : IsOrd (o ++ [row])) : IsOrd o := by
  have k {j : Nat} {r : List Int} (e : o[j]? = some r) : (o ++ [row])[j]? = some r := by rw [snoc_lo (at_lt e)]; exact e
  exact ⟨fun e => h.up (k e), fun e => h.lo (k e), fun e x hx r' e' => h.tr (k e) x hx r' (k e')⟩
theorem cutA_length {α : Type} (l : List α) (a b : Option Int) : (cutA l a b).length ≤ l.length := by
  unfold cutA
  rw [List.length_take, List.length_drop]
  omega
end VL
namespace VL
/-- one stands below the other -/
def Blw (o : List (List Int)) (x y : Int) : Prop := ∃ r, o[y.toNat]? = some r ∧ x ∈ r
theorem IsOrd.lt {o : List (List Int)} (h : IsOrd o) {x y : Int} (b : Blw o x y) (hy : 0 ≤ y) : 0 ≤ x ∧ x < y := by
  obtain ⟨r, e, hx⟩ := b
  have := h.lo e x hx
  omega
theorem IsOrd.trans {o : List (List Int)} (h : IsOrd o) {x y z : Int} (a : Blw o x y) (b : Blw o y z) : Blw o x z := by
  obtain ⟨r, e, hx⟩ := a
  obtain ⟨r2, e2, hy⟩ := b
  exact ⟨r2, e2, h.tr e2 y hy r e x hx⟩
/-- things, rising -/
structure Good (n : Nat) (row : List Int) : Prop where
  some : row ≠ []
  up : row.Pairwise (· < ·)
  bnd : ∀ x ∈ row, 0 ≤ x ∧ x < (n : Int)
theorem up_at {row : List Int} (h : row.Pairwise (· < ·)) {i j : Nat} {a b : Int} (hi : row[i]? = some a) (hj : row[j]? = some b) (hij : i < j) : a < b := by
  obtain ⟨h1, rfl⟩ := List.getElem?_eq_some_iff.mp hi
  obtain ⟨h2, rfl⟩ := List.getElem?_eq_some_iff.mp hj
  exact List.pairwise_iff_getElem.mp h i j h1 h2 hij
theorem mem_at {α : Type} {l : List α} {a : α} (h : a ∈ l) : ∃ i : Nat, l[i]? = some a := by
  obtain ⟨i, hi, e⟩ := List.getElem_of_mem h
  exact ⟨i, List.getElem?_eq_some_iff.mpr ⟨hi, e⟩⟩
theorem up_idx {row : List Int} (h : row.Pairwise (· < ·)) {i j : Nat} {a b : Int} (hi : row[i]? = some a) (hj : row[j]? = some b) (hab : a < b) : i < j := by
  rcases Nat.lt_trichotomy i j with g | g | g
  · exact g
  · subst g
    rw [hi] at hj
    cases hj
    omega
  · have := up_at h hj hi g
    omega
theorem chain_all {o : List (List Int)} (h : IsOrd o) {row : List Int} (hc : ∀ (i : Nat) a b, row[i]? = some a → row[i + 1]? = some b → Blw o a b) : ∀ (d i : Nat) a b, row[i]? = some a → row[i + 1 + d]? = some b → Blw o a b
  | 0, i, a, b, ha, hb => hc i a b ha hb
  | d + 1, i, a, b, ha, hb => by
    have hl := at_lt hb
    obtain ⟨c, ec⟩ := at_some (l := row) (j := i + 1 + d) (by omega)
    exact h.trans (chain_all h hc d i a c ha ec) (hc _ c b ec hb)
theorem sorted_of_up {l : List Int} (h : l.Pairwise (· < ·)) : (l.mergeSort fun a b => decide (a ≤ b)) = l :=
  List.mergeSort_of_pairwise (h.imp fun h => by simp; omega)
theorem ms_sorted (l : List Int) : (l.mergeSort fun a b => decide (a ≤ b)).Pairwise (· ≤ ·) := by
  have := List.pairwise_mergeSort (le := fun a b : Int => decide (a ≤ b)) (fun a b c h1 h2 => by simp at *; omega) (fun a b => by simp; omega) l
  exact this.imp fun h => by simpa using h
theorem sins_len_new {x : Int} : ∀ {l : List Int}, (sins x l).length = if x ∈ l ∧ True then (sins x l).length else l.length + 1
  | [] => by simp [sins]
  | y :: l => by
    by_cases h : x ∈ y :: l
    · rw [if_pos ⟨h, trivial⟩]
    · rw [if_neg fun z => h z.1]
      have h1 : x ≠ y := fun e => h (by rw [e]; exact List.mem_cons_self)
      have h2 : x ∉ l := fun m => h (List.mem_cons_of_mem _ m)
      have ih := sins_len_new (x := x) (l := l)
      rw [if_neg fun z => h2 z.1] at ih
      unfold sins
      split
      · simp
      · simp only [h1, if_false, List.length_cons, ih]
theorem sins_len_old {x : Int} : ∀ {l : List Int}, l.Pairwise (· < ·) → x ∈ l → (sins x l).length = l.length
  | y :: l, h, m => by
    obtain ⟨h1, h2⟩ := List.pairwise_cons.mp h
    unfold sins
    rcases List.mem_cons.mp m with e | m
    · rw [if_neg (by omega), if_pos e]
    · have := h1 x m
      rw [if_neg (by omega), if_neg (by omega), List.length_cons, sins_len_old h2 m, List.length_cons]
/-- a set of as many as the list has: each stands there once -/
theorem nodup_ssort : ∀ {l : List Int}, ¬ (ssort l).length < l.length ↔ l.Nodup
  | [] => by simp [ssort]
  | x :: l => by
    have ih := nodup_ssort (l := l)
    have hs := ssort_sorted l
    have hl := ssort_len l
    show ¬ (sins x (ssort l)).length < l.length + 1 ↔ _
    rw [List.nodup_cons]
    by_cases m : x ∈ l
    · rw [sins_len_old hs (ssort_mem.mpr m)]
      constructor
      · intro h; omega
      · intro h; exact absurd m h.1
    · have := sins_len_new (x := x) (l := ssort l)
      rw [if_neg fun z => m (ssort_mem.mp z.1)] at this
      rw [this, ← ih]
      constructor
      · intro h; exact ⟨m, by omega⟩
      · intro h; omega
theorem up_of_le {l : List Int} (h : l.Pairwise (· ≤ ·)) (n : l.Nodup) : l.Pairwise (· < ·) :=
  (h.and n).imp fun ⟨a, b⟩ => by omega
theorem ixL_neg1 {α : Type} {l : List α} (h : l ≠ []) : ixL l (-1) = l.getLast? := by
  unfold ixL
  have : 0 < l.length := List.length_pos_iff.mpr h
  rw [if_neg (by omega), if_pos (by omega), List.getLast?_eq_getElem?]
  congr 1
  omega
end VL
namespace VL
section
variable {ρ α β γ R : Type}
@[simp] theorem val_pV (get : ρ → List α) (set : List α → ρ → ρ) (r : ρ) (Q : List α × (List α → ρ) → Prop) : val (pV get set r) Q = Q (get r, fun l => set l r) := id rfl
@[simp] theorem val_pIx (pl : ρ → M (List (List α) × (List (List α) → ρ))) (fi : ρ → M Int) (r : ρ) (Q : List α × (List α → ρ) → Prop) : val (pIx pl fi r) Q = val (pl r) fun lw => val (fi r) fun j => opt (ixL lw.1 j) fun l => Q (l, fun l' => lw.2 (lw.1.set (nI lw.1.length j) l')) := by simp [pIx]
@[simp] theorem wp_mutP (pl : ρ → M (List α × (List α → ρ))) (op : List α → β → Option (List α)) (f : ρ → M β) (r : ρ) (N : ρ → Prop) (T : R → Prop) (B C : ρ → Prop) : wp (fMutP (R := R) pl op f r) N T B C = val (pl r) fun lw => val (f r) fun b => opt (op lw.1 b) fun l' => N (lw.2 l') := by simp [fMutP]
@[simp] theorem wp_putP (pl : ρ → M (List α × (List α → ρ))) (fj : ρ → M Int) (f : ρ → M (α × ρ)) (r : ρ) (N : ρ → Prop) (T : R → Prop) (B C : ρ → Prop) : wp (fPutP (R := R) pl fj f r) N T B C = val (f r) fun ar => val (pl ar.2) fun lw => val (fj ar.2) fun j => opt (putL lw.1 j ar.1) fun l' => N (lw.2 l') := by simp [fPutP]
theorem opt_putE {l : List α} {i : Int} {a : α} {Q : List α → Prop} (h : 0 ≤ i) (h2 : i < l.length) : opt (putL l i a) Q = Q (l.set i.toNat a) := by
  obtain ⟨b, eb⟩ := at_some (l := l) (j := i.toNat) (by omega)
  unfold putL ixL nI
  rw [if_pos h, if_pos h, eb]
  rfl
theorem nI_nat {n : Nat} {i : Int} (h : 0 ≤ i) : nI n i = i.toNat := if_pos h
theorem wp_loopM {setl : List β → ρ → ρ} {set : Int → β → ρ → ρ} {getb : ρ → β} {body : ρ → M (Fl ρ R)} {N : ρ → Prop} {T : R → Prop} {B C : ρ → Prop} (P : Nat → List β → ρ → Prop) : ∀ {l dn : List β} {r : ρ}, P dn.length dn r →
    (∀ b l0 dn r, P dn.length dn r → wp (body (set (dn.length : Int) b r)) (fun r' => P (dn.length + 1) (dn ++ [getb r']) r') T (fun r' => N (setl (dn ++ getb r' :: l0) r')) (fun r' => P (dn.length + 1) (dn ++ [getb r']) r')) → (∀ dn' r, P dn'.length dn' r → dn'.length = dn.length + l.length → N (setl dn' r)) → wp (loopM setl set getb body dn l r) N T B C
  | [], dn, r, h0, _, hN => hN dn r h0 rfl
  | b :: l, dn, r, h0, hs, hN => by
    have h := hs b l dn r h0
    unfold loopM
    cases hb : body (set (dn.length : Int) b r) with
    | error e => rw [hb] at h; exact h.elim
    | ok f =>
      rw [hb] at h
      cases f with
      | nx r' => exact wp_loopM P (l := l) (dn := dn ++ [getb r']) (by rw [List.length_append]; exact h) hs (fun dn' r h e => hN dn' r h (by rw [e]; simp; omega))
      | ct r' => exact wp_loopM P (l := l) (dn := dn ++ [getb r']) (by rw [List.length_append]; exact h) hs (fun dn' r h e => hN dn' r h (by rw [e]; simp; omega))
      | bk r' => exact h
      | rt a r' => exact h
/-- .. where each thing is changed for itself, and the rest of the slots as P says -/
theorem wp_forM {get : ρ → List β} {setl : List β → ρ → ρ} {set : Int → β → ρ → ρ} {getb : ρ → β} {body : ρ → M (Fl ρ R)} {N : ρ → Prop} {T : R → Prop} {B C : ρ → Prop} {r : ρ} (g : Nat → β → β) (P : ρ → Prop) (h0 : P r)
    (hs : ∀ (n : Nat) b r', (get r)[n]? = some b → P r' → wp (body (set (n : Int) b r')) (fun r' => getb r' = g n b ∧ P r') T (fun _ => False) (fun r' => getb r' = g n b ∧ P r')) (hN : ∀ r', P r' → N (setl ((List.range (get r).length).zipWith g (get r)) r')) : wp (fForM get setl set getb body r) N T B C := by
  unfold fForM
  suffices ∀ (l dn : List β) (r' : ρ), (∀ n : Nat, l[n]? = (get r)[dn.length + n]?) → P r' → (∀ r', P r' → N (setl (dn ++ ((List.range' dn.length l.length).zipWith g l)) r')) → wp (loopM setl set getb body dn l r') N T B C from this (get r) [] r (fun n => by simp) h0 (by simpa [List.range_eq_range'] using hN)
  intro l
  induction l with
  | nil => intro dn r' _ h hN; have := hN r' h; simp at this; exact this
  | cons b l ih =>
    intro dn r' hl h hN
    have hl' : ∀ (x : β) (n : Nat), l[n]? = (get r)[(dn ++ [x]).length + n]? := fun x n => by
      have := hl (n + 1)
      rw [List.getElem?_cons_succ] at this
      rw [this, List.length_append]
      congr 1
      simp
      omega
    have h := hs dn.length b r' (by have := hl 0; rw [Nat.add_zero] at this; rw [← this]; rfl) h
    unfold loopM
    cases hb : body (set (dn.length : Int) b r') with
    | error e => rw [hb] at h; exact h.elim
    | ok f =>
      rw [hb] at h
      cases f with
      | nx r2 =>
        refine ih _ _ (hl' _) h.2 fun r3 p3 => ?_
        have := hN r3 p3
        rw [List.length_cons, List.range'_succ, List.zipWith_cons_cons, ← h.1] at this
        rw [List.length_append, List.append_assoc]
        exact this
      | ct r2 =>
        refine ih _ _ (hl' _) h.2 fun r3 p3 => ?_
        have := hN r3 p3
        rw [List.length_cons, List.range'_succ, List.zipWith_cons_cons, ← h.1] at this
        rw [List.length_append, List.append_assoc]
        exact this
      | bk r2 => exact h.elim
      | rt a r2 => exact h
end
theorem range_at {n : Nat} {f : Nat → α} {i : Nat} (h : i < n) : ((List.range n).map f)[i]? = some (f i) := by
  rw [List.getElem?_map, List.getElem?_range h]
  rfl
theorem range_set {n : Nat} {f : Nat → α} {i : Nat} {a : α} : ((List.range n).map f).set i a = (List.range n).map fun l => if l = i then a else f l := by
  apply List.ext_getElem?
  intro m
  by_cases hm : m < n
  · rw [range_at hm, List.getElem?_set]
    by_cases e : i = m
    · subst e
      simp [hm]
    · rw [if_neg e, range_at hm, if_neg fun z => e z.symm]
  · rw [List.getElem?_eq_none (by simp; omega), List.getElem?_eq_none (by simp; omega)]
end VL
namespace VL
/-! ### what a run must show, where the record at its end counts -/
section
variable {ρ α β γ δ R A B : Type}
def wq (m : M (Fl ρ R)) (N : ρ → Prop) (T : R → ρ → Prop) (B C : ρ → Prop) : Prop := match m with
  | .ok (.nx r) => N r
  | .ok (.rt a r) => T a r
  | .ok (.bk r) => B r
  | .ok (.ct r) => C r
  | .error _ => False
theorem wq_mono {m : M (Fl ρ R)} {N N' : ρ → Prop} {T T' : R → ρ → Prop} {B B' C C' : ρ → Prop} (h : wq m N T B C) (hN : ∀ r, N r → N' r) (hT : ∀ a r, T a r → T' a r) (hB : ∀ r, B r → B' r) (hC : ∀ r, C r → C' r) : wq m N' T' B' C' := by
  cases m with
  | ok f => cases f with
    | nx r => exact hN _ h
    | rt a r => exact hT _ _ h
    | bk r => exact hB _ h
    | ct r => exact hC _ h
  | error e => exact h.elim
variable (N : ρ → Prop) (T : R → ρ → Prop) (B C : ρ → Prop) (T0 : R → Prop)
@[simp] theorem wq_nx (r : ρ) : wq (.ok (.nx r)) N T B C = N r := id rfl
@[simp] theorem wq_rt (a : R) (r : ρ) : wq (.ok (.rt a r)) N T B C = T a r := id rfl
@[simp] theorem wq_bk (r : ρ) : wq (.ok (.bk r)) N T B C = B r := id rfl
@[simp] theorem wq_ct (r : ρ) : wq (.ok (.ct r)) N T B C = C r := id rfl
@[simp] theorem wq_bind (m : M α) (f : α → M (Fl ρ R)) : wq (m >>= f) N T B C = val m (fun a => wq (f a) N T B C) := by cases m <;> rfl
@[simp] theorem wq_seq (f g : ρ → M (Fl ρ R)) (r : ρ) : wq (fSeq f g r) N T B C = wq (f r) (fun r' => wq (g r') N T B C) T B C := by
  unfold fSeq
  cases f r with
  | ok f => cases f <;> rfl
  | error e => rfl
@[simp] theorem wq_set (s : α → ρ → ρ) (f : ρ → M (α × ρ)) (r : ρ) : wq (fSet s f r) N T B C = val (f r) fun ar => N (s ar.1 ar.2) := by simp [fSet]
@[simp] theorem wq_if (c : ρ → M (Bool × ρ)) (f g : ρ → M (Fl ρ R)) (r : ρ) : wq (fIf c f g r) N T B C = val (c r) fun br => if br.1 then wq (f br.2) N T B C else wq (g br.2) N T B C := by
  simp only [fIf, wq_bind]
  congr
  funext br
  split <;> rfl
@[simp] theorem wq_ret (f : ρ → M (R × ρ)) (r : ρ) : wq (fRet f r) N T B C = val (f r) fun ar => T ar.1 ar.2 := by simp [fRet]
@[simp] theorem wq_drop (f : ρ → M (α × ρ)) (r : ρ) : wq (fDrop (R := R) f r) N T B C = val (f r) fun ar => N ar.2 := by simp [fDrop]
@[simp] theorem wq_nil (r : ρ) : wq (fNil r) N T B C = N r := id rfl
@[simp] theorem wq_fbk (r : ρ) : wq (fBk r) N T B C = B r := id rfl
@[simp] theorem wq_fct (r : ρ) : wq (fCt r) N T B C = C r := id rfl
@[simp] theorem wq_mut1 (get : ρ → α) (set : α → ρ → ρ) (op : α → β → Option α) (f : ρ → M (β × ρ)) (r : ρ) : wq (fMut1 get set op f r) N T B C = val (f r) fun br => opt (op (get br.2) br.1) fun l => N (set l br.2) := by
  simp [fMut1]
@[simp] theorem wq_for (xs : ρ → M (List β)) (set : β → ρ → ρ) (body : ρ → M (Fl ρ R)) (r : ρ) : wq (fFor xs set body r) N T B C = val (xs r) fun l => wq (loop set body l r) N T B C := by
  simp [fFor]
theorem wq_loop {set : β → ρ → ρ} {body : ρ → M (Fl ρ R)} {N : ρ → Prop} {T : R → ρ → Prop} {B C : ρ → Prop} (P : Nat → ρ → Prop) {l : List β} {r : ρ} (h0 : P 0 r)
    (hs : ∀ n b r, l[n]? = some b → P n r → wq (body (set b r)) (P (n + 1)) T N (P (n + 1))) (hN : ∀ r, P l.length r → N r) : wq (loop set body l r) N T B C := by
  induction l generalizing P r with
  | nil => exact hN r h0
  | cons b l ih =>
    have h := hs 0 b r rfl h0
    unfold loop
    cases hb : body (set b r) with
    | error e => rw [hb] at h; exact h.elim
    | ok f =>
      rw [hb] at h
      cases f with
      | nx r' => exact ih (fun n => P (n + 1)) h (fun n b r e => hs (n + 1) b r e) hN
      | ct r' => exact ih (fun n => P (n + 1)) h (fun n b r e => hs (n + 1) b r e) hN
      | bk r' => exact h
      | rt a r' => exact h
/-! the pieces over what may change what is held -/
@[simp] theorem val_E1 (op : α → Option β) (f : ρ → M (α × ρ)) (r : ρ) (Q : β × ρ → Prop) : val (E1 op f r) Q = val (f r) fun ar => opt (op ar.1) fun c => Q (c, ar.2) := by simp [E1]
@[simp] theorem val_E2 (op : α → β → Option γ) (f : ρ → M (α × ρ)) (g : ρ → M (β × ρ)) (r : ρ) (Q : γ × ρ → Prop) : val (E2 op f g r) Q = val (f r) fun ar => val (g ar.2) fun br => opt (op ar.1 br.1) fun c => Q (c, br.2) := by simp [E2]
@[simp] theorem val_iNil (r : ρ) (Q : (ρ → Unit) × ρ → Prop) : val (iNil r) Q = Q (fun _ => (), r) := id rfl
@[simp] theorem val_iBy {B : Type} (g : ρ → M (α × ρ)) (f : ρ → M ((ρ → B) × ρ)) (r : ρ) (Q : (ρ → α × B) × ρ → Prop) : val (iBy g f r) Q = val (g r) fun ar => val (f ar.2) fun φr => Q (fun r' => (ar.1, φr.1 r'), φr.2) := by simp [iBy]
@[simp] theorem val_iIo {B : Type} (get : ρ → α) (f : ρ → M ((ρ → B) × ρ)) (r : ρ) (Q : (ρ → α × B) × ρ → Prop) : val (iIo get f r) Q = val (f r) fun φr => Q (fun r' => (get r', φr.1 r'), φr.2) := by simp [iIo]
@[simp] theorem val_eCallI (m : A → M (R × A)) (put : A → ρ → ρ) (f : ρ → M ((ρ → A) × ρ)) (r : ρ) (Q : R × ρ → Prop) : val (eCallI m put f r) Q = val (f r) fun φr => val (m (φr.1 φr.2)) fun cb => Q (cb.1, put cb.2 φr.2) := by simp [eCallI]
@[simp] theorem val_tAnd2 (f g : ρ → M (Bool × ρ)) (r : ρ) (Q : Bool × ρ → Prop) : val (tAnd2 f g r) Q = val (f r) fun br => if br.1 then val (g br.2) Q else Q (false, br.2) := by simp [tAnd2]
@[simp] theorem val_tOr2 (f g : ρ → M (Bool × ρ)) (r : ρ) (Q : Bool × ρ → Prop) : val (tOr2 f g r) Q = val (f r) fun br => if br.1 then Q (true, br.2) else val (g br.2) Q := by simp [tOr2]
@[simp] theorem val_tNot2 (f : ρ → M (Bool × ρ)) (r : ρ) (Q : Bool × ρ → Prop) : val (tNot2 f r) Q = val (f r) fun br => Q (!br.1, br.2) := by simp [tNot2]
@[simp] theorem val_eTpl (f : ρ → M (List α)) (r : ρ) (Q : Tp α → Prop) : val (eTpl f r) Q = val (f r) fun l => if l.length ≤ line then Q ⟨l⟩ else False := by simp [eTpl]
@[simp] theorem wp_stuck (r : ρ) : wp (fStuck (R := R) r) N T0 B C = False := id rfl
@[simp] theorem wq_stuck (r : ρ) : wq (fStuck (R := R) r) N T B C = False := id rfl
@[simp] theorem wp_unp {A : Type} (set : A → ρ → ρ) (f : ρ → M ((ρ → A) × ρ)) (r : ρ) : wp (fUnp set f r) N T0 B C = val (f r) fun φr => N (set (φr.1 φr.2) φr.2) := by simp [fUnp]
@[simp] theorem wq_unp {A : Type} (set : A → ρ → ρ) (f : ρ → M ((ρ → A) × ρ)) (r : ρ) : wq (fUnp set f r) N T B C = val (f r) fun φr => N (set (φr.1 φr.2) φr.2) := by simp [fUnp]
@[simp] theorem wp_for2 (xs : ρ → M (List β × ρ)) (set : β → ρ → ρ) (body : ρ → M (Fl ρ R)) (r : ρ) : wp (fFor2 xs set body r) N T0 B C = val (xs r) fun lr => wp (loop set body lr.1 lr.2) N T0 B C := by simp [fFor2]
@[simp] theorem wq_for2 (xs : ρ → M (List β × ρ)) (set : β → ρ → ρ) (body : ρ → M (Fl ρ R)) (r : ρ) : wq (fFor2 xs set body r) N T B C = val (xs r) fun lr => wq (loop set body lr.1 lr.2) N T B C := by simp [fFor2]
@[simp] theorem wp_ins (get : ρ → List α) (set : List α → ρ → ρ) (f : ρ → M (Int × ρ)) (g : ρ → M (α × ρ)) (r : ρ) : wp (fIns (R := R) get set f g r) N T0 B C = val (f r) fun ir => val (g ir.2) fun ar => opt (insL (get ar.2) ir.1 ar.1) fun l => N (set l ar.2) := by simp [fIns]
@[simp] theorem wq_ins (get : ρ → List α) (set : List α → ρ → ρ) (f : ρ → M (Int × ρ)) (g : ρ → M (α × ρ)) (r : ρ) : wq (fIns (R := R) get set f g r) N T B C = val (f r) fun ir => val (g ir.2) fun ar => opt (insL (get ar.2) ir.1 ar.1) fun l => N (set l ar.2) := by simp [fIns]
@[simp] theorem wp_mut0 (pl : ρ → M (List α × (List α → ρ))) (φ : List α → List α) (r : ρ) : wp (fMut0 (R := R) pl φ r) N T0 B C = val (pl r) fun lw => N (lw.2 (φ lw.1)) := by simp [fMut0]
@[simp] theorem wq_mut0 (pl : ρ → M (List α × (List α → ρ))) (φ : List α → List α) (r : ρ) : wq (fMut0 (R := R) pl φ r) N T B C = val (pl r) fun lw => N (lw.2 (φ lw.1)) := by simp [fMut0]
@[simp] theorem wq_mutP (pl : ρ → M (List α × (List α → ρ))) (op : List α → β → Option (List α)) (f : ρ → M β) (r : ρ) : wq (fMutP (R := R) pl op f r) N T B C = val (pl r) fun lw => val (f r) fun b => opt (op lw.1 b) fun l' => N (lw.2 l') := by simp [fMutP]
@[simp] theorem wq_putP (pl : ρ → M (List α × (List α → ρ))) (fj : ρ → M Int) (f : ρ → M (α × ρ)) (r : ρ) : wq (fPutP (R := R) pl fj f r) N T B C = val (f r) fun ar => val (pl ar.2) fun lw => val (fj ar.2) fun j => opt (putL lw.1 j ar.1) fun l' => N (lw.2 l') := by simp [fPutP]
@[simp] theorem wp_augP (pl : ρ → M (List Int × (List Int → ρ))) (fj : ρ → M Int) (op : Int → Int → Option Int) (f : ρ → M Int) (r : ρ) : wp (fAugP (R := R) pl fj op f r) N T0 B C = val (pl r) fun lw => val (fj r) fun j => opt (ixL lw.1 j) fun x => val (f r) fun y => opt (op x y) fun z => opt (putL lw.1 j z) fun l' => N (lw.2 l') := by simp [fAugP]
@[simp] theorem wq_augP (pl : ρ → M (List Int × (List Int → ρ))) (fj : ρ → M Int) (op : Int → Int → Option Int) (f : ρ → M Int) (r : ρ) : wq (fAugP (R := R) pl fj op f r) N T B C = val (pl r) fun lw => val (fj r) fun j => opt (ixL lw.1 j) fun x => val (f r) fun y => opt (op x y) fun z => opt (putL lw.1 j z) fun l' => N (lw.2 l') := by simp [fAugP]
@[simp] theorem wp_put2 (pl : ρ → M (List Int × (List Int → ρ))) (fi fj f g : ρ → M Int) (r : ρ) : wp (fPut2 (R := R) pl fi fj f g r) N T0 B C = val (f r) fun a => val (g r) fun b => val (pl r) fun lw => val (fi r) fun i => opt (putL lw.1 i a) fun l1 => val (pl (lw.2 l1)) fun lw2 => val (fj (lw.2 l1)) fun j => opt (putL lw2.1 j b) fun l2 => N (lw2.2 l2) := by simp [fPut2]
@[simp] theorem wq_put2 (pl : ρ → M (List Int × (List Int → ρ))) (fi fj f g : ρ → M Int) (r : ρ) : wq (fPut2 (R := R) pl fi fj f g r) N T B C = val (f r) fun a => val (g r) fun b => val (pl r) fun lw => val (fi r) fun i => opt (putL lw.1 i a) fun l1 => val (pl (lw.2 l1)) fun lw2 => val (fj (lw.2 l1)) fun j => opt (putL lw2.1 j b) fun l2 => N (lw2.2 l2) := by simp [fPut2]
@[simp] theorem val_runI {A : Type} (f : ρ → M (Fl ρ R)) (args : ρ → A) (r : ρ) (Q : R × A → Prop) : val (runI f args r) Q = wq (f r) (fun _ => False) (fun a r' => Q (a, args r')) (fun _ => False) (fun _ => False) := by
  unfold runI
  cases f r with
  | ok f => cases f <;> rfl
  | error e => rfl
@[simp] theorem val_runIU {A : Type} (f : ρ → M (Fl ρ Unit)) (args : ρ → A) (r : ρ) (Q : Unit × A → Prop) : val (runIU f args r) Q = wq (f r) (fun r' => Q ((), args r')) (fun a r' => Q (a, args r')) (fun _ => False) (fun _ => False) := by
  unfold runIU
  cases f r with
  | ok f => cases f <;> rfl
  | error e => rfl
end
@[simp] theorem opt_isBB (x y : Bool) (Q : Bool → Prop) : opt (isBB x y) Q = Q (decide (x = y)) := id rfl
@[simp] theorem opt_isnBB (x y : Bool) (Q : Bool → Prop) : opt (isnBB x y) Q = Q (!decide (x = y)) := id rfl
@[simp] theorem opt_ixTp {α : Type} (t : Tp α) (i : Int) (Q : α → Prop) : opt (ixTp t i) Q = opt (ixL t.l i) Q := id rfl
@[simp] theorem opt_sortR (l : List Int) (Q : List Int → Prop) : opt (sortR l) Q = Q (l.mergeSort fun a b => decide (b ≤ a)) := id rfl
@[simp] theorem opt_sortP (l : List (Int × Int)) (Q : List (Int × Int) → Prop) : opt (sortP l) Q = Q (l.mergeSort leP) := id rfl
theorem opt_insE {α : Type} {l : List α} {i : Int} {a : α} {Q : List α → Prop} (h : l.length < 2 ^ 24 ∧ 0 ≤ i ∧ i < 2 ^ 62) : opt (insL l i a) Q = Q (l.take i.toNat ++ [a] ++ l.drop i.toNat) := by
  unfold insL
  rw [if_pos h]
  rfl
/-- with what is known of the part, the whole -/
theorem val_call {α : Type} {m : M α} {P : α → Prop} {Q : α → Prop} (h : val m P) (k : ∀ a, P a → Q a) : val m Q := val_mono h k
section
variable {ρ R : Type} {N : ρ → Prop} {B C : ρ → Prop}
/-- step by step -/
theorem wq_step {T : R → ρ → Prop} {f g : ρ → M (Fl ρ R)} {r : ρ} (P : ρ → Prop) (h : wq (f r) P T B C) (k : ∀ r', P r' → wq (g r') N T B C) : wq (fSeq f g r) N T B C := by
  rw [wq_seq]
  exact wq_mono h k (fun _ _ x => x) (fun _ x => x) (fun _ x => x)
theorem wp_step {T : R → Prop} {f g : ρ → M (Fl ρ R)} {r : ρ} (P : ρ → Prop) (h : wp (f r) P T B C) (k : ∀ r', P r' → wp (g r') N T B C) : wp (fSeq f g r) N T B C := by
  rw [wp_seq]
  exact wp_mono h k (fun _ x => x) (fun _ x => x) (fun _ x => x)
end
@[simp] theorem val_runRU {ρ : Type} (f : ρ → M (Fl ρ Unit)) (r : ρ) (Q : Unit → Prop) : val (runRU f r) Q = wp (f r) (fun _ => Q ()) Q (fun _ => False) (fun _ => False) := by
  unfold runRU
  cases f r with
  | ok f => cases f <;> rfl
  | error e => rfl
section
variable {ρ α β γ R : Type}
/-- .. where each thing is changed for itself, and the rest of the slots as P says -/
theorem wq_forM {get : ρ → List β} {setl : List β → ρ → ρ} {set : Int → β → ρ → ρ} {getb : ρ → β} {body : ρ → M (Fl ρ R)} {N : ρ → Prop} {T : R → ρ → Prop} {B C : ρ → Prop} {r : ρ} (g : Nat → β → β) (P : ρ → Prop) (h0 : P r)
    (hs : ∀ (n : Nat) b r', (get r)[n]? = some b → P r' → wq (body (set (n : Int) b r')) (fun r' => getb r' = g n b ∧ P r') T (fun _ => False) (fun r' => getb r' = g n b ∧ P r')) (hN : ∀ r', P r' → N (setl ((List.range (get r).length).zipWith g (get r)) r')) : wq (fForM get setl set getb body r) N T B C := by
  unfold fForM
  suffices ∀ (l dn : List β) (r' : ρ), (∀ n : Nat, l[n]? = (get r)[dn.length + n]?) → P r' → (∀ r', P r' → N (setl (dn ++ ((List.range' dn.length l.length).zipWith g l)) r')) → wq (loopM setl set getb body dn l r') N T B C from this (get r) [] r (fun n => by simp) h0 (by simpa [List.range_eq_range'] using hN)
  intro l
  induction l with
  | nil => intro dn r' _ h hN; have := hN r' h; simp at this; exact this
  | cons b l ih =>
    intro dn r' hl h hN
    have hl' : ∀ (x : β) (n : Nat), l[n]? = (get r)[(dn ++ [x]).length + n]? := fun x n => by
      have := hl (n + 1)
      rw [List.getElem?_cons_succ] at this
      rw [this, List.length_append]
      congr 1
      simp
      omega
    have h := hs dn.length b r' (by have := hl 0; rw [Nat.add_zero] at this; rw [← this]; rfl) h
    unfold loopM
    cases hb : body (set (dn.length : Int) b r') with
    | error e => rw [hb] at h; exact h.elim
    | ok f =>
      rw [hb] at h
      cases f with
      | nx r2 =>
        refine ih _ _ (hl' _) h.2 fun r3 p3 => ?_
        have := hN r3 p3
        rw [List.length_cons, List.range'_succ, List.zipWith_cons_cons, ← h.1] at this
        rw [List.length_append, List.append_assoc]
        exact this
      | ct r2 =>
        refine ih _ _ (hl' _) h.2 fun r3 p3 => ?_
        have := hN r3 p3
        rw [List.length_cons, List.range'_succ, List.zipWith_cons_cons, ← h.1] at this
        rw [List.length_append, List.append_assoc]
        exact this
      | bk r2 => exact h.elim
      | rt a r2 => exact h
end
section
variable {ρ α : Type}
@[simp] theorem val_ePop (get : ρ → List α) (set : List α → ρ → ρ) (f : ρ → M (Int × ρ)) (r : ρ) (Q : α × ρ → Prop) : val (ePop get set f r) Q = val (f r) fun ir => opt (popL (get ir.2) ir.1) fun al => Q (al.1, set al.2 ir.2) := by simp [ePop]
theorem opt_popE {l : List α} {i : Int} {a : α} {Q : α × List α → Prop} (h : 0 ≤ i ∧ i < 2 ^ 62) (h2 : l[i.toNat]? = some a) : opt (popL l i) Q = Q (a, l.eraseIdx i.toNat) := by
  unfold popL
  rw [if_pos h, h2]
  rfl
end
section
variable {ρ α β γ R : Type}
/-- a while, by a bound on its turns -/
theorem wq_while {c : ρ → M (Bool × ρ)} {body : ρ → M (Fl ρ R)} {N : ρ → Prop} {T : R → ρ → Prop} {B C : ρ → Prop} (P : Nat → ρ → Prop) {k : Nat} {r : ρ} (h0 : P k r)
    (hs : ∀ n r, P n r → val (c r) fun br => if br.1 then 0 < n ∧ wq (body br.2) (P (n - 1)) T N (P (n - 1)) else N br.2) {m : Nat} (hm : k < m) : wq (whileN c body m r) N T B C := by
  induction m generalizing k r with
  | zero => omega
  | succ m ih =>
    have h := hs k r h0
    unfold whileN
    cases hc : c r with
    | error e => rw [hc] at h; exact h.elim
    | ok br =>
      rw [hc] at h
      simp only [val_ok] at h
      show wq (if br.1 then _ else _) N T B C
      split
      · rename_i hb
        rw [if_pos hb] at h
        have h2 := h.2
        have hn := h.1
        cases hb : body br.2 with
        | error e => rw [hb] at h2; exact h2.elim
        | ok f =>
          rw [hb] at h2
          cases f with
          | nx r' => exact ih h2 (by omega)
          | ct r' => exact ih h2 (by omega)
          | bk r' => exact h2
          | rt a r' => exact h2
      · rename_i hb
        rw [if_neg hb] at h
        exact h
end
section
variable {ρ R α : Type} (N : ρ → Prop) (T : R → ρ → Prop) (B C : ρ → Prop) (T0 : R → Prop)
@[simp] theorem wp_dput (get : ρ → Dc α) (set : Dc α → ρ → ρ) (fk : ρ → M Int) (fv : ρ → M α) (r : ρ) : wp (fDput (R := R) get set fk fv r) N T0 B C = val (fv r) fun v => val (fk r) fun k => opt (putDo (get r) k v) fun d => N (set d r) := by simp [fDput]
@[simp] theorem wq_dput (get : ρ → Dc α) (set : Dc α → ρ → ρ) (fk : ρ → M Int) (fv : ρ → M α) (r : ρ) : wq (fDput (R := R) get set fk fv r) N T B C = val (fv r) fun v => val (fk r) fun k => opt (putDo (get r) k v) fun d => N (set d r) := by simp [fDput]
@[simp] theorem opt_inD (k : Int) (d : Dc α) (Q : Bool → Prop) : opt (inD k d) Q = Q (getDl d.l k).isSome := id rfl
@[simp] theorem opt_ninD (k : Int) (d : Dc α) (Q : Bool → Prop) : opt (ninD k d) Q = Q (!(getDl d.l k).isSome) := id rfl
@[simp] theorem opt_lenD (d : Dc α) (Q : Int → Prop) : opt (lenD d) Q = Q (d.l.length : Int) := id rfl
@[simp] theorem opt_getDo (d : Dc α) (k : Int) (Q : α → Prop) : opt (getDo d k) Q = opt (getDl d.l k) Q := id rfl
@[simp] theorem opt_and (x y : Int) (Q : Int → Prop) : opt (andI x y) Q = Q (PySem.Builtin.bitAnd x y) := id rfl
theorem opt_putDE {d : Dc α} {k : Int} {v : α} {Q : Dc α → Prop} (h : d.l.length < 2 ^ 24) : opt (putDo d k v) Q = Q ⟨putDl d.l k v⟩ := by
  unfold putDo
  rw [if_pos h]
  rfl
theorem opt_sortDE {d : Dc α} {Q : List Int → Prop} (h : d.l.length < 64) : opt (sortD d) Q = Q ((d.l.map (·.1)).mergeSort fun a b => decide (a ≤ b)) := by
  unfold sortD
  rw [if_pos h]
  rfl
theorem opt_shlE {x y : Int} {Q : Int → Prop} (h : 0 ≤ y ∧ y ≤ 1000000 ∧ x.natAbs < 2 ^ 64) : opt (shlI x y) Q = Q (x * 2 ^ y.toNat) := by
  unfold shlI
  rw [if_pos h]
  rfl
theorem opt_shrE {x y : Int} {Q : Int → Prop} (h : 0 ≤ y) : opt (shrI x y) Q = Q (x / 2 ^ y.toNat) := by
  unfold shrI
  rw [if_pos h]
  rfl
end
/-- the keys -/
def keysL {α : Type} (l : List (Int × α)) : List Int := l.map (·.1)
theorem keys_put {α : Type} (l : List (Int × α)) (k : Int) (v : α) : keysL (putDl l k v) = if k ∈ keysL l then keysL l else keysL l ++ [k] := by
  unfold putDl keysL
  have e : (l.any fun x => decide (x.1 = k)) = decide (k ∈ l.map (·.1)) := by
    rw [Bool.eq_iff_iff, List.any_eq_true, decide_eq_true_eq, List.mem_map]
    constructor
    · rintro ⟨x, hx, h⟩
      exact ⟨x, hx, of_decide_eq_true h⟩
    · rintro ⟨x, hx, h⟩
      exact ⟨x, hx, decide_eq_true h⟩
  rw [e]
  by_cases h : k ∈ l.map (·.1)
  · rw [decide_eq_true h, if_pos rfl, if_pos h, List.map_map]
    refine List.map_congr_left fun x _ => ?_
    show (if x.1 = k then (x.1, v) else x).1 = x.1
    split <;> rfl
  · rw [decide_eq_false h, if_neg Bool.false_ne_true, if_neg h, List.map_append]
    rfl
theorem keys_mem {α : Type} {l : List (Int × α)} {k : Int} {v : α} {x : Int} : x ∈ keysL (putDl l k v) ↔ x = k ∨ x ∈ keysL l := by
  rw [keys_put]
  split
  · rename_i h
    exact ⟨fun z => .inr z, fun z => z.elim (fun e => by rw [e]; exact h) fun z => z⟩
  · rw [List.mem_append, List.mem_singleton]
    exact Or.comm
theorem keys_nodup {α : Type} {l : List (Int × α)} {k : Int} {v : α} (h : (keysL l).Nodup) : (keysL (putDl l k v)).Nodup := by
  rw [keys_put]
  split
  · exact h
  · rename_i hk
    refine List.nodup_append.mpr ⟨h, List.nodup_cons.mpr ⟨by simp, List.nodup_nil⟩, fun x hx y hy e => ?_⟩
    rw [List.mem_singleton.mp hy] at e
    exact hk (by rw [← e]; exact hx)
theorem nodup_few {l : List Int} (h : l.Nodup) {n : Nat} (hb : ∀ x ∈ l, 0 ≤ x ∧ x < (n : Int)) : l.length ≤ n := by
  have h1 := nodup_ssort.mpr h
  have h2 := ssort_len l
  rcases few (ssort_sorted l) (fun x hx => hb x (ssort_mem.mp hx)) with z | z
  · omega
  · rw [z] at h1
    simp at h1
    rw [h1]
    exact Nat.zero_le _
theorem sort_nodup {l : List Int} (h : l.Nodup) : (l.mergeSort fun a b => decide (a ≤ b)) = ssort l := by
  have hp : (l.mergeSort fun a b => decide (a ≤ b)).Perm l := List.mergeSort_perm _ _
  refine rising_eq (up_of_le (ms_sorted l) (hp.nodup_iff.mpr h)) (ssort_sorted l) fun k => ?_
  rw [ssort_mem, hp.mem_iff]
theorem ssort_congr {l m : List Int} (h : ∀ x, x ∈ l ↔ x ∈ m) : ssort l = ssort m := rising_eq (ssort_sorted l) (ssort_sorted m) fun k => by rw [ssort_mem, ssort_mem, h]
end VL
/-! rows of whole numbers: what they span, how great a lessened row is -/
namespace VL
abbrev Vc := Nat → Int
def cb (a : Int) (u : Vc) (b : Int) (v : Vc) : Vc := fun j => a * u j + b * v j
inductive Sp (G : Vc → Prop) : Vc → Prop
  | zero : Sp G (fun _ => 0)
  | mem {u : Vc} : G u → Sp G u
  | comb {u v : Vc} (a b : Int) : Sp G u → Sp G v → Sp G (cb a u b v)
  | div {u : Vc} (c : Int) : c ≠ 0 → Sp G (fun j => c * u j) → Sp G u
theorem Sp.scale {G : Vc → Prop} {u : Vc} (h : Sp G u) (a : Int) : Sp G (fun j => a * u j) := by
  have := Sp.comb a 0 h h
  have e : cb a u 0 u = fun j => a * u j := by funext j; show a * u j + 0 * u j = a * u j; omega
  rwa [e] at this
theorem Sp.of_eq {G : Vc → Prop} {u v : Vc} (h : Sp G u) (e : ∀ j, u j = v j) : Sp G v := by
  have : u = v := funext e
  rwa [← this]
theorem Sp.mono {G H : Vc → Prop} {v : Vc} (h : Sp G v) (k : ∀ u, G u → Sp H u) : Sp H v := by
  induction h with
  | zero => exact .zero
  | mem g => exact k _ g
  | comb a b _ _ i1 i2 => exact .comb a b i1 i2
  | div c hc _ i => exact .div c hc i
theorem Sp.sub {G H : Vc → Prop} {v : Vc} (h : Sp G v) (k : ∀ u, G u → H u) : Sp H v := h.mono fun u g => .mem (k u g)
theorem Sp.none {G : Vc → Prop} {v : Vc} (h : Sp G v) (k : ∀ u, ¬ G u) : ∀ j, v j = 0 := by
  induction h with
  | zero => exact fun _ => rfl
  | mem g => exact absurd g (k _)
  | comb a b _ _ i1 i2 => exact fun j => by show a * _ + b * _ = 0; rw [i1 j, i2 j]; simp
  | div c hc _ i => exact fun j => (Int.mul_eq_zero.mp (i j)).resolve_left hc
def Gp (G : Vc → Prop) (l : Vc) : Vc → Prop := fun u => G u ∨ u = l
theorem Sp.dec {G : Vc → Prop} {l v : Vc} (h : Sp (Gp G l) v) : ∃ c a : Int, c ≠ 0 ∧ Sp G (cb c v a l) := by
  induction h with
  | zero => exact ⟨1, 0, by decide, Sp.zero.of_eq fun j => by simp [cb]⟩
  | mem g =>
    rcases g with g | g
    · exact ⟨1, 0, by decide, (Sp.mem g).of_eq fun j => by simp [cb]⟩
    · subst g
      exact ⟨1, -1, by decide, Sp.zero.of_eq fun j => by simp only [cb]; omega⟩
  | @comb u v a b _ _ i1 i2 =>
    obtain ⟨c1, a1, h1, s1⟩ := i1
    obtain ⟨c2, a2, h2, s2⟩ := i2
    refine ⟨c1 * c2, a * c2 * a1 + b * c1 * a2, Int.mul_ne_zero h1 h2, (Sp.comb (a * c2) (b * c1) s1 s2).of_eq fun j => ?_⟩
    simp only [cb]
    simp only [Int.mul_add, Int.add_mul, Int.mul_assoc, Int.mul_left_comm, Int.mul_comm]
    omega
  | @div u c hc _ i =>
    obtain ⟨c1, a1, h1, s1⟩ := i
    refine ⟨c1 * c, a1, Int.mul_ne_zero h1 hc, s1.of_eq fun j => ?_⟩
    simp only [cb]
    rw [Int.mul_assoc]
/-- pivot, row kept, row that it came from -/
abbrev Ent := Nat → Option (Nat × Vc × Vc)
def Gen (e : Ent) (n : Nat) : Vc → Prop := fun u => ∃ i, i < n ∧ ∃ c r, e i = some (c, u, r)
def Org (e : Ent) (n : Nat) : Vc → Prop := fun u => ∃ i, i < n ∧ ∃ c l, e i = some (c, l, u)
def zAt (e : Ent) (n : Nat) (v : Vc) : Prop := ∀ i, i < n → ∀ c l r, e i = some (c, l, r) → v c = 0
structure TriAt (e : Ent) (i c : Nat) (l r : Vc) : Prop where
  piv : l c ≠ 0
  zer : zAt e i l
  lr : Sp (Gp (Gen e i) r) l
  rl : Sp (Gp (Gen e i) l) r
def Tri (e : Ent) (n : Nat) : Prop := ∀ i, i < n → ∀ c l r, e i = some (c, l, r) → TriAt e i c l r
theorem Tri.less {e : Ent} {n m : Nat} (h : Tri e n) (hm : m ≤ n) : Tri e m := fun i hi => h i (Nat.lt_of_lt_of_le hi hm)
theorem zAt.less {e : Ent} {n m : Nat} {v : Vc} (h : zAt e n v) (hm : m ≤ n) : zAt e m v := fun i hi => h i (Nat.lt_of_lt_of_le hi hm)
theorem Gen.more {e : Ent} {n m : Nat} {u : Vc} (h : Gen e n u) (hm : n ≤ m) : Gen e m u := let ⟨i, hi, k⟩ := h; ⟨i, Nat.lt_of_lt_of_le hi hm, k⟩
theorem gen_none {e : Ent} {n : Nat} {u : Vc} (h : Gen e (n + 1) u) (hn : e n = none) : Gen e n u := by
  obtain ⟨i, hi, c, r, k⟩ := h
  by_cases q : i = n
  · subst q; rw [hn] at k; cases k
  · exact ⟨i, by omega, c, r, k⟩
theorem gen_some {e : Ent} {n c : Nat} {l r u : Vc} (h : Gen e (n + 1) u) (hn : e n = some (c, l, r)) : Gp (Gen e n) l u := by
  obtain ⟨i, hi, c', r', k⟩ := h
  by_cases q : i = n
  · subst q; rw [hn] at k; cases k; exact .inr rfl
  · exact .inl ⟨i, by omega, c', r', k⟩
theorem cb_zero {e : Ent} {n : Nat} {u v : Vc} {a b : Int} (h : zAt e n u) (g : zAt e n v) : zAt e n (cb a u b v) := fun i hi c l r k => by
  show a * u c + b * v c = 0
  rw [h i hi c l r k, g i hi c l r k]
  simp
theorem tri0 {e : Ent} {n : Nat} (T : Tri e n) {v : Vc} (h : Sp (Gen e n) v) (z : zAt e n v) : ∀ j, v j = 0 := by
  induction n generalizing v with
  | zero => exact h.none fun u ⟨i, hi, _⟩ => by omega
  | succ n ih =>
    cases q : e n with
    | none => exact ih (T.less (Nat.le_succ n)) (h.sub fun u g => gen_none g q) (z.less (Nat.le_succ n))
    | some t =>
      obtain ⟨c, l, r⟩ := t
      obtain ⟨k, a, hk, s⟩ := (h.sub fun u g => gen_some g q).dec
      have t := T n (Nat.lt_succ_self n) c l r q
      have e0 := ih (T.less (Nat.le_succ n)) s (cb_zero (z.less (Nat.le_succ n)) t.zer)
      have e1 : k * v c + a * l c = 0 := e0 c
      rw [z n (Nat.lt_succ_self n) c l r q, Int.mul_zero, Int.zero_add] at e1
      have ea : a = 0 := (Int.mul_eq_zero.mp e1).resolve_right t.piv
      intro j
      have e2 : k * v j + a * l j = 0 := e0 j
      rw [ea, Int.zero_mul, Int.add_zero] at e2
      exact (Int.mul_eq_zero.mp e2).resolve_left hk
theorem uniq {e : Ent} {n : Nat} (T : Tri e n) {w ρ : Vc} (h : Sp (Gp (Gen e n) ρ) w) (zw : zAt e n w) (zr : zAt e n ρ) : ∃ c a : Int, c ≠ 0 ∧ ∀ j, c * w j + a * ρ j = 0 := by
  obtain ⟨c, a, hc, s⟩ := h.dec
  exact ⟨c, a, hc, tri0 T s (cb_zero zw zr)⟩
theorem org_gen {e : Ent} {n : Nat} (T : Tri e n) {v : Vc} (h : Org e n v) : Sp (Gen e n) v := by
  obtain ⟨i, hi, c, l, k⟩ := h
  exact (T i hi c l v k).rl.mono fun u g => by
    rcases g with g | g
    · exact .mem (g.more (by omega))
    · subst g
      exact .mem ⟨i, hi, c, v, k⟩
theorem gen_org {e : Ent} {n : Nat} (T : Tri e n) {v : Vc} (h : Gen e n v) : Sp (Org e n) v := by
  induction n generalizing v with
  | zero => obtain ⟨i, hi, _⟩ := h; omega
  | succ n ih =>
    obtain ⟨i, hi, c, r, k⟩ := h
    refine (T i hi c v r k).lr.mono fun u g => ?_
    rcases g with g | g
    · have := ih (T.less (Nat.le_succ n)) (g.more (m := n) (by omega))
      exact this.sub fun u ⟨i, hi, q⟩ => ⟨i, by omega, q⟩
    · subst g
      exact .mem ⟨i, hi, c, v, k⟩
/-! sums of rows -/
def dotV : List Int → List Vc → Vc
  | a :: x, u :: L => fun j => a * u j + dotV x L j
  | _, _ => fun _ => 0
theorem dotV_app : ∀ {x : List Int} {L : List Vc} {a : Int} {u : Vc}, x.length = L.length → ∀ j, dotV (x ++ [a]) (L ++ [u]) j = dotV x L j + a * u j
  | [], [], a, u, _, j => by simp [dotV]
  | b :: x, v :: L, a, u, h, j => by
    have := dotV_app (x := x) (L := L) (a := a) (u := u) (by simpa using h) j
    show b * v j + dotV (x ++ [a]) (L ++ [u]) j = b * v j + dotV x L j + a * u j
    rw [this]
    omega
  | [], _ :: _, _, _, h, _ => by simp at h
  | _ :: _, [], _, _, h, _ => by simp at h
theorem dotV_sub : ∀ {x y : List Int} {L : List Vc}, x.length = L.length → y.length = L.length → ∀ j, dotV (List.zipWith (· - ·) x y) L j = dotV x L j - dotV y L j
  | [], [], [], _, _, j => by simp [dotV]
  | a :: x, b :: y, u :: L, h1, h2, j => by
    have := dotV_sub (x := x) (y := y) (L := L) (by simpa using h1) (by simpa using h2) j
    show (a - b) * u j + dotV (List.zipWith (· - ·) x y) L j = (a * u j + dotV x L j) - (b * u j + dotV y L j)
    rw [this, Int.sub_mul]
    omega
  | [], _ :: _, [], _, h, _ => by simp at h
  | _ :: _, _, [], h, _, _ => by simp at h
  | [], _, _ :: _, h, _, _ => by simp at h
  | _, [], _ :: _, _, h, _ => by simp at h
theorem dotV_sp : ∀ {x : List Int} {L : List Vc}, Sp (· ∈ L) (dotV x L)
  | [], L => by unfold dotV; exact .zero
  | _ :: _, [] => by unfold dotV; exact .zero
  | a :: x, u :: L => by
    have := Sp.comb a 1 (Sp.mem (G := (· ∈ u :: L)) (u := u) List.mem_cons_self) ((dotV_sp (x := x) (L := L)).sub fun v hv => List.mem_cons_of_mem _ hv)
    exact this.of_eq fun j => by show a * u j + 1 * dotV x L j = _; rw [Int.one_mul]; rfl
theorem dotV_bd {A B : Nat} : ∀ {x : List Int} {L : List Vc} {j : Nat}, (∀ a ∈ x, a.natAbs ≤ A) → (∀ u ∈ L, (u j).natAbs ≤ B) → (dotV x L j).natAbs ≤ x.length * (A * B)
  | [], _, _, _, _ => by simp [dotV]
  | _ :: _, [], _, _, _ => by simp [dotV]
  | a :: x, u :: L, j, h1, h2 => by
    have ih := dotV_bd (x := x) (L := L) (j := j) (fun z hz => h1 z (List.mem_cons_of_mem _ hz)) (fun z hz => h2 z (List.mem_cons_of_mem _ hz))
    have hm : (a * u j).natAbs ≤ A * B := by
      rw [Int.natAbs_mul]
      exact Nat.mul_le_mul (h1 a List.mem_cons_self) (h2 u List.mem_cons_self)
    have e : dotV (a :: x) (u :: L) j = a * u j + dotV x L j := rfl
    rw [e, List.length_cons, Nat.add_mul, Nat.one_mul]
    have := Int.natAbs_add_le (a * u j) (dotV x L j)
    omega
/-- no row is made of those ahead -/
inductive NIn : List Vc → Prop
  | nil : NIn []
  | snoc {L : List Vc} {v : Vc} : NIn L → ¬ Sp (· ∈ L) v → NIn (L ++ [v])
theorem NIn.zero {L : List Vc} (h : NIn L) {x : List Int} (hl : x.length = L.length) (z : ∀ j, dotV x L j = 0) : ∀ a ∈ x, a = 0 := by
  induction h generalizing x with
  | nil =>
    intro a ha
    rw [List.length_nil] at hl
    rw [List.eq_nil_of_length_eq_zero hl] at ha
    cases ha
  | @snoc L v _ hn ih =>
    rcases List.eq_nil_or_concat x with e | ⟨x', a, e⟩
    · subst e; simp at hl
    · subst e
      rw [List.concat_eq_append] at hl z ⊢
      have hl' : x'.length = L.length := by simpa using hl
      have ea : a = 0 := by
        by_cases ha : a = 0
        · exact ha
        · refine absurd ?_ hn
          refine .div a ha (((dotV_sp (x := x') (L := L)).scale (-1)).of_eq fun j => ?_)
          have := z j
          rw [dotV_app hl'] at this
          omega
      subst ea
      have z' : ∀ j, dotV x' L j = 0 := fun j => by
        have := z j
        rw [dotV_app hl'] at this
        simpa using this
      intro b hb
      rcases List.mem_append.mp hb with hb | hb
      · exact ih hl' z' b hb
      · rw [List.mem_singleton.mp hb]
/-! small numbers by counting -/
def dg (X : Nat) : Nat → Nat → List Int
  | 0, _ => []
  | K + 1, n => ((n % 2 ^ X : Nat) : Int) :: dg X K (n / 2 ^ X)
theorem dg_len (X : Nat) : ∀ K n, (dg X K n).length = K
  | 0, _ => rfl
  | K + 1, n => by unfold dg; rw [List.length_cons, dg_len]
theorem dg_bd (X : Nat) : ∀ K n, ∀ a ∈ dg X K n, 0 ≤ a ∧ a < 2 ^ X
  | 0, _ => fun a ha => nomatch ha
  | K + 1, n => fun a ha => by
    unfold dg at ha
    rcases List.mem_cons.mp ha with e | ha
    · rw [e]
      have h := Nat.mod_lt n (Nat.two_pow_pos X)
      refine ⟨Int.natCast_nonneg _, ?_⟩
      have h2 : ((n % 2 ^ X : Nat) : Int) < ((2 ^ X : Nat) : Int) := Int.ofNat_lt.mpr h
      rw [Int.natCast_pow] at h2
      exact h2
    · exact dg_bd X K _ a ha
theorem dg_inj (X : Nat) : ∀ K n m, n < 2 ^ (X * K) → m < 2 ^ (X * K) → dg X K n = dg X K m → n = m
  | 0, n, m, h1, h2, _ => by rw [Nat.mul_zero, Nat.pow_zero] at h1 h2; omega
  | K + 1, n, m, h1, h2, h => by
    unfold dg at h
    obtain ⟨e1, e2⟩ := List.cons.inj h
    have e1 : n % 2 ^ X = m % 2 ^ X := Int.ofNat_inj.mp e1
    have up : ∀ q, q < 2 ^ (X * (K + 1)) → q / 2 ^ X < 2 ^ (X * K) := fun q hq => by
      rw [Nat.div_lt_iff_lt_mul (Nat.two_pow_pos X), ← Nat.pow_add]
      exact hq
    have e3 := dg_inj X K _ _ (up n h1) (up m h2) e2
    rw [← Nat.div_add_mod n (2 ^ X), ← Nat.div_add_mod m (2 ^ X), e1, e3]
def en (S : Nat) : List Nat → Nat
  | [] => 0
  | v :: l => v + 2 ^ S * en S l
theorem en_bd (S : Nat) : ∀ {l : List Nat}, (∀ v ∈ l, v < 2 ^ S) → en S l < 2 ^ (S * l.length)
  | [], _ => by simp [en]
  | v :: l, h => by
    have ih := en_bd S (l := l) fun x hx => h x (List.mem_cons_of_mem _ hx)
    have hv := h v List.mem_cons_self
    unfold en
    rw [List.length_cons, Nat.mul_succ, Nat.add_comm (S * _) S, Nat.pow_add]
    have : 2 ^ S * (en S l + 1) ≤ 2 ^ S * 2 ^ (S * l.length) := Nat.mul_le_mul_left _ ih
    rw [Nat.mul_add, Nat.mul_one] at this
    omega
theorem en_inj (S : Nat) : ∀ {l m : List Nat}, l.length = m.length → (∀ v ∈ l, v < 2 ^ S) → (∀ v ∈ m, v < 2 ^ S) → en S l = en S m → l = m
  | [], [], _, _, _, _ => rfl
  | [], _ :: _, h, _, _, _ => by simp at h
  | _ :: _, [], h, _, _, _ => by simp at h
  | v :: l, w :: m, h, h1, h2, e => by
    unfold en at e
    have hv := h1 v List.mem_cons_self
    have hw := h2 w List.mem_cons_self
    have m1 : (v + 2 ^ S * en S l) % 2 ^ S = v := by rw [Nat.add_mul_mod_self_left, Nat.mod_eq_of_lt hv]
    have m2 : (w + 2 ^ S * en S m) % 2 ^ S = w := by rw [Nat.add_mul_mod_self_left, Nat.mod_eq_of_lt hw]
    have d1 : (v + 2 ^ S * en S l) / 2 ^ S = en S l := by rw [Nat.add_mul_div_left _ _ (Nat.two_pow_pos S), Nat.div_eq_of_lt hv, Nat.zero_add]
    have d2 : (w + 2 ^ S * en S m) / 2 ^ S = en S m := by rw [Nat.add_mul_div_left _ _ (Nat.two_pow_pos S), Nat.div_eq_of_lt hw, Nat.zero_add]
    rw [e] at m1 d1
    rw [m2] at m1
    rw [d2] at d1
    rw [m1, en_inj S (by simpa using h) (fun x hx => h1 x (List.mem_cons_of_mem _ hx)) (fun x hx => h2 x (List.mem_cons_of_mem _ hx)) d1.symm]
theorem pigeon {N M : Nat} (h : M < N) (f : Nat → Nat) (hf : ∀ n, n < N → f n < M) : ∃ i j, i < j ∧ j < N ∧ f i = f j := by
  refine Classical.byContradiction fun hn => ?_
  have nd : ((List.range N).map fun n => ((f n : Nat) : Int)).Nodup := by
    unfold List.Nodup
    rw [List.pairwise_map]
    refine List.Pairwise.imp_of_mem ?_ List.pairwise_lt_range
    intro a b ha hb hab e
    exact hn ⟨a, b, hab, List.mem_range.mp hb, Int.ofNat_inj.mp e⟩
  have := nodup_few (n := M) nd fun x hx => by
    obtain ⟨n, hn, e⟩ := List.mem_map.mp hx
    have := hf n (List.mem_range.mp hn)
    omega
  rw [List.length_map, List.length_range] at this
  omega
theorem small_sum {R : List Vc} {C : List Nat} {b t X : Nat} (hK : R.length ≤ 2 ^ t) (hX : (X + b + t + 2) * C.length < X * R.length) (hb : ∀ u ∈ R, ∀ c ∈ C, (u c).natAbs ≤ 2 ^ b) :
    ∃ x : List Int, x.length = R.length ∧ (∃ a ∈ x, a ≠ 0) ∧ (∀ a ∈ x, a.natAbs ≤ 2 ^ X) ∧ ∀ c ∈ C, dotV x R c = 0 := by
  let K := R.length
  let S := X + b + t + 2
  let off : Int := 2 ^ (X + b + t)
  have offN : off = ((2 ^ (X + b + t) : Nat) : Int) := by rw [Int.natCast_pow]; rfl
  have bd : ∀ n, ∀ c ∈ C, (dotV (dg X K n) R c).natAbs ≤ 2 ^ (X + b + t) := fun n c hc => by
    have h := dotV_bd (A := 2 ^ X) (B := 2 ^ b) (x := dg X K n) (L := R) (j := c) (fun a ha => by
      have := dg_bd X K n a ha
      have e : ((2 : Int) ^ X) = ((2 ^ X : Nat) : Int) := by rw [Int.natCast_pow]; rfl
      rw [e] at this
      omega) (fun u hu => hb u hu c hc)
    rw [dg_len] at h
    refine Nat.le_trans h ?_
    rw [Nat.pow_add, Nat.pow_add, Nat.mul_comm]
    exact Nat.mul_le_mul_left _ hK
  let F : Nat → Nat := fun n => en S (C.map fun c => (dotV (dg X K n) R c + off).toNat)
  have small : ∀ n, ∀ v ∈ C.map (fun c => (dotV (dg X K n) R c + off).toNat), v < 2 ^ S := fun n v hv => by
    obtain ⟨c, hc, e⟩ := List.mem_map.mp hv
    have := bd n c hc
    have h2 : 2 ^ S = 4 * 2 ^ (X + b + t) := by show 2 ^ (X + b + t + 2) = _; rw [Nat.pow_succ, Nat.pow_succ]; omega
    have h3 : 0 < 2 ^ (X + b + t) := Nat.two_pow_pos _
    rw [← e, h2]
    omega
  have big : 2 ^ (S * C.length) < 2 ^ (X * K) := Nat.pow_lt_pow_right (by decide) hX
  obtain ⟨i, j, hij, hj, e⟩ := pigeon big F fun n _ => by
    have := en_bd S (small n)
    rw [List.length_map] at this
    exact this
  have el := en_inj S (by rw [List.length_map, List.length_map]) (small i) (small j) e
  refine ⟨List.zipWith (· - ·) (dg X K i) (dg X K j), by rw [List.length_zipWith, dg_len, dg_len, Nat.min_self], ?_, fun a ha => ?_, fun c hc => ?_⟩
  · refine Classical.byContradiction fun hn => ?_
    have eq : dg X K i = dg X K j := by
      apply List.ext_getElem (by rw [dg_len, dg_len])
      intro q h1 h2
      refine Classical.byContradiction fun hq => hn ⟨(dg X K i)[q] - (dg X K j)[q], ?_, by omega⟩
      have h3 : q < (List.zipWith (· - ·) (dg X K i) (dg X K j)).length := by rw [List.length_zipWith]; omega
      have := List.getElem_mem h3
      rwa [List.getElem_zipWith] at this
    have := dg_inj X K i j (by omega) hj eq
    omega
  · obtain ⟨q, hq, e⟩ := List.getElem_of_mem ha
    rw [List.getElem_zipWith] at e
    rw [List.length_zipWith] at hq
    have a1 := dg_bd X K i _ (List.getElem_mem (show q < (dg X K i).length by omega))
    have a2 := dg_bd X K j _ (List.getElem_mem (show q < (dg X K j).length by omega))
    have e2 : ((2 : Int) ^ X) = ((2 ^ X : Nat) : Int) := by rw [Int.natCast_pow]; rfl
    rw [e2] at a1 a2
    rw [← e]
    omega
  · rw [dotV_sub (dg_len X K i) (dg_len X K j)]
    have h1 := List.map_inj_left.mp el c hc
    have b1 := bd i c hc
    have b2 := bd j c hc
    omega
/-! how great a lessened row is -/
/-- nothing but 1 divides all numbers of the row -/
def Prm (ρ : Vc) : Prop := ∀ c a : Int, (∀ j, c ∣ a * ρ j) → c ∣ a
def rowsOf (e : Ent) (n : Nat) : List Vc := ((List.range n).filterMap e).map fun t => t.2.2
theorem rowsOf_some {e : Ent} {n c : Nat} {l r : Vc} (h : e n = some (c, l, r)) : rowsOf e (n + 1) = rowsOf e n ++ [r] := by
  unfold rowsOf
  rw [List.range_succ, List.filterMap_append, List.map_append]
  congr 1
  simp [h]
theorem rowsOf_none {e : Ent} {n : Nat} (h : e n = none) : rowsOf e (n + 1) = rowsOf e n := by
  unfold rowsOf
  rw [List.range_succ, List.filterMap_append, List.map_append]
  simp [h]
theorem rowsOf_mem {e : Ent} {n : Nat} {u : Vc} : u ∈ rowsOf e n ↔ Org e n u := by
  unfold rowsOf Org
  rw [List.mem_map]
  constructor
  · rintro ⟨⟨c, l, r⟩, ht, e2⟩
    obtain ⟨i, hi, k⟩ := List.mem_filterMap.mp ht
    cases e2
    exact ⟨i, List.mem_range.mp hi, c, l, k⟩
  · rintro ⟨i, hi, c, l, k⟩
    exact ⟨(c, l, u), List.mem_filterMap.mpr ⟨i, List.mem_range.mpr hi, k⟩, rfl⟩
theorem rowsOf_len (e : Ent) (n : Nat) : (rowsOf e n).length ≤ n := by
  unfold rowsOf
  rw [List.length_map]
  exact Nat.le_trans (List.length_filterMap_le _ _) (by rw [List.length_range]; exact Nat.le_refl _)
theorem rowsOf_in {e : Ent} {n : Nat} (T : Tri e n) : NIn (rowsOf e n) := by
  induction n with
  | zero => exact .nil
  | succ n ih =>
    have ih := ih (T.less (Nat.le_succ n))
    cases q : e n with
    | none => rw [rowsOf_none q]; exact ih
    | some t =>
      obtain ⟨c, l, r⟩ := t
      rw [rowsOf_some q]
      refine .snoc ih fun hs => ?_
      have T' := T.less (Nat.le_succ n)
      have t := T n (Nat.lt_succ_self n) c l r q
      have h1 : Sp (Gen e n) r := hs.mono fun u hu => org_gen T' (rowsOf_mem.mp hu)
      have h2 : Sp (Gen e n) l := t.lr.mono fun u g => g.elim (fun g => .mem g) fun g => by rw [g]; exact h1
      exact t.piv (tri0 T' h2 t.zer c)
theorem lessened_small {e : Ent} {n b t X : Nat} (T : Tri e n) {r ρ : Vc} (hr : Sp (Gp (Gen e n) ρ) r) (hρ : Sp (Gp (Gen e n) r) ρ) (z : zAt e n ρ) (hne : ∃ j, ρ j ≠ 0) (pr : Prm ρ)
    (hn : (rowsOf e n).length + 1 ≤ 2 ^ t) (hX : (X + b + t + 2) * (rowsOf e n).length < X * ((rowsOf e n).length + 1)) (hb : ∀ u, (Org e n u ∨ u = r) → ∀ c, (u c).natAbs ≤ 2 ^ b) (j : Nat) : (ρ j).natAbs ≤ 2 ^ (X + b + t) := by
  let R := rowsOf e n ++ [r]
  let C := ((List.range n).filterMap e).map fun t => t.1
  have hRl : R.length = (rowsOf e n).length + 1 := by show (rowsOf e n ++ [r]).length = _; rw [List.length_append]; rfl
  have hCl : C.length = (rowsOf e n).length := by show (List.map _ _).length = _; unfold rowsOf; rw [List.length_map, List.length_map]
  have hk := rowsOf_len e n
  have hm : ∀ u ∈ R, Org e n u ∨ u = r := fun u hu => (List.mem_append.mp hu).elim (fun h => .inl (rowsOf_mem.mp h)) fun h => .inr (List.mem_singleton.mp h)
  obtain ⟨x, hx1, hx2, hx3, hx4⟩ := small_sum (R := R) (C := C) (b := b) (t := t) (X := X) (by omega) (by rw [hCl, hRl]; exact hX) fun u hu c _ => hb u (hm u hu) c
  have nin : NIn R := .snoc (rowsOf_in T) fun hs => by
    have h1 : Sp (Gen e n) r := hs.mono fun u hu => org_gen T (rowsOf_mem.mp hu)
    have h2 : Sp (Gen e n) ρ := hρ.mono fun u g => g.elim (fun g => .mem g) fun g => by rw [g]; exact h1
    obtain ⟨j, hj⟩ := hne
    exact hj (tri0 T h2 z j)
  have wsp : Sp (Gp (Gen e n) ρ) (dotV x R) := dotV_sp.mono fun u hu => by
    rcases hm u hu with h | h
    · exact (org_gen T h).sub fun v g => .inl g
    · rw [h]; exact hr
  have wz : zAt e n (dotV x R) := fun i hi c l q k => hx4 c (by
    show c ∈ List.map _ _
    exact List.mem_map.mpr ⟨(c, l, q), List.mem_filterMap.mpr ⟨i, List.mem_range.mpr hi, k⟩, rfl⟩)
  obtain ⟨c, a, hc, hu⟩ := uniq T wsp wz z
  have hd : c ∣ a := pr c a fun i => by
    have := hu i
    exact ⟨-dotV x R i, by rw [Int.mul_neg]; omega⟩
  obtain ⟨q, eq⟩ := hd
  have hw : ∀ i, dotV x R i = -(q * ρ i) := fun i => by
    have := hu i
    rw [eq, Int.mul_assoc, ← Int.mul_add] at this
    have := (Int.mul_eq_zero.mp this).resolve_left hc
    omega
  have hq : q ≠ 0 := fun h0 => by
    obtain ⟨v, hv, hv0⟩ := hx2
    exact hv0 (nin.zero hx1 (fun i => by rw [hw i, h0]; simp) v hv)
  have h1 : (ρ j).natAbs ≤ (dotV x R j).natAbs := by
    rw [hw j, Int.natAbs_neg, Int.natAbs_mul]
    exact Nat.le_mul_of_pos_left _ (by omega)
  refine Nat.le_trans h1 (Nat.le_trans (dotV_bd (A := 2 ^ X) (B := 2 ^ b) hx3 fun u hu => hb u (hm u hu) j) ?_)
  rw [hx1, Nat.pow_add, Nat.pow_add, Nat.mul_comm]
  exact Nat.mul_le_mul_left _ (by omega)
/-! what the newer pieces run to -/
section
variable {ρ α β γ R : Type} (N : ρ → Prop) (T : R → ρ → Prop) (B C : ρ → Prop) (T0 : R → Prop)
@[simp] theorem val_eDget (get : ρ → Dc α) (fk : ρ → M Int) (r : ρ) (Q : α × ρ → Prop) : val (eDget get fk r) Q = val (fk r) fun k => opt (getDl (get r).l k) fun a => Q (a, r) := by simp [eDget, getDo]
@[simp] theorem val_eIxO (get : ρ → List α) (g : ρ → M (Int × ρ)) (r : ρ) (Q : α × ρ → Prop) : val (eIxO get g r) Q = val (g r) fun ir => opt (ixL (get ir.2) ir.1) fun a => Q (a, ir.2) := by simp [eIxO]
@[simp] theorem opt_isNo (o : Option α) (Q : Bool → Prop) : opt (isNo o) Q = Q o.isNone := id rfl
@[simp] theorem opt_isSo (o : Option α) (Q : Bool → Prop) : opt (isSo o) Q = Q (!o.isNone) := id rfl
@[simp] theorem opt_unO (o : Option α) (Q : α → Prop) : opt (unO o) Q = opt o Q := id rfl
@[simp] theorem opt_toO (a : α) (Q : Option α → Prop) : opt (toO a) Q = Q (some a) := id rfl
@[simp] theorem numF_id (l : List β) (n : Nat) : numF (fun _ b => b) n l = l := by
  induction l generalizing n with
  | nil => rfl
  | cons b l ih => unfold numF; rw [ih]
@[simp] theorem wq_forO (ret : Bool) (get : ρ → List β) (setl : List β → ρ → ρ) (ofI : Nat → β → γ) (set : γ → ρ → ρ) (f : ρ → M (Fl ρ R)) (r : ρ) : wq (fForO ret get setl ofI set f r) N T B C = wq (loop set f (numF ofI 0 (get r)) r) (fun r' => N (setl (get r) r')) (fun a r' => ret = true ∧ T a r') B C := by
  unfold fForO
  cases loop set f (numF ofI 0 (get r)) r with
  | error e => rfl
  | ok o => cases o with
    | nx r' => rfl
    | bk r' => rfl
    | ct r' => rfl
    | rt a r' => cases ret <;> simp [wq, bind, Except.bind]
@[simp] theorem wp_forO (ret : Bool) (get : ρ → List β) (setl : List β → ρ → ρ) (ofI : Nat → β → γ) (set : γ → ρ → ρ) (f : ρ → M (Fl ρ R)) (r : ρ) : wp (fForO ret get setl ofI set f r) N T0 B C = wp (loop set f (numF ofI 0 (get r)) r) (fun r' => N (setl (get r) r')) (fun a => ret = true ∧ T0 a) B C := by
  unfold fForO
  cases loop set f (numF ofI 0 (get r)) r with
  | error e => rfl
  | ok o => cases o with
    | nx r' => rfl
    | bk r' => rfl
    | ct r' => rfl
    | rt a r' => cases ret <;> simp [wp, bind, Except.bind]
end
theorem opt_fdivW {x y : Int} {Q : Int → Prop} (h : 0 < y) (h2 : y.natAbs.log2 < 9000) : opt (fdivI x y) Q = Q (x / y) := by
  unfold fdivI
  rw [if_pos (.inr ⟨h, h2⟩), Int.fdiv_eq_ediv_of_nonneg x (by omega)]
  rfl
/-! rows as functions; the greatest divisor -/
def vec (l : List Int) : Vc := fun j => l.getD j 0
theorem vec_get {l : List Int} {j : Nat} {a : Int} (h : l[j]? = some a) : vec l j = a := by
  unfold vec
  rw [List.getD_eq_getElem?_getD, h]
  rfl
theorem vec_out {l : List Int} {j : Nat} (h : l.length ≤ j) : vec l j = 0 := by
  unfold vec
  rw [List.getD_eq_getElem?_getD, List.getElem?_eq_none h]
  rfl
theorem vec_all {l : List Int} {P : Int → Prop} (h : ∀ x ∈ l, P x) (h0 : P 0) (j : Nat) : P (vec l j) := by
  cases q : l[j]? with
  | none => rw [vec_out (List.getElem?_eq_none_iff.mp q)]; exact h0
  | some a => rw [vec_get q]; exact h a (List.mem_of_getElem? q)
theorem vec_mem {l : List Int} {x : Int} (h : x ∈ l) : ∃ j, j < l.length ∧ vec l j = x := by
  obtain ⟨j, hj, e⟩ := List.getElem_of_mem h
  exact ⟨j, hj, vec_get (by rw [List.getElem?_eq_getElem hj, e])⟩
def gl (l : List Int) : Nat := l.foldl (fun g x => Nat.gcd g x.natAbs) 0
theorem gl_snoc (l : List Int) (x : Int) : gl (l ++ [x]) = Nat.gcd (gl l) x.natAbs := by unfold gl; rw [List.foldl_append]; rfl
theorem gl_rec {P : List Int → Nat → Prop} (h0 : P [] 0) (hs : ∀ l x g, P l g → P (l ++ [x]) (Nat.gcd g x.natAbs)) (l : List Int) : P l (gl l) := by
  suffices ∀ n, ∀ l : List Int, l.length = n → P l (gl l) from this l.length l rfl
  intro n
  induction n with
  | zero => intro l h; rw [List.eq_nil_of_length_eq_zero h]; exact h0
  | succ n ih =>
    intro l h
    rcases List.eq_nil_or_concat l with e | ⟨l', x, e⟩
    · subst e; simp at h
    · rw [List.concat_eq_append] at e
      subst e
      rw [gl_snoc]
      exact hs l' x _ (ih l' (by simpa using h))
theorem gl_dvd (l : List Int) : ∀ x ∈ l, ((gl l : Nat) : Int) ∣ x := by
  refine gl_rec (P := fun l g => ∀ x ∈ l, ((g : Nat) : Int) ∣ x) (fun x hx => nomatch hx) (fun l x g ih y hy => ?_) l
  rcases List.mem_append.mp hy with hy | hy
  · exact Int.dvd_trans (Int.ofNat_dvd.mpr (Nat.gcd_dvd_left g x.natAbs)) (ih y hy)
  · rw [List.mem_singleton.mp hy]
    exact Int.ofNat_dvd_left.mpr (Nat.gcd_dvd_right g x.natAbs)
theorem gl_zero {l : List Int} (h : gl l = 0) : ∀ x ∈ l, x = 0 := fun x hx => by
  have := gl_dvd l x hx
  rw [h] at this
  exact Int.zero_dvd.mp this
theorem gl_bd {B : Nat} {l : List Int} (h : ∀ x ∈ l, x.natAbs ≤ B) : gl l ≤ B := by
  refine gl_rec (P := fun l g => (∀ x ∈ l, x.natAbs ≤ B) → g ≤ B) (fun _ => Nat.zero_le _) (fun l x g ih h => ?_) l h
  have i := ih fun y hy => h y (List.mem_append_left _ hy)
  have hx := h x (List.mem_append_right _ List.mem_cons_self)
  by_cases q : g = 0
  · rw [q, Nat.gcd_zero_left]; exact hx
  · exact Nat.le_trans (Nat.le_of_dvd (by omega) (Nat.gcd_dvd_left g x.natAbs)) i
theorem gl_all {l : List Int} {c a : Int} (h : ∀ x ∈ l, c ∣ a * x) : c ∣ a * ((gl l : Nat) : Int) := by
  refine gl_rec (P := fun l g => (∀ x ∈ l, c ∣ a * x) → c ∣ a * ((g : Nat) : Int)) (fun _ => by simp) (fun l x g ih h => ?_) l h
  have i := ih fun y hy => h y (List.mem_append_left _ hy)
  have hx := h x (List.mem_append_right _ List.mem_cons_self)
  have i' : c.natAbs ∣ a.natAbs * g := by
    have := Int.natAbs_dvd_natAbs.mpr i
    rwa [Int.natAbs_mul, Int.natAbs_natCast] at this
  have hx' : c.natAbs ∣ a.natAbs * x.natAbs := by
    have := Int.natAbs_dvd_natAbs.mpr hx
    rwa [Int.natAbs_mul] at this
  have := Nat.dvd_gcd i' hx'
  rw [Nat.gcd_mul_left] at this
  refine Int.natAbs_dvd_natAbs.mp ?_
  rw [Int.natAbs_mul, Int.natAbs_natCast]
  exact this
/-- lessened by the greatest divisor -/
def lsn (l : List Int) : List Int := if gl l = 0 then l else l.map (· / ((gl l : Nat) : Int))
theorem lsn_len (l : List Int) : (lsn l).length = l.length := by
  unfold lsn
  split
  · rfl
  · rw [List.length_map]
theorem lsn_zero {l : List Int} (h : gl l = 0) : ∀ j, vec l j = 0 := fun j => vec_all (P := (· = 0)) (gl_zero h) rfl j
theorem lsn_vec (l : List Int) : ∃ g : Int, g ≠ 0 ∧ (∀ j, g * vec (lsn l) j = vec l j) ∧ ((∀ j, vec (lsn l) j = 0) ∨ Prm (vec (lsn l))) := by
  by_cases h : gl l = 0
  · refine ⟨1, by decide, fun j => ?_, .inl fun j => ?_⟩
    · unfold lsn
      rw [if_pos h, Int.one_mul]
    · unfold lsn
      rw [if_pos h]
      exact lsn_zero h j
  · have e : ∀ j, ((gl l : Nat) : Int) * vec (lsn l) j = vec l j := fun j => by
      unfold lsn
      rw [if_neg h]
      cases q : l[j]? with
      | none => rw [vec_out (by rw [List.length_map]; exact List.getElem?_eq_none_iff.mp q), vec_out (List.getElem?_eq_none_iff.mp q), Int.mul_zero]
      | some a =>
        rw [vec_get q, vec_get (a := a / ((gl l : Nat) : Int)) (by rw [List.getElem?_map, q]; rfl)]
        exact Int.mul_ediv_cancel' (gl_dvd l a (List.mem_of_getElem? q))
    refine ⟨_, by omega, e, .inr fun c a hc => ?_⟩
    have h1 : (c * ((gl l : Nat) : Int)) ∣ a * ((gl l : Nat) : Int) := by
      refine gl_all fun x hx => ?_
      obtain ⟨j, _, ej⟩ := vec_mem hx
      obtain ⟨q, eq⟩ := hc j
      refine ⟨q, ?_⟩
      rw [← ej, ← e j, Int.mul_left_comm, eq, Int.mul_left_comm, Int.mul_assoc, Int.mul_left_comm]
    exact Int.dvd_of_mul_dvd_mul_right (by omega) h1
/-- lead and row made one, nought at the pivot -/
def clr (row lead : List Int) (c : Nat) : List Int := (row.zip lead).map fun p => vec lead c * p.1 - vec row c * p.2
theorem clr_vec {row lead : List Int} {c : Nat} (hl : row.length = lead.length) (j : Nat) : vec (clr row lead c) j = vec lead c * vec row j - vec row c * vec lead j := by
  unfold clr
  cases q : row[j]? with
  | none =>
    have h := List.getElem?_eq_none_iff.mp q
    rw [vec_out (l := List.map _ _) (by rw [List.length_map, List.length_zip]; omega), vec_out h, vec_out (l := lead) (j := j) (by omega)]
    simp
  | some a =>
    have hj := (List.getElem?_eq_some_iff.mp q).1
    have hj2 : j < lead.length := by omega
    have q2 : lead[j]? = some lead[j] := List.getElem?_eq_getElem hj2
    rw [vec_get q, vec_get q2, vec_get (a := vec lead c * a - vec row c * lead[j])]
    rw [List.getElem?_map, List.getElem?_zip_eq_some (z := (a, lead[j])).mpr ⟨q, q2⟩]
    rfl
theorem clr_len {row lead : List Int} {c : Nat} (hl : row.length = lead.length) : (clr row lead c).length = row.length := by
  unfold clr
  rw [List.length_map, List.length_zip]
  omega
/-! ### a row on its way through the leads -/
def Bq (b N : Nat) : Nat := (b + 6) * N + b + 5
theorem Bq_le (b N : Nat) : b ≤ Bq b N := by unfold Bq; omega
structure ROk (e : Ent) (i m B : Nat) (r0 ρ : List Int) : Prop where
  len : ρ.length = m
  z : zAt e i (vec ρ)
  fw : Sp (Gp (Gen e i) (vec r0)) (vec ρ)
  bw : Sp (Gp (Gen e i) (vec ρ)) (vec r0)
  bd : ∀ x ∈ ρ, x.natAbs ≤ 2 ^ B
theorem ROk.start {e : Ent} {m b N : Nat} {r0 : List Int} (hl : r0.length = m) (hb : ∀ x ∈ r0, x.natAbs ≤ 2 ^ b) : ROk e 0 m (Bq b N) r0 r0 where
  len := hl
  z := fun i hi => by omega
  fw := .mem (.inr rfl)
  bw := .mem (.inr rfl)
  bd := fun x hx => Nat.le_trans (hb x hx) (Nat.pow_le_pow_right (by decide) (Bq_le b N))
theorem Gp.more {e : Ent} {i j : Nat} {l u : Vc} (h : Gp (Gen e i) l u) (hij : i ≤ j) : Gp (Gen e j) l u := h.imp (fun g => g.more hij) id
theorem ROk.keep {e : Ent} {i m B : Nat} {r0 ρ : List Int} (h : ROk e i m B r0 ρ) (hz : ∀ c l r, e i = some (c, l, r) → vec ρ c = 0) : ROk e (i + 1) m B r0 ρ where
  len := h.len
  z := fun j hj c l r k => by
    by_cases q : j = i
    · subst q; exact hz c l r k
    · exact h.z j (by omega) c l r k
  fw := h.fw.sub fun u g => g.more (Nat.le_succ i)
  bw := h.bw.sub fun u g => g.more (Nat.le_succ i)
  bd := h.bd
/-- one lead more -/
theorem ROk.step {e : Ent} {i m b N c : Nat} {r0 ρ lead : List Int} {r : Vc} (T : Tri e (i + 1)) (h : ROk e i m (Bq b N) r0 ρ) (he : e i = some (c, vec lead, r)) (hl : lead.length = m)
    (hi : (rowsOf e (i + 1)).length ≤ N) (hN : N ≤ 15) (hb : ∀ u, Org e (i + 1) u → ∀ j, (u j).natAbs ≤ 2 ^ b) (hb0 : ∀ x ∈ r0, x.natAbs ≤ 2 ^ b) :
    ROk e (i + 1) m (Bq b N) r0 (lsn (clr ρ lead c)) := by
  have t := T i (Nat.lt_succ_self i) _ _ _ he
  have hll : ρ.length = lead.length := by rw [h.len, hl]
  obtain ⟨g, hg, e1, hp⟩ := lsn_vec (clr ρ lead c)
  have e2 : ∀ j, g * vec (lsn (clr ρ lead c)) j = vec lead c * vec ρ j - vec ρ c * vec lead j := fun j => by rw [e1 j, clr_vec hll]
  have z' : zAt e (i + 1) (vec (lsn (clr ρ lead c))) := fun j hj c' l' r' k => by
    refine (Int.mul_eq_zero.mp (?_ : g * vec (lsn (clr ρ lead c)) c' = 0)).resolve_left hg
    rw [e2]
    by_cases q : j = i
    · subst q
      rw [he] at k
      cases k
      rw [Int.mul_comm]
      omega
    · rw [h.z j (by omega) c' l' r' k, t.zer j (by omega) c' l' r' k]
      simp
  have hlead : Gen e (i + 1) (vec lead) := ⟨i, Nat.lt_succ_self i, c, r, he⟩
  have fw' : Sp (Gp (Gen e (i + 1)) (vec r0)) (vec (lsn (clr ρ lead c))) := by
    refine .div g hg ((Sp.comb (vec lead c) (-vec ρ c) (h.fw.sub fun u q => q.more (Nat.le_succ i)) (.mem (.inl hlead))).of_eq fun j => ?_)
    show vec lead c * vec ρ j + -vec ρ c * vec lead j = g * vec (lsn (clr ρ lead c)) j
    rw [e2, Int.neg_mul]
    omega
  have bw1 : Sp (Gp (Gen e (i + 1)) (vec (lsn (clr ρ lead c)))) (vec ρ) := by
    refine .div (vec lead c) t.piv ((Sp.comb g (vec ρ c) (.mem (.inr rfl)) (.mem (.inl hlead))).of_eq fun j => ?_)
    show g * vec (lsn (clr ρ lead c)) j + vec ρ c * vec lead j = vec lead c * vec ρ j
    rw [e2]
    omega
  have bw' : Sp (Gp (Gen e (i + 1)) (vec (lsn (clr ρ lead c)))) (vec r0) := h.bw.mono fun u q => by
    rcases q with q | q
    · exact .mem (.inl (q.more (Nat.le_succ i)))
    · rw [q]; exact bw1
  refine ⟨by rw [lsn_len, clr_len hll, h.len], z', fw', bw', fun x hx => ?_⟩
  obtain ⟨j, _, ej⟩ := vec_mem hx
  rw [← ej]
  by_cases h0 : ∀ j, vec (lsn (clr ρ lead c)) j = 0
  · rw [h0 j]; exact Nat.zero_le _
  · obtain ⟨j0, hj0⟩ := Classical.not_forall.mp h0
    have pr := hp.resolve_left h0
    have := lessened_small (b := b) (t := 4) (X := (b + 6) * N + 1) T bw' fw' z' ⟨j0, hj0⟩ pr (by omega) (by
      generalize (rowsOf e (i + 1)).length = k at hi
      have h1 : (b + 6) * k ≤ (b + 6) * N := Nat.mul_le_mul_left _ (by omega)
      have e : ((b + 6) * N + 1 + b + 4 + 2) = ((b + 6) * N + 1) + (b + 6) := by omega
      rw [e, Nat.add_mul, Nat.mul_succ]
      omega) (fun u hu j => hu.elim (fun q => hb u q j) fun q => by rw [q]; exact vec_all (P := fun x => x.natAbs ≤ 2 ^ b) hb0 (Nat.zero_le _) j) j
    have e : (b + 6) * N + 1 + b + 4 = Bq b N := by unfold Bq; omega
    rwa [e] at this
/-! ### how many rows are not made of those ahead -/
inductive Cnt : List Vc → Nat → Prop
  | nil : Cnt [] 0
  | add {L : List Vc} {n : Nat} {v : Vc} : Cnt L n → ¬ Sp (· ∈ L) v → Cnt (L ++ [v]) (n + 1)
  | skip {L : List Vc} {n : Nat} {v : Vc} : Cnt L n → Sp (· ∈ L) v → Cnt (L ++ [v]) n
theorem Cnt.inv {M : List Vc} {n : Nat} (h : Cnt M n) : (M = [] ∧ n = 0) ∨ ∃ L v, M = L ++ [v] ∧ ((∃ k, n = k + 1 ∧ Cnt L k ∧ ¬ Sp (· ∈ L) v) ∨ (Cnt L n ∧ Sp (· ∈ L) v)) := by
  cases h with
  | nil => exact .inl ⟨rfl, rfl⟩
  | add h k => exact .inr ⟨_, _, rfl, .inl ⟨_, rfl, h, k⟩⟩
  | skip h k => exact .inr ⟨_, _, rfl, .inr ⟨h, k⟩⟩
theorem Cnt.one {M : List Vc} {n k : Nat} (h : Cnt M n) (g : Cnt M k) : n = k := by
  induction h generalizing k with
  | nil =>
    rcases g.inv with ⟨_, e⟩ | ⟨L, v, e, _⟩
    · exact e.symm
    · simp at e
  | @add L n v h hn ih =>
    rcases g.inv with ⟨e, _⟩ | ⟨L', v', e, q⟩
    · simp at e
    · obtain ⟨e1, e2⟩ := List.append_inj' e rfl
      cases e2
      subst e1
      rcases q with ⟨k', ek, q, _⟩ | ⟨_, q⟩
      · rw [ek, ih q]
      · exact absurd q hn
  | @skip L n v h hs ih =>
    rcases g.inv with ⟨e, _⟩ | ⟨L', v', e, q⟩
    · simp at e
    · obtain ⟨e1, e2⟩ := List.append_inj' e rfl
      cases e2
      subst e1
      rcases q with ⟨k', ek, _, q⟩ | ⟨q, _⟩
      · exact absurd hs q
      · exact ih q
theorem NIn.inv {L : List Vc} {v : Vc} (h : NIn (L ++ [v])) : NIn L ∧ ¬ Sp (· ∈ L) v := by
  generalize e : L ++ [v] = M at h
  cases h with
  | nil => simp at e
  | snoc h k =>
    obtain ⟨e1, e2⟩ := List.append_inj' e rfl
    cases e2
    subst e1
    exact ⟨h, k⟩
/-- the first columns alone -/
def pj (m : Nat) (u : Vc) : Vc := fun j => if j < m then u j else 0
theorem Sp.pj {G : Vc → Prop} {v : Vc} (m : Nat) (h : Sp G v) : Sp (fun u => ∃ w, G w ∧ u = VL.pj m w) (VL.pj m v) := by
  induction h with
  | zero => exact Sp.zero.of_eq fun j => by unfold VL.pj; split <;> rfl
  | mem g => exact .mem ⟨_, g, rfl⟩
  | comb a b _ _ i1 i2 =>
    refine (Sp.comb a b i1 i2).of_eq fun j => ?_
    unfold cb VL.pj
    by_cases q : j < m <;> simp [q]
  | div c hc _ i => exact .div c hc (i.of_eq fun j => by unfold VL.pj; split <;> simp)
theorem Sp.at0 {G : Vc → Prop} {v : Vc} {j : Nat} (h : Sp G v) (k : ∀ u, G u → u j = 0) : v j = 0 := by
  induction h with
  | zero => rfl
  | mem g => exact k _ g
  | comb a b _ _ i1 i2 => show a * _ + b * _ = 0; rw [i1, i2]; simp
  | div c hc _ i => exact (Int.mul_eq_zero.mp i).resolve_left hc
def pjE (m : Nat) (e : Ent) : Ent := fun i => (e i).map fun t => (t.1, pj m t.2.1, pj m t.2.2)
theorem pjE_some {m : Nat} {e : Ent} {i c : Nat} {l r : Vc} (h : pjE m e i = some (c, l, r)) : ∃ l' r', e i = some (c, l', r') ∧ l = pj m l' ∧ r = pj m r' := by
  unfold pjE at h
  obtain ⟨⟨c', l', r'⟩, e1, e2⟩ := Option.map_eq_some_iff.mp h
  cases e2
  exact ⟨l', r', e1, rfl, rfl⟩
theorem pjE_gen {m : Nat} {e : Ent} {n : Nat} {u : Vc} : Gen (pjE m e) n u ↔ ∃ w, Gen e n w ∧ u = pj m w := by
  constructor
  · rintro ⟨i, hi, c, r, k⟩
    obtain ⟨l', r', e1, e2, _⟩ := pjE_some k
    exact ⟨l', ⟨i, hi, c, r', e1⟩, e2⟩
  · rintro ⟨w, ⟨i, hi, c, r, k⟩, e1⟩
    exact ⟨i, hi, c, pj m r, by unfold pjE; rw [k, e1]; rfl⟩
theorem pjE_tri {m : Nat} {e : Ent} {n : Nat} (T : Tri e n) (hp : ∀ i, i < n → ∀ c l r, e i = some (c, l, r) → c < m) : Tri (pjE m e) n := fun i hi c l r k => by
  obtain ⟨l', r', e1, e2, e3⟩ := pjE_some k
  have t := T i hi c l' r' e1
  have hc := hp i hi c l' r' e1
  refine ⟨?_, ?_, ?_, ?_⟩
  · rw [e2]
    show (if c < m then l' c else 0) ≠ 0
    rw [if_pos hc]
    exact t.piv
  · intro i' hi' c' l2 r2 k2
    obtain ⟨l3, r3, e4, _, _⟩ := pjE_some k2
    rw [e2]
    show (if c' < m then l' c' else 0) = 0
    rw [t.zer i' hi' c' l3 r3 e4]
    split <;> rfl
  · rw [e2, e3]
    exact (t.lr.pj m).sub fun u ⟨w, hw, e⟩ => hw.imp (fun g => pjE_gen.mpr ⟨w, g, e⟩) fun g => by rw [e, g]
  · rw [e2, e3]
    exact (t.rl.pj m).sub fun u ⟨w, hw, e⟩ => hw.imp (fun g => pjE_gen.mpr ⟨w, g, e⟩) fun g => by rw [e, g]
/-! ### leads in the order of their coming -/
theorem Gen.congr {e f : Ent} {n : Nat} (h : ∀ i, i < n → e i = f i) {u : Vc} (g : Gen e n u) : Gen f n u := let ⟨i, hi, c, r, k⟩ := g; ⟨i, hi, c, r, by rw [← h i hi]; exact k⟩
theorem zAt.congr {e f : Ent} {n : Nat} (h : ∀ i, i < n → e i = f i) {u : Vc} (g : zAt e n u) : zAt f n u := fun i hi c l r k => g i hi c l r (by rw [h i hi]; exact k)
theorem Tri.congr {e f : Ent} {n : Nat} (h : ∀ i, i < n → e i = f i) (T : Tri e n) : Tri f n := fun i hi c l r k => by
  have t := T i hi c l r (by rw [h i hi]; exact k)
  have h' : ∀ j, j < i → e j = f j := fun j hj => h j (by omega)
  exact ⟨t.piv, t.zer.congr h', t.lr.sub fun u g => g.imp (Gen.congr h') id, t.rl.sub fun u g => g.imp (Gen.congr h') id⟩
abbrev KT := Nat × List Int × List Int
def entE (ks : List KT) : Ent := fun i => (ks[i]?).map fun t => (t.1, vec t.2.1, vec t.2.2)
theorem entE_app {ks : List KT} {t : KT} {i : Nat} (h : i < ks.length) : entE ks i = entE (ks ++ [t]) i := by
  unfold entE
  rw [List.getElem?_append_left h]
theorem entE_last {ks : List KT} {t : KT} : entE (ks ++ [t]) ks.length = some (t.1, vec t.2.1, vec t.2.2) := by
  unfold entE
  rw [List.getElem?_append_right (Nat.le_refl _), Nat.sub_self]
  rfl
theorem entE_at {ks : List KT} {i c : Nat} {l r : Vc} (h : entE ks i = some (c, l, r)) : ∃ t, ks[i]? = some t ∧ t ∈ ks ∧ c = t.1 ∧ l = vec t.2.1 ∧ r = vec t.2.2 := by
  unfold entE at h
  obtain ⟨t, e1, e2⟩ := Option.map_eq_some_iff.mp h
  cases e2
  exact ⟨t, e1, List.mem_of_getElem? e1, rfl, rfl, rfl⟩
abbrev Ba (ks : List KT) (ls : List (List Int)) : Vc → Prop := fun u => Gen (entE ks) ks.length u ∨ u ∈ ls.map vec
structure PSt (many m b B : Nat) (rows : List (List Int)) (ks : List KT) (ls : List (List Int)) : Prop where
  tri : Tri (entE ks) ks.length
  piv : ∀ t ∈ ks, t.1 < many
  klen : ∀ t ∈ ks, t.2.1.length = m
  kb : ∀ t ∈ ks, ∀ x ∈ t.2.1, x.natAbs ≤ 2 ^ B
  ob : ∀ t ∈ ks, ∀ x ∈ t.2.2, x.natAbs ≤ 2 ^ b
  llen : ∀ l ∈ ls, l.length = m
  lz : ∀ l ∈ ls, ∀ j, j < many → vec l j = 0
  lb : ∀ l ∈ ls, ∀ x ∈ l, x.natAbs ≤ 2 ^ B
  num : ks.length + ls.length = rows.length
  cnt : Cnt (rows.map fun r => pj many (vec r)) ks.length
  up : ∀ r ∈ rows, Sp (Ba ks ls) (vec r)
  dn : ∀ u, Ba ks ls u → Sp (· ∈ rows.map vec) u
  ind : NIn (rows.map vec) → NIn (ls.map vec)
theorem PSt.nil {many m b B : Nat} : PSt many m b B [] [] [] where
  tri := fun i hi => by simp at hi
  piv := fun t h => nomatch h
  klen := fun t h => nomatch h
  kb := fun t h => nomatch h
  ob := fun t h => nomatch h
  llen := fun t h => nomatch h
  lz := fun t h => nomatch h
  lb := fun t h => nomatch h
  num := rfl
  cnt := .nil
  up := fun t h => nomatch h
  dn := fun u h => by
    rcases h with ⟨i, hi, _⟩ | h
    · simp at hi
    · cases h
  ind := fun _ => .nil
section
variable {many m b B : Nat} {rows : List (List Int)} {ks : List KT} {ls : List (List Int)} {r ρ : List Int}
theorem PSt.pv (P : PSt many m b B rows ks ls) : ∀ i, i < ks.length → ∀ c l q, entE ks i = some (c, l, q) → c < many := fun i _ c l q k => by
  obtain ⟨t, _, ht, e, _⟩ := entE_at k
  rw [e]
  exact P.piv t ht
/-- a row as the leads see it: the first columns of all rows are made of theirs -/
theorem PSt.pjup (P : PSt many m b B rows ks ls) : ∀ v ∈ rows.map (fun r => pj many (vec r)), Sp (Gen (pjE many (entE ks)) ks.length) v := fun v hv => by
  obtain ⟨q, hq, e⟩ := List.mem_map.mp hv
  rw [← e]
  refine ((P.up q hq).pj many).mono fun u ⟨w, hw, eu⟩ => ?_
  rcases hw with hw | hw
  · exact .mem (pjE_gen.mpr ⟨w, hw, eu⟩)
  · obtain ⟨l, hl, el⟩ := List.mem_map.mp hw
    refine Sp.zero.of_eq fun j => ?_
    rw [eu, ← el]
    show 0 = if j < many then vec l j else 0
    split
    · rename_i hj; exact (P.lz l hl j hj).symm
    · rfl
theorem PSt.left (P : PSt many m b B rows ks ls) (h : ROk (entE ks) ks.length m B r ρ) (hz : ∀ j, j < many → vec ρ j = 0) : PSt many m b B (rows ++ [r]) ks (ls ++ [ρ]) where
  tri := P.tri
  piv := P.piv
  klen := P.klen
  kb := P.kb
  ob := P.ob
  llen := fun l hl => (List.mem_append.mp hl).elim (P.llen l) fun q => by rw [List.mem_singleton.mp q]; exact h.len
  lz := fun l hl => (List.mem_append.mp hl).elim (P.lz l) fun q => by rw [List.mem_singleton.mp q]; exact hz
  lb := fun l hl => (List.mem_append.mp hl).elim (P.lb l) fun q => by rw [List.mem_singleton.mp q]; exact h.bd
  num := by rw [List.length_append, List.length_append]; have := P.num; simp; omega
  cnt := by
    rw [List.map_append]
    refine .skip P.cnt ?_
    -- r's first columns are made of the leads' first columns
    refine (h.bw.pj many).mono fun u ⟨w, hw, eu⟩ => ?_
    rcases hw with hw | hw
    · rw [eu]
      refine ((P.dn w (.inl hw)).pj many).sub fun u' ⟨w', hw', eu'⟩ => ?_
      obtain ⟨q, hq, e⟩ := List.mem_map.mp hw'
      exact List.mem_map.mpr ⟨q, hq, by rw [eu', ← e]⟩
    · refine Sp.zero.of_eq fun j => ?_
      rw [eu, hw]
      show 0 = if j < many then vec ρ j else 0
      split
      · rename_i hj; exact (hz j hj).symm
      · rfl
  up := fun q hq => by
    have up1 : ∀ u, Ba ks ls u → Ba ks (ls ++ [ρ]) u := fun u hu => hu.imp id fun z => by rw [List.map_append]; exact List.mem_append_left _ z
    rcases List.mem_append.mp hq with hq | hq
    · exact (P.up q hq).sub up1
    · rw [List.mem_singleton.mp hq]
      exact h.bw.sub fun u g => g.elim .inl fun e => .inr (by rw [e, List.map_append]; exact List.mem_append_right _ List.mem_cons_self)
  dn := fun u hu => by
    have mono : ∀ v, v ∈ rows.map vec → v ∈ (rows ++ [r]).map vec := fun v hv => by rw [List.map_append]; exact List.mem_append_left _ hv
    have key : ∀ u, Ba ks ls u → Sp (· ∈ (rows ++ [r]).map vec) u := fun u hu => (P.dn u hu).sub mono
    rcases hu with hu | hu
    · exact key u (.inl hu)
    · rw [List.map_append] at hu
      rcases List.mem_append.mp hu with hu | hu
      · exact key u (.inr hu)
      · rw [show u = vec ρ from List.mem_singleton.mp hu]
        exact h.fw.mono fun v g => g.elim (fun g => key v (.inl g)) fun e => .mem (by rw [e, List.map_append]; exact List.mem_append_right _ List.mem_cons_self)
  ind := fun hn => by
    rw [List.map_append] at hn ⊢
    obtain ⟨h1, h2⟩ := hn.inv
    refine .snoc (P.ind h1) fun hs => h2 ?_
    refine h.bw.mono fun v g => ?_
    rcases g with g | g
    · exact P.dn v (.inl g)
    · rw [g]
      exact hs.mono fun w hw => P.dn w (.inr hw)
theorem PSt.keep {c : Nat} (P : PSt many m b B rows ks ls) (h : ROk (entE ks) ks.length m B r ρ) (hc : c < many) (hp : vec ρ c ≠ 0) (hb : ∀ x ∈ r, x.natAbs ≤ 2 ^ b) : PSt many m b B (rows ++ [r]) (ks ++ [(c, ρ, r)]) ls := by
  have ag : ∀ i, i < ks.length → entE ks i = entE (ks ++ [(c, ρ, r)]) i := fun i hi => entE_app hi
  have hl : (ks ++ [(c, ρ, r)]).length = ks.length + 1 := by simp
  have hmem : ∀ {t : KT}, t ∈ ks ++ [(c, ρ, r)] → t ∈ ks ∨ t = (c, ρ, r) := fun ht => (List.mem_append.mp ht).imp id List.mem_singleton.mp
  have last : Gen (entE (ks ++ [(c, ρ, r)])) (ks.length + 1) (vec ρ) := ⟨ks.length, Nat.lt_succ_self _, c, vec r, entE_last⟩
  have old : ∀ u, Gen (entE ks) ks.length u → Gen (entE (ks ++ [(c, ρ, r)])) (ks.length + 1) u := fun u g => (g.congr ag).more (Nat.le_succ _)
  have new : ∀ u, Gen (entE (ks ++ [(c, ρ, r)])) (ks.length + 1) u → Gen (entE ks) ks.length u ∨ u = vec ρ := fun u g => (gen_some g entE_last).imp (fun g => g.congr fun i hi => (ag i hi).symm) id
  have mono : ∀ v, v ∈ rows.map vec → v ∈ (rows ++ [r]).map vec := fun v hv => by rw [List.map_append]; exact List.mem_append_left _ hv
  have rin : vec r ∈ (rows ++ [r]).map vec := by rw [List.map_append]; exact List.mem_append_right _ List.mem_cons_self
  refine ⟨?_, ?_, ?_, ?_, ?_, P.llen, P.lz, P.lb, ?_, ?_, ?_, ?_, ?_⟩
  · rw [hl]
    intro i hi c' l' r' k
    by_cases q : i = ks.length
    · subst q
      rw [entE_last] at k
      cases k
      exact ⟨hp, h.z.congr ag, h.fw.sub fun u g => g.imp (Gen.congr ag) id, h.bw.sub fun u g => g.imp (Gen.congr ag) id⟩
    · exact (P.tri.congr ag) i (by omega) c' l' r' k
  · exact fun t ht => (hmem ht).elim (P.piv t) fun e => by rw [e]; exact hc
  · exact fun t ht => (hmem ht).elim (P.klen t) fun e => by rw [e]; exact h.len
  · exact fun t ht => (hmem ht).elim (P.kb t) fun e => by rw [e]; exact h.bd
  · exact fun t ht => (hmem ht).elim (P.ob t) fun e => by rw [e]; exact hb
  · rw [hl, List.length_append]
    have := P.num
    simp
    omega
  · rw [List.map_append, hl]
    refine .add P.cnt fun hs => ?_
    have h1 : Sp (Gen (pjE many (entE ks)) ks.length) (pj many (vec r)) := hs.mono P.pjup
    have h2 : Sp (Gen (pjE many (entE ks)) ks.length) (pj many (vec ρ)) := (h.fw.pj many).mono fun u ⟨w, hw, eu⟩ => by
      rcases hw with hw | hw
      · exact .mem (pjE_gen.mpr ⟨w, hw, eu⟩)
      · rw [eu, hw]; exact h1
    have h3 := tri0 (pjE_tri P.tri P.pv) h2 (fun i hi c' l' r' k => by
      obtain ⟨l3, r3, e4, _, _⟩ := pjE_some k
      show (if c' < many then vec ρ c' else 0) = 0
      rw [h.z i hi c' l3 r3 e4]
      split <;> rfl) c
    have h4 : (if c < many then vec ρ c else 0) = 0 := h3
    rw [if_pos hc] at h4
    exact hp h4
  · intro q hq
    unfold Ba
    rw [hl]
    rcases List.mem_append.mp hq with hq | hq
    · exact (P.up q hq).sub fun u hu => hu.imp (old u) id
    · rw [List.mem_singleton.mp hq]
      exact h.bw.sub fun u g => .inl (g.elim (old u) fun e => by rw [e]; exact last)
  · intro u hu
    unfold Ba at hu
    rw [hl] at hu
    have key : ∀ u, Ba ks ls u → Sp (· ∈ (rows ++ [r]).map vec) u := fun u hu => (P.dn u hu).sub mono
    rcases hu with hu | hu
    · rcases new u hu with g | g
      · exact key u (.inl g)
      · rw [g]
        exact h.fw.mono fun v g => g.elim (fun g => key v (.inl g)) fun e => .mem (by rw [e]; exact rin)
    · exact key u (.inr hu)
  · intro hn
    rw [List.map_append] at hn
    exact P.ind hn.inv.1
end
/-! ### leads by their columns -/
theorem getDl_map {α : Type} (k : Int) (v : α) (k' : Int) : ∀ l : List (Int × α), getDl (l.map fun x => if x.1 = k then (x.1, v) else x) k' = if k' = k then (getDl l k').map (fun _ => v) else getDl l k'
  | [] => by simp [getDl]
  | x :: l => by
    have ih := getDl_map k v k' l
    unfold getDl at ih ⊢
    rw [List.map_cons, List.find?_cons, List.find?_cons]
    by_cases h : x.1 = k
    · rw [if_pos h]
      by_cases h2 : x.1 = k'
      · simp [h2]
        intro q
        exact absurd (h2.symm.trans h) q
      · simp only [h2, decide_false]
        exact ih
    · rw [if_neg h]
      by_cases h2 : x.1 = k'
      · have : ¬ k' = k := fun q => h (h2.trans q)
        simp [h2, this]
      · simp only [h2, decide_false]
        exact ih
theorem getDl_none {α : Type} {k : Int} : ∀ {l : List (Int × α)}, (l.any fun x => decide (x.1 = k)) = false → getDl l k = none
  | [], _ => rfl
  | x :: l, h => by
    rw [List.any_cons, Bool.or_eq_false_iff] at h
    have ih := getDl_none h.2
    unfold getDl at ih ⊢
    rw [List.find?_cons, h.1]
    exact ih
theorem getDl_some {α : Type} {k : Int} : ∀ {l : List (Int × α)}, (l.any fun x => decide (x.1 = k)) = true → ∃ v, getDl l k = some v
  | [], h => by cases h
  | x :: l, h => by
    unfold getDl
    rw [List.find?_cons]
    by_cases q : x.1 = k
    · rw [decide_eq_true q]; exact ⟨_, rfl⟩
    · rw [decide_eq_false q]
      rw [List.any_cons, decide_eq_false q, Bool.false_or] at h
      exact getDl_some h
theorem getDl_app {α : Type} (k : Int) (v : α) (k' : Int) : ∀ l : List (Int × α), (getDl l k = none) → getDl (l ++ [(k, v)]) k' = if k' = k then some v else getDl l k'
  | [], _ => by
    unfold getDl
    rw [List.nil_append, List.find?_cons]
    by_cases h : k' = k
    · simp [h]
    · have : ¬ k = k' := fun q => h q.symm
      simp [h, this]
  | x :: l, h => by
    unfold getDl at h ⊢
    rw [List.find?_cons] at h
    rw [List.cons_append, List.find?_cons, List.find?_cons]
    by_cases q : x.1 = k
    · rw [decide_eq_true q] at h; cases h
    · rw [decide_eq_false q] at h
      have ih := getDl_app k v k' l h
      unfold getDl at ih
      by_cases h2 : x.1 = k'
      · have : ¬ k' = k := fun z => q (h2.trans z)
        simp [h2, this]
      · rw [decide_eq_false h2]
        exact ih
theorem getDl_put {α : Type} (l : List (Int × α)) (k : Int) (v : α) (k' : Int) : getDl (putDl l k v) k' = if k' = k then some v else getDl l k' := by
  unfold putDl
  split
  · rename_i h
    rw [getDl_map]
    by_cases q : k' = k
    · obtain ⟨w, e⟩ := getDl_some h
      rw [if_pos q, if_pos q, q, e]
      rfl
    · rw [if_neg q, if_neg q]
  · rename_i h
    exact getDl_app k v k' l (getDl_none (by cases q : l.any (fun x => decide (x.1 = k)) with
      | true => exact absurd q h
      | false => rfl))
theorem putDl_len {α : Type} {l : List (Int × α)} {k : Int} {v : α} (h : getDl l k = none) : (putDl l k v).length = l.length + 1 := by
  unfold putDl
  rw [if_neg (fun q => by obtain ⟨w, e⟩ := getDl_some q; rw [h] at e; cases e), List.length_append]
  rfl
def entD (d : List (Int × List Int)) (og : Nat → List Int) : Ent := fun c => (getDl d (c : Int)).map fun l => (c, vec l, vec (og c))
theorem entD_at {d : List (Int × List Int)} {og : Nat → List Int} {i c : Nat} {l r : Vc} (h : entD d og i = some (c, l, r)) : ∃ w, getDl d (i : Int) = some w ∧ c = i ∧ l = vec w ∧ r = vec (og i) := by
  unfold entD at h
  obtain ⟨t, e1, e2⟩ := Option.map_eq_some_iff.mp h
  cases e2
  exact ⟨t, e1, rfl, rfl, rfl⟩
def GenF (e : Ent) (lo m : Nat) : Vc → Prop := fun u => ∃ i, lo ≤ i ∧ i < m ∧ ∃ c r, e i = some (c, u, r)
theorem ech0 {e : Ent} {m : Nat} (T : Tri e m) (hc : ∀ i c l r, e i = some (c, l, r) → c = i ∧ ∀ j, j < i → l j = 0) {v : Vc} (h : Sp (Gen e m) v) {j : Nat} (hj : j < m) (hz : ∀ i, i < j → v i = 0) (hn : e j = none) : v j = 0 := by
  have key : ∀ lo, lo ≤ j → Sp (GenF e lo m) v := by
    intro lo
    induction lo with
    | zero => exact fun _ => h.sub fun u ⟨i, hi, c, r, k⟩ => ⟨i, Nat.zero_le _, hi, c, r, k⟩
    | succ lo ih =>
      intro hlo
      have ih := ih (by omega)
      cases q : e lo with
      | none =>
        refine ih.sub fun u ⟨i, h1, h2, c, r, k⟩ => ⟨i, ?_, h2, c, r, k⟩
        by_cases z : i = lo
        · subst z; rw [q] at k; cases k
        · omega
      | some t =>
        obtain ⟨c, l, r⟩ := t
        have t := T lo (by omega) c l r q
        have hcl := hc lo c l r q
        obtain ⟨c1, a, hc1, s⟩ := (ih.sub (H := Gp (GenF e (lo + 1) m) l) fun u ⟨i, h1, h2, c', r', k⟩ => by
          by_cases z : i = lo
          · subst z; rw [q] at k; cases k; exact .inr rfl
          · exact .inl ⟨i, by omega, h2, c', r', k⟩).dec
        have e0 : c1 * v lo + a * l lo = 0 := s.at0 (j := lo) fun u ⟨i, h1, _, c', r', k⟩ => (hc i c' u r' k).2 lo (by omega)
        rw [hz lo (by omega), Int.mul_zero, Int.zero_add] at e0
        have hl : l lo ≠ 0 := by rw [← hcl.1]; exact t.piv
        have ea : a = 0 := (Int.mul_eq_zero.mp e0).resolve_right hl
        subst ea
        exact .div c1 hc1 (s.of_eq fun i => by show c1 * v i + 0 * l i = c1 * v i; simp)
  refine (key j (Nat.le_refl j)).at0 fun u ⟨i, h1, _, c, r, k⟩ => ?_
  by_cases z : i = j
  · subst z; rw [hn] at k; cases k
  · exact (hc i c u r k).2 j (by omega)
structure SSt (m b B : Nat) (rows : List (List Int)) (d : List (Int × List Int)) (og : Nat → List Int) : Prop where
  tri : Tri (entD d og) m
  ech : ∀ (c : Nat) l, getDl d (c : Int) = some l → ∀ j, j < c → vec l j = 0
  len : ∀ (c : Nat) l, c < m → getDl d (c : Int) = some l → l.length = m
  kb : ∀ (c : Nat) l, c < m → getDl d (c : Int) = some l → ∀ x ∈ l, x.natAbs ≤ 2 ^ B
  ob : ∀ c l, getDl d ((c : Nat) : Int) = some l → ∀ x ∈ og c, x.natAbs ≤ 2 ^ b
  few : d.length ≤ rows.length
  cnt : Cnt (rows.map vec) d.length
  up : ∀ r ∈ rows, Sp (Gen (entD d og) m) (vec r)
  dn : ∀ u, Gen (entD d og) m u → Sp (· ∈ rows.map vec) u
theorem SSt.nil {m b B : Nat} : SSt m b B [] [] (fun _ => []) where
  tri := fun i hi c l r k => by obtain ⟨w, e, _⟩ := entD_at k; cases e
  ech := fun c l h => by cases h
  len := fun c l _ h => by cases h
  kb := fun c l _ h => by cases h
  ob := fun c l h => by cases h
  few := Nat.le_refl _
  cnt := .nil
  up := fun r h => nomatch h
  dn := fun u ⟨i, _, c, r, k⟩ => by obtain ⟨w, e, _⟩ := entD_at k; cases e
section
variable {m b B : Nat} {rows : List (List Int)} {d : List (Int × List Int)} {og : Nat → List Int} {r ρ : List Int}
theorem SSt.skip (P : SSt m b B rows d og) (h : ROk (entD d og) m m B r ρ) (hz : ∀ j, j < m → vec ρ j = 0) : SSt m b B (rows ++ [r]) d og := by
  have h0 : ∀ j, vec ρ j = 0 := fun j => by
    by_cases hj : j < m
    · exact hz j hj
    · exact vec_out (by rw [h.len]; omega)
  have hr : Sp (Gen (entD d og) m) (vec r) := h.bw.mono fun u g => g.elim (fun g => .mem g) fun e => by rw [e]; exact Sp.zero.of_eq fun j => (h0 j).symm
  refine ⟨P.tri, P.ech, P.len, P.kb, P.ob, by rw [List.length_append]; exact Nat.le_trans P.few (Nat.le_add_right _ _), ?_, fun q hq => ?_, fun u hu => (P.dn u hu).sub fun v hv => by rw [List.map_append]; exact List.mem_append_left _ hv⟩
  · rw [List.map_append]
    exact .skip P.cnt (hr.mono P.dn)
  · rcases List.mem_append.mp hq with hq | hq
    · exact P.up q hq
    · rw [List.mem_singleton.mp hq]; exact hr
theorem SSt.put {j : Nat} (P : SSt m b B rows d og) (hj : j < m) (hn : getDl d (j : Int) = none) (h : ROk (entD d og) j m B r ρ) (hz : ∀ i, i < j → vec ρ i = 0) (hp : vec ρ j ≠ 0) (hb : ∀ x ∈ r, x.natAbs ≤ 2 ^ b) :
    SSt m b B (rows ++ [r]) (putDl d (j : Int) ρ) (fun c => if c = j then r else og c) := by
  have g : ∀ c : Nat, getDl (putDl d (j : Int) ρ) (c : Int) = if c = j then some ρ else getDl d (c : Int) := fun c => by
    rw [getDl_put]
    by_cases q : c = j
    · rw [if_pos q, if_pos (by rw [q])]
    · rw [if_neg q, if_neg (by omega)]
  let e' : Ent := entD (putDl d (j : Int) ρ) (fun c => if c = j then r else og c)
  have ej : e' j = some (j, vec ρ, vec r) := by
    show (getDl (putDl d (j : Int) ρ) (j : Int)).map (fun l => (j, vec l, vec (if j = j then r else og j))) = _
    rw [g, if_pos rfl, if_pos rfl]
    rfl
  have eo : ∀ i, i ≠ j → entD d og i = e' i := fun i hi => by
    show _ = (getDl (putDl d (j : Int) ρ) (i : Int)).map (fun l => (i, vec l, vec (if i = j then r else og i)))
    rw [g, if_neg hi, if_neg hi]
    rfl
  have enj : entD d og j = none := by unfold entD; rw [hn]; rfl
  have old : ∀ n u, Gen (entD d og) n u → Gen e' n u := fun n u ⟨i, hi, c, q, k⟩ => ⟨i, hi, c, q, by
    rw [← eo i (fun z => by subst z; rw [enj] at k; cases k)]
    exact k⟩
  have new : ∀ n u, Gen e' n u → Gen (entD d og) n u ∨ (u = vec ρ ∧ j < n) := fun n u ⟨i, hi, c, q, k⟩ => by
    by_cases z : i = j
    · subst z; rw [ej] at k; cases k; exact .inr ⟨rfl, hi⟩
    · exact .inl ⟨i, hi, c, q, by rw [eo i z]; exact k⟩
  have ag : ∀ i, i < j → entD d og i = e' i := fun i hi => eo i (by omega)
  have mono : ∀ v, v ∈ rows.map vec → v ∈ (rows ++ [r]).map vec := fun v hv => by rw [List.map_append]; exact List.mem_append_left _ hv
  have rin : vec r ∈ (rows ++ [r]).map vec := by rw [List.map_append]; exact List.mem_append_right _ List.mem_cons_self
  have hcE : ∀ i c l q, entD d og i = some (c, l, q) → c = i ∧ ∀ j, j < i → l j = 0 := fun i c l q k => by
    obtain ⟨w, e1, e2, e3, _⟩ := entD_at k
    rw [e3]
    exact ⟨e2, P.ech i w e1⟩
  refine ⟨?_, ?_, ?_, ?_, ?_, ?_, ?_, ?_, ?_⟩
  · intro i hi c l q k
    by_cases z : i = j
    · subst z
      have k' : e' i = some (c, l, q) := k
      rw [ej] at k'
      cases k'
      exact ⟨hp, h.z.congr ag, h.fw.sub fun u g => g.imp (Gen.congr ag) id, h.bw.sub fun u g => g.imp (Gen.congr ag) id⟩
    · have k' : entD d og i = some (c, l, q) := by rw [eo i z]; exact k
      have t := P.tri i hi c l q k'
      refine ⟨t.piv, ?_, t.lr.sub fun u g => g.imp (old i u) id, t.rl.sub fun u g => g.imp (old i u) id⟩
      intro i' hi' c' l' q' k2
      by_cases z2 : i' = j
      · subst z2
        have k2' : e' i' = some (c', l', q') := k2
        rw [ej] at k2'
        cases k2'
        exact (hcE i c l q k').2 i' hi'
      · exact t.zer i' hi' c' l' q' (by rw [eo i' z2]; exact k2)
  · intro c l k i hi
    rw [g] at k
    split at k
    · rename_i z; subst z; cases k; exact hz i hi
    · exact P.ech c l k i hi
  · intro c l hc k
    rw [g] at k
    split at k
    · cases k; exact h.len
    · exact P.len c l hc k
  · intro c l hc k
    rw [g] at k
    split at k
    · cases k; exact h.bd
    · exact P.kb c l hc k
  · intro c l k
    rw [g] at k
    split at k
    · rename_i z
      simp only [if_pos z]
      exact hb
    · rename_i z
      simp only [if_neg z]
      exact P.ob c l k
  · rw [putDl_len hn, List.length_append]
    have := P.few
    simp
    omega
  · rw [putDl_len hn, List.map_append]
    refine .add P.cnt fun hs => ?_
    have h1 : Sp (Gen (entD d og) m) (vec r) := hs.mono fun u hu => by
      obtain ⟨q, hq, e⟩ := List.mem_map.mp hu
      rw [← e]
      exact P.up q hq
    have h2 : Sp (Gen (entD d og) m) (vec ρ) := h.fw.mono fun u g => g.elim (fun g => .mem (g.more (by omega))) fun e => by rw [e]; exact h1
    exact hp (ech0 P.tri hcE h2 hj hz enj)
  · intro q hq
    rcases List.mem_append.mp hq with hq | hq
    · exact (P.up q hq).sub (old m)
    · rw [List.mem_singleton.mp hq]
      exact h.bw.sub fun u g => g.elim (fun g => (old j u g).more (by omega)) fun e => by rw [e]; exact ⟨j, hj, j, vec r, ej⟩
  · intro u hu
    rcases new m u hu with q | ⟨q, _⟩
    · exact (P.dn u q).sub mono
    · rw [q]
      exact h.fw.mono fun v g => g.elim (fun g => (P.dn v (g.more (by omega))).sub mono) fun e => .mem (by rw [e]; exact rin)
end
/-! ### how many rows can stand in a span -/
theorem coefs {L : List Vc} {v : Vc} (h : Sp (· ∈ L) v) : ∃ (c : Int) (a : List Int), c ≠ 0 ∧ a.length = L.length ∧ ∀ j, c * v j = dotV a L j := by
  have zeros : ∀ (M : List Vc) j, dotV (M.map fun _ => (0 : Int)) M j = 0 := by
    intro M j
    induction M with
    | nil => rfl
    | cons u M ih => show 0 * u j + dotV _ M j = 0; rw [ih]; simp
  induction h with
  | zero => exact ⟨1, L.map fun _ => 0, by decide, by rw [List.length_map], fun j => by rw [zeros]; rfl⟩
  | @mem u g =>
    suffices ∀ M : List Vc, u ∈ M → ∃ a : List Int, a.length = M.length ∧ ∀ j, u j = dotV a M j by
      obtain ⟨a, h1, h2⟩ := this L g
      exact ⟨1, a, by decide, h1, fun j => by rw [← h2]; simp⟩
    intro M hM
    induction M with
    | nil => cases hM
    | cons w M ih =>
      rcases List.mem_cons.mp hM with e | e
      · refine ⟨1 :: M.map fun _ => 0, by simp, fun j => ?_⟩
        show u j = 1 * w j + dotV _ M j
        rw [zeros, e]
        simp
      · obtain ⟨a, h1, h2⟩ := ih e
        refine ⟨0 :: a, by simp [h1], fun j => ?_⟩
        show u j = 0 * w j + dotV a M j
        rw [← h2]
        simp
  | @comb u v a b _ _ i1 i2 =>
    obtain ⟨c1, x, hc1, hx, ex⟩ := i1
    obtain ⟨c2, y, hc2, hy, ey⟩ := i2
    have lin : ∀ (M : List Vc) (x y : List Int) (p q : Int), x.length = M.length → y.length = M.length → ∀ j, dotV (List.zipWith (fun s t => p * s + q * t) x y) M j = p * dotV x M j + q * dotV y M j := by
      intro M
      induction M with
      | nil => intro x y p q h1 h2 j; rw [List.eq_nil_of_length_eq_zero h1, List.eq_nil_of_length_eq_zero h2]; simp [dotV]
      | cons w M ih =>
        intro x y p q h1 h2 j
        match x, y, h1, h2 with
        | s :: x, t :: y, h1, h2 =>
          show (p * s + q * t) * w j + dotV _ M j = p * (s * w j + dotV x M j) + q * (t * w j + dotV y M j)
          rw [ih x y p q (by simpa using h1) (by simpa using h2)]
          simp only [Int.add_mul, Int.mul_add, Int.mul_assoc]
          omega
    refine ⟨c1 * c2, List.zipWith (fun s t => (a * c2) * s + (b * c1) * t) x y, Int.mul_ne_zero hc1 hc2, by rw [List.length_zipWith, hx, hy, Nat.min_self], fun j => ?_⟩
    rw [lin L x y _ _ hx hy, ← ex, ← ey]
    simp only [cb]
    simp only [Int.mul_add, Int.mul_assoc, Int.mul_left_comm, Int.mul_comm]
  | @div u c hc _ i =>
    obtain ⟨c1, x, hc1, hx, ex⟩ := i
    exact ⟨c1 * c, x, Int.mul_ne_zero hc1 hc, hx, fun j => by rw [← ex, Int.mul_assoc]⟩
/-- more rows than the span has: some sum of them is nought -/
theorem relation {L M : List Vc} (h : ∀ u ∈ M, Sp (· ∈ L) u) (hl : L.length < M.length) : ∃ y : List Int, y.length = M.length ∧ (∃ a ∈ y, a ≠ 0) ∧ ∀ j, dotV y M j = 0 := by
  -- each row's own numbers
  have key : ∃ cs : List (Int × List Int), cs.length = M.length ∧ (∀ t ∈ cs, t.1 ≠ 0 ∧ t.2.length = L.length) ∧ ∀ (x : List Int), x.length = M.length → ∀ j, dotV (List.zipWith (fun x t => x * t.1) x cs) M j = dotV ((List.range L.length).map fun q => dotV x (cs.map fun t => fun q => t.2.getD q 0) q) L j := by
    clear hl
    induction M with
    | nil =>
      refine ⟨[], rfl, fun t (ht : t ∈ []) => (List.not_mem_nil ht).elim, fun x hx j => ?_⟩
      rw [List.eq_nil_of_length_eq_zero hx]
      have : ∀ (N : List Vc) (a : List Int), (∀ z ∈ a, z = 0) → dotV a N j = 0 := by
        intro N
        induction N with
        | nil => intro a _; cases a <;> rfl
        | cons w N ih =>
          intro a ha
          cases a with
          | nil => rfl
          | cons z a =>
            show z * w j + dotV a N j = 0
            rw [ha z List.mem_cons_self, ih a fun z hz => ha z (List.mem_cons_of_mem _ hz)]
            simp
      rw [this L _ fun z hz => by
        obtain ⟨q, _, e⟩ := List.mem_map.mp hz
        rw [← e]
        rfl]
      rfl
    | cons u M ih =>
      obtain ⟨cs, h1, h2, h3⟩ := ih fun u hu => h u (List.mem_cons_of_mem _ hu)
      obtain ⟨c, a, hc, ha, ea⟩ := coefs (h u List.mem_cons_self)
      refine ⟨(c, a) :: cs, by simp [h1], fun t ht => ?_, fun x hx j => ?_⟩
      · rcases List.mem_cons.mp ht with e | ht
        · rw [e]; exact ⟨hc, ha⟩
        · exact h2 t ht
      · match x, hx with
        | s :: x, hx =>
          show s * c * u j + dotV (List.zipWith _ x cs) M j = _
          rw [h3 x (by simpa using hx) j, Int.mul_assoc, ea j]
          have add : ∀ (N : List Vc) (p : List Int) (f : Nat → Int) (o : Nat), p.length = N.length → s * dotV p N j + dotV ((List.range' o N.length).map f) N j = dotV ((List.range' o N.length).map fun q => s * p.getD (q - o) 0 + f q) N j := by
            intro N
            induction N with
            | nil => intro p f o hp; rw [List.eq_nil_of_length_eq_zero hp]; simp [dotV]
            | cons w N ih2 =>
              intro p f o hp
              match p, hp with
              | z :: p, hp =>
                rw [List.length_cons, List.range'_succ, List.map_cons, List.map_cons]
                show s * (z * w j + dotV p N j) + (f o * w j + dotV _ N j) = (s * (z :: p).getD (o - o) 0 + f o) * w j + dotV _ N j
                have := ih2 p f (o + 1) (by simpa using hp)
                have e : (List.range' (o + 1) N.length).map (fun q => s * p.getD (q - (o + 1)) 0 + f q) = (List.range' (o + 1) N.length).map (fun q => s * (z :: p).getD (q - o) 0 + f q) := by
                  refine List.map_congr_left fun q hq => ?_
                  have := (List.mem_range'_1.mp hq).1
                  rw [show q - o = (q - (o + 1)) + 1 by omega]
                  rfl
                rw [e] at this
                rw [← this]
                simp only [Nat.sub_self, List.getD_cons_zero, Int.add_mul, Int.mul_add, Int.mul_assoc]
                omega
          have := add L a (fun q => dotV x (cs.map fun t => fun q => t.2.getD q 0) q) 0 ha
          rw [← List.range_eq_range'] at this
          rw [this]
          simp only [Nat.sub_zero]
          rfl
  obtain ⟨cs, h1, h2, h3⟩ := key
  let R : List Vc := cs.map fun t => fun q => t.2.getD q 0
  let C : List Nat := List.range L.length
  obtain ⟨b, hb⟩ : ∃ b : Nat, ∀ u ∈ R, ∀ c ∈ C, (u c).natAbs ≤ 2 ^ b := by
    have : ∀ (R : List Vc) (C : List Nat), ∃ b : Nat, ∀ u ∈ R, ∀ c ∈ C, (u c).natAbs ≤ b := by
      intro R C
      induction R with
      | nil => exact ⟨0, fun u hu => nomatch hu⟩
      | cons w R ih =>
        obtain ⟨b1, hb1⟩ := ih
        have : ∃ b : Nat, ∀ c ∈ C, (w c).natAbs ≤ b := by
          clear hb1
          induction C with
          | nil => exact ⟨0, fun c hc => nomatch hc⟩
          | cons c C ih2 =>
            obtain ⟨b, hb⟩ := ih2
            exact ⟨b + (w c).natAbs, fun d hd => (List.mem_cons.mp hd).elim (fun e => by rw [e]; omega) fun hd => by have := hb d hd; omega⟩
        obtain ⟨b2, hb2⟩ := this
        exact ⟨b1 + b2, fun u hu c hc => (List.mem_cons.mp hu).elim (fun e => by rw [e]; have := hb2 c hc; omega) fun hu => by have := hb1 u hu c hc; omega⟩
    obtain ⟨b, hb⟩ := this R C
    exact ⟨b, fun u hu c hc => Nat.le_trans (hb u hu c hc) (Nat.le_of_lt Nat.lt_two_pow_self)⟩
  have hRl : R.length = M.length := by show (List.map _ cs).length = _; rw [List.length_map, h1]
  have hCl : C.length = L.length := List.length_range
  obtain ⟨x, hx1, ⟨a0, ha0, hne⟩, _, hx4⟩ := small_sum (R := R) (C := C) (b := b) (t := R.length) (X := (b + R.length + 2) * C.length + 1) (Nat.le_of_lt Nat.lt_two_pow_self) (by
    have h : C.length + 1 ≤ R.length := by omega
    have e : ((b + R.length + 2) * C.length + 1 + b + R.length + 2) = ((b + R.length + 2) * C.length + 1) + (b + R.length + 2) := by omega
    rw [e, Nat.add_mul]
    have h2 : ((b + R.length + 2) * C.length + 1) * (C.length + 1) ≤ ((b + R.length + 2) * C.length + 1) * R.length := Nat.mul_le_mul_left _ h
    rw [Nat.mul_succ] at h2
    omega) hb
  refine ⟨List.zipWith (fun x t => x * t.1) x cs, by rw [List.length_zipWith, hx1, hRl, h1, Nat.min_self], ?_, fun j => ?_⟩
  · obtain ⟨i, hi, ei⟩ := List.getElem_of_mem ha0
    have hi2 : i < cs.length := by omega
    refine ⟨x[i] * (cs[i]).1, ?_, Int.mul_ne_zero (by rw [ei]; exact hne) (h2 _ (List.getElem_mem hi2)).1⟩
    have h5 : i < (List.zipWith (fun (x : Int) (t : Int × List Int) => x * t.1) x cs).length := by rw [List.length_zipWith]; omega
    have := List.getElem_mem h5
    rwa [List.getElem_zipWith] at this
  · rw [h3 x (by omega) j]
    have : ∀ (N : List Vc) (a : List Int), (∀ z ∈ a, z = 0) → dotV a N j = 0 := by
      intro N
      induction N with
      | nil => intro a _; cases a <;> rfl
      | cons w N ih =>
        intro a ha
        cases a with
        | nil => rfl
        | cons z a =>
          show z * w j + dotV a N j = 0
          rw [ha z List.mem_cons_self, ih a fun z hz => ha z (List.mem_cons_of_mem _ hz)]
          simp
    exact this L _ fun z hz => by
      obtain ⟨q, hq, e⟩ := List.mem_map.mp hz
      rw [← e]
      exact hx4 q hq
theorem NIn.few {L M : List Vc} (hn : NIn M) (h : ∀ u ∈ M, Sp (· ∈ L) u) : M.length ≤ L.length := by
  refine Classical.byContradiction fun hl => ?_
  obtain ⟨y, h1, ⟨a, ha, hne⟩, h3⟩ := relation h (by omega)
  exact hne (hn.zero h1 h3 a ha)
/-- the rows that count -/
theorem Cnt.base {L : List Vc} {n : Nat} (h : Cnt L n) : ∃ B : List Vc, B.length = n ∧ NIn B ∧ (∀ u ∈ B, u ∈ L) ∧ ∀ u ∈ L, Sp (· ∈ B) u := by
  induction h with
  | nil => exact ⟨[], rfl, .nil, fun u hu => hu, fun u hu => nomatch hu⟩
  | @add L n v _ hn ih =>
    obtain ⟨B, h1, h2, h3, h4⟩ := ih
    refine ⟨B ++ [v], by rw [List.length_append, h1]; rfl, .snoc h2 fun hs => hn (hs.sub h3), fun u hu => ?_, fun u hu => ?_⟩
    · exact List.mem_append.mpr ((List.mem_append.mp hu).imp (h3 u) id)
    · rcases List.mem_append.mp hu with hu | hu
      · exact (h4 u hu).sub fun w hw => List.mem_append_left _ hw
      · exact .mem (List.mem_append_right _ hu)
  | @skip L n v _ hs ih =>
    obtain ⟨B, h1, h2, h3, h4⟩ := ih
    refine ⟨B, h1, h2, fun u hu => List.mem_append_left _ (h3 u hu), fun u hu => ?_⟩
    rcases List.mem_append.mp hu with hu | hu
    · exact h4 u hu
    · rw [List.mem_singleton.mp hu]
      exact hs.mono h4
theorem Cnt.le {L M : List Vc} {n k : Nat} (h : Cnt L n) (g : Cnt M k) (s : ∀ u ∈ M, Sp (· ∈ L) u) : k ≤ n := by
  obtain ⟨B, h1, _, _, h4⟩ := h.base
  obtain ⟨D, g1, g2, g3, _⟩ := g.base
  rw [← h1, ← g1]
  exact g2.few fun u hu => (s u (g3 u hu)).mono h4
theorem Cnt.same {L M : List Vc} {n k : Nat} (h : Cnt L n) (g : Cnt M k) (s : ∀ u ∈ M, Sp (· ∈ L) u) (t : ∀ u ∈ L, Sp (· ∈ M) u) : k = n := Nat.le_antisymm (h.le g s) (g.le h t)
theorem Cnt.ex (L : List Vc) : ∃ n, Cnt L n := by
  suffices ∀ n, ∀ L : List Vc, L.length = n → ∃ k, Cnt L k from this _ L rfl
  intro n
  induction n with
  | zero => intro L h; rw [List.eq_nil_of_length_eq_zero h]; exact ⟨0, .nil⟩
  | succ n ih =>
    intro L h
    rcases List.eq_nil_or_concat L with e | ⟨L', v, e⟩
    · subst e; simp at h
    · rw [List.concat_eq_append] at e
      subst e
      obtain ⟨k, hk⟩ := ih L' (by simpa using h)
      by_cases hs : Sp (· ∈ L') v
      · exact ⟨k, .skip hk hs⟩
      · exact ⟨k + 1, .add hk hs⟩
/-- a map that keeps sums -/
structure Lin (f : Vc → Vc) : Prop where
  zero : ∀ j, f (fun _ => 0) j = 0
  comb : ∀ a u b v j, f (cb a u b v) j = a * f u j + b * f v j
theorem Lin.sp {f : Vc → Vc} (F : Lin f) {G : Vc → Prop} {v : Vc} (h : Sp G v) : Sp (fun u => ∃ w, G w ∧ u = f w) (f v) := by
  induction h with
  | zero => exact Sp.zero.of_eq fun j => (F.zero j).symm
  | mem g => exact .mem ⟨_, g, rfl⟩
  | @comb u v a b _ _ i1 i2 => exact (Sp.comb a b i1 i2).of_eq fun j => (F.comb a u b v j).symm
  | @div u c hc _ i =>
    refine .div c hc (i.of_eq fun j => ?_)
    have e : (fun j => c * u j) = cb c u 0 u := by funext j; show c * u j = c * u j + 0 * u j; omega
    rw [e, F.comb]
    omega
theorem Lin.spm {f : Vc → Vc} (F : Lin f) {L : List Vc} {v : Vc} (h : Sp (· ∈ L) v) : Sp (· ∈ L.map f) (f v) := (F.sp h).sub fun u ⟨w, hw, e⟩ => by rw [e]; exact List.mem_map_of_mem hw
/-- how much the map takes away from the rows behind is at most how many they are -/
theorem Cnt.behind {f : Vc → Vc} (F : Lin f) {A B : List Vc} {n m n' m' : Nat} (h1 : Cnt (A ++ B) n) (h2 : Cnt A m) (h3 : Cnt (A.map f ++ B.map f) n') (h4 : Cnt (A.map f) m') : m ≤ n ∧ m' ≤ n' ∧ n' - m' ≤ n - m := by
  suffices ∀ k, ∀ B : List Vc, B.length = k → ∀ n n', Cnt (A ++ B) n → Cnt (A.map f ++ B.map f) n' → m ≤ n ∧ m' ≤ n' ∧ n' - m' ≤ n - m from this _ B rfl n n' h1 h3
  clear h1 h3
  intro k
  induction k with
  | zero =>
    intro B hB n n' h1 h3
    rw [List.eq_nil_of_length_eq_zero hB, List.append_nil] at h1
    rw [List.eq_nil_of_length_eq_zero hB, List.map_nil, List.append_nil] at h3
    have := h1.one h2
    have := h3.one h4
    omega
  | succ k ih =>
    intro B hB n n' h1 h3
    rcases List.eq_nil_or_concat B with e | ⟨B', v, e⟩
    · subst e; simp at hB
    · rw [List.concat_eq_append] at e
      subst e
      rw [← List.append_assoc] at h1
      rw [List.map_append, ← List.append_assoc] at h3
      have hl : B'.length = k := by simpa using hB
      have app : ∀ {M : List Vc} {u : Vc} {n : Nat}, Cnt (M ++ [u]) n → (∃ k, n = k + 1 ∧ Cnt M k ∧ ¬ Sp (· ∈ M) u) ∨ (Cnt M n ∧ Sp (· ∈ M) u) := fun {M u n} h => by
        rcases h.inv with ⟨e, _⟩ | ⟨L', v', e, q⟩
        · simp at e
        · obtain ⟨e1, e2⟩ := List.append_inj' e rfl
          cases e2
          subst e1
          exact q
      rcases app h1 with ⟨i, ei, c1, _⟩ | ⟨c1, s1⟩
      · rcases app h3 with ⟨i', ei', c3, _⟩ | ⟨c3, s3⟩
        · have := ih B' hl i i' c1 c3
          omega
        · have := ih B' hl i n' c1 c3
          omega
      · rcases app h3 with ⟨i', ei', c3, ns⟩ | ⟨c3, s3⟩
        · refine absurd ?_ ns
          have := F.spm s1
          rwa [List.map_append] at this
        · exact ih B' hl n n' c1 c3
/-! columns -/
def colsT (t : List (List Int)) (w : Nat) : List (List Int) := (List.range w).map fun j => t.map fun r => r.getD j 0
theorem swapD (A : Nat → List Int) (i j : Nat) : ∀ (N : List Vc) (p : List Int) (o : Nat), p.length = N.length → (∀ q, (A i).getD (o + q) 0 = p.getD q 0) → dotV p N j = dotV (N.map fun u => u j) ((List.range' o N.length).map fun q => fun i => (A i).getD q 0) i := by
  intro N
  induction N with
  | nil => intro p o hp _; rw [List.eq_nil_of_length_eq_zero hp]; rfl
  | cons w N ih =>
    intro p o hp hA
    match p, hp with
    | z :: p, hp =>
      rw [List.length_cons, List.range'_succ, List.map_cons, List.map_cons]
      show z * w j + dotV p N j = w j * (A i).getD o 0 + dotV _ _ i
      rw [ih p (o + 1) (by simpa using hp) (fun q => by
        have := hA (q + 1)
        rw [show o + 1 + q = o + (q + 1) by omega, this]
        rfl)]
      have h0 := hA 0
      rw [Nat.add_zero] at h0
      rw [h0, Int.mul_comm]
      rfl
theorem vec_col {t : List (List Int)} {i j : Nat} : vec (t.map fun r => r.getD j 0) i = vec (t.getD i []) j := by
  unfold vec
  rw [List.getD_eq_getElem?_getD, List.getElem?_map, List.getD_eq_getElem?_getD (l := t)]
  cases t[i]? with
  | none => rfl
  | some r => rfl
theorem dotV_scale (cf : Nat → Int) : ∀ (y : List Int) (M : List Vc) (i : Nat), dotV y (M.map fun u => fun i => cf i * u i) i = cf i * dotV y M i
  | [], M, i => by cases M <;> simp [dotV]
  | _ :: _, [], i => by simp [dotV]
  | a :: y, u :: M, i => by
    show a * (cf i * u i) + dotV y _ i = cf i * (a * u i + dotV y M i)
    rw [dotV_scale cf y M i, Int.mul_add, Int.mul_left_comm]
theorem rank_cols {t : List (List Int)} {w n k : Nat} (h : Cnt (t.map vec) n) (g : Cnt ((colsT t w).map vec) k) : k ≤ n := by
  obtain ⟨B, b1, _, _, b4⟩ := h.base
  obtain ⟨M, m1, m2, m3, _⟩ := g.base
  refine Classical.byContradiction fun hk => ?_
  have hr : ∀ i, Sp (· ∈ B) (vec (t.getD i [])) := fun i => by
    rw [List.getD_eq_getElem?_getD]
    cases q : t[i]? with
    | none => exact Sp.zero.of_eq fun j => rfl
    | some r => exact b4 _ (List.mem_map_of_mem (List.mem_of_getElem? q))
  let cf : Nat → Int := fun i => (coefs (hr i)).choose
  let A : Nat → List Int := fun i => (coefs (hr i)).choose_spec.choose
  have hA : ∀ i, cf i ≠ 0 ∧ (A i).length = B.length ∧ ∀ j, cf i * vec (t.getD i []) j = dotV (A i) B j := fun i => (coefs (hr i)).choose_spec.choose_spec
  let L : List Vc := (List.range' 0 B.length).map fun q => fun i => (A i).getD q 0
  have hL : L.length = n := by show (List.map _ _).length = _; rw [List.length_map, List.length_range', b1]
  have hD : ∀ u ∈ M.map (fun u => fun i => cf i * u i), Sp (· ∈ L) u := fun u hu => by
    obtain ⟨v, hv, e⟩ := List.mem_map.mp hu
    obtain ⟨l, hl, e2⟩ := List.mem_map.mp (m3 v hv)
    obtain ⟨j, _, e3⟩ := List.mem_map.mp hl
    refine (dotV_sp (x := B.map fun u => u j) (L := L)).of_eq fun i => ?_
    rw [← e, ← e2, ← e3]
    show _ = cf i * vec (t.map fun r => r.getD j 0) i
    rw [vec_col, (hA i).2.2 j]
    exact (swapD A i j B (A i) 0 (hA i).2.1 fun q => by rw [Nat.zero_add]).symm
  obtain ⟨y, y1, ⟨a, ha, hne⟩, y3⟩ := relation hD (Nat.lt_of_lt_of_eq (Nat.lt_of_le_of_lt (Nat.le_of_eq hL) (by omega : n < k)) (by rw [List.length_map, m1] : (M.map (fun u => fun i => cf i * u i)).length = k).symm)
  have y1 : y.length = M.length := y1.trans (List.length_map ..)
  refine hne (m2.zero y1 (fun i => ?_) a ha)
  have := y3 i
  rw [dotV_scale] at this
  exact (Int.mul_eq_zero.mp this).resolve_left (hA i).1
theorem colsT_twice {t : List (List Int)} {w : Nat} (hw : ∀ r ∈ t, r.length = w) : colsT (colsT t w) t.length = t := by
  unfold colsT
  apply List.ext_getElem
  · simp
  · intro i h1 h2
    rw [List.getElem_map, List.getElem_range, List.map_map]
    have hl : t[i].length = w := hw _ (List.getElem_mem h2)
    apply List.ext_getElem
    · simp [hl]
    · intro j g1 g2
      rw [List.getElem_map, List.getElem_range]
      show (t.map fun r => r.getD j 0).getD i 0 = _
      rw [List.getD_eq_getElem?_getD, List.getElem?_map, List.getElem?_eq_getElem h2]
      show t[i].getD j 0 = _
      rw [List.getD_eq_getElem?_getD, List.getElem?_eq_getElem g2]
      rfl
theorem Cnt.lin {f : Vc → Vc} (F : Lin f) {L : List Vc} {n k : Nat} (h : Cnt L n) (g : Cnt (L.map f) k) : k ≤ n := by
  have := Cnt.behind F (A := []) (B := L) h .nil g .nil
  omega
/-- v times the rows L -/
def times (L : List Vc) (v : Vc) : Vc := dotV ((List.range L.length).map v) L
theorem times_lin (L : List Vc) : Lin (times L) := by
  have key : ∀ (L : List Vc) (o : Nat) (a b : Int) (u v : Vc) (j : Nat), dotV ((List.range' o L.length).map (cb a u b v)) L j = a * dotV ((List.range' o L.length).map u) L j + b * dotV ((List.range' o L.length).map v) L j := by
    intro L
    induction L with
    | nil => intro o a b u v j; simp [dotV]
    | cons w L ih =>
      intro o a b u v j
      rw [List.length_cons, List.range'_succ, List.map_cons, List.map_cons, List.map_cons]
      show cb a u b v o * w j + dotV _ L j = a * (u o * w j + dotV _ L j) + b * (v o * w j + dotV _ L j)
      rw [ih]
      simp only [cb, Int.add_mul, Int.mul_add, Int.mul_assoc]
      omega
  have key2 : ∀ a u b v j, times L (cb a u b v) j = a * times L u j + b * times L v j := fun a u b v j => by
    have := key L 0 a b u v j
    rw [← List.range_eq_range'] at this
    exact this
  refine ⟨fun j => ?_, key2⟩
  have := key2 0 (fun _ => 0) 0 (fun _ => 0) j
  rw [show cb 0 (fun _ => 0) 0 (fun _ => 0) = (fun _ : Nat => (0 : Int)) from by funext q; simp [cb]] at this
  omega
theorem times_sp (L : List Vc) (v : Vc) : Sp (· ∈ L) (times L v) := dotV_sp
theorem times_vec {L : List Vc} {row : List Int} (h : row.length = L.length) : times L (vec row) = dotV row L := by
  unfold times
  congr 1
  apply List.ext_getElem
  · simp [h]
  · intro i h1 h2
    rw [List.getElem_map, List.getElem_range]
    exact vec_get (List.getElem?_eq_getElem h2)
theorem NIn.cnt {M : List Vc} (h : NIn M) : Cnt M M.length := by
  induction h with
  | nil => exact .nil
  | snoc _ hn ih => rw [List.length_append]; exact .add ih hn
theorem Cnt.le_len {L : List Vc} {n : Nat} (h : Cnt L n) : n ≤ L.length := by
  obtain ⟨B, h1, h2, h3, _⟩ := h.base
  rw [← h1]
  exact h2.few fun u hu => .mem (h3 u hu)
/-- no more leads than the rows' rank -/
theorem rowsOf_rank {e : Ent} {n k : Nat} {L : List Vc} (T : Tri e n) (h : ∀ u, Gen e n u → Sp (· ∈ L) u) (c : Cnt L k) : (rowsOf e n).length ≤ k := by
  obtain ⟨B, h1, _, _, h4⟩ := c.base
  rw [← h1]
  exact (rowsOf_in T).few fun u hu => ((org_gen T (rowsOf_mem.mp hu)).mono h).mono h4
end VL
namespace VL
open PySem PySem.Spec PyProof.Rows L2
/-! ### texts: what the operations answer -/
theorem opt_addSE {a b : Str} {Q : Str → Prop} (h : a.length + b.length ≤ 2 ^ 24) : opt (addS a b) Q = Q (a ++ b) := by
  unfold addS
  rw [if_pos h]
  rfl
theorem opt_ixStrE {z : Str} {i : Int} {c : Nat} {Q : Str → Prop} (h : z.length ≤ 2 ^ 24) (h0 : 0 ≤ i) (e : z.cps.toList[i.toNat]? = some c) : opt (ixStr z i) Q = Q ⟨#[c]⟩ := by
  unfold ixStr ixL
  rw [if_pos h, if_pos h0, e]
  rfl
theorem opt_repStrE {z : Str} {n : Int} {Q : Str → Prop} (h : -(2 ^ 62) ≤ n ∧ n < 2 ^ 62 ∧ z.length * n.toNat ≤ 2 ^ 24) : opt (repStr z n) Q = Q (repTxt z n) := by
  unfold repStr
  rw [if_pos h]
  rfl
theorem opt_joinE {a : Str} {l : List Str} {Q : Str → Prop} (h : (l.map (·.length)).sum + l.length * a.length ≤ 2 ^ 24) : opt (joinStr a l) Q = Q (Txt.join a l) := by
  unfold joinStr
  rw [if_pos h]
  rfl
theorem opt_stripE {a : Str} {Q : Str → Prop} (h : a.length ≤ 2 ^ 24) : opt (stripStr a) Q = Q (Txt.strip a) := by
  unfold stripStr
  rw [if_pos h]
  rfl
@[simp] theorem val_eCutS {ρ : Type} (f : ρ → M Str) (g h : ρ → M (Option Int)) (r : ρ) (Q : Str → Prop) : val (eCutS f g h r) Q = val (f r) fun z => val (g r) fun a => val (h r) fun b => if z.length ≤ line then Q (cutS z a b) else False := by
  unfold eCutS
  simp only [val_bind, val_ite, val_ok, val_er]
theorem opt_eqCE {α : Type} [PT : PyTy α] [T : DatS α] [DecidableEq α] {x y : α} {Q : Bool → Prop} (h1 : layC x = true) (h2 : layC y = true) : opt (eqC x y) Q = Q (decide (x = y)) := by
  unfold eqC
  rw [if_pos (by rw [h1, h2]; rfl), eqv_decC]
  rfl
theorem opt_neCE {α : Type} [PT : PyTy α] [T : DatS α] [DecidableEq α] {x y : α} {Q : Bool → Prop} (h1 : layC x = true) (h2 : layC y = true) : opt (neC x y) Q = Q (!decide (x = y)) := by
  unfold neC
  rw [if_pos (by rw [h1, h2]; rfl), eqv_decC]
  rfl
theorem lay_list {α : Type} [PT : PyTy α] [T : DatC α] {l : List α} (h : ∀ x ∈ l, layC x = true) : layC l = true := by
  show PyData.canLayAll0 (l.map T.toD) = true
  induction l with
  | nil => rfl
  | cons a l ih =>
    show ((T.toD a).canLay0 && PyData.canLayAll0 (l.map T.toD)) = true
    rw [ih fun x hx => h x (List.mem_cons_of_mem _ hx), show (T.toD a).canLay0 = true from h a (List.mem_cons_self ..)]
    rfl
theorem lay_str {x : Str} (h : ∀ c ∈ x.cps.toList, c < 0x110000) : layC x = true := by
  show (PyData.str x).canLay0 = true
  unfold PyData.canLay0 PyData.strOk
  rw [← Array.all_toList, List.all_eq_true]
  exact fun c hc => decide_eq_true (h c hc)
@[simp] theorem val_eTl {ρ α : Type} (f : ρ → M (Tp α)) (r : ρ) (Q : List α → Prop) : val (eTl f r) Q = val (f r) fun t => Q t.l := by simp [eTl]
@[simp] theorem val_eCut2 {ρ α : Type} (f : ρ → M (List α × ρ)) (g h : ρ → M (Option Int)) (r : ρ) (Q : List α × ρ → Prop) : val (eCut2 f g h r) Q = val (f r) fun lr => val (g lr.2) fun a => val (h lr.2) fun b => Q (cutA lr.1 a b, lr.2) := by simp [eCut2]
end VL
namespace VL
open PySem PySem.Spec PyProof.Rows L2
/-! ### errors, mixed things: what the operations answer -/
@[simp] theorem val_eCallX {ρ A R : Type} (m : A → M R) (f : ρ → M A) (r : ρ) (Q : R → Prop) : val (eCallX m f r) Q = val (f r) fun a => val (m a) Q := by
  unfold eCallX
  rw [val_bind]
@[simp] theorem wp_raise {ρ R : Type} (c : String) (r : ρ) (N : ρ → Prop) (T : R → Prop) (B C : ρ → Prop) : wp (fRaise (R := R) c r) N T B C = False := id rfl
@[simp] theorem opt_cnt {α : Type} [DecidableEq α] (l : List α) (x : α) (Q : Int → Prop) : opt (cntOf l x) Q = Q ((l.countP fun y => decide (y = x) : Nat) : Int) := id rfl
@[simp] theorem opt_allB (l : List Bool) (Q : Bool → Prop) : opt (allB l) Q = Q (l.all id) := id rfl
@[simp] theorem opt_scI (x : Int) (Q : Sc → Prop) : opt (scI x) Q = Q (.i x) := id rfl
@[simp] theorem opt_scB (x : Bool) (Q : Sc → Prop) : opt (scB x) Q = Q (.b x) := id rfl
@[simp] theorem opt_scS (x : Str) (Q : Sc → Prop) : opt (scS x) Q = Q (.s x) := id rfl
@[simp] theorem opt_scN (x : Unit) (Q : Sc → Prop) : opt (scN x) Q = Q .non := id rfl
@[simp] theorem opt_lsY (x : List Int) (Q : List Sc → Prop) : opt (lsY x) Q = Q (x.map .i) := id rfl
@[simp] theorem opt_toI (x : Int) (Q : Int → Prop) : opt (toI (.i x)) Q = Q x := id rfl
theorem allI_map : ∀ l : List Int, allI (l.map .i) = some l
  | [] => rfl
  | a :: l => by
    show (allI (l.map .i)).map (a :: ·) = some (a :: l)
    rw [allI_map l]
    rfl
theorem opt_allIE (l : List Int) (Q : List Int → Prop) : opt (allI (l.map .i)) Q = Q l := by
  rw [allI_map]
  rfl
theorem eqv_sc : ∀ x : Sc, PyData.eqv (dcSc.toD x) (dcSc.toD x) = true
  | .i n => by show (n == n) = true; exact beq_self_eq_true n
  | .b n => by show (n == n) = true; exact beq_self_eq_true n
  | .s n => by show (n == n) = true; exact beq_self_eq_true n
  | .non => rfl
theorem eqv_scs : ∀ l : List Sc, PyData.eqvAll (l.map dcSc.toD) (l.map dcSc.toD) = true
  | [] => rfl
  | a :: l => by
    show (PyData.eqv (dcSc.toD a) (dcSc.toD a) && PyData.eqvAll (l.map dcSc.toD) (l.map dcSc.toD)) = true
    rw [eqv_sc, eqv_scs l]
    rfl
theorem opt_neC1 {x : Sc} {Q : Bool → Prop} (h : layC x = true) : opt (neC x x) Q = Q false := by
  unfold neC
  rw [if_pos (by rw [h]; rfl)]
  show Q (!PyData.eqv (dcSc.toD x) (dcSc.toD x)) = Q false
  rw [eqv_sc]
  rfl
theorem opt_neC_self {l : List Sc} {Q : Bool → Prop} (h : layC l = true) : opt (neC l l) Q = Q false := by
  unfold neC
  rw [if_pos (by rw [h]; rfl)]
  show Q (!PyData.eqvAll (l.map dcSc.toD) (l.map dcSc.toD)) = Q false
  rw [eqv_scs]
  rfl
theorem opt_eqC_self {l : List Sc} {Q : Bool → Prop} (h : layC l = true) : opt (eqC l l) Q = Q true := by
  unfold eqC
  rw [if_pos (by rw [h]; rfl)]
  show Q (PyData.eqvAll (l.map dcSc.toD) (l.map dcSc.toD)) = Q true
  rw [eqv_scs]
theorem try_err {ρ R : Type} {fb : ρ → M (Fl ρ R)} {h : String → Option R} {r : ρ} {c : String} {v : R} (e : fb r = .error (.exc c)) (hc : h c = some v) : fTry fb h r = .ok (.rt v r) := by
  show tryR h r (fb r) = _
  rw [e]
  show (match h c with | some v => (.ok (.rt v r) : M (Fl ρ R)) | none => .error .stuck) = _
  rw [hc]
theorem try_ok {ρ R : Type} {fb : ρ → M (Fl ρ R)} {h : String → Option R} {r : ρ} {o : Fl ρ R} (e : fb r = .ok o) : fTry fb h r = .ok o := by
  show tryR h r (fb r) = _
  rw [e]
  rfl
section
variable {ρ R A B α β : Type} {r r' : ρ} {e : Er}
theorem wp_ex {m : M (Fl ρ R)} {N : ρ → Prop} (h : wp m N (fun _ => False) (fun _ => False) (fun _ => False)) : ∃ r', m = .ok (.nx r') ∧ N r' := by
  cases m with
  | ok f => cases f with
    | nx r => exact ⟨r, rfl, h⟩
    | rt a r => exact h.elim
    | bk r => exact h.elim
    | ct r => exact h.elim
  | error e => exact h.elim
theorem seq_err {f g : ρ → M (Fl ρ R)} (h : f r = .error e) : fSeq f g r = .error e := by unfold fSeq; rw [h]; rfl
theorem seq_ok {f g : ρ → M (Fl ρ R)} (h : f r = .ok (.nx r')) : fSeq f g r = g r' := by unfold fSeq; rw [h]; rfl
theorem seq_rt {f g : ρ → M (Fl ρ R)} {a : R} (h : f r = .ok (.rt a r')) : fSeq f g r = .ok (.rt a r') := by unfold fSeq; rw [h]; rfl
theorem drop_err {f : ρ → M (α × ρ)} (h : f r = .error e) : fDrop (R := R) f r = .error e := by unfold fDrop; rw [h]; rfl
theorem drop_ok {f : ρ → M (α × ρ)} {a : α} (h : f r = .ok (a, r')) : fDrop (R := R) f r = .ok (.nx r') := by unfold fDrop; rw [h]; rfl
theorem lift_err {f : ρ → M α} (h : f r = .error e) : lift f r = .error e := by unfold lift; rw [h]; rfl
theorem lift_ok {f : ρ → M α} {a : α} (h : f r = .ok a) : lift f r = .ok (a, r) := by unfold lift; rw [h]; rfl
theorem callX_err {m : A → M R} {f : ρ → M A} {a : A} (h : f r = .ok a) (h2 : m a = .error e) : eCallX m f r = .error e := by unfold eCallX; rw [h]; exact h2
theorem callX_ok {m : A → M R} {f : ρ → M A} {a : A} {c : R} (h : f r = .ok a) (h2 : m a = .ok c) : eCallX m f r = .ok c := by unfold eCallX; rw [h]; exact h2
theorem runR_err {f : ρ → M (Fl ρ R)} (h : f r = .error e) : runR f r = .error e := by unfold runR; rw [h]; rfl
theorem runR_rt {f : ρ → M (Fl ρ R)} {a : R} (h : f r = .ok (.rt a r')) : runR f r = .ok a := by unfold runR; rw [h]; rfl
theorem runRU_err {f : ρ → M (Fl ρ Unit)} (h : f r = .error e) : runRU f r = .error e := by unfold runRU; rw [h]; rfl
theorem if_yes {c : ρ → M (Bool × ρ)} {f g : ρ → M (Fl ρ R)} (h : c r = .ok (true, r')) : fIf c f g r = f r' := by unfold fIf; rw [h]; rfl
theorem if_no {c : ρ → M (Bool × ρ)} {f g : ρ → M (Fl ρ R)} (h : c r = .ok (false, r')) : fIf c f g r = g r' := by unfold fIf; rw [h]; rfl
theorem for_err {xs : ρ → M (List β)} {set : β → ρ → ρ} {body : ρ → M (Fl ρ R)} {l : List β} (h : xs r = .ok l) (h2 : loop set body l r = .error e) : fFor xs set body r = .error e := by unfold fFor; rw [h]; exact h2
theorem for_ok {xs : ρ → M (List β)} {set : β → ρ → ρ} {body : ρ → M (Fl ρ R)} {l : List β} {o : Fl ρ R} (h : xs r = .ok l) (h2 : loop set body l r = .ok o) : fFor xs set body r = .ok o := by unfold fFor; rw [h]; exact h2
theorem seq_err2 {f g : ρ → M (Fl ρ R)} (h : wp (f r) (fun r' => g r' = .error e) (fun _ => False) (fun _ => False) (fun _ => False)) : fSeq f g r = .error e := by
  obtain ⟨r', e1, e2⟩ := wp_ex h
  rw [seq_ok e1]
  exact e2
theorem set_err {s : α → ρ → ρ} {f : ρ → M (α × ρ)} (h : f r = .error e) : fSet (R := R) s f r = .error e := by unfold fSet; rw [h]; rfl
theorem set_ok {s : α → ρ → ρ} {f : ρ → M (α × ρ)} {a : α} (h : f r = .ok (a, r')) : fSet (R := R) s f r = .ok (.nx (s a r')) := by unfold fSet; rw [h]; rfl
/-- a walk that stops by an error at the first that is not good -/
theorem loop_chk {set : β → ρ → ρ} {body : ρ → M (Fl ρ R)} (P : ρ → Prop) (g : β → Bool) (h1 : ∀ x r, P r → g x = true → ∃ r', body (set x r) = .ok (.nx r') ∧ P r') (h2 : ∀ x r, P r → g x = false → body (set x r) = .error e) : ∀ (s : List β) (r : ρ), P r → (s.all g = true → ∃ r', loop set body s r = .ok (.nx r') ∧ P r') ∧ (s.all g = false → loop set body s r = .error e)
  | [], r, h => ⟨fun _ => ⟨r, rfl, h⟩, fun z => nomatch z⟩
  | x :: s, r, h => by
    cases gx : g x with
    | false =>
      refine ⟨fun z => ?_, fun _ => ?_⟩
      · rw [List.all_cons, gx] at z
        exact nomatch z
      · unfold loop
        rw [h2 x r h gx]
        rfl
    | true =>
      obtain ⟨r', e', p'⟩ := h1 x r h gx
      have ih := loop_chk P g h1 h2 s r' p'
      unfold loop
      rw [e', List.all_cons, gx, Bool.true_and]
      exact ih
end
end VL
namespace VL
universe u
open PySem PySem.Spec PyProof.Rows L2

/-! ### dicts whose keys are pairs of whole numbers, each with True: own ones, and ones that nobody changes any more -/
structure Dq where
  l : List (Int × Int)
structure Dz where
  l : List (Int × Int)
def kq (p : Int × Int) : List Key := [Sum.inl p.1, Sum.inl p.2]
theorem kq_inj {p q : Int × Int} (e : kq p = kq q) : p = q := by
  cases p
  cases q
  unfold kq at e
  simp at e
  rw [e.1, e.2]
theorem kq_kV (p : Int × Int) : (kq p).map kV = [V.int p.1, V.int p.2] := rfl
def kvq (l : List (Int × Int)) : List (List Key × V) := l.map fun p => (kq p, V.bl true)
theorem kvq_len (l : List (Int × Int)) : (kvq l).length = l.length := by unfold kvq; rw [List.length_map]
theorem kvq_any (k : Int × Int) : ∀ l, ((kvq l).any fun kv => decide (kv.1 = kq k)) = decide (k ∈ l)
  | [] => rfl
  | p :: l => by
    have ih := kvq_any k l
    show (decide (kq p = kq k) || (kvq l).any fun kv => decide (kv.1 = kq k)) = _
    rw [ih, ← Bool.decide_or]
    refine decide_eq_decide.mpr ?_
    rw [List.mem_cons]
    exact or_congr ⟨fun e => (kq_inj e).symm, fun e => by rw [e]⟩ Iff.rfl
theorem kvq_val (k : Int × Int) : ∀ l, valV (kvq l) (kq k) = if k ∈ l then some (V.bl true) else none
  | [] => rfl
  | p :: l => by
    have ih := kvq_val k l
    by_cases e : p = k
    · subst e
      rw [if_pos List.mem_cons_self]
      exact valV_pos (p := (kq p, V.bl true)) rfl
    · have : valV (kvq (p :: l)) (kq k) = valV (kvq l) (kq k) := valV_neg (p := (kq p, V.bl true)) fun z => e (kq_inj z)
      rw [this, ih]
      by_cases m : k ∈ l
      · rw [if_pos m, if_pos (List.mem_cons_of_mem _ m)]
      · rw [if_neg m, if_neg (fun z => (List.mem_cons.mp z).elim (fun q => e q.symm) m)]
def putP (l : List (Int × Int)) (k : Int × Int) : List (Int × Int) := if k ∈ l then l else l ++ [k]
def popP (l : List (Int × Int)) (k : Int × Int) : List (Int × Int) := l.filter fun p => decide (p ≠ k)
theorem kvq_put (l : List (Int × Int)) (k : Int × Int) : putK (kvq l) (kq k) (V.bl true) = kvq (putP l k) := by
  unfold putK putP
  rw [kvq_any]
  by_cases m : k ∈ l
  · rw [if_pos (decide_eq_true m), if_pos m]
    unfold kvq
    rw [List.map_map]
    refine List.map_congr_left fun p _ => ?_
    show (if kq p = kq k then (kq p, V.bl true) else (kq p, V.bl true)) = _
    split <;> rfl
  · rw [if_neg (by rw [decide_eq_false m]; exact Bool.false_ne_true), if_neg m]
    unfold kvq
    rw [List.map_append]
    rfl
theorem kvq_pop (l : List (Int × Int)) (k : Int × Int) : dropK (kvq l) (kq k) = kvq (popP l k) := by
  unfold dropK popP kvq
  rw [List.filter_map]
  congr 1
  refine List.filter_congr fun p _ => ?_
  show decide (kq p ≠ kq k) = decide (p ≠ k)
  exact decide_eq_decide.mpr ⟨fun h e => h (by rw [e]), fun h e => h (kq_inj e)⟩
theorem putP_len (l : List (Int × Int)) (k : Int × Int) : (putP l k).length ≤ l.length + 1 := by
  unfold putP
  split
  · omega
  · rw [List.length_append, List.length_singleton]; exact Nat.le_refl _
instance instDq : PyTy Dq where
  rep K k S H v d F := ∃ p, v = .ref p ∧ nodeAt k S H p (.dT (kvq d.l)) F [] ∧ d.l.length ≤ line
  mono := fun {K k S H S' H' v a F} ⟨p, e, n, z⟩ hs hk => ⟨p, e, n.mono hs hk, z⟩
  here := fun {K k S H v a F} ⟨p, e, n, z⟩ => n.here fun q hq => nomatch hq
  freeze := fun {K k S H S' v a F} ⟨p, e, n, z⟩ hs hk H' => ⟨p, e, ⟨n.froz hs hk, rfl⟩, z⟩
  zero := fun ⟨p, e, n, z⟩ => n.2
instance instDz : PyTy Dz where
  rep K k S H v d F := F = [] ∧ ∃ p o, v = .ref p ∧ S p = some (.frz o (.dT (kvq d.l))) ∧ d.l.length ≤ line
  mono := fun {K k S H S' H' v a F} ⟨e, p, o, ev, n, z⟩ hs hk => ⟨e, p, o, ev, hs _ _ n, z⟩
  here := fun {K k S H v a F} ⟨e, _⟩ q hq => by rw [e] at hq; cases hq
  freeze := fun {K k S H S' v a F} ⟨e, p, o, ev, n, z⟩ hs hk H' => ⟨rfl, p, o, ev, hs _ _ n, z⟩
  zero := fun h => h.1
def toZ (d : Dq) : Option Dz := some ⟨d.l⟩
/-- what has pairs as keys -/
class Dict2 (α : Type) [T : PyTy α] where
  ks : α → List (Int × Int)
  rd : ∀ {K H v a}, T.rep K 0 H H v a [] → ∃ p, v = .ref p ∧ Rd H p (.dT (kvq (ks a)))
instance : Dict2 Dq := ⟨fun d => d.l, fun ⟨p, e, n, z⟩ => ⟨p, e, .inl n.1⟩⟩
instance : Dict2 Dz := ⟨fun d => d.l, fun ⟨_, p, o, e, n, z⟩ => ⟨p, e, .inr ⟨o, n⟩⟩⟩
def inQ {α : Type} [T : PyTy α] [D : Dict2 α] (k : Int × Int) (d : α) : Option Bool := some (decide (k ∈ D.ks d))
theorem pair_at {K : PySem.W.Frag} {H : Hp} {y : V} {k : Int × Int} (h : (instProd (α := Int) (β := Int)).rep K 0 H H y k []) : ∃ b, y = .ref b ∧ H b = some (.tup ((kq k).map kV)) := by
  obtain ⟨p, x, z, F1, F2, e, n, r1, r2⟩ := h
  have e1 := rep_scal r1
  have e2 := rep_scal r2
  subst e1 e2
  exact ⟨p, e, n.1⟩
section
variable {X : Cx} {K : PySem.W.Frag} {W : Hp → String → Prop} {ρ : Type} {sl : ρ → List Slot} {ms : List Mode} {a b e : Expr} {pos p : Pos} {ka kb : Mode} {α : Type} [TA : PyTy α] [D : Dict2 α]
theorem pv_dnewQ {k : Nat} : PE X (.Dict [] [] pos) (tP K W sl ms (e0 (⟨[]⟩ : Dq)) (lv (k + 1))) :=
  PE.conv pe_dnewT fun σ H Q ⟨r, S, hs, hv, he⟩ => fun q hq => he (.ref q) S (L2.upd H q (.dT [])) [q] ⟨Sub.new hq, Sub.refl S, hs.trans (Sub.new hq), fun p z => .inl z, fun p hp => by rw [List.mem_singleton.mp hp]; exact ⟨hq, hs.back hq⟩, List.nodup_cons.mpr ⟨by simp, List.nodup_nil⟩⟩ ⟨q, rfl, ⟨upd_same, rfl⟩, Nat.zero_le _⟩
theorem inQ_read {f : ρ → M (Int × Int)} {g : ρ → M α} (ha : PE X a (tP K W sl ms f ka)) (hb : PE X b (tP K W sl ms g kb)) (hka : ka ≠ .un) (hkb : kb ≠ .un) {σ : L2.St} {H : Hp} {Q : VK} (h : tP K W sl ms (e2 inQ f g) (lv 0) σ H Q) :
    tP K W sl ms f ka σ H fun y H1 => tP K W sl ms g kb σ H1 fun x H2 => ∃ a o, x = .ref a ∧ DGet H2 a y o ∧ Q (.bl o.isSome) H2 := by
  obtain ⟨r, S, hs, hv, he⟩ := h
  refine two (R := fun y x H2 => ∃ a o, x = .ref a ∧ DGet H2 a y o ∧ Q (.bl o.isSome) H2) ha hb hs hv ?_
  refine ends_mono (ends_bind he) (fun x ex q => ends_mono (ends_bind q) (fun y ey q v u S' H' F1 F2 x' g1 g2 => ?_) fun c q => q) fun c q => q
  obtain ⟨c, ec, hc⟩ := pair_at (g1.look x'.sh hka)
  obtain ⟨p, e1, rd⟩ := D.rd (g2.look x'.sh hkb)
  refine ⟨p, _, e1, .inr ⟨_, kq x, c, rd, ec, hc, rfl⟩, ?_⟩
  rw [kvq_val]
  have hq := q (.bl (decide (x ∈ D.ks y))) (add S' H' (F2 ++ F1)) H' [] (x'.share fun p hp => (List.mem_append.mp hp).elim (g2.here p) (g1.here p)) (Scal.scal.mpr ⟨rfl, rfl⟩)
  by_cases m : x ∈ D.ks y
  · rw [if_pos m]
    rw [decide_eq_true m] at hq
    exact hq
  · rw [if_neg m]
    rw [decide_eq_false m] at hq
    exact hq
theorem pv_inQ {f : ρ → M (Int × Int)} {g : ρ → M α} (hu : X.A.units + 1 < cLine) (ha : PE X a (tP K W sl ms f ka)) (hb : PE X b (tP K W sl ms g kb)) (hka : ka ≠ .un := by decide) (hkb : kb ≠ .un := by decide) (h1 : behindInMarks .In b = false := by rfl) : PE X (.Compare a [.In] [b] pos) (tP K W sl ms (e2 inQ f g) (lv 0)) :=
  PE.conv (pe_cmp (pc_din hu ha hb) h1) fun σ H Q h => by
    exact inQ_read ha hb hka hkb h
theorem pt_inQ {f : ρ → M (Int × Int)} {g : ρ → M α} (hu : X.A.units + 1 < cLine) (ha : PE X a (tP K W sl ms f ka)) (hb : PE X b (tP K W sl ms g kb)) (hka : ka ≠ .un := by decide) (hkb : kb ≠ .un := by decide) (h1 : behindInMarks .In b = false := by rfl) : PT X (.Compare a [.In] [b] pos) (tPT K W sl ms (e2 inQ f g)) :=
  PT.conv (pt_cmp (pc_din hu ha hb) h1) fun σ H Q h => by
    exact inQ_read ha hb hka hkb (tPT_of (t := tP K W sl ms (e2 inQ f g) (lv 0)) (kd := lv 0) (by decide) h)
end

/-! ### a dict that is changed no more -/
theorem pe_lockV {X : Cx} {e : Expr} {t : TE} (h : PE X e t) : PE X e (fun σ H Q => t σ H fun v H' => ∃ p u, v = .ref p ∧ H' p = some u ∧ Mut (some u) ∧ ∀ od, Q v (L2.upd H' p (.frz od u))) := by
  refine ⟨fun pins s σ H Q I hw => ?_⟩
  refine thn (h.run pins s σ H _ I hw) fun v s1 ⟨x, H1, I1, r, p, u, ex, hp, mu, q⟩ => ?_
  obtain ⟨od, I2⟩ := I1.lock hp mu
  exact ⟨x, _, I2, r, q od⟩
theorem Hd.lockZ {C : Ct} {d : Dq} {p : Addr} {od : Obj} {L : List Assn} {H : Hp} (h : Hd C (itm C.K 1 d (.ref p) :: L) H) : Hd C (itm C.K 0 (⟨d.l⟩ : Dz) (.ref p) :: L) (L2.upd H p (.frz od (.dT (kvq d.l)))) := by
  obtain ⟨S, F, ⟨F1, F2, e, ⟨q, eq, n, z⟩, h2⟩, o⟩ := h
  cases eq
  have eF : F1 = [p] := n.2
  subst eF
  subst e
  have pS : S p = none := o.dj p (List.mem_append_left _ List.mem_cons_self)
  have p2 : p ∉ F2 := (List.nodup_cons.mp o.nd).1
  have ss : Sub S (L2.upd S p (.frz od (.dT (kvq d.l)))) := Sub.new pS
  refine ⟨L2.upd S p (.frz od (.dT (kvq d.l))), F2, ⟨[], F2, rfl, ⟨rfl, p, od, rfl, upd_same, z⟩, h2.mono ss fun q hq => upd_ne fun e => p2 (by rw [← e]; exact hq)⟩, ?_⟩
  refine ⟨(List.nodup_cons.mp o.nd).2, fun q hq => ?_, fun q u hq => ?_, o.s0.trans ss, fun q u hq hn => ?_, fun q hq => ?_⟩
  · rw [upd_ne fun e => p2 (by rw [← e]; exact hq)]
    exact o.dj q (List.mem_append_right _ hq)
  · by_cases e : q = p
    · subst e
      rw [upd_same] at hq ⊢
      exact hq
    · rw [upd_ne e] at hq ⊢
      exact o.sh q u hq
  · by_cases e : q = p
    · subst e
      rcases o.nw q (.inl (List.mem_append_left _ List.mem_cons_self)) with z | z | z
      · exact absurd (o.s0.back pS) z
      · exact absurd z hn
      · rw [hq] at z; cases z
    · rw [upd_ne e]
      exact o.fr q u hq hn
  · by_cases e : q = p
    · subst e
      exact o.nw q (.inl (List.mem_append_left _ List.mem_cons_self))
    · rw [upd_ne e] at hq
      exact o.nw q (hq.imp_left fun z => List.mem_append_right _ z)
section
variable {X : Cx} {C : Ct} {ρ R : Type} [TR : PyTy R] {sl : ρ → List Slot} {ms ms1 ms2 lm rm : List Mode} {rk : Nat} {pos pos' p1 p2 p3 p4 : Pos} {e o ik value : Expr}
theorem ve_lock {f : ρ → M (Dq × ρ)} (h : PE X e (tE C sl ms ms1 f 1)) : PE X e (tE C sl ms ms1 (E1 toZ f) 0) :=
  PE.conv (pe_lockV h) fun σ H Q ⟨r, T, hd, he⟩ => ⟨r, T, hd, ends_mono (ends_bind he) (fun ar _ q v H1 hd1 => by
    obtain ⟨p, ev, hp⟩ : ∃ p, v = .ref p ∧ H1 p = some (.dT (kvq ar.1.l)) := hd1.fact fun S F ⟨p, e, n, z⟩ => ⟨p, e, n.1⟩
    subst ev
    exact ⟨p, _, rfl, hp, trivial, fun od => q _ _ (Hd.lockZ hd1)⟩) fun c q => q⟩
/-- d[k] = True -/
def fDputQ {ρ R : Type} (get : ρ → Dq) (set : Dq → ρ → ρ) (fk : ρ → M (Int × Int)) : ρ → M (Fl ρ R) := fun r => fk r >>= fun k => up (if (get r).l.length < 2 ^ 24 then some (⟨putP (get r).l k⟩ : Dq) else none) >>= fun d => .ok (.nx (set d r))
/-- d.pop(k), it is there -/
def fDpopQ {ρ R : Type} (get : ρ → Dq) (set : Dq → ρ → ρ) (fk : ρ → M (Int × Int)) : ρ → M (Fl ρ R) := fun r => fk r >>= fun k => up (if k ∈ (get r).l then some (⟨popP (get r).l k⟩ : Dq) else none) >>= fun d => .ok (.nx (set d r))
theorem Hd.toQ {T : List Assn} {σ : L2.St} {H : Hp} {d d' : Dq} {p0 : Addr} {i k : Nat} {io : Option Nat} {ss : List Slot} (hm : ms[i]? = some (.own (k + 1) io)) (ew : σ[i]? = some (some (.ref p0)))
    (hd : Hd C (slotA C.K C.A (.own (k + 1) io) ⟨d⟩ (some (.ref p0)) :: (T ++ Env C.K C.A (ms.set i .un) ss σ)) H) (hl : d'.l.length ≤ line) : Hd C (T ++ Env C.K C.A ms (ss.set i ⟨d'⟩) σ) (L2.upd H p0 (.dT (kvq d'.l))) := by
  have hd6 : Hd C (slotA C.K C.A (.own (k + 1) io) ⟨d'⟩ (some (.ref p0)) :: (T ++ Env C.K C.A (ms.set i .un) ss σ)) (L2.upd H p0 (.dT (kvq d'.l))) := by
    refine hd.upd fun S F hA nd dj sh => ?_
    obtain ⟨x2, ex2, io2, p2, ep2, n2, z2⟩ := hA
    cases ex2
    cases ep2
    have eG : F = [p0] := n2.2
    subst eG
    exact ⟨List.mem_cons_self, [p0], List.nodup_cons.mpr ⟨by simp, List.nodup_nil⟩, fun q hq => by rw [List.mem_singleton.mp hq]; exact List.mem_cons_self, .ref p0, rfl, io2, p0, rfl, ⟨upd_same, rfl⟩, hl⟩
  have hl : i < σ.length := (List.getElem?_eq_some_iff.mp ew).1
  have hd7 := Hd.close (m0 := .un) (i := i) hd6 hl
  have e1 : σ.set i (some (.ref p0)) = σ := by
    obtain ⟨h1, h2⟩ := List.getElem?_eq_some_iff.mp ew
    rw [← h2]
    exact List.set_getElem_self h1
  have e3 : (ms.set i .un).set i (.own (k + 1) io) = ms := by
    obtain ⟨h1, h2⟩ := List.getElem?_eq_some_iff.mp hm
    rw [List.set_set, ← h2]
    exact List.set_getElem_self h1
  rw [e1, e3] at hd7
  exact hd7
theorem openQ {T : List Assn} {σ : L2.St} {H : Hp} {r : ρ} {get : ρ → Dq} {i k : Nat} {io : Option Nat} (hd : Hd C (T ++ Env C.K C.A ms (sl r) σ) H) (hm : ms[i]? = some (.own (k + 1) io)) (hg : ∀ r, (sl r)[i]? = some ⟨get r⟩) :
    ∃ p0, σ[i]? = some (some (.ref p0)) ∧ H p0 = some (.dT (kvq (get r).l)) ∧ (get r).l.length ≤ line ∧ Hd C (slotA C.K C.A (.own (k + 1) io) ⟨get r⟩ (some (.ref p0)) :: (T ++ Env C.K C.A (ms.set i .un) (sl r) σ)) H := by
  obtain ⟨w, ew, hdo⟩ := hd.open hm (hg r)
  obtain ⟨p0, ep, hp, hz⟩ : ∃ p0, w = some (.ref p0) ∧ H p0 = some (.dT (kvq (get r).l)) ∧ (get r).l.length ≤ line := hdo.at fun S F ⟨x0, ex0, io0, p0, ep, n, z⟩ => ⟨p0, by rw [ex0, ep], n.1, z⟩
  subst ep
  exact ⟨p0, ew, hp, hz, hdo⟩
theorem s_dputQ {i k : Nat} {io : Option Nat} {get : ρ → Dq} {set : Dq → ρ → ρ} {fk : ρ → M (Int × Int)} {j : Nat} (hu : X.A.units + 1 < cLine) (ho : PE X o (tVar i)) (hi : PE X ik (tP C.K C.W sl (ms.map downM) fk (lv 0)))
    (hm : ms[i]? = some (.own (k + 1) io)) (hg : ∀ r, (sl r)[i]? = some ⟨get r⟩) (hset : ∀ a r, sl (set a r) = (sl r).set i ⟨a⟩) (hs : swapsWith (.Constant (.bool true) j p1) (some (.Subscript o ik pos')) pos.line X.env = pure false := by rfl) : PS X (.Assign [.Subscript o ik pos'] (.Constant (.bool true) j p1) pos) (tS C (R := R) sl ms ms lm rm rk (fDputQ get set fk)) :=
  PS.conv (ps_dput hu ho hi pe_bl hs) fun D σ H ⟨r, T, hd, he⟩ => by
    obtain ⟨p0, ew, hp, hz, hdo⟩ := openQ hd hm hg
    refine ⟨.ref p0, ew, look_hd hd (ends_mono (ends_bind he) (fun key _ q y H2 s2 hd2 => ?_) fun c q => q)⟩
    obtain ⟨d', ed, q⟩ := up_ends (ends_bind q)
    obtain ⟨b, eb, hb⟩ : ∃ b, y = .ref b ∧ H2 b = some (.tup ((kq key).map kV)) := by
      obtain ⟨S, F, ⟨F1, F2, _, h1, _⟩, o⟩ := hd2
      have := look h1 o.sh
      exact pair_at this
    subst eb
    have hd3 : Hd C (T ++ Env C.K C.A ms (sl r) σ) H2 := hd2.drop
    obtain ⟨p1, ew1, hp1, hz1, hd4⟩ := openQ hd3 hm hg
    rw [ew] at ew1
    cases ew1
    split at ed
    · rename_i hh
      cases ed
      refine ⟨p0, _, rfl, DPut.t (k := kq key) hp1 hb (by rw [kvq_len]; exact hh), q σ _ ?_⟩
      rw [kvq_put, hset]
      refine Hd.toQ (d' := ⟨putP (get r).l key⟩) hm ew hd4 ?_
      have := putP_len (get r).l key
      have hln : line = 2 ^ 24 := rfl
      show (putP (get r).l key).length ≤ line
      omega
    · cases ed
def rPop1 : V → List V → Hp → VK → Prop := fun x xs H Q => ∃ (a : Addr) (kvs : List (List L2.Key × V)) (k : List L2.Key) (b : Addr) (v : V), x = .ref a ∧ xs = [.ref b] ∧ H a = some (.dT kvs) ∧ H b = some (.tup (k.map kV)) ∧ valV kvs k = some v ∧ Q v (L2.upd H a (.dT (dropK kvs k)))
theorem meets_pop1 {prog : Program} {w : World} {κ : Type} [DecidableEq κ] {knd : HeapKind prog w κ} {dict key : Addr} {k : κ} :
    MeetsIn prog w (Builtin.«dict.pop» ⟨[.ref dict, .ref key], []⟩) (fun A R s => ∃ es0 p0, knd.room A.in1 ∧ knd.is s.heap k key ∧ s.heap.DictOfH knd dict es0 ∧ es0.length ≤ sizeLine ∧ atKey es0 k = some p0 ∧
      ∀ h1 n1, h1.DictOfH knd dict (DT.dropH es0 k) → Heap.SameBut dict s.heap h1 → R (.ok (.ret p0.2)) { s with heap := h1, toks := n1 }) :=
  .of_wp fun A R s ⟨es0, p0, room, isk, there, few, found, done⟩ => by
    have part : (keyPart (Value.ref key)).isSome = false := rfl
    obtain ⟨ob, arr, ep, h1, h2, h3, h4, h5, h6⟩ := id there
    have some1 : arr.isEmpty = false := by
      cases q : arr.isEmpty with
      | false => rfl
      | true =>
        have z : arr.size = 0 := by simpa using q
        have n : es0.length = 0 := by rw [← size_of_entries h4]; exact z
        rw [List.length_eq_zero_iff.mp n] at found
        cases found
    unfold Builtin.«dict.pop»
    refine wpAny_bind ?_
    unfold Builtin.Dict.keyAndDefault
    refine wpAny_bind (wpAny_notOrdered_dict there.typeIs ?_)
    show wpAny _ _ (pure (dict, Value.ref key, none)) _ _ s
    refine wpAny_pure ?_
    simp only [part, Bool.false_eq_true, if_false]
    refine wpAny_bind (wpAny_dictEntries h1 h3 (wpAny_bind (wpAny_pure ?_)))
    simp only [some1, Bool.false_eq_true, if_false]
    refine wpAny_bind (DT.takeH room isk there few (fun no => ?_) fun p e hp he h' hd hs => ?_)
    · rw [found] at no
      cases no
    · rw [found] at hp
      cases hp
      simp only [Option.isNone_some, Bool.false_eq_true, if_false]
      exact wpAny_bind (wpAny_letGo (wpAny_pure ⟨e.val, rfl, by rw [he]; exact done h' _ hd hs⟩))
theorem mt_pop1 (hu : X.A.units + 1 < cLine) : MtR X "dict.pop" rPop1 := by
  intro pins s σ H x xs v us Q I rx rxs h
  obtain ⟨ad, kvs, key, kb, val, ex, exs, had, hkb, hval, q⟩ := h
  subst ex exs
  cases rx
  obtain ⟨u1, eu, r1⟩ := vals1 rxs
  subst eu
  cases r1
  obtain ⟨few, sys, ents, rel, dof⟩ := dt_of I.hok had
  have rv := rel.val key
  rw [hval] at rv
  cases ek : atKey ents key with
  | none => rw [ek] at rv; exact rv.elim
  | some pr =>
    rw [ek] at rv
    refine call_meetsIn PySem.F.slot_dict_pop dof.typeIs PySem.F.entry_dict_pop (PySem.F.args_dict_pop_2 _ _) (meets_pop1 (knd := tupleKind (mixKind X.prog X.w)) (k := key))
      ⟨ents, pr, tupleKind_room_in1 hu, key_of I.hok hkb, dof, by rw [← Paired.length rel]; exact few, ek, fun h1 n1 dof1 same => ?_⟩
    obtain ⟨ob, es, ep, g1, g2, g3, g4, g5, g6⟩ := dof1
    refine ⟨val, L2.upd H ad (.dT (dropK kvs key)), d_write I (by rw [had]; trivial) same ⟨ob, g1⟩ ⟨Nat.le_trans (dropK_le kvs key) few, sys, _, (DX.KT_drop key rel).keeps (fun c ys ec => ?_), ob, es, ep, g1, g2, g3, g4, g6⟩, rv, q⟩
    rw [upd_ne (ne_of ec had fun z => nomatch z)]
    exact ec
theorem s_dpopQ {i k : Nat} {io : Option Nat} {get : ρ → Dq} {set : Dq → ρ → ρ} {fk : ρ → M (Int × Int)} (h : PE X e (tBM C.K "dict" rPop1 (tVar i) (tCons (tP C.K C.W sl (ms.map downM) fk (lv 0)) tNil)))
    (hm : ms[i]? = some (.own (k + 1) io)) (hg : ∀ r, (sl r)[i]? = some ⟨get r⟩) (hset : ∀ a r, sl (set a r) = (sl r).set i ⟨a⟩) (hs : swapsWith e none pos.line X.env = pure false := by rfl) : PS X (.Expr e pos) (tS C (R := R) sl ms ms lm rm rk (fDpopQ get set fk)) :=
  PS.conv (ps_expr h hs) fun D σ H ⟨r, T, hd, he⟩ => by
    obtain ⟨p0, ew, hp, hz, hdo⟩ := openQ hd hm hg
    refine ⟨.ref p0, ew, .inr (.inr (.inl ⟨rfl, .inr ⟨_, hp⟩⟩)), look_hd hd (ends_mono (ends_bind he) (fun key _ q y H2 s2 hd2 => ?_) fun c q => q)⟩
    obtain ⟨d', ed, q⟩ := up_ends (ends_bind q)
    obtain ⟨b, eb, hb⟩ : ∃ b, y = .ref b ∧ H2 b = some (.tup ((kq key).map kV)) := by
      obtain ⟨S, F, ⟨F1, F2, _, h1, _⟩, o⟩ := hd2
      exact pair_at (look h1 o.sh)
    subst eb
    have hd3 : Hd C (T ++ Env C.K C.A ms (sl r) σ) H2 := hd2.drop
    obtain ⟨p1, ew1, hp1, hz1, hd4⟩ := openQ hd3 hm hg
    rw [ew] at ew1
    cases ew1
    split at ed
    · rename_i hh
      cases ed
      refine ⟨p0, _, kq key, b, .bl true, rfl, rfl, hp1, hb, by rw [kvq_val, if_pos hh], q σ _ ?_⟩
      rw [kvq_pop, hset]
      refine Hd.toQ (d' := ⟨popP (get r).l key⟩) hm ew hd4 ?_
      exact Nat.le_trans (List.length_filter_le _ _) hz1
    · cases ed
/-- for x in d: e[x] = True -/
def fDcopy {ρ R : Type} (get : ρ → Dq) (set : Dq → ρ → ρ) (f : ρ → M Dz) : ρ → M (Fl ρ R) := fun r => f r >>= fun z => up (if (get r).l.length + z.l.length < 2 ^ 24 then some (⟨z.l.foldl putP (get r).l⟩ : Dq) else none) >>= fun d => .ok (.nx (set d r))
theorem fold_len (z : List (Int × Int)) : ∀ l : List (Int × Int), (z.foldl putP l).length ≤ l.length + z.length := by
  induction z with
  | nil => intro l; exact Nat.le_refl _
  | cons p z ih =>
    intro l
    have h1 := ih (putP l p)
    have h2 := putP_len l p
    rw [List.foldl_cons, List.length_cons]
    omega
theorem Hd.setUn {T : List Assn} {ss : List Slot} {σ : L2.St} {H : Hp} {j : Nat} {x : Option V} (hd : Hd C (T ++ Env C.K C.A ms ss σ) H) (hm : ms[j]? = some .un) : Hd C (T ++ Env C.K C.A ms ss (σ.set j x)) H := by
  obtain ⟨l1, l2⟩ := hd.lens
  have hj := (List.getElem?_eq_some_iff.mp hm).1
  have es : ss[j]? = some ss[j] := List.getElem?_eq_getElem (by omega)
  obtain ⟨v, ev, h1⟩ := hd.open hm es
  have h2 : Hd C (slotA C.K C.A .un ss[j] x :: (T ++ Env C.K C.A (ms.set j .un) ss σ)) H := h1
  have h3 := Hd.close (m0 := .un) (i := j) h2 (by omega)
  have e1 : (ms.set j .un).set j .un = ms := by
    obtain ⟨h1, h2⟩ := List.getElem?_eq_some_iff.mp hm
    rw [List.set_set]
    conv => lhs; rw [← h2]
    exact List.set_getElem_self h1
  have e2 : ss.set j ss[j] = ss := List.set_getElem_self (by omega)
  rw [e1, e2] at h3
  exact h3
theorem s_dcopy {i j k jj : Nat} {io : Option Nat} {get : ρ → Dq} {set : Dq → ρ → ρ} {f : ρ → M Dz} {tg iter kx : Expr} (hu : X.A.units + 1 < cLine) (hp : PassesOwn (model X.prog X.w) X.A X.env X.xe) (hc : X.calm = true) (hi : PE X iter (tP C.K C.W sl (ms.map downM) f (lv 0))) (hgt : PG X tg (gName j)) (ho : PE X o (tVar i)) (hx : PE X kx (tVar j))
    (hm : ms[i]? = some (.own (k + 1) io)) (hmj : ms[j]? = some .un) (hg : ∀ r, (sl r)[i]? = some ⟨get r⟩) (hset : ∀ a r, sl (set a r) = (sl r).set i ⟨a⟩)
    (hs : ∀ x, foldedSetIterable iter X.env x = pure x := by intro _; rfl) (hs2 : swapsWith (.Constant (.bool true) jj p1) (some (.Subscript o kx pos')) p2.line X.env = pure false := by rfl) :
    PS X (.For tg iter [.Assign [.Subscript o kx pos'] (.Constant (.bool true) jj p1) p2] [] pos) (tS C (R := R) sl ms ms lm rm rk (fDcopy get set f)) :=
  PS.conv (ps_for hp hc (pi_keys hi) hgt (pss_one (ps_dput hu ho hx pe_bl hs2)) hs) fun D σ H ⟨r, T, hd, he⟩ => by
    refine look_hd hd (ends_mono (ends_bind he) (fun z _ q y H1 s1 hd1 => ?_) fun c q => q)
    obtain ⟨d', ed, q⟩ := up_ends (ends_bind q)
    obtain ⟨p, ob, ey, hz⟩ : ∃ p ob, y = .ref p ∧ z.l.length ≤ line := hd1.fact fun S F ⟨_, p, ob, e, _, zz⟩ => ⟨p, ob, e, zz⟩
    subst ey
    have frz : ∀ {L : List Assn} {H' : Hp}, Hd C (itm C.K 0 z (.ref p) :: L) H' → ∃ o2, H' p = some (.frz o2 (.dT (kvq z.l))) := fun h => by
      obtain ⟨S, F, ⟨F1, F2, _, ⟨_, p2, o2, e, n, _⟩, _⟩, ok⟩ := h
      cases e
      exact ⟨o2, ok.sh _ _ n⟩
    obtain ⟨o1, ho1⟩ := frz hd1
    have stay : ∀ {L : List Assn} {H' : Hp}, Hd C (itm C.K 0 z (.ref p) :: keepA (fun a => if a = p then some (.frz o1 (.dT (kvq z.l))) else none) :: L) H' → H' p = some (.frz o1 (.dT (kvq z.l))) := fun h => by
      obtain ⟨S, F, ⟨F1, F2, _, _, F3, F4, _, ⟨_, k1⟩, _⟩, ok⟩ := h
      exact ok.sh _ _ (k1 p _ (if_pos rfl))
    have hd2 : Hd C ((itm C.K 0 z (.ref p) :: keepA (fun a => if a = p then some (.frz o1 (.dT (kvq z.l))) else none) :: T) ++ Env C.K C.A ms (sl r) σ) H1 := by
      obtain ⟨S, F, ⟨F1, F2, e, ⟨e1, p2, o2, e2, n, zz⟩, h2⟩, ok⟩ := id hd1
      cases e2
      have eo : o2 = o1 := by
        have := (ok.sh _ _ n).symm.trans ho1
        cases this
        rfl
      subst eo
      refine ⟨S, F, ⟨F1, F2, e, ⟨e1, p, o2, rfl, n, zz⟩, [], F2, rfl, ⟨rfl, fun a u ea => ?_⟩, h2⟩, ok⟩
      have ea : (if a = p then some (HO.frz o2 (.dT (kvq z.l))) else none) = some u := ea
      split at ea
      · rename_i ap
        cases ea
        rw [ap]
        exact n
      · cases ea
    split at ed
    · rename_i hh
      cases ed
      have hln : line = 2 ^ 24 := rfl
      refine ⟨p, o1, rfl, .inr ⟨_, ho1, fun n m σ' H' => m = z.l.length - n ∧ n ≤ z.l.length ∧ Hd C ((itm C.K 0 z (.ref p) :: keepA (fun a => if a = p then some (.frz o1 (.dT (kvq z.l))) else none) :: T) ++ Env C.K C.A ms (sl (set ⟨(z.l.take n).foldl putP (get r).l⟩ r)) σ') H', ⟨z.l.length, by simp, Nat.zero_le _, ?_⟩, ?_⟩⟩
      · have e0 : sl (set ⟨(z.l.take 0).foldl putP (get r).l⟩ r) = sl r := by
          rw [hset]
          obtain ⟨g1, g2⟩ := List.getElem?_eq_some_iff.mp (hg r)
          show (sl r).set i ⟨(⟨(get r).l⟩ : Dq)⟩ = sl r
          rw [show (⟨(get r).l⟩ : Dq) = get r from rfl, ← g2]
          exact List.set_getElem_self g1
        rw [e0]
        exact hd2
      · rintro n m σ2 H2 ⟨em, hn, hd3⟩
        have fz := stay hd3
        by_cases hlt : n < z.l.length
        · refine .inr ⟨⟨fz, by rw [kvq_len]; exact hlt⟩, fun σ' H' => ∃ m', m' < m ∧ (m' = z.l.length - (n + 1) ∧ n + 1 ≤ z.l.length ∧ Hd C ((itm C.K 0 z (.ref p) :: keepA (fun a => if a = p then some (.frz o1 (.dT (kvq z.l))) else none) :: T) ++ Env C.K C.A ms (sl (set ⟨(z.l.take (n + 1)).foldl putP (get r).l⟩ r)) σ') H'), fun σ' H' h => h, fun x H3 hy => ?_⟩
          obtain ⟨eH, key, val, qa, ek, ex, hq⟩ := hy
          subst eH
          subst ex
          have ek2 : key = kq z.l[n] := by
            unfold kvq at ek
            rw [List.getElem?_map, List.getElem?_eq_getElem hlt] at ek
            cases ek
            rfl
          subst ek2
          have hd4 : Hd C ((itm C.K 0 z (.ref p) :: keepA (fun a => if a = p then some (.frz o1 (.dT (kvq z.l))) else none) :: T) ++ Env C.K C.A ms (sl (set ⟨(z.l.take n).foldl putP (get r).l⟩ r)) (σ2.set j (some (.ref qa)))) H3 := hd3.setUn hmj
          obtain ⟨p0, ew, hp0, hz0, hd5⟩ := openQ hd4 hm hg
          have gs : get (set ⟨(z.l.take n).foldl putP (get r).l⟩ r) = ⟨(z.l.take n).foldl putP (get r).l⟩ := by
            have h1 := hg (set ⟨(z.l.take n).foldl putP (get r).l⟩ r)
            have h2 := hset ⟨(z.l.take n).foldl putP (get r).l⟩ r
            have hl := (List.getElem?_eq_some_iff.mp (hg r)).1
            rw [h2, List.getElem?_set_self hl] at h1
            have h3 := Option.some.inj h1
            injection h3 with a1 a2 a3
            exact a3.symm
          have hjl : j < σ2.length := by
            have l1 := hd3.lens
            have := (List.getElem?_eq_some_iff.mp hmj).1
            omega
          refine ⟨.ref p0, ew, .ref qa, List.getElem?_set_self hjl, p0, _, rfl, DPut.t (k := kq z.l[n]) hp0 hq (by
            rw [kvq_len, gs]
            have := fold_len (z.l.take n) (get r).l
            rw [List.length_take] at this
            show ((z.l.take n).foldl putP (get r).l).length < _
            have e24 : sizeLine = 2 ^ 24 := rfl
            omega), z.l.length - (n + 1), by omega, rfl, by omega, ?_⟩
          have e3 : sl (set ⟨(z.l.take (n + 1)).foldl putP (get r).l⟩ r) = (sl (set ⟨(z.l.take n).foldl putP (get r).l⟩ r)).set i ⟨(⟨putP (get (set ⟨(z.l.take n).foldl putP (get r).l⟩ r)).l z.l[n]⟩ : Dq)⟩ := by
            rw [hset, hset, List.set_set, gs, List.take_add_one, List.getElem?_eq_getElem hlt]
            show _ = (sl r).set i ⟨(⟨putP ((z.l.take n).foldl putP (get r).l) z.l[n]⟩ : Dq)⟩
            rw [List.foldl_append]
            rfl
          rw [e3, kvq_put]
          refine Hd.toQ (d' := ⟨putP (get (set ⟨(z.l.take n).foldl putP (get r).l⟩ r)).l z.l[n]⟩) hm ew hd5 ?_
          rw [gs]
          show (putP ((z.l.take n).foldl putP (get r).l) z.l[n]).length ≤ line
          have h1 := fold_len (z.l.take n) (get r).l
          have h2 := putP_len ((z.l.take n).foldl putP (get r).l) z.l[n]
          rw [List.length_take] at h1
          omega
        · refine .inl ⟨⟨fz, by rw [kvq_len]; omega⟩, q σ2 H2 ?_⟩
          rw [show z.l.take n = z.l from List.take_of_length_le (by omega)] at hd3
          exact hd3.drop.drop
    · cases ed
end

/-! ### for a, b, c in xs, xs a list of threes -/
def tri1 (t : Tp Int) : Option (Int × Int × Int) := match t.l with
  | [a, b, c] => some (a, b, c)
  | _ => none
def triL : List (Tp Int) → Option (List (Int × Int × Int))
  | [] => some []
  | t :: l => (tri1 t).bind fun x => (triL l).bind fun m => some (x :: m)
theorem triL_at : ∀ {l : List (Tp Int)} {m : List (Int × Int × Int)}, triL l = some m → m.length = l.length ∧ ∀ (i : Nat) (x : Int × Int × Int), m[i]? = some x → l[i]? = some (⟨[x.1, x.2.1, x.2.2]⟩ : Tp Int)
  | [], m, h => by
    cases h
    exact ⟨rfl, fun i x e => by simp at e⟩
  | t :: l, m, h => by
    have h : ((tri1 t).bind fun x => (triL l).bind fun m => some (x :: m)) = some m := h
    obtain ⟨x, ex, h⟩ := Option.bind_eq_some_iff.mp h
    obtain ⟨m2, em, h⟩ := Option.bind_eq_some_iff.mp h
    cases h
    obtain ⟨h1, h2⟩ := triL_at em
    refine ⟨by rw [List.length_cons, List.length_cons, h1], fun i y e => ?_⟩
    cases i with
    | zero =>
      cases e
      obtain ⟨tl⟩ := t
      unfold tri1 at ex
      simp only at ex
      split at ex
      · cases ex
        rfl
      · cases ex
    | succ i => exact h2 i y (by simpa using e)
abbrev gTri (K : PySem.W.Frag) (i j k : Nat) : TG := gTup K 3 (gCons (gName i) (gCons (gName j) (gCons (gName k) gNil)))
theorem goes_list3 {K : PySem.W.Frag} {kd : Mode} {S H : Hp} {a : Addr} {xs : List V} {l : List (Tp Int)} {m : List (Int × Int × Int)} {i j k : Nat} (hk : kd = lv 0 ∨ kd = .vw) (h : ListOk K kd S H a xs l) (hm : triL l = some m) : Goes K (Itl K a) (gTri K i j k) S H kd m [i, j, k] (fun b => [⟨b.1⟩, ⟨b.2.1⟩, ⟨b.2.2⟩]) where
  stop n H2 hn s := ⟨xs, .inl (.inl (s _ _ h.node)), by rw [h.len, ← (triL_at hm).1]; exact hn⟩
  go n H2 hn s := ⟨xs, xs[n]'(by rw [h.len, ← (triL_at hm).1]; exact hn), .inl (.inl (s _ _ h.node)), List.getElem?_eq_getElem _⟩
  yld n b H2 x H3 σ Q eb s hy q := by
    obtain ⟨e, hx⟩ := hy
    subst e
    have eb2 := (triL_at hm).2 n b eb
    obtain ⟨v, ev, r⟩ := h.item n _ eb2
    have e2 := hx xs (.inl (.inl (s _ _ h.node)))
    rw [ev] at e2
    cases e2
    have key : ∃ p, x = .ref p ∧ H3 p = some (.tup [V.int b.1, V.int b.2.1, V.int b.2.2]) := by
      have fin : ∀ {S2 H4 : Hp} {F : List Addr}, (instTp (α := Int)).rep K 0 S2 H4 x ⟨[b.1, b.2.1, b.2.2]⟩ F → ∃ p, x = .ref p ∧ S2 p = some (.tup [V.int b.1, V.int b.2.1, V.int b.2.2]) := fun ⟨p, ys, F', e1, n, z, rr⟩ => by
        have := (reps_scal rr).1
        subst this
        exact ⟨p, e1, n.1⟩
      rcases hk with e | e
      · subst e
        obtain ⟨v', ev', r⟩ := r
        cases ev'
        obtain ⟨p, e1, n⟩ := fin r
        exact ⟨p, e1, s _ _ n⟩
      · subst e
        obtain ⟨v', ev', r⟩ := r
        cases ev'
        obtain ⟨p, e1, n⟩ := fin r
        exact ⟨p, e1, s _ _ n⟩
    obtain ⟨p, e1, n⟩ := key
    exact ⟨p, _, e1, .inl (.inl n), rfl, _, _, rfl, _, _, rfl, _, _, rfl, rfl, q [V.int b.1, V.int b.2.1, V.int b.2.2] (Sub.refl _) ⟨viewI, viewI, viewI, trivial⟩⟩
section
variable {X : Cx} {K : PySem.W.Frag} {W : Hp → String → Prop} {ρ : Type} {sl : ρ → List Slot} {ms : List Mode} {tg e : Expr} {kd : Mode}
theorem pw_list3 {i j k : Nat} {f : ρ → M (List (Tp Int))} (h : PE X e (tP X.K W sl ms f kd)) (hk : kd = lv 0 ∨ kd = .vw := by first | exact Or.inl rfl | exact Or.inr rfl) : PI X tg e (tW X.K W sl ms (e1 triL f) kd (gTri X.K i j k) [i, j, k] (fun b => [⟨b.1⟩, ⟨b.2.1⟩, ⟨b.2.2⟩])) :=
  PI.conv (pi_list h) fun σ H R ⟨r, S, hs, hv, he⟩ => ⟨r, S, hs, hv, ends_mono (ends_bind he) (fun l el q v S1 H1 F x g => by
    obtain ⟨m, em, q⟩ := up_ends q
    obtain ⟨a, xs, e1, lo, hl⟩ := listOk g x.sh hk
    refine ⟨a, e1, ⟨xs, .inl (.inl (lo.at x.sh))⟩, q _ (add S1 H1 F) H1 (x.share g.here) (by rw [(triL_at em).1]; exact hl) (goes_list3 hk (lo.mono (add_sub fun p hp => (x.fr p hp).2) (Sub.refl _)) em)⟩) fun c q => q⟩
/-! for a, b in d, d a dict that is changed no more -/
def keysZ (d : Dz) : Option (List (Int × Int)) := some d.l
theorem pw_keysZ {i j : Nat} {f : ρ → M Dz} (h : PE X e (tP X.K W sl ms f (lv 0))) : PI X tg e (tW X.K W sl ms (e1 keysZ f) (lv 0) (gPair X.K i j) [i, j] (fun b => [⟨b.1⟩, ⟨b.2⟩])) :=
  PI.conv (pi_keys h) fun σ H R ⟨r, S, hs, hv, he⟩ => ⟨r, S, hs, hv, ends_mono (ends_bind he) (fun d el q v S1 H1 F x g => by
    obtain ⟨m, em, q⟩ := up_ends q
    cases em
    obtain ⟨eF, p, o, e1, n, z⟩ := g
    subst eF
    have n2 := x.sh _ _ n
    refine ⟨p, o, e1, .inr ⟨_, n2, q _ S1 H1 x z ⟨fun i H2 hi s => ⟨s _ _ n, by rw [kvq_len]; exact hi⟩, fun i H2 hi s => ⟨s _ _ n, by rw [kvq_len]; exact hi⟩, fun i b H2 y H3 σ2 Q eb s hy q2 => ?_⟩⟩⟩
    obtain ⟨eH, key, val, qa, ek, ex, hq⟩ := hy
    subst eH
    subst ex
    have ek2 : key = kq b := by
      unfold kvq at ek
      rw [List.getElem?_map, eb] at ek
      cases ek
      rfl
    subst ek2
    exact ⟨qa, _, rfl, .inl (.inl hq), rfl, _, _, rfl, _, _, rfl, rfl, q2 [V.int b.1, V.int b.2] (Sub.refl _) ⟨viewI, viewI, trivial⟩⟩) fun c q => q⟩
end
end VL
namespace VL
universe u
open PySem PySem.Spec PyProof.Rows L2

/-! ### a part of what is one's own: the part is one's own -/
theorem Ext.less {S H S' H' : Hp} {F F' : List Addr} (x : Ext S H S' H' F) (h : F'.Sublist F) : Ext S H S' H' F' := ⟨x.hh, x.ss, x.sh, x.nw, fun p hp => x.fr p (h.subset hp), x.nd.sublist h⟩
theorem Reps.pick {α : Type} {r : V → α → List Addr → Prop} : ∀ {vs : List V} {as : List α} {F : List Addr} {i : Nat} {a : α}, Reps r vs as F → as[i]? = some a → ∃ v F1, vs[i]? = some v ∧ F1.Sublist F ∧ r v a F1
  | [], [], _, i, a, _, e => by simp at e
  | [], _ :: _, _, _, _, h, _ => h.elim
  | _ :: _, [], _, _, _, h, _ => h.elim
  | v :: vs, b :: as, F, 0, a, ⟨F1, F2, e, h1, h2⟩, ea => by
    cases ea
    subst e
    exact ⟨v, F1, rfl, List.sublist_append_left F1 F2, h1⟩
  | v :: vs, b :: as, F, i + 1, a, ⟨F1, F2, e, h1, h2⟩, ea => by
    subst e
    obtain ⟨w, F3, e1, e2, e3⟩ := Reps.pick h2 (show as[i]? = some a from by simpa using ea)
    exact ⟨w, F3, by simpa using e1, e2.trans (List.sublist_append_right F1 F2), e3⟩
section
variable {X : Cx} {W : Hp → String → Prop} {ρ : Type} {sl : ρ → List Slot} {ms : List Mode} {a b c e : Expr} {pos p2 : Pos} {kk : Nat}
variable {α β γ : Type} [TA : PyTy α] [TB : PyTy β] [TC : PyTy γ]
theorem pv_fstO {k : Nat} {f : ρ → M (α × β)} (ha : PE X a (tP X.K W sl ms f (lv (k + 1)))) : PE X (.Subscript a (.Constant (.int 0) kk p2) pos) (tP X.K W sl ms (e1 (fun t => some t.1) f) (lv k)) :=
  PE.conv (pe_ix ix_tup ha (pv_int (K := X.K) (W := W) (sl := sl) (ms := ms)) (fun _ _ => rfl)) fun σ H Q ⟨r, S, hs, hv, he⟩ => by
    refine two (R := fun x y H2 => rIxT X.K x y H2 Q) ha (pv_int (j := kk) (pos := p2)) hs hv ?_
    refine ends_mono (ends_bind he) (fun t et q v u S2 H2 F1 F2 x g1 g2 => ?_) fun c q => q
    have e2 := rep_scal g2
    have eF2 : F2 = [] := PyTy.zero g2
    obtain ⟨p, y1, y2, G1, G2, e1, n, r1, r2⟩ := g1
    have eF : F1 = p :: (G1 ++ G2) := n.2
    subst eF2 eF
    refine ⟨p, [y1, y2], 0, y1, e1, e2, .inl (.inl n.1), rfl, q y1 S2 H2 G1 (x.less ?_) r1⟩
    exact ((List.sublist_append_left G1 G2).cons p).trans (List.Sublist.refl _)
theorem pv_sndO {k : Nat} {f : ρ → M (α × β)} (ha : PE X a (tP X.K W sl ms f (lv (k + 1)))) : PE X (.Subscript a (.Constant (.int 1) kk p2) pos) (tP X.K W sl ms (e1 (fun t => some t.2) f) (lv k)) :=
  PE.conv (pe_ix ix_tup ha (pv_int (K := X.K) (W := W) (sl := sl) (ms := ms)) (fun _ _ => rfl)) fun σ H Q ⟨r, S, hs, hv, he⟩ => by
    refine two (R := fun x y H2 => rIxT X.K x y H2 Q) ha (pv_int (j := kk) (pos := p2)) hs hv ?_
    refine ends_mono (ends_bind he) (fun t et q v u S2 H2 F1 F2 x g1 g2 => ?_) fun c q => q
    have e2 := rep_scal g2
    have eF2 : F2 = [] := PyTy.zero g2
    obtain ⟨p, y1, y2, G1, G2, e1, n, r1, r2⟩ := g1
    have eF : F1 = p :: (G1 ++ G2) := n.2
    subst eF2 eF
    refine ⟨p, [y1, y2], 1, y2, e1, e2, .inl (.inl n.1), rfl, q y2 S2 H2 G2 (x.less ?_) r2⟩
    exact ((List.sublist_append_right G1 G2).cons p).trans (List.Sublist.refl _)
theorem pv_ixO {k : Nat} {f : ρ → M (List α)} {i : Int} (ha : PE X a (tP X.K W sl ms f (lv (k + 1)))) : PE X (.Subscript a (.Constant (.int i) kk p2) pos) (tP X.K W sl ms (e2 ixL f (e0 i)) (lv k)) :=
  PE.conv (pe_ix ix_list ha (pv_int (K := X.K) (W := W) (sl := sl) (ms := ms)) (fun _ _ => rfl)) fun σ H Q ⟨r, S, hs, hv, he⟩ => by
    refine two (R := fun x y H2 => rIxL X.K x y H2 Q) ha (pv_int (j := kk) (pos := p2)) hs hv ?_
    refine ends_mono (ends_bind he) (fun l el q => ends_mono (ends_bind q) (fun j ej q v u S2 H2 F1 F2 x g1 g2 => ?_) fun c q => q) fun c q => q
    obtain ⟨z, ez, q⟩ := up_ends q
    have e2 := rep_scal g2
    have eF2 : F2 = [] := PyTy.zero g2
    obtain ⟨p, xs, F', e1, n, z1, rr⟩ := g1
    have eF : F1 = p :: F' := n.2
    subst eF2 eF
    obtain ⟨h1, h2⟩ := ixL_nI ez
    obtain ⟨w, F3, g3, g4, g5⟩ := rr.pick h1
    refine ⟨p, xs, j, w, e1, e2, .inl (.inl n.1), ?_, q w S2 H2 F3 (x.less (g4.cons p)) g5⟩
    unfold atI
    rw [h2 xs rr.len]
    exact g3
end
end VL
namespace VL
universe u
variable {ρ R α β : Type}
theorem re_unO {K : PySem.W.Frag} {k : Nat} {S H : L2.Hp} {v : L2.V} {α : Type} [T : PyTy α] {a : Option α} {b : α} {F : List PySem.Addr} (e : unO a = some b) (h : instOpt.rep K k S H v a F) : T.rep K k S H v b F := by
  cases a with
  | none => cases e
  | some a => cases e; exact h
theorem re_toO {K : PySem.W.Frag} {k : Nat} {S H : L2.Hp} {v : L2.V} {α : Type} [T : PyTy α] {a : α} {b : Option α} {F : List PySem.Addr} (e : toO a = some b) (h : T.rep K k S H v a F) : instOpt.rep K k S H v b F := by
  cases e
  exact h
variable {N : ρ → Prop} {T0 : R → Prop} {B C : ρ → Prop}
@[simp] theorem opt_inQz (k : Int × Int) (d : Dz) (Q : Bool → Prop) : opt (inQ k d) Q = Q (decide (k ∈ d.l)) := id rfl
@[simp] theorem opt_inQq (k : Int × Int) (d : Dq) (Q : Bool → Prop) : opt (inQ k d) Q = Q (decide (k ∈ d.l)) := id rfl
@[simp] theorem opt_toZ (d : Dq) (Q : Dz → Prop) : opt (toZ d) Q = Q ⟨d.l⟩ := id rfl
@[simp] theorem opt_keysZ (d : Dz) (Q : List (Int × Int) → Prop) : opt (keysZ d) Q = Q d.l := id rfl
@[simp] theorem wp_dputQ (get : ρ → Dq) (set : Dq → ρ → ρ) (fk : ρ → M (Int × Int)) (r : ρ) : wp (fDputQ (R := R) get set fk r) N T0 B C = val (fk r) fun k => if (get r).l.length < 2 ^ 24 then N (set ⟨putP (get r).l k⟩ r) else False := by
  unfold fDputQ
  simp
@[simp] theorem wp_dpopQ (get : ρ → Dq) (set : Dq → ρ → ρ) (fk : ρ → M (Int × Int)) (r : ρ) : wp (fDpopQ (R := R) get set fk r) N T0 B C = val (fk r) fun k => if k ∈ (get r).l then N (set ⟨popP (get r).l k⟩ r) else False := by
  unfold fDpopQ
  simp
@[simp] theorem wp_dcopy (get : ρ → Dq) (set : Dq → ρ → ρ) (f : ρ → M Dz) (r : ρ) : wp (fDcopy (R := R) get set f r) N T0 B C = val (f r) fun z => if (get r).l.length + z.l.length < 2 ^ 24 then N (set ⟨z.l.foldl putP (get r).l⟩ r) else False := by
  unfold fDcopy
  simp
theorem opt_triL {m : List (Int × Int × Int)} {Q : List (Int × Int × Int) → Prop} : opt (triL (m.map fun x => ⟨[x.1, x.2.1, x.2.2]⟩)) Q = Q m := by
  have : triL (m.map fun x => ⟨[x.1, x.2.1, x.2.2]⟩) = some m := by
    induction m with
    | nil => rfl
    | cons x m ih =>
      show ((tri1 _).bind fun y => (triL _).bind fun l => some (y :: l)) = _
      rw [ih]
      rfl
  rw [this]
  rfl
end VL
namespace K14
open PySem PySem.Spec PyProof.Rows L2 VL
/-! start_of -/
structure E_start_of where
  v_order : List (List Int)
abbrev gs_start_of : List (Get E_start_of) := [⟨E_start_of.v_order⟩]
def b_start_of : E_start_of → M (Fl E_start_of Int) :=
 (fRet (lift (e2 mulI (e0 (2 : Int)) (e1 lenL (eV (fun r : E_start_of => r.v_order))))))
def m_start_of : (List (List Int)) × Unit → M Int := fun a => runR b_start_of ⟨a.1⟩
/-! end_of -/
structure E_end_of where
  v_order : List (List Int)
abbrev gs_end_of : List (Get E_end_of) := [⟨E_end_of.v_order⟩]
def b_end_of : E_end_of → M (Fl E_end_of Int) :=
 (fRet (lift (e2 addI (e2 mulI (e0 (2 : Int)) (e1 lenL (eV (fun r : E_end_of => r.v_order)))) (e0 (1 : Int)))))
def m_end_of : (List (List Int)) × Unit → M Int := fun a => runR b_end_of ⟨a.1⟩
/-! plain_arcs -/
structure E_plain_arcs where
  v_order : List (List Int)
  v_found : List (Int × Int)
  v_thing : Int
  v_row : List Int
  v_low : Int
abbrev gs_plain_arcs : List (Get E_plain_arcs) := [⟨E_plain_arcs.v_order⟩, ⟨E_plain_arcs.v_found⟩, ⟨E_plain_arcs.v_thing⟩, ⟨E_plain_arcs.v_row⟩, ⟨E_plain_arcs.v_low⟩]
def b_plain_arcs : E_plain_arcs → M (Fl E_plain_arcs (List (Int × Int))) :=
 (fSeq (fSet (fun a r => { r with v_found := a }) (lift (e0 ([] : List (Int × Int)))))
 (fSeq (fFor (eEnum (eV (fun r : E_plain_arcs => r.v_order))) (fun b r => { r with v_thing := b.1, v_row := b.2 })
 (fSeq (fMut1 (fun r : E_plain_arcs => r.v_found) (fun a r => { r with v_found := a }) appL (lift (ePair (eCall m_start_of (aCons (eV (fun r : E_plain_arcs => r.v_order)) aNil)) (e2 mulI (e0 (2 : Int)) (eV (fun r : E_plain_arcs => r.v_thing))))))
 (fSeq (fMut1 (fun r : E_plain_arcs => r.v_found) (fun a r => { r with v_found := a }) appL (lift (ePair (e2 addI (e2 mulI (e0 (2 : Int)) (eV (fun r : E_plain_arcs => r.v_thing))) (e0 (1 : Int))) (eCall m_end_of (aCons (eV (fun r : E_plain_arcs => r.v_order)) aNil)))))
 (fFor (eV (fun r : E_plain_arcs => r.v_row)) (fun b r => { r with v_low := b })
 (fMut1 (fun r : E_plain_arcs => r.v_found) (fun a r => { r with v_found := a }) appL (lift (ePair (e2 addI (e2 mulI (e0 (2 : Int)) (eV (fun r : E_plain_arcs => r.v_low))) (e0 (1 : Int))) (e2 mulI (e0 (2 : Int)) (eV (fun r : E_plain_arcs => r.v_thing))))))))))
 (fRet (fun r : E_plain_arcs => .ok (r.v_found, r)))))
def m_plain_arcs : (List (List Int)) × Unit → M (List (Int × Int)) := fun a => runR b_plain_arcs ⟨a.1, [], 0, [], 0⟩
/-! open_arcs -/
structure E_open_arcs where
  v_order : List (List Int)
  v_used : Dz
  v_found : List (Tp Int)
  v_arc : Int × Int
  v_thing : Int
abbrev gs_open_arcs : List (Get E_open_arcs) := [⟨E_open_arcs.v_order⟩, ⟨E_open_arcs.v_used⟩, ⟨E_open_arcs.v_found⟩, ⟨E_open_arcs.v_arc⟩, ⟨E_open_arcs.v_thing⟩]
def b_open_arcs : E_open_arcs → M (Fl E_open_arcs (List (Tp Int))) :=
 (fSeq (fSet (fun a r => { r with v_found := a }) (lift (e0 ([] : List (Tp Int)))))
 (fSeq (fFor (eCall m_plain_arcs (aCons (eV (fun r : E_open_arcs => r.v_order)) aNil)) (fun b r => { r with v_arc := b })
 (fSeq (fMut1 (fun r : E_open_arcs => r.v_found) (fun a r => { r with v_found := a }) appL (lift (eTpl (eCons (e1 (fun t => some t.1) (eV (fun r : E_open_arcs => r.v_arc))) (eCons (e1 (fun t => some t.2) (eV (fun r : E_open_arcs => r.v_arc))) (eCons (e0 (0 : Int)) eNil))))))
 (fIf (lift (e2 inQ (eV (fun r : E_open_arcs => r.v_arc)) (eV (fun r : E_open_arcs => r.v_used))))
 (fMut1 (fun r : E_open_arcs => r.v_found) (fun a r => { r with v_found := a }) appL (lift (eTpl (eCons (e1 (fun t => some t.2) (eV (fun r : E_open_arcs => r.v_arc))) (eCons (e1 (fun t => some t.1) (eV (fun r : E_open_arcs => r.v_arc))) (eCons (e0 (0 : Int)) eNil))))))
 fNil)))
 (fSeq (fFor (e1 rng1 (e1 lenL (eV (fun r : E_open_arcs => r.v_order)))) (fun b r => { r with v_thing := b })
 (fIf (lift (e2 inQ (ePair (e2 mulI (e0 (2 : Int)) (eV (fun r : E_open_arcs => r.v_thing))) (e2 addI (e2 mulI (e0 (2 : Int)) (eV (fun r : E_open_arcs => r.v_thing))) (e0 (1 : Int)))) (eV (fun r : E_open_arcs => r.v_used))))
 (fMut1 (fun r : E_open_arcs => r.v_found) (fun a r => { r with v_found := a }) appL (lift (eTpl (eCons (e2 addI (e2 mulI (e0 (2 : Int)) (eV (fun r : E_open_arcs => r.v_thing))) (e0 (1 : Int))) (eCons (e2 mulI (e0 (2 : Int)) (eV (fun r : E_open_arcs => r.v_thing))) (eCons (e1 negI (e0 (1 : Int))) eNil))))))
 (fMut1 (fun r : E_open_arcs => r.v_found) (fun a r => { r with v_found := a }) appL (lift (eTpl (eCons (e2 mulI (e0 (2 : Int)) (eV (fun r : E_open_arcs => r.v_thing))) (eCons (e2 addI (e2 mulI (e0 (2 : Int)) (eV (fun r : E_open_arcs => r.v_thing))) (e0 (1 : Int))) (eCons (e0 (1 : Int)) eNil))))))))
 (fRet (fun r : E_open_arcs => .ok (r.v_found, r))))))
def m_open_arcs : (List (List Int)) × Dz × Unit → M (List (Tp Int)) := fun a => runR b_open_arcs ⟨a.1, a.2.1, [], (0, 0), 0⟩
/-! farthest -/
structure E_farthest where
  v_order : List (List Int)
  v_used : Dz
  v_gains : List (Option Int)
  v_ahead : List (Option Int)
  v_arcs : List (Tp Int)
  v_moved : Bool
  v_one : Int
  v_other : Int
  v_gain : Int
abbrev gs_farthest : List (Get E_farthest) := [⟨E_farthest.v_order⟩, ⟨E_farthest.v_used⟩, ⟨E_farthest.v_gains⟩, ⟨E_farthest.v_ahead⟩, ⟨E_farthest.v_arcs⟩, ⟨E_farthest.v_moved⟩, ⟨E_farthest.v_one⟩, ⟨E_farthest.v_other⟩, ⟨E_farthest.v_gain⟩]
def b_farthest : E_farthest → M (Fl E_farthest ((List (Option Int)) × (List (Option Int)))) :=
 (fSeq (fSet (fun a r => { r with v_gains := a }) (lift (e2 repL (eLst (eCons (e0 (none : Option Int)) eNil)) (e2 addI (e2 mulI (e0 (2 : Int)) (e1 lenL (eV (fun r : E_farthest => r.v_order)))) (e0 (2 : Int))))))
 (fSeq (fSet (fun a r => { r with v_ahead := a }) (lift (e2 repL (eLst (eCons (e0 (none : Option Int)) eNil)) (e2 addI (e2 mulI (e0 (2 : Int)) (e1 lenL (eV (fun r : E_farthest => r.v_order)))) (e0 (2 : Int))))))
 (fSeq (fPutP (pV (fun r : E_farthest => r.v_gains) (fun a r => { r with v_gains := a })) (eCall m_start_of (aCons (eV (fun r : E_farthest => r.v_order)) aNil)) (E1 toO (lift (e0 (0 : Int)))))
 (fSeq (fSet (fun a r => { r with v_arcs := a }) (lift (eCall m_open_arcs (aCons (eV (fun r : E_farthest => r.v_order)) (aCons (eV (fun r : E_farthest => r.v_used)) aNil)))))
 (fSeq (fSet (fun a r => { r with v_moved := a }) (lift (e0 true)))
 (fSeq (whileN (lift (eV (fun r : E_farthest => r.v_moved)))
 (fSeq (fSet (fun a r => { r with v_moved := a }) (lift (e0 false)))
 (fFor (e1 triL (eV (fun r : E_farthest => r.v_arcs))) (fun b r => { r with v_one := b.1, v_other := b.2.1, v_gain := b.2.2 })
 (fIf (lift (eAnd (e1 isSo (e2 ixL (eV (fun r : E_farthest => r.v_gains)) (eV (fun r : E_farthest => r.v_one)))) (eOr (e1 isNo (e2 ixL (eV (fun r : E_farthest => r.v_gains)) (eV (fun r : E_farthest => r.v_other)))) (e2 gtI (e2 addI (e1 unO (e2 ixL (eV (fun r : E_farthest => r.v_gains)) (eV (fun r : E_farthest => r.v_one)))) (eV (fun r : E_farthest => r.v_gain))) (e1 unO (e2 ixL (eV (fun r : E_farthest => r.v_gains)) (eV (fun r : E_farthest => r.v_other))))))))
 (fSeq (fPutP (pV (fun r : E_farthest => r.v_gains) (fun a r => { r with v_gains := a })) (eV (fun r : E_farthest => r.v_other)) (E1 toO (lift (e2 addI (e1 unO (e2 ixL (eV (fun r : E_farthest => r.v_gains)) (eV (fun r : E_farthest => r.v_one)))) (eV (fun r : E_farthest => r.v_gain))))))
 (fSeq (fPutP (pV (fun r : E_farthest => r.v_ahead) (fun a r => { r with v_ahead := a })) (eV (fun r : E_farthest => r.v_other)) (E1 toO (lift (eV (fun r : E_farthest => r.v_one)))))
 (fSet (fun a r => { r with v_moved := a }) (lift (e0 true)))))
 fNil))) 100000)
 (fRet (E2 (fun a b => some (a, b)) (fun r : E_farthest => .ok (r.v_gains, r)) (fun r : E_farthest => .ok (r.v_ahead, r))))))))))
def m_farthest : (List (List Int)) × Dz × Unit → M ((List (Option Int)) × (List (Option Int))) := fun a => runR b_farthest ⟨a.1, a.2.1, [], [], [], false, 0, 0, 0⟩
/-! taken -/
structure E_taken where
  v_order : List (List Int)
  v_used : Dz
  v_ahead : List (Option Int)
  v_arcs : Dq
  v_arc : Int × Int
  v_node : Int
  v_before : Int
abbrev gs_taken : List (Get E_taken) := [⟨E_taken.v_order⟩, ⟨E_taken.v_used⟩, ⟨E_taken.v_ahead⟩, ⟨E_taken.v_arcs⟩, ⟨E_taken.v_arc⟩, ⟨E_taken.v_node⟩, ⟨E_taken.v_before⟩]
def b_taken : E_taken → M (Fl E_taken Dz) :=
 (fSeq (fSet (fun a r => { r with v_arcs := a }) (lift (e0 (⟨[]⟩ : Dq))))
 (fSeq (fDcopy (fun r : E_taken => r.v_arcs) (fun a r => { r with v_arcs := a }) (eV (fun r : E_taken => r.v_used)))
 (fSeq (fSet (fun a r => { r with v_node := a }) (lift (eCall m_end_of (aCons (eV (fun r : E_taken => r.v_order)) aNil))))
 (fSeq (whileN (lift (e2 neS (eV (fun r : E_taken => r.v_node)) (eCall m_start_of (aCons (eV (fun r : E_taken => r.v_order)) aNil))))
 (fSeq (fSet (fun a r => { r with v_before := a }) (E1 unO (lift (e2 ixL (eV (fun r : E_taken => r.v_ahead)) (eV (fun r : E_taken => r.v_node))))))
 (fSeq (fIf (lift (e2 inQ (ePair (eV (fun r : E_taken => r.v_node)) (eV (fun r : E_taken => r.v_before))) (eV (fun r : E_taken => r.v_arcs))))
 (fDpopQ (fun r : E_taken => r.v_arcs) (fun a r => { r with v_arcs := a }) (ePair (eV (fun r : E_taken => r.v_node)) (eV (fun r : E_taken => r.v_before))))
 (fDputQ (fun r : E_taken => r.v_arcs) (fun a r => { r with v_arcs := a }) (ePair (eV (fun r : E_taken => r.v_before)) (eV (fun r : E_taken => r.v_node)))))
 (fSet (fun a r => { r with v_node := a }) (lift (eV (fun r : E_taken => r.v_before)))))) 100000)
 (fRet (E1 toZ (fun r : E_taken => .ok (r.v_arcs, r))))))))
def m_taken : (List (List Int)) × Dz × (List (Option Int)) × Unit → M Dz := fun a => runR b_taken ⟨a.1, a.2.1, a.2.2.1, ⟨[]⟩, (0, 0), 0, 0⟩
/-! rounds -/
structure E_rounds where
  v_order : List (List Int)
  v_used : Dz
  v_found : List (Dz × (List (Option Int)))
  v_gains : List (Option Int)
  v_ahead : List (Option Int)
abbrev gs_rounds : List (Get E_rounds) := [⟨E_rounds.v_order⟩, ⟨E_rounds.v_used⟩, ⟨E_rounds.v_found⟩, ⟨E_rounds.v_gains⟩, ⟨E_rounds.v_ahead⟩]
def b_rounds : E_rounds → M (Fl E_rounds (List (Dz × (List (Option Int))))) :=
 (fSeq (fSet (fun a r => { r with v_used := a }) (E1 toZ (lift (e0 (⟨[]⟩ : Dq)))))
 (fSeq (fSet (fun a r => { r with v_found := a }) (lift (e0 ([] : List (Dz × (List (Option Int)))))))
 (fSeq (fSet (fun (a : (List (Option Int)) × (List (Option Int))) (r : E_rounds) => { r with v_gains := a.1, v_ahead := a.2 }) (lift (eCall m_farthest (aCons (eV (fun r : E_rounds => r.v_order)) (aCons (eV (fun r : E_rounds => r.v_used)) aNil)))))
 (fSeq (fMut1 (fun r : E_rounds => r.v_found) (fun a r => { r with v_found := a }) appL (lift (ePair (eV (fun r : E_rounds => r.v_used)) (eV (fun r : E_rounds => r.v_gains)))))
 (fSeq (whileN (lift (eAnd (e1 isSo (e2 ixL (eV (fun r : E_rounds => r.v_gains)) (eCall m_end_of (aCons (eV (fun r : E_rounds => r.v_order)) aNil)))) (e2 gtI (e1 unO (e2 ixL (eV (fun r : E_rounds => r.v_gains)) (eCall m_end_of (aCons (eV (fun r : E_rounds => r.v_order)) aNil)))) (e0 (0 : Int)))))
 (fSeq (fSet (fun a r => { r with v_used := a }) (lift (eCall m_taken (aCons (eV (fun r : E_rounds => r.v_order)) (aCons (eV (fun r : E_rounds => r.v_used)) (aCons (eV (fun r : E_rounds => r.v_ahead)) aNil))))))
 (fSeq (fSet (fun (a : (List (Option Int)) × (List (Option Int))) (r : E_rounds) => { r with v_gains := a.1, v_ahead := a.2 }) (lift (eCall m_farthest (aCons (eV (fun r : E_rounds => r.v_order)) (aCons (eV (fun r : E_rounds => r.v_used)) aNil)))))
 (fMut1 (fun r : E_rounds => r.v_found) (fun a r => { r with v_found := a }) appL (lift (ePair (eV (fun r : E_rounds => r.v_used)) (eV (fun r : E_rounds => r.v_gains))))))) 100000)
 (fRet (fun r : E_rounds => .ok (r.v_found, r))))))))
def m_rounds : (List (List Int)) × Unit → M (List (Dz × (List (Option Int)))) := fun a => runR b_rounds ⟨a.1, ⟨[]⟩, [], [], []⟩
/-! bands_by -/
structure E_bands_by where
  v_order : List (List Int)
  v_found : List (Dz × (List (Option Int)))
  v_used : Dz
  v_gains : List (Option Int)
abbrev gs_bands_by : List (Get E_bands_by) := [⟨E_bands_by.v_order⟩, ⟨E_bands_by.v_found⟩, ⟨E_bands_by.v_used⟩, ⟨E_bands_by.v_gains⟩]
def b_bands_by : E_bands_by → M (Fl E_bands_by (List Int)) :=
 (fRet (lift (eLc (eCut (eV (fun r : E_bands_by => r.v_found)) oNone (oSome (e1 negI (e0 (1 : Int))))) (fun b r => { r with v_used := b.1, v_gains := b.2 }) (fun _ => .ok true) (e1 unO (e2 ixL (eV (fun r : E_bands_by => r.v_gains)) (eCall m_end_of (aCons (eV (fun r : E_bands_by => r.v_order)) aNil)))))))
def m_bands_by : (List (List Int)) × (List (Dz × (List (Option Int)))) × Unit → M (List Int) := fun a => runR b_bands_by ⟨a.1, a.2.1, ⟨[]⟩, []⟩
/-! bands -/
structure E_bands where
  v_order : List (List Int)
abbrev gs_bands : List (Get E_bands) := [⟨E_bands.v_order⟩]
def b_bands : E_bands → M (Fl E_bands (List Int)) :=
 (fRet (lift (eCall m_bands_by (aCons (eV (fun r : E_bands => r.v_order)) (aCons (eCall m_rounds (aCons (eV (fun r : E_bands => r.v_order)) aNil)) aNil)))))
def m_bands : (List (List Int)) × Unit → M (List Int) := fun a => runR b_bands ⟨a.1⟩
/-! columns_of -/
structure E_columns_of where
  v_row : List Int
  v_found : List Int
  v_number : Int
  v_place : Int
abbrev gs_columns_of : List (Get E_columns_of) := [⟨E_columns_of.v_row⟩, ⟨E_columns_of.v_found⟩, ⟨E_columns_of.v_number⟩, ⟨E_columns_of.v_place⟩]
def b_columns_of : E_columns_of → M (Fl E_columns_of (List Int)) :=
 (fSeq (fSet (fun a r => { r with v_found := a }) (lift (e0 ([] : List Int))))
 (fSeq (fFor (eV (fun r : E_columns_of => r.v_row)) (fun b r => { r with v_number := b })
 (fFor (e1 rng1 (eV (fun r : E_columns_of => r.v_number))) (fun b r => { r with v_place := b })
 (fSeq (fIf (lift (e2 eqS (eV (fun r : E_columns_of => r.v_place)) (e1 lenL (eV (fun r : E_columns_of => r.v_found)))))
 (fMut1 (fun r : E_columns_of => r.v_found) (fun a r => { r with v_found := a }) appL (lift (e0 (0 : Int))))
 fNil)
 (fAugP (pV (fun r : E_columns_of => r.v_found) (fun a r => { r with v_found := a })) (eV (fun r : E_columns_of => r.v_place)) addI (e0 (1 : Int))))))
 (fRet (fun r : E_columns_of => .ok (r.v_found, r)))))
def m_columns_of : (List Int) × Unit → M (List Int) := fun a => runR b_columns_of ⟨a.1, [], 0, 0⟩
/-! steps -/
structure E_steps where
  v_order : List (List Int)
abbrev gs_steps : List (Get E_steps) := [⟨E_steps.v_order⟩]
def b_steps : E_steps → M (Fl E_steps (List Int)) :=
 (fRet (lift (eCall m_columns_of (aCons (eCall m_bands (aCons (eV (fun r : E_steps => r.v_order)) aNil)) aNil))))
def m_steps : (List (List Int)) × Unit → M (List Int) := fun a => runR b_steps ⟨a.1⟩
/-! l_cell -/
structure E_l_cell where
  v_script : Scr
  v_k : Int
abbrev gs_l_cell : List (Get E_l_cell) := [⟨E_l_cell.v_script⟩, ⟨E_l_cell.v_k⟩]
def b_l_cell : E_l_cell → M (Fl E_l_cell Int) :=
 (fSeq (fIf (lift (e2 ltI (eV (fun r : E_l_cell => r.v_k)) (e1 lenScr (eV (fun r : E_l_cell => r.v_script)))))
 (fRet (lift (e2 (fun s i => ixL s.l i) (eV (fun r : E_l_cell => r.v_script)) (eV (fun r : E_l_cell => r.v_k)))))
 fNil)
 (fRet (lift (e0 (0 : Int)))))
def m_l_cell : Scr × Int × Unit → M Int := fun a => runR b_l_cell ⟨a.1, a.2.1⟩
/-! l_digits -/
structure E_l_digits where
  v_cell_here : Int
  v_base : Int
  v_many : Int
  v_row_here : List Int
  v_k : Int
abbrev gs_l_digits : List (Get E_l_digits) := [⟨E_l_digits.v_cell_here⟩, ⟨E_l_digits.v_base⟩, ⟨E_l_digits.v_many⟩, ⟨E_l_digits.v_row_here⟩, ⟨E_l_digits.v_k⟩]
def b_l_digits : E_l_digits → M (Fl E_l_digits (List Int)) :=
 (fSeq (fSet (fun a r => { r with v_row_here := a }) (lift (e0 ([] : List Int))))
 (fSeq (fFor (e1 rng1 (eV (fun r : E_l_digits => r.v_many))) (fun b r => { r with v_k := b })
 (fSeq (fMut1 (fun r : E_l_digits => r.v_row_here) (fun a r => { r with v_row_here := a }) appL (lift (e2 modI (eV (fun r : E_l_digits => r.v_cell_here)) (eV (fun r : E_l_digits => r.v_base)))))
 (fSet (fun a r => { r with v_cell_here := a }) (lift (e2 fdivI (eV (fun r : E_l_digits => r.v_cell_here)) (eV (fun r : E_l_digits => r.v_base)))))))
 (fRet (fun r : E_l_digits => .ok (r.v_row_here, r)))))
def m_l_digits : Int × Int × Int × Unit → M (List Int) := fun a => runR b_l_digits ⟨a.1, a.2.1, a.2.2.1, [], 0⟩
/-! l_mixed -/
structure E_l_mixed where
  v_cell_here : Int
  v_base : Int
  v_many : Int
  v_row_here : List Int
  v_k : Int
  v_one : Int
  v_two : Int
abbrev gs_l_mixed : List (Get E_l_mixed) := [⟨E_l_mixed.v_cell_here⟩, ⟨E_l_mixed.v_base⟩, ⟨E_l_mixed.v_many⟩, ⟨E_l_mixed.v_row_here⟩, ⟨E_l_mixed.v_k⟩, ⟨E_l_mixed.v_one⟩, ⟨E_l_mixed.v_two⟩]
def b_l_mixed : E_l_mixed → M (Fl E_l_mixed (List Int)) :=
 (fSeq (fSet (fun a r => { r with v_row_here := a }) (lift (e0 ([] : List Int))))
 (fSeq (fFor (e1 rng1 (eV (fun r : E_l_mixed => r.v_many))) (fun b r => { r with v_k := b })
 (fSeq (fSet (fun a r => { r with v_one := a }) (lift (e2 modI (e2 mulI (e2 addI (e2 addI (e2 addI (e2 modI (eV (fun r : E_l_mixed => r.v_cell_here)) (e0 (998244353 : Int))) (e2 mulI (e2 mulI (e0 (31 : Int)) (eV (fun r : E_l_mixed => r.v_k))) (eV (fun r : E_l_mixed => r.v_k)))) (e2 mulI (e0 (1013 : Int)) (eV (fun r : E_l_mixed => r.v_k)))) (e0 (1 : Int))) (e0 (48271 : Int))) (e0 (2147483647 : Int)))))
 (fSeq (fSet (fun a r => { r with v_two := a }) (lift (e2 modI (e2 mulI (e2 addI (e2 addI (e2 fdivI (eV (fun r : E_l_mixed => r.v_one)) (e0 (7 : Int))) (e2 mulI (e2 modI (e2 fdivI (eV (fun r : E_l_mixed => r.v_cell_here)) (e0 (1009 : Int))) (e0 (10007 : Int))) (e0 (17 : Int)))) (eV (fun r : E_l_mixed => r.v_k))) (e0 (69621 : Int))) (e0 (2147483629 : Int)))))
 (fMut1 (fun r : E_l_mixed => r.v_row_here) (fun a r => { r with v_row_here := a }) appL (lift (e2 modI (e2 fdivI (eV (fun r : E_l_mixed => r.v_two)) (e0 (11 : Int))) (eV (fun r : E_l_mixed => r.v_base))))))))
 (fRet (fun r : E_l_mixed => .ok (r.v_row_here, r)))))
def m_l_mixed : Int × Int × Int × Unit → M (List Int) := fun a => runR b_l_mixed ⟨a.1, a.2.1, a.2.2.1, [], 0, 0, 0⟩
/-! l_row -/
structure E_l_row where
  v_cell_here : Int
  v_base : Int
  v_many : Int
abbrev gs_l_row : List (Get E_l_row) := [⟨E_l_row.v_cell_here⟩, ⟨E_l_row.v_base⟩, ⟨E_l_row.v_many⟩]
def b_l_row : E_l_row → M (Fl E_l_row (List Int)) :=
 (fSeq (fIf (lift (e2 geI (e1 absI (eV (fun r : E_l_row => r.v_cell_here))) (e2 powI (e0 (10 : Int)) (e0 (18 : Int)))))
 (fRet (lift (eCall m_l_digits (aCons (eV (fun r : E_l_row => r.v_cell_here)) (aCons (eV (fun r : E_l_row => r.v_base)) (aCons (eV (fun r : E_l_row => r.v_many)) aNil))))))
 fNil)
 (fRet (lift (eCall m_l_mixed (aCons (eV (fun r : E_l_row => r.v_cell_here)) (aCons (eV (fun r : E_l_row => r.v_base)) (aCons (eV (fun r : E_l_row => r.v_many)) aNil)))))))
def m_l_row : Int × Int × Int × Unit → M (List Int) := fun a => runR b_l_row ⟨a.1, a.2.1, a.2.2.1⟩
/-! l_closed -/
structure E_l_closed where
  v_many : Int
  v_digits_here : List Int
  v_order_here : List (List Int)
  v_at : Int
  v_high : Int
  v_below : List Int
  v_low : Int
abbrev gs_l_closed : List (Get E_l_closed) := [⟨E_l_closed.v_many⟩, ⟨E_l_closed.v_digits_here⟩, ⟨E_l_closed.v_order_here⟩, ⟨E_l_closed.v_at⟩, ⟨E_l_closed.v_high⟩, ⟨E_l_closed.v_below⟩, ⟨E_l_closed.v_low⟩]
def b_l_closed : E_l_closed → M (Fl E_l_closed (List (List Int))) :=
 (fSeq (fSet (fun a r => { r with v_order_here := a }) (lift (e0 ([] : List (List Int)))))
 (fSeq (fSet (fun a r => { r with v_at := a }) (lift (e0 (0 : Int))))
 (fSeq (fFor (e1 rng1 (eV (fun r : E_l_closed => r.v_many))) (fun b r => { r with v_high := b })
 (fSeq (fSet (fun a r => { r with v_below := a }) (lift (e0 ([] : List Int))))
 (fSeq (fFor (e1 rng1 (eV (fun r : E_l_closed => r.v_high))) (fun b r => { r with v_low := b })
 (fSeq (fIf (lift (e2 eqS (e2 ixL (eV (fun r : E_l_closed => r.v_digits_here)) (eV (fun r : E_l_closed => r.v_at))) (e0 (0 : Int))))
 (fSeq (fMut1 (fun r : E_l_closed => r.v_below) (fun a r => { r with v_below := a }) appL (lift (eV (fun r : E_l_closed => r.v_low))))
 (fMut1 (fun r : E_l_closed => r.v_below) (fun a r => { r with v_below := a }) extL (lift (e2 ixL (eV (fun r : E_l_closed => r.v_order_here)) (eV (fun r : E_l_closed => r.v_low))))))
 fNil)
 (fSet (fun a r => { r with v_at := a }) (lift (e2 addI (eV (fun r : E_l_closed => r.v_at)) (e0 (1 : Int)))))))
 (fMut1 (fun r : E_l_closed => r.v_order_here) (fun a r => { r with v_order_here := a }) appL (lift (e1 sortSetI (eV (fun r : E_l_closed => r.v_below))))))))
 (fRet (fun r : E_l_closed => .ok (r.v_order_here, r))))))
def m_l_closed : Int × (List Int) × Unit → M (List (List Int)) := fun a => runR b_l_closed ⟨a.1, a.2.1, [], 0, 0, [], 0⟩
/-! l_order -/
structure E_l_order where
  v_cell_here : Int
  v_many : Int
abbrev gs_l_order : List (Get E_l_order) := [⟨E_l_order.v_cell_here⟩, ⟨E_l_order.v_many⟩]
def b_l_order : E_l_order → M (Fl E_l_order (List (List Int))) :=
 (fSeq (fSet (fun a r => { r with v_many := a }) (lift (e2 modI (eV (fun r : E_l_order => r.v_cell_here)) (e0 (10 : Int)))))
 (fSeq (fIf (lift (e2 eqS (e2 modI (e2 fdivI (eV (fun r : E_l_order => r.v_cell_here)) (e0 (10 : Int))) (e0 (8 : Int))) (e0 (1 : Int))))
 (fSet (fun a r => { r with v_many := a }) (lift (e2 modI (e2 fdivI (eV (fun r : E_l_order => r.v_cell_here)) (e0 (80 : Int))) (e0 (15 : Int)))))
 fNil)
 (fRet (lift (eCall m_l_closed (aCons (eV (fun r : E_l_order => r.v_many)) (aCons (eCall m_l_row (aCons (e2 fdivI (eV (fun r : E_l_order => r.v_cell_here)) (e0 (4800 : Int))) (aCons (e2 addI (e0 (2 : Int)) (e2 modI (e2 fdivI (eV (fun r : E_l_order => r.v_cell_here)) (e0 (1200 : Int))) (e0 (4 : Int)))) (aCons (e0 (91 : Int)) aNil)))) aNil)))))))
def m_l_order : Int × Unit → M (List (List Int)) := fun a => runR b_l_order ⟨a.1, 0⟩
/-! l_columns -/
structure E_l_columns where
  v_row_here : List Int
  v_found : List Int
  v_number : Int
  v_one : Int
abbrev gs_l_columns : List (Get E_l_columns) := [⟨E_l_columns.v_row_here⟩, ⟨E_l_columns.v_found⟩, ⟨E_l_columns.v_number⟩, ⟨E_l_columns.v_one⟩]
def b_l_columns : E_l_columns → M (Fl E_l_columns (List Int)) :=
 (fSeq (fSet (fun a r => { r with v_found := a }) (lift (e0 ([] : List Int))))
 (fSeq (fFor (e2 rng (e0 (1 : Int)) (e2 addI (e1 maxL (e2 catL (eLst (eCons (e0 (0 : Int)) eNil)) (eV (fun r : E_l_columns => r.v_row_here)))) (e0 (1 : Int)))) (fun b r => { r with v_number := b })
 (fMut1 (fun r : E_l_columns => r.v_found) (fun a r => { r with v_found := a }) appL (lift (e1 lenL (eLc (eV (fun r : E_l_columns => r.v_row_here)) (fun b r => { r with v_one := b }) (e2 geI (eV (fun r : E_l_columns => r.v_one)) (eV (fun r : E_l_columns => r.v_number))) (eV (fun r : E_l_columns => r.v_one)))))))
 (fRet (fun r : E_l_columns => .ok (r.v_found, r)))))
def m_l_columns : (List Int) × Unit → M (List Int) := fun a => runR b_l_columns ⟨a.1, [], 0, 0⟩
/-! law -/
structure E_law where
  v_script : Scr
  v_cell_here : Int
  v_order_here : List (List Int)
  v_told : List Int
  v_other : List Int
  v_row_here : List Int
abbrev gs_law : List (Get E_law) := [⟨E_law.v_script⟩, ⟨E_law.v_cell_here⟩, ⟨E_law.v_order_here⟩, ⟨E_law.v_told⟩, ⟨E_law.v_other⟩, ⟨E_law.v_row_here⟩]
def b_law : E_law → M (Fl E_law Bool) :=
 (fSeq (fFor (e2 catL (eLst (eCons (eCall m_l_cell (aCons (eV (fun r : E_law => r.v_script)) (aCons (e0 (0 : Int)) aNil))) eNil)) (eCut (fun r => (eV (fun r : E_law => r.v_script)) r >>= fun s => if s.l.length ≤ line then .ok s.l else .error .stuck) (oSome (e0 (1 : Int))) (oSome (e0 (6 : Int))))) (fun b r => { r with v_cell_here := b })
 (fSeq (fSet (fun a r => { r with v_order_here := a }) (lift (eCall m_l_order (aCons (eV (fun r : E_law => r.v_cell_here)) aNil))))
 (fSeq (fSet (fun a r => { r with v_told := a }) (lift (eCall m_bands (aCons (eLc (eV (fun r : E_law => r.v_order_here)) (fun b r => { r with v_row_here := b }) (fun _ => .ok true) (e1 (fun l => some l) (eV (fun r : E_law => r.v_row_here)))) aNil))))
 (fSeq (fSet (fun a r => { r with v_other := a }) (lift (eCall m_steps (aCons (eLc (eV (fun r : E_law => r.v_order_here)) (fun b r => { r with v_row_here := b }) (fun _ => .ok true) (e1 (fun l => some l) (eV (fun r : E_law => r.v_row_here)))) aNil))))
 (fIf (lift (eOr (e2 neD (eV (fun r : E_law => r.v_other)) (eCall m_l_columns (aCons (eV (fun r : E_law => r.v_told)) aNil))) (e2 neD (eV (fun r : E_law => r.v_told)) (eCall m_l_columns (aCons (eV (fun r : E_law => r.v_other)) aNil)))))
 (fRet (lift (e0 false)))
 fNil)))))
 (fRet (lift (e0 true))))
def m_law : Scr × Unit → M Bool := fun a => runR b_law ⟨a.1, 0, [], [], [], []⟩
end K14
namespace K14
open VL
theorem l_cell_ok (s : Scr) (k : Int) (hk : 0 ≤ k) : ∃ c, m_l_cell (s, k, ()) = .ok c := by
  refine (val_ex (Q := fun _ => True) ?_).imp fun _ h => h.1
  simp only [m_l_cell, b_l_cell, val_runR, wp_seq, wp_if, wp_ret, wp_nil, val_lift, val_e2, val_eV, val_e1, val_e0, opt_lt, opt_lenScr]
  by_cases h : k < s.l.length
  · simp only [h, decide_true, if_true]
    obtain ⟨a, e⟩ := at_some (l := s.l) (j := k.toNat) (by omega)
    rw [opt_ixE hk e]
    trivial
  · simp [h]
theorem l_digits_ok (c b n : Int) (hb : 0 < b) (hb2 : b < 1073741824) (hn : 0 ≤ n) (hn2 : n < 1000000) : val (m_l_digits (c, b, n, ())) fun l => (l.length : Int) = n ∧ ∀ x ∈ l, 0 ≤ x ∧ x < b := by
  simp only [m_l_digits, b_l_digits, val_runR, wp_seq, wp_set, wp_for, wp_ret, val_lift, val_eV, val_e1, val_e0]
  rw [opt_rng1 (by omega)]
  refine wp_loop (fun i r => r.v_base = b ∧ r.v_row_here.length = i ∧ ∀ x ∈ r.v_row_here, 0 ≤ x ∧ x < b) ⟨rfl, rfl, fun x h => (nomatch h)⟩ (fun i v r e ⟨h1, h2, h3⟩ => ?_) (fun r ⟨h1, h2, h3⟩ => ?_)
  · obtain ⟨hi, rfl⟩ := rng_at e
    simp only [wp_seq, wp_mut1, wp_set, val_lift, val_e2, val_eV, h1, opt_modE hb, opt_fdivE hb hb2]
    rw [opt_appE (by omega)]
    refine ⟨trivial, by simp [h2], fun x hx => ?_⟩
    rcases List.mem_append.mp hx with hx | hx
    · exact h3 x hx
    · rw [List.mem_singleton.mp hx]
      exact ⟨Int.emod_nonneg _ (by omega), Int.emod_lt_of_pos _ hb⟩
  · refine ⟨?_, h3⟩
    rw [h2]
    simp
    omega
theorem l_mixed_ok (c b n : Int) (hb : 0 < b) (hb2 : b < 1073741824) (hn : 0 ≤ n) (hn2 : n < 1000000) : val (m_l_mixed (c, b, n, ())) fun l => (l.length : Int) = n ∧ ∀ x ∈ l, 0 ≤ x ∧ x < b := by
  simp only [m_l_mixed, b_l_mixed, val_runR, wp_seq, wp_set, wp_for, wp_ret, val_lift, val_eV, val_e1, val_e0]
  rw [opt_rng1 (by omega)]
  refine wp_loop (fun i r => r.v_base = b ∧ r.v_row_here.length = i ∧ ∀ x ∈ r.v_row_here, 0 ≤ x ∧ x < b) ⟨rfl, rfl, fun x h => (nomatch h)⟩ (fun i v r e ⟨h1, h2, h3⟩ => ?_) (fun r ⟨h1, h2, h3⟩ => ?_)
  · obtain ⟨hi, rfl⟩ := rng_at e
    simp only [wp_seq, wp_mut1, wp_set, val_lift, val_e2, val_eV, val_e0, h1, opt_modE hb, opt_modE (y := 998244353) (by decide), opt_modE (y := 2147483647) (by decide), opt_modE (y := 10007) (by decide), opt_modE (y := 2147483629) (by decide), opt_fdivE (y := 7) (by decide) (by decide), opt_fdivE (y := 1009) (by decide) (by decide), opt_fdivE (y := 11) (by decide) (by decide), opt_add]
    repeat' first | (refine opt_mul (.inr (.inl (by first | decide | (simp; omega) | omega))) ?_) | (refine opt_mul (.inl (by first | decide | omega)) ?_) | (simp only [opt_modE (y := 998244353) (by decide), opt_modE (y := 2147483647) (by decide), opt_modE (y := 10007) (by decide), opt_modE (y := 2147483629) (by decide), opt_fdivE (y := 7) (by decide) (by decide), opt_fdivE (y := 1009) (by decide) (by decide), opt_fdivE (y := 11) (by decide) (by decide), opt_add])
    rw [opt_appE (by omega)]
    refine ⟨trivial, by simp [h2], fun x hx => ?_⟩
    rcases List.mem_append.mp hx with hx | hx
    · exact h3 x hx
    · rw [List.mem_singleton.mp hx]
      exact ⟨Int.emod_nonneg _ (by omega), Int.emod_lt_of_pos _ hb⟩
  · refine ⟨?_, h3⟩
    rw [h2]
    simp
    omega
theorem l_row_ok (c b n : Int) (hb : 0 < b) (hb2 : b < 1073741824) (hn : 0 ≤ n) (hn2 : n < 1000000) : val (m_l_row (c, b, n, ())) fun l => (l.length : Int) = n ∧ ∀ x ∈ l, 0 ≤ x ∧ x < b := by
  simp only [m_l_row, b_l_row, val_runR, wp_seq, wp_if, wp_ret, wp_nil, val_lift, val_e2, val_eV, val_e1, val_e0, opt_abs, opt_ge, val_eCall, val_aCons, val_aNil]
  rw [opt_powE (by decide)]
  have key : ∀ d : Bool, if d = true then val (m_l_digits (c, b, n, ())) (fun l => (l.length : Int) = n ∧ ∀ x ∈ l, 0 ≤ x ∧ x < b) else val (m_l_mixed (c, b, n, ())) (fun l => (l.length : Int) = n ∧ ∀ x ∈ l, 0 ≤ x ∧ x < b) := fun d => match d with
    | true => l_digits_ok c b n hb hb2 hn hn2
    | false => l_mixed_ok c b n hb hb2 hn hn2
  exact key _
theorem l_closed_ok (n : Int) (ds : List Int) (hn : 0 ≤ n) (hn2 : n ≤ 14) (hd : 91 ≤ ds.length) : val (m_l_closed (n, ds, ())) fun o => (o.length : Int) = n ∧ IsOrd o := by
  simp only [m_l_closed, b_l_closed, val_runR, wp_seq, wp_set, wp_for, wp_ret, val_lift, val_eV, val_e1, val_e0]
  rw [opt_rng1 (by omega)]
  refine wp_loop (fun i r => r.v_digits_here = ds ∧ r.v_order_here.length = i ∧ IsOrd r.v_order_here ∧ r.v_at = (tn i : Int)) ⟨rfl, rfl, .nil, rfl⟩ (fun i v r e ⟨h1, h2, h3, h4⟩ => ?_) (fun r ⟨h1, h2, h3, h4⟩ => ?_)
  · obtain ⟨hi, rfl⟩ := rng_at e
    simp only [wp_seq, wp_set, wp_for, val_lift, val_eV, val_e1, val_e0]
    rw [opt_rng1 (by omega)]
    refine wp_loop (fun k r2 => r2.v_digits_here = ds ∧ r2.v_order_here = r.v_order_here ∧ r2.v_at = ((tn i + k : Nat) : Int) ∧ r2.v_below.length ≤ k * 15 ∧ (∀ x ∈ r2.v_below, 0 ≤ x ∧ x < (k : Int) ∧ ∀ row, r.v_order_here[x.toNat]? = some row → ∀ y ∈ row, y ∈ r2.v_below)) ⟨h1, rfl, h4, Nat.zero_le _, fun x h => (nomatch h)⟩ (fun k v r2 e ⟨g1, g2, g3, g4, g5⟩ => ?_) (fun r2 ⟨g1, g2, g3, g4, g5⟩ => ?_)
    · obtain ⟨hk, rfl⟩ := rng_at e
      have hk : k < i := by simpa using hk
      have hi14 : i < 14 := by omega
      obtain ⟨row, er⟩ := at_some (l := r.v_order_here) (j := k) (by omega)
      have hr : row.length ≤ k := h3.few er
      have hm : tn i ≤ 78 := tn_le (m := 13) (by omega)
      obtain ⟨d, ed⟩ := at_some (l := ds) (j := tn i + k) (by omega)
      simp only [wp_seq, wp_if, wp_nil, wp_mut1, wp_set, val_lift, val_e2, val_eV, val_e0, opt_eqS, opt_add, g1, g2, g3]
      rw [opt_ixE (by omega) (by rw [Int.toNat_natCast]; exact ed)]
      by_cases h0 : d = 0
      · simp only [h0, decide_true, if_true]
        rw [opt_appE (by omega), opt_ixE (by omega) (by rw [Int.toNat_natCast]; exact er), opt_extE (by simp; omega)]
        refine ⟨trivial, trivial, by rw [← Nat.add_assoc, Int.natCast_add]; simp, by simp; omega, fun x hx => ?_⟩
        rcases List.mem_append.mp hx with hx | hx
        · rcases List.mem_append.mp hx with hx | hx
          · obtain ⟨a, b, c⟩ := g5 x hx
            exact ⟨a, by omega, fun row e y hy => List.mem_append_left _ (List.mem_append_left _ (c row e y hy))⟩
          · rw [List.mem_singleton.mp hx]
            refine ⟨by omega, by omega, fun row2 e y hy => ?_⟩
            rw [Int.toNat_natCast, er] at e
            cases e
            exact List.mem_append_right _ hy
        · obtain ⟨a, b⟩ := h3.lo er x hx
          exact ⟨a, by omega, fun row2 e y hy => List.mem_append_right _ (h3.tr er x hx row2 e y hy)⟩
      · simp only [h0, decide_false, Bool.false_eq_true, if_false]
        refine ⟨trivial, trivial, by rw [← Nat.add_assoc, Int.natCast_add]; simp, by omega, fun x hx => ?_⟩
        obtain ⟨a, b, c⟩ := g5 x hx
        exact ⟨a, by omega, c⟩
    · simp only [List.length_map, List.length_range, Int.toNat_natCast] at g3 g4 g5
      simp only [wp_mut1, val_lift, val_e1, val_eV, g2]
      have hs := ssort_sorted r2.v_below
      have hb : ∀ x ∈ ssort r2.v_below, 0 ≤ x ∧ x < (i : Int) := fun x hx => by
        rw [ssort_mem] at hx
        obtain ⟨a, b, _⟩ := g5 x hx
        exact ⟨a, b⟩
      have hl : (ssort r2.v_below).length ≤ i := by
        rcases few hs hb with h | h
        · omega
        · rw [h]; exact Nat.zero_le _
      rw [opt_sortSetE (by omega) (by omega), opt_appE (by omega)]
      refine ⟨g1, by simp [h2], h3.snoc hs (by rw [h2]; exact hb) (fun x hx row e y hy => ?_), ?_⟩
      · rw [ssort_mem] at hx ⊢
        exact (g5 x hx).2.2 row e y hy
      · rw [tn_next]
        exact g3
  · refine ⟨?_, h3⟩
    rw [h2]
    simp
    omega
/-- the order that a cell tells -/
theorem l_order_ok (c : Int) : ∃ o, m_l_order (c, ()) = .ok o ∧ o.length ≤ 14 ∧ IsOrd o := by
  refine val_ex ?_
  simp only [m_l_order, b_l_order, val_runR, wp_seq, wp_set, wp_if, wp_nil, wp_ret, val_lift, val_e2, val_eV, val_e0, val_eCall, val_aCons, val_aNil, opt_add, opt_eqS, opt_modE (y := 10) (by decide), opt_modE (y := 8) (by decide), opt_modE (y := 15) (by decide), opt_modE (y := 4) (by decide), opt_fdivE (y := 10) (by decide) (by decide), opt_fdivE (y := 80) (by decide) (by decide), opt_fdivE (y := 4800) (by decide) (by decide), opt_fdivE (y := 1200) (by decide) (by decide)]
  have key (n : Int) (h1 : 0 ≤ n) (h2 : n ≤ 14) : val (m_l_row (c / 4800, 2 + c / 1200 % 4, 91, ())) fun a => val (m_l_closed (n, a, ())) fun o => o.length ≤ 14 ∧ IsOrd o :=
    val_mono (l_row_ok _ _ _ (by omega) (by omega) (by omega) (by omega)) fun l ⟨h, _⟩ => val_mono (l_closed_ok n l h1 h2 (by omega)) fun o ⟨h, g⟩ => ⟨by omega, g⟩
  split
  · exact key _ (by omega) (by omega)
  · exact key _ (by omega) (by omega)
/-- one step of the heights -/
def top (f row : List Int) : Int := row.foldl (fun m low => max m (f.getD low.toNat 0)) 0 + 1
def hts (o : List (List Int)) : List Int := o.foldl (fun f row => f ++ [top f row]) []
theorem hts_snoc (o : List (List Int)) (row : List Int) : hts (o ++ [row]) = hts o ++ [top (hts o) row] := by simp [hts]
theorem hts_len (o : List (List Int)) : (hts o).length = o.length := by
  induction o using snoc_ind with
  | nil => rfl
  | snoc o row ih => simp [hts_snoc, ih]
theorem top_ext {f g row : List Int} (h : ∀ x ∈ row, f.getD x.toNat 0 = g.getD x.toNat 0) : top f row = top g row := by
  unfold top
  congr 1
  suffices ∀ a, List.foldl (fun m low => max m (f.getD low.toNat 0)) a row = List.foldl (fun m low => max m (g.getD low.toNat 0)) a row from this 0
  induction row with
  | nil => intro a; rfl
  | cons x l ih =>
    intro a
    rw [List.foldl_cons, List.foldl_cons, h x (List.mem_cons_self ..)]
    exact ih (fun y hy => h y (List.mem_cons_of_mem _ hy)) _
theorem hts_at {o : List (List Int)} (h : IsOrd o) {j : Nat} {row : List Int} (e : o[j]? = some row) : (hts o)[j]? = some (top (hts o) row) := by
  induction o using snoc_ind with
  | nil => cases e
  | snoc o r ih =>
    have ho : IsOrd o := h.init
    have hn := hts_len o
    rw [hts_snoc]
    have hj := at_lt e
    have key : ∀ x ∈ row, (hts o ++ [top (hts o) r]).getD x.toNat 0 = (hts o).getD x.toNat 0 := fun x hx => by
      have := h.lo e x hx
      simp only [List.getD]
      rw [snoc_lo (by simp at hj; omega)]
    rw [top_ext key]
    rcases snoc_at e with e | ⟨rfl, rfl⟩
    · rw [snoc_lo (by have := at_lt e; omega)]
      exact ih ho e
    · rw [← hn]
      simp
def ht (o : List (List Int)) (x : Int) : Int := (hts o).getD x.toNat 0
theorem foldl_top (f : Int → Int) : ∀ (l : List Int) (a : Int), a ≤ l.foldl (fun m x => max m (f x)) a ∧ (∀ x ∈ l, f x ≤ l.foldl (fun m x => max m (f x)) a) ∧ (l.foldl (fun m x => max m (f x)) a = a ∨ ∃ x ∈ l, f x = l.foldl (fun m x => max m (f x)) a)
  | [], a => ⟨Int.le_refl _, fun x h => (nomatch h), .inl rfl⟩
  | y :: l, a => by
    obtain ⟨h1, h2, h3⟩ := foldl_top f l (max a (f y))
    rw [List.foldl_cons]
    refine ⟨by omega, fun x hx => ?_, ?_⟩
    · rcases List.mem_cons.mp hx with e | hx
      · rw [e]; omega
      · exact h2 x hx
    · rcases h3 with h3 | ⟨x, hx, e⟩
      · by_cases c : f y ≤ a
        · left; rw [h3]; omega
        · right; exact ⟨y, List.mem_cons_self, by rw [h3]; omega⟩
      · exact .inr ⟨x, List.mem_cons_of_mem _ hx, e⟩
section
variable {o : List (List Int)} (h : IsOrd o)
include h
theorem ht_at {j : Nat} {row : List Int} (e : o[j]? = some row) : ht o j = row.foldl (fun m x => max m (ht o x)) 0 + 1 := by
  have := hts_at h e
  unfold ht
  rw [Int.toNat_natCast, List.getD_eq_getElem?_getD, this]
  rfl
theorem ht_up {x y : Int} (b : Blw o x y) (hy : 0 ≤ y) : ht o x < ht o y := by
  obtain ⟨r, e, hx⟩ := b
  have := ht_at h e
  rw [show ((y.toNat : Nat) : Int) = y from by omega] at this
  have := (foldl_top (ht o) r 0).2.1 x hx
  omega
theorem ht_pos {y : Int} (hy : 0 ≤ y ∧ y < o.length) : 1 ≤ ht o y := by
  obtain ⟨r, e⟩ := at_some (l := o) (j := y.toNat) (by omega)
  have := ht_at h e
  rw [show ((y.toNat : Nat) : Int) = y from by omega] at this
  have := (foldl_top (ht o) r 0).1
  omega
theorem ht_low {y : Int} (hy : 0 ≤ y ∧ y < o.length) (h2 : 2 ≤ ht o y) : ∃ x, Blw o x y ∧ ht o x = ht o y - 1 := by
  obtain ⟨r, e⟩ := at_some (l := o) (j := y.toNat) (by omega)
  have := ht_at h e
  rw [show ((y.toNat : Nat) : Int) = y from by omega] at this
  rcases (foldl_top (ht o) r 0).2.2 with h3 | ⟨x, hx, e3⟩
  · omega
  · exact ⟨x, ⟨r, e, hx⟩, by omega⟩
theorem ht_le : ∀ (n : Nat) {y : Int}, 0 ≤ y → y < o.length → y < n → ht o y ≤ y + 1
  | 0, _, _, _, _ => by omega
  | n + 1, y, h0, h1, h2 => by
    by_cases c : 2 ≤ ht o y
    · obtain ⟨x, b, e⟩ := ht_low h ⟨h0, h1⟩ c
      have := h.lt b h0
      have := ht_le n this.1 (by omega) (by omega)
      omega
    · omega
end
/-- the greatest height of the first i things -/
def mh (o : List (List Int)) : Nat → Int
  | 0 => 0
  | i + 1 => max (mh o i) (ht o i)
theorem mh_ge {o : List (List Int)} : ∀ {i k : Nat}, k < i → ht o k ≤ mh o i
  | i + 1, k, hk => by
    unfold mh
    by_cases e : k = i
    · subst e; omega
    · have := mh_ge (o := o) (i := i) (k := k) (by omega)
      omega
theorem mh_pos {o : List (List Int)} : ∀ {i : Nat}, 0 ≤ mh o i
  | 0 => Int.le_refl _
  | i + 1 => by have := mh_pos (o := o) (i := i); unfold mh; omega
theorem mh_some {o : List (List Int)} : ∀ {i : Nat}, 0 < mh o i → ∃ k : Nat, k < i ∧ ht o k = mh o i
  | 0, h => by simp [mh] at h
  | i + 1, h => by
    unfold mh at h ⊢
    by_cases c : mh o i < ht o i
    · exact ⟨i, by omega, by omega⟩
    · obtain ⟨k, hk, e⟩ := mh_some (o := o) (i := i) (by omega)
      exact ⟨k, by omega, by omega⟩
open VL
/-! ### the net of an order: nodes 2t and 2t + 1 for each thing t, the start 2n, the end 2n + 1 -/
def PA (o : List (List Int)) (a b : Int) : Prop := (a = 2 * (o.length : Int) ∧ ∃ t : Int, 0 ≤ t ∧ t < o.length ∧ b = 2 * t) ∨ (b = 2 * (o.length : Int) + 1 ∧ ∃ t : Int, 0 ≤ t ∧ t < o.length ∧ a = 2 * t + 1) ∨ ∃ (j : Nat) (row : List Int) (low : Int), o[j]? = some row ∧ low ∈ row ∧ a = 2 * low + 1 ∧ b = 2 * (j : Int)
def TA (o : List (List Int)) (a b : Int) : Prop := ∃ t : Int, 0 ≤ t ∧ t < o.length ∧ a = 2 * t ∧ b = 2 * t + 1
def Arc (o : List (List Int)) (U : List (Int × Int)) (a b g : Int) : Prop := (PA o a b ∧ g = 0) ∨ (PA o b a ∧ (b, a) ∈ U ∧ g = 0) ∨ (TA o b a ∧ (b, a) ∈ U ∧ g = -1) ∨ (TA o a b ∧ (a, b) ∉ U ∧ g = 1)
/-- where an arc may stand -/
theorem PA.is {o : List (List Int)} (h : IsOrd o) {a b : Int} (p : PA o a b) : (a = 2 * (o.length : Int) ∧ ∃ t : Int, 0 ≤ t ∧ t < o.length ∧ b = 2 * t) ∨ (∃ t : Int, 0 ≤ t ∧ t < o.length ∧ a = 2 * t + 1 ∧ (b = 2 * (o.length : Int) + 1 ∨ ∃ j : Int, t < j ∧ j < o.length ∧ b = 2 * j)) := by
  rcases p with p | ⟨e, t, h1, h2, e2⟩ | ⟨j, row, low, ej, hl, e1, e2⟩
  · exact .inl p
  · exact .inr ⟨t, h1, h2, e2, .inl e⟩
  · have := h.lo ej low hl
    have hj := (List.getElem?_eq_some_iff.mp ej).1
    exact .inr ⟨low, this.1, by omega, e1, .inr ⟨j, this.2, by omega, e2⟩⟩
theorem PA.rng {o : List (List Int)} (h : IsOrd o) {a b : Int} (p : PA o a b) : 0 ≤ a ∧ a < 2 * (o.length : Int) + 2 ∧ 0 ≤ b ∧ b < 2 * (o.length : Int) + 2 ∧ a ≠ b := by
  rcases p.is h with ⟨e, t, h1, h2, e2⟩ | ⟨t, h1, h2, e1, e2 | ⟨j, h3, h4, e2⟩⟩ <;> omega
theorem TA.rng {o : List (List Int)} {a b : Int} (p : TA o a b) : 0 ≤ a ∧ a < 2 * (o.length : Int) + 2 ∧ 0 ≤ b ∧ b < 2 * (o.length : Int) + 2 ∧ a ≠ b := by
  obtain ⟨t, h1, h2, e1, e2⟩ := p
  omega
theorem Arc.rng {o : List (List Int)} (h : IsOrd o) {U : List (Int × Int)} {a b g : Int} (p : Arc o U a b g) : 0 ≤ a ∧ a < 2 * (o.length : Int) + 2 ∧ 0 ≤ b ∧ b < 2 * (o.length : Int) + 2 ∧ a ≠ b ∧ -1 ≤ g ∧ g ≤ 1 := by
  rcases p with ⟨p, e⟩ | ⟨p, _, e⟩ | ⟨p, _, e⟩ | ⟨p, _, e⟩
  · have := p.rng h; omega
  · have := p.rng h; omega
  · have := p.rng; omega
  · have := p.rng; omega
theorem not_PT {o : List (List Int)} (h : IsOrd o) {a b : Int} (p : PA o a b) (q : TA o a b) : False := by
  obtain ⟨s, h5, h6, e5, e6⟩ := q
  rcases p.is h with ⟨e, t, h1, h2, e2⟩ | ⟨t, h1, h2, e1, e2 | ⟨j, h3, h4, e2⟩⟩ <;> omega
theorem not_PT' {o : List (List Int)} (h : IsOrd o) {a b : Int} (p : PA o a b) (q : TA o b a) : False := by
  obtain ⟨s, h5, h6, e5, e6⟩ := q
  rcases p.is h with ⟨e, t, h1, h2, e2⟩ | ⟨t, h1, h2, e1, e2 | ⟨j, h3, h4, e2⟩⟩ <;> omega
theorem not_PP {o : List (List Int)} (h : IsOrd o) {a b : Int} (p : PA o a b) (q : PA o b a) : False := by
  rcases p.is h with ⟨e, t, h1, h2, e2⟩ | ⟨t, h1, h2, e1, e2 | ⟨j, h3, h4, e2⟩⟩ <;> rcases q.is h with ⟨e', t', h1', h2', e2'⟩ | ⟨t', h1', h2', e1', e2' | ⟨j', h3', h4', e2'⟩⟩ <;> omega
theorem not_TT {o : List (List Int)} {a b : Int} (p : TA o a b) (q : TA o b a) : False := by
  obtain ⟨s, h5, h6, e5, e6⟩ := q
  obtain ⟨t, h1, h2, e1, e2⟩ := p
  omega
/-! what stands at a node -/
def gv (G : List (Option Int)) (v : Int) : Option Int := if 0 ≤ v then G.getD v.toNat none else none
theorem gv_set {G : List (Option Int)} {b : Int} {x : Option Int} (h0 : 0 ≤ b) (h1 : b < G.length) (v : Int) : gv (G.set b.toNat x) v = if v = b then x else gv G v := by
  unfold gv
  by_cases hv : 0 ≤ v
  · rw [if_pos hv, if_pos hv, List.getD_eq_getElem?_getD, List.getD_eq_getElem?_getD]
    by_cases e : v = b
    · subst e
      rw [if_pos rfl, List.getElem?_set_self (by omega)]
      rfl
    · rw [if_neg e, List.getElem?_set_ne (by omega)]
  · rw [if_neg hv, if_neg hv, if_neg (by omega)]
theorem gv_at {G : List (Option Int)} {v : Int} (h0 : 0 ≤ v) (h1 : v < G.length) : G[v.toNat]? = some (gv G v) := by
  unfold gv
  rw [if_pos h0, List.getD_eq_getElem?_getD, List.getElem?_eq_getElem (by omega)]
  rfl
theorem gv_rng {G : List (Option Int)} {v x : Int} (h : gv G v = some x) : 0 ≤ v ∧ v < G.length := by
  unfold gv at h
  split at h
  · rename_i h0
    rw [List.getD_eq_getElem?_getD] at h
    by_cases q : v.toNat < G.length
    · omega
    · rw [List.getElem?_eq_none (by omega)] at h
      cases h
  · cases h
/-- a weighed sum of a list -/
def wt {α : Type} (f : α → Nat) (l : List α) : Nat := (l.map f).sum
theorem wt_set {α : Type} (f : α → Nat) {a : α} : ∀ {l : List α} {j : Nat} {b : α}, l[j]? = some b → wt f (l.set j a) + f b = wt f l + f a
  | [], j, b, e => by simp at e
  | x :: l, 0, b, e => by
    cases e
    unfold wt
    rw [List.set_cons_zero, List.map_cons, List.map_cons, List.sum_cons, List.sum_cons]
    omega
  | x :: l, j + 1, b, e => by
    have ih := wt_set f (a := a) (l := l) (j := j) (b := b) (by simpa using e)
    unfold wt at ih ⊢
    rw [List.set_cons_succ, List.map_cons, List.map_cons, List.sum_cons, List.sum_cons]
    omega
theorem wt_le {α : Type} {f : α → Nat} {c : Nat} : ∀ {l : List α}, (∀ a ∈ l, f a ≤ c) → wt f l ≤ l.length * c
  | [], _ => Nat.zero_le _
  | x :: l, h => by
    have ih := wt_le (f := f) (c := c) (l := l) fun a ha => h a (List.mem_cons_of_mem _ ha)
    have := h x List.mem_cons_self
    unfold wt at ih ⊢
    rw [List.map_cons, List.sum_cons, List.length_cons, Nat.add_mul]
    omega
def isS : Option Int → Nat
  | none => 0
  | some _ => 1
def hgt : Option Int → Nat
  | none => 0
  | some x => (x + 31).toNat
/-! a potential: no arc gains more than it allows -/
def Pot (o : List (List Int)) (U : List (Int × Int)) (π : Int → Option Int) : Prop := π (2 * (o.length : Int)) = some 0 ∧ ∀ a b g x, Arc o U a b g → π a = some x → ∃ y, π b = some y ∧ x + g ≤ y
/-- k steps ahead of the start -/
inductive Rt (P : Int → Option Int) (s : Int) : Nat → Int → Prop
  | base : Rt P s 0 s
  | step {v u : Int} {k : Nat} : v ≠ s → P v = some u → Rt P s k u → Rt P s (k + 1) v
structure BF (o : List (List Int)) (U : List (Int × Int)) (π : Int → Option Int) (G P : List (Option Int)) : Prop where
  gl : G.length = 2 * o.length + 2
  pl : P.length = 2 * o.length + 2
  st : gv G (2 * (o.length : Int)) = some 0
  up : ∀ v x, gv G v = some x → ∃ y, π v = some y ∧ x ≤ y
  tree : ∀ v x, gv G v = some x → v ≠ 2 * (o.length : Int) → ∃ u g y, gv P v = some u ∧ Arc o U u v g ∧ gv G u = some y ∧ x ≤ y + g
  rt : ∀ v x, gv G v = some x → ∃ k, Rt (gv P) (2 * (o.length : Int)) k v
  lo : ∀ v x, gv G v = some x → 1 - (wt isS G : Int) ≤ x
theorem BF.relax {o : List (List Int)} (h : IsOrd o) (hl : o.length ≤ 14) {U : List (Int × Int)} {π : Int → Option Int} {G P : List (Option Int)} (B : BF o U π G P) (hp : Pot o U π) {a b g x : Int} (ar : Arc o U a b g) (ea : gv G a = some x) (eb : gv G b = none ∨ ∃ y, gv G b = some y ∧ y < x + g) :
    BF o U π (G.set b.toNat (some (x + g))) (P.set b.toNat (some a)) ∧ wt hgt G < wt hgt (G.set b.toNat (some (x + g))) := by
  have r := ar.rng h
  have hG : b < G.length := by rw [B.gl]; omega
  have hP : b < P.length := by rw [B.pl]; omega
  have sG : ∀ v, gv (G.set b.toNat (some (x + g))) v = if v = b then some (x + g) else gv G v := gv_set r.2.2.1 hG
  have sP : ∀ v, gv (P.set b.toNat (some a)) v = if v = b then some a else gv P v := gv_set r.2.2.1 hP
  obtain ⟨y1, ey1, hy1⟩ := B.up a x ea
  obtain ⟨y2, ey2, hy2⟩ := hp.2 a b g y1 ar ey1
  have nb : b ≠ 2 * (o.length : Int) := fun e => by
    subst e
    rw [B.st] at eb
    rw [hp.1] at ey2
    cases ey2
    rcases eb with z | ⟨y, z, hz⟩
    · cases z
    · cases z; omega
  have w1 := wt_set isS (a := some (x + g)) (gv_at r.2.2.1 hG)
  have w2 := wt_set hgt (a := some (x + g)) (gv_at r.2.2.1 hG)
  have hx := B.lo a x ea
  have cle : wt isS G ≤ wt isS (G.set b.toNat (some (x + g))) := by
    rcases eb with z | ⟨y, z, hz⟩ <;> rw [z] at w1 <;> simp only [isS] at w1 <;> omega
  have key : ∀ k w, Rt (gv P) (2 * (o.length : Int)) k w → ∀ xw yw, gv G w = some xw → π w = some yw → yw - xw ≤ y1 - x → ∃ k', Rt (gv (P.set b.toNat (some a))) (2 * (o.length : Int)) k' w := by
    intro k w hr
    induction hr with
    | base => exact fun _ _ _ _ _ => ⟨0, .base⟩
    | @step w u k hw ew hr ih =>
      intro xw yw e1 e2 hd
      have nwb : w ≠ b := fun e => by
        subst e
        rw [ey2] at e2
        cases e2
        rcases eb with z | ⟨y, z, hz⟩
        · rw [z] at e1; cases e1
        · rw [z] at e1; cases e1; omega
      obtain ⟨u', g', y', f1, f2, f3, f4⟩ := B.tree w xw e1 hw
      rw [ew] at f1
      cases f1
      obtain ⟨yu, q1, q2⟩ := B.up u y' f3
      obtain ⟨yw', q3, q4⟩ := hp.2 u w g' yu f2 q1
      rw [e2] at q3
      cases q3
      obtain ⟨k', hk'⟩ := ih y' yu f3 q1 (by omega)
      exact ⟨k' + 1, .step hw (by rw [sP, if_neg nwb]; exact ew) hk'⟩
  obtain ⟨ka, hka⟩ := B.rt a x ea
  obtain ⟨ka', hka'⟩ := key ka a hka x y1 ea ey1 (Int.le_refl _)
  have hb' : Rt (gv (P.set b.toNat (some a))) (2 * (o.length : Int)) (ka' + 1) b := .step nb (by rw [sP, if_pos rfl]) hka'
  have all : ∀ k w, Rt (gv P) (2 * (o.length : Int)) k w → ∃ k', Rt (gv (P.set b.toNat (some a))) (2 * (o.length : Int)) k' w := by
    intro k w hr
    induction hr with
    | base => exact ⟨0, .base⟩
    | @step w u k hw ew hr ih =>
      by_cases e : w = b
      · subst e; exact ⟨_, hb'⟩
      · obtain ⟨k', hk'⟩ := ih
        exact ⟨k' + 1, .step hw (by rw [sP, if_neg e]; exact ew) hk'⟩
  refine ⟨⟨by rw [List.length_set]; exact B.gl, by rw [List.length_set]; exact B.pl, by rw [sG, if_neg (fun e => nb e.symm)]; exact B.st, fun v z ez => ?_, fun v z ez hv => ?_, fun v z ez => ?_, fun v z ez => ?_⟩, ?_⟩
  · rw [sG] at ez
    split at ez
    · rename_i e
      cases ez
      subst e
      exact ⟨y2, ey2, by omega⟩
    · exact B.up v z ez
  · rw [sG] at ez
    split at ez
    · rename_i e
      cases ez
      subst e
      exact ⟨a, g, x, by rw [sP, if_pos rfl], ar, by rw [sG, if_neg r.2.2.2.2.1]; exact ea, Int.le_refl _⟩
    · rename_i e
      obtain ⟨u, g', y, f1, f2, f3, f4⟩ := B.tree v z ez hv
      by_cases eu : u = b
      · subst eu
        refine ⟨u, g', x + g, by rw [sP, if_neg e]; exact f1, f2, by rw [sG, if_pos rfl], ?_⟩
        rcases eb with q | ⟨y', q, hq⟩
        · rw [q] at f3; cases f3
        · rw [q] at f3; cases f3; omega
      · exact ⟨u, g', y, by rw [sP, if_neg e]; exact f1, f2, by rw [sG, if_neg eu]; exact f3, f4⟩
  · rw [sG] at ez
    split at ez
    · rename_i e
      subst e
      exact ⟨_, hb'⟩
    · obtain ⟨k, hk⟩ := B.rt v z ez
      exact all k v hk
  · rw [sG] at ez
    split at ez
    · cases ez
      rcases eb with q | ⟨y, q, hq⟩
      · rw [q] at w1
        simp only [isS] at w1
        omega
      · have := B.lo b y q
        omega
    · have := B.lo v z ez
      omega
  · have hc : wt isS G ≤ G.length * 1 := wt_le fun a _ => by cases a <;> simp [isS]
    have hlen := B.gl
    rcases eb with q | ⟨y, q, hq⟩
    · rw [q] at w2
      have e1 : hgt none = 0 := rfl
      have e2 : hgt (some (x + g)) = (x + g + 31).toNat := rfl
      omega
    · rw [q] at w2
      have hy := B.lo b y q
      have e1 : hgt (some y) = (y + 31).toNat := rfl
      have e2 : hgt (some (x + g)) = (x + g + 31).toNat := rfl
      omega
theorem start_ok {o : List (List Int)} : m_start_of (o, ()) = .ok (2 * (o.length : Int)) := by
  refine val_eq ?_
  simp only [m_start_of, b_start_of, val_ok, val_er, val_bind, val_up, val_mute, val_ite, opt_some, opt_none, opt_ite, val_e0, val_eV, val_e1, val_e2, val_e3, val_eIf, val_eAnd, val_eOr, val_lift, val_eNil, val_eCons, val_eLst, val_ePair, val_eEnum, val_eZip, val_eRev, val_oNone, val_oSome, val_eCut, val_aNil, val_aCons, val_eCall, val_eLc, wp_nx, wp_rt, wp_bk, wp_ct, wp_bind, wp_seq, wp_set, wp_if, wp_ret, wp_drop, wp_nil, wp_fbk, wp_fct, wp_mut1, wp_for, val_runR, opt_add, opt_sub, opt_neg, opt_lt, opt_le, opt_gt, opt_ge, opt_eqS, opt_neS, opt_eqD, opt_neD, opt_in, opt_nin, opt_len, opt_lenScr, opt_abs, opt_max2, opt_min2, opt_sum, opt_sort, opt_intB, opt_maxC, opt_minC, val_pV, val_pIx, wp_mutP, wp_putP, wq_nx, wq_rt, wq_bk, wq_ct, wq_bind, wq_seq, wq_set, wq_if, wq_ret, wq_drop, wq_nil, wq_fbk, wq_fct, wq_mut1, wq_for, val_E1, val_E2, val_iNil, val_iBy, val_iIo, val_eCallI, val_tAnd2, val_tOr2, val_tNot2, val_eTpl, wp_stuck, wq_stuck, wp_unp, wq_unp, wp_for2, wq_for2, wp_ins, wq_ins, wp_mut0, wq_mut0, wq_mutP, wq_putP, wp_augP, wq_augP, wp_put2, wq_put2, val_runI, val_runIU, opt_isBB, opt_isnBB, opt_ixTp, opt_sortR, opt_sortP, val_runRU, val_ePop, wp_dput, wq_dput, opt_inD, opt_ninD, opt_lenD, opt_getDo, opt_and, val_eDget, val_eIxO, opt_isNo, opt_isSo, opt_unO, opt_toO, numF_id, wq_forO, wp_forO, val_eCutS, val_eTl, val_eCut2, val_eCallX, wp_raise, opt_cnt, opt_allB, opt_scI, opt_scB, opt_scS, opt_scN, opt_lsY, opt_toI, opt_inQz, opt_inQq, opt_toZ, opt_keysZ, wp_dputQ, wp_dpopQ, wp_dcopy]
  rw [opt_mulE (.inl (by decide))]
theorem end_ok {o : List (List Int)} : m_end_of (o, ()) = .ok (2 * (o.length : Int) + 1) := by
  refine val_eq ?_
  simp only [m_end_of, b_end_of, val_ok, val_er, val_bind, val_up, val_mute, val_ite, opt_some, opt_none, opt_ite, val_e0, val_eV, val_e1, val_e2, val_e3, val_eIf, val_eAnd, val_eOr, val_lift, val_eNil, val_eCons, val_eLst, val_ePair, val_eEnum, val_eZip, val_eRev, val_oNone, val_oSome, val_eCut, val_aNil, val_aCons, val_eCall, val_eLc, wp_nx, wp_rt, wp_bk, wp_ct, wp_bind, wp_seq, wp_set, wp_if, wp_ret, wp_drop, wp_nil, wp_fbk, wp_fct, wp_mut1, wp_for, val_runR, opt_add, opt_sub, opt_neg, opt_lt, opt_le, opt_gt, opt_ge, opt_eqS, opt_neS, opt_eqD, opt_neD, opt_in, opt_nin, opt_len, opt_lenScr, opt_abs, opt_max2, opt_min2, opt_sum, opt_sort, opt_intB, opt_maxC, opt_minC, val_pV, val_pIx, wp_mutP, wp_putP, wq_nx, wq_rt, wq_bk, wq_ct, wq_bind, wq_seq, wq_set, wq_if, wq_ret, wq_drop, wq_nil, wq_fbk, wq_fct, wq_mut1, wq_for, val_E1, val_E2, val_iNil, val_iBy, val_iIo, val_eCallI, val_tAnd2, val_tOr2, val_tNot2, val_eTpl, wp_stuck, wq_stuck, wp_unp, wq_unp, wp_for2, wq_for2, wp_ins, wq_ins, wp_mut0, wq_mut0, wq_mutP, wq_putP, wp_augP, wq_augP, wp_put2, wq_put2, val_runI, val_runIU, opt_isBB, opt_isnBB, opt_ixTp, opt_sortR, opt_sortP, val_runRU, val_ePop, wp_dput, wq_dput, opt_inD, opt_ninD, opt_lenD, opt_getDo, opt_and, val_eDget, val_eIxO, opt_isNo, opt_isSo, opt_unO, opt_toO, numF_id, wq_forO, wp_forO, val_eCutS, val_eTl, val_eCut2, val_eCallX, wp_raise, opt_cnt, opt_allB, opt_scI, opt_scB, opt_scS, opt_scN, opt_lsY, opt_toI, opt_inQz, opt_inQq, opt_toZ, opt_keysZ, wp_dputQ, wp_dpopQ, wp_dcopy]
  rw [opt_mulE (.inl (by decide))]
theorem plain_ok {o : List (List Int)} (h : IsOrd o) (hl : o.length ≤ 14) : val (m_plain_arcs (o, ())) fun l => (∀ a b, (a, b) ∈ l ↔ PA o a b) ∧ l.length ≤ 300 := by
  simp only [m_plain_arcs, b_plain_arcs, val_runR]
  refine wp_step (fun r => r.v_order = o ∧ r.v_found = []) (by simp only [val_ok, val_er, val_bind, val_up, val_mute, val_ite, opt_some, opt_none, opt_ite, val_e0, val_eV, val_e1, val_e2, val_e3, val_eIf, val_eAnd, val_eOr, val_lift, val_eNil, val_eCons, val_eLst, val_ePair, val_eEnum, val_eZip, val_eRev, val_oNone, val_oSome, val_eCut, val_aNil, val_aCons, val_eCall, val_eLc, wp_nx, wp_rt, wp_bk, wp_ct, wp_bind, wp_seq, wp_set, wp_if, wp_ret, wp_drop, wp_nil, wp_fbk, wp_fct, wp_mut1, wp_for, val_runR, opt_add, opt_sub, opt_neg, opt_lt, opt_le, opt_gt, opt_ge, opt_eqS, opt_neS, opt_eqD, opt_neD, opt_in, opt_nin, opt_len, opt_lenScr, opt_abs, opt_max2, opt_min2, opt_sum, opt_sort, opt_intB, opt_maxC, opt_minC, val_pV, val_pIx, wp_mutP, wp_putP, wq_nx, wq_rt, wq_bk, wq_ct, wq_bind, wq_seq, wq_set, wq_if, wq_ret, wq_drop, wq_nil, wq_fbk, wq_fct, wq_mut1, wq_for, val_E1, val_E2, val_iNil, val_iBy, val_iIo, val_eCallI, val_tAnd2, val_tOr2, val_tNot2, val_eTpl, wp_stuck, wq_stuck, wp_unp, wq_unp, wp_for2, wq_for2, wp_ins, wq_ins, wp_mut0, wq_mut0, wq_mutP, wq_putP, wp_augP, wq_augP, wp_put2, wq_put2, val_runI, val_runIU, opt_isBB, opt_isnBB, opt_ixTp, opt_sortR, opt_sortP, val_runRU, val_ePop, wp_dput, wq_dput, opt_inD, opt_ninD, opt_lenD, opt_getDo, opt_and, val_eDget, val_eIxO, opt_isNo, opt_isSo, opt_unO, opt_toO, numF_id, wq_forO, wp_forO, val_eCutS, val_eTl, val_eCut2, val_eCallX, wp_raise, opt_cnt, opt_allB, opt_scI, opt_scB, opt_scS, opt_scN, opt_lsY, opt_toI, opt_inQz, opt_inQq, opt_toZ, opt_keysZ, wp_dputQ, wp_dpopQ, wp_dcopy]; exact ⟨by trivial, by trivial⟩) fun r ⟨a1, a2⟩ => ?_
  refine wp_step (fun r => (∀ a b, (a, b) ∈ r.v_found ↔ PA o a b) ∧ r.v_found.length ≤ 300) ?_ fun r h => by simp only [val_ok, val_er, val_bind, val_up, val_mute, val_ite, opt_some, opt_none, opt_ite, val_e0, val_eV, val_e1, val_e2, val_e3, val_eIf, val_eAnd, val_eOr, val_lift, val_eNil, val_eCons, val_eLst, val_ePair, val_eEnum, val_eZip, val_eRev, val_oNone, val_oSome, val_eCut, val_aNil, val_aCons, val_eCall, val_eLc, wp_nx, wp_rt, wp_bk, wp_ct, wp_bind, wp_seq, wp_set, wp_if, wp_ret, wp_drop, wp_nil, wp_fbk, wp_fct, wp_mut1, wp_for, val_runR, opt_add, opt_sub, opt_neg, opt_lt, opt_le, opt_gt, opt_ge, opt_eqS, opt_neS, opt_eqD, opt_neD, opt_in, opt_nin, opt_len, opt_lenScr, opt_abs, opt_max2, opt_min2, opt_sum, opt_sort, opt_intB, opt_maxC, opt_minC, val_pV, val_pIx, wp_mutP, wp_putP, wq_nx, wq_rt, wq_bk, wq_ct, wq_bind, wq_seq, wq_set, wq_if, wq_ret, wq_drop, wq_nil, wq_fbk, wq_fct, wq_mut1, wq_for, val_E1, val_E2, val_iNil, val_iBy, val_iIo, val_eCallI, val_tAnd2, val_tOr2, val_tNot2, val_eTpl, wp_stuck, wq_stuck, wp_unp, wq_unp, wp_for2, wq_for2, wp_ins, wq_ins, wp_mut0, wq_mut0, wq_mutP, wq_putP, wp_augP, wq_augP, wp_put2, wq_put2, val_runI, val_runIU, opt_isBB, opt_isnBB, opt_ixTp, opt_sortR, opt_sortP, val_runRU, val_ePop, wp_dput, wq_dput, opt_inD, opt_ninD, opt_lenD, opt_getDo, opt_and, val_eDget, val_eIxO, opt_isNo, opt_isSo, opt_unO, opt_toO, numF_id, wq_forO, wp_forO, val_eCutS, val_eTl, val_eCut2, val_eCallX, wp_raise, opt_cnt, opt_allB, opt_scI, opt_scB, opt_scS, opt_scN, opt_lsY, opt_toI, opt_inQz, opt_inQq, opt_toZ, opt_keysZ, wp_dputQ, wp_dpopQ, wp_dcopy]; exact h
  simp only [wp_for, val_eEnum, val_eV, a1]
  refine wp_loop (fun i r => r.v_order = o ∧ r.v_found.length ≤ i * 16 ∧ ∀ a b, (a, b) ∈ r.v_found ↔ ((a = 2 * (o.length : Int) ∧ ∃ t : Int, 0 ≤ t ∧ t < i ∧ b = 2 * t) ∨ (b = 2 * (o.length : Int) + 1 ∧ ∃ t : Int, 0 ≤ t ∧ t < i ∧ a = 2 * t + 1) ∨ ∃ (j : Nat) (row : List Int) (low : Int), j < i ∧ o[j]? = some row ∧ low ∈ row ∧ a = 2 * low + 1 ∧ b = 2 * (j : Int))) ⟨a1, by rw [a2]; exact Nat.zero_le _, fun a b => ?_⟩ (fun i b r e ⟨b1, b2, b3⟩ => ?_) (fun r ⟨b1, b2, b3⟩ => ⟨fun a b => ?_, ?_⟩)
  · rw [a2]
    constructor
    · intro h; cases h
    · rintro (⟨_, t, h1, h2, _⟩ | ⟨_, t, h1, h2, _⟩ | ⟨j, _, _, h1, _⟩) <;> omega
  · rw [enumF_get] at e
    obtain ⟨row, er, e⟩ := Option.map_eq_some_iff.mp e
    subst e
    have hi := (List.getElem?_eq_some_iff.mp er).1
    have hfew := h.few er
    simp only [val_ok, val_er, val_bind, val_up, val_mute, val_ite, opt_some, opt_none, opt_ite, val_e0, val_eV, val_e1, val_e2, val_e3, val_eIf, val_eAnd, val_eOr, val_lift, val_eNil, val_eCons, val_eLst, val_ePair, val_eEnum, val_eZip, val_eRev, val_oNone, val_oSome, val_eCut, val_aNil, val_aCons, val_eCall, val_eLc, wp_nx, wp_rt, wp_bk, wp_ct, wp_bind, wp_seq, wp_set, wp_if, wp_ret, wp_drop, wp_nil, wp_fbk, wp_fct, wp_mut1, wp_for, val_runR, opt_add, opt_sub, opt_neg, opt_lt, opt_le, opt_gt, opt_ge, opt_eqS, opt_neS, opt_eqD, opt_neD, opt_in, opt_nin, opt_len, opt_lenScr, opt_abs, opt_max2, opt_min2, opt_sum, opt_sort, opt_intB, opt_maxC, opt_minC, val_pV, val_pIx, wp_mutP, wp_putP, wq_nx, wq_rt, wq_bk, wq_ct, wq_bind, wq_seq, wq_set, wq_if, wq_ret, wq_drop, wq_nil, wq_fbk, wq_fct, wq_mut1, wq_for, val_E1, val_E2, val_iNil, val_iBy, val_iIo, val_eCallI, val_tAnd2, val_tOr2, val_tNot2, val_eTpl, wp_stuck, wq_stuck, wp_unp, wq_unp, wp_for2, wq_for2, wp_ins, wq_ins, wp_mut0, wq_mut0, wq_mutP, wq_putP, wp_augP, wq_augP, wp_put2, wq_put2, val_runI, val_runIU, opt_isBB, opt_isnBB, opt_ixTp, opt_sortR, opt_sortP, val_runRU, val_ePop, wp_dput, wq_dput, opt_inD, opt_ninD, opt_lenD, opt_getDo, opt_and, val_eDget, val_eIxO, opt_isNo, opt_isSo, opt_unO, opt_toO, numF_id, wq_forO, wp_forO, val_eCutS, val_eTl, val_eCut2, val_eCallX, wp_raise, opt_cnt, opt_allB, opt_scI, opt_scB, opt_scS, opt_scN, opt_lsY, opt_toI, opt_inQz, opt_inQq, opt_toZ, opt_keysZ, wp_dputQ, wp_dpopQ, wp_dcopy, b1, start_ok, end_ok]
    rw [opt_mulE (.inl (by decide)), opt_appE (by omega), opt_mulE (.inl (by decide)), opt_appE (by simp; omega)]
    refine wp_loop (fun k r2 => r2.v_order = o ∧ r2.v_thing = 0 + (i : Int) ∧ r2.v_found.length ≤ i * 16 + 2 + k ∧ ∀ a b, (a, b) ∈ r2.v_found ↔ ((a, b) ∈ r.v_found ∨ (a = 2 * (o.length : Int) ∧ b = 2 * (i : Int)) ∨ (a = 2 * (i : Int) + 1 ∧ b = 2 * (o.length : Int) + 1) ∨ ∃ low, low ∈ row.take k ∧ a = 2 * low + 1 ∧ b = 2 * (i : Int))) ⟨by trivial, by trivial, by simp; omega, fun a b => ?_⟩ (fun k low r2 e2 ⟨c1, c2, c3, c4⟩ => ?_) (fun r2 ⟨c1, c2, c3, c4⟩ => ⟨c1, by omega, fun a b => ?_⟩)
    · simp only [List.mem_append, List.mem_singleton, Prod.mk.injEq, List.take_zero, List.not_mem_nil, false_and, exists_false, or_false]
      rw [Int.zero_add]
      constructor
      · rintro ((h | h) | h)
        · exact .inl h
        · exact .inr (.inl h)
        · exact .inr (.inr h)
      · rintro (h | h | h)
        · exact .inl (.inl h)
        · exact .inl (.inr h)
        · exact .inr h
    · have hk := (List.getElem?_eq_some_iff.mp e2).1
      simp only [val_ok, val_er, val_bind, val_up, val_mute, val_ite, opt_some, opt_none, opt_ite, val_e0, val_eV, val_e1, val_e2, val_e3, val_eIf, val_eAnd, val_eOr, val_lift, val_eNil, val_eCons, val_eLst, val_ePair, val_eEnum, val_eZip, val_eRev, val_oNone, val_oSome, val_eCut, val_aNil, val_aCons, val_eCall, val_eLc, wp_nx, wp_rt, wp_bk, wp_ct, wp_bind, wp_seq, wp_set, wp_if, wp_ret, wp_drop, wp_nil, wp_fbk, wp_fct, wp_mut1, wp_for, val_runR, opt_add, opt_sub, opt_neg, opt_lt, opt_le, opt_gt, opt_ge, opt_eqS, opt_neS, opt_eqD, opt_neD, opt_in, opt_nin, opt_len, opt_lenScr, opt_abs, opt_max2, opt_min2, opt_sum, opt_sort, opt_intB, opt_maxC, opt_minC, val_pV, val_pIx, wp_mutP, wp_putP, wq_nx, wq_rt, wq_bk, wq_ct, wq_bind, wq_seq, wq_set, wq_if, wq_ret, wq_drop, wq_nil, wq_fbk, wq_fct, wq_mut1, wq_for, val_E1, val_E2, val_iNil, val_iBy, val_iIo, val_eCallI, val_tAnd2, val_tOr2, val_tNot2, val_eTpl, wp_stuck, wq_stuck, wp_unp, wq_unp, wp_for2, wq_for2, wp_ins, wq_ins, wp_mut0, wq_mut0, wq_mutP, wq_putP, wp_augP, wq_augP, wp_put2, wq_put2, val_runI, val_runIU, opt_isBB, opt_isnBB, opt_ixTp, opt_sortR, opt_sortP, val_runRU, val_ePop, wp_dput, wq_dput, opt_inD, opt_ninD, opt_lenD, opt_getDo, opt_and, val_eDget, val_eIxO, opt_isNo, opt_isSo, opt_unO, opt_toO, numF_id, wq_forO, wp_forO, val_eCutS, val_eTl, val_eCut2, val_eCallX, wp_raise, opt_cnt, opt_allB, opt_scI, opt_scB, opt_scS, opt_scN, opt_lsY, opt_toI, opt_inQz, opt_inQq, opt_toZ, opt_keysZ, wp_dputQ, wp_dpopQ, wp_dcopy, c2]
      rw [opt_mulE (.inl (by decide)), opt_mulE (.inl (by decide)), opt_appE (by omega)]
      refine ⟨c1, by trivial, by simp; omega, fun a b => ?_⟩
      rw [List.mem_append, c4, take_next e2]
      simp only [List.mem_append, List.mem_singleton, Prod.mk.injEq]
      rw [Int.zero_add]
      constructor
      · rintro ((h | h | h | ⟨l, hl, h⟩) | h)
        · exact .inl h
        · exact .inr (.inl h)
        · exact .inr (.inr (.inl h))
        · exact .inr (.inr (.inr ⟨l, .inl hl, h⟩))
        · exact .inr (.inr (.inr ⟨low, .inr rfl, h⟩))
      · rintro (h | h | h | ⟨l, hl | hl, h⟩)
        · exact .inl (.inl h)
        · exact .inl (.inr (.inl h))
        · exact .inl (.inr (.inr (.inl h)))
        · exact .inl (.inr (.inr (.inr ⟨l, hl, h⟩)))
        · subst hl
          exact .inr h
    · rw [c4, b3, List.take_length]
      constructor
      · rintro ((⟨e1, t, h1, h2, e3⟩ | ⟨e1, t, h1, h2, e3⟩ | ⟨j, rw1, lw, h1, h2, h3⟩) | ⟨e1, e3⟩ | ⟨e1, e3⟩ | ⟨lw, h1, h2⟩)
        · exact .inl ⟨e1, t, h1, by omega, e3⟩
        · exact .inr (.inl ⟨e1, t, h1, by omega, e3⟩)
        · exact .inr (.inr ⟨j, rw1, lw, by omega, h2, h3⟩)
        · exact .inl ⟨e1, i, by omega, by omega, e3⟩
        · exact .inr (.inl ⟨e3, i, by omega, by omega, e1⟩)
        · exact .inr (.inr ⟨i, row, lw, by omega, er, h1, h2⟩)
      · rintro (⟨e1, t, h1, h2, e3⟩ | ⟨e1, t, h1, h2, e3⟩ | ⟨j, rw1, lw, h1, h2, h3⟩)
        · by_cases q : t = (i : Int)
          · subst q
            exact .inr (.inl ⟨e1, e3⟩)
          · exact .inl (.inl ⟨e1, t, h1, by omega, e3⟩)
        · by_cases q : t = (i : Int)
          · subst q
            exact .inr (.inr (.inl ⟨e3, e1⟩))
          · exact .inl (.inr (.inl ⟨e1, t, h1, by omega, e3⟩))
        · by_cases q : j = i
          · subst q
            rw [er] at h2
            cases h2
            exact .inr (.inr (.inr ⟨lw, h3⟩))
          · exact .inl (.inr (.inr ⟨j, rw1, lw, by omega, h2, h3⟩))
  · rw [enumF_len] at b3
    rw [b3]
    unfold PA
    constructor
    · rintro (h | h | ⟨j, rw1, lw, _, h2⟩)
      · exact .inl h
      · exact .inr (.inl h)
      · exact .inr (.inr ⟨j, rw1, lw, h2⟩)
    · rintro (h | h | ⟨j, rw1, lw, h2, h3⟩)
      · exact .inl h
      · exact .inr (.inl h)
      · exact .inr (.inr ⟨j, rw1, lw, (List.getElem?_eq_some_iff.mp h2).1, h2, h3⟩)
  · rw [enumF_len] at b2
    omega
def triT (x : Int × Int × Int) : Tp Int := ⟨[x.1, x.2.1, x.2.2]⟩
theorem opt_triL' {m : List (Int × Int × Int)} {Q : List (Int × Int × Int) → Prop} : opt (triL (m.map triT)) Q = Q m := opt_triL
theorem open_ok {o : List (List Int)} {U : List (Int × Int)} (h : IsOrd o) (hl : o.length ≤ 14) : val (m_open_arcs (o, ⟨U⟩, ())) fun l => ∃ m : List (Int × Int × Int), l = m.map triT ∧ ∀ a b g, (a, b, g) ∈ m ↔ Arc o U a b g := by
  obtain ⟨pl, ep, hp, hpl⟩ := val_ex (plain_ok h hl)
  simp only [m_open_arcs, b_open_arcs, val_runR]
  refine wp_step (fun r => r.v_order = o ∧ r.v_used = ⟨U⟩ ∧ r.v_found = []) (by simp only [val_ok, val_er, val_bind, val_up, val_mute, val_ite, opt_some, opt_none, opt_ite, val_e0, val_eV, val_e1, val_e2, val_e3, val_eIf, val_eAnd, val_eOr, val_lift, val_eNil, val_eCons, val_eLst, val_ePair, val_eEnum, val_eZip, val_eRev, val_oNone, val_oSome, val_eCut, val_aNil, val_aCons, val_eCall, val_eLc, wp_nx, wp_rt, wp_bk, wp_ct, wp_bind, wp_seq, wp_set, wp_if, wp_ret, wp_drop, wp_nil, wp_fbk, wp_fct, wp_mut1, wp_for, val_runR, opt_add, opt_sub, opt_neg, opt_lt, opt_le, opt_gt, opt_ge, opt_eqS, opt_neS, opt_eqD, opt_neD, opt_in, opt_nin, opt_len, opt_lenScr, opt_abs, opt_max2, opt_min2, opt_sum, opt_sort, opt_intB, opt_maxC, opt_minC, val_pV, val_pIx, wp_mutP, wp_putP, wq_nx, wq_rt, wq_bk, wq_ct, wq_bind, wq_seq, wq_set, wq_if, wq_ret, wq_drop, wq_nil, wq_fbk, wq_fct, wq_mut1, wq_for, val_E1, val_E2, val_iNil, val_iBy, val_iIo, val_eCallI, val_tAnd2, val_tOr2, val_tNot2, val_eTpl, wp_stuck, wq_stuck, wp_unp, wq_unp, wp_for2, wq_for2, wp_ins, wq_ins, wp_mut0, wq_mut0, wq_mutP, wq_putP, wp_augP, wq_augP, wp_put2, wq_put2, val_runI, val_runIU, opt_isBB, opt_isnBB, opt_ixTp, opt_sortR, opt_sortP, val_runRU, val_ePop, wp_dput, wq_dput, opt_inD, opt_ninD, opt_lenD, opt_getDo, opt_and, val_eDget, val_eIxO, opt_isNo, opt_isSo, opt_unO, opt_toO, numF_id, wq_forO, wp_forO, val_eCutS, val_eTl, val_eCut2, val_eCallX, wp_raise, opt_cnt, opt_allB, opt_scI, opt_scB, opt_scS, opt_scN, opt_lsY, opt_toI, opt_inQz, opt_inQq, opt_toZ, opt_keysZ, wp_dputQ, wp_dpopQ, wp_dcopy]; exact ⟨by trivial, by trivial, by trivial⟩) fun r ⟨a1, a2, a3⟩ => ?_
  refine wp_step (fun r => r.v_order = o ∧ r.v_used = ⟨U⟩ ∧ ∃ m : List (Int × Int × Int), r.v_found = m.map triT ∧ m.length ≤ 600 ∧ ∀ a b g, (a, b, g) ∈ m ↔ ((PA o a b ∧ g = 0) ∨ (PA o b a ∧ (b, a) ∈ U ∧ g = 0))) ?_ fun r ⟨a1, a2, m0, a3, a4, a5⟩ => ?_
  · simp only [wp_for, val_eCall, val_aCons, val_aNil, val_eV, a1, ep, val_ok]
    refine wp_loop (fun i r => r.v_order = o ∧ r.v_used = ⟨U⟩ ∧ ∃ m : List (Int × Int × Int), r.v_found = m.map triT ∧ m.length ≤ 2 * i ∧ ∀ a b g, (a, b, g) ∈ m ↔ (((a, b) ∈ pl.take i ∧ g = 0) ∨ ((b, a) ∈ pl.take i ∧ (b, a) ∈ U ∧ g = 0))) ⟨by first | trivial | exact a1, a2, [], a3, Nat.zero_le _, fun a b g => by simp⟩ (fun i q r e ⟨b1, b2, m, b3, b4, b5⟩ => ?_) (fun r ⟨b1, b2, m, b3, b4, b5⟩ => ⟨b1, b2, m, b3, by omega, fun a b g => by rw [b5, List.take_length, hp, hp]⟩)
    have hi := (List.getElem?_eq_some_iff.mp e).1
    obtain ⟨qa, qb⟩ := q
    have step1 : ∀ a b g, (a, b, g) ∈ m ++ [(qa, qb, (0 : Int))] ↔ (((a, b) ∈ pl.take (i + 1) ∧ g = 0) ∨ ((b, a) ∈ pl.take i ∧ (b, a) ∈ U ∧ g = 0)) := fun a b g => by
      rw [List.mem_append, b5, take_next e]
      simp only [List.mem_append, List.mem_singleton, Prod.mk.injEq]
      constructor
      · rintro ((⟨h1, h2⟩ | h) | ⟨h1, h2, h3⟩)
        · exact .inl ⟨.inl h1, h2⟩
        · exact .inr h
        · exact .inl ⟨.inr ⟨h1, h2⟩, h3⟩
      · rintro (⟨h1 | ⟨h1, h3⟩, h2⟩ | h)
        · exact .inl (.inl ⟨h1, h2⟩)
        · exact .inr ⟨h1, h3, h2⟩
        · exact .inl (.inr h)
    simp only [val_ok, val_er, val_bind, val_up, val_mute, val_ite, opt_some, opt_none, opt_ite, val_e0, val_eV, val_e1, val_e2, val_e3, val_eIf, val_eAnd, val_eOr, val_lift, val_eNil, val_eCons, val_eLst, val_ePair, val_eEnum, val_eZip, val_eRev, val_oNone, val_oSome, val_eCut, val_aNil, val_aCons, val_eCall, val_eLc, wp_nx, wp_rt, wp_bk, wp_ct, wp_bind, wp_seq, wp_set, wp_if, wp_ret, wp_drop, wp_nil, wp_fbk, wp_fct, wp_mut1, wp_for, val_runR, opt_add, opt_sub, opt_neg, opt_lt, opt_le, opt_gt, opt_ge, opt_eqS, opt_neS, opt_eqD, opt_neD, opt_in, opt_nin, opt_len, opt_lenScr, opt_abs, opt_max2, opt_min2, opt_sum, opt_sort, opt_intB, opt_maxC, opt_minC, val_pV, val_pIx, wp_mutP, wp_putP, wq_nx, wq_rt, wq_bk, wq_ct, wq_bind, wq_seq, wq_set, wq_if, wq_ret, wq_drop, wq_nil, wq_fbk, wq_fct, wq_mut1, wq_for, val_E1, val_E2, val_iNil, val_iBy, val_iIo, val_eCallI, val_tAnd2, val_tOr2, val_tNot2, val_eTpl, wp_stuck, wq_stuck, wp_unp, wq_unp, wp_for2, wq_for2, wp_ins, wq_ins, wp_mut0, wq_mut0, wq_mutP, wq_putP, wp_augP, wq_augP, wp_put2, wq_put2, val_runI, val_runIU, opt_isBB, opt_isnBB, opt_ixTp, opt_sortR, opt_sortP, val_runRU, val_ePop, wp_dput, wq_dput, opt_inD, opt_ninD, opt_lenD, opt_getDo, opt_and, val_eDget, val_eIxO, opt_isNo, opt_isSo, opt_unO, opt_toO, numF_id, wq_forO, wp_forO, val_eCutS, val_eTl, val_eCut2, val_eCallX, wp_raise, opt_cnt, opt_allB, opt_scI, opt_scB, opt_scS, opt_scN, opt_lsY, opt_toI, opt_inQz, opt_inQq, opt_toZ, opt_keysZ, wp_dputQ, wp_dpopQ, wp_dcopy, b2]
    rw [if_pos (by show 3 ≤ 2 ^ 24; decide), opt_appE (by rw [b3, List.length_map]; omega)]
    by_cases mem : (qa, qb) ∈ U
    · rw [if_pos (decide_eq_true mem), if_pos (by show 3 ≤ 2 ^ 24; decide), opt_appE (by rw [b3]; simp; omega)]
      refine ⟨b1, by trivial, (m ++ [(qa, qb, 0)]) ++ [(qb, qa, 0)], by rw [b3, List.map_append, List.map_append]; rfl, by simp; omega, fun a b g => ?_⟩
      rw [List.mem_append, step1, take_next e]
      simp only [List.mem_append, List.mem_singleton, Prod.mk.injEq]
      constructor
      · rintro ((h | ⟨h1, h2, h3⟩) | ⟨h1, h2, h3⟩)
        · exact .inl h
        · exact .inr ⟨.inl h1, h2, h3⟩
        · subst h1 h2
          exact .inr ⟨.inr ⟨rfl, rfl⟩, mem, h3⟩
      · rintro (h | ⟨h1 | ⟨h1, h4⟩, h2, h3⟩)
        · exact .inl (.inl h)
        · exact .inl (.inr ⟨h1, h2, h3⟩)
        · exact .inr ⟨h4, h1, h3⟩
    · rw [if_neg (by rw [decide_eq_false mem]; exact Bool.false_ne_true)]
      refine ⟨b1, by trivial, m ++ [(qa, qb, 0)], by rw [b3, List.map_append]; rfl, by simp; omega, fun a b g => ?_⟩
      rw [step1, take_next e]
      simp only [List.mem_append, List.mem_singleton, Prod.mk.injEq]
      constructor
      · rintro (h | ⟨h1, h2, h3⟩)
        · exact .inl h
        · exact .inr ⟨.inl h1, h2, h3⟩
      · rintro (h | ⟨h1 | ⟨h1, h4⟩, h2, h3⟩)
        · exact .inl h
        · exact .inr ⟨h1, h2, h3⟩
        · subst h1 h4
          exact absurd h2 mem
  refine wp_step (fun r => ∃ m : List (Int × Int × Int), r.v_found = m.map triT ∧ ∀ a b g, (a, b, g) ∈ m ↔ Arc o U a b g) ?_ fun r h => by simp only [val_ok, val_er, val_bind, val_up, val_mute, val_ite, opt_some, opt_none, opt_ite, val_e0, val_eV, val_e1, val_e2, val_e3, val_eIf, val_eAnd, val_eOr, val_lift, val_eNil, val_eCons, val_eLst, val_ePair, val_eEnum, val_eZip, val_eRev, val_oNone, val_oSome, val_eCut, val_aNil, val_aCons, val_eCall, val_eLc, wp_nx, wp_rt, wp_bk, wp_ct, wp_bind, wp_seq, wp_set, wp_if, wp_ret, wp_drop, wp_nil, wp_fbk, wp_fct, wp_mut1, wp_for, val_runR, opt_add, opt_sub, opt_neg, opt_lt, opt_le, opt_gt, opt_ge, opt_eqS, opt_neS, opt_eqD, opt_neD, opt_in, opt_nin, opt_len, opt_lenScr, opt_abs, opt_max2, opt_min2, opt_sum, opt_sort, opt_intB, opt_maxC, opt_minC, val_pV, val_pIx, wp_mutP, wp_putP, wq_nx, wq_rt, wq_bk, wq_ct, wq_bind, wq_seq, wq_set, wq_if, wq_ret, wq_drop, wq_nil, wq_fbk, wq_fct, wq_mut1, wq_for, val_E1, val_E2, val_iNil, val_iBy, val_iIo, val_eCallI, val_tAnd2, val_tOr2, val_tNot2, val_eTpl, wp_stuck, wq_stuck, wp_unp, wq_unp, wp_for2, wq_for2, wp_ins, wq_ins, wp_mut0, wq_mut0, wq_mutP, wq_putP, wp_augP, wq_augP, wp_put2, wq_put2, val_runI, val_runIU, opt_isBB, opt_isnBB, opt_ixTp, opt_sortR, opt_sortP, val_runRU, val_ePop, wp_dput, wq_dput, opt_inD, opt_ninD, opt_lenD, opt_getDo, opt_and, val_eDget, val_eIxO, opt_isNo, opt_isSo, opt_unO, opt_toO, numF_id, wq_forO, wp_forO, val_eCutS, val_eTl, val_eCut2, val_eCallX, wp_raise, opt_cnt, opt_allB, opt_scI, opt_scB, opt_scS, opt_scN, opt_lsY, opt_toI, opt_inQz, opt_inQq, opt_toZ, opt_keysZ, wp_dputQ, wp_dpopQ, wp_dcopy]; exact h
  simp only [wp_for, val_e1, val_eV, opt_len, a1]
  rw [opt_rng1 (by omega), Int.toNat_natCast]
  refine wp_loop (fun i r => r.v_order = o ∧ r.v_used = ⟨U⟩ ∧ ∃ m : List (Int × Int × Int), r.v_found = m.map triT ∧ m.length ≤ 600 + i ∧ ∀ a b g, (a, b, g) ∈ m ↔ ((PA o a b ∧ g = 0) ∨ (PA o b a ∧ (b, a) ∈ U ∧ g = 0) ∨ ∃ t : Int, 0 ≤ t ∧ t < i ∧ ((2 * t, 2 * t + 1) ∈ U ∧ a = 2 * t + 1 ∧ b = 2 * t ∧ g = -1 ∨ (2 * t, 2 * t + 1) ∉ U ∧ a = 2 * t ∧ b = 2 * t + 1 ∧ g = 1))) ⟨by first | trivial | exact a1, a2, m0, a3, by omega, fun a b g => ?_⟩ (fun i q r e ⟨b1, b2, m, b3, b4, b5⟩ => ?_) (fun r ⟨b1, b2, m, b3, b4, b5⟩ => ⟨m, b3, fun a b g => ?_⟩)
  · rw [a5]
    constructor
    · rintro (h | h)
      · exact .inl h
      · exact .inr (.inl h)
    · rintro (h | h | ⟨t, h1, h2, _⟩)
      · exact .inl h
      · exact .inr h
      · omega
  · have hi := (rng_at e).1
    have hv := (rng_at e).2
    subst hv
    simp only [val_ok, val_er, val_bind, val_up, val_mute, val_ite, opt_some, opt_none, opt_ite, val_e0, val_eV, val_e1, val_e2, val_e3, val_eIf, val_eAnd, val_eOr, val_lift, val_eNil, val_eCons, val_eLst, val_ePair, val_eEnum, val_eZip, val_eRev, val_oNone, val_oSome, val_eCut, val_aNil, val_aCons, val_eCall, val_eLc, wp_nx, wp_rt, wp_bk, wp_ct, wp_bind, wp_seq, wp_set, wp_if, wp_ret, wp_drop, wp_nil, wp_fbk, wp_fct, wp_mut1, wp_for, val_runR, opt_add, opt_sub, opt_neg, opt_lt, opt_le, opt_gt, opt_ge, opt_eqS, opt_neS, opt_eqD, opt_neD, opt_in, opt_nin, opt_len, opt_lenScr, opt_abs, opt_max2, opt_min2, opt_sum, opt_sort, opt_intB, opt_maxC, opt_minC, val_pV, val_pIx, wp_mutP, wp_putP, wq_nx, wq_rt, wq_bk, wq_ct, wq_bind, wq_seq, wq_set, wq_if, wq_ret, wq_drop, wq_nil, wq_fbk, wq_fct, wq_mut1, wq_for, val_E1, val_E2, val_iNil, val_iBy, val_iIo, val_eCallI, val_tAnd2, val_tOr2, val_tNot2, val_eTpl, wp_stuck, wq_stuck, wp_unp, wq_unp, wp_for2, wq_for2, wp_ins, wq_ins, wp_mut0, wq_mut0, wq_mutP, wq_putP, wp_augP, wq_augP, wp_put2, wq_put2, val_runI, val_runIU, opt_isBB, opt_isnBB, opt_ixTp, opt_sortR, opt_sortP, val_runRU, val_ePop, wp_dput, wq_dput, opt_inD, opt_ninD, opt_lenD, opt_getDo, opt_and, val_eDget, val_eIxO, opt_isNo, opt_isSo, opt_unO, opt_toO, numF_id, wq_forO, wp_forO, val_eCutS, val_eTl, val_eCut2, val_eCallX, wp_raise, opt_cnt, opt_allB, opt_scI, opt_scB, opt_scS, opt_scN, opt_lsY, opt_toI, opt_inQz, opt_inQq, opt_toZ, opt_keysZ, wp_dputQ, wp_dpopQ, wp_dcopy, b2]
    rw [opt_mulE (.inl (by decide)), opt_mulE (.inl (by decide))]
    by_cases mem : (2 * (i : Int), 2 * (i : Int) + 1) ∈ U
    · rw [if_pos (decide_eq_true mem), opt_mulE (.inl (by decide)), opt_mulE (.inl (by decide)), if_pos (by show 3 ≤ 2 ^ 24; decide), opt_appE (by rw [b3, List.length_map]; omega)]
      refine ⟨b1, by trivial, m ++ [(2 * (i : Int) + 1, 2 * (i : Int), -1)], by rw [b3, List.map_append]; rfl, by simp; omega, fun a b g => ?_⟩
      rw [List.mem_append, b5]
      simp only [List.mem_singleton, Prod.mk.injEq]
      constructor
      · rintro ((h | h | ⟨t, h1, h2, h3⟩) | h)
        · exact .inl h
        · exact .inr (.inl h)
        · exact .inr (.inr ⟨t, h1, by omega, h3⟩)
        · exact .inr (.inr ⟨i, by omega, by omega, .inl ⟨mem, h⟩⟩)
      · rintro (h | h | ⟨t, h1, h2, h3⟩)
        · exact .inl (.inl h)
        · exact .inl (.inr (.inl h))
        · by_cases q : t = (i : Int)
          · subst q
            rcases h3 with h3 | h3
            · exact .inr h3.2
            · exact absurd mem h3.1
          · exact .inl (.inr (.inr ⟨t, h1, by omega, h3⟩))
    · rw [if_neg (by rw [decide_eq_false mem]; exact Bool.false_ne_true), opt_mulE (.inl (by decide)), opt_mulE (.inl (by decide)), if_pos (by show 3 ≤ 2 ^ 24; decide), opt_appE (by rw [b3, List.length_map]; omega)]
      refine ⟨b1, by trivial, m ++ [(2 * (i : Int), 2 * (i : Int) + 1, 1)], by rw [b3, List.map_append]; rfl, by simp; omega, fun a b g => ?_⟩
      rw [List.mem_append, b5]
      simp only [List.mem_singleton, Prod.mk.injEq]
      constructor
      · rintro ((h | h | ⟨t, h1, h2, h3⟩) | h)
        · exact .inl h
        · exact .inr (.inl h)
        · exact .inr (.inr ⟨t, h1, by omega, h3⟩)
        · exact .inr (.inr ⟨i, by omega, by omega, .inr ⟨mem, h⟩⟩)
      · rintro (h | h | ⟨t, h1, h2, h3⟩)
        · exact .inl (.inl h)
        · exact .inl (.inr (.inl h))
        · by_cases q : t = (i : Int)
          · subst q
            rcases h3 with h3 | h3
            · exact absurd h3.1 mem
            · exact .inr h3.2
          · exact .inl (.inr (.inr ⟨t, h1, by omega, h3⟩))
  · rw [b5, List.length_map, List.length_range]
    unfold Arc TA
    constructor
    · rintro (h | h | ⟨t, h1, h2, ⟨h3, e1, e2, e3⟩ | ⟨h3, e1, e2, e3⟩⟩)
      · exact .inl h
      · exact .inr (.inl h)
      · subst e1 e2
        exact .inr (.inr (.inl ⟨⟨t, h1, h2, rfl, rfl⟩, h3, e3⟩))
      · subst e1 e2
        exact .inr (.inr (.inr ⟨⟨t, h1, h2, rfl, rfl⟩, h3, e3⟩))
    · rintro (h | h | ⟨⟨t, h1, h2, e1, e2⟩, h3, e3⟩ | ⟨⟨t, h1, h2, e1, e2⟩, h3, e3⟩)
      · exact .inl h
      · exact .inr (.inl h)
      · subst e1 e2
        exact .inr (.inr ⟨t, h1, h2, .inl ⟨h3, rfl, rfl, e3⟩⟩)
      · subst e1 e2
        exact .inr (.inr ⟨t, h1, h2, .inr ⟨h3, rfl, rfl, e3⟩⟩)
def Fix (o : List (List Int)) (U : List (Int × Int)) (G : List (Option Int)) : Prop := ∀ a b g x, Arc o U a b g → gv G a = some x → ∃ y, gv G b = some y ∧ x + g ≤ y
theorem ix_gv {G : List (Option Int)} {v : Int} {Q : Option Int → Prop} (h0 : 0 ≤ v) (h1 : v < G.length) : opt (ixL G v) Q = Q (gv G v) := opt_ixE h0 (gv_at h0 h1)
theorem gv_none (k : Nat) (v : Int) : gv (List.replicate k none) v = none := by
  unfold gv
  split
  · rw [List.getD_eq_getElem?_getD, List.getElem?_replicate]
    split <;> rfl
  · rfl
theorem BF.start {o : List (List Int)} {U : List (Int × Int)} {π : Int → Option Int} (hp : Pot o U π) : BF o U π ((List.replicate (2 * o.length + 2) none).set (2 * (o.length : Int)).toNat (some 0)) (List.replicate (2 * o.length + 2) none) := by
  have sG : ∀ v, gv ((List.replicate (2 * o.length + 2) none).set (2 * (o.length : Int)).toNat (some 0)) v = if v = 2 * (o.length : Int) then some 0 else none := fun v => by
    rw [gv_set (by omega) (by rw [List.length_replicate]; omega), gv_none]
  have w1 := wt_set isS (a := some 0) (l := List.replicate (2 * o.length + 2) none) (gv_at (v := 2 * (o.length : Int)) (by omega) (by rw [List.length_replicate]; omega))
  rw [gv_none] at w1
  have e1 : isS (some 0) = 1 := rfl
  have e0 : isS none = 0 := rfl
  refine ⟨by simp, by simp, by rw [sG, if_pos rfl], fun v x e => ?_, fun v x e hv => ?_, fun v x e => ?_, fun v x e => ?_⟩
  · rw [sG] at e
    split at e
    · rename_i q
      cases e
      subst q
      exact ⟨0, hp.1, Int.le_refl _⟩
    · cases e
  · rw [sG, if_neg hv] at e
    cases e
  · rw [sG] at e
    split at e
    · rename_i q
      subst q
      exact ⟨0, .base⟩
    · cases e
  · rw [sG] at e
    split at e
    · cases e
      omega
    · cases e
theorem BF.meas {o : List (List Int)} {U : List (Int × Int)} {π : Int → Option Int} {G P : List (Option Int)} (B : BF o U π G P) (hl : o.length ≤ 14) (hb : ∀ v y, π v = some y → y ≤ 14) : wt hgt G ≤ 1350 := by
  have : wt hgt G ≤ G.length * 45 := wt_le fun a ha => by
    obtain ⟨j, hj⟩ := List.getElem?_of_mem ha
    have hjl := (List.getElem?_eq_some_iff.mp hj).1
    have e : gv G (j : Int) = a := by
      have := gv_at (G := G) (v := (j : Int)) (by omega) (by omega)
      rw [Int.toNat_natCast, hj] at this
      exact (Option.some.inj this).symm
    cases a with
    | none => exact Nat.zero_le _
    | some x =>
      obtain ⟨y, ey, hy⟩ := B.up _ x e
      have := hb _ y ey
      show (x + 31).toNat ≤ 45
      omega
  have := B.gl
  have h2 : G.length * 45 ≤ 30 * 45 := Nat.mul_le_mul_right _ (by omega)
  omega
theorem far_ok {o : List (List Int)} {U : List (Int × Int)} {π : Int → Option Int} (h : IsOrd o) (hl : o.length ≤ 14) (hp : Pot o U π) (hb : ∀ v y, π v = some y → y ≤ 14) : val (m_farthest (o, ⟨U⟩, ())) fun p => BF o U π p.1 p.2 ∧ Fix o U p.1 := by
  obtain ⟨ar, ea, m, em, hm⟩ := val_ex (open_ok (U := U) h hl)
  subst em
  simp only [m_farthest, b_farthest, val_runR]
  have rep : ∀ {Q : List (Option Int) → Prop}, opt (repL [(none : Option Int)] (2 * (o.length : Int) + 2)) Q = Q (List.replicate (2 * o.length + 2) none) := fun {Q} => by
    unfold repL
    rw [if_pos ⟨by omega, by omega, by simp; omega⟩]
    show Q (List.replicate (2 * (o.length : Int) + 2).toNat [none]).flatten = _
    rw [List.flatten_replicate_singleton, show (2 * (o.length : Int) + 2).toNat = 2 * o.length + 2 by omega]
  refine wp_step (fun r => r.v_order = o ∧ r.v_used = ⟨U⟩ ∧ r.v_gains = List.replicate (2 * o.length + 2) none) ?_ fun r ⟨a1, a2, a3⟩ => ?_
  · simp only [val_ok, val_er, val_bind, val_up, val_mute, val_ite, opt_some, opt_none, opt_ite, val_e0, val_eV, val_e1, val_e2, val_e3, val_eIf, val_eAnd, val_eOr, val_lift, val_eNil, val_eCons, val_eLst, val_ePair, val_eEnum, val_eZip, val_eRev, val_oNone, val_oSome, val_eCut, val_aNil, val_aCons, val_eCall, val_eLc, wp_nx, wp_rt, wp_bk, wp_ct, wp_bind, wp_seq, wp_set, wp_if, wp_ret, wp_drop, wp_nil, wp_fbk, wp_fct, wp_mut1, wp_for, val_runR, opt_add, opt_sub, opt_neg, opt_lt, opt_le, opt_gt, opt_ge, opt_eqS, opt_neS, opt_eqD, opt_neD, opt_in, opt_nin, opt_len, opt_lenScr, opt_abs, opt_max2, opt_min2, opt_sum, opt_sort, opt_intB, opt_maxC, opt_minC, val_pV, val_pIx, wp_mutP, wp_putP, wq_nx, wq_rt, wq_bk, wq_ct, wq_bind, wq_seq, wq_set, wq_if, wq_ret, wq_drop, wq_nil, wq_fbk, wq_fct, wq_mut1, wq_for, val_E1, val_E2, val_iNil, val_iBy, val_iIo, val_eCallI, val_tAnd2, val_tOr2, val_tNot2, val_eTpl, wp_stuck, wq_stuck, wp_unp, wq_unp, wp_for2, wq_for2, wp_ins, wq_ins, wp_mut0, wq_mut0, wq_mutP, wq_putP, wp_augP, wq_augP, wp_put2, wq_put2, val_runI, val_runIU, opt_isBB, opt_isnBB, opt_ixTp, opt_sortR, opt_sortP, val_runRU, val_ePop, wp_dput, wq_dput, opt_inD, opt_ninD, opt_lenD, opt_getDo, opt_and, val_eDget, val_eIxO, opt_isNo, opt_isSo, opt_unO, opt_toO, numF_id, wq_forO, wp_forO, val_eCutS, val_eTl, val_eCut2, val_eCallX, wp_raise, opt_cnt, opt_allB, opt_scI, opt_scB, opt_scS, opt_scN, opt_lsY, opt_toI, opt_inQz, opt_inQq, opt_toZ, opt_keysZ, wp_dputQ, wp_dpopQ, wp_dcopy]
    rw [if_pos (by show 1 ≤ 2 ^ 24; decide), opt_mulE (.inl (by decide)), rep]
    exact ⟨by trivial, by trivial, by trivial⟩
  refine wp_step (fun r => r.v_order = o ∧ r.v_used = ⟨U⟩ ∧ r.v_gains = List.replicate (2 * o.length + 2) none ∧ r.v_ahead = List.replicate (2 * o.length + 2) none) ?_ fun r ⟨a1, a2, a3, a4⟩ => ?_
  · simp only [val_ok, val_er, val_bind, val_up, val_mute, val_ite, opt_some, opt_none, opt_ite, val_e0, val_eV, val_e1, val_e2, val_e3, val_eIf, val_eAnd, val_eOr, val_lift, val_eNil, val_eCons, val_eLst, val_ePair, val_eEnum, val_eZip, val_eRev, val_oNone, val_oSome, val_eCut, val_aNil, val_aCons, val_eCall, val_eLc, wp_nx, wp_rt, wp_bk, wp_ct, wp_bind, wp_seq, wp_set, wp_if, wp_ret, wp_drop, wp_nil, wp_fbk, wp_fct, wp_mut1, wp_for, val_runR, opt_add, opt_sub, opt_neg, opt_lt, opt_le, opt_gt, opt_ge, opt_eqS, opt_neS, opt_eqD, opt_neD, opt_in, opt_nin, opt_len, opt_lenScr, opt_abs, opt_max2, opt_min2, opt_sum, opt_sort, opt_intB, opt_maxC, opt_minC, val_pV, val_pIx, wp_mutP, wp_putP, wq_nx, wq_rt, wq_bk, wq_ct, wq_bind, wq_seq, wq_set, wq_if, wq_ret, wq_drop, wq_nil, wq_fbk, wq_fct, wq_mut1, wq_for, val_E1, val_E2, val_iNil, val_iBy, val_iIo, val_eCallI, val_tAnd2, val_tOr2, val_tNot2, val_eTpl, wp_stuck, wq_stuck, wp_unp, wq_unp, wp_for2, wq_for2, wp_ins, wq_ins, wp_mut0, wq_mut0, wq_mutP, wq_putP, wp_augP, wq_augP, wp_put2, wq_put2, val_runI, val_runIU, opt_isBB, opt_isnBB, opt_ixTp, opt_sortR, opt_sortP, val_runRU, val_ePop, wp_dput, wq_dput, opt_inD, opt_ninD, opt_lenD, opt_getDo, opt_and, val_eDget, val_eIxO, opt_isNo, opt_isSo, opt_unO, opt_toO, numF_id, wq_forO, wp_forO, val_eCutS, val_eTl, val_eCut2, val_eCallX, wp_raise, opt_cnt, opt_allB, opt_scI, opt_scB, opt_scS, opt_scN, opt_lsY, opt_toI, opt_inQz, opt_inQq, opt_toZ, opt_keysZ, wp_dputQ, wp_dpopQ, wp_dcopy, a1]
    rw [if_pos (by show 1 ≤ 2 ^ 24; decide), opt_mulE (.inl (by decide)), rep]
    exact ⟨by trivial, a2, a3, by trivial⟩
  refine wp_step (fun r => r.v_order = o ∧ r.v_used = ⟨U⟩ ∧ BF o U π r.v_gains r.v_ahead) ?_ fun r ⟨a1, a2, a3⟩ => ?_
  · simp only [val_ok, val_er, val_bind, val_up, val_mute, val_ite, opt_some, opt_none, opt_ite, val_e0, val_eV, val_e1, val_e2, val_e3, val_eIf, val_eAnd, val_eOr, val_lift, val_eNil, val_eCons, val_eLst, val_ePair, val_eEnum, val_eZip, val_eRev, val_oNone, val_oSome, val_eCut, val_aNil, val_aCons, val_eCall, val_eLc, wp_nx, wp_rt, wp_bk, wp_ct, wp_bind, wp_seq, wp_set, wp_if, wp_ret, wp_drop, wp_nil, wp_fbk, wp_fct, wp_mut1, wp_for, val_runR, opt_add, opt_sub, opt_neg, opt_lt, opt_le, opt_gt, opt_ge, opt_eqS, opt_neS, opt_eqD, opt_neD, opt_in, opt_nin, opt_len, opt_lenScr, opt_abs, opt_max2, opt_min2, opt_sum, opt_sort, opt_intB, opt_maxC, opt_minC, val_pV, val_pIx, wp_mutP, wp_putP, wq_nx, wq_rt, wq_bk, wq_ct, wq_bind, wq_seq, wq_set, wq_if, wq_ret, wq_drop, wq_nil, wq_fbk, wq_fct, wq_mut1, wq_for, val_E1, val_E2, val_iNil, val_iBy, val_iIo, val_eCallI, val_tAnd2, val_tOr2, val_tNot2, val_eTpl, wp_stuck, wq_stuck, wp_unp, wq_unp, wp_for2, wq_for2, wp_ins, wq_ins, wp_mut0, wq_mut0, wq_mutP, wq_putP, wp_augP, wq_augP, wp_put2, wq_put2, val_runI, val_runIU, opt_isBB, opt_isnBB, opt_ixTp, opt_sortR, opt_sortP, val_runRU, val_ePop, wp_dput, wq_dput, opt_inD, opt_ninD, opt_lenD, opt_getDo, opt_and, val_eDget, val_eIxO, opt_isNo, opt_isSo, opt_unO, opt_toO, numF_id, wq_forO, wp_forO, val_eCutS, val_eTl, val_eCut2, val_eCallX, wp_raise, opt_cnt, opt_allB, opt_scI, opt_scB, opt_scS, opt_scN, opt_lsY, opt_toI, opt_inQz, opt_inQq, opt_toZ, opt_keysZ, wp_dputQ, wp_dpopQ, wp_dcopy, a1, start_ok]
    rw [opt_putE (by omega) (by rw [a3, List.length_replicate]; omega)]
    refine ⟨by trivial, a2, ?_⟩
    rw [a3, a4]
    exact BF.start hp
  refine wp_step (fun r => r.v_arcs = m.map triT ∧ BF o U π r.v_gains r.v_ahead) ?_ fun r ⟨a4, a3⟩ => ?_
  · simp only [val_ok, val_er, val_bind, val_up, val_mute, val_ite, opt_some, opt_none, opt_ite, val_e0, val_eV, val_e1, val_e2, val_e3, val_eIf, val_eAnd, val_eOr, val_lift, val_eNil, val_eCons, val_eLst, val_ePair, val_eEnum, val_eZip, val_eRev, val_oNone, val_oSome, val_eCut, val_aNil, val_aCons, val_eCall, val_eLc, wp_nx, wp_rt, wp_bk, wp_ct, wp_bind, wp_seq, wp_set, wp_if, wp_ret, wp_drop, wp_nil, wp_fbk, wp_fct, wp_mut1, wp_for, val_runR, opt_add, opt_sub, opt_neg, opt_lt, opt_le, opt_gt, opt_ge, opt_eqS, opt_neS, opt_eqD, opt_neD, opt_in, opt_nin, opt_len, opt_lenScr, opt_abs, opt_max2, opt_min2, opt_sum, opt_sort, opt_intB, opt_maxC, opt_minC, val_pV, val_pIx, wp_mutP, wp_putP, wq_nx, wq_rt, wq_bk, wq_ct, wq_bind, wq_seq, wq_set, wq_if, wq_ret, wq_drop, wq_nil, wq_fbk, wq_fct, wq_mut1, wq_for, val_E1, val_E2, val_iNil, val_iBy, val_iIo, val_eCallI, val_tAnd2, val_tOr2, val_tNot2, val_eTpl, wp_stuck, wq_stuck, wp_unp, wq_unp, wp_for2, wq_for2, wp_ins, wq_ins, wp_mut0, wq_mut0, wq_mutP, wq_putP, wp_augP, wq_augP, wp_put2, wq_put2, val_runI, val_runIU, opt_isBB, opt_isnBB, opt_ixTp, opt_sortR, opt_sortP, val_runRU, val_ePop, wp_dput, wq_dput, opt_inD, opt_ninD, opt_lenD, opt_getDo, opt_and, val_eDget, val_eIxO, opt_isNo, opt_isSo, opt_unO, opt_toO, numF_id, wq_forO, wp_forO, val_eCutS, val_eTl, val_eCut2, val_eCallX, wp_raise, opt_cnt, opt_allB, opt_scI, opt_scB, opt_scS, opt_scN, opt_lsY, opt_toI, opt_inQz, opt_inQq, opt_toZ, opt_keysZ, wp_dputQ, wp_dpopQ, wp_dcopy, a1, a2, ea]
    exact ⟨by trivial, a3⟩
  refine wp_step (fun r => r.v_arcs = m.map triT ∧ BF o U π r.v_gains r.v_ahead ∧ r.v_moved = true) ?_ fun r ⟨a4, a3, a5⟩ => ?_
  · simp only [val_ok, val_er, val_bind, val_up, val_mute, val_ite, opt_some, opt_none, opt_ite, val_e0, val_eV, val_e1, val_e2, val_e3, val_eIf, val_eAnd, val_eOr, val_lift, val_eNil, val_eCons, val_eLst, val_ePair, val_eEnum, val_eZip, val_eRev, val_oNone, val_oSome, val_eCut, val_aNil, val_aCons, val_eCall, val_eLc, wp_nx, wp_rt, wp_bk, wp_ct, wp_bind, wp_seq, wp_set, wp_if, wp_ret, wp_drop, wp_nil, wp_fbk, wp_fct, wp_mut1, wp_for, val_runR, opt_add, opt_sub, opt_neg, opt_lt, opt_le, opt_gt, opt_ge, opt_eqS, opt_neS, opt_eqD, opt_neD, opt_in, opt_nin, opt_len, opt_lenScr, opt_abs, opt_max2, opt_min2, opt_sum, opt_sort, opt_intB, opt_maxC, opt_minC, val_pV, val_pIx, wp_mutP, wp_putP, wq_nx, wq_rt, wq_bk, wq_ct, wq_bind, wq_seq, wq_set, wq_if, wq_ret, wq_drop, wq_nil, wq_fbk, wq_fct, wq_mut1, wq_for, val_E1, val_E2, val_iNil, val_iBy, val_iIo, val_eCallI, val_tAnd2, val_tOr2, val_tNot2, val_eTpl, wp_stuck, wq_stuck, wp_unp, wq_unp, wp_for2, wq_for2, wp_ins, wq_ins, wp_mut0, wq_mut0, wq_mutP, wq_putP, wp_augP, wq_augP, wp_put2, wq_put2, val_runI, val_runIU, opt_isBB, opt_isnBB, opt_ixTp, opt_sortR, opt_sortP, val_runRU, val_ePop, wp_dput, wq_dput, opt_inD, opt_ninD, opt_lenD, opt_getDo, opt_and, val_eDget, val_eIxO, opt_isNo, opt_isSo, opt_unO, opt_toO, numF_id, wq_forO, wp_forO, val_eCutS, val_eTl, val_eCut2, val_eCallX, wp_raise, opt_cnt, opt_allB, opt_scI, opt_scB, opt_scS, opt_scN, opt_lsY, opt_toI, opt_inQz, opt_inQq, opt_toZ, opt_keysZ, wp_dputQ, wp_dpopQ, wp_dcopy]
    exact ⟨a4, a3, by trivial⟩
  refine wp_step (fun r => BF o U π r.v_gains r.v_ahead ∧ Fix o U r.v_gains) ?_ fun r h => by simp only [val_ok, val_er, val_bind, val_up, val_mute, val_ite, opt_some, opt_none, opt_ite, val_e0, val_eV, val_e1, val_e2, val_e3, val_eIf, val_eAnd, val_eOr, val_lift, val_eNil, val_eCons, val_eLst, val_ePair, val_eEnum, val_eZip, val_eRev, val_oNone, val_oSome, val_eCut, val_aNil, val_aCons, val_eCall, val_eLc, wp_nx, wp_rt, wp_bk, wp_ct, wp_bind, wp_seq, wp_set, wp_if, wp_ret, wp_drop, wp_nil, wp_fbk, wp_fct, wp_mut1, wp_for, val_runR, opt_add, opt_sub, opt_neg, opt_lt, opt_le, opt_gt, opt_ge, opt_eqS, opt_neS, opt_eqD, opt_neD, opt_in, opt_nin, opt_len, opt_lenScr, opt_abs, opt_max2, opt_min2, opt_sum, opt_sort, opt_intB, opt_maxC, opt_minC, val_pV, val_pIx, wp_mutP, wp_putP, wq_nx, wq_rt, wq_bk, wq_ct, wq_bind, wq_seq, wq_set, wq_if, wq_ret, wq_drop, wq_nil, wq_fbk, wq_fct, wq_mut1, wq_for, val_E1, val_E2, val_iNil, val_iBy, val_iIo, val_eCallI, val_tAnd2, val_tOr2, val_tNot2, val_eTpl, wp_stuck, wq_stuck, wp_unp, wq_unp, wp_for2, wq_for2, wp_ins, wq_ins, wp_mut0, wq_mut0, wq_mutP, wq_putP, wp_augP, wq_augP, wp_put2, wq_put2, val_runI, val_runIU, opt_isBB, opt_isnBB, opt_ixTp, opt_sortR, opt_sortP, val_runRU, val_ePop, wp_dput, wq_dput, opt_inD, opt_ninD, opt_lenD, opt_getDo, opt_and, val_eDget, val_eIxO, opt_isNo, opt_isSo, opt_unO, opt_toO, numF_id, wq_forO, wp_forO, val_eCutS, val_eTl, val_eCut2, val_eCallX, wp_raise, opt_cnt, opt_allB, opt_scI, opt_scB, opt_scS, opt_scN, opt_lsY, opt_toI, opt_inQz, opt_inQq, opt_toZ, opt_keysZ, wp_dputQ, wp_dpopQ, wp_dcopy]; exact h
  refine wp_while (fun n r => r.v_arcs = m.map triT ∧ BF o U π r.v_gains r.v_ahead ∧ (r.v_moved = true → 1400 < n + wt hgt r.v_gains) ∧ (r.v_moved = false → Fix o U r.v_gains)) (k := 1401) ⟨a4, a3, fun _ => by omega, fun e => by rw [a5] at e; cases e⟩ (fun n r ⟨b1, b2, b3, b4⟩ => ?_) (by decide)
  simp only [val_ok, val_er, val_bind, val_up, val_mute, val_ite, opt_some, opt_none, opt_ite, val_e0, val_eV, val_e1, val_e2, val_e3, val_eIf, val_eAnd, val_eOr, val_lift, val_eNil, val_eCons, val_eLst, val_ePair, val_eEnum, val_eZip, val_eRev, val_oNone, val_oSome, val_eCut, val_aNil, val_aCons, val_eCall, val_eLc, wp_nx, wp_rt, wp_bk, wp_ct, wp_bind, wp_seq, wp_set, wp_if, wp_ret, wp_drop, wp_nil, wp_fbk, wp_fct, wp_mut1, wp_for, val_runR, opt_add, opt_sub, opt_neg, opt_lt, opt_le, opt_gt, opt_ge, opt_eqS, opt_neS, opt_eqD, opt_neD, opt_in, opt_nin, opt_len, opt_lenScr, opt_abs, opt_max2, opt_min2, opt_sum, opt_sort, opt_intB, opt_maxC, opt_minC, val_pV, val_pIx, wp_mutP, wp_putP, wq_nx, wq_rt, wq_bk, wq_ct, wq_bind, wq_seq, wq_set, wq_if, wq_ret, wq_drop, wq_nil, wq_fbk, wq_fct, wq_mut1, wq_for, val_E1, val_E2, val_iNil, val_iBy, val_iIo, val_eCallI, val_tAnd2, val_tOr2, val_tNot2, val_eTpl, wp_stuck, wq_stuck, wp_unp, wq_unp, wp_for2, wq_for2, wp_ins, wq_ins, wp_mut0, wq_mut0, wq_mutP, wq_putP, wp_augP, wq_augP, wp_put2, wq_put2, val_runI, val_runIU, opt_isBB, opt_isnBB, opt_ixTp, opt_sortR, opt_sortP, val_runRU, val_ePop, wp_dput, wq_dput, opt_inD, opt_ninD, opt_lenD, opt_getDo, opt_and, val_eDget, val_eIxO, opt_isNo, opt_isSo, opt_unO, opt_toO, numF_id, wq_forO, wp_forO, val_eCutS, val_eTl, val_eCut2, val_eCallX, wp_raise, opt_cnt, opt_allB, opt_scI, opt_scB, opt_scS, opt_scN, opt_lsY, opt_toI, opt_inQz, opt_inQq, opt_toZ, opt_keysZ, wp_dputQ, wp_dpopQ, wp_dcopy]
  cases mv : r.v_moved with
  | false =>
    rw [if_neg Bool.false_ne_true]
    exact ⟨b2, b4 mv⟩
  | true =>
    rw [if_pos rfl]
    have hm0 := b2.meas hl hb
    have hn := b3 mv
    refine ⟨by omega, ?_⟩
    obtain ⟨G0, eG⟩ : ∃ G0, r.v_gains = G0 := ⟨_, rfl⟩
    rw [eG] at hn hm0
    rw [b1, opt_triL']
    refine wp_loop (fun i r => r.v_arcs = m.map triT ∧ BF o U π r.v_gains r.v_ahead ∧ wt hgt G0 ≤ wt hgt r.v_gains ∧ (r.v_moved = true → wt hgt G0 < wt hgt r.v_gains) ∧ (r.v_moved = false → r.v_gains = G0 ∧ ∀ j, j < i → ∀ a b g, m[j]? = some (a, b, g) → ∀ x, gv G0 a = some x → ∃ y, gv G0 b = some y ∧ x + g ≤ y)) ⟨rfl, b2, by show _ ≤ wt hgt r.v_gains; rw [eG]; exact Nat.le_refl _, fun e => (nomatch e), fun _ => ⟨eG, fun j hj => absurd hj (Nat.not_lt_zero _)⟩⟩ (fun i t r e ⟨d1, d2, d3, d4, d5⟩ => ?_) (fun r ⟨d1, d2, d3, d4, d5⟩ => ⟨d1, d2, fun e => ?_, fun e => ?_⟩)
    · obtain ⟨a, b, g⟩ := t
      have arc : Arc o U a b g := (hm a b g).mp (List.mem_of_getElem? e)
      have rg := arc.rng h
      have gl := d2.gl
      have pl := d2.pl
      have skip : (∀ x, gv r.v_gains a = some x → ∃ y, gv r.v_gains b = some y ∧ x + g ≤ y) → (r.v_moved = false → r.v_gains = G0 ∧ ∀ j, j < i + 1 → ∀ a b g, m[j]? = some (a, b, g) → ∀ x, gv G0 a = some x → ∃ y, gv G0 b = some y ∧ x + g ≤ y) := fun ok mv => by
        obtain ⟨f1, f2⟩ := d5 mv
        refine ⟨f1, fun j hj a' b' g' e' x hx => ?_⟩
        by_cases q : j = i
        · subst q
          rw [e] at e'
          cases e'
          rw [f1] at ok
          exact ok x hx
        · exact f2 j (by omega) a' b' g' e' x hx
      have put : ∀ x, gv r.v_gains a = some x → (gv r.v_gains b = none ∨ ∃ y, gv r.v_gains b = some y ∧ y < x + g) → BF o U π (r.v_gains.set b.toNat (some (x + g))) (r.v_ahead.set b.toNat (some a)) ∧ wt hgt G0 < wt hgt (r.v_gains.set b.toNat (some (x + g))) := fun x h1 h2 => by
        obtain ⟨q1, q2⟩ := d2.relax h hl hp arc h1 h2
        exact ⟨q1, by omega⟩
      simp only [val_ok, val_er, val_bind, val_up, val_mute, val_ite, opt_some, opt_none, opt_ite, val_e0, val_eV, val_e1, val_e2, val_e3, val_eIf, val_eAnd, val_eOr, val_lift, val_eNil, val_eCons, val_eLst, val_ePair, val_eEnum, val_eZip, val_eRev, val_oNone, val_oSome, val_eCut, val_aNil, val_aCons, val_eCall, val_eLc, wp_nx, wp_rt, wp_bk, wp_ct, wp_bind, wp_seq, wp_set, wp_if, wp_ret, wp_drop, wp_nil, wp_fbk, wp_fct, wp_mut1, wp_for, val_runR, opt_add, opt_sub, opt_neg, opt_lt, opt_le, opt_gt, opt_ge, opt_eqS, opt_neS, opt_eqD, opt_neD, opt_in, opt_nin, opt_len, opt_lenScr, opt_abs, opt_max2, opt_min2, opt_sum, opt_sort, opt_intB, opt_maxC, opt_minC, val_pV, val_pIx, wp_mutP, wp_putP, wq_nx, wq_rt, wq_bk, wq_ct, wq_bind, wq_seq, wq_set, wq_if, wq_ret, wq_drop, wq_nil, wq_fbk, wq_fct, wq_mut1, wq_for, val_E1, val_E2, val_iNil, val_iBy, val_iIo, val_eCallI, val_tAnd2, val_tOr2, val_tNot2, val_eTpl, wp_stuck, wq_stuck, wp_unp, wq_unp, wp_for2, wq_for2, wp_ins, wq_ins, wp_mut0, wq_mut0, wq_mutP, wq_putP, wp_augP, wq_augP, wp_put2, wq_put2, val_runI, val_runIU, opt_isBB, opt_isnBB, opt_ixTp, opt_sortR, opt_sortP, val_runRU, val_ePop, wp_dput, wq_dput, opt_inD, opt_ninD, opt_lenD, opt_getDo, opt_and, val_eDget, val_eIxO, opt_isNo, opt_isSo, opt_unO, opt_toO, numF_id, wq_forO, wp_forO, val_eCutS, val_eTl, val_eCut2, val_eCallX, wp_raise, opt_cnt, opt_allB, opt_scI, opt_scB, opt_scS, opt_scN, opt_lsY, opt_toI, opt_inQz, opt_inQq, opt_toZ, opt_keysZ, wp_dputQ, wp_dpopQ, wp_dcopy]
      rw [ix_gv rg.1 (by omega)]
      cases ha : gv r.v_gains a with
      | none =>
        rw [if_neg (by simp), if_neg Bool.false_ne_true]
        exact ⟨d1, d2, d3, d4, skip fun x hx => by rw [ha] at hx; cases hx⟩
      | some x =>
        rw [if_pos (by simp), ix_gv rg.2.2.1 (by omega)]
        cases hb2 : gv r.v_gains b with
        | none =>
          rw [if_pos (by simp), if_pos trivial, ix_gv rg.1 (by omega), ha]
          simp only [opt_some]
          rw [opt_putE rg.2.2.1 (by omega), opt_putE rg.2.2.1 (by omega)]
          obtain ⟨q1, q2⟩ := put x ha (.inl hb2)
          exact ⟨d1, q1, by omega, fun _ => q2, fun e => (nomatch e)⟩
        | some y =>
          rw [if_neg (by simp), ix_gv rg.1 (by omega), ha]
          simp only [opt_some]
          rw [ix_gv rg.2.2.1 (by omega), hb2]
          simp only [opt_some]
          by_cases lt : y < x + g
          · rw [if_pos (by simpa using lt), ix_gv rg.1 (by omega), ha]
            simp only [opt_some]
            rw [opt_putE rg.2.2.1 (by omega), opt_putE rg.2.2.1 (by omega)]
            obtain ⟨q1, q2⟩ := put x ha (.inr ⟨y, hb2, lt⟩)
            exact ⟨d1, q1, by omega, fun _ => q2, fun e => (nomatch e)⟩
          · rw [if_neg (by simpa using lt)]
            refine ⟨d1, d2, d3, d4, skip fun x' hx => ?_⟩
            rw [ha] at hx
            cases hx
            exact ⟨y, hb2, by omega⟩
    · have := d4 e
      omega
    · obtain ⟨f1, f2⟩ := d5 e
      intro a b g x ar hx
      obtain ⟨j, hj⟩ := List.getElem?_of_mem ((hm a b g).mpr ar)
      rw [f1] at hx ⊢
      exact f2 j (List.getElem?_eq_some_iff.mp hj).1 a b g hj x hx
theorem pigeon : ∀ (N : Nat) (l : List Int), l.Nodup → (∀ x ∈ l, 0 ≤ x ∧ x < (N : Int)) → l.length ≤ N
  | 0, l, _, h => by
    cases l with
    | nil => exact Nat.le_refl _
    | cons x l => have := h x List.mem_cons_self; omega
  | N + 1, l, hn, h => by
    by_cases m : (N : Int) ∈ l
    · have h1 := pigeon N (l.erase (N : Int)) (hn.erase _) fun x hx => by
        have h2 := (hn.mem_erase_iff).mp hx
        have := h x h2.2
        have := h2.1
        omega
      rw [List.length_erase_of_mem m] at h1
      omega
    · have := pigeon N l hn fun x hx => by
        have h2 := h x hx
        have : x ≠ (N : Int) := fun e => m (by rw [← e]; exact hx)
        omega
      omega
theorem Rt.det {P : Int → Option Int} {s : Int} : ∀ {j v}, Rt P s j v → ∀ {k}, Rt P s k v → j = k := by
  intro j v h
  induction h with
  | base =>
    intro k h2
    cases h2 with
    | base => rfl
    | step hv _ _ => exact absurd rfl hv
  | step hv e _ ih =>
    intro k h2
    cases h2 with
    | base => exact absurd rfl hv
    | step hv2 e2 h3 =>
      rw [e] at e2
      cases e2
      rw [ih h3]
theorem Rt.nodes {P : Int → Option Int} {s : Int} : ∀ {k v}, Rt P s k v → ∃ l : List Int, l.length = k + 1 ∧ l.Nodup ∧ ∀ x ∈ l, ∃ j, j ≤ k ∧ Rt P s j x := by
  intro k v h
  induction h with
  | base => exact ⟨[s], rfl, List.nodup_cons.mpr ⟨by simp, List.nodup_nil⟩, fun x hx => ⟨0, Nat.le_refl _, by rw [List.mem_singleton.mp hx]; exact .base⟩⟩
  | @step v u k hv e hr ih =>
    obtain ⟨l, h1, h2, h3⟩ := ih
    have hk : Rt P s (k + 1) v := .step hv e hr
    refine ⟨v :: l, by rw [List.length_cons, h1], List.nodup_cons.mpr ⟨fun m => ?_, h2⟩, fun x hx => ?_⟩
    · obtain ⟨j, hj, hjr⟩ := h3 v m
      have := hjr.det hk
      omega
    · rcases List.mem_cons.mp hx with z | z
      · subst z
        exact ⟨k + 1, Nat.le_refl _, hk⟩
      · obtain ⟨j, hj, hjr⟩ := h3 x z
        exact ⟨j, by omega, hjr⟩
theorem Rt.few {P : List (Option Int)} {s : Int} {N : Nat} (hs : 0 ≤ s ∧ s < (N : Int)) (hP : P.length = N) {k : Nat} {v : Int} (h : Rt (gv P) s k v) : k + 1 ≤ N := by
  obtain ⟨l, h1, h2, h3⟩ := h.nodes
  rw [← h1]
  refine pigeon N l h2 fun x hx => ?_
  obtain ⟨j, _, hj⟩ := h3 x hx
  cases hj with
  | base => exact hs
  | step _ e _ =>
    have := gv_rng e
    omega
/-- how many things a flow goes through -/
def cntT (n : Nat) (A : List (Int × Int)) : Nat := ((List.range n).filter fun (t : Nat) => decide ((2 * (t : Int), 2 * (t : Int) + 1) ∈ A)).length
theorem filt_add {p q : Nat → Bool} {t0 : Nat} (h1 : p t0 = false) (h2 : q t0 = true) : ∀ n, t0 < n → (∀ t, t < n → t ≠ t0 → p t = q t) → ((List.range n).filter q).length = ((List.range n).filter p).length + 1
  | 0, h, _ => absurd h (Nat.not_lt_zero _)
  | n + 1, h, e => by
    rw [List.range_succ, List.filter_append, List.filter_append, List.length_append, List.length_append]
    by_cases z : t0 = n
    · subst z
      rw [List.filter_congr (q := q) (p := p) fun x hx => e x (by have := List.mem_range.mp hx; omega) (by have := List.mem_range.mp hx; omega)]
      simp [h1, h2]
    · rw [filt_add h1 h2 n (by omega) fun t ht hn => e t (by omega) hn]
      have := e n (by omega) (fun q => z q.symm)
      by_cases w : q n = true
      · rw [w] at this
        simp [w, this]
      · have w : q n = false := by simpa using w
        rw [w] at this
        simp [w, this]
theorem cntT_same {n : Nat} {A B : List (Int × Int)} (h : ∀ t : Int, 0 ≤ t → t < n → ((2 * t, 2 * t + 1) ∈ A ↔ (2 * t, 2 * t + 1) ∈ B)) : cntT n A = cntT n B := by
  unfold cntT
  rw [List.filter_congr fun x hx => ?_]
  have := List.mem_range.mp hx
  exact decide_eq_decide.mpr (h x (by omega) (by omega))
theorem cntT_add {n : Nat} {A B : List (Int × Int)} {t0 : Int} (h0 : 0 ≤ t0 ∧ t0 < n) (h1 : (2 * t0, 2 * t0 + 1) ∉ A) (h2 : (2 * t0, 2 * t0 + 1) ∈ B) (h : ∀ t : Int, 0 ≤ t → t < n → t ≠ t0 → ((2 * t, 2 * t + 1) ∈ A ↔ (2 * t, 2 * t + 1) ∈ B)) : cntT n B = cntT n A + 1 := by
  unfold cntT
  have e : ((t0.toNat : Nat) : Int) = t0 := by omega
  refine filt_add (t0 := t0.toNat) ?_ ?_ n (by omega) fun t ht hn => ?_
  · rw [e]; exact decide_eq_false h1
  · rw [e]; exact decide_eq_true h2
  · exact decide_eq_decide.mpr (h t (by omega) (by omega) (by omega))
theorem mem_putP {A : List (Int × Int)} {k p : Int × Int} : p ∈ putP A k ↔ p ∈ A ∨ p = k := by
  unfold putP
  split
  · rename_i m
    constructor
    · exact .inl
    · rintro (h | h)
      · exact h
      · rw [h]; exact m
  · rw [List.mem_append, List.mem_singleton]
theorem mem_popP {A : List (Int × Int)} {k p : Int × Int} : p ∈ popP A k ↔ p ∈ A ∧ p ≠ k := by
  unfold popP
  rw [List.mem_filter]
  simp
theorem mem_foldP {p : Int × Int} : ∀ (z A : List (Int × Int)), p ∈ z.foldl putP A ↔ p ∈ A ∨ p ∈ z
  | [], A => by simp
  | x :: z, A => by
    rw [List.foldl_cons, mem_foldP z, mem_putP, List.mem_cons, or_assoc]
def Valid (o : List (List Int)) (A : List (Int × Int)) : Prop := ∀ a b, (a, b) ∈ A → PA o a b ∨ TA o a b
def Tight (o : List (List Int)) (U : List (Int × Int)) (G : List (Option Int)) (a b : Int) : Prop := ∃ g y, Arc o U a b g ∧ gv G a = some y ∧ gv G b = some (y + g)
theorem cntT_put {o : List (List Int)} (h : IsOrd o) {A : List (Int × Int)} {u v : Int} (p : PA o u v) : cntT o.length (putP A (u, v)) = cntT o.length A := cntT_same fun t h0 h1 => by
  rw [mem_putP]
  constructor
  · rintro (m | m)
    · exact m
    · cases m
      exact (not_PT h p ⟨t, h0, h1, rfl, rfl⟩).elim
  · exact .inl
theorem cntT_pop {o : List (List Int)} (h : IsOrd o) {A : List (Int × Int)} {u v : Int} (p : PA o u v) : cntT o.length (popP A (u, v)) = cntT o.length A := cntT_same fun t h0 h1 => by
  rw [mem_popP]
  constructor
  · exact fun m => m.1
  · intro m
    refine ⟨m, fun e => ?_⟩
    cases e
    exact not_PT h p ⟨t, h0, h1, rfl, rfl⟩
/-- the new arcs gain no more than the old gains allow -/
theorem pot_next {o : List (List Int)} {U A : List (Int × Int)} {G : List (Option Int)} (hs : gv G (2 * (o.length : Int)) = some 0) (hf : Fix o U G) (h : IsOrd o) (ha : ∀ a b, (a, b) ∈ A → (a, b) ∉ U → Tight o U G a b) (hb : ∀ a b, (a, b) ∈ U → (a, b) ∉ A → Tight o U G b a) : Pot o A (gv G) := by
  refine ⟨hs, fun a b g x ar hx => ?_⟩
  rcases ar with ⟨p, e⟩ | ⟨p, m, e⟩ | ⟨p, m, e⟩ | ⟨p, m, e⟩
  · exact hf a b g x (.inl ⟨p, e⟩) hx
  · by_cases mu : (b, a) ∈ U
    · exact hf a b g x (.inr (.inl ⟨p, mu, e⟩)) hx
    · obtain ⟨g', y, ar, h1, h2⟩ := ha b a m mu
      rw [hx] at h2
      cases h2
      refine ⟨y, h1, ?_⟩
      rcases ar with ⟨_, e2⟩ | ⟨q, _, _⟩ | ⟨q, _, _⟩ | ⟨q, _, _⟩
      · omega
      · exact (not_PP h p q).elim
      · exact (not_PT' h p q).elim
      · exact (not_PT h p q).elim
  · by_cases mu : (b, a) ∈ U
    · exact hf a b g x (.inr (.inr (.inl ⟨p, mu, e⟩))) hx
    · obtain ⟨g', y, ar, h1, h2⟩ := ha b a m mu
      rw [hx] at h2
      cases h2
      refine ⟨y, h1, ?_⟩
      rcases ar with ⟨q, _⟩ | ⟨q, _, _⟩ | ⟨q, _, _⟩ | ⟨q, _, e2⟩
      · exact (not_PT h q p).elim
      · exact (not_PT' h q p).elim
      · exact (not_TT p q).elim
      · omega
  · by_cases mu : (a, b) ∈ U
    · obtain ⟨g', y, ar, h1, h2⟩ := hb a b mu m
      rw [hx] at h2
      cases h2
      refine ⟨y, h1, ?_⟩
      rcases ar with ⟨q, _⟩ | ⟨q, _, _⟩ | ⟨q, _, e2⟩ | ⟨q, _, _⟩
      · exact (not_PT' h q p).elim
      · exact (not_PT h q p).elim
      · omega
      · exact (not_TT p q).elim
    · exact hf a b g x (.inr (.inr (.inr ⟨p, mu, e⟩))) hx
theorem BF.arc {o : List (List Int)} {U : List (Int × Int)} {π : Int → Option Int} {G P : List (Option Int)} (B : BF o U π G P) (hf : Fix o U G) {v x : Int} (e : gv G v = some x) (hv : v ≠ 2 * (o.length : Int)) : ∃ u g, gv P v = some u ∧ Arc o U u v g ∧ gv G u = some (x - g) := by
  obtain ⟨u, g, y, h1, h2, h3, h4⟩ := B.tree v x e hv
  obtain ⟨x', h5, h6⟩ := hf u v g y h2 h3
  rw [e] at h5
  cases h5
  exact ⟨u, g, h1, h2, by rw [h3]; congr 1; omega⟩
/-- where the walk back from the end stands -/
structure TK (o : List (List Int)) (U : List (Int × Int)) (G P : List (Option Int)) (d : Int) (k0 k : Nat) (v : Int) (A : List (Int × Int)) : Prop where
  rt : Rt (gv P) (2 * (o.length : Int)) k v
  le : k ≤ k0
  new : ∀ a b, (a, b) ∈ A → (a, b) ∉ U → Tight o U G a b ∧ ∃ j, k < j ∧ Rt (gv P) (2 * (o.length : Int)) j b
  old : ∀ a b, (a, b) ∈ U → (a, b) ∉ A → Tight o U G b a ∧ ∃ j, k < j ∧ Rt (gv P) (2 * (o.length : Int)) j a
  val : Valid o A
  at_ : ∃ x, gv G v = some x ∧ (cntT o.length A : Int) + x = (cntT o.length U : Int) + d
  len : A.length + k ≤ U.length + k0
theorem TK.next {o : List (List Int)} (h : IsOrd o) {U : List (Int × Int)} {π : Int → Option Int} {G P : List (Option Int)} (B : BF o U π G P) (hf : Fix o U G) {d : Int} {k0 k : Nat} {v : Int} {A : List (Int × Int)} (K : TK o U G P d k0 k v A) (hv : v ≠ 2 * (o.length : Int)) :
    ∃ u k', k = k' + 1 ∧ gv P v = some u ∧ (if (v, u) ∈ A then TK o U G P d k0 k' u (popP A (v, u)) else TK o U G P d k0 k' u (putP A (u, v))) := by
  obtain ⟨x, ex, hd⟩ := K.at_
  obtain ⟨u, g, e1, ar, e2⟩ := B.arc hf ex hv
  have tg : Tight o U G u v := ⟨g, x - g, ar, e2, by rw [ex]; congr 1; omega⟩
  obtain ⟨k', ek, hr⟩ : ∃ k', k = k' + 1 ∧ Rt (gv P) (2 * (o.length : Int)) k' u := by
    cases K.rt with
    | base => exact absurd rfl hv
    | step _ e hr =>
      rw [e1] at e
      cases e
      exact ⟨_, rfl, hr⟩
  subst ek
  refine ⟨u, k', rfl, e1, ?_⟩
  have popped : (v, u) ∈ U → (v, u) ∈ A := fun m => by
    by_cases q : (v, u) ∈ A
    · exact q
    · obtain ⟨_, j, hj, hjr⟩ := K.old v u m q
      have := hjr.det K.rt
      omega
  have hle := K.le
  have hlen := K.len
  have pop : (v, u) ∈ A → (cntT o.length (popP A (v, u)) : Int) + (x - g) = (cntT o.length U : Int) + d → TK o U G P d k0 k' u (popP A (v, u)) := fun mA hc => by
    refine ⟨hr, by omega, fun a b m n => ?_, fun a b m n => ?_, fun a b m => K.val a b (mem_popP.mp m).1, ⟨x - g, e2, hc⟩, ?_⟩
    · obtain ⟨h1, j, hj, hjr⟩ := K.new a b (mem_popP.mp m).1 n
      exact ⟨h1, j, by omega, hjr⟩
    · by_cases q : (a, b) ∈ A
      · have e : (a, b) = (v, u) := by
          by_cases z : (a, b) = (v, u)
          · exact z
          · exact absurd (mem_popP.mpr ⟨q, z⟩) n
        cases e
        exact ⟨tg, k' + 1, by omega, K.rt⟩
      · obtain ⟨h1, j, hj, hjr⟩ := K.old a b m q
        exact ⟨h1, j, by omega, hjr⟩
    · have : (popP A (v, u)).length ≤ A.length := List.length_filter_le _ _
      omega
  have put : (PA o u v ∨ TA o u v) → (cntT o.length (putP A (u, v)) : Int) + (x - g) = (cntT o.length U : Int) + d → TK o U G P d k0 k' u (putP A (u, v)) := fun pt hc => by
    refine ⟨hr, by omega, fun a b m n => ?_, fun a b m n => ?_, fun a b m => ?_, ⟨x - g, e2, hc⟩, ?_⟩
    · rcases mem_putP.mp m with m | m
      · obtain ⟨h1, j, hj, hjr⟩ := K.new a b m n
        exact ⟨h1, j, by omega, hjr⟩
      · cases m
        exact ⟨tg, k' + 1, by omega, K.rt⟩
    · obtain ⟨h1, j, hj, hjr⟩ := K.old a b m fun z => n (mem_putP.mpr (.inl z))
      exact ⟨h1, j, by omega, hjr⟩
    · rcases mem_putP.mp m with m | m
      · exact K.val a b m
      · cases m
        exact pt
    · have := putP_len A (u, v)
      omega
  rcases ar with ⟨p, e⟩ | ⟨p, m, e⟩ | ⟨p, m, e⟩ | ⟨p, m, e⟩
  · rw [if_neg fun m => (K.val v u m).elim (fun q => not_PP h p q) fun q => not_PT' h p q]
    refine put (.inl p) ?_
    rw [cntT_put h p]
    omega
  · rw [if_pos (popped m)]
    refine pop (popped m) ?_
    rw [cntT_pop h p]
    omega
  · rw [if_pos (popped m)]
    refine pop (popped m) ?_
    obtain ⟨t, h0, h1, e3, e4⟩ := p
    subst e3 e4
    have := cntT_add (A := popP A (2 * t, 2 * t + 1)) (B := A) ⟨h0, h1⟩ (fun z => (mem_popP.mp z).2 rfl) (popped m) fun s _ _ ns => ⟨fun z => (mem_popP.mp z).1, fun z => mem_popP.mpr ⟨z, fun e => by have e := (Prod.mk.inj e).1; omega⟩⟩
    omega
  · rw [if_neg fun q => (K.val v u q).elim (fun q => not_PT' h q p) fun q => not_TT p q]
    refine put (.inr p) ?_
    have nA : (u, v) ∉ A := fun q => by
      obtain ⟨_, j, hj, hjr⟩ := K.new u v q m
      have := hjr.det K.rt
      omega
    obtain ⟨t, h0, h1, e3, e4⟩ := p
    subst e3 e4
    have := cntT_add (A := A) (B := putP A (2 * t, 2 * t + 1)) ⟨h0, h1⟩ nA (mem_putP.mpr (.inr rfl)) fun s _ _ ns => ⟨fun z => mem_putP.mpr (.inl z), fun z => (mem_putP.mp z).elim id fun e => by have e := (Prod.mk.inj e).1; omega⟩
    omega
theorem taken_ok {o : List (List Int)} (h : IsOrd o) (hl : o.length ≤ 14) {U : List (Int × Int)} {π : Int → Option Int} {G P : List (Option Int)} (B : BF o U π G P) (hf : Fix o U G) (hv : Valid o U) (hu : U.length ≤ 10000) {d : Int} (hd : gv G (2 * (o.length : Int) + 1) = some d) :
    val (m_taken (o, ⟨U⟩, P, ())) fun z => Valid o z.l ∧ Pot o z.l (gv G) ∧ (cntT o.length z.l : Int) = (cntT o.length U : Int) + d ∧ z.l.length ≤ U.length + 30 := by
  obtain ⟨k0, hk0⟩ := B.rt _ _ hd
  have hk1 := hk0.few (N := 2 * o.length + 2) ⟨by omega, by omega⟩ B.pl
  have hpl := B.pl
  simp only [m_taken, b_taken, val_runR]
  refine wp_step (fun r => r.v_order = o ∧ r.v_used = ⟨U⟩ ∧ r.v_ahead = P ∧ r.v_arcs = ⟨[]⟩) (by simp only [val_ok, val_er, val_bind, val_up, val_mute, val_ite, opt_some, opt_none, opt_ite, val_e0, val_eV, val_e1, val_e2, val_e3, val_eIf, val_eAnd, val_eOr, val_lift, val_eNil, val_eCons, val_eLst, val_ePair, val_eEnum, val_eZip, val_eRev, val_oNone, val_oSome, val_eCut, val_aNil, val_aCons, val_eCall, val_eLc, wp_nx, wp_rt, wp_bk, wp_ct, wp_bind, wp_seq, wp_set, wp_if, wp_ret, wp_drop, wp_nil, wp_fbk, wp_fct, wp_mut1, wp_for, val_runR, opt_add, opt_sub, opt_neg, opt_lt, opt_le, opt_gt, opt_ge, opt_eqS, opt_neS, opt_eqD, opt_neD, opt_in, opt_nin, opt_len, opt_lenScr, opt_abs, opt_max2, opt_min2, opt_sum, opt_sort, opt_intB, opt_maxC, opt_minC, val_pV, val_pIx, wp_mutP, wp_putP, wq_nx, wq_rt, wq_bk, wq_ct, wq_bind, wq_seq, wq_set, wq_if, wq_ret, wq_drop, wq_nil, wq_fbk, wq_fct, wq_mut1, wq_for, val_E1, val_E2, val_iNil, val_iBy, val_iIo, val_eCallI, val_tAnd2, val_tOr2, val_tNot2, val_eTpl, wp_stuck, wq_stuck, wp_unp, wq_unp, wp_for2, wq_for2, wp_ins, wq_ins, wp_mut0, wq_mut0, wq_mutP, wq_putP, wp_augP, wq_augP, wp_put2, wq_put2, val_runI, val_runIU, opt_isBB, opt_isnBB, opt_ixTp, opt_sortR, opt_sortP, val_runRU, val_ePop, wp_dput, wq_dput, opt_inD, opt_ninD, opt_lenD, opt_getDo, opt_and, val_eDget, val_eIxO, opt_isNo, opt_isSo, opt_unO, opt_toO, numF_id, wq_forO, wp_forO, val_eCutS, val_eTl, val_eCut2, val_eCallX, wp_raise, opt_cnt, opt_allB, opt_scI, opt_scB, opt_scS, opt_scN, opt_lsY, opt_toI, opt_inQz, opt_inQq, opt_toZ, opt_keysZ, wp_dputQ, wp_dpopQ, wp_dcopy]; exact ⟨by trivial, by trivial, by trivial, by trivial⟩) fun r ⟨a1, a2, a3, a4⟩ => ?_
  refine wp_step (fun r => r.v_order = o ∧ r.v_ahead = P ∧ r.v_arcs = ⟨U.foldl putP []⟩) ?_ fun r ⟨a1, a3, a4⟩ => ?_
  · simp only [val_ok, val_er, val_bind, val_up, val_mute, val_ite, opt_some, opt_none, opt_ite, val_e0, val_eV, val_e1, val_e2, val_e3, val_eIf, val_eAnd, val_eOr, val_lift, val_eNil, val_eCons, val_eLst, val_ePair, val_eEnum, val_eZip, val_eRev, val_oNone, val_oSome, val_eCut, val_aNil, val_aCons, val_eCall, val_eLc, wp_nx, wp_rt, wp_bk, wp_ct, wp_bind, wp_seq, wp_set, wp_if, wp_ret, wp_drop, wp_nil, wp_fbk, wp_fct, wp_mut1, wp_for, val_runR, opt_add, opt_sub, opt_neg, opt_lt, opt_le, opt_gt, opt_ge, opt_eqS, opt_neS, opt_eqD, opt_neD, opt_in, opt_nin, opt_len, opt_lenScr, opt_abs, opt_max2, opt_min2, opt_sum, opt_sort, opt_intB, opt_maxC, opt_minC, val_pV, val_pIx, wp_mutP, wp_putP, wq_nx, wq_rt, wq_bk, wq_ct, wq_bind, wq_seq, wq_set, wq_if, wq_ret, wq_drop, wq_nil, wq_fbk, wq_fct, wq_mut1, wq_for, val_E1, val_E2, val_iNil, val_iBy, val_iIo, val_eCallI, val_tAnd2, val_tOr2, val_tNot2, val_eTpl, wp_stuck, wq_stuck, wp_unp, wq_unp, wp_for2, wq_for2, wp_ins, wq_ins, wp_mut0, wq_mut0, wq_mutP, wq_putP, wp_augP, wq_augP, wp_put2, wq_put2, val_runI, val_runIU, opt_isBB, opt_isnBB, opt_ixTp, opt_sortR, opt_sortP, val_runRU, val_ePop, wp_dput, wq_dput, opt_inD, opt_ninD, opt_lenD, opt_getDo, opt_and, val_eDget, val_eIxO, opt_isNo, opt_isSo, opt_unO, opt_toO, numF_id, wq_forO, wp_forO, val_eCutS, val_eTl, val_eCut2, val_eCallX, wp_raise, opt_cnt, opt_allB, opt_scI, opt_scB, opt_scS, opt_scN, opt_lsY, opt_toI, opt_inQz, opt_inQq, opt_toZ, opt_keysZ, wp_dputQ, wp_dpopQ, wp_dcopy, a2, a4]
    rw [if_pos (by simp; omega)]
    exact ⟨a1, a3, by trivial⟩
  refine wp_step (fun r => r.v_order = o ∧ r.v_ahead = P ∧ TK o U G P d k0 k0 r.v_node r.v_arcs.l) ?_ fun r ⟨a1, a3, a5⟩ => ?_
  · simp only [val_ok, val_er, val_bind, val_up, val_mute, val_ite, opt_some, opt_none, opt_ite, val_e0, val_eV, val_e1, val_e2, val_e3, val_eIf, val_eAnd, val_eOr, val_lift, val_eNil, val_eCons, val_eLst, val_ePair, val_eEnum, val_eZip, val_eRev, val_oNone, val_oSome, val_eCut, val_aNil, val_aCons, val_eCall, val_eLc, wp_nx, wp_rt, wp_bk, wp_ct, wp_bind, wp_seq, wp_set, wp_if, wp_ret, wp_drop, wp_nil, wp_fbk, wp_fct, wp_mut1, wp_for, val_runR, opt_add, opt_sub, opt_neg, opt_lt, opt_le, opt_gt, opt_ge, opt_eqS, opt_neS, opt_eqD, opt_neD, opt_in, opt_nin, opt_len, opt_lenScr, opt_abs, opt_max2, opt_min2, opt_sum, opt_sort, opt_intB, opt_maxC, opt_minC, val_pV, val_pIx, wp_mutP, wp_putP, wq_nx, wq_rt, wq_bk, wq_ct, wq_bind, wq_seq, wq_set, wq_if, wq_ret, wq_drop, wq_nil, wq_fbk, wq_fct, wq_mut1, wq_for, val_E1, val_E2, val_iNil, val_iBy, val_iIo, val_eCallI, val_tAnd2, val_tOr2, val_tNot2, val_eTpl, wp_stuck, wq_stuck, wp_unp, wq_unp, wp_for2, wq_for2, wp_ins, wq_ins, wp_mut0, wq_mut0, wq_mutP, wq_putP, wp_augP, wq_augP, wp_put2, wq_put2, val_runI, val_runIU, opt_isBB, opt_isnBB, opt_ixTp, opt_sortR, opt_sortP, val_runRU, val_ePop, wp_dput, wq_dput, opt_inD, opt_ninD, opt_lenD, opt_getDo, opt_and, val_eDget, val_eIxO, opt_isNo, opt_isSo, opt_unO, opt_toO, numF_id, wq_forO, wp_forO, val_eCutS, val_eTl, val_eCut2, val_eCallX, wp_raise, opt_cnt, opt_allB, opt_scI, opt_scB, opt_scS, opt_scN, opt_lsY, opt_toI, opt_inQz, opt_inQq, opt_toZ, opt_keysZ, wp_dputQ, wp_dpopQ, wp_dcopy, a1, end_ok]
    refine ⟨by trivial, a3, ?_⟩
    rw [a4]
    have mem : ∀ p, p ∈ U.foldl putP [] ↔ p ∈ U := fun p => by rw [mem_foldP]; simp
    refine ⟨hk0, Nat.le_refl _, fun a b m n => absurd ((mem _).mp m) n, fun a b m n => absurd ((mem _).mpr m) n, fun a b m => hv a b ((mem _).mp m), ⟨d, hd, ?_⟩, ?_⟩
    · rw [cntT_same (A := U.foldl putP []) (B := U) fun t _ _ => mem _]
    · have := fold_len U []
      simp at this
      show (U.foldl putP []).length + k0 ≤ _
      omega
  refine wp_step (fun r => ∃ k, TK o U G P d k0 k (2 * (o.length : Int)) r.v_arcs.l) ?_ fun r ⟨k, K⟩ => ?_
  · refine wp_while (fun n r => r.v_order = o ∧ r.v_ahead = P ∧ TK o U G P d k0 n r.v_node r.v_arcs.l) (k := k0) ⟨a1, a3, a5⟩ (fun n r ⟨b1, b2, b3⟩ => ?_) (by omega)
    simp only [val_ok, val_er, val_bind, val_up, val_mute, val_ite, opt_some, opt_none, opt_ite, val_e0, val_eV, val_e1, val_e2, val_e3, val_eIf, val_eAnd, val_eOr, val_lift, val_eNil, val_eCons, val_eLst, val_ePair, val_eEnum, val_eZip, val_eRev, val_oNone, val_oSome, val_eCut, val_aNil, val_aCons, val_eCall, val_eLc, wp_nx, wp_rt, wp_bk, wp_ct, wp_bind, wp_seq, wp_set, wp_if, wp_ret, wp_drop, wp_nil, wp_fbk, wp_fct, wp_mut1, wp_for, val_runR, opt_add, opt_sub, opt_neg, opt_lt, opt_le, opt_gt, opt_ge, opt_eqS, opt_neS, opt_eqD, opt_neD, opt_in, opt_nin, opt_len, opt_lenScr, opt_abs, opt_max2, opt_min2, opt_sum, opt_sort, opt_intB, opt_maxC, opt_minC, val_pV, val_pIx, wp_mutP, wp_putP, wq_nx, wq_rt, wq_bk, wq_ct, wq_bind, wq_seq, wq_set, wq_if, wq_ret, wq_drop, wq_nil, wq_fbk, wq_fct, wq_mut1, wq_for, val_E1, val_E2, val_iNil, val_iBy, val_iIo, val_eCallI, val_tAnd2, val_tOr2, val_tNot2, val_eTpl, wp_stuck, wq_stuck, wp_unp, wq_unp, wp_for2, wq_for2, wp_ins, wq_ins, wp_mut0, wq_mut0, wq_mutP, wq_putP, wp_augP, wq_augP, wp_put2, wq_put2, val_runI, val_runIU, opt_isBB, opt_isnBB, opt_ixTp, opt_sortR, opt_sortP, val_runRU, val_ePop, wp_dput, wq_dput, opt_inD, opt_ninD, opt_lenD, opt_getDo, opt_and, val_eDget, val_eIxO, opt_isNo, opt_isSo, opt_unO, opt_toO, numF_id, wq_forO, wp_forO, val_eCutS, val_eTl, val_eCut2, val_eCallX, wp_raise, opt_cnt, opt_allB, opt_scI, opt_scB, opt_scS, opt_scN, opt_lsY, opt_toI, opt_inQz, opt_inQq, opt_toZ, opt_keysZ, wp_dputQ, wp_dpopQ, wp_dcopy, b1, b2, start_ok]
    by_cases hn : r.v_node = 2 * (o.length : Int)
    · rw [if_neg (by simp [hn])]
      rw [hn] at b3
      exact ⟨n, b3⟩
    · rw [if_pos (by simp [hn])]
      obtain ⟨u, k', ek, eu, K⟩ := b3.next h B hf hn
      have rg := gv_rng eu
      subst ek
      have hAl : r.v_arcs.l.length < 2 ^ 24 := by
        have := b3.len
        omega
      refine ⟨by omega, ?_⟩
      rw [ix_gv rg.1 rg.2, eu]
      simp only [opt_some]
      by_cases m : (r.v_node, u) ∈ r.v_arcs.l
      · rw [if_pos m] at K
        rw [if_pos (decide_eq_true m), if_pos m]
        exact ⟨by first | trivial | exact b1, by first | trivial | exact b2, K⟩
      · rw [if_neg m] at K
        rw [if_neg (by rw [decide_eq_false m]; exact Bool.false_ne_true), if_pos hAl]
        exact ⟨by first | trivial | exact b1, by first | trivial | exact b2, K⟩
  · simp only [val_ok, val_er, val_bind, val_up, val_mute, val_ite, opt_some, opt_none, opt_ite, val_e0, val_eV, val_e1, val_e2, val_e3, val_eIf, val_eAnd, val_eOr, val_lift, val_eNil, val_eCons, val_eLst, val_ePair, val_eEnum, val_eZip, val_eRev, val_oNone, val_oSome, val_eCut, val_aNil, val_aCons, val_eCall, val_eLc, wp_nx, wp_rt, wp_bk, wp_ct, wp_bind, wp_seq, wp_set, wp_if, wp_ret, wp_drop, wp_nil, wp_fbk, wp_fct, wp_mut1, wp_for, val_runR, opt_add, opt_sub, opt_neg, opt_lt, opt_le, opt_gt, opt_ge, opt_eqS, opt_neS, opt_eqD, opt_neD, opt_in, opt_nin, opt_len, opt_lenScr, opt_abs, opt_max2, opt_min2, opt_sum, opt_sort, opt_intB, opt_maxC, opt_minC, val_pV, val_pIx, wp_mutP, wp_putP, wq_nx, wq_rt, wq_bk, wq_ct, wq_bind, wq_seq, wq_set, wq_if, wq_ret, wq_drop, wq_nil, wq_fbk, wq_fct, wq_mut1, wq_for, val_E1, val_E2, val_iNil, val_iBy, val_iIo, val_eCallI, val_tAnd2, val_tOr2, val_tNot2, val_eTpl, wp_stuck, wq_stuck, wp_unp, wq_unp, wp_for2, wq_for2, wp_ins, wq_ins, wp_mut0, wq_mut0, wq_mutP, wq_putP, wp_augP, wq_augP, wp_put2, wq_put2, val_runI, val_runIU, opt_isBB, opt_isnBB, opt_ixTp, opt_sortR, opt_sortP, val_runRU, val_ePop, wp_dput, wq_dput, opt_inD, opt_ninD, opt_lenD, opt_getDo, opt_and, val_eDget, val_eIxO, opt_isNo, opt_isSo, opt_unO, opt_toO, numF_id, wq_forO, wp_forO, val_eCutS, val_eTl, val_eCut2, val_eCallX, wp_raise, opt_cnt, opt_allB, opt_scI, opt_scB, opt_scS, opt_scN, opt_lsY, opt_toI, opt_inQz, opt_inQq, opt_toZ, opt_keysZ, wp_dputQ, wp_dpopQ, wp_dcopy]
    obtain ⟨x, ex, hc⟩ := K.at_
    rw [B.st] at ex
    cases ex
    refine ⟨K.val, pot_next B.st hf h (fun a b m n => (K.new a b m n).1) fun a b m n => (K.old a b m n).1, by omega, ?_⟩
    have := K.len
    omega
/-- the first potential: by heights -/
def pi0 (o : List (List Int)) (v : Int) : Option Int := some (if v = 2 * (o.length : Int) then 0 else if v = 2 * (o.length : Int) + 1 then mh o o.length else if v % 2 = 0 then ht o (v / 2) - 1 else ht o (v / 2))
theorem pi0_s (o : List (List Int)) : pi0 o (2 * (o.length : Int)) = some 0 := by unfold pi0; rw [if_pos rfl]
theorem pi0_e (o : List (List Int)) : pi0 o (2 * (o.length : Int) + 1) = some (mh o o.length) := by unfold pi0; rw [if_neg (by omega), if_pos rfl]
theorem pi0_in {o : List (List Int)} {t : Int} (h : t < o.length) : pi0 o (2 * t) = some (ht o t - 1) := by
  unfold pi0
  rw [if_neg (by omega), if_neg (by omega), if_pos (by omega), show 2 * t / 2 = t by omega]
theorem pi0_out {o : List (List Int)} {t : Int} (h : t < o.length) : pi0 o (2 * t + 1) = some (ht o t) := by
  unfold pi0
  rw [if_neg (by omega), if_neg (by omega), if_neg (by omega), show (2 * t + 1) / 2 = t by omega]
theorem mh_at {o : List (List Int)} {t : Int} (h0 : 0 ≤ t) (h1 : t < o.length) : ht o t ≤ mh o o.length := by
  have := mh_ge (o := o) (i := o.length) (k := t.toNat) (by omega)
  rwa [show ((t.toNat : Nat) : Int) = t by omega] at this
theorem mh_few {o : List (List Int)} (h : IsOrd o) : mh o o.length ≤ o.length := by
  by_cases c : 0 < mh o o.length
  · obtain ⟨k, hk, e⟩ := mh_some c
    have := ht_le h o.length (y := (k : Int)) (by omega) (by omega) (by omega)
    omega
  · omega
theorem pi0_le {o : List (List Int)} (h : IsOrd o) (hl : o.length ≤ 14) : ∀ v y, (if 0 ≤ v ∧ v < 2 * (o.length : Int) + 2 then pi0 o v else none) = some y → y ≤ 14 := fun v y e => by
  have h1 := mh_few h
  split at e
  · rename_i hv
    by_cases c1 : v = 2 * (o.length : Int)
    · subst c1; rw [pi0_s] at e; cases e; omega
    by_cases c2 : v = 2 * (o.length : Int) + 1
    · subst c2; rw [pi0_e] at e; cases e; omega
    by_cases c3 : v % 2 = 0
    · have e2 : v = 2 * (v / 2) := by omega
      rw [e2, pi0_in (by omega)] at e
      cases e
      have := mh_at (o := o) (t := v / 2) (by omega) (by omega)
      omega
    · have e2 : v = 2 * (v / 2) + 1 := by omega
      rw [e2, pi0_out (by omega)] at e
      cases e
      have := mh_at (o := o) (t := v / 2) (by omega) (by omega)
      omega
  · cases e
/-- the first potential, at the nodes alone -/
def pi1 (o : List (List Int)) (v : Int) : Option Int := if 0 ≤ v ∧ v < 2 * (o.length : Int) + 2 then pi0 o v else none
theorem pi1_at {o : List (List Int)} {v : Int} (h : 0 ≤ v ∧ v < 2 * (o.length : Int) + 2) : pi1 o v = pi0 o v := if_pos h
theorem pot0 {o : List (List Int)} (h : IsOrd o) : Pot o [] (pi1 o) := by
  refine ⟨by rw [pi1_at (by omega)]; exact pi0_s o, fun a b g x ar hx => ?_⟩
  have rg := ar.rng h
  rw [pi1_at (by omega)] at hx
  rw [pi1_at (by omega)]
  rcases ar with ⟨p, e⟩ | ⟨_, m, _⟩ | ⟨_, m, _⟩ | ⟨⟨t, h0, h1, e1, e2⟩, _, e⟩
  · rcases p with ⟨e1, t, h0, h1, e2⟩ | ⟨e1, t, h0, h1, e2⟩ | ⟨j, row, low, ej, hlow, e1, e2⟩
    · subst e1 e2
      rw [pi0_s] at hx
      cases hx
      have := ht_pos h ⟨h0, h1⟩
      exact ⟨_, pi0_in h1, by omega⟩
    · subst e1 e2
      rw [pi0_out h1] at hx
      cases hx
      have := mh_at h0 h1
      exact ⟨_, pi0_e o, by omega⟩
    · have hj := (List.getElem?_eq_some_iff.mp ej).1
      have hlo := h.lo ej low hlow
      subst e1 e2
      rw [pi0_out (by omega)] at hx
      cases hx
      have := ht_up h (x := low) (y := (j : Int)) ⟨row, by rw [Int.toNat_natCast]; exact ej, hlow⟩ (by omega)
      exact ⟨_, pi0_in (by omega), by omega⟩
  · cases m
  · cases m
  · subst e1 e2
    rw [pi0_in h1] at hx
    cases hx
    exact ⟨_, pi0_out h1, by omega⟩
/-- the first gains reach the heights -/
theorem far0 {o : List (List Int)} (h : IsOrd o) {G : List (Option Int)} (hs : gv G (2 * (o.length : Int)) = some 0) (hf : Fix o [] G) : ∀ (k : Nat) (t : Int), 0 ≤ t → t < o.length → t < k → ∃ x, gv G (2 * t + 1) = some x ∧ ht o t ≤ x
  | 0, t, _, _, _ => by omega
  | k + 1, t, h0, h1, h2 => by
    have up : ∀ z, gv G (2 * t) = some z → ∃ x, gv G (2 * t + 1) = some x ∧ z + 1 ≤ x := fun z hz => hf (2 * t) (2 * t + 1) 1 z (.inr (.inr (.inr ⟨⟨t, h0, h1, rfl, rfl⟩, by simp, rfl⟩))) hz
    by_cases c : 2 ≤ ht o t
    · obtain ⟨x, b, e⟩ := ht_low h ⟨h0, h1⟩ c
      have hx := h.lt b h0
      obtain ⟨y, ey, hy⟩ := far0 h hs hf k x hx.1 (by omega) (by omega)
      obtain ⟨row, er, hm⟩ := b
      obtain ⟨z, ez, hz⟩ := hf (2 * x + 1) (2 * t) 0 y (.inl ⟨.inr (.inr ⟨t.toNat, row, x, er, hm, rfl, by omega⟩), rfl⟩) ey
      obtain ⟨w, ew, hw⟩ := up z ez
      exact ⟨w, ew, by omega⟩
    · obtain ⟨z, ez, hz⟩ := hf (2 * (o.length : Int)) (2 * t) 0 0 (.inl ⟨.inl ⟨rfl, t, h0, h1, rfl⟩, rfl⟩) hs
      obtain ⟨w, ew, hw⟩ := up z ez
      exact ⟨w, ew, by omega⟩
theorem to_end {o : List (List Int)} {U : List (Int × Int)} {G : List (Option Int)} (hf : Fix o U G) {t x : Int} (h0 : 0 ≤ t) (h1 : t < o.length) (e : gv G (2 * t + 1) = some x) : ∃ y, gv G (2 * (o.length : Int) + 1) = some y ∧ x ≤ y := by
  obtain ⟨y, ey, hy⟩ := hf (2 * t + 1) (2 * (o.length : Int) + 1) 0 x (.inl ⟨.inr (.inl ⟨rfl, t, h0, h1, rfl⟩), rfl⟩) e
  exact ⟨y, ey, by omega⟩
/-- what the rounds find: flows and gains, by turns -/
structure Rnds (o : List (List Int)) (L : List (List (Int × Int) × List (Option Int))) : Prop where
  one : ∀ (i : Nat) U G, L[i]? = some (U, G) → Valid o U ∧ G.length = 2 * o.length + 2 ∧ gv G (2 * (o.length : Int)) = some 0 ∧ Fix o U G
  fst : ∃ G, L[0]? = some ([], G) ∧ ∀ v x, gv G v = some x → ∃ y, pi1 o v = some y ∧ x ≤ y
  nxt : ∀ (i : Nat) U G U' G', L[i]? = some (U, G) → L[i + 1]? = some (U', G') → ∃ d, 0 < d ∧ gv G (2 * (o.length : Int) + 1) = some d ∧ (cntT o.length U' : Int) = (cntT o.length U : Int) + d ∧ Pot o U' (gv G) ∧ ∀ v x, gv G' v = some x → ∃ y, gv G v = some y ∧ x ≤ y
theorem Rnds.snoc {o : List (List Int)} {L : List (List (Int × Int) × List (Option Int))} (R : Rnds o L) {U U' : List (Int × Int)} {G G' : List (Option Int)} (el : L[L.length - 1]? = some (U, G)) (h1 : Valid o U' ∧ G'.length = 2 * o.length + 2 ∧ gv G' (2 * (o.length : Int)) = some 0 ∧ Fix o U' G') (h2 : ∃ d, 0 < d ∧ gv G (2 * (o.length : Int) + 1) = some d ∧ (cntT o.length U' : Int) = (cntT o.length U : Int) + d ∧ Pot o U' (gv G) ∧ ∀ v x, gv G' v = some x → ∃ y, gv G v = some y ∧ x ≤ y) : Rnds o (L ++ [(U', G')]) where
  one i V H e := by
    rcases snoc_at e with e | ⟨_, e⟩
    · exact R.one i V H e
    · cases e
      exact h1
  fst := by
    obtain ⟨G0, e0, h0⟩ := R.fst
    exact ⟨G0, by rw [snoc_lo (List.getElem?_eq_some_iff.mp e0).1]; exact e0, h0⟩
  nxt i V H V' H' e e' := by
    rcases snoc_at e' with e' | ⟨q, e'⟩
    · have := (List.getElem?_eq_some_iff.mp e').1
      rw [snoc_lo (by omega)] at e
      exact R.nxt i V H V' H' e e'
    · cases e'
      rw [snoc_lo (by omega)] at e
      have : i = L.length - 1 := by omega
      subst this
      rw [el] at e
      cases e
      exact h2
def rd (x : List (Int × Int) × List (Option Int)) : Dz × List (Option Int) := (⟨x.1⟩, x.2)
theorem cntT_le (n : Nat) (A : List (Int × Int)) : cntT n A ≤ n := by
  unfold cntT
  have := List.length_filter_le (fun (t : Nat) => decide ((2 * (t : Int), 2 * (t : Int) + 1) ∈ A)) (List.range n)
  rwa [List.length_range] at this
theorem rounds_ok {o : List (List Int)} (h : IsOrd o) (hl : o.length ≤ 14) : val (m_rounds (o, ())) fun f => ∃ L U G, f = L.map rd ∧ Rnds o L ∧ L[L.length - 1]? = some (U, G) ∧ L.length ≤ 15 ∧ ∀ x, gv G (2 * (o.length : Int) + 1) = some x → x ≤ 0 := by
  simp only [m_rounds, b_rounds, val_runR]
  refine wp_step (fun r => r.v_order = o ∧ r.v_used = ⟨[]⟩) (by simp only [val_ok, val_er, val_bind, val_up, val_mute, val_ite, opt_some, opt_none, opt_ite, val_e0, val_eV, val_e1, val_e2, val_e3, val_eIf, val_eAnd, val_eOr, val_lift, val_eNil, val_eCons, val_eLst, val_ePair, val_eEnum, val_eZip, val_eRev, val_oNone, val_oSome, val_eCut, val_aNil, val_aCons, val_eCall, val_eLc, wp_nx, wp_rt, wp_bk, wp_ct, wp_bind, wp_seq, wp_set, wp_if, wp_ret, wp_drop, wp_nil, wp_fbk, wp_fct, wp_mut1, wp_for, val_runR, opt_add, opt_sub, opt_neg, opt_lt, opt_le, opt_gt, opt_ge, opt_eqS, opt_neS, opt_eqD, opt_neD, opt_in, opt_nin, opt_len, opt_lenScr, opt_abs, opt_max2, opt_min2, opt_sum, opt_sort, opt_intB, opt_maxC, opt_minC, val_pV, val_pIx, wp_mutP, wp_putP, wq_nx, wq_rt, wq_bk, wq_ct, wq_bind, wq_seq, wq_set, wq_if, wq_ret, wq_drop, wq_nil, wq_fbk, wq_fct, wq_mut1, wq_for, val_E1, val_E2, val_iNil, val_iBy, val_iIo, val_eCallI, val_tAnd2, val_tOr2, val_tNot2, val_eTpl, wp_stuck, wq_stuck, wp_unp, wq_unp, wp_for2, wq_for2, wp_ins, wq_ins, wp_mut0, wq_mut0, wq_mutP, wq_putP, wp_augP, wq_augP, wp_put2, wq_put2, val_runI, val_runIU, opt_isBB, opt_isnBB, opt_ixTp, opt_sortR, opt_sortP, val_runRU, val_ePop, wp_dput, wq_dput, opt_inD, opt_ninD, opt_lenD, opt_getDo, opt_and, val_eDget, val_eIxO, opt_isNo, opt_isSo, opt_unO, opt_toO, numF_id, wq_forO, wp_forO, val_eCutS, val_eTl, val_eCut2, val_eCallX, wp_raise, opt_cnt, opt_allB, opt_scI, opt_scB, opt_scS, opt_scN, opt_lsY, opt_toI, opt_inQz, opt_inQq, opt_toZ, opt_keysZ, wp_dputQ, wp_dpopQ, wp_dcopy]; exact ⟨by trivial, by trivial⟩) fun r ⟨a1, a2⟩ => ?_
  refine wp_step (fun r => r.v_order = o ∧ r.v_used = ⟨[]⟩ ∧ r.v_found = []) (by simp only [val_ok, val_er, val_bind, val_up, val_mute, val_ite, opt_some, opt_none, opt_ite, val_e0, val_eV, val_e1, val_e2, val_e3, val_eIf, val_eAnd, val_eOr, val_lift, val_eNil, val_eCons, val_eLst, val_ePair, val_eEnum, val_eZip, val_eRev, val_oNone, val_oSome, val_eCut, val_aNil, val_aCons, val_eCall, val_eLc, wp_nx, wp_rt, wp_bk, wp_ct, wp_bind, wp_seq, wp_set, wp_if, wp_ret, wp_drop, wp_nil, wp_fbk, wp_fct, wp_mut1, wp_for, val_runR, opt_add, opt_sub, opt_neg, opt_lt, opt_le, opt_gt, opt_ge, opt_eqS, opt_neS, opt_eqD, opt_neD, opt_in, opt_nin, opt_len, opt_lenScr, opt_abs, opt_max2, opt_min2, opt_sum, opt_sort, opt_intB, opt_maxC, opt_minC, val_pV, val_pIx, wp_mutP, wp_putP, wq_nx, wq_rt, wq_bk, wq_ct, wq_bind, wq_seq, wq_set, wq_if, wq_ret, wq_drop, wq_nil, wq_fbk, wq_fct, wq_mut1, wq_for, val_E1, val_E2, val_iNil, val_iBy, val_iIo, val_eCallI, val_tAnd2, val_tOr2, val_tNot2, val_eTpl, wp_stuck, wq_stuck, wp_unp, wq_unp, wp_for2, wq_for2, wp_ins, wq_ins, wp_mut0, wq_mut0, wq_mutP, wq_putP, wp_augP, wq_augP, wp_put2, wq_put2, val_runI, val_runIU, opt_isBB, opt_isnBB, opt_ixTp, opt_sortR, opt_sortP, val_runRU, val_ePop, wp_dput, wq_dput, opt_inD, opt_ninD, opt_lenD, opt_getDo, opt_and, val_eDget, val_eIxO, opt_isNo, opt_isSo, opt_unO, opt_toO, numF_id, wq_forO, wp_forO, val_eCutS, val_eTl, val_eCut2, val_eCallX, wp_raise, opt_cnt, opt_allB, opt_scI, opt_scB, opt_scS, opt_scN, opt_lsY, opt_toI, opt_inQz, opt_inQq, opt_toZ, opt_keysZ, wp_dputQ, wp_dpopQ, wp_dcopy]; exact ⟨a1, a2, by trivial⟩) fun r ⟨a1, a2, a3⟩ => ?_
  refine wp_step (fun r => r.v_order = o ∧ r.v_used = ⟨[]⟩ ∧ r.v_found = [] ∧ BF o [] (pi1 o) r.v_gains r.v_ahead ∧ Fix o [] r.v_gains) ?_ fun r ⟨a1, a2, a3, a4, a5⟩ => ?_
  · simp only [val_ok, val_er, val_bind, val_up, val_mute, val_ite, opt_some, opt_none, opt_ite, val_e0, val_eV, val_e1, val_e2, val_e3, val_eIf, val_eAnd, val_eOr, val_lift, val_eNil, val_eCons, val_eLst, val_ePair, val_eEnum, val_eZip, val_eRev, val_oNone, val_oSome, val_eCut, val_aNil, val_aCons, val_eCall, val_eLc, wp_nx, wp_rt, wp_bk, wp_ct, wp_bind, wp_seq, wp_set, wp_if, wp_ret, wp_drop, wp_nil, wp_fbk, wp_fct, wp_mut1, wp_for, val_runR, opt_add, opt_sub, opt_neg, opt_lt, opt_le, opt_gt, opt_ge, opt_eqS, opt_neS, opt_eqD, opt_neD, opt_in, opt_nin, opt_len, opt_lenScr, opt_abs, opt_max2, opt_min2, opt_sum, opt_sort, opt_intB, opt_maxC, opt_minC, val_pV, val_pIx, wp_mutP, wp_putP, wq_nx, wq_rt, wq_bk, wq_ct, wq_bind, wq_seq, wq_set, wq_if, wq_ret, wq_drop, wq_nil, wq_fbk, wq_fct, wq_mut1, wq_for, val_E1, val_E2, val_iNil, val_iBy, val_iIo, val_eCallI, val_tAnd2, val_tOr2, val_tNot2, val_eTpl, wp_stuck, wq_stuck, wp_unp, wq_unp, wp_for2, wq_for2, wp_ins, wq_ins, wp_mut0, wq_mut0, wq_mutP, wq_putP, wp_augP, wq_augP, wp_put2, wq_put2, val_runI, val_runIU, opt_isBB, opt_isnBB, opt_ixTp, opt_sortR, opt_sortP, val_runRU, val_ePop, wp_dput, wq_dput, opt_inD, opt_ninD, opt_lenD, opt_getDo, opt_and, val_eDget, val_eIxO, opt_isNo, opt_isSo, opt_unO, opt_toO, numF_id, wq_forO, wp_forO, val_eCutS, val_eTl, val_eCut2, val_eCallX, wp_raise, opt_cnt, opt_allB, opt_scI, opt_scB, opt_scS, opt_scN, opt_lsY, opt_toI, opt_inQz, opt_inQq, opt_toZ, opt_keysZ, wp_dputQ, wp_dpopQ, wp_dcopy, a1, a2]
    exact val_call (far_ok h hl (pot0 h) (pi0_le h hl)) fun p ⟨q1, q2⟩ => ⟨by trivial, by trivial, a3, q1, q2⟩
  refine wp_step (fun r => r.v_order = o ∧ ∃ L U G π, r.v_used = ⟨U⟩ ∧ r.v_gains = G ∧ r.v_found = L.map rd ∧ Rnds o L ∧ L[L.length - 1]? = some (U, G) ∧ BF o U π G r.v_ahead ∧ Fix o U G ∧ (∀ v y, gv G v = some y → y ≤ 14) ∧ L.length ≤ cntT o.length U + 1 ∧ U.length ≤ 30 * L.length) ?_ fun r ⟨a1, L, U, G, π, b1, b2, b3, b4, b5, b6, b7, b8, b9, b10⟩ => ?_
  · simp only [val_ok, val_er, val_bind, val_up, val_mute, val_ite, opt_some, opt_none, opt_ite, val_e0, val_eV, val_e1, val_e2, val_e3, val_eIf, val_eAnd, val_eOr, val_lift, val_eNil, val_eCons, val_eLst, val_ePair, val_eEnum, val_eZip, val_eRev, val_oNone, val_oSome, val_eCut, val_aNil, val_aCons, val_eCall, val_eLc, wp_nx, wp_rt, wp_bk, wp_ct, wp_bind, wp_seq, wp_set, wp_if, wp_ret, wp_drop, wp_nil, wp_fbk, wp_fct, wp_mut1, wp_for, val_runR, opt_add, opt_sub, opt_neg, opt_lt, opt_le, opt_gt, opt_ge, opt_eqS, opt_neS, opt_eqD, opt_neD, opt_in, opt_nin, opt_len, opt_lenScr, opt_abs, opt_max2, opt_min2, opt_sum, opt_sort, opt_intB, opt_maxC, opt_minC, val_pV, val_pIx, wp_mutP, wp_putP, wq_nx, wq_rt, wq_bk, wq_ct, wq_bind, wq_seq, wq_set, wq_if, wq_ret, wq_drop, wq_nil, wq_fbk, wq_fct, wq_mut1, wq_for, val_E1, val_E2, val_iNil, val_iBy, val_iIo, val_eCallI, val_tAnd2, val_tOr2, val_tNot2, val_eTpl, wp_stuck, wq_stuck, wp_unp, wq_unp, wp_for2, wq_for2, wp_ins, wq_ins, wp_mut0, wq_mut0, wq_mutP, wq_putP, wp_augP, wq_augP, wp_put2, wq_put2, val_runI, val_runIU, opt_isBB, opt_isnBB, opt_ixTp, opt_sortR, opt_sortP, val_runRU, val_ePop, wp_dput, wq_dput, opt_inD, opt_ninD, opt_lenD, opt_getDo, opt_and, val_eDget, val_eIxO, opt_isNo, opt_isSo, opt_unO, opt_toO, numF_id, wq_forO, wp_forO, val_eCutS, val_eTl, val_eCut2, val_eCallX, wp_raise, opt_cnt, opt_allB, opt_scI, opt_scB, opt_scS, opt_scN, opt_lsY, opt_toI, opt_inQz, opt_inQq, opt_toZ, opt_keysZ, wp_dputQ, wp_dpopQ, wp_dcopy, a2, a3]
    rw [opt_appE (by decide)]
    refine ⟨a1, [([], r.v_gains)], [], r.v_gains, pi1 o, by trivial, rfl, rfl, ⟨fun i U G e => ?_, ⟨_, rfl, a4.up⟩, fun i U G U' G' _ e => ?_⟩, rfl, a4, a5, fun v y e => ?_, by simp, by simp⟩
    · cases i with
      | zero =>
        cases e
        exact ⟨fun _ _ m => (nomatch m), a4.gl, a4.st, a5⟩
      | succ i => simp at e
    · simp at e
    · obtain ⟨y', e', hy⟩ := a4.up v y e
      have := pi0_le h hl v y' e'
      omega
  refine wp_step (fun r => ∃ L U G, r.v_found = L.map rd ∧ Rnds o L ∧ L[L.length - 1]? = some (U, G) ∧ L.length ≤ 15 ∧ ∀ x, gv G (2 * (o.length : Int) + 1) = some x → x ≤ 0) ?_ fun r hr => by simp only [val_ok, val_er, val_bind, val_up, val_mute, val_ite, opt_some, opt_none, opt_ite, val_e0, val_eV, val_e1, val_e2, val_e3, val_eIf, val_eAnd, val_eOr, val_lift, val_eNil, val_eCons, val_eLst, val_ePair, val_eEnum, val_eZip, val_eRev, val_oNone, val_oSome, val_eCut, val_aNil, val_aCons, val_eCall, val_eLc, wp_nx, wp_rt, wp_bk, wp_ct, wp_bind, wp_seq, wp_set, wp_if, wp_ret, wp_drop, wp_nil, wp_fbk, wp_fct, wp_mut1, wp_for, val_runR, opt_add, opt_sub, opt_neg, opt_lt, opt_le, opt_gt, opt_ge, opt_eqS, opt_neS, opt_eqD, opt_neD, opt_in, opt_nin, opt_len, opt_lenScr, opt_abs, opt_max2, opt_min2, opt_sum, opt_sort, opt_intB, opt_maxC, opt_minC, val_pV, val_pIx, wp_mutP, wp_putP, wq_nx, wq_rt, wq_bk, wq_ct, wq_bind, wq_seq, wq_set, wq_if, wq_ret, wq_drop, wq_nil, wq_fbk, wq_fct, wq_mut1, wq_for, val_E1, val_E2, val_iNil, val_iBy, val_iIo, val_eCallI, val_tAnd2, val_tOr2, val_tNot2, val_eTpl, wp_stuck, wq_stuck, wp_unp, wq_unp, wp_for2, wq_for2, wp_ins, wq_ins, wp_mut0, wq_mut0, wq_mutP, wq_putP, wp_augP, wq_augP, wp_put2, wq_put2, val_runI, val_runIU, opt_isBB, opt_isnBB, opt_ixTp, opt_sortR, opt_sortP, val_runRU, val_ePop, wp_dput, wq_dput, opt_inD, opt_ninD, opt_lenD, opt_getDo, opt_and, val_eDget, val_eIxO, opt_isNo, opt_isSo, opt_unO, opt_toO, numF_id, wq_forO, wp_forO, val_eCutS, val_eTl, val_eCut2, val_eCallX, wp_raise, opt_cnt, opt_allB, opt_scI, opt_scB, opt_scS, opt_scN, opt_lsY, opt_toI, opt_inQz, opt_inQq, opt_toZ, opt_keysZ, wp_dputQ, wp_dpopQ, wp_dcopy]; exact hr
  refine wp_while (fun n r => r.v_order = o ∧ ∃ L U G π, r.v_used = ⟨U⟩ ∧ r.v_gains = G ∧ r.v_found = L.map rd ∧ Rnds o L ∧ L[L.length - 1]? = some (U, G) ∧ BF o U π G r.v_ahead ∧ Fix o U G ∧ (∀ v y, gv G v = some y → y ≤ 14) ∧ L.length ≤ cntT o.length U + 1 ∧ U.length ≤ 30 * L.length ∧ 15 ≤ n + cntT o.length U) (k := 15) ⟨a1, L, U, G, π, b1, b2, b3, b4, b5, b6, b7, b8, b9, b10, by omega⟩ (fun n r ⟨c0, L, U, G, π, c1, c2, c3, c4, c5, c6, c7, c8, c9, c10, c11⟩ => ?_) (by decide)
  have hgl := c6.gl
  have hcl := cntT_le o.length U
  simp only [val_ok, val_er, val_bind, val_up, val_mute, val_ite, opt_some, opt_none, opt_ite, val_e0, val_eV, val_e1, val_e2, val_e3, val_eIf, val_eAnd, val_eOr, val_lift, val_eNil, val_eCons, val_eLst, val_ePair, val_eEnum, val_eZip, val_eRev, val_oNone, val_oSome, val_eCut, val_aNil, val_aCons, val_eCall, val_eLc, wp_nx, wp_rt, wp_bk, wp_ct, wp_bind, wp_seq, wp_set, wp_if, wp_ret, wp_drop, wp_nil, wp_fbk, wp_fct, wp_mut1, wp_for, val_runR, opt_add, opt_sub, opt_neg, opt_lt, opt_le, opt_gt, opt_ge, opt_eqS, opt_neS, opt_eqD, opt_neD, opt_in, opt_nin, opt_len, opt_lenScr, opt_abs, opt_max2, opt_min2, opt_sum, opt_sort, opt_intB, opt_maxC, opt_minC, val_pV, val_pIx, wp_mutP, wp_putP, wq_nx, wq_rt, wq_bk, wq_ct, wq_bind, wq_seq, wq_set, wq_if, wq_ret, wq_drop, wq_nil, wq_fbk, wq_fct, wq_mut1, wq_for, val_E1, val_E2, val_iNil, val_iBy, val_iIo, val_eCallI, val_tAnd2, val_tOr2, val_tNot2, val_eTpl, wp_stuck, wq_stuck, wp_unp, wq_unp, wp_for2, wq_for2, wp_ins, wq_ins, wp_mut0, wq_mut0, wq_mutP, wq_putP, wp_augP, wq_augP, wp_put2, wq_put2, val_runI, val_runIU, opt_isBB, opt_isnBB, opt_ixTp, opt_sortR, opt_sortP, val_runRU, val_ePop, wp_dput, wq_dput, opt_inD, opt_ninD, opt_lenD, opt_getDo, opt_and, val_eDget, val_eIxO, opt_isNo, opt_isSo, opt_unO, opt_toO, numF_id, wq_forO, wp_forO, val_eCutS, val_eTl, val_eCut2, val_eCallX, wp_raise, opt_cnt, opt_allB, opt_scI, opt_scB, opt_scS, opt_scN, opt_lsY, opt_toI, opt_inQz, opt_inQq, opt_toZ, opt_keysZ, wp_dputQ, wp_dpopQ, wp_dcopy, c0, c2, end_ok]
  rw [ix_gv (by omega) (by omega)]
  have out : (∀ x, gv G (2 * (o.length : Int) + 1) = some x → x ≤ 0) → ∃ L U G, r.v_found = L.map rd ∧ Rnds o L ∧ L[L.length - 1]? = some (U, G) ∧ L.length ≤ 15 ∧ ∀ x, gv G (2 * (o.length : Int) + 1) = some x → x ≤ 0 := fun q => ⟨L, U, G, c3, c4, c5, by omega, q⟩
  cases hd : gv G (2 * (o.length : Int) + 1) with
  | none =>
    rw [if_neg (by simp), if_neg Bool.false_ne_true]
    exact out fun x e => by rw [hd] at e; cases e
  | some d =>
    rw [if_pos (by simp), ix_gv (by omega) (by omega), hd]
    simp only [opt_some]
    by_cases pos : 0 < d
    · rw [if_pos (by simpa using pos)]
      refine ⟨by omega, ?_⟩
      rw [c1]
      refine val_call (taken_ok h hl c6 c7 (c4.one _ _ _ c5).1 (by omega) hd) fun z ⟨t1, t2, t3, t4⟩ => ?_
      obtain ⟨U'⟩ := z
      refine val_call (far_ok h hl t2 c8) fun p ⟨q1, q2⟩ => ?_
      have hc2 := cntT_le o.length U'
      have t3' : (cntT o.length U' : Int) = (cntT o.length U : Int) + d := t3
      have t4' : U'.length ≤ U.length + 30 := t4
      rw [opt_appE (by rw [c3, List.length_map]; omega)]
      refine ⟨by first | trivial | exact c0, L ++ [(U', p.1)], U', p.1, gv G, rfl, rfl, by rw [c3, List.map_append]; rfl, c4.snoc c5 ⟨t1, q1.gl, q1.st, q2⟩ ⟨d, pos, hd, t3', t2, q1.up⟩, by simp, q1, q2, fun v y e => ?_, by simp; omega, by simp; omega, by omega⟩
      obtain ⟨y', e', hy⟩ := q1.up v y e
      have := c8 v y' e'
      omega
    · rw [if_neg (by simpa using pos)]
      exact out fun x e => by rw [hd] at e; cases e; omega
/-- how many are m or more; by columns -/
def cnt (l : List Int) (m : Int) : Nat := (l.filter fun x => decide (m ≤ x)).length
def cols (l : List Int) : List Int := (List.range (l.headD 0).toNat).map fun (k : Nat) => (cnt l (1 + (k : Int)) : Int)
theorem cnt_cons (x : Int) (l : List Int) (m : Int) : cnt (x :: l) m = (if m ≤ x then 1 else 0) + cnt l m := by
  unfold cnt
  by_cases h : m ≤ x
  · rw [List.filter_cons_of_pos (by simpa using h), if_pos h, List.length_cons]
    omega
  · rw [List.filter_cons_of_neg (by simpa using h), if_neg h]
    omega
theorem cnt_gt {m : Int} : ∀ {l : List Int} {i : Nat}, l.Pairwise (· ≥ ·) → (i < cnt l m ↔ ∃ a, l[i]? = some a ∧ m ≤ a)
  | [], i, _ => ⟨fun h => by simp [cnt] at h, fun ⟨a, e, _⟩ => by simp at e⟩
  | x :: l, i, h => by
    obtain ⟨h1, h2⟩ := List.pairwise_cons.mp h
    rw [cnt_cons]
    by_cases hm : m ≤ x
    · rw [if_pos hm]
      cases i with
      | zero => exact ⟨fun _ => ⟨x, rfl, hm⟩, fun _ => by omega⟩
      | succ i =>
        rw [List.getElem?_cons_succ, ← cnt_gt h2]
        omega
    · rw [if_neg hm]
      constructor
      · intro hi
        obtain ⟨a, ea, ha⟩ := (cnt_gt (m := m) (i := 0) h2).mp (by omega)
        have := h1 a (List.mem_of_getElem? ea)
        omega
      · rintro ⟨a, ea, ha⟩
        cases i with
        | zero => cases ea; omega
        | succ i =>
          have := h1 a (List.mem_of_getElem? (by simpa using ea))
          omega
theorem cnt_anti {m m' : Int} (h : m ≤ m') : ∀ l : List Int, cnt l m' ≤ cnt l m
  | [] => Nat.le_refl _
  | x :: l => by
    have := cnt_anti h l
    rw [cnt_cons, cnt_cons]
    split
    · rw [if_pos (by omega)]; omega
    · omega
theorem cnt_all {m : Int} : ∀ {l : List Int}, (∀ x ∈ l, m ≤ x) → cnt l m = l.length
  | [], _ => rfl
  | x :: l, h => by
    rw [cnt_cons, if_pos (h x List.mem_cons_self), cnt_all fun y hy => h y (List.mem_cons_of_mem _ hy), List.length_cons]
    omega
theorem cnt_le (l : List Int) (m : Int) : cnt l m ≤ l.length := List.length_filter_le _ _
theorem cols_len (l : List Int) : (cols l).length = (l.headD 0).toNat := by simp [cols]
theorem cols_at (l : List Int) {i : Nat} : (cols l)[i]? = if i < (l.headD 0).toNat then some (cnt l (1 + (i : Int)) : Int) else none := by
  unfold cols
  rw [List.getElem?_map]
  split
  · rename_i h
    rw [List.getElem?_range h]
    rfl
  · rename_i h
    rw [List.getElem?_eq_none (by simpa using h)]
    rfl
theorem cols_dec (l : List Int) : (cols l).Pairwise (· ≥ ·) := by
  unfold cols
  rw [List.pairwise_map]
  refine (List.pairwise_lt_range).imp fun {a b} h => ?_
  have := cnt_anti (m := 1 + (a : Int)) (m' := 1 + (b : Int)) (by omega) l
  omega
theorem cols_pos {l : List Int} {b : Int} (h : b ∈ cols l) : 1 ≤ b := by
  unfold cols at h
  obtain ⟨k, hk, e⟩ := List.mem_map.mp h
  have hk := List.mem_range.mp hk
  subst e
  cases l with
  | nil => simp at hk
  | cons x l =>
    rw [cnt_cons, if_pos (by simp at hk; omega)]
    omega
theorem range_cut (t : Nat) : ∀ n : Nat, ((List.range n).filter fun k => decide (k < t)).length = min t n
  | 0 => by simp
  | n + 1 => by
    rw [List.range_succ, List.filter_append, List.length_append, range_cut t n]
    by_cases h : n < t
    · rw [List.filter_cons_of_pos (by simpa using h)]
      simp
      omega
    · rw [List.filter_cons_of_neg (by simpa using h)]
      simp
      omega
theorem head_ge {l : List Int} {i : Nat} {a : Int} (h : l.Pairwise (· ≥ ·)) (e : l[i]? = some a) : a ≤ l.headD 0 := by
  cases l with
  | nil => simp at e
  | cons x l =>
    cases i with
    | zero => cases e; exact Int.le_refl _
    | succ i => exact (List.pairwise_cons.mp h).1 a (List.mem_of_getElem? (by simpa using e))
theorem cols_head {l : List Int} (hp : ∀ x ∈ l, 1 ≤ x) : (cols l).headD 0 = (l.length : Int) := by
  cases l with
  | nil => rfl
  | cons x l =>
    have hx := hp x List.mem_cons_self
    have : (cols (x :: l))[0]? = some (cnt (x :: l) (1 + (0 : Nat)) : Int) := by
      rw [cols_at, if_pos]
      show 0 < x.toNat
      omega
    rw [List.headD_eq_head?_getD, List.head?_eq_getElem?, this]
    show ((cnt (x :: l) (1 + (0 : Nat)) : Nat) : Int) = _
    rw [cnt_all fun y hy => by have := hp y hy; omega]
theorem cols_cols {l : List Int} (hd : l.Pairwise (· ≥ ·)) (hp : ∀ x ∈ l, 1 ≤ x) : cols (cols l) = l := by
  apply List.ext_getElem?
  intro i
  rw [cols_at, cols_head hp, Int.toNat_natCast]
  split
  · rename_i hi
    obtain ⟨a, ea⟩ : ∃ a, l[i]? = some a := ⟨l[i], List.getElem?_eq_getElem hi⟩
    rw [ea]
    congr 1
    have ha := hp a (List.mem_of_getElem? ea)
    have hh := head_ge hd ea
    have : cnt (cols l) (1 + (i : Int)) = ((List.range (l.headD 0).toNat).filter fun k => decide (k < a.toNat)).length := by
      unfold cnt
      unfold cols
      rw [List.filter_map, List.length_map]
      congr 1
      refine List.filter_congr fun k _ => ?_
      rw [Function.comp]
      refine decide_eq_decide.mpr ?_
      have := cnt_gt (m := 1 + (k : Int)) (i := i) hd
      constructor
      · intro h
        obtain ⟨b, eb, hb⟩ := this.mp (by omega)
        rw [ea] at eb
        cases eb
        omega
      · intro h
        have := this.mpr ⟨a, ea, by omega⟩
        omega
    rw [this, range_cut]
    omega
  · rename_i hi
    rw [List.getElem?_eq_none (by omega)]
theorem sum_add (f g : Nat → Int) : ∀ l : List Nat, (l.map fun k => f k + g k).sum = (l.map f).sum + (l.map g).sum
  | [] => rfl
  | a :: l => by
    simp only [List.map_cons, List.sum_cons]
    rw [sum_add f g l]
    omega
theorem sum_ind (t : Nat) : ∀ n : Nat, ((List.range n).map fun (k : Nat) => if 1 + (k : Int) ≤ (t : Int) then (1 : Int) else 0).sum = (min t n : Nat)
  | 0 => by simp
  | n + 1 => by
    rw [List.range_succ, List.map_append, List.sum_append, sum_ind t n]
    by_cases h : 1 + (n : Int) ≤ (t : Int)
    · simp [h]
      omega
    · simp [h]
      omega
theorem cols_sum_aux (n : Nat) : ∀ {l : List Int}, (∀ x ∈ l, 0 ≤ x ∧ x ≤ n) → ((List.range n).map fun (k : Nat) => (cnt l (1 + (k : Int)) : Int)).sum = l.sum
  | [], _ => by
    have : ((List.range n).map fun (k : Nat) => ((cnt [] (1 + (k : Int)) : Nat) : Int)) = (List.range n).map fun _ => (0 : Int) := rfl
    rw [this, List.map_const', List.sum_replicate_int]
    simp
  | x :: l, h => by
    have h1 := h x List.mem_cons_self
    have ih := cols_sum_aux n fun y hy => h y (List.mem_cons_of_mem _ hy)
    have e : (fun (k : Nat) => ((cnt (x :: l) (1 + (k : Int)) : Nat) : Int)) = fun (k : Nat) => (if 1 + (k : Int) ≤ ((x.toNat : Nat) : Int) then (1 : Int) else 0) + (cnt l (1 + (k : Int)) : Int) := by
      funext k
      rw [cnt_cons, Int.natCast_add, Int.toNat_of_nonneg h1.1]
      split <;> rfl
    rw [e, sum_add, sum_ind, ih, List.sum_cons]
    omega
theorem cols_sum {l : List Int} (hd : l.Pairwise (· ≥ ·)) (hp : ∀ x ∈ l, 1 ≤ x) : (cols l).sum = l.sum := by
  unfold cols
  refine cols_sum_aux _ fun x hx => ?_
  obtain ⟨i, hi, e⟩ := List.getElem_of_mem hx
  have := head_ge (i := i) (a := x) hd (by rw [List.getElem?_eq_getElem hi, e])
  have := hp x hx
  exact ⟨by omega, by omega⟩
theorem val_cnt {ρ : Type} {l : List Int} {m : Int} {set : Int → ρ → ρ} {t : ρ → M Bool} {e : ρ → M Int} {r : ρ} {Q : List Int → Prop} (ht : ∀ b, val (t (set b r)) (· = decide (m ≤ b))) (he : ∀ b, val (e (set b r)) (· = b)) (q : Q (l.filter fun x => decide (m ≤ x))) : val (lcGo set t e r l) Q :=
  val_lcF (fun b => decide (m ≤ b)) (fun b => b) (fun b _ => ht b) (fun b _ _ => he b) (by rw [List.map_id']; exact q)
/-! ### the bands, the steps -/
theorem sum_take {l : List Int} {i : Nat} {a : Int} (e : l[i]? = some a) : (l.take (i + 1)).sum = (l.take i).sum + a := by
  rw [take_next e, List.sum_append]
  simp
theorem bands_of {o : List (List Int)} (h : IsOrd o) {L : List (List (Int × Int) × List (Option Int))} {U : List (Int × Int)} {G : List (Option Int)} (R : Rnds o L) (el : L[L.length - 1]? = some (U, G)) (hlast : ∀ x, gv G (2 * (o.length : Int) + 1) = some x → x ≤ 0) :
    ∃ bs : List Int, bs.length = L.length - 1 ∧ (∀ (i : Nat) V H, i < L.length - 1 → L[i]? = some (V, H) → ∃ d, bs[i]? = some d ∧ gv H (2 * (o.length : Int) + 1) = some d) ∧ bs.Pairwise (· ≥ ·) ∧ (∀ x ∈ bs, 1 ≤ x) ∧ bs.sum = (o.length : Int) ∧ bs.headD 0 = mh o o.length := by
  obtain ⟨bs, ebs⟩ : ∃ bs, bs = (List.range (L.length - 1)).map fun i => match L[i]? with
    | some x => (gv x.2 (2 * (o.length : Int) + 1)).getD 0
    | none => 0 := ⟨_, rfl⟩
  have hlen : bs.length = L.length - 1 := by rw [ebs]; simp
  have pos : 0 < L.length := by
    obtain ⟨G0, e0, _⟩ := R.fst
    exact (List.getElem?_eq_some_iff.mp e0).1
  have at_ : ∀ (i : Nat) V H, i < L.length - 1 → L[i]? = some (V, H) → ∃ d, bs[i]? = some d ∧ gv H (2 * (o.length : Int) + 1) = some d ∧ 0 < d ∧ ∃ V' H', L[i + 1]? = some (V', H') ∧ (cntT o.length V' : Int) = (cntT o.length V : Int) + d ∧ ∀ v x, gv H' v = some x → ∃ y, gv H v = some y ∧ x ≤ y := fun i V H hi e => by
    obtain ⟨⟨V', H'⟩, e'⟩ := at_some (l := L) (j := i + 1) (by omega)
    obtain ⟨d, h1, h2, h3, _, h5⟩ := R.nxt i V H V' H' e e'
    refine ⟨d, ?_, h2, h1, V', H', e', h3, h5⟩
    rw [ebs, List.getElem?_map, List.getElem?_range hi]
    simp [e, h2]
  have step : ∀ (i : Nat) a b, bs[i]? = some a → bs[i + 1]? = some b → b ≤ a := fun i a b ea eb => by
    have hi := (List.getElem?_eq_some_iff.mp eb).1
    obtain ⟨⟨V, H⟩, e⟩ := at_some (l := L) (j := i) (by omega)
    obtain ⟨d, h1, h2, h3, V', H', e', _, h5⟩ := at_ i V H (by omega) e
    obtain ⟨d', h1', h2', _⟩ := at_ (i + 1) V' H' (by omega) e'
    rw [ea] at h1
    rw [eb] at h1'
    cases h1
    cases h1'
    obtain ⟨y, ey, hy⟩ := h5 _ _ h2'
    rw [h2] at ey
    cases ey
    exact hy
  have far : ∀ (k i : Nat) a b, bs[i]? = some a → bs[i + k]? = some b → b ≤ a := by
    intro k
    induction k with
    | zero =>
      intro i a b ea eb
      rw [Nat.add_zero, ea] at eb
      cases eb
      exact Int.le_refl _
    | succ k ih =>
      intro i a b ea eb
      have hk := (List.getElem?_eq_some_iff.mp eb).1
      obtain ⟨c, ec⟩ := at_some (l := bs) (j := i + k) (by omega)
      have h1 := ih i a c ea ec
      have h2 := step (i + k) c b ec eb
      omega
  have dec : bs.Pairwise (· ≥ ·) := by
    rw [List.pairwise_iff_getElem]
    intro i j hi hj hij
    exact far (j - i) i _ _ (List.getElem?_eq_getElem hi) (by rw [show i + (j - i) = j by omega]; exact List.getElem?_eq_getElem hj)
  have sums : ∀ (i : Nat) V H, i ≤ L.length - 1 → L[i]? = some (V, H) → (bs.take i).sum = (cntT o.length V : Int) := by
    intro i
    induction i with
    | zero =>
      intro V H _ e
      obtain ⟨G0, e0, _⟩ := R.fst
      rw [e0] at e
      cases e
      have : cntT o.length [] = 0 := by simp [cntT]
      simp [this]
    | succ i ih =>
      intro V' H' hi e'
      obtain ⟨⟨V, H⟩, e⟩ := at_some (l := L) (j := i) (by omega)
      obtain ⟨d, h1, h2, h3, V2, H2, e2, h4, _⟩ := at_ i V H (by omega) e
      rw [e'] at e2
      cases e2
      rw [sum_take h1, ih V H (by omega) e, h4]
  have lastU : cntT o.length U = o.length := by
    have full : ∀ t : Int, 0 ≤ t → t < o.length → (2 * t, 2 * t + 1) ∈ U := fun t h0 h1 => by
      by_cases m : (2 * t, 2 * t + 1) ∈ U
      · exact m
      · obtain ⟨_, _, hs, hf⟩ := R.one _ U G el
        obtain ⟨z, ez, hz⟩ := hf (2 * (o.length : Int)) (2 * t) 0 0 (.inl ⟨.inl ⟨rfl, t, h0, h1, rfl⟩, rfl⟩) hs
        obtain ⟨w, ew, hw⟩ := hf (2 * t) (2 * t + 1) 1 z (.inr (.inr (.inr ⟨⟨t, h0, h1, rfl, rfl⟩, m, rfl⟩))) ez
        obtain ⟨y, ey, hy⟩ := to_end hf h0 h1 ew
        have := hlast y ey
        omega
    unfold cntT
    rw [List.filter_eq_self.mpr fun (t : Nat) ht => decide_eq_true (full (t : Int) (by omega) (by have := List.mem_range.mp ht; omega)), List.length_range]
  refine ⟨bs, hlen, fun i V H hi e => ?_, dec, fun x hx => ?_, ?_, ?_⟩
  · obtain ⟨d, h1, h2, _⟩ := at_ i V H hi e
    exact ⟨d, h1, h2⟩
  · obtain ⟨i, hi⟩ := List.getElem?_of_mem hx
    have hl := (List.getElem?_eq_some_iff.mp hi).1
    obtain ⟨⟨V, H⟩, e⟩ := at_some (l := L) (j := i) (by omega)
    obtain ⟨d, h1, _, h3, _⟩ := at_ i V H (by omega) e
    rw [hi] at h1
    cases h1
    omega
  · have := sums (L.length - 1) U G (Nat.le_refl _) el
    rw [List.take_of_length_le (by omega), lastU] at this
    exact this
  · obtain ⟨G0, e0, up0⟩ := R.fst
    obtain ⟨_, _, hs0, hf0⟩ := R.one 0 [] G0 e0
    have top : 0 < mh o o.length → ∃ y, gv G0 (2 * (o.length : Int) + 1) = some y ∧ mh o o.length ≤ y := fun hm => by
      obtain ⟨k, hk, ek⟩ := mh_some hm
      obtain ⟨x, ex, hx⟩ := far0 h hs0 hf0 o.length (k : Int) (by omega) (by omega) (by omega)
      obtain ⟨y, ey, hy⟩ := to_end hf0 (t := (k : Int)) (by omega) (by omega) ex
      exact ⟨y, ey, by omega⟩
    by_cases one : L.length = 1
    · have eb : bs = [] := List.length_eq_zero_iff.mp (by omega)
      have hm0 := mh_pos (o := o) (i := o.length)
      rw [eb]
      show (0 : Int) = _
      rw [one] at el
      rw [e0] at el
      cases el
      by_cases hm : 0 < mh o o.length
      · obtain ⟨y, ey, hy⟩ := top hm
        have := hlast y ey
        omega
      · omega
    · obtain ⟨d, h1, h2, h3, _⟩ := at_ 0 [] G0 (by omega) e0
      obtain ⟨y, ey, hy⟩ := up0 _ _ h2
      rw [pi1_at (by omega), pi0_e] at ey
      cases ey
      have : bs.headD 0 = d := by
        rw [List.headD_eq_head?_getD, List.head?_eq_getElem?, h1]
        rfl
      rw [this]
      by_cases hm : 0 < mh o o.length
      · obtain ⟨y, ey, hy⟩ := top hm
        rw [h2] at ey
        cases ey
        omega
      · omega
/-- the bands of an order -/
structure Bands (o : List (List Int)) (bs : List Int) : Prop where
  dec : bs.Pairwise (· ≥ ·)
  pos : ∀ x ∈ bs, 1 ≤ x
  sum : bs.sum = (o.length : Int)
  top : bs.headD 0 = mh o o.length
theorem cut_last {α : Type} (l : List α) (h : l ≠ []) : cutA l none (some (-1)) = l.dropLast := by
  unfold cutA
  have e0 : HT.sIx l.length 0 none = 0 := rfl
  have hp := List.length_pos_iff.mpr h
  have e1 : HT.sIx l.length l.length (some (-1)) = l.length - 1 := by
    unfold HT.sIx
    simp
    omega
  rw [e0, e1, List.drop_zero, List.dropLast_eq_take]
  rfl
theorem by_ok {o : List (List Int)} {L : List (List (Int × Int) × List (Option Int))} {bs : List Int} (hL : 0 < L.length) (hlen : bs.length = L.length - 1) (R : Rnds o L) (hat : ∀ (i : Nat) V H, i < L.length - 1 → L[i]? = some (V, H) → ∃ d, bs[i]? = some d ∧ gv H (2 * (o.length : Int) + 1) = some d) : m_bands_by (o, L.map rd, ()) = .ok bs := by
  refine val_eq ?_
  simp only [m_bands_by, b_bands_by, val_ok, val_er, val_bind, val_up, val_mute, val_ite, opt_some, opt_none, opt_ite, val_e0, val_eV, val_e1, val_e2, val_e3, val_eIf, val_eAnd, val_eOr, val_lift, val_eNil, val_eCons, val_eLst, val_ePair, val_eEnum, val_eZip, val_eRev, val_oNone, val_oSome, val_eCut, val_aNil, val_aCons, val_eCall, val_eLc, wp_nx, wp_rt, wp_bk, wp_ct, wp_bind, wp_seq, wp_set, wp_if, wp_ret, wp_drop, wp_nil, wp_fbk, wp_fct, wp_mut1, wp_for, val_runR, opt_add, opt_sub, opt_neg, opt_lt, opt_le, opt_gt, opt_ge, opt_eqS, opt_neS, opt_eqD, opt_neD, opt_in, opt_nin, opt_len, opt_lenScr, opt_abs, opt_max2, opt_min2, opt_sum, opt_sort, opt_intB, opt_maxC, opt_minC, val_pV, val_pIx, wp_mutP, wp_putP, wq_nx, wq_rt, wq_bk, wq_ct, wq_bind, wq_seq, wq_set, wq_if, wq_ret, wq_drop, wq_nil, wq_fbk, wq_fct, wq_mut1, wq_for, val_E1, val_E2, val_iNil, val_iBy, val_iIo, val_eCallI, val_tAnd2, val_tOr2, val_tNot2, val_eTpl, wp_stuck, wq_stuck, wp_unp, wq_unp, wp_for2, wq_for2, wp_ins, wq_ins, wp_mut0, wq_mut0, wq_mutP, wq_putP, wp_augP, wq_augP, wp_put2, wq_put2, val_runI, val_runIU, opt_isBB, opt_isnBB, opt_ixTp, opt_sortR, opt_sortP, val_runRU, val_ePop, wp_dput, wq_dput, opt_inD, opt_ninD, opt_lenD, opt_getDo, opt_and, val_eDget, val_eIxO, opt_isNo, opt_isSo, opt_unO, opt_toO, numF_id, wq_forO, wp_forO, val_eCutS, val_eTl, val_eCut2, val_eCallX, wp_raise, opt_cnt, opt_allB, opt_scI, opt_scB, opt_scS, opt_scN, opt_lsY, opt_toI, opt_inQz, opt_inQq, opt_toZ, opt_keysZ, wp_dputQ, wp_dpopQ, wp_dcopy]
  rw [cut_last _ (by intro e; rw [List.map_eq_nil_iff] at e; rw [e] at hL; simp at hL)]
  refine val_lcA (fun x => (gv x.2 (2 * (o.length : Int) + 1)).getD 0) (fun x hx => ?_) ?_
  · obtain ⟨i, hi⟩ := List.getElem?_of_mem hx
    have hl := (List.getElem?_eq_some_iff.mp hi).1
    rw [List.length_dropLast, List.length_map] at hl
    rw [List.getElem?_dropLast, List.length_map, if_pos hl, List.getElem?_map] at hi
    obtain ⟨⟨V, H⟩, e, ex⟩ := Option.map_eq_some_iff.mp hi
    subst ex
    obtain ⟨d, h1, h2⟩ := hat i V H hl e
    have hg := (R.one i V H e).2.1
    simp only [val_ok, val_er, val_bind, val_up, val_mute, val_ite, opt_some, opt_none, opt_ite, val_e0, val_eV, val_e1, val_e2, val_e3, val_eIf, val_eAnd, val_eOr, val_lift, val_eNil, val_eCons, val_eLst, val_ePair, val_eEnum, val_eZip, val_eRev, val_oNone, val_oSome, val_eCut, val_aNil, val_aCons, val_eCall, val_eLc, wp_nx, wp_rt, wp_bk, wp_ct, wp_bind, wp_seq, wp_set, wp_if, wp_ret, wp_drop, wp_nil, wp_fbk, wp_fct, wp_mut1, wp_for, val_runR, opt_add, opt_sub, opt_neg, opt_lt, opt_le, opt_gt, opt_ge, opt_eqS, opt_neS, opt_eqD, opt_neD, opt_in, opt_nin, opt_len, opt_lenScr, opt_abs, opt_max2, opt_min2, opt_sum, opt_sort, opt_intB, opt_maxC, opt_minC, val_pV, val_pIx, wp_mutP, wp_putP, wq_nx, wq_rt, wq_bk, wq_ct, wq_bind, wq_seq, wq_set, wq_if, wq_ret, wq_drop, wq_nil, wq_fbk, wq_fct, wq_mut1, wq_for, val_E1, val_E2, val_iNil, val_iBy, val_iIo, val_eCallI, val_tAnd2, val_tOr2, val_tNot2, val_eTpl, wp_stuck, wq_stuck, wp_unp, wq_unp, wp_for2, wq_for2, wp_ins, wq_ins, wp_mut0, wq_mut0, wq_mutP, wq_putP, wp_augP, wq_augP, wp_put2, wq_put2, val_runI, val_runIU, opt_isBB, opt_isnBB, opt_ixTp, opt_sortR, opt_sortP, val_runRU, val_ePop, wp_dput, wq_dput, opt_inD, opt_ninD, opt_lenD, opt_getDo, opt_and, val_eDget, val_eIxO, opt_isNo, opt_isSo, opt_unO, opt_toO, numF_id, wq_forO, wp_forO, val_eCutS, val_eTl, val_eCut2, val_eCallX, wp_raise, opt_cnt, opt_allB, opt_scI, opt_scB, opt_scS, opt_scN, opt_lsY, opt_toI, opt_inQz, opt_inQq, opt_toZ, opt_keysZ, wp_dputQ, wp_dpopQ, wp_dcopy, end_ok]
    show opt (ixL H _) _
    rw [ix_gv (by omega) (by omega), h2]
    simp only [opt_some]
    show d = (gv H _).getD 0
    rw [h2]
    rfl
  · apply List.ext_getElem?
    intro i
    rw [List.getElem?_map, List.getElem?_dropLast, List.length_map]
    by_cases hl : i < L.length - 1
    · rw [if_pos hl, List.getElem?_map]
      obtain ⟨⟨V, H⟩, e⟩ := at_some (l := L) (j := i) (by omega)
      obtain ⟨d, h1, h2⟩ := hat i V H hl e
      rw [e, h1]
      show some ((gv H _).getD 0) = _
      rw [h2]
      rfl
    · rw [if_neg hl, List.getElem?_eq_none (by omega)]
      rfl
theorem bands_ok {o : List (List Int)} (h : IsOrd o) (hl : o.length ≤ 14) : ∃ bs, m_bands (o, ()) = .ok bs ∧ Bands o bs := by
  obtain ⟨f, ef, L, U, G, e1, R, el, _, hlast⟩ := val_ex (rounds_ok h hl)
  obtain ⟨bs, hlen, hat, b1, b2, b3, b4⟩ := bands_of h R el hlast
  refine ⟨bs, val_eq ?_, b1, b2, b3, b4⟩
  simp only [m_bands, b_bands, val_ok, val_er, val_bind, val_up, val_mute, val_ite, opt_some, opt_none, opt_ite, val_e0, val_eV, val_e1, val_e2, val_e3, val_eIf, val_eAnd, val_eOr, val_lift, val_eNil, val_eCons, val_eLst, val_ePair, val_eEnum, val_eZip, val_eRev, val_oNone, val_oSome, val_eCut, val_aNil, val_aCons, val_eCall, val_eLc, wp_nx, wp_rt, wp_bk, wp_ct, wp_bind, wp_seq, wp_set, wp_if, wp_ret, wp_drop, wp_nil, wp_fbk, wp_fct, wp_mut1, wp_for, val_runR, opt_add, opt_sub, opt_neg, opt_lt, opt_le, opt_gt, opt_ge, opt_eqS, opt_neS, opt_eqD, opt_neD, opt_in, opt_nin, opt_len, opt_lenScr, opt_abs, opt_max2, opt_min2, opt_sum, opt_sort, opt_intB, opt_maxC, opt_minC, val_pV, val_pIx, wp_mutP, wp_putP, wq_nx, wq_rt, wq_bk, wq_ct, wq_bind, wq_seq, wq_set, wq_if, wq_ret, wq_drop, wq_nil, wq_fbk, wq_fct, wq_mut1, wq_for, val_E1, val_E2, val_iNil, val_iBy, val_iIo, val_eCallI, val_tAnd2, val_tOr2, val_tNot2, val_eTpl, wp_stuck, wq_stuck, wp_unp, wq_unp, wp_for2, wq_for2, wp_ins, wq_ins, wp_mut0, wq_mut0, wq_mutP, wq_putP, wp_augP, wq_augP, wp_put2, wq_put2, val_runI, val_runIU, opt_isBB, opt_isnBB, opt_ixTp, opt_sortR, opt_sortP, val_runRU, val_ePop, wp_dput, wq_dput, opt_inD, opt_ninD, opt_lenD, opt_getDo, opt_and, val_eDget, val_eIxO, opt_isNo, opt_isSo, opt_unO, opt_toO, numF_id, wq_forO, wp_forO, val_eCutS, val_eTl, val_eCut2, val_eCallX, wp_raise, opt_cnt, opt_allB, opt_scI, opt_scB, opt_scS, opt_scN, opt_lsY, opt_toI, opt_inQz, opt_inQq, opt_toZ, opt_keysZ, wp_dputQ, wp_dpopQ, wp_dcopy, ef]
  rw [e1, by_ok (by obtain ⟨G0, e0, _⟩ := R.fst; exact (List.getElem?_eq_some_iff.mp e0).1) hlen R hat]
  rfl
theorem cnt_none {l : List Int} {m : Int} (h : ∀ x ∈ l, x < m) : cnt l m = 0 := by
  unfold cnt
  rw [List.filter_eq_nil_iff.mpr fun x hx => by have := h x hx; simp; omega]
  rfl
theorem cnt_snoc (l : List Int) (v m : Int) : cnt (l ++ [v]) m = cnt l m + if m ≤ v then 1 else 0 := by
  unfold cnt
  rw [List.filter_append, List.length_append]
  congr 1
  by_cases h : m ≤ v <;> simp [h]
theorem columns_ok {l : List Int} (hd : l.Pairwise (· ≥ ·)) (hp : ∀ x ∈ l, 1 ≤ x ∧ x ≤ 1000) : m_columns_of (l, ()) = .ok (cols l) := by
  refine val_eq ?_
  simp only [m_columns_of, b_columns_of, val_runR]
  refine wp_step (fun r => r.v_row = l ∧ r.v_found = []) (by simp only [val_ok, val_er, val_bind, val_up, val_mute, val_ite, opt_some, opt_none, opt_ite, val_e0, val_eV, val_e1, val_e2, val_e3, val_eIf, val_eAnd, val_eOr, val_lift, val_eNil, val_eCons, val_eLst, val_ePair, val_eEnum, val_eZip, val_eRev, val_oNone, val_oSome, val_eCut, val_aNil, val_aCons, val_eCall, val_eLc, wp_nx, wp_rt, wp_bk, wp_ct, wp_bind, wp_seq, wp_set, wp_if, wp_ret, wp_drop, wp_nil, wp_fbk, wp_fct, wp_mut1, wp_for, val_runR, opt_add, opt_sub, opt_neg, opt_lt, opt_le, opt_gt, opt_ge, opt_eqS, opt_neS, opt_eqD, opt_neD, opt_in, opt_nin, opt_len, opt_lenScr, opt_abs, opt_max2, opt_min2, opt_sum, opt_sort, opt_intB, opt_maxC, opt_minC, val_pV, val_pIx, wp_mutP, wp_putP, wq_nx, wq_rt, wq_bk, wq_ct, wq_bind, wq_seq, wq_set, wq_if, wq_ret, wq_drop, wq_nil, wq_fbk, wq_fct, wq_mut1, wq_for, val_E1, val_E2, val_iNil, val_iBy, val_iIo, val_eCallI, val_tAnd2, val_tOr2, val_tNot2, val_eTpl, wp_stuck, wq_stuck, wp_unp, wq_unp, wp_for2, wq_for2, wp_ins, wq_ins, wp_mut0, wq_mut0, wq_mutP, wq_putP, wp_augP, wq_augP, wp_put2, wq_put2, val_runI, val_runIU, opt_isBB, opt_isnBB, opt_ixTp, opt_sortR, opt_sortP, val_runRU, val_ePop, wp_dput, wq_dput, opt_inD, opt_ninD, opt_lenD, opt_getDo, opt_and, val_eDget, val_eIxO, opt_isNo, opt_isSo, opt_unO, opt_toO, numF_id, wq_forO, wp_forO, val_eCutS, val_eTl, val_eCut2, val_eCallX, wp_raise, opt_cnt, opt_allB, opt_scI, opt_scB, opt_scS, opt_scN, opt_lsY, opt_toI, opt_inQz, opt_inQq, opt_toZ, opt_keysZ, wp_dputQ, wp_dpopQ, wp_dcopy]; exact ⟨by trivial, by trivial⟩) fun r ⟨a1, a2⟩ => ?_
  refine wp_step (fun r => r.v_found = cols l) ?_ fun r e => by simp only [val_ok, val_er, val_bind, val_up, val_mute, val_ite, opt_some, opt_none, opt_ite, val_e0, val_eV, val_e1, val_e2, val_e3, val_eIf, val_eAnd, val_eOr, val_lift, val_eNil, val_eCons, val_eLst, val_ePair, val_eEnum, val_eZip, val_eRev, val_oNone, val_oSome, val_eCut, val_aNil, val_aCons, val_eCall, val_eLc, wp_nx, wp_rt, wp_bk, wp_ct, wp_bind, wp_seq, wp_set, wp_if, wp_ret, wp_drop, wp_nil, wp_fbk, wp_fct, wp_mut1, wp_for, val_runR, opt_add, opt_sub, opt_neg, opt_lt, opt_le, opt_gt, opt_ge, opt_eqS, opt_neS, opt_eqD, opt_neD, opt_in, opt_nin, opt_len, opt_lenScr, opt_abs, opt_max2, opt_min2, opt_sum, opt_sort, opt_intB, opt_maxC, opt_minC, val_pV, val_pIx, wp_mutP, wp_putP, wq_nx, wq_rt, wq_bk, wq_ct, wq_bind, wq_seq, wq_set, wq_if, wq_ret, wq_drop, wq_nil, wq_fbk, wq_fct, wq_mut1, wq_for, val_E1, val_E2, val_iNil, val_iBy, val_iIo, val_eCallI, val_tAnd2, val_tOr2, val_tNot2, val_eTpl, wp_stuck, wq_stuck, wp_unp, wq_unp, wp_for2, wq_for2, wp_ins, wq_ins, wp_mut0, wq_mut0, wq_mutP, wq_putP, wp_augP, wq_augP, wp_put2, wq_put2, val_runI, val_runIU, opt_isBB, opt_isnBB, opt_ixTp, opt_sortR, opt_sortP, val_runRU, val_ePop, wp_dput, wq_dput, opt_inD, opt_ninD, opt_lenD, opt_getDo, opt_and, val_eDget, val_eIxO, opt_isNo, opt_isSo, opt_unO, opt_toO, numF_id, wq_forO, wp_forO, val_eCutS, val_eTl, val_eCut2, val_eCallX, wp_raise, opt_cnt, opt_allB, opt_scI, opt_scB, opt_scS, opt_scN, opt_lsY, opt_toI, opt_inQz, opt_inQq, opt_toZ, opt_keysZ, wp_dputQ, wp_dpopQ, wp_dcopy]; exact e
  simp only [wp_for, val_eV, a1]
  refine wp_loop (fun i r => r.v_found.length = ((l.take i).headD 0).toNat ∧ ∀ (p : Nat), p < r.v_found.length → r.v_found[p]? = some (cnt (l.take i) (1 + (p : Int)) : Int)) ⟨by rw [a2]; simp, fun p hp => by rw [a2] at hp; simp at hp⟩ (fun i v r e ⟨b1, b2⟩ => ?_) (fun r ⟨b1, b2⟩ => ?_)
  · have hv := hp v (List.mem_of_getElem? e)
    have hi := (List.getElem?_eq_some_iff.mp e).1
    have hdt : (l.take i).Pairwise (· ≥ ·) := hd.sublist (List.take_sublist _ _)
    have hle : ∀ x ∈ l.take i, v ≤ x ∧ x ≤ (l.take i).headD 0 ∧ x ≤ 1000 := fun x hx => by
      obtain ⟨j, hj⟩ := List.getElem?_of_mem hx
      have h3 := head_ge hdt hj
      have h4 := hp x (List.mem_of_mem_take hx)
      refine ⟨?_, h3, h4.2⟩
      rw [List.getElem?_take] at hj
      split at hj
      · rename_i hji
        have := List.pairwise_iff_getElem.mp hd j i (by omega) hi hji
        obtain ⟨_, g1⟩ := List.getElem?_eq_some_iff.mp hj
        obtain ⟨_, g2⟩ := List.getElem?_eq_some_iff.mp e
        rw [g1, g2] at this
        exact this
      · cases hj
    obtain ⟨m, em⟩ : ∃ m, m = ((l.take i).headD 0).toNat := ⟨_, rfl⟩
    have hm1 : m ≤ 1000 := by
      rw [em]
      cases ht : l.take i with
      | nil => simp
      | cons x t =>
        have := (hle x (by rw [ht]; exact List.mem_cons_self)).2.2
        show x.toNat ≤ 1000
        omega
    have hz : ∀ k : Nat, m ≤ k → cnt (l.take i) (1 + (k : Int)) = 0 := fun k hk => cnt_none fun x hx => by
      have := (hle x hx).2.1
      omega
    rw [← em] at b1
    simp only [val_ok, val_er, val_bind, val_up, val_mute, val_ite, opt_some, opt_none, opt_ite, val_e0, val_eV, val_e1, val_e2, val_e3, val_eIf, val_eAnd, val_eOr, val_lift, val_eNil, val_eCons, val_eLst, val_ePair, val_eEnum, val_eZip, val_eRev, val_oNone, val_oSome, val_eCut, val_aNil, val_aCons, val_eCall, val_eLc, wp_nx, wp_rt, wp_bk, wp_ct, wp_bind, wp_seq, wp_set, wp_if, wp_ret, wp_drop, wp_nil, wp_fbk, wp_fct, wp_mut1, wp_for, val_runR, opt_add, opt_sub, opt_neg, opt_lt, opt_le, opt_gt, opt_ge, opt_eqS, opt_neS, opt_eqD, opt_neD, opt_in, opt_nin, opt_len, opt_lenScr, opt_abs, opt_max2, opt_min2, opt_sum, opt_sort, opt_intB, opt_maxC, opt_minC, val_pV, val_pIx, wp_mutP, wp_putP, wq_nx, wq_rt, wq_bk, wq_ct, wq_bind, wq_seq, wq_set, wq_if, wq_ret, wq_drop, wq_nil, wq_fbk, wq_fct, wq_mut1, wq_for, val_E1, val_E2, val_iNil, val_iBy, val_iIo, val_eCallI, val_tAnd2, val_tOr2, val_tNot2, val_eTpl, wp_stuck, wq_stuck, wp_unp, wq_unp, wp_for2, wq_for2, wp_ins, wq_ins, wp_mut0, wq_mut0, wq_mutP, wq_putP, wp_augP, wq_augP, wp_put2, wq_put2, val_runI, val_runIU, opt_isBB, opt_isnBB, opt_ixTp, opt_sortR, opt_sortP, val_runRU, val_ePop, wp_dput, wq_dput, opt_inD, opt_ninD, opt_lenD, opt_getDo, opt_and, val_eDget, val_eIxO, opt_isNo, opt_isSo, opt_unO, opt_toO, numF_id, wq_forO, wp_forO, val_eCutS, val_eTl, val_eCut2, val_eCallX, wp_raise, opt_cnt, opt_allB, opt_scI, opt_scB, opt_scS, opt_scN, opt_lsY, opt_toI, opt_inQz, opt_inQq, opt_toZ, opt_keysZ, wp_dputQ, wp_dpopQ, wp_dcopy]
    rw [opt_rng1 (by omega)]
    refine wp_loop (fun k r => r.v_found.length = max m k ∧ ∀ (p : Nat), p < r.v_found.length → r.v_found[p]? = some ((cnt (l.take i) (1 + (p : Int)) : Int) + if p < k then 1 else 0)) ⟨by rw [b1]; omega, fun p hp => by rw [b2 p hp]; simp⟩ (fun k q r e2 ⟨c1, c2⟩ => ?_) (fun r ⟨c1, c2⟩ => ⟨?_, fun p hp' => ?_⟩)
    · have hk := (rng_at e2).1
      have hq := (rng_at e2).2
      subst hq
      simp only [val_ok, val_er, val_bind, val_up, val_mute, val_ite, opt_some, opt_none, opt_ite, val_e0, val_eV, val_e1, val_e2, val_e3, val_eIf, val_eAnd, val_eOr, val_lift, val_eNil, val_eCons, val_eLst, val_ePair, val_eEnum, val_eZip, val_eRev, val_oNone, val_oSome, val_eCut, val_aNil, val_aCons, val_eCall, val_eLc, wp_nx, wp_rt, wp_bk, wp_ct, wp_bind, wp_seq, wp_set, wp_if, wp_ret, wp_drop, wp_nil, wp_fbk, wp_fct, wp_mut1, wp_for, val_runR, opt_add, opt_sub, opt_neg, opt_lt, opt_le, opt_gt, opt_ge, opt_eqS, opt_neS, opt_eqD, opt_neD, opt_in, opt_nin, opt_len, opt_lenScr, opt_abs, opt_max2, opt_min2, opt_sum, opt_sort, opt_intB, opt_maxC, opt_minC, val_pV, val_pIx, wp_mutP, wp_putP, wq_nx, wq_rt, wq_bk, wq_ct, wq_bind, wq_seq, wq_set, wq_if, wq_ret, wq_drop, wq_nil, wq_fbk, wq_fct, wq_mut1, wq_for, val_E1, val_E2, val_iNil, val_iBy, val_iIo, val_eCallI, val_tAnd2, val_tOr2, val_tNot2, val_eTpl, wp_stuck, wq_stuck, wp_unp, wq_unp, wp_for2, wq_for2, wp_ins, wq_ins, wp_mut0, wq_mut0, wq_mutP, wq_putP, wp_augP, wq_augP, wp_put2, wq_put2, val_runI, val_runIU, opt_isBB, opt_isnBB, opt_ixTp, opt_sortR, opt_sortP, val_runRU, val_ePop, wp_dput, wq_dput, opt_inD, opt_ninD, opt_lenD, opt_getDo, opt_and, val_eDget, val_eIxO, opt_isNo, opt_isSo, opt_unO, opt_toO, numF_id, wq_forO, wp_forO, val_eCutS, val_eTl, val_eCut2, val_eCallX, wp_raise, opt_cnt, opt_allB, opt_scI, opt_scB, opt_scS, opt_scN, opt_lsY, opt_toI, opt_inQz, opt_inQq, opt_toZ, opt_keysZ, wp_dputQ, wp_dpopQ, wp_dcopy]
      by_cases hlen : (k : Int) = (r.v_found.length : Int)
      · rw [if_pos (by simpa using hlen), opt_appE (by omega)]
        rw [opt_ixE (a := 0) (by omega) (by rw [Int.toNat_natCast, List.getElem?_append_right (by omega), show k - r.v_found.length = 0 by omega]; rfl), opt_putE (by omega) (by simp; omega)]
        refine ⟨by simp; omega, fun p hp' => ?_⟩
        rw [List.length_set, List.length_append, List.length_singleton] at hp'
        rw [Int.toNat_natCast]
        by_cases z : p = k
        · subst z
          rw [List.getElem?_set_self (by simp; omega), hz p (by omega)]
          simp
        · rw [List.getElem?_set_ne (by omega), List.getElem?_append_left (by omega), c2 p (by omega)]
          congr 2
          by_cases w : p < k
          · rw [if_pos w, if_pos (by omega)]
          · rw [if_neg w, if_neg (by omega)]
      · rw [if_neg (by simpa using hlen)]
        have hkl : k < r.v_found.length := by omega
        rw [opt_ixE (a := (cnt (l.take i) (1 + (k : Int)) : Int) + if k < k then 1 else 0) (by omega) (by rw [Int.toNat_natCast]; exact c2 k hkl), opt_putE (by omega) (by omega)]
        refine ⟨by rw [List.length_set]; omega, fun p hp' => ?_⟩
        rw [List.length_set] at hp'
        rw [Int.toNat_natCast]
        by_cases z : p = k
        · subst z
          rw [List.getElem?_set_self hp', if_neg (by omega), if_pos (by omega)]
          simp
        · rw [List.getElem?_set_ne (by omega), c2 p hp']
          congr 2
          by_cases w : p < k
          · rw [if_pos w, if_pos (by omega)]
          · rw [if_neg w, if_neg (by omega)]
    · rw [c1, List.length_map, List.length_range, take_next e]
      cases ht : l.take i with
      | nil =>
        rw [ht] at em
        simp at em
        subst em
        simp
      | cons x t =>
        have := hle x (by rw [ht]; exact List.mem_cons_self)
        rw [ht] at em
        have em : m = x.toNat := em
        show max m v.toNat = x.toNat
        omega
    · rw [c2 p hp', List.length_map, List.length_range, take_next e, cnt_snoc]
      congr 1
      by_cases w : p < v.toNat
      · rw [if_pos w, if_pos (by omega)]
        omega
      · rw [if_neg w, if_neg (by omega)]
        omega
  · rw [List.take_length] at b1 b2
    apply List.ext_getElem?
    intro p
    rw [cols_at]
    by_cases hp' : p < r.v_found.length
    · rw [b2 p hp', if_pos (by omega)]
    · rw [List.getElem?_eq_none (by omega), if_neg (by omega)]
theorem steps_ok {o : List (List Int)} {bs : List Int} (hl : o.length ≤ 14) (hb : m_bands (o, ()) = .ok bs) (B : Bands o bs) : m_steps (o, ()) = .ok (cols bs) := by
  refine val_eq ?_
  have hs : ∀ (l : List Int), (∀ x ∈ l, 1 ≤ x) → ∀ x ∈ l, x ≤ l.sum := by
    intro l
    induction l with
    | nil => intro _ x hx; cases hx
    | cons y l ih =>
      intro h x hx
      have hy := h y List.mem_cons_self
      have nn : ∀ (m : List Int), (∀ x ∈ m, 1 ≤ x) → 0 ≤ m.sum := by
        intro m
        induction m with
        | nil => intro _; simp
        | cons z m ih =>
          intro h
          have := h z List.mem_cons_self
          have := ih fun x hx => h x (List.mem_cons_of_mem _ hx)
          rw [List.sum_cons]
          omega
      have h2 := nn l fun x hx => h x (List.mem_cons_of_mem _ hx)
      rw [List.sum_cons]
      rcases List.mem_cons.mp hx with e | hx
      · omega
      · have := ih (fun x hx => h x (List.mem_cons_of_mem _ hx)) x hx
        omega
  simp only [m_steps, b_steps, val_ok, val_er, val_bind, val_up, val_mute, val_ite, opt_some, opt_none, opt_ite, val_e0, val_eV, val_e1, val_e2, val_e3, val_eIf, val_eAnd, val_eOr, val_lift, val_eNil, val_eCons, val_eLst, val_ePair, val_eEnum, val_eZip, val_eRev, val_oNone, val_oSome, val_eCut, val_aNil, val_aCons, val_eCall, val_eLc, wp_nx, wp_rt, wp_bk, wp_ct, wp_bind, wp_seq, wp_set, wp_if, wp_ret, wp_drop, wp_nil, wp_fbk, wp_fct, wp_mut1, wp_for, val_runR, opt_add, opt_sub, opt_neg, opt_lt, opt_le, opt_gt, opt_ge, opt_eqS, opt_neS, opt_eqD, opt_neD, opt_in, opt_nin, opt_len, opt_lenScr, opt_abs, opt_max2, opt_min2, opt_sum, opt_sort, opt_intB, opt_maxC, opt_minC, val_pV, val_pIx, wp_mutP, wp_putP, wq_nx, wq_rt, wq_bk, wq_ct, wq_bind, wq_seq, wq_set, wq_if, wq_ret, wq_drop, wq_nil, wq_fbk, wq_fct, wq_mut1, wq_for, val_E1, val_E2, val_iNil, val_iBy, val_iIo, val_eCallI, val_tAnd2, val_tOr2, val_tNot2, val_eTpl, wp_stuck, wq_stuck, wp_unp, wq_unp, wp_for2, wq_for2, wp_ins, wq_ins, wp_mut0, wq_mut0, wq_mutP, wq_putP, wp_augP, wq_augP, wp_put2, wq_put2, val_runI, val_runIU, opt_isBB, opt_isnBB, opt_ixTp, opt_sortR, opt_sortP, val_runRU, val_ePop, wp_dput, wq_dput, opt_inD, opt_ninD, opt_lenD, opt_getDo, opt_and, val_eDget, val_eIxO, opt_isNo, opt_isSo, opt_unO, opt_toO, numF_id, wq_forO, wp_forO, val_eCutS, val_eTl, val_eCut2, val_eCallX, wp_raise, opt_cnt, opt_allB, opt_scI, opt_scB, opt_scS, opt_scN, opt_lsY, opt_toI, opt_inQz, opt_inQq, opt_toZ, opt_keysZ, wp_dputQ, wp_dpopQ, wp_dcopy, hb]
  rw [columns_ok B.dec fun x hx => ⟨B.pos x hx, by have := hs bs B.pos x hx; have := B.sum; omega⟩]
  rfl
theorem max_head {l : List Int} (hd : l.Pairwise (· ≥ ·)) (hp : ∀ x ∈ l, 1 ≤ x) : l.foldl max 0 = l.headD 0 := by
  obtain ⟨h1, h2, h3⟩ := foldl_top (fun x => x) l 0
  have e : l.foldl (fun m x => max m x) 0 = l.foldl max 0 := rfl
  rw [e] at h1 h2 h3
  cases l with
  | nil => rfl
  | cons x l =>
    have a := h2 x List.mem_cons_self
    have px := hp x List.mem_cons_self
    show _ = x
    rcases h3 with z | ⟨y, hy, ey⟩
    · omega
    · obtain ⟨j, hj⟩ := List.getElem?_of_mem hy
      have : y ≤ x := head_ge hd hj
      omega
theorem l_columns_ok {l : List Int} (hd : l.Pairwise (· ≥ ·)) (hp : ∀ x ∈ l, 1 ≤ x) (hb : l.headD 0 ≤ 1000) (hl : l.length ≤ 1000) : m_l_columns (l, ()) = .ok (cols l) := by
  refine val_eq ?_
  have hh : 0 ≤ l.headD 0 := by
    cases l with
    | nil => exact Int.le_refl _
    | cons x l => have := hp x List.mem_cons_self; show 0 ≤ x; omega
  simp only [m_l_columns, b_l_columns, val_runR]
  refine wp_step (fun r => r.v_row_here = l ∧ r.v_found = []) (by simp only [val_ok, val_er, val_bind, val_up, val_mute, val_ite, opt_some, opt_none, opt_ite, val_e0, val_eV, val_e1, val_e2, val_e3, val_eIf, val_eAnd, val_eOr, val_lift, val_eNil, val_eCons, val_eLst, val_ePair, val_eEnum, val_eZip, val_eRev, val_oNone, val_oSome, val_eCut, val_aNil, val_aCons, val_eCall, val_eLc, wp_nx, wp_rt, wp_bk, wp_ct, wp_bind, wp_seq, wp_set, wp_if, wp_ret, wp_drop, wp_nil, wp_fbk, wp_fct, wp_mut1, wp_for, val_runR, opt_add, opt_sub, opt_neg, opt_lt, opt_le, opt_gt, opt_ge, opt_eqS, opt_neS, opt_eqD, opt_neD, opt_in, opt_nin, opt_len, opt_lenScr, opt_abs, opt_max2, opt_min2, opt_sum, opt_sort, opt_intB, opt_maxC, opt_minC, val_pV, val_pIx, wp_mutP, wp_putP, wq_nx, wq_rt, wq_bk, wq_ct, wq_bind, wq_seq, wq_set, wq_if, wq_ret, wq_drop, wq_nil, wq_fbk, wq_fct, wq_mut1, wq_for, val_E1, val_E2, val_iNil, val_iBy, val_iIo, val_eCallI, val_tAnd2, val_tOr2, val_tNot2, val_eTpl, wp_stuck, wq_stuck, wp_unp, wq_unp, wp_for2, wq_for2, wp_ins, wq_ins, wp_mut0, wq_mut0, wq_mutP, wq_putP, wp_augP, wq_augP, wp_put2, wq_put2, val_runI, val_runIU, opt_isBB, opt_isnBB, opt_ixTp, opt_sortR, opt_sortP, val_runRU, val_ePop, wp_dput, wq_dput, opt_inD, opt_ninD, opt_lenD, opt_getDo, opt_and, val_eDget, val_eIxO, opt_isNo, opt_isSo, opt_unO, opt_toO, numF_id, wq_forO, wp_forO, val_eCutS, val_eTl, val_eCut2, val_eCallX, wp_raise, opt_cnt, opt_allB, opt_scI, opt_scB, opt_scS, opt_scN, opt_lsY, opt_toI, opt_inQz, opt_inQq, opt_toZ, opt_keysZ, wp_dputQ, wp_dpopQ, wp_dcopy]; exact ⟨by trivial, by trivial⟩) fun r ⟨a1, a2⟩ => ?_
  refine wp_step (fun r => r.v_found = cols l) ?_ fun r e => by simp only [val_ok, val_er, val_bind, val_up, val_mute, val_ite, opt_some, opt_none, opt_ite, val_e0, val_eV, val_e1, val_e2, val_e3, val_eIf, val_eAnd, val_eOr, val_lift, val_eNil, val_eCons, val_eLst, val_ePair, val_eEnum, val_eZip, val_eRev, val_oNone, val_oSome, val_eCut, val_aNil, val_aCons, val_eCall, val_eLc, wp_nx, wp_rt, wp_bk, wp_ct, wp_bind, wp_seq, wp_set, wp_if, wp_ret, wp_drop, wp_nil, wp_fbk, wp_fct, wp_mut1, wp_for, val_runR, opt_add, opt_sub, opt_neg, opt_lt, opt_le, opt_gt, opt_ge, opt_eqS, opt_neS, opt_eqD, opt_neD, opt_in, opt_nin, opt_len, opt_lenScr, opt_abs, opt_max2, opt_min2, opt_sum, opt_sort, opt_intB, opt_maxC, opt_minC, val_pV, val_pIx, wp_mutP, wp_putP, wq_nx, wq_rt, wq_bk, wq_ct, wq_bind, wq_seq, wq_set, wq_if, wq_ret, wq_drop, wq_nil, wq_fbk, wq_fct, wq_mut1, wq_for, val_E1, val_E2, val_iNil, val_iBy, val_iIo, val_eCallI, val_tAnd2, val_tOr2, val_tNot2, val_eTpl, wp_stuck, wq_stuck, wp_unp, wq_unp, wp_for2, wq_for2, wp_ins, wq_ins, wp_mut0, wq_mut0, wq_mutP, wq_putP, wp_augP, wq_augP, wp_put2, wq_put2, val_runI, val_runIU, opt_isBB, opt_isnBB, opt_ixTp, opt_sortR, opt_sortP, val_runRU, val_ePop, wp_dput, wq_dput, opt_inD, opt_ninD, opt_lenD, opt_getDo, opt_and, val_eDget, val_eIxO, opt_isNo, opt_isSo, opt_unO, opt_toO, numF_id, wq_forO, wp_forO, val_eCutS, val_eTl, val_eCut2, val_eCallX, wp_raise, opt_cnt, opt_allB, opt_scI, opt_scB, opt_scS, opt_scN, opt_lsY, opt_toI, opt_inQz, opt_inQq, opt_toZ, opt_keysZ, wp_dputQ, wp_dpopQ, wp_dcopy]; exact e
  simp only [val_ok, val_er, val_bind, val_up, val_mute, val_ite, opt_some, opt_none, opt_ite, val_e0, val_eV, val_e1, val_e2, val_e3, val_eIf, val_eAnd, val_eOr, val_lift, val_eNil, val_eCons, val_eLst, val_ePair, val_eEnum, val_eZip, val_eRev, val_oNone, val_oSome, val_eCut, val_aNil, val_aCons, val_eCall, val_eLc, wp_nx, wp_rt, wp_bk, wp_ct, wp_bind, wp_seq, wp_set, wp_if, wp_ret, wp_drop, wp_nil, wp_fbk, wp_fct, wp_mut1, wp_for, val_runR, opt_add, opt_sub, opt_neg, opt_lt, opt_le, opt_gt, opt_ge, opt_eqS, opt_neS, opt_eqD, opt_neD, opt_in, opt_nin, opt_len, opt_lenScr, opt_abs, opt_max2, opt_min2, opt_sum, opt_sort, opt_intB, opt_maxC, opt_minC, val_pV, val_pIx, wp_mutP, wp_putP, wq_nx, wq_rt, wq_bk, wq_ct, wq_bind, wq_seq, wq_set, wq_if, wq_ret, wq_drop, wq_nil, wq_fbk, wq_fct, wq_mut1, wq_for, val_E1, val_E2, val_iNil, val_iBy, val_iIo, val_eCallI, val_tAnd2, val_tOr2, val_tNot2, val_eTpl, wp_stuck, wq_stuck, wp_unp, wq_unp, wp_for2, wq_for2, wp_ins, wq_ins, wp_mut0, wq_mut0, wq_mutP, wq_putP, wp_augP, wq_augP, wp_put2, wq_put2, val_runI, val_runIU, opt_isBB, opt_isnBB, opt_ixTp, opt_sortR, opt_sortP, val_runRU, val_ePop, wp_dput, wq_dput, opt_inD, opt_ninD, opt_lenD, opt_getDo, opt_and, val_eDget, val_eIxO, opt_isNo, opt_isSo, opt_unO, opt_toO, numF_id, wq_forO, wp_forO, val_eCutS, val_eTl, val_eCut2, val_eCallX, wp_raise, opt_cnt, opt_allB, opt_scI, opt_scB, opt_scS, opt_scN, opt_lsY, opt_toI, opt_inQz, opt_inQq, opt_toZ, opt_keysZ, wp_dputQ, wp_dpopQ, wp_dcopy, a1]
  rw [if_pos (by show 1 ≤ 2 ^ 24; decide), opt_catE (by simp; omega)]
  simp only [List.cons_append, List.nil_append, opt_maxC, max_head hd hp]
  rw [opt_rng (by omega)]
  refine wp_loop (fun i r => r.v_row_here = l ∧ r.v_found = (List.range i).map fun (k : Nat) => (cnt l (1 + (k : Int)) : Int)) ⟨by first | trivial | exact a1, by rw [a2]; rfl⟩ (fun i b r e ⟨b1, b2⟩ => ?_) (fun r ⟨b1, b2⟩ => ?_)
  · have hi := (rng_at e).1
    have hb := (rng_at e).2
    subst hb
    simp only [val_ok, val_er, val_bind, val_up, val_mute, val_ite, opt_some, opt_none, opt_ite, val_e0, val_eV, val_e1, val_e2, val_e3, val_eIf, val_eAnd, val_eOr, val_lift, val_eNil, val_eCons, val_eLst, val_ePair, val_eEnum, val_eZip, val_eRev, val_oNone, val_oSome, val_eCut, val_aNil, val_aCons, val_eCall, val_eLc, wp_nx, wp_rt, wp_bk, wp_ct, wp_bind, wp_seq, wp_set, wp_if, wp_ret, wp_drop, wp_nil, wp_fbk, wp_fct, wp_mut1, wp_for, val_runR, opt_add, opt_sub, opt_neg, opt_lt, opt_le, opt_gt, opt_ge, opt_eqS, opt_neS, opt_eqD, opt_neD, opt_in, opt_nin, opt_len, opt_lenScr, opt_abs, opt_max2, opt_min2, opt_sum, opt_sort, opt_intB, opt_maxC, opt_minC, val_pV, val_pIx, wp_mutP, wp_putP, wq_nx, wq_rt, wq_bk, wq_ct, wq_bind, wq_seq, wq_set, wq_if, wq_ret, wq_drop, wq_nil, wq_fbk, wq_fct, wq_mut1, wq_for, val_E1, val_E2, val_iNil, val_iBy, val_iIo, val_eCallI, val_tAnd2, val_tOr2, val_tNot2, val_eTpl, wp_stuck, wq_stuck, wp_unp, wq_unp, wp_for2, wq_for2, wp_ins, wq_ins, wp_mut0, wq_mut0, wq_mutP, wq_putP, wp_augP, wq_augP, wp_put2, wq_put2, val_runI, val_runIU, opt_isBB, opt_isnBB, opt_ixTp, opt_sortR, opt_sortP, val_runRU, val_ePop, wp_dput, wq_dput, opt_inD, opt_ninD, opt_lenD, opt_getDo, opt_and, val_eDget, val_eIxO, opt_isNo, opt_isSo, opt_unO, opt_toO, numF_id, wq_forO, wp_forO, val_eCutS, val_eTl, val_eCut2, val_eCallX, wp_raise, opt_cnt, opt_allB, opt_scI, opt_scB, opt_scS, opt_scN, opt_lsY, opt_toI, opt_inQz, opt_inQq, opt_toZ, opt_keysZ, wp_dputQ, wp_dpopQ, wp_dcopy, b1]
    refine val_cnt (m := 1 + (i : Int)) (fun b => ?_) (fun b => ?_) ?_
    · simp only [val_ok, val_er, val_bind, val_up, val_mute, val_ite, opt_some, opt_none, opt_ite, val_e0, val_eV, val_e1, val_e2, val_e3, val_eIf, val_eAnd, val_eOr, val_lift, val_eNil, val_eCons, val_eLst, val_ePair, val_eEnum, val_eZip, val_eRev, val_oNone, val_oSome, val_eCut, val_aNil, val_aCons, val_eCall, val_eLc, wp_nx, wp_rt, wp_bk, wp_ct, wp_bind, wp_seq, wp_set, wp_if, wp_ret, wp_drop, wp_nil, wp_fbk, wp_fct, wp_mut1, wp_for, val_runR, opt_add, opt_sub, opt_neg, opt_lt, opt_le, opt_gt, opt_ge, opt_eqS, opt_neS, opt_eqD, opt_neD, opt_in, opt_nin, opt_len, opt_lenScr, opt_abs, opt_max2, opt_min2, opt_sum, opt_sort, opt_intB, opt_maxC, opt_minC, val_pV, val_pIx, wp_mutP, wp_putP, wq_nx, wq_rt, wq_bk, wq_ct, wq_bind, wq_seq, wq_set, wq_if, wq_ret, wq_drop, wq_nil, wq_fbk, wq_fct, wq_mut1, wq_for, val_E1, val_E2, val_iNil, val_iBy, val_iIo, val_eCallI, val_tAnd2, val_tOr2, val_tNot2, val_eTpl, wp_stuck, wq_stuck, wp_unp, wq_unp, wp_for2, wq_for2, wp_ins, wq_ins, wp_mut0, wq_mut0, wq_mutP, wq_putP, wp_augP, wq_augP, wp_put2, wq_put2, val_runI, val_runIU, opt_isBB, opt_isnBB, opt_ixTp, opt_sortR, opt_sortP, val_runRU, val_ePop, wp_dput, wq_dput, opt_inD, opt_ninD, opt_lenD, opt_getDo, opt_and, val_eDget, val_eIxO, opt_isNo, opt_isSo, opt_unO, opt_toO, numF_id, wq_forO, wp_forO, val_eCutS, val_eTl, val_eCut2, val_eCallX, wp_raise, opt_cnt, opt_allB, opt_scI, opt_scB, opt_scS, opt_scN, opt_lsY, opt_toI, opt_inQz, opt_inQq, opt_toZ, opt_keysZ, wp_dputQ, wp_dpopQ, wp_dcopy]
    · simp only [val_ok, val_er, val_bind, val_up, val_mute, val_ite, opt_some, opt_none, opt_ite, val_e0, val_eV, val_e1, val_e2, val_e3, val_eIf, val_eAnd, val_eOr, val_lift, val_eNil, val_eCons, val_eLst, val_ePair, val_eEnum, val_eZip, val_eRev, val_oNone, val_oSome, val_eCut, val_aNil, val_aCons, val_eCall, val_eLc, wp_nx, wp_rt, wp_bk, wp_ct, wp_bind, wp_seq, wp_set, wp_if, wp_ret, wp_drop, wp_nil, wp_fbk, wp_fct, wp_mut1, wp_for, val_runR, opt_add, opt_sub, opt_neg, opt_lt, opt_le, opt_gt, opt_ge, opt_eqS, opt_neS, opt_eqD, opt_neD, opt_in, opt_nin, opt_len, opt_lenScr, opt_abs, opt_max2, opt_min2, opt_sum, opt_sort, opt_intB, opt_maxC, opt_minC, val_pV, val_pIx, wp_mutP, wp_putP, wq_nx, wq_rt, wq_bk, wq_ct, wq_bind, wq_seq, wq_set, wq_if, wq_ret, wq_drop, wq_nil, wq_fbk, wq_fct, wq_mut1, wq_for, val_E1, val_E2, val_iNil, val_iBy, val_iIo, val_eCallI, val_tAnd2, val_tOr2, val_tNot2, val_eTpl, wp_stuck, wq_stuck, wp_unp, wq_unp, wp_for2, wq_for2, wp_ins, wq_ins, wp_mut0, wq_mut0, wq_mutP, wq_putP, wp_augP, wq_augP, wp_put2, wq_put2, val_runI, val_runIU, opt_isBB, opt_isnBB, opt_ixTp, opt_sortR, opt_sortP, val_runRU, val_ePop, wp_dput, wq_dput, opt_inD, opt_ninD, opt_lenD, opt_getDo, opt_and, val_eDget, val_eIxO, opt_isNo, opt_isSo, opt_unO, opt_toO, numF_id, wq_forO, wp_forO, val_eCutS, val_eTl, val_eCut2, val_eCallX, wp_raise, opt_cnt, opt_allB, opt_scI, opt_scB, opt_scS, opt_scN, opt_lsY, opt_toI, opt_inQz, opt_inQq, opt_toZ, opt_keysZ, wp_dputQ, wp_dpopQ, wp_dcopy]
    · rw [opt_appE (by rw [b2]; simp; omega)]
      refine ⟨by trivial, ?_⟩
      rw [b2, List.range_succ, List.map_append]
      rfl
  · rw [b2]
    unfold cols
    rw [List.length_map, List.length_range, show (l.headD 0 + 1 - 1).toNat = (l.headD 0).toNat by omega]
theorem law_true (ns : List Int) (h : ns.length ≤ 63) : m_law (⟨ns⟩, ()) = .ok true := by
  refine val_eq ?_
  obtain ⟨c, ec⟩ := l_cell_ok ⟨ns⟩ 0 (by decide)
  simp only [m_law, b_law, val_runR, wp_seq, wp_for, val_e2, val_eLst, val_eCons, val_eCall, val_aCons, val_eV, val_e0, val_aNil, val_eNil, ec, val_ok, val_eCut, val_oSome, val_bind, val_ite, val_er, wp_ret, val_lift]
  rw [if_pos (by show _ ≤ 2 ^ 24; simp), if_pos (by show _ ≤ 2 ^ 24; omega), opt_catE (by have := cutA_length ns (some 1) (some 6); simp; omega)]
  refine wp_loop (fun _ _ => True) trivial (fun i b r e _ => ?_) (fun r _ => trivial)
  obtain ⟨o, eo, hl, ho⟩ := l_order_ok b
  obtain ⟨bs, eb, B⟩ := bands_ok ho hl
  have h := ho
  have es := steps_ok hl eb B
  have cpos : ∀ x ∈ cols bs, 1 ≤ x := fun x hx => cols_pos hx
  have cdec := cols_dec bs
  have csum : (cols bs).sum = (o.length : Int) := by rw [cols_sum B.dec B.pos, B.sum]
  have hmx := max_head B.dec B.pos
  have hmc := max_head cdec cpos
  have hfl : bs.length ≤ 14 := by
    have h1 := cols_head B.pos
    have h2 : (cols bs).headD 0 ≤ (cols bs).sum ∨ cols bs = [] := by
      cases hc : cols bs with
      | nil => exact .inr rfl
      | cons x l =>
        left
        have nn : ∀ (m : List Int), (∀ x ∈ m, 1 ≤ x) → 0 ≤ m.sum := by
          intro m
          induction m with
          | nil => intro _; simp
          | cons z m ih =>
            intro h
            have := h z List.mem_cons_self
            have := ih fun x hx => h x (List.mem_cons_of_mem _ hx)
            rw [List.sum_cons]
            omega
        have := nn l fun y hy => cpos y (by rw [hc]; exact List.mem_cons_of_mem _ hy)
        rw [List.sum_cons]
        show x ≤ _
        omega
    rcases h2 with h2 | h2
    · omega
    · rw [h2] at h1
      have h1 : (0 : Int) = (bs.length : Int) := h1
      omega
  have hcl : (cols bs).length ≤ 14 := by
    rw [cols_len, B.top]
    have := mh_few h
    omega
  have hch := cols_head B.pos
  have hmh := mh_few ho
  have hbt := B.top
  simp only [val_ok, val_er, val_bind, val_up, val_mute, val_ite, opt_some, opt_none, opt_ite, val_e0, val_eV, val_e1, val_e2, val_e3, val_eIf, val_eAnd, val_eOr, val_lift, val_eNil, val_eCons, val_eLst, val_ePair, val_eEnum, val_eZip, val_eRev, val_oNone, val_oSome, val_eCut, val_aNil, val_aCons, val_eCall, val_eLc, wp_nx, wp_rt, wp_bk, wp_ct, wp_bind, wp_seq, wp_set, wp_if, wp_ret, wp_drop, wp_nil, wp_fbk, wp_fct, wp_mut1, wp_for, val_runR, opt_add, opt_sub, opt_neg, opt_lt, opt_le, opt_gt, opt_ge, opt_eqS, opt_neS, opt_eqD, opt_neD, opt_in, opt_nin, opt_len, opt_lenScr, opt_abs, opt_max2, opt_min2, opt_sum, opt_sort, opt_intB, opt_maxC, opt_minC, val_pV, val_pIx, wp_mutP, wp_putP, wq_nx, wq_rt, wq_bk, wq_ct, wq_bind, wq_seq, wq_set, wq_if, wq_ret, wq_drop, wq_nil, wq_fbk, wq_fct, wq_mut1, wq_for, val_E1, val_E2, val_iNil, val_iBy, val_iIo, val_eCallI, val_tAnd2, val_tOr2, val_tNot2, val_eTpl, wp_stuck, wq_stuck, wp_unp, wq_unp, wp_for2, wq_for2, wp_ins, wq_ins, wp_mut0, wq_mut0, wq_mutP, wq_putP, wp_augP, wq_augP, wp_put2, wq_put2, val_runI, val_runIU, opt_isBB, opt_isnBB, opt_ixTp, opt_sortR, opt_sortP, val_runRU, val_ePop, wp_dput, wq_dput, opt_inD, opt_ninD, opt_lenD, opt_getDo, opt_and, val_eDget, val_eIxO, opt_isNo, opt_isSo, opt_unO, opt_toO, numF_id, wq_forO, wp_forO, val_eCutS, val_eTl, val_eCut2, val_eCallX, wp_raise, opt_cnt, opt_allB, opt_scI, opt_scB, opt_scS, opt_scN, opt_lsY, opt_toI, opt_inQz, opt_inQq, opt_toZ, opt_keysZ, wp_dputQ, wp_dpopQ, wp_dcopy, eo]
  refine val_lcA (fun l => l) (fun l _ => ?_) ?_
  · simp only [val_ok, val_er, val_bind, val_up, val_mute, val_ite, opt_some, opt_none, opt_ite, val_e0, val_eV, val_e1, val_e2, val_e3, val_eIf, val_eAnd, val_eOr, val_lift, val_eNil, val_eCons, val_eLst, val_ePair, val_eEnum, val_eZip, val_eRev, val_oNone, val_oSome, val_eCut, val_aNil, val_aCons, val_eCall, val_eLc, wp_nx, wp_rt, wp_bk, wp_ct, wp_bind, wp_seq, wp_set, wp_if, wp_ret, wp_drop, wp_nil, wp_fbk, wp_fct, wp_mut1, wp_for, val_runR, opt_add, opt_sub, opt_neg, opt_lt, opt_le, opt_gt, opt_ge, opt_eqS, opt_neS, opt_eqD, opt_neD, opt_in, opt_nin, opt_len, opt_lenScr, opt_abs, opt_max2, opt_min2, opt_sum, opt_sort, opt_intB, opt_maxC, opt_minC, val_pV, val_pIx, wp_mutP, wp_putP, wq_nx, wq_rt, wq_bk, wq_ct, wq_bind, wq_seq, wq_set, wq_if, wq_ret, wq_drop, wq_nil, wq_fbk, wq_fct, wq_mut1, wq_for, val_E1, val_E2, val_iNil, val_iBy, val_iIo, val_eCallI, val_tAnd2, val_tOr2, val_tNot2, val_eTpl, wp_stuck, wq_stuck, wp_unp, wq_unp, wp_for2, wq_for2, wp_ins, wq_ins, wp_mut0, wq_mut0, wq_mutP, wq_putP, wp_augP, wq_augP, wp_put2, wq_put2, val_runI, val_runIU, opt_isBB, opt_isnBB, opt_ixTp, opt_sortR, opt_sortP, val_runRU, val_ePop, wp_dput, wq_dput, opt_inD, opt_ninD, opt_lenD, opt_getDo, opt_and, val_eDget, val_eIxO, opt_isNo, opt_isSo, opt_unO, opt_toO, numF_id, wq_forO, wp_forO, val_eCutS, val_eTl, val_eCut2, val_eCallX, wp_raise, opt_cnt, opt_allB, opt_scI, opt_scB, opt_scS, opt_scN, opt_lsY, opt_toI, opt_inQz, opt_inQq, opt_toZ, opt_keysZ, wp_dputQ, wp_dpopQ, wp_dcopy]
  · rw [List.map_id', eb]
    simp only [val_ok, val_er, val_bind, val_up, val_mute, val_ite, opt_some, opt_none, opt_ite, val_e0, val_eV, val_e1, val_e2, val_e3, val_eIf, val_eAnd, val_eOr, val_lift, val_eNil, val_eCons, val_eLst, val_ePair, val_eEnum, val_eZip, val_eRev, val_oNone, val_oSome, val_eCut, val_aNil, val_aCons, val_eCall, val_eLc, wp_nx, wp_rt, wp_bk, wp_ct, wp_bind, wp_seq, wp_set, wp_if, wp_ret, wp_drop, wp_nil, wp_fbk, wp_fct, wp_mut1, wp_for, val_runR, opt_add, opt_sub, opt_neg, opt_lt, opt_le, opt_gt, opt_ge, opt_eqS, opt_neS, opt_eqD, opt_neD, opt_in, opt_nin, opt_len, opt_lenScr, opt_abs, opt_max2, opt_min2, opt_sum, opt_sort, opt_intB, opt_maxC, opt_minC, val_pV, val_pIx, wp_mutP, wp_putP, wq_nx, wq_rt, wq_bk, wq_ct, wq_bind, wq_seq, wq_set, wq_if, wq_ret, wq_drop, wq_nil, wq_fbk, wq_fct, wq_mut1, wq_for, val_E1, val_E2, val_iNil, val_iBy, val_iIo, val_eCallI, val_tAnd2, val_tOr2, val_tNot2, val_eTpl, wp_stuck, wq_stuck, wp_unp, wq_unp, wp_for2, wq_for2, wp_ins, wq_ins, wp_mut0, wq_mut0, wq_mutP, wq_putP, wp_augP, wq_augP, wp_put2, wq_put2, val_runI, val_runIU, opt_isBB, opt_isnBB, opt_ixTp, opt_sortR, opt_sortP, val_runRU, val_ePop, wp_dput, wq_dput, opt_inD, opt_ninD, opt_lenD, opt_getDo, opt_and, val_eDget, val_eIxO, opt_isNo, opt_isSo, opt_unO, opt_toO, numF_id, wq_forO, wp_forO, val_eCutS, val_eTl, val_eCut2, val_eCallX, wp_raise, opt_cnt, opt_allB, opt_scI, opt_scB, opt_scS, opt_scN, opt_lsY, opt_toI, opt_inQz, opt_inQq, opt_toZ, opt_keysZ, wp_dputQ, wp_dpopQ, wp_dcopy]
    refine val_lcA (fun l => l) (fun l _ => ?_) ?_
    · simp only [val_ok, val_er, val_bind, val_up, val_mute, val_ite, opt_some, opt_none, opt_ite, val_e0, val_eV, val_e1, val_e2, val_e3, val_eIf, val_eAnd, val_eOr, val_lift, val_eNil, val_eCons, val_eLst, val_ePair, val_eEnum, val_eZip, val_eRev, val_oNone, val_oSome, val_eCut, val_aNil, val_aCons, val_eCall, val_eLc, wp_nx, wp_rt, wp_bk, wp_ct, wp_bind, wp_seq, wp_set, wp_if, wp_ret, wp_drop, wp_nil, wp_fbk, wp_fct, wp_mut1, wp_for, val_runR, opt_add, opt_sub, opt_neg, opt_lt, opt_le, opt_gt, opt_ge, opt_eqS, opt_neS, opt_eqD, opt_neD, opt_in, opt_nin, opt_len, opt_lenScr, opt_abs, opt_max2, opt_min2, opt_sum, opt_sort, opt_intB, opt_maxC, opt_minC, val_pV, val_pIx, wp_mutP, wp_putP, wq_nx, wq_rt, wq_bk, wq_ct, wq_bind, wq_seq, wq_set, wq_if, wq_ret, wq_drop, wq_nil, wq_fbk, wq_fct, wq_mut1, wq_for, val_E1, val_E2, val_iNil, val_iBy, val_iIo, val_eCallI, val_tAnd2, val_tOr2, val_tNot2, val_eTpl, wp_stuck, wq_stuck, wp_unp, wq_unp, wp_for2, wq_for2, wp_ins, wq_ins, wp_mut0, wq_mut0, wq_mutP, wq_putP, wp_augP, wq_augP, wp_put2, wq_put2, val_runI, val_runIU, opt_isBB, opt_isnBB, opt_ixTp, opt_sortR, opt_sortP, val_runRU, val_ePop, wp_dput, wq_dput, opt_inD, opt_ninD, opt_lenD, opt_getDo, opt_and, val_eDget, val_eIxO, opt_isNo, opt_isSo, opt_unO, opt_toO, numF_id, wq_forO, wp_forO, val_eCutS, val_eTl, val_eCut2, val_eCallX, wp_raise, opt_cnt, opt_allB, opt_scI, opt_scB, opt_scS, opt_scN, opt_lsY, opt_toI, opt_inQz, opt_inQq, opt_toZ, opt_keysZ, wp_dputQ, wp_dpopQ, wp_dcopy]
    · rw [List.map_id', es]
      simp only [val_ok, val_er, val_bind, val_up, val_mute, val_ite, opt_some, opt_none, opt_ite, val_e0, val_eV, val_e1, val_e2, val_e3, val_eIf, val_eAnd, val_eOr, val_lift, val_eNil, val_eCons, val_eLst, val_ePair, val_eEnum, val_eZip, val_eRev, val_oNone, val_oSome, val_eCut, val_aNil, val_aCons, val_eCall, val_eLc, wp_nx, wp_rt, wp_bk, wp_ct, wp_bind, wp_seq, wp_set, wp_if, wp_ret, wp_drop, wp_nil, wp_fbk, wp_fct, wp_mut1, wp_for, val_runR, opt_add, opt_sub, opt_neg, opt_lt, opt_le, opt_gt, opt_ge, opt_eqS, opt_neS, opt_eqD, opt_neD, opt_in, opt_nin, opt_len, opt_lenScr, opt_abs, opt_max2, opt_min2, opt_sum, opt_sort, opt_intB, opt_maxC, opt_minC, val_pV, val_pIx, wp_mutP, wp_putP, wq_nx, wq_rt, wq_bk, wq_ct, wq_bind, wq_seq, wq_set, wq_if, wq_ret, wq_drop, wq_nil, wq_fbk, wq_fct, wq_mut1, wq_for, val_E1, val_E2, val_iNil, val_iBy, val_iIo, val_eCallI, val_tAnd2, val_tOr2, val_tNot2, val_eTpl, wp_stuck, wq_stuck, wp_unp, wq_unp, wp_for2, wq_for2, wp_ins, wq_ins, wp_mut0, wq_mut0, wq_mutP, wq_putP, wp_augP, wq_augP, wp_put2, wq_put2, val_runI, val_runIU, opt_isBB, opt_isnBB, opt_ixTp, opt_sortR, opt_sortP, val_runRU, val_ePop, wp_dput, wq_dput, opt_inD, opt_ninD, opt_lenD, opt_getDo, opt_and, val_eDget, val_eIxO, opt_isNo, opt_isSo, opt_unO, opt_toO, numF_id, wq_forO, wp_forO, val_eCutS, val_eTl, val_eCut2, val_eCallX, wp_raise, opt_cnt, opt_allB, opt_scI, opt_scB, opt_scS, opt_scN, opt_lsY, opt_toI, opt_inQz, opt_inQq, opt_toZ, opt_keysZ, wp_dputQ, wp_dpopQ, wp_dcopy, l_columns_ok B.dec B.pos (by omega) (by omega), l_columns_ok cdec cpos (by omega) (by omega), cols_cols B.dec B.pos]
      simp
end K14
namespace K14
open PySem PySem.Spec PyProof.Rows L2 VL
def topS (i : Nat) : Stmt := PySem.Challenge.pw_bandorder_k14_steps_by_columns.main.body.getD i (.Pass ⟨0, 0, 0, 0⟩)
/-- what the top has written -/
structure Tx (K : PySem.W.Frag) (mg : Str → Option Value) where
  f_start_of : Addr
  d_start_of : FuncData
  F_start_of : Fun K "start_of" "start_of" (topS 1) f_start_of d_start_of
  g_start_of : mg "start_of" = some (.ref f_start_of)
  b_start_of : Binds K d_start_of ["order"] []
  f_end_of : Addr
  d_end_of : FuncData
  F_end_of : Fun K "end_of" "end_of" (topS 2) f_end_of d_end_of
  g_end_of : mg "end_of" = some (.ref f_end_of)
  b_end_of : Binds K d_end_of ["order"] []
  f_plain_arcs : Addr
  d_plain_arcs : FuncData
  F_plain_arcs : Fun K "plain_arcs" "plain_arcs" (topS 3) f_plain_arcs d_plain_arcs
  g_plain_arcs : mg "plain_arcs" = some (.ref f_plain_arcs)
  b_plain_arcs : Binds K d_plain_arcs ["order"] []
  f_open_arcs : Addr
  d_open_arcs : FuncData
  F_open_arcs : Fun K "open_arcs" "open_arcs" (topS 4) f_open_arcs d_open_arcs
  g_open_arcs : mg "open_arcs" = some (.ref f_open_arcs)
  b_open_arcs : Binds K d_open_arcs ["order", "used"] []
  f_farthest : Addr
  d_farthest : FuncData
  F_farthest : Fun K "farthest" "farthest" (topS 5) f_farthest d_farthest
  g_farthest : mg "farthest" = some (.ref f_farthest)
  b_farthest : Binds K d_farthest ["order", "used"] []
  f_taken : Addr
  d_taken : FuncData
  F_taken : Fun K "taken" "taken" (topS 6) f_taken d_taken
  g_taken : mg "taken" = some (.ref f_taken)
  b_taken : Binds K d_taken ["order", "used", "ahead"] []
  f_rounds : Addr
  d_rounds : FuncData
  F_rounds : Fun K "rounds" "rounds" (topS 7) f_rounds d_rounds
  g_rounds : mg "rounds" = some (.ref f_rounds)
  b_rounds : Binds K d_rounds ["order"] []
  f_bands_by : Addr
  d_bands_by : FuncData
  F_bands_by : Fun K "bands_by" "bands_by" (topS 9) f_bands_by d_bands_by
  g_bands_by : mg "bands_by" = some (.ref f_bands_by)
  b_bands_by : Binds K d_bands_by ["order", "found"] []
  f_bands : Addr
  d_bands : FuncData
  F_bands : Fun K "bands" "bands" (topS 10) f_bands d_bands
  g_bands : mg "bands" = some (.ref f_bands)
  b_bands : Binds K d_bands ["order"] []
  f_columns_of : Addr
  d_columns_of : FuncData
  F_columns_of : Fun K "columns_of" "columns_of" (topS 11) f_columns_of d_columns_of
  g_columns_of : mg "columns_of" = some (.ref f_columns_of)
  b_columns_of : Binds K d_columns_of ["row"] []
  f_steps : Addr
  d_steps : FuncData
  F_steps : Fun K "steps" "steps" (topS 12) f_steps d_steps
  g_steps : mg "steps" = some (.ref f_steps)
  b_steps : Binds K d_steps ["order"] []
  f_l_cell : Addr
  d_l_cell : FuncData
  F_l_cell : Fun K "_law_cell" "_law_cell" (topS 14) f_l_cell d_l_cell
  g_l_cell : mg "_law_cell" = some (.ref f_l_cell)
  b_l_cell : Binds K d_l_cell ["_law_script", "_law_k"] []
  f_l_digits : Addr
  d_l_digits : FuncData
  F_l_digits : Fun K "_law_digits" "_law_digits" (topS 15) f_l_digits d_l_digits
  g_l_digits : mg "_law_digits" = some (.ref f_l_digits)
  b_l_digits : Binds K d_l_digits ["_law_cell_here", "_law_base", "_law_many"] []
  f_l_mixed : Addr
  d_l_mixed : FuncData
  F_l_mixed : Fun K "_law_mixed" "_law_mixed" (topS 16) f_l_mixed d_l_mixed
  g_l_mixed : mg "_law_mixed" = some (.ref f_l_mixed)
  b_l_mixed : Binds K d_l_mixed ["_law_cell_here", "_law_base", "_law_many"] []
  f_l_row : Addr
  d_l_row : FuncData
  F_l_row : Fun K "_law_row" "_law_row" (topS 17) f_l_row d_l_row
  g_l_row : mg "_law_row" = some (.ref f_l_row)
  b_l_row : Binds K d_l_row ["_law_cell_here", "_law_base", "_law_many"] []
  f_l_closed : Addr
  d_l_closed : FuncData
  F_l_closed : Fun K "_law_closed" "_law_closed" (topS 18) f_l_closed d_l_closed
  g_l_closed : mg "_law_closed" = some (.ref f_l_closed)
  b_l_closed : Binds K d_l_closed ["_law_many", "_law_digits_here"] []
  f_l_order : Addr
  d_l_order : FuncData
  F_l_order : Fun K "_law_order" "_law_order" (topS 19) f_l_order d_l_order
  g_l_order : mg "_law_order" = some (.ref f_l_order)
  b_l_order : Binds K d_l_order ["_law_cell_here"] []
  f_l_columns : Addr
  d_l_columns : FuncData
  F_l_columns : Fun K "_law_columns" "_law_columns" (topS 20) f_l_columns d_l_columns
  g_l_columns : mg "_law_columns" = some (.ref f_l_columns)
  b_l_columns : Binds K d_l_columns ["_law_row_here"] []
  f_law : Addr
  d_law : FuncData
  F_law : Fun K "law" "law" (topS 21) f_law d_law
  g_law : mg "law" = some (.ref f_law)
  b_law : Binds K d_law ["_law_script"] []
  z_abs : mg "abs" = none
  z_enumerate : mg "enumerate" = none
  z_len : mg "len" = none
  z_list : mg "list" = none
  z_max : mg "max" = none
  z_range : mg "range" = none
  z_set : mg "set" = none
  z_sorted : mg "sorted" = none
section
variable {P : Program} {w : World} {K : PySem.W.Frag} {mg : Str → Option Value} {base : Heap}
abbrev N_start_of : List Str := ["order"]
theorem sc_start_of : FnScope N_start_of ["order"] (defScope (topS 1)) := ⟨rfl, rfl, rfl, by decide +kernel, rfl, by decide +kernel, by decide +kernel⟩
theorem ok_start_of (T : Tx K mg) : FnOk P w K mg base CX0 1 T.f_start_of T.d_start_of ["order"] (spP K 0 m_start_of) :=
  ok_def (sl := slots gs_start_of) (ms' := []) (rm := [.un]) (g := b_start_of) T.F_start_of sc_start_of (fun _ => rfl) (fun _ => ⟨_, rfl, rfl⟩) fun cdv A outer s H E H0 S0 vs hr =>
 (ss_one (by exact (s_ret (ev (pv_bin op_mulA o_mul pv_int (pv_b1 call_len_seq o_lenL rfl T.z_len boot_len (pv_v 0 (pv 0) rfl (fun _ => rfl))))))))
abbrev N_end_of : List Str := ["order"]
theorem sc_end_of : FnScope N_end_of ["order"] (defScope (topS 2)) := ⟨rfl, rfl, rfl, by decide +kernel, rfl, by decide +kernel, by decide +kernel⟩
theorem ok_end_of (T : Tx K mg) : FnOk P w K mg base CX0 1 T.f_end_of T.d_end_of ["order"] (spP K 0 m_end_of) :=
  ok_def (sl := slots gs_end_of) (ms' := []) (rm := [.un]) (g := b_end_of) T.F_end_of sc_end_of (fun _ => rfl) (fun _ => ⟨_, rfl, rfl⟩) fun cdv A outer s H E H0 S0 vs hr =>
 (ss_one (by exact (s_ret (ev (pv_bin op_add o_add (pv_bin op_mulA o_mul pv_int (pv_b1 call_len_seq o_lenL rfl T.z_len boot_len (pv_v 0 (pv 0) rfl (fun _ => rfl)))) pv_int)))))
abbrev N_plain_arcs : List Str := ["order", "found", "thing", "row", "low"]
theorem sc_plain_arcs : FnScope N_plain_arcs ["order"] (defScope (topS 3)) := ⟨rfl, rfl, rfl, by decide +kernel, rfl, by decide +kernel, by decide +kernel⟩
theorem ok_plain_arcs (T : Tx K mg) : FnOk P w K mg base CX0 2 T.f_plain_arcs T.d_plain_arcs ["order"] (spP K 2 m_plain_arcs) :=
  ok_def (sl := slots gs_plain_arcs) (ms' := []) (rm := [.un, .un, .un, .un, .un]) (g := b_plain_arcs) T.F_plain_arcs sc_plain_arcs (fun _ => rfl) (fun _ => ⟨_, rfl, rfl⟩) fun cdv A outer s H E H0 S0 vs hr =>
 (ss_cons (ms1 := [lv 0, lv 2, .un, .un, .un]) (by exact (s_set (i := 1) sc_plain_arcs.nd rfl (.inl rfl) (ev (pv_nil (k := 1))) (fun _ _ => rfl) (by decide)))
 (by exact (ss_cons (ms1 := [lv 0, lv 2, .un, .un, .un]) (by exact (s_for (lm := [lv 0, lv 2, .un, .un, .un]) PassesOwn.never rfl (by exact (pw_enum (i := 2) (j := 3) rfl T.z_enumerate (pv_v 0 (pv 0) rfl (fun _ => rfl)))) (pg_tup rfl (pgs_cons (pg_name (i := 2) sc_plain_arcs.nd rfl (.inl rfl)) (pgs_cons (pg_name (i := 3) sc_plain_arcs.nd rfl (.inl rfl)) pgs_nil)))
 (by exact (ss_weak (ms1 := [lv 0, lv 2, lv 0, lv 0, .un]) (by exact (ss_cons (ms1 := [lv 0, lv 2, lv 0, lv 0, .un]) (by exact (s_mut1 (i := 1) (get := (fun r : E_plain_arcs => r.v_found)) mut_app (pe_bm PySem.F.plainAttrs_list PySem.F.slot_list_append PySem.F.type_list_append mt_append (pv 1) (pa_cons (ev (pv_pair (pv_call (ok_start_of T) (hr.mono (by decide)) rfl T.g_start_of T.F_start_of.kp T.b_start_of (pa_c (pv_v 0 (pv 0) rfl (fun _ => rfl)) pa_n)) (pv_bin op_mulA o_mul pv_int (pv_v 2 (pv 2) rfl (fun _ => rfl))))) pa_nil)) rfl rfl (fun _ => rfl) (fun _ _ => rfl)))
 (by exact (ss_cons (ms1 := [lv 0, lv 2, lv 0, lv 0, .un]) (by exact (s_mut1 (i := 1) (get := (fun r : E_plain_arcs => r.v_found)) mut_app (pe_bm PySem.F.plainAttrs_list PySem.F.slot_list_append PySem.F.type_list_append mt_append (pv 1) (pa_cons (ev (pv_pair (pv_bin op_add o_add (pv_bin op_mulA o_mul pv_int (pv_v 2 (pv 2) rfl (fun _ => rfl))) pv_int) (pv_call (ok_end_of T) (hr.mono (by decide)) rfl T.g_end_of T.F_end_of.kp T.b_end_of (pa_c (pv_v 0 (pv 0) rfl (fun _ => rfl)) pa_n)))) pa_nil)) rfl rfl (fun _ => rfl) (fun _ _ => rfl)))
 (by exact (ss_one (by exact (s_for (lm := [lv 0, lv 2, lv 0, lv 0, .un]) PassesOwn.never rfl (by exact (pw_list (i := 4) (pv_v 3 (pv 3) rfl (fun _ => rfl)))) (pg_name (i := 4) sc_plain_arcs.nd rfl (.inl rfl))
 (by exact (ss_weak (ms1 := [lv 0, lv 2, lv 0, lv 0, lv 0]) (by exact (ss_one (by exact (s_mut1 (i := 1) (get := (fun r : E_plain_arcs => r.v_found)) mut_app (pe_bm PySem.F.plainAttrs_list PySem.F.slot_list_append PySem.F.type_list_append mt_append (pv 1) (pa_cons (ev (pv_pair (pv_bin op_add o_add (pv_bin op_mulA o_mul pv_int (pv_v 4 (pv 4) rfl (fun _ => rfl))) pv_int) (pv_bin op_mulA o_mul pv_int (pv_v 2 (pv 2) rfl (fun _ => rfl))))) pa_nil)) rfl rfl (fun _ => rfl) (fun _ _ => rfl))))))) (fun _ _ => rfl) (fun _ => rfl) (by decide))))))))))) (fun _ _ => rfl) (fun _ => rfl) (by decide)))
 (by exact (ss_one (by exact (s_ret (ev_mv (g := fun r : E_plain_arcs => r.v_found) 1 (pv 1) rfl (fun _ => rfl)))))))))
abbrev N_open_arcs : List Str := ["order", "used", "found", "arc", "thing"]
theorem sc_open_arcs : FnScope N_open_arcs ["order", "used"] (defScope (topS 4)) := ⟨rfl, rfl, rfl, by decide +kernel, rfl, by decide +kernel, by decide +kernel⟩
theorem ok_open_arcs (T : Tx K mg) : FnOk P w K mg base CX0 3 T.f_open_arcs T.d_open_arcs ["order", "used"] (spP K 2 m_open_arcs) :=
  ok_def (sl := slots gs_open_arcs) (ms' := []) (rm := [.un, .un, .un, .un, .un]) (g := b_open_arcs) T.F_open_arcs sc_open_arcs (fun _ => rfl) (fun _ => ⟨_, rfl, rfl⟩) fun cdv A outer s H E H0 S0 vs hr =>
 (ss_cons (ms1 := [lv 0, lv 0, lv 2, .un, .un]) (by exact (s_set (i := 2) sc_open_arcs.nd rfl (.inl rfl) (ev (pv_nil (k := 1))) (fun _ _ => rfl) (by decide)))
 (by exact (ss_cons (ms1 := [lv 0, lv 0, lv 2, .un, .un]) (by exact (s_for (lm := [lv 0, lv 0, lv 2, .un, .un]) PassesOwn.never rfl (by exact (pw_list (i := 3) (pv_share (pv_call (ok_plain_arcs T) (hr.mono (by decide)) rfl T.g_plain_arcs T.F_plain_arcs.kp T.b_plain_arcs (pa_c (pv_v 0 (pv 0) rfl (fun _ => rfl)) pa_n))))) (pg_name (i := 3) sc_open_arcs.nd rfl (.inl rfl))
 (by exact (ss_weak (ms1 := [lv 0, lv 0, lv 2, lv 0, .un]) (by exact (ss_cons (ms1 := [lv 0, lv 0, lv 2, lv 0, .un]) (by exact (s_mut1 (i := 2) (get := (fun r : E_open_arcs => r.v_found)) mut_app (pe_bm PySem.F.plainAttrs_list PySem.F.slot_list_append PySem.F.type_list_append mt_append (pv 2) (pa_cons (ev (pv_tpl (pl_cons (pv_scal 0 (pv_fstW (pv_v 3 (pv 3) rfl (fun _ => rfl)))) (pl_cons (pv_scal 0 (pv_sndW (pv_v 3 (pv 3) rfl (fun _ => rfl)))) (pl_cons pv_int pl_nil))))) pa_nil)) rfl rfl (fun _ => rfl) (fun _ _ => rfl)))
 (by exact (ss_one (by exact (s_if (by exact (et (pt_inQ (hu_of hr) (pv_v 3 (pv 3) rfl (fun _ => rfl)) (pv_v 1 (pv 1) rfl (fun _ => rfl)))))
 (by exact (ss_one (by exact (s_mut1 (i := 2) (get := (fun r : E_open_arcs => r.v_found)) mut_app (pe_bm PySem.F.plainAttrs_list PySem.F.slot_list_append PySem.F.type_list_append mt_append (pv 2) (pa_cons (ev (pv_tpl (pl_cons (pv_scal 0 (pv_sndW (pv_v 3 (pv 3) rfl (fun _ => rfl)))) (pl_cons (pv_scal 0 (pv_fstW (pv_v 3 (pv 3) rfl (fun _ => rfl)))) (pl_cons pv_int pl_nil))))) pa_nil)) rfl rfl (fun _ => rfl) (fun _ _ => rfl)))))
 (by exact ss_nil))))))))) (fun _ _ => rfl) (fun _ => rfl) (by decide)))
 (by exact (ss_cons (ms1 := [lv 0, lv 0, lv 2, .un, .un]) (by exact (s_for (lm := [lv 0, lv 0, lv 2, .un, .un]) PassesOwn.never rfl (by exact (pw_rng1 (i := 4) rfl T.z_range (pv_b1 call_len_seq o_lenL rfl T.z_len boot_len (pv_v 0 (pv 0) rfl (fun _ => rfl))))) (pg_name (i := 4) sc_open_arcs.nd rfl (.inl rfl))
 (by exact (ss_weak (ms1 := [lv 0, lv 0, lv 2, .un, lv 0]) (by exact (ss_one (by exact (s_if (by exact (et (pt_inQ (hu_of hr) (pv_pair (pv_bin op_mulA o_mul pv_int (pv_v 4 (pv 4) rfl (fun _ => rfl))) (pv_bin op_add o_add (pv_bin op_mulA o_mul pv_int (pv_v 4 (pv 4) rfl (fun _ => rfl))) pv_int)) (pv_v 1 (pv 1) rfl (fun _ => rfl)))))
 (by exact (ss_one (by exact (s_mut1 (i := 2) (get := (fun r : E_open_arcs => r.v_found)) mut_app (pe_bm PySem.F.plainAttrs_list PySem.F.slot_list_append PySem.F.type_list_append mt_append (pv 2) (pa_cons (ev (pv_tpl (pl_cons (pv_bin op_add o_add (pv_bin op_mulA o_mul pv_int (pv_v 4 (pv 4) rfl (fun _ => rfl))) pv_int) (pl_cons (pv_bin op_mulA o_mul pv_int (pv_v 4 (pv 4) rfl (fun _ => rfl))) (pl_cons (pv_un un_neg o_neg pv_int) pl_nil))))) pa_nil)) rfl rfl (fun _ => rfl) (fun _ _ => rfl)))))
 (by exact (ss_one (by exact (s_mut1 (i := 2) (get := (fun r : E_open_arcs => r.v_found)) mut_app (pe_bm PySem.F.plainAttrs_list PySem.F.slot_list_append PySem.F.type_list_append mt_append (pv 2) (pa_cons (ev (pv_tpl (pl_cons (pv_bin op_mulA o_mul pv_int (pv_v 4 (pv 4) rfl (fun _ => rfl))) (pl_cons (pv_bin op_add o_add (pv_bin op_mulA o_mul pv_int (pv_v 4 (pv 4) rfl (fun _ => rfl))) pv_int) (pl_cons pv_int pl_nil))))) pa_nil)) rfl rfl (fun _ => rfl) (fun _ _ => rfl))))))))))) (fun _ _ => rfl) (fun _ => rfl) (by decide)))
 (by exact (ss_one (by exact (s_ret (ev_mv (g := fun r : E_open_arcs => r.v_found) 2 (pv 2) rfl (fun _ => rfl)))))))))))
abbrev N_farthest : List Str := ["order", "used", "gains", "ahead", "arcs", "moved", "one", "other", "gain"]
theorem sc_farthest : FnScope N_farthest ["order", "used"] (defScope (topS 5)) := ⟨rfl, rfl, rfl, by decide +kernel, rfl, by decide +kernel, by decide +kernel⟩
theorem ok_farthest (T : Tx K mg) : FnOk P w K mg base CX0 4 T.f_farthest T.d_farthest ["order", "used"] (spP K 2 m_farthest) :=
  ok_def (sl := slots gs_farthest) (ms' := []) (rm := [.un, .un, .un, .un, .un, .un, .un, .un, .un]) (g := b_farthest) T.F_farthest sc_farthest (fun _ => rfl) (fun _ => ⟨_, rfl, rfl⟩) fun cdv A outer s H E H0 S0 vs hr =>
 (ss_cons (ms1 := [lv 0, lv 0, lv 1, .un, .un, .un, .un, .un, .un]) (by exact (s_set (i := 2) sc_farthest.nd rfl (.inl rfl) (ev (pv_bin op_rep o_rep (pv_lst (pl_cons (pv_noO (k := 0)) pl_nil)) (pv_bin op_add o_add (pv_bin op_mulA o_mul pv_int (pv_b1 call_len_seq o_lenL rfl T.z_len boot_len (pv_v 0 (pv 0) rfl (fun _ => rfl)))) pv_int))) (fun _ _ => rfl) (by decide)))
 (by exact (ss_cons (ms1 := [lv 0, lv 0, lv 1, lv 1, .un, .un, .un, .un, .un]) (by exact (s_set (i := 3) sc_farthest.nd rfl (.inl rfl) (ev (pv_bin op_rep o_rep (pv_lst (pl_cons (pv_noO (k := 0)) pl_nil)) (pv_bin op_add o_add (pv_bin op_mulA o_mul pv_int (pv_b1 call_len_seq o_lenL rfl T.z_len boot_len (pv_v 0 (pv 0) rfl (fun _ => rfl)))) pv_int))) (fun _ _ => rfl) (by decide)))
 (by exact (ss_cons (ms1 := [lv 0, lv 0, lv 1, lv 1, .un, .un, .un, .un, .un]) (by exact (s_putP (rcv_var (i := 2) (get := (fun r : E_farthest => r.v_gains)) (set := (fun a r => { r with v_gains := a })) rfl (fun _ => rfl) (fun _ _ => rfl)) (ve_toO (ev pv_int)) (pv 2) (pv_call (ok_start_of T) (hr.mono (by decide)) rfl T.g_start_of T.F_start_of.kp T.b_start_of (pa_c (pv_v 0 (pv 0) rfl (fun _ => rfl)) pa_n))))
 (by exact (ss_cons (ms1 := [lv 0, lv 0, lv 1, lv 1, lv 0, .un, .un, .un, .un]) (by exact (s_set (i := 4) sc_farthest.nd rfl (.inl rfl) (ev (pv_share (pv_call (ok_open_arcs T) (hr.mono (by decide)) rfl T.g_open_arcs T.F_open_arcs.kp T.b_open_arcs (pa_c (pv_v 0 (pv 0) rfl (fun _ => rfl)) (pa_c (pv_v 1 (pv 1) rfl (fun _ => rfl)) pa_n))))) (fun _ _ => rfl) (by decide)))
 (by exact (ss_cons (ms1 := [lv 0, lv 0, lv 1, lv 1, lv 0, lv 0, .un, .un, .un]) (by exact (s_set (i := 5) sc_farthest.nd rfl (.inl rfl) (ev pv_bl) (fun _ _ => rfl) (by decide)))
 (by exact (ss_cons (ms1 := [lv 0, lv 0, lv 1, lv 1, lv 0, lv 0, .un, .un, .un]) (by exact (s_while (lm := [lv 0, lv 0, lv 1, lv 1, lv 0, lv 0, .un, .un, .un]) 100000 PassesOwn.never (by exact (et (pt_e (pv_v 5 (pv 5) rfl (fun _ => rfl)))))
 (by exact (ss_cons (ms1 := [lv 0, lv 0, lv 1, lv 1, lv 0, lv 0, .un, .un, .un]) (by exact (s_set (i := 5) sc_farthest.nd rfl (.inl rfl) (ev pv_bl) (fun _ _ => rfl) (by decide)))
 (by exact (ss_one (by exact (s_for (lm := [lv 0, lv 0, lv 1, lv 1, lv 0, lv 0, .un, .un, .un]) PassesOwn.never rfl (by exact (pw_list3 (i := 6) (j := 7) (k := 8) (pv_v 4 (pv 4) rfl (fun _ => rfl)))) (pg_tup rfl (pgs_cons (pg_name (i := 6) sc_farthest.nd rfl (.inl rfl)) (pgs_cons (pg_name (i := 7) sc_farthest.nd rfl (.inl rfl)) (pgs_cons (pg_name (i := 8) sc_farthest.nd rfl (.inl rfl)) pgs_nil))))
 (by exact (ss_weak (ms1 := [lv 0, lv 0, lv 1, lv 1, lv 0, lv 0, lv 0, lv 0, lv 0]) (by exact (ss_one (by exact (s_if (by exact (et (PW.pt (pw_andV (pt_notN (pv_scal 0 (pv_ixW (pv_w 2 (pv 2) rfl (fun _ => rfl)) (pv_v 6 (pv 6) rfl (fun _ => rfl))))) (pw_and1V (PW.pt (pw_orV (pt_isN (pv_scal 0 (pv_ixW (pv_w 2 (pv 2) rfl (fun _ => rfl)) (pv_v 7 (pv 7) rfl (fun _ => rfl))))) (pw_or1V (pt_cmpV op_gt o_gt (pv_bin op_add o_add (pv_re re_unO (pv_scal 0 (pv_ixW (pv_w 2 (pv 2) rfl (fun _ => rfl)) (pv_v 6 (pv 6) rfl (fun _ => rfl))))) (pv_v 8 (pv 8) rfl (fun _ => rfl))) (pv_re re_unO (pv_scal 0 (pv_ixW (pv_w 2 (pv 2) rfl (fun _ => rfl)) (pv_v 7 (pv 7) rfl (fun _ => rfl))))) (nomark _))))))))))
 (by exact (ss_cons (ms1 := [lv 0, lv 0, lv 1, lv 1, lv 0, lv 0, lv 0, lv 0, lv 0]) (by exact (s_putP (rcv_var (i := 2) (get := (fun r : E_farthest => r.v_gains)) (set := (fun a r => { r with v_gains := a })) rfl (fun _ => rfl) (fun _ _ => rfl)) (ve_toO (ev (pv_bin op_add o_add (pv_re re_unO (pv_scal 0 (pv_ixW (pv_w 2 (pv 2) rfl (fun _ => rfl)) (pv_v 6 (pv 6) rfl (fun _ => rfl))))) (pv_v 8 (pv 8) rfl (fun _ => rfl))))) (pv 2) (pv_v 7 (pv 7) rfl (fun _ => rfl))))
 (by exact (ss_cons (ms1 := [lv 0, lv 0, lv 1, lv 1, lv 0, lv 0, lv 0, lv 0, lv 0]) (by exact (s_putP (rcv_var (i := 3) (get := (fun r : E_farthest => r.v_ahead)) (set := (fun a r => { r with v_ahead := a })) rfl (fun _ => rfl) (fun _ _ => rfl)) (ve_toO (ev (pv_v 6 (pv 6) rfl (fun _ => rfl)))) (pv 3) (pv_v 7 (pv 7) rfl (fun _ => rfl))))
 (by exact (ss_one (by exact (s_set (i := 5) sc_farthest.nd rfl (.inl rfl) (ev pv_bl) (fun _ _ => rfl) (by decide)))))))))
 (by exact ss_nil))))))) (fun _ _ => rfl) (fun _ => rfl) (by decide)))))))))
 (by exact (ss_one (by exact (s_ret (ve_pair (ev_mv (g := fun r : E_farthest => r.v_gains) 2 (pv 2) rfl (fun _ => rfl)) (ev_mv (g := fun r : E_farthest => r.v_ahead) 3 (pv 3) rfl (fun _ => rfl))))))))))))))))))
abbrev N_taken : List Str := ["order", "used", "ahead", "arcs", "arc", "node", "before"]
theorem sc_taken : FnScope N_taken ["order", "used", "ahead"] (defScope (topS 6)) := ⟨rfl, rfl, rfl, by decide +kernel, rfl, by decide +kernel, by decide +kernel⟩
theorem ok_taken (T : Tx K mg) : FnOk P w K mg base CX0 2 T.f_taken T.d_taken ["order", "used", "ahead"] (spP K 0 m_taken) :=
  ok_def (sl := slots gs_taken) (ms' := []) (rm := [.un, .un, .un, .un, .un, .un, .un]) (g := b_taken) T.F_taken sc_taken (fun _ => rfl) (fun _ => ⟨_, rfl, rfl⟩) fun cdv A outer s H E H0 S0 vs hr =>
 (ss_cons (ms1 := [lv 0, lv 0, lv 0, lv 1, .un, .un, .un]) (by exact (s_set (i := 3) sc_taken.nd rfl (.inl rfl) (ev (pv_dnewQ (k := 0))) (fun _ _ => rfl) (by decide)))
 (by exact (ss_cons (ms1 := [lv 0, lv 0, lv 0, lv 1, .un, .un, .un]) (by exact (s_dcopy (i := 3) (j := 4) (get := (fun r : E_taken => r.v_arcs)) (hu_of hr) PassesOwn.never rfl (pv_v 1 (pv 1) rfl (fun _ => rfl)) (pg_name (i := 4) sc_taken.nd rfl (.inl rfl)) (pv 3) (pv 4) rfl rfl (fun _ => rfl) (fun _ _ => rfl)))
 (by exact (ss_cons (ms1 := [lv 0, lv 0, lv 0, lv 1, .un, lv 0, .un]) (by exact (s_set (i := 5) sc_taken.nd rfl (.inl rfl) (ev (pv_call (ok_end_of T) (hr.mono (by decide)) rfl T.g_end_of T.F_end_of.kp T.b_end_of (pa_c (pv_v 0 (pv 0) rfl (fun _ => rfl)) pa_n))) (fun _ _ => rfl) (by decide)))
 (by exact (ss_cons (ms1 := [lv 0, lv 0, lv 0, lv 1, .un, lv 0, .un]) (by exact (s_while (lm := [lv 0, lv 0, lv 0, lv 1, .un, lv 0, .un]) 100000 PassesOwn.never (by exact (et (pt_cmpV op_ne o_neS (pv_v 5 (pv 5) rfl (fun _ => rfl)) (pv_call (ok_start_of T) (hr.mono (by decide)) rfl T.g_start_of T.F_start_of.kp T.b_start_of (pa_c (pv_v 0 (pv 0) rfl (fun _ => rfl)) pa_n)) (nomark _))))
 (by exact (ss_weak (ms1 := [lv 0, lv 0, lv 0, lv 1, .un, lv 0, lv 0]) (by exact (ss_cons (ms1 := [lv 0, lv 0, lv 0, lv 1, .un, lv 0, lv 0]) (by exact (s_set (i := 6) sc_taken.nd rfl (.inl rfl) (ve_re re_unO (ev (pv_scal 0 (pv_ixW (pv_v 2 (pv 2) rfl (fun _ => rfl)) (pv_v 5 (pv 5) rfl (fun _ => rfl)))))) (fun _ _ => rfl) (by decide)))
 (by exact (ss_cons (ms1 := [lv 0, lv 0, lv 0, lv 1, .un, lv 0, lv 0]) (by exact (s_if (by exact (et (pt_inQ (hu_of hr) (pv_pair (pv_v 5 (pv 5) rfl (fun _ => rfl)) (pv_v 6 (pv 6) rfl (fun _ => rfl))) (pv_w 3 (pv 3) rfl (fun _ => rfl)))))
 (by exact (ss_one (by exact (s_dpopQ (i := 3) (get := (fun r : E_taken => r.v_arcs)) (pe_bm PySem.F.plainAttrs_dict PySem.F.slot_dict_pop PySem.F.type_dict_pop (mt_pop1 (hu_of hr)) (pv 3) (pa_cons (pv_share (pv_pair (pv_v 5 (pv 5) rfl (fun _ => rfl)) (pv_v 6 (pv 6) rfl (fun _ => rfl)))) pa_nil)) rfl (fun _ => rfl) (fun _ _ => rfl)))))
 (by exact (ss_one (by exact (s_dputQ (i := 3) (get := (fun r : E_taken => r.v_arcs)) (hu_of hr) (pv 3) (pv_share (pv_pair (pv_v 6 (pv 6) rfl (fun _ => rfl)) (pv_v 5 (pv 5) rfl (fun _ => rfl)))) rfl (fun _ => rfl) (fun _ _ => rfl)))))))
 (by exact (ss_one (by exact (s_set (i := 5) sc_taken.nd rfl (.inl rfl) (ev (pv_v 6 (pv 6) rfl (fun _ => rfl))) (fun _ _ => rfl) (by decide)))))))))))))
 (by exact (ss_one (by exact (s_ret (ve_lock (ev_mv (g := fun r : E_taken => r.v_arcs) 3 (pv 3) rfl (fun _ => rfl))))))))))))))
abbrev N_rounds : List Str := ["order", "used", "found", "gains", "ahead"]
theorem sc_rounds : FnScope N_rounds ["order"] (defScope (topS 7)) := ⟨rfl, rfl, rfl, by decide +kernel, rfl, by decide +kernel, by decide +kernel⟩
theorem ok_rounds (T : Tx K mg) : FnOk P w K mg base CX0 5 T.f_rounds T.d_rounds ["order"] (spP K 2 m_rounds) :=
  ok_def (sl := slots gs_rounds) (ms' := []) (rm := [.un, .un, .un, .un, .un]) (g := b_rounds) T.F_rounds sc_rounds (fun _ => rfl) (fun _ => ⟨_, rfl, rfl⟩) fun cdv A outer s H E H0 S0 vs hr =>
 (ss_cons (ms1 := [lv 0, lv 0, .un, .un, .un]) (by exact (s_set (i := 1) sc_rounds.nd rfl (.inl rfl) (ve_lock (ev (pv_dnewQ (k := 0)))) (fun _ _ => rfl) (by decide)))
 (by exact (ss_cons (ms1 := [lv 0, lv 0, lv 2, .un, .un]) (by exact (s_set (i := 2) sc_rounds.nd rfl (.inl rfl) (ev (pv_nil (k := 1))) (fun _ _ => rfl) (by decide)))
 (by exact (ss_cons (ms1 := [lv 0, lv 0, lv 2, lv 0, lv 0]) (by exact (s_unpP (i := 3) (j := 4) (ev (pv_share (pv_call (ok_farthest T) (hr.mono (by decide)) rfl T.g_farthest T.F_farthest.kp T.b_farthest (pa_c (pv_v 0 (pv 0) rfl (fun _ => rfl)) (pa_c (pv_v 1 (pv 1) rfl (fun _ => rfl)) pa_n))))) (by exact (pg_tup rfl (pgs_cons (pg_name (i := 3) sc_rounds.nd rfl (.inl rfl)) (pgs_cons (pg_name (i := 4) sc_rounds.nd rfl (.inl rfl)) pgs_nil)))) (by decide) (by decide) (fun _ _ => rfl)))
 (by exact (ss_cons (ms1 := [lv 0, lv 0, lv 2, lv 0, lv 0]) (by exact (s_mut1 (i := 2) (get := (fun r : E_rounds => r.v_found)) mut_app (pe_bm PySem.F.plainAttrs_list PySem.F.slot_list_append PySem.F.type_list_append mt_append (pv 2) (pa_cons (ev (pv_pair (pv_v 1 (pv 1) rfl (fun _ => rfl)) (pv_v 3 (pv 3) rfl (fun _ => rfl)))) pa_nil)) rfl rfl (fun _ => rfl) (fun _ _ => rfl)))
 (by exact (ss_cons (ms1 := [lv 0, lv 0, lv 2, lv 0, lv 0]) (by exact (s_while (lm := [lv 0, lv 0, lv 2, lv 0, lv 0]) 100000 PassesOwn.never (by exact (et (PW.pt (pw_andV (pt_notN (pv_scal 0 (pv_ixW (pv_v 3 (pv 3) rfl (fun _ => rfl)) (pv_call (ok_end_of T) (hr.mono (by decide)) rfl T.g_end_of T.F_end_of.kp T.b_end_of (pa_c (pv_v 0 (pv 0) rfl (fun _ => rfl)) pa_n))))) (pw_and1V (pt_cmpV op_gt o_gt (pv_re re_unO (pv_scal 0 (pv_ixW (pv_v 3 (pv 3) rfl (fun _ => rfl)) (pv_call (ok_end_of T) (hr.mono (by decide)) rfl T.g_end_of T.F_end_of.kp T.b_end_of (pa_c (pv_v 0 (pv 0) rfl (fun _ => rfl)) pa_n))))) pv_int (nomark _)))))))
 (by exact (ss_cons (ms1 := [lv 0, lv 0, lv 2, lv 0, lv 0]) (by exact (s_set (i := 1) sc_rounds.nd rfl (.inl rfl) (ev (pv_call (ok_taken T) (hr.mono (by decide)) rfl T.g_taken T.F_taken.kp T.b_taken (pa_c (pv_v 0 (pv 0) rfl (fun _ => rfl)) (pa_c (pv_v 1 (pv 1) rfl (fun _ => rfl)) (pa_c (pv_v 4 (pv 4) rfl (fun _ => rfl)) pa_n))))) (fun _ _ => rfl) (by decide)))
 (by exact (ss_cons (ms1 := [lv 0, lv 0, lv 2, lv 0, lv 0]) (by exact (s_unpP (i := 3) (j := 4) (ev (pv_share (pv_call (ok_farthest T) (hr.mono (by decide)) rfl T.g_farthest T.F_farthest.kp T.b_farthest (pa_c (pv_v 0 (pv 0) rfl (fun _ => rfl)) (pa_c (pv_v 1 (pv 1) rfl (fun _ => rfl)) pa_n))))) (by exact (pg_tup rfl (pgs_cons (pg_name (i := 3) sc_rounds.nd rfl (.inl rfl)) (pgs_cons (pg_name (i := 4) sc_rounds.nd rfl (.inl rfl)) pgs_nil)))) (by decide) (by decide) (fun _ _ => rfl)))
 (by exact (ss_one (by exact (s_mut1 (i := 2) (get := (fun r : E_rounds => r.v_found)) mut_app (pe_bm PySem.F.plainAttrs_list PySem.F.slot_list_append PySem.F.type_list_append mt_append (pv 2) (pa_cons (ev (pv_pair (pv_v 1 (pv 1) rfl (fun _ => rfl)) (pv_v 3 (pv 3) rfl (fun _ => rfl)))) pa_nil)) rfl rfl (fun _ => rfl) (fun _ _ => rfl)))))))))))
 (by exact (ss_one (by exact (s_ret (ev_mv (g := fun r : E_rounds => r.v_found) 2 (pv 2) rfl (fun _ => rfl)))))))))))))))
abbrev N_bands_by : List Str := ["order", "found", "used", "gains"]
theorem sc_bands_by : FnScope N_bands_by ["order", "found"] (defScope (topS 9)) := ⟨rfl, rfl, rfl, by decide +kernel, rfl, by decide +kernel, by decide +kernel⟩
theorem ok_bands_by (T : Tx K mg) : FnOk P w K mg base CX0 2 T.f_bands_by T.d_bands_by ["order", "found"] (spP K 1 m_bands_by) :=
  ok_def (sl := slots gs_bands_by) (ms' := []) (rm := [.un, .un, .un, .un]) (g := b_bands_by) T.F_bands_by sc_bands_by (fun _ => rfl) (fun _ => ⟨_, rfl, rfl⟩) fun cdv A outer s H E H0 S0 vs hr =>
 (ss_one (by exact (s_ret (ev (pv_lc rfl sc_bands_by.nd (pw_listP (i := 2) (j := 3) (pv_share (pv_cut (pv_v 1 (pv 1) rfl (fun _ => rfl)) po_n (po_s (pv_un un_neg o_neg pv_int))))) (blkOk_by (N := N_bands_by) (sc := defScope (topS 9)) (own := [("used", 2), ("gains", 3)]) (by decide +kernel)) (fun _ _ _ _ _ => (pg_tup rfl (pgs_cons (pg_name (i := 2) sc_bands_by.nd rfl (.inl rfl)) (pgs_cons (pg_name (i := 3) sc_bands_by.nd rfl (.inl rfl)) pgs_nil)))) (fun _ _ _ _ _ => ptsV_nil) (fun _ _ _ _ _ => (pv_re re_unO (pv_scal 0 (pv_ixW (pv_v 3 (pv 3) rfl (fun _ => rfl)) (pv_call (ok_end_of T) (hr.mono (by decide)) rfl T.g_end_of T.F_end_of.kp T.b_end_of (pa_c (pv_v 0 (pv 0) rfl (fun _ => rfl)) pa_n)))))) (fun _ _ => rfl) (fun _ => rfl) (by decide))))))
abbrev N_bands : List Str := ["order"]
theorem sc_bands : FnScope N_bands ["order"] (defScope (topS 10)) := ⟨rfl, rfl, rfl, by decide +kernel, rfl, by decide +kernel, by decide +kernel⟩
theorem ok_bands (T : Tx K mg) : FnOk P w K mg base CX0 6 T.f_bands T.d_bands ["order"] (spP K 1 m_bands) :=
  ok_def (sl := slots gs_bands) (ms' := []) (rm := [.un]) (g := b_bands) T.F_bands sc_bands (fun _ => rfl) (fun _ => ⟨_, rfl, rfl⟩) fun cdv A outer s H E H0 S0 vs hr =>
 (ss_one (by exact (s_ret (ev (pv_call (ok_bands_by T) (hr.mono (by decide)) rfl T.g_bands_by T.F_bands_by.kp T.b_bands_by (pa_c (pv_v 0 (pv 0) rfl (fun _ => rfl)) (pa_c (pv_share (pv_call (ok_rounds T) (hr.mono (by decide)) rfl T.g_rounds T.F_rounds.kp T.b_rounds (pa_c (pv_v 0 (pv 0) rfl (fun _ => rfl)) pa_n))) pa_n)))))))
abbrev N_columns_of : List Str := ["row", "found", "number", "place"]
theorem sc_columns_of : FnScope N_columns_of ["row"] (defScope (topS 11)) := ⟨rfl, rfl, rfl, by decide +kernel, rfl, by decide +kernel, by decide +kernel⟩
theorem ok_columns_of (T : Tx K mg) : FnOk P w K mg base CX0 1 T.f_columns_of T.d_columns_of ["row"] (spP K 1 m_columns_of) :=
  ok_def (sl := slots gs_columns_of) (ms' := []) (rm := [.un, .un, .un, .un]) (g := b_columns_of) T.F_columns_of sc_columns_of (fun _ => rfl) (fun _ => ⟨_, rfl, rfl⟩) fun cdv A outer s H E H0 S0 vs hr =>
 (ss_cons (ms1 := [lv 0, lv 1, .un, .un]) (by exact (s_set (i := 1) sc_columns_of.nd rfl (.inl rfl) (ev (pv_nil (k := 0))) (fun _ _ => rfl) (by decide)))
 (by exact (ss_cons (ms1 := [lv 0, lv 1, .un, .un]) (by exact (s_for (lm := [lv 0, lv 1, .un, .un]) PassesOwn.never rfl (by exact (pw_list (i := 2) (pv_v 0 (pv 0) rfl (fun _ => rfl)))) (pg_name (i := 2) sc_columns_of.nd rfl (.inl rfl))
 (by exact (ss_weak (ms1 := [lv 0, lv 1, lv 0, .un]) (by exact (ss_one (by exact (s_for (lm := [lv 0, lv 1, lv 0, .un]) PassesOwn.never rfl (by exact (pw_rng1 (i := 3) rfl T.z_range (pv_v 2 (pv 2) rfl (fun _ => rfl)))) (pg_name (i := 3) sc_columns_of.nd rfl (.inl rfl))
 (by exact (ss_weak (ms1 := [lv 0, lv 1, lv 0, lv 0]) (by exact (ss_cons (ms1 := [lv 0, lv 1, lv 0, lv 0]) (by exact (s_if (by exact (et (pt_cmpV op_eq o_eqS (pv_v 3 (pv 3) rfl (fun _ => rfl)) (pv_b1 call_len_seq o_lenL rfl T.z_len boot_len (pv_w 1 (pv 1) rfl (fun _ => rfl))) (nomark _))))
 (by exact (ss_one (by exact (s_mut1 (i := 1) (get := (fun r : E_columns_of => r.v_found)) mut_app (pe_bm PySem.F.plainAttrs_list PySem.F.slot_list_append PySem.F.type_list_append mt_append (pv 1) (pa_cons (ev pv_int) pa_nil)) rfl rfl (fun _ => rfl) (fun _ _ => rfl)))))
 (by exact ss_nil)))
 (by exact (ss_one (by exact (s_augP (rcv_var (i := 1) (get := (fun r : E_columns_of => r.v_found)) (set := (fun a r => { r with v_found := a })) rfl (fun _ => rfl) (fun _ _ => rfl)) (pv 1) (pv_v 3 (pv 3) rfl (fun _ => rfl)) pv_int ip_add (fun _ _ => rfl))))))))) (fun _ _ => rfl) (fun _ => rfl) (by decide))))))) (fun _ _ => rfl) (fun _ => rfl) (by decide)))
 (by exact (ss_one (by exact (s_ret (ev_mv (g := fun r : E_columns_of => r.v_found) 1 (pv 1) rfl (fun _ => rfl)))))))))
abbrev N_steps : List Str := ["order"]
theorem sc_steps : FnScope N_steps ["order"] (defScope (topS 12)) := ⟨rfl, rfl, rfl, by decide +kernel, rfl, by decide +kernel, by decide +kernel⟩
theorem ok_steps (T : Tx K mg) : FnOk P w K mg base CX0 7 T.f_steps T.d_steps ["order"] (spP K 1 m_steps) :=
  ok_def (sl := slots gs_steps) (ms' := []) (rm := [.un]) (g := b_steps) T.F_steps sc_steps (fun _ => rfl) (fun _ => ⟨_, rfl, rfl⟩) fun cdv A outer s H E H0 S0 vs hr =>
 (ss_one (by exact (s_ret (ev (pv_call (ok_columns_of T) (hr.mono (by decide)) rfl T.g_columns_of T.F_columns_of.kp T.b_columns_of (pa_c (pv_share (pv_call (ok_bands T) (hr.mono (by decide)) rfl T.g_bands T.F_bands.kp T.b_bands (pa_c (pv_v 0 (pv 0) rfl (fun _ => rfl)) pa_n))) pa_n))))))
abbrev N_l_cell : List Str := ["_law_script", "_law_k"]
theorem sc_l_cell : FnScope N_l_cell ["_law_script", "_law_k"] (defScope (topS 14)) := ⟨rfl, rfl, rfl, by decide +kernel, rfl, by decide +kernel, by decide +kernel⟩
theorem ok_l_cell (T : Tx K mg) : FnOk P w K mg base CX0 1 T.f_l_cell T.d_l_cell ["_law_script", "_law_k"] (spP K 0 m_l_cell) :=
  ok_def (sl := slots gs_l_cell) (ms' := []) (rm := [.un, .un]) (g := b_l_cell) T.F_l_cell sc_l_cell (fun _ => rfl) (fun _ => ⟨_, rfl, rfl⟩) fun cdv A outer s H E H0 S0 vs hr =>
 (ss_cons (ms1 := [lv 0, lv 0]) (by exact (s_if (by exact (et (pt_cmpV op_lt o_lt (pv_v 1 (pv 1) rfl (fun _ => rfl)) (pv_b1 call_len_seq o_lenScr rfl T.z_len boot_len (pv_v 0 (pv 0) rfl (fun _ => rfl))) (nomark _))))
 (by exact (ss_one (by exact (s_ret (ev (pv_ixScr (pv_v 0 (pv 0) rfl (fun _ => rfl)) (pv_v 1 (pv 1) rfl (fun _ => rfl))))))))
 (by exact ss_nil)))
 (by exact (ss_one (by exact (s_ret (ev pv_int))))))
abbrev N_l_digits : List Str := ["_law_cell_here", "_law_base", "_law_many", "_law_row_here", "_law_k"]
theorem sc_l_digits : FnScope N_l_digits ["_law_cell_here", "_law_base", "_law_many"] (defScope (topS 15)) := ⟨rfl, rfl, rfl, by decide +kernel, rfl, by decide +kernel, by decide +kernel⟩
theorem ok_l_digits (T : Tx K mg) : FnOk P w K mg base CX0 1 T.f_l_digits T.d_l_digits ["_law_cell_here", "_law_base", "_law_many"] (spP K 1 m_l_digits) :=
  ok_def (sl := slots gs_l_digits) (ms' := []) (rm := [.un, .un, .un, .un, .un]) (g := b_l_digits) T.F_l_digits sc_l_digits (fun _ => rfl) (fun _ => ⟨_, rfl, rfl⟩) fun cdv A outer s H E H0 S0 vs hr =>
 (ss_cons (ms1 := [lv 0, lv 0, lv 0, lv 1, .un]) (by exact (s_set (i := 3) sc_l_digits.nd rfl (.inl rfl) (ev (pv_nil (k := 0))) (fun _ _ => rfl) (by decide)))
 (by exact (ss_cons (ms1 := [lv 0, lv 0, lv 0, lv 1, .un]) (by exact (s_for (lm := [lv 0, lv 0, lv 0, lv 1, .un]) PassesOwn.never rfl (by exact (pw_rng1 (i := 4) rfl T.z_range (pv_v 2 (pv 2) rfl (fun _ => rfl)))) (pg_name (i := 4) sc_l_digits.nd rfl (.inl rfl))
 (by exact (ss_weak (ms1 := [lv 0, lv 0, lv 0, lv 1, lv 0]) (by exact (ss_cons (ms1 := [lv 0, lv 0, lv 0, lv 1, lv 0]) (by exact (s_mut1 (i := 3) (get := (fun r : E_l_digits => r.v_row_here)) mut_app (pe_bm PySem.F.plainAttrs_list PySem.F.slot_list_append PySem.F.type_list_append mt_append (pv 3) (pa_cons (ev (pv_bin op_modN o_mod (pv_v 0 (pv 0) rfl (fun _ => rfl)) (pv_v 1 (pv 1) rfl (fun _ => rfl)))) pa_nil)) rfl rfl (fun _ => rfl) (fun _ _ => rfl)))
 (by exact (ss_one (by exact (s_set (i := 0) sc_l_digits.nd rfl (.inl rfl) (ev (pv_bin op_divA o_fdiv (pv_v 0 (pv 0) rfl (fun _ => rfl)) (pv_v 1 (pv 1) rfl (fun _ => rfl)))) (fun _ _ => rfl) (by decide))))))))) (fun _ _ => rfl) (fun _ => rfl) (by decide)))
 (by exact (ss_one (by exact (s_ret (ev_mv (g := fun r : E_l_digits => r.v_row_here) 3 (pv 3) rfl (fun _ => rfl)))))))))
abbrev N_l_mixed : List Str := ["_law_cell_here", "_law_base", "_law_many", "_law_row_here", "_law_k", "_law_one", "_law_two"]
theorem sc_l_mixed : FnScope N_l_mixed ["_law_cell_here", "_law_base", "_law_many"] (defScope (topS 16)) := ⟨rfl, rfl, rfl, by decide +kernel, rfl, by decide +kernel, by decide +kernel⟩
theorem ok_l_mixed (T : Tx K mg) : FnOk P w K mg base CX0 1 T.f_l_mixed T.d_l_mixed ["_law_cell_here", "_law_base", "_law_many"] (spP K 1 m_l_mixed) :=
  ok_def (sl := slots gs_l_mixed) (ms' := []) (rm := [.un, .un, .un, .un, .un, .un, .un]) (g := b_l_mixed) T.F_l_mixed sc_l_mixed (fun _ => rfl) (fun _ => ⟨_, rfl, rfl⟩) fun cdv A outer s H E H0 S0 vs hr =>
 (ss_cons (ms1 := [lv 0, lv 0, lv 0, lv 1, .un, .un, .un]) (by exact (s_set (i := 3) sc_l_mixed.nd rfl (.inl rfl) (ev (pv_nil (k := 0))) (fun _ _ => rfl) (by decide)))
 (by exact (ss_cons (ms1 := [lv 0, lv 0, lv 0, lv 1, .un, .un, .un]) (by exact (s_for (lm := [lv 0, lv 0, lv 0, lv 1, .un, .un, .un]) PassesOwn.never rfl (by exact (pw_rng1 (i := 4) rfl T.z_range (pv_v 2 (pv 2) rfl (fun _ => rfl)))) (pg_name (i := 4) sc_l_mixed.nd rfl (.inl rfl))
 (by exact (ss_weak (ms1 := [lv 0, lv 0, lv 0, lv 1, lv 0, lv 0, lv 0]) (by exact (ss_cons (ms1 := [lv 0, lv 0, lv 0, lv 1, lv 0, lv 0, .un]) (by exact (s_set (i := 5) sc_l_mixed.nd rfl (.inl rfl) (ev (pv_bin op_modN o_mod (pv_bin op_mulA o_mul (pv_bin op_add o_add (pv_bin op_add o_add (pv_bin op_add o_add (pv_bin op_modN o_mod (pv_v 0 (pv 0) rfl (fun _ => rfl)) pv_int) (pv_bin op_mulA o_mul (pv_bin op_mulA o_mul pv_int (pv_v 4 (pv 4) rfl (fun _ => rfl))) (pv_v 4 (pv 4) rfl (fun _ => rfl)))) (pv_bin op_mulA o_mul pv_int (pv_v 4 (pv 4) rfl (fun _ => rfl)))) pv_int) pv_int) pv_int)) (fun _ _ => rfl) (by decide)))
 (by exact (ss_cons (ms1 := [lv 0, lv 0, lv 0, lv 1, lv 0, lv 0, lv 0]) (by exact (s_set (i := 6) sc_l_mixed.nd rfl (.inl rfl) (ev (pv_bin op_modN o_mod (pv_bin op_mulA o_mul (pv_bin op_add o_add (pv_bin op_add o_add (pv_bin op_divA o_fdiv (pv_v 5 (pv 5) rfl (fun _ => rfl)) pv_int) (pv_bin op_mulA o_mul (pv_bin op_modN o_mod (pv_bin op_divA o_fdiv (pv_v 0 (pv 0) rfl (fun _ => rfl)) pv_int) pv_int) pv_int)) (pv_v 4 (pv 4) rfl (fun _ => rfl))) pv_int) pv_int)) (fun _ _ => rfl) (by decide)))
 (by exact (ss_one (by exact (s_mut1 (i := 3) (get := (fun r : E_l_mixed => r.v_row_here)) mut_app (pe_bm PySem.F.plainAttrs_list PySem.F.slot_list_append PySem.F.type_list_append mt_append (pv 3) (pa_cons (ev (pv_bin op_modN o_mod (pv_bin op_divA o_fdiv (pv_v 6 (pv 6) rfl (fun _ => rfl)) pv_int) (pv_v 1 (pv 1) rfl (fun _ => rfl)))) pa_nil)) rfl rfl (fun _ => rfl) (fun _ _ => rfl))))))))))) (fun _ _ => rfl) (fun _ => rfl) (by decide)))
 (by exact (ss_one (by exact (s_ret (ev_mv (g := fun r : E_l_mixed => r.v_row_here) 3 (pv 3) rfl (fun _ => rfl)))))))))
abbrev N_l_row : List Str := ["_law_cell_here", "_law_base", "_law_many"]
theorem sc_l_row : FnScope N_l_row ["_law_cell_here", "_law_base", "_law_many"] (defScope (topS 17)) := ⟨rfl, rfl, rfl, by decide +kernel, rfl, by decide +kernel, by decide +kernel⟩
theorem ok_l_row (T : Tx K mg) : FnOk P w K mg base CX0 2 T.f_l_row T.d_l_row ["_law_cell_here", "_law_base", "_law_many"] (spP K 1 m_l_row) :=
  ok_def (sl := slots gs_l_row) (ms' := []) (rm := [.un, .un, .un]) (g := b_l_row) T.F_l_row sc_l_row (fun _ => rfl) (fun _ => ⟨_, rfl, rfl⟩) fun cdv A outer s H E H0 S0 vs hr =>
 (ss_cons (ms1 := [lv 0, lv 0, lv 0]) (by exact (s_if (by exact (et (pt_cmpV op_ge o_ge (pv_b1 call_abs o_abs rfl T.z_abs boot_abs (pv_v 0 (pv 0) rfl (fun _ => rfl))) (pv_bin op_pow o_pow pv_int pv_int) (nomark _))))
 (by exact (ss_one (by exact (s_ret (ev (pv_call (ok_l_digits T) (hr.mono (by decide)) rfl T.g_l_digits T.F_l_digits.kp T.b_l_digits (pa_c (pv_v 0 (pv 0) rfl (fun _ => rfl)) (pa_c (pv_v 1 (pv 1) rfl (fun _ => rfl)) (pa_c (pv_v 2 (pv 2) rfl (fun _ => rfl)) pa_n)))))))))
 (by exact ss_nil)))
 (by exact (ss_one (by exact (s_ret (ev (pv_call (ok_l_mixed T) (hr.mono (by decide)) rfl T.g_l_mixed T.F_l_mixed.kp T.b_l_mixed (pa_c (pv_v 0 (pv 0) rfl (fun _ => rfl)) (pa_c (pv_v 1 (pv 1) rfl (fun _ => rfl)) (pa_c (pv_v 2 (pv 2) rfl (fun _ => rfl)) pa_n))))))))))
abbrev N_l_closed : List Str := ["_law_many", "_law_digits_here", "_law_order_here", "_law_at", "_law_high", "_law_below", "_law_low"]
theorem sc_l_closed : FnScope N_l_closed ["_law_many", "_law_digits_here"] (defScope (topS 18)) := ⟨rfl, rfl, rfl, by decide +kernel, rfl, by decide +kernel, by decide +kernel⟩
theorem ok_l_closed (T : Tx K mg) : FnOk P w K mg base CX0 1 T.f_l_closed T.d_l_closed ["_law_many", "_law_digits_here"] (spP K 2 m_l_closed) :=
  ok_def (sl := slots gs_l_closed) (ms' := []) (rm := [.un, .un, .un, .un, .un, .un, .un]) (g := b_l_closed) T.F_l_closed sc_l_closed (fun _ => rfl) (fun _ => ⟨_, rfl, rfl⟩) fun cdv A outer s H E H0 S0 vs hr =>
 (ss_cons (ms1 := [lv 0, lv 0, lv 2, .un, .un, .un, .un]) (by exact (s_set (i := 2) sc_l_closed.nd rfl (.inl rfl) (ev (pv_nil (k := 1))) (fun _ _ => rfl) (by decide)))
 (by exact (ss_cons (ms1 := [lv 0, lv 0, lv 2, lv 0, .un, .un, .un]) (by exact (s_set (i := 3) sc_l_closed.nd rfl (.inl rfl) (ev pv_int) (fun _ _ => rfl) (by decide)))
 (by exact (ss_cons (ms1 := [lv 0, lv 0, lv 2, lv 0, .un, .un, .un]) (by exact (s_for (lm := [lv 0, lv 0, lv 2, lv 0, .un, .un, .un]) PassesOwn.never rfl (by exact (pw_rng1 (i := 4) rfl T.z_range (pv_v 0 (pv 0) rfl (fun _ => rfl)))) (pg_name (i := 4) sc_l_closed.nd rfl (.inl rfl))
 (by exact (ss_weak (ms1 := [lv 0, lv 0, lv 2, lv 0, lv 0, lv 1, .un]) (by exact (ss_cons (ms1 := [lv 0, lv 0, lv 2, lv 0, lv 0, lv 1, .un]) (by exact (s_set (i := 5) sc_l_closed.nd rfl (.inl rfl) (ev (pv_nil (k := 0))) (fun _ _ => rfl) (by decide)))
 (by exact (ss_cons (ms1 := [lv 0, lv 0, lv 2, lv 0, lv 0, lv 1, .un]) (by exact (s_lend (pl := [.cl 0 none, .fix 0 none, .fix 2 none, .cl 0 none, .cl 0 none, .cl 1 none, .un]) (gs := gs_l_closed) ⟨inferInstance, inferInstance, inferInstance, inferInstance, inferInstance, inferInstance, trivial⟩ rfl rfl nob_for (fun S0 A => by exact (s_for (lm := [lv 0, .own 0 (some 1001), .own 0 (some 1002), lv 0, lv 0, lv 1, .un]) PassesOwn.never rfl (by exact (pw_rng1 (i := 6) rfl T.z_range (pv_v 4 (pv 4) rfl (fun _ => rfl)))) (pg_name (i := 6) sc_l_closed.nd rfl (.inl rfl))
 (by exact (ss_weak (ms1 := [lv 0, .own 0 (some 1001), .own 0 (some 1002), lv 0, lv 0, lv 1, lv 0]) (by exact (ss_cons (ms1 := [lv 0, .own 0 (some 1001), .own 0 (some 1002), lv 0, lv 0, lv 1, lv 0]) (by exact (s_if (by exact (et (pt_cmpV op_eq o_eqS (pv_scal 0 (pv_ixW (pv_v 1 (pv 1) rfl (fun _ => rfl)) (pv_v 3 (pv 3) rfl (fun _ => rfl)))) pv_int (nomark _))))
 (by exact (ss_cons (ms1 := [lv 0, .own 0 (some 1001), .own 0 (some 1002), lv 0, lv 0, lv 1, lv 0]) (by exact (s_mut1 (i := 5) (get := (fun r : E_l_closed => r.v_below)) mut_app (pe_bm PySem.F.plainAttrs_list PySem.F.slot_list_append PySem.F.type_list_append mt_append (pv 5) (pa_cons (ev (pv_v 6 (pv 6) rfl (fun _ => rfl))) pa_nil)) rfl rfl (fun _ => rfl) (fun _ _ => rfl)))
 (by exact (ss_one (by exact (s_mut1 (i := 5) (get := (fun r : E_l_closed => r.v_below)) mut_ext0 (pe_bm PySem.F.plainAttrs_list PySem.F.slot_list_extend PySem.F.type_list_extend mt_extend (pv 5) (pa_cons (ev (pv_ix (pv_v 2 (pv 2) rfl (fun _ => rfl)) (pv_v 6 (pv 6) rfl (fun _ => rfl)))) pa_nil)) rfl rfl (fun _ => rfl) (fun _ _ => rfl)))))))
 (by exact ss_nil)))
 (by exact (ss_one (by exact (s_set (i := 3) sc_l_closed.nd rfl (.inl rfl) (ev (pv_bin op_add o_add (pv_v 3 (pv 3) rfl (fun _ => rfl)) pv_int)) (fun _ _ => rfl) (by decide))))))))) (fun _ _ => rfl) (fun _ => rfl) (by decide)))))
 (by exact (ss_one (by exact (s_mut1 (i := 2) (get := (fun r : E_l_closed => r.v_order_here)) mut_app (pe_bm PySem.F.plainAttrs_list PySem.F.slot_list_append PySem.F.type_list_append mt_append (pv 2) (pa_cons (ev (pv_sortSet rfl rfl T.z_sorted rfl T.z_set (pv_w 5 (pv 5) rfl (fun _ => rfl)))) pa_nil)) rfl rfl (fun _ => rfl) (fun _ _ => rfl))))))))))) (fun _ _ => rfl) (fun _ => rfl) (by decide)))
 (by exact (ss_one (by exact (s_ret (ev_mv (g := fun r : E_l_closed => r.v_order_here) 2 (pv 2) rfl (fun _ => rfl)))))))))))
abbrev N_l_order : List Str := ["_law_cell_here", "_law_many"]
theorem sc_l_order : FnScope N_l_order ["_law_cell_here"] (defScope (topS 19)) := ⟨rfl, rfl, rfl, by decide +kernel, rfl, by decide +kernel, by decide +kernel⟩
theorem ok_l_order (T : Tx K mg) : FnOk P w K mg base CX0 3 T.f_l_order T.d_l_order ["_law_cell_here"] (spP K 2 m_l_order) :=
  ok_def (sl := slots gs_l_order) (ms' := []) (rm := [.un, .un]) (g := b_l_order) T.F_l_order sc_l_order (fun _ => rfl) (fun _ => ⟨_, rfl, rfl⟩) fun cdv A outer s H E H0 S0 vs hr =>
 (ss_cons (ms1 := [lv 0, lv 0]) (by exact (s_set (i := 1) sc_l_order.nd rfl (.inl rfl) (ev (pv_bin op_modN o_mod (pv_v 0 (pv 0) rfl (fun _ => rfl)) pv_int)) (fun _ _ => rfl) (by decide)))
 (by exact (ss_cons (ms1 := [lv 0, lv 0]) (by exact (s_if (by exact (et (pt_cmpV op_eq o_eqS (pv_bin op_modN o_mod (pv_bin op_divA o_fdiv (pv_v 0 (pv 0) rfl (fun _ => rfl)) pv_int) pv_int) pv_int (nomark _))))
 (by exact (ss_one (by exact (s_set (i := 1) sc_l_order.nd rfl (.inl rfl) (ev (pv_bin op_modN o_mod (pv_bin op_divA o_fdiv (pv_v 0 (pv 0) rfl (fun _ => rfl)) pv_int) pv_int)) (fun _ _ => rfl) (by decide)))))
 (by exact ss_nil)))
 (by exact (ss_one (by exact (s_ret (ev (pv_call (ok_l_closed T) (hr.mono (by decide)) rfl T.g_l_closed T.F_l_closed.kp T.b_l_closed (pa_c (pv_v 1 (pv 1) rfl (fun _ => rfl)) (pa_c (pv_share (pv_call (ok_l_row T) (hr.mono (by decide)) rfl T.g_l_row T.F_l_row.kp T.b_l_row (pa_c (pv_bin op_divA o_fdiv (pv_v 0 (pv 0) rfl (fun _ => rfl)) pv_int) (pa_c (pv_bin op_add o_add pv_int (pv_bin op_modN o_mod (pv_bin op_divA o_fdiv (pv_v 0 (pv 0) rfl (fun _ => rfl)) pv_int) pv_int)) (pa_c pv_int pa_n))))) pa_n)))))))))))
abbrev N_l_columns : List Str := ["_law_row_here", "_law_found", "_law_number", "_law_one"]
theorem sc_l_columns : FnScope N_l_columns ["_law_row_here"] (defScope (topS 20)) := ⟨rfl, rfl, rfl, by decide +kernel, rfl, by decide +kernel, by decide +kernel⟩
theorem ok_l_columns (T : Tx K mg) : FnOk P w K mg base CX0 1 T.f_l_columns T.d_l_columns ["_law_row_here"] (spP K 1 m_l_columns) :=
  ok_def (sl := slots gs_l_columns) (ms' := []) (rm := [.un, .un, .un, .un]) (g := b_l_columns) T.F_l_columns sc_l_columns (fun _ => rfl) (fun _ => ⟨_, rfl, rfl⟩) fun cdv A outer s H E H0 S0 vs hr =>
 (ss_cons (ms1 := [lv 0, lv 1, .un, .un]) (by exact (s_set (i := 1) sc_l_columns.nd rfl (.inl rfl) (ev (pv_nil (k := 0))) (fun _ _ => rfl) (by decide)))
 (by exact (ss_cons (ms1 := [lv 0, lv 1, .un, .un]) (by exact (s_for (lm := [lv 0, lv 1, .un, .un]) PassesOwn.never rfl (by exact (pw_rng2 (i := 2) rfl T.z_range pv_int (pv_bin op_add o_add (pv_b1 (cr_max rfl) o_max rfl T.z_max boot_max (pv_bin op_cat o_cat (pv_lst (pl_cons pv_int pl_nil)) (pv_v 0 (pv 0) rfl (fun _ => rfl)))) pv_int))) (pg_name (i := 2) sc_l_columns.nd rfl (.inr rfl))
 (by exact (ss_weak (ms1 := [lv 0, lv 1, lv 0, .un]) (by exact (ss_one (by exact (s_mut1 (i := 1) (get := (fun r : E_l_columns => r.v_found)) mut_app (pe_bm PySem.F.plainAttrs_list PySem.F.slot_list_append PySem.F.type_list_append mt_append (pv 1) (pa_cons (ev (pv_b1 call_len_seq o_lenL rfl T.z_len boot_len (pv_lc rfl sc_l_columns.nd (pw_list (i := 3) (pv_v 0 (pv 0) rfl (fun _ => rfl))) (blkOk_by (N := N_l_columns) (sc := defScope (topS 20)) (own := [("_law_one", 3)]) (by decide +kernel)) (fun _ _ _ _ _ => (pg_name (i := 3) sc_l_columns.nd rfl (.inl rfl))) (fun _ _ _ _ _ => (ptsV_one (pt_cmpV op_ge o_ge (pv_v 3 (pv 3) rfl (fun _ => rfl)) (pv_v 2 (pv 2) rfl (fun _ => rfl)) (nomark _)))) (fun _ _ _ _ _ => (pv_v 3 (pv 3) rfl (fun _ => rfl))) (fun _ _ => rfl) (fun _ => rfl) (by decide)))) pa_nil)) rfl rfl (fun _ => rfl) (fun _ _ => rfl))))))) (fun _ _ => rfl) (fun _ => rfl) (by decide)))
 (by exact (ss_one (by exact (s_ret (ev_mv (g := fun r : E_l_columns => r.v_found) 1 (pv 1) rfl (fun _ => rfl)))))))))
abbrev N_law : List Str := ["_law_script", "_law_cell_here", "_law_order_here", "_law_told", "_law_other", "_law_row_here"]
theorem sc_law : FnScope N_law ["_law_script"] (defScope (topS 21)) := ⟨rfl, rfl, rfl, by decide +kernel, rfl, by decide +kernel, by decide +kernel⟩
theorem ok_law (T : Tx K mg) : FnOk P w K mg base CX0 8 T.f_law T.d_law ["_law_script"] (spP K 0 m_law) :=
  ok_def (sl := slots gs_law) (ms' := []) (rm := [.un, .un, .un, .un, .un, .un]) (g := b_law) T.F_law sc_law (fun _ => rfl) (fun _ => ⟨_, rfl, rfl⟩) fun cdv A outer s H E H0 S0 vs hr =>
 (ss_cons (ms1 := [lv 0, .un, .un, .un, .un, .un]) (by exact (s_for (lm := [lv 0, .un, .un, .un, .un, .un]) PassesOwn.never rfl (by exact (pw_list (i := 1) (pv_share (pv_bin op_cat o_cat (pv_lst (pl_cons (pv_call (ok_l_cell T) (hr.mono (by decide)) rfl T.g_l_cell T.F_l_cell.kp T.b_l_cell (pa_c (pv_v 0 (pv 0) rfl (fun _ => rfl)) (pa_c pv_int pa_n))) pl_nil)) (pv_cutScr (pv_v 0 (pv 0) rfl (fun _ => rfl)) (po_s pv_int) (po_s pv_int)))))) (pg_name (i := 1) sc_law.nd rfl (.inl rfl))
 (by exact (ss_weak (ms1 := [lv 0, lv 0, lv 0, lv 0, lv 0, .un]) (by exact (ss_cons (ms1 := [lv 0, lv 0, lv 0, .un, .un, .un]) (by exact (s_set (i := 2) sc_law.nd rfl (.inl rfl) (ev (pv_share (pv_call (ok_l_order T) (hr.mono (by decide)) rfl T.g_l_order T.F_l_order.kp T.b_l_order (pa_c (pv_v 1 (pv 1) rfl (fun _ => rfl)) pa_n)))) (fun _ _ => rfl) (by decide)))
 (by exact (ss_cons (ms1 := [lv 0, lv 0, lv 0, lv 0, .un, .un]) (by exact (s_set (i := 3) sc_law.nd rfl (.inl rfl) (ev (pv_share (pv_call (ok_bands T) (hr.mono (by decide)) rfl T.g_bands T.F_bands.kp T.b_bands (pa_c (pv_share (pv_lc rfl sc_law.nd (pw_list (i := 5) (pv_v 2 (pv 2) rfl (fun _ => rfl))) (blkOk_by (N := N_law) (sc := defScope (topS 21)) (own := [("_law_row_here", 5)]) (by decide +kernel)) (fun _ _ _ _ _ => (pg_name (i := 5) sc_law.nd rfl (.inl rfl))) (fun _ _ _ _ _ => ptsV_nil) (fun _ _ _ _ _ => (pv_listS rfl T.z_list (pv_v 5 (pv 5) rfl (fun _ => rfl)))) (fun _ _ => rfl) (fun _ => rfl) (by decide))) pa_n)))) (fun _ _ => rfl) (by decide)))
 (by exact (ss_cons (ms1 := [lv 0, lv 0, lv 0, lv 0, lv 0, .un]) (by exact (s_set (i := 4) sc_law.nd rfl (.inl rfl) (ev (pv_share (pv_call (ok_steps T) (hr.mono (by decide)) rfl T.g_steps T.F_steps.kp T.b_steps (pa_c (pv_share (pv_lc rfl sc_law.nd (pw_list (i := 5) (pv_v 2 (pv 2) rfl (fun _ => rfl))) (blkOk_by (N := N_law) (sc := defScope (topS 21)) (own := [("_law_row_here", 5)]) (by decide +kernel)) (fun _ _ _ _ _ => (pg_name (i := 5) sc_law.nd rfl (.inl rfl))) (fun _ _ _ _ _ => ptsV_nil) (fun _ _ _ _ _ => (pv_listS rfl T.z_list (pv_v 5 (pv 5) rfl (fun _ => rfl)))) (fun _ _ => rfl) (fun _ => rfl) (by decide))) pa_n)))) (fun _ _ => rfl) (by decide)))
 (by exact (ss_one (by exact (s_if (by exact (et (PW.pt (pw_orV (pt_cmpV (op_neD hr.units) o_neD (pv_v 4 (pv 4) rfl (fun _ => rfl)) (pv_call (ok_l_columns T) (hr.mono (by decide)) rfl T.g_l_columns T.F_l_columns.kp T.b_l_columns (pa_c (pv_v 3 (pv 3) rfl (fun _ => rfl)) pa_n)) (nomark _)) (pw_or1V (pt_cmpV (op_neD hr.units) o_neD (pv_v 3 (pv 3) rfl (fun _ => rfl)) (pv_call (ok_l_columns T) (hr.mono (by decide)) rfl T.g_l_columns T.F_l_columns.kp T.b_l_columns (pa_c (pv_v 4 (pv 4) rfl (fun _ => rfl)) pa_n)) (nomark _)))))))
 (by exact (ss_one (by exact (s_ret (ev pv_bl)))))
 (by exact ss_nil))))))))))))) (fun _ _ => rfl) (fun _ => rfl) (by decide)))
 (by exact (ss_one (by exact (s_ret (ev pv_bl))))))
end
def tx_mk {K : PySem.W.Frag} {h : Heap} {mg : Str → Option Value} (X : K.In h) (G : h.Ns mainGlobals mg)
    {od_start_of an_start_of : Option Addr} {sl_start_of : Array (Option Value)} {oc_start_of kV_start_of dc_start_of pm_start_of cd_start_of ct_start_of : Value} {f_start_of : Addr}
    {od_end_of an_end_of : Option Addr} {sl_end_of : Array (Option Value)} {oc_end_of kV_end_of dc_end_of pm_end_of cd_end_of ct_end_of : Value} {f_end_of : Addr}
    {od_plain_arcs an_plain_arcs : Option Addr} {sl_plain_arcs : Array (Option Value)} {oc_plain_arcs kV_plain_arcs dc_plain_arcs pm_plain_arcs cd_plain_arcs ct_plain_arcs : Value} {f_plain_arcs : Addr}
    {od_open_arcs an_open_arcs : Option Addr} {sl_open_arcs : Array (Option Value)} {oc_open_arcs kV_open_arcs dc_open_arcs pm_open_arcs cd_open_arcs ct_open_arcs : Value} {f_open_arcs : Addr}
    {od_farthest an_farthest : Option Addr} {sl_farthest : Array (Option Value)} {oc_farthest kV_farthest dc_farthest pm_farthest cd_farthest ct_farthest : Value} {f_farthest : Addr}
    {od_taken an_taken : Option Addr} {sl_taken : Array (Option Value)} {oc_taken kV_taken dc_taken pm_taken cd_taken ct_taken : Value} {f_taken : Addr}
    {od_rounds an_rounds : Option Addr} {sl_rounds : Array (Option Value)} {oc_rounds kV_rounds dc_rounds pm_rounds cd_rounds ct_rounds : Value} {f_rounds : Addr}
    {od_bands_by an_bands_by : Option Addr} {sl_bands_by : Array (Option Value)} {oc_bands_by kV_bands_by dc_bands_by pm_bands_by cd_bands_by ct_bands_by : Value} {f_bands_by : Addr}
    {od_bands an_bands : Option Addr} {sl_bands : Array (Option Value)} {oc_bands kV_bands dc_bands pm_bands cd_bands ct_bands : Value} {f_bands : Addr}
    {od_columns_of an_columns_of : Option Addr} {sl_columns_of : Array (Option Value)} {oc_columns_of kV_columns_of dc_columns_of pm_columns_of cd_columns_of ct_columns_of : Value} {f_columns_of : Addr}
    {od_steps an_steps : Option Addr} {sl_steps : Array (Option Value)} {oc_steps kV_steps dc_steps pm_steps cd_steps ct_steps : Value} {f_steps : Addr}
    {od_l_cell an_l_cell : Option Addr} {sl_l_cell : Array (Option Value)} {oc_l_cell kV_l_cell dc_l_cell pm_l_cell cd_l_cell ct_l_cell : Value} {f_l_cell : Addr}
    {od_l_digits an_l_digits : Option Addr} {sl_l_digits : Array (Option Value)} {oc_l_digits kV_l_digits dc_l_digits pm_l_digits cd_l_digits ct_l_digits : Value} {f_l_digits : Addr}
    {od_l_mixed an_l_mixed : Option Addr} {sl_l_mixed : Array (Option Value)} {oc_l_mixed kV_l_mixed dc_l_mixed pm_l_mixed cd_l_mixed ct_l_mixed : Value} {f_l_mixed : Addr}
    {od_l_row an_l_row : Option Addr} {sl_l_row : Array (Option Value)} {oc_l_row kV_l_row dc_l_row pm_l_row cd_l_row ct_l_row : Value} {f_l_row : Addr}
    {od_l_closed an_l_closed : Option Addr} {sl_l_closed : Array (Option Value)} {oc_l_closed kV_l_closed dc_l_closed pm_l_closed cd_l_closed ct_l_closed : Value} {f_l_closed : Addr}
    {od_l_order an_l_order : Option Addr} {sl_l_order : Array (Option Value)} {oc_l_order kV_l_order dc_l_order pm_l_order cd_l_order ct_l_order : Value} {f_l_order : Addr}
    {od_l_columns an_l_columns : Option Addr} {sl_l_columns : Array (Option Value)} {oc_l_columns kV_l_columns dc_l_columns pm_l_columns cd_l_columns ct_l_columns : Value} {f_l_columns : Addr}
    {od_law an_law : Option Addr} {sl_law : Array (Option Value)} {oc_law kV_law dc_law pm_law cd_law ct_law : Value} {f_law : Addr}
    (a_start_of : PySem.W.nsIn K mainGlobals "start_of" = some (some (.ref f_start_of))) (l_start_of : K.lookup f_start_of = some ⟨oc_start_of, od_start_of, .func (PySem.W.fnOf "start_of" "start_of" (defArgs (topS 1)) (defBody (topS 1)) (defScope (topS 1)) .none kV_start_of dc_start_of pm_start_of an_start_of cd_start_of ct_start_of), sl_start_of⟩) (c_start_of : PySem.W.codeIn K cd_start_of "start_of" = true) (k_start_of : PySem.W.keepIn K (.ref f_start_of) = true)
    (a_end_of : PySem.W.nsIn K mainGlobals "end_of" = some (some (.ref f_end_of))) (l_end_of : K.lookup f_end_of = some ⟨oc_end_of, od_end_of, .func (PySem.W.fnOf "end_of" "end_of" (defArgs (topS 2)) (defBody (topS 2)) (defScope (topS 2)) .none kV_end_of dc_end_of pm_end_of an_end_of cd_end_of ct_end_of), sl_end_of⟩) (c_end_of : PySem.W.codeIn K cd_end_of "end_of" = true) (k_end_of : PySem.W.keepIn K (.ref f_end_of) = true)
    (a_plain_arcs : PySem.W.nsIn K mainGlobals "plain_arcs" = some (some (.ref f_plain_arcs))) (l_plain_arcs : K.lookup f_plain_arcs = some ⟨oc_plain_arcs, od_plain_arcs, .func (PySem.W.fnOf "plain_arcs" "plain_arcs" (defArgs (topS 3)) (defBody (topS 3)) (defScope (topS 3)) .none kV_plain_arcs dc_plain_arcs pm_plain_arcs an_plain_arcs cd_plain_arcs ct_plain_arcs), sl_plain_arcs⟩) (c_plain_arcs : PySem.W.codeIn K cd_plain_arcs "plain_arcs" = true) (k_plain_arcs : PySem.W.keepIn K (.ref f_plain_arcs) = true)
    (a_open_arcs : PySem.W.nsIn K mainGlobals "open_arcs" = some (some (.ref f_open_arcs))) (l_open_arcs : K.lookup f_open_arcs = some ⟨oc_open_arcs, od_open_arcs, .func (PySem.W.fnOf "open_arcs" "open_arcs" (defArgs (topS 4)) (defBody (topS 4)) (defScope (topS 4)) .none kV_open_arcs dc_open_arcs pm_open_arcs an_open_arcs cd_open_arcs ct_open_arcs), sl_open_arcs⟩) (c_open_arcs : PySem.W.codeIn K cd_open_arcs "open_arcs" = true) (k_open_arcs : PySem.W.keepIn K (.ref f_open_arcs) = true)
    (a_farthest : PySem.W.nsIn K mainGlobals "farthest" = some (some (.ref f_farthest))) (l_farthest : K.lookup f_farthest = some ⟨oc_farthest, od_farthest, .func (PySem.W.fnOf "farthest" "farthest" (defArgs (topS 5)) (defBody (topS 5)) (defScope (topS 5)) .none kV_farthest dc_farthest pm_farthest an_farthest cd_farthest ct_farthest), sl_farthest⟩) (c_farthest : PySem.W.codeIn K cd_farthest "farthest" = true) (k_farthest : PySem.W.keepIn K (.ref f_farthest) = true)
    (a_taken : PySem.W.nsIn K mainGlobals "taken" = some (some (.ref f_taken))) (l_taken : K.lookup f_taken = some ⟨oc_taken, od_taken, .func (PySem.W.fnOf "taken" "taken" (defArgs (topS 6)) (defBody (topS 6)) (defScope (topS 6)) .none kV_taken dc_taken pm_taken an_taken cd_taken ct_taken), sl_taken⟩) (c_taken : PySem.W.codeIn K cd_taken "taken" = true) (k_taken : PySem.W.keepIn K (.ref f_taken) = true)
    (a_rounds : PySem.W.nsIn K mainGlobals "rounds" = some (some (.ref f_rounds))) (l_rounds : K.lookup f_rounds = some ⟨oc_rounds, od_rounds, .func (PySem.W.fnOf "rounds" "rounds" (defArgs (topS 7)) (defBody (topS 7)) (defScope (topS 7)) .none kV_rounds dc_rounds pm_rounds an_rounds cd_rounds ct_rounds), sl_rounds⟩) (c_rounds : PySem.W.codeIn K cd_rounds "rounds" = true) (k_rounds : PySem.W.keepIn K (.ref f_rounds) = true)
    (a_bands_by : PySem.W.nsIn K mainGlobals "bands_by" = some (some (.ref f_bands_by))) (l_bands_by : K.lookup f_bands_by = some ⟨oc_bands_by, od_bands_by, .func (PySem.W.fnOf "bands_by" "bands_by" (defArgs (topS 9)) (defBody (topS 9)) (defScope (topS 9)) .none kV_bands_by dc_bands_by pm_bands_by an_bands_by cd_bands_by ct_bands_by), sl_bands_by⟩) (c_bands_by : PySem.W.codeIn K cd_bands_by "bands_by" = true) (k_bands_by : PySem.W.keepIn K (.ref f_bands_by) = true)
    (a_bands : PySem.W.nsIn K mainGlobals "bands" = some (some (.ref f_bands))) (l_bands : K.lookup f_bands = some ⟨oc_bands, od_bands, .func (PySem.W.fnOf "bands" "bands" (defArgs (topS 10)) (defBody (topS 10)) (defScope (topS 10)) .none kV_bands dc_bands pm_bands an_bands cd_bands ct_bands), sl_bands⟩) (c_bands : PySem.W.codeIn K cd_bands "bands" = true) (k_bands : PySem.W.keepIn K (.ref f_bands) = true)
    (a_columns_of : PySem.W.nsIn K mainGlobals "columns_of" = some (some (.ref f_columns_of))) (l_columns_of : K.lookup f_columns_of = some ⟨oc_columns_of, od_columns_of, .func (PySem.W.fnOf "columns_of" "columns_of" (defArgs (topS 11)) (defBody (topS 11)) (defScope (topS 11)) .none kV_columns_of dc_columns_of pm_columns_of an_columns_of cd_columns_of ct_columns_of), sl_columns_of⟩) (c_columns_of : PySem.W.codeIn K cd_columns_of "columns_of" = true) (k_columns_of : PySem.W.keepIn K (.ref f_columns_of) = true)
    (a_steps : PySem.W.nsIn K mainGlobals "steps" = some (some (.ref f_steps))) (l_steps : K.lookup f_steps = some ⟨oc_steps, od_steps, .func (PySem.W.fnOf "steps" "steps" (defArgs (topS 12)) (defBody (topS 12)) (defScope (topS 12)) .none kV_steps dc_steps pm_steps an_steps cd_steps ct_steps), sl_steps⟩) (c_steps : PySem.W.codeIn K cd_steps "steps" = true) (k_steps : PySem.W.keepIn K (.ref f_steps) = true)
    (a_l_cell : PySem.W.nsIn K mainGlobals "_law_cell" = some (some (.ref f_l_cell))) (l_l_cell : K.lookup f_l_cell = some ⟨oc_l_cell, od_l_cell, .func (PySem.W.fnOf "_law_cell" "_law_cell" (defArgs (topS 14)) (defBody (topS 14)) (defScope (topS 14)) .none kV_l_cell dc_l_cell pm_l_cell an_l_cell cd_l_cell ct_l_cell), sl_l_cell⟩) (c_l_cell : PySem.W.codeIn K cd_l_cell "_law_cell" = true) (k_l_cell : PySem.W.keepIn K (.ref f_l_cell) = true)
    (a_l_digits : PySem.W.nsIn K mainGlobals "_law_digits" = some (some (.ref f_l_digits))) (l_l_digits : K.lookup f_l_digits = some ⟨oc_l_digits, od_l_digits, .func (PySem.W.fnOf "_law_digits" "_law_digits" (defArgs (topS 15)) (defBody (topS 15)) (defScope (topS 15)) .none kV_l_digits dc_l_digits pm_l_digits an_l_digits cd_l_digits ct_l_digits), sl_l_digits⟩) (c_l_digits : PySem.W.codeIn K cd_l_digits "_law_digits" = true) (k_l_digits : PySem.W.keepIn K (.ref f_l_digits) = true)
    (a_l_mixed : PySem.W.nsIn K mainGlobals "_law_mixed" = some (some (.ref f_l_mixed))) (l_l_mixed : K.lookup f_l_mixed = some ⟨oc_l_mixed, od_l_mixed, .func (PySem.W.fnOf "_law_mixed" "_law_mixed" (defArgs (topS 16)) (defBody (topS 16)) (defScope (topS 16)) .none kV_l_mixed dc_l_mixed pm_l_mixed an_l_mixed cd_l_mixed ct_l_mixed), sl_l_mixed⟩) (c_l_mixed : PySem.W.codeIn K cd_l_mixed "_law_mixed" = true) (k_l_mixed : PySem.W.keepIn K (.ref f_l_mixed) = true)
    (a_l_row : PySem.W.nsIn K mainGlobals "_law_row" = some (some (.ref f_l_row))) (l_l_row : K.lookup f_l_row = some ⟨oc_l_row, od_l_row, .func (PySem.W.fnOf "_law_row" "_law_row" (defArgs (topS 17)) (defBody (topS 17)) (defScope (topS 17)) .none kV_l_row dc_l_row pm_l_row an_l_row cd_l_row ct_l_row), sl_l_row⟩) (c_l_row : PySem.W.codeIn K cd_l_row "_law_row" = true) (k_l_row : PySem.W.keepIn K (.ref f_l_row) = true)
    (a_l_closed : PySem.W.nsIn K mainGlobals "_law_closed" = some (some (.ref f_l_closed))) (l_l_closed : K.lookup f_l_closed = some ⟨oc_l_closed, od_l_closed, .func (PySem.W.fnOf "_law_closed" "_law_closed" (defArgs (topS 18)) (defBody (topS 18)) (defScope (topS 18)) .none kV_l_closed dc_l_closed pm_l_closed an_l_closed cd_l_closed ct_l_closed), sl_l_closed⟩) (c_l_closed : PySem.W.codeIn K cd_l_closed "_law_closed" = true) (k_l_closed : PySem.W.keepIn K (.ref f_l_closed) = true)
    (a_l_order : PySem.W.nsIn K mainGlobals "_law_order" = some (some (.ref f_l_order))) (l_l_order : K.lookup f_l_order = some ⟨oc_l_order, od_l_order, .func (PySem.W.fnOf "_law_order" "_law_order" (defArgs (topS 19)) (defBody (topS 19)) (defScope (topS 19)) .none kV_l_order dc_l_order pm_l_order an_l_order cd_l_order ct_l_order), sl_l_order⟩) (c_l_order : PySem.W.codeIn K cd_l_order "_law_order" = true) (k_l_order : PySem.W.keepIn K (.ref f_l_order) = true)
    (a_l_columns : PySem.W.nsIn K mainGlobals "_law_columns" = some (some (.ref f_l_columns))) (l_l_columns : K.lookup f_l_columns = some ⟨oc_l_columns, od_l_columns, .func (PySem.W.fnOf "_law_columns" "_law_columns" (defArgs (topS 20)) (defBody (topS 20)) (defScope (topS 20)) .none kV_l_columns dc_l_columns pm_l_columns an_l_columns cd_l_columns ct_l_columns), sl_l_columns⟩) (c_l_columns : PySem.W.codeIn K cd_l_columns "_law_columns" = true) (k_l_columns : PySem.W.keepIn K (.ref f_l_columns) = true)
    (a_law : PySem.W.nsIn K mainGlobals "law" = some (some (.ref f_law))) (l_law : K.lookup f_law = some ⟨oc_law, od_law, .func (PySem.W.fnOf "law" "law" (defArgs (topS 21)) (defBody (topS 21)) (defScope (topS 21)) .none kV_law dc_law pm_law an_law cd_law ct_law), sl_law⟩) (c_law : PySem.W.codeIn K cd_law "law" = true) (k_law : PySem.W.keepIn K (.ref f_law) = true)
    (z_abs : PySem.W.nsIn K mainGlobals "abs" = some none)
    (z_enumerate : PySem.W.nsIn K mainGlobals "enumerate" = some none)
    (z_len : PySem.W.nsIn K mainGlobals "len" = some none)
    (z_list : PySem.W.nsIn K mainGlobals "list" = some none)
    (z_max : PySem.W.nsIn K mainGlobals "max" = some none)
    (z_range : PySem.W.nsIn K mainGlobals "range" = some none)
    (z_set : PySem.W.nsIn K mainGlobals "set" = some none)
    (z_sorted : PySem.W.nsIn K mainGlobals "sorted" = some none) : Tx K mg where
  f_start_of := f_start_of
  d_start_of := _
  F_start_of := fun_mk (st := topS 1) l_start_of c_start_of k_start_of
  g_start_of := PySem.W.mg_of X G a_start_of
  b_start_of := (fun_mk (st := topS 1) l_start_of c_start_of k_start_of).binds fun _ _ _ _ _ _ us hl => match us, hl with | [_], _ => rfl
  f_end_of := f_end_of
  d_end_of := _
  F_end_of := fun_mk (st := topS 2) l_end_of c_end_of k_end_of
  g_end_of := PySem.W.mg_of X G a_end_of
  b_end_of := (fun_mk (st := topS 2) l_end_of c_end_of k_end_of).binds fun _ _ _ _ _ _ us hl => match us, hl with | [_], _ => rfl
  f_plain_arcs := f_plain_arcs
  d_plain_arcs := _
  F_plain_arcs := fun_mk (st := topS 3) l_plain_arcs c_plain_arcs k_plain_arcs
  g_plain_arcs := PySem.W.mg_of X G a_plain_arcs
  b_plain_arcs := (fun_mk (st := topS 3) l_plain_arcs c_plain_arcs k_plain_arcs).binds fun _ _ _ _ _ _ us hl => match us, hl with | [_], _ => rfl
  f_open_arcs := f_open_arcs
  d_open_arcs := _
  F_open_arcs := fun_mk (st := topS 4) l_open_arcs c_open_arcs k_open_arcs
  g_open_arcs := PySem.W.mg_of X G a_open_arcs
  b_open_arcs := (fun_mk (st := topS 4) l_open_arcs c_open_arcs k_open_arcs).binds fun _ _ _ _ _ _ us hl => match us, hl with | [_, _], _ => rfl
  f_farthest := f_farthest
  d_farthest := _
  F_farthest := fun_mk (st := topS 5) l_farthest c_farthest k_farthest
  g_farthest := PySem.W.mg_of X G a_farthest
  b_farthest := (fun_mk (st := topS 5) l_farthest c_farthest k_farthest).binds fun _ _ _ _ _ _ us hl => match us, hl with | [_, _], _ => rfl
  f_taken := f_taken
  d_taken := _
  F_taken := fun_mk (st := topS 6) l_taken c_taken k_taken
  g_taken := PySem.W.mg_of X G a_taken
  b_taken := (fun_mk (st := topS 6) l_taken c_taken k_taken).binds fun _ _ _ _ _ _ us hl => match us, hl with | [_, _, _], _ => rfl
  f_rounds := f_rounds
  d_rounds := _
  F_rounds := fun_mk (st := topS 7) l_rounds c_rounds k_rounds
  g_rounds := PySem.W.mg_of X G a_rounds
  b_rounds := (fun_mk (st := topS 7) l_rounds c_rounds k_rounds).binds fun _ _ _ _ _ _ us hl => match us, hl with | [_], _ => rfl
  f_bands_by := f_bands_by
  d_bands_by := _
  F_bands_by := fun_mk (st := topS 9) l_bands_by c_bands_by k_bands_by
  g_bands_by := PySem.W.mg_of X G a_bands_by
  b_bands_by := (fun_mk (st := topS 9) l_bands_by c_bands_by k_bands_by).binds fun _ _ _ _ _ _ us hl => match us, hl with | [_, _], _ => rfl
  f_bands := f_bands
  d_bands := _
  F_bands := fun_mk (st := topS 10) l_bands c_bands k_bands
  g_bands := PySem.W.mg_of X G a_bands
  b_bands := (fun_mk (st := topS 10) l_bands c_bands k_bands).binds fun _ _ _ _ _ _ us hl => match us, hl with | [_], _ => rfl
  f_columns_of := f_columns_of
  d_columns_of := _
  F_columns_of := fun_mk (st := topS 11) l_columns_of c_columns_of k_columns_of
  g_columns_of := PySem.W.mg_of X G a_columns_of
  b_columns_of := (fun_mk (st := topS 11) l_columns_of c_columns_of k_columns_of).binds fun _ _ _ _ _ _ us hl => match us, hl with | [_], _ => rfl
  f_steps := f_steps
  d_steps := _
  F_steps := fun_mk (st := topS 12) l_steps c_steps k_steps
  g_steps := PySem.W.mg_of X G a_steps
  b_steps := (fun_mk (st := topS 12) l_steps c_steps k_steps).binds fun _ _ _ _ _ _ us hl => match us, hl with | [_], _ => rfl
  f_l_cell := f_l_cell
  d_l_cell := _
  F_l_cell := fun_mk (st := topS 14) l_l_cell c_l_cell k_l_cell
  g_l_cell := PySem.W.mg_of X G a_l_cell
  b_l_cell := (fun_mk (st := topS 14) l_l_cell c_l_cell k_l_cell).binds fun _ _ _ _ _ _ us hl => match us, hl with | [_, _], _ => rfl
  f_l_digits := f_l_digits
  d_l_digits := _
  F_l_digits := fun_mk (st := topS 15) l_l_digits c_l_digits k_l_digits
  g_l_digits := PySem.W.mg_of X G a_l_digits
  b_l_digits := (fun_mk (st := topS 15) l_l_digits c_l_digits k_l_digits).binds fun _ _ _ _ _ _ us hl => match us, hl with | [_, _, _], _ => rfl
  f_l_mixed := f_l_mixed
  d_l_mixed := _
  F_l_mixed := fun_mk (st := topS 16) l_l_mixed c_l_mixed k_l_mixed
  g_l_mixed := PySem.W.mg_of X G a_l_mixed
  b_l_mixed := (fun_mk (st := topS 16) l_l_mixed c_l_mixed k_l_mixed).binds fun _ _ _ _ _ _ us hl => match us, hl with | [_, _, _], _ => rfl
  f_l_row := f_l_row
  d_l_row := _
  F_l_row := fun_mk (st := topS 17) l_l_row c_l_row k_l_row
  g_l_row := PySem.W.mg_of X G a_l_row
  b_l_row := (fun_mk (st := topS 17) l_l_row c_l_row k_l_row).binds fun _ _ _ _ _ _ us hl => match us, hl with | [_, _, _], _ => rfl
  f_l_closed := f_l_closed
  d_l_closed := _
  F_l_closed := fun_mk (st := topS 18) l_l_closed c_l_closed k_l_closed
  g_l_closed := PySem.W.mg_of X G a_l_closed
  b_l_closed := (fun_mk (st := topS 18) l_l_closed c_l_closed k_l_closed).binds fun _ _ _ _ _ _ us hl => match us, hl with | [_, _], _ => rfl
  f_l_order := f_l_order
  d_l_order := _
  F_l_order := fun_mk (st := topS 19) l_l_order c_l_order k_l_order
  g_l_order := PySem.W.mg_of X G a_l_order
  b_l_order := (fun_mk (st := topS 19) l_l_order c_l_order k_l_order).binds fun _ _ _ _ _ _ us hl => match us, hl with | [_], _ => rfl
  f_l_columns := f_l_columns
  d_l_columns := _
  F_l_columns := fun_mk (st := topS 20) l_l_columns c_l_columns k_l_columns
  g_l_columns := PySem.W.mg_of X G a_l_columns
  b_l_columns := (fun_mk (st := topS 20) l_l_columns c_l_columns k_l_columns).binds fun _ _ _ _ _ _ us hl => match us, hl with | [_], _ => rfl
  f_law := f_law
  d_law := _
  F_law := fun_mk (st := topS 21) l_law c_law k_law
  g_law := PySem.W.mg_of X G a_law
  b_law := (fun_mk (st := topS 21) l_law c_law k_law).binds fun _ _ _ _ _ _ us hl => match us, hl with | [_], _ => rfl
  z_abs := PySem.W.mg_none_of X G z_abs
  z_enumerate := PySem.W.mg_none_of X G z_enumerate
  z_len := PySem.W.mg_none_of X G z_len
  z_list := PySem.W.mg_none_of X G z_list
  z_max := PySem.W.mg_none_of X G z_max
  z_range := PySem.W.mg_none_of X G z_range
  z_set := PySem.W.mg_none_of X G z_set
  z_sorted := PySem.W.mg_none_of X G z_sorted
theorem law_fn {P : Program} {w : World} {K : PySem.W.Frag} {mg : Str → Option Value} {fa : Addr} (hmg : mg "law" = some (.ref fa)) (T : Tx K mg) : ∃ fd : FuncData, (∀ (s : Shared) (u : Value), BindsTo s fd ⟨[u], []⟩ [("_law_script", u)]) ∧ ∀ base : Heap, K.In base → base.Ns mainGlobals mg → FnOk P w K mg base CX0 8 fa fd ["_law_script"] (spP K 0 m_law) := by
  have e := hmg.symm.trans T.g_law
  cases e
  refine ⟨T.d_law, fun s u => ?_, fun base _ _ => ok_law T⟩
  obtain ⟨_, _, _, _, _, _, _, _, _, ed, _, _⟩ := T.F_law.ex
  rw [ed]
  exact .of_eq rfl
end K14
open PySem PySem.W PyProof.Rows
set_option maxHeartbeats 0 in
theorem PySem.Challenge.cw_bandorder_k14_steps_by_columns_holds : PySem.Challenge.rw_bandorder_k14_steps_by_columns.Holds := by
  w_on; o_law; k_head; (case hw => w_witness2)
  k_fill
  refine L2.walk_of (l := PySem.Challenge.rw_bandorder_k14_steps_by_columns) (n := 63) (k := 8) (x := "_law_script") (CX := fun _ => L2.CX0) (sp := fun w => VL.spP _ 0 K14.m_law) rfl (by decide) rfl ⟨rfl, by decide, by decide⟩ (fun w h Y => PySem.W.kIn_of Y) ?F (fun _ _ a ns hl _ hS => VL.law_ok hS ( K14.law_true ns hl)) (fun _ _ _ _ _ h => h)
  case F =>
    intro w mg fa h KX G hmg
    refine' K14.law_fn hmg (K14.tx_mk KX G ?a_start_of ?l_start_of ?c_start_of ?k_start_of ?a_end_of ?l_end_of ?c_end_of ?k_end_of ?a_plain_arcs ?l_plain_arcs ?c_plain_arcs ?k_plain_arcs ?a_open_arcs ?l_open_arcs ?c_open_arcs ?k_open_arcs ?a_farthest ?l_farthest ?c_farthest ?k_farthest ?a_taken ?l_taken ?c_taken ?k_taken ?a_rounds ?l_rounds ?c_rounds ?k_rounds ?a_bands_by ?l_bands_by ?c_bands_by ?k_bands_by ?a_bands ?l_bands ?c_bands ?k_bands ?a_columns_of ?l_columns_of ?c_columns_of ?k_columns_of ?a_steps ?l_steps ?c_steps ?k_steps ?a_l_cell ?l_l_cell ?c_l_cell ?k_l_cell ?a_l_digits ?l_l_digits ?c_l_digits ?k_l_digits ?a_l_mixed ?l_l_mixed ?c_l_mixed ?k_l_mixed ?a_l_row ?l_l_row ?c_l_row ?k_l_row ?a_l_closed ?l_l_closed ?c_l_closed ?k_l_closed ?a_l_order ?l_l_order ?c_l_order ?k_l_order ?a_l_columns ?l_l_columns ?c_l_columns ?k_l_columns ?a_law ?l_law ?c_law ?k_law ?z_abs ?z_enumerate ?z_len ?z_list ?z_max ?z_range ?z_set ?z_sorted)
    (case a_start_of => k_is); (case l_start_of => k_is); (case c_start_of => k_is); (case k_start_of => k_is); (case a_end_of => k_is); (case l_end_of => k_is); (case c_end_of => k_is); (case k_end_of => k_is); (case a_plain_arcs => k_is); (case l_plain_arcs => k_is); (case c_plain_arcs => k_is); (case k_plain_arcs => k_is); (case a_open_arcs => k_is); (case l_open_arcs => k_is); (case c_open_arcs => k_is); (case k_open_arcs => k_is); (case a_farthest => k_is); (case l_farthest => k_is); (case c_farthest => k_is); (case k_farthest => k_is); (case a_taken => k_is); (case l_taken => k_is); (case c_taken => k_is); (case k_taken => k_is); (case a_rounds => k_is); (case l_rounds => k_is); (case c_rounds => k_is); (case k_rounds => k_is); (case a_bands_by => k_is); (case l_bands_by => k_is); (case c_bands_by => k_is); (case k_bands_by => k_is); (case a_bands => k_is); (case l_bands => k_is); (case c_bands => k_is); (case k_bands => k_is); (case a_columns_of => k_is); (case l_columns_of => k_is); (case c_columns_of => k_is); (case k_columns_of => k_is); (case a_steps => k_is); (case l_steps => k_is); (case c_steps => k_is); (case k_steps => k_is); (case a_l_cell => k_is); (case l_l_cell => k_is); (case c_l_cell => k_is); (case k_l_cell => k_is); (case a_l_digits => k_is); (case l_l_digits => k_is); (case c_l_digits => k_is); (case k_l_digits => k_is); (case a_l_mixed => k_is); (case l_l_mixed => k_is); (case c_l_mixed => k_is); (case k_l_mixed => k_is); (case a_l_row => k_is); (case l_l_row => k_is); (case c_l_row => k_is); (case k_l_row => k_is); (case a_l_closed => k_is); (case l_l_closed => k_is); (case c_l_closed => k_is); (case k_l_closed => k_is); (case a_l_order => k_is); (case l_l_order => k_is); (case c_l_order => k_is); (case k_l_order => k_is); (case a_l_columns => k_is); (case l_l_columns => k_is); (case c_l_columns => k_is); (case k_l_columns => k_is); (case a_law => k_is); (case l_law => k_is); (case c_law => k_is); (case k_law => k_is); (case z_abs => k_is); (case z_enumerate => k_is); (case z_len => k_is); (case z_list => k_is); (case z_max => k_is); (case z_range => k_is); (case z_set => k_is); (case z_sorted => k_is)
