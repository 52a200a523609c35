import PyProof.Rows.All
import Wide.All
import OpenK.AllK
import Wide.FinOn
import HandS.ForMost
import HandS.Evl
import HandS.SetFor
import HandS.SortInts
import HandS.Strs
import HandS.Wide
import HandS.IsInst
import HandS.Style
import HandS.Conv
import HandS.SortRule
import HandS.SortKw
import HandS.Rev
import HandS.More
import PyProof.ListRange
import PyProof.SetRoads
import HandS.CallLocal
import HandS.Text
import HandS.TryMany
import HandS.ExcCtx
import HandS.HotCalls
import HandS.ExcIs
import HandS.WordsExc
import HandS.DictTup
import HandS.Iter
import HandS.RevRange
import KE.GoesMore
import HandS.SetKeys
import PyProof.Rows.SortShellAny
import KE.KDictZip
import PyProof.P3In
import PySem.Challenge.RW_bandorder_k01_orders_judged
set_option Elab.async false
set_option linter.all false
set_option maxRecDepth 100000
namespace VL
open PySem PySem.Spec PyProof.Rows L2
inductive Er where | stuck | exc (c : String)
  deriving DecidableEq, Repr
abbrev M (α : Type) := Except Er α
def ends {α : Type} (m : M α) (good : α → Prop) (ex : String → Prop) : Prop :=
  match m with
  | .ok a => good a
  | .error (.exc c) => ex c
  | .error .stuck => False
theorem ends_bind {α β : Type} {m : M α} {f : α → M β} {P : β → Prop} {E : String → Prop} (h : ends (m >>= f) P E) : ends m (fun a => ends (f a) P E) E := by
  cases m with
  | ok a => exact h
  | error e => cases e <;> exact h
theorem ends_mono {α : Type} {m : M α} {P P' : α → Prop} {E E' : String → Prop} (h : ends m P E) (hp : ∀ a, m = .ok a → P a → P' a) (he : ∀ c, E c → E' c) : ends m P' E' := by
  cases m with
  | ok a => exact hp a rfl h
  | error e => cases e with
    | stuck => exact h
    | exc c => exact he c h
def Sub (S H : Hp) : Prop := ∀ a o, S a = some o → H a = some o
theorem Sub.refl (H : Hp) : Sub H H := fun _ _ h => h
theorem Sub.trans {H H1 H2 : Hp} (a : Sub H H1) (b : Sub H1 H2) : Sub H H2 := fun x o h => b x o (a x o h)
theorem Sub.new {H : Hp} {p : Addr} {o : HO} (h : H p = none) : Sub H (upd H p o) := fun a u e => by
  rw [upd_ne (ne_of_none e h)]; exact e
theorem Sub.back {S H : Hp} (h : Sub S H) {p : Addr} (e : H p = none) : S p = none := by
  cases q : S p with
  | none => rfl
  | some o => rw [h p o q] at e; cases e
theorem Sub.eq_of {S H : Hp} (h : Sub S H) {p : Addr} (e : S p ≠ none) : H p = S p := by
  cases q : S p with
  | none => exact absurd q e
  | some o => exact h p o q
theorem Sub.at {H H' : Hp} (h : Sub H H') {p : Addr} (e : H p ≠ none) : H' p = H p := h.eq_of e
/-- H' with what stands at F in H -/
def add (S H : Hp) (F : List Addr) : Hp := fun p => if p ∈ F then H p else S p
theorem add_in {S H : Hp} {F : List Addr} {p : Addr} (h : p ∈ F) : add S H F p = H p := by unfold add; rw [if_pos h]
theorem add_out {S H : Hp} {F : List Addr} {p : Addr} (h : p ∉ F) : add S H F p = S p := by unfold add; rw [if_neg h]
theorem add_sub {S H : Hp} {F : List Addr} (hd : ∀ p ∈ F, S p = none) : Sub S (add S H F) := fun p o e => by
  by_cases h : p ∈ F
  · rw [hd p h] at e; cases e
  · rw [add_out h]; exact e
theorem add_le {S H : Hp} {F : List Addr} (hs : Sub S H) : Sub (add S H F) H := fun p o e => by
  by_cases h : p ∈ F
  · rw [add_in h] at e; exact e
  · rw [add_out h] at e; exact hs p o e
/-- v is a, by the shared part S of the heap and by the objects at F of H, which nobody else holds; k: how many layers from the top are held so -/
class PyTy (α : Type) where
  rep : PySem.W.Frag → Nat → Hp → Hp → V → α → List Addr → Prop
  mono : ∀ {K k S H S' H' v a F}, rep K k S H v a F → Sub S S' → (∀ p ∈ F, H' p = H p) → rep K k S' H' v a F
  here : ∀ {K k S H v a F}, rep K k S H v a F → ∀ p ∈ F, H p ≠ none
  freeze : ∀ {K k S H S' v a F}, rep K k S H v a F → Sub S S' → (∀ p ∈ F, S' p = H p) → ∀ H', rep K 0 S' H' v a []
  zero : ∀ {K S H v a F}, rep K 0 S H v a F → F = []
theorem PyTy.froz {α : Type} [T : PyTy α] {K : PySem.W.Frag} {S H : Hp} {v : V} {a : α} {F : List Addr} (h : T.rep K 0 S H v a F) (H' : Hp) : T.rep K 0 S H' v a [] := by
  have e := T.zero h
  subst e
  exact T.mono h (Sub.refl S) fun p hp => nomatch hp
/-- a value without an object -/
class Scal (α : Type) [T : PyTy α] where
  val : α → V
  scal : ∀ {K k S H v a F}, T.rep K k S H v a F ↔ v = val a ∧ F = []
@[reducible] def scalTy {α : Type} (f : α → V) : PyTy α where
  rep _ _ _ _ v a F := v = f a ∧ F = []
  mono h _ _ := h
  here h p hp := by rw [h.2] at hp; cases hp
  freeze h _ _ _ := ⟨h.1, rfl⟩
  zero h := h.2
instance instPyInt : PyTy Int := scalTy V.int
instance : Scal Int := ⟨V.int, Iff.rfl⟩
instance instPyBool : PyTy Bool := scalTy V.bl
instance : Scal Bool := ⟨V.bl, Iff.rfl⟩
instance instPyStr : PyTy Str := scalTy V.str
instance : Scal Str := ⟨V.str, Iff.rfl⟩
instance instPyUnit : PyTy Unit := scalTy fun _ => V.non
instance : Scal Unit := ⟨fun _ => V.non, Iff.rfl⟩
/-- items one by one -/
def Reps {α : Type} (r : V → α → List Addr → Prop) : List V → List α → List Addr → Prop
  | [], [], F => F = []
  | v :: vs, a :: as, F => ∃ F1 F2, F = F1 ++ F2 ∧ r v a F1 ∧ Reps r vs as F2
  | _, _, _ => False
theorem Reps.imp {α : Type} {r r' : V → α → List Addr → Prop} : ∀ {vs : List V} {as : List α} {F : List Addr}, Reps r vs as F → (∀ v a F', (∀ p ∈ F', p ∈ F) → r v a F' → r' v a F') → Reps r' vs as F
  | [], [], F, h, _ => h
  | [], _ :: _, _, h, _ => h.elim
  | _ :: _, [], _, h, _ => h.elim
  | v :: vs, a :: as, F, ⟨F1, F2, e, h1, h2⟩, k => by
    subst e
    exact ⟨F1, F2, rfl, k v a F1 (fun p hp => List.mem_append_left _ hp) h1, Reps.imp h2 fun v a F' hs => k v a F' fun p hp => List.mem_append_right _ (hs p hp)⟩
theorem Reps.len {α : Type} {r : V → α → List Addr → Prop} : ∀ {vs : List V} {as : List α} {F : List Addr}, Reps r vs as F → vs.length = as.length
  | [], [], _, _ => rfl
  | [], _ :: _, _, h => h.elim
  | _ :: _, [], _, h => h.elim
  | v :: vs, a :: as, _, ⟨_, _, _, _, h2⟩ => by rw [List.length_cons, List.length_cons, h2.len]
theorem Reps.here {α : Type} {r : V → α → List Addr → Prop} {G : Addr → Prop} : ∀ {vs : List V} {as : List α} {F : List Addr}, Reps r vs as F → (∀ v a F', r v a F' → ∀ p ∈ F', G p) → ∀ p ∈ F, G p
  | [], [], _, h, _ => by rw [show _ = [] from h]; intro p hp; cases hp
  | [], _ :: _, _, h, _ => h.elim
  | _ :: _, [], _, h, _ => h.elim
  | v :: vs, a :: as, F, ⟨F1, F2, e, h1, h2⟩, k => by
    subst e
    intro p hp
    rcases List.mem_append.mp hp with hp | hp
    · exact k v a F1 h1 p hp
    · exact Reps.here h2 k p hp
theorem Reps.none {α : Type} {r : V → α → List Addr → Prop} : ∀ {vs : List V} {as : List α} {F : List Addr}, Reps r vs as F → (∀ v a F', r v a F' → F' = []) → F = []
  | [], [], F, h, _ => h
  | [], _ :: _, _, h, _ => h.elim
  | _ :: _, [], _, h, _ => h.elim
  | v :: vs, a :: as, F, ⟨F1, F2, e, h1, h2⟩, k => by rw [e, k v a F1 h1, Reps.none h2 k]; rfl
/-- all items without footprint -/
theorem Reps.nil {α : Type} {r r' : V → α → List Addr → Prop} : ∀ {vs : List V} {as : List α} {F : List Addr}, Reps r vs as F → (∀ v a F', (∀ p ∈ F', p ∈ F) → r v a F' → r' v a []) → Reps r' vs as []
  | [], [], F, h, _ => rfl
  | [], _ :: _, _, h, _ => h.elim
  | _ :: _, [], _, h, _ => h.elim
  | v :: vs, a :: as, F, ⟨F1, F2, e, h1, h2⟩, k => by
    subst e
    exact ⟨[], [], rfl, k v a F1 (fun p hp => List.mem_append_left _ hp) h1, Reps.nil h2 fun v a F' hs => k v a F' fun p hp => List.mem_append_right _ (hs p hp)⟩
theorem Reps.append {α : Type} {r : V → α → List Addr → Prop} : ∀ {vs ws : List V} {as bs : List α} {F G : List Addr}, Reps r vs as F → Reps r ws bs G → Reps r (vs ++ ws) (as ++ bs) (F ++ G)
  | [], _, [], _, F, G, h, g => by rw [show F = [] from h]; exact g
  | [], _, _ :: _, _, _, _, h, _ => h.elim
  | _ :: _, _, [], _, _, _, h, _ => h.elim
  | v :: vs, ws, a :: as, bs, F, G, ⟨F1, F2, e, h1, h2⟩, g => by
    subst e
    exact ⟨F1, F2 ++ G, List.append_assoc .., h1, Reps.append h2 g⟩
theorem Reps.get {α : Type} {r : V → α → List Addr → Prop} : ∀ {vs : List V} {as : List α} {i : Nat} {v : V}, Reps r vs as [] → vs[i]? = some v → ∃ a, as[i]? = some a ∧ r v a []
  | [], _, _, _, _, e => by simp at e
  | _ :: _, [], _, _, h, _ => h.elim
  | v :: vs, a :: as, 0, w, ⟨F1, F2, e0, h1, h2⟩, e => by
    obtain ⟨e1, e2⟩ := List.append_eq_nil_iff.mp e0.symm
    subst e1 e2
    cases e
    exact ⟨a, rfl, h1⟩
  | v :: vs, a :: as, i + 1, w, ⟨F1, F2, e0, h1, h2⟩, e => by
    obtain ⟨e1, e2⟩ := List.append_eq_nil_iff.mp e0.symm
    subst e1 e2
    exact Reps.get (i := i) h2 e
theorem Reps.get' {α : Type} {r : V → α → List Addr → Prop} {vs : List V} {as : List α} {i : Nat} {a : α} (h : Reps r vs as []) (e : as[i]? = some a) : ∃ v, vs[i]? = some v ∧ r v a [] := by
  have hl := h.len
  obtain ⟨hi, _⟩ := List.getElem?_eq_some_iff.mp e
  have hi' : i < vs.length := by omega
  obtain ⟨b, e2, r2⟩ := Reps.get (v := vs[i]) h (List.getElem?_eq_getElem hi')
  rw [e] at e2
  cases e2
  exact ⟨vs[i], List.getElem?_eq_getElem hi', r2⟩
theorem Reps.drop {α : Type} {r : V → α → List Addr → Prop} : ∀ {vs : List V} {as : List α} (n : Nat), Reps r vs as [] → Reps r (vs.drop n) (as.drop n) []
  | _, _, 0, h => h
  | [], [], _ + 1, _ => rfl
  | [], _ :: _, _, h => h.elim
  | _ :: _, [], _, h => h.elim
  | v :: vs, a :: as, n + 1, ⟨F1, F2, e0, h1, h2⟩ => by
    obtain ⟨e1, e2⟩ := List.append_eq_nil_iff.mp e0.symm
    subst e1 e2
    exact Reps.drop n h2
theorem Reps.take {α : Type} {r : V → α → List Addr → Prop} : ∀ {vs : List V} {as : List α} (n : Nat), Reps r vs as [] → Reps r (vs.take n) (as.take n) []
  | _, _, 0, h => by rw [List.take_zero, List.take_zero]; rfl
  | [], [], _ + 1, _ => rfl
  | [], _ :: _, _, h => h.elim
  | _ :: _, [], _, h => h.elim
  | v :: vs, a :: as, n + 1, ⟨F1, F2, e0, h1, h2⟩ => by
    obtain ⟨e1, e2⟩ := List.append_eq_nil_iff.mp e0.symm
    subst e1 e2
    exact ⟨[], [], rfl, h1, Reps.take n h2⟩
theorem Reps.reverse {α : Type} {r : V → α → List Addr → Prop} : ∀ {vs : List V} {as : List α}, Reps r vs as [] → Reps r vs.reverse as.reverse []
  | [], [], _ => rfl
  | [], _ :: _, h => h.elim
  | _ :: _, [], h => h.elim
  | v :: vs, a :: as, ⟨F1, F2, e0, h1, h2⟩ => by
    obtain ⟨e1, e2⟩ := List.append_eq_nil_iff.mp e0.symm
    subst e1 e2
    rw [List.reverse_cons, List.reverse_cons]
    exact Reps.append (F := []) (G := []) (Reps.reverse h2) ⟨[], [], rfl, h1, rfl⟩
/-- the greatest length of a list -/
def line : Nat := 2 ^ 24
/-- the nodes' own part: at level 0 in S, else at H, the first address of F -/
def nodeAt (k : Nat) (S H : Hp) (p : Addr) (o : HO) (F F' : List Addr) : Prop :=
  match k with
  | 0 => S p = some o ∧ F = F'
  | _ + 1 => H p = some o ∧ F = p :: F'
theorem nodeAt.mono {k : Nat} {S H S' H' : Hp} {p : Addr} {o : HO} {F F' : List Addr} (h : nodeAt k S H p o F F') (hs : Sub S S') (hk : ∀ p ∈ F, H' p = H p) : nodeAt k S' H' p o F F' := by
  cases k with
  | zero => exact ⟨hs _ _ h.1, h.2⟩
  | succ k => exact ⟨by rw [hk p (by rw [h.2]; exact List.mem_cons_self)]; exact h.1, h.2⟩
theorem nodeAt.sub {k : Nat} {S H : Hp} {p : Addr} {o : HO} {F F' : List Addr} (h : nodeAt k S H p o F F') : ∀ q ∈ F', q ∈ F := by
  cases k with
  | zero => intro q hq; rw [h.2]; exact hq
  | succ k => intro q hq; rw [h.2]; exact List.mem_cons_of_mem _ hq
theorem nodeAt.here {k : Nat} {S H : Hp} {p : Addr} {o : HO} {F F' : List Addr} (h : nodeAt k S H p o F F') (h' : ∀ q ∈ F', H q ≠ none) : ∀ q ∈ F, H q ≠ none := by
  cases k with
  | zero => intro q hq; rw [h.2] at hq; exact h' q hq
  | succ k =>
    intro q hq
    rw [h.2] at hq
    rcases List.mem_cons.mp hq with e | hq
    · rw [e, h.1]; exact fun z => nomatch z
    · exact h' q hq
theorem nodeAt.froz {k : Nat} {S H S' : Hp} {p : Addr} {o : HO} {F F' : List Addr} (h : nodeAt k S H p o F F') (hs : Sub S S') (hk : ∀ p ∈ F, S' p = H p) : S' p = some o := by
  cases k with
  | zero => exact hs _ _ h.1
  | succ k => rw [hk p (by rw [h.2]; exact List.mem_cons_self)]; exact h.1
instance instList {α : Type} [T : PyTy α] : PyTy (List α) where
  rep K k S H v l F := ∃ p xs F', v = .ref p ∧ nodeAt k S H p (.lst xs) F F' ∧ xs.length ≤ line ∧ Reps (fun v a F => T.rep K (k - 1) S H v a F) xs l F'
  mono := fun {K k S H S' H' v a F} ⟨p, xs, F', e, n, z, r⟩ hs hk => ⟨p, xs, F', e, n.mono hs hk, z, r.imp fun v a G hg q => T.mono q hs fun p hp => hk p (n.sub p (hg p hp))⟩
  here := fun {K k S H v a F} ⟨p, xs, F', e, n, z, r⟩ => n.here (r.here fun v a G q => T.here q)
  freeze := fun {K k S H S' v a F} ⟨p, xs, F', e, n, z, r⟩ hs hk H' => ⟨p, xs, [], e, ⟨n.froz hs hk, rfl⟩, z, r.nil fun v a G hg q => T.freeze q hs (fun p hp => hk p (n.sub p (hg p hp))) H'⟩
  zero := fun ⟨p, xs, F', e, n, z, r⟩ => by rw [n.2]; exact r.none fun v a F q => T.zero q
instance instProd {α β : Type} [TA : PyTy α] [TB : PyTy β] : PyTy (α × β) where
  rep K k S H v t F := ∃ p x y F1 F2, v = .ref p ∧ nodeAt k S H p (.tup [x, y]) F (F1 ++ F2) ∧ TA.rep K (k - 1) S H x t.1 F1 ∧ TB.rep K (k - 1) S H y t.2 F2
  mono := fun {K k S H S' H' v a F} ⟨p, x, y, F1, F2, e, n, r1, r2⟩ hs hk => ⟨p, x, y, F1, F2, e, n.mono hs hk, TA.mono r1 hs (fun p hp => hk p (n.sub p (List.mem_append_left _ hp))), TB.mono r2 hs fun p hp => hk p (n.sub p (List.mem_append_right _ hp))⟩
  here := fun {K k S H v a F} ⟨p, x, y, F1, F2, e, n, r1, r2⟩ => n.here fun q hq => (List.mem_append.mp hq).elim (TA.here r1 q) (TB.here r2 q)
  freeze := fun {K k S H S' v a F} ⟨p, x, y, F1, F2, e, n, r1, r2⟩ hs hk H' => ⟨p, x, y, [], [], e, ⟨n.froz hs hk, rfl⟩, TA.freeze r1 hs (fun p hp => hk p (n.sub p (List.mem_append_left _ hp))) H', TB.freeze r2 hs (fun p hp => hk p (n.sub p (List.mem_append_right _ hp))) H'⟩
  zero := fun ⟨p, x, y, F1, F2, e, n, r1, r2⟩ => by rw [n.2, TA.zero r1, TB.zero r2]; rfl
/-- the script -/
structure Scr where
  l : List Int
instance : PyTy Scr where
  rep K _ S _ v a F := F = [] ∧ ∃ p, v = .ref p ∧ SqL K S p (a.l.map V.int)
  mono := fun h hs _ => ⟨h.1, let ⟨p, e, q⟩ := h.2; ⟨p, e, Evl.ex_l (fun a o z => hs a o z) q⟩⟩
  here := fun h p hp => by rw [h.1] at hp; cases hp
  freeze := fun h hs _ _ => ⟨rfl, let ⟨p, e, q⟩ := h.2; ⟨p, e, Evl.ex_l (fun a o z => hs a o z) q⟩⟩
  zero := fun h => h.1
end VL
namespace VL
open PySem PySem.Spec PyProof.Rows L2
structure Slot where
  {α : Type}
  [inst : PyTy α]
  a : α
/-- what is held of a slot: nothing; a look at it as the heap stands; k layers of its own (io: it holds the call's i-th argument) -/
inductive Mode where | un | vw | own (k : Nat) (io : Option Nat) | id (n : Nat)
  deriving DecidableEq
abbrev lv (k : Nat) : Mode := .own k none
structure Assn where
  p : Hp → Hp → List Addr → Prop
  mono : ∀ {S H S' H' F}, p S H F → Sub S S' → (∀ q ∈ F, H' q = H q) → p S' H' F
  here : ∀ {S H F}, p S H F → ∀ q ∈ F, H q ≠ none
def anyA : Assn := ⟨fun _ _ F => F = [], fun h _ _ => h, fun h q hq => by rw [h] at hq; cases hq⟩
/-- the value v is a, k layers held -/
def itm (K : PySem.W.Frag) (k : Nat) {α : Type} [T : PyTy α] (a : α) (v : V) : Assn := ⟨fun S H F => T.rep K k S H v a F, T.mono, T.here⟩
def ioAt (A : Nat → Option V) (io : Option Nat) (x : V) : Prop := match io with
  | none => True
  | some i => A i = some x
/-- a slot -/
def slotA (K : PySem.W.Frag) (A : Nat → Option V) (m : Mode) (s : Slot) (v : Option V) : Assn := match m with
  | .un => anyA
  | .vw => anyA
  | .id n => ⟨fun _ _ F => F = [] ∧ ∃ x, v = some x ∧ A n = some x, fun h _ _ => h, fun h q hq => by rw [h.1] at hq; cases hq⟩
  | .own k io => ⟨fun S H F => ∃ x, v = some x ∧ ioAt A io x ∧ s.inst.rep K k S H x s.a F, fun ⟨x, e, i, r⟩ hs hk => ⟨x, e, i, s.inst.mono r hs hk⟩, fun ⟨x, e, i, r⟩ => s.inst.here r⟩
/-- all slots; False where the lengths differ -/
def falseA : Assn := ⟨fun _ _ _ => False, fun h _ _ => h.elim, fun h => h.elim⟩
def Env (K : PySem.W.Frag) (A : Nat → Option V) : List Mode → List Slot → List (Option V) → List Assn
  | [], [], [] => []
  | m :: ms, s :: ss, v :: vs => slotA K A m s v :: Env K A ms ss vs
  | _, _, _ => [falseA]
def Star : List Assn → Hp → Hp → List Addr → Prop
  | [], _, _, F => F = []
  | a :: l, S, H, F => ∃ F1 F2, F = F1 ++ F2 ∧ a.p S H F1 ∧ Star l S H F2
theorem Star.mono : ∀ {l : List Assn} {S H S' H' : Hp} {F : List Addr}, Star l S H F → Sub S S' → (∀ q ∈ F, H' q = H q) → Star l S' H' F
  | [], _, _, _, _, _, h, _, _ => h
  | a :: l, _, _, _, _, _, ⟨F1, F2, e, h1, h2⟩, hs, hk => by
    subst e
    exact ⟨F1, F2, rfl, a.mono h1 hs (fun q hq => hk q (List.mem_append_left _ hq)), Star.mono h2 hs fun q hq => hk q (List.mem_append_right _ hq)⟩
theorem Star.here : ∀ {l : List Assn} {S H : Hp} {F : List Addr}, Star l S H F → ∀ q ∈ F, H q ≠ none
  | [], _, _, _, h => by rw [show _ = [] from h]; intro q hq; cases hq
  | a :: l, _, _, _, ⟨F1, F2, e, h1, h2⟩ => by
    subst e
    intro q hq
    exact (List.mem_append.mp hq).elim (a.here h1 q) (Star.here h2 q)
theorem Star.perm {l l' : List Assn} (p : l.Perm l') : ∀ {S H : Hp} {F : List Addr}, Star l S H F → ∃ F', F.Perm F' ∧ Star l' S H F' := by
  induction p with
  | nil => exact fun h => ⟨_, .refl _, h⟩
  | cons a _ ih =>
    rintro S H F ⟨F1, F2, e, h1, h2⟩
    subst e
    obtain ⟨F', p', h'⟩ := ih h2
    exact ⟨F1 ++ F', .append_left _ p', F1, F', rfl, h1, h'⟩
  | swap a b l =>
    rintro S H F ⟨F1, F2, e, h1, F3, F4, e2, h2, h3⟩
    subst e e2
    refine ⟨F3 ++ (F1 ++ F4), ?_, F3, _, rfl, h2, F1, F4, rfl, h1, h3⟩
    rw [← List.append_assoc, ← List.append_assoc]
    exact List.Perm.append_right _ List.perm_append_comm
  | trans _ _ ih1 ih2 =>
    intro S H F h
    obtain ⟨F1, p1, h1⟩ := ih1 h
    obtain ⟨F2, p2, h2⟩ := ih2 h1
    exact ⟨F2, p1.trans p2, h2⟩
theorem Star.append : ∀ {l l' : List Assn} {S H : Hp} {F F' : List Addr}, Star l S H F → Star l' S H F' → Star (l ++ l') S H (F ++ F')
  | [], _, _, _, F, _, h, h' => by rw [show F = [] from h]; exact h'
  | a :: l, _, _, _, _, _, ⟨F1, F2, e, h1, h2⟩, h' => by
    subst e
    exact ⟨F1, _, List.append_assoc .., h1, Star.append h2 h'⟩
theorem Star.split : ∀ {l l' : List Assn} {S H : Hp} {F : List Addr}, Star (l ++ l') S H F → ∃ F1 F2, F = F1 ++ F2 ∧ Star l S H F1 ∧ Star l' S H F2
  | [], _, _, _, F, h => ⟨[], F, rfl, rfl, h⟩
  | a :: l, _, _, _, _, ⟨F1, F2, e, h1, h2⟩ => by
    obtain ⟨G1, G2, e2, g1, g2⟩ := Star.split (l := l) h2
    subst e e2
    exact ⟨F1 ++ G1, G2, (List.append_assoc ..).symm, ⟨F1, G1, rfl, h1, g1⟩, g2⟩
/-- the context of a call: the written part, the heap and its shared part at the entry, what the call may change, its arguments, the wish about errors -/
structure Ct where
  K : PySem.W.Frag
  H0 : Hp
  S0 : Hp
  P : List Addr
  A : Nat → Option V
  W : Hp → String → Prop
structure OkS (C : Ct) (S : Hp) (F : List Addr) (H : Hp) : Prop where
  nd : F.Nodup
  dj : ∀ p ∈ F, S p = none
  sh : Sub S H
  s0 : Sub C.S0 S
  fr : ∀ p o, C.H0 p = some o → p ∉ C.P → H p = some o
  nw : ∀ p, (p ∈ F ∨ S p ≠ none) → C.S0 p ≠ none ∨ p ∈ C.P ∨ C.H0 p = none
def Hd (C : Ct) (l : List Assn) (H : Hp) : Prop := ∃ S F, Star l S H F ∧ OkS C S F H
theorem OkS.perm {C : Ct} {S H : Hp} {F F' : List Addr} (h : OkS C S F H) (p : F.Perm F') : OkS C S F' H :=
  ⟨p.nodup_iff.mp h.nd, fun q hq => h.dj q (p.mem_iff.mpr hq), h.sh, h.s0, h.fr, fun q hq => h.nw q (hq.imp_left p.mem_iff.mpr)⟩
theorem OkS.less {C : Ct} {S H : Hp} {F F' : List Addr} (h : OkS C S F H) (p : F'.Sublist F) : OkS C S F' H :=
  ⟨h.nd.sublist p, fun q hq => h.dj q (p.subset hq), h.sh, h.s0, h.fr, fun q hq => h.nw q (hq.imp_left fun z => p.subset z)⟩
theorem Hd.perm {C : Ct} {l l' : List Assn} {H : Hp} (h : Hd C l H) (p : l.Perm l') : Hd C l' H := by
  obtain ⟨S, F, s, o⟩ := h
  obtain ⟨F', q, s'⟩ := s.perm p
  exact ⟨S, F', s', o.perm q⟩
theorem Hd.drop {C : Ct} {a : Assn} {l : List Assn} {H : Hp} (h : Hd C (a :: l) H) : Hd C l H := by
  obtain ⟨S, F, ⟨F1, F2, e, h1, h2⟩, o⟩ := h
  subst e
  exact ⟨S, F2, h2, o.less (List.sublist_append_right _ _)⟩
theorem Hd.dropL {C : Ct} {l l' : List Assn} {H : Hp} (h : Hd C (l ++ l') H) : Hd C l' H := by
  obtain ⟨S, F, s, o⟩ := h
  obtain ⟨F1, F2, e, _, h2⟩ := s.split
  subst e
  exact ⟨S, F2, h2, o.less (List.sublist_append_right _ _)⟩
/-- an item is changed for what follows of it, where it stands -/
theorem Hd.imp {C : Ct} {a b : Assn} {l : List Assn} {H : Hp} (h : Hd C (a :: l) H) (k : ∀ S F, a.p S H F → b.p S H F) : Hd C (b :: l) H := by
  obtain ⟨S, F, ⟨F1, F2, e, h1, h2⟩, o⟩ := h
  exact ⟨S, F, ⟨F1, F2, e, k S F1 h1, h2⟩, o⟩
/-- the heap has grown -/
theorem OkS.grow {C : Ct} {S H H' : Hp} {F : List Addr} (h : OkS C S F H) (e : Sub H H') : OkS C S F H' :=
  ⟨h.nd, h.dj, h.sh.trans e, h.s0, fun p o q r => e p o (h.fr p o q r), h.nw⟩
theorem Hd.grow {C : Ct} {l : List Assn} {H H' : Hp} (h : Hd C l H) (e : Sub H H') : Hd C l H' := by
  obtain ⟨S, F, s, o⟩ := h
  exact ⟨S, F, s.mono (Sub.refl S) (fun q hq => e.at (s.here q hq)), o.grow e⟩
/-- something is added that has its own new objects -/
structure Ext (S H S' H' : Hp) (F : List Addr) : Prop where
  hh : Sub H H'
  ss : Sub S S'
  sh : Sub S' H'
  nw : ∀ p, S' p ≠ none → S p ≠ none ∨ H p = none
  fr : ∀ p ∈ F, H p = none ∧ S' p = none
  nd : F.Nodup
theorem Ext.refl {S H : Hp} (h : Sub S H) : Ext S H S H [] := ⟨Sub.refl H, Sub.refl S, h, fun p q => .inl q, (fun p hp => nomatch hp), List.nodup_nil⟩
theorem Ext.trans {S H S1 H1 S2 H2 : Hp} {F F' : List Addr} (a : Ext S H S1 H1 F) (b : Ext S1 H1 S2 H2 F') (hl : ∀ p ∈ F, H1 p ≠ none) : Ext S H S2 H2 (F' ++ F) where
  hh := a.hh.trans b.hh
  ss := a.ss.trans b.ss
  sh := b.sh
  nw p q := by
    rcases b.nw p q with z | z
    · exact a.nw p z
    · exact .inr (a.hh.back z)
  fr p hp := by
    rcases List.mem_append.mp hp with hp | hp
    · exact ⟨a.hh.back (b.fr p hp).1, (b.fr p hp).2⟩
    · refine ⟨(a.fr p hp).1, ?_⟩
      cases q : S2 p with
      | none => rfl
      | some o =>
        rcases b.nw p (by rw [q]; exact fun z => nomatch z) with z | z
        · exact absurd (a.fr p hp).2 z
        · exact absurd z (hl p hp)
  nd := by
    refine List.nodup_append.mpr ⟨b.nd, a.nd, fun x hx y hy e => ?_⟩
    subst e
    exact hl x hy (b.fr x hx).1
theorem Ext.perm {S H S' H' : Hp} {F F' : List Addr} (e : Ext S H S' H' F) (p : F.Perm F') : Ext S H S' H' F' := ⟨e.hh, e.ss, e.sh, e.nw, fun q hq => e.fr q (p.mem_iff.mpr hq), p.nodup_iff.mp e.nd⟩
/-- the objects at F become shared -/
theorem Ext.share {S H S' H' : Hp} {F : List Addr} (e : Ext S H S' H' F) (hl : ∀ p ∈ F, H' p ≠ none) : Ext S H (add S' H' F) H' [] where
  hh := e.hh
  ss := e.ss.trans (add_sub fun p hp => (e.fr p hp).2)
  sh := add_le e.sh
  nw p q := by
    by_cases h : p ∈ F
    · exact .inr (e.fr p h).1
    · rw [add_out h] at q; exact e.nw p q
  fr p hp := nomatch hp
  nd := List.nodup_nil
theorem OkS.ext {C : Ct} {S H S' H' : Hp} {F F' : List Addr} (h : OkS C S F H) (e : Ext S H S' H' F') (hl : ∀ p ∈ F, H p ≠ none) : OkS C S' (F' ++ F) H' where
  nd := by
    refine List.nodup_append.mpr ⟨e.nd, h.nd, fun x hx y hy z => ?_⟩
    subst z
    exact hl x hy (e.fr x hx).1
  dj p hp := by
    rcases List.mem_append.mp hp with hp | hp
    · exact (e.fr p hp).2
    · cases q : S' p with
      | none => rfl
      | some o =>
        rcases e.nw p (by rw [q]; exact fun z => nomatch z) with z | z
        · exact absurd (h.dj p hp) z
        · exact absurd z (hl p hp)
  sh := e.sh
  s0 := h.s0.trans e.ss
  fr p o q r := e.hh p o (h.fr p o q r)
  nw p q := by
    have back : H p = none → C.S0 p ≠ none ∨ p ∈ C.P ∨ C.H0 p = none := fun z => by
      by_cases hp : p ∈ C.P
      · exact .inr (.inl hp)
      · refine .inr (.inr ?_)
        cases y : C.H0 p with
        | none => rfl
        | some o => rw [h.fr p o y hp] at z; cases z
    rcases q with q | q
    · rcases List.mem_append.mp q with q | q
      · exact back (e.fr p q).1
      · exact h.nw p (.inl q)
    · rcases e.nw p q with z | z
      · exact h.nw p (.inr z)
      · exact back z
/-- the objects of an item become shared -/
theorem OkS.share {C : Ct} {S H : Hp} {F F' : List Addr} (h : OkS C S (F ++ F') H) : OkS C (add S H F) F' H where
  nd := (List.nodup_append.mp h.nd).2.1
  dj p hp := by
    have hn : p ∉ F := fun z => (List.nodup_append.mp h.nd).2.2 p z p hp rfl
    rw [add_out hn]
    exact h.dj p (List.mem_append_right _ hp)
  sh := add_le h.sh
  s0 := h.s0.trans (add_sub fun p hp => h.dj p (List.mem_append_left _ hp))
  fr := h.fr
  nw p q := by
    rcases q with q | q
    · exact h.nw p (.inl (List.mem_append_right _ q))
    · by_cases hp : p ∈ F
      · exact h.nw p (.inl (List.mem_append_left _ hp))
      · rw [add_out hp] at q; exact h.nw p (.inr q)
theorem Hd.share {C : Ct} {K : PySem.W.Frag} {k : Nat} {α : Type} [T : PyTy α] {a : α} {v : V} {l : List Assn} {H : Hp} (h : Hd C (itm K k a v :: l) H) : Hd C (itm K 0 a v :: l) H := by
  obtain ⟨S, F, ⟨F1, F2, e, h1, h2⟩, o⟩ := h
  subst e
  have dj : ∀ p ∈ F1, S p = none := fun p hp => o.dj p (List.mem_append_left _ hp)
  refine ⟨add S H F1, F2, ⟨[], F2, rfl, T.freeze h1 (add_sub dj) (fun p hp => add_in hp) H, h2.mono (add_sub dj) fun _ _ => rfl⟩, o.share⟩
/-- what is held may be looked at -/
theorem look {K : PySem.W.Frag} {k : Nat} {α : Type} [T : PyTy α] {a : α} {v : V} {S H : Hp} {F : List Addr} (h : T.rep K k S H v a F) (hs : Sub S H) : T.rep K 0 H H v a [] := T.freeze h hs (fun _ _ => rfl) H
end VL
namespace VL
open PySem PySem.Spec PyProof.Rows L2
def viewA (K : PySem.W.Frag) (m : Mode) (s : Slot) (v : Option V) (S H : Hp) : Prop := match m with
  | .un => True
  | .vw => ∃ x, v = some x ∧ s.inst.rep K 0 H H x s.a []
  | .id _ => ∃ x, v = some x ∧ s.inst.rep K 0 H H x s.a []
  | .own _ _ => ∃ x, v = some x ∧ s.inst.rep K 0 S S x s.a []
def View (K : PySem.W.Frag) (S H : Hp) : List Mode → List Slot → List (Option V) → Prop
  | [], [], [] => True
  | m :: ms, s :: ss, v :: vs => viewA K m s v S H ∧ View K S H ms ss vs
  | _, _, _ => False
theorem viewA.mono {K : PySem.W.Frag} {m : Mode} {s : Slot} {v : Option V} {S H S' H' : Hp} (h : viewA K m s v S H) (hs : Sub S S') (hh : Sub H H') : viewA K m s v S' H' := by
  cases m with
  | un => trivial
  | vw => obtain ⟨x, e, r⟩ := h; exact ⟨x, e, s.inst.mono r hh fun p hp => nomatch hp⟩
  | id _ => obtain ⟨x, e, r⟩ := h; exact ⟨x, e, s.inst.mono r hh fun p hp => nomatch hp⟩
  | own k io => obtain ⟨x, e, r⟩ := h; exact ⟨x, e, s.inst.mono r hs fun p hp => nomatch hp⟩
theorem View.mono {K : PySem.W.Frag} {S H S' H' : Hp} : ∀ {ms : List Mode} {ss : List Slot} {vs : List (Option V)}, View K S H ms ss vs → Sub S S' → Sub H H' → View K S' H' ms ss vs
  | [], [], [], _, _, _ => trivial
  | _ :: _, _ :: _, _ :: _, ⟨h1, h2⟩, hs, hh => ⟨h1.mono hs hh, View.mono h2 hs hh⟩
  | [], [], _ :: _, h, _, _ => h.elim
  | [], _ :: _, _, h, _, _ => h.elim
  | _ :: _, [], _, h, _, _ => h.elim
  | _ :: _, _ :: _, [], h, _, _ => h.elim
theorem View.get {K : PySem.W.Frag} {S H : Hp} : ∀ {ms : List Mode} {ss : List Slot} {vs : List (Option V)} {i : Nat} {m : Mode} {s : Slot}, View K S H ms ss vs → ms[i]? = some m → ss[i]? = some s → ∃ v, vs[i]? = some v ∧ viewA K m s v S H
  | [], [], [], _, _, _, _, e, _ => by simp at e
  | [], [], _ :: _, _, _, _, h, _, _ => h.elim
  | [], _ :: _, _, _, _, _, h, _, _ => h.elim
  | _ :: _, [], _, _, _, _, h, _, _ => h.elim
  | _ :: _, _ :: _, [], _, _, _, h, _, _ => h.elim
  | _ :: _, _ :: _, _ :: _, 0, _, _, h, e1, e2 => by cases e1; cases e2; exact ⟨_, rfl, h.1⟩
  | _ :: _, _ :: _, _ :: _, i + 1, _, _, h, e1, e2 => View.get (i := i) h.2 e1 e2
theorem View.len {K : PySem.W.Frag} {S H : Hp} : ∀ {ms : List Mode} {ss : List Slot} {vs : List (Option V)}, View K S H ms ss vs → ss.length = vs.length ∧ ms.length = vs.length
  | [], [], [], _ => ⟨rfl, rfl⟩
  | [], [], _ :: _, h => h.elim
  | [], _ :: _, _, h => h.elim
  | _ :: _, [], _, h => h.elim
  | _ :: _, _ :: _, [], h => h.elim
  | _ :: _, _ :: _, _ :: _, h => by have := View.len h.2; simp only [List.length_cons]; omega
theorem View.set {K : PySem.W.Frag} {S H : Hp} : ∀ {ms : List Mode} {ss : List Slot} {vs : List (Option V)} {i : Nat} {m : Mode} {s : Slot} {v : Option V}, View K S H ms ss vs → viewA K m s v S H → View K S H (ms.set i m) (ss.set i s) (vs.set i v)
  | [], [], [], _, _, _, _, _, _ => trivial
  | [], [], _ :: _, _, _, _, _, h, _ => h.elim
  | [], _ :: _, _, _, _, _, _, h, _ => h.elim
  | _ :: _, [], _, _, _, _, _, h, _ => h.elim
  | _ :: _, _ :: _, [], _, _, _, _, h, _ => h.elim
  | _ :: _, _ :: _, _ :: _, 0, _, _, _, h, h1 => ⟨h1, h.2⟩
  | _ :: _, _ :: _, _ :: _, i + 1, _, _, _, h, h1 => ⟨h.1, View.set (i := i) h.2 h1⟩
/-- what is known of a value that has come: vw: as the heap stands; own k: k layers new, the rest shared -/
def got (K : PySem.W.Frag) (kd : Mode) {α : Type} [T : PyTy α] (a : α) (S H : Hp) (v : V) (F : List Addr) : Prop := match kd with
  | .un => F = []
  | .vw => F = [] ∧ T.rep K 0 H H v a []
  | .id _ => F = [] ∧ T.rep K 0 H H v a []
  | .own k _ => T.rep K k S H v a F
theorem got.mono {K : PySem.W.Frag} {kd : Mode} {α : Type} [T : PyTy α] {a : α} {S H S' H' : Hp} {v : V} {F : List Addr} (h : got K kd a S H v F) (hs : Sub S S') (hh : Sub H H') (hl : ∀ p ∈ F, H p ≠ none) : got K kd a S' H' v F := by
  cases kd with
  | un => exact h
  | vw => exact ⟨h.1, T.mono h.2 hh fun p hp => nomatch hp⟩
  | id _ => exact ⟨h.1, T.mono h.2 hh fun p hp => nomatch hp⟩
  | own k io => exact T.mono h hs fun p hp => hh.at (hl p hp)
theorem got.here {K : PySem.W.Frag} {kd : Mode} {α : Type} [T : PyTy α] {a : α} {S H : Hp} {v : V} {F : List Addr} (h : got K kd a S H v F) : ∀ p ∈ F, H p ≠ none := by
  cases kd with
  | un => rw [show F = [] from h]; intro p hp; cases hp
  | vw => rw [h.1]; intro p hp; cases hp
  | id _ => rw [h.1]; intro p hp; cases hp
  | own k io => exact T.here h
theorem got.look {K : PySem.W.Frag} {kd : Mode} {α : Type} [T : PyTy α] {a : α} {S H : Hp} {v : V} {F : List Addr} (h : got K kd a S H v F) (hs : Sub S H) (hk : kd ≠ .un) : T.rep K 0 H H v a [] := by
  cases kd with
  | un => exact absurd rfl hk
  | vw => exact h.2
  | id _ => exact h.2
  | own k io => exact VL.look h hs
/-- the reading of an expression that only looks: f tells its value -/
def tP (K : PySem.W.Frag) (W : Hp → String → Prop) {ρ : Type} (sl : ρ → List Slot) (ms : List Mode) {α : Type} [T : PyTy α] (f : ρ → M α) (kd : Mode) : TE := fun σ H Q =>
  ∃ (r : ρ) (S : Hp), Sub S H ∧ View K S H ms (sl r) σ ∧ ends (f r) (fun a => ∀ v S' H' F, Ext S H S' H' F → got K kd a S' H' v F → Q v H') (fun c => ∀ H', Sub H H' → W H' c)
def tPT (K : PySem.W.Frag) (W : Hp → String → Prop) {ρ : Type} (sl : ρ → List Slot) (ms : List Mode) (f : ρ → M Bool) : TT := fun σ H Q =>
  ∃ (r : ρ) (S : Hp), Sub S H ∧ View K S H ms (sl r) σ ∧ ends (f r) (fun a => ∀ S' H', Ext S H S' H' [] → Q a H') (fun c => ∀ H', Sub H H' → W H' c)
theorem PE.conv {X : Cx} {e : Expr} {t t' : TE} (h : PE X e t) (k : ∀ σ H Q, t' σ H Q → t σ H Q) : PE X e t' := ⟨fun pins s σ H Q I q => h.run pins s σ H Q I (k σ H Q q)⟩
theorem PT.conv {X : Cx} {e : Expr} {t t' : TT} (h : PT X e t) (k : ∀ σ H Q, t' σ H Q → t σ H Q) : PT X e t' := ⟨fun pins s σ H Q I q => h.run pins s σ H Q I (k σ H Q q)⟩
theorem PW.conv {X : Cx} {e : Expr} {t t' : TT} (h : PW X e t) (k : ∀ σ H Q, t' σ H Q → t σ H Q) : PW X e t' := ⟨fun w pins s σ H Q I q => h.run w pins s σ H Q I (k σ H Q q)⟩
theorem PA.conv {X : Cx} {es : List Expr} {t t' : TA} (h : PA X es t) (k : ∀ σ H Q, t' σ H Q → t σ H Q) : PA X es t' := ⟨fun pos pins s σ H Q I q => h.run pos pins s σ H Q I (k σ H Q q)⟩
theorem PS.conv {X : Cx} {e : Stmt} {t t' : TS} (h : PS X e t) (k : ∀ D σ H, t' D σ H → t D σ H) : PS X e t' := ⟨fun pins s σ H D I q => h.run pins s σ H D I (k D σ H q)⟩
theorem PSs.conv {X : Cx} {e : List Stmt} {t t' : TS} (h : PSs X e t) (k : ∀ D σ H, t' D σ H → t D σ H) : PSs X e t' := ⟨fun pins s σ H D I q => h.run pins s σ H D I (k D σ H q)⟩
def up {α : Type} : Option α → M α
  | some a => .ok a
  | none => .error .stuck
def mute {α : Type} : M α → M α
  | .ok a => .ok a
  | .error _ => .error .stuck
section
variable {ρ α β γ δ : Type}
def e0 (a : α) : ρ → M α := fun _ => .ok a
def eV (g : ρ → α) : ρ → M α := fun r => .ok (g r)
def e1 (op : α → Option β) (f : ρ → M α) : ρ → M β := fun r => f r >>= fun a => up (op a)
def e2 (op : α → β → Option γ) (f : ρ → M α) (g : ρ → M β) : ρ → M γ := fun r => f r >>= fun a => g r >>= fun b => up (op a b)
def e3 (op : α → β → γ → Option δ) (f : ρ → M α) (g : ρ → M β) (h : ρ → M γ) : ρ → M δ := fun r => f r >>= fun a => g r >>= fun b => h r >>= fun c => up (op a b c)
def eIf (c : ρ → M Bool) (f g : ρ → M α) : ρ → M α := fun r => c r >>= fun b => if b then f r else g r
def eAnd (f g : ρ → M Bool) : ρ → M Bool := fun r => f r >>= fun b => if b then g r else .ok false
def eOr (f g : ρ → M Bool) : ρ → M Bool := fun r => f r >>= fun b => if b then .ok true else g r
end
section
variable {X : Cx} {K : PySem.W.Frag} {W : Hp → String → Prop} {ρ : Type} {sl : ρ → List Slot} {ms : List Mode} {a b c e : Expr} {pos : Pos}
variable {α β γ : Type} [TA : PyTy α] [TB : PyTy β] [TC : PyTy γ]
/-- what has come may be shared -/
theorem pv_share {f : ρ → M α} {k : Nat} {io : Option Nat} (h : PE X e (tP K W sl ms f (.own k io))) : PE X e (tP K W sl ms f (lv 0)) :=
  PE.conv h fun σ H Q ⟨r, S, hs, hv, he⟩ => ⟨r, S, hs, hv, ends_mono he (fun a ea q v S' H' F x g => q v (add S' H' F) H' [] (x.share (TA.here g)) (TA.freeze g (add_sub fun p hp => (x.fr p hp).2) (fun p hp => add_in hp) H')) fun c q => q⟩
/-- a look at what has no object is as good as any -/
theorem pv_scal {α : Type} [PT : PyTy α] [T : Scal α] {f : ρ → M α} {kd : Mode} (k : Nat) (h : PE X e (tP K W sl ms f kd)) (hk : kd ≠ .un := by decide) : PE X e (tP K W sl ms f (lv k)) :=
  PE.conv h fun σ H Q ⟨r, S, hs, hv, he⟩ => ⟨r, S, hs, hv, ends_mono he (fun a ea q v S' H' F x g => by
    have e := (T.scal.mp (g.look x.sh hk)).1
    exact q v (add S' H' F) H' [] (x.share g.here) (T.scal.mpr ⟨e, rfl⟩)) fun c q => q⟩
theorem pv_c {α : Type} [PT : PyTy α] [T : Scal α] {x : α} (h : PE X e (tC (T.val x))) : PE X e (tP K W sl ms (e0 x) (lv 0)) :=
  PE.conv h fun σ H Q ⟨r, S, hs, hv, he⟩ => he _ S H [] (Ext.refl hs) (T.scal.mpr ⟨rfl, rfl⟩)
theorem pv_int {i : Int} {j : Nat} : PE X (.Constant (.int i) j pos) (tP K W sl ms (e0 i) (lv 0)) := pv_c (α := Int) pe_int
theorem pv_bl {i : Bool} {j : Nat} : PE X (.Constant (.bool i) j pos) (tP K W sl ms (e0 i) (lv 0)) := pv_c (α := Bool) pe_bl
theorem pv_str {i : Str} {j : Nat} : PE X (.Constant (.str i) j pos) (tP K W sl ms (e0 i) (lv 0)) := pv_c (α := Str) pe_str
theorem pv_non {j : Nat} : PE X (.Constant .none j pos) (tP K W sl ms (e0 ()) (lv 0)) := pv_c (α := Unit) pe_non
/-- a name whose slot is shared; one that is looked at -/
theorem pv_v {g : ρ → α} (i : Nat) (h : PE X e (tVar i)) (hm : ms[i]? = some (lv 0)) (hg : ∀ r, (sl r)[i]? = some ⟨g r⟩) : PE X e (tP K W sl ms (eV g) (lv 0)) :=
  PE.conv h fun σ H Q ⟨r, S, hs, hv, he⟩ => by
    obtain ⟨v, e, x, e2, q⟩ := hv.get hm (hg r)
    subst e2
    exact ⟨x, e, he x S H [] (Ext.refl hs) (TA.mono q (Sub.refl S) fun p hp => nomatch hp)⟩
theorem pv_w {g : ρ → α} (i : Nat) (h : PE X e (tVar i)) (hm : ms[i]? = some .vw) (hg : ∀ r, (sl r)[i]? = some ⟨g r⟩) : PE X e (tP K W sl ms (eV g) .vw) :=
  PE.conv h fun σ H Q ⟨r, S, hs, hv, he⟩ => by
    obtain ⟨v, e, x, e2, q⟩ := hv.get hm (hg r)
    subst e2
    exact ⟨x, e, he x S H [] (Ext.refl hs) ⟨rfl, q⟩⟩
/-- two expressions in a row -/
theorem two {f : ρ → M α} {g : ρ → M β} {ka kb : Mode} (ha : PE X a (tP K W sl ms f ka)) (hb : PE X b (tP K W sl ms g kb)) {σ : L2.St} {H : Hp} {R : V → V → Hp → Prop} {S : Hp} {r : ρ} (hs : Sub S H) (hv : View K S H ms (sl r) σ)
    (h : ends (f r) (fun x => ends (g r) (fun y => ∀ v u S' H' F1 F2, Ext S H S' H' (F2 ++ F1) → got K ka x S' H' v F1 → got K kb y S' H' u F2 → R v u H') (fun c => ∀ H', Sub H H' → W H' c)) (fun c => ∀ H', Sub H H' → W H' c)) :
    tP K W sl ms f ka σ H fun v H1 => tP K W sl ms g kb σ H1 fun u H2 => R v u H2 :=
  ⟨r, S, hs, hv, ends_mono h (fun x ex q v S1 H1 F1 x1 g1 => ⟨r, S1, x1.sh, hv.mono x1.ss x1.hh, ends_mono q (fun y ey q u S2 H2 F2 x2 g2 => q v u S2 H2 F1 F2 (x1.trans x2 g1.here) (g1.mono x2.ss x2.hh g1.here) g2) fun c q H' h => q H' (x1.hh.trans h)⟩) fun c q => q⟩
/-- closed: what comes has k layers of its own, and nothing below -/
def New (K : PySem.W.Frag) (k : Nat) {α : Type} [T : PyTy α] (a : α) (H : Hp) (v : V) (H' : Hp) : Prop := ∃ F, Sub H H' ∧ (∀ p ∈ F, H p = none) ∧ F.Nodup ∧ ∀ S, T.rep K k S H' v a F
def Op2 (K : PySem.W.Frag) (r : R2) (op : α → β → Option γ) (k : Nat) : Prop :=
  ∀ (H : Hp) (x y : V) (a : α) (b : β) (c : γ) (Q : VK), TA.rep K 0 H H x a [] → TB.rep K 0 H H y b [] → op a b = some c → (∀ v H', New K k c H v H' → Q v H') → r x y H Q
def Op1 (K : PySem.W.Frag) (r : V → Hp → VK → Prop) (op : α → Option γ) (k : Nat) : Prop :=
  ∀ (H : Hp) (x : V) (a : α) (c : γ) (Q : VK), TA.rep K 0 H H x a [] → op a = some c → (∀ v H', New K k c H v H' → Q v H') → r x H Q
theorem New.scal {α : Type} [PT : PyTy α] [T : Scal α] {a : α} {k : Nat} {H : Hp} : New K k a H (T.val a) H := ⟨[], Sub.refl H, (fun p hp => nomatch hp), List.nodup_nil, fun S => T.scal.mpr ⟨rfl, rfl⟩⟩
theorem New.got {k : Nat} {a : α} {S H H' : Hp} {v : V} (h : New K k a H v H') (hs : Sub S H) : ∃ F, Ext S H S H' F ∧ VL.got K (lv k) a S H' v F := by
  obtain ⟨F, hh, hn, nd, r⟩ := h
  exact ⟨F, ⟨hh, Sub.refl S, hs.trans hh, fun p q => .inl q, fun p hp => ⟨hn p hp, hs.back (hn p hp)⟩, nd⟩, r S⟩
theorem up_ends {o : Option γ} {P : γ → Prop} {E : String → Prop} (h : ends (up o) P E) : ∃ c, o = some c ∧ P c := by
  cases o with
  | none => exact h.elim
  | some c => exact ⟨c, rfl, h⟩
theorem pv_e2 {t : R2} {op : α → β → Option γ} {k : Nat} {f : ρ → M α} {g : ρ → M β} {ka kb : Mode} (hp : Op2 K t op k) (ha : PE X a (tP K W sl ms f ka)) (hb : PE X b (tP K W sl ms g kb))
    (h : PE X e (tOp t (tP K W sl ms f ka) (tP K W sl ms g kb))) (hka : ka ≠ .un := by decide) (hkb : kb ≠ .un := by decide) : PE X e (tP K W sl ms (e2 op f g) (lv k)) :=
  PE.conv h fun σ H Q ⟨r, S, hs, hv, he⟩ => by
    refine two ha hb hs hv ?_
    refine ends_mono (ends_bind he) (fun x ex q => ends_mono (ends_bind q) (fun y ey q v u S' H' F1 F2 x g1 g2 => ?_) fun c q => q) fun c q => q
    obtain ⟨z, ez, q⟩ := up_ends q
    refine hp H' v u _ _ z Q (g1.look x.sh hka) (g2.look x.sh hkb) ez fun w' H2 hn => ?_
    obtain ⟨F, x2, g3⟩ := hn.got x.sh
    have x0 := (x.share (F := F2 ++ F1) fun p hp => (List.mem_append.mp hp).elim (g2.here p) (g1.here p))
    obtain ⟨F, x2, g3⟩ := hn.got x0.sh
    refine q w' _ H2 F ?_ g3
    have := x0.trans x2 (fun p hp => nomatch hp)
    rw [List.append_nil] at this
    exact this
theorem pv_e1 {t : V → Hp → VK → Prop} {op : α → Option γ} {k : Nat} {f : ρ → M α} {ka : Mode} (hp : Op1 K t op k) (h : PE X e (tUn t (tP K W sl ms f ka))) (hka : ka ≠ .un := by decide) : PE X e (tP K W sl ms (e1 op f) (lv k)) :=
  PE.conv h fun σ H Q ⟨r, S, hs, hv, he⟩ => ⟨r, S, hs, hv, ends_mono (ends_bind he) (fun x ex q v S' H' F x g => by
    obtain ⟨z, ez, q⟩ := up_ends q
    refine hp H' v _ z Q (g.look x.sh hka) ez fun w' H2 hn => ?_
    have x0 := x.share g.here
    obtain ⟨F, x2, g3⟩ := hn.got x0.sh
    refine q w' _ H2 F ?_ g3
    have := x0.trans x2 (fun p hp => nomatch hp)
    rw [List.append_nil] at this
    exact this) fun c q => q⟩
/-- a binary operation of the text, a comparison, a unary one -/
theorem pv_bin {o : Operator} {t : R2} {op : α → β → Option γ} {k : Nat} {f : ρ → M α} {g : ρ → M β} {ka kb : Mode} (ho : OpR X (binaryOp o) t) (hp : Op2 K t op k) (ha : PE X a (tP K W sl ms f ka)) (hb : PE X b (tP K W sl ms g kb)) (hka : ka ≠ .un := by decide) (hkb : kb ≠ .un := by decide) :
    PE X (.BinOp a o b pos) (tP K W sl ms (e2 op f g) (lv k)) := pv_e2 hp ha hb (pe_op ho ha hb) hka hkb
theorem pv_cmp {o : CmpOp} {t : R2} {op : α → β → Option γ} {k : Nat} {f : ρ → M α} {g : ρ → M β} {ka kb : Mode} (ho : OpR X (compareOp o) t) (hp : Op2 K t op k) (ha : PE X a (tP K W sl ms f ka)) (hb : PE X b (tP K W sl ms g kb)) (hm : behindInMarks o b = false) (hka : ka ≠ .un := by decide) (hkb : kb ≠ .un := by decide) :
    PE X (.Compare a [o] [b] pos) (tP K W sl ms (e2 op f g) (lv k)) := pv_e2 hp ha hb (pe_cmpR ho ha hb hm) hka hkb
theorem pv_un {o : UnaryOp} {t : V → Hp → VK → Prop} {op : α → Option γ} {k : Nat} {f : ρ → M α} {ka : Mode} (ho : UnR X (unaryOp o) t) (hp : Op1 K t op k) (ha : PE X a (tP K W sl ms f ka)) (hka : ka ≠ .un := by decide) :
    PE X (.UnaryOp o a pos) (tP K W sl ms (e1 op f) (lv k)) := pv_e1 hp (pe_un ho ha) hka
theorem tPT_of {t : TE} {f : ρ → M Bool} {kd : Mode} (hk : kd ≠ .un) {σ : L2.St} {H : Hp} {Q : Bool → Hp → Prop} (h : tPT K W sl ms f σ H Q) : tP K W sl ms f kd σ H fun x H1 => ∃ c, x = .bl c ∧ Q c H1 := by
  obtain ⟨r, S, hs, hv, he⟩ := h
  refine ⟨r, S, hs, hv, ends_mono he (fun a ea q v S' H' F x g => ?_) fun c q => q⟩
  have z := Scal.scal.mp (g.look x.sh hk)
  exact ⟨a, z.1, q _ H' (x.share g.here)⟩
/-- a name, a call .. as a test -/
theorem pt_e {f : ρ → M Bool} {kd : Mode} (h : PE X e (tP K W sl ms f kd)) (hk : kd ≠ .un := by decide) (he : ∀ whole, isTrue e X.env whole = (do let v ← whole; standAt e.pos; holding [v] (truthy v)) := by intro _; rfl) : PT X e (tPT K W sl ms f) :=
  PT.conv (pt_val h he) fun σ H Q q => tPT_of (t := tP K W sl ms f kd) hk q
theorem pt_cmpV {o : CmpOp} {t : R2} {op : α → β → Option Bool} {f : ρ → M α} {g : ρ → M β} {ka kb : Mode} (ho : OpR X (compareOp o) t) (hp : Op2 K t op 0) (ha : PE X a (tP K W sl ms f ka)) (hb : PE X b (tP K W sl ms g kb)) (hm : behindInMarks o b = false) (hka : ka ≠ .un := by decide) (hkb : kb ≠ .un := by decide) :
    PT X (.Compare a [o] [b] pos) (tPT K W sl ms (e2 op f g)) :=
  PT.conv (pt_cmpR ho ha hb hm) fun σ H Q q => by
    obtain ⟨r, S, hs, hv, he⟩ := q
    refine two (R := fun x y H2 => t x y H2 fun z H3 => ∃ k, z = .bl k ∧ Q k H3) ha hb hs hv ?_
    refine ends_mono (ends_bind he) (fun x ex q => ends_mono (ends_bind q) (fun y ey q v u S' H' F1 F2 x g1 g2 => ?_) fun c q => q) fun c q => q
    obtain ⟨z, ez, q⟩ := up_ends q
    refine hp H' v u _ _ z _ (g1.look x.sh hka) (g2.look x.sh hkb) ez fun w' H2 hn => ?_
    have x0 := (x.share (F := F2 ++ F1) fun p hp => (List.mem_append.mp hp).elim (g2.here p) (g1.here p))
    obtain ⟨F, x2, g3⟩ := hn.got x0.sh
    have z1 := Scal.scal.mp g3
    have e3 := z1.2
    subst e3
    exact ⟨z, z1.1, q (add S' H' (F2 ++ F1)) H2 (x0.trans x2 (fun p hp => nomatch hp))⟩
theorem pt_notV {f : ρ → M Bool} (h : PT X a (tPT K W sl ms f)) : PT X (.UnaryOp .Not a pos) (tPT K W sl ms (e1 (fun b => some !b) f)) :=
  PT.conv (pt_not h) fun σ H Q ⟨r, S, hs, hv, he⟩ => ⟨r, S, hs, hv, ends_mono (ends_bind he) (fun b eb q S' H' x => q S' H' x) fun c q => q⟩
theorem tAnd_of {f g : ρ → M Bool} {tA tB : TT} (hA : tA = tPT K W sl ms f) (hB : tB = tPT K W sl ms g) {σ : L2.St} {H : Hp} {Q : Bool → Hp → Prop} (h : tPT K W sl ms (eAnd f g) σ H Q) : tAnd tA tB σ H Q := by
  subst hA hB
  obtain ⟨r, S, hs, hv, he⟩ := h
  refine ⟨r, S, hs, hv, ends_mono (ends_bind he) (fun b eb q S' H' x => ?_) fun c q => q⟩
  cases b with
  | true =>
    show tPT K W sl ms g σ H' Q
    exact ⟨r, S', x.sh, hv.mono x.ss x.hh, ends_mono q (fun d ed q S2 H2 x2 => q S2 H2 (x.trans x2 fun p hp => nomatch hp)) fun c q H2 h2 => q H2 (x.hh.trans h2)⟩
  | false =>
    show Q false H'
    exact q S' H' x
theorem tOr_of {f g : ρ → M Bool} {tA tB : TT} (hA : tA = tPT K W sl ms f) (hB : tB = tPT K W sl ms g) {σ : L2.St} {H : Hp} {Q : Bool → Hp → Prop} (h : tPT K W sl ms (eOr f g) σ H Q) : tOr tA tB σ H Q := by
  subst hA hB
  obtain ⟨r, S, hs, hv, he⟩ := h
  refine ⟨r, S, hs, hv, ends_mono (ends_bind he) (fun b eb q S' H' x => ?_) fun c q => q⟩
  cases b with
  | false =>
    show tPT K W sl ms g σ H' Q
    exact ⟨r, S', x.sh, hv.mono x.ss x.hh, ends_mono q (fun d ed q S2 H2 x2 => q S2 H2 (x.trans x2 fun p hp => nomatch hp)) fun c q H2 h2 => q H2 (x.hh.trans h2)⟩
  | true =>
    show Q true H'
    exact q S' H' x
theorem pw_and1V {f : ρ → M Bool} (h : PT X a (tPT K W sl ms f)) : PW X (.BoolOp .And [a] pos) (tPT K W sl ms f) := pw_and1 h
theorem pw_or1V {f : ρ → M Bool} (h : PT X a (tPT K W sl ms f)) : PW X (.BoolOp .Or [a] pos) (tPT K W sl ms f) := pw_or1 h
theorem pw_andV {f g : ρ → M Bool} {rest : List Expr} (h : PT X a (tPT K W sl ms f)) (h2 : PW X (.BoolOp .And (b :: rest) pos) (tPT K W sl ms g)) : PW X (.BoolOp .And (a :: b :: rest) pos) (tPT K W sl ms (eAnd f g)) := PW.conv (pw_and h h2) fun _ _ _ q => tAnd_of rfl rfl q
theorem pw_orV {f g : ρ → M Bool} {rest : List Expr} (h : PT X a (tPT K W sl ms f)) (h2 : PW X (.BoolOp .Or (b :: rest) pos) (tPT K W sl ms g)) : PW X (.BoolOp .Or (a :: b :: rest) pos) (tPT K W sl ms (eOr f g)) := PW.conv (pw_or h h2) fun _ _ _ q => tOr_of rfl rfl q
theorem pv_one {op : BoolOp} {f : ρ → M Bool} {kd : Mode} (h : PE X a (tP K W sl ms f kd)) : PE X (.BoolOp op [a] pos) (tP K W sl ms f kd) := pe_one h
theorem pv_notV {f : ρ → M Bool} {kd : Mode} (h : PE X a (tP K W sl ms f kd)) (hk : kd ≠ .un := by decide) : PE X (.UnaryOp .Not a pos) (tP K W sl ms (e1 (fun b => some !b) f) (lv 0)) :=
  pv_e1 (t := fun x H Q => ∃ c, x = .bl c ∧ Q (.bl (!c)) H) (fun H x a c Q r e q => by
    have z := Scal.scal.mp r
    cases e
    exact ⟨a, z.1, q _ H (New.scal (α := Bool))⟩) (pe_not h) hk
theorem pv_andV {f g : ρ → M Bool} {rest : List Expr} {ka : Mode} (h : PE X a (tP K W sl ms f ka)) (h2 : PE X (.BoolOp .And (b :: rest) pos) (tP K W sl ms g (lv 0))) (hk : ka ≠ .un := by decide) : PE X (.BoolOp .And (a :: b :: rest) pos) (tP K W sl ms (eAnd f g) (lv 0)) :=
  PE.conv (pe_and h h2) fun σ H Q ⟨r, S, hs, hv, he⟩ => ⟨r, S, hs, hv, ends_mono (ends_bind he) (fun d ed q v S' H' F x g' => by
    have z := Scal.scal.mp (g'.look x.sh hk)
    have x0 := x.share g'.here
    refine ⟨d, z.1, ?_⟩
    cases d with
    | true =>
      rw [if_pos rfl]
      exact ⟨r, _, x0.sh, hv.mono x0.ss x0.hh, ends_mono q (fun a ea q v S2 H2 F x2 g => q v S2 H2 F (by have := x0.trans x2 (fun p hp => nomatch hp); rw [List.append_nil] at this; exact this) g) fun c q H2 h2 => q H2 (x.hh.trans h2)⟩
    | false =>
      rw [if_neg (by decide)]
      exact q _ _ H' [] x0 (Scal.scal.mpr ⟨rfl, rfl⟩)) fun c q => q⟩
end
end VL
namespace VL
open PySem PySem.Spec PyProof.Rows L2
abbrev set0 (w : World) : Obj := { cls := .type "set", dict := none, data := .set #[] 0 (.fresh 0 0 (!w.params.followText "set-order")) }
abbrev hs0 (w : World) (s : Shared) : Heap := s.heap.push (set0 w)
section
variable {P : Program} {w : World} {A : Around} {E : Value → Shared → Prop} {s : Shared}
/-- what is known behind the filling: a set of just these -/
def SetGot (w : World) (s : Shared) (ns : List Int) (r : Value) (s2 : Shared) : Prop :=
  r = .none ∧ ∃ h2 tk2 c2, s2 = { s with heap := h2, toks := tk2 } ∧ SetR w h2 s.heap.objs.size (fun j => decide (j ∈ ns)) c2 ∧ c2 ≤ ns.length ∧ ∀ b o, s.heap.get? b = some o → h2.get? b = some o
set_option maxHeartbeats 3200000 in
theorem set_of_list {l : Addr} {its : Array Value} (ns : List Int) {Q : Value → Shared → Prop} (quiet : A.handled = none) (hl : s.heap.IsList l its) (hi : IntsAre its.toList ns) (few : ns.length + 1 < scanBound)
    (h : ∀ (h2 : Heap) (tk c : Nat), SetR w h2 s.heap.objs.size (fun j => decide (j ∈ ns)) c → c ≤ ns.length → (∀ b o, s.heap.get? b = some o → h2.get? b = some o) → Q (.ref s.heap.objs.size) { s with heap := h2, toks := tk }) :
    wpAny (model P w) A (call (.type "set") [.ref l]) Q E s := by
  have hz : its.size = ns.length := by
    have q := IntsAre.length hi
    rwa [Array.length_toList] at q
  obtain ⟨c0, tl0, mro0⟩ := F.called_set.mro
  have made0 := F.called_set.made
  have sub0 := F.called_set.sub
  refine wpAny_call (codeAny_of_tree ?_)
  show wpAny _ _ (callAny (.type "set") _) _ _ _
  refine wpAny_pure ⟨Code.quiet_builtin _ (by decide +kernel), codeAny_builtin F.entry_type_call ?_⟩
  rw [Around.under_plain (weight_type_call_type "set" [.ref l] []) rfl]
  have nt0 := F.called_set.notType
  have cc0 := F.called_set.canCreate
  have tc0 := F.typeCall_set_1 (.ref l)
  repeat (any_goals (first | assumption | wp_step))
  refine codeAny_mono (code_set_led1 (.ref l) (E := E) (Q₁ := fun ob s1 => ob = .ref s.heap.objs.size ∧ s1 = { s with heap := hs0 w s }) ⟨rfl, rfl⟩) fun r s1 hr => ?_
  cases r with
  | error e => exact hr
  | ok fl =>
    cases fl with
    | ret ob =>
      obtain ⟨rfl, rfl⟩ := hr
      have at0 : (hs0 w s).get? s.heap.objs.size = some (set0 w) := Heap.get?_push_size _ rfl
      have ty0 : Shared.TypeIs { s with heap := hs0 w s } (.ref s.heap.objs.size) "set" := ⟨_, at0, rfl⟩
      have li0 := F.called_set.init.lookup
      have bi0 := F.called_set.init.bind (.ref s.heap.objs.size)
      repeat (any_goals (first | assumption | wp_step))
      refine codeAny_mono (codeAny_call_builtin (R := wants (SetGot w s ns) E) F.called_set.init.plain F.entry_set_init (check_set_init_1 ty0 ?_)) fun r2 s2 hr2 => ?_
      · obtain ⟨ol, hol, ecl, nl, edl⟩ := hl
        obtain ⟨ocls, odict, odata, oslots⟩ := ol
        simp only at ecl edl
        subst ecl
        subst edl
        have lat : (hs0 w s).get? l = some { cls := .type "list", dict := odict, data := .seq its nl, slots := oslots } := Heap.get?_push_of_some _ hol
        have sls0 := F.sub_list_set
        have slf0 := F.sub_list_frozenset
        have nd0 : (Value.type "list" == Value.type "dict") = false := by decide
        have hl1 : (hs0 w s).IsList l its := ⟨_, lat, rfl, nl, rfl⟩
        unfold Builtin.«set.__init__» noKeywords Builtin.Frozenset.updateFrom
        generalize hPI : pyIter = PI
        wp_walk
        subst hPI
        refine wpAny_pyIter_list hl1 (wpAny_bind (wpAny_runValue ?_))
        have hlS : l < s.heap.objs.size := Heap.lt_size hol
        have quiet3 : A.in1.in1.in1.handled = none := by simp [quiet]
        have szp : (hs0 w s).objs.size = s.heap.objs.size + 1 := Heap.size_push ..
        have neI : l ≠ (hs0 w s).objs.size := by
          rw [szp]
          exact Nat.ne_of_lt (Nat.lt_succ_of_lt hlS)
        have nfp : s.heap.objs.size ∉ [(hs0 w s).objs.size, l] := by
          rw [szp]
          simp only [List.mem_cons, List.not_mem_nil, or_false, not_or]
          exact ⟨Nat.ne_of_lt (Nat.lt_succ_self _), Nat.ne_of_gt hlS⟩
        have vals : ∀ (i : Nat) (v : Value), its[i]? = some v → ∃ k t, ns[i]? = some k ∧ v = .int k t := fun i v hv => by
          have ilt : i < ns.length := by
            rw [← hz]
            exact (Array.getElem?_eq_some_iff.mp hv).1
          obtain ⟨t, e⟩ := PyProof.Rows.IntsAre.int_at hi i v (by rw [Array.getElem?_toList]; exact hv)
          refine ⟨ns[i], t, List.getElem?_eq_getElem ilt, ?_⟩
          rw [e, List.getD_eq_getElem?_getD, List.getElem?_eq_getElem ilt]
          rfl
        refine set_update_ints ((Walks.list quiet3 _ l neI its).toS) s.heap.objs.size nfp ns hz few vals (its.size - 0) 0 _ (by omega) (Nat.zero_le _) ⟨⟨_, Heap.get?_push_size _ rfl, rfl, rfl⟩, (hl1.push _)⟩ ⟨0, Nat.le_refl 0, setR_new_at (Heap.get?_push_of_some _ at0)⟩ fun s3 c3 mv hc3 hS3 => ?_
        obtain ⟨h3, g3, d3, tk3, os3⟩ := s3
        obtain rfl : g3 = s.gens := mv.gens
        obtain rfl : d3 = s.drawn := mv.drawn
        obtain rfl : os3 = s.os := mv.os
        show wpAny _ _ _ _ _ _
        refine wpAny_pure ?_
        show wpAny _ _ (ret Value.none) _ _ _
        rw [hz] at hc3
        refine wpAny_pure ⟨rfl, h3, tk3, c3, rfl, hS3, hc3, fun b o e => ?_⟩
        have b0 : b < s.heap.objs.size := Heap.lt_size e
        refine mv.heap b o ?_ (Heap.get?_push_of_some _ (Heap.get?_push_of_some _ e))
        rw [szp]
        simp only [List.mem_cons, List.not_mem_nil, or_false, not_or]
        exact ⟨Nat.ne_of_lt b0, Nat.ne_of_lt (Nat.lt_succ_of_lt b0)⟩
      · cases r2 with
        | error e => exact hr2
        | ok fl2 =>
          cases fl2 with
          | ret v2 =>
            obtain ⟨rfl, h2, tk2, c2, rfl, hS2, hc2, k2⟩ := hr2
            repeat (any_goals (first | assumption | wp_step))
            exact h h2 tk2 c2 hS2 hc2 k2
          | _ => exact hr2.elim
    | _ => exact hr.elim
end
end VL
namespace VL
open PySem PySem.Spec PyProof.Rows L2
section
variable {K : PySem.W.Frag}
theorem rep_scal {α : Type} [PT : PyTy α] [T : Scal α] {k : Nat} {S H : Hp} {v : V} {a : α} {F : List Addr} (h : PT.rep K k S H v a F) : v = T.val a := (T.scal.mp h).1
/-- a list of things without objects -/
theorem reps_scal {α : Type} [PT : PyTy α] [T : Scal α] {k : Nat} {S H : Hp} : ∀ {vs : List V} {l : List α} {F : List Addr}, Reps (fun v a F => PT.rep K k S H v a F) vs l F → vs = l.map T.val ∧ F = []
  | [], [], _, h => ⟨rfl, h⟩
  | [], _ :: _, _, h => h.elim
  | _ :: _, [], _, h => h.elim
  | v :: vs, a :: as, F, ⟨F1, F2, e, h1, h2⟩ => by
    obtain ⟨e1, e2⟩ := reps_scal h2
    have z := T.scal.mp h1
    subst e
    exact ⟨by rw [z.1, e1]; rfl, by rw [z.2, e2]; rfl⟩
theorem scal_reps {α : Type} [PT : PyTy α] [T : Scal α] {k : Nat} {S H : Hp} : ∀ {l : List α}, Reps (fun v a F => PT.rep K k S H v a F) (l.map T.val) l []
  | [] => rfl
  | a :: l => ⟨[], [], rfl, T.scal.mpr ⟨rfl, rfl⟩, scal_reps⟩
theorem rep_list {α : Type} [PT : PyTy α] [T : Scal α] {H : Hp} {v : V} {l : List α} (h : (instList (α := α)).rep K 0 H H v l []) : ∃ p, v = .ref p ∧ H p = some (.lst (l.map T.val)) ∧ l.length ≤ line := by
  obtain ⟨p, xs, F', e, n, z, r⟩ := h
  obtain ⟨e1, e2⟩ := reps_scal r
  subst e1
  exact ⟨p, e, n.1, by rwa [List.length_map] at z⟩
theorem New.list {α : Type} [PT : PyTy α] [T : Scal α] {H : Hp} {p : Addr} {l : List α} (h : H p = none) (hl : l.length ≤ line) : New K 1 l H (.ref p) (upd H p (.lst (l.map T.val))) :=
  ⟨[p], Sub.new h, fun q hq => by rw [List.mem_singleton.mp hq]; exact h, List.nodup_cons.mpr ⟨by simp, List.nodup_nil⟩, fun S => ⟨p, _, [], rfl, ⟨upd_same, rfl⟩, by rwa [List.length_map], scal_reps⟩⟩
/-- an operation of two things without objects, one more -/
theorem Op2.scal {α β γ : Type} [PyTy α] [PyTy β] [PyTy γ] [A : Scal α] [B : Scal β] [C : Scal γ] {r : R2} {op : α → β → Option γ} (h : ∀ (H : Hp) (a : α) (b : β) (c : γ) (Q : VK), op a b = some c → Q (C.val c) H → r (A.val a) (B.val b) H Q) : Op2 K r op 0 := fun H x y a b c Q ra rb e q => by
  rw [rep_scal ra, rep_scal rb]
  exact h H a b c Q e (q _ H New.scal)
theorem Op1.scal {α γ : Type} [PyTy α] [PyTy γ] [A : Scal α] [C : Scal γ] {r : V → Hp → VK → Prop} {op : α → Option γ} (h : ∀ (H : Hp) (a : α) (c : γ) (Q : VK), op a = some c → Q (C.val c) H → r (A.val a) H Q) : Op1 K r op 0 := fun H x a c Q ra e q => by
  rw [rep_scal ra]
  exact h H a c Q e (q _ H New.scal)
def addI (x y : Int) : Option Int := some (x + y)
def subI (x y : Int) : Option Int := some (x - y)
def negI (x : Int) : Option Int := some (-x)
/-- products of great numbers have a bound -/
def mulI (x y : Int) : Option Int := if x.natAbs < 2 ^ 64 ∨ y.natAbs < 2 ^ 64 ∨ x.natAbs.log2 + y.natAbs.log2 < 1000000 then some (x * y) else none
def fdivI (x y : Int) : Option Int := if y ≠ 0 ∧ y.natAbs < 1073741824 ∨ 0 < y ∧ y.natAbs.log2 < 9000 then some (x.fdiv y) else none
def modI (x y : Int) : Option Int := if y ≠ 0 then some (x.fmod y) else none
def powI (x y : Int) : Option Int := if 0 ≤ y ∧ y ≤ 1000000 ∧ x.natAbs < 2 ^ 64 then some (x ^ y.toNat) else none
def ltI (x y : Int) : Option Bool := some (decide (x < y))
def leI (x y : Int) : Option Bool := some (decide (x ≤ y))
def gtI (x y : Int) : Option Bool := some (decide (y < x))
def geI (x y : Int) : Option Bool := some (decide (y ≤ x))
def eqS {α : Type} [DecidableEq α] (x y : α) : Option Bool := some (decide (x = y))
def neS {α : Type} [DecidableEq α] (x y : α) : Option Bool := some (!decide (x = y))
theorem o_add : Op2 K (rI0 fun i j => .int (i + j)) addI 0 := Op2.scal (α := Int) (β := Int) (γ := Int) fun H a b c Q e q => by cases e; exact ⟨a, b, rfl, rfl, q⟩
theorem o_sub : Op2 K (rI0 fun i j => .int (i - j)) subI 0 := Op2.scal (α := Int) (β := Int) (γ := Int) fun H a b c Q e q => by cases e; exact ⟨a, b, rfl, rfl, q⟩
theorem o_neg : Op1 K (rU fun i => .int (-i)) negI 0 := Op1.scal (α := Int) (γ := Int) fun H a c Q e q => by cases e; exact ⟨a, rfl, q⟩
def rMulA : R2 := fun x y H Q => rI CMul (fun i j => .int (i * j)) x y H Q ∨ rI CMulW (fun i j => .int (i * j)) x y H Q
def rDivA : R2 := fun x y H Q => rI CDivN (fun i j => .int (i.fdiv j)) x y H Q ∨ rI CDivW (fun i j => .int (i / j)) x y H Q
theorem op_mulA {X : Cx} : OpR X (binaryOp .Mult) rMulA := op_mul.or op_mulW
theorem op_divA {X : Cx} : OpR X (binaryOp .FloorDiv) rDivA := op_fdivN.or op_fdivW
theorem o_mul : Op2 K rMulA mulI 0 := Op2.scal (α := Int) (β := Int) (γ := Int) fun H a b c Q e q => by
  unfold mulI at e
  split at e
  · rename_i h
    cases e
    rcases h with h | h | h
    · exact .inl ⟨a, b, rfl, rfl, .inl (by omega), q⟩
    · exact .inl ⟨a, b, rfl, rfl, .inr (by omega), q⟩
    · exact .inr ⟨a, b, rfl, rfl, h, q⟩
  · cases e
theorem o_fdiv : Op2 K rDivA fdivI 0 := Op2.scal (α := Int) (β := Int) (γ := Int) fun H a b c Q e q => by
  unfold fdivI at e
  split at e
  · rename_i h
    cases e
    rcases h with h | h
    · exact .inl ⟨a, b, rfl, rfl, h, q⟩
    · exact .inr ⟨a, b, rfl, rfl, h, by
      show Q (.int (a / b)) H
      rw [← Int.fdiv_eq_ediv_of_nonneg a (by omega)]
      exact q⟩
  · cases e
theorem o_mod : Op2 K (rI (fun _ j => j ≠ 0) fun i j => .int (i.fmod j)) modI 0 := Op2.scal (α := Int) (β := Int) (γ := Int) fun H a b c Q e q => by
  unfold modI at e
  split at e
  · rename_i h
    cases e
    exact ⟨a, b, rfl, rfl, h, q⟩
  · cases e
theorem o_pow : Op2 K (rI CPow fun i j => .int (i ^ j.toNat)) powI 0 := Op2.scal (α := Int) (β := Int) (γ := Int) fun H a b c Q e q => by
  unfold powI at e
  split at e
  · rename_i h
    cases e
    exact ⟨a, b, rfl, rfl, h, q⟩
  · cases e
theorem o_lt : Op2 K (rI0 fun i j => .bl (decide (i < j))) ltI 0 := Op2.scal (α := Int) (β := Int) (γ := Bool) fun H a b c Q e q => by cases e; exact ⟨a, b, rfl, rfl, q⟩
theorem o_le : Op2 K (rI0 fun i j => .bl (decide (i ≤ j))) leI 0 := Op2.scal (α := Int) (β := Int) (γ := Bool) fun H a b c Q e q => by cases e; exact ⟨a, b, rfl, rfl, q⟩
theorem o_gt : Op2 K (rI0 fun i j => .bl (decide (j < i))) gtI 0 := Op2.scal (α := Int) (β := Int) (γ := Bool) fun H a b c Q e q => by cases e; exact ⟨a, b, rfl, rfl, q⟩
theorem o_ge : Op2 K (rI0 fun i j => .bl (decide (j ≤ i))) geI 0 := Op2.scal (α := Int) (β := Int) (γ := Bool) fun H a b c Q e q => by cases e; exact ⟨a, b, rfl, rfl, q⟩
/-- things without objects whose == is their being the same -/
class ScalE (α : Type) [PyTy α] extends Scal α where
  dec : DecidableEq α
  inj : ∀ a b : α, val a = val b → a = b
  sc : ∀ a b : α, L2.scal (val a) (val b) = true
  fl : ∀ a : α, flatV (val a) = true
  eqv : ∀ a b : α, eqV (val a) (val b) = decide (a = b)
instance {α : Type} [PyTy α] [T : ScalE α] : DecidableEq α := T.dec
instance : ScalE Int := { (inferInstance : Scal Int) with
  dec := inferInstance
  inj := fun a b h => V.int.inj h
  sc := fun _ _ => rfl
  fl := fun _ => rfl
  eqv := fun a b => Bool.beq_eq_decide_eq a b }
instance : ScalE Bool := { (inferInstance : Scal Bool) with
  dec := inferInstance
  inj := fun a b h => V.bl.inj h
  sc := fun _ _ => rfl
  fl := fun _ => rfl
  eqv := fun a b => Bool.beq_eq_decide_eq a b }
instance : ScalE Str := { (inferInstance : Scal Str) with
  dec := inferInstance
  inj := fun a b h => V.str.inj h
  sc := fun _ _ => rfl
  fl := fun _ => rfl
  eqv := fun a b => by
    show (a == b) = decide (a = b)
    exact Bool.beq_eq_decide_eq a b }
theorem o_eqS {α : Type} [PT : PyTy α] [T : ScalE α] : Op2 K rEq (eqS (α := α)) 0 := Op2.scal (α := α) (β := α) (γ := Bool) fun H a b c Q e q => by
  cases e
  refine ⟨T.sc a b, ?_⟩
  rw [show decide (T.val a = T.val b) = decide (a = b) from decide_eq_decide.mpr ⟨T.inj a b, fun h => by rw [h]⟩]
  exact q
theorem o_neS {α : Type} [PT : PyTy α] [T : ScalE α] : Op2 K rNe (neS (α := α)) 0 := Op2.scal (α := α) (β := α) (γ := Bool) fun H a b c Q e q => by
  cases e
  refine ⟨T.sc a b, ?_⟩
  rw [show decide (T.val a = T.val b) = decide (a = b) from decide_eq_decide.mpr ⟨T.inj a b, fun h => by rw [h]⟩]
  exact q
class DatI (α : Type) [PT : PyTy α] where
  toD : α → PyData
  n : Nat
  dp : ∀ {K H v a}, PT.rep K 0 H H v a [] → Dp K H v (toD a)
  can : ∀ a, (toD a).canLay0 = true
  dep : ∀ a, (toD a).depth ≤ n
  same : ∀ a b, PyData.eqv (toD a) (toD b) = true ↔ a = b
instance : DatI Int where
  toD := PyData.int
  n := 0
  dp h := by rw [show _ = _ from rep_scal h]; exact Dp.int _
  can _ := rfl
  dep _ := Nat.le_refl _
  same a b := by
    show (a == b) = true ↔ a = b
    exact beq_iff_eq
instance : DatI Bool where
  toD := PyData.bool
  n := 0
  dp h := by rw [show _ = _ from rep_scal h]; exact Dp.bl _
  can _ := rfl
  dep _ := Nat.le_refl _
  same a b := by
    show (a == b) = true ↔ a = b
    exact beq_iff_eq
instance : DatI Unit where
  toD _ := PyData.none
  n := 0
  dp h := by rw [show _ = _ from rep_scal h]; exact Dp.non
  can _ := rfl
  dep _ := Nat.le_refl _
  same a b := ⟨fun _ => rfl, fun _ => rfl⟩
theorem dpAll {α : Type} [PT : PyTy α] [T : DatI α] {H : Hp} : ∀ {vs : List V} {l : List α}, Reps (fun v a F => PT.rep K 0 H H v a F) vs l [] → DpAll K H vs (l.map T.toD)
  | [], [], _ => .nil
  | [], _ :: _, h => h.elim
  | _ :: _, [], h => h.elim
  | v :: vs, a :: l, ⟨F1, F2, e, h1, h2⟩ => by
    obtain ⟨e1, e2⟩ := List.append_eq_nil_iff.mp e.symm
    subst e1 e2
    exact .cons (T.dp h1) (dpAll h2)
theorem canAll {α : Type} [PT : PyTy α] [T : DatI α] : ∀ l : List α, PyData.canLayAll0 (l.map T.toD) = true
  | [] => rfl
  | a :: l => by
    show ((T.toD a).canLay0 && PyData.canLayAll0 (l.map T.toD)) = true
    rw [T.can a, canAll l]
    rfl
theorem depAll {α : Type} [PT : PyTy α] [T : DatI α] : ∀ l : List α, PyData.depthAll (l.map T.toD) ≤ T.n
  | [] => Nat.zero_le _
  | a :: l => by
    show max (T.toD a).depth (PyData.depthAll (l.map T.toD)) ≤ T.n
    have h1 := T.dep a
    have h2 := depAll l
    omega
theorem sameAll {α : Type} [PT : PyTy α] [T : DatI α] : ∀ l m : List α, PyData.eqvAll (l.map T.toD) (m.map T.toD) = true ↔ l = m
  | [], [] => ⟨fun _ => rfl, fun _ => rfl⟩
  | [], _ :: _ => ⟨(fun h => nomatch h), (fun h => nomatch h)⟩
  | _ :: _, [] => ⟨(fun h => nomatch h), (fun h => nomatch h)⟩
  | a :: l, b :: m => by
    show (PyData.eqv (T.toD a) (T.toD b) && PyData.eqvAll (l.map T.toD) (m.map T.toD)) = true ↔ a :: l = b :: m
    rw [Bool.and_eq_true, T.same a b, sameAll l m, List.cons.injEq]
instance {α : Type} [PT : PyTy α] [T : DatI α] : DatI (List α) where
  toD l := .list (l.map T.toD)
  n := T.n + 1
  dp := fun ⟨p, xs, F', e, n, z, r⟩ => by
    rw [e]
    have e2 : F' = [] := n.2.symm
    subst e2
    exact Dp.lst (.inl (.inl n.1)) (dpAll r)
  can l := canAll l
  dep l := Nat.succ_le_succ (depAll l)
  same l m := sameAll l m
instance {α β : Type} [PyTy α] [PyTy β] [TA : DatI α] [TB : DatI β] : DatI (α × β) where
  toD t := .tuple [TA.toD t.1, TB.toD t.2]
  n := max TA.n TB.n + 1
  dp := fun {K H v a} ⟨p, x, y, F1, F2, e, n, r1, r2⟩ => by
    rw [e]
    obtain ⟨e1, e2⟩ := List.append_eq_nil_iff.mp n.2.symm
    subst e1 e2
    exact Dp.tup (.inl (.inl n.1)) (.cons (TA.dp r1) (.cons (TB.dp r2) .nil))
  can t := by
    show ((TA.toD t.1).canLay0 && ((TB.toD t.2).canLay0 && true)) = true
    rw [TA.can, TB.can]
    rfl
  dep t := by
    show max (TA.toD t.1).depth (max (TB.toD t.2).depth 0) + 1 ≤ _
    have h1 := TA.dep t.1
    have h2 := TB.dep t.2
    omega
  same s t := by
    show (PyData.eqv (TA.toD s.1) (TA.toD t.1) && (PyData.eqv (TB.toD s.2) (TB.toD t.2) && true)) = true ↔ s = t
    rw [Bool.and_true, Bool.and_eq_true, TA.same, TB.same, Prod.ext_iff]
def eqD {α : Type} [PT : PyTy α] [T : DatI α] [DecidableEq α] (x y : α) : Option Bool := some (decide (x = y))
def neD {α : Type} [PT : PyTy α] [T : DatI α] [DecidableEq α] (x y : α) : Option Bool := some (!decide (x = y))
def inL {α : Type} [DecidableEq α] (x : α) (l : List α) : Option Bool := some (decide (x ∈ l))
def ninL {α : Type} [DecidableEq α] (x : α) (l : List α) : Option Bool := some (!decide (x ∈ l))
theorem inV_dec {α : Type} [PT : PyTy α] [T : ScalE α] (x : α) (l : List α) : inV (T.val x) (l.map T.val) = decide (x ∈ l) := by
  unfold inV
  induction l with
  | nil => rfl
  | cons a l ih =>
    rw [List.map_cons, List.any_cons, ih, T.eqv]
    by_cases h : a = x
    · simp [h]
    · have h' : ¬ x = a := fun z => h z.symm
      simp [h, h']
theorem all_flat {α : Type} [PT : PyTy α] [T : ScalE α] (l : List α) : (l.map T.val).all flatV = true := by
  rw [List.all_map]
  exact List.all_eq_true.mpr fun a _ => T.fl a
theorem o_ninL {α : Type} [PT : PyTy α] [T : ScalE α] : Op2 K (rIn K true) (ninL (α := α)) 0 := fun H x y a b c Q ra rb e q => by
  cases e
  obtain ⟨p, rfl, hp, _⟩ := rep_list rb
  rw [rep_scal ra]
  refine ⟨p, _, rfl, .inl (.inl (.inl hp)), T.fl a, all_flat b, ?_⟩
  rw [if_pos rfl, inV_dec]
  exact q _ H (New.scal (α := Bool))
def rOne (r : List V → Hp → VK → Prop) : V → Hp → VK → Prop := fun x H Q => r [x] H Q
def rLen (K : PySem.W.Frag) : List V → Hp → VK → Prop := fun xs H Q => ∃ p ys, xs = [.ref p] ∧ (SqL K H p ys ∨ SqT K H p ys) ∧ Q (.int ys.length) H
def lenL {α : Type} (l : List α) : Option Int := some (l.length : Int)
theorem o_lenL {α : Type} [T : PyTy α] : Op1 K (rOne (rLen K)) (lenL (α := α)) 0 := fun H x a c Q ⟨p, xs, F', e, n, z, r⟩ ec q => by
  cases ec
  subst e
  refine ⟨p, xs, rfl, .inl (.inl (.inl n.1)), ?_⟩
  rw [r.len]
  exact q _ H (New.scal (α := Int))
def lenScr (s : Scr) : Option Int := some (s.l.length : Int)
theorem o_lenScr : Op1 K (rOne (rLen K)) lenScr 0 := fun H x a c Q ⟨_, p, e, h⟩ ec q => by
  cases ec
  subst e
  refine ⟨p, _, rfl, .inl h, ?_⟩
  rw [List.length_map]
  exact q _ H (New.scal (α := Int))
def ixL {α : Type} (l : List α) (i : Int) : Option α := if 0 ≤ i then l[i.toNat]? else if 0 ≤ i + l.length then l[(i + l.length).toNat]? else none
theorem ixL_at {α : Type} {r : V → α → List Addr → Prop} {vs : List V} {l : List α} {i : Int} {a : α} (h : Reps r vs l []) (e : ixL l i = some a) : ∃ v, atI vs i = some v ∧ r v a [] := by
  have hl := h.len
  unfold ixL at e
  unfold atI ixN
  by_cases h0 : 0 ≤ i
  · rw [if_pos h0] at e ⊢
    obtain ⟨v, e1, r1⟩ := h.get' e
    obtain ⟨h1, _⟩ := List.getElem?_eq_some_iff.mp e1
    rw [if_pos (by omega)]
    exact ⟨v, e1, r1⟩
  · rw [if_neg h0] at e ⊢
    split at e
    · rename_i h2
      rw [if_pos (by omega)]
      obtain ⟨v, e1, r1⟩ := h.get' e
      rw [← hl] at e1
      exact ⟨v, e1, r1⟩
    · cases e
end
theorem TL_zero {K : PySem.W.Frag} {α : Type} [T : PyTy α] {S H : Hp} {v : V} {a : α} {F : List Addr} (h : got K (lv 0) a S H v F) : T.rep K 0 S H v a [] := PyTy.froz h H
section
variable {X : Cx} {W : Hp → String → Prop} {ρ : Type} {sl : ρ → List Slot} {ms : List Mode} {a b c e : Expr} {pos : Pos}
variable {α β γ : Type} [TA : PyTy α] [TB : PyTy β] [TC : PyTy γ]
/-- an item of a shared list is shared; of one that is looked at, it is looked at -/
theorem pv_ix {f : ρ → M (List α)} {g : ρ → M Int} {kb : Mode} (ha : PE X a (tP X.K W sl ms f (lv 0))) (hb : PE X b (tP X.K W sl ms g kb)) (hs : PlainIx b := by exact fun _ _ => rfl) (hkb : kb ≠ .un := by decide) : PE X (.Subscript a b pos) (tP X.K W sl ms (e2 ixL f g) (lv 0)) :=
  PE.conv (pe_ix ix_list ha hb hs) fun σ H Q ⟨r, S, hs, hv, he⟩ => by
    refine two (R := fun x y H2 => rIxL X.K x y H2 Q) ha hb hs hv ?_
    refine ends_mono (ends_bind he) (fun l el q => ends_mono (ends_bind q) (fun i ei q v u S2 H2 F1 F2 x g1 g2 => ?_) fun c q => q) fun c q => q
    obtain ⟨z, ez, q⟩ := up_ends q
    obtain ⟨p, xs, F', e1, n, z1, r1⟩ := TL_zero g1
    have e3 : F' = [] := n.2.symm
    subst e3
    obtain ⟨v1, at1, r2⟩ := ixL_at r1 ez
    have hi := rep_scal (g2.look x.sh hkb)
    refine ⟨p, xs, i, v1, e1, hi, .inl (.inl (x.sh _ _ n.1)), at1, q v1 _ H2 [] (x.share fun p hp => (List.mem_append.mp hp).elim (g2.here p) (g1.here p)) ?_⟩
    exact TA.mono r2 (add_sub fun p hp => (x.fr p hp).2) fun p hp => nomatch hp
theorem pv_ixW {f : ρ → M (List α)} {g : ρ → M Int} {ka kb : Mode} (ha : PE X a (tP X.K W sl ms f ka)) (hb : PE X b (tP X.K W sl ms g kb)) (hs : PlainIx b := by exact fun _ _ => rfl) (hka : ka ≠ .un := by decide) (hkb : kb ≠ .un := by decide) : PE X (.Subscript a b pos) (tP X.K W sl ms (e2 ixL f g) .vw) :=
  PE.conv (pe_ix ix_list ha hb hs) fun σ H Q ⟨r, S, hs, hv, he⟩ => by
    refine two (R := fun x y H2 => rIxL X.K x y H2 Q) ha hb hs hv ?_
    refine ends_mono (ends_bind he) (fun l el q => ends_mono (ends_bind q) (fun i ei q v u S2 H2 F1 F2 x g1 g2 => ?_) fun c q => q) fun c q => q
    obtain ⟨z, ez, q⟩ := up_ends q
    obtain ⟨p, xs, F', e1, n, z1, r1⟩ := g1.look x.sh hka
    have e3 : F' = [] := n.2.symm
    subst e3
    obtain ⟨v1, at1, r2⟩ := ixL_at r1 ez
    have hi := rep_scal (g2.look x.sh hkb)
    exact ⟨p, xs, i, v1, e1, hi, .inl (.inl n.1), at1, q v1 _ H2 [] (x.share fun p hp => (List.mem_append.mp hp).elim (g2.here p) (g1.here p)) ⟨rfl, r2⟩⟩
end
end VL
namespace VL
open PySem PySem.Spec PyProof.Rows L2
def setAll : L2.St → List Nat → List V → L2.St
  | σ, i :: is, v :: vs => setAll (σ.set i (some v)) is vs
  | σ, _, _ => σ
def setSlots : List Slot → List Nat → List Slot → List Slot
  | l, i :: is, s :: ss => setSlots (l.set i s) is ss
  | l, _, _ => l
def setModes (ms : List Mode) (is : List Nat) (kd : Mode) : List Mode := is.foldl (fun ms i => ms.set i kd) ms
/-- the parts of an item, one by one -/
def Parts (K : PySem.W.Frag) (kd : Mode) (S H : Hp) : List Slot → List V → Prop
  | [], [] => True
  | s :: ss, v :: vs => viewA K kd s (some v) S H ∧ Parts K kd S H ss vs
  | _, _ => False
theorem Parts.mono {K : PySem.W.Frag} {kd : Mode} {S H S' H' : Hp} : ∀ {ss : List Slot} {vs : List V}, Parts K kd S H ss vs → Sub S S' → Sub H H' → Parts K kd S' H' ss vs
  | [], [], _, _, _ => trivial
  | _ :: _, _ :: _, ⟨h1, h2⟩, hs, hh => ⟨h1.mono hs hh, Parts.mono h2 hs hh⟩
  | [], _ :: _, h, _, _ => h.elim
  | _ :: _, [], h, _, _ => h.elim
theorem View.setAll {K : PySem.W.Frag} {kd : Mode} {S H : Hp} : ∀ {is : List Nat} {ss : List Slot} {vs : List V} {ms : List Mode} {l : List Slot} {σ : L2.St}, View K S H ms l σ → Parts K kd S H ss vs → is.length = ss.length → View K S H (setModes ms is kd) (setSlots l is ss) (VL.setAll σ is vs)
  | [], [], [], _, _, _, h, _, _ => h
  | i :: is, s :: ss, v :: vs, ms, l, σ, h, ⟨h1, h2⟩, e => View.setAll (is := is) (h.set (i := i) h1) h2 (by simpa using e)
  | [], _ :: _, _, _, _, _, _, _, e => by simp at e
  | _ :: _, [], _, _, _, _, _, _, e => by simp at e
  | [], [], _ :: _, _, _, _, _, h, _ => h.elim
  | _ :: _, _ :: _, [], _, _, _, _, h, _ => h.elim
def base (kd : Mode) (S H : Hp) : Hp := match kd with
  | .vw => H
  | .id _ => H
  | _ => S
theorem base_sub {kd : Mode} {S H : Hp} (h : Sub S H) : Sub (base kd S H) H := by
  cases kd with
  | vw => exact Sub.refl H
  | id _ => exact Sub.refl H
  | un => exact h
  | own k io => exact h
theorem base_mono {kd : Mode} {S H S' H' : Hp} (h : Sub S S') (h2 : Sub H H') : Sub (base kd S H) (base kd S' H') := by
  cases kd with
  | vw => exact h2
  | id _ => exact h2
  | un => exact h
  | own k io => exact h
theorem viewA.up {K : PySem.W.Frag} {kd : Mode} {s : Slot} {v : Option V} {S H H' : Hp} (h : viewA K kd s v S H) (q : Sub (base kd S H) H') : viewA K kd s v S H' := by
  cases kd with
  | vw => exact h.mono (Sub.refl S) q
  | id _ => exact h.mono (Sub.refl S) q
  | un => exact h
  | own k io => exact h
structure Goes (K : PySem.W.Frag) (J : It) (g : TG) (S0 H0 : Hp) (kd : Mode) {β : Type} (l : List β) (is : List Nat) (parts : β → List Slot) : Prop where
  stop : ∀ i H, l.length ≤ i → Sub (base kd S0 H0) H → J.stop i H
  go : ∀ i H, i < l.length → Sub (base kd S0 H0) H → J.go i H
  yld : ∀ i b H x H' (σ : L2.St) (Q : L2.St → Hp → Prop), l[i]? = some b → Sub (base kd S0 H0) H → J.yld i H x H' → (∀ vs, Sub H H' → Parts K kd S0 H' (parts b) vs → Q (setAll σ is vs) H') → g x σ H' Q
/-- the reading of a thing that is walked -/
def tW (K : PySem.W.Frag) (W : Hp → String → Prop) {ρ : Type} (sl : ρ → List Slot) (ms : List Mode) {β : Type} (f : ρ → M (List β)) (kd : Mode) (g : TG) (is : List Nat) (parts : β → List Slot) : TI := fun σ H R =>
  ∃ (r : ρ) (S : Hp), Sub S H ∧ View K S H ms (sl r) σ ∧ ends (f r) (fun l => ∀ J S' H', Ext S H S' H' [] → l.length ≤ line → Goes K J g S' H' kd l is parts → R J H') (fun c => ∀ H', Sub H H' → W H' c)
theorem PI.conv {X : Cx} {tg it : Expr} {t t' : TI} (h : PI X tg it t) (k : ∀ σ H R, t' σ H R → t σ H R) : PI X tg it t' := ⟨fun pins s σ H R I q => h.run pins s σ H R I (k σ H R q)⟩
def lcGo {ρ β γ : Type} (set : β → ρ → ρ) (t : ρ → M Bool) (e : ρ → M γ) (r : ρ) : List β → M (List γ)
  | [] => .ok []
  | b :: l => mute (t (set b r)) >>= fun k => if k then mute (e (set b r)) >>= fun y => lcGo set t e r l >>= fun ys => .ok (y :: ys) else lcGo set t e r l
def eLc {ρ β γ : Type} (xs : ρ → M (List β)) (set : β → ρ → ρ) (t : ρ → M Bool) (e : ρ → M γ) : ρ → M (List γ) := fun r => xs r >>= lcGo set t e r
theorem ends_mute {α : Type} {m : M α} {P : α → Prop} {E E' : String → Prop} (h : ends (mute m) P E) : ends m P E' := by
  cases m with
  | ok a => exact h
  | error e => exact h.elim
abbrev noW : Hp → String → Prop := fun _ _ => False
theorem wipe_in {σ : L2.St} {i : Nat} : ∀ {vs : List Nat}, i ∈ vs → (wipe σ vs)[i]? = if i < σ.length then some none else none
  | v :: vs, h => by
    unfold wipe
    by_cases hv : v = i
    · subst hv
      by_cases hl : v < σ.length
      · rw [if_pos hl, List.getElem?_set_self (by rw [wipe_length]; exact hl)]
      · rw [if_neg hl, List.getElem?_eq_none_iff]
        rw [List.length_set, wipe_length]
        omega
    · rw [List.getElem?_set_ne hv]
      exact wipe_in ((List.mem_cons.mp h).resolve_left fun z => hv z.symm)
theorem setAll_length : ∀ {is : List Nat} {vs : List V} {σ : L2.St}, (setAll σ is vs).length = σ.length
  | [], _, _ => by unfold setAll; rfl
  | _ :: _, [], _ => rfl
  | i :: is, v :: vs, σ => by
    unfold setAll
    rw [setAll_length, List.length_set]
theorem setAll_out {j : Nat} : ∀ {is : List Nat} {vs : List V} {σ : L2.St}, j ∉ is → (setAll σ is vs)[j]? = σ[j]?
  | [], _, _, _ => by unfold setAll; rfl
  | _ :: _, [], _, _ => rfl
  | i :: is, v :: vs, σ, h => by
    unfold setAll
    rw [setAll_out (fun z => h (List.mem_cons_of_mem _ z)), List.getElem?_set_ne (fun z => h (by rw [z]; exact List.mem_cons_self))]
theorem wipe_setAll {σ : L2.St} {vs is : List Nat} {xs : List V} (h : ∀ i ∈ is, i ∈ vs) : wipe (setAll (wipe σ vs) is xs) vs = wipe σ vs := by
  apply List.ext_getElem?
  intro j
  by_cases hj : j ∈ vs
  · rw [wipe_in hj, wipe_in hj, setAll_length, wipe_length]
  · rw [wipe_out hj, setAll_out (fun z => hj (h j z))]
def wipeM (ms : List Mode) : List Nat → List Mode
  | [] => ms
  | v :: vs => (wipeM ms vs).set v .un
theorem View.wipe {K : PySem.W.Frag} {S H : Hp} {ms : List Mode} {l : List Slot} {σ : L2.St} (h : View K S H ms l σ) : ∀ vs : List Nat, View K S H (wipeM ms vs) l (L2.wipe σ vs)
  | [] => h
  | v :: vs => by
    have ih := View.wipe h vs
    unfold wipeM L2.wipe
    by_cases hv : v < l.length
    · have e : l.set v l[v] = l := List.set_getElem_self hv
      have := View.set (i := v) (m := .un) (s := l[v]) (v := none) ih trivial
      rw [e] at this
      exact this
    · have e1 : (wipeM ms vs).set v .un = wipeM ms vs := List.set_eq_of_length_le (by have := ih.len; omega)
      have e2 : (L2.wipe σ vs).set v none = L2.wipe σ vs := List.set_eq_of_length_le (by have := ih.len; omega)
      rw [e1, e2]
      exact ih
section
variable {X : Cx} {W : Hp → String → Prop} {ρ : Type} {sl : ρ → List Slot} {ms : List Mode}
/-- tests of a comprehension -/
theorem ptsV_nil {K : PySem.W.Frag} : PTs X [] (tPT K W sl ms (fun _ => .ok true)) := by
  refine ⟨fun pins s σ H Q I h => pts_nil.run pins s σ H Q I ?_⟩
  obtain ⟨r, S, hs, hv, he⟩ := h
  exact he S H (Ext.refl hs)
theorem ptsV_one {K : PySem.W.Frag} {c : Expr} {f : ρ → M Bool} (h : PT X c (tPT K W sl ms f)) : PTs X [c] (tPT K W sl ms f) := pts_one h
theorem lc_read {K : PySem.W.Frag} {β γ : Type} [TC : PyTy γ] {g : TG} {f : ρ → M (List β)} {kd : Mode} {is vs : List Nat} {parts : β → List Slot} {set : β → ρ → ρ} {t : ρ → M Bool} {e : ρ → M γ} {k : Nat}
    (hset : ∀ b r, sl (set b r) = setSlots (sl r) is (parts b)) (hpl : ∀ b, is.length = (parts b).length) (hin : ∀ i ∈ is, i ∈ vs) {σ : L2.St} {H : Hp} {Q : VK} (hq : tP K W sl ms (eLc f set t e) (lv (k + 1)) σ H Q) :
    tLc (tW K W sl ms f kd g is parts) g (tPT K noW sl (setModes (wipeM ms vs) is kd) t) (tP K noW sl (setModes (wipeM ms vs) is kd) e (lv k)) vs σ H Q := by
    obtain ⟨r, S, hs, hv, hh⟩ := hq
    refine ⟨r, S, hs, hv, ends_mono (ends_bind hh) (fun l el q J S1 H1 x1 hl G D hD => ?_) fun c q => q⟩
    refine ⟨fun i m H2 => m = l.length - i ∧ i ≤ l.length ∧ ∃ (S2 : Hp) (F : List Addr) (acc : List V) (dn : List γ), Ext S1 H1 S2 H2 F ∧ D ∉ F ∧ S2 D = none ∧ H2 D = some (.lst acc) ∧ acc.length ≤ i ∧ Reps (fun v a F => TC.rep K k S2 H2 v a F) acc dn F ∧
      ends (lcGo set t e r (l.drop i)) (fun rest => ∀ v S' H' F, Ext S H S' H' F → got K (lv (k + 1)) (dn ++ rest) S' H' v F → Q v H') (fun _ => False), ⟨l.length, by simp, Nat.zero_le _, S1, [], [], [], ?_, (fun z => nomatch z), x1.sh.back hD, upd_same, Nat.le_refl _, rfl, ?_⟩, ?_⟩
    · exact ⟨Sub.new hD, Sub.refl S1, x1.sh.trans (Sub.new hD), fun p q => .inl q, (fun p hp => nomatch hp), List.nodup_nil⟩
    · rw [List.drop_zero]
      have no : ∀ l c, lcGo set t e r l ≠ .error (.exc c) := by
        intro l c
        induction l with
        | nil => exact fun z => nomatch z
        | cons b l ih =>
          unfold lcGo
          cases e1 : t (set b r) with
          | error z => exact fun z => nomatch z
          | ok d =>
            show (if d = true then _ else _) ≠ _
            cases d with
            | false => exact ih
            | true =>
              rw [if_pos rfl]
              cases e2 : e (set b r) with
              | error z => exact fun z => nomatch z
              | ok y =>
                show (lcGo set t e r l >>= fun ys => Except.ok (y :: ys)) ≠ _
                cases e3 : lcGo set t e r l with
                | ok ys => exact fun z => nomatch z
                | error z =>
                  intro h
                  have h2 : (Except.error z : M (List γ)) = .error (.exc c) := h
                  rw [← e3] at h2
                  exact ih h2
      cases e1 : lcGo set t e r l with
      | ok a => rw [e1] at q; exact q
      | error z => cases z with
        | stuck => rw [e1] at q; exact q
        | exc c => exact absurd e1 (no l c)
    · rintro i m H2 ⟨rfl, hi, S2, F, acc, dn, x2, hDF, hS2, hD2, hacc, hr, hend⟩
      have sub12 : Sub H1 H2 := x2.hh
      have hlF : ∀ p ∈ F, H2 p ≠ none := hr.here fun v a F' q => TC.here q
      by_cases hlt : i < l.length
      · refine .inr ⟨G.go i H2 hlt ((base_sub x1.sh).trans sub12), fun H3 => ∃ m', m' < l.length - i ∧ (m' = l.length - (i + 1) ∧ i + 1 ≤ l.length ∧ ∃ (S2 : Hp) (F : List Addr) (acc : List V) (dn : List γ), Ext S1 H1 S2 H3 F ∧ D ∉ F ∧ S2 D = none ∧ H3 D = some (.lst acc) ∧ acc.length ≤ i + 1 ∧ Reps (fun v a F => TC.rep K k S2 H3 v a F) acc dn F ∧
          ends (lcGo set t e r (l.drop (i + 1))) (fun rest => ∀ v S' H' F, Ext S H S' H' F → got K (lv (k + 1)) (dn ++ rest) S' H' v F → Q v H') (fun _ => False)), fun H3 h => h, fun x H3 hy => ?_⟩
        have el : l[i]? = some l[i] := List.getElem?_eq_getElem hlt
        refine G.yld i l[i] H2 x H3 _ _ el ((base_sub x1.sh).trans sub12) hy fun ws s23 pt => ⟨wipe_setAll hin, ?_⟩
        have ed : l.drop i = l[i] :: l.drop (i + 1) := List.drop_eq_getElem_cons hlt
        rw [ed] at hend
        have hv3 : View K S2 H3 (setModes (wipeM ms vs) is kd) (sl (set l[i] r)) (setAll (L2.wipe σ vs) is ws) := by
          rw [hset]
          exact View.setAll ((hv.wipe _).mono (x1.ss.trans x2.ss) (x1.hh.trans (sub12.trans s23))) (pt.mono x2.ss (Sub.refl H3)) (hpl _)
        have x3 : Ext S1 H1 S2 H3 F := ⟨sub12.trans s23, x2.ss, x2.sh.trans s23, x2.nw, x2.fr, x2.nd⟩
        refine ⟨set l[i] r, S2, x2.sh.trans s23, hv3, ends_mute (E := fun _ => False) (ends_mono (ends_bind hend) (fun d ed q S4 H4 x4 => ?_) fun c q => q)⟩
        cases d with
        | false =>
          rw [if_neg (by decide)]
          refine ⟨l.length - (i + 1), by omega, rfl, by omega, S4, F, acc, dn, ?_, hDF, ?_, x4.hh _ _ (s23 _ _ hD2), by omega, ?_, q⟩
          · have := x3.trans x4 (fun p hp => by rw [s23.at (hlF p hp)]; exact hlF p hp)
            simpa using this
          · cases z : S4 D with
            | none => rfl
            | some o =>
              rcases x4.nw D (by rw [z]; exact fun z => nomatch z) with y | y
              · exact absurd hS2 y
              · rw [s23 _ _ hD2] at y; cases y
          · exact hr.imp fun v a F' hf q => TC.mono q x4.ss fun p hp => (s23.trans x4.hh).at (hlF p (hf p hp))
        | true =>
          rw [if_pos rfl]
          refine ⟨set l[i] r, S4, x4.sh, hv3.mono x4.ss x4.hh, ends_mute (E := fun _ => False) (ends_mono (ends_bind q) (fun y ey q v S5 H5 F5 x5 g5 => ?_) fun c q => q)⟩
          have hD5 : H5 D = some (.lst acc) := x5.hh _ _ (x4.hh _ _ (s23 _ _ hD2))
          have hS5 : S5 D = none := by
            cases z : S5 D with
            | none => rfl
            | some o =>
              rcases x5.nw D (by rw [z]; exact fun z => nomatch z) with y | y
              · rcases x4.nw D y with y | y
                · exact absurd hS2 y
                · rw [s23 _ _ hD2] at y; cases y
              · rw [x4.hh _ _ (s23 _ _ hD2)] at y; cases y
          have h24 : ∀ p ∈ F, H4 p ≠ none := fun p hp => by rw [(s23.trans x4.hh).at (hlF p hp)]; exact hlF p hp
          have x34 : Ext S1 H1 S4 H4 F := by
            have := x3.trans x4 (fun p hp => by rw [s23.at (hlF p hp)]; exact hlF p hp)
            simpa using this
          have x35 := (x34.trans x5 h24).perm List.perm_append_comm
          have hDF5 : D ∉ F5 := fun z => by
            have := (x5.fr D z).1
            rw [x4.hh _ _ (s23 _ _ hD2)] at this; cases this
          refine ⟨acc, hD5, by show acc.length < line; omega, l.length - (i + 1), by omega, rfl, by omega, S5, F ++ F5, acc ++ [v], dn ++ [y], ?_, ?_, hS5, upd_same, ?_, ?_, ?_⟩
          · refine ⟨fun p o q => ?_, x35.ss, fun p o q => ?_, x35.nw, x35.fr, x35.nd⟩
            · rw [upd_ne (ne_of_none q hD)]
              exact x35.hh p o q
            · rw [upd_ne (ne_of_none q hS5)]
              exact x35.sh p o q
          · intro z
            exact (List.mem_append.mp z).elim hDF hDF5
          · rw [List.length_append]
            show acc.length + 1 ≤ i + 1
            omega
          · have h45 : ∀ p ∈ F, H5 p = H2 p := fun p hp => ((s23.trans x4.hh).trans x5.hh).at (hlF p hp)
            have r1 : Reps (fun u a F => TC.rep K k S5 (upd H5 D (.lst (acc ++ [v]))) u a F) acc dn F := hr.imp fun w a F' hf q => TC.mono q (x4.ss.trans x5.ss) fun p hp => by
              rw [upd_ne (fun z => hDF (by rw [← z]; exact hf p hp))]
              exact h45 p (hf p hp)
            have r2 : TC.rep K k S5 (upd H5 D (.lst (acc ++ [v]))) v y F5 := TC.mono g5 (Sub.refl S5) fun p hp => upd_ne (fun z => hDF5 (by rw [← z]; exact hp))
            have := r1.append (ws := [v]) (bs := [y]) (G := F5) ⟨F5, [], (List.append_nil _).symm, r2, rfl⟩
            exact this
          · refine ends_mono (ends_bind q) (fun ys eys q => ?_) fun c q => q
            rw [List.append_assoc]
            exact q
      · have ei : i = l.length := by omega
        refine .inl ⟨G.stop i H2 (by omega) ((base_sub x1.sh).trans sub12), ?_⟩
        rw [show l.drop i = [] from List.drop_eq_nil_iff.mpr (by omega)] at hend
        have q : ∀ v S' H' F, Ext S H S' H' F → got K (lv (k + 1)) (dn ++ []) S' H' v F → Q v H' := hend
        rw [List.append_nil] at q
        refine q (.ref D) S2 H2 (D :: F) ?_ ⟨D, acc, F, rfl, ⟨hD2, rfl⟩, by omega, hr⟩
        have := x1.trans x2 (fun p hp => nomatch hp)
        rw [List.append_nil] at this
        exact ⟨this.hh, this.ss, this.sh, this.nw, fun p hp => by
          rcases List.mem_cons.mp hp with e | hp
          · rw [e]
            exact ⟨x1.hh.back hD, hS2⟩
          · exact this.fr p hp, List.nodup_cons.mpr ⟨hDF, this.nd⟩⟩
theorem pv_lc {β γ : Type} [TC : PyTy γ] {elt tg iter : Expr} {ifs : List Expr} {scope : Scope} {own : List (Str × Nat)} {pos : Pos} {g : TG} {f : ρ → M (List β)} {kd : Mode} {is : List Nat} {parts : β → List Slot} {set : β → ρ → ρ} {t : ρ → M Bool} {e : ρ → M γ} {k : Nat} (hc : X.calm = true) (hN : X.N.Nodup)
    (hi : PI X tg iter (tW X.K W sl ms f kd g is parts)) (ok : BlkOk X.N X.env.scope scope own)
    (hg : ∀ (s : Shared) (H : Hp) (C : Addr) (cl : List (Str × Addr)) (fp : List Addr), PG (X.blk s H scope (compEnvC scope cl C X.env) fp) tg g)
    (ht : ∀ (s : Shared) (H : Hp) (C : Addr) (cl : List (Str × Addr)) (fp : List Addr), PTs (X.blk s H scope (compEnvC scope cl C X.env) fp) ifs (tPT X.K noW sl (setModes (wipeM ms (own.map (·.2))) is kd) t))
    (he : ∀ (s : Shared) (H : Hp) (C : Addr) (cl : List (Str × Addr)) (fp : List Addr), PE (X.blk s H scope (compEnvC scope cl C X.env) fp) elt (tP X.K noW sl (setModes (wipeM ms (own.map (·.2))) is kd) e (lv k)))
    (hset : ∀ b r, sl (set b r) = setSlots (sl r) is (parts b)) (hpl : ∀ b, is.length = (parts b).length) (hin : ∀ i ∈ is, i ∈ own.map (·.2)) (hs : ∀ x, foldedSetIterable iter X.env x = pure x := by intro _; rfl) :
    PE X (.ListComp elt [⟨tg, iter, ifs, 0⟩] scope pos) (tP X.K W sl ms (eLc f set t e) (lv (k + 1))) := PE.conv (pe_lc hc hN hi ok hg ht he hs) fun σ H Q q => lc_read hset hpl hin q
end
end VL
namespace VL
open PySem PySem.Spec PyProof.Rows L2
structure ListOk (K : PySem.W.Frag) (kd : Mode) (S H : Hp) (a : Addr) (xs : List V) {α : Type} [PyTy α] (l : List α) : Prop where
  node : base kd S H a = some (.lst xs)
  len : xs.length = l.length
  item : ∀ (i : Nat) (b : α), l[i]? = some b → ∃ v, xs[i]? = some v ∧ viewA K kd ⟨b⟩ (some v) S H
theorem listOk {K : PySem.W.Frag} {kd : Mode} {α : Type} [T : PyTy α] {l : List α} {S H : Hp} {v : V} {F : List Addr} (h : got K kd l S H v F) (hs : Sub S H) (hk : kd = lv 0 ∨ kd = .vw) : ∃ a xs, v = .ref a ∧ ListOk K kd S H a xs l ∧ l.length ≤ line := by
  rcases hk with e | e
  · subst e
    obtain ⟨p, xs, F', e1, n, z, r⟩ := TL_zero h
    have e3 : F' = [] := n.2.symm
    subst e3
    exact ⟨p, xs, e1, ⟨n.1, r.len, fun i b hb => let ⟨v, e, q⟩ := r.get' hb; ⟨v, e, v, rfl, PyTy.froz q S⟩⟩, by rw [← r.len]; exact z⟩
  · subst e
    obtain ⟨p, xs, F', e1, n, z, r⟩ := h.2
    have e3 : F' = [] := n.2.symm
    subst e3
    exact ⟨p, xs, e1, ⟨n.1, r.len, fun i b hb => let ⟨v, e, q⟩ := r.get' hb; ⟨v, e, v, rfl, q⟩⟩, by rw [← r.len]; exact z⟩
theorem ListOk.mono {K : PySem.W.Frag} {kd : Mode} {S H S' H' : Hp} {a : Addr} {xs : List V} {α : Type} [PyTy α] {l : List α} (h : ListOk K kd S H a xs l) (hs : Sub S S') (hh : Sub H H') : ListOk K kd S' H' a xs l :=
  ⟨base_mono hs hh _ _ h.node, h.len, fun i b hb => let ⟨v, e, r⟩ := h.item i b hb; ⟨v, e, r.mono hs hh⟩⟩
theorem ListOk.at {K : PySem.W.Frag} {kd : Mode} {S H : Hp} {a : Addr} {xs : List V} {α : Type} [PyTy α] {l : List α} (h : ListOk K kd S H a xs l) (hs : Sub S H) : H a = some (.lst xs) := base_sub hs _ _ h.node
abbrev gPair (K : PySem.W.Frag) (i j : Nat) : TG := gTup K 2 (gCons (gName i) (gCons (gName j) gNil))
section
variable {K : PySem.W.Frag} {kd : Mode} {S H : Hp} {a : Addr} {xs : List V} {α β : Type} [TA : PyTy α] [TB : PyTy β]
theorem goes_list {l : List α} {i : Nat} (h : ListOk K kd S H a xs l) : Goes K (Itl K a) (gName i) S H kd l [i] (fun b => [⟨b⟩]) where
  stop j H2 hj s := ⟨xs, .inl (.inl (s _ _ h.node)), by rw [h.len]; exact hj⟩
  go j H2 hj s := ⟨xs, xs[j]'(by rw [h.len]; exact hj), .inl (.inl (s _ _ h.node)), List.getElem?_eq_getElem _⟩
  yld j b H2 x H3 σ Q eb s hy q := by
    obtain ⟨e, hx⟩ := hy
    subst e
    obtain ⟨v, ev, r⟩ := h.item j b eb
    have e2 := hx xs (.inl (.inl (s _ _ h.node)))
    rw [ev] at e2
    cases e2
    exact q [x] (Sub.refl _) ⟨r.up s, trivial⟩
/-- enumerate -/
def enumF {α : Type} : Int → List α → List (Int × α)
  | _, [] => []
  | k, a :: l => (k, a) :: enumF (k + 1) l
theorem enumF_get {α : Type} : ∀ {l : List α} {k : Int} {i : Nat}, (enumF k l)[i]? = l[i]?.map fun a => (k + i, a)
  | [], _, _ => rfl
  | a :: l, k, 0 => by
    show some (k, a) = some (k + 0, a)
    rw [Int.add_zero]
  | a :: l, k, i + 1 => by
    show (enumF (k + 1) l)[i]? = l[i]?.map fun a => (k + ((i + 1 : Nat) : Int), a)
    rw [enumF_get]
    congr 1
    funext x
    rw [Int.natCast_add]
    congr 1
    show k + 1 + (i : Int) = k + ((i : Int) + 1)
    omega
theorem enumF_len {α : Type} : ∀ {l : List α} {k : Int}, (enumF k l).length = l.length
  | [], _ => rfl
  | _ :: l, k => by
    show (enumF (k + 1) l).length + 1 = l.length + 1
    rw [enumF_len]
theorem viewI {K : PySem.W.Frag} {kd : Mode} {S H : Hp} {i : Int} : viewA K kd ⟨i⟩ (some (.int i)) S H := by
  cases kd with
  | un => trivial
  | vw => exact ⟨_, rfl, rfl, rfl⟩
  | id _ => exact ⟨_, rfl, rfl, rfl⟩
  | own k io => exact ⟨_, rfl, rfl, rfl⟩
theorem goes_enum {l : List α} {i j : Nat} (h : ListOk K kd S H a xs l) : Goes K (Ite K a) (gPair K i j) S H kd (enumF 0 l) [i, j] (fun b => [⟨b.1⟩, ⟨b.2⟩]) where
  stop j H2 hj s := ⟨xs, .inl (.inl (s _ _ h.node)), by rw [h.len]; rw [enumF_len] at hj; exact hj⟩
  go j H2 hj s := ⟨xs, xs[j]'(by rw [h.len]; rw [enumF_len] at hj; exact hj), .inl (.inl (s _ _ h.node)), List.getElem?_eq_getElem _⟩
  yld m b H2 x H3 σ Q eb s hy q := by
    obtain ⟨T, y, e1, hT, e2, hx⟩ := hy
    subst e1 e2
    rw [enumF_get] at eb
    obtain ⟨b2, eb2, eb3⟩ := Option.map_eq_some_iff.mp eb
    subst eb3
    obtain ⟨v, ev, r⟩ := h.item m b2 eb2
    have e2 := hx xs (.inl (.inl (s _ _ h.node)))
    rw [ev] at e2
    cases e2
    refine ⟨T, [.int (m : Nat), y], rfl, .inl (.inl upd_same), rfl, .int (m : Nat), [y], rfl, y, [], rfl, rfl, q [.int (m : Nat), y] (Sub.new hT) ⟨?_, (r.up s).mono (Sub.refl S) (Sub.new hT), trivial⟩⟩
    have := viewI (K := K) (kd := kd) (S := S) (H := upd H2 T (.tup [.int (m : Nat), y])) (i := 0 + (m : Int))
    rw [Int.zero_add] at this ⊢
    exact this
@[irreducible] def rng (a b : Int) : Option (List Int) := if -(2 ^ 62) ≤ a ∧ a < 2 ^ 62 ∧ -(2 ^ 62) ≤ b ∧ b < 2 ^ 62 ∧ b - a ≤ 2 ^ 24 then some ((List.range (b - a).toNat).map fun (k : Nat) => a + (k : Int)) else none
def rng1 (b : Int) : Option (List Int) := rng 0 b
theorem goes_rng {lo : Int} {n : Nat} {i : Nat} : Goes K (Itr lo n) (gName i) S H kd ((List.range n).map fun (k : Nat) => lo + (k : Int)) [i] (fun b => [⟨b⟩]) where
  stop j H2 hj s := by
    rw [List.length_map, List.length_range] at hj
    exact hj
  go j H2 hj s := by
    rw [List.length_map, List.length_range] at hj
    exact hj
  yld m b H2 x H3 σ Q eb s hy q := by
    obtain ⟨e, hx⟩ := hy
    subst e hx
    obtain ⟨k, ek, e2⟩ := Option.map_eq_some_iff.mp (by rw [List.getElem?_map] at eb; exact eb)
    obtain ⟨h1, h2⟩ := List.getElem?_eq_some_iff.mp ek
    rw [List.getElem_range] at h2
    subst h2 e2
    exact q [.int (lo + (m : Int))] (Sub.refl _) ⟨viewI, trivial⟩
end
section
variable {X : Cx} {W : Hp → String → Prop} {ρ : Type} {sl : ρ → List Slot} {ms : List Mode} {a b e tg : Expr} {pos p tpos : Pos} {kd : Mode}
variable {α β : Type} [TA : PyTy α] [TB : PyTy β]
theorem pw_list {i : Nat} {f : ρ → M (List α)} (h : PE X e (tP X.K W sl ms f kd)) (hk : kd = lv 0 ∨ kd = .vw := by first | exact Or.inl rfl | exact Or.inr rfl) : PI X tg e (tW X.K W sl ms f kd (gName i) [i] (fun b => [⟨b⟩])) :=
  PI.conv (pi_list h) fun σ H R ⟨r, S, hs, hv, he⟩ => ⟨r, S, hs, hv, ends_mono he (fun l el q v S1 H1 F x g => by
    obtain ⟨a, xs, e1, lo, hl⟩ := listOk g x.sh hk
    refine ⟨a, e1, ⟨xs, .inl (.inl (lo.at x.sh))⟩, q _ (add S1 H1 F) H1 (x.share g.here) hl (goes_list (lo.mono (add_sub fun p hp => (x.fr p hp).2) (Sub.refl _)))⟩) fun c q => q⟩
def eEnum {ρ α : Type} (f : ρ → M (List α)) : ρ → M (List (Int × α)) := fun r => f r >>= fun l => .ok (enumF 0 l)
theorem pw_enum {i j : Nat} {elts : List Expr} {kk : Nat} {f : ρ → M (List α)} (hg : Gl X "enumerate") (hm : X.mg "enumerate" = none) (h : PE X e (tP X.K W sl ms f kd)) (hk : kd = lv 0 ∨ kd = .vw := by first | exact Or.inl rfl | exact Or.inr rfl)
    (hs : starEach [e] X.env = [(false, eval e X.env)] := by rfl) (hs2 : starEach [e] X.env = (false, eval e X.env) :: starEach [] X.env := by rfl) : PI X (.Tuple elts kk tpos) (.Call (.Name "enumerate" p) [e] [] pos) (tW X.K W sl ms (eEnum f) kd (gPair X.K i j) [i, j] (fun b => [⟨b.1⟩, ⟨b.2⟩])) :=
  PI.conv (pi_enum hg hm (pa_cons h pa_nil hs2) hs) fun σ H R ⟨r, S, hs, hv, he⟩ => ⟨r, S, hs, hv, ends_mono (ends_bind he) (fun l el q v S1 H1 F x g => by
    obtain ⟨a, xs, e1, lo, hl⟩ := listOk g x.sh hk
    subst e1
    refine ⟨a, xs, rfl, .inl (.inl (lo.at x.sh)), q _ (add S1 H1 F) H1 (x.share g.here) (by rw [enumF_len]; exact hl) (goes_enum (lo.mono (add_sub fun p hp => (x.fr p hp).2) (Sub.refl _)))⟩) fun c q => q⟩
def eZip {ρ α β : Type} (f : ρ → M (List α)) (g : ρ → M (List β)) : ρ → M (List (α × β)) := fun r => f r >>= fun l => g r >>= fun m => .ok (l.zip m)
def eRev {ρ α : Type} (f : ρ → M (List α)) : ρ → M (List α) := fun r => f r >>= fun l => .ok l.reverse
theorem rng_len {a b : Int} {l : List Int} (h : rng a b = some l) : l.length ≤ line ∧ -(2 ^ 62) ≤ a ∧ a < 2 ^ 62 ∧ -(2 ^ 62) ≤ b ∧ b < 2 ^ 62 ∧ l = (List.range (b - a).toNat).map fun (k : Nat) => a + (k : Int) := by
  unfold rng at h
  split at h
  · rename_i hh
    cases h
    refine ⟨?_, hh.1, hh.2.1, hh.2.2.1, hh.2.2.2.1, rfl⟩
    rw [List.length_map, List.length_range]
    show _ ≤ 2 ^ 24
    omega
  · cases h
theorem pw_rng1 {i : Nat} {f : ρ → M Int} {ka : Mode} (hg : Gl X "range") (hm : X.mg "range" = none) (h : PE X e (tP X.K W sl ms f ka)) (hka : ka ≠ .un := by decide)
    (hs : starEach [e] X.env = [(false, eval e X.env)] := by rfl) (hs2 : starEach [e] X.env = (false, eval e X.env) :: starEach [] X.env := by rfl) : PI X tg (.Call (.Name "range" p) [e] [] pos) (tW X.K W sl ms (e1 rng1 f) (lv 0) (gName i) [i] (fun b => [⟨b⟩])) :=
  PI.conv (pi_range1 hg hm (pa_cons h pa_nil hs2) hs) fun σ H R ⟨r, S, hs, hv, he⟩ => ⟨r, S, hs, hv, ends_mono (ends_bind he) (fun n en q v S1 H1 F x g => by
    obtain ⟨l, el, q⟩ := up_ends q
    have hn := rep_scal (g.look x.sh hka)
    obtain ⟨hl, h1, h2, h3, h4, e⟩ := rng_len el
    subst e
    refine ⟨n, by rw [hn]; rfl, h3, h4, ?_⟩
    have := q (Itr 0 n.toNat) (add S1 H1 F) H1 (x.share g.here) hl
    rw [Int.sub_zero] at this
    exact this goes_rng) fun c q => q⟩
def tPL (K : PySem.W.Frag) (W : Hp → String → Prop) {ρ : Type} (sl : ρ → List Slot) (ms : List Mode) {α : Type} [T : PyTy α] (f : ρ → M (List α)) (k : Nat) : L2.TA := fun σ H Q =>
  ∃ (r : ρ) (S : Hp), Sub S H ∧ View K S H ms (sl r) σ ∧ ends (f r) (fun l => ∀ vs S' H' F, Ext S H S' H' F → Reps (fun v a F => T.rep K k S' H' v a F) vs l F → Q vs H') (fun c => ∀ H', Sub H H' → W H' c)
def eNil {ρ α : Type} : ρ → M (List α) := fun _ => .ok []
def eCons {ρ α : Type} (f : ρ → M α) (g : ρ → M (List α)) : ρ → M (List α) := fun r => f r >>= fun a => g r >>= fun l => .ok (a :: l)
def eLst {ρ α : Type} (f : ρ → M (List α)) : ρ → M (List α) := fun r => f r >>= fun l => if l.length ≤ line then .ok l else .error .stuck
theorem pl_nil {K : PySem.W.Frag} {k : Nat} : PA X [] (tPL K W sl ms (eNil (α := α)) k) := PA.conv pa_nil fun σ H Q ⟨r, S, hs, hv, he⟩ => he [] S H [] (Ext.refl hs) rfl
theorem pl_cons {K : PySem.W.Frag} {k : Nat} {es : List Expr} {f : ρ → M α} {g : ρ → M (List α)} (ha : PE X e (tP K W sl ms f (lv k))) (hr : PA X es (tPL K W sl ms g k)) (hs : starEach (e :: es) X.env = (false, eval e X.env) :: starEach es X.env := by rfl) : PA X (e :: es) (tPL K W sl ms (eCons f g) k) :=
  PA.conv (pa_cons ha hr hs) fun σ H Q ⟨r, S, hs, hv, he⟩ => ⟨r, S, hs, hv, ends_mono (ends_bind he) (fun a ea q v S1 H1 F1 x1 g1 => ⟨r, S1, x1.sh, hv.mono x1.ss x1.hh, ends_mono (ends_bind q) (fun l el q vs S2 H2 F2 x2 g2 => q (v :: vs) S2 H2 (F1 ++ F2) ((x1.trans x2 (TA.here g1)).perm List.perm_append_comm) ⟨F1, F2, rfl, g1.mono x2.ss x2.hh (TA.here g1), g2⟩) fun c q H2 h2 => q H2 (x1.hh.trans h2)⟩) fun c q => q⟩
theorem pv_lst {K : PySem.W.Frag} {k : Nat} {es : List Expr} {f : ρ → M (List α)} (h : PA X es (tPL K W sl ms f k)) : PE X (.List es pos) (tP K W sl ms (eLst f) (lv (k + 1))) :=
  PE.conv (pe_lst h) fun σ H Q ⟨r, S, hs, hv, he⟩ => ⟨r, S, hs, hv, ends_mono (ends_bind he) (fun l el q vs S1 H1 F x g => by
    split at q
    · rename_i hz
      refine ⟨by rw [g.len]; exact hz, fun p hp => ?_⟩
      have hlF : ∀ q ∈ F, H1 q ≠ none := g.here fun v a F' z => TA.here z
      have hpF : p ∉ F := fun z => hlF p z hp
      refine q (.ref p) S1 (upd H1 p (.lst vs)) (p :: F) ⟨x.hh.trans (Sub.new hp), x.ss, x.sh.trans (Sub.new hp), x.nw, fun q hq => ?_, List.nodup_cons.mpr ⟨hpF, x.nd⟩⟩ ⟨p, vs, F, rfl, ⟨upd_same, rfl⟩, by rw [g.len]; exact hz, g.imp fun v a F' hf z => TA.mono z (Sub.refl S1) fun q hq => upd_ne (fun e => hpF (by rw [← e]; exact hf q hq))⟩
      rcases List.mem_cons.mp hq with e | hq
      · rw [e]
        exact ⟨x.hh.back hp, x.sh.back hp⟩
      · exact x.fr q hq
    · exact q.elim) fun c q => q⟩
/-- [] -/
theorem pv_nil {K : PySem.W.Frag} {k : Nat} : PE X (.List [] pos) (tP K W sl ms (e0 ([] : List α)) (lv (k + 1))) :=
  PE.conv (pv_lst (pl_nil (α := α) (K := K) (k := k))) fun σ H Q h => h
def ePair {ρ α β : Type} (f : ρ → M α) (g : ρ → M β) : ρ → M (α × β) := fun r => f r >>= fun a => g r >>= fun b => .ok (a, b)
end
end VL
namespace VL
open PySem PySem.Spec PyProof.Rows L2
def tFunL (φV : List V → List V) (te : TE) : TE := fun σ H Q => te σ H fun x H1 => ∃ a xs, x = .ref a ∧ H1 a = some (.lst xs) ∧ ∀ p, H1 p = none → Q (.ref p) (upd H1 p (.lst (φV xs)))
def Nat1 {α : Type} (φV : List V → List V) (φ : List α → List α) : Prop := (∀ (r : V → α → List Addr → Prop) vs as, Reps r vs as [] → Reps r (φV vs) (φ as) []) ∧ (∀ l, (φV l).length ≤ l.length)
section
variable {X : Cx} {K : PySem.W.Frag} {W : Hp → String → Prop} {ρ : Type} {sl : ρ → List Slot} {ms : List Mode} {a b c e : Expr} {pos p tpos : Pos} {kd : Mode}
variable {α β γ : Type} [TA : PyTy α] [TB : PyTy β] [TC : PyTy γ]
/-- a new list at p, its items shared -/
theorem new_list {S1 H1 : Hp} {p : Addr} {xs : List V} {l : List α} (hs : Sub S1 H1) (hp : H1 p = none) (hz : xs.length ≤ line) (hr : ∀ H, Reps (fun v a F => TA.rep K 0 S1 H v a F) xs l []) : Ext S1 H1 S1 (upd H1 p (.lst xs)) [p] ∧ got K (lv 1) l S1 (upd H1 p (.lst xs)) (.ref p) [p] :=
  ⟨⟨Sub.new hp, Sub.refl S1, hs.trans (Sub.new hp), fun p q => .inl q, fun q hq => by rw [List.mem_singleton.mp hq]; exact ⟨hp, hs.back hp⟩, List.nodup_cons.mpr ⟨by simp, List.nodup_nil⟩⟩, p, xs, [], rfl, ⟨upd_same, rfl⟩, hz, hr _⟩
/-- .. of things without objects, whatever it was -/
theorem pv_funS [SA : Scal α] {φV : List V → List V} {φ : List α → List α} {f : ρ → M (List α)} (hn : Nat1 φV φ) (h : PE X e (tFunL φV (tP K W sl ms f kd))) (hk : kd ≠ .un := by decide) : PE X e (tP K W sl ms (e1 (fun l => some (φ l)) f) (lv 1)) :=
  PE.conv h fun σ H Q ⟨r, S, hs, hv, he⟩ => ⟨r, S, hs, hv, ends_mono (ends_bind he) (fun l el q v S1 H1 F x g => by
    obtain ⟨p, e1, n, z⟩ := rep_list (g.look x.sh hk)
    refine ⟨p, _, e1, n, fun p hp => ?_⟩
    have x0 := x.share g.here
    obtain ⟨x2, g2⟩ := new_list (K := K) (l := φ l) x0.sh hp (Nat.le_trans (hn.2 (l.map SA.val)) (by rw [List.length_map]; exact z)) fun H => hn.1 _ _ _ scal_reps
    have := x0.trans x2 (fun p hp => nomatch hp)
    exact q _ _ _ _ this g2) fun c q => q⟩
theorem nat_id : Nat1 (α := α) (fun l => l) (fun l => l) := ⟨fun _ _ _ h => h, fun _ => Nat.le_refl _⟩
theorem nat_rev : Nat1 (α := α) List.reverse List.reverse := ⟨fun _ _ _ h => h.reverse, fun l => by rw [List.length_reverse]; exact Nat.le_refl _⟩
def cutA {α : Type} (l : List α) (lo hi : Option Int) : List α := (l.drop (HT.sIx l.length 0 lo)).take (HT.sIx l.length l.length hi - HT.sIx l.length 0 lo)
def tPO (K : PySem.W.Frag) (W : Hp → String → Prop) {ρ : Type} (sl : ρ → List Slot) (ms : List Mode) (f : ρ → M (Option Int)) : TO := fun σ H Q =>
  ∃ (r : ρ) (S : Hp), Sub S H ∧ View K S H ms (sl r) σ ∧ ends (f r) (fun o => ∀ S' H', Ext S H S' H' [] → Q o H') (fun c => ∀ H', Sub H H' → W H' c)
theorem PO.conv {X : Cx} {e : Option Expr} {t t' : TO} (h : PO X e t) (k : ∀ σ H Q, t' σ H Q → t σ H Q) : PO X e t' := ⟨fun pins s σ H Q I q => h.run pins s σ H Q I (k σ H Q q)⟩
def oNone {ρ : Type} : ρ → M (Option Int) := fun _ => .ok none
def oSome {ρ : Type} (f : ρ → M Int) : ρ → M (Option Int) := fun r => f r >>= fun i => .ok (some i)
theorem po_n : PO X none (tPO K W sl ms oNone) := PO.conv po_none fun σ H Q ⟨r, S, hs, hv, he⟩ => he S H (Ext.refl hs)
theorem po_s {f : ρ → M Int} (h : PE X e (tP K W sl ms f kd)) (hk : kd ≠ .un := by decide) : PO X (some e) (tPO K W sl ms (oSome f)) := PO.conv (po_some h) fun σ H Q ⟨r, S, hs, hv, he⟩ => ⟨r, S, hs, hv, ends_mono (ends_bind he) (fun i ei q v S1 H1 F x g => ⟨i, rep_scal (g.look x.sh hk), q _ H1 (x.share g.here)⟩) fun c q => q⟩
def eCut {ρ α : Type} (f : ρ → M (List α)) (g h : ρ → M (Option Int)) : ρ → M (List α) := fun r => f r >>= fun l => g r >>= fun a => h r >>= fun b => .ok (cutA l a b)
theorem cut_reps {r : V → α → List Addr → Prop} {vs : List V} {l : List α} {lo hi : Option Int} (h : Reps r vs l []) : Reps r (cutV vs lo hi) (cutA l lo hi) [] := by
  unfold cutV cutA
  rw [h.len]
  exact (h.drop _).take _
theorem pv_cutS [SA : Scal α] {lo hi : Option Expr} {f : ρ → M (List α)} {g h : ρ → M (Option Int)} {p2 : Pos} (he : PE X e (tP X.K W sl ms f kd)) (hl : PO X lo (tPO X.K W sl ms g)) (hu : PO X hi (tPO X.K W sl ms h)) (hk : kd ≠ .un := by decide) : PE X (.Subscript e (.Slice lo hi none p2) pos) (tP X.K W sl ms (eCut f g h) (lv 1)) :=
  PE.conv (pe_slice sl_list he hl hu) fun σ H Q ⟨r, S, hs, hv, he⟩ => ⟨r, S, hs, hv, ends_mono (ends_bind he) (fun l el q v S1 H1 F x g => by
    have x' := x.share g.here
    have hv' := hv.mono x'.ss x'.hh
    refine ⟨r, _, x'.sh, hv', ends_mono (ends_bind q) (fun o eo q S2 H2 x2 => ⟨r, S2, x2.sh, hv'.mono x2.ss x2.hh, ends_mono (ends_bind q) (fun o2 eo2 q S3 H3 x3 => ?_) fun c q H4 h4 => q H4 (x.hh.trans (x2.hh.trans h4))⟩) fun c q H4 h4 => q H4 (x.hh.trans h4)⟩
    obtain ⟨p, e1, n, z⟩ := rep_list (g.look x.sh hk)
    have x13 := (x'.trans x2 (fun p hp => nomatch hp)).trans x3 (fun p hp => nomatch hp)
    refine ⟨p, _, e1, .inl (.inl (x3.hh _ _ (x2.hh _ _ n))), fun p hp => ?_⟩
    obtain ⟨y, g2⟩ := new_list (K := X.K) (l := cutA l o o2) x13.sh hp (Nat.le_trans (cutV_length _ o o2) (by rw [List.length_map]; exact z)) fun H => cut_reps scal_reps
    exact q _ _ _ _ (x13.trans y (fun p hp => nomatch hp)) g2) fun c q => q⟩
@[irreducible] def catL {α : Type} (l m : List α) : Option (List α) := if l.length + m.length ≤ 2 ^ 24 then some (l ++ m) else none
theorem catL_some {l m n : List α} (h : catL l m = some n) : l.length + m.length ≤ line ∧ n = l ++ m := by
  unfold catL at h
  split at h
  · cases h
    exact ⟨by assumption, rfl⟩
  · cases h
theorem pv_cat {f g : ρ → M (List α)} (ha : PE X a (tP K W sl ms f (lv 0))) (hb : PE X b (tP K W sl ms g (lv 0))) : PE X (.BinOp a .Add b pos) (tP K W sl ms (e2 catL f g) (lv 1)) :=
  PE.conv (pe_op op_cat ha hb) fun σ H Q ⟨r, S, hs, hv, he⟩ => by
    refine two (R := fun x y H2 => rCat x y H2 Q) ha hb hs hv ?_
    refine ends_mono (ends_bind he) (fun l el q => ends_mono (ends_bind q) (fun m em q v u S1 H1 F1 F2 x g1 g2 => ?_) fun c q => q) fun c q => q
    obtain ⟨n, en, q⟩ := up_ends q
    have eF1 : F1 = [] := PyTy.zero g1
    have eF2 : F2 = [] := PyTy.zero g2
    subst eF1 eF2
    obtain ⟨hz, e⟩ := catL_some en
    subst e
    obtain ⟨p1, xs, F', e1, n1, z1, r1⟩ := g1
    obtain ⟨p2, ys, F'', e2, n2, z2, r2⟩ := g2
    have e3 : F' = [] := n1.2.symm
    have e4 : F'' = [] := n2.2.symm
    subst e3 e4
    have hz' : xs.length + ys.length ≤ line := by rw [r1.len, r2.len]; exact hz
    refine ⟨p1, p2, xs, ys, e1, e2, x.sh _ _ n1.1, x.sh _ _ n2.1, hz', fun p hp => ?_⟩
    obtain ⟨y, g2⟩ := new_list (K := K) (l := l ++ m) x.sh hp (xs := xs ++ ys) (by rw [List.length_append]; exact hz') fun H => by
      have := r1.append r2
      exact this.imp fun v a F' hf q => TA.mono q (Sub.refl S1) fun p hp => by have := hf p hp; cases this
    exact q _ _ _ _ (x.trans y (fun p hp => nomatch hp)) g2
theorem o_cat [SA : Scal α] : Op2 K rCat (catL (α := α)) 1 := fun H x y a b c Q ra rb e q => by
  obtain ⟨p1, rfl, h1, z1⟩ := rep_list ra
  obtain ⟨p2, rfl, h2, z2⟩ := rep_list rb
  obtain ⟨hz, e⟩ := catL_some e
  subst e
  refine ⟨p1, p2, _, _, rfl, rfl, h1, h2, by rw [List.length_map, List.length_map]; exact hz, fun p hp => ?_⟩
  rw [← List.map_append]
  exact q _ _ (New.list hp (by rw [List.length_append]; exact hz))
theorem pv_b1 {id : String} {x : Str} {t : List V → Hp → VK → Prop} {op : α → Option γ} {k : Nat} {f : ρ → M α} (hc : CallR X (.builtin id) t) (hp : Op1 K (rOne t) op k) (hg : Gl X x) (hm : X.mg x = none) (hv : bootBuiltins x = some (.builtin id)) (ha : PE X a (tP K W sl ms f kd)) (hka : kd ≠ .un := by decide)
    (hn : x ≠ "__name__" := by decide) (hdb : (x == ("__debug__" : Str)) = false := by decide) (he : starEach [a] X.env = (false, eval a X.env) :: starEach [] X.env := by rfl) (hpl : (backTo pos (starEach [] X.env)).any (·.1) = false := by rfl) : PE X (.Call (.Name x p) [a] [] pos) (tP K W sl ms (e1 op f) (lv k)) :=
  pv_e1 hp (PE.conv (pe_callB hc hg hm hv (pa_cons ha pa_nil he) hn hdb he hpl) fun _ _ _ h => h) hka
theorem pv_listS [SA : Scal α] {f : ρ → M (List α)} (hg : Gl X "list") (hm : X.mg "list" = none) (ha : PE X a (tP X.K W sl ms f kd)) (hk : kd ≠ .un := by decide) (he : starEach [a] X.env = (false, eval a X.env) :: starEach [] X.env := by rfl) (hpl : (backTo pos (starEach [] X.env)).any (·.1) = false := by rfl) : PE X (.Call (.Name "list" p) [a] [] pos) (tP X.K W sl ms (e1 (fun l => some l) f) (lv 1)) :=
  pv_funS (φV := fun l => l) (φ := fun l => l) nat_id (PE.conv (pe_callTy call_list_of hg hm boot_list (pa_cons ha pa_nil he) (by decide) (by decide) he hpl) fun σ H Q h => by
    obtain ⟨r, S, hs, hv, q⟩ := h
    exact ⟨r, S, hs, hv, ends_mono q (fun l el q v S1 H1 F x g => let ⟨a, xs, e, n, k⟩ := q v S1 H1 F x g; ⟨a, xs, by rw [e], .inl (.inl (.inl n)), k⟩) fun c q => q⟩) hk
theorem pv_backS [SA : Scal α] {k : Nat} {p1 p2 p3 : Pos} {f : ρ → M (List α)} (ha : PE X a (tP X.K W sl ms f kd)) (hk : kd ≠ .un := by decide) : PE X (.Subscript a (.Slice none none (some (.UnaryOp .USub (.Constant (.int 1) k p1) p2)) p3) pos) (tP X.K W sl ms (e1 (fun l => some l.reverse) f) (lv 1)) :=
  pv_funS nat_rev (PE.conv (pe_revL ha) fun σ H Q ⟨r, S, hs, hv, q⟩ => ⟨r, S, hs, hv, ends_mono q (fun l el q v S1 H1 F x g => let ⟨a, xs, e, n, k⟩ := q v S1 H1 F x g; ⟨a, xs, e, .inl (.inl n), k⟩) fun c q => q⟩) hk
end
section
variable {K : PySem.W.Frag}
def sumL (l : List Int) : Option Int := some l.sum
def maxL : List Int → Option Int
  | [] => none
  | x :: l => some (l.foldl max x)
def minL : List Int → Option Int
  | [] => none
  | x :: l => some (l.foldl min x)
def rAbs : List V → Hp → VK → Prop := fun xs H Q => ∃ i, xs = [.int i] ∧ Q (.int (if i < 0 then -i else i)) H
def absI (x : Int) : Option Int := some (if x < 0 then -x else x)
theorem o_abs : Op1 K (rOne rAbs) absI 0 := Op1.scal (α := Int) (γ := Int) fun H a c Q e q => by cases e; exact ⟨a, rfl, q⟩
def max2 (x y : Int) : Option Int := some (max x y)
def min2 (x y : Int) : Option Int := some (min x y)
/-- sorted of whole numbers -/
def sortI (l : List Int) : Option (List Int) := some (l.mergeSort fun a b => decide (a ≤ b))
theorem sortI_spec (l : List Int) : (l.mergeSort fun a b => decide (a ≤ b)).Perm l ∧ (l.mergeSort fun a b => decide (a ≤ b)).Pairwise (· ≤ ·) := by
  refine ⟨List.mergeSort_perm l _, ?_⟩
  have := List.pairwise_mergeSort (le := fun a b : Int => decide (a ≤ b)) (fun a b c h1 h2 => by simp at *; omega) (fun a b => by simp; omega) l
  exact this.imp fun h => of_decide_eq_true h
theorem o_sort : Op1 K (rOne (rSortedI K)) sortI 1 := fun H x a c Q ra e q => by
  cases e
  obtain ⟨p, rfl, h, z⟩ := rep_list ra
  refine ⟨p, a, rfl, .inl (.inl h), fun ns p hp hs hn => ?_⟩
  obtain ⟨h1, h2⟩ := sortI_spec a
  rw [PySem.W.ksm_same (hp.trans h1.symm) hs h2]
  exact q _ _ (New.list hn (by rw [h1.length_eq]; exact z))
def intB (b : Bool) : Option Int := some (if b then 1 else 0)
end
end VL
namespace VL
open PySem PySem.Spec PyProof.Rows L2
class ArgTy (A : Type) where
  al : A → List Slot
instance : ArgTy Unit := ⟨fun _ => []⟩
instance {α B : Type} [PyTy α] [T : ArgTy B] : ArgTy (α × B) := ⟨fun t => ⟨t.1⟩ :: T.al t.2⟩
def tPA (K : PySem.W.Frag) (W : Hp → String → Prop) {ρ : Type} (sl : ρ → List Slot) (ms : List Mode) {A : Type} [T : ArgTy A] (f : ρ → M A) (kd : Mode) : L2.TA := fun σ H Q =>
  ∃ (r : ρ) (S : Hp), Sub S H ∧ View K S H ms (sl r) σ ∧ ends (f r) (fun a => ∀ vs S' H', Ext S H S' H' [] → Parts K kd S' H' (T.al a) vs → Q vs H') (fun c => ∀ H', Sub H H' → W H' c)
/-- a def that changes nothing: called with a, it answers m a, rk layers new -/
def spP (K : PySem.W.Frag) {A R : Type} [T : ArgTy A] [PyTy R] (rk : Nat) (m : A → M R) : Sp := fun vs H Q E =>
  ∃ (a : A) (S : Hp), Sub S H ∧ Parts K (lv 0) S H (T.al a) vs ∧ ends (m a) (fun c => ∀ v S' H' F, Ext S H S' H' F → got K (lv rk) c S' H' v F → Q v H') (fun _ => False)
def aNil {ρ : Type} : ρ → M Unit := fun _ => .ok ()
def aCons {ρ α B : Type} (f : ρ → M α) (g : ρ → M B) : ρ → M (α × B) := fun r => f r >>= fun a => g r >>= fun b => .ok (a, b)
def eCall {ρ A R : Type} (m : A → M R) (f : ρ → M A) : ρ → M R := fun r => f r >>= fun a => mute (m a)
/-- a thing whose k layers are all it has -/
class Closed (α : Type) [T : PyTy α] (k : Nat) : Prop where
  closed : ∀ {K S S' H v a F}, T.rep K k S H v a F → T.rep K k S' H v a F
instance {α : Type} [T : PyTy α] [C : Scal α] {k : Nat} : Closed α k := ⟨fun h => C.scal.mpr (C.scal.mp h)⟩
instance {α : Type} [T : PyTy α] {k : Nat} [C : Closed α k] : Closed (List α) (k + 1) := ⟨fun ⟨p, xs, F', e, n, z, r⟩ => ⟨p, xs, F', e, n, z, r.imp fun v a F' hf q => C.closed q⟩⟩
instance {α β : Type} [PyTy α] [PyTy β] {k : Nat} [CA : Closed α k] [CB : Closed β k] : Closed (α × β) (k + 1) := ⟨fun ⟨p, x, y, F1, F2, e, n, r1, r2⟩ => ⟨p, x, y, F1, F2, e, n, CA.closed r1, CB.closed r2⟩⟩
section
variable {X : Cx} {K : PySem.W.Frag} {W : Hp → String → Prop} {ρ : Type} {sl : ρ → List Slot} {ms : List Mode} {e : Expr} {es : List Expr} {pos p : Pos} {kd : Mode}
variable {α B A R : Type} [TA : PyTy α] [AB : ArgTy B] [AA : ArgTy A] [TR : PyTy R]
theorem pa_n : PA X [] (tPA K W sl ms (aNil (ρ := ρ)) kd) := PA.conv pa_nil fun σ H Q ⟨r, S, hs, hv, he⟩ => he [] S H (Ext.refl hs) trivial
theorem pa_c {f : ρ → M α} {g : ρ → M B} (ha : PE X e (tP K W sl ms f kd)) (hr : PA X es (tPA K W sl ms g kd)) (hk : kd = lv 0 ∨ kd = .vw := by first | exact Or.inl rfl | exact Or.inr rfl) (hs : starEach (e :: es) X.env = (false, eval e X.env) :: starEach es X.env := by rfl) : PA X (e :: es) (tPA K W sl ms (aCons f g) kd) :=
  PA.conv (pa_cons ha hr hs) fun σ H Q ⟨r, S, hs, hv, he⟩ => ⟨r, S, hs, hv, ends_mono (ends_bind he) (fun a ea q v S1 H1 F1 x1 g1 => by
    have x := x1.share g1.here
    have gv : viewA K kd ⟨a⟩ (some v) (add S1 H1 F1) H1 := by
      rcases hk with e | e
      · subst e
        exact ⟨v, rfl, TA.freeze g1 (add_sub fun p hp => (x1.fr p hp).2) (fun p hp => add_in hp) _⟩
      · subst e
        exact ⟨v, rfl, g1.2⟩
    exact ⟨r, _, x.sh, hv.mono x.ss x.hh, ends_mono (ends_bind q) (fun b eb q vs S2 H2 x2 ps => q (v :: vs) S2 H2 (x.trans x2 fun p hp => nomatch hp) ⟨gv.mono x2.ss x2.hh, ps⟩) fun c q H2 h2 => q H2 (x1.hh.trans h2)⟩) fun c q => q⟩
theorem ends_muted {α : Type} {m : M α} {P : α → Prop} {E : String → Prop} (h : ends (mute m) P E) : ends m P (fun _ => False) := ends_mute h
/-- the arguments shared: what comes may be made of them -/
theorem pv_call {k rk : Nat} {f : Addr} {fd : FuncData} {ps : List Str} {x : Str} {m : A → M R} {g : ρ → M A} (F : FnOk X.prog X.w X.K X.mg X.base CX0 k f fd ps (spP X.K rk m)) (hr : Room k X.A) (hg : Gl X x) (hm : X.mg x = some (.ref f)) (hk : PySem.W.keepIn X.K (.ref f) = true) (hb : Binds X.K fd ps [])
    (ha : PA X (e :: es) (tPA X.K W sl ms g (lv 0))) (hdb : (x == ("__debug__" : Str)) = false := by decide) (he : starEach (e :: es) X.env = (false, eval e X.env) :: starEach es X.env := by rfl) (hpl : (backTo pos (starEach es X.env)).any (·.1) = false := by rfl) :
    PE X (.Call (.Name x p) (e :: es) [] pos) (tP X.K W sl ms (eCall m g) (lv rk)) :=
  PE.conv (pe_call F hr hg hm hk hb .nil pass0 ha hdb he hpl) fun σ H Q ⟨r, S, hs, hv, q⟩ => ⟨r, S, hs, hv, ends_mono (ends_bind q) (fun a ea q vs S1 H1 x1 pt => by
    show spP X.K rk m (vs ++ []) H1 Q E0
    rw [List.append_nil]
    exact ⟨a, S1, x1.sh, pt, ends_mono (ends_muted q) (fun c ec q v S2 H2 F2 x2 g2 => q v S2 H2 F2 (by have := x1.trans x2 (fun p hp => nomatch hp); rw [List.append_nil] at this; exact this) g2) fun c q => q⟩) fun c q => q⟩
end
end VL
namespace VL
open PySem PySem.Spec PyProof.Rows L2
theorem Env_len {K : PySem.W.Frag} {A : Nat → Option V} {S H : Hp} : ∀ {ms : List Mode} {ss : List Slot} {vs : List (Option V)} {F : List Addr}, Star (Env K A ms ss vs) S H F → ms.length = vs.length ∧ ss.length = vs.length
  | [], [], [], _, _ => ⟨rfl, rfl⟩
  | [], [], _ :: _, _, ⟨_, _, _, h, _⟩ => h.elim
  | [], _ :: _, [], _, ⟨_, _, _, h, _⟩ => h.elim
  | [], _ :: _, _ :: _, _, ⟨_, _, _, h, _⟩ => h.elim
  | _ :: _, [], [], _, ⟨_, _, _, h, _⟩ => h.elim
  | _ :: _, [], _ :: _, _, ⟨_, _, _, h, _⟩ => h.elim
  | _ :: _, _ :: _, [], _, ⟨_, _, _, h, _⟩ => h.elim
  | _ :: _, _ :: _, _ :: _, _, ⟨_, _, _, _, h⟩ => by
    have := Env_len h
    simp only [List.length_cons]
    omega
theorem Env_at {K : PySem.W.Frag} {A : Nat → Option V} : ∀ {ms : List Mode} {ss : List Slot} {vs : List (Option V)} {i : Nat} {m : Mode} {s : Slot} {v : Option V}, ms[i]? = some m → ss[i]? = some s → vs[i]? = some v →
    ∃ l1 l2, Env K A ms ss vs = l1 ++ slotA K A m s v :: l2 ∧ ∀ m' s' v', Env K A (ms.set i m') (ss.set i s') (vs.set i v') = l1 ++ slotA K A m' s' v' :: l2
  | [], _, _, _, _, _, _, h, _, _ => by simp at h
  | _ :: _, [], _, _, _, _, _, _, h, _ => by simp at h
  | _ :: _, _ :: _, [], _, _, _, _, _, _, h => by simp at h
  | m :: ms, s :: ss, v :: vs, 0, _, _, _, h1, h2, h3 => by
    cases h1
    cases h2
    cases h3
    exact ⟨[], Env K A ms ss vs, rfl, fun _ _ _ => rfl⟩
  | m :: ms, s :: ss, v :: vs, i + 1, _, _, _, h1, h2, h3 => by
    obtain ⟨l1, l2, e, k⟩ := Env_at (K := K) (A := A) (ms := ms) (ss := ss) (vs := vs) (i := i) h1 h2 h3
    exact ⟨slotA K A m s v :: l1, l2, by show slotA K A m s v :: Env K A ms ss vs = _; rw [e]; rfl, fun m' s' v' => by
      show slotA K A m s v :: Env K A (ms.set i m') (ss.set i s') (vs.set i v') = _
      rw [k]
      rfl⟩
section
variable {C : Ct} {L T : List Assn} {H : Hp} {ms : List Mode} {ss : List Slot} {vs : List (Option V)} {i : Nat} {m : Mode} {s : Slot}
theorem Hd.lens (h : Hd C (T ++ Env C.K C.A ms ss vs) H) : ms.length = vs.length ∧ ss.length = vs.length := by
  obtain ⟨S, F, st, _⟩ := h
  obtain ⟨_, _, _, _, h2⟩ := st.split
  exact Env_len h2
/-- a slot is opened: nothing of it is held by the slots then -/
theorem Hd.open (h : Hd C (T ++ Env C.K C.A ms ss vs) H) (e1 : ms[i]? = some m) (e2 : ss[i]? = some s) : ∃ v, vs[i]? = some v ∧ Hd C (slotA C.K C.A m s v :: (T ++ Env C.K C.A (ms.set i .un) ss vs)) H := by
  obtain ⟨l1, l2⟩ := h.lens
  obtain ⟨hi, _⟩ := List.getElem?_eq_some_iff.mp e1
  have hv : i < vs.length := by omega
  have e3 : vs[i]? = some vs[i] := List.getElem?_eq_getElem hv
  obtain ⟨a, b, e, k⟩ := Env_at (K := C.K) (A := C.A) e1 e2 e3
  have k2 := k .un s vs[i]
  rw [show ss.set i s = ss from by
    obtain ⟨hs, z⟩ := List.getElem?_eq_some_iff.mp e2
    rw [← z]
    exact List.set_getElem_self hs, List.set_getElem_self hv] at k2
  refine ⟨vs[i], e3, ?_⟩
  rw [e] at h
  rw [k2]
  obtain ⟨S, F, st, o⟩ := h.perm (l' := slotA C.K C.A m s vs[i] :: (T ++ (a ++ b))) (by
    rw [← List.append_assoc, ← List.append_assoc]
    exact List.perm_middle)
  refine Hd.perm (l := slotA C.K C.A m s vs[i] :: anyA :: (T ++ (a ++ b))) ⟨S, F, ?_, o⟩ (by
    refine .cons _ ?_
    show (anyA :: (T ++ (a ++ b))).Perm (T ++ (a ++ anyA :: b))
    rw [← List.append_assoc, ← List.append_assoc]
    exact List.perm_middle.symm)
  obtain ⟨F1, F2, e, h1, h2⟩ := st
  exact ⟨F1, F2, e, h1, [], F2, rfl, rfl, h2⟩
/-- a slot is filled: what it held before is dropped -/
theorem Hd.close {m0 : Mode} {s : Slot} {v : Option V} (h : Hd C (slotA C.K C.A m s v :: (T ++ Env C.K C.A ms ss vs)) H) (hi : i < vs.length) : Hd C (T ++ Env C.K C.A (ms.set i m) (ss.set i s) (vs.set i v)) H := by
  obtain ⟨l1, l2⟩ := (Hd.drop h).lens
  have e1 : ms[i]? = some ms[i] := List.getElem?_eq_getElem (by omega)
  have e2 : ss[i]? = some ss[i] := List.getElem?_eq_getElem (by omega)
  have e3 : vs[i]? = some vs[i] := List.getElem?_eq_getElem hi
  obtain ⟨a, b, e, k⟩ := Env_at (K := C.K) (A := C.A) e1 e2 e3
  rw [k]
  rw [e] at h
  have h2 := h.perm (l' := slotA C.K C.A ms[i] ss[i] vs[i] :: slotA C.K C.A m s v :: (T ++ (a ++ b))) (by
    rw [← List.append_assoc, ← List.append_assoc]
    refine (List.Perm.cons _ List.perm_middle).trans (.swap _ _ _))
  refine h2.drop.perm ?_
  rw [← List.append_assoc, ← List.append_assoc]
  exact List.perm_middle.symm
theorem Hd.close' {v : V} {k : Nat} {α : Type} [PyTy α] {a : α} (h : Hd C (itm C.K k a v :: (T ++ Env C.K C.A ms ss vs)) H) (hi : i < vs.length) : Hd C (T ++ Env C.K C.A (ms.set i (lv k)) (ss.set i ⟨a⟩) (vs.set i (some v))) H :=
  Hd.close (m0 := .un) (h.imp (b := slotA C.K C.A (lv k) ⟨a⟩ (some v)) fun S F q => ⟨v, rfl, trivial, q⟩) hi
end
theorem froz_at {α : Type} (T : PyTy α) {K : PySem.W.Frag} {S H : Hp} {v : V} {a : α} {F : List Addr} (h : T.rep K 0 S H v a F) (H' : Hp) : T.rep K 0 S H' v a [] := PyTy.froz h H'
theorem look_at {α : Type} (T : PyTy α) {K : PySem.W.Frag} {k : Nat} {S H : Hp} {v : V} {a : α} {F : List Addr} (h : T.rep K k S H v a F) (hs : Sub S H) : T.rep K 0 H H v a [] := look h hs
def downM : Mode → Mode
  | .own 0 _ => lv 0
  | .own (_ + 1) _ => .vw
  | .vw => .un
  | .un => .un
  | .id _ => .un
theorem Star.view {K : PySem.W.Frag} {A : Nat → Option V} {S H : Hp} (hs : Sub S H) : ∀ {ms : List Mode} {ss : List Slot} {vs : List (Option V)} {F : List Addr}, Star (Env K A ms ss vs) S H F → View K S H (ms.map downM) ss vs
  | [], [], [], _, _ => trivial
  | [], [], _ :: _, _, ⟨_, _, _, h, _⟩ => h.elim
  | [], _ :: _, [], _, ⟨_, _, _, h, _⟩ => h.elim
  | [], _ :: _, _ :: _, _, ⟨_, _, _, h, _⟩ => h.elim
  | _ :: _, [], [], _, ⟨_, _, _, h, _⟩ => h.elim
  | _ :: _, [], _ :: _, _, ⟨_, _, _, h, _⟩ => h.elim
  | _ :: _, _ :: _, [], _, ⟨_, _, _, h, _⟩ => h.elim
  | m :: ms, s :: ss, v :: vs, _, ⟨F1, F2, _, h1, h2⟩ => by
    refine ⟨?_, Star.view hs h2⟩
    cases m with
    | un => trivial
    | vw => trivial
    | id _ => trivial
    | own k io =>
      obtain ⟨x, e, _, r⟩ := h1
      cases k with
      | zero => exact ⟨x, e, froz_at s.inst r S⟩
      | succ k => exact ⟨x, e, look_at s.inst r hs⟩
/-- an error may leave: what was there stands -/
def Fr (C : Ct) (H : Hp) : Prop := ∀ p o, C.H0 p = some o → p ∉ C.P → H p = some o
theorem Hd.fr {C : Ct} {l : List Assn} {H H' : Hp} (h : Hd C l H) (e : Sub H H') : Fr C H' := by
  obtain ⟨S, F, _, o⟩ := h
  exact fun p q z w => e p q (o.fr p q z w)
theorem Hd.ext {C : Ct} {l : List Assn} {S H S' H' : Hp} {F F' : List Addr} {k : Nat} {α : Type} [T : PyTy α] {a : α} {v : V} (st : Star l S H F) (o : OkS C S F H) (x : Ext S H S' H' F') (g : T.rep C.K k S' H' v a F') : Hd C (itm C.K k a v :: l) H' :=
  ⟨S', F' ++ F, ⟨F', F, rfl, g, st.mono x.ss fun p hp => x.hh.at (st.here p hp)⟩, o.ext x st.here⟩
theorem Hd.ext0 {C : Ct} {l : List Assn} {S H S' H' : Hp} {F : List Addr} (st : Star l S H F) (o : OkS C S F H) (x : Ext S H S' H' []) : Hd C l H' :=
  ⟨S', F, st.mono x.ss fun p hp => x.hh.at (st.here p hp), by have := o.ext x st.here; exact this⟩
def tE (C : Ct) {ρ : Type} (sl : ρ → List Slot) (ms ms' : List Mode) {α : Type} [PyTy α] (f : ρ → M (α × ρ)) (k : Nat) : TE := fun σ H Q =>
  ∃ (r : ρ) (T : List Assn), Hd C (T ++ Env C.K C.A ms (sl r) σ) H ∧ ends (f r) (fun ar => ∀ v H', Hd C (itm C.K k ar.1 v :: (T ++ Env C.K C.A ms' (sl ar.2) σ)) H' → Q v H') (fun c => ∀ H', Fr C H' → C.W H' c)
def tET (C : Ct) {ρ : Type} (sl : ρ → List Slot) (ms ms' : List Mode) (f : ρ → M (Bool × ρ)) : TT := fun σ H Q =>
  ∃ (r : ρ) (T : List Assn), Hd C (T ++ Env C.K C.A ms (sl r) σ) H ∧ ends (f r) (fun ar => ∀ H', Hd C (T ++ Env C.K C.A ms' (sl ar.2) σ) H' → Q ar.1 H') (fun c => ∀ H', Fr C H' → C.W H' c)
def lift {ρ α : Type} (f : ρ → M α) : ρ → M (α × ρ) := fun r => f r >>= fun a => .ok (a, r)
section
variable {X : Cx} {C : Ct} {ρ : Type} {sl : ρ → List Slot} {ms ms' : List Mode} {e : Expr} {α : Type} [TA : PyTy α]
theorem ev {f : ρ → M α} {k : Nat} (h : PE X e (tP C.K C.W sl (ms.map downM) f (lv k))) : PE X e (tE C sl ms ms (lift f) k) :=
  PE.conv h fun σ H Q ⟨r, T, hd, he⟩ => by
    obtain ⟨S, F, st, o⟩ := id hd
    obtain ⟨F1, F2, _, _, h2⟩ := st.split
    exact ⟨r, S, o.sh, h2.view o.sh, ends_mono (ends_bind he) (fun a ea q v S' H' F' x g => q v H' (Hd.ext st o x g)) fun c q H' s => q H' (hd.fr s)⟩
theorem et {f : ρ → M Bool} (h : PT X e (tPT C.K C.W sl (ms.map downM) f)) : PT X e (tET C sl ms ms (lift f)) :=
  PT.conv h fun σ H Q ⟨r, T, hd, he⟩ => by
    obtain ⟨S, F, st, o⟩ := id hd
    obtain ⟨F1, F2, _, _, h2⟩ := st.split
    exact ⟨r, S, o.sh, h2.view o.sh, ends_mono (ends_bind he) (fun a ea q S' H' x => q H' (Hd.ext0 st o x)) fun c q H' s => q H' (hd.fr s)⟩
/-- a name's own thing is handed on: the name holds nothing then -/
theorem ev_mv {g : ρ → α} (i : Nat) {k : Nat} (h : PE X e (tVar i)) (hm : ms[i]? = some (lv k)) (hg : ∀ r, (sl r)[i]? = some ⟨g r⟩) (hms : ms' = ms.set i .un := by rfl) : PE X e (tE C sl ms ms' (fun r => .ok (g r, r)) k) :=
  PE.conv h fun σ H Q ⟨r, T, hd, he⟩ => by
    subst hms
    obtain ⟨v, ev, h2⟩ := hd.open hm (hg r)
    obtain ⟨S, F, ⟨F1, F2, e1, ⟨x, ex, _, r1⟩, st⟩, o⟩ := h2
    subst ex
    exact ⟨x, ev, he x H ⟨S, F, ⟨F1, F2, e1, r1, st⟩, o⟩⟩
end
inductive Fl (ρ R : Type) where | nx (r : ρ) | rt (a : R) (r : ρ) | bk (r : ρ) | ct (r : ρ)
def tS (C : Ct) {ρ R : Type} [PyTy R] (sl : ρ → List Slot) (ms ms' lm rm : List Mode) (rk : Nat) (f : ρ → M (Fl ρ R)) : TS := fun D σ H =>
  ∃ (r : ρ) (T : List Assn), Hd C (T ++ Env C.K C.A ms (sl r) σ) H ∧ ends (f r) (fun
    | .nx r' => ∀ σ' H', Hd C (T ++ Env C.K C.A ms' (sl r') σ') H' → D.nx σ' H'
    | .rt a r' => ∀ v σ' H', Hd C (itm C.K rk a v :: Env C.K C.A rm (sl r') σ') H' → D.rt v H'
    | .bk r' => ∀ σ' H', Hd C (T ++ Env C.K C.A lm (sl r') σ') H' → D.bk σ' H'
    | .ct r' => ∀ σ' H', Hd C (T ++ Env C.K C.A lm (sl r') σ') H' → D.ct σ' H') (fun c => ∀ H', Fr C H' → C.W H' c)
def fNil {ρ R : Type} : ρ → M (Fl ρ R) := fun r => .ok (.nx r)
def fSeq {ρ R : Type} (f g : ρ → M (Fl ρ R)) : ρ → M (Fl ρ R) := fun r => f r >>= fun
  | .nx r' => g r'
  | .rt a r' => .ok (.rt a r')
  | .bk r' => .ok (.bk r')
  | .ct r' => .ok (.ct r')
def fSet {ρ R α : Type} (set : α → ρ → ρ) (f : ρ → M (α × ρ)) : ρ → M (Fl ρ R) := fun r => f r >>= fun ar => .ok (.nx (set ar.1 ar.2))
def fIf {ρ R : Type} (c : ρ → M (Bool × ρ)) (f g : ρ → M (Fl ρ R)) : ρ → M (Fl ρ R) := fun r => c r >>= fun br => if br.1 then f br.2 else g br.2
def fRet {ρ R : Type} (f : ρ → M (R × ρ)) : ρ → M (Fl ρ R) := fun r => f r >>= fun ar => .ok (.rt ar.1 ar.2)
def fDrop {ρ R α : Type} (f : ρ → M (α × ρ)) : ρ → M (Fl ρ R) := fun r => f r >>= fun ar => .ok (.nx ar.2)
/-- what may be forgotten: own things, a slot; own layers may become shared -/
def wkM : Mode → Mode → Bool
  | _, .un => true
  | .own k none, .own j none => k == j || j == 0
  | .own k (some i), .own j (some i') => k == j && i == i'
  | .id n, .id m => n == m
  | _, _ => false
def wk : List Mode → List Mode → Bool
  | [], [] => true
  | m :: ms, n :: ns => wkM m n && wk ms ns
  | _, _ => false
theorem Hd.weak1 {C : Ct} {m n : Mode} {s : Slot} {v : Option V} {l : List Assn} {H : Hp} (h : Hd C (slotA C.K C.A m s v :: l) H) (w : wkM m n = true) : Hd C (slotA C.K C.A n s v :: l) H := by
  cases n with
  | un =>
    obtain ⟨S, F, st, o⟩ := h.drop
    exact ⟨S, F, ⟨[], F, rfl, rfl, st⟩, o⟩
  | vw => cases m <;> simp [wkM] at w
  | id j =>
    cases m with
    | id k =>
      have e : k = j := by simpa [wkM] using w
      subst e
      exact h
    | un => simp [wkM] at w
    | vw => simp [wkM] at w
    | own k io => cases io <;> simp [wkM] at w
  | own j io =>
    cases m with
    | un => simp [wkM] at w
    | vw => simp [wkM] at w
    | id _ => cases io <;> simp [wkM] at w
    | own k io' =>
      cases io with
      | none =>
        cases io' with
        | some i => simp [wkM] at w
        | none =>
          by_cases e : k = j
          · subst e
            exact h
          · have e0 : j = 0 := by simpa [wkM, e] using w
            subst e0
            obtain ⟨S, F, ⟨F1, F2, e, ⟨x, ex, i, r⟩, st⟩, o⟩ := h
            subst ex
            have := Hd.share (C := C) (T := s.inst) (k := k) (a := s.a) (v := x) (l := l) (H := H) ⟨S, F, ⟨F1, F2, e, r, st⟩, o⟩
            exact this.imp fun S F q => ⟨x, rfl, trivial, q⟩
      | some i =>
        cases io' with
        | none => simp [wkM] at w
        | some i' =>
          simp [wkM] at w
          obtain ⟨e1, e2⟩ := w
          subst e1 e2
          exact h
theorem Hd.weak {C : Ct} {H : Hp} : ∀ {ms ns : List Mode} {ss : List Slot} {vs : List (Option V)} {T : List Assn}, Hd C (T ++ Env C.K C.A ms ss vs) H → wk ms ns = true → Hd C (T ++ Env C.K C.A ns ss vs) H
  | [], [], _, _, _, h, _ => h
  | [], _ :: _, _, _, _, _, w => nomatch w
  | _ :: _, [], _, _, _, _, w => nomatch w
  | m :: ms, n :: ns, [], [], _, h, _ => h
  | m :: ms, n :: ns, [], _ :: _, _, h, _ => h
  | m :: ms, n :: ns, _ :: _, [], _, h, _ => h
  | m :: ms, n :: ns, s :: ss, v :: vs, T, h, w => by
    have w' := Bool.and_eq_true_iff.mp w
    have h2 : Hd C (slotA C.K C.A m s v :: (T ++ Env C.K C.A ms ss vs)) H := h.perm List.perm_middle
    have h3 := (h2.weak1 w'.1)
    have h4 : Hd C ((slotA C.K C.A n s v :: T) ++ Env C.K C.A ns ss vs) H := Hd.weak (T := slotA C.K C.A n s v :: T) h3 w'.2
    exact h4.perm List.perm_middle.symm
section
variable {X : Cx} {C : Ct} {ρ R : Type} [TR : PyTy R] {sl : ρ → List Slot} {ms ms1 ms2 lm rm : List Mode} {rk : Nat} {e : Expr} {st : Stmt} {rest : List Stmt} {pos : Pos} {α : Type} [TA : PyTy α]
theorem ss_nil : PSs X [] (tS C (R := R) sl ms ms lm rm rk fNil) := PSs.conv pss_nil fun D σ H ⟨r, T, hd, he⟩ => he σ H hd
theorem ss_cons {f g : ρ → M (Fl ρ R)} (h1 : PS X st (tS C sl ms ms1 lm rm rk f)) (h2 : PSs X rest (tS C sl ms1 ms2 lm rm rk g)) : PSs X (st :: rest) (tS C sl ms ms2 lm rm rk (fSeq f g)) :=
  PSs.conv (pss_cons h1 h2) fun D σ H ⟨r, T, hd, he⟩ => ⟨r, T, hd, ends_mono (ends_bind he) (fun o eo q => by
    cases o with
    | nx r' => exact fun σ' H' h' => ⟨r', T, h', q⟩
    | rt a r' => exact q
    | bk r' => exact q
    | ct r' => exact q) fun c q => q⟩
theorem ss_one {f : ρ → M (Fl ρ R)} (h1 : PS X st (tS C sl ms ms1 lm rm rk f)) : PSs X [st] (tS C sl ms ms1 lm rm rk f) := pss_one h1
theorem ss_weak {sts : List Stmt} {f : ρ → M (Fl ρ R)} (h1 : PSs X sts (tS C sl ms ms1 lm rm rk f)) (w : wk ms1 ms2 = true := by rfl) : PSs X sts (tS C sl ms ms2 lm rm rk f) :=
  PSs.conv h1 fun D σ H ⟨r, T, hd, he⟩ => ⟨r, T, hd, ends_mono he (fun o eo q => by
    cases o with
    | nx r' => exact fun σ' H' h' => q σ' H' (h'.weak w)
    | rt a r' => exact q
    | bk r' => exact q
    | ct r' => exact q) fun c q => q⟩
theorem set_read {i : Nat} {k : Nat} {f : ρ → M (α × ρ)} {set : α → ρ → ρ} (hset : ∀ a r, sl (set a r) = (sl r).set i ⟨a⟩) (hi : i < ms1.length) {D : Ends} {σ : L2.St} {H : Hp} (h : tS C (R := R) sl ms (ms1.set i (lv k)) lm rm rk (fSet set f) D σ H) : tAsg (tE C sl ms ms1 f k) (gName i) D σ H := by
  obtain ⟨r, T, hd, he⟩ := h
  exact ⟨r, T, hd, ends_mono (ends_bind he) (fun ar ear q v H' h' => q _ H' (by
    rw [hset]
    exact Hd.close' h' (by have := (Hd.drop h').lens; omega))) fun c q => q⟩
/-- name = e -/
theorem s_set {i : Nat} {x : Str} {k : Nat} {pos' : Pos} {f : ρ → M (α × ρ)} {set : α → ρ → ρ} (hN : X.N.Nodup) (hxi : X.N[i]? = some x) (hx : Loc X.env.scope x) (he : PE X e (tE C sl ms ms1 f k)) (hset : ∀ a r, sl (set a r) = (sl r).set i ⟨a⟩) (hi : i < ms1.length)
    (hs : swapsWith e (some (.Name x pos')) pos.line X.env = pure false := by rfl) (hf : X.fn x = true ∨ X.env.scope.names.lookup x = some .local := by first | exact .inl rfl | exact .inr rfl | assumption) (hms : ms2 = ms1.set i (lv k) := by rfl) : PS X (.Assign [.Name x pos'] e pos) (tS C (R := R) sl ms ms2 lm rm rk (fSet set f)) :=
  PS.conv (ps_set (i := i) hN hxi hx he hs hf) fun D σ H h => by subst hms; exact set_read hset hi h
theorem s_if {c : Expr} {a b : List Stmt} {t : ρ → M (Bool × ρ)} {f g : ρ → M (Fl ρ R)} (hc : PT X c (tET C sl ms ms1 t)) (ha : PSs X a (tS C sl ms1 ms2 lm rm rk f)) (hb : PSs X b (tS C sl ms1 ms2 lm rm rk g)) : PS X (.If c a b pos) (tS C sl ms ms2 lm rm rk (fIf t f g)) :=
  PS.conv (ps_if hc ha hb) fun D σ H ⟨r, T, hd, he⟩ => ⟨r, T, hd, ends_mono (ends_bind he) (fun br ebr q H' h' => by
    obtain ⟨d, r'⟩ := br
    cases d with
    | true =>
      rw [if_pos rfl]
      exact ⟨r', T, h', q⟩
    | false =>
      rw [if_neg Bool.false_ne_true]
      exact ⟨r', T, h', q⟩) fun c q => q⟩
theorem s_ret {f : ρ → M (R × ρ)} (he : PE X e (tE C sl ms ms1 f rk)) (w : wk ms1 rm = true := by rfl) : PS X (.Return (some e) pos) (tS C sl ms ms2 lm rm rk (fRet f)) :=
  PS.conv (ps_ret he) fun D σ H ⟨r, T, hd, he⟩ => ⟨r, T, hd, ends_mono (ends_bind he) (fun ar ear q v H' h' => q v σ H' (by
    have h1 := Hd.weak (T := itm C.K rk ar.1 v :: T) h' w
    have h2 : Hd C (T ++ (itm C.K rk ar.1 v :: Env C.K C.A rm (sl ar.2) σ)) H' := h1.perm List.perm_middle.symm
    exact h2.dropL)) fun c q => q⟩
def fBk {ρ R : Type} : ρ → M (Fl ρ R) := fun r => .ok (.bk r)
def fCt {ρ R : Type} : ρ → M (Fl ρ R) := fun r => .ok (.ct r)
end
end VL
namespace VL
open PySem PySem.Spec PyProof.Rows L2
def loop {ρ R β : Type} (set : β → ρ → ρ) (body : ρ → M (Fl ρ R)) : List β → ρ → M (Fl ρ R)
  | [], r => .ok (.nx r)
  | b :: l, r => body (set b r) >>= fun
    | .nx r' => loop set body l r'
    | .ct r' => loop set body l r'
    | .bk r' => .ok (.nx r')
    | .rt a r' => .ok (.rt a r')
def fFor {ρ R β : Type} (xs : ρ → M (List β)) (set : β → ρ → ρ) (body : ρ → M (Fl ρ R)) : ρ → M (Fl ρ R) := fun r => xs r >>= fun l => loop set body l r
/-- a part of the heap stays shared -/
def keepA (S0 : Hp) : Assn := ⟨fun S _ F => F = [] ∧ Sub S0 S, fun h hs _ => ⟨h.1, h.2.trans hs⟩, fun h q hq => by rw [h.1] at hq; cases hq⟩
theorem Hd.keep {C : Ct} {l : List Assn} {S : Hp} {F : List Addr} {H : Hp} (st : Star l S H F) (o : OkS C S F H) : Hd C (keepA S :: l) H := ⟨S, F, ⟨[], F, rfl, ⟨rfl, Sub.refl S⟩, st⟩, o⟩
/-- what a turn finds: the item's parts in their slots, shared -/
theorem Hd.parts {C : Ct} {S0 H : Hp} {T : List Assn} : ∀ {is : List Nat} {ps : List Slot} {vs : List V} {ms : List Mode} {ss : List Slot} {σ : L2.St}, Hd C (keepA S0 :: T ++ Env C.K C.A ms ss σ) H → Parts C.K (lv 0) S0 H ps vs → is.length = ps.length → (∀ i ∈ is, i < σ.length) →
    Hd C (keepA S0 :: T ++ Env C.K C.A (setModes ms is (lv 0)) (setSlots ss is ps) (setAll σ is vs)) H
  | [], [], [], _, _, _, h, _, _, _ => h
  | [], [], _ :: _, _, _, _, _, p, _, _ => p.elim
  | _ :: _, [], _, _, _, _, _, _, e, _ => by simp at e
  | [], _ :: _, _, _, _, _, _, _, e, _ => by simp at e
  | _ :: _, _ :: _, [], _, _, _, _, p, _, _ => p.elim
  | i :: is, s :: ps, v :: vs, ms, ss, σ, h, ⟨p1, p2⟩, e, hi => by
    refine Hd.parts (is := is) (ps := ps) (vs := vs) (ms := ms.set i (lv 0)) (ss := ss.set i s) (σ := σ.set i (some v)) ?_ p2 (by simpa using e) (fun j hj => by rw [List.length_set]; exact hi j (List.mem_cons_of_mem _ hj))
    refine Hd.close (m0 := .un) (T := keepA S0 :: T) ?_ (hi i List.mem_cons_self)
    obtain ⟨S, F, st, o⟩ := h
    obtain ⟨x, ex, r⟩ := p1
    cases ex
    obtain ⟨F1, F2, e1, h1, h2⟩ := id st
    refine ⟨S, F, ⟨[], F, rfl, ⟨v, rfl, trivial, ?_⟩, st⟩, o⟩
    exact s.inst.mono r h1.2 fun p hp => nomatch hp
section
variable {X : Cx} {C : Ct} {ρ R : Type} [TR : PyTy R] {sl : ρ → List Slot} {ms ms1 ms2 lm lm' rm : List Mode} {rk : Nat} {e tg iter : Expr} {body : List Stmt} {pos : Pos} {α β : Type} [TA : PyTy α] [TB : PyTy β]
theorem s_for {g : TG} {β : Type} {xs : ρ → M (List β)} {is : List Nat} {parts : β → List Slot} {set : β → ρ → ρ} {f : ρ → M (Fl ρ R)} (hp : PassesOwn (model X.prog X.w) X.A X.env X.xe) (hc : X.calm = true) (hi : PI X tg iter (tW C.K C.W sl (lm.map downM) xs (lv 0) g is parts)) (hg : PG X tg g)
    (hb : PSs X body (tS C sl (setModes lm is (lv 0)) lm lm rm rk f)) (hset : ∀ b r, sl (set b r) = setSlots (sl r) is (parts b)) (hpl : ∀ b, is.length = (parts b).length) (hin : ∀ i ∈ is, i < lm.length) (hs : ∀ x, foldedSetIterable iter X.env x = pure x := by intro _; rfl) :
    PS X (.For tg iter body [] pos) (tS C sl lm lm lm' rm rk (fFor xs set f)) :=
  PS.conv (ps_for hp hc hi hg hb hs) fun D σ H ⟨r, T, hd, he⟩ => by
    obtain ⟨S, F, st, o⟩ := id hd
    obtain ⟨F1, F2, _, _, h2⟩ := st.split
    refine ⟨r, S, o.sh, h2.view o.sh, ends_mono (ends_bind he) (fun l el q J S1 H1 x1 hl G => ?_) fun c q H' s => q H' (hd.fr s)⟩
    have kd : Hd C (keepA S1 :: T ++ Env C.K C.A lm (sl r) σ) H1 := Hd.keep (st.mono x1.ss fun p hp => x1.hh.at (st.here p hp)) (o.ext x1 st.here)
    refine ⟨fun i m σ' H2 => m = l.length - i ∧ i ≤ l.length ∧ ∃ r', Hd C (keepA S1 :: T ++ Env C.K C.A lm (sl r') σ') H2 ∧ ends (loop set f (l.drop i) r') (fun
      | .nx r' => ∀ σ' H', Hd C (T ++ Env C.K C.A lm (sl r') σ') H' → D.nx σ' H'
      | .rt a r' => ∀ v σ' H', Hd C (itm C.K rk a v :: Env C.K C.A rm (sl r') σ') H' → D.rt v H'
      | .bk r' => ∀ σ' H', Hd C (T ++ Env C.K C.A lm' (sl r') σ') H' → D.bk σ' H'
      | .ct r' => ∀ σ' H', Hd C (T ++ Env C.K C.A lm' (sl r') σ') H' → D.ct σ' H') (fun c => ∀ H', Fr C H' → C.W H' c), ⟨l.length, by simp, Nat.zero_le _, r, kd, by rw [List.drop_zero]; exact q⟩, ?_⟩
    rintro i m σ2 H2 ⟨rfl, hi2, r2, hd2, q2⟩
    have sub : Sub S1 H2 := by
      obtain ⟨S, F, ⟨F1, F2, e1, h1, h2⟩, o⟩ := id hd2
      exact h1.2.trans o.sh
    by_cases hlt : i < l.length
    · refine .inr ⟨G.go i H2 hlt sub, fun σ' H' => ∃ m', m' < l.length - i ∧ (m' = l.length - (i + 1) ∧ i + 1 ≤ l.length ∧ ∃ r', Hd C (keepA S1 :: T ++ Env C.K C.A lm (sl r') σ') H' ∧ ends (loop set f (l.drop (i + 1)) r') (fun
      | .nx r' => ∀ σ' H', Hd C (T ++ Env C.K C.A lm (sl r') σ') H' → D.nx σ' H'
      | .rt a r' => ∀ v σ' H', Hd C (itm C.K rk a v :: Env C.K C.A rm (sl r') σ') H' → D.rt v H'
      | .bk r' => ∀ σ' H', Hd C (T ++ Env C.K C.A lm' (sl r') σ') H' → D.bk σ' H'
      | .ct r' => ∀ σ' H', Hd C (T ++ Env C.K C.A lm' (sl r') σ') H' → D.ct σ' H') (fun c => ∀ H', Fr C H' → C.W H' c)), fun σ' H' h => h, fun x H3 hy => ?_⟩
      refine G.yld i l[i] H2 x H3 σ2 _ (List.getElem?_eq_getElem hlt) sub hy fun vs s23 pt => ?_
      have hlen := (Hd.lens hd2)
      have hd3 := Hd.parts (is := is) (ps := parts l[i]) (vs := vs) (hd2.grow s23) pt (hpl _) (fun i hi => by have := hin i hi; omega)
      rw [show setSlots (sl r2) is (parts l[i]) = sl (set l[i] r2) from (hset _ _).symm] at hd3
      rw [List.drop_eq_getElem_cons hlt] at q2
      refine ⟨set l[i] r2, keepA S1 :: T, hd3, ends_mono (ends_bind q2) (fun fl efl q3 => ?_) fun c q => q⟩
      cases fl with
      | nx r' => exact fun σ' H' h' => ⟨l.length - (i + 1), by omega, rfl, by omega, r', h', q3⟩
      | ct r' => exact fun σ' H' h' => ⟨l.length - (i + 1), by omega, rfl, by omega, r', h', q3⟩
      | bk r' => exact fun σ' H' h' => q3 σ' H' (Hd.drop h')
      | rt a r' => exact q3
    · rw [show l.drop i = [] from List.drop_eq_nil_iff.mpr (by omega)] at q2
      exact .inl ⟨G.stop i H2 (by omega) sub, q2 σ2 H2 (Hd.drop hd2)⟩
theorem Hd.upd {A B : Assn} {L : List Assn} {H : Hp} {p : Addr} {o : HO} (h : Hd C (A :: L) H) (hp : ∀ S F, A.p S H F → F.Nodup → (∀ q ∈ F, S q = none) → Sub S H → p ∈ F ∧ ∃ F', F'.Nodup ∧ (∀ q ∈ F', q ∈ F) ∧ B.p S (L2.upd H p o) F') : Hd C (B :: L) (L2.upd H p o) := by
  obtain ⟨S, F, ⟨F1, F2, e, h1, h2⟩, k⟩ := h
  subst e
  have nd := List.nodup_append.mp k.nd
  obtain ⟨pin, F', nd', sub, hB⟩ := hp S F1 h1 nd.1 (fun q hq => k.dj q (List.mem_append_left _ hq)) k.sh
  have p2 : p ∉ F2 := fun z => nd.2.2 p pin p z rfl
  have sub' : ∀ q ∈ F' ++ F2, q ∈ F1 ++ F2 := fun q hq => (List.mem_append.mp hq).elim (fun z => List.mem_append_left _ (sub q z)) fun z => List.mem_append_right _ z
  refine ⟨S, F' ++ F2, ⟨F', F2, rfl, hB, h2.mono (Sub.refl S) fun q hq => upd_ne (fun z => p2 (by rw [← z]; exact hq))⟩, ?_⟩
  have pS : S p = none := k.dj p (List.mem_append_left _ pin)
  refine ⟨List.nodup_append.mpr ⟨nd', nd.2.1, fun x hx y hy z => nd.2.2 x (sub x hx) y hy z⟩, fun q hq => k.dj q (sub' q hq), fun q u hq => ?_, k.s0, fun q u hq hn => ?_, fun q hq => k.nw q (hq.imp_left (sub' q))⟩
  · rw [upd_ne (ne_of_none hq pS)]
    exact k.sh q u hq
  · by_cases e : q = p
    · subst e
      rcases k.nw q (.inl (List.mem_append_left _ pin)) with z | z | z
      · exact absurd (k.s0.back pS) z
      · exact absurd z hn
      · rw [hq] at z; cases z
    · rw [upd_ne e]
      exact k.fr q u hq hn
def starA (A B : Assn) : Assn := ⟨fun S H F => ∃ F1 F2, F = F1 ++ F2 ∧ A.p S H F1 ∧ B.p S H F2, fun ⟨F1, F2, e, h1, h2⟩ hs hk => ⟨F1, F2, e, A.mono h1 hs (fun q hq => hk q (by rw [e]; exact List.mem_append_left _ hq)), B.mono h2 hs (fun q hq => hk q (by rw [e]; exact List.mem_append_right _ hq))⟩,
  fun ⟨F1, F2, e, h1, h2⟩ q hq => by rw [e] at hq; exact (List.mem_append.mp hq).elim (A.here h1 q) (B.here h2 q)⟩
theorem Hd.join {A B : Assn} {L : List Assn} {H : Hp} (h : Hd C (A :: B :: L) H) : Hd C (starA A B :: L) H := by
  obtain ⟨S, F, ⟨F1, F2, e, h1, F3, F4, e2, h2, h3⟩, o⟩ := h
  subst e e2
  exact ⟨S, _, ⟨F1 ++ F3, F4, (List.append_assoc ..).symm, ⟨F1, F3, rfl, h1, h2⟩, h3⟩, o⟩
/-- a method that changes a list of our own, with one more thing -/
def Mut1 (K : PySem.W.Frag) (r : V → List V → Hp → VK → Prop) (op : List α → β → Option (List α)) (k kb : Nat) : Prop :=
  ∀ (H : Hp) (p : Addr) (xs : List V) (l : List α) (y : V) (b : β) (l' : List α) (Q : VK), H p = some (.lst xs) → xs.length = l.length → xs.length ≤ line → (∃ S F, Sub S H ∧ TB.rep K kb S H y b F) → op l b = some l' →
    (∀ xs' : List V, (∀ S F1 F2, Sub S H → Reps (fun v a F => TA.rep K k S H v a F) xs l F1 → TB.rep K kb S H y b F2 → (F1 ++ F2).Nodup → ∃ F', F'.Nodup ∧ (∀ q ∈ F', q ∈ F1 ++ F2) ∧ Reps (fun v a F => TA.rep K k S H v a F) xs' l' F') → xs'.length ≤ line → Q .non (L2.upd H p (.lst xs'))) → r (.ref p) [y] H Q
def fMut1 {ρ R α β : Type} (get : ρ → α) (set : α → ρ → ρ) (op : α → β → Option α) (f : ρ → M (β × ρ)) : ρ → M (Fl ρ R) := fun r => f r >>= fun br => up (op (get br.2) br.1) >>= fun l => .ok (.nx (set l br.2))
theorem s_mut1 {i k kb : Nat} {io : Option Nat} {t : V → List V → Hp → VK → Prop} {op : List α → β → Option (List α)} {get : ρ → List α} {set : List α → ρ → ρ} {f : ρ → M (β × ρ)} (mo : Mut1 C.K t op k kb) (h : PE X e (tBM C.K "list" t (tVar i) (tCons (tE C sl ms ms1 f kb) tNil)))
    (hm : ms[i]? = some (.own (k + 1) io)) (hm1 : ms1[i]? = some (.own (k + 1) io)) (hg : ∀ r, (sl r)[i]? = some ⟨get r⟩) (hset : ∀ a r, sl (set a r) = (sl r).set i ⟨a⟩) (hs : swapsWith e none pos.line X.env = pure false := by rfl) : PS X (.Expr e pos) (tS C (R := R) sl ms ms1 lm rm rk (fMut1 get set op f)) :=
  PS.conv (ps_expr h hs) fun D σ H ⟨r, T, hd, he⟩ => by
    obtain ⟨v, ev, S0, F0, ⟨Fa, Fb, _, ⟨x0, ex0, io0, p0, xs0, F', ep, n0, _, _⟩, _⟩, _⟩ := hd.open hm (hg r)
    subst ex0
    subst ep
    refine ⟨.ref p0, ev, Or.inl ⟨rfl, _, Or.inl (Or.inl n0.1)⟩, r, T, hd, ends_mono (ends_bind he) (fun br ebr q y H1 hd1 => ?_) fun c q => q⟩
    obtain ⟨l', el, q⟩ := up_ends (ends_bind q)
    have hd2 : Hd C ((itm C.K kb br.1 y :: T) ++ Env C.K C.A ms1 (sl br.2) σ) H1 := hd1
    obtain ⟨v', ev', hd3⟩ := hd2.open hm1 (hg br.2)
    rw [ev] at ev'
    cases ev'
    have hd4 := Hd.join (A := slotA C.K C.A (.own (k + 1) io) ⟨get br.2⟩ (some (.ref p0))) (B := itm C.K kb br.1 y) hd3
    obtain ⟨S1, F1, ⟨Fa1, Fb1, _, ⟨G1, G2, _, ⟨x1, ex1, io1, p1, xs1, G', ep1, n1, z1, r1⟩, rb1⟩, _⟩, ok1⟩ := id hd4
    cases ex1
    cases ep1
    refine mo H1 p0 xs1 (get br.2) y br.1 l' _ n1.1 r1.len z1 ⟨S1, G2, ok1.sh, rb1⟩ el fun xs' hx hz => ?_
    have hd5 : Hd C (slotA C.K C.A (.own (k + 1) io) ⟨l'⟩ (some (.ref p0)) :: (T ++ Env C.K C.A (ms1.set i .un) (sl br.2) σ)) (L2.upd H1 p0 (.lst xs')) := by
      refine hd4.upd fun S F hA nd dj sh => ?_
      obtain ⟨G1, G2, eF, ⟨x2, ex2, io2, p2, xs2, G', ep2, n2, z2, r2⟩, rb⟩ := hA
      cases ex2
      cases ep2
      have e2 : xs2 = xs1 := by
        have := n2.1.symm.trans n1.1
        cases this
        rfl
      subst e2
      have eG : G1 = p0 :: G' := n2.2
      subst eG eF
      have nd' : p0 ∉ G' ++ G2 ∧ (G' ++ G2).Nodup := List.nodup_cons.mp nd
      obtain ⟨F', ndF, sub, rr⟩ := hx S G' G2 sh r2 rb nd'.2
      have pF : p0 ∉ F' := fun z => nd'.1 (sub _ z)
      refine ⟨List.mem_append_left _ List.mem_cons_self, p0 :: F', List.nodup_cons.mpr ⟨pF, ndF⟩, fun q hq => ?_, .ref p0, rfl, io2, p0, xs', F', rfl, ⟨upd_same, rfl⟩, hz, rr.imp fun v a F2 hf q => TA.mono q (Sub.refl S) fun p hp => upd_ne (fun z => pF (by rw [← z]; exact hf p hp))⟩
      rcases List.mem_cons.mp hq with e | hq
      · rw [e]
        exact List.mem_append_left _ List.mem_cons_self
      · exact List.mem_cons_of_mem _ (sub q hq)
    have hlen : i < σ.length := (List.getElem?_eq_some_iff.mp ev).1
    have hd6 := Hd.close (m0 := .un) (i := i) hd5 hlen
    have e1 : σ.set i (some (.ref p0)) = σ := by
      obtain ⟨h1, h2⟩ := List.getElem?_eq_some_iff.mp ev
      rw [← h2]
      exact List.set_getElem_self h1
    have e3 : (ms1.set i .un).set i (.own (k + 1) io) = ms1 := by
      obtain ⟨h1, h2⟩ := List.getElem?_eq_some_iff.mp hm1
      rw [List.set_set, ← h2]
      exact List.set_getElem_self h1
    rw [e1, e3, ← hset] at hd6
    exact q σ _ hd6
@[irreducible] def appL {α : Type} (l : List α) (a : α) : Option (List α) := if l.length < 2 ^ 24 then some (l ++ [a]) else none
theorem mut_app {K : PySem.W.Frag} {k : Nat} : Mut1 K rAppend (appL (α := α)) k k := fun H p xs l y b l' Q hn hl hz _ e q => by
  unfold appL at e
  split at e
  · rename_i hh
    cases e
    refine ⟨p, xs, y, rfl, rfl, hn, by rw [hl]; exact hh, q _ (fun S F1 F2 _ r1 r2 nd => ⟨F1 ++ F2, nd, fun q hq => hq, ?_⟩) (by rw [List.length_append, hl]; exact hh)⟩
    exact r1.append ⟨F2, [], (List.append_nil _).symm, r2, rfl⟩
  · cases e
end
def runR {ρ R : Type} (f : ρ → M (Fl ρ R)) (r : ρ) : M R := f r >>= fun
  | .rt a _ => .ok a
  | _ => .error .stuck
theorem start_env {K : PySem.W.Frag} {A : Nat → Option V} {S H : Hp} : ∀ {ss : List Slot} {vs : List V} {n : Nat} {rest : List Slot}, Parts K (lv 0) S H ss vs → rest.length = n → Star (Env K A (List.replicate ss.length (lv 0) ++ List.replicate n .un) (ss ++ rest) (vs.map some ++ List.replicate n none)) S H []
  | [], [], 0, [], _, _ => rfl
  | [], [], n + 1, s :: rest, _, e => ⟨[], [], rfl, rfl, start_env (ss := []) (vs := []) (n := n) trivial (by simpa using e)⟩
  | [], [], 0, _ :: _, _, e => by simp at e
  | [], [], _ + 1, [], _, e => by simp at e
  | [], _ :: _, _, _, h, _ => h.elim
  | _ :: _, [], _, _, h, _ => h.elim
  | s :: ss, v :: vs, n, rest, ⟨h1, h2⟩, e => by
    obtain ⟨x, ex, r⟩ := h1
    cases ex
    refine ⟨[], [], rfl, ⟨v, rfl, trivial, s.inst.mono r (Sub.refl S) fun p hp => nomatch hp⟩, start_env h2 e⟩
section
variable {P : Program} {w : World} {K : PySem.W.Frag} {mg : Str → Option Value} {base : Heap}
theorem Parts.length {kd : Mode} {S H : Hp} : ∀ {ss : List Slot} {vs : List V}, Parts K kd S H ss vs → ss.length = vs.length
  | [], [], _ => rfl
  | [], _ :: _, h => h.elim
  | _ :: _, [], h => h.elim
  | _ :: _, _ :: _, ⟨_, h⟩ => by rw [List.length_cons, List.length_cons, h.length]
/-- a def that changes nothing: its body, for every call -/
theorem ok_def {x qual : Str} {st : Stmt} {f : Addr} {fd : FuncData} {N ps : List Str} {k rk : Nat} {A ρ R : Type} [T : ArgTy A] [TR : PyTy R] {sl : ρ → List Slot} {ms' rm : List Mode} {g : ρ → M (Fl ρ R)} {ini : A → ρ} (F : Fun K x qual st f fd) (S : FnScope N ps (defScope st))
    (hal : ∀ a, (T.al a).length = ps.length) (hini : ∀ a, ∃ rest, sl (ini a) = T.al a ++ rest ∧ rest.length = N.length - ps.length)
    (hbody : ∀ (cdv : Value) (A : Around) (outer : List PySem.Env) (s : Shared) (H : Hp) (E : XK) (H0 S0 : Hp) (vs : List V), Room k (A.deeper (envOfC qual (defScope st) s.heap.objs.size f cdv)) → PSs (cxOf CX0 P w K mg base N qual (defScope st) f cdv A outer s H E).nox (defBody st) (tS ⟨K, H0, S0, [], fun i => vs[i]?, noW⟩ sl (List.replicate ps.length (lv 0) ++ List.replicate (N.length - ps.length) .un) ms' [] rm rk g)) :
    FnOk P w K mg base CX0 (k + 1) f fd ps (spP K rk fun a => runR g (ini a)) := by
  refine F.ok S (fun vs H Q E h => ?_) (fun cdv A outer s H vs Q E hr h => ?_)
  · obtain ⟨a, S, _, pt, _⟩ := h
    rw [← pt.length, hal]
  · obtain ⟨a, S0, hs, pt, he⟩ := h
    refine ⟨_, hbody cdv A outer s H E H S0 vs hr, ini a, [], ⟨S0, [], ?_, List.nodup_nil, (fun p hp => nomatch hp), hs, Sub.refl S0, fun p o q _ => q, fun p q => .inl (q.resolve_left fun z => nomatch z)⟩, ends_mono (ends_bind he) (fun o eo q => ?_) fun c q => q.elim⟩
    · obtain ⟨rest, e, hl⟩ := hini a
      rw [e]
      have := start_env (K := K) (A := fun i => vs[i]?) (S := S0) (H := H) pt hl
      rw [hal] at this
      have e2 : start N vs = vs.map some ++ List.replicate (N.length - ps.length) none := by
        show vs.map some ++ List.replicate (N.length - vs.length) none = _
        rw [← pt.length, hal]
      rw [e2]
      exact this
    · cases o with
      | nx r' => exact q.elim
      | bk r' => exact q.elim
      | ct r' => exact q.elim
      | rt c r' =>
        intro v σ' H' hd
        obtain ⟨S', F, ⟨F1, F2, e, h1, h2⟩, o⟩ := hd
        subst e
        have o' := o.less (List.sublist_append_left F1 F2)
        refine q v S' H' F1 ⟨(fun p u z => o'.fr p u z (fun y => nomatch y)), o'.s0, o'.sh, (fun p z => (o'.nw p (.inr z)).imp_right fun y => y.resolve_left fun y => nomatch y), (fun p hp => ⟨?_, o'.dj p hp⟩), o'.nd⟩ h1
        rcases o'.nw p (.inl hp) with z | z | z
        · exact absurd (o'.s0.back (o'.dj p hp)) z
        · cases z
        · exact z
end
end VL
namespace VL
open PySem PySem.Spec PyProof.Rows L2
/-- what v is, the heap tells -/
class Func (α : Type) [T : PyTy α] : Prop where
  one : ∀ {K S H H' v a b F F'}, T.rep K 0 S H v a F → T.rep K 0 S H' v b F' → a = b
theorem reps_one {α : Type} [T : PyTy α] [Fn : Func α] {K : PySem.W.Frag} {S H H' : Hp} : ∀ {vs : List V} {l m : List α} {F F' : List Addr}, Reps (fun v a F => T.rep K 0 S H v a F) vs l F → Reps (fun v a F => T.rep K 0 S H' v a F) vs m F' → l = m
  | [], [], [], _, _, _, _ => rfl
  | [], _ :: _, _, _, _, h, _ => h.elim
  | [], [], _ :: _, _, _, _, h => h.elim
  | _ :: _, [], _, _, _, h, _ => h.elim
  | _ :: _, _ :: _, [], _, _, _, h => h.elim
  | _ :: _, _ :: _, _ :: _, _, _, ⟨_, _, _, h1, h2⟩, ⟨_, _, _, g1, g2⟩ => by rw [Fn.one h1 g1, reps_one h2 g2]
class ValInj (α : Type) [PyTy α] [T : Scal α] : Prop where
  vinj : ∀ a b : α, T.val a = T.val b → a = b
instance : ValInj Int := ⟨fun _ _ h => V.int.inj h⟩
instance : ValInj Bool := ⟨fun _ _ h => V.bl.inj h⟩
instance : ValInj Str := ⟨fun _ _ h => V.str.inj h⟩
instance : ValInj Unit := ⟨fun _ _ _ => rfl⟩
instance {α : Type} [T : PyTy α] [C : Scal α] [I : ValInj α] : Func α := ⟨fun h g => I.vinj _ _ ((C.scal.mp h).1.symm.trans (C.scal.mp g).1)⟩
instance {α : Type} [T : PyTy α] [Fn : Func α] : Func (List α) := ⟨fun ⟨p, xs, F', e, n, z, r⟩ ⟨p2, xs2, F2, e2, n2, z2, r2⟩ => by
  rw [e] at e2
  cases e2
  have := n.1.symm.trans n2.1
  cases this
  exact reps_one r r2⟩
instance {α β : Type} [TA : PyTy α] [TB : PyTy β] [FA : Func α] [FB : Func β] : Func (α × β) := ⟨fun ⟨p, x, y, F1, F2, e, n, r1, r2⟩ ⟨p2, x2, y2, G1, G2, e2, n2, q1, q2⟩ => by
  rw [e] at e2
  cases e2
  have := n.1.symm.trans n2.1
  cases this
  exact Prod.ext (FA.one r1 q1) (FB.one r2 q2)⟩
/-- what becomes of a slot: it is lent (it stays as it is), it is closed, or it is dropped -/
inductive Pl where | fix (k : Nat) (io : Option Nat) | cl (k : Nat) (io : Option Nat) | un
def plB (j : Nat) : Pl → Mode
  | .fix _ _ => .own 0 (some (1000 + j))
  | .cl k io => .own k io
  | .un => .un
def plM : Pl → Mode
  | .fix k io => .own k io
  | .cl k io => .own k io
  | .un => .un
def plBs : Nat → List Pl → List Mode
  | _, [] => []
  | j, p :: ps => plB j p :: plBs (j + 1) ps
structure Get (ρ : Type) where
  {α : Type}
  [inst : PyTy α]
  get : ρ → α
abbrev slots {ρ : Type} (gs : List (Get ρ)) (r : ρ) : List Slot := gs.map fun g => @Slot.mk g.α g.inst (g.get r)
def PlOk {ρ : Type} : List Pl → List (Get ρ) → Prop
  | [], [] => True
  | .fix _ _ :: ps, g :: gs => @Func g.α g.inst ∧ PlOk ps gs
  | .cl k _ :: ps, g :: gs => @Closed g.α g.inst k ∧ PlOk ps gs
  | .un :: ps, _ :: gs => PlOk ps gs
  | _, _ => False
def smallIo : List Pl → Bool
  | [] => true
  | .fix _ (some i) :: ps => decide (i < 1000) && smallIo ps
  | .cl _ (some i) :: ps => decide (i < 1000) && smallIo ps
  | .fix _ none :: ps => smallIo ps
  | .cl _ none :: ps => smallIo ps
  | .un :: ps => smallIo ps
/-- the slots that are lent, with their footprint -/
def Lent (K : PySem.W.Frag) (A : Nat → Option V) (S H : Hp) {ρ : Type} (r : ρ) : List Pl → List (Get ρ) → List (Option V) → List Addr → Prop
  | [], [], [], F => F = []
  | .fix k io :: ps, g :: gs, v :: vs, F => ∃ F1 F2, F = F1 ++ F2 ∧ (∃ x, v = some x ∧ ioAt A io x ∧ g.inst.rep K k S H x (g.get r) F1) ∧ Lent K A S H r ps gs vs F2
  | .cl _ _ :: ps, _ :: gs, _ :: vs, F => Lent K A S H r ps gs vs F
  | .un :: ps, _ :: gs, _ :: vs, F => Lent K A S H r ps gs vs F
  | _, _, _, _ => False
def newA (A : Nat → Option V) (vs : List (Option V)) : Nat → Option V := fun n => if n < 1000 then A n else (vs[n - 1000]?).join
theorem newA_lo {A : Nat → Option V} {vs : List (Option V)} {n : Nat} (h : n < 1000) : newA A vs n = A n := if_pos h
theorem newA_hi {A : Nat → Option V} {vs : List (Option V)} {j : Nat} : newA A vs (1000 + j) = (vs[j]?).join := by
  unfold newA
  rw [if_neg (by omega), show 1000 + j - 1000 = j by omega]
section
variable {K : PySem.W.Frag} {A : Nat → Option V} {ρ : Type} {r r' : ρ} {S H : Hp}
/-- the slots part: what is lent, the rest -/
theorem lend_split : ∀ {pl : List Pl} {gs : List (Get ρ)} {vs : List (Option V)} {F : List Addr}, Star (Env K A (pl.map plM) (slots gs r) vs) S H F → pl.length = gs.length → ∃ FL FC, F.Perm (FL ++ FC) ∧ Lent K A S H r pl gs vs FL ∧
    ∀ (S1 : Hp) (vs0 : List (Option V)) (j : Nat), Sub S S1 → (∀ p ∈ FL, S1 p = H p) → (∀ i, vs0[j + i]? = vs[i]?) → smallIo pl = true → Star (Env K (newA A vs0) (plBs j pl) (slots gs r) vs) S1 H FC
  | [], [], [], F, h, _ => ⟨[], [], by rw [show F = [] from h]; exact .nil, rfl, fun S1 vs0 j _ _ _ _ => rfl⟩
  | [], [], _ :: _, _, ⟨_, _, _, h, _⟩, _ => h.elim
  | [], _ :: _, _, _, _, e => by simp at e
  | _ :: _, [], _, _, _, e => by simp at e
  | _ :: _, _ :: _, [], _, ⟨_, _, _, h, _⟩, _ => h.elim
  | .un :: pl, g :: gs, v :: vs, F, ⟨F1, F2, e, h1, h2⟩, el => by
    obtain ⟨FL, FC, p, l, k⟩ := lend_split (pl := pl) (gs := gs) h2 (by simpa using el)
    have e1 : F1 = [] := h1
    subst e1 e
    refine ⟨FL, FC, p, l, fun S1 vs0 j hs hk hv hio => ⟨[], FC, rfl, rfl, k S1 vs0 (j + 1) hs hk (fun i => ?_) hio⟩⟩
    have := hv (i + 1)
    rw [show j + 1 + i = j + (i + 1) by omega, this]
    rfl
  | .cl c io :: pl, g :: gs, v :: vs, F, ⟨F1, F2, e, ⟨x, ex, hx, hr⟩, h2⟩, el => by
    obtain ⟨FL, FC, p, l, k⟩ := lend_split (pl := pl) (gs := gs) h2 (by simpa using el)
    subst e ex
    refine ⟨FL, F1 ++ FC, ?_, l, fun S1 vs0 j hs hk hv hio => ⟨F1, FC, rfl, ⟨x, rfl, ?_, g.inst.mono hr hs fun _ _ => rfl⟩, k S1 vs0 (j + 1) hs hk (fun i => ?_) ?_⟩⟩
    · refine (List.Perm.append_left F1 p).trans ?_
      rw [← List.append_assoc, ← List.append_assoc]
      exact List.Perm.append_right _ List.perm_append_comm
    · cases io with
      | none => trivial
      | some i =>
        have hio' := Bool.and_eq_true_iff.mp (show (decide (i < 1000) && smallIo pl) = true from hio)
        show newA A vs0 i = some x
        rw [newA_lo (of_decide_eq_true hio'.1)]
        exact hx
    · have := hv (i + 1)
      rw [show j + 1 + i = j + (i + 1) by omega, this]
      rfl
    · cases io with
      | none => exact hio
      | some i => exact (Bool.and_eq_true_iff.mp (show (decide (i < 1000) && smallIo pl) = true from hio)).2
  | .fix c io :: pl, g :: gs, v :: vs, F, ⟨F1, F2, e, ⟨x, ex, hx, hr⟩, h2⟩, el => by
    obtain ⟨FL, FC, p, l, k⟩ := lend_split (pl := pl) (gs := gs) h2 (by simpa using el)
    subst e ex
    refine ⟨F1 ++ FL, FC, ?_, ⟨F1, FL, rfl, ⟨x, rfl, hx, hr⟩, l⟩, fun S1 vs0 j hs hk hv hio => ⟨[], FC, rfl, ⟨x, rfl, ?_, g.inst.freeze hr hs (fun p hp => hk p (List.mem_append_left _ hp)) H⟩, k S1 vs0 (j + 1) hs (fun p hp => hk p (List.mem_append_right _ hp)) (fun i => ?_) ?_⟩⟩
    · rw [List.append_assoc]
      exact List.Perm.append_left F1 p
    · show newA A vs0 (1000 + j) = some x
      rw [newA_hi]
      have := hv 0
      rw [Nat.add_zero] at this
      rw [this]
      rfl
    · have := hv (i + 1)
      rw [show j + 1 + i = j + (i + 1) by omega, this]
      rfl
    · cases io with
      | none => exact hio
      | some i => exact (Bool.and_eq_true_iff.mp (show (decide (i < 1000) && smallIo pl) = true from hio)).2
theorem Lent.here : ∀ {pl : List Pl} {gs : List (Get ρ)} {vs : List (Option V)} {F : List Addr}, Lent K A S H r pl gs vs F → ∀ q ∈ F, H q ≠ none
  | [], [], [], _, h => by rw [show _ = [] from h]; intro q hq; cases hq
  | .fix _ _ :: _, g :: _, _ :: _, _, ⟨F1, F2, e, ⟨x, ex, _, hr⟩, h2⟩ => by
    subst e
    intro q hq
    exact (List.mem_append.mp hq).elim (g.inst.here hr q) (Lent.here h2 q)
  | .cl _ _ :: pl, _ :: gs, _ :: vs, _, h => Lent.here (pl := pl) (gs := gs) (vs := vs) h
  | .un :: pl, _ :: gs, _ :: vs, _, h => Lent.here (pl := pl) (gs := gs) (vs := vs) h
  | [], [], _ :: _, _, h => h.elim
  | [], _ :: _, _, _, h => h.elim
  | .fix _ _ :: _, [], _, _, h => h.elim
  | .cl _ _ :: _, [], _, _, h => h.elim
  | .un :: _, [], _, _, h => h.elim
  | .fix _ _ :: _, _ :: _, [], _, h => h.elim
  | .cl _ _ :: _, _ :: _, [], _, h => h.elim
  | .un :: _, _ :: _, [], _, h => h.elim
/-- .. and back -/
theorem lend_back {S' H' S2 : Hp} (s1 : Sub S S2) (s2 : Sub S S') : ∀ {pl : List Pl} {gs : List (Get ρ)} {vs vs' : List (Option V)} {FL F' : List Addr} {vs0 : List (Option V)} {j : Nat}, Lent K A S H r pl gs vs FL → (∀ p ∈ FL, S' p = H p ∧ H' p = H p) → Star (Env K (newA A vs0) (plBs j pl) (slots gs r') vs') S' H' F' → PlOk pl gs → smallIo pl = true → (∀ i, vs0[j + i]? = vs[i]?)  →
    ∃ F'', F''.Perm (FL ++ F') ∧ Star (Env K A (pl.map plM) (slots gs r') vs') S2 H' F''
  | [], [], [], [], FL, F', _, _, l, _, h, _, _, _ => ⟨[], by rw [show FL = [] from l, show F' = [] from h]; exact .nil, rfl⟩
  | [], [], [], _ :: _, _, _, _, _, _, _, ⟨_, _, _, h, _⟩, _, _, _ => h.elim
  | [], [], _ :: _, _, _, _, _, _, h, _, _, _, _, _ => h.elim
  | [], _ :: _, _, _, _, _, _, _, h, _, _, _, _, _ => h.elim
  | .fix _ _ :: _, [], _, _, _, _, _, _, h, _, _, _, _, _ => h.elim
  | .cl _ _ :: _, [], _, _, _, _, _, _, h, _, _, _, _, _ => h.elim
  | .un :: _, [], _, _, _, _, _, _, h, _, _, _, _, _ => h.elim
  | .fix _ _ :: _, _ :: _, [], _, _, _, _, _, h, _, _, _, _, _ => h.elim
  | .cl _ _ :: _, _ :: _, [], _, _, _, _, _, h, _, _, _, _, _ => h.elim
  | .un :: _, _ :: _, [], _, _, _, _, _, h, _, _, _, _, _ => h.elim
  | .fix _ _ :: _, _ :: _, _ :: _, [], _, _, _, _, _, _, ⟨_, _, _, h, _⟩, _, _, _ => h.elim
  | .cl _ _ :: _, _ :: _, _ :: _, [], _, _, _, _, _, _, ⟨_, _, _, h, _⟩, _, _, _ => h.elim
  | .un :: _, _ :: _, _ :: _, [], _, _, _, _, _, _, ⟨_, _, _, h, _⟩, _, _, _ => h.elim
  | .un :: pl, g :: gs, v :: vs, v' :: vs', FL, F', vs0, j, l, hk, ⟨F1, F2, e, h1, h2⟩, ok, hio, hv => by
    have e1 : F1 = [] := h1
    subst e1 e
    obtain ⟨F'', p, st⟩ := lend_back s1 s2 (pl := pl) (gs := gs) (vs := vs) (vs' := vs') (j := j + 1) l hk h2 ok hio (fun i => by
      have := hv (i + 1)
      rw [show j + 1 + i = j + (i + 1) by omega, this]
      rfl)
    exact ⟨F'', p, [], F'', rfl, rfl, st⟩
  | .cl c io :: pl, g :: gs, v :: vs, v' :: vs', FL, F', vs0, j, l, hk, ⟨F1, F2, e, ⟨x, ex, hx, hr⟩, h2⟩, ok, hio, hv => by
    subst e ex
    have hio2 : smallIo pl = true := by
      cases io with
      | none => exact hio
      | some i => exact (Bool.and_eq_true_iff.mp (show (decide (i < 1000) && smallIo pl) = true from hio)).2
    obtain ⟨F'', p, st⟩ := lend_back s1 s2 (pl := pl) (gs := gs) (vs := vs) (vs' := vs') (j := j + 1) l hk h2 ok.2 hio2 (fun i => by
      have := hv (i + 1)
      rw [show j + 1 + i = j + (i + 1) by omega, this]
      rfl)
    refine ⟨F1 ++ F'', ?_, F1, F'', rfl, ⟨x, rfl, ?_, @Closed.closed g.α g.inst c ok.1 _ _ _ _ _ _ _ hr⟩, st⟩
    · refine (List.Perm.append_left F1 p).trans ?_
      rw [← List.append_assoc, ← List.append_assoc]
      exact List.Perm.append_right _ List.perm_append_comm
    · cases io with
      | none => trivial
      | some i =>
        have hio' := Bool.and_eq_true_iff.mp (show (decide (i < 1000) && smallIo pl) = true from hio)
        have : newA A vs0 i = some x := hx
        rw [newA_lo (of_decide_eq_true hio'.1)] at this
        exact this
  | .fix c io :: pl, g :: gs, v :: vs, v' :: vs', FL, F', vs0, j, ⟨G1, G2, eG, ⟨y, ey, hiy, hy⟩, l⟩, hk, ⟨F1, F2, e, ⟨x, ex, hx, hr⟩, h2⟩, ok, hio, hv => by
    subst e ex ey eG
    have hio2 : smallIo pl = true := by
      cases io with
      | none => exact hio
      | some i => exact (Bool.and_eq_true_iff.mp (show (decide (i < 1000) && smallIo pl) = true from hio)).2
    obtain ⟨F'', p, st⟩ := lend_back s1 s2 (pl := pl) (gs := gs) (vs := vs) (vs' := vs') (j := j + 1) l (fun p hp => hk p (List.mem_append_right _ hp)) h2 ok.2 hio2 (fun i => by
      have := hv (i + 1)
      rw [show j + 1 + i = j + (i + 1) by omega, this]
      rfl)
    have exy : x = y := by
      have h0 : newA A vs0 (1000 + j) = some x := hx
      rw [newA_hi] at h0
      have := hv 0
      rw [Nat.add_zero] at this
      rw [this] at h0
      have h1 : some y = some x := h0
      cases h1
      rfl
    subst exy
    have same : g.get r = g.get r' := @Func.one g.α g.inst ok.1 _ _ _ _ _ _ _ _ _ (g.inst.freeze hy s2 (fun p hp => (hk p (List.mem_append_left _ hp)).1) H') hr
    have F10 : F1 = [] := g.inst.zero hr
    subst F10
    refine ⟨G1 ++ F'', ?_, G1, F'', rfl, ⟨x, rfl, ?_, ?_⟩, st⟩
    · rw [List.append_assoc]
      exact List.Perm.append_left G1 p
    · exact hiy
    · show g.inst.rep K c S2 H' x (g.get r') G1
      rw [← same]
      exact g.inst.mono hy s1 fun p hp => (hk p (List.mem_append_left _ hp)).2
end
theorem lent_len {K : PySem.W.Frag} {A : Nat → Option V} {S H : Hp} {ρ : Type} {r : ρ} {pl : List Pl} {gs : List (Get ρ)} (h : PlOk pl gs) : pl.length = gs.length := by
  induction pl generalizing gs with
  | nil => cases gs with
    | nil => rfl
    | cons _ _ => exact h.elim
  | cons p pl ih => cases gs with
    | nil => cases p <;> exact h.elim
    | cons g gs =>
      rw [List.length_cons, List.length_cons]
      cases p with
      | fix _ _ => rw [ih h.2]
      | cl _ _ => rw [ih h.2]
      | un => rw [ih h]
/-- what is not touched: as it stood in H0 -/
def asA (F0 : List Addr) (H0 : Hp) : Assn := ⟨fun _ H F => F = F0 ∧ (∀ q ∈ F, H q = H0 q) ∧ ∀ q ∈ F, H0 q ≠ none, fun h _ hk => ⟨h.1, fun q hq => (hk q hq).trans (h.2.1 q hq), h.2.2⟩, fun h q hq => by rw [h.2.1 q hq]; exact h.2.2 q hq⟩
section
variable {X : Cx} {C : Ct} {ρ R : Type} [TR : PyTy R] {gs : List (Get ρ)} {rm : List Mode} {rk : Nat} {st : Stmt}
def NoB {ρ R : Type} (f : ρ → M (Fl ρ R)) : Prop := ∀ r r', f r ≠ .ok (.bk r') ∧ f r ≠ .ok (.ct r')
theorem nob_loop {ρ R β : Type} {set : β → ρ → ρ} {body : ρ → M (Fl ρ R)} : ∀ (l : List β) (r r' : ρ), loop set body l r ≠ .ok (.bk r') ∧ loop set body l r ≠ .ok (.ct r')
  | [], r, r' => ⟨(fun h => nomatch h), (fun h => nomatch h)⟩
  | b :: l, r, r' => by
    unfold loop
    cases e : body (set b r) with
    | error z => exact ⟨(fun h => nomatch h), (fun h => nomatch h)⟩
    | ok o => cases o with
      | nx r1 => exact nob_loop l r1 r'
      | ct r1 => exact nob_loop l r1 r'
      | bk r1 => exact ⟨(fun h => nomatch h), (fun h => nomatch h)⟩
      | rt a r1 => exact ⟨(fun h => nomatch h), (fun h => nomatch h)⟩
theorem nob_for {ρ R β : Type} {xs : ρ → M (List β)} {set : β → ρ → ρ} {body : ρ → M (Fl ρ R)} : NoB (fFor xs set body) := fun r r' => by
  unfold fFor
  cases e : xs r with
  | error z => exact ⟨(fun h => nomatch h), (fun h => nomatch h)⟩
  | ok l => exact nob_loop l r r'
theorem s_lend {pl : List Pl} {ms0 ms2 lm0 : List Mode} [CR : Closed R rk] {f : ρ → M (Fl ρ R)} (ok : PlOk pl gs) (hio : smallIo pl = true) (w : wk (pl.map plM) rm = true) (nb : NoB f) (h : ∀ (S0 : Hp) (A : Nat → Option V), PS X st (tS ⟨C.K, C.H0, S0, C.P, A, C.W⟩ (slots gs) (plBs 0 pl) (plBs 0 pl) (plBs 0 pl) (plBs 0 pl) rk f)) (e0 : ms0 = pl.map plM := by rfl) (e2 : ms2 = pl.map plM := by rfl) :
    PS X st (tS C (slots gs) ms0 ms2 lm0 rm rk f) := by
  subst e0 e2
  refine ⟨fun pins s σ H D I q => ?_⟩
  obtain ⟨r, T, ⟨S, F, star, o⟩, he⟩ := q
  obtain ⟨FT, FE, e, hT, hE⟩ := star.split
  subst e
  obtain ⟨FL, FC, p, l, k⟩ := lend_split hE (lent_len (K := C.K) (A := C.A) (S := S) (H := H) (r := r) ok)
  have dj : ∀ q ∈ FL, S q = none := fun q hq => o.dj q (List.mem_append_right _ (p.mem_iff.mpr (List.mem_append_left _ hq)))
  have o1 : OkS C S (FL ++ (FT ++ FC)) H := o.perm (by
    refine (List.Perm.append_left FT p).trans ?_
    rw [← List.append_assoc, ← List.append_assoc]
    exact List.Perm.append_right _ List.perm_append_comm)
  have o2 := o1.share
  have ndL := List.nodup_append.mp o1.nd
  -- what is wanted, behind the block
  have back : ∀ (L' L : List Assn) (r' : ρ) (σ' : List (Option V)) (H' : Hp), (∀ S' S2 F1, Sub S S2 → Star L' S' H' F1 → Star L S2 H' F1) → Hd ⟨C.K, C.H0, add S H FL, C.P, newA C.A σ, C.W⟩ (L' ++ Env C.K (newA C.A σ) (plBs 0 pl) (slots gs r') σ') H' → Hd C (L ++ Env C.K C.A (pl.map plM) (slots gs r') σ') H' := by
    rintro L' L r' σ' H' conv ⟨S', F', star', o'⟩
    obtain ⟨F1, F2, e, h1, h2⟩ := star'.split
    subst e
    have sub : Sub (add S H FL) S' := o'.s0
    have sS : Sub S S' := (add_sub dj).trans sub
    have atL : ∀ q ∈ FL, S' q = H q := fun q hq => by
      have := l.here q hq
      rw [sub.eq_of (p := q) (by rw [add_in hq]; exact this), add_in hq]
    have atH : ∀ q ∈ FL, H' q = H q := fun q hq => by
      have := atL q hq
      rw [o'.sh.eq_of (by rw [this]; exact l.here q hq), this]
    let S2 : Hp := fun q => if q ∈ FL then none else S' q
    have S2in : ∀ q, q ∈ FL → S2 q = none := fun q hq => if_pos hq
    have S2out : ∀ q, q ∉ FL → S2 q = S' q := fun q hq => if_neg hq
    have s12 : Sub S S2 := fun q u hu => by
      by_cases hq : q ∈ FL
      · rw [dj q hq] at hu; cases hu
      · rw [S2out q hq]; exact sS q u hu
    obtain ⟨F'', pp, st'⟩ := lend_back s12 sS l (fun q hq => ⟨atL q hq, atH q hq⟩) h2 ok hio (fun i => by rw [Nat.zero_add])
    have nd' := List.nodup_append.mp o'.nd
    have notL : ∀ q ∈ F1 ++ F2, q ∉ FL := fun q hq z => by
      have := o'.dj q hq
      rw [atL q z] at this
      exact l.here q z this
    refine ⟨S2, F1 ++ F'', (conv S' S2 F1 s12 h1).append st', ?_⟩
    have o3 : OkS C S2 (F1 ++ (FL ++ F2)) H' := by
      refine ⟨?_, fun q hq => ?_, fun q u hu => ?_, o.s0.trans s12, o'.fr, fun q hq => ?_⟩
      · refine List.nodup_append.mpr ⟨nd'.1, List.nodup_append.mpr ⟨ndL.1, nd'.2.1, fun x hx y hy z => notL y (List.mem_append_right _ hy) (by rw [← z]; exact hx)⟩, fun x hx y hy z => ?_⟩
        subst z
        rcases List.mem_append.mp hy with hy | hy
        · exact notL x (List.mem_append_left _ hx) hy
        · exact nd'.2.2 x hx x hy rfl
      · by_cases z : q ∈ FL
        · exact S2in q z
        · rw [S2out q z]
          refine o'.dj q ?_
          rcases List.mem_append.mp hq with hq | hq
          · exact List.mem_append_left _ hq
          · exact List.mem_append_right _ ((List.mem_append.mp hq).resolve_left z)
      · by_cases z : q ∈ FL
        · rw [S2in q z] at hu; cases hu
        · rw [S2out q z] at hu; exact o'.sh q u hu
      · have orig : q ∈ FL ∨ S q ≠ none → C.S0 q ≠ none ∨ q ∈ C.P ∨ C.H0 q = none := fun z => o1.nw q (z.imp_left fun y => List.mem_append_left _ y)
        have via : (q ∈ F1 ++ F2 ∨ S' q ≠ none) → C.S0 q ≠ none ∨ q ∈ C.P ∨ C.H0 q = none := fun z => by
          rcases o'.nw q z with y | y
          · by_cases hq : q ∈ FL
            · exact orig (.inl hq)
            · have y' : add S H FL q ≠ none := y
              rw [add_out hq] at y'
              exact orig (.inr y')
          · exact .inr y
        rcases hq with hq | hq
        · rcases List.mem_append.mp hq with hq | hq
          · exact via (.inl (List.mem_append_left _ hq))
          · rcases List.mem_append.mp hq with hq | hq
            · exact orig (.inl hq)
            · exact via (.inl (List.mem_append_right _ hq))
        · by_cases z : q ∈ FL
          · exact orig (.inl z)
          · rw [S2out q z] at hq
            exact via (.inr hq)
    exact o3.perm (List.Perm.append_left F1 pp.symm)
  have convT : ∀ (H' : Hp) (S' S2 : Hp) (F1 : List Addr), Sub S S2 → Star [asA FT H] S' H' F1 → Star T S2 H' F1 := by
    rintro H' S' S2 F1 s12 ⟨G1, G2, eg, ⟨eF, hk, _⟩, h1'⟩
    have eG2 : G2 = [] := h1'
    subst eG2
    rw [List.append_nil] at eg
    subst eg
    subst eF
    exact hT.mono s12 hk
  refine (h (add S H FL) (newA C.A σ)).run pins s σ H D I ⟨r, [asA FT H], ⟨add S H FL, FT ++ FC, ?_, ?_⟩, ends_mono he (fun fl efl q => ?_) fun c q => q⟩
  · refine Star.append (l := [asA FT H]) ⟨FT, [], (List.append_nil _).symm, ⟨rfl, fun _ _ => rfl, hT.here⟩, rfl⟩ (k (add S H FL) σ 0 (add_sub dj) (fun q hq => add_in hq) (fun i => by rw [Nat.zero_add]) hio)
  · exact ⟨o2.nd, o2.dj, o2.sh, Sub.refl _, o2.fr, fun q hq => by
      rcases hq with hq | hq
      · rcases o2.nw q (.inl hq) with z | z
        · refine .inl ?_
          have := o2.s0.eq_of z
          show add S H FL q ≠ none
          rw [this]; exact z
        · exact .inr z
      · exact .inl hq⟩
  · cases fl with
    | nx r' => exact fun σ' H' h' => q σ' H' (back [asA FT H] T r' σ' H' (convT H') h')
    | bk r' => exact absurd efl (nb r r').1
    | ct r' => exact absurd efl (nb r r').2
    | rt a r' =>
      intro v σ' H' h'
      refine q v σ' H' (Hd.weak (T := [itm C.K rk a v]) (back [itm C.K rk a v] [itm C.K rk a v] r' σ' H' (fun S' S2 F1 _ z => ?_) h') w)
      obtain ⟨G1, G2, e, h1, h2⟩ := z
      exact ⟨G1, G2, e, CR.closed h1, h2⟩
end
end VL
namespace VL
open PySem PySem.Spec PyProof.Rows L2
/-- rising, each once -/
def sins (x : Int) : List Int → List Int
  | [] => [x]
  | y :: l => if x < y then x :: y :: l else if x = y then y :: l else y :: sins x l
def ssort (l : List Int) : List Int := l.foldr sins []
theorem sins_mem {x y : Int} : ∀ {l : List Int}, y ∈ sins x l ↔ y = x ∨ y ∈ l
  | [] => by simp [sins]
  | z :: l => by
    unfold sins
    split
    · simp
    · split
      · rename_i h
        subst h
        simp
      · rw [List.mem_cons, sins_mem, List.mem_cons]
        constructor
        · rintro (h | h | h)
          · exact .inr (.inl h)
          · exact .inl h
          · exact .inr (.inr h)
        · rintro (h | h | h)
          · exact .inr (.inl h)
          · exact .inl h
          · exact .inr (.inr h)
theorem sins_sorted {x : Int} : ∀ {l : List Int}, l.Pairwise (· < ·) → (sins x l).Pairwise (· < ·)
  | [], _ => by simp [sins]
  | z :: l, h => by
    obtain ⟨h1, h2⟩ := List.pairwise_cons.mp h
    unfold sins
    split
    · rename_i hx
      refine List.pairwise_cons.mpr ⟨fun y hy => ?_, h⟩
      rcases List.mem_cons.mp hy with e | hy
      · rw [e]; exact hx
      · have := h1 y hy; omega
    · split
      · exact h
      · refine List.pairwise_cons.mpr ⟨fun y hy => ?_, sins_sorted h2⟩
        rcases sins_mem.mp hy with e | hy
        · rw [e]; omega
        · exact h1 y hy
theorem ssort_mem {y : Int} : ∀ {l : List Int}, y ∈ ssort l ↔ y ∈ l
  | [] => Iff.rfl
  | x :: l => by
    show y ∈ sins x (ssort l) ↔ y ∈ x :: l
    rw [sins_mem, ssort_mem, List.mem_cons]
theorem ssort_sorted : ∀ l : List Int, (ssort l).Pairwise (· < ·)
  | [] => .nil
  | x :: l => sins_sorted (ssort_sorted l)
theorem rising_eq : ∀ {l m : List Int}, l.Pairwise (· < ·) → m.Pairwise (· < ·) → (∀ k, k ∈ l ↔ k ∈ m) → l = m
  | [], [], _, _, _ => rfl
  | [], y :: m, _, _, h => absurd ((h y).mpr List.mem_cons_self) (fun z => nomatch z)
  | x :: l, [], _, _, h => absurd ((h x).mp List.mem_cons_self) (fun z => nomatch z)
  | x :: l, y :: m, h1, h2, h => by
    obtain ⟨a1, a2⟩ := List.pairwise_cons.mp h1
    obtain ⟨b1, b2⟩ := List.pairwise_cons.mp h2
    have exy : x = y := by
      rcases List.mem_cons.mp ((h x).mp List.mem_cons_self) with e | hx
      · exact e
      · rcases List.mem_cons.mp ((h y).mpr List.mem_cons_self) with e | hy
        · exact e.symm
        · have := a1 y hy
          have := b1 x hx
          omega
    subst exy
    rw [rising_eq a2 b2 fun k => ⟨fun hk => ?_, fun hk => ?_⟩]
    · rcases List.mem_cons.mp ((h k).mp (List.mem_cons_of_mem _ hk)) with e | z
      · have := a1 k hk; omega
      · exact z
    · rcases List.mem_cons.mp ((h k).mpr (List.mem_cons_of_mem _ hk)) with e | z
      · have := b1 k hk; omega
      · exact z
theorem sins_len (x : Int) : ∀ l : List Int, (sins x l).length ≤ l.length + 1
  | [] => Nat.le_refl _
  | y :: l => by
    unfold sins
    split
    · exact Nat.le_refl _
    · split
      · exact Nat.le_succ _
      · have := sins_len x l
        rw [List.length_cons, List.length_cons]
        omega
theorem ssort_len : ∀ l : List Int, (ssort l).length ≤ l.length
  | [] => Nat.le_refl _
  | x :: l => by
    have h1 := sins_len x (ssort l)
    have h2 := ssort_len l
    show (sins x (ssort l)).length ≤ l.length + 1
    omega
def rSetI (w : World) (K : PySem.W.Frag) : List V → Hp → VK → Prop := fun xs H Q => ∃ (l : Addr) (ns : List Int), xs = [.ref l] ∧ SqL K H l (ns.map V.int) ∧ ns.length + 1 < 4096 ∧ ∀ p, H p = none → Q (.ref p) (L2.upd H p (SetO w p (fun j => decide (j ∈ ns)) (ssort ns).length))
theorem cr_setI {X : Cx} (hc : X.calm = true) : CallR X (.type "set") (rSetI X.w X.K) := by
  intro pins s σ H xs us Q I r h
  obtain ⟨l, ns, rfl, hs, few, q⟩ := h
  rw [Vals.ref1 r]
  obtain ⟨its, rv, hl, hz⟩ := I.list hs
  refine set_of_list ns (I.ok.hd hc) hl.isList (by simpa using rv.ints) few fun h2 tk c R1 hc2 k => ?_
  have hn : H s.heap.objs.size = none := I.hok.fresh (Nat.le_refl _)
  have ec : c = (ssort ns).length := by
    obtain ⟨o, es, ep, t, _, _, _, _, nd, hS, _, _, hn2, _⟩ := R1
    have pm : (es.toList.map keyOf).Perm (ssort ns) := (List.perm_ext_iff_of_nodup nd ((ssort_sorted ns).imp fun h => by omega)).mpr fun k => by
      rw [← hS k, ssort_mem]
      exact ⟨fun h => of_decide_eq_true h, fun h => decide_eq_true h⟩
    rw [← pm.length_eq, List.length_map, Array.length_toList, hn2]
  subst ec
  exact ⟨.ref _, _, I.laid (t' := tk) k (Nat.le_refl _) (setO_new R1), rfl, q _ hn⟩
/-- sorted(set(xs)): the set has fewer than 64 members -/
def sortSetI (l : List Int) : Option (List Int) := if l.length < 4000 ∧ (ssort l).length < 64 then some (ssort l) else none
section
variable {X : Cx} {W : Hp → String → Prop} {ρ : Type} {sl : ρ → List Slot} {ms : List Mode} {a e : Expr} {pos p pos2 p2 : Pos} {kd : Mode}
theorem pv_sortSet {f : ρ → M (List Int)} (hc : X.calm = true) (hg : Gl X "sorted") (hm : X.mg "sorted" = none) (hg2 : Gl X "set") (hm2 : X.mg "set" = none) (ha : PE X a (tP X.K W sl ms f kd)) (hk : kd ≠ .un := by decide)
    (he : starEach [a] X.env = (false, eval a X.env) :: starEach [] X.env := by rfl) (hpl : (backTo pos2 (starEach [] X.env)).any (·.1) = false := by rfl) (he2 : starEach [.Call (.Name "set" p2) [a] [] pos2] X.env = (false, eval (.Call (.Name "set" p2) [a] [] pos2) X.env) :: starEach [] X.env := by rfl) (hpl2 : (backTo pos (starEach [] X.env)).any (·.1) = false := by rfl) :
    PE X (.Call (.Name "sorted" p) [.Call (.Name "set" p2) [a] [] pos2] [] pos) (tP X.K W sl ms (e1 sortSetI f) (lv 1)) :=
  PE.conv (pe_callB (cr_sortedSet hc) hg hm boot_sorted (pa_cons (pe_callTy (cr_setI hc) hg2 hm2 boot_set (pa_cons ha pa_nil he) (by decide) (by decide) he hpl) pa_nil he2) (by decide) (by decide) he2 hpl2) fun σ H Q ⟨r, S, hs, hv, q⟩ => ⟨r, S, hs, hv, ends_mono (ends_bind q) (fun l el q v S1 H1 F x g => by
    obtain ⟨c, ec, q⟩ := up_ends q
    unfold sortSetI at ec
    split at ec
    · rename_i few
      cases ec
      obtain ⟨p, e1, n, z⟩ := rep_list (g.look x.sh hk)
      subst e1
      refine ⟨p, l, rfl, .inl (.inl n), by omega, fun p2 hp => ⟨p2, _, (ssort l).length, rfl, upd_same, few.2, fun ns p3 hs hm hl hp3 => ?_⟩⟩
      have en : ns = ssort l := rising_eq hs (ssort_sorted l) fun k => by
        rw [hm k, ssort_mem]
        exact ⟨fun h => of_decide_eq_true h, fun h => decide_eq_true h⟩
      subst en
      have x0 := x.share g.here
      have x1 : Ext S H (add S1 H1 F) (L2.upd H1 p2 (SetO X.w p2 (fun j => decide (j ∈ l)) (ssort l).length)) [] := ⟨x0.hh.trans (Sub.new hp), x0.ss, x0.sh.trans (Sub.new hp), x0.nw, x0.fr, x0.nd⟩
      obtain ⟨x2, g2⟩ := new_list (K := X.K) (l := ssort l) x1.sh hp3 (xs := (ssort l).map V.int) (by rw [List.length_map]; show _ ≤ 2 ^ 24; omega) fun H => scal_reps
      exact q _ _ _ _ (x1.trans x2 (fun p hp => nomatch hp)) g2
    · cases ec) fun c q => q⟩
theorem pv_ixScr {f : ρ → M Scr} {g : ρ → M Int} {b : Expr} {kb : Mode} (ha : PE X a (tP X.K W sl ms f kd)) (hb : PE X b (tP X.K W sl ms g kb)) (hs : PlainIx b := by exact fun _ _ => rfl) (hka : kd ≠ .un := by decide) (hkb : kb ≠ .un := by decide) : PE X (.Subscript a b pos) (tP X.K W sl ms (e2 (fun s i => ixL s.l i) f g) (lv 0)) :=
  pv_e2 (t := rIxL X.K) (fun H x y a b c Q ra rb e q => by
    obtain ⟨_, p, e1, h⟩ := ra
    obtain ⟨v, at1, r⟩ := ixL_at (r := fun v a F => v = V.int a ∧ F = []) (vs := a.l.map V.int) (l := a.l) (scal_reps (α := Int) (K := X.K) (k := 0) (S := H) (H := H)) e
    refine ⟨p, _, b, v, e1, rep_scal rb, h, at1, ?_⟩
    rw [r.1]
    exact q _ H (New.scal (α := Int))) ha hb (pe_ix ix_list ha hb hs) hka hkb
theorem pv_cutScr {lo hi : Option Expr} {f : ρ → M Scr} {g h : ρ → M (Option Int)} {p2 : Pos} (he : PE X e (tP X.K W sl ms f (lv 0))) (hl : PO X lo (tPO X.K W sl ms g)) (hu : PO X hi (tPO X.K W sl ms h)) : PE X (.Subscript e (.Slice lo hi none p2) pos) (tP X.K W sl ms (eCut (fun r => f r >>= fun s => if s.l.length ≤ line then .ok s.l else .error .stuck) g h) (lv 1)) :=
  PE.conv (pe_slice sl_list he hl hu) fun σ H Q ⟨r, S, hs, hv, he⟩ => ⟨r, S, hs, hv, ends_mono (ends_bind (ends_bind he)) (fun s es q v S1 H1 F x g => by
    have eF : F = [] := PyTy.zero g
    subst eF
    by_cases hz : s.l.length ≤ line
    · rw [if_pos hz] at q
      refine ⟨r, S1, x.sh, hv.mono x.ss x.hh, ends_mono (ends_bind q) (fun o eo q S2 H2 x2 => ⟨r, S2, x2.sh, (hv.mono x.ss x.hh).mono x2.ss x2.hh, ends_mono (ends_bind q) (fun o2 eo2 q S3 H3 x3 => ?_) fun c q H4 h4 => q H4 (x.hh.trans (x2.hh.trans h4))⟩) fun c q H4 h4 => q H4 (x.hh.trans h4)⟩
      obtain ⟨_, p, e1, n⟩ := g
      have x13 := (x.trans x2 (fun p hp => nomatch hp)).trans x3 (fun p hp => nomatch hp)
      refine ⟨p, _, e1, Evl.ex_l (fun a o z => x3.hh a o (x2.hh a o (x.sh a o z))) n, fun p hp => ?_⟩
      obtain ⟨y, g2⟩ := new_list (K := X.K) (l := cutA s.l o o2) x13.sh hp (Nat.le_trans (cutV_length _ o o2) (by rw [List.length_map]; exact hz)) fun H => cut_reps scal_reps
      exact q _ _ _ _ (x13.trans y (fun p hp => nomatch hp)) g2
    · rw [if_neg hz] at q
      exact q.elim) fun c q => q⟩
class TypOf (α : Type) [T : PyTy α] (t : outParam String) : Prop where
  ty : ∀ {K H v a}, T.rep K 0 H H v a [] → TyX K H v (.type t)
instance : TypOf Int "int" := ⟨fun h => by rw [rep_scal h]; exact .base (.int _)⟩
instance : TypOf Bool "bool" := ⟨fun h => by rw [rep_scal h]; exact .base (.bl _)⟩
instance : TypOf Str "str" := ⟨fun h => by rw [rep_scal h]; exact .base (.str _)⟩
instance : TypOf Unit "NoneType" := ⟨fun h => by rw [rep_scal h]; exact .base .non⟩
instance {α : Type} [PyTy α] : TypOf (List α) "list" := ⟨fun ⟨p, xs, F', e, n, z, r⟩ => by rw [e]; exact .base (.lst n.1)⟩
instance {α β : Type} [PyTy α] [PyTy β] : TypOf (α × β) "tuple" := ⟨fun ⟨p, x, y, F1, F2, e, n, r⟩ => by rw [e]; exact .base (.tup n.1)⟩
theorem pv_isi {α : Type} [T : PyTy α] {t u : String} {b : Bool} [TO : TypOf α t] {x : Str} {p3 : Pos} {f : ρ → M α} (hb : kitB t u = some b) (hg : Gl X "isinstance") (hm : X.mg "isinstance" = none) (hgx : Gl X x) (hmx : X.mg x = none) (hv : bootBuiltins x = some (.type u)) (ha : PE X a (tP X.K W sl ms f kd)) (hk : kd ≠ .un := by decide) (hn : x ≠ "__name__" := by decide) (hdb : (x == ("__debug__" : Str)) = false := by decide)
    (he : starEach [a, .Name x p3] X.env = (false, eval a X.env) :: starEach [.Name x p3] X.env := by rfl) (he2 : starEach [.Name x p3] X.env = (false, eval (.Name x p3) X.env) :: starEach [] X.env := by rfl) (hpl : (backTo pos (starEach [.Name x p3] X.env)).any (·.1) = false := by rfl) :
    PE X (.Call (.Name "isinstance" p) [a, .Name x p3] [] pos) (tP X.K W sl ms (e1 (fun _ => some b) f) (lv 0)) :=
  PE.conv (pe_callB call_isi hg hm boot_isinstance (pa_cons ha (pa_cons (pe_bltn (v := .ty u) hgx hmx hv rfl hn hdb) pa_nil he2) he) (by decide) (by decide) he hpl) fun σ H Q ⟨r, S, hs, hv, q⟩ => ⟨r, S, hs, hv, ends_mono (ends_bind q) (fun l el q v S1 H1 F x g =>
    ⟨v, .ty u, .type t, .type u, b, rfl, .ty u, TO.ty (g.look x.sh hk), kit_ty hb, q _ _ H1 [] (x.share g.here) (Scal.scal.mpr ⟨rfl, rfl⟩)⟩) fun c q => q⟩
@[irreducible] def extL {α : Type} (l m : List α) : Option (List α) := if l.length + m.length ≤ 2 ^ 24 then some (l ++ m) else none
theorem mut_ext0 {α : Type} [T : PyTy α] {K : PySem.W.Frag} : Mut1 K rExtend (extL (α := α)) 0 0 := fun H p xs l y b l' Q hn hl hz ⟨S0, G0, s0, p0, ys, F0, e0, n0, z0, r0⟩ e q => by
  unfold extL at e
  split at e
  · rename_i hh
    cases e
    refine ⟨p, p0, xs, ys, rfl, by rw [e0], hn, s0 _ _ n0.1, by rw [hl, r0.len]; exact hh, q _ (fun S F1 F2 sh r1 r2 nd => ?_) (by rw [List.length_append, hl, r0.len]; exact hh)⟩
    obtain ⟨p2, ys2, F3, e2, n2, z2, r2⟩ := r2
    rw [e0] at e2
    cases e2
    have := (sh _ _ n2.1).symm.trans (s0 _ _ n0.1)
    cases this
    have eF3 : F2 = F3 := n2.2
    subst eF3
    exact ⟨F1 ++ F2, nd, fun q hq => hq, r1.append r2⟩
  · cases e
end
end VL
namespace VL
open PySem PySem.Spec PyProof.Rows L2
section
variable {X : Cx} {C : Ct} {ρ R : Type} [TR : PyTy R] {sl : ρ → List Slot} {ms ms1 ms2 lm rm : List Mode} {rk : Nat} {st : Stmt}
theorem s_pre {f : ρ → M (Fl ρ R)} (h1 : PS X st (tS C sl ms1 ms2 lm rm rk f)) (w : wk ms ms1 = true := by rfl) : PS X st (tS C sl ms ms2 lm rm rk f) :=
  PS.conv h1 fun D σ H ⟨r, T, hd, he⟩ => ⟨r, T, hd.weak w, he⟩
/-- an expression that only looks, ahead of a store -/
theorem look_read {α : Type} [TA : PyTy α] {f : ρ → M α} {k : Nat} {σ : L2.St} {H : Hp} {Q : VK} (h : tE C sl ms ms (lift f) k σ H Q) : tP C.K C.W sl (ms.map downM) f (lv k) σ H Q := by
  obtain ⟨r, T, hd, he⟩ := h
  obtain ⟨S, F, st, o⟩ := id hd
  obtain ⟨F1, F2, _, _, h2⟩ := st.split
  exact ⟨r, S, o.sh, h2.view o.sh, ends_mono (ends_bind he) (fun a ea q v S' H' F' x g => q v H' (Hd.ext st o x g)) fun c q H' s => q H' (hd.fr s)⟩
section
variable {β γ : Type} [TC : PyTy γ] {i : Nat} {y : Str} {py : Pos} {elt tg iter : Expr} {ifs : List Expr} {scope : Scope} {own : List (Str × Nat)} {pos spos : Pos} {g : TG} {f : ρ → M (List β)} {kd : Mode} {is : List Nat} {parts : β → List Slot} {set : β → ρ → ρ} {t : ρ → M Bool} {e : ρ → M γ} {k : Nat} {setv : List γ → ρ → ρ}
/-- name = [..] on one row -/
theorem s_setLc (hc : X.calm = true) (hN : X.N.Nodup) (hy : X.N[i]? = some y) (hyl : X.env.scope.names.lookup y = some .local) (hsw : swapsWith (.ListComp elt [⟨tg, iter, ifs, 0⟩] scope pos) (some (.Name y py)) spos.line X.env = pure true)
    (hi : PI X tg iter (tW C.K C.W sl (ms.map downM) f kd g is parts)) (ok : BlkOk X.N X.env.scope scope own)
    (hg : ∀ (s : Shared) (H : Hp) (C : Addr) (cl : List (Str × Addr)) (fp : List Addr), PG (X.blk s H scope (compEnvC scope cl C X.env) fp) tg g)
    (ht : ∀ (s : Shared) (H : Hp) (D : Addr) (cl : List (Str × Addr)) (fp : List Addr), PTs (X.blk s H scope (compEnvC scope cl D X.env) fp) ifs (tPT C.K noW sl (setModes (wipeM (ms.map downM) (own.map (·.2))) is kd) t))
    (he : ∀ (s : Shared) (H : Hp) (D : Addr) (cl : List (Str × Addr)) (fp : List Addr), PE (X.blk s H scope (compEnvC scope cl D X.env) fp) elt (tP C.K noW sl (setModes (wipeM (ms.map downM) (own.map (·.2))) is kd) e (lv k)))
    (hset : ∀ b r, sl (set b r) = setSlots (sl r) is (parts b)) (hpl : ∀ b, is.length = (parts b).length) (hin : ∀ i ∈ is, i ∈ own.map (·.2)) (hsv : ∀ a r, sl (setv a r) = (sl r).set i ⟨a⟩) (hil : i < ms.length) (hs : ∀ x, foldedSetIterable iter X.env x = pure x := by intro _; rfl) (hms : ms2 = ms.set i (lv (k + 1)) := by rfl) :
    PS X (.Assign [.Name y py] (.ListComp elt [⟨tg, iter, ifs, 0⟩] scope pos) spos) (tS C (R := R) sl ms ms2 lm rm rk (fSet setv (lift (eLc f set t e)))) :=
  PS.conv (ps_setLc hc hN hy hyl hsw hi ok hg ht he hs) fun D σ H h => by
    subst hms
    have h2 := set_read (i := i) (k := k + 1) hsv hil h
    exact lc_read hset hpl hin (look_read h2)
end
end
/-- the law's own call -/
theorem law_ok {K : PySem.W.Frag} {H : Hp} {a : Addr} {ns : List Int} {m : Scr × Unit → M Bool} (hS : SqL K H a (ns.map V.int)) (h : m (⟨ns⟩, ()) = .ok true) : spP K 0 m [.ref a] H (fun v _ => v = .bl true) fun _ _ _ => False :=
  ⟨(⟨ns⟩, ()), H, Sub.refl H, ⟨⟨.ref a, rfl, rfl, a, rfl, hS⟩, trivial⟩, by rw [h]; exact fun v S' H' F x g => rep_scal g⟩
end VL
namespace VL
open PySem PySem.Spec PyProof.Rows L2
theorem Reps.at {α : Type} {r : V → α → List Addr → Prop} : ∀ {vs : List V} {as : List α} {F : List Addr} {i : Nat} {a : α}, Reps r vs as F → as[i]? = some a → ∃ v F1 G, vs[i]? = some v ∧ F.Perm (F1 ++ G) ∧ r v a F1 ∧
    ∀ (r' : V → α → List Addr → Prop) v' a' F', (∀ v a F0, (∀ p ∈ F0, p ∈ G) → r v a F0 → r' v a F0) → r' v' a' F' → ∃ F3, F3.Perm (F' ++ G) ∧ Reps r' (vs.set i v') (as.set i a') F3
  | [], [], _, _, _, _, e => by simp at e
  | [], _ :: _, _, _, _, h, _ => h.elim
  | _ :: _, [], _, _, _, h, _ => h.elim
  | v :: vs, a :: as, _, 0, b, ⟨F1, F2, e0, h1, h2⟩, e => by
    cases e
    subst e0
    exact ⟨v, F1, F2, rfl, .refl _, h1, fun r' v' a' F' k h => ⟨F' ++ F2, .refl _, F', F2, rfl, h, h2.imp fun v a F0 hp q => k v a F0 hp q⟩⟩
  | v :: vs, a :: as, _, i + 1, b, ⟨F1, F2, e0, h1, h2⟩, e => by
    subst e0
    obtain ⟨w, G1, G, ew, pm, hr, k⟩ := Reps.at (i := i) h2 e
    refine ⟨w, G1, F1 ++ G, ew, ?_, hr, fun r' v' a' F' kk h => ?_⟩
    · refine (List.Perm.append_left F1 pm).trans ?_
      rw [← List.append_assoc, ← List.append_assoc]
      exact List.Perm.append_right _ List.perm_append_comm
    · obtain ⟨F3, p3, h3⟩ := k r' v' a' F' (fun v a F0 hp q => kk v a F0 (fun p hq => List.mem_append_right _ (hp p hq)) q) h
      refine ⟨F1 ++ F3, ?_, F1, F3, rfl, kk _ _ _ (fun p hp => List.mem_append_left _ hp) h1, h3⟩
      refine (List.Perm.append_left F1 p3).trans ?_
      rw [← List.append_assoc, ← List.append_assoc]
      exact List.Perm.append_right _ List.perm_append_comm
section
variable {C : Ct} {α β γ : Type} [TA : PyTy α] [TB : PyTy β]
/-- a list of k + 1 layers that is held within A, at p -/
def Fcs (K : PySem.W.Frag) (k : Nat) (A : Assn) (A' : List α → Assn) (p : Addr) (l : List α) (H : Hp) : Prop :=
  ∀ S F, Sub S H → A.p S H F → F.Nodup → ∃ xs F1 G, H p = some (.lst xs) ∧ xs.length ≤ line ∧ F.Perm (p :: (F1 ++ G)) ∧ Reps (fun v a F => TA.rep K k S H v a F) xs l F1 ∧
    ∀ H' xs' l' F', (∀ q ∈ G, H' q = H q) → H' p = some (.lst xs') → xs'.length ≤ line → Reps (fun v a F => TA.rep K k S H' v a F) xs' l' F' → ∃ F3, F3.Perm (p :: (F' ++ G)) ∧ (A' l').p S H' F3
theorem Hd.chg {A B : Assn} {A' : List α → Assn} {L : List Assn} {k : Nat} {p : Addr} {l l' : List α} {H : Hp} {xs xs' : List V} (h : Hd C (A :: B :: L) H) (f : Fcs C.K k A A' p l H) (hx : H p = some (.lst xs))
    (chg : ∀ S F1 F2, Sub S H → Reps (fun v a F => TA.rep C.K k S H v a F) xs l F1 → B.p S H F2 → (F1 ++ F2).Nodup → ∃ F', F'.Nodup ∧ (∀ q ∈ F', q ∈ F1 ++ F2) ∧ Reps (fun v a F => TA.rep C.K k S H v a F) xs' l' F') (hz : xs'.length ≤ line) : Hd C (A' l' :: L) (L2.upd H p (.lst xs')) := by
  refine (Hd.join h).upd fun S F hA nd dj sh => ?_
  obtain ⟨F1, F2, e, hA, hB⟩ := hA
  subst e
  have nd2 := List.nodup_append.mp nd
  obtain ⟨xs2, G1, G, hx2, hz2, pm, hr, put⟩ := f S F1 sh hA nd2.1
  have e2 : xs2 = xs := by
    have := hx2.symm.trans hx
    cases this
    rfl
  subst e2
  have ndp : (p :: (G1 ++ G)).Nodup := pm.nodup_iff.mp nd2.1
  have ndq := List.nodup_cons.mp ndp
  have ndr := List.nodup_append.mp ndq.2
  have memF : ∀ q, q = p ∨ q ∈ G1 ∨ q ∈ G → q ∈ F1 := fun q hq => pm.mem_iff.mpr (by
    rcases hq with e | hq | hq
    · rw [e]; exact List.mem_cons_self
    · exact List.mem_cons_of_mem _ (List.mem_append_left _ hq)
    · exact List.mem_cons_of_mem _ (List.mem_append_right _ hq))
  obtain ⟨F', ndF, sub, hr'⟩ := chg S G1 F2 sh hr hB (List.nodup_append.mpr ⟨ndr.1, nd2.2.1, fun x hx y hy z => nd2.2.2 x (memF x (.inr (.inl hx))) y hy z⟩)
  have notF : ∀ q ∈ F', q ≠ p ∧ q ∉ G := fun q hq => by
    rcases List.mem_append.mp (sub q hq) with z | z
    · exact ⟨fun e => ndq.1 (by rw [← e]; exact List.mem_append_left _ z), fun y => ndr.2.2 q z q y rfl⟩
    · exact ⟨fun e => nd2.2.2 p (memF p (.inl rfl)) q z e.symm, fun y => nd2.2.2 q (memF q (.inr (.inr y))) q z rfl⟩
  have pG : p ∉ G := fun z => ndq.1 (List.mem_append_right _ z)
  obtain ⟨F3, p3, h3⟩ := put (L2.upd H p (.lst xs')) xs' l' F' (fun q hq => upd_ne (fun e => pG (by rw [← e]; exact hq))) upd_same hz (hr'.imp fun v a F0 hf q => TA.mono q (Sub.refl S) fun q hq => upd_ne (notF q (hf q hq)).1)
  refine ⟨List.mem_append_left _ (memF p (.inl rfl)), F3, p3.nodup_iff.mpr (List.nodup_cons.mpr ⟨fun z => ?_, List.nodup_append.mpr ⟨ndF, ndr.2.1, fun x hx y hy z => (notF x hx).2 (by rw [z]; exact hy)⟩⟩), fun q hq => ?_, h3⟩
  · rcases List.mem_append.mp z with z | z
    · exact (notF p z).1 rfl
    · exact pG z
  · rcases List.mem_cons.mp (p3.mem_iff.mp hq) with e | hq
    · rw [e]; exact List.mem_append_left _ (memF p (.inl rfl))
    · rcases List.mem_append.mp hq with hq | hq
      · rcases List.mem_append.mp (sub q hq) with z | z
        · exact List.mem_append_left _ (memF q (.inr (.inl z)))
        · exact List.mem_append_right _ z
      · exact List.mem_append_left _ (memF q (.inr (.inr hq)))
theorem fcs_own {k : Nat} {io : Option Nat} {p : Addr} {l : List α} {H : Hp} : Fcs C.K k (slotA C.K C.A (.own (k + 1) io) ⟨l⟩ (some (.ref p))) (fun l' => slotA C.K C.A (.own (k + 1) io) ⟨l'⟩ (some (.ref p))) p l H := by
  rintro S F sh ⟨x1, ex1, io1, p1, xs1, G', ep1, n1, z1, r1⟩ nd
  cases ex1
  cases ep1
  have eG : F = p :: G' := n1.2
  subst eG
  refine ⟨xs1, G', [], n1.1, z1, by rw [List.append_nil], r1, fun H' xs' l' F' hq hp hz h => ⟨p :: F', by rw [List.append_nil], .ref p, rfl, io1, p, xs', F', rfl, ⟨hp, rfl⟩, hz, h⟩⟩
/-- the place in a list of n -/
def nI (n : Nat) (i : Int) : Nat := if 0 ≤ i then i.toNat else (i + n).toNat
theorem ixL_nI {α : Type} {l : List α} {i : Int} {a : α} (h : ixL l i = some a) : l[nI l.length i]? = some a ∧ (∀ vs : List V, vs.length = l.length → ixN vs.length i = some (nI l.length i)) := by
  unfold ixL at h
  unfold nI ixN
  split at h
  · rename_i h0
    have := (List.getElem?_eq_some_iff.mp h).1
    refine ⟨by rw [if_pos h0]; exact h, fun vs e => ?_⟩
    rw [if_pos h0, if_pos (by omega), if_pos h0]
  · rename_i h0
    split at h
    · rename_i h1
      refine ⟨by rw [if_neg h0]; exact h, fun vs e => ?_⟩
      rw [if_neg h0, if_pos (by omega), if_neg h0, e]
    · cases h
end
section
variable {X : Cx} {C : Ct} {ρ R : Type} [TR : PyTy R] {sl : ρ → List Slot} {ms ms1 ms2 lm rm : List Mode} {rk : Nat} {α β : Type} [TA : PyTy α] [TB : PyTy β]
/-- at p stands the list that the place tells; behind a growth of the heap it still does -/
def Ready (C : Ct) (sl : ρ → List Slot) (ms : List Mode) (k : Nat) (σ : L2.St) (r : ρ) (p : Addr) (lw : List α × (List α → ρ)) (H1 : Hp) : Prop :=
  ∀ H2 T B, Sub H1 H2 → Hd C (B :: (T ++ Env C.K C.A ms (sl r) σ)) H2 → ∃ (A : Assn) (A' : List α → Assn) (L : List Assn), Hd C (A :: B :: L) H2 ∧ Fcs C.K k A A' p lw.1 H2 ∧ ∀ l' H3, Hd C (A' l' :: L) H3 → Hd C (T ++ Env C.K C.A ms (sl (lw.2 l')) σ) H3
def Rcv (C : Ct) (sl : ρ → List Slot) (ms : List Mode) (k : Nat) (te : TE) (pl : ρ → M (List α × (List α → ρ))) : Prop :=
  ∀ σ H r T Q, Hd C (T ++ Env C.K C.A ms (sl r) σ) H → ends (pl r) (fun lw => ∀ p H1, Sub H H1 → Hd C (T ++ Env C.K C.A ms (sl r) σ) H1 → (∃ xs, H1 p = some (.lst xs)) → Ready C sl ms k σ r p lw H1 → Q (.ref p) H1) (fun c => ∀ H', Fr C H' → C.W H' c) → te σ H Q
theorem Hd.any {l : List Assn} {H : Hp} (h : Hd C l H) : Hd C (anyA :: l) H := by
  obtain ⟨S, F, st, o⟩ := h
  exact ⟨S, F, ⟨[], F, rfl, rfl, st⟩, o⟩
theorem Fcs.here {k : Nat} {A B : Assn} {A' : List α → Assn} {L : List Assn} {p : Addr} {l : List α} {H : Hp} (f : Fcs C.K k A A' p l H) (h : Hd C (A :: B :: L) H) : ∃ S xs F1 F2, Sub S H ∧ H p = some (.lst xs) ∧ xs.length ≤ line ∧ Reps (fun v a F => TA.rep C.K k S H v a F) xs l F1 ∧ B.p S H F2 := by
  obtain ⟨S, F, ⟨F1, F2, e, hA, F3, F4, e2, hB, _⟩, o⟩ := h
  subst e e2
  obtain ⟨xs, G1, G, hx, hz, _, hr, _⟩ := f S F1 o.sh hA (List.nodup_append.mp o.nd).1
  exact ⟨S, xs, G1, F3, o.sh, hx, hz, hr, hB⟩
def pV (get : ρ → List α) (set : List α → ρ → ρ) : ρ → M (List α × (List α → ρ)) := fun r => .ok (get r, fun l => set l r)
def pIx (pl : ρ → M (List (List α) × (List (List α) → ρ))) (fi : ρ → M Int) : ρ → M (List α × (List α → ρ)) := fun r => pl r >>= fun lw => fi r >>= fun j => up (ixL lw.1 j) >>= fun l => .ok (l, fun l' => lw.2 (lw.1.set (nI lw.1.length j) l'))
theorem rcv_var {i k : Nat} {io : Option Nat} {get : ρ → List α} {set : List α → ρ → ρ} (hm : ms[i]? = some (.own (k + 1) io)) (hg : ∀ r, (sl r)[i]? = some ⟨get r⟩) (hset : ∀ a r, sl (set a r) = (sl r).set i ⟨a⟩) : Rcv C sl ms k (tVar i) (pV get set) := by
  intro σ H r T Q hd q
  obtain ⟨v, ev, S0, F0, ⟨Fa, Fb, _, ⟨x0, ex0, io0, p0, xs0, F', ep, n0, _, _⟩, _⟩, _⟩ := hd.open hm (hg r)
  subst ex0
  subst ep
  refine ⟨.ref p0, ev, q p0 H (Sub.refl H) hd ⟨xs0, n0.1⟩ fun H2 T B s hd2 => ?_⟩
  obtain ⟨v', ev', hd3⟩ := Hd.open (T := B :: T) hd2 hm (hg r)
  rw [ev] at ev'
  cases ev'
  refine ⟨slotA C.K C.A (.own (k + 1) io) ⟨get r⟩ (some (.ref p0)), fun l' => slotA C.K C.A (.own (k + 1) io) ⟨l'⟩ (some (.ref p0)), T ++ Env C.K C.A (ms.set i .un) (sl r) σ, hd3, fcs_own, fun l' H3 h3 => ?_⟩
  have hlen : i < σ.length := (List.getElem?_eq_some_iff.mp ev).1
  have hd6 := Hd.close (m0 := .un) (i := i) h3 hlen
  have e1 : σ.set i (some (.ref p0)) = σ := by
    obtain ⟨h1, h2⟩ := List.getElem?_eq_some_iff.mp ev
    rw [← h2]
    exact List.set_getElem_self h1
  have e3 : (ms.set i .un).set i (.own (k + 1) io) = ms := by
    obtain ⟨h1, h2⟩ := List.getElem?_eq_some_iff.mp hm
    rw [List.set_set, ← h2]
    exact List.set_getElem_self h1
  rw [e1, e3, ← hset] at hd6
  exact hd6
/-- a look, where things are held -/
theorem look_hd {f : ρ → M β} {kb : Nat} {T : List Assn} {σ : L2.St} {H : Hp} {r : ρ} {Q : VK} (hd : Hd C (T ++ Env C.K C.A ms (sl r) σ) H) (q : ends (f r) (fun b => ∀ v H', Sub H H' → Hd C (itm C.K kb b v :: (T ++ Env C.K C.A ms (sl r) σ)) H' → Q v H') (fun c => ∀ H', Fr C H' → C.W H' c)) :
    tP C.K C.W sl (ms.map downM) f (lv kb) σ H Q := by
  obtain ⟨S, F, st, o⟩ := id hd
  obtain ⟨F1, F2, _, _, h2⟩ := st.split
  exact ⟨r, S, o.sh, h2.view o.sh, ends_mono q (fun a _ q v S' H' F' x g => q v H' x.hh (Hd.ext st o x g)) fun c q H' s => q H' (hd.fr s)⟩
theorem itm_int {k : Nat} {n : Int} {v : V} {L : List Assn} {H : Hp} (h : Hd C (itm C.K k n v :: L) H) : v = .int n := by
  obtain ⟨S, F, ⟨F1, F2, _, h1, _⟩, o⟩ := h
  exact rep_scal h1
/-- a method that changes the list at a place, with one more thing -/
def fMutP (pl : ρ → M (List α × (List α → ρ))) (op : List α → β → Option (List α)) (f : ρ → M β) : ρ → M (Fl ρ R) := fun r => pl r >>= fun lw => f r >>= fun b => up (op lw.1 b) >>= fun l' => .ok (.nx (lw.2 l'))
/-- place[j] = e -/
def putL (l : List α) (i : Int) (a : α) : Option (List α) := (ixL l i).map fun _ => l.set (nI l.length i) a
def fPutP (pl : ρ → M (List α × (List α → ρ))) (fj : ρ → M Int) (f : ρ → M (α × ρ)) : ρ → M (Fl ρ R) := fun r => f r >>= fun ar => pl ar.2 >>= fun lw => fj ar.2 >>= fun j => up (putL lw.1 j ar.1) >>= fun l' => .ok (.nx (lw.2 l'))
theorem putL_chg {k : Nat} {l l' : List α} {j : Int} {a : α} {v : V} {H : Hp} {xs : List V} (e : putL l j a = some l') (hl : xs.length = l.length) : ∃ n, ixN xs.length j = some n ∧ ∀ S F1 F2, Reps (fun v a F => TA.rep C.K k S H v a F) xs l F1 → TA.rep C.K k S H v a F2 → (F1 ++ F2).Nodup → ∃ F', F'.Nodup ∧ (∀ q ∈ F', q ∈ F1 ++ F2) ∧ Reps (fun v a F => TA.rep C.K k S H v a F) (xs.set n v) l' F' := by
  unfold putL at e
  obtain ⟨b, eb, e⟩ := Option.map_eq_some_iff.mp e
  obtain ⟨hn, hn2⟩ := ixL_nI eb
  refine ⟨_, hn2 xs hl, fun S F1 F2 r1 r2 nd => ?_⟩
  obtain ⟨w, G1, G, ew, pm, rw', put⟩ := Reps.at r1 hn
  obtain ⟨F3, p3, h3⟩ := put _ v a F2 (fun v a F0 _ q => q) r2
  subst e
  have n1 := List.nodup_append.mp nd
  have n2 := List.nodup_append.mp (pm.nodup_iff.mp n1.1)
  refine ⟨F3, p3.nodup_iff.mpr (List.nodup_append.mpr ⟨n1.2.1, n2.2.1, fun x hx y hy z => n1.2.2 y (pm.mem_iff.mpr (List.mem_append_right _ hy)) x hx z.symm⟩), fun q hq => ?_, h3⟩
  rcases List.mem_append.mp (p3.mem_iff.mp hq) with z | z
  · exact List.mem_append_right _ z
  · exact List.mem_append_left _ (pm.mem_iff.mpr (List.mem_append_right _ z))
theorem s_putP {k : Nat} {to : TE} {pl : ρ → M (List α × (List α → ρ))} {fj : ρ → M Int} {f : ρ → M (α × ρ)} {o i e : Expr} {pos tpos : Pos} (rc : Rcv C sl ms1 k to pl) (he : PE X e (tE C sl ms ms1 f k)) (ho : PE X o to) (hi : PE X i (tP C.K C.W sl (ms1.map downM) fj (lv 0)))
    (ha : ∀ v, assign (.Subscript o i tpos) X.env v = (do
      let ov ← holding [v] (eval o X.env)
      let iv ← holding [v, ov] (eval i X.env)
      standAt tpos
      holding [v, ov, iv] (setItem ov iv v)
      release [v, ov, iv] []) := by intro _; rfl)
    (hs : swapsWithSole [.Subscript o i tpos] e pos.line X.env = pure false := by rfl) (hw : swappedStores [.Subscript o i tpos] e X.env = pure none := by rfl)
    (h1 : (assignEach [.Subscript o i tpos] X.env).map (·.2) = [assign (.Subscript o i tpos) X.env] := by rfl) : PS X (.Assign [.Subscript o i tpos] e pos) (tS C (R := R) sl ms ms1 lm rm rk (fPutP pl fj f)) :=
  PS.conv (ps_asg he (pg_sub ho hi set_list ha) hs hw h1) fun D σ H ⟨r, T, hd, he⟩ => by
    refine ⟨r, T, hd, ends_mono (ends_bind he) (fun ar _ q v H1 hd1 => ?_) fun c q => q⟩
    have hd1' : Hd C ((itm C.K k ar.1 v :: T) ++ Env C.K C.A ms1 (sl ar.2) σ) H1 := hd1
    refine rc σ H1 ar.2 (itm C.K k ar.1 v :: T) _ hd1' (ends_mono (ends_bind q) (fun lw _ q p H2 s2 hd2 hx rd => ?_) fun c q => q)
    refine look_hd hd2 (ends_mono (ends_bind q) (fun j _ q y H3 s3 hd3 => ?_) fun c q => q)
    obtain ⟨l', el, q⟩ := up_ends (ends_bind q)
    have ey := itm_int hd3
    subst ey
    obtain ⟨A, A', L, hd4, fc, back⟩ := rd H3 T _ s3 hd3.drop
    obtain ⟨S, xs, F1, F2, sh, hx0, hz, hr, hb⟩ := fc.here hd4
    obtain ⟨n, en, chg⟩ := putL_chg (C := C) (k := k) (v := v) (H := H3) el hr.len
    refine ⟨p, xs, j, n, rfl, rfl, hx0, en, q σ _ (back l' _ (hd4.chg fc hx0 (fun S F1 F2 _ r1 r2 nd => ?_) (by rw [List.length_set]; exact hz)))⟩
    exact chg S F1 F2 r1 r2 nd
end
end VL
namespace VL
universe u
open PySem PySem.Spec PyProof.Rows L2
section
variable {C : Ct} {β : Type} [TB : PyTy β]
/-- the list at p: dn stands for its first things, rest for those from j on -/
def WholeA (K : PySem.W.Frag) (k : Nat) (p : Addr) (vs : List V) (j : Nat) (dn rest : List β) : Assn :=
  ⟨fun S H F => ∃ F1 F2, F = p :: (F1 ++ F2) ∧ H p = some (.lst vs) ∧ Reps (fun v a F => TB.rep K k S H v a F) (vs.take j) dn F1 ∧ Reps (fun v a F => TB.rep K k S H v a F) (vs.drop j) rest F2,
   fun ⟨F1, F2, e, h, r1, r2⟩ hs hk => by
    subst e
    exact ⟨F1, F2, rfl, (hk p List.mem_cons_self).trans h, r1.imp fun v a F0 hf q => TB.mono q hs fun q hq => hk q (List.mem_cons_of_mem _ (List.mem_append_left _ (hf q hq))), r2.imp fun v a F0 hf q => TB.mono q hs fun q hq => hk q (List.mem_cons_of_mem _ (List.mem_append_right _ (hf q hq)))⟩,
   fun ⟨F1, F2, e, h, r1, r2⟩ q hq => by
    subst e
    rcases List.mem_cons.mp hq with e | hq
    · rw [e, h]; exact fun z => nomatch z
    · rcases List.mem_append.mp hq with hq | hq
      · exact r1.here (fun v a F0 q => TB.here q) q hq
      · exact r2.here (fun v a F0 q => TB.here q) q hq⟩
theorem Hd.at {A : Assn} {L : List Assn} {H : Hp} {P : Prop} (h : Hd C (A :: L) H) (k : ∀ S F, A.p S H F → P) : P := by
  obtain ⟨S, F, ⟨F1, F2, _, h1, _⟩, _⟩ := h
  exact k S F1 h1
end
end VL
namespace VL
universe u
open PySem PySem.Spec PyProof.Rows L2
end VL
namespace VL
universe u
open PySem PySem.Spec PyProof.Rows L2
section
variable {ρ α β γ : Type}
def E2 (op : α → β → Option γ) (f : ρ → M (α × ρ)) (g : ρ → M (β × ρ)) : ρ → M (γ × ρ) := fun r => f r >>= fun ar => g ar.2 >>= fun br => up (op ar.1 br.1) >>= fun c => .ok (c, br.2)
def E1 (op : α → Option γ) (f : ρ → M (α × ρ)) : ρ → M (γ × ρ) := fun r => f r >>= fun ar => up (op ar.1) >>= fun c => .ok (c, ar.2)
end
end VL
namespace VL
universe u
open PySem PySem.Spec PyProof.Rows L2
section
variable {ρ α B A R : Type}
def iNil : ρ → M ((ρ → Unit) × ρ) := fun r => .ok (fun _ => (), r)
def iBy (g : ρ → M (α × ρ)) (f : ρ → M ((ρ → B) × ρ)) : ρ → M ((ρ → α × B) × ρ) := fun r => g r >>= fun ar => f ar.2 >>= fun φr => .ok (fun r' => (ar.1, φr.1 r'), φr.2)
def iIo (get : ρ → α) (f : ρ → M ((ρ → B) × ρ)) : ρ → M ((ρ → α × B) × ρ) := fun r => f r >>= fun φr => .ok (fun r' => (get r', φr.1 r'), φr.2)
def eCallI (m : A → M (R × A)) (put : A → ρ → ρ) (f : ρ → M ((ρ → A) × ρ)) : ρ → M (R × ρ) := fun r => f r >>= fun φr => mute (m (φr.1 φr.2)) >>= fun cb => .ok (cb.1, put cb.2 φr.2)
end
end VL
namespace VL
universe u
open PySem PySem.Spec PyProof.Rows L2
def runI {ρ R A : Type} (f : ρ → M (Fl ρ R)) (args : ρ → A) (r : ρ) : M (R × A) := f r >>= fun
  | .rt a r' => .ok (a, args r')
  | _ => .error .stuck
def runIU {ρ A : Type} (f : ρ → M (Fl ρ Unit)) (args : ρ → A) (r : ρ) : M (Unit × A) := f r >>= fun
  | .rt a r' => .ok (a, args r')
  | .nx r' => .ok ((), args r')
  | _ => .error .stuck
section
variable {ρ : Type}
def tAnd2 (f g : ρ → M (Bool × ρ)) : ρ → M (Bool × ρ) := fun r => f r >>= fun br => if br.1 then g br.2 else .ok (false, br.2)
def tOr2 (f g : ρ → M (Bool × ρ)) : ρ → M (Bool × ρ) := fun r => f r >>= fun br => if br.1 then .ok (true, br.2) else g br.2
def tNot2 (f : ρ → M (Bool × ρ)) : ρ → M (Bool × ρ) := fun r => f r >>= fun br => .ok (!br.1, br.2)
end
section
variable {X : Cx} {C : Ct} {ρ R : Type} [TR : PyTy R] {sl : ρ → List Slot} {ms ms1 ms2 lm rm : List Mode} {rk : Nat} {a b c e : Expr} {pos p : Pos} {α β : Type} [TA : PyTy α] [TB : PyTy β]
def fFor2 {ρ R β : Type} (xs : ρ → M (List β × ρ)) (set : β → ρ → ρ) (body : ρ → M (Fl ρ R)) : ρ → M (Fl ρ R) := fun r => xs r >>= fun lr => loop set body lr.1 lr.2
end
def fUnp {ρ R A : Type} (set : A → ρ → ρ) (f : ρ → M ((ρ → A) × ρ)) : ρ → M (Fl ρ R) := fun r => f r >>= fun φr => .ok (.nx (set (φr.1 φr.2) φr.2))
end VL
namespace VL
universe u
open PySem PySem.Spec PyProof.Rows L2
def fStuck {ρ R : Type} : ρ → M (Fl ρ R) := fun _ => .error .stuck
section
variable {X : Cx} {C : Ct} {ρ R : Type} [TR : PyTy R] {sl : ρ → List Slot} {ms ms1 ms2 lm rm : List Mode} {rk : Nat} {st : Stmt}
theorem s_stuck : PS X st (tS C (R := R) sl ms ms1 lm rm rk fStuck) := ⟨fun pins s σ H D I h => by
  obtain ⟨r, T, _, he⟩ := h
  exact he.elim⟩
end
theorem op_isnB {X : Cx} : OpR X (compareOp .IsNot) (fun x y H Q => ∃ a b, x = .bl a ∧ y = .bl b ∧ Q (.bl (!decide (a = b))) H) := by
  intro pins s σ H x y v u Q I rx ry h
  obtain ⟨a, b, rfl, rfl, q⟩ := h
  cases rx
  cases ry
  refine wpAny_isNot_plain rfl ⟨.bl (!decide (a = b)), H, I, ?_, q⟩
  cases a <;> cases b <;> rfl
def isBB (x y : Bool) : Option Bool := some (decide (x = y))
def isnBB (x y : Bool) : Option Bool := some (!decide (x = y))
section
variable {K : PySem.W.Frag}
theorem o_isnB : Op2 K (fun x y H Q => ∃ a b, x = .bl a ∧ y = .bl b ∧ Q (.bl (!decide (a = b))) H) isnBB 0 := Op2.scal (α := Bool) (β := Bool) (γ := Bool) fun H a b c Q e q => by cases e; exact ⟨a, b, rfl, rfl, q⟩
def leP (p q : Int × Int) : Bool := decide (p.1 < q.1 ∨ (p.1 = q.1 ∧ p.2 ≤ q.2))
def sortP (l : List (Int × Int)) : Option (List (Int × Int)) := some (l.mergeSort leP)
end
section
variable {X : Cx} {W : Hp → String → Prop} {ρ : Type} {sl : ρ → List Slot} {ms : List Mode} {a b e : Expr} {pos p p2 : Pos}
/-- sorted(xs, reverse=True) -/
def sortR (l : List Int) : Option (List Int) := some (l.mergeSort fun a b => decide (b ≤ a))
end
end VL
namespace VL
universe u
open PySem PySem.Spec PyProof.Rows L2
section
variable {X : Cx} {C : Ct} {ρ R : Type} [TR : PyTy R] {sl : ρ → List Slot} {ms ms1 ms2 lm rm : List Mode} {rk : Nat} {α β : Type} [TA : PyTy α] [TB : PyTy β] {pos p2 : Pos} {e a b : Expr}
@[irreducible] def insL {α : Type} (l : List α) (i : Int) (a : α) : Option (List α) := if l.length < 2 ^ 24 ∧ 0 ≤ i ∧ i < 2 ^ 62 then some (l.take i.toNat ++ [a] ++ l.drop i.toNat) else none
def fIns {ρ R α : Type} (get : ρ → List α) (set : List α → ρ → ρ) (f : ρ → M (Int × ρ)) (g : ρ → M (α × ρ)) : ρ → M (Fl ρ R) := fun r => f r >>= fun ir => g ir.2 >>= fun ar => up (insL (get ar.2) ir.1 ar.1) >>= fun l => .ok (.nx (set l ar.2))
def fMut0 {ρ R α : Type} (pl : ρ → M (List α × (List α → ρ))) (φ : List α → List α) : ρ → M (Fl ρ R) := fun r => pl r >>= fun lw => .ok (.nx (lw.2 (φ lw.1)))
def fAugP {ρ R : Type} (pl : ρ → M (List Int × (List Int → ρ))) (fj : ρ → M Int) (op : Int → Int → Option Int) (f : ρ → M Int) : ρ → M (Fl ρ R) := fun r => pl r >>= fun lw => fj r >>= fun j => up (ixL lw.1 j) >>= fun x => f r >>= fun y => up (op x y) >>= fun z => up (putL lw.1 j z) >>= fun l' => .ok (.nx (lw.2 l'))
end
end VL
namespace VL
universe u
open PySem PySem.Spec PyProof.Rows L2
structure Tp (α : Type) where
  l : List α
  deriving DecidableEq
instance instTp {α : Type} [T : PyTy α] : PyTy (Tp α) where
  rep K k S H v t F := ∃ p xs F', v = .ref p ∧ nodeAt k S H p (.tup xs) F F' ∧ xs.length ≤ line ∧ Reps (fun v a F => T.rep K (k - 1) S H v a F) xs t.l F'
  mono := fun {K k S H S' H' v a F} ⟨p, xs, F', e, n, z, r⟩ hs hk => ⟨p, xs, F', e, n.mono hs hk, z, r.imp fun v a G hg q => T.mono q hs fun p hp => hk p (n.sub p (hg p hp))⟩
  here := fun {K k S H v a F} ⟨p, xs, F', e, n, z, r⟩ => n.here (r.here fun v a G q => T.here q)
  freeze := fun {K k S H S' v a F} ⟨p, xs, F', e, n, z, r⟩ hs hk H' => ⟨p, xs, [], e, ⟨n.froz hs hk, rfl⟩, z, r.nil fun v a G hg q => T.freeze q hs (fun p hp => hk p (n.sub p (hg p hp))) H'⟩
  zero := fun ⟨p, xs, F', e, n, z, r⟩ => by rw [n.2]; exact r.none fun v a F q => T.zero q
instance {α : Type} [T : PyTy α] {k : Nat} [C : Closed α k] : Closed (Tp α) (k + 1) := ⟨fun ⟨p, xs, F', e, n, z, r⟩ => ⟨p, xs, F', e, n, z, r.imp fun v a F' hf q => C.closed q⟩⟩
instance {α : Type} [T : PyTy α] [Fn : Func α] : Func (Tp α) := ⟨fun {K S H H' v a b F F'} ⟨p, xs, F1, e, n, z, r⟩ ⟨p2, xs2, F2, e2, n2, z2, r2⟩ => by
  rw [e] at e2
  cases e2
  have := n.1.symm.trans n2.1
  cases this
  cases a
  cases b
  exact congrArg Tp.mk (reps_one r r2)⟩
instance {α : Type} [PyTy α] : TypOf (Tp α) "tuple" := ⟨fun ⟨p, xs, F', e, n, z, r⟩ => by rw [e]; exact .base (.tup n.1)⟩
def ixTp {α : Type} (t : Tp α) (i : Int) : Option α := ixL t.l i
def eTpl {ρ α : Type} (f : ρ → M (List α)) : ρ → M (Tp α) := fun r => f r >>= fun l => if l.length ≤ line then .ok ⟨l⟩ else .error .stuck
section
variable {X : Cx} {W : Hp → String → Prop} {ρ : Type} {sl : ρ → List Slot} {ms : List Mode} {a b e : Expr} {pos p p2 p3 : Pos} {ka kb : Mode} {α : Type} [TA : PyTy α]
theorem pv_tpl {K : PySem.W.Frag} {k kk : Nat} {es : List Expr} {f : ρ → M (List α)} (h : PA X es (tPL K W sl ms f k)) : PE X (.Tuple es kk pos) (tP K W sl ms (eTpl f) (lv (k + 1))) :=
  PE.conv (pe_tup h) fun σ H Q ⟨r, S, hs, hv, he⟩ => ⟨r, S, hs, hv, ends_mono (ends_bind he) (fun l el q vs S1 H1 F x g => by
    split at q
    · rename_i hz
      refine ⟨by rw [g.len]; exact hz, fun p hp => ?_⟩
      have hlF : ∀ q ∈ F, H1 q ≠ none := g.here fun v a F' z => TA.here z
      have hpF : p ∉ F := fun z => hlF p z hp
      refine q (.ref p) S1 (upd H1 p (.tup vs)) (p :: F) ⟨x.hh.trans (Sub.new hp), x.ss, x.sh.trans (Sub.new hp), x.nw, fun q hq => ?_, List.nodup_cons.mpr ⟨hpF, x.nd⟩⟩ ⟨p, vs, F, rfl, ⟨upd_same, rfl⟩, by rw [g.len]; exact hz, g.imp fun v a F' hf z => TA.mono z (Sub.refl S1) fun q hq => upd_ne (fun e => hpF (by rw [← e]; exact hf q hq))⟩
      rcases List.mem_cons.mp hq with e | hq
      · rw [e]
        exact ⟨x.hh.back hp, x.sh.back hp⟩
      · exact x.fr q hq
    · exact q.elim) fun c q => q⟩
end
section
variable {X : Cx} {C : Ct} {ρ R : Type} [TR : PyTy R] {sl : ρ → List Slot} {ms ms1 ms2 lm rm : List Mode} {rk : Nat} {a b : Expr} {pos : Pos} {α : Type} [TA : PyTy α]
def fPut2 {ρ R : Type} (pl : ρ → M (List Int × (List Int → ρ))) (fi fj f g : ρ → M Int) : ρ → M (Fl ρ R) := fun r => f r >>= fun a => g r >>= fun b => pl r >>= fun lw => fi r >>= fun i => up (putL lw.1 i a) >>= fun l1 => pl (lw.2 l1) >>= fun lw2 => fj (lw.2 l1) >>= fun j => up (putL lw2.1 j b) >>= fun l2 => .ok (.nx (lw2.2 l2))
end
section
variable {X : Cx} {K : PySem.W.Frag} {W : Hp → String → Prop} {ρ : Type} {sl : ρ → List Slot} {ms : List Mode} {pos : Pos}
theorem pv_glob {x : Str} {i : Int} (hg : Gl X x) (hm : ∃ t, X.mg x = some (.int i t)) (hd : (x == ("__debug__" : Str)) = false := by decide) : PE X (.Name x pos) (tP K W sl ms (e0 i) (lv 0)) :=
  let ⟨t, h⟩ := hm
  pv_c (α := Int) (pe_glob hg h ⟨t, rfl⟩ hd)
end
def runRU {ρ : Type} (f : ρ → M (Fl ρ Unit)) (r : ρ) : M Unit := f r >>= fun
  | .rt a _ => .ok a
  | .nx _ => .ok ()
  | _ => .error .stuck
end VL
namespace VL
universe u
open PySem PySem.Spec PyProof.Rows L2 RT
@[irreducible] def popL {α : Type} (l : List α) (i : Int) : Option (α × List α) := if 0 ≤ i ∧ i < 2 ^ 62 then (l[i.toNat]?).map fun a => (a, l.eraseIdx i.toNat) else none
def ePop {ρ α : Type} (get : ρ → List α) (set : List α → ρ → ρ) (f : ρ → M (Int × ρ)) : ρ → M (α × ρ) := fun r => f r >>= fun ir => up (popL (get ir.2) ir.1) >>= fun al => .ok (al.1, set al.2 ir.2)
end VL
namespace VL
universe u
open PySem PySem.Spec PyProof.Rows L2
structure Dc (α : Type) where
  l : List (Int × α)
def DRel {α : Type} (r : V → α → Prop) : List (Key × V) → List (Int × α) → Prop
  | [], [] => True
  | kv :: kvs, x :: l => kv.1 = Sum.inl x.1 ∧ r kv.2 x.2 ∧ DRel r kvs l
  | _, _ => False
theorem DRel.imp {α : Type} {r r' : V → α → Prop} : ∀ {kvs : List (Key × V)} {l : List (Int × α)}, DRel r kvs l → (∀ v a, r v a → r' v a) → DRel r' kvs l
  | [], [], h, _ => h
  | [], _ :: _, h, _ => h.elim
  | _ :: _, [], h, _ => h.elim
  | _ :: _, _ :: _, ⟨h1, h2, h3⟩, k => ⟨h1, k _ _ h2, DRel.imp h3 k⟩
theorem DRel.len {α : Type} {r : V → α → Prop} : ∀ {kvs : List (Key × V)} {l : List (Int × α)}, DRel r kvs l → kvs.length = l.length
  | [], [], _ => rfl
  | [], _ :: _, h => h.elim
  | _ :: _, [], h => h.elim
  | _ :: _, _ :: _, ⟨_, _, h⟩ => by rw [List.length_cons, List.length_cons, h.len]
instance instDc {α : Type} [T : PyTy α] : PyTy (Dc α) where
  rep K k S H v d F := ∃ p kvs, v = .ref p ∧ nodeAt k S H p (.dK kvs) F [] ∧ kvs.length ≤ line ∧ DRel (fun v a => T.rep K 0 S H v a []) kvs d.l
  mono := fun {K k S H S' H' v a F} ⟨p, kvs, e, n, z, r⟩ hs hk => ⟨p, kvs, e, n.mono hs hk, z, r.imp fun v a q => T.mono q hs fun p hp => nomatch hp⟩
  here := fun {K k S H v a F} ⟨p, kvs, e, n, z, r⟩ => n.here fun q hq => nomatch hq
  freeze := fun {K k S H S' v a F} ⟨p, kvs, e, n, z, r⟩ hs hk H' => ⟨p, kvs, e, ⟨n.froz hs hk, rfl⟩, z, r.imp fun v a q => T.mono (PyTy.froz q H') hs fun p hp => nomatch hp⟩
  zero := fun ⟨p, kvs, e, n, z, r⟩ => n.2
theorem DRel.one {α : Type} {r r' : V → α → Prop} (h1 : ∀ v a b, r v a → r' v b → a = b) : ∀ {kvs : List (Key × V)} {l m : List (Int × α)}, DRel r kvs l → DRel r' kvs m → l = m
  | [], [], [], _, _ => rfl
  | [], [], _ :: _, _, h => h.elim
  | [], _ :: _, _, h, _ => h.elim
  | _ :: _, [], _, h, _ => h.elim
  | _ :: _, _ :: _, [], _, h => h.elim
  | kv :: kvs, x :: l, y :: m, ⟨a1, a2, a3⟩, ⟨b1, b2, b3⟩ => by
    have e := a1.symm.trans b1
    cases x
    cases y
    cases e
    cases h1 _ _ _ a2 b2
    rw [DRel.one h1 a3 b3]
instance {α : Type} [T : PyTy α] [Fn : Func α] : Func (Dc α) := ⟨fun {K S H H' v a b F F'} ⟨p, kvs, e, n, z, r⟩ ⟨p2, kvs2, e2, n2, z2, r2⟩ => by
  rw [e] at e2
  cases e2
  have := n.1.symm.trans n2.1
  cases this
  cases a
  cases b
  exact congrArg Dc.mk (DRel.one (r := fun v a => T.rep K 0 S H v a []) (r' := fun v a => T.rep K 0 S H' v a []) (fun v a b x y => Fn.one x y) r r2)⟩
def getDl {α : Type} (l : List (Int × α)) (k : Int) : Option α := (l.find? fun x => decide (x.1 = k)).map (·.2)
def putDl {α : Type} (l : List (Int × α)) (k : Int) (v : α) : List (Int × α) := if (l.any fun x => decide (x.1 = k)) = true then l.map (fun x => if x.1 = k then (x.1, v) else x) else l ++ [(k, v)]
theorem DRel.get {α : Type} {r : V → α → Prop} {k : Int} : ∀ {kvs : List (Key × V)} {l : List (Int × α)}, DRel r kvs l → (valV kvs (Sum.inl k) = none ∧ getDl l k = none) ∨ ∃ v a, valV kvs (Sum.inl k) = some v ∧ getDl l k = some a ∧ r v a
  | [], [], _ => .inl ⟨rfl, rfl⟩
  | [], _ :: _, h => h.elim
  | _ :: _, [], h => h.elim
  | kv :: kvs, x :: l, ⟨h1, h2, h3⟩ => by
    by_cases c : x.1 = k
    · refine .inr ⟨kv.2, x.2, valV_pos (by rw [h1, c]), ?_, h2⟩
      unfold getDl
      rw [List.find?_cons, decide_eq_true c]
      rfl
    · have c' : ¬ kv.1 = Sum.inl k := fun z => c (by rw [h1] at z; exact Sum.inl.inj z)
      rw [valV_neg c']
      have e : getDl (x :: l) k = getDl l k := by
        unfold getDl
        rw [List.find?_cons, decide_eq_false c]
      rw [e]
      exact DRel.get h3
theorem DRel.any {α : Type} {r : V → α → Prop} {k : Int} : ∀ {kvs : List (Key × V)} {l : List (Int × α)}, DRel r kvs l → (kvs.any fun kv => decide (kv.1 = Sum.inl k)) = l.any fun x => decide (x.1 = k)
  | [], [], _ => rfl
  | [], _ :: _, h => h.elim
  | _ :: _, [], h => h.elim
  | kv :: kvs, x :: l, ⟨h1, _, h⟩ => by
    rw [List.any_cons, List.any_cons, DRel.any h, h1]
    congr 1
    exact decide_eq_decide.mpr ⟨fun z => Sum.inl.inj z, fun z => by rw [z]⟩
theorem DRel.map {α : Type} {r : V → α → Prop} {k : Int} {v : V} {a : α} (hr : r v a) : ∀ {kvs : List (Key × V)} {l : List (Int × α)}, DRel r kvs l → DRel r (kvs.map fun kv => if kv.1 = Sum.inl k then (kv.1, v) else kv) (l.map fun x => if x.1 = k then (x.1, a) else x)
  | [], [], _ => trivial
  | [], _ :: _, h => h.elim
  | _ :: _, [], h => h.elim
  | kv :: kvs, x :: l, ⟨h1, h2, h⟩ => by
    by_cases c : x.1 = k
    · rw [List.map_cons, List.map_cons, if_pos c, if_pos (by rw [h1, c])]
      exact ⟨h1, hr, DRel.map hr h⟩
    · rw [List.map_cons, List.map_cons, if_neg c, if_neg (fun z => c (by rw [h1] at z; exact Sum.inl.inj z))]
      exact ⟨h1, h2, DRel.map hr h⟩
theorem DRel.snoc {α : Type} {r : V → α → Prop} {k : Int} {v : V} {a : α} (hr : r v a) : ∀ {kvs : List (Key × V)} {l : List (Int × α)}, DRel r kvs l → DRel r (kvs ++ [(Sum.inl k, v)]) (l ++ [(k, a)])
  | [], [], _ => ⟨rfl, hr, trivial⟩
  | [], _ :: _, h => h.elim
  | _ :: _, [], h => h.elim
  | kv :: kvs, x :: l, ⟨h1, h2, h⟩ => ⟨h1, h2, DRel.snoc hr h⟩
def inD {α : Type} (k : Int) (d : Dc α) : Option Bool := some (getDl d.l k).isSome
def ninD {α : Type} (k : Int) (d : Dc α) : Option Bool := some (!(getDl d.l k).isSome)
@[irreducible] def putDo {α : Type} (d : Dc α) (k : Int) (v : α) : Option (Dc α) := if d.l.length < 2 ^ 24 then some ⟨putDl d.l k v⟩ else none
section
variable {X : Cx} {K : PySem.W.Frag} {W : Hp → String → Prop} {ρ : Type} {sl : ρ → List Slot} {ms : List Mode} {a b e : Expr} {pos p : Pos} {ka kb : Mode} {α : Type} [TA : PyTy α]
def lenD {α : Type} (d : Dc α) : Option Int := some (d.l.length : Int)
/-- d[k], of a dict that is shared -/
def getDo {α : Type} (d : Dc α) (k : Int) : Option α := getDl d.l k
end
section
variable {X : Cx} {C : Ct} {ρ R : Type} [TR : PyTy R] {sl : ρ → List Slot} {ms ms1 ms2 lm rm : List Mode} {rk : Nat} {α : Type} [TA : PyTy α] {pos pos' : Pos} {o ik value : Expr}
def fDput {ρ R α : Type} (get : ρ → Dc α) (set : Dc α → ρ → ρ) (fk : ρ → M Int) (fv : ρ → M α) : ρ → M (Fl ρ R) := fun r => fv r >>= fun v => fk r >>= fun k => up (putDo (get r) k v) >>= fun d => .ok (.nx (set d r))
end
def andI (x y : Int) : Option Int := some (Builtin.bitAnd x y)
end VL
namespace VL
universe u
open PySem PySem.Spec PyProof.Rows L2
class NotNon (α : Type) [T : PyTy α] : Prop where
  ne : ∀ {K k S H v a F}, T.rep K k S H v a F → v ≠ .non
instance : NotNon Int := ⟨fun h => by rw [h.1]; exact fun z => nomatch z⟩
instance : NotNon Bool := ⟨fun h => by rw [h.1]; exact fun z => nomatch z⟩
instance : NotNon Str := ⟨fun h => by rw [h.1]; exact fun z => nomatch z⟩
instance {α : Type} [T : PyTy α] : NotNon (List α) := ⟨fun ⟨p, xs, F', e, _⟩ => by rw [e]; exact fun z => nomatch z⟩
instance {α β : Type} [TA : PyTy α] [TB : PyTy β] : NotNon (α × β) := ⟨fun ⟨p, x, y, F1, F2, e, _⟩ => by rw [e]; exact fun z => nomatch z⟩
instance instOpt {α : Type} [T : PyTy α] : PyTy (Option α) where
  rep K k S H v o F := match o with
    | none => v = .non ∧ F = []
    | some a => T.rep K k S H v a F
  mono {K k S H S' H' v o F} h hs hk := by
    cases o with
    | none => exact h
    | some a => exact T.mono h hs hk
  here {K k S H v o F} h := by
    cases o with
    | none => rw [h.2]; exact fun p hp => nomatch hp
    | some a => exact T.here h
  freeze {K k S H S' v o F} h hs hk H' := by
    cases o with
    | none => exact ⟨h.1, rfl⟩
    | some a => exact T.freeze h hs hk H'
  zero {K S H v o F} h := by
    cases o with
    | none => exact h.2
    | some a => exact T.zero h
instance instScalOpt {α : Type} [T : PyTy α] [C : Scal α] : Scal (Option α) := ⟨fun o => match o with
    | none => V.non
    | some a => C.val a, by
  intro K k S H v o F
  cases o with
  | none => exact Iff.rfl
  | some a => exact C.scal⟩
instance {α : Type} [T : PyTy α] [Fn : Func α] [N : NotNon α] : Func (Option α) := ⟨fun {K S H H' v a b F F'} h g => by
  cases a with
  | none => cases b with
    | none => rfl
    | some b => exact absurd h.1 (N.ne (show T.rep K 0 S H' v b F' from g))
  | some a => cases b with
    | none => exact absurd g.1 (N.ne (show T.rep K 0 S H v a F from h))
    | some b => exact congrArg some (Fn.one (show T.rep K 0 S H v a F from h) (show T.rep K 0 S H' v b F' from g))⟩
def isNo {α : Type} (o : Option α) : Option Bool := some o.isNone
def isSo {α : Type} (o : Option α) : Option Bool := some (!o.isNone)
def unO {α : Type} (o : Option α) : Option α := o
def toO {α : Type} (a : α) : Option (Option α) := some (some a)
section
variable {X : Cx} {K : PySem.W.Frag} {W : Hp → String → Prop} {ρ : Type} {sl : ρ → List Slot} {ms : List Mode} {a b e : Expr} {pos p : Pos} {kd : Mode} {α β : Type} [TA : PyTy α] [TB : PyTy β]
/-- the same value, seen otherwise -/
theorem pv_re {op : α → Option β} {f : ρ → M α} (hr : ∀ {K k S H v a b F}, op a = some b → TA.rep K k S H v a F → TB.rep K k S H v b F) (h : PE X e (tP K W sl ms f kd)) : PE X e (tP K W sl ms (e1 op f) kd) :=
  PE.conv h fun σ H Q ⟨r, S, hs, hv, he⟩ => ⟨r, S, hs, hv, ends_mono (ends_bind he) (fun a ea q v S' H' F x g => by
    obtain ⟨z, ez, q⟩ := up_ends q
    refine q v S' H' F x ?_
    cases kd with
    | un => exact g
    | vw => exact ⟨g.1, hr ez g.2⟩
    | id n => exact ⟨g.1, hr ez g.2⟩
    | own k io => exact hr ez g) fun c q => q⟩
variable [NA : NotNon α]
end
section
variable {X : Cx} {C : Ct} {ρ : Type} {sl : ρ → List Slot} {ms ms1 ms2 : List Mode} {a b e : Expr} {pos : Pos} {α β : Type} [TA : PyTy α] [TB : PyTy β]
theorem ve_re {op : α → Option β} {k : Nat} {f : ρ → M (α × ρ)} (hr : ∀ {K k S H v a b F}, op a = some b → TA.rep K k S H v a F → TB.rep K k S H v b F) (h : PE X e (tE C sl ms ms1 f k)) : PE X e (tE C sl ms ms1 (E1 op f) k) :=
  PE.conv h fun σ H Q ⟨r, T, hd, he⟩ => ⟨r, T, hd, ends_mono (ends_bind he) (fun ar _ q v H1 hd1 => by
    obtain ⟨z, ez, q⟩ := up_ends (ends_bind q)
    exact q v H1 (hd1.imp fun S F r => hr ez r)) fun c q => q⟩
end
end VL
namespace VL
universe u
open PySem PySem.Spec PyProof.Rows L2
def numF {β γ : Type} (ofI : Nat → β → γ) : Nat → List β → List γ
  | _, [] => []
  | m, b :: l => ofI m b :: numF ofI (m + 1) l
def fForO {ρ R β γ : Type} (ret : Bool) (get : ρ → List β) (setl : List β → ρ → ρ) (ofI : Nat → β → γ) (set : γ → ρ → ρ) (f : ρ → M (Fl ρ R)) : ρ → M (Fl ρ R) := fun r => loop set f (numF ofI 0 (get r)) r >>= fun
  | .nx r' => .ok (.nx (setl (get r) r'))
  | .rt a r' => if ret = true then .ok (.rt a r') else .error .stuck
  | o => .ok o
section
variable {X : Cx} {C : Ct} {ρ : Type} {sl : ρ → List Slot} {ms ms1 ms2 : List Mode} {o ik : Expr} {pos : Pos} {α : Type} [TA : PyTy α]
def eDget {ρ α : Type} (get : ρ → Dc α) (fk : ρ → M Int) : ρ → M (α × ρ) := fun r => fk r >>= fun k => up (getDo (get r) k) >>= fun a => .ok (a, r)
end
section
variable {X : Cx} {C : Ct} {ρ : Type} {sl : ρ → List Slot} {ms ms1 ms2 : List Mode} {o ik : Expr} {pos : Pos} {α : Type} [TA : PyTy α]
def eIxO {ρ α : Type} (get : ρ → List α) (g : ρ → M (Int × ρ)) : ρ → M (α × ρ) := fun r => g r >>= fun ir => up (ixL (get ir.2) ir.1) >>= fun a => .ok (a, ir.2)
theorem ve_ixO {i kb : Nat} {io : Option Nat} {get : ρ → List α} {g : ρ → M (Int × ρ)} (ho : PE X o (tVar i)) (hi : PE X ik (tE C sl ms ms1 g kb))
    (hm : ms[i]? = some (.own 1 io)) (hm1 : ms1[i]? = some (.own 1 io)) (hg : ∀ r, (sl r)[i]? = some ⟨get r⟩) (hs : PlainIx ik := by exact fun _ _ => rfl) : PE X (.Subscript o ik pos) (tE C sl ms ms1 (eIxO get g) 0) :=
  PE.conv (pe_ix ix_list ho hi hs) fun σ H Q ⟨r, T, hd, he⟩ => by
    obtain ⟨w, ew, hdo⟩ := hd.open hm (hg r)
    obtain ⟨p0, ep⟩ : ∃ p0, w = some (.ref p0) := hdo.at fun S F ⟨x0, ex0, io0, p0, kvs, F', ep, n, _⟩ => ⟨p0, by rw [ex0, ep]⟩
    subst ep
    refine ⟨.ref p0, ew, r, T, hd, ends_mono (ends_bind he) (fun kr _ q y H2 hd2 => ?_) fun c q => q⟩
    obtain ⟨a, ea, q⟩ := up_ends (ends_bind q)
    obtain ⟨key, r2⟩ := kr
    have ey := itm_int hd2
    subst ey
    have hd3 : Hd C (T ++ Env C.K C.A ms1 (sl r2) σ) H2 := hd2.drop
    obtain ⟨w', ew', hd4⟩ := hd3.open hm1 (hg r2)
    rw [ew] at ew'
    cases ew'
    obtain ⟨S, F, ⟨F1, F2, eF, hA, st⟩, ok⟩ := id hd4
    obtain ⟨x0, ex0, io0, p1, vs, F', ep, n, z, rr⟩ := id hA
    cases ex0
    cases ep
    have eF' : F' = [] := rr.none fun v a F q => TA.zero q
    subst eF'
    obtain ⟨v1, at1, r1⟩ := ixL_at rr ea
    refine ⟨p0, vs, key, v1, rfl, rfl, .inl (.inl n.1), at1, q v1 H2 ?_⟩
    have hd5 : Hd C (slotA C.K C.A (.own 1 io) ⟨get r2⟩ (some (.ref p0)) :: ((itm C.K 0 a v1 :: T) ++ Env C.K C.A (ms1.set i .un) (sl r2) σ)) H2 :=
      ⟨S, F, ⟨F1, F2, eF, hA, ⟨[], F2, rfl, PyTy.froz r1 H2, st⟩⟩, ok⟩
    have hl : i < σ.length := (List.getElem?_eq_some_iff.mp ew).1
    have hd7 := Hd.close (m0 := .un) (i := i) hd5 hl
    have e1 : σ.set i (some (.ref p0)) = σ := by
      obtain ⟨h1, h2⟩ := List.getElem?_eq_some_iff.mp ew
      rw [← h2]
      exact List.set_getElem_self h1
    have e2 : (sl r2).set i ⟨get r2⟩ = sl r2 := by
      obtain ⟨h1, h2⟩ := List.getElem?_eq_some_iff.mp (hg r2)
      rw [← h2]
      exact List.set_getElem_self h1
    have e3 : (ms1.set i .un).set i (.own 1 io) = ms1 := by
      obtain ⟨h1, h2⟩ := List.getElem?_eq_some_iff.mp hm1
      rw [List.set_set, ← h2]
      exact List.set_getElem_self h1
    rw [e1, e2, e3] at hd7
    exact hd7
end
end VL
namespace VL
universe u
open PySem PySem.Spec PyProof.Rows L2
def eTl {ρ α : Type} (f : ρ → M (Tp α)) : ρ → M (List α) := fun r => f r >>= fun t => .ok t.l
end VL
namespace VL
universe u
open PySem PySem.Spec PyProof.Rows L2
structure FnV where
  a : Addr
instance instFnV : PyTy FnV := scalTy fun f => V.ref f.a
instance : Scal FnV := ⟨fun f => V.ref f.a, Iff.rfl⟩
instance : ValInj FnV := ⟨fun x y h => by
  cases x
  cases y
  exact congrArg FnV.mk (V.ref.inj h)⟩
def eCut2 {ρ α : Type} (f : ρ → M (List α × ρ)) (g h : ρ → M (Option Int)) : ρ → M (List α × ρ) := fun r => f r >>= fun lr => g lr.2 >>= fun a => h lr.2 >>= fun b => .ok (cutA lr.1 a b, lr.2)
end VL
namespace VL
universe u
open PySem PySem.Spec PyProof.Rows L2
theorem ite_some {α : Type} {c : Prop} [Decidable c] {a b : α} (h : (if c then some a else none) = some b) : c ∧ b = a := by
  by_cases q : c
  · rw [if_pos q] at h
    cases h
    exact ⟨q, rfl⟩
  · rw [if_neg q] at h
    cases h
section
variable {X : Cx} {K : PySem.W.Frag} {W : Hp → String → Prop} {ρ : Type} {sl : ρ → List Slot} {ms : List Mode} {a b c e : Expr} {pos p tpos : Pos} {ka kb kd : Mode}
variable {α β γ : Type} [TA : PyTy α] [TB : PyTy β] [TC : PyTy γ]
/-- z[lo:hi] of a text -/
def eCutS {ρ : Type} (f : ρ → M Str) (g h : ρ → M (Option Int)) : ρ → M Str := fun r => f r >>= fun z => g r >>= fun a => h r >>= fun b => if z.length ≤ line then .ok (cutS z a b) else .error .stuck
end
class DatC (α : Type) [PT : PyTy α] where
  toD : α → PyData
  n : Nat
  dp : ∀ {K H v a}, PT.rep K 0 H H v a [] → Dp K H v (toD a)
  dep : ∀ a, (toD a).depth ≤ n
/-- .. whose == is their being the same -/
class DatS (α : Type) [PT : PyTy α] extends DatC α where
  same : ∀ a b, PyData.eqv (toD a) (toD b) = true ↔ a = b
instance dsInt : DatS Int where
  toD := PyData.int
  n := 0
  dp h := by rw [show _ = _ from rep_scal h]; exact Dp.int _
  dep _ := Nat.le_refl _
  same a b := by
    show (a == b) = true ↔ a = b
    exact beq_iff_eq
instance dsBool : DatS Bool where
  toD := PyData.bool
  n := 0
  dp h := by rw [show _ = _ from rep_scal h]; exact Dp.bl _
  dep _ := Nat.le_refl _
  same a b := by
    show (a == b) = true ↔ a = b
    exact beq_iff_eq
instance dsStr : DatS Str where
  toD := PyData.str
  n := 0
  dp h := by rw [show _ = _ from rep_scal h]; exact Dp.str _
  dep _ := Nat.le_refl _
  same a b := by
    show (a == b) = true ↔ a = b
    exact beq_iff_eq
theorem dcAll {α : Type} [PT : PyTy α] [T : DatC α] {K : PySem.W.Frag} {H : Hp} : ∀ {vs : List V} {l : List α}, Reps (fun v a F => PT.rep K 0 H H v a F) vs l [] → DpAll K H vs (l.map T.toD)
  | [], [], _ => .nil
  | [], _ :: _, h => h.elim
  | _ :: _, [], h => h.elim
  | v :: vs, a :: l, ⟨F1, F2, e, h1, h2⟩ => by
    obtain ⟨e1, e2⟩ := List.append_eq_nil_iff.mp e.symm
    subst e1 e2
    exact .cons (T.dp h1) (dcAll h2)
theorem decAll {α : Type} [PT : PyTy α] [T : DatC α] : ∀ l : List α, PyData.depthAll (l.map T.toD) ≤ T.n
  | [] => Nat.zero_le _
  | a :: l => by
    show max (T.toD a).depth (PyData.depthAll (l.map T.toD)) ≤ T.n
    have h1 := T.dep a
    have h2 := decAll l
    omega
theorem scAll {α : Type} [PT : PyTy α] [T : DatS α] : ∀ l m : List α, PyData.eqvAll (l.map T.toD) (m.map T.toD) = true ↔ l = m
  | [], [] => ⟨fun _ => rfl, fun _ => rfl⟩
  | [], _ :: _ => ⟨(fun h => nomatch h), (fun h => nomatch h)⟩
  | _ :: _, [] => ⟨(fun h => nomatch h), (fun h => nomatch h)⟩
  | a :: l, b :: m => by
    show (PyData.eqv (T.toD a) (T.toD b) && PyData.eqvAll (l.map T.toD) (m.map T.toD)) = true ↔ a :: l = b :: m
    rw [Bool.and_eq_true, T.same a b, scAll l m, List.cons.injEq]
instance dcList {α : Type} [PT : PyTy α] [T : DatC α] : DatC (List α) where
  toD l := .list (l.map T.toD)
  n := T.n + 1
  dp := fun ⟨p, xs, F', e, n, z, r⟩ => by
    rw [e]
    have e2 : F' = [] := n.2.symm
    subst e2
    exact Dp.lst (.inl (.inl n.1)) (dcAll r)
  dep l := Nat.succ_le_succ (decAll l)
instance dsList {α : Type} [PT : PyTy α] [T : DatS α] : DatS (List α) := { dcList with same := fun l m => scAll l m }
instance dcProd {α β : Type} [PyTy α] [PyTy β] [TA : DatC α] [TB : DatC β] : DatC (α × β) where
  toD t := .tuple [TA.toD t.1, TB.toD t.2]
  n := max TA.n TB.n + 1
  dp := fun {K H v a} ⟨p, x, y, F1, F2, e, n, r1, r2⟩ => by
    rw [e]
    obtain ⟨e1, e2⟩ := List.append_eq_nil_iff.mp n.2.symm
    subst e1 e2
    exact Dp.tup (.inl (.inl n.1)) (.cons (TA.dp r1) (.cons (TB.dp r2) .nil))
  dep t := by
    show max (TA.toD t.1).depth (max (TB.toD t.2).depth 0) + 1 ≤ _
    have h1 := TA.dep t.1
    have h2 := TB.dep t.2
    omega
theorem dsPair {α β : Type} [PyTy α] [PyTy β] [TA : DatS α] [TB : DatS β] (s t : α × β) : PyData.eqv (dcProd.toD s) (dcProd.toD t) = true ↔ s = t := by
  show (PyData.eqv (TA.toD s.1) (TA.toD t.1) && (PyData.eqv (TB.toD s.2) (TB.toD t.2) && true)) = true ↔ s = t
  rw [Bool.and_true, Bool.and_eq_true, TA.same, TB.same, Prod.ext_iff]
instance dsProd {α β : Type} [PyTy α] [PyTy β] [TA : DatS α] [TB : DatS β] : DatS (α × β) := { dcProd with same := fun s t => dsPair s t }
def layC {α : Type} [PT : PyTy α] [T : DatC α] (x : α) : Bool := (T.toD x).canLay0
def neC {α : Type} [PT : PyTy α] [T : DatC α] (x y : α) : Option Bool := if (layC x && layC y) = true then some (!PyData.eqv (T.toD x) (T.toD y)) else none
theorem shapedC {α : Type} [PT : PyTy α] [T : DatC α] {a : α} (hl : layC a = true) (h : T.n ≤ 64) : SeqAt.shaped (T.toD a) = true := by
  have hl' : (T.toD a).canLay0 = true := hl
  unfold SeqAt.shaped
  rw [hl', Bool.true_and]
  exact decide_eq_true (Nat.le_trans (T.dep a) h)
theorem o_neC {K : PySem.W.Frag} {α : Type} [PT : PyTy α] [T : DatC α] (h : T.n ≤ 64 := by decide) : Op2 K (rNeD K) (neC (α := α)) 0 := fun H x y a b c Q ra rb e q => by
  unfold neC at e
  obtain ⟨hc, ec⟩ := ite_some e
  obtain ⟨h1, h2⟩ := Bool.and_eq_true_iff.mp hc
  subst ec
  exact ⟨T.toD a, T.toD b, T.dp ra, T.dp rb, shapedC h1 h, shapedC h2 h, q _ H (New.scal (α := Bool))⟩
end VL
namespace VL
open PySem PySem.Spec PyProof.Rows L2
end VL
namespace VL
universe u
open PySem PySem.Spec PyProof.Rows L2
/-- a call whose error is handed on -/
def eCallX {ρ A R : Type} (m : A → M R) (f : ρ → M A) : ρ → M R := fun r => f r >>= fun a => m a
def fRaise {ρ R : Type} (c : String) : ρ → M (Fl ρ R) := fun _ => .error (.exc c)
end VL
namespace VL
universe u
open PySem PySem.Spec PyProof.Rows L2
inductive Sc where
  | i (n : Int)
  | b (t : Bool)
  | s (x : Str)
  | non
  deriving DecidableEq
def Sc.v : Sc → V
  | .i n => .int n
  | .b t => .bl t
  | .s x => .str x
  | .non => .non
def Sc.ty : Sc → String
  | .i _ => "int"
  | .b _ => "bool"
  | .s _ => "str"
  | .non => "NoneType"
instance instPySc : PyTy Sc := scalTy Sc.v
instance : Scal Sc := ⟨Sc.v, Iff.rfl⟩
instance : ValInj Sc := ⟨fun x y h => by
  cases x <;> cases y <;> first | rfl | (exact congrArg _ (V.int.inj h)) | (exact congrArg _ (V.bl.inj h)) | (exact congrArg _ (V.str.inj h)) | (exact nomatch h)⟩
def scI (n : Int) : Option Sc := some (.i n)
def scB (t : Bool) : Option Sc := some (.b t)
def scS (x : Str) : Option Sc := some (.s x)
def scN (_ : Unit) : Option Sc := some .non
def toI : Sc → Option Int
  | .i n => some n
  | _ => none
def toS : Sc → Option Str
  | .s x => some x
  | _ => none
def lsY (l : List Int) : Option (List Sc) := some (l.map .i)
theorem re_scI {K : PySem.W.Frag} {k : Nat} {S H : Hp} {v : V} {a : Int} {b : Sc} {F : List Addr} (e : scI a = some b) (h : instPyInt.rep K k S H v a F) : instPySc.rep K k S H v b F := by cases e; exact h
def isIntY : Sc → Option Bool
  | .i _ => some true
  | .b _ => some true
  | .s _ => some false
  | .non => some false
def isBoolY : Sc → Option Bool
  | .b _ => some true
  | .i _ => some false
  | .s _ => some false
  | .non => some false
theorem ty_sc {K : PySem.W.Frag} {H : Hp} {v : V} {a : Sc} (h : instPySc.rep K 0 H H v a []) : TyX K H v (.type a.ty) := by
  rw [show v = a.v from rep_scal h]
  cases a with
  | i n => exact .base (.int _)
  | b n => exact .base (.bl _)
  | s n => exact .base (.str _)
  | non => exact .base .non
section
variable {X : Cx} {K : PySem.W.Frag} {W : Hp → String → Prop} {ρ : Type} {sl : ρ → List Slot} {ms : List Mode} {a e : Expr} {pos p : Pos} {kd : Mode}
theorem pv_isiY {u : String} {op : Sc → Option Bool} {x : Str} {p3 : Pos} {f : ρ → M Sc} (hb : ∀ y b, op y = some b → kitB y.ty u = some b) (hg : Gl X "isinstance") (hm : X.mg "isinstance" = none) (hgx : Gl X x) (hmx : X.mg x = none) (hv : bootBuiltins x = some (.type u)) (ha : PE X a (tP X.K W sl ms f kd)) (hk : kd ≠ .un := by decide) (hn : x ≠ "__name__" := by decide) (hdb : (x == ("__debug__" : Str)) = false := by decide)
    (he : starEach [a, .Name x p3] X.env = (false, eval a X.env) :: starEach [.Name x p3] X.env := by rfl) (he2 : starEach [.Name x p3] X.env = (false, eval (.Name x p3) X.env) :: starEach [] X.env := by rfl) (hpl : (backTo pos (starEach [.Name x p3] X.env)).any (·.1) = false := by rfl) :
    PE X (.Call (.Name "isinstance" p) [a, .Name x p3] [] pos) (tP X.K W sl ms (e1 op f) (lv 0)) :=
  PE.conv (pe_callB call_isi hg hm boot_isinstance (pa_cons ha (pa_cons (pe_bltn (v := .ty u) hgx hmx hv rfl hn hdb) pa_nil he2) he) (by decide) (by decide) he hpl) fun σ H Q ⟨r, S, hs, hv, q⟩ => ⟨r, S, hs, hv, ends_mono (ends_bind q) (fun y ey q v S1 H1 F x g => by
    obtain ⟨b, eb, q⟩ := up_ends q
    exact ⟨v, .ty u, .type y.ty, .type u, b, rfl, .ty u, ty_sc (g.look x.sh hk), kit_ty (hb y b eb), q _ _ H1 [] (x.share g.here) (Scal.scal.mpr ⟨rfl, rfl⟩)⟩) fun c q => q⟩
end
theorem kit_intY : ∀ y b, isIntY y = some b → kitB y.ty "int" = some b := fun y b e => by
  cases y <;> (cases e; simp only [Sc.ty]; decide +kernel)
theorem kit_boolY : ∀ y b, isBoolY y = some b → kitB y.ty "bool" = some b := fun y b e => by
  cases y <;> (cases e; simp only [Sc.ty]; decide +kernel)
instance dcSc : DatC Sc where
  toD
    | .i n => .int n
    | .b t => .bool t
    | .s x => .str x
    | .non => .none
  n := 0
  dp {K H v a} h := by
    rw [show v = a.v from rep_scal h]
    cases a with
    | i n => exact Dp.int _
    | b n => exact Dp.bl _
    | s n => exact Dp.str _
    | non => exact Dp.non
  dep a := by cases a <;> exact Nat.le_refl _
end VL
namespace VL
universe u
open PySem PySem.Spec PyProof.Rows L2
/-- what is asked of the object that is handled -/
structure PinE (X : Cx) (D : Addr) (p : Addr × Obj) : Prop where
  mem : p ∈ X.pn
  cls : ExcC X.K D
  zc : Zc (.ref D) none p.2
  fld : ∃ vs, p.2.data = .fields vs
theorem PinE.inst {X : Cx} {D : Addr} {p : Addr × Obj} (E : PinE X D p) {pins : List (Addr × Obj)} {σ : L2.St} {H : Hp} {s : Shared} (I : Inv X pins σ H s) : PySem.W.InstAt s.heap p.1 p.2 D none := by
  have hget := (I.pin p (List.mem_append_left _ E.mem)).1
  obtain ⟨vs, hv⟩ := E.fld
  have hz := E.zc
  obtain ⟨a, oe⟩ := p
  obtain ⟨oc, od, oda, osl⟩ := oe
  obtain ⟨h1, h2⟩ := hz
  dsimp only at h1 h2 hv hget
  subst h1 h2 hv
  exact ⟨hget, rfl, rfl, trivial⟩
end VL
set_option maxHeartbeats 2000000
namespace VL
universe u
open PySem PySem.Spec PyProof.Rows L2
open L2H (RoomH Hot1 PinOk cxH inv_startH)
def cntOf {α : Type} [DecidableEq α] (l : List α) (x : α) : Option Int := some ((l.countP fun y => decide (y = x) : Nat) : Int)
def allB (l : List Bool) : Option Bool := some (l.all id)
end VL
namespace VL
universe u
open PySem PySem.Spec PyProof.Rows L2
def fMutIx {ρ R α β : Type} (get : ρ → List (List α)) (set : List (List α) → ρ → ρ) (fi : ρ → M (Int × ρ)) (op : List α → β → Option (List α)) (f : ρ → M β) : ρ → M (Fl ρ R) := fun r => fi r >>= fun ir => fMutP (pIx (pV get set) (fun _ => .ok ir.1)) op f ir.2
end VL
namespace VL
section
variable {ρ α β γ δ R A B : Type}
def val (m : M α) (Q : α → Prop) : Prop := match m with
  | .ok a => Q a
  | .error _ => False
def opt (o : Option α) (Q : α → Prop) : Prop := match o with
  | some a => Q a
  | none => False
def wp (m : M (Fl ρ R)) (N : ρ → Prop) (T : R → Prop) (B C : ρ → Prop) : Prop := match m with
  | .ok (.nx r) => N r
  | .ok (.rt a _) => T a
  | .ok (.bk r) => B r
  | .ok (.ct r) => C r
  | .error _ => False
theorem val_eq {m : M α} {a : α} (h : val m (· = a)) : m = .ok a := by
  cases m with
  | ok b => exact congrArg _ h
  | error e => exact h.elim
theorem val_ex {m : M α} {Q : α → Prop} (h : val m Q) : ∃ a, m = .ok a ∧ Q a := by
  cases m with
  | ok b => exact ⟨b, rfl, h⟩
  | error e => exact h.elim
theorem val_mono {m : M α} {P Q : α → Prop} (h : val m P) (f : ∀ a, P a → Q a) : val m Q := by
  cases m with
  | ok b => exact f _ h
  | error e => exact h.elim
theorem wp_mono {m : M (Fl ρ R)} {N N' : ρ → Prop} {T T' : R → Prop} {B B' C C' : ρ → Prop} (h : wp m N T B C) (hN : ∀ r, N r → N' r) (hT : ∀ a, T a → T' a) (hB : ∀ r, B r → B' r) (hC : ∀ r, C r → C' r) : wp m N' T' B' C' := by
  cases m with
  | ok f => cases f with
    | nx r => exact hN _ h
    | rt a r => exact hT _ h
    | bk r => exact hB _ h
    | ct r => exact hC _ h
  | error e => exact h.elim
@[simp] theorem val_ok (a : α) (Q : α → Prop) : val (.ok a) Q = Q a := id rfl
@[simp] theorem val_er (e : Er) (Q : α → Prop) : val (.error e : M α) Q = False := id rfl
@[simp] theorem val_bind (m : M α) (f : α → M β) (Q : β → Prop) : val (m >>= f) Q = val m (fun a => val (f a) Q) := by cases m <;> rfl
@[simp] theorem val_up (o : Option α) (Q : α → Prop) : val (up o) Q = opt o Q := by cases o <;> rfl
@[simp] theorem val_mute (m : M α) (Q : α → Prop) : val (mute m) Q = val m Q := by cases m <;> rfl
@[simp] theorem val_ite (c : Prop) [Decidable c] (m n : M α) (Q : α → Prop) : val (if c then m else n) Q = if c then val m Q else val n Q := by split <;> rfl
@[simp] theorem opt_some (a : α) (Q : α → Prop) : opt (some a) Q = Q a := id rfl
@[simp] theorem opt_none (Q : α → Prop) : opt none Q = False := id rfl
@[simp] theorem opt_ite (c : Prop) [Decidable c] (m n : Option α) (Q : α → Prop) : opt (if c then m else n) Q = if c then opt m Q else opt n Q := by split <;> rfl
@[simp] theorem val_e0 (a : α) (r : ρ) (Q : α → Prop) : val (e0 a r) Q = Q a := id rfl
@[simp] theorem val_eV (g : ρ → α) (r : ρ) (Q : α → Prop) : val (eV g r) Q = Q (g r) := id rfl
@[simp] theorem val_e1 (op : α → Option β) (f : ρ → M α) (r : ρ) (Q : β → Prop) : val (e1 op f r) Q = val (f r) fun a => opt (op a) Q := by simp [e1]
@[simp] theorem val_e2 (op : α → β → Option γ) (f : ρ → M α) (g : ρ → M β) (r : ρ) (Q : γ → Prop) : val (e2 op f g r) Q = val (f r) fun a => val (g r) fun b => opt (op a b) Q := by simp [e2]
@[simp] theorem val_e3 (op : α → β → γ → Option δ) (f : ρ → M α) (g : ρ → M β) (h : ρ → M γ) (r : ρ) (Q : δ → Prop) : val (e3 op f g h r) Q = val (f r) fun a => val (g r) fun b => val (h r) fun c => opt (op a b c) Q := by simp [e3]
@[simp] theorem val_eIf (c : ρ → M Bool) (f g : ρ → M α) (r : ρ) (Q : α → Prop) : val (eIf c f g r) Q = val (c r) fun b => if b then val (f r) Q else val (g r) Q := by simp [eIf]
@[simp] theorem val_eAnd (f g : ρ → M Bool) (r : ρ) (Q : Bool → Prop) : val (eAnd f g r) Q = val (f r) fun b => if b then val (g r) Q else Q false := by simp [eAnd]
@[simp] theorem val_eOr (f g : ρ → M Bool) (r : ρ) (Q : Bool → Prop) : val (eOr f g r) Q = val (f r) fun b => if b then Q true else val (g r) Q := by simp [eOr]
@[simp] theorem val_lift (f : ρ → M α) (r : ρ) (Q : α × ρ → Prop) : val (lift f r) Q = val (f r) fun a => Q (a, r) := by simp [lift]
@[simp] theorem val_eNil (r : ρ) (Q : List α → Prop) : val (eNil r) Q = Q [] := id rfl
@[simp] theorem val_eCons (f : ρ → M α) (g : ρ → M (List α)) (r : ρ) (Q : List α → Prop) : val (eCons f g r) Q = val (f r) fun a => val (g r) fun l => Q (a :: l) := by simp [eCons]
@[simp] theorem val_eLst (f : ρ → M (List α)) (r : ρ) (Q : List α → Prop) : val (eLst f r) Q = val (f r) fun l => if l.length ≤ line then Q l else False := by simp [eLst]
@[simp] theorem val_ePair (f : ρ → M α) (g : ρ → M β) (r : ρ) (Q : α × β → Prop) : val (ePair f g r) Q = val (f r) fun a => val (g r) fun b => Q (a, b) := by simp [ePair]
@[simp] theorem val_eEnum (f : ρ → M (List α)) (r : ρ) (Q : List (Int × α) → Prop) : val (eEnum f r) Q = val (f r) fun l => Q (enumF 0 l) := by simp [eEnum]
@[simp] theorem val_eZip (f : ρ → M (List α)) (g : ρ → M (List β)) (r : ρ) (Q : List (α × β) → Prop) : val (eZip f g r) Q = val (f r) fun l => val (g r) fun m => Q (l.zip m) := by simp [eZip]
@[simp] theorem val_eRev (f : ρ → M (List α)) (r : ρ) (Q : List α → Prop) : val (eRev f r) Q = val (f r) fun l => Q l.reverse := by simp [eRev]
@[simp] theorem val_oNone (r : ρ) (Q : Option Int → Prop) : val (oNone r) Q = Q none := id rfl
@[simp] theorem val_oSome (f : ρ → M Int) (r : ρ) (Q : Option Int → Prop) : val (oSome f r) Q = val (f r) fun i => Q (some i) := by simp [oSome]
@[simp] theorem val_eCut (f : ρ → M (List α)) (g h : ρ → M (Option Int)) (r : ρ) (Q : List α → Prop) : val (eCut f g h r) Q = val (f r) fun l => val (g r) fun a => val (h r) fun b => Q (cutA l a b) := by simp [eCut]
@[simp] theorem val_aNil (r : ρ) (Q : Unit → Prop) : val (aNil r) Q = Q () := id rfl
@[simp] theorem val_aCons (f : ρ → M α) (g : ρ → M B) (r : ρ) (Q : α × B → Prop) : val (aCons f g r) Q = val (f r) fun a => val (g r) fun b => Q (a, b) := by simp [aCons]
@[simp] theorem val_eCall (m : A → M R) (f : ρ → M A) (r : ρ) (Q : R → Prop) : val (eCall m f r) Q = val (f r) fun a => val (m a) Q := by simp [eCall]
@[simp] theorem val_eLc (xs : ρ → M (List β)) (set : β → ρ → ρ) (t : ρ → M Bool) (e : ρ → M γ) (r : ρ) (Q : List γ → Prop) : val (eLc xs set t e r) Q = val (xs r) fun l => val (lcGo set t e r l) Q := by simp [eLc]
@[simp] theorem wp_nx (r : ρ) (N : ρ → Prop) (T : R → Prop) (B C : ρ → Prop) : wp (.ok (.nx r)) N T B C = N r := id rfl
@[simp] theorem wp_rt (a : R) (r : ρ) (N : ρ → Prop) (T : R → Prop) (B C : ρ → Prop) : wp (.ok (.rt a r)) N T B C = T a := id rfl
@[simp] theorem wp_bk (r : ρ) (N : ρ → Prop) (T : R → Prop) (B C : ρ → Prop) : wp (.ok (.bk r)) N T B C = B r := id rfl
@[simp] theorem wp_ct (r : ρ) (N : ρ → Prop) (T : R → Prop) (B C : ρ → Prop) : wp (.ok (.ct r)) N T B C = C r := id rfl
@[simp] theorem wp_bind (m : M α) (f : α → M (Fl ρ R)) (N : ρ → Prop) (T : R → Prop) (B C : ρ → Prop) : wp (m >>= f) N T B C = val m (fun a => wp (f a) N T B C) := by cases m <;> rfl
@[simp] theorem wp_seq (f g : ρ → M (Fl ρ R)) (r : ρ) (N : ρ → Prop) (T : R → Prop) (B C : ρ → Prop) : wp (fSeq f g r) N T B C = wp (f r) (fun r' => wp (g r') N T B C) T B C := by
  unfold fSeq
  cases f r with
  | ok f => cases f <;> rfl
  | error e => rfl
@[simp] theorem wp_set (s : α → ρ → ρ) (f : ρ → M (α × ρ)) (r : ρ) (N : ρ → Prop) (T : R → Prop) (B C : ρ → Prop) : wp (fSet s f r) N T B C = val (f r) fun ar => N (s ar.1 ar.2) := by simp [fSet]
@[simp] theorem wp_if (c : ρ → M (Bool × ρ)) (f g : ρ → M (Fl ρ R)) (r : ρ) (N : ρ → Prop) (T : R → Prop) (B C : ρ → Prop) : wp (fIf c f g r) N T B C = val (c r) fun br => if br.1 then wp (f br.2) N T B C else wp (g br.2) N T B C := by
  simp only [fIf, wp_bind]
  congr
  funext br
  split <;> rfl
@[simp] theorem wp_ret (f : ρ → M (R × ρ)) (r : ρ) (N : ρ → Prop) (T : R → Prop) (B C : ρ → Prop) : wp (fRet f r) N T B C = val (f r) fun ar => T ar.1 := by simp [fRet]
@[simp] theorem wp_drop (f : ρ → M (α × ρ)) (r : ρ) (N : ρ → Prop) (T : R → Prop) (B C : ρ → Prop) : wp (fDrop (R := R) f r) N T B C = val (f r) fun ar => N ar.2 := by simp [fDrop]
@[simp] theorem wp_nil (r : ρ) (N : ρ → Prop) (T : R → Prop) (B C : ρ → Prop) : wp (fNil r) N T B C = N r := id rfl
@[simp] theorem wp_fbk (r : ρ) (N : ρ → Prop) (T : R → Prop) (B C : ρ → Prop) : wp (fBk r) N T B C = B r := id rfl
@[simp] theorem wp_fct (r : ρ) (N : ρ → Prop) (T : R → Prop) (B C : ρ → Prop) : wp (fCt r) N T B C = C r := id rfl
@[simp] theorem wp_mut1 (get : ρ → α) (set : α → ρ → ρ) (op : α → β → Option α) (f : ρ → M (β × ρ)) (r : ρ) (N : ρ → Prop) (T : R → Prop) (B C : ρ → Prop) : wp (fMut1 get set op f r) N T B C = val (f r) fun br => opt (op (get br.2) br.1) fun l => N (set l br.2) := by
  simp [fMut1]
@[simp] theorem wp_for (xs : ρ → M (List β)) (set : β → ρ → ρ) (body : ρ → M (Fl ρ R)) (r : ρ) (N : ρ → Prop) (T : R → Prop) (B C : ρ → Prop) : wp (fFor xs set body r) N T B C = val (xs r) fun l => wp (loop set body l r) N T B C := by
  simp [fFor]
@[simp] theorem val_runR (f : ρ → M (Fl ρ R)) (r : ρ) (Q : R → Prop) : val (runR f r) Q = wp (f r) (fun _ => False) Q (fun _ => False) (fun _ => False) := by
  unfold runR
  cases f r with
  | ok f => cases f <;> rfl
  | error e => rfl
/-- a loop, by what holds ahead of its turn n -/
theorem wp_loop {set : β → ρ → ρ} {body : ρ → M (Fl ρ R)} {N : ρ → Prop} {T : R → Prop} {B C : ρ → Prop} (P : Nat → ρ → Prop) {l : List β} {r : ρ} (h0 : P 0 r)
    (hs : ∀ n b r, l[n]? = some b → P n r → wp (body (set b r)) (P (n + 1)) T N (P (n + 1))) (hN : ∀ r, P l.length r → N r) : wp (loop set body l r) N T B C := by
  induction l generalizing P r with
  | nil => exact hN r h0
  | cons b l ih =>
    have h := hs 0 b r rfl h0
    unfold loop
    cases hb : body (set b r) with
    | error e => rw [hb] at h; exact h.elim
    | ok f =>
      rw [hb] at h
      cases f with
      | nx r' => exact ih (fun n => P (n + 1)) h (fun n b r e => hs (n + 1) b r e) hN
      | ct r' => exact ih (fun n => P (n + 1)) h (fun n b r e => hs (n + 1) b r e) hN
      | bk r' => exact h
      | rt a r' => exact h
theorem val_lc {set : β → ρ → ρ} {t : ρ → M Bool} {e : ρ → M γ} {r : ρ} {Q : List γ → Prop} {l : List β} (T : β → Bool) (E : β → γ) (ht : ∀ b ∈ l, t (set b r) = .ok (T b)) (he : ∀ b ∈ l, T b = true → e (set b r) = .ok (E b)) (q : Q ((l.filter T).map E)) : val (lcGo set t e r l) Q := by
  suffices h : lcGo set t e r l = .ok ((l.filter T).map E) by rw [h]; exact q
  clear q
  induction l with
  | nil => rfl
  | cons b l ih =>
    have h1 := ht b (List.mem_cons_self ..)
    have h2 := he b (List.mem_cons_self ..)
    have h3 := ih (fun b m => ht b (List.mem_cons_of_mem _ m)) (fun b m => he b (List.mem_cons_of_mem _ m))
    unfold lcGo
    rw [h1, h3]
    show (if T b then _ else _) = _
    cases hb : T b with
    | true => rw [List.filter_cons_of_pos hb, h2 hb]; rfl
    | false => rw [List.filter_cons_of_neg (by rw [hb]; exact Bool.false_ne_true)]; rfl
theorem val_lcA {set : β → ρ → ρ} {e : ρ → M γ} {r : ρ} {Q : List γ → Prop} {l : List β} (E : β → γ) (he : ∀ b ∈ l, val (e (set b r)) (· = E b)) (q : Q (l.map E)) : val (lcGo set (fun _ => .ok true) e r l) Q :=
  val_lc (fun _ => true) E (fun _ _ => rfl) (fun b m _ => val_eq (he b m)) (by rw [List.filter_eq_self.mpr fun _ _ => rfl]; exact q)
theorem val_lcF {set : β → ρ → ρ} {t : ρ → M Bool} {e : ρ → M γ} {r : ρ} {Q : List γ → Prop} {l : List β} (T : β → Bool) (E : β → γ) (ht : ∀ b ∈ l, val (t (set b r)) (· = T b)) (he : ∀ b ∈ l, T b = true → val (e (set b r)) (· = E b)) (q : Q ((l.filter T).map E)) : val (lcGo set t e r l) Q :=
  val_lc T E (fun b m => val_eq (ht b m)) (fun b m h => val_eq (he b m h)) q
end
@[simp] theorem opt_add (x y : Int) (Q : Int → Prop) : opt (addI x y) Q = Q (x + y) := id rfl
@[simp] theorem opt_sub (x y : Int) (Q : Int → Prop) : opt (subI x y) Q = Q (x - y) := id rfl
@[simp] theorem opt_neg (x : Int) (Q : Int → Prop) : opt (negI x) Q = Q (-x) := id rfl
@[simp] theorem opt_lt (x y : Int) (Q : Bool → Prop) : opt (ltI x y) Q = Q (decide (x < y)) := id rfl
@[simp] theorem opt_le (x y : Int) (Q : Bool → Prop) : opt (leI x y) Q = Q (decide (x ≤ y)) := id rfl
@[simp] theorem opt_gt (x y : Int) (Q : Bool → Prop) : opt (gtI x y) Q = Q (decide (y < x)) := id rfl
@[simp] theorem opt_ge (x y : Int) (Q : Bool → Prop) : opt (geI x y) Q = Q (decide (y ≤ x)) := id rfl
@[simp] theorem opt_eqS {α : Type} [DecidableEq α] (x y : α) (Q : Bool → Prop) : opt (eqS x y) Q = Q (decide (x = y)) := id rfl
@[simp] theorem opt_neS {α : Type} [DecidableEq α] (x y : α) (Q : Bool → Prop) : opt (neS x y) Q = Q (!decide (x = y)) := id rfl
@[simp] theorem opt_eqD {α : Type} [PyTy α] [DatI α] [DecidableEq α] (x y : α) (Q : Bool → Prop) : opt (eqD x y) Q = Q (decide (x = y)) := id rfl
@[simp] theorem opt_neD {α : Type} [PyTy α] [DatI α] [DecidableEq α] (x y : α) (Q : Bool → Prop) : opt (neD x y) Q = Q (!decide (x = y)) := id rfl
@[simp] theorem opt_in {α : Type} [DecidableEq α] (x : α) (l : List α) (Q : Bool → Prop) : opt (inL x l) Q = Q (decide (x ∈ l)) := id rfl
@[simp] theorem opt_nin {α : Type} [DecidableEq α] (x : α) (l : List α) (Q : Bool → Prop) : opt (ninL x l) Q = Q (!decide (x ∈ l)) := id rfl
@[simp] theorem opt_len {α : Type} (l : List α) (Q : Int → Prop) : opt (lenL l) Q = Q (l.length : Int) := id rfl
@[simp] theorem opt_lenScr (s : Scr) (Q : Int → Prop) : opt (lenScr s) Q = Q (s.l.length : Int) := id rfl
@[simp] theorem opt_abs (x : Int) (Q : Int → Prop) : opt (absI x) Q = Q (if x < 0 then -x else x) := id rfl
@[simp] theorem opt_max2 (x y : Int) (Q : Int → Prop) : opt (max2 x y) Q = Q (max x y) := id rfl
@[simp] theorem opt_min2 (x y : Int) (Q : Int → Prop) : opt (min2 x y) Q = Q (min x y) := id rfl
@[simp] theorem opt_sum (l : List Int) (Q : Int → Prop) : opt (sumL l) Q = Q l.sum := id rfl
@[simp] theorem opt_sort (l : List Int) (Q : List Int → Prop) : opt (sortI l) Q = Q (l.mergeSort fun a b => decide (a ≤ b)) := id rfl
@[simp] theorem opt_intB (b : Bool) (Q : Int → Prop) : opt (intB b) Q = Q (if b then 1 else 0) := id rfl
@[simp] theorem opt_maxC (x : Int) (l : List Int) (Q : Int → Prop) : opt (maxL (x :: l)) Q = Q (l.foldl max x) := id rfl
@[simp] theorem opt_minC (x : Int) (l : List Int) (Q : Int → Prop) : opt (minL (x :: l)) Q = Q (l.foldl min x) := id rfl
theorem opt_mul {x y : Int} {Q : Int → Prop} (h : x.natAbs < 2 ^ 64 ∨ y.natAbs < 2 ^ 64 ∨ x.natAbs.log2 + y.natAbs.log2 < 1000000) (q : Q (x * y)) : opt (mulI x y) Q := by
  unfold mulI
  rw [if_pos h]
  exact q
theorem opt_fdivE {x y : Int} {Q : Int → Prop} (h : 0 < y) (h2 : y < 1073741824) : opt (fdivI x y) Q = Q (x / y) := by
  unfold fdivI
  rw [if_pos (.inl ⟨by omega, by omega⟩), Int.fdiv_eq_ediv_of_nonneg x (by omega)]
  rfl
theorem opt_modE {x y : Int} {Q : Int → Prop} (h : 0 < y) : opt (modI x y) Q = Q (x % y) := by
  unfold modI
  rw [if_pos (by omega), Int.fmod_eq_emod_of_nonneg x (by omega)]
  rfl
theorem opt_powE {x y : Int} {Q : Int → Prop} (h : 0 ≤ y ∧ y ≤ 1000000 ∧ x.natAbs < 2 ^ 64) : opt (powI x y) Q = Q (x ^ y.toNat) := by
  unfold powI
  rw [if_pos h]
  rfl
theorem opt_appE {α : Type} {l : List α} {a : α} {Q : List α → Prop} (h : l.length < 2 ^ 24) : opt (appL l a) Q = Q (l ++ [a]) := by
  unfold appL
  rw [if_pos h]
  rfl
theorem opt_extE {α : Type} {l m : List α} {Q : List α → Prop} (h : l.length + m.length ≤ 2 ^ 24) : opt (extL l m) Q = Q (l ++ m) := by
  unfold extL
  rw [if_pos h]
  rfl
theorem opt_catE {α : Type} {l m : List α} {Q : List α → Prop} (h : l.length + m.length ≤ 2 ^ 24) : opt (catL l m) Q = Q (l ++ m) := by
  unfold catL
  rw [if_pos h]
  rfl
theorem opt_rng {a b : Int} {Q : List Int → Prop} (h : -(2 ^ 62) ≤ a ∧ a < 2 ^ 62 ∧ -(2 ^ 62) ≤ b ∧ b < 2 ^ 62 ∧ b - a ≤ 2 ^ 24) : opt (rng a b) Q = Q ((List.range (b - a).toNat).map fun (k : Nat) => a + (k : Int)) := by
  unfold rng
  rw [if_pos h]
  rfl
theorem opt_rng1 {b : Int} {Q : List Int → Prop} (h : -(2 ^ 62) ≤ b ∧ b ≤ 2 ^ 24) : opt (rng1 b) Q = Q ((List.range b.toNat).map fun (k : Nat) => (k : Int)) := by
  unfold rng1
  rw [opt_rng ⟨by decide, by decide, h.1, by omega, by omega⟩, Int.sub_zero]
  simp only [Int.zero_add]
/-- the number at a place -/
theorem opt_ixE {α : Type} {l : List α} {i : Int} {Q : α → Prop} {a : α} (h : 0 ≤ i) (h2 : l[i.toNat]? = some a) : opt (ixL l i) Q = Q a := by
  unfold ixL
  rw [if_pos h, h2]
  rfl
theorem rng_at {n : Nat} {f : Nat → Int} {i : Nat} {b : Int} (h : ((List.range n).map f)[i]? = some b) : i < n ∧ b = f i := by
  rw [List.getElem?_map] at h
  obtain ⟨x, e, rfl⟩ := Option.map_eq_some_iff.mp h
  obtain ⟨h1, h2⟩ := List.getElem?_eq_some_iff.mp e
  rw [List.getElem_range] at h2
  rw [List.length_range] at h1
  subst h2
  exact ⟨h1, rfl⟩
end VL
namespace VL
structure IsOrd (o : List (List Int)) : Prop where
  up : ∀ {j : Nat} {row : List Int}, o[j]? = some row → row.Pairwise (· < ·)
  lo : ∀ {j : Nat} {row : List Int}, o[j]? = some row → ∀ x ∈ row, 0 ≤ x ∧ x < j
  tr : ∀ {j : Nat} {row : List Int}, o[j]? = some row → ∀ x ∈ row, ∀ row', o[x.toNat]? = some row' → ∀ y ∈ row', y ∈ row
theorem IsOrd.nil : IsOrd [] := ⟨fun h => (nomatch h), fun h => (nomatch h), fun h => (nomatch h)⟩
theorem snoc_at {α : Type} {l : List α} {a b : α} {j : Nat} (h : (l ++ [a])[j]? = some b) : l[j]? = some b ∨ j = l.length ∧ b = a := by
  rw [List.getElem?_append] at h
  split at h
  · exact .inl h
  · rename_i hj
    have e : j - l.length = 0 := by
      obtain ⟨h1, _⟩ := List.getElem?_eq_some_iff.mp h
      simp at h1
      omega
    rw [e] at h
    cases h
    exact .inr ⟨by omega, rfl⟩
theorem at_lt {α : Type} {l : List α} {a : α} {j : Nat} (h : l[j]? = some a) : j < l.length := (List.getElem?_eq_some_iff.mp h).1
theorem at_some {α : Type} {l : List α} {j : Nat} (h : j < l.length) : ∃ a, l[j]? = some a := ⟨_, List.getElem?_eq_getElem h⟩
theorem at_mem {α : Type} {l : List α} {a : α} {j : Nat} (h : l[j]? = some a) : a ∈ l := List.mem_of_getElem? h
theorem snoc_lo {α : Type} {l : List α} {a : α} {j : Nat} (h : j < l.length) : (l ++ [a])[j]? = l[j]? := List.getElem?_append_left h
theorem IsOrd.snoc {o : List (List Int)} {row : List Int} (h : IsOrd o) (h1 : row.Pairwise (· < ·)) (h2 : ∀ x ∈ row, 0 ≤ x ∧ x < o.length) (h3 : ∀ x ∈ row, ∀ row', o[x.toNat]? = some row' → ∀ y ∈ row', y ∈ row) : IsOrd (o ++ [row]) := by
  refine ⟨fun e => ?_, fun e => ?_, fun e x hx row' e' y hy => ?_⟩
  · rcases snoc_at e with e | ⟨rfl, rfl⟩
    · exact h.up e
    · exact h1
  · rcases snoc_at e with e | ⟨rfl, rfl⟩
    · exact h.lo e
    · exact h2
  · rcases snoc_at e with e | ⟨rfl, rfl⟩
    · have hh := h.lo e x hx
      have := at_lt e
      rw [snoc_lo (by omega)] at e'
      exact h.tr e x hx row' e' y hy
    · have hh := h2 x hx
      rw [snoc_lo (by omega)] at e'
      exact h3 x hx row' e' y hy
/-- rising numbers from a on below b are few -/
theorem few {l : List Int} {a b : Int} (h : l.Pairwise (· < ·)) (hb : ∀ x ∈ l, a ≤ x ∧ x < b) : (l.length : Int) ≤ b - a ∨ l = [] := by
  induction l generalizing a with
  | nil => exact .inr rfl
  | cons x l ih =>
    left
    obtain ⟨h1, h2⟩ := List.pairwise_cons.mp h
    have hx := hb x (List.mem_cons_self ..)
    rcases ih (a := x + 1) h2 (fun y hy => ⟨by have := h1 y hy; omega, (hb y (List.mem_cons_of_mem _ hy)).2⟩) with h | h
    · rw [List.length_cons]; omega
    · subst h
      simp only [List.length_cons, List.length_nil]
      omega
theorem IsOrd.few {o : List (List Int)} (h : IsOrd o) {j : Nat} {row : List Int} (e : o[j]? = some row) : row.length ≤ j := by
  rcases VL.few (h.up e) (fun x hx => h.lo e x hx) with h | h
  · omega
  · subst h
    exact Nat.zero_le _
theorem IsOrd.row {o : List (List Int)} (h : IsOrd o) {j : Nat} {row : List Int} (e : o[j]? = some row) {x : Int} (hx : x ∈ row) : ∃ r, o[x.toNat]? = some r := by
  have := h.lo e x hx
  have := at_lt e
  exact at_some (by omega)
/-- the digits from a place on -/
def tn : Nat → Nat
  | 0 => 0
  | n + 1 => tn n + n
theorem tn_next (n : Nat) : tn (n + 1) = tn n + n := rfl
theorem tn_le : ∀ {n m : Nat}, n ≤ m → tn n ≤ tn m
  | n, 0, h => by rw [show n = 0 from by omega]; exact Nat.le_refl _
  | n, m + 1, h => by
    rcases Nat.lt_or_ge n (m + 1) with g | g
    · exact Nat.le_trans (tn_le (by omega)) (Nat.le_add_right _ _)
    · rw [show n = m + 1 from by omega]; exact Nat.le_refl _
theorem opt_sortSetE {l : List Int} {Q : List Int → Prop} (h : l.length < 4000) (h2 : (ssort l).length < 64) : opt (sortSetI l) Q = Q (ssort l) := by
  unfold sortSetI
  rw [if_pos ⟨h, h2⟩]
  rfl
theorem IsOrd.init {o : List (List Int)} {row : List Int} (h : IsOrd (o ++ [row])) : IsOrd o := by
  have k {j : Nat} {r : List Int} (e : o[j]? = some r) : (o ++ [row])[j]? = some r := by rw [snoc_lo (at_lt e)]; exact e
  exact ⟨fun e => h.up (k e), fun e => h.lo (k e), fun e x hx r' e' => h.tr (k e) x hx r' (k e')⟩
end VL
namespace VL
/-- one stands below the other -/
def Blw (o : List (List Int)) (x y : Int) : Prop := ∃ r, o[y.toNat]? = some r ∧ x ∈ r
theorem IsOrd.trans {o : List (List Int)} (h : IsOrd o) {x y z : Int} (a : Blw o x y) (b : Blw o y z) : Blw o x z := by
  obtain ⟨r, e, hx⟩ := a
  obtain ⟨r2, e2, hy⟩ := b
  exact ⟨r2, e2, h.tr e2 y hy r e x hx⟩
theorem sins_len_new {x : Int} : ∀ {l : List Int}, (sins x l).length = if x ∈ l ∧ True then (sins x l).length else l.length + 1
  | [] => by simp [sins]
  | y :: l => by
    by_cases h : x ∈ y :: l
    · rw [if_pos ⟨h, trivial⟩]
    · rw [if_neg fun z => h z.1]
      have h1 : x ≠ y := fun e => h (by rw [e]; exact List.mem_cons_self)
      have h2 : x ∉ l := fun m => h (List.mem_cons_of_mem _ m)
      have ih := sins_len_new (x := x) (l := l)
      rw [if_neg fun z => h2 z.1] at ih
      unfold sins
      split
      · simp
      · simp only [h1, if_false, List.length_cons, ih]
theorem sins_len_old {x : Int} : ∀ {l : List Int}, l.Pairwise (· < ·) → x ∈ l → (sins x l).length = l.length
  | y :: l, h, m => by
    obtain ⟨h1, h2⟩ := List.pairwise_cons.mp h
    unfold sins
    rcases List.mem_cons.mp m with e | m
    · rw [if_neg (by omega), if_pos e]
    · have := h1 x m
      rw [if_neg (by omega), if_neg (by omega), List.length_cons, sins_len_old h2 m, List.length_cons]
/-- a set of as many as the list has: each stands there once -/
theorem nodup_ssort : ∀ {l : List Int}, ¬ (ssort l).length < l.length ↔ l.Nodup
  | [] => by simp [ssort]
  | x :: l => by
    have ih := nodup_ssort (l := l)
    have hs := ssort_sorted l
    have hl := ssort_len l
    show ¬ (sins x (ssort l)).length < l.length + 1 ↔ _
    rw [List.nodup_cons]
    by_cases m : x ∈ l
    · rw [sins_len_old hs (ssort_mem.mpr m)]
      constructor
      · intro h; omega
      · intro h; exact absurd m h.1
    · have := sins_len_new (x := x) (l := ssort l)
      rw [if_neg fun z => m (ssort_mem.mp z.1)] at this
      rw [this, ← ih]
      constructor
      · intro h; exact ⟨m, by omega⟩
      · intro h; omega
end VL
namespace VL
section
variable {ρ α β γ R : Type}
@[simp] theorem val_pV (get : ρ → List α) (set : List α → ρ → ρ) (r : ρ) (Q : List α × (List α → ρ) → Prop) : val (pV get set r) Q = Q (get r, fun l => set l r) := id rfl
@[simp] theorem val_pIx (pl : ρ → M (List (List α) × (List (List α) → ρ))) (fi : ρ → M Int) (r : ρ) (Q : List α × (List α → ρ) → Prop) : val (pIx pl fi r) Q = val (pl r) fun lw => val (fi r) fun j => opt (ixL lw.1 j) fun l => Q (l, fun l' => lw.2 (lw.1.set (nI lw.1.length j) l')) := by simp [pIx]
@[simp] theorem wp_mutP (pl : ρ → M (List α × (List α → ρ))) (op : List α → β → Option (List α)) (f : ρ → M β) (r : ρ) (N : ρ → Prop) (T : R → Prop) (B C : ρ → Prop) : wp (fMutP (R := R) pl op f r) N T B C = val (pl r) fun lw => val (f r) fun b => opt (op lw.1 b) fun l' => N (lw.2 l') := by simp [fMutP]
@[simp] theorem wp_putP (pl : ρ → M (List α × (List α → ρ))) (fj : ρ → M Int) (f : ρ → M (α × ρ)) (r : ρ) (N : ρ → Prop) (T : R → Prop) (B C : ρ → Prop) : wp (fPutP (R := R) pl fj f r) N T B C = val (f r) fun ar => val (pl ar.2) fun lw => val (fj ar.2) fun j => opt (putL lw.1 j ar.1) fun l' => N (lw.2 l') := by simp [fPutP]
theorem opt_putE {l : List α} {i : Int} {a : α} {Q : List α → Prop} (h : 0 ≤ i) (h2 : i < l.length) : opt (putL l i a) Q = Q (l.set i.toNat a) := by
  obtain ⟨b, eb⟩ := at_some (l := l) (j := i.toNat) (by omega)
  unfold putL ixL nI
  rw [if_pos h, if_pos h, eb]
  rfl
end
end VL
namespace VL
section
variable {ρ α β γ δ R A B : Type}
def wq (m : M (Fl ρ R)) (N : ρ → Prop) (T : R → ρ → Prop) (B C : ρ → Prop) : Prop := match m with
  | .ok (.nx r) => N r
  | .ok (.rt a r) => T a r
  | .ok (.bk r) => B r
  | .ok (.ct r) => C r
  | .error _ => False
variable (N : ρ → Prop) (T : R → ρ → Prop) (B C : ρ → Prop) (T0 : R → Prop)
@[simp] theorem wq_nx (r : ρ) : wq (.ok (.nx r)) N T B C = N r := id rfl
@[simp] theorem wq_rt (a : R) (r : ρ) : wq (.ok (.rt a r)) N T B C = T a r := id rfl
@[simp] theorem wq_bk (r : ρ) : wq (.ok (.bk r)) N T B C = B r := id rfl
@[simp] theorem wq_ct (r : ρ) : wq (.ok (.ct r)) N T B C = C r := id rfl
@[simp] theorem wq_bind (m : M α) (f : α → M (Fl ρ R)) : wq (m >>= f) N T B C = val m (fun a => wq (f a) N T B C) := by cases m <;> rfl
@[simp] theorem wq_seq (f g : ρ → M (Fl ρ R)) (r : ρ) : wq (fSeq f g r) N T B C = wq (f r) (fun r' => wq (g r') N T B C) T B C := by
  unfold fSeq
  cases f r with
  | ok f => cases f <;> rfl
  | error e => rfl
@[simp] theorem wq_set (s : α → ρ → ρ) (f : ρ → M (α × ρ)) (r : ρ) : wq (fSet s f r) N T B C = val (f r) fun ar => N (s ar.1 ar.2) := by simp [fSet]
@[simp] theorem wq_if (c : ρ → M (Bool × ρ)) (f g : ρ → M (Fl ρ R)) (r : ρ) : wq (fIf c f g r) N T B C = val (c r) fun br => if br.1 then wq (f br.2) N T B C else wq (g br.2) N T B C := by
  simp only [fIf, wq_bind]
  congr
  funext br
  split <;> rfl
@[simp] theorem wq_ret (f : ρ → M (R × ρ)) (r : ρ) : wq (fRet f r) N T B C = val (f r) fun ar => T ar.1 ar.2 := by simp [fRet]
@[simp] theorem wq_drop (f : ρ → M (α × ρ)) (r : ρ) : wq (fDrop (R := R) f r) N T B C = val (f r) fun ar => N ar.2 := by simp [fDrop]
@[simp] theorem wq_nil (r : ρ) : wq (fNil r) N T B C = N r := id rfl
@[simp] theorem wq_fbk (r : ρ) : wq (fBk r) N T B C = B r := id rfl
@[simp] theorem wq_fct (r : ρ) : wq (fCt r) N T B C = C r := id rfl
@[simp] theorem wq_mut1 (get : ρ → α) (set : α → ρ → ρ) (op : α → β → Option α) (f : ρ → M (β × ρ)) (r : ρ) : wq (fMut1 get set op f r) N T B C = val (f r) fun br => opt (op (get br.2) br.1) fun l => N (set l br.2) := by
  simp [fMut1]
@[simp] theorem wq_for (xs : ρ → M (List β)) (set : β → ρ → ρ) (body : ρ → M (Fl ρ R)) (r : ρ) : wq (fFor xs set body r) N T B C = val (xs r) fun l => wq (loop set body l r) N T B C := by
  simp [fFor]
@[simp] theorem val_E1 (op : α → Option β) (f : ρ → M (α × ρ)) (r : ρ) (Q : β × ρ → Prop) : val (E1 op f r) Q = val (f r) fun ar => opt (op ar.1) fun c => Q (c, ar.2) := by simp [E1]
@[simp] theorem val_E2 (op : α → β → Option γ) (f : ρ → M (α × ρ)) (g : ρ → M (β × ρ)) (r : ρ) (Q : γ × ρ → Prop) : val (E2 op f g r) Q = val (f r) fun ar => val (g ar.2) fun br => opt (op ar.1 br.1) fun c => Q (c, br.2) := by simp [E2]
@[simp] theorem val_iNil (r : ρ) (Q : (ρ → Unit) × ρ → Prop) : val (iNil r) Q = Q (fun _ => (), r) := id rfl
@[simp] theorem val_iBy {B : Type} (g : ρ → M (α × ρ)) (f : ρ → M ((ρ → B) × ρ)) (r : ρ) (Q : (ρ → α × B) × ρ → Prop) : val (iBy g f r) Q = val (g r) fun ar => val (f ar.2) fun φr => Q (fun r' => (ar.1, φr.1 r'), φr.2) := by simp [iBy]
@[simp] theorem val_iIo {B : Type} (get : ρ → α) (f : ρ → M ((ρ → B) × ρ)) (r : ρ) (Q : (ρ → α × B) × ρ → Prop) : val (iIo get f r) Q = val (f r) fun φr => Q (fun r' => (get r', φr.1 r'), φr.2) := by simp [iIo]
@[simp] theorem val_eCallI (m : A → M (R × A)) (put : A → ρ → ρ) (f : ρ → M ((ρ → A) × ρ)) (r : ρ) (Q : R × ρ → Prop) : val (eCallI m put f r) Q = val (f r) fun φr => val (m (φr.1 φr.2)) fun cb => Q (cb.1, put cb.2 φr.2) := by simp [eCallI]
@[simp] theorem val_tAnd2 (f g : ρ → M (Bool × ρ)) (r : ρ) (Q : Bool × ρ → Prop) : val (tAnd2 f g r) Q = val (f r) fun br => if br.1 then val (g br.2) Q else Q (false, br.2) := by simp [tAnd2]
@[simp] theorem val_tOr2 (f g : ρ → M (Bool × ρ)) (r : ρ) (Q : Bool × ρ → Prop) : val (tOr2 f g r) Q = val (f r) fun br => if br.1 then Q (true, br.2) else val (g br.2) Q := by simp [tOr2]
@[simp] theorem val_tNot2 (f : ρ → M (Bool × ρ)) (r : ρ) (Q : Bool × ρ → Prop) : val (tNot2 f r) Q = val (f r) fun br => Q (!br.1, br.2) := by simp [tNot2]
@[simp] theorem val_eTpl (f : ρ → M (List α)) (r : ρ) (Q : Tp α → Prop) : val (eTpl f r) Q = val (f r) fun l => if l.length ≤ line then Q ⟨l⟩ else False := by simp [eTpl]
@[simp] theorem wp_stuck (r : ρ) : wp (fStuck (R := R) r) N T0 B C = False := id rfl
@[simp] theorem wq_stuck (r : ρ) : wq (fStuck (R := R) r) N T B C = False := id rfl
@[simp] theorem wp_unp {A : Type} (set : A → ρ → ρ) (f : ρ → M ((ρ → A) × ρ)) (r : ρ) : wp (fUnp set f r) N T0 B C = val (f r) fun φr => N (set (φr.1 φr.2) φr.2) := by simp [fUnp]
@[simp] theorem wq_unp {A : Type} (set : A → ρ → ρ) (f : ρ → M ((ρ → A) × ρ)) (r : ρ) : wq (fUnp set f r) N T B C = val (f r) fun φr => N (set (φr.1 φr.2) φr.2) := by simp [fUnp]
@[simp] theorem wp_for2 (xs : ρ → M (List β × ρ)) (set : β → ρ → ρ) (body : ρ → M (Fl ρ R)) (r : ρ) : wp (fFor2 xs set body r) N T0 B C = val (xs r) fun lr => wp (loop set body lr.1 lr.2) N T0 B C := by simp [fFor2]
@[simp] theorem wq_for2 (xs : ρ → M (List β × ρ)) (set : β → ρ → ρ) (body : ρ → M (Fl ρ R)) (r : ρ) : wq (fFor2 xs set body r) N T B C = val (xs r) fun lr => wq (loop set body lr.1 lr.2) N T B C := by simp [fFor2]
@[simp] theorem wp_ins (get : ρ → List α) (set : List α → ρ → ρ) (f : ρ → M (Int × ρ)) (g : ρ → M (α × ρ)) (r : ρ) : wp (fIns (R := R) get set f g r) N T0 B C = val (f r) fun ir => val (g ir.2) fun ar => opt (insL (get ar.2) ir.1 ar.1) fun l => N (set l ar.2) := by simp [fIns]
@[simp] theorem wq_ins (get : ρ → List α) (set : List α → ρ → ρ) (f : ρ → M (Int × ρ)) (g : ρ → M (α × ρ)) (r : ρ) : wq (fIns (R := R) get set f g r) N T B C = val (f r) fun ir => val (g ir.2) fun ar => opt (insL (get ar.2) ir.1 ar.1) fun l => N (set l ar.2) := by simp [fIns]
@[simp] theorem wp_mut0 (pl : ρ → M (List α × (List α → ρ))) (φ : List α → List α) (r : ρ) : wp (fMut0 (R := R) pl φ r) N T0 B C = val (pl r) fun lw => N (lw.2 (φ lw.1)) := by simp [fMut0]
@[simp] theorem wq_mut0 (pl : ρ → M (List α × (List α → ρ))) (φ : List α → List α) (r : ρ) : wq (fMut0 (R := R) pl φ r) N T B C = val (pl r) fun lw => N (lw.2 (φ lw.1)) := by simp [fMut0]
@[simp] theorem wq_mutP (pl : ρ → M (List α × (List α → ρ))) (op : List α → β → Option (List α)) (f : ρ → M β) (r : ρ) : wq (fMutP (R := R) pl op f r) N T B C = val (pl r) fun lw => val (f r) fun b => opt (op lw.1 b) fun l' => N (lw.2 l') := by simp [fMutP]
@[simp] theorem wq_putP (pl : ρ → M (List α × (List α → ρ))) (fj : ρ → M Int) (f : ρ → M (α × ρ)) (r : ρ) : wq (fPutP (R := R) pl fj f r) N T B C = val (f r) fun ar => val (pl ar.2) fun lw => val (fj ar.2) fun j => opt (putL lw.1 j ar.1) fun l' => N (lw.2 l') := by simp [fPutP]
@[simp] theorem wp_augP (pl : ρ → M (List Int × (List Int → ρ))) (fj : ρ → M Int) (op : Int → Int → Option Int) (f : ρ → M Int) (r : ρ) : wp (fAugP (R := R) pl fj op f r) N T0 B C = val (pl r) fun lw => val (fj r) fun j => opt (ixL lw.1 j) fun x => val (f r) fun y => opt (op x y) fun z => opt (putL lw.1 j z) fun l' => N (lw.2 l') := by simp [fAugP]
@[simp] theorem wq_augP (pl : ρ → M (List Int × (List Int → ρ))) (fj : ρ → M Int) (op : Int → Int → Option Int) (f : ρ → M Int) (r : ρ) : wq (fAugP (R := R) pl fj op f r) N T B C = val (pl r) fun lw => val (fj r) fun j => opt (ixL lw.1 j) fun x => val (f r) fun y => opt (op x y) fun z => opt (putL lw.1 j z) fun l' => N (lw.2 l') := by simp [fAugP]
@[simp] theorem wp_put2 (pl : ρ → M (List Int × (List Int → ρ))) (fi fj f g : ρ → M Int) (r : ρ) : wp (fPut2 (R := R) pl fi fj f g r) N T0 B C = val (f r) fun a => val (g r) fun b => val (pl r) fun lw => val (fi r) fun i => opt (putL lw.1 i a) fun l1 => val (pl (lw.2 l1)) fun lw2 => val (fj (lw.2 l1)) fun j => opt (putL lw2.1 j b) fun l2 => N (lw2.2 l2) := by simp [fPut2]
@[simp] theorem wq_put2 (pl : ρ → M (List Int × (List Int → ρ))) (fi fj f g : ρ → M Int) (r : ρ) : wq (fPut2 (R := R) pl fi fj f g r) N T B C = val (f r) fun a => val (g r) fun b => val (pl r) fun lw => val (fi r) fun i => opt (putL lw.1 i a) fun l1 => val (pl (lw.2 l1)) fun lw2 => val (fj (lw.2 l1)) fun j => opt (putL lw2.1 j b) fun l2 => N (lw2.2 l2) := by simp [fPut2]
@[simp] theorem val_runI {A : Type} (f : ρ → M (Fl ρ R)) (args : ρ → A) (r : ρ) (Q : R × A → Prop) : val (runI f args r) Q = wq (f r) (fun _ => False) (fun a r' => Q (a, args r')) (fun _ => False) (fun _ => False) := by
  unfold runI
  cases f r with
  | ok f => cases f <;> rfl
  | error e => rfl
@[simp] theorem val_runIU {A : Type} (f : ρ → M (Fl ρ Unit)) (args : ρ → A) (r : ρ) (Q : Unit × A → Prop) : val (runIU f args r) Q = wq (f r) (fun r' => Q ((), args r')) (fun a r' => Q (a, args r')) (fun _ => False) (fun _ => False) := by
  unfold runIU
  cases f r with
  | ok f => cases f <;> rfl
  | error e => rfl
end
@[simp] theorem opt_isBB (x y : Bool) (Q : Bool → Prop) : opt (isBB x y) Q = Q (decide (x = y)) := id rfl
@[simp] theorem opt_isnBB (x y : Bool) (Q : Bool → Prop) : opt (isnBB x y) Q = Q (!decide (x = y)) := id rfl
@[simp] theorem opt_ixTp {α : Type} (t : Tp α) (i : Int) (Q : α → Prop) : opt (ixTp t i) Q = opt (ixL t.l i) Q := id rfl
@[simp] theorem opt_sortR (l : List Int) (Q : List Int → Prop) : opt (sortR l) Q = Q (l.mergeSort fun a b => decide (b ≤ a)) := id rfl
@[simp] theorem opt_sortP (l : List (Int × Int)) (Q : List (Int × Int) → Prop) : opt (sortP l) Q = Q (l.mergeSort leP) := id rfl
section
variable {ρ R : Type} {N : ρ → Prop} {B C : ρ → Prop}
theorem wp_step {T : R → Prop} {f g : ρ → M (Fl ρ R)} {r : ρ} (P : ρ → Prop) (h : wp (f r) P T B C) (k : ∀ r', P r' → wp (g r') N T B C) : wp (fSeq f g r) N T B C := by
  rw [wp_seq]
  exact wp_mono h k (fun _ x => x) (fun _ x => x) (fun _ x => x)
end
@[simp] theorem val_runRU {ρ : Type} (f : ρ → M (Fl ρ Unit)) (r : ρ) (Q : Unit → Prop) : val (runRU f r) Q = wp (f r) (fun _ => Q ()) Q (fun _ => False) (fun _ => False) := by
  unfold runRU
  cases f r with
  | ok f => cases f <;> rfl
  | error e => rfl
section
variable {ρ α : Type}
@[simp] theorem val_ePop (get : ρ → List α) (set : List α → ρ → ρ) (f : ρ → M (Int × ρ)) (r : ρ) (Q : α × ρ → Prop) : val (ePop get set f r) Q = val (f r) fun ir => opt (popL (get ir.2) ir.1) fun al => Q (al.1, set al.2 ir.2) := by simp [ePop]
end
section
variable {ρ R α : Type} (N : ρ → Prop) (T : R → ρ → Prop) (B C : ρ → Prop) (T0 : R → Prop)
@[simp] theorem wp_dput (get : ρ → Dc α) (set : Dc α → ρ → ρ) (fk : ρ → M Int) (fv : ρ → M α) (r : ρ) : wp (fDput (R := R) get set fk fv r) N T0 B C = val (fv r) fun v => val (fk r) fun k => opt (putDo (get r) k v) fun d => N (set d r) := by simp [fDput]
@[simp] theorem wq_dput (get : ρ → Dc α) (set : Dc α → ρ → ρ) (fk : ρ → M Int) (fv : ρ → M α) (r : ρ) : wq (fDput (R := R) get set fk fv r) N T B C = val (fv r) fun v => val (fk r) fun k => opt (putDo (get r) k v) fun d => N (set d r) := by simp [fDput]
@[simp] theorem opt_inD (k : Int) (d : Dc α) (Q : Bool → Prop) : opt (inD k d) Q = Q (getDl d.l k).isSome := id rfl
@[simp] theorem opt_ninD (k : Int) (d : Dc α) (Q : Bool → Prop) : opt (ninD k d) Q = Q (!(getDl d.l k).isSome) := id rfl
@[simp] theorem opt_lenD (d : Dc α) (Q : Int → Prop) : opt (lenD d) Q = Q (d.l.length : Int) := id rfl
@[simp] theorem opt_getDo (d : Dc α) (k : Int) (Q : α → Prop) : opt (getDo d k) Q = opt (getDl d.l k) Q := id rfl
@[simp] theorem opt_and (x y : Int) (Q : Int → Prop) : opt (andI x y) Q = Q (PySem.Builtin.bitAnd x y) := id rfl
end
theorem nodup_few {l : List Int} (h : l.Nodup) {n : Nat} (hb : ∀ x ∈ l, 0 ≤ x ∧ x < (n : Int)) : l.length ≤ n := by
  have h1 := nodup_ssort.mpr h
  have h2 := ssort_len l
  rcases few (ssort_sorted l) (fun x hx => hb x (ssort_mem.mp hx)) with z | z
  · omega
  · rw [z] at h1
    simp at h1
    rw [h1]
    exact Nat.zero_le _
end VL
namespace VL
abbrev Vc := Nat → Int
def cb (a : Int) (u : Vc) (b : Int) (v : Vc) : Vc := fun j => a * u j + b * v j
inductive Sp (G : Vc → Prop) : Vc → Prop
  | zero : Sp G (fun _ => 0)
  | mem {u : Vc} : G u → Sp G u
  | comb {u v : Vc} (a b : Int) : Sp G u → Sp G v → Sp G (cb a u b v)
  | div {u : Vc} (c : Int) : c ≠ 0 → Sp G (fun j => c * u j) → Sp G u
theorem Sp.scale {G : Vc → Prop} {u : Vc} (h : Sp G u) (a : Int) : Sp G (fun j => a * u j) := by
  have := Sp.comb a 0 h h
  have e : cb a u 0 u = fun j => a * u j := by funext j; show a * u j + 0 * u j = a * u j; omega
  rwa [e] at this
theorem Sp.of_eq {G : Vc → Prop} {u v : Vc} (h : Sp G u) (e : ∀ j, u j = v j) : Sp G v := by
  have : u = v := funext e
  rwa [← this]
theorem Sp.mono {G H : Vc → Prop} {v : Vc} (h : Sp G v) (k : ∀ u, G u → Sp H u) : Sp H v := by
  induction h with
  | zero => exact .zero
  | mem g => exact k _ g
  | comb a b _ _ i1 i2 => exact .comb a b i1 i2
  | div c hc _ i => exact .div c hc i
theorem Sp.sub {G H : Vc → Prop} {v : Vc} (h : Sp G v) (k : ∀ u, G u → H u) : Sp H v := h.mono fun u g => .mem (k u g)
theorem Sp.none {G : Vc → Prop} {v : Vc} (h : Sp G v) (k : ∀ u, ¬ G u) : ∀ j, v j = 0 := by
  induction h with
  | zero => exact fun _ => rfl
  | mem g => exact absurd g (k _)
  | comb a b _ _ i1 i2 => exact fun j => by show a * _ + b * _ = 0; rw [i1 j, i2 j]; simp
  | div c hc _ i => exact fun j => (Int.mul_eq_zero.mp (i j)).resolve_left hc
def Gp (G : Vc → Prop) (l : Vc) : Vc → Prop := fun u => G u ∨ u = l
theorem Sp.dec {G : Vc → Prop} {l v : Vc} (h : Sp (Gp G l) v) : ∃ c a : Int, c ≠ 0 ∧ Sp G (cb c v a l) := by
  induction h with
  | zero => exact ⟨1, 0, by decide, Sp.zero.of_eq fun j => by simp [cb]⟩
  | mem g =>
    rcases g with g | g
    · exact ⟨1, 0, by decide, (Sp.mem g).of_eq fun j => by simp [cb]⟩
    · subst g
      exact ⟨1, -1, by decide, Sp.zero.of_eq fun j => by simp only [cb]; omega⟩
  | @comb u v a b _ _ i1 i2 =>
    obtain ⟨c1, a1, h1, s1⟩ := i1
    obtain ⟨c2, a2, h2, s2⟩ := i2
    refine ⟨c1 * c2, a * c2 * a1 + b * c1 * a2, Int.mul_ne_zero h1 h2, (Sp.comb (a * c2) (b * c1) s1 s2).of_eq fun j => ?_⟩
    simp only [cb]
    simp only [Int.mul_add, Int.add_mul, Int.mul_assoc, Int.mul_left_comm, Int.mul_comm]
    omega
  | @div u c hc _ i =>
    obtain ⟨c1, a1, h1, s1⟩ := i
    refine ⟨c1 * c, a1, Int.mul_ne_zero h1 hc, s1.of_eq fun j => ?_⟩
    simp only [cb]
    rw [Int.mul_assoc]
/-- pivot, row kept, row that it came from -/
abbrev Ent := Nat → Option (Nat × Vc × Vc)
def Gen (e : Ent) (n : Nat) : Vc → Prop := fun u => ∃ i, i < n ∧ ∃ c r, e i = some (c, u, r)
def zAt (e : Ent) (n : Nat) (v : Vc) : Prop := ∀ i, i < n → ∀ c l r, e i = some (c, l, r) → v c = 0
structure TriAt (e : Ent) (i c : Nat) (l r : Vc) : Prop where
  piv : l c ≠ 0
  zer : zAt e i l
  lr : Sp (Gp (Gen e i) r) l
  rl : Sp (Gp (Gen e i) l) r
def Tri (e : Ent) (n : Nat) : Prop := ∀ i, i < n → ∀ c l r, e i = some (c, l, r) → TriAt e i c l r
theorem Tri.less {e : Ent} {n m : Nat} (h : Tri e n) (hm : m ≤ n) : Tri e m := fun i hi => h i (Nat.lt_of_lt_of_le hi hm)
theorem zAt.less {e : Ent} {n m : Nat} {v : Vc} (h : zAt e n v) (hm : m ≤ n) : zAt e m v := fun i hi => h i (Nat.lt_of_lt_of_le hi hm)
def dotV : List Int → List Vc → Vc
  | a :: x, u :: L => fun j => a * u j + dotV x L j
  | _, _ => fun _ => 0
theorem dotV_app : ∀ {x : List Int} {L : List Vc} {a : Int} {u : Vc}, x.length = L.length → ∀ j, dotV (x ++ [a]) (L ++ [u]) j = dotV x L j + a * u j
  | [], [], a, u, _, j => by simp [dotV]
  | b :: x, v :: L, a, u, h, j => by
    have := dotV_app (x := x) (L := L) (a := a) (u := u) (by simpa using h) j
    show b * v j + dotV (x ++ [a]) (L ++ [u]) j = b * v j + dotV x L j + a * u j
    rw [this]
    omega
  | [], _ :: _, _, _, h, _ => by simp at h
  | _ :: _, [], _, _, h, _ => by simp at h
theorem dotV_sub : ∀ {x y : List Int} {L : List Vc}, x.length = L.length → y.length = L.length → ∀ j, dotV (List.zipWith (· - ·) x y) L j = dotV x L j - dotV y L j
  | [], [], [], _, _, j => by simp [dotV]
  | a :: x, b :: y, u :: L, h1, h2, j => by
    have := dotV_sub (x := x) (y := y) (L := L) (by simpa using h1) (by simpa using h2) j
    show (a - b) * u j + dotV (List.zipWith (· - ·) x y) L j = (a * u j + dotV x L j) - (b * u j + dotV y L j)
    rw [this, Int.sub_mul]
    omega
  | [], _ :: _, [], _, h, _ => by simp at h
  | _ :: _, _, [], h, _, _ => by simp at h
  | [], _, _ :: _, h, _, _ => by simp at h
  | _, [], _ :: _, _, h, _ => by simp at h
theorem dotV_sp : ∀ {x : List Int} {L : List Vc}, Sp (· ∈ L) (dotV x L)
  | [], L => by unfold dotV; exact .zero
  | _ :: _, [] => by unfold dotV; exact .zero
  | a :: x, u :: L => by
    have := Sp.comb a 1 (Sp.mem (G := (· ∈ u :: L)) (u := u) List.mem_cons_self) ((dotV_sp (x := x) (L := L)).sub fun v hv => List.mem_cons_of_mem _ hv)
    exact this.of_eq fun j => by show a * u j + 1 * dotV x L j = _; rw [Int.one_mul]; rfl
theorem dotV_bd {A B : Nat} : ∀ {x : List Int} {L : List Vc} {j : Nat}, (∀ a ∈ x, a.natAbs ≤ A) → (∀ u ∈ L, (u j).natAbs ≤ B) → (dotV x L j).natAbs ≤ x.length * (A * B)
  | [], _, _, _, _ => by simp [dotV]
  | _ :: _, [], _, _, _ => by simp [dotV]
  | a :: x, u :: L, j, h1, h2 => by
    have ih := dotV_bd (x := x) (L := L) (j := j) (fun z hz => h1 z (List.mem_cons_of_mem _ hz)) (fun z hz => h2 z (List.mem_cons_of_mem _ hz))
    have hm : (a * u j).natAbs ≤ A * B := by
      rw [Int.natAbs_mul]
      exact Nat.mul_le_mul (h1 a List.mem_cons_self) (h2 u List.mem_cons_self)
    have e : dotV (a :: x) (u :: L) j = a * u j + dotV x L j := rfl
    rw [e, List.length_cons, Nat.add_mul, Nat.one_mul]
    have := Int.natAbs_add_le (a * u j) (dotV x L j)
    omega
/-- no row is made of those ahead -/
inductive NIn : List Vc → Prop
  | nil : NIn []
  | snoc {L : List Vc} {v : Vc} : NIn L → ¬ Sp (· ∈ L) v → NIn (L ++ [v])
theorem NIn.zero {L : List Vc} (h : NIn L) {x : List Int} (hl : x.length = L.length) (z : ∀ j, dotV x L j = 0) : ∀ a ∈ x, a = 0 := by
  induction h generalizing x with
  | nil =>
    intro a ha
    rw [List.length_nil] at hl
    rw [List.eq_nil_of_length_eq_zero hl] at ha
    cases ha
  | @snoc L v _ hn ih =>
    rcases List.eq_nil_or_concat x with e | ⟨x', a, e⟩
    · subst e; simp at hl
    · subst e
      rw [List.concat_eq_append] at hl z ⊢
      have hl' : x'.length = L.length := by simpa using hl
      have ea : a = 0 := by
        by_cases ha : a = 0
        · exact ha
        · refine absurd ?_ hn
          refine .div a ha (((dotV_sp (x := x') (L := L)).scale (-1)).of_eq fun j => ?_)
          have := z j
          rw [dotV_app hl'] at this
          omega
      subst ea
      have z' : ∀ j, dotV x' L j = 0 := fun j => by
        have := z j
        rw [dotV_app hl'] at this
        simpa using this
      intro b hb
      rcases List.mem_append.mp hb with hb | hb
      · exact ih hl' z' b hb
      · rw [List.mem_singleton.mp hb]
def dg (X : Nat) : Nat → Nat → List Int
  | 0, _ => []
  | K + 1, n => ((n % 2 ^ X : Nat) : Int) :: dg X K (n / 2 ^ X)
theorem dg_len (X : Nat) : ∀ K n, (dg X K n).length = K
  | 0, _ => rfl
  | K + 1, n => by unfold dg; rw [List.length_cons, dg_len]
theorem dg_bd (X : Nat) : ∀ K n, ∀ a ∈ dg X K n, 0 ≤ a ∧ a < 2 ^ X
  | 0, _ => fun a ha => nomatch ha
  | K + 1, n => fun a ha => by
    unfold dg at ha
    rcases List.mem_cons.mp ha with e | ha
    · rw [e]
      have h := Nat.mod_lt n (Nat.two_pow_pos X)
      refine ⟨Int.natCast_nonneg _, ?_⟩
      have h2 : ((n % 2 ^ X : Nat) : Int) < ((2 ^ X : Nat) : Int) := Int.ofNat_lt.mpr h
      rw [Int.natCast_pow] at h2
      exact h2
    · exact dg_bd X K _ a ha
theorem dg_inj (X : Nat) : ∀ K n m, n < 2 ^ (X * K) → m < 2 ^ (X * K) → dg X K n = dg X K m → n = m
  | 0, n, m, h1, h2, _ => by rw [Nat.mul_zero, Nat.pow_zero] at h1 h2; omega
  | K + 1, n, m, h1, h2, h => by
    unfold dg at h
    obtain ⟨e1, e2⟩ := List.cons.inj h
    have e1 : n % 2 ^ X = m % 2 ^ X := Int.ofNat_inj.mp e1
    have up : ∀ q, q < 2 ^ (X * (K + 1)) → q / 2 ^ X < 2 ^ (X * K) := fun q hq => by
      rw [Nat.div_lt_iff_lt_mul (Nat.two_pow_pos X), ← Nat.pow_add]
      exact hq
    have e3 := dg_inj X K _ _ (up n h1) (up m h2) e2
    rw [← Nat.div_add_mod n (2 ^ X), ← Nat.div_add_mod m (2 ^ X), e1, e3]
def en (S : Nat) : List Nat → Nat
  | [] => 0
  | v :: l => v + 2 ^ S * en S l
theorem en_bd (S : Nat) : ∀ {l : List Nat}, (∀ v ∈ l, v < 2 ^ S) → en S l < 2 ^ (S * l.length)
  | [], _ => by simp [en]
  | v :: l, h => by
    have ih := en_bd S (l := l) fun x hx => h x (List.mem_cons_of_mem _ hx)
    have hv := h v List.mem_cons_self
    unfold en
    rw [List.length_cons, Nat.mul_succ, Nat.add_comm (S * _) S, Nat.pow_add]
    have : 2 ^ S * (en S l + 1) ≤ 2 ^ S * 2 ^ (S * l.length) := Nat.mul_le_mul_left _ ih
    rw [Nat.mul_add, Nat.mul_one] at this
    omega
theorem en_inj (S : Nat) : ∀ {l m : List Nat}, l.length = m.length → (∀ v ∈ l, v < 2 ^ S) → (∀ v ∈ m, v < 2 ^ S) → en S l = en S m → l = m
  | [], [], _, _, _, _ => rfl
  | [], _ :: _, h, _, _, _ => by simp at h
  | _ :: _, [], h, _, _, _ => by simp at h
  | v :: l, w :: m, h, h1, h2, e => by
    unfold en at e
    have hv := h1 v List.mem_cons_self
    have hw := h2 w List.mem_cons_self
    have m1 : (v + 2 ^ S * en S l) % 2 ^ S = v := by rw [Nat.add_mul_mod_self_left, Nat.mod_eq_of_lt hv]
    have m2 : (w + 2 ^ S * en S m) % 2 ^ S = w := by rw [Nat.add_mul_mod_self_left, Nat.mod_eq_of_lt hw]
    have d1 : (v + 2 ^ S * en S l) / 2 ^ S = en S l := by rw [Nat.add_mul_div_left _ _ (Nat.two_pow_pos S), Nat.div_eq_of_lt hv, Nat.zero_add]
    have d2 : (w + 2 ^ S * en S m) / 2 ^ S = en S m := by rw [Nat.add_mul_div_left _ _ (Nat.two_pow_pos S), Nat.div_eq_of_lt hw, Nat.zero_add]
    rw [e] at m1 d1
    rw [m2] at m1
    rw [d2] at d1
    rw [m1, en_inj S (by simpa using h) (fun x hx => h1 x (List.mem_cons_of_mem _ hx)) (fun x hx => h2 x (List.mem_cons_of_mem _ hx)) d1.symm]
theorem pigeon {N M : Nat} (h : M < N) (f : Nat → Nat) (hf : ∀ n, n < N → f n < M) : ∃ i j, i < j ∧ j < N ∧ f i = f j := by
  refine Classical.byContradiction fun hn => ?_
  have nd : ((List.range N).map fun n => ((f n : Nat) : Int)).Nodup := by
    unfold List.Nodup
    rw [List.pairwise_map]
    refine List.Pairwise.imp_of_mem ?_ List.pairwise_lt_range
    intro a b ha hb hab e
    exact hn ⟨a, b, hab, List.mem_range.mp hb, Int.ofNat_inj.mp e⟩
  have := nodup_few (n := M) nd fun x hx => by
    obtain ⟨n, hn, e⟩ := List.mem_map.mp hx
    have := hf n (List.mem_range.mp hn)
    omega
  rw [List.length_map, List.length_range] at this
  omega
theorem small_sum {R : List Vc} {C : List Nat} {b t X : Nat} (hK : R.length ≤ 2 ^ t) (hX : (X + b + t + 2) * C.length < X * R.length) (hb : ∀ u ∈ R, ∀ c ∈ C, (u c).natAbs ≤ 2 ^ b) :
    ∃ x : List Int, x.length = R.length ∧ (∃ a ∈ x, a ≠ 0) ∧ (∀ a ∈ x, a.natAbs ≤ 2 ^ X) ∧ ∀ c ∈ C, dotV x R c = 0 := by
  let K := R.length
  let S := X + b + t + 2
  let off : Int := 2 ^ (X + b + t)
  have offN : off = ((2 ^ (X + b + t) : Nat) : Int) := by rw [Int.natCast_pow]; rfl
  have bd : ∀ n, ∀ c ∈ C, (dotV (dg X K n) R c).natAbs ≤ 2 ^ (X + b + t) := fun n c hc => by
    have h := dotV_bd (A := 2 ^ X) (B := 2 ^ b) (x := dg X K n) (L := R) (j := c) (fun a ha => by
      have := dg_bd X K n a ha
      have e : ((2 : Int) ^ X) = ((2 ^ X : Nat) : Int) := by rw [Int.natCast_pow]; rfl
      rw [e] at this
      omega) (fun u hu => hb u hu c hc)
    rw [dg_len] at h
    refine Nat.le_trans h ?_
    rw [Nat.pow_add, Nat.pow_add, Nat.mul_comm]
    exact Nat.mul_le_mul_left _ hK
  let F : Nat → Nat := fun n => en S (C.map fun c => (dotV (dg X K n) R c + off).toNat)
  have small : ∀ n, ∀ v ∈ C.map (fun c => (dotV (dg X K n) R c + off).toNat), v < 2 ^ S := fun n v hv => by
    obtain ⟨c, hc, e⟩ := List.mem_map.mp hv
    have := bd n c hc
    have h2 : 2 ^ S = 4 * 2 ^ (X + b + t) := by show 2 ^ (X + b + t + 2) = _; rw [Nat.pow_succ, Nat.pow_succ]; omega
    have h3 : 0 < 2 ^ (X + b + t) := Nat.two_pow_pos _
    rw [← e, h2]
    omega
  have big : 2 ^ (S * C.length) < 2 ^ (X * K) := Nat.pow_lt_pow_right (by decide) hX
  obtain ⟨i, j, hij, hj, e⟩ := pigeon big F fun n _ => by
    have := en_bd S (small n)
    rw [List.length_map] at this
    exact this
  have el := en_inj S (by rw [List.length_map, List.length_map]) (small i) (small j) e
  refine ⟨List.zipWith (· - ·) (dg X K i) (dg X K j), by rw [List.length_zipWith, dg_len, dg_len, Nat.min_self], ?_, fun a ha => ?_, fun c hc => ?_⟩
  · refine Classical.byContradiction fun hn => ?_
    have eq : dg X K i = dg X K j := by
      apply List.ext_getElem (by rw [dg_len, dg_len])
      intro q h1 h2
      refine Classical.byContradiction fun hq => hn ⟨(dg X K i)[q] - (dg X K j)[q], ?_, by omega⟩
      have h3 : q < (List.zipWith (· - ·) (dg X K i) (dg X K j)).length := by rw [List.length_zipWith]; omega
      have := List.getElem_mem h3
      rwa [List.getElem_zipWith] at this
    have := dg_inj X K i j (by omega) hj eq
    omega
  · obtain ⟨q, hq, e⟩ := List.getElem_of_mem ha
    rw [List.getElem_zipWith] at e
    rw [List.length_zipWith] at hq
    have a1 := dg_bd X K i _ (List.getElem_mem (show q < (dg X K i).length by omega))
    have a2 := dg_bd X K j _ (List.getElem_mem (show q < (dg X K j).length by omega))
    have e2 : ((2 : Int) ^ X) = ((2 ^ X : Nat) : Int) := by rw [Int.natCast_pow]; rfl
    rw [e2] at a1 a2
    rw [← e]
    omega
  · rw [dotV_sub (dg_len X K i) (dg_len X K j)]
    have h1 := List.map_inj_left.mp el c hc
    have b1 := bd i c hc
    have b2 := bd j c hc
    omega
section
variable {ρ α β γ R : Type} (N : ρ → Prop) (T : R → ρ → Prop) (B C : ρ → Prop) (T0 : R → Prop)
@[simp] theorem val_eDget (get : ρ → Dc α) (fk : ρ → M Int) (r : ρ) (Q : α × ρ → Prop) : val (eDget get fk r) Q = val (fk r) fun k => opt (getDl (get r).l k) fun a => Q (a, r) := by simp [eDget, getDo]
@[simp] theorem val_eIxO (get : ρ → List α) (g : ρ → M (Int × ρ)) (r : ρ) (Q : α × ρ → Prop) : val (eIxO get g r) Q = val (g r) fun ir => opt (ixL (get ir.2) ir.1) fun a => Q (a, ir.2) := by simp [eIxO]
@[simp] theorem opt_isNo (o : Option α) (Q : Bool → Prop) : opt (isNo o) Q = Q o.isNone := id rfl
@[simp] theorem opt_isSo (o : Option α) (Q : Bool → Prop) : opt (isSo o) Q = Q (!o.isNone) := id rfl
@[simp] theorem opt_unO (o : Option α) (Q : α → Prop) : opt (unO o) Q = opt o Q := id rfl
@[simp] theorem opt_toO (a : α) (Q : Option α → Prop) : opt (toO a) Q = Q (some a) := id rfl
@[simp] theorem numF_id (l : List β) (n : Nat) : numF (fun _ b => b) n l = l := by
  induction l generalizing n with
  | nil => rfl
  | cons b l ih => unfold numF; rw [ih]
@[simp] theorem wq_forO (ret : Bool) (get : ρ → List β) (setl : List β → ρ → ρ) (ofI : Nat → β → γ) (set : γ → ρ → ρ) (f : ρ → M (Fl ρ R)) (r : ρ) : wq (fForO ret get setl ofI set f r) N T B C = wq (loop set f (numF ofI 0 (get r)) r) (fun r' => N (setl (get r) r')) (fun a r' => ret = true ∧ T a r') B C := by
  unfold fForO
  cases loop set f (numF ofI 0 (get r)) r with
  | error e => rfl
  | ok o => cases o with
    | nx r' => rfl
    | bk r' => rfl
    | ct r' => rfl
    | rt a r' => cases ret <;> simp [wq, bind, Except.bind]
@[simp] theorem wp_forO (ret : Bool) (get : ρ → List β) (setl : List β → ρ → ρ) (ofI : Nat → β → γ) (set : γ → ρ → ρ) (f : ρ → M (Fl ρ R)) (r : ρ) : wp (fForO ret get setl ofI set f r) N T0 B C = wp (loop set f (numF ofI 0 (get r)) r) (fun r' => N (setl (get r) r')) (fun a => ret = true ∧ T0 a) B C := by
  unfold fForO
  cases loop set f (numF ofI 0 (get r)) r with
  | error e => rfl
  | ok o => cases o with
    | nx r' => rfl
    | bk r' => rfl
    | ct r' => rfl
    | rt a r' => cases ret <;> simp [wp, bind, Except.bind]
end
def vec (l : List Int) : Vc := fun j => l.getD j 0
theorem vec_out {l : List Int} {j : Nat} (h : l.length ≤ j) : vec l j = 0 := by
  unfold vec
  rw [List.getD_eq_getElem?_getD, List.getElem?_eq_none h]
  rfl
structure ROk (e : Ent) (i m B : Nat) (r0 ρ : List Int) : Prop where
  len : ρ.length = m
  z : zAt e i (vec ρ)
  fw : Sp (Gp (Gen e i) (vec r0)) (vec ρ)
  bw : Sp (Gp (Gen e i) (vec ρ)) (vec r0)
  bd : ∀ x ∈ ρ, x.natAbs ≤ 2 ^ B
inductive Cnt : List Vc → Nat → Prop
  | nil : Cnt [] 0
  | add {L : List Vc} {n : Nat} {v : Vc} : Cnt L n → ¬ Sp (· ∈ L) v → Cnt (L ++ [v]) (n + 1)
  | skip {L : List Vc} {n : Nat} {v : Vc} : Cnt L n → Sp (· ∈ L) v → Cnt (L ++ [v]) n
theorem Cnt.inv {M : List Vc} {n : Nat} (h : Cnt M n) : (M = [] ∧ n = 0) ∨ ∃ L v, M = L ++ [v] ∧ ((∃ k, n = k + 1 ∧ Cnt L k ∧ ¬ Sp (· ∈ L) v) ∨ (Cnt L n ∧ Sp (· ∈ L) v)) := by
  cases h with
  | nil => exact .inl ⟨rfl, rfl⟩
  | add h k => exact .inr ⟨_, _, rfl, .inl ⟨_, rfl, h, k⟩⟩
  | skip h k => exact .inr ⟨_, _, rfl, .inr ⟨h, k⟩⟩
theorem Cnt.one {M : List Vc} {n k : Nat} (h : Cnt M n) (g : Cnt M k) : n = k := by
  induction h generalizing k with
  | nil =>
    rcases g.inv with ⟨_, e⟩ | ⟨L, v, e, _⟩
    · exact e.symm
    · simp at e
  | @add L n v h hn ih =>
    rcases g.inv with ⟨e, _⟩ | ⟨L', v', e, q⟩
    · simp at e
    · obtain ⟨e1, e2⟩ := List.append_inj' e rfl
      cases e2
      subst e1
      rcases q with ⟨k', ek, q, _⟩ | ⟨_, q⟩
      · rw [ek, ih q]
      · exact absurd q hn
  | @skip L n v h hs ih =>
    rcases g.inv with ⟨e, _⟩ | ⟨L', v', e, q⟩
    · simp at e
    · obtain ⟨e1, e2⟩ := List.append_inj' e rfl
      cases e2
      subst e1
      rcases q with ⟨k', ek, _, q⟩ | ⟨q, _⟩
      · exact absurd hs q
      · exact ih q
theorem NIn.inv {L : List Vc} {v : Vc} (h : NIn (L ++ [v])) : NIn L ∧ ¬ Sp (· ∈ L) v := by
  generalize e : L ++ [v] = M at h
  cases h with
  | nil => simp at e
  | snoc h k =>
    obtain ⟨e1, e2⟩ := List.append_inj' e rfl
    cases e2
    subst e1
    exact ⟨h, k⟩
/-- the first columns alone -/
def pj (m : Nat) (u : Vc) : Vc := fun j => if j < m then u j else 0
abbrev KT := Nat × List Int × List Int
def entE (ks : List KT) : Ent := fun i => (ks[i]?).map fun t => (t.1, vec t.2.1, vec t.2.2)
abbrev Ba (ks : List KT) (ls : List (List Int)) : Vc → Prop := fun u => Gen (entE ks) ks.length u ∨ u ∈ ls.map vec
structure PSt (many m b B : Nat) (rows : List (List Int)) (ks : List KT) (ls : List (List Int)) : Prop where
  tri : Tri (entE ks) ks.length
  piv : ∀ t ∈ ks, t.1 < many
  klen : ∀ t ∈ ks, t.2.1.length = m
  kb : ∀ t ∈ ks, ∀ x ∈ t.2.1, x.natAbs ≤ 2 ^ B
  ob : ∀ t ∈ ks, ∀ x ∈ t.2.2, x.natAbs ≤ 2 ^ b
  llen : ∀ l ∈ ls, l.length = m
  lz : ∀ l ∈ ls, ∀ j, j < many → vec l j = 0
  lb : ∀ l ∈ ls, ∀ x ∈ l, x.natAbs ≤ 2 ^ B
  num : ks.length + ls.length = rows.length
  cnt : Cnt (rows.map fun r => pj many (vec r)) ks.length
  up : ∀ r ∈ rows, Sp (Ba ks ls) (vec r)
  dn : ∀ u, Ba ks ls u → Sp (· ∈ rows.map vec) u
  ind : NIn (rows.map vec) → NIn (ls.map vec)
theorem PSt.nil {many m b B : Nat} : PSt many m b B [] [] [] where
  tri := fun i hi => by simp at hi
  piv := fun t h => nomatch h
  klen := fun t h => nomatch h
  kb := fun t h => nomatch h
  ob := fun t h => nomatch h
  llen := fun t h => nomatch h
  lz := fun t h => nomatch h
  lb := fun t h => nomatch h
  num := rfl
  cnt := .nil
  up := fun t h => nomatch h
  dn := fun u h => by
    rcases h with ⟨i, hi, _⟩ | h
    · simp at hi
    · cases h
  ind := fun _ => .nil
def entD (d : List (Int × List Int)) (og : Nat → List Int) : Ent := fun c => (getDl d (c : Int)).map fun l => (c, vec l, vec (og c))
theorem entD_at {d : List (Int × List Int)} {og : Nat → List Int} {i c : Nat} {l r : Vc} (h : entD d og i = some (c, l, r)) : ∃ w, getDl d (i : Int) = some w ∧ c = i ∧ l = vec w ∧ r = vec (og i) := by
  unfold entD at h
  obtain ⟨t, e1, e2⟩ := Option.map_eq_some_iff.mp h
  cases e2
  exact ⟨t, e1, rfl, rfl, rfl⟩
structure SSt (m b B : Nat) (rows : List (List Int)) (d : List (Int × List Int)) (og : Nat → List Int) : Prop where
  tri : Tri (entD d og) m
  ech : ∀ (c : Nat) l, getDl d (c : Int) = some l → ∀ j, j < c → vec l j = 0
  len : ∀ (c : Nat) l, c < m → getDl d (c : Int) = some l → l.length = m
  kb : ∀ (c : Nat) l, c < m → getDl d (c : Int) = some l → ∀ x ∈ l, x.natAbs ≤ 2 ^ B
  ob : ∀ c l, getDl d ((c : Nat) : Int) = some l → ∀ x ∈ og c, x.natAbs ≤ 2 ^ b
  few : d.length ≤ rows.length
  cnt : Cnt (rows.map vec) d.length
  up : ∀ r ∈ rows, Sp (Gen (entD d og) m) (vec r)
  dn : ∀ u, Gen (entD d og) m u → Sp (· ∈ rows.map vec) u
theorem SSt.nil {m b B : Nat} : SSt m b B [] [] (fun _ => []) where
  tri := fun i hi c l r k => by obtain ⟨w, e, _⟩ := entD_at k; cases e
  ech := fun c l h => by cases h
  len := fun c l _ h => by cases h
  kb := fun c l _ h => by cases h
  ob := fun c l h => by cases h
  few := Nat.le_refl _
  cnt := .nil
  up := fun r h => nomatch h
  dn := fun u ⟨i, _, c, r, k⟩ => by obtain ⟨w, e, _⟩ := entD_at k; cases e
section
variable {m b B : Nat} {rows : List (List Int)} {d : List (Int × List Int)} {og : Nat → List Int} {r ρ : List Int}
theorem SSt.skip (P : SSt m b B rows d og) (h : ROk (entD d og) m m B r ρ) (hz : ∀ j, j < m → vec ρ j = 0) : SSt m b B (rows ++ [r]) d og := by
  have h0 : ∀ j, vec ρ j = 0 := fun j => by
    by_cases hj : j < m
    · exact hz j hj
    · exact vec_out (by rw [h.len]; omega)
  have hr : Sp (Gen (entD d og) m) (vec r) := h.bw.mono fun u g => g.elim (fun g => .mem g) fun e => by rw [e]; exact Sp.zero.of_eq fun j => (h0 j).symm
  refine ⟨P.tri, P.ech, P.len, P.kb, P.ob, by rw [List.length_append]; exact Nat.le_trans P.few (Nat.le_add_right _ _), ?_, fun q hq => ?_, fun u hu => (P.dn u hu).sub fun v hv => by rw [List.map_append]; exact List.mem_append_left _ hv⟩
  · rw [List.map_append]
    exact .skip P.cnt (hr.mono P.dn)
  · rcases List.mem_append.mp hq with hq | hq
    · exact P.up q hq
    · rw [List.mem_singleton.mp hq]; exact hr
end
theorem coefs {L : List Vc} {v : Vc} (h : Sp (· ∈ L) v) : ∃ (c : Int) (a : List Int), c ≠ 0 ∧ a.length = L.length ∧ ∀ j, c * v j = dotV a L j := by
  have zeros : ∀ (M : List Vc) j, dotV (M.map fun _ => (0 : Int)) M j = 0 := by
    intro M j
    induction M with
    | nil => rfl
    | cons u M ih => show 0 * u j + dotV _ M j = 0; rw [ih]; simp
  induction h with
  | zero => exact ⟨1, L.map fun _ => 0, by decide, by rw [List.length_map], fun j => by rw [zeros]; rfl⟩
  | @mem u g =>
    suffices ∀ M : List Vc, u ∈ M → ∃ a : List Int, a.length = M.length ∧ ∀ j, u j = dotV a M j by
      obtain ⟨a, h1, h2⟩ := this L g
      exact ⟨1, a, by decide, h1, fun j => by rw [← h2]; simp⟩
    intro M hM
    induction M with
    | nil => cases hM
    | cons w M ih =>
      rcases List.mem_cons.mp hM with e | e
      · refine ⟨1 :: M.map fun _ => 0, by simp, fun j => ?_⟩
        show u j = 1 * w j + dotV _ M j
        rw [zeros, e]
        simp
      · obtain ⟨a, h1, h2⟩ := ih e
        refine ⟨0 :: a, by simp [h1], fun j => ?_⟩
        show u j = 0 * w j + dotV a M j
        rw [← h2]
        simp
  | @comb u v a b _ _ i1 i2 =>
    obtain ⟨c1, x, hc1, hx, ex⟩ := i1
    obtain ⟨c2, y, hc2, hy, ey⟩ := i2
    have lin : ∀ (M : List Vc) (x y : List Int) (p q : Int), x.length = M.length → y.length = M.length → ∀ j, dotV (List.zipWith (fun s t => p * s + q * t) x y) M j = p * dotV x M j + q * dotV y M j := by
      intro M
      induction M with
      | nil => intro x y p q h1 h2 j; rw [List.eq_nil_of_length_eq_zero h1, List.eq_nil_of_length_eq_zero h2]; simp [dotV]
      | cons w M ih =>
        intro x y p q h1 h2 j
        match x, y, h1, h2 with
        | s :: x, t :: y, h1, h2 =>
          show (p * s + q * t) * w j + dotV _ M j = p * (s * w j + dotV x M j) + q * (t * w j + dotV y M j)
          rw [ih x y p q (by simpa using h1) (by simpa using h2)]
          simp only [Int.add_mul, Int.mul_add, Int.mul_assoc]
          omega
    refine ⟨c1 * c2, List.zipWith (fun s t => (a * c2) * s + (b * c1) * t) x y, Int.mul_ne_zero hc1 hc2, by rw [List.length_zipWith, hx, hy, Nat.min_self], fun j => ?_⟩
    rw [lin L x y _ _ hx hy, ← ex, ← ey]
    simp only [cb]
    simp only [Int.mul_add, Int.mul_assoc, Int.mul_left_comm, Int.mul_comm]
  | @div u c hc _ i =>
    obtain ⟨c1, x, hc1, hx, ex⟩ := i
    exact ⟨c1 * c, x, Int.mul_ne_zero hc1 hc, hx, fun j => by rw [← ex, Int.mul_assoc]⟩
/-- more rows than the span has: some sum of them is nought -/
theorem relation {L M : List Vc} (h : ∀ u ∈ M, Sp (· ∈ L) u) (hl : L.length < M.length) : ∃ y : List Int, y.length = M.length ∧ (∃ a ∈ y, a ≠ 0) ∧ ∀ j, dotV y M j = 0 := by
  -- each row's own numbers
  have key : ∃ cs : List (Int × List Int), cs.length = M.length ∧ (∀ t ∈ cs, t.1 ≠ 0 ∧ t.2.length = L.length) ∧ ∀ (x : List Int), x.length = M.length → ∀ j, dotV (List.zipWith (fun x t => x * t.1) x cs) M j = dotV ((List.range L.length).map fun q => dotV x (cs.map fun t => fun q => t.2.getD q 0) q) L j := by
    clear hl
    induction M with
    | nil =>
      refine ⟨[], rfl, fun t (ht : t ∈ []) => (List.not_mem_nil ht).elim, fun x hx j => ?_⟩
      rw [List.eq_nil_of_length_eq_zero hx]
      have : ∀ (N : List Vc) (a : List Int), (∀ z ∈ a, z = 0) → dotV a N j = 0 := by
        intro N
        induction N with
        | nil => intro a _; cases a <;> rfl
        | cons w N ih =>
          intro a ha
          cases a with
          | nil => rfl
          | cons z a =>
            show z * w j + dotV a N j = 0
            rw [ha z List.mem_cons_self, ih a fun z hz => ha z (List.mem_cons_of_mem _ hz)]
            simp
      rw [this L _ fun z hz => by
        obtain ⟨q, _, e⟩ := List.mem_map.mp hz
        rw [← e]
        rfl]
      rfl
    | cons u M ih =>
      obtain ⟨cs, h1, h2, h3⟩ := ih fun u hu => h u (List.mem_cons_of_mem _ hu)
      obtain ⟨c, a, hc, ha, ea⟩ := coefs (h u List.mem_cons_self)
      refine ⟨(c, a) :: cs, by simp [h1], fun t ht => ?_, fun x hx j => ?_⟩
      · rcases List.mem_cons.mp ht with e | ht
        · rw [e]; exact ⟨hc, ha⟩
        · exact h2 t ht
      · match x, hx with
        | s :: x, hx =>
          show s * c * u j + dotV (List.zipWith _ x cs) M j = _
          rw [h3 x (by simpa using hx) j, Int.mul_assoc, ea j]
          have add : ∀ (N : List Vc) (p : List Int) (f : Nat → Int) (o : Nat), p.length = N.length → s * dotV p N j + dotV ((List.range' o N.length).map f) N j = dotV ((List.range' o N.length).map fun q => s * p.getD (q - o) 0 + f q) N j := by
            intro N
            induction N with
            | nil => intro p f o hp; rw [List.eq_nil_of_length_eq_zero hp]; simp [dotV]
            | cons w N ih2 =>
              intro p f o hp
              match p, hp with
              | z :: p, hp =>
                rw [List.length_cons, List.range'_succ, List.map_cons, List.map_cons]
                show s * (z * w j + dotV p N j) + (f o * w j + dotV _ N j) = (s * (z :: p).getD (o - o) 0 + f o) * w j + dotV _ N j
                have := ih2 p f (o + 1) (by simpa using hp)
                have e : (List.range' (o + 1) N.length).map (fun q => s * p.getD (q - (o + 1)) 0 + f q) = (List.range' (o + 1) N.length).map (fun q => s * (z :: p).getD (q - o) 0 + f q) := by
                  refine List.map_congr_left fun q hq => ?_
                  have := (List.mem_range'_1.mp hq).1
                  rw [show q - o = (q - (o + 1)) + 1 by omega]
                  rfl
                rw [e] at this
                rw [← this]
                simp only [Nat.sub_self, List.getD_cons_zero, Int.add_mul, Int.mul_add, Int.mul_assoc]
                omega
          have := add L a (fun q => dotV x (cs.map fun t => fun q => t.2.getD q 0) q) 0 ha
          rw [← List.range_eq_range'] at this
          rw [this]
          simp only [Nat.sub_zero]
          rfl
  obtain ⟨cs, h1, h2, h3⟩ := key
  let R : List Vc := cs.map fun t => fun q => t.2.getD q 0
  let C : List Nat := List.range L.length
  obtain ⟨b, hb⟩ : ∃ b : Nat, ∀ u ∈ R, ∀ c ∈ C, (u c).natAbs ≤ 2 ^ b := by
    have : ∀ (R : List Vc) (C : List Nat), ∃ b : Nat, ∀ u ∈ R, ∀ c ∈ C, (u c).natAbs ≤ b := by
      intro R C
      induction R with
      | nil => exact ⟨0, fun u hu => nomatch hu⟩
      | cons w R ih =>
        obtain ⟨b1, hb1⟩ := ih
        have : ∃ b : Nat, ∀ c ∈ C, (w c).natAbs ≤ b := by
          clear hb1
          induction C with
          | nil => exact ⟨0, fun c hc => nomatch hc⟩
          | cons c C ih2 =>
            obtain ⟨b, hb⟩ := ih2
            exact ⟨b + (w c).natAbs, fun d hd => (List.mem_cons.mp hd).elim (fun e => by rw [e]; omega) fun hd => by have := hb d hd; omega⟩
        obtain ⟨b2, hb2⟩ := this
        exact ⟨b1 + b2, fun u hu c hc => (List.mem_cons.mp hu).elim (fun e => by rw [e]; have := hb2 c hc; omega) fun hu => by have := hb1 u hu c hc; omega⟩
    obtain ⟨b, hb⟩ := this R C
    exact ⟨b, fun u hu c hc => Nat.le_trans (hb u hu c hc) (Nat.le_of_lt Nat.lt_two_pow_self)⟩
  have hRl : R.length = M.length := by show (List.map _ cs).length = _; rw [List.length_map, h1]
  have hCl : C.length = L.length := List.length_range
  obtain ⟨x, hx1, ⟨a0, ha0, hne⟩, _, hx4⟩ := small_sum (R := R) (C := C) (b := b) (t := R.length) (X := (b + R.length + 2) * C.length + 1) (Nat.le_of_lt Nat.lt_two_pow_self) (by
    have h : C.length + 1 ≤ R.length := by omega
    have e : ((b + R.length + 2) * C.length + 1 + b + R.length + 2) = ((b + R.length + 2) * C.length + 1) + (b + R.length + 2) := by omega
    rw [e, Nat.add_mul]
    have h2 : ((b + R.length + 2) * C.length + 1) * (C.length + 1) ≤ ((b + R.length + 2) * C.length + 1) * R.length := Nat.mul_le_mul_left _ h
    rw [Nat.mul_succ] at h2
    omega) hb
  refine ⟨List.zipWith (fun x t => x * t.1) x cs, by rw [List.length_zipWith, hx1, hRl, h1, Nat.min_self], ?_, fun j => ?_⟩
  · obtain ⟨i, hi, ei⟩ := List.getElem_of_mem ha0
    have hi2 : i < cs.length := by omega
    refine ⟨x[i] * (cs[i]).1, ?_, Int.mul_ne_zero (by rw [ei]; exact hne) (h2 _ (List.getElem_mem hi2)).1⟩
    have h5 : i < (List.zipWith (fun (x : Int) (t : Int × List Int) => x * t.1) x cs).length := by rw [List.length_zipWith]; omega
    have := List.getElem_mem h5
    rwa [List.getElem_zipWith] at this
  · rw [h3 x (by omega) j]
    have : ∀ (N : List Vc) (a : List Int), (∀ z ∈ a, z = 0) → dotV a N j = 0 := by
      intro N
      induction N with
      | nil => intro a _; cases a <;> rfl
      | cons w N ih =>
        intro a ha
        cases a with
        | nil => rfl
        | cons z a =>
          show z * w j + dotV a N j = 0
          rw [ha z List.mem_cons_self, ih a fun z hz => ha z (List.mem_cons_of_mem _ hz)]
          simp
    exact this L _ fun z hz => by
      obtain ⟨q, hq, e⟩ := List.mem_map.mp hz
      rw [← e]
      exact hx4 q hq
theorem NIn.few {L M : List Vc} (hn : NIn M) (h : ∀ u ∈ M, Sp (· ∈ L) u) : M.length ≤ L.length := by
  refine Classical.byContradiction fun hl => ?_
  obtain ⟨y, h1, ⟨a, ha, hne⟩, h3⟩ := relation h (by omega)
  exact hne (hn.zero h1 h3 a ha)
/-- the rows that count -/
theorem Cnt.base {L : List Vc} {n : Nat} (h : Cnt L n) : ∃ B : List Vc, B.length = n ∧ NIn B ∧ (∀ u ∈ B, u ∈ L) ∧ ∀ u ∈ L, Sp (· ∈ B) u := by
  induction h with
  | nil => exact ⟨[], rfl, .nil, fun u hu => hu, fun u hu => nomatch hu⟩
  | @add L n v _ hn ih =>
    obtain ⟨B, h1, h2, h3, h4⟩ := ih
    refine ⟨B ++ [v], by rw [List.length_append, h1]; rfl, .snoc h2 fun hs => hn (hs.sub h3), fun u hu => ?_, fun u hu => ?_⟩
    · exact List.mem_append.mpr ((List.mem_append.mp hu).imp (h3 u) id)
    · rcases List.mem_append.mp hu with hu | hu
      · exact (h4 u hu).sub fun w hw => List.mem_append_left _ hw
      · exact .mem (List.mem_append_right _ hu)
  | @skip L n v _ hs ih =>
    obtain ⟨B, h1, h2, h3, h4⟩ := ih
    refine ⟨B, h1, h2, fun u hu => List.mem_append_left _ (h3 u hu), fun u hu => ?_⟩
    rcases List.mem_append.mp hu with hu | hu
    · exact h4 u hu
    · rw [List.mem_singleton.mp hu]
      exact hs.mono h4
theorem Cnt.le {L M : List Vc} {n k : Nat} (h : Cnt L n) (g : Cnt M k) (s : ∀ u ∈ M, Sp (· ∈ L) u) : k ≤ n := by
  obtain ⟨B, h1, _, _, h4⟩ := h.base
  obtain ⟨D, g1, g2, g3, _⟩ := g.base
  rw [← h1, ← g1]
  exact g2.few fun u hu => (s u (g3 u hu)).mono h4
theorem Cnt.same {L M : List Vc} {n k : Nat} (h : Cnt L n) (g : Cnt M k) (s : ∀ u ∈ M, Sp (· ∈ L) u) (t : ∀ u ∈ L, Sp (· ∈ M) u) : k = n := Nat.le_antisymm (h.le g s) (g.le h t)
theorem Cnt.ex (L : List Vc) : ∃ n, Cnt L n := by
  suffices ∀ n, ∀ L : List Vc, L.length = n → ∃ k, Cnt L k from this _ L rfl
  intro n
  induction n with
  | zero => intro L h; rw [List.eq_nil_of_length_eq_zero h]; exact ⟨0, .nil⟩
  | succ n ih =>
    intro L h
    rcases List.eq_nil_or_concat L with e | ⟨L', v, e⟩
    · subst e; simp at h
    · rw [List.concat_eq_append] at e
      subst e
      obtain ⟨k, hk⟩ := ih L' (by simpa using h)
      by_cases hs : Sp (· ∈ L') v
      · exact ⟨k, .skip hk hs⟩
      · exact ⟨k + 1, .add hk hs⟩
theorem NIn.cnt {M : List Vc} (h : NIn M) : Cnt M M.length := by
  induction h with
  | nil => exact .nil
  | snoc _ hn ih => rw [List.length_append]; exact .add ih hn
end VL
namespace VL
open PySem PySem.Spec PyProof.Rows L2
@[simp] theorem val_eCutS {ρ : Type} (f : ρ → M Str) (g h : ρ → M (Option Int)) (r : ρ) (Q : Str → Prop) : val (eCutS f g h r) Q = val (f r) fun z => val (g r) fun a => val (h r) fun b => if z.length ≤ line then Q (cutS z a b) else False := by
  unfold eCutS
  simp only [val_bind, val_ite, val_ok, val_er]
theorem lay_list {α : Type} [PT : PyTy α] [T : DatC α] {l : List α} (h : ∀ x ∈ l, layC x = true) : layC l = true := by
  show PyData.canLayAll0 (l.map T.toD) = true
  induction l with
  | nil => rfl
  | cons a l ih =>
    show ((T.toD a).canLay0 && PyData.canLayAll0 (l.map T.toD)) = true
    rw [ih fun x hx => h x (List.mem_cons_of_mem _ hx), show (T.toD a).canLay0 = true from h a (List.mem_cons_self ..)]
    rfl
theorem lay_str {x : Str} (h : ∀ c ∈ x.cps.toList, c < 0x110000) : layC x = true := by
  show (PyData.str x).canLay0 = true
  unfold PyData.canLay0 PyData.strOk
  rw [← Array.all_toList, List.all_eq_true]
  exact fun c hc => decide_eq_true (h c hc)
@[simp] theorem val_eTl {ρ α : Type} (f : ρ → M (Tp α)) (r : ρ) (Q : List α → Prop) : val (eTl f r) Q = val (f r) fun t => Q t.l := by simp [eTl]
@[simp] theorem val_eCut2 {ρ α : Type} (f : ρ → M (List α × ρ)) (g h : ρ → M (Option Int)) (r : ρ) (Q : List α × ρ → Prop) : val (eCut2 f g h r) Q = val (f r) fun lr => val (g lr.2) fun a => val (h lr.2) fun b => Q (cutA lr.1 a b, lr.2) := by simp [eCut2]
end VL
namespace VL
open PySem PySem.Spec PyProof.Rows L2
@[simp] theorem val_eCallX {ρ A R : Type} (m : A → M R) (f : ρ → M A) (r : ρ) (Q : R → Prop) : val (eCallX m f r) Q = val (f r) fun a => val (m a) Q := by
  unfold eCallX
  rw [val_bind]
@[simp] theorem wp_raise {ρ R : Type} (c : String) (r : ρ) (N : ρ → Prop) (T : R → Prop) (B C : ρ → Prop) : wp (fRaise (R := R) c r) N T B C = False := id rfl
@[simp] theorem opt_cnt {α : Type} [DecidableEq α] (l : List α) (x : α) (Q : Int → Prop) : opt (cntOf l x) Q = Q ((l.countP fun y => decide (y = x) : Nat) : Int) := id rfl
@[simp] theorem opt_allB (l : List Bool) (Q : Bool → Prop) : opt (allB l) Q = Q (l.all id) := id rfl
@[simp] theorem opt_scI (x : Int) (Q : Sc → Prop) : opt (scI x) Q = Q (.i x) := id rfl
@[simp] theorem opt_scB (x : Bool) (Q : Sc → Prop) : opt (scB x) Q = Q (.b x) := id rfl
@[simp] theorem opt_scS (x : Str) (Q : Sc → Prop) : opt (scS x) Q = Q (.s x) := id rfl
@[simp] theorem opt_scN (x : Unit) (Q : Sc → Prop) : opt (scN x) Q = Q .non := id rfl
@[simp] theorem opt_lsY (x : List Int) (Q : List Sc → Prop) : opt (lsY x) Q = Q (x.map .i) := id rfl
@[simp] theorem opt_toI (x : Int) (Q : Int → Prop) : opt (toI (.i x)) Q = Q x := id rfl
theorem eqv_sc : ∀ x : Sc, PyData.eqv (dcSc.toD x) (dcSc.toD x) = true
  | .i n => by show (n == n) = true; exact beq_self_eq_true n
  | .b n => by show (n == n) = true; exact beq_self_eq_true n
  | .s n => by show (n == n) = true; exact beq_self_eq_true n
  | .non => rfl
end VL
namespace VL
universe u
open PySem PySem.Spec PyProof.Rows L2
structure Dq where
  l : List (Int × Int)
structure Dz where
  l : List (Int × Int)
def kq (p : Int × Int) : List Key := [Sum.inl p.1, Sum.inl p.2]
def kvq (l : List (Int × Int)) : List (List Key × V) := l.map fun p => (kq p, V.bl true)
def putP (l : List (Int × Int)) (k : Int × Int) : List (Int × Int) := if k ∈ l then l else l ++ [k]
def popP (l : List (Int × Int)) (k : Int × Int) : List (Int × Int) := l.filter fun p => decide (p ≠ k)
instance instDq : PyTy Dq where
  rep K k S H v d F := ∃ p, v = .ref p ∧ nodeAt k S H p (.dT (kvq d.l)) F [] ∧ d.l.length ≤ line
  mono := fun {K k S H S' H' v a F} ⟨p, e, n, z⟩ hs hk => ⟨p, e, n.mono hs hk, z⟩
  here := fun {K k S H v a F} ⟨p, e, n, z⟩ => n.here fun q hq => nomatch hq
  freeze := fun {K k S H S' v a F} ⟨p, e, n, z⟩ hs hk H' => ⟨p, e, ⟨n.froz hs hk, rfl⟩, z⟩
  zero := fun ⟨p, e, n, z⟩ => n.2
instance instDz : PyTy Dz where
  rep K k S H v d F := F = [] ∧ ∃ p o, v = .ref p ∧ S p = some (.frz o (.dT (kvq d.l))) ∧ d.l.length ≤ line
  mono := fun {K k S H S' H' v a F} ⟨e, p, o, ev, n, z⟩ hs hk => ⟨e, p, o, ev, hs _ _ n, z⟩
  here := fun {K k S H v a F} ⟨e, _⟩ q hq => by rw [e] at hq; cases hq
  freeze := fun {K k S H S' v a F} ⟨e, p, o, ev, n, z⟩ hs hk H' => ⟨rfl, p, o, ev, hs _ _ n, z⟩
  zero := fun h => h.1
def toZ (d : Dq) : Option Dz := some ⟨d.l⟩
/-- what has pairs as keys -/
class Dict2 (α : Type) [T : PyTy α] where
  ks : α → List (Int × Int)
  rd : ∀ {K H v a}, T.rep K 0 H H v a [] → ∃ p, v = .ref p ∧ Rd H p (.dT (kvq (ks a)))
instance : Dict2 Dq := ⟨fun d => d.l, fun ⟨p, e, n, z⟩ => ⟨p, e, .inl n.1⟩⟩
instance : Dict2 Dz := ⟨fun d => d.l, fun ⟨_, p, o, e, n, z⟩ => ⟨p, e, .inr ⟨o, n⟩⟩⟩
def inQ {α : Type} [T : PyTy α] [D : Dict2 α] (k : Int × Int) (d : α) : Option Bool := some (decide (k ∈ D.ks d))
section
variable {X : Cx} {C : Ct} {ρ R : Type} [TR : PyTy R] {sl : ρ → List Slot} {ms ms1 ms2 lm rm : List Mode} {rk : Nat} {pos pos' p1 p2 p3 p4 : Pos} {e o ik value : Expr}
/-- d[k] = True -/
def fDputQ {ρ R : Type} (get : ρ → Dq) (set : Dq → ρ → ρ) (fk : ρ → M (Int × Int)) : ρ → M (Fl ρ R) := fun r => fk r >>= fun k => up (if (get r).l.length < 2 ^ 24 then some (⟨putP (get r).l k⟩ : Dq) else none) >>= fun d => .ok (.nx (set d r))
/-- d.pop(k), it is there -/
def fDpopQ {ρ R : Type} (get : ρ → Dq) (set : Dq → ρ → ρ) (fk : ρ → M (Int × Int)) : ρ → M (Fl ρ R) := fun r => fk r >>= fun k => up (if k ∈ (get r).l then some (⟨popP (get r).l k⟩ : Dq) else none) >>= fun d => .ok (.nx (set d r))
/-- for x in d: e[x] = True -/
def fDcopy {ρ R : Type} (get : ρ → Dq) (set : Dq → ρ → ρ) (f : ρ → M Dz) : ρ → M (Fl ρ R) := fun r => f r >>= fun z => up (if (get r).l.length + z.l.length < 2 ^ 24 then some (⟨z.l.foldl putP (get r).l⟩ : Dq) else none) >>= fun d => .ok (.nx (set d r))
end
section
variable {X : Cx} {K : PySem.W.Frag} {W : Hp → String → Prop} {ρ : Type} {sl : ρ → List Slot} {ms : List Mode} {tg e : Expr} {kd : Mode}
def keysZ (d : Dz) : Option (List (Int × Int)) := some d.l
end
end VL
namespace VL
universe u
open PySem PySem.Spec PyProof.Rows L2
theorem Ext.less {S H S' H' : Hp} {F F' : List Addr} (x : Ext S H S' H' F) (h : F'.Sublist F) : Ext S H S' H' F' := ⟨x.hh, x.ss, x.sh, x.nw, fun p hp => x.fr p (h.subset hp), x.nd.sublist h⟩
end VL
namespace VL
universe u
variable {ρ R α β : Type}
variable {N : ρ → Prop} {T0 : R → Prop} {B C : ρ → Prop}
@[simp] theorem opt_inQz (k : Int × Int) (d : Dz) (Q : Bool → Prop) : opt (inQ k d) Q = Q (decide (k ∈ d.l)) := id rfl
@[simp] theorem opt_inQq (k : Int × Int) (d : Dq) (Q : Bool → Prop) : opt (inQ k d) Q = Q (decide (k ∈ d.l)) := id rfl
@[simp] theorem opt_toZ (d : Dq) (Q : Dz → Prop) : opt (toZ d) Q = Q ⟨d.l⟩ := id rfl
@[simp] theorem opt_keysZ (d : Dz) (Q : List (Int × Int) → Prop) : opt (keysZ d) Q = Q d.l := id rfl
@[simp] theorem wp_dputQ (get : ρ → Dq) (set : Dq → ρ → ρ) (fk : ρ → M (Int × Int)) (r : ρ) : wp (fDputQ (R := R) get set fk r) N T0 B C = val (fk r) fun k => if (get r).l.length < 2 ^ 24 then N (set ⟨putP (get r).l k⟩ r) else False := by
  unfold fDputQ
  simp
@[simp] theorem wp_dpopQ (get : ρ → Dq) (set : Dq → ρ → ρ) (fk : ρ → M (Int × Int)) (r : ρ) : wp (fDpopQ (R := R) get set fk r) N T0 B C = val (fk r) fun k => if k ∈ (get r).l then N (set ⟨popP (get r).l k⟩ r) else False := by
  unfold fDpopQ
  simp
@[simp] theorem wp_dcopy (get : ρ → Dq) (set : Dq → ρ → ρ) (f : ρ → M Dz) (r : ρ) : wp (fDcopy (R := R) get set f r) N T0 B C = val (f r) fun z => if (get r).l.length + z.l.length < 2 ^ 24 then N (set ⟨z.l.foldl putP (get r).l⟩ r) else False := by
  unfold fDcopy
  simp
end VL
namespace VL
universe u
open PySem PySem.Spec PyProof.Rows L2
section
variable {X : Cx} {C : Ct} {ρ R : Type} [TR : PyTy R] {sl : ρ → List Slot} {lm lm' rm rb bm : List Mode} {rk : Nat} {tg iter : Expr} {body : List Stmt} {pos : Pos} {β : Type} [TB : PyTy β]
/-- the list is whole again -/
theorem Hd.whole {sl : ρ → List Slot} {get : ρ → List β} {setl : List β → ρ → ρ} {lq : List Mode} {ix k j : Nat} {io : Option Nat} {p : Addr} {vs : List V} {T : List Assn} {σ' : L2.St} {H' : Hp} {r' : ρ} {dn rest : List β} (hlq : lq[ix]? = some (.own (k + 1) io)) (hz : vs.length ≤ line) (io0 : ioAt C.A io (.ref p)) (hsl : ∀ l r, sl (setl l r) = (sl r).set ix ⟨l⟩)
    (es : σ'[ix]? = some (some (.ref p))) (h : Hd C (WholeA C.K k p vs j dn rest :: (T ++ Env C.K C.A (lq.set ix .un) (sl r') σ')) H') : Hd C (T ++ Env C.K C.A lq (sl (setl (dn ++ rest) r')) σ') H' := by
  have h2 : Hd C (slotA C.K C.A (.own (k + 1) io) ⟨dn ++ rest⟩ (some (.ref p)) :: (T ++ Env C.K C.A (lq.set ix .un) (sl r') σ')) H' := h.imp fun S F ⟨F1, F2, e, hp', r1, r2⟩ => by
    refine ⟨.ref p, rfl, io0, p, vs, F1 ++ F2, rfl, ⟨hp', e⟩, hz, ?_⟩
    have := r1.append r2
    rw [List.take_append_drop] at this
    exact this
  have h3 := Hd.close (m0 := .un) (i := ix) h2 (List.getElem?_eq_some_iff.mp es).1
  rw [show σ'.set ix (some (.ref p)) = σ' from by
    obtain ⟨a, b⟩ := List.getElem?_eq_some_iff.mp es
    rw [← b]
    exact List.set_getElem_self a, List.set_set, show lq.set ix (.own (k + 1) io) = lq from by
    obtain ⟨a, b⟩ := List.getElem?_eq_some_iff.mp hlq
    rw [← b]
    exact List.set_getElem_self a, ← hsl] at h3
  exact h3
end
end VL
namespace VL
universe u
open PySem PySem.Spec PyProof.Rows L2
end VL
namespace VL
universe u
open PySem PySem.Spec PyProof.Rows L2
inductive Hl
  | whole (l : List (List Int))
  | hull (n : Nat)
abbrev LL := List (List Int)
def Hl.repr (K : PySem.W.Frag) (k : Nat) (S H : Hp) (v : V) (h : Hl) (F : List Addr) : Prop := match h with
  | .whole l => PyTy.rep K k S H v l F
  | .hull n => ∃ p xs, v = .ref p ∧ nodeAt k S H p (.lst xs) F [] ∧ xs.length ≤ line ∧ xs.length = n
instance : PyTy Hl where
  rep := Hl.repr
  mono := fun {K k S H S' H' v a F} h hs hk => by
    cases a with
    | whole l => exact PyTy.mono (α := LL) h hs hk
    | hull n => obtain ⟨p, xs, e, n1, z, l⟩ := h; exact ⟨p, xs, e, n1.mono hs hk, z, l⟩
  here := fun {K k S H v a F} h => by
    cases a with
    | whole l => exact PyTy.here (α := LL) h
    | hull n => obtain ⟨p, xs, e, n1, z, l⟩ := h; exact n1.here (fun q hq => nomatch hq)
  freeze := fun {K k S H S' v a F} h hs hk H' => by
    cases a with
    | whole l => exact PyTy.freeze (α := LL) h hs hk H'
    | hull n => obtain ⟨p, xs, e, n1, z, l⟩ := h; exact ⟨p, xs, e, ⟨n1.froz hs hk, rfl⟩, z, l⟩
  zero := fun {K S H v a F} h => by
    cases a with
    | whole l => exact PyTy.zero (α := LL) h
    | hull n => obtain ⟨p, xs, e, n1, z, l⟩ := h; rw [n1.2]
def unH : Hl → Option LL
  | .whole l => some l
  | .hull _ => none
def toHH (t : LL × LL) : Option (Tp Hl) := some ⟨[.whole t.1, .whole t.2]⟩
def atH (i : Int) (t : Tp Hl) : Option LL := (ixL t.l i).bind unH
def lenTp {α : Type} (t : Tp α) : Option Int := some (t.l.length : Int)
/-- x.append(e) on a hull -/
@[irreducible] def appH (h : Hl) : Option Hl := match h with
  | .hull n => if n < 2 ^ 24 then some (.hull (n + 1)) else none
  | .whole _ => none
def fAppH {ρ R β : Type} (get : ρ → Hl) (set : Hl → ρ → ρ) (f : ρ → M (β × ρ)) : ρ → M (Fl ρ R) := fun r => f r >>= fun br => up (appH (get br.2)) >>= fun h => .ok (.nx (set h br.2))
end VL
namespace VL
universe u
open PySem PySem.Spec PyProof.Rows L2
inductive Lt (α : Type) where
  | l (x : List α)
  | s (x : Str)
  deriving DecidableEq
instance instLt {α : Type} [T : PyTy α] : PyTy (Lt α) where
  rep K k S H v o F := match o with
    | .l x => (instList (T := T)).rep K k S H v x F
    | .s x => instPyStr.rep K k S H v x F
  mono {K k S H S' H' v o F} h hs hk := by
    cases o with
    | l x => exact (instList (T := T)).mono h hs hk
    | s x => exact instPyStr.mono h hs hk
  here {K k S H v o F} h := by
    cases o with
    | l x => exact (instList (T := T)).here h
    | s x => exact instPyStr.here h
  freeze {K k S H S' v o F} h hs hk H' := by
    cases o with
    | l x => exact (instList (T := T)).freeze h hs hk H'
    | s x => exact instPyStr.freeze h hs hk H'
  zero {K S H v o F} h := by
    cases o with
    | l x => exact (instList (T := T)).zero h
    | s x => exact instPyStr.zero h
def lsA {α : Type} (x : List α) : Option (Lt α) := some (.l x)
def stA {α : Type} (x : Str) : Option (Lt α) := some (.s x)
def unA {α : Type} : Lt α → Option (List α)
  | .l x => some x
  | .s _ => none
def isLA {α : Type} : Lt α → Option Bool
  | .l _ => some true
  | .s _ => some false
def Lt.ty {α : Type} : Lt α → String
  | .l _ => "list"
  | .s _ => "str"
instance dcLt {α : Type} [PT : PyTy α] [T : DatC α] : DatC (Lt α) where
  toD
    | .l x => .list (x.map T.toD)
    | .s x => .str x
  n := T.n + 1
  dp {K H v a} h := by
    cases a with
    | l x => exact (dcList (α := α)).dp h
    | s x =>
      rw [show v = .str x from h.1]
      exact Dp.str _
  dep a := by
    cases a with
    | l x => exact (dcList (α := α)).dep x
    | s x => exact Nat.zero_le _
instance dsLt {α : Type} [PT : PyTy α] [T : DatS α] : DatS (Lt α) := { dcLt with
  same := fun a b => by
    cases a with
    | l x =>
      cases b with
      | l y => exact (scAll x y).trans ⟨fun h => by rw [h], fun h => by cases h; rfl⟩
      | s y => exact ⟨(fun h => nomatch h), (fun h => nomatch h)⟩
    | s x =>
      cases b with
      | l y => exact ⟨(fun h => nomatch h), (fun h => nomatch h)⟩
      | s y =>
        show (x == y) = true ↔ Lt.s x = Lt.s y
        exact beq_iff_eq.trans ⟨fun h => by rw [h], fun h => by cases h; rfl⟩ }
end VL
namespace VL
universe u
open PySem PySem.Spec PyProof.Rows L2
def eChn {ρ : Type} (p q : Int → Int → Bool) (f g h : ρ → M Int) : ρ → M Bool := fun r => f r >>= fun a => g r >>= fun b => if p a b then h r >>= fun c => .ok (q b c) else .ok false
end VL
namespace VL
universe u
open PySem PySem.Spec PyProof.Rows L2
end VL
namespace VL
universe u
open PySem PySem.Spec PyProof.Rows L2
end VL
namespace VL
universe u
open PySem PySem.Spec PyProof.Rows L2
instance instDatITp {α : Type} [PT : PyTy α] [T : DatI α] : DatI (Tp α) where
  toD l := .tuple (l.l.map T.toD)
  n := T.n + 1
  dp := fun ⟨p, xs, F', e, n, z, r⟩ => by
    rw [e]
    have e2 : F' = [] := n.2.symm
    subst e2
    exact Dp.tup (.inl (.inl n.1)) (dpAll r)
  can l := canAll l.l
  dep l := Nat.succ_le_succ (depAll l.l)
  same l m := (sameAll l.l m.l).trans ⟨fun h => by cases l; cases m; exact congrArg _ h, fun h => by rw [h]⟩
instance {α : Type} [DecidableEq α] : DecidableEq (Tp α) := fun a b => decidable_of_iff (a.l = b.l) ⟨fun h => by cases a; cases b; exact congrArg _ h, fun h => by rw [h]⟩
end VL
namespace VL
universe u
open PySem PySem.Spec PyProof.Rows L2
section
variable {X : Cx} {C : Ct} {ρ R : Type} [TR : PyTy R] {sl : ρ → List Slot} {ms ms1 ms2 lm rm : List Mode} {rk : Nat} {α β : Type} [TA : PyTy α] [TB : PyTy β] {pos p2 : Pos} {e a b : Expr}
def lastL {α : Type} (l : List α) : Option (α × List α) := l.getLast?.map fun a => (a, l.dropLast)
def ePopP {ρ α : Type} (pl : ρ → M (List α × (List α → ρ))) : ρ → M (α × ρ) := fun r => pl r >>= fun lw => up (lastL lw.1) >>= fun al => .ok (al.1, lw.2 al.2)
def fInsP {ρ R α : Type} (pl : ρ → M (List α × (List α → ρ))) (f : ρ → M Int) (g : ρ → M α) : ρ → M (Fl ρ R) := fun r => pl r >>= fun lw => f r >>= fun i => g r >>= fun a => up (insL lw.1 i a) >>= fun l => .ok (.nx (lw.2 l))
end
end VL
namespace VL
variable {ρ R α β : Type}
@[simp] theorem opt_toHH (t : LL × LL) (Q : Tp Hl → Prop) : opt (toHH t) Q = Q ⟨[.whole t.1, .whole t.2]⟩ := id rfl
@[simp] theorem opt_lenTp {t : Tp α} (Q : Int → Prop) : opt (lenTp t) Q = Q t.l.length := id rfl
@[simp] theorem opt_atH0 (a b : LL) (Q : LL → Prop) : opt (atH 0 ⟨[.whole a, .whole b]⟩) Q = Q a := id rfl
@[simp] theorem opt_atH1 (a b : LL) (Q : LL → Prop) : opt (atH 1 ⟨[.whole a, .whole b]⟩) Q = Q b := id rfl
@[simp] theorem wp_appH (get : ρ → Hl) (set : Hl → ρ → ρ) (f : ρ → M (β × ρ)) (r : ρ) (N : ρ → Prop) (T : R → Prop) (B C : ρ → Prop) : wp (fAppH (R := R) get set f r) N T B C = val (f r) fun br => opt (appH (get br.2)) fun h => N (set h br.2) := by simp [fAppH]
end VL
namespace VL
variable {ρ R α β : Type}
@[simp] theorem opt_lsA (x : List α) (Q : Lt α → Prop) : opt (lsA x) Q = Q (.l x) := id rfl
@[simp] theorem opt_stA (x : PySem.Str) (Q : Lt α → Prop) : opt (stA x) Q = Q (.s x) := id rfl
@[simp] theorem opt_unA_l (x : List α) (Q : List α → Prop) : opt (unA (.l x)) Q = Q x := id rfl
@[simp] theorem opt_isLA_l (x : List α) (Q : Bool → Prop) : opt (isLA (.l x)) Q = Q true := id rfl
@[simp] theorem opt_isLA_s (x : PySem.Str) (Q : Bool → Prop) : opt (isLA (.s x : Lt α)) Q = Q false := id rfl
@[simp] theorem val_chn (p q : Int → Int → Bool) (f g h : ρ → M Int) (r : ρ) (Q : Bool → Prop) : val (eChn p q f g h r) Q = val (f r) fun a => val (g r) fun b => if p a b then val (h r) fun c => Q (q b c) else Q false := by
  unfold eChn
  rw [val_bind]
  congr 1; funext a
  rw [val_bind]
  congr 1; funext b
  by_cases z : p a b = true
  · rw [if_pos z, if_pos z, val_bind]; rfl
  · rw [if_neg z, if_neg z]; rfl
@[simp] theorem val_popP (pl : ρ → M (List α × (List α → ρ))) (r : ρ) (Q : α × ρ → Prop) : val (ePopP pl r) Q = val (pl r) fun lw => opt (lastL lw.1) fun al => Q (al.1, lw.2 al.2) := by
  unfold ePopP
  rw [val_bind]
  congr 1; funext lw
  rw [val_bind, val_up]
  rfl
@[simp] theorem wq_insP {R : Type} (pl : ρ → M (List α × (List α → ρ))) (f : ρ → M Int) (g : ρ → M α) (r : ρ) (N : ρ → Prop) (T : R → ρ → Prop) (B C : ρ → Prop) : wq (fInsP (R := R) pl f g r) N T B C = val (pl r) fun lw => val (f r) fun i => val (g r) fun a => opt (insL lw.1 i a) fun l => N (lw.2 l) := by simp [fInsP]
@[simp] theorem wp_insP {R : Type} (pl : ρ → M (List α × (List α → ρ))) (f : ρ → M Int) (g : ρ → M α) (r : ρ) (N : ρ → Prop) (T : R → Prop) (B C : ρ → Prop) : wp (fInsP (R := R) pl f g r) N T B C = val (pl r) fun lw => val (f r) fun i => val (g r) fun a => opt (insL lw.1 i a) fun l => N (lw.2 l) := by simp [fInsP]
end VL
namespace VL
universe u
open PySem PySem.Spec PyProof.Rows L2
theorem Reps.ins {α : Type} {r : V → α → List Addr → Prop} {v : V} {a : α} {Fa : List Addr} (h0 : r v a Fa) : ∀ {n : Nat} {vs : List V} {l : List α} {F : List Addr}, Reps r vs l F → ∃ F', F'.Perm (F ++ Fa) ∧ Reps r (vs.take n ++ [v] ++ vs.drop n) (l.take n ++ [a] ++ l.drop n) F'
  | 0, vs, l, F, h => ⟨Fa ++ F, List.perm_append_comm, ⟨Fa, F, rfl, h0, h⟩⟩
  | n + 1, [], [], F, h => by
    have e : F = [] := h
    subst e
    exact ⟨Fa ++ [], by rw [List.append_nil]; exact .refl _, ⟨Fa, [], rfl, h0, rfl⟩⟩
  | _ + 1, [], _ :: _, _, h => h.elim
  | _ + 1, _ :: _, [], _, h => h.elim
  | n + 1, w :: vs, b :: l, F, ⟨F1, F2, e, h1, h2⟩ => by
    obtain ⟨F', p, h'⟩ := Reps.ins h0 (n := n) h2
    subst e
    exact ⟨F1 ++ F', by rw [List.append_assoc]; exact List.Perm.append_left F1 p, ⟨F1, F', rfl, h1, h'⟩⟩
section
variable {X : Cx} {C : Ct} {ρ R : Type} [TR : PyTy R] {sl : ρ → List Slot} {ms ms1 ms2 lm rm : List Mode} {rk : Nat} {α β : Type} [TA : PyTy α] [TB : PyTy β] {pos : Pos} {e a b : Expr}
/-- `x[j].append(a + b)` -/
def fAppE (get : ρ → List (List α)) (set : List (List α) → ρ → ρ) (fj : ρ → M Int) (bin : β → β → Option α) (f : ρ → M β) (g : ρ → M (β × ρ)) : ρ → M (Fl ρ R) := fun r => fj r >>= fun j => up (ixL (get r) j) >>= fun l => f r >>= fun a => g r >>= fun br => up (bin a br.1) >>= fun c => up (appL l c) >>= fun l' => .ok (.nx (set ((get r).set (nI (get r).length j) l') br.2))
end
instance {α : Type} [T : PyTy α] {k : Nat} [C : Closed α k] : Closed (Option α) k := ⟨fun {K S S' H v a F} h => by
  cases a with
  | none => exact h
  | some a => exact C.closed (K := K) (S := S) h⟩
instance {α : Type} [T : PyTy α] [Fn : Func α] : Func (Lt α) := ⟨fun {K S H H' v a b F F'} h g => by
  cases a with
  | l x => cases b with
    | l y => exact congrArg Lt.l ((inferInstance : Func (List α)).one (show (instList (T := T)).rep K 0 S H v x F from h) (show (instList (T := T)).rep K 0 S H' v y F' from g))
    | s y =>
      obtain ⟨p, xs, F1, e, _⟩ := h
      have : v = .str y := g.1
      rw [e] at this
      cases this
  | s x => cases b with
    | l y =>
      obtain ⟨p, xs, F1, e, _⟩ := g
      have : v = .str x := h.1
      rw [e] at this
      cases this
    | s y =>
      have h1 : v = .str x := h.1
      have h2 : v = .str y := g.1
      rw [h1] at h2
      cases h2
      rfl⟩
section
variable {ρ R α β : Type} (N : ρ → Prop) (T : R → ρ → Prop) (B C : ρ → Prop)
@[simp] theorem wq_mutIx (get : ρ → List (List α)) (set : List (List α) → ρ → ρ) (fi : ρ → M (Int × ρ)) (op : List α → β → Option (List α)) (f : ρ → M β) (r : ρ) : wq (fMutIx (R := R) get set fi op f r) N T B C = val (fi r) fun ir => opt (ixL (get ir.2) ir.1) fun l => val (f ir.2) fun b => opt (op l b) fun l' => N (set ((get ir.2).set (nI (get ir.2).length ir.1) l') ir.2) := by simp [fMutIx]
@[simp] theorem wq_appE (get : ρ → List (List α)) (set : List (List α) → ρ → ρ) (fj : ρ → M Int) (bin : β → β → Option α) (f : ρ → M β) (g : ρ → M (β × ρ)) (r : ρ) : wq (fAppE (R := R) get set fj bin f g r) N T B C = val (fj r) fun j => opt (ixL (get r) j) fun l => val (f r) fun a => val (g r) fun br => opt (bin a br.1) fun c => opt (appL l c) fun l' => N (set ((get r).set (nI (get r).length j) l') br.2) := by simp [fAppE]
end
end VL
namespace VL
universe u
open PySem PySem.Spec PyProof.Rows L2
end VL
namespace VL
universe u
open PySem PySem.Spec PyProof.Rows L2
structure Ds (α : Type) where
  l : List (Str × α)
def kS {α : Type} (l : List (Str × α)) : List Key := l.map fun x => (Sum.inr x.1 : Key)
def keysS {α : Type} (l : List (Str × α)) : List Str := l.map (·.1)
instance instDs {α : Type} [T : PyTy α] : PyTy (Ds α) where
  rep K k S H v d F := ∃ (p : Addr) (kvs : List (Key × V)) (F' : List Addr), v = .ref p ∧ nodeAt k S H p (.dK kvs) F F' ∧ kvs.length ≤ line ∧ (List.map (fun x : Key × V => x.1) kvs = kS d.l ∧ (keysS d.l).Nodup) ∧ Reps (fun v a F => T.rep K (k - 1) S H v a F) (List.map (fun x : Key × V => x.2) kvs) (List.map (fun x : Str × α => x.2) d.l) F'
  mono := fun {K k S H S' H' v a F} ⟨p, kvs, F', e, n, z, c, r⟩ hs hk => ⟨p, kvs, F', e, n.mono hs hk, z, c, r.imp fun v a G hg q => T.mono q hs fun p hp => hk p (n.sub p (hg p hp))⟩
  here := fun {K k S H v a F} ⟨p, kvs, F', e, n, z, c, r⟩ => n.here (r.here fun v a G q => T.here q)
  freeze := fun {K k S H S' v a F} ⟨p, kvs, F', e, n, z, c, r⟩ hs hk H' => ⟨p, kvs, [], e, ⟨n.froz hs hk, rfl⟩, z, c, r.nil fun v a G hg q => T.freeze q hs (fun p hp => hk p (n.sub p (hg p hp))) H'⟩
  zero := fun ⟨p, kvs, F', e, n, z, c, r⟩ => by rw [n.2]; exact r.none fun v a F q => T.zero q
theorem zip_one {α β : Type} : ∀ {l m : List (α × β)}, l.map (·.1) = m.map (·.1) → l.map (·.2) = m.map (·.2) → l = m
  | [], [], _, _ => rfl
  | [], _ :: _, h, _ => nomatch h
  | _ :: _, [], h, _ => nomatch h
  | (a, b) :: l, (c, d) :: m, h, g => by
    rw [List.map_cons, List.map_cons] at h g
    have h1 : a = c := (List.cons.inj h).1
    have g1 : b = d := (List.cons.inj g).1
    rw [zip_one (List.cons.inj h).2 (List.cons.inj g).2, h1, g1]
theorem kS_inj {α : Type} : ∀ {l m : List (Str × α)}, kS l = kS m → l.map (·.1) = m.map (·.1)
  | [], [], _ => rfl
  | [], _ :: _, h => nomatch h
  | _ :: _, [], h => nomatch h
  | x :: l, y :: m, h => by
    have h : (Sum.inr x.1 : Key) :: kS l = Sum.inr y.1 :: kS m := h
    rw [List.map_cons, List.map_cons, kS_inj (List.cons.inj h).2, Sum.inr.inj (List.cons.inj h).1]
instance {α : Type} [T : PyTy α] [Fn : Func α] : Func (Ds α) := ⟨fun {K S H H' v a b F F'} ⟨p, kvs, G, e, n, z, c, r⟩ ⟨p2, kvs2, G2, e2, n2, z2, c2, r2⟩ => by
  rw [e] at e2
  cases e2
  have := n.1.symm.trans n2.1
  cases this
  have h1 := kS_inj (c.1.symm.trans c2.1)
  have h2 := reps_one r r2
  cases a
  cases b
  exact congrArg Ds.mk (zip_one h1 h2)⟩
instance {α : Type} [T : PyTy α] {k : Nat} [C : Closed α k] : Closed (Ds α) (k + 1) := ⟨fun ⟨p, kvs, F', e, n, z, c, r⟩ => ⟨p, kvs, F', e, n, z, c, r.imp fun v a F' hf q => C.closed q⟩⟩
/-- what stands at a key -/
def getSl {α : Type} (l : List (Str × α)) (k : Str) : Option α := (l.find? fun x => decide (x.1 = k)).map (·.2)
/-- the thing at a key that is there is another one -/
def setSl {α : Type} (l : List (Str × α)) (k : Str) (a : α) : List (Str × α) := match l with
  | [] => []
  | x :: l => if x.1 = k then (k, a) :: l else x :: setSl l k a
def putSl {α : Type} (l : List (Str × α)) (k : Str) (a : α) : List (Str × α) := if k ∈ keysS l then setSl l k a else l ++ [(k, a)]
def inS {α : Type} (k : Str) (d : Ds α) : Option Bool := some (getSl d.l k).isSome
def ninS {α : Type} (k : Str) (d : Ds α) : Option Bool := some (!(getSl d.l k).isSome)
@[irreducible] def putSo {α : Type} (d : Ds α) (k : Str) (v : α) : Option (Ds α) := if d.l.length < 2 ^ 24 then some ⟨putSl d.l k v⟩ else none
def getSo {α : Type} (d : Ds α) (k : Str) : Option α := getSl d.l k
section
variable {X : Cx} {C : Ct} {ρ R : Type} [TR : PyTy R] {sl : ρ → List Slot} {ms ms1 ms2 lm rm : List Mode} {rk : Nat} {α : Type} [TA : PyTy α] {pos pos' : Pos} {o ik value : Expr}
def fDputS {ρ R α : Type} (get : ρ → Ds α) (set : Ds α → ρ → ρ) (fk : ρ → M Str) (fv : ρ → M (α × ρ)) : ρ → M (Fl ρ R) := fun r => fv r >>= fun vr => fk vr.2 >>= fun k => up (putSo (get vr.2) k vr.1) >>= fun d => .ok (.nx (set d vr.2))
/-- the list at a key of an own dict -/
def pDk (get : ρ → Ds (List α)) (set : Ds (List α) → ρ → ρ) (fk : ρ → M Str) : ρ → M (List α × (List α → ρ)) := fun r => fk r >>= fun key => up (getSl (get r).l key) >>= fun l => .ok (l, fun l' => set ⟨setSl (get r).l key l'⟩ r)
end
end VL
namespace VL
universe u
open PySem PySem.Spec PyProof.Rows L2
section
variable {X : Cx} {K : PySem.W.Frag}
def ltS (a b : Str) : Option Bool := some (decide (a.cps.toList < b.cps.toList))
def gtS (a b : Str) : Option Bool := some (decide (b.cps.toList < a.cps.toList))
end
end VL
namespace VL
universe u
open PySem PySem.Spec PyProof.Rows L2
section
variable {X : Cx} {C : Ct} {ρ R : Type} [TR : PyTy R] {sl : ρ → List Slot} {ms ms1 lm rm : List Mode} {rk : Nat} {α β : Type} [TA : PyTy α] [TB : PyTy β] {pos : Pos} {e : Expr}
/-- the first part, a list -/
def pFst (get : ρ → List α × β) (set : List α × β → ρ → ρ) : ρ → M (List α × (List α → ρ)) := fun r => .ok ((get r).1, fun l => set (l, (get r).2) r)
end
def lsYS (l : List Str) : Option (List Sc) := some (l.map .s)
end VL
namespace VL
universe u
open PySem PySem.Spec PyProof.Rows L2
def txtOf (e : Int × Value) : Str := match e.2 with | .str k _ => k | _ => Str.empty
abbrev sK (P : Program) (w : World) := PySem.strKind P w
def IsTxt (P : Program) (w : World) (e : Int × Value) : Prop := ∃ k u, e.2 = Value.str k u ∧ e.1 = (sK P w).hash k
/-- the texts of a set at a -/
def SetS (P : Program) (w : World) (h : Heap) (a : Addr) (S : Str → Bool) (n : Nat) : Prop :=
  ∃ ob ys yp tb, h.get? a = some ob ∧ ob.ExactSet ∧ ob.data = .set ys yp tb ∧ (∀ e ∈ ys.toList, IsTxt P w e) ∧ (ys.toList.map txtOf).Nodup ∧ (∀ k, S k = true ↔ k ∈ ys.toList.map txtOf) ∧
    ys.size < scanBound ∧ tb.fits ys.size = true ∧ ys.size = n ∧ Ris tb.place.toList ∧ (w.params.followText "set-order" = true ∨ tb.led = true)
section
variable {P : Program} {w : World} {h h' : Heap} {a : Addr} {S : Str → Bool} {n : Nat}
theorem SetS.at (R : SetS P w h a S n) (k : ∀ o, h.get? a = some o → h'.get? a = some o) : SetS P w h' a S n := by
  obtain ⟨ob, ys, yp, tb, g, r⟩ := R
  exact ⟨ob, ys, yp, tb, k ob g, r⟩
end
end VL
namespace VL
universe u
open PySem PySem.Spec PyProof.Rows L2
end VL
namespace VL
universe u
open PySem PySem.Spec PyProof.Rows L2
end VL
namespace VL
universe u
open PySem PySem.Spec PyProof.Rows L2
instance dcTp {α : Type} [PT : PyTy α] [T : DatC α] : DatC (Tp α) where
  toD l := .tuple (l.l.map T.toD)
  n := T.n + 1
  dp := fun ⟨p, xs, F', e, n, z, r⟩ => by
    rw [e]
    have e2 : F' = [] := n.2.symm
    subst e2
    exact Dp.tup (.inl (.inl n.1)) (dcAll r)
  dep l := Nat.succ_le_succ (decAll l.l)
end VL
namespace VL
open PySem
section
variable {ρ R α β : Type} (N : ρ → Prop) (T : R → ρ → Prop) (B C : ρ → Prop) (T0 : R → Prop)
@[simp] theorem wp_dputS (get : ρ → Ds α) (set : Ds α → ρ → ρ) (fk : ρ → M Str) (fv : ρ → M (α × ρ)) (r : ρ) : wp (fDputS (R := R) get set fk fv r) N T0 B C = val (fv r) fun vr => val (fk vr.2) fun k => opt (putSo (get vr.2) k vr.1) fun d => N (set d vr.2) := by simp [fDputS]
@[simp] theorem wq_dputS (get : ρ → Ds α) (set : Ds α → ρ → ρ) (fk : ρ → M Str) (fv : ρ → M (α × ρ)) (r : ρ) : wq (fDputS (R := R) get set fk fv r) N T B C = val (fv r) fun vr => val (fk vr.2) fun k => opt (putSo (get vr.2) k vr.1) fun d => N (set d vr.2) := by simp [fDputS]
@[simp] theorem val_pDk (get : ρ → Ds (List α)) (set : Ds (List α) → ρ → ρ) (fk : ρ → M Str) (r : ρ) (Q : List α × (List α → ρ) → Prop) : val (pDk get set fk r) Q = val (fk r) fun key => opt (getSl (get r).l key) fun l => Q (l, fun l' => set ⟨setSl (get r).l key l'⟩ r) := by simp [pDk]
@[simp] theorem val_pFst (get : ρ → List α × β) (set : List α × β → ρ → ρ) (r : ρ) (Q : List α × (List α → ρ) → Prop) : val (pFst get set r) Q = Q ((get r).1, fun l => set (l, (get r).2) r) := id rfl
@[simp] theorem opt_inS (k : Str) (d : Ds α) (Q : Bool → Prop) : opt (inS k d) Q = Q (getSl d.l k).isSome := id rfl
@[simp] theorem opt_ninS (k : Str) (d : Ds α) (Q : Bool → Prop) : opt (ninS k d) Q = Q (!(getSl d.l k).isSome) := id rfl
@[simp] theorem opt_getSo (d : Ds α) (k : Str) (Q : α → Prop) : opt (getSo d k) Q = opt (getSl d.l k) Q := id rfl
@[simp] theorem opt_ltS (a b : Str) (Q : Bool → Prop) : opt (ltS a b) Q = Q (decide (a.cps.toList < b.cps.toList)) := id rfl
@[simp] theorem opt_gtS (a b : Str) (Q : Bool → Prop) : opt (gtS a b) Q = Q (decide (b.cps.toList < a.cps.toList)) := id rfl
@[simp] theorem opt_lsYS (l : List Str) (Q : List Sc → Prop) : opt (lsYS l) Q = Q (l.map .s) := id rfl
end
end VL
namespace VL
universe u
open PySem PySem.Spec PyProof.Rows L2
structure Dk where
  names : List Str
  order : List (List Int)
deriving Inhabited
/-- the class that the law's file calls Desk -/
def DeskC (K : PySem.W.Frag) (C : Addr) : Prop := PySem.W.nsIn K mainGlobals "Desk" = some (some (.ref C))
instance instDk : PyTy Dk where
  rep K k S H v d F := ∃ (p C dx : Addr) (x y : V), v = .ref p ∧ nodeAt k S H p (.ins C dx [(("names" : Str), x), (("order" : Str), y)]) F [] ∧ DeskC K C ∧ PyTy.rep (α := List Str) K 0 S H x d.names [] ∧ PyTy.rep (α := List (List Int)) K 0 S H y d.order []
  mono := fun {K k S H S' H' v a F} ⟨p, C, dx, x, y, e, n, c, r1, r2⟩ hs hk => ⟨p, C, dx, x, y, e, n.mono hs hk, c, PyTy.mono r1 hs (fun p hp => nomatch hp), PyTy.mono r2 hs fun p hp => nomatch hp⟩
  here := fun {K k S H v a F} ⟨p, C, dx, x, y, e, n, c, r1, r2⟩ => n.here fun q hq => nomatch hq
  freeze := fun {K k S H S' v a F} ⟨p, C, dx, x, y, e, n, c, r1, r2⟩ hs hk H' => ⟨p, C, dx, x, y, e, ⟨n.froz hs hk, rfl⟩, c, PyTy.mono (PyTy.froz r1 H') hs (fun p hp => nomatch hp), PyTy.mono (PyTy.froz r2 H') hs fun p hp => nomatch hp⟩
  zero := fun ⟨p, C, dx, x, y, e, n, c, r1, r2⟩ => n.2
theorem DeskC.one {K : PySem.W.Frag} {C D : Addr} (h : DeskC K C) (g : DeskC K D) : C = D := by
  have := h.symm.trans g
  simpa using this
end VL
namespace VL
universe u
open PySem PySem.Spec PyProof.Rows L2
end VL
namespace VL
universe u
open PySem PySem.Spec PyProof.Rows L2
end VL
namespace VL
universe u
open PySem PySem.Spec PyProof.Rows L2
inductive Up (α : Type) where
  | sc (x : Sc)
  | l (xs : List α)
  | t (xs : List α)
  deriving DecidableEq
instance instUp {α : Type} [T : PyTy α] : PyTy (Up α) where
  rep K k S H v o F := match o with
    | .sc x => instPySc.rep K k S H v x F
    | .l x => (instList (T := T)).rep K k S H v x F
    | .t x => (instTp (T := T)).rep K k S H v ⟨x⟩ F
  mono {K k S H S' H' v o F} h hs hk := by
    cases o with
    | sc x => exact instPySc.mono h hs hk
    | l x => exact (instList (T := T)).mono h hs hk
    | t x => exact (instTp (T := T)).mono (a := ⟨x⟩) h hs hk
  here {K k S H v o F} h := by
    cases o with
    | sc x => exact instPySc.here h
    | l x => exact (instList (T := T)).here h
    | t x => exact (instTp (T := T)).here (a := ⟨x⟩) h
  freeze {K k S H S' v o F} h hs hk H' := by
    cases o with
    | sc x => exact instPySc.freeze h hs hk H'
    | l x => exact (instList (T := T)).freeze h hs hk H'
    | t x => exact (instTp (T := T)).freeze (a := ⟨x⟩) h hs hk H'
  zero {K S H v o F} h := by
    cases o with
    | sc x => exact instPySc.zero h
    | l x => exact (instList (T := T)).zero h
    | t x => exact (instTp (T := T)).zero (a := ⟨x⟩) h
class Cv (β α : Type) [TB : PyTy β] [TA : PyTy α] where
  f : β → α
  re : ∀ {K k S H v b F}, TB.rep K k S H v b F → TA.rep K k S H v (f b) F
instance cvSelf {α : Type} [PyTy α] : Cv α α := ⟨id, fun h => h⟩
instance : Cv Int Sc := ⟨.i, fun h => h⟩
instance : Cv Bool Sc := ⟨.b, fun h => h⟩
instance : Cv Str Sc := ⟨.s, fun h => h⟩
instance : Cv Unit Sc := ⟨fun _ => .non, fun h => h⟩
instance cvI {α : Type} [PyTy α] : Cv Int (Up α) := ⟨fun n => .sc (.i n), fun h => h⟩
instance cvB {α : Type} [PyTy α] : Cv Bool (Up α) := ⟨fun n => .sc (.b n), fun h => h⟩
instance cvS {α : Type} [PyTy α] : Cv Str (Up α) := ⟨fun n => .sc (.s n), fun h => h⟩
instance cvU {α : Type} [PyTy α] : Cv Unit (Up α) := ⟨fun _ => .sc .non, fun h => h⟩
theorem reps_cv {α β : Type} [TB : PyTy β] [TA : PyTy α] [C : Cv β α] {K : PySem.W.Frag} {k : Nat} {S H : Hp} : ∀ {vs : List V} {l : List β} {F : List Addr}, Reps (fun v a F => TB.rep K k S H v a F) vs l F → Reps (fun v a F => TA.rep K k S H v a F) vs (l.map C.f) F
  | [], [], _, h => h
  | [], _ :: _, _, h => h.elim
  | _ :: _, [], _, h => h.elim
  | _ :: _, _ :: _, _, ⟨F1, F2, e, h1, h2⟩ => ⟨F1, F2, e, C.re h1, reps_cv h2⟩
instance cvL {α β : Type} [TB : PyTy β] [TA : PyTy α] [C : Cv β α] : Cv (List β) (List α) := ⟨fun l => l.map C.f, fun ⟨p, xs, F', e, n, z, r⟩ => ⟨p, xs, F', e, n, z, reps_cv r⟩⟩
instance cvUL {α β : Type} [TB : PyTy β] [TA : PyTy α] [C : Cv β α] : Cv (List β) (Up α) := ⟨fun l => .l (l.map C.f), fun ⟨p, xs, F', e, n, z, r⟩ => ⟨p, xs, F', e, n, z, reps_cv r⟩⟩
instance cvUT {α β : Type} [TB : PyTy β] [TA : PyTy α] [C : Cv β α] : Cv (Tp β) (Up α) := ⟨fun l => .t (l.l.map C.f), fun ⟨p, xs, F', e, n, z, r⟩ => ⟨p, xs, F', e, n, z, reps_cv r⟩⟩
def cvO {β α : Type} [PyTy β] [PyTy α] [C : Cv β α] (b : β) : Option α := some (C.f b)
theorem re_cv {β α : Type} [TB : PyTy β] [TA : PyTy α] [C : Cv β α] {K : PySem.W.Frag} {k : Nat} {S H : Hp} {v : V} {a : β} {b : α} {F : List Addr} (e : cvO a = some b) (h : TB.rep K k S H v a F) : TA.rep K k S H v b F := by
  cases e
  exact C.re h
def unUI {α : Type} : Up α → Option Int
  | .sc (.i n) => some n
  | _ => none
def unUL {α : Type} : Up α → Option (List α)
  | .l x => some x
  | _ => none
def allUI {α : Type} : List (Up α) → Option (List Int)
  | [] => some []
  | a :: l => match unUI a with
    | some n => (allUI l).map (n :: ·)
    | none => none
def unULI {α : Type} : Up (Up α) → Option (List Int)
  | .l x => allUI x
  | _ => none
section
variable {α : Type} [T : PyTy α] {K : PySem.W.Frag} {k : Nat} {S H : Hp} {v : V} {F : List Addr}
theorem re_unUI {a : Up α} {b : Int} (e : unUI a = some b) (h : (instUp (T := T)).rep K k S H v a F) : instPyInt.rep K k S H v b F := by
  cases a with
  | l x => cases e
  | t x => cases e
  | sc x =>
    cases x with
    | i n => cases e; exact h
    | b n => cases e
    | s n => cases e
    | non => cases e
theorem re_unUL {a : Up α} {b : List α} (e : unUL a = some b) (h : (instUp (T := T)).rep K k S H v a F) : (instList (T := T)).rep K k S H v b F := by
  cases a with
  | sc x => cases e
  | t x => cases e
  | l x => cases e; exact h
theorem reps_allU : ∀ {vs : List V} {l : List (Up α)} {m : List Int} {F : List Addr}, allUI l = some m → Reps (fun v a F => (instUp (T := T)).rep K k S H v a F) vs l F → Reps (fun v a F => instPyInt.rep K k S H v a F) vs m F
  | [], [], _, _, e, h => by cases e; exact h
  | [], _ :: _, _, _, _, h => h.elim
  | _ :: _, [], _, _, _, h => h.elim
  | v :: vs, x :: l, m, F, e, ⟨F1, F2, eF, h1, h2⟩ => by
    unfold allUI at e
    cases ex : unUI x with
    | none =>
      rw [ex] at e
      cases e
    | some n =>
      rw [ex] at e
      obtain ⟨m', e', em⟩ := Option.map_eq_some_iff.mp (show (allUI l).map (n :: ·) = some m from e)
      subst em
      exact ⟨F1, F2, eF, re_unUI ex h1, reps_allU e' h2⟩
theorem re_allUI {a : List (Up α)} {b : List Int} (e : allUI a = some b) (h : (instList (T := instUp (T := T))).rep K k S H v a F) : (instList (α := Int)).rep K k S H v b F := by
  obtain ⟨p, xs, F', e1, n, z, r⟩ := h
  exact ⟨p, xs, F', e1, n, z, reps_allU e r⟩
theorem re_unULI {a : Up (Up α)} {b : List Int} (e : unULI a = some b) (h : (instUp (T := instUp (T := T))).rep K k S H v a F) : (instList (α := Int)).rep K k S H v b F := by
  cases a with
  | sc x => cases e
  | t x => cases e
  | l x => exact re_allUI e h
end
def Up.ty {α : Type} : Up α → String
  | .sc x => x.ty
  | .l _ => "list"
  | .t _ => "tuple"
theorem ty_up {α : Type} [T : PyTy α] {K : PySem.W.Frag} {H : Hp} {v : V} {a : Up α} (h : (instUp (T := T)).rep K 0 H H v a []) : TyX K H v (.type a.ty) := by
  cases a with
  | sc x => exact ty_sc h
  | l x =>
    obtain ⟨p, xs, F', e, n, z, r⟩ := h
    rw [e]
    exact .base (.lst n.1)
  | t x =>
    obtain ⟨p, xs, F', e, n, z, r⟩ := h
    rw [e]
    exact .base (.tup n.1)
def isIntU {α : Type} : Up α → Option Bool
  | .sc x => isIntY x
  | _ => some false
def isBoolU {α : Type} : Up α → Option Bool
  | .sc x => isBoolY x
  | _ => some false
def isListU {α : Type} : Up α → Option Bool
  | .l _ => some true
  | _ => some false
def isListY : Sc → Option Bool := fun _ => some false
theorem kit_listY : ∀ (y : Sc) b, isListY y = some b → kitB y.ty "list" = some b := fun y b e => by
  cases y <;> (cases e; simp only [Sc.ty]; decide +kernel)
theorem kit_intU {α : Type} : ∀ (y : Up α) b, isIntU y = some b → kitB y.ty "int" = some b := fun y b e => by
  cases y with
  | sc x => exact kit_intY x b e
  | l x => cases e; simp only [Up.ty]; decide +kernel
  | t x => cases e; simp only [Up.ty]; decide +kernel
theorem kit_boolU {α : Type} : ∀ (y : Up α) b, isBoolU y = some b → kitB y.ty "bool" = some b := fun y b e => by
  cases y with
  | sc x => exact kit_boolY x b e
  | l x => cases e; simp only [Up.ty]; decide +kernel
  | t x => cases e; simp only [Up.ty]; decide +kernel
theorem kit_listU {α : Type} : ∀ (y : Up α) b, isListU y = some b → kitB y.ty "list" = some b := fun y b e => by
  cases y with
  | sc x => cases e; cases x <;> (simp only [Up.ty, Sc.ty]; decide +kernel)
  | l x => cases e; simp only [Up.ty]; decide +kernel
  | t x => cases e; simp only [Up.ty]; decide +kernel
section
variable {X : Cx} {K : PySem.W.Frag} {W : Hp → String → Prop} {ρ : Type} {sl : ρ → List Slot} {ms : List Mode} {a e : Expr} {pos p : Pos} {kd : Mode} {α : Type} [T : PyTy α]
theorem pv_isiU {u : String} {op : Up α → Option Bool} {x : Str} {p3 : Pos} {f : ρ → M (Up α)} (hb : ∀ y b, op y = some b → kitB y.ty u = some b) (hg : Gl X "isinstance") (hm : X.mg "isinstance" = none) (hgx : Gl X x) (hmx : X.mg x = none) (hv : bootBuiltins x = some (.type u)) (ha : PE X a (tP X.K W sl ms f kd)) (hk : kd ≠ .un := by decide) (hn : x ≠ "__name__" := by decide) (hdb : (x == ("__debug__" : Str)) = false := by decide)
    (he : starEach [a, .Name x p3] X.env = (false, eval a X.env) :: starEach [.Name x p3] X.env := by rfl) (he2 : starEach [.Name x p3] X.env = (false, eval (.Name x p3) X.env) :: starEach [] X.env := by rfl) (hpl : (backTo pos (starEach [.Name x p3] X.env)).any (·.1) = false := by rfl) :
    PE X (.Call (.Name "isinstance" p) [a, .Name x p3] [] pos) (tP X.K W sl ms (e1 op f) (lv 0)) :=
  PE.conv (pe_callB call_isi hg hm boot_isinstance (pa_cons ha (pa_cons (pe_bltn (v := .ty u) hgx hmx hv rfl hn hdb) pa_nil he2) he) (by decide) (by decide) he hpl) fun σ H Q ⟨r, S, hs, hv, q⟩ => ⟨r, S, hs, hv, ends_mono (ends_bind q) (fun y ey q v S1 H1 F x g => by
    obtain ⟨b, eb, q⟩ := up_ends q
    exact ⟨v, .ty u, .type y.ty, .type u, b, rfl, .ty u, ty_up (g.look x.sh hk), kit_ty (hb y b eb), q _ _ H1 [] (x.share g.here) (Scal.scal.mpr ⟨rfl, rfl⟩)⟩) fun c q => q⟩
/-- tuple(list) -/
theorem pv_tupleL {f : ρ → M (List α)} (hg : Gl X "tuple") (hm : X.mg "tuple" = none) (ha : PE X a (tP X.K W sl ms f (lv 0))) (na : starEach [a] X.env = (false, eval a X.env) :: starEach [] X.env := by rfl) :
    PE X (.Call (.Name "tuple" p) [a] [] pos) (tP X.K W sl ms (e1 (fun l => some (Tp.mk l)) f) (lv 1)) :=
  PE.conv (pe_tupleOf hg hm ha na) fun σ H Q ⟨r, S, hs, hv, q⟩ => ⟨r, S, hs, hv, ends_mono (ends_bind q) (fun l el q v S1 H1 F x g => by
    have q : ∀ v S' H' F, Ext S H S' H' F → got X.K (lv 1) (Tp.mk l) S' H' v F → Q v H' := q
    obtain ⟨p, xs, F', e, n, z, rr⟩ : (instList (T := T)).rep X.K 0 S1 H1 v l F := g
    have e2 : F = F' := n.2
    have e3 : F' = [] := rr.none fun v a F q => T.zero q
    subst e2
    subst e3
    refine .inl ⟨p, xs, e, .inl (.inl (x.sh _ _ n.1)), fun t ht => ?_⟩
    refine q (.ref t) S1 _ [t] ⟨x.hh.trans (Sub.new ht), x.ss, x.sh.trans (Sub.new ht), x.nw, fun q hq => ?_, List.nodup_cons.mpr ⟨by simp, List.nodup_nil⟩⟩ ⟨t, xs, [], rfl, ⟨upd_same, rfl⟩, z, rr.imp fun v a F' hf q => ?_⟩
    · rw [List.mem_singleton.mp hq]
      exact ⟨x.hh.back ht, x.sh.back ht⟩
    · have eF : F' = [] := T.zero q
      subst eF
      exact T.mono q (Sub.refl S1) fun p hp => nomatch hp) fun c q => q⟩
end
instance dcUp {α : Type} [PT : PyTy α] [T : DatC α] : DatC (Up α) where
  toD
    | .sc x => dcSc.toD x
    | .l x => .list (x.map T.toD)
    | .t x => .tuple (x.map T.toD)
  n := T.n + 1
  dp {K H v a} h := by
    cases a with
    | sc x => exact dcSc.dp h
    | l x => exact (dcList (α := α)).dp h
    | t x => exact (dcTp (α := α)).dp (a := ⟨x⟩) h
  dep a := by
    cases a with
    | sc x => exact Nat.le_trans (dcSc.dep x) (Nat.zero_le _)
    | l x => exact (dcList (α := α)).dep x
    | t x => exact (dcTp (α := α)).dep ⟨x⟩
end VL
namespace K01
open PySem PySem.Spec PyProof.Rows L2 VL
structure E_is_whole where
  v_thing : Up Sc
abbrev gs_is_whole : List (Get E_is_whole) := [⟨E_is_whole.v_thing⟩]
def b_is_whole : E_is_whole → M (Fl E_is_whole Bool) :=
 (fRet (lift (eAnd (e1 isIntU (eV (fun r : E_is_whole => r.v_thing))) (e1 (fun b => some !b) (e1 isBoolU (eV (fun r : E_is_whole => r.v_thing)))))))
def m_is_whole : (Up Sc) × Unit → M Bool := fun a => runR b_is_whole ⟨a.1⟩
structure E_is_place where
  v_rows : List (Up (Up Sc))
  v_j : Int
  v_row : Up (Up Sc)
  v_last : Int
  v_low : Up Sc
  v_lower : Up Sc
abbrev gs_is_place : List (Get E_is_place) := [⟨E_is_place.v_rows⟩, ⟨E_is_place.v_j⟩, ⟨E_is_place.v_row⟩, ⟨E_is_place.v_last⟩, ⟨E_is_place.v_low⟩, ⟨E_is_place.v_lower⟩]
def b_is_place : E_is_place → M (Fl E_is_place Bool) :=
 (fSeq (fSet (fun a r => { r with v_row := a }) (lift (e2 ixL (eV (fun r : E_is_place => r.v_rows)) (eV (fun r : E_is_place => r.v_j)))))
 (fSeq (fIf (lift (e1 (fun b => some !b) (e1 isListU (eV (fun r : E_is_place => r.v_row)))))
 (fRet (lift (e0 false)))
 fNil)
 (fSeq (fSet (fun a r => { r with v_last := a }) (lift (e1 negI (e0 (1 : Int)))))
 (fSeq (fFor (e1 unUL (eV (fun r : E_is_place => r.v_row))) (fun b r => { r with v_low := b })
 (fSeq (fIf (lift (eOr (e1 (fun b => some !b) (eCall m_is_whole (aCons (eV (fun r : E_is_place => r.v_low)) aNil))) (eOr (e2 leI (e1 unUI (eV (fun r : E_is_place => r.v_low))) (eV (fun r : E_is_place => r.v_last))) (e2 geI (e1 unUI (eV (fun r : E_is_place => r.v_low))) (eV (fun r : E_is_place => r.v_j))))))
 (fRet (lift (e0 false)))
 fNil)
 (fSet (fun a r => { r with v_last := a }) (E1 unUI (lift (eV (fun r : E_is_place => r.v_low)))))))
 (fSeq (fFor (e1 unUL (eV (fun r : E_is_place => r.v_row))) (fun b r => { r with v_low := b })
 (fFor (e1 unUL (e2 ixL (eV (fun r : E_is_place => r.v_rows)) (e1 unUI (eV (fun r : E_is_place => r.v_low))))) (fun b r => { r with v_lower := b })
 (fIf (lift (e2 ninL (e1 unUI (eV (fun r : E_is_place => r.v_lower))) (e1 unULI (eV (fun r : E_is_place => r.v_row)))))
 (fRet (lift (e0 false)))
 fNil)))
 (fRet (lift (e0 true))))))))
def m_is_place : (List (Up (Up Sc))) × Int × Unit → M Bool := fun a => runR b_is_place ⟨a.1, a.2.1, (.sc .non), 0, (.sc .non), (.sc .non)⟩
structure E_is_order where
  v_thing : Up (Up (Up Sc))
  v_j : Int
abbrev gs_is_order : List (Get E_is_order) := [⟨E_is_order.v_thing⟩, ⟨E_is_order.v_j⟩]
def b_is_order : E_is_order → M (Fl E_is_order Bool) :=
 (fSeq (fIf (lift (eOr (e1 (fun b => some !b) (e1 isListU (eV (fun r : E_is_order => r.v_thing)))) (e2 gtI (e1 lenL (e1 unUL (eV (fun r : E_is_order => r.v_thing)))) (e0 (14 : Int)))))
 (fRet (lift (e0 false)))
 fNil)
 (fSeq (fFor (e1 rng1 (e1 lenL (e1 unUL (eV (fun r : E_is_order => r.v_thing))))) (fun b r => { r with v_j := b })
 (fIf (lift (e1 (fun b => some !b) (eCall m_is_place (aCons (e1 unUL (eV (fun r : E_is_order => r.v_thing))) (aCons (eV (fun r : E_is_order => r.v_j)) aNil)))))
 (fRet (lift (e0 false)))
 fNil))
 (fRet (lift (e0 true)))))
def m_is_order : (Up (Up (Up Sc))) × Unit → M Bool := fun a => runR b_is_order ⟨a.1, 0⟩
structure E_l_cell where
  v_script : Scr
  v_k : Int
abbrev gs_l_cell : List (Get E_l_cell) := [⟨E_l_cell.v_script⟩, ⟨E_l_cell.v_k⟩]
def b_l_cell : E_l_cell → M (Fl E_l_cell Int) :=
 (fSeq (fIf (lift (e2 ltI (eV (fun r : E_l_cell => r.v_k)) (e1 lenScr (eV (fun r : E_l_cell => r.v_script)))))
 (fRet (lift (e2 (fun s i => ixL s.l i) (eV (fun r : E_l_cell => r.v_script)) (eV (fun r : E_l_cell => r.v_k)))))
 fNil)
 (fRet (lift (e0 (0 : Int)))))
def m_l_cell : Scr × Int × Unit → M Int := fun a => runR b_l_cell ⟨a.1, a.2.1⟩
structure E_l_digits where
  v_cell_here : Int
  v_base : Int
  v_many : Int
  v_row_here : List Int
  v_k : Int
abbrev gs_l_digits : List (Get E_l_digits) := [⟨E_l_digits.v_cell_here⟩, ⟨E_l_digits.v_base⟩, ⟨E_l_digits.v_many⟩, ⟨E_l_digits.v_row_here⟩, ⟨E_l_digits.v_k⟩]
def b_l_digits : E_l_digits → M (Fl E_l_digits (List Int)) :=
 (fSeq (fSet (fun a r => { r with v_row_here := a }) (lift (e0 ([] : List Int))))
 (fSeq (fFor (e1 rng1 (eV (fun r : E_l_digits => r.v_many))) (fun b r => { r with v_k := b })
 (fSeq (fMut1 (fun r : E_l_digits => r.v_row_here) (fun a r => { r with v_row_here := a }) appL (lift (e2 modI (eV (fun r : E_l_digits => r.v_cell_here)) (eV (fun r : E_l_digits => r.v_base)))))
 (fSet (fun a r => { r with v_cell_here := a }) (lift (e2 fdivI (eV (fun r : E_l_digits => r.v_cell_here)) (eV (fun r : E_l_digits => r.v_base)))))))
 (fRet (fun r : E_l_digits => .ok (r.v_row_here, r)))))
def m_l_digits : Int × Int × Int × Unit → M (List Int) := fun a => runR b_l_digits ⟨a.1, a.2.1, a.2.2.1, [], 0⟩
structure E_l_mixed where
  v_cell_here : Int
  v_base : Int
  v_many : Int
  v_row_here : List Int
  v_k : Int
  v_one : Int
  v_two : Int
abbrev gs_l_mixed : List (Get E_l_mixed) := [⟨E_l_mixed.v_cell_here⟩, ⟨E_l_mixed.v_base⟩, ⟨E_l_mixed.v_many⟩, ⟨E_l_mixed.v_row_here⟩, ⟨E_l_mixed.v_k⟩, ⟨E_l_mixed.v_one⟩, ⟨E_l_mixed.v_two⟩]
def b_l_mixed : E_l_mixed → M (Fl E_l_mixed (List Int)) :=
 (fSeq (fSet (fun a r => { r with v_row_here := a }) (lift (e0 ([] : List Int))))
 (fSeq (fFor (e1 rng1 (eV (fun r : E_l_mixed => r.v_many))) (fun b r => { r with v_k := b })
 (fSeq (fSet (fun a r => { r with v_one := a }) (lift (e2 modI (e2 mulI (e2 addI (e2 addI (e2 addI (e2 modI (eV (fun r : E_l_mixed => r.v_cell_here)) (e0 (998244353 : Int))) (e2 mulI (e2 mulI (e0 (31 : Int)) (eV (fun r : E_l_mixed => r.v_k))) (eV (fun r : E_l_mixed => r.v_k)))) (e2 mulI (e0 (1013 : Int)) (eV (fun r : E_l_mixed => r.v_k)))) (e0 (1 : Int))) (e0 (48271 : Int))) (e0 (2147483647 : Int)))))
 (fSeq (fSet (fun a r => { r with v_two := a }) (lift (e2 modI (e2 mulI (e2 addI (e2 addI (e2 fdivI (eV (fun r : E_l_mixed => r.v_one)) (e0 (7 : Int))) (e2 mulI (e2 modI (e2 fdivI (eV (fun r : E_l_mixed => r.v_cell_here)) (e0 (1009 : Int))) (e0 (10007 : Int))) (e0 (17 : Int)))) (eV (fun r : E_l_mixed => r.v_k))) (e0 (69621 : Int))) (e0 (2147483629 : Int)))))
 (fMut1 (fun r : E_l_mixed => r.v_row_here) (fun a r => { r with v_row_here := a }) appL (lift (e2 modI (e2 fdivI (eV (fun r : E_l_mixed => r.v_two)) (e0 (11 : Int))) (eV (fun r : E_l_mixed => r.v_base))))))))
 (fRet (fun r : E_l_mixed => .ok (r.v_row_here, r)))))
def m_l_mixed : Int × Int × Int × Unit → M (List Int) := fun a => runR b_l_mixed ⟨a.1, a.2.1, a.2.2.1, [], 0, 0, 0⟩
structure E_l_row where
  v_cell_here : Int
  v_base : Int
  v_many : Int
abbrev gs_l_row : List (Get E_l_row) := [⟨E_l_row.v_cell_here⟩, ⟨E_l_row.v_base⟩, ⟨E_l_row.v_many⟩]
def b_l_row : E_l_row → M (Fl E_l_row (List Int)) :=
 (fSeq (fIf (lift (e2 geI (e1 absI (eV (fun r : E_l_row => r.v_cell_here))) (e2 powI (e0 (10 : Int)) (e0 (18 : Int)))))
 (fRet (lift (eCall m_l_digits (aCons (eV (fun r : E_l_row => r.v_cell_here)) (aCons (eV (fun r : E_l_row => r.v_base)) (aCons (eV (fun r : E_l_row => r.v_many)) aNil))))))
 fNil)
 (fRet (lift (eCall m_l_mixed (aCons (eV (fun r : E_l_row => r.v_cell_here)) (aCons (eV (fun r : E_l_row => r.v_base)) (aCons (eV (fun r : E_l_row => r.v_many)) aNil)))))))
def m_l_row : Int × Int × Int × Unit → M (List Int) := fun a => runR b_l_row ⟨a.1, a.2.1, a.2.2.1⟩
structure E_l_closed where
  v_many : Int
  v_digits_here : List Int
  v_order_here : List (List Int)
  v_at : Int
  v_high : Int
  v_below : List Int
  v_low : Int
abbrev gs_l_closed : List (Get E_l_closed) := [⟨E_l_closed.v_many⟩, ⟨E_l_closed.v_digits_here⟩, ⟨E_l_closed.v_order_here⟩, ⟨E_l_closed.v_at⟩, ⟨E_l_closed.v_high⟩, ⟨E_l_closed.v_below⟩, ⟨E_l_closed.v_low⟩]
def b_l_closed : E_l_closed → M (Fl E_l_closed (List (List Int))) :=
 (fSeq (fSet (fun a r => { r with v_order_here := a }) (lift (e0 ([] : List (List Int)))))
 (fSeq (fSet (fun a r => { r with v_at := a }) (lift (e0 (0 : Int))))
 (fSeq (fFor (e1 rng1 (eV (fun r : E_l_closed => r.v_many))) (fun b r => { r with v_high := b })
 (fSeq (fSet (fun a r => { r with v_below := a }) (lift (e0 ([] : List Int))))
 (fSeq (fFor (e1 rng1 (eV (fun r : E_l_closed => r.v_high))) (fun b r => { r with v_low := b })
 (fSeq (fIf (lift (e2 eqS (e2 ixL (eV (fun r : E_l_closed => r.v_digits_here)) (eV (fun r : E_l_closed => r.v_at))) (e0 (0 : Int))))
 (fSeq (fMut1 (fun r : E_l_closed => r.v_below) (fun a r => { r with v_below := a }) appL (lift (eV (fun r : E_l_closed => r.v_low))))
 (fMut1 (fun r : E_l_closed => r.v_below) (fun a r => { r with v_below := a }) extL (lift (e2 ixL (eV (fun r : E_l_closed => r.v_order_here)) (eV (fun r : E_l_closed => r.v_low))))))
 fNil)
 (fSet (fun a r => { r with v_at := a }) (lift (e2 addI (eV (fun r : E_l_closed => r.v_at)) (e0 (1 : Int)))))))
 (fMut1 (fun r : E_l_closed => r.v_order_here) (fun a r => { r with v_order_here := a }) appL (lift (e1 sortSetI (eV (fun r : E_l_closed => r.v_below))))))))
 (fRet (fun r : E_l_closed => .ok (r.v_order_here, r))))))
def m_l_closed : Int × (List Int) × Unit → M (List (List Int)) := fun a => runR b_l_closed ⟨a.1, a.2.1, [], 0, 0, [], 0⟩
structure E_l_order where
  v_cell_here : Int
  v_many : Int
abbrev gs_l_order : List (Get E_l_order) := [⟨E_l_order.v_cell_here⟩, ⟨E_l_order.v_many⟩]
def b_l_order : E_l_order → M (Fl E_l_order (List (List Int))) :=
 (fSeq (fSet (fun a r => { r with v_many := a }) (lift (e2 modI (eV (fun r : E_l_order => r.v_cell_here)) (e0 (10 : Int)))))
 (fSeq (fIf (lift (e2 eqS (e2 modI (e2 fdivI (eV (fun r : E_l_order => r.v_cell_here)) (e0 (10 : Int))) (e0 (8 : Int))) (e0 (1 : Int))))
 (fSet (fun a r => { r with v_many := a }) (lift (e2 modI (e2 fdivI (eV (fun r : E_l_order => r.v_cell_here)) (e0 (80 : Int))) (e0 (15 : Int)))))
 fNil)
 (fRet (lift (eCall m_l_closed (aCons (eV (fun r : E_l_order => r.v_many)) (aCons (eCall m_l_row (aCons (e2 fdivI (eV (fun r : E_l_order => r.v_cell_here)) (e0 (4800 : Int))) (aCons (e2 addI (e0 (2 : Int)) (e2 modI (e2 fdivI (eV (fun r : E_l_order => r.v_cell_here)) (e0 (1200 : Int))) (e0 (4 : Int)))) (aCons (e0 (91 : Int)) aNil)))) aNil)))))))
def m_l_order : Int × Unit → M (List (List Int)) := fun a => runR b_l_order ⟨a.1, 0⟩
structure E_l_spoilt where
  v_order_here : List (List Int)
  v_cell_here : Int
  v_row_here : List Int
  v_rows : List (Up (Up Sc))
  v_kind : Int
  v_place : Int
  v_at : Int
  v_others : List (Up (Up Sc))
  v_low : Int
  v_k : Int
abbrev gs_l_spoilt : List (Get E_l_spoilt) := [⟨E_l_spoilt.v_order_here⟩, ⟨E_l_spoilt.v_cell_here⟩, ⟨E_l_spoilt.v_row_here⟩, ⟨E_l_spoilt.v_rows⟩, ⟨E_l_spoilt.v_kind⟩, ⟨E_l_spoilt.v_place⟩, ⟨E_l_spoilt.v_at⟩, ⟨E_l_spoilt.v_others⟩, ⟨E_l_spoilt.v_low⟩, ⟨E_l_spoilt.v_k⟩]
def b_l_spoilt : E_l_spoilt → M (Fl E_l_spoilt (Up (Up (Up Sc)))) :=
 (fSeq (fSet (fun a r => { r with v_rows := a }) (lift (eLc (eV (fun r : E_l_spoilt => r.v_order_here)) (fun b r => { r with v_row_here := b }) (fun _ => .ok true) (e1 (cvO (β := List Int) (α := Up (Up Sc))) (e1 (fun l => some l) (eV (fun r : E_l_spoilt => r.v_row_here)))))))
 (fSeq (fSet (fun a r => { r with v_kind := a }) (lift (e2 modI (eV (fun r : E_l_spoilt => r.v_cell_here)) (e0 (11 : Int)))))
 (fSeq (fIf (lift (e2 eqS (eV (fun r : E_l_spoilt => r.v_kind)) (e0 (8 : Int))))
 (fRet (E1 (cvO (β := Tp (Up (Up Sc))) (α := Up (Up (Up Sc)))) (lift (e1 (fun l => some (Tp.mk l)) (eV (fun r : E_l_spoilt => r.v_rows))))))
 fNil)
 (fSeq (fIf (lift (e2 eqS (eV (fun r : E_l_spoilt => r.v_kind)) (e0 (9 : Int))))
 (fRet (E1 (cvO (β := List (Up (Up Sc))) (α := Up (Up (Up Sc)))) (lift (e2 catL (eLst (eCons (e1 (cvO (β := List (Up Sc)) (α := Up (Up Sc))) (e0 ([] : List (Up Sc)))) eNil)) (eV (fun r : E_l_spoilt => r.v_rows))))))
 fNil)
 (fSeq (fIf (lift (e2 eqS (eV (fun r : E_l_spoilt => r.v_kind)) (e0 (10 : Int))))
 (fRet (E1 (cvO (β := List (Up (Up Sc))) (α := Up (Up (Up Sc)))) (lift (e2 catL (eV (fun r : E_l_spoilt => r.v_rows)) (eLc (e1 rng1 (e2 subI (e0 (15 : Int)) (e1 lenL (eV (fun r : E_l_spoilt => r.v_rows))))) (fun b r => { r with v_k := b }) (fun _ => .ok true) (e1 (cvO (β := List (Up Sc)) (α := Up (Up Sc))) (e0 ([] : List (Up Sc)))))))))
 fNil)
 (fSeq (fIf (lift (eOr (e2 eqS (e1 lenL (eV (fun r : E_l_spoilt => r.v_rows))) (e0 (0 : Int))) (e2 eqS (eV (fun r : E_l_spoilt => r.v_kind)) (e0 (0 : Int)))))
 (fRet (E1 (cvO (β := List (Up (Up Sc))) (α := Up (Up (Up Sc)))) (lift (eV (fun r : E_l_spoilt => r.v_rows)))))
 fNil)
 (fSeq (fSet (fun a r => { r with v_place := a }) (lift (e2 modI (e2 fdivI (eV (fun r : E_l_spoilt => r.v_cell_here)) (e0 (11 : Int))) (e1 lenL (eV (fun r : E_l_spoilt => r.v_rows))))))
 (fSeq (fSet (fun a r => { r with v_row_here := a }) (E1 unULI (eIxO (fun r : E_l_spoilt => r.v_rows) (lift (eV (fun r : E_l_spoilt => r.v_place))))))
 (fSeq (fIf (lift (e2 eqS (eV (fun r : E_l_spoilt => r.v_kind)) (e0 (1 : Int))))
 (fPutP (pV (fun r : E_l_spoilt => r.v_rows) (fun a r => { r with v_rows := a })) (eV (fun r : E_l_spoilt => r.v_place)) (E1 (cvO (β := List Int) (α := Up (Up Sc))) (lift (e2 catL (eV (fun r : E_l_spoilt => r.v_row_here)) (eLst (eCons (e2 subI (e2 modI (e2 fdivI (eV (fun r : E_l_spoilt => r.v_cell_here)) (e0 (200 : Int))) (e0 (19 : Int))) (e0 (3 : Int))) eNil))))))
 fNil)
 (fSeq (fIf (lift (e2 eqS (eV (fun r : E_l_spoilt => r.v_kind)) (e0 (2 : Int))))
 (fSeq (fSet (fun a r => { r with v_at := a }) (lift (e2 modI (e2 fdivI (eV (fun r : E_l_spoilt => r.v_cell_here)) (e0 (200 : Int))) (e0 (15 : Int)))))
 (fPutP (pV (fun r : E_l_spoilt => r.v_rows) (fun a r => { r with v_rows := a })) (eV (fun r : E_l_spoilt => r.v_place)) (E1 (cvO (β := List Int) (α := Up (Up Sc))) (lift (e2 catL (eCut (eV (fun r : E_l_spoilt => r.v_row_here)) oNone (oSome (eV (fun r : E_l_spoilt => r.v_at)))) (eCut (eV (fun r : E_l_spoilt => r.v_row_here)) (oSome (e2 addI (eV (fun r : E_l_spoilt => r.v_at)) (e0 (1 : Int)))) oNone))))))
 fNil)
 (fSeq (fIf (lift (e2 eqS (eV (fun r : E_l_spoilt => r.v_kind)) (e0 (3 : Int))))
 (fPutP (pV (fun r : E_l_spoilt => r.v_rows) (fun a r => { r with v_rows := a })) (eV (fun r : E_l_spoilt => r.v_place)) (E1 (cvO (β := List (Up Sc)) (α := Up (Up Sc))) (lift (eLc (eV (fun r : E_l_spoilt => r.v_row_here)) (fun b r => { r with v_low := b }) (fun _ => .ok true) (e1 (cvO (β := Bool) (α := Up Sc)) (e2 eqS (eV (fun r : E_l_spoilt => r.v_low)) (e0 (1 : Int))))))))
 fNil)
 (fSeq (fIf (lift (e2 eqS (eV (fun r : E_l_spoilt => r.v_kind)) (e0 (4 : Int))))
 (fPutP (pV (fun r : E_l_spoilt => r.v_rows) (fun a r => { r with v_rows := a })) (eV (fun r : E_l_spoilt => r.v_place)) (E1 (cvO (β := List Int) (α := Up (Up Sc))) (lift (e1 (fun l => some l.reverse) (eV (fun r : E_l_spoilt => r.v_row_here))))))
 fNil)
 (fSeq (fIf (lift (e2 eqS (eV (fun r : E_l_spoilt => r.v_kind)) (e0 (5 : Int))))
 (fPutP (pV (fun r : E_l_spoilt => r.v_rows) (fun a r => { r with v_rows := a })) (eV (fun r : E_l_spoilt => r.v_place)) (E1 (cvO (β := Tp Int) (α := Up (Up Sc))) (lift (e1 (fun l => some (Tp.mk l)) (eV (fun r : E_l_spoilt => r.v_row_here))))))
 fNil)
 (fSeq (fIf (lift (e2 eqS (eV (fun r : E_l_spoilt => r.v_kind)) (e0 (6 : Int))))
 (fSeq (fSet (fun a r => { r with v_others := a }) (lift (eLst (eCons (e1 (cvO (β := Unit) (α := Up (Up Sc))) (e0 ())) (eCons (e1 (cvO (β := Str) (α := Up (Up Sc))) (e0 ("0" : Str))) (eCons (e1 (cvO (β := Int) (α := Up (Up Sc))) (e1 lenL (eV (fun r : E_l_spoilt => r.v_row_here)))) (eCons (e1 (cvO (β := Bool) (α := Up (Up Sc))) (e0 true)) (eCons (e1 (cvO (β := Tp (Up Sc)) (α := Up (Up Sc))) (eTpl eNil)) (eCons (e1 (cvO (β := Str) (α := Up (Up Sc))) (e0 ("" : Str))) (eCons (e1 (cvO (β := List (Up Sc)) (α := Up (Up Sc))) (eLst (eCons (e1 (cvO (β := Unit) (α := Up Sc)) (e0 ())) eNil))) (eCons (e1 (cvO (β := List (Up Sc)) (α := Up (Up Sc))) (eLst (eCons (e1 (cvO (β := Str) (α := Up Sc)) (e0 ("0" : Str))) eNil))) eNil)))))))))))
 (fSeq (fSet (fun a r => { r with v_others := a }) (lift (e2 catL (eV (fun r : E_l_spoilt => r.v_others)) (eLst (eCons (e1 (cvO (β := List (Up Sc)) (α := Up (Up Sc))) (e2 catL (e1 (cvO (β := List Int) (α := List (Up Sc))) (eV (fun r : E_l_spoilt => r.v_row_here))) (eLst (eCons (e1 (cvO (β := Unit) (α := Up Sc)) (e0 ())) eNil)))) (eCons (e1 (cvO (β := List (Up Sc)) (α := Up (Up Sc))) (e2 catL (e1 (cvO (β := List Int) (α := List (Up Sc))) (eV (fun r : E_l_spoilt => r.v_row_here))) (eLst (eCons (e1 (cvO (β := Str) (α := Up Sc)) (e0 ("0" : Str))) eNil)))) (eCons (e1 (cvO (β := List (Up Sc)) (α := Up (Up Sc))) (e2 catL (e1 (cvO (β := List Int) (α := List (Up Sc))) (eV (fun r : E_l_spoilt => r.v_row_here))) (eLst (eCons (e1 (cvO (β := List Sc) (α := Up Sc)) (eLst (eCons (e1 scI (e0 (0 : Int))) eNil))) eNil)))) (eCons (e1 (cvO (β := List (Up Sc)) (α := Up (Up Sc))) (e2 catL (e1 (cvO (β := List Int) (α := List (Up Sc))) (eV (fun r : E_l_spoilt => r.v_row_here))) (eLst (eCons (e1 (cvO (β := Tp Sc) (α := Up Sc)) (eTpl (eCons (e1 scI (e0 (0 : Int))) eNil))) eNil)))) eNil))))))))
 (fPutP (pV (fun r : E_l_spoilt => r.v_rows) (fun a r => { r with v_rows := a })) (eV (fun r : E_l_spoilt => r.v_place)) (lift (e2 ixL (eV (fun r : E_l_spoilt => r.v_others)) (e2 modI (e2 fdivI (eV (fun r : E_l_spoilt => r.v_cell_here)) (e0 (200 : Int))) (e0 (12 : Int))))))))
 fNil)
 (fSeq (fIf (lift (e2 eqS (eV (fun r : E_l_spoilt => r.v_kind)) (e0 (7 : Int))))
 (fPutP (pV (fun r : E_l_spoilt => r.v_rows) (fun a r => { r with v_rows := a })) (eV (fun r : E_l_spoilt => r.v_place)) (E1 (cvO (β := List Int) (α := Up (Up Sc))) (lift (e1 sortI (e2 catL (eV (fun r : E_l_spoilt => r.v_row_here)) (eLst (eCons (e2 modI (e2 fdivI (eV (fun r : E_l_spoilt => r.v_cell_here)) (e0 (200 : Int))) (e2 addI (eV (fun r : E_l_spoilt => r.v_place)) (e0 (1 : Int)))) eNil)))))))
 fNil)
 (fRet (E1 (cvO (β := List (Up (Up Sc))) (α := Up (Up (Up Sc)))) (lift (eV (fun r : E_l_spoilt => r.v_rows))))))))))))))))))))
def m_l_spoilt : (List (List Int)) × Int × Unit → M (Up (Up (Up Sc))) := fun a => runR b_l_spoilt ⟨a.1, a.2.1, [], [], 0, 0, 0, [], 0, 0⟩
structure E_l_is_row where
  v_rows : List (Up (Up Sc))
  v_place : Int
  v_row_here : Up (Up Sc)
  v_k : Int
  v_low : Up Sc
  v_one : Up Sc
abbrev gs_l_is_row : List (Get E_l_is_row) := [⟨E_l_is_row.v_rows⟩, ⟨E_l_is_row.v_place⟩, ⟨E_l_is_row.v_row_here⟩, ⟨E_l_is_row.v_k⟩, ⟨E_l_is_row.v_low⟩, ⟨E_l_is_row.v_one⟩]
def b_l_is_row : E_l_is_row → M (Fl E_l_is_row Bool) :=
 (fSeq (fSet (fun a r => { r with v_row_here := a }) (lift (e2 ixL (eV (fun r : E_l_is_row => r.v_rows)) (eV (fun r : E_l_is_row => r.v_place)))))
 (fSeq (fIf (lift (e1 (fun b => some !b) (e1 isListU (eV (fun r : E_l_is_row => r.v_row_here)))))
 (fRet (lift (e0 false)))
 fNil)
 (fSeq (fFor (eEnum (e1 unUL (eV (fun r : E_l_is_row => r.v_row_here)))) (fun b r => { r with v_k := b.1, v_low := b.2 })
 (fSeq (fIf (lift (eOr (e1 (fun b => some !b) (e1 isIntU (eV (fun r : E_l_is_row => r.v_low)))) (eOr (e1 isBoolU (eV (fun r : E_l_is_row => r.v_low))) (eOr (e2 ltI (e1 unUI (eV (fun r : E_l_is_row => r.v_low))) (e0 (0 : Int))) (e2 geI (e1 unUI (eV (fun r : E_l_is_row => r.v_low))) (eV (fun r : E_l_is_row => r.v_place)))))))
 (fRet (lift (e0 false)))
 fNil)
 (fIf (lift (eAnd (e2 gtI (eV (fun r : E_l_is_row => r.v_k)) (e0 (0 : Int))) (e2 geI (e1 unUI (e2 ixL (e1 unUL (eV (fun r : E_l_is_row => r.v_row_here))) (e2 subI (eV (fun r : E_l_is_row => r.v_k)) (e0 (1 : Int))))) (e1 unUI (eV (fun r : E_l_is_row => r.v_low))))))
 (fRet (lift (e0 false)))
 fNil)))
 (fSeq (fFor (e1 unUL (eV (fun r : E_l_is_row => r.v_row_here))) (fun b r => { r with v_low := b })
 (fIf (lift (e2 neC (eLc (e1 unUL (e2 ixL (eV (fun r : E_l_is_row => r.v_rows)) (e1 unUI (eV (fun r : E_l_is_row => r.v_low))))) (fun b r => { r with v_one := b }) (e2 ninL (e1 unUI (eV (fun r : E_l_is_row => r.v_one))) (e1 unULI (eV (fun r : E_l_is_row => r.v_row_here)))) (eV (fun r : E_l_is_row => r.v_one))) (e0 ([] : List (Up Sc)))))
 (fRet (lift (e0 false)))
 fNil))
 (fRet (lift (e0 true)))))))
def m_l_is_row : (List (Up (Up Sc))) × Int × Unit → M Bool := fun a => runR b_l_is_row ⟨a.1, a.2.1, (.sc .non), 0, (.sc .non), (.sc .non)⟩
structure E_l_is_order where
  v_thing : Up (Up (Up Sc))
  v_place : Int
abbrev gs_l_is_order : List (Get E_l_is_order) := [⟨E_l_is_order.v_thing⟩, ⟨E_l_is_order.v_place⟩]
def b_l_is_order : E_l_is_order → M (Fl E_l_is_order Bool) :=
 (fSeq (fIf (lift (eOr (e1 (fun b => some !b) (e1 isListU (eV (fun r : E_l_is_order => r.v_thing)))) (e2 gtI (e1 lenL (e1 unUL (eV (fun r : E_l_is_order => r.v_thing)))) (e0 (14 : Int)))))
 (fRet (lift (e0 false)))
 fNil)
 (fSeq (fFor (e1 rng1 (e1 lenL (e1 unUL (eV (fun r : E_l_is_order => r.v_thing))))) (fun b r => { r with v_place := b })
 (fIf (lift (e1 (fun b => some !b) (eCall m_l_is_row (aCons (e1 unUL (eV (fun r : E_l_is_order => r.v_thing))) (aCons (eV (fun r : E_l_is_order => r.v_place)) aNil)))))
 (fRet (lift (e0 false)))
 fNil))
 (fRet (lift (e0 true)))))
def m_l_is_order : (Up (Up (Up Sc))) × Unit → M Bool := fun a => runR b_l_is_order ⟨a.1, 0⟩
structure E_l_copy0 where
  v_thing : Sc
abbrev gs_l_copy0 : List (Get E_l_copy0) := [⟨E_l_copy0.v_thing⟩]
def b_l_copy0 : E_l_copy0 → M (Fl E_l_copy0 Sc) :=
 (fSeq (fIf (lift (e1 isListY (eV (fun r : E_l_copy0 => r.v_thing))))
 fStuck
 fNil)
 (fRet (lift (eV (fun r : E_l_copy0 => r.v_thing)))))
def m_l_copy0 : Sc × Unit → M Sc := fun a => runR b_l_copy0 ⟨a.1⟩
structure E_l_copy1 where
  v_thing : Up Sc
  v_one : Sc
abbrev gs_l_copy1 : List (Get E_l_copy1) := [⟨E_l_copy1.v_thing⟩, ⟨E_l_copy1.v_one⟩]
def b_l_copy1 : E_l_copy1 → M (Fl E_l_copy1 (Up Sc)) :=
 (fSeq (fIf (lift (e1 isListU (eV (fun r : E_l_copy1 => r.v_thing))))
 (fRet (E1 (cvO (β := List Sc) (α := Up Sc)) (lift (eLc (e1 unUL (eV (fun r : E_l_copy1 => r.v_thing))) (fun b r => { r with v_one := b }) (fun _ => .ok true) (eCall m_l_copy0 (aCons (eV (fun r : E_l_copy1 => r.v_one)) aNil))))))
 fNil)
 (fRet (lift (eV (fun r : E_l_copy1 => r.v_thing)))))
def m_l_copy1 : (Up Sc) × Unit → M (Up Sc) := fun a => runR b_l_copy1 ⟨a.1, .non⟩
structure E_l_copy2 where
  v_thing : Up (Up Sc)
  v_one : Up Sc
abbrev gs_l_copy2 : List (Get E_l_copy2) := [⟨E_l_copy2.v_thing⟩, ⟨E_l_copy2.v_one⟩]
def b_l_copy2 : E_l_copy2 → M (Fl E_l_copy2 (Up (Up Sc))) :=
 (fSeq (fIf (lift (e1 isListU (eV (fun r : E_l_copy2 => r.v_thing))))
 (fRet (E1 (cvO (β := List (Up Sc)) (α := Up (Up Sc))) (lift (eLc (e1 unUL (eV (fun r : E_l_copy2 => r.v_thing))) (fun b r => { r with v_one := b }) (fun _ => .ok true) (eCall m_l_copy1 (aCons (eV (fun r : E_l_copy2 => r.v_one)) aNil))))))
 fNil)
 (fRet (lift (eV (fun r : E_l_copy2 => r.v_thing)))))
def m_l_copy2 : (Up (Up Sc)) × Unit → M (Up (Up Sc)) := fun a => runR b_l_copy2 ⟨a.1, (.sc .non)⟩
structure E_l_copy where
  v_thing : Up (Up (Up Sc))
  v_one : Up (Up Sc)
abbrev gs_l_copy : List (Get E_l_copy) := [⟨E_l_copy.v_thing⟩, ⟨E_l_copy.v_one⟩]
def b_l_copy : E_l_copy → M (Fl E_l_copy (Up (Up (Up Sc)))) :=
 (fSeq (fIf (lift (e1 isListU (eV (fun r : E_l_copy => r.v_thing))))
 (fRet (E1 (cvO (β := List (Up (Up Sc))) (α := Up (Up (Up Sc)))) (lift (eLc (e1 unUL (eV (fun r : E_l_copy => r.v_thing))) (fun b r => { r with v_one := b }) (fun _ => .ok true) (eCall m_l_copy2 (aCons (eV (fun r : E_l_copy => r.v_one)) aNil))))))
 fNil)
 (fRet (lift (eV (fun r : E_l_copy => r.v_thing)))))
def m_l_copy : (Up (Up (Up Sc))) × Unit → M (Up (Up (Up Sc))) := fun a => runR b_l_copy ⟨a.1, (.sc .non)⟩
structure E_law where
  v_script : Scr
  v_order_here : List (List Int)
  v_thing : Up (Up (Up Sc))
  v_cell_here : Int
  v_kept : Up (Up (Up Sc))
  v_told : Bool
  v_row_here : List Int
abbrev gs_law : List (Get E_law) := [⟨E_law.v_script⟩, ⟨E_law.v_order_here⟩, ⟨E_law.v_thing⟩, ⟨E_law.v_cell_here⟩, ⟨E_law.v_kept⟩, ⟨E_law.v_told⟩, ⟨E_law.v_row_here⟩]
def b_law : E_law → M (Fl E_law Bool) :=
 (fSeq (fSet (fun a r => { r with v_order_here := a }) (lift (eCall m_l_order (aCons (eCall m_l_cell (aCons (eV (fun r : E_law => r.v_script)) (aCons (e0 (0 : Int)) aNil))) aNil))))
 (fSeq (fIf (lift (e2 isnBB (eCall m_is_order (aCons (e1 (cvO (β := List (Up (Up Sc))) (α := Up (Up (Up Sc)))) (eLc (eV (fun r : E_law => r.v_order_here)) (fun b r => { r with v_row_here := b }) (fun _ => .ok true) (e1 (cvO (β := List Int) (α := Up (Up Sc))) (e1 (fun l => some l) (eV (fun r : E_law => r.v_row_here)))))) aNil)) (e0 true)))
 (fRet (lift (e0 false)))
 fNil)
 (fSeq (fFor (eLst (eCons (e1 (cvO (β := Unit) (α := Up (Up (Up Sc)))) (e0 ())) (eCons (e1 (cvO (β := Int) (α := Up (Up (Up Sc)))) (e0 (5 : Int))) (eCons (e1 (cvO (β := Bool) (α := Up (Up (Up Sc)))) (e0 true)) (eCons (e1 (cvO (β := Str) (α := Up (Up (Up Sc)))) (e0 ("" : Str))) (eCons (e1 (cvO (β := Str) (α := Up (Up (Up Sc)))) (e0 ("ab" : Str))) (eCons (e1 (cvO (β := Tp (Up (Up Sc))) (α := Up (Up (Up Sc)))) (eTpl eNil)) (eCons (e1 (cvO (β := Int) (α := Up (Up (Up Sc)))) (e2 powI (e0 (10 : Int)) (e0 (40 : Int)))) eNil)))))))) (fun b r => { r with v_thing := b })
 (fIf (lift (e2 isnBB (eCall m_is_order (aCons (eV (fun r : E_law => r.v_thing)) aNil)) (e0 false)))
 (fRet (lift (e0 false)))
 fNil))
 (fSeq (fFor (e2 catL (eLst (eCons (eCall m_l_cell (aCons (eV (fun r : E_law => r.v_script)) (aCons (e0 (1 : Int)) aNil))) eNil)) (eCut (fun r => (eV (fun r : E_law => r.v_script)) r >>= fun s => if s.l.length ≤ line then .ok s.l else .error .stuck) (oSome (e0 (2 : Int))) (oSome (e0 (12 : Int))))) (fun b r => { r with v_cell_here := b })
 (fSeq (fSet (fun a r => { r with v_thing := a }) (lift (eCall m_l_spoilt (aCons (eV (fun r : E_law => r.v_order_here)) (aCons (eV (fun r : E_law => r.v_cell_here)) aNil)))))
 (fSeq (fSet (fun a r => { r with v_kept := a }) (lift (eCall m_l_copy (aCons (eV (fun r : E_law => r.v_thing)) aNil))))
 (fSeq (fSet (fun a r => { r with v_told := a }) (lift (eCall m_is_order (aCons (eV (fun r : E_law => r.v_thing)) aNil))))
 (fIf (lift (eOr (e1 (fun b => some !b) (e1 (fun _ => some true) (eV (fun r : E_law => r.v_told)))) (eOr (e2 neS (eV (fun r : E_law => r.v_told)) (eCall m_l_is_order (aCons (eV (fun r : E_law => r.v_kept)) aNil))) (e2 neC (eV (fun r : E_law => r.v_thing)) (eV (fun r : E_law => r.v_kept))))))
 (fRet (lift (e0 false)))
 fNil)))))
 (fRet (lift (e0 true)))))))
def m_law : Scr × Unit → M Bool := fun a => runR b_law ⟨a.1, [], (.sc .non), 0, (.sc .non), false, []⟩
end K01
namespace K01
open VL
theorem l_cell_ok (s : Scr) (k : Int) (hk : 0 ≤ k) : ∃ c, m_l_cell (s, k, ()) = .ok c := by
  refine (val_ex (Q := fun _ => True) ?_).imp fun _ h => h.1
  simp only [m_l_cell, b_l_cell, val_runR, wp_seq, wp_if, wp_ret, wp_nil, val_lift, val_e2, val_eV, val_e1, val_e0, opt_lt, opt_lenScr]
  by_cases h : k < s.l.length
  · simp only [h, decide_true, if_true]
    obtain ⟨a, e⟩ := at_some (l := s.l) (j := k.toNat) (by omega)
    rw [opt_ixE hk e]
    trivial
  · simp [h]
theorem l_digits_ok (c b n : Int) (hb : 0 < b) (hb2 : b < 1073741824) (hn : 0 ≤ n) (hn2 : n < 1000000) : val (m_l_digits (c, b, n, ())) fun l => (l.length : Int) = n ∧ ∀ x ∈ l, 0 ≤ x ∧ x < b := by
  simp only [m_l_digits, b_l_digits, val_runR, wp_seq, wp_set, wp_for, wp_ret, val_lift, val_eV, val_e1, val_e0]
  rw [opt_rng1 (by omega)]
  refine wp_loop (fun i r => r.v_base = b ∧ r.v_row_here.length = i ∧ ∀ x ∈ r.v_row_here, 0 ≤ x ∧ x < b) ⟨rfl, rfl, fun x h => (nomatch h)⟩ (fun i v r e ⟨h1, h2, h3⟩ => ?_) (fun r ⟨h1, h2, h3⟩ => ?_)
  · obtain ⟨hi, rfl⟩ := rng_at e
    simp only [wp_seq, wp_mut1, wp_set, val_lift, val_e2, val_eV, h1, opt_modE hb, opt_fdivE hb hb2]
    rw [opt_appE (by omega)]
    refine ⟨trivial, by simp [h2], fun x hx => ?_⟩
    rcases List.mem_append.mp hx with hx | hx
    · exact h3 x hx
    · rw [List.mem_singleton.mp hx]
      exact ⟨Int.emod_nonneg _ (by omega), Int.emod_lt_of_pos _ hb⟩
  · refine ⟨?_, h3⟩
    rw [h2]
    simp
    omega
theorem l_mixed_ok (c b n : Int) (hb : 0 < b) (hb2 : b < 1073741824) (hn : 0 ≤ n) (hn2 : n < 1000000) : val (m_l_mixed (c, b, n, ())) fun l => (l.length : Int) = n ∧ ∀ x ∈ l, 0 ≤ x ∧ x < b := by
  simp only [m_l_mixed, b_l_mixed, val_runR, wp_seq, wp_set, wp_for, wp_ret, val_lift, val_eV, val_e1, val_e0]
  rw [opt_rng1 (by omega)]
  refine wp_loop (fun i r => r.v_base = b ∧ r.v_row_here.length = i ∧ ∀ x ∈ r.v_row_here, 0 ≤ x ∧ x < b) ⟨rfl, rfl, fun x h => (nomatch h)⟩ (fun i v r e ⟨h1, h2, h3⟩ => ?_) (fun r ⟨h1, h2, h3⟩ => ?_)
  · obtain ⟨hi, rfl⟩ := rng_at e
    simp only [wp_seq, wp_mut1, wp_set, val_lift, val_e2, val_eV, val_e0, h1, opt_modE hb, opt_modE (y := 998244353) (by decide), opt_modE (y := 2147483647) (by decide), opt_modE (y := 10007) (by decide), opt_modE (y := 2147483629) (by decide), opt_fdivE (y := 7) (by decide) (by decide), opt_fdivE (y := 1009) (by decide) (by decide), opt_fdivE (y := 11) (by decide) (by decide), opt_add]
    repeat' first | (refine opt_mul (.inr (.inl (by first | decide | (simp; omega) | omega))) ?_) | (refine opt_mul (.inl (by first | decide | omega)) ?_) | (simp only [opt_modE (y := 998244353) (by decide), opt_modE (y := 2147483647) (by decide), opt_modE (y := 10007) (by decide), opt_modE (y := 2147483629) (by decide), opt_fdivE (y := 7) (by decide) (by decide), opt_fdivE (y := 1009) (by decide) (by decide), opt_fdivE (y := 11) (by decide) (by decide), opt_add])
    rw [opt_appE (by omega)]
    refine ⟨trivial, by simp [h2], fun x hx => ?_⟩
    rcases List.mem_append.mp hx with hx | hx
    · exact h3 x hx
    · rw [List.mem_singleton.mp hx]
      exact ⟨Int.emod_nonneg _ (by omega), Int.emod_lt_of_pos _ hb⟩
  · refine ⟨?_, h3⟩
    rw [h2]
    simp
    omega
theorem l_row_ok (c b n : Int) (hb : 0 < b) (hb2 : b < 1073741824) (hn : 0 ≤ n) (hn2 : n < 1000000) : val (m_l_row (c, b, n, ())) fun l => (l.length : Int) = n ∧ ∀ x ∈ l, 0 ≤ x ∧ x < b := by
  simp only [m_l_row, b_l_row, val_runR, wp_seq, wp_if, wp_ret, wp_nil, val_lift, val_e2, val_eV, val_e1, val_e0, opt_abs, opt_ge, val_eCall, val_aCons, val_aNil]
  rw [opt_powE (by decide)]
  have key : ∀ d : Bool, if d = true then val (m_l_digits (c, b, n, ())) (fun l => (l.length : Int) = n ∧ ∀ x ∈ l, 0 ≤ x ∧ x < b) else val (m_l_mixed (c, b, n, ())) (fun l => (l.length : Int) = n ∧ ∀ x ∈ l, 0 ≤ x ∧ x < b) := fun d => match d with
    | true => l_digits_ok c b n hb hb2 hn hn2
    | false => l_mixed_ok c b n hb hb2 hn hn2
  exact key _
theorem l_closed_ok (n : Int) (ds : List Int) (hn : 0 ≤ n) (hn2 : n ≤ 14) (hd : 91 ≤ ds.length) : val (m_l_closed (n, ds, ())) fun o => (o.length : Int) = n ∧ IsOrd o := by
  simp only [m_l_closed, b_l_closed, val_runR, wp_seq, wp_set, wp_for, wp_ret, val_lift, val_eV, val_e1, val_e0]
  rw [opt_rng1 (by omega)]
  refine wp_loop (fun i r => r.v_digits_here = ds ∧ r.v_order_here.length = i ∧ IsOrd r.v_order_here ∧ r.v_at = (tn i : Int)) ⟨rfl, rfl, .nil, rfl⟩ (fun i v r e ⟨h1, h2, h3, h4⟩ => ?_) (fun r ⟨h1, h2, h3, h4⟩ => ?_)
  · obtain ⟨hi, rfl⟩ := rng_at e
    simp only [wp_seq, wp_set, wp_for, val_lift, val_eV, val_e1, val_e0]
    rw [opt_rng1 (by omega)]
    refine wp_loop (fun k r2 => r2.v_digits_here = ds ∧ r2.v_order_here = r.v_order_here ∧ r2.v_at = ((tn i + k : Nat) : Int) ∧ r2.v_below.length ≤ k * 15 ∧ (∀ x ∈ r2.v_below, 0 ≤ x ∧ x < (k : Int) ∧ ∀ row, r.v_order_here[x.toNat]? = some row → ∀ y ∈ row, y ∈ r2.v_below)) ⟨h1, rfl, h4, Nat.zero_le _, fun x h => (nomatch h)⟩ (fun k v r2 e ⟨g1, g2, g3, g4, g5⟩ => ?_) (fun r2 ⟨g1, g2, g3, g4, g5⟩ => ?_)
    · obtain ⟨hk, rfl⟩ := rng_at e
      have hk : k < i := by simpa using hk
      have hi14 : i < 14 := by omega
      obtain ⟨row, er⟩ := at_some (l := r.v_order_here) (j := k) (by omega)
      have hr : row.length ≤ k := h3.few er
      have hm : tn i ≤ 78 := tn_le (m := 13) (by omega)
      obtain ⟨d, ed⟩ := at_some (l := ds) (j := tn i + k) (by omega)
      simp only [wp_seq, wp_if, wp_nil, wp_mut1, wp_set, val_lift, val_e2, val_eV, val_e0, opt_eqS, opt_add, g1, g2, g3]
      rw [opt_ixE (by omega) (by rw [Int.toNat_natCast]; exact ed)]
      by_cases h0 : d = 0
      · simp only [h0, decide_true, if_true]
        rw [opt_appE (by omega), opt_ixE (by omega) (by rw [Int.toNat_natCast]; exact er), opt_extE (by simp; omega)]
        refine ⟨trivial, trivial, by rw [← Nat.add_assoc, Int.natCast_add]; simp, by simp; omega, fun x hx => ?_⟩
        rcases List.mem_append.mp hx with hx | hx
        · rcases List.mem_append.mp hx with hx | hx
          · obtain ⟨a, b, c⟩ := g5 x hx
            exact ⟨a, by omega, fun row e y hy => List.mem_append_left _ (List.mem_append_left _ (c row e y hy))⟩
          · rw [List.mem_singleton.mp hx]
            refine ⟨by omega, by omega, fun row2 e y hy => ?_⟩
            rw [Int.toNat_natCast, er] at e
            cases e
            exact List.mem_append_right _ hy
        · obtain ⟨a, b⟩ := h3.lo er x hx
          exact ⟨a, by omega, fun row2 e y hy => List.mem_append_right _ (h3.tr er x hx row2 e y hy)⟩
      · simp only [h0, decide_false, Bool.false_eq_true, if_false]
        refine ⟨trivial, trivial, by rw [← Nat.add_assoc, Int.natCast_add]; simp, by omega, fun x hx => ?_⟩
        obtain ⟨a, b, c⟩ := g5 x hx
        exact ⟨a, by omega, c⟩
    · simp only [List.length_map, List.length_range, Int.toNat_natCast] at g3 g4 g5
      simp only [wp_mut1, val_lift, val_e1, val_eV, g2]
      have hs := ssort_sorted r2.v_below
      have hb : ∀ x ∈ ssort r2.v_below, 0 ≤ x ∧ x < (i : Int) := fun x hx => by
        rw [ssort_mem] at hx
        obtain ⟨a, b, _⟩ := g5 x hx
        exact ⟨a, b⟩
      have hl : (ssort r2.v_below).length ≤ i := by
        rcases few hs hb with h | h
        · omega
        · rw [h]; exact Nat.zero_le _
      rw [opt_sortSetE (by omega) (by omega), opt_appE (by omega)]
      refine ⟨g1, by simp [h2], h3.snoc hs (by rw [h2]; exact hb) (fun x hx row e y hy => ?_), ?_⟩
      · rw [ssort_mem] at hx ⊢
        exact (g5 x hx).2.2 row e y hy
      · rw [tn_next]
        exact g3
  · refine ⟨?_, h3⟩
    rw [h2]
    simp
    omega
/-- the order that a cell tells -/
theorem l_order_ok (c : Int) : ∃ o, m_l_order (c, ()) = .ok o ∧ o.length ≤ 14 ∧ IsOrd o := by
  refine val_ex ?_
  simp only [m_l_order, b_l_order, val_runR, wp_seq, wp_set, wp_if, wp_nil, wp_ret, val_lift, val_e2, val_eV, val_e0, val_eCall, val_aCons, val_aNil, opt_add, opt_eqS, opt_modE (y := 10) (by decide), opt_modE (y := 8) (by decide), opt_modE (y := 15) (by decide), opt_modE (y := 4) (by decide), opt_fdivE (y := 10) (by decide) (by decide), opt_fdivE (y := 80) (by decide) (by decide), opt_fdivE (y := 4800) (by decide) (by decide), opt_fdivE (y := 1200) (by decide) (by decide)]
  have key (n : Int) (h1 : 0 ≤ n) (h2 : n ≤ 14) : val (m_l_row (c / 4800, 2 + c / 1200 % 4, 91, ())) fun a => val (m_l_closed (n, a, ())) fun o => o.length ≤ 14 ∧ IsOrd o :=
    val_mono (l_row_ok _ _ _ (by omega) (by omega) (by omega) (by omega)) fun l ⟨h, _⟩ => val_mono (l_closed_ok n l h1 h2 (by omega)) fun o ⟨h, g⟩ => ⟨by omega, g⟩
  split
  · exact key _ (by omega) (by omega)
  · exact key _ (by omega) (by omega)
open PySem
open TL (tl len_tl ext_tl tl_append tl_join joinL join_eq split_join)
def ui (n : Int) : Up Sc := .sc (.i n)
theorem is_whole_ok (u : Up Sc) : m_is_whole (u, ()) = .ok (unUI u).isSome := by
  cases u with
  | sc x => cases x <;> rfl
  | l x => rfl
  | t x => rfl
theorem unUI_some {u : Up Sc} {n : Int} (h : unUI u = some n) : u = ui n := by
  cases u with
  | sc x =>
    cases x with
    | i m => cases h; rfl
    | b m => cases h
    | s m => cases h
    | non => cases h
  | l x => cases h
  | t x => cases h
theorem allUI_map : ∀ ns : List Int, allUI (ns.map ui) = some ns
  | [] => rfl
  | n :: ns => by
    show (allUI (ns.map ui)).map (n :: ·) = some (n :: ns)
    rw [allUI_map ns]
    rfl
/-- rising from behind last, less than j -/
def good1 (j : Int) : Int → List (Up Sc) → Bool
  | _, [] => true
  | last, u :: l => match unUI u with
    | none => false
    | some n => if n ≤ last ∨ j ≤ n then false else good1 j n l
theorem good1_none {j last : Int} {u : Up Sc} {l : List (Up Sc)} (h : unUI u = none) : good1 j last (u :: l) = false := by
  unfold good1
  rw [h]
theorem good1_some {j last n : Int} {u : Up Sc} {l : List (Up Sc)} (h : unUI u = some n) : good1 j last (u :: l) = if n ≤ last ∨ j ≤ n then false else good1 j n l := by
  show (match unUI u with | none => false | some n => if n ≤ last ∨ j ≤ n then false else good1 j n l) = _
  rw [h]
theorem good1_ints {j : Int} : ∀ {l : List (Up Sc)} {last : Int}, good1 j last l = true → ∃ ns : List Int, l = ns.map ui ∧ ∀ n ∈ ns, last < n ∧ n < j
  | [], _, _ => ⟨[], rfl, (fun n hn => nomatch hn)⟩
  | u :: l, last, h => by
    cases eu : unUI u with
    | none =>
      rw [good1_none eu] at h
      cases h
    | some n =>
      rw [good1_some eu] at h
      by_cases c : n ≤ last ∨ j ≤ n
      · rw [if_pos c] at h
        cases h
      · rw [if_neg c] at h
        obtain ⟨ns, e1, e2⟩ := good1_ints h
        refine ⟨n :: ns, by rw [unUI_some eu, e1]; rfl, fun m hm => ?_⟩
        rcases List.mem_cons.mp hm with q | q
        · rw [q]; omega
        · have := e2 m q; omega
def intsAt (rows : List (Up (Up Sc))) (n : Int) : List Int := match rows[n.toNat]? with
  | some r => (unULI r).getD []
  | none => []
def subs (rows : List (Up (Up Sc))) (ns : List Int) (n : Int) : Bool := (intsAt rows n).all fun m => decide (m ∈ ns)
def plR (rows : List (Up (Up Sc))) (j : Nat) : Up (Up Sc) → Bool
  | .l xs => good1 j (-1) xs && ((allUI xs).getD []).all (subs rows ((allUI xs).getD []))
  | _ => false
def pl (rows : List (Up (Up Sc))) (j : Nat) : Bool := match rows[j]? with
  | some r => plR rows j r
  | none => false
theorem pl_at {rows : List (Up (Up Sc))} {j : Nat} {r : Up (Up Sc)} (h : rows[j]? = some r) : pl rows j = plR rows j r := by
  unfold pl
  rw [h]
theorem pl_ints {rows : List (Up (Up Sc))} {j : Nat} (h : pl rows j = true) : ∃ ns : List Int, rows[j]? = some (.l (ns.map ui)) ∧ intsAt rows (j : Int) = ns ∧ ∀ n ∈ ns, 0 ≤ n ∧ n < (j : Int) := by
  cases e : rows[j]? with
  | none =>
    unfold pl at h
    rw [e] at h
    cases h
  | some r =>
    rw [pl_at e] at h
    cases r with
    | sc x => cases h
    | t x => cases h
    | l xs =>
      obtain ⟨ns, e1, e2⟩ := good1_ints (Bool.and_eq_true_iff.mp h).1
      subst e1
      refine ⟨ns, rfl, ?_, fun n hn => by have := e2 n hn; omega⟩
      unfold intsAt
      rw [Int.toNat_natCast, e]
      show (allUI (ns.map ui)).getD [] = ns
      rw [allUI_map]
      rfl
theorem drop_at {α : Type} {l : List α} {i : Nat} {a : α} (h : l[i]? = some a) : l.drop i = a :: l.drop (i + 1) := by
  obtain ⟨h1, h2⟩ := List.getElem?_eq_some_iff.mp h
  rw [List.drop_eq_getElem_cons h1, h2]
theorem ui_at {ns : List Int} {i : Nat} {u : Up Sc} (h : (ns.map ui)[i]? = some u) : ∃ n, ns[i]? = some n ∧ u = ui n := by
  rw [List.getElem?_map] at h
  obtain ⟨n, e1, e2⟩ := Option.map_eq_some_iff.mp h
  exact ⟨n, e1, e2.symm⟩
theorem is_place_ok {rows : List (Up (Up Sc))} {j : Nat} (hj : j < rows.length) (hb : ∀ k, k < j → pl rows k = true) : m_is_place (rows, (j : Int), ()) = .ok (pl rows j) := by
  obtain ⟨row, er⟩ := at_some (l := rows) (j := j) hj
  rw [pl_at er]
  refine val_eq ?_
  simp only [m_is_place, b_is_place, val_runR]
  refine wp_step (fun r => (r.v_rows = rows ∧ r.v_j = (j : Int)) ∧ r.v_row = row) ?_ fun r ⟨⟨a1, a2⟩, a3⟩ => ?_
  · simp only [val_ok, val_er, val_bind, val_up, val_mute, val_ite, opt_some, opt_none, opt_ite, val_e0, val_eV, val_e1, val_e2, val_e3, val_eIf, val_eAnd, val_eOr, val_lift, val_eNil, val_eCons, val_eLst, val_ePair, val_eEnum, val_eZip, val_eRev, val_oNone, val_oSome, val_eCut, val_aNil, val_aCons, val_eCall, val_eLc, wp_nx, wp_rt, wp_bk, wp_ct, wp_bind, wp_seq, wp_set, wp_if, wp_ret, wp_drop, wp_nil, wp_fbk, wp_fct, wp_mut1, wp_for, val_runR, opt_add, opt_sub, opt_neg, opt_lt, opt_le, opt_gt, opt_ge, opt_eqS, opt_neS, opt_eqD, opt_neD, opt_in, opt_nin, opt_len, opt_lenScr, opt_abs, opt_max2, opt_min2, opt_sum, opt_sort, opt_intB, opt_maxC, opt_minC, val_pV, val_pIx, wp_mutP, wp_putP, wq_nx, wq_rt, wq_bk, wq_ct, wq_bind, wq_seq, wq_set, wq_if, wq_ret, wq_drop, wq_nil, wq_fbk, wq_fct, wq_mut1, wq_for, val_E1, val_E2, val_iNil, val_iBy, val_iIo, val_eCallI, val_tAnd2, val_tOr2, val_tNot2, val_eTpl, wp_stuck, wq_stuck, wp_unp, wq_unp, wp_for2, wq_for2, wp_ins, wq_ins, wp_mut0, wq_mut0, wq_mutP, wq_putP, wp_augP, wq_augP, wp_put2, wq_put2, val_runI, val_runIU, opt_isBB, opt_isnBB, opt_ixTp, opt_sortR, opt_sortP, val_runRU, val_ePop, wp_dput, wq_dput, opt_inD, opt_ninD, opt_lenD, opt_getDo, opt_and, val_eDget, val_eIxO, opt_isNo, opt_isSo, opt_unO, opt_toO, numF_id, wq_forO, wp_forO, val_eCutS, val_eTl, val_eCut2, val_eCallX, wp_raise, opt_cnt, opt_allB, opt_scI, opt_scB, opt_scS, opt_scN, opt_lsY, opt_toI, opt_inQz, opt_inQq, opt_toZ, opt_keysZ, wp_dputQ, wp_dpopQ, wp_dcopy, opt_toHH, opt_lenTp, opt_atH0, opt_atH1, wp_appH, opt_lsA, opt_stA, opt_unA_l, opt_isLA_l, opt_isLA_s, val_chn, val_popP, wq_insP, wp_insP, wq_mutIx, wq_appE, wp_dputS, wq_dputS, val_pDk, val_pFst, opt_inS, opt_ninS, opt_getSo, opt_ltS, opt_gtS, opt_lsYS]
    rw [opt_ixE (Int.natCast_nonneg _) (by rw [Int.toNat_natCast]; exact er)]
    exact ⟨⟨by trivial, by trivial⟩, by trivial⟩
  cases row with
  | sc x =>
    refine wp_step (fun _ => False) ?_ fun r z => z.elim
    simp only [val_ok, val_er, val_bind, val_up, val_mute, val_ite, opt_some, opt_none, opt_ite, val_e0, val_eV, val_e1, val_e2, val_e3, val_eIf, val_eAnd, val_eOr, val_lift, val_eNil, val_eCons, val_eLst, val_ePair, val_eEnum, val_eZip, val_eRev, val_oNone, val_oSome, val_eCut, val_aNil, val_aCons, val_eCall, val_eLc, wp_nx, wp_rt, wp_bk, wp_ct, wp_bind, wp_seq, wp_set, wp_if, wp_ret, wp_drop, wp_nil, wp_fbk, wp_fct, wp_mut1, wp_for, val_runR, opt_add, opt_sub, opt_neg, opt_lt, opt_le, opt_gt, opt_ge, opt_eqS, opt_neS, opt_eqD, opt_neD, opt_in, opt_nin, opt_len, opt_lenScr, opt_abs, opt_max2, opt_min2, opt_sum, opt_sort, opt_intB, opt_maxC, opt_minC, val_pV, val_pIx, wp_mutP, wp_putP, wq_nx, wq_rt, wq_bk, wq_ct, wq_bind, wq_seq, wq_set, wq_if, wq_ret, wq_drop, wq_nil, wq_fbk, wq_fct, wq_mut1, wq_for, val_E1, val_E2, val_iNil, val_iBy, val_iIo, val_eCallI, val_tAnd2, val_tOr2, val_tNot2, val_eTpl, wp_stuck, wq_stuck, wp_unp, wq_unp, wp_for2, wq_for2, wp_ins, wq_ins, wp_mut0, wq_mut0, wq_mutP, wq_putP, wp_augP, wq_augP, wp_put2, wq_put2, val_runI, val_runIU, opt_isBB, opt_isnBB, opt_ixTp, opt_sortR, opt_sortP, val_runRU, val_ePop, wp_dput, wq_dput, opt_inD, opt_ninD, opt_lenD, opt_getDo, opt_and, val_eDget, val_eIxO, opt_isNo, opt_isSo, opt_unO, opt_toO, numF_id, wq_forO, wp_forO, val_eCutS, val_eTl, val_eCut2, val_eCallX, wp_raise, opt_cnt, opt_allB, opt_scI, opt_scB, opt_scS, opt_scN, opt_lsY, opt_toI, opt_inQz, opt_inQq, opt_toZ, opt_keysZ, wp_dputQ, wp_dpopQ, wp_dcopy, opt_toHH, opt_lenTp, opt_atH0, opt_atH1, wp_appH, opt_lsA, opt_stA, opt_unA_l, opt_isLA_l, opt_isLA_s, val_chn, val_popP, wq_insP, wp_insP, wq_mutIx, wq_appE, wp_dputS, wq_dputS, val_pDk, val_pFst, opt_inS, opt_ninS, opt_getSo, opt_ltS, opt_gtS, opt_lsYS, a3]
    rfl
  | t x =>
    refine wp_step (fun _ => False) ?_ fun r z => z.elim
    simp only [val_ok, val_er, val_bind, val_up, val_mute, val_ite, opt_some, opt_none, opt_ite, val_e0, val_eV, val_e1, val_e2, val_e3, val_eIf, val_eAnd, val_eOr, val_lift, val_eNil, val_eCons, val_eLst, val_ePair, val_eEnum, val_eZip, val_eRev, val_oNone, val_oSome, val_eCut, val_aNil, val_aCons, val_eCall, val_eLc, wp_nx, wp_rt, wp_bk, wp_ct, wp_bind, wp_seq, wp_set, wp_if, wp_ret, wp_drop, wp_nil, wp_fbk, wp_fct, wp_mut1, wp_for, val_runR, opt_add, opt_sub, opt_neg, opt_lt, opt_le, opt_gt, opt_ge, opt_eqS, opt_neS, opt_eqD, opt_neD, opt_in, opt_nin, opt_len, opt_lenScr, opt_abs, opt_max2, opt_min2, opt_sum, opt_sort, opt_intB, opt_maxC, opt_minC, val_pV, val_pIx, wp_mutP, wp_putP, wq_nx, wq_rt, wq_bk, wq_ct, wq_bind, wq_seq, wq_set, wq_if, wq_ret, wq_drop, wq_nil, wq_fbk, wq_fct, wq_mut1, wq_for, val_E1, val_E2, val_iNil, val_iBy, val_iIo, val_eCallI, val_tAnd2, val_tOr2, val_tNot2, val_eTpl, wp_stuck, wq_stuck, wp_unp, wq_unp, wp_for2, wq_for2, wp_ins, wq_ins, wp_mut0, wq_mut0, wq_mutP, wq_putP, wp_augP, wq_augP, wp_put2, wq_put2, val_runI, val_runIU, opt_isBB, opt_isnBB, opt_ixTp, opt_sortR, opt_sortP, val_runRU, val_ePop, wp_dput, wq_dput, opt_inD, opt_ninD, opt_lenD, opt_getDo, opt_and, val_eDget, val_eIxO, opt_isNo, opt_isSo, opt_unO, opt_toO, numF_id, wq_forO, wp_forO, val_eCutS, val_eTl, val_eCut2, val_eCallX, wp_raise, opt_cnt, opt_allB, opt_scI, opt_scB, opt_scS, opt_scN, opt_lsY, opt_toI, opt_inQz, opt_inQq, opt_toZ, opt_keysZ, wp_dputQ, wp_dpopQ, wp_dcopy, opt_toHH, opt_lenTp, opt_atH0, opt_atH1, wp_appH, opt_lsA, opt_stA, opt_unA_l, opt_isLA_l, opt_isLA_s, val_chn, val_popP, wq_insP, wp_insP, wq_mutIx, wq_appE, wp_dputS, wq_dputS, val_pDk, val_pFst, opt_inS, opt_ninS, opt_getSo, opt_ltS, opt_gtS, opt_lsYS, a3]
    rfl
  | l xs =>
    have ul : ∀ {α : Type} {x : List α} {Q : List α → Prop}, opt (unUL (Up.l x)) Q = Q x := fun {α x Q} => rfl
    have il : ∀ {Q : Bool → Prop}, opt (isListU (Up.l xs)) Q = Q true := fun {Q} => rfl
    refine wp_step (fun r => (r.v_rows = rows ∧ r.v_j = (j : Int)) ∧ r.v_row = .l xs) ?_ fun r ⟨⟨a1, a2⟩, a3⟩ => ?_
    · simp only [val_ok, val_er, val_bind, val_up, val_mute, val_ite, opt_some, opt_none, opt_ite, val_e0, val_eV, val_e1, val_e2, val_e3, val_eIf, val_eAnd, val_eOr, val_lift, val_eNil, val_eCons, val_eLst, val_ePair, val_eEnum, val_eZip, val_eRev, val_oNone, val_oSome, val_eCut, val_aNil, val_aCons, val_eCall, val_eLc, wp_nx, wp_rt, wp_bk, wp_ct, wp_bind, wp_seq, wp_set, wp_if, wp_ret, wp_drop, wp_nil, wp_fbk, wp_fct, wp_mut1, wp_for, val_runR, opt_add, opt_sub, opt_neg, opt_lt, opt_le, opt_gt, opt_ge, opt_eqS, opt_neS, opt_eqD, opt_neD, opt_in, opt_nin, opt_len, opt_lenScr, opt_abs, opt_max2, opt_min2, opt_sum, opt_sort, opt_intB, opt_maxC, opt_minC, val_pV, val_pIx, wp_mutP, wp_putP, wq_nx, wq_rt, wq_bk, wq_ct, wq_bind, wq_seq, wq_set, wq_if, wq_ret, wq_drop, wq_nil, wq_fbk, wq_fct, wq_mut1, wq_for, val_E1, val_E2, val_iNil, val_iBy, val_iIo, val_eCallI, val_tAnd2, val_tOr2, val_tNot2, val_eTpl, wp_stuck, wq_stuck, wp_unp, wq_unp, wp_for2, wq_for2, wp_ins, wq_ins, wp_mut0, wq_mut0, wq_mutP, wq_putP, wp_augP, wq_augP, wp_put2, wq_put2, val_runI, val_runIU, opt_isBB, opt_isnBB, opt_ixTp, opt_sortR, opt_sortP, val_runRU, val_ePop, wp_dput, wq_dput, opt_inD, opt_ninD, opt_lenD, opt_getDo, opt_and, val_eDget, val_eIxO, opt_isNo, opt_isSo, opt_unO, opt_toO, numF_id, wq_forO, wp_forO, val_eCutS, val_eTl, val_eCut2, val_eCallX, wp_raise, opt_cnt, opt_allB, opt_scI, opt_scB, opt_scS, opt_scN, opt_lsY, opt_toI, opt_inQz, opt_inQq, opt_toZ, opt_keysZ, wp_dputQ, wp_dpopQ, wp_dcopy, opt_toHH, opt_lenTp, opt_atH0, opt_atH1, wp_appH, opt_lsA, opt_stA, opt_unA_l, opt_isLA_l, opt_isLA_s, val_chn, val_popP, wq_insP, wp_insP, wq_mutIx, wq_appE, wp_dputS, wq_dputS, val_pDk, val_pFst, opt_inS, opt_ninS, opt_getSo, opt_ltS, opt_gtS, opt_lsYS, a3, il, Bool.not_true, Bool.false_eq_true, if_false]
      exact ⟨⟨a1, a2⟩, by first | trivial | exact a3⟩
    refine wp_step (fun r => ((r.v_rows = rows ∧ r.v_j = (j : Int)) ∧ r.v_row = .l xs) ∧ r.v_last = -1) ?_ fun r ⟨⟨⟨a1, a2⟩, a3⟩, a4⟩ => ?_
    · simp only [val_ok, val_er, val_bind, val_up, val_mute, val_ite, opt_some, opt_none, opt_ite, val_e0, val_eV, val_e1, val_e2, val_e3, val_eIf, val_eAnd, val_eOr, val_lift, val_eNil, val_eCons, val_eLst, val_ePair, val_eEnum, val_eZip, val_eRev, val_oNone, val_oSome, val_eCut, val_aNil, val_aCons, val_eCall, val_eLc, wp_nx, wp_rt, wp_bk, wp_ct, wp_bind, wp_seq, wp_set, wp_if, wp_ret, wp_drop, wp_nil, wp_fbk, wp_fct, wp_mut1, wp_for, val_runR, opt_add, opt_sub, opt_neg, opt_lt, opt_le, opt_gt, opt_ge, opt_eqS, opt_neS, opt_eqD, opt_neD, opt_in, opt_nin, opt_len, opt_lenScr, opt_abs, opt_max2, opt_min2, opt_sum, opt_sort, opt_intB, opt_maxC, opt_minC, val_pV, val_pIx, wp_mutP, wp_putP, wq_nx, wq_rt, wq_bk, wq_ct, wq_bind, wq_seq, wq_set, wq_if, wq_ret, wq_drop, wq_nil, wq_fbk, wq_fct, wq_mut1, wq_for, val_E1, val_E2, val_iNil, val_iBy, val_iIo, val_eCallI, val_tAnd2, val_tOr2, val_tNot2, val_eTpl, wp_stuck, wq_stuck, wp_unp, wq_unp, wp_for2, wq_for2, wp_ins, wq_ins, wp_mut0, wq_mut0, wq_mutP, wq_putP, wp_augP, wq_augP, wp_put2, wq_put2, val_runI, val_runIU, opt_isBB, opt_isnBB, opt_ixTp, opt_sortR, opt_sortP, val_runRU, val_ePop, wp_dput, wq_dput, opt_inD, opt_ninD, opt_lenD, opt_getDo, opt_and, val_eDget, val_eIxO, opt_isNo, opt_isSo, opt_unO, opt_toO, numF_id, wq_forO, wp_forO, val_eCutS, val_eTl, val_eCut2, val_eCallX, wp_raise, opt_cnt, opt_allB, opt_scI, opt_scB, opt_scS, opt_scN, opt_lsY, opt_toI, opt_inQz, opt_inQq, opt_toZ, opt_keysZ, wp_dputQ, wp_dpopQ, wp_dcopy, opt_toHH, opt_lenTp, opt_atH0, opt_atH1, wp_appH, opt_lsA, opt_stA, opt_unA_l, opt_isLA_l, opt_isLA_s, val_chn, val_popP, wq_insP, wp_insP, wq_mutIx, wq_appE, wp_dputS, wq_dputS, val_pDk, val_pFst, opt_inS, opt_ninS, opt_getSo, opt_ltS, opt_gtS, opt_lsYS]
      exact ⟨⟨⟨a1, a2⟩, a3⟩, by first | trivial | rfl⟩
    refine wp_step (fun r => ((r.v_rows = rows ∧ r.v_j = (j : Int)) ∧ r.v_row = .l xs) ∧ good1 j (-1) xs = true) ?_ fun r ⟨⟨⟨a1, a2⟩, a3⟩, g⟩ => ?_
    · simp only [wp_for, val_e1, val_eV, a3, ul]
      refine wp_loop (fun i r => ((r.v_rows = rows ∧ r.v_j = (j : Int)) ∧ r.v_row = .l xs) ∧ good1 j r.v_last (xs.drop i) = good1 j (-1) xs) ⟨⟨⟨a1, a2⟩, a3⟩, by rw [a4]; rfl⟩ (fun i u r eu ⟨⟨⟨b1, b2⟩, b3⟩, b4⟩ => ?_) (fun r ⟨⟨⟨b1, b2⟩, b3⟩, b4⟩ => ⟨⟨⟨b1, b2⟩, b3⟩, by rw [List.drop_length] at b4; rw [← b4]; rfl⟩)
      rw [drop_at eu] at b4
      have bad : good1 j (-1) xs = false → false = plR rows j (.l xs) := fun z => by
        show false = (good1 j (-1) xs && _)
        rw [z]
        rfl
      simp only [val_ok, val_er, val_bind, val_up, val_mute, val_ite, opt_some, opt_none, opt_ite, val_e0, val_eV, val_e1, val_e2, val_e3, val_eIf, val_eAnd, val_eOr, val_lift, val_eNil, val_eCons, val_eLst, val_ePair, val_eEnum, val_eZip, val_eRev, val_oNone, val_oSome, val_eCut, val_aNil, val_aCons, val_eCall, val_eLc, wp_nx, wp_rt, wp_bk, wp_ct, wp_bind, wp_seq, wp_set, wp_if, wp_ret, wp_drop, wp_nil, wp_fbk, wp_fct, wp_mut1, wp_for, val_runR, opt_add, opt_sub, opt_neg, opt_lt, opt_le, opt_gt, opt_ge, opt_eqS, opt_neS, opt_eqD, opt_neD, opt_in, opt_nin, opt_len, opt_lenScr, opt_abs, opt_max2, opt_min2, opt_sum, opt_sort, opt_intB, opt_maxC, opt_minC, val_pV, val_pIx, wp_mutP, wp_putP, wq_nx, wq_rt, wq_bk, wq_ct, wq_bind, wq_seq, wq_set, wq_if, wq_ret, wq_drop, wq_nil, wq_fbk, wq_fct, wq_mut1, wq_for, val_E1, val_E2, val_iNil, val_iBy, val_iIo, val_eCallI, val_tAnd2, val_tOr2, val_tNot2, val_eTpl, wp_stuck, wq_stuck, wp_unp, wq_unp, wp_for2, wq_for2, wp_ins, wq_ins, wp_mut0, wq_mut0, wq_mutP, wq_putP, wp_augP, wq_augP, wp_put2, wq_put2, val_runI, val_runIU, opt_isBB, opt_isnBB, opt_ixTp, opt_sortR, opt_sortP, val_runRU, val_ePop, wp_dput, wq_dput, opt_inD, opt_ninD, opt_lenD, opt_getDo, opt_and, val_eDget, val_eIxO, opt_isNo, opt_isSo, opt_unO, opt_toO, numF_id, wq_forO, wp_forO, val_eCutS, val_eTl, val_eCut2, val_eCallX, wp_raise, opt_cnt, opt_allB, opt_scI, opt_scB, opt_scS, opt_scN, opt_lsY, opt_toI, opt_inQz, opt_inQq, opt_toZ, opt_keysZ, wp_dputQ, wp_dpopQ, wp_dcopy, opt_toHH, opt_lenTp, opt_atH0, opt_atH1, wp_appH, opt_lsA, opt_stA, opt_unA_l, opt_isLA_l, opt_isLA_s, val_chn, val_popP, wq_insP, wp_insP, wq_mutIx, wq_appE, wp_dputS, wq_dputS, val_pDk, val_pFst, opt_inS, opt_ninS, opt_getSo, opt_ltS, opt_gtS, opt_lsYS, is_whole_ok]
      cases ew : unUI u with
      | none =>
        rw [good1_none ew] at b4
        simp only [Option.isSome_none, Bool.not_false, if_true]
        exact bad b4.symm
      | some n =>
        rw [good1_some ew] at b4
        have un : ∀ {Q : Int → Prop}, opt (some n) Q = Q n := fun {Q} => rfl
        simp only [Option.isSome_some, Bool.not_true, Bool.false_eq_true, if_false, un, opt_le, opt_ge, b2]
        by_cases c1 : n ≤ r.v_last
        · rw [decide_eq_true c1]
          rw [if_pos (.inl c1)] at b4
          simp only [if_true]
          exact bad b4.symm
        · rw [decide_eq_false c1]
          simp only [Bool.false_eq_true, if_false]
          by_cases c2 : (j : Int) ≤ n
          · rw [decide_eq_true c2]
            rw [if_pos (.inr c2)] at b4
            simp only [if_true]
            exact bad b4.symm
          · rw [decide_eq_false c2]
            rw [if_neg (by omega)] at b4
            simp only [Bool.false_eq_true, if_false]
            exact ⟨⟨⟨b1, by first | trivial | exact b2⟩, b3⟩, b4⟩
    obtain ⟨ns, ex, hn⟩ := good1_ints g
    have ea : allUI xs = some ns := by rw [ex, allUI_map]
    have epl : plR rows j (.l xs) = ns.all (subs rows ns) := by
      show (good1 j (-1) xs && ((allUI xs).getD []).all (subs rows ((allUI xs).getD []))) = _
      rw [g, ea]
      rfl
    rw [epl]
    have uli : ∀ {Q : List Int → Prop}, opt (unULI (Up.l xs)) Q = Q ns := fun {Q} => by
      show opt (allUI xs) Q = Q ns
      rw [ea]
      rfl
    refine wp_step (fun _ => ns.all (subs rows ns) = true) ?_ fun r h => by
      simp only [val_ok, val_er, val_bind, val_up, val_mute, val_ite, opt_some, opt_none, opt_ite, val_e0, val_eV, val_e1, val_e2, val_e3, val_eIf, val_eAnd, val_eOr, val_lift, val_eNil, val_eCons, val_eLst, val_ePair, val_eEnum, val_eZip, val_eRev, val_oNone, val_oSome, val_eCut, val_aNil, val_aCons, val_eCall, val_eLc, wp_nx, wp_rt, wp_bk, wp_ct, wp_bind, wp_seq, wp_set, wp_if, wp_ret, wp_drop, wp_nil, wp_fbk, wp_fct, wp_mut1, wp_for, val_runR, opt_add, opt_sub, opt_neg, opt_lt, opt_le, opt_gt, opt_ge, opt_eqS, opt_neS, opt_eqD, opt_neD, opt_in, opt_nin, opt_len, opt_lenScr, opt_abs, opt_max2, opt_min2, opt_sum, opt_sort, opt_intB, opt_maxC, opt_minC, val_pV, val_pIx, wp_mutP, wp_putP, wq_nx, wq_rt, wq_bk, wq_ct, wq_bind, wq_seq, wq_set, wq_if, wq_ret, wq_drop, wq_nil, wq_fbk, wq_fct, wq_mut1, wq_for, val_E1, val_E2, val_iNil, val_iBy, val_iIo, val_eCallI, val_tAnd2, val_tOr2, val_tNot2, val_eTpl, wp_stuck, wq_stuck, wp_unp, wq_unp, wp_for2, wq_for2, wp_ins, wq_ins, wp_mut0, wq_mut0, wq_mutP, wq_putP, wp_augP, wq_augP, wp_put2, wq_put2, val_runI, val_runIU, opt_isBB, opt_isnBB, opt_ixTp, opt_sortR, opt_sortP, val_runRU, val_ePop, wp_dput, wq_dput, opt_inD, opt_ninD, opt_lenD, opt_getDo, opt_and, val_eDget, val_eIxO, opt_isNo, opt_isSo, opt_unO, opt_toO, numF_id, wq_forO, wp_forO, val_eCutS, val_eTl, val_eCut2, val_eCallX, wp_raise, opt_cnt, opt_allB, opt_scI, opt_scB, opt_scS, opt_scN, opt_lsY, opt_toI, opt_inQz, opt_inQq, opt_toZ, opt_keysZ, wp_dputQ, wp_dpopQ, wp_dcopy, opt_toHH, opt_lenTp, opt_atH0, opt_atH1, wp_appH, opt_lsA, opt_stA, opt_unA_l, opt_isLA_l, opt_isLA_s, val_chn, val_popP, wq_insP, wp_insP, wq_mutIx, wq_appE, wp_dputS, wq_dputS, val_pDk, val_pFst, opt_inS, opt_ninS, opt_getSo, opt_ltS, opt_gtS, opt_lsYS]
      exact h.symm
    simp only [wp_for, val_e1, val_eV, a3, ul]
    subst ex
    refine wp_loop (fun i r => ((r.v_rows = rows ∧ r.v_j = (j : Int)) ∧ r.v_row = .l (ns.map ui)) ∧ ∀ k n, k < i → ns[k]? = some n → subs rows ns n = true) ⟨⟨⟨a1, a2⟩, a3⟩, fun k n z => absurd z (Nat.not_lt_zero _)⟩ (fun i u r eu ⟨⟨⟨b1, b2⟩, b3⟩, b4⟩ => ?_) (fun r ⟨_, b4⟩ => List.all_eq_true.mpr fun n hnn => by
      obtain ⟨k, ek⟩ := List.getElem?_of_mem hnn
      exact b4 k n (by rw [List.length_map]; exact at_lt ek) ek)
    obtain ⟨n, en, eu2⟩ := ui_at eu
    subst eu2
    have hnn := hn n (at_mem en)
    obtain ⟨os, eo, ei, _⟩ := pl_ints (hb n.toNat (by omega))
    rw [show ((n.toNat : Nat) : Int) = n by omega] at ei
    have un : ∀ {m : Int} {Q : Int → Prop}, opt (unUI (ui m)) Q = Q m := fun {m Q} => rfl
    simp only [wp_for, val_e1, val_e2, val_eV, b1, un]
    rw [opt_ixE (by omega) eo, ul]
    refine wp_loop (fun i' r => ((r.v_rows = rows ∧ r.v_j = (j : Int)) ∧ r.v_row = .l (ns.map ui)) ∧ ∀ k m, k < i' → os[k]? = some m → m ∈ ns) ⟨⟨⟨by first | trivial | exact b1, by first | trivial | exact b2⟩, by first | trivial | exact b3⟩, fun k n z => absurd z (Nat.not_lt_zero _)⟩ (fun i' u' r' eu' ⟨⟨⟨c1, c2⟩, c3⟩, c4⟩ => ?_) (fun r' ⟨⟨⟨c1, c2⟩, c3⟩, c4⟩ => ⟨⟨⟨c1, c2⟩, c3⟩, fun k n' hk ek => ?_⟩)
    · obtain ⟨m, em, eu3⟩ := ui_at eu'
      subst eu3
      simp only [val_ok, val_er, val_bind, val_up, val_mute, val_ite, opt_some, opt_none, opt_ite, val_e0, val_eV, val_e1, val_e2, val_e3, val_eIf, val_eAnd, val_eOr, val_lift, val_eNil, val_eCons, val_eLst, val_ePair, val_eEnum, val_eZip, val_eRev, val_oNone, val_oSome, val_eCut, val_aNil, val_aCons, val_eCall, val_eLc, wp_nx, wp_rt, wp_bk, wp_ct, wp_bind, wp_seq, wp_set, wp_if, wp_ret, wp_drop, wp_nil, wp_fbk, wp_fct, wp_mut1, wp_for, val_runR, opt_add, opt_sub, opt_neg, opt_lt, opt_le, opt_gt, opt_ge, opt_eqS, opt_neS, opt_eqD, opt_neD, opt_in, opt_nin, opt_len, opt_lenScr, opt_abs, opt_max2, opt_min2, opt_sum, opt_sort, opt_intB, opt_maxC, opt_minC, val_pV, val_pIx, wp_mutP, wp_putP, wq_nx, wq_rt, wq_bk, wq_ct, wq_bind, wq_seq, wq_set, wq_if, wq_ret, wq_drop, wq_nil, wq_fbk, wq_fct, wq_mut1, wq_for, val_E1, val_E2, val_iNil, val_iBy, val_iIo, val_eCallI, val_tAnd2, val_tOr2, val_tNot2, val_eTpl, wp_stuck, wq_stuck, wp_unp, wq_unp, wp_for2, wq_for2, wp_ins, wq_ins, wp_mut0, wq_mut0, wq_mutP, wq_putP, wp_augP, wq_augP, wp_put2, wq_put2, val_runI, val_runIU, opt_isBB, opt_isnBB, opt_ixTp, opt_sortR, opt_sortP, val_runRU, val_ePop, wp_dput, wq_dput, opt_inD, opt_ninD, opt_lenD, opt_getDo, opt_and, val_eDget, val_eIxO, opt_isNo, opt_isSo, opt_unO, opt_toO, numF_id, wq_forO, wp_forO, val_eCutS, val_eTl, val_eCut2, val_eCallX, wp_raise, opt_cnt, opt_allB, opt_scI, opt_scB, opt_scS, opt_scN, opt_lsY, opt_toI, opt_inQz, opt_inQq, opt_toZ, opt_keysZ, wp_dputQ, wp_dpopQ, wp_dcopy, opt_toHH, opt_lenTp, opt_atH0, opt_atH1, wp_appH, opt_lsA, opt_stA, opt_unA_l, opt_isLA_l, opt_isLA_s, val_chn, val_popP, wq_insP, wp_insP, wq_mutIx, wq_appE, wp_dputS, wq_dputS, val_pDk, val_pFst, opt_inS, opt_ninS, opt_getSo, opt_ltS, opt_gtS, opt_lsYS, c3, un, uli]
      by_cases c : m ∈ ns
      · rw [decide_eq_true c]
        simp only [Bool.not_true, Bool.false_eq_true, if_false]
        refine ⟨⟨⟨c1, c2⟩, by first | trivial | exact c3⟩, fun k m' hk ek => ?_⟩
        by_cases d : k = i'
        · subst d
          rw [em] at ek
          cases ek
          exact c
        · exact c4 k m' (by omega) ek
      · rw [decide_eq_false c]
        simp only [Bool.not_false, if_true]
        refine (Bool.eq_false_iff.mpr fun z => c ?_).symm
        have h1 := List.all_eq_true.mp z n (at_mem en)
        unfold subs at h1
        rw [ei] at h1
        exact of_decide_eq_true (List.all_eq_true.mp h1 m (at_mem em))
    · by_cases d : k = i
      · subst d
        rw [en] at ek
        cases ek
        unfold subs
        rw [ei]
        refine List.all_eq_true.mpr fun m hm => decide_eq_true ?_
        obtain ⟨k2, ek2⟩ := List.getElem?_of_mem hm
        exact c4 k2 m (by rw [List.length_map]; exact at_lt ek2) ek2
      · exact b4 k n' (by omega) ek
theorem opt_neCnil {α : Type} [PyTy α] [DatC α] {l : List α} {Q : Bool → Prop} (h : layC l = true) : opt (neC l []) Q = Q (decide (l ≠ [])) := by
  unfold neC
  rw [if_pos (by rw [h]; rfl)]
  cases l with
  | nil => rfl
  | cons a l => rfl
theorem lay_uis (ns : List Int) : layC (ns.map ui) = true := lay_list fun x hx => by
  obtain ⟨n, _, rfl⟩ := List.mem_map.mp hx
  rfl
theorem l_is_row_ok {rows : List (Up (Up Sc))} {j : Nat} (hj : j < rows.length) (hb : ∀ k, k < j → pl rows k = true) : m_l_is_row (rows, (j : Int), ()) = .ok (pl rows j) := by
  obtain ⟨row, er⟩ := at_some (l := rows) (j := j) hj
  rw [pl_at er]
  refine val_eq ?_
  simp only [m_l_is_row, b_l_is_row, val_runR]
  refine wp_step (fun r => (r.v_rows = rows ∧ r.v_place = (j : Int)) ∧ r.v_row_here = row) ?_ fun r ⟨⟨a1, a2⟩, a3⟩ => ?_
  · simp only [val_ok, val_er, val_bind, val_up, val_mute, val_ite, opt_some, opt_none, opt_ite, val_e0, val_eV, val_e1, val_e2, val_e3, val_eIf, val_eAnd, val_eOr, val_lift, val_eNil, val_eCons, val_eLst, val_ePair, val_eEnum, val_eZip, val_eRev, val_oNone, val_oSome, val_eCut, val_aNil, val_aCons, val_eCall, val_eLc, wp_nx, wp_rt, wp_bk, wp_ct, wp_bind, wp_seq, wp_set, wp_if, wp_ret, wp_drop, wp_nil, wp_fbk, wp_fct, wp_mut1, wp_for, val_runR, opt_add, opt_sub, opt_neg, opt_lt, opt_le, opt_gt, opt_ge, opt_eqS, opt_neS, opt_eqD, opt_neD, opt_in, opt_nin, opt_len, opt_lenScr, opt_abs, opt_max2, opt_min2, opt_sum, opt_sort, opt_intB, opt_maxC, opt_minC, val_pV, val_pIx, wp_mutP, wp_putP, wq_nx, wq_rt, wq_bk, wq_ct, wq_bind, wq_seq, wq_set, wq_if, wq_ret, wq_drop, wq_nil, wq_fbk, wq_fct, wq_mut1, wq_for, val_E1, val_E2, val_iNil, val_iBy, val_iIo, val_eCallI, val_tAnd2, val_tOr2, val_tNot2, val_eTpl, wp_stuck, wq_stuck, wp_unp, wq_unp, wp_for2, wq_for2, wp_ins, wq_ins, wp_mut0, wq_mut0, wq_mutP, wq_putP, wp_augP, wq_augP, wp_put2, wq_put2, val_runI, val_runIU, opt_isBB, opt_isnBB, opt_ixTp, opt_sortR, opt_sortP, val_runRU, val_ePop, wp_dput, wq_dput, opt_inD, opt_ninD, opt_lenD, opt_getDo, opt_and, val_eDget, val_eIxO, opt_isNo, opt_isSo, opt_unO, opt_toO, numF_id, wq_forO, wp_forO, val_eCutS, val_eTl, val_eCut2, val_eCallX, wp_raise, opt_cnt, opt_allB, opt_scI, opt_scB, opt_scS, opt_scN, opt_lsY, opt_toI, opt_inQz, opt_inQq, opt_toZ, opt_keysZ, wp_dputQ, wp_dpopQ, wp_dcopy, opt_toHH, opt_lenTp, opt_atH0, opt_atH1, wp_appH, opt_lsA, opt_stA, opt_unA_l, opt_isLA_l, opt_isLA_s, val_chn, val_popP, wq_insP, wp_insP, wq_mutIx, wq_appE, wp_dputS, wq_dputS, val_pDk, val_pFst, opt_inS, opt_ninS, opt_getSo, opt_ltS, opt_gtS, opt_lsYS]
    rw [opt_ixE (Int.natCast_nonneg _) (by rw [Int.toNat_natCast]; exact er)]
    exact ⟨⟨by trivial, by trivial⟩, by trivial⟩
  cases row with
  | sc x =>
    refine wp_step (fun _ => False) ?_ fun r z => z.elim
    simp only [val_ok, val_er, val_bind, val_up, val_mute, val_ite, opt_some, opt_none, opt_ite, val_e0, val_eV, val_e1, val_e2, val_e3, val_eIf, val_eAnd, val_eOr, val_lift, val_eNil, val_eCons, val_eLst, val_ePair, val_eEnum, val_eZip, val_eRev, val_oNone, val_oSome, val_eCut, val_aNil, val_aCons, val_eCall, val_eLc, wp_nx, wp_rt, wp_bk, wp_ct, wp_bind, wp_seq, wp_set, wp_if, wp_ret, wp_drop, wp_nil, wp_fbk, wp_fct, wp_mut1, wp_for, val_runR, opt_add, opt_sub, opt_neg, opt_lt, opt_le, opt_gt, opt_ge, opt_eqS, opt_neS, opt_eqD, opt_neD, opt_in, opt_nin, opt_len, opt_lenScr, opt_abs, opt_max2, opt_min2, opt_sum, opt_sort, opt_intB, opt_maxC, opt_minC, val_pV, val_pIx, wp_mutP, wp_putP, wq_nx, wq_rt, wq_bk, wq_ct, wq_bind, wq_seq, wq_set, wq_if, wq_ret, wq_drop, wq_nil, wq_fbk, wq_fct, wq_mut1, wq_for, val_E1, val_E2, val_iNil, val_iBy, val_iIo, val_eCallI, val_tAnd2, val_tOr2, val_tNot2, val_eTpl, wp_stuck, wq_stuck, wp_unp, wq_unp, wp_for2, wq_for2, wp_ins, wq_ins, wp_mut0, wq_mut0, wq_mutP, wq_putP, wp_augP, wq_augP, wp_put2, wq_put2, val_runI, val_runIU, opt_isBB, opt_isnBB, opt_ixTp, opt_sortR, opt_sortP, val_runRU, val_ePop, wp_dput, wq_dput, opt_inD, opt_ninD, opt_lenD, opt_getDo, opt_and, val_eDget, val_eIxO, opt_isNo, opt_isSo, opt_unO, opt_toO, numF_id, wq_forO, wp_forO, val_eCutS, val_eTl, val_eCut2, val_eCallX, wp_raise, opt_cnt, opt_allB, opt_scI, opt_scB, opt_scS, opt_scN, opt_lsY, opt_toI, opt_inQz, opt_inQq, opt_toZ, opt_keysZ, wp_dputQ, wp_dpopQ, wp_dcopy, opt_toHH, opt_lenTp, opt_atH0, opt_atH1, wp_appH, opt_lsA, opt_stA, opt_unA_l, opt_isLA_l, opt_isLA_s, val_chn, val_popP, wq_insP, wp_insP, wq_mutIx, wq_appE, wp_dputS, wq_dputS, val_pDk, val_pFst, opt_inS, opt_ninS, opt_getSo, opt_ltS, opt_gtS, opt_lsYS, a3]
    rfl
  | t x =>
    refine wp_step (fun _ => False) ?_ fun r z => z.elim
    simp only [val_ok, val_er, val_bind, val_up, val_mute, val_ite, opt_some, opt_none, opt_ite, val_e0, val_eV, val_e1, val_e2, val_e3, val_eIf, val_eAnd, val_eOr, val_lift, val_eNil, val_eCons, val_eLst, val_ePair, val_eEnum, val_eZip, val_eRev, val_oNone, val_oSome, val_eCut, val_aNil, val_aCons, val_eCall, val_eLc, wp_nx, wp_rt, wp_bk, wp_ct, wp_bind, wp_seq, wp_set, wp_if, wp_ret, wp_drop, wp_nil, wp_fbk, wp_fct, wp_mut1, wp_for, val_runR, opt_add, opt_sub, opt_neg, opt_lt, opt_le, opt_gt, opt_ge, opt_eqS, opt_neS, opt_eqD, opt_neD, opt_in, opt_nin, opt_len, opt_lenScr, opt_abs, opt_max2, opt_min2, opt_sum, opt_sort, opt_intB, opt_maxC, opt_minC, val_pV, val_pIx, wp_mutP, wp_putP, wq_nx, wq_rt, wq_bk, wq_ct, wq_bind, wq_seq, wq_set, wq_if, wq_ret, wq_drop, wq_nil, wq_fbk, wq_fct, wq_mut1, wq_for, val_E1, val_E2, val_iNil, val_iBy, val_iIo, val_eCallI, val_tAnd2, val_tOr2, val_tNot2, val_eTpl, wp_stuck, wq_stuck, wp_unp, wq_unp, wp_for2, wq_for2, wp_ins, wq_ins, wp_mut0, wq_mut0, wq_mutP, wq_putP, wp_augP, wq_augP, wp_put2, wq_put2, val_runI, val_runIU, opt_isBB, opt_isnBB, opt_ixTp, opt_sortR, opt_sortP, val_runRU, val_ePop, wp_dput, wq_dput, opt_inD, opt_ninD, opt_lenD, opt_getDo, opt_and, val_eDget, val_eIxO, opt_isNo, opt_isSo, opt_unO, opt_toO, numF_id, wq_forO, wp_forO, val_eCutS, val_eTl, val_eCut2, val_eCallX, wp_raise, opt_cnt, opt_allB, opt_scI, opt_scB, opt_scS, opt_scN, opt_lsY, opt_toI, opt_inQz, opt_inQq, opt_toZ, opt_keysZ, wp_dputQ, wp_dpopQ, wp_dcopy, opt_toHH, opt_lenTp, opt_atH0, opt_atH1, wp_appH, opt_lsA, opt_stA, opt_unA_l, opt_isLA_l, opt_isLA_s, val_chn, val_popP, wq_insP, wp_insP, wq_mutIx, wq_appE, wp_dputS, wq_dputS, val_pDk, val_pFst, opt_inS, opt_ninS, opt_getSo, opt_ltS, opt_gtS, opt_lsYS, a3]
    rfl
  | l xs =>
    have ul : ∀ {α : Type} {x : List α} {Q : List α → Prop}, opt (unUL (Up.l x)) Q = Q x := fun {α x Q} => rfl
    have il : ∀ {Q : Bool → Prop}, opt (isListU (Up.l xs)) Q = Q true := fun {Q} => rfl
    have un : ∀ {m : Int} {Q : Int → Prop}, opt (unUI (ui m)) Q = Q m := fun {m Q} => rfl
    have osm : ∀ {α : Type} {a : α} {Q : α → Prop}, opt (some a) Q = Q a := fun {α a Q} => rfl
    refine wp_step (fun r => (r.v_rows = rows ∧ r.v_place = (j : Int)) ∧ r.v_row_here = .l xs) ?_ fun r ⟨⟨a1, a2⟩, a3⟩ => ?_
    · simp only [val_ok, val_er, val_bind, val_up, val_mute, val_ite, opt_some, opt_none, opt_ite, val_e0, val_eV, val_e1, val_e2, val_e3, val_eIf, val_eAnd, val_eOr, val_lift, val_eNil, val_eCons, val_eLst, val_ePair, val_eEnum, val_eZip, val_eRev, val_oNone, val_oSome, val_eCut, val_aNil, val_aCons, val_eCall, val_eLc, wp_nx, wp_rt, wp_bk, wp_ct, wp_bind, wp_seq, wp_set, wp_if, wp_ret, wp_drop, wp_nil, wp_fbk, wp_fct, wp_mut1, wp_for, val_runR, opt_add, opt_sub, opt_neg, opt_lt, opt_le, opt_gt, opt_ge, opt_eqS, opt_neS, opt_eqD, opt_neD, opt_in, opt_nin, opt_len, opt_lenScr, opt_abs, opt_max2, opt_min2, opt_sum, opt_sort, opt_intB, opt_maxC, opt_minC, val_pV, val_pIx, wp_mutP, wp_putP, wq_nx, wq_rt, wq_bk, wq_ct, wq_bind, wq_seq, wq_set, wq_if, wq_ret, wq_drop, wq_nil, wq_fbk, wq_fct, wq_mut1, wq_for, val_E1, val_E2, val_iNil, val_iBy, val_iIo, val_eCallI, val_tAnd2, val_tOr2, val_tNot2, val_eTpl, wp_stuck, wq_stuck, wp_unp, wq_unp, wp_for2, wq_for2, wp_ins, wq_ins, wp_mut0, wq_mut0, wq_mutP, wq_putP, wp_augP, wq_augP, wp_put2, wq_put2, val_runI, val_runIU, opt_isBB, opt_isnBB, opt_ixTp, opt_sortR, opt_sortP, val_runRU, val_ePop, wp_dput, wq_dput, opt_inD, opt_ninD, opt_lenD, opt_getDo, opt_and, val_eDget, val_eIxO, opt_isNo, opt_isSo, opt_unO, opt_toO, numF_id, wq_forO, wp_forO, val_eCutS, val_eTl, val_eCut2, val_eCallX, wp_raise, opt_cnt, opt_allB, opt_scI, opt_scB, opt_scS, opt_scN, opt_lsY, opt_toI, opt_inQz, opt_inQq, opt_toZ, opt_keysZ, wp_dputQ, wp_dpopQ, wp_dcopy, opt_toHH, opt_lenTp, opt_atH0, opt_atH1, wp_appH, opt_lsA, opt_stA, opt_unA_l, opt_isLA_l, opt_isLA_s, val_chn, val_popP, wq_insP, wp_insP, wq_mutIx, wq_appE, wp_dputS, wq_dputS, val_pDk, val_pFst, opt_inS, opt_ninS, opt_getSo, opt_ltS, opt_gtS, opt_lsYS, a3, il, Bool.not_true, Bool.false_eq_true, if_false]
      exact ⟨⟨a1, a2⟩, by first | trivial | exact a3⟩
    have bad : good1 j (-1) xs = false → false = plR rows j (.l xs) := fun z => by
      show false = (good1 j (-1) xs && _)
      rw [z]
      rfl
    refine wp_step (fun r => ((r.v_rows = rows ∧ r.v_place = (j : Int)) ∧ r.v_row_here = .l xs) ∧ good1 j (-1) xs = true) ?_ fun r ⟨⟨⟨a1, a2⟩, a3⟩, g⟩ => ?_
    · simp only [wp_for, val_eEnum, val_e1, val_eV, a3, ul]
      refine wp_loop (fun i r => ((r.v_rows = rows ∧ r.v_place = (j : Int)) ∧ r.v_row_here = .l xs) ∧ ∃ last : Int, good1 j last (xs.drop i) = good1 j (-1) xs ∧ (i = 0 → last = -1) ∧ (0 < i → 0 ≤ last ∧ xs[i - 1]? = some (ui last))) ⟨⟨⟨a1, a2⟩, a3⟩, -1, rfl, fun _ => rfl, fun z => absurd z (Nat.lt_irrefl _)⟩ (fun i p r ep ⟨⟨⟨b1, b2⟩, b3⟩, last, b4, b5, b6⟩ => ?_) (fun r ⟨⟨⟨b1, b2⟩, b3⟩, last, b4, _⟩ => ⟨⟨⟨b1, b2⟩, b3⟩, by rw [enumF_len, List.drop_length] at b4; rw [← b4]; rfl⟩)
      rw [enumF_get] at ep
      obtain ⟨u, eu, rfl⟩ := Option.map_eq_some_iff.mp ep
      rw [drop_at eu] at b4
      simp only [wp_seq, wp_if, val_lift, val_eOr, val_e1, val_e2, val_eV, val_e0, opt_lt, opt_ge, b2]
      cases ew : unUI u with
      | none =>
        rw [good1_none ew] at b4
        have hint : isIntU u = some false ∨ (isIntU u = some true ∧ isBoolU u = some true) := by
          cases u with
          | sc x =>
            cases x with
            | i n => cases ew
            | b n => exact .inr ⟨rfl, rfl⟩
            | s n => exact .inl rfl
            | non => exact .inl rfl
          | l x => exact .inl rfl
          | t x => exact .inl rfl
        rcases hint with h | ⟨h, h2⟩
        · simp only [h, osm, Bool.not_false, if_true]
          simp only [val_ok, val_er, val_bind, val_up, val_mute, val_ite, opt_some, opt_none, opt_ite, val_e0, val_eV, val_e1, val_e2, val_e3, val_eIf, val_eAnd, val_eOr, val_lift, val_eNil, val_eCons, val_eLst, val_ePair, val_eEnum, val_eZip, val_eRev, val_oNone, val_oSome, val_eCut, val_aNil, val_aCons, val_eCall, val_eLc, wp_nx, wp_rt, wp_bk, wp_ct, wp_bind, wp_seq, wp_set, wp_if, wp_ret, wp_drop, wp_nil, wp_fbk, wp_fct, wp_mut1, wp_for, val_runR, opt_add, opt_sub, opt_neg, opt_lt, opt_le, opt_gt, opt_ge, opt_eqS, opt_neS, opt_eqD, opt_neD, opt_in, opt_nin, opt_len, opt_lenScr, opt_abs, opt_max2, opt_min2, opt_sum, opt_sort, opt_intB, opt_maxC, opt_minC, val_pV, val_pIx, wp_mutP, wp_putP, wq_nx, wq_rt, wq_bk, wq_ct, wq_bind, wq_seq, wq_set, wq_if, wq_ret, wq_drop, wq_nil, wq_fbk, wq_fct, wq_mut1, wq_for, val_E1, val_E2, val_iNil, val_iBy, val_iIo, val_eCallI, val_tAnd2, val_tOr2, val_tNot2, val_eTpl, wp_stuck, wq_stuck, wp_unp, wq_unp, wp_for2, wq_for2, wp_ins, wq_ins, wp_mut0, wq_mut0, wq_mutP, wq_putP, wp_augP, wq_augP, wp_put2, wq_put2, val_runI, val_runIU, opt_isBB, opt_isnBB, opt_ixTp, opt_sortR, opt_sortP, val_runRU, val_ePop, wp_dput, wq_dput, opt_inD, opt_ninD, opt_lenD, opt_getDo, opt_and, val_eDget, val_eIxO, opt_isNo, opt_isSo, opt_unO, opt_toO, numF_id, wq_forO, wp_forO, val_eCutS, val_eTl, val_eCut2, val_eCallX, wp_raise, opt_cnt, opt_allB, opt_scI, opt_scB, opt_scS, opt_scN, opt_lsY, opt_toI, opt_inQz, opt_inQq, opt_toZ, opt_keysZ, wp_dputQ, wp_dpopQ, wp_dcopy, opt_toHH, opt_lenTp, opt_atH0, opt_atH1, wp_appH, opt_lsA, opt_stA, opt_unA_l, opt_isLA_l, opt_isLA_s, val_chn, val_popP, wq_insP, wp_insP, wq_mutIx, wq_appE, wp_dputS, wq_dputS, val_pDk, val_pFst, opt_inS, opt_ninS, opt_getSo, opt_ltS, opt_gtS, opt_lsYS]
          exact bad b4.symm
        · simp only [h, h2, osm, Bool.not_true, Bool.false_eq_true, if_false, if_true]
          simp only [val_ok, val_er, val_bind, val_up, val_mute, val_ite, opt_some, opt_none, opt_ite, val_e0, val_eV, val_e1, val_e2, val_e3, val_eIf, val_eAnd, val_eOr, val_lift, val_eNil, val_eCons, val_eLst, val_ePair, val_eEnum, val_eZip, val_eRev, val_oNone, val_oSome, val_eCut, val_aNil, val_aCons, val_eCall, val_eLc, wp_nx, wp_rt, wp_bk, wp_ct, wp_bind, wp_seq, wp_set, wp_if, wp_ret, wp_drop, wp_nil, wp_fbk, wp_fct, wp_mut1, wp_for, val_runR, opt_add, opt_sub, opt_neg, opt_lt, opt_le, opt_gt, opt_ge, opt_eqS, opt_neS, opt_eqD, opt_neD, opt_in, opt_nin, opt_len, opt_lenScr, opt_abs, opt_max2, opt_min2, opt_sum, opt_sort, opt_intB, opt_maxC, opt_minC, val_pV, val_pIx, wp_mutP, wp_putP, wq_nx, wq_rt, wq_bk, wq_ct, wq_bind, wq_seq, wq_set, wq_if, wq_ret, wq_drop, wq_nil, wq_fbk, wq_fct, wq_mut1, wq_for, val_E1, val_E2, val_iNil, val_iBy, val_iIo, val_eCallI, val_tAnd2, val_tOr2, val_tNot2, val_eTpl, wp_stuck, wq_stuck, wp_unp, wq_unp, wp_for2, wq_for2, wp_ins, wq_ins, wp_mut0, wq_mut0, wq_mutP, wq_putP, wp_augP, wq_augP, wp_put2, wq_put2, val_runI, val_runIU, opt_isBB, opt_isnBB, opt_ixTp, opt_sortR, opt_sortP, val_runRU, val_ePop, wp_dput, wq_dput, opt_inD, opt_ninD, opt_lenD, opt_getDo, opt_and, val_eDget, val_eIxO, opt_isNo, opt_isSo, opt_unO, opt_toO, numF_id, wq_forO, wp_forO, val_eCutS, val_eTl, val_eCut2, val_eCallX, wp_raise, opt_cnt, opt_allB, opt_scI, opt_scB, opt_scS, opt_scN, opt_lsY, opt_toI, opt_inQz, opt_inQq, opt_toZ, opt_keysZ, wp_dputQ, wp_dpopQ, wp_dcopy, opt_toHH, opt_lenTp, opt_atH0, opt_atH1, wp_appH, opt_lsA, opt_stA, opt_unA_l, opt_isLA_l, opt_isLA_s, val_chn, val_popP, wq_insP, wp_insP, wq_mutIx, wq_appE, wp_dputS, wq_dputS, val_pDk, val_pFst, opt_inS, opt_ninS, opt_getSo, opt_ltS, opt_gtS, opt_lsYS]
          exact bad b4.symm
      | some n =>
        rw [good1_some ew] at b4
        have eu2 := unUI_some ew
        subst eu2
        have i1 : ∀ {Q : Bool → Prop}, opt (isIntU (ui n)) Q = Q true := fun {Q} => rfl
        have i2 : ∀ {Q : Bool → Prop}, opt (isBoolU (ui n)) Q = Q false := fun {Q} => rfl
        simp only [i1, i2, un, osm, Bool.not_true, Bool.false_eq_true, if_false, val_eAnd, val_e2, val_e1, val_eV, val_e0, opt_gt, opt_ge, opt_len]
        have fin : good1 j (-1) xs = false → wp (fRet (lift (e0 false)) { r with v_k := 0 + (i : Int), v_low := ui n }) (fun r => ((r.v_rows = rows ∧ r.v_place = (j : Int)) ∧ r.v_row_here = .l xs) ∧ ∃ last : Int, good1 j last (xs.drop (i + 1)) = good1 j (-1) xs ∧ (i + 1 = 0 → last = -1) ∧ (0 < i + 1 → 0 ≤ last ∧ xs[i + 1 - 1]? = some (ui last))) (· = plR rows j (.l xs)) (fun _ => False) (fun _ => False) := fun z => by
          simp only [val_ok, val_er, val_bind, val_up, val_mute, val_ite, opt_some, opt_none, opt_ite, val_e0, val_eV, val_e1, val_e2, val_e3, val_eIf, val_eAnd, val_eOr, val_lift, val_eNil, val_eCons, val_eLst, val_ePair, val_eEnum, val_eZip, val_eRev, val_oNone, val_oSome, val_eCut, val_aNil, val_aCons, val_eCall, val_eLc, wp_nx, wp_rt, wp_bk, wp_ct, wp_bind, wp_seq, wp_set, wp_if, wp_ret, wp_drop, wp_nil, wp_fbk, wp_fct, wp_mut1, wp_for, val_runR, opt_add, opt_sub, opt_neg, opt_lt, opt_le, opt_gt, opt_ge, opt_eqS, opt_neS, opt_eqD, opt_neD, opt_in, opt_nin, opt_len, opt_lenScr, opt_abs, opt_max2, opt_min2, opt_sum, opt_sort, opt_intB, opt_maxC, opt_minC, val_pV, val_pIx, wp_mutP, wp_putP, wq_nx, wq_rt, wq_bk, wq_ct, wq_bind, wq_seq, wq_set, wq_if, wq_ret, wq_drop, wq_nil, wq_fbk, wq_fct, wq_mut1, wq_for, val_E1, val_E2, val_iNil, val_iBy, val_iIo, val_eCallI, val_tAnd2, val_tOr2, val_tNot2, val_eTpl, wp_stuck, wq_stuck, wp_unp, wq_unp, wp_for2, wq_for2, wp_ins, wq_ins, wp_mut0, wq_mut0, wq_mutP, wq_putP, wp_augP, wq_augP, wp_put2, wq_put2, val_runI, val_runIU, opt_isBB, opt_isnBB, opt_ixTp, opt_sortR, opt_sortP, val_runRU, val_ePop, wp_dput, wq_dput, opt_inD, opt_ninD, opt_lenD, opt_getDo, opt_and, val_eDget, val_eIxO, opt_isNo, opt_isSo, opt_unO, opt_toO, numF_id, wq_forO, wp_forO, val_eCutS, val_eTl, val_eCut2, val_eCallX, wp_raise, opt_cnt, opt_allB, opt_scI, opt_scB, opt_scS, opt_scN, opt_lsY, opt_toI, opt_inQz, opt_inQq, opt_toZ, opt_keysZ, wp_dputQ, wp_dpopQ, wp_dcopy, opt_toHH, opt_lenTp, opt_atH0, opt_atH1, wp_appH, opt_lsA, opt_stA, opt_unA_l, opt_isLA_l, opt_isLA_s, val_chn, val_popP, wq_insP, wp_insP, wq_mutIx, wq_appE, wp_dputS, wq_dputS, val_pDk, val_pFst, opt_inS, opt_ninS, opt_getSo, opt_ltS, opt_gtS, opt_lsYS]
          exact bad z
        by_cases c0 : n < 0
        · rw [decide_eq_true c0]
          have z : n ≤ last := by
            by_cases q : i = 0
            · have := b5 q; omega
            · have := (b6 (by omega)).1; omega
          rw [if_pos (.inl z)] at b4
          simp only [if_true]
          simp only [val_ok, val_er, val_bind, val_up, val_mute, val_ite, opt_some, opt_none, opt_ite, val_e0, val_eV, val_e1, val_e2, val_e3, val_eIf, val_eAnd, val_eOr, val_lift, val_eNil, val_eCons, val_eLst, val_ePair, val_eEnum, val_eZip, val_eRev, val_oNone, val_oSome, val_eCut, val_aNil, val_aCons, val_eCall, val_eLc, wp_nx, wp_rt, wp_bk, wp_ct, wp_bind, wp_seq, wp_set, wp_if, wp_ret, wp_drop, wp_nil, wp_fbk, wp_fct, wp_mut1, wp_for, val_runR, opt_add, opt_sub, opt_neg, opt_lt, opt_le, opt_gt, opt_ge, opt_eqS, opt_neS, opt_eqD, opt_neD, opt_in, opt_nin, opt_len, opt_lenScr, opt_abs, opt_max2, opt_min2, opt_sum, opt_sort, opt_intB, opt_maxC, opt_minC, val_pV, val_pIx, wp_mutP, wp_putP, wq_nx, wq_rt, wq_bk, wq_ct, wq_bind, wq_seq, wq_set, wq_if, wq_ret, wq_drop, wq_nil, wq_fbk, wq_fct, wq_mut1, wq_for, val_E1, val_E2, val_iNil, val_iBy, val_iIo, val_eCallI, val_tAnd2, val_tOr2, val_tNot2, val_eTpl, wp_stuck, wq_stuck, wp_unp, wq_unp, wp_for2, wq_for2, wp_ins, wq_ins, wp_mut0, wq_mut0, wq_mutP, wq_putP, wp_augP, wq_augP, wp_put2, wq_put2, val_runI, val_runIU, opt_isBB, opt_isnBB, opt_ixTp, opt_sortR, opt_sortP, val_runRU, val_ePop, wp_dput, wq_dput, opt_inD, opt_ninD, opt_lenD, opt_getDo, opt_and, val_eDget, val_eIxO, opt_isNo, opt_isSo, opt_unO, opt_toO, numF_id, wq_forO, wp_forO, val_eCutS, val_eTl, val_eCut2, val_eCallX, wp_raise, opt_cnt, opt_allB, opt_scI, opt_scB, opt_scS, opt_scN, opt_lsY, opt_toI, opt_inQz, opt_inQq, opt_toZ, opt_keysZ, wp_dputQ, wp_dpopQ, wp_dcopy, opt_toHH, opt_lenTp, opt_atH0, opt_atH1, wp_appH, opt_lsA, opt_stA, opt_unA_l, opt_isLA_l, opt_isLA_s, val_chn, val_popP, wq_insP, wp_insP, wq_mutIx, wq_appE, wp_dputS, wq_dputS, val_pDk, val_pFst, opt_inS, opt_ninS, opt_getSo, opt_ltS, opt_gtS, opt_lsYS]
          exact bad b4.symm
        · rw [decide_eq_false c0]
          simp only [Bool.false_eq_true, if_false]
          by_cases c2 : (j : Int) ≤ n
          · rw [decide_eq_true c2]
            rw [if_pos (.inr c2)] at b4
            simp only [if_true]
            simp only [val_ok, val_er, val_bind, val_up, val_mute, val_ite, opt_some, opt_none, opt_ite, val_e0, val_eV, val_e1, val_e2, val_e3, val_eIf, val_eAnd, val_eOr, val_lift, val_eNil, val_eCons, val_eLst, val_ePair, val_eEnum, val_eZip, val_eRev, val_oNone, val_oSome, val_eCut, val_aNil, val_aCons, val_eCall, val_eLc, wp_nx, wp_rt, wp_bk, wp_ct, wp_bind, wp_seq, wp_set, wp_if, wp_ret, wp_drop, wp_nil, wp_fbk, wp_fct, wp_mut1, wp_for, val_runR, opt_add, opt_sub, opt_neg, opt_lt, opt_le, opt_gt, opt_ge, opt_eqS, opt_neS, opt_eqD, opt_neD, opt_in, opt_nin, opt_len, opt_lenScr, opt_abs, opt_max2, opt_min2, opt_sum, opt_sort, opt_intB, opt_maxC, opt_minC, val_pV, val_pIx, wp_mutP, wp_putP, wq_nx, wq_rt, wq_bk, wq_ct, wq_bind, wq_seq, wq_set, wq_if, wq_ret, wq_drop, wq_nil, wq_fbk, wq_fct, wq_mut1, wq_for, val_E1, val_E2, val_iNil, val_iBy, val_iIo, val_eCallI, val_tAnd2, val_tOr2, val_tNot2, val_eTpl, wp_stuck, wq_stuck, wp_unp, wq_unp, wp_for2, wq_for2, wp_ins, wq_ins, wp_mut0, wq_mut0, wq_mutP, wq_putP, wp_augP, wq_augP, wp_put2, wq_put2, val_runI, val_runIU, opt_isBB, opt_isnBB, opt_ixTp, opt_sortR, opt_sortP, val_runRU, val_ePop, wp_dput, wq_dput, opt_inD, opt_ninD, opt_lenD, opt_getDo, opt_and, val_eDget, val_eIxO, opt_isNo, opt_isSo, opt_unO, opt_toO, numF_id, wq_forO, wp_forO, val_eCutS, val_eTl, val_eCut2, val_eCallX, wp_raise, opt_cnt, opt_allB, opt_scI, opt_scB, opt_scS, opt_scN, opt_lsY, opt_toI, opt_inQz, opt_inQq, opt_toZ, opt_keysZ, wp_dputQ, wp_dpopQ, wp_dcopy, opt_toHH, opt_lenTp, opt_atH0, opt_atH1, wp_appH, opt_lsA, opt_stA, opt_unA_l, opt_isLA_l, opt_isLA_s, val_chn, val_popP, wq_insP, wp_insP, wq_mutIx, wq_appE, wp_dputS, wq_dputS, val_pDk, val_pFst, opt_inS, opt_ninS, opt_getSo, opt_ltS, opt_gtS, opt_lsYS]
            exact bad b4.symm
          · rw [decide_eq_false c2]
            simp only [Bool.false_eq_true, if_false, wp_nil, wp_if, val_lift, val_eAnd, val_e2, val_e1, val_eV, val_e0, opt_gt]
            by_cases q : i = 0
            · have e0 : ¬ (0 : Int) < 0 + (i : Int) := by omega
              rw [decide_eq_false e0]
              simp only [Bool.false_eq_true, if_false, wp_nil]
              have hl := b5 q
              rw [if_neg (by omega)] at b4
              exact ⟨⟨⟨b1, by first | trivial | exact b2⟩, by first | trivial | exact b3⟩, n, b4, fun z => absurd z (Nat.succ_ne_zero _), fun _ => ⟨by omega, eu⟩⟩
            · have e0 : (0 : Int) < 0 + (i : Int) := by omega
              obtain ⟨l1, l2⟩ := b6 (by omega)
              rw [decide_eq_true e0]
              simp only [if_true, b3, ul, opt_sub, opt_ge]
              rw [opt_ixE (by omega) (by rw [show (0 + (i : Int) - 1).toNat = i - 1 by omega]; exact l2)]
              simp only [un]
              by_cases c1 : n ≤ last
              · rw [decide_eq_true c1]
                rw [if_pos (.inl c1)] at b4
                simp only [if_true]
                simp only [val_ok, val_er, val_bind, val_up, val_mute, val_ite, opt_some, opt_none, opt_ite, val_e0, val_eV, val_e1, val_e2, val_e3, val_eIf, val_eAnd, val_eOr, val_lift, val_eNil, val_eCons, val_eLst, val_ePair, val_eEnum, val_eZip, val_eRev, val_oNone, val_oSome, val_eCut, val_aNil, val_aCons, val_eCall, val_eLc, wp_nx, wp_rt, wp_bk, wp_ct, wp_bind, wp_seq, wp_set, wp_if, wp_ret, wp_drop, wp_nil, wp_fbk, wp_fct, wp_mut1, wp_for, val_runR, opt_add, opt_sub, opt_neg, opt_lt, opt_le, opt_gt, opt_ge, opt_eqS, opt_neS, opt_eqD, opt_neD, opt_in, opt_nin, opt_len, opt_lenScr, opt_abs, opt_max2, opt_min2, opt_sum, opt_sort, opt_intB, opt_maxC, opt_minC, val_pV, val_pIx, wp_mutP, wp_putP, wq_nx, wq_rt, wq_bk, wq_ct, wq_bind, wq_seq, wq_set, wq_if, wq_ret, wq_drop, wq_nil, wq_fbk, wq_fct, wq_mut1, wq_for, val_E1, val_E2, val_iNil, val_iBy, val_iIo, val_eCallI, val_tAnd2, val_tOr2, val_tNot2, val_eTpl, wp_stuck, wq_stuck, wp_unp, wq_unp, wp_for2, wq_for2, wp_ins, wq_ins, wp_mut0, wq_mut0, wq_mutP, wq_putP, wp_augP, wq_augP, wp_put2, wq_put2, val_runI, val_runIU, opt_isBB, opt_isnBB, opt_ixTp, opt_sortR, opt_sortP, val_runRU, val_ePop, wp_dput, wq_dput, opt_inD, opt_ninD, opt_lenD, opt_getDo, opt_and, val_eDget, val_eIxO, opt_isNo, opt_isSo, opt_unO, opt_toO, numF_id, wq_forO, wp_forO, val_eCutS, val_eTl, val_eCut2, val_eCallX, wp_raise, opt_cnt, opt_allB, opt_scI, opt_scB, opt_scS, opt_scN, opt_lsY, opt_toI, opt_inQz, opt_inQq, opt_toZ, opt_keysZ, wp_dputQ, wp_dpopQ, wp_dcopy, opt_toHH, opt_lenTp, opt_atH0, opt_atH1, wp_appH, opt_lsA, opt_stA, opt_unA_l, opt_isLA_l, opt_isLA_s, val_chn, val_popP, wq_insP, wp_insP, wq_mutIx, wq_appE, wp_dputS, wq_dputS, val_pDk, val_pFst, opt_inS, opt_ninS, opt_getSo, opt_ltS, opt_gtS, opt_lsYS]
                exact bad b4.symm
              · rw [decide_eq_false c1]
                rw [if_neg (by omega)] at b4
                simp only [Bool.false_eq_true, if_false, wp_nil]
                exact ⟨⟨⟨b1, by first | trivial | exact b2⟩, by first | trivial | exact b3⟩, n, b4, fun z => absurd z (Nat.succ_ne_zero _), fun _ => ⟨by omega, eu⟩⟩
    obtain ⟨ns, ex, hn⟩ := good1_ints g
    have ea : allUI xs = some ns := by rw [ex, allUI_map]
    have epl : plR rows j (.l xs) = ns.all (subs rows ns) := by
      show (good1 j (-1) xs && ((allUI xs).getD []).all (subs rows ((allUI xs).getD []))) = _
      rw [g, ea]
      rfl
    rw [epl]
    have uli : ∀ {Q : List Int → Prop}, opt (unULI (Up.l xs)) Q = Q ns := fun {Q} => by
      show opt (allUI xs) Q = Q ns
      rw [ea]
      rfl
    refine wp_step (fun _ => ns.all (subs rows ns) = true) ?_ fun r h => by
      simp only [val_ok, val_er, val_bind, val_up, val_mute, val_ite, opt_some, opt_none, opt_ite, val_e0, val_eV, val_e1, val_e2, val_e3, val_eIf, val_eAnd, val_eOr, val_lift, val_eNil, val_eCons, val_eLst, val_ePair, val_eEnum, val_eZip, val_eRev, val_oNone, val_oSome, val_eCut, val_aNil, val_aCons, val_eCall, val_eLc, wp_nx, wp_rt, wp_bk, wp_ct, wp_bind, wp_seq, wp_set, wp_if, wp_ret, wp_drop, wp_nil, wp_fbk, wp_fct, wp_mut1, wp_for, val_runR, opt_add, opt_sub, opt_neg, opt_lt, opt_le, opt_gt, opt_ge, opt_eqS, opt_neS, opt_eqD, opt_neD, opt_in, opt_nin, opt_len, opt_lenScr, opt_abs, opt_max2, opt_min2, opt_sum, opt_sort, opt_intB, opt_maxC, opt_minC, val_pV, val_pIx, wp_mutP, wp_putP, wq_nx, wq_rt, wq_bk, wq_ct, wq_bind, wq_seq, wq_set, wq_if, wq_ret, wq_drop, wq_nil, wq_fbk, wq_fct, wq_mut1, wq_for, val_E1, val_E2, val_iNil, val_iBy, val_iIo, val_eCallI, val_tAnd2, val_tOr2, val_tNot2, val_eTpl, wp_stuck, wq_stuck, wp_unp, wq_unp, wp_for2, wq_for2, wp_ins, wq_ins, wp_mut0, wq_mut0, wq_mutP, wq_putP, wp_augP, wq_augP, wp_put2, wq_put2, val_runI, val_runIU, opt_isBB, opt_isnBB, opt_ixTp, opt_sortR, opt_sortP, val_runRU, val_ePop, wp_dput, wq_dput, opt_inD, opt_ninD, opt_lenD, opt_getDo, opt_and, val_eDget, val_eIxO, opt_isNo, opt_isSo, opt_unO, opt_toO, numF_id, wq_forO, wp_forO, val_eCutS, val_eTl, val_eCut2, val_eCallX, wp_raise, opt_cnt, opt_allB, opt_scI, opt_scB, opt_scS, opt_scN, opt_lsY, opt_toI, opt_inQz, opt_inQq, opt_toZ, opt_keysZ, wp_dputQ, wp_dpopQ, wp_dcopy, opt_toHH, opt_lenTp, opt_atH0, opt_atH1, wp_appH, opt_lsA, opt_stA, opt_unA_l, opt_isLA_l, opt_isLA_s, val_chn, val_popP, wq_insP, wp_insP, wq_mutIx, wq_appE, wp_dputS, wq_dputS, val_pDk, val_pFst, opt_inS, opt_ninS, opt_getSo, opt_ltS, opt_gtS, opt_lsYS]
      exact h.symm
    simp only [wp_for, val_e1, val_eV, a3, ul]
    subst ex
    refine wp_loop (fun i r => ((r.v_rows = rows ∧ r.v_place = (j : Int)) ∧ r.v_row_here = .l (ns.map ui)) ∧ ∀ k n, k < i → ns[k]? = some n → subs rows ns n = true) ⟨⟨⟨a1, a2⟩, a3⟩, fun k n z => absurd z (Nat.not_lt_zero _)⟩ (fun i u r eu ⟨⟨⟨b1, b2⟩, b3⟩, b4⟩ => ?_) (fun r ⟨_, b4⟩ => List.all_eq_true.mpr fun n hnn => by
      obtain ⟨k, ek⟩ := List.getElem?_of_mem hnn
      exact b4 k n (by rw [List.length_map]; exact at_lt ek) ek)
    obtain ⟨n, en, eu2⟩ := ui_at eu
    subst eu2
    have hnn := hn n (at_mem en)
    obtain ⟨os, eo, ei, _⟩ := pl_ints (hb n.toNat (by omega))
    rw [show ((n.toNat : Nat) : Int) = n by omega] at ei
    simp only [wp_if, val_lift, val_e2, val_eLc, val_e1, val_eV, b1, un]
    rw [opt_ixE (by omega) eo, ul]
    refine val_lcF (fun u => match unUI u with | some m => !decide (m ∈ ns) | none => false) (fun u => u) (fun u hu => ?_) (fun u _ _ => by simp only [val_ok, val_er, val_bind, val_up, val_mute, val_ite, opt_some, opt_none, opt_ite, val_e0, val_eV, val_e1, val_e2, val_e3, val_eIf, val_eAnd, val_eOr, val_lift, val_eNil, val_eCons, val_eLst, val_ePair, val_eEnum, val_eZip, val_eRev, val_oNone, val_oSome, val_eCut, val_aNil, val_aCons, val_eCall, val_eLc, wp_nx, wp_rt, wp_bk, wp_ct, wp_bind, wp_seq, wp_set, wp_if, wp_ret, wp_drop, wp_nil, wp_fbk, wp_fct, wp_mut1, wp_for, val_runR, opt_add, opt_sub, opt_neg, opt_lt, opt_le, opt_gt, opt_ge, opt_eqS, opt_neS, opt_eqD, opt_neD, opt_in, opt_nin, opt_len, opt_lenScr, opt_abs, opt_max2, opt_min2, opt_sum, opt_sort, opt_intB, opt_maxC, opt_minC, val_pV, val_pIx, wp_mutP, wp_putP, wq_nx, wq_rt, wq_bk, wq_ct, wq_bind, wq_seq, wq_set, wq_if, wq_ret, wq_drop, wq_nil, wq_fbk, wq_fct, wq_mut1, wq_for, val_E1, val_E2, val_iNil, val_iBy, val_iIo, val_eCallI, val_tAnd2, val_tOr2, val_tNot2, val_eTpl, wp_stuck, wq_stuck, wp_unp, wq_unp, wp_for2, wq_for2, wp_ins, wq_ins, wp_mut0, wq_mut0, wq_mutP, wq_putP, wp_augP, wq_augP, wp_put2, wq_put2, val_runI, val_runIU, opt_isBB, opt_isnBB, opt_ixTp, opt_sortR, opt_sortP, val_runRU, val_ePop, wp_dput, wq_dput, opt_inD, opt_ninD, opt_lenD, opt_getDo, opt_and, val_eDget, val_eIxO, opt_isNo, opt_isSo, opt_unO, opt_toO, numF_id, wq_forO, wp_forO, val_eCutS, val_eTl, val_eCut2, val_eCallX, wp_raise, opt_cnt, opt_allB, opt_scI, opt_scB, opt_scS, opt_scN, opt_lsY, opt_toI, opt_inQz, opt_inQq, opt_toZ, opt_keysZ, wp_dputQ, wp_dpopQ, wp_dcopy, opt_toHH, opt_lenTp, opt_atH0, opt_atH1, wp_appH, opt_lsA, opt_stA, opt_unA_l, opt_isLA_l, opt_isLA_s, val_chn, val_popP, wq_insP, wp_insP, wq_mutIx, wq_appE, wp_dputS, wq_dputS, val_pDk, val_pFst, opt_inS, opt_ninS, opt_getSo, opt_ltS, opt_gtS, opt_lsYS]) ?_
    · obtain ⟨m, _, rfl⟩ := List.mem_map.mp hu
      simp only [val_ok, val_er, val_bind, val_up, val_mute, val_ite, opt_some, opt_none, opt_ite, val_e0, val_eV, val_e1, val_e2, val_e3, val_eIf, val_eAnd, val_eOr, val_lift, val_eNil, val_eCons, val_eLst, val_ePair, val_eEnum, val_eZip, val_eRev, val_oNone, val_oSome, val_eCut, val_aNil, val_aCons, val_eCall, val_eLc, wp_nx, wp_rt, wp_bk, wp_ct, wp_bind, wp_seq, wp_set, wp_if, wp_ret, wp_drop, wp_nil, wp_fbk, wp_fct, wp_mut1, wp_for, val_runR, opt_add, opt_sub, opt_neg, opt_lt, opt_le, opt_gt, opt_ge, opt_eqS, opt_neS, opt_eqD, opt_neD, opt_in, opt_nin, opt_len, opt_lenScr, opt_abs, opt_max2, opt_min2, opt_sum, opt_sort, opt_intB, opt_maxC, opt_minC, val_pV, val_pIx, wp_mutP, wp_putP, wq_nx, wq_rt, wq_bk, wq_ct, wq_bind, wq_seq, wq_set, wq_if, wq_ret, wq_drop, wq_nil, wq_fbk, wq_fct, wq_mut1, wq_for, val_E1, val_E2, val_iNil, val_iBy, val_iIo, val_eCallI, val_tAnd2, val_tOr2, val_tNot2, val_eTpl, wp_stuck, wq_stuck, wp_unp, wq_unp, wp_for2, wq_for2, wp_ins, wq_ins, wp_mut0, wq_mut0, wq_mutP, wq_putP, wp_augP, wq_augP, wp_put2, wq_put2, val_runI, val_runIU, opt_isBB, opt_isnBB, opt_ixTp, opt_sortR, opt_sortP, val_runRU, val_ePop, wp_dput, wq_dput, opt_inD, opt_ninD, opt_lenD, opt_getDo, opt_and, val_eDget, val_eIxO, opt_isNo, opt_isSo, opt_unO, opt_toO, numF_id, wq_forO, wp_forO, val_eCutS, val_eTl, val_eCut2, val_eCallX, wp_raise, opt_cnt, opt_allB, opt_scI, opt_scB, opt_scS, opt_scN, opt_lsY, opt_toI, opt_inQz, opt_inQq, opt_toZ, opt_keysZ, wp_dputQ, wp_dpopQ, wp_dcopy, opt_toHH, opt_lenTp, opt_atH0, opt_atH1, wp_appH, opt_lsA, opt_stA, opt_unA_l, opt_isLA_l, opt_isLA_s, val_chn, val_popP, wq_insP, wp_insP, wq_mutIx, wq_appE, wp_dputS, wq_dputS, val_pDk, val_pFst, opt_inS, opt_ninS, opt_getSo, opt_ltS, opt_gtS, opt_lsYS, b3, un, uli]
      rfl
    rw [List.map_id']
    have ef : ((os.map ui).filter fun u => match unUI u with | some m => !decide (m ∈ ns) | none => false) = (os.filter fun m => !decide (m ∈ ns)).map ui := by
      rw [List.filter_map]
      rfl
    rw [ef]
    simp only [val_e0]
    rw [opt_neCnil (lay_uis _)]
    by_cases c : (os.filter fun m => !decide (m ∈ ns)) = []
    · rw [c]
      simp only [List.map_nil, ne_eq, not_true_eq_false, decide_false, Bool.false_eq_true, if_false, wp_nil]
      refine ⟨⟨⟨by first | trivial | exact b1, by first | trivial | exact b2⟩, by first | trivial | exact b3⟩, fun k n' hk ek => ?_⟩
      by_cases d : k = i
      · subst d
        rw [en] at ek
        cases ek
        unfold subs
        rw [ei]
        refine List.all_eq_true.mpr fun m hm => decide_eq_true ?_
        have := List.filter_eq_nil_iff.mp c m hm
        simpa using this
      · exact b4 k n' (by omega) ek
    · have hne : (os.filter fun m => !decide (m ∈ ns)).map ui ≠ [] := fun z => c (List.map_eq_nil_iff.mp z)
      rw [decide_eq_true hne]
      simp only [if_true]
      simp only [val_ok, val_er, val_bind, val_up, val_mute, val_ite, opt_some, opt_none, opt_ite, val_e0, val_eV, val_e1, val_e2, val_e3, val_eIf, val_eAnd, val_eOr, val_lift, val_eNil, val_eCons, val_eLst, val_ePair, val_eEnum, val_eZip, val_eRev, val_oNone, val_oSome, val_eCut, val_aNil, val_aCons, val_eCall, val_eLc, wp_nx, wp_rt, wp_bk, wp_ct, wp_bind, wp_seq, wp_set, wp_if, wp_ret, wp_drop, wp_nil, wp_fbk, wp_fct, wp_mut1, wp_for, val_runR, opt_add, opt_sub, opt_neg, opt_lt, opt_le, opt_gt, opt_ge, opt_eqS, opt_neS, opt_eqD, opt_neD, opt_in, opt_nin, opt_len, opt_lenScr, opt_abs, opt_max2, opt_min2, opt_sum, opt_sort, opt_intB, opt_maxC, opt_minC, val_pV, val_pIx, wp_mutP, wp_putP, wq_nx, wq_rt, wq_bk, wq_ct, wq_bind, wq_seq, wq_set, wq_if, wq_ret, wq_drop, wq_nil, wq_fbk, wq_fct, wq_mut1, wq_for, val_E1, val_E2, val_iNil, val_iBy, val_iIo, val_eCallI, val_tAnd2, val_tOr2, val_tNot2, val_eTpl, wp_stuck, wq_stuck, wp_unp, wq_unp, wp_for2, wq_for2, wp_ins, wq_ins, wp_mut0, wq_mut0, wq_mutP, wq_putP, wp_augP, wq_augP, wp_put2, wq_put2, val_runI, val_runIU, opt_isBB, opt_isnBB, opt_ixTp, opt_sortR, opt_sortP, val_runRU, val_ePop, wp_dput, wq_dput, opt_inD, opt_ninD, opt_lenD, opt_getDo, opt_and, val_eDget, val_eIxO, opt_isNo, opt_isSo, opt_unO, opt_toO, numF_id, wq_forO, wp_forO, val_eCutS, val_eTl, val_eCut2, val_eCallX, wp_raise, opt_cnt, opt_allB, opt_scI, opt_scB, opt_scS, opt_scN, opt_lsY, opt_toI, opt_inQz, opt_inQq, opt_toZ, opt_keysZ, wp_dputQ, wp_dpopQ, wp_dcopy, opt_toHH, opt_lenTp, opt_atH0, opt_atH1, wp_appH, opt_lsA, opt_stA, opt_unA_l, opt_isLA_l, opt_isLA_s, val_chn, val_popP, wq_insP, wp_insP, wq_mutIx, wq_appE, wp_dputS, wq_dputS, val_pDk, val_pFst, opt_inS, opt_ninS, opt_getSo, opt_ltS, opt_gtS, opt_lsYS]
      refine (Bool.eq_false_iff.mpr fun z => c ?_).symm
      have h1 := List.all_eq_true.mp z n (at_mem en)
      unfold subs at h1
      rw [ei] at h1
      refine List.filter_eq_nil_iff.mpr fun m hm => ?_
      have := of_decide_eq_true (List.all_eq_true.mp h1 m hm)
      simp [this]
def ordU : Up (Up (Up Sc)) → Bool
  | .l rows => decide (rows.length ≤ 14) && (List.range rows.length).all (pl rows)
  | _ => false
theorem all_bad {rows : List (Up (Up Sc))} {j : Nat} (hj : j < rows.length) (h : pl rows j = false) : (List.range rows.length).all (pl rows) = false :=
  Bool.eq_false_iff.mpr fun z => by
    have := List.all_eq_true.mp z j (List.mem_range.mpr hj)
    rw [h] at this
    cases this
theorem is_order_ok (u : Up (Up (Up Sc))) : m_is_order (u, ()) = .ok (ordU u) := by
  refine val_eq ?_
  have osm : ∀ {α : Type} {a : α} {Q : α → Prop}, opt (some a) Q = Q a := fun {α a Q} => rfl
  simp only [m_is_order, b_is_order, val_runR]
  cases u with
  | sc x =>
    refine wp_step (fun _ => False) ?_ fun r z => z.elim
    simp only [val_ok, val_er, val_bind, val_up, val_mute, val_ite, opt_some, opt_none, opt_ite, val_e0, val_eV, val_e1, val_e2, val_e3, val_eIf, val_eAnd, val_eOr, val_lift, val_eNil, val_eCons, val_eLst, val_ePair, val_eEnum, val_eZip, val_eRev, val_oNone, val_oSome, val_eCut, val_aNil, val_aCons, val_eCall, val_eLc, wp_nx, wp_rt, wp_bk, wp_ct, wp_bind, wp_seq, wp_set, wp_if, wp_ret, wp_drop, wp_nil, wp_fbk, wp_fct, wp_mut1, wp_for, val_runR, opt_add, opt_sub, opt_neg, opt_lt, opt_le, opt_gt, opt_ge, opt_eqS, opt_neS, opt_eqD, opt_neD, opt_in, opt_nin, opt_len, opt_lenScr, opt_abs, opt_max2, opt_min2, opt_sum, opt_sort, opt_intB, opt_maxC, opt_minC, val_pV, val_pIx, wp_mutP, wp_putP, wq_nx, wq_rt, wq_bk, wq_ct, wq_bind, wq_seq, wq_set, wq_if, wq_ret, wq_drop, wq_nil, wq_fbk, wq_fct, wq_mut1, wq_for, val_E1, val_E2, val_iNil, val_iBy, val_iIo, val_eCallI, val_tAnd2, val_tOr2, val_tNot2, val_eTpl, wp_stuck, wq_stuck, wp_unp, wq_unp, wp_for2, wq_for2, wp_ins, wq_ins, wp_mut0, wq_mut0, wq_mutP, wq_putP, wp_augP, wq_augP, wp_put2, wq_put2, val_runI, val_runIU, opt_isBB, opt_isnBB, opt_ixTp, opt_sortR, opt_sortP, val_runRU, val_ePop, wp_dput, wq_dput, opt_inD, opt_ninD, opt_lenD, opt_getDo, opt_and, val_eDget, val_eIxO, opt_isNo, opt_isSo, opt_unO, opt_toO, numF_id, wq_forO, wp_forO, val_eCutS, val_eTl, val_eCut2, val_eCallX, wp_raise, opt_cnt, opt_allB, opt_scI, opt_scB, opt_scS, opt_scN, opt_lsY, opt_toI, opt_inQz, opt_inQq, opt_toZ, opt_keysZ, wp_dputQ, wp_dpopQ, wp_dcopy, opt_toHH, opt_lenTp, opt_atH0, opt_atH1, wp_appH, opt_lsA, opt_stA, opt_unA_l, opt_isLA_l, opt_isLA_s, val_chn, val_popP, wq_insP, wp_insP, wq_mutIx, wq_appE, wp_dputS, wq_dputS, val_pDk, val_pFst, opt_inS, opt_ninS, opt_getSo, opt_ltS, opt_gtS, opt_lsYS, isListU, osm, Bool.not_false, if_true]
    rfl
  | t x =>
    refine wp_step (fun _ => False) ?_ fun r z => z.elim
    simp only [val_ok, val_er, val_bind, val_up, val_mute, val_ite, opt_some, opt_none, opt_ite, val_e0, val_eV, val_e1, val_e2, val_e3, val_eIf, val_eAnd, val_eOr, val_lift, val_eNil, val_eCons, val_eLst, val_ePair, val_eEnum, val_eZip, val_eRev, val_oNone, val_oSome, val_eCut, val_aNil, val_aCons, val_eCall, val_eLc, wp_nx, wp_rt, wp_bk, wp_ct, wp_bind, wp_seq, wp_set, wp_if, wp_ret, wp_drop, wp_nil, wp_fbk, wp_fct, wp_mut1, wp_for, val_runR, opt_add, opt_sub, opt_neg, opt_lt, opt_le, opt_gt, opt_ge, opt_eqS, opt_neS, opt_eqD, opt_neD, opt_in, opt_nin, opt_len, opt_lenScr, opt_abs, opt_max2, opt_min2, opt_sum, opt_sort, opt_intB, opt_maxC, opt_minC, val_pV, val_pIx, wp_mutP, wp_putP, wq_nx, wq_rt, wq_bk, wq_ct, wq_bind, wq_seq, wq_set, wq_if, wq_ret, wq_drop, wq_nil, wq_fbk, wq_fct, wq_mut1, wq_for, val_E1, val_E2, val_iNil, val_iBy, val_iIo, val_eCallI, val_tAnd2, val_tOr2, val_tNot2, val_eTpl, wp_stuck, wq_stuck, wp_unp, wq_unp, wp_for2, wq_for2, wp_ins, wq_ins, wp_mut0, wq_mut0, wq_mutP, wq_putP, wp_augP, wq_augP, wp_put2, wq_put2, val_runI, val_runIU, opt_isBB, opt_isnBB, opt_ixTp, opt_sortR, opt_sortP, val_runRU, val_ePop, wp_dput, wq_dput, opt_inD, opt_ninD, opt_lenD, opt_getDo, opt_and, val_eDget, val_eIxO, opt_isNo, opt_isSo, opt_unO, opt_toO, numF_id, wq_forO, wp_forO, val_eCutS, val_eTl, val_eCut2, val_eCallX, wp_raise, opt_cnt, opt_allB, opt_scI, opt_scB, opt_scS, opt_scN, opt_lsY, opt_toI, opt_inQz, opt_inQq, opt_toZ, opt_keysZ, wp_dputQ, wp_dpopQ, wp_dcopy, opt_toHH, opt_lenTp, opt_atH0, opt_atH1, wp_appH, opt_lsA, opt_stA, opt_unA_l, opt_isLA_l, opt_isLA_s, val_chn, val_popP, wq_insP, wp_insP, wq_mutIx, wq_appE, wp_dputS, wq_dputS, val_pDk, val_pFst, opt_inS, opt_ninS, opt_getSo, opt_ltS, opt_gtS, opt_lsYS, isListU, osm, Bool.not_false, if_true]
    rfl
  | l rows =>
    by_cases hl : rows.length ≤ 14
    · have eo : ordU (.l rows) = (List.range rows.length).all (pl rows) := by
        show (decide (rows.length ≤ 14) && _) = _
        rw [decide_eq_true hl]
        rfl
      rw [eo]
      refine wp_step (fun r => r.v_thing = .l rows) ?_ fun r a1 => ?_
      · simp only [val_ok, val_er, val_bind, val_up, val_mute, val_ite, opt_some, opt_none, opt_ite, val_e0, val_eV, val_e1, val_e2, val_e3, val_eIf, val_eAnd, val_eOr, val_lift, val_eNil, val_eCons, val_eLst, val_ePair, val_eEnum, val_eZip, val_eRev, val_oNone, val_oSome, val_eCut, val_aNil, val_aCons, val_eCall, val_eLc, wp_nx, wp_rt, wp_bk, wp_ct, wp_bind, wp_seq, wp_set, wp_if, wp_ret, wp_drop, wp_nil, wp_fbk, wp_fct, wp_mut1, wp_for, val_runR, opt_add, opt_sub, opt_neg, opt_lt, opt_le, opt_gt, opt_ge, opt_eqS, opt_neS, opt_eqD, opt_neD, opt_in, opt_nin, opt_len, opt_lenScr, opt_abs, opt_max2, opt_min2, opt_sum, opt_sort, opt_intB, opt_maxC, opt_minC, val_pV, val_pIx, wp_mutP, wp_putP, wq_nx, wq_rt, wq_bk, wq_ct, wq_bind, wq_seq, wq_set, wq_if, wq_ret, wq_drop, wq_nil, wq_fbk, wq_fct, wq_mut1, wq_for, val_E1, val_E2, val_iNil, val_iBy, val_iIo, val_eCallI, val_tAnd2, val_tOr2, val_tNot2, val_eTpl, wp_stuck, wq_stuck, wp_unp, wq_unp, wp_for2, wq_for2, wp_ins, wq_ins, wp_mut0, wq_mut0, wq_mutP, wq_putP, wp_augP, wq_augP, wp_put2, wq_put2, val_runI, val_runIU, opt_isBB, opt_isnBB, opt_ixTp, opt_sortR, opt_sortP, val_runRU, val_ePop, wp_dput, wq_dput, opt_inD, opt_ninD, opt_lenD, opt_getDo, opt_and, val_eDget, val_eIxO, opt_isNo, opt_isSo, opt_unO, opt_toO, numF_id, wq_forO, wp_forO, val_eCutS, val_eTl, val_eCut2, val_eCallX, wp_raise, opt_cnt, opt_allB, opt_scI, opt_scB, opt_scS, opt_scN, opt_lsY, opt_toI, opt_inQz, opt_inQq, opt_toZ, opt_keysZ, wp_dputQ, wp_dpopQ, wp_dcopy, opt_toHH, opt_lenTp, opt_atH0, opt_atH1, wp_appH, opt_lsA, opt_stA, opt_unA_l, opt_isLA_l, opt_isLA_s, val_chn, val_popP, wq_insP, wp_insP, wq_mutIx, wq_appE, wp_dputS, wq_dputS, val_pDk, val_pFst, opt_inS, opt_ninS, opt_getSo, opt_ltS, opt_gtS, opt_lsYS, isListU, unUL, osm, Bool.not_true, Bool.false_eq_true, if_false]
        rw [if_neg (by simp; omega)]
        trivial
      refine wp_step (fun _ => (List.range rows.length).all (pl rows) = true) ?_ fun r h => by
        simp only [val_ok, val_er, val_bind, val_up, val_mute, val_ite, opt_some, opt_none, opt_ite, val_e0, val_eV, val_e1, val_e2, val_e3, val_eIf, val_eAnd, val_eOr, val_lift, val_eNil, val_eCons, val_eLst, val_ePair, val_eEnum, val_eZip, val_eRev, val_oNone, val_oSome, val_eCut, val_aNil, val_aCons, val_eCall, val_eLc, wp_nx, wp_rt, wp_bk, wp_ct, wp_bind, wp_seq, wp_set, wp_if, wp_ret, wp_drop, wp_nil, wp_fbk, wp_fct, wp_mut1, wp_for, val_runR, opt_add, opt_sub, opt_neg, opt_lt, opt_le, opt_gt, opt_ge, opt_eqS, opt_neS, opt_eqD, opt_neD, opt_in, opt_nin, opt_len, opt_lenScr, opt_abs, opt_max2, opt_min2, opt_sum, opt_sort, opt_intB, opt_maxC, opt_minC, val_pV, val_pIx, wp_mutP, wp_putP, wq_nx, wq_rt, wq_bk, wq_ct, wq_bind, wq_seq, wq_set, wq_if, wq_ret, wq_drop, wq_nil, wq_fbk, wq_fct, wq_mut1, wq_for, val_E1, val_E2, val_iNil, val_iBy, val_iIo, val_eCallI, val_tAnd2, val_tOr2, val_tNot2, val_eTpl, wp_stuck, wq_stuck, wp_unp, wq_unp, wp_for2, wq_for2, wp_ins, wq_ins, wp_mut0, wq_mut0, wq_mutP, wq_putP, wp_augP, wq_augP, wp_put2, wq_put2, val_runI, val_runIU, opt_isBB, opt_isnBB, opt_ixTp, opt_sortR, opt_sortP, val_runRU, val_ePop, wp_dput, wq_dput, opt_inD, opt_ninD, opt_lenD, opt_getDo, opt_and, val_eDget, val_eIxO, opt_isNo, opt_isSo, opt_unO, opt_toO, numF_id, wq_forO, wp_forO, val_eCutS, val_eTl, val_eCut2, val_eCallX, wp_raise, opt_cnt, opt_allB, opt_scI, opt_scB, opt_scS, opt_scN, opt_lsY, opt_toI, opt_inQz, opt_inQq, opt_toZ, opt_keysZ, wp_dputQ, wp_dpopQ, wp_dcopy, opt_toHH, opt_lenTp, opt_atH0, opt_atH1, wp_appH, opt_lsA, opt_stA, opt_unA_l, opt_isLA_l, opt_isLA_s, val_chn, val_popP, wq_insP, wp_insP, wq_mutIx, wq_appE, wp_dputS, wq_dputS, val_pDk, val_pFst, opt_inS, opt_ninS, opt_getSo, opt_ltS, opt_gtS, opt_lsYS]
        exact h.symm
      simp only [wp_for, val_e1, val_eV, a1, unUL, osm, opt_len]
      rw [opt_rng1 ⟨by omega, by omega⟩, Int.toNat_natCast]
      refine wp_loop (fun i r => r.v_thing = .l rows ∧ ∀ k, k < i → pl rows k = true) ⟨a1, fun k z => absurd z (Nat.not_lt_zero _)⟩ (fun i x r ex ⟨b1, b2⟩ => ?_) (fun r ⟨_, b2⟩ => List.all_eq_true.mpr fun k hk => b2 k (by rw [List.length_map, List.length_range]; exact List.mem_range.mp hk))
      have hi := (rng_at ex).1
      have hv := (rng_at ex).2
      subst hv
      simp only [val_ok, val_er, val_bind, val_up, val_mute, val_ite, opt_some, opt_none, opt_ite, val_e0, val_eV, val_e1, val_e2, val_e3, val_eIf, val_eAnd, val_eOr, val_lift, val_eNil, val_eCons, val_eLst, val_ePair, val_eEnum, val_eZip, val_eRev, val_oNone, val_oSome, val_eCut, val_aNil, val_aCons, val_eCall, val_eLc, wp_nx, wp_rt, wp_bk, wp_ct, wp_bind, wp_seq, wp_set, wp_if, wp_ret, wp_drop, wp_nil, wp_fbk, wp_fct, wp_mut1, wp_for, val_runR, opt_add, opt_sub, opt_neg, opt_lt, opt_le, opt_gt, opt_ge, opt_eqS, opt_neS, opt_eqD, opt_neD, opt_in, opt_nin, opt_len, opt_lenScr, opt_abs, opt_max2, opt_min2, opt_sum, opt_sort, opt_intB, opt_maxC, opt_minC, val_pV, val_pIx, wp_mutP, wp_putP, wq_nx, wq_rt, wq_bk, wq_ct, wq_bind, wq_seq, wq_set, wq_if, wq_ret, wq_drop, wq_nil, wq_fbk, wq_fct, wq_mut1, wq_for, val_E1, val_E2, val_iNil, val_iBy, val_iIo, val_eCallI, val_tAnd2, val_tOr2, val_tNot2, val_eTpl, wp_stuck, wq_stuck, wp_unp, wq_unp, wp_for2, wq_for2, wp_ins, wq_ins, wp_mut0, wq_mut0, wq_mutP, wq_putP, wp_augP, wq_augP, wp_put2, wq_put2, val_runI, val_runIU, opt_isBB, opt_isnBB, opt_ixTp, opt_sortR, opt_sortP, val_runRU, val_ePop, wp_dput, wq_dput, opt_inD, opt_ninD, opt_lenD, opt_getDo, opt_and, val_eDget, val_eIxO, opt_isNo, opt_isSo, opt_unO, opt_toO, numF_id, wq_forO, wp_forO, val_eCutS, val_eTl, val_eCut2, val_eCallX, wp_raise, opt_cnt, opt_allB, opt_scI, opt_scB, opt_scS, opt_scN, opt_lsY, opt_toI, opt_inQz, opt_inQq, opt_toZ, opt_keysZ, wp_dputQ, wp_dpopQ, wp_dcopy, opt_toHH, opt_lenTp, opt_atH0, opt_atH1, wp_appH, opt_lsA, opt_stA, opt_unA_l, opt_isLA_l, opt_isLA_s, val_chn, val_popP, wq_insP, wp_insP, wq_mutIx, wq_appE, wp_dputS, wq_dputS, val_pDk, val_pFst, opt_inS, opt_ninS, opt_getSo, opt_ltS, opt_gtS, opt_lsYS, b1, unUL, osm, is_place_ok hi b2]
      cases e : pl rows i with
      | true =>
        simp only [Bool.not_true, Bool.false_eq_true, if_false]
        refine ⟨by first | trivial | exact b1, fun k hk => ?_⟩
        by_cases d : k = i
        · rw [d]; exact e
        · exact b2 k (by omega)
      | false =>
        simp only [Bool.not_false, if_true]
        exact (all_bad hi e).symm
    · have eo : ordU (.l rows) = false := by
        show (decide (rows.length ≤ 14) && _) = _
        rw [decide_eq_false hl]
        rfl
      rw [eo]
      refine wp_step (fun _ => False) ?_ fun r z => z.elim
      simp only [val_ok, val_er, val_bind, val_up, val_mute, val_ite, opt_some, opt_none, opt_ite, val_e0, val_eV, val_e1, val_e2, val_e3, val_eIf, val_eAnd, val_eOr, val_lift, val_eNil, val_eCons, val_eLst, val_ePair, val_eEnum, val_eZip, val_eRev, val_oNone, val_oSome, val_eCut, val_aNil, val_aCons, val_eCall, val_eLc, wp_nx, wp_rt, wp_bk, wp_ct, wp_bind, wp_seq, wp_set, wp_if, wp_ret, wp_drop, wp_nil, wp_fbk, wp_fct, wp_mut1, wp_for, val_runR, opt_add, opt_sub, opt_neg, opt_lt, opt_le, opt_gt, opt_ge, opt_eqS, opt_neS, opt_eqD, opt_neD, opt_in, opt_nin, opt_len, opt_lenScr, opt_abs, opt_max2, opt_min2, opt_sum, opt_sort, opt_intB, opt_maxC, opt_minC, val_pV, val_pIx, wp_mutP, wp_putP, wq_nx, wq_rt, wq_bk, wq_ct, wq_bind, wq_seq, wq_set, wq_if, wq_ret, wq_drop, wq_nil, wq_fbk, wq_fct, wq_mut1, wq_for, val_E1, val_E2, val_iNil, val_iBy, val_iIo, val_eCallI, val_tAnd2, val_tOr2, val_tNot2, val_eTpl, wp_stuck, wq_stuck, wp_unp, wq_unp, wp_for2, wq_for2, wp_ins, wq_ins, wp_mut0, wq_mut0, wq_mutP, wq_putP, wp_augP, wq_augP, wp_put2, wq_put2, val_runI, val_runIU, opt_isBB, opt_isnBB, opt_ixTp, opt_sortR, opt_sortP, val_runRU, val_ePop, wp_dput, wq_dput, opt_inD, opt_ninD, opt_lenD, opt_getDo, opt_and, val_eDget, val_eIxO, opt_isNo, opt_isSo, opt_unO, opt_toO, numF_id, wq_forO, wp_forO, val_eCutS, val_eTl, val_eCut2, val_eCallX, wp_raise, opt_cnt, opt_allB, opt_scI, opt_scB, opt_scS, opt_scN, opt_lsY, opt_toI, opt_inQz, opt_inQq, opt_toZ, opt_keysZ, wp_dputQ, wp_dpopQ, wp_dcopy, opt_toHH, opt_lenTp, opt_atH0, opt_atH1, wp_appH, opt_lsA, opt_stA, opt_unA_l, opt_isLA_l, opt_isLA_s, val_chn, val_popP, wq_insP, wp_insP, wq_mutIx, wq_appE, wp_dputS, wq_dputS, val_pDk, val_pFst, opt_inS, opt_ninS, opt_getSo, opt_ltS, opt_gtS, opt_lsYS, isListU, unUL, osm, Bool.not_true, Bool.false_eq_true, if_false]
      rw [if_pos (by simp; omega)]
      trivial
theorem l_is_order_ok (u : Up (Up (Up Sc))) : m_l_is_order (u, ()) = .ok (ordU u) := by
  refine val_eq ?_
  have osm : ∀ {α : Type} {a : α} {Q : α → Prop}, opt (some a) Q = Q a := fun {α a Q} => rfl
  simp only [m_l_is_order, b_l_is_order, val_runR]
  cases u with
  | sc x =>
    refine wp_step (fun _ => False) ?_ fun r z => z.elim
    simp only [val_ok, val_er, val_bind, val_up, val_mute, val_ite, opt_some, opt_none, opt_ite, val_e0, val_eV, val_e1, val_e2, val_e3, val_eIf, val_eAnd, val_eOr, val_lift, val_eNil, val_eCons, val_eLst, val_ePair, val_eEnum, val_eZip, val_eRev, val_oNone, val_oSome, val_eCut, val_aNil, val_aCons, val_eCall, val_eLc, wp_nx, wp_rt, wp_bk, wp_ct, wp_bind, wp_seq, wp_set, wp_if, wp_ret, wp_drop, wp_nil, wp_fbk, wp_fct, wp_mut1, wp_for, val_runR, opt_add, opt_sub, opt_neg, opt_lt, opt_le, opt_gt, opt_ge, opt_eqS, opt_neS, opt_eqD, opt_neD, opt_in, opt_nin, opt_len, opt_lenScr, opt_abs, opt_max2, opt_min2, opt_sum, opt_sort, opt_intB, opt_maxC, opt_minC, val_pV, val_pIx, wp_mutP, wp_putP, wq_nx, wq_rt, wq_bk, wq_ct, wq_bind, wq_seq, wq_set, wq_if, wq_ret, wq_drop, wq_nil, wq_fbk, wq_fct, wq_mut1, wq_for, val_E1, val_E2, val_iNil, val_iBy, val_iIo, val_eCallI, val_tAnd2, val_tOr2, val_tNot2, val_eTpl, wp_stuck, wq_stuck, wp_unp, wq_unp, wp_for2, wq_for2, wp_ins, wq_ins, wp_mut0, wq_mut0, wq_mutP, wq_putP, wp_augP, wq_augP, wp_put2, wq_put2, val_runI, val_runIU, opt_isBB, opt_isnBB, opt_ixTp, opt_sortR, opt_sortP, val_runRU, val_ePop, wp_dput, wq_dput, opt_inD, opt_ninD, opt_lenD, opt_getDo, opt_and, val_eDget, val_eIxO, opt_isNo, opt_isSo, opt_unO, opt_toO, numF_id, wq_forO, wp_forO, val_eCutS, val_eTl, val_eCut2, val_eCallX, wp_raise, opt_cnt, opt_allB, opt_scI, opt_scB, opt_scS, opt_scN, opt_lsY, opt_toI, opt_inQz, opt_inQq, opt_toZ, opt_keysZ, wp_dputQ, wp_dpopQ, wp_dcopy, opt_toHH, opt_lenTp, opt_atH0, opt_atH1, wp_appH, opt_lsA, opt_stA, opt_unA_l, opt_isLA_l, opt_isLA_s, val_chn, val_popP, wq_insP, wp_insP, wq_mutIx, wq_appE, wp_dputS, wq_dputS, val_pDk, val_pFst, opt_inS, opt_ninS, opt_getSo, opt_ltS, opt_gtS, opt_lsYS, isListU, osm, Bool.not_false, if_true]
    rfl
  | t x =>
    refine wp_step (fun _ => False) ?_ fun r z => z.elim
    simp only [val_ok, val_er, val_bind, val_up, val_mute, val_ite, opt_some, opt_none, opt_ite, val_e0, val_eV, val_e1, val_e2, val_e3, val_eIf, val_eAnd, val_eOr, val_lift, val_eNil, val_eCons, val_eLst, val_ePair, val_eEnum, val_eZip, val_eRev, val_oNone, val_oSome, val_eCut, val_aNil, val_aCons, val_eCall, val_eLc, wp_nx, wp_rt, wp_bk, wp_ct, wp_bind, wp_seq, wp_set, wp_if, wp_ret, wp_drop, wp_nil, wp_fbk, wp_fct, wp_mut1, wp_for, val_runR, opt_add, opt_sub, opt_neg, opt_lt, opt_le, opt_gt, opt_ge, opt_eqS, opt_neS, opt_eqD, opt_neD, opt_in, opt_nin, opt_len, opt_lenScr, opt_abs, opt_max2, opt_min2, opt_sum, opt_sort, opt_intB, opt_maxC, opt_minC, val_pV, val_pIx, wp_mutP, wp_putP, wq_nx, wq_rt, wq_bk, wq_ct, wq_bind, wq_seq, wq_set, wq_if, wq_ret, wq_drop, wq_nil, wq_fbk, wq_fct, wq_mut1, wq_for, val_E1, val_E2, val_iNil, val_iBy, val_iIo, val_eCallI, val_tAnd2, val_tOr2, val_tNot2, val_eTpl, wp_stuck, wq_stuck, wp_unp, wq_unp, wp_for2, wq_for2, wp_ins, wq_ins, wp_mut0, wq_mut0, wq_mutP, wq_putP, wp_augP, wq_augP, wp_put2, wq_put2, val_runI, val_runIU, opt_isBB, opt_isnBB, opt_ixTp, opt_sortR, opt_sortP, val_runRU, val_ePop, wp_dput, wq_dput, opt_inD, opt_ninD, opt_lenD, opt_getDo, opt_and, val_eDget, val_eIxO, opt_isNo, opt_isSo, opt_unO, opt_toO, numF_id, wq_forO, wp_forO, val_eCutS, val_eTl, val_eCut2, val_eCallX, wp_raise, opt_cnt, opt_allB, opt_scI, opt_scB, opt_scS, opt_scN, opt_lsY, opt_toI, opt_inQz, opt_inQq, opt_toZ, opt_keysZ, wp_dputQ, wp_dpopQ, wp_dcopy, opt_toHH, opt_lenTp, opt_atH0, opt_atH1, wp_appH, opt_lsA, opt_stA, opt_unA_l, opt_isLA_l, opt_isLA_s, val_chn, val_popP, wq_insP, wp_insP, wq_mutIx, wq_appE, wp_dputS, wq_dputS, val_pDk, val_pFst, opt_inS, opt_ninS, opt_getSo, opt_ltS, opt_gtS, opt_lsYS, isListU, osm, Bool.not_false, if_true]
    rfl
  | l rows =>
    by_cases hl : rows.length ≤ 14
    · have eo : ordU (.l rows) = (List.range rows.length).all (pl rows) := by
        show (decide (rows.length ≤ 14) && _) = _
        rw [decide_eq_true hl]
        rfl
      rw [eo]
      refine wp_step (fun r => r.v_thing = .l rows) ?_ fun r a1 => ?_
      · simp only [val_ok, val_er, val_bind, val_up, val_mute, val_ite, opt_some, opt_none, opt_ite, val_e0, val_eV, val_e1, val_e2, val_e3, val_eIf, val_eAnd, val_eOr, val_lift, val_eNil, val_eCons, val_eLst, val_ePair, val_eEnum, val_eZip, val_eRev, val_oNone, val_oSome, val_eCut, val_aNil, val_aCons, val_eCall, val_eLc, wp_nx, wp_rt, wp_bk, wp_ct, wp_bind, wp_seq, wp_set, wp_if, wp_ret, wp_drop, wp_nil, wp_fbk, wp_fct, wp_mut1, wp_for, val_runR, opt_add, opt_sub, opt_neg, opt_lt, opt_le, opt_gt, opt_ge, opt_eqS, opt_neS, opt_eqD, opt_neD, opt_in, opt_nin, opt_len, opt_lenScr, opt_abs, opt_max2, opt_min2, opt_sum, opt_sort, opt_intB, opt_maxC, opt_minC, val_pV, val_pIx, wp_mutP, wp_putP, wq_nx, wq_rt, wq_bk, wq_ct, wq_bind, wq_seq, wq_set, wq_if, wq_ret, wq_drop, wq_nil, wq_fbk, wq_fct, wq_mut1, wq_for, val_E1, val_E2, val_iNil, val_iBy, val_iIo, val_eCallI, val_tAnd2, val_tOr2, val_tNot2, val_eTpl, wp_stuck, wq_stuck, wp_unp, wq_unp, wp_for2, wq_for2, wp_ins, wq_ins, wp_mut0, wq_mut0, wq_mutP, wq_putP, wp_augP, wq_augP, wp_put2, wq_put2, val_runI, val_runIU, opt_isBB, opt_isnBB, opt_ixTp, opt_sortR, opt_sortP, val_runRU, val_ePop, wp_dput, wq_dput, opt_inD, opt_ninD, opt_lenD, opt_getDo, opt_and, val_eDget, val_eIxO, opt_isNo, opt_isSo, opt_unO, opt_toO, numF_id, wq_forO, wp_forO, val_eCutS, val_eTl, val_eCut2, val_eCallX, wp_raise, opt_cnt, opt_allB, opt_scI, opt_scB, opt_scS, opt_scN, opt_lsY, opt_toI, opt_inQz, opt_inQq, opt_toZ, opt_keysZ, wp_dputQ, wp_dpopQ, wp_dcopy, opt_toHH, opt_lenTp, opt_atH0, opt_atH1, wp_appH, opt_lsA, opt_stA, opt_unA_l, opt_isLA_l, opt_isLA_s, val_chn, val_popP, wq_insP, wp_insP, wq_mutIx, wq_appE, wp_dputS, wq_dputS, val_pDk, val_pFst, opt_inS, opt_ninS, opt_getSo, opt_ltS, opt_gtS, opt_lsYS, isListU, unUL, osm, Bool.not_true, Bool.false_eq_true, if_false]
        rw [if_neg (by simp; omega)]
        trivial
      refine wp_step (fun _ => (List.range rows.length).all (pl rows) = true) ?_ fun r h => by
        simp only [val_ok, val_er, val_bind, val_up, val_mute, val_ite, opt_some, opt_none, opt_ite, val_e0, val_eV, val_e1, val_e2, val_e3, val_eIf, val_eAnd, val_eOr, val_lift, val_eNil, val_eCons, val_eLst, val_ePair, val_eEnum, val_eZip, val_eRev, val_oNone, val_oSome, val_eCut, val_aNil, val_aCons, val_eCall, val_eLc, wp_nx, wp_rt, wp_bk, wp_ct, wp_bind, wp_seq, wp_set, wp_if, wp_ret, wp_drop, wp_nil, wp_fbk, wp_fct, wp_mut1, wp_for, val_runR, opt_add, opt_sub, opt_neg, opt_lt, opt_le, opt_gt, opt_ge, opt_eqS, opt_neS, opt_eqD, opt_neD, opt_in, opt_nin, opt_len, opt_lenScr, opt_abs, opt_max2, opt_min2, opt_sum, opt_sort, opt_intB, opt_maxC, opt_minC, val_pV, val_pIx, wp_mutP, wp_putP, wq_nx, wq_rt, wq_bk, wq_ct, wq_bind, wq_seq, wq_set, wq_if, wq_ret, wq_drop, wq_nil, wq_fbk, wq_fct, wq_mut1, wq_for, val_E1, val_E2, val_iNil, val_iBy, val_iIo, val_eCallI, val_tAnd2, val_tOr2, val_tNot2, val_eTpl, wp_stuck, wq_stuck, wp_unp, wq_unp, wp_for2, wq_for2, wp_ins, wq_ins, wp_mut0, wq_mut0, wq_mutP, wq_putP, wp_augP, wq_augP, wp_put2, wq_put2, val_runI, val_runIU, opt_isBB, opt_isnBB, opt_ixTp, opt_sortR, opt_sortP, val_runRU, val_ePop, wp_dput, wq_dput, opt_inD, opt_ninD, opt_lenD, opt_getDo, opt_and, val_eDget, val_eIxO, opt_isNo, opt_isSo, opt_unO, opt_toO, numF_id, wq_forO, wp_forO, val_eCutS, val_eTl, val_eCut2, val_eCallX, wp_raise, opt_cnt, opt_allB, opt_scI, opt_scB, opt_scS, opt_scN, opt_lsY, opt_toI, opt_inQz, opt_inQq, opt_toZ, opt_keysZ, wp_dputQ, wp_dpopQ, wp_dcopy, opt_toHH, opt_lenTp, opt_atH0, opt_atH1, wp_appH, opt_lsA, opt_stA, opt_unA_l, opt_isLA_l, opt_isLA_s, val_chn, val_popP, wq_insP, wp_insP, wq_mutIx, wq_appE, wp_dputS, wq_dputS, val_pDk, val_pFst, opt_inS, opt_ninS, opt_getSo, opt_ltS, opt_gtS, opt_lsYS]
        exact h.symm
      simp only [wp_for, val_e1, val_eV, a1, unUL, osm, opt_len]
      rw [opt_rng1 ⟨by omega, by omega⟩, Int.toNat_natCast]
      refine wp_loop (fun i r => r.v_thing = .l rows ∧ ∀ k, k < i → pl rows k = true) ⟨a1, fun k z => absurd z (Nat.not_lt_zero _)⟩ (fun i x r ex ⟨b1, b2⟩ => ?_) (fun r ⟨_, b2⟩ => List.all_eq_true.mpr fun k hk => b2 k (by rw [List.length_map, List.length_range]; exact List.mem_range.mp hk))
      have hi := (rng_at ex).1
      have hv := (rng_at ex).2
      subst hv
      simp only [val_ok, val_er, val_bind, val_up, val_mute, val_ite, opt_some, opt_none, opt_ite, val_e0, val_eV, val_e1, val_e2, val_e3, val_eIf, val_eAnd, val_eOr, val_lift, val_eNil, val_eCons, val_eLst, val_ePair, val_eEnum, val_eZip, val_eRev, val_oNone, val_oSome, val_eCut, val_aNil, val_aCons, val_eCall, val_eLc, wp_nx, wp_rt, wp_bk, wp_ct, wp_bind, wp_seq, wp_set, wp_if, wp_ret, wp_drop, wp_nil, wp_fbk, wp_fct, wp_mut1, wp_for, val_runR, opt_add, opt_sub, opt_neg, opt_lt, opt_le, opt_gt, opt_ge, opt_eqS, opt_neS, opt_eqD, opt_neD, opt_in, opt_nin, opt_len, opt_lenScr, opt_abs, opt_max2, opt_min2, opt_sum, opt_sort, opt_intB, opt_maxC, opt_minC, val_pV, val_pIx, wp_mutP, wp_putP, wq_nx, wq_rt, wq_bk, wq_ct, wq_bind, wq_seq, wq_set, wq_if, wq_ret, wq_drop, wq_nil, wq_fbk, wq_fct, wq_mut1, wq_for, val_E1, val_E2, val_iNil, val_iBy, val_iIo, val_eCallI, val_tAnd2, val_tOr2, val_tNot2, val_eTpl, wp_stuck, wq_stuck, wp_unp, wq_unp, wp_for2, wq_for2, wp_ins, wq_ins, wp_mut0, wq_mut0, wq_mutP, wq_putP, wp_augP, wq_augP, wp_put2, wq_put2, val_runI, val_runIU, opt_isBB, opt_isnBB, opt_ixTp, opt_sortR, opt_sortP, val_runRU, val_ePop, wp_dput, wq_dput, opt_inD, opt_ninD, opt_lenD, opt_getDo, opt_and, val_eDget, val_eIxO, opt_isNo, opt_isSo, opt_unO, opt_toO, numF_id, wq_forO, wp_forO, val_eCutS, val_eTl, val_eCut2, val_eCallX, wp_raise, opt_cnt, opt_allB, opt_scI, opt_scB, opt_scS, opt_scN, opt_lsY, opt_toI, opt_inQz, opt_inQq, opt_toZ, opt_keysZ, wp_dputQ, wp_dpopQ, wp_dcopy, opt_toHH, opt_lenTp, opt_atH0, opt_atH1, wp_appH, opt_lsA, opt_stA, opt_unA_l, opt_isLA_l, opt_isLA_s, val_chn, val_popP, wq_insP, wp_insP, wq_mutIx, wq_appE, wp_dputS, wq_dputS, val_pDk, val_pFst, opt_inS, opt_ninS, opt_getSo, opt_ltS, opt_gtS, opt_lsYS, b1, unUL, osm, l_is_row_ok hi b2]
      cases e : pl rows i with
      | true =>
        simp only [Bool.not_true, Bool.false_eq_true, if_false]
        refine ⟨by first | trivial | exact b1, fun k hk => ?_⟩
        by_cases d : k = i
        · rw [d]; exact e
        · exact b2 k (by omega)
      | false =>
        simp only [Bool.not_false, if_true]
        exact (all_bad hi e).symm
    · have eo : ordU (.l rows) = false := by
        show (decide (rows.length ≤ 14) && _) = _
        rw [decide_eq_false hl]
        rfl
      rw [eo]
      refine wp_step (fun _ => False) ?_ fun r z => z.elim
      simp only [val_ok, val_er, val_bind, val_up, val_mute, val_ite, opt_some, opt_none, opt_ite, val_e0, val_eV, val_e1, val_e2, val_e3, val_eIf, val_eAnd, val_eOr, val_lift, val_eNil, val_eCons, val_eLst, val_ePair, val_eEnum, val_eZip, val_eRev, val_oNone, val_oSome, val_eCut, val_aNil, val_aCons, val_eCall, val_eLc, wp_nx, wp_rt, wp_bk, wp_ct, wp_bind, wp_seq, wp_set, wp_if, wp_ret, wp_drop, wp_nil, wp_fbk, wp_fct, wp_mut1, wp_for, val_runR, opt_add, opt_sub, opt_neg, opt_lt, opt_le, opt_gt, opt_ge, opt_eqS, opt_neS, opt_eqD, opt_neD, opt_in, opt_nin, opt_len, opt_lenScr, opt_abs, opt_max2, opt_min2, opt_sum, opt_sort, opt_intB, opt_maxC, opt_minC, val_pV, val_pIx, wp_mutP, wp_putP, wq_nx, wq_rt, wq_bk, wq_ct, wq_bind, wq_seq, wq_set, wq_if, wq_ret, wq_drop, wq_nil, wq_fbk, wq_fct, wq_mut1, wq_for, val_E1, val_E2, val_iNil, val_iBy, val_iIo, val_eCallI, val_tAnd2, val_tOr2, val_tNot2, val_eTpl, wp_stuck, wq_stuck, wp_unp, wq_unp, wp_for2, wq_for2, wp_ins, wq_ins, wp_mut0, wq_mut0, wq_mutP, wq_putP, wp_augP, wq_augP, wp_put2, wq_put2, val_runI, val_runIU, opt_isBB, opt_isnBB, opt_ixTp, opt_sortR, opt_sortP, val_runRU, val_ePop, wp_dput, wq_dput, opt_inD, opt_ninD, opt_lenD, opt_getDo, opt_and, val_eDget, val_eIxO, opt_isNo, opt_isSo, opt_unO, opt_toO, numF_id, wq_forO, wp_forO, val_eCutS, val_eTl, val_eCut2, val_eCallX, wp_raise, opt_cnt, opt_allB, opt_scI, opt_scB, opt_scS, opt_scN, opt_lsY, opt_toI, opt_inQz, opt_inQq, opt_toZ, opt_keysZ, wp_dputQ, wp_dpopQ, wp_dcopy, opt_toHH, opt_lenTp, opt_atH0, opt_atH1, wp_appH, opt_lsA, opt_stA, opt_unA_l, opt_isLA_l, opt_isLA_s, val_chn, val_popP, wq_insP, wp_insP, wq_mutIx, wq_appE, wp_dputS, wq_dputS, val_pDk, val_pFst, opt_inS, opt_ninS, opt_getSo, opt_ltS, opt_gtS, opt_lsYS, isListU, unUL, osm, Bool.not_true, Bool.false_eq_true, if_false]
      rw [if_pos (by simp; omega)]
      trivial
theorem l_copy0_ok (u : Sc) : m_l_copy0 (u, ()) = .ok u := by cases u <;> rfl
theorem cv_self {α : Type} [PyTy α] (l : List α) {Q : Up α → Prop} : opt (cvO (β := List α) (α := Up α) l) Q = Q (.l l) := by
  show Q (.l (l.map id)) = Q (.l l)
  rw [List.map_id]
theorem l_copy1_ok (u : Up Sc) : m_l_copy1 (u, ()) = .ok u := by
  cases u with
  | sc x => cases x <;> rfl
  | t x => rfl
  | l xs =>
    refine val_eq ?_
    have osm : ∀ {α : Type} {a : α} {Q : α → Prop}, opt (some a) Q = Q a := fun {α a Q} => rfl
    simp only [m_l_copy1, b_l_copy1, val_ok, val_er, val_bind, val_up, val_mute, val_ite, opt_some, opt_none, opt_ite, val_e0, val_eV, val_e1, val_e2, val_e3, val_eIf, val_eAnd, val_eOr, val_lift, val_eNil, val_eCons, val_eLst, val_ePair, val_eEnum, val_eZip, val_eRev, val_oNone, val_oSome, val_eCut, val_aNil, val_aCons, val_eCall, val_eLc, wp_nx, wp_rt, wp_bk, wp_ct, wp_bind, wp_seq, wp_set, wp_if, wp_ret, wp_drop, wp_nil, wp_fbk, wp_fct, wp_mut1, wp_for, val_runR, opt_add, opt_sub, opt_neg, opt_lt, opt_le, opt_gt, opt_ge, opt_eqS, opt_neS, opt_eqD, opt_neD, opt_in, opt_nin, opt_len, opt_lenScr, opt_abs, opt_max2, opt_min2, opt_sum, opt_sort, opt_intB, opt_maxC, opt_minC, val_pV, val_pIx, wp_mutP, wp_putP, wq_nx, wq_rt, wq_bk, wq_ct, wq_bind, wq_seq, wq_set, wq_if, wq_ret, wq_drop, wq_nil, wq_fbk, wq_fct, wq_mut1, wq_for, val_E1, val_E2, val_iNil, val_iBy, val_iIo, val_eCallI, val_tAnd2, val_tOr2, val_tNot2, val_eTpl, wp_stuck, wq_stuck, wp_unp, wq_unp, wp_for2, wq_for2, wp_ins, wq_ins, wp_mut0, wq_mut0, wq_mutP, wq_putP, wp_augP, wq_augP, wp_put2, wq_put2, val_runI, val_runIU, opt_isBB, opt_isnBB, opt_ixTp, opt_sortR, opt_sortP, val_runRU, val_ePop, wp_dput, wq_dput, opt_inD, opt_ninD, opt_lenD, opt_getDo, opt_and, val_eDget, val_eIxO, opt_isNo, opt_isSo, opt_unO, opt_toO, numF_id, wq_forO, wp_forO, val_eCutS, val_eTl, val_eCut2, val_eCallX, wp_raise, opt_cnt, opt_allB, opt_scI, opt_scB, opt_scS, opt_scN, opt_lsY, opt_toI, opt_inQz, opt_inQq, opt_toZ, opt_keysZ, wp_dputQ, wp_dpopQ, wp_dcopy, opt_toHH, opt_lenTp, opt_atH0, opt_atH1, wp_appH, opt_lsA, opt_stA, opt_unA_l, opt_isLA_l, opt_isLA_s, val_chn, val_popP, wq_insP, wp_insP, wq_mutIx, wq_appE, wp_dputS, wq_dputS, val_pDk, val_pFst, opt_inS, opt_ninS, opt_getSo, opt_ltS, opt_gtS, opt_lsYS, isListU, unUL, osm, if_true]
    refine val_lcA (fun x => x) (fun x _ => by simp only [val_ok, val_er, val_bind, val_up, val_mute, val_ite, opt_some, opt_none, opt_ite, val_e0, val_eV, val_e1, val_e2, val_e3, val_eIf, val_eAnd, val_eOr, val_lift, val_eNil, val_eCons, val_eLst, val_ePair, val_eEnum, val_eZip, val_eRev, val_oNone, val_oSome, val_eCut, val_aNil, val_aCons, val_eCall, val_eLc, wp_nx, wp_rt, wp_bk, wp_ct, wp_bind, wp_seq, wp_set, wp_if, wp_ret, wp_drop, wp_nil, wp_fbk, wp_fct, wp_mut1, wp_for, val_runR, opt_add, opt_sub, opt_neg, opt_lt, opt_le, opt_gt, opt_ge, opt_eqS, opt_neS, opt_eqD, opt_neD, opt_in, opt_nin, opt_len, opt_lenScr, opt_abs, opt_max2, opt_min2, opt_sum, opt_sort, opt_intB, opt_maxC, opt_minC, val_pV, val_pIx, wp_mutP, wp_putP, wq_nx, wq_rt, wq_bk, wq_ct, wq_bind, wq_seq, wq_set, wq_if, wq_ret, wq_drop, wq_nil, wq_fbk, wq_fct, wq_mut1, wq_for, val_E1, val_E2, val_iNil, val_iBy, val_iIo, val_eCallI, val_tAnd2, val_tOr2, val_tNot2, val_eTpl, wp_stuck, wq_stuck, wp_unp, wq_unp, wp_for2, wq_for2, wp_ins, wq_ins, wp_mut0, wq_mut0, wq_mutP, wq_putP, wp_augP, wq_augP, wp_put2, wq_put2, val_runI, val_runIU, opt_isBB, opt_isnBB, opt_ixTp, opt_sortR, opt_sortP, val_runRU, val_ePop, wp_dput, wq_dput, opt_inD, opt_ninD, opt_lenD, opt_getDo, opt_and, val_eDget, val_eIxO, opt_isNo, opt_isSo, opt_unO, opt_toO, numF_id, wq_forO, wp_forO, val_eCutS, val_eTl, val_eCut2, val_eCallX, wp_raise, opt_cnt, opt_allB, opt_scI, opt_scB, opt_scS, opt_scN, opt_lsY, opt_toI, opt_inQz, opt_inQq, opt_toZ, opt_keysZ, wp_dputQ, wp_dpopQ, wp_dcopy, opt_toHH, opt_lenTp, opt_atH0, opt_atH1, wp_appH, opt_lsA, opt_stA, opt_unA_l, opt_isLA_l, opt_isLA_s, val_chn, val_popP, wq_insP, wp_insP, wq_mutIx, wq_appE, wp_dputS, wq_dputS, val_pDk, val_pFst, opt_inS, opt_ninS, opt_getSo, opt_ltS, opt_gtS, opt_lsYS, l_copy0_ok]) ?_
    rw [List.map_id', cv_self]
theorem l_copy2_ok (u : Up (Up Sc)) : m_l_copy2 (u, ()) = .ok u := by
  cases u with
  | sc x => cases x <;> rfl
  | t x => rfl
  | l xs =>
    refine val_eq ?_
    have osm : ∀ {α : Type} {a : α} {Q : α → Prop}, opt (some a) Q = Q a := fun {α a Q} => rfl
    simp only [m_l_copy2, b_l_copy2, val_ok, val_er, val_bind, val_up, val_mute, val_ite, opt_some, opt_none, opt_ite, val_e0, val_eV, val_e1, val_e2, val_e3, val_eIf, val_eAnd, val_eOr, val_lift, val_eNil, val_eCons, val_eLst, val_ePair, val_eEnum, val_eZip, val_eRev, val_oNone, val_oSome, val_eCut, val_aNil, val_aCons, val_eCall, val_eLc, wp_nx, wp_rt, wp_bk, wp_ct, wp_bind, wp_seq, wp_set, wp_if, wp_ret, wp_drop, wp_nil, wp_fbk, wp_fct, wp_mut1, wp_for, val_runR, opt_add, opt_sub, opt_neg, opt_lt, opt_le, opt_gt, opt_ge, opt_eqS, opt_neS, opt_eqD, opt_neD, opt_in, opt_nin, opt_len, opt_lenScr, opt_abs, opt_max2, opt_min2, opt_sum, opt_sort, opt_intB, opt_maxC, opt_minC, val_pV, val_pIx, wp_mutP, wp_putP, wq_nx, wq_rt, wq_bk, wq_ct, wq_bind, wq_seq, wq_set, wq_if, wq_ret, wq_drop, wq_nil, wq_fbk, wq_fct, wq_mut1, wq_for, val_E1, val_E2, val_iNil, val_iBy, val_iIo, val_eCallI, val_tAnd2, val_tOr2, val_tNot2, val_eTpl, wp_stuck, wq_stuck, wp_unp, wq_unp, wp_for2, wq_for2, wp_ins, wq_ins, wp_mut0, wq_mut0, wq_mutP, wq_putP, wp_augP, wq_augP, wp_put2, wq_put2, val_runI, val_runIU, opt_isBB, opt_isnBB, opt_ixTp, opt_sortR, opt_sortP, val_runRU, val_ePop, wp_dput, wq_dput, opt_inD, opt_ninD, opt_lenD, opt_getDo, opt_and, val_eDget, val_eIxO, opt_isNo, opt_isSo, opt_unO, opt_toO, numF_id, wq_forO, wp_forO, val_eCutS, val_eTl, val_eCut2, val_eCallX, wp_raise, opt_cnt, opt_allB, opt_scI, opt_scB, opt_scS, opt_scN, opt_lsY, opt_toI, opt_inQz, opt_inQq, opt_toZ, opt_keysZ, wp_dputQ, wp_dpopQ, wp_dcopy, opt_toHH, opt_lenTp, opt_atH0, opt_atH1, wp_appH, opt_lsA, opt_stA, opt_unA_l, opt_isLA_l, opt_isLA_s, val_chn, val_popP, wq_insP, wp_insP, wq_mutIx, wq_appE, wp_dputS, wq_dputS, val_pDk, val_pFst, opt_inS, opt_ninS, opt_getSo, opt_ltS, opt_gtS, opt_lsYS, isListU, unUL, osm, if_true]
    refine val_lcA (fun x => x) (fun x _ => by simp only [val_ok, val_er, val_bind, val_up, val_mute, val_ite, opt_some, opt_none, opt_ite, val_e0, val_eV, val_e1, val_e2, val_e3, val_eIf, val_eAnd, val_eOr, val_lift, val_eNil, val_eCons, val_eLst, val_ePair, val_eEnum, val_eZip, val_eRev, val_oNone, val_oSome, val_eCut, val_aNil, val_aCons, val_eCall, val_eLc, wp_nx, wp_rt, wp_bk, wp_ct, wp_bind, wp_seq, wp_set, wp_if, wp_ret, wp_drop, wp_nil, wp_fbk, wp_fct, wp_mut1, wp_for, val_runR, opt_add, opt_sub, opt_neg, opt_lt, opt_le, opt_gt, opt_ge, opt_eqS, opt_neS, opt_eqD, opt_neD, opt_in, opt_nin, opt_len, opt_lenScr, opt_abs, opt_max2, opt_min2, opt_sum, opt_sort, opt_intB, opt_maxC, opt_minC, val_pV, val_pIx, wp_mutP, wp_putP, wq_nx, wq_rt, wq_bk, wq_ct, wq_bind, wq_seq, wq_set, wq_if, wq_ret, wq_drop, wq_nil, wq_fbk, wq_fct, wq_mut1, wq_for, val_E1, val_E2, val_iNil, val_iBy, val_iIo, val_eCallI, val_tAnd2, val_tOr2, val_tNot2, val_eTpl, wp_stuck, wq_stuck, wp_unp, wq_unp, wp_for2, wq_for2, wp_ins, wq_ins, wp_mut0, wq_mut0, wq_mutP, wq_putP, wp_augP, wq_augP, wp_put2, wq_put2, val_runI, val_runIU, opt_isBB, opt_isnBB, opt_ixTp, opt_sortR, opt_sortP, val_runRU, val_ePop, wp_dput, wq_dput, opt_inD, opt_ninD, opt_lenD, opt_getDo, opt_and, val_eDget, val_eIxO, opt_isNo, opt_isSo, opt_unO, opt_toO, numF_id, wq_forO, wp_forO, val_eCutS, val_eTl, val_eCut2, val_eCallX, wp_raise, opt_cnt, opt_allB, opt_scI, opt_scB, opt_scS, opt_scN, opt_lsY, opt_toI, opt_inQz, opt_inQq, opt_toZ, opt_keysZ, wp_dputQ, wp_dpopQ, wp_dcopy, opt_toHH, opt_lenTp, opt_atH0, opt_atH1, wp_appH, opt_lsA, opt_stA, opt_unA_l, opt_isLA_l, opt_isLA_s, val_chn, val_popP, wq_insP, wp_insP, wq_mutIx, wq_appE, wp_dputS, wq_dputS, val_pDk, val_pFst, opt_inS, opt_ninS, opt_getSo, opt_ltS, opt_gtS, opt_lsYS, l_copy1_ok]) ?_
    rw [List.map_id', cv_self]
theorem l_copy_ok (u : Up (Up (Up Sc))) : m_l_copy (u, ()) = .ok u := by
  cases u with
  | sc x => cases x <;> rfl
  | t x => rfl
  | l xs =>
    refine val_eq ?_
    have osm : ∀ {α : Type} {a : α} {Q : α → Prop}, opt (some a) Q = Q a := fun {α a Q} => rfl
    simp only [m_l_copy, b_l_copy, val_ok, val_er, val_bind, val_up, val_mute, val_ite, opt_some, opt_none, opt_ite, val_e0, val_eV, val_e1, val_e2, val_e3, val_eIf, val_eAnd, val_eOr, val_lift, val_eNil, val_eCons, val_eLst, val_ePair, val_eEnum, val_eZip, val_eRev, val_oNone, val_oSome, val_eCut, val_aNil, val_aCons, val_eCall, val_eLc, wp_nx, wp_rt, wp_bk, wp_ct, wp_bind, wp_seq, wp_set, wp_if, wp_ret, wp_drop, wp_nil, wp_fbk, wp_fct, wp_mut1, wp_for, val_runR, opt_add, opt_sub, opt_neg, opt_lt, opt_le, opt_gt, opt_ge, opt_eqS, opt_neS, opt_eqD, opt_neD, opt_in, opt_nin, opt_len, opt_lenScr, opt_abs, opt_max2, opt_min2, opt_sum, opt_sort, opt_intB, opt_maxC, opt_minC, val_pV, val_pIx, wp_mutP, wp_putP, wq_nx, wq_rt, wq_bk, wq_ct, wq_bind, wq_seq, wq_set, wq_if, wq_ret, wq_drop, wq_nil, wq_fbk, wq_fct, wq_mut1, wq_for, val_E1, val_E2, val_iNil, val_iBy, val_iIo, val_eCallI, val_tAnd2, val_tOr2, val_tNot2, val_eTpl, wp_stuck, wq_stuck, wp_unp, wq_unp, wp_for2, wq_for2, wp_ins, wq_ins, wp_mut0, wq_mut0, wq_mutP, wq_putP, wp_augP, wq_augP, wp_put2, wq_put2, val_runI, val_runIU, opt_isBB, opt_isnBB, opt_ixTp, opt_sortR, opt_sortP, val_runRU, val_ePop, wp_dput, wq_dput, opt_inD, opt_ninD, opt_lenD, opt_getDo, opt_and, val_eDget, val_eIxO, opt_isNo, opt_isSo, opt_unO, opt_toO, numF_id, wq_forO, wp_forO, val_eCutS, val_eTl, val_eCut2, val_eCallX, wp_raise, opt_cnt, opt_allB, opt_scI, opt_scB, opt_scS, opt_scN, opt_lsY, opt_toI, opt_inQz, opt_inQq, opt_toZ, opt_keysZ, wp_dputQ, wp_dpopQ, wp_dcopy, opt_toHH, opt_lenTp, opt_atH0, opt_atH1, wp_appH, opt_lsA, opt_stA, opt_unA_l, opt_isLA_l, opt_isLA_s, val_chn, val_popP, wq_insP, wp_insP, wq_mutIx, wq_appE, wp_dputS, wq_dputS, val_pDk, val_pFst, opt_inS, opt_ninS, opt_getSo, opt_ltS, opt_gtS, opt_lsYS, isListU, unUL, osm, if_true]
    refine val_lcA (fun x => x) (fun x _ => by simp only [val_ok, val_er, val_bind, val_up, val_mute, val_ite, opt_some, opt_none, opt_ite, val_e0, val_eV, val_e1, val_e2, val_e3, val_eIf, val_eAnd, val_eOr, val_lift, val_eNil, val_eCons, val_eLst, val_ePair, val_eEnum, val_eZip, val_eRev, val_oNone, val_oSome, val_eCut, val_aNil, val_aCons, val_eCall, val_eLc, wp_nx, wp_rt, wp_bk, wp_ct, wp_bind, wp_seq, wp_set, wp_if, wp_ret, wp_drop, wp_nil, wp_fbk, wp_fct, wp_mut1, wp_for, val_runR, opt_add, opt_sub, opt_neg, opt_lt, opt_le, opt_gt, opt_ge, opt_eqS, opt_neS, opt_eqD, opt_neD, opt_in, opt_nin, opt_len, opt_lenScr, opt_abs, opt_max2, opt_min2, opt_sum, opt_sort, opt_intB, opt_maxC, opt_minC, val_pV, val_pIx, wp_mutP, wp_putP, wq_nx, wq_rt, wq_bk, wq_ct, wq_bind, wq_seq, wq_set, wq_if, wq_ret, wq_drop, wq_nil, wq_fbk, wq_fct, wq_mut1, wq_for, val_E1, val_E2, val_iNil, val_iBy, val_iIo, val_eCallI, val_tAnd2, val_tOr2, val_tNot2, val_eTpl, wp_stuck, wq_stuck, wp_unp, wq_unp, wp_for2, wq_for2, wp_ins, wq_ins, wp_mut0, wq_mut0, wq_mutP, wq_putP, wp_augP, wq_augP, wp_put2, wq_put2, val_runI, val_runIU, opt_isBB, opt_isnBB, opt_ixTp, opt_sortR, opt_sortP, val_runRU, val_ePop, wp_dput, wq_dput, opt_inD, opt_ninD, opt_lenD, opt_getDo, opt_and, val_eDget, val_eIxO, opt_isNo, opt_isSo, opt_unO, opt_toO, numF_id, wq_forO, wp_forO, val_eCutS, val_eTl, val_eCut2, val_eCallX, wp_raise, opt_cnt, opt_allB, opt_scI, opt_scB, opt_scS, opt_scN, opt_lsY, opt_toI, opt_inQz, opt_inQq, opt_toZ, opt_keysZ, wp_dputQ, wp_dpopQ, wp_dcopy, opt_toHH, opt_lenTp, opt_atH0, opt_atH1, wp_appH, opt_lsA, opt_stA, opt_unA_l, opt_isLA_l, opt_isLA_s, val_chn, val_popP, wq_insP, wp_insP, wq_mutIx, wq_appE, wp_dputS, wq_dputS, val_pDk, val_pFst, opt_inS, opt_ninS, opt_getSo, opt_ltS, opt_gtS, opt_lsYS, l_copy2_ok]) ?_
    rw [List.map_id', cv_self]
def Refl (α : Type) [PyTy α] [T : DatC α] : Prop := ∀ a : α, PyData.eqv (T.toD a) (T.toD a) = true
theorem refl_all {α : Type} [PyTy α] [T : DatC α] (h : Refl α) : ∀ l : List α, PyData.eqvAll (l.map T.toD) (l.map T.toD) = true
  | [] => rfl
  | a :: l => by
    show (PyData.eqv (T.toD a) (T.toD a) && PyData.eqvAll (l.map T.toD) (l.map T.toD)) = true
    rw [h a, refl_all h l]
    rfl
theorem refl_sc : Refl Sc := eqv_sc
theorem refl_up {α : Type} [PyTy α] [T : DatC α] (h : Refl α) : Refl (Up α) := fun u => by
  cases u with
  | sc x => exact eqv_sc x
  | l x => exact refl_all h x
  | t x => exact refl_all h x
theorem opt_neU {u : Up (Up (Up Sc))} {Q : Bool → Prop} (h : layC u = true) : opt (neC u u) Q = Q false := by
  unfold neC
  rw [if_pos (by rw [h]; rfl)]
  show Q (!PyData.eqv (DatC.toD u) (DatC.toD u)) = Q false
  rw [refl_up (refl_up (refl_up refl_sc)) u]
  rfl
def rowU (row : List Int) : Up (Up Sc) := .l (row.map ui)
theorem ints_at {o : List (List Int)} {n : Int} {row : List Int} (e : o[n.toNat]? = some row) : intsAt (o.map rowU) n = row := by
  unfold intsAt
  rw [List.getElem?_map, e]
  show (allUI (row.map ui)).getD [] = row
  rw [allUI_map]
  rfl
theorem good_up {j : Int} : ∀ {row : List Int} {last : Int}, row.Pairwise (· < ·) → (∀ x ∈ row, last < x ∧ x < j) → good1 j last (row.map ui) = true
  | [], _, _, _ => rfl
  | n :: row, last, h, g => by
    obtain ⟨h1, h2⟩ := List.pairwise_cons.mp h
    have := g n List.mem_cons_self
    show good1 j last (ui n :: row.map ui) = true
    rw [good1_some (show unUI (ui n) = some n from rfl), if_neg (by omega)]
    exact good_up h2 fun x hx => ⟨h1 x hx, (g x (List.mem_cons_of_mem _ hx)).2⟩
theorem ord_told {o : List (List Int)} (h : IsOrd o) (hl : o.length ≤ 14) : ordU (.l (o.map rowU)) = true := by
  show (decide ((o.map rowU).length ≤ 14) && (List.range (o.map rowU).length).all (pl (o.map rowU))) = true
  rw [List.length_map, decide_eq_true hl, Bool.true_and]
  refine List.all_eq_true.mpr fun j hj => ?_
  obtain ⟨row, er⟩ := at_some (l := o) (j := j) (List.mem_range.mp hj)
  rw [pl_at (show (o.map rowU)[j]? = some (rowU row) by rw [List.getElem?_map, er]; rfl)]
  show (good1 j (-1) (row.map ui) && ((allUI (row.map ui)).getD []).all (subs (o.map rowU) ((allUI (row.map ui)).getD []))) = true
  rw [allUI_map, good_up (h.up er) fun x hx => by have := h.lo er x hx; omega, Bool.true_and]
  show row.all (subs (o.map rowU) row) = true
  refine List.all_eq_true.mpr fun n hn => ?_
  have hlo := h.lo er n hn
  obtain ⟨row', er'⟩ := at_some (l := o) (j := n.toNat) (by have := at_lt er; omega)
  unfold subs
  rw [ints_at er']
  exact List.all_eq_true.mpr fun m hm => decide_eq_true (h.tr er n hn row' er' m hm)
theorem cut_short {α : Type} (l : List α) (a b : Option Int) : (cutA l a b).length ≤ l.length := by
  unfold cutA
  rw [List.length_take, List.length_drop]
  omega
theorem lay_rowU (row : List Int) : layC (rowU row) = true := lay_uis row
theorem lay_up {xs : List (Up Sc)} (h : ∀ x ∈ xs, layC x = true) : layC (Up.l xs : Up (Up Sc)) = true := lay_list h
theorem lay_upt {xs : List (Up Sc)} (h : ∀ x ∈ xs, layC x = true) : layC (Up.t xs : Up (Up Sc)) = true := lay_list h
theorem lay_th {xs : List (Up (Up Sc))} (h : ∀ x ∈ xs, layC x = true) : layC (Up.l xs : Up (Up (Up Sc))) = true := lay_list h
theorem lay_tht {xs : List (Up (Up Sc))} (h : ∀ x ∈ xs, layC x = true) : layC (Up.t xs : Up (Up (Up Sc))) = true := lay_list h
theorem cv_I {n : Int} {α : Type} [PyTy α] {Q : Up α → Prop} : opt (cvO (β := Int) (α := Up α) n) Q = Q (.sc (.i n)) := rfl
theorem cv_LI {l : List Int} {Q : Up (Up Sc) → Prop} : opt (cvO (β := List Int) (α := Up (Up Sc)) l) Q = Q (rowU l) := rfl
theorem cv_TI {l : List Int} {Q : Up (Up Sc) → Prop} : opt (cvO (β := Tp Int) (α := Up (Up Sc)) ⟨l⟩) Q = Q (.t (l.map ui)) := rfl
theorem cv_LU {l : List Int} {Q : List (Up Sc) → Prop} : opt (cvO (β := List Int) (α := List (Up Sc)) l) Q = Q (l.map ui) := rfl
theorem cv_B {n : Bool} {α : Type} [PyTy α] {Q : Up α → Prop} : opt (cvO (β := Bool) (α := Up α) n) Q = Q (.sc (.b n)) := rfl
theorem cv_S {n : Str} {α : Type} [PyTy α] {Q : Up α → Prop} : opt (cvO (β := Str) (α := Up α) n) Q = Q (.sc (.s n)) := rfl
theorem cv_U {n : Unit} {α : Type} [PyTy α] {Q : Up α → Prop} : opt (cvO (β := Unit) (α := Up α) n) Q = Q (.sc .non) := rfl
theorem cv_T {α : Type} [PyTy α] (l : List α) {Q : Up α → Prop} : opt (cvO (β := Tp α) (α := Up α) ⟨l⟩) Q = Q (.t l) := by
  show Q (.t (l.map id)) = Q (.t l)
  rw [List.map_id]
theorem un_rowU {l : List Int} {Q : List Int → Prop} : opt (unULI (rowU l)) Q = Q l := by
  show opt (allUI (l.map ui)) Q = Q l
  rw [allUI_map]
  rfl
theorem lay_zero : layC ("0" : Str) = true := lay_str fun c hc => by
  rw [List.mem_singleton.mp (show c ∈ ([48] : List Nat) from hc)]
  decide
theorem lay_empty : layC ("" : Str) = true := lay_str fun c hc => nomatch (show c ∈ ([] : List Nat) from hc)
set_option maxHeartbeats 2000000 in
theorem l_spoilt_ok {o : List (List Int)} (h : IsOrd o) (hl : o.length ≤ 14) (c : Int) : ∃ u, m_l_spoilt (o, c, ()) = .ok u ∧ layC u = true := by
  have osm : ∀ {α : Type} {a : α} {Q : α → Prop}, opt (some a) Q = Q a := fun {α a Q} => rfl
  have b24 : (1000 : Nat) ≤ 2 ^ 24 := by decide
  have hrow : ∀ row ∈ o, row.length ≤ 14 := fun row hr => by
    obtain ⟨j, ej⟩ := List.getElem?_of_mem hr
    have h1 := nodup_few (l := row) (n := j) ((h.up ej).imp fun z => Int.ne_of_lt z) (h.lo ej)
    have := at_lt ej
    omega
  refine val_ex ?_
  simp only [m_l_spoilt, b_l_spoilt, val_runR]
  refine wp_step (fun r => (r.v_order_here = o ∧ r.v_cell_here = c) ∧ r.v_rows = o.map rowU) ?_ fun r ⟨⟨a1, a2⟩, a3⟩ => ?_
  · simp only [val_ok, val_er, val_bind, val_up, val_mute, val_ite, opt_some, opt_none, opt_ite, val_e0, val_eV, val_e1, val_e2, val_e3, val_eIf, val_eAnd, val_eOr, val_lift, val_eNil, val_eCons, val_eLst, val_ePair, val_eEnum, val_eZip, val_eRev, val_oNone, val_oSome, val_eCut, val_aNil, val_aCons, val_eCall, val_eLc, wp_nx, wp_rt, wp_bk, wp_ct, wp_bind, wp_seq, wp_set, wp_if, wp_ret, wp_drop, wp_nil, wp_fbk, wp_fct, wp_mut1, wp_for, val_runR, opt_add, opt_sub, opt_neg, opt_lt, opt_le, opt_gt, opt_ge, opt_eqS, opt_neS, opt_eqD, opt_neD, opt_in, opt_nin, opt_len, opt_lenScr, opt_abs, opt_max2, opt_min2, opt_sum, opt_sort, opt_intB, opt_maxC, opt_minC, val_pV, val_pIx, wp_mutP, wp_putP, wq_nx, wq_rt, wq_bk, wq_ct, wq_bind, wq_seq, wq_set, wq_if, wq_ret, wq_drop, wq_nil, wq_fbk, wq_fct, wq_mut1, wq_for, val_E1, val_E2, val_iNil, val_iBy, val_iIo, val_eCallI, val_tAnd2, val_tOr2, val_tNot2, val_eTpl, wp_stuck, wq_stuck, wp_unp, wq_unp, wp_for2, wq_for2, wp_ins, wq_ins, wp_mut0, wq_mut0, wq_mutP, wq_putP, wp_augP, wq_augP, wp_put2, wq_put2, val_runI, val_runIU, opt_isBB, opt_isnBB, opt_ixTp, opt_sortR, opt_sortP, val_runRU, val_ePop, wp_dput, wq_dput, opt_inD, opt_ninD, opt_lenD, opt_getDo, opt_and, val_eDget, val_eIxO, opt_isNo, opt_isSo, opt_unO, opt_toO, numF_id, wq_forO, wp_forO, val_eCutS, val_eTl, val_eCut2, val_eCallX, wp_raise, opt_cnt, opt_allB, opt_scI, opt_scB, opt_scS, opt_scN, opt_lsY, opt_toI, opt_inQz, opt_inQq, opt_toZ, opt_keysZ, wp_dputQ, wp_dpopQ, wp_dcopy, opt_toHH, opt_lenTp, opt_atH0, opt_atH1, wp_appH, opt_lsA, opt_stA, opt_unA_l, opt_isLA_l, opt_isLA_s, val_chn, val_popP, wq_insP, wp_insP, wq_mutIx, wq_appE, wp_dputS, wq_dputS, val_pDk, val_pFst, opt_inS, opt_ninS, opt_getSo, opt_ltS, opt_gtS, opt_lsYS]
    refine val_lcA rowU (fun row _ => by simp only [val_ok, val_er, val_bind, val_up, val_mute, val_ite, opt_some, opt_none, opt_ite, val_e0, val_eV, val_e1, val_e2, val_e3, val_eIf, val_eAnd, val_eOr, val_lift, val_eNil, val_eCons, val_eLst, val_ePair, val_eEnum, val_eZip, val_eRev, val_oNone, val_oSome, val_eCut, val_aNil, val_aCons, val_eCall, val_eLc, wp_nx, wp_rt, wp_bk, wp_ct, wp_bind, wp_seq, wp_set, wp_if, wp_ret, wp_drop, wp_nil, wp_fbk, wp_fct, wp_mut1, wp_for, val_runR, opt_add, opt_sub, opt_neg, opt_lt, opt_le, opt_gt, opt_ge, opt_eqS, opt_neS, opt_eqD, opt_neD, opt_in, opt_nin, opt_len, opt_lenScr, opt_abs, opt_max2, opt_min2, opt_sum, opt_sort, opt_intB, opt_maxC, opt_minC, val_pV, val_pIx, wp_mutP, wp_putP, wq_nx, wq_rt, wq_bk, wq_ct, wq_bind, wq_seq, wq_set, wq_if, wq_ret, wq_drop, wq_nil, wq_fbk, wq_fct, wq_mut1, wq_for, val_E1, val_E2, val_iNil, val_iBy, val_iIo, val_eCallI, val_tAnd2, val_tOr2, val_tNot2, val_eTpl, wp_stuck, wq_stuck, wp_unp, wq_unp, wp_for2, wq_for2, wp_ins, wq_ins, wp_mut0, wq_mut0, wq_mutP, wq_putP, wp_augP, wq_augP, wp_put2, wq_put2, val_runI, val_runIU, opt_isBB, opt_isnBB, opt_ixTp, opt_sortR, opt_sortP, val_runRU, val_ePop, wp_dput, wq_dput, opt_inD, opt_ninD, opt_lenD, opt_getDo, opt_and, val_eDget, val_eIxO, opt_isNo, opt_isSo, opt_unO, opt_toO, numF_id, wq_forO, wp_forO, val_eCutS, val_eTl, val_eCut2, val_eCallX, wp_raise, opt_cnt, opt_allB, opt_scI, opt_scB, opt_scS, opt_scN, opt_lsY, opt_toI, opt_inQz, opt_inQq, opt_toZ, opt_keysZ, wp_dputQ, wp_dpopQ, wp_dcopy, opt_toHH, opt_lenTp, opt_atH0, opt_atH1, wp_appH, opt_lsA, opt_stA, opt_unA_l, opt_isLA_l, opt_isLA_s, val_chn, val_popP, wq_insP, wp_insP, wq_mutIx, wq_appE, wp_dputS, wq_dputS, val_pDk, val_pFst, opt_inS, opt_ninS, opt_getSo, opt_ltS, opt_gtS, opt_lsYS, osm, cv_LI]) ?_
    exact ⟨⟨by trivial, by trivial⟩, by trivial⟩
  refine wp_step (fun r => (r.v_rows = o.map rowU ∧ r.v_cell_here = c)) ?_ fun r ⟨a3, a2⟩ => ?_
  · simp only [val_ok, val_er, val_bind, val_up, val_mute, val_ite, opt_some, opt_none, opt_ite, val_e0, val_eV, val_e1, val_e2, val_e3, val_eIf, val_eAnd, val_eOr, val_lift, val_eNil, val_eCons, val_eLst, val_ePair, val_eEnum, val_eZip, val_eRev, val_oNone, val_oSome, val_eCut, val_aNil, val_aCons, val_eCall, val_eLc, wp_nx, wp_rt, wp_bk, wp_ct, wp_bind, wp_seq, wp_set, wp_if, wp_ret, wp_drop, wp_nil, wp_fbk, wp_fct, wp_mut1, wp_for, val_runR, opt_add, opt_sub, opt_neg, opt_lt, opt_le, opt_gt, opt_ge, opt_eqS, opt_neS, opt_eqD, opt_neD, opt_in, opt_nin, opt_len, opt_lenScr, opt_abs, opt_max2, opt_min2, opt_sum, opt_sort, opt_intB, opt_maxC, opt_minC, val_pV, val_pIx, wp_mutP, wp_putP, wq_nx, wq_rt, wq_bk, wq_ct, wq_bind, wq_seq, wq_set, wq_if, wq_ret, wq_drop, wq_nil, wq_fbk, wq_fct, wq_mut1, wq_for, val_E1, val_E2, val_iNil, val_iBy, val_iIo, val_eCallI, val_tAnd2, val_tOr2, val_tNot2, val_eTpl, wp_stuck, wq_stuck, wp_unp, wq_unp, wp_for2, wq_for2, wp_ins, wq_ins, wp_mut0, wq_mut0, wq_mutP, wq_putP, wp_augP, wq_augP, wp_put2, wq_put2, val_runI, val_runIU, opt_isBB, opt_isnBB, opt_ixTp, opt_sortR, opt_sortP, val_runRU, val_ePop, wp_dput, wq_dput, opt_inD, opt_ninD, opt_lenD, opt_getDo, opt_and, val_eDget, val_eIxO, opt_isNo, opt_isSo, opt_unO, opt_toO, numF_id, wq_forO, wp_forO, val_eCutS, val_eTl, val_eCut2, val_eCallX, wp_raise, opt_cnt, opt_allB, opt_scI, opt_scB, opt_scS, opt_scN, opt_lsY, opt_toI, opt_inQz, opt_inQq, opt_toZ, opt_keysZ, wp_dputQ, wp_dpopQ, wp_dcopy, opt_toHH, opt_lenTp, opt_atH0, opt_atH1, wp_appH, opt_lsA, opt_stA, opt_unA_l, opt_isLA_l, opt_isLA_s, val_chn, val_popP, wq_insP, wp_insP, wq_mutIx, wq_appE, wp_dputS, wq_dputS, val_pDk, val_pFst, opt_inS, opt_ninS, opt_getSo, opt_ltS, opt_gtS, opt_lsYS, a2, opt_modE (y := 11) (by decide)]
    exact ⟨a3, by first | trivial | exact a2⟩
  have layR : ∀ x ∈ o.map rowU, layC x = true := fun x hx => by
    obtain ⟨row, _, rfl⟩ := List.mem_map.mp hx
    exact lay_rowU row
  refine wp_step (fun r => (r.v_rows = o.map rowU ∧ r.v_cell_here = c)) ?_ fun r ⟨a3, a2⟩ => ?_
  · rw [wp_if]
    simp only [val_lift, val_e2, val_eV, val_e0, opt_eqS]
    split
    · simp only [val_ok, val_er, val_bind, val_up, val_mute, val_ite, opt_some, opt_none, opt_ite, val_e0, val_eV, val_e1, val_e2, val_e3, val_eIf, val_eAnd, val_eOr, val_lift, val_eNil, val_eCons, val_eLst, val_ePair, val_eEnum, val_eZip, val_eRev, val_oNone, val_oSome, val_eCut, val_aNil, val_aCons, val_eCall, val_eLc, wp_nx, wp_rt, wp_bk, wp_ct, wp_bind, wp_seq, wp_set, wp_if, wp_ret, wp_drop, wp_nil, wp_fbk, wp_fct, wp_mut1, wp_for, val_runR, opt_add, opt_sub, opt_neg, opt_lt, opt_le, opt_gt, opt_ge, opt_eqS, opt_neS, opt_eqD, opt_neD, opt_in, opt_nin, opt_len, opt_lenScr, opt_abs, opt_max2, opt_min2, opt_sum, opt_sort, opt_intB, opt_maxC, opt_minC, val_pV, val_pIx, wp_mutP, wp_putP, wq_nx, wq_rt, wq_bk, wq_ct, wq_bind, wq_seq, wq_set, wq_if, wq_ret, wq_drop, wq_nil, wq_fbk, wq_fct, wq_mut1, wq_for, val_E1, val_E2, val_iNil, val_iBy, val_iIo, val_eCallI, val_tAnd2, val_tOr2, val_tNot2, val_eTpl, wp_stuck, wq_stuck, wp_unp, wq_unp, wp_for2, wq_for2, wp_ins, wq_ins, wp_mut0, wq_mut0, wq_mutP, wq_putP, wp_augP, wq_augP, wp_put2, wq_put2, val_runI, val_runIU, opt_isBB, opt_isnBB, opt_ixTp, opt_sortR, opt_sortP, val_runRU, val_ePop, wp_dput, wq_dput, opt_inD, opt_ninD, opt_lenD, opt_getDo, opt_and, val_eDget, val_eIxO, opt_isNo, opt_isSo, opt_unO, opt_toO, numF_id, wq_forO, wp_forO, val_eCutS, val_eTl, val_eCut2, val_eCallX, wp_raise, opt_cnt, opt_allB, opt_scI, opt_scB, opt_scS, opt_scN, opt_lsY, opt_toI, opt_inQz, opt_inQq, opt_toZ, opt_keysZ, wp_dputQ, wp_dpopQ, wp_dcopy, opt_toHH, opt_lenTp, opt_atH0, opt_atH1, wp_appH, opt_lsA, opt_stA, opt_unA_l, opt_isLA_l, opt_isLA_s, val_chn, val_popP, wq_insP, wp_insP, wq_mutIx, wq_appE, wp_dputS, wq_dputS, val_pDk, val_pFst, opt_inS, opt_ninS, opt_getSo, opt_ltS, opt_gtS, opt_lsYS, a3, osm, cv_T]
      exact lay_tht layR
    · exact ⟨a3, a2⟩
  have lmt : layC (Up.l ([] : List (Up Sc)) : Up (Up Sc)) = true := rfl
  refine wp_step (fun r => (r.v_rows = o.map rowU ∧ r.v_cell_here = c)) ?_ fun r ⟨a3, a2⟩ => ?_
  · rw [wp_if]
    simp only [val_lift, val_e2, val_eV, val_e0, opt_eqS]
    split
    · simp only [val_ok, val_er, val_bind, val_up, val_mute, val_ite, opt_some, opt_none, opt_ite, val_e0, val_eV, val_e1, val_e2, val_e3, val_eIf, val_eAnd, val_eOr, val_lift, val_eNil, val_eCons, val_eLst, val_ePair, val_eEnum, val_eZip, val_eRev, val_oNone, val_oSome, val_eCut, val_aNil, val_aCons, val_eCall, val_eLc, wp_nx, wp_rt, wp_bk, wp_ct, wp_bind, wp_seq, wp_set, wp_if, wp_ret, wp_drop, wp_nil, wp_fbk, wp_fct, wp_mut1, wp_for, val_runR, opt_add, opt_sub, opt_neg, opt_lt, opt_le, opt_gt, opt_ge, opt_eqS, opt_neS, opt_eqD, opt_neD, opt_in, opt_nin, opt_len, opt_lenScr, opt_abs, opt_max2, opt_min2, opt_sum, opt_sort, opt_intB, opt_maxC, opt_minC, val_pV, val_pIx, wp_mutP, wp_putP, wq_nx, wq_rt, wq_bk, wq_ct, wq_bind, wq_seq, wq_set, wq_if, wq_ret, wq_drop, wq_nil, wq_fbk, wq_fct, wq_mut1, wq_for, val_E1, val_E2, val_iNil, val_iBy, val_iIo, val_eCallI, val_tAnd2, val_tOr2, val_tNot2, val_eTpl, wp_stuck, wq_stuck, wp_unp, wq_unp, wp_for2, wq_for2, wp_ins, wq_ins, wp_mut0, wq_mut0, wq_mutP, wq_putP, wp_augP, wq_augP, wp_put2, wq_put2, val_runI, val_runIU, opt_isBB, opt_isnBB, opt_ixTp, opt_sortR, opt_sortP, val_runRU, val_ePop, wp_dput, wq_dput, opt_inD, opt_ninD, opt_lenD, opt_getDo, opt_and, val_eDget, val_eIxO, opt_isNo, opt_isSo, opt_unO, opt_toO, numF_id, wq_forO, wp_forO, val_eCutS, val_eTl, val_eCut2, val_eCallX, wp_raise, opt_cnt, opt_allB, opt_scI, opt_scB, opt_scS, opt_scN, opt_lsY, opt_toI, opt_inQz, opt_inQq, opt_toZ, opt_keysZ, wp_dputQ, wp_dpopQ, wp_dcopy, opt_toHH, opt_lenTp, opt_atH0, opt_atH1, wp_appH, opt_lsA, opt_stA, opt_unA_l, opt_isLA_l, opt_isLA_s, val_chn, val_popP, wq_insP, wp_insP, wq_mutIx, wq_appE, wp_dputS, wq_dputS, val_pDk, val_pFst, opt_inS, opt_ninS, opt_getSo, opt_ltS, opt_gtS, opt_lsYS, a3, cv_self]
      rw [if_pos (show [(Up.l ([] : List (Up Sc)) : Up (Up Sc))].length ≤ line by show 1 ≤ 2 ^ 24; decide), opt_catE (by rw [List.length_singleton, List.length_map]; omega)]
      exact lay_th fun x hx => by
        rcases List.mem_append.mp hx with q | q
        · rw [List.mem_singleton.mp q]; exact lmt
        · exact layR x q
    · exact ⟨a3, a2⟩
  refine wp_step (fun r => (r.v_rows = o.map rowU ∧ r.v_cell_here = c)) ?_ fun r ⟨a3, a2⟩ => ?_
  · rw [wp_if]
    simp only [val_lift, val_e2, val_eV, val_e0, opt_eqS]
    split
    · simp only [val_ok, val_er, val_bind, val_up, val_mute, val_ite, opt_some, opt_none, opt_ite, val_e0, val_eV, val_e1, val_e2, val_e3, val_eIf, val_eAnd, val_eOr, val_lift, val_eNil, val_eCons, val_eLst, val_ePair, val_eEnum, val_eZip, val_eRev, val_oNone, val_oSome, val_eCut, val_aNil, val_aCons, val_eCall, val_eLc, wp_nx, wp_rt, wp_bk, wp_ct, wp_bind, wp_seq, wp_set, wp_if, wp_ret, wp_drop, wp_nil, wp_fbk, wp_fct, wp_mut1, wp_for, val_runR, opt_add, opt_sub, opt_neg, opt_lt, opt_le, opt_gt, opt_ge, opt_eqS, opt_neS, opt_eqD, opt_neD, opt_in, opt_nin, opt_len, opt_lenScr, opt_abs, opt_max2, opt_min2, opt_sum, opt_sort, opt_intB, opt_maxC, opt_minC, val_pV, val_pIx, wp_mutP, wp_putP, wq_nx, wq_rt, wq_bk, wq_ct, wq_bind, wq_seq, wq_set, wq_if, wq_ret, wq_drop, wq_nil, wq_fbk, wq_fct, wq_mut1, wq_for, val_E1, val_E2, val_iNil, val_iBy, val_iIo, val_eCallI, val_tAnd2, val_tOr2, val_tNot2, val_eTpl, wp_stuck, wq_stuck, wp_unp, wq_unp, wp_for2, wq_for2, wp_ins, wq_ins, wp_mut0, wq_mut0, wq_mutP, wq_putP, wp_augP, wq_augP, wp_put2, wq_put2, val_runI, val_runIU, opt_isBB, opt_isnBB, opt_ixTp, opt_sortR, opt_sortP, val_runRU, val_ePop, wp_dput, wq_dput, opt_inD, opt_ninD, opt_lenD, opt_getDo, opt_and, val_eDget, val_eIxO, opt_isNo, opt_isSo, opt_unO, opt_toO, numF_id, wq_forO, wp_forO, val_eCutS, val_eTl, val_eCut2, val_eCallX, wp_raise, opt_cnt, opt_allB, opt_scI, opt_scB, opt_scS, opt_scN, opt_lsY, opt_toI, opt_inQz, opt_inQq, opt_toZ, opt_keysZ, wp_dputQ, wp_dpopQ, wp_dcopy, opt_toHH, opt_lenTp, opt_atH0, opt_atH1, wp_appH, opt_lsA, opt_stA, opt_unA_l, opt_isLA_l, opt_isLA_s, val_chn, val_popP, wq_insP, wp_insP, wq_mutIx, wq_appE, wp_dputS, wq_dputS, val_pDk, val_pFst, opt_inS, opt_ninS, opt_getSo, opt_ltS, opt_gtS, opt_lsYS, a3, List.length_map]
      rw [opt_rng1 ⟨by omega, by omega⟩]
      refine val_lcA (fun _ => (Up.l ([] : List (Up Sc)) : Up (Up Sc))) (fun k _ => by simp only [val_ok, val_er, val_bind, val_up, val_mute, val_ite, opt_some, opt_none, opt_ite, val_e0, val_eV, val_e1, val_e2, val_e3, val_eIf, val_eAnd, val_eOr, val_lift, val_eNil, val_eCons, val_eLst, val_ePair, val_eEnum, val_eZip, val_eRev, val_oNone, val_oSome, val_eCut, val_aNil, val_aCons, val_eCall, val_eLc, wp_nx, wp_rt, wp_bk, wp_ct, wp_bind, wp_seq, wp_set, wp_if, wp_ret, wp_drop, wp_nil, wp_fbk, wp_fct, wp_mut1, wp_for, val_runR, opt_add, opt_sub, opt_neg, opt_lt, opt_le, opt_gt, opt_ge, opt_eqS, opt_neS, opt_eqD, opt_neD, opt_in, opt_nin, opt_len, opt_lenScr, opt_abs, opt_max2, opt_min2, opt_sum, opt_sort, opt_intB, opt_maxC, opt_minC, val_pV, val_pIx, wp_mutP, wp_putP, wq_nx, wq_rt, wq_bk, wq_ct, wq_bind, wq_seq, wq_set, wq_if, wq_ret, wq_drop, wq_nil, wq_fbk, wq_fct, wq_mut1, wq_for, val_E1, val_E2, val_iNil, val_iBy, val_iIo, val_eCallI, val_tAnd2, val_tOr2, val_tNot2, val_eTpl, wp_stuck, wq_stuck, wp_unp, wq_unp, wp_for2, wq_for2, wp_ins, wq_ins, wp_mut0, wq_mut0, wq_mutP, wq_putP, wp_augP, wq_augP, wp_put2, wq_put2, val_runI, val_runIU, opt_isBB, opt_isnBB, opt_ixTp, opt_sortR, opt_sortP, val_runRU, val_ePop, wp_dput, wq_dput, opt_inD, opt_ninD, opt_lenD, opt_getDo, opt_and, val_eDget, val_eIxO, opt_isNo, opt_isSo, opt_unO, opt_toO, numF_id, wq_forO, wp_forO, val_eCutS, val_eTl, val_eCut2, val_eCallX, wp_raise, opt_cnt, opt_allB, opt_scI, opt_scB, opt_scS, opt_scN, opt_lsY, opt_toI, opt_inQz, opt_inQq, opt_toZ, opt_keysZ, wp_dputQ, wp_dpopQ, wp_dcopy, opt_toHH, opt_lenTp, opt_atH0, opt_atH1, wp_appH, opt_lsA, opt_stA, opt_unA_l, opt_isLA_l, opt_isLA_s, val_chn, val_popP, wq_insP, wp_insP, wq_mutIx, wq_appE, wp_dputS, wq_dputS, val_pDk, val_pFst, opt_inS, opt_ninS, opt_getSo, opt_ltS, opt_gtS, opt_lsYS, cv_self]) ?_
      rw [opt_catE (by rw [List.length_map, List.length_map, List.length_map, List.length_range]; omega), cv_self]
      exact lay_th fun x hx => by
        rcases List.mem_append.mp hx with q | q
        · exact layR x q
        · obtain ⟨k, _, rfl⟩ := List.mem_map.mp q
          exact lmt
    · exact ⟨a3, a2⟩
  refine wp_step (fun r => (r.v_rows = o.map rowU ∧ r.v_cell_here = c) ∧ 0 < o.length) ?_ fun r ⟨⟨a3, a2⟩, hpos⟩ => ?_
  · rw [wp_if]
    simp only [val_lift, val_eOr, val_e2, val_e1, val_eV, val_e0, opt_eqS, opt_len, a3, List.length_map]
    by_cases q : (o.length : Int) = 0
    · rw [decide_eq_true q]
      simp only [if_true]
      simp only [val_ok, val_er, val_bind, val_up, val_mute, val_ite, opt_some, opt_none, opt_ite, val_e0, val_eV, val_e1, val_e2, val_e3, val_eIf, val_eAnd, val_eOr, val_lift, val_eNil, val_eCons, val_eLst, val_ePair, val_eEnum, val_eZip, val_eRev, val_oNone, val_oSome, val_eCut, val_aNil, val_aCons, val_eCall, val_eLc, wp_nx, wp_rt, wp_bk, wp_ct, wp_bind, wp_seq, wp_set, wp_if, wp_ret, wp_drop, wp_nil, wp_fbk, wp_fct, wp_mut1, wp_for, val_runR, opt_add, opt_sub, opt_neg, opt_lt, opt_le, opt_gt, opt_ge, opt_eqS, opt_neS, opt_eqD, opt_neD, opt_in, opt_nin, opt_len, opt_lenScr, opt_abs, opt_max2, opt_min2, opt_sum, opt_sort, opt_intB, opt_maxC, opt_minC, val_pV, val_pIx, wp_mutP, wp_putP, wq_nx, wq_rt, wq_bk, wq_ct, wq_bind, wq_seq, wq_set, wq_if, wq_ret, wq_drop, wq_nil, wq_fbk, wq_fct, wq_mut1, wq_for, val_E1, val_E2, val_iNil, val_iBy, val_iIo, val_eCallI, val_tAnd2, val_tOr2, val_tNot2, val_eTpl, wp_stuck, wq_stuck, wp_unp, wq_unp, wp_for2, wq_for2, wp_ins, wq_ins, wp_mut0, wq_mut0, wq_mutP, wq_putP, wp_augP, wq_augP, wp_put2, wq_put2, val_runI, val_runIU, opt_isBB, opt_isnBB, opt_ixTp, opt_sortR, opt_sortP, val_runRU, val_ePop, wp_dput, wq_dput, opt_inD, opt_ninD, opt_lenD, opt_getDo, opt_and, val_eDget, val_eIxO, opt_isNo, opt_isSo, opt_unO, opt_toO, numF_id, wq_forO, wp_forO, val_eCutS, val_eTl, val_eCut2, val_eCallX, wp_raise, opt_cnt, opt_allB, opt_scI, opt_scB, opt_scS, opt_scN, opt_lsY, opt_toI, opt_inQz, opt_inQq, opt_toZ, opt_keysZ, wp_dputQ, wp_dpopQ, wp_dcopy, opt_toHH, opt_lenTp, opt_atH0, opt_atH1, wp_appH, opt_lsA, opt_stA, opt_unA_l, opt_isLA_l, opt_isLA_s, val_chn, val_popP, wq_insP, wp_insP, wq_mutIx, wq_appE, wp_dputS, wq_dputS, val_pDk, val_pFst, opt_inS, opt_ninS, opt_getSo, opt_ltS, opt_gtS, opt_lsYS, a3, cv_self]
      exact lay_th layR
    · rw [decide_eq_false q]
      simp only [Bool.false_eq_true, if_false]
      split
      · simp only [val_ok, val_er, val_bind, val_up, val_mute, val_ite, opt_some, opt_none, opt_ite, val_e0, val_eV, val_e1, val_e2, val_e3, val_eIf, val_eAnd, val_eOr, val_lift, val_eNil, val_eCons, val_eLst, val_ePair, val_eEnum, val_eZip, val_eRev, val_oNone, val_oSome, val_eCut, val_aNil, val_aCons, val_eCall, val_eLc, wp_nx, wp_rt, wp_bk, wp_ct, wp_bind, wp_seq, wp_set, wp_if, wp_ret, wp_drop, wp_nil, wp_fbk, wp_fct, wp_mut1, wp_for, val_runR, opt_add, opt_sub, opt_neg, opt_lt, opt_le, opt_gt, opt_ge, opt_eqS, opt_neS, opt_eqD, opt_neD, opt_in, opt_nin, opt_len, opt_lenScr, opt_abs, opt_max2, opt_min2, opt_sum, opt_sort, opt_intB, opt_maxC, opt_minC, val_pV, val_pIx, wp_mutP, wp_putP, wq_nx, wq_rt, wq_bk, wq_ct, wq_bind, wq_seq, wq_set, wq_if, wq_ret, wq_drop, wq_nil, wq_fbk, wq_fct, wq_mut1, wq_for, val_E1, val_E2, val_iNil, val_iBy, val_iIo, val_eCallI, val_tAnd2, val_tOr2, val_tNot2, val_eTpl, wp_stuck, wq_stuck, wp_unp, wq_unp, wp_for2, wq_for2, wp_ins, wq_ins, wp_mut0, wq_mut0, wq_mutP, wq_putP, wp_augP, wq_augP, wp_put2, wq_put2, val_runI, val_runIU, opt_isBB, opt_isnBB, opt_ixTp, opt_sortR, opt_sortP, val_runRU, val_ePop, wp_dput, wq_dput, opt_inD, opt_ninD, opt_lenD, opt_getDo, opt_and, val_eDget, val_eIxO, opt_isNo, opt_isSo, opt_unO, opt_toO, numF_id, wq_forO, wp_forO, val_eCutS, val_eTl, val_eCut2, val_eCallX, wp_raise, opt_cnt, opt_allB, opt_scI, opt_scB, opt_scS, opt_scN, opt_lsY, opt_toI, opt_inQz, opt_inQq, opt_toZ, opt_keysZ, wp_dputQ, wp_dpopQ, wp_dcopy, opt_toHH, opt_lenTp, opt_atH0, opt_atH1, wp_appH, opt_lsA, opt_stA, opt_unA_l, opt_isLA_l, opt_isLA_s, val_chn, val_popP, wq_insP, wp_insP, wq_mutIx, wq_appE, wp_dputS, wq_dputS, val_pDk, val_pFst, opt_inS, opt_ninS, opt_getSo, opt_ltS, opt_gtS, opt_lsYS, a3, cv_self]
        exact lay_th layR
      · exact ⟨⟨a3, a2⟩, by omega⟩
  have hm := Int.emod_nonneg (c / 11) (b := (o.length : Int)) (by omega)
  have hm2 := Int.emod_lt_of_pos (c / 11) (b := (o.length : Int)) (by omega)
  obtain ⟨p, hp⟩ : ∃ p : Nat, c / 11 % (o.length : Int) = (p : Int) := ⟨(c / 11 % (o.length : Int)).toNat, by omega⟩
  have hpl : p < o.length := by omega
  obtain ⟨row, er⟩ := at_some (l := o) (j := p) hpl
  have hrl := hrow row (at_mem er)
  refine wp_step (fun r => (r.v_rows = o.map rowU ∧ r.v_cell_here = c) ∧ r.v_place = (p : Int)) ?_ fun r ⟨⟨a3, a2⟩, a4⟩ => ?_
  · simp only [val_ok, val_er, val_bind, val_up, val_mute, val_ite, opt_some, opt_none, opt_ite, val_e0, val_eV, val_e1, val_e2, val_e3, val_eIf, val_eAnd, val_eOr, val_lift, val_eNil, val_eCons, val_eLst, val_ePair, val_eEnum, val_eZip, val_eRev, val_oNone, val_oSome, val_eCut, val_aNil, val_aCons, val_eCall, val_eLc, wp_nx, wp_rt, wp_bk, wp_ct, wp_bind, wp_seq, wp_set, wp_if, wp_ret, wp_drop, wp_nil, wp_fbk, wp_fct, wp_mut1, wp_for, val_runR, opt_add, opt_sub, opt_neg, opt_lt, opt_le, opt_gt, opt_ge, opt_eqS, opt_neS, opt_eqD, opt_neD, opt_in, opt_nin, opt_len, opt_lenScr, opt_abs, opt_max2, opt_min2, opt_sum, opt_sort, opt_intB, opt_maxC, opt_minC, val_pV, val_pIx, wp_mutP, wp_putP, wq_nx, wq_rt, wq_bk, wq_ct, wq_bind, wq_seq, wq_set, wq_if, wq_ret, wq_drop, wq_nil, wq_fbk, wq_fct, wq_mut1, wq_for, val_E1, val_E2, val_iNil, val_iBy, val_iIo, val_eCallI, val_tAnd2, val_tOr2, val_tNot2, val_eTpl, wp_stuck, wq_stuck, wp_unp, wq_unp, wp_for2, wq_for2, wp_ins, wq_ins, wp_mut0, wq_mut0, wq_mutP, wq_putP, wp_augP, wq_augP, wp_put2, wq_put2, val_runI, val_runIU, opt_isBB, opt_isnBB, opt_ixTp, opt_sortR, opt_sortP, val_runRU, val_ePop, wp_dput, wq_dput, opt_inD, opt_ninD, opt_lenD, opt_getDo, opt_and, val_eDget, val_eIxO, opt_isNo, opt_isSo, opt_unO, opt_toO, numF_id, wq_forO, wp_forO, val_eCutS, val_eTl, val_eCut2, val_eCallX, wp_raise, opt_cnt, opt_allB, opt_scI, opt_scB, opt_scS, opt_scN, opt_lsY, opt_toI, opt_inQz, opt_inQq, opt_toZ, opt_keysZ, wp_dputQ, wp_dpopQ, wp_dcopy, opt_toHH, opt_lenTp, opt_atH0, opt_atH1, wp_appH, opt_lsA, opt_stA, opt_unA_l, opt_isLA_l, opt_isLA_s, val_chn, val_popP, wq_insP, wp_insP, wq_mutIx, wq_appE, wp_dputS, wq_dputS, val_pDk, val_pFst, opt_inS, opt_ninS, opt_getSo, opt_ltS, opt_gtS, opt_lsYS, a2, a3, List.length_map, opt_fdivE (y := 11) (by decide) (by decide)]
    rw [opt_modE (by omega), hp]
    exact ⟨⟨by first | trivial | exact a3, by first | trivial | exact a2⟩, by trivial⟩
  refine wp_step (fun r => (r.v_rows = o.map rowU ∧ r.v_cell_here = c) ∧ r.v_place = (p : Int) ∧ r.v_row_here = row) ?_ fun r ⟨⟨a3, a2⟩, a4, a5⟩ => ?_
  · simp only [val_ok, val_er, val_bind, val_up, val_mute, val_ite, opt_some, opt_none, opt_ite, val_e0, val_eV, val_e1, val_e2, val_e3, val_eIf, val_eAnd, val_eOr, val_lift, val_eNil, val_eCons, val_eLst, val_ePair, val_eEnum, val_eZip, val_eRev, val_oNone, val_oSome, val_eCut, val_aNil, val_aCons, val_eCall, val_eLc, wp_nx, wp_rt, wp_bk, wp_ct, wp_bind, wp_seq, wp_set, wp_if, wp_ret, wp_drop, wp_nil, wp_fbk, wp_fct, wp_mut1, wp_for, val_runR, opt_add, opt_sub, opt_neg, opt_lt, opt_le, opt_gt, opt_ge, opt_eqS, opt_neS, opt_eqD, opt_neD, opt_in, opt_nin, opt_len, opt_lenScr, opt_abs, opt_max2, opt_min2, opt_sum, opt_sort, opt_intB, opt_maxC, opt_minC, val_pV, val_pIx, wp_mutP, wp_putP, wq_nx, wq_rt, wq_bk, wq_ct, wq_bind, wq_seq, wq_set, wq_if, wq_ret, wq_drop, wq_nil, wq_fbk, wq_fct, wq_mut1, wq_for, val_E1, val_E2, val_iNil, val_iBy, val_iIo, val_eCallI, val_tAnd2, val_tOr2, val_tNot2, val_eTpl, wp_stuck, wq_stuck, wp_unp, wq_unp, wp_for2, wq_for2, wp_ins, wq_ins, wp_mut0, wq_mut0, wq_mutP, wq_putP, wp_augP, wq_augP, wp_put2, wq_put2, val_runI, val_runIU, opt_isBB, opt_isnBB, opt_ixTp, opt_sortR, opt_sortP, val_runRU, val_ePop, wp_dput, wq_dput, opt_inD, opt_ninD, opt_lenD, opt_getDo, opt_and, val_eDget, val_eIxO, opt_isNo, opt_isSo, opt_unO, opt_toO, numF_id, wq_forO, wp_forO, val_eCutS, val_eTl, val_eCut2, val_eCallX, wp_raise, opt_cnt, opt_allB, opt_scI, opt_scB, opt_scS, opt_scN, opt_lsY, opt_toI, opt_inQz, opt_inQq, opt_toZ, opt_keysZ, wp_dputQ, wp_dpopQ, wp_dcopy, opt_toHH, opt_lenTp, opt_atH0, opt_atH1, wp_appH, opt_lsA, opt_stA, opt_unA_l, opt_isLA_l, opt_isLA_s, val_chn, val_popP, wq_insP, wp_insP, wq_mutIx, wq_appE, wp_dputS, wq_dputS, val_pDk, val_pFst, opt_inS, opt_ninS, opt_getSo, opt_ltS, opt_gtS, opt_lsYS, a3, a4]
    rw [opt_ixE (Int.natCast_nonneg _) (by rw [Int.toNat_natCast, List.getElem?_map, er]; rfl), un_rowU]
    exact ⟨⟨by first | trivial | exact a3, by first | trivial | exact a2⟩, by first | trivial | exact a4, by trivial⟩
  -- one place is made otherwise
  have hpi : (0 : Int) ≤ (p : Int) := Int.natCast_nonneg _
  have step : ∀ {r : E_l_spoilt} {x : Up (Up Sc)}, (((r.v_rows.length = o.length ∧ ∀ x ∈ r.v_rows, layC x = true) ∧ r.v_cell_here = c) ∧ r.v_place = (p : Int) ∧ r.v_row_here = row) → layC x = true → opt (putL r.v_rows (p : Int) x) fun l => (l.length = o.length ∧ ∀ x ∈ l, layC x = true) := fun {r x} ⟨⟨⟨h1, h2⟩, _⟩, _⟩ hx => by
    rw [opt_putE hpi (by omega)]
    refine ⟨by rw [List.length_set]; exact h1, fun y hy => ?_⟩
    rcases List.mem_or_eq_of_mem_set hy with q | q
    · exact h2 y q
    · rw [q]; exact hx
  have P1 : (((r.v_rows.length = o.length ∧ ∀ x ∈ r.v_rows, layC x = true) ∧ r.v_cell_here = c) ∧ r.v_place = (p : Int) ∧ r.v_row_here = row) := ⟨⟨⟨by rw [a3, List.length_map], by rw [a3]; exact layR⟩, a2⟩, a4, a5⟩
  have mono : ∀ {α : Type} {m : Option α} {Q R : α → Prop}, opt m Q → (∀ a, Q a → R a) → opt m R := fun {α m Q R} h k => by
    cases m with
    | none => exact h.elim
    | some a => exact k a h
  -- kind 1
  refine wp_step (fun r => (((r.v_rows.length = o.length ∧ ∀ x ∈ r.v_rows, layC x = true) ∧ r.v_cell_here = c) ∧ r.v_place = (p : Int) ∧ r.v_row_here = row)) ?_ fun r P2 => ?_
  · obtain ⟨⟨⟨c1, c2⟩, c3⟩, c4, c5⟩ := id P1
    rw [wp_if]
    simp only [val_lift, val_e2, val_eV, val_e0, opt_eqS]
    split
    · simp only [val_ok, val_er, val_bind, val_up, val_mute, val_ite, opt_some, opt_none, opt_ite, val_e0, val_eV, val_e1, val_e2, val_e3, val_eIf, val_eAnd, val_eOr, val_lift, val_eNil, val_eCons, val_eLst, val_ePair, val_eEnum, val_eZip, val_eRev, val_oNone, val_oSome, val_eCut, val_aNil, val_aCons, val_eCall, val_eLc, wp_nx, wp_rt, wp_bk, wp_ct, wp_bind, wp_seq, wp_set, wp_if, wp_ret, wp_drop, wp_nil, wp_fbk, wp_fct, wp_mut1, wp_for, val_runR, opt_add, opt_sub, opt_neg, opt_lt, opt_le, opt_gt, opt_ge, opt_eqS, opt_neS, opt_eqD, opt_neD, opt_in, opt_nin, opt_len, opt_lenScr, opt_abs, opt_max2, opt_min2, opt_sum, opt_sort, opt_intB, opt_maxC, opt_minC, val_pV, val_pIx, wp_mutP, wp_putP, wq_nx, wq_rt, wq_bk, wq_ct, wq_bind, wq_seq, wq_set, wq_if, wq_ret, wq_drop, wq_nil, wq_fbk, wq_fct, wq_mut1, wq_for, val_E1, val_E2, val_iNil, val_iBy, val_iIo, val_eCallI, val_tAnd2, val_tOr2, val_tNot2, val_eTpl, wp_stuck, wq_stuck, wp_unp, wq_unp, wp_for2, wq_for2, wp_ins, wq_ins, wp_mut0, wq_mut0, wq_mutP, wq_putP, wp_augP, wq_augP, wp_put2, wq_put2, val_runI, val_runIU, opt_isBB, opt_isnBB, opt_ixTp, opt_sortR, opt_sortP, val_runRU, val_ePop, wp_dput, wq_dput, opt_inD, opt_ninD, opt_lenD, opt_getDo, opt_and, val_eDget, val_eIxO, opt_isNo, opt_isSo, opt_unO, opt_toO, numF_id, wq_forO, wp_forO, val_eCutS, val_eTl, val_eCut2, val_eCallX, wp_raise, opt_cnt, opt_allB, opt_scI, opt_scB, opt_scS, opt_scN, opt_lsY, opt_toI, opt_inQz, opt_inQq, opt_toZ, opt_keysZ, wp_dputQ, wp_dpopQ, wp_dcopy, opt_toHH, opt_lenTp, opt_atH0, opt_atH1, wp_appH, opt_lsA, opt_stA, opt_unA_l, opt_isLA_l, opt_isLA_s, val_chn, val_popP, wq_insP, wp_insP, wq_mutIx, wq_appE, wp_dputS, wq_dputS, val_pDk, val_pFst, opt_inS, opt_ninS, opt_getSo, opt_ltS, opt_gtS, opt_lsYS, c3, c4, c5, opt_fdivE (y := 200) (by decide) (by decide), opt_modE (y := 19) (by decide)]
      rw [if_pos (show [c / 200 % 19 - 3].length ≤ line by show 1 ≤ 2 ^ 24; decide), opt_catE (by rw [List.length_singleton]; omega), cv_LI]
      exact mono (step P1 (lay_rowU _)) fun l hl => ⟨⟨hl, by first | trivial | exact c3⟩, by first | trivial | exact c4, by first | trivial | exact c5⟩
    · exact P1
  -- kind 2
  refine wp_step (fun r => (((r.v_rows.length = o.length ∧ ∀ x ∈ r.v_rows, layC x = true) ∧ r.v_cell_here = c) ∧ r.v_place = (p : Int) ∧ r.v_row_here = row)) ?_ fun r P3 => ?_
  · obtain ⟨⟨⟨c1, c2⟩, c3⟩, c4, c5⟩ := id P2
    rw [wp_if]
    simp only [val_lift, val_e2, val_eV, val_e0, opt_eqS]
    split
    · simp only [val_ok, val_er, val_bind, val_up, val_mute, val_ite, opt_some, opt_none, opt_ite, val_e0, val_eV, val_e1, val_e2, val_e3, val_eIf, val_eAnd, val_eOr, val_lift, val_eNil, val_eCons, val_eLst, val_ePair, val_eEnum, val_eZip, val_eRev, val_oNone, val_oSome, val_eCut, val_aNil, val_aCons, val_eCall, val_eLc, wp_nx, wp_rt, wp_bk, wp_ct, wp_bind, wp_seq, wp_set, wp_if, wp_ret, wp_drop, wp_nil, wp_fbk, wp_fct, wp_mut1, wp_for, val_runR, opt_add, opt_sub, opt_neg, opt_lt, opt_le, opt_gt, opt_ge, opt_eqS, opt_neS, opt_eqD, opt_neD, opt_in, opt_nin, opt_len, opt_lenScr, opt_abs, opt_max2, opt_min2, opt_sum, opt_sort, opt_intB, opt_maxC, opt_minC, val_pV, val_pIx, wp_mutP, wp_putP, wq_nx, wq_rt, wq_bk, wq_ct, wq_bind, wq_seq, wq_set, wq_if, wq_ret, wq_drop, wq_nil, wq_fbk, wq_fct, wq_mut1, wq_for, val_E1, val_E2, val_iNil, val_iBy, val_iIo, val_eCallI, val_tAnd2, val_tOr2, val_tNot2, val_eTpl, wp_stuck, wq_stuck, wp_unp, wq_unp, wp_for2, wq_for2, wp_ins, wq_ins, wp_mut0, wq_mut0, wq_mutP, wq_putP, wp_augP, wq_augP, wp_put2, wq_put2, val_runI, val_runIU, opt_isBB, opt_isnBB, opt_ixTp, opt_sortR, opt_sortP, val_runRU, val_ePop, wp_dput, wq_dput, opt_inD, opt_ninD, opt_lenD, opt_getDo, opt_and, val_eDget, val_eIxO, opt_isNo, opt_isSo, opt_unO, opt_toO, numF_id, wq_forO, wp_forO, val_eCutS, val_eTl, val_eCut2, val_eCallX, wp_raise, opt_cnt, opt_allB, opt_scI, opt_scB, opt_scS, opt_scN, opt_lsY, opt_toI, opt_inQz, opt_inQq, opt_toZ, opt_keysZ, wp_dputQ, wp_dpopQ, wp_dcopy, opt_toHH, opt_lenTp, opt_atH0, opt_atH1, wp_appH, opt_lsA, opt_stA, opt_unA_l, opt_isLA_l, opt_isLA_s, val_chn, val_popP, wq_insP, wp_insP, wq_mutIx, wq_appE, wp_dputS, wq_dputS, val_pDk, val_pFst, opt_inS, opt_ninS, opt_getSo, opt_ltS, opt_gtS, opt_lsYS, c3, c4, c5, opt_fdivE (y := 200) (by decide) (by decide), opt_modE (y := 15) (by decide)]
      have s1 := cut_short row none (some (c / 200 % 15))
      have s2 := cut_short row (some (c / 200 % 15 + 1)) none
      rw [opt_catE (by omega), cv_LI]
      exact mono (step P2 (lay_rowU _)) fun l hl => ⟨⟨hl, by first | trivial | exact c3⟩, by first | trivial | exact c4, by first | trivial | exact c5⟩
    · exact P2
  -- kind 3
  refine wp_step (fun r => (((r.v_rows.length = o.length ∧ ∀ x ∈ r.v_rows, layC x = true) ∧ r.v_cell_here = c) ∧ r.v_place = (p : Int) ∧ r.v_row_here = row)) ?_ fun r P4 => ?_
  · obtain ⟨⟨⟨c1, c2⟩, c3⟩, c4, c5⟩ := id P3
    rw [wp_if]
    simp only [val_lift, val_e2, val_eV, val_e0, opt_eqS]
    split
    · simp only [val_ok, val_er, val_bind, val_up, val_mute, val_ite, opt_some, opt_none, opt_ite, val_e0, val_eV, val_e1, val_e2, val_e3, val_eIf, val_eAnd, val_eOr, val_lift, val_eNil, val_eCons, val_eLst, val_ePair, val_eEnum, val_eZip, val_eRev, val_oNone, val_oSome, val_eCut, val_aNil, val_aCons, val_eCall, val_eLc, wp_nx, wp_rt, wp_bk, wp_ct, wp_bind, wp_seq, wp_set, wp_if, wp_ret, wp_drop, wp_nil, wp_fbk, wp_fct, wp_mut1, wp_for, val_runR, opt_add, opt_sub, opt_neg, opt_lt, opt_le, opt_gt, opt_ge, opt_eqS, opt_neS, opt_eqD, opt_neD, opt_in, opt_nin, opt_len, opt_lenScr, opt_abs, opt_max2, opt_min2, opt_sum, opt_sort, opt_intB, opt_maxC, opt_minC, val_pV, val_pIx, wp_mutP, wp_putP, wq_nx, wq_rt, wq_bk, wq_ct, wq_bind, wq_seq, wq_set, wq_if, wq_ret, wq_drop, wq_nil, wq_fbk, wq_fct, wq_mut1, wq_for, val_E1, val_E2, val_iNil, val_iBy, val_iIo, val_eCallI, val_tAnd2, val_tOr2, val_tNot2, val_eTpl, wp_stuck, wq_stuck, wp_unp, wq_unp, wp_for2, wq_for2, wp_ins, wq_ins, wp_mut0, wq_mut0, wq_mutP, wq_putP, wp_augP, wq_augP, wp_put2, wq_put2, val_runI, val_runIU, opt_isBB, opt_isnBB, opt_ixTp, opt_sortR, opt_sortP, val_runRU, val_ePop, wp_dput, wq_dput, opt_inD, opt_ninD, opt_lenD, opt_getDo, opt_and, val_eDget, val_eIxO, opt_isNo, opt_isSo, opt_unO, opt_toO, numF_id, wq_forO, wp_forO, val_eCutS, val_eTl, val_eCut2, val_eCallX, wp_raise, opt_cnt, opt_allB, opt_scI, opt_scB, opt_scS, opt_scN, opt_lsY, opt_toI, opt_inQz, opt_inQq, opt_toZ, opt_keysZ, wp_dputQ, wp_dpopQ, wp_dcopy, opt_toHH, opt_lenTp, opt_atH0, opt_atH1, wp_appH, opt_lsA, opt_stA, opt_unA_l, opt_isLA_l, opt_isLA_s, val_chn, val_popP, wq_insP, wp_insP, wq_mutIx, wq_appE, wp_dputS, wq_dputS, val_pDk, val_pFst, opt_inS, opt_ninS, opt_getSo, opt_ltS, opt_gtS, opt_lsYS, c4, c5]
      refine val_lcA (fun x => (Up.sc (Sc.b (decide (x = 1))) : Up Sc)) (fun x _ => by simp only [val_ok, val_er, val_bind, val_up, val_mute, val_ite, opt_some, opt_none, opt_ite, val_e0, val_eV, val_e1, val_e2, val_e3, val_eIf, val_eAnd, val_eOr, val_lift, val_eNil, val_eCons, val_eLst, val_ePair, val_eEnum, val_eZip, val_eRev, val_oNone, val_oSome, val_eCut, val_aNil, val_aCons, val_eCall, val_eLc, wp_nx, wp_rt, wp_bk, wp_ct, wp_bind, wp_seq, wp_set, wp_if, wp_ret, wp_drop, wp_nil, wp_fbk, wp_fct, wp_mut1, wp_for, val_runR, opt_add, opt_sub, opt_neg, opt_lt, opt_le, opt_gt, opt_ge, opt_eqS, opt_neS, opt_eqD, opt_neD, opt_in, opt_nin, opt_len, opt_lenScr, opt_abs, opt_max2, opt_min2, opt_sum, opt_sort, opt_intB, opt_maxC, opt_minC, val_pV, val_pIx, wp_mutP, wp_putP, wq_nx, wq_rt, wq_bk, wq_ct, wq_bind, wq_seq, wq_set, wq_if, wq_ret, wq_drop, wq_nil, wq_fbk, wq_fct, wq_mut1, wq_for, val_E1, val_E2, val_iNil, val_iBy, val_iIo, val_eCallI, val_tAnd2, val_tOr2, val_tNot2, val_eTpl, wp_stuck, wq_stuck, wp_unp, wq_unp, wp_for2, wq_for2, wp_ins, wq_ins, wp_mut0, wq_mut0, wq_mutP, wq_putP, wp_augP, wq_augP, wp_put2, wq_put2, val_runI, val_runIU, opt_isBB, opt_isnBB, opt_ixTp, opt_sortR, opt_sortP, val_runRU, val_ePop, wp_dput, wq_dput, opt_inD, opt_ninD, opt_lenD, opt_getDo, opt_and, val_eDget, val_eIxO, opt_isNo, opt_isSo, opt_unO, opt_toO, numF_id, wq_forO, wp_forO, val_eCutS, val_eTl, val_eCut2, val_eCallX, wp_raise, opt_cnt, opt_allB, opt_scI, opt_scB, opt_scS, opt_scN, opt_lsY, opt_toI, opt_inQz, opt_inQq, opt_toZ, opt_keysZ, wp_dputQ, wp_dpopQ, wp_dcopy, opt_toHH, opt_lenTp, opt_atH0, opt_atH1, wp_appH, opt_lsA, opt_stA, opt_unA_l, opt_isLA_l, opt_isLA_s, val_chn, val_popP, wq_insP, wp_insP, wq_mutIx, wq_appE, wp_dputS, wq_dputS, val_pDk, val_pFst, opt_inS, opt_ninS, opt_getSo, opt_ltS, opt_gtS, opt_lsYS, cv_B]) ?_
      rw [cv_self]
      exact mono (step P3 (lay_up fun x hx => by
        obtain ⟨n, _, rfl⟩ := List.mem_map.mp hx
        rfl)) fun l hl => ⟨⟨hl, by first | trivial | exact c3⟩, by first | trivial | exact c4, by first | trivial | exact c5⟩
    · exact P3
  -- kind 4
  refine wp_step (fun r => (((r.v_rows.length = o.length ∧ ∀ x ∈ r.v_rows, layC x = true) ∧ r.v_cell_here = c) ∧ r.v_place = (p : Int) ∧ r.v_row_here = row)) ?_ fun r P5 => ?_
  · obtain ⟨⟨⟨c1, c2⟩, c3⟩, c4, c5⟩ := id P4
    rw [wp_if]
    simp only [val_lift, val_e2, val_eV, val_e0, opt_eqS]
    split
    · simp only [val_ok, val_er, val_bind, val_up, val_mute, val_ite, opt_some, opt_none, opt_ite, val_e0, val_eV, val_e1, val_e2, val_e3, val_eIf, val_eAnd, val_eOr, val_lift, val_eNil, val_eCons, val_eLst, val_ePair, val_eEnum, val_eZip, val_eRev, val_oNone, val_oSome, val_eCut, val_aNil, val_aCons, val_eCall, val_eLc, wp_nx, wp_rt, wp_bk, wp_ct, wp_bind, wp_seq, wp_set, wp_if, wp_ret, wp_drop, wp_nil, wp_fbk, wp_fct, wp_mut1, wp_for, val_runR, opt_add, opt_sub, opt_neg, opt_lt, opt_le, opt_gt, opt_ge, opt_eqS, opt_neS, opt_eqD, opt_neD, opt_in, opt_nin, opt_len, opt_lenScr, opt_abs, opt_max2, opt_min2, opt_sum, opt_sort, opt_intB, opt_maxC, opt_minC, val_pV, val_pIx, wp_mutP, wp_putP, wq_nx, wq_rt, wq_bk, wq_ct, wq_bind, wq_seq, wq_set, wq_if, wq_ret, wq_drop, wq_nil, wq_fbk, wq_fct, wq_mut1, wq_for, val_E1, val_E2, val_iNil, val_iBy, val_iIo, val_eCallI, val_tAnd2, val_tOr2, val_tNot2, val_eTpl, wp_stuck, wq_stuck, wp_unp, wq_unp, wp_for2, wq_for2, wp_ins, wq_ins, wp_mut0, wq_mut0, wq_mutP, wq_putP, wp_augP, wq_augP, wp_put2, wq_put2, val_runI, val_runIU, opt_isBB, opt_isnBB, opt_ixTp, opt_sortR, opt_sortP, val_runRU, val_ePop, wp_dput, wq_dput, opt_inD, opt_ninD, opt_lenD, opt_getDo, opt_and, val_eDget, val_eIxO, opt_isNo, opt_isSo, opt_unO, opt_toO, numF_id, wq_forO, wp_forO, val_eCutS, val_eTl, val_eCut2, val_eCallX, wp_raise, opt_cnt, opt_allB, opt_scI, opt_scB, opt_scS, opt_scN, opt_lsY, opt_toI, opt_inQz, opt_inQq, opt_toZ, opt_keysZ, wp_dputQ, wp_dpopQ, wp_dcopy, opt_toHH, opt_lenTp, opt_atH0, opt_atH1, wp_appH, opt_lsA, opt_stA, opt_unA_l, opt_isLA_l, opt_isLA_s, val_chn, val_popP, wq_insP, wp_insP, wq_mutIx, wq_appE, wp_dputS, wq_dputS, val_pDk, val_pFst, opt_inS, opt_ninS, opt_getSo, opt_ltS, opt_gtS, opt_lsYS, c4, c5, osm, cv_LI]
      exact mono (step P4 (lay_rowU _)) fun l hl => ⟨⟨hl, by first | trivial | exact c3⟩, by first | trivial | exact c4, by first | trivial | exact c5⟩
    · exact P4
  -- kind 5
  refine wp_step (fun r => (((r.v_rows.length = o.length ∧ ∀ x ∈ r.v_rows, layC x = true) ∧ r.v_cell_here = c) ∧ r.v_place = (p : Int) ∧ r.v_row_here = row)) ?_ fun r P6 => ?_
  · obtain ⟨⟨⟨c1, c2⟩, c3⟩, c4, c5⟩ := id P5
    rw [wp_if]
    simp only [val_lift, val_e2, val_eV, val_e0, opt_eqS]
    split
    · simp only [val_ok, val_er, val_bind, val_up, val_mute, val_ite, opt_some, opt_none, opt_ite, val_e0, val_eV, val_e1, val_e2, val_e3, val_eIf, val_eAnd, val_eOr, val_lift, val_eNil, val_eCons, val_eLst, val_ePair, val_eEnum, val_eZip, val_eRev, val_oNone, val_oSome, val_eCut, val_aNil, val_aCons, val_eCall, val_eLc, wp_nx, wp_rt, wp_bk, wp_ct, wp_bind, wp_seq, wp_set, wp_if, wp_ret, wp_drop, wp_nil, wp_fbk, wp_fct, wp_mut1, wp_for, val_runR, opt_add, opt_sub, opt_neg, opt_lt, opt_le, opt_gt, opt_ge, opt_eqS, opt_neS, opt_eqD, opt_neD, opt_in, opt_nin, opt_len, opt_lenScr, opt_abs, opt_max2, opt_min2, opt_sum, opt_sort, opt_intB, opt_maxC, opt_minC, val_pV, val_pIx, wp_mutP, wp_putP, wq_nx, wq_rt, wq_bk, wq_ct, wq_bind, wq_seq, wq_set, wq_if, wq_ret, wq_drop, wq_nil, wq_fbk, wq_fct, wq_mut1, wq_for, val_E1, val_E2, val_iNil, val_iBy, val_iIo, val_eCallI, val_tAnd2, val_tOr2, val_tNot2, val_eTpl, wp_stuck, wq_stuck, wp_unp, wq_unp, wp_for2, wq_for2, wp_ins, wq_ins, wp_mut0, wq_mut0, wq_mutP, wq_putP, wp_augP, wq_augP, wp_put2, wq_put2, val_runI, val_runIU, opt_isBB, opt_isnBB, opt_ixTp, opt_sortR, opt_sortP, val_runRU, val_ePop, wp_dput, wq_dput, opt_inD, opt_ninD, opt_lenD, opt_getDo, opt_and, val_eDget, val_eIxO, opt_isNo, opt_isSo, opt_unO, opt_toO, numF_id, wq_forO, wp_forO, val_eCutS, val_eTl, val_eCut2, val_eCallX, wp_raise, opt_cnt, opt_allB, opt_scI, opt_scB, opt_scS, opt_scN, opt_lsY, opt_toI, opt_inQz, opt_inQq, opt_toZ, opt_keysZ, wp_dputQ, wp_dpopQ, wp_dcopy, opt_toHH, opt_lenTp, opt_atH0, opt_atH1, wp_appH, opt_lsA, opt_stA, opt_unA_l, opt_isLA_l, opt_isLA_s, val_chn, val_popP, wq_insP, wp_insP, wq_mutIx, wq_appE, wp_dputS, wq_dputS, val_pDk, val_pFst, opt_inS, opt_ninS, opt_getSo, opt_ltS, opt_gtS, opt_lsYS, c4, c5, osm, cv_TI]
      exact mono (step P5 (lay_upt fun x hx => by
        obtain ⟨n, _, rfl⟩ := List.mem_map.mp hx
        rfl)) fun l hl => ⟨⟨hl, by first | trivial | exact c3⟩, by first | trivial | exact c4, by first | trivial | exact c5⟩
    · exact P5
  -- kind 6
  refine wp_step (fun r => (((r.v_rows.length = o.length ∧ ∀ x ∈ r.v_rows, layC x = true) ∧ r.v_cell_here = c) ∧ r.v_place = (p : Int) ∧ r.v_row_here = row)) ?_ fun r P7 => ?_
  · obtain ⟨⟨⟨c1, c2⟩, c3⟩, c4, c5⟩ := id P6
    rw [wp_if]
    simp only [val_lift, val_e2, val_eV, val_e0, opt_eqS]
    split
    · have L : ∀ n : Nat, n ≤ 20 → (n ≤ line) = True := fun n hn => eq_true (Nat.le_trans hn (by show 20 ≤ 2 ^ 24; decide))
      have l0 := L 0 (by decide)
      have l1 := L 1 (by decide)
      have l4 := L 4 (by decide)
      have l8 := L 8 (by decide)
      have sZ : layC (Up.sc (Sc.s ("0" : Str)) : Up Sc) = true := lay_zero
      have sZ2 : layC (Up.sc (Sc.s ("0" : Str)) : Up (Up Sc)) = true := lay_zero
      have sE2 : layC (Up.sc (Sc.s ("" : Str)) : Up (Up Sc)) = true := lay_empty
      have one : ∀ x : Up Sc, layC x = true → layC (Up.l [x] : Up (Up Sc)) = true := fun x hx => lay_up fun y hy => by rw [List.mem_singleton.mp hy]; exact hx
      have more : ∀ x : Up Sc, layC x = true → layC (Up.l (row.map ui ++ [x]) : Up (Up Sc)) = true := fun x hx => lay_up fun y hy => by
        rcases List.mem_append.mp hy with q | q
        · obtain ⟨n, _, rfl⟩ := List.mem_map.mp q
          rfl
        · rw [List.mem_singleton.mp q]; exact hx
      rw [wp_seq]
      refine wp_mono (N := fun r => (((r.v_rows.length = o.length ∧ ∀ x ∈ r.v_rows, layC x = true) ∧ r.v_cell_here = c) ∧ r.v_place = (p : Int) ∧ r.v_row_here = row) ∧ r.v_others.length = 8 ∧ ∀ x ∈ r.v_others, layC x = true) ?_ (fun r ⟨P6b, o1, o2⟩ => ?_) (fun _ q => q) (fun _ q => q) (fun _ q => q)
      · simp only [val_ok, val_er, val_bind, val_up, val_mute, val_ite, opt_some, opt_none, opt_ite, val_e0, val_eV, val_e1, val_e2, val_e3, val_eIf, val_eAnd, val_eOr, val_lift, val_eNil, val_eCons, val_eLst, val_ePair, val_eEnum, val_eZip, val_eRev, val_oNone, val_oSome, val_eCut, val_aNil, val_aCons, val_eCall, val_eLc, wp_nx, wp_rt, wp_bk, wp_ct, wp_bind, wp_seq, wp_set, wp_if, wp_ret, wp_drop, wp_nil, wp_fbk, wp_fct, wp_mut1, wp_for, val_runR, opt_add, opt_sub, opt_neg, opt_lt, opt_le, opt_gt, opt_ge, opt_eqS, opt_neS, opt_eqD, opt_neD, opt_in, opt_nin, opt_len, opt_lenScr, opt_abs, opt_max2, opt_min2, opt_sum, opt_sort, opt_intB, opt_maxC, opt_minC, val_pV, val_pIx, wp_mutP, wp_putP, wq_nx, wq_rt, wq_bk, wq_ct, wq_bind, wq_seq, wq_set, wq_if, wq_ret, wq_drop, wq_nil, wq_fbk, wq_fct, wq_mut1, wq_for, val_E1, val_E2, val_iNil, val_iBy, val_iIo, val_eCallI, val_tAnd2, val_tOr2, val_tNot2, val_eTpl, wp_stuck, wq_stuck, wp_unp, wq_unp, wp_for2, wq_for2, wp_ins, wq_ins, wp_mut0, wq_mut0, wq_mutP, wq_putP, wp_augP, wq_augP, wp_put2, wq_put2, val_runI, val_runIU, opt_isBB, opt_isnBB, opt_ixTp, opt_sortR, opt_sortP, val_runRU, val_ePop, wp_dput, wq_dput, opt_inD, opt_ninD, opt_lenD, opt_getDo, opt_and, val_eDget, val_eIxO, opt_isNo, opt_isSo, opt_unO, opt_toO, numF_id, wq_forO, wp_forO, val_eCutS, val_eTl, val_eCut2, val_eCallX, wp_raise, opt_cnt, opt_allB, opt_scI, opt_scB, opt_scS, opt_scN, opt_lsY, opt_toI, opt_inQz, opt_inQq, opt_toZ, opt_keysZ, wp_dputQ, wp_dpopQ, wp_dcopy, opt_toHH, opt_lenTp, opt_atH0, opt_atH1, wp_appH, opt_lsA, opt_stA, opt_unA_l, opt_isLA_l, opt_isLA_s, val_chn, val_popP, wq_insP, wp_insP, wq_mutIx, wq_appE, wp_dputS, wq_dputS, val_pDk, val_pFst, opt_inS, opt_ninS, opt_getSo, opt_ltS, opt_gtS, opt_lsYS, c5, osm, cv_U, cv_S, cv_I, cv_B, List.length_cons, List.length_nil, Nat.zero_add, Nat.reduceAdd, l0, l1, l8, if_true, cv_T, cv_self]
        refine ⟨⟨⟨⟨c1, c2⟩, by first | trivial | exact c3⟩, by first | trivial | exact c4, by first | trivial | exact c5⟩, by trivial, fun x hx => ?_⟩
        simp only [List.mem_cons, List.not_mem_nil, or_false] at hx
        rcases hx with rfl | rfl | rfl | rfl | rfl | rfl | rfl | rfl
        · rfl
        · exact sZ2
        · rfl
        · rfl
        · rfl
        · exact sE2
        · exact one _ rfl
        · exact one _ sZ
      rw [wp_seq]
      refine wp_mono (N := fun r => (((r.v_rows.length = o.length ∧ ∀ x ∈ r.v_rows, layC x = true) ∧ r.v_cell_here = c) ∧ r.v_place = (p : Int) ∧ r.v_row_here = row) ∧ r.v_others.length = 12 ∧ ∀ x ∈ r.v_others, layC x = true) ?_ (fun r ⟨P6c, o3, o4⟩ => ?_) (fun _ q => q) (fun _ q => q) (fun _ q => q)
      · obtain ⟨⟨⟨c1, c2⟩, c3⟩, c4, c5⟩ := id P6b
        have hcat : ∀ {x : Up Sc} {Q : List (Up Sc) → Prop}, opt (catL (row.map ui) [x]) Q = Q (row.map ui ++ [x]) := fun {x Q} => opt_catE (by rw [List.length_map, List.length_singleton]; omega)
        simp only [val_ok, val_er, val_bind, val_up, val_mute, val_ite, opt_some, opt_none, opt_ite, val_e0, val_eV, val_e1, val_e2, val_e3, val_eIf, val_eAnd, val_eOr, val_lift, val_eNil, val_eCons, val_eLst, val_ePair, val_eEnum, val_eZip, val_eRev, val_oNone, val_oSome, val_eCut, val_aNil, val_aCons, val_eCall, val_eLc, wp_nx, wp_rt, wp_bk, wp_ct, wp_bind, wp_seq, wp_set, wp_if, wp_ret, wp_drop, wp_nil, wp_fbk, wp_fct, wp_mut1, wp_for, val_runR, opt_add, opt_sub, opt_neg, opt_lt, opt_le, opt_gt, opt_ge, opt_eqS, opt_neS, opt_eqD, opt_neD, opt_in, opt_nin, opt_len, opt_lenScr, opt_abs, opt_max2, opt_min2, opt_sum, opt_sort, opt_intB, opt_maxC, opt_minC, val_pV, val_pIx, wp_mutP, wp_putP, wq_nx, wq_rt, wq_bk, wq_ct, wq_bind, wq_seq, wq_set, wq_if, wq_ret, wq_drop, wq_nil, wq_fbk, wq_fct, wq_mut1, wq_for, val_E1, val_E2, val_iNil, val_iBy, val_iIo, val_eCallI, val_tAnd2, val_tOr2, val_tNot2, val_eTpl, wp_stuck, wq_stuck, wp_unp, wq_unp, wp_for2, wq_for2, wp_ins, wq_ins, wp_mut0, wq_mut0, wq_mutP, wq_putP, wp_augP, wq_augP, wp_put2, wq_put2, val_runI, val_runIU, opt_isBB, opt_isnBB, opt_ixTp, opt_sortR, opt_sortP, val_runRU, val_ePop, wp_dput, wq_dput, opt_inD, opt_ninD, opt_lenD, opt_getDo, opt_and, val_eDget, val_eIxO, opt_isNo, opt_isSo, opt_unO, opt_toO, numF_id, wq_forO, wp_forO, val_eCutS, val_eTl, val_eCut2, val_eCallX, wp_raise, opt_cnt, opt_allB, opt_scI, opt_scB, opt_scS, opt_scN, opt_lsY, opt_toI, opt_inQz, opt_inQq, opt_toZ, opt_keysZ, wp_dputQ, wp_dpopQ, wp_dcopy, opt_toHH, opt_lenTp, opt_atH0, opt_atH1, wp_appH, opt_lsA, opt_stA, opt_unA_l, opt_isLA_l, opt_isLA_s, val_chn, val_popP, wq_insP, wp_insP, wq_mutIx, wq_appE, wp_dputS, wq_dputS, val_pDk, val_pFst, opt_inS, opt_ninS, opt_getSo, opt_ltS, opt_gtS, opt_lsYS, c5, cv_LU, cv_U, cv_S, List.length_cons, List.length_nil, Nat.zero_add, Nat.reduceAdd, l0, l1, l4, if_true, cv_T, cv_self, hcat]
        rw [opt_catE (by rw [o1]; simp)]
        refine ⟨⟨⟨⟨c1, c2⟩, by first | trivial | exact c3⟩, by first | trivial | exact c4, by first | trivial | exact c5⟩, by rw [List.length_append, o1]; rfl, fun x hx => ?_⟩
        rcases List.mem_append.mp hx with q | q
        · exact o2 x q
        · simp only [List.mem_cons, List.not_mem_nil, or_false] at q
          rcases q with rfl | rfl | rfl | rfl
          · exact more _ rfl
          · exact more _ sZ
          · exact more _ rfl
          · exact more _ rfl
      · obtain ⟨⟨⟨c1, c2⟩, c3⟩, c4, c5⟩ := id P6c
        have h0 := Int.emod_nonneg (c / 200) (b := 12) (by decide)
        have h1 := Int.emod_lt_of_pos (c / 200) (b := 12) (by decide)
        obtain ⟨x, ex⟩ := at_some (l := r.v_others) (j := (c / 200 % 12).toNat) (by omega)
        simp only [val_ok, val_er, val_bind, val_up, val_mute, val_ite, opt_some, opt_none, opt_ite, val_e0, val_eV, val_e1, val_e2, val_e3, val_eIf, val_eAnd, val_eOr, val_lift, val_eNil, val_eCons, val_eLst, val_ePair, val_eEnum, val_eZip, val_eRev, val_oNone, val_oSome, val_eCut, val_aNil, val_aCons, val_eCall, val_eLc, wp_nx, wp_rt, wp_bk, wp_ct, wp_bind, wp_seq, wp_set, wp_if, wp_ret, wp_drop, wp_nil, wp_fbk, wp_fct, wp_mut1, wp_for, val_runR, opt_add, opt_sub, opt_neg, opt_lt, opt_le, opt_gt, opt_ge, opt_eqS, opt_neS, opt_eqD, opt_neD, opt_in, opt_nin, opt_len, opt_lenScr, opt_abs, opt_max2, opt_min2, opt_sum, opt_sort, opt_intB, opt_maxC, opt_minC, val_pV, val_pIx, wp_mutP, wp_putP, wq_nx, wq_rt, wq_bk, wq_ct, wq_bind, wq_seq, wq_set, wq_if, wq_ret, wq_drop, wq_nil, wq_fbk, wq_fct, wq_mut1, wq_for, val_E1, val_E2, val_iNil, val_iBy, val_iIo, val_eCallI, val_tAnd2, val_tOr2, val_tNot2, val_eTpl, wp_stuck, wq_stuck, wp_unp, wq_unp, wp_for2, wq_for2, wp_ins, wq_ins, wp_mut0, wq_mut0, wq_mutP, wq_putP, wp_augP, wq_augP, wp_put2, wq_put2, val_runI, val_runIU, opt_isBB, opt_isnBB, opt_ixTp, opt_sortR, opt_sortP, val_runRU, val_ePop, wp_dput, wq_dput, opt_inD, opt_ninD, opt_lenD, opt_getDo, opt_and, val_eDget, val_eIxO, opt_isNo, opt_isSo, opt_unO, opt_toO, numF_id, wq_forO, wp_forO, val_eCutS, val_eTl, val_eCut2, val_eCallX, wp_raise, opt_cnt, opt_allB, opt_scI, opt_scB, opt_scS, opt_scN, opt_lsY, opt_toI, opt_inQz, opt_inQq, opt_toZ, opt_keysZ, wp_dputQ, wp_dpopQ, wp_dcopy, opt_toHH, opt_lenTp, opt_atH0, opt_atH1, wp_appH, opt_lsA, opt_stA, opt_unA_l, opt_isLA_l, opt_isLA_s, val_chn, val_popP, wq_insP, wp_insP, wq_mutIx, wq_appE, wp_dputS, wq_dputS, val_pDk, val_pFst, opt_inS, opt_ninS, opt_getSo, opt_ltS, opt_gtS, opt_lsYS, c3, c4, opt_fdivE (y := 200) (by decide) (by decide), opt_modE (y := 12) (by decide)]
        rw [opt_ixE h0 ex]
        exact mono (step P6c (o4 x (at_mem ex))) fun l hl => ⟨⟨hl, by first | trivial | exact c3⟩, by first | trivial | exact c4, by first | trivial | exact c5⟩
    · exact P6
  -- kind 7
  refine wp_step (fun r => (((r.v_rows.length = o.length ∧ ∀ x ∈ r.v_rows, layC x = true) ∧ r.v_cell_here = c) ∧ r.v_place = (p : Int) ∧ r.v_row_here = row)) ?_ fun r P8 => ?_
  · obtain ⟨⟨⟨c1, c2⟩, c3⟩, c4, c5⟩ := id P7
    rw [wp_if]
    simp only [val_lift, val_e2, val_eV, val_e0, opt_eqS]
    split
    · simp only [val_ok, val_er, val_bind, val_up, val_mute, val_ite, opt_some, opt_none, opt_ite, val_e0, val_eV, val_e1, val_e2, val_e3, val_eIf, val_eAnd, val_eOr, val_lift, val_eNil, val_eCons, val_eLst, val_ePair, val_eEnum, val_eZip, val_eRev, val_oNone, val_oSome, val_eCut, val_aNil, val_aCons, val_eCall, val_eLc, wp_nx, wp_rt, wp_bk, wp_ct, wp_bind, wp_seq, wp_set, wp_if, wp_ret, wp_drop, wp_nil, wp_fbk, wp_fct, wp_mut1, wp_for, val_runR, opt_add, opt_sub, opt_neg, opt_lt, opt_le, opt_gt, opt_ge, opt_eqS, opt_neS, opt_eqD, opt_neD, opt_in, opt_nin, opt_len, opt_lenScr, opt_abs, opt_max2, opt_min2, opt_sum, opt_sort, opt_intB, opt_maxC, opt_minC, val_pV, val_pIx, wp_mutP, wp_putP, wq_nx, wq_rt, wq_bk, wq_ct, wq_bind, wq_seq, wq_set, wq_if, wq_ret, wq_drop, wq_nil, wq_fbk, wq_fct, wq_mut1, wq_for, val_E1, val_E2, val_iNil, val_iBy, val_iIo, val_eCallI, val_tAnd2, val_tOr2, val_tNot2, val_eTpl, wp_stuck, wq_stuck, wp_unp, wq_unp, wp_for2, wq_for2, wp_ins, wq_ins, wp_mut0, wq_mut0, wq_mutP, wq_putP, wp_augP, wq_augP, wp_put2, wq_put2, val_runI, val_runIU, opt_isBB, opt_isnBB, opt_ixTp, opt_sortR, opt_sortP, val_runRU, val_ePop, wp_dput, wq_dput, opt_inD, opt_ninD, opt_lenD, opt_getDo, opt_and, val_eDget, val_eIxO, opt_isNo, opt_isSo, opt_unO, opt_toO, numF_id, wq_forO, wp_forO, val_eCutS, val_eTl, val_eCut2, val_eCallX, wp_raise, opt_cnt, opt_allB, opt_scI, opt_scB, opt_scS, opt_scN, opt_lsY, opt_toI, opt_inQz, opt_inQq, opt_toZ, opt_keysZ, wp_dputQ, wp_dpopQ, wp_dcopy, opt_toHH, opt_lenTp, opt_atH0, opt_atH1, wp_appH, opt_lsA, opt_stA, opt_unA_l, opt_isLA_l, opt_isLA_s, val_chn, val_popP, wq_insP, wp_insP, wq_mutIx, wq_appE, wp_dputS, wq_dputS, val_pDk, val_pFst, opt_inS, opt_ninS, opt_getSo, opt_ltS, opt_gtS, opt_lsYS, c3, c4, c5, opt_fdivE (y := 200) (by decide) (by decide)]
      rw [opt_modE (by omega), if_pos (show [c / 200 % ((p : Int) + 1)].length ≤ line by show 1 ≤ 2 ^ 24; decide), opt_catE (by rw [List.length_singleton]; omega)]
      simp only [val_ok, val_er, val_bind, val_up, val_mute, val_ite, opt_some, opt_none, opt_ite, val_e0, val_eV, val_e1, val_e2, val_e3, val_eIf, val_eAnd, val_eOr, val_lift, val_eNil, val_eCons, val_eLst, val_ePair, val_eEnum, val_eZip, val_eRev, val_oNone, val_oSome, val_eCut, val_aNil, val_aCons, val_eCall, val_eLc, wp_nx, wp_rt, wp_bk, wp_ct, wp_bind, wp_seq, wp_set, wp_if, wp_ret, wp_drop, wp_nil, wp_fbk, wp_fct, wp_mut1, wp_for, val_runR, opt_add, opt_sub, opt_neg, opt_lt, opt_le, opt_gt, opt_ge, opt_eqS, opt_neS, opt_eqD, opt_neD, opt_in, opt_nin, opt_len, opt_lenScr, opt_abs, opt_max2, opt_min2, opt_sum, opt_sort, opt_intB, opt_maxC, opt_minC, val_pV, val_pIx, wp_mutP, wp_putP, wq_nx, wq_rt, wq_bk, wq_ct, wq_bind, wq_seq, wq_set, wq_if, wq_ret, wq_drop, wq_nil, wq_fbk, wq_fct, wq_mut1, wq_for, val_E1, val_E2, val_iNil, val_iBy, val_iIo, val_eCallI, val_tAnd2, val_tOr2, val_tNot2, val_eTpl, wp_stuck, wq_stuck, wp_unp, wq_unp, wp_for2, wq_for2, wp_ins, wq_ins, wp_mut0, wq_mut0, wq_mutP, wq_putP, wp_augP, wq_augP, wp_put2, wq_put2, val_runI, val_runIU, opt_isBB, opt_isnBB, opt_ixTp, opt_sortR, opt_sortP, val_runRU, val_ePop, wp_dput, wq_dput, opt_inD, opt_ninD, opt_lenD, opt_getDo, opt_and, val_eDget, val_eIxO, opt_isNo, opt_isSo, opt_unO, opt_toO, numF_id, wq_forO, wp_forO, val_eCutS, val_eTl, val_eCut2, val_eCallX, wp_raise, opt_cnt, opt_allB, opt_scI, opt_scB, opt_scS, opt_scN, opt_lsY, opt_toI, opt_inQz, opt_inQq, opt_toZ, opt_keysZ, wp_dputQ, wp_dpopQ, wp_dcopy, opt_toHH, opt_lenTp, opt_atH0, opt_atH1, wp_appH, opt_lsA, opt_stA, opt_unA_l, opt_isLA_l, opt_isLA_s, val_chn, val_popP, wq_insP, wp_insP, wq_mutIx, wq_appE, wp_dputS, wq_dputS, val_pDk, val_pFst, opt_inS, opt_ninS, opt_getSo, opt_ltS, opt_gtS, opt_lsYS, cv_LI]
      exact mono (step P7 (lay_rowU _)) fun l hl => ⟨⟨hl, by first | trivial | exact c3⟩, by first | trivial | exact c4, by first | trivial | exact c5⟩
    · exact P7
  simp only [val_ok, val_er, val_bind, val_up, val_mute, val_ite, opt_some, opt_none, opt_ite, val_e0, val_eV, val_e1, val_e2, val_e3, val_eIf, val_eAnd, val_eOr, val_lift, val_eNil, val_eCons, val_eLst, val_ePair, val_eEnum, val_eZip, val_eRev, val_oNone, val_oSome, val_eCut, val_aNil, val_aCons, val_eCall, val_eLc, wp_nx, wp_rt, wp_bk, wp_ct, wp_bind, wp_seq, wp_set, wp_if, wp_ret, wp_drop, wp_nil, wp_fbk, wp_fct, wp_mut1, wp_for, val_runR, opt_add, opt_sub, opt_neg, opt_lt, opt_le, opt_gt, opt_ge, opt_eqS, opt_neS, opt_eqD, opt_neD, opt_in, opt_nin, opt_len, opt_lenScr, opt_abs, opt_max2, opt_min2, opt_sum, opt_sort, opt_intB, opt_maxC, opt_minC, val_pV, val_pIx, wp_mutP, wp_putP, wq_nx, wq_rt, wq_bk, wq_ct, wq_bind, wq_seq, wq_set, wq_if, wq_ret, wq_drop, wq_nil, wq_fbk, wq_fct, wq_mut1, wq_for, val_E1, val_E2, val_iNil, val_iBy, val_iIo, val_eCallI, val_tAnd2, val_tOr2, val_tNot2, val_eTpl, wp_stuck, wq_stuck, wp_unp, wq_unp, wp_for2, wq_for2, wp_ins, wq_ins, wp_mut0, wq_mut0, wq_mutP, wq_putP, wp_augP, wq_augP, wp_put2, wq_put2, val_runI, val_runIU, opt_isBB, opt_isnBB, opt_ixTp, opt_sortR, opt_sortP, val_runRU, val_ePop, wp_dput, wq_dput, opt_inD, opt_ninD, opt_lenD, opt_getDo, opt_and, val_eDget, val_eIxO, opt_isNo, opt_isSo, opt_unO, opt_toO, numF_id, wq_forO, wp_forO, val_eCutS, val_eTl, val_eCut2, val_eCallX, wp_raise, opt_cnt, opt_allB, opt_scI, opt_scB, opt_scS, opt_scN, opt_lsY, opt_toI, opt_inQz, opt_inQq, opt_toZ, opt_keysZ, wp_dputQ, wp_dpopQ, wp_dcopy, opt_toHH, opt_lenTp, opt_atH0, opt_atH1, wp_appH, opt_lsA, opt_stA, opt_unA_l, opt_isLA_l, opt_isLA_s, val_chn, val_popP, wq_insP, wp_insP, wq_mutIx, wq_appE, wp_dputS, wq_dputS, val_pDk, val_pFst, opt_inS, opt_ninS, opt_getSo, opt_ltS, opt_gtS, opt_lsYS, cv_self]
  exact lay_th P8.1.1.2
set_option maxHeartbeats 1000000 in
theorem law_true (ns : List Int) (h : ns.length ≤ 63) : m_law (⟨ns⟩, ()) = .ok true := by
  have osm : ∀ {α : Type} {a : α} {Q : α → Prop}, opt (some a) Q = Q a := fun {α a Q} => rfl
  have b24 : (1000 : Nat) ≤ 2 ^ 24 := by decide
  obtain ⟨c0, ec0⟩ := l_cell_ok ⟨ns⟩ 0 (by decide)
  obtain ⟨c1, ec1⟩ := l_cell_ok ⟨ns⟩ 1 (by decide)
  obtain ⟨o, eo, hl, ho⟩ := l_order_ok c0
  refine val_eq ?_
  simp only [m_law, b_law, val_runR]
  refine wp_step (fun r => r.v_script = ⟨ns⟩ ∧ r.v_order_here = o) ?_ fun r ⟨a1, a2⟩ => ?_
  · simp only [val_ok, val_er, val_bind, val_up, val_mute, val_ite, opt_some, opt_none, opt_ite, val_e0, val_eV, val_e1, val_e2, val_e3, val_eIf, val_eAnd, val_eOr, val_lift, val_eNil, val_eCons, val_eLst, val_ePair, val_eEnum, val_eZip, val_eRev, val_oNone, val_oSome, val_eCut, val_aNil, val_aCons, val_eCall, val_eLc, wp_nx, wp_rt, wp_bk, wp_ct, wp_bind, wp_seq, wp_set, wp_if, wp_ret, wp_drop, wp_nil, wp_fbk, wp_fct, wp_mut1, wp_for, val_runR, opt_add, opt_sub, opt_neg, opt_lt, opt_le, opt_gt, opt_ge, opt_eqS, opt_neS, opt_eqD, opt_neD, opt_in, opt_nin, opt_len, opt_lenScr, opt_abs, opt_max2, opt_min2, opt_sum, opt_sort, opt_intB, opt_maxC, opt_minC, val_pV, val_pIx, wp_mutP, wp_putP, wq_nx, wq_rt, wq_bk, wq_ct, wq_bind, wq_seq, wq_set, wq_if, wq_ret, wq_drop, wq_nil, wq_fbk, wq_fct, wq_mut1, wq_for, val_E1, val_E2, val_iNil, val_iBy, val_iIo, val_eCallI, val_tAnd2, val_tOr2, val_tNot2, val_eTpl, wp_stuck, wq_stuck, wp_unp, wq_unp, wp_for2, wq_for2, wp_ins, wq_ins, wp_mut0, wq_mut0, wq_mutP, wq_putP, wp_augP, wq_augP, wp_put2, wq_put2, val_runI, val_runIU, opt_isBB, opt_isnBB, opt_ixTp, opt_sortR, opt_sortP, val_runRU, val_ePop, wp_dput, wq_dput, opt_inD, opt_ninD, opt_lenD, opt_getDo, opt_and, val_eDget, val_eIxO, opt_isNo, opt_isSo, opt_unO, opt_toO, numF_id, wq_forO, wp_forO, val_eCutS, val_eTl, val_eCut2, val_eCallX, wp_raise, opt_cnt, opt_allB, opt_scI, opt_scB, opt_scS, opt_scN, opt_lsY, opt_toI, opt_inQz, opt_inQq, opt_toZ, opt_keysZ, wp_dputQ, wp_dpopQ, wp_dcopy, opt_toHH, opt_lenTp, opt_atH0, opt_atH1, wp_appH, opt_lsA, opt_stA, opt_unA_l, opt_isLA_l, opt_isLA_s, val_chn, val_popP, wq_insP, wp_insP, wq_mutIx, wq_appE, wp_dputS, wq_dputS, val_pDk, val_pFst, opt_inS, opt_ninS, opt_getSo, opt_ltS, opt_gtS, opt_lsYS, ec0, eo]
    exact ⟨by trivial, by trivial⟩
  refine wp_step (fun r => r.v_script = ⟨ns⟩ ∧ r.v_order_here = o) ?_ fun r ⟨a1, a2⟩ => ?_
  · simp only [val_ok, val_er, val_bind, val_up, val_mute, val_ite, opt_some, opt_none, opt_ite, val_e0, val_eV, val_e1, val_e2, val_e3, val_eIf, val_eAnd, val_eOr, val_lift, val_eNil, val_eCons, val_eLst, val_ePair, val_eEnum, val_eZip, val_eRev, val_oNone, val_oSome, val_eCut, val_aNil, val_aCons, val_eCall, val_eLc, wp_nx, wp_rt, wp_bk, wp_ct, wp_bind, wp_seq, wp_set, wp_if, wp_ret, wp_drop, wp_nil, wp_fbk, wp_fct, wp_mut1, wp_for, val_runR, opt_add, opt_sub, opt_neg, opt_lt, opt_le, opt_gt, opt_ge, opt_eqS, opt_neS, opt_eqD, opt_neD, opt_in, opt_nin, opt_len, opt_lenScr, opt_abs, opt_max2, opt_min2, opt_sum, opt_sort, opt_intB, opt_maxC, opt_minC, val_pV, val_pIx, wp_mutP, wp_putP, wq_nx, wq_rt, wq_bk, wq_ct, wq_bind, wq_seq, wq_set, wq_if, wq_ret, wq_drop, wq_nil, wq_fbk, wq_fct, wq_mut1, wq_for, val_E1, val_E2, val_iNil, val_iBy, val_iIo, val_eCallI, val_tAnd2, val_tOr2, val_tNot2, val_eTpl, wp_stuck, wq_stuck, wp_unp, wq_unp, wp_for2, wq_for2, wp_ins, wq_ins, wp_mut0, wq_mut0, wq_mutP, wq_putP, wp_augP, wq_augP, wp_put2, wq_put2, val_runI, val_runIU, opt_isBB, opt_isnBB, opt_ixTp, opt_sortR, opt_sortP, val_runRU, val_ePop, wp_dput, wq_dput, opt_inD, opt_ninD, opt_lenD, opt_getDo, opt_and, val_eDget, val_eIxO, opt_isNo, opt_isSo, opt_unO, opt_toO, numF_id, wq_forO, wp_forO, val_eCutS, val_eTl, val_eCut2, val_eCallX, wp_raise, opt_cnt, opt_allB, opt_scI, opt_scB, opt_scS, opt_scN, opt_lsY, opt_toI, opt_inQz, opt_inQq, opt_toZ, opt_keysZ, wp_dputQ, wp_dpopQ, wp_dcopy, opt_toHH, opt_lenTp, opt_atH0, opt_atH1, wp_appH, opt_lsA, opt_stA, opt_unA_l, opt_isLA_l, opt_isLA_s, val_chn, val_popP, wq_insP, wp_insP, wq_mutIx, wq_appE, wp_dputS, wq_dputS, val_pDk, val_pFst, opt_inS, opt_ninS, opt_getSo, opt_ltS, opt_gtS, opt_lsYS, a2]
    refine val_lcA rowU (fun row _ => by simp only [val_ok, val_er, val_bind, val_up, val_mute, val_ite, opt_some, opt_none, opt_ite, val_e0, val_eV, val_e1, val_e2, val_e3, val_eIf, val_eAnd, val_eOr, val_lift, val_eNil, val_eCons, val_eLst, val_ePair, val_eEnum, val_eZip, val_eRev, val_oNone, val_oSome, val_eCut, val_aNil, val_aCons, val_eCall, val_eLc, wp_nx, wp_rt, wp_bk, wp_ct, wp_bind, wp_seq, wp_set, wp_if, wp_ret, wp_drop, wp_nil, wp_fbk, wp_fct, wp_mut1, wp_for, val_runR, opt_add, opt_sub, opt_neg, opt_lt, opt_le, opt_gt, opt_ge, opt_eqS, opt_neS, opt_eqD, opt_neD, opt_in, opt_nin, opt_len, opt_lenScr, opt_abs, opt_max2, opt_min2, opt_sum, opt_sort, opt_intB, opt_maxC, opt_minC, val_pV, val_pIx, wp_mutP, wp_putP, wq_nx, wq_rt, wq_bk, wq_ct, wq_bind, wq_seq, wq_set, wq_if, wq_ret, wq_drop, wq_nil, wq_fbk, wq_fct, wq_mut1, wq_for, val_E1, val_E2, val_iNil, val_iBy, val_iIo, val_eCallI, val_tAnd2, val_tOr2, val_tNot2, val_eTpl, wp_stuck, wq_stuck, wp_unp, wq_unp, wp_for2, wq_for2, wp_ins, wq_ins, wp_mut0, wq_mut0, wq_mutP, wq_putP, wp_augP, wq_augP, wp_put2, wq_put2, val_runI, val_runIU, opt_isBB, opt_isnBB, opt_ixTp, opt_sortR, opt_sortP, val_runRU, val_ePop, wp_dput, wq_dput, opt_inD, opt_ninD, opt_lenD, opt_getDo, opt_and, val_eDget, val_eIxO, opt_isNo, opt_isSo, opt_unO, opt_toO, numF_id, wq_forO, wp_forO, val_eCutS, val_eTl, val_eCut2, val_eCallX, wp_raise, opt_cnt, opt_allB, opt_scI, opt_scB, opt_scS, opt_scN, opt_lsY, opt_toI, opt_inQz, opt_inQq, opt_toZ, opt_keysZ, wp_dputQ, wp_dpopQ, wp_dcopy, opt_toHH, opt_lenTp, opt_atH0, opt_atH1, wp_appH, opt_lsA, opt_stA, opt_unA_l, opt_isLA_l, opt_isLA_s, val_chn, val_popP, wq_insP, wp_insP, wq_mutIx, wq_appE, wp_dputS, wq_dputS, val_pDk, val_pFst, opt_inS, opt_ninS, opt_getSo, opt_ltS, opt_gtS, opt_lsYS, osm, cv_LI]) ?_
    simp only [cv_self, is_order_ok, ord_told ho hl, val_ok, val_ok, val_er, val_bind, val_up, val_mute, val_ite, opt_some, opt_none, opt_ite, val_e0, val_eV, val_e1, val_e2, val_e3, val_eIf, val_eAnd, val_eOr, val_lift, val_eNil, val_eCons, val_eLst, val_ePair, val_eEnum, val_eZip, val_eRev, val_oNone, val_oSome, val_eCut, val_aNil, val_aCons, val_eCall, val_eLc, wp_nx, wp_rt, wp_bk, wp_ct, wp_bind, wp_seq, wp_set, wp_if, wp_ret, wp_drop, wp_nil, wp_fbk, wp_fct, wp_mut1, wp_for, val_runR, opt_add, opt_sub, opt_neg, opt_lt, opt_le, opt_gt, opt_ge, opt_eqS, opt_neS, opt_eqD, opt_neD, opt_in, opt_nin, opt_len, opt_lenScr, opt_abs, opt_max2, opt_min2, opt_sum, opt_sort, opt_intB, opt_maxC, opt_minC, val_pV, val_pIx, wp_mutP, wp_putP, wq_nx, wq_rt, wq_bk, wq_ct, wq_bind, wq_seq, wq_set, wq_if, wq_ret, wq_drop, wq_nil, wq_fbk, wq_fct, wq_mut1, wq_for, val_E1, val_E2, val_iNil, val_iBy, val_iIo, val_eCallI, val_tAnd2, val_tOr2, val_tNot2, val_eTpl, wp_stuck, wq_stuck, wp_unp, wq_unp, wp_for2, wq_for2, wp_ins, wq_ins, wp_mut0, wq_mut0, wq_mutP, wq_putP, wp_augP, wq_augP, wp_put2, wq_put2, val_runI, val_runIU, opt_isBB, opt_isnBB, opt_ixTp, opt_sortR, opt_sortP, val_runRU, val_ePop, wp_dput, wq_dput, opt_inD, opt_ninD, opt_lenD, opt_getDo, opt_and, val_eDget, val_eIxO, opt_isNo, opt_isSo, opt_unO, opt_toO, numF_id, wq_forO, wp_forO, val_eCutS, val_eTl, val_eCut2, val_eCallX, wp_raise, opt_cnt, opt_allB, opt_scI, opt_scB, opt_scS, opt_scN, opt_lsY, opt_toI, opt_inQz, opt_inQq, opt_toZ, opt_keysZ, wp_dputQ, wp_dpopQ, wp_dcopy, opt_toHH, opt_lenTp, opt_atH0, opt_atH1, wp_appH, opt_lsA, opt_stA, opt_unA_l, opt_isLA_l, opt_isLA_s, val_chn, val_popP, wq_insP, wp_insP, wq_mutIx, wq_appE, wp_dputS, wq_dputS, val_pDk, val_pFst, opt_inS, opt_ninS, opt_getSo, opt_ltS, opt_gtS, opt_lsYS, decide_true, Bool.not_true, Bool.false_eq_true, if_false]
    exact ⟨a1, by first | trivial | exact a2⟩
  refine wp_step (fun r => r.v_script = ⟨ns⟩ ∧ r.v_order_here = o) ?_ fun r ⟨a1, a2⟩ => ?_
  · have L : ∀ n : Nat, n ≤ 20 → (n ≤ line) = True := fun n hn => eq_true (Nat.le_trans hn (by show 20 ≤ 2 ^ 24; decide))
    have l0 := L 0 (by decide)
    have l7 := L 7 (by decide)
    have pw : ∀ {Q : Int → Prop}, opt (powI 10 40) Q = Q (10 ^ (40 : Int).toNat) := fun {Q} => opt_powE (by decide)
    simp only [val_ok, val_er, val_bind, val_up, val_mute, val_ite, opt_some, opt_none, opt_ite, val_e0, val_eV, val_e1, val_e2, val_e3, val_eIf, val_eAnd, val_eOr, val_lift, val_eNil, val_eCons, val_eLst, val_ePair, val_eEnum, val_eZip, val_eRev, val_oNone, val_oSome, val_eCut, val_aNil, val_aCons, val_eCall, val_eLc, wp_nx, wp_rt, wp_bk, wp_ct, wp_bind, wp_seq, wp_set, wp_if, wp_ret, wp_drop, wp_nil, wp_fbk, wp_fct, wp_mut1, wp_for, val_runR, opt_add, opt_sub, opt_neg, opt_lt, opt_le, opt_gt, opt_ge, opt_eqS, opt_neS, opt_eqD, opt_neD, opt_in, opt_nin, opt_len, opt_lenScr, opt_abs, opt_max2, opt_min2, opt_sum, opt_sort, opt_intB, opt_maxC, opt_minC, val_pV, val_pIx, wp_mutP, wp_putP, wq_nx, wq_rt, wq_bk, wq_ct, wq_bind, wq_seq, wq_set, wq_if, wq_ret, wq_drop, wq_nil, wq_fbk, wq_fct, wq_mut1, wq_for, val_E1, val_E2, val_iNil, val_iBy, val_iIo, val_eCallI, val_tAnd2, val_tOr2, val_tNot2, val_eTpl, wp_stuck, wq_stuck, wp_unp, wq_unp, wp_for2, wq_for2, wp_ins, wq_ins, wp_mut0, wq_mut0, wq_mutP, wq_putP, wp_augP, wq_augP, wp_put2, wq_put2, val_runI, val_runIU, opt_isBB, opt_isnBB, opt_ixTp, opt_sortR, opt_sortP, val_runRU, val_ePop, wp_dput, wq_dput, opt_inD, opt_ninD, opt_lenD, opt_getDo, opt_and, val_eDget, val_eIxO, opt_isNo, opt_isSo, opt_unO, opt_toO, numF_id, wq_forO, wp_forO, val_eCutS, val_eTl, val_eCut2, val_eCallX, wp_raise, opt_cnt, opt_allB, opt_scI, opt_scB, opt_scS, opt_scN, opt_lsY, opt_toI, opt_inQz, opt_inQq, opt_toZ, opt_keysZ, wp_dputQ, wp_dpopQ, wp_dcopy, opt_toHH, opt_lenTp, opt_atH0, opt_atH1, wp_appH, opt_lsA, opt_stA, opt_unA_l, opt_isLA_l, opt_isLA_s, val_chn, val_popP, wq_insP, wp_insP, wq_mutIx, wq_appE, wp_dputS, wq_dputS, val_pDk, val_pFst, opt_inS, opt_ninS, opt_getSo, opt_ltS, opt_gtS, opt_lsYS, osm, pw, cv_U, cv_S, cv_I, cv_B, List.length_cons, List.length_nil, Nat.zero_add, Nat.reduceAdd, l0, l7, if_true, cv_T]
    refine wp_loop (fun i r => r.v_script = ⟨ns⟩ ∧ r.v_order_here = o) ⟨a1, a2⟩ (fun i u r eu ⟨b1, b2⟩ => ?_) (fun r q => q)
    have hf : ordU u = false := by
      have hm := at_mem eu
      simp only [List.mem_cons, List.not_mem_nil, or_false] at hm
      rcases hm with rfl | rfl | rfl | rfl | rfl | rfl | rfl <;> rfl
    simp only [val_ok, val_er, val_bind, val_up, val_mute, val_ite, opt_some, opt_none, opt_ite, val_e0, val_eV, val_e1, val_e2, val_e3, val_eIf, val_eAnd, val_eOr, val_lift, val_eNil, val_eCons, val_eLst, val_ePair, val_eEnum, val_eZip, val_eRev, val_oNone, val_oSome, val_eCut, val_aNil, val_aCons, val_eCall, val_eLc, wp_nx, wp_rt, wp_bk, wp_ct, wp_bind, wp_seq, wp_set, wp_if, wp_ret, wp_drop, wp_nil, wp_fbk, wp_fct, wp_mut1, wp_for, val_runR, opt_add, opt_sub, opt_neg, opt_lt, opt_le, opt_gt, opt_ge, opt_eqS, opt_neS, opt_eqD, opt_neD, opt_in, opt_nin, opt_len, opt_lenScr, opt_abs, opt_max2, opt_min2, opt_sum, opt_sort, opt_intB, opt_maxC, opt_minC, val_pV, val_pIx, wp_mutP, wp_putP, wq_nx, wq_rt, wq_bk, wq_ct, wq_bind, wq_seq, wq_set, wq_if, wq_ret, wq_drop, wq_nil, wq_fbk, wq_fct, wq_mut1, wq_for, val_E1, val_E2, val_iNil, val_iBy, val_iIo, val_eCallI, val_tAnd2, val_tOr2, val_tNot2, val_eTpl, wp_stuck, wq_stuck, wp_unp, wq_unp, wp_for2, wq_for2, wp_ins, wq_ins, wp_mut0, wq_mut0, wq_mutP, wq_putP, wp_augP, wq_augP, wp_put2, wq_put2, val_runI, val_runIU, opt_isBB, opt_isnBB, opt_ixTp, opt_sortR, opt_sortP, val_runRU, val_ePop, wp_dput, wq_dput, opt_inD, opt_ninD, opt_lenD, opt_getDo, opt_and, val_eDget, val_eIxO, opt_isNo, opt_isSo, opt_unO, opt_toO, numF_id, wq_forO, wp_forO, val_eCutS, val_eTl, val_eCut2, val_eCallX, wp_raise, opt_cnt, opt_allB, opt_scI, opt_scB, opt_scS, opt_scN, opt_lsY, opt_toI, opt_inQz, opt_inQq, opt_toZ, opt_keysZ, wp_dputQ, wp_dpopQ, wp_dcopy, opt_toHH, opt_lenTp, opt_atH0, opt_atH1, wp_appH, opt_lsA, opt_stA, opt_unA_l, opt_isLA_l, opt_isLA_s, val_chn, val_popP, wq_insP, wp_insP, wq_mutIx, wq_appE, wp_dputS, wq_dputS, val_pDk, val_pFst, opt_inS, opt_ninS, opt_getSo, opt_ltS, opt_gtS, opt_lsYS, is_order_ok, hf, decide_true, Bool.not_true, Bool.false_eq_true, if_false]
    exact ⟨b1, b2⟩
  refine wp_step (fun _ => True) ?_ fun r _ => by simp only [val_ok, val_er, val_bind, val_up, val_mute, val_ite, opt_some, opt_none, opt_ite, val_e0, val_eV, val_e1, val_e2, val_e3, val_eIf, val_eAnd, val_eOr, val_lift, val_eNil, val_eCons, val_eLst, val_ePair, val_eEnum, val_eZip, val_eRev, val_oNone, val_oSome, val_eCut, val_aNil, val_aCons, val_eCall, val_eLc, wp_nx, wp_rt, wp_bk, wp_ct, wp_bind, wp_seq, wp_set, wp_if, wp_ret, wp_drop, wp_nil, wp_fbk, wp_fct, wp_mut1, wp_for, val_runR, opt_add, opt_sub, opt_neg, opt_lt, opt_le, opt_gt, opt_ge, opt_eqS, opt_neS, opt_eqD, opt_neD, opt_in, opt_nin, opt_len, opt_lenScr, opt_abs, opt_max2, opt_min2, opt_sum, opt_sort, opt_intB, opt_maxC, opt_minC, val_pV, val_pIx, wp_mutP, wp_putP, wq_nx, wq_rt, wq_bk, wq_ct, wq_bind, wq_seq, wq_set, wq_if, wq_ret, wq_drop, wq_nil, wq_fbk, wq_fct, wq_mut1, wq_for, val_E1, val_E2, val_iNil, val_iBy, val_iIo, val_eCallI, val_tAnd2, val_tOr2, val_tNot2, val_eTpl, wp_stuck, wq_stuck, wp_unp, wq_unp, wp_for2, wq_for2, wp_ins, wq_ins, wp_mut0, wq_mut0, wq_mutP, wq_putP, wp_augP, wq_augP, wp_put2, wq_put2, val_runI, val_runIU, opt_isBB, opt_isnBB, opt_ixTp, opt_sortR, opt_sortP, val_runRU, val_ePop, wp_dput, wq_dput, opt_inD, opt_ninD, opt_lenD, opt_getDo, opt_and, val_eDget, val_eIxO, opt_isNo, opt_isSo, opt_unO, opt_toO, numF_id, wq_forO, wp_forO, val_eCutS, val_eTl, val_eCut2, val_eCallX, wp_raise, opt_cnt, opt_allB, opt_scI, opt_scB, opt_scS, opt_scN, opt_lsY, opt_toI, opt_inQz, opt_inQq, opt_toZ, opt_keysZ, wp_dputQ, wp_dpopQ, wp_dcopy, opt_toHH, opt_lenTp, opt_atH0, opt_atH1, wp_appH, opt_lsA, opt_stA, opt_unA_l, opt_isLA_l, opt_isLA_s, val_chn, val_popP, wq_insP, wp_insP, wq_mutIx, wq_appE, wp_dputS, wq_dputS, val_pDk, val_pFst, opt_inS, opt_ninS, opt_getSo, opt_ltS, opt_gtS, opt_lsYS]
  have hcut := cut_short ns (some 2) (some 12)
  simp only [wp_for, val_e2, val_eLst, val_eCons, val_eCall, val_aCons, val_aNil, val_eV, val_e0, a1, ec1, val_ok, val_eNil, val_eCut, val_oSome]
  rw [if_pos (show [c1].length ≤ line by show 1 ≤ 2 ^ 24; decide)]
  simp only [val_ok, val_er, val_bind, val_up, val_mute, val_ite, opt_some, opt_none, opt_ite, val_e0, val_eV, val_e1, val_e2, val_e3, val_eIf, val_eAnd, val_eOr, val_lift, val_eNil, val_eCons, val_eLst, val_ePair, val_eEnum, val_eZip, val_eRev, val_oNone, val_oSome, val_eCut, val_aNil, val_aCons, val_eCall, val_eLc, wp_nx, wp_rt, wp_bk, wp_ct, wp_bind, wp_seq, wp_set, wp_if, wp_ret, wp_drop, wp_nil, wp_fbk, wp_fct, wp_mut1, wp_for, val_runR, opt_add, opt_sub, opt_neg, opt_lt, opt_le, opt_gt, opt_ge, opt_eqS, opt_neS, opt_eqD, opt_neD, opt_in, opt_nin, opt_len, opt_lenScr, opt_abs, opt_max2, opt_min2, opt_sum, opt_sort, opt_intB, opt_maxC, opt_minC, val_pV, val_pIx, wp_mutP, wp_putP, wq_nx, wq_rt, wq_bk, wq_ct, wq_bind, wq_seq, wq_set, wq_if, wq_ret, wq_drop, wq_nil, wq_fbk, wq_fct, wq_mut1, wq_for, val_E1, val_E2, val_iNil, val_iBy, val_iIo, val_eCallI, val_tAnd2, val_tOr2, val_tNot2, val_eTpl, wp_stuck, wq_stuck, wp_unp, wq_unp, wp_for2, wq_for2, wp_ins, wq_ins, wp_mut0, wq_mut0, wq_mutP, wq_putP, wp_augP, wq_augP, wp_put2, wq_put2, val_runI, val_runIU, opt_isBB, opt_isnBB, opt_ixTp, opt_sortR, opt_sortP, val_runRU, val_ePop, wp_dput, wq_dput, opt_inD, opt_ninD, opt_lenD, opt_getDo, opt_and, val_eDget, val_eIxO, opt_isNo, opt_isSo, opt_unO, opt_toO, numF_id, wq_forO, wp_forO, val_eCutS, val_eTl, val_eCut2, val_eCallX, wp_raise, opt_cnt, opt_allB, opt_scI, opt_scB, opt_scS, opt_scN, opt_lsY, opt_toI, opt_inQz, opt_inQq, opt_toZ, opt_keysZ, wp_dputQ, wp_dpopQ, wp_dcopy, opt_toHH, opt_lenTp, opt_atH0, opt_atH1, wp_appH, opt_lsA, opt_stA, opt_unA_l, opt_isLA_l, opt_isLA_s, val_chn, val_popP, wq_insP, wp_insP, wq_mutIx, wq_appE, wp_dputS, wq_dputS, val_pDk, val_pFst, opt_inS, opt_ninS, opt_getSo, opt_ltS, opt_gtS, opt_lsYS, a1]
  rw [if_pos (by show ns.length ≤ 2 ^ 24; omega)]
  try simp only [val_ok, val_er, val_bind, val_up, val_mute, val_ite, opt_some, opt_none, opt_ite, val_e0, val_eV, val_e1, val_e2, val_e3, val_eIf, val_eAnd, val_eOr, val_lift, val_eNil, val_eCons, val_eLst, val_ePair, val_eEnum, val_eZip, val_eRev, val_oNone, val_oSome, val_eCut, val_aNil, val_aCons, val_eCall, val_eLc, wp_nx, wp_rt, wp_bk, wp_ct, wp_bind, wp_seq, wp_set, wp_if, wp_ret, wp_drop, wp_nil, wp_fbk, wp_fct, wp_mut1, wp_for, val_runR, opt_add, opt_sub, opt_neg, opt_lt, opt_le, opt_gt, opt_ge, opt_eqS, opt_neS, opt_eqD, opt_neD, opt_in, opt_nin, opt_len, opt_lenScr, opt_abs, opt_max2, opt_min2, opt_sum, opt_sort, opt_intB, opt_maxC, opt_minC, val_pV, val_pIx, wp_mutP, wp_putP, wq_nx, wq_rt, wq_bk, wq_ct, wq_bind, wq_seq, wq_set, wq_if, wq_ret, wq_drop, wq_nil, wq_fbk, wq_fct, wq_mut1, wq_for, val_E1, val_E2, val_iNil, val_iBy, val_iIo, val_eCallI, val_tAnd2, val_tOr2, val_tNot2, val_eTpl, wp_stuck, wq_stuck, wp_unp, wq_unp, wp_for2, wq_for2, wp_ins, wq_ins, wp_mut0, wq_mut0, wq_mutP, wq_putP, wp_augP, wq_augP, wp_put2, wq_put2, val_runI, val_runIU, opt_isBB, opt_isnBB, opt_ixTp, opt_sortR, opt_sortP, val_runRU, val_ePop, wp_dput, wq_dput, opt_inD, opt_ninD, opt_lenD, opt_getDo, opt_and, val_eDget, val_eIxO, opt_isNo, opt_isSo, opt_unO, opt_toO, numF_id, wq_forO, wp_forO, val_eCutS, val_eTl, val_eCut2, val_eCallX, wp_raise, opt_cnt, opt_allB, opt_scI, opt_scB, opt_scS, opt_scN, opt_lsY, opt_toI, opt_inQz, opt_inQq, opt_toZ, opt_keysZ, wp_dputQ, wp_dpopQ, wp_dcopy, opt_toHH, opt_lenTp, opt_atH0, opt_atH1, wp_appH, opt_lsA, opt_stA, opt_unA_l, opt_isLA_l, opt_isLA_s, val_chn, val_popP, wq_insP, wp_insP, wq_mutIx, wq_appE, wp_dputS, wq_dputS, val_pDk, val_pFst, opt_inS, opt_ninS, opt_getSo, opt_ltS, opt_gtS, opt_lsYS]
  rw [opt_catE (by rw [List.length_singleton]; omega)]
  refine wp_loop (fun i r => r.v_order_here = o) a2 (fun i c r ec b2 => ?_) (fun r _ => trivial)
  obtain ⟨u, eu, lu⟩ := l_spoilt_ok ho hl c
  simp only [val_ok, val_er, val_bind, val_up, val_mute, val_ite, opt_some, opt_none, opt_ite, val_e0, val_eV, val_e1, val_e2, val_e3, val_eIf, val_eAnd, val_eOr, val_lift, val_eNil, val_eCons, val_eLst, val_ePair, val_eEnum, val_eZip, val_eRev, val_oNone, val_oSome, val_eCut, val_aNil, val_aCons, val_eCall, val_eLc, wp_nx, wp_rt, wp_bk, wp_ct, wp_bind, wp_seq, wp_set, wp_if, wp_ret, wp_drop, wp_nil, wp_fbk, wp_fct, wp_mut1, wp_for, val_runR, opt_add, opt_sub, opt_neg, opt_lt, opt_le, opt_gt, opt_ge, opt_eqS, opt_neS, opt_eqD, opt_neD, opt_in, opt_nin, opt_len, opt_lenScr, opt_abs, opt_max2, opt_min2, opt_sum, opt_sort, opt_intB, opt_maxC, opt_minC, val_pV, val_pIx, wp_mutP, wp_putP, wq_nx, wq_rt, wq_bk, wq_ct, wq_bind, wq_seq, wq_set, wq_if, wq_ret, wq_drop, wq_nil, wq_fbk, wq_fct, wq_mut1, wq_for, val_E1, val_E2, val_iNil, val_iBy, val_iIo, val_eCallI, val_tAnd2, val_tOr2, val_tNot2, val_eTpl, wp_stuck, wq_stuck, wp_unp, wq_unp, wp_for2, wq_for2, wp_ins, wq_ins, wp_mut0, wq_mut0, wq_mutP, wq_putP, wp_augP, wq_augP, wp_put2, wq_put2, val_runI, val_runIU, opt_isBB, opt_isnBB, opt_ixTp, opt_sortR, opt_sortP, val_runRU, val_ePop, wp_dput, wq_dput, opt_inD, opt_ninD, opt_lenD, opt_getDo, opt_and, val_eDget, val_eIxO, opt_isNo, opt_isSo, opt_unO, opt_toO, numF_id, wq_forO, wp_forO, val_eCutS, val_eTl, val_eCut2, val_eCallX, wp_raise, opt_cnt, opt_allB, opt_scI, opt_scB, opt_scS, opt_scN, opt_lsY, opt_toI, opt_inQz, opt_inQq, opt_toZ, opt_keysZ, wp_dputQ, wp_dpopQ, wp_dcopy, opt_toHH, opt_lenTp, opt_atH0, opt_atH1, wp_appH, opt_lsA, opt_stA, opt_unA_l, opt_isLA_l, opt_isLA_s, val_chn, val_popP, wq_insP, wp_insP, wq_mutIx, wq_appE, wp_dputS, wq_dputS, val_pDk, val_pFst, opt_inS, opt_ninS, opt_getSo, opt_ltS, opt_gtS, opt_lsYS, b2, eu, l_copy_ok, is_order_ok, l_is_order_ok, osm, Bool.not_true, Bool.false_eq_true, if_false, decide_true]
  rw [opt_neU lu]
  simp only [Bool.false_eq_true, if_false]
end K01
namespace K01
open PySem PySem.Spec PyProof.Rows L2 VL
def topS (i : Nat) : Stmt := PySem.Challenge.pw_bandorder_k01_orders_judged.main.body.getD i (.Pass ⟨0, 0, 0, 0⟩)
set_option maxHeartbeats 0 in
/-- what the top has written -/
structure Tx (K : PySem.W.Frag) (mg : Str → Option Value) where
  f_is_whole : Addr
  d_is_whole : FuncData
  F_is_whole : Fun K "is_whole" "is_whole" (topS 2) f_is_whole d_is_whole
  b_is_whole : Binds K d_is_whole ["thing"] []
  g_is_whole : mg "is_whole" = some (.ref f_is_whole)
  f_is_place : Addr
  d_is_place : FuncData
  F_is_place : Fun K "is_place" "is_place" (topS 3) f_is_place d_is_place
  b_is_place : Binds K d_is_place ["rows", "j"] []
  g_is_place : mg "is_place" = some (.ref f_is_place)
  f_is_order : Addr
  d_is_order : FuncData
  F_is_order : Fun K "is_order" "is_order" (topS 4) f_is_order d_is_order
  b_is_order : Binds K d_is_order ["thing"] []
  g_is_order : mg "is_order" = some (.ref f_is_order)
  f_l_cell : Addr
  d_l_cell : FuncData
  F_l_cell : Fun K "_law_cell" "_law_cell" (topS 6) f_l_cell d_l_cell
  b_l_cell : Binds K d_l_cell ["_law_script", "_law_k"] []
  g_l_cell : mg "_law_cell" = some (.ref f_l_cell)
  f_l_digits : Addr
  d_l_digits : FuncData
  F_l_digits : Fun K "_law_digits" "_law_digits" (topS 7) f_l_digits d_l_digits
  b_l_digits : Binds K d_l_digits ["_law_cell_here", "_law_base", "_law_many"] []
  g_l_digits : mg "_law_digits" = some (.ref f_l_digits)
  f_l_mixed : Addr
  d_l_mixed : FuncData
  F_l_mixed : Fun K "_law_mixed" "_law_mixed" (topS 8) f_l_mixed d_l_mixed
  b_l_mixed : Binds K d_l_mixed ["_law_cell_here", "_law_base", "_law_many"] []
  g_l_mixed : mg "_law_mixed" = some (.ref f_l_mixed)
  f_l_row : Addr
  d_l_row : FuncData
  F_l_row : Fun K "_law_row" "_law_row" (topS 9) f_l_row d_l_row
  b_l_row : Binds K d_l_row ["_law_cell_here", "_law_base", "_law_many"] []
  g_l_row : mg "_law_row" = some (.ref f_l_row)
  f_l_closed : Addr
  d_l_closed : FuncData
  F_l_closed : Fun K "_law_closed" "_law_closed" (topS 10) f_l_closed d_l_closed
  b_l_closed : Binds K d_l_closed ["_law_many", "_law_digits_here"] []
  g_l_closed : mg "_law_closed" = some (.ref f_l_closed)
  f_l_order : Addr
  d_l_order : FuncData
  F_l_order : Fun K "_law_order" "_law_order" (topS 11) f_l_order d_l_order
  b_l_order : Binds K d_l_order ["_law_cell_here"] []
  g_l_order : mg "_law_order" = some (.ref f_l_order)
  f_l_spoilt : Addr
  d_l_spoilt : FuncData
  F_l_spoilt : Fun K "_law_spoilt" "_law_spoilt" (topS 12) f_l_spoilt d_l_spoilt
  b_l_spoilt : Binds K d_l_spoilt ["_law_order_here", "_law_cell_here"] []
  g_l_spoilt : mg "_law_spoilt" = some (.ref f_l_spoilt)
  f_l_is_row : Addr
  d_l_is_row : FuncData
  F_l_is_row : Fun K "_law_is_row" "_law_is_row" (topS 13) f_l_is_row d_l_is_row
  b_l_is_row : Binds K d_l_is_row ["_law_rows", "_law_place"] []
  g_l_is_row : mg "_law_is_row" = some (.ref f_l_is_row)
  f_l_is_order : Addr
  d_l_is_order : FuncData
  F_l_is_order : Fun K "_law_is_order" "_law_is_order" (topS 14) f_l_is_order d_l_is_order
  b_l_is_order : Binds K d_l_is_order ["_law_thing"] []
  g_l_is_order : mg "_law_is_order" = some (.ref f_l_is_order)
  f_l_copy : Addr
  d_l_copy : FuncData
  F_l_copy : Fun K "_law_copy" "_law_copy" (topS 15) f_l_copy d_l_copy
  b_l_copy : Binds K d_l_copy ["_law_thing"] []
  g_l_copy : mg "_law_copy" = some (.ref f_l_copy)
  f_law : Addr
  d_law : FuncData
  F_law : Fun K "law" "law" (topS 16) f_law d_law
  b_law : Binds K d_law ["_law_script"] []
  g_law : mg "law" = some (.ref f_law)
  z_abs : mg "abs" = none
  z_bool : mg "bool" = none
  z_enumerate : mg "enumerate" = none
  z_int : mg "int" = none
  z_isinstance : mg "isinstance" = none
  z_len : mg "len" = none
  z_list : mg "list" = none
  z_range : mg "range" = none
  z_set : mg "set" = none
  z_sorted : mg "sorted" = none
  z_tuple : mg "tuple" = none
  c_MOST : ∃ t, mg "MOST" = some (.int 14 t)
section
variable {P : Program} {w : World} {K : PySem.W.Frag} {mg : Str → Option Value} {base : Heap}
abbrev N_is_whole : List Str := ["thing"]
theorem sc_is_whole : FnScope N_is_whole ["thing"] (defScope (topS 2)) := ⟨rfl, rfl, rfl, by decide +kernel, rfl, by decide +kernel, by decide +kernel⟩
theorem ok_is_whole (T : Tx K mg) : FnOk P w K mg base CX0 1 T.f_is_whole T.d_is_whole ["thing"] (spP K 0 m_is_whole) :=
  ok_def (sl := slots gs_is_whole) (ms' := []) (rm := [.un]) (g := b_is_whole) T.F_is_whole sc_is_whole (fun _ => rfl) (fun _ => ⟨_, rfl, rfl⟩) fun cdv A outer s H E H0 S0 vs hr =>
 (ss_one (by exact (s_ret (ev (pv_andV (pv_isiU kit_intU rfl T.z_isinstance rfl T.z_int boot_int (pv_v 0 (pv 0) rfl (fun _ => rfl))) (pv_one (pv_notV (pv_isiU kit_boolU rfl T.z_isinstance rfl T.z_bool boot_bool (pv_v 0 (pv 0) rfl (fun _ => rfl))))))))))
abbrev N_is_place : List Str := ["rows", "j", "row", "last", "low", "lower"]
theorem sc_is_place : FnScope N_is_place ["rows", "j"] (defScope (topS 3)) := ⟨rfl, rfl, rfl, by decide +kernel, rfl, by decide +kernel, by decide +kernel⟩
theorem ok_is_place (T : Tx K mg) : FnOk P w K mg base CX0 2 T.f_is_place T.d_is_place ["rows", "j"] (spP K 0 m_is_place) :=
  ok_def (sl := slots gs_is_place) (ms' := []) (rm := [.un, .un, .un, .un, .un, .un]) (g := b_is_place) T.F_is_place sc_is_place (fun _ => rfl) (fun _ => ⟨_, rfl, rfl⟩) fun cdv A outer s H E H0 S0 vs hr =>
 (ss_cons (ms1 := [lv 0, lv 0, lv 0, .un, .un, .un]) (by exact (s_set (i := 2) sc_is_place.nd rfl (.inl rfl) (ev (pv_ix (pv_v 0 (pv 0) rfl (fun _ => rfl)) (pv_v 1 (pv 1) rfl (fun _ => rfl)))) (fun _ _ => rfl) (by decide)))
 (by exact (ss_cons (ms1 := [lv 0, lv 0, lv 0, .un, .un, .un]) (by exact (s_if (by exact (et (pt_notV (pt_e (pv_isiU kit_listU rfl T.z_isinstance rfl T.z_list boot_list (pv_v 2 (pv 2) rfl (fun _ => rfl)))))))
 (by exact (ss_one (by exact (s_ret (ev pv_bl)))))
 (by exact ss_nil)))
 (by exact (ss_cons (ms1 := [lv 0, lv 0, lv 0, lv 0, .un, .un]) (by exact (s_set (i := 3) sc_is_place.nd rfl (.inl rfl) (ev (pv_un un_neg o_neg pv_int)) (fun _ _ => rfl) (by decide)))
 (by exact (ss_cons (ms1 := [lv 0, lv 0, lv 0, lv 0, .un, .un]) (by exact (s_for (lm := [lv 0, lv 0, lv 0, lv 0, .un, .un]) PassesOwn.never rfl (by exact (pw_list (i := 4) (pv_re re_unUL (pv_v 2 (pv 2) rfl (fun _ => rfl))))) (pg_name (i := 4) sc_is_place.nd rfl (.inl rfl))
 (by exact (ss_weak (ms1 := [lv 0, lv 0, lv 0, lv 0, lv 0, .un]) (by exact (ss_cons (ms1 := [lv 0, lv 0, lv 0, lv 0, lv 0, .un]) (by exact (s_if (by exact (et (PW.pt (pw_orV (pt_notV (pt_e (pv_call (ok_is_whole T) (hr.mono (by decide)) rfl T.g_is_whole T.F_is_whole.kp T.b_is_whole (pa_c (pv_v 4 (pv 4) rfl (fun _ => rfl)) pa_n)))) (pw_orV (pt_cmpV op_le o_le (pv_re re_unUI (pv_v 4 (pv 4) rfl (fun _ => rfl))) (pv_v 3 (pv 3) rfl (fun _ => rfl)) (nomark _)) (pw_or1V (pt_cmpV op_ge o_ge (pv_re re_unUI (pv_v 4 (pv 4) rfl (fun _ => rfl))) (pv_v 1 (pv 1) rfl (fun _ => rfl)) (nomark _))))))))
 (by exact (ss_one (by exact (s_ret (ev pv_bl)))))
 (by exact ss_nil)))
 (by exact (ss_one (by exact (s_set (i := 3) sc_is_place.nd rfl (.inl rfl) (ve_re re_unUI (ev (pv_v 4 (pv 4) rfl (fun _ => rfl)))) (fun _ _ => rfl) (by decide))))))))) (fun _ _ => rfl) (fun _ => rfl) (by decide)))
 (by exact (ss_cons (ms1 := [lv 0, lv 0, lv 0, lv 0, .un, .un]) (by exact (s_for (lm := [lv 0, lv 0, lv 0, lv 0, .un, .un]) PassesOwn.never rfl (by exact (pw_list (i := 4) (pv_re re_unUL (pv_v 2 (pv 2) rfl (fun _ => rfl))))) (pg_name (i := 4) sc_is_place.nd rfl (.inl rfl))
 (by exact (ss_weak (ms1 := [lv 0, lv 0, lv 0, lv 0, lv 0, .un]) (by exact (ss_one (by exact (s_for (lm := [lv 0, lv 0, lv 0, lv 0, lv 0, .un]) PassesOwn.never rfl (by exact (pw_list (i := 5) (pv_re re_unUL (pv_ix (pv_v 0 (pv 0) rfl (fun _ => rfl)) (pv_re re_unUI (pv_v 4 (pv 4) rfl (fun _ => rfl))))))) (pg_name (i := 5) sc_is_place.nd rfl (.inl rfl))
 (by exact (ss_weak (ms1 := [lv 0, lv 0, lv 0, lv 0, lv 0, lv 0]) (by exact (ss_one (by exact (s_if (by exact (et (pt_cmpV op_notIn_seq o_ninL (pv_re re_unUI (pv_v 5 (pv 5) rfl (fun _ => rfl))) (pv_re re_unULI (pv_v 2 (pv 2) rfl (fun _ => rfl))) (by rfl))))
 (by exact (ss_one (by exact (s_ret (ev pv_bl)))))
 (by exact ss_nil))))))) (fun _ _ => rfl) (fun _ => rfl) (by decide))))))) (fun _ _ => rfl) (fun _ => rfl) (by decide)))
 (by exact (ss_one (by exact (s_ret (ev pv_bl))))))))))))))
abbrev N_is_order : List Str := ["thing", "j"]
theorem sc_is_order : FnScope N_is_order ["thing"] (defScope (topS 4)) := ⟨rfl, rfl, rfl, by decide +kernel, rfl, by decide +kernel, by decide +kernel⟩
theorem ok_is_order (T : Tx K mg) : FnOk P w K mg base CX0 3 T.f_is_order T.d_is_order ["thing"] (spP K 0 m_is_order) :=
  ok_def (sl := slots gs_is_order) (ms' := []) (rm := [.un, .un]) (g := b_is_order) T.F_is_order sc_is_order (fun _ => rfl) (fun _ => ⟨_, rfl, rfl⟩) fun cdv A outer s H E H0 S0 vs hr =>
 (ss_cons (ms1 := [lv 0, .un]) (by exact (s_if (by exact (et (PW.pt (pw_orV (pt_notV (pt_e (pv_isiU kit_listU rfl T.z_isinstance rfl T.z_list boot_list (pv_v 0 (pv 0) rfl (fun _ => rfl))))) (pw_or1V (pt_cmpV op_gt o_gt (pv_b1 call_len_seq o_lenL rfl T.z_len boot_len (pv_re re_unUL (pv_v 0 (pv 0) rfl (fun _ => rfl)))) (pv_glob rfl T.c_MOST) (nomark _)))))))
 (by exact (ss_one (by exact (s_ret (ev pv_bl)))))
 (by exact ss_nil)))
 (by exact (ss_cons (ms1 := [lv 0, .un]) (by exact (s_for (lm := [lv 0, .un]) PassesOwn.never rfl (by exact (pw_rng1 (i := 1) rfl T.z_range (pv_b1 call_len_seq o_lenL rfl T.z_len boot_len (pv_re re_unUL (pv_v 0 (pv 0) rfl (fun _ => rfl)))))) (pg_name (i := 1) sc_is_order.nd rfl (.inl rfl))
 (by exact (ss_weak (ms1 := [lv 0, lv 0]) (by exact (ss_one (by exact (s_if (by exact (et (pt_notV (pt_e (pv_call (ok_is_place T) (hr.mono (by decide)) rfl T.g_is_place T.F_is_place.kp T.b_is_place (pa_c (pv_re re_unUL (pv_v 0 (pv 0) rfl (fun _ => rfl))) (pa_c (pv_v 1 (pv 1) rfl (fun _ => rfl)) pa_n)))))))
 (by exact (ss_one (by exact (s_ret (ev pv_bl)))))
 (by exact ss_nil))))))) (fun _ _ => rfl) (fun _ => rfl) (by decide)))
 (by exact (ss_one (by exact (s_ret (ev pv_bl))))))))
abbrev N_l_cell : List Str := ["_law_script", "_law_k"]
theorem sc_l_cell : FnScope N_l_cell ["_law_script", "_law_k"] (defScope (topS 6)) := ⟨rfl, rfl, rfl, by decide +kernel, rfl, by decide +kernel, by decide +kernel⟩
theorem ok_l_cell (T : Tx K mg) : FnOk P w K mg base CX0 1 T.f_l_cell T.d_l_cell ["_law_script", "_law_k"] (spP K 0 m_l_cell) :=
  ok_def (sl := slots gs_l_cell) (ms' := []) (rm := [.un, .un]) (g := b_l_cell) T.F_l_cell sc_l_cell (fun _ => rfl) (fun _ => ⟨_, rfl, rfl⟩) fun cdv A outer s H E H0 S0 vs hr =>
 (ss_cons (ms1 := [lv 0, lv 0]) (by exact (s_if (by exact (et (pt_cmpV op_lt o_lt (pv_v 1 (pv 1) rfl (fun _ => rfl)) (pv_b1 call_len_seq o_lenScr rfl T.z_len boot_len (pv_v 0 (pv 0) rfl (fun _ => rfl))) (nomark _))))
 (by exact (ss_one (by exact (s_ret (ev (pv_ixScr (pv_v 0 (pv 0) rfl (fun _ => rfl)) (pv_v 1 (pv 1) rfl (fun _ => rfl))))))))
 (by exact ss_nil)))
 (by exact (ss_one (by exact (s_ret (ev pv_int))))))
abbrev N_l_digits : List Str := ["_law_cell_here", "_law_base", "_law_many", "_law_row_here", "_law_k"]
theorem sc_l_digits : FnScope N_l_digits ["_law_cell_here", "_law_base", "_law_many"] (defScope (topS 7)) := ⟨rfl, rfl, rfl, by decide +kernel, rfl, by decide +kernel, by decide +kernel⟩
theorem ok_l_digits (T : Tx K mg) : FnOk P w K mg base CX0 1 T.f_l_digits T.d_l_digits ["_law_cell_here", "_law_base", "_law_many"] (spP K 1 m_l_digits) :=
  ok_def (sl := slots gs_l_digits) (ms' := []) (rm := [.un, .un, .un, .un, .un]) (g := b_l_digits) T.F_l_digits sc_l_digits (fun _ => rfl) (fun _ => ⟨_, rfl, rfl⟩) fun cdv A outer s H E H0 S0 vs hr =>
 (ss_cons (ms1 := [lv 0, lv 0, lv 0, lv 1, .un]) (by exact (s_set (i := 3) sc_l_digits.nd rfl (.inl rfl) (ev (pv_nil (k := 0))) (fun _ _ => rfl) (by decide)))
 (by exact (ss_cons (ms1 := [lv 0, lv 0, lv 0, lv 1, .un]) (by exact (s_for (lm := [lv 0, lv 0, lv 0, lv 1, .un]) PassesOwn.never rfl (by exact (pw_rng1 (i := 4) rfl T.z_range (pv_v 2 (pv 2) rfl (fun _ => rfl)))) (pg_name (i := 4) sc_l_digits.nd rfl (.inl rfl))
 (by exact (ss_weak (ms1 := [lv 0, lv 0, lv 0, lv 1, lv 0]) (by exact (ss_cons (ms1 := [lv 0, lv 0, lv 0, lv 1, lv 0]) (by exact (s_mut1 (i := 3) (get := (fun r : E_l_digits => r.v_row_here)) mut_app (pe_bm PySem.F.plainAttrs_list PySem.F.slot_list_append PySem.F.type_list_append mt_append (pv 3) (pa_cons (ev (pv_bin op_modN o_mod (pv_v 0 (pv 0) rfl (fun _ => rfl)) (pv_v 1 (pv 1) rfl (fun _ => rfl)))) pa_nil)) rfl rfl (fun _ => rfl) (fun _ _ => rfl)))
 (by exact (ss_one (by exact (s_set (i := 0) sc_l_digits.nd rfl (.inl rfl) (ev (pv_bin op_divA o_fdiv (pv_v 0 (pv 0) rfl (fun _ => rfl)) (pv_v 1 (pv 1) rfl (fun _ => rfl)))) (fun _ _ => rfl) (by decide))))))))) (fun _ _ => rfl) (fun _ => rfl) (by decide)))
 (by exact (ss_one (by exact (s_ret (ev_mv (g := fun r : E_l_digits => r.v_row_here) 3 (pv 3) rfl (fun _ => rfl)))))))))
abbrev N_l_mixed : List Str := ["_law_cell_here", "_law_base", "_law_many", "_law_row_here", "_law_k", "_law_one", "_law_two"]
theorem sc_l_mixed : FnScope N_l_mixed ["_law_cell_here", "_law_base", "_law_many"] (defScope (topS 8)) := ⟨rfl, rfl, rfl, by decide +kernel, rfl, by decide +kernel, by decide +kernel⟩
theorem ok_l_mixed (T : Tx K mg) : FnOk P w K mg base CX0 1 T.f_l_mixed T.d_l_mixed ["_law_cell_here", "_law_base", "_law_many"] (spP K 1 m_l_mixed) :=
  ok_def (sl := slots gs_l_mixed) (ms' := []) (rm := [.un, .un, .un, .un, .un, .un, .un]) (g := b_l_mixed) T.F_l_mixed sc_l_mixed (fun _ => rfl) (fun _ => ⟨_, rfl, rfl⟩) fun cdv A outer s H E H0 S0 vs hr =>
 (ss_cons (ms1 := [lv 0, lv 0, lv 0, lv 1, .un, .un, .un]) (by exact (s_set (i := 3) sc_l_mixed.nd rfl (.inl rfl) (ev (pv_nil (k := 0))) (fun _ _ => rfl) (by decide)))
 (by exact (ss_cons (ms1 := [lv 0, lv 0, lv 0, lv 1, .un, .un, .un]) (by exact (s_for (lm := [lv 0, lv 0, lv 0, lv 1, .un, .un, .un]) PassesOwn.never rfl (by exact (pw_rng1 (i := 4) rfl T.z_range (pv_v 2 (pv 2) rfl (fun _ => rfl)))) (pg_name (i := 4) sc_l_mixed.nd rfl (.inl rfl))
 (by exact (ss_weak (ms1 := [lv 0, lv 0, lv 0, lv 1, lv 0, lv 0, lv 0]) (by exact (ss_cons (ms1 := [lv 0, lv 0, lv 0, lv 1, lv 0, lv 0, .un]) (by exact (s_set (i := 5) sc_l_mixed.nd rfl (.inl rfl) (ev (pv_bin op_modN o_mod (pv_bin op_mulA o_mul (pv_bin op_add o_add (pv_bin op_add o_add (pv_bin op_add o_add (pv_bin op_modN o_mod (pv_v 0 (pv 0) rfl (fun _ => rfl)) pv_int) (pv_bin op_mulA o_mul (pv_bin op_mulA o_mul pv_int (pv_v 4 (pv 4) rfl (fun _ => rfl))) (pv_v 4 (pv 4) rfl (fun _ => rfl)))) (pv_bin op_mulA o_mul pv_int (pv_v 4 (pv 4) rfl (fun _ => rfl)))) pv_int) pv_int) pv_int)) (fun _ _ => rfl) (by decide)))
 (by exact (ss_cons (ms1 := [lv 0, lv 0, lv 0, lv 1, lv 0, lv 0, lv 0]) (by exact (s_set (i := 6) sc_l_mixed.nd rfl (.inl rfl) (ev (pv_bin op_modN o_mod (pv_bin op_mulA o_mul (pv_bin op_add o_add (pv_bin op_add o_add (pv_bin op_divA o_fdiv (pv_v 5 (pv 5) rfl (fun _ => rfl)) pv_int) (pv_bin op_mulA o_mul (pv_bin op_modN o_mod (pv_bin op_divA o_fdiv (pv_v 0 (pv 0) rfl (fun _ => rfl)) pv_int) pv_int) pv_int)) (pv_v 4 (pv 4) rfl (fun _ => rfl))) pv_int) pv_int)) (fun _ _ => rfl) (by decide)))
 (by exact (ss_one (by exact (s_mut1 (i := 3) (get := (fun r : E_l_mixed => r.v_row_here)) mut_app (pe_bm PySem.F.plainAttrs_list PySem.F.slot_list_append PySem.F.type_list_append mt_append (pv 3) (pa_cons (ev (pv_bin op_modN o_mod (pv_bin op_divA o_fdiv (pv_v 6 (pv 6) rfl (fun _ => rfl)) pv_int) (pv_v 1 (pv 1) rfl (fun _ => rfl)))) pa_nil)) rfl rfl (fun _ => rfl) (fun _ _ => rfl))))))))))) (fun _ _ => rfl) (fun _ => rfl) (by decide)))
 (by exact (ss_one (by exact (s_ret (ev_mv (g := fun r : E_l_mixed => r.v_row_here) 3 (pv 3) rfl (fun _ => rfl)))))))))
abbrev N_l_row : List Str := ["_law_cell_here", "_law_base", "_law_many"]
theorem sc_l_row : FnScope N_l_row ["_law_cell_here", "_law_base", "_law_many"] (defScope (topS 9)) := ⟨rfl, rfl, rfl, by decide +kernel, rfl, by decide +kernel, by decide +kernel⟩
theorem ok_l_row (T : Tx K mg) : FnOk P w K mg base CX0 2 T.f_l_row T.d_l_row ["_law_cell_here", "_law_base", "_law_many"] (spP K 1 m_l_row) :=
  ok_def (sl := slots gs_l_row) (ms' := []) (rm := [.un, .un, .un]) (g := b_l_row) T.F_l_row sc_l_row (fun _ => rfl) (fun _ => ⟨_, rfl, rfl⟩) fun cdv A outer s H E H0 S0 vs hr =>
 (ss_cons (ms1 := [lv 0, lv 0, lv 0]) (by exact (s_if (by exact (et (pt_cmpV op_ge o_ge (pv_b1 call_abs o_abs rfl T.z_abs boot_abs (pv_v 0 (pv 0) rfl (fun _ => rfl))) (pv_bin op_pow o_pow pv_int pv_int) (nomark _))))
 (by exact (ss_one (by exact (s_ret (ev (pv_call (ok_l_digits T) (hr.mono (by decide)) rfl T.g_l_digits T.F_l_digits.kp T.b_l_digits (pa_c (pv_v 0 (pv 0) rfl (fun _ => rfl)) (pa_c (pv_v 1 (pv 1) rfl (fun _ => rfl)) (pa_c (pv_v 2 (pv 2) rfl (fun _ => rfl)) pa_n)))))))))
 (by exact ss_nil)))
 (by exact (ss_one (by exact (s_ret (ev (pv_call (ok_l_mixed T) (hr.mono (by decide)) rfl T.g_l_mixed T.F_l_mixed.kp T.b_l_mixed (pa_c (pv_v 0 (pv 0) rfl (fun _ => rfl)) (pa_c (pv_v 1 (pv 1) rfl (fun _ => rfl)) (pa_c (pv_v 2 (pv 2) rfl (fun _ => rfl)) pa_n))))))))))
abbrev N_l_closed : List Str := ["_law_many", "_law_digits_here", "_law_order_here", "_law_at", "_law_high", "_law_below", "_law_low"]
theorem sc_l_closed : FnScope N_l_closed ["_law_many", "_law_digits_here"] (defScope (topS 10)) := ⟨rfl, rfl, rfl, by decide +kernel, rfl, by decide +kernel, by decide +kernel⟩
theorem ok_l_closed (T : Tx K mg) : FnOk P w K mg base CX0 1 T.f_l_closed T.d_l_closed ["_law_many", "_law_digits_here"] (spP K 2 m_l_closed) :=
  ok_def (sl := slots gs_l_closed) (ms' := []) (rm := [.un, .un, .un, .un, .un, .un, .un]) (g := b_l_closed) T.F_l_closed sc_l_closed (fun _ => rfl) (fun _ => ⟨_, rfl, rfl⟩) fun cdv A outer s H E H0 S0 vs hr =>
 (ss_cons (ms1 := [lv 0, lv 0, lv 2, .un, .un, .un, .un]) (by exact (s_set (i := 2) sc_l_closed.nd rfl (.inl rfl) (ev (pv_nil (k := 1))) (fun _ _ => rfl) (by decide)))
 (by exact (ss_cons (ms1 := [lv 0, lv 0, lv 2, lv 0, .un, .un, .un]) (by exact (s_set (i := 3) sc_l_closed.nd rfl (.inl rfl) (ev pv_int) (fun _ _ => rfl) (by decide)))
 (by exact (ss_cons (ms1 := [lv 0, lv 0, lv 2, lv 0, .un, .un, .un]) (by exact (s_for (lm := [lv 0, lv 0, lv 2, lv 0, .un, .un, .un]) PassesOwn.never rfl (by exact (pw_rng1 (i := 4) rfl T.z_range (pv_v 0 (pv 0) rfl (fun _ => rfl)))) (pg_name (i := 4) sc_l_closed.nd rfl (.inl rfl))
 (by exact (ss_weak (ms1 := [lv 0, lv 0, lv 2, lv 0, lv 0, lv 1, .un]) (by exact (ss_cons (ms1 := [lv 0, lv 0, lv 2, lv 0, lv 0, lv 1, .un]) (by exact (s_set (i := 5) sc_l_closed.nd rfl (.inl rfl) (ev (pv_nil (k := 0))) (fun _ _ => rfl) (by decide)))
 (by exact (ss_cons (ms1 := [lv 0, lv 0, lv 2, lv 0, lv 0, lv 1, .un]) (by exact (s_lend (pl := [.cl 0 none, .fix 0 none, .fix 2 none, .cl 0 none, .cl 0 none, .cl 1 none, .un]) (gs := gs_l_closed) ⟨inferInstance, inferInstance, inferInstance, inferInstance, inferInstance, inferInstance, trivial⟩ rfl rfl nob_for (fun S0 A => by exact (s_for (lm := [lv 0, .own 0 (some 1001), .own 0 (some 1002), lv 0, lv 0, lv 1, .un]) PassesOwn.never rfl (by exact (pw_rng1 (i := 6) rfl T.z_range (pv_v 4 (pv 4) rfl (fun _ => rfl)))) (pg_name (i := 6) sc_l_closed.nd rfl (.inl rfl))
 (by exact (ss_weak (ms1 := [lv 0, .own 0 (some 1001), .own 0 (some 1002), lv 0, lv 0, lv 1, lv 0]) (by exact (ss_cons (ms1 := [lv 0, .own 0 (some 1001), .own 0 (some 1002), lv 0, lv 0, lv 1, lv 0]) (by exact (s_if (by exact (et (pt_cmpV op_eq o_eqS (pv_scal 0 (pv_ixW (pv_v 1 (pv 1) rfl (fun _ => rfl)) (pv_v 3 (pv 3) rfl (fun _ => rfl)))) pv_int (nomark _))))
 (by exact (ss_cons (ms1 := [lv 0, .own 0 (some 1001), .own 0 (some 1002), lv 0, lv 0, lv 1, lv 0]) (by exact (s_mut1 (i := 5) (get := (fun r : E_l_closed => r.v_below)) mut_app (pe_bm PySem.F.plainAttrs_list PySem.F.slot_list_append PySem.F.type_list_append mt_append (pv 5) (pa_cons (ev (pv_v 6 (pv 6) rfl (fun _ => rfl))) pa_nil)) rfl rfl (fun _ => rfl) (fun _ _ => rfl)))
 (by exact (ss_one (by exact (s_mut1 (i := 5) (get := (fun r : E_l_closed => r.v_below)) mut_ext0 (pe_bm PySem.F.plainAttrs_list PySem.F.slot_list_extend PySem.F.type_list_extend mt_extend (pv 5) (pa_cons (ev (pv_ix (pv_v 2 (pv 2) rfl (fun _ => rfl)) (pv_v 6 (pv 6) rfl (fun _ => rfl)))) pa_nil)) rfl rfl (fun _ => rfl) (fun _ _ => rfl)))))))
 (by exact ss_nil)))
 (by exact (ss_one (by exact (s_set (i := 3) sc_l_closed.nd rfl (.inl rfl) (ev (pv_bin op_add o_add (pv_v 3 (pv 3) rfl (fun _ => rfl)) pv_int)) (fun _ _ => rfl) (by decide))))))))) (fun _ _ => rfl) (fun _ => rfl) (by decide)))))
 (by exact (ss_one (by exact (s_mut1 (i := 2) (get := (fun r : E_l_closed => r.v_order_here)) mut_app (pe_bm PySem.F.plainAttrs_list PySem.F.slot_list_append PySem.F.type_list_append mt_append (pv 2) (pa_cons (ev (pv_sortSet rfl rfl T.z_sorted rfl T.z_set (pv_w 5 (pv 5) rfl (fun _ => rfl)))) pa_nil)) rfl rfl (fun _ => rfl) (fun _ _ => rfl))))))))))) (fun _ _ => rfl) (fun _ => rfl) (by decide)))
 (by exact (ss_one (by exact (s_ret (ev_mv (g := fun r : E_l_closed => r.v_order_here) 2 (pv 2) rfl (fun _ => rfl)))))))))))
abbrev N_l_order : List Str := ["_law_cell_here", "_law_many"]
theorem sc_l_order : FnScope N_l_order ["_law_cell_here"] (defScope (topS 11)) := ⟨rfl, rfl, rfl, by decide +kernel, rfl, by decide +kernel, by decide +kernel⟩
theorem ok_l_order (T : Tx K mg) : FnOk P w K mg base CX0 3 T.f_l_order T.d_l_order ["_law_cell_here"] (spP K 2 m_l_order) :=
  ok_def (sl := slots gs_l_order) (ms' := []) (rm := [.un, .un]) (g := b_l_order) T.F_l_order sc_l_order (fun _ => rfl) (fun _ => ⟨_, rfl, rfl⟩) fun cdv A outer s H E H0 S0 vs hr =>
 (ss_cons (ms1 := [lv 0, lv 0]) (by exact (s_set (i := 1) sc_l_order.nd rfl (.inl rfl) (ev (pv_bin op_modN o_mod (pv_v 0 (pv 0) rfl (fun _ => rfl)) pv_int)) (fun _ _ => rfl) (by decide)))
 (by exact (ss_cons (ms1 := [lv 0, lv 0]) (by exact (s_if (by exact (et (pt_cmpV op_eq o_eqS (pv_bin op_modN o_mod (pv_bin op_divA o_fdiv (pv_v 0 (pv 0) rfl (fun _ => rfl)) pv_int) pv_int) pv_int (nomark _))))
 (by exact (ss_one (by exact (s_set (i := 1) sc_l_order.nd rfl (.inl rfl) (ev (pv_bin op_modN o_mod (pv_bin op_divA o_fdiv (pv_v 0 (pv 0) rfl (fun _ => rfl)) pv_int) pv_int)) (fun _ _ => rfl) (by decide)))))
 (by exact ss_nil)))
 (by exact (ss_one (by exact (s_ret (ev (pv_call (ok_l_closed T) (hr.mono (by decide)) rfl T.g_l_closed T.F_l_closed.kp T.b_l_closed (pa_c (pv_v 1 (pv 1) rfl (fun _ => rfl)) (pa_c (pv_share (pv_call (ok_l_row T) (hr.mono (by decide)) rfl T.g_l_row T.F_l_row.kp T.b_l_row (pa_c (pv_bin op_divA o_fdiv (pv_v 0 (pv 0) rfl (fun _ => rfl)) pv_int) (pa_c (pv_bin op_add o_add pv_int (pv_bin op_modN o_mod (pv_bin op_divA o_fdiv (pv_v 0 (pv 0) rfl (fun _ => rfl)) pv_int) pv_int)) (pa_c pv_int pa_n))))) pa_n)))))))))))
abbrev N_l_spoilt : List Str := ["_law_order_here", "_law_cell_here", "_law_row_here", "_law_rows", "_law_kind", "_law_place", "_law_at", "_law_others", "_law_low", "_law_k"]
theorem sc_l_spoilt : FnScope N_l_spoilt ["_law_order_here", "_law_cell_here"] (defScope (topS 12)) := ⟨rfl, rfl, rfl, by decide +kernel, rfl, by decide +kernel, by decide +kernel⟩
theorem ok_l_spoilt (T : Tx K mg) : FnOk P w K mg base CX0 1 T.f_l_spoilt T.d_l_spoilt ["_law_order_here", "_law_cell_here"] (spP K 0 m_l_spoilt) :=
  ok_def (sl := slots gs_l_spoilt) (ms' := []) (rm := [.un, .un, .un, .un, .un, .un, .un, .un, .un, .un]) (g := b_l_spoilt) T.F_l_spoilt sc_l_spoilt (fun _ => rfl) (fun _ => ⟨_, rfl, rfl⟩) fun cdv A outer s H E H0 S0 vs hr =>
 (ss_cons (ms1 := [lv 0, lv 0, .un, lv 1, .un, .un, .un, .un, .un, .un]) (by exact (s_setLc (i := 3) rfl sc_l_spoilt.nd rfl rfl (sw_true rfl rfl rfl (by decide +kernel)) (pw_list (i := 2) (pv_v 0 (pv 0) rfl (fun _ => rfl))) (blkOk_by (N := N_l_spoilt) (sc := defScope (topS 12)) (own := [("_law_row_here", 2)]) (by decide +kernel)) (fun _ _ _ _ _ => (pg_name (i := 2) sc_l_spoilt.nd rfl (.inl rfl))) (fun _ _ _ _ _ => ptsV_nil) (fun _ _ _ _ _ => (pv_share (pv_re (re_cv (β := List Int) (α := Up (Up Sc))) (pv_listS rfl T.z_list (pv_v 2 (pv 2) rfl (fun _ => rfl)))))) (fun _ _ => rfl) (fun _ => rfl) (by decide) (fun _ _ => rfl) (by decide)))
 (by exact (ss_cons (ms1 := [lv 0, lv 0, .un, lv 1, lv 0, .un, .un, .un, .un, .un]) (by exact (s_set (i := 4) sc_l_spoilt.nd rfl (.inl rfl) (ev (pv_bin op_modN o_mod (pv_v 1 (pv 1) rfl (fun _ => rfl)) pv_int)) (fun _ _ => rfl) (by decide)))
 (by exact (ss_cons (ms1 := [lv 0, lv 0, .un, lv 1, lv 0, .un, .un, .un, .un, .un]) (by exact (s_if (by exact (et (pt_cmpV op_eq o_eqS (pv_v 4 (pv 4) rfl (fun _ => rfl)) pv_int (nomark _))))
 (by exact (ss_one (by exact (s_pre (ms1 := [lv 0, lv 0, .un, lv 0, lv 0, .un, .un, .un, .un, .un]) (by exact (s_ret (ve_re (re_cv (β := Tp (Up (Up Sc))) (α := Up (Up (Up Sc)))) (ev (pv_share (pv_tupleL rfl T.z_tuple (pv_v 3 (pv 3) rfl (fun _ => rfl))))))))))))
 (by exact ss_nil)))
 (by exact (ss_cons (ms1 := [lv 0, lv 0, .un, lv 1, lv 0, .un, .un, .un, .un, .un]) (by exact (s_if (by exact (et (pt_cmpV op_eq o_eqS (pv_v 4 (pv 4) rfl (fun _ => rfl)) pv_int (nomark _))))
 (by exact (ss_one (by exact (s_pre (ms1 := [lv 0, lv 0, .un, lv 0, lv 0, .un, .un, .un, .un, .un]) (by exact (s_ret (ve_re (re_cv (β := List (Up (Up Sc))) (α := Up (Up (Up Sc)))) (ev (pv_share (pv_cat (pv_share (pv_lst (pl_cons (pv_re (re_cv (β := List (Up Sc)) (α := Up (Up Sc))) (pv_nil (k := 0))) pl_nil))) (pv_v 3 (pv 3) rfl (fun _ => rfl))))))))))))
 (by exact ss_nil)))
 (by exact (ss_cons (ms1 := [lv 0, lv 0, .un, lv 1, lv 0, .un, .un, .un, .un, .un]) (by exact (s_if (by exact (et (pt_cmpV op_eq o_eqS (pv_v 4 (pv 4) rfl (fun _ => rfl)) pv_int (nomark _))))
 (by exact (ss_one (by exact (s_pre (ms1 := [lv 0, lv 0, .un, lv 0, lv 0, .un, .un, .un, .un, .un]) (by exact (s_ret (ve_re (re_cv (β := List (Up (Up Sc))) (α := Up (Up (Up Sc)))) (ev (pv_share (pv_cat (pv_v 3 (pv 3) rfl (fun _ => rfl)) (pv_share (pv_lc rfl sc_l_spoilt.nd (pw_rng1 (i := 9) rfl T.z_range (pv_bin op_sub o_sub pv_int (pv_b1 call_len_seq o_lenL rfl T.z_len boot_len (pv_v 3 (pv 3) rfl (fun _ => rfl))))) (blkOk_by (N := N_l_spoilt) (sc := defScope (topS 12)) (own := [("_law_k", 9)]) (by decide +kernel)) (fun _ _ _ _ _ => (pg_name (i := 9) sc_l_spoilt.nd rfl (.inl rfl))) (fun _ _ _ _ _ => ptsV_nil) (fun _ _ _ _ _ => (pv_re (re_cv (β := List (Up Sc)) (α := Up (Up Sc))) (pv_nil (k := 0)))) (fun _ _ => rfl) (fun _ => rfl) (by decide)))))))))))))
 (by exact ss_nil)))
 (by exact (ss_cons (ms1 := [lv 0, lv 0, .un, lv 1, lv 0, .un, .un, .un, .un, .un]) (by exact (s_if (by exact (et (PW.pt (pw_orV (pt_cmpV op_eq o_eqS (pv_b1 call_len_seq o_lenL rfl T.z_len boot_len (pv_w 3 (pv 3) rfl (fun _ => rfl))) pv_int (nomark _)) (pw_or1V (pt_cmpV op_eq o_eqS (pv_v 4 (pv 4) rfl (fun _ => rfl)) pv_int (nomark _)))))))
 (by exact (ss_one (by exact (s_pre (ms1 := [lv 0, lv 0, .un, lv 0, lv 0, .un, .un, .un, .un, .un]) (by exact (s_ret (ve_re (re_cv (β := List (Up (Up Sc))) (α := Up (Up (Up Sc)))) (ev (pv_v 3 (pv 3) rfl (fun _ => rfl))))))))))
 (by exact ss_nil)))
 (by exact (ss_cons (ms1 := [lv 0, lv 0, .un, lv 1, lv 0, lv 0, .un, .un, .un, .un]) (by exact (s_set (i := 5) sc_l_spoilt.nd rfl (.inl rfl) (ev (pv_bin op_modN o_mod (pv_bin op_divA o_fdiv (pv_v 1 (pv 1) rfl (fun _ => rfl)) pv_int) (pv_b1 call_len_seq o_lenL rfl T.z_len boot_len (pv_w 3 (pv 3) rfl (fun _ => rfl))))) (fun _ _ => rfl) (by decide)))
 (by exact (ss_cons (ms1 := [lv 0, lv 0, lv 0, lv 1, lv 0, lv 0, .un, .un, .un, .un]) (by exact (s_set (i := 2) sc_l_spoilt.nd rfl (.inl rfl) (ve_re re_unULI (ve_ixO (i := 3) (get := (fun r : E_l_spoilt => r.v_rows)) (pv 3) (ev (pv_v 5 (pv 5) rfl (fun _ => rfl))) rfl rfl (fun _ => rfl))) (fun _ _ => rfl) (by decide)))
 (by exact (ss_cons (ms1 := [lv 0, lv 0, lv 0, lv 1, lv 0, lv 0, .un, .un, .un, .un]) (by exact (s_if (by exact (et (pt_cmpV op_eq o_eqS (pv_v 4 (pv 4) rfl (fun _ => rfl)) pv_int (nomark _))))
 (by exact (ss_one (by exact (s_putP (rcv_var (i := 3) (get := (fun r : E_l_spoilt => r.v_rows)) (set := (fun a r => { r with v_rows := a })) rfl (fun _ => rfl) (fun _ _ => rfl)) (ve_re (re_cv (β := List Int) (α := Up (Up Sc))) (ev (pv_share (pv_bin op_cat o_cat (pv_v 2 (pv 2) rfl (fun _ => rfl)) (pv_lst (pl_cons (pv_bin op_sub o_sub (pv_bin op_modN o_mod (pv_bin op_divA o_fdiv (pv_v 1 (pv 1) rfl (fun _ => rfl)) pv_int) pv_int) pv_int) pl_nil)))))) (pv 3) (pv_v 5 (pv 5) rfl (fun _ => rfl))))))
 (by exact ss_nil)))
 (by exact (ss_cons (ms1 := [lv 0, lv 0, lv 0, lv 1, lv 0, lv 0, .un, .un, .un, .un]) (by exact (s_if (by exact (et (pt_cmpV op_eq o_eqS (pv_v 4 (pv 4) rfl (fun _ => rfl)) pv_int (nomark _))))
 (by exact (ss_weak (ms1 := [lv 0, lv 0, lv 0, lv 1, lv 0, lv 0, lv 0, .un, .un, .un]) (by exact (ss_cons (ms1 := [lv 0, lv 0, lv 0, lv 1, lv 0, lv 0, lv 0, .un, .un, .un]) (by exact (s_set (i := 6) sc_l_spoilt.nd rfl (.inl rfl) (ev (pv_bin op_modN o_mod (pv_bin op_divA o_fdiv (pv_v 1 (pv 1) rfl (fun _ => rfl)) pv_int) pv_int)) (fun _ _ => rfl) (by decide)))
 (by exact (ss_one (by exact (s_putP (rcv_var (i := 3) (get := (fun r : E_l_spoilt => r.v_rows)) (set := (fun a r => { r with v_rows := a })) rfl (fun _ => rfl) (fun _ _ => rfl)) (ve_re (re_cv (β := List Int) (α := Up (Up Sc))) (ev (pv_share (pv_bin op_cat o_cat (pv_cutS (pv_v 2 (pv 2) rfl (fun _ => rfl)) po_n (po_s (pv_v 6 (pv 6) rfl (fun _ => rfl)))) (pv_cutS (pv_v 2 (pv 2) rfl (fun _ => rfl)) (po_s (pv_bin op_add o_add (pv_v 6 (pv 6) rfl (fun _ => rfl)) pv_int)) po_n))))) (pv 3) (pv_v 5 (pv 5) rfl (fun _ => rfl))))))))))
 (by exact ss_nil)))
 (by exact (ss_cons (ms1 := [lv 0, lv 0, lv 0, lv 1, lv 0, lv 0, .un, .un, .un, .un]) (by exact (s_if (by exact (et (pt_cmpV op_eq o_eqS (pv_v 4 (pv 4) rfl (fun _ => rfl)) pv_int (nomark _))))
 (by exact (ss_one (by exact (s_putP (rcv_var (i := 3) (get := (fun r : E_l_spoilt => r.v_rows)) (set := (fun a r => { r with v_rows := a })) rfl (fun _ => rfl) (fun _ _ => rfl)) (ve_re (re_cv (β := List (Up Sc)) (α := Up (Up Sc))) (ev (pv_share (pv_lc rfl sc_l_spoilt.nd (pw_list (i := 8) (pv_v 2 (pv 2) rfl (fun _ => rfl))) (blkOk_by (N := N_l_spoilt) (sc := defScope (topS 12)) (own := [("_law_low", 8)]) (by decide +kernel)) (fun _ _ _ _ _ => (pg_name (i := 8) sc_l_spoilt.nd rfl (.inl rfl))) (fun _ _ _ _ _ => ptsV_nil) (fun _ _ _ _ _ => (pv_re (re_cv (β := Bool) (α := Up Sc)) (pv_cmp op_eq o_eqS (pv_v 8 (pv 8) rfl (fun _ => rfl)) pv_int (nomark _)))) (fun _ _ => rfl) (fun _ => rfl) (by decide))))) (pv 3) (pv_v 5 (pv 5) rfl (fun _ => rfl))))))
 (by exact ss_nil)))
 (by exact (ss_cons (ms1 := [lv 0, lv 0, lv 0, lv 1, lv 0, lv 0, .un, .un, .un, .un]) (by exact (s_if (by exact (et (pt_cmpV op_eq o_eqS (pv_v 4 (pv 4) rfl (fun _ => rfl)) pv_int (nomark _))))
 (by exact (ss_one (by exact (s_putP (rcv_var (i := 3) (get := (fun r : E_l_spoilt => r.v_rows)) (set := (fun a r => { r with v_rows := a })) rfl (fun _ => rfl) (fun _ _ => rfl)) (ve_re (re_cv (β := List Int) (α := Up (Up Sc))) (ev (pv_share (pv_backS (pv_v 2 (pv 2) rfl (fun _ => rfl)))))) (pv 3) (pv_v 5 (pv 5) rfl (fun _ => rfl))))))
 (by exact ss_nil)))
 (by exact (ss_cons (ms1 := [lv 0, lv 0, lv 0, lv 1, lv 0, lv 0, .un, .un, .un, .un]) (by exact (s_if (by exact (et (pt_cmpV op_eq o_eqS (pv_v 4 (pv 4) rfl (fun _ => rfl)) pv_int (nomark _))))
 (by exact (ss_one (by exact (s_putP (rcv_var (i := 3) (get := (fun r : E_l_spoilt => r.v_rows)) (set := (fun a r => { r with v_rows := a })) rfl (fun _ => rfl) (fun _ _ => rfl)) (ve_re (re_cv (β := Tp Int) (α := Up (Up Sc))) (ev (pv_share (pv_tupleL rfl T.z_tuple (pv_v 2 (pv 2) rfl (fun _ => rfl)))))) (pv 3) (pv_v 5 (pv 5) rfl (fun _ => rfl))))))
 (by exact ss_nil)))
 (by exact (ss_cons (ms1 := [lv 0, lv 0, lv 0, lv 1, lv 0, lv 0, .un, .un, .un, .un]) (by exact (s_if (by exact (et (pt_cmpV op_eq o_eqS (pv_v 4 (pv 4) rfl (fun _ => rfl)) pv_int (nomark _))))
 (by exact (ss_weak (ms1 := [lv 0, lv 0, lv 0, lv 1, lv 0, lv 0, .un, lv 0, .un, .un]) (by exact (ss_cons (ms1 := [lv 0, lv 0, lv 0, lv 1, lv 0, lv 0, .un, lv 0, .un, .un]) (by exact (s_set (i := 7) sc_l_spoilt.nd rfl (.inl rfl) (ev (pv_share (pv_lst (pl_cons (pv_re (re_cv (β := Unit) (α := Up (Up Sc))) pv_non) (pl_cons (pv_re (re_cv (β := Str) (α := Up (Up Sc))) pv_str) (pl_cons (pv_re (re_cv (β := Int) (α := Up (Up Sc))) (pv_b1 call_len_seq o_lenL rfl T.z_len boot_len (pv_v 2 (pv 2) rfl (fun _ => rfl)))) (pl_cons (pv_re (re_cv (β := Bool) (α := Up (Up Sc))) pv_bl) (pl_cons (pv_share (pv_re (re_cv (β := Tp (Up Sc)) (α := Up (Up Sc))) (pv_tpl (k := 0) pl_nil))) (pl_cons (pv_re (re_cv (β := Str) (α := Up (Up Sc))) pv_str) (pl_cons (pv_share (pv_re (re_cv (β := List (Up Sc)) (α := Up (Up Sc))) (pv_lst (pl_cons (pv_re (re_cv (β := Unit) (α := Up Sc)) pv_non) pl_nil)))) (pl_cons (pv_share (pv_re (re_cv (β := List (Up Sc)) (α := Up (Up Sc))) (pv_lst (pl_cons (pv_re (re_cv (β := Str) (α := Up Sc)) pv_str) pl_nil)))) pl_nil))))))))))) (fun _ _ => rfl) (by decide)))
 (by exact (ss_cons (ms1 := [lv 0, lv 0, lv 0, lv 1, lv 0, lv 0, .un, lv 0, .un, .un]) (by exact (s_set (i := 7) sc_l_spoilt.nd rfl (.inl rfl) (ev (pv_share (pv_cat (pv_v 7 (pv 7) rfl (fun _ => rfl)) (pv_share (pv_lst (pl_cons (pv_re (re_cv (β := List (Up Sc)) (α := Up (Up Sc))) (pv_cat (pv_re (re_cv (β := List Int) (α := List (Up Sc))) (pv_v 2 (pv 2) rfl (fun _ => rfl))) (pv_share (pv_lst (pl_cons (pv_re (re_cv (β := Unit) (α := Up Sc)) pv_non) pl_nil))))) (pl_cons (pv_re (re_cv (β := List (Up Sc)) (α := Up (Up Sc))) (pv_cat (pv_re (re_cv (β := List Int) (α := List (Up Sc))) (pv_v 2 (pv 2) rfl (fun _ => rfl))) (pv_share (pv_lst (pl_cons (pv_re (re_cv (β := Str) (α := Up Sc)) pv_str) pl_nil))))) (pl_cons (pv_re (re_cv (β := List (Up Sc)) (α := Up (Up Sc))) (pv_cat (pv_re (re_cv (β := List Int) (α := List (Up Sc))) (pv_v 2 (pv 2) rfl (fun _ => rfl))) (pv_share (pv_lst (pl_cons (pv_re (re_cv (β := List Sc) (α := Up Sc)) (pv_lst (pl_cons (pv_re re_scI pv_int) pl_nil))) pl_nil))))) (pl_cons (pv_re (re_cv (β := List (Up Sc)) (α := Up (Up Sc))) (pv_cat (pv_re (re_cv (β := List Int) (α := List (Up Sc))) (pv_v 2 (pv 2) rfl (fun _ => rfl))) (pv_share (pv_lst (pl_cons (pv_re (re_cv (β := Tp Sc) (α := Up Sc)) (pv_tpl (pl_cons (pv_re re_scI pv_int) pl_nil))) pl_nil))))) pl_nil))))))))) (fun _ _ => rfl) (by decide)))
 (by exact (ss_one (by exact (s_putP (rcv_var (i := 3) (get := (fun r : E_l_spoilt => r.v_rows)) (set := (fun a r => { r with v_rows := a })) rfl (fun _ => rfl) (fun _ _ => rfl)) (ev (pv_ix (pv_v 7 (pv 7) rfl (fun _ => rfl)) (pv_bin op_modN o_mod (pv_bin op_divA o_fdiv (pv_v 1 (pv 1) rfl (fun _ => rfl)) pv_int) pv_int))) (pv 3) (pv_v 5 (pv 5) rfl (fun _ => rfl))))))))))))
 (by exact ss_nil)))
 (by exact (ss_cons (ms1 := [lv 0, lv 0, lv 0, lv 1, lv 0, lv 0, .un, .un, .un, .un]) (by exact (s_if (by exact (et (pt_cmpV op_eq o_eqS (pv_v 4 (pv 4) rfl (fun _ => rfl)) pv_int (nomark _))))
 (by exact (ss_one (by exact (s_putP (rcv_var (i := 3) (get := (fun r : E_l_spoilt => r.v_rows)) (set := (fun a r => { r with v_rows := a })) rfl (fun _ => rfl) (fun _ _ => rfl)) (ve_re (re_cv (β := List Int) (α := Up (Up Sc))) (ev (pv_share (pv_b1 cr_sortedI o_sort rfl T.z_sorted boot_sorted (pv_bin op_cat o_cat (pv_v 2 (pv 2) rfl (fun _ => rfl)) (pv_lst (pl_cons (pv_bin op_modN o_mod (pv_bin op_divA o_fdiv (pv_v 1 (pv 1) rfl (fun _ => rfl)) pv_int) (pv_bin op_add o_add (pv_v 5 (pv 5) rfl (fun _ => rfl)) pv_int)) pl_nil))))))) (pv 3) (pv_v 5 (pv 5) rfl (fun _ => rfl))))))
 (by exact ss_nil)))
 (by exact (ss_one (by exact (s_pre (ms1 := [lv 0, lv 0, lv 0, lv 0, lv 0, lv 0, .un, .un, .un, .un]) (by exact (s_ret (ve_re (re_cv (β := List (Up (Up Sc))) (α := Up (Up (Up Sc)))) (ev (pv_v 3 (pv 3) rfl (fun _ => rfl)))))))))))))))))))))))))))))))))))))))
abbrev N_l_is_row : List Str := ["_law_rows", "_law_place", "_law_row_here", "_law_k", "_law_low", "_law_one"]
theorem sc_l_is_row : FnScope N_l_is_row ["_law_rows", "_law_place"] (defScope (topS 13)) := ⟨rfl, rfl, rfl, by decide +kernel, rfl, by decide +kernel, by decide +kernel⟩
theorem ok_l_is_row (T : Tx K mg) : FnOk P w K mg base CX0 1 T.f_l_is_row T.d_l_is_row ["_law_rows", "_law_place"] (spP K 0 m_l_is_row) :=
  ok_def (sl := slots gs_l_is_row) (ms' := []) (rm := [.un, .un, .un, .un, .un, .un]) (g := b_l_is_row) T.F_l_is_row sc_l_is_row (fun _ => rfl) (fun _ => ⟨_, rfl, rfl⟩) fun cdv A outer s H E H0 S0 vs hr =>
 (ss_cons (ms1 := [lv 0, lv 0, lv 0, .un, .un, .un]) (by exact (s_set (i := 2) sc_l_is_row.nd rfl (.inr rfl) (ev (pv_ix (pv_v 0 (pv 0) rfl (fun _ => rfl)) (pv_v 1 (pv 1) rfl (fun _ => rfl)))) (fun _ _ => rfl) (by decide)))
 (by exact (ss_cons (ms1 := [lv 0, lv 0, lv 0, .un, .un, .un]) (by exact (s_if (by exact (et (pt_notV (pt_e (pv_isiU kit_listU rfl T.z_isinstance rfl T.z_list boot_list (pv_v 2 (pv 2) rfl (fun _ => rfl)))))))
 (by exact (ss_one (by exact (s_ret (ev pv_bl)))))
 (by exact ss_nil)))
 (by exact (ss_cons (ms1 := [lv 0, lv 0, lv 0, .un, .un, .un]) (by exact (s_for (lm := [lv 0, lv 0, lv 0, .un, .un, .un]) PassesOwn.never rfl (by exact (pw_enum (i := 3) (j := 4) rfl T.z_enumerate (pv_re re_unUL (pv_v 2 (pv 2) rfl (fun _ => rfl))))) (pg_tup rfl (pgs_cons (pg_name (i := 3) sc_l_is_row.nd rfl (.inl rfl)) (pgs_cons (pg_name (i := 4) sc_l_is_row.nd rfl (.inl rfl)) pgs_nil)))
 (by exact (ss_weak (ms1 := [lv 0, lv 0, lv 0, lv 0, lv 0, .un]) (by exact (ss_cons (ms1 := [lv 0, lv 0, lv 0, lv 0, lv 0, .un]) (by exact (s_if (by exact (et (PW.pt (pw_orV (pt_notV (pt_e (pv_isiU kit_intU rfl T.z_isinstance rfl T.z_int boot_int (pv_v 4 (pv 4) rfl (fun _ => rfl))))) (pw_orV (pt_e (pv_isiU kit_boolU rfl T.z_isinstance rfl T.z_bool boot_bool (pv_v 4 (pv 4) rfl (fun _ => rfl)))) (pw_orV (pt_cmpV op_lt o_lt (pv_re re_unUI (pv_v 4 (pv 4) rfl (fun _ => rfl))) pv_int (nomark _)) (pw_or1V (pt_cmpV op_ge o_ge (pv_re re_unUI (pv_v 4 (pv 4) rfl (fun _ => rfl))) (pv_v 1 (pv 1) rfl (fun _ => rfl)) (nomark _)))))))))
 (by exact (ss_one (by exact (s_ret (ev pv_bl)))))
 (by exact ss_nil)))
 (by exact (ss_one (by exact (s_if (by exact (et (PW.pt (pw_andV (pt_cmpV op_gt o_gt (pv_v 3 (pv 3) rfl (fun _ => rfl)) pv_int (nomark _)) (pw_and1V (pt_cmpV op_ge o_ge (pv_re re_unUI (pv_ix (pv_re re_unUL (pv_v 2 (pv 2) rfl (fun _ => rfl))) (pv_bin op_sub o_sub (pv_v 3 (pv 3) rfl (fun _ => rfl)) pv_int))) (pv_re re_unUI (pv_v 4 (pv 4) rfl (fun _ => rfl))) (nomark _)))))))
 (by exact (ss_one (by exact (s_ret (ev pv_bl)))))
 (by exact ss_nil))))))))) (fun _ _ => rfl) (fun _ => rfl) (by decide)))
 (by exact (ss_cons (ms1 := [lv 0, lv 0, lv 0, .un, .un, .un]) (by exact (s_for (lm := [lv 0, lv 0, lv 0, .un, .un, .un]) PassesOwn.never rfl (by exact (pw_list (i := 4) (pv_re re_unUL (pv_v 2 (pv 2) rfl (fun _ => rfl))))) (pg_name (i := 4) sc_l_is_row.nd rfl (.inl rfl))
 (by exact (ss_weak (ms1 := [lv 0, lv 0, lv 0, .un, lv 0, .un]) (by exact (ss_one (by exact (s_if (by exact (et (pt_cmpV (op_neD hr.units) o_neC (pv_lc rfl sc_l_is_row.nd (pw_list (i := 5) (pv_re re_unUL (pv_ix (pv_v 0 (pv 0) rfl (fun _ => rfl)) (pv_re re_unUI (pv_v 4 (pv 4) rfl (fun _ => rfl)))))) (blkOk_by (N := N_l_is_row) (sc := defScope (topS 13)) (own := [("_law_one", 5)]) (by decide +kernel)) (fun _ _ _ _ _ => (pg_name (i := 5) sc_l_is_row.nd rfl (.inl rfl))) (fun _ _ _ _ _ => (ptsV_one (pt_cmpV op_notIn_seq o_ninL (pv_re re_unUI (pv_v 5 (pv 5) rfl (fun _ => rfl))) (pv_re re_unULI (pv_v 2 (pv 2) rfl (fun _ => rfl))) (by rfl)))) (fun _ _ _ _ _ => (pv_v 5 (pv 5) rfl (fun _ => rfl))) (fun _ _ => rfl) (fun _ => rfl) (by decide)) (pv_nil (k := 0)) (nomark _))))
 (by exact (ss_one (by exact (s_ret (ev pv_bl)))))
 (by exact ss_nil))))))) (fun _ _ => rfl) (fun _ => rfl) (by decide)))
 (by exact (ss_one (by exact (s_ret (ev pv_bl))))))))))))
abbrev N_l_is_order : List Str := ["_law_thing", "_law_place"]
theorem sc_l_is_order : FnScope N_l_is_order ["_law_thing"] (defScope (topS 14)) := ⟨rfl, rfl, rfl, by decide +kernel, rfl, by decide +kernel, by decide +kernel⟩
theorem ok_l_is_order (T : Tx K mg) : FnOk P w K mg base CX0 2 T.f_l_is_order T.d_l_is_order ["_law_thing"] (spP K 0 m_l_is_order) :=
  ok_def (sl := slots gs_l_is_order) (ms' := []) (rm := [.un, .un]) (g := b_l_is_order) T.F_l_is_order sc_l_is_order (fun _ => rfl) (fun _ => ⟨_, rfl, rfl⟩) fun cdv A outer s H E H0 S0 vs hr =>
 (ss_cons (ms1 := [lv 0, .un]) (by exact (s_if (by exact (et (PW.pt (pw_orV (pt_notV (pt_e (pv_isiU kit_listU rfl T.z_isinstance rfl T.z_list boot_list (pv_v 0 (pv 0) rfl (fun _ => rfl))))) (pw_or1V (pt_cmpV op_gt o_gt (pv_b1 call_len_seq o_lenL rfl T.z_len boot_len (pv_re re_unUL (pv_v 0 (pv 0) rfl (fun _ => rfl)))) pv_int (nomark _)))))))
 (by exact (ss_one (by exact (s_ret (ev pv_bl)))))
 (by exact ss_nil)))
 (by exact (ss_cons (ms1 := [lv 0, .un]) (by exact (s_for (lm := [lv 0, .un]) PassesOwn.never rfl (by exact (pw_rng1 (i := 1) rfl T.z_range (pv_b1 call_len_seq o_lenL rfl T.z_len boot_len (pv_re re_unUL (pv_v 0 (pv 0) rfl (fun _ => rfl)))))) (pg_name (i := 1) sc_l_is_order.nd rfl (.inl rfl))
 (by exact (ss_weak (ms1 := [lv 0, lv 0]) (by exact (ss_one (by exact (s_if (by exact (et (pt_notV (pt_e (pv_call (ok_l_is_row T) (hr.mono (by decide)) rfl T.g_l_is_row T.F_l_is_row.kp T.b_l_is_row (pa_c (pv_re re_unUL (pv_v 0 (pv 0) rfl (fun _ => rfl))) (pa_c (pv_v 1 (pv 1) rfl (fun _ => rfl)) pa_n)))))))
 (by exact (ss_one (by exact (s_ret (ev pv_bl)))))
 (by exact ss_nil))))))) (fun _ _ => rfl) (fun _ => rfl) (by decide)))
 (by exact (ss_one (by exact (s_ret (ev pv_bl))))))))
abbrev N_l_copy0 : List Str := ["_law_thing"]
theorem sc_l_copy0 : FnScope N_l_copy0 ["_law_thing"] (defScope (topS 15)) := ⟨rfl, rfl, rfl, by decide +kernel, rfl, by decide +kernel, by decide +kernel⟩
theorem ok_l_copy0 (T : Tx K mg) : FnOk P w K mg base CX0 1 T.f_l_copy T.d_l_copy ["_law_thing"] (spP K 0 m_l_copy0) :=
  ok_def (sl := slots gs_l_copy0) (ms' := []) (rm := [.un]) (g := b_l_copy0) T.F_l_copy sc_l_copy0 (fun _ => rfl) (fun _ => ⟨_, rfl, rfl⟩) fun cdv A outer s H E H0 S0 vs hr =>
 (ss_cons (ms1 := [lv 0]) (by exact (s_if (by exact (et (pt_e (pv_isiY kit_listY rfl T.z_isinstance rfl T.z_list boot_list (pv_v 0 (pv 0) rfl (fun _ => rfl))))))
 (by exact (ss_one (by exact s_stuck)))
 (by exact ss_nil)))
 (by exact (ss_one (by exact (s_ret (ev (pv_v 0 (pv 0) rfl (fun _ => rfl))))))))
abbrev N_l_copy1 : List Str := ["_law_thing", "_law_one"]
theorem sc_l_copy1 : FnScope N_l_copy1 ["_law_thing"] (defScope (topS 15)) := ⟨rfl, rfl, rfl, by decide +kernel, rfl, by decide +kernel, by decide +kernel⟩
theorem ok_l_copy1 (T : Tx K mg) : FnOk P w K mg base CX0 2 T.f_l_copy T.d_l_copy ["_law_thing"] (spP K 0 m_l_copy1) :=
  ok_def (sl := slots gs_l_copy1) (ms' := []) (rm := [.un, .un]) (g := b_l_copy1) T.F_l_copy sc_l_copy1 (fun _ => rfl) (fun _ => ⟨_, rfl, rfl⟩) fun cdv A outer s H E H0 S0 vs hr =>
 (ss_cons (ms1 := [lv 0, .un]) (by exact (s_if (by exact (et (pt_e (pv_isiU kit_listU rfl T.z_isinstance rfl T.z_list boot_list (pv_v 0 (pv 0) rfl (fun _ => rfl))))))
 (by exact (ss_one (by exact (s_ret (ve_re (re_cv (β := List Sc) (α := Up Sc)) (ev (pv_share (pv_lc rfl sc_l_copy1.nd (pw_list (i := 1) (pv_re re_unUL (pv_v 0 (pv 0) rfl (fun _ => rfl)))) (blkOk_by (N := N_l_copy1) (sc := defScope (topS 15)) (own := [("_law_one", 1)]) (by decide +kernel)) (fun _ _ _ _ _ => (pg_name (i := 1) sc_l_copy1.nd rfl (.inl rfl))) (fun _ _ _ _ _ => ptsV_nil) (fun _ _ _ _ _ => (pv_call (ok_l_copy0 T) (hr.mono (by decide)) rfl T.g_l_copy T.F_l_copy.kp T.b_l_copy (pa_c (pv_v 1 (pv 1) rfl (fun _ => rfl)) pa_n))) (fun _ _ => rfl) (fun _ => rfl) (by decide)))))))))
 (by exact ss_nil)))
 (by exact (ss_one (by exact (s_ret (ev (pv_v 0 (pv 0) rfl (fun _ => rfl))))))))
abbrev N_l_copy2 : List Str := ["_law_thing", "_law_one"]
theorem sc_l_copy2 : FnScope N_l_copy2 ["_law_thing"] (defScope (topS 15)) := ⟨rfl, rfl, rfl, by decide +kernel, rfl, by decide +kernel, by decide +kernel⟩
theorem ok_l_copy2 (T : Tx K mg) : FnOk P w K mg base CX0 3 T.f_l_copy T.d_l_copy ["_law_thing"] (spP K 0 m_l_copy2) :=
  ok_def (sl := slots gs_l_copy2) (ms' := []) (rm := [.un, .un]) (g := b_l_copy2) T.F_l_copy sc_l_copy2 (fun _ => rfl) (fun _ => ⟨_, rfl, rfl⟩) fun cdv A outer s H E H0 S0 vs hr =>
 (ss_cons (ms1 := [lv 0, .un]) (by exact (s_if (by exact (et (pt_e (pv_isiU kit_listU rfl T.z_isinstance rfl T.z_list boot_list (pv_v 0 (pv 0) rfl (fun _ => rfl))))))
 (by exact (ss_one (by exact (s_ret (ve_re (re_cv (β := List (Up Sc)) (α := Up (Up Sc))) (ev (pv_share (pv_lc rfl sc_l_copy2.nd (pw_list (i := 1) (pv_re re_unUL (pv_v 0 (pv 0) rfl (fun _ => rfl)))) (blkOk_by (N := N_l_copy2) (sc := defScope (topS 15)) (own := [("_law_one", 1)]) (by decide +kernel)) (fun _ _ _ _ _ => (pg_name (i := 1) sc_l_copy2.nd rfl (.inl rfl))) (fun _ _ _ _ _ => ptsV_nil) (fun _ _ _ _ _ => (pv_call (ok_l_copy1 T) (hr.mono (by decide)) rfl T.g_l_copy T.F_l_copy.kp T.b_l_copy (pa_c (pv_v 1 (pv 1) rfl (fun _ => rfl)) pa_n))) (fun _ _ => rfl) (fun _ => rfl) (by decide)))))))))
 (by exact ss_nil)))
 (by exact (ss_one (by exact (s_ret (ev (pv_v 0 (pv 0) rfl (fun _ => rfl))))))))
abbrev N_l_copy : List Str := ["_law_thing", "_law_one"]
theorem sc_l_copy : FnScope N_l_copy ["_law_thing"] (defScope (topS 15)) := ⟨rfl, rfl, rfl, by decide +kernel, rfl, by decide +kernel, by decide +kernel⟩
theorem ok_l_copy (T : Tx K mg) : FnOk P w K mg base CX0 4 T.f_l_copy T.d_l_copy ["_law_thing"] (spP K 0 m_l_copy) :=
  ok_def (sl := slots gs_l_copy) (ms' := []) (rm := [.un, .un]) (g := b_l_copy) T.F_l_copy sc_l_copy (fun _ => rfl) (fun _ => ⟨_, rfl, rfl⟩) fun cdv A outer s H E H0 S0 vs hr =>
 (ss_cons (ms1 := [lv 0, .un]) (by exact (s_if (by exact (et (pt_e (pv_isiU kit_listU rfl T.z_isinstance rfl T.z_list boot_list (pv_v 0 (pv 0) rfl (fun _ => rfl))))))
 (by exact (ss_one (by exact (s_ret (ve_re (re_cv (β := List (Up (Up Sc))) (α := Up (Up (Up Sc)))) (ev (pv_share (pv_lc rfl sc_l_copy.nd (pw_list (i := 1) (pv_re re_unUL (pv_v 0 (pv 0) rfl (fun _ => rfl)))) (blkOk_by (N := N_l_copy) (sc := defScope (topS 15)) (own := [("_law_one", 1)]) (by decide +kernel)) (fun _ _ _ _ _ => (pg_name (i := 1) sc_l_copy.nd rfl (.inl rfl))) (fun _ _ _ _ _ => ptsV_nil) (fun _ _ _ _ _ => (pv_call (ok_l_copy2 T) (hr.mono (by decide)) rfl T.g_l_copy T.F_l_copy.kp T.b_l_copy (pa_c (pv_v 1 (pv 1) rfl (fun _ => rfl)) pa_n))) (fun _ _ => rfl) (fun _ => rfl) (by decide)))))))))
 (by exact ss_nil)))
 (by exact (ss_one (by exact (s_ret (ev (pv_v 0 (pv 0) rfl (fun _ => rfl))))))))
abbrev N_law : List Str := ["_law_script", "_law_order_here", "_law_thing", "_law_cell_here", "_law_kept", "_law_told", "_law_row_here"]
theorem sc_law : FnScope N_law ["_law_script"] (defScope (topS 16)) := ⟨rfl, rfl, rfl, by decide +kernel, rfl, by decide +kernel, by decide +kernel⟩
theorem ok_law (T : Tx K mg) : FnOk P w K mg base CX0 5 T.f_law T.d_law ["_law_script"] (spP K 0 m_law) :=
  ok_def (sl := slots gs_law) (ms' := []) (rm := [.un, .un, .un, .un, .un, .un, .un]) (g := b_law) T.F_law sc_law (fun _ => rfl) (fun _ => ⟨_, rfl, rfl⟩) fun cdv A outer s H E H0 S0 vs hr =>
 (ss_cons (ms1 := [lv 0, lv 0, .un, .un, .un, .un, .un]) (by exact (s_set (i := 1) sc_law.nd rfl (.inl rfl) (ev (pv_share (pv_call (ok_l_order T) (hr.mono (by decide)) rfl T.g_l_order T.F_l_order.kp T.b_l_order (pa_c (pv_call (ok_l_cell T) (hr.mono (by decide)) rfl T.g_l_cell T.F_l_cell.kp T.b_l_cell (pa_c (pv_v 0 (pv 0) rfl (fun _ => rfl)) (pa_c pv_int pa_n))) pa_n)))) (fun _ _ => rfl) (by decide)))
 (by exact (ss_cons (ms1 := [lv 0, lv 0, .un, .un, .un, .un, .un]) (by exact (s_if (by exact (et (pt_cmpV op_isnB o_isnB (pv_call (ok_is_order T) (hr.mono (by decide)) rfl T.g_is_order T.F_is_order.kp T.b_is_order (pa_c (pv_share (pv_re (re_cv (β := List (Up (Up Sc))) (α := Up (Up (Up Sc)))) (pv_lc rfl sc_law.nd (pw_list (i := 6) (pv_v 1 (pv 1) rfl (fun _ => rfl))) (blkOk_by (N := N_law) (sc := defScope (topS 16)) (own := [("_law_row_here", 6)]) (by decide +kernel)) (fun _ _ _ _ _ => (pg_name (i := 6) sc_law.nd rfl (.inl rfl))) (fun _ _ _ _ _ => ptsV_nil) (fun _ _ _ _ _ => (pv_re (re_cv (β := List Int) (α := Up (Up Sc))) (pv_listS rfl T.z_list (pv_v 6 (pv 6) rfl (fun _ => rfl))))) (fun _ _ => rfl) (fun _ => rfl) (by decide)))) pa_n)) pv_bl (nomark _))))
 (by exact (ss_one (by exact (s_ret (ev pv_bl)))))
 (by exact ss_nil)))
 (by exact (ss_cons (ms1 := [lv 0, lv 0, .un, .un, .un, .un, .un]) (by exact (s_for (lm := [lv 0, lv 0, .un, .un, .un, .un, .un]) PassesOwn.never rfl (by exact (pw_list (i := 2) (pv_share (pv_lst (pl_cons (pv_re (re_cv (β := Unit) (α := Up (Up (Up Sc)))) pv_non) (pl_cons (pv_re (re_cv (β := Int) (α := Up (Up (Up Sc)))) pv_int) (pl_cons (pv_re (re_cv (β := Bool) (α := Up (Up (Up Sc)))) pv_bl) (pl_cons (pv_re (re_cv (β := Str) (α := Up (Up (Up Sc)))) pv_str) (pl_cons (pv_re (re_cv (β := Str) (α := Up (Up (Up Sc)))) pv_str) (pl_cons (pv_share (pv_re (re_cv (β := Tp (Up (Up Sc))) (α := Up (Up (Up Sc)))) (pv_tpl (k := 0) pl_nil))) (pl_cons (pv_re (re_cv (β := Int) (α := Up (Up (Up Sc)))) (pv_bin op_pow o_pow pv_int pv_int)) pl_nil))))))))))) (pg_name (i := 2) sc_law.nd rfl (.inl rfl))
 (by exact (ss_weak (ms1 := [lv 0, lv 0, lv 0, .un, .un, .un, .un]) (by exact (ss_one (by exact (s_if (by exact (et (pt_cmpV op_isnB o_isnB (pv_call (ok_is_order T) (hr.mono (by decide)) rfl T.g_is_order T.F_is_order.kp T.b_is_order (pa_c (pv_v 2 (pv 2) rfl (fun _ => rfl)) pa_n)) pv_bl (nomark _))))
 (by exact (ss_one (by exact (s_ret (ev pv_bl)))))
 (by exact ss_nil))))))) (fun _ _ => rfl) (fun _ => rfl) (by decide)))
 (by exact (ss_cons (ms1 := [lv 0, lv 0, .un, .un, .un, .un, .un]) (by exact (s_for (lm := [lv 0, lv 0, .un, .un, .un, .un, .un]) PassesOwn.never rfl (by exact (pw_list (i := 3) (pv_share (pv_bin op_cat o_cat (pv_lst (pl_cons (pv_call (ok_l_cell T) (hr.mono (by decide)) rfl T.g_l_cell T.F_l_cell.kp T.b_l_cell (pa_c (pv_v 0 (pv 0) rfl (fun _ => rfl)) (pa_c pv_int pa_n))) pl_nil)) (pv_cutScr (pv_v 0 (pv 0) rfl (fun _ => rfl)) (po_s pv_int) (po_s pv_int)))))) (pg_name (i := 3) sc_law.nd rfl (.inl rfl))
 (by exact (ss_weak (ms1 := [lv 0, lv 0, lv 0, lv 0, lv 0, lv 0, .un]) (by exact (ss_cons (ms1 := [lv 0, lv 0, lv 0, lv 0, .un, .un, .un]) (by exact (s_set (i := 2) sc_law.nd rfl (.inl rfl) (ev (pv_call (ok_l_spoilt T) (hr.mono (by decide)) rfl T.g_l_spoilt T.F_l_spoilt.kp T.b_l_spoilt (pa_c (pv_v 1 (pv 1) rfl (fun _ => rfl)) (pa_c (pv_v 3 (pv 3) rfl (fun _ => rfl)) pa_n)))) (fun _ _ => rfl) (by decide)))
 (by exact (ss_cons (ms1 := [lv 0, lv 0, lv 0, lv 0, lv 0, .un, .un]) (by exact (s_set (i := 4) sc_law.nd rfl (.inl rfl) (ev (pv_call (ok_l_copy T) (hr.mono (by decide)) rfl T.g_l_copy T.F_l_copy.kp T.b_l_copy (pa_c (pv_v 2 (pv 2) rfl (fun _ => rfl)) pa_n))) (fun _ _ => rfl) (by decide)))
 (by exact (ss_cons (ms1 := [lv 0, lv 0, lv 0, lv 0, lv 0, lv 0, .un]) (by exact (s_set (i := 5) sc_law.nd rfl (.inl rfl) (ev (pv_call (ok_is_order T) (hr.mono (by decide)) rfl T.g_is_order T.F_is_order.kp T.b_is_order (pa_c (pv_v 2 (pv 2) rfl (fun _ => rfl)) pa_n))) (fun _ _ => rfl) (by decide)))
 (by exact (ss_one (by exact (s_if (by exact (et (PW.pt (pw_orV (pt_notV (pt_e (pv_isi rfl rfl T.z_isinstance rfl T.z_bool boot_bool (pv_v 5 (pv 5) rfl (fun _ => rfl))))) (pw_orV (pt_cmpV op_ne o_neS (pv_v 5 (pv 5) rfl (fun _ => rfl)) (pv_call (ok_l_is_order T) (hr.mono (by decide)) rfl T.g_l_is_order T.F_l_is_order.kp T.b_l_is_order (pa_c (pv_v 4 (pv 4) rfl (fun _ => rfl)) pa_n)) (nomark _)) (pw_or1V (pt_cmpV (op_neD hr.units) o_neC (pv_v 2 (pv 2) rfl (fun _ => rfl)) (pv_v 4 (pv 4) rfl (fun _ => rfl)) (nomark _))))))))
 (by exact (ss_one (by exact (s_ret (ev pv_bl)))))
 (by exact ss_nil))))))))))))) (fun _ _ => rfl) (fun _ => rfl) (by decide)))
 (by exact (ss_one (by exact (s_ret (ev pv_bl))))))))))))
end
set_option maxHeartbeats 0 in
def tx_mk {K : PySem.W.Frag} {h : Heap} {mg : Str → Option Value} (X : K.In h) (G : h.Ns mainGlobals mg)
    {od_is_whole an_is_whole : Option Addr} {sl_is_whole : Array (Option Value)} {oc_is_whole kV_is_whole dc_is_whole pm_is_whole cd_is_whole ct_is_whole : Value} {f_is_whole : Addr}
    {od_is_place an_is_place : Option Addr} {sl_is_place : Array (Option Value)} {oc_is_place kV_is_place dc_is_place pm_is_place cd_is_place ct_is_place : Value} {f_is_place : Addr}
    {od_is_order an_is_order : Option Addr} {sl_is_order : Array (Option Value)} {oc_is_order kV_is_order dc_is_order pm_is_order cd_is_order ct_is_order : Value} {f_is_order : Addr}
    {od_l_cell an_l_cell : Option Addr} {sl_l_cell : Array (Option Value)} {oc_l_cell kV_l_cell dc_l_cell pm_l_cell cd_l_cell ct_l_cell : Value} {f_l_cell : Addr}
    {od_l_digits an_l_digits : Option Addr} {sl_l_digits : Array (Option Value)} {oc_l_digits kV_l_digits dc_l_digits pm_l_digits cd_l_digits ct_l_digits : Value} {f_l_digits : Addr}
    {od_l_mixed an_l_mixed : Option Addr} {sl_l_mixed : Array (Option Value)} {oc_l_mixed kV_l_mixed dc_l_mixed pm_l_mixed cd_l_mixed ct_l_mixed : Value} {f_l_mixed : Addr}
    {od_l_row an_l_row : Option Addr} {sl_l_row : Array (Option Value)} {oc_l_row kV_l_row dc_l_row pm_l_row cd_l_row ct_l_row : Value} {f_l_row : Addr}
    {od_l_closed an_l_closed : Option Addr} {sl_l_closed : Array (Option Value)} {oc_l_closed kV_l_closed dc_l_closed pm_l_closed cd_l_closed ct_l_closed : Value} {f_l_closed : Addr}
    {od_l_order an_l_order : Option Addr} {sl_l_order : Array (Option Value)} {oc_l_order kV_l_order dc_l_order pm_l_order cd_l_order ct_l_order : Value} {f_l_order : Addr}
    {od_l_spoilt an_l_spoilt : Option Addr} {sl_l_spoilt : Array (Option Value)} {oc_l_spoilt kV_l_spoilt dc_l_spoilt pm_l_spoilt cd_l_spoilt ct_l_spoilt : Value} {f_l_spoilt : Addr}
    {od_l_is_row an_l_is_row : Option Addr} {sl_l_is_row : Array (Option Value)} {oc_l_is_row kV_l_is_row dc_l_is_row pm_l_is_row cd_l_is_row ct_l_is_row : Value} {f_l_is_row : Addr}
    {od_l_is_order an_l_is_order : Option Addr} {sl_l_is_order : Array (Option Value)} {oc_l_is_order kV_l_is_order dc_l_is_order pm_l_is_order cd_l_is_order ct_l_is_order : Value} {f_l_is_order : Addr}
    {od_l_copy an_l_copy : Option Addr} {sl_l_copy : Array (Option Value)} {oc_l_copy kV_l_copy dc_l_copy pm_l_copy cd_l_copy ct_l_copy : Value} {f_l_copy : Addr}
    {od_law an_law : Option Addr} {sl_law : Array (Option Value)} {oc_law kV_law dc_law pm_law cd_law ct_law : Value} {f_law : Addr}
    (a_is_whole : PySem.W.nsIn K mainGlobals "is_whole" = some (some (.ref f_is_whole))) (l_is_whole : K.lookup f_is_whole = some ⟨oc_is_whole, od_is_whole, .func (PySem.W.fnOf "is_whole" "is_whole" (defArgs (topS 2)) (defBody (topS 2)) (defScope (topS 2)) .none kV_is_whole dc_is_whole pm_is_whole an_is_whole cd_is_whole ct_is_whole), sl_is_whole⟩) (c_is_whole : PySem.W.codeIn K cd_is_whole "is_whole" = true) (k_is_whole : PySem.W.keepIn K (.ref f_is_whole) = true)
    (a_is_place : PySem.W.nsIn K mainGlobals "is_place" = some (some (.ref f_is_place))) (l_is_place : K.lookup f_is_place = some ⟨oc_is_place, od_is_place, .func (PySem.W.fnOf "is_place" "is_place" (defArgs (topS 3)) (defBody (topS 3)) (defScope (topS 3)) .none kV_is_place dc_is_place pm_is_place an_is_place cd_is_place ct_is_place), sl_is_place⟩) (c_is_place : PySem.W.codeIn K cd_is_place "is_place" = true) (k_is_place : PySem.W.keepIn K (.ref f_is_place) = true)
    (a_is_order : PySem.W.nsIn K mainGlobals "is_order" = some (some (.ref f_is_order))) (l_is_order : K.lookup f_is_order = some ⟨oc_is_order, od_is_order, .func (PySem.W.fnOf "is_order" "is_order" (defArgs (topS 4)) (defBody (topS 4)) (defScope (topS 4)) .none kV_is_order dc_is_order pm_is_order an_is_order cd_is_order ct_is_order), sl_is_order⟩) (c_is_order : PySem.W.codeIn K cd_is_order "is_order" = true) (k_is_order : PySem.W.keepIn K (.ref f_is_order) = true)
    (a_l_cell : PySem.W.nsIn K mainGlobals "_law_cell" = some (some (.ref f_l_cell))) (l_l_cell : K.lookup f_l_cell = some ⟨oc_l_cell, od_l_cell, .func (PySem.W.fnOf "_law_cell" "_law_cell" (defArgs (topS 6)) (defBody (topS 6)) (defScope (topS 6)) .none kV_l_cell dc_l_cell pm_l_cell an_l_cell cd_l_cell ct_l_cell), sl_l_cell⟩) (c_l_cell : PySem.W.codeIn K cd_l_cell "_law_cell" = true) (k_l_cell : PySem.W.keepIn K (.ref f_l_cell) = true)
    (a_l_digits : PySem.W.nsIn K mainGlobals "_law_digits" = some (some (.ref f_l_digits))) (l_l_digits : K.lookup f_l_digits = some ⟨oc_l_digits, od_l_digits, .func (PySem.W.fnOf "_law_digits" "_law_digits" (defArgs (topS 7)) (defBody (topS 7)) (defScope (topS 7)) .none kV_l_digits dc_l_digits pm_l_digits an_l_digits cd_l_digits ct_l_digits), sl_l_digits⟩) (c_l_digits : PySem.W.codeIn K cd_l_digits "_law_digits" = true) (k_l_digits : PySem.W.keepIn K (.ref f_l_digits) = true)
    (a_l_mixed : PySem.W.nsIn K mainGlobals "_law_mixed" = some (some (.ref f_l_mixed))) (l_l_mixed : K.lookup f_l_mixed = some ⟨oc_l_mixed, od_l_mixed, .func (PySem.W.fnOf "_law_mixed" "_law_mixed" (defArgs (topS 8)) (defBody (topS 8)) (defScope (topS 8)) .none kV_l_mixed dc_l_mixed pm_l_mixed an_l_mixed cd_l_mixed ct_l_mixed), sl_l_mixed⟩) (c_l_mixed : PySem.W.codeIn K cd_l_mixed "_law_mixed" = true) (k_l_mixed : PySem.W.keepIn K (.ref f_l_mixed) = true)
    (a_l_row : PySem.W.nsIn K mainGlobals "_law_row" = some (some (.ref f_l_row))) (l_l_row : K.lookup f_l_row = some ⟨oc_l_row, od_l_row, .func (PySem.W.fnOf "_law_row" "_law_row" (defArgs (topS 9)) (defBody (topS 9)) (defScope (topS 9)) .none kV_l_row dc_l_row pm_l_row an_l_row cd_l_row ct_l_row), sl_l_row⟩) (c_l_row : PySem.W.codeIn K cd_l_row "_law_row" = true) (k_l_row : PySem.W.keepIn K (.ref f_l_row) = true)
    (a_l_closed : PySem.W.nsIn K mainGlobals "_law_closed" = some (some (.ref f_l_closed))) (l_l_closed : K.lookup f_l_closed = some ⟨oc_l_closed, od_l_closed, .func (PySem.W.fnOf "_law_closed" "_law_closed" (defArgs (topS 10)) (defBody (topS 10)) (defScope (topS 10)) .none kV_l_closed dc_l_closed pm_l_closed an_l_closed cd_l_closed ct_l_closed), sl_l_closed⟩) (c_l_closed : PySem.W.codeIn K cd_l_closed "_law_closed" = true) (k_l_closed : PySem.W.keepIn K (.ref f_l_closed) = true)
    (a_l_order : PySem.W.nsIn K mainGlobals "_law_order" = some (some (.ref f_l_order))) (l_l_order : K.lookup f_l_order = some ⟨oc_l_order, od_l_order, .func (PySem.W.fnOf "_law_order" "_law_order" (defArgs (topS 11)) (defBody (topS 11)) (defScope (topS 11)) .none kV_l_order dc_l_order pm_l_order an_l_order cd_l_order ct_l_order), sl_l_order⟩) (c_l_order : PySem.W.codeIn K cd_l_order "_law_order" = true) (k_l_order : PySem.W.keepIn K (.ref f_l_order) = true)
    (a_l_spoilt : PySem.W.nsIn K mainGlobals "_law_spoilt" = some (some (.ref f_l_spoilt))) (l_l_spoilt : K.lookup f_l_spoilt = some ⟨oc_l_spoilt, od_l_spoilt, .func (PySem.W.fnOf "_law_spoilt" "_law_spoilt" (defArgs (topS 12)) (defBody (topS 12)) (defScope (topS 12)) .none kV_l_spoilt dc_l_spoilt pm_l_spoilt an_l_spoilt cd_l_spoilt ct_l_spoilt), sl_l_spoilt⟩) (c_l_spoilt : PySem.W.codeIn K cd_l_spoilt "_law_spoilt" = true) (k_l_spoilt : PySem.W.keepIn K (.ref f_l_spoilt) = true)
    (a_l_is_row : PySem.W.nsIn K mainGlobals "_law_is_row" = some (some (.ref f_l_is_row))) (l_l_is_row : K.lookup f_l_is_row = some ⟨oc_l_is_row, od_l_is_row, .func (PySem.W.fnOf "_law_is_row" "_law_is_row" (defArgs (topS 13)) (defBody (topS 13)) (defScope (topS 13)) .none kV_l_is_row dc_l_is_row pm_l_is_row an_l_is_row cd_l_is_row ct_l_is_row), sl_l_is_row⟩) (c_l_is_row : PySem.W.codeIn K cd_l_is_row "_law_is_row" = true) (k_l_is_row : PySem.W.keepIn K (.ref f_l_is_row) = true)
    (a_l_is_order : PySem.W.nsIn K mainGlobals "_law_is_order" = some (some (.ref f_l_is_order))) (l_l_is_order : K.lookup f_l_is_order = some ⟨oc_l_is_order, od_l_is_order, .func (PySem.W.fnOf "_law_is_order" "_law_is_order" (defArgs (topS 14)) (defBody (topS 14)) (defScope (topS 14)) .none kV_l_is_order dc_l_is_order pm_l_is_order an_l_is_order cd_l_is_order ct_l_is_order), sl_l_is_order⟩) (c_l_is_order : PySem.W.codeIn K cd_l_is_order "_law_is_order" = true) (k_l_is_order : PySem.W.keepIn K (.ref f_l_is_order) = true)
    (a_l_copy : PySem.W.nsIn K mainGlobals "_law_copy" = some (some (.ref f_l_copy))) (l_l_copy : K.lookup f_l_copy = some ⟨oc_l_copy, od_l_copy, .func (PySem.W.fnOf "_law_copy" "_law_copy" (defArgs (topS 15)) (defBody (topS 15)) (defScope (topS 15)) .none kV_l_copy dc_l_copy pm_l_copy an_l_copy cd_l_copy ct_l_copy), sl_l_copy⟩) (c_l_copy : PySem.W.codeIn K cd_l_copy "_law_copy" = true) (k_l_copy : PySem.W.keepIn K (.ref f_l_copy) = true)
    (a_law : PySem.W.nsIn K mainGlobals "law" = some (some (.ref f_law))) (l_law : K.lookup f_law = some ⟨oc_law, od_law, .func (PySem.W.fnOf "law" "law" (defArgs (topS 16)) (defBody (topS 16)) (defScope (topS 16)) .none kV_law dc_law pm_law an_law cd_law ct_law), sl_law⟩) (c_law : PySem.W.codeIn K cd_law "law" = true) (k_law : PySem.W.keepIn K (.ref f_law) = true)
    (z_abs : PySem.W.nsIn K mainGlobals "abs" = some none)
    (z_bool : PySem.W.nsIn K mainGlobals "bool" = some none)
    (z_enumerate : PySem.W.nsIn K mainGlobals "enumerate" = some none)
    (z_int : PySem.W.nsIn K mainGlobals "int" = some none)
    (z_isinstance : PySem.W.nsIn K mainGlobals "isinstance" = some none)
    (z_len : PySem.W.nsIn K mainGlobals "len" = some none)
    (z_list : PySem.W.nsIn K mainGlobals "list" = some none)
    (z_range : PySem.W.nsIn K mainGlobals "range" = some none)
    (z_set : PySem.W.nsIn K mainGlobals "set" = some none)
    (z_sorted : PySem.W.nsIn K mainGlobals "sorted" = some none)
    (z_tuple : PySem.W.nsIn K mainGlobals "tuple" = some none)
    {t_MOST : Tok} (g_MOST : PySem.W.nsIn K mainGlobals "MOST" = some (some (.int 14 t_MOST))) : Tx K mg where
  f_is_whole := f_is_whole
  d_is_whole := _
  F_is_whole := fun_mk (st := topS 2) l_is_whole c_is_whole k_is_whole
  b_is_whole := (fun_mk (st := topS 2) l_is_whole c_is_whole k_is_whole).binds fun _ _ _ _ _ _ us hl => match us, hl with | [_], _ => rfl
  g_is_whole := PySem.W.mg_of X G a_is_whole
  f_is_place := f_is_place
  d_is_place := _
  F_is_place := fun_mk (st := topS 3) l_is_place c_is_place k_is_place
  b_is_place := (fun_mk (st := topS 3) l_is_place c_is_place k_is_place).binds fun _ _ _ _ _ _ us hl => match us, hl with | [_, _], _ => rfl
  g_is_place := PySem.W.mg_of X G a_is_place
  f_is_order := f_is_order
  d_is_order := _
  F_is_order := fun_mk (st := topS 4) l_is_order c_is_order k_is_order
  b_is_order := (fun_mk (st := topS 4) l_is_order c_is_order k_is_order).binds fun _ _ _ _ _ _ us hl => match us, hl with | [_], _ => rfl
  g_is_order := PySem.W.mg_of X G a_is_order
  f_l_cell := f_l_cell
  d_l_cell := _
  F_l_cell := fun_mk (st := topS 6) l_l_cell c_l_cell k_l_cell
  b_l_cell := (fun_mk (st := topS 6) l_l_cell c_l_cell k_l_cell).binds fun _ _ _ _ _ _ us hl => match us, hl with | [_, _], _ => rfl
  g_l_cell := PySem.W.mg_of X G a_l_cell
  f_l_digits := f_l_digits
  d_l_digits := _
  F_l_digits := fun_mk (st := topS 7) l_l_digits c_l_digits k_l_digits
  b_l_digits := (fun_mk (st := topS 7) l_l_digits c_l_digits k_l_digits).binds fun _ _ _ _ _ _ us hl => match us, hl with | [_, _, _], _ => rfl
  g_l_digits := PySem.W.mg_of X G a_l_digits
  f_l_mixed := f_l_mixed
  d_l_mixed := _
  F_l_mixed := fun_mk (st := topS 8) l_l_mixed c_l_mixed k_l_mixed
  b_l_mixed := (fun_mk (st := topS 8) l_l_mixed c_l_mixed k_l_mixed).binds fun _ _ _ _ _ _ us hl => match us, hl with | [_, _, _], _ => rfl
  g_l_mixed := PySem.W.mg_of X G a_l_mixed
  f_l_row := f_l_row
  d_l_row := _
  F_l_row := fun_mk (st := topS 9) l_l_row c_l_row k_l_row
  b_l_row := (fun_mk (st := topS 9) l_l_row c_l_row k_l_row).binds fun _ _ _ _ _ _ us hl => match us, hl with | [_, _, _], _ => rfl
  g_l_row := PySem.W.mg_of X G a_l_row
  f_l_closed := f_l_closed
  d_l_closed := _
  F_l_closed := fun_mk (st := topS 10) l_l_closed c_l_closed k_l_closed
  b_l_closed := (fun_mk (st := topS 10) l_l_closed c_l_closed k_l_closed).binds fun _ _ _ _ _ _ us hl => match us, hl with | [_, _], _ => rfl
  g_l_closed := PySem.W.mg_of X G a_l_closed
  f_l_order := f_l_order
  d_l_order := _
  F_l_order := fun_mk (st := topS 11) l_l_order c_l_order k_l_order
  b_l_order := (fun_mk (st := topS 11) l_l_order c_l_order k_l_order).binds fun _ _ _ _ _ _ us hl => match us, hl with | [_], _ => rfl
  g_l_order := PySem.W.mg_of X G a_l_order
  f_l_spoilt := f_l_spoilt
  d_l_spoilt := _
  F_l_spoilt := fun_mk (st := topS 12) l_l_spoilt c_l_spoilt k_l_spoilt
  b_l_spoilt := (fun_mk (st := topS 12) l_l_spoilt c_l_spoilt k_l_spoilt).binds fun _ _ _ _ _ _ us hl => match us, hl with | [_, _], _ => rfl
  g_l_spoilt := PySem.W.mg_of X G a_l_spoilt
  f_l_is_row := f_l_is_row
  d_l_is_row := _
  F_l_is_row := fun_mk (st := topS 13) l_l_is_row c_l_is_row k_l_is_row
  b_l_is_row := (fun_mk (st := topS 13) l_l_is_row c_l_is_row k_l_is_row).binds fun _ _ _ _ _ _ us hl => match us, hl with | [_, _], _ => rfl
  g_l_is_row := PySem.W.mg_of X G a_l_is_row
  f_l_is_order := f_l_is_order
  d_l_is_order := _
  F_l_is_order := fun_mk (st := topS 14) l_l_is_order c_l_is_order k_l_is_order
  b_l_is_order := (fun_mk (st := topS 14) l_l_is_order c_l_is_order k_l_is_order).binds fun _ _ _ _ _ _ us hl => match us, hl with | [_], _ => rfl
  g_l_is_order := PySem.W.mg_of X G a_l_is_order
  f_l_copy := f_l_copy
  d_l_copy := _
  F_l_copy := fun_mk (st := topS 15) l_l_copy c_l_copy k_l_copy
  b_l_copy := (fun_mk (st := topS 15) l_l_copy c_l_copy k_l_copy).binds fun _ _ _ _ _ _ us hl => match us, hl with | [_], _ => rfl
  g_l_copy := PySem.W.mg_of X G a_l_copy
  f_law := f_law
  d_law := _
  F_law := fun_mk (st := topS 16) l_law c_law k_law
  b_law := (fun_mk (st := topS 16) l_law c_law k_law).binds fun _ _ _ _ _ _ us hl => match us, hl with | [_], _ => rfl
  g_law := PySem.W.mg_of X G a_law
  z_abs := PySem.W.mg_none_of X G z_abs
  z_bool := PySem.W.mg_none_of X G z_bool
  z_enumerate := PySem.W.mg_none_of X G z_enumerate
  z_int := PySem.W.mg_none_of X G z_int
  z_isinstance := PySem.W.mg_none_of X G z_isinstance
  z_len := PySem.W.mg_none_of X G z_len
  z_list := PySem.W.mg_none_of X G z_list
  z_range := PySem.W.mg_none_of X G z_range
  z_set := PySem.W.mg_none_of X G z_set
  z_sorted := PySem.W.mg_none_of X G z_sorted
  z_tuple := PySem.W.mg_none_of X G z_tuple
  c_MOST := ⟨_, PySem.W.mg_of X G g_MOST⟩
theorem law_fn {P : Program} {w : World} {K : PySem.W.Frag} {mg : Str → Option Value} {fa : Addr} (hmg : mg "law" = some (.ref fa)) (T : Tx K mg) : ∃ fd : FuncData, (∀ (s : Shared) (u : Value), BindsTo s fd ⟨[u], []⟩ [("_law_script", u)]) ∧ ∀ base : Heap, K.In base → base.Ns mainGlobals mg → FnOk P w K mg base CX0 5 fa fd ["_law_script"] (spP K 0 m_law) := by
  have e := hmg.symm.trans T.g_law
  cases e
  refine ⟨T.d_law, fun s u => ?_, fun base _ _ => ok_law T⟩
  obtain ⟨_, _, _, _, _, _, _, _, _, ed, _, _⟩ := T.F_law.ex
  rw [ed]
  exact .of_eq rfl
end K01
open PySem PySem.W PyProof.Rows
set_option maxHeartbeats 0 in
theorem PySem.Challenge.cw_bandorder_k01_orders_judged_holds : PySem.Challenge.rw_bandorder_k01_orders_judged.Holds := by
  w_on; o_law; k_head; (case hw => w_witness2)
  k_fill
  refine L2.walk_of (l := PySem.Challenge.rw_bandorder_k01_orders_judged) (n := 63) (k := 5) (x := "_law_script") (CX := fun _ => L2.CX0) (sp := fun w => VL.spP _ 0 K01.m_law) rfl (by decide) rfl ⟨rfl, by decide, by decide⟩ (fun w h Y => PySem.W.kIn_of Y) ?F (fun _ _ a ns hl _ hS => VL.law_ok hS ( K01.law_true ns hl)) (fun _ _ _ _ _ h => h)
  case F =>
    intro w mg fa h KX G hmg
    refine' K01.law_fn hmg (K01.tx_mk KX G ?a_is_whole ?l_is_whole ?c_is_whole ?k_is_whole ?a_is_place ?l_is_place ?c_is_place ?k_is_place ?a_is_order ?l_is_order ?c_is_order ?k_is_order ?a_l_cell ?l_l_cell ?c_l_cell ?k_l_cell ?a_l_digits ?l_l_digits ?c_l_digits ?k_l_digits ?a_l_mixed ?l_l_mixed ?c_l_mixed ?k_l_mixed ?a_l_row ?l_l_row ?c_l_row ?k_l_row ?a_l_closed ?l_l_closed ?c_l_closed ?k_l_closed ?a_l_order ?l_l_order ?c_l_order ?k_l_order ?a_l_spoilt ?l_l_spoilt ?c_l_spoilt ?k_l_spoilt ?a_l_is_row ?l_l_is_row ?c_l_is_row ?k_l_is_row ?a_l_is_order ?l_l_is_order ?c_l_is_order ?k_l_is_order ?a_l_copy ?l_l_copy ?c_l_copy ?k_l_copy ?a_law ?l_law ?c_law ?k_law ?z_abs ?z_bool ?z_enumerate ?z_int ?z_isinstance ?z_len ?z_list ?z_range ?z_set ?z_sorted ?z_tuple ?g_MOST)
    (case a_is_whole => k_is); (case l_is_whole => k_is); (case c_is_whole => k_is); (case k_is_whole => k_is); (case a_is_place => k_is); (case l_is_place => k_is); (case c_is_place => k_is); (case k_is_place => k_is); (case a_is_order => k_is); (case l_is_order => k_is); (case c_is_order => k_is); (case k_is_order => k_is); (case a_l_cell => k_is); (case l_l_cell => k_is); (case c_l_cell => k_is); (case k_l_cell => k_is); (case a_l_digits => k_is); (case l_l_digits => k_is); (case c_l_digits => k_is); (case k_l_digits => k_is); (case a_l_mixed => k_is); (case l_l_mixed => k_is); (case c_l_mixed => k_is); (case k_l_mixed => k_is); (case a_l_row => k_is); (case l_l_row => k_is); (case c_l_row => k_is); (case k_l_row => k_is); (case a_l_closed => k_is); (case l_l_closed => k_is); (case c_l_closed => k_is); (case k_l_closed => k_is); (case a_l_order => k_is); (case l_l_order => k_is); (case c_l_order => k_is); (case k_l_order => k_is); (case a_l_spoilt => k_is); (case l_l_spoilt => k_is); (case c_l_spoilt => k_is); (case k_l_spoilt => k_is); (case a_l_is_row => k_is); (case l_l_is_row => k_is); (case c_l_is_row => k_is); (case k_l_is_row => k_is); (case a_l_is_order => k_is); (case l_l_is_order => k_is); (case c_l_is_order => k_is); (case k_l_is_order => k_is); (case a_l_copy => k_is); (case l_l_copy => k_is); (case c_l_copy => k_is); (case k_l_copy => k_is); (case a_law => k_is); (case l_law => k_is); (case c_law => k_is); (case k_law => k_is); (case z_abs => k_is); (case z_bool => k_is); (case z_enumerate => k_is); (case z_int => k_is); (case z_isinstance => k_is); (case z_len => k_is); (case z_list => k_is); (case z_range => k_is); (case z_set => k_is); (case z_sorted => k_is); (case z_tuple => k_is); (case g_MOST => k_is)
