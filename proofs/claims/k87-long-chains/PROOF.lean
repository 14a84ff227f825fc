import PyProof.Rows.All
import Wide.All
import OpenK.AllK
import Wide.FinOn
import HandS.ForMost
import HandS.Defaults
import HandS.IsInst
import HandS.Conv
import HandS.TupAny
import HandS.Flow
import HandS.More
import HandS.HeadWalk
import HandS.Strs
import HandS.Small
import HandS.HeadHook1
import HandS.HeadHook2
import HandS.HeadHook3
import HandS.HeadHook4
import HandS.MakeKwOnly
import HandS.EndBits
import HandS.Ends
import HandS.Head0
import HandS.Head1
import HandS.Head2
import PySem.Challenge.RW_rungstead_k87_whole_long_chains
import KE.KStateDown
import Lean
section
set_option Elab.async false
set_option linter.all false
set_option maxRecDepth 100000
set_option maxHeartbeats 2000000
/-! LG: a logical layer over HandS. Values with tuples by value, a logical heap of mutable objects; how they lie in the abstract heap of HandS. -/
namespace LG
open PySem PySem.Spec PyProof.Rows L2

/-! ### values, objects, heaps -/
inductive LV where
  | non | bl (b : Bool) | int (i : Int) | str (x : Str) | tup (xs : List LV) | ref (i : Nat) | scr (xs : List LV)
inductive LO where
  | lst (xs : List LV) | dct (kvs : List (Key × LV)) | ins (c : Nat) (fs : List (Nat × LV))
structure LH where
  n : Nat
  at_ : Nat → Option LO
def LH.put (L : LH) (a : Nat) (o : LO) : LH := ⟨L.n, fun b => if b = a then some o else L.at_ b⟩
def LH.new (L : LH) (o : LO) : LH := ⟨L.n + 1, fun b => if b = L.n then some o else L.at_ b⟩
@[simp] theorem LH.put_n (L : LH) (a : Nat) (o : LO) : (L.put a o).n = L.n := rfl
@[simp] theorem LH.new_n (L : LH) (o : LO) : (L.new o).n = L.n + 1 := rfl
theorem LH.put_at (L : LH) (a b : Nat) (o : LO) : (L.put a o).at_ b = if b = a then some o else L.at_ b := rfl
theorem LH.new_at (L : LH) (b : Nat) (o : LO) : (L.new o).at_ b = if b = L.n then some o else L.at_ b := rfl
@[simp] theorem LH.put_same (L : LH) (a : Nat) (o : LO) : (L.put a o).at_ a = some o := by simp [LH.put_at]
@[simp] theorem LH.new_same (L : LH) (o : LO) : (L.new o).at_ L.n = some o := by simp [LH.new_at]

/-! ### immutable things stay -/
def Imm0 : HO → Prop
  | .tup _ => True
  | .frz _ (.lst _) => True
  | .frz _ (.tup _) => True
  | _ => False
def Imm : HO → Prop
  | .tup _ => True
  | .frz _ (.lst _) => True
  | .frz _ (.tup _) => True
  | .frz _ (.dK _) => True
  | _ => False
theorem Imm0.to {o : HO} (h : Imm0 o) : Imm o := by
  unfold Imm0 at h
  split at h <;> first | exact h.elim | trivial
/-- what the values need -/
def Sty0 (H H' : Hp) : Prop := ∀ a o, H a = some o → Imm0 o → H' a = some o
def Sty (H H' : Hp) : Prop := ∀ a o, H a = some o → Imm o → H' a = some o
theorem Sty.to0 {H H' : Hp} (s : Sty H H') : Sty0 H H' := fun a o h i => s a o h i.to
theorem Sty.refl (H : Hp) : Sty H H := fun _ _ h _ => h
theorem Sty.trans {H H1 H2 : Hp} (a : Sty H H1) (b : Sty H1 H2) : Sty H H2 := fun x o h i => b x o (a x o h i) i
theorem Sty.new {H : Hp} {p : Addr} {o : HO} (h : H p = none) : Sty H (upd H p o) := fun a u e _ => by
  rw [upd_ne (ne_of_none e h)]
  exact e
theorem Sty.mut {H : Hp} {p : Addr} {u o : HO} (h : H p = some u) (n : ¬ Imm u) : Sty H (upd H p o) := fun a v e i => by
  have : a ≠ p := by
    rintro rfl
    rw [h] at e
    cases e
    exact n i
  rw [upd_ne this]
  exact e
theorem Sty0.tup {K : PySem.W.Frag} {H H' : Hp} {a : Addr} {xs : List V} (s : Sty0 H H') (h : SqT K H a xs) : SqT K H' a xs := by
  rcases h with (h | ⟨o, h⟩) | h
  · exact .inl (.inl (s a _ h trivial))
  · exact .inl (.inr ⟨o, s a _ h trivial⟩)
  · exact .inr h
/-- a list that nobody writes: the script, or one of the written part -/
def FzL (K : PySem.W.Frag) (H : Hp) (a : Addr) (xs : List V) : Prop :=
  (∃ o, H a = some (.frz o (.lst xs))) ∨
    ∃ (o : Obj) (its : Array Value) (n : Nat), K.lookup a = some o ∧ o.cls = .type "list" ∧ o.dict = none ∧ o.data = .seq its n ∧ its.size ≤ sizeLine ∧ Vals xs its.toList
theorem FzL.sq {K : PySem.W.Frag} {H : Hp} {a : Addr} {xs : List V} (h : FzL K H a xs) : SqL K H a xs := by
  rcases h with ⟨o, h⟩ | h
  · exact .inl (.inr ⟨o, h⟩)
  · exact .inr h
theorem Sty0.frz {K : PySem.W.Frag} {H H' : Hp} {a : Addr} {xs : List V} (s : Sty0 H H') (h : FzL K H a xs) : FzL K H' a xs := by
  rcases h with ⟨o, h⟩ | h
  · exact .inl ⟨o, s a _ h trivial⟩
  · exact .inr h
theorem Sty.tup {K : PySem.W.Frag} {H H' : Hp} {a : Addr} {xs : List V} (s : Sty H H') (h : SqT K H a xs) : SqT K H' a xs := s.to0.tup h
theorem Sty.frz {K : PySem.W.Frag} {H H' : Hp} {a : Addr} {xs : List V} (s : Sty H H') (h : FzL K H a xs) : FzL K H' a xs := s.to0.frz h
theorem FzL.of {K : PySem.W.Frag} {H : Hp} {a : Addr} {xs : List V} (o : Only H) (h : SqL K H a xs) : FzL K H a xs := by
  rcases h with (h | ⟨ob, h⟩) | h
  · rcases o a with q | ⟨ob, ys, q⟩ <;> rw [q] at h <;> cases h
  · exact .inl ⟨ob, h⟩
  · exact .inr h

/-! ### how a value lies -/
abbrev Rho := Nat → Option Addr
def Ex (ρ ρ' : Rho) : Prop := ∀ i a, ρ i = some a → ρ' i = some a
theorem Ex.refl (ρ : Rho) : Ex ρ ρ := fun _ _ h => h
theorem Ex.trans {a b c : Rho} (x : Ex a b) (y : Ex b c) : Ex a c := fun i u h => y i u (x i u h)

mutual
def Rl (K : PySem.W.Frag) (H : Hp) (ρ : Rho) : LV → V → Prop
  | .non, v => v = .non
  | .bl b, v => v = .bl b
  | .int i, v => v = .int i
  | .str x, v => v = .str x
  | .ref i, v => ∃ a, ρ i = some a ∧ v = .ref a
  | .tup xs, v => ∃ a vs, v = .ref a ∧ SqT K H a vs ∧ Rls K H ρ xs vs
  | .scr xs, v => ∃ a vs, v = .ref a ∧ FzL K H a vs ∧ Rls K H ρ xs vs
def Rls (K : PySem.W.Frag) (H : Hp) (ρ : Rho) : List LV → List V → Prop
  | [], vs => vs = []
  | x :: xs, vs => ∃ v r, vs = v :: r ∧ Rl K H ρ x v ∧ Rls K H ρ xs r
end
section
variable {K : PySem.W.Frag} {H H' : Hp} {ρ ρ' : Rho}
mutual
theorem Rl.mono0 (s : Sty0 H H') (e : Ex ρ ρ') : ∀ (x : LV) (v : V), Rl K H ρ x v → Rl K H' ρ' x v
  | .non, v, h => by unfold Rl at h ⊢; exact h
  | .bl b, v, h => by unfold Rl at h ⊢; exact h
  | .int i, v, h => by unfold Rl at h ⊢; exact h
  | .str x, v, h => by unfold Rl at h ⊢; exact h
  | .ref i, v, h => by unfold Rl at h ⊢; obtain ⟨a, h1, h2⟩ := h; exact ⟨a, e _ _ h1, h2⟩
  | .tup xs, v, h => by unfold Rl at h ⊢; obtain ⟨a, vs, h1, h2, h3⟩ := h; exact ⟨a, vs, h1, s.tup h2, Rls.mono0 s e xs vs h3⟩
  | .scr xs, v, h => by unfold Rl at h ⊢; obtain ⟨a, vs, h1, h2, h3⟩ := h; exact ⟨a, vs, h1, s.frz h2, Rls.mono0 s e xs vs h3⟩
theorem Rls.mono0 (s : Sty0 H H') (e : Ex ρ ρ') : ∀ (xs : List LV) (vs : List V), Rls K H ρ xs vs → Rls K H' ρ' xs vs
  | [], vs, h => by unfold Rls at h ⊢; exact h
  | x :: xs, vs, h => by unfold Rls at h ⊢; obtain ⟨v, r, h1, h2, h3⟩ := h; exact ⟨v, r, h1, Rl.mono0 s e x v h2, Rls.mono0 s e xs r h3⟩
end
theorem Rl.mono (s : Sty H H') (e : Ex ρ ρ') (x : LV) (v : V) (h : Rl K H ρ x v) : Rl K H' ρ' x v := Rl.mono0 s.to0 e x v h
theorem Rls.mono (s : Sty H H') (e : Ex ρ ρ') (x : List LV) (v : List V) (h : Rls K H ρ x v) : Rls K H' ρ' x v := Rls.mono0 s.to0 e x v h
theorem Rl.non {v : V} : Rl K H ρ .non v ↔ v = .non := by unfold Rl; exact Iff.rfl
theorem Rl.bl {b : Bool} {v : V} : Rl K H ρ (.bl b) v ↔ v = .bl b := by unfold Rl; exact Iff.rfl
theorem Rl.int {i : Int} {v : V} : Rl K H ρ (.int i) v ↔ v = .int i := by unfold Rl; exact Iff.rfl
theorem Rl.str {x : Str} {v : V} : Rl K H ρ (.str x) v ↔ v = .str x := by unfold Rl; exact Iff.rfl
theorem Rl.ref {i : Nat} {v : V} : Rl K H ρ (.ref i) v ↔ ∃ a, ρ i = some a ∧ v = .ref a := by unfold Rl; exact Iff.rfl
theorem Rl.tup {xs : List LV} {v : V} : Rl K H ρ (.tup xs) v ↔ ∃ a vs, v = .ref a ∧ SqT K H a vs ∧ Rls K H ρ xs vs := by unfold Rl; exact Iff.rfl
theorem Rl.scr {xs : List LV} {v : V} : Rl K H ρ (.scr xs) v ↔ ∃ a vs, v = .ref a ∧ FzL K H a vs ∧ Rls K H ρ xs vs := by unfold Rl; exact Iff.rfl
theorem Rls.nil {vs : List V} : Rls K H ρ [] vs ↔ vs = [] := by unfold Rls; exact Iff.rfl
theorem Rls.cons {x : LV} {xs : List LV} {vs : List V} : Rls K H ρ (x :: xs) vs ↔ ∃ v r, vs = v :: r ∧ Rl K H ρ x v ∧ Rls K H ρ xs r := by
  constructor
  · intro h; unfold Rls at h; exact h
  · intro h; unfold Rls; exact h
theorem Rls.mk {x : LV} {xs : List LV} {v : V} {r : List V} (a : Rl K H ρ x v) (b : Rls K H ρ xs r) : Rls K H ρ (x :: xs) (v :: r) := Rls.cons.mpr ⟨v, r, rfl, a, b⟩
theorem Rls.nil' : Rls K H ρ [] [] := Rls.nil.mpr rfl
theorem Rls.length : ∀ {xs : List LV} {vs : List V}, Rls K H ρ xs vs → xs.length = vs.length
  | [], vs, h => by rw [Rls.nil.mp h]; rfl
  | x :: xs, vs, h => by obtain ⟨v, r, rfl, _, h⟩ := Rls.cons.mp h; simp [Rls.length h]
theorem Rls.get : ∀ {xs : List LV} {vs : List V} {i : Nat} {x : LV}, Rls K H ρ xs vs → xs[i]? = some x → ∃ v, vs[i]? = some v ∧ Rl K H ρ x v
  | [], _, _, _, _, e => by simp at e
  | y :: ys, vs, 0, x, h, e => by
    obtain ⟨v, r, rfl, h1, _⟩ := Rls.cons.mp h
    simp at e; subst e; exact ⟨v, rfl, h1⟩
  | y :: ys, vs, i + 1, x, h, e => by
    obtain ⟨v, r, rfl, _, h2⟩ := Rls.cons.mp h
    obtain ⟨w, h3, h4⟩ := Rls.get (i := i) (x := x) h2 (by simpa using e)
    exact ⟨w, by simpa using h3, h4⟩
theorem Rls.append : ∀ {xs ys : List LV} {vs ws : List V}, Rls K H ρ xs vs → Rls K H ρ ys ws → Rls K H ρ (xs ++ ys) (vs ++ ws)
  | [], ys, vs, ws, h, g => by rw [Rls.nil.mp h]; exact g
  | x :: xs, ys, vs, ws, h, g => by
    obtain ⟨v, r, rfl, h1, h2⟩ := Rls.cons.mp h
    exact Rls.mk h1 (Rls.append h2 g)
theorem Rls.take : ∀ (n : Nat) {xs : List LV} {vs : List V}, Rls K H ρ xs vs → Rls K H ρ (xs.take n) (vs.take n)
  | 0, _, _, _ => by simp [Rls.nil]
  | n + 1, [], vs, h => by rw [Rls.nil.mp h]; simp [Rls.nil]
  | n + 1, x :: xs, vs, h => by
    obtain ⟨v, r, rfl, h1, h2⟩ := Rls.cons.mp h
    simpa using Rls.mk h1 (Rls.take n h2)
theorem Rls.drop : ∀ (n : Nat) {xs : List LV} {vs : List V}, Rls K H ρ xs vs → Rls K H ρ (xs.drop n) (vs.drop n)
  | 0, _, _, h => by simpa using h
  | n + 1, [], vs, h => by rw [Rls.nil.mp h]; simp [Rls.nil]
  | n + 1, x :: xs, vs, h => by
    obtain ⟨v, r, rfl, h1, h2⟩ := Rls.cons.mp h
    simpa using Rls.drop n h2
theorem Rls.set : ∀ (i : Nat) {x : LV} {v : V} {xs : List LV} {vs : List V}, Rl K H ρ x v → Rls K H ρ xs vs → Rls K H ρ (xs.set i x) (vs.set i v)
  | _, _, _, [], vs, _, h => by rw [Rls.nil.mp h]; simp [Rls.nil]
  | 0, x, v, y :: ys, vs, r, h => by
    obtain ⟨w, q, rfl, h1, h2⟩ := Rls.cons.mp h
    simpa using Rls.mk r h2
  | i + 1, x, v, y :: ys, vs, r, h => by
    obtain ⟨w, q, rfl, h1, h2⟩ := Rls.cons.mp h
    simpa using Rls.mk h1 (Rls.set i r h2)
theorem Rls.erase : ∀ (i : Nat) {xs : List LV} {vs : List V}, Rls K H ρ xs vs → Rls K H ρ (xs.eraseIdx i) (vs.eraseIdx i)
  | _, [], vs, h => by rw [Rls.nil.mp h]; simp [Rls.nil]
  | 0, x :: xs, vs, h => by
    obtain ⟨w, q, rfl, h1, h2⟩ := Rls.cons.mp h
    simpa using h2
  | i + 1, x :: xs, vs, h => by
    obtain ⟨w, q, rfl, h1, h2⟩ := Rls.cons.mp h
    simpa using Rls.mk h1 (Rls.erase i h2)
theorem Rls.dropLast {xs : List LV} {vs : List V} (h : Rls K H ρ xs vs) : Rls K H ρ xs.dropLast vs.dropLast := by
  rw [List.dropLast_eq_take, List.dropLast_eq_take, h.length]
  exact Rls.take _ h
theorem Rls.reverse : ∀ {xs : List LV} {vs : List V}, Rls K H ρ xs vs → Rls K H ρ xs.reverse vs.reverse
  | [], vs, h => by rw [Rls.nil.mp h]; simp [Rls.nil]
  | x :: xs, vs, h => by
    obtain ⟨v, r, rfl, h1, h2⟩ := Rls.cons.mp h
    simp only [List.reverse_cons]
    exact Rls.append (Rls.reverse h2) (Rls.mk h1 Rls.nil')
theorem Rls.replicate {xs : List LV} {vs : List V} (h : Rls K H ρ xs vs) : ∀ n : Nat, Rls K H ρ (List.replicate n xs).flatten (List.replicate n vs).flatten
  | 0 => by simp [Rls.nil]
  | n + 1 => by
    simp only [List.replicate_succ, List.flatten_cons]
    exact Rls.append h (Rls.replicate h n)
end

/-! ### how an object lies, the logical heap -/
/-- the static part: names (of fields and methods), the addresses of the classes -/
structure Na where
  nm : Nat → Str
  ca : Nat → Addr
def RKs (K : PySem.W.Frag) (H : Hp) (ρ : Rho) : List (Key × LV) → List (Key × V) → Prop
  | [], vs => vs = []
  | x :: xs, vs => ∃ v r, vs = (x.1, v) :: r ∧ Rl K H ρ x.2 v ∧ RKs K H ρ xs r
def RFs (N : Na) (K : PySem.W.Frag) (H : Hp) (ρ : Rho) : List (Nat × LV) → List (Str × V) → Prop
  | [], vs => vs = []
  | x :: xs, vs => ∃ v r, vs = (N.nm x.1, v) :: r ∧ Rl K H ρ x.2 v ∧ RFs N K H ρ xs r
def ROb (N : Na) (K : PySem.W.Frag) (H : Hp) (ρ : Rho) : LO → Addr → Prop
  | .lst xs, a => ∃ vs, H a = some (.lst vs) ∧ Rls K H ρ xs vs
  | .dct kvs, a => ∃ vs, H a = some (.dK vs) ∧ RKs K H ρ kvs vs
  | .ins c fs, a => ∃ dx vs, H a = some (.ins (N.ca c) dx vs) ∧ RFs N K H ρ fs vs ∧ Cls K (N.ca c) ∧ ∀ p ∈ fs, NoAttr K (N.ca c) (N.nm p.1)
structure Rep (N : Na) (K : PySem.W.Frag) (H : Hp) (L : LH) (ρ : Rho) : Prop where
  fresh : ∀ i, L.n ≤ i → ρ i = none
  obj : ∀ i o, L.at_ i = some o → ∃ a, ρ i = some a ∧ ROb N K H ρ o a
  inj : ∀ i j a, ρ i = some a → ρ j = some a → i = j
  dom : ∀ i a, ρ i = some a → ∃ o, H a = some o ∧ (Imm o → L.at_ i = none)
section
variable {N : Na} {K : PySem.W.Frag} {H H' : Hp} {ρ ρ' : Rho} {L : LH}
theorem RKs.mono0 (s : Sty0 H H') (e : Ex ρ ρ') : ∀ {xs : List (Key × LV)} {vs : List (Key × V)}, RKs K H ρ xs vs → RKs K H' ρ' xs vs
  | [], _, h => h
  | x :: xs, _, ⟨v, r, h1, h2, h3⟩ => ⟨v, r, h1, Rl.mono0 s e _ _ h2, RKs.mono0 s e h3⟩
theorem RFs.mono0 (s : Sty0 H H') (e : Ex ρ ρ') : ∀ {xs : List (Nat × LV)} {vs : List (Str × V)}, RFs N K H ρ xs vs → RFs N K H' ρ' xs vs
  | [], _, h => h
  | x :: xs, _, ⟨v, r, h1, h2, h3⟩ => ⟨v, r, h1, Rl.mono0 s e _ _ h2, RFs.mono0 s e h3⟩
theorem ROb.mono0 (s : Sty0 H H') (e : Ex ρ ρ') {o : LO} {a : Addr} (k : H' a = H a) (h : ROb N K H ρ o a) : ROb N K H' ρ' o a := by
  cases o with
  | lst xs => obtain ⟨vs, h1, h2⟩ := h; exact ⟨vs, k.trans h1, Rls.mono0 s e _ _ h2⟩
  | dct xs => obtain ⟨vs, h1, h2⟩ := h; exact ⟨vs, k.trans h1, h2.mono0 s e⟩
  | ins c fs => obtain ⟨dx, vs, h1, h2, h3⟩ := h; exact ⟨dx, vs, k.trans h1, h2.mono0 s e, h3⟩
theorem RKs.mono (s : Sty H H') (e : Ex ρ ρ') {xs : List (Key × LV)} {vs : List (Key × V)} (h : RKs K H ρ xs vs) : RKs K H' ρ' xs vs := h.mono0 s.to0 e
theorem RFs.mono (s : Sty H H') (e : Ex ρ ρ') {xs : List (Nat × LV)} {vs : List (Str × V)} (h : RFs N K H ρ xs vs) : RFs N K H' ρ' xs vs := h.mono0 s.to0 e
theorem ROb.mono (s : Sty H H') (e : Ex ρ ρ') {o : LO} {a : Addr} (k : H' a = H a) (h : ROb N K H ρ o a) : ROb N K H' ρ' o a := h.mono0 s.to0 e k
theorem ROb.mut {o : LO} {a : Addr} (h : ROb N K H ρ o a) : ∃ u, H a = some u ∧ ¬ Imm u := by
  cases o with
  | lst xs => obtain ⟨vs, h1, h2⟩ := h; exact ⟨_, h1, fun z => z⟩
  | dct xs => obtain ⟨vs, h1, h2⟩ := h; exact ⟨_, h1, fun z => z⟩
  | ins c fs => obtain ⟨dx, vs, h1, h2⟩ := h; exact ⟨_, h1, fun z => z⟩
/-- an untracked address is laid, nothing logical -/
theorem Rep.laid (R : Rep N K H L ρ) {p : Addr} {u : HO} (hp : H p = none) : Rep N K (upd H p u) L ρ where
  fresh := R.fresh
  obj := fun i o h => by
    obtain ⟨a, h1, h2⟩ := R.obj i o h
    refine ⟨a, h1, h2.mono (Sty.new hp) (Ex.refl _) (upd_ne ?_)⟩
    obtain ⟨w, q, _⟩ := R.dom i a h1
    exact ne_of_none q hp
  inj := R.inj
  dom := fun i a h => by
    obtain ⟨w, q, n⟩ := R.dom i a h
    exact ⟨w, by rw [upd_ne (ne_of_none q hp)]; exact q, n⟩
def rhoNew (ρ : Rho) (n : Nat) (p : Addr) : Rho := fun i => if i = n then some p else ρ i
theorem Rep.exNew (R : Rep N K H L ρ) (p : Addr) : Ex ρ (rhoNew ρ L.n p) := fun i a h => by
  unfold rhoNew
  rw [if_neg]
  · exact h
  · rintro rfl
    rw [R.fresh _ (Nat.le_refl _)] at h
    cases h
theorem rhoNew_self {n : Nat} {p : Addr} : rhoNew ρ n p n = some p := by simp [rhoNew]
/-- a new object -/
theorem Rep.new (R : Rep N K H L ρ) {p : Addr} {u : HO} {o : LO} (hp : H p = none) (hu : ¬ Imm u) (ho : ROb N K (upd H p u) (rhoNew ρ L.n p) o p) : Rep N K (upd H p u) (L.new o) (rhoNew ρ L.n p) where
  fresh := fun i hi => by
    have : L.n + 1 ≤ i := hi
    unfold rhoNew
    rw [if_neg (by omega)]
    exact R.fresh i (by omega)
  obj := fun i o' h => by
    rw [LH.new_at] at h
    by_cases hi : i = L.n
    · subst hi
      rw [if_pos rfl] at h
      cases h
      exact ⟨p, rhoNew_self, ho⟩
    · rw [if_neg hi] at h
      obtain ⟨a, h1, h2⟩ := R.obj i o' h
      refine ⟨a, R.exNew p _ _ h1, h2.mono (Sty.new hp) (R.exNew p) (upd_ne ?_)⟩
      obtain ⟨w, q, _⟩ := R.dom i a h1
      exact ne_of_none q hp
  inj := fun i j a hi hj => by
    have ne : ∀ k, ρ k = some p → False := fun k hk => by
      obtain ⟨w, q, _⟩ := R.dom k p hk
      rw [hp] at q
      cases q
    unfold rhoNew at hi hj
    by_cases h1 : i = L.n <;> by_cases h2 : j = L.n
    · rw [h1, h2]
    · rw [if_pos h1] at hi; rw [if_neg h2] at hj
      cases hi; exact (ne j hj).elim
    · rw [if_neg h1] at hi; rw [if_pos h2] at hj
      cases hj; exact (ne i hi).elim
    · rw [if_neg h1] at hi; rw [if_neg h2] at hj
      exact R.inj i j a hi hj
  dom := fun i a h => by
    unfold rhoNew at h
    by_cases h1 : i = L.n
    · rw [if_pos h1] at h
      cases h
      exact ⟨u, upd_same, fun z => (hu z).elim⟩
    · rw [if_neg h1] at h
      obtain ⟨w, q, n⟩ := R.dom i a h
      exact ⟨w, by rw [upd_ne (ne_of_none q hp)]; exact q, fun z => by rw [LH.new_at, if_neg h1]; exact n z⟩
/-- an object is changed -/
theorem Rep.put (R : Rep N K H L ρ) {i : Nat} {a : Addr} {o o0 : LO} {u : HO} (hi : ρ i = some a) (hl : L.at_ i = some o0) (hu : ¬ Imm u) (ho : ROb N K (upd H a u) ρ o a) : Rep N K (upd H a u) (L.put i o) ρ := by
  obtain ⟨w0, q0, n0⟩ := R.dom i a hi
  have S : Sty H (upd H a u) := Sty.mut q0 fun z => by rw [n0 z] at hl; cases hl
  exact {
    fresh := R.fresh
    obj := fun j o' h => by
      rw [LH.put_at] at h
      by_cases hj : j = i
      · subst hj
        rw [if_pos rfl] at h
        cases h
        exact ⟨a, hi, ho⟩
      · rw [if_neg hj] at h
        obtain ⟨b, h1, h2⟩ := R.obj j o' h
        refine ⟨b, h1, h2.mono S (Ex.refl _) (upd_ne ?_)⟩
        rintro rfl
        exact hj (R.inj _ _ _ h1 hi)
    inj := R.inj
    dom := fun j b h => by
      obtain ⟨w, q, n⟩ := R.dom j b h
      by_cases hb : b = a
      · subst hb
        exact ⟨u, upd_same, fun z => (hu z).elim⟩
      · refine ⟨w, by rw [upd_ne hb]; exact q, fun z => ?_⟩
        rw [LH.put_at, if_neg]
        · exact n z
        · rintro rfl
          rw [hi] at h
          exact hb (Option.some.inj h).symm }
theorem Rep.styPut (R : Rep N K H L ρ) {i : Nat} {a : Addr} {o0 : LO} {u : HO} (hi : ρ i = some a) (hl : L.at_ i = some o0) : Sty H (upd H a u) := by
  obtain ⟨w0, q0, n0⟩ := R.dom i a hi
  exact Sty.mut q0 fun z => by rw [n0 z] at hl; cases hl
/-- a dict is hidden (locked), and comes back -/
theorem Rep.hide (R : Rep N K H L ρ) {i : Nat} {a : Addr} {od : Obj} {vs : List (Key × V)} (hi : ρ i = some a) (ha : H a = some (.dK vs)) : Rep N K (upd H a (.frz od (.dK vs))) ⟨L.n, fun b => if b = i then none else L.at_ b⟩ ρ where
  fresh := R.fresh
  obj := fun j o h => by
    dsimp only at h
    by_cases hj : j = i
    · rw [if_pos hj] at h; cases h
    · rw [if_neg hj] at h
      obtain ⟨b, h1, h2⟩ := R.obj j o h
      refine ⟨b, h1, h2.mono (Sty.mut ha (fun z => z)) (Ex.refl _) (upd_ne ?_)⟩
      rintro rfl
      exact hj (R.inj _ _ _ h1 hi)
  inj := R.inj
  dom := fun j b h => by
    obtain ⟨w, q, n⟩ := R.dom j b h
    by_cases hb : b = a
    · subst hb
      refine ⟨_, upd_same, fun _ => ?_⟩
      exact if_pos (R.inj _ _ _ h hi)
    · refine ⟨w, by rw [upd_ne hb]; exact q, fun z => ?_⟩
      dsimp only
      split
      · rfl
      · exact n z
theorem Rep.back (R : Rep N K H L ρ) {i : Nat} {a : Addr} {od : Obj} {kvs : List (Key × LV)} {vs : List (Key × V)} (hi : ρ i = some a) (ha : H a = some (.frz od (.dK vs))) (hr : RKs K H ρ kvs vs) : Rep N K (upd H a (.dK vs)) (L.put i (.dct kvs)) ρ := by
  have S : Sty0 H (upd H a (.dK vs)) := fun b u e im => by
    have : b ≠ a := by
      rintro rfl
      rw [ha] at e
      cases e
      exact im
    rw [upd_ne this]
    exact e
  exact {
    fresh := R.fresh
    obj := fun j o' h => by
      rw [LH.put_at] at h
      by_cases hj : j = i
      · subst hj
        rw [if_pos rfl] at h
        cases h
        exact ⟨a, hi, vs, upd_same, hr.mono0 S (Ex.refl _)⟩
      · rw [if_neg hj] at h
        obtain ⟨b, h1, h2⟩ := R.obj j o' h
        refine ⟨b, h1, h2.mono0 S (Ex.refl _) (upd_ne ?_)⟩
        rintro rfl
        exact hj (R.inj _ _ _ h1 hi)
    inj := R.inj
    dom := fun j b h => by
      obtain ⟨w, q, n⟩ := R.dom j b h
      by_cases hb : b = a
      · subst hb
        exact ⟨_, upd_same, fun z => z.elim⟩
      · refine ⟨w, by rw [upd_ne hb]; exact q, fun z => ?_⟩
        rw [LH.put_at, if_neg]
        · exact n z
        · rintro rfl
          rw [hi] at h
          exact hb (Option.some.inj h).symm }
/-- reading the objects -/
theorem Rep.lst (R : Rep N K H L ρ) {i : Nat} {xs : List LV} (h : L.at_ i = some (.lst xs)) : ∃ a vs, ρ i = some a ∧ H a = some (.lst vs) ∧ Rls K H ρ xs vs := by
  obtain ⟨a, h1, vs, h2, h3⟩ := R.obj i _ h
  exact ⟨a, vs, h1, h2, h3⟩
theorem Rep.ins (R : Rep N K H L ρ) {i c : Nat} {fs : List (Nat × LV)} (h : L.at_ i = some (.ins c fs)) : ∃ a dx vs, ρ i = some a ∧ H a = some (.ins (N.ca c) dx vs) ∧ RFs N K H ρ fs vs ∧ Cls K (N.ca c) ∧ ∀ p ∈ fs, NoAttr K (N.ca c) (N.nm p.1) := by
  obtain ⟨a, h1, dx, vs, h2, h3⟩ := R.obj i _ h
  exact ⟨a, dx, vs, h1, h2, h3⟩
theorem Rep.dct (R : Rep N K H L ρ) {i : Nat} {xs : List (Key × LV)} (h : L.at_ i = some (.dct xs)) : ∃ a vs, ρ i = some a ∧ H a = some (.dK vs) ∧ RKs K H ρ xs vs := by
  obtain ⟨a, h1, vs, h2, h3⟩ := R.obj i _ h
  exact ⟨a, vs, h1, h2, h3⟩

/-! ### fields -/
def fget (f : Nat) : List (Nat × LV) → Option LV
  | [] => none
  | (g, x) :: r => if g = f then some x else fget f r
def fput (f : Nat) (v : LV) : List (Nat × LV) → List (Nat × LV)
  | [] => [(f, v)]
  | (g, x) :: r => if g = f then (g, v) :: r else (g, x) :: fput f v r
theorem RFs.length : ∀ {fs : List (Nat × LV)} {vs : List (Str × V)}, RFs N K H ρ fs vs → fs.length = vs.length
  | [], _, h => by rw [show _ = [] from h]; rfl
  | x :: xs, _, ⟨v, r, h1, _, h3⟩ => by rw [h1]; simp [RFs.length h3]
theorem RFs.lookup (inj : ∀ f g, N.nm f = N.nm g → f = g) : ∀ {fs : List (Nat × LV)} {vs : List (Str × V)} {f : Nat}, RFs N K H ρ fs vs →
    (∀ x, fget f fs = some x → ∃ v, vs.lookup (N.nm f) = some v ∧ Rl K H ρ x v) ∧ (fget f fs = none → vs.lookup (N.nm f) = none)
  | [], _, f, h => by rw [show _ = [] from h]; exact ⟨fun x e => by simp [fget] at e, fun _ => rfl⟩
  | (g, y) :: xs, _, f, ⟨v, r, h1, h2, h3⟩ => by
    rw [h1]
    by_cases e : g = f
    · subst e
      refine ⟨fun x q => ⟨v, by simp [List.lookup], ?_⟩, fun q => ?_⟩
      · simp [fget] at q; subst q; exact h2
      · simp [fget] at q
    · have ne : ¬ N.nm f = N.nm g := fun q => e (inj _ _ q).symm
      have hb : (N.nm f == N.nm g) = false := beq_eq_false_iff_ne.mpr ne
      have := RFs.lookup inj (f := f) h3
      simp only [List.lookup, hb, fget, if_neg e]
      exact this
theorem RFs.put (inj : ∀ f g, N.nm f = N.nm g → f = g) {f : Nat} {x : LV} {v : V} (hx : Rl K H ρ x v) : ∀ {fs : List (Nat × LV)} {vs : List (Str × V)}, RFs N K H ρ fs vs → RFs N K H ρ (fput f x fs) (putF (N.nm f) v vs)
  | [], _, h => by rw [show _ = [] from h]; exact ⟨v, [], rfl, hx, rfl⟩
  | (g, y) :: xs, _, ⟨w, r, h1, h2, h3⟩ => by
    rw [h1]
    unfold fput putF
    by_cases e : g = f
    · rw [if_pos e, if_pos (by rw [e])]
      exact ⟨v, r, rfl, hx, h3⟩
    · rw [if_neg e, if_neg (fun q => e (inj _ _ q))]
      exact ⟨w, _, rfl, h2, RFs.put inj hx h3⟩

/-! ### dicts -/
def dget (k : Key) (kvs : List (Key × LV)) : Option LV := (kvs.find? fun kv => decide (kv.1 = k)).map (·.2)
theorem RKs.get : ∀ {kvs : List (Key × LV)} {vs : List (Key × V)} {k : Key}, RKs K H ρ kvs vs →
    (∀ x, dget k kvs = some x → ∃ v, valV vs k = some v ∧ Rl K H ρ x v) ∧ (dget k kvs = none → valV vs k = none)
  | [], _, k, h => by rw [show _ = [] from h]; exact ⟨fun x e => by simp [dget] at e, fun _ => rfl⟩
  | (g, y) :: xs, _, k, ⟨v, r, h1, h2, h3⟩ => by
    rw [h1]
    by_cases e : g = k
    · subst e
      refine ⟨fun x q => ⟨v, by simp [valV], ?_⟩, fun q => ?_⟩
      · simp [dget] at q; subst q; exact h2
      · simp [dget] at q
    · have := RKs.get (k := k) h3
      unfold dget valV at this ⊢
      simp only [List.find?_cons, decide_eq_false e]
      exact this
end
end LG
end

section
set_option Elab.async false
set_option linter.all false
set_option maxRecDepth 100000
set_option maxHeartbeats 2000000
/-! LG2: the small language and what it computes. -/
namespace LG
open PySem PySem.Spec PyProof.Rows L2

/-- an exception: its class, its fields -/
structure LX where
  c : Nat
  fs : List (Nat × LV)
inductive Out (α : Type) where
  | ok (a : α) (L : LH) | err (x : LX) (L : LH) | bad
def Out.bind {α β : Type} (o : Out α) (k : α → LH → Out β) : Out β :=
  match o with
  | .ok a L => k a L
  | .err x L => .err x L
  | .bad => .bad
abbrev LSt := List (Option LV)

inductive B2 where | add | sub | mul | fdiv | mod | pow
  deriving DecidableEq
inductive C2 where | eq | ne | lt | le | gt | ge | isn | notn | inn | nin
  deriving DecidableEq
/-- built-in functions, methods of built-in types -/
inductive BF where | len | tuple | list | int | min | max | sum | any | all | str
  deriving DecidableEq
inductive BM where | lappend | lextend | lpop | lpopAt | linsert | lindex | dget1 | dget2
  deriving DecidableEq
inductive Ty where | int | bool | str | tuple | list | own (c : Nat)
  deriving DecidableEq
mutual
inductive LE where
  | var (i : Nat) | con (v : LV) | glo (i : Nat)
  | bin (o : B2) (a b : LE) | neg (a : LE) | cmp (o : C2) (a b : LE) | chn (o p : C2) (a b c : LE)
  | ands (es : LEs) | ors (es : LEs) | not (a : LE) | ite (c a b : LE)
  | tup (es : LEs) | lst (es : LEs) | dct0
  | idx (a i : LE) | slc (a lo hi : LE)
  | fld (a : LE) (f : Nat)
  | call (f : Nat) (es : LEs) | callk (f : Nat) (es : LEs) (ks : List Nat) (kes : LEs) | make (c : Nat) (es : LEs) | meth (a : LE) (m : Nat) (es : LEs)
  | bf (f : BF) (es : LEs) | bm (m : BM) (a : LE) (es : LEs)
  | isin (a : LE) (ts : List Ty)
  | gidx (g : Nat) (a : LE) | kget (g : Nat) (a d : LE)
  | comp (own : List Nat) (tg : LTg) (it : LI) (t : Option Unit) (cond elt : LE)
  | comp2 (own own1 : List Nat) (tg : LTg) (it : LI) (tg1 : LTg) (it1 : LI) (elt : LE)
inductive LEs where
  | nil | cons (e : LE) (es : LEs)
inductive LI where
  | seq (a : LE) | rng1 (a : LE) | rng2 (a b : LE)
inductive LTg where
  | name (i : Nat) | tup (is : List Nat)
end
def LEs.len : LEs → Nat
  | .nil => 0
  | .cons _ es => es.len + 1
mutual
inductive LS where
  | set (i : Nat) (e : LE) | setf (o : LE) (f : Nat) (e : LE) | seti (o i e : LE) | unp (is : List Nat) (e : LE) | par (i j : Nat) (a b : LE)
  | expr (e : LE) | ret (e : LE) | retN | ifs (c : LE) (a b : LSs) | while (c : LE) (b : LSs) | for (tg : LTg) (it : LI) (b : LSs) | fori (is : List Nat) (a : LE) (b : LSs)
  | pass | brk | cont | raise (c : Nat) (es : LEs) | never
inductive LSs where
  | nil | cons (s : LS) (ss : LSs)
end
inductive Fl where
  | nx | brk | cont | ret (v : LV)

/-! ### values -/
def tru (L : LH) : LV → Option Bool
  | .non => some false
  | .bl b => some b
  | .int i => some (i != 0)
  | .str x => if x.length ≤ sizeLine then some ((x.length : Int) != 0) else none
  | .tup xs => some (!xs.isEmpty)
  | .scr xs => some (!xs.isEmpty)
  | .ref a => match L.at_ a with
    | some (.lst xs) => some (!xs.isEmpty)
    | some (.dct xs) => some (!xs.isEmpty)
    | _ => none
mutual
def dat : LV → Option PyData
  | .non => some .none
  | .bl b => some (.bool b)
  | .int i => some (.int i)
  | .str x => some (.str x)
  | .tup xs => (dats xs).map .tuple
  | .scr xs => (dats xs).map .list
  | .ref _ => none
def dats : List LV → Option (List PyData)
  | [] => some []
  | x :: xs => (dat x).bind fun d => (dats xs).map fun ds => d :: ds
end
/-- a datum: a list may stand on top -/
def datL (L : LH) : LV → Option PyData
  | .ref a => match L.at_ a with
    | some (.lst xs) => (dats xs).map .list
    | _ => none
  | v => dat v
def eqD (L : LH) (x y : LV) : Option Bool :=
  match x, y with
  | .int i, .int j => some (decide (i = j))
  | .str i, .str j => some (decide (i = j))
  | .bl i, .bl j => some (decide (i = j))
  | x, y => (datL L x).bind fun d => (datL L y).bind fun e => if SeqAt.shaped d = true ∧ SeqAt.shaped e = true then some (PyData.eqv d e) else none
/-- the items of what may be walked, measured, indexed -/
def seqOf (L : LH) : LV → Option (List LV)
  | .tup xs => some xs
  | .scr xs => some xs
  | .ref a => match L.at_ a with
    | some (.lst xs) => some xs
    | _ => none
  | _ => none
def keyOf : LV → Option Key
  | .int i => some (.inl i)
  | .str x => some (.inr x)
  | _ => none
def flat : LV → Bool
  | .non => true
  | .bl _ => true
  | .int _ => true
  | .str _ => true
  | _ => false
def eqF : LV → LV → Bool
  | .non, .non => true
  | .bl a, .bl b => a == b
  | .bl a, .int b => (if a then 1 else 0) == b
  | .int a, .bl b => a == (if b then 1 else 0)
  | .int a, .int b => a == b
  | .str a, .str b => a == b
  | _, _ => false
def inF (L : LH) (x y : LV) : Option Bool :=
  match y with
  | .ref a => match L.at_ a with
    | some (.lst xs) => if flat x = true ∧ xs.all flat = true then some (xs.any fun z => eqF z x) else none
    | some (.dct kvs) => (keyOf x).map fun k => (dget k kvs).isSome
    | _ => none
  | .tup xs => if flat x = true ∧ xs.all flat = true then some (xs.any fun z => eqF z x) else none
  | .scr xs => if flat x = true ∧ xs.all flat = true then some (xs.any fun z => eqF z x) else none
  | _ => none
def cmpV (L : LH) : C2 → LV → LV → Option Bool
  | .eq, x, y => eqD L x y
  | .ne, x, y => (eqD L x y).map (!·)
  | .lt, .int i, .int j => some (decide (i < j))
  | .le, .int i, .int j => some (decide (i ≤ j))
  | .gt, .int i, .int j => some (decide (j < i))
  | .ge, .int i, .int j => some (decide (j ≤ i))
  | .isn, x, .non => match x with
    | .non => some true
    | _ => some false
  | .notn, x, .non => match x with
    | .non => some false
    | _ => some true
  | .inn, x, y => inF L x y
  | .nin, x, y => (inF L x y).map (!·)
  | _, _, _ => none
def binV (o : B2) (x y : LV) (L : LH) : Out LV :=
  match o, x, y with
  | .add, .int i, .int j => .ok (.int (i + j)) L
  | .sub, .int i, .int j => .ok (.int (i - j)) L
  | .mul, .int i, .int j => if (-(2 ^ 64) < i ∧ i < 2 ^ 64) ∨ (-(2 ^ 64) < j ∧ j < 2 ^ 64) then .ok (.int (i * j)) L else .bad
  | .fdiv, .int i, .int j => if 0 < j ∧ j < 1073741824 then .ok (.int (i / j)) L else .bad
  | .mod, .int i, .int j => if 0 < j then .ok (.int (i % j)) L else .bad
  | .pow, .int i, .int j => if 0 ≤ j ∧ j ≤ 1000000 ∧ i.natAbs < 2 ^ 64 then .ok (.int (i ^ j.toNat)) L else .bad
  | .add, .str i, .str j => if i.length + j.length ≤ sizeLine then .ok (.str (i ++ j)) L else .bad
  | .add, .tup xs, .tup ys => if xs.length + ys.length ≤ sizeLine then .ok (.tup (xs ++ ys)) L else .bad
  | .add, .ref a, .ref b => match L.at_ a, L.at_ b with
    | some (.lst xs), some (.lst ys) => if xs.length + ys.length ≤ sizeLine then .ok (.ref L.n) (L.new (.lst (xs ++ ys))) else .bad
    | _, _ => .bad
  | .mul, .ref a, .int k => match L.at_ a with
    | some (.lst xs) => if -(2 ^ 63) ≤ k ∧ k < 2 ^ 63 ∧ xs.length * k.toNat ≤ sizeLine then .ok (.ref L.n) (L.new (.lst (List.replicate k.toNat xs).flatten)) else .bad
    | _ => .bad
  | _, _, _ => .bad
def idxV (x i : LV) (L : LH) : Out LV :=
  match x, i with
  | .ref a, i => match L.at_ a with
    | some (.lst xs) => match i with
      | .int j => match atI xs j with
        | some v => .ok v L
        | none => .bad
      | _ => .bad
    | some (.dct kvs) => match keyOf i with
      | some k => match dget k kvs with
        | some v => .ok v L
        | none => .bad
      | none => .bad
    | _ => .bad
  | .tup xs, .int j => match atI xs j with
    | some v => .ok v L
    | none => .bad
  | .scr xs, .int j => match atI xs j with
    | some v => .ok v L
    | none => .bad
  | _, _ => .bad
def partV (v : LV) (L : LH) : Out (Option Int) := match v with
  | .int i => .ok (some i) L
  | _ => .bad
def cut {α : Type} (xs : List α) (lo hi : Option Int) : List α := (xs.drop (HT.sIx xs.length 0 lo)).take (HT.sIx xs.length xs.length hi - HT.sIx xs.length 0 lo)
def slcV (x : LV) (l h : Option Int) (L : LH) : Out LV :=
  match x with
  | .tup xs => .ok (.tup (cut xs l h)) L
  | .scr xs => .ok (.ref L.n) (L.new (.lst (cut xs l h)))
  | .ref a => match L.at_ a with
    | some (.lst xs) => .ok (.ref L.n) (L.new (.lst (cut xs l h)))
    | _ => .bad
  | _ => .bad
def isNon : LE → Bool
  | .con .non => true
  | _ => false
def dput (kvs : List (Key × LV)) (k : Key) (v : LV) : List (Key × LV) :=
  if (kvs.any fun kv => decide (kv.1 = k)) = true then kvs.map (fun kv => if kv.1 = k then (kv.1, v) else kv) else kvs ++ [(k, v)]
def isStr : LV → Option Str
  | .str x => some x
  | _ => none
def strsOf : List LV → Option (List Str)
  | [] => some []
  | x :: xs => (isStr x).bind fun y => (strsOf xs).map (y :: ·)
def idxS (x : Str) : List Str → Option Nat
  | [] => none
  | y :: ys => if y = x then some 0 else (idxS x ys).map (· + 1)
/-- (..).index(x): a tuple of texts of the module -/
def gidxV (g : Option LV) (x : LV) (L : LH) : Out LV :=
  match g, x with
  | some (.tup xs), .str y => match strsOf xs with
    | some ys => match idxS y ys with
      | some j => .ok (.int j) L
      | none => .bad
    | none => .bad
  | _, _ => .bad
def kgetV (g : Option (List (Str × LV))) (x d : LV) (L : LH) : Out LV :=
  match g, x with
  | some kvs, .str y => .ok ((kvs.lookup y).getD d) L
  | _, _ => .bad
def fldV (f : Nat) (x : LV) (L : LH) : Out LV :=
  match x with
  | .ref a => match L.at_ a with
    | some (.ins _ fs) => match fget f fs with
      | some v => .ok v L
      | none => .bad
    | _ => .bad
  | _ => .bad
def lstOf (L : LH) : LV → Option (List LV)
  | .scr xs => some xs
  | .ref a => match L.at_ a with
    | some (.lst xs) => some xs
    | _ => none
  | _ => none
def sumI : List LV → Option Int
  | [] => some 0
  | .int i :: r => (sumI r).map (i + ·)
  | _ => none
def bools : List LV → Option (List Bool)
  | [] => some []
  | .bl b :: r => (bools r).map (b :: ·)
  | _ => none
def bfV (f : BF) (vs : List LV) (L : LH) : Out LV :=
  match f, vs with
  | .len, [v] => match seqOf L v with
    | some xs => .ok (.int xs.length) L
    | none => match v with
      | .str x => if x.length ≤ sizeLine then .ok (.int x.length) L else .bad
      | _ => .bad
  | .tuple, [v] => match seqOf L v with
    | some xs => .ok (.tup xs) L
    | none => .bad
  | .list, [v] => match seqOf L v with
    | some xs => .ok (.ref L.n) (L.new (.lst xs))
    | none => .bad
  | .int, [.int i] => .ok (.int i) L
  | .int, [.bl b] => .ok (.int (if b then 1 else 0)) L
  | .min, [.int i, .int j] => .ok (.int (if j < i then j else i)) L
  | .max, [.int i, .int j] => .ok (.int (if j > i then j else i)) L
  | .sum, [v] => match lstOf L v with
    | some xs => match sumI xs with
      | some i => .ok (.int i) L
      | none => .bad
    | none => .bad
  | .any, [v] => match lstOf L v with
    | some xs => match bools xs with
      | some bs => .ok (.bl (bs.any id)) L
      | none => .bad
    | none => .bad
  | .all, [v] => match lstOf L v with
    | some xs => match bools xs with
      | some bs => .ok (.bl (bs.all id)) L
      | none => .bad
    | none => .bad
  | _, _ => .bad
/-- the first place of an item -/
def findF (x : LV) : List LV → Option Nat
  | [] => none
  | y :: ys => if eqF y x = true then some 0 else (findF x ys).map (· + 1)
def bmV (m : BM) (x : LV) (vs : List LV) (L : LH) : Out LV :=
  match m, x, vs with
  | .lappend, .ref a, [v] => match L.at_ a with
    | some (.lst xs) => if xs.length < sizeLine then .ok .non (L.put a (.lst (xs ++ [v]))) else .bad
    | _ => .bad
  | .lextend, .ref a, [v] => match L.at_ a, seqOf L v with
    | some (.lst xs), some ys => if xs.length + ys.length ≤ sizeLine then .ok .non (L.put a (.lst (xs ++ ys))) else .bad
    | _, _ => .bad
  | .lpop, .ref a, [] => match L.at_ a with
    | some (.lst xs) => match xs[xs.length - 1]? with
      | some v => .ok v (L.put a (.lst xs.dropLast))
      | none => .bad
    | _ => .bad
  | .lpopAt, .ref a, [.int i] => match L.at_ a with
    | some (.lst xs) => if -(2 ^ 63) ≤ i ∧ i < 2 ^ 63 then match seqIndex? i xs.length with
        | some k => match xs[k]? with
          | some v => .ok v (L.put a (.lst (xs.eraseIdx k)))
          | none => .bad
        | none => .bad
      else .bad
    | _ => .bad
  | .linsert, .ref a, [.int i, v] => match L.at_ a with
    | some (.lst xs) => if xs.length < sizeLine ∧ 0 ≤ i ∧ i < 2 ^ 63 then .ok .non (L.put a (.lst (xs.take i.toNat ++ [v] ++ xs.drop i.toNat))) else .bad
    | _ => .bad
  | .lindex, .ref a, [v] => match L.at_ a with
    | some (.lst xs) => if flat v = true ∧ xs.all flat = true then match findF v xs with
        | some j => .ok (.int j) L
        | none => .bad
      else .bad
    | _ => .bad
  | .dget1, .ref a, [k] => match L.at_ a, keyOf k with
    | some (.dct kvs), some k => .ok ((dget k kvs).getD .non) L
    | _, _ => .bad
  | .dget2, .ref a, [k, d] => match L.at_ a, keyOf k with
    | some (.dct kvs), some k => .ok ((dget k kvs).getD d) L
    | _, _ => .bad
  | _, _, _ => .bad
/-- isinstance: one class -/
def tyIs (L : LH) (v : LV) (t : Ty) : Option Bool :=
  match v, t with
  | .non, .own _ => none
  | .ref a, t => match L.at_ a, t with
    | some (.lst _), .list => some true
    | some (.lst _), .own _ => none
    | some (.lst _), _ => some false
    | _, _ => none
  | _, .own _ => none
  | .non, _ => some false
  | .bl _, .bool => some true
  | .bl _, .int => some true
  | .bl _, _ => some false
  | .int _, .int => some true
  | .int _, _ => some false
  | .str _, .str => some true
  | .str _, _ => some false
  | .tup _, .tuple => some true
  | .tup _, _ => some false
  | .scr _, .list => some true
  | .scr _, _ => some false
def tyAny (L : LH) (v : LV) : List Ty → Option Bool
  | [] => some false
  | t :: ts => match tyIs L v t with
    | some true => some true
    | some false => tyAny L v ts
    | none => none

/-! ### what is fixed: module constants, calls -/
structure Fn where
  glo : Nat → Option LV
  kd : Nat → Option (List (Str × LV))
  /-- a def by its number, its parameters' values in order -/
  call : Nat → List LV → LH → Out LV
  /-- a class's __init__, its methods -/
  init : Nat → Option Nat
  mth : Nat → Nat → Option Nat
  fld : Nat → Nat → Bool
  /-- how keywords and defaults fill the parameters: def, positional count, keyword names -/
  kw : Nat → Nat → List Nat → Option (List (Nat ⊕ Nat ⊕ LV))
  /-- whiles -/
  w : Nat
def wipeL (σ : LSt) : List Nat → LSt
  | [] => σ
  | v :: vs => (wipeL σ vs).set v none
def setAll : List Nat → List LV → LSt → LSt
  | i :: is, v :: vs, σ => setAll is vs (σ.set i (some v))
  | _, _, σ => σ
/-- a target takes a value -/
def tgt : LTg → LV → LSt → LH → Option LSt
  | .name i, v, σ, _ => some (σ.set i (some v))
  | .tup is, v, σ, L => match v with
    | .tup xs => if xs.length = is.length then some (setAll is xs σ) else none
    | _ => none
/-- what a loop walks: the items, and what must stay (the list at a) -/
inductive Src where
  | vals (xs : List LV) | lst (a : Nat) (xs : List LV)
def Src.items : Src → List LV
  | .vals xs => xs
  | .lst _ xs => xs
def keyL : Key → LV
  | .inl i => .int i
  | .inr x => .str x
def dctItems (kvs : List (Key × LV)) : List LV := kvs.map fun p => .tup [keyL p.1, p.2]
def LH.hide (L : LH) (a : Nat) : LH := ⟨L.n, fun b => if b = a then none else L.at_ b⟩
def srcOf (L : LH) : LV → Option Src
  | .tup xs => some (.vals xs)
  | .scr xs => some (.vals xs)
  | .ref a => match L.at_ a with
    | some (.lst xs) => some (.lst a xs)
    | _ => none
  | _ => none
def rngL (lo : Int) (n : Nat) : List LV := (List.range n).map fun i => LV.int (lo + (i : Nat))
def Keeps (L : LH) : Src → Prop
  | .vals _ => True
  | .lst a xs => L.at_ a = some (.lst xs)
open Classical in
noncomputable def forL (S : Src) (body : LV → LSt → LH → Out (Fl × LSt)) : List LV → LSt → LH → Out (Fl × LSt)
  | [], σ, L => if Keeps L S then .ok (.nx, σ) L else .bad
  | x :: xs, σ, L => if Keeps L S then (body x σ L).bind fun p L' => match p.1 with
      | .nx => forL S body xs p.2 L'
      | .cont => forL S body xs p.2 L'
      | .brk => .ok (.nx, p.2) L'
      | .ret v => .ok (.ret v, p.2) L'
    else .bad
def optT {α : Type} (t : Option Unit) (f : α) : Option α := match t with
  | none => none
  | some _ => some f
/-- a comprehension's turn: nothing, or an item -/
def compB (tg : LTg) (σ : LSt) (t : Option (LSt → LH → Out Bool)) (e : LSt → LH → Out LV) (x : LV) (L : LH) : Out (Option LV) :=
  match tgt tg x σ L with
  | none => .bad
  | some σ2 => match t with
    | none => (e σ2 L).bind fun v L3 => .ok (some v) L3
    | some c => (c σ2 L).bind fun b L3 => if b = true then (e σ2 L3).bind fun v L4 => .ok (some v) L4 else .ok none L3
open Classical in
/-- a comprehension's turns: D the new list -/
noncomputable def compL (S : Src) (D : Nat) (body : LV → LH → Out (Option LV)) : List LV → LH → Out Unit
  | [], L => if Keeps L S then .ok () L else .bad
  | x :: xs, L => if Keeps L S then (body x L).bind fun r L' => match r with
      | none => compL S D body xs L'
      | some v => match L'.at_ D with
        | some (.lst acc) => if acc.length < sizeLine then compL S D body xs (L'.put D (.lst (acc ++ [v]))) else .bad
        | _ => .bad
    else .bad
open Classical in
/-- two sources: the outer turns -/
noncomputable def comp2L (S : Src) (body : LV → LH → Out Unit) : List LV → LH → Out Unit
  | [], L => if Keeps L S then .ok () L else .bad
  | x :: xs, L => if Keeps L S then (body x L).bind fun _ L' => comp2L S body xs L' else .bad
noncomputable def comp2B (tg : LTg) (σ : LSt) (it1 : LSt → LH → Out Src) (D : Nat) (body : LSt → LV → LH → Out (Option LV)) (x : LV) (L : LH) : Out Unit :=
  match tgt tg x σ L with
  | none => .bad
  | some σ2 => (it1 σ2 L).bind fun S1 L3 => compL S1 D (body σ2) S1.items L3
noncomputable def whileL (c : LSt → LH → Out Bool) (body : LSt → LH → Out (Fl × LSt)) : Nat → LSt → LH → Out (Fl × LSt)
  | 0, _, _ => .bad
  | n + 1, σ, L => (c σ L).bind fun b L1 => if b = true then (body σ L1).bind fun p L' => match p.1 with
      | .nx => whileL c body n p.2 L'
      | .cont => whileL c body n p.2 L'
      | .brk => .ok (.nx, p.2) L'
      | .ret v => .ok (.ret v, p.2) L'
    else .ok (.nx, σ) L1
def ofOpt {α : Type} (o : Option α) (L : LH) : Out α := match o with
  | some a => .ok a L
  | none => .bad
/-- the arguments by position, by keyword, by default, in the parameters' order -/
def fill (vs zs : List LV) : List (Nat ⊕ Nat ⊕ LV) → Option (List LV)
  | [] => some []
  | .inl i :: r => (vs[i]?).bind fun v => (fill vs zs r).map (v :: ·)
  | .inr (.inl j) :: r => (zs[j]?).bind fun v => (fill vs zs r).map (v :: ·)
  | .inr (.inr v) :: r => (fill vs zs r).map (v :: ·)
def makeV (F : Fn) (c : Nat) (vs : List LV) (L : LH) : Out LV :=
  match F.init c with
  | some f => (F.call f (.ref L.n :: vs) (L.new (.ins c []))).bind fun v L' => match v with
    | .non => .ok (.ref L.n) L'
    | _ => .bad
  | none => .bad
/-- the receiver of a built-in type's method -/
def bmTy (L : LH) (m : BM) : LV → Bool
  | .ref a => match L.at_ a, m with
    | some (.dct _), .dget1 => true
    | some (.dct _), .dget2 => true
    | some (.lst _), .dget1 => false
    | some (.lst _), .dget2 => false
    | some (.lst _), _ => true
    | _, _ => false
  | _ => false
/-- the method that the receiver has (no field hides it) -/
def recvF (F : Fn) (L : LH) (m : Nat) : LV → Option Nat
  | .ref a => match L.at_ a with
    | some (.ins c fs) => if (fget m fs).isNone = true then F.mth c m else none
    | _ => none
  | _ => none

mutual
noncomputable def evE (F : Fn) : LE → LSt → LH → Out LV
  | .var i, σ, L => match σ[i]? with
    | some (some v) => .ok v L
    | _ => .bad
  | .con v, _, L => .ok v L
  | .glo i, _, L => ofOpt (F.glo i) L
  | .bin o a b, σ, L => (evE F a σ L).bind fun x L1 => (evE F b σ L1).bind fun y L2 => binV o x y L2
  | .neg a, σ, L => (evE F a σ L).bind fun x L1 => match x with
    | .int i => .ok (.int (-i)) L1
    | _ => .bad
  | .cmp o a b, σ, L => (evE F a σ L).bind fun x L1 => (evE F b σ L1).bind fun y L2 => (ofOpt (cmpV L2 o x y) L2).bind fun b L => .ok (.bl b) L
  | .chn o p a b c, σ, L => (evE F a σ L).bind fun x L1 => (evE F b σ L1).bind fun y L2 => (ofOpt (cmpV L2 o x y) L2).bind fun k L3 =>
      if k = true then (evE F c σ L3).bind fun z L4 => (ofOpt (cmpV L4 p y z) L4).bind fun b L => .ok (.bl b) L else .ok (.bl false) L3
  | .ands es, σ, L => evAnd F es σ L
  | .ors es, σ, L => evOr F es σ L
  | .not a, σ, L => (evE F a σ L).bind fun x L1 => match x with
    | .bl b => .ok (.bl (!b)) L1
    | _ => .bad
  | .ite c a b, σ, L => (evT F c σ L).bind fun k L1 => if k = true then evE F a σ L1 else evE F b σ L1
  | .tup es, σ, L => (evA F es σ L).bind fun vs L1 => if vs.length ≤ sizeLine then .ok (.tup vs) L1 else .bad
  | .lst es, σ, L => (evA F es σ L).bind fun vs L1 => if vs.length ≤ sizeLine then .ok (.ref L1.n) (L1.new (.lst vs)) else .bad
  | .dct0, _, L => .ok (.ref L.n) (L.new (.dct []))
  | .idx a i, σ, L => (evE F a σ L).bind fun x L1 => (evE F i σ L1).bind fun y L2 => idxV x y L2
  | .slc a l h, σ, L => (evE F a σ L).bind fun x L1 => (if isNon l = true then .ok none L1 else (evE F l σ L1).bind partV).bind fun y L2 => (if isNon h = true then .ok none L2 else (evE F h σ L2).bind partV).bind fun z L3 => slcV x y z L3
  | .fld a f, σ, L => (evE F a σ L).bind fun x L1 => fldV f x L1
  | .call f es, σ, L => (evA F es σ L).bind fun vs L1 => F.call f vs L1
  | .callk f es ks kes, σ, L => (evA F es σ L).bind fun vs L1 => (evA F kes σ L1).bind fun zs L2 =>
      match F.kw f vs.length ks with
      | some sl => match fill vs zs sl with
        | some ws => F.call f ws L2
        | none => .bad
      | none => .bad
  | .make c es, σ, L => (evA F es σ L).bind fun vs L1 => makeV F c vs L1
  | .meth a m es, σ, L => (evE F a σ L).bind fun x L1 => match recvF F L1 m x with
    | some f => (evA F es σ L1).bind fun vs L2 => F.call f (x :: vs) L2
    | none => .bad
  | .bf f es, σ, L => (evA F es σ L).bind fun vs L1 => bfV f vs L1
  | .bm m a es, σ, L => (evE F a σ L).bind fun x L1 => if bmTy L1 m x = true then (evA F es σ L1).bind fun vs L2 => bmV m x vs L2 else .bad
  | .isin a ts, σ, L => (evE F a σ L).bind fun x L1 => (ofOpt (tyAny L1 x ts) L1).bind fun b L => .ok (.bl b) L
  | .comp own tg it t c e, σ, L => (evI F it σ L).bind fun S L1 => (compL S L1.n (compB tg (wipeL σ own) (optT t (evT F c)) (evE F e)) S.items (L1.new (.lst []))).bind fun _ L2 => .ok (.ref L1.n) L2
  | .comp2 own own1 tg it tg1 it1 e, σ, L => (evI F it σ L).bind fun S L1 => (comp2L S (comp2B tg (wipeL σ own) (evI F it1) L1.n (fun σ2 => compB tg1 (wipeL σ2 own1) none (evE F e))) S.items (L1.new (.lst []))).bind fun _ L2 => .ok (.ref L1.n) L2
  | .gidx g a, σ, L => (evE F a σ L).bind fun x L1 => gidxV (F.glo g) x L1
  | .kget g a d, σ, L => (evE F a σ L).bind fun x L1 => (evE F d σ L1).bind fun y L2 => kgetV (F.kd g) x y L2
/-- a test -/
noncomputable def evT (F : Fn) : LE → LSt → LH → Out Bool
  | .not a, σ, L => (evT F a σ L).bind fun b L1 => .ok (!b) L1
  | .ands es, σ, L => evTA F es σ L
  | .ors es, σ, L => evTO F es σ L
  | .cmp o a b, σ, L => (evE F a σ L).bind fun x L1 => (evE F b σ L1).bind fun y L2 => ofOpt (cmpV L2 o x y) L2
  | .var i, σ, L => match σ[i]? with
    | some (some v) => ofOpt (tru L v) L
    | _ => .bad
  | .con v, _, L => ofOpt (tru L v) L
  | .chn o p a b c, σ, L => (evE F a σ L).bind fun x L1 => (evE F b σ L1).bind fun y L2 => (ofOpt (cmpV L2 o x y) L2).bind fun k L3 =>
      if k = true then (evE F c σ L3).bind fun z L4 => ofOpt (cmpV L4 p y z) L4 else .ok false L3
  | .fld a f, σ, L => (evE F a σ L).bind fun x L1 => (fldV f x L1).bind fun v L2 => ofOpt (tru L2 v) L2
  | .call f es, σ, L => (evA F es σ L).bind fun vs L1 => (F.call f vs L1).bind fun v L2 => ofOpt (tru L2 v) L2
  | .meth a m es, σ, L => (evE F a σ L).bind fun x L1 => match recvF F L1 m x with
    | some f => (evA F es σ L1).bind fun vs L2 => (F.call f (x :: vs) L2).bind fun v L3 => ofOpt (tru L3 v) L3
    | none => .bad
  | .bf f es, σ, L => (evA F es σ L).bind fun vs L1 => (bfV f vs L1).bind fun v L2 => ofOpt (tru L2 v) L2
  | .bm m a es, σ, L => (evE F a σ L).bind fun x L1 => if bmTy L1 m x = true then (evA F es σ L1).bind fun vs L2 => (bmV m x vs L2).bind fun v L3 => ofOpt (tru L3 v) L3 else .bad
  | .isin a ts, σ, L => (evE F a σ L).bind fun x L1 => ofOpt (tyAny L1 x ts) L1
  | .idx a i, σ, L => (evE F a σ L).bind fun x L1 => (evE F i σ L1).bind fun y L2 => (idxV x y L2).bind fun v L3 => ofOpt (tru L3 v) L3
  | _, _, _ => .bad
noncomputable def evA (F : Fn) : LEs → LSt → LH → Out (List LV)
  | .nil, _, L => .ok [] L
  | .cons e es, σ, L => (evE F e σ L).bind fun v L1 => (evA F es σ L1).bind fun vs L2 => .ok (v :: vs) L2
noncomputable def evAnd (F : Fn) : LEs → LSt → LH → Out LV
  | .nil, _, _ => .bad
  | .cons e .nil, σ, L => evE F e σ L
  | .cons e es, σ, L => (evE F e σ L).bind fun x L1 => match x with
    | .bl true => evAnd F es σ L1
    | .bl false => .ok (.bl false) L1
    | _ => .bad
noncomputable def evOr (F : Fn) : LEs → LSt → LH → Out LV
  | .nil, _, _ => .bad
  | .cons e .nil, σ, L => evE F e σ L
  | .cons e es, σ, L => (evE F e σ L).bind fun x L1 => match x with
    | .bl true => .ok (.bl true) L1
    | .bl false => evOr F es σ L1
    | _ => .bad
noncomputable def evTA (F : Fn) : LEs → LSt → LH → Out Bool
  | .nil, _, _ => .bad
  | .cons e .nil, σ, L => evT F e σ L
  | .cons e es, σ, L => (evT F e σ L).bind fun b L1 => if b = true then evTA F es σ L1 else .ok false L1
noncomputable def evTO (F : Fn) : LEs → LSt → LH → Out Bool
  | .nil, _, _ => .bad
  | .cons e .nil, σ, L => evT F e σ L
  | .cons e es, σ, L => (evT F e σ L).bind fun b L1 => if b = true then .ok true L1 else evTO F es σ L1
/-- what is walked -/
noncomputable def evI (F : Fn) : LI → LSt → LH → Out Src
  | .seq a, σ, L => (evE F a σ L).bind fun v L1 => ofOpt (srcOf L1 v) L1
  | .rng1 a, σ, L => (evE F a σ L).bind fun v L1 => match v with
    | .int j => if -(2 ^ 62) ≤ j ∧ j < 2 ^ 62 then .ok (.vals (rngL 0 j.toNat)) L1 else .bad
    | _ => .bad
  | .rng2 a b, σ, L => (evE F a σ L).bind fun v L1 => (evE F b σ L1).bind fun u L2 => match v, u with
    | .int i, .int j => if -(2 ^ 62) ≤ i ∧ i < 2 ^ 62 ∧ -(2 ^ 62) ≤ j ∧ j < 2 ^ 62 then .ok (.vals (rngL i (j - i).toNat)) L2 else .bad
    | _, _ => .bad
end
open Classical in
mutual
noncomputable def evS (F : Fn) : LS → LSt → LH → Out (Fl × LSt)
  | .set i e, σ, L => (evE F e σ L).bind fun v L1 => .ok (.nx, σ.set i (some v)) L1
  | .setf o f e, σ, L => (evE F e σ L).bind fun v L1 => (evE F o σ L1).bind fun x L2 => match x with
    | .ref a => match L2.at_ a with
      | some (.ins c fs) => if fs.length < 1000 ∧ F.fld c f = true then .ok (.nx, σ) (L2.put a (.ins c (fput f v fs))) else .bad
      | _ => .bad
    | _ => .bad
  | .seti o i e, σ, L => (evE F e σ L).bind fun v L1 => (evE F o σ L1).bind fun x L2 => (evE F i σ L2).bind fun y L3 => match x with
    | .ref a => match L3.at_ a with
      | some (.lst xs) => match y with
        | .int k => match ixN xs.length k with
          | some j => .ok (.nx, σ) (L3.put a (.lst (xs.set j v)))
          | none => .bad
        | _ => .bad
      | some (.dct kvs) => match keyOf y with
        | some k => if kvs.length < sizeLine then .ok (.nx, σ) (L3.put a (.dct (dput kvs k v))) else .bad
        | none => .bad
      | _ => .bad
    | _ => .bad
  | .unp is e, σ, L => (evE F e σ L).bind fun v L1 => (ofOpt (tgt (.tup is) v σ L1) L1).bind fun σ' L2 => .ok (.nx, σ') L2
  | .par i j a b, σ, L => (evE F a σ L).bind fun x L1 => (evE F b σ L1).bind fun y L2 => .ok (.nx, (σ.set i (some x)).set j (some y)) L2
  | .expr e, σ, L => (evE F e σ L).bind fun _ L1 => .ok (.nx, σ) L1
  | .ret e, σ, L => (evE F e σ L).bind fun v L1 => .ok (.ret v, σ) L1
  | .retN, σ, L => .ok (.ret .non, σ) L
  | .ifs c a b, σ, L => (evT F c σ L).bind fun k L1 => if k = true then evSs F a σ L1 else evSs F b σ L1
  | .while c b, σ, L => whileL (evT F c) (evSs F b) F.w σ L
  | .for tg it b, σ, L => (evI F it σ L).bind fun S L1 => forL S (fun x σ1 L2 => match tgt tg x σ1 L2 with
      | none => .bad
      | some σ2 => evSs F b σ2 L2) S.items σ L1
  | .fori is a b, σ, L => match evE F a σ L with
    | .ok (.ref i) _ => match L.at_ i with
      | some (.dct kvs) => if evE F a σ (L.hide i) = .ok (.ref i) (L.hide i) then
          (forL (.vals (dctItems kvs)) (fun x σ1 L2 => match tgt (.tup is) x σ1 L2 with
            | none => .bad
            | some σ2 => evSs F b σ2 L2) (dctItems kvs) σ (L.hide i)).bind fun p L' => .ok p (L'.put i (.dct kvs))
        else .bad
      | _ => .bad
    | _ => .bad
  | .pass, σ, L => .ok (.nx, σ) L
  | .brk, σ, L => .ok (.brk, σ) L
  | .cont, σ, L => .ok (.cont, σ) L
  | .raise _ _, _, _ => .bad
  | .never, _, _ => .bad
noncomputable def evSs (F : Fn) : LSs → LSt → LH → Out (Fl × LSt)
  | .nil, σ, L => .ok (.nx, σ) L
  | .cons s ss, σ, L => (evS F s σ L).bind fun p L1 => match p.1 with
    | .nx => evSs F ss p.2 L1
    | f => .ok (f, p.2) L1
end

/-! ### a program -/
structure FD where
  np : Nat
  ns : Nat
  body : LSs
structure Pg where
  fns : Nat → Option FD
  glo : Nat → Option LV
  kd : Nat → Option (List (Str × LV))
  init : Nat → Option Nat
  mth : Nat → Nat → Option Nat
  fld : Nat → Nat → Bool
  kw : Nat → Nat → List Nat → Option (List (Nat ⊕ Nat ⊕ LV))
  w : Nat
noncomputable def run (P : Pg) : Nat → Nat → List LV → LH → Out LV
  | 0, _, _, _ => .bad
  | k + 1, f, vs, L => match P.fns f with
    | none => .bad
    | some d => if vs.length = d.np then
        (evSs ⟨P.glo, P.kd, run P k, P.init, P.mth, P.fld, P.kw, P.w⟩ d.body (vs.map some ++ List.replicate (d.ns - d.np) none) L).bind fun p L1 => match p.1 with
          | .nx => .ok .non L1
          | .ret v => .ok v L1
          | _ => .bad
      else .bad
end LG
end

section
set_option Elab.async false
set_option linter.all false
set_option maxRecDepth 100000
set_option maxHeartbeats 2000000
/-! LG3: the operators' rules over the logical heap. -/
namespace LG
open PySem PySem.Spec PyProof.Rows L2

section
variable {N : Na} {K : PySem.W.Frag} {H H' : Hp} {ρ ρ' : Rho} {L L' : LH}
/-- what is wanted behind a computation -/
def Post {α β : Type} (N : Na) (K : PySem.W.Frag) (R : Hp → Rho → α → β → Prop) (o : Out α) (H : Hp) (ρ : Rho) (Q : β → Hp → Prop) : Prop :=
  match o with
  | .ok a L' => ∀ H' ρ' b, Sty H H' → Ex ρ ρ' → Rep N K H' L' ρ' → R H' ρ' a b → Q b H'
  | _ => False
abbrev PostV (N : Na) (K : PySem.W.Frag) := Post N K (fun H ρ => Rl K H ρ)
abbrev PostB (N : Na) (K : PySem.W.Frag) := Post N K (fun (_ : Hp) (_ : Rho) (a b : Bool) => a = b)
abbrev PostA (N : Na) (K : PySem.W.Frag) := Post N K (fun H ρ => Rls K H ρ)
theorem Post.mono {α β : Type} {R : Hp → Rho → α → β → Prop} {o : Out α} {Q : β → Hp → Prop} (s : Sty H H') (e : Ex ρ ρ') (h : Post N K R o H ρ Q) : Post N K R o H' ρ' Q := by
  cases o with
  | ok a L' => exact fun H2 ρ2 b s2 e2 => h H2 ρ2 b (s.trans s2) (e.trans e2)
  | err x L' => exact h
  | bad => exact h
theorem Post.imp {α β : Type} {R : Hp → Rho → α → β → Prop} {o : Out α} {Q Q' : β → Hp → Prop} (h : Post N K R o H ρ Q) (q : ∀ b H, Q b H → Q' b H) : Post N K R o H ρ Q' := by
  cases o with
  | ok a L' => exact fun H2 ρ2 b s2 e2 r2 rb => q _ _ (h H2 ρ2 b s2 e2 r2 rb)
  | err x L' => exact h
  | bad => exact h
/-- nothing is laid -/
theorem Post.here {α β : Type} {R : Hp → Rho → α → β → Prop} {a : α} {b : β} {Q : β → Hp → Prop} (rep : Rep N K H L ρ) (r : R H ρ a b) (h : Post N K R (.ok a L) H ρ Q) : Q b H := h H ρ b (Sty.refl _) (Ex.refl _) rep r

/-! ### flat values -/
def toF : LV → V
  | .non => .non
  | .bl b => .bl b
  | .int i => .int i
  | .str x => .str x
  | _ => .non
theorem flat_rl {x : LV} {v : V} (h : flat x = true) (r : Rl K H ρ x v) : v = toF x := by
  cases x <;> first | (simp [flat] at h; done) | (first | exact Rl.non.mp r | exact Rl.bl.mp r | exact Rl.int.mp r | exact Rl.str.mp r)
theorem flat_toF {x : LV} (h : flat x = true) : flatV (toF x) = true := by
  cases x <;> first | rfl | (simp [flat] at h; done)
theorem eqF_toF {x y : LV} (h : flat x = true) (g : flat y = true) : eqV (toF x) (toF y) = eqF x y := by
  cases x <;> cases y <;> first | rfl | (simp [flat] at h; done) | (simp [flat] at g; done)
theorem flats_rl : ∀ {xs : List LV} {vs : List V}, xs.all flat = true → Rls K H ρ xs vs → vs = xs.map toF
  | [], _, _, r => Rls.nil.mp r
  | x :: xs, _, h, r => by
    obtain ⟨v, q, rfl, r1, r2⟩ := Rls.cons.mp r
    simp only [List.all_cons, Bool.and_eq_true] at h
    rw [flat_rl h.1 r1, flats_rl h.2 r2]
    rfl
theorem flats_all : ∀ {xs : List LV}, xs.all flat = true → (xs.map toF).all flatV = true
  | [], _ => rfl
  | x :: xs, h => by
    simp only [List.all_cons, Bool.and_eq_true] at h
    simp only [List.map_cons, List.all_cons, Bool.and_eq_true]
    exact ⟨flat_toF h.1, flats_all h.2⟩
theorem inV_toF {x : LV} (hx : flat x = true) : ∀ {xs : List LV}, xs.all flat = true → inV (toF x) (xs.map toF) = xs.any fun z => eqF z x
  | [], _ => rfl
  | y :: ys, h => by
    simp only [List.all_cons, Bool.and_eq_true] at h
    have := inV_toF hx h.2
    unfold inV at this ⊢
    simp only [List.map_cons, List.any_cons, this, eqF_toF h.1 hx]
/-! ### data -/
mutual
theorem dat_dp : ∀ (x : LV) (d : PyData) (v : V), dat x = some d → Rl K H ρ x v → Dp K H v d
  | .non, d, v, h, r => by simp only [dat, Option.some.injEq] at h; subst h; rw [Rl.non.mp r]; exact .non
  | .bl b, d, v, h, r => by simp only [dat, Option.some.injEq] at h; subst h; rw [Rl.bl.mp r]; exact .bl b
  | .int i, d, v, h, r => by simp only [dat, Option.some.injEq] at h; subst h; rw [Rl.int.mp r]; exact .int i
  | .str x, d, v, h, r => by simp only [dat, Option.some.injEq] at h; subst h; rw [Rl.str.mp r]; exact .str x
  | .ref i, d, v, h, r => by simp [dat] at h
  | .tup xs, d, v, h, r => by
    obtain ⟨a, vs, rfl, h1, h2⟩ := Rl.tup.mp r
    simp only [dat] at h
    cases e : dats xs with
    | none => rw [e] at h; simp at h
    | some ds =>
      rw [e] at h
      simp only [Option.map_some, Option.some.injEq] at h
      subst h
      exact .tup h1 (dats_dp xs ds vs e h2)
  | .scr xs, d, v, h, r => by
    obtain ⟨a, vs, rfl, h1, h2⟩ := Rl.scr.mp r
    simp only [dat] at h
    cases e : dats xs with
    | none => rw [e] at h; simp at h
    | some ds =>
      rw [e] at h
      simp only [Option.map_some, Option.some.injEq] at h
      subst h
      exact .lst h1.sq (dats_dp xs ds vs e h2)
theorem dats_dp : ∀ (xs : List LV) (ds : List PyData) (vs : List V), dats xs = some ds → Rls K H ρ xs vs → DpAll K H vs ds
  | [], ds, vs, h, r => by simp only [dats, Option.some.injEq] at h; subst h; rw [Rls.nil.mp r]; exact .nil
  | x :: xs, ds, vs, h, r => by
    obtain ⟨v, q, rfl, r1, r2⟩ := Rls.cons.mp r
    simp only [dats] at h
    cases e : dat x with
    | none => rw [e] at h; simp at h
    | some d =>
      cases e2 : dats xs with
      | none => rw [e, e2] at h; simp at h
      | some es =>
        rw [e, e2] at h
        simp only [Option.bind_some, Option.map_some, Option.some.injEq] at h
        subst h
        exact .cons (dat_dp x d v e r1) (dats_dp xs es q e2 r2)
end
theorem datL_dp {x : LV} {d : PyData} {v : V} (R : Rep N K H L ρ) (h : datL L x = some d) (r : Rl K H ρ x v) : Dp K H v d := by
  cases x with
  | ref i =>
    simp only [datL] at h
    obtain ⟨a, h1, rfl⟩ := Rl.ref.mp r
    split at h
    · rename_i xs e
      obtain ⟨b, vs, h2, h3, h4⟩ := R.lst e
      rw [h1] at h2
      cases h2
      cases e2 : dats xs with
      | none => rw [e2] at h; simp at h
      | some ds =>
        rw [e2] at h
        simp only [Option.map_some, Option.some.injEq] at h
        subst h
        exact .lst (.inl (.inl h3)) (dats_dp xs ds vs e2 h4)
    · cases h
  | _ => exact dat_dp _ d v h r
/-- what may be walked -/
theorem seqOf_sq {x : LV} {xs : List LV} {v : V} (R : Rep N K H L ρ) (h : seqOf L x = some xs) (r : Rl K H ρ x v) : ∃ a vs, v = .ref a ∧ (SqL K H a vs ∨ SqT K H a vs) ∧ Rls K H ρ xs vs := by
  cases x with
  | tup ys =>
    simp only [seqOf, Option.some.injEq] at h
    subst h
    obtain ⟨a, vs, rfl, h1, h2⟩ := Rl.tup.mp r
    exact ⟨a, vs, rfl, .inr h1, h2⟩
  | scr ys =>
    simp only [seqOf, Option.some.injEq] at h
    subst h
    obtain ⟨a, vs, rfl, h1, h2⟩ := Rl.scr.mp r
    exact ⟨a, vs, rfl, .inl h1.sq, h2⟩
  | ref i =>
    simp only [seqOf] at h
    obtain ⟨a, h1, rfl⟩ := Rl.ref.mp r
    split at h
    · rename_i ys e
      cases h
      obtain ⟨b, vs, h2, h3, h4⟩ := R.lst e
      rw [h1] at h2
      cases h2
      exact ⟨a, vs, rfl, .inl (.inl (.inl h3)), h4⟩
    · cases h
  | _ => simp [seqOf] at h
theorem keyOf_kV {x : LV} {k : Key} {v : V} (h : keyOf x = some k) (r : Rl K H ρ x v) : v = kV k := by
  cases x with
  | int i => simp only [keyOf, Option.some.injEq] at h; subst h; exact Rl.int.mp r
  | str y => simp only [keyOf, Option.some.injEq] at h; subst h; exact Rl.str.mp r
  | _ => simp [keyOf] at h
theorem keyRel {k : Key} : Rl K H ρ (keyL k) (kV k) := by
  cases k with
  | inl i => exact Rl.int.mpr rfl
  | inr x => exact Rl.str.mpr rfl
theorem scal_eq {x y : LV} {v u : V} (rx : Rl K H ρ x v) (ry : Rl K H ρ y u) : True := trivial
end

/-! ### operators -/
/-- the reading of an operator by its logical value -/
def rBin (N : Na) (K : PySem.W.Frag) (f : LV → LV → LH → Out LV) : R2 := fun x y H Q => ∃ lx ly L ρ, Rep N K H L ρ ∧ Rl K H ρ lx x ∧ Rl K H ρ ly y ∧ PostV N K (f lx ly L) H ρ Q
section
variable {N : Na} {X : Cx}
/-- a new list -/
theorem Post.newL {K : PySem.W.Frag} {H : Hp} {ρ : Rho} {L : LH} {xs : List LV} {vs : List V} {Q : VK} (R : Rep N K H L ρ) (r : Rls K H ρ xs vs) (h : PostV N K (.ok (.ref L.n) (L.new (.lst xs))) H ρ Q) :
    ∀ p, H p = none → Q (.ref p) (upd H p (.lst vs)) := fun p hp =>
  h _ _ _ (Sty.new hp) (R.exNew p) (R.new hp (fun z => z) ⟨vs, upd_same, Rls.mono (Sty.new hp) (R.exNew p) _ _ r⟩) (Rl.ref.mpr ⟨p, rhoNew_self, rfl⟩)
theorem Post.newT {K : PySem.W.Frag} {H : Hp} {ρ : Rho} {L : LH} {xs : List LV} {vs : List V} {Q : VK} (R : Rep N K H L ρ) (r : Rls K H ρ xs vs) (h : PostV N K (.ok (.tup xs) L) H ρ Q) :
    ∀ p, H p = none → Q (.ref p) (upd H p (.tup vs)) := fun p hp =>
  h _ _ _ (Sty.new hp) (Ex.refl _) (R.laid hp) (Rl.tup.mpr ⟨p, vs, rfl, .inl (.inl upd_same), Rls.mono (Sty.new hp) (Ex.refl _) _ _ r⟩)
theorem Post.oldT {K : PySem.W.Frag} {H : Hp} {ρ : Rho} {L : LH} {xs : List LV} {vs : List V} {a : Addr} {Q : VK} (R : Rep N K H L ρ) (s : SqT K H a vs) (r : Rls K H ρ xs vs) (h : PostV N K (.ok (.tup xs) L) H ρ Q) : Q (.ref a) H :=
  h.here R (Rl.tup.mpr ⟨a, vs, rfl, s, r⟩)
/-- a changed list -/
theorem Post.putL {K : PySem.W.Frag} {H : Hp} {ρ : Rho} {L : LH} {i : Nat} {a : Addr} {o0 : LO} {xs : List LV} {vs : List V} {r : LV} {v : V} {Q : VK} (R : Rep N K H L ρ) (hi : ρ i = some a) (hl : L.at_ i = some o0) (rx : Rls K H ρ xs vs) (rv : Rl K H ρ r v)
    (h : PostV N K (.ok r (L.put i (.lst xs))) H ρ Q) : Q v (upd H a (.lst vs)) :=
  have S := R.styPut (u := .lst vs) hi hl
  h _ _ _ S (Ex.refl _) (R.put hi hl (fun z => z) ⟨vs, upd_same, Rls.mono S (Ex.refl _) _ _ rx⟩) (Rl.mono S (Ex.refl _) _ _ rv)
def bop : B2 → Operator
  | .add => .Add | .sub => .Sub | .mul => .Mult | .fdiv => .FloorDiv | .mod => .Mod | .pow => .Pow
theorem op_binV (o : B2) : OpR X (binaryOp (bop o)) (rBin N X.K (binV o)) := by
  intro pins s σ H x y v u Q I rx ry h
  obtain ⟨lx, ly, L, ρ, R, rlx, rly, p⟩ := h
  unfold binV at p
  split at p
  · cases Rl.int.mp rlx; cases Rl.int.mp rly
    exact op_add pins s σ H _ _ v u Q I rx ry ⟨_, _, rfl, rfl, p.here R (Rl.int.mpr rfl)⟩
  · cases Rl.int.mp rlx; cases Rl.int.mp rly
    exact op_sub pins s σ H _ _ v u Q I rx ry ⟨_, _, rfl, rfl, p.here R (Rl.int.mpr rfl)⟩
  · cases Rl.int.mp rlx; cases Rl.int.mp rly
    split at p
    · rename_i hc
      exact op_mul pins s σ H _ _ v u Q I rx ry ⟨_, _, rfl, rfl, hc, p.here R (Rl.int.mpr rfl)⟩
    · exact p.elim
  · cases Rl.int.mp rlx; cases Rl.int.mp rly
    split at p
    · rename_i hc
      exact op_fdiv pins s σ H _ _ v u Q I rx ry ⟨_, _, rfl, rfl, hc, p.here R (Rl.int.mpr rfl)⟩
    · exact p.elim
  · cases Rl.int.mp rlx; cases Rl.int.mp rly
    split at p
    · rename_i hc
      exact op_mod pins s σ H _ _ v u Q I rx ry ⟨_, _, rfl, rfl, hc, p.here R (Rl.int.mpr rfl)⟩
    · exact p.elim
  · cases Rl.int.mp rlx; cases Rl.int.mp rly
    split at p
    · rename_i hc
      exact op_pow pins s σ H _ _ v u Q I rx ry ⟨_, _, rfl, rfl, hc, p.here R (Rl.int.mpr rfl)⟩
    · exact p.elim
  · cases Rl.str.mp rlx; cases Rl.str.mp rly
    split at p
    · rename_i hc
      exact op_add_str pins s σ H _ _ v u Q I rx ry ⟨_, _, rfl, rfl, hc, p.here R (Rl.str.mpr rfl)⟩
    · exact p.elim
  · obtain ⟨a, vs, rfl, s1, r1⟩ := Rl.tup.mp rlx
    obtain ⟨b, ws, rfl, s2, r2⟩ := Rl.tup.mp rly
    split at p
    · rename_i hc
      rw [r1.length, r2.length] at hc
      refine op_catA pins s σ H _ _ v u Q I rx ry ⟨a, b, vs, ws, rfl, rfl, s1, s2, hc, fun e => ?_, fun _ e => ?_, fun _ _ => Post.newT R (Rls.append r1 r2) p⟩
      · subst e
        have : (_ : List LV) = [] := List.eq_nil_of_length_eq_zero r1.length
        subst this
        exact Post.oldT R s2 (by simpa using r2) p
      · subst e
        have : (_ : List LV) = [] := List.eq_nil_of_length_eq_zero r2.length
        subst this
        exact Post.oldT R s1 (by simpa using r1) p
    · exact p.elim
  · obtain ⟨a, h1, rfl⟩ := Rl.ref.mp rlx
    obtain ⟨b, h2, rfl⟩ := Rl.ref.mp rly
    split at p
    · rename_i e1 e2
      obtain ⟨a', vs, q1, q2, q3⟩ := R.lst e1
      obtain ⟨b', ws, t1, t2, t3⟩ := R.lst e2
      rw [h1] at q1; cases q1
      rw [h2] at t1; cases t1
      split at p
      · rename_i hc
        rw [q3.length, t3.length] at hc
        exact op_cat pins s σ H _ _ v u Q I rx ry ⟨a, b, vs, ws, rfl, rfl, q2, t2, hc, Post.newL R (Rls.append q3 t3) p⟩
      · exact p.elim
    · exact p.elim
  · obtain ⟨a, h1, rfl⟩ := Rl.ref.mp rlx
    cases Rl.int.mp rly
    split at p
    · rename_i e1
      obtain ⟨a', vs, q1, q2, q3⟩ := R.lst e1
      rw [h1] at q1; cases q1
      split at p
      · rename_i hc
        rw [q3.length] at hc
        exact op_rep pins s σ H _ _ v u Q I rx ry ⟨a, _, vs, rfl, rfl, q2, hc.1, hc.2.1, hc.2.2, Post.newL R (Rls.replicate q3 _) p⟩
      · exact p.elim
    · exact p.elim
  · exact p.elim
/-! ### comparisons -/
def rCmp (N : Na) (K : PySem.W.Frag) (o : C2) : R2 := fun x y H Q => ∃ lx ly L ρ b, Rep N K H L ρ ∧ Rl K H ρ lx x ∧ Rl K H ρ ly y ∧ cmpV L o lx ly = some b ∧ Q (.bl b) H
def cop : C2 → CmpOp
  | .eq => .Eq | .ne => .NotEq | .lt => .Lt | .le => .LtE | .gt => .Gt | .ge => .GtE | .isn => .Is | .notn => .IsNot | .inn => .In | .nin => .NotIn
theorem eqD_ok (neg : Bool) (hu : X.A.units + 64 < cLine) : OpR X (compareOp (if neg = true then .NotEq else .Eq)) (fun x y H Q => ∃ lx ly L ρ b, Rep N X.K H L ρ ∧ Rl X.K H ρ lx x ∧ Rl X.K H ρ ly y ∧ eqD L lx ly = some b ∧ Q (.bl (if neg = true then !b else b)) H) := by
  intro pins s σ H x y v u Q I rx ry h
  obtain ⟨lx, ly, L, ρ, b, R, rlx, rly, e, q⟩ := h
  have scalar : scal x y = true → b = decide (x = y) → wpAny (model X.prog X.w) X.A (compareOp (if neg = true then .NotEq else .Eq) v u) (EP X pins σ Q) X.xe s := fun hs hb => by
    subst hb
    cases neg with
    | true => exact op_ne pins s σ H _ _ v u Q I rx ry ⟨hs, q⟩
    | false => exact op_eq pins s σ H _ _ v u Q I rx ry ⟨hs, q⟩
  unfold eqD at e
  split at e
  · cases Rl.int.mp rlx; cases Rl.int.mp rly
    cases e
    refine scalar rfl ?_
    simp
  · cases Rl.str.mp rlx; cases Rl.str.mp rly
    cases e
    refine scalar rfl ?_
    simp
  · cases Rl.bl.mp rlx; cases Rl.bl.mp rly
    cases e
    refine scalar rfl ?_
    simp
  · cases e1 : datL L lx with
    | none => rw [e1] at e; simp at e
    | some d =>
      cases e2 : datL L ly with
      | none => rw [e1, e2] at e; simp at e
      | some d' =>
        rw [e1, e2] at e
        simp only [Option.bind_some] at e
        split at e
        · rename_i hs
          cases e
          cases neg with
          | true => exact op_neD hu pins s σ H _ _ v u Q I rx ry ⟨d, d', datL_dp R e1 rlx, datL_dp R e2 rly, hs.1, hs.2, q⟩
          | false => exact op_eqD hu pins s σ H _ _ v u Q I rx ry ⟨d, d', datL_dp R e1 rlx, datL_dp R e2 rly, hs.1, hs.2, q⟩
        · cases e
theorem inF_ok (neg : Bool) (hu : X.A.units + 64 < cLine) : OpR X (compareOp (if neg = true then .NotIn else .In)) (fun x y H Q => ∃ lx ly L ρ b, Rep N X.K H L ρ ∧ Rl X.K H ρ lx x ∧ Rl X.K H ρ ly y ∧ inF L lx ly = some b ∧ Q (.bl (if neg = true then !b else b)) H) := by
  intro pins s σ H x y v u Q I rx ry h
  obtain ⟨lx, ly, L, ρ, b, R, rlx, rly, e, q⟩ := h
  have sq : ∀ (a : Addr) (xs : List LV) (vs : List V), y = .ref a → (SqL X.K H a vs ∨ SqT X.K H a vs) → Rls X.K H ρ xs vs → (if flat lx = true ∧ xs.all flat = true then some (xs.any fun z => eqF z lx) else none) = some b →
      wpAny (model X.prog X.w) X.A (compareOp (if neg = true then .NotIn else .In) v u) (EP X pins σ Q) X.xe s := fun a xs vs ey hs hr e => by
    subst ey
    split at e
    · rename_i hf
      cases e
      have ex := flat_rl hf.1 rlx
      have ev := flats_rl hf.2 hr
      subst ex ev
      have f1 := flat_toF hf.1
      have f2 := flats_all hf.2
      have f3 := inV_toF hf.1 hf.2
      cases neg with
      | true => exact op_notIn_seq pins s σ H _ _ v u Q I rx ry ⟨a, _, rfl, hs, f1, f2, by simpa [f3] using q⟩
      | false => exact op_in_seq pins s σ H _ _ v u Q I rx ry ⟨a, _, rfl, hs, f1, f2, by simpa [f3] using q⟩
    · cases e
  unfold inF at e
  split at e
  · obtain ⟨a, h1, rfl⟩ := Rl.ref.mp rly
    split at e
    · rename_i xs e1
      obtain ⟨a', vs, q1, q2, q3⟩ := R.lst e1
      rw [h1] at q1; cases q1
      exact sq a xs vs rfl (.inl (.inl (.inl q2))) q3 e
    · rename_i kvs e1
      obtain ⟨a', vs, q1, q2, q3⟩ := R.dct e1
      rw [h1] at q1; cases q1
      cases ek : keyOf lx with
      | none => rw [ek] at e; simp at e
      | some k =>
        rw [ek] at e
        simp only [Option.map_some, Option.some.injEq] at e
        have ex := keyOf_kV ek rlx
        subst ex
        have g : DGet H a (kV k) (valV vs k) := DGet.k q2
        have eb : (valV vs k).isSome = b := by
          have := q3.get (k := k)
          cases ed : dget k kvs with
          | none => rw [this.2 ed]; rw [ed] at e; exact e
          | some z => obtain ⟨w, hw, _⟩ := this.1 z ed; rw [hw]; rw [ed] at e; exact e
        cases ry
        cases neg with
        | true => exact d_notIn (by omega) I g rx fun s' I' => ⟨.bl (!(valV vs k).isSome), H, I', rfl, by rw [eb]; exact q⟩
        | false => exact d_in (by omega) I g rx fun s' I' => ⟨.bl (valV vs k).isSome, H, I', rfl, by rw [eb]; exact q⟩
    · cases e
  · obtain ⟨a, vs, rfl, s1, r1⟩ := Rl.tup.mp rly
    exact sq a _ vs rfl (.inr s1) r1 e
  · obtain ⟨a, vs, rfl, s1, r1⟩ := Rl.scr.mp rly
    exact sq a _ vs rfl (.inl s1.sq) r1 e
  · cases e
theorem op_cmpV (o : C2) (hu : X.A.units + 64 < cLine) : OpR X (compareOp (cop o)) (rCmp N X.K o) := by
  intro pins s σ H x y v u Q I rx ry h
  obtain ⟨lx, ly, L, ρ, b, R, rlx, rly, e, q⟩ := h
  unfold cmpV at e
  split at e
  · exact eqD_ok false hu pins s σ H _ _ v u Q I rx ry ⟨lx, ly, L, ρ, b, R, rlx, rly, e, q⟩
  · cases e1 : eqD L lx ly with
    | none => rw [e1] at e; simp at e
    | some c =>
      rw [e1] at e
      simp only [Option.map_some, Option.some.injEq] at e
      subst e
      exact eqD_ok true hu pins s σ H _ _ v u Q I rx ry ⟨lx, ly, L, ρ, c, R, rlx, rly, e1, q⟩
  · cases Rl.int.mp rlx; cases Rl.int.mp rly; cases e
    exact op_lt pins s σ H _ _ v u Q I rx ry ⟨_, _, rfl, rfl, q⟩
  · cases Rl.int.mp rlx; cases Rl.int.mp rly; cases e
    exact op_le pins s σ H _ _ v u Q I rx ry ⟨_, _, rfl, rfl, q⟩
  · cases Rl.int.mp rlx; cases Rl.int.mp rly; cases e
    exact op_gt pins s σ H _ _ v u Q I rx ry ⟨_, _, rfl, rfl, q⟩
  · cases Rl.int.mp rlx; cases Rl.int.mp rly; cases e
    exact op_ge pins s σ H _ _ v u Q I rx ry ⟨_, _, rfl, rfl, q⟩
  · cases Rl.non.mp rly
    refine op_isN pins s σ H _ _ v u Q I rx ry ⟨rfl, ?_⟩
    have : b = decide (x = V.non) := by
      cases lx <;> simp only [Option.some.injEq] at e <;> subst e
      · rw [Rl.non.mp rlx]; rfl
      · rw [Rl.bl.mp rlx]; rfl
      · rw [Rl.int.mp rlx]; rfl
      · rw [Rl.str.mp rlx]; rfl
      · obtain ⟨a, vs, rfl, _⟩ := Rl.tup.mp rlx; rfl
      · obtain ⟨a, _, rfl⟩ := Rl.ref.mp rlx; rfl
      · obtain ⟨a, vs, rfl, _⟩ := Rl.scr.mp rlx; rfl
    rw [← this]; exact q
  · cases Rl.non.mp rly
    refine op_notN pins s σ H _ _ v u Q I rx ry ⟨rfl, ?_⟩
    have : b = !decide (x = V.non) := by
      cases lx <;> simp only [Option.some.injEq] at e <;> subst e
      · rw [Rl.non.mp rlx]; rfl
      · rw [Rl.bl.mp rlx]; rfl
      · rw [Rl.int.mp rlx]; rfl
      · rw [Rl.str.mp rlx]; rfl
      · obtain ⟨a, vs, rfl, _⟩ := Rl.tup.mp rlx; rfl
      · obtain ⟨a, _, rfl⟩ := Rl.ref.mp rlx; rfl
      · obtain ⟨a, vs, rfl, _⟩ := Rl.scr.mp rlx; rfl
    rw [← this]; exact q
  · exact inF_ok false hu pins s σ H _ _ v u Q I rx ry ⟨lx, ly, L, ρ, b, R, rlx, rly, e, q⟩
  · cases e1 : inF L lx ly with
    | none => rw [e1] at e; simp at e
    | some c =>
      rw [e1] at e
      simp only [Option.map_some, Option.some.injEq] at e
      subst e
      exact inF_ok true hu pins s σ H _ _ v u Q I rx ry ⟨lx, ly, L, ρ, c, R, rlx, rly, e1, q⟩
  · cases e
/-! ### subscripts, slices -/
theorem atI_rel {K : PySem.W.Frag} {H : Hp} {ρ : Rho} {xs : List LV} {vs : List V} {i : Int} {x : LV} (r : Rls K H ρ xs vs) (h : atI xs i = some x) : ∃ v, atI vs i = some v ∧ Rl K H ρ x v := by
  unfold atI at h ⊢
  rw [r.length] at h
  cases e : ixN vs.length i with
  | none => rw [e] at h; simp at h
  | some j =>
    rw [e] at h
    simp only [Option.bind_some] at h ⊢
    exact r.get h
theorem ix_idxV (hu : X.A.units + 64 < cLine) : IxR X (rBin N X.K idxV) := by
  intro value slice pins s σ H x y v u Q I rx ry h hs
  obtain ⟨lx, ly, L, ρ, R, rlx, rly, p⟩ := h
  unfold idxV at p
  split at p
  · obtain ⟨a, h1, rfl⟩ := Rl.ref.mp rlx
    split at p
    · rename_i e1
      obtain ⟨a', vs, q1, q2, q3⟩ := R.lst e1
      rw [h1] at q1; cases q1
      split at p
      · cases Rl.int.mp rly
        split at p
        · rename_i e2
          obtain ⟨w, hw, rw'⟩ := atI_rel q3 e2
          exact ix_list value slice pins s σ H _ _ v u Q I rx ry ⟨a, vs, _, w, rfl, rfl, .inl (.inl q2), hw, p.here R rw'⟩ hs
        · exact p.elim
      · exact p.elim
    · rename_i e1
      obtain ⟨a', vs, q1, q2, q3⟩ := R.dct e1
      rw [h1] at q1; cases q1
      split at p
      · rename_i k ek
        have ey := keyOf_kV ek rly
        subst ey
        split at p
        · rename_i z ez
          obtain ⟨w, hw, rw'⟩ := (q3.get (k := k)).1 z ez
          have g : DGet H a (kV k) (some w) := by rw [← hw]; exact DGet.k q2
          cases rx
          exact tail_any (dict_typeIs I g) PySem.F.slot_dict_getitem.lookup (d_getItem (by omega) I g ry fun w' s' I' r' => ⟨w, H, I', r', p.here R rw'⟩) hs
        · exact p.elim
      · exact p.elim
    · exact p.elim
  · obtain ⟨a, vs, rfl, s1, r1⟩ := Rl.tup.mp rlx
    cases Rl.int.mp rly
    split at p
    · rename_i e2
      obtain ⟨w, hw, rw'⟩ := atI_rel r1 e2
      exact ix_tup value slice pins s σ H _ _ v u Q I rx ry ⟨a, vs, _, w, rfl, rfl, s1, hw, p.here R rw'⟩ hs
    · exact p.elim
  · obtain ⟨a, vs, rfl, s1, r1⟩ := Rl.scr.mp rlx
    cases Rl.int.mp rly
    split at p
    · rename_i e2
      obtain ⟨w, hw, rw'⟩ := atI_rel r1 e2
      exact ix_list value slice pins s σ H _ _ v u Q I rx ry ⟨a, vs, _, w, rfl, rfl, s1.sq, hw, p.here R rw'⟩ hs
    · exact p.elim
  · exact p.elim
theorem cut_rel {K : PySem.W.Frag} {H : Hp} {ρ : Rho} {xs : List LV} {vs : List V} {lo hi : Option Int} (r : Rls K H ρ xs vs) : Rls K H ρ (cut xs lo hi) (cutV vs lo hi) := by
  unfold cut cutV
  rw [r.length]
  exact Rls.take _ (Rls.drop _ r)
def rSlc (N : Na) (K : PySem.W.Frag) : V → Option Int → Option Int → Hp → VK → Prop := fun x lo hi H Q => ∃ lx L ρ, Rep N K H L ρ ∧ Rl K H ρ lx x ∧
  PostV N K (slcV lx lo hi L) H ρ Q
theorem sl_slcV : SlR X (rSlc N X.K) := by
  intro pins s σ H x v vl vu lo hi sl Q I rx hsl hl hh h
  obtain ⟨lx, L, ρ, R, rlx, p⟩ := h
  unfold slcV at p
  split at p
  · obtain ⟨a, vs, rfl, s1, r1⟩ := Rl.tup.mp rlx
    refine sl_tupA pins s σ H _ v vl vu lo hi sl Q I rx hsl hl hh ⟨a, vs, rfl, s1, fun ec => ?_, fun _ => Post.newT R (cut_rel r1) p⟩
    refine Post.oldT (vs := vs) R s1 ?_ p
    have := cut_rel (lo := lo) (hi := hi) r1
    have e : cutV vs lo hi = vs := by
      unfold cutV
      rw [ec.1, ec.2]
      simp
    rw [e] at this
    exact this
  · obtain ⟨a, vs, rfl, s1, r1⟩ := Rl.scr.mp rlx
    exact sl_list pins s σ H _ v vl vu lo hi sl Q I rx hsl hl hh ⟨a, vs, rfl, s1.sq, Post.newL R (cut_rel r1) p⟩
  · obtain ⟨a, h1, rfl⟩ := Rl.ref.mp rlx
    split at p
    · rename_i e1
      obtain ⟨a', vs, q1, q2, q3⟩ := R.lst e1
      rw [h1] at q1; cases q1
      exact sl_list pins s σ H _ v vl vu lo hi sl Q I rx hsl hl hh ⟨a, vs, rfl, .inl (.inl q2), Post.newL R (cut_rel q3) p⟩
    · exact p.elim
  · exact p.elim
end
end LG
end

section
set_option Elab.async false
set_option linter.all false
set_option maxRecDepth 100000
set_option maxHeartbeats 2000000
/-! LG4: built-in functions and methods over the logical heap. -/
namespace LG
open PySem PySem.Spec PyProof.Rows L2

open PySem.AutoSeq1 in
set_option maxRecDepth 8000 in
theorem list_extend_tup (l : Addr) (items : Array Value) (n : Nat) (b : Addr) (items2 : Array Value) (n2 : Nat) (dd : Option Addr) (sl : Array (Option Value)) (hs0 : ¬(!items.isEmpty && Builtin.List.listTooLong (items.size + items2.size)) = true) (hs1 : items.size ≤ sizeLine) (hs2 : items.size + items2.size ≤ sizeLine + 1) :
    Meets (Builtin.«list.extend» ⟨[.ref l, .ref b], []⟩) (fun _ R s => s.heap.get? l = some { cls := .type "list", dict := none, data := .seq items n, slots := #[] } ∧ s.heap.get? b = some { cls := .type "tuple", dict := dd, data := .seq items2 n2, slots := sl } ∧ R (.ok (.ret Value.none)) { s with heap := s.heap.update l (Obj.mapSeq fun x => x ++ items2), toks := s.toks }) :=
  .of_wp fun prog w A R s h => by
    obtain ⟨hp, g, d, tk, os⟩ := s; obtain ⟨hl, hb, h⟩ := h; have f1 := AutoSeq1.idx_int; have f2 := AutoSeq1.sub_tuple_tuple; have f3 := AutoSeq1.sub_list_list; have f4 := AutoSeq1.sub_tuple_list; have f5 := AutoSeq1.sub_list_tuple;
    have hz' : (items ++ items2).size ≤ sizeLine + 1 := by rw [Array.size_append]; exact hs2
    wp_walk using (wpAny_updateSeq hl rfl (hz := hs1) (_hz' := hz')), wpAny_loadPart' hl, wpAny_loadPart' hb; exact ⟨_, rfl, h⟩
open PySem.AutoSeq1 in
set_option maxRecDepth 8000 in
theorem list_extend_lst (l : Addr) (items : Array Value) (n : Nat) (b : Addr) (items2 : Array Value) (n2 : Nat) (sl : Array (Option Value)) (hs0 : ¬(!items.isEmpty && Builtin.List.listTooLong (items.size + items2.size)) = true) (hs1 : items.size ≤ sizeLine) (hs2 : items.size + items2.size ≤ sizeLine + 1) :
    Meets (Builtin.«list.extend» ⟨[.ref l, .ref b], []⟩) (fun _ R s => s.heap.get? l = some { cls := .type "list", dict := none, data := .seq items n, slots := #[] } ∧ s.heap.get? b = some { cls := .type "list", dict := none, data := .seq items2 n2, slots := sl } ∧ R (.ok (.ret Value.none)) { s with heap := s.heap.update l (Obj.mapSeq fun x => x ++ items2), toks := s.toks }) :=
  .of_wp fun prog w A R s h => by
    obtain ⟨hp, g, d, tk, os⟩ := s; obtain ⟨hl, hb, h⟩ := h; have f1 := AutoSeq1.idx_int; have f2 := AutoSeq1.sub_tuple_tuple; have f3 := AutoSeq1.sub_list_list; have f4 := AutoSeq1.sub_tuple_list; have f5 := AutoSeq1.sub_list_tuple;
    have hz' : (items ++ items2).size ≤ sizeLine + 1 := by rw [Array.size_append]; exact hs2
    wp_walk using (wpAny_updateSeq hl rfl (hz := hs1) (_hz' := hz')), wpAny_loadPart' hl, wpAny_loadPart' hb; exact ⟨_, rfl, h⟩
section
variable {N : Na} {X : Cx}
theorem mt_extendF : MtM X "list.extend" (fun x vs H Q => ∃ l b xs zs, x = .ref l ∧ vs = [.ref b] ∧ H l = some (.lst xs) ∧ SqL X.K H b zs ∧ xs.length + zs.length ≤ sizeLine ∧ Q .non (upd H l (.lst (xs ++ zs)))) := by
  intro pins s σ H x vs v us Q I rx rv h
  obtain ⟨l, b, xs, zs, rfl, rfl, hH, hB, hz, q⟩ := h
  cases rx
  obtain ⟨u, rfl, ru⟩ := rv.one
  cases ru
  obtain ⟨z, its, n, r, hl, e⟩ := I.lstM hH
  obtain ⟨its2, r2, ⟨o, n2, e2, hc, hdn, hd⟩, z2⟩ := I.list hB
  have hl2 := r2.length
  obtain ⟨oc, od, dt, sl⟩ := o
  simp only at hc hd hdn
  subst hc hd hdn
  have hsz : its.toArray.size + its2.toArray.size ≤ sizeLine := by rw [List.size_toArray, List.size_toArray]; omega
  have hlong : ¬ (!its.toArray.isEmpty && Builtin.List.listTooLong (its.toArray.size + its2.toArray.size)) = true := by
    rw [notLongL hsz, Bool.and_false]
    exact Bool.false_ne_true
  refine call_meets F.slot_list_extend ⟨_, e, rfl⟩ F.entry_list_extend (F.args_list_extend_2 _ _)
    (list_extend_lst l its.toArray n b its2.toArray n2 sl hlong (by rw [List.size_toArray]; omega) (by omega)) ⟨e, e2, ?_⟩
  refine ⟨.non, _, I.lset (its' := its ++ its2) hH e (by simp) (r.append r2) ?_, rfl, q⟩
  rw [List.length_append]
  omega
theorem mt_extendT : MtM X "list.extend" (fun x vs H Q => ∃ l b xs zs, x = .ref l ∧ vs = [.ref b] ∧ H l = some (.lst xs) ∧ SqT X.K H b zs ∧ xs.length + zs.length ≤ sizeLine ∧ Q .non (upd H l (.lst (xs ++ zs)))) := by
  intro pins s σ H x vs v us Q I rx rv h
  obtain ⟨l, b, xs, zs, rfl, rfl, hH, hB, hz, q⟩ := h
  cases rx
  obtain ⟨u, rfl, ru⟩ := rv.one
  cases ru
  obtain ⟨z, its, n, r, hl, e⟩ := I.lstM hH
  obtain ⟨its2, r2, ⟨o, e2, hc, n2, hd⟩, z2⟩ := I.tuple hB
  have hl2 := r2.length
  obtain ⟨oc, od, dt, sl⟩ := o
  simp only at hc hd
  subst hc hd
  have hsz : its.toArray.size + its2.toArray.size ≤ sizeLine := by rw [List.size_toArray, List.size_toArray]; omega
  have hlong : ¬ (!its.toArray.isEmpty && Builtin.List.listTooLong (its.toArray.size + its2.toArray.size)) = true := by
    rw [notLongL hsz, Bool.and_false]
    exact Bool.false_ne_true
  refine call_meets F.slot_list_extend ⟨_, e, rfl⟩ F.entry_list_extend (F.args_list_extend_2 _ _)
    (list_extend_tup l its.toArray n b its2.toArray n2 od sl hlong (by rw [List.size_toArray]; omega) (by omega)) ⟨e, e2, ?_⟩
  refine ⟨.non, _, I.lset (its' := its ++ its2) hH e (by simp) (r.append r2) ?_, rfl, q⟩
  rw [List.length_append]
  omega

/-! ### built-in functions -/
def rArgs (N : Na) (K : PySem.W.Frag) (f : List LV → LH → Out LV) : List V → Hp → VK → Prop := fun xs H Q => ∃ lxs L ρ, Rep N K H L ρ ∧ Rls K H ρ lxs xs ∧ PostV N K (f lxs L) H ρ Q
theorem Rls.one {K : PySem.W.Frag} {H : Hp} {ρ : Rho} {x : LV} {vs : List V} (h : Rls K H ρ [x] vs) : ∃ v, vs = [v] ∧ Rl K H ρ x v := by
  obtain ⟨v, r, rfl, h1, h2⟩ := Rls.cons.mp h
  rw [Rls.nil.mp h2]
  exact ⟨v, rfl, h1⟩
theorem Rls.two {K : PySem.W.Frag} {H : Hp} {ρ : Rho} {x y : LV} {vs : List V} (h : Rls K H ρ [x, y] vs) : ∃ v u, vs = [v, u] ∧ Rl K H ρ x v ∧ Rl K H ρ y u := by
  obtain ⟨v, r, rfl, h1, h2⟩ := Rls.cons.mp h
  obtain ⟨u, rfl, h3⟩ := Rls.one h2
  exact ⟨v, u, rfl, h1, h3⟩
theorem lstOf_sq {K : PySem.W.Frag} {H : Hp} {ρ : Rho} {L : LH} {x : LV} {xs : List LV} {v : V} (R : Rep N K H L ρ) (h : lstOf L x = some xs) (r : Rl K H ρ x v) : ∃ a vs, v = .ref a ∧ SqL K H a vs ∧ Rls K H ρ xs vs := by
  cases x with
  | scr ys =>
    simp only [lstOf, Option.some.injEq] at h
    subst h
    obtain ⟨a, vs, rfl, h1, h2⟩ := Rl.scr.mp r
    exact ⟨a, vs, rfl, h1.sq, h2⟩
  | ref i =>
    simp only [lstOf] at h
    obtain ⟨a, h1, rfl⟩ := Rl.ref.mp r
    split at h
    · rename_i ys e
      cases h
      obtain ⟨b, vs, h2, h3, h4⟩ := R.lst e
      rw [h1] at h2
      cases h2
      exact ⟨a, vs, rfl, .inl (.inl h3), h4⟩
    · cases h
  | _ => simp [lstOf] at h
theorem sumI_rel {K : PySem.W.Frag} {H : Hp} {ρ : Rho} : ∀ {xs : List LV} {vs : List V} {i : Int}, sumI xs = some i → Rls K H ρ xs vs → ∃ ns : List Int, vs = ns.map V.int ∧ ns.sum = i
  | [], vs, i, h, r => by
    simp only [sumI, Option.some.injEq] at h
    subst h
    exact ⟨[], Rls.nil.mp r, rfl⟩
  | x :: xs, vs, i, h, r => by
    cases x with
    | int j =>
      obtain ⟨v, q, rfl, r1, r2⟩ := Rls.cons.mp r
      simp only [sumI] at h
      cases e : sumI xs with
      | none => rw [e] at h; simp at h
      | some k =>
        rw [e] at h
        simp only [Option.map_some, Option.some.injEq] at h
        obtain ⟨ns, rfl, e2⟩ := sumI_rel e r2
        exact ⟨j :: ns, by rw [Rl.int.mp r1]; rfl, by rw [List.sum_cons, e2]; exact h⟩
    | _ => simp [sumI] at h
theorem bools_rel {K : PySem.W.Frag} {H : Hp} {ρ : Rho} : ∀ {xs : List LV} {vs : List V} {bs : List Bool}, bools xs = some bs → Rls K H ρ xs vs → vs = bs.map V.bl
  | [], vs, bs, h, r => by
    simp only [bools, Option.some.injEq] at h
    subst h
    exact Rls.nil.mp r
  | x :: xs, vs, bs, h, r => by
    cases x with
    | bl b =>
      obtain ⟨v, q, rfl, r1, r2⟩ := Rls.cons.mp r
      simp only [bools] at h
      cases e : bools xs with
      | none => rw [e] at h; simp at h
      | some cs =>
        rw [e] at h
        simp only [Option.map_some, Option.some.injEq] at h
        subst h
        rw [bools_rel e r2, Rl.bl.mp r1]
        rfl
    | _ => simp [bools] at h
def bfVal : BF → Value
  | .len => .builtin "len" | .tuple => .type "tuple" | .list => .type "list" | .int => .type "int" | .min => .builtin "min" | .max => .builtin "max" | .sum => .builtin "sum" | .any => .builtin "any" | .all => .builtin "all" | .str => .type "str"
theorem call_bfV (hc : X.calm = true) (f : BF) : CallR X (bfVal f) (rArgs N X.K (bfV f)) := by
  intro pins s σ H xs us Q I r h
  obtain ⟨lxs, L, ρ, R, rl, p⟩ := h
  unfold bfV at p
  split at p
  · -- len
    obtain ⟨v, rfl, rv⟩ := Rls.one rl
    split at p
    · rename_i ys e
      obtain ⟨a, vs, rfl, hs, hr⟩ := seqOf_sq R e rv
      refine call_len_seq pins s σ H _ us Q I r ⟨a, vs, rfl, hs, ?_⟩
      rw [← hr.length]
      exact p.here R (Rl.int.mpr rfl)
    · split at p
      · cases Rl.str.mp rv
        split at p
        · rename_i hc'
          exact call_len_str pins s σ H _ us Q I r ⟨_, rfl, hc', p.here R (Rl.int.mpr rfl)⟩
        · exact p.elim
      · exact p.elim
  · obtain ⟨v, rfl, rv⟩ := Rls.one rl
    split at p
    · rename_i ys e
      obtain ⟨a, vs, rfl, hs, hr⟩ := seqOf_sq R e rv
      refine call_tuple_of pins s σ H _ us Q I r ⟨a, vs, rfl, ?_⟩
      rcases hs with hs | hs
      · exact .inl ⟨hs, Post.newT R hr p⟩
      · exact .inr ⟨hs, Post.oldT R hs hr p⟩
    · exact p.elim
  · obtain ⟨v, rfl, rv⟩ := Rls.one rl
    split at p
    · rename_i ys e
      obtain ⟨a, vs, rfl, hs, hr⟩ := seqOf_sq R e rv
      exact call_list_of pins s σ H _ us Q I r ⟨a, vs, rfl, hs, Post.newL R hr p⟩
    · exact p.elim
  · obtain ⟨v, rfl, rv⟩ := Rls.one rl
    cases Rl.int.mp rv
    exact call_int1 pins s σ H _ us Q I r (.inl ⟨_, rfl, p.here R (Rl.int.mpr rfl)⟩)
  · obtain ⟨v, rfl, rv⟩ := Rls.one rl
    cases Rl.bl.mp rv
    exact call_int1 pins s σ H _ us Q I r (.inr ⟨_, rfl, p.here R (Rl.int.mpr rfl)⟩)
  · obtain ⟨v, u, rfl, rv, ru⟩ := Rls.two rl
    cases Rl.int.mp rv; cases Rl.int.mp ru
    exact call_min2 hc pins s σ H _ us Q I r ⟨_, _, rfl, p.here R (Rl.int.mpr rfl)⟩
  · obtain ⟨v, u, rfl, rv, ru⟩ := Rls.two rl
    cases Rl.int.mp rv; cases Rl.int.mp ru
    exact call_max2 hc pins s σ H _ us Q I r ⟨_, _, rfl, p.here R (Rl.int.mpr rfl)⟩
  · obtain ⟨v, rfl, rv⟩ := Rls.one rl
    split at p
    · rename_i ys e
      obtain ⟨a, vs, rfl, hs, hr⟩ := lstOf_sq R e rv
      split at p
      · rename_i i ei
        obtain ⟨ns, rfl, en⟩ := sumI_rel ei hr
        exact cr_sum hc pins s σ H _ us Q I r ⟨a, ns, rfl, hs, by rw [en]; exact p.here R (Rl.int.mpr rfl)⟩
      · exact p.elim
    · exact p.elim
  · obtain ⟨v, rfl, rv⟩ := Rls.one rl
    split at p
    · rename_i ys e
      obtain ⟨a, vs, rfl, hs, hr⟩ := lstOf_sq R e rv
      split at p
      · rename_i bs eb
        have := bools_rel eb hr
        subst this
        exact cr_any hc pins s σ H _ us Q I r ⟨a, bs, rfl, hs, p.here R (Rl.bl.mpr rfl)⟩
      · exact p.elim
    · exact p.elim
  · obtain ⟨v, rfl, rv⟩ := Rls.one rl
    split at p
    · rename_i ys e
      obtain ⟨a, vs, rfl, hs, hr⟩ := lstOf_sq R e rv
      split at p
      · rename_i bs eb
        have := bools_rel eb hr
        subst this
        exact cr_all hc pins s σ H _ us Q I r ⟨a, bs, rfl, hs, p.here R (Rl.bl.mpr rfl)⟩
      · exact p.elim
    · exact p.elim
  · exact p.elim
/-! ### methods of lists and dicts -/
def bmT : BM → String
  | .dget1 => "dict" | .dget2 => "dict" | _ => "list"
def bmName : BM → Str
  | .lappend => "append" | .lextend => "extend" | .lpop => "pop" | .lpopAt => "pop" | .linsert => "insert" | .lindex => "index" | .dget1 => "get" | .dget2 => "get"
def bmId : BM → String
  | .lappend => "list.append" | .lextend => "list.extend" | .lpop => "list.pop" | .lpopAt => "list.pop" | .linsert => "list.insert" | .lindex => "list.index" | .dget1 => "dict.get" | .dget2 => "dict.get"
theorem bm_slot (m : BM) : PlainAttrs (bmT m) ∧ Slot (bmT m) (bmName m) (bmId m) ∧ typeOf (.builtin (bmId m)) = pure (.type "method_descriptor") := by
  cases m
  · exact ⟨PySem.F.plainAttrs_list, PySem.F.slot_list_append, PySem.F.type_list_append⟩
  · exact ⟨PySem.F.plainAttrs_list, PySem.F.slot_list_extend, PySem.F.type_list_extend⟩
  · exact ⟨PySem.F.plainAttrs_list, PySem.F.slot_list_pop, PySem.F.type_list_pop⟩
  · exact ⟨PySem.F.plainAttrs_list, PySem.F.slot_list_pop, PySem.F.type_list_pop⟩
  · exact ⟨PySem.F.plainAttrs_list, PySem.F.slot_list_insert, PySem.F.type_list_insert⟩
  · exact ⟨PySem.F.plainAttrs_list, PySem.F.slot_list_index, PySem.F.type_list_index⟩
  · exact ⟨PySem.F.plainAttrs_dict, PySem.F.slot_dict_get, PySem.F.type_dict_get⟩
  · exact ⟨PySem.F.plainAttrs_dict, PySem.F.slot_dict_get, PySem.F.type_dict_get⟩
def rMeth (N : Na) (K : PySem.W.Frag) (f : LV → List LV → LH → Out LV) : V → List V → Hp → VK → Prop := fun x xs H Q => ∃ lx lxs L ρ, Rep N K H L ρ ∧ Rl K H ρ lx x ∧ Rls K H ρ lxs xs ∧ PostV N K (f lx lxs L) H ρ Q
theorem findF_at {x : LV} (hx : flat x = true) : ∀ {xs : List LV} {j : Nat}, xs.all flat = true → findF x xs = some j →
    ∃ z, (xs.map toF)[j]? = some z ∧ eqV z (toF x) = true ∧ ∀ (m : Nat) (z' : V), m < j → (xs.map toF)[m]? = some z' → eqV z' (toF x) = false
  | [], j, _, h => by simp [findF] at h
  | y :: ys, j, hf, h => by
    simp only [List.all_cons, Bool.and_eq_true] at hf
    simp only [findF] at h
    split at h
    · rename_i e
      cases h
      exact ⟨toF y, rfl, by rw [eqF_toF hf.1 hx]; exact e, fun m z' hm => absurd hm (Nat.not_lt_zero m)⟩
    · rename_i e
      cases e2 : findF x ys with
      | none => rw [e2] at h; simp at h
      | some k =>
        rw [e2] at h
        simp only [Option.map_some, Option.some.injEq] at h
        subst h
        obtain ⟨z, h1, h2, h3⟩ := findF_at hx hf.2 e2
        refine ⟨z, by simpa using h1, h2, fun m z' hm hz => ?_⟩
        cases m with
        | zero =>
          simp at hz
          subst hz
          rw [eqF_toF hf.1 hx]
          simpa using e
        | succ m => exact h3 m z' (by omega) (by simpa using hz)
theorem mt_bmV (hu : X.A.units + 64 < cLine) (m : BM) : MtR X (bmId m) (rMeth N X.K (bmV m)) := by
  intro pins s σ H x xs v us Q I rx rxs h
  obtain ⟨lx, lxs, L, ρ, R, rlx, rls, p⟩ := h
  unfold bmV at p
  split at p
  · obtain ⟨a, h1, rfl⟩ := Rl.ref.mp rlx
    obtain ⟨y, rfl, ry⟩ := Rls.one rls
    split at p
    · rename_i ys e
      obtain ⟨a', vs, q1, q2, q3⟩ := R.lst e
      rw [h1] at q1; cases q1
      split at p
      · rename_i hz
        rw [q3.length] at hz
        exact mt_append pins s σ H _ _ v us Q I rx rxs ⟨a, vs, y, rfl, rfl, q2, hz, Post.putL R h1 e (Rls.append q3 (Rls.mk ry Rls.nil')) (Rl.non.mpr rfl) p⟩
      · exact p.elim
    · exact p.elim
  · obtain ⟨a, h1, rfl⟩ := Rl.ref.mp rlx
    obtain ⟨y, rfl, ry⟩ := Rls.one rls
    split at p
    · rename_i ys zs e1 e2
      obtain ⟨a', vs, q1, q2, q3⟩ := R.lst e1
      rw [h1] at q1; cases q1
      obtain ⟨b, ws, rfl, hs, hr⟩ := seqOf_sq R e2 ry
      split at p
      · rename_i hz
        rw [q3.length, hr.length] at hz
        have fin := Post.putL R h1 e1 (Rls.append q3 hr) (Rl.non.mpr rfl) p
        rcases hs with hs | hs
        · rcases hs with (hs | ⟨o, hs⟩) | hs
          · exact mt_extend pins s σ H _ _ v us Q I rx rxs ⟨a, b, vs, ws, rfl, rfl, q2, hs, hz, fin⟩
          · exact mt_extendF pins s σ H _ _ v us Q I rx rxs ⟨a, b, vs, ws, rfl, rfl, q2, .inl (.inr ⟨o, hs⟩), hz, fin⟩
          · exact mt_extendF pins s σ H _ _ v us Q I rx rxs ⟨a, b, vs, ws, rfl, rfl, q2, .inr hs, hz, fin⟩
        · exact mt_extendT pins s σ H _ _ v us Q I rx rxs ⟨a, b, vs, ws, rfl, rfl, q2, hs, hz, fin⟩
      · exact p.elim
    · exact p.elim
  · obtain ⟨a, h1, rfl⟩ := Rl.ref.mp rlx
    have e0 := Rls.nil.mp rls
    subst e0
    split at p
    · rename_i ys e
      obtain ⟨a', vs, q1, q2, q3⟩ := R.lst e
      rw [h1] at q1; cases q1
      split at p
      · rename_i w ew
        obtain ⟨w', hw, rw'⟩ := q3.get ew
        rw [q3.length] at hw
        exact mt_pop pins s σ H _ _ v us Q I rx rxs ⟨a, vs, w', rfl, rfl, q2, hw, Post.putL R h1 e (Rls.dropLast q3) rw' p⟩
      · exact p.elim
    · exact p.elim
  · obtain ⟨a, h1, rfl⟩ := Rl.ref.mp rlx
    obtain ⟨y, rfl, ry⟩ := Rls.one rls
    cases Rl.int.mp ry
    split at p
    · rename_i ys e
      obtain ⟨a', vs, q1, q2, q3⟩ := R.lst e
      rw [h1] at q1; cases q1
      split at p
      · rename_i hb
        split at p
        · rename_i k ek
          split at p
          · rename_i w ew
            obtain ⟨w', hw, rw'⟩ := q3.get ew
            rw [q3.length] at ek
            exact mt_popAt pins s σ H _ _ v us Q I rx rxs ⟨a, vs, _, k, w', rfl, rfl, q2, hb.1, hb.2, ek, hw, Post.putL R h1 e (Rls.erase k q3) rw' p⟩
          · exact p.elim
        · exact p.elim
      · exact p.elim
    · exact p.elim
  · obtain ⟨a, h1, rfl⟩ := Rl.ref.mp rlx
    obtain ⟨y, z, rfl, ry, rz⟩ := Rls.two rls
    cases Rl.int.mp ry
    split at p
    · rename_i ys e
      obtain ⟨a', vs, q1, q2, q3⟩ := R.lst e
      rw [h1] at q1; cases q1
      split at p
      · rename_i hb
        rw [q3.length] at hb
        exact mt_insert pins s σ H _ _ v us Q I rx rxs ⟨a, vs, _, z, rfl, rfl, q2, hb.1, hb.2.1, hb.2.2, Post.putL R h1 e (Rls.append (Rls.append (Rls.take _ q3) (Rls.mk rz Rls.nil')) (Rls.drop _ q3)) (Rl.non.mpr rfl) p⟩
      · exact p.elim
    · exact p.elim
  · obtain ⟨a, h1, rfl⟩ := Rl.ref.mp rlx
    obtain ⟨y, rfl, ry⟩ := Rls.one rls
    split at p
    · rename_i ys e
      obtain ⟨a', vs, q1, q2, q3⟩ := R.lst e
      rw [h1] at q1; cases q1
      split at p
      · rename_i hf
        split at p
        · rename_i j ej
          have ey := flat_rl hf.1 ry
          have ev := flats_rl hf.2 q3
          subst ey ev
          obtain ⟨z, hz, hz2, hz3⟩ := findF_at hf.1 hf.2 ej
          exact mt_index pins s σ H _ _ v us Q I rx rxs ⟨a, _, _, j, z, rfl, rfl, .inl (.inl q2), flat_toF hf.1, flats_all hf.2, hz, hz2, hz3, p.here R (Rl.int.mpr rfl)⟩
        · exact p.elim
      · exact p.elim
    · exact p.elim
  · obtain ⟨a, h1, rfl⟩ := Rl.ref.mp rlx
    obtain ⟨y, rfl, ry⟩ := Rls.one rls
    split at p
    · rename_i kvs k e1 e2
      obtain ⟨a', vs, q1, q2, q3⟩ := R.dct e1
      rw [h1] at q1; cases q1
      have ey := keyOf_kV e2 ry
      subst ey
      have g : DGet H a (kV k) (valV vs k) := DGet.k q2
      cases rx
      cases rxs with
      | cons rk rr =>
        cases rr
        refine d_get1 (by omega) I g rk fun w' s' I' r' => ⟨_, H, I', r', ?_⟩
        refine p.here R ?_
        have := q3.get (k := k)
        cases ed : dget k kvs with
        | none => rw [this.2 ed]; exact Rl.non.mpr rfl
        | some z => obtain ⟨w, hw, hz⟩ := this.1 z ed; rw [hw]; exact hz
    · exact p.elim
  · obtain ⟨a, h1, rfl⟩ := Rl.ref.mp rlx
    obtain ⟨y, z, rfl, ry, rz⟩ := Rls.two rls
    split at p
    · rename_i kvs k e1 e2
      obtain ⟨a', vs, q1, q2, q3⟩ := R.dct e1
      rw [h1] at q1; cases q1
      have ey := keyOf_kV e2 ry
      subst ey
      have g : DGet H a (kV k) (valV vs k) := DGet.k q2
      cases rx
      cases rxs with
      | cons rk rr =>
        cases rr with
        | cons rd rr =>
        cases rr
        refine d_get2 (by omega) I g rk rd fun w' s' I' r' => ⟨_, H, I', r', ?_⟩
        refine p.here R ?_
        have := q3.get (k := k)
        cases ed : dget k kvs with
        | none => rw [this.2 ed]; exact rz
        | some z' => obtain ⟨w, hw, hz⟩ := this.1 z' ed; rw [hw]; exact hz
    · exact p.elim
  · exact p.elim
theorem bmTy_tyV {K : PySem.W.Frag} {H : Hp} {ρ : Rho} {L : LH} {m : BM} {lx : LV} {x : V} (R : Rep N K H L ρ) (h : bmTy L m lx = true) (r : Rl K H ρ lx x) : tyV K (bmT m) x H := by
  cases lx with
  | ref i =>
    obtain ⟨a, h1, rfl⟩ := Rl.ref.mp r
    simp only [bmTy] at h
    cases e : L.at_ i with
    | none => rw [e] at h; simp at h
    | some o =>
      cases o with
      | lst xs =>
        obtain ⟨a', vs, q1, q2, q3⟩ := R.lst e
        rw [h1] at q1; cases q1
        rw [e] at h
        cases m <;> first | (simp at h; done) | exact .inl ⟨rfl, vs, .inl (.inl q2)⟩
      | dct kvs =>
        obtain ⟨a', vs, q1, q2, q3⟩ := R.dct e
        rw [h1] at q1; cases q1
        rw [e] at h
        cases m <;> first | (simp at h; done) | exact .inr (.inr (.inl ⟨rfl, .inl ⟨vs, q2⟩⟩))
      | ins c fs =>
        rw [e] at h
        simp at h
  | _ => simp [bmTy] at h
end
end LG
end

section
set_option Elab.async false
set_option linter.all false
set_option maxRecDepth 100000
set_option maxHeartbeats 4000000
/-! LG5: how a text is checked against the small language; facts of the module; small lemmas. -/
namespace LG
open PySem PySem.Spec PyProof.Rows L2

/-! ### shapes of expressions -/
def notStar : Expr → Bool
  | .Starred _ _ => false
  | _ => true
def notComp : Expr → Bool
  | .ListComp _ _ _ _ => false
  | .SetComp _ _ _ _ => false
  | .DictComp _ _ _ _ _ => false
  | _ => true
def notCall0 : Expr → Bool
  | .Call (.Name _ _) [] [] _ => false
  | _ => true
def notSlice : Expr → Bool
  | .Slice _ _ _ _ => false
  | _ => true
def notSet : Expr → Bool
  | .Set _ _ _ => false
  | _ => true
theorem star_cons {e : Expr} {es : List Expr} {env : Env} (h : notStar e = true) : starEach (e :: es) env = (false, eval e env) :: starEach es env := by
  cases e <;> first | rfl | (simp [notStar] at h; done)
theorem star_any {es : List Expr} {env : Env} {pos : Pos} (h : es.all notStar = true) : (backTo pos (starEach es env)).any (·.1) = false := by
  induction es with
  | nil => rfl
  | cons e es ih =>
    simp only [List.all_cons, Bool.and_eq_true] at h
    rw [star_cons h.1]
    have := ih h.2
    unfold backTo at this ⊢
    simp only [List.map_cons, List.any_cons, Bool.false_or]
    exact this
theorem star_all {es : List Expr} {env : Env} {pos : Pos} (h : es.all notStar = true) : (backTo pos (starEach es env)).all (fun x => !x.1) = true := by
  induction es with
  | nil => rfl
  | cons e es ih =>
    simp only [List.all_cons, Bool.and_eq_true] at h
    rw [star_cons h.1]
    have := ih h.2
    unfold backTo at this ⊢
    simp only [List.map_cons, List.all_cons, Bool.not_false, Bool.true_and]
    exact this
theorem star_len {es : List Expr} {env : Env} {pos : Pos} (h : es.all notStar = true) : (backTo pos (starEach es env)).length = es.length := by
  induction es with
  | nil => rfl
  | cons e es ih =>
    simp only [List.all_cons, Bool.and_eq_true] at h
    rw [star_cons h.1]
    have := ih h.2
    unfold backTo at this ⊢
    simp only [List.map_cons, List.length_cons]
    rw [this]
theorem swaps_no {e : Expr} {t : Option Expr} {l : Nat} {env : Env} (h : notComp e = true) : swapsWith e t l env = pure false := by
  cases e <;> first | rfl | (simp [notComp] at h; done)
theorem attr_no {o : Expr} {a : Str} {env : Env} {wh : Sem Value} (h : notCall0 o = true) : attributeBase o a env wh = wh := by
  unfold attributeBase
  split
  · simp [notCall0] at h
  · rfl
theorem ix_plain {i : Expr} (h : notSlice i = true) : PlainIx i := fun o v => by
  cases i <;> first | rfl | (simp [notSlice] at h; done)
theorem set_no {e : Expr} {env : Env} (h : notSet e = true) (x : Value) : foldedSetIterable e env x = pure x := by
  cases e <;> first | rfl | (simp [notSet] at h; done)
/-- a method's call on one line -/
theorem eval_meth {o : Expr} {m : Str} {apos pos : Pos} {es : List Expr} {env : Env} (h0 : notCall0 o = true) (hs : es.all notStar = true) (hl : decide (es.length < 30) = true) (hp : (apos.endLine == pos.line) = true) :
    eval (.Call (.Attribute o m apos) es [] pos) env = (do
      let ov ← eval o env
      standAt apos.atName
      let (f, first) ← holding [ov] (getMethod ov m (plainOf o env))
      callWith pos f first (backTo pos (starEach es env)) (backToKw pos (keywordEach [] env))) := by
  rw [arm_eval_Call, attr_no h0]
  have hf : methodCallForm (es.length + ([] : List Keyword).length) (backTo pos (starEach es env)) (backToKw pos (keywordEach [] env)) = true := by
    unfold methodCallForm
    rw [star_all hs]
    have := of_decide_eq_true hl
    simp only [List.length_nil, Nat.add_zero, Bool.true_and]
    simp [keywordEach, backToKw]
    exact this
  simp only [mcall_line hf hp]
theorem few_ok {es : List Expr} {env : Env} {pos : Pos} (hs : es.all notStar = true) (hl : decide (es.length < 30) = true) :
    ((backTo pos (starEach es env)).all (fun x => !x.1) && (backToKw pos (keywordEach [] env)).all (fun x => x.1.isSome)
      && decide (es.length + ([] : List Keyword).length + (if ([] : List Keyword).isEmpty then 0 else 1) < 30)) = true := by
  rw [star_all hs]
  have := of_decide_eq_true hl
  simp [keywordEach, backToKw]
  exact this

/-! ### names -/
def visB (sc : Scope) (x : Str) : Bool := match sc.names.lookup x with
  | some .local => true
  | some .cell => true
  | some .free => true
  | _ => false
def locB (sc : Scope) (x : Str) : Bool := match sc.names.lookup x with
  | some .local => true
  | some .cell => true
  | _ => false
def glB (sc : Scope) (x : Str) : Bool := decide (sc.names.lookup x = some .globalImplicit) && !(x == ("__debug__" : Str)) && decide (x ≠ "__name__")
theorem visB_ok {sc : Scope} {x : Str} (h : visB sc x = true) : Vis sc x := by
  unfold visB at h
  unfold Vis
  split at h <;> first | (rename_i e; exact .inl e) | (rename_i e; exact .inr (.inl e)) | (rename_i e; exact .inr (.inr e)) | cases h
theorem locB_ok {sc : Scope} {x : Str} (h : locB sc x = true) : L2.Loc sc x := by
  unfold locB at h
  unfold L2.Loc
  split at h <;> first | (rename_i e; exact .inl e) | (rename_i e; exact .inr e) | cases h
theorem glB_ok {X : Cx} {x : Str} (h : glB X.env.scope x = true) : Gl X x ∧ (x == ("__debug__" : Str)) = false ∧ x ≠ "__name__" := by
  unfold glB at h
  simp only [Bool.and_eq_true, decide_eq_true_eq, Bool.not_eq_true'] at h
  exact ⟨h.1.1, h.1.2, h.2⟩

/-! ### the tables, the check -/
structure Tb where
  nms : List Str
  fns : List Str
  cls : List Str
  glos : List Str
  gds : List Str
  fks : List (Nat × Str)
def ckC : LV → Const → Bool
  | .int i, .int j => decide (i = j)
  | .str x, .str y => decide (x = y)
  | .bl a, .bool b => decide (a = b)
  | .non, .none => true
  | _, _ => false
def bfName : BF → Str
  | .len => "len" | .tuple => "tuple" | .list => "list" | .int => "int" | .min => "min" | .max => "max" | .sum => "sum" | .any => "any" | .all => "all" | .str => "str"
def tyName : Ty → Option Str
  | .int => some "int" | .bool => some "bool" | .str => some "str" | .tuple => some "tuple" | .list => some "list" | .own _ => none
def ckTyL (sc : Scope) : List Ty → List Expr → Bool
  | [], [] => true
  | t :: ts, .Name x _ :: es => decide (tyName t = some x) && glB sc x && ckTyL sc ts es
  | _, _ => false
def ckTy (sc : Scope) (ts : List Ty) : Expr → Bool
  | .Name x p => ckTyL sc ts [.Name x p]
  | .Tuple es _ _ => decide (ts.length ≤ 8) && !ts.isEmpty && ckTyL sc ts es
  | _ => false
/-- a name of the block's own -/
def lclB (sc : Scope) (x : Str) : Bool := decide (sc.names.lookup x = some .local)
def ckTg (N : List Str) (lb : Str → Bool) : LTg → Expr → Bool
  | .name i, .Name x _ => decide (N[i]? = some x) && lb x
  | .tup is, .Tuple es _ _ => decide (is.length = es.length) && (is.zip es).all fun p => match p.2 with
      | .Name x _ => decide (N[p.1]? = some x) && lb x
      | _ => false
  | _, _ => false
def ownB (own : List Nat) : LTg → Bool
  | .name i => own.contains i
  | .tup is => is.all own.contains
mutual
def ckE (T : Tb) (N : List Str) : LE → Scope → Expr → Bool
  | .var i => fun sc e => match e with
    | .Name x _ => decide (N[i]? = some x) && visB sc x && !(x == ("__debug__" : Str)) && !(x == ("__classdict__" : Str))
    | _ => false
  | .con v => fun sc e => match e with
    | .Constant c _ _ => ckC v c
    | _ => false
  | .glo i => fun sc e => match e with
    | .Name x _ => decide (T.glos[i]? = some x) && glB sc x
    | _ => false
  | .bin o a b => fun sc e => match e with
    | .BinOp l op r _ => decide (op = bop o) && ckE T N a sc l && ckE T N b sc r
    | _ => false
  | .neg a => fun sc e => match e with
    | .UnaryOp op x _ => decide (op = .USub) && ckE T N a sc x
    | _ => false
  | .cmp o a b => fun sc e => match e with
    | .Compare l [op] [r] _ => decide (op = cop o) && !(behindInMarks op r) && ckE T N a sc l && ckE T N b sc r
    | _ => false
  | .chn o p a b c => fun sc e => match e with
    | .Compare l [op, op'] [r, q] _ => decide (op = cop o) && decide (op' = cop p) && !(lastMarks [op, op'] [r, q]) && ckE T N a sc l && ckE T N b sc r && ckE T N c sc q
    | _ => false
  | .ands es => fun sc e => match e with
    | .BoolOp .And l _ => ckEs T N es sc l
    | _ => false
  | .ors es => fun sc e => match e with
    | .BoolOp .Or l _ => ckEs T N es sc l
    | _ => false
  | .not a => fun sc e => match e with
    | .UnaryOp op x _ => decide (op = .Not) && ckE T N a sc x
    | _ => false
  | .ite c a b => fun sc e => match e with
    | .IfExp t x y _ => ckE T N c sc t && ckE T N a sc x && ckE T N b sc y
    | _ => false
  | .tup es => fun sc e => match e with
    | .Tuple l _ _ => l.all notStar && ckEs T N es sc l
    | _ => false
  | .lst es => fun sc e => match e with
    | .List l _ => l.all notStar && ckEs T N es sc l
    | _ => false
  | .dct0 => fun sc e => match e with
    | .Dict [] [] _ => true
    | _ => false
  | .idx a i => fun sc e => match e with
    | .Subscript x s _ => notSlice s && ckE T N a sc x && ckE T N i sc s
    | _ => false
  | .slc a lo hi => fun sc e => match e with
    | .Subscript x (.Slice l h none _) _ => ckE T N a sc x && (match l with
        | none => isNon lo
        | some l => !(isNon lo) && ckE T N lo sc l) && (match h with
        | none => isNon hi
        | some h => !(isNon hi) && ckE T N hi sc h)
    | _ => false
  | .fld a f => fun sc e => match e with
    | .Attribute x at' _ => decide (T.nms[f]? = some at') && notCall0 x && ckE T N a sc x
    | _ => false
  | .call f es => fun sc e => match e with
    | .Call (.Name x _) l [] _ => decide (T.fns[f]? = some x) && glB sc x && l.all notStar && ckEs T N es sc l
    | _ => false
  | .callk f es ks kes => fun sc e => match e with
    | .Call (.Name x _) l kws _ => decide (T.fks.lookup f = some x) && glB sc x && !l.isEmpty && l.all notStar && decide (kws.map (·.arg) = ks.map fun i => T.nms[i]?) && kws.all (fun k => k.arg.isSome) && ckEs T N es sc l && ckEs T N kes sc (kws.map (·.value))
    | _ => false
  | .make c es => fun sc e => match e with
    | .Call (.Name x _) l [] _ => decide (T.cls[c]? = some x) && glB sc x && l.all notStar && ckEs T N es sc l
    | _ => false
  | .meth a m es => fun sc e => match e with
    | .Call (.Attribute o nm apos) l [] pos => decide (T.nms[m]? = some nm) && notCall0 o && l.all notStar && decide (l.length < 30) && (apos.endLine == pos.line) && ckE T N a sc o && ckEs T N es sc l
    | _ => false
  | .bf f es => fun sc e => match e with
    | .Call (.Name x _) l [] _ => decide (bfName f = x) && glB sc x && !l.isEmpty && l.all notStar && ckEs T N es sc l
    | _ => false
  | .bm m a es => fun sc e => match e with
    | .Call (.Attribute o nm apos) l [] pos => decide (bmName m = nm) && notCall0 o && l.all notStar && decide (l.length < 30) && (apos.endLine == pos.line) && ckE T N a sc o && ckEs T N es sc l
    | _ => false
  | .isin a ts => fun sc e => match e with
    | .Call (.Name x _) [y, c] [] _ => decide (x = "isinstance") && glB sc x && notStar y && notStar c && ckTy sc ts c && ckE T N a sc y
    | _ => false
  | .gidx g a => fun sc e => match e with
    | .Call (.Attribute (.Name gx _) nm apos) [x] [] pos => decide (T.glos[g]? = some gx) && glB sc gx && decide (nm = "index") && notStar x && (apos.endLine == pos.line) && ckE T N a sc x
    | _ => false
  | .kget g a d => fun sc e => match e with
    | .Call (.Attribute (.Name gx _) nm apos) [x, y] [] pos => decide (T.gds[g]? = some gx) && glB sc gx && decide (nm = "get") && notStar x && notStar y && (apos.endLine == pos.line) && ckE T N a sc x && ckE T N d sc y
    | _ => false
  | .comp own tg it t c e' => fun sc e => match e with
    | .ListComp elt [⟨tgx, iter, ifs, 0⟩] scope _ => own.all (fun i => decide (i < N.length)) && blkC N sc scope (own.map fun i => (N.getD i "", i)) && (match tg with
        | .name i => own.contains i
        | .tup is => is.all own.contains) && ckTg N (lclB (relS scope sc)) tg tgx && notSet iter && ckI T N it sc iter && (match t, ifs with
        | none, [] => true
        | some _, [q] => ckE T N c (relS scope sc) q
        | _, _ => false) && ckE T N e' (relS scope sc) elt
    | _ => false
  | .comp2 own own1 tg it tg1 it1 e' => fun sc e => match e with
    | .ListComp elt [⟨tgx, iter, [], 0⟩, ⟨tgx1, iter1, [], 0⟩] scope _ => own.all (fun i => decide (i < N.length)) && blkC N sc scope (own.map fun i => (N.getD i "", i)) && ownB own tg && ownB own1 tg1 && own1.all own.contains && ckTg N (lclB (relS scope sc)) tg tgx && ckTg N (lclB (relS scope sc)) tg1 tgx1 && notSet iter && notSet iter1 && ckI T N it sc iter && ckI T N it1 (relS scope sc) iter1 && ckE T N e' (relS scope sc) elt
    | _ => false
def ckEs (T : Tb) (N : List Str) : LEs → Scope → List Expr → Bool
  | .nil => fun _ l => l.isEmpty
  | .cons e es => fun sc l => match l with
    | x :: xs => ckE T N e sc x && ckEs T N es sc xs
    | [] => false
def ckI (T : Tb) (N : List Str) : LI → Scope → Expr → Bool
  | .seq a => fun sc e => ckE T N a sc e
  | .rng1 a => fun sc e => match e with
    | .Call (.Name x _) [y] [] _ => decide (x = "range") && glB sc x && notStar y && ckE T N a sc y
    | _ => false
  | .rng2 a b => fun sc e => match e with
    | .Call (.Name x _) [y, z] [] _ => decide (x = "range") && glB sc x && notStar y && notStar z && ckE T N a sc y && ckE T N b sc z
    | _ => false
end

/-! ### slots -/
def RS (K : PySem.W.Frag) (H : Hp) (ρ : Rho) (l : LSt) (σ : L2.St) : Prop := l.length = σ.length ∧ ∀ (i : Nat) (v : LV), l[i]? = some (some v) → ∃ v', σ[i]? = some (some v') ∧ Rl K H ρ v v'
section
variable {K : PySem.W.Frag} {H H' : Hp} {ρ ρ' : Rho} {l : LSt} {σ : L2.St}
theorem RS.mono (s : Sty H H') (e : Ex ρ ρ') (h : RS K H ρ l σ) : RS K H' ρ' l σ := ⟨h.1, fun i v q => by
  obtain ⟨v', a, b⟩ := h.2 i v q
  exact ⟨v', a, Rl.mono s e _ _ b⟩⟩
theorem RS.set (h : RS K H ρ l σ) {i : Nat} {x : LV} {v : V} (r : Rl K H ρ x v) : RS K H ρ (l.set i (some x)) (σ.set i (some v)) := by
  refine ⟨by simp [h.1], fun j y q => ?_⟩
  by_cases e : i = j
  · subst e
    rw [List.getElem?_set] at q ⊢
    simp only [if_true] at q ⊢
    by_cases hl : i < l.length
    · rw [if_pos hl] at q
      simp only [Option.some.injEq] at q
      subst q
      rw [if_pos (by rw [← h.1]; exact hl)]
      exact ⟨v, rfl, r⟩
    · rw [if_neg hl] at q; cases q
  · rw [List.getElem?_set_ne e] at q ⊢
    exact h.2 j y q
theorem RS.none (h : RS K H ρ l σ) (i : Nat) : RS K H ρ (l.set i none) (σ.set i none) := by
  refine ⟨by simp [h.1], fun j y q => ?_⟩
  by_cases e : i = j
  · subst e
    rw [List.getElem?_set] at q
    simp only [if_true] at q
    split at q <;> simp at q
  · rw [List.getElem?_set_ne e] at q ⊢
    exact h.2 j y q
theorem RS.wipe (h : RS K H ρ l σ) : ∀ own : List Nat, RS K H ρ (wipeL l own) (L2.wipe σ own)
  | [] => h
  | v :: vs => by
    unfold wipeL L2.wipe
    exact (RS.wipe h vs).none v
theorem wipe_get : ∀ (own : List Nat) (σ : L2.St) (j : Nat), (L2.wipe σ own)[j]? = if j ∈ own then (if j < σ.length then some Option.none else Option.none) else σ[j]?
  | [], σ, j => by simp [L2.wipe]
  | v :: vs, σ, j => by
    unfold L2.wipe
    rw [List.getElem?_set]
    by_cases e : v = j
    · subst e
      simp [wipe_length]
    · rw [if_neg e, wipe_get vs σ j]
      have : j ∈ v :: vs ↔ j ∈ vs := by simp [Ne.symm e]
      simp only [this]
theorem wipe_set {own : List Nat} {σ : L2.St} {i : Nat} {x : Option V} (h : i ∈ own) : L2.wipe (σ.set i x) own = L2.wipe σ own := by
  apply List.ext_getElem?
  intro j
  rw [wipe_get, wipe_get]
  by_cases e : j ∈ own
  · simp [e]
  · simp only [if_neg e]
    rw [List.getElem?_set_ne]
    rintro rfl
    exact e h
theorem wipe_wipe {own : List Nat} {σ : L2.St} : L2.wipe (L2.wipe σ own) own = L2.wipe σ own := by
  apply List.ext_getElem?
  intro j
  rw [wipe_get, wipe_get]
  by_cases e : j ∈ own
  · simp [e, wipe_length]
  · simp [e, wipe_get]
end

/-! ### the facts of the module -/
/-- a def's promise by its computation -/
def SpL (N : Na) (K : PySem.W.Frag) (f : List LV → LH → Out LV) : Sp := fun vs H Q _ => ∃ lvs L ρ, Rep N K H L ρ ∧ Rls K H ρ lvs vs ∧ PostV N K (f lvs L) H ρ Q
structure Fx (T : Tb) (N : Na) (F : Fn) (lv : Nat) (P : Program) (w : World) (K : PySem.W.Frag) (mg : Str → Option Value) (base : Heap) : Prop where
  inj : ∀ f g, N.nm f = N.nm g → f = g
  nms : ∀ i x, T.nms[i]? = some x → N.nm i = x
  bfn : ∀ f, mg (bfName f) = none
  tyn : ∀ t x, tyName t = some x → mg x = none
  rng : mg "range" = none
  isi : mg "isinstance" = none
  glo : ∀ i x v, T.glos[i]? = some x → F.glo i = some v → ∃ u v', mg x = some u ∧ RelV v' u ∧ (∀ H ρ, Rl K H ρ v v') ∧ ∀ xs, v = .tup xs → ∃ a o, u = .ref a ∧ K.lookup a = some o ∧ o.cls = .type "tuple" ∧ o.dict = none
  kd : ∀ i x kvs, T.gds[i]? = some x → F.kd i = some kvs → ∃ d es n, mg x = some (.ref d) ∧ KDict K w d es n ∧
    ∀ z : Str, (∀ v, kvs.lookup z = some v → ∃ u v', PySem.W.nsIn K d z = some (some u) ∧ RelV v' u ∧ ∀ H ρ, Rl K H ρ v v') ∧ (kvs.lookup z = none → PySem.W.nsIn K d z = some none)
  call : ∀ f x, T.fns[f]? = some x → ∃ fa fd ps, mg x = some (.ref fa) ∧ PySem.W.keepIn K (.ref fa) = true ∧ Binds K fd ps [] ∧ FnOk P w K mg base CX0 lv fa fd ps (SpL N K (F.call f))
  calld : ∀ f x n sl, T.fks.lookup f = some x → F.kw f n [] = some sl → ∃ fa fd ps ds dvs, mg x = some (.ref fa) ∧ PySem.W.keepIn K (.ref fa) = true ∧ Binds K fd ps ds ∧ Vals dvs ds ∧ FnOk P w K mg base CX0 lv fa fd ps (SpL N K (F.call f)) ∧
    ∀ (lvs ws : List LV), lvs.length = n → fill lvs [] sl = some ws → ∃ lds, ws = lvs ++ lds ∧ ∀ H ρ, Rls K H ρ lds dvs
  callk : ∀ f x n ks sl, T.fks.lookup f = some x → ks ≠ [] → F.kw f n ks = some sl → ∃ fa fd ps nks g gV, (ks.map fun i => T.nms[i]?) = nks.map some ∧ mg x = some (.ref fa) ∧ PySem.W.keepIn K (.ref fa) = true ∧ KBn K fd ps n nks g gV ∧ FnOk P w K mg base CX0 lv fa fd ps (SpL N K (F.call f)) ∧
    ∀ H ρ (lvs lzs ws : List LV) (vs zs : List V), lvs.length = n → lzs.length = ks.length → Rls K H ρ lvs vs → Rls K H ρ lzs zs → fill lvs lzs sl = some ws → Rls K H ρ ws (gV vs zs)
  make : ∀ c x f, T.cls[c]? = some x → F.init c = some f → ∃ fi fd ps, mg x = some (.ref (N.ca c)) ∧ Mk K (N.ca c) fi ∧ Cls K (N.ca c) ∧ Binds K fd ps [] ∧ FnOk P w K mg base CX0 lv fi fd ps (SpL N K (F.call f))
  mth : ∀ c m f, F.mth c m = some f → ∃ g fd ps, Meth K (N.ca c) (N.nm m) g ∧ Binds K fd ps [] ∧ FnOk P w K mg base CX0 lv g fd ps (SpL N K (F.call f))
  fld : ∀ c f, F.fld c f = true → NoAttr K (N.ca c) (N.nm f)
/-- a context in which the rules hold -/
structure Good (T : Tb) (N : Na) (F : Fn) (lv : Nat) (X : Cx) : Prop where
  calm : X.calm = true
  nd : X.N.Nodup
  room : Room (lv + 1) X.A
  fx : Fx T N F lv X.prog X.w X.K X.mg X.base
theorem Good.hu {T : Tb} {N : Na} {F : Fn} {lv : Nat} {X : Cx} (G : Good T N F lv X) : X.A.units + 64 < cLine := G.room.units

/-! ### consequence, sequencing -/
section
variable {X : Cx} {N : Na}
theorem PE.of {e : Expr} {t t' : TE} (h : PE X e t) (c : ∀ σ H Q, t' σ H Q → t σ H Q) : PE X e t' := ⟨fun pins s σ H Q I q => h.run pins s σ H Q I (c _ _ _ q)⟩
theorem PT.of {e : Expr} {t t' : TT} (h : PT X e t) (c : ∀ σ H Q, t' σ H Q → t σ H Q) : PT X e t' := ⟨fun pins s σ H Q I q => h.run pins s σ H Q I (c _ _ _ q)⟩
theorem PW.of {e : Expr} {t t' : TT} (h : PW X e t) (c : ∀ σ H Q, t' σ H Q → t σ H Q) : PW X e t' := ⟨fun wh pins s σ H Q I q => h.run wh pins s σ H Q I (c _ _ _ q)⟩
theorem PA.of {es : List Expr} {t t' : TA} (h : PA X es t) (c : ∀ σ H Q, t' σ H Q → t σ H Q) : PA X es t' := ⟨fun pos pins s σ H Q I q => h.run pos pins s σ H Q I (c _ _ _ q)⟩
theorem PS.of {st : Stmt} {t t' : TS} (h : PS X st t) (c : ∀ D σ H, t' D σ H → t D σ H) : PS X st t' := ⟨fun pins s σ H D I q => h.run pins s σ H D I (c _ _ _ q)⟩
theorem PSs.of {st : List Stmt} {t t' : TS} (h : PSs X st t) (c : ∀ D σ H, t' D σ H → t D σ H) : PSs X st t' := ⟨fun pins s σ H D I q => h.run pins s σ H D I (c _ _ _ q)⟩
/-- the reading of a computation -/
def LT {α β : Type} (N : Na) (K : PySem.W.Frag) (R : Hp → Rho → α → β → Prop) (f : LSt → LH → Out α) : L2.St → Hp → (β → Hp → Prop) → Prop := fun σ H Q => ∃ l L ρ, RS K H ρ l σ ∧ Rep N K H L ρ ∧ Post N K R (f l L) H ρ Q
abbrev LTE (N : Na) (K : PySem.W.Frag) (f : LSt → LH → Out LV) : TE := LT N K (fun H ρ => Rl K H ρ) f
abbrev LTB (N : Na) (K : PySem.W.Frag) (f : LSt → LH → Out Bool) : TT := LT N K (fun _ _ (a b : Bool) => a = b) f
abbrev LTA (N : Na) (K : PySem.W.Frag) (f : LSt → LH → Out (List LV)) : TA := LT N K (fun H ρ => Rls K H ρ) f
theorem LT.bind {α β γ δ : Type} {K : PySem.W.Frag} {R : Hp → Rho → α → β → Prop} {S : Hp → Rho → γ → δ → Prop} {f : LSt → LH → Out α} {k : α → LH → Out γ} {l : LSt} {L : LH} {ρ : Rho} {σ : L2.St} {H : Hp} {Q : δ → Hp → Prop} {Q1 : β → Hp → Prop}
    (rs : RS K H ρ l σ) (rep : Rep N K H L ρ) (p : Post N K S ((f l L).bind k) H ρ Q)
    (n : ∀ a b L1 H1 ρ1, Sty H H1 → Ex ρ ρ1 → RS K H1 ρ1 l σ → Rep N K H1 L1 ρ1 → R H1 ρ1 a b → Post N K S (k a L1) H1 ρ1 Q → Q1 b H1) : LT N K R f σ H Q1 := by
  refine ⟨l, L, ρ, rs, rep, ?_⟩
  cases e : f l L with
  | ok a L1 =>
    rw [e] at p
    intro H1 ρ1 b s1 e1 rep1 r
    exact n a b L1 H1 ρ1 s1 e1 (rs.mono s1 e1) rep1 r (p.mono s1 e1)
  | err x L1 =>
    rw [e] at p
    exact p.elim
  | bad =>
    rw [e] at p
    exact p.elim
end
end LG
end

section
set_option Elab.async false
set_option linter.all false
set_option maxRecDepth 100000
set_option maxHeartbeats 4000000
/-! LG6: the rules for expressions over the small language. -/
namespace LG
open PySem PySem.Spec PyProof.Rows L2

section
variable {T : Tb} {N : Na} {F : Fn} {lv : Nat} {X : Cx}

/-! ### what is walked -/
/-- an iterator that yields the items of S, made at H1, ρ1 -/
def Drv (N : Na) (K : PySem.W.Frag) (J : It) (S : Src) (H1 : Hp) (ρ1 : Rho) : Prop := ∀ (i : Nat) (H : Hp) (L : LH) (ρ : Rho), Sty H1 H → Ex ρ1 ρ → Rep N K H L ρ → Keeps L S →
  (∀ x, S.items[i]? = some x → J.go i H ∧ ∀ v H', J.yld i H v H' → ∃ ρ', Sty H H' ∧ Ex ρ ρ' ∧ Rep N K H' L ρ' ∧ Rl K H' ρ' x v) ∧ (S.items.length ≤ i → J.stop i H)
def PostI (N : Na) (K : PySem.W.Frag) (o : Out Src) (H : Hp) (ρ : Rho) (R : It → Hp → Prop) : Prop :=
  match o with
  | .ok S L' => ∀ H' ρ', Sty H H' → Ex ρ ρ' → Rep N K H' L' ρ' → ∀ J, Drv N K J S H' ρ' → R J H'
  | _ => False
def LTI (N : Na) (K : PySem.W.Frag) (f : LSt → LH → Out Src) : TI := fun σ H R => ∃ l L ρ, RS K H ρ l σ ∧ Rep N K H L ρ ∧ PostI N K (f l L) H ρ R
theorem PI.of {tg e : Expr} {t t' : TI} (h : PI X tg e t) (c : ∀ σ H R, t' σ H R → t σ H R) : PI X tg e t' := ⟨fun pins s σ H R I q => h.run pins s σ H R I (c _ _ _ q)⟩
/-- a list or a tuple -/
def iSeq (K : PySem.W.Frag) (te : TE) : TI := fun σ H R => te σ H fun x H1 => ∃ a, x = .ref a ∧ (((∃ xs, SqL K H1 a xs) ∧ R (Itl K a) H1) ∨ ((∃ xs, SqT K H1 a xs) ∧ R (Itt K a) H1))
theorem pi_seq {tg l : Expr} {te : TE} (hl : PE X l te) : PI X tg l (iSeq X.K te) := by
  refine ⟨fun pins s σ H R I h => ?_⟩
  refine thn (hl.run pins s σ H _ I h) fun v s1 ⟨x, H1, I1, r1, q1⟩ => ?_
  obtain ⟨a, e, q1⟩ := q1
  subst e
  cases r1
  rcases q1 with ⟨⟨xs, hq⟩, q⟩ | ⟨⟨xs, hq⟩, q⟩
  · obtain ⟨its, rv, p, hz⟩ := I1.list hq
    refine wpAny_pyIter_list p.isList ?_
    refine ⟨s1.heap.objs.size, [s1.heap.objs.size], _, _, H1, rfl, I1.kept (t' := s1.toks) fun b o e => Heap.get?_push_of_some _ e, turn_list a _, ⟨_, Heap.get?_push_size _ rfl, rfl, rfl⟩, fun b hb => ?_, q⟩
    have e : b = s1.heap.objs.size := by simpa using hb
    subst e
    exact I1.fpOk (Nat.le_refl _) (I1.hok.fresh (Nat.le_refl _))
  · obtain ⟨its, rv, p, hz⟩ := I1.tuple hq
    refine wpAny_pyIter_tuple (show s1.heap.IsTuple a its.toArray from p) ?_
    refine ⟨s1.heap.objs.size, [s1.heap.objs.size], _, _, H1, rfl, I1.kept (t' := s1.toks) fun b o e => Heap.get?_push_of_some _ e, turn_tuple a _, ⟨_, Heap.get?_push_size _ rfl, rfl, rfl⟩, fun b hb => ?_, q⟩
    have e : b = s1.heap.objs.size := by simpa using hb
    subst e
    exact I1.fpOk (Nat.le_refl _) (I1.hok.fresh (Nat.le_refl _))
theorem drv_tup {K : PySem.W.Frag} {H1 : Hp} {ρ1 : Rho} {a : Addr} {xs : List LV} {vs : List V} (s : SqT K H1 a vs) (r : Rls K H1 ρ1 xs vs)
    (inj : ∀ (H : Hp) (us : List V), Sty H1 H → SqT K H a us → us = vs) : Drv N K (Itt K a) (.vals xs) H1 ρ1 := fun i H L ρ st ex rep _ => by
  have s' := st.tup s
  have r' := Rls.mono st ex _ _ r
  refine ⟨fun x hx => ?_, fun hl => ⟨vs, s', by rw [← r.length]; exact hl⟩⟩
  obtain ⟨v, hv, rv⟩ := r'.get hx
  refine ⟨⟨vs, v, s', hv⟩, fun v2 H' y => ?_⟩
  obtain ⟨rfl, y⟩ := y
  have := y vs s'
  rw [hv] at this
  cases this
  exact ⟨ρ, Sty.refl _, Ex.refl _, rep, rv⟩
theorem drv_frz {K : PySem.W.Frag} {H1 : Hp} {ρ1 : Rho} {a : Addr} {xs : List LV} {vs : List V} (s : FzL K H1 a vs) (r : Rls K H1 ρ1 xs vs) : Drv N K (Itl K a) (.vals xs) H1 ρ1 := fun i H L ρ st ex rep _ => by
  have s' := (st.frz s).sq
  have r' := Rls.mono st ex _ _ r
  refine ⟨fun x hx => ?_, fun hl => ⟨vs, s', by rw [← r.length]; exact hl⟩⟩
  obtain ⟨v, hv, rv⟩ := r'.get hx
  refine ⟨⟨vs, v, s', hv⟩, fun v2 H' y => ?_⟩
  obtain ⟨rfl, y⟩ := y
  have := y vs s'
  rw [hv] at this
  cases this
  exact ⟨ρ, Sty.refl _, Ex.refl _, rep, rv⟩
theorem drv_lst {K : PySem.W.Frag} {H1 : Hp} {ρ1 : Rho} {a : Addr} {j : Nat} {xs : List LV} (h : ρ1 j = some a) : Drv N K (Itl K a) (.lst j xs) H1 ρ1 := fun i H L ρ st ex rep kp => by
  obtain ⟨a', vs, q1, q2, q3⟩ := rep.lst kp
  rw [ex _ _ h] at q1
  cases q1
  have s' : SqL K H a vs := .inl (.inl q2)
  refine ⟨fun x hx => ?_, fun hl => ⟨vs, s', by rw [← q3.length]; exact hl⟩⟩
  obtain ⟨v, hv, rv⟩ := q3.get hx
  refine ⟨⟨vs, v, s', hv⟩, fun v2 H' y => ?_⟩
  obtain ⟨rfl, y⟩ := y
  have := y vs s'
  rw [hv] at this
  cases this
  exact ⟨ρ, Sty.refl _, Ex.refl _, rep, rv⟩
theorem drv_rng {K : PySem.W.Frag} {H1 : Hp} {ρ1 : Rho} {lo : Int} {n : Nat} : Drv N K (Itr lo n) (.vals (rngL lo n)) H1 ρ1 := fun i H L ρ st ex rep _ => by
  have hlen : (rngL lo n).length = n := by simp [rngL]
  refine ⟨fun x hx => ?_, fun hl => ?_⟩
  · have hi : i < n := by
      have : i < (rngL lo n).length := (List.getElem?_eq_some_iff.mp hx).1
      omega
    refine ⟨hi, fun v H' y => ?_⟩
    obtain ⟨rfl, rfl⟩ := y
    refine ⟨ρ, Sty.refl _, Ex.refl _, rep, ?_⟩
    have : (rngL lo n)[i]? = some (LV.int (lo + i)) := by simp [rngL, hi]
    rw [show (Src.vals (rngL lo n)).items = rngL lo n from rfl, this] at hx
    cases hx
    exact Rl.int.mpr rfl
  · have : (Src.vals (rngL lo n)).items = rngL lo n := rfl
    rw [this, hlen] at hl
    exact hl
theorem sI_seq {tg e : Expr} {a : LE} (h : PE X e (LTE N X.K (evE F a))) : PI X tg e (LTI N X.K (evI F (.seq a))) := by
  refine PI.of (pi_seq h) fun σ H R ⟨l, L, ρ, rs, rep, p⟩ => ?_
  refine ⟨l, L, ρ, rs, rep, ?_⟩
  simp only [evI] at p
  cases e1 : evE F a l L with
  | err x L1 => rw [e1] at p; exact p.elim
  | bad => rw [e1] at p; exact p.elim
  | ok v L1 =>
    rw [e1] at p
    intro H1 ρ1 x st ex rep1 rx
    simp only [Out.bind] at p
    cases e2 : srcOf L1 v with
    | none => rw [e2] at p; exact p.elim
    | some S =>
      rw [e2] at p
      have p' : ∀ J, Drv N X.K J S H1 ρ1 → R J H1 := p H1 ρ1 st ex rep1
      cases v with
      | tup xs =>
        simp only [srcOf, Option.some.injEq] at e2
        subst e2
        obtain ⟨b, vs, rfl, s1, r1⟩ := Rl.tup.mp rx
        refine ⟨b, rfl, .inr ⟨⟨vs, s1⟩, p' _ ?_⟩⟩
        intro i H L ρ st ex rep _
        have s' := st.tup s1
        have r' := Rls.mono st ex _ _ r1
        refine ⟨fun x hx => ?_, fun hl => ⟨vs, s', by rw [← r1.length]; exact hl⟩⟩
        obtain ⟨v, hv, rv⟩ := r'.get hx
        refine ⟨⟨vs, v, s', hv⟩, fun v2 H' y => ?_⟩
        obtain ⟨rfl, y⟩ := y
        have := y vs s'
        rw [hv] at this
        cases this
        exact ⟨ρ, Sty.refl _, Ex.refl _, rep, rv⟩
      | scr xs =>
        simp only [srcOf, Option.some.injEq] at e2
        subst e2
        obtain ⟨b, vs, rfl, s1, r1⟩ := Rl.scr.mp rx
        exact ⟨b, rfl, .inl ⟨⟨vs, s1.sq⟩, p' _ (drv_frz s1 r1)⟩⟩
      | ref i =>
        simp only [srcOf] at e2
        obtain ⟨b, h1, rfl⟩ := Rl.ref.mp rx
        split at e2
        · rename_i xs e3
          cases e2
          obtain ⟨b', vs, q1, q2, q3⟩ := rep1.lst e3
          rw [h1] at q1; cases q1
          exact ⟨b, rfl, .inl ⟨⟨vs, .inl (.inl q2)⟩, p' _ (drv_lst h1)⟩⟩
        · cases e2
      | _ => simp [srcOf] at e2
theorem sI_rng1 {tg y : Expr} {pr pos : Pos} {a : LE} (G : Good T N F lv X) (hg : Gl X "range") (hs : notStar y = true) (h : PE X y (LTE N X.K (evE F a))) : PI X tg (.Call (.Name "range" pr) [y] [] pos) (LTI N X.K (evI F (.rng1 a))) := by
  refine PI.of (pi_range1 hg G.fx.rng (pa_cons h pa_nil (star_cons hs)) (star_cons hs)) fun σ H R ⟨l, L, ρ, rs, rep, p⟩ => ?_
  refine ⟨l, L, ρ, rs, rep, ?_⟩
  simp only [evI] at p
  cases e1 : evE F a l L with
  | err x L1 => rw [e1] at p; exact p.elim
  | bad => rw [e1] at p; exact p.elim
  | ok v L1 =>
    rw [e1] at p
    intro H1 ρ1 x st ex rep1 rx
    simp only [Out.bind] at p
    split at p
    · cases Rl.int.mp rx
      split at p
      · rename_i hb
        exact ⟨_, rfl, hb.1, hb.2, p H1 ρ1 st ex rep1 _ drv_rng⟩
      · exact p.elim
    · exact p.elim
theorem sI_rng2 {tg y z : Expr} {pr pos : Pos} {a b : LE} (G : Good T N F lv X) (hg : Gl X "range") (hs : notStar y = true) (hs2 : notStar z = true) (h : PE X y (LTE N X.K (evE F a))) (h2 : PE X z (LTE N X.K (evE F b))) :
    PI X tg (.Call (.Name "range" pr) [y, z] [] pos) (LTI N X.K (evI F (.rng2 a b))) := by
  refine PI.of (pi_range2 hg G.fx.rng (pa_cons h (pa_cons h2 pa_nil (star_cons hs2)) (star_cons hs)) (by rw [star_cons hs, star_cons hs2]; rfl) (star_cons hs2)) fun σ H R ⟨l, L, ρ, rs, rep, p⟩ => ?_
  refine ⟨l, L, ρ, rs, rep, ?_⟩
  simp only [evI] at p
  cases e1 : evE F a l L with
  | err x L1 => rw [e1] at p; exact p.elim
  | bad => rw [e1] at p; exact p.elim
  | ok v L1 =>
    rw [e1] at p
    intro H1 ρ1 x st ex rep1 rx
    refine ⟨l, L1, ρ1, rs.mono st ex, rep1, ?_⟩
    simp only [Out.bind] at p
    cases e2 : evE F b l L1 with
    | err x L1 => rw [e2] at p; exact p.elim
    | bad => rw [e2] at p; exact p.elim
    | ok u L2 =>
      rw [e2] at p
      intro H2 ρ2 x2 st2 ex2 rep2 rx2
      simp only [Out.bind] at p
      split at p
      · cases Rl.int.mp rx; cases Rl.int.mp rx2
        split at p
        · rename_i hb
          exact ⟨_, _, rfl, hb, p H2 ρ2 (st.trans st2) (ex.trans ex2) rep2 _ drv_rng⟩
        · exact p.elim
      · exact p.elim

/-! ### leaves -/
theorem sE_var {i : Nat} {x : Str} {pos : Pos} (hN : X.N[i]? = some x) (hv : visB X.env.scope x = true) (hd : (x == ("__debug__" : Str)) = false) (hcd : (x == ("__classdict__" : Str)) = false) : PE X (.Name x pos) (LTE N X.K (evE F (.var i))) := by
  refine PE.of (pe_var hN (visB_ok hv) hd hcd) fun σ H Q ⟨l, L, ρ, rs, rep, p⟩ => ?_
  simp only [evE] at p
  split at p
  · rename_i v e
    obtain ⟨v', h1, h2⟩ := rs.2 i v e
    exact ⟨v', h1, p.here rep h2⟩
  · exact p.elim
theorem sE_con {v : LV} {c : Const} {j : Nat} {pos : Pos} (h : ckC v c = true) : PE X (.Constant c j pos) (LTE N X.K (evE F (.con v))) := by
  unfold ckC at h
  split at h
  · have e := of_decide_eq_true h
    subst e
    exact PE.of pe_int fun σ H Q ⟨l, L, ρ, rs, rep, p⟩ => p.here rep (Rl.int.mpr rfl)
  · have e := of_decide_eq_true h
    subst e
    exact PE.of pe_str fun σ H Q ⟨l, L, ρ, rs, rep, p⟩ => p.here rep (Rl.str.mpr rfl)
  · have e := of_decide_eq_true h
    subst e
    exact PE.of pe_bl fun σ H Q ⟨l, L, ρ, rs, rep, p⟩ => p.here rep (Rl.bl.mpr rfl)
  · exact PE.of pe_non fun σ H Q ⟨l, L, ρ, rs, rep, p⟩ => p.here rep (Rl.non.mpr rfl)
  · cases h
theorem sE_glo {i : Nat} {x : Str} {pos : Pos} (G : Good T N F lv X) (ht : T.glos[i]? = some x) (hg : glB X.env.scope x = true) : PE X (.Name x pos) (LTE N X.K (evE F (.glo i))) := by
  obtain ⟨g1, g2, g3⟩ := glB_ok hg
  cases e : F.glo i with
  | none =>
    refine ⟨fun pins s σ H Q I ⟨l, L, ρ, rs, rep, p⟩ => ?_⟩
    simp only [evE, e, ofOpt] at p
    exact p.elim
  | some v =>
    obtain ⟨u, v', h1, h2, h3, _⟩ := G.fx.glo i x v ht e
    refine PE.of (pe_glob g1 h1 h2 g2) fun σ H Q ⟨l, L, ρ, rs, rep, p⟩ => ?_
    simp only [evE, e, ofOpt] at p
    exact p.here rep (h3 _ _)
/-! ### operators -/
theorem sE_bin {o : B2} {a b : LE} {x y : Expr} {pos : Pos} (ha : PE X x (LTE N X.K (evE F a))) (hb : PE X y (LTE N X.K (evE F b))) : PE X (.BinOp x (bop o) y pos) (LTE N X.K (evE F (.bin o a b))) := by
  refine PE.of (pe_op (op_binV (N := N) o) ha hb) fun σ H Q ⟨l, L, ρ, rs, rep, p⟩ => ?_
  simp only [evE] at p
  exact LT.bind rs rep p fun v x L1 H1 ρ1 s1 e1 rs1 rep1 r1 p1 => LT.bind rs1 rep1 p1 fun u y L2 H2 ρ2 s2 e2 rs2 rep2 r2 p2 => ⟨v, u, L2, ρ2, rep2, Rl.mono s2 e2 _ _ r1, r2, p2⟩
theorem sE_neg {a : LE} {x : Expr} {pos : Pos} (ha : PE X x (LTE N X.K (evE F a))) : PE X (.UnaryOp .USub x pos) (LTE N X.K (evE F (.neg a))) := by
  refine PE.of (pe_un un_neg ha) fun σ H Q ⟨l, L, ρ, rs, rep, p⟩ => ?_
  simp only [evE] at p
  refine LT.bind rs rep p fun v x L1 H1 ρ1 s1 e1 rs1 rep1 r1 p1 => ?_
  split at p1
  · cases Rl.int.mp r1
    exact ⟨_, rfl, p1.here rep1 (Rl.int.mpr rfl)⟩
  · exact p1.elim
theorem sE_cmp {o : C2} {a b : LE} {x y : Expr} {pos : Pos} (G : Good T N F lv X) (hm : behindInMarks (cop o) y = false) (ha : PE X x (LTE N X.K (evE F a))) (hb : PE X y (LTE N X.K (evE F b))) :
    PE X (.Compare x [cop o] [y] pos) (LTE N X.K (evE F (.cmp o a b))) := by
  refine PE.of (pe_cmpR (op_cmpV (N := N) o G.hu) ha hb hm) fun σ H Q ⟨l, L, ρ, rs, rep, p⟩ => ?_
  simp only [evE] at p
  refine LT.bind rs rep p fun v x L1 H1 ρ1 s1 e1 rs1 rep1 r1 p1 => LT.bind rs1 rep1 p1 fun u y L2 H2 ρ2 s2 e2 rs2 rep2 r2 p2 => ?_
  cases e : cmpV L2 o v u with
  | none => rw [e] at p2; exact p2.elim
  | some k =>
    rw [e] at p2
    exact ⟨v, u, L2, ρ2, k, rep2, Rl.mono s2 e2 _ _ r1, r2, e, p2.here rep2 (Rl.bl.mpr rfl)⟩
theorem sT_cmp {o : C2} {a b : LE} {x y : Expr} {pos : Pos} (G : Good T N F lv X) (hm : behindInMarks (cop o) y = false) (ha : PE X x (LTE N X.K (evE F a))) (hb : PE X y (LTE N X.K (evE F b))) :
    PT X (.Compare x [cop o] [y] pos) (LTB N X.K (evT F (.cmp o a b))) := by
  refine PT.of (pt_cmpR (op_cmpV (N := N) o G.hu) ha hb hm) fun σ H Q ⟨l, L, ρ, rs, rep, p⟩ => ?_
  simp only [evT] at p
  refine LT.bind rs rep p fun v x L1 H1 ρ1 s1 e1 rs1 rep1 r1 p1 => LT.bind rs1 rep1 p1 fun u y L2 H2 ρ2 s2 e2 rs2 rep2 r2 p2 => ?_
  cases e : cmpV L2 o v u with
  | none => rw [e] at p2; exact p2.elim
  | some k =>
    rw [e] at p2
    exact ⟨v, u, L2, ρ2, k, rep2, Rl.mono s2 e2 _ _ r1, r2, e, k, rfl, p2.here rep2 rfl⟩
theorem sE_chn {o o' : C2} {a b c : LE} {x y z : Expr} {pos : Pos} (G : Good T N F lv X) (hm : lastMarks [cop o, cop o'] [y, z] = false) (ha : PE X x (LTE N X.K (evE F a))) (hb : PE X y (LTE N X.K (evE F b))) (hc : PE X z (LTE N X.K (evE F c))) :
    PE X (.Compare x [cop o, cop o'] [y, z] pos) (LTE N X.K (evE F (.chn o o' a b c))) := by
  refine PE.of (pe_chain (op_cmpV (N := N) o G.hu) (op_cmpV (N := N) o' G.hu) ha hb hc hm) fun σ H Q ⟨l, L, ρ, rs, rep, p⟩ => ?_
  simp only [evE] at p
  refine LT.bind rs rep p fun v x L1 H1 ρ1 s1 e1 rs1 rep1 r1 p1 => LT.bind rs1 rep1 p1 fun u y L2 H2 ρ2 s2 e2 rs2 rep2 r2 p2 => ?_
  cases e : cmpV L2 o v u with
  | none => rw [e] at p2; exact p2.elim
  | some k =>
    rw [e] at p2
    refine ⟨v, u, L2, ρ2, k, rep2, Rl.mono s2 e2 _ _ r1, r2, e, k, rfl, ?_⟩
    cases k with
    | false =>
      simp only [ofOpt, Out.bind, Bool.false_eq_true, if_false] at p2 ⊢
      exact p2.here rep2 (Rl.bl.mpr rfl)
    | true =>
      simp only [ofOpt, Out.bind, if_true] at p2 ⊢
      refine LT.bind rs2 rep2 p2 fun w z L4 H4 ρ4 s4 e4 rs4 rep4 r4 p4 => ?_
      cases e' : cmpV L4 o' u w with
      | none => rw [e'] at p4; exact p4.elim
      | some k' =>
        rw [e'] at p4
        exact ⟨u, w, L4, ρ4, k', rep4, Rl.mono s4 e4 _ _ r2, r4, e', p4.here rep4 (Rl.bl.mpr rfl)⟩
theorem sT_chn {o o' : C2} {a b c : LE} {x y z : Expr} {pos : Pos} (G : Good T N F lv X) (hm : lastMarks [cop o, cop o'] [y, z] = false) (ha : PE X x (LTE N X.K (evE F a))) (hb : PE X y (LTE N X.K (evE F b))) (hc : PE X z (LTE N X.K (evE F c))) :
    PT X (.Compare x [cop o, cop o'] [y, z] pos) (LTB N X.K (evT F (.chn o o' a b c))) := by
  refine PT.of (pt_chain (op_cmpV (N := N) o G.hu) (op_cmpV (N := N) o' G.hu) ha hb hc hm) fun σ H Q ⟨l, L, ρ, rs, rep, p⟩ => ?_
  simp only [evT] at p
  refine LT.bind rs rep p fun v x L1 H1 ρ1 s1 e1 rs1 rep1 r1 p1 => LT.bind rs1 rep1 p1 fun u y L2 H2 ρ2 s2 e2 rs2 rep2 r2 p2 => ?_
  cases e : cmpV L2 o v u with
  | none => rw [e] at p2; exact p2.elim
  | some k =>
    rw [e] at p2
    refine ⟨v, u, L2, ρ2, k, rep2, Rl.mono s2 e2 _ _ r1, r2, e, k, rfl, ?_⟩
    cases k with
    | false =>
      simp only [ofOpt, Out.bind, Bool.false_eq_true, if_false] at p2 ⊢
      exact ⟨false, rfl, p2.here rep2 rfl⟩
    | true =>
      simp only [ofOpt, Out.bind, if_true] at p2 ⊢
      refine LT.bind rs2 rep2 p2 fun w z L4 H4 ρ4 s4 e4 rs4 rep4 r4 p4 => ?_
      cases e' : cmpV L4 o' u w with
      | none => rw [e'] at p4; exact p4.elim
      | some k' =>
        rw [e'] at p4
        exact ⟨u, w, L4, ρ4, k', rep4, Rl.mono s4 e4 _ _ r2, r4, e', k', rfl, p4.here rep4 rfl⟩
theorem sE_not {a : LE} {x : Expr} {pos : Pos} (ha : PE X x (LTE N X.K (evE F a))) : PE X (.UnaryOp .Not x pos) (LTE N X.K (evE F (.not a))) := by
  refine PE.of (pe_not ha) fun σ H Q ⟨l, L, ρ, rs, rep, p⟩ => ?_
  simp only [evE] at p
  refine LT.bind rs rep p fun v x L1 H1 ρ1 s1 e1 rs1 rep1 r1 p1 => ?_
  split at p1
  · cases Rl.bl.mp r1
    exact ⟨_, rfl, p1.here rep1 (Rl.bl.mpr rfl)⟩
  · exact p1.elim
theorem sT_not {a : LE} {x : Expr} {pos : Pos} (ha : PT X x (LTB N X.K (evT F a))) : PT X (.UnaryOp .Not x pos) (LTB N X.K (evT F (.not a))) := by
  refine PT.of (pt_not ha) fun σ H Q ⟨l, L, ρ, rs, rep, p⟩ => ?_
  simp only [evT] at p
  refine LT.bind rs rep p fun v x L1 H1 ρ1 s1 e1 rs1 rep1 r1 p1 => ?_
  subst r1
  exact p1.here rep1 rfl
theorem sE_ite {c a b : LE} {t x y : Expr} {pos : Pos} (hc : PT X t (LTB N X.K (evT F c))) (ha : PE X x (LTE N X.K (evE F a))) (hb : PE X y (LTE N X.K (evE F b))) : PE X (.IfExp t x y pos) (LTE N X.K (evE F (.ite c a b))) := by
  refine PE.of (pe_ifExp hc ha hb) fun σ H Q ⟨l, L, ρ, rs, rep, p⟩ => ?_
  simp only [evE] at p
  refine LT.bind rs rep p fun v x L1 H1 ρ1 s1 e1 rs1 rep1 r1 p1 => ?_
  subst r1
  cases v with
  | true => exact ⟨l, L1, ρ1, rs1, rep1, p1⟩
  | false => exact ⟨l, L1, ρ1, rs1, rep1, p1⟩
/-! ### and, or -/
theorem sAnd_one {op : BoolOp} {e : LE} {x : Expr} {pos : Pos} (h : PE X x (LTE N X.K (evE F e))) : PE X (.BoolOp op [x] pos) (LTE N X.K (evE F e)) := pe_one h
theorem sAnd_cons {e e2 : LE} {es : LEs} {x y : Expr} {l : List Expr} {pos : Pos} (h : PE X x (LTE N X.K (evE F e))) (h2 : PE X (.BoolOp .And (y :: l) pos) (LTE N X.K (evAnd F (.cons e2 es)))) :
    PE X (.BoolOp .And (x :: y :: l) pos) (LTE N X.K (evAnd F (.cons e (.cons e2 es)))) := by
  refine PE.of (pe_and h h2) fun σ H Q ⟨l, L, ρ, rs, rep, p⟩ => ?_
  rw [evAnd] at p
  · refine LT.bind rs rep p fun v x L1 H1 ρ1 s1 e1 rs1 rep1 r1 p1 => ?_
    split at p1
    · cases Rl.bl.mp r1
      exact ⟨true, rfl, l, L1, ρ1, rs1, rep1, p1⟩
    · cases Rl.bl.mp r1
      exact ⟨false, rfl, p1.here rep1 (Rl.bl.mpr rfl)⟩
    · exact p1.elim
  · intro h; cases h
theorem sOr_cons {e e2 : LE} {es : LEs} {x y : Expr} {l : List Expr} {pos : Pos} (h : PE X x (LTE N X.K (evE F e))) (h2 : PE X (.BoolOp .Or (y :: l) pos) (LTE N X.K (evOr F (.cons e2 es)))) :
    PE X (.BoolOp .Or (x :: y :: l) pos) (LTE N X.K (evOr F (.cons e (.cons e2 es)))) := by
  refine PE.of (pe_or h h2) fun σ H Q ⟨l, L, ρ, rs, rep, p⟩ => ?_
  rw [evOr] at p
  · refine LT.bind rs rep p fun v x L1 H1 ρ1 s1 e1 rs1 rep1 r1 p1 => ?_
    split at p1
    · cases Rl.bl.mp r1
      exact ⟨true, rfl, p1.here rep1 (Rl.bl.mpr rfl)⟩
    · cases Rl.bl.mp r1
      exact ⟨false, rfl, l, L1, ρ1, rs1, rep1, p1⟩
    · exact p1.elim
  · intro h; cases h
theorem sTA_one {e : LE} {x : Expr} {pos : Pos} (h : PT X x (LTB N X.K (evT F e))) : PW X (.BoolOp .And [x] pos) (LTB N X.K (evTA F (.cons e .nil))) := PW.of (pw_and1 h) fun σ H Q q => q
theorem sTO_one {e : LE} {x : Expr} {pos : Pos} (h : PT X x (LTB N X.K (evT F e))) : PW X (.BoolOp .Or [x] pos) (LTB N X.K (evTO F (.cons e .nil))) := PW.of (pw_or1 h) fun σ H Q q => q
theorem sTA_cons {e e2 : LE} {es : LEs} {x y : Expr} {l : List Expr} {pos : Pos} (h : PT X x (LTB N X.K (evT F e))) (h2 : PW X (.BoolOp .And (y :: l) pos) (LTB N X.K (evTA F (.cons e2 es)))) :
    PW X (.BoolOp .And (x :: y :: l) pos) (LTB N X.K (evTA F (.cons e (.cons e2 es)))) := by
  refine PW.of (pw_and h h2) fun σ H Q ⟨l, L, ρ, rs, rep, p⟩ => ?_
  rw [evTA] at p
  · refine LT.bind rs rep p fun v x L1 H1 ρ1 s1 e1 rs1 rep1 r1 p1 => ?_
    subst r1
    cases v with
    | true => exact ⟨l, L1, ρ1, rs1, rep1, p1⟩
    | false => exact p1.here rep1 rfl
  · intro h; cases h
theorem sTO_cons {e e2 : LE} {es : LEs} {x y : Expr} {l : List Expr} {pos : Pos} (h : PT X x (LTB N X.K (evT F e))) (h2 : PW X (.BoolOp .Or (y :: l) pos) (LTB N X.K (evTO F (.cons e2 es)))) :
    PW X (.BoolOp .Or (x :: y :: l) pos) (LTB N X.K (evTO F (.cons e (.cons e2 es)))) := by
  refine PW.of (pw_or h h2) fun σ H Q ⟨l, L, ρ, rs, rep, p⟩ => ?_
  rw [evTO] at p
  · refine LT.bind rs rep p fun v x L1 H1 ρ1 s1 e1 rs1 rep1 r1 p1 => ?_
    subst r1
    cases v with
    | true => exact p1.here rep1 rfl
    | false => exact ⟨l, L1, ρ1, rs1, rep1, p1⟩
  · intro h; cases h
/-! ### displays, subscripts, fields -/
theorem sA_nil : PA X [] (LTA N X.K (evA F .nil)) := PA.of pa_nil fun σ H Q ⟨l, L, ρ, rs, rep, p⟩ => p.here rep Rls.nil'
theorem sA_cons {e : LE} {es : LEs} {x : Expr} {xs : List Expr} (hs : notStar x = true) (h : PE X x (LTE N X.K (evE F e))) (h2 : PA X xs (LTA N X.K (evA F es))) : PA X (x :: xs) (LTA N X.K (evA F (.cons e es))) := by
  refine PA.of (pa_cons h h2 (star_cons hs)) fun σ H Q ⟨l, L, ρ, rs, rep, p⟩ => ?_
  simp only [evA] at p
  exact LT.bind rs rep p fun v x L1 H1 ρ1 s1 e1 rs1 rep1 r1 p1 => LT.bind rs1 rep1 p1 fun u y L2 H2 ρ2 s2 e2 rs2 rep2 r2 p2 => p2.here rep2 (Rls.mk (Rl.mono s2 e2 _ _ r1) r2)
theorem sE_tup {es : LEs} {xs : List Expr} {k : Nat} {pos : Pos} (h : PA X xs (LTA N X.K (evA F es))) : PE X (.Tuple xs k pos) (LTE N X.K (evE F (.tup es))) := by
  refine PE.of (pe_tup h) fun σ H Q ⟨l, L, ρ, rs, rep, p⟩ => ?_
  simp only [evE] at p
  refine LT.bind rs rep p fun v x L1 H1 ρ1 s1 e1 rs1 rep1 r1 p1 => ?_
  split at p1
  · rename_i hz
    rw [r1.length] at hz
    exact ⟨hz, Post.newT rep1 r1 p1⟩
  · exact p1.elim
theorem sE_lst {es : LEs} {xs : List Expr} {pos : Pos} (h : PA X xs (LTA N X.K (evA F es))) : PE X (.List xs pos) (LTE N X.K (evE F (.lst es))) := by
  refine PE.of (pe_lst h) fun σ H Q ⟨l, L, ρ, rs, rep, p⟩ => ?_
  simp only [evE] at p
  refine LT.bind rs rep p fun v x L1 H1 ρ1 s1 e1 rs1 rep1 r1 p1 => ?_
  split at p1
  · rename_i hz
    rw [r1.length] at hz
    exact ⟨hz, Post.newL rep1 r1 p1⟩
  · exact p1.elim
theorem sE_dct0 {pos : Pos} : PE X (.Dict [] [] pos) (LTE N X.K (evE F .dct0)) := by
  refine PE.of pe_dnewK fun σ H Q ⟨l, L, ρ, rs, rep, p⟩ => ?_
  intro q hq
  exact p _ _ _ (Sty.new hq) (rep.exNew q) (rep.new hq (fun z => z) ⟨[], upd_same, rfl⟩) (Rl.ref.mpr ⟨q, rhoNew_self, rfl⟩)
theorem sE_idx {a i : LE} {x y : Expr} {pos : Pos} (G : Good T N F lv X) (hi : notSlice y = true) (ha : PE X x (LTE N X.K (evE F a))) (hb : PE X y (LTE N X.K (evE F i))) : PE X (.Subscript x y pos) (LTE N X.K (evE F (.idx a i))) := by
  refine PE.of (pe_ix (ix_idxV (N := N) G.hu) ha hb (ix_plain hi)) fun σ H Q ⟨l, L, ρ, rs, rep, p⟩ => ?_
  simp only [evE] at p
  exact LT.bind rs rep p fun v x L1 H1 ρ1 s1 e1 rs1 rep1 r1 p1 => LT.bind rs1 rep1 p1 fun u y L2 H2 ρ2 s2 e2 rs2 rep2 r2 p2 => ⟨v, u, L2, ρ2, rep2, Rl.mono s2 e2 _ _ r1, r2, p2⟩
theorem po_part {lo : LE} {o : Option Expr} (h : (match o with
    | none => isNon lo = true
    | some e => isNon lo = false ∧ PE X e (LTE N X.K (evE F lo)))) :
    ∃ t, PO X o t ∧ ∀ σ H Q, LT N X.K (fun _ _ (a b : Option Int) => a = b) (fun l L => if isNon lo = true then .ok none L else (evE F lo l L).bind partV) σ H Q → t σ H Q := by
  cases o with
  | none =>
    refine ⟨_, po_none, fun σ H Q ⟨l, L, ρ, rs, rep, p⟩ => ?_⟩
    dsimp only at h p
    rw [if_pos h] at p
    exact p.here rep rfl
  | some e =>
    obtain ⟨h1, h2⟩ := h
    refine ⟨_, po_some h2, fun σ H Q ⟨l, L, ρ, rs, rep, p⟩ => ?_⟩
    dsimp only at p
    rw [if_neg (by rw [h1]; exact Bool.false_ne_true)] at p
    refine LT.bind rs rep p fun v x L1 H1 ρ1 s1 e1 rs1 rep1 r1 p1 => ?_
    unfold partV at p1
    split at p1
    · cases Rl.int.mp r1
      exact ⟨_, rfl, p1.here rep1 rfl⟩
    · exact p1.elim
theorem PO.of {o : Option Expr} {t t' : TO} (h : PO X o t) (c : ∀ σ H Q, t' σ H Q → t σ H Q) : PO X o t' := ⟨fun pins s σ H Q I q => h.run pins s σ H Q I (c _ _ _ q)⟩
theorem sE_slc {a lo hi : LE} {x : Expr} {l h : Option Expr} {p2 pos : Pos} (ha : PE X x (LTE N X.K (evE F a)))
    (hl : match l with
      | none => isNon lo = true
      | some e => isNon lo = false ∧ PE X e (LTE N X.K (evE F lo)))
    (hh : match h with
      | none => isNon hi = true
      | some e => isNon hi = false ∧ PE X e (LTE N X.K (evE F hi))) : PE X (.Subscript x (.Slice l h none p2) pos) (LTE N X.K (evE F (.slc a lo hi))) := by
  obtain ⟨tl, pl, cl⟩ := po_part hl
  obtain ⟨th, ph, ch⟩ := po_part hh
  refine PE.of (pe_slice (sl_slcV (N := N)) ha (PO.of pl cl) (PO.of ph ch)) fun σ H Q ⟨l, L, ρ, rs, rep, p⟩ => ?_
  simp only [evE] at p
  exact LT.bind rs rep p fun v x L1 H1 ρ1 s1 e1 rs1 rep1 r1 p1 => LT.bind (f := fun l L => if isNon lo = true then .ok none L else (evE F lo l L).bind partV) rs1 rep1 p1 fun u y L2 H2 ρ2 s2 e2 rs2 rep2 r2 p2 =>
    LT.bind (f := fun l L => if isNon hi = true then .ok none L else (evE F hi l L).bind partV) rs2 rep2 p2 fun w z L3 H3 ρ3 s3 e3 rs3 rep3 r3 p3 => by
      subst r2 r3
      exact ⟨v, L3, ρ3, rep3, Rl.mono (s2.trans s3) (e2.trans e3) _ _ r1, p3⟩
theorem sE_fld {a : LE} {f : Nat} {x : Expr} {at' : Str} {pos : Pos} (G : Good T N F lv X) (ht : T.nms[f]? = some at') (h0 : notCall0 x = true) (ha : PE X x (LTE N X.K (evE F a))) : PE X (.Attribute x at' pos) (LTE N X.K (evE F (.fld a f))) := by
  refine PE.of (pe_fld ha (attr_no h0)) fun σ H Q ⟨l, L, ρ, rs, rep, p⟩ => ?_
  simp only [evE] at p
  refine LT.bind rs rep p fun v x L1 H1 ρ1 s1 e1 rs1 rep1 r1 p1 => ?_
  unfold fldV at p1
  split at p1
  · obtain ⟨b, h1, rfl⟩ := Rl.ref.mp r1
    split at p1
    · rename_i c fs e
      obtain ⟨b', dx, vs, q1, q2, q3, q4, q5⟩ := rep1.ins e
      rw [h1] at q1; cases q1
      split at p1
      · rename_i w ew
        have en := G.fx.nms f at' ht
        obtain ⟨w', hw, rw'⟩ := (q3.lookup G.fx.inj (f := f)).1 w ew
        rw [en] at hw
        have hmem : ∃ y, (f, y) ∈ fs := by
          clear p1 q3 q5 e hw
          induction fs with
          | nil => simp [fget] at ew
          | cons g r ih =>
            obtain ⟨g, y⟩ := g
            simp only [fget] at ew
            split at ew
            · rename_i eg; subst eg; exact ⟨y, List.mem_cons_self⟩
            · obtain ⟨z, hz⟩ := ih ew; exact ⟨z, List.mem_cons_of_mem _ hz⟩
        obtain ⟨y, hy⟩ := hmem
        have na := q5 _ hy
        rw [show N.nm (f, y).1 = at' from en] at na
        exact ⟨b, _, dx, vs, w', rfl, q2, q4, na, hw, p1.here rep1 rw'⟩
      · exact p1.elim
    · exact p1.elim
  · exact p1.elim
/-! ### calls -/
theorem sE_call {f : Nat} {es : LEs} {x : Str} {xs : List Expr} {p pos : Pos} (G : Good T N F lv X) (ht : T.fns[f]? = some x) (hg : glB X.env.scope x = true) (hs : xs.all notStar = true) (h : PA X xs (LTA N X.K (evA F es))) (hnil : xs = [] → es = .nil) :
    PE X (.Call (.Name x p) xs [] pos) (LTE N X.K (evE F (.call f es))) := by
  obtain ⟨g1, g2, g3⟩ := glB_ok hg
  obtain ⟨fa, fd, ps, hm, hk, hb, Fk⟩ := G.fx.call f x ht
  cases xs with
  | nil =>
    have := hnil rfl
    subst this
    refine PE.of (pe_call0 Fk (G.room.mono (Nat.le_succ _)) g1 hm hk hb .nil pass0 g2) fun σ H Q ⟨l, L, ρ, rs, rep, p⟩ => ?_
    exact ⟨[], L, ρ, rep, Rls.nil', p⟩
  | cons y ys =>
    simp only [List.all_cons, Bool.and_eq_true] at hs
    refine PE.of (pe_call Fk (G.room.mono (Nat.le_succ _)) g1 hm hk hb .nil pass0 h g2 (star_cons hs.1) (star_any hs.2)) fun σ H Q ⟨l, L, ρ, rs, rep, p⟩ => ?_
    simp only [evE] at p
    refine LT.bind rs rep p fun v x L1 H1 ρ1 s1 e1 rs1 rep1 r1 p1 => ?_
    rw [List.append_nil]
    exact ⟨v, L1, ρ1, rep1, r1, p1⟩
theorem evA_len : ∀ {es : LEs} {σ : LSt} {L L1 : LH} {vs : List LV}, evA F es σ L = .ok vs L1 → vs.length = es.len
  | .nil, σ, L, L1, vs, h => by simp only [evA] at h; cases h; rfl
  | .cons e es, σ, L, L1, vs, h => by
    simp only [evA] at h
    cases e1 : evE F e σ L with
    | err x L2 => rw [e1] at h; cases h
    | bad => rw [e1] at h; cases h
    | ok v L2 =>
      rw [e1] at h
      simp only [Out.bind] at h
      cases e2 : evA F es σ L2 with
      | err x L2 => rw [e2] at h; cases h
      | bad => rw [e2] at h; cases h
      | ok us L3 =>
        rw [e2] at h
        cases h
        simp [LEs.len, evA_len e2]
/-- sequencing, with what was computed -/
theorem LT.bindE {α β γ δ : Type} {K : PySem.W.Frag} {R : Hp → Rho → α → β → Prop} {S : Hp → Rho → γ → δ → Prop} {f : LSt → LH → Out α} {k : α → LH → Out γ} {l : LSt} {L : LH} {ρ : Rho} {σ : L2.St} {H : Hp} {Q : δ → Hp → Prop} {Q1 : β → Hp → Prop}
    (rs : RS K H ρ l σ) (rep : Rep N K H L ρ) (p : Post N K S ((f l L).bind k) H ρ Q)
    (n : ∀ a b L1 H1 ρ1, f l L = .ok a L1 → Sty H H1 → Ex ρ ρ1 → RS K H1 ρ1 l σ → Rep N K H1 L1 ρ1 → R H1 ρ1 a b → Post N K S (k a L1) H1 ρ1 Q → Q1 b H1) : LT N K R f σ H Q1 := by
  refine ⟨l, L, ρ, rs, rep, ?_⟩
  cases e : f l L with
  | ok a L1 =>
    rw [e] at p
    intro H1 ρ1 b s1 e1 rep1 r
    exact n a b L1 H1 ρ1 e s1 e1 (rs.mono s1 e1) rep1 r (p.mono s1 e1)
  | err x L1 => rw [e] at p; exact p.elim
  | bad => rw [e] at p; exact p.elim
theorem kw_names : ∀ {kws : List Keyword} {nks : List Str} {pos : Pos} {env : Env}, kws.map (·.arg) = nks.map some → (backToKw pos (keywordEach kws env)).filterMap (·.1) = nks ∧ (backToKw pos (keywordEach kws env)).all (·.1.isSome) = true ∧ (backToKw pos (keywordEach kws env)).any (·.1.isNone) = false
  | [], [], _, _, _ => ⟨rfl, rfl, rfl⟩
  | [], _ :: _, _, _, h => by simp at h
  | _ :: _, [], _, _, h => by simp at h
  | ⟨nm, e, kp⟩ :: kws, n :: nks, pos, env, h => by
    simp only [List.map_cons, List.cons.injEq] at h
    obtain ⟨rfl, h2⟩ := h
    obtain ⟨a, b, c⟩ := kw_names (pos := pos) (env := env) h2
    unfold backToKw at a b c ⊢
    simp only [keywordEach, List.map_cons, List.filterMap_cons, List.all_cons, List.any_cons, Option.isSome_some, Option.isNone_some, Bool.true_and, Bool.false_or]
    exact ⟨by rw [a], b, c⟩
/-- f(.., k = ..), or with defaults -/
theorem sE_callk {f : Nat} {es kes : LEs} {ks : List Nat} {x : Str} {y : Expr} {ys : List Expr} {kws : List Keyword} {p pos : Pos} (G : Good T N F lv X) (ht : T.fks.lookup f = some x) (hg : glB X.env.scope x = true) (hs : (y :: ys).all notStar = true)
    (hk : kws.map (·.arg) = ks.map fun i => T.nms[i]?) (h : PA X (y :: ys) (LTA N X.K (evA F es))) (hkw : PK X kws (LTA N X.K (evA F kes))) (hn : (y :: ys).length = es.len) (hn2 : kws.length = kes.len) :
    PE X (.Call (.Name x p) (y :: ys) kws pos) (LTE N X.K (evE F (.callk f es ks kes))) := by
  obtain ⟨g1, g2, g3⟩ := glB_ok hg
  have hs' := hs
  simp only [List.all_cons, Bool.and_eq_true] at hs'
  cases hsl : F.kw f es.len ks with
  | none =>
    refine ⟨fun pins s σ H Q I ⟨l, L, ρ, rs, rep, p⟩ => ?_⟩
    simp only [evE] at p
    exfalso
    cases e1 : evA F es l L with
    | err x L1 => rw [e1] at p; exact p
    | bad => rw [e1] at p; exact p
    | ok vs L1 =>
      rw [e1] at p
      simp only [Out.bind] at p
      rw [evA_len e1] at p
      cases e2 : evA F kes l L1 with
      | err x L1 => rw [e2] at p; exact p
      | bad => rw [e2] at p; exact p
      | ok zs L2 => rw [e2] at p; simp only [hsl] at p; exact p
  | some sl =>
    cases ks with
    | nil =>
      cases kws with
      | cons k kws => simp at hk
      | nil =>
        obtain ⟨fa, fd, ps, ds, dvs, hm, hkk, hb, hd, Fk, hf⟩ := G.fx.calld f x _ sl ht hsl
        refine PE.of (pe_call Fk (G.room.mono (Nat.le_succ _)) g1 hm hkk hb hd pass0 h g2 (star_cons hs'.1) (star_any hs'.2)) fun σ H Q ⟨l, L, ρ, rs, rep, p⟩ => ?_
        simp only [evE] at p
        refine LT.bindE rs rep p fun vs us L1 H1 ρ1 ev s1 e1 rs1 rep1 r1 p1 => ?_
        have hk0 : kes = .nil := by
          cases kes with
          | nil => rfl
          | cons e es => simp [LEs.len] at hn2
        subst hk0
        simp only [evA, Out.bind] at p1
        rw [evA_len ev, hsl] at p1
        dsimp only at p1
        cases ef : fill vs [] sl with
        | none => rw [ef] at p1; exact p1.elim
        | some ws =>
          rw [ef] at p1
          obtain ⟨lds, rfl, rl⟩ := hf vs ws (evA_len ev) ef
          exact ⟨_, L1, ρ1, rep1, Rls.append r1 (rl _ _), p1⟩
    | cons k0 ks =>
      obtain ⟨fa, fd, ps, nks, g, gV, hnk, hm, hkk, hb, Fk, hf⟩ := G.fx.callk f x _ (k0 :: ks) sl ht (by simp) hsl
      rw [hnk] at hk
      obtain ⟨k1, k2, k3⟩ := kw_names (pos := pos) (env := X.env) hk
      have hlen : nks.length = (k0 :: ks).length := by
        have := congrArg List.length hnk
        simpa using this.symm
      have hlen2 : kws.length = nks.length := by
        have := congrArg List.length hk
        simpa using this
      refine PE.of (pe_callN Fk (G.room.mono (Nat.le_succ _)) g1 hm hkk hb pass0 h hkw k2 k1 g2 (star_cons hs'.1) (by rw [k3, star_any hs]; rfl)) fun σ H Q ⟨l, L, ρ, rs, rep, p⟩ => ?_
      simp only [evE] at p
      refine LT.bindE rs rep p fun vs us L1 H1 ρ1 ev s1 e1 rs1 rep1 r1 p1 => LT.bindE rs1 rep1 p1 fun zs ws L2 H2 ρ2 ev2 s2 e2 rs2 rep2 r2 p2 => ?_
      rw [evA_len ev, hsl] at p2
      dsimp only at p2
      have l1 := evA_len ev
      have l2 := evA_len ev2
      refine ⟨r1.length.symm.trans l1, r2.length.symm.trans (l2.trans (hn2.symm.trans hlen2)), ?_⟩
      cases ef : fill vs zs sl with
      | none => rw [ef] at p2; exact p2.elim
      | some us' =>
        rw [ef] at p2
        exact ⟨us', L2, ρ2, rep2, hf _ _ vs zs us' _ _ l1 (l2.trans (hn2.symm.trans (hlen2.trans hlen))) (Rls.mono s2 e2 _ _ r1) r2 ef, p2⟩
theorem rep_make {H1 : Hp} {L1 : LH} {ρ1 : Rho} {c : Nat} {a dx : Addr} (rep : Rep N X.K H1 L1 ρ1) (cl : Cls X.K (N.ca c)) (ha : H1 a = none) (hd : H1 dx = none) (ne : dx ≠ a) :
    Sty H1 (upd (upd H1 dx (.own a)) a (.ins (N.ca c) dx [])) ∧ Rep N X.K (upd (upd H1 dx (.own a)) a (.ins (N.ca c) dx [])) (L1.new (.ins c [])) (rhoNew ρ1 L1.n a) := by
  have r1 : Rep N X.K (upd H1 dx (.own a)) L1 ρ1 := rep.laid hd
  have ha1 : upd H1 dx (.own a) a = none := by rw [upd_ne (Ne.symm ne)]; exact ha
  exact ⟨(Sty.new hd).trans (Sty.new ha1), r1.new ha1 (fun z => z) ⟨dx, [], upd_same, rfl, cl, fun p hp => nomatch hp⟩⟩
theorem post_make {H1 : Hp} {L1 : LH} {ρ1 : Rho} {c f : Nat} {vs : List LV} {ws : List V} {a dx : Addr} {Q : VK} (rep : Rep N X.K H1 L1 ρ1) (cl : Cls X.K (N.ca c)) (ha : H1 a = none) (hd : H1 dx = none) (ne : dx ≠ a) (r : Rls X.K H1 ρ1 vs ws)
    (hi : F.init c = some f) (p : PostV N X.K (makeV F c vs L1) H1 ρ1 Q) : SpL N X.K (F.call f) (.ref a :: ws) (upd (upd H1 dx (.own a)) a (.ins (N.ca c) dx [])) (fun v H2 => v = .non ∧ Q (.ref a) H2) E0 := by
  obtain ⟨s1, r1⟩ := rep_make rep cl ha hd ne
  have e1 := rep.exNew a
  refine ⟨.ref L1.n :: vs, L1.new (.ins c []), rhoNew ρ1 L1.n a, r1, Rls.mk (Rl.ref.mpr ⟨a, rhoNew_self, rfl⟩) (Rls.mono s1 e1 _ _ r), ?_⟩
  unfold makeV at p
  rw [hi] at p
  dsimp only at p
  cases e : F.call f (.ref L1.n :: vs) (L1.new (.ins c [])) with
  | err x L2 => rw [e] at p; exact p.elim
  | bad => rw [e] at p; exact p.elim
  | ok v L2 =>
    rw [e] at p
    simp only [Out.bind] at p
    intro H2 ρ2 w s2 e2 rep2 rw2
    split at p
    · refine ⟨Rl.non.mp rw2, p H2 ρ2 _ (s1.trans s2) (e1.trans e2) rep2 (Rl.ref.mpr ⟨a, e2 _ _ rhoNew_self, rfl⟩)⟩
    · exact p.elim
theorem sE_make {c : Nat} {es : LEs} {x : Str} {xs : List Expr} {p pos : Pos} (G : Good T N F lv X) (ht : T.cls[c]? = some x) (hg : glB X.env.scope x = true) (hs : xs.all notStar = true) (h : PA X xs (LTA N X.K (evA F es))) (hnil : xs = [] → es = .nil) :
    PE X (.Call (.Name x p) xs [] pos) (LTE N X.K (evE F (.make c es))) := by
  obtain ⟨g1, g2, g3⟩ := glB_ok hg
  cases hi : F.init c with
  | none =>
    refine ⟨fun pins s σ H Q I ⟨l, L, ρ, rs, rep, p⟩ => ?_⟩
    simp only [evE] at p
    cases e : evA F es l L with
    | ok v L1 => rw [e] at p; simp only [Out.bind, makeV, hi] at p; exact p.elim
    | err x L1 => rw [e] at p; exact p.elim
    | bad => rw [e] at p; exact p.elim
  | some f =>
    obtain ⟨fi, fd, ps, hm, mk, cl, hb, Fk⟩ := G.fx.make c x f ht hi
    cases xs with
    | nil =>
      have := hnil rfl
      subst this
      refine PE.of (pe_make0 mk Fk G.room g1 hm hb .nil pass0 g2) fun σ H Q ⟨l, L, ρ, rs, rep, p⟩ => ?_
      simp only [evE, evA, Out.bind] at p
      exact fun a dx ha hd ne => post_make rep cl ha hd ne Rls.nil' hi p
    | cons y ys =>
      simp only [List.all_cons, Bool.and_eq_true] at hs
      refine PE.of (pe_make mk Fk G.room g1 hm hb .nil pass0 h g2 (star_cons hs.1) (star_any hs.2)) fun σ H Q ⟨l, L, ρ, rs, rep, p⟩ => ?_
      simp only [evE] at p
      refine LT.bind rs rep p fun v w L1 H1 ρ1 s1 e1 rs1 rep1 r1 p1 => ?_
      intro a dx ha hd ne
      rw [List.append_nil]
      exact post_make rep1 cl ha hd ne r1 hi p1
/-- o.m(..): the class is known behind o -/
theorem pe_methD {o : Expr} {m : Str} {apos pos : Pos} {y : Expr} {ys : List Expr} {ta : TE} {t : TA} {k : Nat} (h0 : notCall0 o = true) (hs : (y :: ys).all notStar = true) (hl : decide ((y :: ys).length < 30) = true) (hp : (apos.endLine == pos.line) = true) (he : PE X o ta) (hr : Room k X.A) (ha : PA X (y :: ys) t) :
    PE X (.Call (.Attribute o m apos) (y :: ys) [] pos) (fun σ H Q => ta σ H fun x H1 => ∃ a C dx fs f fd ps sp, x = .ref a ∧ H1 a = some (.ins C dx fs) ∧ fs.lookup m = none ∧ Cls X.K C ∧ Meth X.K C m f ∧ Binds X.K fd ps [] ∧ FnOk X.prog X.w X.K X.mg X.base CX0 k f fd ps sp ∧
      t σ H1 fun vs H2 => sp (x :: vs) H2 Q E0) := by
  refine ⟨fun pins s σ H Q I h => ?_⟩
  refine PySem.W.methodCall_KW (pl := plainOf o X.env) (thn (he.run pins s σ H _ I h) fun u s1 ⟨x, H1, I1, rx, a, C, dx, fs, f, fd, ps, sp, ex, ea, l, c, hm, hb, F, q⟩ => ?_) (eval_meth h0 hs hl hp)
  subst ex
  obtain rfl : u = Value.ref a := rx
  refine getmeth_ok I1 ea c hm l ?_
  simp only [List.all_cons, Bool.and_eq_true] at hs
  refine PySem.W.callWith_K (first := [.ref a]) (h₀ := X.base) I1.ok.mod.kin hm.kp (thn (ha.run pos pins s1 σ H1 _ I1 q) fun us s2 ⟨vs, H2, I2, r, q2⟩ => ⟨I2.kIn, ?_⟩) (star_cons hs.1) (star_any hs.2)
  exact run_fn (us := .ref a :: us) (vs := .ref a :: vs) (ds := []) (dvs := []) F hr hb .nil pass0 I2 (.cons rfl r) (by rw [List.append_nil]; exact q2)
theorem pe_methD0 {o : Expr} {m : Str} {apos pos : Pos} {ta : TE} {k : Nat} (h0 : notCall0 o = true) (hp : (apos.endLine == pos.line) = true) (he : PE X o ta) (hr : Room k X.A) :
    PE X (.Call (.Attribute o m apos) [] [] pos) (fun σ H Q => ta σ H fun x H1 => ∃ a C dx fs f fd ps sp, x = .ref a ∧ H1 a = some (.ins C dx fs) ∧ fs.lookup m = none ∧ Cls X.K C ∧ Meth X.K C m f ∧ Binds X.K fd ps [] ∧ FnOk X.prog X.w X.K X.mg X.base CX0 k f fd ps sp ∧
      sp [x] H1 Q E0) := by
  refine ⟨fun pins s σ H Q I h => ?_⟩
  refine PySem.W.methodCall_KW (pl := plainOf o X.env) (thn (he.run pins s σ H _ I h) fun u s1 ⟨x, H1, I1, rx, a, C, dx, fs, f, fd, ps, sp, ex, ea, l, c, hm, hb, F, q⟩ => ?_) (eval_meth h0 rfl rfl hp)
  subst ex
  obtain rfl : u = Value.ref a := rx
  refine getmeth_ok I1 ea c hm l ?_
  refine PySem.W.callWith_K0 (first := [.ref a]) I1.kIn hm.kp ?_
  exact run_fn (us := [.ref a]) (vs := [.ref a]) (ds := []) (dvs := []) F hr hb .nil pass0 I1 (.cons rfl .nil) q
theorem recv_ok {H1 : Hp} {L1 : LH} {ρ1 : Rho} {m f : Nat} {v : LV} {x : V} {nm : Str} (G : Good T N F lv X) (ht : T.nms[m]? = some nm) (rep : Rep N X.K H1 L1 ρ1) (h : recvF F L1 m v = some f) (r : Rl X.K H1 ρ1 v x) :
    ∃ a C dx vs g fd ps, x = .ref a ∧ H1 a = some (.ins C dx vs) ∧ vs.lookup nm = none ∧ Cls X.K C ∧ Meth X.K C nm g ∧ Binds X.K fd ps [] ∧ FnOk X.prog X.w X.K X.mg X.base CX0 lv g fd ps (SpL N X.K (F.call f)) := by
  unfold recvF at h
  split at h
  · rename_i i
    obtain ⟨b, h1, rfl⟩ := Rl.ref.mp r
    split at h
    · rename_i c fs e
      obtain ⟨b', dx, vs, q1, q2, q3, q4, q5⟩ := rep.ins e
      rw [h1] at q1; cases q1
      split at h
      · rename_i hn
        have hn : fget m fs = none := by simpa using hn
        have := (q3.lookup G.fx.inj (f := m)).2 hn
        rw [G.fx.nms m nm ht] at this
        obtain ⟨g, fd, ps, hm, hb, Fk⟩ := G.fx.mth c m f h
        rw [G.fx.nms m nm ht] at hm
        exact ⟨b, _, dx, vs, g, fd, ps, rfl, q2, this, q4, hm, hb, Fk⟩
      · cases h
    · cases h
  · cases h
theorem sE_meth {a : LE} {m : Nat} {es : LEs} {o : Expr} {nm : Str} {xs : List Expr} {apos pos : Pos} (G : Good T N F lv X) (ht : T.nms[m]? = some nm) (h0 : notCall0 o = true) (hs : xs.all notStar = true) (hl : decide (xs.length < 30) = true) (hp : (apos.endLine == pos.line) = true)
    (ho : PE X o (LTE N X.K (evE F a))) (h : PA X xs (LTA N X.K (evA F es))) (hnil : xs = [] → es = .nil) :
    PE X (.Call (.Attribute o nm apos) xs [] pos) (LTE N X.K (evE F (.meth a m es))) := by
  cases xs with
  | nil =>
    have := hnil rfl
    subst this
    refine PE.of (pe_methD0 h0 hp ho (G.room.mono (Nat.le_succ lv))) fun σ H Q ⟨l, L, ρ, rs, rep, p⟩ => ?_
    simp only [evE] at p
    refine LT.bind rs rep p fun v x L1 H1 ρ1 s1 e1 rs1 rep1 r1 p1 => ?_
    split at p1
    · rename_i f hr
      obtain ⟨b, C, dx, vs, g, fd, ps, rfl, q2, q3, q4, hm, hb, Fk⟩ := recv_ok G ht rep1 hr r1
      exact ⟨b, C, dx, vs, g, fd, ps, _, rfl, q2, q3, q4, hm, hb, Fk, [v], L1, ρ1, rep1, Rls.mk r1 Rls.nil', p1⟩
    · exact p1.elim
  | cons y ys =>
    refine PE.of (pe_methD h0 hs hl hp ho (G.room.mono (Nat.le_succ lv)) h) fun σ H Q ⟨l, L, ρ, rs, rep, p⟩ => ?_
    simp only [evE] at p
    refine LT.bind rs rep p fun v x L1 H1 ρ1 s1 e1 rs1 rep1 r1 p1 => ?_
    split at p1
    · rename_i f hr
      obtain ⟨b, C, dx, vs, g, fd, ps, rfl, q2, q3, q4, hm, hb, Fk⟩ := recv_ok G ht rep1 hr r1
      refine ⟨b, C, dx, vs, g, fd, ps, _, rfl, q2, q3, q4, hm, hb, Fk, ?_⟩
      exact LT.bind rs1 rep1 p1 fun us ws L2 H2 ρ2 s2 e2 rs2 rep2 r2 p2 => ⟨v :: us, L2, ρ2, rep2, Rls.mk (Rl.mono s2 e2 _ _ r1) r2, p2⟩
    · exact p1.elim
/-! ### built-in functions and methods -/
theorem bf_boot (f : BF) : bootBuiltins (bfName f) = some (bfVal f) := by
  cases f <;> decide +kernel
theorem bfN (f : BF) : bfName f ≠ "__name__" ∧ (bfName f == ("__debug__" : Str)) = false := by
  cases f <;> decide
theorem sE_bf {f : BF} {es : LEs} {y : Expr} {ys : List Expr} {p pos : Pos} (G : Good T N F lv X) (hg : Gl X (bfName f)) (hs : (y :: ys).all notStar = true) (h : PA X (y :: ys) (LTA N X.K (evA F es))) :
    PE X (.Call (.Name (bfName f) p) (y :: ys) [] pos) (LTE N X.K (evE F (.bf f es))) := by
  simp only [List.all_cons, Bool.and_eq_true] at hs
  have hb := bf_boot f
  have c := call_bfV (N := N) G.calm f
  have fin : ∀ σ H Q, LTE N X.K (evE F (.bf f es)) σ H Q → tCB (rArgs N X.K (bfV f)) (LTA N X.K (evA F es)) σ H Q := fun σ H Q ⟨l, L, ρ, rs, rep, p⟩ => by
    simp only [evE] at p
    exact LT.bind rs rep p fun v x L1 H1 ρ1 s1 e1 rs1 rep1 r1 p1 => ⟨v, L1, ρ1, rep1, r1, p1⟩
  cases e : bfVal f with
  | builtin id =>
    rw [e] at hb c
    exact PE.of (pe_callB c hg (G.fx.bfn f) hb h (bfN f).1 (bfN f).2 (star_cons hs.1) (star_any hs.2)) fin
  | type id =>
    rw [e] at hb c
    exact PE.of (pe_callTy c hg (G.fx.bfn f) hb h (bfN f).1 (bfN f).2 (star_cons hs.1) (star_any hs.2)) fin
  | _ => cases f <;> simp [bfVal] at e
theorem sE_bm {m : BM} {a : LE} {es : LEs} {o : Expr} {xs : List Expr} {apos pos : Pos} (G : Good T N F lv X) (h0 : notCall0 o = true) (hs : xs.all notStar = true) (hl : decide (xs.length < 30) = true) (hp : (apos.endLine == pos.line) = true)
    (ho : PE X o (LTE N X.K (evE F a))) (h : PA X xs (LTA N X.K (evA F es))) (hnil : xs = [] → es = .nil) :
    PE X (.Call (.Attribute o (bmName m) apos) xs [] pos) (LTE N X.K (evE F (.bm m a es))) := by
  obtain ⟨s1, s2, s3⟩ := bm_slot m
  have mr := mt_bmV (N := N) G.hu m
  cases xs with
  | nil =>
    have := hnil rfl
    subst this
    refine PE.of (pe_bm0 s1 s2 s3 mr ho (attr_no h0) hp) fun σ H Q ⟨l, L, ρ, rs, rep, p⟩ => ?_
    simp only [evE] at p
    refine LT.bind rs rep p fun v x L1 H1 ρ1 s1 e1 rs1 rep1 r1 p1 => ?_
    split at p1
    · rename_i hr
      exact ⟨bmTy_tyV rep1 hr r1, v, [], L1, ρ1, rep1, r1, Rls.nil', p1⟩
    · exact p1.elim
  | cons y ys =>
    have hs' := hs
    simp only [List.all_cons, Bool.and_eq_true] at hs'
    refine PE.of (pe_bm s1 s2 s3 mr ho h (attr_no h0) (few_ok hs hl) hp (star_cons hs'.1) (star_any hs'.2)) fun σ H Q ⟨l, L, ρ, rs, rep, p⟩ => ?_
    simp only [evE] at p
    refine LT.bind rs rep p fun v x L1 H1 ρ1 s1 e1 rs1 rep1 r1 p1 => ?_
    split at p1
    · rename_i hr
      refine ⟨bmTy_tyV rep1 hr r1, ?_⟩
      exact LT.bind rs1 rep1 p1 fun us ws L2 H2 ρ2 s2 e2 rs2 rep2 r2 p2 => ⟨v, us, L2, ρ2, rep2, Rl.mono s2 e2 _ _ r1, r2, p2⟩
    · exact p1.elim
/-! ### isinstance -/
theorem kit_dec {K : PySem.W.Frag} : ∀ (a b : Ty) (x y : Str), True := fun _ _ _ _ => trivial
def tyS : Ty → String
  | .int => "int" | .bool => "bool" | .str => "str" | .tuple => "tuple" | .list => "list" | .own _ => ""
theorem ty_boot {t : Ty} {x : Str} (h : tyName t = some x) : bootBuiltins x = some (.type (tyS t)) ∧ x ≠ "__name__" ∧ (x == ("__debug__" : Str)) = false := by
  cases t <;> simp only [tyName, Option.some.injEq, reduceCtorEq] at h <;> subst h <;> exact ⟨by decide +kernel, by decide, by decide⟩
theorem kitB_all : ∀ a b : Fin 6, ∀ c : Fin 5, True := fun _ _ _ => trivial
/-- the answer for one class -/
theorem tyIs_kit {K : PySem.W.Frag} {H : Hp} {L : LH} {ρ : Rho} {v : LV} {x : V} (rep : Rep N K H L ρ) (r : Rl K H ρ v x) : ∃ tv : Value, (∀ ty b, tyIs L v ty = some b → TyX K H x tv ∧ PySem.W.kitOne K tv (.type (tyS ty)) = some b) := by
  cases v with
  | non =>
    cases Rl.non.mp r
    refine ⟨_, fun ty b h => ⟨.base .non, ?_⟩⟩
    cases ty <;> simp only [tyIs, Option.some.injEq, reduceCtorEq] at h <;> subst h <;> exact kit_ty (by decide +kernel)
  | bl y =>
    cases Rl.bl.mp r
    refine ⟨_, fun ty b h => ⟨.base (.bl y), ?_⟩⟩
    cases ty <;> simp only [tyIs, Option.some.injEq, reduceCtorEq] at h <;> subst h <;> exact kit_ty (by decide +kernel)
  | int y =>
    cases Rl.int.mp r
    refine ⟨_, fun ty b h => ⟨.base (.int y), ?_⟩⟩
    cases ty <;> simp only [tyIs, Option.some.injEq, reduceCtorEq] at h <;> subst h <;> exact kit_ty (by decide +kernel)
  | str y =>
    cases Rl.str.mp r
    refine ⟨_, fun ty b h => ⟨.base (.str y), ?_⟩⟩
    cases ty <;> simp only [tyIs, Option.some.injEq, reduceCtorEq] at h <;> subst h <;> exact kit_ty (by decide +kernel)
  | tup xs =>
    obtain ⟨a, vs, rfl, s1, r1⟩ := Rl.tup.mp r
    have tx : TyX K H (.ref a) (.type "tuple") := by
      rcases s1 with (s1 | ⟨o, s1⟩) | ⟨o, its, n, h1, h2, _⟩
      · exact .base (.tup s1)
      · exact .fTuple s1
      · exact .kTuple h1 h2
    refine ⟨_, fun ty b h => ⟨tx, ?_⟩⟩
    cases ty <;> simp only [tyIs, Option.some.injEq, reduceCtorEq] at h <;> subst h <;> exact kit_ty (by decide +kernel)
  | scr xs =>
    obtain ⟨a, vs, rfl, s1, r1⟩ := Rl.scr.mp r
    have tx : TyX K H (.ref a) (.type "list") := by
      rcases s1 with ⟨o, s1⟩ | ⟨o, its, n, h1, h2, _⟩
      · exact .base (.frz s1)
      · exact .kList h1 h2
    refine ⟨_, fun ty b h => ⟨tx, ?_⟩⟩
    cases ty <;> simp only [tyIs, Option.some.injEq, reduceCtorEq] at h <;> subst h <;> exact kit_ty (by decide +kernel)
  | ref i =>
    obtain ⟨a, h1, rfl⟩ := Rl.ref.mp r
    cases e : L.at_ i with
    | none => exact ⟨.none, fun ty b h => by simp only [tyIs, e] at h; cases h⟩
    | some o =>
      cases o with
      | lst xs =>
        obtain ⟨a', vs, q1, q2, q3⟩ := rep.lst e
        rw [h1] at q1; cases q1
        refine ⟨_, fun ty b h => ⟨.base (.lst q2), ?_⟩⟩
        cases ty <;> simp only [tyIs, e, Option.some.injEq, reduceCtorEq] at h <;> subst h <;> exact kit_ty (by decide +kernel)
      | dct kvs => exact ⟨.none, fun ty b h => by simp only [tyIs, e] at h; cases h⟩
      | ins c fs => exact ⟨.none, fun ty b h => by simp only [tyIs, e] at h; cases h⟩
theorem tyAny_kit {K : PySem.W.Frag} {H : Hp} {L : LH} {v : LV} {x : V} {tv : Value} (k : ∀ ty b, tyIs L v ty = some b → TyX K H x tv ∧ PySem.W.kitOne K tv (.type (tyS ty)) = some b) : ∀ (ts : List Ty) (b : Bool), tyAny L v ts = some b →
    PySem.W.kitAny K tv (ts.map fun t => .type (tyS t)) = some b
  | [], b, h => by simp only [tyAny, Option.some.injEq] at h; subst h; rfl
  | t :: ts, b, h => by
    unfold tyAny at h
    split at h
    · rename_i e
      cases h
      exact kitAny_cons (k t true e).2 (fun z => nomatch z) (fun _ => rfl)
    · rename_i e
      exact kitAny_cons (k t false e).2 (fun _ => tyAny_kit k ts b h) (fun z => nomatch z)
    · cases h
theorem pa_types : ∀ (ts : List Ty) (es : List Expr), Fx T N F lv X.prog X.w X.K X.mg X.base → ckTyL X.env.scope ts es = true → PA X es (fun _ H Q => Q (ts.map fun t => V.ty (tyS t)) H) ∧ es.all notStar = true
  | [], [], _, _ => ⟨pa_nil, rfl⟩
  | [], _ :: _, _, h => by simp [ckTyL] at h
  | t :: ts, [], _, h => by simp [ckTyL] at h
  | t :: ts, e :: es, fx, h => by
    cases e with
    | Name x pos =>
      simp only [ckTyL, Bool.and_eq_true, decide_eq_true_eq] at h
      obtain ⟨⟨h1, h2⟩, h3⟩ := h
      obtain ⟨g1, g2, g3⟩ := glB_ok h2
      obtain ⟨b1, b2, b3⟩ := ty_boot h1
      obtain ⟨p1, p2⟩ := pa_types ts es fx h3
      refine ⟨PA.of (pa_cons (pe_bltn (v := .ty (tyS t)) g1 (fx.tyn t x h1) b1 rfl b2 b3) p1 rfl) fun σ H Q q => q, ?_⟩
      simp [notStar, p2]
    | _ => simp [ckTyL] at h
theorem sE_isin {a : LE} {ts : List Ty} {y c : Expr} {p pos : Pos} (G : Good T N F lv X) (hg : Gl X "isinstance") (hs1 : notStar y = true) (hs2 : notStar c = true) (hc : ckTy X.env.scope ts c = true) (ha : PE X y (LTE N X.K (evE F a))) :
    PE X (.Call (.Name "isinstance" p) [y, c] [] pos) (LTE N X.K (evE F (.isin a ts))) := by
  have hb : bootBuiltins "isinstance" = some (.builtin "isinstance") := by decide +kernel
  have he : starEach [y, c] X.env = (false, eval y X.env) :: starEach [c] X.env := star_cons hs1
  have hpl : (backTo pos (starEach [c] X.env)).any (·.1) = false := star_any (by simp [hs2])
  cases c with
  | Name x pp =>
    have hc' : ckTyL X.env.scope ts [.Name x pp] = true := hc
    cases ts with
    | nil => simp [ckTyL] at hc'
    | cons t ts =>
      cases ts with
      | cons t2 ts => simp [ckTyL] at hc'
      | nil =>
        simp only [ckTyL, Bool.and_eq_true, decide_eq_true_eq, and_true] at hc'
        obtain ⟨h1, h2⟩ := hc'
        obtain ⟨g1, g2, g3⟩ := glB_ok h2
        obtain ⟨b1, b2, b3⟩ := ty_boot h1
        have pc : PE X (.Name x pp) (tC (.ty (tyS t))) := pe_bltn g1 (G.fx.tyn t x h1) b1 rfl b2 b3
        refine PE.of (pe_callB call_isi hg G.fx.isi hb (pa_cons ha (pa_cons pc pa_nil rfl) he) (by decide) (by decide) he hpl) fun σ H Q ⟨l, L, ρ, rs, rep, p⟩ => ?_
        simp only [evE] at p
        refine LT.bind rs rep p fun v x L1 H1 ρ1 s1 e1 rs1 rep1 r1 p1 => ?_
        cases e : tyAny L1 v [t] with
        | none => rw [e] at p1; exact p1.elim
        | some b =>
          rw [e] at p1
          obtain ⟨tv, k⟩ := tyIs_kit rep1 r1
          have e2 : tyIs L1 v t = some b := by
            unfold tyAny at e
            split at e
            · rename_i e3; rw [e3]; exact e
            · rename_i e3; simp only [tyAny, Option.some.injEq] at e; subst e; exact e3
            · cases e
          obtain ⟨k1, k2⟩ := k t b e2
          exact ⟨x, .ty (tyS t), tv, .type (tyS t), b, rfl, .ty _, k1, k2, p1.here rep1 (Rl.bl.mpr rfl)⟩
  | Tuple es k pp =>
    have hc0 : (decide (ts.length ≤ 8) && !ts.isEmpty && ckTyL X.env.scope ts es) = true := hc
    simp only [Bool.and_eq_true, decide_eq_true_eq, Bool.not_eq_true'] at hc0
    obtain ⟨⟨hlen, hne⟩, hc'⟩ := hc0
    obtain ⟨pa, _⟩ := pa_types ts es G.fx hc'
    refine PE.of (pe_callB call_isiT hg G.fx.isi hb (pa_cons ha (pa_cons (pe_tup pa) pa_nil rfl) he) (by decide) (by decide) he hpl) fun σ H Q ⟨l, L, ρ, rs, rep, p⟩ => ?_
    simp only [evE] at p
    refine LT.bind rs rep p fun v x L1 H1 ρ1 s1 e1 rs1 rep1 r1 p1 => ?_
    cases e : tyAny L1 v ts with
    | none => rw [e] at p1; exact p1.elim
    | some b =>
      rw [e] at p1
      refine ⟨?_, fun q hq => ?_⟩
      · rw [List.length_map, sizeLine_eq]
        omega
      · have st := Sty.new (o := HO.tup (ts.map fun t => V.ty (tyS t))) hq
        have rep2 := rep1.laid (u := HO.tup (ts.map fun t => V.ty (tyS t))) hq
        have r2 := Rl.mono st (Ex.refl _) _ _ r1
        obtain ⟨tv, k⟩ := tyIs_kit rep2 r2
        refine ⟨x, q, _, tv, ts.map fun t => .type (tyS t), b, rfl, upd_same, ?_, ?_, tyAny_kit k ts b e, (p1.mono st (Ex.refl _)).here rep2 (Rl.bl.mpr rfl)⟩
        · have : ∀ ts : List Ty, Paired ClsV (ts.map fun t => V.ty (tyS t)) (ts.map fun t => Value.type (tyS t)) := fun ts => by
            induction ts with
            | nil => exact .nil
            | cons t ts ih => exact .cons (.ty _) ih
          exact this ts
        · cases ts with
          | nil => simp at hne
          | cons t ts =>
            unfold tyAny at e
            split at e
            · rename_i e3; exact (k t true e3).1
            · rename_i e3; exact (k t false e3).1
            · cases e
  | _ => simp [ckTy] at hc
end
end LG
end

section
set_option Elab.async false
set_option linter.all false
set_option maxRecDepth 100000
set_option maxHeartbeats 4000000
/-! LG7: the rest of the expressions; the whole check is sound for expressions. -/
namespace LG
open PySem PySem.Spec PyProof.Rows L2
theorem Out.bind_assoc {α β γ : Type} (o : Out α) (f : α → LH → Out β) (g : β → LH → Out γ) : (o.bind f).bind g = o.bind fun a L => (f a L).bind g := by
  cases o <;> rfl
section
variable {T : Tb} {N : Na} {F : Fn} {lv : Nat} {X : Cx}
/-! ### truth -/
theorem Rls.isEmpty {K : PySem.W.Frag} {H : Hp} {ρ : Rho} {xs : List LV} {vs : List V} (r : Rls K H ρ xs vs) : xs.isEmpty = vs.isEmpty := by
  have := r.length
  cases xs <;> cases vs <;> first | rfl | (simp at this; done)
theorem RKs.isEmpty {K : PySem.W.Frag} {H : Hp} {ρ : Rho} {xs : List (Key × LV)} {vs : List (Key × V)} (r : RKs K H ρ xs vs) : xs.isEmpty = vs.isEmpty := by
  cases xs with
  | nil => rw [show vs = [] from r]; rfl
  | cons x xs => obtain ⟨v, q, e, _⟩ := r; rw [e]; rfl
theorem tru_V {K : PySem.W.Frag} {H : Hp} {ρ : Rho} {L : LH} {v : LV} {x : V} {k : Bool} (rep : Rep N K H L ρ) (h : tru L v = some k) (r : Rl K H ρ v x) : TruV K x H k := by
  cases v with
  | non => cases Rl.non.mp r; simp only [tru, Option.some.injEq] at h; exact h.symm
  | bl b => cases Rl.bl.mp r; simp only [tru, Option.some.injEq] at h; exact h.symm
  | int i => cases Rl.int.mp r; simp only [tru, Option.some.injEq] at h; exact h.symm
  | str y =>
    cases Rl.str.mp r
    simp only [tru] at h
    split at h
    · rename_i hz
      simp only [Option.some.injEq] at h
      exact ⟨hz, h.symm⟩
    · cases h
  | tup xs =>
    obtain ⟨a, vs, rfl, s1, r1⟩ := Rl.tup.mp r
    simp only [tru, Option.some.injEq] at h
    exact .inr (.inl ⟨vs, s1, by rw [← r1.isEmpty]; exact h.symm⟩)
  | scr xs =>
    obtain ⟨a, vs, rfl, s1, r1⟩ := Rl.scr.mp r
    simp only [tru, Option.some.injEq] at h
    exact .inl ⟨vs, s1.sq, by rw [← r1.isEmpty]; exact h.symm⟩
  | ref i =>
    obtain ⟨a, h1, rfl⟩ := Rl.ref.mp r
    simp only [tru] at h
    split at h
    · rename_i xs e
      obtain ⟨a', vs, q1, q2, q3⟩ := rep.lst e
      rw [h1] at q1; cases q1
      simp only [Option.some.injEq] at h
      exact .inl ⟨vs, .inl (.inl q2), by rw [← q3.isEmpty]; exact h.symm⟩
    · rename_i xs e
      obtain ⟨a', vs, q1, q2, q3⟩ := rep.dct e
      rw [h1] at q1; cases q1
      simp only [Option.some.injEq] at h
      exact .inr (.inr ⟨vs, q2, by rw [← q3.isEmpty]; exact h.symm⟩)
    · cases h
theorem sT_of {e : Expr} {le : LE} (hE : PE X e (LTE N X.K (evE F le))) (he : ∀ whole, isTrue e X.env whole = (do let v ← whole; standAt e.pos; holding [v] (truthy v)))
    (ev : ∀ σ L, evT F le σ L = (evE F le σ L).bind fun v L1 => ofOpt (tru L1 v) L1) : PT X e (LTB N X.K (evT F le)) := by
  refine PT.of (pt_truth hE he) fun σ H Q ⟨l, L, ρ, rs, rep, p⟩ => ?_
  rw [ev] at p
  refine LT.bind rs rep p fun v x L1 H1 ρ1 s1 e1 rs1 rep1 r1 p1 => ?_
  cases e : tru L1 v with
  | none => rw [e] at p1; exact p1.elim
  | some k =>
    rw [e] at p1
    exact ⟨k, tru_V rep1 e r1, p1.here rep1 rfl⟩
/-! ### tables of the module -/
theorem strsOf_map : ∀ {xs : List LV} {ys : List Str}, strsOf xs = some ys → xs = ys.map LV.str
  | [], ys, h => by simp only [strsOf, Option.some.injEq] at h; subst h; rfl
  | x :: xs, ys, h => by
    simp only [strsOf] at h
    cases e : isStr x with
    | none => rw [e] at h; simp at h
    | some y =>
      cases e2 : strsOf xs with
      | none => rw [e, e2] at h; simp at h
      | some zs =>
        rw [e, e2] at h
        simp only [Option.bind_some, Option.map_some, Option.some.injEq] at h
        subst h
        rw [strsOf_map e2]
        cases x <;> simp [isStr] at e
        subst e; rfl
theorem Rls.strs {K : PySem.W.Frag} {H : Hp} {ρ : Rho} : ∀ {ys : List Str} {vs : List V}, Rls K H ρ (ys.map LV.str) vs → vs = ys.map V.str
  | [], vs, h => Rls.nil.mp h
  | y :: ys, vs, h => by
    obtain ⟨v, r, rfl, h1, h2⟩ := Rls.cons.mp h
    rw [Rls.strs h2, Rl.str.mp h1]; rfl
theorem idxS_at {x : Str} : ∀ {ys : List Str} {j : Nat}, idxS x ys = some j → ys[j]? = some x ∧ ∀ m, m < j → ys[m]? ≠ some x
  | [], j, h => by simp [idxS] at h
  | y :: ys, j, h => by
    simp only [idxS] at h
    split at h
    · rename_i e; cases h; exact ⟨by simp [e], fun m hm => absurd hm (Nat.not_lt_zero m)⟩
    · rename_i e
      cases e2 : idxS x ys with
      | none => rw [e2] at h; simp at h
      | some k =>
        rw [e2] at h
        simp only [Option.map_some, Option.some.injEq] at h
        subst h
        obtain ⟨h1, h2⟩ := idxS_at e2
        refine ⟨by simpa using h1, fun m hm hx => ?_⟩
        cases m with
        | zero => simp at hx; exact e hx
        | succ m => exact h2 m (by omega) (by simpa using hx)
theorem sE_gidx {g : Nat} {a : LE} {gx : Str} {x : Expr} {p apos pos : Pos} (G : Good T N F lv X) (ht : T.glos[g]? = some gx) (hg : glB X.env.scope gx = true) (hs : notStar x = true) (hp : (apos.endLine == pos.line) = true) (h : PE X x (LTE N X.K (evE F a))) :
    PE X (.Call (.Attribute (.Name gx p) "index" apos) [x] [] pos) (LTE N X.K (evE F (.gidx g a))) := by
  obtain ⟨g1, g2, g3⟩ := glB_ok hg
  cases e : F.glo g with
  | none =>
    refine ⟨fun pins s σ H Q I ⟨l, L, ρ, rs, rep, p⟩ => ?_⟩
    simp only [evE, e] at p
    exfalso
    cases e2 : evE F a l L <;> rw [e2] at p <;> exact p
  | some gv =>
    obtain ⟨u, v', h1, h2, h3, h4⟩ := G.fx.glo g gx gv ht e
    have po : PE X (.Name gx p) (tC v') := pe_glob g1 h1 h2 g2
    have all1 : [x].all notStar = true := by simp [hs]
    refine PE.of (pe_bm PySem.F.plainAttrs_tuple PySem.F.slot_tuple_index PySem.F.type_tuple_index mt_tup_index po (pa_cons h pa_nil (star_cons hs)) rfl (few_ok all1 rfl) hp (star_cons hs) rfl) fun σ H Q ⟨l, L, ρ, rs, rep, p⟩ => ?_
    simp only [evE, e] at p
    have key : ∃ xs, gv = .tup xs := by
      cases e2 : evE F a l L with
      | err x L1 => rw [e2] at p; exact p.elim
      | bad => rw [e2] at p; exact p.elim
      | ok w L1 =>
        rw [e2] at p
        simp only [Out.bind] at p
        unfold gidxV at p
        split at p
        · rename_i xs y q1; cases q1; exact ⟨xs, rfl⟩
        · exact p.elim
    obtain ⟨xs, rfl⟩ := key
    obtain ⟨b, o, rfl, hl, hc, hd⟩ := h4 xs rfl
    obtain ⟨b', vs, rfl, s1, r1⟩ := Rl.tup.mp (h3 H ρ)
    cases (show Value.ref b = Value.ref b' from h2)
    refine ⟨.inr (.inl ⟨rfl, o, hl, hc, hd⟩), ?_⟩
    refine LT.bind rs rep p fun v x L1 H1 ρ1 st1 e1 rs1 rep1 r1' p1 => ?_
    unfold gidxV at p1
    split at p1
    · rename_i xs' y q1
      cases q1
      cases Rl.str.mp r1'
      split at p1
      · rename_i ys ey
        have := strsOf_map ey
        subst this
        have ev := Rls.strs r1
        subst ev
        split at p1
        · rename_i j ej
          obtain ⟨j1, j2⟩ := idxS_at ej
          exact ⟨b, ys, y, j, rfl, rfl, st1.tup s1, j1, j2, p1.here rep1 (Rl.int.mpr rfl)⟩
        · exact p1.elim
      · exact p1.elim
    · exact p1.elim
/-- dict.get of a written dict -/
theorem kd_get2 {pins : List (Addr × Obj)} {s : Shared} {σ : L2.St} {H : Hp} {d : Addr} {es : Array DictEntry} {n : Nat} {z : Str} {t : Tok} {r : Option Value} {dv : Value} {Q : Value → Shared → Prop} (D : KDict X.K X.w d es n) (I : Inv X pins σ H s) (e : PySem.W.nsIn X.K d z = some r)
    (h : Q (r.getD dv) { s with toks := s.toks + 1 }) : wpAny (model X.prog X.w) X.A (call (.builtin "dict.get") [.ref d, .str z t, dv]) Q X.xe s := by
  have dm := PySem.W.mapOf_K (prog := X.prog) (w := X.w) I.kIn D.at_ D.lit
  refine call_meetsIn PySem.F.slot_dict_get dm.typeIs PySem.F.entry_dict_get (PySem.F.args_dict_get_3 _ _ _) (meets_dict_get_default (strKind X.prog X.w) d (PySem.strKind_is X.prog X.w z t) D.low dv) ⟨_, dm, ?_⟩
  rw [PySem.W.find_K D.at_ e]
  exact h
theorem sE_kget {g : Nat} {a d : LE} {gx : Str} {x y : Expr} {p apos pos : Pos} (G : Good T N F lv X) (ht : T.gds[g]? = some gx) (hg : glB X.env.scope gx = true) (hs : notStar x = true) (hs2 : notStar y = true) (hp : (apos.endLine == pos.line) = true)
    (h : PE X x (LTE N X.K (evE F a))) (h2 : PE X y (LTE N X.K (evE F d))) : PE X (.Call (.Attribute (.Name gx p) "get" apos) [x, y] [] pos) (LTE N X.K (evE F (.kget g a d))) := by
  obtain ⟨g1, g2, g3⟩ := glB_ok hg
  have all2 : [x, y].all notStar = true := by simp [hs, hs2]
  refine ⟨fun pins s σ H Q I ⟨l, L, ρ, rs, rep, pp⟩ => ?_⟩
  simp only [evE] at pp
  cases e : F.kd g with
  | none =>
    exfalso
    rw [e] at pp
    cases e2 : evE F a l L with
    | err x L1 => rw [e2] at pp; exact pp
    | bad => rw [e2] at pp; exact pp
    | ok w L1 =>
      rw [e2] at pp
      simp only [Out.bind] at pp
      cases e3 : evE F d l L1 <;> rw [e3] at pp <;> exact pp
  | some kvs =>
    rw [e] at pp
    obtain ⟨da, es, n, hm, D, hz⟩ := G.fx.kd g gx kvs ht e
    have po : PE X (.Name gx p) (tC (.ref da)) := pe_glob g1 hm rfl g2
    refine wpAny_Call_method (T := "dict") (attr_no rfl) (few_ok all2 rfl) hp PySem.F.plainAttrs_dict PySem.F.slot_dict_get PySem.F.type_dict_get
      (thn (po.run pins s σ H (fun v H1 => v = .ref da ∧ H1 = H) I ⟨rfl, rfl⟩) fun u s1 ⟨v, H1, I1, rv, e1, e2⟩ => ?_)
    subst e1 e2
    cases rv
    refine ⟨kd_type D I1, fun a' ea => by cases ea; exact ⟨_, I1.kIn _ _ D.at_, rfl⟩, ?_⟩
    have tr : backTo pos (starEach [x, y] X.env) = backTo pos ((false, eval x X.env) :: (false, eval y X.env) :: []) := by rw [star_cons hs, star_cons hs2]; rfl
    rw [tr]
    have go : LTE N X.K (evE F a) σ H1 (fun xx H2 => LTE N X.K (evE F d) σ H2 fun yy H3 => ∃ v u L2 ρ2, Rep N X.K H3 L2 ρ2 ∧ Rl X.K H3 ρ2 v xx ∧ Rl X.K H3 ρ2 u yy ∧ PostV N X.K (kgetV (some kvs) v u L2) H3 ρ2 Q) :=
      LT.bind rs rep pp fun v x L1 H1 ρ1 st1 e1 rs1 rep1 r1 p1 => LT.bind rs1 rep1 p1 fun u y L2 H2 ρ2 st2 e2 rs2 rep2 r2 p2 => ⟨v, u, L2, ρ2, rep2, Rl.mono st2 e2 _ _ r1, r2, p2⟩
    refine Calls.callWith_builtin rfl (Calls.evalArgs_plain (Calls.spliced_cons (thn (h.run pins s1 σ H1 _ I1 go) fun xv s2 ⟨xx, H2, I2, rx, q2⟩ =>
      Calls.spliced_cons (thn (h2.run pins s2 σ H2 _ I2 q2) fun yv s3 ⟨yy, H3, I3, ry, q3⟩ => Calls.spliced_nil ?b))))
    case b =>
      obtain ⟨v, u, L2, ρ2, rep2, r1, r2, p2⟩ := q3
      unfold kgetV at p2
      split at p2
      · rename_i kvs' z q1
        cases q1
        cases Rl.str.mp r1
        obtain ⟨t, rfl⟩ := rx
        cases el : kvs.lookup z with
        | none =>
          refine kd_get2 D I3 ((hz z).2 el) ⟨yy, H3, I3.tok _, ry, ?_⟩
          rw [el] at p2
          exact p2.here rep2 r2
        | some lvv =>
          obtain ⟨uu, v', k1, k2, k3⟩ := (hz z).1 lvv el
          refine kd_get2 D I3 k1 ⟨v', H3, I3.tok _, k2, ?_⟩
          rw [el] at p2
          exact p2.here rep2 (k3 _ _)
      · exact p2.elim
/-! ### targets -/
theorem assign_star {env : Env} : ∀ {es : List Expr}, es.all notStar = true → (assignEach es env).length = es.length ∧ (assignEach es env).findIdx? (·.1) = none
  | [], _ => ⟨rfl, rfl⟩
  | e :: es, h => by
    simp only [List.all_cons, Bool.and_eq_true] at h
    obtain ⟨h1, h2⟩ := assign_star (env := env) h.2
    have : ∃ f, assignEach (e :: es) env = (false, f) :: assignEach es env := by
      cases e <;> first | exact ⟨_, rfl⟩ | (simp [notStar] at h; done)
    obtain ⟨f, ef⟩ := this
    rw [ef]
    refine ⟨by simp [h1], ?_⟩
    rw [List.findIdx?_cons]
    simp [h2]
theorem names_star : ∀ {is : List Nat} {es : List Expr} {N : List Str} {lb : Str → Bool}, is.length = es.length → ((is.zip es).all fun p => match p.2 with | .Name x _ => decide (N[p.1]? = some x) && lb x | _ => false) = true → es.all notStar = true
  | [], [], _, _, _, _ => rfl
  | [], _ :: _, _, _, h, _ => by simp at h
  | _ :: _, [], _, _, h, _ => by simp at h
  | i :: is, e :: es, N, sc, hl, hc => by
    simp only [List.zip_cons_cons, List.all_cons, Bool.and_eq_true] at hc
    have := names_star (is := is) (es := es) (by simpa using hl) hc.2
    cases e with
    | Name x p => simp [notStar, this]
    | _ => simp at hc
/-- the reading of a target -/
def gsOf : List Nat → TGs
  | [] => gNil
  | i :: is => gCons (gName i) (gsOf is)
def gOf (K : PySem.W.Frag) : LTg → TG
  | .name i => gName i
  | .tup is => gTup K is.length (gsOf is)
def inOwn (own : List Nat) : LTg → Prop
  | .name i => i ∈ own
  | .tup is => ∀ i ∈ is, i ∈ own
theorem gsOf_ok {K : PySem.W.Frag} {H : Hp} {ρ : Rho} : ∀ (is : List Nat) (xs : List LV) (vs : List V) (l : LSt) (σ : L2.St) (Q : L2.St → Hp → Prop), xs.length = is.length → Rls K H ρ xs vs → RS K H ρ l σ →
      (∀ σ', RS K H ρ (setAll is xs l) σ' → (∀ own : List Nat, (∀ i ∈ is, i ∈ own) → L2.wipe σ' own = L2.wipe σ own) → Q σ' H) → gsOf is vs σ H Q
  | [], xs, vs, l, σ, Q, hl, r, rs, q => by
    have : xs = [] := List.eq_nil_of_length_eq_zero hl
    subst this
    exact ⟨Rls.nil.mp r, q σ rs fun _ _ => rfl⟩
  | i :: is, xs, vs, l, σ, Q, hl, r, rs, q => by
    cases xs with
    | nil => simp at hl
    | cons y ys =>
      obtain ⟨v, w, rfl, r1, r2⟩ := Rls.cons.mp r
      refine ⟨v, w, rfl, ?_⟩
      refine gsOf_ok is ys w _ _ Q (by simpa using hl) r2 (rs.set r1) fun σ' rs' wp => q σ' rs' fun own ho => ?_
      rw [wp own fun j hj => ho j (List.mem_cons_of_mem _ hj)]
      exact wipe_set (ho i List.mem_cons_self)
theorem gOf_ok {K : PySem.W.Frag} {H : Hp} {ρ : Rho} {tg : LTg} {x : LV} {v : V} {l l' : LSt} {L : LH} {σ : L2.St} {Q : L2.St → Hp → Prop} (ht : tgt tg x l L = some l') (r : Rl K H ρ x v) (rs : RS K H ρ l σ)
    (q : ∀ σ', RS K H ρ l' σ' → (∀ own : List Nat, inOwn own tg → L2.wipe σ' own = L2.wipe σ own) → Q σ' H) : gOf K tg v σ H Q := by
  cases tg with
  | name i =>
    simp only [tgt, Option.some.injEq] at ht
    subst ht
    exact q _ (rs.set r) fun own ho => wipe_set ho
  | tup is =>
    simp only [tgt] at ht
    split at ht
    · rename_i xs
      split at ht
      · rename_i hl
        simp only [Option.some.injEq] at ht
        subst ht
        obtain ⟨a, vs, rfl, s1, r1⟩ := Rl.tup.mp r
        exact ⟨a, vs, rfl, s1, by rw [← r1.length]; exact hl, gsOf_ok is xs vs l σ Q hl r1 rs q⟩
      · cases ht
    · cases ht
theorem sGs {lb : Str → Bool} (nd : X.N.Nodup) (hl : ∀ x, lb x = true → L2.Loc X.env.scope x ∧ (X.fn x = true ∨ X.env.scope.names.lookup x = some .local)) : ∀ (is : List Nat) (es : List Expr), is.length = es.length →
    ((is.zip es).all fun p => match p.2 with | .Name x _ => decide (X.N[p.1]? = some x) && lb x | _ => false) = true → PGs X es (gsOf is)
  | [], [], _, _ => pgs_nil
  | [], _ :: _, h, _ => by simp at h
  | _ :: _, [], h, _ => by simp at h
  | i :: is, e :: es, hln, hc => by
    simp only [List.zip_cons_cons, List.all_cons, Bool.and_eq_true] at hc
    cases e with
    | Name x pos =>
      obtain ⟨h1, h2⟩ := hc
      simp only [Bool.and_eq_true, decide_eq_true_eq] at h1
      obtain ⟨a, b⟩ := hl x h1.2
      exact pgs_cons (pg_name nd h1.1 a b) (sGs nd hl is es (by simpa using hln) h2)
    | _ => simp at hc
theorem sG {tg : LTg} {e : Expr} {lb : Str → Bool} (nd : X.N.Nodup) (hc : X.calm = true) (hl : ∀ x, lb x = true → L2.Loc X.env.scope x ∧ (X.fn x = true ∨ X.env.scope.names.lookup x = some .local)) (h : ckTg X.N lb tg e = true) : PG X e (gOf X.K tg) := by
  cases tg with
  | name i =>
    cases e with
    | Name x pos =>
      simp only [ckTg, Bool.and_eq_true, decide_eq_true_eq] at h
      obtain ⟨a, b⟩ := hl x h.2
      exact pg_name nd h.1 a b
    | _ => simp [ckTg] at h
  | tup is =>
    cases e with
    | Tuple es k pos =>
      simp only [ckTg, Bool.and_eq_true, decide_eq_true_eq] at h
      obtain ⟨a1, a2⟩ := assign_star (env := X.env) (names_star h.1 h.2)
      exact pg_tup (k := k) (n := is.length) hc (sGs nd hl is es h.1 h.2) (a1.trans h.1.symm) a2
    | _ => simp [ckTg] at h
/-! ### comprehensions -/
theorem Good.blk (G : Good T N F lv X) (s : Shared) (H : Hp) (scope : Scope) (C : Addr) (cl : List (Str × Addr)) (fp : List Addr) : Good T N F lv (X.blk s H scope (compEnvC scope cl C X.env) fp) where
  calm := G.calm
  nd := G.nd
  room := G.room
  fx := G.fx
theorem lclB_ok {scope : Scope} {s : Shared} {H : Hp} {C : Addr} {cl : List (Str × Addr)} {fp : List Addr} (x : Str) (h : lclB (relS scope X.env.scope) x = true) :
    L2.Loc (X.blk s H scope (compEnvC scope cl C X.env) fp).env.scope x ∧ ((X.blk s H scope (compEnvC scope cl C X.env) fp).fn x = true ∨ (X.blk s H scope (compEnvC scope cl C X.env) fp).env.scope.names.lookup x = some .local) := by
  have e := of_decide_eq_true h
  exact ⟨.inl e, .inr e⟩
def PostU (N : Na) (K : PySem.W.Frag) (o : Out Unit) (H : Hp) (ρ : Rho) (P : Hp → Prop) (j : Nat) (D : Addr) : Prop :=
  match o with
  | .ok _ L' => ∀ H' ρ', Sty H H' → Ex ρ ρ' → Rep N K H' L' ρ' → ρ' j = some D → P H'
  | _ => False
theorem PostU.mono {K : PySem.W.Frag} {o : Out Unit} {H H' : Hp} {ρ ρ' : Rho} {P : Hp → Prop} {j : Nat} {D : Addr} (s : Sty H H') (e : Ex ρ ρ') (h : PostU N K o H ρ P j D) : PostU N K o H' ρ' P j D := by
  cases o with
  | ok a L' => exact fun H2 ρ2 s2 e2 => h H2 ρ2 (s.trans s2) (e.trans e2)
  | err x L' => exact h
  | bad => exact h
def ttOf (N : Na) (K : PySem.W.Frag) (F : Fn) (t : Option Unit) (c : LE) : TT := match t with
  | none => tYes
  | some _ => LTB N K (evT F c)
/-- the turns of a comprehension: D (n) the new list -/
theorem comp_loop {own : List Nat} {tg : LTg} {t : Option Unit} {c e' : LE} {tt : TT} {S : Src} {J : It} {Hs Hb : Hp} {ρs ρb : Rho} {Lb : LH} {l : LSt} {σ : L2.St} {n : Nat} {D : Addr} {Qd : Hp → Prop} (hin : inOwn own tg)
    (htc : tt = ttOf N X.K F t c) (drv : Drv N X.K J S Hs ρs) (sb : Sty Hs Hb) (eb : Ex ρs ρb) (rep0 : Rep N X.K Hb Lb ρb) (rsb : RS X.K Hb ρb l σ) (hD : ρb n = some D)
    (p0 : PostU N X.K (compL S n (compB tg (wipeL l own) (optT t (evT F c)) (evE F e')) S.items Lb) Hb ρb Qd n D) :
    ∃ W : Nat → Nat → Hp → Prop, (∃ m, W 0 m Hb) ∧ ∀ i m H, W i m H → (J.stop i H ∧ Qd H) ∨ (J.go i H ∧ ∃ Nx : Hp → Prop, (∀ H', Nx H' → ∃ m', m' < m ∧ W (i + 1) m' H') ∧ ∀ x H', J.yld i H x H' → gOf X.K tg x (_root_.L2.wipe σ own) H' fun σ2 H2 => _root_.L2.wipe σ2 own = _root_.L2.wipe σ own ∧ tt σ2 H2 fun b H3 =>
      if b = true then LTE N X.K (evE F e') σ2 H3 fun y H4 => ∃ acc, H4 D = some (.lst acc) ∧ acc.length < sizeLine ∧ Nx (upd H4 D (.lst (acc ++ [y]))) else Nx H3) := by
    generalize hbody : compB tg (wipeL l own) (optT t (evT F c)) (evE F e') = body at p0
    refine ⟨fun i m H => ∃ L ρ, Sty Hb H ∧ Ex ρb ρ ∧ Rep N X.K H L ρ ∧ i ≤ S.items.length ∧ m = S.items.length - i ∧ PostU N X.K (compL S n body (S.items.drop i) L) H ρ Qd n D,
      ⟨_, Lb, ρb, Sty.refl _, Ex.refl _, rep0, Nat.zero_le _, rfl, by rw [List.drop_zero]; exact p0⟩, ?_⟩
    rintro i m H2 ⟨L2, ρ2, s2, e2, rep2, hi2, hm, p2⟩
    have hj : ρ2 n = some D := e2 _ _ hD
    by_cases hlt : i < S.items.length
    · right
      have ed : S.items.drop i = S.items[i] :: S.items.drop (i + 1) := List.drop_eq_getElem_cons hlt
      rw [ed] at p2
      unfold compL at p2
      split at p2
      · rename_i hk
        obtain ⟨dgo, _⟩ := drv i H2 L2 ρ2 (sb.trans s2) (eb.trans e2) rep2 hk
        obtain ⟨go, yl⟩ := dgo S.items[i] (List.getElem?_eq_getElem hlt)
        refine ⟨go, fun H' => ∃ L ρ, Sty Hb H' ∧ Ex ρb ρ ∧ Rep N X.K H' L ρ ∧ PostU N X.K (compL S n body (S.items.drop (i + 1)) L) H' ρ Qd n D,
          fun H' ⟨L', ρ', q1, q2, q3, q4⟩ => ⟨S.items.length - (i + 1), by omega, L', ρ', q1, q2, q3, hlt, rfl, q4⟩, fun v H3 y => ?_⟩
        obtain ⟨ρ3, s3, e3, rep3, rv⟩ := yl v H3 y
        have hb1 : body S.items[i] L2 = compB tg (wipeL l own) (optT t (evT F c)) (evE F e') S.items[i] L2 := by rw [← hbody]
        rw [hb1] at p2
        unfold compB at p2
        cases et : tgt tg S.items[i] (wipeL l own) L2 with
        | none => rw [et] at p2; exact p2.elim
        | some l2 =>
          rw [et] at p2
          have rs3 : RS X.K H3 ρ3 (wipeL l own) (_root_.L2.wipe σ own) := (rsb.mono (s2.trans s3) (e2.trans e3)).wipe own
          have p3 := p2.mono s3 e3
          refine gOf_ok et rv rs3 fun σ2 rs4 wp => ?_
          refine ⟨by rw [wp own hin]; exact wipe_wipe, ?_⟩
          -- the item is laid
          have elt : ∀ (H4 : Hp) (L4 : LH) (ρ4 : Rho), Sty H3 H4 → Ex ρ3 ρ4 → RS X.K H4 ρ4 l2 σ2 → Rep N X.K H4 L4 ρ4 →
              PostU N X.K (((evE F e' l2 L4).bind fun v L5 => (.ok (some v) L5 : Out (Option LV))).bind fun r L' => match r with
                  | none => compL S n body (S.items.drop (i + 1)) L'
                  | some v => match L'.at_ n with
                    | some (.lst acc) => if acc.length < sizeLine then compL S n body (S.items.drop (i + 1)) (L'.put n (.lst (acc ++ [v]))) else .bad
                    | _ => .bad) H4 ρ4 Qd n D →
              LTE N X.K (evE F e') σ2 H4 fun y H5 => ∃ acc, H5 D = some (.lst acc) ∧ acc.length < sizeLine ∧ ∃ L ρ, Sty Hb (upd H5 D (.lst (acc ++ [y]))) ∧ Ex ρb ρ ∧ Rep N X.K (upd H5 D (.lst (acc ++ [y]))) L ρ ∧
                PostU N X.K (compL S n body (S.items.drop (i + 1)) L) (upd H5 D (.lst (acc ++ [y]))) ρ Qd n D := fun H4 L4 ρ4 s4 e4 rs4 rep4 p4 => by
            refine ⟨l2, L4, ρ4, rs4, rep4, ?_⟩
            cases ee : evE F e' l2 L4 with
            | err x L5 => rw [ee] at p4; exact p4.elim
            | bad => rw [ee] at p4; exact p4.elim
            | ok v5 L5 =>
              rw [ee] at p4
              simp only [Out.bind] at p4
              intro H5 ρ5 w s5 e5 rep5 rw5
              split at p4
              · rename_i acc ea
                split at p4
                · rename_i hz
                  have hj5 : ρ5 n = some D := e5 _ _ (e4 _ _ (e3 _ _ hj))
                  obtain ⟨D', vs, q1, q2, q3⟩ := rep5.lst ea
                  rw [hj5] at q1; cases q1
                  have S5 := rep5.styPut (u := .lst (vs ++ [w])) hj5 ea
                  refine ⟨vs, q2, by rw [← q3.length]; exact hz, L5.put n (.lst (acc ++ [v5])), ρ5, ((s2.trans s3).trans (s4.trans s5)).trans S5, (e2.trans e3).trans (e4.trans e5), ?_, p4.mono (s5.trans S5) e5⟩
                  exact rep5.put hj5 ea (fun z => z) ⟨vs ++ [w], upd_same, Rls.append (Rls.mono S5 (Ex.refl _) _ _ q3) (Rls.mk (Rl.mono S5 (Ex.refl _) _ _ rw5) Rls.nil')⟩
                · exact p4.elim
              · exact p4.elim
          cases t with
          | none =>
            simp only [ttOf] at htc
            subst htc
            simp only [optT] at p3
            unfold tYes
            dsimp only
            rw [if_pos rfl]
            exact elt H3 L2 ρ3 (Sty.refl _) (Ex.refl _) rs4 rep3 p3
          | some u =>
            simp only [ttOf] at htc
            subst htc
            refine ⟨l2, L2, ρ3, rs4, rep3, ?_⟩
            simp only [optT] at p3
            cases ec : evT F c l2 L2 with
            | err x L4 => rw [ec] at p3; exact p3.elim
            | bad => rw [ec] at p3; exact p3.elim
            | ok b L4 =>
              rw [ec] at p3
              intro H4 ρ4 b' s4 e4 rep4 eb
              subst eb
              cases b with
              | true =>
                rw [if_pos rfl]
                exact elt H4 L4 ρ4 s4 e4 (rs4.mono s4 e4) rep4 (p3.mono s4 e4)
              | false =>
                rw [if_neg Bool.false_ne_true]
                refine ⟨L4, ρ4, (s2.trans s3).trans s4, (e2.trans e3).trans e4, rep4, p3.mono s4 e4⟩
      · exact p2.elim
    · left
      have ei : i = S.items.length := by omega
      subst ei
      rw [List.drop_length] at p2
      unfold compL at p2
      split at p2
      · rename_i hk
        obtain ⟨_, dst⟩ := drv S.items.length H2 L2 ρ2 (sb.trans s2) (eb.trans e2) rep2 hk
        exact ⟨dst (Nat.le_refl _), p2 H2 ρ2 (Sty.refl _) (Ex.refl _) rep2 hj⟩
      · exact p2.elim
theorem comp_core {own : List Nat} {tg : LTg} {it : LI} {t : Option Unit} {c e' : LE} {elt tgx iter : Expr} {ifs : List Expr} {scope : Scope} (G : Good T N F lv X)
    (hb : blkC X.N X.env.scope scope (own.map fun i => (X.N.getD i "", i)) = true)
    (hto : (match tg with
        | .name i => own.contains i
        | .tup is => is.all own.contains) = true) (htg : ckTg X.N (lclB (relS scope X.env.scope)) tg tgx = true) (hset : notSet iter = true) (hi : PI X tgx iter (LTI N X.K (evI F it)))
    (hc : match t, ifs with
        | none, [] => True
        | some _, [q] => ∀ (s : Shared) (H : Hp) (C : Addr) (cl : List (Str × Addr)) (fp : List Addr), PT (X.blk s H scope (compEnvC scope cl C X.env) fp) q (LTB N X.K (evT F c))
        | _, _ => False)
    (he : ∀ (s : Shared) (H : Hp) (C : Addr) (cl : List (Str × Addr)) (fp : List Addr), PE (X.blk s H scope (compEnvC scope cl C X.env) fp) elt (LTE N X.K (evE F e'))) :
    ∃ tt : TT, (∀ (s : Shared) (H : Hp) (C : Addr) (cl : List (Str × Addr)) (fp : List Addr), PTs (X.blk s H scope (compEnvC scope cl C X.env) fp) ifs tt) ∧
      ∀ σ H Q, LTE N X.K (evE F (.comp own tg it t c e')) σ H Q → tLc (LTI N X.K (evI F it)) (gOf X.K tg) tt (LTE N X.K (evE F e')) ((own.map fun i => (X.N.getD i "", i)).map (·.2)) σ H Q := by
  have eown : (own.map fun i => (X.N.getD i "", i)).map (·.2) = own := by
    rw [List.map_map]
    exact List.map_id' own
  have hin : inOwn own tg := by
    cases tg with
    | name i => simpa [inOwn] using hto
    | tup is =>
      simp only [List.all_eq_true, List.contains_iff_mem] at hto
      exact hto
  obtain ⟨tt, ht, htc⟩ : ∃ tt : TT, (∀ (s : Shared) (H : Hp) (C : Addr) (cl : List (Str × Addr)) (fp : List Addr), PTs (X.blk s H scope (compEnvC scope cl C X.env) fp) ifs tt) ∧
      tt = ttOf N X.K F t c := by
    cases t with
    | none =>
      cases ifs with
      | nil => exact ⟨tYes, fun _ _ _ _ _ => pts_nil, rfl⟩
      | cons q qs => exact hc.elim
    | some u =>
      cases ifs with
      | nil => exact hc.elim
      | cons q qs =>
        cases qs with
        | nil => exact ⟨LTB N X.K (evT F c), fun s H C cl fp => pts_one (hc s H C cl fp), rfl⟩
        | cons q2 qs => exact hc.elim
  refine ⟨tt, ht, fun σ H Q ⟨l, L, ρ, rs, rep, p⟩ => ?_⟩
  rw [eown]
  simp only [evE] at p
  refine ⟨l, L, ρ, rs, rep, ?_⟩
  cases e1 : evI F it l L with
  | err x L1 => rw [e1] at p; exact p.elim
  | bad => rw [e1] at p; exact p.elim
  | ok S L1 =>
    rw [e1] at p
    intro H1 ρ1 st ex rep1 J drv D hD
    simp only [Out.bind] at p
    -- the new list
    have st0 : Sty H1 (upd H1 D (.lst [])) := Sty.new hD
    have ex0 := rep1.exNew D
    have rep0 : Rep N X.K (upd H1 D (.lst [])) (L1.new (.lst [])) (rhoNew ρ1 L1.n D) := rep1.new hD (fun z => z) ⟨[], upd_same, Rls.nil'⟩
    have p0 : PostU N X.K (compL S L1.n (compB tg (wipeL l own) (optT t (evT F c)) (evE F e')) S.items (L1.new (.lst []))) (upd H1 D (.lst [])) (rhoNew ρ1 L1.n D) (fun H' => Q (.ref D) H') L1.n D := by
      cases e2 : compL S L1.n (compB tg (wipeL l own) (optT t (evT F c)) (evE F e')) S.items (L1.new (.lst [])) with
      | err x L2 => rw [e2] at p; exact p.elim
      | bad => rw [e2] at p; exact p.elim
      | ok u L2 =>
        rw [e2] at p
        intro H' ρ' s' e' rep' hj
        exact p H' ρ' _ (st.trans (st0.trans s')) (ex.trans (ex0.trans e')) rep' (Rl.ref.mpr ⟨D, hj, rfl⟩)
    exact comp_loop hin htc drv st0 ex0 rep0 ((rs.mono st ex).mono st0 ex0) rhoNew_self p0
theorem sE_comp {own : List Nat} {tg : LTg} {it : LI} {t : Option Unit} {c e' : LE} {elt tgx iter : Expr} {ifs : List Expr} {scope : Scope} {pos : Pos} (G : Good T N F lv X)
    (hb : blkC X.N X.env.scope scope (own.map fun i => (X.N.getD i "", i)) = true)
    (hto : (match tg with
        | .name i => own.contains i
        | .tup is => is.all own.contains) = true) (htg : ckTg X.N (lclB (relS scope X.env.scope)) tg tgx = true) (hset : notSet iter = true) (hi : PI X tgx iter (LTI N X.K (evI F it)))
    (hc : match t, ifs with
        | none, [] => True
        | some _, [q] => ∀ (s : Shared) (H : Hp) (C : Addr) (cl : List (Str × Addr)) (fp : List Addr), PT (X.blk s H scope (compEnvC scope cl C X.env) fp) q (LTB N X.K (evT F c))
        | _, _ => False)
    (he : ∀ (s : Shared) (H : Hp) (C : Addr) (cl : List (Str × Addr)) (fp : List Addr), PE (X.blk s H scope (compEnvC scope cl C X.env) fp) elt (LTE N X.K (evE F e'))) :
    PE X (.ListComp elt [⟨tgx, iter, ifs, 0⟩] scope pos) (LTE N X.K (evE F (.comp own tg it t c e'))) := by
  obtain ⟨tt, ht, imp⟩ := comp_core G hb hto htg hset hi hc he
  exact PE.of (pe_lc (tg := tgx) (pos := pos) (g := gOf X.K tg) (tt := tt) G.calm G.nd hi (blkOk_by hb) (fun s H C cl fp => sG (X := X.blk s H scope (compEnvC scope cl C X.env) fp) G.nd G.calm (fun x hx => lclB_ok x hx) htg) ht he (set_no hset)) imp
theorem yes_of {σ : L2.St} {H : Hp} {A B : Hp → Prop} (h : A H) : tYes σ H (fun b H => if b = true then A H else B H) := by
  have : (if true = true then A H else B H) := by rw [if_pos rfl]; exact h
  exact this
/-- two sources -/
theorem comp2_core {own own1 : List Nat} {tg tg1 : LTg} {it it1 : LI} {e' : LE} {tgx tgx1 iter iter1 elt : Expr} {scope : Scope} (G : Good T N F lv X)
    (hin : inOwn own tg) (hin1 : inOwn own1 tg1) :
      ∀ σ H Q, LTE N X.K (evE F (.comp2 own own1 tg it tg1 it1 e')) σ H Q → tLc2 (LTI N X.K (evI F it)) (gOf X.K tg) tYes (LTI N X.K (evI F it1)) (gOf X.K tg1) tYes (LTE N X.K (evE F e')) own own1 σ H Q := by
  intro σ H Q ⟨l, L, ρ, rs, rep, p⟩
  simp only [evE] at p
  refine ⟨l, L, ρ, rs, rep, ?_⟩
  cases e1 : evI F it l L with
  | err x L1 => rw [e1] at p; exact p.elim
  | bad => rw [e1] at p; exact p.elim
  | ok S L1 =>
    rw [e1] at p
    intro H1 ρ1 st ex rep1 J drv D hD
    simp only [Out.bind] at p
    have st0 : Sty H1 (upd H1 D (.lst [])) := Sty.new hD
    have ex0 := rep1.exNew D
    have rep0 : Rep N X.K (upd H1 D (.lst [])) (L1.new (.lst [])) (rhoNew ρ1 L1.n D) := rep1.new hD (fun z => z) ⟨[], upd_same, Rls.nil'⟩
    have rs0 := (rs.mono st ex).mono st0 ex0
    generalize hbody : comp2B tg (wipeL l own) (evI F it1) L1.n (fun σ2 => compB tg1 (wipeL σ2 own1) none (evE F e')) = body at p
    have p0 : PostU N X.K (comp2L S body S.items (L1.new (.lst []))) (upd H1 D (.lst [])) (rhoNew ρ1 L1.n D) (fun H' => Q (.ref D) H') L1.n D := by
      cases e2 : comp2L S body S.items (L1.new (.lst [])) with
      | err x L2 => rw [e2] at p; exact p.elim
      | bad => rw [e2] at p; exact p.elim
      | ok u L2 =>
        rw [e2] at p
        intro H' ρ' s' e' rep' hj
        exact p H' ρ' _ (st.trans (st0.trans s')) (ex.trans (ex0.trans e')) rep' (Rl.ref.mpr ⟨D, hj, rfl⟩)
    refine ⟨fun i m H => ∃ L ρ, Sty (upd H1 D (.lst [])) H ∧ Ex (rhoNew ρ1 L1.n D) ρ ∧ Rep N X.K H L ρ ∧ i ≤ S.items.length ∧ m = S.items.length - i ∧ PostU N X.K (comp2L S body (S.items.drop i) L) H ρ (fun H' => Q (.ref D) H') L1.n D,
      ⟨_, L1.new (.lst []), rhoNew ρ1 L1.n D, Sty.refl _, Ex.refl _, rep0, Nat.zero_le _, rfl, by rw [List.drop_zero]; exact p0⟩, ?_⟩
    rintro i m H2 ⟨L2, ρ2, s2, e2, rep2, hi2, hm, p2⟩
    have hj : ρ2 L1.n = some D := e2 _ _ rhoNew_self
    by_cases hlt : i < S.items.length
    · right
      have ed : S.items.drop i = S.items[i] :: S.items.drop (i + 1) := List.drop_eq_getElem_cons hlt
      rw [ed] at p2
      unfold comp2L at p2
      split at p2
      · rename_i hk
        obtain ⟨dgo, _⟩ := drv i H2 L2 ρ2 (st0.trans s2) (ex0.trans e2) rep2 hk
        obtain ⟨go, yl⟩ := dgo S.items[i] (List.getElem?_eq_getElem hlt)
        refine ⟨go, fun H' => ∃ L ρ, Sty (upd H1 D (.lst [])) H' ∧ Ex (rhoNew ρ1 L1.n D) ρ ∧ Rep N X.K H' L ρ ∧ PostU N X.K (comp2L S body (S.items.drop (i + 1)) L) H' ρ (fun H' => Q (.ref D) H') L1.n D,
          fun H' ⟨L', ρ', q1, q2, q3, q4⟩ => ⟨S.items.length - (i + 1), by omega, L', ρ', q1, q2, q3, hlt, rfl, q4⟩, fun v H3 y => ?_⟩
        obtain ⟨ρ3, s3, e3, rep3, rv⟩ := yl v H3 y
        have hb1 : body S.items[i] L2 = comp2B tg (wipeL l own) (evI F it1) L1.n (fun σ2 => compB tg1 (wipeL σ2 own1) none (evE F e')) S.items[i] L2 := by rw [← hbody]
        rw [hb1] at p2
        unfold comp2B at p2
        cases et : tgt tg S.items[i] (wipeL l own) L2 with
        | none => rw [et] at p2; exact p2.elim
        | some l2 =>
          rw [et] at p2
          have rs3 : RS X.K H3 ρ3 (wipeL l own) (_root_.L2.wipe σ own) := (rs0.mono (s2.trans s3) (e2.trans e3)).wipe own
          have p3 := p2.mono s3 e3
          refine gOf_ok et rv rs3 fun σ2 rs4 wp => ?_
          refine ⟨by rw [wp own hin]; exact wipe_wipe, ?_⟩
          refine yes_of ?_
          dsimp only at p3
          refine ⟨l2, L2, ρ3, rs4, rep3, ?_⟩
          cases ei : evI F it1 l2 L2 with
          | err x L4 => rw [ei] at p3; exact p3.elim
          | bad => rw [ei] at p3; exact p3.elim
          | ok S4 L4 =>
            rw [ei] at p3
            simp only [Out.bind] at p3
            intro H4 ρ4 s4 e4 rep4 J4 drv4
            refine comp_loop (t := none) (c := .dct0) hin1 rfl drv4 (Sty.refl _) (Ex.refl _) rep4 (rs4.mono s4 e4) (e4 _ _ (e3 _ _ hj)) ?_
            have p4 := p3.mono s4 e4
            simp only [optT]
            cases ec : compL S4 L1.n (compB tg1 (wipeL l2 own1) none (evE F e')) S4.items L4 with
            | err x L5 => rw [ec] at p4; exact p4.elim
            | bad => rw [ec] at p4; exact p4.elim
            | ok u L5 =>
              rw [ec] at p4
              intro H5 ρ5 s5 e5 rep5 _
              exact ⟨L5, ρ5, (s2.trans s3).trans (s4.trans s5), (e2.trans e3).trans (e4.trans e5), rep5, p4.mono s5 e5⟩
      · exact p2.elim
    · left
      have ei : i = S.items.length := by omega
      subst ei
      rw [List.drop_length] at p2
      unfold comp2L at p2
      split at p2
      · rename_i hk
        obtain ⟨_, dst⟩ := drv S.items.length H2 L2 ρ2 (st0.trans s2) (ex0.trans e2) rep2 hk
        exact ⟨dst (Nat.le_refl _), p2 H2 ρ2 (Sty.refl _) (Ex.refl _) rep2 hj⟩
      · exact p2.elim
theorem own_eq {NN : List Str} {own : List Nat} : (own.map fun i => (NN.getD i "", i)).map (·.2) = own := by
  rw [List.map_map]
  exact List.map_id' own
theorem sE_comp2 {own own1 : List Nat} {tg tg1 : LTg} {it it1 : LI} {e' : LE} {tgx tgx1 iter iter1 elt : Expr} {scope : Scope} {pos : Pos} (G : Good T N F lv X)
    (hb : blkC X.N X.env.scope scope (own.map fun i => (X.N.getD i "", i)) = true) (hin : inOwn own tg) (hin1 : inOwn own1 tg1) (hv : ∀ i ∈ own1, i ∈ own)
    (htg : ckTg X.N (lclB (relS scope X.env.scope)) tg tgx = true) (htg1 : ckTg X.N (lclB (relS scope X.env.scope)) tg1 tgx1 = true) (hset : notSet iter = true) (hset1 : notSet iter1 = true) (hi : PI X tgx iter (LTI N X.K (evI F it)))
    (hi1 : ∀ (s : Shared) (H : Hp) (C : Addr) (cl : List (Str × Addr)) (fp : List Addr), PI (X.blk s H scope (compEnvC scope cl C X.env) fp) tgx1 iter1 (LTI N X.K (evI F it1)))
    (he : ∀ (s : Shared) (H : Hp) (C : Addr) (cl : List (Str × Addr)) (fp : List Addr), PE (X.blk s H scope (compEnvC scope cl C X.env) fp) elt (LTE N X.K (evE F e'))) :
    PE X (.ListComp elt [⟨tgx, iter, [], 0⟩, ⟨tgx1, iter1, [], 0⟩] scope pos) (LTE N X.K (evE F (.comp2 own own1 tg it tg1 it1 e'))) := by
  refine PE.of (pe_lc2 (tg := tgx) (tg1 := tgx1) (pos := pos) (g := gOf X.K tg) (g1 := gOf X.K tg1) (vs1 := own1) G.calm G.nd hi (blkOk_by hb) (by rw [own_eq]; exact hv) (fun s H C cl fp => sG (X := X.blk s H scope (compEnvC scope cl C X.env) fp) G.nd G.calm (fun x hx => lclB_ok x hx) htg) (fun _ _ _ _ _ => pts_nil) hi1
    (fun s H C cl fp => sG (X := X.blk s H scope (compEnvC scope cl C X.env) fp) G.nd G.calm (fun x hx => lclB_ok x hx) htg1) (fun _ _ _ _ _ => pts_nil) he (set_no hset) (fun env => set_no hset1)) fun σ H Q q => ?_
  rw [own_eq]
  exact comp2_core (X := X) (tgx := tgx) (tgx1 := tgx1) (iter := iter) (iter1 := iter1) (elt := elt) (scope := scope) G hin hin1 σ H Q q
end
end LG
end

section
set_option Elab.async false
set_option linter.all false
set_option maxRecDepth 100000
set_option maxHeartbeats 4000000
/-! LG8: a checked expression computes what the small language says. -/
namespace LG
open PySem PySem.Spec PyProof.Rows L2

def OkE (T : Tb) (N : Na) (F : Fn) (lv : Nat) (le : LE) : Prop := ∀ (X : Cx) (e : Expr), Good T N F lv X → ckE T X.N le X.env.scope e = true → PE X e (LTE N X.K (evE F le)) ∧ PT X e (LTB N X.K (evT F le))
theorem PK.of {X : Cx} {kws : List Keyword} {t t' : TA} (h : PK X kws t) (c : ∀ σ H Q, t' σ H Q → t σ H Q) : PK X kws t' := ⟨fun pos pins s σ H Q I q => h.run pos pins s σ H Q I (c _ _ _ q)⟩
structure EsOk (N : Na) (F : Fn) (X : Cx) (es : LEs) (l : List Expr) : Prop where
  pa : l.all notStar = true → PA X l (LTA N X.K (evA F es))
  an : ∀ pos, PE X (.BoolOp .And l pos) (LTE N X.K (evAnd F es))
  or : ∀ pos, PE X (.BoolOp .Or l pos) (LTE N X.K (evOr F es))
  ta : ∀ pos, PW X (.BoolOp .And l pos) (LTB N X.K (evTA F es))
  to : ∀ pos, PW X (.BoolOp .Or l pos) (LTB N X.K (evTO F es))
  nl : l = [] → es = .nil
  pk : ∀ kws : List Keyword, kws.map (·.value) = l → PK X kws (LTA N X.K (evA F es))
def OkEs (T : Tb) (N : Na) (F : Fn) (lv : Nat) (es : LEs) : Prop := ∀ (X : Cx) (l : List Expr), Good T N F lv X → ckEs T X.N es X.env.scope l = true → EsOk N F X es l
def OkI (T : Tb) (N : Na) (F : Fn) (lv : Nat) (it : LI) : Prop := ∀ (X : Cx) (tg e : Expr), Good T N F lv X → ckI T X.N it X.env.scope e = true → PI X tg e (LTI N X.K (evI F it))
section
variable {T : Tb} {N : Na} {F : Fn} {lv : Nat}
theorem PE.bad {X : Cx} {e : Expr} {f : LSt → LH → Out LV} (h : ∀ l L, f l L = .bad) : PE X e (LTE N X.K f) := ⟨fun pins s σ H Q I ⟨l, L, ρ, rs, rep, p⟩ => by rw [h] at p; exact p.elim⟩
theorem PT.bad {X : Cx} {e : Expr} {f : LSt → LH → Out Bool} (h : ∀ l L, f l L = .bad) : PT X e (LTB N X.K f) := ⟨fun pins s σ H Q I ⟨l, L, ρ, rs, rep, p⟩ => by rw [h] at p; exact p.elim⟩
theorem PW.bad {X : Cx} {e : Expr} {f : LSt → LH → Out Bool} (h : ∀ l L, f l L = .bad) : PW X e (LTB N X.K f) := ⟨fun wh pins s σ H Q I ⟨l, L, ρ, rs, rep, p⟩ => by rw [h] at p; exact p.elim⟩
theorem EsOk.nil' {X : Cx} : EsOk N F X .nil [] where
  pa := fun _ => sA_nil
  an := fun _ => PE.bad fun _ _ => by simp only [evAnd]
  or := fun _ => PE.bad fun _ _ => by simp only [evOr]
  ta := fun _ => PW.bad fun _ _ => by simp only [evTA]
  to := fun _ => PW.bad fun _ _ => by simp only [evTO]
  nl := fun _ => rfl
  pk := fun kws hk => by
    cases kws with
    | cons k kws => simp at hk
    | nil =>
      refine PK.of pk_nil fun σ H Q ⟨l, L, ρ, rs, rep, p⟩ => ?_
      simp only [evA] at p
      exact p.here rep Rls.nil'
theorem EsOk.cons' {X : Cx} {e : LE} {es : LEs} {x : Expr} {l : List Expr} (h : PE X x (LTE N X.K (evE F e))) (ht : PT X x (LTB N X.K (evT F e))) (r : EsOk N F X es l) (hl : es = .nil → l = []) : EsOk N F X (.cons e es) (x :: l) where
  pa := fun hs => by
    simp only [List.all_cons, Bool.and_eq_true] at hs
    exact sA_cons hs.1 h (r.pa hs.2)
  an := fun pos => by
    cases l with
    | nil =>
      rw [r.nl rfl]
      exact PE.of (sAnd_one h) fun σ H Q ⟨l, L, ρ, rs, rep, p⟩ => ⟨l, L, ρ, rs, rep, by simpa only [evAnd] using p⟩
    | cons y l =>
      cases es with
      | nil => cases hl rfl
      | cons e2 es => exact sAnd_cons h (r.an pos)
  or := fun pos => by
    cases l with
    | nil =>
      rw [r.nl rfl]
      exact PE.of (sAnd_one h) fun σ H Q ⟨l, L, ρ, rs, rep, p⟩ => ⟨l, L, ρ, rs, rep, by simpa only [evOr] using p⟩
    | cons y l =>
      cases es with
      | nil => cases hl rfl
      | cons e2 es => exact sOr_cons h (r.or pos)
  ta := fun pos => by
    cases l with
    | nil =>
      rw [r.nl rfl]
      exact PW.of (sTA_one ht) fun σ H Q q => q
    | cons y l =>
      cases es with
      | nil => cases hl rfl
      | cons e2 es => exact sTA_cons ht (r.ta pos)
  to := fun pos => by
    cases l with
    | nil =>
      rw [r.nl rfl]
      exact PW.of (sTO_one ht) fun σ H Q q => q
    | cons y l =>
      cases es with
      | nil => cases hl rfl
      | cons e2 es => exact sTO_cons ht (r.to pos)
  nl := fun h => by cases h
  pk := fun kws hk => by
    cases kws with
    | nil => simp at hk
    | cons k kws =>
      obtain ⟨nm, v, kp⟩ := k
      simp only [List.map_cons, List.cons.injEq] at hk
      obtain ⟨rfl, h2⟩ := hk
      refine PK.of (pk_cons h (r.pk kws h2)) fun σ H Q ⟨l, L, ρ, rs, rep, p⟩ => ?_
      simp only [evA] at p
      exact LT.bind rs rep p fun v x L1 H1 ρ1 s1 e1 rs1 rep1 r1 p1 => LT.bind rs1 rep1 p1 fun u y L2 H2 ρ2 s2 e2 rs2 rep2 r2 p2 => p2.here rep2 (Rls.mk (Rl.mono s2 e2 _ _ r1) r2)
theorem ckEs_nil {NN : List Str} {sc : Scope} {l : List Expr} (h : ckEs T NN .nil sc l = true) : l = [] := by
  simp only [ckEs, List.isEmpty_iff] at h
  exact h
theorem ownB_ok {own : List Nat} {tg : LTg} (h : ownB own tg = true) : inOwn own tg := by
  cases tg with
  | name i => simpa [ownB, inOwn] using h
  | tup is =>
    simp only [ownB, List.all_eq_true, List.contains_iff_mem] at h
    exact h
theorem ckEs_len {NN : List Str} {sc : Scope} : ∀ {es : LEs} {l : List Expr}, ckEs T NN es sc l = true → l.length = es.len
  | .nil, l, h => by rw [ckEs_nil h]; rfl
  | .cons e es, l, h => by
    simp only [ckEs] at h
    split at h
    · simp only [Bool.and_eq_true] at h
      simp [LEs.len, ckEs_len h.2]
    · cases h
mutual
theorem sE : ∀ le : LE, OkE T N F lv le
  | .var i => fun X e G h => by
    simp only [ckE] at h
    split at h
    · simp only [Bool.and_eq_true, decide_eq_true_eq, Bool.not_eq_true'] at h
      obtain ⟨⟨⟨a, b⟩, c⟩, d⟩ := h
      have hE := sE_var (N := N) (F := F) (X := X) (pos := by assumption) a b c d
      exact ⟨hE, sT_of hE (fun _ => rfl) fun σ L => by simp only [evT, evE]; split <;> rfl⟩
    · cases h
  | .con v => fun X e G h => by
    simp only [ckE] at h
    split at h
    · rename_i c j pos
      have hE := sE_con (N := N) (F := F) (X := X) (j := j) (pos := pos) h
      exact ⟨hE, sT_of hE (fun _ => rfl) fun σ L => by simp only [evT, evE]; rfl⟩
    · cases h
  | .glo i => fun X e G h => by
    simp only [ckE] at h
    split at h
    · simp only [Bool.and_eq_true, decide_eq_true_eq, Bool.not_eq_true'] at h
      exact ⟨sE_glo G h.1 h.2, PT.bad fun _ _ => by simp only [evT]⟩
    · cases h
  | .bin o a b => fun X e G h => by
    simp only [ckE] at h
    split at h
    · simp only [Bool.and_eq_true, decide_eq_true_eq, Bool.not_eq_true'] at h
      obtain ⟨⟨rfl, ha⟩, hb⟩ := h
      exact ⟨sE_bin (sE a X _ G ha).1 (sE b X _ G hb).1, PT.bad fun _ _ => by simp only [evT]⟩
    · cases h
  | .neg a => fun X e G h => by
    simp only [ckE] at h
    split at h
    · simp only [Bool.and_eq_true, decide_eq_true_eq, Bool.not_eq_true'] at h
      obtain ⟨rfl, ha⟩ := h
      exact ⟨sE_neg (sE a X _ G ha).1, PT.bad fun _ _ => by simp only [evT]⟩
    · cases h
  | .cmp o a b => fun X e G h => by
    simp only [ckE] at h
    split at h
    · simp only [Bool.and_eq_true, decide_eq_true_eq, Bool.not_eq_true'] at h
      obtain ⟨⟨⟨rfl, hm⟩, ha⟩, hb⟩ := h
      exact ⟨sE_cmp G hm (sE a X _ G ha).1 (sE b X _ G hb).1, sT_cmp G hm (sE a X _ G ha).1 (sE b X _ G hb).1⟩
    · cases h
  | .chn o p a b c => fun X e G h => by
    simp only [ckE] at h
    split at h
    · simp only [Bool.and_eq_true, decide_eq_true_eq, Bool.not_eq_true'] at h
      obtain ⟨⟨⟨⟨⟨rfl, rfl⟩, hm⟩, ha⟩, hb⟩, hc⟩ := h
      exact ⟨sE_chn G hm (sE a X _ G ha).1 (sE b X _ G hb).1 (sE c X _ G hc).1, sT_chn G hm (sE a X _ G ha).1 (sE b X _ G hb).1 (sE c X _ G hc).1⟩
    · cases h
  | .ands es => fun X e G h => by
    simp only [ckE] at h
    split at h
    · have r := sEs es X _ G h
      exact ⟨PE.of (r.an _) fun σ H Q ⟨l, L, ρ, rs, rep, p⟩ => ⟨l, L, ρ, rs, rep, by simpa only [evE] using p⟩, PT.of (r.ta _).pt fun σ H Q ⟨l, L, ρ, rs, rep, p⟩ => ⟨l, L, ρ, rs, rep, by simpa only [evT] using p⟩⟩
    · cases h
  | .ors es => fun X e G h => by
    simp only [ckE] at h
    split at h
    · have r := sEs es X _ G h
      exact ⟨PE.of (r.or _) fun σ H Q ⟨l, L, ρ, rs, rep, p⟩ => ⟨l, L, ρ, rs, rep, by simpa only [evE] using p⟩, PT.of (r.to _).pt fun σ H Q ⟨l, L, ρ, rs, rep, p⟩ => ⟨l, L, ρ, rs, rep, by simpa only [evT] using p⟩⟩
    · cases h
  | .not a => fun X e G h => by
    simp only [ckE] at h
    split at h
    · simp only [Bool.and_eq_true, decide_eq_true_eq, Bool.not_eq_true'] at h
      obtain ⟨rfl, ha⟩ := h
      exact ⟨sE_not (sE a X _ G ha).1, sT_not (sE a X _ G ha).2⟩
    · cases h
  | .ite c a b => fun X e G h => by
    simp only [ckE] at h
    split at h
    · simp only [Bool.and_eq_true, decide_eq_true_eq, Bool.not_eq_true'] at h
      obtain ⟨⟨hc, ha⟩, hb⟩ := h
      exact ⟨sE_ite (sE c X _ G hc).2 (sE a X _ G ha).1 (sE b X _ G hb).1, PT.bad fun _ _ => by simp only [evT]⟩
    · cases h
  | .tup es => fun X e G h => by
    simp only [ckE] at h
    split at h
    · simp only [Bool.and_eq_true] at h
      exact ⟨sE_tup ((sEs es X _ G h.2).pa h.1), PT.bad fun _ _ => by simp only [evT]⟩
    · cases h
  | .lst es => fun X e G h => by
    simp only [ckE] at h
    split at h
    · simp only [Bool.and_eq_true] at h
      exact ⟨sE_lst ((sEs es X _ G h.2).pa h.1), PT.bad fun _ _ => by simp only [evT]⟩
    · cases h
  | .dct0 => fun X e G h => by
    simp only [ckE] at h
    split at h
    · exact ⟨sE_dct0, PT.bad fun _ _ => by simp only [evT]⟩
    · cases h
  | .idx a i => fun X e G h => by
    simp only [ckE] at h
    split at h
    · simp only [Bool.and_eq_true, decide_eq_true_eq, Bool.not_eq_true'] at h
      obtain ⟨⟨hs, ha⟩, hb⟩ := h
      rename_i pos
      have hE := sE_idx (pos := pos) G hs (sE a X _ G ha).1 (sE i X _ G hb).1
      exact ⟨hE, sT_of hE (fun _ => rfl) fun σ L => by simp only [evT, evE, Out.bind_assoc]⟩
    · cases h
  | .slc a lo hi => fun X e G h => by
    simp only [ckE] at h
    split at h
    · rename_i x l hh p2 pos
      simp only [Bool.and_eq_true] at h
      obtain ⟨⟨ha, h1⟩, h2⟩ := h
      refine ⟨sE_slc (sE a X _ G ha).1 ?_ ?_, PT.bad fun _ _ => by simp only [evT]⟩
      · cases l with
        | none => exact h1
        | some l =>
          simp only [Bool.and_eq_true, Bool.not_eq_true'] at h1
          exact ⟨h1.1, (sE lo X _ G h1.2).1⟩
      · cases hh with
        | none => exact h2
        | some l =>
          simp only [Bool.and_eq_true, Bool.not_eq_true'] at h2
          exact ⟨h2.1, (sE hi X _ G h2.2).1⟩
    · cases h
  | .fld a f => fun X e G h => by
    simp only [ckE] at h
    split at h
    · simp only [Bool.and_eq_true, decide_eq_true_eq, Bool.not_eq_true'] at h
      obtain ⟨⟨h1, h2⟩, ha⟩ := h
      rename_i pos
      have hE := sE_fld (pos := pos) G h1 h2 (sE a X _ G ha).1
      exact ⟨hE, sT_of hE (fun _ => rfl) fun σ L => by simp only [evT, evE, Out.bind_assoc]⟩
    · cases h
  | .call f es => fun X e G h => by
    simp only [ckE] at h
    split at h
    · simp only [Bool.and_eq_true, decide_eq_true_eq] at h
      obtain ⟨⟨⟨h1, h2⟩, h3⟩, h4⟩ := h
      rename_i p _ pos
      have hE := sE_call (p := p) (pos := pos) G h1 h2 h3 ((sEs es X _ G h4).pa h3) (sEs es X _ G h4).nl
      exact ⟨hE, sT_of hE (fun _ => rfl) fun σ L => by simp only [evT, evE, Out.bind_assoc]⟩
    · cases h
  | .callk f es ks kes => fun X e G h => by
    simp only [ckE] at h
    split at h
    · rename_i x p l kws pos
      simp only [Bool.and_eq_true, decide_eq_true_eq] at h
      obtain ⟨⟨⟨⟨⟨⟨⟨h1, h2⟩, h3⟩, h4⟩, h5⟩, h6⟩, h7⟩, h8⟩ := h
      cases l with
      | nil => cases h3
      | cons y ys =>
        exact ⟨sE_callk G h1 h2 h4 h5 ((sEs es X _ G h7).pa h4) ((sEs kes X _ G h8).pk kws rfl) (ckEs_len h7) (by simpa using ckEs_len h8), PT.bad fun _ _ => by simp only [evT]⟩
    · cases h
  | .make c es => fun X e G h => by
    simp only [ckE] at h
    split at h
    · simp only [Bool.and_eq_true, decide_eq_true_eq] at h
      obtain ⟨⟨⟨h1, h2⟩, h3⟩, h4⟩ := h
      rename_i p _ pos
      exact ⟨sE_make (p := p) (pos := pos) G h1 h2 h3 ((sEs es X _ G h4).pa h3) (sEs es X _ G h4).nl, PT.bad fun _ _ => by simp only [evT]⟩
    · cases h
  | .meth a m es => fun X e G h => by
    simp only [ckE] at h
    split at h
    · simp only [Bool.and_eq_true, decide_eq_true_eq] at h
      obtain ⟨⟨⟨⟨⟨⟨h1, h2⟩, h3⟩, h4⟩, h5⟩, h6⟩, h7⟩ := h
      have hE := sE_meth G h1 h2 h3 (by simpa using h4) h5 (sE a X _ G h6).1 ((sEs es X _ G h7).pa h3) (sEs es X _ G h7).nl
      exact ⟨hE, sT_of hE (fun _ => rfl) fun σ L => by
        simp only [evT, evE, Out.bind_assoc]
        congr 1
        funext x L1
        split <;> first | rfl | simp only [Out.bind_assoc]⟩
    · cases h
  | .bf f es => fun X e G h => by
    simp only [ckE] at h
    split at h
    · rename_i x p l pos
      simp only [Bool.and_eq_true, decide_eq_true_eq] at h
      obtain ⟨⟨⟨⟨h1, h2⟩, h3⟩, h4⟩, h5⟩ := h
      subst h1
      obtain ⟨g1, g2, g3⟩ := glB_ok h2
      cases l with
      | nil => cases h3
      | cons y ys =>
        have hE := sE_bf (p := p) (pos := pos) G g1 h4 ((sEs es X _ G h5).pa h4)
        exact ⟨hE, sT_of hE (fun _ => rfl) fun σ L => by simp only [evT, evE, Out.bind_assoc]⟩
    · cases h
  | .bm m a es => fun X e G h => by
    simp only [ckE] at h
    split at h
    · simp only [Bool.and_eq_true, decide_eq_true_eq] at h
      obtain ⟨⟨⟨⟨⟨⟨h1, h2⟩, h3⟩, h4⟩, h5⟩, h6⟩, h7⟩ := h
      subst h1
      have hE := sE_bm (m := m) G h2 h3 (by simpa using h4) h5 (sE a X _ G h6).1 ((sEs es X _ G h7).pa h3) (sEs es X _ G h7).nl
      exact ⟨hE, sT_of hE (fun _ => rfl) fun σ L => by
        simp only [evT, evE, Out.bind_assoc]
        congr 1
        funext x L1
        split <;> first | rfl | simp only [Out.bind_assoc]⟩
    · cases h
  | .isin a ts => fun X e G h => by
    simp only [ckE] at h
    split at h
    · simp only [Bool.and_eq_true, decide_eq_true_eq] at h
      obtain ⟨⟨⟨⟨⟨h1, h2⟩, h3⟩, h4⟩, h5⟩, h6⟩ := h
      rename_i p y c pos
      subst h1
      obtain ⟨g1, g2, g3⟩ := glB_ok h2
      have hE := sE_isin (p := p) (pos := pos) G g1 h3 h4 h5 (sE a X _ G h6).1
      exact ⟨hE, sT_of hE (fun _ => rfl) fun σ L => by
        simp only [evT, evE, Out.bind_assoc]
        congr 1
        funext x L1
        cases tyAny L1 x ts <;> rfl⟩
    · cases h
  | .gidx g a => fun X e G h => by
    simp only [ckE] at h
    split at h
    · simp only [Bool.and_eq_true, decide_eq_true_eq] at h
      obtain ⟨⟨⟨⟨⟨h1, h2⟩, h3⟩, h4⟩, h5⟩, h6⟩ := h
      subst h3
      exact ⟨sE_gidx G h1 h2 h4 h5 (sE a X _ G h6).1, PT.bad fun _ _ => by simp only [evT]⟩
    · cases h
  | .kget g a d => fun X e G h => by
    simp only [ckE] at h
    split at h
    · simp only [Bool.and_eq_true, decide_eq_true_eq] at h
      obtain ⟨⟨⟨⟨⟨⟨⟨h1, h2⟩, h3⟩, h4⟩, h5⟩, h6⟩, h7⟩, h8⟩ := h
      subst h3
      exact ⟨sE_kget G h1 h2 h4 h5 h6 (sE a X _ G h7).1 (sE d X _ G h8).1, PT.bad fun _ _ => by simp only [evT]⟩
    · cases h
  | .comp own tg it t c e' => fun X e G h => by
    simp only [ckE] at h
    split at h
    · rename_i elt tgx iter ifs scope pos
      simp only [Bool.and_eq_true] at h
      obtain ⟨⟨⟨⟨⟨⟨⟨h1, h2⟩, h3⟩, h4⟩, h5⟩, h6⟩, h7⟩, h8⟩ := h
      refine ⟨sE_comp G h2 ?_ h4 h5 (sI it X _ _ G h6) ?_ (fun s H C cl fp => (sE e' _ _ (G.blk s H scope C cl fp) h8).1), PT.bad fun _ _ => by simp only [evT]⟩
      · cases tg <;> exact h3
      · cases t with
        | none =>
          cases ifs with
          | nil => trivial
          | cons q qs => cases h7
        | some u =>
          cases ifs with
          | nil => cases h7
          | cons q qs =>
            cases qs with
            | nil => exact fun s H C cl fp => (sE c _ _ (G.blk s H scope C cl fp) h7).2
            | cons q2 qs => cases h7
    · cases h
  | .comp2 own own1 tg it tg1 it1 e' => fun X e G h => by
    simp only [ckE] at h
    split at h
    · rename_i elt tgx iter tgx1 iter1 scope pos
      simp only [Bool.and_eq_true] at h
      obtain ⟨⟨⟨⟨⟨⟨⟨⟨⟨⟨⟨h1, h2⟩, h3⟩, h4⟩, h5⟩, h6⟩, h7⟩, h8⟩, h9⟩, h10⟩, h11⟩, h12⟩ := h
      refine ⟨sE_comp2 G h2 (ownB_ok h3) (ownB_ok h4) ?_ h6 h7 h8 h9 (sI it X _ _ G h10) (fun s H C cl fp => sI it1 _ _ _ (G.blk s H scope C cl fp) h11) (fun s H C cl fp => (sE e' _ _ (G.blk s H scope C cl fp) h12).1), PT.bad fun _ _ => by simp only [evT]⟩
      simp only [List.all_eq_true, List.contains_iff_mem] at h5
      exact h5
    · cases h
theorem sEs : ∀ es : LEs, OkEs T N F lv es
  | .nil => fun X l G h => by
    rw [ckEs_nil h]
    exact EsOk.nil'
  | .cons e es => fun X l G h => by
    simp only [ckEs] at h
    split at h
    · simp only [Bool.and_eq_true] at h
      refine EsOk.cons' (sE e X _ G h.1).1 (sE e X _ G h.1).2 (sEs es X _ G h.2) fun hn => ?_
      subst hn
      exact ckEs_nil h.2
    · cases h
theorem sI : ∀ it : LI, OkI T N F lv it
  | .seq a => fun X tg e G h => by
    simp only [ckI] at h
    exact sI_seq (sE a X _ G h).1
  | .rng1 a => fun X tg e G h => by
    simp only [ckI] at h
    split at h
    · simp only [Bool.and_eq_true, decide_eq_true_eq] at h
      obtain ⟨⟨⟨h1, h2⟩, h3⟩, h4⟩ := h
      subst h1
      obtain ⟨g1, g2, g3⟩ := glB_ok h2
      exact sI_rng1 G g1 h3 (sE a X _ G h4).1
    · cases h
  | .rng2 a b => fun X tg e G h => by
    simp only [ckI] at h
    split at h
    · simp only [Bool.and_eq_true, decide_eq_true_eq] at h
      obtain ⟨⟨⟨⟨⟨h1, h2⟩, h3⟩, h4⟩, h5⟩, h6⟩ := h
      subst h1
      obtain ⟨g1, g2, g3⟩ := glB_ok h2
      exact sI_rng2 G g1 h3 h4 (sE a X _ G h5).1 (sE b X _ G h6).1
    · cases h
end
end
end LG
end

section
set_option Elab.async false
set_option linter.all false
set_option maxRecDepth 100000
set_option maxHeartbeats 4000000
/-! LG9: statements. -/
namespace LG
open PySem PySem.Spec PyProof.Rows L2

/-! ### the check -/
def swF (sc : Scope) (x : Str) (px : Pos) (v : Expr) : Bool := notComp v || match v with
  | .ListComp _ _ _ _ => decide (sc.names.lookup x = some .cell)
  | _ => false
/-- name = [..], swapped -/
def swT (sc : Scope) (x : Str) (px : Pos) (v : Expr) : Bool := match v with
  | .ListComp _ _ scope pos => decide (sc.names.lookup x = some .local) && (px.line == pos.line) && !(scope.names.any fun (n, k) => n == x && (k == .local || k == .cell))
  | _ => false
def notTup : Expr → Bool
  | .Tuple _ _ _ => false
  | _ => true
mutual
def ckS (T : Tb) (N : List Str) : LS → Scope → Stmt → Bool
  | .set i e => fun sc s => match s with
    | .Assign [.Name x px] v _ => decide (N[i]? = some x) && locB sc x && ckE T N e sc v && (swF sc x px v || swT sc x px v)
    | _ => false
  | .setf o f e => fun sc s => match s with
    | .Assign [.Attribute ox a _] v _ => decide (T.nms[f]? = some a) && ckE T N o sc ox && ckE T N e sc v
    | _ => false
  | .seti o i e => fun sc s => match s with
    | .Assign [.Subscript ox ix _] v _ => notSlice ix && ckE T N o sc ox && ckE T N i sc ix && ckE T N e sc v
    | _ => false
  | .unp is e => fun sc s => match s with
    | .Assign [tg] v _ => notTup v && (match tg with
      | .Tuple _ _ _ => true
      | _ => false) && ckTg N (locB sc) (.tup is) tg && ckE T N e sc v
    | _ => false
  | .par i j a b => fun sc s => match s with
    | .Assign [.Tuple [.Name x px, .Name y py] _ _] (.Tuple [u, v] _ _) _ => decide (N[i]? = some x) && decide (N[j]? = some y) && decide (i ≠ j) && decide (x ≠ y) && lclB sc x && lclB sc y && (px.line == py.line) && notStar u && notStar v && (!([u, v].all (foldedForSure 8))) && (!([u, v].all (constantsAlone 8))) && ckE T N a sc u && ckE T N b sc v
    | _ => false
  | .expr e => fun sc s => match s with
    | .Expr v _ => notComp v && ckE T N e sc v
    | _ => false
  | .ret e => fun sc s => match s with
    | .Return (some v) _ => ckE T N e sc v
    | _ => false
  | .retN => fun sc s => match s with
    | .Return none _ => true
    | _ => false
  | .ifs c a b => fun sc s => match s with
    | .If t x y _ => ckE T N c sc t && ckSs T N a sc x && ckSs T N b sc y
    | _ => false
  | .while c b => fun sc s => match s with
    | .While t x [] _ => ckE T N c sc t && ckSs T N b sc x
    | _ => false
  | .for tg it b => fun sc s => match s with
    | .For tgx iter x [] _ => ckTg N (locB sc) tg tgx && notSet iter && ckI T N it sc iter && ckSs T N b sc x
    | _ => false
  | .fori is a b => fun sc s => match s with
    | .For (.Tuple es k tp) (.Call (.Attribute ox nm apos) [] [] cpos) x [] _ => ckTg N (locB sc) (.tup is) (.Tuple es k tp) && decide (nm = "items") && notCall0 ox && (apos.endLine == cpos.line) && ckE T N a sc ox && ckSs T N b sc x
    | _ => false
  | .pass => fun _ s => match s with
    | .Pass _ => true
    | _ => false
  | .brk => fun _ s => match s with
    | .Break _ => true
    | _ => false
  | .cont => fun _ s => match s with
    | .Continue _ => true
    | _ => false
  | .raise _ _ => fun _ _ => false
  | .never => fun _ _ => true
def ckSs (T : Tb) (N : List Str) : LSs → Scope → List Stmt → Bool
  | .nil => fun _ l => l.isEmpty
  | .cons s ss => fun sc l => match l with
    | x :: xs => ckS T N s sc x && ckSs T N ss sc xs
    | [] => false
end

/-! ### readings -/
def FlE (N : Na) (K : PySem.W.Frag) (H : Hp) (ρ : Rho) (fl : Fl) (l : LSt) (D : Ends) : Prop :=
  match fl with
  | .nx => ∀ σ, RS K H ρ l σ → D.nx σ H
  | .brk => ∀ σ, RS K H ρ l σ → D.bk σ H
  | .cont => ∀ σ, RS K H ρ l σ → D.ct σ H
  | .ret v => ∀ x, Rl K H ρ v x → D.rt x H
def PostF (N : Na) (K : PySem.W.Frag) (o : Out (Fl × LSt)) (H : Hp) (ρ : Rho) (D : Ends) : Prop :=
  match o with
  | .ok p L' => ∀ H' ρ', Sty H H' → Ex ρ ρ' → Rep N K H' L' ρ' → FlE N K H' ρ' p.1 p.2 D
  | _ => False
theorem PostF.mono {N : Na} {K : PySem.W.Frag} {o : Out (Fl × LSt)} {H H' : Hp} {ρ ρ' : Rho} {D : Ends} (s : Sty H H') (e : Ex ρ ρ') (h : PostF N K o H ρ D) : PostF N K o H' ρ' D := by
  cases o with
  | ok a L' => exact fun H2 ρ2 s2 e2 => h H2 ρ2 (s.trans s2) (e.trans e2)
  | err x L' => exact h
  | bad => exact h
theorem PostF.nx {N : Na} {K : PySem.W.Frag} {H : Hp} {ρ : Rho} {L : LH} {l : LSt} {σ : L2.St} {D : Ends} (rep : Rep N K H L ρ) (rs : RS K H ρ l σ) (h : PostF N K (.ok (.nx, l) L) H ρ D) : D.nx σ H := h H ρ (Sty.refl _) (Ex.refl _) rep σ rs
def LTS (N : Na) (K : PySem.W.Frag) (f : LSt → LH → Out (Fl × LSt)) : TS := fun D σ H => ∃ l L ρ, RS K H ρ l σ ∧ Rep N K H L ρ ∧ PostF N K (f l L) H ρ D
/-- sequencing into a statement -/
theorem LT.bindS {α β : Type} {N : Na} {K : PySem.W.Frag} {R : Hp → Rho → α → β → Prop} {f : LSt → LH → Out α} {k : α → LH → Out (Fl × LSt)} {l : LSt} {L : LH} {ρ : Rho} {σ : L2.St} {H : Hp} {D : Ends} {Q1 : β → Hp → Prop}
    (rs : RS K H ρ l σ) (rep : Rep N K H L ρ) (p : PostF N K ((f l L).bind k) H ρ D)
    (n : ∀ a b L1 H1 ρ1, Sty H H1 → Ex ρ ρ1 → RS K H1 ρ1 l σ → Rep N K H1 L1 ρ1 → R H1 ρ1 a b → PostF N K (k a L1) H1 ρ1 D → Q1 b H1) : LT N K R f σ H Q1 := by
  refine ⟨l, L, ρ, rs, rep, ?_⟩
  cases e : f l L with
  | ok a L1 =>
    rw [e] at p
    intro H1 ρ1 b s1 e1 rep1 r
    exact n a b L1 H1 ρ1 s1 e1 (rs.mono s1 e1) rep1 r (p.mono s1 e1)
  | err x L1 =>
    rw [e] at p
    exact p.elim
  | bad =>
    rw [e] at p
    exact p.elim
structure GoodS (T : Tb) (N : Na) (F : Fn) (lv : Nat) (X : Cx) : Prop where
  g : Good T N F lv X
  pass : PassesOwn (model X.prog X.w) X.A X.env X.xe
  fn : ∀ x, X.fn x = true
  kind : X.env.scope.kind = .function
section
variable {T : Tb} {N : Na} {F : Fn} {lv : Nat} {X : Cx}
theorem sS_nil : PSs X [] (LTS N X.K (evSs F .nil)) := PSs.of pss_nil fun D σ H ⟨l, L, ρ, rs, rep, p⟩ => by
  simp only [evSs] at p
  exact p.nx rep rs
theorem sS_cons {s : LS} {ss : LSs} {x : Stmt} {xs : List Stmt} (h : PS X x (LTS N X.K (evS F s))) (h2 : PSs X xs (LTS N X.K (evSs F ss))) : PSs X (x :: xs) (LTS N X.K (evSs F (.cons s ss))) := by
  refine PSs.of (pss_cons h h2) fun D σ H ⟨l, L, ρ, rs, rep, p⟩ => ?_
  simp only [evSs] at p
  refine ⟨l, L, ρ, rs, rep, ?_⟩
  cases e : evS F s l L with
  | err x L1 => rw [e] at p; exact p.elim
  | bad => rw [e] at p; exact p.elim
  | ok q L1 =>
    rw [e] at p
    obtain ⟨fl, l1⟩ := q
    intro H1 ρ1 s1 e1 rep1
    have p1 := p.mono s1 e1
    cases fl with
    | nx =>
      intro σ1 rs1
      exact ⟨l1, L1, ρ1, rs1, rep1, p1⟩
    | brk => exact p1 H1 ρ1 (Sty.refl _) (Ex.refl _) rep1
    | cont => exact p1 H1 ρ1 (Sty.refl _) (Ex.refl _) rep1
    | ret v => exact p1 H1 ρ1 (Sty.refl _) (Ex.refl _) rep1
theorem sw_false {e : Expr} {x : Str} {px : Pos} {l : Nat} {env : Env} (h : swF env.scope x px e = true) : swapsWith e (some (.Name x px)) l env = pure false := by
  unfold swF at h
  rw [Bool.or_eq_true] at h
  rcases h with h | h
  · exact swaps_no h
  · split at h
    · have hc := of_decide_eq_true h
      have hk : env.kindOf x = some .cell := hc
      unfold swapsWith
      simp only [hk]
      cases env.blockKind <;> rfl
    · cases h
theorem sw_other {e t : Expr} {l : Nat} {env : Env} (h : (match t with
    | .Name _ _ => false
    | _ => true) = true) : swapsWith e (some t) l env = pure false := by
  cases e <;> first | rfl | (cases t <;> first | rfl | (simp at h; done))
def isNm : Expr → Bool
  | .Name _ _ => true
  | _ => false
theorem sws_other {e t : Expr} {l : Nat} {env : Env} (h : isNm t = false) : swapsWithSole [t] e l env = pure false := by
  show swapsWith e (some t) l env = pure false
  exact sw_other (by cases t <;> first | rfl | (simp [isNm] at h; done))
theorem sS_set {i : Nat} {e : LE} {x : Str} {px pos : Pos} {v : Expr} (G : GoodS T N F lv X) (hN : X.N[i]? = some x) (hx : locB X.env.scope x = true) (hs : swF X.env.scope x px v = true) (h : PE X v (LTE N X.K (evE F e))) :
    PS X (.Assign [.Name x px] v pos) (LTS N X.K (evS F (.set i e))) := by
  refine PS.of (ps_set (hs := sw_false hs) G.g.nd hN (locB_ok hx) h (hf := .inl (G.fn x))) fun D σ H ⟨l, L, ρ, rs, rep, p⟩ => ?_
  simp only [evS] at p
  exact LT.bindS rs rep p fun a b L1 H1 ρ1 s1 e1 rs1 rep1 r1 p1 => p1.nx rep1 (rs1.set r1)
theorem sS_setf {o : LE} {f : Nat} {e : LE} {ox v : Expr} {a : Str} {pa pos : Pos} (G : GoodS T N F lv X) (ht : T.nms[f]? = some a) (ho : PE X ox (LTE N X.K (evE F o))) (h : PE X v (LTE N X.K (evE F e))) :
    PS X (.Assign [.Attribute ox a pa] v pos) (LTS N X.K (evS F (.setf o f e))) := by
  refine PS.of (ps_fld ho h (sw_other rfl)) fun D σ H ⟨l, L, ρ, rs, rep, p⟩ => ?_
  simp only [evS] at p
  refine LT.bindS rs rep p fun y b L1 H1 ρ1 s1 e1 rs1 rep1 r1 p1 => LT.bindS rs1 rep1 p1 fun x c L2 H2 ρ2 s2 e2 rs2 rep2 r2 p2 => ?_
  split at p2
  · obtain ⟨q, h1, rfl⟩ := Rl.ref.mp r2
    split at p2
    · rename_i cc fs el
      obtain ⟨q', dx, vs, q1, q2, q3, q4, q5⟩ := rep2.ins el
      rw [h1] at q1; cases q1
      split at p2
      · rename_i hz
        have hnm := G.g.fx.nms f a ht
        subst hnm
        have na := G.g.fx.fld cc f hz.2
        refine ⟨q, _, dx, vs, rfl, q2, q4, na, by rw [← q3.length]; exact hz.1, ?_⟩
        have S := rep2.styPut (u := .ins (N.ca cc) dx (putF (N.nm f) b vs)) h1 el
        refine p2 _ ρ2 S (Ex.refl _) (rep2.put h1 el (fun z => z) ⟨dx, _, upd_same, ?_, q4, ?_⟩) σ (rs2.mono S (Ex.refl _))
        · exact RFs.put G.g.fx.inj (Rl.mono S (Ex.refl _) _ _ (Rl.mono s2 e2 _ _ r1)) (q3.mono S (Ex.refl _))
        · intro pp hp
          have : ∀ {fs : List (Nat × LV)}, (∀ p ∈ fs, NoAttr X.K (N.ca cc) (N.nm p.1)) → ∀ p ∈ fput f y fs, NoAttr X.K (N.ca cc) (N.nm p.1) := by
            intro fs
            induction fs with
            | nil => intro _ p hp; simp only [fput, List.mem_singleton] at hp; subst hp; exact na
            | cons z zs ih =>
              intro hh p hp
              unfold fput at hp
              split at hp
              · rename_i ez
                rcases List.mem_cons.mp hp with rfl | hp
                · exact hh z List.mem_cons_self
                · exact hh p (List.mem_cons_of_mem _ hp)
              · rcases List.mem_cons.mp hp with rfl | hp
                · exact hh _ List.mem_cons_self
                · exact ih (fun p hp => hh p (List.mem_cons_of_mem _ hp)) p hp
          exact this q5 pp hp
      · exact p2.elim
    · exact p2.elim
  · exact p2.elim
theorem RKs.any {K : PySem.W.Frag} {H : Hp} {ρ : Rho} {k : Key} : ∀ {kvs : List (Key × LV)} {vs : List (Key × V)}, RKs K H ρ kvs vs → (vs.any fun kv => decide (kv.1 = k)) = (kvs.any fun kv => decide (kv.1 = k))
  | [], _, h => by rw [show _ = [] from h]; rfl
  | x :: xs, _, ⟨v, r, h1, h2, h3⟩ => by rw [h1]; simp only [List.any_cons, RKs.any h3]
theorem RKs.map {K : PySem.W.Frag} {H : Hp} {ρ : Rho} {k : Key} {x : LV} {v : V} (hx : Rl K H ρ x v) : ∀ {kvs : List (Key × LV)} {vs : List (Key × V)}, RKs K H ρ kvs vs →
    RKs K H ρ (kvs.map fun kv => if kv.1 = k then (kv.1, x) else kv) (vs.map fun kv => if kv.1 = k then (kv.1, v) else kv)
  | [], _, h => by rw [show _ = [] from h]; rfl
  | y :: ys, _, ⟨w, r, h1, h2, h3⟩ => by
    rw [h1]
    simp only [List.map_cons]
    by_cases e : y.1 = k
    · rw [if_pos e, if_pos e]; exact ⟨v, _, rfl, hx, RKs.map hx h3⟩
    · rw [if_neg e, if_neg e]; exact ⟨w, _, rfl, h2, RKs.map hx h3⟩
theorem RKs.append {K : PySem.W.Frag} {H : Hp} {ρ : Rho} : ∀ {kvs kvs2 : List (Key × LV)} {vs vs2 : List (Key × V)}, RKs K H ρ kvs vs → RKs K H ρ kvs2 vs2 → RKs K H ρ (kvs ++ kvs2) (vs ++ vs2)
  | [], _, _, _, h, h' => by rw [show _ = [] from h]; exact h'
  | y :: ys, _, _, _, ⟨w, r, h1, h2, h3⟩, h' => by rw [h1]; exact ⟨w, _, rfl, h2, RKs.append h3 h'⟩
theorem RKs.dput {K : PySem.W.Frag} {H : Hp} {ρ : Rho} {k : Key} {x : LV} {v : V} {kvs : List (Key × LV)} {vs : List (Key × V)} (hx : Rl K H ρ x v) (h : RKs K H ρ kvs vs) : RKs K H ρ (dput kvs k x) (putK vs k v) := by
  unfold LG.dput putK
  rw [h.any]
  split
  · exact RKs.map hx h
  · exact RKs.append h ⟨v, [], rfl, hx, rfl⟩
theorem keyOf_rl {K : PySem.W.Frag} {H : Hp} {ρ : Rho} {y : LV} {k : Key} {v : V} (h : keyOf y = some k) (r : Rl K H ρ y v) : v = kV k := by
  unfold keyOf at h
  split at h
  · cases h; exact Rl.int.mp r
  · cases h; exact Rl.str.mp r
  · cases h
theorem RKs.length {K : PySem.W.Frag} {H : Hp} {ρ : Rho} : ∀ {kvs : List (Key × LV)} {vs : List (Key × V)}, RKs K H ρ kvs vs → kvs.length = vs.length
  | [], _, h => by rw [show _ = [] from h]; rfl
  | x :: xs, _, ⟨v, r, h1, h2, h3⟩ => by rw [h1]; simp [RKs.length h3]
def rSet : TSet := fun o i v H Q => rSetL o i v H Q ∨ rSetD o i v H Q
theorem set_any (hu : X.A.units + 1 < cLine) : PSet X rSet := by
  intro pins s σ H o i v ov iv u Q I ro ri rv h
  rcases h with h | h
  · exact set_list pins s σ H o i v ov iv u Q I ro ri rv h
  · exact set_dict hu pins s σ H o i v ov iv u Q I ro ri rv h
theorem sS_seti {o i e : LE} {ox ix v : Expr} {pa pos : Pos} (G : GoodS T N F lv X) (hi : notSlice ix = true) (ho : PE X ox (LTE N X.K (evE F o))) (hix : PE X ix (LTE N X.K (evE F i))) (h : PE X v (LTE N X.K (evE F e))) :
    PS X (.Assign [.Subscript ox ix pa] v pos) (LTS N X.K (evS F (.seti o i e))) := by
  have hu := G.g.hu
  refine PS.of (ps_asg h (pg_sub ho hix (set_any (by omega)) (by intro _; cases ix <;> first | rfl | (simp [notSlice] at hi; done))) (hs := sws_other rfl) (hw := rfl)) fun D σ H ⟨l, L, ρ, rs, rep, p⟩ => ?_
  simp only [evS] at p
  refine LT.bindS rs rep p fun y b L1 H1 ρ1 s1 e1 rs1 rep1 r1 p1 => LT.bindS rs1 rep1 p1 fun x c L2 H2 ρ2 s2 e2 rs2 rep2 r2 p2 => LT.bindS rs2 rep2 p2 fun z d L3 H3 ρ3 s3 e3 rs3 rep3 r3 p3 => ?_
  have r1' := Rl.mono s3 e3 _ _ (Rl.mono s2 e2 _ _ r1)
  have r2' := Rl.mono s3 e3 _ _ r2
  split at p3
  · obtain ⟨q, h1, rfl⟩ := Rl.ref.mp r2'
    split at p3
    · rename_i xs el
      obtain ⟨q', vs, q1, q2, q3⟩ := rep3.lst el
      rw [h1] at q1; cases q1
      split at p3
      · cases Rl.int.mp r3
        split at p3
        · rename_i j ej
          rw [q3.length] at ej
          refine .inl ⟨q, vs, _, j, rfl, rfl, q2, ej, ?_⟩
          have S := rep3.styPut (u := .lst (vs.set j b)) h1 el
          exact p3 _ ρ3 S (Ex.refl _) (rep3.put h1 el (fun z => z) ⟨_, upd_same, Rls.mono S (Ex.refl _) _ _ (Rls.set j r1' q3)⟩) σ (rs3.mono S (Ex.refl _))
        · exact p3.elim
      · exact p3.elim
    · rename_i kvs el
      obtain ⟨q', vs, q1, q2, q3⟩ := rep3.dct el
      rw [h1] at q1; cases q1
      split at p3
      · rename_i k ek
        have := keyOf_rl ek r3
        subst this
        split at p3
        · rename_i hz
          refine .inr ⟨q, _, rfl, DPut.k q2 (by rw [← q3.length]; exact hz), ?_⟩
          have S := rep3.styPut (u := .dK (putK vs k b)) h1 el
          exact p3 _ ρ3 S (Ex.refl _) (rep3.put h1 el (fun z => z) ⟨_, upd_same, (RKs.dput r1' q3).mono S (Ex.refl _)⟩) σ (rs3.mono S (Ex.refl _))
        · exact p3.elim
      · exact p3.elim
    · exact p3.elim
  · exact p3.elim
theorem locS (G : GoodS T N F lv X) (x : Str) (h : locB X.env.scope x = true) : L2.Loc X.env.scope x ∧ (X.fn x = true ∨ X.env.scope.names.lookup x = some .local) := ⟨locB_ok h, .inl (G.fn x)⟩
theorem swst_no {tg e : Expr} {env : Env} (h : notTup e = true) : swappedStores [tg] e env = pure none := by
  cases e <;> first | (cases tg <;> rfl) | (simp [notTup] at h; done)
theorem sS_unp {is : List Nat} {e : LE} {tg v : Expr} {pos : Pos} (G : GoodS T N F lv X) (hv : notTup v = true) (htt : (match tg with
      | .Tuple _ _ _ => true
      | _ => false) = true) (ht : ckTg X.N (locB X.env.scope) (.tup is) tg = true) (h : PE X v (LTE N X.K (evE F e))) :
    PS X (.Assign [tg] v pos) (LTS N X.K (evS F (.unp is e))) := by
  have hg : PG X tg (gOf X.K (.tup is)) := sG G.g.nd G.g.calm (locS G) ht
  cases tg with
  | Tuple es k tp =>
    refine PS.of (ps_asg h hg (hs := sws_other rfl) (hw := swst_no hv)) fun D σ H ⟨l, L, ρ, rs, rep, p⟩ => ?_
    simp only [evS] at p
    refine LT.bindS rs rep p fun y b L1 H1 ρ1 s1 e1 rs1 rep1 r1 p1 => ?_
    cases et : tgt (.tup is) y l L1 with
    | none => rw [et] at p1; exact p1.elim
    | some l2 =>
      rw [et] at p1
      exact gOf_ok et r1 rs1 fun σ' rs' _ => p1.nx rep1 rs'
  | _ => cases htt
theorem sS_expr {e : LE} {v : Expr} {pos : Pos} (hs : notComp v = true) (h : PE X v (LTE N X.K (evE F e))) : PS X (.Expr v pos) (LTS N X.K (evS F (.expr e))) := by
  refine PS.of (ps_expr h (hs := swaps_no hs)) fun D σ H ⟨l, L, ρ, rs, rep, p⟩ => ?_
  simp only [evS] at p
  exact LT.bindS rs rep p fun a b L1 H1 ρ1 s1 e1 rs1 rep1 r1 p1 => p1.nx rep1 rs1
theorem sS_ret {e : LE} {v : Expr} {pos : Pos} (h : PE X v (LTE N X.K (evE F e))) : PS X (.Return (some v) pos) (LTS N X.K (evS F (.ret e))) := by
  refine PS.of (ps_ret h) fun D σ H ⟨l, L, ρ, rs, rep, p⟩ => ?_
  simp only [evS] at p
  exact LT.bindS rs rep p fun a b L1 H1 ρ1 s1 e1 rs1 rep1 r1 p1 => p1 H1 ρ1 (Sty.refl _) (Ex.refl _) rep1 b r1
theorem sS_retN {pos : Pos} : PS X (.Return none pos) (LTS N X.K (evS F .retN)) := by
  refine PS.of ps_retN fun D σ H ⟨l, L, ρ, rs, rep, p⟩ => ?_
  simp only [evS] at p
  exact p H ρ (Sty.refl _) (Ex.refl _) rep .non (Rl.non.mpr rfl)
theorem sS_if {c : LE} {a b : LSs} {t : Expr} {x y : List Stmt} {pos : Pos} (h : PT X t (LTB N X.K (evT F c))) (ha : PSs X x (LTS N X.K (evSs F a))) (hb : PSs X y (LTS N X.K (evSs F b))) :
    PS X (.If t x y pos) (LTS N X.K (evS F (.ifs c a b))) := by
  refine PS.of (ps_if h ha hb) fun D σ H ⟨l, L, ρ, rs, rep, p⟩ => ?_
  simp only [evS] at p
  refine LT.bindS rs rep p fun k k' L1 H1 ρ1 s1 e1 rs1 rep1 r1 p1 => ?_
  subst r1
  cases k with
  | true => rw [if_pos rfl] at p1 ⊢; exact ⟨l, L1, ρ1, rs1, rep1, p1⟩
  | false => rw [if_neg Bool.false_ne_true] at p1 ⊢; exact ⟨l, L1, ρ1, rs1, rep1, p1⟩
theorem sS_while {c : LE} {b : LSs} {t : Expr} {x : List Stmt} {pos : Pos} (G : GoodS T N F lv X) (h : PT X t (LTB N X.K (evT F c))) (hb : PSs X x (LTS N X.K (evSs F b))) :
    PS X (.While t x [] pos) (LTS N X.K (evS F (.while c b))) := by
  refine PS.of (ps_while G.pass h hb) fun D σ H ⟨l, L, ρ, rs, rep, p⟩ => ?_
  simp only [evS] at p
  refine ⟨fun m σ H => ∃ l L ρ, RS X.K H ρ l σ ∧ Rep N X.K H L ρ ∧ PostF N X.K (whileL (evT F c) (evSs F b) m l L) H ρ D, ⟨_, l, L, ρ, rs, rep, p⟩, ?_⟩
  rintro m σ1 H1 ⟨l1, L1, ρ1, rs1, rep1, p1⟩
  cases m with
  | zero => exact p1.elim
  | succ n =>
    unfold whileL at p1
    refine LT.bindS rs1 rep1 p1 fun k k' L2 H2 ρ2 s2 e2 rs2 rep2 r2 p2 => ?_
    subst r2
    cases k with
    | false =>
      rw [if_neg Bool.false_ne_true] at p2 ⊢
      exact p2.nx rep2 rs2
    | true =>
      rw [if_pos rfl] at p2 ⊢
      refine ⟨fun σ3 H3 => ∃ l L ρ, RS X.K H3 ρ l σ3 ∧ Rep N X.K H3 L ρ ∧ PostF N X.K (whileL (evT F c) (evSs F b) n l L) H3 ρ D, fun σ3 H3 q => ⟨n, Nat.lt_succ_self n, q⟩, l1, L2, ρ2, rs2, rep2, ?_⟩
      cases e : evSs F b l1 L2 with
      | err x L1 => rw [e] at p2; exact p2.elim
      | bad => rw [e] at p2; exact p2.elim
      | ok q L3 =>
        rw [e] at p2
        obtain ⟨fl, l3⟩ := q
        intro H3 ρ3 s3 e3 rep3
        have p3 := p2.mono s3 e3
        cases fl with
        | nx => exact fun σ3 rs3 => ⟨l3, L3, ρ3, rs3, rep3, p3⟩
        | cont => exact fun σ3 rs3 => ⟨l3, L3, ρ3, rs3, rep3, p3⟩
        | brk => exact fun σ3 rs3 => p3.nx rep3 rs3
        | ret v => exact p3 H3 ρ3 (Sty.refl _) (Ex.refl _) rep3
/-- the turns of a for -/
theorem for_ok {tg : LTg} {b : LSs} {S : Src} {J : It} {H1 : Hp} {ρ1 : Rho} {L1 : LH} {l1 : LSt} {σ1 : L2.St} {D : Ends} (drv : Drv N X.K J S H1 ρ1) (rs : RS X.K H1 ρ1 l1 σ1) (rep : Rep N X.K H1 L1 ρ1)
    (p : PostF N X.K (forL S (fun x σ1 L2 => match tgt tg x σ1 L2 with
      | none => .bad
      | some σ2 => evSs F b σ2 L2) S.items l1 L1) H1 ρ1 D) :
    ∃ W : Nat → Nat → L2.St → Hp → Prop, (∃ m, W 0 m σ1 H1) ∧ ∀ i m σ H, W i m σ H →
      (J.stop i H ∧ D.nx σ H) ∨ (J.go i H ∧ ∃ Nx : L2.St → Hp → Prop, (∀ σ' H', Nx σ' H' → ∃ m', m' < m ∧ W (i + 1) m' σ' H') ∧ ∀ x H', J.yld i H x H' → gOf X.K tg x σ H' fun σ2 H2 => LTS N X.K (evSs F b) { D with nx := Nx, ct := Nx, bk := D.nx } σ2 H2) := by
  generalize hbody : (fun x σ1 L2 => match tgt tg x σ1 L2 with
      | none => (.bad : Out (Fl × LSt))
      | some σ2 => evSs F b σ2 L2) = body at p
  refine ⟨fun i m σ H => ∃ l L ρ, Sty H1 H ∧ Ex ρ1 ρ ∧ RS X.K H ρ l σ ∧ Rep N X.K H L ρ ∧ i ≤ S.items.length ∧ m = S.items.length - i ∧ PostF N X.K (forL S body (S.items.drop i) l L) H ρ D,
    ⟨_, l1, L1, ρ1, Sty.refl _, Ex.refl _, rs, rep, Nat.zero_le _, rfl, by rw [List.drop_zero]; exact p⟩, ?_⟩
  rintro i m σ2 H2 ⟨l2, L2, ρ2, s2, e2, rs2, rep2, hi2, hm, p2⟩
  by_cases hlt : i < S.items.length
  · right
    have ed : S.items.drop i = S.items[i] :: S.items.drop (i + 1) := List.drop_eq_getElem_cons hlt
    rw [ed] at p2
    unfold forL at p2
    split at p2
    · rename_i hk
      obtain ⟨dgo, _⟩ := drv i H2 L2 ρ2 s2 e2 rep2 hk
      obtain ⟨go, yl⟩ := dgo S.items[i] (List.getElem?_eq_getElem hlt)
      refine ⟨go, fun σ' H' => ∃ l L ρ, Sty H1 H' ∧ Ex ρ1 ρ ∧ RS X.K H' ρ l σ' ∧ Rep N X.K H' L ρ ∧ PostF N X.K (forL S body (S.items.drop (i + 1)) l L) H' ρ D,
        fun σ' H' ⟨l', L', ρ', q1, q2, q3, q4, q5⟩ => ⟨S.items.length - (i + 1), by omega, l', L', ρ', q1, q2, q3, q4, hlt, rfl, q5⟩, fun v H3 y => ?_⟩
      obtain ⟨ρ3, s3, e3, rep3, rv⟩ := yl v H3 y
      have hb1 : body S.items[i] l2 L2 = match tgt tg S.items[i] l2 L2 with
        | none => (.bad : Out (Fl × LSt))
        | some σ2 => evSs F b σ2 L2 := by rw [← hbody]
      rw [hb1] at p2
      cases et : tgt tg S.items[i] l2 L2 with
      | none => rw [et] at p2; exact p2.elim
      | some l3 =>
        rw [et] at p2
        have p3 := p2.mono s3 e3
        refine gOf_ok et rv (rs2.mono s3 e3) fun σ4 rs4 _ => ⟨l3, L2, ρ3, rs4, rep3, ?_⟩
        dsimp only at p3
        cases e : evSs F b l3 L2 with
        | err x L1 => rw [e] at p3; exact p3.elim
        | bad => rw [e] at p3; exact p3.elim
        | ok q L5 =>
          rw [e] at p3
          obtain ⟨fl, l5⟩ := q
          intro H5 ρ5 s5 e5 rep5
          have p5 := p3.mono s5 e5
          cases fl with
          | nx => exact fun σ5 rs5 => ⟨l5, L5, ρ5, (s2.trans s3).trans s5, (e2.trans e3).trans e5, rs5, rep5, p5⟩
          | cont => exact fun σ5 rs5 => ⟨l5, L5, ρ5, (s2.trans s3).trans s5, (e2.trans e3).trans e5, rs5, rep5, p5⟩
          | brk => exact fun σ5 rs5 => p5.nx rep5 rs5
          | ret v => exact p5 H5 ρ5 (Sty.refl _) (Ex.refl _) rep5
    · exact p2.elim
  · left
    have ei : i = S.items.length := by omega
    subst ei
    rw [List.drop_length] at p2
    unfold forL at p2
    split at p2
    · rename_i hk
      obtain ⟨_, dst⟩ := drv S.items.length H2 L2 ρ2 s2 e2 rep2 hk
      exact ⟨dst (Nat.le_refl _), p2.nx rep2 rs2⟩
    · exact p2.elim
theorem sS_for {tg : LTg} {it : LI} {b : LSs} {tgx iter : Expr} {x : List Stmt} {pos : Pos} (G : GoodS T N F lv X) (ht : ckTg X.N (locB X.env.scope) tg tgx = true) (hset : notSet iter = true) (hi : PI X tgx iter (LTI N X.K (evI F it))) (hb : PSs X x (LTS N X.K (evSs F b))) :
    PS X (.For tgx iter x [] pos) (LTS N X.K (evS F (.for tg it b))) := by
  refine PS.of (ps_for G.pass G.g.calm hi (sG G.g.nd G.g.calm (locS G) ht) hb (set_no hset)) fun D σ H ⟨l, L, ρ, rs, rep, p⟩ => ?_
  simp only [evS] at p
  refine ⟨l, L, ρ, rs, rep, ?_⟩
  cases e1 : evI F it l L with
  | err x L1 => rw [e1] at p; exact p.elim
  | bad => rw [e1] at p; exact p.elim
  | ok S L1 =>
    rw [e1] at p
    intro H1 ρ1 s1 ex1 rep1 J drv
    exact for_ok drv (rs.mono s1 ex1) rep1 (p.mono s1 ex1)
theorem Drv.items {d : Addr} {od : Obj} {kvs : List (Key × LV)} {vs : List (Key × V)} {H1 : Hp} {ρ1 : Rho} (hd : H1 d = some (.frz od (.dK vs))) (r : RKs X.K H1 ρ1 kvs vs) : Drv N X.K (Iti d od vs) (.vals (dctItems kvs)) H1 ρ1 := fun i H L ρ st ex rep _ => by
  have hd' := st d _ hd trivial
  have r' := r.mono st ex
  have hl : (dctItems kvs).length = vs.length := by simp [dctItems, r.length]
  refine ⟨fun x hx => ?_, fun h => ⟨hd', by rw [← hl]; exact h⟩⟩
  have hi : i < vs.length := by
    have : i < (dctItems kvs).length := (List.getElem?_eq_some_iff.mp hx).1
    omega
  refine ⟨⟨hd', hi⟩, fun v H' y => ?_⟩
  obtain ⟨Tp, k, w, hk, rfl, hT, rfl⟩ := y
  have get : ∀ {kvs : List (Key × LV)} {vs : List (Key × V)} {i : Nat} {k : Key} {w : V}, RKs X.K H ρ kvs vs → vs[i]? = some (k, w) → ∃ u, kvs[i]? = some (k, u) ∧ Rl X.K H ρ u w := by
    intro kvs
    induction kvs with
    | nil => intro vs i k w h e; rw [show vs = [] from h] at e; simp at e
    | cons p ps ih =>
      rintro vs i k w ⟨v, r, rfl, h2, h3⟩ e
      cases i with
      | zero => simp at e; obtain ⟨e1, e2⟩ := e; subst e1 e2; exact ⟨p.2, rfl, h2⟩
      | succ i => exact ih h3 (by simpa using e)
  obtain ⟨u, hu, ru⟩ := get r' hk
  have : (dctItems kvs)[i]? = some (.tup [keyL k, u]) := by simp [dctItems, hu]
  rw [show (Src.vals (dctItems kvs)).items = dctItems kvs from rfl, this] at hx
  cases hx
  refine ⟨ρ, Sty.new hT, Ex.refl _, rep.laid hT, Rl.tup.mpr ⟨Tp, [kV k, w], rfl, .inl (.inl upd_same), Rls.mk ?_ (Rls.mk (Rl.mono (Sty.new hT) (Ex.refl _) _ _ ru) Rls.nil')⟩⟩
  cases k with
  | inl i => exact Rl.int.mpr rfl
  | inr x => exact Rl.str.mpr rfl
theorem sS_fori {is : List Nat} {a : LE} {b : LSs} {es : List Expr} {k : Nat} {tp apos cpos pos : Pos} {ox : Expr} {x : List Stmt} (G : GoodS T N F lv X) (ht : ckTg X.N (locB X.env.scope) (.tup is) (.Tuple es k tp) = true) (h0 : notCall0 ox = true) (hp : (apos.endLine == cpos.line) = true)
    (ha : PE X ox (LTE N X.K (evE F a))) (hb : PSs X x (LTS N X.K (evSs F b))) :
    PS X (.For (.Tuple es k tp) (.Call (.Attribute ox "items" apos) [] [] cpos) x [] pos) (LTS N X.K (evS F (.fori is a b))) := by
  refine PS.of (ps_lock (ps_for G.pass G.g.calm (pi_items ha (hbase := attr_no h0) (hline := hp)) (sG G.g.nd G.g.calm (locS G) ht) hb (set_no rfl))) fun D σ H ⟨l, L, ρ, rs, rep, p⟩ => ?_
  simp only [evS] at p
  split at p
  · rename_i i L1 e1
    split at p
    · rename_i kvs el
      obtain ⟨d, vs, q1, q2, q3⟩ := rep.dct el
      split at p
      · rename_i e2
        refine ⟨d, _, q2, trivial, fun od => ?_⟩
        have S : Sty H (upd H d (.frz od (.dK vs))) := Sty.mut q2 (fun z => z)
        have rep2 : Rep N X.K (upd H d (.frz od (.dK vs))) (L.hide i) ρ := rep.hide q1 q2
        refine ⟨l, L.hide i, ρ, rs.mono S (Ex.refl _), rep2, ?_⟩
        rw [e2]
        intro H1 ρ1 v s1 ex1 rep1 r1
        obtain ⟨d', h1, rfl⟩ := Rl.ref.mp r1
        have hd' : ρ1 i = some d := ex1 _ _ q1
        rw [hd'] at h1; cases h1
        have fz : H1 d = some (.frz od (.dK vs)) := s1 d _ upd_same trivial
        have r1' : RKs X.K H1 ρ1 kvs vs := (q3.mono S (Ex.refl _)).mono s1 ex1
        refine ⟨d, od, vs, rfl, fz, ?_⟩
        refine for_ok (Drv.items fz r1') ((rs.mono S (Ex.refl _)).mono s1 ex1) rep1 ?_
        generalize hf : forL (.vals (dctItems kvs)) (fun x σ1 L2 => match tgt (.tup is) x σ1 L2 with
            | none => (.bad : Out (Fl × LSt))
            | some σ2 => evSs F b σ2 L2) (dctItems kvs) l (L.hide i) = o at p
        have : forL (.vals (dctItems kvs)) (fun x σ1 L2 => match tgt (.tup is) x σ1 L2 with
            | none => (.bad : Out (Fl × LSt))
            | some σ2 => evSs F b σ2 L2) (Src.vals (dctItems kvs)).items l (L.hide i) = o := hf
        rw [this]
        cases o with
        | err x L1 => exact p.elim
        | bad => exact p.elim
        | ok q L3 =>
          obtain ⟨fl, l3⟩ := q
          intro H3 ρ3 s3 e3 rep3
          have fz3 : H3 d = some (.frz od (.dK vs)) := s3 d _ fz trivial
          have r3 := r1'.mono s3 e3
          have hd3 : ρ3 i = some d := e3 _ _ hd'
          have rep4 := rep3.back hd3 fz3 r3
          have S0 : Sty0 H3 (upd H3 d (.dK vs)) := fun b u e im => by
            have : b ≠ d := by
              rintro rfl
              rw [fz3] at e
              cases e
              exact im
            rw [upd_ne this]
            exact e
          have St : Sty H (upd H3 d (.dK vs)) := fun b u e im => by
            have ne : b ≠ d := by
              rintro rfl
              rw [q2] at e
              cases e
              exact im
            rw [upd_ne ne]
            exact s3 b u (s1 b u (S b u e im) im) im
          have fin := p _ ρ3 St (ex1.trans e3) rep4
          have rs0 : ∀ σ', RS X.K H3 ρ3 l3 σ' → RS X.K (upd H3 d (.dK vs)) ρ3 l3 σ' := fun σ' r => ⟨r.1, fun j v q => by
            obtain ⟨v', a1, a2⟩ := r.2 j v q
            exact ⟨v', a1, Rl.mono0 S0 (Ex.refl _) _ _ a2⟩⟩
          cases fl with
          | nx => exact fun σ' r => ⟨fz3, fin σ' (rs0 σ' r)⟩
          | brk => exact fun σ' r => ⟨fz3, fin σ' (rs0 σ' r)⟩
          | cont => exact fun σ' r => ⟨fz3, fin σ' (rs0 σ' r)⟩
          | ret v => exact fun x r => ⟨fz3, fin x (Rl.mono0 S0 (Ex.refl _) _ _ r)⟩
      · exact p.elim
    · exact p.elim
  · exact p.elim
end
end LG
end

section
set_option Elab.async false
set_option linter.all false
set_option maxRecDepth 100000
set_option maxHeartbeats 4000000
/-! LG10: a checked block computes what the small language says. -/
namespace LG
open PySem PySem.Spec PyProof.Rows L2

section
variable {T : Tb} {N : Na} {F : Fn} {lv : Nat} {X : Cx}
/-- name = [..] -/
theorem sS_setc {i : Nat} {x : Str} {px pos cpos : Pos} {own : List Nat} {tg : LTg} {it : LI} {t : Option Unit} {c e' : LE} {elt tgx iter : Expr} {ifs : List Expr} {scope : Scope} (G : GoodS T N F lv X) (hN : X.N[i]? = some x)
    (hb : blkC X.N X.env.scope scope (own.map fun i => (X.N.getD i "", i)) = true)
    (hto : (match tg with
        | .name i => own.contains i
        | .tup is => is.all own.contains) = true) (htg : ckTg X.N (lclB (relS scope X.env.scope)) tg tgx = true) (hset : notSet iter = true) (hi : PI X tgx iter (LTI N X.K (evI F it)))
    (hc : match t, ifs with
        | none, [] => True
        | some _, [q] => ∀ (s : Shared) (H : Hp) (C : Addr) (cl : List (Str × Addr)) (fp : List Addr), PT (X.blk s H scope (compEnvC scope cl C X.env) fp) q (LTB N X.K (evT F c))
        | _, _ => False)
    (he : ∀ (s : Shared) (H : Hp) (C : Addr) (cl : List (Str × Addr)) (fp : List Addr), PE (X.blk s H scope (compEnvC scope cl C X.env) fp) elt (LTE N X.K (evE F e')))
    (hs : swT X.env.scope x px (.ListComp elt [⟨tgx, iter, ifs, 0⟩] scope cpos) = true) :
    PS X (.Assign [.Name x px] (.ListComp elt [⟨tgx, iter, ifs, 0⟩] scope cpos) pos) (LTS N X.K (evS F (.set i (.comp own tg it t c e')))) := by
  obtain ⟨tt, ht, imp⟩ := comp_core G.g hb hto htg hset hi hc he
  simp only [swT, Bool.and_eq_true, decide_eq_true_eq, Bool.not_eq_true'] at hs
  obtain ⟨⟨h1, h2⟩, h3⟩ := hs
  refine PS.of (ps_setLc (tg := tgx) (g := gOf X.K tg) (tt := tt) G.g.calm G.g.nd hN h1 (sw_true G.kind h1 h2 h3) hi (blkOk_by hb) (fun s H C cl fp => sG (X := X.blk s H scope (compEnvC scope cl C X.env) fp) G.g.nd G.g.calm (fun x hx => lclB_ok x hx) htg) ht he (set_no hset)) fun D σ H ⟨l, L, ρ, rs, rep, p⟩ => imp σ H _ ?_
  rw [evS] at p
  exact LT.bindS rs rep p fun a b L1 H1 ρ1 s1 e1 rs1 rep1 r1 p1 => p1.nx rep1 (rs1.set r1)
theorem sS_setc2 {i : Nat} {x : Str} {px pos cpos : Pos} {own own1 : List Nat} {tg tg1 : LTg} {it it1 : LI} {e' : LE} {tgx tgx1 iter iter1 elt : Expr} {scope : Scope} (G : GoodS T N F lv X) (hN : X.N[i]? = some x)
    (hb : blkC X.N X.env.scope scope (own.map fun i => (X.N.getD i "", i)) = true) (hin : inOwn own tg) (hin1 : inOwn own1 tg1) (hv : ∀ i ∈ own1, i ∈ own)
    (htg : ckTg X.N (lclB (relS scope X.env.scope)) tg tgx = true) (htg1 : ckTg X.N (lclB (relS scope X.env.scope)) tg1 tgx1 = true) (hset : notSet iter = true) (hset1 : notSet iter1 = true) (hi : PI X tgx iter (LTI N X.K (evI F it)))
    (hi1 : ∀ (s : Shared) (H : Hp) (C : Addr) (cl : List (Str × Addr)) (fp : List Addr), PI (X.blk s H scope (compEnvC scope cl C X.env) fp) tgx1 iter1 (LTI N X.K (evI F it1)))
    (he : ∀ (s : Shared) (H : Hp) (C : Addr) (cl : List (Str × Addr)) (fp : List Addr), PE (X.blk s H scope (compEnvC scope cl C X.env) fp) elt (LTE N X.K (evE F e')))
    (hs : swT X.env.scope x px (.ListComp elt [⟨tgx, iter, [], 0⟩, ⟨tgx1, iter1, [], 0⟩] scope cpos) = true) :
    PS X (.Assign [.Name x px] (.ListComp elt [⟨tgx, iter, [], 0⟩, ⟨tgx1, iter1, [], 0⟩] scope cpos) pos) (LTS N X.K (evS F (.set i (.comp2 own own1 tg it tg1 it1 e')))) := by
  simp only [swT, Bool.and_eq_true, decide_eq_true_eq, Bool.not_eq_true'] at hs
  obtain ⟨⟨h1, h2⟩, h3⟩ := hs
  refine PS.of (ps_setLc2 (tg := tgx) (tg1 := tgx1) (g := gOf X.K tg) (g1 := gOf X.K tg1) (vs1 := own1) G.g.calm G.g.nd hN h1 (sw_true G.kind h1 h2 h3) hi (blkOk_by hb) (by rw [own_eq]; exact hv) (fun s H C cl fp => sG (X := X.blk s H scope (compEnvC scope cl C X.env) fp) G.g.nd G.g.calm (fun x hx => lclB_ok x hx) htg) (fun _ _ _ _ _ => pts_nil) hi1
    (fun s H C cl fp => sG (X := X.blk s H scope (compEnvC scope cl C X.env) fp) G.g.nd G.g.calm (fun x hx => lclB_ok x hx) htg1) (fun _ _ _ _ _ => pts_nil) he (set_no hset) (fun env => set_no hset1)) fun D σ H ⟨l, L, ρ, rs, rep, p⟩ => ?_
  have imp := comp2_core (X := X) (F := F) (e' := e') (it := it) (it1 := it1) (own1 := own1) (tg1 := tg1) (tgx := tgx) (tgx1 := tgx1) (iter := iter) (iter1 := iter1) (elt := elt) (scope := scope) G.g hin hin1
  show tLc2 _ _ _ _ _ _ _ _ _ σ H _
  rw [own_eq]
  refine imp σ H _ ?_
  rw [evS] at p
  exact LT.bindS rs rep p fun a b L1 H1 ρ1 s1 e1 rs1 rep1 r1 p1 => p1.nx rep1 (rs1.set r1)
/-- a, b = x, y -/
theorem sS_par {i j : Nat} {x y : Str} {px py tp vp pos : Pos} {k k2 : Nat} {u v : Expr} {a b : LE} (G : GoodS T N F lv X) (hi : X.N[i]? = some x) (hj : X.N[j]? = some y) (hij : i ≠ j) (hxy : x ≠ y) (lx : lclB X.env.scope x = true) (ly : lclB X.env.scope y = true) (hl : (px.line == py.line) = true)
    (su : notStar u = true) (sv : notStar v = true) (f1 : ([u, v].all (foldedForSure 8)) = false) (f2 : ([u, v].all (constantsAlone 8)) = false) (ha : PE X u (LTE N X.K (evE F a))) (hb : PE X v (LTE N X.K (evE F b))) :
    PS X (.Assign [.Tuple [.Name x px, .Name y py] k tp] (.Tuple [u, v] k2 vp) pos) (LTS N X.K (evS F (.par i j a b))) := by
  have l1 : X.env.kindOf x = some .local := of_decide_eq_true lx
  have l2 : X.env.kindOf y = some .local := of_decide_eq_true ly
  have hbk : X.env.blockKind = .function := by unfold Env.blockKind; rw [G.kind]; rfl
  have hw : swappedStores [.Tuple [.Name x px, .Name y py] k tp] (.Tuple [u, v] k2 vp) X.env = pure (some [x, y]) := by
    have hpl : (py.line == px.line) = true := by rw [beq_iff_eq] at hl ⊢; exact hl.symm
    have st : ([u, v].any fun | .Starred .. => true | _ => false) = false := by
      cases u <;> first | (simp [notStar] at su; done) | (cases v <;> first | rfl | (simp [notStar] at sv; done))
    have e1 : ([Expr.Name x px, Expr.Name y py].filterMap fun | .Name id pos => if (X.env.kindOf id == some .local && pos.line == px.line) = true then some id else none | _ => none) = [x, y] := by
      simp only [List.filterMap_cons, List.filterMap_nil, l1, l2, hpl, beq_self_eq_true, Bool.and_true, if_true]
    have e2 : [x, y].eraseDups.length = 2 := by
      have : (y == x) = false := beq_eq_false_iff_ne.mpr (Ne.symm hxy)
      simp [List.eraseDups_cons, this]
    have e3 : ∀ A : List Str, A = [x, y] → ¬ ((A.length != 2 || A.eraseDups.length != A.length) = true) := by
      rintro A rfl
      rw [e2]
      exact Bool.false_ne_true
    unfold swappedStores
    dsimp only
    rw [if_neg, if_neg, if_neg, if_neg, if_neg]
    · exact congrArg (fun z => (pure (some z) : Sem (Option (List Str)))) e1
    · rw [f2]; exact Bool.false_ne_true
    · rw [f1]; exact Bool.false_ne_true
    · exact e3 _ e1
    · exact fun h => Bool.false_ne_true (st.symm.trans h)
    · rw [hbk]; exact Bool.false_ne_true
  refine PS.of (ps_par G.g.calm G.g.nd hi hj hij l1 l2 (pa_cons ha (pa_cons hb pa_nil (star_cons sv)) (star_cons su)) hw (hs := sws_other rfl)) fun D σ H ⟨l, L, ρ, rs, rep, p⟩ => ?_
  simp only [evS] at p
  exact LT.bindS rs rep p fun y b L1 H1 ρ1 s1 e1 rs1 rep1 r1 p1 => LT.bindS rs1 rep1 p1 fun z c L2 H2 ρ2 s2 e2 rs2 rep2 r2 p2 => ⟨_, _, rfl, p2.nx rep2 ((rs2.set (Rl.mono s2 e2 _ _ r1)).set r2)⟩
end
end LG
end

section
set_option Elab.async false
set_option linter.all false
set_option maxRecDepth 100000
set_option maxHeartbeats 4000000
/-! LG11: a checked block computes what the small language says; defs. -/
namespace LG
open PySem PySem.Spec PyProof.Rows L2

section
variable {T : Tb} {N : Na} {F : Fn} {lv : Nat} {X : Cx}
theorem PS.badS {st : Stmt} {f : LSt → LH → Out (Fl × LSt)} (h : ∀ l L, f l L = .bad) : PS X st (LTS N X.K f) := ⟨fun pins s σ H D I ⟨l, L, ρ, rs, rep, p⟩ => by rw [h] at p; exact p.elim⟩
mutual
theorem sS (G : GoodS T N F lv X) : ∀ (s : LS) (st : Stmt), ckS T X.N s X.env.scope st = true → PS X st (LTS N X.K (evS F s))
  | .set i e, st, h => by
    simp only [ckS] at h
    split at h
    · simp only [Bool.and_eq_true, Bool.or_eq_true, decide_eq_true_eq] at h
      obtain ⟨⟨⟨h1, h2⟩, h3⟩, h4⟩ := h
      rename_i x px v pos
      rcases h4 with h4 | h4
      · exact sS_set G h1 h2 h4 (sE e X _ G.g h3).1
      · cases e with
        | comp own tg it t c e' =>
          simp only [ckE] at h3
          split at h3
          · rename_i elt tgx iter ifs scope cpos
            simp only [Bool.and_eq_true] at h3
            obtain ⟨⟨⟨⟨⟨⟨⟨a1, a2⟩, a3⟩, a4⟩, a5⟩, a6⟩, a7⟩, a8⟩ := h3
            refine sS_setc G h1 a2 ?_ a4 a5 (sI it X _ _ G.g a6) ?_ (fun s H C cl fp => (sE e' _ _ (G.g.blk s H scope C cl fp) a8).1) h4
            · cases tg <;> exact a3
            · cases t with
              | none =>
                cases ifs with
                | nil => trivial
                | cons q qs => cases a7
              | some u =>
                cases ifs with
                | nil => cases a7
                | cons q qs =>
                  cases qs with
                  | nil => exact fun s H C cl fp => (sE c _ _ (G.g.blk s H scope C cl fp) a7).2
                  | cons q2 qs => cases a7
          · cases h3
        | comp2 own own1 tg it tg1 it1 e' =>
          simp only [ckE] at h3
          split at h3
          · rename_i elt tgx iter tgx1 iter1 scope cpos
            simp only [Bool.and_eq_true] at h3
            obtain ⟨⟨⟨⟨⟨⟨⟨⟨⟨⟨⟨b1, b2⟩, b3⟩, b4⟩, b5⟩, b6⟩, b7⟩, b8⟩, b9⟩, b10⟩, b11⟩, b12⟩ := h3
            refine sS_setc2 G h1 b2 (ownB_ok b3) (ownB_ok b4) ?_ b6 b7 b8 b9 (sI it X _ _ G.g b10) (fun s H C cl fp => sI it1 _ _ _ (G.g.blk s H scope C cl fp) b11) (fun s H C cl fp => (sE e' _ _ (G.g.blk s H scope C cl fp) b12).1) h4
            simp only [List.all_eq_true, List.contains_iff_mem] at b5
            exact b5
          · cases h3
        | _ =>
          exfalso
          unfold swT at h4
          split at h4
          · simp only [ckE] at h3
            all_goals first | cases h3 | (simp at h3; done)
          · cases h4
    · cases h
  | .setf o f e, st, h => by
    simp only [ckS] at h
    split at h
    · simp only [Bool.and_eq_true, decide_eq_true_eq] at h
      exact sS_setf G h.1.1 (sE o X _ G.g h.1.2).1 (sE e X _ G.g h.2).1
    · cases h
  | .seti o i e, st, h => by
    simp only [ckS] at h
    split at h
    · simp only [Bool.and_eq_true] at h
      exact sS_seti G h.1.1.1 (sE o X _ G.g h.1.1.2).1 (sE i X _ G.g h.1.2).1 (sE e X _ G.g h.2).1
    · cases h
  | .unp is e, st, h => by
    simp only [ckS] at h
    split at h
    · simp only [Bool.and_eq_true] at h
      exact sS_unp G h.1.1.1 h.1.1.2 h.1.2 (sE e X _ G.g h.2).1
    · cases h
  | .par i j a b, st, h => by
    simp only [ckS] at h
    split at h
    · simp only [Bool.and_eq_true, decide_eq_true_eq, Bool.not_eq_true'] at h
      obtain ⟨⟨⟨⟨⟨⟨⟨⟨⟨⟨⟨⟨h1, h2⟩, h3⟩, h4⟩, h5⟩, h6⟩, h7⟩, h8⟩, h9⟩, h10⟩, h11⟩, h12⟩, h13⟩ := h
      exact sS_par G h1 h2 h3 h4 h5 h6 h7 h8 h9 h10 h11 (sE a X _ G.g h12).1 (sE b X _ G.g h13).1
    · cases h
  | .expr e, st, h => by
    simp only [ckS] at h
    split at h
    · simp only [Bool.and_eq_true] at h
      exact sS_expr h.1 (sE e X _ G.g h.2).1
    · cases h
  | .ret e, st, h => by
    simp only [ckS] at h
    split at h
    · exact sS_ret (sE e X _ G.g h).1
    · cases h
  | .retN, st, h => by
    simp only [ckS] at h
    split at h
    · exact sS_retN
    · cases h
  | .ifs c a b, st, h => by
    simp only [ckS] at h
    split at h
    · simp only [Bool.and_eq_true] at h
      exact sS_if (sE c X _ G.g h.1.1).2 (sSs G a _ h.1.2) (sSs G b _ h.2)
    · cases h
  | .while c b, st, h => by
    simp only [ckS] at h
    split at h
    · simp only [Bool.and_eq_true] at h
      exact sS_while G (sE c X _ G.g h.1).2 (sSs G b _ h.2)
    · cases h
  | .for tg it b, st, h => by
    simp only [ckS] at h
    split at h
    · simp only [Bool.and_eq_true] at h
      exact sS_for G h.1.1.1 h.1.1.2 (sI it X _ _ G.g h.1.2) (sSs G b _ h.2)
    · cases h
  | .fori is a b, st, h => by
    simp only [ckS] at h
    split at h
    · simp only [Bool.and_eq_true, decide_eq_true_eq] at h
      obtain ⟨⟨⟨⟨⟨h1, h2⟩, h3⟩, h4⟩, h5⟩, h6⟩ := h
      subst h2
      exact sS_fori G h1 h3 h4 (sE a X _ G.g h5).1 (sSs G b _ h6)
    · cases h
  | .pass, st, h => by
    simp only [ckS] at h
    split at h
    · refine PS.of ps_pass fun D σ H ⟨l, L, ρ, rs, rep, p⟩ => ?_
      simp only [evS] at p
      exact p.nx rep rs
    · cases h
  | .brk, st, h => by
    simp only [ckS] at h
    split at h
    · refine PS.of ps_break fun D σ H ⟨l, L, ρ, rs, rep, p⟩ => ?_
      simp only [evS] at p
      exact p H ρ (Sty.refl _) (Ex.refl _) rep σ rs
    · cases h
  | .cont, st, h => by
    simp only [ckS] at h
    split at h
    · refine PS.of ps_continue fun D σ H ⟨l, L, ρ, rs, rep, p⟩ => ?_
      simp only [evS] at p
      exact p H ρ (Sty.refl _) (Ex.refl _) rep σ rs
    · cases h
  | .raise c es, st, h => PS.badS fun _ _ => by simp only [evS]
  | .never, st, h => PS.badS fun _ _ => by simp only [evS]
theorem sSs (G : GoodS T N F lv X) : ∀ (ss : LSs) (sts : List Stmt), ckSs T X.N ss X.env.scope sts = true → PSs X sts (LTS N X.K (evSs F ss))
  | .nil, sts, h => by
    simp only [ckSs, List.isEmpty_iff] at h
    subst h
    exact sS_nil
  | .cons s ss, sts, h => by
    simp only [ckSs] at h
    split at h
    · simp only [Bool.and_eq_true] at h
      exact sS_cons (sS G s _ h.1) (sSs G ss _ h.2)
    · cases h
end
end
end LG
end

section
set_option Elab.async false
set_option linter.all false
set_option maxRecDepth 100000
set_option maxHeartbeats 4000000
/-! LG12: a module's tables, the facts of its head; every def keeps what the small language says. -/
namespace LG
open PySem PySem.Spec PyProof.Rows L2

/-! ### binding -/
theorem zip_lookup {n : Str} : ∀ {ps : List Str} {us : List Value}, us.length = ps.length → n ∈ ps → ((ps.zip us).lookup n).isNone = false
  | [], _, _, h => by simp at h
  | p :: ps, [], hl, _ => by simp at hl
  | p :: ps, u :: us, hl, h => by
    simp only [List.zip_cons_cons, List.lookup]
    cases e : n == p with
    | true => rfl
    | false =>
      have : n ∈ ps := by
        rcases List.mem_cons.mp h with rfl | h
        · simp at e
        · exact h
      exact zip_lookup (by simpa using hl) this
theorem fm_congr {α β : Type} {f g : α → Option β} : ∀ {l : List α}, (∀ x ∈ l, f x = g x) → l.filterMap f = l.filterMap g
  | [], _ => rfl
  | a :: l, h => by
    rw [List.filterMap_cons, List.filterMap_cons, h a List.mem_cons_self, fm_congr fun x hx => h x (List.mem_cons_of_mem _ hx)]
theorem zip_map : ∀ {ps : List Str} {us : List Value}, ps.Nodup → us.length = ps.length → ps.filterMap (fun n => ((ps.zip us).lookup n).map (n, ·)) = ps.zip us
  | [], us, _, _ => by simp
  | p :: ps, [], _, hl => by simp at hl
  | p :: ps, u :: us, nd, hl => by
    have nd' := List.nodup_cons.mp nd
    have ih := zip_map (us := us) nd'.2 (by simpa using hl)
    simp only [List.zip_cons_cons, List.filterMap_cons, List.lookup, beq_self_eq_true, Option.map_some]
    congr 1
    refine Eq.trans (fm_congr fun n hn => ?_) ih
    have ne : (n == p) = false := beq_eq_false_iff_ne.mpr (fun e => nd'.1 (e ▸ hn))
    rw [ne]
theorem bind_plain {x qual : Str} {args : List Arg} {body : List Stmt} {scope : Scope} {kV doc pm cdv ct : Value} {an : Option Addr} {us : List Value} (nd : (args.map (·.arg)).Nodup) (hl : us.length = args.length) :
    bindArgs (PySem.W.fnOf x qual ⟨[], args, none, [], [], none, []⟩ body scope .none kV doc pm an cdv ct) ⟨us, []⟩ = pure ((args.map (·.arg)).zip us) := by
  have hl2 : us.length = (args.map (·.arg)).length := by simpa using hl
  unfold bindArgs PySem.W.fnOf
  simp only [List.map_nil, List.nil_append, List.append_nil]
  have e0 : seqItems? Value.none = pure none := rfl
  simp only [e0, pure_bind, List.forIn_nil, Option.getD, Array.toList, List.length_nil, Nat.sub_zero, Nat.zero_sub, List.drop_nil, List.drop_zero, List.zip_nil_right]
  simp [hl, zip_map nd hl2]
  intro n hn hno
  exfalso
  have := zip_lookup hl2 (List.mem_of_mem_take hn)
  cases e : List.lookup n ((List.map (fun x => x.arg) args).zip us) with
  | none => rw [e] at this; cases this
  | some v => exact hno v (PySem.mem_of_lookup e)

/-! ### constants of the module -/
mutual
def lvB (K : PySem.W.Frag) : LV → Value → Bool
  | .non => fun u => match u with
    | .none => true
    | _ => false
  | .bl b => fun u => match u with
    | .bool c => b == c
    | _ => false
  | .int i => fun u => match u with
    | .int j _ => decide (i = j)
    | _ => false
  | .str x => fun u => match u with
    | .str y _ => decide (x = y)
    | _ => false
  | .tup xs => fun u => match u with
    | .ref a => match K.lookup a with
      | some ⟨.type c, none, .seq its _, _⟩ => decide (c = "tuple") && (decide (its.size ≤ sizeLine) && lvsB K xs its.toList)
      | _ => false
    | _ => false
  | .ref _ => fun _ => false
  | .scr _ => fun _ => false
def lvsB (K : PySem.W.Frag) : List LV → List Value → Bool
  | [] => fun us => us.isEmpty
  | x :: xs => fun us => match us with
    | u :: us => lvB K x u && lvsB K xs us
    | [] => false
end
mutual
theorem lvB_ok {K : PySem.W.Frag} : ∀ (v : LV) (u : Value), lvB K v u = true → ∃ v', RelV v' u ∧ (∀ H ρ, Rl K H ρ v v') ∧ ∀ xs, v = .tup xs → ∃ a o, u = .ref a ∧ K.lookup a = some o ∧ o.cls = .type "tuple" ∧ o.dict = none
  | .non, u, h => by
    simp only [lvB] at h
    split at h
    · exact ⟨.non, rfl, fun _ _ => Rl.non.mpr rfl, fun _ e => by cases e⟩
    · cases h
  | .bl b, u, h => by
    simp only [lvB] at h
    split at h
    · have := eq_of_beq h
      subst this
      exact ⟨.bl b, rfl, fun _ _ => Rl.bl.mpr rfl, fun _ e => by cases e⟩
    · cases h
  | .int i, u, h => by
    simp only [lvB] at h
    split at h
    · rename_i j t
      have := of_decide_eq_true h
      subst this
      exact ⟨.int i, ⟨t, rfl⟩, fun _ _ => Rl.int.mpr rfl, fun _ e => by cases e⟩
    · cases h
  | .str x, u, h => by
    simp only [lvB] at h
    split at h
    · rename_i j t
      have := of_decide_eq_true h
      subst this
      exact ⟨.str x, ⟨t, rfl⟩, fun _ _ => Rl.str.mpr rfl, fun _ e => by cases e⟩
    · cases h
  | .tup xs, u, h => by
    simp only [lvB] at h
    split at h
    · rename_i a
      split at h
      · rename_i c its n sl hl
        simp only [Bool.and_eq_true, decide_eq_true_eq] at h
        obtain ⟨h1, h2, h3⟩ := h
        subst h1
        obtain ⟨vs, r1, r2⟩ := lvsB_ok xs its.toList h3
        exact ⟨.ref a, rfl, fun H ρ => Rl.tup.mpr ⟨a, vs, rfl, .inr ⟨_, its, n, hl, rfl, rfl, h2, r1⟩, r2 H ρ⟩, fun _ _ => ⟨a, _, rfl, hl, rfl, rfl⟩⟩
      · cases h
    · cases h
  | .ref i, u, h => by simp [lvB] at h
  | .scr xs, u, h => by simp [lvB] at h
theorem lvsB_ok {K : PySem.W.Frag} : ∀ (xs : List LV) (us : List Value), lvsB K xs us = true → ∃ vs, Vals vs us ∧ ∀ H ρ, Rls K H ρ xs vs
  | [], us, h => by
    simp only [lvsB, List.isEmpty_iff] at h
    subst h
    exact ⟨[], .nil, fun _ _ => Rls.nil'⟩
  | x :: xs, us, h => by
    simp only [lvsB] at h
    split at h
    · simp only [Bool.and_eq_true] at h
      obtain ⟨v, a1, a2, _⟩ := lvB_ok x _ h.1
      obtain ⟨vs, b1, b2⟩ := lvsB_ok xs _ h.2
      exact ⟨v :: vs, .cons a1 b1, fun H ρ => Rls.mk (a2 H ρ) (b2 H ρ)⟩
    · cases h
end
/-- a dict's entries -/
def kdE (K : PySem.W.Frag) : List (Str × LV) → List DictEntry → Bool
  | [], es => es.isEmpty
  | kv :: r, es => match es with
    | e :: es => (match e.key with
      | .str x _ => decide (x = kv.1)
      | _ => false) && lvB K kv.2 e.val && kdE K r es
    | [] => false
theorem kdE_ok {K : PySem.W.Frag} {z : Str} : ∀ {kvs : List (Str × LV)} {es : List DictEntry}, kdE K kvs es = true →
    (∀ v, kvs.lookup z = some v → ∃ e, es.find? (·.key.isStr z) = some e ∧ lvB K v e.val = true) ∧ (kvs.lookup z = none → es.find? (·.key.isStr z) = none ∧ es.any (·.refKey) = false)
  | [], es, h => by
    simp only [kdE, List.isEmpty_iff] at h
    subst h
    exact ⟨fun v e => by simp at e, fun _ => ⟨rfl, rfl⟩⟩
  | kv :: r, [], h => by simp [kdE] at h
  | (k, v) :: r, e :: es, h => by
    simp only [kdE, Bool.and_eq_true] at h
    obtain ⟨⟨h1, h2⟩, h3⟩ := h
    obtain ⟨i1, i2⟩ := kdE_ok (z := z) h3
    obtain ⟨hsh, key, val⟩ := e
    dsimp only at h1 h2
    split at h1
    · rename_i x t
      have := of_decide_eq_true h1
      subst this
      have e1 : (Value.str x t).isStr z = (x == z) := rfl
      by_cases q : z = x
      · subst q
        refine ⟨fun w hw => ?_, fun hw => ?_⟩
        · simp only [List.lookup, beq_self_eq_true] at hw
          cases hw
          refine ⟨⟨hsh, .str z t, val⟩, ?_, h2⟩
          rw [List.find?_cons]
          simp only [e1, beq_self_eq_true]
        · simp [List.lookup] at hw
      · have b1 : (z == x) = false := beq_eq_false_iff_ne.mpr q
        have b2 : (x == z) = false := beq_eq_false_iff_ne.mpr (Ne.symm q)
        refine ⟨fun w hw => ?_, fun hw => ?_⟩
        · simp only [List.lookup, b1] at hw
          obtain ⟨e, a, b⟩ := i1 w hw
          refine ⟨e, ?_, b⟩
          rw [List.find?_cons]
          simp only [e1, b2]
          exact a
        · simp only [List.lookup, b1] at hw
          obtain ⟨a, b⟩ := i2 hw
          refine ⟨?_, ?_⟩
          · rw [List.find?_cons]
            simp only [e1, b2]
            exact a
          · rw [List.any_cons, b]; rfl
    · cases h1
def kdB (K : PySem.W.Frag) (a : Addr) (kvs : List (Str × LV)) : Bool := match K.lookup a with
  | some ⟨_, _, .dict es _, _⟩ => kdE K kvs es.toList
  | _ => false
theorem kdB_ok {K : PySem.W.Frag} {a : Addr} {kvs : List (Str × LV)} (h : kdB K a kvs = true) (z : Str) :
    (∀ v, kvs.lookup z = some v → ∃ u v', PySem.W.nsIn K a z = some (some u) ∧ RelV v' u ∧ ∀ H ρ, Rl K H ρ v v') ∧ (kvs.lookup z = none → PySem.W.nsIn K a z = some none) := by
  unfold kdB at h
  cases q : K.lookup a with
  | none => rw [q] at h; cases h
  | some o =>
    obtain ⟨oc, od, dt, osl⟩ := o
    rw [q] at h
    cases dt with
    | dict es n =>
      obtain ⟨h1, h2⟩ := kdE_ok (z := z) (show kdE K kvs es.toList = true from h)
      unfold PySem.W.nsIn
      rw [q]
      dsimp only
      refine ⟨fun v hv => ?_, fun hv => ?_⟩
      · obtain ⟨e, a1, a2⟩ := h1 v hv
        obtain ⟨v', b1, b2, _⟩ := lvB_ok v e.val a2
        rw [a1]
        exact ⟨e.val, v', rfl, b1, b2⟩
      · obtain ⟨a1, a2⟩ := h2 hv
        rw [a1, a2]
        rfl
    | _ => cases h

/-! ### the module -/
/-- a def: where it stands, its qualified name, its text, its names (the parameters first), how many parameters, its body -/
structure DD where
  at_ : Str × Option Str
  name : Str
  qual : Str
  st : Stmt
  N : List Str
  np : Nat
  body : LSs
  kwd : List (Str × He.Dv)
abbrev DD.dd (d : DD) : He.DefD := ⟨d.at_, d.name, d.qual, defArgs d.st, defBody d.st, defScope d.st, [], d.kwd⟩
structure Mo where
  nms : List Str
  cls : List Str
  defs : List DD
  nf : Nat
  fks : List (Nat × Str)
  glos : List (Str × LV)
  gds : List (Str × List (Str × LV))
  inits : List (Option Nat)
  mths : List (Nat × Nat × Nat)
  flds : List (Nat × Nat)
  kws : List (Nat × Nat × List Nat × List (Nat ⊕ Nat ⊕ LV))
  w : Nat
def Mo.T (m : Mo) : Tb := ⟨m.nms, (m.defs.take m.nf).map (·.at_.1), m.cls, m.glos.map (·.1), m.gds.map (·.1), m.fks⟩
def Mo.init (m : Mo) (c : Nat) : Option Nat := (m.inits[c]?).join
def Mo.mth (m : Mo) (c n : Nat) : Option Nat := (m.mths.find? fun p => p.1 == c && p.2.1 == n).map (·.2.2)
def Mo.fld (m : Mo) (c f : Nat) : Bool := m.flds.any fun p => p.1 == c && p.2 == f
def Mo.kw (m : Mo) (f n : Nat) (ks : List Nat) : Option (List (Nat ⊕ Nat ⊕ LV)) := (m.kws.find? fun p => p.1 == f && p.2.1 == n && p.2.2.1 == ks).map (·.2.2.2)
def Mo.pg (m : Mo) : Pg where
  fns := fun f => (m.defs[f]?).map fun d => ⟨d.np, d.N.length, d.body⟩
  glo := fun i => (m.glos[i]?).map (·.2)
  kd := fun i => (m.gds[i]?).map (·.2)
  init := m.init
  mth := m.mth
  fld := m.fld
  kw := m.kw
  w := m.w
noncomputable def Mo.F (m : Mo) (k : Nat) : Fn := ⟨m.pg.glo, m.pg.kd, run m.pg k, m.init, m.mth, m.fld, m.kw, m.w⟩
def Mo.nm (m : Mo) (i : Nat) : Str := (m.nms[i]?).getD (Str.mk ((Array.replicate (1000 + i) 120)))
def Mo.N (m : Mo) (K : PySem.W.Frag) : Na := ⟨m.nm, fun c => He.ga K (m.cls.getD c "")⟩
/-- a def's scope -/
def fsB (N P : List Str) (sc : Scope) : Bool := decide (sc.kind = .function) && !sc.isCoroutine && !sc.isGenerator && decide N.Nodup && decide (N.take P.length = P) && P.all (fun x => locB sc x) && sc.names.all fun y => !(y.2 == .free)
theorem fsB_ok {N P : List Str} {sc : Scope} (h : fsB N P sc = true) : FnScope N P sc := by
  simp only [fsB, Bool.and_eq_true, decide_eq_true_eq, Bool.not_eq_true', List.all_eq_true] at h
  obtain ⟨⟨⟨⟨⟨⟨h1, h2⟩, h3⟩, h4⟩, h5⟩, h6⟩, h7⟩ := h
  exact ⟨h1, h2, h3, h4, h5, fun x hx => locB_ok (h6 x hx), fun y hy e => by
    have := h7 y hy
    rw [e] at this
    cases this⟩
def plB (P : List Str) (a : Arguments) : Bool := match a with
  | ⟨[], as, none, [], [], none, []⟩ => decide (as.map (·.arg) = P)
  | _ => false
/-- the static check of a def -/
def DD.ok (T : Tb) (d : DD) : Bool := decide (d.np ≤ d.N.length) && fsB d.N (d.N.take d.np) (defScope d.st) && ckSs T d.N d.body (defScope d.st) (defBody d.st)
def Mo.freeL : List Str := ["len", "tuple", "list", "int", "min", "max", "sum", "any", "all", "str", "bool", "range", "isinstance"]
/-- the facts to be asked of the head -/
def Mo.fas (m : Mo) : List He.Fa :=
  Mo.freeL.map He.Fa.free ++ (m.defs.take m.nf).map (fun d => .glo d.at_.1) ++ m.fks.map (fun p => .glo p.2) ++ m.cls.map He.Fa.glo ++ m.cls.map He.Fa.cls ++ m.gds.map (fun p => .glo p.1)
    ++ (m.cls.zip m.inits).filterMap (fun p => p.2.map fun _ => .mkr p.1) ++ m.mths.map (fun p => .meth (m.cls.getD p.1 "") (m.nm p.2.1)) ++ m.flds.map (fun p => .noat (m.cls.getD p.1 "") (m.nm p.2))
def Mo.ex (m : Mo) (K : PySem.W.Frag) : Bool := (m.glos.all fun p => match PySem.W.nsIn K mainGlobals p.1 with
  | some (some u) => lvB K p.2 u
  | _ => false) && m.gds.all fun p => kdB K (He.ga K p.1) p.2
def Mo.ts (m : Mo) : List He.Tab := m.gds.map fun p => (fun K => He.ga K p.1, p.2.map (·.1))
/-- the static check of the tables -/
def Mo.ok (m : Mo) : Bool :=
  decide m.nms.Nodup && m.nms.all (fun x => decide (x.cps.size < 1000)) && decide (m.nf ≤ m.defs.length) && (m.defs.take m.nf).all (fun d => d.at_.2.isNone && plB (d.N.take d.np) (defArgs d.st)) && m.fks.all (fun p => match m.defs[p.1]? with
    | some d => decide (d.at_ = (p.2, none))
    | none => false)
  && decide (m.cls.length = m.inits.length) && (m.cls.zip m.inits).all (fun p => match p.2 with
    | none => true
    | some f => match m.defs[f]? with
      | some d => decide (d.at_ = (p.1, some ("__init__" : Str))) && plB (d.N.take d.np) (defArgs d.st)
      | none => false)
  && m.mths.all (fun p => decide (p.1 < m.cls.length) && match m.defs[p.2.2]? with
      | some d => decide (d.at_ = (m.cls.getD p.1 "", some (m.nm p.2.1))) && plB (d.N.take d.np) (defArgs d.st)
      | none => false)

theorem nd_inj {α : Type} {x : α} : ∀ {l : List α} {i j : Nat}, l.Nodup → l[i]? = some x → l[j]? = some x → i = j
  | [], i, j, _, h, _ => by simp at h
  | a :: l, 0, 0, _, _, _ => rfl
  | a :: l, 0, j + 1, nd, h1, h2 => by
    simp only [List.getElem?_cons_zero, Option.some.injEq] at h1
    subst h1
    exact ((List.nodup_cons.mp nd).1 (List.mem_of_getElem? (by simpa using h2))).elim
  | a :: l, i + 1, 0, nd, h1, h2 => by
    simp only [List.getElem?_cons_zero, Option.some.injEq] at h2
    subst h2
    exact ((List.nodup_cons.mp nd).1 (List.mem_of_getElem? (by simpa using h1))).elim
  | a :: l, i + 1, j + 1, nd, h1, h2 => by
    have h1' : l[i]? = some x := by simpa using h1
    have h2' : l[j]? = some x := by simpa using h2
    rw [nd_inj (List.nodup_cons.mp nd).2 h1' h2']
/-! ### what the head says -/
section
variable {m : Mo} {K : PySem.W.Frag} {w : World} {h0 : Heap}
theorem Mo.nm_inj (hm : m.ok = true) : ∀ f g, m.nm f = m.nm g → f = g := by
  simp only [Mo.ok, Bool.and_eq_true, decide_eq_true_eq, List.all_eq_true] at hm
  obtain ⟨⟨⟨⟨⟨⟨⟨nd, ln⟩, _⟩, _⟩, _⟩, _⟩, _⟩, _⟩ := hm
  have sz : ∀ i, i < m.nms.length → (m.nm i).cps.size < 1000 := fun i hi => by
    unfold Mo.nm
    rw [List.getElem?_eq_getElem hi]
    exact ln _ (List.getElem_mem hi)
  have sz2 : ∀ i, ¬ i < m.nms.length → (m.nm i).cps.size = 1000 + i := fun i hi => by
    unfold Mo.nm
    rw [List.getElem?_eq_none (by omega)]
    simp
  intro f g e
  by_cases hf : f < m.nms.length <;> by_cases hg : g < m.nms.length
  · unfold Mo.nm at e
    rw [List.getElem?_eq_getElem hf, List.getElem?_eq_getElem hg] at e
    have e2 : m.nms[f] = m.nms[g] := e
    exact nd_inj nd (List.getElem?_eq_getElem hf) (by rw [List.getElem?_eq_getElem hg, e2])
  · have a := sz f hf
    rw [e, sz2 g hg] at a
    omega
  · have a := sz g hg
    rw [← e, sz2 f hf] at a
    omega
  · have a := sz2 f hf
    rw [e, sz2 g hg] at a
    omega
end
end LG
end

section
set_option Elab.async false
set_option linter.all false
set_option maxRecDepth 100000
set_option maxHeartbeats 4000000
/-! LG13: every def keeps what the small language says. -/
namespace LG
open PySem PySem.Spec PyProof.Rows L2

section
variable {m : Mo} {K : PySem.W.Frag} {P : Program} {w : World} {h0 base : Heap} {mg : Str → Option Value}
abbrev FD1 (K : PySem.W.Frag) (d : DD) (fd : FuncData) : Prop := FunD K d.name d.qual (defArgs d.st) (defBody d.st) (defScope d.st) [] (d.dd.kws K) (He.fAd K d.at_) fd
theorem pl_binds {P : List Str} {a : Arguments} {x qual : Str} {body : List Stmt} {scope : Scope} {kws : List (Str × V)} {f : Addr} {fd : FuncData} (h : plB P a = true) (nd : P.Nodup) (F : FunD K x qual a body scope [] kws f fd) : Binds K fd P [] := by
  unfold plB at h
  split at h
  · rename_i as
    have e := of_decide_eq_true h
    subst e
    exact F.bindsN fun kV doc pm an cdv ct us hl => bind_plain nd (by simpa using hl)
  · cases h
/-- how keywords and defaults bind -/
structure KwOk (m : Mo) (K : PySem.W.Frag) : Prop where
  d : ∀ f d n sl fd, m.defs[f]? = some d → m.kw f n [] = some sl → FD1 K d fd → ∃ ds dvs, Binds K fd (d.N.take d.np) ds ∧ Vals dvs ds ∧ ∀ (lvs ws : List LV), lvs.length = n → fill lvs [] sl = some ws → ∃ lds, ws = lvs ++ lds ∧ ∀ H ρ, Rls K H ρ lds dvs
  k : ∀ f d n ks sl fd, m.defs[f]? = some d → ks ≠ [] → m.kw f n ks = some sl → FD1 K d fd → ∃ nks g gV, (ks.map fun i => m.nms[i]?) = nks.map some ∧ KBn K fd (d.N.take d.np) n nks g gV ∧
    ∀ H ρ (lvs lzs ws : List LV) (vs zs : List V), lvs.length = n → lzs.length = ks.length → Rls K H ρ lvs vs → Rls K H ρ lzs zs → fill lvs lzs sl = some ws → Rls K H ρ ws (gV vs zs)
def FnAll (m : Mo) (K : PySem.W.Frag) (P : Program) (w : World) (mg : Str → Option Value) (base : Heap) (k : Nat) : Prop :=
  ∀ f d, m.defs[f]? = some d → ∀ fd, FD1 K d fd → FnOk P w K mg base CX0 (2 * k) (He.fAd K d.at_) fd (d.N.take d.np) (SpL (m.N K) K (run m.pg k f))
theorem nodupN {d : DD} (h : DD.ok m.T d = true) : (d.N.take d.np).Nodup := by
  simp only [DD.ok, Bool.and_eq_true] at h
  exact (fsB_ok h.1.2).nd.sublist (List.take_sublist _ _)
theorem zip_mem {α β : Type} : ∀ {l : List α} {r : List β} {i : Nat} {a : α} {b : β}, l[i]? = some a → r[i]? = some b → (a, b) ∈ l.zip r
  | [], _, i, _, _, h, _ => by simp at h
  | _ :: _, [], i, _, _, _, h => by simp at h
  | x :: l, y :: r, 0, a, b, h1, h2 => by
    simp at h1 h2
    subst h1 h2
    exact List.mem_cons_self
  | x :: l, y :: r, i + 1, a, b, h1, h2 => List.mem_cons_of_mem _ (zip_mem (i := i) (by simpa using h1) (by simpa using h2))
theorem memL {α : Type} {f : Nat} {x : α} : ∀ {l : List (Nat × α)}, l.lookup f = some x → (f, x) ∈ l
  | [], h => by simp at h
  | (g, y) :: l, h => by
    simp only [List.lookup] at h
    cases e : f == g with
    | true =>
      rw [e] at h
      cases h
      rw [beq_iff_eq] at e
      subst e
      exact List.mem_cons_self
    | false =>
      rw [e] at h
      exact List.mem_cons_of_mem _ (memL h)
theorem getD_some {l : List Str} {i : Nat} {x d : Str} (h : l[i]? = some x) : l.getD i d = x := by
  rw [List.getD_eq_getElem?_getD, h]; rfl
theorem Mo.fx (hm : m.ok = true) (hd : m.defs.all (DD.ok m.T) = true) (c : He.SaysD m.fas (m.defs.map DD.dd) K) (cx : m.ex K = true) (ct : ∀ p ∈ m.gds, ∃ es n, KDict K w (He.ga K p.1) es n) (X : K.In h0) (G : h0.Ns mainGlobals mg) (kw : KwOk m K) (k : Nat)
    (FA : FnAll m K P w mg base k) : Fx m.T (m.N K) (m.F k) (2 * k) P w K mg base := by
  have hinj := Mo.nm_inj hm
  simp only [Mo.ok, Bool.and_eq_true, decide_eq_true_eq, List.all_eq_true] at hm
  obtain ⟨⟨⟨⟨⟨⟨⟨m1, m2⟩, m3⟩, m4⟩, m5⟩, m6⟩, m7⟩, m8⟩ := hm
  simp only [List.all_eq_true] at hd
  simp only [Mo.ex, Bool.and_eq_true, List.all_eq_true] at cx
  have free : ∀ x ∈ Mo.freeL, mg x = none := fun x hx => He.free_ok X G (c.facts (f := .free x) (by simp only [Mo.fas, List.mem_append, List.mem_map]; exact .inl (.inl (.inl (.inl (.inl (.inl (.inl (.inl ⟨x, hx, rfl⟩)))))))))
  have defn : ∀ (f : Nat) (d : DD), m.defs[f]? = some d → ∃ fd, FD1 K d fd := fun f d h => by
    obtain ⟨fd, F⟩ := c.defs (d := d.dd) (List.mem_map.mpr ⟨d, List.mem_of_getElem? h, rfl⟩)
    exact ⟨fd, F⟩
  have ndup : ∀ (f : Nat) (d : DD), m.defs[f]? = some d → (d.N.take d.np).Nodup := fun f d h => nodupN (hd d (List.mem_of_getElem? h))
  refine ⟨hinj, fun i x h => ?_, fun f => free _ ?_, fun t x h => free _ ?_, free _ (by simp [Mo.freeL]), free _ (by simp [Mo.freeL]), fun i x v h1 h2 => ?_, fun i x kvs h1 h2 => ?_, fun f x h => ?_, fun f x n sl h1 h2 => ?_, fun f x n ks sl h1 h2 h3 => ?_, fun cc x f h1 h2 => ?_, fun cc n f h => ?_, fun cc f h => ?_⟩
  · show m.nm i = x
    unfold Mo.nm
    have h' : m.nms[i]? = some x := h
    rw [h']; rfl
  · cases f <;> decide +kernel
  · cases t <;> simp only [tyName, Option.some.injEq] at h <;> first | (subst h; decide +kernel) | cases h
  · have h1' : (m.glos.map (·.1))[i]? = some x := h1
    have h2' : (m.glos[i]?).map (·.2) = some v := h2
    rw [List.getElem?_map] at h1'
    cases e : m.glos[i]? with
    | none => rw [e] at h1'; cases h1'
    | some p =>
      rw [e] at h1' h2'
      cases h1'; cases h2'
      have q := cx.1 p (List.mem_of_getElem? e)
      cases e2 : PySem.W.nsIn K mainGlobals p.1 with
      | none => rw [e2] at q; cases q
      | some r =>
        rw [e2] at q
        cases r with
        | none => cases q
        | some u =>
          obtain ⟨v', a1, a2, a3⟩ := lvB_ok p.2 u q
          exact ⟨u, v', PySem.W.mg_of X G e2, a1, a2, a3⟩
  · have h1' : (m.gds.map (·.1))[i]? = some x := h1
    have h2' : (m.gds[i]?).map (·.2) = some kvs := h2
    rw [List.getElem?_map] at h1'
    cases e : m.gds[i]? with
    | none => rw [e] at h1'; cases h1'
    | some p =>
      rw [e] at h1' h2'
      cases h1'; cases h2'
      have hp := List.mem_of_getElem? e
      obtain ⟨es, n, D⟩ := ct p hp
      refine ⟨_, es, n, He.glo_ok X G (c.facts (f := .glo p.1) ?_), D, fun z => kdB_ok (cx.2 p hp) z⟩
      simp only [Mo.fas, List.mem_append, List.mem_map]
      exact .inl (.inl (.inl (.inr ⟨p, hp, rfl⟩)))
  · have h' : ((m.defs.take m.nf).map (·.at_.1))[f]? = some x := h
    rw [List.getElem?_map] at h'
    cases e : (m.defs.take m.nf)[f]? with
    | none => rw [e] at h'; cases h'
    | some d =>
      rw [e] at h'
      cases h'
      have hp := List.mem_of_getElem? e
      have hdf : m.defs[f]? = some d := by
        rw [List.getElem?_take] at e
        split at e
        · exact e
        · cases e
      obtain ⟨q1, q2⟩ := m4 d hp
      obtain ⟨fd, F⟩ := defn f d hdf
      have ea : He.fAd K d.at_ = He.ga K d.at_.1 := by
        unfold He.fAd
        rw [Option.isNone_iff_eq_none] at q1
        rw [q1]
      refine ⟨He.ga K d.at_.1, fd, _, He.glo_ok X G (c.facts (f := .glo d.at_.1) ?_), ?_, pl_binds q2 (ndup f d hdf) F, ?_⟩
      · simp only [Mo.fas, List.mem_append, List.mem_map]
        exact .inl (.inl (.inl (.inl (.inl (.inl (.inl (.inr ⟨d, hp, rfl⟩)))))))
      · rw [← ea]; exact F.kp
      · rw [← ea]; exact FA f d hdf fd F
  · have hx : (f, x) ∈ m.fks := memL h1
    have q := m5 _ hx
    cases hdf : m.defs[f]? with
    | none => simp only [hdf] at q; cases q
    | some d =>
      simp only [hdf] at q
      have ea0 := of_decide_eq_true q
      have ea : He.fAd K d.at_ = He.ga K x := by rw [ea0]; rfl
      obtain ⟨fd, F⟩ := defn f d hdf
      obtain ⟨ds, dvs, b1, b2, b3⟩ := kw.d f d n sl fd hdf h2 F
      refine ⟨He.ga K x, fd, _, ds, dvs, He.glo_ok X G (c.facts (f := .glo x) ?_), ?_, b1, b2, ?_, b3⟩
      · simp only [Mo.fas, List.mem_append, List.mem_map]
        exact .inl (.inl (.inl (.inl (.inl (.inl (.inr ⟨_, hx, rfl⟩))))))
      · rw [← ea]; exact F.kp
      · rw [← ea]; exact FA f d hdf fd F
  · have hx : (f, x) ∈ m.fks := memL h1
    have q := m5 _ hx
    cases hdf : m.defs[f]? with
    | none => simp only [hdf] at q; cases q
    | some d =>
      simp only [hdf] at q
      have ea0 := of_decide_eq_true q
      have ea : He.fAd K d.at_ = He.ga K x := by rw [ea0]; rfl
      obtain ⟨fd, F⟩ := defn f d hdf
      obtain ⟨nks, g, gV, b0, b1, b3⟩ := kw.k f d n ks sl fd hdf h2 h3 F
      refine ⟨He.ga K x, fd, _, nks, g, gV, b0, He.glo_ok X G (c.facts (f := .glo x) ?_), ?_, b1, ?_, b3⟩
      · simp only [Mo.fas, List.mem_append, List.mem_map]
        exact .inl (.inl (.inl (.inl (.inl (.inl (.inr ⟨_, hx, rfl⟩))))))
      · rw [← ea]; exact F.kp
      · rw [← ea]; exact FA f d hdf fd F
  · have h1' : m.cls[cc]? = some x := h1
    have h2' : (m.inits[cc]?).join = some f := h2
    have hz : m.inits[cc]? = some (some f) := by
      cases e : m.inits[cc]? with
      | none => rw [e] at h2'; cases h2'
      | some o => rw [e] at h2'; cases o with
        | none => cases h2'
        | some g => cases h2'; rfl
    have hmem : (x, some f) ∈ m.cls.zip m.inits := zip_mem h1' hz
    have q := m7 _ hmem
    have hxc : x ∈ m.cls := List.mem_of_getElem? h1'
    cases hdf : m.defs[f]? with
    | none => simp only [hdf] at q; cases q
    | some d =>
      simp only [hdf, Bool.and_eq_true] at q
      have ea0 := of_decide_eq_true q.1
      obtain ⟨fd, F⟩ := defn f d hdf
      have ca : (m.N K).ca cc = He.ga K x := by
        show He.ga K (m.cls.getD cc "") = _
        rw [getD_some h1']
      have ea : He.fAd K d.at_ = He.ma K (He.ga K x) "__init__" := by rw [ea0]; rfl
      refine ⟨He.fAd K d.at_, fd, _, ?_, ?_, ?_, pl_binds q.2 (ndup f d hdf) F, FA f d hdf fd F⟩
      · rw [ca]
        refine He.glo_ok X G (c.facts (f := .glo x) ?_)
        simp only [Mo.fas, List.mem_append, List.mem_map]
        exact .inl (.inl (.inl (.inl (.inl (.inr ⟨x, hxc, rfl⟩)))))
      · rw [ca, ea]
        refine He.mkr_ok (c.facts (f := .mkr x) ?_)
        simp only [Mo.fas, List.mem_append, List.mem_map, List.mem_filterMap]
        exact .inl (.inl (.inr ⟨_, hmem, rfl⟩))
      · rw [ca]
        refine He.cls_ok (c.facts (f := .cls x) ?_)
        simp only [Mo.fas, List.mem_append, List.mem_map]
        exact .inl (.inl (.inl (.inl (.inr ⟨x, hxc, rfl⟩))))
  · have h' : (m.mths.find? fun p => p.1 == cc && p.2.1 == n).map (·.2.2) = some f := h
    cases e : m.mths.find? fun p => p.1 == cc && p.2.1 == n with
    | none => rw [e] at h'; cases h'
    | some p =>
      rw [e] at h'
      cases h'
      have hp := List.mem_of_find?_eq_some e
      have hb := List.find?_some e
      simp only [Bool.and_eq_true, beq_iff_eq] at hb
      obtain ⟨rfl, rfl⟩ := hb
      have q := m8 p hp
      cases hdf : m.defs[p.2.2]? with
      | none => simp only [hdf] at q; cases q.2
      | some d =>
        simp only [hdf, Bool.and_eq_true] at q
        have ea0 := of_decide_eq_true q.2.1
        obtain ⟨fd, F⟩ := defn _ d hdf
        have ea : He.fAd K d.at_ = He.ma K (He.ga K (m.cls.getD p.1 "")) (m.nm p.2.1) := by rw [ea0]; rfl
        refine ⟨He.fAd K d.at_, fd, _, ?_, pl_binds q.2.2 (ndup _ d hdf) F, FA _ d hdf fd F⟩
        rw [ea]
        refine He.meth_ok (c.facts (f := .meth (m.cls.getD p.1 "") (m.nm p.2.1)) ?_)
        simp only [Mo.fas, List.mem_append, List.mem_map]
        exact .inl (.inr ⟨p, hp, rfl⟩)
  · have h' : (m.flds.any fun p => p.1 == cc && p.2 == f) = true := h
    obtain ⟨p, hp, hb⟩ := List.any_eq_true.mp h'
    simp only [Bool.and_eq_true, beq_iff_eq] at hb
    obtain ⟨rfl, rfl⟩ := hb
    refine He.noat_ok (c.facts (f := .noat (m.cls.getD p.1 "") (m.nm p.2)) ?_)
    simp only [Mo.fas, List.mem_append, List.mem_map]
    exact .inr ⟨p, hp, rfl⟩
theorem start_rs {N : List Str} {np : Nat} {H : Hp} {ρ : Rho} {lvs : List LV} {vs : List V} (hn : np ≤ N.length) (hl : lvs.length = np) (r : Rls K H ρ lvs vs) : RS K H ρ (lvs.map some ++ List.replicate (N.length - np) none) (L2.start N vs) := by
  have hl2 := r.length
  refine ⟨by simp [L2.start]; omega, fun i v h => ?_⟩
  by_cases hi : i < lvs.length
  · rw [List.getElem?_append_left (by simpa using hi), List.getElem?_map] at h
    cases e : lvs[i]? with
    | none => rw [e] at h; cases h
    | some u =>
      rw [e] at h
      cases h
      obtain ⟨x, h1, h2⟩ := r.get e
      refine ⟨x, ?_, h2⟩
      unfold L2.start
      rw [List.getElem?_append_left (by simp; omega), List.getElem?_map, h1]
      rfl
  · rw [List.getElem?_append_right (by simpa using hi), List.getElem?_replicate] at h
    split at h <;> cases h
theorem Mo.all (hm : m.ok = true) (hd : m.defs.all (DD.ok m.T) = true) (c : He.SaysD m.fas (m.defs.map DD.dd) K) (cx : m.ex K = true) (ct : ∀ p ∈ m.gds, ∃ es n, KDict K w (He.ga K p.1) es n) (X : K.In h0) (G : h0.Ns mainGlobals mg) (kw : KwOk m K) :
    ∀ k, FnAll m K P w mg base k
  | 0 => fun f d hdf fd F => ⟨fun vs H Q E ⟨lvs, L, ρ, rep, r, p⟩ => p.elim, fun A outer s H args us vs Q E _ _ _ _ ⟨lvs, L, ρ, rep, r, p⟩ => p.elim⟩
  | k + 1 => fun f d hdf fd F => by
    have FA := Mo.all hm hd c cx ct X G kw k
    have fx : Fx m.T (m.N K) (m.F k) (2 * k) P w K mg base := Mo.fx hm hd c cx ct X G kw k FA
    have hok := List.all_eq_true.mp hd d (List.mem_of_getElem? hdf)
    simp only [DD.ok, Bool.and_eq_true, decide_eq_true_eq] at hok
    obtain ⟨⟨hn, hs⟩, hc⟩ := hok
    have S := fsB_ok hs
    have hpl : (d.N.take d.np).length = d.np := by rw [List.length_take]; omega
    have hrun : ∀ lvs L, run m.pg (k + 1) f lvs L = if lvs.length = d.np then
        (evSs (m.F k) d.body (lvs.map some ++ List.replicate (d.N.length - d.np) none) L).bind fun p L1 => match p.1 with
          | .nx => .ok .non L1
          | .ret v => .ok v L1
          | _ => .bad
      else .bad := fun lvs L => by
      have e : m.pg.fns f = some ⟨d.np, d.N.length, d.body⟩ := by
        show (m.defs[f]?).map _ = _
        rw [hdf]; rfl
      rw [run, e]
      rfl
    have hlen : ∀ vs H Q E, SpL (m.N K) K (run m.pg (k + 1) f) vs H Q E → vs.length = (d.N.take d.np).length := fun vs H Q E ⟨lvs, L, ρ, rep, r, p⟩ => by
      rw [hrun] at p
      split at p
      · rename_i hl
        rw [← r.length, hl, hpl]
      · exact p.elim
    refine F.ok S hlen fun cdv A outer s H vs Q E hr hsp => ⟨LTS (m.N K) K (evSs (m.F k) d.body), PSs.nox (sSs (T := m.T) (lv := 2 * k) ⟨⟨rfl, S.nd, hr, fx⟩, PassesOwn.never, fun _ => rfl, S.kind⟩ d.body _ hc), ?_⟩
    obtain ⟨lvs, L, ρ, rep, r, p⟩ := hsp
    rw [hrun] at p
    split at p
    · rename_i hl
      refine ⟨_, L, ρ, start_rs hn hl r, rep, ?_⟩
      cases e : evSs (m.F k) d.body (lvs.map some ++ List.replicate (d.N.length - d.np) none) L with
      | err x L1 => rw [e] at p; exact p.elim
      | bad => rw [e] at p; exact p.elim
      | ok q L1 =>
        rw [e] at p
        obtain ⟨fl, l1⟩ := q
        simp only [Out.bind] at p
        intro H1 ρ1 s1 e1 rep1
        cases fl with
        | nx => exact fun σ rs => p H1 ρ1 _ s1 e1 rep1 (Rl.non.mpr rfl)
        | ret v => exact fun x rx => p H1 ρ1 x s1 e1 rep1 rx
        | brk => exact p.elim
        | cont => exact p.elim
    · exact p.elim
end
end LG
end

section
set_option Elab.async false
set_option linter.all false
set_option maxRecDepth 100000
set_option maxHeartbeats 4000000
/-! LG14: from what the small language says of the law's def to the row. -/
namespace LG
open PySem PySem.Spec PyProof.Rows L2

abbrev Mo.hook (m : Mo) (n : Nat) : PySem.W.Hook := He.hookX n m.fas (m.defs.map DD.dd) m.ts [] m.ex
def Mo.ob (m : Mo) (n : Nat) (s : PySem.W.SharedT) : He.AlX := He.obsX n m.fas (m.defs.map DD.dd) m.ts [] m.ex (HandSHeadRun.getT s)
theorem Mo.ob_eq (m : Mo) (n : Nat) (s : PySem.W.SharedT) : m.ob n s = (m.hook n).obs s.abs := He.obsX_eq (HandSHeadRun.getT_eq s)
def L0 : LH := ⟨0, fun _ => none⟩
theorem rep0 {N : Na} {K : PySem.W.Frag} {H : Hp} : Rep N K H L0 (fun _ => none) where
  fresh := fun _ _ => rfl
  obj := fun i o h => by cases h
  inj := fun i j a h => by cases h
  dom := fun i a h => by cases h
theorem Rls.ints {K : PySem.W.Frag} {H : Hp} {ρ : Rho} : ∀ {ns : List Int}, Rls K H ρ (ns.map LV.int) (ns.map V.int)
  | [] => Rls.nil'
  | n :: ns => Rls.mk (Rl.int.mpr rfl) Rls.ints
theorem Mo.tab {m : Mo} {K : PySem.W.Frag} {w : World} (c : He.SaysT m.fas (m.defs.map DD.dd) m.ts w K) : ∀ p ∈ m.gds, ∃ es n, KDict K w (He.ga K p.1) es n := fun p hp => by
  obtain ⟨i, hi, e⟩ := List.mem_iff_getElem.mp hp
  have h : m.ts[i]? = some (fun K => He.ga K p.1, p.2.map (·.1)) := by
    unfold Mo.ts
    rw [List.getElem?_map, List.getElem?_eq_getElem hi, e]; rfl
  exact c.tab i (t := (fun K => He.ga K p.1, p.2.map (·.1))) h
/-- the goal that the head leaves, from the computation of the law's def -/
theorem Mo.walk {l : PySem.W.OpenLaw} {m : Mo} {n fi k j : Nat} {dl : DD} {q : Program} {loose : List Str} {XP : (Str → Option Value) → Heap → Prop} {d : DefRec} {x : Str}
    (hn : l.most = some n) (hn2 : n ≤ sizeLine) (hdf : d.params.defaults = []) (hr : Room (2 * k) callerA) (hm : m.ok = true) (hd : m.defs.all (DD.ok m.T) = true) (kw : ∀ K, KwOk m K)
    (hfi : m.defs[fi]? = some dl) (hfn : fi < m.nf) (hname : dl.at_ = (d.name, none)) (hx : dl.N.take dl.np = [x])
    (plain : ∀ ns : List Int, ns.length ≤ n → (∀ z ∈ ns, Builtin.Int.intBits z ≤ 1048576) → ∃ L, run m.pg k fi [.scr (ns.map LV.int)] L0 = .ok (.bl true) L) :
    PySem.W.WalkO q loose XP (m.hook j).says l.row.toRowW d [] (fun f vs => PySem.call f vs) := by
  refine Att.attach_callB hn hdf fun w s₀ s₁ mg mb fa o pm cd doc a vs ns G Y ho hd2 hcd hmg hobj hints hlen hbits hg => ?_
  obtain ⟨K, KX, c⟩ := Y
  have cd := c.t.d
  have ct := Mo.tab c.t
  have hm' := hm
  obtain ⟨fd, F⟩ := cd.defs (d := dl.dd) (List.mem_map.mpr ⟨dl, List.mem_of_getElem? hfi, rfl⟩)
  have F : FD1 K dl fd := F
  have hpl : plB (dl.N.take dl.np) (defArgs dl.st) = true := by
    simp only [Mo.ok, Bool.and_eq_true, List.all_eq_true] at hm'
    refine (hm'.1.1.1.1.2 dl ?_).2
    have : (m.defs.take m.nf)[fi]? = some dl := by rw [List.getElem?_take_of_lt hfn]; exact hfi
    exact List.mem_of_getElem? this
  have hga : fa = He.fAd K dl.at_ := by
    have g : mg dl.at_.1 = some (.ref (He.ga K dl.at_.1)) := He.glo_ok KX G.T.g (cd.facts (f := .glo dl.at_.1) (by
      simp only [Mo.fas, List.mem_append, List.mem_map]
      refine .inl (.inl (.inl (.inl (.inl (.inl (.inl (.inr ⟨dl, ?_, rfl⟩)))))))
      have : (m.defs.take m.nf)[fi]? = some dl := by rw [List.getElem?_take_of_lt hfn]; exact hfi
      exact List.mem_of_getElem? this))
    rw [hname] at g
    rw [show (d.name, (none : Option Str)).1 = d.name from rfl, hmg] at g
    rw [hname]
    exact Value.ref.inj (Option.some.inj g)
  subst hga
  have hb : ∀ (s : Shared) (u : Value), BindsTo s fd ⟨[u], []⟩ [(x, u)] := fun s u => by
    unfold plB at hpl
    split at hpl
    · rename_i as ea
      have e := of_decide_eq_true hpl
      rw [hx] at e
      have F' : FunD K dl.name dl.qual ⟨[], as, none, [], [], none, []⟩ (defBody dl.st) (defScope dl.st) [] (dl.dd.kws K) (He.fAd K dl.at_) fd := by
        have F2 := F
        unfold FD1 at F2
        rw [ea] at F2
        exact F2
      have b := FunD.bindsA (ps := [x]) F' (fun kV doc pm an cdv ct us hl => by
        have hl2 : us.length = as.length := by
          have := congrArg List.length e
          simp at this
          rw [this]; exact hl
        have := bind_plain (x := dl.name) (qual := dl.qual) (args := as) (body := defBody dl.st) (scope := defScope dl.st) (kV := kV) (doc := doc) (pm := pm) (cdv := cdv) (ct := ct) (an := an) (us := us) (by rw [e]; simp) hl2
        rw [e] at this
        exact this) s [u] rfl
      exact b
    · cases hpl
  refine law_call KX G.T.g G.T.b G.T.builtins G.T.nolimit hg hobj hints (Nat.le_trans hlen hn2) hr (sp := SpL (m.N K) K (run m.pg k fi)) (CX := CX0) (fun base _ _ => ?_) hb (fun H hO hS => ?_) fun H e s' z => z
  · have := Mo.all (P := l.prog) (w := w) (mg := mg) (base := base) hm hd cd c.more ct KX G.T.g (kw K) k fi dl hfi fd F
    rw [hx] at this
    exact this
  · obtain ⟨L, e⟩ := plain ns hlen hbits
    refine ⟨[.scr (ns.map LV.int)], L0, fun _ => none, rep0, Rls.mk (Rl.scr.mpr ⟨a, _, rfl, FzL.of hO hS, Rls.ints⟩) Rls.nil', ?_⟩
    rw [e]
    intro H' ρ' b _ _ _ r
    exact Rl.bl.mp r
/-! ### texts by number -/
theorem cs_inj_of {l : List Str} {d : Str} {i j n : Nat} (nd : l.Nodup) (hn : l.length = n) (h : i < n) (h2 : j < n) : (l.getD i d = l.getD j d) = (i = j) := by
  subst hn
  have e1 : l[i]? = some (l.getD i d) := by rw [List.getD_eq_getElem?_getD, List.getElem?_eq_getElem h]; rfl
  have e2 : l[j]? = some (l.getD j d) := by rw [List.getD_eq_getElem?_getD, List.getElem?_eq_getElem h2]; rfl
  refine propext ⟨fun e => ?_, fun e => by rw [e]⟩
  rw [e] at e1
  exact nd_inj nd e1 e2
theorem cs_beq_of {l : List Str} {d : Str} {i j n : Nat} (nd : l.Nodup) (hn : l.length = n) (h : i < n) (h2 : j < n) : (l.getD i d == l.getD j d) = (i == j) := by
  have := cs_inj_of (d := d) nd hn h h2
  by_cases e : i = j
  · rw [e]; simp
  · have e2 : ¬ (l.getD i d = l.getD j d) := by rw [this]; exact e
    rw [beq_eq_false_iff_ne.mpr e2, beq_eq_false_iff_ne.mpr e]
end LG
end

section
set_option Elab.async false
set_option linter.all false
set_option maxRecDepth 100000
set_option maxHeartbeats 0
namespace K87
open PySem PySem.Spec PyProof.Rows L2 LG
def top (i : Nat) : Stmt := PySem.Challenge.pw_rungstead_k87_whole_long_chains.main.body.getD i (.Pass ⟨0, 0, 0, 0⟩)
/-- the texts:
0 'num'
1 'get'
2 'put'
3 'pace'
4 'pick'
5 'dup'
6 'drop'
7 'bit'
8 'not'
9 'add'
10 'sub'
11 'mul'
12 'min'
13 'max'
14 'lt'
15 'le'
16 'eq'
17 'ne'
18 'ge'
19 'gt'
20 'hop'
21 'hopno'
22 'call'
23 'beat'
24 'back'
25 ''
26 'cell'
27 'form'
28 'height'
29 'end'
30 'size'
31 'table'
32 'plan'
33 'long'
34 'stopped'
35 'cut'
36 'done' -/
def csl : List PySem.Str := (["num", "get", "put", "pace", "pick", "dup", "drop", "bit", "not", "add", "sub", "mul", "min", "max", "lt", "le", "eq", "ne", "ge", "gt", "hop", "hopno", "call", "beat", "back", "", "cell", "form", "height", "end"] : List PySem.Str) ++ (["size", "table", "plan", "long", "stopped", "cut", "done"] : List PySem.Str)
def cs (i : Nat) : PySem.Str := csl.getD i ""
theorem cs_nodup : csl.Nodup := by decide +kernel
@[simp] theorem cs_inj {i j : Nat} (h : i < 37) (h2 : j < 37) : (cs i = cs j) = (i = j) := LG.cs_inj_of cs_nodup rfl h h2
@[simp] theorem cs_beq {i j : Nat} (h : i < 37) (h2 : j < 37) : (cs i == cs j) = (i == j) := LG.cs_beq_of cs_nodup rfl h h2
/-- clamp -/
def d0 : DD where
  at_ := ("clamp", none)
  name := "clamp"
  qual := "clamp"
  st := top 3
  N := ["n"]
  np := 1
  kwd := []
  body :=
  (.cons (.ifs (.cmp .lt (.var 0) (.glo 1))
   (.cons (.ret (.glo 1))
   .nil)
   .nil)
  (.cons (.ifs (.cmp .gt (.var 0) (.glo 0))
   (.cons (.ret (.glo 0))
   .nil)
   .nil)
  (.cons (.ret (.var 0))
  .nil)))
/-- saturate -/
def d1 : DD where
  at_ := ("saturate", none)
  name := "saturate"
  qual := "saturate"
  st := top 4
  N := ["n", "top"]
  np := 2
  kwd := []
  body :=
  (.cons (.ifs (.cmp .lt (.var 0) (.con (.int 0)))
   (.cons (.ret (.con (.int 0)))
   .nil)
   .nil)
  (.cons (.ifs (.cmp .gt (.var 0) (.var 1))
   (.cons (.ret (.var 1))
   .nil)
   .nil)
  (.cons (.ret (.var 0))
  .nil)))
/-- argument_count -/
def d2 : DD where
  at_ := ("argument_count", none)
  name := "argument_count"
  qual := "argument_count"
  st := top 13
  N := ["name"]
  np := 1
  kwd := []
  body :=
  (.cons (.ret (.kget 0 (.var 0) (.con (.int 0))))
  .nil)
/-- taken -/
def d3 : DD where
  at_ := ("taken", none)
  name := "taken"
  qual := "taken"
  st := top 14
  N := ["name"]
  np := 1
  kwd := []
  body :=
  (.cons (.ifs (.cmp .inn (.var 0) (.glo 3))
   (.cons (.ret (.con (.int 2)))
   .nil)
   .nil)
  (.cons (.ifs (.ors (.cons (.cmp .inn (.var 0) (.glo 4)) (.cons (.cmp .inn (.var 0) (.tup (.cons (.con (.str (cs 2))) (.cons (.con (.str (cs 6))) (.cons (.con (.str (cs 21))) .nil))))) .nil)))
   (.cons (.ret (.con (.int 1)))
   .nil)
   .nil)
  (.cons (.ret (.con (.int 0)))
  .nil)))
/-- pushed -/
def d4 : DD where
  at_ := ("pushed", none)
  name := "pushed"
  qual := "pushed"
  st := top 15
  N := ["name"]
  np := 1
  kwd := []
  body :=
  (.cons (.ifs (.ors (.cons (.cmp .inn (.var 0) (.glo 3)) (.cons (.cmp .inn (.var 0) (.glo 4)) (.cons (.cmp .inn (.var 0) (.glo 5)) .nil))))
   (.cons (.ret (.con (.int 1)))
   .nil)
   .nil)
  (.cons (.ret (.con (.int 0)))
  .nil))
/-- comparison_holds -/
def d5 : DD where
  at_ := ("comparison_holds", none)
  name := "comparison_holds"
  qual := "comparison_holds"
  st := top 16
  N := ["name", "x", "y"]
  np := 3
  kwd := []
  body :=
  (.cons (.ifs (.cmp .eq (.var 0) (.con (.str (cs 14))))
   (.cons (.ret (.cmp .lt (.var 1) (.var 2)))
   .nil)
   .nil)
  (.cons (.ifs (.cmp .eq (.var 0) (.con (.str (cs 15))))
   (.cons (.ret (.cmp .le (.var 1) (.var 2)))
   .nil)
   .nil)
  (.cons (.ifs (.cmp .eq (.var 0) (.con (.str (cs 16))))
   (.cons (.ret (.cmp .eq (.var 1) (.var 2)))
   .nil)
   .nil)
  (.cons (.ifs (.cmp .eq (.var 0) (.con (.str (cs 17))))
   (.cons (.ret (.cmp .ne (.var 1) (.var 2)))
   .nil)
   .nil)
  (.cons (.ifs (.cmp .eq (.var 0) (.con (.str (cs 18))))
   (.cons (.ret (.cmp .ge (.var 1) (.var 2)))
   .nil)
   .nil)
  (.cons (.ret (.cmp .gt (.var 1) (.var 2)))
  .nil))))))
/-- binary_value -/
def d6 : DD where
  at_ := ("binary_value", none)
  name := "binary_value"
  qual := "binary_value"
  st := top 17
  N := ["name", "x", "y"]
  np := 3
  kwd := []
  body :=
  (.cons (.ifs (.cmp .eq (.var 0) (.con (.str (cs 9))))
   (.cons (.ret (.call 0 (.cons (.bin .add (.var 1) (.var 2)) .nil)))
   .nil)
   .nil)
  (.cons (.ifs (.cmp .eq (.var 0) (.con (.str (cs 10))))
   (.cons (.ret (.call 0 (.cons (.bin .sub (.var 1) (.var 2)) .nil)))
   .nil)
   .nil)
  (.cons (.ifs (.cmp .eq (.var 0) (.con (.str (cs 11))))
   (.cons (.ret (.call 0 (.cons (.bin .mul (.var 1) (.var 2)) .nil)))
   .nil)
   .nil)
  (.cons (.ifs (.cmp .eq (.var 0) (.con (.str (cs 12))))
   (.cons (.ret (.ite (.cmp .lt (.var 1) (.var 2)) (.var 1) (.var 2)))
   .nil)
   .nil)
  (.cons (.ifs (.cmp .eq (.var 0) (.con (.str (cs 13))))
   (.cons (.ret (.ite (.cmp .gt (.var 1) (.var 2)) (.var 1) (.var 2)))
   .nil)
   .nil)
  (.cons (.ret (.ite (.call 5 (.cons (.var 0) (.cons (.var 1) (.cons (.var 2) .nil)))) (.con (.int 1)) (.con (.int 0))))
  .nil))))))
/-- unary_value -/
def d7 : DD where
  at_ := ("unary_value", none)
  name := "unary_value"
  qual := "unary_value"
  st := top 18
  N := ["name", "x"]
  np := 2
  kwd := []
  body :=
  (.cons (.ifs (.cmp .eq (.var 0) (.con (.str (cs 7))))
   (.cons (.ret (.ite (.cmp .ge (.var 1) (.con (.int 1))) (.con (.int 1)) (.con (.int 0))))
   .nil)
   .nil)
  (.cons (.ret (.ite (.cmp .ge (.var 1) (.con (.int 1))) (.con (.int 0)) (.con (.int 1))))
  .nil))
/-- can_execute -/
def d8 : DD where
  at_ := ("can_execute", none)
  name := "can_execute"
  qual := "can_execute"
  st := top 25
  N := ["instruction", "height", "peaks", "name"]
  np := 3
  kwd := []
  body :=
  (.cons (.set 3 (.idx (.var 0) (.con (.int 0))))
  (.cons (.ifs (.cmp .eq (.var 3) (.con (.str (cs 5))))
   (.cons (.ret (.cmp .ge (.var 1) (.con (.int 1))))
   .nil)
   .nil)
  (.cons (.ifs (.cmp .eq (.var 3) (.con (.str (cs 4))))
   (.cons (.ret (.cmp .lt (.idx (.var 0) (.con (.int 1))) (.var 1)))
   .nil)
   .nil)
  (.cons (.ifs (.cmp .eq (.var 3) (.con (.str (cs 24))))
   (.cons (.ret (.cmp .eq (.var 1) (.con (.int 0))))
   .nil)
   .nil)
  (.cons (.ifs (.cmp .eq (.var 3) (.con (.str (cs 22))))
   (.cons (.ret (.cmp .le (.bin .add (.var 1) (.idx (.var 2) (.idx (.var 0) (.con (.int 1))))) (.glo 8)))
   .nil)
   .nil)
  (.cons (.ret (.cmp .le (.call 3 (.cons (.var 3) .nil)) (.var 1)))
  .nil))))))
/-- call_fits -/
def d9 : DD where
  at_ := ("call_fits", none)
  name := "call_fits"
  qual := "call_fits"
  st := top 31
  N := ["image", "segment", "instruction", "table", "called", "tables", "segments", "_", "callee", "shift"]
  np := 3
  kwd := []
  body :=
  (.cons (.unp [5, 6, 7] (.var 0))
  (.cons (.par 8 9 (.idx (.var 2) (.con (.int 1))) (.idx (.var 2) (.con (.int 2))))
  (.cons (.ifs (.cmp .ge (.var 8) (.var 1))
   (.cons (.ret (.con (.bl false)))
   .nil)
   .nil)
  (.cons (.set 3 (.idx (.var 5) (.idx (.idx (.var 6) (.var 1)) (.con (.int 0)))))
  (.cons (.set 4 (.idx (.var 5) (.idx (.idx (.var 6) (.var 8)) (.con (.int 0)))))
  (.cons (.ret (.cmp .eq (.slc (.var 3) (.var 9) (.bin .add (.var 9) (.bf .len (.cons (.var 4) .nil)))) (.var 4)))
  .nil))))))
/-- instruction_word -/
def d10 : DD where
  at_ := ("instruction_word", none)
  name := "instruction_word"
  qual := "instruction_word"
  st := top 32
  N := ["image", "segment", "index", "instruction", "name", "number", "code"]
  np := 3
  kwd := []
  body :=
  (.cons (.unp [5, 6] (.idx (.idx (.var 0) (.con (.int 1))) (.var 1)))
  (.cons (.set 3 (.idx (.var 6) (.var 2)))
  (.cons (.set 4 (.idx (.var 3) (.con (.int 0))))
  (.cons (.ifs (.ands (.cons (.cmp .eq (.var 4) (.con (.str (cs 0)))) (.cons (.cmp .gt (.idx (.var 3) (.con (.int 1))) (.glo 11)) .nil)))
   (.cons (.ret (.con (.str (cs 27))))
   .nil)
   .nil)
  (.cons (.ifs (.ands (.cons (.cmp .eq (.var 4) (.con (.str (cs 23)))) (.cons (.not (.chn .le .le (.con (.int 1)) (.idx (.var 3) (.con (.int 1))) (.glo 7))) .nil)))
   (.cons (.ret (.con (.str (cs 27))))
   .nil)
   .nil)
  (.cons (.ifs (.ands (.cons (.cmp .inn (.var 4) (.tup (.cons (.con (.str (cs 1))) (.cons (.con (.str (cs 2))) .nil)))) (.cons (.cmp .ge (.idx (.var 3) (.con (.int 1))) (.bf .len (.cons (.idx (.idx (.var 0) (.con (.int 0))) (.var 5)) .nil))) .nil)))
   (.cons (.ret (.con (.str (cs 26))))
   .nil)
   .nil)
  (.cons (.ifs (.ands (.cons (.cmp .inn (.var 4) (.glo 6)) (.cons (.cmp .ge (.bin .add (.bin .add (.var 2) (.con (.int 1))) (.idx (.var 3) (.con (.int 1)))) (.bf .len (.cons (.var 6) .nil))) .nil)))
   (.cons (.ret (.con (.str (cs 20))))
   .nil)
   .nil)
  (.cons (.ifs (.ands (.cons (.cmp .eq (.var 4) (.con (.str (cs 22)))) (.cons (.not (.call 9 (.cons (.var 0) (.cons (.var 1) (.cons (.var 3) .nil))))) .nil)))
   (.cons (.ret (.con (.str (cs 22))))
   .nil)
   .nil)
  (.cons (.ret (.con (.str (cs 25))))
  .nil)))))))))
/-- code_finding -/
def d11 : DD where
  at_ := ("code_finding", none)
  name := "code_finding"
  qual := "code_finding"
  st := top 33
  N := ["image", "segment", "heights", "index", "word"]
  np := 3
  kwd := []
  body :=
  (.cons (.for (.name 3) (.rng1 (.bf .len (.cons (.idx (.idx (.idx (.var 0) (.con (.int 1))) (.var 1)) (.con (.int 1))) .nil)))
   (.cons (.set 4 (.call 10 (.cons (.var 0) (.cons (.var 1) (.cons (.var 3) .nil)))))
   (.cons (.ifs (.ands (.cons (.cmp .eq (.var 4) (.con (.str (cs 25)))) (.cons (.not (.meth (.var 2) 0 (.cons (.var 3) .nil))) .nil)))
    (.cons (.set 4 (.con (.str (cs 28))))
    .nil)
    .nil)
   (.cons (.ifs (.cmp .ne (.var 4) (.con (.str (cs 25))))
    (.cons (.ret (.tup (.cons (.var 1) (.cons (.var 3) (.cons (.var 4) .nil)))))
    .nil)
    .nil)
   .nil))))
  (.cons (.ret (.con .non))
  .nil))
/-- outer_finding -/
def d12 : DD where
  at_ := ("outer_finding", none)
  name := "outer_finding"
  qual := "outer_finding"
  st := top 34
  N := ["image", "segment", "number", "code"]
  np := 2
  kwd := []
  body :=
  (.cons (.unp [2, 3] (.idx (.idx (.var 0) (.con (.int 1))) (.var 1)))
  (.cons (.ifs (.cmp .ge (.var 2) (.bf .len (.cons (.idx (.var 0) (.con (.int 0))) .nil)))
   (.cons (.ret (.tup (.cons (.var 1) (.cons (.neg (.con (.int 1))) (.cons (.con (.str (cs 31))) .nil)))))
   .nil)
   .nil)
  (.cons (.ifs (.ors (.cons (.cmp .eq (.bf .len (.cons (.var 3) .nil)) (.con (.int 0))) (.cons (.cmp .gt (.bf .len (.cons (.var 3) .nil)) (.glo 9)) .nil)))
   (.cons (.ret (.tup (.cons (.var 1) (.cons (.neg (.con (.int 1))) (.cons (.con (.str (cs 30))) .nil)))))
   .nil)
   .nil)
  (.cons (.ifs (.cmp .ne (.idx (.idx (.var 3) (.neg (.con (.int 1)))) (.con (.int 0))) (.con (.str (cs 24))))
   (.cons (.ret (.tup (.cons (.var 1) (.cons (.bin .sub (.bf .len (.cons (.var 3) .nil)) (.con (.int 1))) (.cons (.con (.str (cs 29))) .nil)))))
   .nil)
   .nil)
  (.cons (.ret (.con .non))
  .nil)))))
/-- step_bound -/
def d13 : DD where
  at_ := ("step_bound", none)
  name := "step_bound"
  qual := "step_bound"
  st := top 35
  N := ["code", "bounds", "instruction"]
  np := 2
  kwd := []
  body :=
  (.cons (.ret (.bin .add (.bf .len (.cons (.var 0) .nil)) (.bf .sum (.cons (.comp [2] (.name 2) (.seq (.var 0)) (some ()) (.cmp .eq (.idx (.var 2) (.con (.int 0))) (.con (.str (cs 22)))) (.idx (.var 1) (.idx (.var 2) (.con (.int 1))))) .nil))))
  .nil)
/-- audit -/
def d14 : DD where
  at_ := ("audit", none)
  name := "audit"
  qual := "audit"
  st := top 36
  N := ["image", "peaks", "bounds", "segment", "finding", "code", "heights", "numbers", "number"]
  np := 1
  kwd := []
  body :=
  (.cons (.set 1 (.lst .nil))
  (.cons (.set 2 (.lst .nil))
  (.cons (.for (.name 3) (.rng1 (.bf .len (.cons (.idx (.var 0) (.con (.int 1))) .nil)))
   (.cons (.set 4 (.call 12 (.cons (.var 0) (.cons (.var 3) .nil))))
   (.cons (.ifs (.cmp .notn (.var 4) (.con .non))
    (.cons (.ret (.var 4))
    .nil)
    .nil)
   (.cons (.set 5 (.idx (.idx (.idx (.var 0) (.con (.int 1))) (.var 3)) (.con (.int 1))))
   (.cons (.set 6 (.make 2 (.cons (.var 5) (.cons (.var 1) .nil))))
   (.cons (.set 4 (.call 11 (.cons (.var 0) (.cons (.var 3) (.cons (.var 6) .nil)))))
   (.cons (.ifs (.cmp .notn (.var 4) (.con .non))
    (.cons (.ret (.var 4))
    .nil)
    .nil)
   (.cons (.expr (.bm .lappend (.var 1) (.cons (.fld (.var 6) 1) .nil)))
   (.cons (.expr (.bm .lappend (.var 2) (.cons (.call 13 (.cons (.var 5) (.cons (.var 2) .nil))) .nil)))
   (.cons (.ifs (.cmp .gt (.idx (.var 2) (.neg (.con (.int 1)))) (.glo 10))
    (.cons (.ret (.tup (.cons (.var 3) (.cons (.neg (.con (.int 1))) (.cons (.con (.str (cs 33))) .nil)))))
    .nil)
    .nil)
   .nil))))))))))
  (.cons (.ifs (.bf .any (.cons (.comp2 [7, 8] [8] (.name 7) (.seq (.idx (.var 0) (.con (.int 2)))) (.name 8) (.seq (.var 7)) (.cmp .ge (.var 8) (.bf .len (.cons (.idx (.var 0) (.con (.int 1))) .nil)))) .nil))
   (.cons (.ret (.tup (.cons (.neg (.con (.int 1))) (.cons (.neg (.con (.int 1))) (.cons (.con (.str (cs 32))) .nil)))))
   .nil)
   .nil)
  (.cons (.ret (.con .non))
  .nil)))))
/-- step_bounds -/
def d15 : DD where
  at_ := ("step_bounds", none)
  name := "step_bounds"
  qual := "step_bounds"
  st := top 37
  N := ["image", "bounds", "segment"]
  np := 1
  kwd := []
  body :=
  (.cons (.set 1 (.lst .nil))
  (.cons (.for (.name 2) (.seq (.idx (.var 0) (.con (.int 1))))
   (.cons (.expr (.bm .lappend (.var 1) (.cons (.call 13 (.cons (.idx (.var 2) (.con (.int 1))) (.cons (.var 1) .nil))) .nil)))
   .nil))
  (.cons (.ret (.bf .tuple (.cons (.var 1) .nil)))
  .nil)))
/-- groups -/
def d16 : DD where
  at_ := ("groups", none)
  name := "groups"
  qual := "groups"
  st := top 43
  N := ["number", "data"]
  np := 1
  kwd := []
  body :=
  (.cons (.set 1 (.lst .nil))
  (.cons (.while (.cmp .ge (.var 0) (.con (.int 128)))
   (.cons (.expr (.bm .lappend (.var 1) (.cons (.bin .add (.bin .mod (.var 0) (.con (.int 128))) (.con (.int 128))) .nil)))
   (.cons (.set 0 (.bin .fdiv (.var 0) (.con (.int 128))))
   .nil)))
  (.cons (.ret (.bin .add (.var 1) (.lst (.cons (.var 0) .nil))))
  .nil)))
/-- table_numbers -/
def d17 : DD where
  at_ := ("table_numbers", none)
  name := "table_numbers"
  qual := "table_numbers"
  st := top 44
  N := ["table", "numbers", "top", "kept"]
  np := 1
  kwd := []
  body :=
  (.cons (.set 1 (.lst (.cons (.bf .len (.cons (.var 0) .nil)) .nil)))
  (.cons (.for (.tup [2, 3]) (.seq (.var 0))
   (.cons (.expr (.bm .lextend (.var 1) (.cons (.lst (.cons (.var 2) (.cons (.ite (.var 3) (.con (.int 1)) (.con (.int 0))) .nil))) .nil)))
   .nil))
  (.cons (.ret (.var 1))
  .nil)))
/-- segment_numbers -/
def d18 : DD where
  at_ := ("segment_numbers", none)
  name := "segment_numbers"
  qual := "segment_numbers"
  st := top 45
  N := ["segment", "numbers", "instruction", "table", "code"]
  np := 1
  kwd := []
  body :=
  (.cons (.unp [3, 4] (.var 0))
  (.cons (.set 1 (.lst (.cons (.var 3) (.cons (.bf .len (.cons (.var 4) .nil)) .nil))))
  (.cons (.for (.name 2) (.seq (.var 4))
   (.cons (.expr (.bm .lappend (.var 1) (.cons (.gidx 2 (.idx (.var 2) (.con (.int 0)))) .nil)))
   (.cons (.expr (.bm .lextend (.var 1) (.cons (.slc (.var 2) (.con (.int 1)) (.con .non)) .nil)))
   .nil)))
  (.cons (.ret (.var 1))
  .nil))))
/-- pack_image -/
def d19 : DD where
  at_ := ("pack_image", none)
  name := "pack_image"
  qual := "pack_image"
  st := top 46
  N := ["image", "numbers", "table", "segment", "entry", "data", "number", "tables", "segments", "plan"]
  np := 1
  kwd := []
  body :=
  (.cons (.unp [7, 8, 9] (.var 0))
  (.cons (.set 1 (.lst (.cons (.bf .len (.cons (.var 7) .nil)) .nil)))
  (.cons (.for (.name 2) (.seq (.var 7))
   (.cons (.expr (.bm .lextend (.var 1) (.cons (.call 17 (.cons (.var 2) .nil)) .nil)))
   .nil))
  (.cons (.expr (.bm .lappend (.var 1) (.cons (.bf .len (.cons (.var 8) .nil)) .nil)))
  (.cons (.for (.name 3) (.seq (.var 8))
   (.cons (.expr (.bm .lextend (.var 1) (.cons (.call 18 (.cons (.var 3) .nil)) .nil)))
   .nil))
  (.cons (.expr (.bm .lappend (.var 1) (.cons (.bf .len (.cons (.var 9) .nil)) .nil)))
  (.cons (.for (.name 4) (.seq (.var 9))
   (.cons (.expr (.bm .lextend (.var 1) (.cons (.bin .add (.lst (.cons (.bf .len (.cons (.var 4) .nil)) .nil)) (.bf .list (.cons (.var 4) .nil))) .nil)))
   .nil))
  (.cons (.set 5 (.lst (.cons (.glo 12) .nil)))
  (.cons (.for (.name 6) (.seq (.var 1))
   (.cons (.expr (.bm .lextend (.var 5) (.cons (.call 16 (.cons (.var 6) .nil)) .nil)))
   .nil))
  (.cons (.ret (.bin .add (.var 5) (.lst (.cons (.bin .mod (.bf .sum (.cons (.var 5) .nil)) (.con (.int 256))) .nil))))
  .nil))))))))))
/-- unpack_image -/
def d20 : DD where
  at_ := ("unpack_image", none)
  name := "unpack_image"
  qual := "unpack_image"
  st := top 48
  N := ["data", "reader", "tables", "segments", "plan", "_"]
  np := 1
  kwd := []
  body :=
  (.cons (.ifs (.cmp .lt (.bf .len (.cons (.var 0) .nil)) (.con (.int 2)))
   (.cons .never
   .nil)
   .nil)
  (.cons (.ifs (.cmp .ne (.idx (.var 0) (.con (.int 0))) (.glo 12))
   (.cons .never
   .nil)
   .nil)
  (.cons (.ifs (.cmp .ne (.bin .mod (.bf .sum (.cons (.slc (.var 0) (.con .non) (.neg (.con (.int 1)))) .nil)) (.con (.int 256))) (.idx (.var 0) (.neg (.con (.int 1)))))
   (.cons .never
   .nil)
   .nil)
  (.cons (.set 1 (.make 3 (.cons (.var 0) .nil)))
  (.cons (.set 2 (.bf .tuple (.cons (.comp [5] (.name 5) (.rng1 (.meth (.var 1) 4 .nil)) none .dct0 (.meth (.var 1) 7 .nil)) .nil)))
  (.cons (.set 3 (.bf .tuple (.cons (.comp [5] (.name 5) (.rng1 (.meth (.var 1) 4 .nil)) none .dct0 (.meth (.var 1) 6 .nil)) .nil)))
  (.cons (.set 4 (.bf .tuple (.cons (.comp [5] (.name 5) (.rng1 (.meth (.var 1) 4 .nil)) none .dct0 (.meth (.var 1) 5 .nil)) .nil)))
  (.cons (.ifs (.cmp .lt (.fld (.var 1) 2) (.fld (.var 1) 3))
   (.cons .never
   .nil)
   .nil)
  (.cons (.ret (.tup (.cons (.var 2) (.cons (.var 3) (.cons (.var 4) .nil)))))
  .nil)))))))))
/-- load_image -/
def d21 : DD where
  at_ := ("load_image", none)
  name := "load_image"
  qual := "load_image"
  st := top 49
  N := ["data", "image"]
  np := 1
  kwd := []
  body :=
  (.cons (.set 1 (.call 20 (.cons (.var 0) .nil)))
  (.cons (.ifs (.cmp .notn (.call 14 (.cons (.var 1) .nil)) (.con .non))
   (.cons .never
   .nil)
   .nil)
  (.cons (.ret (.var 1))
  .nil)))
/-- _law_bag -/
def d22 : DD where
  at_ := ("_law_bag", none)
  name := "_law_bag"
  qual := "_law_bag"
  st := top 51
  N := ["script", "at", "cell"]
  np := 2
  kwd := []
  body :=
  (.cons (.set 2 (.con (.int 0)))
  (.cons (.ifs (.cmp .lt (.var 1) (.bf .len (.cons (.var 0) .nil)))
   (.cons (.set 2 (.idx (.var 0) (.var 1)))
   .nil)
   .nil)
  (.cons (.ifs (.cmp .lt (.var 2) (.con (.int 0)))
   (.cons (.set 2 (.bin .sub (.con (.int 1)) (.bin .mul (.con (.int 2)) (.var 2))))
   .nil)
   .nil)
  (.cons (.ifs (.cmp .ge (.var 2) (.bin .pow (.con (.int 10)) (.con (.int 18))))
   (.cons (.ret (.lst (.cons (.bin .sub (.var 2) (.bin .pow (.con (.int 10)) (.con (.int 18)))) (.cons (.var 1) (.cons (.con (.int 1)) .nil)))))
   .nil)
   .nil)
  (.cons (.ret (.lst (.cons (.var 2) (.cons (.var 1) (.cons (.con (.int 0)) .nil)))))
  .nil)))))
/-- _law_take -/
def d23 : DD where
  at_ := ("_law_take", none)
  name := "_law_take"
  qual := "_law_take"
  st := top 52
  N := ["bag", "many", "one", "two", "three", "digit"]
  np := 2
  kwd := []
  body :=
  (.cons (.ifs (.ands (.cons (.cmp .eq (.idx (.var 0) (.con (.int 2))) (.con (.int 1))) (.cons (.cmp .gt (.idx (.var 0) (.con (.int 0))) (.con (.int 1))) .nil)))
   (.cons (.set 5 (.bin .mod (.bf .int (.cons (.idx (.var 0) (.con (.int 0))) .nil)) (.var 1)))
   (.cons (.seti (.var 0) (.con (.int 0)) (.bin .fdiv (.idx (.var 0) (.con (.int 0))) (.var 1)))
   (.cons (.ret (.var 5))
   .nil)))
   .nil)
  (.cons (.seti (.var 0) (.con (.int 1)) (.bin .add (.idx (.var 0) (.con (.int 1))) (.con (.int 1))))
  (.cons (.set 2 (.bin .mod (.bf .int (.cons (.bin .add (.bin .add (.bin .mul (.idx (.var 0) (.con (.int 0))) (.con (.int 48271))) (.bin .mul (.idx (.var 0) (.con (.int 1))) (.con (.int 69621)))) (.con (.int 12345))) .nil)) (.con (.int 2147483647))))
  (.cons (.set 3 (.bin .mod (.bf .int (.cons (.bin .add (.bin .mul (.var 2) (.var 2)) (.bin .mul (.idx (.var 0) (.con (.int 1))) (.con (.int 40692)))) .nil)) (.con (.int 2147483399))))
  (.cons (.set 4 (.bin .mod (.bf .int (.cons (.bin .add (.bin .mul (.var 3) (.var 3)) (.var 2)) .nil)) (.con (.int 1000000007))))
  (.cons (.ret (.bin .mod (.bf .int (.cons (.bin .fdiv (.var 4) (.con (.int 7))) .nil)) (.var 1)))
  .nil))))))
/-- _law_pick -/
def d24 : DD where
  at_ := ("_law_pick", none)
  name := "_law_pick"
  qual := "_law_pick"
  st := top 53
  N := ["bag", "menu"]
  np := 2
  kwd := []
  body :=
  (.cons (.ret (.idx (.var 1) (.call 23 (.cons (.var 0) (.cons (.bf .len (.cons (.var 1) .nil)) .nil)))))
  .nil)
/-- _law_same -/
def d25 : DD where
  at_ := ("_law_same", none)
  name := "_law_same"
  qual := "_law_same"
  st := top 54
  N := ["got", "due", "k"]
  np := 2
  kwd := []
  body :=
  (.cons (.ifs (.ors (.cons (.isin (.var 1) [.tuple]) (.cons (.isin (.var 1) [.list]) .nil)))
   (.cons (.ifs (.ors (.cons (.cmp .ne (.isin (.var 1) [.tuple]) (.isin (.var 0) [.tuple])) (.cons (.cmp .ne (.isin (.var 1) [.list]) (.isin (.var 0) [.list])) .nil)))
    (.cons (.ret (.con (.bl false)))
    .nil)
    .nil)
   (.cons (.ifs (.cmp .ne (.bf .len (.cons (.var 0) .nil)) (.bf .len (.cons (.var 1) .nil)))
    (.cons (.ret (.con (.bl false)))
    .nil)
    .nil)
   (.cons (.for (.name 2) (.rng1 (.bf .len (.cons (.var 1) .nil)))
    (.cons (.ifs (.not (.call 25 (.cons (.idx (.var 0) (.var 2)) (.cons (.idx (.var 1) (.var 2)) .nil))))
     (.cons (.ret (.con (.bl false)))
     .nil)
     .nil)
    .nil))
   (.cons (.ret (.con (.bl true)))
   .nil))))
   .nil)
  (.cons (.ifs (.ors (.cons (.isin (.var 1) [.bool]) (.cons (.isin (.var 0) [.bool]) .nil)))
   (.cons (.ret (.ands (.cons (.isin (.var 1) [.bool]) (.cons (.isin (.var 0) [.bool]) (.cons (.cmp .eq (.var 0) (.var 1)) .nil)))))
   .nil)
   .nil)
  (.cons (.ifs (.isin (.var 1) [.int])
   (.cons (.ret (.ands (.cons (.isin (.var 0) [.int]) (.cons (.cmp .eq (.var 0) (.var 1)) .nil))))
   .nil)
   .nil)
  (.cons (.ifs (.isin (.var 1) [.str])
   (.cons (.ret (.ands (.cons (.isin (.var 0) [.str]) (.cons (.cmp .eq (.var 0) (.var 1)) .nil))))
   .nil)
   .nil)
  (.cons (.ret (.ands (.cons (.cmp .isn (.var 0) (.con .non)) (.cons (.cmp .isn (.var 1) (.con .non)) .nil))))
  .nil)))))
/-- law -/
def d26 : DD where
  at_ := ("law", none)
  name := "law"
  qual := "law"
  st := top 55
  N := ["script", "bag", "many", "top", "kept", "more", "worth", "add", "segments", "k", "image", "old", "new", "sums", "cut_at", "beats", "j", "here"]
  np := 1
  kwd := []
  body :=
  (.cons (.set 1 (.call 22 (.cons (.var 0) (.cons (.con (.int 0)) .nil))))
  (.cons (.set 2 (.call 24 (.cons (.var 1) (.cons (.lst (.cons (.bin .add (.con (.int 1)) (.call 23 (.cons (.var 1) (.cons (.con (.int 30)) .nil)))) (.cons (.bin .add (.con (.int 2)) (.call 23 (.cons (.var 1) (.cons (.con (.int 29)) .nil)))) (.cons (.bin .add (.con (.int 31)) (.call 23 (.cons (.var 1) (.cons (.con (.int 70)) .nil)))) (.cons (.bin .add (.con (.int 101)) (.call 23 (.cons (.var 1) (.cons (.con (.int 900)) .nil)))) (.cons (.bin .add (.con (.int 1001)) (.call 23 (.cons (.var 1) (.cons (.con (.int 1000)) .nil)))) .nil)))))) .nil))))
  (.cons (.set 3 (.call 24 (.cons (.var 1) (.cons (.lst (.cons (.con (.int 1)) (.cons (.bin .add (.con (.int 1)) (.call 23 (.cons (.var 1) (.cons (.con (.int 999)) .nil)))) (.cons (.con (.int 2097151)) .nil)))) .nil))))
  (.cons (.set 4 (.cmp .eq (.call 23 (.cons (.var 1) (.cons (.con (.int 2)) .nil))) (.con (.int 0))))
  (.cons (.set 5 (.call 24 (.cons (.var 1) (.cons (.lst (.cons (.con (.int 1)) (.cons (.con (.int 0)) (.cons (.bin .add (.con (.int 1)) (.call 23 (.cons (.var 1) (.cons (.con (.int 999)) .nil)))) .nil)))) .nil))))
  (.cons (.set 6 (.call 24 (.cons (.var 1) (.cons (.lst (.cons (.con (.int 1)) (.cons (.con (.int 999)) (.cons (.con (.int 1)) (.cons (.bin .add (.con (.int 1)) (.call 23 (.cons (.var 1) (.cons (.con (.int 999)) .nil)))) .nil))))) .nil))))
  (.cons (.set 7 (.tup (.cons (.tup (.cons (.con (.str (cs 1))) (.cons (.con (.int 0)) .nil))) (.cons (.tup (.cons (.con (.str (cs 0))) (.cons (.var 5) .nil))) (.cons (.tup (.cons (.con (.str (cs 9))) .nil)) (.cons (.tup (.cons (.con (.str (cs 2))) (.cons (.con (.int 0)) .nil))) .nil))))))
  (.cons (.set 8 (.lst (.cons (.tup (.cons (.con (.int 0)) (.cons (.bin .add (.var 7) (.tup (.cons (.tup (.cons (.con (.str (cs 23))) (.cons (.var 6) .nil))) (.cons (.tup (.cons (.con (.str (cs 24))) .nil)) .nil)))) .nil))) .nil)))
  (.cons (.for (.name 9) (.rng1 (.bin .sub (.var 2) (.con (.int 1))))
   (.cons (.expr (.bm .lappend (.var 8) (.cons (.tup (.cons (.con (.int 0)) (.cons (.bin .add (.var 7) (.tup (.cons (.tup (.cons (.con (.str (cs 22))) (.cons (.var 9) (.cons (.con (.int 0)) .nil)))) (.cons (.tup (.cons (.con (.str (cs 23))) (.cons (.var 6) .nil))) (.cons (.tup (.cons (.con (.str (cs 24))) .nil)) .nil))))) .nil))) .nil)))
   .nil))
  (.cons (.set 10 (.tup (.cons (.tup (.cons (.tup (.cons (.tup (.cons (.var 3) (.cons (.var 4) .nil))) .nil)) .nil)) (.cons (.bf .tuple (.cons (.var 8) .nil)) (.cons (.tup (.cons (.tup (.cons (.bin .sub (.var 2) (.con (.int 1))) .nil)) .nil)) .nil)))))
  (.cons (.set 11 (.call 24 (.cons (.var 1) (.cons (.lst (.cons (.con (.int 0)) (.cons (.var 3) (.cons (.call 23 (.cons (.var 1) (.cons (.bin .add (.var 3) (.con (.int 1))) .nil))) .nil)))) .nil))))
  (.cons (.set 12 (.var 11))
  (.cons (.set 13 (.lst (.cons (.var 11) .nil)))
  (.cons (.for (.name 9) (.rng1 (.var 2))
   (.cons (.set 12 (.bf .min (.cons (.var 3) (.cons (.bf .min (.cons (.con (.int 999999)) (.cons (.bin .add (.var 12) (.var 5)) .nil))) .nil))))
   (.cons (.expr (.bm .lappend (.var 13) (.cons (.var 12) .nil)))
   .nil)))
  (.cons (.ifs (.ors (.cons (.cmp .notn (.call 14 (.cons (.var 10) .nil)) (.con .non)) (.cons (.not (.call 25 (.cons (.call 15 (.cons (.var 10) .nil)) (.cons (.bf .tuple (.cons (.comp [9] (.name 9) (.rng1 (.var 2)) none .dct0 (.bin .add (.bin .mul (.con (.int 7)) (.var 9)) (.con (.int 6)))) .nil)) .nil)))) .nil)))
   (.cons (.ret (.con (.bl false)))
   .nil)
   .nil)
  (.cons (.ifs (.not (.call 25 (.cons (.callk 27 (.cons (.var 10) (.cons (.bin .sub (.var 2) (.con (.int 1))) (.cons (.tup (.cons (.var 11) .nil)) .nil))) [] .nil) (.cons (.tup (.cons (.tup (.cons (.var 12) .nil)) (.cons (.bin .mul (.var 2) (.var 6)) (.cons (.bin .sub (.bin .mul (.con (.int 7)) (.var 2)) (.con (.int 1))) (.cons (.con (.str (cs 36))) .nil))))) .nil))))
   (.cons (.ret (.con (.bl false)))
   .nil)
   .nil)
  (.cons (.set 14 (.bin .add (.con (.int 1)) (.call 23 (.cons (.var 1) (.cons (.bin .mul (.var 2) (.var 6)) .nil)))))
  (.cons (.set 15 (.bin .fdiv (.bin .sub (.bin .add (.var 14) (.var 6)) (.con (.int 1))) (.var 6)))
  (.cons (.ifs (.not (.call 25 (.cons (.callk 27 (.cons (.var 10) (.cons (.bin .sub (.var 2) (.con (.int 1))) (.cons (.tup (.cons (.var 11) .nil)) .nil))) [9] (.cons (.var 14) .nil)) (.cons (.tup (.cons (.tup (.cons (.var 12) .nil)) (.cons (.bin .mul (.var 15) (.var 6)) (.cons (.bin .sub (.bin .add (.bin .mul (.con (.int 5)) (.var 2)) (.bin .mul (.con (.int 2)) (.var 15))) (.con (.int 2))) (.cons (.con (.str (cs 35))) .nil))))) .nil))))
   (.cons (.ret (.con (.bl false)))
   .nil)
   .nil)
  (.cons (.set 16 (.call 23 (.cons (.var 1) (.cons (.bin .mul (.con (.int 5)) (.var 2)) .nil))))
  (.cons (.set 17 (.var 11))
  (.cons (.ifs (.not (.var 4))
   (.cons (.set 17 (.idx (.var 13) (.bin .fdiv (.bf .int (.cons (.bin .add (.var 16) (.con (.int 1))) .nil)) (.con (.int 5)))))
   .nil)
   .nil)
  (.cons (.ifs (.not (.call 25 (.cons (.callk 27 (.cons (.var 10) (.cons (.bin .sub (.var 2) (.con (.int 1))) (.cons (.tup (.cons (.var 11) .nil)) .nil))) [8] (.cons (.var 16) .nil)) (.cons (.tup (.cons (.tup (.cons (.var 17) .nil)) (.cons (.con (.int 0)) (.cons (.var 16) (.cons (.con (.str (cs 34))) .nil))))) .nil))))
   (.cons (.ret (.con (.bl false)))
   .nil)
   .nil)
  (.cons (.ret (.call 25 (.cons (.call 21 (.cons (.call 19 (.cons (.var 10) .nil)) .nil)) (.cons (.var 10) .nil))))
  .nil))))))))))))))))))))))))
/-- drive -/
def d27 : DD where
  at_ := ("drive", none)
  name := "drive"
  qual := "drive"
  st := top 22
  N := ["image", "segment", "memory", "pace", "cut", "steps", "machine", "word"]
  np := 6
  kwd := [("pace", (.int 1)), ("cut", (.int (-1))), ("steps", (.int (-1)))]
  body :=
  (.cons (.set 6 (.make 1 (.cons (.var 0) (.cons (.var 1) (.cons (.var 2) (.cons (.var 3) .nil))))))
  (.cons (.set 7 (.con (.str (cs 36))))
  (.cons (.while (.ands (.cons (.cmp .eq (.var 7) (.con (.str (cs 36)))) (.cons (.cmp .gt (.bf .len (.cons (.fld (.var 6) 13) .nil)) (.con (.int 0))) .nil)))
   (.cons (.ifs (.chn .le .le (.con (.int 0)) (.var 4) (.fld (.var 6) 11))
    (.cons (.set 7 (.con (.str (cs 35))))
    .nil)
    (.cons (.ifs (.chn .le .le (.con (.int 0)) (.var 5) (.fld (.var 6) 10))
     (.cons (.set 7 (.con (.str (cs 34))))
     .nil)
     (.cons (.expr (.meth (.var 6) 14 .nil))
     .nil))
    .nil))
   .nil))
  (.cons (.ret (.tup (.cons (.bf .tuple (.cons (.fld (.var 6) 12) .nil)) (.cons (.fld (.var 6) 11) (.cons (.fld (.var 6) 10) (.cons (.var 7) .nil))))))
  .nil))))
/-- Frame.__init__ -/
def d28 : DD where
  at_ := ("Frame", (some "__init__"))
  name := "__init__"
  qual := "Frame.__init__"
  st := inClass (top 20) 0
  N := ["self", "image", "segment", "base", "number", "code"]
  np := 4
  kwd := []
  body :=
  (.cons (.unp [4, 5] (.idx (.idx (.var 1) (.con (.int 1))) (.var 2)))
  (.cons (.setf (.var 0) 18 (.idx (.idx (.var 1) (.con (.int 0))) (.var 4)))
  (.cons (.setf (.var 0) 17 (.var 5))
  (.cons (.setf (.var 0) 2 (.con (.int 0)))
  (.cons (.setf (.var 0) 16 (.var 3))
  (.cons (.setf (.var 0) 15 (.lst .nil))
  .nil))))))
/-- Machine.__init__ -/
def d29 : DD where
  at_ := ("Machine", (some "__init__"))
  name := "__init__"
  qual := "Machine.__init__"
  st := inClass (top 21) 0
  N := ["self", "image", "segment", "memory", "pace"]
  np := 5
  kwd := []
  body :=
  (.cons (.setf (.var 0) 21 (.var 1))
  (.cons (.setf (.var 0) 12 (.bf .list (.cons (.var 3) .nil)))
  (.cons (.setf (.var 0) 20 .dct0)
  (.cons (.setf (.var 0) 19 (.var 4))
  (.cons (.setf (.var 0) 11 (.con (.int 0)))
  (.cons (.setf (.var 0) 10 (.con (.int 0)))
  (.cons (.setf (.var 0) 13 (.lst (.cons (.make 0 (.cons (.var 1) (.cons (.var 2) (.cons (.con (.int 0)) .nil)))) .nil)))
  .nil)))))))
/-- Machine.execute -/
def d30 : DD where
  at_ := ("Machine", (some "execute"))
  name := "execute"
  qual := "Machine.execute"
  st := inClass (top 21) 1
  N := ["self", "frame", "instruction", "name", "value"]
  np := 1
  kwd := []
  body :=
  (.cons (.set 1 (.idx (.fld (.var 0) 13) (.neg (.con (.int 1)))))
  (.cons (.set 2 (.idx (.fld (.var 1) 17) (.fld (.var 1) 2)))
  (.cons (.set 3 (.idx (.var 2) (.con (.int 0))))
  (.cons (.setf (.var 1) 2 (.bin .add (.fld (.var 1) 2) (.con (.int 1))))
  (.cons (.setf (.var 0) 10 (.bin .add (.fld (.var 0) 10) (.con (.int 1))))
  (.cons (.ifs (.cmp .eq (.var 3) (.con (.str (cs 20))))
   (.cons (.setf (.var 1) 2 (.bin .add (.fld (.var 1) 2) (.idx (.var 2) (.con (.int 1)))))
   .nil)
   (.cons (.ifs (.cmp .eq (.var 3) (.con (.str (cs 21))))
    (.cons (.ifs (.cmp .lt (.bm .lpop (.fld (.var 1) 15) .nil) (.con (.int 1)))
     (.cons (.setf (.var 1) 2 (.bin .add (.fld (.var 1) 2) (.idx (.var 2) (.con (.int 1)))))
     .nil)
     .nil)
    .nil)
    (.cons (.ifs (.cmp .eq (.var 3) (.con (.str (cs 22))))
     (.cons (.expr (.bm .lappend (.fld (.var 0) 13) (.cons (.make 0 (.cons (.fld (.var 0) 21) (.cons (.idx (.var 2) (.con (.int 1))) (.cons (.bin .add (.fld (.var 1) 16) (.idx (.var 2) (.con (.int 2)))) .nil)))) .nil)))
     .nil)
     (.cons (.ifs (.cmp .eq (.var 3) (.con (.str (cs 24))))
      (.cons (.expr (.meth (.var 0) 22 .nil))
      .nil)
      (.cons (.ifs (.cmp .eq (.var 3) (.con (.str (cs 23))))
       (.cons (.expr (.meth (.var 0) 23 .nil))
       (.cons (.setf (.var 0) 11 (.bin .add (.fld (.var 0) 11) (.idx (.var 2) (.con (.int 1)))))
       .nil))
       (.cons (.ifs (.cmp .eq (.var 3) (.con (.str (cs 2))))
        (.cons (.expr (.meth (.var 0) 24 (.cons (.var 1) (.cons (.idx (.var 2) (.con (.int 1))) .nil))))
        .nil)
        (.cons (.ifs (.cmp .eq (.var 3) (.con (.str (cs 6))))
         (.cons (.expr (.bm .lpop (.fld (.var 1) 15) .nil))
         .nil)
         (.cons (.set 4 (.meth (.var 0) 25 (.cons (.var 1) (.cons (.var 2) .nil))))
         (.cons (.expr (.bm .lappend (.fld (.var 1) 15) (.cons (.var 4) .nil)))
         .nil)))
        .nil))
       .nil))
      .nil))
     .nil))
    .nil))
   .nil))
  .nil))))))
/-- Machine.computed -/
def d31 : DD where
  at_ := ("Machine", (some "computed"))
  name := "computed"
  qual := "Machine.computed"
  st := inClass (top 21) 2
  N := ["self", "frame", "instruction", "name", "y", "x"]
  np := 3
  kwd := []
  body :=
  (.cons (.set 3 (.idx (.var 2) (.con (.int 0))))
  (.cons (.ifs (.cmp .eq (.var 3) (.con (.str (cs 0))))
   (.cons (.ret (.idx (.var 2) (.con (.int 1))))
   .nil)
   .nil)
  (.cons (.ifs (.cmp .eq (.var 3) (.con (.str (cs 1))))
   (.cons (.ret (.meth (.var 0) 26 (.cons (.bin .add (.fld (.var 1) 16) (.idx (.var 2) (.con (.int 1)))) .nil)))
   .nil)
   .nil)
  (.cons (.ifs (.cmp .eq (.var 3) (.con (.str (cs 3))))
   (.cons (.ret (.fld (.var 0) 19))
   .nil)
   .nil)
  (.cons (.ifs (.cmp .eq (.var 3) (.con (.str (cs 4))))
   (.cons (.ret (.idx (.fld (.var 1) 15) (.idx (.var 2) (.con (.int 1)))))
   .nil)
   .nil)
  (.cons (.ifs (.cmp .eq (.var 3) (.con (.str (cs 5))))
   (.cons (.ret (.idx (.fld (.var 1) 15) (.neg (.con (.int 1)))))
   .nil)
   .nil)
  (.cons (.set 4 (.bm .lpop (.fld (.var 1) 15) .nil))
  (.cons (.ifs (.cmp .inn (.var 3) (.glo 4))
   (.cons (.ret (.call 7 (.cons (.var 3) (.cons (.var 4) .nil))))
   .nil)
   .nil)
  (.cons (.set 5 (.bm .lpop (.fld (.var 1) 15) .nil))
  (.cons (.ret (.call 6 (.cons (.var 3) (.cons (.var 5) (.cons (.var 4) .nil)))))
  .nil))))))))))
/-- Machine.value_at -/
def d32 : DD where
  at_ := ("Machine", (some "value_at"))
  name := "value_at"
  qual := "Machine.value_at"
  st := inClass (top 21) 3
  N := ["self", "place"]
  np := 2
  kwd := []
  body :=
  (.cons (.ifs (.cmp .inn (.var 1) (.fld (.var 0) 20))
   (.cons (.ret (.idx (.fld (.var 0) 20) (.var 1)))
   .nil)
   .nil)
  (.cons (.ret (.idx (.fld (.var 0) 12) (.var 1)))
  .nil))
/-- Machine.put -/
def d33 : DD where
  at_ := ("Machine", (some "put"))
  name := "put"
  qual := "Machine.put"
  st := inClass (top 21) 4
  N := ["self", "frame", "cell", "value", "top", "kept"]
  np := 3
  kwd := []
  body :=
  (.cons (.unp [4, 5] (.idx (.fld (.var 1) 18) (.var 2)))
  (.cons (.set 3 (.call 1 (.cons (.bm .lpop (.fld (.var 1) 15) .nil) (.cons (.var 4) .nil))))
  (.cons (.ifs (.var 5)
   (.cons (.seti (.fld (.var 0) 20) (.bin .add (.fld (.var 1) 16) (.var 2)) (.var 3))
   .nil)
   (.cons (.seti (.fld (.var 0) 12) (.bin .add (.fld (.var 1) 16) (.var 2)) (.var 3))
   .nil))
  .nil)))
/-- Machine.commit -/
def d34 : DD where
  at_ := ("Machine", (some "commit"))
  name := "commit"
  qual := "Machine.commit"
  st := inClass (top 21) 5
  N := ["self", "place", "value"]
  np := 1
  kwd := []
  body :=
  (.cons (.fori [1, 2] (.fld (.var 0) 20)
   (.cons (.seti (.fld (.var 0) 12) (.var 1) (.var 2))
   .nil))
  (.cons (.setf (.var 0) 20 .dct0)
  .nil))
/-- Machine.leave -/
def d35 : DD where
  at_ := ("Machine", (some "leave"))
  name := "leave"
  qual := "Machine.leave"
  st := inClass (top 21) 6
  N := ["self"]
  np := 1
  kwd := []
  body :=
  (.cons (.expr (.bm .lpop (.fld (.var 0) 13) .nil))
  (.cons (.ifs (.cmp .eq (.bf .len (.cons (.fld (.var 0) 13) .nil)) (.con (.int 0)))
   (.cons (.expr (.meth (.var 0) 23 .nil))
   .nil)
   .nil)
  .nil))
/-- Heights.__init__ -/
def d36 : DD where
  at_ := ("Heights", (some "__init__"))
  name := "__init__"
  qual := "Heights.__init__"
  st := inClass (top 26) 0
  N := ["self", "code", "peaks"]
  np := 3
  kwd := []
  body :=
  (.cons (.setf (.var 0) 17 (.var 1))
  (.cons (.setf (.var 0) 28 (.var 2))
  (.cons (.setf (.var 0) 1 (.con (.int 0)))
  (.cons (.setf (.var 0) 27 (.bin .mul (.lst (.cons (.neg (.con (.int 1))) .nil)) (.bf .len (.cons (.var 1) .nil))))
  (.cons (.seti (.fld (.var 0) 27) (.con (.int 0)) (.con (.int 0)))
  .nil)))))
/-- Heights.visit -/
def d37 : DD where
  at_ := ("Heights", (some "visit"))
  name := "visit"
  qual := "Heights.visit"
  st := inClass (top 26) 1
  N := ["self", "index", "height", "instruction", "name", "after"]
  np := 2
  kwd := []
  body :=
  (.cons (.set 2 (.idx (.fld (.var 0) 27) (.var 1)))
  (.cons (.ifs (.cmp .lt (.var 2) (.con (.int 0)))
   (.cons (.ret (.con (.bl true)))
   .nil)
   .nil)
  (.cons (.set 3 (.idx (.fld (.var 0) 17) (.var 1)))
  (.cons (.set 4 (.idx (.var 3) (.con (.int 0))))
  (.cons (.ifs (.not (.call 8 (.cons (.var 3) (.cons (.var 2) (.cons (.fld (.var 0) 28) .nil)))))
   (.cons (.ret (.con (.bl false)))
   .nil)
   .nil)
  (.cons (.expr (.meth (.var 0) 30 (.cons (.var 3) (.cons (.var 2) .nil))))
  (.cons (.set 5 (.bin .add (.bin .sub (.var 2) (.call 3 (.cons (.var 4) .nil))) (.call 4 (.cons (.var 4) .nil))))
  (.cons (.ifs (.cmp .gt (.var 5) (.glo 8))
   (.cons (.ret (.con (.bl false)))
   .nil)
   .nil)
  (.cons (.ifs (.cmp .eq (.var 4) (.con (.str (cs 20))))
   (.cons (.ret (.meth (.var 0) 29 (.cons (.bin .add (.bin .add (.var 1) (.con (.int 1))) (.idx (.var 3) (.con (.int 1)))) (.cons (.var 5) .nil))))
   .nil)
   .nil)
  (.cons (.ifs (.ands (.cons (.cmp .eq (.var 4) (.con (.str (cs 21)))) (.cons (.not (.meth (.var 0) 29 (.cons (.bin .add (.bin .add (.var 1) (.con (.int 1))) (.idx (.var 3) (.con (.int 1)))) (.cons (.var 5) .nil)))) .nil)))
   (.cons (.ret (.con (.bl false)))
   .nil)
   .nil)
  (.cons (.ret (.ors (.cons (.cmp .eq (.var 4) (.con (.str (cs 24)))) (.cons (.meth (.var 0) 29 (.cons (.bin .add (.var 1) (.con (.int 1))) (.cons (.var 5) .nil))) .nil))))
  .nil)))))))))))
/-- Heights.note_peak -/
def d38 : DD where
  at_ := ("Heights", (some "note_peak"))
  name := "note_peak"
  qual := "Heights.note_peak"
  st := inClass (top 26) 2
  N := ["self", "instruction", "height", "most"]
  np := 3
  kwd := []
  body :=
  (.cons (.set 3 (.var 2))
  (.cons (.ifs (.cmp .eq (.idx (.var 1) (.con (.int 0))) (.con (.str (cs 22))))
   (.cons (.set 3 (.bin .add (.var 2) (.idx (.fld (.var 0) 28) (.idx (.var 1) (.con (.int 1))))))
   .nil)
   .nil)
  (.cons (.ifs (.cmp .gt (.var 3) (.fld (.var 0) 1))
   (.cons (.setf (.var 0) 1 (.var 3))
   .nil)
   .nil)
  .nil)))
/-- Heights.hand_on -/
def d39 : DD where
  at_ := ("Heights", (some "hand_on"))
  name := "hand_on"
  qual := "Heights.hand_on"
  st := inClass (top 26) 3
  N := ["self", "index", "height"]
  np := 3
  kwd := []
  body :=
  (.cons (.ifs (.cmp .nin (.idx (.fld (.var 0) 27) (.var 1)) (.tup (.cons (.neg (.con (.int 1))) (.cons (.var 2) .nil))))
   (.cons (.ret (.con (.bl false)))
   .nil)
   .nil)
  (.cons (.seti (.fld (.var 0) 27) (.var 1) (.var 2))
  (.cons (.ret (.con (.bl true)))
  .nil)))
/-- Reader.__init__ -/
def d40 : DD where
  at_ := ("Reader", (some "__init__"))
  name := "__init__"
  qual := "Reader.__init__"
  st := inClass (top 47) 0
  N := ["self", "data"]
  np := 2
  kwd := []
  body :=
  (.cons (.setf (.var 0) 31 (.var 1))
  (.cons (.setf (.var 0) 2 (.con (.int 1)))
  (.cons (.setf (.var 0) 3 (.bin .sub (.bf .len (.cons (.var 1) .nil)) (.con (.int 1))))
  .nil)))
/-- Reader.next_byte -/
def d41 : DD where
  at_ := ("Reader", (some "next_byte"))
  name := "next_byte"
  qual := "Reader.next_byte"
  st := inClass (top 47) 1
  N := ["self", "found"]
  np := 1
  kwd := []
  body :=
  (.cons (.ifs (.cmp .ge (.fld (.var 0) 2) (.fld (.var 0) 3))
   (.cons .never
   .nil)
   .nil)
  (.cons (.set 1 (.idx (.fld (.var 0) 31) (.fld (.var 0) 2)))
  (.cons (.setf (.var 0) 2 (.bin .add (.fld (.var 0) 2) (.con (.int 1))))
  (.cons (.ret (.var 1))
  .nil))))
/-- Reader.next_number -/
def d42 : DD where
  at_ := ("Reader", (some "next_number"))
  name := "next_number"
  qual := "Reader.next_number"
  st := inClass (top 47) 2
  N := ["self", "total", "unit", "count", "group"]
  np := 1
  kwd := []
  body :=
  (.cons (.set 1 (.con (.int 0)))
  (.cons (.set 2 (.con (.int 1)))
  (.cons (.for (.name 3) (.rng1 (.con (.int 3)))
   (.cons (.set 4 (.meth (.var 0) 32 .nil))
   (.cons (.ifs (.ands (.cons (.cmp .eq (.var 4) (.con (.int 0))) (.cons (.cmp .gt (.var 3) (.con (.int 0))) .nil)))
    (.cons .never
    .nil)
    .nil)
   (.cons (.ifs (.cmp .lt (.var 4) (.con (.int 128)))
    (.cons (.ret (.bin .add (.var 1) (.bin .mul (.var 4) (.var 2))))
    .nil)
    .nil)
   (.cons (.set 1 (.bin .add (.var 1) (.bin .mul (.bin .sub (.var 4) (.con (.int 128))) (.var 2))))
   (.cons (.set 2 (.bin .mul (.var 2) (.con (.int 128))))
   .nil))))))
  (.cons .never
  .nil))))
/-- Reader.next_numbers -/
def d43 : DD where
  at_ := ("Reader", (some "next_numbers"))
  name := "next_numbers"
  qual := "Reader.next_numbers"
  st := inClass (top 47) 3
  N := ["self", "many", "_"]
  np := 1
  kwd := []
  body :=
  (.cons (.set 1 (.meth (.var 0) 4 .nil))
  (.cons (.ret (.bf .tuple (.cons (.comp [2] (.name 2) (.rng1 (.var 1)) none .dct0 (.meth (.var 0) 4 .nil)) .nil)))
  .nil))
/-- Reader.next_cell -/
def d44 : DD where
  at_ := ("Reader", (some "next_cell"))
  name := "next_cell"
  qual := "Reader.next_cell"
  st := inClass (top 47) 4
  N := ["self", "top", "kept"]
  np := 1
  kwd := []
  body :=
  (.cons (.set 1 (.meth (.var 0) 4 .nil))
  (.cons (.set 2 (.meth (.var 0) 4 .nil))
  (.cons (.ifs (.cmp .gt (.var 2) (.con (.int 1)))
   (.cons .never
   .nil)
   .nil)
  (.cons (.ret (.tup (.cons (.var 1) (.cons (.cmp .eq (.var 2) (.con (.int 1))) .nil))))
  .nil))))
/-- Reader.next_table -/
def d45 : DD where
  at_ := ("Reader", (some "next_table"))
  name := "next_table"
  qual := "Reader.next_table"
  st := inClass (top 47) 5
  N := ["self", "many", "_"]
  np := 1
  kwd := []
  body :=
  (.cons (.set 1 (.meth (.var 0) 4 .nil))
  (.cons (.ret (.bf .tuple (.cons (.comp [2] (.name 2) (.rng1 (.var 1)) none .dct0 (.meth (.var 0) 33 .nil)) .nil)))
  .nil))
/-- Reader.next_instruction -/
def d46 : DD where
  at_ := ("Reader", (some "next_instruction"))
  name := "next_instruction"
  qual := "Reader.next_instruction"
  st := inClass (top 47) 6
  N := ["self", "number", "name", "arguments", "_"]
  np := 1
  kwd := []
  body :=
  (.cons (.set 1 (.meth (.var 0) 4 .nil))
  (.cons (.ifs (.cmp .ge (.var 1) (.bf .len (.cons (.glo 2) .nil)))
   (.cons .never
   .nil)
   .nil)
  (.cons (.set 2 (.idx (.glo 2) (.var 1)))
  (.cons (.set 3 (.comp [4] (.name 4) (.rng1 (.call 2 (.cons (.var 2) .nil))) none .dct0 (.meth (.var 0) 4 .nil)))
  (.cons (.ret (.bf .tuple (.cons (.bin .add (.lst (.cons (.var 2) .nil)) (.var 3)) .nil)))
  .nil)))))
/-- Reader.next_segment -/
def d47 : DD where
  at_ := ("Reader", (some "next_segment"))
  name := "next_segment"
  qual := "Reader.next_segment"
  st := inClass (top 47) 7
  N := ["self", "table", "many", "_"]
  np := 1
  kwd := []
  body :=
  (.cons (.set 1 (.meth (.var 0) 4 .nil))
  (.cons (.set 2 (.meth (.var 0) 4 .nil))
  (.cons (.ret (.tup (.cons (.var 1) (.cons (.bf .tuple (.cons (.comp [3] (.name 3) (.rng1 (.var 2)) none .dct0 (.meth (.var 0) 34 .nil)) .nil)) .nil))))
  .nil)))
def mo : Mo where
  nms := (["visit", "peak", "place", "end", "next_number", "next_numbers", "next_segment", "next_table", "steps", "cut", "done", "tally", "memory", "frames", "execute", "stack", "base", "code", "table", "pace", "pending", "image", "leave", "commit", "put", "computed", "value_at", "levels", "peaks", "hand_on"] : List PySem.Str) ++ (["note_peak", "data", "next_byte", "next_cell", "next_instruction"] : List PySem.Str)
  cls := ["Frame", "Machine", "Heights", "Reader"]
  defs := [d0, d1, d2, d3, d4, d5, d6, d7, d8, d9, d10, d11, d12, d13, d14, d15, d16, d17, d18, d19, d20, d21, d22, d23, d24, d25, d26, d27, d28, d29, d30, d31, d32, d33, d34, d35, d36, d37, d38, d39, d40, d41, d42, d43, d44, d45, d46, d47]
  nf := 27
  fks := [(27, "drive")]
  glos := [("GREATEST", (.int 999999)),
    ("LEAST", (.int (-999999))),
    ("OPERATIONS", (.tup [(.str (cs 0)), (.str (cs 1)), (.str (cs 2)), (.str (cs 3)), (.str (cs 4)), (.str (cs 5)), (.str (cs 6)), (.str (cs 7)), (.str (cs 8)), (.str (cs 9)), (.str (cs 10)), (.str (cs 11)), (.str (cs 12)), (.str (cs 13)), (.str (cs 14)), (.str (cs 15)), (.str (cs 16)), (.str (cs 17)), (.str (cs 18)), (.str (cs 19)), (.str (cs 20)), (.str (cs 21)), (.str (cs 22)), (.str (cs 23)), (.str (cs 24))])),
    ("BINARY", (.tup [(.str (cs 9)), (.str (cs 10)), (.str (cs 11)), (.str (cs 12)), (.str (cs 13)), (.str (cs 14)), (.str (cs 15)), (.str (cs 16)), (.str (cs 17)), (.str (cs 18)), (.str (cs 19))])),
    ("UNARY", (.tup [(.str (cs 7)), (.str (cs 8))])),
    ("PUSHING", (.tup [(.str (cs 0)), (.str (cs 1)), (.str (cs 3)), (.str (cs 4)), (.str (cs 5))])),
    ("HOPS", (.tup [(.str (cs 20)), (.str (cs 21))])),
    ("GREATEST_BEAT", (.int 999)),
    ("MOST_ENTRIES", (.int 400)),
    ("LONGEST_CODE", (.int 400000)),
    ("GREATEST_BOUND", (.int 2000000)),
    ("GREATEST_NUMBER", (.int 999999)),
    ("HEAD", (.int 82))]
  gds := [("ARGUMENTS", [(cs 0, (.int 1)), (cs 1, (.int 1)), (cs 2, (.int 1)), (cs 4, (.int 1)), (cs 20, (.int 1)), (cs 21, (.int 1)), (cs 22, (.int 2)), (cs 23, (.int 1))])]
  inits := [(some 28), (some 29), (some 36), (some 40)]
  mths := [(1, 14, 30), (1, 25, 31), (1, 26, 32), (1, 24, 33), (1, 23, 34), (1, 22, 35), (2, 0, 37), (2, 30, 38), (2, 29, 39), (3, 32, 41), (3, 4, 42), (3, 5, 43), (3, 33, 44), (3, 7, 45), (3, 34, 46), (3, 6, 47)]
  flds := [(0, 18), (0, 17), (0, 2), (0, 16), (0, 15), (1, 21), (1, 12), (1, 20), (1, 19), (1, 11), (1, 10), (1, 13), (2, 17), (2, 28), (2, 1), (2, 27), (3, 31), (3, 2), (3, 3)]
  kws := [(27, 3, [8], [.inl 0, .inl 1, .inl 2, .inr (.inr (.int 1)), .inr (.inr (.int (-1))), .inr (.inl 0)]), (27, 3, [9], [.inl 0, .inl 1, .inl 2, .inr (.inr (.int 1)), .inr (.inl 0), .inr (.inr (.int (-1)))]), (27, 3, [], [.inl 0, .inl 1, .inl 2, .inr (.inr (.int 1)), .inr (.inr (.int (-1))), .inr (.inr (.int (-1)))])]
  w := 16777216
def names0 : List PySem.Str := ["GREATEST", "LEAST", "clamp", "saturate", "OPERATIONS", "BINARY", "UNARY", "PUSHING", "HOPS", "ARGUMENTS", "GREATEST_BEAT", "argument_count", "taken", "pushed", "comparison_holds", "binary_value", "unary_value", "Frame", "Machine", "drive", "MOST_ENTRIES", "can_execute", "Heights", "LONGEST_CODE", "GREATEST_BOUND", "GREATEST_NUMBER", "call_fits", "instruction_word", "code_finding", "outer_finding"]
def names1 : List PySem.Str := ["step_bound", "audit", "step_bounds", "RungError", "ImageError", "HEAD", "groups", "table_numbers", "segment_numbers", "pack_image", "Reader", "unpack_image", "load_image", "_law_bag", "_law_take", "_law_pick", "_law_same"]
def names : List PySem.Str := names0 ++ names1
def lawAt : Nat := 55
end K87
namespace K87
open LG
theorem tables_ok : mo.ok = true := by decide +kernel
theorem defs_ok : mo.defs.all (DD.ok mo.T) = true := by decide +kernel
end K87
end

section
set_option Elab.async false
set_option linter.all false
set_option maxRecDepth 100000
namespace K87
open PySem LG
def ls0 : LS := (.set 1 (.call 22 (.cons (.var 0) (.cons (.con (.int 0)) .nil))))
def ls1 : LS := (.set 2 (.call 24 (.cons (.var 1) (.cons (.lst (.cons (.bin .add (.con (.int 1)) (.call 23 (.cons (.var 1) (.cons (.con (.int 30)) .nil)))) (.cons (.bin .add (.con (.int 2)) (.call 23 (.cons (.var 1) (.cons (.con (.int 29)) .nil)))) (.cons (.bin .add (.con (.int 31)) (.call 23 (.cons (.var 1) (.cons (.con (.int 70)) .nil)))) (.cons (.bin .add (.con (.int 101)) (.call 23 (.cons (.var 1) (.cons (.con (.int 900)) .nil)))) (.cons (.bin .add (.con (.int 1001)) (.call 23 (.cons (.var 1) (.cons (.con (.int 1000)) .nil)))) .nil)))))) .nil))))
def ls2 : LS := (.set 3 (.call 24 (.cons (.var 1) (.cons (.lst (.cons (.con (.int 1)) (.cons (.bin .add (.con (.int 1)) (.call 23 (.cons (.var 1) (.cons (.con (.int 999)) .nil)))) (.cons (.con (.int 2097151)) .nil)))) .nil))))
def ls3 : LS := (.set 4 (.cmp .eq (.call 23 (.cons (.var 1) (.cons (.con (.int 2)) .nil))) (.con (.int 0))))
def ls4 : LS := (.set 5 (.call 24 (.cons (.var 1) (.cons (.lst (.cons (.con (.int 1)) (.cons (.con (.int 0)) (.cons (.bin .add (.con (.int 1)) (.call 23 (.cons (.var 1) (.cons (.con (.int 999)) .nil)))) .nil)))) .nil))))
def ls5 : LS := (.set 6 (.call 24 (.cons (.var 1) (.cons (.lst (.cons (.con (.int 1)) (.cons (.con (.int 999)) (.cons (.con (.int 1)) (.cons (.bin .add (.con (.int 1)) (.call 23 (.cons (.var 1) (.cons (.con (.int 999)) .nil)))) .nil))))) .nil))))
def ls6 : LS := (.set 7 (.tup (.cons (.tup (.cons (.con (.str (cs 1))) (.cons (.con (.int 0)) .nil))) (.cons (.tup (.cons (.con (.str (cs 0))) (.cons (.var 5) .nil))) (.cons (.tup (.cons (.con (.str (cs 9))) .nil)) (.cons (.tup (.cons (.con (.str (cs 2))) (.cons (.con (.int 0)) .nil))) .nil))))))
def ls7 : LS := (.set 8 (.lst (.cons (.tup (.cons (.con (.int 0)) (.cons (.bin .add (.var 7) (.tup (.cons (.tup (.cons (.con (.str (cs 23))) (.cons (.var 6) .nil))) (.cons (.tup (.cons (.con (.str (cs 24))) .nil)) .nil)))) .nil))) .nil)))
def ls8 : LS := (.for (.name 9) (.rng1 (.bin .sub (.var 2) (.con (.int 1)))) (.cons (.expr (.bm .lappend (.var 8) (.cons (.tup (.cons (.con (.int 0)) (.cons (.bin .add (.var 7) (.tup (.cons (.tup (.cons (.con (.str (cs 22))) (.cons (.var 9) (.cons (.con (.int 0)) .nil)))) (.cons (.tup (.cons (.con (.str (cs 23))) (.cons (.var 6) .nil))) (.cons (.tup (.cons (.con (.str (cs 24))) .nil)) .nil))))) .nil))) .nil))) .nil))
def ls9 : LS := (.set 10 (.tup (.cons (.tup (.cons (.tup (.cons (.tup (.cons (.var 3) (.cons (.var 4) .nil))) .nil)) .nil)) (.cons (.bf .tuple (.cons (.var 8) .nil)) (.cons (.tup (.cons (.tup (.cons (.bin .sub (.var 2) (.con (.int 1))) .nil)) .nil)) .nil)))))
def ls10 : LS := (.set 11 (.call 24 (.cons (.var 1) (.cons (.lst (.cons (.con (.int 0)) (.cons (.var 3) (.cons (.call 23 (.cons (.var 1) (.cons (.bin .add (.var 3) (.con (.int 1))) .nil))) .nil)))) .nil))))
def ls11 : LS := (.set 12 (.var 11))
def ls12 : LS := (.set 13 (.lst (.cons (.var 11) .nil)))
def ls13 : LS := (.for (.name 9) (.rng1 (.var 2)) (.cons (.set 12 (.bf .min (.cons (.var 3) (.cons (.bf .min (.cons (.con (.int 999999)) (.cons (.bin .add (.var 12) (.var 5)) .nil))) .nil)))) (.cons (.expr (.bm .lappend (.var 13) (.cons (.var 12) .nil))) .nil)))
def ls14 : LS := (.ifs (.ors (.cons (.cmp .notn (.call 14 (.cons (.var 10) .nil)) (.con .non)) (.cons (.not (.call 25 (.cons (.call 15 (.cons (.var 10) .nil)) (.cons (.bf .tuple (.cons (.comp [9] (.name 9) (.rng1 (.var 2)) none .dct0 (.bin .add (.bin .mul (.con (.int 7)) (.var 9)) (.con (.int 6)))) .nil)) .nil)))) .nil))) (.cons (.ret (.con (.bl false))) .nil) .nil)
def ls15 : LS := (.ifs (.not (.call 25 (.cons (.callk 27 (.cons (.var 10) (.cons (.bin .sub (.var 2) (.con (.int 1))) (.cons (.tup (.cons (.var 11) .nil)) .nil))) [] .nil) (.cons (.tup (.cons (.tup (.cons (.var 12) .nil)) (.cons (.bin .mul (.var 2) (.var 6)) (.cons (.bin .sub (.bin .mul (.con (.int 7)) (.var 2)) (.con (.int 1))) (.cons (.con (.str (cs 36))) .nil))))) .nil)))) (.cons (.ret (.con (.bl false))) .nil) .nil)
def ls16 : LS := (.set 14 (.bin .add (.con (.int 1)) (.call 23 (.cons (.var 1) (.cons (.bin .mul (.var 2) (.var 6)) .nil)))))
def ls17 : LS := (.set 15 (.bin .fdiv (.bin .sub (.bin .add (.var 14) (.var 6)) (.con (.int 1))) (.var 6)))
def ls18 : LS := (.ifs (.not (.call 25 (.cons (.callk 27 (.cons (.var 10) (.cons (.bin .sub (.var 2) (.con (.int 1))) (.cons (.tup (.cons (.var 11) .nil)) .nil))) [9] (.cons (.var 14) .nil)) (.cons (.tup (.cons (.tup (.cons (.var 12) .nil)) (.cons (.bin .mul (.var 15) (.var 6)) (.cons (.bin .sub (.bin .add (.bin .mul (.con (.int 5)) (.var 2)) (.bin .mul (.con (.int 2)) (.var 15))) (.con (.int 2))) (.cons (.con (.str (cs 35))) .nil))))) .nil)))) (.cons (.ret (.con (.bl false))) .nil) .nil)
def ls19 : LS := (.set 16 (.call 23 (.cons (.var 1) (.cons (.bin .mul (.con (.int 5)) (.var 2)) .nil))))
def ls20 : LS := (.set 17 (.var 11))
def ls21 : LS := (.ifs (.not (.var 4)) (.cons (.set 17 (.idx (.var 13) (.bin .fdiv (.bf .int (.cons (.bin .add (.var 16) (.con (.int 1))) .nil)) (.con (.int 5))))) .nil) .nil)
def ls22 : LS := (.ifs (.not (.call 25 (.cons (.callk 27 (.cons (.var 10) (.cons (.bin .sub (.var 2) (.con (.int 1))) (.cons (.tup (.cons (.var 11) .nil)) .nil))) [8] (.cons (.var 16) .nil)) (.cons (.tup (.cons (.tup (.cons (.var 17) .nil)) (.cons (.con (.int 0)) (.cons (.var 16) (.cons (.con (.str (cs 34))) .nil))))) .nil)))) (.cons (.ret (.con (.bl false))) .nil) .nil)
def ls23 : LS := (.ret (.call 25 (.cons (.call 21 (.cons (.call 19 (.cons (.var 10) .nil)) .nil)) (.cons (.var 10) .nil))))
theorem ls_body : d26.body = .cons ls0 (.cons ls1 (.cons ls2 (.cons ls3 (.cons ls4 (.cons ls5 (.cons ls6 (.cons ls7 (.cons ls8 (.cons ls9 (.cons ls10 (.cons ls11 (.cons ls12 (.cons ls13 (.cons ls14 (.cons ls15 (.cons ls16 (.cons ls17 (.cons ls18 (.cons ls19 (.cons ls20 (.cons ls21 (.cons ls22 (.cons ls23 (.nil)))))))))))))))))))))))) := rfl
end K87
end

section
set_option Elab.async false
set_option linter.all false
set_option maxRecDepth 100000
set_option maxHeartbeats 4000000
/-! LG15: computing with the small language: equations for simp. -/
namespace LG
open PySem PySem.Spec PyProof.Rows L2

/-- what a def's body gives -/
def endOf (o : Out (Fl × LSt)) : Out LV := o.bind fun p L1 => match p.1 with
  | .nx => .ok .non L1
  | .ret v => .ok v L1
  | _ => .bad
@[simp] theorem endOf_nx {σ : LSt} {L : LH} : endOf (.ok (.nx, σ) L) = .ok .non L := (rfl)
@[simp] theorem endOf_ret {σ : LSt} {L : LH} {v : LV} : endOf (.ok (.ret v, σ) L) = .ok v L := (rfl)
theorem endOf_ite {c : Prop} [Decidable c] {a b : Out (Fl × LSt)} : endOf (if c then a else b) = if c then endOf a else endOf b := by split <;> rfl
theorem Mo.run_succ {m : Mo} {k f : Nat} {d : DD} {vs : List LV} {L : LH} (h : m.defs[f]? = some d) (hl : vs.length = d.np) :
    run m.pg (k + 1) f vs L = endOf (evSs (m.F k) d.body (vs.map some ++ List.replicate (d.N.length - d.np) none) L) := by
  have e : m.pg.fns f = some ⟨d.np, d.N.length, d.body⟩ := by
    show (m.defs[f]?).map _ = _
    rw [h]; rfl
  rw [run, e]
  dsimp only
  rw [if_pos hl]
  rfl
@[simp] theorem bind_ok {α β : Type} {a : α} {L : LH} {k : α → LH → Out β} : (Out.ok a L).bind k = k a L := (rfl)
@[simp] theorem bind_bad {α β : Type} {k : α → LH → Out β} : (Out.bad : Out α).bind k = .bad := (rfl)
theorem bind_ite {α β : Type} {c : Prop} [Decidable c] {a b : Out α} {k : α → LH → Out β} : (if c then a else b).bind k = if c then a.bind k else b.bind k := by split <;> rfl
@[simp] theorem ofOpt_some {α : Type} {a : α} {L : LH} : ofOpt (some a) L = .ok a L := (rfl)
/-! ### the program's tables -/
section
variable {m : Mo} {k : Nat}
@[simp] theorem F_glo : (m.F k).glo = m.pg.glo := (rfl)
@[simp] theorem F_kd : (m.F k).kd = m.pg.kd := (rfl)
@[simp] theorem F_call : (m.F k).call = run m.pg k := (rfl)
@[simp] theorem F_init : (m.F k).init = m.init := (rfl)
@[simp] theorem F_mth : (m.F k).mth = m.mth := (rfl)
@[simp] theorem F_fld : (m.F k).fld = m.fld := (rfl)
@[simp] theorem F_kw : (m.F k).kw = m.kw := (rfl)
@[simp] theorem F_w : (m.F k).w = m.w := (rfl)
end
/-! ### values -/
section
variable {L : LH} {i j : Int} {x y : Str} {a b : Bool} {u v : LV} {xs ys : List LV} {r : Nat}
@[simp] theorem cmp_eq_i : cmpV L .eq (.int i) (.int j) = some (decide (i = j)) := (rfl)
@[simp] theorem cmp_ne_i : cmpV L .ne (.int i) (.int j) = some (!decide (i = j)) := (rfl)
@[simp] theorem cmp_lt_i : cmpV L .lt (.int i) (.int j) = some (decide (i < j)) := (rfl)
@[simp] theorem cmp_le_i : cmpV L .le (.int i) (.int j) = some (decide (i ≤ j)) := (rfl)
@[simp] theorem cmp_gt_i : cmpV L .gt (.int i) (.int j) = some (decide (j < i)) := (rfl)
@[simp] theorem cmp_ge_i : cmpV L .ge (.int i) (.int j) = some (decide (j ≤ i)) := (rfl)
@[simp] theorem cmp_eq_s : cmpV L .eq (.str x) (.str y) = some (decide (x = y)) := (rfl)
@[simp] theorem cmp_ne_s : cmpV L .ne (.str x) (.str y) = some (!decide (x = y)) := (rfl)
@[simp] theorem cmp_eq_b : cmpV L .eq (.bl a) (.bl b) = some (decide (a = b)) := (rfl)
@[simp] theorem cmp_ne_b : cmpV L .ne (.bl a) (.bl b) = some (!decide (a = b)) := (rfl)
@[simp] theorem cmp_inn : cmpV L .inn u v = inF L u v := by cases u <;> cases v <;> rfl
@[simp] theorem cmp_nin : cmpV L .nin u v = (inF L u v).map (!·) := by cases u <;> cases v <;> rfl
@[simp] theorem isn_non : cmpV L .isn .non .non = some true := (rfl)
@[simp] theorem isn_int : cmpV L .isn (.int i) .non = some false := (rfl)
@[simp] theorem isn_str : cmpV L .isn (.str x) .non = some false := (rfl)
@[simp] theorem isn_tup : cmpV L .isn (.tup xs) .non = some false := (rfl)
@[simp] theorem isn_ref : cmpV L .isn (.ref r) .non = some false := (rfl)
@[simp] theorem notn_non : cmpV L .notn .non .non = some false := (rfl)
@[simp] theorem notn_int : cmpV L .notn (.int i) .non = some true := (rfl)
@[simp] theorem notn_str : cmpV L .notn (.str x) .non = some true := (rfl)
@[simp] theorem notn_tup : cmpV L .notn (.tup xs) .non = some true := (rfl)
@[simp] theorem notn_ref : cmpV L .notn (.ref r) .non = some true := (rfl)
@[simp] theorem inF_tup : inF L u (.tup xs) = if flat u = true ∧ xs.all flat = true then some (xs.any fun z => eqF z u) else none := (rfl)
theorem inF_lst (h : L.at_ r = some (.lst xs)) : inF L u (.ref r) = if flat u = true ∧ xs.all flat = true then some (xs.any fun z => eqF z u) else none := by simp only [inF, h]
theorem inF_dct {kvs : List (Key × LV)} {k : Key} (h : L.at_ r = some (.dct kvs)) (hk : keyOf u = some k) : inF L u (.ref r) = some (dget k kvs).isSome := by simp only [inF, h, hk, Option.map_some]
@[simp] theorem flat_int : flat (.int i) = true := (rfl)
@[simp] theorem flat_str : flat (.str x) = true := (rfl)
@[simp] theorem flat_bl : flat (.bl a) = true := (rfl)
@[simp] theorem flat_non : flat .non = true := (rfl)
@[simp] theorem eqF_ii : eqF (.int i) (.int j) = (i == j) := (rfl)
@[simp] theorem eqF_ss : eqF (.str x) (.str y) = (x == y) := (rfl)
@[simp] theorem tru_int : tru L (.int i) = some (i != 0) := (rfl)
@[simp] theorem tru_bl : tru L (.bl a) = some a := (rfl)
@[simp] theorem tru_non : tru L .non = some false := (rfl)
@[simp] theorem tru_tup : tru L (.tup xs) = some (!xs.isEmpty) := (rfl)
@[simp] theorem bin_add : binV .add (.int i) (.int j) L = .ok (.int (i + j)) L := (rfl)
@[simp] theorem bin_sub : binV .sub (.int i) (.int j) L = .ok (.int (i - j)) L := (rfl)
theorem bin_mul (h : (-(2 ^ 64) < i ∧ i < 2 ^ 64) ∨ (-(2 ^ 64) < j ∧ j < 2 ^ 64)) : binV .mul (.int i) (.int j) L = .ok (.int (i * j)) L := by simp only [binV, if_pos h]
theorem bin_div (h : 0 < j) (h2 : j < 1073741824) : binV .fdiv (.int i) (.int j) L = .ok (.int (i / j)) L := by simp only [binV, if_pos (And.intro h h2)]
theorem bin_mod (h : 0 < j) : binV .mod (.int i) (.int j) L = .ok (.int (i % j)) L := by simp only [binV, if_pos h]
theorem bin_pow (h : 0 ≤ j ∧ j ≤ 1000000 ∧ i.natAbs < 2 ^ 64) : binV .pow (.int i) (.int j) L = .ok (.int (i ^ j.toNat)) L := by simp only [binV, if_pos h]
theorem bin_addT (h : xs.length + ys.length ≤ sizeLine) : binV .add (.tup xs) (.tup ys) L = .ok (.tup (xs ++ ys)) L := by simp only [binV, if_pos h]
theorem bin_addL {r1 r2 : Nat} (h1 : L.at_ r1 = some (.lst xs)) (h2 : L.at_ r2 = some (.lst ys)) (h : xs.length + ys.length ≤ sizeLine) : binV .add (.ref r1) (.ref r2) L = .ok (.ref L.n) (L.new (.lst (xs ++ ys))) := by simp only [binV, h1, h2, if_pos h]
theorem bin_rep {k : Int} (h1 : L.at_ r = some (.lst xs)) (h : -(2 ^ 63) ≤ k ∧ k < 2 ^ 63 ∧ xs.length * k.toNat ≤ sizeLine) : binV .mul (.ref r) (.int k) L = .ok (.ref L.n) (L.new (.lst (List.replicate k.toNat xs).flatten)) := by simp only [binV, h1, if_pos h]
/-- an index -/
def atX (xs : List LV) (i : Int) (L : LH) : Out LV := match atI xs i with
  | some v => .ok v L
  | none => .bad
@[simp] theorem idx_tup : idxV (.tup xs) (.int i) L = atX xs i L := (rfl)
@[simp] theorem idx_scr : idxV (.scr xs) (.int i) L = atX xs i L := (rfl)
theorem idx_lst (h : L.at_ r = some (.lst xs)) : idxV (.ref r) (.int i) L = atX xs i L := by simp only [idxV, h]; rfl
theorem idx_dct {kvs : List (Key × LV)} {k : Key} (h : L.at_ r = some (.dct kvs)) (hk : keyOf u = some k) (hv : dget k kvs = some v) : idxV (.ref r) u L = .ok v L := by simp only [idxV, h, hk, hv]
theorem ixN_nat {n p : Nat} (h : p < n) : L2.ixN n (p : Int) = some p := by
  unfold L2.ixN
  rw [if_pos (by omega), if_pos (by omega)]
  simp
theorem atI_nat {i : Nat} : atI xs (i : Int) = xs[i]? := by
  unfold atI ixN
  rw [if_pos (by omega)]
  by_cases h : (i : Int) < xs.length
  · rw [if_pos h]; simp
  · rw [if_neg h, List.getElem?_eq_none (by omega)]; rfl
theorem atI_nn (h : 0 ≤ i) : atI xs i = xs[i.toNat]? := by
  obtain ⟨n, rfl⟩ : ∃ n : Nat, i = n := ⟨i.toNat, by omega⟩
  rw [atI_nat]; rfl
@[simp] theorem atI_0 : atI xs 0 = xs[0]? := atI_nn (by omega)
@[simp] theorem atI_1 : atI xs 1 = xs[1]? := atI_nn (by omega)
@[simp] theorem atI_2 : atI xs 2 = xs[2]? := atI_nn (by omega)
@[simp] theorem atI_last : atI xs (-1) = xs.getLast? := by
  unfold atI ixN
  rw [if_neg (by omega)]
  by_cases h : -(xs.length : Int) ≤ -1
  · rw [if_pos h]
    have : (-1 + (xs.length : Int)).toNat = xs.length - 1 := by omega
    simp only [Option.bind_some, this]
    rw [List.getLast?_eq_getElem?]
  · rw [if_neg h]
    have : xs = [] := List.eq_nil_of_length_eq_zero (by omega)
    subst this; rfl
theorem atX_some (h : atI xs i = some v) : atX xs i L = .ok v L := by simp only [atX, h]
@[simp] theorem atX_0 {x0 : LV} : atX (x0 :: xs) 0 L = .ok x0 L := atX_some (by simp)
@[simp] theorem atX_1 {x0 x1 : LV} : atX (x0 :: x1 :: xs) 1 L = .ok x1 L := atX_some (by simp)
@[simp] theorem atX_2 {x0 x1 x2 : LV} : atX (x0 :: x1 :: x2 :: xs) 2 L = .ok x2 L := atX_some (by simp)
theorem fld_ins {c : Nat} {fs : List (Nat × LV)} {f : Nat} (h : L.at_ r = some (.ins c fs)) (hv : fget f fs = some v) : fldV f (.ref r) L = .ok v L := by simp only [fldV, h, hv]
theorem len_lst (h : L.at_ r = some (.lst xs)) : bfV .len [.ref r] L = .ok (.int xs.length) L := by simp only [bfV, seqOf, h]
@[simp] theorem len_tup : bfV .len [.tup xs] L = .ok (.int xs.length) L := (rfl)
@[simp] theorem len_scr : bfV .len [.scr xs] L = .ok (.int xs.length) L := (rfl)
theorem tuple_lst (h : L.at_ r = some (.lst xs)) : bfV .tuple [.ref r] L = .ok (.tup xs) L := by simp only [bfV, seqOf, h]
theorem list_lst (h : L.at_ r = some (.lst xs)) : bfV .list [.ref r] L = .ok (.ref L.n) (L.new (.lst xs)) := by simp only [bfV, seqOf, h]
@[simp] theorem list_tup : bfV .list [.tup xs] L = .ok (.ref L.n) (L.new (.lst xs)) := (rfl)
@[simp] theorem int_int : bfV .int [.int i] L = .ok (.int i) L := (rfl)
@[simp] theorem min_int : bfV .min [.int i, .int j] L = .ok (.int (min i j)) L := by
  simp only [bfV]
  congr 2
  by_cases h : j < i
  · rw [if_pos h]; omega
  · rw [if_neg h]; omega
@[simp] theorem max_int : bfV .max [.int i, .int j] L = .ok (.int (max i j)) L := by
  simp only [bfV]
  congr 2
  by_cases h : j > i
  · rw [if_pos h]; omega
  · rw [if_neg h]; omega
theorem sum_lst {t : Int} (h : L.at_ r = some (.lst xs)) (hs : sumI xs = some t) : bfV .sum [.ref r] L = .ok (.int t) L := by simp only [bfV, lstOf, h, hs]
theorem any_lst {bs : List Bool} (h : L.at_ r = some (.lst xs)) (hs : bools xs = some bs) : bfV .any [.ref r] L = .ok (.bl (bs.any id)) L := by simp only [bfV, lstOf, h, hs]
/-! methods of lists -/
theorem m_append (h : L.at_ r = some (.lst xs)) (hz : xs.length < sizeLine) : bmV .lappend (.ref r) [v] L = .ok .non (L.put r (.lst (xs ++ [v]))) := by simp only [bmV, h, if_pos hz]
theorem m_extend (h : L.at_ r = some (.lst xs)) (hs : seqOf L v = some ys) (hz : xs.length + ys.length ≤ sizeLine) : bmV .lextend (.ref r) [v] L = .ok .non (L.put r (.lst (xs ++ ys))) := by simp only [bmV, h, hs, if_pos hz]
theorem m_pop (h : L.at_ r = some (.lst (xs ++ [v]))) : bmV .lpop (.ref r) [] L = .ok v (L.put r (.lst xs)) := by
  simp only [bmV, h]
  simp
@[simp] theorem seqOf_tup : seqOf L (.tup xs) = some xs := (rfl)
@[simp] theorem seqOf_scr : seqOf L (.scr xs) = some xs := (rfl)
theorem seqOf_lst (h : L.at_ r = some (.lst xs)) : seqOf L (.ref r) = some xs := by simp only [seqOf, h]
theorem bm_lst {m : BM} (h : L.at_ r = some (.lst xs)) (hm : (match m with
    | .dget1 => false
    | .dget2 => false
    | _ => true) = true) : bmTy L m (.ref r) = true := by
  simp only [bmTy, h]
  cases m <;> first | rfl | cases hm
/-! slices -/
theorem slc_lst {l h : Option Int} (e : L.at_ r = some (.lst xs)) : slcV (.ref r) l h L = .ok (.ref L.n) (L.new (.lst (cut xs l h))) := by simp only [slcV, e]
@[simp] theorem slc_tup {l h : Option Int} : slcV (.tup xs) l h L = .ok (.tup (cut xs l h)) L := (rfl)
@[simp] theorem fldV_ref {f : Nat} : fldV f (.ref r) L = match L.at_ r with
    | some (.ins _ fs) => ofOpt (fget f fs) L
    | _ => .bad := by
  unfold fldV
  dsimp only
  cases L.at_ r with
  | none => rfl
  | some o =>
    cases o with
    | ins c fs => dsimp only; cases fget f fs <;> rfl
    | _ => rfl
@[simp] theorem fget_nil {f : Nat} : fget f [] = none := (rfl)
@[simp] theorem fget_cons {f g : Nat} {fs : List (Nat × LV)} : fget f ((g, u) :: fs) = if g = f then some u else fget f fs := (rfl)
@[simp] theorem fput_nil {f : Nat} : fput f v [] = [(f, v)] := (rfl)
@[simp] theorem fput_cons {f g : Nat} {fs : List (Nat × LV)} : fput f v ((g, u) :: fs) = if g = f then (g, v) :: fs else (g, u) :: fput f v fs := (rfl)
@[simp] theorem put_ne {a b : Nat} {o : LO} (h : b ≠ a) : (L.put a o).at_ b = L.at_ b := by rw [LH.put_at, if_neg h]
@[simp] theorem new_ne {b : Nat} {o : LO} (h : b ≠ L.n) : (L.new o).at_ b = L.at_ b := by rw [LH.new_at, if_neg h]
end
/-! ### expressions -/
section
variable {F : Fn} {σ : LSt} {L : LH}
@[simp] theorem e_var {i : Nat} : evE F (.var i) σ L = ofOpt (σ[i]?).join L := by
  simp only [evE]
  cases σ[i]? with
  | none => rfl
  | some o => cases o <;> rfl
@[simp] theorem e_con {v : LV} : evE F (.con v) σ L = .ok v L := by simp only [evE]
@[simp] theorem e_glo {i : Nat} : evE F (.glo i) σ L = ofOpt (F.glo i) L := by simp only [evE]
@[simp] theorem e_bin {o : B2} {a b : LE} : evE F (.bin o a b) σ L = (evE F a σ L).bind fun x L1 => (evE F b σ L1).bind fun y L2 => binV o x y L2 := by simp only [evE]
def negV (v : LV) (L : LH) : Out LV := match v with
  | .int i => .ok (.int (-i)) L
  | _ => .bad
@[simp] theorem neg_int {i : Int} : negV (.int i) L = .ok (.int (-i)) L := (rfl)
@[simp] theorem e_neg {a : LE} : evE F (.neg a) σ L = (evE F a σ L).bind negV := by simp only [evE]; rfl
@[simp] theorem e_cmp {o : C2} {a b : LE} : evE F (.cmp o a b) σ L = (evE F a σ L).bind fun x L1 => (evE F b σ L1).bind fun y L2 => (ofOpt (cmpV L2 o x y) L2).bind fun b L => .ok (.bl b) L := by simp only [evE]
@[simp] theorem e_chn {o p : C2} {a b c : LE} : evE F (.chn o p a b c) σ L = (evE F a σ L).bind fun x L1 => (evE F b σ L1).bind fun y L2 => (ofOpt (cmpV L2 o x y) L2).bind fun k L3 =>
      if k = true then (evE F c σ L3).bind fun z L4 => (ofOpt (cmpV L4 p y z) L4).bind fun b L => .ok (.bl b) L else .ok (.bl false) L3 := by simp only [evE]
@[simp] theorem e_ands {es : LEs} : evE F (.ands es) σ L = evAnd F es σ L := by simp only [evE]
@[simp] theorem e_ors {es : LEs} : evE F (.ors es) σ L = evOr F es σ L := by simp only [evE]
def notV (v : LV) (L : LH) : Out LV := match v with
  | .bl b => .ok (.bl (!b)) L
  | _ => .bad
@[simp] theorem not_bl {b : Bool} : notV (.bl b) L = .ok (.bl (!b)) L := (rfl)
@[simp] theorem e_not {a : LE} : evE F (.not a) σ L = (evE F a σ L).bind notV := by simp only [evE]; rfl
@[simp] theorem e_ite {c a b : LE} : evE F (.ite c a b) σ L = (evT F c σ L).bind fun k L1 => if k = true then evE F a σ L1 else evE F b σ L1 := by simp only [evE]
def tupV (vs : List LV) (L : LH) : Out LV := if vs.length ≤ sizeLine then .ok (.tup vs) L else .bad
def lstV (vs : List LV) (L : LH) : Out LV := if vs.length ≤ sizeLine then .ok (.ref L.n) (L.new (.lst vs)) else .bad
theorem tupV_ok {vs : List LV} (h : vs.length ≤ sizeLine) : tupV vs L = .ok (.tup vs) L := if_pos h
theorem lstV_ok {vs : List LV} (h : vs.length ≤ sizeLine) : lstV vs L = .ok (.ref L.n) (L.new (.lst vs)) := if_pos h
@[simp] theorem tupV_1 {a : LV} : tupV [a] L = .ok (.tup [a]) L := tupV_ok (show 1 ≤ sizeLine by decide)
@[simp] theorem tupV_2 {a b : LV} : tupV [a, b] L = .ok (.tup [a, b]) L := tupV_ok (show 2 ≤ sizeLine by decide)
@[simp] theorem tupV_3 {a b c : LV} : tupV [a, b, c] L = .ok (.tup [a, b, c]) L := tupV_ok (show 3 ≤ sizeLine by decide)
@[simp] theorem tupV_4 {a b c d : LV} : tupV [a, b, c, d] L = .ok (.tup [a, b, c, d]) L := tupV_ok (show 4 ≤ sizeLine by decide)
@[simp] theorem lstV_0 : lstV [] L = .ok (.ref L.n) (L.new (.lst [])) := lstV_ok (Nat.zero_le _)
@[simp] theorem lstV_1 {a : LV} : lstV [a] L = .ok (.ref L.n) (L.new (.lst [a])) := lstV_ok (show 1 ≤ sizeLine by decide)
@[simp] theorem lstV_2 {a b : LV} : lstV [a, b] L = .ok (.ref L.n) (L.new (.lst [a, b])) := lstV_ok (show 2 ≤ sizeLine by decide)
@[simp] theorem lstV_3 {a b c : LV} : lstV [a, b, c] L = .ok (.ref L.n) (L.new (.lst [a, b, c])) := lstV_ok (show 3 ≤ sizeLine by decide)
@[simp] theorem lstV_4 {a b c d : LV} : lstV [a, b, c, d] L = .ok (.ref L.n) (L.new (.lst [a, b, c, d])) := lstV_ok (show 4 ≤ sizeLine by decide)
@[simp] theorem lstV_5 {a b c d e : LV} : lstV [a, b, c, d, e] L = .ok (.ref L.n) (L.new (.lst [a, b, c, d, e])) := lstV_ok (show 5 ≤ sizeLine by decide)
@[simp] theorem e_tup {es : LEs} : evE F (.tup es) σ L = (evA F es σ L).bind tupV := by simp only [evE]; rfl
@[simp] theorem e_lst {es : LEs} : evE F (.lst es) σ L = (evA F es σ L).bind lstV := by simp only [evE]; rfl
@[simp] theorem e_dct0 : evE F .dct0 σ L = .ok (.ref L.n) (L.new (.dct [])) := by simp only [evE]
@[simp] theorem e_idx {a i : LE} : evE F (.idx a i) σ L = (evE F a σ L).bind fun x L1 => (evE F i σ L1).bind fun y L2 => idxV x y L2 := by simp only [evE]
@[simp] theorem e_slc {a l h : LE} : evE F (.slc a l h) σ L = (evE F a σ L).bind fun x L1 => (if isNon l = true then .ok none L1 else (evE F l σ L1).bind partV).bind fun y L2 => (if isNon h = true then .ok none L2 else (evE F h σ L2).bind partV).bind fun z L3 => slcV x y z L3 := by simp only [evE]
@[simp] theorem partV_int {i : Int} : partV (.int i) L = .ok (some i) L := (rfl)
@[simp] theorem e_fld {a : LE} {f : Nat} : evE F (.fld a f) σ L = (evE F a σ L).bind fun x L1 => fldV f x L1 := by simp only [evE]
@[simp] theorem e_call {f : Nat} {es : LEs} : evE F (.call f es) σ L = (evA F es σ L).bind fun vs L1 => F.call f vs L1 := by simp only [evE]
def callkV (F : Fn) (f : Nat) (ks : List Nat) (vs zs : List LV) (L : LH) : Out LV := match F.kw f vs.length ks with
      | some sl => match fill vs zs sl with
        | some ws => F.call f ws L
        | none => .bad
      | none => .bad
@[simp] theorem e_callk {f : Nat} {es kes : LEs} {ks : List Nat} : evE F (.callk f es ks kes) σ L = (evA F es σ L).bind fun vs L1 => (evA F kes σ L1).bind fun zs L2 => callkV F f ks vs zs L2 := by simp only [evE]; rfl
@[simp] theorem e_make {c : Nat} {es : LEs} : evE F (.make c es) σ L = (evA F es σ L).bind fun vs L1 => makeV F c vs L1 := by simp only [evE]
noncomputable def methV (F : Fn) (m : Nat) (es : LEs) (σ : LSt) (x : LV) (L : LH) : Out LV := match recvF F L m x with
    | some f => (evA F es σ L).bind fun vs L2 => F.call f (x :: vs) L2
    | none => .bad
theorem meth_ok {m f c r : Nat} {es : LEs} {fs : List (Nat × LV)} (h : L.at_ r = some (.ins c fs)) (hf : fget m fs = none) (hm : F.mth c m = some f) : methV F m es σ (.ref r) L = (evA F es σ L).bind fun vs L2 => F.call f (.ref r :: vs) L2 := by
  simp only [methV, recvF, h, hf, hm, Option.isNone_none, if_true]
@[simp] theorem methV_ref {m r : Nat} {es : LEs} : methV F m es σ (.ref r) L = match recvF F L m (.ref r) with
    | some f => (evA F es σ L).bind fun vs L2 => F.call f (.ref r :: vs) L2
    | none => .bad := rfl
@[simp] theorem recvF_ref {m r : Nat} : recvF F L m (.ref r) = match L.at_ r with
    | some (.ins c fs) => if (fget m fs).isNone = true then F.mth c m else none
    | _ => none := rfl
@[simp] theorem e_meth {a : LE} {m : Nat} {es : LEs} : evE F (.meth a m es) σ L = (evE F a σ L).bind fun x L1 => methV F m es σ x L1 := by simp only [evE]; rfl
@[simp] theorem e_bf {f : BF} {es : LEs} : evE F (.bf f es) σ L = (evA F es σ L).bind fun vs L1 => bfV f vs L1 := by simp only [evE]
@[simp] theorem e_bm {m : BM} {a : LE} {es : LEs} : evE F (.bm m a es) σ L = (evE F a σ L).bind fun x L1 => if bmTy L1 m x = true then (evA F es σ L1).bind fun vs L2 => bmV m x vs L2 else .bad := by simp only [evE]
@[simp] theorem e_isin {a : LE} {ts : List Ty} : evE F (.isin a ts) σ L = (evE F a σ L).bind fun x L1 => (ofOpt (tyAny L1 x ts) L1).bind fun b L => .ok (.bl b) L := by simp only [evE]
@[simp] theorem e_gidx {g : Nat} {a : LE} : evE F (.gidx g a) σ L = (evE F a σ L).bind fun x L1 => gidxV (F.glo g) x L1 := by simp only [evE]
@[simp] theorem e_kget {g : Nat} {a d : LE} : evE F (.kget g a d) σ L = (evE F a σ L).bind fun x L1 => (evE F d σ L1).bind fun y L2 => kgetV (F.kd g) x y L2 := by simp only [evE]
theorem e_comp {own : List Nat} {tg : LTg} {it : LI} {t : Option Unit} {c e : LE} : evE F (.comp own tg it t c e) σ L = (evI F it σ L).bind fun S L1 => (compL S L1.n (compB tg (wipeL σ own) (optT t (evT F c)) (evE F e)) S.items (L1.new (.lst []))).bind fun _ L2 => .ok (.ref L1.n) L2 := by simp only [evE]
theorem e_comp2 {own own1 : List Nat} {tg tg1 : LTg} {it it1 : LI} {e : LE} : evE F (.comp2 own own1 tg it tg1 it1 e) σ L = (evI F it σ L).bind fun S L1 => (comp2L S (comp2B tg (wipeL σ own) (evI F it1) L1.n (fun σ2 => compB tg1 (wipeL σ2 own1) none (evE F e))) S.items (L1.new (.lst []))).bind fun _ L2 => .ok (.ref L1.n) L2 := by simp only [evE]
theorem make_ok {c f : Nat} {vs : List LV} {L' : LH} (hi : F.init c = some f) (h : F.call f (.ref L.n :: vs) (L.new (.ins c [])) = .ok .non L') : makeV F c vs L = .ok (.ref L.n) L' := by
  simp only [makeV, hi, h, bind_ok]
/-! arguments, and, or -/
@[simp] theorem a_nil : evA F .nil σ L = .ok [] L := by simp only [evA]
@[simp] theorem a_cons {e : LE} {es : LEs} : evA F (.cons e es) σ L = (evE F e σ L).bind fun v L1 => (evA F es σ L1).bind fun vs L2 => .ok (v :: vs) L2 := by simp only [evA]
@[simp] theorem and_1 {e : LE} : evAnd F (.cons e .nil) σ L = evE F e σ L := by simp only [evAnd]
def andV (v : LV) (k : LH → Out LV) (L : LH) : Out LV := match v with
    | .bl true => k L
    | .bl false => .ok (.bl false) L
    | _ => .bad
@[simp] theorem andV_t {k : LH → Out LV} : andV (.bl true) k L = k L := (rfl)
@[simp] theorem andV_f {k : LH → Out LV} : andV (.bl false) k L = .ok (.bl false) L := (rfl)
theorem andV_b {k : LH → Out LV} {b : Bool} : andV (.bl b) k L = if b = true then k L else .ok (.bl false) L := by cases b <;> rfl
@[simp] theorem and_2 {e e2 : LE} {es : LEs} : evAnd F (.cons e (.cons e2 es)) σ L = (evE F e σ L).bind fun x L1 => andV x (evAnd F (.cons e2 es) σ) L1 := by
  rw [evAnd]
  · rfl
  · intro h; cases h
def orV (v : LV) (k : LH → Out LV) (L : LH) : Out LV := match v with
    | .bl true => .ok (.bl true) L
    | .bl false => k L
    | _ => .bad
@[simp] theorem orV_t {k : LH → Out LV} : orV (.bl true) k L = .ok (.bl true) L := (rfl)
@[simp] theorem orV_f {k : LH → Out LV} : orV (.bl false) k L = k L := (rfl)
theorem orV_b {k : LH → Out LV} {b : Bool} : orV (.bl b) k L = if b = true then .ok (.bl true) L else k L := by cases b <;> rfl
@[simp] theorem or_1 {e : LE} : evOr F (.cons e .nil) σ L = evE F e σ L := by simp only [evOr]
@[simp] theorem or_2 {e e2 : LE} {es : LEs} : evOr F (.cons e (.cons e2 es)) σ L = (evE F e σ L).bind fun x L1 => orV x (evOr F (.cons e2 es) σ) L1 := by
  rw [evOr]
  · rfl
  · intro h; cases h
@[simp] theorem ta_1 {e : LE} : evTA F (.cons e .nil) σ L = evT F e σ L := by simp only [evTA]
@[simp] theorem ta_2 {e e2 : LE} {es : LEs} : evTA F (.cons e (.cons e2 es)) σ L = (evT F e σ L).bind fun b L1 => if b = true then evTA F (.cons e2 es) σ L1 else .ok false L1 := by
  rw [evTA]
  intro h; cases h
@[simp] theorem to_1 {e : LE} : evTO F (.cons e .nil) σ L = evT F e σ L := by simp only [evTO]
@[simp] theorem to_2 {e e2 : LE} {es : LEs} : evTO F (.cons e (.cons e2 es)) σ L = (evT F e σ L).bind fun b L1 => if b = true then .ok true L1 else evTO F (.cons e2 es) σ L1 := by
  rw [evTO]
  intro h; cases h
/-! tests -/
@[simp] theorem t_not {a : LE} : evT F (.not a) σ L = (evT F a σ L).bind fun b L1 => .ok (!b) L1 := by simp only [evT]
@[simp] theorem t_ands {es : LEs} : evT F (.ands es) σ L = evTA F es σ L := by simp only [evT]
@[simp] theorem t_ors {es : LEs} : evT F (.ors es) σ L = evTO F es σ L := by simp only [evT]
@[simp] theorem t_cmp {o : C2} {a b : LE} : evT F (.cmp o a b) σ L = (evE F a σ L).bind fun x L1 => (evE F b σ L1).bind fun y L2 => ofOpt (cmpV L2 o x y) L2 := by simp only [evT]
@[simp] theorem t_var {i : Nat} : evT F (.var i) σ L = (ofOpt (σ[i]?).join L).bind fun v L1 => ofOpt (tru L1 v) L1 := by
  simp only [evT]
  cases σ[i]? with
  | none => rfl
  | some o => cases o <;> rfl
@[simp] theorem t_con {v : LV} : evT F (.con v) σ L = ofOpt (tru L v) L := by simp only [evT]
@[simp] theorem t_chn {o p : C2} {a b c : LE} : evT F (.chn o p a b c) σ L = (evE F a σ L).bind fun x L1 => (evE F b σ L1).bind fun y L2 => (ofOpt (cmpV L2 o x y) L2).bind fun k L3 =>
      if k = true then (evE F c σ L3).bind fun z L4 => ofOpt (cmpV L4 p y z) L4 else .ok false L3 := by simp only [evT]
theorem t_of {a : LE} (h : evT F a σ L = (evE F a σ L).bind fun v L2 => ofOpt (tru L2 v) L2) : evT F a σ L = (evE F a σ L).bind fun v L2 => ofOpt (tru L2 v) L2 := h
@[simp] theorem t_fld {a : LE} {f : Nat} : evT F (.fld a f) σ L = (evE F a σ L).bind fun x L1 => (fldV f x L1).bind fun v L2 => ofOpt (tru L2 v) L2 := by simp only [evT]
@[simp] theorem t_call {f : Nat} {es : LEs} : evT F (.call f es) σ L = (evA F es σ L).bind fun vs L1 => (F.call f vs L1).bind fun v L2 => ofOpt (tru L2 v) L2 := by simp only [evT]
@[simp] theorem t_meth {a : LE} {m : Nat} {es : LEs} : evT F (.meth a m es) σ L = (evE F a σ L).bind fun x L1 => (methV F m es σ x L1).bind fun v L3 => ofOpt (tru L3 v) L3 := by
  simp only [evT]
  congr 1
  funext x L1
  unfold methV
  cases recvF F L1 m x with
  | none => rfl
  | some f => simp only [Out.bind_assoc]
@[simp] theorem t_bf {f : BF} {es : LEs} : evT F (.bf f es) σ L = (evA F es σ L).bind fun vs L1 => (bfV f vs L1).bind fun v L2 => ofOpt (tru L2 v) L2 := by simp only [evT]
@[simp] theorem t_isin {a : LE} {ts : List Ty} : evT F (.isin a ts) σ L = (evE F a σ L).bind fun x L1 => ofOpt (tyAny L1 x ts) L1 := by simp only [evT]
@[simp] theorem t_idx {a i : LE} : evT F (.idx a i) σ L = (evE F a σ L).bind fun x L1 => (evE F i σ L1).bind fun y L2 => (idxV x y L2).bind fun v L3 => ofOpt (tru L3 v) L3 := by simp only [evT]
/-! what is walked -/
@[simp] theorem i_seq {a : LE} : evI F (.seq a) σ L = (evE F a σ L).bind fun v L1 => ofOpt (srcOf L1 v) L1 := by simp only [evI]
@[simp] theorem src_tup {xs : List LV} : srcOf L (.tup xs) = some (.vals xs) := (rfl)
@[simp] theorem src_scr {xs : List LV} : srcOf L (.scr xs) = some (.vals xs) := (rfl)
theorem src_lst {r : Nat} {xs : List LV} (h : L.at_ r = some (.lst xs)) : srcOf L (.ref r) = some (.lst r xs) := by simp only [srcOf, h]
def rngV (v : LV) (L : LH) : Out Src := match v with
    | .int j => if -(2 ^ 62) ≤ j ∧ j < 2 ^ 62 then .ok (.vals (rngL 0 j.toNat)) L else .bad
    | _ => .bad
theorem rngV_ok {j : Int} (h : -(2 ^ 62) ≤ j ∧ j < 2 ^ 62) : rngV (.int j) L = .ok (.vals (rngL 0 j.toNat)) L := if_pos h
theorem i_rng1 {a : LE} : evI F (.rng1 a) σ L = (evE F a σ L).bind rngV := by simp only [evI]; rfl
theorem i_rng1_ok {a : LE} {j : Int} {L1 : LH} (h : evE F a σ L = .ok (.int j) L1) (hj : -(2 ^ 62) ≤ j ∧ j < 2 ^ 62) : evI F (.rng1 a) σ L = .ok (.vals (rngL 0 j.toNat)) L1 := by
  rw [i_rng1, h, bind_ok, rngV_ok hj]
theorem i_rng1_nat {a : LE} {j : Nat} {L1 : LH} (h : evE F a σ L = .ok (.int (j : Int)) L1) (hj : j < 1000000000) : evI F (.rng1 a) σ L = .ok (.vals (rngL 0 j)) L1 := by
  rw [i_rng1_ok h (by omega)]
  rfl
/-! ### statements -/
@[simp] theorem ss_nil : evSs F .nil σ L = .ok (.nx, σ) L := by simp only [evSs]
def thenS (o : Out (Fl × LSt)) (k : LSt → LH → Out (Fl × LSt)) : Out (Fl × LSt) := o.bind fun p L1 => match p.1 with
    | .nx => k p.2 L1
    | f => .ok (f, p.2) L1
@[simp] theorem then_nx {k : LSt → LH → Out (Fl × LSt)} : thenS (.ok (.nx, σ) L) k = k σ L := (rfl)
@[simp] theorem then_ret {v : LV} {k : LSt → LH → Out (Fl × LSt)} : thenS (.ok (.ret v, σ) L) k = .ok (.ret v, σ) L := (rfl)
@[simp] theorem then_brk {k : LSt → LH → Out (Fl × LSt)} : thenS (.ok (.brk, σ) L) k = .ok (.brk, σ) L := (rfl)
@[simp] theorem then_cont {k : LSt → LH → Out (Fl × LSt)} : thenS (.ok (.cont, σ) L) k = .ok (.cont, σ) L := (rfl)
theorem then_ite {c : Prop} [Decidable c] {a b : Out (Fl × LSt)} {k : LSt → LH → Out (Fl × LSt)} : thenS (if c then a else b) k = if c then thenS a k else thenS b k := by split <;> rfl
@[simp] theorem ss_cons {s : LS} {ss : LSs} : evSs F (.cons s ss) σ L = thenS (evS F s σ L) fun σ1 L1 => evSs F ss σ1 L1 := by simp only [evSs]; rfl
@[simp] theorem s_set {i : Nat} {e : LE} : evS F (.set i e) σ L = (evE F e σ L).bind fun v L1 => .ok (.nx, σ.set i (some v)) L1 := by simp only [evS]
def setfV (F : Fn) (f : Nat) (v x : LV) (σ : LSt) (L : LH) : Out (Fl × LSt) := match x with
    | .ref a => match L.at_ a with
      | some (.ins c fs) => if fs.length < 1000 ∧ F.fld c f = true then .ok (.nx, σ) (L.put a (.ins c (fput f v fs))) else .bad
      | _ => .bad
    | _ => .bad
theorem setf_ok {f r c : Nat} {v : LV} {fs : List (Nat × LV)} (h : L.at_ r = some (.ins c fs)) (hl : fs.length < 1000) (hf : F.fld c f = true) : setfV F f v (.ref r) σ L = .ok (.nx, σ) (L.put r (.ins c (fput f v fs))) := by
  simp only [setfV, h]
  exact if_pos ⟨hl, hf⟩
@[simp] theorem setfV_ref {f r : Nat} {v : LV} : setfV F f v (.ref r) σ L = match L.at_ r with
      | some (.ins c fs) => if fs.length < 1000 ∧ F.fld c f = true then .ok (.nx, σ) (L.put r (.ins c (fput f v fs))) else .bad
      | _ => .bad := rfl
@[simp] theorem s_setf {o : LE} {f : Nat} {e : LE} : evS F (.setf o f e) σ L = (evE F e σ L).bind fun v L1 => (evE F o σ L1).bind fun x L2 => setfV F f v x σ L2 := by simp only [evS]; rfl
def setiV (v x y : LV) (σ : LSt) (L : LH) : Out (Fl × LSt) := match x with
    | .ref a => match L.at_ a with
      | some (.lst xs) => match y with
        | .int k => match ixN xs.length k with
          | some j => .ok (.nx, σ) (L.put a (.lst (xs.set j v)))
          | none => .bad
        | _ => .bad
      | some (.dct kvs) => match keyOf y with
        | some k => if kvs.length < sizeLine then .ok (.nx, σ) (L.put a (.dct (dput kvs k v))) else .bad
        | none => .bad
      | _ => .bad
    | _ => .bad
theorem seti_lst {r : Nat} {v : LV} {xs : List LV} {k : Int} {j : Nat} (h : L.at_ r = some (.lst xs)) (hj : ixN xs.length k = some j) : setiV v (.ref r) (.int k) σ L = .ok (.nx, σ) (L.put r (.lst (xs.set j v))) := by simp only [setiV, h, hj]
theorem seti_dct {r : Nat} {v y : LV} {kvs : List (Key × LV)} {k : Key} (h : L.at_ r = some (.dct kvs)) (hk : keyOf y = some k) (hz : kvs.length < sizeLine) : setiV v (.ref r) y σ L = .ok (.nx, σ) (L.put r (.dct (dput kvs k v))) := by simp only [setiV, h, hk, if_pos hz]
@[simp] theorem setiV_ref {r : Nat} {v y : LV} : setiV v (.ref r) y σ L = match L.at_ r with
      | some (.lst xs) => match y with
        | .int k => match ixN xs.length k with
          | some j => .ok (.nx, σ) (L.put r (.lst (xs.set j v)))
          | none => .bad
        | _ => .bad
      | some (.dct kvs) => match keyOf y with
        | some k => if kvs.length < sizeLine then .ok (.nx, σ) (L.put r (.dct (dput kvs k v))) else .bad
        | none => .bad
      | _ => .bad := rfl
@[simp] theorem s_seti {o i e : LE} : evS F (.seti o i e) σ L = (evE F e σ L).bind fun v L1 => (evE F o σ L1).bind fun x L2 => (evE F i σ L2).bind fun y L3 => setiV v x y σ L3 := by simp only [evS]; rfl
@[simp] theorem s_unp {is : List Nat} {e : LE} : evS F (.unp is e) σ L = (evE F e σ L).bind fun v L1 => (ofOpt (tgt (.tup is) v σ L1) L1).bind fun σ' L2 => .ok (.nx, σ') L2 := by simp only [evS]
@[simp] theorem tgt_name {i : Nat} {v : LV} : tgt (.name i) v σ L = some (σ.set i (some v)) := (rfl)
@[simp] theorem tgt_tup {is : List Nat} {xs : List LV} : tgt (.tup is) (.tup xs) σ L = if xs.length = is.length then some (setAll is xs σ) else none := (rfl)
@[simp] theorem setAll_nil : setAll [] [] σ = σ := (rfl)
@[simp] theorem setAll_cons {i : Nat} {is : List Nat} {v : LV} {vs : List LV} : setAll (i :: is) (v :: vs) σ = setAll is vs (σ.set i (some v)) := (rfl)
@[simp] theorem s_par {i j : Nat} {a b : LE} : evS F (.par i j a b) σ L = (evE F a σ L).bind fun x L1 => (evE F b σ L1).bind fun y L2 => .ok (.nx, (σ.set i (some x)).set j (some y)) L2 := by simp only [evS]
@[simp] theorem s_expr {e : LE} : evS F (.expr e) σ L = (evE F e σ L).bind fun _ L1 => .ok (.nx, σ) L1 := by simp only [evS]
@[simp] theorem s_ret {e : LE} : evS F (.ret e) σ L = (evE F e σ L).bind fun v L1 => .ok (.ret v, σ) L1 := by simp only [evS]
@[simp] theorem s_retN : evS F .retN σ L = .ok (.ret .non, σ) L := by simp only [evS]
@[simp] theorem s_if {c : LE} {a b : LSs} : evS F (.ifs c a b) σ L = (evT F c σ L).bind fun k L1 => if k = true then evSs F a σ L1 else evSs F b σ L1 := by simp only [evS]
@[simp] theorem s_pass : evS F .pass σ L = .ok (.nx, σ) L := by simp only [evS]
@[simp] theorem s_never : evS F .never σ L = .bad := by simp only [evS]
@[simp] theorem then_bad {k : LSt → LH → Out (Fl × LSt)} : thenS .bad k = .bad := (rfl)
@[simp] theorem s_brk : evS F .brk σ L = .ok (.brk, σ) L := by simp only [evS]
@[simp] theorem s_cont : evS F .cont σ L = .ok (.cont, σ) L := by simp only [evS]
theorem s_while {c : LE} {b : LSs} : evS F (.while c b) σ L = whileL (evT F c) (evSs F b) F.w σ L := by simp only [evS]
noncomputable def forB (F : Fn) (tg : LTg) (b : LSs) (x : LV) (σ : LSt) (L : LH) : Out (Fl × LSt) := match tgt tg x σ L with
      | none => .bad
      | some σ2 => evSs F b σ2 L
theorem s_for {tg : LTg} {it : LI} {b : LSs} : evS F (.for tg it b) σ L = (evI F it σ L).bind fun S L1 => forL S (forB F tg b) S.items σ L1 := by
  simp only [evS]
  rfl
theorem fori_ok {is : List Nat} {a : LE} {b : LSs} {i : Nat} {kvs : List (Key × LV)} (h1 : evE F a σ L = .ok (.ref i) L) (h2 : L.at_ i = some (.dct kvs)) (h3 : evE F a σ (L.hide i) = .ok (.ref i) (L.hide i)) :
    evS F (.fori is a b) σ L = (forL (.vals (dctItems kvs)) (forB F (.tup is) b) (dctItems kvs) σ (L.hide i)).bind fun p L' => .ok p (L'.put i (.dct kvs)) := by
  simp only [evS, h1, h2, if_pos h3]
  rfl
theorem hide_ne {i x : Nat} (h : x ≠ i) : (L.hide i).at_ x = L.at_ x := by
  show (if x = i then none else L.at_ x) = _
  rw [if_neg h]
@[simp] theorem hide_n {i : Nat} : (L.hide i).n = L.n := (rfl)
theorem forV_nil {xs : List LV} {body : LV → LSt → LH → Out (Fl × LSt)} : forL (.vals xs) body [] σ L = .ok (.nx, σ) L := by
  unfold forL
  exact if_pos trivial
/-- behind a turn -/
def turnS (o : Out (Fl × LSt)) (k : LSt → LH → Out (Fl × LSt)) : Out (Fl × LSt) := o.bind fun p L' => match p.1 with
      | .nx => k p.2 L'
      | .cont => k p.2 L'
      | .brk => .ok (.nx, p.2) L'
      | .ret v => .ok (.ret v, p.2) L'
@[simp] theorem turn_nx {k : LSt → LH → Out (Fl × LSt)} : turnS (.ok (.nx, σ) L) k = k σ L := (rfl)
@[simp] theorem turn_cont {k : LSt → LH → Out (Fl × LSt)} : turnS (.ok (.cont, σ) L) k = k σ L := (rfl)
@[simp] theorem turn_brk {k : LSt → LH → Out (Fl × LSt)} : turnS (.ok (.brk, σ) L) k = .ok (.nx, σ) L := (rfl)
@[simp] theorem turn_ret {v : LV} {k : LSt → LH → Out (Fl × LSt)} : turnS (.ok (.ret v, σ) L) k = .ok (.ret v, σ) L := (rfl)
theorem forV_cons {xs ys : List LV} {x : LV} {body : LV → LSt → LH → Out (Fl × LSt)} : forL (.vals xs) body (x :: ys) σ L = turnS (body x σ L) fun σ' L' => forL (.vals xs) body ys σ' L' := by
  rw [forL, if_pos (show Keeps L (.vals xs) from trivial)]
  rfl
theorem forR_nil {r : Nat} {xs : List LV} {body : LV → LSt → LH → Out (Fl × LSt)} (h : L.at_ r = some (.lst xs)) : forL (.lst r xs) body [] σ L = .ok (.nx, σ) L := by
  unfold forL
  exact if_pos h
theorem forR_cons {r : Nat} {xs ys : List LV} {x : LV} {body : LV → LSt → LH → Out (Fl × LSt)} (h : L.at_ r = some (.lst xs)) : forL (.lst r xs) body (x :: ys) σ L = turnS (body x σ L) fun σ' L' => forL (.lst r xs) body ys σ' L' := by
  rw [forL, if_pos (show Keeps L (.lst r xs) from h)]
  rfl
theorem while_S {c : LSt → LH → Out Bool} {body : LSt → LH → Out (Fl × LSt)} {n : Nat} : whileL c body (n + 1) σ L = (c σ L).bind fun b L1 => if b = true then turnS (body σ L1) (whileL c body n) else .ok (.nx, σ) L1 := by
  rw [whileL]
  rfl
@[simp] theorem wipe_nil : wipeL σ [] = σ := (rfl)
@[simp] theorem wipe_cons {i : Nat} {is : List Nat} : wipeL σ (i :: is) = (wipeL σ is).set i none := (rfl)
end
end LG
end

section
set_option Elab.async false
set_option linter.all false
set_option maxRecDepth 100000
set_option maxHeartbeats 4000000
namespace K87
open LG
theorem i25 {i : Nat} (h : i < 25) : i = 0 ∨ i = 1 ∨ i = 2 ∨ i = 3 ∨ i = 4 ∨ i = 5 ∨ i = 6 ∨ i = 7 ∨ i = 8 ∨ i = 9 ∨ i = 10 ∨ i = 11 ∨ i = 12 ∨ i = 13 ∨ i = 14 ∨ i = 15 ∨ i = 16 ∨ i = 17 ∨ i = 18 ∨ i = 19 ∨ i = 20 ∨ i = 21 ∨ i = 22 ∨ i = 23 ∨ i = 24 := by omega
/-- how many values an operation takes, pushes; how many arguments it has -/
def tk (i : Nat) : Int := [0, 0, 1, 0, 0, 0, 1, 1, 1, 2, 2, 2, 2, 2, 2, 2, 2, 2, 2, 2, 0, 1, 0, 0, 0].getD i 0
def pu (i : Nat) : Int := [1, 1, 0, 1, 1, 1, 0, 1, 1, 1, 1, 1, 1, 1, 1, 1, 1, 1, 1, 1, 0, 0, 0, 0, 0].getD i 0
def ac (i : Nat) : Int := [1, 1, 1, 0, 1, 0, 0, 0, 0, 0, 0, 0, 0, 0, 0, 0, 0, 0, 0, 0, 1, 1, 2, 1, 0].getD i 0
theorem clamp_ok (k : Nat) (n : Int) (L : LH) : run mo.pg (k + 1) 0 [.int n] L = .ok (.int (max (-999999) (min n 999999))) L := by
  rw [Mo.run_succ (d := d0) rfl rfl]
  have g0 : mo.pg.glo 0 = some (.int 999999) := rfl
  have g1 : mo.pg.glo 1 = some (.int (-999999)) := rfl
  by_cases h1 : n < -999999 <;> by_cases h2 : 999999 < n <;> simp [d0, g0, g1, h1, h2] <;> omega
theorem saturate_ok (k : Nat) (n top : Int) (L : LH) (h : 0 ≤ top) : run mo.pg (k + 1) 1 [.int n, .int top] L = .ok (.int (max 0 (min n top))) L := by
  rw [Mo.run_succ (d := d1) rfl rfl]
  by_cases h1 : n < 0 <;> by_cases h2 : top < n <;> simp [d1, h1, h2] <;> omega
theorem argument_count_ok (k : Nat) (i : Nat) (hi : i < 25) (L : LH) : run mo.pg (k + 1) 2 [.str (cs i)] L = .ok (.int (ac i)) L := by
  rw [Mo.run_succ (d := d2) rfl rfl]
  have g : mo.pg.kd 0 = some [(cs 0, (.int 1)), (cs 1, (.int 1)), (cs 2, (.int 1)), (cs 4, (.int 1)), (cs 20, (.int 1)), (cs 21, (.int 1)), (cs 22, (.int 2)), (cs 23, (.int 1))] := rfl
  rcases i25 hi with h | h | h | h | h | h | h | h | h | h | h | h | h | h | h | h | h | h | h | h | h | h | h | h | h <;> subst h <;> simp [d2, g, kgetV, List.lookup, ac]
theorem g_bin : mo.pg.glo 3 = some (.tup ([9, 10, 11, 12, 13, 14, 15, 16, 17, 18, 19].map fun i => .str (cs i))) := rfl
theorem g_un : mo.pg.glo 4 = some (.tup ([7, 8].map fun i => .str (cs i))) := rfl
theorem g_pu : mo.pg.glo 5 = some (.tup ([0, 1, 3, 4, 5].map fun i => .str (cs i))) := rfl
theorem taken_ok (k : Nat) (i : Nat) (hi : i < 25) (L : LH) : run mo.pg (k + 1) 3 [.str (cs i)] L = .ok (.int (tk i)) L := by
  rw [Mo.run_succ (d := d3) rfl rfl]
  rcases i25 hi with h | h | h | h | h | h | h | h | h | h | h | h | h | h | h | h | h | h | h | h | h | h | h | h | h <;> subst h <;> simp [d3, g_bin, g_un, tk]
theorem pushed_ok (k : Nat) (i : Nat) (hi : i < 25) (L : LH) : run mo.pg (k + 1) 4 [.str (cs i)] L = .ok (.int (pu i)) L := by
  rw [Mo.run_succ (d := d4) rfl rfl]
  rcases i25 hi with h | h | h | h | h | h | h | h | h | h | h | h | h | h | h | h | h | h | h | h | h | h | h | h | h <;> subst h <;> simp [d4, g_bin, g_un, g_pu, pu]
end K87
end

section
set_option Elab.async false
set_option linter.all false
set_option maxRecDepth 100000
set_option maxHeartbeats 4000000
namespace K87
open PySem LG
/-! the law's own helpers -/
def bagL (c a f : Int) : LO := .lst [.int c, .int a, .int f]
section
variable {L : LH} {k : Nat}
theorem bag_ok {xs : List LV} {ns : List Int} (h : xs = ns.map LV.int) : ∃ c a f, run mo.pg (k + 1) 22 [.scr xs, .int 0] L = .ok (.ref L.n) (L.new (bagL c a f)) := by
  rw [Mo.run_succ (d := d22) rfl rfl]
  have hp : ∀ L' : LH, binV .pow (.int 10) (.int 18) L' = .ok (.int 1000000000000000000) L' := fun L' => bin_pow (by decide)
  have hm : ∀ (c : Int) (L' : LH), binV .mul (.int 2) (.int c) L' = .ok (.int (2 * c)) L' := fun c L' => bin_mul (.inl (by omega))
  cases ns with
  | nil =>
    subst h
    exact ⟨0, 0, 0, by simp [d22, hp, bagL]⟩
  | cons n ns =>
    subst h
    have h0 : ∀ L' : LH, atX ((n :: ns).map LV.int) 0 L' = .ok (.int n) L' := fun L' => by simp
    have hl : (0 : Int) < ((ns.length + 1 : Nat) : Int) := by omega
    by_cases h1 : n < 0
    · by_cases h2 : (1000000000000000000 : Int) ≤ 1 - 2 * n
      · exact ⟨1 - 2 * n - 1000000000000000000, 0, 1, by simp [d22, hp, hm, bagL, h1, h2, hl]⟩
      · exact ⟨1 - 2 * n, 0, 0, by simp [d22, hp, hm, bagL, h1, h2, hl]⟩
    · by_cases h2 : (1000000000000000000 : Int) ≤ n
      · exact ⟨n - 1000000000000000000, 0, 1, by simp [d22, hp, hm, bagL, h1, h2, hl]⟩
      · exact ⟨n, 0, 0, by simp [d22, hp, hm, bagL, h1, h2, hl]⟩
theorem take_ok {b : Nat} {c a f many : Int} (hb : L.at_ b = some (bagL c a f)) (h0 : 0 < many) (h1 : many < 1073741824) : ∃ d c' a', run mo.pg (k + 1) 23 [.ref b, .int many] L = .ok (.int d) (L.put b (bagL c' a' f)) ∧ 0 ≤ d ∧ d < many := by
  rw [Mo.run_succ (d := d23) rfl rfl]
  have x0 : ∀ (c a : Int) (L' : LH), L'.at_ b = some (bagL c a f) → idxV (.ref b) (.int 0) L' = .ok (.int c) L' := fun c a L' h => by rw [idx_lst h]; rfl
  have x1 : ∀ (c a : Int) (L' : LH), L'.at_ b = some (bagL c a f) → idxV (.ref b) (.int 1) L' = .ok (.int a) L' := fun c a L' h => by rw [idx_lst h]; rfl
  have x2 : ∀ (c a : Int) (L' : LH), L'.at_ b = some (bagL c a f) → idxV (.ref b) (.int 2) L' = .ok (.int f) L' := fun c a L' h => by rw [idx_lst h]; rfl
  have b0 := x0 c a L hb
  have b1 := x1 c a L hb
  have b2 := x2 c a L hb
  have hmod : ∀ (i : Int) (L' : LH), binV .mod (.int i) (.int many) L' = .ok (.int (i % many)) L' := fun i L' => bin_mod h0
  have hdiv : ∀ (i : Int) (L' : LH), binV .fdiv (.int i) (.int many) L' = .ok (.int (i / many)) L' := fun i L' => bin_div h0 h1
  have s0 : ∀ (v : LV) (σ : LSt), setiV v (.ref b) (.int 0) σ L = .ok (.nx, σ) (L.put b (.lst [v, .int a, .int f])) := fun v σ => seti_lst (xs := [.int c, .int a, .int f]) (j := 0) hb (by simp [L2.ixN])
  have s1 : ∀ (v : LV) (σ : LSt), setiV v (.ref b) (.int 1) σ L = .ok (.nx, σ) (L.put b (.lst [.int c, v, .int f])) := fun v σ => seti_lst (xs := [.int c, .int a, .int f]) (j := 1) hb (by simp [L2.ixN])
  by_cases hf : f = 1 ∧ 1 < c
  · obtain ⟨rfl, hc⟩ := hf
    refine ⟨c % many, c / many, a, ?_, Int.emod_nonneg _ (by omega), Int.emod_lt_of_pos _ h0⟩
    simp [d23, b0, b2, hc, hmod, hdiv, s0, bagL, -setiV_ref]
  · have hL : (L.put b (.lst [.int c, .int (a + 1), .int f])).at_ b = some (bagL c (a + 1) f) := by simp [bagL]
    have y0 := x0 _ _ _ hL
    have y1 := x1 _ _ _ hL
    have m1 : ∀ L' : LH, binV .mul (.int c) (.int 48271) L' = .ok (.int (c * 48271)) L' := fun L' => bin_mul (.inr (by omega))
    have m2 : ∀ L' : LH, binV .mul (.int (a + 1)) (.int 69621) L' = .ok (.int ((a + 1) * 69621)) L' := fun L' => bin_mul (.inr (by omega))
    have m3 : ∀ L' : LH, binV .mul (.int (a + 1)) (.int 40692) L' = .ok (.int ((a + 1) * 40692)) L' := fun L' => bin_mul (.inr (by omega))
    have d1 : ∀ (i : Int) (L' : LH), binV .mod (.int i) (.int 2147483647) L' = .ok (.int (i % 2147483647)) L' := fun i L' => bin_mod (by omega)
    have d2 : ∀ (i : Int) (L' : LH), binV .mod (.int i) (.int 2147483399) L' = .ok (.int (i % 2147483399)) L' := fun i L' => bin_mod (by omega)
    have d3 : ∀ (i : Int) (L' : LH), binV .mod (.int i) (.int 1000000007) L' = .ok (.int (i % 1000000007)) L' := fun i L' => bin_mod (by omega)
    have d4 : ∀ (i : Int) (L' : LH), binV .fdiv (.int i) (.int 7) L' = .ok (.int (i / 7)) L' := fun i L' => bin_div (by omega) (by omega)
    have q1 : ∀ (i : Int) (L' : LH), binV .mul (.int (i % 2147483647)) (.int (i % 2147483647)) L' = .ok (.int ((i % 2147483647) * (i % 2147483647))) L' := fun i L' => bin_mul (.inl (by
      have := Int.emod_nonneg i (show (2147483647 : Int) ≠ 0 by omega)
      have := Int.emod_lt_of_pos i (show (0 : Int) < 2147483647 by omega)
      omega))
    have q2 : ∀ (i : Int) (L' : LH), binV .mul (.int (i % 2147483399)) (.int (i % 2147483399)) L' = .ok (.int ((i % 2147483399) * (i % 2147483399))) L' := fun i L' => bin_mul (.inl (by
      have := Int.emod_nonneg i (show (2147483399 : Int) ≠ 0 by omega)
      have := Int.emod_lt_of_pos i (show (0 : Int) < 2147483399 by omega)
      omega))
    have hcond : ¬ (f = 1) ∨ (f = 1 ∧ ¬ (1 < c)) := by omega
    have fin : ∃ e : Int, endOf (evSs (mo.F k) d23.body (List.map some [LV.ref b, .int many] ++ List.replicate (d23.N.length - d23.np) none) L) = .ok (.int (e % many)) (L.put b (bagL c (a + 1) f)) := by
      have one : Int := (c * 48271 + (a + 1) * 69621 + 12345) % 2147483647
      refine ⟨((((c * 48271 + (a + 1) * 69621 + 12345) % 2147483647 * ((c * 48271 + (a + 1) * 69621 + 12345) % 2147483647) + (a + 1) * 40692) % 2147483399 * (((c * 48271 + (a + 1) * 69621 + 12345) % 2147483647 * ((c * 48271 + (a + 1) * 69621 + 12345) % 2147483647) + (a + 1) * 40692) % 2147483399) + (c * 48271 + (a + 1) * 69621 + 12345) % 2147483647) % 1000000007) / 7, ?_⟩
      simp only [bagL]
      rcases hcond with hf | ⟨rfl, hc⟩
      · simp [d23, b1, b2, hf, s1, y0, y1, m1, m2, m3, d1, d2, d3, d4, q1, q2, hmod, -setiV_ref]
      · simp [d23, b0, b1, b2, hc, s1, y0, y1, m1, m2, m3, d1, d2, d3, d4, q1, q2, hmod, -setiV_ref]
    obtain ⟨e, he⟩ := fin
    exact ⟨e % many, c, a + 1, he, Int.emod_nonneg _ (by omega), Int.emod_lt_of_pos _ h0⟩
/-- a menu: one of its items -/
theorem pick_ok {b m : Nat} {c a f : Int} {xs : List LV} (hb : L.at_ b = some (bagL c a f)) (hm : L.at_ m = some (.lst xs)) (hne : b ≠ m) (h0 : xs ≠ []) (h1 : xs.length < 1000000) : ∃ v c' a', v ∈ xs ∧ run mo.pg (k + 2) 24 [.ref b, .ref m] L = .ok v (L.put b (bagL c' a' f)) := by
  rw [Mo.run_succ (d := d24) rfl rfl]
  have hl : bfV .len [.ref m] L = .ok (.int xs.length) L := len_lst hm
  have hpos : 0 < xs.length := List.length_pos_iff.mpr h0
  obtain ⟨d, c', a', e, d0, d1⟩ := take_ok (k := k) (many := (xs.length : Int)) hb (by omega) (by omega)
  have hd : d.toNat < xs.length := by omega
  have hx : idxV (.ref m) (.int d) (L.put b (bagL c' a' f)) = .ok xs[d.toNat] (L.put b (bagL c' a' f)) := by
    rw [idx_lst (xs := xs) (by rw [put_ne (Ne.symm hne)]; exact hm)]
    exact atX_some (by rw [atI_nn d0, List.getElem?_eq_getElem hd])
  exact ⟨xs[d.toNat], c', a', List.getElem_mem hd, by simp [d24, hl, e, hx]⟩
/-! ### _law_same -/
def Pl : Nat → LV → Prop
  | 0, x => (∃ i, x = .int i) ∨ (∃ s, x = .str s) ∨ (∃ b, x = .bl b) ∨ x = .non
  | n + 1, x => (∃ i, x = .int i) ∨ (∃ s, x = .str s) ∨ (∃ b, x = .bl b) ∨ x = .non ∨ ∃ xs, x = .tup xs ∧ xs.length < 1000000000 ∧ ∀ y ∈ xs, Pl n y
theorem same_flat {x : LV} (h : (∃ i, x = .int i) ∨ (∃ s, x = .str s) ∨ (∃ b, x = .bl b) ∨ x = .non) : run mo.pg (k + 1) 25 [x, x] L = .ok (.bl true) L := by
  rw [Mo.run_succ (d := d25) rfl rfl]
  rcases h with ⟨i, rfl⟩ | ⟨s, rfl⟩ | ⟨b, rfl⟩ | rfl <;> simp [d25, tyAny, tyIs]
theorem same_ok (n : Nat) : ∀ (x : LV) (L : LH), Pl n x → run mo.pg (k + n + 1) 25 [x, x] L = .ok (.bl true) L := by
  induction n with
  | zero => exact fun x L h => same_flat h
  | succ n ihn =>
    intro x L h
    rcases h with h | h | h | h | ⟨xs, rfl, hl, hx⟩
    · exact same_flat (.inl h)
    · exact same_flat (.inr (.inl h))
    · exact same_flat (.inr (.inr (.inl h)))
    · exact same_flat (.inr (.inr (.inr h)))
    · rw [Mo.run_succ (d := d25) rfl rfl]
      have loop : ∀ (S : List LV) (ks : List Nat) (y : Option LV), (∀ j ∈ ks, j < xs.length) → ∃ y', forL (.vals S) (forB (mo.F (k + n + 1)) (.name 2) (.cons (.ifs (.not (.call 25 (.cons (.idx (.var 0) (.var 2)) (.cons (.idx (.var 1) (.var 2)) .nil)))) (.cons (.ret (.con (.bl false))) .nil) .nil) .nil)) (ks.map fun (j : Nat) => LV.int (j : Int)) [some (.tup xs), some (.tup xs), y] L = .ok (.nx, [some (.tup xs), some (.tup xs), y']) L := by
        intro S ks
        induction ks with
        | nil => exact fun y _ => ⟨y, forV_nil⟩
        | cons j ks ih =>
          intro y hj
          have hjl := hj j List.mem_cons_self
          obtain ⟨y', e⟩ := ih (some (.int j)) fun i hi => hj i (List.mem_cons_of_mem _ hi)
          refine ⟨y', ?_⟩
          have hat : atX xs (j : Int) L = .ok xs[j] L := atX_some (by rw [atI_nat, List.getElem?_eq_getElem hjl])
          have hs := ihn xs[j] L (hx _ (List.getElem_mem hjl))
          rw [List.map_cons, forV_cons]
          simp [forB, hat, hs, e]
      have hrl : rngL 0 xs.length = (List.range xs.length).map fun (j : Nat) => LV.int (j : Int) := by unfold rngL; simp
      obtain ⟨y', e⟩ := loop (rngL 0 xs.length) (List.range xs.length) none (fun j hj => List.mem_range.mp hj)
      rw [← hrl] at e
      simp only [Nat.add_assoc] at e
      obtain ⟨R, hR⟩ : ∃ R, d25.body = .cons (.ifs (.ors (.cons (.isin (.var 1) [.tuple]) (.cons (.isin (.var 1) [.list]) .nil)))
        (.cons (.ifs (.ors (.cons (.cmp .ne (.isin (.var 1) [.tuple]) (.isin (.var 0) [.tuple])) (.cons (.cmp .ne (.isin (.var 1) [.list]) (.isin (.var 0) [.list])) .nil))) (.cons (.ret (.con (.bl false))) .nil) .nil)
        (.cons (.ifs (.cmp .ne (.bf .len (.cons (.var 0) .nil)) (.bf .len (.cons (.var 1) .nil))) (.cons (.ret (.con (.bl false))) .nil) .nil)
        (.cons (.for (.name 2) (.rng1 (.bf .len (.cons (.var 1) .nil))) (.cons (.ifs (.not (.call 25 (.cons (.idx (.var 0) (.var 2)) (.cons (.idx (.var 1) (.var 2)) .nil)))) (.cons (.ret (.con (.bl false))) .nil) .nil) .nil))
        (.cons (.ret (.con (.bl true))) .nil)))) .nil) R := ⟨_, rfl⟩
      rw [hR]
      have ty1 : tyAny L (.tup xs) [.tuple] = some true := rfl
      have ty2 : tyAny L (.tup xs) [.list] = some false := rfl
      have es : (List.map some [LV.tup xs, LV.tup xs] ++ List.replicate (d25.N.length - d25.np) none) = [some (.tup xs), some (.tup xs), none] := rfl
      rw [es, ss_cons, s_if]
      generalize hF : mo.F (k + (n + 1)) = F at e
      have h1 : evT F (.ors (.cons (.isin (.var 1) [.tuple]) (.cons (.isin (.var 1) [.list]) .nil))) [some (.tup xs), some (.tup xs), none] L = .ok true L := by simp [ty1]
      have h2 : evT F (.ors (.cons (.cmp .ne (.isin (.var 1) [.tuple]) (.isin (.var 0) [.tuple])) (.cons (.cmp .ne (.isin (.var 1) [.list]) (.isin (.var 0) [.list])) .nil))) [some (.tup xs), some (.tup xs), none] L = .ok false L := by simp [ty1, ty2]
      have h3 : evT F (.cmp .ne (.bf .len (.cons (.var 0) .nil)) (.bf .len (.cons (.var 1) .nil))) [some (.tup xs), some (.tup xs), none] L = .ok false L := by simp
      have h4 : evI F (.rng1 (.bf .len (.cons (.var 1) .nil))) [some (.tup xs), some (.tup xs), none] L = .ok (.vals (rngL 0 xs.length)) L := i_rng1_nat (by simp) hl
      have h5 : ∀ b : LSs, evS F (.for (.name 2) (.rng1 (.bf .len (.cons (.var 1) .nil))) b) [some (.tup xs), some (.tup xs), none] L = forL (.vals (rngL 0 xs.length)) (forB F (.name 2) b) (rngL 0 xs.length) [some (.tup xs), some (.tup xs), none] L := fun b => by rw [s_for, h4]; rfl
      rw [h1, bind_ok, if_pos rfl, ss_cons, s_if, h2, bind_ok, if_neg Bool.false_ne_true, ss_nil, then_nx, ss_cons, s_if, h3, bind_ok, if_neg Bool.false_ne_true, ss_nil, then_nx, ss_cons, h5, e, then_nx, ss_cons, s_ret, e_con, bind_ok, then_ret, then_ret, endOf_ret]
end
end K87
end

section
set_option Elab.async false
set_option linter.all false
set_option maxRecDepth 100000
set_option maxHeartbeats 4000000
/-! LG16: comprehensions: what they gather; heaps that only grow. -/
namespace LG
open PySem PySem.Spec PyProof.Rows L2
/-- nothing old changes -/
def Ext (L L' : LH) : Prop := L.n ≤ L'.n ∧ ∀ z, z < L.n → L'.at_ z = L.at_ z
/-- nothing old changes but r -/
def Ext1 (r : Nat) (L L' : LH) : Prop := L.n ≤ L'.n ∧ ∀ z, z < L.n → z ≠ r → L'.at_ z = L.at_ z
theorem Ext.rfl {L : LH} : Ext L L := ⟨Nat.le_refl _, fun _ _ => Eq.refl _⟩
theorem Ext.trans {A B C : LH} (h : Ext A B) (g : Ext B C) : Ext A C := ⟨Nat.le_trans h.1 g.1, fun z hz => (g.2 z (Nat.lt_of_lt_of_le hz h.1)).trans (h.2 z hz)⟩
theorem Ext1.rfl {r : Nat} {L : LH} : Ext1 r L L := ⟨Nat.le_refl _, fun _ _ _ => Eq.refl _⟩
theorem Ext1.trans {r : Nat} {A B C : LH} (h : Ext1 r A B) (g : Ext1 r B C) : Ext1 r A C := ⟨Nat.le_trans h.1 g.1, fun z hz hr => (g.2 z (Nat.lt_of_lt_of_le hz h.1) hr).trans (h.2 z hz hr)⟩
theorem Ext.one {r : Nat} {A B : LH} (h : Ext A B) : Ext1 r A B := ⟨h.1, fun z hz _ => h.2 z hz⟩
theorem Ext.new {L : LH} {o : LO} : Ext L (L.new o) := ⟨Nat.le_succ _, fun z hz => new_ne (Nat.ne_of_lt hz)⟩
theorem Ext.put {L A : LH} {a : Nat} {o : LO} (h : Ext L A) (ha : L.n ≤ a) : Ext L (A.put a o) := ⟨h.1, fun z hz => by rw [put_ne (by omega)]; exact h.2 z hz⟩
theorem Ext1.put {r : Nat} {L A : LH} {o : LO} (h : Ext1 r L A) : Ext1 r L (A.put r o) := ⟨h.1, fun z hz hr => by rw [put_ne hr]; exact h.2 z hz hr⟩
theorem Ext1.put2 {r a : Nat} {L A : LH} {o : LO} (h : Ext1 r L A) (ha : L.n ≤ a) : Ext1 r L (A.put a o) := ⟨h.1, fun z hz hr => by rw [put_ne (by omega)]; exact h.2 z hz hr⟩
theorem compV_nil {S : List LV} {D : Nat} {body : LV → LH → Out (Option LV)} {L : LH} : compL (.vals S) D body [] L = .ok () L := by
  unfold compL
  exact if_pos trivial
theorem compV_cons {S : List LV} {D : Nat} {body : LV → LH → Out (Option LV)} {x : LV} {xs : List LV} {L : LH} : compL (.vals S) D body (x :: xs) L = (body x L).bind fun r L' => match r with
      | none => compL (.vals S) D body xs L'
      | some v => match L'.at_ D with
        | some (.lst acc) => if acc.length < sizeLine then compL (.vals S) D body xs (L'.put D (.lst (acc ++ [v]))) else .bad
        | _ => .bad := by
  rw [compL, if_pos (show Keeps L (.vals S) from trivial)]
  all_goals rfl
theorem comp2V_nil {S : List LV} {body : LV → LH → Out Unit} {L : LH} : comp2L (.vals S) body [] L = .ok () L := by
  unfold comp2L
  exact if_pos trivial
theorem comp2V_cons {S : List LV} {body : LV → LH → Out Unit} {x : LV} {xs : List LV} {L : LH} : comp2L (.vals S) body (x :: xs) L = (body x L).bind fun _ L' => comp2L (.vals S) body xs L' := by
  rw [comp2L, if_pos (show Keeps L (.vals S) from trivial)]
section
variable {S : List LV} {D : Nat} {α : Type} {f : α → LV}
/-- turns that leave the heap alone -/
theorem compV_pure {body : LV → LH → Out (Option LV)} {g : α → Option LV} {G : LH → Prop} (hG : ∀ L o, G L → G (L.put D o)) : ∀ (as : List α) (acc : List LV) (L : LH), (∀ a ∈ as, ∀ L, G L → body (f a) L = .ok (g a) L) → G L → L.at_ D = some (.lst acc) → acc.length + as.length ≤ sizeLine →
    ∃ L', compL (.vals S) D body (as.map f) L = .ok () L' ∧ G L' ∧ L'.n = L.n ∧ L'.at_ D = some (.lst (acc ++ as.filterMap g)) ∧ ∀ z, z ≠ D → L'.at_ z = L.at_ z
  | [], acc, L, _, h, hd, _ => ⟨L, compV_nil, h, rfl, by simpa using hd, fun _ _ => rfl⟩
  | a :: as, acc, L, hb, h, hd, hz => by
    have e := hb a List.mem_cons_self L h
    simp only [List.length_cons] at hz
    rw [List.map_cons, compV_cons, e]
    cases hg : g a with
    | none =>
      obtain ⟨L', e1, e2, e3, e4, e5⟩ := compV_pure hG as acc L (fun x hx => hb x (List.mem_cons_of_mem _ hx)) h hd (by omega)
      exact ⟨L', e1, e2, e3, by rw [List.filterMap_cons, hg]; exact e4, e5⟩
    | some v =>
      obtain ⟨L', e1, e2, e3, e4, e5⟩ := compV_pure hG as (acc ++ [v]) (L.put D (.lst (acc ++ [v]))) (fun x hx => hb x (List.mem_cons_of_mem _ hx)) (hG _ _ h) (by simp) (by simp; omega)
      refine ⟨L', ?_, e2, e3, by rw [List.filterMap_cons, hg]; simpa using e4, fun z hz => (e5 z hz).trans (put_ne hz)⟩
      simp only [bind_ok, hd]
      rw [if_pos (by omega)]
      exact e1
/-- two sources -/
theorem comp2V_pure {body : LV → LH → Out Unit} {h : α → List LV} {G : LH → Prop} (hG : ∀ L o, G L → G (L.put D o)) : ∀ (as : List α) (acc : List LV) (L : LH), (∀ a ∈ as, ∀ L acc, G L → L.at_ D = some (.lst acc) → acc.length + (h a).length ≤ sizeLine → ∃ L', body (f a) L = .ok () L' ∧ G L' ∧ L'.n = L.n ∧ L'.at_ D = some (.lst (acc ++ h a)) ∧ ∀ z, z ≠ D → L'.at_ z = L.at_ z) → G L → L.at_ D = some (.lst acc) → acc.length + (as.flatMap h).length ≤ sizeLine →
    ∃ L', comp2L (.vals S) body (as.map f) L = .ok () L' ∧ G L' ∧ L'.n = L.n ∧ L'.at_ D = some (.lst (acc ++ as.flatMap h)) ∧ ∀ z, z ≠ D → L'.at_ z = L.at_ z
  | [], acc, L, _, hL, hd, _ => ⟨L, comp2V_nil, hL, rfl, by simpa using hd, fun _ _ => rfl⟩
  | a :: as, acc, L, hb, hL, hd, hz => by
    rw [List.flatMap_cons, List.length_append] at hz
    obtain ⟨L1, p1, p2, p3, p4, p5⟩ := hb a List.mem_cons_self L acc hL hd (by omega)
    obtain ⟨L', e1, e2, e3, e4, e5⟩ := comp2V_pure hG as (acc ++ h a) L1 (fun x hx => hb x (List.mem_cons_of_mem _ hx)) p2 p4 (by rw [List.length_append]; omega)
    refine ⟨L', ?_, e2, e3.trans p3, by rw [e4, List.flatMap_cons, List.append_assoc], fun z hz => (e5 z hz).trans (p5 z hz)⟩
    rw [List.map_cons, comp2V_cons, p1, bind_ok]
    exact e1
/-- many times a plain reader -/
def manyF {σ α : Type} (p : σ → Option (α × σ)) : Nat → σ → Option (List α × σ)
  | 0, s => some ([], s)
  | n + 1, s => (p s).bind fun r => (manyF p n r.2).map fun q => (r.1 :: q.1, q.2)
theorem manyF_len {σ α : Type} {p : σ → Option (α × σ)} : ∀ {n : Nat} {s : σ} {r : List α × σ}, manyF p n s = some r → r.1.length = n
  | 0, s, r, h => by cases h; rfl
  | n + 1, s, r, h => by
    rw [manyF] at h
    cases e : p s with
    | none => rw [e] at h; cases h
    | some q =>
      rw [e, Option.bind_some] at h
      cases e2 : manyF p n q.2 with
      | none => rw [e2] at h; cases h
      | some t =>
        rw [e2] at h
        cases h
        simp [manyF_len e2]
theorem compV_many {σ : Type} {body : LV → LH → Out (Option LV)} {p : σ → Option (α × σ)} {I : σ → LH → Prop} {r : Nat} (hr : D ≠ r) (hI : ∀ s L o, I s L → I s (L.put D o)) (hb : ∀ x L s a s', I s L → p s = some (a, s') → ∃ L', body x L = .ok (some (f a)) L' ∧ I s' L' ∧ Ext1 r L L') :
    ∀ (xs : List LV) (L : LH) (s : σ) (acc : List LV) (q : List α × σ), I s L → D < L.n → L.at_ D = some (.lst acc) → manyF p xs.length s = some q → acc.length + xs.length ≤ sizeLine →
      ∃ L', compL (.vals S) D body xs L = .ok () L' ∧ I q.2 L' ∧ L.n ≤ L'.n ∧ L'.at_ D = some (.lst (acc ++ q.1.map f)) ∧ ∀ z, z < L.n → z ≠ r → z ≠ D → L'.at_ z = L.at_ z
  | [], L, s, acc, q, h, hn, hd, hm, _ => by
    cases hm
    exact ⟨L, compV_nil, h, Nat.le_refl _, by simpa using hd, fun _ _ _ _ => rfl⟩
  | x :: xs, L, s, acc, q, h, hn, hd, hm, hz => by
    rw [List.length_cons, manyF] at hm
    cases e : p s with
    | none => rw [e] at hm; cases hm
    | some t =>
      rw [e, Option.bind_some] at hm
      cases e2 : manyF p xs.length t.2 with
      | none => rw [e2] at hm; cases hm
      | some u =>
        rw [e2] at hm
        cases hm
        simp only [List.length_cons] at hz
        obtain ⟨L1, p1, p2, p3⟩ := hb x L s t.1 t.2 h e
        have hd1 : L1.at_ D = some (.lst acc) := by rw [p3.2 D hn hr]; exact hd
        obtain ⟨L', e1, e3, e4, e5, e6⟩ := compV_many hr hI hb xs (L1.put D (.lst (acc ++ [f t.1]))) t.2 (acc ++ [f t.1]) u (hI _ _ _ p2) (Nat.lt_of_lt_of_le hn p3.1) (by simp) e2 (by simp; omega)
        refine ⟨L', ?_, e3, Nat.le_trans p3.1 e4, by simpa using e5, fun z h1 h2 h3 => (e6 z (Nat.lt_of_lt_of_le h1 p3.1) h2 h3).trans ((put_ne h3).trans (p3.2 z h1 h2))⟩
        rw [compV_cons, p1]
        simp only [bind_ok, hd1]
        rw [if_pos (by omega)]
        exact e1
end
/-! the list that a slice, a sum is -/
theorem sIx_nn {n d : Nat} {v : Int} (h : 0 ≤ v) : HT.sIx n d (some v) = min v.toNat n := by
  show (if v < 0 then (v + (n : Int)).toNat else min v.toNat n) = _
  rw [if_neg (by omega)]
theorem cut_nn {α : Type} {xs : List α} {a : Nat} {l : Nat} : cut xs (some (a : Int)) (some ((a : Int) + (l : Int))) = (xs.drop a).take l := by
  unfold cut
  rw [sIx_nn (by omega), sIx_nn (by omega)]
  have e : ((a : Int) + (l : Int)).toNat = a + l := by omega
  rw [e, Int.toNat_natCast]
  by_cases h : a ≤ xs.length
  · rw [Nat.min_eq_left h]
    by_cases h2 : a + l ≤ xs.length
    · rw [Nat.min_eq_left h2]; congr 1; omega
    · rw [Nat.min_eq_right (by omega), List.take_of_length_le (by rw [List.length_drop]; omega), List.take_of_length_le (by rw [List.length_drop]; omega)]
  · rw [Nat.min_eq_right (show xs.length ≤ a by omega), List.drop_of_length_le (Nat.le_refl xs.length), List.drop_of_length_le (show xs.length ≤ a by omega)]
    simp
theorem cut_from {α : Type} {xs : List α} {a : Nat} : cut xs (some (a : Int)) none = xs.drop a := by
  unfold cut
  rw [sIx_nn (by omega), Int.toNat_natCast, show HT.sIx xs.length xs.length none = xs.length from rfl]
  by_cases h : a ≤ xs.length
  · rw [Nat.min_eq_left h, List.take_of_length_le (by rw [List.length_drop]; omega)]
  · rw [Nat.min_eq_right (show xs.length ≤ a by omega), List.drop_of_length_le (Nat.le_refl xs.length), List.drop_of_length_le (show xs.length ≤ a by omega)]
    simp
theorem cut_init {α : Type} {xs : List α} : cut xs none (some (-1)) = xs.dropLast := by
  unfold cut
  rw [show HT.sIx xs.length 0 none = 0 from rfl, show HT.sIx xs.length xs.length (some (-1)) = (-1 + (xs.length : Int)).toNat from rfl, List.drop_zero, Nat.sub_zero, List.dropLast_eq_take]
  congr 1
  omega
theorem sumI_ints : ∀ {l : List Int}, sumI (l.map LV.int) = some l.sum
  | [] => rfl
  | x :: xs => by rw [List.map_cons, sumI, sumI_ints, List.sum_cons]; rfl
theorem bools_bl : ∀ {l : List Bool}, bools (l.map LV.bl) = some l
  | [] => rfl
  | x :: xs => by rw [List.map_cons, bools, bools_bl]; rfl
/-! equality of data -/
theorem cmp_eq_def {L : LH} {x y : LV} : cmpV L .eq x y = eqD L x y := by cases x <;> cases y <;> rfl
theorem cmp_ne_def {L : LH} {x y : LV} : cmpV L .ne x y = (eqD L x y).map (!·) := by cases x <;> cases y <;> rfl
end LG
namespace LG
open PySem PySem.Spec PyProof.Rows L2
/-- numbers from 0 -/
def natL (l : List Nat) : List LV := l.map fun (a : Nat) => LV.int (a : Int)
theorem natL_app {a b : List Nat} : natL (a ++ b) = natL a ++ natL b := List.map_append
@[simp] theorem natL_len {a : List Nat} : (natL a).length = a.length := List.length_map _
theorem natL_cast {l : List Nat} : natL l = (l.map fun (a : Nat) => (a : Int)).map LV.int := by unfold natL; rw [List.map_map]; rfl
theorem cast_sum : ∀ {l : List Nat}, (l.map fun (a : Nat) => (a : Int)).sum = ((l.sum : Nat) : Int)
  | [] => rfl
  | x :: xs => by rw [List.map_cons, List.sum_cons, List.sum_cons, cast_sum]; omega
theorem sumI_nat {l : List Nat} : sumI (natL l) = some ((l.sum : Nat) : Int) := by rw [natL_cast, sumI_ints, cast_sum]
theorem forS_nil {S : Src} {body : LV → LSt → LH → Out (Fl × LSt)} {σ : LSt} {L : LH} (h : Keeps L S) : forL S body [] σ L = .ok (.nx, σ) L := by
  unfold forL
  exact if_pos h
theorem forS_cons {S : Src} {body : LV → LSt → LH → Out (Fl × LSt)} {x : LV} {ys : List LV} {σ : LSt} {L : LH} (h : Keeps L S) : forL S body (x :: ys) σ L = turnS (body x σ L) fun σ' L' => forL S body ys σ' L' := by
  rw [forL, if_pos h]
  rfl
/-- a loop that gathers numbers in the list at N -/
theorem for_gather {α : Type} {tv : α → LV} {w : α → List Nat} {body : LV → LSt → LH → Out (Fl × LSt)} {N : Nat} {X : Type} {σf : X → LSt} {S : Src} : ∀ (as : List α) (acc : List Nat) (L : LH) (x : X),
    (∀ L', (∀ z, z < L.n → z ≠ N → L'.at_ z = L.at_ z) → Keeps L' S) →
    (∀ a ∈ as, ∀ L acc x, L.at_ N = some (.lst (natL acc)) → N < L.n → acc.length + (w a).length ≤ sizeLine → ∃ L' x', body (tv a) (σf x) L = .ok (.nx, σf x') L' ∧ L.n ≤ L'.n ∧ L'.at_ N = some (.lst (natL (acc ++ w a))) ∧ ∀ z, z < L.n → z ≠ N → L'.at_ z = L.at_ z) →
    L.at_ N = some (.lst (natL acc)) → N < L.n → acc.length + (as.flatMap w).length ≤ sizeLine →
    ∃ L' x', forL S body (as.map tv) (σf x) L = .ok (.nx, σf x') L' ∧ L.n ≤ L'.n ∧ L'.at_ N = some (.lst (natL (acc ++ as.flatMap w))) ∧ ∀ z, z < L.n → z ≠ N → L'.at_ z = L.at_ z
  | [], acc, L, x, hk, _, hN, hn, _ => ⟨L, x, forS_nil (hk L fun _ _ _ => rfl), Nat.le_refl _, by simpa using hN, fun _ _ _ => rfl⟩
  | a :: as, acc, L, x, hk, hb, hN, hn, hz => by
    rw [List.flatMap_cons, List.length_append] at hz
    obtain ⟨L1, x1, p1, p2, p3, p4⟩ := hb a List.mem_cons_self L acc x hN hn (by omega)
    obtain ⟨L', x', e1, e2, e3, e4⟩ := for_gather (tv := tv) (w := w) (body := body) (σf := σf) (S := S) as (acc ++ w a) L1 x1 (fun L' h => hk L' fun z hz hq => (h z (by omega) hq).trans (p4 z hz hq)) (fun b hb' => hb b (List.mem_cons_of_mem _ hb')) p3 (by omega) (by rw [List.length_append]; omega)
    refine ⟨L', x', ?_, by omega, by rw [e3, List.flatMap_cons, List.append_assoc], fun z hz hq => (e4 z (by omega) hq).trans (p4 z hz hq)⟩
    rw [List.map_cons, forS_cons (hk L fun _ _ _ => rfl), p1, turn_nx]
    exact e1
end LG
end

section
set_option Elab.async false
set_option linter.all false
set_option maxRecDepth 100000
set_option maxHeartbeats 4000000
namespace K87
open PySem LG
/-! drawing numbers -/
def BagAt (b : Nat) (L : LH) : Prop := b < L.n ∧ ∃ c a f, L.at_ b = some (bagL c a f)
theorem BagAt.ext {b : Nat} {L L' : LH} (h : BagAt b L) (x : Ext L L') : BagAt b L' := ⟨Nat.lt_of_lt_of_le h.1 x.1, by obtain ⟨c, a, f, e⟩ := h.2; exact ⟨c, a, f, by rw [x.2 _ h.1]; exact e⟩⟩
def Draw (F : Fn) (σ : LSt) (b : Nat) (e : LE) (P : Int → Prop) : Prop := ∀ L, BagAt b L → ∃ L' v, evE F e σ L = .ok (.int v) L' ∧ P v ∧ BagAt b L' ∧ Ext1 b L L'
def DrawAs (F : Fn) (σ : LSt) (b : Nat) (es : LEs) (P : Int → Prop) : Prop := ∀ L, BagAt b L → ∃ (L' : LH) (vs : List Int), evA F es σ L = .ok (vs.map LV.int) L' ∧ (∀ v ∈ vs, P v) ∧ vs.length = es.len ∧ BagAt b L' ∧ Ext1 b L L'
section
variable {k : Nat} {σ : LSt} {b : Nat} {P Q : Int → Prop} {e e2 : LE} {es : LEs} {F : Fn}
theorem Draw.mono (h : Draw F σ b e P) (hq : ∀ v, P v → Q v) : Draw F σ b e Q := fun L hL => by
  obtain ⟨L', v, h1, h2, h3⟩ := h L hL
  exact ⟨L', v, h1, hq v h2, h3⟩
theorem draw_con {c : Int} (h : P c) : Draw F σ b (.con (.int c)) P := fun L hL => ⟨L, c, e_con, h, hL, Ext1.rfl⟩
theorem draw_var {i : Nat} {c : Int} (hi : σ[i]? = some (some (.int c))) (h : P c) : Draw F σ b (.var i) P := fun L hL => ⟨L, c, by simp [hi], h, hL, Ext1.rfl⟩
theorem draw_add {R : Int → Prop} (h1 : Draw F σ b e P) (h2 : Draw F σ b e2 Q) (h : ∀ x y, P x → Q y → R (x + y)) : Draw F σ b (.bin .add e e2) R := fun L hL => by
  obtain ⟨L1, v, a1, a2, a3, a4⟩ := h1 L hL
  obtain ⟨L2, w, b1, b2, b3, b4⟩ := h2 L1 a3
  exact ⟨L2, v + w, by simp [a1, b1], h v w a2 b2, b3, a4.trans b4⟩
theorem draw_mul {R : Int → Prop} (h1 : Draw F σ b e P) (h2 : Draw F σ b e2 Q) (hs : ∀ x, P x → -1000000000 < x ∧ x < 1000000000) (h : ∀ x y, P x → Q y → R (x * y)) : Draw F σ b (.bin .mul e e2) R := fun L hL => by
  obtain ⟨L1, v, a1, a2, a3, a4⟩ := h1 L hL
  obtain ⟨L2, w, b1, b2, b3, b4⟩ := h2 L1 a3
  have hv := hs v a2
  have hm : ∀ L : LH, binV .mul (.int v) (.int w) L = .ok (.int (v * w)) L := fun L => bin_mul (.inl (by omega))
  exact ⟨L2, v * w, by simp [a1, b1, hm], h v w a2 b2, b3, a4.trans b4⟩
theorem draws_nil : DrawAs F σ b .nil P := fun L hL => ⟨L, [], by simp, fun _ h => (nomatch h), rfl, hL, Ext1.rfl⟩
theorem draws_cons (h1 : Draw F σ b e P) (h2 : DrawAs F σ b es P) : DrawAs F σ b (.cons e es) P := fun L hL => by
  obtain ⟨L1, v, a1, a2, a3, a4⟩ := h1 L hL
  obtain ⟨L2, vs, b1, b2, b3, b4, b5⟩ := h2 L1 a3
  refine ⟨L2, v :: vs, by simp [a1, b1], ?_, by rw [List.length_cons, b3]; rfl, b4, a4.trans b5⟩
  intro x hx
  rcases List.mem_cons.mp hx with rfl | hx
  · exact a2
  · exact b2 x hx
/-- _law_take -/
theorem draw_take {i : Nat} (hi : σ[i]? = some (some (.ref b))) (h : Draw (mo.F (k + 1)) σ b e fun m => 0 < m ∧ m < 1073741824 ∧ P m) : Draw (mo.F (k + 1)) σ b (.call 23 (.cons (.var i) (.cons e .nil))) fun v => 0 ≤ v ∧ ∃ m, P m ∧ v < m := fun L hL => by
  obtain ⟨L1, m, a1, ⟨a2, a3, a4⟩, ⟨hb, c, a, f, hc⟩, a6⟩ := h L hL
  obtain ⟨d, c', a', t1, t2, t3⟩ := take_ok (k := k) hc a2 a3
  refine ⟨L1.put b (bagL c' a' f), d, by simp [hi, a1, t1], ⟨t2, m, a4, t3⟩, ⟨by rw [LH.put_n]; exact hb, c', a', f, LH.put_same _ _ _⟩, a6.put⟩
theorem take_con {i : Nat} {m : Int} (hi : σ[i]? = some (some (.ref b))) (h0 : 0 < m) (h1 : m < 1073741824) : Draw (mo.F (k + 1)) σ b (.call 23 (.cons (.var i) (.cons (.con (.int m)) .nil))) fun v => 0 ≤ v ∧ v < m :=
  (draw_take (P := fun x => x = m) hi (draw_con ⟨h0, h1, rfl⟩)).mono fun v ⟨h1, x, h2, h3⟩ => ⟨h1, by rw [← h2]; exact h3⟩
/-- _law_pick from a list of drawn numbers -/
theorem draw_pick {i : Nat} (hi : σ[i]? = some (some (.ref b))) (h : DrawAs (mo.F (k + 2)) σ b es P) (h0 : 0 < es.len) (h1 : es.len < 1000000) : Draw (mo.F (k + 2)) σ b (.call 24 (.cons (.var i) (.cons (.lst es) .nil))) P := fun L hL => by
  have hline : sizeLine = 16777216 := rfl
  obtain ⟨L1, vs, a1, a2, a3, ⟨hb, c, a, f, hc⟩, a5⟩ := h L hL
  have hc1 : (L1.new (.lst (vs.map LV.int))).at_ b = some (bagL c a f) := by rw [new_ne (by omega)]; exact hc
  obtain ⟨v, c', a', p1, p2⟩ := pick_ok (k := k) hc1 (LH.new_same _ _) (by omega) (fun e => by
    have := congrArg List.length e
    simp at this
    subst this
    simp at a3
    omega) (by simp; omega)
  obtain ⟨w, hw, rfl⟩ := List.mem_map.mp p1
  have hl : lstV (vs.map LV.int) L1 = .ok (.ref L1.n) (L1.new (.lst (vs.map LV.int))) := lstV_ok (by simp; omega)
  refine ⟨(L1.new (.lst (vs.map LV.int))).put b (bagL c' a' f), w, by simp [hi, a1, hl, p2], a2 w hw, ⟨by simp; omega, c', a', f, LH.put_same _ _ _⟩, (a5.trans Ext.new.one).put⟩
end
end K87
end

section
set_option Elab.async false
set_option linter.all false
set_option maxRecDepth 100000
set_option maxHeartbeats 4000000
/-! LM: the machine, plain: frames, memory, one step. Operations by number, in the order of OPERATIONS. -/
namespace LM
open PySem LG

abbrev Ins := Nat × List Nat
structure Fr where
  table : List (Int × Bool)
  code : List Ins
  place : Nat
  base : Nat
  stack : List Int
structure MC where
  mem : List Int
  pend : List (Nat × Int)
  tally : Int
  done : Int
structure Img where
  tables : List (List (Int × Bool))
  segs : List (Nat × List Ins)
  plan : List (List Nat)
def sat (n top : Int) : Int := max 0 (min n top)
def clampI (n : Int) : Int := max (-999999) (min n 999999)
def b2i (b : Bool) : Int := if b = true then 1 else 0
def binF (op : Nat) (x y : Int) : Int :=
  if op = 9 then clampI (x + y) else if op = 10 then clampI (x - y) else if op = 11 then clampI (x * y) else if op = 12 then min x y else if op = 13 then max x y
  else if op = 14 then b2i (decide (x < y)) else if op = 15 then b2i (decide (x ≤ y)) else if op = 16 then b2i (decide (x = y)) else if op = 17 then b2i (!decide (x = y)) else if op = 18 then b2i (decide (y ≤ x)) else b2i (decide (y < x))
def unF (op : Nat) (x : Int) : Int := if op = 7 then b2i (decide (1 ≤ x)) else b2i (!decide (1 ≤ x))
def pput (l : List (Nat × Int)) (p : Nat) (v : Int) : List (Nat × Int) :=
  if (l.any fun q => decide (q.1 = p)) = true then l.map (fun q => if q.1 = p then (q.1, v) else q) else l ++ [(p, v)]
def valAt (c : MC) (p : Nat) : Option Int := match c.pend.lookup p with
  | some v => some v
  | none => c.mem[p]?
/-- the value that the other operations push, and the rest of the stack -/
def comp (c : MC) (t : Fr) (pace : Int) (i : Ins) : Option (Int × List Int) :=
  if i.1 = 0 then (i.2[0]?).map fun (a : Nat) => ((a : Int), t.stack)
  else if i.1 = 1 then (i.2[0]?).bind fun a => (valAt c (t.base + a)).map fun v => (v, t.stack)
  else if i.1 = 3 then some (pace, t.stack)
  else if i.1 = 4 then (i.2[0]?).bind fun a => (t.stack[a]?).map fun v => (v, t.stack)
  else if i.1 = 5 then t.stack.getLast?.map fun v => (v, t.stack)
  else t.stack.getLast?.bind fun y =>
    if i.1 = 7 ∨ i.1 = 8 then some (unF i.1 y, t.stack.dropLast)
    else if 9 ≤ i.1 ∧ i.1 ≤ 19 then t.stack.dropLast.getLast?.bind fun x => if x.natAbs < 2 ^ 63 then some (binF i.1 x y, t.stack.dropLast.dropLast) else none
    else none
/-- retained numbers move to the memory -/
def commit (c : MC) : Option MC := if c.pend.all (fun q => decide (q.1 < c.mem.length)) = true then some { c with mem := c.pend.foldl (fun m q => m.set q.1 q.2) c.mem, pend := [] } else none
def newFr (img : Img) (s d : Nat) : Option Fr := (img.segs[s]?).bind fun g => (img.tables[g.1]?).map fun tb => ⟨tb, g.2, 0, d, []⟩
/-- one step: the frame t at its place; low: the frames below -/
def mstep (img : Img) (pace : Int) (c : MC) (low : List Fr) (t : Fr) : Option (MC × List Fr) :=
  (t.code[t.place]?).bind fun i =>
    let c1 : MC := { c with done := c.done + 1 }
    let t1 : Fr := { t with place := t.place + 1 }
    if i.1 = 20 then (i.2[0]?).map fun a => (c1, low ++ [{ t1 with place := t.place + 1 + a }])
    else if i.1 = 21 then (i.2[0]?).bind fun a => t.stack.getLast?.map fun x => (c1, low ++ [{ t1 with place := if x < 1 then t.place + 1 + a else t.place + 1, stack := t.stack.dropLast }])
    else if i.1 = 22 then (i.2[0]?).bind fun s => (i.2[1]?).bind fun d => (newFr img s (t.base + d)).map fun f => (c1, low ++ [t1, f])
    else if i.1 = 24 then (if low = [] then (commit c1).map fun c2 => (c2, []) else some (c1, low))
    else if i.1 = 23 then (i.2[0]?).bind fun (a : Nat) => (commit c1).map fun c2 => ({ c2 with tally := c2.tally + (a : Int) }, low ++ [t1])
    else if i.1 = 2 then (i.2[0]?).bind fun a => (t.table[a]?).bind fun tk => t.stack.getLast?.bind fun x =>
      if tk.2 = true then some ({ c1 with pend := pput c.pend (t.base + a) (sat x tk.1) }, low ++ [{ t1 with stack := t.stack.dropLast }])
      else if t.base + a < c.mem.length then some ({ c1 with mem := c.mem.set (t.base + a) (sat x tk.1) }, low ++ [{ t1 with stack := t.stack.dropLast }]) else none
    else if i.1 = 6 then t.stack.getLast?.map fun _ => (c1, low ++ [{ t1 with stack := t.stack.dropLast }])
    else (comp c1 t1 pace i).map fun r => (c1, low ++ [{ t1 with stack := r.2 ++ [r.1] }])

/-- drive's loop: how it ends (0 done, 1 cut, 2 stopped) -/
def mrun (img : Img) (pace cut steps : Int) : Nat → MC → List Fr → Option (MC × Nat)
  | 0, _, _ => none
  | n + 1, c, fs => match fs.getLast? with
    | none => some (c, 0)
    | some t => if 0 ≤ cut ∧ cut ≤ c.tally then some (c, 1) else if 0 ≤ steps ∧ steps ≤ c.done then some (c, 2)
      else (mstep img pace c fs.dropLast t).bind fun r => mrun img pace cut steps n r.1 r.2
/-! ### how it lies -/
def tabLV (t : List (Int × Bool)) : LV := .tup (t.map fun p => .tup [.int p.1, .bl p.2])
def insLV (nS : Nat → Str) (i : Ins) : LV := .tup (.str (nS i.1) :: i.2.map fun (a : Nat) => LV.int (a : Int))
def codeLV (nS : Nat → Str) (c : List Ins) : LV := .tup (c.map (insLV nS))
def segLV (nS : Nat → Str) (g : Nat × List Ins) : LV := .tup [.int (g.1 : Int), codeLV nS g.2]
def imgLV (nS : Nat → Str) (m : Img) : LV := .tup [.tup (m.tables.map tabLV), .tup (m.segs.map (segLV nS)), .tup (m.plan.map fun p => .tup (p.map fun (a : Nat) => LV.int (a : Int)))]
def intsL (l : List Int) : List LV := l.map LV.int
def pendK (l : List (Nat × Int)) : List (L2.Key × LV) := l.map fun q => (Sum.inl (q.1 : Int), LV.int q.2)
end LM
end

section
set_option Elab.async false
set_option linter.all false
set_option maxRecDepth 100000
set_option maxHeartbeats 4000000
namespace K87
open PySem LG LM
/-- operation to text -/
def nS (i : Nat) : Str := cs ([0, 1, 2, 3, 4, 5, 6, 7, 8, 9, 10, 11, 12, 13, 14, 15, 16, 17, 18, 19, 20, 21, 22, 23, 24].getD i 0)
def frFs (t : Fr) (st : Nat) : List (Nat × LV) := [(18, tabLV t.table), (17, codeLV nS t.code), (2, .int (t.place : Int)), (16, .int (t.base : Int)), (15, .ref st)]
def RepFs (L : LH) : List (Nat × Nat) → List Fr → Prop
  | [], fs => fs = []
  | p :: ps, fs => ∃ f r, fs = f :: r ∧ L.at_ p.1 = some (.ins 0 (frFs f p.2)) ∧ L.at_ p.2 = some (.lst (intsL f.stack)) ∧ RepFs L ps r
def adr : List (Nat × Nat) → List Nat
  | [] => []
  | p :: ps => p.1 :: p.2 :: adr ps
def mFs (img : LV) (pace : Int) (mem pd fl : Nat) (c : MC) : List (Nat × LV) := [(21, img), (12, .ref mem), (20, .ref pd), (19, .int pace), (11, .int c.tally), (10, .int c.done), (13, .ref fl)]
/-- the machine with its top frame -/
structure Top (b : Nat) (L : LH) (img : LV) (pace : Int) (M mem pd fl r st : Nat) (fp : List (Nat × Nat)) (c : MC) (low : List Fr) (t : Fr) : Prop where
  hM : L.at_ M = some (.ins 1 (mFs img pace mem pd fl c))
  hmem : L.at_ mem = some (.lst (intsL c.mem))
  hpd : L.at_ pd = some (.dct (pendK c.pend))
  hfl : L.at_ fl = some (.lst (fp.map (fun p => LV.ref p.1) ++ [.ref r]))
  hr : L.at_ r = some (.ins 0 (frFs t st))
  hst : L.at_ st = some (.lst (intsL t.stack))
  low : RepFs L fp low
  nd : (M :: mem :: pd :: fl :: r :: st :: adr fp).Nodup
  lo : ∀ x ∈ M :: mem :: pd :: fl :: r :: st :: adr fp, b ≤ x
  hi : ∀ x ∈ M :: mem :: pd :: fl :: r :: st :: adr fp, x < L.n
theorem RepFs.keep {L L' : LH} : ∀ {ps : List (Nat × Nat)} {fs : List Fr}, (∀ x ∈ adr ps, L'.at_ x = L.at_ x) → RepFs L ps fs → RepFs L' ps fs
  | [], _, _, h => h
  | p :: ps, _, k, ⟨f, r, h1, h2, h3, h4⟩ => ⟨f, r, h1, by rw [k _ (by simp [adr])]; exact h2, by rw [k _ (by simp [adr])]; exact h3, RepFs.keep (fun x hx => k x (by simp [adr, hx])) h4⟩
theorem RepFs.length {L : LH} : ∀ {ps : List (Nat × Nat)} {fs : List Fr}, RepFs L ps fs → ps.length = fs.length
  | [], _, h => by rw [show _ = [] from h]; rfl
  | p :: ps, _, ⟨f, r, h1, h2, h3, h4⟩ => by rw [h1]; simp [RepFs.length h4]
theorem RepFs.snoc {L : LH} {q : Nat × Nat} {g : Fr} (h1 : L.at_ q.1 = some (.ins 0 (frFs g q.2))) (h2 : L.at_ q.2 = some (.lst (intsL g.stack))) : ∀ {ps : List (Nat × Nat)} {fs : List Fr}, RepFs L ps fs → RepFs L (ps ++ [q]) (fs ++ [g])
  | [], _, h => by rw [show _ = [] from h]; exact ⟨g, [], rfl, h1, h2, rfl⟩
  | p :: ps, _, ⟨f, r, e, a, b, h4⟩ => by rw [e]; exact ⟨f, r ++ [g], rfl, a, b, RepFs.snoc h1 h2 h4⟩
theorem RepFs.unsnoc {L : LH} {q : Nat × Nat} : ∀ {ps : List (Nat × Nat)} {fs : List Fr}, RepFs L (ps ++ [q]) fs → ∃ fs0 g, fs = fs0 ++ [g] ∧ RepFs L ps fs0 ∧ L.at_ q.1 = some (.ins 0 (frFs g q.2)) ∧ L.at_ q.2 = some (.lst (intsL g.stack))
  | [], _, ⟨f, r, e, a, b, h⟩ => ⟨[], f, by rw [e, show r = [] from h]; rfl, rfl, a, b⟩
  | p :: ps, _, ⟨f, r, e, a, b, h⟩ => by
    obtain ⟨fs0, g, e2, h2, h3, h4⟩ := RepFs.unsnoc (ps := ps) h
    exact ⟨f :: fs0, g, by rw [e, e2]; rfl, ⟨f, fs0, rfl, a, b, h2⟩, h3, h4⟩
theorem adr_append : ∀ {ps qs : List (Nat × Nat)}, adr (ps ++ qs) = adr ps ++ adr qs
  | [], _ => rfl
  | p :: ps, qs => by simp [adr, adr_append (ps := ps)]
structure Ne6 (M mem pd fl r st : Nat) : Prop where
  n1 : M ≠ mem
  n2 : M ≠ pd
  n3 : M ≠ fl
  n4 : M ≠ r
  n5 : M ≠ st
  n6 : mem ≠ pd
  n7 : mem ≠ fl
  n8 : mem ≠ r
  n9 : mem ≠ st
  n10 : pd ≠ fl
  n11 : pd ≠ r
  n12 : pd ≠ st
  n13 : fl ≠ r
  n14 : fl ≠ st
  n15 : r ≠ st
section
variable {b : Nat} {L L' : LH} {img : LV} {pace : Int} {M mem pd fl r st : Nat} {fp : List (Nat × Nat)} {c c' : MC} {low : List Fr} {t t' : Fr}
theorem Top.ne (T : Top b L img pace M mem pd fl r st fp c low t) : Ne6 M mem pd fl r st := by
  have h := T.nd
  simp only [List.nodup_cons, List.mem_cons, not_or] at h
  obtain ⟨⟨a1, a2, a3, a4, a5, _⟩, ⟨b1, b2, b3, b4, _⟩, ⟨c1, c2, c3, _⟩, ⟨d1, d2, _⟩, ⟨e1, _⟩, _⟩ := h
  exact ⟨a1, a2, a3, a4, a5, b1, b2, b3, b4, c1, c2, c3, d1, d2, e1⟩
theorem Top.sep (T : Top b L img pace M mem pd fl r st fp c low t) : ∀ x ∈ adr fp, x ≠ M ∧ x ≠ mem ∧ x ≠ pd ∧ x ≠ fl ∧ x ≠ r ∧ x ≠ st := fun x hx => by
  have h := T.nd
  simp only [List.nodup_cons, List.mem_cons, not_or] at h
  obtain ⟨⟨_, _, _, _, _, a⟩, ⟨_, _, _, _, b⟩, ⟨_, _, _, c⟩, ⟨_, _, d⟩, ⟨_, e⟩, ⟨f, _⟩⟩ := h
  exact ⟨fun z => a (z ▸ hx), fun z => b (z ▸ hx), fun z => c (z ▸ hx), fun z => d (z ▸ hx), fun z => e (z ▸ hx), fun z => f (z ▸ hx)⟩
theorem Top.re (T : Top b L img pace M mem pd fl r st fp c low t) (hM : L'.at_ M = some (.ins 1 (mFs img pace mem pd fl c'))) (hmem : L'.at_ mem = some (.lst (intsL c'.mem))) (hpd : L'.at_ pd = some (.dct (pendK c'.pend)))
    (hfl : L'.at_ fl = L.at_ fl) (hr : L'.at_ r = some (.ins 0 (frFs t' st))) (hst : L'.at_ st = some (.lst (intsL t'.stack))) (keep : ∀ x ∈ adr fp, L'.at_ x = L.at_ x) (hn : L.n ≤ L'.n) : Top b L' img pace M mem pd fl r st fp c' low t' :=
  ⟨hM, hmem, hpd, hfl.trans T.hfl, hr, hst, T.low.keep keep, T.nd, T.lo, fun x hx => Nat.lt_of_lt_of_le (T.hi x hx) hn⟩
/-- the head of execute -/
def execTail : LSs := match d30.body with
  | .cons _ (.cons _ (.cons _ (.cons _ (.cons _ s)))) => s
  | _ => .nil
def L1 (L : LH) (img : LV) (pace : Int) (M mem pd fl r st : Nat) (c : MC) (t : Fr) : LH := (L.put r (.ins 0 (frFs { t with place := t.place + 1 } st))).put M (.ins 1 (mFs img pace mem pd fl { c with done := c.done + 1 }))
theorem Top.next (T : Top b L img pace M mem pd fl r st fp c low t) : Top b (L1 L img pace M mem pd fl r st c t) img pace M mem pd fl r st fp { c with done := c.done + 1 } low { t with place := t.place + 1 } := by
  obtain ⟨n1, n2, n3, n4, n5, n6, n7, n8, n9, n10, n11, n12, n13, n14, n15⟩ := T.ne
  refine T.re ?_ ?_ ?_ ?_ ?_ ?_ (fun x hx => ?_) ?_
  · simp [L1]
  · simp [L1, n1.symm, n8, T.hmem]
  · simp [L1, n2.symm, n11, T.hpd]
  · simp [L1, n3.symm, n13]
  · simp [L1, n4.symm]
  · simp [L1, n5.symm, n15.symm, T.hst]
  · obtain ⟨s1, s2, s3, s4, s5, s6⟩ := T.sep x hx
    simp [L1, s1, s5]
  · simp [L1]
theorem exec_pre {k : Nat} {i : Ins} (T : Top b L img pace M mem pd fl r st fp c low t) (hi : t.code[t.place]? = some i) :
    run mo.pg (k + 1) 30 [.ref M] L = endOf (evSs (mo.F k) execTail [some (.ref M), some (.ref r), some (insLV nS i), some (.str (nS i.1)), none] (L1 L img pace M mem pd fl r st c t)) := by
  obtain ⟨n1, n2, n3, n4, n5, n6, n7, n8, n9, n10, n11, n12, n13, n14, n15⟩ := T.ne
  rw [Mo.run_succ (d := d30) rfl rfl]
  have hc : L2.atI (t.code.map (insLV nS)) (t.place : Int) = some (insLV nS i) := by rw [atI_nat, List.getElem?_map, hi]; rfl
  have f1 : mo.fld 0 2 = true := rfl
  have f2 : mo.fld 1 10 = true := rfl
  have h0 : atX [.str (nS i.1)] 0 L = .ok (.str (nS i.1)) L := rfl
  have e : d30.body = .cons (.set 1 (.idx (.fld (.var 0) 13) (.neg (.con (.int 1))))) (.cons (.set 2 (.idx (.fld (.var 1) 17) (.fld (.var 1) 2))) (.cons (.set 3 (.idx (.var 2) (.con (.int 0))))
    (.cons (.setf (.var 1) 2 (.bin .add (.fld (.var 1) 2) (.con (.int 1)))) (.cons (.setf (.var 0) 10 (.bin .add (.fld (.var 0) 10) (.con (.int 1)))) execTail)))) := rfl
  rw [e]
  simp [T.hM, T.hr, T.hfl, mFs, frFs, d30, idx_lst T.hfl, atX, hc, codeLV, insLV, f1, f2, n4, n4.symm, L1]
end
theorem num_c (k : Nat) (a : Nat) (M r : LV) (L : LH) : run mo.pg (k + 1) 31 [M, r, insLV nS (0, [a])] L = .ok (.int a) L := by
  rw [Mo.run_succ (d := d31) rfl rfl]
  simp [d31, insLV, nS]
/-! ### the pending numbers -/
theorem dget_pend {p : Nat} : ∀ {l : List (Nat × Int)}, dget (.inl (p : Int)) (pendK l) = (l.lookup p).map LV.int
  | [] => rfl
  | (q, v) :: l => by
    have ih := dget_pend (p := p) (l := l)
    unfold dget pendK at ih ⊢
    by_cases e : q = p
    · subst e
      simp [List.lookup]
    · have e1 : (p == q) = false := beq_eq_false_iff_ne.mpr (Ne.symm e)
      have e2 : decide ((Sum.inl (q : Int) : L2.Key) = Sum.inl (p : Int)) = false := decide_eq_false (fun h => e (by injection h with h; exact Int.ofNat_inj.mp h))
      simp only [List.map_cons, List.find?_cons, e2, List.lookup, e1]
      exact ih
theorem dput_pend {p : Nat} {v : Int} {l : List (Nat × Int)} : dput (pendK l) (.inl (p : Int)) (.int v) = pendK (pput l p v) := by
  unfold dput pput
  have e : ((pendK l).any fun kv => decide (kv.1 = (.inl (p : Int) : L2.Key))) = l.any fun q => decide (q.1 = p) := by
    unfold pendK
    rw [List.any_map]
    congr 1
    funext q
    have : ((q.1 : Int) = (p : Int)) ↔ q.1 = p := by omega
    simp [this]
  rw [e]
  split
  · unfold pendK
    rw [List.map_map, List.map_map]
    congr 1
    funext q
    by_cases e : q.1 = p
    · simp [e]
    · have : ¬ ((q.1 : Int) = (p : Int)) := by omega
      simp [e, this]
  · unfold pendK
    simp
section
variable {L : LH} {img : LV} {pace : Int} {M mem pd fl r st : Nat} {c : MC} {t : Fr}
theorem value_at_ok {k p : Nat} {v : Int} (hM : L.at_ M = some (.ins 1 (mFs img pace mem pd fl c))) (hpd : L.at_ pd = some (.dct (pendK c.pend))) (hmem : L.at_ mem = some (.lst (intsL c.mem))) (hv : valAt c p = some v) :
    run mo.pg (k + 1) 32 [.ref M, .int (p : Int)] L = .ok (.int v) L := by
  rw [Mo.run_succ (d := d32) rfl rfl]
  unfold valAt at hv
  have hin : inF L (.int (p : Int)) (.ref pd) = some ((c.pend.lookup p).isSome) := by
    rw [inF_dct hpd rfl, dget_pend]
    simp
  cases e : c.pend.lookup p with
  | some w =>
    rw [e] at hv
    cases hv
    have hx : idxV (.ref pd) (.int (p : Int)) L = .ok (.int v) L := idx_dct hpd rfl (by rw [dget_pend, e]; rfl)
    simp [d32, hM, mFs, hin, e, hx]
  | none =>
    rw [e] at hv
    dsimp only at hv
    have hx : idxV (.ref mem) (.int (p : Int)) L = .ok (.int v) L := by
      rw [idx_lst hmem]
      refine atX_some ?_
      rw [atI_nat]
      unfold intsL
      rw [List.getElem?_map, hv]; rfl
    simp [d32, hM, mFs, hin, e, hx]
theorem getLast_snoc {l : List Int} {x : Int} (h : l.getLast? = some x) : l = l.dropLast ++ [x] := by
  obtain ⟨ys, rfl⟩ := List.getLast?_eq_some_iff.mp h
  simp
theorem pop_ok {x : Int} {l : List Int} (h : L.at_ st = some (.lst (intsL l))) (hx : l.getLast? = some x) : bmV .lpop (.ref st) [] L = .ok (.int x) (L.put st (.lst (intsL l.dropLast))) := by
  have e := getLast_snoc hx
  rw [e] at h
  refine m_pop (v := .int x) ?_
  rw [h]
  simp [intsL]
theorem put_mach_ok {k a : Nat} {x : Int} {tk : Int × Bool} (hM : L.at_ M = some (.ins 1 (mFs img pace mem pd fl c))) (hpd : L.at_ pd = some (.dct (pendK c.pend))) (hmem : L.at_ mem = some (.lst (intsL c.mem)))
    (hr : L.at_ r = some (.ins 0 (frFs t st))) (hst : L.at_ st = some (.lst (intsL t.stack))) (n : Ne6 M mem pd fl r st) (hx : t.stack.getLast? = some x) (ht : t.table[a]? = some tk) (h0 : 0 ≤ tk.1) (hz : c.pend.length < sizeLine)
    (hlt : tk.2 = false → t.base + a < c.mem.length) :
    run mo.pg (k + 2) 33 [.ref M, .ref r, .int (a : Int)] L = .ok .non (if tk.2 = true then (L.put st (.lst (intsL t.stack.dropLast))).put pd (.dct (pendK (pput c.pend (t.base + a) (sat x tk.1)))) else (L.put st (.lst (intsL t.stack.dropLast))).put mem (.lst (intsL (c.mem.set (t.base + a) (sat x tk.1))))) := by
  obtain ⟨n1, n2, n3, n4, n5, n6, n7, n8, n9, n10, n11, n12, n13, n14, n15⟩ := n
  rw [Mo.run_succ (d := d33) rfl rfl]
  have hp : ∀ L' : LH, L'.at_ st = some (.lst (intsL t.stack)) → bmV .lpop (.ref st) [] L' = .ok (.int x) (L'.put st (.lst (intsL t.stack.dropLast))) := fun L' h => pop_ok h hx
  have htb : atX (t.table.map fun p => LV.tup [.int p.1, .bl p.2]) (a : Int) L = .ok (.tup [.int tk.1, .bl tk.2]) L := atX_some (by rw [atI_nat, List.getElem?_map, ht]; rfl)
  have hb : bmTy L .lpop (.ref st) = true := bm_lst hst rfl
  have hs := fun L' => saturate_ok k x tk.1 L' h0
  have hz' : (pendK c.pend).length < sizeLine := by simpa [pendK] using hz
  obtain ⟨top, kept⟩ := tk
  cases kept with
  | true =>
    have hd := dput_pend (p := t.base + a) (v := sat x top) (l := c.pend)
    simp only [Int.natCast_add, sat] at hd
    simp [d33, hM, hr, hst, mFs, frFs, tabLV, htb, hb, hp L hst, hs, n2, n4.symm, n5, n12, n15, hpd, hz', n11, LG.keyOf, sat, hd]
  | false =>
    have hl : t.base + a < c.mem.length := hlt rfl
    have hi : L2.ixN (intsL c.mem).length ((t.base : Int) + (a : Int)) = some (t.base + a) := by
      have := ixN_nat (n := (intsL c.mem).length) (p := t.base + a) (by simpa [intsL] using hl)
      simpa using this
    have hse : (intsL c.mem).set (t.base + a) (.int (max 0 (min x top))) = intsL (c.mem.set (t.base + a) (max 0 (min x top))) := by simp [intsL, List.map_set]
    simp [d33, hM, hr, hst, mFs, frFs, tabLV, htb, hb, hp L hst, hs, n1, n4.symm, n5, n9, n15, hmem, hi, hse, n8, sat]
/-- the pending numbers move: the loop -/
theorem commit_loop {F : Fn} {xs : List LV} : ∀ (l : List (Nat × Int)) (m : List Int) (L : LH) (x y : Option LV), L.at_ M = some (.ins 1 (mFs img pace mem pd fl c)) → L.at_ mem = some (.lst (intsL m)) → M ≠ mem → (∀ q ∈ l, q.1 < m.length) →
    ∃ x' y' L', forL (.vals xs) (forB F (.tup [1, 2]) (.cons (.seti (.fld (.var 0) 12) (.var 1) (.var 2)) .nil)) (dctItems (pendK l)) [some (.ref M), x, y] L = .ok (.nx, [some (.ref M), x', y']) L' ∧ L'.n = L.n ∧
      L'.at_ mem = some (.lst (intsL (l.foldl (fun m q => m.set q.1 q.2) m))) ∧ ∀ z, z ≠ mem → L'.at_ z = L.at_ z
  | [], m, L, x, y, hM, hmem, ne, hl => ⟨x, y, L, forV_nil, rfl, hmem, fun _ _ => rfl⟩
  | (p, v) :: l, m, L, x, y, hM, hmem, ne, hl => by
    have hp : p < m.length := hl (p, v) List.mem_cons_self
    have hi : L2.ixN (intsL m).length (p : Int) = some p := ixN_nat (by simpa [intsL] using hp)
    have hse : (intsL m).set p (.int v) = intsL (m.set p v) := by simp [intsL, List.map_set]
    obtain ⟨x', y', L', e, e1, e2, e3⟩ := commit_loop (F := F) (xs := xs) l (m.set p v) (L.put mem (.lst (intsL (m.set p v)))) (some (.int p)) (some (.int v)) (by simp [ne, hM]) (by simp) ne (fun q hq => by simpa using hl q (List.mem_cons_of_mem _ hq))
    refine ⟨x', y', L', ?_, e1, e2, fun z hz => (e3 z hz).trans (put_ne hz)⟩
    have : dctItems (pendK ((p, v) :: l)) = .tup [.int p, .int v] :: dctItems (pendK l) := rfl
    rw [this, forV_cons]
    simp only [forB, tgt_tup, List.length_cons, List.length_nil, if_true, setAll_cons, setAll_nil, List.set_cons_succ, List.set_cons_zero]
    simp [hM, mFs, hmem, hi, hse, e]
theorem commit_ok {k : Nat} {c2 : MC} (hM : L.at_ M = some (.ins 1 (mFs img pace mem pd fl c))) (hpd : L.at_ pd = some (.dct (pendK c.pend))) (hmem : L.at_ mem = some (.lst (intsL c.mem))) (n1 : M ≠ mem) (n2 : M ≠ pd) (n6 : mem ≠ pd) (hc : commit c = some c2)
    (hi : M < L.n ∧ mem < L.n ∧ pd < L.n) :
    ∃ L', run mo.pg (k + 1) 34 [.ref M] L = .ok .non L' ∧ L'.n = L.n + 1 ∧ L'.at_ M = some (.ins 1 (mFs img pace mem L.n fl c2)) ∧ L'.at_ mem = some (.lst (intsL c2.mem)) ∧ L'.at_ L.n = some (.dct []) ∧ c2.pend = [] ∧
      ∀ z, z < L.n → z ≠ M → z ≠ mem → z ≠ pd → L'.at_ z = L.at_ z := by
  unfold LM.commit at hc
  split at hc
  · rename_i hall
    cases hc
    simp only [List.all_eq_true, decide_eq_true_eq] at hall
    rw [Mo.run_succ (d := d34) rfl rfl]
    have e1 : ∀ L0 : LH, L0.at_ M = some (.ins 1 (mFs img pace mem pd fl c)) → evE (mo.F k) (.fld (.var 0) 20) [some (.ref M), none, none] L0 = .ok (.ref pd) L0 := fun L0 h => by simp [h, mFs]
    have hM2 : (L.hide pd).at_ M = some (.ins 1 (mFs img pace mem pd fl c)) := by rw [hide_ne n2]; exact hM
    obtain ⟨x', y', L', e, h1, h2, h3⟩ := commit_loop (F := mo.F k) (xs := dctItems (pendK c.pend)) (pd := pd) (fl := fl) (img := img) (pace := pace) (c := c) c.pend c.mem (L.hide pd) none none hM2 (by rw [hide_ne n6]; exact hmem) n1 hall
    have f1 : mo.fld 1 20 = true := rfl
    have hMx : (L'.put pd (.dct (pendK c.pend))).at_ M = some (.ins 1 (mFs img pace mem pd fl c)) := by rw [put_ne n2, h3 _ n1]; exact hM2
    have hn : L'.n = L.n := h1
    refine ⟨((L'.put pd (.dct (pendK c.pend))).new (.dct [])).put M (.ins 1 (mFs img pace mem L.n fl { c with mem := c.pend.foldl (fun m q => m.set q.1 q.2) c.mem, pend := [] })), ?_, ?_, ?_, ?_, ?_, rfl, ?_⟩
    · have eb : d34.body = .cons (.fori [1, 2] (.fld (.var 0) 20) (.cons (.seti (.fld (.var 0) 12) (.var 1) (.var 2)) .nil)) (.cons (.setf (.var 0) 20 .dct0) .nil) := rfl
      rw [eb]
      have es : (List.map some [LV.ref M] ++ List.replicate (d34.N.length - d34.np) none) = [some (.ref M), none, none] := rfl
      rw [es, ss_cons, fori_ok (e1 L hM) hpd (e1 _ hM2), e]
      have nM : M ≠ L'.n := by rw [hn]; omega
      have hMn : ((L'.put pd (.dct (pendK c.pend))).new (.dct [])).at_ M = some (.ins 1 (mFs img pace mem pd fl c)) := by rw [new_ne (by simpa using nM)]; exact hMx
      simp [hMn, mFs, f1, hn]
    · simp [hn]
    · simp
    · rw [put_ne n1.symm, new_ne (by simp [hn]; omega), put_ne n6]; exact h2
    · rw [put_ne (by omega)]
      have : L.n = (L'.put pd (.dct (pendK c.pend))).n := by simp [hn]
      rw [this]; exact LH.new_same _ _
    · intro z hz z1 z2 z3
      rw [put_ne z1, new_ne (by simp [hn]; omega), put_ne z3, h3 _ z2, hide_ne z3]
  · cases hc
theorem leave_ok {k : Nat} {ps : List LV} {x : LV} {c2 : MC} (hM : L.at_ M = some (.ins 1 (mFs img pace mem pd fl c))) (hpd : L.at_ pd = some (.dct (pendK c.pend))) (hmem : L.at_ mem = some (.lst (intsL c.mem))) (hfl : L.at_ fl = some (.lst (ps ++ [x])))
    (n1 : M ≠ mem) (n2 : M ≠ pd) (n6 : mem ≠ pd) (n3 : M ≠ fl) (n7 : mem ≠ fl) (n10 : pd ≠ fl) (hi : M < L.n ∧ mem < L.n ∧ pd < L.n ∧ fl < L.n) (hc : ps = [] → commit c = some c2) :
    (ps ≠ [] ∧ run mo.pg (k + 2) 35 [.ref M] L = .ok .non (L.put fl (.lst ps))) ∨ (ps = [] ∧ ∃ L', run mo.pg (k + 2) 35 [.ref M] L = .ok .non L' ∧ L'.n = L.n + 1 ∧ L'.at_ M = some (.ins 1 (mFs img pace mem L.n fl c2)) ∧ L'.at_ mem = some (.lst (intsL c2.mem)) ∧ L'.at_ L.n = some (.dct []) ∧ c2.pend = [] ∧ L'.at_ fl = some (.lst []) ∧
      ∀ z, z < L.n → z ≠ M → z ≠ mem → z ≠ pd → z ≠ fl → L'.at_ z = L.at_ z) := by
  rw [Mo.run_succ (d := d35) rfl rfl]
  have hb : bmTy L .lpop (.ref fl) = true := bm_lst hfl rfl
  have hp : bmV .lpop (.ref fl) [] L = .ok x (L.put fl (.lst ps)) := m_pop hfl
  have hlen : bfV .len [.ref fl] (L.put fl (.lst ps)) = .ok (.int ps.length) (L.put fl (.lst ps)) := len_lst (by simp)
  by_cases e : ps = []
  · right
    refine ⟨e, ?_⟩
    subst e
    obtain ⟨L', e1, e2, e3, e4, e5, e6, e7⟩ := commit_ok (k := k) (L := L.put fl (.lst [])) (img := img) (pace := pace) (M := M) (mem := mem) (pd := pd) (fl := fl) (c := c) (c2 := c2) (by rw [put_ne n3]; exact hM) (by rw [put_ne n10]; exact hpd) (by rw [put_ne n7]; exact hmem) n1 n2 n6 (hc rfl) ⟨hi.1, hi.2.1, hi.2.2.1⟩
    refine ⟨L', ?_, e2, e3, e4, e5, e6, ?_, fun z h1 h2 h3 h4 h5 => (e7 z h1 h2 h3 h4).trans (put_ne h5)⟩
    · have hme : mo.mth 1 23 = some 34 := rfl
      have hM' : (L.put fl (.lst [])).at_ M = some (.ins 1 (mFs img pace mem pd fl c)) := by rw [put_ne n3]; exact hM
      have hrec : recvF (mo.F (k + 1)) (L.put fl (.lst [])) 23 (.ref M) = some 34 := by simp [hM', mFs, hme]
      simp only [recvF_ref] at hrec
      simp [d35, hM, mFs, hb, hp, hlen, n3, hme, e1]
    · rw [e7 fl (by simpa using hi.2.2.2) (Ne.symm n3) (Ne.symm n7) (Ne.symm n10)]; simp
  · left
    refine ⟨e, ?_⟩
    have hne : ¬ ((ps.length : Int) = 0) := by
      have : ps.length ≠ 0 := fun h => e (List.eq_nil_of_length_eq_zero h)
      omega
    simp [d35, hM, mFs, hb, hp, hlen, n3, e]
/-- a new frame -/
theorem frame_ok {k s d : Nat} {im : Img} {f : Fr} (hf : newFr im s d = some f) :
    ∃ L', makeV (mo.F (k + 1)) 0 [imgLV nS im, .int (s : Int), .int (d : Int)] L = .ok (.ref L.n) L' ∧ L'.n = L.n + 2 ∧ L'.at_ L.n = some (.ins 0 (frFs f (L.n + 1))) ∧ L'.at_ (L.n + 1) = some (.lst (intsL f.stack)) ∧ ∀ z, z < L.n → L'.at_ z = L.at_ z := by
  unfold newFr at hf
  cases e1 : im.segs[s]? with
  | none => rw [e1] at hf; simp at hf
  | some g =>
    rw [e1] at hf
    simp only [Option.bind_some] at hf
    cases e2 : im.tables[g.1]? with
    | none => rw [e2] at hf; simp at hf
    | some tb =>
      rw [e2] at hf
      simp only [Option.map_some, Option.some.injEq] at hf
      subst hf
      have hin : mo.init 0 = some 28 := rfl
      have h1 : ∀ L0 : LH, atX (im.segs.map (segLV nS)) (s : Int) L0 = .ok (segLV nS g) L0 := fun L0 => atX_some (by rw [atI_nat, List.getElem?_map, e1]; rfl)
      have h2 : ∀ L0 : LH, atX (im.tables.map tabLV) (g.1 : Int) L0 = .ok (tabLV tb) L0 := fun L0 => atX_some (by rw [atI_nat, List.getElem?_map, e2]; rfl)
      have f1 : mo.fld 0 18 = true := rfl
      have f2 : mo.fld 0 17 = true := rfl
      have f3 : mo.fld 0 2 = true := rfl
      have f4 : mo.fld 0 16 = true := rfl
      have f5 : mo.fld 0 15 = true := rfl
      have key : run mo.pg (k + 1) 28 [.ref L.n, imgLV nS im, .int (s : Int), .int (d : Int)] (L.new (.ins 0 [])) = .ok .non (((((((L.new (.ins 0 [])).put L.n (.ins 0 [(18, tabLV tb)])).put L.n (.ins 0 [(18, tabLV tb), (17, codeLV nS g.2)])).put L.n (.ins 0 [(18, tabLV tb), (17, codeLV nS g.2), (2, .int 0)])).put L.n (.ins 0 [(18, tabLV tb), (17, codeLV nS g.2), (2, .int 0), (16, .int d)])).new (.lst [])).put L.n (.ins 0 [(18, tabLV tb), (17, codeLV nS g.2), (2, .int 0), (16, .int d), (15, .ref (L.n + 1))])) := by
        rw [Mo.run_succ (d := d28) rfl rfl]
        simp [d28, imgLV, h1, h2, segLV, f1, f2, f3, f4, f5, LH.new_at]
      refine ⟨_, make_ok hin key, ?_, ?_, ?_, ?_⟩
      · simp
      · simp [frFs]
      · simp [intsL, LH.new_at]
      · intro z hz
        have : z ≠ L.n := by omega
        have : z ≠ L.n + 1 := by omega
        simp [*, LH.new_at]
/-! ### the values that are computed -/
theorem arg0 {i : Ins} {a : Nat} {x : LV} {L : LH} (h : i.2[0]? = some a) : atX (x :: i.2.map fun (a : Nat) => LV.int (a : Int)) 1 L = .ok (.int (a : Int)) L := atX_some (by simp [h])
theorem arg1 {i : Ins} {a : Nat} {x : LV} {L : LH} (h : i.2[1]? = some a) : atX (x :: i.2.map fun (a : Nat) => LV.int (a : Int)) 2 L = .ok (.int (a : Int)) L := atX_some (by simp [h])
theorem binary_ok {k op : Nat} {x y : Int} (h : 9 ≤ op ∧ op ≤ 19) (hx : x.natAbs < 2 ^ 63) : run mo.pg (k + 2) 6 [.str (nS op), .int x, .int y] L = .ok (.int (binF op x y)) L := by
  rw [Mo.run_succ (d := d6) rfl rfl]
  have hc := fun n L' => clamp_ok k n L'
  have hm : binV .mul (.int x) (.int y) L = .ok (.int (x * y)) L := bin_mul (.inl (by omega))
  have hcmp : ∀ o, 14 ≤ o → o ≤ 19 → run mo.pg (k + 1) 5 [.str (nS o), .int x, .int y] L = .ok (.bl (if o = 14 then decide (x < y) else if o = 15 then decide (x ≤ y) else if o = 16 then decide (x = y) else if o = 17 then !decide (x = y) else if o = 18 then decide (y ≤ x) else decide (y < x))) L := by
    intro o h1 h2
    rw [Mo.run_succ (d := d5) rfl rfl]
    have : o = 14 ∨ o = 15 ∨ o = 16 ∨ o = 17 ∨ o = 18 ∨ o = 19 := by omega
    rcases this with h | h | h | h | h | h <;> subst h <;> simp [d5, nS]
  have hops : op = 9 ∨ op = 10 ∨ op = 11 ∨ op = 12 ∨ op = 13 ∨ op = 14 ∨ op = 15 ∨ op = 16 ∨ op = 17 ∨ op = 18 ∨ op = 19 := by omega
  rcases hops with h | h | h | h | h | h | h | h | h | h | h <;> subst h
  · simp [d6, nS, hc, binF, clampI]
  · simp [d6, nS, hc, binF, clampI]
  · simp [d6, nS, hc, binF, clampI, hm]
  · by_cases e : x < y
    · simp [d6, nS, binF, e]; omega
    · simp [d6, nS, binF, e]; omega
  · by_cases e : y < x
    · simp [d6, nS, binF, e]; omega
    · simp [d6, nS, binF, e]; omega
  · have hh := hcmp 14 (by omega) (by omega)
    simp [nS] at hh
    by_cases e : x < y <;> simp [d6, nS, hh, binF, b2i, e]
  · have hh := hcmp 15 (by omega) (by omega)
    simp [nS] at hh
    by_cases e : x ≤ y <;> simp [d6, nS, hh, binF, b2i, e]
  · have hh := hcmp 16 (by omega) (by omega)
    simp [nS] at hh
    by_cases e : x = y
    · subst e
      simp at hh
      simp [d6, nS, hh, binF, b2i]
    · simp [e] at hh
      simp [d6, nS, hh, binF, b2i, e]
  · have hh := hcmp 17 (by omega) (by omega)
    simp [nS] at hh
    by_cases e : x = y
    · subst e
      simp at hh
      simp [d6, nS, hh, binF, b2i]
    · simp [e] at hh
      simp [d6, nS, hh, binF, b2i, e]
  · have hh := hcmp 18 (by omega) (by omega)
    simp [nS] at hh
    by_cases e : y ≤ x <;> simp [d6, nS, hh, binF, b2i, e]
  · have hh := hcmp 19 (by omega) (by omega)
    simp [nS] at hh
    by_cases e : y < x <;> simp [d6, nS, hh, binF, b2i, e]
theorem unary_ok {k op : Nat} {x : Int} (h : op = 7 ∨ op = 8) : run mo.pg (k + 1) 7 [.str (nS op), .int x] L = .ok (.int (unF op x)) L := by
  rw [Mo.run_succ (d := d7) rfl rfl]
  rcases h with h | h <;> subst h <;> by_cases e : 1 ≤ x <;> simp [d7, nS, unF, b2i, e]
theorem inUn {op : Nat} {L : LH} (h : op = 7 ∨ op = 8 ∨ (9 ≤ op ∧ op ≤ 19)) : inF L (.str (nS op)) (.tup ([7, 8].map fun i => LV.str (cs i))) = some (decide (op = 7 ∨ op = 8)) := by
  have hops : op = 7 ∨ op = 8 ∨ op = 9 ∨ op = 10 ∨ op = 11 ∨ op = 12 ∨ op = 13 ∨ op = 14 ∨ op = 15 ∨ op = 16 ∨ op = 17 ∨ op = 18 ∨ op = 19 := by omega
  rcases hops with h | h | h | h | h | h | h | h | h | h | h | h | h <;> subst h <;> simp [nS]
theorem nS_ne {op : Nat} (h : 7 ≤ op ∧ op ≤ 19) : (nS op = cs 0) = False ∧ (nS op = cs 1) = False ∧ (nS op = cs 3) = False ∧ (nS op = cs 4) = False ∧ (nS op = cs 5) = False := by
  have hops : op = 7 ∨ op = 8 ∨ op = 9 ∨ op = 10 ∨ op = 11 ∨ op = 12 ∨ op = 13 ∨ op = 14 ∨ op = 15 ∨ op = 16 ∨ op = 17 ∨ op = 18 ∨ op = 19 := by omega
  rcases hops with h | h | h | h | h | h | h | h | h | h | h | h | h <;> subst h <;> simp [nS]
def cBody : LSs := match d31.body with
  | .cons _ (.cons _ (.cons _ (.cons _ (.cons _ (.cons _ s))))) => s
  | _ => .nil
theorem computed_tail {k : Nat} {i : Ins} (h : 7 ≤ i.1 ∧ i.1 ≤ 19) : run mo.pg (k + 1) 31 [.ref M, .ref r, insLV nS i] L = endOf (evSs (mo.F k) cBody [some (.ref M), some (.ref r), some (insLV nS i), some (.str (nS i.1)), none, none] L) := by
  rw [Mo.run_succ (d := d31) rfl rfl]
  obtain ⟨h0, h1, h3, h4, h5⟩ := nS_ne h
  have e : d31.body = .cons (.set 3 (.idx (.var 2) (.con (.int 0)))) (.cons (.ifs (.cmp .eq (.var 3) (.con (.str (cs 0)))) (.cons (.ret (.idx (.var 2) (.con (.int 1)))) .nil) .nil)
    (.cons (.ifs (.cmp .eq (.var 3) (.con (.str (cs 1)))) (.cons (.ret (.meth (.var 0) 26 (.cons (.bin .add (.fld (.var 1) 16) (.idx (.var 2) (.con (.int 1)))) .nil))) .nil) .nil)
    (.cons (.ifs (.cmp .eq (.var 3) (.con (.str (cs 3)))) (.cons (.ret (.fld (.var 0) 19)) .nil) .nil)
    (.cons (.ifs (.cmp .eq (.var 3) (.con (.str (cs 4)))) (.cons (.ret (.idx (.fld (.var 1) 15) (.idx (.var 2) (.con (.int 1))))) .nil) .nil)
    (.cons (.ifs (.cmp .eq (.var 3) (.con (.str (cs 5)))) (.cons (.ret (.idx (.fld (.var 1) 15) (.neg (.con (.int 1))))) .nil) .nil) cBody))))) := rfl
  rw [e]
  simp [d31, insLV, h0, h1, h3, h4, h5]
theorem computed_un {k : Nat} {i : Ins} {y : Int} (hr : L.at_ r = some (.ins 0 (frFs t st))) (hst : L.at_ st = some (.lst (intsL t.stack))) (ev : t.stack.getLast? = some y) (e : i.1 = 7 ∨ i.1 = 8) :
    run mo.pg (k + 2) 31 [.ref M, .ref r, insLV nS i] L = .ok (.int (unF i.1 y)) (L.put st (.lst (intsL t.stack.dropLast))) := by
  rw [computed_tail (by omega)]
  have hb : bmTy L .lpop (.ref st) = true := bm_lst hst rfl
  have hp := pop_ok hst ev
  have hu := unary_ok (L := L.put st (.lst (intsL t.stack.dropLast))) (k := k) (x := y) e
  have hi := inUn (L := L.put st (.lst (intsL t.stack.dropLast))) (op := i.1) (by omega)
  have hg := g_un
  simp only [List.map_cons, List.map_nil] at hg hi
  have e' : cBody = .cons (.set 4 (.bm .lpop (.fld (.var 1) 15) .nil)) (.cons (.ifs (.cmp .inn (.var 3) (.glo 4)) (.cons (.ret (.call 7 (.cons (.var 3) (.cons (.var 4) .nil)))) .nil) .nil)
    (.cons (.set 5 (.bm .lpop (.fld (.var 1) 15) .nil)) (.cons (.ret (.call 6 (.cons (.var 3) (.cons (.var 5) (.cons (.var 4) .nil))))) .nil))) := rfl
  rw [e']
  simp only [frFs] at hr
  rw [decide_eq_true e] at hi
  simp [hr, hb, hp, hg, hi, hu, -inF_tup]
theorem computed_bin {k : Nat} {i : Ins} {x y : Int} (hr : L.at_ r = some (.ins 0 (frFs t st))) (hst : L.at_ st = some (.lst (intsL t.stack))) (n4 : r ≠ st) (ev : t.stack.getLast? = some y) (ew : t.stack.dropLast.getLast? = some x) (e : 9 ≤ i.1 ∧ i.1 ≤ 19) (hx : x.natAbs < 2 ^ 63) :
    run mo.pg (k + 3) 31 [.ref M, .ref r, insLV nS i] L = .ok (.int (binF i.1 x y)) ((L.put st (.lst (intsL t.stack.dropLast))).put st (.lst (intsL t.stack.dropLast.dropLast))) := by
  rw [computed_tail (by omega)]
  have hb : bmTy L .lpop (.ref st) = true := bm_lst hst rfl
  have hp := pop_ok hst ev
  have hst2 : (L.put st (.lst (intsL t.stack.dropLast))).at_ st = some (.lst (intsL t.stack.dropLast)) := by simp
  have hb2 : bmTy (L.put st (.lst (intsL t.stack.dropLast))) .lpop (.ref st) = true := bm_lst hst2 rfl
  have hp2 := pop_ok hst2 ew
  have hbin := binary_ok (L := (L.put st (.lst (intsL t.stack.dropLast))).put st (.lst (intsL t.stack.dropLast.dropLast))) (k := k) (x := x) (y := y) e hx
  have hi := inUn (L := L.put st (.lst (intsL t.stack.dropLast))) (op := i.1) (by omega)
  have hg := g_un
  simp only [List.map_cons, List.map_nil] at hg hi
  have e' : cBody = .cons (.set 4 (.bm .lpop (.fld (.var 1) 15) .nil)) (.cons (.ifs (.cmp .inn (.var 3) (.glo 4)) (.cons (.ret (.call 7 (.cons (.var 3) (.cons (.var 4) .nil)))) .nil) .nil)
    (.cons (.set 5 (.bm .lpop (.fld (.var 1) 15) .nil)) (.cons (.ret (.call 6 (.cons (.var 3) (.cons (.var 5) (.cons (.var 4) .nil))))) .nil))) := rfl
  rw [e']
  simp only [frFs] at hr
  rw [decide_eq_false (show ¬ (i.1 = 7 ∨ i.1 = 8) by omega)] at hi
  simp [hr, hb, hp, hg, hi, hb2, hp2, hbin, n4, -inF_tup]
theorem computed_0 {k : Nat} {i : Ins} {a : Nat} (e : i.1 = 0) (e0 : i.2[0]? = some a) : run mo.pg (k + 1) 31 [.ref M, .ref r, insLV nS i] L = .ok (.int (a : Int)) L := by
  rw [Mo.run_succ (d := d31) rfl rfl]
  simp [d31, insLV, e, nS, arg0 e0]
theorem computed_1 {k : Nat} {i : Ins} {a : Nat} {w : Int} (hM : L.at_ M = some (.ins 1 (mFs img pace mem pd fl c))) (hpd : L.at_ pd = some (.dct (pendK c.pend))) (hmem : L.at_ mem = some (.lst (intsL c.mem)))
    (hr : L.at_ r = some (.ins 0 (frFs t st))) (e : i.1 = 1) (e0 : i.2[0]? = some a) (ev : valAt c (t.base + a) = some w) : run mo.pg (k + 2) 31 [.ref M, .ref r, insLV nS i] L = .ok (.int w) L := by
  rw [Mo.run_succ (d := d31) rfl rfl]
  have hv := value_at_ok (k := k) hM hpd hmem ev
  simp only [Int.natCast_add] at hv
  have hme : mo.mth 1 26 = some 32 := rfl
  simp only [mFs, frFs] at hM hr
  simp [d31, insLV, e, nS, arg0 e0, hM, hr, hme, hv]
theorem computed_3 {k : Nat} {i : Ins} (hM : L.at_ M = some (.ins 1 (mFs img pace mem pd fl c))) (e : i.1 = 3) : run mo.pg (k + 1) 31 [.ref M, .ref r, insLV nS i] L = .ok (.int pace) L := by
  rw [Mo.run_succ (d := d31) rfl rfl]
  simp only [mFs] at hM
  simp [d31, insLV, e, nS, hM]
theorem computed_4 {k : Nat} {i : Ins} {a : Nat} {w : Int} (hr : L.at_ r = some (.ins 0 (frFs t st))) (hst : L.at_ st = some (.lst (intsL t.stack))) (e : i.1 = 4) (e0 : i.2[0]? = some a) (ev : t.stack[a]? = some w) : run mo.pg (k + 1) 31 [.ref M, .ref r, insLV nS i] L = .ok (.int w) L := by
  rw [Mo.run_succ (d := d31) rfl rfl]
  have hx : idxV (.ref st) (.int (a : Int)) L = .ok (.int w) L := by
    rw [idx_lst hst]
    exact atX_some (by rw [atI_nat]; unfold intsL; rw [List.getElem?_map, ev]; rfl)
  simp only [frFs] at hr
  simp [d31, insLV, e, nS, arg0 e0, hr, hx]
theorem computed_5 {k : Nat} {i : Ins} {w : Int} (hr : L.at_ r = some (.ins 0 (frFs t st))) (hst : L.at_ st = some (.lst (intsL t.stack))) (e : i.1 = 5) (ev : t.stack.getLast? = some w) : run mo.pg (k + 1) 31 [.ref M, .ref r, insLV nS i] L = .ok (.int w) L := by
  rw [Mo.run_succ (d := d31) rfl rfl]
  have hx : idxV (.ref st) (.int (-1)) L = .ok (.int w) L := by
    rw [idx_lst hst]
    exact atX_some (by simp [intsL, List.getLast?_map, ev])
  simp only [frFs] at hr
  simp [d31, insLV, e, nS, hr, hx]
theorem computed_ok {k : Nat} {i : Ins} {v : Int} {rest : List Int} (hM : L.at_ M = some (.ins 1 (mFs img pace mem pd fl c))) (hpd : L.at_ pd = some (.dct (pendK c.pend))) (hmem : L.at_ mem = some (.lst (intsL c.mem)))
    (hr : L.at_ r = some (.ins 0 (frFs t st))) (hst : L.at_ st = some (.lst (intsL t.stack))) (n4 : r ≠ st) (hc : comp c t pace i = some (v, rest)) :
    ∃ L', run mo.pg (k + 3) 31 [.ref M, .ref r, insLV nS i] L = .ok (.int v) L' ∧ L'.n = L.n ∧ L'.at_ st = some (.lst (intsL rest)) ∧ ∀ z, z ≠ st → L'.at_ z = L.at_ z := by
  unfold comp at hc
  split at hc
  · rename_i e
    cases e0 : i.2[0]? with
    | none => rw [e0] at hc; simp at hc
    | some a =>
      rw [e0] at hc
      simp only [Option.map_some, Option.some.injEq, Prod.mk.injEq] at hc
      obtain ⟨rfl, rfl⟩ := hc
      exact ⟨L, computed_0 e e0, rfl, hst, fun _ _ => rfl⟩
  · split at hc
    · rename_i e
      cases e0 : i.2[0]? with
      | none => rw [e0] at hc; simp at hc
      | some a =>
        rw [e0] at hc
        simp only [Option.bind_some] at hc
        cases ev : valAt c (t.base + a) with
        | none => rw [ev] at hc; simp at hc
        | some w =>
          rw [ev] at hc
          simp only [Option.map_some, Option.some.injEq, Prod.mk.injEq] at hc
          obtain ⟨rfl, rfl⟩ := hc
          exact ⟨L, computed_1 hM hpd hmem hr e e0 ev, rfl, hst, fun _ _ => rfl⟩
    · split at hc
      · rename_i e
        simp only [Option.some.injEq, Prod.mk.injEq] at hc
        obtain ⟨rfl, rfl⟩ := hc
        exact ⟨L, computed_3 hM e, rfl, hst, fun _ _ => rfl⟩
      · split at hc
        · rename_i e
          cases e0 : i.2[0]? with
          | none => rw [e0] at hc; simp at hc
          | some a =>
            rw [e0] at hc
            simp only [Option.bind_some] at hc
            cases ev : t.stack[a]? with
            | none => rw [ev] at hc; simp at hc
            | some w =>
              rw [ev] at hc
              simp only [Option.map_some, Option.some.injEq, Prod.mk.injEq] at hc
              obtain ⟨rfl, rfl⟩ := hc
              exact ⟨L, computed_4 hr hst e e0 ev, rfl, hst, fun _ _ => rfl⟩
        · split at hc
          · rename_i e
            cases ev : t.stack.getLast? with
            | none => rw [ev] at hc; simp at hc
            | some w =>
              rw [ev] at hc
              simp only [Option.map_some, Option.some.injEq, Prod.mk.injEq] at hc
              obtain ⟨rfl, rfl⟩ := hc
              exact ⟨L, computed_5 hr hst e ev, rfl, hst, fun _ _ => rfl⟩
          · cases ev : t.stack.getLast? with
            | none => rw [ev] at hc; simp at hc
            | some y =>
              rw [ev] at hc
              simp only [Option.bind_some] at hc
              split at hc
              · rename_i e
                simp only [Option.some.injEq, Prod.mk.injEq] at hc
                obtain ⟨rfl, rfl⟩ := hc
                exact ⟨_, computed_un hr hst ev e, rfl, by simp, fun z hz => put_ne hz⟩
              · split at hc
                · rename_i e6
                  cases ew : t.stack.dropLast.getLast? with
                  | none => rw [ew] at hc; simp at hc
                  | some x =>
                    rw [ew] at hc
                    simp only [Option.bind_some] at hc
                    split at hc
                    · rename_i hx
                      simp only [Option.some.injEq, Prod.mk.injEq] at hc
                      obtain ⟨rfl, rfl⟩ := hc
                      exact ⟨_, computed_bin hr hst n4 ev ew e6 hx, rfl, by simp, fun z hz => by rw [put_ne hz, put_ne hz]⟩
                    · cases hc
                · cases hc
theorem nS_injF : ∀ a b : Fin 25, nS a = nS b → a = b := by decide +kernel
theorem nS_inj {a b : Nat} (ha : a < 25) (hb : b < 25) (h : nS a = nS b) : a = b := congrArg Fin.val (nS_injF ⟨a, ha⟩ ⟨b, hb⟩ h)
/-! ### one step -/
abbrev tailS (M r : Nat) (i : Ins) : LSt := [some (.ref M), some (.ref r), some (insLV nS i), some (.str (nS i.1)), none]
theorem t_hop {F : Fn} {i : Ins} {a : Nat} (hf : F.fld 0 2 = true) (hr : L.at_ r = some (.ins 0 (frFs t st))) (e : i.1 = 20) (e0 : i.2[0]? = some a) :
    endOf (evSs F execTail (tailS M r i) L) = .ok .non (L.put r (.ins 0 (frFs { t with place := t.place + a } st))) := by
  simp only [frFs] at hr
  simp [execTail, d30, insLV, e, nS, arg0 e0, hr, hf, frFs]
theorem t_hopno {F : Fn} {i : Ins} {a : Nat} {x : Int} (hf : F.fld 0 2 = true) (hr : L.at_ r = some (.ins 0 (frFs t st))) (hst : L.at_ st = some (.lst (intsL t.stack))) (ne : r ≠ st) (e : i.1 = 21) (e0 : i.2[0]? = some a) (ev : t.stack.getLast? = some x) :
    endOf (evSs F execTail (tailS M r i) L) = .ok .non (if x < 1 then (L.put st (.lst (intsL t.stack.dropLast))).put r (.ins 0 (frFs { t with place := t.place + a } st)) else L.put st (.lst (intsL t.stack.dropLast))) := by
  have hb : bmTy L .lpop (.ref st) = true := bm_lst hst rfl
  have hp := pop_ok hst ev
  simp only [frFs] at hr
  by_cases hx : x < 1
  · simp [execTail, d30, insLV, e, nS, arg0 e0, hr, hf, frFs, hb, hp, hx, ne]
  · simp [execTail, d30, insLV, e, nS, hr, hf, frFs, hb, hp, hx, ne]
theorem t_drop {F : Fn} {i : Ins} {x : Int} (hr : L.at_ r = some (.ins 0 (frFs t st))) (hst : L.at_ st = some (.lst (intsL t.stack))) (e : i.1 = 6) (ev : t.stack.getLast? = some x) :
    endOf (evSs F execTail (tailS M r i) L) = .ok .non (L.put st (.lst (intsL t.stack.dropLast))) := by
  have hb : bmTy L .lpop (.ref st) = true := bm_lst hst rfl
  have hp := pop_ok hst ev
  simp only [frFs] at hr
  simp [execTail, d30, insLV, e, nS, hr, hb, hp]
theorem t_put {k : Nat} {i : Ins} {a : Nat} {x : Int} {tk : Int × Bool} (hM : L.at_ M = some (.ins 1 (mFs img pace mem pd fl c))) (hpd : L.at_ pd = some (.dct (pendK c.pend))) (hmem : L.at_ mem = some (.lst (intsL c.mem)))
    (hr : L.at_ r = some (.ins 0 (frFs t st))) (hst : L.at_ st = some (.lst (intsL t.stack))) (n : Ne6 M mem pd fl r st) (e : i.1 = 2) (e0 : i.2[0]? = some a) (hx : t.stack.getLast? = some x) (ht : t.table[a]? = some tk) (h0 : 0 ≤ tk.1) (hz : c.pend.length < sizeLine)
    (hlt : tk.2 = false → t.base + a < c.mem.length) :
    endOf (evSs (mo.F (k + 2)) execTail (tailS M r i) L) = .ok .non (if tk.2 = true then (L.put st (.lst (intsL t.stack.dropLast))).put pd (.dct (pendK (pput c.pend (t.base + a) (sat x tk.1)))) else (L.put st (.lst (intsL t.stack.dropLast))).put mem (.lst (intsL (c.mem.set (t.base + a) (sat x tk.1))))) := by
  have hp := put_mach_ok (k := k) hM hpd hmem hr hst n hx ht h0 hz hlt
  have hme : mo.mth 1 24 = some 33 := rfl
  simp only [mFs] at hM
  simp [execTail, d30, insLV, e, nS, arg0 e0, hM, hme, hp]
theorem t_push {k : Nat} {i : Ins} {v : Int} {rest : List Int} (hM : L.at_ M = some (.ins 1 (mFs img pace mem pd fl c))) (hpd : L.at_ pd = some (.dct (pendK c.pend))) (hmem : L.at_ mem = some (.lst (intsL c.mem)))
    (hr : L.at_ r = some (.ins 0 (frFs t st))) (hst : L.at_ st = some (.lst (intsL t.stack))) (n4 : r ≠ st) (hne : i.1 ≠ 20 ∧ i.1 ≠ 21 ∧ i.1 ≠ 22 ∧ i.1 ≠ 24 ∧ i.1 ≠ 23 ∧ i.1 ≠ 2 ∧ i.1 ≠ 6) (hi : i.1 < 25) (hc : comp c t pace i = some (v, rest)) (hz : rest.length < sizeLine) :
    ∃ L', endOf (evSs (mo.F (k + 3)) execTail (tailS M r i) L) = .ok .non L' ∧ L'.n = L.n ∧ L'.at_ st = some (.lst (intsL (rest ++ [v]))) ∧ ∀ z, z ≠ st → L'.at_ z = L.at_ z := by
  obtain ⟨L2, e1, e2, e3, e4⟩ := computed_ok (k := k) hM hpd hmem hr hst n4 hc
  have hme : mo.mth 1 25 = some 31 := rfl
  have hr2 : L2.at_ r = some (.ins 0 (frFs t st)) := by rw [e4 r n4]; exact hr
  have ha : bmV .lappend (.ref st) [.int v] L2 = .ok .non (L2.put st (.lst (intsL rest ++ [.int v]))) := m_append e3 (by simpa [intsL] using hz)
  have hb : bmTy L2 .lappend (.ref st) = true := bm_lst e3 rfl
  refine ⟨L2.put st (.lst (intsL rest ++ [.int v])), ?_, by simp [e2], by simp [intsL], fun z hz => by rw [put_ne hz]; exact e4 z hz⟩
  have hn : ∀ j, j < 25 → i.1 ≠ j → (nS i.1 = nS j) = False := fun j hj hij => by
    exact eq_false fun h => hij (nS_inj hi hj h)
  obtain ⟨a1, a2, a3, a4, a5, a6, a7⟩ := hne
  have b1 := hn 20 (by omega) a1
  have b2 := hn 21 (by omega) a2
  have b3 := hn 22 (by omega) a3
  have b4 := hn 24 (by omega) a4
  have b5 := hn 23 (by omega) a5
  have b6 := hn 2 (by omega) a6
  have b7 := hn 6 (by omega) a7
  have c1 : nS 20 = cs 20 := rfl
  have c2 : nS 21 = cs 21 := rfl
  have c3 : nS 22 = cs 22 := rfl
  have c4 : nS 24 = cs 24 := rfl
  have c5 : nS 23 = cs 23 := rfl
  have c6 : nS 2 = cs 2 := rfl
  have c7 : nS 6 = cs 6 := rfl
  rw [c1] at b1; rw [c2] at b2; rw [c3] at b3; rw [c4] at b4; rw [c5] at b5; rw [c6] at b6; rw [c7] at b7
  simp only [mFs] at hM
  simp only [frFs] at hr2
  simp only [insLV] at e1
  simp [execTail, d30, insLV, b1, b2, b3, b4, b5, b6, b7, hM, hme, e1, hr2, hb, ha]
theorem t_call {k : Nat} {im : Img} {i : Ins} {sg d : Nat} {ps : List LV} {f : Fr} (hM : L.at_ M = some (.ins 1 (mFs (imgLV nS im) pace mem pd fl c))) (hfl : L.at_ fl = some (.lst ps)) (hr : L.at_ r = some (.ins 0 (frFs t st))) (e : i.1 = 22) (e0 : i.2[0]? = some sg) (e1 : i.2[1]? = some d)
    (hf : newFr im sg (t.base + d) = some f) (hi : M < L.n ∧ fl < L.n ∧ r < L.n) (hz : ps.length < sizeLine) :
    ∃ L' : LH, endOf (evSs (mo.F (k + 1)) execTail (tailS M r i) L) = .ok .non (L'.put fl (.lst (ps ++ [.ref L.n]))) ∧ L'.n = L.n + 2 ∧ L'.at_ L.n = some (.ins 0 (frFs f (L.n + 1))) ∧ L'.at_ (L.n + 1) = some (.lst (intsL f.stack)) ∧ ∀ z, z < L.n → L'.at_ z = L.at_ z := by
  obtain ⟨L', h1, h2, h3, h4, h5⟩ := frame_ok (k := k) (L := L) hf
  have hfl' : L'.at_ fl = some (.lst ps) := by rw [h5 _ hi.2.1]; exact hfl
  have ha : bmV .lappend (.ref fl) [.ref L.n] L' = .ok .non (L'.put fl (.lst (ps ++ [.ref L.n]))) := m_append hfl' hz
  have hb : bmTy L .lappend (.ref fl) = true := bm_lst hfl rfl
  refine ⟨L', ?_, h2, h3, h4, h5⟩
  simp only [mFs] at hM
  simp only [frFs] at hr
  simp only [Int.natCast_add] at h1
  simp [execTail, d30, insLV, e, nS, arg0 e0, arg1 e1, hM, hr, hb, ha, h1]
theorem t_beat {k : Nat} {i : Ins} {a : Nat} {c2 : MC} (hM : L.at_ M = some (.ins 1 (mFs img pace mem pd fl c))) (hpd : L.at_ pd = some (.dct (pendK c.pend))) (hmem : L.at_ mem = some (.lst (intsL c.mem))) (n1 : M ≠ mem) (n2 : M ≠ pd) (n6 : mem ≠ pd) (hc : commit c = some c2)
    (hi : M < L.n ∧ mem < L.n ∧ pd < L.n) (e : i.1 = 23) (e0 : i.2[0]? = some a) :
    ∃ L', endOf (evSs (mo.F (k + 1)) execTail (tailS M r i) L) = .ok .non L' ∧ L'.n = L.n + 1 ∧ L'.at_ M = some (.ins 1 (mFs img pace mem L.n fl { c2 with tally := c2.tally + (a : Int) })) ∧ L'.at_ mem = some (.lst (intsL c2.mem)) ∧ L'.at_ L.n = some (.dct []) ∧ c2.pend = [] ∧
      ∀ z, z < L.n → z ≠ M → z ≠ mem → z ≠ pd → L'.at_ z = L.at_ z := by
  obtain ⟨L', h1, h2, h3, h4, h5, h6, h7⟩ := commit_ok (k := k) hM hpd hmem n1 n2 n6 hc hi
  have hme : mo.mth 1 23 = some 34 := rfl
  have f1 : mo.fld 1 11 = true := rfl
  refine ⟨L'.put M (.ins 1 (mFs img pace mem L.n fl { c2 with tally := c2.tally + (a : Int) })), ?_, by simp [h2], by simp, by rw [put_ne n1.symm]; exact h4, by rw [put_ne (by omega)]; exact h5, h6, fun z z0 z1 z2 z3 => by rw [put_ne z1]; exact h7 z z0 z1 z2 z3⟩
  simp only [mFs] at hM h3
  simp [execTail, d30, insLV, e, nS, arg0 e0, hM, hme, h1, h3, f1, mFs]
theorem t_back {k : Nat} {i : Ins} (hM : L.at_ M = some (.ins 1 (mFs img pace mem pd fl c))) (e : i.1 = 24) {L' : LH} (h : run mo.pg k 35 [.ref M] L = .ok .non L') :
    endOf (evSs (mo.F k) execTail (tailS M r i) L) = .ok .non L' := by
  have hme : mo.mth 1 22 = some 35 := rfl
  simp only [mFs] at hM
  simp [execTail, d30, insLV, e, nS, hM, hme, h]
/-- the machine, running or done -/
def Mach (b : Nat) (L : LH) (img : LV) (pace : Int) (M mem fl : Nat) (c : MC) (fs : List Fr) : Prop :=
  (fs = [] ∧ (∃ pd, L.at_ M = some (.ins 1 (mFs img pace mem pd fl c))) ∧ L.at_ mem = some (.lst (intsL c.mem)) ∧ L.at_ fl = some (.lst [])) ∨
  ∃ low t pd r st fp, fs = low ++ [t] ∧ Top b L img pace M mem pd fl r st fp c low t
end
section
variable {b : Nat} {L L' : LH} {img : LV} {pace : Int} {M mem pd fl r st : Nat} {fp : List (Nat × Nat)} {c c' : MC} {low : List Fr} {t t' : Fr}
theorem Top.newpd (T : Top b L img pace M mem pd fl r st fp c low t) (hb : b ≤ L.n) (hM : L'.at_ M = some (.ins 1 (mFs img pace mem L.n fl c'))) (hmem : L'.at_ mem = some (.lst (intsL c'.mem))) (hpd : L'.at_ L.n = some (.dct (pendK c'.pend)))
    (keep : ∀ z, z < L.n → z ≠ M → z ≠ mem → z ≠ pd → L'.at_ z = L.at_ z) (hn : L'.n = L.n + 1) : Top b L' img pace M mem L.n fl r st fp c' low t := by
  obtain ⟨n1, n2, n3, n4, n5, n6, n7, n8, n9, n10, n11, n12, n13, n14, n15⟩ := T.ne
  have hi := T.hi
  have lo := T.lo
  have nd := T.nd
  simp only [List.mem_cons, forall_eq_or_imp] at hi lo
  obtain ⟨h1, h2, h3, h4, h5, h6, h7⟩ := hi
  obtain ⟨l1, l2, l3, l4, l5, l6, l7⟩ := lo
  refine ⟨hM, hmem, hpd, ?_, ?_, ?_, ?_, ?_, ?_, ?_⟩
  · rw [keep _ h4 (Ne.symm n3) (Ne.symm n7) (Ne.symm n10)]; exact T.hfl
  · rw [keep _ h5 (Ne.symm n4) (Ne.symm n8) (Ne.symm n11)]; exact T.hr
  · rw [keep _ h6 (Ne.symm n5) (Ne.symm n9) (Ne.symm n12)]; exact T.hst
  · refine T.low.keep fun x hx => ?_
    obtain ⟨s1, s2, s3, s4, s5, s6⟩ := T.sep x hx
    exact keep x (h7 x hx) s1 s2 s3
  · simp only [List.nodup_cons, List.mem_cons, not_or] at nd ⊢
    obtain ⟨⟨a1, a2, a3, a4, a5, a6⟩, ⟨b1, b2, b3, b4, b5⟩, ⟨c1, c2, c3, c4⟩, rest⟩ := nd
    have g : L.n ∉ adr fp := fun h => absurd (h7 _ h) (Nat.lt_irrefl _)
    exact ⟨⟨a1, by omega, a3, a4, a5, a6⟩, ⟨by omega, b2, b3, b4, b5⟩, ⟨by omega, by omega, by omega, g⟩, rest⟩
  · simp only [List.mem_cons, forall_eq_or_imp]
    exact ⟨l1, l2, hb, l4, l5, l6, l7⟩
  · simp only [List.mem_cons, forall_eq_or_imp, hn]
    exact ⟨by omega, by omega, by omega, by omega, by omega, by omega, fun x hx => Nat.lt_succ_of_lt (h7 x hx)⟩
theorem Top.down (T : Top b L img pace M mem pd fl r st fp c low t) (hb : b ≤ L.n) {f : Fr} (hr' : L'.at_ L.n = some (.ins 0 (frFs f (L.n + 1)))) (hst' : L'.at_ (L.n + 1) = some (.lst (intsL f.stack))) (hn : L'.n = L.n + 2) (keep : ∀ z, z < L.n → L'.at_ z = L.at_ z) :
    Top b (L'.put fl (.lst ((fp.map (fun p => LV.ref p.1) ++ [.ref r]) ++ [.ref L.n]))) img pace M mem pd fl L.n (L.n + 1) (fp ++ [(r, st)]) c (low ++ [t]) f := by
  obtain ⟨n1, n2, n3, n4, n5, n6, n7, n8, n9, n10, n11, n12, n13, n14, n15⟩ := T.ne
  have hi := T.hi
  have lo := T.lo
  have nd := T.nd
  simp only [List.mem_cons, forall_eq_or_imp] at hi lo
  obtain ⟨h1, h2, h3, h4, h5, h6, h7⟩ := hi
  obtain ⟨l1, l2, l3, l4, l5, l6, l7⟩ := lo
  have ea : adr (fp ++ [(r, st)]) = adr fp ++ [r, st] := by rw [adr_append]; rfl
  refine ⟨?_, ?_, ?_, ?_, ?_, ?_, ?_, ?_, ?_, ?_⟩
  · rw [put_ne n3, keep _ h1]; exact T.hM
  · rw [put_ne n7, keep _ h2]; exact T.hmem
  · rw [put_ne n10, keep _ h3]; exact T.hpd
  · simp
  · rw [put_ne (by omega)]; exact hr'
  · rw [put_ne (by omega)]; exact hst'
  · have : ∀ x ∈ adr (fp ++ [(r, st)]), (L'.put fl (.lst ((fp.map (fun p => LV.ref p.1) ++ [.ref r]) ++ [.ref L.n]))).at_ x = L.at_ x := fun x hx => by
      rw [ea, List.mem_append] at hx
      rcases hx with hx | hx
      · obtain ⟨s1, s2, s3, s4, s5, s6⟩ := T.sep x hx
        rw [put_ne s4, keep _ (h7 x hx)]
      · simp only [List.mem_cons, List.not_mem_nil, or_false] at hx
        rcases hx with rfl | rfl
        · rw [put_ne (Ne.symm n13), keep _ h5]
        · rw [put_ne (Ne.symm n14), keep _ h6]
    exact RepFs.keep this (RepFs.snoc T.hr T.hst T.low)
  · simp only [List.nodup_cons, List.mem_cons, not_or] at nd
    obtain ⟨⟨a1, a2, a3, a4, a5, a6⟩, ⟨b1, b2, b3, b4, b5⟩, ⟨c1, c2, c3, c4⟩, ⟨d1, d2, d3⟩, ⟨e1, e2⟩, f1, f2⟩ := nd
    have g1 : L.n ∉ adr fp := fun h => absurd (h7 _ h) (Nat.lt_irrefl _)
    have g2 : L.n + 1 ∉ adr fp := fun h => absurd (h7 _ h) (by omega)
    have nd2 : (adr fp ++ [r, st]).Nodup := by
      rw [List.nodup_append]
      refine ⟨f2, by simp [e1], fun x hx y hy => ?_⟩
      simp only [List.mem_cons, List.not_mem_nil, or_false] at hy
      rintro rfl
      rcases hy with rfl | rfl
      · exact e2 hx
      · exact f1 hx
    rw [ea]
    simp only [List.nodup_cons, List.mem_cons, List.mem_append, not_or, List.not_mem_nil, or_false, not_false_eq_true, and_true]
    exact ⟨⟨a1, a2, a3, by omega, by omega, a6, a4, a5⟩, ⟨b1, b2, by omega, by omega, b5, b3, b4⟩, ⟨c1, by omega, by omega, c4, c2, c3⟩, ⟨by omega, by omega, d3, d1, d2⟩, ⟨by omega, g1, by omega, by omega⟩, ⟨g2, by omega, by omega⟩, nd2⟩
  · rw [ea]
    simp only [List.mem_cons, forall_eq_or_imp, List.mem_append, List.not_mem_nil, or_false]
    refine ⟨l1, l2, l3, l4, hb, by omega, fun x hx => ?_⟩
    rcases hx with hx | rfl | rfl
    · exact l7 x hx
    · exact l5
    · exact l6
  · rw [ea]
    simp only [List.mem_cons, forall_eq_or_imp, List.mem_append, List.not_mem_nil, or_false, LH.put_n, hn]
    refine ⟨by omega, by omega, by omega, by omega, by omega, by omega, fun x hx => ?_⟩
    rcases hx with hx | rfl | rfl
    · have := h7 x hx; omega
    · omega
    · omega
theorem Top.up (T : Top b L img pace M mem pd fl r st fp c low t) (hne : fp ≠ []) : ∃ low0 t0 r0 st0 fp0, low = low0 ++ [t0] ∧ Top b (L.put fl (.lst (fp.map fun p => LV.ref p.1))) img pace M mem pd fl r0 st0 fp0 c low0 t0 := by
  obtain ⟨fp0, q, rfl⟩ : ∃ fp0 q, fp = fp0 ++ [q] := ⟨fp.dropLast, fp.getLast hne, (List.dropLast_concat_getLast hne).symm⟩
  obtain ⟨low0, t0, e, h2, h3, h4⟩ := RepFs.unsnoc T.low
  obtain ⟨n1, n2, n3, n4, n5, n6, n7, n8, n9, n10, n11, n12, n13, n14, n15⟩ := T.ne
  have hi := T.hi
  have lo := T.lo
  have nd := T.nd
  have ea : adr (fp0 ++ [q]) = adr fp0 ++ [q.1, q.2] := by rw [adr_append]; rfl
  have sp := T.sep
  rw [ea] at hi lo nd sp
  simp only [List.mem_cons, forall_eq_or_imp, List.mem_append, List.not_mem_nil, or_false] at hi lo
  obtain ⟨h1, h2', h3', h4', h5, h6, h7⟩ := hi
  obtain ⟨l1, l2, l3, l4, l5, l6, l7⟩ := lo
  simp only [List.nodup_cons, List.mem_cons, List.mem_append, not_or, List.not_mem_nil, or_false] at nd
  obtain ⟨⟨a1, a2, a3, a4, a5, a6, a7, a8⟩, ⟨b1, b2, b3, b4, b5, b6, b7⟩, ⟨c1, c2, c3, c4, c5, c6⟩, ⟨d1, d2, d3, d4, d5⟩, _, _, f2⟩ := nd
  rw [List.nodup_append] at f2
  obtain ⟨u1, u2, u3⟩ := f2
  have q12 : q.1 ≠ q.2 := by
    simp only [List.nodup_cons, List.mem_cons, List.not_mem_nil, or_false] at u2
    exact u2.1
  have q1 : q.1 ∉ adr fp0 := fun h => u3 _ h q.1 (by simp) rfl
  have q2 : q.2 ∉ adr fp0 := fun h => u3 _ h q.2 (by simp) rfl
  refine ⟨low0, t0, q.1, q.2, fp0, e, ?_, ?_, ?_, ?_, ?_, ?_, ?_, ?_, ?_, ?_⟩
  · rw [put_ne n3]; exact T.hM
  · rw [put_ne n7]; exact T.hmem
  · rw [put_ne n10]; exact T.hpd
  · simp
  · rw [put_ne (Ne.symm d4)]; exact h3
  · rw [put_ne (Ne.symm d5)]; exact h4
  · refine RepFs.keep (fun x hx => ?_) h2
    rw [put_ne (sp x (List.mem_append_left _ hx)).2.2.2.1]
  · simp only [List.nodup_cons, List.mem_cons, not_or]
    exact ⟨⟨a1, a2, a3, a7, a8, a6⟩, ⟨b1, b2, b6, b7, b5⟩, ⟨c1, c5, c6, c4⟩, ⟨d4, d5, d3⟩, ⟨q12, q1⟩, q2, u1⟩
  · simp only [List.mem_cons, forall_eq_or_imp]
    exact ⟨l1, l2, l3, l4, l7 _ (.inr (.inl rfl)), l7 _ (.inr (.inr rfl)), fun x hx => l7 x (.inl hx)⟩
  · simp only [List.mem_cons, forall_eq_or_imp, LH.put_n]
    exact ⟨h1, h2', h3', h4', h7 _ (.inr (.inl rfl)), h7 _ (.inr (.inr rfl)), fun x hx => h7 x (.inl hx)⟩
end
end K87
end

section
set_option Elab.async false
set_option linter.all false
set_option maxRecDepth 100000
set_option maxHeartbeats 4000000
namespace K87
open PySem LG LM
section
variable {b : Nat} {L L' : LH} {img : LV} {im : Img} {pace : Int} {M mem pd fl r st : Nat} {fp : List (Nat × Nat)} {c c' : MC} {low : List Fr} {t t' : Fr}
theorem L1_keep (T : Top b L img pace M mem pd fl r st fp c low t) : (L1 L img pace M mem pd fl r st c t).n = L.n ∧ ∀ x, x < b → (L1 L img pace M mem pd fl r st c t).at_ x = L.at_ x := by
  have lo := T.lo
  simp only [List.mem_cons, forall_eq_or_imp] at lo
  obtain ⟨l1, l2, l3, l4, l5, l6, l7⟩ := lo
  refine ⟨rfl, fun x hx => ?_⟩
  unfold L1
  rw [put_ne (by omega), put_ne (by omega)]
/-- what one step must not outgrow -/
structure Small (c : MC) (low : List Fr) (t : Fr) : Prop where
  p : c.pend.length < 1000000
  l : low.length < 1000000
  s : t.stack.length < 1000000
  tb : ∀ tk ∈ t.table, 0 ≤ tk.1
  op : ∀ i ∈ t.code, i.1 < 25
theorem size_big : (1000001 : Nat) < sizeLine := by decide
theorem comp_len {i : Ins} {v : Int} {rest : List Int} (h : comp c t pace i = some (v, rest)) : rest.length ≤ t.stack.length := by
  unfold comp at h
  split at h
  · cases e : i.2[0]? <;> rw [e] at h <;> simp at h
    exact Nat.le_of_eq (congrArg List.length h.2.symm)
  · split at h
    · cases e : i.2[0]? <;> rw [e] at h <;> simp at h
      obtain ⟨_, _, _, rfl⟩ := h
      omega
    · split at h
      · simp at h
        exact Nat.le_of_eq (congrArg List.length h.2.symm)
      · split at h
        · cases e : i.2[0]? <;> rw [e] at h <;> simp at h
          obtain ⟨_, _, _, rfl⟩ := h
          omega
        · split at h
          · cases e : t.stack.getLast? <;> rw [e] at h <;> simp at h
            exact Nat.le_of_eq (congrArg List.length h.2.symm)
          · cases e : t.stack.getLast? with
            | none => rw [e] at h; simp at h
            | some y =>
              rw [e] at h
              simp only [Option.bind_some] at h
              split at h
              · simp only [Option.some.injEq, Prod.mk.injEq] at h
                rw [← h.2]; simp
              · split at h
                · cases e2 : t.stack.dropLast.getLast? with
                  | none => rw [e2] at h; simp at h
                  | some x =>
                    rw [e2] at h
                    simp only [Option.bind_some] at h
                    split at h
                    · simp only [Option.some.injEq, Prod.mk.injEq] at h
                      rw [← h.2]; simp; omega
                    · cases h
                · cases h
theorem exec_ok {k : Nat} {fs' : List Fr} (T : Top b L (imgLV nS im) pace M mem pd fl r st fp c low t) (hb : b ≤ L.n) (S : Small c low t) (hs : mstep im pace c low t = some (c', fs')) :
    ∃ L', run mo.pg (k + 4) 30 [.ref M] L = .ok .non L' ∧ Mach b L' (imgLV nS im) pace M mem fl c' fs' ∧ L.n ≤ L'.n ∧ ∀ x, x < b → L'.at_ x = L.at_ x := by
  unfold mstep at hs
  cases hi : t.code[t.place]? with
  | none => rw [hi] at hs; simp at hs
  | some i =>
    rw [hi] at hs
    simp only [Option.bind_some] at hs
    have hop : i.1 < 25 := S.op i (List.mem_of_getElem? hi)
    rw [exec_pre T hi]
    have T1 := T.next
    obtain ⟨hn, hk⟩ := L1_keep T
    generalize L1 L (imgLV nS im) pace M mem pd fl r st c t = LL at T1 hn hk
    have bb : b ≤ LL.n := by omega
    obtain ⟨n1, n2, n3, n4, n5, n6, n7, n8, n9, n10, n11, n12, n13, n14, n15⟩ := T1.ne
    have lo := T1.lo
    have hh := T1.hi
    simp only [List.mem_cons, forall_eq_or_imp] at lo hh
    obtain ⟨l1, l2, l3, l4, l5, l6, l7⟩ := lo
    obtain ⟨h1, h2, h3, h4, h5, h6, h7⟩ := hh
    have szp : c.pend.length < sizeLine := Nat.lt_trans S.p (by decide)
    split at hs
    · rename_i e
      cases e0 : i.2[0]? with
      | none => rw [e0] at hs; simp at hs
      | some a =>
        rw [e0] at hs
        simp only [Option.map_some, Option.some.injEq, Prod.mk.injEq] at hs
        obtain ⟨rfl, rfl⟩ := hs
        refine ⟨_, t_hop (F := mo.F (k + 3)) rfl T1.hr e e0, .inr ⟨low, _, pd, r, st, fp, rfl, ?_⟩, by simp [hn], fun x hx => by rw [put_ne (by omega)]; exact hk x hx⟩
        refine T1.re (by rw [put_ne n4]; exact T1.hM) (by rw [put_ne n8]; exact T1.hmem) (by rw [put_ne n11]; exact T1.hpd) (by rw [put_ne n13]) (by simp) (by rw [put_ne (Ne.symm n15)]; exact T1.hst) (fun x hx => put_ne (T1.sep x hx).2.2.2.2.1) (by simp)
    · split at hs
      · rename_i e
        cases e0 : i.2[0]? with
        | none => rw [e0] at hs; simp at hs
        | some a =>
          rw [e0] at hs
          simp only [Option.bind_some] at hs
          cases ev : t.stack.getLast? with
          | none => rw [ev] at hs; simp at hs
          | some x =>
            rw [ev] at hs
            simp only [Option.map_some, Option.some.injEq, Prod.mk.injEq] at hs
            obtain ⟨rfl, rfl⟩ := hs
            refine ⟨_, t_hopno (F := mo.F (k + 3)) rfl T1.hr T1.hst n15 e e0 ev, .inr ⟨low, _, pd, r, st, fp, rfl, ?_⟩, ?_, ?_⟩
            · by_cases hx : x < 1
              · rw [if_pos hx]
                rw [if_pos hx]
                refine T1.re (by rw [put_ne n4, put_ne n5]; exact T1.hM) (by rw [put_ne n8, put_ne n9]; exact T1.hmem) (by rw [put_ne n11, put_ne n12]; exact T1.hpd) (by rw [put_ne n13, put_ne n14]) (by simp [frFs]) (by rw [put_ne (Ne.symm n15)]; simp)
                  (fun x hx => by rw [put_ne (T1.sep x hx).2.2.2.2.1, put_ne (T1.sep x hx).2.2.2.2.2]) (by simp)
              · rw [if_neg hx]
                rw [if_neg hx]
                refine T1.re (by rw [put_ne n5]; exact T1.hM) (by rw [put_ne n9]; exact T1.hmem) (by rw [put_ne n12]; exact T1.hpd) (by rw [put_ne n14]) (by rw [put_ne n15]; exact T1.hr) (by simp)
                  (fun x hx => by rw [put_ne (T1.sep x hx).2.2.2.2.2]) (by simp)
            · split <;> simp [hn]
            · intro x hx
              split
              · rw [put_ne (by omega), put_ne (by omega)]; exact hk x hx
              · rw [put_ne (by omega)]; exact hk x hx
      · split at hs
        · rename_i e
          cases e0 : i.2[0]? with
          | none => rw [e0] at hs; simp at hs
          | some sg =>
            rw [e0] at hs
            simp only [Option.bind_some] at hs
            cases e1 : i.2[1]? with
            | none => rw [e1] at hs; simp at hs
            | some d =>
              rw [e1] at hs
              simp only [Option.bind_some] at hs
              cases ef : newFr im sg (t.base + d) with
              | none => rw [ef] at hs; simp at hs
              | some f =>
                rw [ef] at hs
                simp only [Option.map_some, Option.some.injEq, Prod.mk.injEq] at hs
                obtain ⟨rfl, rfl⟩ := hs
                have hz : (fp.map (fun (p : Nat × Nat) => LV.ref p.1) ++ [LV.ref r]).length < sizeLine := by
                  have := T1.low.length
                  have := S.l
                  have hb := size_big
                  simp only [List.length_append, List.length_map, List.length_cons, List.length_nil]
                  omega
                obtain ⟨L', q1, q2, q3, q4, q5⟩ := t_call (k := k + 2) (d := d) T1.hM T1.hfl T1.hr e e0 e1 ef ⟨h1, h4, h5⟩ hz
                refine ⟨_, q1, .inr ⟨_, f, pd, _, _, _, by simp, T1.down bb q3 q4 q2 q5⟩, by simp; omega, fun x hx => by rw [put_ne (by omega), q5 x (by omega)]; exact hk x hx⟩
        · split at hs
          · rename_i e
            have hfl := T1.hfl
            split at hs
            · rename_i e2
              cases ec : commit { c with done := c.done + 1 } with
              | none => rw [ec] at hs; simp at hs
              | some c2 =>
                rw [ec] at hs
                simp only [Option.map_some, Option.some.injEq, Prod.mk.injEq] at hs
                obtain ⟨rfl, rfl⟩ := hs
                have hl0 : fp = [] := List.eq_nil_of_length_eq_zero (by rw [T1.low.length, e2]; rfl)
                subst hl0
                rcases leave_ok (k := k + 1) T1.hM T1.hpd T1.hmem hfl n1 n2 n6 n3 n7 n10 ⟨h1, h2, h3, h4⟩ (fun _ => ec) with ⟨q, _⟩ | ⟨_, L', q1, q2, q3, q4, q5, q6, q7, q8⟩
                · exact absurd rfl q
                · exact ⟨L', t_back T1.hM e q1, .inl ⟨rfl, ⟨_, q3⟩, q4, q7⟩, by omega, fun x hx => by rw [q8 x (by omega) (by omega) (by omega) (by omega) (by omega)]; exact hk x hx⟩
            · rename_i e2
              simp only [Option.some.injEq, Prod.mk.injEq] at hs
              obtain ⟨rfl, rfl⟩ := hs
              have hne : fp ≠ [] := fun h => e2 (List.eq_nil_of_length_eq_zero (by rw [← T1.low.length, h]; rfl))
              have hne2 : fp.map (fun p => LV.ref p.1) ≠ [] := by simpa using hne
              rcases leave_ok (k := k + 1) (c2 := c) T1.hM T1.hpd T1.hmem hfl n1 n2 n6 n3 n7 n10 ⟨h1, h2, h3, h4⟩ (fun h => absurd h hne2) with ⟨_, q1⟩ | ⟨q, _⟩
              · obtain ⟨low0, t0, r0, st0, fp0, rfl, T2⟩ := T1.up hne
                exact ⟨_, t_back T1.hM e q1, .inr ⟨low0, t0, pd, r0, st0, fp0, rfl, T2⟩, by simp [hn], fun x hx => by rw [put_ne (by omega)]; exact hk x hx⟩
              · exact absurd q hne2
          · split at hs
            · rename_i e
              cases e0 : i.2[0]? with
              | none => rw [e0] at hs; simp at hs
              | some a =>
                rw [e0] at hs
                simp only [Option.bind_some] at hs
                cases ec : commit { c with done := c.done + 1 } with
                | none => rw [ec] at hs; simp at hs
                | some c2 =>
                  rw [ec] at hs
                  simp only [Option.map_some, Option.some.injEq, Prod.mk.injEq] at hs
                  obtain ⟨rfl, rfl⟩ := hs
                  obtain ⟨L', q1, q2, q3, q4, q5, q6, q7⟩ := t_beat (k := k + 2) T1.hM T1.hpd T1.hmem n1 n2 n6 ec ⟨h1, h2, h3⟩ e e0
                  refine ⟨L', q1, .inr ⟨low, _, LL.n, r, st, fp, rfl, ?_⟩, by omega, fun x hx => by rw [q7 x (by omega) (by omega) (by omega) (by omega)]; exact hk x hx⟩
                  exact T1.newpd bb q3 q4 (by rw [show ({ c2 with tally := c2.tally + (a : Int) } : MC).pend = [] from q6]; exact q5) q7 q2
            · split at hs
              · rename_i e
                cases e0 : i.2[0]? with
                | none => rw [e0] at hs; simp at hs
                | some a =>
                  rw [e0] at hs
                  simp only [Option.bind_some] at hs
                  cases et : t.table[a]? with
                  | none => rw [et] at hs; simp at hs
                  | some tk =>
                    rw [et] at hs
                    simp only [Option.bind_some] at hs
                    cases ev : t.stack.getLast? with
                    | none => rw [ev] at hs; simp at hs
                    | some x =>
                      rw [ev] at hs
                      simp only [Option.bind_some] at hs
                      have h0 := S.tb tk (List.mem_of_getElem? et)
                      split at hs
                      · rename_i ek
                        simp only [Option.some.injEq, Prod.mk.injEq] at hs
                        obtain ⟨rfl, rfl⟩ := hs
                        refine ⟨_, t_put (k := k + 1) T1.hM T1.hpd T1.hmem T1.hr T1.hst T1.ne e e0 ev et h0 szp (fun h => by rw [ek] at h; cases h), ?_, ?_, ?_⟩
                        · rw [if_pos ek]
                          refine .inr ⟨low, _, pd, r, st, fp, rfl, ?_⟩
                          refine T1.re (by rw [put_ne n2, put_ne n5]; exact T1.hM) (by rw [put_ne n6, put_ne n9]; exact T1.hmem) (by simp) (by rw [put_ne (Ne.symm n10), put_ne n14]) (by rw [put_ne (Ne.symm n11), put_ne n15]; exact T1.hr) (by rw [put_ne (Ne.symm n12)]; simp)
                            (fun x hx => by rw [put_ne (T1.sep x hx).2.2.1, put_ne (T1.sep x hx).2.2.2.2.2]) (by simp)
                        · rw [if_pos ek]; simp [hn]
                        · intro x hx
                          rw [if_pos ek, put_ne (by omega), put_ne (by omega)]
                          exact hk x hx
                      · rename_i ek
                        split at hs
                        · rename_i el
                          simp only [Option.some.injEq, Prod.mk.injEq] at hs
                          obtain ⟨rfl, rfl⟩ := hs
                          refine ⟨_, t_put (k := k + 1) T1.hM T1.hpd T1.hmem T1.hr T1.hst T1.ne e e0 ev et h0 szp (fun _ => el), ?_, ?_, ?_⟩
                          · rw [if_neg ek]
                            refine .inr ⟨low, _, pd, r, st, fp, rfl, ?_⟩
                            refine T1.re (by rw [put_ne n1, put_ne n5]; exact T1.hM) (by simp) (by rw [put_ne (Ne.symm n6), put_ne n12]; exact T1.hpd) (by rw [put_ne (Ne.symm n7), put_ne n14]) (by rw [put_ne (Ne.symm n8), put_ne n15]; exact T1.hr) (by rw [put_ne (Ne.symm n9)]; simp)
                              (fun x hx => by rw [put_ne (T1.sep x hx).2.1, put_ne (T1.sep x hx).2.2.2.2.2]) (by simp)
                          · rw [if_neg ek]; simp [hn]
                          · intro x hx
                            rw [if_neg ek, put_ne (by omega), put_ne (by omega)]
                            exact hk x hx
                        · cases hs
              · split at hs
                · rename_i e
                  cases ev : t.stack.getLast? with
                  | none => rw [ev] at hs; simp at hs
                  | some x =>
                    rw [ev] at hs
                    simp only [Option.map_some, Option.some.injEq, Prod.mk.injEq] at hs
                    obtain ⟨rfl, rfl⟩ := hs
                    refine ⟨_, t_drop (F := mo.F (k + 3)) T1.hr T1.hst e ev, .inr ⟨low, _, pd, r, st, fp, rfl, ?_⟩, by simp [hn], fun x hx => by rw [put_ne (by omega)]; exact hk x hx⟩
                    exact T1.re (by rw [put_ne n5]; exact T1.hM) (by rw [put_ne n9]; exact T1.hmem) (by rw [put_ne n12]; exact T1.hpd) (by rw [put_ne n14]) (by rw [put_ne n15]; exact T1.hr) (by simp) (fun x hx => put_ne (T1.sep x hx).2.2.2.2.2) (by simp)
                · rename_i e1 e2 e3 e4 e5 e6 e7
                  cases ec : comp { c with done := c.done + 1 } { t with place := t.place + 1 } pace i with
                  | none => rw [ec] at hs; simp at hs
                  | some q =>
                    obtain ⟨v, rest⟩ := q
                    rw [ec] at hs
                    simp only [Option.map_some, Option.some.injEq, Prod.mk.injEq] at hs
                    obtain ⟨rfl, rfl⟩ := hs
                    have hz : rest.length < sizeLine := by
                      have := comp_len ec
                      have h3 : rest.length ≤ t.stack.length := this
                      have := S.s
                      have := size_big
                      omega
                    obtain ⟨L', q1, q2, q3, q4⟩ := t_push (k := k) T1.hM T1.hpd T1.hmem T1.hr T1.hst n15 ⟨e1, e2, e3, e4, e5, e6, e7⟩ hop ec hz
                    refine ⟨L', q1, .inr ⟨low, _, pd, r, st, fp, rfl, ?_⟩, by omega, fun x hx => by rw [q4 x (by omega)]; exact hk x hx⟩
                    exact T1.re (by rw [q4 _ n5]; exact T1.hM) (by rw [q4 _ n9]; exact T1.hmem) (by rw [q4 _ n12]; exact T1.hpd) (by rw [q4 _ n14]) (by rw [q4 _ n15]; exact T1.hr) q3 (fun x hx => q4 x (T1.sep x hx).2.2.2.2.2) (by omega)
end
end K87
end

section
set_option Elab.async false
set_option linter.all false
set_option maxRecDepth 100000
set_option maxHeartbeats 4000000
namespace K87
open PySem LG LM
section
variable {b : Nat} {L L' : LH} {img : LV} {im : Img} {pace : Int} {M mem pd fl r st : Nat} {fp : List (Nat × Nat)} {c c' : MC} {low : List Fr} {t t' : Fr}
/-- a new machine -/
theorem mach_new {k s : Nat} {f : Fr} {ms : List Int} (hf : newFr im s 0 = some f) :
    ∃ L', makeV (mo.F (k + 2)) 1 [imgLV nS im, .int (s : Int), .tup (intsL ms), .int pace] L = .ok (.ref L.n) L' ∧ L'.n = L.n + 6 ∧ (∀ z, z < L.n → L'.at_ z = L.at_ z) ∧ Top L.n L' (imgLV nS im) pace L.n (L.n + 1) (L.n + 2) (L.n + 5) (L.n + 3) (L.n + 4) [] ⟨ms, [], 0, 0⟩ [] f := by
  have f1 : mo.fld 1 21 = true := rfl
  have f2 : mo.fld 1 12 = true := rfl
  have f3 : mo.fld 1 20 = true := rfl
  have f4 : mo.fld 1 19 = true := rfl
  have f5 : mo.fld 1 11 = true := rfl
  have f6 : mo.fld 1 10 = true := rfl
  have f7 : mo.fld 1 13 = true := rfl
  have hin : mo.init 1 = some 29 := rfl
  -- up to the frame
  generalize h0 : ((((((((L.new (.ins 1 [])).put L.n (.ins 1 [(21, imgLV nS im)])).new (.lst (intsL ms))).put L.n (.ins 1 [(21, imgLV nS im), (12, .ref (L.n + 1))])).new (.dct [])).put L.n (.ins 1 [(21, imgLV nS im), (12, .ref (L.n + 1)), (20, .ref (L.n + 2))])).put L.n (.ins 1 [(21, imgLV nS im), (12, .ref (L.n + 1)), (20, .ref (L.n + 2)), (19, .int pace)])).put L.n (.ins 1 [(21, imgLV nS im), (12, .ref (L.n + 1)), (20, .ref (L.n + 2)), (19, .int pace), (11, .int 0)])).put L.n (.ins 1 [(21, imgLV nS im), (12, .ref (L.n + 1)), (20, .ref (L.n + 2)), (19, .int pace), (11, .int 0), (10, .int 0)]) = LA
  have an : LA.n = L.n + 3 := by subst h0; simp
  have a0 : LA.at_ L.n = some (.ins 1 [(21, imgLV nS im), (12, .ref (L.n + 1)), (20, .ref (L.n + 2)), (19, .int pace), (11, .int 0), (10, .int 0)]) := by subst h0; simp
  have a1 : LA.at_ (L.n + 1) = some (.lst (intsL ms)) := by subst h0; simp [LH.put_at, LH.new_at]
  have a2 : LA.at_ (L.n + 2) = some (.dct []) := by subst h0; simp [LH.put_at, LH.new_at]
  have a3 : ∀ z, z < L.n → LA.at_ z = L.at_ z := fun z hz => by
    have q1 : z ≠ L.n := by omega
    have q2 : z ≠ L.n + 1 := by omega
    have q3 : z ≠ L.n + 2 := by omega
    subst h0; simp [LH.put_at, LH.new_at, q1, q2, q3]
  obtain ⟨LF, e1, e2, e3, e4, e5⟩ := frame_ok (k := k) (L := LA) hf
  rw [an] at e1 e2 e3 e4 e5
  have b0 : LF.at_ L.n = some (.ins 1 [(21, imgLV nS im), (12, .ref (L.n + 1)), (20, .ref (L.n + 2)), (19, .int pace), (11, .int 0), (10, .int 0)]) := by rw [e5 _ (by omega)]; exact a0
  have fn : LF.n = L.n + 5 := by omega
  have key : run mo.pg (k + 2) 29 [.ref L.n, imgLV nS im, .int (s : Int), .tup (intsL ms), .int pace] (L.new (.ins 1 [])) = .ok .non ((LF.new (.lst [.ref (L.n + 3)])).put L.n (.ins 1 (mFs (imgLV nS im) pace (L.n + 1) (L.n + 2) (L.n + 5) ⟨ms, [], 0, 0⟩))) := by
    rw [Mo.run_succ (d := d29) rfl rfl]
    have b0' : (LF.new (.lst [.ref (L.n + 3)])).at_ L.n = some (.ins 1 [(21, imgLV nS im), (12, .ref (L.n + 1)), (20, .ref (L.n + 2)), (19, .int pace), (11, .int 0), (10, .int 0)]) := by rw [new_ne (by omega)]; exact b0
    simp only [Int.natCast_zero] at e1
    simp [d29, f1, f2, f3, f4, f5, f6, f7, LH.new_at, Nat.add_assoc, h0, e1, b0', b0, mFs, fn]
  refine ⟨_, make_ok hin key, by simp [fn], fun z hz => ?_, ?_⟩
  · rw [put_ne (by omega), new_ne (by omega), e5 z (by omega), a3 z hz]
  · refine ⟨by simp, ?_, ?_, ?_, ?_, ?_, rfl, ?_, ?_, ?_⟩
    · rw [put_ne (by omega), new_ne (by omega), e5 _ (by omega)]; exact a1
    · rw [put_ne (by omega), new_ne (by omega), e5 _ (by omega)]; exact a2
    · rw [put_ne (by omega), LH.new_at, if_pos (by omega)]; rfl
    · rw [put_ne (by omega), new_ne (by omega)]; exact e3
    · rw [put_ne (by omega), new_ne (by omega)]; exact e4
    · simp only [adr, List.nodup_cons, List.mem_cons, List.not_mem_nil, or_false, not_or, not_false_eq_true, List.nodup_nil, and_true]
      omega
    · simp [adr]
    · simp only [adr, List.mem_cons, List.not_mem_nil, or_false, LH.put_n, LH.new_n, fn]
      omega
def word (w : Nat) : Str := cs ([36, 35, 34].getD w 0)
def dCond : LE := .ands (.cons (.cmp .eq (.var 7) (.con (.str (cs 36)))) (.cons (.cmp .gt (.bf .len (.cons (.fld (.var 6) 13) .nil)) (.con (.int 0))) .nil))
def dBody : LSs := .cons (.ifs (.chn .le .le (.con (.int 0)) (.var 4) (.fld (.var 6) 11)) (.cons (.set 7 (.con (.str (cs 35)))) .nil)
    (.cons (.ifs (.chn .le .le (.con (.int 0)) (.var 5) (.fld (.var 6) 10)) (.cons (.set 7 (.con (.str (cs 34)))) .nil) (.cons (.expr (.meth (.var 6) 14 .nil)) .nil)) .nil)) .nil
theorem Mach.hM {c : MC} {fs : List Fr} (H : Mach b L img pace M mem fl c fs) : (∃ pd, L.at_ M = some (.ins 1 (mFs img pace mem pd fl c))) ∧ L.at_ mem = some (.lst (intsL c.mem)) ∧ ∃ xs, L.at_ fl = some (.lst xs) ∧ xs.length = fs.length := by
  rcases H with ⟨rfl, h1, h2, h3⟩ | ⟨low, t, pd, r, st, fp, rfl, T⟩
  · exact ⟨h1, h2, [], h3, rfl⟩
  · refine ⟨⟨pd, T.hM⟩, T.hmem, _, T.hfl, ?_⟩
    simp [T.low.length]
/-- the loop of drive -/
theorem drive_loop {k : Nat} {cut steps : Int} {a0 a1 a2 a3 : LV} {I : MC → List Fr → Prop} (hI : ∀ c low t, I c (low ++ [t]) → Small c low t) (hS : ∀ c low t c' fs', I c (low ++ [t]) → mstep im pace c low t = some (c', fs') → I c' fs') :
    ∀ (n : Nat) (c : MC) (fs : List Fr) (L : LH) (c' : MC) (w : Nat), b ≤ L.n → I c fs → Mach b L (imgLV nS im) pace M mem fl c fs → mrun im pace cut steps n c fs = some (c', w) → ∀ N, n < N →
      ∃ L', whileL (evT (mo.F (k + 4)) dCond) (evSs (mo.F (k + 4)) dBody) N [some a0, some a1, some a2, some a3, some (.int cut), some (.int steps), some (.ref M), some (.str (cs 36))] L
        = .ok (.nx, [some a0, some a1, some a2, some a3, some (.int cut), some (.int steps), some (.ref M), some (.str (word w))]) L' ∧ (∃ pd, L'.at_ M = some (.ins 1 (mFs (imgLV nS im) pace mem pd fl c'))) ∧ L'.at_ mem = some (.lst (intsL c'.mem)) ∧ L.n ≤ L'.n ∧ ∀ x, x < b → L'.at_ x = L.at_ x
  | 0, c, fs, L, c', w, hb, hi, H, h, N, hN => by simp [mrun] at h
  | n + 1, c, fs, L, c', w, hb, hi, H, h, N, hN => by
    obtain ⟨m, rfl⟩ : ∃ m, N = m + 1 := ⟨N - 1, by omega⟩
    obtain ⟨⟨pd, hM⟩, hmem, xs, hfl, hxs⟩ := H.hM
    have hlen : bfV .len [.ref fl] L = .ok (.int xs.length) L := len_lst hfl
    have hM' := hM
    simp only [mFs] at hM'
    rw [mrun] at h
    rw [while_S]
    cases hl : fs.getLast? with
    | none =>
      rw [hl] at h
      cases h
      have : fs = [] := List.getLast?_eq_none_iff.mp hl
      subst this
      have hx0 : xs = [] := List.eq_nil_of_length_eq_zero hxs
      subst hx0
      exact ⟨L, by simp [dCond, hM', hlen, word], ⟨pd, hM⟩, hmem, Nat.le_refl _, fun _ _ => rfl⟩
    | some t =>
      rw [hl] at h
      dsimp only at h
      have hne : fs ≠ [] := by rintro rfl; simp at hl
      have hpos : (0 : Int) < xs.length := by
        have : 0 < fs.length := List.length_pos_iff.mpr hne
        omega
      have hcond : evT (mo.F (k + 4)) dCond [some a0, some a1, some a2, some a3, some (.int cut), some (.int steps), some (.ref M), some (.str (cs 36))] L = .ok true L := by
        simp [dCond, hM', hlen]
        omega
      rw [hcond]
      simp only [bind_ok, if_true]
      obtain ⟨p, rfl⟩ : ∃ p, m = p + 1 := ⟨m - 1, by omega⟩
      have fin : ∀ w, (w = 1 ∨ w = 2) → ∀ L : LH, whileL (evT (mo.F (k + 4)) dCond) (evSs (mo.F (k + 4)) dBody) (p + 1) [some a0, some a1, some a2, some a3, some (.int cut), some (.int steps), some (.ref M), some (.str (word w))] L = .ok (.nx, [some a0, some a1, some a2, some a3, some (.int cut), some (.int steps), some (.ref M), some (.str (word w))]) L := fun w hw L => by
        rw [while_S]
        rcases hw with rfl | rfl <;> simp [dCond, word]
      generalize hW : whileL (evT (mo.F (k + 4)) dCond) (evSs (mo.F (k + 4)) dBody) (p + 1) = W at fin ⊢
      by_cases hc : 0 ≤ cut ∧ cut ≤ c.tally
      · rw [if_pos hc] at h
        cases h
        refine ⟨L, ?_, ⟨pd, hM⟩, hmem, Nat.le_refl _, fun _ _ => rfl⟩
        have := fin 1 (.inl rfl) L
        simp only [word, List.getD_cons_succ, List.getD_cons_zero] at this ⊢
        simp [dBody, hM', hc.1, hc.2, this]
      · rw [if_neg hc] at h
        have hc' : ¬ (0 ≤ cut) ∨ (0 ≤ cut ∧ ¬ cut ≤ c.tally) := by omega
        by_cases hs : 0 ≤ steps ∧ steps ≤ c.done
        · rw [if_pos hs] at h
          cases h
          refine ⟨L, ?_, ⟨pd, hM⟩, hmem, Nat.le_refl _, fun _ _ => rfl⟩
          have := fin 2 (.inr rfl) L
          simp only [word, List.getD_cons_succ, List.getD_cons_zero] at this ⊢
          rcases hc' with q | ⟨q1, q2⟩
          · simp [dBody, hM', q, hs.1, hs.2, this]
          · simp [dBody, hM', q1, q2, hs.1, hs.2, this]
        · rw [if_neg hs] at h
          cases hm : mstep im pace c fs.dropLast t with
          | none => rw [hm] at h; simp at h
          | some r =>
            obtain ⟨c1, fs1⟩ := r
            rw [hm] at h
            simp only [Option.bind_some] at h
            have hfs : fs = fs.dropLast ++ [t] := by
              obtain ⟨ys, rfl⟩ := List.getLast?_eq_some_iff.mp hl
              simp
            rcases H with ⟨e, _⟩ | ⟨low, t0, pd0, r0, st0, fp0, e, T⟩
            · exact absurd e hne
            · have e1 : low = fs.dropLast ∧ t0 = t := by
                rw [e]
                rw [e] at hl
                simp at hl
                exact ⟨by simp, hl⟩
              obtain ⟨rfl, rfl⟩ := e1
              rw [hfs] at hi
              obtain ⟨L1, x1, x2, x3, x4⟩ := exec_ok (k := k) T hb (hI _ _ _ hi) hm
              obtain ⟨L2, y1, y2, y3, y4, y5⟩ := drive_loop hI hS n c1 fs1 L1 c' w (by omega) (hS _ _ _ _ _ hi hm) x2 h (p + 1) (by omega)
              refine ⟨L2, ?_, y2, y3, by omega, fun x hx => (y5 x hx).trans (x4 x hx)⟩
              have hme : mo.mth 1 14 = some 30 := rfl
              rw [hW] at y1
              rw [← y1]
              rcases hc' with q | ⟨q1, q2⟩ <;> by_cases s0 : 0 ≤ steps
              · have s1 : ¬ steps ≤ c.done := fun z => hs ⟨s0, z⟩
                simp [dBody, hM', q, s0, s1, hme, x1]
              · simp [dBody, hM', q, s0, hme, x1]
              · have s1 : ¬ steps ≤ c.done := fun z => hs ⟨s0, z⟩
                simp [dBody, hM', q1, q2, s0, s1, hme, x1]
              · simp [dBody, hM', q1, q2, s0, hme, x1]
theorem drive_ok {k s n w : Nat} {cut steps : Int} {f : Fr} {ms : List Int} {I : MC → List Fr → Prop} (hI : ∀ c low t, I c (low ++ [t]) → Small c low t) (hS : ∀ c low t c' fs', I c (low ++ [t]) → mstep im pace c low t = some (c', fs') → I c' fs')
    (hf : newFr im s 0 = some f) (h0 : I ⟨ms, [], 0, 0⟩ [f]) (hr : mrun im pace cut steps n ⟨ms, [], 0, 0⟩ [f] = some (c', w)) (hn : n < 16777216) :
    ∃ L', run mo.pg (k + 5) 27 [imgLV nS im, .int (s : Int), .tup (intsL ms), .int pace, .int cut, .int steps] L = .ok (.tup [.tup (intsL c'.mem), .int c'.tally, .int c'.done, .str (word w)]) L' ∧ L.n ≤ L'.n ∧ ∀ x, x < L.n → L'.at_ x = L.at_ x := by
  obtain ⟨L1, e1, e2, e3, T⟩ := mach_new (k := k + 2) (pace := pace) (ms := ms) (L := L) hf
  have H : Mach L.n L1 (imgLV nS im) pace L.n (L.n + 1) (L.n + 5) ⟨ms, [], 0, 0⟩ [f] := .inr ⟨[], f, _, _, _, _, rfl, T⟩
  obtain ⟨L2, y1, ⟨pd, y2⟩, y3, y4, y5⟩ := drive_loop (k := k) (a0 := imgLV nS im) (a1 := .int (s : Int)) (a2 := .tup (intsL ms)) (a3 := .int pace) hI hS n _ _ L1 c' w (by omega) h0 H hr 16777216 hn
  refine ⟨L2, ?_, by omega, fun x hx => (y5 x hx).trans (e3 x hx)⟩
  rw [Mo.run_succ (d := d27) rfl rfl]
  have hw : mo.w = 16777216 := rfl
  have hbody : d27.body = .cons (.set 6 (.make 1 (.cons (.var 0) (.cons (.var 1) (.cons (.var 2) (.cons (.var 3) .nil)))))) (.cons (.set 7 (.con (.str (cs 36)))) (.cons (.while dCond dBody)
    (.cons (.ret (.tup (.cons (.bf .tuple (.cons (.fld (.var 6) 12) .nil)) (.cons (.fld (.var 6) 11) (.cons (.fld (.var 6) 10) (.cons (.var 7) .nil)))))) .nil))) := rfl
  rw [hbody]
  have hs := s_while (F := mo.F (k + 4)) (c := dCond) (b := dBody) (σ := [some (imgLV nS im), some (.int (s : Int)), some (.tup (intsL ms)), some (.int pace), some (.int cut), some (.int steps), some (.ref L.n), some (.str (cs 36))]) (L := L1)
  rw [F_w, hw, y1] at hs
  have htup : bfV .tuple [.ref (L.n + 1)] L2 = .ok (.tup (intsL c'.mem)) L2 := tuple_lst y3
  simp only [mFs] at y2
  simp [d27, e1, hs, y2, htup]
end
end K87
end

section
set_option Elab.async false
set_option linter.all false
set_option maxRecDepth 100000
set_option maxHeartbeats 4000000
/-! LC: a chain of segments, run by the plain machine. -/
namespace LC
open LM

/-- a run told state by state: up to the first that halts -/
theorem mrun_states {img : Img} {pace cut steps : Int} {S : Nat → MC × List Fr} {r : MC × Nat} : ∀ (J i : Nat),
    (∀ j, i ≤ j → j < i + J → ∃ low t, (S j).2 = low ++ [t] ∧ ¬ (0 ≤ cut ∧ cut ≤ (S j).1.tally) ∧ ¬ (0 ≤ steps ∧ steps ≤ (S j).1.done) ∧ mstep img pace (S j).1 low t = some (S (j + 1))) →
    ((S (i + J)).2 = [] ∧ r = ((S (i + J)).1, 0) ∨ (S (i + J)).2 ≠ [] ∧ (0 ≤ cut ∧ cut ≤ (S (i + J)).1.tally) ∧ r = ((S (i + J)).1, 1) ∨ (S (i + J)).2 ≠ [] ∧ ¬ (0 ≤ cut ∧ cut ≤ (S (i + J)).1.tally) ∧ (0 ≤ steps ∧ steps ≤ (S (i + J)).1.done) ∧ r = ((S (i + J)).1, 2)) →
    mrun img pace cut steps (J + 1) (S i).1 (S i).2 = some r
  | 0, i, _, h => by
    rw [Nat.add_zero] at h
    rw [mrun]
    rcases h with ⟨h1, rfl⟩ | ⟨h1, h2, rfl⟩ | ⟨h1, h2, h3, rfl⟩
    · rw [h1]; rfl
    · cases e : (S i).2.getLast? with
      | none => exact absurd (List.getLast?_eq_none_iff.mp e) h1
      | some t => dsimp only; rw [if_pos h2]
    · cases e : (S i).2.getLast? with
      | none => exact absurd (List.getLast?_eq_none_iff.mp e) h1
      | some t => dsimp only; rw [if_neg h2, if_pos h3]
  | J + 1, i, hs, h => by
    obtain ⟨low, t, e, c1, c2, hm⟩ := hs i (Nat.le_refl _) (by omega)
    rw [mrun, e]
    have e1 : (low ++ [t]).getLast? = some t := by simp
    have e2 : (low ++ [t]).dropLast = low := by simp
    rw [e1, e2]
    dsimp only
    rw [if_neg c1, if_neg c2, hm]
    have hi : i + (J + 1) = i + 1 + J := by omega
    rw [hi] at h
    exact mrun_states J (i + 1) (fun j h1 h2 => hs j (by omega) (by omega)) h
/-! ### the chain -/
def code (more worth k : Nat) : List Ins := match k with
  | 0 => [(1, [0]), (0, [more]), (9, []), (2, [0]), (23, [worth]), (24, [])]
  | k + 1 => [(1, [0]), (0, [more]), (9, []), (2, [0]), (22, [k, 0]), (23, [worth]), (24, [])]
def img (top : Int) (kept : Bool) (more worth many : Nat) : Img := ⟨[[(top, kept)]], (List.range many).map fun k => (0, code more worth k), [[many - 1]]⟩
/-- the cell behind so many puts -/
def val (top : Int) (more : Nat) (old : Int) : Nat → Int
  | 0 => old
  | i + 1 => sat (clampI (val top more old i + more)) top
structure P where
  top : Int
  old : Int
  kept : Bool
  more : Nat
  worth : Nat
  many : Nat
def P.img (p : P) : Img := LC.img p.top p.kept p.more p.worth p.many
def P.val (p : P) (i : Nat) : Int := LC.val p.top p.more p.old i
def P.fr (p : P) (k pl : Nat) (s : List Int) : Fr := ⟨[(p.top, p.kept)], code p.more p.worth k, pl, 0, s⟩
def P.low (p : P) (i : Nat) : List Fr := (List.range i).map fun d => p.fr (p.many - 1 - d) 5 []
/-- the cells behind i puts, d steps -/
def P.cD (p : P) (i d : Nat) : MC := if p.kept = true then ⟨[p.old], if i = 0 then [] else [(0, p.val i)], 0, d⟩ else ⟨[p.val i], [], 0, d⟩
def P.stk (p : P) (i r : Nat) : List Int := match r with
  | 1 => [p.val i]
  | 2 => [p.val i, p.more]
  | 3 => [clampI (p.val i + p.more)]
  | _ => []
def P.dS (p : P) (i r : Nat) : MC × List Fr := (p.cD (if r = 4 then i + 1 else i) (5 * i + r), p.low i ++ [p.fr (p.many - 1 - i) r (p.stk i r)])
def pl (q : Nat) : Nat := if q = 0 then 4 else 5
def P.aS (p : P) (q s : Nat) : MC × List Fr := (⟨[p.val p.many], [], ((q + s) * p.worth : Nat), (5 * p.many - 1 + 2 * q + s : Nat)⟩, if q < p.many then p.low (p.many - 1 - q) ++ [p.fr q (pl q + s) []] else [])
def P.S (p : P) (j : Nat) : MC × List Fr := if j < 5 * p.many then p.dS (j / 5) (j % 5) else p.aS ((j - (5 * p.many - 1)) / 2) ((j - (5 * p.many - 1)) % 2)
section
variable {p : P}
theorem valAt_cD {i d : Nat} : valAt (p.cD i d) 0 = some (p.val i) := by
  unfold valAt P.cD
  cases p.kept with
  | true =>
    by_cases h : i = 0
    · subst h; simp [P.val, LC.val]
    · simp [h]
  | false => simp
theorem code_at (k : Nat) : (code p.more p.worth k)[0]? = some (1, [0]) ∧ (code p.more p.worth k)[1]? = some (0, [p.more]) ∧ (code p.more p.worth k)[2]? = some (9, []) ∧ (code p.more p.worth k)[3]? = some (2, [0]) := by
  cases k <;> exact ⟨rfl, rfl, rfl, rfl⟩
theorem low_succ {i : Nat} : p.low (i + 1) = p.low i ++ [p.fr (p.many - 1 - i) 5 []] := by
  unfold P.low
  rw [List.range_succ, List.map_append]; rfl
theorem cD_done {i d : Nat} : { p.cD i d with done := (p.cD i d).done + 1 } = p.cD i (d + 1) := by
  unfold P.cD
  cases p.kept <;> simp
/-- get, num, add, put -/
theorem step_in {i r : Nat} {pace : Int} (hr : r < 4) (hv : (p.val i).natAbs < 2 ^ 63) : mstep p.img pace (p.dS i r).1 (p.low i) (p.fr (p.many - 1 - i) r (p.stk i r)) = some (p.dS i (r + 1)) := by
  obtain ⟨c0, c1, c2, c3⟩ := code_at (p := p) (p.many - 1 - i)
  have hd := fun d => cD_done (p := p) (i := i) (d := d)
  have : r = 0 ∨ r = 1 ∨ r = 2 ∨ r = 3 := by omega
  rcases this with rfl | rfl | rfl | rfl
  · unfold mstep
    simp only [P.fr, c0, Option.bind_some]
    have hva := valAt_cD (p := p) (i := i) (d := 5 * i + 0 + 1)
    simp [P.dS, comp, hd, P.stk, P.fr, hva]
  · unfold mstep
    simp only [P.fr, c1, Option.bind_some]
    simp [P.dS, comp, hd, P.stk, P.fr]
  · unfold mstep
    simp only [P.fr, c2, Option.bind_some]
    simp [P.dS, comp, hd, P.stk, P.fr, hv, binF]
  · unfold mstep
    simp only [P.fr, c3, Option.bind_some]
    cases hk : p.kept with
    | true =>
      by_cases h : i = 0
      · subst h
        simp [P.dS, P.stk, P.fr, hk, P.cD, pput, P.val, LC.val]
      · simp [P.dS, P.stk, P.fr, hk, P.cD, pput, P.val, LC.val, h]
        omega
    | false =>
      simp [P.dS, P.stk, P.fr, hk, P.cD, P.val, LC.val]
      omega
theorem seg_at {k : Nat} (h : k < p.many) : newFr p.img k 0 = some (p.fr k 0 []) := by
  unfold newFr P.img LC.img
  rw [List.getElem?_map, List.getElem?_range h]
  rfl
/-- call -/
theorem step_call {i : Nat} {pace : Int} (h : i + 1 < p.many) : mstep p.img pace (p.dS i 4).1 (p.low i) (p.fr (p.many - 1 - i) 4 []) = some (p.dS (i + 1) 0) := by
  obtain ⟨k, hk⟩ : ∃ k, p.many - 1 - i = k + 1 := ⟨p.many - 2 - i, by omega⟩
  have hk2 : p.many - 1 - (i + 1) = k := by omega
  have hn := seg_at (p := p) (k := k) (by omega)
  unfold mstep
  have hc : (code p.more p.worth (k + 1))[4]? = some (22, [k, 0]) := rfl
  simp only [P.fr, hk, hc, Option.bind_some]
  simp only [P.fr] at hn
  have hl : p.low (i + 1) = p.low i ++ [p.fr (k + 1) 5 []] := by rw [low_succ, hk]
  have hd := cD_done (p := p) (i := i + 1) (d := 5 * i + 4)
  simp [P.dS, hn, hl, hk2, P.fr, P.stk, hd]
  rfl
theorem commit_cD {i d : Nat} (h : 0 < i) : commit { p.cD i d with done := (p.cD i d).done + 1 } = some ⟨[p.val i], [], 0, (d : Int) + 1⟩ := by
  unfold commit P.cD
  cases p.kept with
  | true =>
    have : i ≠ 0 := by omega
    simp [this]
  | false => simp
/-- the first beat -/
theorem step_beat0 {pace : Int} (h : 0 < p.many) : mstep p.img pace (p.dS (p.many - 1) 4).1 (p.low (p.many - 1)) (p.fr 0 4 []) = some (p.aS 0 1) := by
  unfold mstep
  have hc : (code p.more p.worth 0)[4]? = some (23, [p.worth]) := rfl
  simp only [P.fr, hc, Option.bind_some]
  have e1 : p.many - 1 + 1 = p.many := by omega
  have hm := commit_cD (p := p) (i := p.many) (d := 5 * (p.many - 1) + 4) h
  simp only [P.dS, e1, if_true, hm]
  simp [P.aS, h, P.fr, pl]
  omega
/-- the other beats -/
theorem step_beat {q : Nat} {pace : Int} (h0 : 0 < q) (h : q < p.many) : mstep p.img pace (p.aS q 0).1 (p.low (p.many - 1 - q)) (p.fr q 5 []) = some (p.aS q 1) := by
  obtain ⟨k, rfl⟩ : ∃ k, q = k + 1 := ⟨q - 1, by omega⟩
  unfold mstep
  have hc : (code p.more p.worth (k + 1))[5]? = some (23, [p.worth]) := rfl
  simp only [P.fr, hc, Option.bind_some]
  simp [P.aS, h, P.fr, pl, commit]
  rw [Int.add_mul ((k : Int) + 1)]
  omega
/-- back -/
theorem step_back {q : Nat} {pace : Int} (h : q < p.many) : mstep p.img pace (p.aS q 1).1 (p.low (p.many - 1 - q)) (p.fr q (pl q + 1) []) = some (p.aS (q + 1) 0) := by
  unfold mstep
  have hc : (code p.more p.worth q)[pl q + 1]? = some (24, []) := by
    cases q with
    | zero => rfl
    | succ k => rfl
  simp only [P.fr, hc, Option.bind_some]
  by_cases hl : q + 1 < p.many
  · have e : p.many - 1 - q = p.many - 1 - (q + 1) + 1 := by omega
    have e2 : p.many - 1 - (p.many - 1 - (q + 1)) = q + 1 := by omega
    have hlow : p.low (p.many - 1 - q) = p.low (p.many - 1 - (q + 1)) ++ [p.fr (q + 1) 5 []] := by rw [e, low_succ, e2]
    rw [hlow]
    simp [P.aS, hl, P.fr, pl]
    omega
  · have e : p.many - 1 - q = 0 := by omega
    rw [e]
    simp [P.aS, hl, P.low, commit]
    omega
/-- every step -/
theorem S_step {j : Nat} {pace : Int} (hm : 0 < p.many) (hv : ∀ i, (p.val i).natAbs < 2 ^ 63) (h : j < 7 * p.many - 1) : ∃ low t, (p.S j).2 = low ++ [t] ∧ mstep p.img pace (p.S j).1 low t = some (p.S (j + 1)) := by
  by_cases h1 : j < 5 * p.many
  · have e : p.S j = p.dS (j / 5) (j % 5) := if_pos h1
    have hi : j / 5 < p.many := by omega
    refine ⟨p.low (j / 5), p.fr (p.many - 1 - j / 5) (j % 5) (p.stk (j / 5) (j % 5)), by rw [e]; rfl, ?_⟩
    rw [e]
    by_cases h2 : j % 5 < 4
    · rw [step_in h2 (hv _)]
      have e2 : p.S (j + 1) = p.dS ((j + 1) / 5) ((j + 1) % 5) := if_pos (by omega)
      rw [e2, show (j + 1) / 5 = j / 5 by omega, show (j + 1) % 5 = j % 5 + 1 by omega]
    · have h3 : j % 5 = 4 := by omega
      rw [h3]
      by_cases h4 : j / 5 + 1 < p.many
      · have := step_call (p := p) (pace := pace) h4
        have e2 : p.S (j + 1) = p.dS ((j + 1) / 5) ((j + 1) % 5) := if_pos (by omega)
        rw [e2, show (j + 1) / 5 = j / 5 + 1 by omega, show (j + 1) % 5 = 0 by omega]
        exact this
      · have e3 : j / 5 = p.many - 1 := by omega
        have := step_beat0 (p := p) (pace := pace) hm
        have e2 : p.S (j + 1) = p.aS ((j + 1 - (5 * p.many - 1)) / 2) ((j + 1 - (5 * p.many - 1)) % 2) := if_neg (by omega)
        rw [e2, show j + 1 - (5 * p.many - 1) = 1 by omega, e3]
        rw [show p.many - 1 - (p.many - 1) = 0 by omega]
        exact this
  · have e : p.S j = p.aS ((j - (5 * p.many - 1)) / 2) ((j - (5 * p.many - 1)) % 2) := if_neg h1
    have e2 : p.S (j + 1) = p.aS ((j + 1 - (5 * p.many - 1)) / 2) ((j + 1 - (5 * p.many - 1)) % 2) := if_neg (by omega)
    generalize hq : (j - (5 * p.many - 1)) / 2 = q at e
    have hql : q < p.many := by omega
    rw [e, e2]
    by_cases h2 : (j - (5 * p.many - 1)) % 2 = 1
    · rw [h2]
      refine ⟨p.low (p.many - 1 - q), p.fr q (pl q + 1) [], if_pos hql, ?_⟩
      rw [step_back hql, show (j + 1 - (5 * p.many - 1)) / 2 = q + 1 by omega, show (j + 1 - (5 * p.many - 1)) % 2 = 0 by omega]
    · have h3 : (j - (5 * p.many - 1)) % 2 = 0 := by omega
      rw [h3]
      have h0 : 0 < q := by omega
      have hpl : pl q = 5 := if_neg (by omega)
      refine ⟨p.low (p.many - 1 - q), p.fr q 5 [], by simp [P.aS, hql, hpl], ?_⟩
      rw [step_beat h0 hql, show (j + 1 - (5 * p.many - 1)) / 2 = q by omega, show (j + 1 - (5 * p.many - 1)) % 2 = 1 by omega]
theorem S_tally {j : Nat} (h : j < 5 * p.many) : (p.S j).1.tally = 0 ∧ (p.S j).1.done = j := by
  have e : p.S j = p.dS (j / 5) (j % 5) := if_pos h
  rw [e]
  unfold P.dS P.cD
  cases p.kept <;> simp <;> omega
theorem S_tally2 {j : Nat} (h : 5 * p.many ≤ j) (h2 : 0 < p.many) : (p.S j).1.tally = ((((j - (5 * p.many - 1)) / 2 + (j - (5 * p.many - 1)) % 2) * p.worth : Nat) : Int) ∧ (p.S j).1.done = j := by
  have e : p.S j = p.aS ((j - (5 * p.many - 1)) / 2) ((j - (5 * p.many - 1)) % 2) := if_neg (by omega)
  rw [e]
  refine ⟨rfl, ?_⟩
  show ((5 * p.many - 1 + 2 * ((j - (5 * p.many - 1)) / 2) + (j - (5 * p.many - 1)) % 2 : Nat) : Int) = j
  omega
/-- to the end -/
theorem run_done {pace : Int} (hm : 0 < p.many) (hv : ∀ i, (p.val i).natAbs < 2 ^ 63) : mrun p.img pace (-1) (-1) (7 * p.many) (p.S 0).1 (p.S 0).2 = some (⟨[p.val p.many], [], ((p.many * p.worth : Nat) : Int), ((7 * p.many - 1 : Nat) : Int)⟩, 0) := by
  have e : 7 * p.many = (7 * p.many - 1) + 1 := by omega
  rw [e]
  refine mrun_states (7 * p.many - 1) 0 (fun j _ h => ?_) ?_
  · obtain ⟨low, t, a, b⟩ := S_step (p := p) (pace := pace) hm hv (j := j) (by omega)
    exact ⟨low, t, a, by omega, by omega, b⟩
  · left
    have e2 : p.S (0 + (7 * p.many - 1)) = p.aS p.many 0 := by
      rw [show p.S (0 + (7 * p.many - 1)) = p.aS ((0 + (7 * p.many - 1) - (5 * p.many - 1)) / 2) ((0 + (7 * p.many - 1) - (5 * p.many - 1)) % 2) from if_neg (by omega), show (0 + (7 * p.many - 1) - (5 * p.many - 1)) / 2 = p.many by omega, show (0 + (7 * p.many - 1) - (5 * p.many - 1)) % 2 = 0 by omega]
    rw [e2]
    refine ⟨by simp [P.aS], ?_⟩
    simp [P.aS]
    omega
/-- stopped on the way down -/
theorem run_stop {pace : Int} {j : Nat} (hm : 0 < p.many) (hv : ∀ i, (p.val i).natAbs < 2 ^ 63) (hj : j < 5 * p.many) : mrun p.img pace (-1) (j : Int) (j + 1) (p.S 0).1 (p.S 0).2 = some ((p.S j).1, 2) := by
  have := mrun_states (img := p.img) (pace := pace) (cut := -1) (steps := (j : Int)) (S := p.S) (r := ((p.S j).1, 2)) j 0 (fun i _ h => ?_) ?_
  · exact this
  · obtain ⟨low, t, a, b⟩ := S_step (p := p) (pace := pace) hm hv (j := i) (by omega)
    obtain ⟨_, d⟩ := S_tally (p := p) (j := i) (by omega)
    exact ⟨low, t, a, by omega, by rw [d]; omega, b⟩
  · obtain ⟨_, d⟩ := S_tally (p := p) (j := j) hj
    obtain ⟨low, t, a, b⟩ := S_step (p := p) (pace := pace) hm hv (j := j) (by omega)
    rw [Nat.zero_add]
    right; right
    exact ⟨by rw [a]; simp, by omega, by rw [d]; omega, rfl⟩
/-- the memory there -/
theorem stop_mem {j : Nat} (hj : j < 5 * p.many) : (p.S j).1.mem = [if p.kept = true then p.old else p.val ((j + 1) / 5)] ∧ (p.S j).1.tally = 0 ∧ (p.S j).1.done = j := by
  refine ⟨?_, S_tally hj⟩
  have e : p.S j = p.dS (j / 5) (j % 5) := if_pos hj
  rw [e]
  unfold P.dS P.cD
  cases p.kept with
  | true => simp
  | false =>
    by_cases h : j % 5 = 4
    · simp [h, show (j + 1) / 5 = j / 5 + 1 by omega]
    · simp [h, show (j + 1) / 5 = j / 5 by omega]
/-- cut behind a beat: q beats done -/
theorem run_cut {pace : Int} {cut q : Nat} (hm : 0 < p.many) (hw : 0 < p.worth) (hv : ∀ i, (p.val i).natAbs < 2 ^ 63) (h0 : 0 < cut) (hq0 : 0 < q) (hq : q ≤ p.many) (h1 : cut ≤ q * p.worth) (h2 : (q - 1) * p.worth < cut) :
    mrun p.img pace (cut : Int) (-1) (5 * p.many + 2 * q - 2 + 1) (p.S 0).1 (p.S 0).2 = some (⟨[p.val p.many], [], ((q * p.worth : Nat) : Int), ((5 * p.many + 2 * q - 2 : Nat) : Int)⟩, 1) := by
  have e2 : p.S (5 * p.many + 2 * q - 2) = p.aS (q - 1) 1 := by
    rw [show p.S (5 * p.many + 2 * q - 2) = p.aS ((5 * p.many + 2 * q - 2 - (5 * p.many - 1)) / 2) ((5 * p.many + 2 * q - 2 - (5 * p.many - 1)) % 2) from if_neg (by omega), show (5 * p.many + 2 * q - 2 - (5 * p.many - 1)) / 2 = q - 1 by omega, show (5 * p.many + 2 * q - 2 - (5 * p.many - 1)) % 2 = 1 by omega]
  have ht : (p.aS (q - 1) 1).1 = ⟨[p.val p.many], [], ((q * p.worth : Nat) : Int), ((5 * p.many + 2 * q - 2 : Nat) : Int)⟩ := by
    unfold P.aS
    rw [show q - 1 + 1 = q by omega, show 5 * p.many - 1 + 2 * (q - 1) + 1 = 5 * p.many + 2 * q - 2 by omega]
  have := mrun_states (img := p.img) (pace := pace) (cut := (cut : Int)) (steps := -1) (S := p.S) (r := ((p.aS (q - 1) 1).1, 1)) (5 * p.many + 2 * q - 2) 0 (fun i _ h => ?_) ?_
  · rw [ht] at this
    exact this
  · obtain ⟨low, t, a, b⟩ := S_step (p := p) (pace := pace) hm hv (j := i) (by omega)
    refine ⟨low, t, a, ?_, by omega, b⟩
    by_cases h3 : i < 5 * p.many
    · rw [(S_tally (p := p) h3).1]; omega
    · rw [(S_tally2 (p := p) (by omega) hm).1]
      have hle : (i - (5 * p.many - 1)) / 2 + (i - (5 * p.many - 1)) % 2 ≤ q - 1 := by omega
      have := Nat.mul_le_mul_right p.worth hle
      omega
  · rw [Nat.zero_add, e2]
    right; left
    refine ⟨?_, ?_, rfl⟩
    · have : q - 1 < p.many := by omega
      simp [P.aS, this]
    · rw [ht]
      exact ⟨by omega, by exact Int.ofNat_le.mpr h1⟩
/-- reached states -/
def P.I (p : P) (c : MC) (fs : List Fr) : Prop := ∃ j, j ≤ 7 * p.many - 1 ∧ (c, fs) = p.S j
theorem I_0 : p.I (p.S 0).1 (p.S 0).2 := ⟨0, Nat.zero_le _, rfl⟩
theorem I_next {im : Img} {pace : Int} (he : im = p.img) (hm : 0 < p.many) (hv : ∀ i, (p.val i).natAbs < 2 ^ 63) {c c' : MC} {low fs' : List Fr} {t : Fr} (h : p.I c (low ++ [t])) (hs : mstep im pace c low t = some (c', fs')) : p.I c' fs' := by
  subst he
  obtain ⟨j, hj, e⟩ := h
  have hlt : j < 7 * p.many - 1 := by
    by_cases h : j < 7 * p.many - 1
    · exact h
    · have ej : j = 7 * p.many - 1 := by omega
      subst ej
      have e2 : p.S (7 * p.many - 1) = p.aS p.many 0 := by
        rw [show p.S (7 * p.many - 1) = p.aS ((7 * p.many - 1 - (5 * p.many - 1)) / 2) ((7 * p.many - 1 - (5 * p.many - 1)) % 2) from if_neg (by omega), show (7 * p.many - 1 - (5 * p.many - 1)) / 2 = p.many by omega, show (7 * p.many - 1 - (5 * p.many - 1)) % 2 = 0 by omega]
      rw [e2] at e
      have := congrArg Prod.snd e
      simp [P.aS] at this
  obtain ⟨low2, t2, a, b⟩ := S_step (p := p) (pace := pace) hm hv hlt
  have e1 : c = (p.S j).1 := congrArg Prod.fst e
  have e2 : low ++ [t] = low2 ++ [t2] := (congrArg Prod.snd e).trans a
  obtain ⟨rfl, h3⟩ := List.append_inj' e2 rfl
  cases h3
  rw [← e1, hs] at b
  exact ⟨j + 1, by omega, Option.some.inj b⟩
theorem frames_S {j : Nat} {low : List Fr} {t : Fr} (hm : 0 < p.many) (h : (p.S j).2 = low ++ [t]) : low.length ≤ p.many ∧ t.stack.length ≤ 2 ∧ t.table = [(p.top, p.kept)] ∧ (∃ k, t.code = code p.more p.worth k) ∧ (p.S j).1.pend.length ≤ 1 := by
  unfold P.S at h ⊢
  by_cases h1 : j < 5 * p.many
  · rw [if_pos h1] at h ⊢
    have h' : p.low (j / 5) ++ [p.fr (p.many - 1 - j / 5) (j % 5) (p.stk (j / 5) (j % 5))] = low ++ [t] := h
    obtain ⟨rfl, h3⟩ := List.append_inj' h' rfl
    cases h3
    refine ⟨by simp [P.low]; omega, ?_, rfl, ⟨_, rfl⟩, ?_⟩
    · show (p.stk (j / 5) (j % 5)).length ≤ 2
      unfold P.stk
      split <;> simp
    · unfold P.dS P.cD
      cases p.kept with
      | false => simp
      | true =>
        dsimp only
        rw [if_pos rfl]
        dsimp only
        split <;> split <;> simp
  · rw [if_neg h1] at h ⊢
    unfold P.aS at h ⊢
    dsimp only at h
    split at h
    · obtain ⟨rfl, h3⟩ := List.append_inj' h rfl
      cases h3
      exact ⟨by simp [P.low]; omega, by simp [P.fr], rfl, ⟨_, rfl⟩, by simp⟩
    · simp at h
end
end LC
end

section
set_option Elab.async false
set_option linter.all false
set_option maxRecDepth 100000
set_option maxHeartbeats 4000000
namespace K87
open PySem LG LM
section
variable {p : LC.P}
theorem small_I (hm : 0 < p.many) (h2 : p.many ≤ 2000) (ht : 0 ≤ p.top) : ∀ c low t, p.I c (low ++ [t]) → Small c low t := by
  rintro c low t ⟨j, _, e⟩
  have e1 : c = (p.S j).1 := congrArg Prod.fst e
  have e2 : (p.S j).2 = low ++ [t] := (congrArg Prod.snd e).symm
  obtain ⟨a1, a2, a3, ⟨k, a4⟩, a5⟩ := LC.frames_S hm e2
  rw [← e1] at a5
  refine ⟨by omega, by omega, by omega, fun tk h => ?_, fun i h => ?_⟩
  · rw [a3] at h
    simp only [List.mem_singleton] at h
    subst h
    exact ht
  · rw [a4] at h
    cases k with
    | zero =>
      simp only [LC.code, List.mem_cons, List.not_mem_nil, or_false] at h
      rcases h with h | h | h | h | h | h <;> rw [h] <;> simp
    | succ k =>
      simp only [LC.code, List.mem_cons, List.not_mem_nil, or_false] at h
      rcases h with h | h | h | h | h | h | h <;> rw [h] <;> simp
theorem S_0 (hm : 0 < p.many) : p.S 0 = (⟨[p.old], [], 0, 0⟩, [p.fr (p.many - 1) 0 []]) := by
  have e : p.S 0 = p.dS 0 0 := if_pos (by omega)
  rw [e]
  unfold LC.P.dS LC.P.cD
  cases p.kept <;> simp [LC.P.low, LC.P.val, LC.val, LC.P.stk]
/-- drive on the chain -/
theorem chain_drive {k n w : Nat} {cut steps : Int} {c' : MC} {L : LH} (hm : 0 < p.many) (h2 : p.many ≤ 2000) (ht : 0 ≤ p.top) (hv : ∀ i, (p.val i).natAbs < 2 ^ 63) (hr : mrun p.img 1 cut steps n (p.S 0).1 (p.S 0).2 = some (c', w)) (hn : n < 16777216) :
    ∃ L', run mo.pg (k + 5) 27 [imgLV nS p.img, .int ((p.many - 1 : Nat) : Int), .tup [.int p.old], .int 1, .int cut, .int steps] L = .ok (.tup [.tup (intsL c'.mem), .int c'.tally, .int c'.done, .str (word w)]) L' ∧ L.n ≤ L'.n ∧ ∀ x, x < L.n → L'.at_ x = L.at_ x := by
  have h0 := LC.I_0 (p := p)
  rw [S_0 hm] at hr h0
  exact drive_ok (ms := [p.old]) (I := p.I) (small_I hm h2 ht) (fun c low t c' fs' h hs => LC.I_next rfl hm hv h hs) (LC.seg_at (by omega)) h0 hr hn
end
end K87
end

section
set_option Elab.async false
set_option linter.all false
set_option maxRecDepth 100000
set_option maxHeartbeats 4000000
/-! PK: the packed form, plain. -/
namespace LM
open LG
/-- groups of seven bits -/
def grp (n : Nat) : List Nat := if n < 128 then [n] else (n % 128 + 128) :: grp (n / 128)
termination_by n
decreasing_by omega
theorem grp_lt {n : Nat} (h : n < 128) : grp n = [n] := by rw [grp, if_pos h]
theorem grp_ge {n : Nat} (h : ¬ n < 128) : grp n = (n % 128 + 128) :: grp (n / 128) := by rw [grp, if_neg h]
def b2n (b : Bool) : Nat := if b = true then 1 else 0
/-- arguments of an operation -/
def argc (i : Nat) : Nat := [1, 1, 1, 0, 1, 0, 0, 0, 0, 0, 0, 0, 0, 0, 0, 0, 0, 0, 0, 0, 1, 1, 2, 1, 0].getD i 0
abbrev TabN := List (Nat × Bool)
def tabI (t : TabN) : List (Int × Bool) := t.map fun p => ((p.1 : Int), p.2)
def tabNs (t : TabN) : List Nat := t.length :: t.flatMap fun p => [p.1, b2n p.2]
def insNs (i : Ins) : List Nat := i.1 :: i.2
def segNs (g : Nat × List Ins) : List Nat := g.1 :: g.2.length :: g.2.flatMap insNs
/-- an image whose tops are no less than 0 -/
structure ImgN where
  tables : List TabN
  segs : List (Nat × List Ins)
  plan : List (List Nat)
def ImgN.img (m : ImgN) : Img := ⟨m.tables.map tabI, m.segs, m.plan⟩
def planNs (p : List Nat) : List Nat := p.length :: p
def imgNs (m : ImgN) : List Nat := (m.tables.length :: m.tables.flatMap tabNs) ++ (m.segs.length :: m.segs.flatMap segNs) ++ (m.plan.length :: m.plan.flatMap planNs)
def bodyF (m : ImgN) : List Nat := 82 :: (imgNs m).flatMap grp
def packF (m : ImgN) : List Nat := bodyF m ++ [(bodyF m).sum % 256]
/-! reading -/
abbrev Rd (α : Type) := List Nat → Option (α × List Nat)
def rNum : Rd Nat
  | [] => none
  | a :: r => if a < 128 then some (a, r) else match r with
    | [] => none
    | b :: r => if b = 0 then none else if b < 128 then some (a - 128 + b * 128, r) else match r with
      | [] => none
      | c :: r => if c = 0 then none else if c < 128 then some (a - 128 + (b - 128) * 128 + c * 16384, r) else none
def rMany {α : Type} (p : Rd α) : Rd (List α) := fun s => (rNum s).bind fun q => manyF p q.1 q.2
def rCell : Rd (Nat × Bool) := fun s => (rNum s).bind fun q => (rNum q.2).bind fun q2 => if 1 < q2.1 then none else some ((q.1, decide (q2.1 = 1)), q2.2)
def rTab : Rd TabN := rMany rCell
def rIns : Rd Ins := fun s => (rNum s).bind fun q => if 25 ≤ q.1 then none else (manyF rNum (argc q.1) q.2).map fun r => ((q.1, r.1), r.2)
def rSeg : Rd (Nat × List Ins) := fun s => (rNum s).bind fun q => (rMany rIns q.2).map fun r => ((q.1, r.1), r.2)
def rNums : Rd (List Nat) := rMany rNum
def rImg : Rd ImgN := fun s => (rMany rTab s).bind fun a => (rMany rSeg a.2).bind fun b => (rMany rNums b.2).map fun c => (⟨a.1, b.1, c.1⟩, c.2)
/-- the image that the bytes stand for -/
def loadF (d : List Nat) : Option ImgN := if d.length < 2 then none else if d.head? ≠ some 82 then none else if some (d.dropLast.sum % 256) ≠ d.getLast? then none
  else (rImg (d.dropLast.drop 1)).bind fun r => if r.2 = [] then some r.1 else none
/-! reading what was written -/
def numOk (n : Nat) : Prop := n < 2097152
theorem rNum_grp {n : Nat} {r : List Nat} (h : numOk n) : rNum (grp n ++ r) = some (n, r) := by
  unfold numOk at h
  by_cases h1 : n < 128
  · rw [grp_lt h1]
    simp [rNum, h1]
  · rw [grp_ge h1]
    by_cases h2 : n / 128 < 128
    · rw [grp_lt h2]
      simp only [List.cons_append, List.nil_append, rNum]
      rw [if_neg (by omega), if_neg (by omega), if_pos h2]
      congr 2
      omega
    · rw [grp_ge h2, grp_lt (by omega)]
      simp only [List.cons_append, List.nil_append, rNum]
      rw [if_neg (by omega), if_neg (by omega), if_neg (by omega), if_neg (by omega), if_pos (by omega)]
      congr 2
      omega
theorem many_grp {α : Type} {p : Rd α} {w : α → List Nat} {ok : α → Prop} (hp : ∀ a r, ok a → p ((w a).flatMap grp ++ r) = some (a, r)) : ∀ (l : List α) (r : List Nat), (∀ a ∈ l, ok a) → manyF p l.length ((l.flatMap w).flatMap grp ++ r) = some (l, r)
  | [], r, _ => rfl
  | a :: l, r, h => by
    rw [List.length_cons, manyF, List.flatMap_cons, List.flatMap_append, List.append_assoc, hp a _ (h a List.mem_cons_self), Option.bind_some, many_grp hp l r fun b hb => h b (List.mem_cons_of_mem _ hb)]
    rfl
theorem rMany_grp {α : Type} {p : Rd α} {w : α → List Nat} {ok : α → Prop} (hp : ∀ a r, ok a → p ((w a).flatMap grp ++ r) = some (a, r)) {l : List α} {r : List Nat} (hl : numOk l.length) (h : ∀ a ∈ l, ok a) : rMany p ((l.length :: l.flatMap w).flatMap grp ++ r) = some (l, r) := by
  unfold rMany
  rw [List.flatMap_cons, List.append_assoc, rNum_grp hl, Option.bind_some]
  exact many_grp hp l r h
def cellOk (p : Nat × Bool) : Prop := numOk p.1
def tabOk (t : TabN) : Prop := numOk t.length ∧ ∀ p ∈ t, cellOk p
def insOk (i : Ins) : Prop := i.1 < 25 ∧ i.2.length = argc i.1 ∧ ∀ a ∈ i.2, numOk a
def segOk (g : Nat × List Ins) : Prop := numOk g.1 ∧ numOk g.2.length ∧ ∀ i ∈ g.2, insOk i
def numsOk (l : List Nat) : Prop := numOk l.length ∧ ∀ a ∈ l, numOk a
structure ImgN.Ok (m : ImgN) : Prop where
  t0 : numOk m.tables.length
  t : ∀ t ∈ m.tables, tabOk t
  s0 : numOk m.segs.length
  s : ∀ g ∈ m.segs, segOk g
  p0 : numOk m.plan.length
  p : ∀ l ∈ m.plan, numsOk l
theorem rCell_grp {p : Nat × Bool} {r : List Nat} (h : cellOk p) : rCell ([p.1, b2n p.2].flatMap grp ++ r) = some (p, r) := by
  unfold rCell
  have hb : numOk (b2n p.2) := by unfold numOk b2n; split <;> omega
  rw [List.flatMap_cons, List.flatMap_cons, List.flatMap_nil, List.append_nil, List.append_assoc, rNum_grp h, Option.bind_some, rNum_grp hb, Option.bind_some]
  obtain ⟨n, b⟩ := p
  cases b <;> simp [b2n]
theorem rTab_grp {t : TabN} {r : List Nat} (h : tabOk t) : rTab ((tabNs t).flatMap grp ++ r) = some (t, r) := rMany_grp (fun a r h => rCell_grp h) h.1 h.2
theorem manyNum_grp {l r : List Nat} (h : ∀ a ∈ l, numOk a) : manyF rNum l.length (l.flatMap grp ++ r) = some (l, r) := by
  have := many_grp (p := rNum) (w := fun a => [a]) (ok := numOk) (fun a r h => by simpa using rNum_grp h) l r h
  simpa using this
theorem rIns_grp {i : Ins} {r : List Nat} (h : insOk i) : rIns ((insNs i).flatMap grp ++ r) = some (i, r) := by
  unfold rIns insNs
  obtain ⟨h1, h2, h3⟩ := h
  rw [List.flatMap_cons, List.append_assoc, rNum_grp (by unfold numOk; omega), Option.bind_some, if_neg (by omega), ← h2, manyNum_grp h3]
  rfl
theorem rSeg_grp {g : Nat × List Ins} {r : List Nat} (h : segOk g) : rSeg ((segNs g).flatMap grp ++ r) = some (g, r) := by
  unfold rSeg segNs
  obtain ⟨h1, h2, h3⟩ := h
  rw [List.flatMap_cons, List.append_assoc, rNum_grp h1, Option.bind_some, rMany_grp (fun a r h => rIns_grp h) h2 h3]
  rfl
theorem rNums_grp {l r : List Nat} (h : numsOk l) : rNums ((planNs l).flatMap grp ++ r) = some (l, r) := by
  have := rMany_grp (p := rNum) (w := fun a => [a]) (ok := numOk) (fun a r h => by simpa using rNum_grp h) (r := r) h.1 h.2
  simpa [rNums, planNs] using this
theorem rImg_grp {m : ImgN} {r : List Nat} (h : m.Ok) : rImg ((imgNs m).flatMap grp ++ r) = some (m, r) := by
  unfold rImg imgNs
  rw [List.flatMap_append, List.flatMap_append, List.append_assoc, List.append_assoc, rMany_grp (fun a r h => rTab_grp h) h.t0 h.t, Option.bind_some, rMany_grp (fun a r h => rSeg_grp h) h.s0 h.s, Option.bind_some, rMany_grp (fun a r h => rNums_grp h) h.p0 h.p]
  rfl
theorem load_pack {m : ImgN} (h : m.Ok) : loadF (packF m) = some m := by
  have hl : 2 ≤ (packF m).length := by unfold packF bodyF; simp
  have hd : (packF m).dropLast = bodyF m := by unfold packF; simp
  have hh : (packF m).head? = some 82 := by unfold packF bodyF; simp
  have hg : (packF m).getLast? = some ((bodyF m).sum % 256) := by unfold packF; simp
  unfold loadF
  rw [if_neg (by omega), if_neg (by rw [hh]; simp), hd, hg, if_neg (by simp)]
  have : (bodyF m).drop 1 = (imgNs m).flatMap grp ++ [] := by unfold bodyF; simp
  rw [this, rImg_grp h]
  simp
end LM
end

section
set_option Elab.async false
set_option linter.all false
set_option maxRecDepth 100000
set_option maxHeartbeats 4000000
namespace K87
open PySem LG LM
section
variable {k : Nat} {L : LH}
def grC : LE := .cmp .ge (.var 0) (.con (.int 128))
def grB : LSs := match d16.body with
  | .cons _ (.cons (.while _ b) _) => b
  | _ => .nil
theorem grp_loop {F : Fn} {d : Nat} : ∀ (N n : Nat) (acc : List Nat) (L : LH), (grp n).length ≤ N → L.at_ d = some (.lst (natL acc)) → acc.length + (grp n).length < 16777216 →
    ∃ L' m pre, whileL (evT F grC) (evSs F grB) N [some (.int (n : Int)), some (.ref d)] L = .ok (.nx, [some (.int (m : Nat)), some (.ref d)]) L' ∧ L'.n = L.n ∧ grp n = pre ++ [m] ∧ L'.at_ d = some (.lst (natL (acc ++ pre))) ∧ ∀ z, z ≠ d → L'.at_ z = L.at_ z
  | 0, n, acc, L, h, hd, hz => by
    rw [grp] at h
    split at h <;> simp at h
  | N + 1, n, acc, L, h, hd, hz => by
    have hline : sizeLine = 16777216 := rfl
    by_cases h1 : n < 128
    · have h1' : ¬ ((128 : Int) ≤ n) := by omega
      refine ⟨L, n, [], ?_, rfl, by rw [grp_lt h1]; rfl, by simpa using hd, fun _ _ => rfl⟩
      rw [while_S]
      simp [grC, h1']
    · have h1' : (128 : Int) ≤ n := by omega
      rw [grp_ge h1] at h hz
      simp only [List.length_cons] at h hz
      obtain ⟨L', m, pre, e1, e2, e3, e4, e5⟩ := grp_loop (F := F) (d := d) N (n / 128) (acc ++ [n % 128 + 128]) (L.put d (.lst (natL (acc ++ [n % 128 + 128])))) (by omega) (LH.put_same _ _ _) (by simp; omega)
      refine ⟨L', m, (n % 128 + 128) :: pre, ?_, e2, by rw [grp_ge h1, e3]; rfl, by rw [e4, List.append_assoc]; rfl, fun z hz => (e5 z hz).trans (put_ne hz)⟩
      rw [while_S]
      have hmod : ∀ L : LH, binV .mod (.int (n : Int)) (.int 128) L = .ok (.int ((n % 128 : Nat) : Int)) L := fun L => by
        rw [bin_mod (by omega)]; rfl
      have hdiv : ∀ L : LH, binV .fdiv (.int (n : Int)) (.int 128) L = .ok (.int ((n / 128 : Nat) : Int)) L := fun L => by
        rw [bin_div (by omega) (by omega)]; rfl
      have p1 := bm_lst (m := .lappend) hd rfl
      have p2 : bmV .lappend (.ref d) [.int (((n % 128 : Nat) : Int) + 128)] L = .ok .non (L.put d (.lst (natL (acc ++ [n % 128 + 128])))) := by
        rw [m_append hd (by simp; omega)]
        rw [natL_app]
        rfl
      simp only [Int.natCast_emod, Int.natCast_ediv, Int.cast_ofNat_Int] at hmod hdiv p2 e1
      generalize hW : whileL (evT F grC) (evSs F grB) N = W at e1 ⊢
      simp [grC, grB, d16, h1', hmod, hdiv, p1, p2, e1]
theorem grp_len {n : Nat} (h : numOk n) : (grp n).length ≤ 3 := by
  unfold numOk at h
  by_cases h1 : n < 128
  · rw [grp_lt h1]; simp
  · rw [grp_ge h1]
    by_cases h2 : n / 128 < 128
    · rw [grp_lt h2]; simp
    · rw [grp_ge h2, grp_lt (by omega)]; simp
theorem groups_ok {n : Nat} (h : numOk n) : ∃ L' r, run mo.pg (k + 1) 16 [.int (n : Int)] L = .ok (.ref r) L' ∧ Ext L L' ∧ L.n ≤ r ∧ r < L'.n ∧ L'.at_ r = some (.lst (natL (grp n))) := by
  have hline : sizeLine = 16777216 := rfl
  rw [Mo.run_succ (d := d16) rfl rfl]
  have hg := grp_len h
  obtain ⟨L', m, pre, e1, e2, e3, e4, e5⟩ := grp_loop (F := mo.F k) (d := L.n) 16777216 n [] (L.new (.lst [])) (by omega) (LH.new_same _ _) (by simp; omega)
  have hb : d16.body = .cons (.set 1 (.lst .nil)) (.cons (.while grC grB) (.cons (.ret (.bin .add (.var 1) (.lst (.cons (.var 0) .nil)))) .nil)) := rfl
  have hw : evS (mo.F k) (.while grC grB) [some (.int (n : Int)), some (.ref L.n)] (L.new (.lst [])) = .ok (.nx, [some (.int (m : Int)), some (.ref L.n)]) L' := by
    rw [s_while]
    exact e1
  rw [List.nil_append] at e4
  have n1 : L'.n = L.n + 1 := by rw [e2]; rfl
  have hadd : binV .add (.ref L.n) (.ref L'.n) (L'.new (.lst [.int (m : Int)])) = .ok (.ref (L'.n + 1)) ((L'.new (.lst [.int (m : Int)])).new (.lst (natL (grp n)))) := by
    rw [bin_addL (xs := natL pre) (ys := [.int (m : Int)]) (by rw [new_ne (by omega)]; exact e4) (LH.new_same _ _) (by
      rw [e3] at hg
      simp at hg ⊢
      omega), e3, natL_app]
    rfl
  refine ⟨(L'.new (.lst [.int (m : Int)])).new (.lst (natL (grp n))), L'.n + 1, ?_, ⟨?_, fun z hz => ?_⟩, by omega, by simp, ?_⟩
  rotate_left
  · simp; omega
  · rw [new_ne (by rw [LH.new_n]; omega), new_ne (by omega), e5 z (by omega), new_ne (by omega)]
  · exact LH.new_same _ _
  show endOf (evSs (mo.F k) d16.body [some (.int (n : Int)), none] L) = _
  rw [hb]
  simp [hw, hadd]
/-! tables -/
def tbB : LSs := match d17.body with
  | .cons _ (.cons (.for _ _ b) _) => b
  | _ => .nil
theorem table_ok {t : TabN} (hz : (tabNs t).length ≤ 16777216) : ∃ L' r, run mo.pg (k + 1) 17 [tabLV (tabI t)] L = .ok (.ref r) L' ∧ Ext L L' ∧ L.n ≤ r ∧ r < L'.n ∧ L'.at_ r = some (.lst (natL (tabNs t))) := by
  have hline : sizeLine = 16777216 := rfl
  rw [Mo.run_succ (d := d17) rfl rfl]
  have hlen : ∀ L : LH, bfV .len [tabLV (tabI t)] L = .ok (.int t.length) L := fun L => by
    show Out.ok (LV.int (((t.map _).map _).length : Nat)) L = _
    rw [List.length_map, List.length_map]
  have hl : (tabNs t).length = 1 + (t.flatMap fun p => [p.1, b2n p.2]).length := by unfold tabNs; rw [List.length_cons]; omega
  obtain ⟨L', x', e1, e2, e3, e4⟩ := for_gather (tv := fun p : Nat × Bool => LV.tup [.int (p.1 : Int), .bl p.2]) (w := fun p => [p.1, b2n p.2]) (body := forB (mo.F k) (.tup [2, 3]) tbB) (N := L.n) (S := .vals (t.map fun p : Nat × Bool => LV.tup [.int (p.1 : Int), .bl p.2]))
    (X := Option LV × Option LV) (σf := fun x => [some (tabLV (tabI t)), some (.ref L.n), x.1, x.2]) t [t.length] (L.new (.lst [.int t.length])) (none, none) (fun _ _ => trivial) (fun p hp M acc x hM hn hz => by
      obtain ⟨n, b⟩ := p
      have p1 := bm_lst (m := .lextend) hM rfl
      have hx : bmV .lextend (.ref L.n) [.ref M.n] (M.new (.lst [.int (n : Int), .int (b2n b : Int)])) = .ok .non ((M.new (.lst [.int (n : Int), .int (b2n b : Int)])).put L.n (.lst (natL (acc ++ [n, b2n b])))) := by
        rw [m_extend (xs := natL acc) (ys := [.int (n : Int), .int (b2n b : Int)]) (by rw [new_ne (by omega)]; exact hM) (seqOf_lst (LH.new_same _ _)) (by simpa using hz), natL_app]
        rfl
      refine ⟨(M.new (.lst [.int (n : Int), .int (b2n b : Int)])).put L.n (.lst (natL (acc ++ [n, b2n b]))), (some (.int (n : Int)), some (.bl b)), ?_, ?_, LH.put_same _ _ _, fun z h1 h2 => by rw [put_ne h2, new_ne (by omega)]⟩
      · cases b with
        | true =>
          simp only [b2n, if_true, Int.natCast_one] at hx ⊢
          simp [forB, tbB, d17, p1, hx]
        | false =>
          simp only [b2n, Bool.false_eq_true, if_false, Int.natCast_zero] at hx ⊢
          simp [forB, tbB, d17, p1, hx]
      · simp) (LH.new_same _ _) (by simp) (by simp only [List.length_cons, List.length_nil]; omega)
  have hb : d17.body = .cons (.set 1 (.lst (.cons (.bf .len (.cons (.var 0) .nil)) .nil))) (.cons (.for (.tup [2, 3]) (.seq (.var 0)) tbB) (.cons (.ret (.var 1)) .nil)) := rfl
  have hi : ∀ F, evI F (.seq (.var 0)) [some (tabLV (tabI t)), some (.ref L.n), none, none] (L.new (.lst [.int t.length])) = .ok (.vals (t.map fun p : Nat × Bool => LV.tup [.int (p.1 : Int), .bl p.2])) (L.new (.lst [.int t.length])) := fun F => by
    simp [tabLV, tabI, Function.comp_def]
  have hf : evS (mo.F k) (.for (.tup [2, 3]) (.seq (.var 0)) tbB) [some (tabLV (tabI t)), some (.ref L.n), none, none] (L.new (.lst [.int t.length])) = .ok (.nx, [some (tabLV (tabI t)), some (.ref L.n), x'.1, x'.2]) L' := by
    rw [s_for, hi]
    exact e1
  refine ⟨L', L.n, ?_, ⟨by simp at e2; omega, fun z hz => (e4 z (by simp; omega) (by omega)).trans (new_ne (by omega))⟩, Nat.le_refl _, by simp at e2; omega, e3⟩
  show endOf (evSs (mo.F k) d17.body [some (tabLV (tabI t)), none, none, none] L) = _
  rw [hb]
  simp [hlen, hf]
/-! segments -/
def opsL : List Str := (List.range 25).map nS
theorem ops_glo : mo.pg.glo 2 = some (.tup (opsL.map LV.str)) := rfl
theorem strsOf_map : ∀ {l : List Str}, strsOf (l.map LV.str) = some l
  | [] => rfl
  | x :: xs => by rw [List.map_cons, strsOf, strsOf_map]; rfl
theorem idxS_ops : ∀ a : Fin 25, idxS (nS a) opsL = some a.val := by decide +kernel
theorem gidx_ok {i : Nat} (h : i < 25) {L : LH} : gidxV (mo.pg.glo 2) (.str (nS i)) L = .ok (.int (i : Int)) L := by
  rw [ops_glo]
  simp only [gidxV, strsOf_map, idxS_ops ⟨i, h⟩]
theorem ops_at {i : Nat} (h : i < 25) {L : LH} : atX (opsL.map LV.str) (i : Int) L = .ok (.str (nS i)) L := atX_some (by
  rw [atI_nat, List.getElem?_map]
  unfold opsL
  rw [List.getElem?_map, List.getElem?_range h]
  rfl)
def sgB : LSs := match d18.body with
  | .cons _ (.cons _ (.cons (.for _ _ b) _)) => b
  | _ => .nil
theorem segment_ok {g : Nat × List Ins} (hop : ∀ i ∈ g.2, i.1 < 25) (hz : (segNs g).length ≤ 16777216) : ∃ L' r, run mo.pg (k + 1) 18 [segLV nS g] L = .ok (.ref r) L' ∧ Ext L L' ∧ L.n ≤ r ∧ r < L'.n ∧ L'.at_ r = some (.lst (natL (segNs g))) := by
  have hline : sizeLine = 16777216 := rfl
  rw [Mo.run_succ (d := d18) rfl rfl]
  have hlen : ∀ L : LH, bfV .len [codeLV nS g.2] L = .ok (.int g.2.length) L := fun L => by
    show Out.ok (LV.int ((g.2.map _).length : Nat)) L = _
    rw [List.length_map]
  have hl : (segNs g).length = 2 + (g.2.flatMap insNs).length := by unfold segNs; rw [List.length_cons, List.length_cons]; omega
  obtain ⟨L', x', e1, e2, e3, e4⟩ := for_gather (tv := insLV nS) (w := insNs) (body := forB (mo.F k) (.name 2) sgB) (N := L.n) (S := .vals (g.2.map (insLV nS)))
    (X := Option LV) (σf := fun x => [some (segLV nS g), some (.ref L.n), x, some (.int (g.1 : Int)), some (codeLV nS g.2)]) g.2 [g.1, g.2.length] (L.new (.lst [.int g.1, .int g.2.length])) none (fun _ _ => trivial) (fun i hi M acc x hM hn hz => by
      have h25 := hop i hi
      have p1 := bm_lst (m := .lappend) hM rfl
      have hz' : acc.length + (1 + i.2.length) ≤ 16777216 := by
        have : (insNs i).length = 1 + i.2.length := by unfold insNs; rw [List.length_cons]; omega
        omega
      have hx : bmV .lappend (.ref L.n) [.int (i.1 : Int)] M = .ok .non (M.put L.n (.lst (natL (acc ++ [i.1])))) := by
        rw [m_append hM (by simp; omega), natL_app]
        rfl
      have p2 := bm_lst (m := .lextend) (L := M.put L.n (.lst (natL (acc ++ [i.1])))) (LH.put_same _ _ _) rfl
      have hsl : ∀ L : LH, slcV (.tup (.str (nS i.1) :: i.2.map fun (a : Nat) => LV.int (a : Int))) (some 1) none L = .ok (.tup (natL i.2)) L := fun L => by
        rw [slc_tup, show (some (1 : Int)) = some ((1 : Nat) : Int) from rfl, cut_from]
        rfl
      have hy : bmV .lextend (.ref L.n) [.tup (natL i.2)] (M.put L.n (.lst (natL (acc ++ [i.1])))) = .ok .non ((M.put L.n (.lst (natL (acc ++ [i.1])))).put L.n (.lst (natL (acc ++ insNs i)))) := by
        rw [m_extend (xs := natL (acc ++ [i.1])) (ys := natL i.2) (LH.put_same _ _ _) rfl (by simp; omega), ← natL_app, List.append_assoc]
        rfl
      refine ⟨(M.put L.n (.lst (natL (acc ++ [i.1])))).put L.n (.lst (natL (acc ++ insNs i))), some (insLV nS i), ?_, ?_, LH.put_same _ _ _, fun z h1 h2 => by rw [put_ne h2, put_ne h2]⟩
      · have hgi := fun L : LH => gidx_ok h25 (L := L)
        simp [forB, sgB, d18, insLV, p1, p2, hgi, hx, hsl, hy, isNon]
      · simp) (LH.new_same _ _) (by simp) (by simp only [List.length_cons, List.length_nil]; omega)
  have hb : d18.body = .cons (.unp [3, 4] (.var 0)) (.cons (.set 1 (.lst (.cons (.var 3) (.cons (.bf .len (.cons (.var 4) .nil)) .nil)))) (.cons (.for (.name 2) (.seq (.var 4)) sgB) (.cons (.ret (.var 1)) .nil))) := rfl
  have hi : ∀ F, evI F (.seq (.var 4)) [some (segLV nS g), some (.ref L.n), none, some (.int (g.1 : Int)), some (codeLV nS g.2)] (L.new (.lst [.int g.1, .int g.2.length])) = .ok (.vals (g.2.map (insLV nS))) (L.new (.lst [.int g.1, .int g.2.length])) := fun F => by
    simp [codeLV]
  have hf : evS (mo.F k) (.for (.name 2) (.seq (.var 4)) sgB) [some (segLV nS g), some (.ref L.n), none, some (.int (g.1 : Int)), some (codeLV nS g.2)] (L.new (.lst [.int g.1, .int g.2.length])) = .ok (.nx, [some (segLV nS g), some (.ref L.n), x', some (.int (g.1 : Int)), some (codeLV nS g.2)]) L' := by
    rw [s_for, hi]
    exact e1
  refine ⟨L', L.n, ?_, ⟨by simp at e2; omega, fun z hz => (e4 z (by simp; omega) (by omega)).trans (new_ne (by omega))⟩, Nat.le_refl _, by simp at e2; omega, e3⟩
  show endOf (evSs (mo.F k) d18.body [some (segLV nS g), none, none, none, none] L) = _
  rw [hb]
  simp only [segLV] at hf ⊢
  simp [hlen, hf]
end
end K87
end

section
set_option Elab.async false
set_option linter.all false
set_option maxRecDepth 100000
set_option maxHeartbeats 4000000
namespace K87
open PySem LG LM
/-- a Reader: what is left to read -/
structure RdI (r d : Nat) (bytes : List Nat) (s : List Nat) (L : LH) : Prop where
  hr : r < L.n
  hd : d < L.n
  ne : r ≠ d
  ld : L.at_ d = some (.lst (natL bytes))
  lr : ∃ p : Nat, L.at_ r = some (.ins 3 [(31, .ref d), (2, .int (p : Int)), (3, .int ((bytes.length : Int) - 1))]) ∧ s = bytes.dropLast.drop p
section
variable {k r d : Nat} {bytes s s' : List Nat} {L : LH}
theorem RdI.put {D : Nat} (h : RdI r d bytes s L) (h1 : D ≠ r) (h2 : D ≠ d) {o : LO} : RdI r d bytes s (L.put D o) := by
  obtain ⟨a, b, c, e, p, f, g⟩ := h
  exact ⟨a, b, c, by rw [put_ne (Ne.symm h2)]; exact e, p, by rw [put_ne (Ne.symm h1)]; exact f, g⟩
theorem RdI.new (h : RdI r d bytes s L) {o : LO} : RdI r d bytes s (L.new o) := by
  obtain ⟨a, b, c, e, p, f, g⟩ := h
  exact ⟨by rw [LH.new_n]; omega, by rw [LH.new_n]; omega, c, by rw [new_ne (by omega)]; exact e, p, by rw [new_ne (by omega)]; exact f, g⟩
theorem RdI.ext {L' : LH} (h : RdI r d bytes s L) (x : Ext L L') : RdI r d bytes s L' := by
  obtain ⟨a, b, c, e, p, f, g⟩ := h
  exact ⟨Nat.lt_of_lt_of_le a x.1, Nat.lt_of_lt_of_le b x.1, c, by rw [x.2 _ b]; exact e, p, by rw [x.2 _ a]; exact f, g⟩
theorem byte_ok {a : Nat} (h : RdI r d bytes (a :: s) L) : ∃ L', run mo.pg (k + 1) 41 [.ref r] L = .ok (.int (a : Int)) L' ∧ RdI r d bytes s L' ∧ Ext1 r L L' := by
  obtain ⟨h1, h2, h3, h4, p, h5, h6⟩ := h
  have hp : p < bytes.length - 1 := by
    have : p < bytes.dropLast.length := by
      by_cases hc : p < bytes.dropLast.length
      · exact hc
      · rw [List.drop_of_length_le (by omega)] at h6
        cases h6
    rwa [List.length_dropLast] at this
  have hlt : ¬ ((bytes.length : Int) - 1 ≤ p) := by omega
  have hcons := List.drop_eq_getElem_cons (l := bytes.dropLast) (i := p) (by rw [List.length_dropLast]; exact hp)
  rw [hcons] at h6
  have ha : a = bytes.dropLast[p]'(by rw [List.length_dropLast]; exact hp) := (List.cons.inj h6).1
  have hs : s = bytes.dropLast.drop (p + 1) := (List.cons.inj h6).2
  have hat : bytes[p]? = some a := by
    rw [ha, List.getElem_dropLast, List.getElem?_eq_getElem]
  have hx : idxV (.ref d) (.int (p : Int)) L = .ok (.int (a : Int)) L := by
    rw [idx_lst h4]
    exact atX_some (by rw [atI_nat]; unfold natL; rw [List.getElem?_map, hat]; rfl)
  have f1 : mo.fld 3 2 = true := rfl
  refine ⟨L.put r (.ins 3 [(31, .ref d), (2, .int ((p + 1 : Nat) : Int)), (3, .int ((bytes.length : Int) - 1))]), ?_, ⟨h1, h2, h3, by rw [put_ne (Ne.symm h3)]; exact h4, p + 1, LH.put_same _ _ _, hs⟩, ⟨Nat.le_refl _, fun z _ hz => put_ne hz⟩⟩
  rw [Mo.run_succ (d := d41) rfl rfl]
  simp [d41, h5, hlt, hx, f1]
def rnB : LSs := .cons (.set 4 (.meth (.var 0) 32 .nil)) (.cons (.ifs (.ands (.cons (.cmp .eq (.var 4) (.con (.int 0))) (.cons (.cmp .gt (.var 3) (.con (.int 0))) .nil))) (.cons .never .nil) .nil)
  (.cons (.ifs (.cmp .lt (.var 4) (.con (.int 128))) (.cons (.ret (.bin .add (.var 1) (.bin .mul (.var 4) (.var 2)))) .nil) .nil)
  (.cons (.set 1 (.bin .add (.var 1) (.bin .mul (.bin .sub (.var 4) (.con (.int 128))) (.var 2)))) (.cons (.set 2 (.bin .mul (.var 2) (.con (.int 128)))) .nil))))
/-- one turn of next_number -/
theorem rn_turn {F : Fn} {a : Nat} {M M' : LH} {p : Nat} {e : Int} {tot u c w w2 u2 : Int} {x y : Option LV} (hp : M.at_ r = some (.ins 3 [(31, .ref d), (2, .int (p : Int)), (3, .int e)])) (hme : F.mth 3 32 = some 41) (hcl : F.call 41 [.ref r] M = .ok (.int (a : Int)) M')
    (hz : ¬ (a = 0 ∧ 0 < c)) (hw : ∀ L : LH, binV .mul (.int (a : Int)) (.int u) L = .ok (.int w) L) (hw2 : ∀ L : LH, binV .mul (.int ((a : Int) - 128)) (.int u) L = .ok (.int w2) L) (hu2 : ∀ L : LH, binV .mul (.int u) (.int 128) L = .ok (.int u2) L) :
    forB F (.name 3) rnB (.int c) [some (.ref r), some (.int tot), some (.int u), x, y] M =
        (if a < 128 then .ok (.ret (.int (tot + w)), [some (.ref r), some (.int tot), some (.int u), some (.int c), some (.int (a : Int))]) M'
         else .ok (.nx, [some (.ref r), some (.int (tot + w2)), some (.int u2), some (.int c), some (.int (a : Int))]) M') := by
  show evSs F rnB [some (.ref r), some (.int tot), some (.int u), some (.int c), y] M = _
  have t1 : evS F (.set 4 (.meth (.var 0) 32 .nil)) [some (.ref r), some (.int tot), some (.int u), some (.int c), y] M = .ok (.nx, [some (.ref r), some (.int tot), some (.int u), some (.int c), some (.int (a : Int))]) M' := by
    simp [hp, hme, hcl]
  have t2 : evS F (.ifs (.ands (.cons (.cmp .eq (.var 4) (.con (.int 0))) (.cons (.cmp .gt (.var 3) (.con (.int 0))) .nil))) (.cons .never .nil) .nil) [some (.ref r), some (.int tot), some (.int u), some (.int c), some (.int (a : Int))] M' = .ok (.nx, [some (.ref r), some (.int tot), some (.int u), some (.int c), some (.int (a : Int))]) M' := by
    have ht : evT F (.ands (.cons (.cmp .eq (.var 4) (.con (.int 0))) (.cons (.cmp .gt (.var 3) (.con (.int 0))) .nil))) [some (.ref r), some (.int tot), some (.int u), some (.int c), some (.int (a : Int))] M' = .ok false M' := by
      by_cases h0 : a = 0
      · have hc0 : ¬ 0 < c := fun e => hz ⟨h0, e⟩
        simp [h0, hc0]
      · simp [h0]
    rw [s_if, ht, bind_ok, if_neg Bool.false_ne_true, ss_nil]
  rw [rnB, ss_cons, t1, then_nx, ss_cons, t2, then_nx, ss_cons]
  by_cases h1 : a < 128
  · have h1' : (a : Int) < 128 := by omega
    rw [if_pos h1]
    simp [h1', hw]
  · have h1' : ¬ (a : Int) < 128 := by omega
    rw [if_neg h1]
    simp [h1', hw2, hu2]
theorem number_ok {n : Nat} (h : RdI r d bytes s L) (hc : rNum s = some (n, s')) : ∃ L', run mo.pg (k + 2) 42 [.ref r] L = .ok (.int (n : Int)) L' ∧ RdI r d bytes s' L' ∧ Ext1 r L L' := by
  have hme : mo.mth 3 32 = some 41 := rfl
  have hb : d42.body = .cons (.set 1 (.con (.int 0))) (.cons (.set 2 (.con (.int 1))) (.cons (.for (.name 3) (.rng1 (.con (.int 3))) rnB) (.cons .never .nil))) := rfl
  have hrg : ∀ F L σ, evI F (.rng1 (.con (.int 3))) σ L = .ok (.vals [.int 0, .int 1, .int 2]) L := fun F L σ => by
    rw [i_rng1_nat (j := 3) (L1 := L) (by simp) (by omega)]
    rfl
  have hm1 : ∀ (x : Int) (L : LH), binV .mul (.int x) (.int 1) L = .ok (.int x) L := fun x L => by rw [bin_mul (.inr (by omega)), Int.mul_one]
  have hm2 : ∀ (x : Int) (L : LH), binV .mul (.int x) (.int 128) L = .ok (.int (x * 128)) L := fun x L => by rw [bin_mul (.inr (by omega))]
  have hm3 : ∀ (x : Int) (L : LH), binV .mul (.int x) (.int 16384) L = .ok (.int (x * 16384)) L := fun x L => by rw [bin_mul (.inr (by omega))]
  have hm4 : ∀ (L : LH), binV .mul (.int 1) (.int 128) L = .ok (.int 128) L := fun L => by rw [bin_mul (.inr (by omega)), show (1 : Int) * 128 = 128 by omega]
  have hm5 : ∀ (L : LH), binV .mul (.int 128) (.int 128) L = .ok (.int 16384) L := fun L => by rw [bin_mul (.inr (by omega)), show (128 : Int) * 128 = 16384 by omega]
  -- one turn
  have turn : ∀ (a : Nat) (t : List Nat) (M : LH) (tot u c : Int) (x : Option LV) (w w2 : Int), RdI r d bytes (a :: t) M → ¬ (a = 0 ∧ 0 < c) → (∀ L : LH, binV .mul (.int (a : Int)) (.int u) L = .ok (.int w) L) → (∀ L : LH, binV .mul (.int ((a : Int) - 128)) (.int u) L = .ok (.int w2) L) →
      ∀ u2, (∀ L : LH, binV .mul (.int u) (.int 128) L = .ok (.int u2) L) → ∀ y, ∃ M', RdI r d bytes t M' ∧ Ext1 r M M' ∧ forB (mo.F (k + 1)) (.name 3) rnB (.int c) [some (.ref r), some (.int tot), some (.int u), x, y] M =
        (if a < 128 then .ok (.ret (.int (tot + w)), [some (.ref r), some (.int tot), some (.int u), some (.int c), some (.int (a : Int))]) M'
         else .ok (.nx, [some (.ref r), some (.int (tot + w2)), some (.int u2), some (.int c), some (.int (a : Int))]) M') := by
    intro a t M tot u c x w w2 hR hz hw hw2 u2 hu2 y
    obtain ⟨M', b1, b2, b3⟩ := byte_ok (k := k) hR
    refine ⟨M', b2, b3, ?_⟩
    obtain ⟨p, hp, _⟩ := hR.lr
    exact rn_turn hp hme b1 hz hw hw2 hu2
  rw [Mo.run_succ (d := d42) rfl rfl, hb]
  show ∃ L', endOf (evSs (mo.F (k + 1)) _ [some (.ref r), none, none, none, none] L) = _ ∧ _
  generalize mo.F (k + 1) = F at turn ⊢
  generalize rnB = B at turn ⊢
  have pre : ∀ v L' σ, forL (.vals [.int 0, .int 1, .int 2]) (forB F (.name 3) B) [.int 0, .int 1, .int 2] [some (.ref r), some (.int 0), some (.int 1), none, none] L = .ok (.ret v, σ) L' →
      endOf (evSs F (.cons (.set 1 (.con (.int 0))) (.cons (.set 2 (.con (.int 1))) (.cons (.for (.name 3) (.rng1 (.con (.int 3))) B) (.cons .never .nil)))) [some (.ref r), none, none, none, none] L) = .ok v L' := by
    intro v L' σ ho
    have hf : evS F (.for (.name 3) (.rng1 (.con (.int 3))) B) [some (.ref r), some (.int 0), some (.int 1), none, none] L = .ok (.ret v, σ) L' := by
      rw [s_for, hrg]
      exact ho
    rw [ss_cons, s_set, e_con, bind_ok, then_nx, ss_cons, s_set, e_con, bind_ok, then_nx, ss_cons]
    show endOf (thenS (evS F _ [some (.ref r), some (.int 0), some (.int 1), none, none] L) _) = _
    rw [hf, then_ret, endOf_ret]
  unfold rNum at hc
  cases s with
  | nil => cases hc
  | cons a t =>
    obtain ⟨M1, r1, x1, e1⟩ := turn a t L 0 1 0 none (a : Int) ((a : Int) - 128) h (by omega) (fun L => hm1 _ L) (fun L => hm1 _ L) 128 hm4 none
    dsimp only at hc
    split at hc
    · rename_i ha
      cases hc
      rw [if_pos ha] at e1
      refine ⟨M1, pre _ _ [some (.ref r), some (.int 0), some (.int 1), some (.int 0), some (.int (n : Int))] ?_, r1, x1⟩
      rw [forV_cons, e1, turn_ret, Int.zero_add]
    · rename_i ha
      rw [if_neg ha] at e1
      cases t with
      | nil => cases hc
      | cons b t =>
        dsimp only at hc
        split at hc
        · cases hc
        · rename_i hb0
          obtain ⟨M2, r2, x2, e2⟩ := turn b t M1 (0 + ((a : Int) - 128)) 128 1 (some (.int 0)) ((b : Int) * 128) (((b : Int) - 128) * 128) r1 (by omega) (fun L => hm2 _ L) (fun L => hm2 _ L) 16384 hm5 (some (.int (a : Int)))
          split at hc
          · rename_i hb1
            cases hc
            rw [if_pos hb1] at e2
            refine ⟨M2, pre _ _ [some (.ref r), some (.int (0 + ((a : Int) - 128))), some (.int 128), some (.int 1), some (.int (b : Int))] ?_, r2, x1.trans x2⟩
            rw [forV_cons, e1, turn_nx, forV_cons, e2, turn_ret, show 0 + ((a : Int) - 128) + (b : Int) * 128 = ((a - 128 + b * 128 : Nat) : Int) by omega]
          · rename_i hb1
            rw [if_neg hb1] at e2
            cases t with
            | nil => cases hc
            | cons c t =>
              dsimp only at hc
              split at hc
              · cases hc
              · rename_i hc0
                obtain ⟨M3, r3, x3, e3⟩ := turn c t M2 (0 + ((a : Int) - 128) + ((b : Int) - 128) * 128) 16384 2 (some (.int 1)) ((c : Int) * 16384) (((c : Int) - 128) * 16384) r2 (by omega) (fun L => hm3 _ L) (fun L => hm3 _ L) 2097152 (fun L => by rw [bin_mul (.inr (by omega)), show (16384 : Int) * 128 = 2097152 by omega]) (some (.int (b : Int)))
                split at hc
                · rename_i hc1
                  cases hc
                  rw [if_pos hc1] at e3
                  refine ⟨M3, pre _ _ [some (.ref r), some (.int (0 + ((a : Int) - 128) + ((b : Int) - 128) * 128)), some (.int 16384), some (.int 2), some (.int (c : Int))] ?_, r3, (x1.trans x2).trans x3⟩
                  rw [forV_cons, e1, turn_nx, forV_cons, e2, turn_nx, forV_cons, e3, turn_ret, show 0 + ((a : Int) - 128) + ((b : Int) - 128) * 128 + (c : Int) * 16384 = ((a - 128 + (b - 128) * 128 + c * 16384 : Nat) : Int) by omega]
                · cases hc
/-- a comprehension that calls a Reader's method -/
theorem comp_ok {α : Type} {F : Fn} {σ : LSt} {L1 : LH} {v i m n fn : Nat} {e : LE} {f : α → LV} {p : Rd α} {q : List α × List Nat} (hm : F.mth 3 m = some fn) (hmf : m ≠ 31 ∧ m ≠ 2 ∧ m ≠ 3)
    (hσ : ∀ x, ((σ.set v none).set v (some x))[i]? = some (some (.ref r))) (hI : evI F (.rng1 e) σ L = .ok (.vals (rngL 0 n)) L1)
    (hb : ∀ M s a s', RdI r d bytes s M → p s = some (a, s') → ∃ M', F.call fn [.ref r] M = .ok (f a) M' ∧ RdI r d bytes s' M' ∧ Ext1 r M M')
    (h : RdI r d bytes s L1) (hp : manyF p n s = some q) (hz : n ≤ 16777216) :
    ∃ L', evE F (.comp [v] (.name v) (.rng1 e) none .dct0 (.meth (.var i) m .nil)) σ L = .ok (.ref L1.n) L' ∧ RdI r d bytes q.2 L' ∧ L'.at_ L1.n = some (.lst (q.1.map f)) ∧ L1.n < L'.n ∧ Ext1 r L1 L' := by
  have hline : sizeLine = 16777216 := rfl
  have hlen : (rngL 0 n).length = n := by unfold rngL; simp
  have hrn := h.hr
  have hdn := h.hd
  obtain ⟨L', e1, e2, e3, e4, e5⟩ := compV_many (S := rngL 0 n) (D := L1.n) (f := f) (r := r) (p := p) (I := fun s M => RdI r d bytes s M) (body := compB (.name v) (σ.set v none) none (evE F (.meth (.var i) m .nil)))
    (by omega) (fun s M o hM => hM.put (by omega) (by omega)) (fun x M s a s' hM hps => by
      obtain ⟨M', q1, q2, q3⟩ := hb M s a s' hM hps
      refine ⟨M', ?_, q2, q3⟩
      obtain ⟨pl, hpl, _⟩ := hM.lr
      simp only [compB, tgt_name, e_meth, e_var, hσ, Option.join_some, ofOpt_some, bind_ok]
      rw [meth_ok hpl (by simp [Ne.symm hmf.1, Ne.symm hmf.2.1, Ne.symm hmf.2.2]) hm]
      simp [q1]) (rngL 0 n) (L1.new (.lst [])) s [] q h.new (by simp) (LH.new_same _ _) (by rw [hlen]; exact hp) (by rw [hlen]; simp; omega)
  refine ⟨L', ?_, e2, by simpa using e4, by rw [LH.new_n] at e3; omega, ⟨by rw [LH.new_n] at e3; omega, fun z hz hr => (e5 z (by rw [LH.new_n]; omega) hr (by omega)).trans (new_ne (by omega))⟩⟩
  rw [e_comp, hI, bind_ok]
  show (compL (.vals _) L1.n (compB (.name v) (σ.set v none) none _) (rngL 0 n) _).bind _ = _
  rw [e1]
  rfl
end
end K87
end

section
set_option Elab.async false
set_option linter.all false
set_option maxRecDepth 100000
set_option maxHeartbeats 4000000
/-! AU: the audit, plain. -/
namespace LM
def tkF (i : Nat) : Int := [0, 0, 1, 0, 0, 0, 1, 1, 1, 2, 2, 2, 2, 2, 2, 2, 2, 2, 2, 2, 0, 1, 0, 0, 0].getD i 0
def puF (i : Nat) : Int := [1, 1, 0, 1, 1, 1, 0, 1, 1, 1, 1, 1, 1, 1, 1, 1, 1, 1, 1, 1, 0, 0, 0, 0, 0].getD i 0
/-- whether an instruction can be executed at a height (none: an index out of range) -/
def canF (i : Ins) (h : Int) (peaks : List Int) : Option Bool :=
  if i.1 = 5 then some (decide (1 ≤ h))
  else if i.1 = 4 then (i.2[0]?).map fun (a : Nat) => decide ((a : Int) < h)
  else if i.1 = 24 then some (decide (h = 0))
  else if i.1 = 22 then (i.2[0]?).bind fun s => (peaks[s]?).map fun p => decide (h + p ≤ 400)
  else some (decide (tkF i.1 ≤ h))
structure HS where
  peak : Int
  lev : List Int
def handF (s : HS) (i : Nat) (h : Int) : Option (Bool × HS) := (s.lev[i]?).map fun v => if v = -1 ∨ v = h then (true, { s with lev := s.lev.set i h }) else (false, s)
def peakF (s : HS) (i : Ins) (h : Int) (peaks : List Int) : Option HS :=
  if i.1 = 22 then (i.2[0]?).bind fun a => (peaks[a]?).map fun p => if s.peak < h + p then { s with peak := h + p } else s
  else some (if s.peak < h then { s with peak := h } else s)
def visitF (code : List Ins) (peaks : List Int) (s : HS) (n : Nat) : Option (Bool × HS) :=
  (s.lev[n]?).bind fun h => if h < 0 then some (true, s) else (code[n]?).bind fun i => (canF i h peaks).bind fun can => if can = false then some (false, s) else
    (peakF s i h peaks).bind fun s1 =>
      let after := h - tkF i.1 + puF i.1
      if 400 < after then some (false, s1)
      else if i.1 = 20 then (i.2[0]?).bind fun a => handF s1 (n + 1 + a) after
      else if i.1 = 21 then (i.2[0]?).bind fun a => (handF s1 (n + 1 + a) after).bind fun r => if r.1 = false then some (false, r.2) else handF r.2 (n + 1) after
      else if i.1 = 24 then some (true, s1)
      else handF s1 (n + 1) after
end LM
end

section
set_option Elab.async false
set_option linter.all false
set_option maxRecDepth 100000
set_option maxHeartbeats 4000000
namespace K87
open PySem LG LM
section
variable {L : LH} {k : Nat} {i : Ins} {h : Int} {peaks : List Int} {pk H lv : Nat} {code : List Ins} {s s' : HS}
theorem tk_nS (hi : i.1 < 25) : run mo.pg (k + 1) 3 [.str (nS i.1)] L = .ok (.int (tkF i.1)) L := by
  obtain ⟨o, a⟩ := i
  rw [Mo.run_succ (d := d3) rfl rfl]
  dsimp only at hi ⊢
  rcases i25 hi with h | h | h | h | h | h | h | h | h | h | h | h | h | h | h | h | h | h | h | h | h | h | h | h | h <;> subst h <;> simp [d3, g_bin, g_un, tkF, nS]
theorem pu_nS (hi : i.1 < 25) : run mo.pg (k + 1) 4 [.str (nS i.1)] L = .ok (.int (puF i.1)) L := by
  obtain ⟨o, a⟩ := i
  rw [Mo.run_succ (d := d4) rfl rfl]
  dsimp only at hi ⊢
  rcases i25 hi with h | h | h | h | h | h | h | h | h | h | h | h | h | h | h | h | h | h | h | h | h | h | h | h | h <;> subst h <;> simp [d4, g_bin, g_un, g_pu, puF, nS]
theorem nS_eq {a b : Nat} (ha : a < 25) (hb : b < 25) : (nS a = nS b) = (a = b) := propext ⟨nS_inj ha hb, fun e => by rw [e]⟩
theorem can_ok {b : Bool} (hi : i.1 < 25) (hp : L.at_ pk = some (.lst (intsL peaks))) (hc : canF i h peaks = some b) : run mo.pg (k + 2) 8 [insLV nS i, .int h, .ref pk] L = .ok (.bl b) L := by
  rw [Mo.run_succ (d := d8) rfl rfl]
  have e5 := nS_eq hi (show 5 < 25 by omega)
  have e4 := nS_eq hi (show 4 < 25 by omega)
  have e24 := nS_eq hi (show 24 < 25 by omega)
  have e22 := nS_eq hi (show 22 < 25 by omega)
  rw [show nS 5 = cs 5 from rfl] at e5
  rw [show nS 4 = cs 4 from rfl] at e4
  rw [show nS 24 = cs 24 from rfl] at e24
  rw [show nS 22 = cs 22 from rfl] at e22
  have ht := tk_nS (L := L) (k := k) hi
  have g : mo.pg.glo 8 = some (.int 400) := rfl
  unfold canF at hc
  split at hc
  · rename_i h1
    cases hc
    have q5 := e5.trans (eq_true h1)
    simp [d8, insLV, q5]
  · rename_i h1
    split at hc
    · rename_i h2
      cases e0 : i.2[0]? with
      | none => rw [e0] at hc; simp at hc
      | some a =>
        rw [e0] at hc
        simp only [Option.map_some, Option.some.injEq] at hc
        subst hc
        have q5 := e5.trans (eq_false h1)
        have q4 := e4.trans (eq_true h2)
        simp [d8, insLV, q5, q4, arg0 e0]
    · rename_i h2
      split at hc
      · rename_i h3
        cases hc
        have q5 := e5.trans (eq_false h1)
        have q4 := e4.trans (eq_false h2)
        have q24 := e24.trans (eq_true h3)
        simp [d8, insLV, q5, q4, q24]
      · rename_i h3
        split at hc
        · rename_i h4
          cases e0 : i.2[0]? with
          | none => rw [e0] at hc; simp at hc
          | some a =>
            rw [e0] at hc
            simp only [Option.bind_some] at hc
            cases ep : peaks[a]? with
            | none => rw [ep] at hc; simp at hc
            | some q =>
              rw [ep] at hc
              simp only [Option.map_some, Option.some.injEq] at hc
              subst hc
              have hx : idxV (.ref pk) (.int (a : Int)) L = .ok (.int q) L := by
                rw [idx_lst hp]
                exact atX_some (by rw [atI_nat]; unfold intsL; rw [List.getElem?_map, ep]; rfl)
              have q5 := e5.trans (eq_false h1)
              have q4 := e4.trans (eq_false h2)
              have q24 := e24.trans (eq_false h3)
              have q22 := e22.trans (eq_true h4)
              simp [d8, insLV, q5, q4, q24, q22, arg0 e0, hx, g]
        · rename_i h4
          cases hc
          have q5 := e5.trans (eq_false h1)
          have q4 := e4.trans (eq_false h2)
          have q24 := e24.trans (eq_false h3)
          have q22 := e22.trans (eq_false h4)
          simp [d8, insLV, q5, q4, q24, q22, ht]
def hFs (code : List Ins) (pk lv : Nat) (s : HS) : List (Nat × LV) := [(17, codeLV nS code), (28, .ref pk), (1, .int s.peak), (27, .ref lv)]
theorem hand_ok {n : Nat} {b : Bool} (hH : L.at_ H = some (.ins 2 (hFs code pk lv s))) (hl : L.at_ lv = some (.lst (intsL s.lev))) (hc : handF s n h = some (b, s')) :
    run mo.pg (k + 1) 39 [.ref H, .int (n : Int), .int h] L = .ok (.bl b) (if b = true then L.put lv (.lst (intsL s'.lev)) else L) ∧ s'.peak = s.peak := by
  unfold handF at hc
  cases ev : s.lev[n]? with
  | none => rw [ev] at hc; simp at hc
  | some v =>
    rw [ev] at hc
    simp only [Option.map_some, Option.some.injEq] at hc
    rw [Mo.run_succ (d := d39) rfl rfl]
    have hlt : n < s.lev.length := (List.getElem?_eq_some_iff.mp ev).1
    have hx : idxV (.ref lv) (.int (n : Int)) L = .ok (.int v) L := by
      rw [idx_lst hl]
      exact atX_some (by rw [atI_nat]; unfold intsL; rw [List.getElem?_map, ev]; rfl)
    have hs : ∀ σ : LSt, setiV (.int h) (.ref lv) (.int (n : Int)) σ L = .ok (.nx, σ) (L.put lv (.lst (intsL (s.lev.set n h)))) := fun σ => by
      rw [seti_lst hl (ixN_nat (by simpa [intsL] using hlt))]
      simp [intsL, List.map_set]
    simp only [hFs] at hH
    split at hc
    · rename_i hv
      cases hc
      refine ⟨?_, rfl⟩
      rcases hv with rfl | rfl
      · simp [d39, hH, hx, hs, -setiV_ref]
      · simp [d39, hH, hx, hs, -setiV_ref]
    · rename_i hv
      cases hc
      simp only [not_or] at hv
      refine ⟨?_, rfl⟩
      have v1 : ¬ (-1 = v) := fun e => hv.1 e.symm
      have v2 : ¬ (h = v) := fun e => hv.2 e.symm
      simp [d39, hH, hx, v1, v2]
theorem peak_ok (hi : i.1 < 25) (hH : L.at_ H = some (.ins 2 (hFs code pk lv s))) (hp : L.at_ pk = some (.lst (intsL peaks))) (hc : peakF s i h peaks = some s') :
    ∃ L', run mo.pg (k + 1) 38 [.ref H, insLV nS i, .int h] L = .ok .non L' ∧ L'.n = L.n ∧ L'.at_ H = some (.ins 2 (hFs code pk lv s')) ∧ s'.lev = s.lev ∧ ∀ z, z ≠ H → L'.at_ z = L.at_ z := by
  have e22 := nS_eq hi (show 22 < 25 by omega)
  rw [show nS 22 = cs 22 from rfl] at e22
  have f1 : mo.fld 2 1 = true := rfl
  rw [Mo.run_succ (d := d38) rfl rfl]
  simp only [hFs] at hH
  unfold peakF at hc
  split at hc
  · rename_i h1
    have q22 := e22.trans (eq_true h1)
    cases e0 : i.2[0]? with
    | none => rw [e0] at hc; simp at hc
    | some a =>
      rw [e0] at hc
      simp only [Option.bind_some] at hc
      cases ep : peaks[a]? with
      | none => rw [ep] at hc; simp at hc
      | some q =>
        rw [ep] at hc
        simp only [Option.map_some, Option.some.injEq] at hc
        have hx : idxV (.ref pk) (.int (a : Int)) L = .ok (.int q) L := by
          rw [idx_lst hp]
          exact atX_some (by rw [atI_nat]; unfold intsL; rw [List.getElem?_map, ep]; rfl)
        by_cases hl : s.peak < h + q
        · rw [if_pos hl] at hc
          subst hc
          exact ⟨L.put H (.ins 2 (hFs code pk lv { s with peak := h + q })), by simp [d38, insLV, q22, arg0 e0, hH, hx, hl, f1, hFs], rfl, by simp, rfl, fun z hz => put_ne hz⟩
        · rw [if_neg hl] at hc
          subst hc
          exact ⟨L, by simp [d38, insLV, q22, arg0 e0, hH, hx, hl], rfl, by simp only [hFs]; exact hH, rfl, fun z hz => rfl⟩
  · rename_i h1
    have q22 := e22.trans (eq_false h1)
    simp only [Option.some.injEq] at hc
    by_cases hl : s.peak < h
    · rw [if_pos hl] at hc
      subst hc
      exact ⟨L.put H (.ins 2 (hFs code pk lv { s with peak := h })), by simp [d38, insLV, q22, hH, hl, f1, hFs], rfl, by simp, rfl, fun z hz => put_ne hz⟩
    · rw [if_neg hl] at hc
      subst hc
      exact ⟨L, by simp [d38, insLV, q22, hH, hl], rfl, by simp only [hFs]; exact hH, rfl, fun z hz => rfl⟩
/-- a Heights object -/
structure HR (L : LH) (H pk lv : Nat) (code : List Ins) (peaks : List Int) (s : HS) : Prop where
  o : L.at_ H = some (.ins 2 (hFs code pk lv s))
  p : L.at_ pk = some (.lst (intsL peaks))
  l : L.at_ lv = some (.lst (intsL s.lev))
  n1 : H ≠ pk
  n2 : H ≠ lv
  n3 : pk ≠ lv
theorem HR.put (R : HR L H pk lv code peaks s) {l : List Int} : HR (L.put lv (.lst (intsL l))) H pk lv code peaks { s with lev := l } :=
  ⟨by rw [put_ne R.n2]; exact R.o, by rw [put_ne R.n3]; exact R.p, by simp, R.n1, R.n2, R.n3⟩
theorem hand_R {n : Nat} {b : Bool} (R : HR L H pk lv code peaks s) (hc : handF s n h = some (b, s')) :
    ∃ L', run mo.pg (k + 1) 39 [.ref H, .int (n : Int), .int h] L = .ok (.bl b) L' ∧ L'.n = L.n ∧ HR L' H pk lv code peaks s' ∧ ∀ z, z ≠ H → z ≠ lv → L'.at_ z = L.at_ z := by
  obtain ⟨e1, _⟩ := hand_ok (k := k) R.o R.l hc
  refine ⟨_, e1, by split <;> rfl, ?_, fun z _ h2 => by split <;> first | exact put_ne h2 | rfl⟩
  unfold handF at hc
  cases ev : s.lev[n]? with
  | none => rw [ev] at hc; simp at hc
  | some v =>
    rw [ev] at hc
    simp only [Option.map_some, Option.some.injEq] at hc
    split at hc
    · cases hc
      rw [if_pos rfl]
      exact R.put
    · cases hc
      rw [if_neg Bool.false_ne_true]
      exact R
def vTail : LSs := match d37.body with
  | .cons _ (.cons _ (.cons _ (.cons _ (.cons _ (.cons _ (.cons _ s)))))) => s
  | _ => .nil
theorem visit_ok {n : Nat} {b : Bool} (hop : ∀ i ∈ code, i.1 < 25) (R : HR L H pk lv code peaks s) (hc : visitF code peaks s n = some (b, s')) :
    ∃ L', run mo.pg (k + 3) 37 [.ref H, .int (n : Int)] L = .ok (.bl b) L' ∧ L'.n = L.n ∧ HR L' H pk lv code peaks s' ∧ ∀ z, z ≠ H → z ≠ lv → L'.at_ z = L.at_ z := by
  rw [Mo.run_succ (d := d37) rfl rfl]
  have hb : d37.body = .cons (.set 2 (.idx (.fld (.var 0) 27) (.var 1))) (.cons (.ifs (.cmp .lt (.var 2) (.con (.int 0))) (.cons (.ret (.con (.bl true))) .nil) .nil) (.cons (.set 3 (.idx (.fld (.var 0) 17) (.var 1))) (.cons (.set 4 (.idx (.var 3) (.con (.int 0))))
    (.cons (.ifs (.not (.call 8 (.cons (.var 3) (.cons (.var 2) (.cons (.fld (.var 0) 28) .nil))))) (.cons (.ret (.con (.bl false))) .nil) .nil)
    (.cons (.expr (.meth (.var 0) 30 (.cons (.var 3) (.cons (.var 2) .nil)))) (.cons (.set 5 (.bin .add (.bin .sub (.var 2) (.call 3 (.cons (.var 4) .nil))) (.call 4 (.cons (.var 4) .nil)))) vTail)))))) := rfl
  rw [hb]
  have hO := R.o
  simp only [hFs] at hO
  unfold visitF at hc
  cases ev : s.lev[n]? with
  | none => rw [ev] at hc; simp at hc
  | some h =>
    rw [ev] at hc
    simp only [Option.bind_some] at hc
    have hx : idxV (.ref lv) (.int (n : Int)) L = .ok (.int h) L := by
      rw [idx_lst R.l]
      exact atX_some (by rw [atI_nat]; unfold intsL; rw [List.getElem?_map, ev]; rfl)
    split at hc
    · rename_i h0
      cases hc
      exact ⟨L, by simp [d37, hO, hx, h0], rfl, R, fun _ _ _ => rfl⟩
    · rename_i h0
      cases ei : code[n]? with
      | none => rw [ei] at hc; simp at hc
      | some i =>
        rw [ei] at hc
        simp only [Option.bind_some] at hc
        have hi := hop i (List.mem_of_getElem? ei)
        have hcx : atX (code.map (insLV nS)) (n : Int) L = .ok (insLV nS i) L := atX_some (by rw [atI_nat, List.getElem?_map, ei]; rfl)
        cases ec : canF i h peaks with
        | none => rw [ec] at hc; simp at hc
        | some can =>
          rw [ec] at hc
          simp only [Option.bind_some] at hc
          have hcan := can_ok (k := k) (b := can) hi R.p ec
          simp only [insLV] at hcan
          split at hc
          · rename_i hf
            subst hf
            cases hc
            exact ⟨L, by simp [d37, hO, hx, h0, codeLV, hcx, insLV, hcan], rfl, R, fun _ _ _ => rfl⟩
          · rename_i hf
            have hft : can = true := by cases can <;> simp_all
            subst hft
            cases es : peakF s i h peaks with
            | none => rw [es] at hc; simp at hc
            | some s1 =>
              rw [es] at hc
              simp only [Option.bind_some] at hc
              obtain ⟨L1, p1, p2, p3, p4, p5⟩ := peak_ok (k := k + 1) hi R.o R.p es
              have R1 : HR L1 H pk lv code peaks s1 := ⟨p3, by rw [p5 _ (Ne.symm R.n1)]; exact R.p, by rw [p5 _ (Ne.symm R.n2), p4]; exact R.l, R.n1, R.n2, R.n3⟩
              have ht := tk_nS (L := L1) (k := k + 1) hi
              have hpu := pu_nS (L := L1) (k := k + 1) hi
              have hme : mo.mth 2 30 = some 38 := rfl
              simp only [insLV] at p1
              have pre : ∀ o, endOf (evSs (mo.F (k + 2)) vTail [some (.ref H), some (.int (n : Int)), some (.int h), some (insLV nS i), some (.str (nS i.1)), some (.int (h - tkF i.1 + puF i.1))] L1) = o →
                  endOf (evSs (mo.F (k + 2)) (.cons (.set 2 (.idx (.fld (.var 0) 27) (.var 1))) (.cons (.ifs (.cmp .lt (.var 2) (.con (.int 0))) (.cons (.ret (.con (.bl true))) .nil) .nil) (.cons (.set 3 (.idx (.fld (.var 0) 17) (.var 1))) (.cons (.set 4 (.idx (.var 3) (.con (.int 0))))
                    (.cons (.ifs (.not (.call 8 (.cons (.var 3) (.cons (.var 2) (.cons (.fld (.var 0) 28) .nil))))) (.cons (.ret (.con (.bl false))) .nil) .nil)
                    (.cons (.expr (.meth (.var 0) 30 (.cons (.var 3) (.cons (.var 2) .nil)))) (.cons (.set 5 (.bin .add (.bin .sub (.var 2) (.call 3 (.cons (.var 4) .nil))) (.call 4 (.cons (.var 4) .nil)))) vTail))))))) [some (.ref H), some (.int (n : Int)), none, none, none, none] L) = o := by
                rintro o rfl
                generalize vTail = V
                simp [hO, hx, h0, codeLV, hcx, insLV, hcan, hme, p1, ht, hpu]
              have h400 : mo.pg.glo 8 = some (.int 400) := rfl
              have hmh : mo.mth 2 29 = some 39 := rfl
              have e20 := nS_eq hi (show 20 < 25 by omega)
              have e21 := nS_eq hi (show 21 < 25 by omega)
              have e24 := nS_eq hi (show 24 < 25 by omega)
              rw [show nS 20 = cs 20 from rfl] at e20
              rw [show nS 21 = cs 21 from rfl] at e21
              rw [show nS 24 = cs 24 from rfl] at e24
              have hO1 := R1.o
              simp only [hFs] at hO1
              split at hc
              · rename_i hg
                cases hc
                exact ⟨L1, pre _ (by simp [vTail, d37, h400, hg]), p2, R1, fun z z1 _ => p5 z z1⟩
              · rename_i hg
                split at hc
                · rename_i c20
                  have q20 := e20.trans (eq_true c20)
                  cases e0 : i.2[0]? with
                  | none => rw [e0] at hc; simp at hc
                  | some a =>
                    rw [e0] at hc
                    simp only [Option.bind_some] at hc
                    obtain ⟨L2, q1, q2, q3, q4⟩ := hand_R (k := k + 1) R1 hc
                    rw [show ((n + 1 + a : Nat) : Int) = (n : Int) + 1 + (a : Int) by omega] at q1
                    exact ⟨L2, pre _ (by simp [vTail, d37, h400, hg, q20, hO1, hmh, insLV, arg0 e0, q1]), q2.trans p2, q3, fun z z1 z2 => (q4 z z1 z2).trans (p5 z z1)⟩
                · rename_i c20
                  have q20 := e20.trans (eq_false c20)
                  split at hc
                  · rename_i c21
                    have q21 := e21.trans (eq_true c21)
                    have c24 : ¬ i.1 = 24 := by omega
                    have q24 := e24.trans (eq_false c24)
                    cases e0 : i.2[0]? with
                    | none => rw [e0] at hc; simp at hc
                    | some a =>
                      rw [e0] at hc
                      simp only [Option.bind_some] at hc
                      cases eh : handF s1 (n + 1 + a) (h - tkF i.1 + puF i.1) with
                      | none => rw [eh] at hc; simp at hc
                      | some rr =>
                        obtain ⟨b2, s2⟩ := rr
                        rw [eh] at hc
                        simp only [Option.bind_some] at hc
                        obtain ⟨L2, q1, q2, q3, q4⟩ := hand_R (k := k + 1) R1 eh
                        rw [show ((n + 1 + a : Nat) : Int) = (n : Int) + 1 + (a : Int) by omega] at q1
                        split at hc
                        · rename_i hb2
                          subst hb2
                          cases hc
                          exact ⟨L2, pre _ (by simp [vTail, d37, h400, hg, q20, q21, hO1, hmh, insLV, arg0 e0, q1]), q2.trans p2, q3, fun z z1 z2 => (q4 z z1 z2).trans (p5 z z1)⟩
                        · rename_i hb2
                          have hb3 : b2 = true := by cases b2 <;> simp_all
                          subst hb3
                          obtain ⟨L3, r1, r2, r3, r4⟩ := hand_R (k := k + 1) q3 hc
                          rw [show ((n + 1 : Nat) : Int) = (n : Int) + 1 by omega] at r1
                          have hO2 := q3.o
                          simp only [hFs] at hO2
                          exact ⟨L3, pre _ (by simp [vTail, d37, h400, hg, q20, q21, q24, hO1, hO2, hmh, insLV, arg0 e0, q1, r1]), r2.trans (q2.trans p2), r3, fun z z1 z2 => (r4 z z1 z2).trans ((q4 z z1 z2).trans (p5 z z1))⟩
                  · rename_i c21
                    have q21 := e21.trans (eq_false c21)
                    split at hc
                    · rename_i c24
                      have q24 := e24.trans (eq_true c24)
                      cases hc
                      exact ⟨L1, pre _ (by simp [vTail, d37, h400, hg, q20, q21, q24]), p2, R1, fun z z1 _ => p5 z z1⟩
                    · rename_i c24
                      have q24 := e24.trans (eq_false c24)
                      obtain ⟨L2, q1, q2, q3, q4⟩ := hand_R (k := k + 1) R1 hc
                      rw [show ((n + 1 : Nat) : Int) = (n : Int) + 1 by omega] at q1
                      exact ⟨L2, pre _ (by simp [vTail, d37, h400, hg, q20, q21, q24, hO1, hmh, q1]), q2.trans p2, q3, fun z z1 z2 => (q4 z z1 z2).trans (p5 z z1)⟩
end
end K87
end

section
set_option Elab.async false
set_option linter.all false
set_option maxRecDepth 100000
set_option maxHeartbeats 4000000
/-! AU2: the audit, plain: findings. Words: 0 none, 1 form, 2 cell, 3 hop, 4 call, 5 height, 6 table, 7 size, 8 end, 9 long, 10 plan. -/
namespace LM
def fitF (im : Img) (s c sh : Nat) : Option Bool :=
  if s ≤ c then some false else (im.segs[s]?).bind fun g => (im.segs[c]?).bind fun h => (im.tables[g.1]?).bind fun t => (im.tables[h.1]?).map fun u => decide ((t.drop sh).take u.length = u)
def wordF (im : Img) (s n : Nat) : Option Nat := (im.segs[s]?).bind fun g => (g.2[n]?).bind fun i =>
  if i.1 = 0 then (i.2[0]?).map fun a => if 999999 < a then 1 else 0
  else if i.1 = 23 then (i.2[0]?).map fun a => if 1 ≤ a ∧ a ≤ 999 then 0 else 1
  else if i.1 = 1 ∨ i.1 = 2 then (i.2[0]?).bind fun a => (im.tables[g.1]?).map fun t => if t.length ≤ a then 2 else 0
  else if i.1 = 20 ∨ i.1 = 21 then (i.2[0]?).map fun a => if g.2.length ≤ n + 1 + a then 3 else 0
  else if i.1 = 22 then (i.2[0]?).bind fun c => (i.2[1]?).bind fun sh => (fitF im s c sh).map fun b => if b = true then 0 else 4
  else some 0
def codeF (im : Img) (s : Nat) (code : List Ins) (peaks : List Int) : List Nat → HS → Option (Option (Nat × Nat) × HS)
  | [], st => some (none, st)
  | n :: ns, st => (wordF im s n).bind fun w => if w = 0 then (visitF code peaks st n).bind fun r => if r.1 = true then codeF im s code peaks ns r.2 else some (some (n, 5), r.2) else some (some (n, w), st)
def outF (im : Img) (s : Nat) : Option (Option (Int × Nat)) := (im.segs[s]?).bind fun g =>
  if im.tables.length ≤ g.1 then some (some (-1, 6))
  else if g.2.length = 0 ∨ 400000 < g.2.length then some (some (-1, 7))
  else (g.2.getLast?).map fun i => if i.1 = 24 then none else some ((g.2.length : Int) - 1, 8)
/-- the bounds of the called segments -/
def calB (bounds : List Int) : List Ins → Option (List Int)
  | [] => some []
  | i :: r => if i.1 = 22 then (i.2[0]?).bind fun a => (bounds[a]?).bind fun b => (calB bounds r).map fun l => b :: l else calB bounds r
def stepF (code : List Ins) (bounds : List Int) : Option Int := (calB bounds code).map fun l => (code.length : Int) + l.sum
def initH (code : List Ins) : HS := ⟨0, (List.replicate code.length (-1)).set 0 0⟩
/-- a finding: segment, index, word -/
abbrev Fd := Int × Int × Nat
def audF (im : Img) : List Nat → List Int → List Int → Option (Option Fd × List Int)
  | [], _, bounds => some (none, bounds)
  | s :: ss, peaks, bounds => (outF im s).bind fun o => match o with
    | some f => some (some ((s : Int), f.1, f.2), bounds)
    | none => (im.segs[s]?).bind fun g => (codeF im s g.2 peaks (List.range g.2.length) (initH g.2)).bind fun r => match r.1 with
      | some f => some (some ((s : Int), (f.1 : Int), f.2), bounds)
      | none => (stepF g.2 bounds).bind fun b => if 2000000 < b then some (some ((s : Int), -1, 9), bounds ++ [b]) else audF im ss (peaks ++ [r.2.peak]) (bounds ++ [b])
def planF (im : Img) : Bool := im.plan.any fun p => p.any fun a => decide (im.segs.length ≤ a)
def auditF (im : Img) : Option (Option Fd) := (audF im (List.range im.segs.length) [] []).map fun r => match r.1 with
  | some f => some f
  | none => if planF im = true then some (-1, -1, 10) else none
def bndsF : List (Nat × List Ins) → List Int → Option (List Int)
  | [], bounds => some bounds
  | g :: gs, bounds => (stepF g.2 bounds).bind fun b => bndsF gs (bounds ++ [b])
end LM
end

section
set_option Elab.async false
set_option linter.all false
set_option maxRecDepth 100000
set_option maxHeartbeats 4000000
namespace K87
open PySem LG LM
/-- words of findings -/
def wd (w : Nat) : Str := cs ([25, 27, 26, 20, 22, 28, 31, 30, 29, 33, 32].getD w 0)
theorem dats_tab : ∀ (t : List (Int × Bool)), dats (t.map fun p => LV.tup [.int p.1, .bl p.2]) = some (t.map fun p => PyData.tuple [.int p.1, .bool p.2])
  | [] => rfl
  | p :: t => by
    rw [List.map_cons, dats, dats_tab t]
    rfl
theorem lay_tab : ∀ (t : List (Int × Bool)), PyData.canLayAll0 (t.map fun p => PyData.tuple [.int p.1, .bool p.2]) = true ∧ PyData.depthAll (t.map fun p => PyData.tuple [.int p.1, .bool p.2]) ≤ 1
  | [] => ⟨rfl, Nat.zero_le _⟩
  | p :: t => by
    obtain ⟨a, b⟩ := lay_tab t
    refine ⟨?_, ?_⟩
    · rw [List.map_cons, PyData.canLayAll0, a]
      rfl
    · rw [List.map_cons, PyData.depthAll]
      exact Nat.max_le.mpr ⟨Nat.le_refl _, b⟩
theorem eqv_tab : ∀ (t u : List (Int × Bool)), PyData.eqvAll (t.map fun p => PyData.tuple [.int p.1, .bool p.2]) (u.map fun p => PyData.tuple [.int p.1, .bool p.2]) = decide (t = u)
  | [], [] => rfl
  | [], _ :: _ => rfl
  | _ :: _, [] => rfl
  | (i, b) :: t, (j, c) :: u => by
    rw [List.map_cons, List.map_cons, PyData.eqvAll, eqv_tab t u]
    simp [PyData.eqv, PyData.eqvAll]
    by_cases h1 : i = j <;> by_cases h2 : b = c <;> simp [h1, h2]
theorem tab_eq {t u : List (Int × Bool)} {L : LH} : cmpV L .eq (tabLV t) (tabLV u) = some (decide (t = u)) := by
  have e : ∀ t : List (Int × Bool), datL L (tabLV t) = some (.tuple (t.map fun p => PyData.tuple [.int p.1, .bool p.2])) := fun t => by
    show (dats (t.map fun p => LV.tup [.int p.1, .bl p.2])).map PyData.tuple = _
    rw [dats_tab]; rfl
  have sh : ∀ t : List (Int × Bool), PySem.SeqAt.shaped (.tuple (t.map fun p => PyData.tuple [.int p.1, .bool p.2])) = true := fun t => by
    obtain ⟨a, b⟩ := lay_tab t
    unfold PySem.SeqAt.shaped
    rw [PyData.canLay0, a, PyData.depth]
    simp
    omega
  rw [cmp_eq_def]
  show (datL L (tabLV t)).bind (fun d => (datL L (tabLV u)).bind fun e => if PySem.SeqAt.shaped d = true ∧ PySem.SeqAt.shaped e = true then some (PyData.eqv d e) else none) = _
  rw [e, e, Option.bind_some, Option.bind_some, if_pos ⟨sh t, sh u⟩, PyData.eqv, eqv_tab]
section
variable {L : LH} {k s n : Nat} {im : Img} {g : Nat × List Ins}
theorem seg_x (h : im.segs[s]? = some g) : atX (im.segs.map (segLV nS)) (s : Int) L = .ok (segLV nS g) L := atX_some (by rw [atI_nat, List.getElem?_map, h]; rfl)
theorem tab_x {t : List (Int × Bool)} (h : im.tables[n]? = some t) : atX (im.tables.map tabLV) (n : Int) L = .ok (tabLV t) L := atX_some (by rw [atI_nat, List.getElem?_map, h]; rfl)
theorem ins_x {code : List Ins} {i : Ins} (h : code[n]? = some i) : atX (code.map (insLV nS)) (n : Int) L = .ok (insLV nS i) L := atX_some (by rw [atI_nat, List.getElem?_map, h]; rfl)
theorem fits_ok {c sh : Nat} {b : Bool} {i : Ins} (e0 : i.2[0]? = some c) (e1 : i.2[1]? = some sh) (hc : fitF im s c sh = some b) :
    run mo.pg (k + 1) 9 [imgLV nS im, .int (s : Int), insLV nS i] L = .ok (.bl b) L := by
  rw [Mo.run_succ (d := d9) rfl rfl]
  unfold fitF at hc
  split at hc
  · rename_i h
    cases hc
    simp [d9, imgLV, insLV, arg0 e0, arg1 e1, h]
  · rename_i h
    cases eg : im.segs[s]? with
    | none => rw [eg] at hc; cases hc
    | some g =>
      rw [eg, Option.bind_some] at hc
      cases eh : im.segs[c]? with
      | none => rw [eh] at hc; cases hc
      | some g2 =>
        rw [eh, Option.bind_some] at hc
        cases et : im.tables[g.1]? with
        | none => rw [et] at hc; cases hc
        | some t =>
          rw [et, Option.bind_some] at hc
          cases eu : im.tables[g2.1]? with
          | none => rw [eu] at hc; cases hc
          | some u =>
            rw [eu, Option.map_some] at hc
            cases hc
            have hlen : ∀ L : LH, bfV .len [tabLV u] L = .ok (.int u.length) L := fun L => by
              show Out.ok (LV.int ((u.map _).length : Nat)) L = _
              rw [List.length_map]
            have hsl : ∀ L : LH, slcV (tabLV t) (some (sh : Int)) (some ((sh : Int) + (u.length : Int))) L = .ok (tabLV ((t.drop sh).take u.length)) L := fun L => by
              unfold tabLV
              rw [slc_tup, cut_nn, ← List.map_drop, ← List.map_take]
            have heq := fun L : LH => tab_eq (L := L) (t := (t.drop sh).take u.length) (u := u)
            have x1 := fun L : LH => seg_x (L := L) eg
            have x2 := fun L : LH => seg_x (L := L) eh
            have x3 := fun L : LH => tab_x (L := L) et
            have x4 := fun L : LH => tab_x (L := L) eu
            simp [d9, imgLV, insLV, arg0 e0, arg1 e1, h, x1, x2, segLV, x3, x4, hlen, hsl, heq, isNon]
theorem nS_beq {a b : Nat} (ha : a < 25) (hb : b < 25) (h : b ≠ a) : (nS b == nS a) = false := by
  rw [beq_eq_false_iff_ne]
  exact fun e => h (nS_inj hb ha e)
theorem word_ok {w : Nat} (hop : ∀ g ∈ im.segs, ∀ i ∈ g.2, i.1 < 25) (hc : wordF im s n = some w) :
    run mo.pg (k + 2) 10 [imgLV nS im, .int (s : Int), .int (n : Int)] L = .ok (.str (wd w)) L := by
  rw [Mo.run_succ (d := d10) rfl rfl]
  unfold wordF at hc
  cases eg : im.segs[s]? with
  | none => rw [eg] at hc; cases hc
  | some g =>
    rw [eg, Option.bind_some] at hc
    cases ei : g.2[n]? with
    | none => rw [ei] at hc; cases hc
    | some i =>
      rw [ei, Option.bind_some] at hc
      have hi := hop g (List.mem_of_getElem? eg) i (List.mem_of_getElem? ei)
      have x1 := fun L : LH => seg_x (L := L) eg
      have x2 := fun L : LH => ins_x (L := L) ei
      have g6 : mo.pg.glo 6 = some (.tup [.str (cs 20), .str (cs 21)]) := rfl
      have g7 : mo.pg.glo 7 = some (.int 999) := rfl
      have g11 : mo.pg.glo 11 = some (.int 999999) := rfl
      have hcl : ∀ L : LH, bfV .len [codeLV nS g.2] L = .ok (.int g.2.length) L := fun L => by
        show Out.ok (LV.int ((g.2.map _).length : Nat)) L = _
        rw [List.length_map]
      obtain ⟨o, as⟩ := i
      dsimp only at hc hi
      by_cases h0 : o = 0
      · subst h0
        rw [if_pos rfl] at hc
        cases e0 : as[0]? with
        | none => rw [e0] at hc; cases hc
        | some a =>
          rw [e0, Option.map_some] at hc
          cases hc
          have a0 := fun (x : LV) (L : LH) => arg0 (i := (0, as)) (x := x) (L := L) e0
          dsimp only at a0
          by_cases hq : 999999 < a
          · have hq2 : (999999 : Int) < a := by omega
            simp [d10, imgLV, x1, segLV, codeLV, x2, insLV, nS, g6, g7, g11, a0, wd, hq, hq2]
          · have hq2 : ¬ (999999 : Int) < a := by omega
            simp [d10, imgLV, x1, segLV, codeLV, x2, insLV, nS, g6, g7, g11, a0, wd, hq, hq2]
      · rw [if_neg h0] at hc
        by_cases h23 : o = 23
        · subst h23
          rw [if_pos rfl] at hc
          cases e0 : as[0]? with
          | none => rw [e0] at hc; cases hc
          | some a =>
            rw [e0, Option.map_some] at hc
            cases hc
            have a0 := fun (x : LV) (L : LH) => arg0 (i := (23, as)) (x := x) (L := L) e0
            dsimp only at a0
            by_cases hq : 1 ≤ a
            · have hq1 : (1 : Int) ≤ a := by omega
              by_cases hr : a ≤ 999
              · have hr1 : (a : Int) ≤ 999 := by omega
                simp [d10, imgLV, x1, segLV, codeLV, x2, insLV, nS, g6, g7, g11, a0, wd, hq, hq1, hr, hr1]
              · have hr1 : ¬ (a : Int) ≤ 999 := by omega
                simp [d10, imgLV, x1, segLV, codeLV, x2, insLV, nS, g6, g7, g11, a0, wd, hq, hq1, hr, hr1]
            · have hq1 : ¬ (1 : Int) ≤ a := by omega
              simp [d10, imgLV, x1, segLV, codeLV, x2, insLV, nS, g6, g7, g11, a0, wd, hq, hq1]
        · rw [if_neg h23] at hc
          by_cases h12 : o = 1 ∨ o = 2
          · rw [if_pos h12] at hc
            cases e0 : as[0]? with
            | none => rw [e0] at hc; cases hc
            | some a =>
              rw [e0, Option.bind_some] at hc
              cases et : im.tables[g.1]? with
              | none => rw [et] at hc; cases hc
              | some t =>
                rw [et, Option.map_some] at hc
                cases hc
                have a0 := fun (x : LV) (L : LH) => arg0 (i := (o, as)) (x := x) (L := L) e0
                have x3 := fun L : LH => tab_x (L := L) et
                have hlen : ∀ L : LH, bfV .len [tabLV t] L = .ok (.int t.length) L := fun L => by
                  show Out.ok (LV.int ((t.map _).length : Nat)) L = _
                  rw [List.length_map]
                dsimp only at a0
                by_cases hq : t.length ≤ a
                · have hq2 : (t.length : Int) ≤ a := by omega
                  rcases h12 with rfl | rfl <;> simp [d10, imgLV, x1, segLV, codeLV, x2, insLV, nS, g6, g7, g11, a0, wd, hq, hq2, x3, hlen]
                · have hq2 : ¬ (t.length : Int) ≤ a := by omega
                  rcases h12 with rfl | rfl <;> simp [d10, imgLV, x1, segLV, codeLV, x2, insLV, nS, g6, g7, g11, a0, wd, hq, hq2, x3, hlen]
          · rw [if_neg h12] at hc
            by_cases h20 : o = 20 ∨ o = 21
            · rw [if_pos h20] at hc
              cases e0 : as[0]? with
              | none => rw [e0] at hc; cases hc
              | some a =>
                rw [e0, Option.map_some] at hc
                cases hc
                have a0 := fun (x : LV) (L : LH) => arg0 (i := (o, as)) (x := x) (L := L) e0
                dsimp only at a0
                simp only [codeLV] at hcl
                by_cases hq : g.2.length ≤ n + 1 + a
                · have hq2 : (g.2.length : Int) ≤ (n : Int) + 1 + a := by omega
                  rcases h20 with rfl | rfl <;> simp [d10, imgLV, x1, segLV, codeLV, x2, insLV, nS, g6, g7, g11, a0, wd, hq, hq2]
                · have hq2 : ¬ (g.2.length : Int) ≤ (n : Int) + 1 + a := by omega
                  rcases h20 with rfl | rfl <;> simp [d10, imgLV, x1, segLV, codeLV, x2, insLV, nS, g6, g7, g11, a0, wd, hq, hq2]
            · rw [if_neg h20] at hc
              by_cases h22 : o = 22
              · subst h22
                rw [if_pos rfl] at hc
                cases e0 : as[0]? with
                | none => rw [e0] at hc; cases hc
                | some c =>
                  rw [e0, Option.bind_some] at hc
                  cases e1 : as[1]? with
                  | none => rw [e1] at hc; cases hc
                  | some sh =>
                    rw [e1, Option.bind_some] at hc
                    cases ef : fitF im s c sh with
                    | none => rw [ef] at hc; cases hc
                    | some b =>
                      rw [ef, Option.map_some] at hc
                      cases hc
                      have hf := fun L : LH => fits_ok (k := k) (L := L) (i := (22, as)) e0 e1 ef
                      simp only [imgLV, insLV, show nS 22 = cs 22 from rfl] at hf
                      cases b <;> simp [d10, imgLV, x1, segLV, codeLV, x2, insLV, nS, g6, g7, g11, wd, hf]
              · rw [if_neg h22] at hc
                cases hc
                have q0 : (nS o = cs 0) = False := eq_false fun e => h0 (nS_inj hi (by omega) e)
                have q23 : (nS o = cs 23) = False := eq_false fun e => h23 (nS_inj hi (by omega) e)
                have q22 : (nS o = cs 22) = False := eq_false fun e => h22 (nS_inj hi (by omega) e)
                have p1 : (cs 1 == nS o) = false := nS_beq hi (show 1 < 25 by omega) (by omega)
                have p2 : (cs 2 == nS o) = false := nS_beq hi (show 2 < 25 by omega) (by omega)
                have p3 : (cs 20 == nS o) = false := nS_beq hi (show 20 < 25 by omega) (by omega)
                have p4 : (cs 21 == nS o) = false := nS_beq hi (show 21 < 25 by omega) (by omega)
                simp [d10, imgLV, x1, segLV, codeLV, x2, insLV, g6, g7, g11, wd, q0, q23, q22, p1, p2, p3, p4]
end
end K87
end

section
set_option Elab.async false
set_option linter.all false
set_option maxRecDepth 100000
set_option maxHeartbeats 4000000
namespace K87
open PySem LG LM
theorem wordF_le {im : Img} {s n w : Nat} (h : wordF im s n = some w) : w ≤ 4 := by
  unfold wordF at h
  cases eg : im.segs[s]? with
  | none => rw [eg] at h; cases h
  | some g =>
    rw [eg, Option.bind_some] at h
    cases ei : g.2[n]? with
    | none => rw [ei] at h; cases h
    | some i =>
      rw [ei, Option.bind_some] at h
      split at h
      · cases e0 : i.2[0]? with
        | none => rw [e0] at h; cases h
        | some a => rw [e0, Option.map_some] at h; cases h; split <;> omega
      · split at h
        · cases e0 : i.2[0]? with
          | none => rw [e0] at h; cases h
          | some a => rw [e0, Option.map_some] at h; cases h; split <;> omega
        · split at h
          · cases e0 : i.2[0]? with
            | none => rw [e0] at h; cases h
            | some a =>
              rw [e0, Option.bind_some] at h
              cases et : im.tables[g.1]? with
              | none => rw [et] at h; cases h
              | some t => rw [et, Option.map_some] at h; cases h; split <;> omega
          · split at h
            · cases e0 : i.2[0]? with
              | none => rw [e0] at h; cases h
              | some a => rw [e0, Option.map_some] at h; cases h; split <;> omega
            · split at h
              · cases e0 : i.2[0]? with
                | none => rw [e0] at h; cases h
                | some c =>
                  rw [e0, Option.bind_some] at h
                  cases e1 : i.2[1]? with
                  | none => rw [e1] at h; cases h
                  | some sh =>
                    rw [e1, Option.bind_some] at h
                    cases ef : fitF im s c sh with
                    | none => rw [ef] at h; cases h
                    | some b => rw [ef, Option.map_some] at h; cases h; split <;> omega
              · cases h; omega
theorem wd_ne {w : Nat} (h : w ≠ 0) (h2 : w ≤ 10) : (wd w = cs 25) = False := by
  have : w = 1 ∨ w = 2 ∨ w = 3 ∨ w = 4 ∨ w = 5 ∨ w = 6 ∨ w = 7 ∨ w = 8 ∨ w = 9 ∨ w = 10 := by omega
  rcases this with rfl | rfl | rfl | rfl | rfl | rfl | rfl | rfl | rfl | rfl <;> simp [wd]
def cfB : LSs := match d11.body with
  | .cons (.for _ _ b) _ => b
  | _ => .nil
def fdR (s : Nat) : Option (Nat × Nat) → Fl
  | none => .nx
  | some f => .ret (.tup [.int (s : Int), .int (f.1 : Int), .str (wd f.2)])
section
variable {k s : Nat} {im : Img} {g : Nat × List Ins} {H pk lv : Nat} {peaks : List Int}
theorem code_loop {S : List LV} (hop : ∀ g ∈ im.segs, ∀ i ∈ g.2, i.1 < 25) (hg : im.segs[s]? = some g) : ∀ (ns : List Nat) (st st' : HS) (L : LH) (x y : Option LV) (o : Option (Nat × Nat)), HR L H pk lv g.2 peaks st → codeF im s g.2 peaks ns st = some (o, st') →
    ∃ L' x' y', forL (.vals S) (forB (mo.F (k + 3)) (.name 3) cfB) (ns.map fun (n : Nat) => LV.int (n : Int)) [some (imgLV nS im), some (.int (s : Int)), some (.ref H), x, y] L
      = .ok (fdR s o, [some (imgLV nS im), some (.int (s : Int)), some (.ref H), x', y']) L' ∧ L'.n = L.n ∧ HR L' H pk lv g.2 peaks st' ∧ ∀ z, z ≠ H → z ≠ lv → L'.at_ z = L.at_ z
  | [], st, st', L, x, y, o, R, hc => by
    cases hc
    exact ⟨L, x, y, forV_nil, rfl, R, fun _ _ _ => rfl⟩
  | n :: ns, st, st', L, x, y, o, R, hc => by
    rw [codeF] at hc
    cases ew : wordF im s n with
    | none => rw [ew] at hc; cases hc
    | some w =>
      rw [ew, Option.bind_some] at hc
      have hw := word_ok (k := k + 1) (L := L) hop ew
      have hle := wordF_le ew
      rw [List.map_cons, forV_cons]
      split at hc
      · rename_i h0
        subst h0
        cases ev : visitF g.2 peaks st n with
        | none => rw [ev] at hc; cases hc
        | some r =>
          obtain ⟨b, s1⟩ := r
          rw [ev, Option.bind_some] at hc
          obtain ⟨L1, v1, v2, v3, v4⟩ := visit_ok (k := k) (fun i hi => hop g (List.mem_of_getElem? hg) i hi) R ev
          have hO := R.o
          simp only [hFs] at hO
          have hme : mo.mth 2 0 = some 37 := rfl
          dsimp only at hc
          cases b with
          | true =>
            rw [if_pos rfl] at hc
            obtain ⟨L2, x', y', e1, e2, e3, e4⟩ := code_loop (S := S) hop hg ns s1 st' L1 (some (.int (n : Int))) (some (.str (wd 0))) o v3 hc
            refine ⟨L2, x', y', ?_, e2.trans v2, e3, fun z h1 h2 => (e4 z h1 h2).trans (v4 z h1 h2)⟩
            have hb : forB (mo.F (k + 3)) (.name 3) cfB (.int (n : Int)) [some (imgLV nS im), some (.int (s : Int)), some (.ref H), x, y] L = .ok (.nx, [some (imgLV nS im), some (.int (s : Int)), some (.ref H), some (.int (n : Int)), some (.str (wd 0))]) L1 := by
              simp [forB, cfB, d11, hw, hO, hme, v1, wd]
            rw [hb, turn_nx]
            exact e1
          | false =>
            rw [if_neg Bool.false_ne_true] at hc
            cases hc
            have hb : forB (mo.F (k + 3)) (.name 3) cfB (.int (n : Int)) [some (imgLV nS im), some (.int (s : Int)), some (.ref H), x, y] L = .ok (fdR s (some (n, 5)), [some (imgLV nS im), some (.int (s : Int)), some (.ref H), some (.int (n : Int)), some (.str (wd 5))]) L1 := by
              simp [forB, cfB, d11, hw, hO, hme, v1, wd, fdR]
            refine ⟨L1, some (.int (n : Int)), some (.str (wd 5)), ?_, v2, v3, v4⟩
            rw [hb]
            rfl
      · rename_i h0
        cases hc
        have hq := wd_ne h0 (by omega)
        have hb : forB (mo.F (k + 3)) (.name 3) cfB (.int (n : Int)) [some (imgLV nS im), some (.int (s : Int)), some (.ref H), x, y] L = .ok (fdR s (some (n, w)), [some (imgLV nS im), some (.int (s : Int)), some (.ref H), some (.int (n : Int)), some (.str (wd w))]) L := by
          simp [forB, cfB, d11, hw, hq, fdR]
        refine ⟨L, some (.int (n : Int)), some (.str (wd w)), ?_, rfl, R, fun _ _ _ => rfl⟩
        rw [hb]
        rfl
/-- what a search for findings tells -/
def fdV (s : Nat) : Option (Int × Nat) → LV
  | none => .non
  | some f => .tup [.int (s : Int), .int f.1, .str (wd f.2)]
theorem code_ok {st st' : HS} {L : LH} {o : Option (Nat × Nat)} (hop : ∀ g ∈ im.segs, ∀ i ∈ g.2, i.1 < 25) (hg : im.segs[s]? = some g) (hl : g.2.length < 1000000000) (R : HR L H pk lv g.2 peaks st) (hc : codeF im s g.2 peaks (List.range g.2.length) st = some (o, st')) :
    ∃ L', run mo.pg (k + 4) 11 [imgLV nS im, .int (s : Int), .ref H] L = .ok (fdV s (o.map fun f => ((f.1 : Int), f.2))) L' ∧ L'.n = L.n ∧ HR L' H pk lv g.2 peaks st' ∧ ∀ z, z ≠ H → z ≠ lv → L'.at_ z = L.at_ z := by
  rw [Mo.run_succ (d := d11) rfl rfl]
  have hb : d11.body = .cons (.for (.name 3) (.rng1 (.bf .len (.cons (.idx (.idx (.idx (.var 0) (.con (.int 1))) (.var 1)) (.con (.int 1))) .nil))) cfB) (.cons (.ret (.con .non)) .nil) := rfl
  rw [hb]
  have hrl : rngL 0 g.2.length = (List.range g.2.length).map fun (j : Nat) => LV.int (j : Int) := by unfold rngL; simp
  obtain ⟨L', x', y', e1, e2, e3, e4⟩ := code_loop (k := k) (S := rngL 0 g.2.length) hop hg (List.range g.2.length) st st' L none none o R hc
  rw [← hrl] at e1
  refine ⟨L', ?_, e2, e3, e4⟩
  have hcl : bfV .len [codeLV nS g.2] L = .ok (.int g.2.length) L := by
    show Out.ok (LV.int ((g.2.map _).length : Nat)) L = _
    rw [List.length_map]
  have x1 := seg_x (L := L) hg
  have hi : ∀ F, evI F (.rng1 (.bf .len (.cons (.idx (.idx (.idx (.var 0) (.con (.int 1))) (.var 1)) (.con (.int 1))) .nil))) [some (imgLV nS im), some (.int (s : Int)), some (.ref H), none, none] L = .ok (.vals (rngL 0 g.2.length)) L := fun F => i_rng1_nat (by simp [imgLV, x1, segLV, hcl]) hl
  have hs : evS (mo.F (k + 3)) (.for (.name 3) (.rng1 (.bf .len (.cons (.idx (.idx (.idx (.var 0) (.con (.int 1))) (.var 1)) (.con (.int 1))) .nil))) cfB) [some (imgLV nS im), some (.int (s : Int)), some (.ref H), none, none] L = .ok (fdR s o, [some (imgLV nS im), some (.int (s : Int)), some (.ref H), x', y']) L' := by
    rw [s_for, hi]
    exact e1
  show endOf (evSs (mo.F (k + 3)) _ [some (imgLV nS im), some (.int (s : Int)), some (.ref H), none, none] L) = _
  rw [ss_cons, hs]
  cases o with
  | none => simp [fdR, fdV]
  | some f => simp [fdR, fdV]
theorem outer_ok {L : LH} {o : Option (Int × Nat)} (hop : ∀ g ∈ im.segs, ∀ i ∈ g.2, i.1 < 25) (hc : outF im s = some o) : run mo.pg (k + 1) 12 [imgLV nS im, .int (s : Int)] L = .ok (fdV s o) L := by
  rw [Mo.run_succ (d := d12) rfl rfl]
  unfold outF at hc
  cases eg : im.segs[s]? with
  | none => rw [eg] at hc; cases hc
  | some g =>
    rw [eg, Option.bind_some] at hc
    have x1 := fun L : LH => seg_x (L := L) eg
    have g9 : mo.pg.glo 9 = some (.int 400000) := rfl
    have hcl : ∀ L : LH, bfV .len [.tup (g.2.map (insLV nS))] L = .ok (.int g.2.length) L := fun L => by
      show Out.ok (LV.int ((g.2.map _).length : Nat)) L = _
      rw [List.length_map]
    have htl : ∀ L : LH, bfV .len [.tup (im.tables.map tabLV)] L = .ok (.int im.tables.length) L := fun L => by
      show Out.ok (LV.int ((im.tables.map _).length : Nat)) L = _
      rw [List.length_map]
    split at hc
    · rename_i h1
      cases hc
      have h1' : (im.tables.length : Int) ≤ g.1 := by omega
      simp [d12, imgLV, x1, segLV, codeLV, h1, fdV, wd]
    · rename_i h1
      have h1' : ¬ (im.tables.length : Int) ≤ g.1 := by omega
      split at hc
      · rename_i h2
        cases hc
        by_cases h3 : g.2.length = 0
        · have h3' : (g.2.length : Int) = 0 := by omega
          have h3n : g.2 = [] := List.eq_nil_of_length_eq_zero h3
          simp [d12, imgLV, x1, segLV, codeLV, h1, fdV, wd, h3n]
        · have h4 : 400000 < g.2.length := by omega
          have h3n : g.2 ≠ [] := fun e => h3 (by rw [e]; rfl)
          have h4' : (400000 : Int) < g.2.length := by omega
          simp [d12, imgLV, x1, segLV, codeLV, h1, fdV, wd, h3n, h4, h4', g9]
      · rename_i h2
        have h3n : g.2 ≠ [] := fun e => h2 (.inl (by rw [e]; rfl))
        have h4' : ¬ (400000 : Int) < g.2.length := by omega
        cases el : g.2.getLast? with
        | none => rw [el] at hc; cases hc
        | some i =>
          rw [el, Option.map_some] at hc
          cases hc
          have hi := hop g (List.mem_of_getElem? eg) i (List.mem_of_getLast? el)
          have hx : ∀ L : LH, atX (g.2.map (insLV nS)) (-1) L = .ok (insLV nS i) L := fun L => atX_some (by rw [atI_last, List.getLast?_map, el]; rfl)
          by_cases h5 : i.1 = 24
          · have q : (nS i.1 = cs 24) = True := eq_true (by rw [h5]; rfl)
            simp [d12, imgLV, x1, segLV, codeLV, h1, fdV, wd, h3n, h4', g9, hx, insLV, nS, h5]
          · have q : (nS i.1 = cs 24) = False := eq_false fun e => h5 (nS_inj hi (show 24 < 25 by omega) e)
            simp [d12, imgLV, x1, segLV, codeLV, h1, fdV, wd, h3n, h4', g9, hx, insLV, q, h5]
end
end K87
end

section
set_option Elab.async false
set_option linter.all false
set_option maxRecDepth 100000
set_option maxHeartbeats 4000000
namespace K87
open PySem LG LM
section
variable {k s : Nat} {im : Img} {g : Nat × List Ins} {H pk lv bd : Nat} {peaks bounds : List Int} {L : LH}
theorem heights_new {code : List Ins} (hne : code ≠ []) (hz : code.length ≤ 400000) (hp : L.at_ pk = some (.lst (intsL peaks))) (hpk : pk < L.n) :
    ∃ L', makeV (mo.F (k + 1)) 2 [codeLV nS code, .ref pk] L = .ok (.ref L.n) L' ∧ HR L' L.n pk (L.n + 2) code peaks (initH code) ∧ Ext L L' ∧ L'.n = L.n + 3 := by
  have f1 : mo.fld 2 17 = true := rfl
  have f2 : mo.fld 2 28 = true := rfl
  have f3 : mo.fld 2 1 = true := rfl
  have f4 : mo.fld 2 27 = true := rfl
  have hin : mo.init 2 = some 36 := rfl
  have hcl : ∀ L : LH, bfV .len [codeLV nS code] L = .ok (.int code.length) L := fun L => by
    show Out.ok (LV.int ((code.map _).length : Nat)) L = _
    rw [List.length_map]
  generalize h0 : (((L.new (.ins 2 [])).put L.n (.ins 2 [(17, codeLV nS code)])).put L.n (.ins 2 [(17, codeLV nS code), (28, .ref pk)])).put L.n (.ins 2 [(17, codeLV nS code), (28, .ref pk), (1, .int 0)]) = LA
  have an : LA.n = L.n + 1 := by subst h0; simp
  have a0 : LA.at_ L.n = some (.ins 2 [(17, codeLV nS code), (28, .ref pk), (1, .int 0)]) := by subst h0; simp
  have a3 : ∀ z, z < L.n → LA.at_ z = L.at_ z := fun z hz => by
    have q1 : z ≠ L.n := by omega
    subst h0; simp [LH.put_at, LH.new_at, q1]
  generalize h1 : (LA.new (.lst [.int (-1)])).new (.lst (intsL (List.replicate code.length (-1)))) = LB
  have bn : LB.n = L.n + 3 := by subst h1; simp [an]
  have b0 : LB.at_ L.n = some (.ins 2 [(17, codeLV nS code), (28, .ref pk), (1, .int 0)]) := by
    subst h1
    rw [new_ne (by rw [LH.new_n, an]; omega), new_ne (by rw [an]; omega)]; exact a0
  have b1 : LB.at_ (L.n + 2) = some (.lst (intsL (List.replicate code.length (-1)))) := by
    subst h1
    have : L.n + 2 = (LA.new (.lst [.int (-1)])).n := by simp [an]
    rw [this, LH.new_same]
  have b3 : ∀ z, z < L.n → LB.at_ z = L.at_ z := fun z hz => by
    subst h1
    rw [new_ne (by rw [LH.new_n, an]; omega), new_ne (by rw [an]; omega)]; exact a3 z hz
  have hrep : binV .mul (.ref LA.n) (.int (code.length : Int)) (LA.new (.lst [.int (-1)])) = .ok (.ref (L.n + 2)) LB := by
    rw [bin_rep (xs := [.int (-1)]) (LH.new_same _ _) ⟨by omega, by omega, by have : sizeLine = 16777216 := rfl; simp; omega⟩]
    subst h1
    have e : (List.replicate ((code.length : Int).toNat) [LV.int (-1)]).flatten = intsL (List.replicate code.length (-1)) := by
      rw [Int.toNat_natCast]
      unfold intsL
      rw [List.map_replicate]
      induction code.length with
      | zero => rfl
      | succ n ih => rw [List.replicate_succ, List.flatten_cons, ih, List.replicate_succ]; rfl
    rw [e, LH.new_n, an]
  have hpos : 0 < code.length := List.length_pos_iff.mpr hne
  have hset : ∀ σ : LSt, setiV (.int 0) (.ref (L.n + 2)) (.int 0) σ (LB.put L.n (.ins 2 (hFs code pk (L.n + 2) ⟨0, []⟩))) = .ok (.nx, σ) ((LB.put L.n (.ins 2 (hFs code pk (L.n + 2) ⟨0, []⟩))).put (L.n + 2) (.lst (intsL (initH code).lev))) := fun σ => by
    rw [seti_lst (xs := intsL (List.replicate code.length (-1))) (j := 0) (by rw [put_ne (by omega)]; exact b1) (by
      have := ixN_nat (n := (intsL (List.replicate code.length (-1))).length) (p := 0) (by simpa [intsL] using hpos)
      simpa using this)]
    simp [intsL, initH, List.map_set]
  have key : run mo.pg (k + 1) 36 [.ref L.n, codeLV nS code, .ref pk] (L.new (.ins 2 [])) = .ok .non ((LB.put L.n (.ins 2 (hFs code pk (L.n + 2) ⟨0, []⟩))).put (L.n + 2) (.lst (intsL (initH code).lev))) := by
    rw [Mo.run_succ (d := d36) rfl rfl]
    simp only [hFs] at hset ⊢
    simp [d36, f1, f2, f3, f4, h0, hcl, hrep, b0, hset, -setiV_ref]
  refine ⟨_, make_ok hin key, ⟨?_, ?_, ?_, by omega, by omega, by omega⟩, ⟨by simp [bn], fun z hz => by rw [put_ne (by omega), put_ne (by omega)]; exact b3 z hz⟩, by simp [bn]⟩
  · rw [put_ne (by omega), LH.put_same]
    rfl
  · rw [put_ne (by omega), put_ne (by omega), b3 _ hpk]
    exact hp
  · rw [LH.put_same]
theorem calB_len : ∀ {code : List Ins} {l : List Int}, calB bounds code = some l → l.length ≤ code.length
  | [], l, h => by cases h; exact Nat.le_refl _
  | i :: r, l, h => by
    rw [calB] at h
    split at h
    · cases e0 : i.2[0]? with
      | none => rw [e0] at h; cases h
      | some a =>
        rw [e0, Option.bind_some] at h
        cases eb : bounds[a]? with
        | none => rw [eb] at h; cases h
        | some b =>
          rw [eb, Option.bind_some] at h
          cases ec : calB bounds r with
          | none => rw [ec] at h; cases h
          | some m =>
            rw [ec] at h
            cases h
            have := calB_len ec
            simp only [List.length_cons]
            omega
    · have := calB_len h
      simp only [List.length_cons]
      omega
/-- what the comprehension of step_bound takes of an instruction -/
def calG (bounds : List Int) (i : Ins) : Option LV := if i.1 = 22 then (i.2[0]?).bind fun a => (bounds[a]?).map LV.int else none
theorem calG_all : ∀ {code : List Ins} {l : List Int}, calB bounds code = some l → code.filterMap (calG bounds) = l.map LV.int ∧ ∀ i ∈ code, i.1 = 22 → ∃ a b, i.2[0]? = some a ∧ bounds[a]? = some b
  | [], l, h => by cases h; exact ⟨rfl, fun i hi => nomatch hi⟩
  | i :: r, l, h => by
    rw [calB] at h
    split at h
    · rename_i h1
      cases e0 : i.2[0]? with
      | none => rw [e0] at h; cases h
      | some a =>
        rw [e0, Option.bind_some] at h
        cases eb : bounds[a]? with
        | none => rw [eb] at h; cases h
        | some b =>
          rw [eb, Option.bind_some] at h
          cases ec : calB bounds r with
          | none => rw [ec] at h; cases h
          | some m =>
            rw [ec] at h
            cases h
            obtain ⟨p, q⟩ := calG_all ec
            refine ⟨?_, fun j hj => ?_⟩
            · rw [List.filterMap_cons, show calG bounds i = some (.int b) by unfold calG; rw [if_pos h1, e0, Option.bind_some, eb]; rfl]
              simp [p]
            · rcases List.mem_cons.mp hj with rfl | hj
              · exact fun _ => ⟨a, b, e0, eb⟩
              · exact q j hj
    · rename_i h1
      obtain ⟨p, q⟩ := calG_all h
      refine ⟨?_, fun j hj => ?_⟩
      · rw [List.filterMap_cons, show calG bounds i = none by unfold calG; rw [if_neg h1]]
        exact p
      · rcases List.mem_cons.mp hj with rfl | hj
        · exact fun e => absurd e h1
        · exact q j hj
theorem bound_ok {code : List Ins} {b : Int} (hop : ∀ i ∈ code, i.1 < 25) (hz : code.length ≤ 400000) (hb : L.at_ bd = some (.lst (intsL bounds))) (hbd : bd < L.n) (hc : stepF code bounds = some b) :
    ∃ L', run mo.pg (k + 1) 13 [codeLV nS code, .ref bd] L = .ok (.int b) L' ∧ Ext L L' ∧ L'.n = L.n + 1 := by
  unfold stepF at hc
  cases ec : calB bounds code with
  | none => rw [ec] at hc; cases hc
  | some l =>
    rw [ec, Option.map_some] at hc
    cases hc
    obtain ⟨h1, h2⟩ := calG_all ec
    have hline : sizeLine = 16777216 := rfl
    rw [Mo.run_succ (d := d13) rfl rfl]
    have hcl : ∀ L : LH, bfV .len [codeLV nS code] L = .ok (.int code.length) L := fun L => by
      show Out.ok (LV.int ((code.map _).length : Nat)) L = _
      rw [List.length_map]
    have hI : ∀ F, evI F (.seq (.var 0)) [some (codeLV nS code), some (.ref bd), none] L = .ok (.vals (code.map (insLV nS))) L := fun F => by simp [codeLV]
    obtain ⟨L', e1, e2, e3, e4, e5⟩ := compV_pure (S := code.map (insLV nS)) (D := L.n) (f := insLV nS) (g := calG bounds) (G := fun M => M.at_ bd = some (.lst (intsL bounds)))
      (body := compB (.name 2) [some (codeLV nS code), some (.ref bd), none] (some (evT (mo.F k) (.cmp .eq (.idx (.var 2) (.con (.int 0))) (.con (.str (cs 22)))))) (evE (mo.F k) (.idx (.var 1) (.idx (.var 2) (.con (.int 1))))))
      (fun M o hM => by rw [put_ne (by omega)]; exact hM) code [] (L.new (.lst [])) (fun i hi M hM => by
        have hi25 := hop i hi
        by_cases h22 : i.1 = 22
        · obtain ⟨a, b, q1, q2⟩ := h2 i hi h22
          have q : (nS i.1 = cs 22) = True := eq_true (by rw [h22]; rfl)
          have hx : idxV (.ref bd) (.int (a : Int)) M = .ok (.int b) M := by
            rw [idx_lst hM]
            exact atX_some (by rw [atI_nat]; unfold intsL; rw [List.getElem?_map, q2]; rfl)
          simp [compB, calG, h22, q1, q2, insLV, nS, arg0 q1, hx]
        · have q : (nS i.1 = cs 22) = False := eq_false fun e => h22 (nS_inj hi25 (show 22 < 25 by omega) e)
          simp [compB, calG, h22, insLV, q]) (by rw [new_ne (by omega)]; exact hb) (by simp) (by simp; omega)
    refine ⟨L', ?_, ⟨by rw [e3]; simp, fun z hz => (e5 z (by omega)).trans (new_ne (by omega))⟩, by rw [e3]; simp⟩
    have hcomp : evE (mo.F k) (.comp [2] (.name 2) (.seq (.var 0)) (some ()) (.cmp .eq (.idx (.var 2) (.con (.int 0))) (.con (.str (cs 22)))) (.idx (.var 1) (.idx (.var 2) (.con (.int 1))))) [some (codeLV nS code), some (.ref bd), none] L = .ok (.ref L.n) L' := by
      rw [e_comp, hI, bind_ok]
      show (compL (.vals _) L.n (compB (.name 2) [some (codeLV nS code), some (.ref bd), none] (some _) _) (code.map (insLV nS)) _).bind _ = _
      rw [e1]
      rfl
    rw [h1] at e4
    have hsum : bfV .sum [.ref L.n] L' = .ok (.int l.sum) L' := sum_lst (xs := l.map LV.int) (by simpa using e4) sumI_ints
    show endOf (evSs (mo.F k) (.cons (.ret (.bin .add (.bf .len (.cons (.var 0) .nil)) (.bf .sum (.cons (.comp [2] (.name 2) (.seq (.var 0)) (some ()) (.cmp .eq (.idx (.var 2) (.con (.int 0))) (.con (.str (cs 22)))) (.idx (.var 1) (.idx (.var 2) (.con (.int 1))))) .nil)))) .nil) [some (codeLV nS code), some (.ref bd), none] L) = _
    simp [hcl, hcomp, hsum]
end
end K87
end

section
set_option Elab.async false
set_option linter.all false
set_option maxRecDepth 100000
set_option maxHeartbeats 4000000
namespace K87
open PySem LG LM
def auB : LSs := match d14.body with
  | .cons _ (.cons _ (.cons (.for _ _ b) _)) => b
  | _ => .nil
def fdL (f : Fd) : LV := .tup [.int f.1, .int f.2.1, .str (wd f.2.2)]
def afR : Option Fd → Fl
  | none => .nx
  | some f => .ret (fdL f)
section
variable {k s : Nat} {im : Img} {g : Nat × List Ins} {H pk lv bd : Nat}
theorem aud_loop {S : List LV} (hop : ∀ g ∈ im.segs, ∀ i ∈ g.2, i.1 < 25) (hn : pk ≠ bd) : ∀ (ss : List Nat) (peaks bounds bounds' : List Int) (L : LH) (o : Option Fd) (a3 a4 a5 a6 : Option LV), pk < L.n → bd < L.n → L.at_ pk = some (.lst (intsL peaks)) → L.at_ bd = some (.lst (intsL bounds)) →
    audF im ss peaks bounds = some (o, bounds') → peaks.length + ss.length < 16777216 → bounds.length + ss.length < 16777216 →
    ∃ L' b3 b4 b5 b6, forL (.vals S) (forB (mo.F (k + 4)) (.name 3) auB) (ss.map fun (n : Nat) => LV.int (n : Int)) [some (imgLV nS im), some (.ref pk), some (.ref bd), a3, a4, a5, a6, none, none] L
      = .ok (afR o, [some (imgLV nS im), some (.ref pk), some (.ref bd), b3, b4, b5, b6, none, none]) L' ∧ L.n ≤ L'.n ∧ ∀ z, z < L.n → z ≠ pk → z ≠ bd → L'.at_ z = L.at_ z
  | [], peaks, bounds, bounds', L, o, a3, a4, a5, a6, h1, h2, hp, hb, hc, z1, z2 => by
    cases hc
    exact ⟨L, a3, a4, a5, a6, forV_nil, Nat.le_refl _, fun _ _ _ _ => rfl⟩
  | s :: ss, peaks, bounds, bounds', L, o, a3, a4, a5, a6, h1, h2, hp, hb, hc, z1, z2 => by
    simp only [List.length_cons] at z1 z2
    have hline : sizeLine = 16777216 := rfl
    rw [audF] at hc
    rw [List.map_cons, forV_cons]
    cases eo : outF im s with
    | none => rw [eo] at hc; cases hc
    | some o1 =>
      rw [eo, Option.bind_some] at hc
      have hout := outer_ok (k := k + 3) (L := L) hop eo
      cases o1 with
      | some f =>
        cases hc
        have hB : forB (mo.F (k + 4)) (.name 3) auB (.int (s : Int)) [some (imgLV nS im), some (.ref pk), some (.ref bd), a3, a4, a5, a6, none, none] L = .ok (.ret (fdL ((s : Int), f.1, f.2)), [some (imgLV nS im), some (.ref pk), some (.ref bd), some (.int (s : Int)), some (fdV s (some f)), a5, a6, none, none]) L := by
          simp [forB, auB, d14, hout, fdV, fdL]
        refine ⟨L, some (.int (s : Int)), some (fdV s (some f)), a5, a6, ?_, Nat.le_refl _, fun _ _ _ _ => rfl⟩
        rw [hB]
        rfl
      | none =>
        dsimp only at hc
        cases eg : im.segs[s]? with
        | none => rw [eg] at hc; cases hc
        | some g =>
          rw [eg, Option.bind_some] at hc
          have hlen : g.2 ≠ [] ∧ g.2.length ≤ 400000 := by
            unfold outF at eo
            rw [eg, Option.bind_some] at eo
            split at eo
            · cases eo
            · split at eo
              · cases eo
              · rename_i hz
                exact ⟨fun e => hz (.inl (by rw [e]; rfl)), by omega⟩
          have hop2 := hop g (List.mem_of_getElem? eg)
          have x1 := fun L : LH => seg_x (L := L) eg
          obtain ⟨L1, m1, m2, m3, m4⟩ := heights_new (k := k + 3) (peaks := peaks) hlen.1 hlen.2 hp h1
          cases ecf : codeF im s g.2 peaks (List.range g.2.length) (initH g.2) with
          | none => rw [ecf] at hc; cases hc
          | some r =>
            obtain ⟨o2, st⟩ := r
            rw [ecf, Option.bind_some] at hc
            obtain ⟨L2, c1, c2, c3, c4⟩ := code_ok (k := k) hop eg (by omega) m2 ecf
            have keep2 : ∀ z, z < L.n → L2.at_ z = L.at_ z := fun z hz => (c4 z (by omega) (by omega)).trans (m3.2 z hz)
            cases o2 with
            | some f =>
              cases hc
              have hB : forB (mo.F (k + 4)) (.name 3) auB (.int (s : Int)) [some (imgLV nS im), some (.ref pk), some (.ref bd), a3, a4, a5, a6, none, none] L = .ok (.ret (fdL ((s : Int), (f.1 : Int), f.2)), [some (imgLV nS im), some (.ref pk), some (.ref bd), some (.int (s : Int)), some (fdL ((s : Int), (f.1 : Int), f.2)), some (codeLV nS g.2), some (.ref L.n), none, none]) L2 := by
                simp only [imgLV] at hout c1 ⊢
                simp [forB, auB, d14, hout, fdV, fdL, x1, segLV, m1, c1]
              refine ⟨L2, some (.int (s : Int)), some (fdL ((s : Int), (f.1 : Int), f.2)), some (codeLV nS g.2), some (.ref L.n), ?_, by omega, fun z hz _ _ => keep2 z hz⟩
              rw [hB]
              rfl
            | none =>
              dsimp only at hc
              cases eb : stepF g.2 bounds with
              | none => rw [eb] at hc; cases hc
              | some b =>
                rw [eb, Option.bind_some] at hc
                have hO := c3.o
                simp only [hFs] at hO
                have p1 := bm_lst (m := .lappend) c3.p rfl
                have p2 : bmV .lappend (.ref pk) [.int st.peak] L2 = .ok .non (L2.put pk (.lst (intsL (peaks ++ [st.peak])))) := by
                  rw [m_append c3.p (by simp [intsL]; omega)]
                  simp [intsL]
                have hb2 : (L2.put pk (.lst (intsL (peaks ++ [st.peak])))).at_ bd = some (.lst (intsL bounds)) := by
                  rw [put_ne (Ne.symm hn), keep2 _ h2]; exact hb
                obtain ⟨L4, b1, b2, b3⟩ := bound_ok (k := k + 3) hop2 hlen.2 hb2 (by rw [LH.put_n]; omega) eb
                have hb4 : L4.at_ bd = some (.lst (intsL bounds)) := by rw [b2.2 _ (by rw [LH.put_n]; omega)]; exact hb2
                have p3 := bm_lst (m := .lappend) hb2 rfl
                have p4 : bmV .lappend (.ref bd) [.int b] L4 = .ok .non (L4.put bd (.lst (intsL (bounds ++ [b])))) := by
                  rw [m_append hb4 (by simp [intsL]; omega)]
                  simp [intsL]
                have p5 : idxV (.ref bd) (.int (-1)) (L4.put bd (.lst (intsL (bounds ++ [b])))) = .ok (.int b) (L4.put bd (.lst (intsL (bounds ++ [b])))) := by
                  rw [idx_lst (LH.put_same _ _ _)]
                  exact atX_some (by rw [atI_last]; simp [intsL])
                have g10 : mo.pg.glo 10 = some (.int 2000000) := rfl
                have keep4 : ∀ z, z < L.n → z ≠ pk → z ≠ bd → (L4.put bd (.lst (intsL (bounds ++ [b])))).at_ z = L.at_ z := fun z hz q1 q2 => by
                  rw [put_ne q2, b2.2 z (by rw [LH.put_n]; omega), put_ne q1, keep2 z hz]
                have n4 : L.n ≤ L4.n := by
                  have := b2.1
                  rw [LH.put_n] at this
                  omega
                split at hc
                · rename_i hgt
                  cases hc
                  have hB : forB (mo.F (k + 4)) (.name 3) auB (.int (s : Int)) [some (imgLV nS im), some (.ref pk), some (.ref bd), a3, a4, a5, a6, none, none] L = .ok (.ret (fdL ((s : Int), -1, 9)), [some (imgLV nS im), some (.ref pk), some (.ref bd), some (.int (s : Int)), some .non, some (codeLV nS g.2), some (.ref L.n), none, none]) (L4.put bd (.lst (intsL (bounds ++ [b])))) := by
                    simp only [imgLV] at hout c1 ⊢
                    simp [forB, auB, d14, hout, fdV, fdL, x1, segLV, m1, c1, hO, p1, p2, p3, b1, p4, p5, g10, hgt, wd]
                  refine ⟨L4.put bd (.lst (intsL (bounds ++ [b]))), some (.int (s : Int)), some .non, some (codeLV nS g.2), some (.ref L.n), ?_, by rw [LH.put_n]; exact n4, keep4⟩
                  rw [hB]
                  rfl
                · rename_i hgt
                  have hB : forB (mo.F (k + 4)) (.name 3) auB (.int (s : Int)) [some (imgLV nS im), some (.ref pk), some (.ref bd), a3, a4, a5, a6, none, none] L = .ok (.nx, [some (imgLV nS im), some (.ref pk), some (.ref bd), some (.int (s : Int)), some .non, some (codeLV nS g.2), some (.ref L.n), none, none]) (L4.put bd (.lst (intsL (bounds ++ [b])))) := by
                    simp only [imgLV] at hout c1 ⊢
                    simp [forB, auB, d14, hout, fdV, fdL, x1, segLV, m1, c1, hO, p1, p2, p3, b1, p4, p5, g10, hgt, wd]
                  have hp5 : (L4.put bd (.lst (intsL (bounds ++ [b])))).at_ pk = some (.lst (intsL (peaks ++ [st.peak]))) := by
                    rw [put_ne hn, b2.2 _ (by rw [LH.put_n]; omega), LH.put_same]
                  obtain ⟨L', b3', b4', b5', b6', e1, e2, e3⟩ := aud_loop (S := S) hop hn ss (peaks ++ [st.peak]) (bounds ++ [b]) bounds' (L4.put bd (.lst (intsL (bounds ++ [b])))) o (some (.int (s : Int))) (some .non) (some (codeLV nS g.2)) (some (.ref L.n)) (by rw [LH.put_n]; omega) (by rw [LH.put_n]; omega) hp5 (LH.put_same _ _ _) hc (by simp; omega) (by simp; omega)
                  rw [LH.put_n] at e2
                  refine ⟨L', b3', b4', b5', b6', ?_, by omega, fun z hz q1 q2 => (e3 z (by rw [LH.put_n]; omega) q1 q2).trans (keep4 z hz q1 q2)⟩
                  rw [hB, turn_nx]
                  exact e1
/-- the plan -/
def pCond : LE := .comp2 [7, 8] [8] (.name 7) (.seq (.idx (.var 0) (.con (.int 2)))) (.name 8) (.seq (.var 7)) (.cmp .ge (.var 8) (.bf .len (.cons (.idx (.var 0) (.con (.int 1))) .nil)))
theorem plan_ok {L : LH} {b1 b2 b3 b4 b5 b6 : Option LV} {F : Fn} (hz : (im.plan.flatMap id).length ≤ 16777216) :
    ∃ L', evE F (.bf .any (.cons pCond .nil)) [some (imgLV nS im), b1, b2, b3, b4, b5, b6, none, none] L = .ok (.bl (planF im)) L' ∧ Ext L L' := by
  have hline : sizeLine = 16777216 := rfl
  have hsl : ∀ L : LH, bfV .len [.tup (im.segs.map (segLV nS))] L = .ok (.int im.segs.length) L := fun L => by
    show Out.ok (LV.int ((im.segs.map _).length : Nat)) L = _
    rw [List.length_map]
  let fp : List Nat → LV := fun p => .tup (p.map fun (a : Nat) => LV.int (a : Int))
  let hh : List Nat → List LV := fun p => p.map fun a => LV.bl (decide (im.segs.length ≤ a))
  have hhl : ∀ ps : List (List Nat), (ps.flatMap hh).length = (ps.flatMap id).length := fun ps => by
    induction ps with
    | nil => rfl
    | cons p ps ih => rw [List.flatMap_cons, List.flatMap_cons, List.length_append, List.length_append, ih]; simp [hh]
  obtain ⟨L', e1, e2, e3, e4, e5⟩ := comp2V_pure (S := im.plan.map fp) (D := L.n) (f := fp) (h := hh) (G := fun _ => True)
    (body := comp2B (.name 7) [some (imgLV nS im), b1, b2, b3, b4, b5, b6, none, none] (evI F (.seq (.var 7))) L.n (fun σ2 => compB (.name 8) (wipeL σ2 [8]) none (evE F (.cmp .ge (.var 8) (.bf .len (.cons (.idx (.var 0) (.con (.int 1))) .nil))))))
    (fun _ _ _ => trivial) im.plan [] (L.new (.lst [])) (fun p hp M acc _ hM hacc => by
      simp only [hh, List.length_map] at hacc
      obtain ⟨M', q1, q2, q3, q4, q5⟩ := compV_pure (S := p.map fun (a : Nat) => LV.int (a : Int)) (D := L.n) (f := fun (a : Nat) => LV.int (a : Int)) (g := fun a => some (LV.bl (decide (im.segs.length ≤ a)))) (G := fun _ => True)
        (body := compB (.name 8) [some (imgLV nS im), b1, b2, b3, b4, b5, b6, some (fp p), none] none (evE F (.cmp .ge (.var 8) (.bf .len (.cons (.idx (.var 0) (.con (.int 1))) .nil)))))
        (fun _ _ _ => trivial) p acc M (fun a ha N _ => by simp [compB, imgLV, hsl]) trivial hM hacc
      refine ⟨M', ?_, trivial, q3, by rw [q4]; simp [hh], q5⟩
      simp only [comp2B, fp, tgt_name, wipe_cons, wipe_nil, List.set_cons_succ, List.set_cons_zero, i_seq, e_var, List.getElem?_cons_succ, List.getElem?_cons_zero, Option.join_some, ofOpt_some, bind_ok, src_tup]
      exact q1) trivial (LH.new_same _ _) (by rw [hhl]; simpa [hline] using hz)
  refine ⟨L', ?_, ⟨by rw [e3]; simp, fun z hz => (e5 z (by omega)).trans (new_ne (by omega))⟩⟩
  have hbl : im.plan.flatMap hh = (im.plan.flatMap fun p => p.map fun a => decide (im.segs.length ≤ a)).map LV.bl := by
    rw [List.map_flatMap]
    simp [hh, Function.comp_def]
  have hcomp : evE F pCond [some (imgLV nS im), b1, b2, b3, b4, b5, b6, none, none] L = .ok (.ref L.n) L' := by
    unfold pCond
    rw [e_comp2]
    have hI : evI F (.seq (.idx (.var 0) (.con (.int 2)))) [some (imgLV nS im), b1, b2, b3, b4, b5, b6, none, none] L = .ok (.vals (im.plan.map fp)) L := by simp [imgLV, fp]
    rw [hI, bind_ok]
    show (comp2L (.vals _) (comp2B (.name 7) [some (imgLV nS im), b1, b2, b3, b4, b5, b6, none, none] _ L.n _) (im.plan.map fp) _).bind _ = _
    rw [e1]
    rfl
  rw [hbl] at e4
  have hany : bfV .any [.ref L.n] L' = .ok (.bl ((im.plan.flatMap fun p => p.map fun a => decide (im.segs.length ≤ a)).any id)) L' := any_lst (by simpa using e4) bools_bl
  have hpl : (im.plan.flatMap fun p => p.map fun a => decide (im.segs.length ≤ a)).any id = planF im := by
    unfold planF
    simp [List.any_flatMap, List.any_map, Function.comp_def]
  rw [hpl] at hany
  rw [e_bf, a_cons, hcomp]
  simp [hany]
def auV : Option Fd → LV
  | none => .non
  | some f => fdL f
theorem audit_ok {L : LH} {o : Option Fd} (hop : ∀ g ∈ im.segs, ∀ i ∈ g.2, i.1 < 25) (hz : (im.plan.flatMap id).length ≤ 16777216) (hs : im.segs.length < 16777216) (hc : auditF im = some o) :
    ∃ L', run mo.pg (k + 5) 14 [imgLV nS im] L = .ok (auV o) L' ∧ Ext L L' := by
  rw [Mo.run_succ (d := d14) rfl rfl]
  unfold auditF at hc
  cases ea : audF im (List.range im.segs.length) [] [] with
  | none => rw [ea] at hc; cases hc
  | some r =>
    obtain ⟨o1, bs⟩ := r
    rw [ea, Option.map_some] at hc
    obtain ⟨L1, b3, b4, b5, b6, e1, e2, e3⟩ := aud_loop (k := k) (S := rngL 0 im.segs.length) (pk := L.n) (bd := L.n + 1) hop (by omega) (List.range im.segs.length) [] [] bs ((L.new (.lst [])).new (.lst [])) o1 none none none none (by simp; omega) (by simp) (by rw [new_ne (by simp), LH.new_same]; rfl) (LH.new_same (L.new (.lst [])) (.lst [])) ea (by simpa using hs) (by simpa using hs)
    have hrl : rngL 0 im.segs.length = (List.range im.segs.length).map fun (j : Nat) => LV.int (j : Int) := by unfold rngL; simp
    rw [← hrl] at e1
    have hsl : ∀ L : LH, bfV .len [.tup (im.segs.map (segLV nS))] L = .ok (.int im.segs.length) L := fun L => by
      show Out.ok (LV.int ((im.segs.map _).length : Nat)) L = _
      rw [List.length_map]
    have hb : d14.body = .cons (.set 1 (.lst .nil)) (.cons (.set 2 (.lst .nil)) (.cons (.for (.name 3) (.rng1 (.bf .len (.cons (.idx (.var 0) (.con (.int 1))) .nil))) auB) (.cons (.ifs (.bf .any (.cons pCond .nil)) (.cons (.ret (.tup (.cons (.neg (.con (.int 1))) (.cons (.neg (.con (.int 1))) (.cons (.con (.str (cs 32))) .nil))))) .nil) .nil) (.cons (.ret (.con .non)) .nil)))) := rfl
    rw [hb]
    have hi : ∀ F, evI F (.rng1 (.bf .len (.cons (.idx (.var 0) (.con (.int 1))) .nil))) [some (imgLV nS im), some (.ref L.n), some (.ref (L.n + 1)), none, none, none, none, none, none] ((L.new (.lst [])).new (.lst [])) = .ok (.vals (rngL 0 im.segs.length)) ((L.new (.lst [])).new (.lst [])) := fun F => i_rng1_nat (by simp [imgLV, hsl]) (by omega)
    have hf : evS (mo.F (k + 4)) (.for (.name 3) (.rng1 (.bf .len (.cons (.idx (.var 0) (.con (.int 1))) .nil))) auB) [some (imgLV nS im), some (.ref L.n), some (.ref (L.n + 1)), none, none, none, none, none, none] ((L.new (.lst [])).new (.lst [])) = .ok (afR o1, [some (imgLV nS im), some (.ref L.n), some (.ref (L.n + 1)), b3, b4, b5, b6, none, none]) L1 := by
      rw [s_for, hi]
      exact e1
    have n1 : L.n ≤ L1.n := by simp at e2; omega
    have k1 : Ext L L1 := ⟨n1, fun z hz => by
      rw [e3 z (by simp; omega) (by omega) (by omega), new_ne (by simp; omega), new_ne (by omega)]⟩
    show ∃ L', endOf (evSs (mo.F (k + 4)) _ [some (imgLV nS im), none, none, none, none, none, none, none, none] L) = _ ∧ _
    generalize mo.F (k + 4) = F at hf ⊢
    generalize hL0 : (L.new (.lst [])).new (.lst []) = L0 at hf
    have s1 : evS F (.set 1 (.lst .nil)) [some (imgLV nS im), none, none, none, none, none, none, none, none] L = .ok (.nx, [some (imgLV nS im), some (.ref L.n), none, none, none, none, none, none, none]) (L.new (.lst [])) := by
      generalize imgLV nS im = I
      simp
    have s2 : evS F (.set 2 (.lst .nil)) [some (imgLV nS im), some (.ref L.n), none, none, none, none, none, none, none] (L.new (.lst [])) = .ok (.nx, [some (imgLV nS im), some (.ref L.n), some (.ref (L.n + 1)), none, none, none, none, none, none]) L0 := by
      subst hL0
      generalize imgLV nS im = I
      simp
    rw [ss_cons, s1, then_nx, ss_cons, s2, then_nx, ss_cons, hf]
    cases o1 with
    | some f =>
      cases hc
      exact ⟨L1, rfl, k1⟩
    | none =>
      obtain ⟨L2, p1, p2⟩ := plan_ok (im := im) (L := L1) (b1 := some (.ref L.n)) (b2 := some (.ref (L.n + 1))) (b3 := b3) (b4 := b4) (b5 := b5) (b6 := b6) (F := F) hz
      have pt : evT F (.bf .any (.cons pCond .nil)) [some (imgLV nS im), some (.ref L.n), some (.ref (L.n + 1)), b3, b4, b5, b6, none, none] L1 = .ok (planF im) L2 := by
        rw [t_bf, ← Out.bind_assoc, ← e_bf, p1]
        rfl
      refine ⟨L2, ?_, k1.trans p2⟩
      dsimp only at hc
      rw [show afR none = Fl.nx from rfl, then_nx, ss_cons, s_if, pt, bind_ok]
      generalize imgLV nS im = I
      cases hp : planF im with
      | true =>
        rw [hp] at hc
        cases hc
        rw [if_pos rfl]
        simp [auV, fdL, wd]
      | false =>
        rw [hp] at hc
        cases hc
        rw [if_neg Bool.false_ne_true]
        simp [auV]
/-! step_bounds -/
def sbB : LSs := match d15.body with
  | .cons _ (.cons (.for _ _ b) _) => b
  | _ => .nil
theorem bnds_loop {S : List LV} {img : LV} : ∀ (gs : List (Nat × List Ins)) (bounds bs : List Int) (L : LH) (x : Option LV), (∀ g ∈ gs, g.2.length ≤ 400000 ∧ ∀ i ∈ g.2, i.1 < 25) → bd < L.n → L.at_ bd = some (.lst (intsL bounds)) → bndsF gs bounds = some bs → bounds.length + gs.length < 16777216 →
    ∃ L' x', forL (.vals S) (forB (mo.F (k + 1)) (.name 2) sbB) (gs.map (segLV nS)) [some img, some (.ref bd), x] L = .ok (.nx, [some img, some (.ref bd), x']) L' ∧ L.n ≤ L'.n ∧ L'.at_ bd = some (.lst (intsL bs)) ∧ ∀ z, z < L.n → z ≠ bd → L'.at_ z = L.at_ z
  | [], bounds, bs, L, x, _, h1, hb, hc, _ => by
    cases hc
    exact ⟨L, x, forV_nil, Nat.le_refl _, hb, fun _ _ _ => rfl⟩
  | g :: gs, bounds, bs, L, x, hg, h1, hb, hc, hz => by
    simp only [List.length_cons] at hz
    have hline : sizeLine = 16777216 := rfl
    rw [bndsF] at hc
    cases eb : stepF g.2 bounds with
    | none => rw [eb] at hc; cases hc
    | some b =>
      rw [eb, Option.bind_some] at hc
      obtain ⟨q1, q2⟩ := hg g List.mem_cons_self
      obtain ⟨L1, b1, b2, b3⟩ := bound_ok (k := k) q2 q1 hb h1 eb
      have hb1 : L1.at_ bd = some (.lst (intsL bounds)) := by rw [b2.2 _ h1]; exact hb
      have p3 := bm_lst (m := .lappend) hb rfl
      have p4 : bmV .lappend (.ref bd) [.int b] L1 = .ok .non (L1.put bd (.lst (intsL (bounds ++ [b])))) := by
        rw [m_append hb1 (by simp [intsL]; omega)]
        simp [intsL]
      obtain ⟨L', x', e1, e2, e3, e4⟩ := bnds_loop (S := S) (img := img) gs (bounds ++ [b]) bs (L1.put bd (.lst (intsL (bounds ++ [b])))) (some (segLV nS g)) (fun g' hg' => hg g' (List.mem_cons_of_mem _ hg')) (by rw [LH.put_n]; omega) (LH.put_same _ _ _) hc (by simp; omega)
      rw [LH.put_n] at e2
      refine ⟨L', x', ?_, by omega, e3, fun z hz hq => (e4 z (by rw [LH.put_n]; omega) hq).trans ((put_ne hq).trans (b2.2 z hz))⟩
      rw [List.map_cons, forV_cons]
      have hB : forB (mo.F (k + 1)) (.name 2) sbB (segLV nS g) [some img, some (.ref bd), x] L = .ok (.nx, [some img, some (.ref bd), some (segLV nS g)]) (L1.put bd (.lst (intsL (bounds ++ [b])))) := by
        simp [forB, sbB, d15, segLV, p3, b1, p4]
      rw [hB, turn_nx]
      exact e1
theorem bnds_ok {L : LH} {bs : List Int} (hg : ∀ g ∈ im.segs, g.2.length ≤ 400000 ∧ ∀ i ∈ g.2, i.1 < 25) (hs : im.segs.length < 16777216) (hc : bndsF im.segs [] = some bs) :
    ∃ L', run mo.pg (k + 2) 15 [imgLV nS im] L = .ok (.tup (intsL bs)) L' ∧ Ext L L' := by
  rw [Mo.run_succ (d := d15) rfl rfl]
  obtain ⟨L', x', e1, e2, e3, e4⟩ := bnds_loop (k := k) (bd := L.n) (S := im.segs.map (segLV nS)) (img := imgLV nS im) im.segs [] bs (L.new (.lst [])) none hg (by simp) (LH.new_same _ _) hc (by simpa using hs)
  have hb : d15.body = .cons (.set 1 (.lst .nil)) (.cons (.for (.name 2) (.seq (.idx (.var 0) (.con (.int 1)))) sbB) (.cons (.ret (.bf .tuple (.cons (.var 1) .nil))) .nil)) := rfl
  rw [hb]
  have hi : ∀ F, evI F (.seq (.idx (.var 0) (.con (.int 1)))) [some (imgLV nS im), some (.ref L.n), none] (L.new (.lst [])) = .ok (.vals (im.segs.map (segLV nS))) (L.new (.lst [])) := fun F => by simp [imgLV]
  have hf : evS (mo.F (k + 1)) (.for (.name 2) (.seq (.idx (.var 0) (.con (.int 1)))) sbB) [some (imgLV nS im), some (.ref L.n), none] (L.new (.lst [])) = .ok (.nx, [some (imgLV nS im), some (.ref L.n), x']) L' := by
    rw [s_for, hi]
    exact e1
  have ht := tuple_lst e3
  refine ⟨L', ?_, ⟨by simp at e2; omega, fun z hz => (e4 z (by simp; omega) (by omega)).trans (new_ne (by omega))⟩⟩
  show endOf (evSs (mo.F (k + 1)) _ [some (imgLV nS im), none, none] L) = _
  simp [hf, ht]
end
end K87
end

section
set_option Elab.async false
set_option linter.all false
set_option maxRecDepth 100000
set_option maxHeartbeats 4000000
namespace K87
open PySem LG LM
theorem manyF_keep {σ α : Type} {p : σ → Option (α × σ)} {P : α → Prop} (h : ∀ s r, p s = some r → P r.1) : ∀ {n : Nat} {s : σ} {r : List α × σ}, manyF p n s = some r → ∀ a ∈ r.1, P a
  | 0, s, r, e => by cases e; exact fun a ha => nomatch ha
  | n + 1, s, r, e => by
    rw [manyF] at e
    cases e1 : p s with
    | none => rw [e1] at e; cases e
    | some q =>
      rw [e1, Option.bind_some] at e
      cases e2 : manyF p n q.2 with
      | none => rw [e2] at e; cases e
      | some t =>
        rw [e2] at e
        cases e
        intro a ha
        rcases List.mem_cons.mp ha with rfl | ha
        · exact h _ _ e1
        · exact manyF_keep h e2 a ha
section
variable {k r d : Nat} {bytes s s' : List Nat} {L : LH}
/-- bytes -/
def Byt (l : List Nat) : Prop := ∀ a ∈ l, a < 256
theorem rNum_lt {n : Nat} (hc : rNum s = some (n, s')) (hb : Byt s) : n < 2097152 ∧ Byt s' := by
  unfold rNum at hc
  cases s with
  | nil => cases hc
  | cons a t =>
    have ha := hb a List.mem_cons_self
    have ht : Byt t := fun x hx => hb x (List.mem_cons_of_mem _ hx)
    dsimp only at hc
    split at hc
    · cases hc
      exact ⟨by omega, ht⟩
    · cases t with
      | nil => cases hc
      | cons b t =>
        have hb' := ht b List.mem_cons_self
        have ht : Byt t := fun x hx => ht x (List.mem_cons_of_mem _ hx)
        dsimp only at hc
        split at hc
        · cases hc
        · split at hc
          · cases hc
            exact ⟨by omega, ht⟩
          · cases t with
            | nil => cases hc
            | cons c t =>
              have hc' := ht c List.mem_cons_self
              have ht : Byt t := fun x hx => ht x (List.mem_cons_of_mem _ hx)
              dsimp only at hc
              split at hc
              · cases hc
              · split at hc
                · cases hc
                  exact ⟨by omega, ht⟩
                · cases hc
theorem many_byt {α : Type} {p : Rd α} (hp : ∀ s q, p s = some q → Byt s → Byt q.2) : ∀ {n : Nat} {s : List Nat} {q : List α × List Nat}, manyF p n s = some q → Byt s → Byt q.2
  | 0, s, q, h, hb => by cases h; exact hb
  | n + 1, s, q, h, hb => by
    rw [manyF] at h
    cases e : p s with
    | none => rw [e] at h; cases h
    | some t =>
      rw [e, Option.bind_some] at h
      cases e2 : manyF p n t.2 with
      | none => rw [e2] at h; cases h
      | some u =>
        rw [e2] at h
        cases h
        show Byt u.2
        exact many_byt hp e2 (hp s t e hb)
theorem rNum_byt {q : Nat × List Nat} (hc : rNum s = some q) (hb : Byt s) : Byt q.2 := (rNum_lt hc hb).2
theorem rMany_byt {α : Type} {p : Rd α} (hp : ∀ s q, p s = some q → Byt s → Byt q.2) {q : List α × List Nat} (hc : rMany p s = some q) (hb : Byt s) : Byt q.2 := by
  unfold rMany at hc
  cases e : rNum s with
  | none => rw [e] at hc; cases hc
  | some t =>
    rw [e, Option.bind_some] at hc
    exact many_byt hp hc (rNum_byt e hb)
theorem rCell_byt {q : (Nat × Bool) × List Nat} (hc : rCell s = some q) (hb : Byt s) : Byt q.2 := by
  unfold rCell at hc
  cases e : rNum s with
  | none => rw [e] at hc; cases hc
  | some t =>
    rw [e, Option.bind_some] at hc
    cases e2 : rNum t.2 with
    | none => rw [e2] at hc; cases hc
    | some u =>
      rw [e2, Option.bind_some] at hc
      split at hc
      · cases hc
      · cases hc
        exact rNum_byt e2 (rNum_byt e hb)
theorem rTab_byt {q : TabN × List Nat} (hc : rTab s = some q) (hb : Byt s) : Byt q.2 := rMany_byt (fun _ _ h => rCell_byt h) hc hb
theorem rNums_byt {q : List Nat × List Nat} (hc : rNums s = some q) (hb : Byt s) : Byt q.2 := rMany_byt (fun _ _ h => rNum_byt h) hc hb
theorem rIns_byt {q : Ins × List Nat} (hc : rIns s = some q) (hb : Byt s) : Byt q.2 := by
  unfold rIns at hc
  cases e : rNum s with
  | none => rw [e] at hc; cases hc
  | some t =>
    rw [e, Option.bind_some] at hc
    split at hc
    · cases hc
    · cases e2 : manyF rNum (argc t.1) t.2 with
      | none => rw [e2] at hc; cases hc
      | some u =>
        rw [e2] at hc
        cases hc
        exact many_byt (fun _ _ h => rNum_byt h) e2 (rNum_byt e hb)
theorem rSeg_byt {q : (Nat × List Ins) × List Nat} (hc : rSeg s = some q) (hb : Byt s) : Byt q.2 := by
  unfold rSeg at hc
  cases e : rNum s with
  | none => rw [e] at hc; cases hc
  | some t =>
    rw [e, Option.bind_some] at hc
    cases e2 : rMany rIns t.2 with
    | none => rw [e2] at hc; cases hc
    | some u =>
      rw [e2] at hc
      cases hc
      exact rMany_byt (fun _ _ h => rIns_byt h) e2 (rNum_byt e hb)
/-! the Reader's methods -/
/-- a method that reads one thing -/
def Reads (k fn r d : Nat) (bytes : List Nat) {α : Type} (p : Rd α) (f : α → LV) : Prop := ∀ M s a s', RdI r d bytes s M → Byt s → p s = some (a, s') → ∃ M', run mo.pg k fn [.ref r] M = .ok (f a) M' ∧ RdI r d bytes s' M' ∧ Ext1 r M M'
def intLV (n : Nat) : LV := .int (n : Int)
theorem num_reads : Reads (k + 2) 42 r d bytes rNum intLV := fun M s a s' h _ hc => number_ok h hc
theorem meth_rd {F : Fn} {σ : LSt} {M : LH} {i m fn : Nat} (hm : F.mth 3 m = some fn) (hmf : m ≠ 31 ∧ m ≠ 2 ∧ m ≠ 3) (hσ : σ[i]? = some (some (.ref r))) (h : RdI r d bytes s M) : evE F (.meth (.var i) m .nil) σ M = F.call fn [.ref r] M := by
  obtain ⟨pl, hpl, _⟩ := h.lr
  simp only [e_meth, e_var, hσ, Option.join_some, ofOpt_some, bind_ok]
  rw [meth_ok hpl (by simp [Ne.symm hmf.1, Ne.symm hmf.2.1, Ne.symm hmf.2.2]) hm]
  simp
theorem meth_m {k : Nat} {σ : LSt} {M : LH} {i m fn : Nat} (hm : mo.mth 3 m = some fn) (hmf : m ≠ 31 ∧ m ≠ 2 ∧ m ≠ 3) (hσ : σ[i]? = some (some (.ref r))) (h : RdI r d bytes s M) : evE (mo.F k) (.meth (.var i) m .nil) σ M = run mo.pg k fn [.ref r] M :=
  meth_rd (F := mo.F k) hm hmf hσ h
/-- tuple([self.m() for _ in range(n)]) -/
theorem comp_rd {α : Type} {k : Nat} {σ : LSt} {L1 : LH} {v i m n fn : Nat} {e : LE} {f : α → LV} {p : Rd α} {q : List α × List Nat} (hm : mo.mth 3 m = some fn) (hmf : m ≠ 31 ∧ m ≠ 2 ∧ m ≠ 3)
    (hσ : ∀ x, ((σ.set v none).set v (some x))[i]? = some (some (.ref r))) (hI : evE (mo.F k) e σ L = .ok (.int (n : Int)) L1) (hn : n < 1000000000)
    (hb : Reads k fn r d bytes p f) (hbb : ∀ s q, p s = some q → Byt s → Byt q.2) (h : RdI r d bytes s L1) (hs : Byt s) (hp : manyF p n s = some q) (hz : n ≤ 16777216) :
    ∃ L', evE (mo.F k) (.comp [v] (.name v) (.rng1 e) none .dct0 (.meth (.var i) m .nil)) σ L = .ok (.ref L1.n) L' ∧ RdI r d bytes q.2 L' ∧ L'.at_ L1.n = some (.lst (q.1.map f)) ∧ Ext1 r L1 L' ∧ L1.n < L'.n := by
  let p' : Rd α := fun s => if (s.all fun a => decide (a < 256)) = true then p s else none
  have hby : ∀ {s : List Nat}, (s.all fun a => decide (a < 256)) = true ↔ Byt s := fun {s} => by simp [Byt, List.all_eq_true]
  have hp' : ∀ {n : Nat} {s : List Nat} {q : List α × List Nat}, Byt s → manyF p n s = some q → manyF p' n s = some q := by
    intro n
    induction n with
    | zero => exact fun _ h => h
    | succ n ih =>
      intro s q hs h
      rw [manyF] at h ⊢
      show ((if _ then p s else none).bind _) = _
      rw [if_pos (hby.mpr hs)]
      cases e : p s with
      | none => rw [e] at h; cases h
      | some t =>
        rw [e, Option.bind_some] at h
        rw [Option.bind_some]
        cases e2 : manyF p n t.2 with
        | none => rw [e2] at h; cases h
        | some u =>
          rw [e2] at h
          rw [ih (hbb s t e hs) e2]
          exact h
  obtain ⟨L', e1, e2, e3, e4, e5⟩ := comp_ok (F := mo.F k) (f := f) (p := p') hm hmf hσ (i_rng1_nat hI hn) (fun M s a s' h hq => by
    show ∃ M', run mo.pg k fn [.ref r] M = _ ∧ _
    have hq2 : (if (s.all fun a => decide (a < 256)) = true then p s else none) = some (a, s') := hq
    split at hq2
    · rename_i hall
      exact hb M s a s' h (hby.mp hall) hq2
    · cases hq2) h (hp' hs hp) hz
  exact ⟨L', e1, e2, e3, e5, e4⟩
theorem nums_reads : Reads (k + 3) 43 r d bytes rNums fun l => .tup (natL l) := fun M s a s' h hs hc => by
  unfold rNums rMany at hc
  cases e : rNum s with
  | none => rw [e] at hc; cases hc
  | some t =>
    rw [e, Option.bind_some] at hc
    have hm : mo.mth 3 4 = some 42 := rfl
    obtain ⟨M1, a1, a2, a3⟩ := num_reads (k := k) M s t.1 t.2 h hs e
    have hlt := rNum_lt e hs
    have m1 := meth_m (k := k + 2) (i := 0) (σ := [some (.ref r), none, none]) hm ⟨by decide, by decide, by decide⟩ rfl h
    rw [a1] at m1
    obtain ⟨M2, b1, b2, b3, b4, b5⟩ := comp_rd (L := M1) (σ := [some (.ref r), some (intLV t.1), none]) (v := 2) (i := 0) (e := .var 1) hm ⟨by decide, by decide, by decide⟩ (fun x => rfl) (by simp [intLV]) (by omega) (num_reads (k := k)) (fun _ _ h => rNum_byt h) a2 hlt.2 hc (by omega)
    refine ⟨M2, ?_, b2, a3.trans b4⟩
    rw [Mo.run_succ (d := d43) rfl rfl]
    show endOf (evSs (mo.F (k + 2)) d43.body [some (.ref r), none, none] M) = _
    have hb : d43.body = .cons (.set 1 (.meth (.var 0) 4 .nil)) (.cons (.ret (.bf .tuple (.cons (.comp [2] (.name 2) (.rng1 (.var 1)) none .dct0 (.meth (.var 0) 4 .nil)) .nil))) .nil) := rfl
    have ht := tuple_lst b3
    rw [hb, ss_cons, s_set, m1, bind_ok, then_nx]
    simp [b1, ht]
    rfl
theorem cell_reads : Reads (k + 3) 44 r d bytes rCell fun p => .tup [.int (p.1 : Int), .bl p.2] := fun M s a s' h hs hc => by
  unfold rCell at hc
  cases e : rNum s with
  | none => rw [e] at hc; cases hc
  | some t =>
    rw [e, Option.bind_some] at hc
    cases e2 : rNum t.2 with
    | none => rw [e2] at hc; cases hc
    | some u =>
      rw [e2, Option.bind_some] at hc
      have hm : mo.mth 3 4 = some 42 := rfl
      obtain ⟨M1, a1, a2, a3⟩ := num_reads (k := k) M s t.1 t.2 h hs e
      obtain ⟨M2, b1, b2, b3⟩ := num_reads (k := k) M1 t.2 u.1 u.2 a2 (rNum_lt e hs).2 e2
      have m1 := meth_m (k := k + 2) (i := 0) (σ := [some (.ref r), none, none]) hm ⟨by decide, by decide, by decide⟩ rfl h
      have m2 := meth_m (k := k + 2) (i := 0) (σ := [some (.ref r), some (intLV t.1), none]) hm ⟨by decide, by decide, by decide⟩ rfl a2
      rw [a1] at m1
      rw [b1] at m2
      split at hc
      · cases hc
      · rename_i h1
        cases hc
        refine ⟨M2, ?_, b2, a3.trans b3⟩
        rw [Mo.run_succ (d := d44) rfl rfl]
        show endOf (evSs (mo.F (k + 2)) d44.body [some (.ref r), none, none] M) = _
        have hb : d44.body = .cons (.set 1 (.meth (.var 0) 4 .nil)) (.cons (.set 2 (.meth (.var 0) 4 .nil)) (.cons (.ifs (.cmp .gt (.var 2) (.con (.int 1))) (.cons .never .nil) .nil) (.cons (.ret (.tup (.cons (.var 1) (.cons (.cmp .eq (.var 2) (.con (.int 1))) .nil)))) .nil))) := rfl
        rw [hb, ss_cons, s_set, m1, bind_ok, then_nx, ss_cons, s_set]
        show endOf (thenS ((evE _ _ [some (.ref r), some (intLV t.1), none] _).bind _) _) = _
        rw [m2, bind_ok, then_nx]
        have h2 : ¬ (1 : Int) < u.1 := by omega
        have h3 : ((u.1 : Int) = 1) = (u.1 = 1) := propext ⟨fun h => by omega, fun h => by omega⟩
        simp [intLV, h2, h3]
theorem tab_reads : Reads (k + 4) 45 r d bytes rTab fun t => tabLV (tabI t) := fun M s a s' h hs hc => by
  unfold rTab rMany at hc
  cases e : rNum s with
  | none => rw [e] at hc; cases hc
  | some t =>
    rw [e, Option.bind_some] at hc
    have hm : mo.mth 3 4 = some 42 := rfl
    have hm2 : mo.mth 3 33 = some 44 := rfl
    obtain ⟨M1, a1, a2, a3⟩ := num_reads (k := k + 1) M s t.1 t.2 h hs e
    have hlt := rNum_lt e hs
    have m1 := meth_m (k := k + 3) (i := 0) (σ := [some (.ref r), none, none]) hm ⟨by decide, by decide, by decide⟩ rfl h
    rw [a1] at m1
    obtain ⟨M2, b1, b2, b3, b4, b5⟩ := comp_rd (L := M1) (σ := [some (.ref r), some (intLV t.1), none]) (v := 2) (i := 0) (e := .var 1) hm2 ⟨by decide, by decide, by decide⟩ (fun x => rfl) (by simp [intLV]) (by omega) (cell_reads (k := k)) (fun _ _ h => rCell_byt h) a2 hlt.2 hc (by omega)
    refine ⟨M2, ?_, b2, a3.trans b4⟩
    rw [Mo.run_succ (d := d45) rfl rfl]
    show endOf (evSs (mo.F (k + 3)) d45.body [some (.ref r), none, none] M) = _
    have hb : d45.body = .cons (.set 1 (.meth (.var 0) 4 .nil)) (.cons (.ret (.bf .tuple (.cons (.comp [2] (.name 2) (.rng1 (.var 1)) none .dct0 (.meth (.var 0) 33 .nil)) .nil))) .nil) := rfl
    have ht := tuple_lst b3
    rw [hb, ss_cons, s_set, m1, bind_ok, then_nx]
    simp [b1, ht, tabLV, tabI, Function.comp_def]
theorem ac_argc {i : Nat} (h : i < 25) : ac i = (argc i : Int) := by
  rcases i25 h with h | h | h | h | h | h | h | h | h | h | h | h | h | h | h | h | h | h | h | h | h | h | h | h | h <;> subst h <;> rfl
theorem nS_cs {i : Nat} (h : i < 25) : nS i = cs ([0, 1, 2, 3, 4, 5, 6, 7, 8, 9, 10, 11, 12, 13, 14, 15, 16, 17, 18, 19, 20, 21, 22, 23, 24].getD i 0) := rfl
theorem argc_ok {i : Nat} (hi : i < 25) {L : LH} : run mo.pg (k + 1) 2 [.str (nS i)] L = .ok (.int (argc i : Int)) L := by
  rw [← ac_argc hi, ← argument_count_ok k i hi L]
  rcases i25 hi with h | h | h | h | h | h | h | h | h | h | h | h | h | h | h | h | h | h | h | h | h | h | h | h | h <;> subst h <;> rfl
theorem argc_le {i : Nat} : argc i ≤ 2 := by
  by_cases hi : i < 25
  · rcases i25 hi with h | h | h | h | h | h | h | h | h | h | h | h | h | h | h | h | h | h | h | h | h | h | h | h | h <;> subst h <;> decide
  · unfold argc
    rw [List.getD_eq_getElem?_getD, List.getElem?_eq_none (by simp; omega)]
    exact Nat.zero_le _
theorem ins_reads : Reads (k + 3) 46 r d bytes rIns (insLV nS) := fun M s a s' h hs hc => by
  unfold rIns at hc
  cases e : rNum s with
  | none => rw [e] at hc; cases hc
  | some t =>
    rw [e, Option.bind_some] at hc
    split at hc
    · cases hc
    · rename_i h25
      have hi : t.1 < 25 := by omega
      cases e2 : manyF rNum (argc t.1) t.2 with
      | none => rw [e2] at hc; cases hc
      | some u =>
        rw [e2] at hc
        cases hc
        have hline : sizeLine = 16777216 := rfl
        have hm : mo.mth 3 4 = some 42 := rfl
        obtain ⟨M1, a1, a2, a3⟩ := num_reads (k := k) M s t.1 t.2 h hs e
        have hle := argc_le (i := t.1)
        have hul := manyF_len e2
        have m1 := meth_m (k := k + 2) (i := 0) (σ := [some (.ref r), none, none, none, none]) hm ⟨by decide, by decide, by decide⟩ rfl h
        rw [a1] at m1
        have hac := fun L : LH => argc_ok (k := k + 1) hi (L := L)
        obtain ⟨M2, b1, b2, b3, b4, b5⟩ := comp_rd (L := M1) (σ := [some (.ref r), some (intLV t.1), some (.str (nS t.1)), none, none]) (v := 4) (i := 0) (e := .call 2 (.cons (.var 2) .nil)) hm ⟨by decide, by decide, by decide⟩ (fun x => rfl) (by simp [hac]) (by omega) (num_reads (k := k)) (fun _ _ h => rNum_byt h) a2 (rNum_lt e hs).2 e2 (by omega)
        have hops : mo.pg.glo 2 = some (.tup (opsL.map LV.str)) := ops_glo
        have hlen : ∀ L : LH, bfV .len [.tup (opsL.map LV.str)] L = .ok (.int 25) L := fun L => rfl
        have hat := fun L : LH => ops_at hi (L := L)
        have hrd : r < M1.n := a2.hr
        have hadd : binV .add (.ref M2.n) (.ref M1.n) (M2.new (.lst [.str (nS t.1)])) = .ok (.ref (M2.n + 1)) ((M2.new (.lst [.str (nS t.1)])).new (.lst (.str (nS t.1) :: u.1.map intLV))) := by
          exact bin_addL (xs := [.str (nS t.1)]) (ys := u.1.map intLV) (LH.new_same _ _) (by rw [new_ne (by omega)]; exact b3) (by simp; omega)
        have hin : insLV nS (t.1, u.1) = .tup (.str (nS t.1) :: u.1.map intLV) := rfl
        have htu : bfV .tuple [.ref (M2.n + 1)] ((M2.new (.lst [.str (nS t.1)])).new (.lst (.str (nS t.1) :: u.1.map intLV))) = .ok (insLV nS (t.1, u.1)) ((M2.new (.lst [.str (nS t.1)])).new (.lst (.str (nS t.1) :: u.1.map intLV))) := by
          rw [hin]
          exact tuple_lst (LH.new_same (M2.new (.lst [.str (nS t.1)])) _)
        refine ⟨(M2.new (.lst [.str (nS t.1)])).new (.lst (.str (nS t.1) :: u.1.map intLV)), ?_, b2.new.new, a3.trans (b4.trans ((Ext.new.trans Ext.new).one))⟩
        rw [Mo.run_succ (d := d46) rfl rfl]
        show endOf (evSs (mo.F (k + 2)) d46.body [some (.ref r), none, none, none, none] M) = _
        have hb : d46.body = .cons (.set 1 (.meth (.var 0) 4 .nil)) (.cons (.ifs (.cmp .ge (.var 1) (.bf .len (.cons (.glo 2) .nil))) (.cons .never .nil) .nil) (.cons (.set 2 (.idx (.glo 2) (.var 1)))
          (.cons (.set 3 (.comp [4] (.name 4) (.rng1 (.call 2 (.cons (.var 2) .nil))) none .dct0 (.meth (.var 0) 4 .nil))) (.cons (.ret (.bf .tuple (.cons (.bin .add (.lst (.cons (.var 2) .nil)) (.var 3)) .nil))) .nil)))) := rfl
        rw [hb, ss_cons, s_set, m1, bind_ok, then_nx]
        have h25' : (t.1 : Int) < 25 := by omega
        have s2 : evS (mo.F (k + 2)) (.ifs (.cmp .ge (.var 1) (.bf .len (.cons (.glo 2) .nil))) (.cons .never .nil) .nil) [some (.ref r), some (intLV t.1), none, none, none] M1 = .ok (.nx, [some (.ref r), some (intLV t.1), none, none, none]) M1 := by
          simp [hops, hlen, intLV, h25']
        have s3 : evS (mo.F (k + 2)) (.set 2 (.idx (.glo 2) (.var 1))) [some (.ref r), some (intLV t.1), none, none, none] M1 = .ok (.nx, [some (.ref r), some (intLV t.1), some (.str (nS t.1)), none, none]) M1 := by
          simp [hops, intLV, hat]
        show endOf (evSs _ _ [some (.ref r), some (intLV t.1), none, none, none] M1) = _
        rw [ss_cons, s2, then_nx, ss_cons, s3, then_nx, ss_cons, s_set, b1, bind_ok, then_nx]
        simp [hadd, htu]
theorem seg_reads : Reads (k + 4) 47 r d bytes rSeg (segLV nS) := fun M s a s' h hs hc => by
  unfold rSeg at hc
  cases e : rNum s with
  | none => rw [e] at hc; cases hc
  | some t =>
    rw [e, Option.bind_some] at hc
    unfold rMany at hc
    cases e2 : rNum t.2 with
    | none => rw [e2] at hc; cases hc
    | some u =>
      rw [e2, Option.bind_some] at hc
      cases e3 : manyF rIns u.1 u.2 with
      | none => rw [e3] at hc; cases hc
      | some w =>
        rw [e3] at hc
        cases hc
        have hm : mo.mth 3 4 = some 42 := rfl
        have hm2 : mo.mth 3 34 = some 46 := rfl
        obtain ⟨M1, a1, a2, a3⟩ := num_reads (k := k + 1) M s t.1 t.2 h hs e
        have hs1 := (rNum_lt e hs).2
        obtain ⟨M2, b1, b2, b3⟩ := num_reads (k := k + 1) M1 t.2 u.1 u.2 a2 hs1 e2
        have hs2 := rNum_lt e2 hs1
        have m1 := meth_m (k := k + 3) (i := 0) (σ := [some (.ref r), none, none, none]) hm ⟨by decide, by decide, by decide⟩ rfl h
        have m2 := meth_m (k := k + 3) (i := 0) (σ := [some (.ref r), some (intLV t.1), none, none]) hm ⟨by decide, by decide, by decide⟩ rfl a2
        rw [a1] at m1
        rw [b1] at m2
        obtain ⟨M3, c1, c2, c3, c4, c5⟩ := comp_rd (L := M2) (σ := [some (.ref r), some (intLV t.1), some (intLV u.1), none]) (v := 3) (i := 0) (e := .var 2) hm2 ⟨by decide, by decide, by decide⟩ (fun x => rfl) (by simp [intLV]) (by omega) (ins_reads (k := k)) (fun _ _ h => rIns_byt h) b2 hs2.2 e3 (by omega)
        refine ⟨M3, ?_, c2, (a3.trans b3).trans c4⟩
        rw [Mo.run_succ (d := d47) rfl rfl]
        show endOf (evSs (mo.F (k + 3)) d47.body [some (.ref r), none, none, none] M) = _
        have hb : d47.body = .cons (.set 1 (.meth (.var 0) 4 .nil)) (.cons (.set 2 (.meth (.var 0) 4 .nil)) (.cons (.ret (.tup (.cons (.var 1) (.cons (.bf .tuple (.cons (.comp [3] (.name 3) (.rng1 (.var 2)) none .dct0 (.meth (.var 0) 34 .nil)) .nil)) .nil)))) .nil)) := rfl
        have ht := tuple_lst c3
        rw [hb, ss_cons, s_set, m1, bind_ok, then_nx, ss_cons, s_set]
        show endOf (thenS ((evE _ _ [some (.ref r), some (intLV t.1), none, none] _).bind _) _) = _
        rw [m2, bind_ok, then_nx]
        have hseg : segLV nS (t.1, w.1) = .tup [intLV t.1, .tup (w.1.map (insLV nS))] := rfl
        rw [hseg]
        simp [c1, ht]
/-- a new Reader -/
theorem reader_new (hd : L.at_ d = some (.lst (natL bytes))) (hdn : d < L.n) : ∃ L', makeV (mo.F (k + 1)) 3 [.ref d] L = .ok (.ref L.n) L' ∧ RdI L.n d bytes (bytes.dropLast.drop 1) L' ∧ Ext L L' := by
  have f1 : mo.fld 3 31 = true := rfl
  have f2 : mo.fld 3 2 = true := rfl
  have f3 : mo.fld 3 3 = true := rfl
  have hin : mo.init 3 = some 40 := rfl
  generalize h0 : ((L.new (.ins 3 [])).put L.n (.ins 3 [(31, .ref d)])).put L.n (.ins 3 [(31, .ref d), (2, .int 1)]) = LA
  have an : LA.n = L.n + 1 := by subst h0; simp
  have a0 : LA.at_ L.n = some (.ins 3 [(31, .ref d), (2, .int 1)]) := by subst h0; simp
  have a3 : ∀ z, z < L.n → LA.at_ z = L.at_ z := fun z hz => by
    have q1 : z ≠ L.n := by omega
    subst h0; simp [LH.put_at, LH.new_at, q1]
  have hlen : bfV .len [.ref d] LA = .ok (.int (bytes.length : Int)) LA := by
    rw [len_lst (xs := natL bytes) (by rw [a3 _ hdn]; exact hd), natL_len]
  have key : run mo.pg (k + 1) 40 [.ref L.n, .ref d] (L.new (.ins 3 [])) = .ok .non (LA.put L.n (.ins 3 [(31, .ref d), (2, .int 1), (3, .int ((bytes.length : Int) - 1))])) := by
    rw [Mo.run_succ (d := d40) rfl rfl]
    simp [d40, f1, f2, f3, h0, hlen, a0]
  refine ⟨_, make_ok hin key, ⟨by simp [an], by simp [an]; omega, by omega, ?_, 1, LH.put_same _ _ _, rfl⟩, ⟨by simp [an], fun z hz => by rw [put_ne (by omega)]; exact a3 z hz⟩⟩
  rw [put_ne (by omega), a3 _ hdn]
  exact hd
theorem unpack_ok {m : ImgN} (hd : L.at_ d = some (.lst (natL bytes))) (hdn : d < L.n) (hb : Byt bytes) (hc : loadF bytes = some m) : ∃ L', run mo.pg (k + 5) 20 [.ref d] L = .ok (imgLV nS m.img) L' ∧ Ext L L' := by
  unfold loadF at hc
  split at hc
  · cases hc
  · rename_i h2
    split at hc
    · cases hc
    · rename_i hh
      split at hc
      · cases hc
      · rename_i hsum
        have hh' : bytes.head? = some 82 := by
          by_cases e : bytes.head? = some 82
          · exact e
          · exact absurd e hh
        have hsum' : some (bytes.dropLast.sum % 256) = bytes.getLast? := by
          by_cases e : some (bytes.dropLast.sum % 256) = bytes.getLast?
          · exact e
          · exact absurd e hsum
        cases ei : rImg (bytes.dropLast.drop 1) with
        | none => rw [ei] at hc; cases hc
        | some q =>
          rw [ei, Option.bind_some] at hc
          split at hc
          case isFalse => cases hc
          case isTrue hq =>
          cases hc
          unfold rImg at ei
          cases ea : rMany rTab (bytes.dropLast.drop 1) with
          | none => rw [ea] at ei; cases ei
          | some A =>
            rw [ea, Option.bind_some] at ei
            cases eb : rMany rSeg A.2 with
            | none => rw [eb] at ei; cases ei
            | some B =>
              rw [eb, Option.bind_some] at ei
              cases ec : rMany rNums B.2 with
              | none => rw [ec] at ei; cases ei
              | some C =>
                rw [ec, Option.map_some] at ei
                cases ei
                dsimp only at hq
                have hbd : Byt (bytes.dropLast.drop 1) := fun x hx => hb x ((List.dropLast_sublist bytes).subset (List.mem_of_mem_drop hx))
                have hbA := rMany_byt (fun _ _ h => rTab_byt h) ea hbd
                have hbB := rMany_byt (fun _ _ h => rSeg_byt h) eb hbA
                unfold rMany at ea eb ec
                cases na : rNum (bytes.dropLast.drop 1) with
                | none => rw [na] at ea; cases ea
                | some a =>
                rw [na, Option.bind_some] at ea
                cases nb : rNum A.2 with
                | none => rw [nb] at eb; cases eb
                | some b =>
                rw [nb, Option.bind_some] at eb
                cases nc : rNum B.2 with
                | none => rw [nc] at ec; cases ec
                | some c =>
                rw [nc, Option.bind_some] at ec
                have la := rNum_lt na hbd
                have lb := rNum_lt nb hbA
                have lc := rNum_lt nc hbB
                -- the checks
                have hlen : ∀ M : LH, M.at_ d = some (.lst (natL bytes)) → bfV .len [.ref d] M = .ok (.int (bytes.length : Int)) M := fun M hM => by rw [len_lst hM, natL_len]
                have hlt : ¬ (bytes.length : Int) < 2 := by omega
                have h0 : idxV (.ref d) (.int 0) L = .ok (.int 82) L := by
                  rw [idx_lst hd]
                  refine atX_some ?_
                  rw [atI_0]
                  unfold natL
                  rw [List.getElem?_map, ← List.head?_eq_getElem?, hh']
                  rfl
                have hhd : mo.pg.glo 12 = some (.int 82) := rfl
                have hsl : slcV (.ref d) none (some (-1)) L = .ok (.ref L.n) (L.new (.lst (natL bytes.dropLast))) := by
                  rw [slc_lst hd, cut_init]
                  unfold natL
                  rw [List.map_dropLast]
                have hsm : bfV .sum [.ref L.n] (L.new (.lst (natL bytes.dropLast))) = .ok (.int ((bytes.dropLast.sum : Nat) : Int)) (L.new (.lst (natL bytes.dropLast))) := sum_lst (LH.new_same _ _) sumI_nat
                have hmd : ∀ M : LH, binV .mod (.int ((bytes.dropLast.sum : Nat) : Int)) (.int 256) M = .ok (.int ((bytes.dropLast.sum % 256 : Nat) : Int)) M := fun M => by
                  rw [bin_mod (by omega)]; rfl
                have hd1 : (L.new (.lst (natL bytes.dropLast))).at_ d = some (.lst (natL bytes)) := by rw [new_ne (by omega)]; exact hd
                have hla : idxV (.ref d) (.int (-1)) (L.new (.lst (natL bytes.dropLast))) = .ok (.int ((bytes.dropLast.sum % 256 : Nat) : Int)) (L.new (.lst (natL bytes.dropLast))) := by
                  rw [idx_lst hd1]
                  refine atX_some ?_
                  rw [atI_last]
                  unfold natL
                  rw [List.getLast?_map, ← hsum']
                  rfl
                obtain ⟨L1, r1, r2, r3⟩ := reader_new (k := k + 3) hd1 (show d < (L.new (.lst (natL bytes.dropLast))).n by rw [LH.new_n]; omega)
                rw [LH.new_n] at r1 r2
                -- the parts
                have hm : mo.mth 3 4 = some 42 := rfl
                have hm1 : mo.mth 3 7 = some 45 := rfl
                have hm2 : mo.mth 3 6 = some 47 := rfl
                have hm3 : mo.mth 3 5 = some 43 := rfl
                obtain ⟨M1, a1, a2, a3⟩ := num_reads (k := k + 2) L1 _ a.1 a.2 r2 hbd na
                have m1 := meth_m (k := k + 4) (i := 1) (σ := [some (.ref d), some (.ref (L.n + 1)), none, none, none, none]) hm ⟨by decide, by decide, by decide⟩ rfl r2
                rw [a1] at m1
                obtain ⟨M2, b1, b2, b3, b4, b5⟩ := comp_rd (k := k + 4) (L := L1) (L1 := M1) (σ := [some (.ref d), some (.ref (L.n + 1)), none, none, none, none]) (v := 5) (i := 1) (e := .meth (.var 1) 4 .nil) hm1 ⟨by decide, by decide, by decide⟩ (fun x => rfl) m1 (by omega) (tab_reads (k := k)) (fun _ _ h => rTab_byt h) a2 la.2 ea (by omega)
                have t1 := tuple_lst b3
                obtain ⟨M3, c1, c2, c3⟩ := num_reads (k := k + 2) M2 _ b.1 b.2 b2 hbA nb
                have m2 := meth_m (k := k + 4) (i := 1) (σ := [some (.ref d), some (.ref (L.n + 1)), some (.tup (A.1.map fun t => tabLV (tabI t))), none, none, none]) hm ⟨by decide, by decide, by decide⟩ rfl b2
                rw [c1] at m2
                obtain ⟨M4, d1, d2, d3, d4, d5⟩ := comp_rd (k := k + 4) (L := M2) (L1 := M3) (σ := [some (.ref d), some (.ref (L.n + 1)), some (.tup (A.1.map fun t => tabLV (tabI t))), none, none, none]) (v := 5) (i := 1) (e := .meth (.var 1) 4 .nil) hm2 ⟨by decide, by decide, by decide⟩ (fun x => rfl) m2 (by omega) (seg_reads (k := k)) (fun _ _ h => rSeg_byt h) c2 lb.2 eb (by omega)
                have t2 := tuple_lst d3
                obtain ⟨M5, e1, e2, e3⟩ := num_reads (k := k + 2) M4 _ c.1 c.2 d2 hbB nc
                have m3 := meth_m (k := k + 4) (i := 1) (σ := [some (.ref d), some (.ref (L.n + 1)), some (.tup (A.1.map fun t => tabLV (tabI t))), some (.tup (B.1.map (segLV nS))), none, none]) hm ⟨by decide, by decide, by decide⟩ rfl d2
                rw [e1] at m3
                obtain ⟨M6, f1, f2, f3, f4, f5⟩ := comp_rd (k := k + 4) (L := M4) (L1 := M5) (σ := [some (.ref d), some (.ref (L.n + 1)), some (.tup (A.1.map fun t => tabLV (tabI t))), some (.tup (B.1.map (segLV nS))), none, none]) (v := 5) (i := 1) (e := .meth (.var 1) 4 .nil) hm3 ⟨by decide, by decide, by decide⟩ (fun x => rfl) m3 (by omega) (nums_reads (k := k + 1)) (fun _ _ h => rNums_byt h) e2 lc.2 ec (by omega)
                have t3 := tuple_lst f3
                obtain ⟨p, hp, hrest⟩ := f2.lr
                rw [hq] at hrest
                have hpl : ¬ (p : Int) < (bytes.length : Int) - 1 := by
                  have := List.drop_eq_nil_iff.mp hrest.symm
                  rw [List.length_dropLast] at this
                  omega
                have hall : Ext1 (L.n + 1) L1 M6 := ((((a3.trans b4).trans c3).trans d4).trans e3).trans f4
                have hL1 : L.n + 2 ≤ L1.n := by have := r2.hr; omega
                refine ⟨M6, ?_, ⟨by have := hall.1; omega, fun z hz => by
                  rw [hall.2 z (by omega) (by omega), r3.2 z (by rw [LH.new_n]; omega), new_ne (by omega)]⟩⟩
                have hI : imgLV nS (ImgN.img ⟨A.1, B.1, C.1⟩) = .tup [.tup (A.1.map fun t => tabLV (tabI t)), .tup (B.1.map (segLV nS)), .tup (C.1.map fun p => .tup (natL p))] := by
                  unfold imgLV ImgN.img
                  simp only [List.map_map]
                  rfl
                rw [hI, Mo.run_succ (d := d20) rfl rfl]
                show endOf (evSs (mo.F (k + 4)) d20.body [some (.ref d), none, none, none, none, none] L) = _
                have hbody : d20.body = .cons (.ifs (.cmp .lt (.bf .len (.cons (.var 0) .nil)) (.con (.int 2))) (.cons .never .nil) .nil) (.cons (.ifs (.cmp .ne (.idx (.var 0) (.con (.int 0))) (.glo 12)) (.cons .never .nil) .nil)
                  (.cons (.ifs (.cmp .ne (.bin .mod (.bf .sum (.cons (.slc (.var 0) (.con .non) (.neg (.con (.int 1)))) .nil)) (.con (.int 256))) (.idx (.var 0) (.neg (.con (.int 1))))) (.cons .never .nil) .nil)
                  (.cons (.set 1 (.make 3 (.cons (.var 0) .nil)))
                  (.cons (.set 2 (.bf .tuple (.cons (.comp [5] (.name 5) (.rng1 (.meth (.var 1) 4 .nil)) none .dct0 (.meth (.var 1) 7 .nil)) .nil)))
                  (.cons (.set 3 (.bf .tuple (.cons (.comp [5] (.name 5) (.rng1 (.meth (.var 1) 4 .nil)) none .dct0 (.meth (.var 1) 6 .nil)) .nil)))
                  (.cons (.set 4 (.bf .tuple (.cons (.comp [5] (.name 5) (.rng1 (.meth (.var 1) 4 .nil)) none .dct0 (.meth (.var 1) 5 .nil)) .nil)))
                  (.cons (.ifs (.cmp .lt (.fld (.var 1) 2) (.fld (.var 1) 3)) (.cons .never .nil) .nil)
                  (.cons (.ret (.tup (.cons (.var 2) (.cons (.var 3) (.cons (.var 4) .nil))))) .nil)))))))) := rfl
                have s1 : evS (mo.F (k + 4)) (.ifs (.cmp .lt (.bf .len (.cons (.var 0) .nil)) (.con (.int 2))) (.cons .never .nil) .nil) [some (.ref d), none, none, none, none, none] L = .ok (.nx, [some (.ref d), none, none, none, none, none]) L := by
                  simp [hlen L hd, hlt]
                have s2 : evS (mo.F (k + 4)) (.ifs (.cmp .ne (.idx (.var 0) (.con (.int 0))) (.glo 12)) (.cons .never .nil) .nil) [some (.ref d), none, none, none, none, none] L = .ok (.nx, [some (.ref d), none, none, none, none, none]) L := by
                  simp [h0, hhd]
                have s3 : evS (mo.F (k + 4)) (.ifs (.cmp .ne (.bin .mod (.bf .sum (.cons (.slc (.var 0) (.con .non) (.neg (.con (.int 1)))) .nil)) (.con (.int 256))) (.idx (.var 0) (.neg (.con (.int 1))))) (.cons .never .nil) .nil) [some (.ref d), none, none, none, none, none] L = .ok (.nx, [some (.ref d), none, none, none, none, none]) (L.new (.lst (natL bytes.dropLast))) := by
                  simp only [Int.natCast_emod, Int.cast_ofNat_Int] at hmd hla
                  simp [isNon, hsl, hsm, hmd, hla]
                have s4 : evS (mo.F (k + 4)) (.set 1 (.make 3 (.cons (.var 0) .nil))) [some (.ref d), none, none, none, none, none] (L.new (.lst (natL bytes.dropLast))) = .ok (.nx, [some (.ref d), some (.ref (L.n + 1)), none, none, none, none]) L1 := by
                  simp [r1]
                have s5 : evS (mo.F (k + 4)) (.set 2 (.bf .tuple (.cons (.comp [5] (.name 5) (.rng1 (.meth (.var 1) 4 .nil)) none .dct0 (.meth (.var 1) 7 .nil)) .nil))) [some (.ref d), some (.ref (L.n + 1)), none, none, none, none] L1 = .ok (.nx, [some (.ref d), some (.ref (L.n + 1)), some (.tup (A.1.map fun t => tabLV (tabI t))), none, none, none]) M2 := by
                  rw [s_set, e_bf, a_cons, b1]
                  simp [t1]
                have s6 : evS (mo.F (k + 4)) (.set 3 (.bf .tuple (.cons (.comp [5] (.name 5) (.rng1 (.meth (.var 1) 4 .nil)) none .dct0 (.meth (.var 1) 6 .nil)) .nil))) [some (.ref d), some (.ref (L.n + 1)), some (.tup (A.1.map fun t => tabLV (tabI t))), none, none, none] M2 = .ok (.nx, [some (.ref d), some (.ref (L.n + 1)), some (.tup (A.1.map fun t => tabLV (tabI t))), some (.tup (B.1.map (segLV nS))), none, none]) M4 := by
                  rw [s_set, e_bf, a_cons, d1]
                  simp [t2]
                have s7 : evS (mo.F (k + 4)) (.set 4 (.bf .tuple (.cons (.comp [5] (.name 5) (.rng1 (.meth (.var 1) 4 .nil)) none .dct0 (.meth (.var 1) 5 .nil)) .nil))) [some (.ref d), some (.ref (L.n + 1)), some (.tup (A.1.map fun t => tabLV (tabI t))), some (.tup (B.1.map (segLV nS))), none, none] M4 = .ok (.nx, [some (.ref d), some (.ref (L.n + 1)), some (.tup (A.1.map fun t => tabLV (tabI t))), some (.tup (B.1.map (segLV nS))), some (.tup (C.1.map fun p => .tup (natL p))), none]) M6 := by
                  rw [s_set, e_bf, a_cons, f1]
                  simp [t3]
                have s8 : evS (mo.F (k + 4)) (.ifs (.cmp .lt (.fld (.var 1) 2) (.fld (.var 1) 3)) (.cons .never .nil) .nil) [some (.ref d), some (.ref (L.n + 1)), some (.tup (A.1.map fun t => tabLV (tabI t))), some (.tup (B.1.map (segLV nS))), some (.tup (C.1.map fun p => .tup (natL p))), none] M6 = .ok (.nx, [some (.ref d), some (.ref (L.n + 1)), some (.tup (A.1.map fun t => tabLV (tabI t))), some (.tup (B.1.map (segLV nS))), some (.tup (C.1.map fun p => .tup (natL p))), none]) M6 := by
                  simp [hp, hpl]
                rw [hbody, ss_cons, s1, then_nx, ss_cons, s2, then_nx, ss_cons, s3, then_nx, ss_cons, s4, then_nx, ss_cons, s5, then_nx, ss_cons, s6, then_nx, ss_cons, s7, then_nx, ss_cons, s8, then_nx]
                simp
/-- what load_image does with bytes that are an image that the audit takes -/
theorem load_ok {m : ImgN} (hd : L.at_ d = some (.lst (natL bytes))) (hdn : d < L.n) (hb : Byt bytes) (hc : loadF bytes = some m) (hop : ∀ g ∈ m.segs, ∀ i ∈ g.2, i.1 < 25) (hz : (m.plan.flatMap id).length ≤ 16777216) (hs : m.segs.length < 16777216) (ha : auditF m.img = some none) :
    ∃ L', run mo.pg (k + 6) 21 [.ref d] L = .ok (imgLV nS m.img) L' ∧ Ext L L' := by
  obtain ⟨L1, a1, a2⟩ := unpack_ok (k := k) hd hdn hb hc
  obtain ⟨L2, b1, b2⟩ := audit_ok (k := k) (L := L1) (im := m.img) hop hz hs ha
  refine ⟨L2, ?_, a2.trans b2⟩
  rw [Mo.run_succ (d := d21) rfl rfl]
  generalize imgLV nS m.img = I at a1 b1 ⊢
  simp [d21, a1, b1, auV]
end
end K87
end

section
set_option Elab.async false
set_option linter.all false
set_option maxRecDepth 100000
set_option maxHeartbeats 4000000
namespace K87
open PySem LG LM
section
variable {k : Nat} {L : LH}
/-- a sized image: what the lists of pack_image need -/
structure Fits (m : ImgN) : Prop where
  n : (imgNs m).length ≤ 16000000
  d : (bodyF m).length ≤ 16000000
  op : ∀ g ∈ m.segs, ∀ i ∈ g.2, i.1 < 25
  g : ∀ a ∈ imgNs m, numOk a
def piB1 : LSs := .cons (.expr (.bm .lextend (.var 1) (.cons (.call 17 (.cons (.var 2) .nil)) .nil))) .nil
def piB2 : LSs := .cons (.expr (.bm .lextend (.var 1) (.cons (.call 18 (.cons (.var 3) .nil)) .nil))) .nil
def piB3 : LSs := .cons (.expr (.bm .lextend (.var 1) (.cons (.bin .add (.lst (.cons (.bf .len (.cons (.var 4) .nil)) .nil)) (.bf .list (.cons (.var 4) .nil))) .nil))) .nil
def piB4 : LSs := .cons (.expr (.bm .lextend (.var 5) (.cons (.call 16 (.cons (.var 6) .nil)) .nil))) .nil
theorem pi_body : d19.body = .cons (.unp [7, 8, 9] (.var 0)) (.cons (.set 1 (.lst (.cons (.bf .len (.cons (.var 7) .nil)) .nil))) (.cons (.for (.name 2) (.seq (.var 7)) piB1) (.cons (.expr (.bm .lappend (.var 1) (.cons (.bf .len (.cons (.var 8) .nil)) .nil))) (.cons (.for (.name 3) (.seq (.var 8)) piB2)
    (.cons (.expr (.bm .lappend (.var 1) (.cons (.bf .len (.cons (.var 9) .nil)) .nil))) (.cons (.for (.name 4) (.seq (.var 9)) piB3) (.cons (.set 5 (.lst (.cons (.glo 12) .nil))) (.cons (.for (.name 6) (.seq (.var 1)) piB4) (.cons (.ret (.bin .add (.var 5) (.lst (.cons (.bin .mod (.bf .sum (.cons (.var 5) .nil)) (.con (.int 256))) .nil)))) .nil))))))))) := rfl
/-- one turn: a call's list is added to the list at N -/
theorem ext_call {F : Fn} {f N : Nat} {i j : Nat} {σ : LSt} {v : LV} {w acc : List Nat} (hv : σ[j]? = some (some v)) (hN : σ[i]? = some (some (.ref N))) (hL : L.at_ N = some (.lst (natL acc))) (hn : N < L.n) (hz : acc.length + w.length ≤ 16777216)
    (hc : ∃ L' r, F.call f [v] L = .ok (.ref r) L' ∧ Ext L L' ∧ L.n ≤ r ∧ r < L'.n ∧ L'.at_ r = some (.lst (natL w))) :
    ∃ L', evSs F (.cons (.expr (.bm .lextend (.var i) (.cons (.call f (.cons (.var j) .nil)) .nil))) .nil) σ L = .ok (.nx, σ) L' ∧ L.n ≤ L'.n ∧ L'.at_ N = some (.lst (natL (acc ++ w))) ∧ ∀ z, z < L.n → z ≠ N → L'.at_ z = L.at_ z := by
  have hline : sizeLine = 16777216 := rfl
  obtain ⟨L1, r, c1, c2, c3, c4, c5⟩ := hc
  have hN1 : L1.at_ N = some (.lst (natL acc)) := by rw [c2.2 _ hn]; exact hL
  refine ⟨L1.put N (.lst (natL (acc ++ w))), ?_, c2.1, LH.put_same _ _ _, fun z h1 h2 => by rw [put_ne h2, c2.2 z h1]⟩
  have p1 := bm_lst (m := .lextend) hL rfl
  have hx : bmV .lextend (.ref N) [.ref r] L1 = .ok .non (L1.put N (.lst (natL (acc ++ w)))) := by
    rw [m_extend hN1 (seqOf_lst c5) (by simp; omega), natL_app]
  simp [hv, hN, p1, c1, hx]
theorem tabs_len (m : ImgN) : (imgNs m).length = 3 + (m.tables.flatMap tabNs).length + (m.segs.flatMap segNs).length + (m.plan.flatMap planNs).length := by
  unfold imgNs
  simp only [List.length_append, List.length_cons]
  omega
theorem len_mem {α : Type} {w : α → List Nat} {a : α} : ∀ {l : List α}, a ∈ l → (w a).length ≤ (l.flatMap w).length
  | b :: l, h => by
    rw [List.flatMap_cons, List.length_append]
    rcases List.mem_cons.mp h with rfl | h
    · omega
    · have := len_mem (w := w) h
      omega
theorem pack_ok {m : ImgN} (h : Fits m) : ∃ L' r, run mo.pg (k + 2) 19 [imgLV nS m.img] L = .ok (.ref r) L' ∧ Ext L L' ∧ L.n ≤ r ∧ r < L'.n ∧ L'.at_ r = some (.lst (natL (packF m))) := by
  have hline : sizeLine = 16777216 := rfl
  obtain ⟨hn, hd, hop, hg⟩ := h
  have hnl := tabs_len m
  rw [Mo.run_succ (d := d19) rfl rfl, pi_body]
  have hI : imgLV nS m.img = .tup [.tup (m.tables.map fun t => tabLV (tabI t)), .tup (m.segs.map (segLV nS)), .tup (m.plan.map fun p => .tup (natL p))] := by
    unfold imgLV ImgN.img
    simp only [List.map_map]
    rfl
  show ∃ L' r, endOf (evSs (mo.F (k + 1)) _ [some (imgLV nS m.img), none, none, none, none, none, none, none, none, none] L) = _ ∧ _
  rw [hI]
  have ht : ∀ t ∈ m.tables, ∀ L, ∃ L' r, (mo.F (k + 1)).call 17 [tabLV (tabI t)] L = .ok (.ref r) L' ∧ Ext L L' ∧ L.n ≤ r ∧ r < L'.n ∧ L'.at_ r = some (.lst (natL (tabNs t))) := fun t ht L => table_ok (by have := len_mem (w := tabNs) ht; omega)
  have hs : ∀ g ∈ m.segs, ∀ L, ∃ L' r, (mo.F (k + 1)).call 18 [segLV nS g] L = .ok (.ref r) L' ∧ Ext L L' ∧ L.n ≤ r ∧ r < L'.n ∧ L'.at_ r = some (.lst (natL (segNs g))) := fun g hg L => segment_ok (hop g hg) (by have := len_mem (w := segNs) hg; omega)
  have hgr : ∀ a ∈ imgNs m, ∀ L, ∃ L' r, (mo.F (k + 1)).call 16 [.int (a : Int)] L = .ok (.ref r) L' ∧ Ext L L' ∧ L.n ≤ r ∧ r < L'.n ∧ L'.at_ r = some (.lst (natL (grp a))) := fun a ha L => groups_ok (hg a ha)
  have hhd : (mo.F (k + 1)).glo 12 = some (.int 82) := rfl
  generalize mo.F (k + 1) = F at ht hs hgr hhd ⊢
  generalize hT : LV.tup (m.tables.map fun t => tabLV (tabI t)) = T
  generalize hS : LV.tup (m.segs.map (segLV nS)) = S
  generalize hP : LV.tup (m.plan.map fun p => .tup (natL p)) = P
  have s1 : evS F (.unp [7, 8, 9] (.var 0)) [some (.tup [T, S, P]), none, none, none, none, none, none, none, none, none] L = .ok (.nx, [some (.tup [T, S, P]), none, none, none, none, none, none, some T, some S, some P]) L := by simp
  have lT : ∀ L : LH, bfV .len [T] L = .ok (.int m.tables.length) L := fun L => by
    rw [← hT]
    show Out.ok (LV.int ((m.tables.map _).length : Nat)) L = _
    rw [List.length_map]
  have lS : ∀ L : LH, bfV .len [S] L = .ok (.int m.segs.length) L := fun L => by
    rw [← hS]
    show Out.ok (LV.int ((m.segs.map _).length : Nat)) L = _
    rw [List.length_map]
  have lP : ∀ L : LH, bfV .len [P] L = .ok (.int m.plan.length) L := fun L => by
    rw [← hP]
    show Out.ok (LV.int ((m.plan.map _).length : Nat)) L = _
    rw [List.length_map]
  have sT : ∀ L : LH, srcOf L T = some (.vals (m.tables.map fun t => tabLV (tabI t))) := fun L => by rw [← hT]; rfl
  have sS : ∀ L : LH, srcOf L S = some (.vals (m.segs.map (segLV nS))) := fun L => by rw [← hS]; rfl
  have sP : ∀ L : LH, srcOf L P = some (.vals (m.plan.map fun p => .tup (natL p))) := fun L => by rw [← hP]; rfl
  clear hT hS hP
  generalize LV.tup [T, S, P] = I at s1 ⊢
  have s2 : evS F (.set 1 (.lst (.cons (.bf .len (.cons (.var 7) .nil)) .nil))) [some I, none, none, none, none, none, none, some T, some S, some P] L = .ok (.nx, [some I, some (.ref L.n), none, none, none, none, none, some T, some S, some P]) (L.new (.lst (natL [m.tables.length]))) := by
    simp [lT, natL]
  -- the tables
  obtain ⟨L1, x1, a1, a2, a3, a4⟩ := for_gather (tv := fun t => tabLV (tabI t)) (w := tabNs) (body := forB F (.name 2) piB1) (N := L.n) (S := .vals (m.tables.map fun t => tabLV (tabI t)))
    (X := Option LV) (σf := fun x => [some I, some (.ref L.n), x, none, none, none, none, some T, some S, some P]) m.tables [m.tables.length] (L.new (.lst (natL [m.tables.length]))) none (fun _ _ => trivial) (fun t hm M acc x hM hn hz => by
      obtain ⟨M', e1, e2⟩ := ext_call (F := F) (f := 17) (i := 1) (j := 2) (σ := [some I, some (.ref L.n), some (tabLV (tabI t)), none, none, none, none, some T, some S, some P]) rfl rfl hM hn (by omega) (ht t hm M)
      exact ⟨M', some (tabLV (tabI t)), e1, e2⟩) (LH.new_same _ _) (by simp) (by simp only [List.length_cons, List.length_nil]; omega)
  have s3 : evS F (.for (.name 2) (.seq (.var 7)) piB1) [some I, some (.ref L.n), none, none, none, none, none, some T, some S, some P] (L.new (.lst (natL [m.tables.length]))) = .ok (.nx, [some I, some (.ref L.n), x1, none, none, none, none, some T, some S, some P]) L1 := by
    rw [s_for]
    simp only [i_seq, e_var, List.getElem?_cons_succ, List.getElem?_cons_zero, Option.join_some, ofOpt_some, bind_ok, sT]
    exact a1
  rw [LH.new_n] at a2
  have n1 : L.n < L1.n := by omega
  have k1 : Ext L L1 := ⟨by omega, fun z hz => (a4 z (by rw [LH.new_n]; omega) (by omega)).trans (new_ne (by omega))⟩
  -- the number of segments
  generalize hacc1 : [m.tables.length] ++ m.tables.flatMap tabNs = acc1 at a3
  have lacc1 : acc1.length = 1 + (m.tables.flatMap tabNs).length := by rw [← hacc1]; simp; omega
  have s4 : evS F (.expr (.bm .lappend (.var 1) (.cons (.bf .len (.cons (.var 8) .nil)) .nil))) [some I, some (.ref L.n), x1, none, none, none, none, some T, some S, some P] L1 = .ok (.nx, [some I, some (.ref L.n), x1, none, none, none, none, some T, some S, some P]) (L1.put L.n (.lst (natL (acc1 ++ [m.segs.length])))) := by
    have p1 := bm_lst (m := .lappend) a3 rfl
    have p2 : bmV .lappend (.ref L.n) [.int (m.segs.length : Int)] L1 = .ok .non (L1.put L.n (.lst (natL (acc1 ++ [m.segs.length])))) := by
      rw [m_append a3 (by simp; omega), natL_app]
      rfl
    simp [lS, p1, p2]
  -- the segments
  obtain ⟨L2, x2, b1, b2, b3, b4⟩ := for_gather (tv := segLV nS) (w := segNs) (body := forB F (.name 3) piB2) (N := L.n) (S := .vals (m.segs.map (segLV nS)))
    (X := Option LV) (σf := fun x => [some I, some (.ref L.n), x1, x, none, none, none, some T, some S, some P]) m.segs (acc1 ++ [m.segs.length]) (L1.put L.n (.lst (natL (acc1 ++ [m.segs.length])))) none (fun _ _ => trivial) (fun g hm M acc x hM hn hz => by
      obtain ⟨M', e1, e2⟩ := ext_call (F := F) (f := 18) (i := 1) (j := 3) (σ := [some I, some (.ref L.n), x1, some (segLV nS g), none, none, none, some T, some S, some P]) rfl rfl hM hn (by omega) (hs g hm M)
      exact ⟨M', some (segLV nS g), e1, e2⟩) (LH.put_same _ _ _) (by rw [LH.put_n]; exact n1) (by simp only [List.length_append, List.length_cons, List.length_nil]; omega)
  have s5 : evS F (.for (.name 3) (.seq (.var 8)) piB2) [some I, some (.ref L.n), x1, none, none, none, none, some T, some S, some P] (L1.put L.n (.lst (natL (acc1 ++ [m.segs.length])))) = .ok (.nx, [some I, some (.ref L.n), x1, x2, none, none, none, some T, some S, some P]) L2 := by
    rw [s_for]
    simp only [i_seq, e_var, List.getElem?_cons_succ, List.getElem?_cons_zero, Option.join_some, ofOpt_some, bind_ok, sS]
    exact b1
  rw [LH.put_n] at b2
  have k2 : Ext L L2 := ⟨by omega, fun z hz => by rw [b4 z (by rw [LH.put_n]; omega) (by omega), put_ne (by omega), k1.2 z hz]⟩
  -- the number of entries of the plan
  generalize hacc2 : acc1 ++ [m.segs.length] ++ m.segs.flatMap segNs = acc2 at b3
  have lacc2 : acc2.length = acc1.length + 1 + (m.segs.flatMap segNs).length := by rw [← hacc2, List.length_append, List.length_append]; rfl
  have s6 : evS F (.expr (.bm .lappend (.var 1) (.cons (.bf .len (.cons (.var 9) .nil)) .nil))) [some I, some (.ref L.n), x1, x2, none, none, none, some T, some S, some P] L2 = .ok (.nx, [some I, some (.ref L.n), x1, x2, none, none, none, some T, some S, some P]) (L2.put L.n (.lst (natL (acc2 ++ [m.plan.length])))) := by
    have p1 := bm_lst (m := .lappend) b3 rfl
    have p2 : bmV .lappend (.ref L.n) [.int (m.plan.length : Int)] L2 = .ok .non (L2.put L.n (.lst (natL (acc2 ++ [m.plan.length])))) := by
      rw [m_append b3 (by simp; omega), natL_app]
      rfl
    simp [lP, p1, p2]
  -- the plan
  obtain ⟨L3, x3, c1, c2, c3, c4⟩ := for_gather (tv := fun p : List Nat => LV.tup (natL p)) (w := planNs) (body := forB F (.name 4) piB3) (N := L.n) (S := .vals (m.plan.map fun p => .tup (natL p)))
    (X := Option LV) (σf := fun x => [some I, some (.ref L.n), x1, x2, x, none, none, some T, some S, some P]) m.plan (acc2 ++ [m.plan.length]) (L2.put L.n (.lst (natL (acc2 ++ [m.plan.length])))) none (fun _ _ => trivial) (fun p hm M acc x hM hn hz => by
      have hpl : (planNs p).length = 1 + p.length := by unfold planNs; rw [List.length_cons]; omega
      have q1 := bm_lst (m := .lextend) hM rfl
      have q2 : binV .add (.ref M.n) (.ref (M.n + 1)) ((M.new (.lst [.int (p.length : Int)])).new (.lst (natL p))) = .ok (.ref (M.n + 2)) (((M.new (.lst [.int (p.length : Int)])).new (.lst (natL p))).new (.lst (natL (planNs p)))) := by
        exact bin_addL (r1 := M.n) (r2 := M.n + 1) (xs := [.int (p.length : Int)]) (ys := natL p) (by rw [new_ne (by simp)]; exact LH.new_same _ _) (LH.new_same (M.new (.lst [.int (p.length : Int)])) (.lst (natL p))) (by simp; omega)
      have q3 : bmV .lextend (.ref L.n) [.ref (M.n + 2)] (((M.new (.lst [.int (p.length : Int)])).new (.lst (natL p))).new (.lst (natL (planNs p)))) = .ok .non ((((M.new (.lst [.int (p.length : Int)])).new (.lst (natL p))).new (.lst (natL (planNs p)))).put L.n (.lst (natL (acc ++ planNs p)))) := by
        have w1 : (((M.new (.lst [.int (p.length : Int)])).new (.lst (natL p))).new (.lst (natL (planNs p)))).at_ L.n = some (.lst (natL acc)) := by
          rw [new_ne (by simp; omega), new_ne (by simp; omega), new_ne (by omega)]; exact hM
        have w2 : (((M.new (.lst [.int (p.length : Int)])).new (.lst (natL p))).new (.lst (natL (planNs p)))).at_ (M.n + 2) = some (.lst (natL (planNs p))) := LH.new_same ((M.new (.lst [.int (p.length : Int)])).new (.lst (natL p))) (.lst (natL (planNs p)))
        rw [m_extend w1 (seqOf_lst w2) (by simp; omega), natL_app]
      refine ⟨(((M.new (.lst [.int (p.length : Int)])).new (.lst (natL p))).new (.lst (natL (planNs p)))).put L.n (.lst (natL (acc ++ planNs p))), some (.tup (natL p)), ?_, by simp; omega, LH.put_same _ _ _, fun z h1 h2 => by
        rw [put_ne h2, new_ne (by simp; omega), new_ne (by simp; omega), new_ne (by omega)]⟩
      simp [forB, piB3, q1, q2, q3]) (LH.put_same _ _ _) (by rw [LH.put_n]; omega) (by simp only [List.length_append, List.length_cons, List.length_nil]; omega)
  have s7 : evS F (.for (.name 4) (.seq (.var 9)) piB3) [some I, some (.ref L.n), x1, x2, none, none, none, some T, some S, some P] (L2.put L.n (.lst (natL (acc2 ++ [m.plan.length])))) = .ok (.nx, [some I, some (.ref L.n), x1, x2, x3, none, none, some T, some S, some P]) L3 := by
    rw [s_for]
    simp only [i_seq, e_var, List.getElem?_cons_succ, List.getElem?_cons_zero, Option.join_some, ofOpt_some, bind_ok, sP]
    exact c1
  rw [LH.put_n] at c2
  have k3 : Ext L L3 := ⟨by omega, fun z hz => by rw [c4 z (by rw [LH.put_n]; omega) (by omega), put_ne (by omega), k2.2 z hz]⟩
  have hnum : acc2 ++ [m.plan.length] ++ m.plan.flatMap planNs = imgNs m := by
    rw [← hacc2, ← hacc1]
    unfold imgNs
    simp
  rw [hnum] at c3
  -- the bytes
  have s8 : evS F (.set 5 (.lst (.cons (.glo 12) .nil))) [some I, some (.ref L.n), x1, x2, x3, none, none, some T, some S, some P] L3 = .ok (.nx, [some I, some (.ref L.n), x1, x2, x3, some (.ref L3.n), none, some T, some S, some P]) (L3.new (.lst (natL [82]))) := by
    simp [hhd, natL]
  have c3' : (L3.new (.lst (natL [82]))).at_ L.n = some (.lst (natL (imgNs m))) := by rw [new_ne (by omega)]; exact c3
  have lbody : (bodyF m).length = 1 + ((imgNs m).flatMap grp).length := by unfold bodyF; rw [List.length_cons]; omega
  obtain ⟨L4, x4, d1, d2, d3, d4⟩ := for_gather (tv := fun a : Nat => LV.int (a : Int)) (w := grp) (body := forB F (.name 6) piB4) (N := L3.n) (S := .lst L.n (natL (imgNs m)))
    (X := Option LV) (σf := fun x => [some I, some (.ref L.n), x1, x2, x3, some (.ref L3.n), x, some T, some S, some P]) (imgNs m) [82] (L3.new (.lst (natL [82]))) none (fun L' h => by
      show L'.at_ L.n = _
      rw [h L.n (by rw [LH.new_n]; omega) (by omega)]
      exact c3') (fun a hm M acc x hM hn hz => by
      obtain ⟨M', e1, e2⟩ := ext_call (F := F) (f := 16) (i := 5) (j := 6) (σ := [some I, some (.ref L.n), x1, x2, x3, some (.ref L3.n), some (.int (a : Int)), some T, some S, some P]) rfl rfl hM hn (by omega) (hgr a hm M)
      exact ⟨M', some (.int (a : Int)), e1, e2⟩) (LH.new_same _ _) (by simp) (by simp only [List.length_cons, List.length_nil]; omega)
  have s9 : evS F (.for (.name 6) (.seq (.var 1)) piB4) [some I, some (.ref L.n), x1, x2, x3, some (.ref L3.n), none, some T, some S, some P] (L3.new (.lst (natL [82]))) = .ok (.nx, [some I, some (.ref L.n), x1, x2, x3, some (.ref L3.n), x4, some T, some S, some P]) L4 := by
    rw [s_for]
    simp only [i_seq, e_var, List.getElem?_cons_succ, List.getElem?_cons_zero, Option.join_some, ofOpt_some, bind_ok, src_lst c3']
    exact d1
  rw [LH.new_n] at d2
  have hbod : [82] ++ (imgNs m).flatMap grp = bodyF m := rfl
  rw [hbod] at d3
  have hsum : bfV .sum [.ref L3.n] L4 = .ok (.int ((bodyF m).sum : Nat)) L4 := sum_lst d3 sumI_nat
  have hmod : ∀ L : LH, binV .mod (.int ((bodyF m).sum : Nat)) (.int 256) L = .ok (.int (((bodyF m).sum % 256 : Nat) : Int)) L := fun L => by
    rw [bin_mod (by omega)]; rfl
  have hadd : binV .add (.ref L3.n) (.ref L4.n) (L4.new (.lst [.int (((bodyF m).sum % 256 : Nat) : Int)])) = .ok (.ref (L4.n + 1)) ((L4.new (.lst [.int (((bodyF m).sum % 256 : Nat) : Int)])).new (.lst (natL (packF m)))) := by
    rw [bin_addL (xs := natL (bodyF m)) (ys := [.int (((bodyF m).sum % 256 : Nat) : Int)]) (by rw [new_ne (by omega)]; exact d3) (LH.new_same _ _) (by simp; omega)]
    unfold packF
    rw [natL_app]
    rfl
  refine ⟨(L4.new (.lst [.int (((bodyF m).sum % 256 : Nat) : Int)])).new (.lst (natL (packF m))), L4.n + 1, ?_, ⟨by simp; omega, fun z hz => ?_⟩, by omega, by simp, LH.new_same _ _⟩
  · rw [ss_cons, s1, then_nx, ss_cons, s2, then_nx, ss_cons, s3, then_nx, ss_cons, s4, then_nx, ss_cons, s5, then_nx, ss_cons, s6, then_nx, ss_cons, s7, then_nx, ss_cons, s8, then_nx, ss_cons, s9, then_nx]
    simp only [Int.natCast_emod, Int.cast_ofNat_Int] at hmod hadd ⊢
    simp [hsum, hmod, hadd]
  · rw [new_ne (by simp; omega), new_ne (by omega), d4 z (by rw [LH.new_n]; omega) (by omega), new_ne (by omega), k3.2 z hz]
end
end K87
end

section
set_option Elab.async false
set_option linter.all false
set_option maxRecDepth 100000
set_option maxHeartbeats 4000000
/-! CH: the chain's image: the audit, the bounds, the packed form. -/
namespace LC
open LM LG
def imgN (top : Nat) (kept : Bool) (more worth many : Nat) : ImgN := ⟨[[(top, kept)]], (List.range many).map fun k => (0, code more worth k), [[many - 1]]⟩
theorem imgN_img {top : Nat} {kept : Bool} {more worth many : Nat} : (imgN top kept more worth many).img = img (top : Int) kept more worth many := rfl
section
variable {top : Int} {kept : Bool} {more worth many : Nat}
theorem segs_at {s : Nat} (h : s < many) : (img top kept more worth many).segs[s]? = some (0, code more worth s) := by
  show ((List.range many).map _)[s]? = _
  rw [List.getElem?_map, List.getElem?_range h]
  rfl
theorem out_chain {s : Nat} (h : s < many) : outF (img top kept more worth many) s = some none := by
  unfold outF
  rw [segs_at h, Option.bind_some]
  cases s with
  | zero => simp [img, code]
  | succ s => simp [img, code]
def bnd (s : Nat) : List Int := (List.range s).map fun (k : Nat) => (7 * k + 6 : Int)
theorem bnd_at {s k : Nat} (h : k < s) : (bnd s)[k]? = some (7 * k + 6 : Int) := by
  unfold bnd
  rw [List.getElem?_map, List.getElem?_range h]
  rfl
theorem bnd_succ {s : Nat} : bnd s ++ [(7 * s + 6 : Int)] = bnd (s + 1) := by
  unfold bnd
  rw [List.range_succ, List.map_append]
  rfl
theorem step_chain {s : Nat} : stepF (code more worth s) (bnd s) = some (7 * s + 6 : Int) := by
  unfold stepF
  cases s with
  | zero => simp [code, calB]
  | succ s =>
    have := bnd_at (show s < s + 1 by omega)
    simp [code, calB, this]
    omega
theorem fit_chain {s : Nat} (h : s + 1 < many) : fitF (img top kept more worth many) (s + 1) s 0 = some true := by
  unfold fitF
  rw [if_neg (by omega), segs_at h, Option.bind_some, segs_at (show s < many by omega), Option.bind_some]
  simp [img]
theorem code_chain {s : Nat} (h : s < many) (hm : more ≤ 999999) (hw : 1 ≤ worth ∧ worth ≤ 999) : ∃ lv, codeF (img top kept more worth many) s (code more worth s) (List.replicate s 2) (List.range (code more worth s).length) (initH (code more worth s)) = some (none, ⟨2, lv⟩) := by
  have hm' : ¬ 999999 < more := by omega
  cases s with
  | zero =>
    have hs := segs_at (top := top) (kept := kept) (more := more) (worth := worth) h
    have ht : (img top kept more worth many).tables[0]? = some [(top, kept)] := rfl
    have w0 : wordF (img top kept more worth many) 0 0 = some 0 := by unfold wordF; rw [hs]; simp [code, ht]
    have w1 : wordF (img top kept more worth many) 0 1 = some 0 := by unfold wordF; rw [hs]; simp [code, hm']
    have w2 : wordF (img top kept more worth many) 0 2 = some 0 := by unfold wordF; rw [hs]; simp [code]
    have w3 : wordF (img top kept more worth many) 0 3 = some 0 := by unfold wordF; rw [hs]; simp [code, ht]
    have w4 : wordF (img top kept more worth many) 0 4 = some 0 := by unfold wordF; rw [hs]; simp [code, hw]
    have w5 : wordF (img top kept more worth many) 0 5 = some 0 := by unfold wordF; rw [hs]; simp [code]
    have hr : List.range (code more worth 0).length = [0, 1, 2, 3, 4, 5] := rfl
    rw [hr]
    refine ⟨[0, 1, 2, 1, 0, 0], ?_⟩
    simp [codeF, w0, w1, w2, w3, w4, w5, initH, code, visitF, canF, peakF, handF, tkF, puF]
  | succ s =>
    have hs := segs_at (top := top) (kept := kept) (more := more) (worth := worth) h
    have hf := fit_chain (top := top) (kept := kept) (more := more) (worth := worth) h
    have ht : (img top kept more worth many).tables[0]? = some [(top, kept)] := rfl
    have w0 : wordF (img top kept more worth many) (s + 1) 0 = some 0 := by unfold wordF; rw [hs]; simp [code, ht]
    have w1 : wordF (img top kept more worth many) (s + 1) 1 = some 0 := by unfold wordF; rw [hs]; simp [code, hm']
    have w2 : wordF (img top kept more worth many) (s + 1) 2 = some 0 := by unfold wordF; rw [hs]; simp [code]
    have w3 : wordF (img top kept more worth many) (s + 1) 3 = some 0 := by unfold wordF; rw [hs]; simp [code, ht]
    have w4 : wordF (img top kept more worth many) (s + 1) 4 = some 0 := by unfold wordF; rw [hs]; simp [code, hf]
    have w5 : wordF (img top kept more worth many) (s + 1) 5 = some 0 := by unfold wordF; rw [hs]; simp [code, hw]
    have w6 : wordF (img top kept more worth many) (s + 1) 6 = some 0 := by unfold wordF; rw [hs]; simp [code]
    have hr : List.range (code more worth (s + 1)).length = [0, 1, 2, 3, 4, 5, 6] := rfl
    rw [hr]
    have hp : (List.replicate (s + 1) (2 : Int))[s]? = some 2 := by rw [List.getElem?_replicate]; simp
    refine ⟨[0, 1, 2, 1, 0, 0, 0], ?_⟩
    generalize List.replicate (s + 1) (2 : Int) = P at hp ⊢
    simp [codeF, w0, w1, w2, w3, w4, w5, w6, initH, code, visitF, canF, peakF, handF, tkF, puF, hp]
theorem aud_chain (hm : more ≤ 999999) (hw : 1 ≤ worth ∧ worth ≤ 999) (hmany : many ≤ 2000) : ∀ (n s : Nat), s + n = many → audF (img top kept more worth many) (List.range' s n) (List.replicate s 2) (bnd s) = some (none, bnd many)
  | 0, s, h => by
    have : s = many := by omega
    subst this
    rfl
  | n + 1, s, h => by
    have hs : s < many := by omega
    rw [List.range'_succ, audF, out_chain hs, Option.bind_some]
    dsimp only
    obtain ⟨lv, hc⟩ := code_chain (top := top) (kept := kept) hs hm hw
    rw [segs_at hs, Option.bind_some, hc, Option.bind_some]
    dsimp only
    rw [step_chain, Option.bind_some, if_neg (by omega), bnd_succ]
    have hr : List.replicate s (2 : Int) ++ [2] = List.replicate (s + 1) 2 := by rw [List.replicate_succ']
    rw [hr]
    exact aud_chain hm hw hmany n (s + 1) (by omega)
theorem audit_chain (hm : more ≤ 999999) (hw : 1 ≤ worth ∧ worth ≤ 999) (h1 : 1 ≤ many) (hmany : many ≤ 2000) : auditF (img top kept more worth many) = some none := by
  unfold auditF
  have hl : (img top kept more worth many).segs.length = many := by
    show ((List.range many).map _).length = many
    rw [List.length_map, List.length_range]
  have := aud_chain (top := top) (kept := kept) hm hw hmany many 0 (by omega)
  rw [hl, List.range_eq_range']
  rw [show List.replicate 0 (2 : Int) = [] from rfl, show bnd 0 = [] from rfl] at this
  rw [this, Option.map_some]
  have hp : planF (img top kept more worth many) = false := by
    unfold planF
    rw [hl]
    simp [img]
    omega
  dsimp only
  rw [hp]
  rfl
theorem bnds_chain : ∀ (n s : Nat), bndsF ((List.range' s n).map fun k => (0, code more worth k)) (bnd s) = some (bnd (s + n))
  | 0, s => rfl
  | n + 1, s => by
    rw [List.range'_succ, List.map_cons, bndsF, step_chain, Option.bind_some, bnd_succ, bnds_chain n (s + 1)]
    congr 2
    omega
theorem bnds_all : bndsF (img top kept more worth many).segs [] = some (bnd many) := by
  have := bnds_chain (more := more) (worth := worth) many 0
  rw [Nat.zero_add, ← List.range_eq_range'] at this
  exact this
end
theorem flat_le {α : Type} {w : α → List Nat} {c : Nat} : ∀ {l : List α}, (∀ a ∈ l, (w a).length ≤ c) → (l.flatMap w).length ≤ c * l.length
  | [], _ => Nat.zero_le _
  | a :: l, h => by
    rw [List.flatMap_cons, List.length_append, List.length_cons, Nat.mul_add, Nat.mul_one]
    have := h a List.mem_cons_self
    have := flat_le (l := l) fun b hb => h b (List.mem_cons_of_mem _ hb)
    omega
section
variable {top : Nat} {kept : Bool} {more worth many : Nat}
theorem insOk_chain (hm : more ≤ 999999) (hw : 1 ≤ worth ∧ worth ≤ 999) {s : Nat} (hs : s ≤ 2000) : ∀ i ∈ code more worth s, insOk i := by
  cases s with
  | zero =>
    intro i hi
    simp only [code, List.mem_cons, List.not_mem_nil, or_false] at hi
    rcases hi with rfl | rfl | rfl | rfl | rfl | rfl <;> simp [insOk, argc, numOk] <;> omega
  | succ s =>
    intro i hi
    simp only [code, List.mem_cons, List.not_mem_nil, or_false] at hi
    rcases hi with rfl | rfl | rfl | rfl | rfl | rfl | rfl <;> simp [insOk, argc, numOk] <;> omega
theorem ok_chain (ht : top ≤ 2097151) (hm : more ≤ 999999) (hw : 1 ≤ worth ∧ worth ≤ 999) (hmany : many ≤ 2000) : (imgN top kept more worth many).Ok where
  t0 := by simp [imgN, numOk]
  t := fun t h => by
    simp only [imgN, List.mem_singleton] at h
    subst h
    refine ⟨by simp [numOk], fun p hp => ?_⟩
    simp only [List.mem_singleton] at hp
    subst hp
    simp only [cellOk, numOk]
    omega
  s0 := by simp [imgN, numOk]; omega
  s := fun g h => by
    obtain ⟨s, hs, rfl⟩ := List.mem_map.mp h
    have hs' := List.mem_range.mp hs
    refine ⟨by simp [numOk], ?_, insOk_chain hm hw (by omega)⟩
    cases s <;> simp [code, numOk]
  p0 := by simp [imgN, numOk]
  p := fun l h => by
    simp only [imgN, List.mem_singleton] at h
    subst h
    refine ⟨by simp [numOk], fun a ha => ?_⟩
    simp only [List.mem_singleton] at ha
    subst ha
    simp only [numOk]
    omega
end
/-- the numbers of an image that is well formed -/
theorem nums_ok {m : ImgN} (h : m.Ok) : ∀ a ∈ imgNs m, numOk a := by
  obtain ⟨t0, t, s0, s, p0, p⟩ := h
  intro a ha
  unfold imgNs at ha
  simp only [List.mem_append, List.mem_cons, List.mem_flatMap] at ha
  rcases ha with (ha | ha) | ha
  · rcases ha with rfl | ⟨x, hx, ha⟩
    · exact t0
    · obtain ⟨q1, q2⟩ := t x hx
      unfold tabNs at ha
      simp only [List.mem_cons, List.mem_flatMap, List.not_mem_nil, or_false] at ha
      rcases ha with rfl | ⟨c, hc, rfl | rfl⟩
      · exact q1
      · exact q2 c hc
      · unfold b2n numOk; split <;> omega
  · rcases ha with rfl | ⟨x, hx, ha⟩
    · exact s0
    · obtain ⟨q1, q2, q3⟩ := s x hx
      unfold segNs at ha
      simp only [List.mem_cons, List.mem_flatMap] at ha
      rcases ha with rfl | rfl | ⟨i, hi, ha⟩
      · exact q1
      · exact q2
      · obtain ⟨r1, r2, r3⟩ := q3 i hi
        unfold insNs at ha
        rcases List.mem_cons.mp ha with rfl | ha
        · unfold numOk; omega
        · exact r3 a ha
  · rcases ha with rfl | ⟨x, hx, ha⟩
    · exact p0
    · obtain ⟨q1, q2⟩ := p x hx
      unfold planNs at ha
      rcases List.mem_cons.mp ha with rfl | ha
      · exact q1
      · exact q2 a ha
theorem grp_le3 {n : Nat} (h : numOk n) : (grp n).length ≤ 3 ∧ ∀ b ∈ grp n, b < 256 := by
  unfold numOk at h
  by_cases h1 : n < 128
  · rw [grp_lt h1]; simp; omega
  · rw [grp_ge h1]
    by_cases h2 : n / 128 < 128
    · rw [grp_lt h2]; simp; omega
    · rw [grp_ge h2, grp_lt (by omega)]; simp; omega
theorem body_le {m : ImgN} (h : m.Ok) : (bodyF m).length ≤ 1 + 3 * (imgNs m).length := by
  have := flat_le (w := grp) (c := 3) fun a ha => (grp_le3 (nums_ok h a ha)).1
  unfold bodyF
  rw [List.length_cons]
  omega
theorem pack_byt {m : ImgN} (h : m.Ok) : ∀ a ∈ packF m, a < 256 := by
  intro a ha
  unfold packF at ha
  rcases List.mem_append.mp ha with ha | ha
  · unfold bodyF at ha
    rcases List.mem_cons.mp ha with rfl | ha
    · omega
    · obtain ⟨n, hn, ha⟩ := List.mem_flatMap.mp ha
      exact (grp_le3 (nums_ok h n hn)).2 a ha
  · rw [List.mem_singleton] at ha
    subst ha
    omega
theorem len_chain {top : Nat} {kept : Bool} {more worth many : Nat} (hmany : many ≤ 2000) : (imgNs (imgN top kept more worth many)).length ≤ 40000 := by
  have h : (((List.range many).map fun k => (0, code more worth k)).flatMap segNs).length ≤ 15 * many := by
    have := flat_le (w := segNs) (c := 15) (l := (List.range many).map fun k => (0, code more worth k)) fun g hg => by
      obtain ⟨s, _, rfl⟩ := List.mem_map.mp hg
      cases s <;> simp [segNs, code, insNs]
    rwa [List.length_map, List.length_range] at this
  unfold imgNs imgN
  simp only [List.length_append, List.length_cons]
  have h1 : ([[(top, kept)]].flatMap tabNs).length = 3 := rfl
  have h2 : ([[many - 1]].flatMap planNs).length = 2 := rfl
  omega
/-- what the law counts -/
theorem val_min {top old : Int} {more i : Nat} (ht : 0 ≤ top) (ho : 0 ≤ old ∧ old ≤ top) : val top more old (i + 1) = min top (min 999999 (val top more old i + more)) ∧ 0 ≤ val top more old i ∧ val top more old i ≤ top := by
  have hb : ∀ i, 0 ≤ val top more old i ∧ val top more old i ≤ top := fun i => by
    induction i with
    | zero => exact ho
    | succ i ih =>
      rw [val]
      unfold sat
      omega
  obtain ⟨h1, h2⟩ := hb i
  refine ⟨?_, h1, h2⟩
  rw [val]
  unfold sat clampI
  omega
end LC
end

section
set_option Elab.async false
set_option linter.all false
set_option maxRecDepth 100000
set_option maxHeartbeats 4000000
namespace K87
open PySem LG LM
section
variable {k : Nat} {L : LH} {X : LV}
/-- one statement, then the rest -/
theorem ss_step {F : Fn} {s : LS} {R : LSs} {σ σ' : LSt} {L L' : LH} (h : evS F s σ L = .ok (.nx, σ') L') : evSs F (.cons s R) σ L = evSs F R σ' L' := by rw [ss_cons, h, then_nx]
theorem set_draw {F : Fn} {σ : LSt} {b i : Nat} {e : LE} {P : Int → Prop} (h : Draw F σ b e P) (hb : BagAt b L) : ∃ L' v, evS F (.set i e) σ L = .ok (.nx, σ.set i (some (.int v))) L' ∧ P v ∧ BagAt b L' ∧ Ext1 b L L' := by
  obtain ⟨L', v, h1, h2⟩ := h L hb
  exact ⟨L', v, by rw [s_set, h1, bind_ok], h2⟩
/-- the first six statements: what is drawn -/
theorem part1 {ns : List Int} : ∃ (L' : LH) (n t m w : Nat) (kp : Bool), (1 ≤ n ∧ n ≤ 2000) ∧ (1 ≤ t ∧ t ≤ 2097151) ∧ m ≤ 999 ∧ (1 ≤ w ∧ w ≤ 999) ∧ BagAt L.n L' ∧
    ∀ R, evSs (mo.F 39) (.cons ls0 (.cons ls1 (.cons ls2 (.cons ls3 (.cons ls4 (.cons ls5 R)))))) [some (.scr (ns.map LV.int)), none, none, none, none, none, none, none, none, none, none, none, none, none, none, none, none, none] L
      = evSs (mo.F 39) R [some (.scr (ns.map LV.int)), some (.ref L.n), some (.int n), some (.int t), some (.bl kp), some (.int m), some (.int w), none, none, none, none, none, none, none, none, none, none, none] L' := by
  obtain ⟨c, a, f, hbag⟩ := bag_ok (k := 38) (L := L) (ns := ns) rfl
  have e0 : evS (mo.F 39) ls0 [some (.scr (ns.map LV.int)), none, none, none, none, none, none, none, none, none, none, none, none, none, none, none, none, none] L = .ok (.nx, [some (.scr (ns.map LV.int)), some (.ref L.n), none, none, none, none, none, none, none, none, none, none, none, none, none, none, none, none]) (L.new (bagL c a f)) := by
    generalize ns.map LV.int = xs at hbag ⊢
    simp [ls0, hbag]
  generalize hX : LV.scr (ns.map LV.int) = X at e0 ⊢
  have hB : BagAt L.n (L.new (bagL c a f)) := ⟨by rw [LH.new_n]; omega, c, a, f, LH.new_same _ _⟩
  have tk : ∀ (σ : LSt) (m : Int), σ[1]? = some (some (.ref L.n)) → 0 < m → m < 1073741824 → Draw (mo.F 39) σ L.n (.call 23 (.cons (.var 1) (.cons (.con (.int m)) .nil))) fun v => 0 ≤ v ∧ v < m := fun σ m h h0 h1 => take_con (k := 38) h h0 h1
  have pk : ∀ (σ : LSt) (es : LEs) (P : Int → Prop), σ[1]? = some (some (.ref L.n)) → DrawAs (mo.F 39) σ L.n es P → 0 < es.len → es.len < 1000000 → Draw (mo.F 39) σ L.n (.call 24 (.cons (.var 1) (.cons (.lst es) .nil))) P := fun σ es P h h0 h1 h2 => draw_pick (k := 37) h h0 h1 h2
  generalize hF : mo.F 39 = F at tk pk e0 ⊢
  have off : ∀ (σ : LSt) (c m lo hi : Int), σ[1]? = some (some (.ref L.n)) → 0 < m → m < 1073741824 → lo ≤ c → c + m ≤ hi + 1 → Draw F σ L.n (.bin .add (.con (.int c)) (.call 23 (.cons (.var 1) (.cons (.con (.int m)) .nil)))) fun v => lo ≤ v ∧ v ≤ hi := fun σ c m lo hi h h0 h1 h2 h3 =>
    draw_add (P := fun x => x = c) (draw_con rfl) (tk σ m h h0 h1) fun x y hx hy => by omega
  obtain ⟨L1, n, e1, n1, B1, x1⟩ := set_draw (i := 2) (L := L.new (bagL c a f)) (pk [some X, some (.ref L.n), none, none, none, none, none, none, none, none, none, none, none, none, none, none, none, none] _ (fun v => 1 ≤ v ∧ v ≤ 2000) rfl
    (draws_cons (off _ 1 30 1 2000 rfl (by omega) (by omega) (by omega) (by omega)) (draws_cons (off _ 2 29 1 2000 rfl (by omega) (by omega) (by omega) (by omega)) (draws_cons (off _ 31 70 1 2000 rfl (by omega) (by omega) (by omega) (by omega))
      (draws_cons (off _ 101 900 1 2000 rfl (by omega) (by omega) (by omega) (by omega)) (draws_cons (off _ 1001 1000 1 2000 rfl (by omega) (by omega) (by omega) (by omega)) draws_nil))))) (by decide) (by decide)) hB
  obtain ⟨L2, t, e2, n2, B2, x2⟩ := set_draw (i := 3) (L := L1) (pk [some X, some (.ref L.n), some (.int n), none, none, none, none, none, none, none, none, none, none, none, none, none, none, none] _ (fun v => 1 ≤ v ∧ v ≤ 2097151) rfl
    (draws_cons (draw_con (c := 1) (by omega)) (draws_cons (off _ 1 999 1 2097151 rfl (by omega) (by omega) (by omega) (by omega)) (draws_cons (draw_con (c := 2097151) (by omega)) draws_nil))) (by decide) (by decide)) B1
  obtain ⟨L3, kv, e3, n3, B3, x3⟩ := tk [some X, some (.ref L.n), some (.int n), some (.int t), none, none, none, none, none, none, none, none, none, none, none, none, none, none] 2 rfl (by omega) (by omega) L2 B2
  have e3' : evS F ls3 [some X, some (.ref L.n), some (.int n), some (.int t), none, none, none, none, none, none, none, none, none, none, none, none, none, none] L2 = .ok (.nx, [some X, some (.ref L.n), some (.int n), some (.int t), some (.bl (decide (kv = 0))), none, none, none, none, none, none, none, none, none, none, none, none, none]) L3 := by
    unfold ls3
    rw [s_set, e_cmp, e3]
    simp
  obtain ⟨L4, m, e4, n4, B4, x4⟩ := set_draw (i := 5) (L := L3) (pk [some X, some (.ref L.n), some (.int n), some (.int t), some (.bl (decide (kv = 0))), none, none, none, none, none, none, none, none, none, none, none, none, none] _ (fun v => 0 ≤ v ∧ v ≤ 999) rfl
    (draws_cons (draw_con (c := 1) (by omega)) (draws_cons (draw_con (c := 0) (by omega)) (draws_cons (off _ 1 999 0 999 rfl (by omega) (by omega) (by omega) (by omega)) draws_nil))) (by decide) (by decide)) B3
  obtain ⟨L5, w, e5, n5, B5, x5⟩ := set_draw (i := 6) (L := L4) (pk [some X, some (.ref L.n), some (.int n), some (.int t), some (.bl (decide (kv = 0))), some (.int m), none, none, none, none, none, none, none, none, none, none, none, none] _ (fun v => 1 ≤ v ∧ v ≤ 999) rfl
    (draws_cons (draw_con (c := 1) (by omega)) (draws_cons (draw_con (c := 999) (by omega)) (draws_cons (draw_con (c := 1) (by omega)) (draws_cons (off _ 1 999 1 999 rfl (by omega) (by omega) (by omega) (by omega)) draws_nil)))) (by decide) (by decide)) B4
  obtain ⟨n, rfl⟩ : ∃ q : Nat, n = q := ⟨n.toNat, by omega⟩
  obtain ⟨t, rfl⟩ : ∃ q : Nat, t = q := ⟨t.toNat, by omega⟩
  obtain ⟨m, rfl⟩ : ∃ q : Nat, m = q := ⟨m.toNat, by omega⟩
  obtain ⟨w, rfl⟩ : ∃ q : Nat, w = q := ⟨w.toNat, by omega⟩
  refine ⟨L5, n, t, m, w, decide (kv = 0), by omega, by omega, by omega, by omega, B5, fun R => ?_⟩
  rw [ss_step e0]
  show evSs F (.cons (.set 2 _) _) _ _ = _
  rw [ss_step e1]
  show evSs F (.cons (.set 3 _) _) [some X, some (.ref L.n), some (.int n), none, none, none, none, none, none, none, none, none, none, none, none, none, none, none] _ = _
  rw [ss_step e2]
  show evSs F (.cons ls3 _) [some X, some (.ref L.n), some (.int n), some (.int t), none, none, none, none, none, none, none, none, none, none, none, none, none, none] _ = _
  rw [ss_step e3']
  show evSs F (.cons (.set 5 _) _) _ _ = _
  rw [ss_step e4]
  show evSs F (.cons (.set 6 _) _) [some X, some (.ref L.n), some (.int n), some (.int t), some (.bl (decide (kv = 0))), some (.int m), none, none, none, none, none, none, none, none, none, none, none, none] _ = _
  rw [ss_step e5]
  rfl
end
end K87
end

section
set_option Elab.async false
set_option linter.all false
set_option maxRecDepth 100000
set_option maxHeartbeats 4000000
namespace K87
open PySem LG LM
def addLV (m : Nat) : List LV := [insLV nS (1, [0]), insLV nS (0, [m]), insLV nS (9, []), insLV nS (2, [0])]
def segV (m w k : Nat) : LV := segLV nS (0, LC.code m w k)
def bB8 : LSs := match ls8 with
  | .for _ _ b => b
  | _ => .nil
def bB13 : LSs := match ls13 with
  | .for _ _ b => b
  | _ => .nil
section
variable {L : LH} {X : LV} {F : Fn} {b n t m w : Nat} {kp : Bool}
theorem hadd_eq {xs ys : List LV} {L : LH} (h : xs.length + ys.length < 100) : binV .add (.tup xs) (.tup ys) L = .ok (.tup (xs ++ ys)) L := bin_addT (by
  have : sizeLine = 16777216 := rfl
  omega)
theorem seg_loop {S : List LV} {sg : Nat} : ∀ (c j : Nat) (L : LH) (x : Option LV), L.at_ sg = some (.lst ((List.range (j + 1)).map (segV m w))) → j + c < 100000 →
    ∃ L' x', forL (.vals S) (forB F (.name 9) bB8) ((List.range' j c).map fun (i : Nat) => LV.int (i : Int)) [some X, some (.ref b), some (.int n), some (.int t), some (.bl kp), some (.int m), some (.int w), some (.tup (addLV m)), some (.ref sg), x, none, none, none, none, none, none, none, none] L
      = .ok (.nx, [some X, some (.ref b), some (.int n), some (.int t), some (.bl kp), some (.int m), some (.int w), some (.tup (addLV m)), some (.ref sg), x', none, none, none, none, none, none, none, none]) L' ∧ L'.n = L.n ∧ L'.at_ sg = some (.lst ((List.range (j + c + 1)).map (segV m w))) ∧ ∀ z, z ≠ sg → L'.at_ z = L.at_ z
  | 0, j, L, x, h, hj => ⟨L, x, forV_nil, rfl, h, fun _ _ => rfl⟩
  | c + 1, j, L, x, h, hj => by
    have hline : sizeLine = 16777216 := rfl
    have hs : (List.range (j + 1)).map (segV m w) ++ [segV m w (j + 1)] = (List.range (j + 1 + 1)).map (segV m w) := by rw [List.range_succ (n := j + 1), List.map_append]; rfl
    obtain ⟨L', x', e1, e2, e3, e4⟩ := seg_loop (S := S) (sg := sg) c (j + 1) (L.put sg (.lst ((List.range (j + 1 + 1)).map (segV m w)))) (some (.int (j : Int))) (LH.put_same _ _ _) (by omega)
    refine ⟨L', x', ?_, e2, by rw [e3]; congr 4; omega, fun z hz => (e4 z hz).trans (put_ne hz)⟩
    rw [List.range'_succ, List.map_cons, forV_cons]
    have hseg : LV.tup [.int 0, .tup (addLV m ++ [.tup [.str (cs 22), .int (j : Int), .int 0], .tup [.str (cs 23), .int (w : Int)], .tup [.str (cs 24)]])] = segV m w (j + 1) := rfl
    have p1 := bm_lst (m := .lappend) h rfl
    have p2 : bmV .lappend (.ref sg) [segV m w (j + 1)] L = .ok .non (L.put sg (.lst ((List.range (j + 1 + 1)).map (segV m w)))) := by
      rw [m_append h (by rw [List.length_map, List.length_range]; omega), hs]
    have ha : ∀ L : LH, binV .add (.tup (addLV m)) (.tup [.tup [.str (cs 22), .int (j : Int), .int 0], .tup [.str (cs 23), .int (w : Int)], .tup [.str (cs 24)]]) L = .ok (.tup (addLV m ++ [.tup [.str (cs 22), .int (j : Int), .int 0], .tup [.str (cs 23), .int (w : Int)], .tup [.str (cs 24)]])) L := fun L => hadd_eq (by simp [addLV])
    rw [← hseg] at p2
    generalize addLV m = A at ha p2 e1 ⊢
    have hb : forB F (.name 9) bB8 (.int (j : Int)) [some X, some (.ref b), some (.int n), some (.int t), some (.bl kp), some (.int m), some (.int w), some (.tup A), some (.ref sg), x, none, none, none, none, none, none, none, none] L
        = .ok (.nx, [some X, some (.ref b), some (.int n), some (.int t), some (.bl kp), some (.int m), some (.int w), some (.tup A), some (.ref sg), some (.int (j : Int)), none, none, none, none, none, none, none, none]) (L.put sg (.lst ((List.range (j + 1 + 1)).map (segV m w)))) := by
      generalize L.put sg (.lst ((List.range (j + 1 + 1)).map (segV m w))) = L2 at p2 ⊢
      simp [forB, bB8, ls8, p1, ha, p2]
    rw [hb, turn_nx]
    exact e1
def vals (t : Nat) (m : Nat) (old : Int) (i : Nat) : LV := .int (LC.val (t : Int) m old i)
theorem sum_loop {S : List LV} {sm : Nat} {A sg I : LV} {old : Int} (ho : 0 ≤ old ∧ old ≤ t) : ∀ (c j : Nat) (L : LH) (x : Option LV), L.at_ sm = some (.lst ((List.range (j + 1)).map (vals t m old))) → j + c < 100000 →
    ∃ L' x', forL (.vals S) (forB F (.name 9) bB13) ((List.range' j c).map fun (i : Nat) => LV.int (i : Int)) [some X, some (.ref b), some (.int n), some (.int t), some (.bl kp), some (.int m), some (.int w), some A, some sg, x, some I, some (.int old), some (vals t m old j), some (.ref sm), none, none, none, none] L
      = .ok (.nx, [some X, some (.ref b), some (.int n), some (.int t), some (.bl kp), some (.int m), some (.int w), some A, some sg, x', some I, some (.int old), some (vals t m old (j + c)), some (.ref sm), none, none, none, none]) L' ∧ L'.n = L.n ∧ L'.at_ sm = some (.lst ((List.range (j + c + 1)).map (vals t m old))) ∧ ∀ z, z ≠ sm → L'.at_ z = L.at_ z
  | 0, j, L, x, h, hj => ⟨L, x, forV_nil, rfl, h, fun _ _ => rfl⟩
  | c + 1, j, L, x, h, hj => by
    have hline : sizeLine = 16777216 := rfl
    have hs : (List.range (j + 1)).map (vals t m old) ++ [vals t m old (j + 1)] = (List.range (j + 1 + 1)).map (vals t m old) := by rw [List.range_succ (n := j + 1), List.map_append]; rfl
    obtain ⟨L', x', e1, e2, e3, e4⟩ := sum_loop (S := S) (sm := sm) (A := A) (sg := sg) (I := I) ho c (j + 1) (L.put sm (.lst ((List.range (j + 1 + 1)).map (vals t m old)))) (some (.int (j : Int))) (LH.put_same _ _ _) (by omega)
    rw [show j + 1 + c = j + (c + 1) by omega] at e1 e3
    refine ⟨L', x', ?_, e2, e3, fun z hz => (e4 z hz).trans (put_ne hz)⟩
    rw [List.range'_succ, List.map_cons, forV_cons]
    have hv : vals t m old (j + 1) = .int (min (t : Int) (min 999999 (LC.val (t : Int) m old j + m))) := by
      unfold vals
      rw [(LC.val_min (i := j) (more := m) (by omega) ho).1]
    have p1 := bm_lst (m := .lappend) h rfl
    have p2 : bmV .lappend (.ref sm) [vals t m old (j + 1)] L = .ok .non (L.put sm (.lst ((List.range (j + 1 + 1)).map (vals t m old)))) := by
      rw [m_append h (by rw [List.length_map, List.length_range]; omega), hs]
    generalize L.put sm (.lst ((List.range (j + 1 + 1)).map (vals t m old))) = L2 at p2 e1
    have hb : forB F (.name 9) bB13 (.int (j : Int)) [some X, some (.ref b), some (.int n), some (.int t), some (.bl kp), some (.int m), some (.int w), some A, some sg, x, some I, some (.int old), some (vals t m old j), some (.ref sm), none, none, none, none] L
        = .ok (.nx, [some X, some (.ref b), some (.int n), some (.int t), some (.bl kp), some (.int m), some (.int w), some A, some sg, some (.int (j : Int)), some I, some (.int old), some (vals t m old (j + 1)), some (.ref sm), none, none, none, none]) L2 := by
      rw [hv] at p2 ⊢
      rw [show vals t m old j = .int (LC.val (t : Int) m old j) from rfl]
      generalize LC.val (t : Int) m old j = v at p2 ⊢
      simp [forB, bB13, ls13, p1, p2]
    rw [hb, turn_nx]
    exact e1
/-- the image, the old number, the sums -/
theorem part2 (hn : 1 ≤ n ∧ n ≤ 2000) (ht : 1 ≤ t ∧ t ≤ 2097151) (hB : BagAt b L) :
    ∃ (L' : LH) (old : Nat) (sg sm : Nat) (x : Option LV), old ≤ t ∧ BagAt b L' ∧ sm < L'.n ∧ sm ≠ b ∧ L'.at_ sm = some (.lst ((List.range (n + 1)).map (vals t m old))) ∧
    ∀ R, evSs (mo.F 39) (.cons ls6 (.cons ls7 (.cons ls8 (.cons ls9 (.cons ls10 (.cons ls11 (.cons ls12 (.cons ls13 R)))))))) [some X, some (.ref b), some (.int n), some (.int t), some (.bl kp), some (.int m), some (.int w), none, none, none, none, none, none, none, none, none, none, none] L
      = evSs (mo.F 39) R [some X, some (.ref b), some (.int n), some (.int t), some (.bl kp), some (.int m), some (.int w), some (.tup (addLV m)), some (.ref sg), x, some (imgLV nS (LC.img t kp m w n)), some (.int old), some (vals t m old n), some (.ref sm), none, none, none, none] L' := by
  have tk : ∀ (σ : LSt) (e : LE) (P : Int → Prop), σ[1]? = some (some (.ref b)) → Draw (mo.F 39) σ b e (fun m => 0 < m ∧ m < 1073741824 ∧ P m) → Draw (mo.F 39) σ b (.call 23 (.cons (.var 1) (.cons e .nil))) fun v => 0 ≤ v ∧ ∃ m, P m ∧ v < m := fun σ e P h h0 => draw_take (k := 38) h h0
  have pk : ∀ (σ : LSt) (es : LEs) (P : Int → Prop), σ[1]? = some (some (.ref b)) → DrawAs (mo.F 39) σ b es P → 0 < es.len → es.len < 1000000 → Draw (mo.F 39) σ b (.call 24 (.cons (.var 1) (.cons (.lst es) .nil))) P := fun σ es P h h0 h1 h2 => draw_pick (k := 37) h h0 h1 h2
  generalize hF : mo.F 39 = F at tk pk ⊢
  clear hF
  have hbn := hB.1
  have e6 : evS F ls6 [some X, some (.ref b), some (.int n), some (.int t), some (.bl kp), some (.int m), some (.int w), none, none, none, none, none, none, none, none, none, none, none] L = .ok (.nx, [some X, some (.ref b), some (.int n), some (.int t), some (.bl kp), some (.int m), some (.int w), some (.tup (addLV m)), none, none, none, none, none, none, none, none, none, none]) L := by
    simp [ls6, addLV, insLV, nS]
  have hseg : LV.tup [.int 0, .tup (addLV m ++ [.tup [.str (cs 23), .int (w : Int)], .tup [.str (cs 24)]])] = segV m w 0 := rfl
  have ha : ∀ L : LH, binV .add (.tup (addLV m)) (.tup [.tup [.str (cs 23), .int (w : Int)], .tup [.str (cs 24)]]) L = .ok (.tup (addLV m ++ [.tup [.str (cs 23), .int (w : Int)], .tup [.str (cs 24)]])) L := fun L => hadd_eq (by simp [addLV])
  have e7 : evS F ls7 [some X, some (.ref b), some (.int n), some (.int t), some (.bl kp), some (.int m), some (.int w), some (.tup (addLV m)), none, none, none, none, none, none, none, none, none, none] L
      = .ok (.nx, [some X, some (.ref b), some (.int n), some (.int t), some (.bl kp), some (.int m), some (.int w), some (.tup (addLV m)), some (.ref L.n), none, none, none, none, none, none, none, none, none]) (L.new (.lst [segV m w 0])) := by
    rw [← hseg]
    generalize addLV m = A at ha ⊢
    simp [ls7, ha]
  obtain ⟨L1, x1, a1, a2, a3, a4⟩ := seg_loop (F := F) (X := X) (b := b) (n := n) (t := t) (m := m) (w := w) (kp := kp) (S := rngL 0 (n - 1)) (sg := L.n) (n - 1) 0 (L.new (.lst [segV m w 0])) none (LH.new_same _ _) (by omega)
  have hr1 : rngL 0 (n - 1) = (List.range' 0 (n - 1)).map fun (j : Nat) => LV.int (j : Int) := by unfold rngL; rw [List.range_eq_range']; simp
  rw [← hr1] at a1
  have hsub : ((n : Int) - 1) = ((n - 1 : Nat) : Int) := by omega
  have e8 : evS F ls8 [some X, some (.ref b), some (.int n), some (.int t), some (.bl kp), some (.int m), some (.int w), some (.tup (addLV m)), some (.ref L.n), none, none, none, none, none, none, none, none, none] (L.new (.lst [segV m w 0]))
      = .ok (.nx, [some X, some (.ref b), some (.int n), some (.int t), some (.bl kp), some (.int m), some (.int w), some (.tup (addLV m)), some (.ref L.n), x1, none, none, none, none, none, none, none, none]) L1 := by
    show evS F (.for (.name 9) (.rng1 (.bin .sub (.var 2) (.con (.int 1)))) bB8) _ _ = _
    rw [s_for, i_rng1_nat (j := n - 1) (L1 := L.new (.lst [segV m w 0])) (by
      generalize addLV m = A
      rw [← hsub]
      simp) (by omega)]
    exact a1
  rw [LH.new_n] at a2
  rw [show 0 + (n - 1) + 1 = n by omega] at a3
  have htu : bfV .tuple [.ref L.n] L1 = .ok (.tup ((List.range n).map (segV m w))) L1 := tuple_lst a3
  have hI : LV.tup [.tup [.tup [.tup [.int t, .bl kp]]], .tup ((List.range n).map (segV m w)), .tup [.tup [.int ((n - 1 : Nat) : Int)]]] = imgLV nS (LC.img t kp m w n) := by
    unfold imgLV LC.img
    rw [List.map_map]
    rfl
  have e9 : evS F ls9 [some X, some (.ref b), some (.int n), some (.int t), some (.bl kp), some (.int m), some (.int w), some (.tup (addLV m)), some (.ref L.n), x1, none, none, none, none, none, none, none, none] L1
      = .ok (.nx, [some X, some (.ref b), some (.int n), some (.int t), some (.bl kp), some (.int m), some (.int w), some (.tup (addLV m)), some (.ref L.n), x1, some (imgLV nS (LC.img t kp m w n)), none, none, none, none, none, none, none]) L1 := by
    rw [← hI]
    generalize addLV m = A
    generalize (List.range n).map (segV m w) = G at htu ⊢
    rw [← hsub]
    simp [ls9, htu]
  clear hI
  generalize imgLV nS (LC.img t kp m w n) = I at e9 ⊢
  have hB1 : BagAt b L1 := by
    refine ⟨by omega, ?_⟩
    obtain ⟨c, a, f, h⟩ := hB.2
    exact ⟨c, a, f, by rw [a4 b (by omega), new_ne (by omega)]; exact h⟩
  obtain ⟨L2, old, e10, o1, B2, x2⟩ := set_draw (i := 11) (L := L1) (pk [some X, some (.ref b), some (.int n), some (.int t), some (.bl kp), some (.int m), some (.int w), some (.tup (addLV m)), some (.ref L.n), x1, some I, none, none, none, none, none, none, none] _ (fun v => 0 ≤ v ∧ v ≤ t) rfl
    (draws_cons (draw_con (c := 0) (by omega)) (draws_cons (draw_var (c := (t : Int)) (i := 3) rfl (by omega)) (draws_cons ((tk _ (.bin .add (.var 3) (.con (.int 1))) (fun x => x = (t : Int) + 1) rfl (draw_add (P := fun x => x = (t : Int)) (Q := fun x => x = 1) (draw_var rfl rfl) (draw_con rfl) fun x y hx hy => by omega)).mono fun v ⟨h1, x, h2, h3⟩ => by omega) draws_nil))) (by decide) (by decide)) hB1
  obtain ⟨old, rfl⟩ : ∃ q : Nat, old = q := ⟨old.toNat, by omega⟩
  have e11 : evS F ls11 [some X, some (.ref b), some (.int n), some (.int t), some (.bl kp), some (.int m), some (.int w), some (.tup (addLV m)), some (.ref L.n), x1, some I, some (.int old), none, none, none, none, none, none] L2
      = .ok (.nx, [some X, some (.ref b), some (.int n), some (.int t), some (.bl kp), some (.int m), some (.int w), some (.tup (addLV m)), some (.ref L.n), x1, some I, some (.int old), some (.int old), none, none, none, none, none]) L2 := by
    generalize addLV m = A
    simp [ls11]
  have e12 : evS F ls12 [some X, some (.ref b), some (.int n), some (.int t), some (.bl kp), some (.int m), some (.int w), some (.tup (addLV m)), some (.ref L.n), x1, some I, some (.int old), some (.int old), none, none, none, none, none] L2
      = .ok (.nx, [some X, some (.ref b), some (.int n), some (.int t), some (.bl kp), some (.int m), some (.int w), some (.tup (addLV m)), some (.ref L.n), x1, some I, some (.int old), some (.int old), some (.ref L2.n), none, none, none, none]) (L2.new (.lst [.int old])) := by
    generalize addLV m = A
    simp [ls12]
  obtain ⟨L3, x3, b1, b2, b3, b4⟩ := sum_loop (F := F) (X := X) (b := b) (n := n) (t := t) (m := m) (w := w) (kp := kp) (S := rngL 0 n) (sm := L2.n) (A := .tup (addLV m)) (sg := .ref L.n) (I := I) (old := (old : Int)) (by omega) n 0 (L2.new (.lst [.int old])) x1 (LH.new_same _ _) (by omega)
  have hr2 : rngL 0 n = (List.range' 0 n).map fun (j : Nat) => LV.int (j : Int) := by unfold rngL; rw [List.range_eq_range']; simp
  rw [← hr2, Nat.zero_add] at b1
  rw [Nat.zero_add] at b3
  have e13 : evS F ls13 [some X, some (.ref b), some (.int n), some (.int t), some (.bl kp), some (.int m), some (.int w), some (.tup (addLV m)), some (.ref L.n), x1, some I, some (.int old), some (.int old), some (.ref L2.n), none, none, none, none] (L2.new (.lst [.int old]))
      = .ok (.nx, [some X, some (.ref b), some (.int n), some (.int t), some (.bl kp), some (.int m), some (.int w), some (.tup (addLV m)), some (.ref L.n), x3, some I, some (.int old), some (vals t m old n), some (.ref L2.n), none, none, none, none]) L3 := by
    show evS F (.for (.name 9) (.rng1 (.var 2)) bB13) _ _ = _
    rw [s_for, i_rng1_nat (j := n) (L1 := L2.new (.lst [.int old])) (by
      generalize addLV m = A
      simp) (by omega)]
    exact b1
  rw [LH.new_n] at b2
  have hbL2 := B2.1
  refine ⟨L3, old, L.n, L2.n, x3, by omega, ⟨by omega, ?_⟩, by omega, by omega, b3, fun R => ?_⟩
  · obtain ⟨c, a, f, h⟩ := B2.2
    exact ⟨c, a, f, by rw [b4 b (by omega), new_ne (by omega)]; exact h⟩
  · rw [ss_step e6, ss_step e7, ss_step e8, ss_step e9]
    show evSs F (.cons (.set 11 _) _) _ _ = _
    rw [ss_step e10]
    show evSs F (.cons ls11 _) [some X, some (.ref b), some (.int n), some (.int t), some (.bl kp), some (.int m), some (.int w), some (.tup (addLV m)), some (.ref L.n), x1, some I, some (.int old), none, none, none, none, none, none] _ = _
    rw [ss_step e11, ss_step e12, ss_step e13]
end
end K87
end

section
set_option Elab.async false
set_option linter.all false
set_option maxRecDepth 100000
set_option maxHeartbeats 4000000
namespace K87
open PySem LG LM
theorem pl_int : ∀ {n : Nat} {i : Int}, Pl n (.int i)
  | 0, i => .inl ⟨i, rfl⟩
  | n + 1, i => .inl ⟨i, rfl⟩
theorem pl_str : ∀ {n : Nat} {s : Str}, Pl n (.str s)
  | 0, i => .inr (.inl ⟨i, rfl⟩)
  | n + 1, i => .inr (.inl ⟨i, rfl⟩)
theorem pl_bl : ∀ {n : Nat} {s : Bool}, Pl n (.bl s)
  | 0, i => .inr (.inr (.inl ⟨i, rfl⟩))
  | n + 1, i => .inr (.inr (.inl ⟨i, rfl⟩))
theorem pl_tup {n : Nat} {xs : List LV} (h : ∀ x ∈ xs, Pl n x) (hl : xs.length < 1000000000) : Pl (n + 1) (.tup xs) := .inr (.inr (.inr (.inr ⟨xs, rfl, hl, h⟩)))
theorem pl_img {m : Img} (ht : m.tables.length < 1000000000 ∧ ∀ t ∈ m.tables, t.length < 1000000000) (hs : m.segs.length < 1000000000 ∧ ∀ g ∈ m.segs, g.2.length < 1000000000 ∧ ∀ i ∈ g.2, i.2.length < 100000000) (hp : m.plan.length < 1000000000 ∧ ∀ p ∈ m.plan, p.length < 1000000000) : Pl 5 (imgLV nS m) := by
  refine pl_tup (fun x hx => ?_) (by simp)
  simp only [List.mem_cons, List.not_mem_nil, or_false] at hx
  rcases hx with rfl | rfl | rfl
  · refine pl_tup (fun x hx => ?_) (by simpa using ht.1)
    obtain ⟨t, h, rfl⟩ := List.mem_map.mp hx
    refine pl_tup (fun x hx => ?_) (by simpa using ht.2 t h)
    obtain ⟨c, h, rfl⟩ := List.mem_map.mp hx
    refine pl_tup (fun x hx => ?_) (by simp)
    simp only [List.mem_cons, List.not_mem_nil, or_false] at hx
    rcases hx with rfl | rfl
    · exact pl_int
    · exact pl_bl
  · refine pl_tup (fun x hx => ?_) (by simpa using hs.1)
    obtain ⟨g, h, rfl⟩ := List.mem_map.mp hx
    refine pl_tup (fun x hx => ?_) (by simp)
    simp only [List.mem_cons, List.not_mem_nil, or_false] at hx
    rcases hx with rfl | rfl
    · exact pl_int
    · refine pl_tup (fun x hx => ?_) (by simpa using (hs.2 g h).1)
      obtain ⟨i, hi, rfl⟩ := List.mem_map.mp hx
      have := (hs.2 g h).2 i hi
      refine pl_tup (fun x hx => ?_) (by simp; omega)
      rcases List.mem_cons.mp hx with rfl | hx
      · exact pl_str
      · obtain ⟨a, _, rfl⟩ := List.mem_map.mp hx
        exact pl_int
  · refine pl_tup (fun x hx => ?_) (by simpa using hp.1)
    obtain ⟨t, h, rfl⟩ := List.mem_map.mp hx
    refine pl_tup (fun x hx => ?_) (by simpa using hp.2 t h)
    obtain ⟨c, h, rfl⟩ := List.mem_map.mp hx
    exact pl_int
section
variable {L L1 L2 : LH} {F : Fn} {σ : LSt} {A B : LE} {V : LV}
/-- if not _law_same(A, B): return False -/
theorem check (hA : evE F A σ L = .ok V L1) (hB : evE F B σ L1 = .ok V L2) (hs : F.call 25 [V, V] L2 = .ok (.bl true) L2) :
    evS F (.ifs (.not (.call 25 (.cons A (.cons B .nil)))) (.cons (.ret (.con (.bl false))) .nil) .nil) σ L = .ok (.nx, σ) L2 := by
  rw [s_if, t_not, LG.t_call, a_cons, hA, bind_ok, a_cons, hB, bind_ok, a_nil, bind_ok, bind_ok, bind_ok, hs, bind_ok, tru_bl, ofOpt_some, bind_ok, bind_ok]
  simp
variable {X : LV} {b n t m w old sm : Nat} {kp : Bool} {AD SG : LV} {x : Option LV}
theorem bnd_ints : intsL (LC.bnd n) = (List.range n).map fun (j : Nat) => LV.int (7 * (j : Int) + 6) := by
  unfold intsL LC.bnd
  rw [List.map_map]
  rfl
theorem comp7 (hn : n ≤ 2000) (h2 : σ[2]? = some (some (.int n))) (h9 : 9 < σ.length) : ∃ L', evE F (.bf .tuple (.cons (.comp [9] (.name 9) (.rng1 (.var 2)) none .dct0 (.bin .add (.bin .mul (.con (.int 7)) (.var 9)) (.con (.int 6)))) .nil)) σ L = .ok (.tup (intsL (LC.bnd n))) L' ∧ Ext L L' := by
  have hline : sizeLine = 16777216 := rfl
  have hm : ∀ (j : Nat) (L : LH), binV .mul (.int 7) (.int (j : Int)) L = .ok (.int (7 * (j : Int))) L := fun j L => bin_mul (.inl (by omega))
  have hrl : rngL 0 n = (List.range n).map fun (j : Nat) => LV.int (j : Int) := by unfold rngL; simp
  obtain ⟨L', e1, e2, e3, e4, e5⟩ := compV_pure (S := rngL 0 n) (D := L.n) (f := fun (j : Nat) => LV.int (j : Int)) (g := fun j => some (LV.int (7 * (j : Int) + 6))) (G := fun _ => True)
    (body := compB (.name 9) (σ.set 9 none) none (evE F (.bin .add (.bin .mul (.con (.int 7)) (.var 9)) (.con (.int 6))))) (fun _ _ _ => trivial) (List.range n) [] (L.new (.lst [])) (fun j hj M _ => by
      have h : ((σ.set 9 none).set 9 (some (.int (j : Int))))[9]? = some (some (.int (j : Int))) := by simp [h9]
      simp only [compB, tgt_name, e_bin, e_con, e_var, h, Option.join_some, ofOpt_some, bind_ok, hm, bin_add]) trivial (LH.new_same _ _) (by simp; omega)
  refine ⟨L', ?_, ⟨by rw [e3]; simp, fun z hz => (e5 z (by omega)).trans (new_ne (by omega))⟩⟩
  have hI : evI F (.rng1 (.var 2)) σ L = .ok (.vals (rngL 0 n)) L := i_rng1_nat (by simp [h2]) (by omega)
  have hcomp : evE F (.comp [9] (.name 9) (.rng1 (.var 2)) none .dct0 (.bin .add (.bin .mul (.con (.int 7)) (.var 9)) (.con (.int 6)))) σ L = .ok (.ref L.n) L' := by
    rw [e_comp, hI, bind_ok]
    show (compL (.vals _) L.n (compB (.name 9) (σ.set 9 none) none _) (rngL 0 n) _).bind _ = _
    rw [hrl] at e1 ⊢
    rw [e1]
    rfl
  have e4' : L'.at_ L.n = some (.lst (intsL (LC.bnd n))) := by
    rw [e4, bnd_ints]
    simp
  rw [e_bf, a_cons, hcomp]
  simp [tuple_lst e4']
theorem seg_op : ∀ g ∈ (LC.img t kp m w n).segs, ∀ i ∈ g.2, i.1 < 25 := fun g hg i hi => by
  obtain ⟨s, hs, rfl⟩ := List.mem_map.mp hg
  cases s with
  | zero =>
    simp only [LC.code, List.mem_cons, List.not_mem_nil, or_false] at hi
    rcases hi with h | h | h | h | h | h <;> rw [h] <;> simp
  | succ s =>
    simp only [LC.code, List.mem_cons, List.not_mem_nil, or_false] at hi
    rcases hi with h | h | h | h | h | h | h <;> rw [h] <;> simp
theorem seg_len : ∀ g ∈ (LC.img t kp m w n).segs, g.2.length ≤ 7 ∧ ∀ i ∈ g.2, i.2.length ≤ 2 := fun g hg => by
  obtain ⟨s, hs, rfl⟩ := List.mem_map.mp hg
  cases s with
  | zero =>
    refine ⟨by simp [LC.code], fun i hi => ?_⟩
    simp only [LC.code, List.mem_cons, List.not_mem_nil, or_false] at hi
    rcases hi with h | h | h | h | h | h <;> rw [h] <;> simp
  | succ s =>
    refine ⟨by simp [LC.code], fun i hi => ?_⟩
    simp only [LC.code, List.mem_cons, List.not_mem_nil, or_false] at hi
    rcases hi with h | h | h | h | h | h | h <;> rw [h] <;> simp
theorem seg_many : (LC.img t kp m w n).segs.length = n := by
  show ((List.range n).map _).length = n
  rw [List.length_map, List.length_range]
theorem part3a (hn : 1 ≤ n ∧ n ≤ 2000) (hm : m ≤ 999) (hw : 1 ≤ w ∧ w ≤ 999) (h2 : σ[2]? = some (some (.int n))) (h9 : 9 < σ.length) (h10 : σ[10]? = some (some (imgLV nS (LC.img t kp m w n)))) :
    ∃ L', evS (mo.F 39) ls14 σ L = .ok (.nx, σ) L' ∧ Ext L L' := by
  obtain ⟨L1, a1, a2⟩ := audit_ok (k := 34) (L := L) (im := LC.img t kp m w n) seg_op (by simp [LC.img]) (by rw [seg_many]; omega) (LC.audit_chain (by omega) hw hn.1 hn.2)
  obtain ⟨L2, b1, b2⟩ := bnds_ok (k := 37) (L := L1) (im := LC.img t kp m w n) (fun g hg => ⟨by have := (seg_len g hg).1; omega, seg_op g hg⟩) (by rw [seg_many]; omega) LC.bnds_all
  obtain ⟨L3, c1, c2⟩ := comp7 (F := mo.F 39) (L := L2) (σ := σ) hn.2 h2 h9
  refine ⟨L3, ?_, (a2.trans b2).trans c2⟩
  have hs : (mo.F 39).call 25 [.tup (intsL (LC.bnd n)), .tup (intsL (LC.bnd n))] L3 = .ok (.bl true) L3 := same_ok (k := 37) 1 _ L3 (pl_tup (fun x hx => by
    obtain ⟨i, _, rfl⟩ := List.mem_map.mp hx
    exact pl_int) (by simp [intsL, LC.bnd]; omega))
  have hA : evE (mo.F 39) (.call 14 (.cons (.var 10) .nil)) σ L = .ok .non L1 := by
    rw [e_call, a_cons, e_var, h10]
    simp only [Option.join_some, ofOpt_some, bind_ok, a_nil, F_call]
    exact a1
  have hB : evE (mo.F 39) (.call 15 (.cons (.var 10) .nil)) σ L1 = .ok (.tup (intsL (LC.bnd n))) L2 := by
    rw [e_call, a_cons, e_var, h10]
    simp only [Option.join_some, ofOpt_some, bind_ok, a_nil, F_call]
    exact b1
  unfold ls14
  have e1 : evT (mo.F 39) (.cmp .notn (.call 14 (.cons (.var 10) .nil)) (.con .non)) σ L = .ok false L1 := by
    rw [t_cmp, hA]
    simp
  have e2 : evT (mo.F 39) (.not (.call 25 (.cons (.call 15 (.cons (.var 10) .nil)) (.cons (.bf .tuple (.cons (.comp [9] (.name 9) (.rng1 (.var 2)) none .dct0 (.bin .add (.bin .mul (.con (.int 7)) (.var 9)) (.con (.int 6)))) .nil)) .nil)))) σ L1 = .ok false L3 := by
    rw [t_not, LG.t_call, a_cons, hB, bind_ok, a_cons, c1, bind_ok, a_nil, bind_ok, bind_ok, bind_ok, hs, bind_ok, tru_bl, ofOpt_some, bind_ok]
    rfl
  rw [s_if, t_ors, to_2, e1, bind_ok, if_neg Bool.false_ne_true, to_1, e2, bind_ok, if_neg Bool.false_ne_true, ss_nil]
/-! the runs -/
def pP (t old : Nat) (kp : Bool) (m w n : Nat) : LC.P := ⟨t, old, kp, m, w, n⟩
theorem val_small (ht : t ≤ 2097151) (ho : old ≤ t) (i : Nat) : ((pP t old kp m w n).val i).natAbs < 2 ^ 63 := by
  have := (LC.val_min (i := i) (more := m) (top := (t : Int)) (old := (old : Int)) (by omega) (by omega)).2
  show (LC.val (t : Int) m (old : Int) i).natAbs < 2 ^ 63
  omega
theorem fill6 {a b c d e f : LV} : fill [a, b, c] [] [.inl 0, .inl 1, .inl 2, .inr (.inr d), .inr (.inr e), .inr (.inr f)] = some [a, b, c, d, e, f] := rfl
theorem kw0 {k : Nat} {a b c : LV} {L : LH} : callkV (mo.F k) 27 [] [a, b, c] [] L = run mo.pg k 27 [a, b, c, .int 1, .int (-1), .int (-1)] L := by
  have : mo.kw 27 3 [] = some [.inl 0, .inl 1, .inl 2, .inr (.inr (.int 1)), .inr (.inr (.int (-1))), .inr (.inr (.int (-1)))] := rfl
  simp [callkV, this, fill]
theorem kw9 {k : Nat} {a b c d : LV} {L : LH} : callkV (mo.F k) 27 [9] [a, b, c] [d] L = run mo.pg k 27 [a, b, c, .int 1, d, .int (-1)] L := by
  have : mo.kw 27 3 [9] = some [.inl 0, .inl 1, .inl 2, .inr (.inr (.int 1)), .inr (.inl 0), .inr (.inr (.int (-1)))] := rfl
  simp [callkV, this, fill]
theorem kw8 {k : Nat} {a b c d : LV} {L : LH} : callkV (mo.F k) 27 [8] [a, b, c] [d] L = run mo.pg k 27 [a, b, c, .int 1, .int (-1), d] L := by
  have : mo.kw 27 3 [8] = some [.inl 0, .inl 1, .inl 2, .inr (.inr (.int 1)), .inr (.inr (.int (-1))), .inr (.inl 0)] := rfl
  simp [callkV, this, fill]
end
end K87
end

section
set_option Elab.async false
set_option linter.all false
set_option maxRecDepth 100000
set_option maxHeartbeats 0
namespace K87
open PySem PySem.Spec PyProof.Rows L2 LG
abbrev R : PySem.W.OpenRow := PySem.W.OpenLaw.row PySem.Challenge.rw_rungstead_k87_whole_long_chains
theorem run_f (w : World) : HandSHeadRun.RunEq R (PySem.W.view R.prog [lawAt]) (mo.hook 5) (mo.ob 5) 20000 names (w.withFollow "special-get-raises" false) := by
  intro os
  kernel_rfl
theorem run_t (w : World) : HandSHeadRun.RunEq R (PySem.W.view R.prog [lawAt]) (mo.hook 5) (mo.ob 5) 20000 names (w.withFollow "special-get-raises" true) := by
  intro os
  kernel_rfl
theorem run_eq (w : World) : HandSHeadRun.RunEq R (PySem.W.view R.prog [lawAt]) (mo.hook 5) (mo.ob 5) 20000 names w := PySem.W.byRow2 "special-get-raises" (P := fun w => HandSHeadRun.RunEq R (PySem.W.view R.prog [lawAt]) (mo.hook 5) (mo.ob 5) 20000 names w) run_f run_t w
end K87
end

section
set_option Elab.async false
set_option linter.all false
set_option maxRecDepth 100000
set_option maxHeartbeats 4000000
namespace K87
open PySem PySem.Spec PyProof.Rows L2 LG
/-! how drive's keywords bind -/
theorem kw_ok (K : PySem.W.Frag) : KwOk mo K where
  d := fun f d n sl fd hf hk F => by
    have hk' : (mo.kws.find? fun p => p.1 == f && p.2.1 == n && p.2.2.1 == []).map (·.2.2.2) = some sl := hk
    simp only [mo, List.find?_cons, List.find?_nil] at hk'
    split at hk'
    · rename_i e; simp at e
    · split at hk'
      · rename_i e; simp at e
      · split at hk'
        · rename_i e
          simp only [Bool.and_eq_true, beq_iff_eq] at e
          obtain ⟨⟨rfl, rfl⟩, _⟩ := e
          simp only [Option.map_some, Option.some.injEq] at hk'
          subst hk'
          have hd : d = d27 := by
            have : mo.defs[27]? = some d27 := rfl
            rw [hf] at this
            exact Option.some.inj this
          subst hd
          obtain ⟨ds, h1, h2⟩ := FunD.binds0 (ps := ["image", "segment", "memory", "pace", "cut", "steps"]) F 3 (by simp [DD.dd, d27, He.DefD.kws]) rfl
            (fun D doc pm an cdv ct us ks l1 l2 => by
              match us, ks, l1, l2 with
              | [a, b, c], [x, y, z], _, _ => exact ⟨_, _, _, _, _, _, rfl, rfl, _, _, _, _, _, _, rfl, rfl, _, _, _, _, _, _, rfl, rfl, rfl⟩)
          refine ⟨ds, _, h2, h1, fun lvs ws hl hw => ?_⟩
          match lvs, hl with
          | [a, b, c], _ =>
            simp [LG.fill] at hw
            subst hw
            exact ⟨_, rfl, fun H ρ => Rls.mk (Rl.int.mpr rfl) (Rls.mk (Rl.int.mpr rfl) (Rls.mk (Rl.int.mpr rfl) Rls.nil'))⟩
        · simp at hk'
  k := fun f d n ks sl fd hf hn hk F => by
    have hk' : (mo.kws.find? fun p => p.1 == f && p.2.1 == n && p.2.2.1 == ks).map (·.2.2.2) = some sl := hk
    simp only [mo, List.find?_cons, List.find?_nil] at hk'
    have hd0 : ∀ d, mo.defs[27]? = some d → d = d27 := fun d h => by
      have : mo.defs[27]? = some d27 := rfl
      rw [h] at this
      exact Option.some.inj this
    split at hk'
    · rename_i e
      simp only [Bool.and_eq_true, beq_iff_eq] at e
      obtain ⟨⟨rfl, rfl⟩, rfl⟩ := e
      simp only [Option.map_some, Option.some.injEq] at hk'
      subst hk'
      have := hd0 d hf
      subst this
      obtain ⟨mv, B⟩ := FunD.kbinds0 (ps := ["image", "segment", "memory", "pace", "cut", "steps"]) F 3 ["steps"] [("pace", .int 1), ("cut", .int (-1))] (fun us mv ws => us ++ (mv ++ ws)) (by simp [DD.dd, d27, He.DefD.kws]) (by simp [DD.dd, d27, He.DefD.kws, He.Dv.v])
        (fun r1 r2 r3 => r1.append (r2.append r3)) (fun D doc pm an cdv ct us mv ws l1 l2 l3 => by
          match us, mv, ws, l1, l2, l3 with
          | [a, b, c], [x, y], [z], _, _, _ => exact ⟨_, _, _, _, _, _, rfl, rfl, _, _, _, _, _, _, rfl, rfl, rfl⟩)
      refine ⟨["steps"], _, _, rfl, B, fun H ρ lvs lzs ws vs zs h1 h2 r1 r2 hw => ?_⟩
      match lvs, h1, lzs, h2 with
      | [a, b, c], _, [z], _ =>
        simp [LG.fill] at hw
        subst hw
        obtain ⟨v1, q1, rfl, a1, r1⟩ := Rls.cons.mp r1
        obtain ⟨v2, q2, rfl, a2, r1⟩ := Rls.cons.mp r1
        obtain ⟨v3, q3, rfl, a3, r1⟩ := Rls.cons.mp r1
        cases Rls.nil.mp r1
        obtain ⟨w1, p1, rfl, b1, r2⟩ := Rls.cons.mp r2
        cases Rls.nil.mp r2
        exact Rls.mk a1 (Rls.mk a2 (Rls.mk a3 (Rls.mk (Rl.int.mpr rfl) (Rls.mk (Rl.int.mpr rfl) (Rls.mk b1 Rls.nil')))))
    · split at hk'
      · rename_i e
        simp only [Bool.and_eq_true, beq_iff_eq] at e
        obtain ⟨⟨rfl, rfl⟩, rfl⟩ := e
        simp only [Option.map_some, Option.some.injEq] at hk'
        subst hk'
        have := hd0 d hf
        subst this
        obtain ⟨mv, B⟩ := FunD.kbinds0 (ps := ["image", "segment", "memory", "pace", "cut", "steps"]) F 3 ["cut"] [("pace", .int 1), ("steps", .int (-1))] (fun us mv ws => us ++ (mv.take 1 ++ (ws ++ mv.drop 1))) (by simp [DD.dd, d27, He.DefD.kws]) (by simp [DD.dd, d27, He.DefD.kws, He.Dv.v])
          (fun r1 r2 r3 => r1.append ((r2.take 1).append (r3.append (r2.drop 1)))) (fun D doc pm an cdv ct us mv ws l1 l2 l3 => by
            match us, mv, ws, l1, l2, l3 with
            | [a, b, c], [x, y], [z], _, _, _ => exact ⟨_, _, _, _, _, _, rfl, rfl, _, _, _, _, _, _, rfl, rfl, rfl⟩)
        refine ⟨["cut"], _, _, rfl, B, fun H ρ lvs lzs ws vs zs h1 h2 r1 r2 hw => ?_⟩
        match lvs, h1, lzs, h2 with
        | [a, b, c], _, [z], _ =>
          simp [LG.fill] at hw
          subst hw
          obtain ⟨v1, q1, rfl, a1, r1⟩ := Rls.cons.mp r1
          obtain ⟨v2, q2, rfl, a2, r1⟩ := Rls.cons.mp r1
          obtain ⟨v3, q3, rfl, a3, r1⟩ := Rls.cons.mp r1
          cases Rls.nil.mp r1
          obtain ⟨w1, p1, rfl, b1, r2⟩ := Rls.cons.mp r2
          cases Rls.nil.mp r2
          exact Rls.mk a1 (Rls.mk a2 (Rls.mk a3 (Rls.mk (Rl.int.mpr rfl) (Rls.mk b1 (Rls.mk (Rl.int.mpr rfl) Rls.nil')))))
      · split at hk'
        · rename_i e
          simp only [Bool.and_eq_true, beq_iff_eq] at e
          obtain ⟨_, rfl⟩ := e
          exact absurd rfl hn
        · simp at hk'
end K87
end

section
set_option Elab.async false
set_option linter.all false
set_option maxRecDepth 100000
set_option maxHeartbeats 0
namespace K87
open PySem PySem.W PySem.Calls PyProof.Rows
theorem holds_of (plain : ∀ ns : List Int, ns.length ≤ 63 → (∀ z ∈ ns, Builtin.Int.intBits z ≤ 1048576) → ∃ L, LG.run mo.pg 40 26 [.scr (ns.map LG.LV.int)] LG.L0 = .ok (.bl true) L) : PySem.Challenge.rw_rungstead_k87_whole_long_chains.Holds := by
  w_on; o_law
  refine HandSHeadRun.head_any (r := OpenLaw.row PySem.Challenge.rw_rungstead_k87_whole_long_chains) (q := view (OpenLaw.row PySem.Challenge.rw_rungstead_k87_whole_long_chains).prog [lawAt]) (H := mo.hook 5) (ob := mo.ob 5) (M := 20000) (loose := names) (d := HandSHeadRun.topDef (OpenLaw.row PySem.Challenge.rw_rungstead_k87_whole_long_chains).prog lawAt) (kwd := []) (mo.ob_eq 5)
    (by kernel_rfl) (fun s => by kernel_rfl) run_eq (by kernel_rfl) (by kernel_rfl) (by kernel_rfl) (by rfl) (by first | assumption | decide +kernel) (by decide +kernel) ⟨rfl, rfl, rfl, rfl, rfl, by decide +kernel⟩ ?hw ?hc
  case hw => w_witness2
  case hc =>
    exact LG.Mo.walk (l := PySem.Challenge.rw_rungstead_k87_whole_long_chains) (m := mo) (n := 63) (fi := 26) (k := 40) (dl := d26) (x := "script") rfl (by decide) (by kernel_rfl) ⟨rfl, by decide, by decide⟩ tables_ok defs_ok kw_ok rfl (by decide) (by kernel_rfl) (by rfl) plain
end K87
end

section
set_option Elab.async false
set_option linter.all false
set_option maxRecDepth 100000
set_option maxHeartbeats 4000000
namespace K87
open PySem LG LM
section
variable {L : LH} {X : LV} {b n t m w old sm : Nat} {kp : Bool} {AD SG : LV} {x : Option LV}
/-- drive, as the law compares it -/
theorem drv {k : Nat} {cut steps : Int} {c' : MC} {wd : Nat} {N : Nat} (hn : 1 ≤ n ∧ n ≤ 2000) (ht : t ≤ 2097151) (ho : old ≤ t) (hr : mrun (pP t old kp m w n).img 1 cut steps N ((pP t old kp m w n).S 0).1 ((pP t old kp m w n).S 0).2 = some (c', wd)) (hN : N < 16777216) :
    ∃ L', run mo.pg (k + 5) 27 [imgLV nS (LC.img t kp m w n), .int ((n : Int) - 1), .tup [.int old], .int 1, .int cut, .int steps] L = .ok (.tup [.tup (intsL c'.mem), .int c'.tally, .int c'.done, .str (word wd)]) L' ∧ Ext L L' := by
  obtain ⟨L', h1, h2, h3⟩ := chain_drive (k := k) (L := L) (p := pP t old kp m w n) hn.1 hn.2 (show (0 : Int) ≤ t by omega) (val_small ht ho) hr hN
  refine ⟨L', ?_, h2, h3⟩
  have e : ((n : Int) - 1) = (((pP t old kp m w n).many - 1 : Nat) : Int) := by show ((n : Int) - 1) = ((n - 1 : Nat) : Int); omega
  rw [e]
  exact h1
theorem part3b (hn : 1 ≤ n ∧ n ≤ 2000) (ht : 1 ≤ t ∧ t ≤ 2097151) (hm : m ≤ 999) (hw : 1 ≤ w ∧ w ≤ 999) (ho : old ≤ t) (hB : BagAt b L) (hsm : sm < L.n) (hne : sm ≠ b) (hS : L.at_ sm = some (.lst ((List.range (n + 1)).map (vals t m old)))) :
    ∃ L', endOf (evSs (mo.F 39) (.cons ls14 (.cons ls15 (.cons ls16 (.cons ls17 (.cons ls18 (.cons ls19 (.cons ls20 (.cons ls21 (.cons ls22 (.cons ls23 .nil))))))))))
      [some X, some (.ref b), some (.int n), some (.int t), some (.bl kp), some (.int m), some (.int w), some AD, some SG, x, some (imgLV nS (LC.img t kp m w n)), some (.int old), some (vals t m old n), some (.ref sm), none, none, none, none] L) = .ok (.bl true) L' := by
  have tk : ∀ (σ : LSt) (e : LE) (P : Int → Prop), σ[1]? = some (some (.ref b)) → Draw (mo.F 39) σ b e (fun m => 0 < m ∧ m < 1073741824 ∧ P m) → Draw (mo.F 39) σ b (.call 23 (.cons (.var 1) (.cons e .nil))) fun v => 0 ≤ v ∧ ∃ m, P m ∧ v < m := fun σ e P h h0 => draw_take (k := 38) h h0
  have hnw : 1 ≤ n * w ∧ n * w ≤ 1998000 := ⟨Nat.mul_pos hn.1 hw.1, Nat.le_trans (Nat.mul_le_mul hn.2 hw.2) (by omega)⟩
  have hmw : ∀ (q : Nat) (L : LH), binV .mul (.int (q : Int)) (.int w) L = .ok (.int ((q : Int) * w)) L := fun q L => bin_mul (.inr (by omega))
  have hm7 : ∀ (L : LH), binV .mul (.int 7) (.int n) L = .ok (.int (7 * (n : Int))) L := fun L => bin_mul (.inl (by omega))
  have hm5 : ∀ (L : LH), binV .mul (.int 5) (.int n) L = .ok (.int (5 * (n : Int))) L := fun L => bin_mul (.inl (by omega))
  have hm2 : ∀ (q : Nat) (L : LH), binV .mul (.int 2) (.int (q : Int)) L = .ok (.int (2 * (q : Int))) L := fun q L => bin_mul (.inl (by omega))
  have hvs := fun i => val_small (m := m) (w := w) (n := n) (kp := kp) (i := i) ht.2 ho
  have same : ∀ (a : LV) (i j : Int) (s : Str) (L : LH), (∃ v, a = .int v) → (mo.F 39).call 25 [.tup [.tup [a], .int i, .int j, .str s], .tup [.tup [a], .int i, .int j, .str s]] L = .ok (.bl true) L := fun a i j s L ⟨v, hv⟩ => by
    subst hv
    have hpl : Pl 2 (.tup [.tup [.int v], .int i, .int j, .str s]) := by
      refine pl_tup (fun x hx => ?_) (by simp)
      simp only [List.mem_cons, List.not_mem_nil, or_false] at hx
      rcases hx with rfl | rfl | rfl | rfl
      · refine pl_tup (fun x hx => ?_) (by simp)
        rw [List.mem_singleton] at hx
        subst hx
        exact pl_int
      · exact pl_int
      · exact pl_int
      · exact pl_str
    have h := same_ok (k := 36) 2 _ L hpl
    rw [show 36 + 2 + 1 = 39 from rfl] at h
    rw [F_call]
    exact h
  -- the audit
  obtain ⟨L1, e14, x14⟩ := part3a (L := L) (t := t) (kp := kp) (σ := [some X, some (.ref b), some (.int n), some (.int t), some (.bl kp), some (.int m), some (.int w), some AD, some SG, x, some (imgLV nS (LC.img t kp m w n)), some (.int old), some (vals t m old n), some (.ref sm), none, none, none, none]) hn hm hw rfl (by simp) rfl
  -- the whole run
  obtain ⟨L2, d1, x15⟩ := drv (k := 34) (L := L1) (m := m) (w := w) (kp := kp) hn ht.2 ho (LC.run_done (p := pP t old kp m w n) (pace := 1) hn.1 hvs) (by show 7 * n < 16777216; omega)
  have d1' : run mo.pg 39 27 [imgLV nS (LC.img t kp m w n), .int ((n : Int) - 1), .tup [.int old], .int 1, .int (-1), .int (-1)] L1 = .ok (.tup [.tup [vals t m old n], .int ((n : Int) * w), .int (7 * (n : Int) - 1), .str (cs 36)]) L2 := by
    refine d1.trans ?_
    show Out.ok (LV.tup [.tup [vals t m old n], .int ((n * w : Nat) : Int), .int ((7 * n - 1 : Nat) : Int), .str (cs 36)]) L2 = _
    rw [show ((n * w : Nat) : Int) = (n : Int) * w from Int.natCast_mul n w, show ((7 * n - 1 : Nat) : Int) = 7 * (n : Int) - 1 by omega]
  have e15 : evS (mo.F 39) ls15 [some X, some (.ref b), some (.int n), some (.int t), some (.bl kp), some (.int m), some (.int w), some AD, some SG, x, some (imgLV nS (LC.img t kp m w n)), some (.int old), some (vals t m old n), some (.ref sm), none, none, none, none] L1
      = .ok (.nx, [some X, some (.ref b), some (.int n), some (.int t), some (.bl kp), some (.int m), some (.int w), some AD, some SG, x, some (imgLV nS (LC.img t kp m w n)), some (.int old), some (vals t m old n), some (.ref sm), none, none, none, none]) L2 := by
    refine check (V := .tup [.tup [vals t m old n], .int ((n : Int) * w), .int (7 * (n : Int) - 1), .str (cs 36)]) (L1 := L2) ?_ ?_ (same _ _ _ _ _ ⟨_, rfl⟩)
    · generalize imgLV nS (LC.img t kp m w n) = I at d1'
      generalize vals t m old n = V at d1'
      simp [kw0, d1']
    · generalize imgLV nS (LC.img t kp m w n) = I
      generalize vals t m old n = V
      simp [hmw, hm7]
  have B2 := hB.ext (x14.trans x15)
  -- the cut
  obtain ⟨L3, c, e16, ⟨c1, c2⟩, B3, x16⟩ := set_draw (i := 14) (L := L2) (draw_add (P := fun x => x = 1) (Q := fun x => 0 ≤ x ∧ x < (n : Int) * w) (R := fun v => 1 ≤ v ∧ v ≤ (n : Int) * w) (draw_con rfl) ((tk [some X, some (.ref b), some (.int n), some (.int t), some (.bl kp), some (.int m), some (.int w), some AD, some SG, x, some (imgLV nS (LC.img t kp m w n)), some (.int old), some (vals t m old n), some (.ref sm), none, none, none, none]
    (.bin .mul (.var 2) (.var 6)) (fun v => v = (n : Int) * w) rfl (draw_mul (P := fun x => x = (n : Int)) (Q := fun y => y = (w : Int)) (draw_var rfl rfl) (draw_var rfl rfl) (fun x hx => by omega) fun x y hx hy => by
      subst hx hy
      have h1 : ((n * w : Nat) : Int) = (n : Int) * w := Int.natCast_mul n w
      omega)).mono fun v ⟨h1, x, h2, h3⟩ => ⟨h1, by rw [← h2]; exact h3⟩) fun x y hx hy => by omega) B2
  obtain ⟨c, rfl⟩ : ∃ q : Nat, c = q := ⟨c.toNat, by omega⟩
  have hc1 : 1 ≤ c := by omega
  have hc2 : c ≤ n * w := by
    have h1 : ((n * w : Nat) : Int) = (n : Int) * w := Int.natCast_mul n w
    omega
  obtain ⟨q, hq⟩ : ∃ q, q = (c + w - 1) / w := ⟨_, rfl⟩
  have hwpos : 0 < w := hw.1
  have q0 : c ≤ q * w := by
    have h1 := Nat.div_add_mod (c + w - 1) w
    have h2 := Nat.mod_lt (c + w - 1) hwpos
    rw [← hq, Nat.mul_comm] at h1
    omega
  have q1 : (q - 1) * w < c := by
    have h1 := Nat.div_add_mod (c + w - 1) w
    rw [← hq, Nat.mul_comm] at h1
    have h3 : (q - 1) * w = q * w - w := by rw [Nat.sub_mul, Nat.one_mul]
    omega
  have q2 : 0 < q := by
    rcases Nat.eq_zero_or_pos q with h | h
    · rw [h, Nat.zero_mul] at q0; omega
    · exact h
  have q3 : q ≤ n := by
    by_cases h : q ≤ n
    · exact h
    · have h1 : n * w ≤ (q - 1) * w := Nat.mul_le_mul_right w (by omega)
      omega
  have hdv : ∀ L : LH, binV .fdiv (.int ((c : Int) + w - 1)) (.int w) L = .ok (.int (q : Int)) L := fun L => by
    rw [bin_div (by omega) (by omega)]
    have : ((c : Int) + w - 1) = ((c + w - 1 : Nat) : Int) := by omega
    rw [this, hq]
    rfl
  have e17 : evS (mo.F 39) ls17 [some X, some (.ref b), some (.int n), some (.int t), some (.bl kp), some (.int m), some (.int w), some AD, some SG, x, some (imgLV nS (LC.img t kp m w n)), some (.int old), some (vals t m old n), some (.ref sm), some (.int c), none, none, none] L3
      = .ok (.nx, [some X, some (.ref b), some (.int n), some (.int t), some (.bl kp), some (.int m), some (.int w), some AD, some SG, x, some (imgLV nS (LC.img t kp m w n)), some (.int old), some (vals t m old n), some (.ref sm), some (.int c), some (.int q), none, none]) L3 := by
    generalize imgLV nS (LC.img t kp m w n) = I
    generalize vals t m old n = V
    simp [ls17, hdv]
  obtain ⟨L4, d2, x18⟩ := drv (k := 34) (L := L3) (m := m) (w := w) (kp := kp) hn ht.2 ho (LC.run_cut (p := pP t old kp m w n) (pace := 1) (cut := c) (q := q) hn.1 hw.1 hvs (by omega) q2 q3 q0 q1) (by show 5 * n + 2 * q - 2 + 1 < 16777216; omega)
  have d2' : run mo.pg 39 27 [imgLV nS (LC.img t kp m w n), .int ((n : Int) - 1), .tup [.int old], .int 1, .int c, .int (-1)] L3 = .ok (.tup [.tup [vals t m old n], .int ((q : Int) * w), .int (5 * (n : Int) + 2 * (q : Int) - 2), .str (cs 35)]) L4 := by
    refine d2.trans ?_
    show Out.ok (LV.tup [.tup [vals t m old n], .int ((q * w : Nat) : Int), .int ((5 * n + 2 * q - 2 : Nat) : Int), .str (cs 35)]) L4 = _
    rw [show ((q * w : Nat) : Int) = (q : Int) * w from Int.natCast_mul q w, show ((5 * n + 2 * q - 2 : Nat) : Int) = 5 * (n : Int) + 2 * (q : Int) - 2 by omega]
  have e18 : evS (mo.F 39) ls18 [some X, some (.ref b), some (.int n), some (.int t), some (.bl kp), some (.int m), some (.int w), some AD, some SG, x, some (imgLV nS (LC.img t kp m w n)), some (.int old), some (vals t m old n), some (.ref sm), some (.int c), some (.int q), none, none] L3
      = .ok (.nx, [some X, some (.ref b), some (.int n), some (.int t), some (.bl kp), some (.int m), some (.int w), some AD, some SG, x, some (imgLV nS (LC.img t kp m w n)), some (.int old), some (vals t m old n), some (.ref sm), some (.int c), some (.int q), none, none]) L4 := by
    refine check (V := .tup [.tup [vals t m old n], .int ((q : Int) * w), .int (5 * (n : Int) + 2 * (q : Int) - 2), .str (cs 35)]) (L1 := L4) ?_ ?_ (same _ _ _ _ _ ⟨_, rfl⟩)
    · generalize imgLV nS (LC.img t kp m w n) = I at d2'
      generalize vals t m old n = V at d2'
      simp [kw9, d2']
    · generalize imgLV nS (LC.img t kp m w n) = I
      generalize vals t m old n = V
      simp [hmw, hm5, hm2]
  have B4 := B3.ext x18
  -- the stop
  obtain ⟨L5, j, e19, j1, B5, x19⟩ := set_draw (i := 16) (L := L4) ((tk [some X, some (.ref b), some (.int n), some (.int t), some (.bl kp), some (.int m), some (.int w), some AD, some SG, x, some (imgLV nS (LC.img t kp m w n)), some (.int old), some (vals t m old n), some (.ref sm), some (.int c), some (.int q), none, none]
    (.bin .mul (.con (.int 5)) (.var 2)) (fun v => v = 5 * (n : Int)) rfl (draw_mul (P := fun x => x = 5) (Q := fun y => y = (n : Int)) (draw_con rfl) (draw_var rfl rfl) (fun x hx => by omega) fun x y hx hy => by subst hx hy; omega)).mono fun v ⟨h1, x, h2, h3⟩ => (show 0 ≤ v ∧ v < 5 * (n : Int) from ⟨h1, by rw [← h2]; exact h3⟩)) B4
  obtain ⟨j, rfl⟩ : ∃ q : Nat, j = q := ⟨j.toNat, by omega⟩
  have hS5 : L5.at_ sm = some (.lst ((List.range (n + 1)).map (vals t m old))) := by
    have n2 : sm < L2.n := Nat.lt_of_lt_of_le hsm (x14.trans x15).1
    have n3 : sm < L3.n := Nat.lt_of_lt_of_le n2 x16.1
    have n4 : sm < L4.n := Nat.lt_of_lt_of_le n3 x18.1
    rw [x19.2 sm n4 hne, x18.2 sm n3, x16.2 sm n2 hne, (x14.trans x15).2 sm hsm]
    exact hS
  have e20 : evS (mo.F 39) ls20 [some X, some (.ref b), some (.int n), some (.int t), some (.bl kp), some (.int m), some (.int w), some AD, some SG, x, some (imgLV nS (LC.img t kp m w n)), some (.int old), some (vals t m old n), some (.ref sm), some (.int c), some (.int q), some (.int j), none] L5
      = .ok (.nx, [some X, some (.ref b), some (.int n), some (.int t), some (.bl kp), some (.int m), some (.int w), some AD, some SG, x, some (imgLV nS (LC.img t kp m w n)), some (.int old), some (vals t m old n), some (.ref sm), some (.int c), some (.int q), some (.int j), some (.int old)]) L5 := by
    generalize imgLV nS (LC.img t kp m w n) = I
    generalize vals t m old n = V
    simp [ls20]
  obtain ⟨hv, hhv⟩ : ∃ hv : Int, hv = if kp = true then (old : Int) else (pP t old kp m w n).val ((j + 1) / 5) := ⟨_, rfl⟩
  have e21 : evS (mo.F 39) ls21 [some X, some (.ref b), some (.int n), some (.int t), some (.bl kp), some (.int m), some (.int w), some AD, some SG, x, some (imgLV nS (LC.img t kp m w n)), some (.int old), some (vals t m old n), some (.ref sm), some (.int c), some (.int q), some (.int j), some (.int old)] L5
      = .ok (.nx, [some X, some (.ref b), some (.int n), some (.int t), some (.bl kp), some (.int m), some (.int w), some AD, some SG, x, some (imgLV nS (LC.img t kp m w n)), some (.int old), some (vals t m old n), some (.ref sm), some (.int c), some (.int q), some (.int j), some (.int hv)]) L5 := by
    have hd5 : ∀ L : LH, binV .fdiv (.int ((j : Int) + 1)) (.int 5) L = .ok (.int (((j + 1) / 5 : Nat) : Int)) L := fun L => by
      rw [bin_div (by omega) (by omega)]
      congr 2
    have hix : idxV (.ref sm) (.int (((j + 1) / 5 : Nat) : Int)) L5 = .ok (vals t m old ((j + 1) / 5)) L5 := by
      rw [idx_lst hS5]
      exact atX_some (by rw [atI_nat, List.getElem?_map, List.getElem?_range (by omega)]; rfl)
    simp only [Int.natCast_ediv, Int.natCast_add, Int.cast_ofNat_Int, Int.natCast_one] at hd5 hix
    rw [show vals t m old ((j + 1) / 5) = .int ((pP t old kp m w n).val ((j + 1) / 5)) from rfl] at hix
    generalize (pP t old kp m w n).val ((j + 1) / 5) = z at hix hhv
    generalize imgLV nS (LC.img t kp m w n) = I
    generalize vals t m old n = V
    cases kp with
    | true => simp [ls21, hhv]
    | false => simp [ls21, hhv, hd5, hix]
  obtain ⟨r1, r2, r3⟩ := LC.stop_mem (p := pP t old kp m w n) (j := j) (by show j < 5 * n; omega)
  obtain ⟨L6, d3, x22⟩ := drv (k := 34) (L := L5) (m := m) (w := w) (kp := kp) hn ht.2 ho (LC.run_stop (p := pP t old kp m w n) (pace := 1) (j := j) hn.1 hvs (by show j < 5 * n; omega)) (by omega)
  rw [r1, r2, r3] at d3
  have d3' : run mo.pg 39 27 [imgLV nS (LC.img t kp m w n), .int ((n : Int) - 1), .tup [.int old], .int 1, .int (-1), .int j] L5 = .ok (.tup [.tup [.int hv], .int 0, .int j, .str (cs 34)]) L6 := by
    rw [hhv]
    exact d3
  have e22 : evS (mo.F 39) ls22 [some X, some (.ref b), some (.int n), some (.int t), some (.bl kp), some (.int m), some (.int w), some AD, some SG, x, some (imgLV nS (LC.img t kp m w n)), some (.int old), some (vals t m old n), some (.ref sm), some (.int c), some (.int q), some (.int j), some (.int hv)] L5
      = .ok (.nx, [some X, some (.ref b), some (.int n), some (.int t), some (.bl kp), some (.int m), some (.int w), some AD, some SG, x, some (imgLV nS (LC.img t kp m w n)), some (.int old), some (vals t m old n), some (.ref sm), some (.int c), some (.int q), some (.int j), some (.int hv)]) L6 := by
    refine check (V := .tup [.tup [.int hv], .int 0, .int j, .str (cs 34)]) (L1 := L6) ?_ ?_ (same _ _ _ _ _ ⟨_, rfl⟩)
    · generalize imgLV nS (LC.img t kp m w n) = I at d3'
      generalize vals t m old n = V
      simp [kw8, d3']
    · generalize imgLV nS (LC.img t kp m w n) = I
      generalize vals t m old n = V
      simp
  -- the packed form
  have hok := LC.ok_chain (top := t) (kept := kp) (more := m) (worth := w) (many := n) ht.2 (by omega) hw hn.2
  have hlen := LC.len_chain (top := t) (kept := kp) (more := m) (worth := w) (many := n) hn.2
  have hbl := LC.body_le hok
  have hfit : Fits (LC.imgN t kp m w n) := ⟨by omega, by omega, seg_op (t := t) (kp := kp), LC.nums_ok hok⟩
  obtain ⟨L7, r, p1, p2, p3, p4, p5⟩ := pack_ok (k := 37) (L := L6) hfit
  obtain ⟨L8, l1, l2⟩ := load_ok (k := 33) p5 p4 (LC.pack_byt hok) (load_pack hok) (seg_op (t := t) (kp := kp)) (by show (([[n - 1]] : List (List Nat)).flatMap id).length ≤ _; simp) (by show (LC.img t kp m w n).segs.length < _; rw [seg_many]; omega) (LC.audit_chain (by omega) hw hn.1 hn.2)
  rw [LC.imgN_img] at p1 l1
  have hpl : Pl 5 (imgLV nS (LC.img t kp m w n)) := pl_img ⟨by simp [LC.img], fun t ht => by simp only [LC.img, List.mem_singleton] at ht; subst ht; simp⟩ ⟨by rw [seg_many]; omega, fun g hg => by have := seg_len g hg; exact ⟨by omega, fun i hi => by have := this.2 i hi; omega⟩⟩ ⟨by simp [LC.img], fun t ht => by simp only [LC.img, List.mem_singleton] at ht; subst ht; simp⟩
  have hsame : run mo.pg 39 25 [imgLV nS (LC.img t kp m w n), imgLV nS (LC.img t kp m w n)] L8 = .ok (.bl true) L8 := same_ok (k := 33) 5 _ L8 hpl
  have p1' : run mo.pg 39 19 [imgLV nS (LC.img t kp m w n)] L6 = .ok (.ref r) L7 := p1
  have l1' : run mo.pg 39 21 [.ref r] L7 = .ok (imgLV nS (LC.img t kp m w n)) L8 := l1
  refine ⟨L8, ?_⟩
  rw [ss_step e14, ss_step e15]
  show endOf (evSs _ (.cons (.set 14 _) _) _ _) = _
  rw [ss_step e16]
  show endOf (evSs _ (.cons ls17 _) [some X, some (.ref b), some (.int n), some (.int t), some (.bl kp), some (.int m), some (.int w), some AD, some SG, x, some (imgLV nS (LC.img t kp m w n)), some (.int old), some (vals t m old n), some (.ref sm), some (.int c), none, none, none] _) = _
  rw [ss_step e17, ss_step e18]
  show endOf (evSs _ (.cons (.set 16 _) _) _ _) = _
  rw [ss_step e19]
  show endOf (evSs _ (.cons ls20 _) [some X, some (.ref b), some (.int n), some (.int t), some (.bl kp), some (.int m), some (.int w), some AD, some SG, x, some (imgLV nS (LC.img t kp m w n)), some (.int old), some (vals t m old n), some (.ref sm), some (.int c), some (.int q), some (.int j), none] _) = _
  rw [ss_step e20, ss_step e21, ss_step e22]
  generalize imgLV nS (LC.img t kp m w n) = I at p1' l1' hsame ⊢
  generalize vals t m old n = V
  simp [ls23, p1', l1', hsame]
end
theorem plain (ns : List Int) : ∃ L, LG.run mo.pg 40 26 [.scr (ns.map LG.LV.int)] LG.L0 = .ok (.bl true) L := by
  obtain ⟨L1, n, t, m, w, kp, hn, ht, hm, hw, B1, e1⟩ := part1 (L := L0) (ns := ns)
  obtain ⟨L2, old, sg, sm, x, ho, B2, h1, h2, h3, e2⟩ := part2 (X := .scr (ns.map LV.int)) (m := m) (w := w) (kp := kp) hn ht B1
  obtain ⟨L3, e3⟩ := part3b (X := .scr (ns.map LV.int)) (AD := .tup (addLV m)) (SG := .ref sg) (x := x) (w := w) (kp := kp) hn ht hm hw ho B2 h1 h2 h3
  refine ⟨L3, ?_⟩
  rw [Mo.run_succ (d := d26) rfl rfl, ls_body]
  show endOf (evSs (mo.F 39) _ [some (.scr (ns.map LV.int)), none, none, none, none, none, none, none, none, none, none, none, none, none, none, none, none, none] L0) = _
  rw [e1, e2]
  exact e3
theorem holds : PySem.Challenge.rw_rungstead_k87_whole_long_chains.Holds := holds_of fun ns _ _ => plain ns
end K87
end

theorem PySem.Challenge.cw_rungstead_k87_whole_long_chains_holds : PySem.Challenge.rw_rungstead_k87_whole_long_chains.Holds :=
  K87.holds
