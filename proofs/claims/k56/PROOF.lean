import PyProof.Rows.All
import Wide.All
import OpenK.AllK
import Wide.FinOn
import HandS.ForMost
import HandS.ForExc
import HandS.TupAny
import HandS.Wide
import HandS.IsInst
import HandS.More
import HandS.CallSlots
import KE.KTupSum
import HandS.TupLe
import HandS.Defaults
import HandS.Head0
import HandS.Head1
import HandS.Head2
import HandS.HeadEnd
import HandS.HeadHook1
import HandS.HeadHook2
import HandS.HeadHook3
import HandS.HeadHook4
import PyProof.Rows.ReprOcc
import KE.DataEq
import PySem.Challenge.RW_summitwater_k56_whole_never_both
set_option Elab.async false
set_option linter.all false
set_option maxRecDepth 100000
set_option maxHeartbeats 0
set_option autoImplicit false
/-! The plain values, the store, and how they lie in the layer's heap. -/
namespace SW
open PySem PySem.Spec PyProof.Rows L2

/-- a plain value -/
inductive PV where
  | non | bl (b : Bool) | int (i : Int) | str (s : List Nat) | tup (xs : List PV) | loc (n : Nat)
  deriving Inhabited
/-- a plain object -/
inductive PObj where
  | lst (xs : List PV) | frz (xs : List PV)
  deriving Inhabited
abbrev Sto := List PObj
abbrev Sig := List (Option PV)
inductive Res (α : Type) where
  | ok (a : α) (M : Sto) | exc (c : Nat) (v : Option PV) (M : Sto) | stuck
def Res.bind {α β : Type} (r : Res α) (f : α → Sto → Res β) : Res β := match r with
  | .ok a M => f a M
  | .exc c v M => .exc c v M
  | .stuck => .stuck
@[simp] theorem Res.bind_ok {α β : Type} (a : α) (M : Sto) (f : α → Sto → Res β) : (Res.ok a M).bind f = f a M := rfl
@[simp] theorem Res.bind_exc {α β : Type} (c : Nat) (v : Option PV) (M : Sto) (f : α → Sto → Res β) : (Res.exc c v M).bind f = .exc c v M := rfl
@[simp] theorem Res.bind_stuck {α β : Type} (f : α → Sto → Res β) : (Res.stuck : Res α).bind f = .stuck := rfl
/-- a primitive's answer -/
def Res.of {α : Type} : Option (α × Sto) → Res α
  | some (a, M) => .ok a M
  | none => .stuck
@[simp] theorem Res.of_some {α : Type} (a : α) (M : Sto) : Res.of (some (a, M)) = .ok a M := rfl
@[simp] theorem Res.of_none {α : Type} : Res.of (none : Option (α × Sto)) = .stuck := rfl

/-- the fixed world: the written part, the classes' addresses -/
structure Wd where
  K : PySem.W.Frag
  cl : Nat → Addr

section
variable (D : Wd)
mutual
/-- v stands for the plain value in the heap H, the store's objects at the addresses rho -/
def Rep (H : Hp) (rho : List Addr) : PV → V → Prop
  | .non, v => v = .non
  | .bl b, v => v = .bl b
  | .int i, v => v = .int i
  | .str s, v => v = .str ⟨s.toArray⟩
  | .tup xs, v => ∃ a vs, v = .ref a ∧ SqT D.K H a vs ∧ RepL H rho xs vs
  | .loc n, v => ∃ a, v = .ref a ∧ rho[n]? = some a
def RepL (H : Hp) (rho : List Addr) : List PV → List V → Prop
  | [], vs => vs = []
  | x :: xs, vs => ∃ v r, vs = v :: r ∧ Rep H rho x v ∧ RepL H rho xs r
end
end

/-- later: tuples and locked things stay, the store's addresses stay -/
structure Ext (H : Hp) (rho : List Addr) (H' : Hp) (rho' : List Addr) : Prop where
  tup : ∀ a xs, H a = some (.tup xs) → H' a = some (.tup xs)
  frz : ∀ a o u, H a = some (.frz o u) → H' a = some (.frz o u)
  loc : ∀ (n : Nat) (a : Addr), rho[n]? = some a → rho'[n]? = some a
theorem Ext.refl {H : Hp} {rho : List Addr} : Ext H rho H rho := ⟨fun _ _ h => h, fun _ _ _ h => h, fun _ _ h => h⟩
theorem Ext.trans {H H1 H2 : Hp} {r r1 r2 : List Addr} (a : Ext H r H1 r1) (b : Ext H1 r1 H2 r2) : Ext H r H2 r2 :=
  ⟨fun x y h => b.tup x y (a.tup x y h), fun x o y h => b.frz x o y (a.frz x o y h), fun n x h => b.loc n x (a.loc n x h)⟩

section
variable {D : Wd} {H H' : Hp} {rho rho' : List Addr}
theorem Ext.sqT (e : Ext H rho H' rho') {a : Addr} {xs : List V} (h : SqT D.K H a xs) : SqT D.K H' a xs := by
  rcases h with (h | ⟨o, h⟩) | h
  · exact .inl (.inl (e.tup _ _ h))
  · exact .inl (.inr ⟨o, e.frz _ _ _ h⟩)
  · exact .inr h
mutual
theorem Rep.ext (e : Ext H rho H' rho') : ∀ (x : PV) (v : V), Rep D H rho x v → Rep D H' rho' x v
  | .non, v, h => h
  | .bl b, v, h => h
  | .int i, v, h => h
  | .str s, v, h => h
  | .tup xs, v, h => by
    unfold Rep at h ⊢
    obtain ⟨a, vs, e1, h1, h2⟩ := h
    exact ⟨a, vs, e1, e.sqT h1, RepL.ext e xs vs h2⟩
  | .loc n, v, h => by
    unfold Rep at h ⊢
    obtain ⟨a, e1, h1⟩ := h
    exact ⟨a, e1, e.loc _ _ h1⟩
theorem RepL.ext (e : Ext H rho H' rho') : ∀ (xs : List PV) (vs : List V), RepL D H rho xs vs → RepL D H' rho' xs vs
  | [], vs, h => by unfold RepL at h ⊢; exact h
  | x :: xs, vs, h => by
    unfold RepL at h ⊢
    obtain ⟨v, r, e1, h1, h2⟩ := h
    exact ⟨v, r, e1, Rep.ext e x v h1, RepL.ext e xs r h2⟩
end
theorem repL_nil {vs : List V} : RepL D H rho [] vs ↔ vs = [] := by unfold RepL; exact Iff.rfl
theorem repL_cons {x : PV} {xs : List PV} {vs : List V} : RepL D H rho (x :: xs) vs ↔ ∃ v r, vs = v :: r ∧ Rep D H rho x v ∧ RepL D H rho xs r := by
  constructor
  · intro h; unfold RepL at h; exact h
  · intro h; unfold RepL; exact h
theorem rep_tup {xs : List PV} {v : V} : Rep D H rho (.tup xs) v ↔ ∃ a vs, v = .ref a ∧ SqT D.K H a vs ∧ RepL D H rho xs vs := by
  constructor
  · intro h; unfold Rep at h; exact h
  · intro h; unfold Rep; exact h
theorem rep_loc {n : Nat} {v : V} : Rep D H rho (.loc n) v ↔ ∃ a, v = .ref a ∧ rho[n]? = some a := by
  constructor
  · intro h; unfold Rep at h; exact h
  · intro h; unfold Rep; exact h
theorem rep_int {i : Int} {v : V} : Rep D H rho (.int i) v ↔ v = .int i := by unfold Rep; exact Iff.rfl
theorem rep_bl {i : Bool} {v : V} : Rep D H rho (.bl i) v ↔ v = .bl i := by unfold Rep; exact Iff.rfl
theorem rep_non {v : V} : Rep D H rho .non v ↔ v = .non := by unfold Rep; exact Iff.rfl
theorem rep_str {s : List Nat} {v : V} : Rep D H rho (.str s) v ↔ v = .str ⟨s.toArray⟩ := by unfold Rep; exact Iff.rfl
theorem RepL.len : ∀ {xs : List PV} {vs : List V}, RepL D H rho xs vs → xs.length = vs.length
  | [], vs, h => by rw [repL_nil] at h; subst h; rfl
  | x :: xs, vs, h => by
    obtain ⟨v, r, rfl, h1, h2⟩ := repL_cons.mp h
    rw [List.length_cons, List.length_cons, RepL.len h2]
theorem RepL.get : ∀ {xs : List PV} {vs : List V} {i : Nat} {x : PV}, RepL D H rho xs vs → xs[i]? = some x → ∃ v, vs[i]? = some v ∧ Rep D H rho x v
  | [], _, _, _, _, e => by simp at e
  | x :: xs, vs, i, y, h, e => by
    obtain ⟨v, r, rfl, h1, h2⟩ := repL_cons.mp h
    cases i with
    | zero => simp at e; subst e; exact ⟨v, rfl, h1⟩
    | succ i => simpa using RepL.get h2 (by simpa using e)
theorem RepL.get' : ∀ {xs : List PV} {vs : List V} {i : Nat} {v : V}, RepL D H rho xs vs → vs[i]? = some v → ∃ x, xs[i]? = some x ∧ Rep D H rho x v
  | [], _, _, _, h, e => by rw [repL_nil.mp h] at e; simp at e
  | x :: xs, vs, i, y, h, e => by
    obtain ⟨v, r, rfl, h1, h2⟩ := repL_cons.mp h
    cases i with
    | zero => simp at e; subst e; exact ⟨x, rfl, h1⟩
    | succ i => simpa using RepL.get' h2 (by simpa using e)
theorem RepL.append : ∀ {xs ys : List PV} {vs ws : List V}, RepL D H rho xs vs → RepL D H rho ys ws → RepL D H rho (xs ++ ys) (vs ++ ws)
  | [], ys, vs, ws, h, k => by rw [repL_nil] at h; subst h; exact k
  | x :: xs, ys, vs, ws, h, k => by
    obtain ⟨v, r, rfl, h1, h2⟩ := repL_cons.mp h
    exact repL_cons.mpr ⟨v, r ++ ws, rfl, h1, RepL.append h2 k⟩
theorem RepL.take : ∀ {xs : List PV} {vs : List V} (n : Nat), RepL D H rho xs vs → RepL D H rho (xs.take n) (vs.take n)
  | xs, vs, 0, _ => by simp [repL_nil]
  | [], vs, n + 1, h => by rw [repL_nil] at h; subst h; simp [repL_nil]
  | x :: xs, vs, n + 1, h => by
    obtain ⟨v, r, rfl, h1, h2⟩ := repL_cons.mp h
    exact repL_cons.mpr ⟨v, r.take n, rfl, h1, RepL.take n h2⟩
theorem RepL.drop : ∀ {xs : List PV} {vs : List V} (n : Nat), RepL D H rho xs vs → RepL D H rho (xs.drop n) (vs.drop n)
  | xs, vs, 0, h => by simpa using h
  | [], vs, n + 1, h => by rw [repL_nil] at h; subst h; simp [repL_nil]
  | x :: xs, vs, n + 1, h => by
    obtain ⟨v, r, rfl, h1, h2⟩ := repL_cons.mp h
    simpa using RepL.drop n h2
theorem RepL.set : ∀ {xs : List PV} {vs : List V} {x : PV} {v : V} (i : Nat), Rep D H rho x v → RepL D H rho xs vs → RepL D H rho (xs.set i x) (vs.set i v)
  | [], vs, x, v, i, _, h => by rw [repL_nil] at h; subst h; simp [repL_nil]
  | y :: xs, vs, x, v, i, k, h => by
    obtain ⟨w, r, rfl, h1, h2⟩ := repL_cons.mp h
    cases i with
    | zero => exact repL_cons.mpr ⟨v, r, rfl, k, h2⟩
    | succ i => exact repL_cons.mpr ⟨w, r.set i v, rfl, h1, RepL.set i k h2⟩
theorem RepL.erase : ∀ {xs : List PV} {vs : List V} (i : Nat), RepL D H rho xs vs → RepL D H rho (xs.eraseIdx i) (vs.eraseIdx i)
  | [], vs, i, h => by rw [repL_nil] at h; subst h; simp [repL_nil]
  | y :: xs, vs, i, h => by
    obtain ⟨w, r, rfl, h1, h2⟩ := repL_cons.mp h
    cases i with
    | zero => simpa using h2
    | succ i => exact repL_cons.mpr ⟨w, r.eraseIdx i, by simp, h1, RepL.erase i h2⟩
theorem RepL.one {x : PV} {v : V} (h : Rep D H rho x v) : RepL D H rho [x] [v] := repL_cons.mpr ⟨v, [], rfl, h, repL_nil.mpr rfl⟩
theorem RepL.rev : ∀ {xs : List PV} {vs : List V}, RepL D H rho xs vs → RepL D H rho xs.reverse vs.reverse
  | [], vs, h => by rw [repL_nil] at h; subst h; simp [repL_nil]
  | y :: xs, vs, h => by
    obtain ⟨w, r, rfl, h1, h2⟩ := repL_cons.mp h
    rw [List.reverse_cons, List.reverse_cons]
    exact (RepL.rev h2).append (RepL.one h1)
theorem RepL.nil_iff {xs : List PV} {vs : List V} (h : RepL D H rho xs vs) : xs = [] ↔ vs = [] := by
  have e := h.len
  cases xs <;> cases vs <;> simp at e ⊢

/-- all ints -/
def ints? : List PV → Option (List Int)
  | [] => some []
  | .int i :: r => (ints? r).map (i :: ·)
  | _ => none
theorem ints_rep : ∀ {xs : List PV} {vs : List V} {ns : List Int}, RepL D H rho xs vs → ints? xs = some ns → vs = ns.map V.int
  | [], vs, ns, h, e => by rw [repL_nil] at h; subst h; cases e; rfl
  | x :: xs, vs, ns, h, e => by
    obtain ⟨v, r, rfl, h1, h2⟩ := repL_cons.mp h
    cases x <;> simp [ints?] at e
    obtain ⟨ms, e1, rfl⟩ := e
    rw [rep_int] at h1
    subst h1
    rw [ints_rep h2 e1]
    rfl
/-- all truths -/
def bls? : List PV → Option (List Bool)
  | [] => some []
  | .bl i :: r => (bls? r).map (i :: ·)
  | _ => none
theorem bls_rep : ∀ {xs : List PV} {vs : List V} {ns : List Bool}, RepL D H rho xs vs → bls? xs = some ns → vs = ns.map V.bl
  | [], vs, ns, h, e => by rw [repL_nil] at h; subst h; cases e; rfl
  | x :: xs, vs, ns, h, e => by
    obtain ⟨v, r, rfl, h1, h2⟩ := repL_cons.mp h
    cases x <;> simp [bls?] at e
    obtain ⟨ms, e1, rfl⟩ := e
    rw [rep_bl] at h1
    subst h1
    rw [bls_rep h2 e1]
    rfl
@[simp] theorem ints_map : ∀ ns : List Int, ints? (ns.map PV.int) = some ns
  | [] => rfl
  | n :: ns => by simp [ints?, ints_map ns]
@[simp] theorem bls_map : ∀ ns : List Bool, bls? (ns.map PV.bl) = some ns
  | [] => rfl
  | n :: ns => by simp [bls?, bls_map ns]
end

/-! ### the store -/
def PObj.mut : PObj → Bool
  | .frz _ => false
  | _ => true
/-- a locked list, whatever the heap's other things: its own words -/
def FrzL (D : Wd) (H : Hp) (a : Addr) (vs : List V) : Prop :=
  (∃ o, H a = some (.frz o (.lst vs))) ∨
    ∃ (o : Obj) (its : Array Value) (n : Nat), D.K.lookup a = some o ∧ o.cls = .type "list" ∧ o.dict = none ∧ o.data = .seq its n ∧ its.size ≤ sizeLine ∧ Vals vs its.toList
def ORel (D : Wd) (H : Hp) (rho : List Addr) : PObj → Addr → Prop
  | .lst xs, a => ∃ vs, H a = some (.lst vs) ∧ RepL D H rho xs vs
  | .frz xs, a => ∃ vs, FrzL D H a vs ∧ RepL D H rho xs vs
structure StoOk (D : Wd) (H : Hp) (rho : List Addr) (M : Sto) : Prop where
  len : rho.length = M.length
  obj : ∀ (n : Nat) (o : PObj), M[n]? = some o → ∃ a, rho[n]? = some a ∧ ORel D H rho o a
  inj : ∀ (n m : Nat) (o o' : PObj) (a : Addr), M[n]? = some o → M[m]? = some o' → o.mut = true → o'.mut = true → rho[n]? = some a → rho[m]? = some a → n = m
section
variable {D : Wd} {H H' : Hp} {rho rho' : List Addr} {M : Sto}
theorem FrzL.sq {a : Addr} {vs : List V} (h : FrzL D H a vs) : SqL D.K H a vs := by
  rcases h with ⟨o, h⟩ | h
  · exact .inl (.inr ⟨o, h⟩)
  · exact .inr h
theorem FrzL.ext (e : Ext H rho H' rho') {a : Addr} {vs : List V} (h : FrzL D H a vs) : FrzL D H' a vs := by
  rcases h with ⟨o, h⟩ | h
  · exact .inl ⟨o, e.frz _ _ _ h⟩
  · exact .inr h
theorem StoOk.lst {n : Nat} {xs : List PV} (R : StoOk D H rho M) (h : M[n]? = some (.lst xs)) : ∃ a vs, rho[n]? = some a ∧ H a = some (.lst vs) ∧ RepL D H rho xs vs := by
  obtain ⟨a, e, vs, h1, h2⟩ := R.obj n _ h
  exact ⟨a, vs, e, h1, h2⟩
/-- what a list's items are, in the store -/
def items? (M : Sto) : PV → Option (List PV)
  | .tup xs => some xs
  | .loc n => match M[n]? with
    | some (.lst xs) => some xs
    | some (.frz xs) => some xs
    | _ => none
  | _ => none
def lst? (M : Sto) : PV → Option (List PV)
  | .loc n => match M[n]? with
    | some (.lst xs) => some xs
    | some (.frz xs) => some xs
    | _ => none
  | _ => none
theorem StoOk.list {x : PV} {v : V} {xs : List PV} (R : StoOk D H rho M) (r : Rep D H rho x v) (h : lst? M x = some xs) : ∃ a vs, v = .ref a ∧ SqL D.K H a vs ∧ RepL D H rho xs vs := by
  cases x with
  | loc n =>
    obtain ⟨a, rfl, ea⟩ := rep_loc.mp r
    simp only [lst?] at h
    split at h
    · rename_i ys hm
      cases h
      obtain ⟨b, vs, eb, h1, h2⟩ := R.lst hm
      rw [ea] at eb; cases eb
      exact ⟨a, vs, rfl, .inl (.inl h1), h2⟩
    · rename_i ys hm
      cases h
      obtain ⟨b, eb, vs, h1, h2⟩ := R.obj n _ hm
      rw [ea] at eb; cases eb
      exact ⟨a, vs, rfl, h1.sq, h2⟩
    · cases h
  | _ => cases h
theorem StoOk.seq {x : PV} {v : V} {xs : List PV} (R : StoOk D H rho M) (r : Rep D H rho x v) (h : items? M x = some xs) : ∃ a vs, v = .ref a ∧ (SqL D.K H a vs ∨ SqT D.K H a vs) ∧ RepL D H rho xs vs := by
  cases x with
  | tup ys =>
    cases h
    obtain ⟨a, vs, rfl, h1, h2⟩ := rep_tup.mp r
    exact ⟨a, vs, rfl, .inr h1, h2⟩
  | loc n =>
    obtain ⟨a, vs, e, h1, h2⟩ := R.list r (xs := xs) h
    exact ⟨a, vs, e, .inl h1, h2⟩
  | _ => cases h
/-- a new thing stands at a free place -/
theorem Ext.new {p : Addr} {o : HO} (h : H p = none) : Ext H rho (upd H p o) rho :=
  ⟨fun a xs e => by rw [upd_ne (ne_of_none e h)]; exact e, fun a ob u e => by rw [upd_ne (ne_of_none e h)]; exact e, fun _ _ e => e⟩
theorem Ext.newL {p : Addr} {o : HO} (h : H p = none) : Ext H rho (upd H p o) (rho ++ [p]) :=
  ⟨fun a xs e => by rw [upd_ne (ne_of_none e h)]; exact e, fun a ob u e => by rw [upd_ne (ne_of_none e h)]; exact e, fun n a e => by
    rw [List.getElem?_append_left (List.getElem?_eq_some_iff.mp e).1]; exact e⟩
theorem ORel.step {o : PObj} {a : Addr} (e : Ext H rho H' rho') (k : ∀ vs, H a = some (.lst vs) → H' a = some (.lst vs)) (h : ORel D H rho o a) : ORel D H' rho' o a := by
  cases o with
  | lst xs => obtain ⟨vs, h1, h2⟩ := h; exact ⟨vs, k _ h1, h2.ext e⟩
  | frz xs => obtain ⟨vs, h1, h2⟩ := h; exact ⟨vs, h1.ext e, h2.ext e⟩
/-- all lists stay: the relation stays -/
theorem StoOk.keep (R : StoOk D H rho M) (e : Ext H rho H' rho) (k : ∀ a vs, H a = some (.lst vs) → H' a = some (.lst vs)) : StoOk D H' rho M :=
  ⟨R.len, fun n o h => let ⟨a, ea, ho⟩ := R.obj n o h; ⟨a, ea, ho.step e (k a)⟩, R.inj⟩
theorem StoOk.new {p : Addr} {o : HO} (R : StoOk D H rho M) (h : H p = none) : StoOk D (upd H p o) rho M :=
  R.keep (Ext.new h) fun a vs e => by rw [upd_ne (ne_of_none e h)]; exact e
theorem StoOk.newL {p : Addr} {xs : List PV} {vs : List V} (R : StoOk D H rho M) (h : H p = none) (r : RepL D H rho xs vs) : StoOk D (upd H p (.lst vs)) (rho ++ [p]) (M ++ [.lst xs]) := by
  have e : Ext H rho (upd H p (.lst vs)) (rho ++ [p]) := Ext.newL h
  have at_ : ∀ (n : Nat) (o : PObj), (M ++ [PObj.lst xs])[n]? = some o → (n < M.length ∧ M[n]? = some o) ∨ (n = M.length ∧ o = .lst xs) := fun n o q => by
    by_cases hn : n < M.length
    · rw [List.getElem?_append_left hn] at q; exact .inl ⟨hn, q⟩
    · rw [List.getElem?_append_right (by omega)] at q
      have z : n - M.length = 0 := by
        rcases Nat.eq_zero_or_pos (n - M.length) with z | z
        · exact z
        · rw [List.getElem?_eq_none (by simp; omega)] at q; cases q
      rw [z] at q
      exact .inr ⟨by omega, by simpa using q.symm⟩
  have mutA : ∀ (n : Nat) (o : PObj) (a : Addr), M[n]? = some o → o.mut = true → rho[n]? = some a → a ≠ p := fun n o a q m ea z => by
    obtain ⟨b, eb, ho⟩ := R.obj n o q
    rw [ea] at eb; cases eb
    cases o with
    | lst ys => obtain ⟨ws, h1, _⟩ := ho; rw [z, h] at h1; cases h1
    | frz ys => cases m
  have rlt : ∀ (n : Nat) (a : Addr), n < M.length → (rho ++ [p])[n]? = some a → rho[n]? = some a := fun n a hn q => by
    rw [List.getElem?_append_left (by rw [R.len]; exact hn)] at q; exact q
  have rend : ∀ (a : Addr), (rho ++ [p])[M.length]? = some a → a = p := fun a q => by
    rw [← R.len, List.getElem?_append_right (Nat.le_refl _)] at q
    simpa using q.symm
  refine ⟨by simp [R.len], fun n o q => ?_, fun n m o o' a q q' mo mo' ea ea' => ?_⟩
  · rcases at_ n o q with ⟨hn, q1⟩ | ⟨rfl, rfl⟩
    · obtain ⟨a, ea, ho⟩ := R.obj n o q1
      exact ⟨a, e.loc _ _ ea, ho.step e fun ws e1 => by rw [upd_ne (ne_of_none e1 h)]; exact e1⟩
    · refine ⟨p, by rw [← R.len]; simp, vs, upd_same, r.ext e⟩
  · rcases at_ n o q with ⟨hn, q1⟩ | ⟨rfl, rfl⟩
    · rcases at_ m o' q' with ⟨hm, q2⟩ | ⟨rfl, rfl⟩
      · exact R.inj n m o o' a q1 q2 mo mo' (rlt _ _ hn ea) (rlt _ _ hm ea')
      · exact absurd (rend _ ea') (mutA n o a q1 mo (rlt _ _ hn ea))
    · rcases at_ m o' q' with ⟨hm, q2⟩ | ⟨rfl, rfl⟩
      · exact absurd (rend _ ea) (mutA m o' a q2 mo' (rlt _ _ hm ea'))
      · rfl
/-- a list is changed -/
theorem Ext.writeL {a : Addr} {vs ws : List V} (h : H a = some (.lst vs)) : Ext H rho (upd H a (.lst ws)) rho :=
  ⟨fun b xs e => by rw [upd_ne (ne_of e h (by intro z; cases z))]; exact e, fun b ob u e => by rw [upd_ne (ne_of e h (by intro z; cases z))]; exact e, fun _ _ e => e⟩
theorem StoOk.writeL {n : Nat} {a : Addr} {xs ys : List PV} {vs ws : List V} (R : StoOk D H rho M) (hn : M[n]? = some (.lst xs)) (ea : rho[n]? = some a) (h : H a = some (.lst vs)) (r : RepL D H rho ys ws) :
    StoOk D (upd H a (.lst ws)) rho (M.set n (.lst ys)) := by
  have e : Ext H rho (upd H a (.lst ws)) rho := Ext.writeL h
  have hl : n < M.length := (List.getElem?_eq_some_iff.mp hn).1
  have mt : ∀ (m : Nat) (o : PObj), (M.set n (.lst ys))[m]? = some o → (m = n ∧ o = .lst ys) ∨ (m ≠ n ∧ M[m]? = some o) := fun m o q => by
    by_cases hm : m = n
    · subst hm
      rw [List.getElem?_set_self hl] at q
      exact .inl ⟨rfl, (Option.some.inj q).symm⟩
    · rw [List.getElem?_set_ne (Ne.symm hm)] at q
      exact .inr ⟨hm, q⟩
  refine ⟨by simp [R.len], fun m o q => ?_, fun m k o o' b q q' mo mo' eb eb' => ?_⟩
  · rcases mt m o q with ⟨rfl, rfl⟩ | ⟨hm, q1⟩
    · exact ⟨a, ea, ws, upd_same, r.ext e⟩
    · obtain ⟨b, eb, ho⟩ := R.obj m o q1
      refine ⟨b, eb, ?_⟩
      cases o with
      | lst zs =>
        have hb : b ≠ a := fun z => hm (R.inj m n _ _ a q1 hn rfl rfl (z ▸ eb) ea)
        obtain ⟨us, h1, h2⟩ := ho
        exact ⟨us, by rw [upd_ne hb]; exact h1, h2.ext e⟩
      | frz zs =>
        obtain ⟨us, h1, h2⟩ := ho
        exact ⟨us, h1.ext e, h2.ext e⟩
  · rcases mt m o q with ⟨rfl, rfl⟩ | ⟨hm, q1⟩
    · rcases mt k o' q' with ⟨rfl, rfl⟩ | ⟨hk, q2⟩
      · rfl
      · exact R.inj _ _ _ _ b hn q2 rfl mo' eb eb'
    · rcases mt k o' q' with ⟨rfl, rfl⟩ | ⟨hk, q2⟩
      · exact R.inj _ _ _ _ b q1 hn mo rfl eb eb'
      · exact R.inj _ _ _ _ b q1 q2 mo mo' eb eb'
end

/-! ### slots -/
structure RelS (D : Wd) (H : Hp) (rho : List Addr) (M : Sto) (sg : L2.St) (tau : Sig) : Prop where
  mem : StoOk D H rho M
  len : tau.length = sg.length
  slot : ∀ (i : Nat) x, tau[i]? = some (some x) → ∃ v, sg[i]? = some (some v) ∧ Rep D H rho x v
section
variable {D : Wd} {H H' : Hp} {rho rho' : List Addr} {M M' : Sto} {sg : L2.St} {tau : Sig}
theorem RelS.ext (R : RelS D H rho M sg tau) (e : Ext H rho H' rho') (m : StoOk D H' rho' M') : RelS D H' rho' M' sg tau :=
  ⟨m, R.len, fun i x h => let ⟨v, h1, h2⟩ := R.slot i x h; ⟨v, h1, h2.ext e⟩⟩
theorem RelS.set (R : RelS D H rho M sg tau) {x : PV} {v : V} (i : Nat) (r : Rep D H rho x v) : RelS D H rho M (sg.set i (some v)) (tau.set i (some x)) := by
  refine ⟨R.mem, by simp [R.len], fun j y h => ?_⟩
  by_cases hj : j = i
  · subst hj
    by_cases hl : j < tau.length
    · rw [List.getElem?_set_self hl] at h
      cases h
      exact ⟨v, by rw [List.getElem?_set_self (by rw [← R.len]; exact hl)], r⟩
    · rw [List.getElem?_eq_none (by simpa using hl)] at h; cases h
  · rw [List.getElem?_set_ne (Ne.symm hj)] at h ⊢
    exact R.slot j y h
theorem RelS.unset (R : RelS D H rho M sg tau) (i : Nat) (o : Option V) : RelS D H rho M (sg.set i o) (tau.set i none) := by
  refine ⟨R.mem, by simp [R.len], fun j y h => ?_⟩
  by_cases hj : j = i
  · subst hj
    by_cases hl : j < tau.length
    · rw [List.getElem?_set_self hl] at h; cases h
    · rw [List.getElem?_eq_none (by simpa using hl)] at h; cases h
  · rw [List.getElem?_set_ne (Ne.symm hj)] at h ⊢
    exact R.slot j y h
end
end SW

/-! The text as plain terms, and what it does on plain values. -/
namespace SW
open PySem PySem.Spec PyProof.Rows L2

/-- the built-in functions and types that are called -/
inductive Bi where
  | len | list | tuple | sum | min | max | abs | str | int | all | any
  deriving DecidableEq
/-- the methods -/
inductive Me where
  | append | insert | pop | index | count
  deriving DecidableEq
inductive Ty where
  | int | bool | str | tuple | list
  deriving DecidableEq
abbrev Own := List (Str × Nat)
/-- a target -/
inductive PTg where
  | one (i : Nat) (x : Str) (p : Pos)
  | tup (ts : List (Nat × Str × Pos)) (k : Nat) (p : Pos)
mutual
inductive PEx where
  | nam (i : Nat) (x : Str) (p : Pos)
  | glb (g : Nat) (x : Str) (p : Pos)
  | non (k : Nat) (p : Pos)
  | bl (b : Bool) (k : Nat) (p : Pos)
  | int (i : Int) (k : Nat) (p : Pos)
  | str (s : Str) (k : Nat) (p : Pos)
  | tup (es : PEs) (k : Nat) (p : Pos)
  | lst (es : PEs) (p : Pos)
  | bin (op : Operator) (a b : PEx) (p : Pos)
  | neg (a : PEx) (p : Pos)
  | nt (a : PEx) (p : Pos)
  | cmp (op : CmpOp) (a b : PEx) (p : Pos)
  | chn (op op' : CmpOp) (a b c : PEx) (p : Pos)
  | and (a : PEx) (es : PEs) (p : Pos)
  | or (a : PEx) (es : PEs) (p : Pos)
  | ife (t a b : PEx) (p : Pos)
  | sub (a i : PEx) (p : Pos)
  | slc (a lo hi : PEx) (p2 p : Pos)
  | slcL (a lo : PEx) (p2 p : Pos)
  | slcH (a hi : PEx) (p2 p : Pos)
  | slcN (a : PEx) (p2 p : Pos)
  | call (f : Nat) (x : Str) (e : PEx) (es : PEs) (p p2 : Pos)
  | blt (b : Bi) (e : PEx) (es : PEs) (p p2 : Pos)
  | isi (e : PEx) (t : Ty) (p pt p2 : Pos)
  | meth (m : Me) (o e : PEx) (es : PEs) (pa p : Pos)
  | meth0 (m : Me) (o : PEx) (pa p : Pos)
  | lc (e : PEx) (t : PTg) (it : PIt) (ifs : PEs) (sc : Scope) (own : Own) (p : Pos)
inductive PEs where
  | nil
  | cons (e : PEx) (es : PEs)
/-- what a loop walks -/
inductive PIt where
  | seq (e : PEx)
  | rng1 (e : PEx) (p p2 : Pos)
  | rng2 (a b : PEx) (p p2 : Pos)
  | enum (e : PEx) (p p2 : Pos)
  | zip (a b : PEx) (p p2 : Pos)
  | rev (e : PEx) (p p2 : Pos)
end
mutual
inductive PSt where
  | asg (t : PTg) (e : PEx) (p : Pos)
  | setI (o i e : PEx) (pt p : Pos)
  | expr (e : PEx) (p : Pos)
  | ret (e : PEx) (p : Pos)
  | retN (p : Pos)
  | ife (t : PEx) (a b : PBl) (p : Pos)
  | for_ (t : PTg) (it : PIt) (b : PBl) (p : Pos)
  | whl (t : PEx) (b : PBl) (p : Pos)
  | pass (p : Pos)
inductive PBl where
  | nil
  | cons (s : PSt) (r : PBl)
end

/-! ### back to the text -/
def Bi.nm : Bi → Str
  | .len => "len" | .list => "list" | .tuple => "tuple" | .sum => "sum" | .min => "min" | .max => "max" | .abs => "abs" | .str => "str" | .int => "int" | .all => "all" | .any => "any"
def Me.nm : Me → Str
  | .append => "append" | .insert => "insert" | .pop => "pop" | .index => "index" | .count => "count"
def Ty.nm : Ty → Str
  | .int => "int" | .bool => "bool" | .str => "str" | .tuple => "tuple" | .list => "list"
def Ty.ts : Ty → String
  | .int => "int" | .bool => "bool" | .str => "str" | .tuple => "tuple" | .list => "list"
def toT : PTg → Expr
  | .one _ x p => .Name x p
  | .tup ts k p => .Tuple (ts.map fun t => .Name t.2.1 t.2.2) k p
mutual
def toE : PEx → Expr
  | .nam _ x p => .Name x p
  | .glb _ x p => .Name x p
  | .non k p => .Constant .none k p
  | .bl b k p => .Constant (.bool b) k p
  | .int i k p => .Constant (.int i) k p
  | .str s k p => .Constant (.str s) k p
  | .tup es k p => .Tuple (toL es) k p
  | .lst es p => .List (toL es) p
  | .bin op a b p => .BinOp (toE a) op (toE b) p
  | .neg a p => .UnaryOp .USub (toE a) p
  | .nt a p => .UnaryOp .Not (toE a) p
  | .cmp op a b p => .Compare (toE a) [op] [toE b] p
  | .chn op op' a b c p => .Compare (toE a) [op, op'] [toE b, toE c] p
  | .and a es p => .BoolOp .And (toE a :: toL es) p
  | .or a es p => .BoolOp .Or (toE a :: toL es) p
  | .ife t a b p => .IfExp (toE t) (toE a) (toE b) p
  | .sub a i p => .Subscript (toE a) (toE i) p
  | .slc a lo hi p2 p => .Subscript (toE a) (.Slice (some (toE lo)) (some (toE hi)) none p2) p
  | .slcL a lo p2 p => .Subscript (toE a) (.Slice (some (toE lo)) none none p2) p
  | .slcH a hi p2 p => .Subscript (toE a) (.Slice none (some (toE hi)) none p2) p
  | .slcN a p2 p => .Subscript (toE a) (.Slice none none none p2) p
  | .call _ x e es p p2 => .Call (.Name x p) (toE e :: toL es) [] p2
  | .blt b e es p p2 => .Call (.Name b.nm p) (toE e :: toL es) [] p2
  | .isi e t p pt p2 => .Call (.Name "isinstance" p) [toE e, .Name t.nm pt] [] p2
  | .meth m o e es pa p => .Call (.Attribute (toE o) m.nm pa) (toE e :: toL es) [] p
  | .meth0 m o pa p => .Call (.Attribute (toE o) m.nm pa) [] [] p
  | .lc e t it ifs sc _ p => .ListComp (toE e) [⟨toT t, toI it, toL ifs, 0⟩] sc p
def toL : PEs → List Expr
  | .nil => []
  | .cons e es => toE e :: toL es
def toI : PIt → Expr
  | .seq e => toE e
  | .rng1 e p p2 => .Call (.Name "range" p) [toE e] [] p2
  | .rng2 a b p p2 => .Call (.Name "range" p) [toE a, toE b] [] p2
  | .enum e p p2 => .Call (.Name "enumerate" p) [toE e] [] p2
  | .zip a b p p2 => .Call (.Name "zip" p) [toE a, toE b] [] p2
  | .rev e p p2 => .Call (.Name "reversed" p) [toE e] [] p2
end
mutual
def toS : PSt → Stmt
  | .asg t e p => .Assign [toT t] (toE e) p
  | .setI o i e pt p => .Assign [.Subscript (toE o) (toE i) pt] (toE e) p
  | .expr e p => .Expr (toE e) p
  | .ret e p => .Return (some (toE e)) p
  | .retN p => .Return none p
  | .ife t a b p => .If (toE t) (toSs a) (toSs b) p
  | .for_ t it b p => .For (toT t) (toI it) (toSs b) [] p
  | .whl t b p => .While (toE t) (toSs b) [] p
  | .pass p => .Pass p
def toSs : PBl → List Stmt
  | .nil => []
  | .cons s r => toS s :: toSs r
end

/-! ### primitives on plain values -/
def LINE : Nat := 16777216
abbrev Prim := Option (PV × Sto)
def newL (M : Sto) (xs : List PV) : Prim := if xs.length ≤ LINE then some (.loc M.length, M ++ [.lst xs]) else none
def opB : Operator → PV → PV → Sto → Prim
  | .Add, .int i, .int j, M => some (.int (i + j), M)
  | .Add, .str a, .str b, M => if a.length + b.length ≤ LINE then some (.str (a ++ b), M) else none
  | .Add, .tup a, .tup b, M => if a.length + b.length ≤ LINE then some (.tup (a ++ b), M) else none
  | .Add, .loc a, .loc b, M => match M[a]?, M[b]? with
    | some (.lst xs), some (.lst ys) => newL M (xs ++ ys)
    | _, _ => none
  | .Sub, .int i, .int j, M => some (.int (i - j), M)
  | .Mult, .int i, .int j, M => if (-18446744073709551616 < i ∧ i < 18446744073709551616) ∨ (-18446744073709551616 < j ∧ j < 18446744073709551616) then some (.int (i * j), M) else none
  | .Mult, .loc a, .int k, M => match M[a]? with
    | some (.lst xs) => if -(2 ^ 63) ≤ k ∧ k < 2 ^ 63 ∧ xs.length * k.toNat ≤ LINE then newL M (List.replicate k.toNat xs).flatten else none
    | _ => none
  | .FloorDiv, .int i, .int j, M => if 0 < j ∧ j < 1000000000000000000000000000000000000000000000000000000000000 then some (.int (i / j), M) else none
  | .Mod, .int i, .int j, M => if 0 < j then some (.int (i % j), M) else none
  | .Pow, .int i, .int j, M => if 0 ≤ j ∧ j ≤ 1000000 ∧ i.natAbs < 2 ^ 64 then some (.int (i ^ j.toNat), M) else none
  | _, _, _, _ => none

def mapO {α β : Type} (f : α → Option β) : List α → Option (List β)
  | [] => some []
  | x :: xs => match f x, mapO f xs with
    | some y, some ys => some (y :: ys)
    | _, _ => none
/-- the data of a value -/
def toD (M : Sto) : Nat → PV → Option PyData
  | _, .non => some .none
  | _, .bl b => some (.bool b)
  | _, .int i => some (.int i)
  | _, .str s => some (.str ⟨s.toArray⟩)
  | k + 1, .tup xs => (mapO (toD M k) xs).map .tuple
  | k + 1, .loc n => match lst? M (.loc n) with
    | some xs => (mapO (toD M k) xs).map .list
    | none => none
  | _, _ => none
def eqP (M : Sto) (x y : PV) : Option Bool := match toD M 12 x, toD M 12 y with
  | some d, some e => if d.canLay0 && e.canLay0 then some (PyData.eqv d e) else none
  | _, _ => none
def flat : PV → Bool
  | .tup _ => false
  | .loc _ => false
  | _ => true
/-- == of flat things -/
def eqF : PV → PV → Bool
  | .non, .non => true
  | .bl a, .bl b => a == b
  | .int a, .int b => a == b
  | .bl a, .int j => (if a then (1 : Int) else 0) == j
  | .int i, .bl b => i == (if b then 1 else 0)
  | .str a, .str b => a == b
  | _, _ => false
def opC : CmpOp → PV → PV → Sto → Option Bool
  | .Eq, x, y, M => eqP M x y
  | .NotEq, x, y, M => (eqP M x y).map not
  | .Lt, .int i, .int j, _ => some (decide (i < j))
  | .LtE, .int i, .int j, _ => some (decide (i ≤ j))
  | .Gt, .int i, .int j, _ => some (decide (j < i))
  | .GtE, .int i, .int j, _ => some (decide (j ≤ i))
  | .Is, .bl a, .bl b, _ => some (decide (a = b))
  | .IsNot, .bl a, .bl b, _ => some (!decide (a = b))
  | .Is, .non, .non, _ => some true
  | .Is, _, .non, _ => some false
  | .IsNot, .non, .non, _ => some false
  | .IsNot, _, .non, _ => some true
  | .In, x, y, M => match items? M y with
    | some ys => if flat x && ys.all flat then some (ys.any fun z => eqF z x) else none
    | none => none
  | .NotIn, x, y, M => match items? M y with
    | some ys => if flat x && ys.all flat then some (!(ys.any fun z => eqF z x)) else none
    | none => none
  | _, _, _, _ => none
def atP (xs : List PV) (i : Int) : Option PV := atI xs i
def opI : PV → PV → Sto → Prim
  | .tup xs, .int i, M => (atI xs i).map (·, M)
  | .loc n, .int i, M => match lst? M (.loc n) with
    | some xs => (atI xs i).map (·, M)
    | none => none
  | .str s, .int i, M => if s.length ≤ LINE then (atI s i).map (fun c => (.str [c], M)) else none
  | _, _, _ => none
def cut {α : Type} (xs : List α) (lo hi : Option Int) : List α := (xs.drop (HT.sIx xs.length 0 lo)).take (HT.sIx xs.length xs.length hi - HT.sIx xs.length 0 lo)
def opS : PV → Option Int → Option Int → Sto → Prim
  | .tup xs, lo, hi, M => some (.tup (cut xs lo hi), M)
  | .loc n, lo, hi, M => match lst? M (.loc n) with
    | some xs => newL M (cut xs lo hi)
    | none => none
  | _, _, _, _ => none
/-- truth -/
def truth (M : Sto) : PV → Option Bool
  | .non => some false
  | .bl b => some b
  | .int i => some (i != 0)
  | .tup xs => some (!xs.isEmpty)
  | .loc n => (lst? M (.loc n)).map fun xs => !xs.isEmpty
  | .str _ => none
def isTy (M : Sto) : Ty → PV → Option Bool
  | t, .non => some false
  | t, .bl _ => some (t == .int || t == .bool)
  | t, .int _ => some (t == .int)
  | t, .str _ => some (t == .str)
  | t, .tup _ => some (t == .tuple)
  | t, .loc n => (lst? M (.loc n)).map fun _ => t == .list
def opM : Bi → List PV → Sto → Prim
  | .len, [x], M => match x with
    | .str s => if s.length ≤ LINE then some (.int s.length, M) else none
    | x => (items? M x).map fun xs => (.int xs.length, M)
  | .list, [x], M => match items? M x with
    | some xs => newL M xs
    | none => none
  | .tuple, [x], M => (items? M x).map fun xs => (.tup xs, M)
  | .sum, [x], M => match items? M x with
    | some xs => (ints? xs).map fun ns => (.int ns.sum, M)
    | none => none
  | .min, [.int i, .int j], M => some (.int (if j < i then j else i), M)
  | .max, [.int i, .int j], M => some (.int (if j > i then j else i), M)
  | .abs, [.int i], M => some (.int (if i < 0 then -i else i), M)
  | .str, [.int i], M => if i.natAbs.log2 < 1920 then some (.str (toString i : Str).cps.toList, M) else none
  | .int, [.int i], M => some (.int i, M)
  | .int, [.bl b], M => some (.int (if b then 1 else 0), M)
  | .all, [x], M => match lst? M x with
    | some xs => (bls? xs).map fun bs => (.bl (bs.all id), M)
    | none => none
  | .any, [x], M => match lst? M x with
    | some xs => (bls? xs).map fun bs => (.bl (bs.any id), M)
    | none => none
  | _, _, _ => none
def insP (xs : List PV) (i : Nat) (x : PV) : List PV := xs.take i ++ x :: xs.drop i
def opD : Me → PV → List PV → Sto → Prim
  | .append, .loc n, [x], M => match M[n]? with
    | some (.lst xs) => if xs.length < LINE then some (.non, M.set n (.lst (xs ++ [x]))) else none
    | _ => none
  | .insert, .loc n, [.int i, x], M => match M[n]? with
    | some (.lst xs) => if xs.length < LINE ∧ 0 ≤ i ∧ i < 2 ^ 63 then some (.non, M.set n (.lst (insP xs i.toNat x))) else none
    | _ => none
  | .pop, .loc n, [.int i], M => match M[n]? with
    | some (.lst xs) => match ixN xs.length i with
      | some k => match xs[k]? with
        | some y => if -(2 ^ 63) ≤ i ∧ i < 2 ^ 63 then some (y, M.set n (.lst (xs.eraseIdx k))) else none
        | none => none
      | none => none
    | _ => none
  | .pop, .loc n, [], M => match M[n]? with
    | some (.lst xs) => match xs[xs.length - 1]? with
      | some y => some (y, M.set n (.lst xs.dropLast))
      | none => none
    | _ => none
  | _, _, _, _ => none
/-- o[i] = v -/
def opSet : PV → PV → PV → Sto → Option Sto
  | .loc n, .int k, v, M => match M[n]? with
    | some (.lst xs) => (ixN xs.length k).map fun j => M.set n (.lst (xs.set j v))
    | _ => none
  | _, _, _, _ => none

/-! ### running -/
structure FI where
  nm : Str
  ps : List Str
  lev : Nat
  run : List PV → Sto → Res PV
structure Glb where
  fns : List FI
  bn : List Str
  cst : List (Str × PV)
/-- a walk: the value at a turn, or the end; none: it can't go on -/
abbrev Wlk := Nat → Sto → Option (Option PV)
structure Walk where
  cnt : Nat
  at_ : Wlk
inductive SR where
  | next (tau : Sig) (M : Sto) | ret (v : PV) (M : Sto) | exc (c : Nat) (v : Option PV) (tau : Sig) (M : Sto) | stuck
def SR.bind (r : SR) (f : Sig → Sto → SR) : SR := match r with
  | .next tau M => f tau M
  | r => r
/-- an expression's answer in a statement -/
def Res.then {α : Type} (r : Res α) (tau : Sig) (f : α → Sto → SR) : SR := match r with
  | .ok a M => f a M
  | .exc c v M => .exc c v tau M
  | .stuck => .stuck
@[simp] theorem Res.then_ok {α : Type} (a : α) (M : Sto) (tau : Sig) (f : α → Sto → SR) : (Res.ok a M).then tau f = f a M := rfl
@[simp] theorem Res.then_stuck {α : Type} (tau : Sig) (f : α → Sto → SR) : (Res.stuck : Res α).then tau f = .stuck := rfl
@[simp] theorem Res.then_exc {α : Type} (c : Nat) (v : Option PV) (M : Sto) (tau : Sig) (f : α → Sto → SR) : (Res.exc c v M : Res α).then tau f = .exc c v tau M := rfl
@[simp] theorem SR.bind_next (tau : Sig) (M : Sto) (f : Sig → Sto → SR) : (SR.next tau M).bind f = f tau M := rfl
@[simp] theorem SR.bind_ret (v : PV) (M : Sto) (f : Sig → Sto → SR) : (SR.ret v M).bind f = .ret v M := rfl
@[simp] theorem SR.bind_exc (c : Nat) (v : Option PV) (tau : Sig) (M : Sto) (f : Sig → Sto → SR) : (SR.exc c v tau M).bind f = .exc c v tau M := rfl
@[simp] theorem SR.bind_stuck (f : Sig → Sto → SR) : SR.stuck.bind f = .stuck := rfl
def setAll : List Nat → List PV → Sig → Option Sig
  | [], [], tau => some tau
  | i :: is, v :: vs, tau => setAll is vs (tau.set i (some v))
  | _, _, _ => none
/-- a target takes a value -/
def asgT (t : PTg) (v : PV) (tau : Sig) (M : Sto) : Option Sig := match t with
  | .one i _ _ => some (tau.set i (some v))
  | .tup ts _ _ => match items? M v with
    | some xs => setAll (ts.map (·.1)) xs tau
    | none => none
def wipeP (tau : Sig) : List Nat → Sig
  | [] => tau
  | v :: vs => (wipeP tau vs).set v none
def seqW (M : Sto) : PV → Option Walk
  | .tup xs => some ⟨xs.length, fun i _ => some xs[i]?⟩
  | .loc n => match lst? M (.loc n) with
    | some xs => some ⟨xs.length, fun i M => (lst? M (.loc n)).map fun ys => ys[i]?⟩
    | none => none
  | .str s => some ⟨s.length, fun i _ => some (s[i]?.map fun c => .str [c])⟩
  | _ => none
def rngW (lo hi : Int) : Walk := ⟨(hi - lo).toNat, fun i _ => some (if i < (hi - lo).toNat then some (.int (lo + i)) else none)⟩
def small62 (i : Int) : Bool := decide (-(2 ^ 62) ≤ i) && decide (i < 2 ^ 62)
/-- a comprehension's turns: the list stands at n -/
def lcGo (n : Nat) (at_ : Wlk) (tgt : PV → Sto → Option Sig) (tst : Sig → Sto → Res Bool) (el : Sig → Sto → Res PV) : Nat → Nat → Sto → Res PV
  | 0, i, M => match at_ i M with
    | some none => .ok (.loc n) M
    | _ => .stuck
  | k + 1, i, M => match at_ i M with
    | some none => .ok (.loc n) M
    | some (some v) => match tgt v M with
      | some tau => (tst tau M).bind fun b M => if b = true then (el tau M).bind fun y M => match M[n]? with
          | some (.lst acc) => if acc.length < LINE then lcGo n at_ tgt tst el k (i + 1) (M.set n (.lst (acc ++ [y]))) else .stuck
          | _ => .stuck
        else lcGo n at_ tgt tst el k (i + 1) M
      | none => .stuck
    | none => .stuck
/-- a loop's turns -/
def forGo (at_ : Wlk) (tgt : PV → Sig → Sto → Option Sig) (body : Sig → Sto → SR) : Nat → Nat → Sig → Sto → SR
  | 0, i, tau, M => match at_ i M with
    | some none => .next tau M
    | _ => .stuck
  | k + 1, i, tau, M => match at_ i M with
    | some none => .next tau M
    | some (some v) => match tgt v tau M with
      | some tau => (body tau M).bind (forGo at_ tgt body k (i + 1))
      | none => .stuck
    | none => .stuck
def FUEL : Nat := 1000000
def whlGo (tst : Sig → Sto → Res Bool) (body : Sig → Sto → SR) : Nat → Sig → Sto → SR
  | 0, _, _ => .stuck
  | k + 1, tau, M => (tst tau M).then tau fun b M => if b = true then (body tau M).bind (whlGo tst body k) else .next tau M

/-- no exception leaves -/
def Res.nox {α : Type} (r : Res α) : Res α := match r with
  | .exc _ _ _ => .stuck
  | r => r
@[simp] theorem Res.nox_ok {α : Type} (a : α) (M : Sto) : (Res.ok a M).nox = .ok a M := rfl
/-- a value as a test's answer -/
def fin (m : Bool) (r : Res PV) : Res PV := match m with
  | false => r
  | true => r.bind fun x M => match truth M x with
    | some k => .ok (.bl k) M
    | none => .stuck
/-- a test's answer as a truth -/
def Res.bool (r : Res PV) : Res Bool := r.bind fun x M => match x with
  | .bl b => .ok b M
  | _ => .stuck
variable (G : Glb)
mutual
/-- an expression; m: as a test -/
def evE (m : Bool) : PEx → Sig → Sto → Res PV
  | .nam i _ _, tau, M => fin m (match tau[i]? with
    | some (some v) => .ok v M
    | _ => .stuck)
  | .glb g _ _, _, M => fin m (match G.cst[g]? with
    | some (_, v) => .ok v M
    | none => .stuck)
  | .non _ _, _, M => fin m (.ok .non M)
  | .bl b _ _, _, M => fin m (.ok (.bl b) M)
  | .int i _ _, _, M => fin m (.ok (.int i) M)
  | .str s _ _, _, M => fin m (.ok (.str s.cps.toList) M)
  | .tup es _ _, tau, M => fin m ((evL es tau M).bind fun xs M => if xs.length ≤ LINE then .ok (.tup xs) M else .stuck)
  | .lst es _, tau, M => fin m ((evL es tau M).bind fun xs M => Res.of (newL M xs))
  | .bin op a b _, tau, M => fin m ((evE false a tau M).bind fun x M => (evE false b tau M).bind fun y M => Res.of (opB op x y M))
  | .neg a _, tau, M => fin m ((evE false a tau M).bind fun x M => match x with
    | .int i => .ok (.int (-i)) M
    | _ => .stuck)
  | .nt a _, tau, M => (evE m a tau M).bind fun x M => match x with
    | .bl b => .ok (.bl (!b)) M
    | _ => .stuck
  | .cmp op a b _, tau, M => (evE false a tau M).bind fun x M => (evE false b tau M).bind fun y M => match opC op x y M with
    | some k => .ok (.bl k) M
    | none => .stuck
  | .chn op op' a b c _, tau, M => (evE false a tau M).bind fun x M => (evE false b tau M).bind fun y M => match opC op x y M with
    | some true => (evE false c tau M).bind fun z M => match opC op' y z M with
      | some k => .ok (.bl k) M
      | none => .stuck
    | some false => .ok (.bl false) M
    | none => .stuck
  | .and a es _, tau, M => (evE m a tau M).bind fun x M => evAnd m es x tau M
  | .or a es _, tau, M => (evE m a tau M).bind fun x M => evOr m es x tau M
  | .ife t a b _, tau, M => if m = true then .stuck else (evE true t tau M).bool.bind fun k M => if k = true then evE false a tau M else evE false b tau M
  | .sub a i _, tau, M => fin m ((evE false a tau M).bind fun x M => (evE false i tau M).bind fun y M => Res.of (opI x y M))
  | .slc a lo hi _ _, tau, M => fin m ((evE false a tau M).bind fun x M => (evE false lo tau M).bind fun l M => match l with
    | .int l => (evE false hi tau M).bind fun h M => match h with
      | .int h => Res.of (opS x (some l) (some h) M)
      | _ => .stuck
    | _ => .stuck)
  | .slcL a lo _ _, tau, M => fin m ((evE false a tau M).bind fun x M => (evE false lo tau M).bind fun l M => match l with
    | .int l => Res.of (opS x (some l) none M)
    | _ => .stuck)
  | .slcH a hi _ _, tau, M => fin m ((evE false a tau M).bind fun x M => (evE false hi tau M).bind fun h M => match h with
    | .int h => Res.of (opS x none (some h) M)
    | _ => .stuck)
  | .slcN a _ _, tau, M => fin m ((evE false a tau M).bind fun x M => Res.of (opS x none none M))
  | .call f _ e es _ _, tau, M => fin m ((evE false e tau M).bind fun x M => (evL es tau M).bind fun xs M => match G.fns[f]? with
    | some fi => if (x :: xs).length = fi.ps.length then fi.run (x :: xs) M else .stuck
    | none => .stuck)
  | .blt b e es _ _, tau, M => fin m ((evE false e tau M).bind fun x M => (evL es tau M).bind fun xs M => Res.of (opM b (x :: xs) M))
  | .isi e t _ _ _, tau, M => fin m ((evE false e tau M).bind fun x M => match isTy M t x with
    | some k => .ok (.bl k) M
    | none => .stuck)
  | .meth d o e es _ _, tau, M => fin m ((evE false o tau M).bind fun x M => match lst? M x with
    | some _ => (evE false e tau M).bind fun y M => (evL es tau M).bind fun ys M => Res.of (opD d x (y :: ys) M)
    | none => .stuck)
  | .meth0 d o _ _, tau, M => fin m ((evE false o tau M).bind fun x M => match lst? M x with
    | some _ => Res.of (opD d x [] M)
    | none => .stuck)
  | .lc e t it ifs _ own _, tau, M => fin m ((evI it tau M).bind fun w M =>
      lcGo M.length w.at_ (fun v M => asgT t v (wipeP tau (own.map (·.2))) M) (fun tau M => (evTs ifs tau M).nox) (fun tau M => (evE false e tau M).nox) w.cnt 0 (M ++ [.lst []]))
def evL : PEs → Sig → Sto → Res (List PV)
  | .nil, _, M => .ok [] M
  | .cons e es, tau, M => (evE false e tau M).bind fun x M => (evL es tau M).bind fun xs M => .ok (x :: xs) M
def evAnd (m : Bool) : PEs → PV → Sig → Sto → Res PV
  | .nil, x, _, M => .ok x M
  | .cons e es, x, tau, M => match x with
    | .bl true => (evE m e tau M).bind fun y M => evAnd m es y tau M
    | .bl false => .ok (.bl false) M
    | _ => .stuck
def evOr (m : Bool) : PEs → PV → Sig → Sto → Res PV
  | .nil, x, _, M => .ok x M
  | .cons e es, x, tau, M => match x with
    | .bl false => (evE m e tau M).bind fun y M => evOr m es y tau M
    | .bl true => .ok (.bl true) M
    | _ => .stuck
/-- a comprehension's ifs (none or one) -/
def evTs : PEs → Sig → Sto → Res Bool
  | .nil, _, M => .ok true M
  | .cons e _, tau, M => (evE true e tau M).bool
def evI : PIt → Sig → Sto → Res Walk
  | .seq e, tau, M => (evE false e tau M).bind fun x M => match seqW M x with
    | some w => .ok w M
    | none => .stuck
  | .rng1 e _ _, tau, M => (evE false e tau M).bind fun x M => match x with
    | .int j => if small62 j then .ok (rngW 0 j) M else .stuck
    | _ => .stuck
  | .rng2 a b _ _, tau, M => (evE false a tau M).bind fun x M => (evE false b tau M).bind fun y M => match x, y with
    | .int i, .int j => if small62 i && small62 j then .ok (rngW i j) M else .stuck
    | _, _ => .stuck
  | .enum _ _ _, _, _ => .stuck
  | .zip _ _ _ _, _, _ => .stuck
  | .rev _ _ _, _, _ => .stuck
end
mutual
def evS : PSt → Sig → Sto → SR
  | .asg t e _, tau, M => (evE G false e tau M).then tau fun v M => match asgT t v tau M with
    | some tau => .next tau M
    | none => .stuck
  | .setI o i e _ _, tau, M => (evE G false e tau M).then tau fun v M => (evE G false o tau M).then tau fun x M => (evE G false i tau M).then tau fun y M => match opSet x y v M with
    | some M => .next tau M
    | none => .stuck
  | .expr e _, tau, M => (evE G false e tau M).then tau fun _ M => .next tau M
  | .ret e _, tau, M => (evE G false e tau M).then tau fun v M => .ret v M
  | .retN _, _, M => .ret .non M
  | .ife t a b _, tau, M => (evE G true t tau M).bool.then tau fun k M => if k = true then evSs a tau M else evSs b tau M
  | .for_ t it b _, tau, M => (evI G it tau M).then tau fun w M => forGo w.at_ (fun v tau M => asgT t v tau M) (fun tau M => evSs b tau M) w.cnt 0 tau M
  | .whl t b _, tau, M => whlGo (fun tau M => (evE G true t tau M).bool) (fun tau M => evSs b tau M) FUEL tau M
  | .pass _, tau, M => .next tau M
def evSs : PBl → Sig → Sto → SR
  | .nil, tau, M => .next tau M
  | .cons s r, tau, M => (evS s tau M).bind fun tau M => evSs r tau M
end
/-- a def's run -/
def runF (n : Nat) (body : PBl) (xs : List PV) (M : Sto) : Res PV := match evSs G body (xs.map some ++ List.replicate (n - xs.length) none) M with
  | .next _ M => .ok .non M
  | .ret v M => .ok v M
  | .exc c v _ M => .exc c v M
  | .stuck => .stuck
example (G : Glb) (k : Nat) (p : Pos) (t : Sig) (M : Sto) : evE G true (.nt (.bl true k p) p) t M = .ok (.bl false) M := rfl
end SW

/-! The primitives do what they do. -/
namespace SW
open PySem PySem.Spec PyProof.Rows L2

/-- how an exception of the plain class c with the field y lies -/
def ERep (D : Wd) (H : Hp) (rho : List Addr) (c : Nat) (y : Option PV) (cls : Value) (d : Option Addr) : Prop :=
  cls = .ref (D.cl c) ∧ match y with
    | none => d = none
    | some y => ∃ dx v, d = some dx ∧ H dx = some (.xd [("at", v)]) ∧ Rep D H rho y v
section
variable {D : Wd}
/-- the answer r, from (H0, rho0) on, makes Q hold -/
def OKG (D : Wd) {α β : Type} (R : Hp → List Addr → α → β → Prop) (H0 : Hp) (rho0 : List Addr) (r : Res α) (Q : β → Hp → Prop) (W : XK) : Prop := match r with
  | .ok x M => ∀ (H : Hp) (rho : List Addr) (v : β), Ext H0 rho0 H rho → StoOk D H rho M → R H rho x v → Q v H
  | .exc c y M => ∀ (H : Hp) (rho : List Addr) (cls : Value) (d : Option Addr), Ext H0 rho0 H rho → StoOk D H rho M → ERep D H rho c y cls d → W cls d H
  | .stuck => False
theorem OKG.ext {α β : Type} {R : Hp → List Addr → α → β → Prop} {H0 H : Hp} {rho0 rho : List Addr} {r : Res α} {Q : β → Hp → Prop} {W : XK} (e : Ext H0 rho0 H rho) (h : OKG D R H0 rho0 r Q W) : OKG D R H rho r Q W := by
  cases r with
  | ok x M => exact fun H1 rho1 v e1 s q => h H1 rho1 v (e.trans e1) s q
  | exc c y M => exact fun H1 rho1 cls d e1 s q => h H1 rho1 cls d (e.trans e1) s q
  | stuck => exact h
theorem OKG.bind {α β γ δ : Type} {R : Hp → List Addr → α → β → Prop} {R2 : Hp → List Addr → γ → δ → Prop} {H0 : Hp} {rho0 : List Addr} {r : Res α} {g : α → Sto → Res γ} {Q : δ → Hp → Prop} {Q' : β → Hp → Prop} {W : XK}
    (h : OKG D R2 H0 rho0 (r.bind g) Q W) (k : ∀ (H : Hp) (rho : List Addr) (x : α) (v : β) (M : Sto), Ext H0 rho0 H rho → StoOk D H rho M → R H rho x v → OKG D R2 H rho (g x M) Q W → Q' v H) : OKG D R H0 rho0 r Q' W := by
  cases r with
  | ok x M => exact fun H rho v e s q => k H rho x v M e s q (OKG.ext e h)
  | exc c y M => exact h
  | stuck => exact h
theorem OKG.ok {α β : Type} {R : Hp → List Addr → α → β → Prop} {H0 : Hp} {rho0 : List Addr} {x : α} {M : Sto} {v : β} {Q : β → Hp → Prop} {W : XK} (h : OKG D R H0 rho0 (.ok x M) Q W) (s : StoOk D H0 rho0 M) (r : R H0 rho0 x v) : Q v H0 := h H0 rho0 v Ext.refl s r
/-- a primitive's -/
def PRM (D : Wd) (H0 : Hp) (rho0 : List Addr) (r : Prim) (Q : VK) : Prop := match r with
  | some (x, M) => ∀ (H : Hp) (rho : List Addr) (v : V), Ext H0 rho0 H rho → StoOk D H rho M → Rep D H rho x v → Q v H
  | none => False
theorem OKG.prm {H0 : Hp} {rho0 : List Addr} {r : Prim} {Q : VK} {W : XK} (h : OKG D (Rep D) H0 rho0 (Res.of r) Q W) : PRM D H0 rho0 r Q := by
  cases r with
  | none => exact h
  | some p => exact h
theorem PRM.ok {H0 : Hp} {rho0 : List Addr} {x : PV} {M : Sto} {v : V} {Q : VK} (h : PRM D H0 rho0 (some (x, M)) Q) (s : StoOk D H0 rho0 M) (r : Rep D H0 rho0 x v) : Q v H0 := h H0 rho0 v Ext.refl s r
/-- a new list -/
theorem PRM.newL {H0 : Hp} {rho0 : List Addr} {xs : List PV} {M : Sto} {vs : List V} {Q : VK} (h : PRM D H0 rho0 (SW.newL M xs) Q) (s : StoOk D H0 rho0 M) (r : RepL D H0 rho0 xs vs) : xs.length ≤ LINE ∧ ∀ p, H0 p = none → Q (.ref p) (upd H0 p (.lst vs)) := by
  unfold SW.newL at h
  by_cases hz : xs.length ≤ LINE
  · rw [if_pos hz] at h
    refine ⟨hz, fun p np => h _ (rho0 ++ [p]) _ (Ext.newL np) (s.newL np r) ?_⟩
    rw [rep_loc]
    exact ⟨p, rfl, by rw [← s.len]; simp⟩
  · rw [if_neg hz] at h
    exact h.elim
theorem PRM.tup {H0 : Hp} {rho0 : List Addr} {xs : List PV} {M : Sto} {vs : List V} {Q : VK} (h : PRM D H0 rho0 (some (.tup xs, M)) Q) (s : StoOk D H0 rho0 M) (r : RepL D H0 rho0 xs vs) : ∀ p, H0 p = none → Q (.ref p) (upd H0 p (.tup vs)) := fun p np =>
  h _ rho0 _ (Ext.new np) (s.new np) (rep_tup.mpr ⟨p, vs, rfl, .inl (.inl upd_same), r.ext (Ext.new np)⟩)
/-- a list written -/
theorem StoOk.wr {H : Hp} {rho : List Addr} {M : Sto} {n : Nat} {xs ys : List PV} {ws : List V} (s : StoOk D H rho M) (hn : M[n]? = some (.lst xs)) {a : Addr} {vs : List V} (ea : rho[n]? = some a) (h : H a = some (.lst vs)) (r : RepL D H rho ys ws) :
    Ext H rho (upd H a (.lst ws)) rho ∧ StoOk D (upd H a (.lst ws)) rho (M.set n (.lst ys)) := ⟨Ext.writeL h, s.writeL hn ea h r⟩
end
theorem line_eq : sizeLine = LINE := sizeLine_eq

section
variable {X : Cx} {D : Wd} (hK : X.K = D.K)
def r2P (D : Wd) (g : PV → PV → Sto → Prim) : R2 := fun x y H Q => ∃ px py M rho, StoOk D H rho M ∧ Rep D H rho px x ∧ Rep D H rho py y ∧ PRM D H rho (g px py M) Q
def r1P (D : Wd) (g : List PV → Sto → Prim) : List V → Hp → VK → Prop := fun vs H Q => ∃ xs M rho, StoOk D H rho M ∧ RepL D H rho xs vs ∧ PRM D H rho (g xs M) Q
include hK
theorem opB_ok (op : Operator) : OpR X (binaryOp op) (r2P D (opB op)) := by
  intro pins s σ H x y v u Q I rx ry h
  obtain ⟨px, py, M, rho, st, hx, hy, h⟩ := h
  cases op with
  | Add =>
    cases px <;> cases py <;> simp only [opB] at h <;> first | exact h.elim | skip
    · rename_i i j
      rw [rep_int] at hx hy
      exact op_add pins s σ H x y v u Q I rx ry ⟨i, j, hx, hy, h.ok st (rep_int.mpr rfl)⟩
    · rename_i a b
      rw [rep_str] at hx hy
      split at h
      · rename_i hz
        refine op_add_str pins s σ H x y v u Q I rx ry ⟨_, _, hx, hy, ?_, h.ok st (rep_str.mpr ?_)⟩
        · rw [line_eq]; simpa [Str.length] using hz
        · show V.str _ = V.str _
          congr 1
          show Str.mk _ = Str.mk _
          simp
      · exact h.elim
    · rename_i a b
      rw [rep_tup] at hx hy
      obtain ⟨p, vs, ex, h1, h2⟩ := hx
      obtain ⟨q, ws, ey, k1, k2⟩ := hy
      split at h
      · rename_i hz
        refine op_catA pins s σ H x y v u Q I rx ry ⟨p, q, vs, ws, ex, ey, by rw [hK]; exact h1, by rw [hK]; exact k1, by rw [line_eq, ← h2.len, ← k2.len]; exact hz, fun e => ?_, fun _ e => ?_, fun _ _ r nr => ?_⟩
        · have ea := h2.nil_iff.mpr e
          subst ea
          exact h.ok st (rep_tup.mpr ⟨q, ws, rfl, k1, k2⟩)
        · have ea := k2.nil_iff.mpr e
          subst ea
          rw [List.append_nil] at h
          exact h.ok st (rep_tup.mpr ⟨p, vs, rfl, h1, h2⟩)
        · exact h.tup st (h2.append k2) r nr
      · exact h.elim
    · rename_i a b
      split at h
      · rename_i xs ys ha hb
        obtain ⟨p, ex, ep⟩ := rep_loc.mp hx
        obtain ⟨q, ey, eq⟩ := rep_loc.mp hy
        obtain ⟨p', vs, ep', h1, h2⟩ := st.lst ha
        obtain ⟨q', ws, eq', k1, k2⟩ := st.lst hb
        rw [ep] at ep'; cases ep'
        rw [eq] at eq'; cases eq'
        obtain ⟨hz, hq⟩ := h.newL st (h2.append k2)
        exact op_cat pins s σ H x y v u Q I rx ry ⟨p, q, vs, ws, ex, ey, h1, k1, by rw [line_eq, ← h2.len, ← k2.len, ← List.length_append]; exact hz, hq⟩
      · exact h.elim
  | Sub =>
    cases px <;> cases py <;> simp only [opB] at h <;> first | exact h.elim | skip
    rename_i i j
    rw [rep_int] at hx hy
    exact op_sub pins s σ H x y v u Q I rx ry ⟨i, j, hx, hy, h.ok st (rep_int.mpr rfl)⟩
  | Mult =>
    cases px <;> cases py <;> simp only [opB] at h <;> first | exact h.elim | skip
    · rename_i i j
      rw [rep_int] at hx hy
      split at h
      · rename_i hc
        exact op_mul pins s σ H x y v u Q I rx ry ⟨i, j, hx, hy, by unfold CMul; omega, h.ok st (rep_int.mpr rfl)⟩
      · exact h.elim
    · rename_i a k
      rw [rep_int] at hy
      split at h
      · rename_i xs ha
        split at h
        · rename_i hc
          obtain ⟨p, ex, ep⟩ := rep_loc.mp hx
          obtain ⟨p', vs, ep', h1, h2⟩ := st.lst ha
          rw [ep] at ep'; cases ep'
          have hr : ∀ n : Nat, RepL D H rho (List.replicate n xs).flatten (List.replicate n vs).flatten := fun n => by
            induction n with
            | zero => simp [repL_nil]
            | succ n ih => rw [List.replicate_succ, List.replicate_succ, List.flatten_cons, List.flatten_cons]; exact h2.append ih
          obtain ⟨hz, hq⟩ := h.newL st (hr _)
          exact op_rep pins s σ H x y v u Q I rx ry ⟨p, k, vs, ex, hy, h1, hc.1, hc.2.1, by rw [line_eq, ← h2.len]; exact hc.2.2, hq⟩
        · exact h.elim
      · exact h.elim
  | FloorDiv =>
    cases px <;> cases py <;> simp only [opB] at h <;> first | exact h.elim | skip
    rename_i i j
    rw [rep_int] at hx hy
    split at h
    · rename_i hc
      exact op_fdivW pins s σ H x y v u Q I rx ry ⟨i, j, hx, hy, wide_div (b := 200) hc.1 (by omega) (by omega) (by omega), h.ok st (rep_int.mpr rfl)⟩
    · exact h.elim
  | Mod =>
    cases px <;> cases py <;> simp only [opB] at h <;> first | exact h.elim | skip
    rename_i i j
    rw [rep_int] at hx hy
    split at h
    · rename_i hc
      exact op_mod pins s σ H x y v u Q I rx ry ⟨i, j, hx, hy, hc, h.ok st (rep_int.mpr rfl)⟩
    · exact h.elim
  | Pow =>
    cases px <;> cases py <;> simp only [opB] at h <;> first | exact h.elim | skip
    rename_i i j
    rw [rep_int] at hx hy
    split at h
    · rename_i hc
      exact op_pow pins s σ H x y v u Q I rx ry ⟨i, j, hx, hy, hc, h.ok st (rep_int.mpr rfl)⟩
    · exact h.elim
  | _ => exact h.elim
end
end SW

namespace SW
open PySem PySem.Spec PyProof.Rows L2

/-! ### data -/
theorem depthAll_le {n : Nat} : ∀ {ds : List PyData}, (∀ d ∈ ds, d.depth ≤ n) → PyData.depthAll ds ≤ n
  | [], _ => by simp [PyData.depthAll]
  | d :: ds, h => by
    have h1 := h d (by simp)
    have h2 := depthAll_le (ds := ds) fun e he => h e (by simp [he])
    simp only [PyData.depthAll]
    omega
theorem mapO_mem {α β : Type} {f : α → Option β} : ∀ {xs : List α} {ys : List β}, mapO f xs = some ys → ∀ y ∈ ys, ∃ x ∈ xs, f x = some y
  | [], ys, h, y, hy => by cases h; cases hy
  | x :: xs, ys, h, y, hy => by
    simp only [mapO] at h
    split at h
    · rename_i a as e1 e2
      cases h
      rcases List.mem_cons.mp hy with rfl | hy
      · exact ⟨x, by simp, e1⟩
      · obtain ⟨z, hz, ez⟩ := mapO_mem e2 y hy
        exact ⟨z, by simp [hz], ez⟩
    · cases h
theorem toD_depth (M : Sto) : ∀ (k : Nat) (x : PV) (d : PyData), toD M k x = some d → d.depth ≤ k + 1
  | k, .non, d, h => by simp [toD] at h; subst h; simp [PyData.depth]
  | k, .bl b, d, h => by simp [toD] at h; subst h; simp [PyData.depth]
  | k, .int i, d, h => by simp [toD] at h; subst h; simp [PyData.depth]
  | k, .str s, d, h => by simp [toD] at h; subst h; simp [PyData.depth]
  | 0, .tup xs, d, h => by simp [toD] at h
  | 0, .loc n, d, h => by simp [toD] at h
  | k + 1, .tup xs, d, h => by
    simp only [toD] at h
    obtain ⟨ds, e, rfl⟩ := Option.map_eq_some_iff.mp h
    have : PyData.depthAll ds ≤ k + 1 := depthAll_le fun d hd => by
      obtain ⟨x, _, ex⟩ := mapO_mem e d hd
      exact toD_depth M k x d ex
    simp only [PyData.depth]
    omega
  | k + 1, .loc n, d, h => by
    simp only [toD] at h
    split at h
    · rename_i xs hx
      obtain ⟨ds, e, rfl⟩ := Option.map_eq_some_iff.mp h
      have : PyData.depthAll ds ≤ k + 1 := depthAll_le fun d hd => by
        obtain ⟨x, _, ex⟩ := mapO_mem e d hd
        exact toD_depth M k x d ex
      simp only [PyData.depth]
      omega
    · cases h
section
variable {D : Wd} {H : Hp} {rho : List Addr} {M : Sto}
theorem dpAll_of {f : PV → Option PyData} (hf : ∀ x v d, f x = some d → Rep D H rho x v → Dp D.K H v d) : ∀ {xs : List PV} {vs : List V} {ds : List PyData}, mapO f xs = some ds → RepL D H rho xs vs → DpAll D.K H vs ds
  | [], vs, ds, h, r => by cases h; rw [repL_nil.mp r]; exact .nil
  | x :: xs, vs, ds, h, r => by
    obtain ⟨v, rs, rfl, r1, r2⟩ := repL_cons.mp r
    simp only [mapO] at h
    split at h
    · rename_i a as e1 e2
      cases h
      exact .cons (hf _ _ _ e1 r1) (dpAll_of hf e2 r2)
    · cases h
theorem dp_of (st : StoOk D H rho M) : ∀ (k : Nat) (x : PV) (v : V) (d : PyData), toD M k x = some d → Rep D H rho x v → Dp D.K H v d
  | k, .non, v, d, h, r => by simp [toD] at h; subst h; rw [rep_non] at r; subst r; exact .non
  | k, .bl b, v, d, h, r => by simp [toD] at h; subst h; rw [rep_bl] at r; subst r; exact .bl _
  | k, .int i, v, d, h, r => by simp [toD] at h; subst h; rw [rep_int] at r; subst r; exact .int _
  | k, .str s, v, d, h, r => by simp [toD] at h; subst h; rw [rep_str] at r; subst r; exact .str _
  | 0, .tup xs, v, d, h, r => by simp [toD] at h
  | 0, .loc n, v, d, h, r => by simp [toD] at h
  | k + 1, .tup xs, v, d, h, r => by
    simp only [toD] at h
    obtain ⟨ds, e, rfl⟩ := Option.map_eq_some_iff.mp h
    obtain ⟨a, vs, rfl, h1, h2⟩ := rep_tup.mp r
    exact .tup h1 (dpAll_of (fun x v d => dp_of st k x v d) e h2)
  | k + 1, .loc n, v, d, h, r => by
    simp only [toD] at h
    split at h
    · rename_i xs hx
      obtain ⟨ds, e, rfl⟩ := Option.map_eq_some_iff.mp h
      obtain ⟨a, vs, rfl, h1, h2⟩ := st.list r hx
      exact .lst h1 (dpAll_of (fun x v d => dp_of st k x v d) e h2)
    · cases h
theorem flatV_of {x : PV} {v : V} (r : Rep D H rho x v) (f : flat x = true) : flatV v = true := by
  cases x with
  | non => rw [rep_non] at r; subst r; rfl
  | bl b => rw [rep_bl] at r; subst r; rfl
  | int b => rw [rep_int] at r; subst r; rfl
  | str b => rw [rep_str] at r; subst r; rfl
  | tup _ => cases f
  | loc _ => cases f
theorem str_beq (a b : List Nat) : ((⟨a.toArray⟩ : Str) == ⟨b.toArray⟩) = (a == b) := by
  rw [Bool.eq_iff_iff]
  simp
theorem eqF_of {x y : PV} {v w : V} (r : Rep D H rho x v) (q : Rep D H rho y w) : flat x = true → flat y = true → eqF x y = eqV v w := by
  intro fx fy
  cases x with
  | tup _ => cases fx
  | loc _ => cases fx
  | non =>
    rw [rep_non] at r; subst r
    cases y with
    | tup _ => cases fy
    | loc _ => cases fy
    | non => rw [rep_non] at q; subst q; rfl
    | bl b => rw [rep_bl] at q; subst q; rfl
    | int b => rw [rep_int] at q; subst q; rfl
    | str b => rw [rep_str] at q; subst q; rfl
  | bl a =>
    rw [rep_bl] at r; subst r
    cases y with
    | tup _ => cases fy
    | loc _ => cases fy
    | non => rw [rep_non] at q; subst q; rfl
    | bl b => rw [rep_bl] at q; subst q; rfl
    | int b => rw [rep_int] at q; subst q; rfl
    | str b => rw [rep_str] at q; subst q; rfl
  | int a =>
    rw [rep_int] at r; subst r
    cases y with
    | tup _ => cases fy
    | loc _ => cases fy
    | non => rw [rep_non] at q; subst q; rfl
    | bl b => rw [rep_bl] at q; subst q; rfl
    | int b => rw [rep_int] at q; subst q; rfl
    | str b => rw [rep_str] at q; subst q; rfl
  | str a =>
    rw [rep_str] at r; subst r
    cases y with
    | tup _ => cases fy
    | loc _ => cases fy
    | non => rw [rep_non] at q; subst q; rfl
    | bl b => rw [rep_bl] at q; subst q; rfl
    | int b => rw [rep_int] at q; subst q; rfl
    | str b => rw [rep_str] at q; subst q; exact (str_beq a b).symm
theorem any_of {x : PV} {v : V} (r : Rep D H rho x v) (fx : flat x = true) : ∀ {xs : List PV} {vs : List V}, RepL D H rho xs vs → xs.all flat = true → (vs.all flatV = true ∧ (xs.any fun z => eqF z x) = inV v vs)
  | [], vs, h, _ => by rw [repL_nil.mp h]; exact ⟨rfl, rfl⟩
  | y :: xs, vs, h, f => by
    obtain ⟨w, rs, rfl, r1, r2⟩ := repL_cons.mp h
    rw [List.all_cons, Bool.and_eq_true] at f
    obtain ⟨q1, q2⟩ := any_of r fx r2 f.2
    unfold inV at q2 ⊢
    rw [List.all_cons, List.any_cons, List.any_cons, q1, q2, flatV_of r1 f.1, eqF_of r1 r f.1 fx]
    exact ⟨rfl, rfl⟩
end

section
variable {X : Cx} {D : Wd} (hK : X.K = D.K)
def rCP (D : Wd) (g : PV → PV → Sto → Option Bool) : R2 := fun x y H Q => ∃ px py M rho k, StoOk D H rho M ∧ Rep D H rho px x ∧ Rep D H rho py y ∧ g px py M = some k ∧ Q (.bl k) H
include hK
theorem opC_ok (hu : X.A.units + 64 < cLine) (op : CmpOp) : OpR X (compareOp op) (rCP D (opC op)) := by
  intro pins s σ H x y v u Q I rx ry h
  obtain ⟨px, py, M, rho, k, st, hx, hy, h, q⟩ := h
  cases op with
  | Eq =>
    simp only [opC, eqP] at h
    split at h
    · rename_i d e hd he
      split at h
      · rename_i hc
        cases h
        rw [Bool.and_eq_true] at hc
        have d1 := toD_depth M 12 px d hd
        have d2 := toD_depth M 12 py e he
        refine op_eqD hu pins s σ H x y v u Q I rx ry ⟨d, e, by rw [hK]; exact dp_of st 12 px x d hd hx, by rw [hK]; exact dp_of st 12 py y e he hy, ?_, ?_, q⟩
        · unfold SeqAt.shaped; rw [hc.1, Bool.true_and]; exact decide_eq_true (by omega)
        · unfold SeqAt.shaped; rw [hc.2, Bool.true_and]; exact decide_eq_true (by omega)
      · cases h
    · cases h
  | NotEq =>
    simp only [opC] at h
    obtain ⟨k', h', ek⟩ := Option.map_eq_some_iff.mp h
    clear h
    subst ek
    simp only [eqP] at h'
    split at h'
    · rename_i d e hd he
      split at h'
      · rename_i hc
        have hk : PyData.eqv d e = k' := Option.some.inj h'
        subst hk
        rw [Bool.and_eq_true] at hc
        have d1 := toD_depth M 12 px d hd
        have d2 := toD_depth M 12 py e he
        refine op_neD hu pins s σ H x y v u Q I rx ry ⟨d, e, by rw [hK]; exact dp_of st 12 px x d hd hx, by rw [hK]; exact dp_of st 12 py y e he hy, ?_, ?_, q⟩
        · unfold SeqAt.shaped; rw [hc.1, Bool.true_and]; exact decide_eq_true (by omega)
        · unfold SeqAt.shaped; rw [hc.2, Bool.true_and]; exact decide_eq_true (by omega)
      · cases h'
    · cases h'
  | Lt =>
    cases px <;> cases py <;> simp only [opC] at h <;> first | cases h | skip
    rw [rep_int] at hx hy
    exact op_lt pins s σ H x y v u Q I rx ry ⟨_, _, hx, hy, q⟩
  | LtE =>
    cases px <;> cases py <;> simp only [opC] at h <;> first | cases h | skip
    rw [rep_int] at hx hy
    exact op_le pins s σ H x y v u Q I rx ry ⟨_, _, hx, hy, q⟩
  | Gt =>
    cases px <;> cases py <;> simp only [opC] at h <;> first | cases h | skip
    rw [rep_int] at hx hy
    exact op_gt pins s σ H x y v u Q I rx ry ⟨_, _, hx, hy, q⟩
  | GtE =>
    cases px <;> cases py <;> simp only [opC] at h <;> first | cases h | skip
    rw [rep_int] at hx hy
    exact op_ge pins s σ H x y v u Q I rx ry ⟨_, _, hx, hy, q⟩
  | Is =>
    cases py <;> simp only [opC] at h <;> first | cases h | skip
    all_goals first
      | (cases px <;> simp only [opC] at h <;> cases h
         rw [rep_bl] at hx hy
         exact op_is_bl pins s σ H x y v u Q I rx ry ⟨_, _, hx, hy, q⟩)
      | (rw [rep_non] at hy; subst hy
         refine op_isN pins s σ H x _ v u Q I rx ry ⟨rfl, ?_⟩
         cases px <;> simp only [opC] at h <;> cases h
         · rw [rep_non] at hx; subst hx; exact q
         · rw [rep_bl] at hx; subst hx; exact q
         · rw [rep_int] at hx; subst hx; exact q
         · rw [rep_str] at hx; subst hx; exact q
         · obtain ⟨a, vs, rfl, _⟩ := rep_tup.mp hx; exact q
         · obtain ⟨a, rfl, _⟩ := rep_loc.mp hx; exact q)
      | (cases px <;> simp only [opC] at h <;> cases h)
  | IsNot =>
    cases py <;> simp only [opC] at h <;> first | cases h | skip
    all_goals first
      | (cases px <;> simp only [opC] at h <;> cases h
         rw [rep_bl] at hx hy
         exact op_isnot_bl pins s σ H x y v u Q I rx ry ⟨_, _, hx, hy, q⟩)
      | (rw [rep_non] at hy; subst hy
         refine op_notN pins s σ H x _ v u Q I rx ry ⟨rfl, ?_⟩
         cases px <;> simp only [opC] at h <;> cases h
         · rw [rep_non] at hx; subst hx; exact q
         · rw [rep_bl] at hx; subst hx; exact q
         · rw [rep_int] at hx; subst hx; exact q
         · rw [rep_str] at hx; subst hx; exact q
         · obtain ⟨a, vs, rfl, _⟩ := rep_tup.mp hx; exact q
         · obtain ⟨a, rfl, _⟩ := rep_loc.mp hx; exact q)
      | (cases px <;> simp only [opC] at h <;> cases h)
  | In =>
    simp only [opC] at h
    split at h
    · rename_i ys hi
      split at h
      · rename_i hf
        cases h
        rw [Bool.and_eq_true] at hf
        obtain ⟨a, vs, rfl, h1, h2⟩ := st.seq hy hi
        obtain ⟨f1, f2⟩ := any_of hx hf.1 h2 hf.2
        exact op_in_seq pins s σ H x _ v u Q I rx ry ⟨a, vs, rfl, by rw [hK]; exact h1, flatV_of hx hf.1, f1, by rw [f2] at q; exact q⟩
      · cases h
    · cases h
  | NotIn =>
    simp only [opC] at h
    split at h
    · rename_i ys hi
      split at h
      · rename_i hf
        cases h
        rw [Bool.and_eq_true] at hf
        obtain ⟨a, vs, rfl, h1, h2⟩ := st.seq hy hi
        obtain ⟨f1, f2⟩ := any_of hx hf.1 h2 hf.2
        exact op_notIn_seq pins s σ H x _ v u Q I rx ry ⟨a, vs, rfl, by rw [hK]; exact h1, flatV_of hx hf.1, f1, by rw [f2] at q; exact q⟩
      · cases h
    · cases h
end
end SW

namespace SW
open PySem PySem.Spec PyProof.Rows L2

section
variable {D : Wd} {H : Hp} {rho : List Addr} {M : Sto}
theorem atI_rep {xs : List PV} {vs : List V} {i : Int} {x : PV} (r : RepL D H rho xs vs) (h : atI xs i = some x) : ∃ v, atI vs i = some v ∧ Rep D H rho x v := by
  unfold atI at h ⊢
  rw [← r.len]
  obtain ⟨j, e1, e2⟩ := Option.bind_eq_some_iff.mp h
  obtain ⟨v, e3, q⟩ := r.get e2
  exact ⟨v, Option.bind_eq_some_iff.mpr ⟨j, e1, e3⟩, q⟩
theorem cut_rep {xs : List PV} {vs : List V} (lo hi : Option Int) (r : RepL D H rho xs vs) : RepL D H rho (cut xs lo hi) (cutV vs lo hi) := by
  unfold cut cutV
  rw [← r.len]
  exact (r.drop _).take _
end
/-- a rule chosen by the values -/
theorem IxR.of {X : Cx} {r' : R2} (h : ∀ x y H Q, r' x y H Q → ∃ r, IxR X r ∧ r x y H Q) : IxR X r' := by
  intro value slice pins s σ H x y v u Q I rx ry q hs
  obtain ⟨r, hr, q'⟩ := h x y H Q q
  exact hr value slice pins s σ H x y v u Q I rx ry q' hs
theorem SlR.of {X : Cx} {r' : V → Option Int → Option Int → Hp → VK → Prop} (h : ∀ x lo hi H Q, r' x lo hi H Q → ∃ r, SlR X r ∧ r x lo hi H Q) : SlR X r' := by
  intro pins s σ H x v vl vu lo hi sl Q I rx hs pl pu q
  obtain ⟨r, hr, q'⟩ := h x lo hi H Q q
  exact hr pins s σ H x v vl vu lo hi sl Q I rx hs pl pu q'
theorem CallR.of {X : Cx} {f : Value} {r' : List V → Hp → VK → Prop} (h : ∀ xs H Q, r' xs H Q → ∃ r, CallR X f r ∧ r xs H Q) : CallR X f r' := by
  intro pins s σ H xs us Q I rv q
  obtain ⟨r, hr, q'⟩ := h xs H Q q
  exact hr pins s σ H xs us Q I rv q'
theorem MtR.of {X : Cx} {id : String} {r' : V → List V → Hp → VK → Prop} (h : ∀ x xs H Q, r' x xs H Q → ∃ r, MtR X id r ∧ r x xs H Q) : MtR X id r' := by
  intro pins s σ H x xs v us Q I rx rv q
  obtain ⟨r, hr, q'⟩ := h x xs H Q q
  exact hr pins s σ H x xs v us Q I rx rv q'

section
variable {X : Cx} {D : Wd} (hK : X.K = D.K)
include hK
theorem opI_ok : IxR X (r2P D opI) := by
  refine IxR.of fun x y H Q h => ?_
  obtain ⟨px, py, M, rho, st, hx, hy, h⟩ := h
  cases px <;> cases py <;> simp only [opI] at h <;> first | exact h.elim | skip
  · rename_i s i
    rw [rep_str] at hx
    rw [rep_int] at hy
    split at h
    · rename_i hz
      cases e : atI s i with
      | none => rw [e] at h; exact h.elim
      | some c =>
        rw [e] at h
        exact ⟨_, ix_str, _, i, c, hx, hy, by rw [line_eq]; simpa [Str.length] using hz, by simpa using e, h.ok st (rep_str.mpr rfl)⟩
    · exact h.elim
  · rename_i xs i
    obtain ⟨a, vs, ex, h1, h2⟩ := rep_tup.mp hx
    rw [rep_int] at hy
    cases e : atI xs i with
    | none => rw [e] at h; exact h.elim
    | some z =>
      rw [e] at h
      obtain ⟨v, e2, rz⟩ := atI_rep h2 e
      exact ⟨_, ix_tup, a, vs, i, v, ex, hy, by rw [hK]; exact h1, e2, h.ok st rz⟩
  · rename_i n i
    rw [rep_int] at hy
    split at h
    · rename_i xs hl
      obtain ⟨a, vs, ex, h1, h2⟩ := st.list hx hl
      cases e : atI xs i with
      | none => rw [e] at h; exact h.elim
      | some z =>
        rw [e] at h
        obtain ⟨v, e2, rz⟩ := atI_rep h2 e
        exact ⟨_, ix_list, a, vs, i, v, ex, hy, by rw [hK]; exact h1, e2, h.ok st rz⟩
    · exact h.elim
def rSP (D : Wd) (g : PV → Option Int → Option Int → Sto → Prim) : V → Option Int → Option Int → Hp → VK → Prop := fun x lo hi H Q => ∃ px M rho, StoOk D H rho M ∧ Rep D H rho px x ∧ PRM D H rho (g px lo hi M) Q
theorem opS_ok : SlR X (rSP D opS) := by
  refine SlR.of fun x lo hi H Q h => ?_
  obtain ⟨px, M, rho, st, hx, h⟩ := h
  cases px <;> simp only [opS] at h <;> first | exact h.elim | skip
  · rename_i xs
    obtain ⟨a, vs, ex, h1, h2⟩ := rep_tup.mp hx
    refine ⟨_, sl_tupA, a, vs, ex, by rw [hK]; exact h1, fun hw => ?_, fun _ => h.tup st (cut_rep lo hi h2)⟩
    rw [← h2.len] at hw
    have e : cut xs lo hi = xs := by
      unfold cut
      rw [hw.1, hw.2]
      simp
    rw [e] at h
    exact h.ok st (rep_tup.mpr ⟨a, vs, rfl, h1, h2⟩)
  · rename_i n
    split at h
    · rename_i xs hl
      obtain ⟨a, vs, ex, h1, h2⟩ := st.list hx hl
      exact ⟨_, sl_list, a, vs, ex, by rw [hK]; exact h1, (h.newL st (cut_rep lo hi h2)).2⟩
    · exact h.elim

/-! ### built-ins -/
def Bi.val : Bi → Value
  | .len => .builtin "len" | .list => .type "list" | .tuple => .type "tuple" | .sum => .builtin "sum" | .min => .builtin "min" | .max => .builtin "max" | .abs => .builtin "abs"
  | .str => .type "str" | .int => .type "int" | .all => .builtin "all" | .any => .builtin "any"
theorem sum_tup_ok (hc : X.calm = true) : CallR X (.builtin "sum") (fun vs H Q => ∃ (a : Addr) (ns : List Int), vs = [V.ref a] ∧ SqT X.K H a (ns.map V.int) ∧ Q (.int ns.sum) H) := by
  intro pins s σ H xs us Q I rv h
  obtain ⟨a, ns, rfl, hs, q⟩ := h
  obtain rfl := rv.ref1
  obtain ⟨its, r, ht, _⟩ := I.tuple hs
  have hi := intsAre_of r
  obtain ⟨ys, hy⟩ := hi.allInts.items
  have hn : numsOf its.toArray.toList = ns := by rw [show its.toArray.toList = its from rfl, hi.numsOf]
  rw [hy] at ht hn
  rw [nums_intItems] at hn
  refine PySem.W.ktm_sumG (I.ok.hd hc) ht fun h' tk t' k => ?_
  refine ⟨.int ns.sum, H, I.kept (h' := h') (t' := tk) k, ?_, q⟩
  exact ⟨t', by rw [preSum_eq, List.take_of_length_le (by simp), hn]⟩
theorem opM_ok (hc : X.calm = true) (b : Bi) : CallR X b.val (r1P D (opM b)) := by
  refine CallR.of fun vs H Q h => ?_
  obtain ⟨xs, M, rho, st, hx, h⟩ := h
  have one : ∀ {x : PV}, xs = [x] → ∃ v, vs = [v] ∧ Rep D H rho x v := fun {x} e => by
    subst e
    obtain ⟨v, r, rfl, r1, r2⟩ := repL_cons.mp hx
    rw [repL_nil] at r2
    subst r2
    exact ⟨v, rfl, r1⟩
  have two : ∀ {x y : PV}, xs = [x, y] → ∃ v w, vs = [v, w] ∧ Rep D H rho x v ∧ Rep D H rho y w := fun {x y} e => by
    subst e
    obtain ⟨v, r, rfl, r1, r2⟩ := repL_cons.mp hx
    obtain ⟨w, r, rfl, r3, r4⟩ := repL_cons.mp r2
    rw [repL_nil] at r4
    subst r4
    exact ⟨v, w, rfl, r1, r3⟩
  unfold opM at h
  split at h
  · -- len
    rename_i x
    obtain ⟨v, rfl, r⟩ := one rfl
    split at h
    · rename_i sx
      split at h
      · rename_i hz
        rw [rep_str] at r
        subst r
        exact ⟨_, call_len_str, _, rfl, by rw [line_eq]; simpa [Str.length] using hz, h.ok st (rep_int.mpr (by simp [Str.length]))⟩
      · exact h.elim
    · cases e : items? M x with
      | none => rw [e] at h; exact h.elim
      | some ys =>
        rw [e] at h
        obtain ⟨a, ws, rfl, h1, h2⟩ := st.seq r e
        exact ⟨_, call_len_seq, a, ws, rfl, by rw [hK]; exact h1, h.ok st (rep_int.mpr (by rw [h2.len]))⟩
  · -- list
    rename_i x
    obtain ⟨v, rfl, r⟩ := one rfl
    split at h
    · rename_i ys e
      obtain ⟨a, ws, rfl, h1, h2⟩ := st.seq r e
      exact ⟨_, call_list_of, a, ws, rfl, by rw [hK]; exact h1, (h.newL st h2).2⟩
    · exact h.elim
  · -- tuple
    rename_i x
    obtain ⟨v, rfl, r⟩ := one rfl
    cases e : items? M x with
    | none => rw [e] at h; exact h.elim
    | some ys =>
      rw [e] at h
      obtain ⟨a, ws, rfl, h1, h2⟩ := st.seq r e
      refine ⟨_, call_tuple_of, a, ws, rfl, ?_⟩
      rw [hK]
      rcases h1 with h1 | h1
      · exact .inl ⟨h1, h.tup st h2⟩
      · exact .inr ⟨h1, h.ok st (rep_tup.mpr ⟨a, ws, rfl, h1, h2⟩)⟩
  · -- sum
    rename_i x
    obtain ⟨v, rfl, r⟩ := one rfl
    split at h
    · rename_i ys e
      cases e2 : ints? ys with
      | none => rw [e2] at h; exact h.elim
      | some ns =>
        rw [e2] at h
        obtain ⟨a, ws, rfl, h1, h2⟩ := st.seq r e
        obtain rfl := ints_rep h2 e2
        rw [← hK] at h1
        rcases h1 with h1 | h1
        · exact ⟨_, cr_sum hc, a, ns, rfl, h1, h.ok st (rep_int.mpr rfl)⟩
        · exact ⟨_, sum_tup_ok hK hc, a, ns, rfl, h1, h.ok st (rep_int.mpr rfl)⟩
    · exact h.elim
  · -- min
    rename_i i j
    obtain ⟨v, w, rfl, r1, r2⟩ := two rfl
    rw [rep_int] at r1 r2
    subst r1 r2
    exact ⟨_, call_min2 hc, i, j, rfl, h.ok st (rep_int.mpr rfl)⟩
  · rename_i i j
    obtain ⟨v, w, rfl, r1, r2⟩ := two rfl
    rw [rep_int] at r1 r2
    subst r1 r2
    exact ⟨_, call_max2 hc, i, j, rfl, h.ok st (rep_int.mpr rfl)⟩
  · rename_i i
    obtain ⟨v, rfl, r⟩ := one rfl
    rw [rep_int] at r
    subst r
    exact ⟨_, call_abs, i, rfl, h.ok st (rep_int.mpr rfl)⟩
  · rename_i i
    obtain ⟨v, rfl, r⟩ := one rfl
    rw [rep_int] at r
    subst r
    split at h
    · rename_i hz
      exact ⟨_, call_str_int, i, rfl, hz, h.ok st (rep_str.mpr (by simp))⟩
    · exact h.elim
  · rename_i i
    obtain ⟨v, rfl, r⟩ := one rfl
    rw [rep_int] at r
    subst r
    exact ⟨_, call_int1, .inl ⟨i, rfl, h.ok st (rep_int.mpr rfl)⟩⟩
  · rename_i i
    obtain ⟨v, rfl, r⟩ := one rfl
    rw [rep_bl] at r
    subst r
    exact ⟨_, call_int1, .inr ⟨i, rfl, h.ok st (rep_int.mpr rfl)⟩⟩
  · rename_i x
    obtain ⟨v, rfl, r⟩ := one rfl
    split at h
    · rename_i ys e
      cases e2 : bls? ys with
      | none => rw [e2] at h; exact h.elim
      | some ns =>
        rw [e2] at h
        obtain ⟨a, ws, rfl, h1, h2⟩ := st.list r e
        obtain rfl := bls_rep h2 e2
        exact ⟨_, cr_all hc, a, ns, rfl, by rw [hK]; exact h1, h.ok st (rep_bl.mpr rfl)⟩
    · exact h.elim
  · rename_i x
    obtain ⟨v, rfl, r⟩ := one rfl
    split at h
    · rename_i ys e
      cases e2 : bls? ys with
      | none => rw [e2] at h; exact h.elim
      | some ns =>
        rw [e2] at h
        obtain ⟨a, ws, rfl, h1, h2⟩ := st.list r e
        obtain rfl := bls_rep h2 e2
        exact ⟨_, cr_any hc, a, ns, rfl, by rw [hK]; exact h1, h.ok st (rep_bl.mpr rfl)⟩
    · exact h.elim
  · exact h.elim

/-! ### methods of lists -/
def Me.id : Me → String
  | .append => "list.append" | .insert => "list.insert" | .pop => "list.pop" | .index => "list.index" | .count => "list.count"
def rDP (D : Wd) (g : PV → List PV → Sto → Prim) : V → List V → Hp → VK → Prop := fun x vs H Q => ∃ px xs M rho, StoOk D H rho M ∧ Rep D H rho px x ∧ RepL D H rho xs vs ∧ PRM D H rho (g px xs M) Q
theorem ixN_lt {n : Nat} {i : Int} {j : Nat} (h : ixN n i = some j) : j < n := (ixN_seq h).2.1
theorem dropLast_rep {H : Hp} {rho : List Addr} {xs : List PV} {vs : List V} (r : RepL D H rho xs vs) : RepL D H rho xs.dropLast vs.dropLast := by
  rw [List.dropLast_eq_take, List.dropLast_eq_take, ← r.len]
  exact r.take _
theorem opD_ok (m : Me) : MtR X m.id (rDP D (opD m)) := by
  refine MtR.of fun x vs H Q h => ?_
  obtain ⟨px, xs, M, rho, st, hx, hv, h⟩ := h
  unfold opD at h
  split at h
  · -- append
    rename_i n y
    obtain ⟨v, r, rfl, r1, r2⟩ := repL_cons.mp hv
    rw [repL_nil] at r2
    subst r2
    obtain ⟨a, rfl, ea⟩ := rep_loc.mp hx
    split at h
    · rename_i ys hm
      split at h
      · rename_i hz
        obtain ⟨b, ws, eb, h1, h2⟩ := st.lst hm
        rw [ea] at eb; cases eb
        obtain ⟨e1, s1⟩ := st.wr hm ea h1 (h2.append (RepL.one r1))
        exact ⟨_, mt_append, a, ws, v, rfl, rfl, h1, by rw [line_eq, ← h2.len]; exact hz, h _ rho _ e1 s1 (rep_non.mpr rfl)⟩
      · exact h.elim
    · exact h.elim
  · -- insert
    rename_i n i y
    obtain ⟨v, r, rfl, r1, r2⟩ := repL_cons.mp hv
    obtain ⟨w, r, rfl, r3, r4⟩ := repL_cons.mp r2
    rw [repL_nil] at r4
    subst r4
    rw [rep_int] at r1
    subst r1
    obtain ⟨a, rfl, ea⟩ := rep_loc.mp hx
    split at h
    · rename_i ys hm
      split at h
      · rename_i hz
        obtain ⟨b, ws, eb, h1, h2⟩ := st.lst hm
        rw [ea] at eb; cases eb
        have hr : RepL D H rho (insP ys i.toNat y) (ws.take i.toNat ++ [w] ++ ws.drop i.toNat) := by
          unfold insP
          rw [List.append_assoc]
          exact (h2.take _).append (repL_cons.mpr ⟨w, _, rfl, r3, h2.drop _⟩)
        obtain ⟨e1, s1⟩ := st.wr hm ea h1 hr
        exact ⟨_, mt_insert, a, ws, i, w, rfl, rfl, h1, by rw [line_eq, ← h2.len]; exact hz.1, hz.2.1, hz.2.2, h _ rho _ e1 s1 (rep_non.mpr rfl)⟩
      · exact h.elim
    · exact h.elim
  · -- pop i
    rename_i n i
    obtain ⟨v, r, rfl, r1, r2⟩ := repL_cons.mp hv
    rw [repL_nil] at r2
    subst r2
    rw [rep_int] at r1
    subst r1
    obtain ⟨a, rfl, ea⟩ := rep_loc.mp hx
    split at h
    · rename_i ys hm
      split at h
      · rename_i k hk
        split at h
        · rename_i y hy
          split at h
          · rename_i hz
            obtain ⟨b, ws, eb, h1, h2⟩ := st.lst hm
            rw [ea] at eb; cases eb
            obtain ⟨w, hw, rw_⟩ := h2.get hy
            obtain ⟨e1, s1⟩ := st.wr hm ea h1 (h2.erase k)
            exact ⟨_, mt_popAt, a, ws, i, k, w, rfl, rfl, h1, hz.1, hz.2, by rw [← h2.len]; exact (ixN_seq hk).1, hw, h _ rho _ e1 s1 (rw_.ext e1)⟩
          · exact h.elim
        · exact h.elim
      · exact h.elim
    · exact h.elim
  · -- pop
    rename_i n
    rw [repL_nil] at hv
    subst hv
    obtain ⟨a, rfl, ea⟩ := rep_loc.mp hx
    split at h
    · rename_i ys hm
      split at h
      · rename_i y hy
        obtain ⟨b, ws, eb, h1, h2⟩ := st.lst hm
        rw [ea] at eb; cases eb
        obtain ⟨w, hw, rw_⟩ := h2.get hy
        obtain ⟨e1, s1⟩ := st.wr hm ea h1 (dropLast_rep hK h2)
        exact ⟨_, mt_pop, a, ws, w, rfl, rfl, h1, by rw [← h2.len]; exact hw, h _ rho _ e1 s1 (rw_.ext e1)⟩
      · exact h.elim
    · exact h.elim
  · exact h.elim
/-! ### o[i] = v -/
def rWP (D : Wd) (g : PV → PV → PV → Sto → Option Sto) : TSet := fun o i v H Q => ∃ po pi pv M rho, StoOk D H rho M ∧ Rep D H rho po o ∧ Rep D H rho pi i ∧ Rep D H rho pv v ∧
  ∃ M', g po pi pv M = some M' ∧ ∀ H' rho', Ext H rho H' rho' → StoOk D H' rho' M' → Q H'
theorem opSet_ok : PSet X (rWP D opSet) := by
  intro pins s σ H o i v ov iv u Q I ro ri rv h
  obtain ⟨po, pi, pv, M, rho, st, ho, hi, hv, M', h, q⟩ := h
  unfold opSet at h
  split at h
  · rename_i n k
    rw [rep_int] at hi
    obtain ⟨a, eo, ea⟩ := rep_loc.mp ho
    split at h
    · rename_i xs hm
      obtain ⟨j, hj, rfl⟩ := Option.map_eq_some_iff.mp h
      obtain ⟨b, ws, eb, h1, h2⟩ := st.lst hm
      rw [ea] at eb; cases eb
      obtain ⟨e1, s1⟩ := st.wr hm ea h1 (h2.set j hv)
      exact set_list pins s σ H o i v ov iv u Q I ro ri rv ⟨a, ws, k, j, eo, hi, h1, by rw [← h2.len]; exact hj, q _ _ e1 s1⟩
    · cases h
  · cases h
/-! ### truth -/
theorem truth_ok : TruR X (fun x H Q => ∃ px M rho k, StoOk D H rho M ∧ Rep D H rho px x ∧ truth M px = some k ∧ Q k H) := by
  intro pins s σ H x v Q I rx h
  obtain ⟨px, M, rho, k, st, hx, h, q⟩ := h
  refine tru_ok pins s σ H x v Q I rx ⟨k, ?_, q⟩
  cases px <;> simp only [truth] at h <;> first | cases h | skip
  · rw [rep_non] at hx; subst hx; rfl
  · rw [rep_bl] at hx; subst hx; rfl
  · rw [rep_int] at hx; subst hx; rfl
  · rename_i xs
    obtain ⟨a, vs, rfl, h1, h2⟩ := rep_tup.mp hx
    refine .inr (.inl ⟨vs, by rw [hK]; exact h1, ?_⟩)
    have := h2.nil_iff
    cases xs <;> cases vs <;> simp at this ⊢
  · rename_i n
    obtain ⟨xs, e, rfl⟩ := Option.map_eq_some_iff.mp h
    obtain ⟨a, vs, rfl, h1, h2⟩ := st.list hx e
    refine .inl ⟨vs, by rw [hK]; exact h1, ?_⟩
    have := h2.nil_iff
    cases xs <;> cases vs <;> simp at this ⊢
/-! ### isinstance -/
def tyNames : List String := ["int", "bool", "str", "tuple", "list"]
theorem kitB_int : ∀ t : Ty, kitB "int" t.ts = some (t == .int) := by intro t; cases t <;> decide +kernel
theorem kitB_bool : ∀ t : Ty, kitB "bool" t.ts = some (t == .int || t == .bool) := by intro t; cases t <;> decide +kernel
theorem kitB_str : ∀ t : Ty, kitB "str" t.ts = some (t == .str) := by intro t; cases t <;> decide +kernel
theorem kitB_tuple : ∀ t : Ty, kitB "tuple" t.ts = some (t == .tuple) := by intro t; cases t <;> decide +kernel
theorem kitB_list : ∀ t : Ty, kitB "list" t.ts = some (t == .list) := by intro t; cases t <;> decide +kernel
theorem kitB_none : ∀ t : Ty, kitB "NoneType" t.ts = some false := by intro t; cases t <;> decide +kernel
theorem sqT_ty {H : Hp} {a : Addr} {vs : List V} (h : SqT X.K H a vs) : TyX X.K H (.ref a) (.type "tuple") := by
  rcases h with (h | ⟨o, h⟩) | ⟨o, its, n, h1, h2, _⟩
  · exact .base (.tup h)
  · exact .fTuple h
  · exact .kTuple h1 h2
theorem sqL_ty {H : Hp} {a : Addr} {vs : List V} (h : SqL X.K H a vs) : TyX X.K H (.ref a) (.type "list") := by
  rcases h with (h | ⟨o, h⟩) | ⟨o, its, n, h1, h2, _⟩
  · exact .base (.lst h)
  · exact .base (.frz h)
  · exact .kList h1 h2
theorem isTy_ok (t : Ty) : CallR X (.builtin "isinstance") (fun vs H Q => ∃ x px M rho k, vs = [x, .ty t.ts] ∧ StoOk D H rho M ∧ Rep D H rho px x ∧ isTy M t px = some k ∧ Q (.bl k) H) := by
  refine CallR.of fun vs H Q h => ⟨_, call_isi, ?_⟩
  obtain ⟨x, px, M, rho, k, rfl, st, hx, h, q⟩ := h
  cases px <;> simp only [isTy] at h
  · rw [rep_non] at hx; subst hx; cases h
    exact ⟨_, _, _, _, false, rfl, .ty _, .base .non, kit_ty (kitB_none hK t), q⟩
  · rw [rep_bl] at hx; subst hx; cases h
    exact ⟨_, _, _, _, _, rfl, .ty _, .base (.bl _), kit_ty (kitB_bool hK t), q⟩
  · rw [rep_int] at hx; subst hx; cases h
    exact ⟨_, _, _, _, _, rfl, .ty _, .base (.int _), kit_ty (kitB_int hK t), q⟩
  · rw [rep_str] at hx; subst hx; cases h
    exact ⟨_, _, _, _, _, rfl, .ty _, .base (.str _), kit_ty (kitB_str hK t), q⟩
  · obtain ⟨a, vs, rfl, h1, h2⟩ := rep_tup.mp hx; cases h
    exact ⟨_, _, _, _, _, rfl, .ty _, sqT_ty hK (by rw [hK]; exact h1), kit_ty (kitB_tuple hK t), q⟩
  · obtain ⟨xs, e, rfl⟩ := Option.map_eq_some_iff.mp h
    obtain ⟨a, vs, rfl, h1, h2⟩ := st.list hx e
    exact ⟨_, _, _, _, _, rfl, .ty _, sqL_ty hK (by rw [hK]; exact h1), kit_ty (kitB_list hK t), q⟩
end
end SW

/-! The contexts; expressions. -/
namespace SW
open PySem PySem.Spec PyProof.Rows L2

theorem PE.imp {X : Cx} {e : Expr} {t t' : TE} (h : PE X e t) (k : ∀ s H Q, t' s H Q → t s H Q) : PE X e t' := ⟨fun pins s σ H Q I q => h.run pins s σ H Q I (k _ _ _ q)⟩
theorem PT.imp {X : Cx} {e : Expr} {t t' : TT} (h : PT X e t) (k : ∀ s H Q, t' s H Q → t s H Q) : PT X e t' := ⟨fun pins s σ H Q I q => h.run pins s σ H Q I (k _ _ _ q)⟩
theorem PW.imp {X : Cx} {e : Expr} {t t' : TT} (h : PW X e t) (k : ∀ s H Q, t' s H Q → t s H Q) : PW X e t' := ⟨fun wh pins s σ H Q I q => h.run wh pins s σ H Q I (k _ _ _ q)⟩
theorem PA.imp {X : Cx} {e : List Expr} {t t' : TA} (h : PA X e t) (k : ∀ s H Q, t' s H Q → t s H Q) : PA X e t' := ⟨fun pos pins s σ H Q I q => h.run pos pins s σ H Q I (k _ _ _ q)⟩
theorem PI.imp {X : Cx} {tg e : Expr} {t t' : TI} (h : PI X tg e t) (k : ∀ s H Q, t' s H Q → t s H Q) : PI X tg e t' := ⟨fun pins s σ H Q I q => h.run pins s σ H Q I (k _ _ _ q)⟩
theorem PS.imp {X : Cx} {e : Stmt} {t t' : TS} (h : PS X e t) (k : ∀ E s H, t' E s H → t E s H) : PS X e t' := ⟨fun pins s σ H E I q => h.run pins s σ H E I (k _ _ _ q)⟩
theorem PSs.imp {X : Cx} {e : List Stmt} {t t' : TS} (h : PSs X e t) (k : ∀ E s H, t' E s H → t E s H) : PSs X e t' := ⟨fun pins s σ H E I q => h.run pins s σ H E I (k _ _ _ q)⟩

/-! ### readings out of plain runs -/
section
variable (D : Wd) (W : WX)
def teOf (f : Sig → Sto → Res PV) : TE := fun s H Q => ∃ tau M rho, RelS D H rho M s tau ∧ OKG D (Rep D) H rho (f tau M) Q (fun cls d H' => W cls d s H')
def ttOf (f : Sig → Sto → Res Bool) : TT := fun s H Q => ∃ tau M rho, RelS D H rho M s tau ∧ OKG D (fun _ _ (x : Bool) (v : Bool) => v = x) H rho (f tau M) Q (fun cls d H' => W cls d s H')
def taOf (f : Sig → Sto → Res (List PV)) : TA := fun s H Q => ∃ tau M rho, RelS D H rho M s tau ∧ OKG D (RepL D) H rho (f tau M) Q (fun cls d H' => W cls d s H')
/-- the layer's walk does what the plain one does -/
def WkOk (H0 : Hp) (rho0 : List Addr) (w : Walk) (J : It) : Prop := ∀ (i : Nat) (H : Hp) (rho : List Addr) (M : Sto), Ext H0 rho0 H rho → StoOk D H rho M → match w.at_ i M with
  | none => True
  | some none => J.stop i H
  | some (some x) => J.go i H ∧ ∀ v H', J.yld i H v H' → Ext H rho H' rho ∧ StoOk D H' rho M ∧ Rep D H' rho x v
def tiOf (f : Sig → Sto → Res Walk) : TI := fun s H R => ∃ tau M rho, RelS D H rho M s tau ∧ OKG D (fun H1 rho1 w J => WkOk D H1 rho1 w J) H rho (f tau M) R (fun cls d H' => W cls d s H')
end

/-! ### contexts -/
/-- what is known of a def's text: its slots, its scope, the levels below -/
structure Cn where
  N : List Str
  sc : Scope
  lev : Nat
/-- a scope as the running environment has it: captured names may be cells there -/
def ScOk (sc sc' : Scope) : Prop := ∀ x k, sc.names.lookup x = some k → sc'.names.lookup x = some k ∨ (k = .free ∧ sc'.names.lookup x = some .cell)
theorem ScOk.refl {sc : Scope} : ScOk sc sc := fun _ _ h => .inl h
theorem ScOk.relabel (sc : Scope) (env : Env) : ScOk sc (PySem.relabel sc env) := by
  unfold ScOk PySem.relabel
  show ∀ x k, sc.names.lookup x = some k → (sc.names.map fun (n, k) => if (k == .free && env.scope.kind == .function && env.kindOf n == some .cell) then (n, .cell) else (n, k)).lookup x = some k ∨ _
  induction sc.names with
  | nil => intro x k h; cases h
  | cons p r ih =>
    obtain ⟨n, j⟩ := p
    intro x k h
    have ih' := ih x k
    rw [List.map_cons]
    cases hx : x == n with
    | true =>
      simp only [List.lookup_cons, hx] at h
      cases h
      by_cases hc : (j == .free && env.scope.kind == .function && env.kindOf n == some .cell) = true
      · right
        dsimp only
        rw [if_pos hc]
        simp only [Bool.and_eq_true, beq_iff_eq] at hc
        exact ⟨hc.1.1, by simp only [List.lookup_cons, hx]⟩
      · left
        dsimp only
        rw [if_neg hc]
        simp only [List.lookup_cons, hx]
    | false =>
      simp only [List.lookup_cons, hx] at h
      have e : ∀ q : NameKind, (List.lookup x (((n, q) : Str × NameKind) :: (r.map fun (n, k) => if (k == .free && env.scope.kind == .function && env.kindOf n == some .cell) then (n, .cell) else (n, k)))) =
          List.lookup x (r.map fun (n, k) => if (k == .free && env.scope.kind == .function && env.kindOf n == some .cell) then (n, .cell) else (n, k)) := fun q => by simp only [List.lookup_cons, hx]
      dsimp only
      by_cases hc : (j == .free && env.scope.kind == .function && env.kindOf n == some .cell) = true
      · rw [if_pos hc, e]; exact ih' h
      · rw [if_neg hc, e]; exact ih' h
/-- a def's promise -/
def spOf (D : Wd) (fi : FI) : Sp := fun vs H Q E => ∃ xs M rho, StoOk D H rho M ∧ RepL D H rho xs vs ∧ xs.length = fi.ps.length ∧ OKG D (Rep D) H rho (fi.run xs M) Q E
/-- a def that keeps its promise wherever no text of a list is being made -/
structure FnG (P : Program) (w : World) (K : PySem.W.Frag) (mg : Str → Option Value) (base : Heap) (k : Nat) (f : Addr) (fd : FuncData) (ps : List Str) (sp : Sp) : Prop where
  run : ∀ (A : Around) (outer : List Env) (s : Shared) (H : Hp) (args : Args) (us : List Value) (vs : List V) (Q : VK) (E : XK), Room k A → A.guards = some [] → Env0 P w K mg base A outer s H →
    vs.length = ps.length → BindsTo s fd args (ps.zip us) → Vals vs us → sp vs H Q E → codeAny (model P w) A (.call (.ref f) args) (CR (L2.CX P w) outer P w H s Q E) s
structure FOk (D : Wd) (P : Program) (w : World) (mg : Str → Option Value) (base : Heap) (fi : FI) (f : Addr) (fd : FuncData) : Prop where
  at_ : mg fi.nm = some (.ref f)
  kp : PySem.W.keepIn D.K (.ref f) = true
  bd : Binds D.K fd fi.ps []
  fn : FnG P w D.K mg base fi.lev f fd fi.ps (spOf D fi)
structure COk (D : Wd) (G : Glb) (c : Cn) (X : Cx) (W : WX) : Prop where
  kK : X.K = D.K
  nN : X.N = c.N
  sc : ScOk c.sc X.env.scope
  nd : c.N.Nodup
  calm : X.calm = true
  kind : X.env.scope.kind = .function
  gd : X.A.guards = some []
  room : Room c.lev X.A
  tk : Takes X W
  po : PassesOwn (model X.prog X.w) X.A X.env X.xe
  fnx : ∀ x, Loc c.sc x → X.fn x = true ∨ X.env.scope.names.lookup x = some .local
  fok : ∀ fi ∈ G.fns, fi.lev ≤ c.lev → ∃ f fd, FOk D X.prog X.w X.mg X.base fi f fd
  bn : ∀ x ∈ G.bn, X.mg x = none
  cst : ∀ p ∈ G.cst, ∃ u v, X.mg p.1 = some u ∧ RelV v u ∧ ∀ H rho, Rep D H rho p.2 v

/-! ### what is asked of the text -/
def slotOk (c : Cn) (i : Nat) (x : Str) : Bool := decide (c.N[i]? = some x) && (match c.sc.names.lookup x with | some .local => true | some .cell => true | some .free => true | _ => false) && !(x == ("__debug__" : Str)) && !(x == ("__classdict__" : Str))
def tgtOk (c : Cn) (i : Nat) (x : Str) : Bool := decide (c.N[i]? = some x) && (match c.sc.names.lookup x with | some .local => true | some .cell => true | _ => false)
def glOk (c : Cn) (x : Str) : Bool := decide (c.sc.names.lookup x = some .globalImplicit) && !(x == ("__debug__" : Str)) && decide (x ≠ "__name__")
section
variable {D : Wd} {G : Glb} {c : Cn} {X : Cx} {W : WX}
theorem COk.vis (C : COk D G c X W) {i : Nat} {x : Str} (h : slotOk c i x = true) : X.N[i]? = some x ∧ Vis X.env.scope x ∧ (x == ("__debug__" : Str)) = false ∧ (x == ("__classdict__" : Str)) = false := by
  unfold slotOk at h
  simp only [Bool.and_eq_true, decide_eq_true_eq, Bool.not_eq_true'] at h
  obtain ⟨⟨⟨h1, h2⟩, h3⟩, h4⟩ := h
  refine ⟨by rw [C.nN]; exact h1, ?_, h3, h4⟩
  split at h2
  · rename_i e; rcases C.sc x _ e with q | ⟨q, _⟩
    · exact .inl q
    · cases q
  · rename_i e; rcases C.sc x _ e with q | ⟨q, _⟩
    · exact .inr (.inl q)
    · cases q
  · rename_i e; rcases C.sc x _ e with q | ⟨_, q⟩
    · exact .inr (.inr q)
    · exact .inr (.inl q)
  · cases h2
theorem COk.tgt (C : COk D G c X W) {i : Nat} {x : Str} (h : tgtOk c i x = true) : X.N[i]? = some x ∧ Loc X.env.scope x ∧ (X.fn x = true ∨ X.env.scope.names.lookup x = some .local) := by
  unfold tgtOk at h
  simp only [Bool.and_eq_true, decide_eq_true_eq] at h
  obtain ⟨h1, h2⟩ := h
  have hl : Loc c.sc x := by
    split at h2
    · rename_i e; exact .inl e
    · rename_i e; exact .inr e
    · cases h2
  refine ⟨by rw [C.nN]; exact h1, ?_, C.fnx x hl⟩
  rcases hl with e | e
  · rcases C.sc x _ e with q | ⟨q, _⟩
    · exact .inl q
    · cases q
  · rcases C.sc x _ e with q | ⟨q, _⟩
    · exact .inr q
    · cases q
theorem COk.gl (C : COk D G c X W) {x : Str} (h : glOk c x = true) : Gl X x ∧ (x == ("__debug__" : Str)) = false ∧ x ≠ "__name__" := by
  unfold glOk at h
  simp only [Bool.and_eq_true, decide_eq_true_eq, Bool.not_eq_true'] at h
  obtain ⟨⟨h1, h2⟩, h3⟩ := h
  refine ⟨?_, h2, h3⟩
  rcases C.sc x _ h1 with q | ⟨q, _⟩
  · exact q
  · cases q
theorem COk.nodup (C : COk D G c X W) : X.N.Nodup := by rw [C.nN]; exact C.nd
end
theorem PE.fin {X : Cx} {e : Expr} {D : Wd} {W : WX} {f : Sig → Sto → Res PV} (hK : X.K = D.K) (h : PE X e (teOf D W f)) (he : ∀ whole, isTrue e X.env whole = (do let v ← whole; standAt e.pos; holding [v] (truthy v))) :
    PE X e (teOf D W fun tau M => SW.fin false (f tau M)) ∧ PT X e (ttOf D W fun tau M => (SW.fin true (f tau M)).bool) := by
  refine ⟨h, ⟨fun pins s σ H Q I q => ?_⟩⟩
  obtain ⟨tau, M, rho, rs, q⟩ := q
  have q : OKG D (fun _ _ (x : Bool) (v : Bool) => v = x) H rho ((SW.fin true (f tau M)).bool) Q (fun cls d H' => W cls d σ H') := q
  have q' : OKG D (fun _ _ (x : Bool) (v : Bool) => v = x) H rho ((f tau M).bind fun x M => match truth M x with | some k => .ok k M | none => .stuck) Q (fun cls d H' => W cls d σ H') := by
    cases e : f tau M with
    | ok x M1 =>
      rw [e] at q
      simp only [SW.fin, Res.bool, Res.bind_ok] at q ⊢
      cases e2 : truth M1 x with
      | none => rw [e2] at q; exact q
      | some k => rw [e2] at q; exact q
    | exc c v M1 => rw [e] at q; exact q
    | stuck => rw [e] at q; exact q
  refine isTrue_plain (thn (h.run pins s σ H (fun x H1 => ∃ px M rho k, StoOk D H1 rho M ∧ Rep D H1 rho px x ∧ truth M px = some k ∧ Q k H1) I ⟨tau, M, rho, rs, q'.bind fun H1 rho1 x v M1 e s1 r k => ?_⟩) fun v s1 ⟨x, H1, I1, r1, q1⟩ => truth_ok hK pins s1 σ H1 x v Q I1 r1 q1) (he _)
  cases e2 : truth M1 x with
  | none => rw [e2] at k; exact k.elim
  | some b =>
    rw [e2] at k
    exact ⟨x, M1, rho1, b, s1, r, e2, k.ok s1 rfl⟩
end SW

/-! Expressions do what they do: the pieces. -/
namespace SW
open PySem PySem.Spec PyProof.Rows L2

theorem star_cons (e : PEx) (es : List Expr) (env : Env) : starEach (toE e :: es) env = (false, eval (toE e) env) :: starEach es env := by cases e <;> rfl
theorem star_no (env : Env) : ∀ (es : PEs), (starEach (toL es) env).any (·.1) = false
  | .nil => rfl
  | .cons e es => by
    show (starEach (toE e :: toL es) env).any (·.1) = false
    rw [star_cons, List.any_cons, star_no env es]
    rfl
theorem star_any (pos : Pos) (env : Env) (es : PEs) : (backTo pos (starEach (toL es) env)).any (·.1) = false := by
  unfold backTo
  rw [List.any_map]
  exact star_no env es
theorem star_all (pos : Pos) (env : Env) (e : PEx) (es : PEs) : (backTo pos (starEach (toE e :: toL es) env)).all (fun x => !x.1) = true := by
  have h := star_any pos env (.cons e es)
  show (backTo pos (starEach (toL (.cons e es)) env)).all (fun x => !x.1) = true
  rw [List.all_eq_true]
  intro x hx
  cases q : x.1 with
  | false => rfl
  | true =>
    have : (backTo pos (starEach (toL (.cons e es)) env)).any (·.1) = true := List.any_eq_true.mpr ⟨x, hx, q⟩
    rw [h] at this; cases this
theorem mark_toE (op : CmpOp) (e : PEx) : behindInMarks op (toE e) = false := by cases e <;> rfl
theorem base_toE (e : PEx) (x : Str) (env : Env) : attributeBase (toE e) x env (eval (toE e) env) = eval (toE e) env := by cases e <;> rfl
theorem fold_toI (it : PIt) (env : Env) : ∀ x, foldedSetIterable (toI it) env x = pure x := by
  intro x
  cases it with
  | seq e => cases e <;> rfl
  | _ => rfl
theorem plain_toE (e : PEx) : PlainIx (toE e) := by intro o i; cases e <;> rfl
theorem true_toE {e : PEx} {env : Env} (h : match e with | .nt _ _ => False | .cmp .. => False | .chn .. => False | .and .. => False | .or .. => False | .ife .. => False | _ => True) :
    ∀ whole, isTrue (toE e) env whole = (do let v ← whole; standAt (toE e).pos; holding [v] (truthy v)) := by
  intro whole
  cases e <;> first | exact h.elim | rfl

section
variable {D : Wd} {G : Glb} {c : Cn} {X : Cx} {W : WX}
theorem RelS.slots {H : Hp} {rho : List Addr} {M : Sto} {s : L2.St} {tau : Sig} (R : RelS D H rho M s tau) {i : Nat} {x : PV} (h : tau[i]? = some (some x)) : ∃ v, s[i]? = some (some v) ∧ Rep D H rho x v := R.slot i x h
theorem sim_nam (C : COk D G c X W) {i : Nat} {x : Str} {p : Pos} (h : slotOk c i x = true) : PE X (.Name x p) (teOf D W fun tau M => match tau[i]? with | some (some v) => .ok v M | _ => .stuck) := by
  obtain ⟨h1, h2, h3, h4⟩ := C.vis h
  refine PE.imp (pe_var h1 h2 h3 h4) fun s H Q ⟨tau, M, rho, rs, q⟩ => ?_
  dsimp only at q
  split at q
  · rename_i v e
    obtain ⟨w, e1, r⟩ := rs.slot i v e
    exact ⟨w, e1, q.ok rs.mem r⟩
  · exact q.elim
theorem sim_glb (C : COk D G c X W) {g : Nat} {x : Str} {p : Pos} (h : glOk c x = true) (h2 : (match G.cst[g]? with | some (y, _) => decide (y = x) | none => false) = true) :
    PE X (.Name x p) (teOf D W fun _ M => match G.cst[g]? with | some (_, v) => .ok v M | none => .stuck) := by
  obtain ⟨g1, g2, g3⟩ := C.gl h
  cases e : G.cst[g]? with
  | none => rw [e] at h2; cases h2
  | some q =>
    obtain ⟨y, pv⟩ := q
    rw [e] at h2
    have hy : y = x := of_decide_eq_true h2
    subst hy
    obtain ⟨u, v, hm, rv, hr⟩ := C.cst _ (List.mem_of_getElem? e)
    refine PE.imp (pe_glob g1 hm rv g2) fun s H Q ⟨tau, M, rho, rs, q⟩ => ?_
    exact OKG.ok (x := pv) (M := M) q rs.mem (hr H rho)
theorem sim_const {e : Expr} {v : V} {x : PV} (h : PE X e (tC v)) (hr : ∀ H rho, Rep D H rho x v) : PE X e (teOf D W fun _ M => .ok x M) :=
  PE.imp h fun s H Q ⟨tau, M, rho, rs, q⟩ => OKG.ok (x := x) (M := M) q rs.mem (hr H rho)
theorem sim_nil : PA X [] (taOf D W fun _ M => .ok [] M) :=
  PA.imp pa_nil fun s H Q ⟨tau, M, rho, rs, q⟩ => OKG.ok (R := RepL D) (x := []) (M := M) q rs.mem (repL_nil.mpr rfl)
theorem sim_cons {e : PEx} {es : List Expr} {f : Sig → Sto → Res PV} {g : Sig → Sto → Res (List PV)} (ha : PE X (toE e) (teOf D W f)) (hr : PA X es (taOf D W g)) :
    PA X (toE e :: es) (taOf D W fun tau M => (f tau M).bind fun x M => (g tau M).bind fun xs M => .ok (x :: xs) M) :=
  PA.imp (pa_cons ha hr (star_cons e es X.env)) fun s H Q ⟨tau, M, rho, rs, q⟩ => ⟨tau, M, rho, rs, q.bind fun H1 rho1 x v M1 e1 s1 r1 q1 =>
    ⟨tau, M1, rho1, rs.ext e1 s1, q1.bind fun H2 rho2 xs vs M2 e2 s2 r2 q2 => OKG.ok (R := RepL D) q2 s2 (repL_cons.mpr ⟨v, vs, rfl, r1.ext e2, r2⟩)⟩⟩
theorem sim_tup {es : List Expr} {k : Nat} {p : Pos} {g : Sig → Sto → Res (List PV)} (h : PA X es (taOf D W g)) :
    PE X (.Tuple es k p) (teOf D W fun tau M => (g tau M).bind fun xs M => if xs.length ≤ LINE then .ok (.tup xs) M else .stuck) :=
  PE.imp (pe_tup h) fun s H Q ⟨tau, M, rho, rs, q⟩ => ⟨tau, M, rho, rs, q.bind fun H1 rho1 xs vs M1 e1 s1 r1 q1 => by
    by_cases hz : xs.length ≤ LINE
    · rw [if_pos hz] at q1
      exact ⟨by rw [line_eq, ← r1.len]; exact hz, PRM.tup (M := M1) (D := D) q1 s1 r1⟩
    · rw [if_neg hz] at q1; exact q1.elim⟩
theorem sim_lst {es : List Expr} {p : Pos} {g : Sig → Sto → Res (List PV)} (h : PA X es (taOf D W g)) :
    PE X (.List es p) (teOf D W fun tau M => (g tau M).bind fun xs M => Res.of (newL M xs)) :=
  PE.imp (pe_lst h) fun s H Q ⟨tau, M, rho, rs, q⟩ => ⟨tau, M, rho, rs, q.bind fun H1 rho1 xs vs M1 e1 s1 r1 q1 => by
    obtain ⟨hz, hq⟩ := q1.prm.newL s1 r1
    exact ⟨by rw [line_eq, ← r1.len]; exact hz, hq⟩⟩
section
variable {a b : Expr} {f g : Sig → Sto → Res PV}
theorem two_run {r : R2} {h : PV → PV → Sto → Res PV} (k : ∀ {H : Hp} {rho : List Addr} {x y : PV} {v u : V} {M : Sto} {Q : VK} {E : XK}, StoOk D H rho M → Rep D H rho x v → Rep D H rho y u → OKG D (Rep D) H rho (h x y M) Q E → r v u H Q) :
    ∀ s H Q, teOf D W (fun tau M => (f tau M).bind fun x M => (g tau M).bind fun y M => h x y M) s H Q → tOp r (teOf D W f) (teOf D W g) s H Q := fun s H Q ⟨tau, M, rho, rs, q⟩ =>
  ⟨tau, M, rho, rs, q.bind fun H1 rho1 x v M1 e1 s1 r1 q1 => ⟨tau, M1, rho1, rs.ext e1 s1, q1.bind fun H2 rho2 y u M2 e2 s2 r2 q2 => k s2 (r1.ext e2) r2 q2⟩⟩
theorem sim_bin (hK : X.K = D.K) {op : Operator} {p : Pos} (ha : PE X a (teOf D W f)) (hb : PE X b (teOf D W g)) :
    PE X (.BinOp a op b p) (teOf D W fun tau M => (f tau M).bind fun x M => (g tau M).bind fun y M => Res.of (opB op x y M)) :=
  PE.imp (pe_op (opB_ok hK op) ha hb) (two_run fun s r1 r2 q => ⟨_, _, _, _, s, r1, r2, q.prm⟩)
theorem sim_sub (hK : X.K = D.K) {p : Pos} (hi : PlainIx b) (ha : PE X a (teOf D W f)) (hb : PE X b (teOf D W g)) :
    PE X (.Subscript a b p) (teOf D W fun tau M => (f tau M).bind fun x M => (g tau M).bind fun y M => Res.of (opI x y M)) :=
  PE.imp (pe_ix (opI_ok hK) ha hb hi) (two_run fun s r1 r2 q => ⟨_, _, _, _, s, r1, r2, q.prm⟩)
theorem cmp_ok {op : CmpOp} {H : Hp} {rho : List Addr} {x y : PV} {v u : V} {M : Sto} {Q : VK} {E : XK} (s : StoOk D H rho M) (r1 : Rep D H rho x v) (r2 : Rep D H rho y u)
    (q : OKG D (Rep D) H rho (match opC op x y M with | some k => .ok (.bl k) M | none => .stuck) Q E) : rCP D (opC op) v u H Q := by
  cases e : opC op x y M with
  | none => rw [e] at q; exact q.elim
  | some k =>
    rw [e] at q
    exact ⟨x, y, M, rho, k, s, r1, r2, e, q.ok s (rep_bl.mpr rfl)⟩
/-- a truth, as a test -/
theorem bool_run {h : Sig → Sto → Res PV} {t : TE} (k : ∀ s H Q, teOf D W h s H Q → t s H Q) : ∀ s H Q, ttOf D W (fun tau M => (h tau M).bool) s H Q → tTest t s H Q := fun s H Q ⟨tau, M, rho, rs, q⟩ =>
  k s H _ ⟨tau, M, rho, rs, OKG.bind (R := Rep D) (Q' := fun x H' => ∃ k, x = V.bl k ∧ Q k H') q fun H1 rho1 x v M1 e1 s1 r1 q1 => by
    cases x <;> first | exact q1.elim | skip
    rw [rep_bl] at r1
    exact ⟨_, r1, q1.ok s1 rfl⟩⟩
theorem sim_cmp (hK : X.K = D.K) (hu : X.A.units + 64 < cLine) {op : CmpOp} {p : Pos} (hm : behindInMarks op b = false) (ha : PE X a (teOf D W f)) (hb : PE X b (teOf D W g)) :
    PE X (.Compare a [op] [b] p) (teOf D W fun tau M => (f tau M).bind fun x M => (g tau M).bind fun y M => match opC op x y M with | some k => .ok (.bl k) M | none => .stuck) ∧
    PT X (.Compare a [op] [b] p) (ttOf D W fun tau M => ((f tau M).bind fun x M => (g tau M).bind fun y M => match opC op x y M with | some k => .ok (.bl k) M | none => .stuck).bool) :=
  ⟨PE.imp (pe_cmpR (opC_ok hK hu op) ha hb hm) (two_run fun s r1 r2 q => cmp_ok s r1 r2 q), PT.imp (pt_cmpR (opC_ok hK hu op) ha hb hm) (bool_run (two_run fun s r1 r2 q => cmp_ok s r1 r2 q))⟩
variable {d : Expr} {h : Sig → Sto → Res PV}
theorem chn_run {op op' : CmpOp} : ∀ s H Q, teOf D W (fun tau M => (f tau M).bind fun x M => (g tau M).bind fun y M => match opC op x y M with
    | some true => (h tau M).bind fun z M => match opC op' y z M with
      | some k => .ok (.bl k) M
      | none => .stuck
    | some false => .ok (.bl false) M
    | none => .stuck) s H Q → tChain (rCP D (opC op)) (rCP D (opC op')) (teOf D W f) (teOf D W g) (teOf D W h) s H Q := fun s H Q ⟨tau, M, rho, rs, q⟩ =>
  ⟨tau, M, rho, rs, q.bind fun H1 rho1 x v M1 e1 s1 r1 q1 => ⟨tau, M1, rho1, rs.ext e1 s1, q1.bind fun H2 rho2 y u M2 e2 s2 r2 q2 => by
    cases e : opC op x y M2 with
    | none => rw [e] at q2; exact q2.elim
    | some k =>
      rw [e] at q2
      refine ⟨x, y, M2, rho2, k, s2, r1.ext e2, r2, e, k, rfl, ?_⟩
      cases k with
      | false => exact q2.ok s2 (rep_bl.mpr rfl)
      | true => exact ⟨tau, M2, rho2, (rs.ext e1 s1).ext e2 s2, OKG.bind q2 fun H3 rho3 z w M3 e3 s3 r3 q3 => cmp_ok s3 (r2.ext e3) r3 q3⟩⟩⟩
theorem sim_chn (hK : X.K = D.K) (hu : X.A.units + 64 < cLine) {op op' : CmpOp} {p : Pos} (hm : lastMarks [op, op'] [b, d] = false) (ha : PE X a (teOf D W f)) (hb : PE X b (teOf D W g)) (hd : PE X d (teOf D W h)) :
    PE X (.Compare a [op, op'] [b, d] p) (teOf D W fun tau M => (f tau M).bind fun x M => (g tau M).bind fun y M => match opC op x y M with
      | some true => (h tau M).bind fun z M => match opC op' y z M with
        | some k => .ok (.bl k) M
        | none => .stuck
      | some false => .ok (.bl false) M
      | none => .stuck) ∧
    PT X (.Compare a [op, op'] [b, d] p) (ttOf D W fun tau M => ((f tau M).bind fun x M => (g tau M).bind fun y M => match opC op x y M with
      | some true => (h tau M).bind fun z M => match opC op' y z M with
        | some k => .ok (.bl k) M
        | none => .stuck
      | some false => .ok (.bl false) M
      | none => .stuck).bool) :=
  ⟨PE.imp (pe_chain (opC_ok hK hu op) (opC_ok hK hu op') ha hb hd hm) chn_run, PT.imp (pt_chain (opC_ok hK hu op) (opC_ok hK hu op') ha hb hd hm) (bool_run chn_run)⟩
theorem sim_neg {p : Pos} (ha : PE X a (teOf D W f)) : PE X (.UnaryOp .USub a p) (teOf D W fun tau M => (f tau M).bind fun x M => match x with | .int i => .ok (.int (-i)) M | _ => .stuck) :=
  PE.imp (pe_un un_neg ha) fun s H Q ⟨tau, M, rho, rs, q⟩ => ⟨tau, M, rho, rs, q.bind fun H1 rho1 x v M1 e1 s1 r1 q1 => by
    cases x <;> first | exact q1.elim | skip
    rw [rep_int] at r1
    exact ⟨_, r1, q1.ok s1 (rep_int.mpr rfl)⟩⟩
theorem sim_not {p : Pos} (ha : PE X a (teOf D W f)) : PE X (.UnaryOp .Not a p) (teOf D W fun tau M => (f tau M).bind fun x M => match x with | .bl b => .ok (.bl (!b)) M | _ => .stuck) :=
  PE.imp (pe_not ha) fun s H Q ⟨tau, M, rho, rs, q⟩ => ⟨tau, M, rho, rs, q.bind fun H1 rho1 x v M1 e1 s1 r1 q1 => by
    cases x <;> first | exact q1.elim | skip
    rw [rep_bl] at r1
    exact ⟨_, r1, q1.ok s1 (rep_bl.mpr rfl)⟩⟩
theorem sim_notT {p : Pos} (ha : PT X a (ttOf D W fun tau M => (f tau M).bool)) : PT X (.UnaryOp .Not a p) (ttOf D W fun tau M => ((f tau M).bind fun x M => match x with | .bl b => .ok (.bl (!b)) M | _ => .stuck).bool) :=
  PT.imp (pt_not ha) fun s H Q ⟨tau, M, rho, rs, q⟩ => ⟨tau, M, rho, rs, by
    revert q
    show OKG D _ H rho (((f tau M).bind fun x M => match x with | .bl b => .ok (.bl (!b)) M | _ => .stuck).bool) Q _ → OKG D _ H rho ((f tau M).bool) (fun c H1 => Q (!c) H1) _
    cases f tau M with
    | ok x M1 =>
      intro q
      cases x <;> first | exact q.elim | skip
      intro H1 rho1 v e1 s1 r1
      have r1 : v = _ := r1
      subst r1
      exact q H1 rho1 _ e1 s1 rfl
    | exc c v M1 => exact fun q => q
    | stuck => exact fun q => q⟩
theorem sim_ife {t : Expr} {k : Sig → Sto → Res Bool} {p : Pos} (ht : PT X t (ttOf D W k)) (ha : PE X a (teOf D W f)) (hb : PE X b (teOf D W g)) :
    PE X (.IfExp t a b p) (teOf D W fun tau M => (k tau M).bind fun c M => if c = true then f tau M else g tau M) :=
  PE.imp (pe_ifExp ht ha hb) fun s H Q ⟨tau, M, rho, rs, q⟩ => ⟨tau, M, rho, rs, q.bind fun H1 rho1 x v M1 e1 s1 r1 q1 => by
    have r1 : v = x := r1
    subst r1
    cases v with
    | true => exact ⟨tau, M1, rho1, rs.ext e1 s1, q1⟩
    | false => exact ⟨tau, M1, rho1, rs.ext e1 s1, q1⟩⟩
/-! slices -/
theorem part_run {x : PV} {H0 : Hp} {rho0 : List Addr} {R : Option Int → Hp → Prop} {Q : VK} {E : XK} {k : Int → Sto → Res PV} {r : Res PV} (q : OKG D (Rep D) H0 rho0 (r.bind fun l M => match l with | .int l => k l M | _ => .stuck) Q E)
    (h : ∀ (H : Hp) (rho : List Addr) (l : Int) (M : Sto), Ext H0 rho0 H rho → StoOk D H rho M → OKG D (Rep D) H rho (k l M) Q E → R (some l) H) : OKG D (Rep D) H0 rho0 r (fun v H => ∃ i, v = .int i ∧ R (some i) H) E :=
  q.bind fun H rho l v M e s r q1 => by
    cases l <;> first | exact q1.elim | skip
    rw [rep_int] at r
    exact ⟨_, r, h H rho _ M e s q1⟩
theorem sim_slc (hK : X.K = D.K) {p p2 : Pos} (ha : PE X a (teOf D W f)) (hb : PE X b (teOf D W g)) (hd : PE X d (teOf D W h)) :
    PE X (.Subscript a (.Slice (some b) (some d) none p2) p) (teOf D W fun tau M => (f tau M).bind fun x M => (g tau M).bind fun l M => match l with | .int l => (h tau M).bind fun u M => (match u with | .int u => Res.of (opS x (some l) (some u) M) | _ => .stuck) | _ => .stuck) :=
  PE.imp (pe_slice (opS_ok hK) ha (po_some hb) (po_some hd)) fun s H Q ⟨tau, M, rho, rs, q⟩ => ⟨tau, M, rho, rs, q.bind fun H1 rho1 x v M1 e1 s1 r1 q1 => ⟨tau, M1, rho1, rs.ext e1 s1, part_run (x := x) (R := fun l H2 => tPart (teOf D W h) s H2 fun u H3 => rSP D opS v l u H3 Q) q1 fun H2 rho2 l M2 e2 s2 q2 =>
    ⟨tau, M2, rho2, (rs.ext e1 s1).ext e2 s2, part_run (x := x) (R := fun u H3 => rSP D opS v (some l) u H3 Q) q2 fun H3 rho3 u M3 e3 s3 q3 => ⟨x, M3, rho3, s3, (r1.ext e2).ext e3, q3.prm⟩⟩⟩⟩
theorem sim_slcL (hK : X.K = D.K) {p p2 : Pos} (ha : PE X a (teOf D W f)) (hb : PE X b (teOf D W g)) :
    PE X (.Subscript a (.Slice (some b) none none p2) p) (teOf D W fun tau M => (f tau M).bind fun x M => (g tau M).bind fun l M => match l with | .int l => Res.of (opS x (some l) none M) | _ => .stuck) :=
  PE.imp (pe_slice (opS_ok hK) ha (po_some hb) po_none) fun s H Q ⟨tau, M, rho, rs, q⟩ => ⟨tau, M, rho, rs, q.bind fun H1 rho1 x v M1 e1 s1 r1 q1 => ⟨tau, M1, rho1, rs.ext e1 s1, part_run (x := x) (R := fun l H2 => rSP D opS v l none H2 Q) q1 fun H2 rho2 l M2 e2 s2 q2 =>
    ⟨x, M2, rho2, s2, r1.ext e2, q2.prm⟩⟩⟩
theorem sim_slcH (hK : X.K = D.K) {p p2 : Pos} (ha : PE X a (teOf D W f)) (hb : PE X b (teOf D W g)) :
    PE X (.Subscript a (.Slice none (some b) none p2) p) (teOf D W fun tau M => (f tau M).bind fun x M => (g tau M).bind fun l M => match l with | .int l => Res.of (opS x none (some l) M) | _ => .stuck) :=
  PE.imp (pe_slice (opS_ok hK) ha po_none (po_some hb)) fun s H Q ⟨tau, M, rho, rs, q⟩ => ⟨tau, M, rho, rs, q.bind fun H1 rho1 x v M1 e1 s1 r1 q1 => ⟨tau, M1, rho1, rs.ext e1 s1, part_run (x := x) (R := fun l H2 => rSP D opS v none l H2 Q) q1 fun H2 rho2 l M2 e2 s2 q2 =>
    ⟨x, M2, rho2, s2, r1.ext e2, q2.prm⟩⟩⟩
theorem sim_slcN (hK : X.K = D.K) {p p2 : Pos} (ha : PE X a (teOf D W f)) :
    PE X (.Subscript a (.Slice none none none p2) p) (teOf D W fun tau M => (f tau M).bind fun x M => Res.of (opS x none none M)) :=
  PE.imp (pe_slice (opS_ok hK) ha po_none po_none) fun s H Q ⟨tau, M, rho, rs, q⟩ => ⟨tau, M, rho, rs, q.bind fun H1 rho1 x v M1 e1 s1 r1 q1 => ⟨x, M1, rho1, s1, r1, q1.prm⟩⟩
/-! calls -/
theorem bi_ty (b : Bi) : (∃ T, b.val = .type T ∧ bootBuiltins b.nm = some (.type T)) ∨ ∃ T, b.val = .builtin T ∧ bootBuiltins b.nm = some (.builtin T) := by
  cases b
  · exact .inr ⟨_, rfl, by decide +kernel⟩
  · exact .inl ⟨_, rfl, by decide +kernel⟩
  · exact .inl ⟨_, rfl, by decide +kernel⟩
  · exact .inr ⟨_, rfl, by decide +kernel⟩
  · exact .inr ⟨_, rfl, by decide +kernel⟩
  · exact .inr ⟨_, rfl, by decide +kernel⟩
  · exact .inr ⟨_, rfl, by decide +kernel⟩
  · exact .inl ⟨_, rfl, by decide +kernel⟩
  · exact .inl ⟨_, rfl, by decide +kernel⟩
  · exact .inr ⟨_, rfl, by decide +kernel⟩
  · exact .inr ⟨_, rfl, by decide +kernel⟩
theorem args_run {e0 : List V → Hp → VK → Prop} {gl : Sig → Sto → Res (List PV)} {k : List PV → Sto → Res PV} (h : ∀ {H : Hp} {rho : List Addr} {xs : List PV} {vs : List V} {M : Sto} {Q : VK} {E : XK}, StoOk D H rho M → RepL D H rho xs vs → OKG D (Rep D) H rho (k xs M) Q E → e0 vs H Q) :
    ∀ s H Q, teOf D W (fun tau M => (f tau M).bind fun x M => (gl tau M).bind fun xs M => k (x :: xs) M) s H Q → tCB e0 (taOf D W fun tau M => (f tau M).bind fun x M => (gl tau M).bind fun xs M => .ok (x :: xs) M) s H Q := fun s H Q ⟨tau, M, rho, rs, q⟩ => ⟨tau, M, rho, rs, by
  revert q
  show OKG D _ H rho ((f tau M).bind fun x M => (gl tau M).bind fun xs M => k (x :: xs) M) Q _ → OKG D _ H rho ((f tau M).bind fun x M => (gl tau M).bind fun xs M => .ok (x :: xs) M) (fun vs H1 => e0 vs H1 Q) _
  cases f tau M with
  | exc c v M1 => exact fun q => q
  | stuck => exact fun q => q
  | ok x M1 =>
    show OKG D _ H rho ((gl tau M1).bind fun xs M => k (x :: xs) M) Q _ → OKG D _ H rho ((gl tau M1).bind fun xs M => .ok (x :: xs) M) (fun vs H1 => e0 vs H1 Q) _
    cases gl tau M1 with
    | exc c v M1 => exact fun q => q
    | stuck => exact fun q => q
    | ok xs M2 => exact fun q H1 rho1 vs e1 s1 r1 => h s1 r1 (OKG.ext e1 q)⟩
theorem sim_blt (C : COk D G c X W) {b : Bi} {e : PEx} {es : PEs} {gl : Sig → Sto → Res (List PV)} {p p2 : Pos} (h1 : glOk c b.nm = true) (h2 : b.nm ∈ G.bn)
    (ha : PA X (toE e :: toL es) (taOf D W fun tau M => (f tau M).bind fun x M => (gl tau M).bind fun xs M => .ok (x :: xs) M)) :
    PE X (.Call (.Name b.nm p) (toE e :: toL es) [] p2) (teOf D W fun tau M => (f tau M).bind fun x M => (gl tau M).bind fun xs M => Res.of (opM b (x :: xs) M)) := by
  obtain ⟨g1, g2, g3⟩ := C.gl h1
  have hc := opM_ok C.kK C.calm b
  rcases bi_ty b with ⟨T, e1, e2⟩ | ⟨T, e1, e2⟩
  · rw [e1] at hc
    exact PE.imp (pe_callTy hc g1 (C.bn _ h2) e2 ha g3 g2 (star_cons e _ _) (star_any _ _ es)) (args_run (k := fun xs M => Res.of (opM b xs M)) fun s r q => ⟨_, _, _, s, r, q.prm⟩)
  · rw [e1] at hc
    exact PE.imp (pe_callB hc g1 (C.bn _ h2) e2 ha g3 g2 (star_cons e _ _) (star_any _ _ es)) (args_run (k := fun xs M => Res.of (opM b xs M)) fun s r q => ⟨_, _, _, s, r, q.prm⟩)
theorem ty_boot (t : Ty) : bootBuiltins t.nm = some (.type t.ts) := by cases t <;> decide +kernel
theorem sim_isi (C : COk D G c X W) {e : PEx} {t : Ty} {p pt p2 : Pos} (h1 : glOk c "isinstance" = true) (h2 : ("isinstance" : Str) ∈ G.bn) (h3 : glOk c t.nm = true) (h4 : t.nm ∈ G.bn) (ha : PE X (toE e) (teOf D W f)) :
    PE X (.Call (.Name "isinstance" p) [toE e, .Name t.nm pt] [] p2) (teOf D W fun tau M => (f tau M).bind fun x M => match isTy M t x with | some k => .ok (.bl k) M | none => .stuck) := by
  obtain ⟨g1, g2, g3⟩ := C.gl h1
  obtain ⟨k1, k2, k3⟩ := C.gl h3
  have ht : PE X (.Name t.nm pt) (tC (.ty t.ts)) := pe_bltn k1 (C.bn _ h4) (ty_boot t) rfl k3 k2
  have hs : starEach [toE e, .Name t.nm pt] X.env = (false, eval (toE e) X.env) :: starEach [.Name t.nm pt] X.env := star_cons e _ _
  refine PE.imp (pe_callB (isTy_ok C.kK t) g1 (C.bn _ h2) (by decide +kernel) (pa_cons ha (pa_cons ht pa_nil) hs) g3 g2 hs rfl) fun s H Q ⟨tau, M, rho, rs, q⟩ => ⟨tau, M, rho, rs, q.bind fun H1 rho1 x v M1 e1 s1 r1 q1 => ?_⟩
  cases e2 : isTy M1 t x with
  | none => rw [e2] at q1; exact q1.elim
  | some k =>
    rw [e2] at q1
    exact ⟨v, x, M1, rho1, k, rfl, s1, r1, e2, q1.ok s1 (rep_bl.mpr rfl)⟩
end
end
end SW

/-! Calls, methods, and, or. -/
namespace SW
open PySem PySem.Spec PyProof.Rows L2

section
variable {D : Wd} {G : Glb} {c : Cn} {X : Cx} {W : WX} {f : Sig → Sto → Res PV}
theorem run_fi (C : COk D G c X W) {fi : FI} {a : Addr} {fd : FuncData} (F : FOk D X.prog X.w X.mg X.base fi a fd) (hl : fi.lev ≤ c.lev) {pins : List (Addr × Obj)} {s : L2.St} {H : Hp} {sh : Shared} {Q : VK} {us : List Value} {vs : List V}
    (I : Inv X pins s H sh) (r : Vals vs us) (h : spOf D fi vs H Q (WE W s)) : wpAny (model X.prog X.w) X.A (PySem.call (.ref a) us) (EP X pins s Q) X.xe sh := by
  have hn : vs.length = fi.ps.length := by
    obtain ⟨xs, M, rho, _, h2, h3, _⟩ := h
    rw [← h2.len]; exact h3
  have e0 : Env0 X.prog X.w D.K X.mg X.base X.A X.stack sh H := by rw [← C.kK]; exact I.env0
  have ki : D.K.In sh.heap := by rw [← C.kK]; exact I.kIn
  have bd := F.bd sh us ki (by rw [List.append_nil, ← r.length]; exact hn)
  rw [List.append_nil] at bd
  have go := F.fn.run X.A X.stack sh H ⟨us, []⟩ us vs Q (WE W s) (C.room.mono hl) C.gd e0 hn bd r h
  refine wpAny_call (codeAny_mono go fun res s' hq => ?_)
  cases res with
  | ok fl =>
    cases fl with
    | ret u => exact I.after hq
    | _ => exact hq.elim
  | error e => exact passAt C.tk s pins H sh e s' I hq
theorem args_runS {s : L2.St} {H : Hp} {Q : VK} {R : List V → Hp → Prop} {gl : Sig → Sto → Res (List PV)} {k : List PV → Sto → Res PV}
    (h : ∀ {H : Hp} {rho : List Addr} {xs : List PV} {vs : List V} {M : Sto}, StoOk D H rho M → RepL D H rho xs vs → OKG D (Rep D) H rho (k xs M) Q (WE W s) → R vs H)
    (q : teOf D W (fun tau M => (f tau M).bind fun x M => (gl tau M).bind fun xs M => k (x :: xs) M) s H Q) : taOf D W (fun tau M => (f tau M).bind fun x M => (gl tau M).bind fun xs M => .ok (x :: xs) M) s H R := by
  obtain ⟨tau, M, rho, rs, q⟩ := q
  refine ⟨tau, M, rho, rs, ?_⟩
  revert q
  show OKG D _ H rho ((f tau M).bind fun x M => (gl tau M).bind fun xs M => k (x :: xs) M) Q _ → OKG D _ H rho ((f tau M).bind fun x M => (gl tau M).bind fun xs M => .ok (x :: xs) M) R _
  cases f tau M with
  | exc c v M1 => exact fun q => q
  | stuck => exact fun q => q
  | ok x M1 =>
    show OKG D _ H rho ((gl tau M1).bind fun xs M => k (x :: xs) M) Q _ → OKG D _ H rho ((gl tau M1).bind fun xs M => .ok (x :: xs) M) R _
    cases gl tau M1 with
    | exc c v M1 => exact fun q => q
    | stuck => exact fun q => q
    | ok xs M2 => exact fun q H1 rho1 vs e1 s1 r1 => h s1 r1 (OKG.ext e1 q)
theorem sim_call (C : COk D G c X W) {fi : FI} (hfi : fi ∈ G.fns) (hl : fi.lev ≤ c.lev) {e : PEx} {es : PEs} {gl : Sig → Sto → Res (List PV)} {p p2 : Pos} (h1 : glOk c fi.nm = true)
    (ha : PA X (toE e :: toL es) (taOf D W fun tau M => (f tau M).bind fun x M => (gl tau M).bind fun xs M => .ok (x :: xs) M)) :
    PE X (.Call (.Name fi.nm p) (toE e :: toL es) [] p2) (teOf D W fun tau M => (f tau M).bind fun x M => (gl tau M).bind fun xs M => if (x :: xs).length = fi.ps.length then fi.run (x :: xs) M else .stuck) := by
  obtain ⟨g1, g2, _⟩ := C.gl h1
  obtain ⟨a, fd, F⟩ := C.fok fi hfi hl
  have kp : PySem.W.keepIn X.K (.ref a) = true := by rw [C.kK]; exact F.kp
  refine ⟨fun pins sh s H Q I q => ?_⟩
  refine wpAny_Call_Name_kw (ld_glob I g1 F.at_ ?_ g2)
  have q' := args_runS (R := fun vs H1 => spOf D fi vs H1 Q (WE W s)) (k := fun xs M => if xs.length = fi.ps.length then fi.run xs M else .stuck) (fun {H rho xs vs M} st r q => by
    by_cases hz : xs.length = fi.ps.length
    · have q : OKG D (Rep D) H rho (if xs.length = fi.ps.length then fi.run xs M else .stuck) Q (WE W s) := q
      rw [if_pos hz] at q
      exact ⟨xs, M, rho, st, r, hz, q⟩
    · have q : OKG D (Rep D) H rho (if xs.length = fi.ps.length then fi.run xs M else .stuck) Q (WE W s) := q
      rw [if_neg hz] at q
      exact q.elim) q
  exact PySem.W.callWith_K (h₀ := X.base) I.ok.mod.kin kp (thn (ha.run p2 pins sh s H _ I q') fun us s1 ⟨vs, H1, I1, r, k⟩ => ⟨I1.kIn, run_fi C F hl I1 r k⟩) (star_cons e _ _) (star_any _ _ es)

/-! ### methods of lists -/
theorem me_slot (m : Me) : Slot "list" m.nm m.id := by
  cases m
  · exact PySem.F.slot_list_append
  · exact PySem.F.slot_list_insert
  · exact PySem.F.slot_list_pop
  · exact PySem.F.slot_list_index
  · exact PySem.F.slot_list_count
theorem me_type (m : Me) : typeOf (.builtin m.id) = pure (.type "method_descriptor") := by
  cases m
  · exact PySem.F.type_list_append
  · exact PySem.F.type_list_insert
  · exact PySem.F.type_list_pop
  · exact PySem.F.type_list_index
  · exact PySem.F.type_list_count
theorem lst_ty {H : Hp} {rho : List Addr} {M : Sto} {x : PV} {v : V} {xs : List PV} (hK : X.K = D.K) (st : StoOk D H rho M) (r : Rep D H rho x v) (h : lst? M x = some xs) : tyV X.K "list" v H := by
  obtain ⟨a, vs, rfl, h1, _⟩ := st.list r h
  rw [hK]
  exact .inl ⟨rfl, vs, h1⟩
theorem sim_meth (C : COk D G c X W) {m : Me} {o e : PEx} {es : PEs} {fo : Sig → Sto → Res PV} {gl : Sig → Sto → Res (List PV)} {pa p : Pos} (hline : (pa.endLine == p.line) = true) (hfew : (toL es).length < 20)
    (ho : PE X (toE o) (teOf D W fo)) (ha : PA X (toE e :: toL es) (taOf D W fun tau M => (f tau M).bind fun x M => (gl tau M).bind fun xs M => .ok (x :: xs) M)) :
    PE X (.Call (.Attribute (toE o) m.nm pa) (toE e :: toL es) [] p) (teOf D W fun tau M => (fo tau M).bind fun x M => match lst? M x with
      | some _ => (f tau M).bind fun y M => (gl tau M).bind fun ys M => Res.of (opD m x (y :: ys) M)
      | none => .stuck) := by
  have few : ((backTo p (starEach (toE e :: toL es) X.env)).all (fun x => !x.1) && (backToKw p (keywordEach [] X.env)).all (fun x => x.1.isSome)
      && decide ((toE e :: toL es).length + ([] : List Keyword).length + (if ([] : List Keyword).isEmpty then 0 else 1) < 30)) = true := by
    rw [star_all]
    simp [keywordEach, backToKw]
    omega
  refine PE.imp (pe_bm PySem.F.plainAttrs_list (me_slot m) (me_type m) (opD_ok C.kK m) ho ha (base_toE o _ _) few hline (star_cons e _ _) (star_any _ _ es)) fun s H Q ⟨tau, M, rho, rs, q⟩ => ⟨tau, M, rho, rs, q.bind fun H1 rho1 x v M1 e1 s1 r1 q1 => ?_⟩
  cases e2 : lst? M1 x with
  | none => rw [e2] at q1; exact q1.elim
  | some ys =>
    rw [e2] at q1
    refine ⟨lst_ty C.kK s1 r1 e2, tau, M1, rho1, rs.ext e1 s1, ?_⟩
    revert q1
    show OKG D _ H1 rho1 ((f tau M1).bind fun y M => (gl tau M).bind fun ys M => Res.of (opD m x (y :: ys) M)) Q _ → OKG D _ H1 rho1 ((f tau M1).bind fun x M => (gl tau M).bind fun xs M => .ok (x :: xs) M) _ _
    cases f tau M1 with
    | exc c v M1 => exact fun q => q
    | stuck => exact fun q => q
    | ok y M2 =>
      show OKG D _ H1 rho1 ((gl tau M2).bind fun ys M => Res.of (opD m x (y :: ys) M)) Q _ → OKG D _ H1 rho1 ((gl tau M2).bind fun xs M => .ok (y :: xs) M) _ _
      cases gl tau M2 with
      | exc c v M1 => exact fun q => q
      | stuck => exact fun q => q
      | ok zs M3 => exact fun q H2 rho2 vs e3 s3 r3 => ⟨x, _, M3, rho2, s3, r1.ext e3, r3, (OKG.ext e3 q).prm⟩
theorem sim_meth0 (C : COk D G c X W) {m : Me} {o : PEx} {fo : Sig → Sto → Res PV} {pa p : Pos} (hline : (pa.endLine == p.line) = true) (ho : PE X (toE o) (teOf D W fo)) :
    PE X (.Call (.Attribute (toE o) m.nm pa) [] [] p) (teOf D W fun tau M => (fo tau M).bind fun x M => match lst? M x with
      | some _ => Res.of (opD m x [] M)
      | none => .stuck) := by
  refine PE.imp (pe_bm0 PySem.F.plainAttrs_list (me_slot m) (me_type m) (opD_ok C.kK m) ho (base_toE o _ _) hline) fun s H Q ⟨tau, M, rho, rs, q⟩ => ⟨tau, M, rho, rs, q.bind fun H1 rho1 x v M1 e1 s1 r1 q1 => ?_⟩
  cases e2 : lst? M1 x with
  | none => rw [e2] at q1; exact q1.elim
  | some ys =>
    rw [e2] at q1
    exact ⟨lst_ty C.kK s1 r1 e2, x, [], M1, rho1, s1, r1, repL_nil.mpr rfl, q1.prm⟩

/-! ### and, or -/
variable {a b : Expr} {rest : List Expr} {g : Sig → Sto → Res PV}
theorem sim_and1 {p : Pos} (ha : PE X a (teOf D W f)) : PE X (.BoolOp .And [a] p) (teOf D W fun tau M => (f tau M).bind fun x M => .ok x M) :=
  PE.imp (pe_one ha) fun s H Q ⟨tau, M, rho, rs, q⟩ => ⟨tau, M, rho, rs, by
    revert q
    show OKG D _ H rho ((f tau M).bind fun x M => .ok x M) Q _ → OKG D _ H rho (f tau M) Q _
    cases f tau M <;> exact fun q => q⟩
theorem sim_or1 {p : Pos} (ha : PE X a (teOf D W f)) : PE X (.BoolOp .Or [a] p) (teOf D W fun tau M => (f tau M).bind fun x M => .ok x M) :=
  PE.imp (pe_one ha) fun s H Q ⟨tau, M, rho, rs, q⟩ => ⟨tau, M, rho, rs, by
    revert q
    show OKG D _ H rho ((f tau M).bind fun x M => .ok x M) Q _ → OKG D _ H rho (f tau M) Q _
    cases f tau M <;> exact fun q => q⟩
theorem sim_and2 {p : Pos} (ha : PE X a (teOf D W f)) (hb : PE X (.BoolOp .And (b :: rest) p) (teOf D W g)) : PE X (.BoolOp .And (a :: b :: rest) p) (teOf D W fun tau M => (f tau M).bind fun x M => match x with | .bl true => g tau M | .bl false => .ok (.bl false) M | _ => .stuck) :=
  PE.imp (pe_and ha hb) fun s H Q ⟨tau, M, rho, rs, q⟩ => ⟨tau, M, rho, rs, q.bind fun H1 rho1 x v M1 e1 s1 r1 q1 => by
    cases x <;> first | exact q1.elim | skip
    rename_i k
    rw [rep_bl] at r1
    refine ⟨k, r1, ?_⟩
    cases k with
    | true => exact ⟨tau, M1, rho1, rs.ext e1 s1, q1⟩
    | false => exact OKG.ok q1 s1 (rep_bl.mpr rfl)⟩
theorem sim_or2 {p : Pos} (ha : PE X a (teOf D W f)) (hb : PE X (.BoolOp .Or (b :: rest) p) (teOf D W g)) : PE X (.BoolOp .Or (a :: b :: rest) p) (teOf D W fun tau M => (f tau M).bind fun x M => match x with | .bl false => g tau M | .bl true => .ok (.bl true) M | _ => .stuck) :=
  PE.imp (pe_or ha hb) fun s H Q ⟨tau, M, rho, rs, q⟩ => ⟨tau, M, rho, rs, q.bind fun H1 rho1 x v M1 e1 s1 r1 q1 => by
    cases x <;> first | exact q1.elim | skip
    rename_i k
    rw [rep_bl] at r1
    refine ⟨k, r1, ?_⟩
    cases k with
    | false => exact ⟨tau, M1, rho1, rs.ext e1 s1, q1⟩
    | true => exact OKG.ok q1 s1 (rep_bl.mpr rfl)⟩
theorem bool_bind {H0 : Hp} {rho0 : List Addr} {r : Res PV} {k : Bool → Sto → Res PV} {Q : Bool → Hp → Prop} {R : Bool → Hp → Prop} {E : XK}
    (q : OKG D (fun _ _ (x : Bool) (v : Bool) => v = x) H0 rho0 ((r.bind fun x M => match x with | .bl b => k b M | _ => .stuck).bool) Q E)
    (h : ∀ (H : Hp) (rho : List Addr) (b : Bool) (M : Sto), Ext H0 rho0 H rho → StoOk D H rho M → OKG D (fun _ _ (x : Bool) (v : Bool) => v = x) H rho ((k b M).bool) Q E → R b H) :
    OKG D (fun _ _ (x : Bool) (v : Bool) => v = x) H0 rho0 (r.bool) R E := by
  cases r with
  | exc c v M1 => exact q
  | stuck => exact q
  | ok x M1 =>
    cases x <;> first | exact q.elim | skip
    intro H rho v e s r1
    have r1 : v = _ := r1
    subst r1
    exact h H rho _ M1 e s (OKG.ext e q)
theorem sim_andT1 {p : Pos} (ha : PT X a (ttOf D W fun tau M => (f tau M).bool)) : PW X (.BoolOp .And [a] p) (ttOf D W fun tau M => ((f tau M).bind fun x M => .ok x M).bool) :=
  PW.imp (pw_and1 ha) fun s H Q ⟨tau, M, rho, rs, q⟩ => ⟨tau, M, rho, rs, by
    revert q
    show OKG D _ H rho (((f tau M).bind fun x M => .ok x M).bool) Q _ → OKG D _ H rho ((f tau M).bool) Q _
    cases f tau M <;> exact fun q => q⟩
theorem sim_orT1 {p : Pos} (ha : PT X a (ttOf D W fun tau M => (f tau M).bool)) : PW X (.BoolOp .Or [a] p) (ttOf D W fun tau M => ((f tau M).bind fun x M => .ok x M).bool) :=
  PW.imp (pw_or1 ha) fun s H Q ⟨tau, M, rho, rs, q⟩ => ⟨tau, M, rho, rs, by
    revert q
    show OKG D _ H rho (((f tau M).bind fun x M => .ok x M).bool) Q _ → OKG D _ H rho ((f tau M).bool) Q _
    cases f tau M <;> exact fun q => q⟩
theorem split2 {α : Type} {k k' : Res α} : ∀ (x : PV), (match x with | .bl true => k | .bl false => k' | _ => .stuck) = (match x with | .bl b => (if b = true then k else k') | _ => .stuck) := by
  intro x
  cases x <;> first | rfl | skip
  rename_i b
  cases b <;> rfl
theorem split3 {α : Type} {k k' : Res α} : ∀ (x : PV), (match x with | .bl false => k | .bl true => k' | _ => .stuck) = (match x with | .bl b => (if b = true then k' else k) | _ => .stuck) := by
  intro x
  cases x <;> first | rfl | skip
  rename_i b
  cases b <;> rfl
theorem sim_andT2 {p : Pos} (ha : PT X a (ttOf D W fun tau M => (f tau M).bool)) (hb : PW X (.BoolOp .And (b :: rest) p) (ttOf D W fun tau M => (g tau M).bool)) :
    PW X (.BoolOp .And (a :: b :: rest) p) (ttOf D W fun tau M => ((f tau M).bind fun x M => match x with | .bl true => g tau M | .bl false => .ok (.bl false) M | _ => .stuck).bool) :=
  PW.imp (pw_and ha hb) fun s H Q ⟨tau, M, rho, rs, q⟩ => ⟨tau, M, rho, rs, by
    simp only [split2] at q
    refine bool_bind (k := fun b M => if b = true then g tau M else .ok (.bl false) M) q fun H1 rho1 k M1 e1 s1 q1 => ?_
    cases k with
    | true => exact ⟨tau, M1, rho1, rs.ext e1 s1, q1⟩
    | false => exact OKG.ok (R := fun _ _ (x : Bool) (v : Bool) => v = x) (x := false) (M := M1) q1 s1 rfl⟩
theorem sim_orT2 {p : Pos} (ha : PT X a (ttOf D W fun tau M => (f tau M).bool)) (hb : PW X (.BoolOp .Or (b :: rest) p) (ttOf D W fun tau M => (g tau M).bool)) :
    PW X (.BoolOp .Or (a :: b :: rest) p) (ttOf D W fun tau M => ((f tau M).bind fun x M => match x with | .bl false => g tau M | .bl true => .ok (.bl true) M | _ => .stuck).bool) :=
  PW.imp (pw_or ha hb) fun s H Q ⟨tau, M, rho, rs, q⟩ => ⟨tau, M, rho, rs, by
    simp only [split3] at q
    refine bool_bind (k := fun b M => if b = true then .ok (.bl true) M else g tau M) q fun H1 rho1 k M1 e1 s1 q1 => ?_
    cases k with
    | false => exact ⟨tau, M1, rho1, rs.ext e1 s1, q1⟩
    | true => exact OKG.ok (R := fun _ _ (x : Bool) (v : Bool) => v = x) (x := true) (M := M1) q1 s1 rfl⟩
end
end SW

/-! Targets, walks, comprehensions. -/
namespace SW
open PySem PySem.Spec PyProof.Rows L2

/-! ### targets -/
def slotsT : PTg → List Nat
  | .one i _ _ => [i]
  | .tup ts _ _ => ts.map (·.1)
theorem wipe_set_set (s : L2.St) (i : Nat) (x y : Option V) : ∀ vs : List Nat, (wipe (s.set i x) vs).set i y = (wipe s vs).set i y
  | [] => by unfold wipe; rw [List.set_set]
  | v :: vs => by
    unfold wipe
    by_cases h : v = i
    · subst h
      rw [List.set_set, List.set_set]
      exact wipe_set_set s v x y vs
    · rw [List.set_comm _ _ h, List.set_comm _ _ h, wipe_set_set s i x y vs]
theorem wipe_set {s : L2.St} {i : Nat} {x : Option V} : ∀ {vs : List Nat}, i ∈ vs → wipe (s.set i x) vs = wipe s vs
  | v :: vs, h => by
    unfold wipe
    by_cases e : v = i
    · subst e; exact wipe_set_set s v x none vs
    · rw [wipe_set (vs := vs) (by rcases List.mem_cons.mp h with q | q; exact absurd q.symm e; exact q)]
section
variable {D : Wd} {G : Glb} {c : Cn} {X : Cx} {W : WX}
theorem RelS.wipe {H : Hp} {rho : List Addr} {M : Sto} {s : L2.St} {tau : Sig} (R : RelS D H rho M s tau) : ∀ vs : List Nat, RelS D H rho M (L2.wipe s vs) (wipeP tau vs)
  | [] => R
  | v :: vs => (R.wipe vs).unset v none
/-- a target's reading -/
def tgOf (D : Wd) (t : PTg) : TG := fun v s H Q => ∃ x tau M rho tau', RelS D H rho M s tau ∧ Rep D H rho x v ∧ asgT t x tau M = some tau' ∧
  ∀ s', RelS D H rho M s' tau' → (∀ vs : List Nat, (∀ i ∈ slotsT t, i ∈ vs) → L2.wipe s' vs = L2.wipe s vs) → Q s' H
def tgtsOk (c : Cn) (t : PTg) : Bool := match t with
  | .one i x _ => tgtOk c i x
  | .tup ts _ _ => ts.all fun t => tgtOk c t.1 t.2.1
def gsOf (D : Wd) (is : List Nat) : TGs := fun vs s H Q => ∃ xs tau M rho tau', RelS D H rho M s tau ∧ RepL D H rho xs vs ∧ setAll is xs tau = some tau' ∧
  ∀ s', RelS D H rho M s' tau' → (∀ ws : List Nat, (∀ i ∈ is, i ∈ ws) → L2.wipe s' ws = L2.wipe s ws) → Q s' H
theorem PGs.imp {e : List Expr} {t t' : TGs} (h : PGs X e t) (k : ∀ v s H Q, t' v s H Q → t v s H Q) : PGs X e t' := ⟨fun pins s σ H vs us Q I r q => h.run pins s σ H vs us Q I r (k _ _ _ _ q)⟩
theorem PG.imp {e : Expr} {t t' : TG} (h : PG X e t) (k : ∀ v s H Q, t' v s H Q → t v s H Q) : PG X e t' := ⟨fun pins s σ H v u Q I r q => h.run pins s σ H v u Q I r (k _ _ _ _ q)⟩
theorem sim_gs (C : COk D G c X W) : ∀ {ts : List (Nat × Str × Pos)}, (ts.all fun t => tgtOk c t.1 t.2.1) = true → PGs X (ts.map fun t => .Name t.2.1 t.2.2) (gsOf D (ts.map (·.1)))
  | [], _ => PGs.imp pgs_nil fun v s H Q ⟨xs, tau, M, rho, tau', rs, r, h, q⟩ => by
    cases xs with
    | nil => cases h; exact ⟨repL_nil.mp r, q s rs fun _ _ => rfl⟩
    | cons _ _ => cases h
  | t :: ts, h => by
    rw [List.all_cons, Bool.and_eq_true] at h
    obtain ⟨k1, k2, k3⟩ := C.tgt h.1
    refine PGs.imp (pgs_cons (pg_name C.nodup k1 k2 k3) (sim_gs C h.2) rfl) fun v s H Q ⟨xs, tau, M, rho, tau', rs, r, hs, q⟩ => ?_
    cases xs with
    | nil => cases hs
    | cons x xs =>
      obtain ⟨w, rest, rfl, r1, r2⟩ := repL_cons.mp r
      refine ⟨w, rest, rfl, xs, _, M, rho, tau', rs.set _ r1, r2, hs, fun s' rs' hw => q s' rs' fun ws hi => ?_⟩
      rw [hw ws fun i hi' => hi i (by rw [List.map_cons]; exact List.mem_cons_of_mem _ hi'), wipe_set (hi t.1 (by simp))]
theorem names_len : ∀ (env : Env) (ts : List (Nat × Str × Pos)), (assignEach (ts.map fun t => Expr.Name t.2.1 t.2.2) env).length = ts.length
  | _, [] => rfl
  | env, t :: ts => by
    show (assignEach (ts.map fun t => Expr.Name t.2.1 t.2.2) env).length + 1 = _
    rw [names_len env ts]; rfl
theorem names_star : ∀ (env : Env) (ts : List (Nat × Str × Pos)), (assignEach (ts.map fun t => Expr.Name t.2.1 t.2.2) env).findIdx? (·.1) = none
  | _, [] => rfl
  | env, t :: ts => by
    have h := names_star env ts
    show List.findIdx? (·.1) ((false, _) :: assignEach (ts.map fun t => Expr.Name t.2.1 t.2.2) env) = none
    rw [List.findIdx?_cons, h]
    rfl
theorem PG.or {e : Expr} {t t' : TG} (h : PG X e t) (h' : PG X e t') : PG X e (fun v s H Q => t v s H Q ∨ t' v s H Q) := ⟨fun pins s σ H v u Q I r q => by
  rcases q with q | q
  · exact h.run pins s σ H v u Q I r q
  · exact h'.run pins s σ H v u Q I r q⟩
theorem setAll_len : ∀ {is : List Nat} {xs : List PV} {tau tau' : Sig}, setAll is xs tau = some tau' → xs.length = is.length
  | [], [], _, _, _ => rfl
  | [], _ :: _, _, _, h => by cases h
  | _ :: _, [], _, _, h => by cases h
  | i :: is, x :: xs, tau, tau', h => by rw [List.length_cons, List.length_cons, setAll_len (is := is) h]
theorem sim_tg (C : COk D G c X W) {t : PTg} (h : tgtsOk c t = true) : PG X (toT t) (tgOf D t) := by
  cases t with
  | one i x p =>
    obtain ⟨k1, k2, k3⟩ := C.tgt h
    refine PG.imp (pg_name C.nodup k1 k2 k3) fun v s H Q ⟨y, tau, M, rho, tau', rs, r, ha, q⟩ => ?_
    cases ha
    exact q _ (rs.set i r) fun vs hv => wipe_set (hv i (by simp [slotsT]))
  | tup ts k p =>
    have hg := sim_gs C h
    have n1 := names_len X.env ts
    have n2 := names_star X.env ts
    refine PG.imp (PG.or (pg_tup (n := ts.length) C.calm hg n1 n2) (pg_lst (n := ts.length) C.calm hg n1 n2)) fun v s H Q ⟨y, tau, M, rho, tau', rs, r, ha, q⟩ => ?_
    simp only [asgT] at ha
    split at ha
    · rename_i xs hx
      have hl := setAll_len ha
      rw [List.length_map] at hl
      obtain ⟨a, vs, rfl, h1, h2⟩ := rs.mem.seq r hx
      rw [← C.kK] at h1
      rcases h1 with h1 | h1
      · exact .inr ⟨a, vs, rfl, h1, by rw [← h2.len]; exact hl, xs, tau, M, rho, tau', rs, h2, ha, q⟩
      · exact .inl ⟨a, vs, rfl, h1, by rw [← h2.len]; exact hl, xs, tau, M, rho, tau', rs, h2, ha, q⟩
    · cases ha

/-! ### walks -/
theorem wk_tup {H : Hp} {rho : List Addr} {xs : List PV} {a : Addr} {vs : List V} (hK : X.K = D.K) (h1 : SqT D.K H a vs) (h2 : RepL D H rho xs vs) : WkOk D H rho ⟨xs.length, fun i _ => some xs[i]?⟩ (Itt X.K a) := by
  intro i H1 rho1 M e s
  have k1 := e.sqT h1
  have k2 := h2.ext e
  rw [← hK] at k1
  show match some xs[i]? with | none => True | some none => _ | some (some x) => _
  cases q : xs[i]? with
  | none => exact ⟨vs, k1, by rw [← k2.len]; exact List.getElem?_eq_none_iff.mp q⟩
  | some x =>
    obtain ⟨v, hv, rv⟩ := k2.get q
    refine ⟨⟨vs, v, k1, hv⟩, fun w H' y => ?_⟩
    obtain ⟨rfl, y⟩ := y
    have := y vs k1
    rw [hv] at this; cases this
    exact ⟨Ext.refl, s, rv⟩
theorem wk_loc {H : Hp} {rho : List Addr} {n c : Nat} {a : Addr} (hK : X.K = D.K) (ha : rho[n]? = some a) : WkOk D H rho ⟨c, fun i M => (lst? M (.loc n)).map fun ys => ys[i]?⟩ (Itl X.K a) := by
  intro i H1 rho1 M e s
  show match (lst? M (.loc n)).map fun ys => ys[i]? with | none => True | some none => _ | some (some x) => _
  cases q : lst? M (.loc n) with
  | none => trivial
  | some ys =>
    obtain ⟨b, vs, eb, h1, h2⟩ := s.list (rep_loc.mpr ⟨a, rfl, e.loc _ _ ha⟩) q
    cases eb
    rw [← hK] at h1
    show match some ys[i]? with | none => True | some none => _ | some (some x) => _
    cases q2 : ys[i]? with
    | none => exact ⟨vs, h1, by rw [← h2.len]; exact List.getElem?_eq_none_iff.mp q2⟩
    | some x =>
      obtain ⟨v, hv, rv⟩ := h2.get q2
      refine ⟨⟨vs, v, h1, hv⟩, fun w H' y => ?_⟩
      obtain ⟨rfl, y⟩ := y
      have := y vs h1
      rw [hv] at this; cases this
      exact ⟨Ext.refl, s, rv⟩
theorem wk_str {H : Hp} {rho : List Addr} {z : List Nat} : WkOk D H rho ⟨z.length, fun i _ => some (z[i]?.map fun c => .str [c])⟩ (Its ⟨z.toArray⟩) := by
  intro i H1 rho1 M e s
  show match some (z[i]?.map fun c => PV.str [c]) with | none => True | some none => _ | some (some x) => _
  cases q : z[i]? with
  | none => exact (by simpa using q : (⟨z.toArray⟩ : Str).cps.size ≤ i)
  | some ch =>
    have hlt : i < z.length := (List.getElem?_eq_some_iff.mp q).1
    refine ⟨(by simpa using hlt : i < (⟨z.toArray⟩ : Str).cps.size), fun w H' y => ?_⟩
    obtain ⟨rfl, ch', y1, rfl⟩ := y
    have : z[i]? = some ch' := by simpa using y1
    rw [q] at this; cases this
    exact ⟨Ext.refl, s, rep_str.mpr rfl⟩
theorem wk_rng {H : Hp} {rho : List Addr} {lo hi : Int} : WkOk D H rho (rngW lo hi) (Itr lo (hi - lo).toNat) := by
  intro i H1 rho1 M e s
  unfold rngW
  show match some (if i < (hi - lo).toNat then some (PV.int (lo + i)) else none) with | none => True | some none => _ | some (some x) => _
  by_cases h : i < (hi - lo).toNat
  · rw [if_pos h]
    refine ⟨h, fun w H' y => ?_⟩
    obtain ⟨rfl, rfl⟩ := y
    exact ⟨Ext.refl, s, rep_int.mpr rfl⟩
  · rw [if_neg h]
    exact Nat.le_of_not_lt h
section
variable {f g : Sig → Sto → Res PV} {tg : Expr}
theorem sim_seq (hK : X.K = D.K) {e : Expr} (he : PE X e (teOf D W f)) : PI X tg e (tiOf D W fun tau M => (f tau M).bind fun x M => match seqW M x with | some w => .ok w M | none => .stuck) := by
  refine ⟨fun pins sh s H R I q => ?_⟩
  obtain ⟨tau, M, rho, rs, q⟩ := q
  have q' := OKG.bind (R := Rep D) (Q' := fun v H1 => ∃ x M1 rho1, StoOk D H1 rho1 M1 ∧ Rep D H1 rho1 x v ∧ OKG D (fun H1 rho1 w J => WkOk D H1 rho1 w J) H1 rho1 (match seqW M1 x with | some w => .ok w M1 | none => .stuck) R (WE W s)) q
    fun H1 rho1 x v M1 e1 s1 r1 k => ⟨x, M1, rho1, s1, r1, k⟩
  refine thn (he.run pins sh s H _ I ⟨tau, M, rho, rs, q'⟩) fun v s1 ⟨x, H1, I1, rv, px, M1, rho1, st, r1, k⟩ => ?_
  have new : FpOk X pins H1 s1.heap.objs.size := I1.fpOk (Nat.le_refl _) (I1.hok.fresh (Nat.le_refl _))
  have fp : ∀ b ∈ [s1.heap.objs.size], FpOk X pins H1 b := fun b hb => by
    have e : b = s1.heap.objs.size := by simpa using hb
    rw [e]; exact new
  cases px <;> simp only [seqW] at k <;> first | exact k.elim | skip
  · -- a text
    rename_i z
    rw [rep_str] at r1
    subst r1
    obtain ⟨t, rfl⟩ := rv
    have k' := OKG.ok (R := fun H1 rho1 w J => WkOk D H1 rho1 w J) (x := ⟨z.length, fun i _ => some (z[i]?.map fun c => .str [c])⟩) k st wk_str
    cases ha : (⟨z.toArray⟩ : Str).cps.all (· < 128)
    · refine wpAny_pyIter_wide ha (pi_one (tk := s1.toks) I1 _ (turn_str _ _ t "str_iterator" (.inr rfl)) ⟨_, Heap.get?_push_size _ rfl, rfl, rfl⟩ k')
    · refine wpAny_pyIter_ascii ha (pi_one (tk := s1.toks) I1 _ (turn_str _ _ t "str_ascii_iterator" (.inl rfl)) ⟨_, Heap.get?_push_size _ rfl, rfl, rfl⟩ k')
  · rename_i xs
    obtain ⟨a, vs, rfl, h1, h2⟩ := rep_tup.mp r1
    cases rv
    have h1' : SqT X.K H1 a vs := by rw [hK]; exact h1
    obtain ⟨its, rvs, p, hz⟩ := I1.tuple h1'
    refine wpAny_pyIter_tuple (show s1.heap.IsTuple a its.toArray from p) ⟨s1.heap.objs.size, [s1.heap.objs.size], _, Itt X.K a, H1, rfl, ?_, turn_tuple a _, ⟨_, Heap.get?_push_size _ rfl, rfl, rfl⟩, fp, k.ok st (wk_tup hK h1 h2)⟩
    exact I1.kept (t' := s1.toks) fun b o e => Heap.get?_push_of_some _ e
  · rename_i n
    obtain ⟨a, rfl, ha⟩ := rep_loc.mp r1
    cases rv
    split at k
    · rename_i w hw
      split at hw
      · rename_i xs hl
        cases hw
        obtain ⟨b, vs, eb, h1, h2⟩ := st.list (rep_loc.mpr ⟨a, rfl, ha⟩) hl
        cases eb
        have h1' : SqL X.K H1 a vs := by rw [hK]; exact h1
        obtain ⟨its, rvs, p, hz⟩ := I1.list h1'
        refine wpAny_pyIter_list p.isList ⟨s1.heap.objs.size, [s1.heap.objs.size], _, Itl X.K a, H1, rfl, ?_, turn_list a _, ⟨_, Heap.get?_push_size _ rfl, rfl, rfl⟩, fp, k.ok st (wk_loc hK ha)⟩
        exact I1.kept (t' := s1.toks) fun b o e => Heap.get?_push_of_some _ e
      · cases hw
    · exact k.elim
theorem small_of {i : Int} (h : small62 i = true) : -(2 ^ 62) ≤ i ∧ i < 2 ^ 62 := by
  unfold small62 at h
  simpa using h
theorem sim_rng1 (C : COk D G c X W) {e : PEx} {p p2 : Pos} (h1 : glOk c "range" = true) (h2 : ("range" : Str) ∈ G.bn) (he : PE X (toE e) (teOf D W f)) :
    PI X tg (.Call (.Name "range" p) [toE e] [] p2) (tiOf D W fun tau M => (f tau M).bind fun x M => match x with | .int j => if small62 j then .ok (rngW 0 j) M else .stuck | _ => .stuck) := by
  obtain ⟨g1, _, _⟩ := C.gl h1
  refine PI.imp (pi_range1 g1 (C.bn _ h2) (pa_cons he pa_nil (star_cons e _ _)) (star_cons e _ _)) fun s H Q ⟨tau, M, rho, rs, q⟩ => ⟨tau, M, rho, rs, q.bind fun H1 rho1 x v M1 e1 s1 r1 k => ?_⟩
  cases x <;> first | exact k.elim | skip
  rename_i j
  rw [rep_int] at r1
  subst r1
  by_cases hj : small62 j = true
  · have k : OKG D (fun H1 rho1 w J => WkOk D H1 rho1 w J) H1 rho1 (if small62 j = true then .ok (rngW 0 j) M1 else .stuck) Q (WE W s) := k
    rw [if_pos hj] at k
    obtain ⟨b1, b2⟩ := small_of hj
    refine ⟨j, rfl, b1, b2, ?_⟩
    have := k.ok s1 wk_rng
    rwa [Int.sub_zero] at this
  · have k : OKG D (fun H1 rho1 w J => WkOk D H1 rho1 w J) H1 rho1 (if small62 j = true then .ok (rngW 0 j) M1 else .stuck) Q (WE W s) := k
    rw [if_neg hj] at k
    exact k.elim
theorem sim_rng2 (C : COk D G c X W) {a b : PEx} {p p2 : Pos} (h1 : glOk c "range" = true) (h2 : ("range" : Str) ∈ G.bn) (ha : PE X (toE a) (teOf D W f)) (hb : PE X (toE b) (teOf D W g)) :
    PI X tg (.Call (.Name "range" p) [toE a, toE b] [] p2) (tiOf D W fun tau M => (f tau M).bind fun x M => (g tau M).bind fun y M => match x, y with
      | .int i, .int j => if small62 i && small62 j then .ok (rngW i j) M else .stuck
      | _, _ => .stuck) := by
  obtain ⟨g1, _, _⟩ := C.gl h1
  have hs : starEach [toE a, toE b] X.env = [(false, eval (toE a) X.env), (false, eval (toE b) X.env)] := by rw [star_cons, star_cons]; rfl
  refine PI.imp (pi_range2 g1 (C.bn _ h2) (pa_cons ha (pa_cons hb pa_nil (star_cons b _ _)) (star_cons a _ _)) hs (star_cons b _ _)) fun s H Q ⟨tau, M, rho, rs, q⟩ =>
    ⟨tau, M, rho, rs, q.bind fun H1 rho1 x v M1 e1 s1 r1 k => ⟨tau, M1, rho1, rs.ext e1 s1, k.bind fun H2 rho2 y u M2 e2 s2 r2 k2 => ?_⟩⟩
  cases x <;> cases y <;> first | exact k2.elim | skip
  rename_i i j
  rw [rep_int] at r1 r2
  subst r1 r2
  by_cases hj : (small62 i && small62 j) = true
  · have k2 : OKG D (fun H1 rho1 w J => WkOk D H1 rho1 w J) H2 rho2 (if (small62 i && small62 j) = true then .ok (rngW i j) M2 else .stuck) Q (WE W s) := k2
    rw [if_pos hj] at k2
    rw [Bool.and_eq_true] at hj
    obtain ⟨b1, b2⟩ := small_of hj.1
    obtain ⟨b3, b4⟩ := small_of hj.2
    exact ⟨i, j, rfl, ⟨b1, b2, b3, b4⟩, k2.ok s2 wk_rng⟩
  · have k2 : OKG D (fun H1 rho1 w J => WkOk D H1 rho1 w J) H2 rho2 (if (small62 i && small62 j) = true then .ok (rngW i j) M2 else .stuck) Q (WE W s) := k2
    rw [if_neg hj] at k2
    exact k2.elim
theorem sim_noI {e : Expr} : PI X tg e (tiOf D W fun _ _ => .stuck) := ⟨fun pins sh s H R I q => by obtain ⟨tau, M, rho, rs, q⟩ := q; exact q.elim⟩
end

/-! ### comprehensions -/
/-- the context of a block -/
theorem COk.blk (C : COk D G c X W) {sc : Scope} (hk : sc.kind = .function) (s : Shared) (H : Hp) (Ca : Addr) (cl : List (Str × Addr)) (fp : List Addr) :
    COk D G ⟨c.N, sc, c.lev⟩ (X.blk s H sc (compEnvC sc cl Ca X.env) fp) (fun _ _ _ _ => False) := by
  refine ⟨C.kK, C.nN, ScOk.relabel sc X.env, C.nd, C.calm, hk, C.gd, C.room, takes0, PassesOwn.never, fun x h => ?_, C.fok, C.bn, C.cst⟩
  rcases h with h | h
  · right
    rcases ScOk.relabel sc X.env x _ h with q | ⟨q, _⟩
    · exact q
    · cases q
  · left
    show (sc.names.lookup x == some .cell) = true
    have h' : sc.names.lookup x = some .cell := h
    rw [h']; rfl
theorem blk_ok (C : COk D G c X W) {sc : Scope} {own : Own} (h : blkC c.N c.sc sc own = true) : BlkOk X.N X.env.scope sc own := by
  have b := blkOk_by h
  rw [C.nN]
  refine ⟨b.kind, b.uniq, b.ix, fun y hy e => ?_, b.own⟩
  rcases b.free y hy e with q | q
  · rcases C.sc _ _ q with z | ⟨z, _⟩
    · exact .inl z
    · cases z
  · rcases C.sc _ _ q with z | ⟨_, z⟩
    · exact .inr z
    · exact .inl z
theorem OKG.nox {α β : Type} {R : Hp → List Addr → α → β → Prop} {H0 : Hp} {rho0 : List Addr} {r : Res α} {Q : β → Hp → Prop} {E E' : XK} (h : OKG D R H0 rho0 r.nox Q E) : OKG D R H0 rho0 r Q E' := by
  cases r with
  | ok x M => exact h
  | exc c v M => exact h.elim
  | stuck => exact h
theorem OKG.noxb {α β γ δ : Type} {R : Hp → List Addr → α → β → Prop} {R2 : Hp → List Addr → γ → δ → Prop} {H0 : Hp} {rho0 : List Addr} {r : Res α} {g : α → Sto → Res γ} {Q : δ → Hp → Prop} {Q' : β → Hp → Prop} {E E' : XK}
    (h : OKG D R2 H0 rho0 (r.nox.bind g) Q E) (k : ∀ (H : Hp) (rho : List Addr) (x : α) (v : β) (M : Sto), Ext H0 rho0 H rho → StoOk D H rho M → R H rho x v → OKG D R2 H rho (g x M) Q E → Q' v H) : OKG D R H0 rho0 r Q' E' := by
  cases r with
  | ok x M => exact fun H rho v e s q => k H rho x v M e s q (OKG.ext e h)
  | exc c y M => exact h.elim
  | stuck => exact h
theorem lc_run {t : PTg} {own : Own} {fi : Sig → Sto → Res Walk} {ft : Sig → Sto → Res Bool} {fe : Sig → Sto → Res PV} (hown : ∀ i ∈ slotsT t, i ∈ own.map (·.2)) :
    ∀ s H Q, teOf D W (fun tau M => (fi tau M).bind fun w M => lcGo M.length w.at_ (fun v M => asgT t v (wipeP tau (own.map (·.2))) M) (fun tau M => (ft tau M).nox) (fun tau M => (fe tau M).nox) w.cnt 0 (M ++ [.lst []])) s H Q →
      tLc (tiOf D W fi) (tgOf D t) (ttOf D (fun _ _ _ _ => False) ft) (teOf D (fun _ _ _ _ => False) fe) (own.map (·.2)) s H Q := by
  refine fun s H Q ⟨tau, M, rho, rs, q⟩ =>
    ⟨tau, M, rho, rs, q.bind fun H1 rho1 w J M1 e1 s1 wk k => fun Dp np => ?_⟩
  have ew : Ext H1 rho1 (upd H1 Dp (.lst [])) (rho1 ++ [Dp]) := Ext.newL np
  have sw := s1.newL (xs := []) np (repL_nil.mpr rfl)
  have rs0 : RelS D (upd H1 Dp (.lst [])) (rho1 ++ [Dp]) (M1 ++ [.lst []]) s tau := (rs.ext e1 s1).ext ew sw
  have atD : (rho1 ++ [Dp])[M1.length]? = some Dp := by rw [← s1.len]; simp
  refine ⟨fun i m H2 => ∃ rho2 M2, Ext (upd H1 Dp (.lst [])) (rho1 ++ [Dp]) H2 rho2 ∧ StoOk D H2 rho2 M2 ∧
    OKG D (Rep D) H2 rho2 (lcGo M1.length w.at_ (fun v M => asgT t v (wipeP tau (own.map (·.2))) M) (fun tau M => (ft tau M).nox) (fun tau M => (fe tau M).nox) m i M2) Q (WE W s), ⟨w.cnt, rho1 ++ [Dp], _, Ext.refl, sw, OKG.ext ew k⟩, fun i m H2 ⟨rho2, M2, e2, s2, k2⟩ => ?_⟩
  have wk2 := wk i H2 rho2 M2 (ew.trans e2) s2
  have isD : Rep D H2 rho2 (.loc M1.length) (.ref Dp) := rep_loc.mpr ⟨Dp, rfl, e2.loc _ _ atD⟩
  have rs2 : RelS D H2 rho2 M2 s tau := rs0.ext e2 s2
  cases m with
  | zero =>
    simp only [lcGo] at k2
    split at k2
    · rename_i hw
      rw [hw] at wk2
      exact .inl ⟨wk2, k2.ok s2 isD⟩
    · exact k2.elim
  | succ m =>
    simp only [lcGo] at k2
    split at k2
    · rename_i hw
      rw [hw] at wk2
      exact .inl ⟨wk2, k2.ok s2 isD⟩
    · rename_i x hw
      rw [hw] at wk2
      obtain ⟨go, yld⟩ := wk2
      refine .inr ⟨go, fun H3 => ∃ rho3 M3, Ext (upd H1 Dp (.lst [])) (rho1 ++ [Dp]) H3 rho3 ∧ StoOk D H3 rho3 M3 ∧
        OKG D (Rep D) H3 rho3 (lcGo M1.length w.at_ (fun v M => asgT t v (wipeP tau (own.map (·.2))) M) (fun tau M => (ft tau M).nox) (fun tau M => (fe tau M).nox) m (i + 1) M3) Q (WE W s), fun H3 hN => ⟨m, Nat.lt_succ_self m, hN⟩, fun v H3 y => ?_⟩
      obtain ⟨e3, s3, r3⟩ := yld v H3 y
      split at k2
      · rename_i tau2 ha
        have rs3 : RelS D H3 rho2 M2 (L2.wipe s (own.map (·.2))) (wipeP tau (own.map (·.2))) := (rs2.ext e3 s3).wipe _
        refine ⟨x, _, M2, rho2, tau2, rs3, r3, ha, fun s' rs' hw => ⟨?_, tau2, M2, rho2, rs', OKG.noxb (OKG.ext e3 k2) fun H4 rho4 b v4 M4 e4 s4 r4 k4 => ?_⟩⟩
        · have h0 := hw (own.map (·.2)) hown
          rw [h0]
          have wipe2 : ∀ vs : List Nat, L2.wipe (L2.wipe s vs) vs = L2.wipe s vs := fun vs => by
            have gen : ∀ us : List Nat, (∀ i ∈ us, i ∈ vs) → L2.wipe (L2.wipe s us) vs = L2.wipe s vs := fun us => by
              induction us with
              | nil => intro _; rfl
              | cons u us ih =>
                intro hu
                show L2.wipe ((L2.wipe s us).set u none) vs = _
                rw [wipe_set (hu u (by simp)), ih fun i hi => hu i (by simp [hi])]
            exact gen vs fun _ h => h
          exact wipe2 _
        · have r4 : v4 = b := r4
          subst r4
          cases v4 with
          | false => exact ⟨rho4, M4, (e2.trans e3).trans e4, s4, k4⟩
          | true =>
            refine ⟨tau2, M4, rho4, rs'.ext e4 s4, OKG.noxb k4 fun H5 rho5 px v5 M5 e5 s5 r5 k5 => ?_⟩
            split at k5
            · rename_i acc hm
              split at k5
              · rename_i hz
                obtain ⟨a, vs, ea, h1, h2⟩ := s5.lst hm
                have ea' := (((e2.trans e3).trans e4).trans e5).loc _ _ atD
                rw [ea'] at ea; cases ea
                obtain ⟨e6, s6⟩ := s5.wr hm ea' h1 (h2.append (RepL.one r5))
                exact ⟨vs, h1, by rw [line_eq, ← h2.len]; exact hz, rho5, _, (((e2.trans e3).trans e4).trans e5).trans e6, s6, OKG.ext e6 k5⟩
              · exact k5.elim
            · exact k5.elim
      · exact k2.elim
    · exact k2.elim
theorem sim_lc (C : COk D G c X W) {e iter : Expr} {t : PTg} {ifs : List Expr} {sc : Scope} {own : Own} {p : Pos} {fi : Sig → Sto → Res Walk} {ft : Sig → Sto → Res Bool} {fe : Sig → Sto → Res PV}
    (hi : PI X (toT t) iter (tiOf D W fi)) (hb : blkC c.N c.sc sc own = true) (htg : tgtsOk ⟨c.N, sc, c.lev⟩ t = true) (hown : ∀ i ∈ slotsT t, i ∈ own.map (·.2))
    (ht : ∀ X' W', COk D G ⟨c.N, sc, c.lev⟩ X' W' → PTs X' ifs (ttOf D W' ft)) (he : ∀ X' W', COk D G ⟨c.N, sc, c.lev⟩ X' W' → PE X' e (teOf D W' fe)) (hf : ∀ x, foldedSetIterable iter X.env x = pure x) :
    PE X (.ListComp e [⟨toT t, iter, ifs, 0⟩] sc p) (teOf D W fun tau M => (fi tau M).bind fun w M => lcGo M.length w.at_ (fun v M => asgT t v (wipeP tau (own.map (·.2))) M) (fun tau M => (ft tau M).nox) (fun tau M => (fe tau M).nox) w.cnt 0 (M ++ [.lst []])) := by
  have bk := blk_ok C hb
  have inner := fun s H Ca cl fp => C.blk bk.kind s H Ca cl fp
  exact PE.imp (pe_lc C.calm C.nodup hi bk (fun s H Ca cl fp => sim_tg (inner s H Ca cl fp) htg) (fun s H Ca cl fp => ht _ _ (inner s H Ca cl fp)) (fun s H Ca cl fp => he _ _ (inner s H Ca cl fp)) hf) (lc_run hown)
end
end SW

/-! Every expression does what it does. -/
namespace SW
open PySem PySem.Spec PyProof.Rows L2

def inBn (G : Glb) (x : Str) : Bool := decide (x ∈ G.bn)
def lenPs : PEs → Nat
  | .nil => 0
  | .cons _ es => lenPs es + 1
theorem lenPs_eq : ∀ es : PEs, (toL es).length = lenPs es
  | .nil => rfl
  | .cons e es => by show (toL es).length + 1 = _; rw [lenPs_eq es]; rfl
def isLc : PEx → Bool
  | .lc .. => true
  | _ => false
variable (G : Glb)
mutual
/-- what is asked of an expression's text -/
def wfE : PEx → Cn → Bool
  | .nam i x _, c => slotOk c i x
  | .glb g x _, c => glOk c x && (match G.cst[g]? with | some (y, _) => decide (y = x) | none => false)
  | .non .., _ => true
  | .bl .., _ => true
  | .int .., _ => true
  | .str .., _ => true
  | .tup es _ _, c => wfL es c
  | .lst es _, c => wfL es c
  | .bin _ a b _, c => wfE a c && wfE b c
  | .neg a _, c => wfE a c
  | .nt a _, c => wfE a c
  | .cmp _ a b _, c => wfE a c && wfE b c
  | .chn op op' a b d _, c => wfE a c && wfE b c && wfE d c
  | .and a es _, c => wfE a c && wfL es c
  | .or a es _, c => wfE a c && wfL es c
  | .ife t a b _, c => wfE t c && wfE a c && wfE b c
  | .sub a i _, c => wfE a c && wfE i c
  | .slc a l h _ _, c => wfE a c && wfE l c && wfE h c
  | .slcL a l _ _, c => wfE a c && wfE l c
  | .slcH a h _ _, c => wfE a c && wfE h c
  | .slcN a _ _, c => wfE a c
  | .call f x e es _ _, c => glOk c x && (match G.fns[f]? with | some fi => decide (fi.nm = x) && decide (fi.lev ≤ c.lev) | none => false) && wfE e c && wfL es c
  | .blt b e es _ _, c => glOk c b.nm && inBn G b.nm && wfE e c && wfL es c
  | .isi e t _ _ _, c => glOk c "isinstance" && inBn G "isinstance" && glOk c t.nm && inBn G t.nm && wfE e c
  | .meth _ o e es pa p, c => (pa.endLine == p.line) && decide (lenPs es < 20) && wfE o c && wfE e c && wfL es c
  | .meth0 _ o pa p, c => (pa.endLine == p.line) && wfE o c
  | .lc e t it ifs sc own _, c => wfI it c && blkC c.N c.sc sc own && tgtsOk ⟨c.N, sc, c.lev⟩ t && ((slotsT t).all fun i => (own.map (·.2)).contains i) && decide (lenPs ifs ≤ 1) && wfE e ⟨c.N, sc, c.lev⟩ && wfL ifs ⟨c.N, sc, c.lev⟩
def wfL : PEs → Cn → Bool
  | .nil, _ => true
  | .cons e es, c => wfE e c && wfL es c
def wfI : PIt → Cn → Bool
  | .seq e, c => wfE e c
  | .rng1 e _ _, c => glOk c "range" && inBn G "range" && wfE e c
  | .rng2 a b _ _, c => glOk c "range" && inBn G "range" && wfE a c && wfE b c
  | _, _ => true
end
variable {G}
theorem inBn_of {x : Str} (h : inBn G x = true) : x ∈ G.bn := of_decide_eq_true h
theorem PT.no {X : Cx} {e : Expr} {D : Wd} {W : WX} : PT X e (ttOf D W fun _ _ => .stuck) := ⟨fun pins sh s H Q I q => by obtain ⟨_, _, _, _, q⟩ := q; exact q.elim⟩
section
variable {D : Wd} {W : WX} {X : Cx} {e : Expr}
/-- both readings of an expression -/
abbrev Both (D : Wd) (X : Cx) (W : WX) (e : Expr) (f : Bool → Sig → Sto → Res PV) : Prop := PE X e (teOf D W (f false)) ∧ PT X e (ttOf D W fun tau M => (f true tau M).bool)
theorem units_ok {c : Cn} (C : COk D G c X W) : X.A.units + 64 < cLine := C.room.units
end
theorem lastMarks2 (op op' : CmpOp) (b d : PEx) : lastMarks [op, op'] [toE b, toE d] = false := by
  show lastMarks [op'] [toE d] = false
  exact mark_toE op' d
mutual
theorem simE {D : Wd} : (e : PEx) → (c : Cn) → (X : Cx) → (W : WX) → COk D G c X W → wfE G e c = true → Both D X W (toE e) (fun m => evE G m e)
  | .nam i x p, c, X, W, C, h => PE.fin C.kK (sim_nam C (p := p) h) (true_toE (e := .nam i x p) trivial)
  | .glb g x p, c, X, W, C, h => by
    rw [wfE, Bool.and_eq_true] at h
    exact PE.fin C.kK (sim_glb C (p := p) h.1 h.2) (true_toE (e := .glb g x p) trivial)
  | .non k p, c, X, W, C, h => PE.fin C.kK (sim_const (x := .non) pe_non fun _ _ => rep_non.mpr rfl) (true_toE (e := .non k p) trivial)
  | .bl b k p, c, X, W, C, h => PE.fin C.kK (sim_const (x := .bl b) pe_bl fun _ _ => rep_bl.mpr rfl) (true_toE (e := .bl b k p) trivial)
  | .int b k p, c, X, W, C, h => PE.fin C.kK (sim_const (x := .int b) pe_int fun _ _ => rep_int.mpr rfl) (true_toE (e := .int b k p) trivial)
  | .str b k p, c, X, W, C, h => PE.fin C.kK (sim_const (x := .str b.cps.toList) pe_str fun _ _ => rep_str.mpr (by simp)) (true_toE (e := .str b k p) trivial)
  | .tup es k p, c, X, W, C, h => by
    rw [wfE] at h
    exact PE.fin C.kK (sim_tup (simL es c X W C h)) (true_toE (e := .tup es k p) trivial)
  | .lst es p, c, X, W, C, h => by
    rw [wfE] at h
    exact PE.fin C.kK (sim_lst (simL es c X W C h)) (true_toE (e := .lst es p) trivial)
  | .bin op a b p, c, X, W, C, h => by
    rw [wfE, Bool.and_eq_true] at h
    exact PE.fin C.kK (sim_bin C.kK (simE a c X W C h.1).1 (simE b c X W C h.2).1) (true_toE (e := .bin op a b p) trivial)
  | .neg a p, c, X, W, C, h => by
    rw [wfE] at h
    exact PE.fin C.kK (sim_neg (simE a c X W C h).1) (true_toE (e := .neg a p) trivial)
  | .nt a p, c, X, W, C, h => by
    rw [wfE] at h
    have k := simE a c X W C h
    exact ⟨sim_not k.1, sim_notT k.2⟩
  | .cmp op a b p, c, X, W, C, h => by
    rw [wfE, Bool.and_eq_true] at h
    exact sim_cmp C.kK (units_ok C) (mark_toE op b) (simE a c X W C h.1).1 (simE b c X W C h.2).1
  | .chn op op' a b d p, c, X, W, C, h => by
    simp only [wfE, Bool.and_eq_true] at h
    exact sim_chn C.kK (units_ok C) (lastMarks2 op op' b d) (simE a c X W C h.1.1).1 (simE b c X W C h.1.2).1 (simE d c X W C h.2).1
  | .and a es p, c, X, W, C, h => by
    rw [wfE, Bool.and_eq_true] at h
    have k := simE a c X W C h.1
    exact ⟨simAnd es c X W C h.2 p k.1, (simAndT es c X W C h.2 p k.2).pt⟩
  | .or a es p, c, X, W, C, h => by
    rw [wfE, Bool.and_eq_true] at h
    have k := simE a c X W C h.1
    exact ⟨simOr es c X W C h.2 p k.1, (simOrT es c X W C h.2 p k.2).pt⟩
  | .ife t a b p, c, X, W, C, h => by
    simp only [wfE, Bool.and_eq_true] at h
    exact ⟨sim_ife (simE t c X W C h.1.1).2 (simE a c X W C h.1.2).1 (simE b c X W C h.2).1, PT.no⟩
  | .sub a i p, c, X, W, C, h => by
    rw [wfE, Bool.and_eq_true] at h
    exact PE.fin C.kK (sim_sub C.kK (plain_toE i) (simE a c X W C h.1).1 (simE i c X W C h.2).1) (true_toE (e := .sub a i p) trivial)
  | .slc a l u p2 p, c, X, W, C, h => by
    simp only [wfE, Bool.and_eq_true] at h
    exact PE.fin C.kK (sim_slc C.kK (simE a c X W C h.1.1).1 (simE l c X W C h.1.2).1 (simE u c X W C h.2).1) (true_toE (e := .slc a l u p2 p) trivial)
  | .slcL a l p2 p, c, X, W, C, h => by
    simp only [wfE, Bool.and_eq_true] at h
    exact PE.fin C.kK (sim_slcL C.kK (simE a c X W C h.1).1 (simE l c X W C h.2).1) (true_toE (e := .slcL a l p2 p) trivial)
  | .slcH a l p2 p, c, X, W, C, h => by
    simp only [wfE, Bool.and_eq_true] at h
    exact PE.fin C.kK (sim_slcH C.kK (simE a c X W C h.1).1 (simE l c X W C h.2).1) (true_toE (e := .slcH a l p2 p) trivial)
  | .slcN a p2 p, c, X, W, C, h => by
    rw [wfE] at h
    exact PE.fin C.kK (sim_slcN C.kK (simE a c X W C h).1) (true_toE (e := .slcN a p2 p) trivial)
  | .call f x e es p p2, c, X, W, C, h => by
    simp only [wfE, Bool.and_eq_true] at h
    obtain ⟨⟨⟨h1, h2⟩, h3⟩, h4⟩ := h
    cases ef : G.fns[f]? with
    | none => rw [ef] at h2; cases h2
    | some fi =>
      rw [ef] at h2
      simp only [Bool.and_eq_true, decide_eq_true_eq] at h2
      obtain ⟨rfl, hl⟩ := h2
      have k := sim_call C (List.mem_of_getElem? ef) hl (p := p) (p2 := p2) h1 (sim_cons (simE e c X W C h3).1 (simL es c X W C h4))
      have e1 : ∀ m, (fun tau M => evE G m (.call f fi.nm e es p p2) tau M) = fun tau M => fin m ((evE G false e tau M).bind fun x M => (evL G es tau M).bind fun xs M => if (x :: xs).length = fi.ps.length then fi.run (x :: xs) M else .stuck) := fun m => by
        funext tau M
        simp only [evE, ef]
      have k2 := PE.fin C.kK k (true_toE (e := .call f fi.nm e es p p2) trivial)
      refine ⟨?_, ?_⟩
      · have := k2.1; rw [← e1] at this; exact this
      · have := k2.2
        have e2 := e1 true
        show PT X _ (ttOf D W fun tau M => ((fun tau M => evE G true (.call f fi.nm e es p p2) tau M) tau M).bool)
        rw [e2]; exact this
  | .blt b e es p p2, c, X, W, C, h => by
    simp only [wfE, Bool.and_eq_true] at h
    obtain ⟨⟨⟨h1, h2⟩, h3⟩, h4⟩ := h
    exact PE.fin C.kK (sim_blt C h1 (inBn_of h2) (sim_cons (simE e c X W C h3).1 (simL es c X W C h4))) (true_toE (e := .blt b e es p p2) trivial)
  | .isi e t p pt p2, c, X, W, C, h => by
    simp only [wfE, Bool.and_eq_true] at h
    obtain ⟨⟨⟨⟨h1, h2⟩, h3⟩, h4⟩, h5⟩ := h
    exact PE.fin C.kK (sim_isi C h1 (inBn_of h2) h3 (inBn_of h4) (simE e c X W C h5).1) (true_toE (e := .isi e t p pt p2) trivial)
  | .meth m o e es pa p, c, X, W, C, h => by
    simp only [wfE, Bool.and_eq_true, decide_eq_true_eq] at h
    obtain ⟨⟨⟨⟨h1, h2⟩, h3⟩, h4⟩, h5⟩ := h
    exact PE.fin C.kK (sim_meth C h1 (by rw [lenPs_eq]; exact h2) (simE o c X W C h3).1 (sim_cons (simE e c X W C h4).1 (simL es c X W C h5))) (true_toE (e := .meth m o e es pa p) trivial)
  | .meth0 m o pa p, c, X, W, C, h => by
    simp only [wfE, Bool.and_eq_true] at h
    exact PE.fin C.kK (sim_meth0 C h.1 (simE o c X W C h.2).1) (true_toE (e := .meth0 m o pa p) trivial)
  | .lc e t it ifs sc own p, c, X, W, C, h => by
    simp only [wfE, Bool.and_eq_true, decide_eq_true_eq] at h
    obtain ⟨⟨⟨⟨⟨⟨h1, h2⟩, h3⟩, h4⟩, h5⟩, h6⟩, h7⟩ := h
    refine PE.fin C.kK (sim_lc C (simI it c X W C h1 (toT t)) h2 h3 (fun i hi => ?_) (fun X' W' C' => simTs ifs _ X' W' C' h7 h5) (fun X' W' C' => (simE e _ X' W' C' h6).1) (fold_toI it X.env)) (true_toE (e := .lc e t it ifs sc own p) trivial)
    have := List.all_eq_true.mp h4 i hi
    exact List.contains_iff_mem.mp this
theorem simL {D : Wd} : (es : PEs) → (c : Cn) → (X : Cx) → (W : WX) → COk D G c X W → wfL G es c = true → PA X (toL es) (taOf D W (evL G es))
  | .nil, c, X, W, C, h => sim_nil
  | .cons e es, c, X, W, C, h => by
    rw [wfL, Bool.and_eq_true] at h
    exact sim_cons (simE e c X W C h.1).1 (simL es c X W C h.2)
theorem simAnd {D : Wd} : (es : PEs) → (c : Cn) → (X : Cx) → (W : WX) → COk D G c X W → wfL G es c = true → (p : Pos) → {a : Expr} → {f : Sig → Sto → Res PV} → PE X a (teOf D W f) →
    PE X (.BoolOp .And (a :: toL es) p) (teOf D W fun tau M => (f tau M).bind fun x M => evAnd G false es x tau M)
  | .nil, c, X, W, C, h, p, a, f, ha => sim_and1 ha
  | .cons e es, c, X, W, C, h, p, a, f, ha => by
    rw [wfL, Bool.and_eq_true] at h
    exact sim_and2 ha (simAnd es c X W C h.2 p (simE e c X W C h.1).1)
theorem simOr {D : Wd} : (es : PEs) → (c : Cn) → (X : Cx) → (W : WX) → COk D G c X W → wfL G es c = true → (p : Pos) → {a : Expr} → {f : Sig → Sto → Res PV} → PE X a (teOf D W f) →
    PE X (.BoolOp .Or (a :: toL es) p) (teOf D W fun tau M => (f tau M).bind fun x M => evOr G false es x tau M)
  | .nil, c, X, W, C, h, p, a, f, ha => sim_or1 ha
  | .cons e es, c, X, W, C, h, p, a, f, ha => by
    rw [wfL, Bool.and_eq_true] at h
    exact sim_or2 ha (simOr es c X W C h.2 p (simE e c X W C h.1).1)
theorem simAndT {D : Wd} : (es : PEs) → (c : Cn) → (X : Cx) → (W : WX) → COk D G c X W → wfL G es c = true → (p : Pos) → {a : Expr} → {f : Sig → Sto → Res PV} → PT X a (ttOf D W fun tau M => (f tau M).bool) →
    PW X (.BoolOp .And (a :: toL es) p) (ttOf D W fun tau M => ((f tau M).bind fun x M => evAnd G true es x tau M).bool)
  | .nil, c, X, W, C, h, p, a, f, ha => sim_andT1 ha
  | .cons e es, c, X, W, C, h, p, a, f, ha => by
    rw [wfL, Bool.and_eq_true] at h
    exact sim_andT2 ha (simAndT es c X W C h.2 p (simE e c X W C h.1).2)
theorem simOrT {D : Wd} : (es : PEs) → (c : Cn) → (X : Cx) → (W : WX) → COk D G c X W → wfL G es c = true → (p : Pos) → {a : Expr} → {f : Sig → Sto → Res PV} → PT X a (ttOf D W fun tau M => (f tau M).bool) →
    PW X (.BoolOp .Or (a :: toL es) p) (ttOf D W fun tau M => ((f tau M).bind fun x M => evOr G true es x tau M).bool)
  | .nil, c, X, W, C, h, p, a, f, ha => sim_orT1 ha
  | .cons e es, c, X, W, C, h, p, a, f, ha => by
    rw [wfL, Bool.and_eq_true] at h
    exact sim_orT2 ha (simOrT es c X W C h.2 p (simE e c X W C h.1).2)
theorem simTs {D : Wd} : (es : PEs) → (c : Cn) → (X : Cx) → (W : WX) → COk D G c X W → wfL G es c = true → lenPs es ≤ 1 → PTs X (toL es) (ttOf D W (evTs G es))
  | .nil, c, X, W, C, h, hl => ⟨fun pins sh s H Q I q => pts_nil.run pins sh s H Q I (by
      obtain ⟨tau, M, rho, rs, q⟩ := q
      exact OKG.ok (R := fun _ _ (x : Bool) (v : Bool) => v = x) (x := true) (M := M) q rs.mem rfl)⟩
  | .cons e .nil, c, X, W, C, h, hl => by
    rw [wfL, Bool.and_eq_true] at h
    exact pts_one (simE e c X W C h.1).2
  | .cons e (.cons e' es), c, X, W, C, h, hl => by
    simp only [lenPs] at hl
    omega
theorem simI {D : Wd} : (it : PIt) → (c : Cn) → (X : Cx) → (W : WX) → COk D G c X W → wfI G it c = true → (tg : Expr) → PI X tg (toI it) (tiOf D W (evI G it))
  | .seq e, c, X, W, C, h, tg => by
    rw [wfI] at h
    exact sim_seq C.kK (simE e c X W C h).1
  | .rng1 e p p2, c, X, W, C, h, tg => by
    simp only [wfI, Bool.and_eq_true] at h
    exact sim_rng1 C h.1.1 (inBn_of h.1.2) (simE e c X W C h.2).1
  | .rng2 a b p p2, c, X, W, C, h, tg => by
    simp only [wfI, Bool.and_eq_true] at h
    exact sim_rng2 C h.1.1.1 (inBn_of h.1.1.2) (simE a c X W C h.1.2).1 (simE b c X W C h.2).1
  | .enum e p p2, c, X, W, C, h, tg => sim_noI
  | .zip a b p p2, c, X, W, C, h, tg => sim_noI
  | .rev e p p2, c, X, W, C, h, tg => sim_noI
end
end SW

/-! Statements, defs. -/
namespace SW
open PySem PySem.Spec PyProof.Rows L2

/-- a statement's answer makes the ends hold -/
def SOK (D : Wd) (W : WX) (E : Ends) (H0 : Hp) (rho0 : List Addr) : SR → Prop
  | .next tau M => ∀ (s : L2.St) (H : Hp) (rho : List Addr), Ext H0 rho0 H rho → RelS D H rho M s tau → E.nx s H
  | .ret x M => ∀ (H : Hp) (rho : List Addr) (v : V), Ext H0 rho0 H rho → StoOk D H rho M → Rep D H rho x v → E.rt v H
  | .exc c y tau M => ∀ (s : L2.St) (H : Hp) (rho : List Addr) (cls : Value) (d : Option Addr), Ext H0 rho0 H rho → RelS D H rho M s tau → ERep D H rho c y cls d → W cls d s H
  | .stuck => False
def tsOf (D : Wd) (W : WX) (f : Sig → Sto → SR) : TS := fun E s H => ∃ tau M rho, RelS D H rho M s tau ∧ SOK D W E H rho (f tau M)
section
variable {D : Wd} {W : WX} {E : Ends} {H0 H : Hp} {rho0 rho : List Addr}
theorem SOK.ext {r : SR} (e : Ext H0 rho0 H rho) (h : SOK D W E H0 rho0 r) : SOK D W E H rho r := by
  cases r with
  | next tau M => exact fun s H1 rho1 e1 q => h s H1 rho1 (e.trans e1) q
  | ret x M => exact fun H1 rho1 v e1 s q => h H1 rho1 v (e.trans e1) s q
  | exc c y tau M => exact fun s H1 rho1 cls d e1 q r => h s H1 rho1 cls d (e.trans e1) q r
  | stuck => exact h
theorem SOK.then {α β : Type} {R : Hp → List Addr → α → β → Prop} {r : Res α} {tau : Sig} {M0 : Sto} {s : L2.St} {g : α → Sto → SR} {Q : β → Hp → Prop} (rs : RelS D H0 rho0 M0 s tau) (h : SOK D W E H0 rho0 (r.then tau g))
    (k : ∀ (H : Hp) (rho : List Addr) (x : α) (v : β) (M : Sto), Ext H0 rho0 H rho → StoOk D H rho M → R H rho x v → SOK D W E H rho (g x M) → Q v H) : OKG D R H0 rho0 r Q (WE W s) := by
  cases r with
  | ok x M => exact fun H rho v e st q => k H rho x v M e st q (SOK.ext e h)
  | exc c y M => exact fun H rho cls d e st q => h s H rho cls d e (rs.ext e st) q
  | stuck => exact h
theorem SOK.bind {r : SR} {g : Sig → Sto → SR} {N : L2.St → Hp → Prop} {bk ct : L2.St → Hp → Prop} (h : SOK D W E H0 rho0 (r.bind g))
    (k : ∀ (s : L2.St) (H : Hp) (rho : List Addr) (tau : Sig) (M : Sto), Ext H0 rho0 H rho → RelS D H rho M s tau → SOK D W E H rho (g tau M) → N s H) : SOK D W { nx := N, rt := E.rt, bk := bk, ct := ct } H0 rho0 r := by
  cases r with
  | next tau M => exact fun s H rho e q => k s H rho tau M e q (SOK.ext e h)
  | ret x M => exact h
  | exc c y tau M => exact h
  | stuck => exact h
theorem SOK.next {s : L2.St} {tau : Sig} {M : Sto} (rs : RelS D H0 rho0 M s tau) (h : SOK D W E H0 rho0 (.next tau M)) : E.nx s H0 := h s H0 rho0 Ext.refl rs
end

section
variable {D : Wd} {G : Glb} {c : Cn} {X : Cx} {W : WX}
variable {e : Expr} {f g h : Sig → Sto → Res PV} {b b2 : Sig → Sto → SR}
theorem s_nil : L2.PSs X [] (tsOf D W fun tau M => .next tau M) := PSs.imp pss_nil fun E s H ⟨tau, M, rho, rs, q⟩ => SOK.next rs q
theorem s_cons {st : Stmt} {r : List Stmt} (h1 : PS X st (tsOf D W b)) (h2 : L2.PSs X r (tsOf D W b2)) : L2.PSs X (st :: r) (tsOf D W fun tau M => (b tau M).bind fun tau M => b2 tau M) :=
  PSs.imp (pss_cons h1 h2) fun E s H ⟨tau, M, rho, rs, q⟩ => ⟨tau, M, rho, rs, SOK.bind (g := fun tau M => b2 tau M) (N := tsOf D W b2 E) (bk := E.bk) (ct := E.ct) q fun s1 H1 rho1 tau1 M1 e1 rs1 q1 => ⟨tau1, M1, rho1, rs1, q1⟩⟩
theorem s_pass {p : Pos} : PS X (.Pass p) (tsOf D W fun tau M => .next tau M) := PS.imp ps_pass fun E s H ⟨tau, M, rho, rs, q⟩ => SOK.next rs q
theorem s_ret {p : Pos} (he : PE X e (teOf D W f)) : PS X (.Return (some e) p) (tsOf D W fun tau M => (f tau M).then tau fun v M => .ret v M) :=
  PS.imp (ps_ret he) fun E s H ⟨tau, M, rho, rs, q⟩ => ⟨tau, M, rho, rs, SOK.then rs q fun H1 rho1 x v M1 e1 s1 r1 q1 => q1 H1 rho1 v Ext.refl s1 r1⟩
theorem s_retN {p : Pos} : PS X (.Return none p) (tsOf D W fun _ M => .ret .non M) :=
  PS.imp ps_retN fun E s H ⟨tau, M, rho, rs, q⟩ => q H rho .non Ext.refl rs.mem (rep_non.mpr rfl)
theorem s_expr {p : Pos} (he : PE X e (teOf D W f)) (hs : swapsWith e none p.line X.env = pure false) : PS X (.Expr e p) (tsOf D W fun tau M => (f tau M).then tau fun _ M => .next tau M) :=
  PS.imp (ps_expr he hs) fun E s H ⟨tau, M, rho, rs, q⟩ => ⟨tau, M, rho, rs, SOK.then rs q fun H1 rho1 x v M1 e1 s1 r1 q1 => SOK.next (rs.ext e1 s1) q1⟩
theorem s_if {t : Expr} {ta tb : List Stmt} {k : Sig → Sto → Res Bool} {p : Pos} (ht : PT X t (ttOf D W k)) (ha : L2.PSs X ta (tsOf D W b)) (hb : L2.PSs X tb (tsOf D W b2)) :
    PS X (.If t ta tb p) (tsOf D W fun tau M => (k tau M).then tau fun k M => if k = true then b tau M else b2 tau M) :=
  PS.imp (ps_if ht ha hb) fun E s H ⟨tau, M, rho, rs, q⟩ => ⟨tau, M, rho, rs, SOK.then rs q fun H1 rho1 x v M1 e1 s1 r1 q1 => by
    have r1 : v = x := r1
    subst r1
    cases v with
    | true => exact ⟨tau, M1, rho1, rs.ext e1 s1, q1⟩
    | false => exact ⟨tau, M1, rho1, rs.ext e1 s1, q1⟩⟩
theorem asg_run {t : PTg} : ∀ E s H, tsOf D W (fun tau M => (f tau M).then tau fun v M => match asgT t v tau M with | some tau => .next tau M | none => .stuck) E s H → tAsg (teOf D W f) (tgOf D t) E s H := fun E s H ⟨tau, M, rho, rs, q⟩ =>
  ⟨tau, M, rho, rs, SOK.then rs q fun H1 rho1 x v M1 e1 s1 r1 q1 => by
    cases ha : asgT t x tau M1 with
    | none => rw [ha] at q1; exact q1.elim
    | some tau' =>
      rw [ha] at q1
      exact ⟨x, tau, M1, rho1, tau', rs.ext e1 s1, r1, ha, fun s' rs' _ => SOK.next rs' q1⟩⟩
/-- a name takes a value -/
theorem s_set (C : COk D G c X W) {i : Nat} {x : Str} {px p : Pos} (ht : tgtOk c i x = true) (he : PE X e (teOf D W f)) (hs : swapsWith e (some (.Name x px)) p.line X.env = pure false) :
    PS X (.Assign [.Name x px] e p) (tsOf D W fun tau M => (f tau M).then tau fun v M => match asgT (.one i x px) v tau M with | some tau => .next tau M | none => .stuck) := by
  obtain ⟨k1, k2, k3⟩ := C.tgt ht
  refine PS.imp (ps_set C.nodup k1 k2 he hs k3) fun E s H ⟨tau, M, rho, rs, q⟩ => ⟨tau, M, rho, rs, SOK.then rs q fun H1 rho1 x v M1 e1 s1 r1 q1 => ?_⟩
  exact SOK.next ((rs.ext e1 s1).set i r1) q1
/-- names take a tuple's items -/
theorem s_unp (C : COk D G c X W) {ts : List (Nat × Str × Pos)} {k : Nat} {px p : Pos} (ht : tgtsOk c (.tup ts k px) = true) (he : PE X e (teOf D W f)) (hs : ∀ t l env, swapsWith e (some t) l env = pure false ∨ ∃ x q, t = Expr.Name x q) (hw : ∀ es k2 p2, e ≠ .Tuple es k2 p2) :
    PS X (.Assign [toT (.tup ts k px)] e p) (tsOf D W fun tau M => (f tau M).then tau fun v M => match asgT (.tup ts k px) v tau M with | some tau => .next tau M | none => .stuck) := by
  refine PS.imp (ps_asg he (sim_tg C ht) ?_ ?_ rfl) asg_run
  · show swapsWith e (some (toT (.tup ts k px))) p.line X.env = pure false
    rcases hs (toT (.tup ts k px)) p.line X.env with q | ⟨x, q, z⟩
    · exact q
    · cases z
  · unfold swappedStores toT
    cases e <;> first | rfl | exact absurd rfl (hw _ _ _)
/-- o[i] takes a value -/
theorem s_setI (C : COk D G c X W) {o i : Expr} {pt p : Pos} (ho : PE X o (teOf D W g)) (hi : PE X i (teOf D W h)) (he : PE X e (teOf D W f)) (hs : swapsWith e (some (.Subscript o i pt)) p.line X.env = pure false)
    (ha : ∀ v, assign (.Subscript o i pt) X.env v = (do
      let ov ← holding [v] (eval o X.env)
      let iv ← holding [v, ov] (eval i X.env)
      standAt pt
      holding [v, ov, iv] (setItem ov iv v)
      release [v, ov, iv] [])) :
    PS X (.Assign [.Subscript o i pt] e p) (tsOf D W fun tau M => (f tau M).then tau fun v M => (g tau M).then tau fun x M => (h tau M).then tau fun y M => match opSet x y v M with | some M => .next tau M | none => .stuck) := by
  refine PS.imp (ps_asg he (pg_sub ho hi (opSet_ok C.kK) ha) hs rfl rfl) fun E s H ⟨tau, M, rho, rs, q⟩ => ⟨tau, M, rho, rs, SOK.then rs q fun H1 rho1 x v M1 e1 s1 r1 q1 =>
    ⟨tau, M1, rho1, rs.ext e1 s1, SOK.then (rs.ext e1 s1) q1 fun H2 rho2 y u M2 e2 s2 r2 q2 => ⟨tau, M2, rho2, (rs.ext e1 s1).ext e2 s2, SOK.then ((rs.ext e1 s1).ext e2 s2) q2 fun H3 rho3 z w M3 e3 s3 r3 q3 => ?_⟩⟩⟩
  cases ho : opSet y z x M3 with
  | none => rw [ho] at q3; exact q3.elim
  | some M4 =>
    rw [ho] at q3
    exact ⟨y, z, x, M3, rho3, s3, r2.ext e3, r3, (r1.ext e2).ext e3, M4, ho, fun H' rho' e4 s4 => SOK.next ((((rs.ext e1 s1).ext e2 s2).ext e3 s3).ext e4 s4) (SOK.ext e4 q3)⟩
/-! ### loops -/
theorem s_for (C : COk D G c X W) {t : PTg} {iter : Expr} {body : List Stmt} {fi : Sig → Sto → Res Walk} {p : Pos} (ht : tgtsOk c t = true) (hi : PI X (toT t) iter (tiOf D W fi)) (hb : L2.PSs X body (tsOf D W b)) (hf : ∀ x, foldedSetIterable iter X.env x = pure x) :
    PS X (.For (toT t) iter body [] p) (tsOf D W fun tau M => (fi tau M).then tau fun w M => forGo w.at_ (fun v tau M => asgT t v tau M) b w.cnt 0 tau M) := by
  refine PS.imp (ps_for C.po C.calm hi (sim_tg C ht) hb hf) fun E s H ⟨tau, M, rho, rs, q⟩ => ⟨tau, M, rho, rs, SOK.then rs q fun H1 rho1 w J M1 e1 s1 wk q1 => ?_⟩
  refine ⟨fun i m s2 H2 => ∃ tau2 M2 rho2, Ext H1 rho1 H2 rho2 ∧ RelS D H2 rho2 M2 s2 tau2 ∧ SOK D W E H2 rho2 (forGo w.at_ (fun v tau M => asgT t v tau M) b m i tau2 M2), ⟨w.cnt, tau, M1, rho1, Ext.refl, rs.ext e1 s1, q1⟩, fun i m s2 H2 ⟨tau2, M2, rho2, e2, rs2, k2⟩ => ?_⟩
  have wk2 := wk i H2 rho2 M2 e2 rs2.mem
  cases m with
  | zero =>
    simp only [forGo] at k2
    split at k2
    · rename_i hw
      rw [hw] at wk2
      exact .inl ⟨wk2, SOK.next rs2 k2⟩
    · exact k2.elim
  | succ m =>
    simp only [forGo] at k2
    split at k2
    · rename_i hw
      rw [hw] at wk2
      exact .inl ⟨wk2, SOK.next rs2 k2⟩
    · rename_i x hw
      rw [hw] at wk2
      obtain ⟨go, yld⟩ := wk2
      refine .inr ⟨go, fun s3 H3 => ∃ tau3 M3 rho3, Ext H1 rho1 H3 rho3 ∧ RelS D H3 rho3 M3 s3 tau3 ∧ SOK D W E H3 rho3 (forGo w.at_ (fun v tau M => asgT t v tau M) b m (i + 1) tau3 M3), fun s3 H3 hN => ⟨m, Nat.lt_succ_self m, hN⟩, fun v H3 y => ?_⟩
      obtain ⟨e3, s3, r3⟩ := yld v H3 y
      split at k2
      · rename_i tau3 ha
        refine ⟨x, tau2, M2, rho2, tau3, rs2.ext e3 s3, r3, ha, fun s' rs' _ => ⟨tau3, M2, rho2, rs', ?_⟩⟩
        exact SOK.bind (SOK.ext e3 k2) fun s4 H4 rho4 tau4 M4 e4 rs4 k4 => ⟨tau4, M4, rho4, (e2.trans e3).trans e4, rs4, k4⟩
      · exact k2.elim
    · exact k2.elim
theorem s_whl (C : COk D G c X W) {t : Expr} {body : List Stmt} {k : Sig → Sto → Res Bool} {p : Pos} (ht : PT X t (ttOf D W k)) (hb : L2.PSs X body (tsOf D W b)) :
    PS X (.While t body [] p) (tsOf D W fun tau M => whlGo k b FUEL tau M) := by
  refine PS.imp (ps_while C.po ht hb) fun E s H ⟨tau, M, rho, rs, q⟩ => ?_
  refine ⟨fun m s2 H2 => ∃ tau2 M2 rho2, RelS D H2 rho2 M2 s2 tau2 ∧ SOK D W E H2 rho2 (whlGo k b m tau2 M2), ⟨FUEL, tau, M, rho, rs, q⟩, fun m s2 H2 ⟨tau2, M2, rho2, rs2, k2⟩ => ?_⟩
  cases m with
  | zero => exact k2.elim
  | succ m =>
    simp only [whlGo] at k2
    refine ⟨tau2, M2, rho2, rs2, SOK.then rs2 k2 fun H3 rho3 x v M3 e3 s3 r3 q3 => ?_⟩
    have r3 : v = x := r3
    subst r3
    cases v with
    | false => exact SOK.next (rs2.ext e3 s3) q3
    | true =>
      refine ⟨fun s4 H4 => ∃ tau4 M4 rho4, RelS D H4 rho4 M4 s4 tau4 ∧ SOK D W E H4 rho4 (whlGo k b m tau4 M4), fun s4 H4 hN => ⟨m, Nat.lt_succ_self m, hN⟩, tau2, M3, rho3, rs2.ext e3 s3, ?_⟩
      exact SOK.bind q3 fun s4 H4 rho4 tau4 M4 e4 rs4 k4 => ⟨tau4, M4, rho4, rs4, k4⟩
/-- a name takes a new list -/
theorem s_setLc (C : COk D G c X W) {iter el : Expr} {t : PTg} {ifs : List Expr} {sc : Scope} {own : Own} {p : Pos} {fi : Sig → Sto → Res Walk} {ft : Sig → Sto → Res Bool} {fe : Sig → Sto → Res PV} {i : Nat} {x : Str} {px ps : Pos}
    (hx : tgtOk c i x = true) (hl : c.sc.names.lookup x = some .local) (hline : (px.line == p.line) = true) (hkind : X.env.scope.kind = .function) (hno : (sc.names.any fun (n, k) => n == x && (k == .local || k == .cell)) = false)
    (hi : PI X (toT t) iter (tiOf D W fi)) (hb : blkC c.N c.sc sc own = true) (htg : tgtsOk ⟨c.N, sc, c.lev⟩ t = true) (hown : ∀ i ∈ slotsT t, i ∈ own.map (·.2))
    (ht : ∀ X' W', COk D G ⟨c.N, sc, c.lev⟩ X' W' → PTs X' ifs (ttOf D W' ft)) (he : ∀ X' W', COk D G ⟨c.N, sc, c.lev⟩ X' W' → PE X' el (teOf D W' fe)) (hf : ∀ x, foldedSetIterable iter X.env x = pure x) :
    PS X (.Assign [.Name x px] (.ListComp el [⟨toT t, iter, ifs, 0⟩] sc p) ps) (tsOf D W fun tau M => ((fi tau M).bind fun w M => lcGo M.length w.at_ (fun v M => asgT t v (wipeP tau (own.map (·.2))) M) (fun tau M => (ft tau M).nox) (fun tau M => (fe tau M).nox) w.cnt 0 (M ++ [.lst []])).then tau
      fun v M => match asgT (.one i x px) v tau M with | some tau => .next tau M | none => .stuck) := by
  obtain ⟨k1, k2, k3⟩ := C.tgt hx
  have kl : X.env.scope.names.lookup x = some .local := by
    rcases C.sc x _ hl with q | ⟨q, _⟩
    · exact q
    · cases q
  have bk := blk_ok C hb
  have inner := fun s H Ca cl fp => C.blk bk.kind s H Ca cl fp
  have base := ps_setLc (i := i) (py := px) (spos := ps) C.calm C.nodup k1 kl (sw_true hkind kl hline hno) hi bk (fun s H Ca cl fp => sim_tg (inner s H Ca cl fp) htg) (fun s H Ca cl fp => ht _ _ (inner s H Ca cl fp)) (fun s H Ca cl fp => he _ _ (inner s H Ca cl fp)) hf
  refine PS.imp base fun E s H ⟨tau, M, rho, rs, q⟩ => ?_
  have lc := lc_run (D := D) (W := W) (t := t) (own := own) (fi := fi) (ft := ft) (fe := fe) hown s H (fun v H1 => gName i v s H1 E.nx) ⟨tau, M, rho, rs, SOK.then rs q fun H1 rho1 x v M1 e1 s1 r1 q1 => SOK.next ((rs.ext e1 s1).set i r1) q1⟩
  exact lc
end
end SW

/-! Every statement; every def; the law. -/
namespace SW
open PySem PySem.Spec PyProof.Rows L2

def isTup : PEx → Bool
  | .tup .. => true
  | _ => false
variable (G : Glb)
/-- what is asked of an assignment -/
def wfA (t : PTg) (e : PEx) (c : Cn) : Bool := tgtsOk c t && match t with
  | .one _ x px => (match e with
    | .lc _ _ _ _ sc _ p => decide (c.sc.names.lookup x = some .local) && (px.line == p.line) && !(sc.names.any fun (n, k) => n == x && (k == .local || k == .cell))
    | _ => true)
  | .tup _ _ _ => !isTup e && !isLc e
mutual
def wfS : PSt → Cn → Bool
  | .asg t e _, c => wfE G e c && wfA t e c
  | .setI o i e _ _, c => wfE G o c && wfE G i c && wfE G e c
  | .expr e _, c => wfE G e c && !isLc e
  | .ret e _, c => wfE G e c
  | .retN _, _ => true
  | .ife t a b _, c => wfE G t c && wfSs a c && wfSs b c
  | .for_ t it b _, c => tgtsOk c t && wfI G it c && wfSs b c
  | .whl t b _, c => wfE G t c && wfSs b c
  | .pass _, _ => true
def wfSs : PBl → Cn → Bool
  | .nil, _ => true
  | .cons s r, c => wfS s c && wfSs r c
end
variable {G}
theorem sw_no {e : PEx} (h : isLc e = false) (t : Option Expr) (l : Nat) (env : Env) : swapsWith (toE e) t l env = pure false := by
  cases e <;> first | rfl | cases h
theorem sw_sub (e : PEx) (o i : Expr) (pt : Pos) (l : Nat) (env : Env) : swapsWith (toE e) (some (.Subscript o i pt)) l env = pure false := by
  cases e <;> rfl
theorem asg_sub (o i : PEx) (pt : Pos) (env : Env) : ∀ v, assign (.Subscript (toE o) (toE i) pt) env v = (do
      let ov ← holding [v] (eval (toE o) env)
      let iv ← holding [v, ov] (eval (toE i) env)
      standAt pt
      holding [v, ov, iv] (setItem ov iv v)
      release [v, ov, iv] []) := by
  intro v
  cases i <;> rfl
section
variable {D : Wd}
theorem sim_asg {c : Cn} {X : Cx} {W : WX} (C : COk D G c X W) (t : PTg) (e : PEx) (p : Pos) (he : wfE G e c = true) (ha : wfA t e c = true) :
    PS X (.Assign [toT t] (toE e) p) (tsOf D W fun tau M => (evE G false e tau M).then tau fun v M => match asgT t v tau M with | some tau => .next tau M | none => .stuck) := by
  unfold wfA at ha
  rw [Bool.and_eq_true] at ha
  obtain ⟨h1, h2⟩ := ha
  cases t with
  | one i x px =>
    by_cases hl : isLc e = true
    · cases e <;> first | cases hl | skip
      rename_i el tt it ifs sc own pl
      simp only [Bool.and_eq_true, decide_eq_true_eq, Bool.not_eq_true'] at h2
      obtain ⟨⟨k1, k2⟩, k3⟩ := h2
      simp only [wfE, Bool.and_eq_true, decide_eq_true_eq] at he
      obtain ⟨⟨⟨⟨⟨⟨h3, h4⟩, h5⟩, h6⟩, h7⟩, h8⟩, h9⟩ := he
      exact s_setLc C h1 k1 k2 C.kind k3 (simI it c X W C h3 (toT tt)) h4 h5 (fun i hi => List.contains_iff_mem.mp (List.all_eq_true.mp h6 i hi)) (fun X' W' C' => simTs ifs _ X' W' C' h9 h7) (fun X' W' C' => (simE el _ X' W' C' h8).1) (fold_toI it X.env)
    · have hl : isLc e = false := by simpa using hl
      exact s_set C h1 (simE e c X W C he).1 (sw_no hl _ _ _)
  | tup ts k px =>
    simp only [Bool.and_eq_true, Bool.not_eq_true'] at h2
    refine s_unp C h1 (simE e c X W C he).1 (fun t l env => .inl (sw_no h2.2 _ _ _)) fun es k2 p2 => ?_
    have h3 := h2.1
    cases e <;> first | (intro z; cases z; done) | cases h3
mutual
theorem simS : (s : PSt) → (c : Cn) → (X : Cx) → (W : WX) → COk D G c X W → wfS G s c = true → PS X (toS s) (tsOf D W (evS G s))
  | .asg t e p, c, X, W, C, h => by
    rw [wfS, Bool.and_eq_true] at h
    exact sim_asg C t e p h.1 h.2
  | .setI o i e pt p, c, X, W, C, h => by
    simp only [wfS, Bool.and_eq_true] at h
    exact s_setI C (simE o c X W C h.1.1).1 (simE i c X W C h.1.2).1 (simE e c X W C h.2).1 (sw_sub e _ _ _ _ _) (asg_sub o i pt X.env)
  | .expr e p, c, X, W, C, h => by
    simp only [wfS, Bool.and_eq_true, Bool.not_eq_true'] at h
    exact s_expr (simE e c X W C h.1).1 (sw_no h.2 _ _ _)
  | .ret e p, c, X, W, C, h => by
    rw [wfS] at h
    exact s_ret (simE e c X W C h).1
  | .retN p, c, X, W, C, h => s_retN
  | .ife t a b p, c, X, W, C, h => by
    simp only [wfS, Bool.and_eq_true] at h
    exact s_if (simE t c X W C h.1.1).2 (simSs a c X W C h.1.2) (simSs b c X W C h.2)
  | .for_ t it b p, c, X, W, C, h => by
    simp only [wfS, Bool.and_eq_true] at h
    exact s_for C h.1.1 (simI it c X W C h.1.2 (toT t)) (simSs b c X W C h.2) (fold_toI it X.env)
  | .whl t b p, c, X, W, C, h => by
    simp only [wfS, Bool.and_eq_true] at h
    exact s_whl C (simE t c X W C h.1).2 (simSs b c X W C h.2)
  | .pass p, c, X, W, C, h => s_pass
theorem simSs : (s : PBl) → (c : Cn) → (X : Cx) → (W : WX) → COk D G c X W → wfSs G s c = true → L2.PSs X (toSs s) (tsOf D W (evSs G s))
  | .nil, c, X, W, C, h => s_nil
  | .cons s r, c, X, W, C, h => by
    rw [wfSs, Bool.and_eq_true] at h
    exact s_cons (simS s c X W C h.1) (simSs r c X W C h.2)
end

/-! ### defs -/
/-- a def's slots at its start -/
theorem start_rel {H : Hp} {rho : List Addr} {M : Sto} {n : Nat} {xs : List PV} {vs : List V} {N : List Str} (st : StoOk D H rho M) (r : RepL D H rho xs vs) :
    RelS D H rho M (L2.start N vs) (xs.map some ++ List.replicate (N.length - xs.length) none) := by
  have hl := r.len
  refine ⟨st, by unfold L2.start; simp [hl], fun i x h => ?_⟩
  by_cases hi : i < xs.length
  · rw [List.getElem?_append_left (by simpa using hi), List.getElem?_map] at h
    cases e : xs[i]? with
    | none => rw [e] at h; cases h
    | some y =>
      rw [e] at h
      cases h
      obtain ⟨v, hv, rv⟩ := r.get e
      refine ⟨v, ?_, rv⟩
      unfold L2.start
      rw [List.getElem?_append_left (by simpa [← hl] using hi), List.getElem?_map, hv]
      rfl
  · rw [List.getElem?_append_right (by simpa using hi), List.getElem?_replicate] at h
    split at h <;> cases h
/-- a def of the text: its slots, parameters, its body -/
structure FD where
  nm : Str
  N : List Str
  ps : List Str
  lev : Nat
  body : PBl
/-- the table entry of a def, over the defs before it -/
def FD.fi (d : FD) (G : Glb) : FI := ⟨d.nm, d.ps, d.lev, runF G d.N.length d.body⟩
section
variable {P : Program} {w : World} {mg : Str → Option Value} {base : Heap}
theorem SOK.run {E : Ends} {H0 : Hp} {rho0 : List Addr} {r : SR} {Q : VK} {K : XK}
    (h : OKG D (Rep D) H0 rho0 (match r with | .next _ M => .ok .non M | .ret v M => .ok v M | .exc c v _ M => .exc c v M | .stuck => .stuck) Q K) :
    SOK D (fun cls d _ H => K cls d H) { nx := fun _ H' => Q .non H', rt := Q } H0 rho0 r := by
  cases r with
  | next tau M => exact fun s H rho e rs => h H rho .non e rs.mem (rep_non.mpr rfl)
  | ret x M => exact h
  | exc c y tau M => exact fun s H rho cls d e rs er => h H rho cls d e rs.mem er
  | stuck => exact h
/-- a body's context -/
theorem cx_ok {N ps : List Str} {k : Nat} {qual : Str} {sc : Scope} {f : Addr} {cd : Value} {A : Around} {outer : List Env} {s : Shared} {H : Hp} {E : XK} (S : FnScope N ps sc) (hr : Room k (A.deeper (envOfC qual sc s.heap.objs.size f cd))) (hg : A.guards = some [])
    (hf : ∀ fi ∈ G.fns, fi.lev ≤ k → ∃ a fd, FOk D P w mg base fi a fd) (hb : ∀ x ∈ G.bn, mg x = none) (hc : ∀ p ∈ G.cst, ∃ u v, mg p.1 = some u ∧ RelV v u ∧ ∀ H rho, Rep D H rho p.2 v) :
    COk D G ⟨N, sc, k⟩ (cxOf (L2.CX P w) P w D.K mg base N qual sc f cd A outer s H E) (fun cls d _ H => E cls d H) :=
  ⟨rfl, rfl, ScOk.refl, S.nd, rfl, S.kind, hg, hr, takes_of rfl rfl rfl rfl, passes_of rfl, fun _ _ => .inl rfl, hf, hb, hc⟩
/-- a def keeps its promise -/
theorem fn_ok {x qual : Str} {params : Arguments} {bd : List Stmt} {sc : Scope} {dvs : List V} {kws : List (Str × V)} {f : Addr} {fd : FuncData} {d : FD} {k : Nat} (F : FunD D.K x qual params bd sc dvs kws f fd) (S : FnScope d.N d.ps sc) (hbody : bd = toSs d.body) (hlev : d.lev = k + 1)
    (hwf : wfSs G d.body ⟨d.N, sc, k⟩ = true) (hf : ∀ fi ∈ G.fns, fi.lev ≤ k → ∃ a fd, FOk D P w mg base fi a fd) (hb : ∀ x ∈ G.bn, mg x = none) (hc : ∀ p ∈ G.cst, ∃ u v, mg p.1 = some u ∧ RelV v u ∧ ∀ H rho, Rep D H rho p.2 v) :
    FnG P w D.K mg base d.lev f fd d.ps (spOf D (d.fi G)) := by
  obtain ⟨oc, od, dV, kV, doc, pm, an, cdv, ct, osl, rfl, look, code, _, _⟩ := F.ex
  rw [hlev]
  refine ⟨fun A outer s H args us vs Q E hr hg e0 hn hbind rv hsp => ?_⟩
  -- what stands in the heap
  have inK : D.K.In s.heap := e0.mod.kin.keeps fun a o q => (e0.bs a o q).1
  have noLim : s.heap.NoLimit := e0.mod.nolimit.keeps fun a o q => (e0.bs a o q).1
  have stores : ∀ y ∈ d.ps.zip us, sc.names.lookup y.1 = some .local ∨ (sc.names.lookup y.1 = some .cell ∧ ((cellsFrom (s.heap.objs.size + 1) sc.names []).lookup y.1).isSome = true) := by
    rintro ⟨nm, vv⟩ hy
    have hm : nm ∈ d.ps := (List.of_mem_zip hy).1
    exact (S.par nm hm).elim Or.inl fun q => Or.inr ⟨q, PySem.W.cellsFrom_some _ _ _ (Or.inl q)⟩
  refine codeAny_call_function hr.depth (inK f _ look) rfl S.co S.gen rfl (PySem.W.codeRec_of inK code) (hbind _ _ _ _ ?_)
  refine wpAny_newFunctionEnv_cells S.kind stores fun env he s1 entered => ?_
  subst he
  refine ⟨noLim.keeps entered.toInCall.keep, codeAny_func ?_⟩
  have I0 : Inv (cxOf (L2.CX P w) P w D.K mg base d.N qual sc f cdv A outer s H E) [] (L2.start d.N vs) H s1 := inv_start S hr.hd e0 hn rv entered
  have body := simSs d.body _ (cxOf (L2.CX P w) P w D.K mg base d.N qual sc f cdv A outer s H E) (fun cls d _ H => E cls d H) (cx_ok S (hr.deeper _) hg hf hb hc) hwf
  obtain ⟨xs, M, rho, st0, rx, hx, hq⟩ := hsp
  have start0 : tsOf D (fun cls d _ H => E cls d H) (evSs G d.body) { nx := fun _ H' => Q .non H', rt := Q } (L2.start d.N vs) H := ⟨_, M, rho, start_rel (n := 0) st0 rx, SOK.run (E := { nx := fun _ H' => Q .non H', rt := Q }) hq⟩
  have goal_ := body.run [] s1 (L2.start d.N vs) H _ I0 start0
  rw [← hbody] at goal_
  refine wpAny_mono goal_ (fun fl s' done => ?_) fun _ _ z => z
  match fl, done with
  | .ret u, ⟨v, sg, H', J, rv', q⟩ => exact ⟨v, H', J.os, J.bare, J.base, J.hok, rv', q⟩
  | .next, ⟨sg, H', J, q⟩ => exact ⟨V.non, H', J.os, J.bare, J.base, J.hok, rfl, q⟩
  | .brk, ⟨_, _, _, q⟩ => exact False.elim q
  | .cont, ⟨_, _, _, q⟩ => exact False.elim q
end
end
end SW

/-! The table of a text's defs; the law. -/
namespace SW
open PySem PySem.Spec PyProof.Rows L2

def grow (G : Glb) (d : FD) : Glb := { G with fns := G.fns ++ [d.fi G] }
abbrev TRow := FD × He.DefD
def scopeB (N ps : List Str) (sc : Scope) : Bool :=
  decide (sc.kind = .function) && decide (sc.isCoroutine = false) && decide (sc.isGenerator = false) && decide N.Nodup && decide (N.take ps.length = ps) &&
    (ps.all fun x => decide (sc.names.lookup x = some .local) || decide (sc.names.lookup x = some .cell)) && (sc.names.all fun y => decide (y.2 ≠ .free))
theorem scope_of {N ps : List Str} {sc : Scope} (h : scopeB N ps sc = true) : FnScope N ps sc := by
  unfold scopeB at h
  simp only [Bool.and_eq_true, decide_eq_true_eq, List.all_eq_true, Bool.or_eq_true] at h
  obtain ⟨⟨⟨⟨⟨⟨h1, h2⟩, h3⟩, h4⟩, h5⟩, h6⟩, h7⟩ := h
  exact ⟨h1, h2, h3, h4, h5, h6, h7⟩
/-- what is shown of each def -/
structure DefOk (fa : List He.Fa) (fn : List He.DefD) (G : Glb) (r : TRow) : Prop where
  sc : scopeB r.1.N r.1.ps r.2.scope = true
  body : r.2.body = toSs r.1.body
  wf : wfSs G r.1.body ⟨r.1.N, r.2.scope, r.1.lev - 1⟩ = true
  lev : 1 ≤ r.1.lev
  bd : ∀ (kV doc pm : Value) (an : Option Addr) (cdv ct : Value) (us : List Value), us.length = r.1.ps.length → bindArgs (PySem.W.fnOf r.2.name r.2.qual r.2.params r.2.body r.2.scope .none kV doc pm an cdv ct) ⟨us, []⟩ = pure (r.1.ps.zip us)
  at_ : r.2.at_ = (r.1.nm, none)
  dfl : r.2.dfl = []
  mem : r.2 ∈ fn
  glo : He.Fa.glo r.1.nm ∈ fa
inductive Chain (fa : List He.Fa) (fn : List He.DefD) : Glb → List TRow → Prop
  | nil {G : Glb} : Chain fa fn G []
  | cons {G : Glb} {r : TRow} {rs : List TRow} : DefOk fa fn G r → Chain fa fn (grow G r.1) rs → Chain fa fn G (r :: rs)
def whole (G : Glb) (rs : List TRow) : Glb := rs.foldl (fun G r => grow G r.1) G
section
variable {fa : List He.Fa} {fn : List He.DefD} {D : Wd} {P : Program} {w : World} {mg : Str → Option Value} {base : Heap}
theorem row_ok {G : Glb} {r : TRow} (ok : DefOk fa fn G r) (c : He.SaysD fa fn D.K) (X : D.K.In base) (N : base.Ns mainGlobals mg) (hG : ∀ fi ∈ G.fns, ∃ a fd, FOk D P w mg base fi a fd) (hb : ∀ x ∈ G.bn, mg x = none)
    (hc : ∀ p ∈ G.cst, ∃ u v, mg p.1 = some u ∧ RelV v u ∧ ∀ H rho, Rep D H rho p.2 v) : ∃ a fd, FOk D P w mg base (r.1.fi G) a fd ∧ ∀ (s : Shared) (us : List Value), us.length = r.1.ps.length → BindsTo s fd ⟨us, []⟩ (r.1.ps.zip us) := by
  obtain ⟨fd, F⟩ := c.defs ok.mem
  have dv : r.2.dvs D.K = [] := by unfold He.DefD.dvs; rw [ok.dfl]; rfl
  rw [dv, ok.at_] at F
  have at_ : He.fAd D.K (r.1.nm, none) = He.ga D.K r.1.nm := rfl
  rw [at_] at F
  have gl := He.glo_ok X N (c.facts ok.glo)
  exact ⟨He.ga D.K r.1.nm, fd, ⟨gl, F.kp, F.bindsN ok.bd, fn_ok F (scope_of ok.sc) ok.body (k := r.1.lev - 1) (by have := ok.lev; omega) ok.wf (fun fi hfi _ => hG fi hfi) hb hc⟩, F.bindsA ok.bd⟩
theorem grow_bn (G : Glb) (d : FD) : (grow G d).bn = G.bn := rfl
theorem grow_cst (G : Glb) (d : FD) : (grow G d).cst = G.cst := rfl
/-- all defs, and the last one -/
theorem chain_ok (c : He.SaysD fa fn D.K) (X : D.K.In base) (N : base.Ns mainGlobals mg) : ∀ {G : Glb} {rs : List TRow}, Chain fa fn G rs → (∀ fi ∈ G.fns, ∃ a fd, FOk D P w mg base fi a fd) → (∀ x ∈ G.bn, mg x = none) →
    (∀ p ∈ G.cst, ∃ u v, mg p.1 = some u ∧ RelV v u ∧ ∀ H rho, Rep D H rho p.2 v) → ∀ (init : List TRow) (r : TRow), rs = init ++ [r] →
    ∃ a fd, FOk D P w mg base (r.1.fi (whole G init)) a fd ∧ ∀ (s : Shared) (us : List Value), us.length = r.1.ps.length → BindsTo s fd ⟨us, []⟩ (r.1.ps.zip us)
  | G, _, .nil, _, _, _, init, r, e => by cases init <;> cases e
  | G, _, .cons (r := r0) (rs := rs) ok ch, hG, hb, hc, init, r, e => by
    obtain ⟨a, fd, F, B⟩ := row_ok (P := P) (w := w) ok c X N hG hb hc
    cases init with
    | nil =>
      rw [List.nil_append] at e
      obtain ⟨rfl, rfl⟩ := List.cons.inj e
      exact ⟨a, fd, F, B⟩
    | cons i init =>
      obtain ⟨rfl, e2⟩ := List.cons.inj e
      refine chain_ok c X N ch (fun fi hfi => ?_) hb hc init r e2
      rcases List.mem_append.mp hfi with q | q
      · exact hG fi q
      · rw [List.mem_singleton.mp q]
        exact ⟨a, fd, F⟩
end

/-- nothing of the top binds these -/
theorem free_all {fa : List He.Fa} {fn : List He.DefD} {K : PySem.W.Frag} {h : Heap} {mg : Str → Option Value} (c : He.SaysD fa fn K) (X : K.In h) (N : h.Ns mainGlobals mg) {bn : List Str} (hf : ∀ x ∈ bn, He.Fa.free x ∈ fa) : ∀ x ∈ bn, mg x = none :=
  fun x hx => He.free_ok X N (c.facts (hf x hx))

theorem ints_lie {D : Wd} {H : Hp} {rho : List Addr} : ∀ ns : List Int, RepL D H rho (ns.map PV.int) (ns.map V.int)
  | [] => repL_nil.mpr rfl
  | z :: zs => repL_cons.mpr ⟨.int z, zs.map V.int, rfl, rep_int.mpr rfl, ints_lie zs⟩
/-- THE END: the law's run -/
theorem law_end {l : PySem.W.OpenLaw} {n m k : Nat} {q : Program} {loose : List Str} {XP : (Str → Option Value) → Heap → Prop} {d : DefRec} {fa : List He.Fa} {fn : List He.DefD} {x : Str} {G : Glb} {init : List TRow} {r : TRow}
    (hn : l.most = some n) (hz : n ≤ sizeLine) (hdf : d.params.defaults = []) (hk : Room k callerA) (hr : r.1.lev = k) (hps : r.1.ps = [x]) (hnm : d.name = r.1.nm) (hG : G.fns = []) (ch : Chain fa fn G (init ++ [r]))
    (hbn : ∀ x ∈ G.bn, He.Fa.free x ∈ fa) (hcst : ∀ (K : PySem.W.Frag) (h : Heap) (mg : Str → Option Value), K.In h → h.Ns mainGlobals mg → He.SaysD fa fn K → ∀ p ∈ G.cst, ∃ u v, mg p.1 = some u ∧ RelV v u ∧ ∀ H rho, Rep ⟨K, fun _ => 0⟩ H rho p.2 v)
    (sim : ∀ ns : List Int, ns.length ≤ n → ∃ M, (r.1.fi (whole G init)).run [.loc 0] [.frz (ns.map PV.int)] = .ok (.bl true) M) :
    PySem.W.WalkO q loose XP (He.hookD m fa fn).says l.row.toRowW d [] (fun f vs => PySem.call f vs) := by
  refine Att.attach_call hn hdf fun w s₀ s1 mg mb f o pm cd doc a vs ns Gr Y ho hd hcd hmg script hints len gens => ?_
  obtain ⟨K, inK, says⟩ := Y
  have room : ns.length ≤ sizeLine := Nat.le_trans len hz
  have nsG := Gr.T.g
  have nsB := Gr.T.b
  have vals := vals_ints hints
  have vlen := hints.length
  -- the law, over a heap H that knows of the script alone
  have core : ∀ H : Hp, (∀ b, H b ≠ none → b = a ∧ K.lookup a = none) → FrzL ⟨K, fun _ => 0⟩ H a (ns.map V.int) → HOk l.prog w H s1.heap → (∀ b o, s1.heap.get? b = some o → H b ≠ none → ∃ ob u, H b = some (.frz ob u)) →
      codeAny (model l.prog w) callerA (.call (.ref f) ⟨[.ref a], []⟩) (fun res s' => res = .ok (.ret (.bool true)) ∧ OldK s1.heap s'.heap ∧ s'.os = s1.os ∧ AllBare s'.gens) s1 := by
    intro H only fz hok locked
    have under : ∀ {b : Addr} {ob : Obj}, s1.heap.get? b = some ob → H b = none → (hidT s1.heap H).get? b = some ob := fun e z => hidT_get e z
    have isA : ∀ {b : Addr} {ob : Obj} {es : Array DictEntry} {ep : Nat}, s1.heap.get? b = some ob → ob.data = .dict es ep → H b = none := fun {b ob es ep} e dd => by
      by_cases z : H b = none
      · exact z
      · obtain ⟨rfl, _⟩ := only b z
        rw [script] at e
        cases e
        cases dd
    have ns_ : ∀ {b : Addr} {mm : Str → Option Value}, s1.heap.Ns b mm → (hidT s1.heap H).Ns b mm := fun {b mm} hh => by
      obtain ⟨ob, es, ep, e, dd, rest⟩ := hh
      exact ⟨ob, es, ep, under e (isA e dd), dd, rest⟩
    have baseK : K.In (hidT s1.heap H) := fun b ob e => under (inK b ob e) (by
      by_cases z : H b = none
      · exact z
      · obtain ⟨rfl, kn⟩ := only b z
        rw [kn] at e
        cases e)
    have lim : (hidT s1.heap H).NoLimit := by
      obtain ⟨mc, l1, l2⟩ := Gr.T.nolimit
      exact ⟨mc, ns_ l1, l2⟩
    have md : Mod K mg (hidT s1.heap H) := ⟨baseK, ns_ nsG, ⟨mb, ns_ nsB, Gr.T.builtins⟩, lim⟩
    have e0 : Env0 l.prog w K mg (hidT s1.heap H) callerA [] s1 H :=
      { frames := rfl, mod := md, bs := fun b ob e => of_hidT e, bsz := Nat.le_of_eq (hidT_size _ _), funs := trivial, frf := fun b z => (List.not_mem_nil z).elim, hok := hok, bare := .of_eq gens }
    obtain ⟨fA, fd, F, B⟩ := chain_ok (D := ⟨K, fun _ => 0⟩) (P := l.prog) (w := w) says baseK (ns_ nsG) ch (fun fi h => by rw [hG] at h; cases h) (free_all says baseK (ns_ nsG) hbn) (hcst K _ mg baseK (ns_ nsG) says) init r rfl
    have fAe : fA = f := by
      have h1 := F.at_
      have h2 : mg r.1.nm = some (.ref f) := by rw [← hnm]; exact hmg
      have h3 : mg r.1.nm = some (.ref fA) := h1
      rw [h2] at h3
      cases h3
      rfl
    subst fAe
    have bind := B s1 [.ref a] (by rw [hps]; rfl)
    obtain ⟨M', runs⟩ := sim ns len
    have st : StoOk ⟨K, fun _ => 0⟩ H [a] [.frz (ns.map PV.int)] := by
      refine ⟨rfl, fun i ob e => ?_, fun i j ob ob' b e _ mu _ _ _ => ?_⟩
      · have hi : i = 0 := by
          rcases i with _ | i
          · rfl
          · simp at e
        subst hi
        cases e
        exact ⟨a, rfl, _, fz, ints_lie ns⟩
      · have hi : i = 0 := by
          rcases i with _ | i
          · rfl
          · simp at e
        subst hi
        cases e
        cases mu
    have sp : spOf ⟨K, fun _ => 0⟩ (r.1.fi (whole G init)) [V.ref a] H (fun v _ => v = .bl true) (fun _ _ _ => False) := by
      refine ⟨[.loc 0], _, [a], st, RepL.one (rep_loc.mpr ⟨a, rfl, rfl⟩), by show 1 = r.1.ps.length; rw [hps]; rfl, ?_⟩
      rw [runs]
      exact fun H1 rho1 v _ _ rv => rep_bl.mp rv
    have go := F.fn.run callerA [] s1 H ⟨[.ref a], []⟩ [.ref a] [V.ref a] _ _ (by show Room r.1.lev callerA; rw [hr]; exact hk) rfl e0 (by show 1 = r.1.ps.length; rw [hps]; rfl) bind (.cons rfl .nil) sp
    refine codeAny_mono go fun res s' fin_ => ?_
    match res, fin_ with
    | .error e, ⟨_, _, _, _, _, _, _, _, _, _, _, _, z⟩ => exact z.elim
    | .ok .next, z => exact False.elim z
    | .ok .brk, z => exact False.elim z
    | .ok .cont, z => exact False.elim z
    | .ok (.ret u), ⟨v, H1, os, bare, un, hok1, rv, z⟩ =>
      subst z
      have ru : u = Value.bool true := rv
      subst ru
      refine ⟨rfl, OldK.of_keep fun b ob e => ?_, os, bare⟩
      by_cases z : H b = none
      · exact un.keep b ob e z List.not_mem_nil List.not_mem_nil
      · obtain ⟨ob', u, zz⟩ := locked b ob e z
        have z2 := un.frzs b ob' u zz
        have o1 : ObjOk l.prog w H s1.heap b (.frz ob' u) := hok b _ zz
        have o2 : ObjOk l.prog w H1 s'.heap b (.frz ob' u) := hok1 b _ z2
        obtain ⟨q1, _⟩ := o1
        obtain ⟨q2, _⟩ := o2
        rw [e] at q1
        cases q1
        exact q2
  by_cases known : K.lookup a = none
  · -- the script is not of the written part: it is locked
    have at_ : ∀ b, (if b = a then some (HO.frz { cls := .type "list", data := .seq vs.toArray } (.lst (ns.map V.int))) else none) ≠ none → b = a := fun b z => by
      by_cases hb : b = a
      · exact hb
      · rw [if_neg hb] at z; exact absurd rfl z
    refine core (fun b => if b = a then some (HO.frz { cls := .type "list", data := .seq vs.toArray } (.lst (ns.map V.int))) else none) (fun b z => ⟨at_ b z, known⟩) (.inl ⟨_, if_pos rfl⟩) (fun b u z => ?_) (fun b ob _ z => ⟨_, _, if_pos (at_ b z)⟩)
    have hb : b = a := at_ b (fun w => by have w' := z.symm.trans w; cases w')
    have z' := (if_pos hb).symm.trans z
    cases z'
    subst hb
    exact ⟨script, by rw [List.length_map]; exact room, vs, _, vals, script⟩
  · cases kn : K.lookup a with
    | none => exact absurd kn known
    | some ob =>
      have e := inK a ob kn
      rw [script] at e
      cases e
      refine core (fun _ => none) (fun b z => absurd rfl z) (.inr ⟨_, vs.toArray, _, kn, rfl, rfl, rfl, ?_, ?_⟩) (fun b u z => nomatch z) (fun b ob _ z => absurd rfl z)
      · rw [List.size_toArray, vlen]; exact room
      · simpa using vals
end SW

/-! Plain weakest preconditions of the interpreter. -/
namespace SW
open PySem PySem.Spec PyProof.Rows L2

/-- an argument that hangs on a: simp leaves a alone -/
inductive Nix {α : Type} (a : α) : Type where
  | mk
def pwR {α : Type} (r : Res α) (Q : α → Sto → Prop) (_ : Nix Q := .mk) : Prop := match r with
  | .ok a M => Q a M
  | _ => False
def pwS (r : SR) (N : Sig → Sto → Prop) (R : PV → Sto → Prop) (_ : Nix N := .mk) (_ : Nix R := .mk) : Prop := match r with
  | .next t M => N t M
  | .ret v M => R v M
  | _ => False
section
variable {α β : Type} {Q : α → Sto → Prop} {N : Sig → Sto → Prop} {R : PV → Sto → Prop}
@[simp] theorem pwR_ok (a : α) (M : Sto) : pwR (.ok a M) Q ↔ Q a M := Iff.rfl
@[simp] theorem pwR_stuck : pwR (.stuck : Res α) Q ↔ False := Iff.rfl
@[simp] theorem pwR_exc (c : Nat) (v : Option PV) (M : Sto) : pwR (.exc c v M : Res α) Q ↔ False := Iff.rfl
@[simp] theorem pwR_bind (r : Res β) (f : β → Sto → Res α) : pwR (r.bind f) Q ↔ pwR r fun b M => pwR (f b M) Q := by cases r <;> exact Iff.rfl
@[simp] theorem pwR_of_some (a : α) (M : Sto) : pwR (Res.of (some (a, M))) Q ↔ Q a M := Iff.rfl
@[simp] theorem pwR_of_none : pwR (Res.of (none : Option (α × Sto))) Q ↔ False := Iff.rfl
@[simp] theorem pwR_nox (r : Res α) : pwR r.nox Q ↔ pwR r Q := by cases r <;> exact Iff.rfl
@[simp] theorem pwS_next (t : Sig) (M : Sto) : pwS (.next t M) N R ↔ N t M := Iff.rfl
@[simp] theorem pwS_ret (v : PV) (M : Sto) : pwS (.ret v M) N R ↔ R v M := Iff.rfl
@[simp] theorem pwS_stuck : pwS .stuck N R ↔ False := Iff.rfl
@[simp] theorem pwS_bind (r : SR) (f : Sig → Sto → SR) : pwS (r.bind f) N R ↔ pwS r (fun t M => pwS (f t M) N R) R := by cases r <;> exact Iff.rfl
@[simp] theorem pwS_then (r : Res α) (t : Sig) (f : α → Sto → SR) : pwS (r.then t f) N R ↔ pwR r fun a M => pwS (f a M) N R := by cases r <;> exact Iff.rfl
theorem pwR_mono {r : Res α} {Q' : α → Sto → Prop} (h : pwR r Q) (k : ∀ a M, Q a M → Q' a M) : pwR r Q' := by
  cases r with
  | ok a M => exact k _ _ h
  | exc c v M => exact h
  | stuck => exact h
theorem pwS_mono {r : SR} {N' : Sig → Sto → Prop} {R' : PV → Sto → Prop} (h : pwS r N R) (k : ∀ a M, N a M → N' a M) (l : ∀ a M, R a M → R' a M) : pwS r N' R' := by
  cases r with
  | next a M => exact k _ _ h
  | ret a M => exact l _ _ h
  | exc c v t M => exact h
  | stuck => exact h
theorem pwR_ite {c : Prop} [Decidable c] {a b : Res α} : pwR (if c then a else b) Q ↔ if c then pwR a Q else pwR b Q := by by_cases h : c <;> simp only [h, if_true, if_false]
theorem pwS_ite {c : Prop} [Decidable c] {a b : SR} : pwS (if c then a else b) N R ↔ if c then pwS a N R else pwS b N R := by by_cases h : c <;> simp only [h, if_true, if_false]
theorem pw_get {r : Res α} (h : pwR r Q) : ∃ a M, r = .ok a M ∧ Q a M := by
  cases r with
  | ok a M => exact ⟨a, M, rfl, h⟩
  | exc c v M => exact h.elim
  | stuck => exact h.elim
theorem pw_put {r : Res α} {a : α} {M : Sto} (e : r = .ok a M) (h : Q a M) : pwR r Q := by rw [e]; exact h
end
theorem pw_run (d : FD) (G : Glb) (xs : List PV) (M : Sto) (Q : PV → Sto → Prop) : pwR ((d.fi G).run xs M) Q ↔ pwS (evSs G d.body (xs.map some ++ List.replicate (d.N.length - xs.length) none) M) (fun _ M => Q .non M) Q := by
  show pwR (runF G d.N.length d.body xs M) Q ↔ _
  unfold runF
  cases evSs G d.body (xs.map some ++ List.replicate (d.N.length - xs.length) none) M <;> exact Iff.rfl
@[simp] theorem bool_bl (b : Bool) (M : Sto) : (Res.ok (.bl b) M : Res PV).bool = .ok b M := rfl
@[simp] theorem pwR_bool (r : Res PV) (Q : Bool → Sto → Prop) : pwR r.bool Q ↔ pwR r fun x M => match x with
    | .bl b => Q b M
    | _ => False := by
  unfold Res.bool
  rw [pwR_bind]
  cases r with
  | ok x M => cases x <;> exact Iff.rfl
  | exc c v M => exact Iff.rfl
  | stuck => exact Iff.rfl
@[simp] theorem fin_false (r : Res PV) : fin false r = r := rfl
@[simp] theorem pwR_fin_true (r : Res PV) (Q : PV → Sto → Prop) : pwR (fin true r) Q ↔ pwR r fun x M => match truth M x with
    | some k => Q (.bl k) M
    | none => False := by
  show pwR (r.bind _) Q ↔ _
  rw [pwR_bind]
  cases r with
  | ok x M => simp only [pwR_ok]; cases truth M x <;> exact Iff.rfl
  | exc c v M => exact Iff.rfl
  | stuck => exact Iff.rfl

/-! ### loops -/
theorem pw_for {at_ : Wlk} {tgt : PV → Sig → Sto → Option Sig} {body : Sig → Sto → SR} {cnt : Nat} {tau : Sig} {M : Sto} {N : Sig → Sto → Prop} {R : PV → Sto → Prop} (Inv : Nat → Sig → Sto → Prop) (h0 : Inv 0 tau M)
    (step : ∀ i t m, i < cnt → Inv i t m → ∃ x t', at_ i m = some (some x) ∧ tgt x t m = some t' ∧ pwS (body t' m) (Inv (i + 1)) R) (done : ∀ t m, Inv cnt t m → at_ cnt m = some none ∧ N t m) : pwS (forGo at_ tgt body cnt 0 tau M) N R := by
  have go : ∀ k i t m, i + k = cnt → Inv i t m → pwS (forGo at_ tgt body k i t m) N R := by
    intro k
    induction k with
    | zero =>
      intro i t m e h
      have e' : i = cnt := by omega
      subst e'
      obtain ⟨a, b⟩ := done t m h
      unfold forGo
      rw [a]
      exact b
    | succ k ih =>
      intro i t m e h
      obtain ⟨x, t', a, b, c⟩ := step i t m (by omega) h
      unfold forGo
      rw [a]
      simp only [b]
      rw [pwS_bind]
      exact pwS_mono c (fun t m h => ih _ _ _ (by omega) h) (fun _ _ h => h)
  exact go cnt 0 tau M (by omega) h0
/-- over a tuple's items -/
theorem pw_forT {xs : List PV} {tgt : PV → Sig → Sto → Option Sig} {body : Sig → Sto → SR} {cnt : Nat} {tau : Sig} {M : Sto} {N : Sig → Sto → Prop} {R : PV → Sto → Prop} (Inv : Nat → Sig → Sto → Prop) (hc : cnt = xs.length) (h0 : Inv 0 tau M)
    (step : ∀ i x t m, xs[i]? = some x → Inv i t m → pwS (match tgt x t m with
      | some t' => body t' m
      | none => .stuck) (Inv (i + 1)) R) (done : ∀ t m, Inv xs.length t m → N t m) : pwS (forGo (fun i _ => some xs[i]?) tgt body cnt 0 tau M) N R := by
  subst hc
  refine pw_for Inv h0 (fun i t m hi h => ?_) (fun t m h => ⟨by simp, done t m h⟩)
  have e : xs[i]? = some xs[i] := List.getElem?_eq_getElem hi
  have s := step i _ t m e h
  revert s
  cases ht : tgt xs[i] t m with
  | none => intro s; exact s.elim
  | some t' => intro s; exact ⟨_, t', by rw [e], ht, s⟩
/-- over a range -/
theorem pw_forR {lo hi : Int} {tgt : PV → Sig → Sto → Option Sig} {body : Sig → Sto → SR} {tau : Sig} {M : Sto} {N : Sig → Sto → Prop} {R : PV → Sto → Prop} (Inv : Nat → Sig → Sto → Prop) (h0 : Inv 0 tau M)
    (step : ∀ (i : Nat) t m, lo + i < hi → Inv i t m → pwS (match tgt (.int (lo + i)) t m with
      | some t' => body t' m
      | none => .stuck) (Inv (i + 1)) R) (done : ∀ t m, Inv (hi - lo).toNat t m → N t m) : pwS (forGo (rngW lo hi).at_ tgt body (rngW lo hi).cnt 0 tau M) N R := by
  refine pw_for Inv h0 (fun i t m hi' h => ?_) (fun t m h => ⟨by show some (if _ then _ else _) = _; exact congrArg some (if_neg (Nat.lt_irrefl _)), done t m h⟩)
  have hlt : i < (hi - lo).toNat := hi'
  have s := step i t m (by omega) h
  revert s
  cases ht : tgt (.int (lo + i)) t m with
  | none => intro s; exact s.elim
  | some t' => intro s; exact ⟨_, t', by show some (if _ then _ else _) = _; rw [if_pos hlt], ht, s⟩
/-- while: k counts down -/
theorem pw_whl {tst : Sig → Sto → Res Bool} {body : Sig → Sto → SR} {tau : Sig} {M : Sto} {N : Sig → Sto → Prop} {R : PV → Sto → Prop} (n : Nat) (Inv : Nat → Sig → Sto → Prop) (hn : n < FUEL) (h0 : Inv n tau M)
    (step : ∀ k t m, k ≤ n → Inv k t m → pwR (tst t m) fun b m => if b = true then pwS (body t m) (fun t m => ∃ j, j < k ∧ Inv j t m) R else N t m) : pwS (whlGo tst body FUEL tau M) N R := by
  have go : ∀ f k t m, k < f → k ≤ n → Inv k t m → pwS (whlGo tst body f t m) N R := by
    intro f
    induction f with
    | zero => intro k t m e; omega
    | succ f ih =>
      intro k t m e e2 h
      have s := step k t m e2 h
      unfold whlGo
      rw [pwS_then]
      refine pwR_mono s fun b m' h' => ?_
      cases b with
      | false => exact h'
      | true =>
        simp only [if_true] at h' ⊢
        rw [pwS_bind]
        exact pwS_mono h' (fun t m ⟨j, h1, h2⟩ => ih j _ _ (by omega) (by omega) h2) (fun _ _ h => h)
  exact go FUEL n tau M hn (Nat.le_refl _) h0

/-! ### the store -/
/-- all but the places S stay -/
structure Kept (S : List Nat) (M M' : Sto) : Prop where
  len : M.length ≤ M'.length
  get : ∀ n, n ∉ S → n < M.length → M'[n]? = M[n]?
theorem Kept.refl {S : List Nat} {M : Sto} : Kept S M M := ⟨Nat.le_refl _, fun _ _ _ => rfl⟩
theorem Kept.trans {S : List Nat} {M M1 M2 : Sto} (a : Kept S M M1) (b : Kept S M1 M2) : Kept S M M2 := ⟨Nat.le_trans a.len b.len, fun n h1 h2 => by rw [b.get n h1 (Nat.lt_of_lt_of_le h2 a.len), a.get n h1 h2]⟩
theorem Kept.mono {S S' : List Nat} {M M' : Sto} (a : Kept S M M') (h : ∀ n ∈ S, n ∈ S') : Kept S' M M' := ⟨a.len, fun n h1 h2 => a.get n (fun z => h1 (h n z)) h2⟩
/-- a place that is written was new -/
theorem Kept.drop {S S' : List Nat} {M M' : Sto} (a : Kept S M M') (h : ∀ n ∈ S, n ∈ S' ∨ M.length ≤ n) : Kept S' M M' := ⟨a.len, fun n h1 h2 => a.get n (fun z => (h n z).elim h1 (by omega)) h2⟩
theorem Kept.app {S : List Nat} {M : Sto} {o : PObj} : Kept S M (M ++ [o]) := ⟨by simp, fun n _ h => List.getElem?_append_left h⟩
theorem Kept.set {S : List Nat} {M : Sto} {n : Nat} {o : PObj} (h : n ∈ S) : Kept S M (M.set n o) := ⟨by simp, fun m h1 h2 => List.getElem?_set_ne (fun e => h1 (by rw [← e]; exact h))⟩
theorem lt_of_get {M : Sto} {n : Nat} {o : PObj} (h : M[n]? = some o) : n < M.length := (List.getElem?_eq_some_iff.mp h).1
theorem Kept.obj {S : List Nat} {M M' : Sto} (a : Kept S M M') {n : Nat} {o : PObj} (h : M[n]? = some o) (hn : n ∉ S) : M'[n]? = some o := by rw [a.get n hn (lt_of_get h), h]
theorem get_app {M : Sto} {n : Nat} {o p : PObj} (h : M[n]? = some o) : (M ++ [p])[n]? = some o := by rw [List.getElem?_append_left (lt_of_get h), h]
theorem get_new {M : Sto} {p : PObj} : (M ++ [p])[M.length]? = some p := by simp
theorem get_set {M : Sto} {n : Nat} {o p : PObj} (h : M[n]? = some o) : (M.set n p)[n]? = some p := List.getElem?_set_self (lt_of_get h)
theorem get_setne {M : Sto} {n k : Nat} {o p : PObj} (h : M[n]? = some o) (hk : k ≠ n) : (M.set k p)[n]? = some o := by rw [List.getElem?_set_ne hk, h]
theorem lst_of {M : Sto} {n : Nat} {xs : List PV} (h : M[n]? = some (.lst xs)) : lst? M (.loc n) = some xs := by simp only [lst?, h]
theorem items_of {M : Sto} {n : Nat} {xs : List PV} (h : M[n]? = some (.lst xs)) : items? M (.loc n) = some xs := by simp only [items?, h]
theorem lst_frz {M : Sto} {n : Nat} {xs : List PV} (h : M[n]? = some (.frz xs)) : lst? M (.loc n) = some xs := by simp only [lst?, h]
theorem items_frz {M : Sto} {n : Nat} {xs : List PV} (h : M[n]? = some (.frz xs)) : items? M (.loc n) = some xs := by simp only [items?, h]
theorem items_tup {M : Sto} {xs : List PV} : items? M (.tup xs) = some xs := rfl

/-! ### the primitives -/
section
variable {Q : PV → Sto → Prop} {M : Sto}
theorem pw_if {c : Prop} [Decidable c] {p : PV × Sto} : pwR (Res.of (if c then some p else none)) Q ↔ c ∧ Q p.1 p.2 := by
  by_cases h : c <;> simp only [h, if_true, if_false, true_and, false_and, pwR_of_none]
  exact Iff.rfl
theorem pw_add (i j : Int) : pwR (Res.of (opB .Add (.int i) (.int j) M)) Q ↔ Q (.int (i + j)) M := Iff.rfl
theorem pw_sub (i j : Int) : pwR (Res.of (opB .Sub (.int i) (.int j) M)) Q ↔ Q (.int (i - j)) M := Iff.rfl
def MulP (i j : Int) : Prop := (-18446744073709551616 < i ∧ i < 18446744073709551616) ∨ (-18446744073709551616 < j ∧ j < 18446744073709551616)
def DivP (j : Int) : Prop := 0 < j ∧ j < 1000000000000000000000000000000000000000000000000000000000000
theorem pw_mul (i j : Int) : pwR (Res.of (opB .Mult (.int i) (.int j) M)) Q ↔ MulP i j ∧ Q (.int (i * j)) M := pw_if
theorem pw_div (i j : Int) : pwR (Res.of (opB .FloorDiv (.int i) (.int j) M)) Q ↔ DivP j ∧ Q (.int (i / j)) M := pw_if
theorem pw_mod (i j : Int) : pwR (Res.of (opB .Mod (.int i) (.int j) M)) Q ↔ 0 < j ∧ Q (.int (i % j)) M := pw_if
theorem pw_pow (i j : Int) : pwR (Res.of (opB .Pow (.int i) (.int j) M)) Q ↔ (0 ≤ j ∧ j ≤ 1000000 ∧ -18446744073709551616 < i ∧ i < 18446744073709551616) ∧ Q (.int (i ^ j.toNat)) M := by
  refine Iff.trans pw_if ?_
  rw [show (i.natAbs < 2 ^ 64) = (-18446744073709551616 < i ∧ i < 18446744073709551616) from propext (by omega)]
theorem pw_addT (a b : List PV) : pwR (Res.of (opB .Add (.tup a) (.tup b) M)) Q ↔ a.length + b.length ≤ LINE ∧ Q (.tup (a ++ b)) M := pw_if
theorem pw_addS (a b : List Nat) : pwR (Res.of (opB .Add (.str a) (.str b) M)) Q ↔ a.length + b.length ≤ LINE ∧ Q (.str (a ++ b)) M := pw_if
theorem pw_new (xs : List PV) : pwR (Res.of (newL M xs)) Q ↔ xs.length ≤ LINE ∧ Q (.loc M.length) (M ++ [.lst xs]) := pw_if
theorem pw_opt {β : Type} (o : Option β) (f : β → PV × Sto) : pwR (Res.of (o.map f)) Q ↔ ∃ y, o = some y ∧ Q (f y).1 (f y).2 := by
  cases o with
  | none => simp
  | some y => exact ⟨fun h => ⟨y, rfl, h⟩, fun ⟨z, e, h⟩ => by cases e; exact h⟩
theorem opC_lt (i j : Int) : opC .Lt (.int i) (.int j) M = some (decide (i < j)) := rfl
theorem opC_le (i j : Int) : opC .LtE (.int i) (.int j) M = some (decide (i ≤ j)) := rfl
theorem opC_gt (i j : Int) : opC .Gt (.int i) (.int j) M = some (decide (j < i)) := rfl
theorem opC_ge (i j : Int) : opC .GtE (.int i) (.int j) M = some (decide (j ≤ i)) := rfl
theorem opC_eqI (i j : Int) : opC .Eq (.int i) (.int j) M = some (decide (i = j)) := by
  have e : (i == j) = decide (i = j) := by by_cases h : i = j <;> simp [h]
  simp [opC, eqP, toD, PyData.canLay0, PyData.eqv, e]
theorem opC_neI (i j : Int) : opC .NotEq (.int i) (.int j) M = some (!decide (i = j)) := by
  have e : (i == j) = decide (i = j) := by by_cases h : i = j <;> simp [h]
  simp [opC, eqP, toD, PyData.canLay0, PyData.eqv, e]
end
example : True := by
  have := @opC_eqI
  trivial
end SW

/-! The interpreter's rows, one by one, each in its place alone. -/
namespace SW
open PySem PySem.Spec PyProof.Rows L2

def finQ (m : Bool) (Q : PV → Sto → Prop) : PV → Sto → Prop := match m with
  | false => Q
  | true => fun x M => match truth M x with
    | some k => Q (.bl k) M
    | none => False
def isB (x : PV) (P : Bool → Prop) (_ : Nix P := .mk) : Prop := match x with
  | .bl k => P k
  | _ => False
theorem isB_bl (k : Bool) (P : Bool → Prop) : isB (.bl k) P ↔ P k := Iff.rfl
def isI (x : PV) (P : Int → Prop) (_ : Nix P := .mk) : Prop := match x with
  | .int k => P k
  | _ => False
theorem isI_int (k : Int) (P : Int → Prop) : isI (.int k) P ↔ P k := Iff.rfl
def isS {α : Type} (x : Option α) (P : α → Prop) (_ : Nix P := .mk) : Prop := match x with
  | some k => P k
  | none => False
theorem isS_some {α : Type} (k : α) (P : α → Prop) : isS (some k) P ↔ P k := Iff.rfl
theorem isS_none {α : Type} (P : α → Prop) : isS none P ↔ False := Iff.rfl
theorem isS_iff {α : Type} {o : Option α} {P : α → Prop} : isS o P ↔ ∃ x, o = some x ∧ P x := by
  cases o with
  | none => exact ⟨fun h => h.elim, fun ⟨_, h, _⟩ => by cases h⟩
  | some x => exact ⟨fun h => ⟨x, rfl, h⟩, fun ⟨_, e, h⟩ => by cases e; exact h⟩
theorem finQ_f (Q : PV → Sto → Prop) (x : PV) (M : Sto) : finQ false Q x M ↔ Q x M := Iff.rfl
theorem finQ_t (Q : PV → Sto → Prop) (x : PV) (M : Sto) : finQ true Q x M ↔ isS (truth M x) fun k => Q (.bl k) M := by
  show (match truth M x with
    | some k => Q (.bl k) M
    | none => False) ↔ _
  cases truth M x <;> exact Iff.rfl
theorem pw_fin {m : Bool} {r : Res PV} {Q : PV → Sto → Prop} : pwR (fin m r) Q ↔ pwR r (finQ m Q) := by
  cases m
  · exact Iff.rfl
  · rw [pwR_fin_true]; exact Iff.rfl
theorem pw_opt' {α : Type} {o : Option α} {f : α → Res PV} {Q : PV → Sto → Prop} : pwR (match o with
    | some k => f k
    | none => .stuck) Q ↔ isS o fun k => pwR (f k) Q := by cases o <;> exact Iff.rfl
theorem pwR_cg {α : Type} {r : Res α} {Q Q' : α → Sto → Prop} (h : ∀ a M, Q a M ↔ Q' a M) : pwR r Q ↔ pwR r Q' := ⟨fun q => pwR_mono q fun a M => (h a M).mp, fun q => pwR_mono q fun a M => (h a M).mpr⟩
theorem pw_of {o : Prim} {Q : PV → Sto → Prop} : pwR (Res.of o) Q ↔ isS o fun r => Q r.1 r.2 := by
  cases o with
  | none => exact Iff.rfl
  | some p => exact Iff.rfl
section
variable {G : Glb} {m : Bool} {tau : Sig} {M : Sto} {p p2 pt pa : Pos} {a b c e i lo hi o t : PEx} {es ifs : PEs} {Q : PV → Sto → Prop} {QL : List PV → Sto → Prop}
theorem e_nam {n : Nat} {x : Str} : pwR (evE G m (.nam n x p) tau M) Q ↔ isS tau[n]? fun o => isS o fun v => finQ m Q v M := by
  show pwR (fin m _) Q ↔ _
  rw [pw_fin]
  cases tau[n]? with
  | none => exact Iff.rfl
  | some o => cases o <;> exact Iff.rfl
theorem e_non {k : Nat} : pwR (evE G m (.non k p) tau M) Q ↔ finQ m Q .non M := pw_fin
theorem e_bl {k : Nat} {v : Bool} : pwR (evE G m (.bl v k p) tau M) Q ↔ finQ m Q (.bl v) M := pw_fin
theorem e_int {k : Nat} {v : Int} : pwR (evE G m (.int v k p) tau M) Q ↔ finQ m Q (.int v) M := pw_fin
theorem e_str {k : Nat} {v : Str} : pwR (evE G m (.str v k p) tau M) Q ↔ finQ m Q (.str v.cps.toList) M := pw_fin
theorem e_tup {k : Nat} : pwR (evE G m (.tup es k p) tau M) Q ↔ pwR (evL G es tau M) fun xs M => xs.length ≤ LINE ∧ finQ m Q (.tup xs) M := by
  show pwR (fin m (Res.bind _ _)) Q ↔ _
  rw [pw_fin, pwR_bind]
  refine pwR_cg fun xs M => ?_
  rw [pwR_ite]
  by_cases h : xs.length ≤ LINE <;> simp [h]
theorem e_lst : pwR (evE G m (.lst es p) tau M) Q ↔ pwR (evL G es tau M) fun xs M => xs.length ≤ LINE ∧ finQ m Q (.loc M.length) (M ++ [.lst xs]) := by
  show pwR (fin m (Res.bind _ _)) Q ↔ _
  rw [pw_fin, pwR_bind]
  exact pwR_cg fun xs M => pw_new xs
theorem e_bin {op : Operator} : pwR (evE G m (.bin op a b p) tau M) Q ↔ pwR (evE G false a tau M) fun x M => pwR (evE G false b tau M) fun y M => pwR (Res.of (opB op x y M)) (finQ m Q) := by
  show pwR (fin m (Res.bind _ _)) Q ↔ _
  rw [pw_fin, pwR_bind]
  exact pwR_cg fun x M => pwR_bind _ _
theorem e_neg : pwR (evE G m (.neg a p) tau M) Q ↔ pwR (evE G false a tau M) fun x M => isI x fun i => finQ m Q (.int (-i)) M := by
  show pwR (fin m (Res.bind _ _)) Q ↔ _
  rw [pw_fin, pwR_bind]
  exact pwR_cg fun x M => by cases x <;> exact Iff.rfl
theorem e_nt : pwR (evE G m (.nt a p) tau M) Q ↔ pwR (evE G m a tau M) fun x M => isB x fun b => Q (.bl (!b)) M := by
  show pwR (Res.bind _ _) Q ↔ _
  rw [pwR_bind]
  exact pwR_cg fun x M => by cases x <;> exact Iff.rfl
theorem e_cmp {op : CmpOp} : pwR (evE G m (.cmp op a b p) tau M) Q ↔ pwR (evE G false a tau M) fun x M => pwR (evE G false b tau M) fun y M => isS (opC op x y M) fun k => Q (.bl k) M := by
  show pwR (Res.bind _ _) Q ↔ _
  rw [pwR_bind]
  refine pwR_cg fun x M => ?_
  rw [pwR_bind]
  exact pwR_cg fun y M => by cases opC op x y M <;> exact Iff.rfl
theorem e_chn {op op' : CmpOp} : pwR (evE G m (.chn op op' a b c p) tau M) Q ↔ pwR (evE G false a tau M) fun x M => pwR (evE G false b tau M) fun y M => isS (opC op x y M) fun k => if k = true then
    pwR (evE G false c tau M) fun z M => isS (opC op' y z M) fun k => Q (.bl k) M
    else Q (.bl false) M := by
  show pwR (Res.bind _ _) Q ↔ _
  rw [pwR_bind]
  refine pwR_cg fun x M => ?_
  rw [pwR_bind]
  refine pwR_cg fun y M => ?_
  cases opC op x y M with
  | none => exact Iff.rfl
  | some k => cases k with
    | false => exact Iff.rfl
    | true =>
      show pwR (Res.bind _ _) _ ↔ _
      rw [pwR_bind]
      exact pwR_cg fun z M => by cases opC op' y z M <;> exact Iff.rfl
theorem e_and : pwR (evE G m (.and a es p) tau M) Q ↔ pwR (evE G m a tau M) fun x M => pwR (evAnd G m es x tau M) Q := pwR_bind _ _
theorem e_or : pwR (evE G m (.or a es p) tau M) Q ↔ pwR (evE G m a tau M) fun x M => pwR (evOr G m es x tau M) Q := pwR_bind _ _
theorem e_ife : pwR (evE G false (.ife t a b p) tau M) Q ↔ pwR (evE G true t tau M) fun x M => isB x fun k => if k = true then pwR (evE G false a tau M) Q else pwR (evE G false b tau M) Q := by
  show pwR (Res.bind _ _) Q ↔ _
  rw [pwR_bind, pwR_bool]
  exact pwR_cg fun x M => by cases x with
    | bl k => cases k <;> exact Iff.rfl
    | _ => exact Iff.rfl
theorem e_sub : pwR (evE G m (.sub a i p) tau M) Q ↔ pwR (evE G false a tau M) fun x M => pwR (evE G false i tau M) fun y M => isS (opI x y M) fun r => finQ m Q r.1 r.2 := by
  show pwR (fin m (Res.bind _ _)) Q ↔ _
  rw [pw_fin, pwR_bind]
  refine pwR_cg fun x M => ?_
  rw [pwR_bind]
  exact pwR_cg fun y M => pw_of
theorem e_slc : pwR (evE G m (.slc a lo hi p2 p) tau M) Q ↔ pwR (evE G false a tau M) fun x M => pwR (evE G false lo tau M) fun l M => isI l fun l => pwR (evE G false hi tau M) fun h M => isI h fun h => isS (opS x (some l) (some h) M) fun r => finQ m Q r.1 r.2 := by
  show pwR (fin m (Res.bind _ _)) Q ↔ _
  rw [pw_fin, pwR_bind]
  refine pwR_cg fun x M => ?_
  rw [pwR_bind]
  refine pwR_cg fun y M => ?_
  cases y with
  | int l =>
    show pwR (Res.bind _ _) _ ↔ _
    rw [pwR_bind]
    refine pwR_cg fun y M => ?_
    cases y with
    | int l => exact pw_of
    | _ => exact Iff.rfl
  | _ => exact Iff.rfl
theorem e_slcL : pwR (evE G m (.slcL a lo p2 p) tau M) Q ↔ pwR (evE G false a tau M) fun x M => pwR (evE G false lo tau M) fun l M => isI l fun l => isS (opS x (some l) none M) fun r => finQ m Q r.1 r.2 := by
  show pwR (fin m (Res.bind _ _)) Q ↔ _
  rw [pw_fin, pwR_bind]
  refine pwR_cg fun x M => ?_
  rw [pwR_bind]
  refine pwR_cg fun y M => ?_
  cases y with
  | int l => exact pw_of
  | _ => exact Iff.rfl
theorem e_slcH : pwR (evE G m (.slcH a hi p2 p) tau M) Q ↔ pwR (evE G false a tau M) fun x M => pwR (evE G false hi tau M) fun l M => isI l fun l => isS (opS x none (some l) M) fun r => finQ m Q r.1 r.2 := by
  show pwR (fin m (Res.bind _ _)) Q ↔ _
  rw [pw_fin, pwR_bind]
  refine pwR_cg fun x M => ?_
  rw [pwR_bind]
  refine pwR_cg fun y M => ?_
  cases y with
  | int l => exact pw_of
  | _ => exact Iff.rfl
theorem e_blt {k : Bi} : pwR (evE G m (.blt k e es p p2) tau M) Q ↔ pwR (evE G false e tau M) fun x M => pwR (evL G es tau M) fun xs M => isS (opM k (x :: xs) M) fun r => finQ m Q r.1 r.2 := by
  show pwR (fin m (Res.bind _ _)) Q ↔ _
  rw [pw_fin, pwR_bind]
  refine pwR_cg fun x M => ?_
  rw [pwR_bind]
  exact pwR_cg fun y M => pw_of
theorem e_isi {k : Ty} : pwR (evE G m (.isi e k p pt p2) tau M) Q ↔ pwR (evE G false e tau M) fun x M => isS (isTy M k x) fun k => finQ m Q (.bl k) M := by
  show pwR (fin m (Res.bind _ _)) Q ↔ _
  rw [pw_fin, pwR_bind]
  exact pwR_cg fun x M => by cases isTy M k x <;> exact Iff.rfl
theorem e_meth {d : Me} : pwR (evE G m (.meth d o e es pa p) tau M) Q ↔ pwR (evE G false o tau M) fun x M => isS (lst? M x) fun _ => pwR (evE G false e tau M) fun y M => pwR (evL G es tau M) fun ys M => isS (opD d x (y :: ys) M) fun r => finQ m Q r.1 r.2 := by
  show pwR (fin m (Res.bind _ _)) Q ↔ _
  rw [pw_fin, pwR_bind]
  refine pwR_cg fun x M => ?_
  cases lst? M x with
  | none => exact Iff.rfl
  | some _ =>
    show pwR (Res.bind _ _) _ ↔ _
    rw [pwR_bind]
    exact pwR_cg fun y M => (pwR_bind _ _).trans (pwR_cg fun ys M => pw_of)
theorem e_meth0 {d : Me} : pwR (evE G m (.meth0 d o pa p) tau M) Q ↔ pwR (evE G false o tau M) fun x M => isS (lst? M x) fun _ => isS (opD d x [] M) fun r => finQ m Q r.1 r.2 := by
  show pwR (fin m (Res.bind _ _)) Q ↔ _
  rw [pw_fin, pwR_bind]
  refine pwR_cg fun x M => ?_
  cases lst? M x with
  | none => exact Iff.rfl
  | some _ => exact pw_of
theorem e_lc {tg : PTg} {it : PIt} {sc : Scope} {own : Own} : pwR (evE G m (.lc e tg it ifs sc own p) tau M) Q ↔ pwR (evI G it tau M) fun w M =>
      pwR (lcGo M.length w.at_ (fun v M => asgT tg v (wipeP tau (own.map (·.2))) M) (fun tau M => (evTs G ifs tau M).nox) (fun tau M => (evE G false e tau M).nox) w.cnt 0 (M ++ [.lst []])) (finQ m Q) := by
  show pwR (fin m (Res.bind _ _)) Q ↔ _
  rw [pw_fin, pwR_bind]
/-- a call -/
theorem e_call {f n : Nat} {x : Str} {R : List PV → Sto → Res PV} (h : ∃ fi, G.fns[f]? = some fi ∧ fi.ps.length = n ∧ fi.run = R) : pwR (evE G m (.call f x e es p p2) tau M) Q ↔ pwR (evE G false e tau M) fun x M => pwR (evL G es tau M) fun xs M => (x :: xs).length = n ∧ pwR (R (x :: xs) M) (finQ m Q) := by
  obtain ⟨fi, h1, rfl, rfl⟩ := h
  show pwR (fin m (Res.bind _ _)) Q ↔ _
  rw [pw_fin, pwR_bind]
  refine pwR_cg fun x M => ?_
  rw [pwR_bind]
  refine pwR_cg fun xs M => ?_
  simp only [h1]
  rw [pwR_ite]
  by_cases h : (x :: xs).length = fi.ps.length <;> simp only [h, if_true, if_false, true_and, false_and, pwR_stuck]
theorem l_nil : pwR (evL G .nil tau M) QL ↔ QL [] M := Iff.rfl
theorem l_cons : pwR (evL G (.cons e es) tau M) QL ↔ pwR (evE G false e tau M) fun x M => pwR (evL G es tau M) fun xs M => QL (x :: xs) M := by
  show pwR (Res.bind _ _) _ ↔ _
  rw [pwR_bind]
  exact pwR_cg fun x M => pwR_bind _ _
theorem and_nil {x : PV} : pwR (evAnd G m .nil x tau M) Q ↔ Q x M := Iff.rfl
theorem or_nil {x : PV} : pwR (evOr G m .nil x tau M) Q ↔ Q x M := Iff.rfl
theorem and_b {k : Bool} : pwR (evAnd G m (.cons e es) (.bl k) tau M) Q ↔ if k = true then pwR (evE G m e tau M) fun y M => pwR (evAnd G m es y tau M) Q else Q (.bl false) M := by
  cases k
  · exact Iff.rfl
  · simp only [if_true]
    exact pwR_bind _ _
theorem or_b {k : Bool} : pwR (evOr G m (.cons e es) (.bl k) tau M) Q ↔ if k = true then Q (.bl true) M else pwR (evE G m e tau M) fun y M => pwR (evOr G m es y tau M) Q := by
  cases k
  · simp only [Bool.false_eq_true, if_false]
    exact pwR_bind _ _
  · exact Iff.rfl
theorem pwR_boolB {r : Res PV} {Q : Bool → Sto → Prop} : pwR r.bool Q ↔ pwR r fun x M => isB x fun k => Q k M := by
  rw [pwR_bool]
  exact pwR_cg fun x M => by cases x <;> exact Iff.rfl
theorem t_nil {Q : Bool → Sto → Prop} : pwR (evTs G .nil tau M) Q ↔ Q true M := Iff.rfl
theorem t_cons {Q : Bool → Sto → Prop} : pwR (evTs G (.cons e es) tau M) Q ↔ pwR (evE G true e tau M) fun x M => isB x fun k => Q k M := by
  show pwR (Res.bool _) _ ↔ _
  rw [pwR_bool]
  exact pwR_cg fun x M => by cases x <;> exact Iff.rfl
variable {QW : Walk → Sto → Prop}
theorem i_seq : pwR (evI G (.seq e) tau M) QW ↔ pwR (evE G false e tau M) fun x M => isS (seqW M x) fun w => QW w M := by
  show pwR (Res.bind _ _) _ ↔ _
  rw [pwR_bind]
  exact pwR_cg fun x M => by cases seqW M x <;> exact Iff.rfl
theorem i_rng1 : pwR (evI G (.rng1 e p p2) tau M) QW ↔ pwR (evE G false e tau M) fun x M => isI x fun j => small62 j = true ∧ QW (rngW 0 j) M := by
  show pwR (Res.bind _ _) _ ↔ _
  rw [pwR_bind]
  refine pwR_cg fun x M => ?_
  cases x with
  | int j =>
    show pwR (if _ then _ else _) _ ↔ _ ∧ _
    rw [pwR_ite]
    by_cases h : small62 j = true <;> simp [h]
  | _ => exact Iff.rfl
theorem i_rng2 : pwR (evI G (.rng2 a b p p2) tau M) QW ↔ pwR (evE G false a tau M) fun x M => pwR (evE G false b tau M) fun y M => isI x fun i => isI y fun j => small62 i = true ∧ small62 j = true ∧ QW (rngW i j) M := by
  show pwR (Res.bind _ _) _ ↔ _
  rw [pwR_bind]
  refine pwR_cg fun x M => ?_
  rw [pwR_bind]
  refine pwR_cg fun y M => ?_
  cases x with
  | int i => cases y with
    | int j =>
      show pwR (if _ then _ else _) _ ↔ _ ∧ _ ∧ _
      rw [pwR_ite]
      by_cases h : small62 i = true <;> by_cases h' : small62 j = true <;> simp [h, h']
    | _ => exact Iff.rfl
  | _ => exact Iff.rfl
variable {tg : PTg} {it : PIt} {u w : PBl} {N : Sig → Sto → Prop}
theorem st_asg : pwS (evS G (.asg tg e p) tau M) N Q ↔ pwR (evE G false e tau M) fun v M => isS (asgT tg v tau M) fun tau => N tau M := by
  show pwS (Res.then _ _ _) _ _ ↔ _
  rw [pwS_then]
  exact pwR_cg fun x M => by cases asgT tg x tau M <;> exact Iff.rfl
theorem st_setI : pwS (evS G (.setI o i e pt p) tau M) N Q ↔ pwR (evE G false e tau M) fun v M => pwR (evE G false o tau M) fun x M => pwR (evE G false i tau M) fun y M => isS (opSet x y v M) fun M => N tau M := by
  show pwS (Res.then _ _ _) _ _ ↔ _
  rw [pwS_then]
  exact pwR_cg fun v M => (pwS_then _ _ _).trans (pwR_cg fun x M => (pwS_then _ _ _).trans (pwR_cg fun y M => by cases opSet x y v M <;> exact Iff.rfl))
theorem st_expr : pwS (evS G (.expr e p) tau M) N Q ↔ pwR (evE G false e tau M) fun _ M => N tau M := by
  show pwS (Res.then _ _ _) _ _ ↔ _
  rw [pwS_then]
  exact Iff.rfl
theorem st_ret : pwS (evS G (.ret e p) tau M) N Q ↔ pwR (evE G false e tau M) Q := by
  show pwS (Res.then _ _ _) _ _ ↔ _
  rw [pwS_then]
  exact Iff.rfl
theorem st_retN : pwS (evS G (.retN p) tau M) N Q ↔ Q .non M := Iff.rfl
theorem st_ife : pwS (evS G (.ife t u w p) tau M) N Q ↔ pwR (evE G true t tau M) fun x M => isB x fun k => if k = true then pwS (evSs G u tau M) N Q else pwS (evSs G w tau M) N Q := by
  show pwS (Res.then _ _ _) _ _ ↔ _
  rw [pwS_then, pwR_bool]
  exact pwR_cg fun x M => by cases x with
    | bl k => cases k <;> exact Iff.rfl
    | _ => exact Iff.rfl
theorem st_for : pwS (evS G (.for_ tg it u p) tau M) N Q ↔ pwR (evI G it tau M) fun w M => pwS (forGo w.at_ (fun v tau M => asgT tg v tau M) (fun tau M => evSs G u tau M) w.cnt 0 tau M) N Q := by
  show pwS (Res.then _ _ _) _ _ ↔ _
  rw [pwS_then]
theorem st_whl : pwS (evS G (.whl t u p) tau M) N Q ↔ pwS (whlGo (fun tau M => (evE G true t tau M).bool) (fun tau M => evSs G u tau M) FUEL tau M) N Q := Iff.rfl
theorem st_pass : pwS (evS G (.pass p) tau M) N Q ↔ N tau M := Iff.rfl
theorem b_nil : pwS (evSs G .nil tau M) N Q ↔ N tau M := Iff.rfl
theorem b_cons {s : PSt} : pwS (evSs G (.cons s u) tau M) N Q ↔ pwS (evS G s tau M) (fun tau M => pwS (evSs G u tau M) N Q) Q := pwS_bind _ _
end

/-! ### more primitives -/
section
variable {Q : PV → Sto → Prop} {M : Sto}
theorem asg_one {n : Nat} {x : Str} {p : Pos} {v : PV} {tau : Sig} : asgT (.one n x p) v tau M = some (tau.set n (some v)) := rfl
theorem asg_tup {ts : List (Nat × Str × Pos)} {k : Nat} {p : Pos} {xs : List PV} {tau : Sig} : asgT (.tup ts k p) (.tup xs) tau M = setAll (ts.map (·.1)) xs tau := rfl
theorem setAll_nil {tau : Sig} : setAll [] [] tau = some tau := rfl
theorem setAll_cons {i : Nat} {is : List Nat} {v : PV} {vs : List PV} {tau : Sig} : setAll (i :: is) (v :: vs) tau = setAll is vs (tau.set i (some v)) := rfl
theorem len_tup (xs : List PV) : opM .len [.tup xs] M = some (.int xs.length, M) := rfl
theorem len_loc {n : Nat} {xs : List PV} (h : M[n]? = some (.lst xs)) : opM .len [.loc n] M = some (.int xs.length, M) := by simp only [opM, items_of h, Option.map_some]
theorem sum_tup (ns : List Int) : opM .sum [.tup (ns.map PV.int)] M = some (.int ns.sum, M) := by simp [opM, items?]
theorem sum_loc {n : Nat} {ns : List Int} (h : M[n]? = some (.lst (ns.map PV.int))) : opM .sum [.loc n] M = some (.int ns.sum, M) := by simp [opM, items_of h]
theorem tuple_loc {n : Nat} {xs : List PV} (h : M[n]? = some (.lst xs)) : opM .tuple [.loc n] M = some (.tup xs, M) := by simp [opM, items_of h]
theorem tuple_tup {xs : List PV} : opM .tuple [.tup xs] M = some (.tup xs, M) := rfl
theorem list_loc {n : Nat} {xs : List PV} (h : M[n]? = some (.lst xs)) : opM .list [.loc n] M = newL M xs := by simp [opM, items_of h]
theorem list_frz {n : Nat} {xs : List PV} (h : M[n]? = some (.frz xs)) : opM .list [.loc n] M = newL M xs := by simp [opM, items_frz h]
theorem list_tup {xs : List PV} : opM .list [.tup xs] M = newL M xs := rfl
theorem min_int (i j : Int) : opM .min [.int i, .int j] M = some (.int (min i j), M) := by
  simp only [opM]
  congr 3
  split <;> omega
theorem max_int (i j : Int) : opM .max [.int i, .int j] M = some (.int (max i j), M) := by
  simp only [opM]
  congr 3
  split <;> omega
theorem new_ok {xs : List PV} (h : xs.length ≤ LINE) : newL M xs = some (.loc M.length, M ++ [.lst xs]) := if_pos h
theorem ixt_loc {n : Nat} {xs : List PV} {i : Int} (h : M[n]? = some (.lst xs)) : opI (.loc n) (.int i) M = (atI xs i).map (·, M) := by simp only [opI, lst_of h]
theorem ixt_tup {xs : List PV} {i : Int} : opI (.tup xs) (.int i) M = (atI xs i).map (·, M) := rfl
theorem isS_map {α β : Type} {o : Option α} {f : α → β} {P : β → Prop} : isS (o.map f) P ↔ isS o fun x => P (f x) := by cases o <;> exact Iff.rfl
theorem atI_nat {xs : List PV} {k : Nat} {x : PV} (h : xs[k]? = some x) : atI xs (k : Int) = some x := by
  have hl := (List.getElem?_eq_some_iff.mp h).1
  unfold atI ixN
  rw [if_pos (by omega), if_pos (by omega)]
  exact h
theorem atI_ge {xs : List PV} {i : Int} {x : PV} (h0 : 0 ≤ i) (h : xs[i.toNat]? = some x) : atI xs i = some x := by
  have := atI_nat h
  rwa [Int.toNat_of_nonneg h0] at this
theorem atI_0 {x : PV} {xs : List PV} : atI (x :: xs) 0 = some x := atI_nat (k := 0) rfl
theorem atI_1 {a x : PV} {xs : List PV} : atI (a :: x :: xs) 1 = some x := atI_nat (k := 1) rfl
theorem atI_2 {a b x : PV} {xs : List PV} : atI (a :: b :: x :: xs) 2 = some x := atI_nat (k := 2) rfl
theorem atI_3 {a b c x : PV} {xs : List PV} : atI (a :: b :: c :: x :: xs) 3 = some x := atI_nat (k := 3) rfl
theorem ixN_ge {n : Nat} {i : Int} (h0 : 0 ≤ i) (h : i < n) : ixN n i = some i.toNat := by unfold ixN; rw [if_pos h0, if_pos h]
/-- a number of a row that goes on and on -/
def dy (ds : List Int) (i : Int) : Int := ds.getD (i % (ds.length : Int)).toNat 0
theorem atI_dy {ds : List Int} (h : 0 < ds.length) (i : Int) : atI (ds.map PV.int) (i % (ds.length : Int)) = some (.int (dy ds i)) := by
  have h1 : 0 ≤ i % (ds.length : Int) := Int.emod_nonneg _ (by omega)
  have h2 : i % (ds.length : Int) < ds.length := Int.emod_lt_of_pos _ (by omega)
  have h3 : (i % (ds.length : Int)).toNat < ds.length := by omega
  refine atI_ge h1 ?_
  rw [List.getElem?_map, List.getElem?_eq_getElem h3]
  unfold dy
  rw [List.getD_eq_getElem?_getD, List.getElem?_eq_getElem h3]
  rfl
theorem set_loc {n : Nat} {xs : List PV} {i : Int} {v : PV} (h : M[n]? = some (.lst xs)) (h0 : 0 ≤ i) (h1 : i < xs.length) : opSet (.loc n) (.int i) v M = some (M.set n (.lst (xs.set i.toNat v))) := by
  simp only [opSet, h, ixN_ge h0 h1, Option.map_some]
theorem ins_loc {n : Nat} {xs : List PV} {i : Int} {v : PV} (h : M[n]? = some (.lst xs)) (h0 : 0 ≤ i) (h1 : i < 2 ^ 63) (h2 : xs.length < LINE) : opD .insert (.loc n) [.int i, v] M = some (.non, M.set n (.lst (insP xs i.toNat v))) := by
  simp only [opD, h]
  rw [if_pos ⟨h2, h0, h1⟩]
theorem app_loc {n : Nat} {xs : List PV} {v : PV} (h : M[n]? = some (.lst xs)) (h2 : xs.length < LINE) : opD .append (.loc n) [v] M = some (.non, M.set n (.lst (xs ++ [v]))) := by
  simp only [opD, h]
  rw [if_pos h2]
theorem pop_loc0 {n : Nat} {x : PV} {xs : List PV} (h : M[n]? = some (.lst (x :: xs))) : opD .pop (.loc n) [.int 0] M = some (x, M.set n (.lst xs)) := by
  simp only [opD, h]
  rw [ixN_ge (by omega) (by simp)]
  simp
theorem opC_eqS {s t : List Nat} (hs : PyData.strOk ⟨s.toArray⟩ = true) (ht : PyData.strOk ⟨t.toArray⟩ = true) : opC .Eq (.str s) (.str t) M = some (decide (s = t)) := by
  have e : ((⟨s.toArray⟩ : Str) == ⟨t.toArray⟩) = decide (s = t) := by
    by_cases h : s = t <;> simp [h]
  simp only [opC, eqP, toD, PyData.canLay0, hs, ht, Bool.and_self, if_true, PyData.eqv, e]
theorem seqW_tup {xs : List PV} : seqW M (.tup xs) = some ⟨xs.length, fun i _ => some xs[i]?⟩ := rfl
theorem ty_tt {xs : List PV} : isTy M .tuple (.tup xs) = some true := rfl
theorem ty_ss {s : List Nat} : isTy M .str (.str s) = some true := rfl
theorem ty_ii {i : Int} : isTy M .int (.int i) = some true := rfl
theorem ty_bi {i : Int} : isTy M .bool (.int i) = some false := rfl
theorem ty_bb {i : Bool} : isTy M .bool (.bl i) = some true := rfl
theorem ty_ib {i : Bool} : isTy M .int (.bl i) = some true := rfl
theorem tr_b {i : Bool} : truth M (.bl i) = some i := rfl
theorem tr_n : truth M .non = some false := rfl
theorem opC_neS {s t : List Nat} : opC .NotEq (.str s) (.str t) M = (opC .Eq (.str s) (.str t) M).map not := rfl
theorem opC_is {x : PV} : opC .Is x .non M = some (match x with
    | .non => true
    | _ => false) := by cases x <;> rfl
end
end SW

/-! Pools: the sums. -/
namespace SW
open PySem PySem.Spec PyProof.Rows L2

/-- a pool's days, one by one -/
def wk (ds : List Int) (brim : Int) : Nat → Nat → Int → Bool × Int
  | 0, _, l => (false, l)
  | k + 1, i, l => if l + dy ds i < 0 then (true, i) else wk ds brim k (i + 1) (min brim (l + dy ds i))
theorem wk_succ {ds : List Int} {b : Int} (k i : Nat) (l : Int) : wk ds b (k + 1) i l = if l + dy ds i < 0 then (true, (i : Int)) else wk ds b k (i + 1) (min b (l + dy ds i)) := rfl
def wS (b : Bool) : List Nat := if b = true then ("dry" : Str).cps.toList else ("level" : Str).cps.toList
theorem dry_dry {M : Sto} : opC .Eq (.str (Str.ofString "dry").cps.toList) (.str (Str.ofString "dry").cps.toList) M = some true := by
  rw [opC_eqS (by decide +kernel) (by decide +kernel)]
  simp
theorem level_dry {M : Sto} : opC .Eq (.str (Str.ofString "level").cps.toList) (.str (Str.ofString "dry").cps.toList) M = some false := by
  rw [opC_eqS (by decide +kernel) (by decide +kernel)]
  decide +kernel
theorem wS_dry {M : Sto} {b : Bool} : opC .Eq (.str (wS b)) (.str (Str.ofString "dry").cps.toList) M = some b := by
  cases b
  · exact level_dry
  · exact dry_dry
theorem wS_level {M : Sto} {b : Bool} : opC .Eq (.str (wS b)) (.str (Str.ofString "level").cps.toList) M = some (!b) := by
  cases b
  · show opC .Eq (.str (Str.ofString "level").cps.toList) _ M = _
    rw [opC_eqS (by decide +kernel) (by decide +kernel)]; simp
  · show opC .Eq (.str (Str.ofString "dry").cps.toList) _ M = _
    rw [opC_eqS (by decide +kernel) (by decide +kernel)]; decide +kernel
theorem wS_eq {M : Sto} {b c : Bool} : opC .Eq (.str (wS b)) (.str (wS c)) M = some (decide (b = c)) := by
  cases b <;> cases c
  · rw [opC_eqS (by decide +kernel) (by decide +kernel)]; simp
  · rw [opC_eqS (by decide +kernel) (by decide +kernel)]; decide +kernel
  · rw [opC_eqS (by decide +kernel) (by decide +kernel)]; decide +kernel
  · rw [opC_eqS (by decide +kernel) (by decide +kernel)]; simp
theorem wS_t : wS true = ("dry" : Str).cps.toList := rfl
theorem wS_f : wS false = ("level" : Str).cps.toList := rfl
def wP (r : Bool × Int) : PV := .tup [.str (wS r.1), .int r.2]
/-- how far below the last height -/
def und (ds : List Int) : Nat → Int
  | 0 => 0
  | i + 1 => min 0 (und ds i + dy ds i)
def lw (ds : List Int) : Nat → Int
  | 0 => 0
  | i + 1 => min (lw ds i) (und ds (i + 1))
section
variable {ds : List Int}
theorem und_le (i : Nat) : und ds i ≤ 0 := by cases i <;> simp only [und] <;> omega
theorem lw_le (i : Nat) : lw ds i ≤ 0 := by
  induction i with
  | zero => simp [lw]
  | succ i ih => simp only [lw]; omega
theorem lw_und (i : Nat) : lw ds i ≤ und ds i := by
  cases i with
  | zero => simp [lw, und]
  | succ i => simp only [lw]; omega
theorem lw_mono {i j : Nat} (h : i ≤ j) : lw ds j ≤ lw ds i := by
  induction j with
  | zero =>
    have : i = 0 := by omega
    subst this
    exact Int.le_refl _
  | succ j ih =>
    by_cases e : i = j + 1
    · subst e; exact Int.le_refl _
    · have := ih (by omega)
      simp only [lw]
      omega
theorem lw_at (n : Nat) : lw ds n = 0 ∨ ∃ j, 0 < j ∧ j ≤ n ∧ und ds j = lw ds n := by
  induction n with
  | zero => exact .inl rfl
  | succ n ih =>
    simp only [lw]
    rcases Int.le_total (lw ds n) (und ds (n + 1)) with h | h
    · rw [Int.min_eq_left h]
      rcases ih with q | ⟨j, a, b, c⟩
      · exact .inl q
      · exact .inr ⟨j, a, by omega, c⟩
    · rw [Int.min_eq_right h]
      exact .inr ⟨n + 1, by omega, by omega, rfl⟩
/-- at the least brim the water lasts -/
theorem wk_lasts {N : Nat} {b : Int} (hb : -lw ds N ≤ b) : ∀ k i, i + k ≤ N → wk ds b k i (b + und ds i) = (false, b + und ds (i + k)) := by
  intro k
  induction k with
  | zero => intro i _; rfl
  | succ k ih =>
    intro i h
    have h1 := lw_und (ds := ds) (i + 1)
    have h2 : lw ds N ≤ lw ds (i + 1) := lw_mono (by omega)
    have h3 : und ds (i + 1) = min 0 (und ds i + dy ds i) := rfl
    unfold wk
    rw [if_neg (by omega), show min b (b + und ds i + dy ds i) = b + und ds (i + 1) from by omega, ih (i + 1) (by omega), show i + 1 + k = i + (k + 1) from by omega]
theorem wk_dries {b : Int} (hb : 0 ≤ b) : ∀ k i, (∃ j, i < j ∧ j ≤ i + k ∧ b + und ds j < 0) → (wk ds b k i (b + und ds i)).1 = true := by
  intro k
  induction k with
  | zero => rintro i ⟨j, h, h2, _⟩; omega
  | succ k ih =>
    rintro i ⟨j, h, h2, h3⟩
    have h4 : und ds (i + 1) = min 0 (und ds i + dy ds i) := rfl
    unfold wk
    by_cases hd : b + und ds i + dy ds i < 0
    · rw [if_pos hd]
    · rw [if_neg hd, show min b (b + und ds i + dy ds i) = b + und ds (i + 1) from by omega]
      refine ih (i + 1) ⟨j, ?_, by omega, h3⟩
      by_cases e : j = i + 1
      · subst e
        have := h3
        rw [h4] at this
        omega
      · omega
end
end SW

/-! Pools: whole rounds. -/
namespace SW
open PySem PySem.Spec PyProof.Rows L2

/-- the sum of k days from day i on -/
def ps (ds : List Int) : Nat → Nat → Int
  | 0, _ => 0
  | k + 1, i => dy ds i + ps ds k (i + 1)
/-- the lowest sum of the first days -/
def lo (ds : List Int) : Nat → Int
  | 0 => 0
  | k + 1 => min (lo ds k) (ps ds (k + 1) 0)
section
variable {ds : List Int} {b : Int}
theorem ps_add (a c i : Nat) : ps ds (a + c) i = ps ds a i + ps ds c (i + a) := by
  induction a generalizing i with
  | zero => simp [ps]
  | succ a ih =>
    rw [show a + 1 + c = (a + c) + 1 from by omega]
    simp only [ps]
    rw [ih (i + 1), show i + 1 + a = i + (a + 1) from by omega]
    omega
theorem ps_one (i : Nat) : ps ds 1 i = dy ds i := by simp [ps]
theorem ps_succ (k i : Nat) : ps ds (k + 1) i = ps ds k i + dy ds ((i + k : Nat) : Int) := by
  rw [ps_add, ps_one]
theorem dy_get {i : Nat} (h : i < ds.length) : dy ds i = ds[i] := by
  unfold dy
  rw [Int.emod_eq_of_lt (by omega) (by omega), Int.toNat_natCast, List.getD_eq_getElem?_getD, List.getElem?_eq_getElem h]
  rfl
theorem dy_per (i m : Nat) : dy ds ((i + m * ds.length : Nat) : Int) = dy ds i := by
  unfold dy
  rw [show ((i + m * ds.length : Nat) : Int) = (i : Int) + (m : Int) * (ds.length : Int) from by simp, Int.add_mul_emod_self_right]
theorem dy_nat (i : Nat) : dy ds i = dy ds ((i % ds.length : Nat) : Int) := by
  unfold dy
  congr 2
  simp
theorem ps_per (k i m : Nat) : ps ds k (i + m * ds.length) = ps ds k i := by
  induction k generalizing i with
  | zero => rfl
  | succ k ih =>
    simp only [ps]
    rw [dy_per, show i + m * ds.length + 1 = i + 1 + m * ds.length from by omega, ih]
theorem ps_drop : ∀ k i, i + k = ds.length → ps ds k i = (ds.drop i).sum := by
  intro k
  induction k with
  | zero => intro i h; rw [List.drop_eq_nil_of_le (by omega)]; rfl
  | succ k ih =>
    intro i h
    have hi : i < ds.length := by omega
    simp only [ps]
    rw [ih (i + 1) (by omega), dy_get hi, List.drop_eq_getElem_cons hi, List.sum_cons]
theorem ps_all : ps ds ds.length 0 = ds.sum := by rw [ps_drop _ 0 (by omega), List.drop_zero]
theorem lo_le {k s : Nat} (h : s ≤ k) : lo ds k ≤ ps ds s 0 := by
  induction k with
  | zero =>
    have : s = 0 := by omega
    subst this
    exact Int.le_refl _
  | succ k ih =>
    simp only [lo]
    by_cases e : s = k + 1
    · subst e; omega
    · have := ih (by omega)
      omega
theorem lo_at (k : Nat) : ∃ s, s ≤ k ∧ lo ds k = ps ds s 0 := by
  induction k with
  | zero => exact ⟨0, by omega, rfl⟩
  | succ k ih =>
    obtain ⟨s, h1, h2⟩ := ih
    simp only [lo]
    rcases Int.le_total (lo ds k) (ps ds (k + 1) 0) with h | h
    · exact ⟨s, by omega, by omega⟩
    · exact ⟨k + 1, by omega, by omega⟩
theorem lo_nonpos (k : Nat) : lo ds k ≤ 0 := lo_le (s := 0) (by omega)

theorem wk_mono : ∀ k i (l l' : Int), l ≤ l' → (wk ds b k i l).1 = false → (wk ds b k i l').1 = false ∧ (wk ds b k i l).2 ≤ (wk ds b k i l').2 := by
  intro k
  induction k with
  | zero => intro i l l' h _; exact ⟨rfl, h⟩
  | succ k ih =>
    intro i l l' h
    rw [wk_succ, wk_succ]
    by_cases c : l + dy ds i < 0
    · rw [if_pos c]; intro q; cases q
    · rw [if_neg c, if_neg (by omega)]
      exact ih _ _ _ (by omega)
theorem wk_add : ∀ a c i (l : Int), wk ds b (a + c) i l = if (wk ds b a i l).1 = true then wk ds b a i l else wk ds b c (i + a) (wk ds b a i l).2 := by
  intro a
  induction a with
  | zero => intro c i l; simp [wk]
  | succ a ih =>
    intro c i l
    rw [show a + 1 + c = (a + c) + 1 from by omega, wk_succ, wk_succ]
    by_cases h : l + dy ds i < 0
    · rw [if_pos h, if_pos h, if_pos rfl]
    · rw [if_neg h, if_neg h, ih, show i + 1 + a = i + (a + 1) from by omega]
theorem wk_per (m : Nat) : ∀ k i (l : Int), wk ds b k (i + m * ds.length) l = ((wk ds b k i l).1, if (wk ds b k i l).1 = true then (wk ds b k i l).2 + (m * ds.length : Nat) else (wk ds b k i l).2) := by
  intro k
  induction k with
  | zero => intro i l; rfl
  | succ k ih =>
    intro i l
    rw [wk_succ, wk_succ, dy_per]
    by_cases h : l + dy ds i < 0
    · rw [if_pos h, if_pos h]
      simp
    · rw [if_neg h, if_neg h, show i + m * ds.length + 1 = i + 1 + m * ds.length from by omega, ih]
theorem wk_cap : ∀ k i, ∃ c, c ≤ b ∧ (∀ s, 1 ≤ s → s ≤ k → c ≤ b + ps ds (k - s) (i + s)) ∧ ∀ l, l ≤ b → (wk ds b k i l).1 = false → (wk ds b k i l).2 = min c (l + ps ds k i) := by
  intro k
  induction k with
  | zero => intro i; exact ⟨b, by omega, fun s h1 h2 => by omega, fun l h _ => by simp only [wk, ps]; omega⟩
  | succ k ih =>
    intro i
    obtain ⟨c, h1, h2, h3⟩ := ih (i + 1)
    refine ⟨min c (b + ps ds k (i + 1)), by omega, fun s s1 s2 => ?_, fun l hl => ?_⟩
    · by_cases e : s = 1
      · subst e
        rw [show k + 1 - 1 = k from by omega]
        omega
      · have := h2 (s - 1) (by omega) (by omega)
        rw [show k - (s - 1) = k + 1 - s from by omega, show i + 1 + (s - 1) = i + s from by omega] at this
        omega
    · rw [wk_succ]
      by_cases c : l + dy ds i < 0
      · rw [if_pos c]; intro q; cases q
      · rw [if_neg c]
        intro q
        rw [h3 _ (by omega) q]
        simp only [ps]
        omega
theorem wk_free : ∀ k i (l : Int), (∀ s, s ≤ k → l + ps ds s i ≤ b) → ((∀ s, s ≤ k → 0 ≤ l + ps ds s i) → wk ds b k i l = (false, l + ps ds k i)) ∧ ((∃ s, s ≤ k ∧ l + ps ds s i < 0) → 0 ≤ l → (wk ds b k i l).1 = true) := by
  intro k
  induction k with
  | zero =>
    intro i l _
    refine ⟨fun _ => by simp [wk, ps], fun ⟨s, h1, h2⟩ h0 => ?_⟩
    have : s = 0 := by omega
    subst this
    simp [ps] at h2
    omega
  | succ k ih =>
    intro i l h
    have h1 := h 1 (by omega)
    rw [ps_one] at h1
    have sh : ∀ s, l + dy ds i + ps ds s (i + 1) = l + ps ds (s + 1) i := fun s => by simp only [ps]; omega
    obtain ⟨g1, g2⟩ := ih (i + 1) (l + dy ds i) (fun s hs => by rw [sh]; exact h (s + 1) (by omega))
    rw [wk_succ]
    refine ⟨fun hs => ?_, fun ⟨s, hs, hn⟩ h0 => ?_⟩
    · have := hs 1 (by omega)
      rw [ps_one] at this
      rw [if_neg (by omega), show min b (l + dy ds i) = l + dy ds i from by omega, g1 (fun s q => by rw [sh]; exact hs (s + 1) (by omega)), sh]
    · by_cases c : l + dy ds i < 0
      · rw [if_pos c]
      · rw [if_neg c, show min b (l + dy ds i) = l + dy ds i from by omega]
        refine g2 ⟨s - 1, by omega, ?_⟩ (by omega)
        rw [sh]
        have : s ≠ 0 := fun e => by subst e; simp [ps] at hn; omega
        rw [show s - 1 + 1 = s from by omega]
        exact hn
theorem wk_bounds : ∀ k i (l : Int), 0 ≤ b → 0 ≤ l → l ≤ b → (wk ds b k i l).1 = false → 0 ≤ (wk ds b k i l).2 ∧ (wk ds b k i l).2 ≤ b := by
  intro k
  induction k with
  | zero => intro i l _ h0 h1 _; exact ⟨h0, h1⟩
  | succ k ih =>
    intro i l hb h0 h1
    rw [wk_succ]
    by_cases c : l + dy ds i < 0
    · rw [if_pos c]; intro q; cases q
    · rw [if_neg c]
      exact ih _ _ hb (by omega) (by omega)
/-- two rounds passed, the days come to nought or more: so does every round -/
theorem rounds_up {l : Int} (hb : 0 ≤ b) (hl : l ≤ b) (ht : 0 ≤ ds.sum) (h : (wk ds b (2 * ds.length) 0 l).1 = false) :
    (wk ds b ds.length 0 b).1 = false ∧ ∀ r : Nat, wk ds b (r * ds.length) 0 (wk ds b (2 * ds.length) 0 l).2 = (false, min (wk ds b ds.length 0 b).2 ((wk ds b (2 * ds.length) 0 l).2 + r * ds.sum)) := by
  obtain ⟨c, c1, _, c3⟩ := wk_cap (ds := ds) (b := b) ds.length 0
  rw [ps_all] at c3
  rw [show 2 * ds.length = ds.length + ds.length from by omega, wk_add] at h ⊢
  by_cases d : (wk ds b ds.length 0 l).1 = true
  · rw [if_pos d, d] at h; cases h
  have d' : (wk ds b ds.length 0 l).1 = false := by simpa using d
  have full := wk_mono ds.length 0 l b hl d'
  have ec := c3 b (by omega) full.1
  have e1 := c3 l hl d'
  rw [if_neg d] at h ⊢
  have pz := wk_per (ds := ds) (b := b) 1 ds.length 0 (wk ds b ds.length 0 l).2
  simp only [Nat.one_mul] at pz
  rw [pz] at h ⊢
  have h' : (wk ds b ds.length 0 (wk ds b ds.length 0 l).2).1 = false := h
  have e2 := c3 _ (by omega) h'
  refine ⟨full.1, fun r => ?_⟩
  rw [h']
  simp only [Bool.false_eq_true, if_false]
  generalize hl1 : (wk ds b ds.length 0 l).2 = l1 at *
  generalize hl2 : (wk ds b ds.length 0 l1).2 = l2 at *
  rw [ec]
  induction r with
  | zero => simp [wk]; omega
  | succ r ih =>
    rw [show (r + 1) * ds.length = r * ds.length + ds.length from by rw [Nat.succ_mul], wk_add, ih]
    simp only [Bool.false_eq_true, if_false]
    rw [wk_per]
    have rt : (0 : Int) ≤ r * ds.sum := Int.mul_nonneg (by omega) ht
    have ex : ((r + 1 : Nat) : Int) * ds.sum = r * ds.sum + ds.sum := by rw [Int.natCast_add, Int.add_mul]; simp
    have m := wk_mono (ds := ds) (b := b) ds.length 0 l1 (min (min c (b + ds.sum)) (l2 + r * ds.sum)) (by omega) h'
    rw [m.1]
    simp only [Bool.false_eq_true, if_false]
    rw [c3 _ (by omega) m.1, ex]
    congr 1
    omega
/-- a round passed, the days come to less than nought: from then on nothing spills -/
theorem rounds_down {l : Int} (hb : 0 ≤ b) (h0 : 0 ≤ l) (hl : l ≤ b) (ht : ds.sum < 0) (h : (wk ds b (2 * ds.length) 0 l).1 = false) (hn : 0 < ds.length) :
    (∀ r : Nat, (r : Int) ≤ max 0 (((wk ds b (2 * ds.length) 0 l).2 + lo ds ds.length) / (0 - ds.sum) + 1) → wk ds b (r * ds.length) 0 (wk ds b (2 * ds.length) 0 l).2 = (false, (wk ds b (2 * ds.length) 0 l).2 + r * ds.sum)) ∧
    ∀ r : Nat, (r : Int) = max 0 (((wk ds b (2 * ds.length) 0 l).2 + lo ds ds.length) / (0 - ds.sum) + 1) → (wk ds b ds.length 0 ((wk ds b (2 * ds.length) 0 l).2 + r * ds.sum)).1 = true := by
  have bd := wk_bounds (ds := ds) (2 * ds.length) 0 l hb h0 hl h
  have low : ∀ s, s ≤ ds.length → (wk ds b (2 * ds.length) 0 l).2 + ps ds s 0 ≤ b := by
    obtain ⟨c, c1, c2, c3⟩ := wk_cap (ds := ds) (b := b) (2 * ds.length) 0
    rw [c3 l hl h]
    intro s hs
    by_cases z : s = 0
    · subst z
      simp only [ps]
      omega
    · have k := c2 (ds.length + s) (by omega) (by omega)
      rw [show 2 * ds.length - (ds.length + s) = ds.length - s from by omega, show 0 + (ds.length + s) = s + 1 * ds.length from by omega, ps_per] at k
      have a := ps_add (ds := ds) s (ds.length - s) 0
      rw [show s + (ds.length - s) = ds.length from by omega, ps_all, Nat.zero_add] at a
      omega
  generalize (wk ds b (2 * ds.length) 0 l).2 = l2 at *
  have ex : ∀ r : Nat, ((r + 1 : Nat) : Int) * ds.sum = r * ds.sum + ds.sum := fun r => by rw [Int.natCast_add, Int.add_mul]; simp
  have rn : ∀ r : Nat, (r : Int) * ds.sum ≤ 0 := fun r => by
    induction r with
    | zero => simp
    | succ r ih => rw [ex]; omega
  have one : ∀ (r : Nat), 0 ≤ l2 + r * ds.sum + lo ds ds.length → wk ds b ds.length 0 (l2 + r * ds.sum) = (false, l2 + r * ds.sum + ds.sum) := fun r hr => by
    have q := (wk_free (ds := ds) (b := b) ds.length 0 (l2 + r * ds.sum) (fun s hs => by have := low s hs; have := rn r; omega)).1 (fun s hs => by have := lo_le (ds := ds) hs; omega)
    rw [q, ps_all]
  have dv : ∀ r : Nat, (r : Int) ≤ (l2 + lo ds ds.length) / (0 - ds.sum) → 0 ≤ l2 + r * ds.sum + lo ds ds.length := fun r hr => by
    have := (Int.le_ediv_iff_mul_le (a := (r : Int)) (b := l2 + lo ds ds.length) (c := 0 - ds.sum) (by omega)).mp hr
    rw [Int.mul_sub, Int.mul_zero] at this
    omega
  constructor
  · intro r
    induction r with
    | zero => intro _; simp [wk]
    | succ r ih =>
      intro hr
      rw [show (r + 1) * ds.length = r * ds.length + ds.length from by rw [Nat.succ_mul], wk_add, ih (by omega)]
      simp only [Bool.false_eq_true, if_false]
      rw [wk_per, one r (dv r (by omega)), ex]
      simp only [Bool.false_eq_true, if_false]
      congr 1
      omega
  · intro r hr
    obtain ⟨s, hs, es⟩ := lo_at (ds := ds) ds.length
    refine (wk_free (ds := ds) (b := b) ds.length 0 (l2 + r * ds.sum) (fun s hs => by have := low s hs; have := rn r; omega)).2 ⟨s, hs, ?_⟩ ?_
    · rw [← es]
      have nlt : ¬ ((r : Int) ≤ (l2 + lo ds ds.length) / (0 - ds.sum)) := by omega
      rw [Int.le_ediv_iff_mul_le (by omega), Int.mul_sub, Int.mul_zero] at nlt
      omega
    · rcases r with _ | r
      · simp; omega
      · have := dv r (by omega)
        have ll : lo ds ds.length ≤ ds.sum := by rw [← ps_all]; exact lo_le (Nat.le_refl _)
        rw [ex]
        omega
/-- what is passed at once -/
theorem passed_ok {l : Int} (hb : 0 ≤ b) (h0 : 0 ≤ l) (hl : l ≤ b) (hn : 0 < ds.length) (h : (wk ds b (2 * ds.length) 0 l).1 = false) (m : Nat) (l1 : Int) (e1 : (wk ds b (2 * ds.length) 0 l).2 = l1) : ∃ (rr : Nat) (l2 : Int),
    (if 0 ≤ ds.sum then PV.tup [.int ((m / ds.length : Nat) : Int), .int (min (wk ds b ds.length 0 b).2 (l1 + ((m / ds.length : Nat) : Int) * ds.sum))] else .tup [.int (min ((m / ds.length : Nat) : Int) (max 0 ((l1 + lo ds ds.length) / (0 - ds.sum) + 1))), .int (l1 + min ((m / ds.length : Nat) : Int) (max 0 ((l1 + lo ds ds.length) / (0 - ds.sum) + 1)) * ds.sum)]) = .tup [.int rr, .int l2] ∧
    rr ≤ m / ds.length ∧ wk ds b (rr * ds.length) 0 l1 = (false, l2) ∧ (rr = m / ds.length ∨ (wk ds b ds.length 0 l2).1 = true) := by
  subst e1
  by_cases ht : 0 ≤ ds.sum
  · rw [if_pos ht]
    obtain ⟨-, q⟩ := rounds_up hb hl ht h
    exact ⟨_, _, rfl, Nat.le_refl _, q _, .inl rfl⟩
  · rw [if_neg ht]
    obtain ⟨q1, q2⟩ := rounds_down hb h0 hl (by omega) h hn
    generalize hx : max 0 (((wk ds b (2 * ds.length) 0 l).2 + lo ds ds.length) / (0 - ds.sum) + 1) = x at *
    have x0 : 0 ≤ x := by omega
    generalize m / ds.length = R
    refine ⟨(min (R : Int) x).toNat, (wk ds b (2 * ds.length) 0 l).2 + min (R : Int) x * ds.sum, ?_, by omega, ?_, ?_⟩
    · rw [show (((min (R : Int) x).toNat : Nat) : Int) = min (R : Int) x from by omega]
    · rw [q1 _ (by omega), show (((min (R : Int) x).toNat : Nat) : Int) = min (R : Int) x from by omega]
    · by_cases c : (R : Int) ≤ x
      · exact .inl (by omega)
      · right
        have q := q2 x.toNat (by omega)
        rw [show ((x.toNat : Nat) : Int) = x from by omega] at q
        rw [show min (R : Int) x = x from by omega]
        exact q
theorem behind_ok {l l1 l2 : Int} {rr m : Nat} (hn : 0 < ds.length) (h : wk ds b (2 * ds.length) 0 l = (false, l1)) (hr : rr ≤ m / ds.length) (h2 : wk ds b (rr * ds.length) 0 l1 = (false, l2)) (h3 : rr = m / ds.length ∨ (wk ds b ds.length 0 l2).1 = true) :
    wk ds b (2 * ds.length + m) 0 l = if (wk ds b (min (m - rr * ds.length) ds.length) 0 l2).1 = true then (true, ((2 * ds.length + rr * ds.length : Nat) : Int) + (wk ds b (min (m - rr * ds.length) ds.length) 0 l2).2) else wk ds b (min (m - rr * ds.length) ds.length) 0 l2 := by
  have hm : rr * ds.length ≤ m := Nat.le_trans (Nat.mul_le_mul_right _ hr) (Nat.div_mul_le_self _ _)
  have rest : wk ds b (m - rr * ds.length) 0 l2 = wk ds b (min (m - rr * ds.length) ds.length) 0 l2 := by
    by_cases c : m - rr * ds.length ≤ ds.length
    · rw [Nat.min_eq_left c]
    · rw [Nat.min_eq_right (by omega)]
      rcases h3 with q | q
      · exfalso
        rw [q] at c
        have := Nat.mod_lt m hn
        have e := Nat.div_add_mod m ds.length
        rw [Nat.mul_comm] at e
        omega
      · have a := wk_add (ds := ds) (b := b) ds.length (m - rr * ds.length - ds.length) 0 l2
        rw [if_pos q] at a
        rw [← a]
        congr 1
        omega
  rw [wk_add, h]
  simp only [Bool.false_eq_true, if_false]
  rw [wk_per]
  have a := wk_add (ds := ds) (b := b) (rr * ds.length) (m - rr * ds.length) 0 l1
  rw [h2, wk_per, rest, show rr * ds.length + (m - rr * ds.length) = m from by omega] at a
  simp only [Bool.false_eq_true, if_false] at a
  rw [a]
  generalize wk ds b (min (m - rr * ds.length) ds.length) 0 l2 = r
  obtain ⟨r1, r2⟩ := r
  cases r1
  · simp
  · simp only [if_true]
    congr 1
    simp only [Int.natCast_add]
    omega
/-! ### lasting -/
theorem und_ps (i : Nat) : und ds i ≤ ps ds i 0 := by
  induction i with
  | zero => exact Int.le_refl _
  | succ i ih =>
    have h : und ds (i + 1) = min 0 (und ds i + dy ds i) := rfl
    have e := ps_succ (ds := ds) i 0
    rw [Nat.zero_add] at e
    omega
theorem lw_lo (k : Nat) : lw ds k ≤ SW.lo ds k := by
  obtain ⟨s, h1, h2⟩ := lo_at (ds := ds) k
  have a := lw_mono (ds := ds) h1
  have b := lw_und (ds := ds) s
  have c := und_ps (ds := ds) s
  omega
theorem wk_last {least : Int} {N : Nat} (h1 : -lw ds N ≤ b) (h2 : ∀ i, i ≤ N → 0 ≤ least + ps ds i 0) : ∀ k i (l : Int), i + k ≤ N → (least + ps ds i 0 ≤ l ∨ b + und ds i ≤ l) → (wk ds b k i l).1 = false := by
  intro k
  induction k with
  | zero => intro i l _ _; rfl
  | succ k ih =>
    intro i l hi hl
    have e := ps_succ (ds := ds) i 0
    rw [Nat.zero_add] at e
    have u : und ds (i + 1) = min 0 (und ds i + dy ds i) := rfl
    have a := lw_und (ds := ds) (i + 1)
    have c := lw_mono (ds := ds) (show i + 1 ≤ N from by omega)
    have d := h2 (i + 1) (by omega)
    rw [wk_succ, if_neg (by omega)]
    exact ih _ _ (by omega) (by omega)
theorem wk_low (hb : 0 ≤ b) : ∀ k i (l : Int), 0 ≤ l → (∃ s, s ≤ k ∧ l + ps ds s i < 0) → (wk ds b k i l).1 = true := by
  intro k
  induction k with
  | zero =>
    rintro i l h0 ⟨s, h1, h2⟩
    have : s = 0 := by omega
    subst this
    simp only [ps] at h2
    omega
  | succ k ih =>
    rintro i l h0 ⟨s, h1, h2⟩
    rw [wk_succ]
    by_cases c : l + dy ds i < 0
    · rw [if_pos c]
    · rw [if_neg c]
      rcases s with _ | s
      · simp only [ps] at h2
        omega
      · simp only [ps] at h2
        exact ih _ _ (by omega) ⟨s, by omega, by omega⟩
theorem ps_rounds (m i : Nat) (hn : 0 < ds.length) : ps ds m i = ((m / ds.length : Nat) : Int) * ds.sum + ps ds (m % ds.length) i := by
  have one : ∀ i, ps ds ds.length i = ds.sum := fun i => by
    induction i with
    | zero => exact ps_all
    | succ i ih =>
      have a := ps_add (ds := ds) 1 ds.length i
      have c := ps_add (ds := ds) ds.length 1 i
      rw [Nat.add_comm ds.length 1, ps_one] at c
      rw [ps_one] at a
      have p := dy_per (ds := ds) i 1
      rw [Nat.one_mul] at p
      omega
  have rs : ∀ q, ps ds (q * ds.length) i = (q : Int) * ds.sum := fun q => by
    induction q with
    | zero => simp [ps]
    | succ q ih =>
      rw [show (q + 1) * ds.length = q * ds.length + ds.length from by rw [Nat.succ_mul], ps_add, ih, one, Int.natCast_add, Int.add_mul]
      simp
  have e := Nat.div_add_mod m ds.length
  rw [Nat.mul_comm] at e
  have a := ps_add (ds := ds) (m / ds.length * ds.length) (m % ds.length) i
  rw [e, rs, ps_per] at a
  exact a
/-- a stretch's sum -/
def sg (ds : List Int) (first many : Int) : Int := many / ds.length * ds.sum + ps ds (many % ds.length).toNat first.toNat
theorem sg_ps (hn : 0 < ds.length) (f m : Nat) : sg ds ((f % ds.length : Nat) : Int) m = ps ds m f := by
  unfold sg
  rw [ps_rounds m f hn, ← Int.natCast_ediv, ← Int.natCast_emod, Int.toNat_natCast, Int.toNat_natCast]
  congr 1
  have e := Nat.div_add_mod f ds.length
  rw [Nat.mul_comm] at e
  have p := ps_per (ds := ds) (m % ds.length) (f % ds.length) (f / ds.length)
  rw [show f % ds.length + f / ds.length * ds.length = f from by omega] at p
  exact p.symm
theorem wk_ix : ∀ k i (l : Int), (wk ds b k i l).1 = true → (i : Int) ≤ (wk ds b k i l).2 ∧ (wk ds b k i l).2 < i + k := by
  intro k
  induction k with
  | zero => intro i l h; cases h
  | succ k ih =>
    intro i l
    rw [wk_succ]
    by_cases c : l + dy ds i < 0
    · rw [if_pos c]
      intro _
      refine ⟨Int.le_refl _, ?_⟩
      show (i : Int) < _
      omega
    · rw [if_neg c]
      intro h
      have := ih _ _ h
      omega
theorem dy_turn {f : Nat} (hf : f ≤ ds.length) (hn : 0 < ds.length) (j : Nat) : dy (ds.drop f ++ ds.take f) j = dy ds ((f + j : Nat) : Int) := by
  have tl : (ds.drop f ++ ds.take f).length = ds.length := by simp only [List.length_append, List.length_drop, List.length_take]; omega
  have e1 := dy_nat (ds := ds.drop f ++ ds.take f) j
  rw [tl] at e1
  have hj := Nat.mod_lt j hn
  have e2 : dy ds ((f + j : Nat) : Int) = dy ds ((f + j % ds.length : Nat) : Int) := by
    have p := dy_per (ds := ds) (f + j % ds.length) (j / ds.length)
    have e := Nat.div_add_mod j ds.length
    rw [Nat.mul_comm] at e
    rw [show f + j % ds.length + j / ds.length * ds.length = f + j from by omega] at p
    exact p
  rw [e1, e2]
  generalize j % ds.length = r at hj
  rw [dy_get (by omega)]
  by_cases c : r < ds.length - f
  · rw [List.getElem_append_left (by simpa using c), dy_get (by omega)]
    simp
  · have p := dy_per (ds := ds) (f + r - ds.length) 1
    rw [Nat.one_mul, show f + r - ds.length + ds.length = f + r from by omega] at p
    rw [p, dy_get (by omega), List.getElem_append_right (by simpa using c), List.getElem_take]
    congr 1
    simp
    omega
theorem ps_turn {f : Nat} (hf : f ≤ ds.length) (k i : Nat) : ps (ds.drop f ++ ds.take f) k i = ps ds k (f + i) := by
  by_cases hn : 0 < ds.length
  · induction k generalizing i with
    | zero => rfl
    | succ k ih =>
      simp only [ps]
      rw [dy_turn hf hn, ih (i + 1), Nat.add_assoc]
  · have : ds = [] := List.eq_nil_of_length_eq_zero (by omega)
    subst this
    have z : ∀ k i, ps [] k i = 0 := fun k => by
      induction k with
      | zero => intro i; rfl
      | succ k ih => intro i; simp only [ps]; rw [ih]; simp [dy]
    simp [z]
theorem wk_turn {f : Nat} (hf : f ≤ ds.length) (hn : 0 < ds.length) : ∀ k i (l : Int), wk ds b k (f + i) l = ((wk (ds.drop f ++ ds.take f) b k i l).1, if (wk (ds.drop f ++ ds.take f) b k i l).1 = true then (f : Int) + (wk (ds.drop f ++ ds.take f) b k i l).2 else (wk (ds.drop f ++ ds.take f) b k i l).2) := by
  intro k
  induction k with
  | zero => intro i l; rfl
  | succ k ih =>
    intro i l
    rw [wk_succ, wk_succ, dy_turn hf hn]
    by_cases h : l + dy ds ((f + i : Nat) : Int) < 0
    · rw [if_pos h, if_pos h]
      simp
    · rw [if_neg h, if_neg h, Nat.add_assoc, ih]
theorem wk_dry_at : ∀ k i (l : Int), (wk ds b k i l).1 = true → ∃ d, d < k ∧ wk ds b k i l = (true, ((i + d : Nat) : Int)) ∧ (wk ds b d i l).1 = false ∧ (wk ds b d i l).2 + dy ds ((i + d : Nat) : Int) < 0 := by
  intro k
  induction k with
  | zero => intro i l h; cases h
  | succ k ih =>
    intro i l
    rw [wk_succ]
    by_cases c : l + dy ds i < 0
    · rw [if_pos c]
      intro _
      exact ⟨0, by omega, rfl, rfl, c⟩
    · rw [if_neg c]
      intro h
      obtain ⟨d, h1, h2, h3, h4⟩ := ih _ _ h
      refine ⟨d + 1, by omega, by rw [h2, show i + 1 + d = i + (d + 1) from by omega], ?_, ?_⟩
      · rw [wk_succ, if_neg c]; exact h3
      · rw [wk_succ, if_neg c, show i + (d + 1) = i + 1 + d from by omega]; exact h4
theorem pick4 {x0 x1 x2 x3 : PV} {i : Int} (h0 : 0 ≤ i) (h1 : i < 4) : ∃ x, atI [x0, x1, x2, x3] i = some x ∧ (x = x0 ∨ x = x1 ∨ x = x2 ∨ x = x3) := by
  have : i = 0 ∨ i = 1 ∨ i = 2 ∨ i = 3 := by omega
  rcases this with rfl | rfl | rfl | rfl
  · exact ⟨x0, rfl, by simp⟩
  · exact ⟨x1, rfl, by simp⟩
  · exact ⟨x2, rfl, by simp⟩
  · exact ⟨x3, rfl, by simp⟩
theorem pick3 {x0 x1 x2 : PV} {i : Int} (h0 : 0 ≤ i) (h1 : i < 3) : ∃ x, atI [x0, x1, x2] i = some x ∧ (x = x0 ∨ x = x1 ∨ x = x2) := by
  have : i = 0 ∨ i = 1 ∨ i = 2 := by omega
  rcases this with rfl | rfl | rfl
  · exact ⟨x0, rfl, by simp⟩
  · exact ⟨x1, rfl, by simp⟩
  · exact ⟨x2, rfl, by simp⟩
/-! ### places in the store -/
def lstM (o : Option PObj) : Option (List PV) := match o with
  | some (.lst xs) => some xs
  | _ => none
theorem lstM_some (xs : List PV) : lstM (some (.lst xs)) = some xs := rfl
theorem pw_addL {a c : Nat} {M : Sto} {Q : PV → Sto → Prop} : pwR (Res.of (opB .Add (.loc a) (.loc c) M)) Q ↔ isS (lstM M[a]?) fun xs => isS (lstM M[c]?) fun ys => (xs ++ ys).length ≤ LINE ∧ Q (.loc M.length) (M ++ [.lst (xs ++ ys)]) := by
  simp only [opB]
  rcases M[a]? with _ | (xs | xs)
  · exact Iff.rfl
  · rcases M[c]? with _ | (ys | ys)
    · exact Iff.rfl
    · exact pw_new _
    · exact Iff.rfl
  · exact Iff.rfl
theorem isS_newL {M : Sto} {xs : List PV} {P : PV × Sto → Prop} : isS (newL M xs) P ↔ xs.length ≤ LINE ∧ P (.loc M.length, M ++ [.lst xs]) := by
  unfold newL
  by_cases h : xs.length ≤ LINE
  · rw [if_pos h]; exact ⟨fun q => ⟨h, q⟩, fun q => q.2⟩
  · rw [if_neg h]; exact ⟨fun q => q.elim, fun q => h q.1⟩
theorem get_app_k {M l : Sto} {k : Nat} : (M ++ l)[M.length + k]? = l[k]? := by
  rw [List.getElem?_append_right (by omega)]
  congr 1
  omega
theorem get_app_0 {M l : Sto} : (M ++ l)[M.length]? = l[0]? := get_app_k (k := 0)
theorem lit_le {n : Nat} : n ≤ LINE ↔ n ≤ 16777216 := Iff.rfl
theorem str_int {M : Sto} {i : Int} : opM .str [.int i] M = if i.natAbs.log2 < 1920 then some (.str (toString i : Str).cps.toList, M) else none := rfl
/-! ### the data of a value -/
theorem toD_non {M : Sto} {k : Nat} : toD M k .non = some .none := by cases k <;> rfl
theorem toD_bl {M : Sto} {k : Nat} {b : Bool} : toD M k (.bl b) = some (.bool b) := by cases k <;> rfl
theorem toD_int {M : Sto} {k : Nat} {i : Int} : toD M k (.int i) = some (.int i) := by cases k <;> rfl
theorem toD_str {M : Sto} {k : Nat} {s : List Nat} : toD M k (.str s) = some (.str ⟨s.toArray⟩) := by cases k <;> rfl
theorem toD_tup {M : Sto} {k : Nat} {xs : List PV} : toD M (k + 1) (.tup xs) = (mapO (toD M k) xs).map .tuple := rfl
theorem toD_loc {M : Sto} {k n : Nat} {xs : List PV} (h : M[n]? = some (.lst xs)) : toD M (k + 1) (.loc n) = (mapO (toD M k) xs).map PyData.list := by
  show (match lst? M (.loc n) with
    | some xs => (mapO (toD M k) xs).map PyData.list
    | none => none) = _
  rw [lst_of h]
theorem toD_locM {M : Sto} {k n : Nat} : toD M (k + 1) (.loc n) = match M[n]? with
    | some (.lst xs) => (mapO (toD M k) xs).map PyData.list
    | some (.frz xs) => (mapO (toD M k) xs).map PyData.list
    | none => none := by
  show (match lst? M (.loc n) with
    | some xs => (mapO (toD M k) xs).map PyData.list
    | none => none) = _
  simp only [lst?]
  rcases M[n]? with _ | (_ | _) <;> rfl
theorem mapO_nil {α β : Type} {f : α → Option β} : mapO f [] = some [] := rfl
theorem mapO_cons {α β : Type} {f : α → Option β} {x : α} {xs : List α} {y : β} {ys : List β} (h : f x = some y) (k : mapO f xs = some ys) : mapO f (x :: xs) = some (y :: ys) := by simp only [mapO, h, k]
theorem toD_kept {M M' : Sto} (kp : Kept [] M M') : ∀ (k : Nat) (v : PV) (d : PyData), toD M k v = some d → toD M' k v = some d := by
  intro k
  induction k with
  | zero =>
    intro v d h
    cases v with
    | tup xs => cases h
    | loc n => cases h
    | _ => exact h
  | succ k ih =>
    have ihm : ∀ (xs : List PV) ds, mapO (toD M k) xs = some ds → mapO (toD M' k) xs = some ds := by
      intro xs
      induction xs with
      | nil => intro ds h; exact h
      | cons x xs ihx =>
        intro ds h
        simp only [mapO] at h
        split at h
        · rename_i y ys h1 h2
          cases h
          exact mapO_cons (ih _ _ h1) (ihx _ h2)
        · cases h
    intro v d h
    cases v with
    | tup xs =>
      rw [toD_tup] at h ⊢
      obtain ⟨ds, h1, rfl⟩ := Option.map_eq_some_iff.mp h
      rw [ihm _ _ h1]
      rfl
    | loc n =>
      rw [toD_locM] at h ⊢
      split at h
      · rename_i xs e
        rw [kp.obj e (by simp)]
        obtain ⟨ds, h1, rfl⟩ := Option.map_eq_some_iff.mp h
        simp only [ihm _ _ h1, Option.map_some]
      · rename_i xs e
        rw [kp.obj e (by simp)]
        obtain ⟨ds, h1, rfl⟩ := Option.map_eq_some_iff.mp h
        simp only [ihm _ _ h1, Option.map_some]
      · cases h
    | _ =>
      first
        | (rw [toD_non] at h ⊢; exact h)
        | (rw [toD_bl] at h ⊢; exact h)
        | (rw [toD_int] at h ⊢; exact h)
        | (rw [toD_str] at h ⊢; exact h)
/-- == of things whose data are known -/
theorem opC_eqD {M : Sto} {x y : PV} {d e : PyData} (hx : toD M 12 x = some d) (hy : toD M 12 y = some e) (cx : d.canLay0 = true) (cy : e.canLay0 = true) : opC .Eq x y M = some (PyData.eqv d e) := by
  simp only [opC, eqP, hx, hy, cx, cy, Bool.and_self, if_true]
theorem opC_same {M : Sto} {x y : PV} {d : PyData} (hx : toD M 12 x = some d) (hy : toD M 12 y = some d) (cx : d.canLay0 = true) : opC .Eq x y M = some true := by
  rw [opC_eqD hx hy cx cx, SeqAt.eqv_refl_plain d (PyData.plain_of_canLay0 d cx)]
theorem strOk_int (i : Int) : PyData.strOk (toString i : Str) = true := by
  unfold PyData.strOk
  rw [← Array.all_toList, List.all_eq_true]
  intro k hk
  rw [decide_eq_true_eq]
  by_cases c : k ≠ 45 ∧ (k < 48 ∨ 57 < k)
  · exact absurd hk (int_text_free' k c i)
  · omega
theorem opC_isnotN {M : Sto} : opC .IsNot .non .non M = some false := rfl
theorem opC_isnotI {M : Sto} {i : Int} : opC .IsNot (.int i) .non M = some true := rfl
theorem opC_isN {M : Sto} : opC .Is .non .non M = some true := rfl
theorem opC_isI {M : Sto} {i : Int} : opC .Is (.int i) .non M = some false := rfl
theorem opC_isT {M : Sto} {i : List PV} : opC .Is (.tup i) .non M = some false := rfl
theorem is_bb {M : Sto} {a c : Bool} : opC .IsNot (.bl a) (.bl c) M = some (!decide (a = c)) := rfl
theorem opC_neB {M : Sto} {a c : Bool} : opC .NotEq (.bl a) (.bl c) M = some (!(a == c)) := by cases a <;> cases c <;> rfl
theorem opC_eqB {M : Sto} {a c : Bool} : opC .Eq (.bl a) (.bl c) M = some (a == c) := by cases a <;> cases c <;> rfl
theorem Kept.appL {S : List Nat} {M l : Sto} : SW.Kept S M (M ++ l) := ⟨by simp, fun n _ h => List.getElem?_append_left h⟩
theorem app_intro {P : Sto → Prop} {M l : Sto} (h : ∀ M', (∀ k, M'[M.length + k]? = l[k]?) → M'[M.length]? = l[0]? → SW.Kept [] M M' → P M') : P (M ++ l) := h _ (fun _ => get_app_k) get_app_0 Kept.appL
theorem strOk_int2 (i : Int) : PyData.strOk ⟨(Str.ofString (toString i)).cps.toList.toArray⟩ = true := by
  have h := strOk_int i
  simpa using h
theorem log_ok {i : Int} (h0 : 0 ≤ i) (h1 : i ≤ 1000000000000000000000000000000000000000000) : i.natAbs.log2 < 1920 :=
  Nat.lt_of_lt_of_le (PySem.Flt.log2_lt_of (k := 200) (by decide) (by omega)) (by decide)
theorem und_le_ps (s j : Nat) : und ds (j + s) ≤ ps ds s j := by
  induction s with
  | zero => exact und_le j
  | succ s ih =>
    have h : und ds (j + s + 1) = min 0 (und ds (j + s) + dy ds ((j + s : Nat) : Int)) := rfl
    have e := ps_succ (ds := ds) s j
    rw [← Nat.add_assoc]
    omega
theorem sg_ge (hd : 0 < ds.length) (hs : 0 ≤ ds.sum) {f m : Int} (f0 : 0 ≤ f) (f1 : f < ds.length) (m1 : 1 ≤ m) : lw ds (2 * ds.length) ≤ sg ds f m := by
  obtain ⟨f, rfl⟩ : ∃ g : Nat, f = (g : Int) := ⟨f.toNat, by omega⟩
  obtain ⟨m, rfl⟩ : ∃ g : Nat, m = (g : Int) := ⟨m.toNat, by omega⟩
  unfold sg
  have q0 : (0 : Int) ≤ (m : Int) / ds.length * ds.sum := Int.mul_nonneg (Int.ediv_nonneg (by omega) (by omega)) hs
  rw [← Int.natCast_emod, Int.toNat_natCast, Int.toNat_natCast]
  have hm := Nat.mod_lt m hd
  have a := und_le_ps (ds := ds) (m % ds.length) f
  have c := lw_und (ds := ds) (f + m % ds.length)
  have d := lw_mono (ds := ds) (show f + m % ds.length ≤ 2 * ds.length from by omega)
  omega
theorem wk_more {a c i : Nat} {l : Int} (h : (wk ds b a i l).1 = true) : (wk ds b (a + c) i l).1 = true := by
  rw [wk_add, if_pos h, h]
theorem wk_from (b0 : 0 ≤ b) {l : Int} (l0 : 0 ≤ l) (lb : l ≤ b) {f m : Nat} (hs : ps ds m f + b < 0) : (wk ds b (f + m) 0 l).1 = true := by
  rw [wk_add]
  split
  · assumption
  · rename_i c
    have bd := wk_bounds (ds := ds) f 0 l b0 l0 lb (by simpa using c)
    exact wk_low b0 m _ _ bd.1 ⟨m, Nat.le_refl _, by rw [Nat.zero_add]; omega⟩
theorem ps_le {B : Int} (hB : ∀ i : Nat, dy ds i ≤ B) (k i : Nat) : ps ds k i ≤ k * B := by
  induction k generalizing i with
  | zero => simp [ps]
  | succ k ih =>
    have := ih (i + 1)
    have := hB i
    simp only [ps]
    rw [Int.natCast_add, Int.add_mul]
    omega
/-- a comprehension -/
theorem pw_lc {n : Nat} {at_ : Wlk} {tgt : PV → Sto → Option Sig} {tst : Sig → Sto → Res Bool} {el : Sig → Sto → Res PV} {cnt : Nat} {M : Sto} {Q : PV → Sto → Prop} (Inv : Nat → Sto → Prop) (h0 : Inv 0 M)
    (step : ∀ i m, i < cnt → Inv i m → ∃ x tau, at_ i m = some (some x) ∧ tgt x m = some tau ∧ pwR (tst tau m) fun b m => if b = true then pwR (el tau m) fun y m => ∃ acc, m[n]? = some (.lst acc) ∧ acc.length < LINE ∧ Inv (i + 1) (m.set n (.lst (acc ++ [y]))) else Inv (i + 1) m)
    (done : ∀ m, Inv cnt m → at_ cnt m = some none ∧ Q (.loc n) m) : pwR (lcGo n at_ tgt tst el cnt 0 M) Q := by
  have go : ∀ k i m, i + k = cnt → Inv i m → pwR (lcGo n at_ tgt tst el k i m) Q := by
    intro k
    induction k with
    | zero =>
      intro i m e h
      have e' : i = cnt := by omega
      subst e'
      obtain ⟨a, b⟩ := done m h
      unfold lcGo
      rw [a]
      exact b
    | succ k ih =>
      intro i m e h
      obtain ⟨x, tau, a, b, c⟩ := step i m (by omega) h
      unfold lcGo
      rw [a]
      simp only [b]
      rw [pwR_bind]
      refine pwR_mono c fun t m' q => ?_
      cases t with
      | false => exact ih _ _ (by omega) q
      | true =>
        simp only [if_true] at q ⊢
        rw [pwR_bind]
        refine pwR_mono q fun y m'' ⟨acc, q1, q2, q3⟩ => ?_
        rw [q1]
        simp only [q2, if_true]
        exact ih _ _ (by omega) q3
  exact go cnt 0 M (by omega) h0
theorem all_loc {M : Sto} {n : Nat} {bs : List Bool} (h : M[n]? = some (.lst (bs.map PV.bl))) : opM .all [.loc n] M = some (.bl (bs.all id), M) := by simp [opM, lst_of h]
theorem any_loc {M : Sto} {n : Nat} {bs : List Bool} (h : M[n]? = some (.lst (bs.map PV.bl))) : opM .any [.loc n] M = some (.bl (bs.any id), M) := by simp [opM, lst_of h]
theorem seqW_loc {M : Sto} {n : Nat} {xs : List PV} (h : M[n]? = some (.lst xs)) : seqW M (.loc n) = some ⟨xs.length, fun i M => (lst? M (.loc n)).map fun ys => ys[i]?⟩ := by simp only [seqW, lst_of h]
end
end SW

namespace K56
open PySem PySem.Spec PyProof.Rows L2 SW
/-! ### the text -/
def top (i : Nat) : Stmt := PySem.Challenge.pw_summitwater_k56_whole_never_both.main.body.getD i (.Pass ⟨0, 0, 0, 0⟩)
def B_law_tape_1 : PBl :=
 (.cons (.asg (.one 1 "seed" ⟨86, 8, 86, 12⟩) (.bin .Mod (.bin .Add (.bin .Mult (.nam 1 "seed" ⟨86, 16, 86, 20⟩) (.int 69621 0 ⟨86, 23, 86, 28⟩) ⟨86, 16, 86, 28⟩) (.nam 2 "cell" ⟨86, 31, 86, 35⟩) ⟨86, 16, 86, 35⟩) (.int 2147483647 0 ⟨86, 39, 86, 49⟩) ⟨86, 15, 86, 49⟩) ⟨86, 8, 86, 49⟩)
 .nil)
def B_law_take_R1d : PBl :=
 (.cons (.ret (.bin .Mod (.call 1 "_law_mixed" (.sub (.nam 0 "tape" ⟨99, 22, 99, 26⟩) (.int 2 0 ⟨99, 27, 99, 28⟩) ⟨99, 22, 99, 29⟩) (.cons (.sub (.nam 0 "tape" ⟨99, 31, 99, 35⟩) (.int 3 0 ⟨99, 36, 99, 37⟩) ⟨99, 31, 99, 38⟩) .nil) ⟨99, 11, 99, 21⟩ ⟨99, 11, 99, 39⟩) (.nam 1 "many" ⟨99, 42, 99, 46⟩) ⟨99, 11, 99, 46⟩) ⟨99, 4, 99, 46⟩)
 .nil)
@[irreducible] def B_law_take_R1 : PBl := B_law_take_R1d
theorem u_law_take_R1 : B_law_take_R1 = B_law_take_R1d := by unfold B_law_take_R1; rfl
def B_law_take_R2d : PBl :=
 (.cons (.ife (.cmp .Gt (.sub (.nam 0 "tape" ⟨95, 7, 95, 11⟩) (.int 1 0 ⟨95, 12, 95, 13⟩) ⟨95, 7, 95, 14⟩) (.int 0 0 ⟨95, 17, 95, 18⟩) ⟨95, 7, 95, 18⟩) (.cons (.asg (.one 3 "found" ⟨96, 8, 96, 13⟩) (.bin .Mod (.sub (.nam 0 "tape" ⟨96, 16, 96, 20⟩) (.int 1 0 ⟨96, 21, 96, 22⟩) ⟨96, 16, 96, 23⟩) (.nam 1 "many" ⟨96, 26, 96, 30⟩) ⟨96, 16, 96, 30⟩) ⟨96, 8, 96, 30⟩)
  (.cons (.setI (.nam 0 "tape" ⟨97, 8, 97, 12⟩) (.int 1 0 ⟨97, 13, 97, 14⟩) (.bin .FloorDiv (.sub (.nam 0 "tape" ⟨97, 18, 97, 22⟩) (.int 1 0 ⟨97, 23, 97, 24⟩) ⟨97, 18, 97, 25⟩) (.nam 1 "many" ⟨97, 29, 97, 33⟩) ⟨97, 18, 97, 33⟩) ⟨97, 8, 97, 15⟩ ⟨97, 8, 97, 33⟩)
  (.cons (.ret (.nam 3 "found" ⟨98, 15, 98, 20⟩) ⟨98, 8, 98, 20⟩)
  .nil))) .nil ⟨95, 4, 98, 20⟩)
 B_law_take_R1)
@[irreducible] def B_law_take_R2 : PBl := B_law_take_R2d
theorem u_law_take_R2 : B_law_take_R2 = B_law_take_R2d := by unfold B_law_take_R2; rfl
def B_law_take_R3d : PBl :=
 (.cons (.setI (.nam 0 "tape" ⟨94, 8, 94, 12⟩) (.int 1 0 ⟨94, 13, 94, 14⟩) (.nam 2 "cell" ⟨94, 18, 94, 22⟩) ⟨94, 8, 94, 15⟩ ⟨94, 8, 94, 22⟩)
  .nil)
@[irreducible] def B_law_take_R3 : PBl := B_law_take_R3d
theorem u_law_take_R3 : B_law_take_R3 = B_law_take_R3d := by unfold B_law_take_R3; rfl
def B_law_large_1 : PBl :=
 (.cons (.asg (.one 2 "found" ⟨104, 8, 104, 13⟩) (.bin .Add (.bin .Mult (.nam 2 "found" ⟨104, 16, 104, 21⟩) (.bin .Pow (.int 10 0 ⟨104, 24, 104, 26⟩) (.int 6 0 ⟨104, 30, 104, 31⟩) ⟨104, 24, 104, 31⟩) ⟨104, 16, 104, 31⟩) (.call 2 "_law_take" (.nam 0 "tape" ⟨104, 44, 104, 48⟩) (.cons (.bin .Pow (.int 10 0 ⟨104, 50, 104, 52⟩) (.int 6 0 ⟨104, 56, 104, 57⟩) ⟨104, 50, 104, 57⟩) .nil) ⟨104, 34, 104, 43⟩ ⟨104, 34, 104, 58⟩) ⟨104, 16, 104, 58⟩) ⟨104, 8, 104, 58⟩)
 (.cons (.asg (.one 3 "size" ⟨105, 8, 105, 12⟩) (.bin .Mult (.nam 3 "size" ⟨105, 15, 105, 19⟩) (.bin .Pow (.int 10 0 ⟨105, 22, 105, 24⟩) (.int 6 0 ⟨105, 28, 105, 29⟩) ⟨105, 22, 105, 29⟩) ⟨105, 15, 105, 29⟩) ⟨105, 8, 105, 29⟩)
 .nil))
def B_law_days_R1d : PBl :=
 (.cons (.ret (.blt .tuple (.nam 5 "days" ⟨121, 17, 121, 21⟩) .nil ⟨121, 11, 121, 16⟩ ⟨121, 11, 121, 22⟩) ⟨121, 4, 121, 22⟩)
 .nil)
@[irreducible] def B_law_days_R1 : PBl := B_law_days_R1d
theorem u_law_days_R1 : B_law_days_R1 = B_law_days_R1d := by unfold B_law_days_R1; rfl
def B_law_days_1 : PBl :=
 (.cons (.asg (.one 6 "day" ⟨114, 8, 114, 11⟩) (.bin .Sub (.call 3 "_law_large" (.nam 0 "tape" ⟨114, 25, 114, 29⟩) (.cons (.bin .Add (.bin .Mult (.int 2 0 ⟨114, 31, 114, 32⟩) (.nam 4 "wide" ⟨114, 35, 114, 39⟩) ⟨114, 31, 114, 39⟩) (.int 1 0 ⟨114, 42, 114, 43⟩) ⟨114, 31, 114, 43⟩) .nil) ⟨114, 14, 114, 24⟩ ⟨114, 14, 114, 44⟩) (.nam 4 "wide" ⟨114, 47, 114, 51⟩) ⟨114, 14, 114, 51⟩) ⟨114, 8, 114, 51⟩)
 (.cons (.expr (.meth .insert (.nam 5 "days" ⟨115, 8, 115, 12⟩) (.call 2 "_law_take" (.nam 0 "tape" ⟨115, 30, 115, 34⟩) (.cons (.bin .Add (.blt .len (.nam 5 "days" ⟨115, 40, 115, 44⟩) .nil ⟨115, 36, 115, 39⟩ ⟨115, 36, 115, 45⟩) (.int 1 0 ⟨115, 48, 115, 49⟩) ⟨115, 36, 115, 49⟩) .nil) ⟨115, 20, 115, 29⟩ ⟨115, 20, 115, 50⟩) (.cons (.nam 6 "day" ⟨115, 52, 115, 55⟩) .nil) ⟨115, 8, 115, 19⟩ ⟨115, 8, 115, 56⟩) ⟨115, 8, 115, 56⟩)
 (.cons (.ife (.and (.cmp .Eq (.nam 3 "even" ⟨116, 11, 116, 15⟩) (.int 1 0 ⟨116, 19, 116, 20⟩) ⟨116, 11, 116, 20⟩) (.cons (.cmp .Lt (.blt .len (.nam 5 "days" ⟨116, 29, 116, 33⟩) .nil ⟨116, 25, 116, 28⟩ ⟨116, 25, 116, 34⟩) (.nam 1 "size" ⟨116, 37, 116, 41⟩) ⟨116, 25, 116, 41⟩) .nil) ⟨116, 11, 116, 41⟩) (.cons (.expr (.meth .insert (.nam 5 "days" ⟨117, 12, 117, 16⟩) (.call 2 "_law_take" (.nam 0 "tape" ⟨117, 34, 117, 38⟩) (.cons (.bin .Add (.blt .len (.nam 5 "days" ⟨117, 44, 117, 48⟩) .nil ⟨117, 40, 117, 43⟩ ⟨117, 40, 117, 49⟩) (.int 1 0 ⟨117, 52, 117, 53⟩) ⟨117, 40, 117, 53⟩) .nil) ⟨117, 24, 117, 33⟩ ⟨117, 24, 117, 54⟩) (.cons (.bin .Sub (.int 0 0 ⟨117, 56, 117, 57⟩) (.nam 6 "day" ⟨117, 60, 117, 63⟩) ⟨117, 56, 117, 63⟩) .nil) ⟨117, 12, 117, 23⟩ ⟨117, 12, 117, 64⟩) ⟨117, 12, 117, 64⟩)
  .nil) .nil ⟨116, 8, 117, 64⟩)
 .nil)))
def B_deepest_1 : PBl :=
 (.cons (.asg (.one 4 "under" ⟨41, 8, 41, 13⟩) (.bin .Add (.nam 4 "under" ⟨41, 16, 41, 21⟩) (.sub (.nam 0 "days" ⟨41, 24, 41, 28⟩) (.bin .Mod (.nam 6 "day" ⟨41, 29, 41, 32⟩) (.blt .len (.nam 0 "days" ⟨41, 39, 41, 43⟩) .nil ⟨41, 35, 41, 38⟩ ⟨41, 35, 41, 44⟩) ⟨41, 29, 41, 44⟩) ⟨41, 24, 41, 45⟩) ⟨41, 16, 41, 45⟩) ⟨41, 8, 41, 45⟩)
 (.cons (.ife (.cmp .GtE (.nam 4 "under" ⟨42, 11, 42, 16⟩) (.int 0 0 ⟨42, 20, 42, 21⟩) ⟨42, 11, 42, 21⟩) (.cons (.asg (.one 4 "under" ⟨43, 12, 43, 17⟩) (.int 0 0 ⟨43, 20, 43, 21⟩) ⟨43, 12, 43, 21⟩)
  (.cons (.asg (.one 5 "start" ⟨44, 12, 44, 17⟩) (.bin .Add (.nam 6 "day" ⟨44, 20, 44, 23⟩) (.int 1 0 ⟨44, 26, 44, 27⟩) ⟨44, 20, 44, 27⟩) ⟨44, 12, 44, 27⟩)
  .nil)) (.cons (.ife (.cmp .Lt (.nam 4 "under" ⟨45, 13, 45, 18⟩) (.nam 1 "low" ⟨45, 21, 45, 24⟩) ⟨45, 13, 45, 24⟩) (.cons (.asg (.one 1 "low" ⟨46, 12, 46, 15⟩) (.nam 4 "under" ⟨46, 18, 46, 23⟩) ⟨46, 12, 46, 23⟩)
   (.cons (.asg (.one 2 "first" ⟨47, 12, 47, 17⟩) (.nam 5 "start" ⟨47, 20, 47, 25⟩) ⟨47, 12, 47, 25⟩)
   (.cons (.asg (.one 3 "many" ⟨48, 12, 48, 16⟩) (.bin .Sub (.bin .Add (.nam 6 "day" ⟨48, 19, 48, 22⟩) (.int 1 0 ⟨48, 25, 48, 26⟩) ⟨48, 19, 48, 26⟩) (.nam 5 "start" ⟨48, 29, 48, 34⟩) ⟨48, 19, 48, 34⟩) ⟨48, 12, 48, 34⟩)
   .nil))) .nil ⟨45, 8, 48, 34⟩)
  .nil) ⟨42, 8, 48, 34⟩)
 .nil))
def B_least_brim_R1d : PBl :=
 (.cons (.ret (.bin .Sub (.int 0 0 ⟨61, 11, 61, 12⟩) (.sub (.call 5 "deepest" (.nam 0 "days" ⟨61, 23, 61, 27⟩) .nil ⟨61, 15, 61, 22⟩ ⟨61, 15, 61, 28⟩) (.int 0 0 ⟨61, 29, 61, 30⟩) ⟨61, 15, 61, 31⟩) ⟨61, 11, 61, 31⟩) ⟨61, 4, 61, 31⟩)
 .nil)
@[irreducible] def B_least_brim_R1 : PBl := B_least_brim_R1d
theorem u_least_brim_R1 : B_least_brim_R1 = B_least_brim_R1d := by unfold B_least_brim_R1; rfl
def B_law_need_1 : PBl :=
 (.cons (.asg (.one 2 "under" ⟨126, 8, 126, 13⟩) (.blt .min (.int 0 0 ⟨126, 20, 126, 21⟩) (.cons (.bin .Add (.nam 2 "under" ⟨126, 23, 126, 28⟩) (.nam 3 "day" ⟨126, 31, 126, 34⟩) ⟨126, 23, 126, 34⟩) .nil) ⟨126, 16, 126, 19⟩ ⟨126, 16, 126, 35⟩) ⟨126, 8, 126, 35⟩)
 (.cons (.asg (.one 1 "need" ⟨127, 8, 127, 12⟩) (.blt .max (.nam 1 "need" ⟨127, 19, 127, 23⟩) (.cons (.bin .Sub (.int 0 0 ⟨127, 25, 127, 26⟩) (.nam 2 "under" ⟨127, 29, 127, 34⟩) ⟨127, 25, 127, 34⟩) .nil) ⟨127, 15, 127, 18⟩ ⟨127, 15, 127, 35⟩) ⟨127, 8, 127, 35⟩)
 .nil))
def B_law_brim_R1d : PBl :=
 (.cons (.ret (.call 3 "_law_large" (.nam 0 "tape" ⟨133, 22, 133, 26⟩) (.cons (.sub (.lst (.cons (.int 1 0 ⟨133, 29, 133, 30⟩) (.cons (.int 20 0 ⟨133, 32, 133, 34⟩) (.cons (.int 2000 0 ⟨133, 36, 133, 40⟩) (.cons (.bin .Add (.bin .Pow (.int 10 0 ⟨133, 42, 133, 44⟩) (.int 15 0 ⟨133, 48, 133, 50⟩) ⟨133, 42, 133, 50⟩) (.int 1 0 ⟨133, 53, 133, 54⟩) ⟨133, 42, 133, 54⟩) .nil)))) ⟨133, 28, 133, 55⟩) (.call 2 "_law_take" (.nam 0 "tape" ⟨133, 66, 133, 70⟩) (.cons (.int 4 0 ⟨133, 72, 133, 73⟩) .nil) ⟨133, 56, 133, 65⟩ ⟨133, 56, 133, 74⟩) ⟨133, 28, 133, 75⟩) .nil) ⟨133, 11, 133, 21⟩ ⟨133, 11, 133, 76⟩) ⟨133, 4, 133, 76⟩)
 .nil)
@[irreducible] def B_law_brim_R1 : PBl := B_law_brim_R1d
theorem u_law_brim_R1 : B_law_brim_R1 = B_law_brim_R1d := by unfold B_law_brim_R1; rfl
def B_lowest_1 : PBl :=
 (.cons (.asg (.one 1 "total" ⟨12, 8, 12, 13⟩) (.bin .Add (.nam 1 "total" ⟨12, 16, 12, 21⟩) (.nam 3 "day" ⟨12, 24, 12, 27⟩) ⟨12, 16, 12, 27⟩) ⟨12, 8, 12, 27⟩)
 (.cons (.asg (.one 2 "found" ⟨13, 8, 13, 13⟩) (.blt .min (.nam 2 "found" ⟨13, 20, 13, 25⟩) (.cons (.nam 1 "total" ⟨13, 27, 13, 32⟩) .nil) ⟨13, 16, 13, 19⟩ ⟨13, 16, 13, 33⟩) ⟨13, 8, 13, 33⟩)
 .nil))
def B_lasting_R1d : PBl :=
 (.cons (.ret (.tup (.cons (.str "lasts" 0 ⟨57, 12, 57, 19⟩) (.cons (.bin .Sub (.int 0 0 ⟨57, 21, 57, 22⟩) (.call 9 "lowest" (.nam 1 "days" ⟨57, 32, 57, 36⟩) .nil ⟨57, 25, 57, 31⟩ ⟨57, 25, 57, 37⟩) ⟨57, 21, 57, 37⟩) .nil)) 0 ⟨57, 11, 57, 38⟩) ⟨57, 4, 57, 38⟩)
 .nil)
@[irreducible] def B_lasting_R1 : PBl := B_lasting_R1d
theorem u_lasting_R1 : B_lasting_R1 = B_lasting_R1d := by unfold B_lasting_R1; rfl
def B_lasting_R2d : PBl :=
 (.cons (.asg (.tup [(3, "low", ⟨54, 4, 54, 7⟩), (4, "first", ⟨54, 9, 54, 14⟩), (5, "many", ⟨54, 16, 54, 20⟩)] 0 ⟨54, 4, 54, 20⟩) (.call 5 "deepest" (.nam 1 "days" ⟨54, 31, 54, 35⟩) .nil ⟨54, 23, 54, 30⟩ ⟨54, 23, 54, 36⟩) ⟨54, 4, 54, 36⟩)
 (.cons (.ife (.cmp .Lt (.bin .Add (.nam 3 "low" ⟨55, 7, 55, 10⟩) (.nam 0 "brim" ⟨55, 13, 55, 17⟩) ⟨55, 7, 55, 17⟩) (.int 0 0 ⟨55, 20, 55, 21⟩) ⟨55, 7, 55, 21⟩) (.cons (.ret (.tup (.cons (.str "dries" 0 ⟨56, 16, 56, 23⟩) (.cons (.nam 4 "first" ⟨56, 25, 56, 30⟩) (.cons (.nam 5 "many" ⟨56, 32, 56, 36⟩) .nil))) 0 ⟨56, 15, 56, 37⟩) ⟨56, 8, 56, 37⟩)
  .nil) .nil ⟨55, 4, 56, 37⟩)
 B_lasting_R1))
@[irreducible] def B_lasting_R2 : PBl := B_lasting_R2d
theorem u_lasting_R2 : B_lasting_R2 = B_lasting_R2d := by unfold B_lasting_R2; rfl
def B_stretch_sum_1 : PBl :=
 (.cons (.asg (.one 3 "total" ⟨68, 8, 68, 13⟩) (.bin .Add (.nam 3 "total" ⟨68, 16, 68, 21⟩) (.sub (.nam 0 "days" ⟨68, 24, 68, 28⟩) (.bin .Mod (.bin .Add (.nam 1 "first" ⟨68, 30, 68, 35⟩) (.nam 4 "day" ⟨68, 38, 68, 41⟩) ⟨68, 30, 68, 41⟩) (.blt .len (.nam 0 "days" ⟨68, 49, 68, 53⟩) .nil ⟨68, 45, 68, 48⟩ ⟨68, 45, 68, 54⟩) ⟨68, 29, 68, 54⟩) ⟨68, 24, 68, 55⟩) ⟨68, 16, 68, 55⟩) ⟨68, 8, 68, 55⟩)
 .nil)
def B_shows_dry_R1d : PBl :=
 (.cons (.ret (.cmp .Lt (.bin .Add (.call 13 "stretch_sum" (.nam 1 "days" ⟨77, 23, 77, 27⟩) (.cons (.sub (.nam 2 "thing" ⟨77, 29, 77, 34⟩) (.int 1 0 ⟨77, 35, 77, 36⟩) ⟨77, 29, 77, 37⟩) (.cons (.sub (.nam 2 "thing" ⟨77, 39, 77, 44⟩) (.int 2 0 ⟨77, 45, 77, 46⟩) ⟨77, 39, 77, 47⟩) .nil)) ⟨77, 11, 77, 22⟩ ⟨77, 11, 77, 48⟩) (.nam 0 "brim" ⟨77, 51, 77, 55⟩) ⟨77, 11, 77, 55⟩) (.int 0 0 ⟨77, 58, 77, 59⟩) ⟨77, 11, 77, 59⟩) ⟨77, 4, 77, 59⟩)
 .nil)
@[irreducible] def B_shows_dry_R1 : PBl := B_shows_dry_R1d
theorem u_shows_dry_R1 : B_shows_dry_R1 = B_shows_dry_R1d := by unfold B_shows_dry_R1; rfl
def B_shows_dry_R2d : PBl :=
 (.cons (.ife (.or (.nt (.chn .LtE .Lt (.int 0 0 ⟨75, 11, 75, 12⟩) (.sub (.nam 2 "thing" ⟨75, 16, 75, 21⟩) (.int 1 0 ⟨75, 22, 75, 23⟩) ⟨75, 16, 75, 24⟩) (.blt .len (.nam 1 "days" ⟨75, 31, 75, 35⟩) .nil ⟨75, 27, 75, 30⟩ ⟨75, 27, 75, 36⟩) ⟨75, 11, 75, 36⟩) ⟨75, 7, 75, 36⟩) (.cons (.cmp .Lt (.sub (.nam 2 "thing" ⟨75, 40, 75, 45⟩) (.int 2 0 ⟨75, 46, 75, 47⟩) ⟨75, 40, 75, 48⟩) (.int 1 0 ⟨75, 51, 75, 52⟩) ⟨75, 40, 75, 52⟩) .nil) ⟨75, 7, 75, 52⟩) (.cons (.ret (.bl false 0 ⟨76, 15, 76, 20⟩) ⟨76, 8, 76, 20⟩)
  .nil) .nil ⟨75, 4, 76, 20⟩)
 B_shows_dry_R1)
@[irreducible] def B_shows_dry_R2 : PBl := B_shows_dry_R2d
theorem u_shows_dry_R2 : B_shows_dry_R2 = B_shows_dry_R2d := by unfold B_shows_dry_R2; rfl
def B_shows_dry_R3d : PBl :=
 (.cons (.ife (.or (.nt (.call 12 "is_number" (.sub (.nam 2 "thing" ⟨73, 21, 73, 26⟩) (.int 1 0 ⟨73, 27, 73, 28⟩) ⟨73, 21, 73, 29⟩) .nil ⟨73, 11, 73, 20⟩ ⟨73, 11, 73, 30⟩) ⟨73, 7, 73, 30⟩) (.cons (.nt (.call 12 "is_number" (.sub (.nam 2 "thing" ⟨73, 48, 73, 53⟩) (.int 2 0 ⟨73, 54, 73, 55⟩) ⟨73, 48, 73, 56⟩) .nil ⟨73, 38, 73, 47⟩ ⟨73, 38, 73, 57⟩) ⟨73, 34, 73, 57⟩) .nil) ⟨73, 7, 73, 57⟩) (.cons (.ret (.bl false 0 ⟨74, 15, 74, 20⟩) ⟨74, 8, 74, 20⟩)
  .nil) .nil ⟨73, 4, 74, 20⟩)
 B_shows_dry_R2)
@[irreducible] def B_shows_dry_R3 : PBl := B_shows_dry_R3d
theorem u_shows_dry_R3 : B_shows_dry_R3 = B_shows_dry_R3d := by unfold B_shows_dry_R3; rfl
def B_law_told_R1d : PBl :=
 (.cons (.ret (.nam 3 "found" ⟨171, 11, 171, 16⟩) ⟨171, 4, 171, 16⟩)
 .nil)
@[irreducible] def B_law_told_R1 : PBl := B_law_told_R1d
theorem u_law_told_R1 : B_law_told_R1 = B_law_told_R1d := by unfold B_law_told_R1; rfl
def B_law_told_R2d : PBl :=
 (.cons (.ife (.and (.cmp .Lt (.sub (.nam 3 "found" ⟨169, 7, 169, 12⟩) (.int 2 0 ⟨169, 13, 169, 14⟩) ⟨169, 7, 169, 15⟩) (.bin .Pow (.int 10 0 ⟨169, 18, 169, 20⟩) (.int 40 0 ⟨169, 24, 169, 26⟩) ⟨169, 18, 169, 26⟩) ⟨169, 7, 169, 26⟩) (.cons (.cmp .IsNot (.call 14 "shows_dry" (.nam 0 "brim" ⟨169, 41, 169, 45⟩) (.cons (.nam 1 "days" ⟨169, 47, 169, 51⟩) (.cons (.nam 3 "found" ⟨169, 53, 169, 58⟩) .nil)) ⟨169, 31, 169, 40⟩ ⟨169, 31, 169, 59⟩) (.bl true 0 ⟨169, 67, 169, 71⟩) ⟨169, 31, 169, 71⟩) .nil) ⟨169, 7, 169, 71⟩) (.cons (.ret (.non 0 ⟨170, 15, 170, 19⟩) ⟨170, 8, 170, 19⟩)
  .nil) .nil ⟨169, 4, 170, 19⟩)
 B_law_told_R1)
@[irreducible] def B_law_told_R2 : PBl := B_law_told_R2d
theorem u_law_told_R2 : B_law_told_R2 = B_law_told_R2d := by unfold B_law_told_R2; rfl
def B_law_told_R3d : PBl :=
 (.cons (.ife (.or (.cmp .NotEq (.sub (.nam 3 "found" ⟨167, 7, 167, 12⟩) (.int 0 0 ⟨167, 13, 167, 14⟩) ⟨167, 7, 167, 15⟩) (.str "dries" 0 ⟨167, 19, 167, 26⟩) ⟨167, 7, 167, 26⟩) (.cons (.cmp .NotEq (.blt .len (.nam 3 "found" ⟨167, 34, 167, 39⟩) .nil ⟨167, 30, 167, 33⟩ ⟨167, 30, 167, 40⟩) (.int 3 0 ⟨167, 44, 167, 45⟩) ⟨167, 30, 167, 45⟩) (.cons (.nt (.call 11 "_law_number" (.sub (.nam 3 "found" ⟨167, 66, 167, 71⟩) (.int 1 0 ⟨167, 72, 167, 73⟩) ⟨167, 66, 167, 74⟩) .nil ⟨167, 54, 167, 65⟩ ⟨167, 54, 167, 75⟩) ⟨167, 50, 167, 75⟩) (.cons (.nt (.call 11 "_law_number" (.sub (.nam 3 "found" ⟨167, 97, 167, 102⟩) (.int 2 0 ⟨167, 103, 167, 104⟩) ⟨167, 97, 167, 105⟩) .nil ⟨167, 85, 167, 96⟩ ⟨167, 85, 167, 106⟩) ⟨167, 81, 167, 106⟩) .nil))) ⟨167, 7, 167, 107⟩) (.cons (.ret (.non 0 ⟨168, 15, 168, 19⟩) ⟨168, 8, 168, 19⟩)
  .nil) .nil ⟨167, 4, 168, 19⟩)
 B_law_told_R2)
@[irreducible] def B_law_told_R3 : PBl := B_law_told_R3d
theorem u_law_told_R3 : B_law_told_R3 = B_law_told_R3d := by unfold B_law_told_R3; rfl
def B_law_told_R4d : PBl :=
 (.cons (.ife (.nam 2 "lasts" ⟨165, 7, 165, 12⟩) (.cons (.ret (.ife (.and (.cmp .Eq (.sub (.nam 3 "found" ⟨166, 24, 166, 29⟩) (.int 0 0 ⟨166, 30, 166, 31⟩) ⟨166, 24, 166, 32⟩) (.str "lasts" 0 ⟨166, 36, 166, 43⟩) ⟨166, 24, 166, 43⟩) (.cons (.cmp .Eq (.blt .len (.nam 3 "found" ⟨166, 52, 166, 57⟩) .nil ⟨166, 48, 166, 51⟩ ⟨166, 48, 166, 58⟩) (.int 2 0 ⟨166, 62, 166, 63⟩) ⟨166, 48, 166, 63⟩) (.cons (.call 11 "_law_number" (.sub (.nam 3 "found" ⟨166, 80, 166, 85⟩) (.int 1 0 ⟨166, 86, 166, 87⟩) ⟨166, 80, 166, 88⟩) .nil ⟨166, 68, 166, 79⟩ ⟨166, 68, 166, 89⟩) .nil)) ⟨166, 24, 166, 89⟩) (.nam 3 "found" ⟨166, 15, 166, 20⟩) (.non 0 ⟨166, 95, 166, 99⟩) ⟨166, 15, 166, 99⟩) ⟨166, 8, 166, 99⟩)
  .nil) .nil ⟨165, 4, 166, 99⟩)
 B_law_told_R3)
@[irreducible] def B_law_told_R4 : PBl := B_law_told_R4d
theorem u_law_told_R4 : B_law_told_R4 = B_law_told_R4d := by unfold B_law_told_R4; rfl
def B_law_lowest_R1d : PBl :=
 (.cons (.ife (.cmp .GtE (.nam 4 "under" ⟨157, 11, 157, 16⟩) (.int 0 0 ⟨157, 20, 157, 21⟩) ⟨157, 11, 157, 21⟩) (.cons (.asg (.one 4 "under" ⟨158, 12, 158, 17⟩) (.int 0 0 ⟨158, 20, 158, 21⟩) ⟨158, 12, 158, 21⟩)
  (.cons (.asg (.one 5 "start" ⟨159, 12, 159, 17⟩) (.bin .Add (.nam 6 "at" ⟨159, 20, 159, 22⟩) (.int 1 0 ⟨159, 25, 159, 26⟩) ⟨159, 20, 159, 26⟩) ⟨159, 12, 159, 26⟩)
  .nil)) .nil ⟨157, 8, 159, 26⟩)
 .nil)
@[irreducible] def B_law_lowest_R1 : PBl := B_law_lowest_R1d
theorem u_law_lowest_R1 : B_law_lowest_R1 = B_law_lowest_R1d := by unfold B_law_lowest_R1; rfl
def B_law_lowest_1 : PBl :=
 (.cons (.asg (.one 4 "under" ⟨152, 8, 152, 13⟩) (.bin .Add (.nam 4 "under" ⟨152, 16, 152, 21⟩) (.sub (.nam 0 "days" ⟨152, 24, 152, 28⟩) (.bin .Mod (.nam 6 "at" ⟨152, 29, 152, 31⟩) (.blt .len (.nam 0 "days" ⟨152, 38, 152, 42⟩) .nil ⟨152, 34, 152, 37⟩ ⟨152, 34, 152, 43⟩) ⟨152, 29, 152, 43⟩) ⟨152, 24, 152, 44⟩) ⟨152, 16, 152, 44⟩) ⟨152, 8, 152, 44⟩)
 (.cons (.ife (.cmp .Lt (.nam 4 "under" ⟨153, 11, 153, 16⟩) (.nam 1 "low" ⟨153, 19, 153, 22⟩) ⟨153, 11, 153, 22⟩) (.cons (.asg (.one 1 "low" ⟨154, 12, 154, 15⟩) (.nam 4 "under" ⟨154, 18, 154, 23⟩) ⟨154, 12, 154, 23⟩)
  (.cons (.asg (.one 2 "first" ⟨155, 12, 155, 17⟩) (.bin .Mod (.nam 5 "start" ⟨155, 20, 155, 25⟩) (.blt .len (.nam 0 "days" ⟨155, 32, 155, 36⟩) .nil ⟨155, 28, 155, 31⟩ ⟨155, 28, 155, 37⟩) ⟨155, 20, 155, 37⟩) ⟨155, 12, 155, 37⟩)
  (.cons (.asg (.one 3 "many" ⟨156, 12, 156, 16⟩) (.bin .Sub (.bin .Add (.nam 6 "at" ⟨156, 19, 156, 21⟩) (.int 1 0 ⟨156, 24, 156, 25⟩) ⟨156, 19, 156, 25⟩) (.nam 5 "start" ⟨156, 28, 156, 33⟩) ⟨156, 19, 156, 33⟩) ⟨156, 12, 156, 33⟩)
  .nil))) .nil ⟨153, 8, 156, 33⟩)
 B_law_lowest_R1))
def B_walked_1 : PBl :=
 (.cons (.asg (.one 2 "level" ⟨4, 8, 4, 13⟩) (.blt .min (.nam 0 "brim" ⟨4, 20, 4, 24⟩) (.cons (.bin .Add (.nam 2 "level" ⟨4, 26, 4, 31⟩) (.sub (.nam 1 "days" ⟨4, 34, 4, 38⟩) (.bin .Mod (.nam 4 "day" ⟨4, 39, 4, 42⟩) (.blt .len (.nam 1 "days" ⟨4, 49, 4, 53⟩) .nil ⟨4, 45, 4, 48⟩ ⟨4, 45, 4, 54⟩) ⟨4, 39, 4, 54⟩) ⟨4, 34, 4, 55⟩) ⟨4, 26, 4, 55⟩) .nil) ⟨4, 16, 4, 19⟩ ⟨4, 16, 4, 56⟩) ⟨4, 8, 4, 56⟩)
 (.cons (.ife (.cmp .Lt (.nam 2 "level" ⟨5, 11, 5, 16⟩) (.int 0 0 ⟨5, 19, 5, 20⟩) ⟨5, 11, 5, 20⟩) (.cons (.ret (.tup (.cons (.str "dry" 0 ⟨6, 20, 6, 25⟩) (.cons (.nam 4 "day" ⟨6, 27, 6, 30⟩) .nil)) 0 ⟨6, 19, 6, 31⟩) ⟨6, 12, 6, 31⟩)
  .nil) .nil ⟨5, 8, 6, 31⟩)
 .nil))
def B_passed_R1d : PBl :=
 (.cons (.asg (.one 6 "safe" ⟨20, 4, 20, 8⟩) (.blt .max (.int 0 0 ⟨20, 15, 20, 16⟩) (.cons (.bin .Add (.bin .FloorDiv (.bin .Add (.nam 2 "level" ⟨20, 19, 20, 24⟩) (.call 9 "lowest" (.nam 1 "days" ⟨20, 34, 20, 38⟩) .nil ⟨20, 27, 20, 33⟩ ⟨20, 27, 20, 39⟩) ⟨20, 19, 20, 39⟩) (.bin .Sub (.int 0 0 ⟨20, 45, 20, 46⟩) (.nam 4 "total" ⟨20, 49, 20, 54⟩) ⟨20, 45, 20, 54⟩) ⟨20, 18, 20, 55⟩) (.int 1 0 ⟨20, 58, 20, 59⟩) ⟨20, 18, 20, 59⟩) .nil) ⟨20, 11, 20, 14⟩ ⟨20, 11, 20, 60⟩) ⟨20, 4, 20, 60⟩)
 (.cons (.asg (.one 3 "rounds" ⟨21, 4, 21, 10⟩) (.blt .min (.nam 3 "rounds" ⟨21, 17, 21, 23⟩) (.cons (.nam 6 "safe" ⟨21, 25, 21, 29⟩) .nil) ⟨21, 13, 21, 16⟩ ⟨21, 13, 21, 30⟩) ⟨21, 4, 21, 30⟩)
 (.cons (.ret (.tup (.cons (.nam 3 "rounds" ⟨22, 12, 22, 18⟩) (.cons (.bin .Add (.nam 2 "level" ⟨22, 20, 22, 25⟩) (.bin .Mult (.nam 3 "rounds" ⟨22, 28, 22, 34⟩) (.nam 4 "total" ⟨22, 37, 22, 42⟩) ⟨22, 28, 22, 42⟩) ⟨22, 20, 22, 42⟩) .nil)) 0 ⟨22, 11, 22, 43⟩) ⟨22, 4, 22, 43⟩)
 .nil)))
@[irreducible] def B_passed_R1 : PBl := B_passed_R1d
theorem u_passed_R1 : B_passed_R1 = B_passed_R1d := by unfold B_passed_R1; rfl
def B_level_behind_R1d : PBl :=
 (.cons (.ret (.nam 5 "found" ⟨33, 11, 33, 16⟩) ⟨33, 4, 33, 16⟩)
 .nil)
@[irreducible] def B_level_behind_R1 : PBl := B_level_behind_R1d
theorem u_level_behind_R1 : B_level_behind_R1 = B_level_behind_R1d := by unfold B_level_behind_R1; rfl
def B_level_behind_R2d : PBl :=
 (.cons (.asg (.tup [(6, "rounds", ⟨28, 4, 28, 10⟩), (2, "level", ⟨28, 12, 28, 17⟩)] 0 ⟨28, 4, 28, 17⟩) (.call 18 "passed" (.nam 0 "brim" ⟨28, 27, 28, 31⟩) (.cons (.nam 1 "days" ⟨28, 33, 28, 37⟩) (.cons (.sub (.nam 5 "found" ⟨28, 39, 28, 44⟩) (.int 1 0 ⟨28, 45, 28, 46⟩) ⟨28, 39, 28, 47⟩) (.cons (.bin .FloorDiv (.bin .Sub (.nam 3 "many" ⟨28, 50, 28, 54⟩) (.nam 4 "begun" ⟨28, 57, 28, 62⟩) ⟨28, 50, 28, 62⟩) (.blt .len (.nam 1 "days" ⟨28, 71, 28, 75⟩) .nil ⟨28, 67, 28, 70⟩ ⟨28, 67, 28, 76⟩) ⟨28, 49, 28, 76⟩) .nil))) ⟨28, 20, 28, 26⟩ ⟨28, 20, 28, 77⟩) ⟨28, 4, 28, 77⟩)
 (.cons (.asg (.one 4 "begun" ⟨29, 4, 29, 9⟩) (.bin .Add (.nam 4 "begun" ⟨29, 12, 29, 17⟩) (.bin .Mult (.nam 6 "rounds" ⟨29, 20, 29, 26⟩) (.blt .len (.nam 1 "days" ⟨29, 33, 29, 37⟩) .nil ⟨29, 29, 29, 32⟩ ⟨29, 29, 29, 38⟩) ⟨29, 20, 29, 38⟩) ⟨29, 12, 29, 38⟩) ⟨29, 4, 29, 38⟩)
 (.cons (.asg (.one 5 "found" ⟨30, 4, 30, 9⟩) (.call 17 "walked" (.nam 0 "brim" ⟨30, 19, 30, 23⟩) (.cons (.nam 1 "days" ⟨30, 25, 30, 29⟩) (.cons (.nam 2 "level" ⟨30, 31, 30, 36⟩) (.cons (.blt .min (.bin .Sub (.nam 3 "many" ⟨30, 42, 30, 46⟩) (.nam 4 "begun" ⟨30, 49, 30, 54⟩) ⟨30, 42, 30, 54⟩) (.cons (.blt .len (.nam 1 "days" ⟨30, 60, 30, 64⟩) .nil ⟨30, 56, 30, 59⟩ ⟨30, 56, 30, 65⟩) .nil) ⟨30, 38, 30, 41⟩ ⟨30, 38, 30, 66⟩) .nil))) ⟨30, 12, 30, 18⟩ ⟨30, 12, 30, 67⟩) ⟨30, 4, 30, 67⟩)
 (.cons (.ife (.cmp .Eq (.sub (.nam 5 "found" ⟨31, 7, 31, 12⟩) (.int 0 0 ⟨31, 13, 31, 14⟩) ⟨31, 7, 31, 15⟩) (.str "dry" 0 ⟨31, 19, 31, 24⟩) ⟨31, 7, 31, 24⟩) (.cons (.ret (.tup (.cons (.str "dry" 0 ⟨32, 16, 32, 21⟩) (.cons (.bin .Add (.nam 4 "begun" ⟨32, 23, 32, 28⟩) (.sub (.nam 5 "found" ⟨32, 31, 32, 36⟩) (.int 1 0 ⟨32, 37, 32, 38⟩) ⟨32, 31, 32, 39⟩) ⟨32, 23, 32, 39⟩) .nil)) 0 ⟨32, 15, 32, 40⟩) ⟨32, 8, 32, 40⟩)
  .nil) .nil ⟨31, 4, 32, 40⟩)
 B_level_behind_R1))))
@[irreducible] def B_level_behind_R2 : PBl := B_level_behind_R2d
theorem u_level_behind_R2 : B_level_behind_R2 = B_level_behind_R2d := by unfold B_level_behind_R2; rfl
def B_law_ends_R1d : PBl :=
 (.cons (.ret (.ife (.nam 2 "lasts" ⟨181, 34, 181, 39⟩) (.cmp .Eq (.sub (.nam 3 "found" ⟨181, 11, 181, 16⟩) (.int 0 0 ⟨181, 17, 181, 18⟩) ⟨181, 11, 181, 19⟩) (.str "level" 0 ⟨181, 23, 181, 30⟩) ⟨181, 11, 181, 30⟩) (.cmp .Eq (.sub (.nam 3 "found" ⟨181, 45, 181, 50⟩) (.int 0 0 ⟨181, 51, 181, 52⟩) ⟨181, 45, 181, 53⟩) (.str "dry" 0 ⟨181, 57, 181, 62⟩) ⟨181, 45, 181, 62⟩) ⟨181, 11, 181, 62⟩) ⟨181, 4, 181, 62⟩)
 .nil)
@[irreducible] def B_law_ends_R1 : PBl := B_law_ends_R1d
theorem u_law_ends_R1 : B_law_ends_R1 = B_law_ends_R1d := by unfold B_law_ends_R1; rfl
def B_law_dries_1 : PBl :=
 (.cons (.asg (.one 4 "total" ⟨143, 8, 143, 13⟩) (.bin .Add (.nam 4 "total" ⟨143, 16, 143, 21⟩) (.sub (.nam 1 "days" ⟨143, 24, 143, 28⟩) (.bin .Mod (.bin .Add (.nam 2 "first" ⟨143, 30, 143, 35⟩) (.nam 5 "at" ⟨143, 38, 143, 40⟩) ⟨143, 30, 143, 40⟩) (.blt .len (.nam 1 "days" ⟨143, 48, 143, 52⟩) .nil ⟨143, 44, 143, 47⟩ ⟨143, 44, 143, 53⟩) ⟨143, 29, 143, 53⟩) ⟨143, 24, 143, 54⟩) ⟨143, 16, 143, 54⟩) ⟨143, 8, 143, 54⟩)
 .nil)
def B_law_dries_R1d : PBl :=
 (.cons (.asg (.one 4 "total" ⟨141, 4, 141, 9⟩) (.bin .Mult (.bin .FloorDiv (.nam 3 "many" ⟨141, 12, 141, 16⟩) (.blt .len (.nam 1 "days" ⟨141, 24, 141, 28⟩) .nil ⟨141, 20, 141, 23⟩ ⟨141, 20, 141, 29⟩) ⟨141, 12, 141, 29⟩) (.blt .sum (.nam 1 "days" ⟨141, 36, 141, 40⟩) .nil ⟨141, 32, 141, 35⟩ ⟨141, 32, 141, 41⟩) ⟨141, 12, 141, 41⟩) ⟨141, 4, 141, 41⟩)
 (.cons (.for_ (.one 5 "at" ⟨142, 8, 142, 10⟩) (.rng1 (.bin .Mod (.nam 3 "many" ⟨142, 20, 142, 24⟩) (.blt .len (.nam 1 "days" ⟨142, 31, 142, 35⟩) .nil ⟨142, 27, 142, 30⟩ ⟨142, 27, 142, 36⟩) ⟨142, 20, 142, 36⟩) ⟨142, 14, 142, 19⟩ ⟨142, 14, 142, 37⟩) B_law_dries_1 ⟨142, 4, 143, 54⟩)
 (.cons (.ret (.cmp .Lt (.bin .Add (.nam 4 "total" ⟨144, 11, 144, 16⟩) (.nam 0 "brim" ⟨144, 19, 144, 23⟩) ⟨144, 11, 144, 23⟩) (.int 0 0 ⟨144, 26, 144, 27⟩) ⟨144, 11, 144, 27⟩) ⟨144, 4, 144, 27⟩)
 .nil)))
@[irreducible] def B_law_dries_R1 : PBl := B_law_dries_R1d
theorem u_law_dries_R1 : B_law_dries_R1 = B_law_dries_R1d := by unfold B_law_dries_R1; rfl
def B_law_dries_R2d : PBl :=
 (.cons (.ife (.or (.cmp .Lt (.nam 2 "first" ⟨139, 7, 139, 12⟩) (.int 0 0 ⟨139, 15, 139, 16⟩) ⟨139, 7, 139, 16⟩) (.cons (.cmp .GtE (.nam 2 "first" ⟨139, 20, 139, 25⟩) (.blt .len (.nam 1 "days" ⟨139, 33, 139, 37⟩) .nil ⟨139, 29, 139, 32⟩ ⟨139, 29, 139, 38⟩) ⟨139, 20, 139, 38⟩) (.cons (.cmp .Lt (.nam 3 "many" ⟨139, 42, 139, 46⟩) (.int 1 0 ⟨139, 49, 139, 50⟩) ⟨139, 42, 139, 50⟩) .nil)) ⟨139, 7, 139, 50⟩) (.cons (.ret (.bl false 0 ⟨140, 15, 140, 20⟩) ⟨140, 8, 140, 20⟩)
  .nil) .nil ⟨139, 4, 140, 20⟩)
 B_law_dries_R1)
@[irreducible] def B_law_dries_R2 : PBl := B_law_dries_R2d
theorem u_law_dries_R2 : B_law_dries_R2 = B_law_dries_R2d := by unfold B_law_dries_R2; rfl
def B_law_shown_right_R1d : PBl :=
 (.cons (.ret (.or (.nt (.nam 4 "shown" ⟨176, 15, 176, 20⟩) ⟨176, 11, 176, 20⟩) (.cons (.nt (.nam 3 "lasts" ⟨176, 28, 176, 33⟩) ⟨176, 24, 176, 33⟩) .nil) ⟨176, 11, 176, 33⟩) ⟨176, 4, 176, 33⟩)
 .nil)
@[irreducible] def B_law_shown_right_R1 : PBl := B_law_shown_right_R1d
theorem u_law_shown_right_R1 : B_law_shown_right_R1 = B_law_shown_right_R1d := by unfold B_law_shown_right_R1; rfl
def B_law_2 : PBl :=
 (.cons (.ife (.nt (.call 22 "_law_shown_right" (.nam 6 "brim" ⟨199, 36, 199, 40⟩) (.cons (.nam 2 "days" ⟨199, 42, 199, 46⟩) (.cons (.nam 10 "paper" ⟨199, 48, 199, 53⟩) (.cons (.nam 7 "lasts" ⟨199, 55, 199, 60⟩) .nil))) ⟨199, 19, 199, 35⟩ ⟨199, 19, 199, 61⟩) ⟨199, 15, 199, 61⟩) (.cons (.ret (.bl false 0 ⟨200, 23, 200, 28⟩) ⟨200, 16, 200, 28⟩)
  .nil) .nil ⟨199, 12, 200, 28⟩)
 .nil)
def B_law_R1d : PBl :=
 (.cons (.asg (.one 9 "many" ⟨197, 8, 197, 12⟩) (.bin .Add (.int 1 0 ⟨197, 15, 197, 16⟩) (.call 3 "_law_large" (.nam 1 "tape" ⟨197, 30, 197, 34⟩) (.cons (.sub (.lst (.cons (.int 100 0 ⟨197, 37, 197, 40⟩) (.cons (.bin .Pow (.int 10 0 ⟨197, 42, 197, 44⟩) (.int 18 0 ⟨197, 48, 197, 50⟩) ⟨197, 42, 197, 50⟩) (.cons (.bin .Pow (.int 10 0 ⟨197, 52, 197, 54⟩) (.int 39 0 ⟨197, 58, 197, 60⟩) ⟨197, 52, 197, 60⟩) .nil))) ⟨197, 36, 197, 61⟩) (.call 2 "_law_take" (.nam 1 "tape" ⟨197, 72, 197, 76⟩) (.cons (.int 3 0 ⟨197, 78, 197, 79⟩) .nil) ⟨197, 62, 197, 71⟩ ⟨197, 62, 197, 80⟩) ⟨197, 36, 197, 81⟩) .nil) ⟨197, 19, 197, 29⟩ ⟨197, 19, 197, 82⟩) ⟨197, 15, 197, 82⟩) ⟨197, 8, 197, 82⟩)
 (.cons (.for_ (.one 10 "paper" ⟨198, 12, 198, 17⟩) (.seq (.lst (.cons (.tup (.cons (.str "dries" 0 ⟨198, 23, 198, 30⟩) (.cons (.call 2 "_law_take" (.nam 1 "tape" ⟨198, 42, 198, 46⟩) (.cons (.blt .len (.nam 2 "days" ⟨198, 52, 198, 56⟩) .nil ⟨198, 48, 198, 51⟩ ⟨198, 48, 198, 57⟩) .nil) ⟨198, 32, 198, 41⟩ ⟨198, 32, 198, 58⟩) (.cons (.nam 9 "many" ⟨198, 60, 198, 64⟩) .nil))) 0 ⟨198, 22, 198, 65⟩) (.cons (.call 16 "_law_lowest" (.nam 2 "days" ⟨198, 79, 198, 83⟩) .nil ⟨198, 67, 198, 78⟩ ⟨198, 67, 198, 84⟩) .nil)) ⟨198, 21, 198, 85⟩)) B_law_2 ⟨198, 8, 200, 28⟩)
 .nil))
@[irreducible] def B_law_R1 : PBl := B_law_R1d
theorem u_law_R1 : B_law_R1 = B_law_R1d := by unfold B_law_R1; rfl
def B_law_R2d : PBl :=
 (.cons (.ife (.nam 7 "lasts" ⟨195, 11, 195, 16⟩) (.cons (.expr (.meth .append (.nam 4 "levels" ⟨196, 12, 196, 18⟩) (.sub (.nam 8 "found" ⟨196, 26, 196, 31⟩) (.int 1 0 ⟨196, 32, 196, 33⟩) ⟨196, 26, 196, 34⟩) .nil ⟨196, 12, 196, 25⟩ ⟨196, 12, 196, 35⟩) ⟨196, 12, 196, 35⟩)
  .nil) .nil ⟨195, 8, 196, 35⟩)
 B_law_R1)
@[irreducible] def B_law_R2 : PBl := B_law_R2d
theorem u_law_R2 : B_law_R2 = B_law_R2d := by unfold B_law_R2; rfl
def B_law_1 : PBl :=
 (.cons (.asg (.one 6 "brim" ⟨190, 8, 190, 12⟩) (.call 8 "_law_brim" (.nam 1 "tape" ⟨190, 25, 190, 29⟩) (.cons (.nam 2 "days" ⟨190, 31, 190, 35⟩) .nil) ⟨190, 15, 190, 24⟩ ⟨190, 15, 190, 36⟩) ⟨190, 8, 190, 36⟩)
 (.cons (.asg (.one 7 "lasts" ⟨191, 8, 191, 13⟩) (.and (.cmp .IsNot (.nam 3 "least" ⟨191, 16, 191, 21⟩) (.non 0 ⟨191, 29, 191, 33⟩) ⟨191, 16, 191, 33⟩) (.cons (.cmp .LtE (.nam 3 "least" ⟨191, 38, 191, 43⟩) (.nam 6 "brim" ⟨191, 47, 191, 51⟩) ⟨191, 38, 191, 51⟩) .nil) ⟨191, 16, 191, 51⟩) ⟨191, 8, 191, 51⟩)
 (.cons (.asg (.one 8 "found" ⟨192, 8, 192, 13⟩) (.call 15 "_law_told" (.nam 6 "brim" ⟨192, 26, 192, 30⟩) (.cons (.nam 2 "days" ⟨192, 32, 192, 36⟩) (.cons (.nam 7 "lasts" ⟨192, 38, 192, 43⟩) .nil)) ⟨192, 16, 192, 25⟩ ⟨192, 16, 192, 44⟩) ⟨192, 8, 192, 44⟩)
 (.cons (.ife (.or (.cmp .Is (.nam 8 "found" ⟨193, 11, 193, 16⟩) (.non 0 ⟨193, 20, 193, 24⟩) ⟨193, 11, 193, 24⟩) (.cons (.nt (.call 20 "_law_ends" (.nam 6 "brim" ⟨193, 42, 193, 46⟩) (.cons (.nam 2 "days" ⟨193, 48, 193, 52⟩) (.cons (.nam 7 "lasts" ⟨193, 54, 193, 59⟩) .nil)) ⟨193, 32, 193, 41⟩ ⟨193, 32, 193, 60⟩) ⟨193, 28, 193, 60⟩) .nil) ⟨193, 11, 193, 60⟩) (.cons (.ret (.bl false 0 ⟨194, 19, 194, 24⟩) ⟨194, 12, 194, 24⟩)
  .nil) .nil ⟨193, 8, 194, 24⟩)
 B_law_R2))))
def B_law_R3d : PBl :=
 (.cons (.asg (.one 4 "levels" ⟨188, 4, 188, 10⟩) (.lst .nil ⟨188, 13, 188, 15⟩) ⟨188, 4, 188, 15⟩)
 (.cons (.for_ (.one 5 "k" ⟨189, 8, 189, 9⟩) (.rng1 (.int 3 0 ⟨189, 19, 189, 20⟩) ⟨189, 13, 189, 18⟩ ⟨189, 13, 189, 21⟩) B_law_1 ⟨189, 4, 200, 28⟩)
 (.cons (.ret (.blt .all (.lc (.cmp .Eq (.nam 11 "level" ⟨201, 16, 201, 21⟩) (.sub (.nam 4 "levels" ⟨201, 25, 201, 31⟩) (.int 0 0 ⟨201, 32, 201, 33⟩) ⟨201, 25, 201, 34⟩) ⟨201, 16, 201, 34⟩) (.one 11 "level" ⟨201, 39, 201, 44⟩) (.seq (.nam 4 "levels" ⟨201, 48, 201, 54⟩)) .nil ⟨.function, [(".0", .local), ("level", .local), ("levels", .free)], false, false, []⟩ [("level", 11)] ⟨201, 15, 201, 55⟩) .nil ⟨201, 11, 201, 14⟩ ⟨201, 11, 201, 56⟩) ⟨201, 4, 201, 56⟩)
 .nil)))
@[irreducible] def B_law_R3 : PBl := B_law_R3d
theorem u_law_R3 : B_law_R3 = B_law_R3d := by unfold B_law_R3; rfl
def bn : List Str := ["list", "len", "tuple", "range", "sum", "max", "min", "isinstance", "int", "bool", "str", "all"]
def fa : List He.Fa := [.glo "_law_tape", .glo "_law_mixed", .glo "_law_take", .glo "_law_large", .glo "_law_days", .glo "deepest", .glo "least_brim", .glo "_law_need", .glo "_law_brim", .glo "lowest", .glo "lasting", .glo "_law_number", .glo "is_number", .glo "stretch_sum", .glo "shows_dry", .glo "_law_told", .glo "_law_lowest", .glo "walked", .glo "passed", .glo "level_behind", .glo "_law_ends", .glo "_law_dries", .glo "_law_shown_right", .glo "law"] ++ [.free "list", .free "len", .free "tuple", .free "range", .free "sum", .free "max", .free "min", .free "isinstance", .free "int", .free "bool", .free "str", .free "all"]
/-- _law_tape(script): 0 script 1 seed 2 cell -/
def B_law_tape : PBl :=
 (.cons (.asg (.one 1 "seed" ⟨84, 4, 84, 8⟩) (.int 0 0 ⟨84, 11, 84, 12⟩) ⟨84, 4, 84, 12⟩)
 (.cons (.for_ (.one 2 "cell" ⟨85, 8, 85, 12⟩) (.seq (.slcH (.nam 0 "script" ⟨85, 16, 85, 22⟩) (.int 63 0 ⟨85, 24, 85, 26⟩) ⟨85, 23, 85, 26⟩ ⟨85, 16, 85, 27⟩)) B_law_tape_1 ⟨85, 4, 86, 49⟩)
 (.cons (.ret (.lst (.cons (.blt .list (.slcH (.nam 0 "script" ⟨87, 17, 87, 23⟩) (.int 63 0 ⟨87, 25, 87, 27⟩) ⟨87, 24, 87, 27⟩ ⟨87, 17, 87, 28⟩) .nil ⟨87, 12, 87, 16⟩ ⟨87, 12, 87, 29⟩) (.cons (.int 0 0 ⟨87, 31, 87, 32⟩) (.cons (.nam 1 "seed" ⟨87, 34, 87, 38⟩) (.cons (.int 0 0 ⟨87, 40, 87, 41⟩) .nil)))) ⟨87, 11, 87, 42⟩) ⟨87, 4, 87, 42⟩)
 .nil)))
def F_law_tape : FD := ⟨"_law_tape", ["script", "seed", "cell"], ["script"], 1, B_law_tape⟩
def H_law_tape : He.DefD := ⟨("_law_tape", none), "_law_tape", "_law_tape", defArgs (top 14), defBody (top 14), defScope (top 14), [], []⟩
/-- _law_mixed(cell, turn): 0 cell 1 turn 2 stir -/
def B_law_mixed : PBl :=
 (.cons (.asg (.one 2 "stir" ⟨80, 4, 80, 8⟩) (.bin .Mod (.bin .Mult (.bin .Add (.bin .Add (.bin .Mod (.nam 0 "cell" ⟨80, 12, 80, 16⟩) (.int 1000000007 0 ⟨80, 19, 80, 29⟩) ⟨80, 12, 80, 29⟩) (.bin .Mult (.int 40692 0 ⟨80, 32, 80, 37⟩) (.nam 1 "turn" ⟨80, 40, 80, 44⟩) ⟨80, 32, 80, 44⟩) ⟨80, 12, 80, 44⟩) (.int 1 0 ⟨80, 47, 80, 48⟩) ⟨80, 12, 80, 48⟩) (.int 48271 0 ⟨80, 52, 80, 57⟩) ⟨80, 11, 80, 57⟩) (.int 2147483647 0 ⟨80, 60, 80, 70⟩) ⟨80, 11, 80, 70⟩) ⟨80, 4, 80, 70⟩)
 (.cons (.asg (.one 2 "stir" ⟨81, 4, 81, 8⟩) (.bin .Mod (.bin .Mult (.nam 2 "stir" ⟨81, 11, 81, 15⟩) (.nam 2 "stir" ⟨81, 18, 81, 22⟩) ⟨81, 11, 81, 22⟩) (.int 998244353 0 ⟨81, 25, 81, 34⟩) ⟨81, 11, 81, 34⟩) ⟨81, 4, 81, 34⟩)
 (.cons (.ret (.bin .FloorDiv (.bin .Mod (.bin .Add (.bin .Mult (.nam 2 "stir" ⟨82, 12, 82, 16⟩) (.int 69621 0 ⟨82, 19, 82, 24⟩) ⟨82, 12, 82, 24⟩) (.bin .Mult (.int 7919 0 ⟨82, 27, 82, 31⟩) (.nam 1 "turn" ⟨82, 34, 82, 38⟩) ⟨82, 27, 82, 38⟩) ⟨82, 12, 82, 38⟩) (.int 1000000007 0 ⟨82, 42, 82, 52⟩) ⟨82, 11, 82, 52⟩) (.int 7 0 ⟨82, 56, 82, 57⟩) ⟨82, 11, 82, 57⟩) ⟨82, 4, 82, 57⟩)
 .nil)))
def F_law_mixed : FD := ⟨"_law_mixed", ["cell", "turn", "stir"], ["cell", "turn"], 1, B_law_mixed⟩
def H_law_mixed : He.DefD := ⟨("_law_mixed", none), "_law_mixed", "_law_mixed", defArgs (top 13), defBody (top 13), defScope (top 13), [], []⟩
/-- _law_take(tape, many): 0 tape 1 many 2 cell 3 found -/
def B_law_take : PBl :=
 (.cons (.setI (.nam 0 "tape" ⟨89, 4, 89, 8⟩) (.int 3 0 ⟨89, 9, 89, 10⟩) (.bin .Add (.sub (.nam 0 "tape" ⟨89, 14, 89, 18⟩) (.int 3 0 ⟨89, 19, 89, 20⟩) ⟨89, 14, 89, 21⟩) (.int 1 0 ⟨89, 24, 89, 25⟩) ⟨89, 14, 89, 25⟩) ⟨89, 4, 89, 11⟩ ⟨89, 4, 89, 25⟩)
 (.cons (.ife (.and (.cmp .Eq (.sub (.nam 0 "tape" ⟨90, 7, 90, 11⟩) (.int 1 0 ⟨90, 12, 90, 13⟩) ⟨90, 7, 90, 14⟩) (.int 0 0 ⟨90, 18, 90, 19⟩) ⟨90, 7, 90, 19⟩) (.cons (.cmp .Gt (.blt .len (.sub (.nam 0 "tape" ⟨90, 28, 90, 32⟩) (.int 0 0 ⟨90, 33, 90, 34⟩) ⟨90, 28, 90, 35⟩) .nil ⟨90, 24, 90, 27⟩ ⟨90, 24, 90, 36⟩) (.int 0 0 ⟨90, 39, 90, 40⟩) ⟨90, 24, 90, 40⟩) .nil) ⟨90, 7, 90, 40⟩) (.cons (.asg (.one 2 "cell" ⟨91, 8, 91, 12⟩) (.meth .pop (.sub (.nam 0 "tape" ⟨91, 15, 91, 19⟩) (.int 0 0 ⟨91, 20, 91, 21⟩) ⟨91, 15, 91, 22⟩) (.int 0 0 ⟨91, 27, 91, 28⟩) .nil ⟨91, 15, 91, 26⟩ ⟨91, 15, 91, 29⟩) ⟨91, 8, 91, 29⟩)
  (.cons (.ife (.cmp .Lt (.nam 2 "cell" ⟨92, 11, 92, 15⟩) (.bin .Pow (.int 10 0 ⟨92, 18, 92, 20⟩) (.int 18 0 ⟨92, 24, 92, 26⟩) ⟨92, 18, 92, 26⟩) ⟨92, 11, 92, 26⟩) (.cons (.ret (.bin .Mod (.call 1 "_law_mixed" (.nam 2 "cell" ⟨93, 30, 93, 34⟩) (.cons (.sub (.nam 0 "tape" ⟨93, 36, 93, 40⟩) (.int 3 0 ⟨93, 41, 93, 42⟩) ⟨93, 36, 93, 43⟩) .nil) ⟨93, 19, 93, 29⟩ ⟨93, 19, 93, 44⟩) (.nam 1 "many" ⟨93, 47, 93, 51⟩) ⟨93, 19, 93, 51⟩) ⟨93, 12, 93, 51⟩)
   .nil) .nil ⟨92, 8, 93, 51⟩)
  B_law_take_R3)) .nil ⟨90, 4, 94, 22⟩)
 B_law_take_R2))
def F_law_take : FD := ⟨"_law_take", ["tape", "many", "cell", "found"], ["tape", "many"], 2, B_law_take⟩
def H_law_take : He.DefD := ⟨("_law_take", none), "_law_take", "_law_take", defArgs (top 15), defBody (top 15), defScope (top 15), [], []⟩
/-- _law_large(tape, many): 0 tape 1 many 2 found 3 size -/
def B_law_large : PBl :=
 (.cons (.asg (.one 2 "found" ⟨101, 4, 101, 9⟩) (.int 0 0 ⟨101, 12, 101, 13⟩) ⟨101, 4, 101, 13⟩)
 (.cons (.asg (.one 3 "size" ⟨102, 4, 102, 8⟩) (.int 1 0 ⟨102, 11, 102, 12⟩) ⟨102, 4, 102, 12⟩)
 (.cons (.whl (.cmp .Lt (.nam 3 "size" ⟨103, 10, 103, 14⟩) (.nam 1 "many" ⟨103, 17, 103, 21⟩) ⟨103, 10, 103, 21⟩) B_law_large_1 ⟨103, 4, 105, 29⟩)
 (.cons (.ret (.bin .Mod (.nam 2 "found" ⟨106, 11, 106, 16⟩) (.nam 1 "many" ⟨106, 19, 106, 23⟩) ⟨106, 11, 106, 23⟩) ⟨106, 4, 106, 23⟩)
 .nil))))
def F_law_large : FD := ⟨"_law_large", ["tape", "many", "found", "size"], ["tape", "many"], 3, B_law_large⟩
def H_law_large : He.DefD := ⟨("_law_large", none), "_law_large", "_law_large", defArgs (top 16), defBody (top 16), defScope (top 16), [], []⟩
/-- _law_days(tape): 0 tape 1 size 2 scale 3 even 4 wide 5 days 6 day 7 at -/
def B_law_days : PBl :=
 (.cons (.asg (.one 1 "size" ⟨108, 4, 108, 8⟩) (.bin .Add (.int 1 0 ⟨108, 11, 108, 12⟩) (.call 2 "_law_take" (.nam 0 "tape" ⟨108, 25, 108, 29⟩) (.cons (.sub (.lst (.cons (.int 3 0 ⟨108, 32, 108, 33⟩) (.cons (.int 8 0 ⟨108, 35, 108, 36⟩) (.cons (.int 60 0 ⟨108, 38, 108, 40⟩) .nil))) ⟨108, 31, 108, 41⟩) (.call 2 "_law_take" (.nam 0 "tape" ⟨108, 52, 108, 56⟩) (.cons (.int 3 0 ⟨108, 58, 108, 59⟩) .nil) ⟨108, 42, 108, 51⟩ ⟨108, 42, 108, 60⟩) ⟨108, 31, 108, 61⟩) .nil) ⟨108, 15, 108, 24⟩ ⟨108, 15, 108, 62⟩) ⟨108, 11, 108, 62⟩) ⟨108, 4, 108, 62⟩)
 (.cons (.asg (.one 2 "scale" ⟨109, 4, 109, 9⟩) (.sub (.lst (.cons (.int 10 0 ⟨109, 13, 109, 15⟩) (.cons (.int 1000 0 ⟨109, 17, 109, 21⟩) (.cons (.bin .Pow (.int 10 0 ⟨109, 23, 109, 25⟩) (.int 15 0 ⟨109, 29, 109, 31⟩) ⟨109, 23, 109, 31⟩) .nil))) ⟨109, 12, 109, 32⟩) (.call 2 "_law_take" (.nam 0 "tape" ⟨109, 43, 109, 47⟩) (.cons (.int 3 0 ⟨109, 49, 109, 50⟩) .nil) ⟨109, 33, 109, 42⟩ ⟨109, 33, 109, 51⟩) ⟨109, 12, 109, 52⟩) ⟨109, 4, 109, 52⟩)
 (.cons (.asg (.one 3 "even" ⟨110, 4, 110, 8⟩) (.call 2 "_law_take" (.nam 0 "tape" ⟨110, 21, 110, 25⟩) (.cons (.int 2 0 ⟨110, 27, 110, 28⟩) .nil) ⟨110, 11, 110, 20⟩ ⟨110, 11, 110, 29⟩) ⟨110, 4, 110, 29⟩)
 (.cons (.asg (.one 4 "wide" ⟨111, 4, 111, 8⟩) (.bin .Sub (.bin .Sub (.nam 2 "scale" ⟨111, 11, 111, 16⟩) (.int 1 0 ⟨111, 19, 111, 20⟩) ⟨111, 11, 111, 20⟩) (.nam 3 "even" ⟨111, 23, 111, 27⟩) ⟨111, 11, 111, 27⟩) ⟨111, 4, 111, 27⟩)
 (.cons (.asg (.one 5 "days" ⟨112, 4, 112, 8⟩) (.lst .nil ⟨112, 11, 112, 13⟩) ⟨112, 4, 112, 13⟩)
 (.cons (.whl (.cmp .Lt (.blt .len (.nam 5 "days" ⟨113, 14, 113, 18⟩) .nil ⟨113, 10, 113, 13⟩ ⟨113, 10, 113, 19⟩) (.nam 1 "size" ⟨113, 22, 113, 26⟩) ⟨113, 10, 113, 26⟩) B_law_days_1 ⟨113, 4, 117, 64⟩)
 (.cons (.ife (.cmp .Eq (.nam 3 "even" ⟨118, 7, 118, 11⟩) (.int 1 0 ⟨118, 15, 118, 16⟩) ⟨118, 7, 118, 16⟩) (.cons (.asg (.one 7 "at" ⟨119, 8, 119, 10⟩) (.call 2 "_law_take" (.nam 0 "tape" ⟨119, 23, 119, 27⟩) (.cons (.nam 1 "size" ⟨119, 29, 119, 33⟩) .nil) ⟨119, 13, 119, 22⟩ ⟨119, 13, 119, 34⟩) ⟨119, 8, 119, 34⟩)
  (.cons (.setI (.nam 5 "days" ⟨120, 8, 120, 12⟩) (.nam 7 "at" ⟨120, 13, 120, 15⟩) (.bin .Sub (.bin .Add (.sub (.nam 5 "days" ⟨120, 19, 120, 23⟩) (.nam 7 "at" ⟨120, 24, 120, 26⟩) ⟨120, 19, 120, 27⟩) (.call 2 "_law_take" (.nam 0 "tape" ⟨120, 40, 120, 44⟩) (.cons (.int 3 0 ⟨120, 46, 120, 47⟩) .nil) ⟨120, 30, 120, 39⟩ ⟨120, 30, 120, 48⟩) ⟨120, 19, 120, 48⟩) (.int 1 0 ⟨120, 51, 120, 52⟩) ⟨120, 19, 120, 52⟩) ⟨120, 8, 120, 16⟩ ⟨120, 8, 120, 52⟩)
  .nil)) .nil ⟨118, 4, 120, 52⟩)
 B_law_days_R1)))))))
def F_law_days : FD := ⟨"_law_days", ["tape", "size", "scale", "even", "wide", "days", "day", "at"], ["tape"], 4, B_law_days⟩
def H_law_days : He.DefD := ⟨("_law_days", none), "_law_days", "_law_days", defArgs (top 17), defBody (top 17), defScope (top 17), [], []⟩
/-- deepest(days): 0 days 1 low 2 first 3 many 4 under 5 start 6 day -/
def B_deepest : PBl :=
 (.cons (.asg (.one 1 "low" ⟨35, 4, 35, 7⟩) (.int 0 0 ⟨35, 10, 35, 11⟩) ⟨35, 4, 35, 11⟩)
 (.cons (.asg (.one 2 "first" ⟨36, 4, 36, 9⟩) (.int 0 0 ⟨36, 12, 36, 13⟩) ⟨36, 4, 36, 13⟩)
 (.cons (.asg (.one 3 "many" ⟨37, 4, 37, 8⟩) (.int 0 0 ⟨37, 11, 37, 12⟩) ⟨37, 4, 37, 12⟩)
 (.cons (.asg (.one 4 "under" ⟨38, 4, 38, 9⟩) (.int 0 0 ⟨38, 12, 38, 13⟩) ⟨38, 4, 38, 13⟩)
 (.cons (.asg (.one 5 "start" ⟨39, 4, 39, 9⟩) (.int 0 0 ⟨39, 12, 39, 13⟩) ⟨39, 4, 39, 13⟩)
 (.cons (.for_ (.one 6 "day" ⟨40, 8, 40, 11⟩) (.rng1 (.bin .Mult (.int 2 0 ⟨40, 21, 40, 22⟩) (.blt .len (.nam 0 "days" ⟨40, 29, 40, 33⟩) .nil ⟨40, 25, 40, 28⟩ ⟨40, 25, 40, 34⟩) ⟨40, 21, 40, 34⟩) ⟨40, 15, 40, 20⟩ ⟨40, 15, 40, 35⟩) B_deepest_1 ⟨40, 4, 48, 34⟩)
 (.cons (.ret (.tup (.cons (.nam 1 "low" ⟨49, 12, 49, 15⟩) (.cons (.bin .Mod (.nam 2 "first" ⟨49, 17, 49, 22⟩) (.blt .len (.nam 0 "days" ⟨49, 29, 49, 33⟩) .nil ⟨49, 25, 49, 28⟩ ⟨49, 25, 49, 34⟩) ⟨49, 17, 49, 34⟩) (.cons (.nam 3 "many" ⟨49, 36, 49, 40⟩) .nil))) 0 ⟨49, 11, 49, 41⟩) ⟨49, 4, 49, 41⟩)
 .nil)))))))
def F_deepest : FD := ⟨"deepest", ["days", "low", "first", "many", "under", "start", "day"], ["days"], 1, B_deepest⟩
def H_deepest : He.DefD := ⟨("deepest", none), "deepest", "deepest", defArgs (top 5), defBody (top 5), defScope (top 5), [], []⟩
/-- least_brim(days): 0 days -/
def B_least_brim : PBl :=
 (.cons (.ife (.cmp .Lt (.blt .sum (.nam 0 "days" ⟨59, 11, 59, 15⟩) .nil ⟨59, 7, 59, 10⟩ ⟨59, 7, 59, 16⟩) (.int 0 0 ⟨59, 19, 59, 20⟩) ⟨59, 7, 59, 20⟩) (.cons (.ret (.non 0 ⟨60, 15, 60, 19⟩) ⟨60, 8, 60, 19⟩)
  .nil) .nil ⟨59, 4, 60, 19⟩)
 B_least_brim_R1)
def F_least_brim : FD := ⟨"least_brim", ["days"], ["days"], 2, B_least_brim⟩
def H_least_brim : He.DefD := ⟨("least_brim", none), "least_brim", "least_brim", defArgs (top 7), defBody (top 7), defScope (top 7), [], []⟩
/-- _law_need(days): 0 days 1 need 2 under 3 day -/
def B_law_need : PBl :=
 (.cons (.asg (.one 1 "need" ⟨123, 4, 123, 8⟩) (.int 0 0 ⟨123, 11, 123, 12⟩) ⟨123, 4, 123, 12⟩)
 (.cons (.asg (.one 2 "under" ⟨124, 4, 124, 9⟩) (.int 0 0 ⟨124, 12, 124, 13⟩) ⟨124, 4, 124, 13⟩)
 (.cons (.for_ (.one 3 "day" ⟨125, 8, 125, 11⟩) (.seq (.bin .Add (.nam 0 "days" ⟨125, 15, 125, 19⟩) (.nam 0 "days" ⟨125, 22, 125, 26⟩) ⟨125, 15, 125, 26⟩)) B_law_need_1 ⟨125, 4, 127, 35⟩)
 (.cons (.ret (.nam 1 "need" ⟨128, 11, 128, 15⟩) ⟨128, 4, 128, 15⟩)
 .nil))))
def F_law_need : FD := ⟨"_law_need", ["days", "need", "under", "day"], ["days"], 1, B_law_need⟩
def H_law_need : He.DefD := ⟨("_law_need", none), "_law_need", "_law_need", defArgs (top 18), defBody (top 18), defScope (top 18), [], []⟩
/-- _law_brim(tape, days): 0 tape 1 days 2 near -/
def B_law_brim : PBl :=
 (.cons (.asg (.one 2 "near" ⟨130, 4, 130, 8⟩) (.bin .Sub (.bin .Add (.call 7 "_law_need" (.nam 1 "days" ⟨130, 21, 130, 25⟩) .nil ⟨130, 11, 130, 20⟩ ⟨130, 11, 130, 26⟩) (.call 2 "_law_take" (.nam 0 "tape" ⟨130, 39, 130, 43⟩) (.cons (.int 3 0 ⟨130, 45, 130, 46⟩) .nil) ⟨130, 29, 130, 38⟩ ⟨130, 29, 130, 47⟩) ⟨130, 11, 130, 47⟩) (.int 1 0 ⟨130, 50, 130, 51⟩) ⟨130, 11, 130, 51⟩) ⟨130, 4, 130, 51⟩)
 (.cons (.ife (.and (.cmp .Eq (.call 2 "_law_take" (.nam 0 "tape" ⟨131, 17, 131, 21⟩) (.cons (.int 2 0 ⟨131, 23, 131, 24⟩) .nil) ⟨131, 7, 131, 16⟩ ⟨131, 7, 131, 25⟩) (.int 0 0 ⟨131, 29, 131, 30⟩) ⟨131, 7, 131, 30⟩) (.cons (.chn .LtE .LtE (.int 0 0 ⟨131, 35, 131, 36⟩) (.nam 2 "near" ⟨131, 40, 131, 44⟩) (.bin .Pow (.int 10 0 ⟨131, 48, 131, 50⟩) (.int 15 0 ⟨131, 54, 131, 56⟩) ⟨131, 48, 131, 56⟩) ⟨131, 35, 131, 56⟩) .nil) ⟨131, 7, 131, 56⟩) (.cons (.ret (.nam 2 "near" ⟨132, 15, 132, 19⟩) ⟨132, 8, 132, 19⟩)
  .nil) .nil ⟨131, 4, 132, 19⟩)
 B_law_brim_R1))
def F_law_brim : FD := ⟨"_law_brim", ["tape", "days", "near"], ["tape", "days"], 4, B_law_brim⟩
def H_law_brim : He.DefD := ⟨("_law_brim", none), "_law_brim", "_law_brim", defArgs (top 19), defBody (top 19), defScope (top 19), [], []⟩
/-- lowest(days): 0 days 1 total 2 found 3 day -/
def B_lowest : PBl :=
 (.cons (.asg (.one 1 "total" ⟨9, 4, 9, 9⟩) (.int 0 0 ⟨9, 12, 9, 13⟩) ⟨9, 4, 9, 13⟩)
 (.cons (.asg (.one 2 "found" ⟨10, 4, 10, 9⟩) (.int 0 0 ⟨10, 12, 10, 13⟩) ⟨10, 4, 10, 13⟩)
 (.cons (.for_ (.one 3 "day" ⟨11, 8, 11, 11⟩) (.seq (.nam 0 "days" ⟨11, 15, 11, 19⟩)) B_lowest_1 ⟨11, 4, 13, 33⟩)
 (.cons (.ret (.nam 2 "found" ⟨14, 11, 14, 16⟩) ⟨14, 4, 14, 16⟩)
 .nil))))
def F_lowest : FD := ⟨"lowest", ["days", "total", "found", "day"], ["days"], 1, B_lowest⟩
def H_lowest : He.DefD := ⟨("lowest", none), "lowest", "lowest", defArgs (top 2), defBody (top 2), defScope (top 2), [], []⟩
/-- lasting(brim, days): 0 brim 1 days 2 total 3 low 4 first 5 many -/
def B_lasting : PBl :=
 (.cons (.asg (.one 2 "total" ⟨51, 4, 51, 9⟩) (.blt .sum (.nam 1 "days" ⟨51, 16, 51, 20⟩) .nil ⟨51, 12, 51, 15⟩ ⟨51, 12, 51, 21⟩) ⟨51, 4, 51, 21⟩)
 (.cons (.ife (.cmp .Lt (.nam 2 "total" ⟨52, 7, 52, 12⟩) (.int 0 0 ⟨52, 15, 52, 16⟩) ⟨52, 7, 52, 16⟩) (.cons (.ret (.tup (.cons (.str "dries" 0 ⟨53, 16, 53, 23⟩) (.cons (.int 0 0 ⟨53, 25, 53, 26⟩) (.cons (.bin .Mult (.blt .len (.nam 1 "days" ⟨53, 32, 53, 36⟩) .nil ⟨53, 28, 53, 31⟩ ⟨53, 28, 53, 37⟩) (.bin .Add (.bin .FloorDiv (.nam 0 "brim" ⟨53, 41, 53, 45⟩) (.bin .Sub (.int 0 0 ⟨53, 50, 53, 51⟩) (.nam 2 "total" ⟨53, 54, 53, 59⟩) ⟨53, 50, 53, 59⟩) ⟨53, 41, 53, 60⟩) (.int 1 0 ⟨53, 63, 53, 64⟩) ⟨53, 41, 53, 64⟩) ⟨53, 28, 53, 65⟩) .nil))) 0 ⟨53, 15, 53, 66⟩) ⟨53, 8, 53, 66⟩)
  .nil) .nil ⟨52, 4, 53, 66⟩)
 B_lasting_R2))
def F_lasting : FD := ⟨"lasting", ["brim", "days", "total", "low", "first", "many"], ["brim", "days"], 2, B_lasting⟩
def H_lasting : He.DefD := ⟨("lasting", none), "lasting", "lasting", defArgs (top 6), defBody (top 6), defScope (top 6), [], []⟩
/-- _law_number(found): 0 found -/
def B_law_number : PBl :=
 (.cons (.ret (.and (.isi (.nam 0 "found" ⟨135, 22, 135, 27⟩) .int ⟨135, 11, 135, 21⟩ ⟨135, 29, 135, 32⟩ ⟨135, 11, 135, 33⟩) (.cons (.nt (.isi (.nam 0 "found" ⟨135, 54, 135, 59⟩) .bool ⟨135, 43, 135, 53⟩ ⟨135, 61, 135, 65⟩ ⟨135, 43, 135, 66⟩) ⟨135, 39, 135, 66⟩) .nil) ⟨135, 11, 135, 67⟩) ⟨135, 4, 135, 67⟩)
 .nil)
def F_law_number : FD := ⟨"_law_number", ["found"], ["found"], 1, B_law_number⟩
def H_law_number : He.DefD := ⟨("_law_number", none), "_law_number", "_law_number", defArgs (top 20), defBody (top 20), defScope (top 20), [], []⟩
/-- is_number(thing): 0 thing -/
def B_is_number : PBl :=
 (.cons (.ret (.and (.isi (.nam 0 "thing" ⟨64, 22, 64, 27⟩) .int ⟨64, 11, 64, 21⟩ ⟨64, 29, 64, 32⟩ ⟨64, 11, 64, 33⟩) (.cons (.nt (.isi (.nam 0 "thing" ⟨64, 54, 64, 59⟩) .bool ⟨64, 43, 64, 53⟩ ⟨64, 61, 64, 65⟩ ⟨64, 43, 64, 66⟩) ⟨64, 39, 64, 66⟩) .nil) ⟨64, 11, 64, 67⟩) ⟨64, 4, 64, 67⟩)
 .nil)
def F_is_number : FD := ⟨"is_number", ["thing"], ["thing"], 1, B_is_number⟩
def H_is_number : He.DefD := ⟨("is_number", none), "is_number", "is_number", defArgs (top 9), defBody (top 9), defScope (top 9), [], []⟩
/-- stretch_sum(days, first, many): 0 days 1 first 2 many 3 total 4 day -/
def B_stretch_sum : PBl :=
 (.cons (.asg (.one 3 "total" ⟨66, 4, 66, 9⟩) (.bin .Mult (.bin .FloorDiv (.nam 2 "many" ⟨66, 12, 66, 16⟩) (.blt .len (.nam 0 "days" ⟨66, 24, 66, 28⟩) .nil ⟨66, 20, 66, 23⟩ ⟨66, 20, 66, 29⟩) ⟨66, 12, 66, 29⟩) (.blt .sum (.nam 0 "days" ⟨66, 36, 66, 40⟩) .nil ⟨66, 32, 66, 35⟩ ⟨66, 32, 66, 41⟩) ⟨66, 12, 66, 41⟩) ⟨66, 4, 66, 41⟩)
 (.cons (.for_ (.one 4 "day" ⟨67, 8, 67, 11⟩) (.rng1 (.bin .Mod (.nam 2 "many" ⟨67, 21, 67, 25⟩) (.blt .len (.nam 0 "days" ⟨67, 32, 67, 36⟩) .nil ⟨67, 28, 67, 31⟩ ⟨67, 28, 67, 37⟩) ⟨67, 21, 67, 37⟩) ⟨67, 15, 67, 20⟩ ⟨67, 15, 67, 38⟩) B_stretch_sum_1 ⟨67, 4, 68, 55⟩)
 (.cons (.ret (.nam 3 "total" ⟨69, 11, 69, 16⟩) ⟨69, 4, 69, 16⟩)
 .nil)))
def F_stretch_sum : FD := ⟨"stretch_sum", ["days", "first", "many", "total", "day"], ["days", "first", "many"], 1, B_stretch_sum⟩
def H_stretch_sum : He.DefD := ⟨("stretch_sum", none), "stretch_sum", "stretch_sum", defArgs (top 10), defBody (top 10), defScope (top 10), [], []⟩
/-- shows_dry(brim, days, thing): 0 brim 1 days 2 thing -/
def B_shows_dry : PBl :=
 (.cons (.ife (.or (.nt (.isi (.nam 2 "thing" ⟨71, 22, 71, 27⟩) .tuple ⟨71, 11, 71, 21⟩ ⟨71, 29, 71, 34⟩ ⟨71, 11, 71, 35⟩) ⟨71, 7, 71, 35⟩) (.cons (.cmp .NotEq (.blt .len (.nam 2 "thing" ⟨71, 43, 71, 48⟩) .nil ⟨71, 39, 71, 42⟩ ⟨71, 39, 71, 49⟩) (.int 3 0 ⟨71, 53, 71, 54⟩) ⟨71, 39, 71, 54⟩) (.cons (.nt (.isi (.sub (.nam 2 "thing" ⟨71, 74, 71, 79⟩) (.int 0 0 ⟨71, 80, 71, 81⟩) ⟨71, 74, 71, 82⟩) .str ⟨71, 63, 71, 73⟩ ⟨71, 84, 71, 87⟩ ⟨71, 63, 71, 88⟩) ⟨71, 59, 71, 88⟩) (.cons (.cmp .NotEq (.sub (.nam 2 "thing" ⟨71, 94, 71, 99⟩) (.int 0 0 ⟨71, 100, 71, 101⟩) ⟨71, 94, 71, 102⟩) (.str "dries" 0 ⟨71, 106, 71, 113⟩) ⟨71, 94, 71, 113⟩) .nil))) ⟨71, 7, 71, 114⟩) (.cons (.ret (.bl false 0 ⟨72, 15, 72, 20⟩) ⟨72, 8, 72, 20⟩)
  .nil) .nil ⟨71, 4, 72, 20⟩)
 B_shows_dry_R3)
def F_shows_dry : FD := ⟨"shows_dry", ["brim", "days", "thing"], ["brim", "days", "thing"], 2, B_shows_dry⟩
def H_shows_dry : He.DefD := ⟨("shows_dry", none), "shows_dry", "shows_dry", defArgs (top 11), defBody (top 11), defScope (top 11), [], []⟩
/-- _law_told(brim, days, lasts): 0 brim 1 days 2 lasts 3 found -/
def B_law_told : PBl :=
 (.cons (.asg (.one 3 "found" ⟨162, 4, 162, 9⟩) (.call 10 "lasting" (.nam 0 "brim" ⟨162, 20, 162, 24⟩) (.cons (.nam 1 "days" ⟨162, 26, 162, 30⟩) .nil) ⟨162, 12, 162, 19⟩ ⟨162, 12, 162, 31⟩) ⟨162, 4, 162, 31⟩)
 (.cons (.ife (.or (.nt (.isi (.nam 3 "found" ⟨163, 22, 163, 27⟩) .tuple ⟨163, 11, 163, 21⟩ ⟨163, 29, 163, 34⟩ ⟨163, 11, 163, 35⟩) ⟨163, 7, 163, 35⟩) (.cons (.cmp .Lt (.blt .len (.nam 3 "found" ⟨163, 43, 163, 48⟩) .nil ⟨163, 39, 163, 42⟩ ⟨163, 39, 163, 49⟩) (.int 2 0 ⟨163, 52, 163, 53⟩) ⟨163, 39, 163, 53⟩) (.cons (.nt (.isi (.sub (.nam 3 "found" ⟨163, 73, 163, 78⟩) (.int 0 0 ⟨163, 79, 163, 80⟩) ⟨163, 73, 163, 81⟩) .str ⟨163, 62, 163, 72⟩ ⟨163, 83, 163, 86⟩ ⟨163, 62, 163, 87⟩) ⟨163, 58, 163, 87⟩) .nil)) ⟨163, 7, 163, 88⟩) (.cons (.ret (.non 0 ⟨164, 15, 164, 19⟩) ⟨164, 8, 164, 19⟩)
  .nil) .nil ⟨163, 4, 164, 19⟩)
 B_law_told_R4))
def F_law_told : FD := ⟨"_law_told", ["brim", "days", "lasts", "found"], ["brim", "days", "lasts"], 3, B_law_told⟩
def H_law_told : He.DefD := ⟨("_law_told", none), "_law_told", "_law_told", defArgs (top 23), defBody (top 23), defScope (top 23), [], []⟩
/-- _law_lowest(days): 0 days 1 low 2 first 3 many 4 under 5 start 6 at -/
def B_law_lowest : PBl :=
 (.cons (.asg (.one 1 "low" ⟨146, 4, 146, 7⟩) (.int 0 0 ⟨146, 10, 146, 11⟩) ⟨146, 4, 146, 11⟩)
 (.cons (.asg (.one 2 "first" ⟨147, 4, 147, 9⟩) (.int 0 0 ⟨147, 12, 147, 13⟩) ⟨147, 4, 147, 13⟩)
 (.cons (.asg (.one 3 "many" ⟨148, 4, 148, 8⟩) (.int 1 0 ⟨148, 11, 148, 12⟩) ⟨148, 4, 148, 12⟩)
 (.cons (.asg (.one 4 "under" ⟨149, 4, 149, 9⟩) (.int 0 0 ⟨149, 12, 149, 13⟩) ⟨149, 4, 149, 13⟩)
 (.cons (.asg (.one 5 "start" ⟨150, 4, 150, 9⟩) (.int 0 0 ⟨150, 12, 150, 13⟩) ⟨150, 4, 150, 13⟩)
 (.cons (.for_ (.one 6 "at" ⟨151, 8, 151, 10⟩) (.rng1 (.bin .Mult (.int 2 0 ⟨151, 20, 151, 21⟩) (.blt .len (.nam 0 "days" ⟨151, 28, 151, 32⟩) .nil ⟨151, 24, 151, 27⟩ ⟨151, 24, 151, 33⟩) ⟨151, 20, 151, 33⟩) ⟨151, 14, 151, 19⟩ ⟨151, 14, 151, 34⟩) B_law_lowest_1 ⟨151, 4, 159, 26⟩)
 (.cons (.ret (.tup (.cons (.str "dries" 0 ⟨160, 12, 160, 19⟩) (.cons (.nam 2 "first" ⟨160, 21, 160, 26⟩) (.cons (.nam 3 "many" ⟨160, 28, 160, 32⟩) .nil))) 0 ⟨160, 11, 160, 33⟩) ⟨160, 4, 160, 33⟩)
 .nil)))))))
def F_law_lowest : FD := ⟨"_law_lowest", ["days", "low", "first", "many", "under", "start", "at"], ["days"], 1, B_law_lowest⟩
def H_law_lowest : He.DefD := ⟨("_law_lowest", none), "_law_lowest", "_law_lowest", defArgs (top 22), defBody (top 22), defScope (top 22), [], []⟩
/-- walked(brim, days, level, many): 0 brim 1 days 2 level 3 many 4 day -/
def B_walked : PBl :=
 (.cons (.for_ (.one 4 "day" ⟨3, 8, 3, 11⟩) (.rng1 (.nam 3 "many" ⟨3, 21, 3, 25⟩) ⟨3, 15, 3, 20⟩ ⟨3, 15, 3, 26⟩) B_walked_1 ⟨3, 4, 6, 31⟩)
 (.cons (.ret (.tup (.cons (.str "level" 0 ⟨7, 12, 7, 19⟩) (.cons (.nam 2 "level" ⟨7, 21, 7, 26⟩) .nil)) 0 ⟨7, 11, 7, 27⟩) ⟨7, 4, 7, 27⟩)
 .nil))
def F_walked : FD := ⟨"walked", ["brim", "days", "level", "many", "day"], ["brim", "days", "level", "many"], 1, B_walked⟩
def H_walked : He.DefD := ⟨("walked", none), "walked", "walked", defArgs (top 1), defBody (top 1), defScope (top 1), [], []⟩
/-- passed(brim, days, level, rounds): 0 brim 1 days 2 level 3 rounds 4 total 5 full 6 safe -/
def B_passed : PBl :=
 (.cons (.asg (.one 4 "total" ⟨16, 4, 16, 9⟩) (.blt .sum (.nam 1 "days" ⟨16, 16, 16, 20⟩) .nil ⟨16, 12, 16, 15⟩ ⟨16, 12, 16, 21⟩) ⟨16, 4, 16, 21⟩)
 (.cons (.ife (.cmp .GtE (.nam 4 "total" ⟨17, 7, 17, 12⟩) (.int 0 0 ⟨17, 16, 17, 17⟩) ⟨17, 7, 17, 17⟩) (.cons (.asg (.one 5 "full" ⟨18, 8, 18, 12⟩) (.sub (.call 17 "walked" (.nam 0 "brim" ⟨18, 22, 18, 26⟩) (.cons (.nam 1 "days" ⟨18, 28, 18, 32⟩) (.cons (.nam 0 "brim" ⟨18, 34, 18, 38⟩) (.cons (.blt .len (.nam 1 "days" ⟨18, 44, 18, 48⟩) .nil ⟨18, 40, 18, 43⟩ ⟨18, 40, 18, 49⟩) .nil))) ⟨18, 15, 18, 21⟩ ⟨18, 15, 18, 50⟩) (.int 1 0 ⟨18, 51, 18, 52⟩) ⟨18, 15, 18, 53⟩) ⟨18, 8, 18, 53⟩)
  (.cons (.ret (.tup (.cons (.nam 3 "rounds" ⟨19, 16, 19, 22⟩) (.cons (.blt .min (.nam 5 "full" ⟨19, 28, 19, 32⟩) (.cons (.bin .Add (.nam 2 "level" ⟨19, 34, 19, 39⟩) (.bin .Mult (.nam 3 "rounds" ⟨19, 42, 19, 48⟩) (.nam 4 "total" ⟨19, 51, 19, 56⟩) ⟨19, 42, 19, 56⟩) ⟨19, 34, 19, 56⟩) .nil) ⟨19, 24, 19, 27⟩ ⟨19, 24, 19, 57⟩) .nil)) 0 ⟨19, 15, 19, 58⟩) ⟨19, 8, 19, 58⟩)
  .nil)) .nil ⟨17, 4, 19, 58⟩)
 B_passed_R1))
def F_passed : FD := ⟨"passed", ["brim", "days", "level", "rounds", "total", "full", "safe"], ["brim", "days", "level", "rounds"], 2, B_passed⟩
def H_passed : He.DefD := ⟨("passed", none), "passed", "passed", defArgs (top 3), defBody (top 3), defScope (top 3), [], []⟩
/-- level_behind(brim, days, level, many): 0 brim 1 days 2 level 3 many 4 begun 5 found 6 rounds -/
def B_level_behind : PBl :=
 (.cons (.asg (.one 4 "begun" ⟨24, 4, 24, 9⟩) (.blt .min (.nam 3 "many" ⟨24, 16, 24, 20⟩) (.cons (.bin .Mult (.int 2 0 ⟨24, 22, 24, 23⟩) (.blt .len (.nam 1 "days" ⟨24, 30, 24, 34⟩) .nil ⟨24, 26, 24, 29⟩ ⟨24, 26, 24, 35⟩) ⟨24, 22, 24, 35⟩) .nil) ⟨24, 12, 24, 15⟩ ⟨24, 12, 24, 36⟩) ⟨24, 4, 24, 36⟩)
 (.cons (.asg (.one 5 "found" ⟨25, 4, 25, 9⟩) (.call 17 "walked" (.nam 0 "brim" ⟨25, 19, 25, 23⟩) (.cons (.nam 1 "days" ⟨25, 25, 25, 29⟩) (.cons (.nam 2 "level" ⟨25, 31, 25, 36⟩) (.cons (.nam 4 "begun" ⟨25, 38, 25, 43⟩) .nil))) ⟨25, 12, 25, 18⟩ ⟨25, 12, 25, 44⟩) ⟨25, 4, 25, 44⟩)
 (.cons (.ife (.or (.cmp .Eq (.sub (.nam 5 "found" ⟨26, 7, 26, 12⟩) (.int 0 0 ⟨26, 13, 26, 14⟩) ⟨26, 7, 26, 15⟩) (.str "dry" 0 ⟨26, 19, 26, 24⟩) ⟨26, 7, 26, 24⟩) (.cons (.cmp .Eq (.nam 4 "begun" ⟨26, 28, 26, 33⟩) (.nam 3 "many" ⟨26, 37, 26, 41⟩) ⟨26, 28, 26, 41⟩) .nil) ⟨26, 7, 26, 41⟩) (.cons (.ret (.nam 5 "found" ⟨27, 15, 27, 20⟩) ⟨27, 8, 27, 20⟩)
  .nil) .nil ⟨26, 4, 27, 20⟩)
 B_level_behind_R2)))
def F_level_behind : FD := ⟨"level_behind", ["brim", "days", "level", "many", "begun", "found", "rounds"], ["brim", "days", "level", "many"], 3, B_level_behind⟩
def H_level_behind : He.DefD := ⟨("level_behind", none), "level_behind", "level_behind", defArgs (top 4), defBody (top 4), defScope (top 4), [], []⟩
/-- _law_ends(brim, days, lasts): 0 brim 1 days 2 lasts 3 found -/
def B_law_ends : PBl :=
 (.cons (.asg (.one 3 "found" ⟨178, 4, 178, 9⟩) (.call 19 "level_behind" (.nam 0 "brim" ⟨178, 25, 178, 29⟩) (.cons (.nam 1 "days" ⟨178, 31, 178, 35⟩) (.cons (.nam 0 "brim" ⟨178, 37, 178, 41⟩) (.cons (.bin .Pow (.int 10 0 ⟨178, 43, 178, 45⟩) (.int 30 0 ⟨178, 49, 178, 51⟩) ⟨178, 43, 178, 51⟩) .nil))) ⟨178, 12, 178, 24⟩ ⟨178, 12, 178, 52⟩) ⟨178, 4, 178, 52⟩)
 (.cons (.ife (.or (.nt (.isi (.nam 3 "found" ⟨179, 22, 179, 27⟩) .tuple ⟨179, 11, 179, 21⟩ ⟨179, 29, 179, 34⟩ ⟨179, 11, 179, 35⟩) ⟨179, 7, 179, 35⟩) (.cons (.cmp .NotEq (.blt .len (.nam 3 "found" ⟨179, 43, 179, 48⟩) .nil ⟨179, 39, 179, 42⟩ ⟨179, 39, 179, 49⟩) (.int 2 0 ⟨179, 53, 179, 54⟩) ⟨179, 39, 179, 54⟩) (.cons (.nt (.isi (.sub (.nam 3 "found" ⟨179, 74, 179, 79⟩) (.int 0 0 ⟨179, 80, 179, 81⟩) ⟨179, 74, 179, 82⟩) .str ⟨179, 63, 179, 73⟩ ⟨179, 84, 179, 87⟩ ⟨179, 63, 179, 88⟩) ⟨179, 59, 179, 88⟩) .nil)) ⟨179, 7, 179, 89⟩) (.cons (.ret (.bl false 0 ⟨180, 15, 180, 20⟩) ⟨180, 8, 180, 20⟩)
  .nil) .nil ⟨179, 4, 180, 20⟩)
 B_law_ends_R1))
def F_law_ends : FD := ⟨"_law_ends", ["brim", "days", "lasts", "found"], ["brim", "days", "lasts"], 4, B_law_ends⟩
def H_law_ends : He.DefD := ⟨("_law_ends", none), "_law_ends", "_law_ends", defArgs (top 25), defBody (top 25), defScope (top 25), [], []⟩
/-- _law_dries(brim, days, first, many): 0 brim 1 days 2 first 3 many 4 total 5 at -/
def B_law_dries : PBl :=
 (.cons (.ife (.or (.nt (.call 11 "_law_number" (.nam 2 "first" ⟨137, 23, 137, 28⟩) .nil ⟨137, 11, 137, 22⟩ ⟨137, 11, 137, 29⟩) ⟨137, 7, 137, 29⟩) (.cons (.nt (.call 11 "_law_number" (.nam 3 "many" ⟨137, 49, 137, 53⟩) .nil ⟨137, 37, 137, 48⟩ ⟨137, 37, 137, 54⟩) ⟨137, 33, 137, 54⟩) .nil) ⟨137, 7, 137, 54⟩) (.cons (.ret (.bl false 0 ⟨138, 15, 138, 20⟩) ⟨138, 8, 138, 20⟩)
  .nil) .nil ⟨137, 4, 138, 20⟩)
 B_law_dries_R2)
def F_law_dries : FD := ⟨"_law_dries", ["brim", "days", "first", "many", "total", "at"], ["brim", "days", "first", "many"], 2, B_law_dries⟩
def H_law_dries : He.DefD := ⟨("_law_dries", none), "_law_dries", "_law_dries", defArgs (top 21), defBody (top 21), defScope (top 21), [], []⟩
/-- _law_shown_right(brim, days, paper, lasts): 0 brim 1 days 2 paper 3 lasts 4 shown -/
def B_law_shown_right : PBl :=
 (.cons (.asg (.one 4 "shown" ⟨173, 4, 173, 9⟩) (.call 14 "shows_dry" (.nam 0 "brim" ⟨173, 22, 173, 26⟩) (.cons (.nam 1 "days" ⟨173, 28, 173, 32⟩) (.cons (.nam 2 "paper" ⟨173, 34, 173, 39⟩) .nil)) ⟨173, 12, 173, 21⟩ ⟨173, 12, 173, 40⟩) ⟨173, 4, 173, 40⟩)
 (.cons (.ife (.or (.nt (.isi (.nam 4 "shown" ⟨174, 22, 174, 27⟩) .bool ⟨174, 11, 174, 21⟩ ⟨174, 29, 174, 33⟩ ⟨174, 11, 174, 34⟩) ⟨174, 7, 174, 34⟩) (.cons (.cmp .NotEq (.nam 4 "shown" ⟨174, 38, 174, 43⟩) (.call 21 "_law_dries" (.nam 0 "brim" ⟨174, 58, 174, 62⟩) (.cons (.nam 1 "days" ⟨174, 64, 174, 68⟩) (.cons (.sub (.nam 2 "paper" ⟨174, 70, 174, 75⟩) (.int 1 0 ⟨174, 76, 174, 77⟩) ⟨174, 70, 174, 78⟩) (.cons (.sub (.nam 2 "paper" ⟨174, 80, 174, 85⟩) (.int 2 0 ⟨174, 86, 174, 87⟩) ⟨174, 80, 174, 88⟩) .nil))) ⟨174, 47, 174, 57⟩ ⟨174, 47, 174, 89⟩) ⟨174, 38, 174, 89⟩) .nil) ⟨174, 7, 174, 89⟩) (.cons (.ret (.bl false 0 ⟨175, 15, 175, 20⟩) ⟨175, 8, 175, 20⟩)
  .nil) .nil ⟨174, 4, 175, 20⟩)
 B_law_shown_right_R1))
def F_law_shown_right : FD := ⟨"_law_shown_right", ["brim", "days", "paper", "lasts", "shown"], ["brim", "days", "paper", "lasts"], 3, B_law_shown_right⟩
def H_law_shown_right : He.DefD := ⟨("_law_shown_right", none), "_law_shown_right", "_law_shown_right", defArgs (top 24), defBody (top 24), defScope (top 24), [], []⟩
/-- law(script): 0 script 1 tape 2 days 3 least 4 levels 5 k 6 brim 7 lasts 8 found 9 many 10 paper 11 level -/
def B_law : PBl :=
 (.cons (.asg (.one 1 "tape" ⟨183, 4, 183, 8⟩) (.call 0 "_law_tape" (.nam 0 "script" ⟨183, 21, 183, 27⟩) .nil ⟨183, 11, 183, 20⟩ ⟨183, 11, 183, 28⟩) ⟨183, 4, 183, 28⟩)
 (.cons (.asg (.one 2 "days" ⟨184, 4, 184, 8⟩) (.call 4 "_law_days" (.nam 1 "tape" ⟨184, 21, 184, 25⟩) .nil ⟨184, 11, 184, 20⟩ ⟨184, 11, 184, 26⟩) ⟨184, 4, 184, 26⟩)
 (.cons (.asg (.one 3 "least" ⟨185, 4, 185, 9⟩) (.call 6 "least_brim" (.nam 2 "days" ⟨185, 23, 185, 27⟩) .nil ⟨185, 12, 185, 22⟩ ⟨185, 12, 185, 28⟩) ⟨185, 4, 185, 28⟩)
 (.cons (.ife (.and (.cmp .IsNot (.nam 3 "least" ⟨186, 7, 186, 12⟩) (.non 0 ⟨186, 20, 186, 24⟩) ⟨186, 7, 186, 24⟩) (.cons (.or (.nt (.call 11 "_law_number" (.nam 3 "least" ⟨186, 46, 186, 51⟩) .nil ⟨186, 34, 186, 45⟩ ⟨186, 34, 186, 52⟩) ⟨186, 30, 186, 52⟩) (.cons (.cmp .Lt (.nam 3 "least" ⟨186, 56, 186, 61⟩) (.int 0 0 ⟨186, 64, 186, 65⟩) ⟨186, 56, 186, 65⟩) .nil) ⟨186, 30, 186, 65⟩) .nil) ⟨186, 7, 186, 66⟩) (.cons (.ret (.bl false 0 ⟨187, 15, 187, 20⟩) ⟨187, 8, 187, 20⟩)
  .nil) .nil ⟨186, 4, 187, 20⟩)
 B_law_R3))))
def F_law : FD := ⟨"law", ["script", "tape", "days", "least", "levels", "k", "brim", "lasts", "found", "many", "paper", "level"], ["script"], 5, B_law⟩
def H_law : He.DefD := ⟨("law", none), "law", "law", defArgs (top 26), defBody (top 26), defScope (top 26), [], []⟩
def fn : List He.DefD := [H_law_tape, H_law_mixed, H_law_take, H_law_large, H_law_days, H_deepest, H_least_brim, H_law_need, H_law_brim, H_lowest, H_lasting, H_law_number, H_is_number, H_stretch_sum, H_shows_dry, H_law_told, H_law_lowest, H_walked, H_passed, H_level_behind, H_law_ends, H_law_dries, H_law_shown_right, H_law]
def G0 : Glb := ⟨[], bn, []⟩
def G_law_tape : Glb := G0
@[irreducible] def R_law_tape : List PV → Sto → Res PV := (F_law_tape.fi G_law_tape).run
def G_law_mixed : Glb := grow G_law_tape F_law_tape
@[irreducible] def R_law_mixed : List PV → Sto → Res PV := (F_law_mixed.fi G_law_mixed).run
def G_law_take : Glb := grow G_law_mixed F_law_mixed
@[irreducible] def R_law_take : List PV → Sto → Res PV := (F_law_take.fi G_law_take).run
def G_law_large : Glb := grow G_law_take F_law_take
@[irreducible] def R_law_large : List PV → Sto → Res PV := (F_law_large.fi G_law_large).run
def G_law_days : Glb := grow G_law_large F_law_large
@[irreducible] def R_law_days : List PV → Sto → Res PV := (F_law_days.fi G_law_days).run
def G_deepest : Glb := grow G_law_days F_law_days
@[irreducible] def R_deepest : List PV → Sto → Res PV := (F_deepest.fi G_deepest).run
def G_least_brim : Glb := grow G_deepest F_deepest
@[irreducible] def R_least_brim : List PV → Sto → Res PV := (F_least_brim.fi G_least_brim).run
def G_law_need : Glb := grow G_least_brim F_least_brim
@[irreducible] def R_law_need : List PV → Sto → Res PV := (F_law_need.fi G_law_need).run
def G_law_brim : Glb := grow G_law_need F_law_need
@[irreducible] def R_law_brim : List PV → Sto → Res PV := (F_law_brim.fi G_law_brim).run
def G_lowest : Glb := grow G_law_brim F_law_brim
@[irreducible] def R_lowest : List PV → Sto → Res PV := (F_lowest.fi G_lowest).run
def G_lasting : Glb := grow G_lowest F_lowest
@[irreducible] def R_lasting : List PV → Sto → Res PV := (F_lasting.fi G_lasting).run
def G_law_number : Glb := grow G_lasting F_lasting
@[irreducible] def R_law_number : List PV → Sto → Res PV := (F_law_number.fi G_law_number).run
def G_is_number : Glb := grow G_law_number F_law_number
@[irreducible] def R_is_number : List PV → Sto → Res PV := (F_is_number.fi G_is_number).run
def G_stretch_sum : Glb := grow G_is_number F_is_number
@[irreducible] def R_stretch_sum : List PV → Sto → Res PV := (F_stretch_sum.fi G_stretch_sum).run
def G_shows_dry : Glb := grow G_stretch_sum F_stretch_sum
@[irreducible] def R_shows_dry : List PV → Sto → Res PV := (F_shows_dry.fi G_shows_dry).run
def G_law_told : Glb := grow G_shows_dry F_shows_dry
@[irreducible] def R_law_told : List PV → Sto → Res PV := (F_law_told.fi G_law_told).run
def G_law_lowest : Glb := grow G_law_told F_law_told
@[irreducible] def R_law_lowest : List PV → Sto → Res PV := (F_law_lowest.fi G_law_lowest).run
def G_walked : Glb := grow G_law_lowest F_law_lowest
@[irreducible] def R_walked : List PV → Sto → Res PV := (F_walked.fi G_walked).run
def G_passed : Glb := grow G_walked F_walked
@[irreducible] def R_passed : List PV → Sto → Res PV := (F_passed.fi G_passed).run
def G_level_behind : Glb := grow G_passed F_passed
@[irreducible] def R_level_behind : List PV → Sto → Res PV := (F_level_behind.fi G_level_behind).run
def G_law_ends : Glb := grow G_level_behind F_level_behind
@[irreducible] def R_law_ends : List PV → Sto → Res PV := (F_law_ends.fi G_law_ends).run
def G_law_dries : Glb := grow G_law_ends F_law_ends
@[irreducible] def R_law_dries : List PV → Sto → Res PV := (F_law_dries.fi G_law_dries).run
def G_law_shown_right : Glb := grow G_law_dries F_law_dries
@[irreducible] def R_law_shown_right : List PV → Sto → Res PV := (F_law_shown_right.fi G_law_shown_right).run
def G_law : Glb := grow G_law_shown_right F_law_shown_right
@[irreducible] def R_law : List PV → Sto → Res PV := (F_law.fi G_law).run
theorem ok_law_tape : DefOk fa fn G_law_tape (F_law_tape, H_law_tape) := ⟨by decide +kernel, by kernel_rfl, by decide +kernel, by decide, fun _ _ _ _ _ _ us hl => match us, hl with | [_], _ => rfl, rfl, rfl, by simp [fn], by simp [fa, F_law_tape]⟩
theorem run_law_tape (x0 : PV) (M : Sto) (Q : PV → Sto → Prop) : pwR (R_law_tape [x0] M) Q ↔ pwS (evSs G_law_tape B_law_tape [some x0, none, none] M) (fun _ M => Q .non M) Q := by unfold R_law_tape; exact pw_run F_law_tape G_law_tape [x0] M Q
theorem ok_law_mixed : DefOk fa fn G_law_mixed (F_law_mixed, H_law_mixed) := ⟨by decide +kernel, by kernel_rfl, by decide +kernel, by decide, fun _ _ _ _ _ _ us hl => match us, hl with | [_, _], _ => rfl, rfl, rfl, by simp [fn], by simp [fa, F_law_mixed]⟩
theorem run_law_mixed (x0 x1 : PV) (M : Sto) (Q : PV → Sto → Prop) : pwR (R_law_mixed [x0, x1] M) Q ↔ pwS (evSs G_law_mixed B_law_mixed [some x0, some x1, none] M) (fun _ M => Q .non M) Q := by unfold R_law_mixed; exact pw_run F_law_mixed G_law_mixed [x0, x1] M Q
theorem ok_law_take : DefOk fa fn G_law_take (F_law_take, H_law_take) := ⟨by decide +kernel, by kernel_rfl, by decide +kernel, by decide, fun _ _ _ _ _ _ us hl => match us, hl with | [_, _], _ => rfl, rfl, rfl, by simp [fn], by simp [fa, F_law_take]⟩
theorem run_law_take (x0 x1 : PV) (M : Sto) (Q : PV → Sto → Prop) : pwR (R_law_take [x0, x1] M) Q ↔ pwS (evSs G_law_take B_law_take [some x0, some x1, none, none] M) (fun _ M => Q .non M) Q := by unfold R_law_take; exact pw_run F_law_take G_law_take [x0, x1] M Q
theorem c_law_take_law_mixed {m : Bool} {x : Str} {e : PEx} {es : PEs} {p p2 : Pos} {tau : Sig} {M : Sto} {Q : PV → Sto → Prop} : pwR (evE G_law_take m (.call 1 x e es p p2) tau M) Q ↔ pwR (evE G_law_take false e tau M) fun x M => pwR (evL G_law_take es tau M) fun xs M => (x :: xs).length = 2 ∧ pwR (R_law_mixed (x :: xs) M) (finQ m Q) := e_call ⟨_, rfl, rfl, by unfold R_law_mixed; rfl⟩
theorem ok_law_large : DefOk fa fn G_law_large (F_law_large, H_law_large) := ⟨by decide +kernel, by kernel_rfl, by decide +kernel, by decide, fun _ _ _ _ _ _ us hl => match us, hl with | [_, _], _ => rfl, rfl, rfl, by simp [fn], by simp [fa, F_law_large]⟩
theorem run_law_large (x0 x1 : PV) (M : Sto) (Q : PV → Sto → Prop) : pwR (R_law_large [x0, x1] M) Q ↔ pwS (evSs G_law_large B_law_large [some x0, some x1, none, none] M) (fun _ M => Q .non M) Q := by unfold R_law_large; exact pw_run F_law_large G_law_large [x0, x1] M Q
theorem c_law_large_law_take {m : Bool} {x : Str} {e : PEx} {es : PEs} {p p2 : Pos} {tau : Sig} {M : Sto} {Q : PV → Sto → Prop} : pwR (evE G_law_large m (.call 2 x e es p p2) tau M) Q ↔ pwR (evE G_law_large false e tau M) fun x M => pwR (evL G_law_large es tau M) fun xs M => (x :: xs).length = 2 ∧ pwR (R_law_take (x :: xs) M) (finQ m Q) := e_call ⟨_, rfl, rfl, by unfold R_law_take; rfl⟩
theorem ok_law_days : DefOk fa fn G_law_days (F_law_days, H_law_days) := ⟨by decide +kernel, by kernel_rfl, by decide +kernel, by decide, fun _ _ _ _ _ _ us hl => match us, hl with | [_], _ => rfl, rfl, rfl, by simp [fn], by simp [fa, F_law_days]⟩
theorem run_law_days (x0 : PV) (M : Sto) (Q : PV → Sto → Prop) : pwR (R_law_days [x0] M) Q ↔ pwS (evSs G_law_days B_law_days [some x0, none, none, none, none, none, none, none] M) (fun _ M => Q .non M) Q := by unfold R_law_days; exact pw_run F_law_days G_law_days [x0] M Q
theorem c_law_days_law_take {m : Bool} {x : Str} {e : PEx} {es : PEs} {p p2 : Pos} {tau : Sig} {M : Sto} {Q : PV → Sto → Prop} : pwR (evE G_law_days m (.call 2 x e es p p2) tau M) Q ↔ pwR (evE G_law_days false e tau M) fun x M => pwR (evL G_law_days es tau M) fun xs M => (x :: xs).length = 2 ∧ pwR (R_law_take (x :: xs) M) (finQ m Q) := e_call ⟨_, rfl, rfl, by unfold R_law_take; rfl⟩
theorem c_law_days_law_large {m : Bool} {x : Str} {e : PEx} {es : PEs} {p p2 : Pos} {tau : Sig} {M : Sto} {Q : PV → Sto → Prop} : pwR (evE G_law_days m (.call 3 x e es p p2) tau M) Q ↔ pwR (evE G_law_days false e tau M) fun x M => pwR (evL G_law_days es tau M) fun xs M => (x :: xs).length = 2 ∧ pwR (R_law_large (x :: xs) M) (finQ m Q) := e_call ⟨_, rfl, rfl, by unfold R_law_large; rfl⟩
theorem ok_deepest : DefOk fa fn G_deepest (F_deepest, H_deepest) := ⟨by decide +kernel, by kernel_rfl, by decide +kernel, by decide, fun _ _ _ _ _ _ us hl => match us, hl with | [_], _ => rfl, rfl, rfl, by simp [fn], by simp [fa, F_deepest]⟩
theorem run_deepest (x0 : PV) (M : Sto) (Q : PV → Sto → Prop) : pwR (R_deepest [x0] M) Q ↔ pwS (evSs G_deepest B_deepest [some x0, none, none, none, none, none, none] M) (fun _ M => Q .non M) Q := by unfold R_deepest; exact pw_run F_deepest G_deepest [x0] M Q
theorem ok_least_brim : DefOk fa fn G_least_brim (F_least_brim, H_least_brim) := ⟨by decide +kernel, by kernel_rfl, by decide +kernel, by decide, fun _ _ _ _ _ _ us hl => match us, hl with | [_], _ => rfl, rfl, rfl, by simp [fn], by simp [fa, F_least_brim]⟩
theorem run_least_brim (x0 : PV) (M : Sto) (Q : PV → Sto → Prop) : pwR (R_least_brim [x0] M) Q ↔ pwS (evSs G_least_brim B_least_brim [some x0] M) (fun _ M => Q .non M) Q := by unfold R_least_brim; exact pw_run F_least_brim G_least_brim [x0] M Q
theorem c_least_brim_deepest {m : Bool} {x : Str} {e : PEx} {es : PEs} {p p2 : Pos} {tau : Sig} {M : Sto} {Q : PV → Sto → Prop} : pwR (evE G_least_brim m (.call 5 x e es p p2) tau M) Q ↔ pwR (evE G_least_brim false e tau M) fun x M => pwR (evL G_least_brim es tau M) fun xs M => (x :: xs).length = 1 ∧ pwR (R_deepest (x :: xs) M) (finQ m Q) := e_call ⟨_, rfl, rfl, by unfold R_deepest; rfl⟩
theorem ok_law_need : DefOk fa fn G_law_need (F_law_need, H_law_need) := ⟨by decide +kernel, by kernel_rfl, by decide +kernel, by decide, fun _ _ _ _ _ _ us hl => match us, hl with | [_], _ => rfl, rfl, rfl, by simp [fn], by simp [fa, F_law_need]⟩
theorem run_law_need (x0 : PV) (M : Sto) (Q : PV → Sto → Prop) : pwR (R_law_need [x0] M) Q ↔ pwS (evSs G_law_need B_law_need [some x0, none, none, none] M) (fun _ M => Q .non M) Q := by unfold R_law_need; exact pw_run F_law_need G_law_need [x0] M Q
theorem ok_law_brim : DefOk fa fn G_law_brim (F_law_brim, H_law_brim) := ⟨by decide +kernel, by kernel_rfl, by decide +kernel, by decide, fun _ _ _ _ _ _ us hl => match us, hl with | [_, _], _ => rfl, rfl, rfl, by simp [fn], by simp [fa, F_law_brim]⟩
theorem run_law_brim (x0 x1 : PV) (M : Sto) (Q : PV → Sto → Prop) : pwR (R_law_brim [x0, x1] M) Q ↔ pwS (evSs G_law_brim B_law_brim [some x0, some x1, none] M) (fun _ M => Q .non M) Q := by unfold R_law_brim; exact pw_run F_law_brim G_law_brim [x0, x1] M Q
theorem c_law_brim_law_large {m : Bool} {x : Str} {e : PEx} {es : PEs} {p p2 : Pos} {tau : Sig} {M : Sto} {Q : PV → Sto → Prop} : pwR (evE G_law_brim m (.call 3 x e es p p2) tau M) Q ↔ pwR (evE G_law_brim false e tau M) fun x M => pwR (evL G_law_brim es tau M) fun xs M => (x :: xs).length = 2 ∧ pwR (R_law_large (x :: xs) M) (finQ m Q) := e_call ⟨_, rfl, rfl, by unfold R_law_large; rfl⟩
theorem c_law_brim_law_need {m : Bool} {x : Str} {e : PEx} {es : PEs} {p p2 : Pos} {tau : Sig} {M : Sto} {Q : PV → Sto → Prop} : pwR (evE G_law_brim m (.call 7 x e es p p2) tau M) Q ↔ pwR (evE G_law_brim false e tau M) fun x M => pwR (evL G_law_brim es tau M) fun xs M => (x :: xs).length = 1 ∧ pwR (R_law_need (x :: xs) M) (finQ m Q) := e_call ⟨_, rfl, rfl, by unfold R_law_need; rfl⟩
theorem c_law_brim_law_take {m : Bool} {x : Str} {e : PEx} {es : PEs} {p p2 : Pos} {tau : Sig} {M : Sto} {Q : PV → Sto → Prop} : pwR (evE G_law_brim m (.call 2 x e es p p2) tau M) Q ↔ pwR (evE G_law_brim false e tau M) fun x M => pwR (evL G_law_brim es tau M) fun xs M => (x :: xs).length = 2 ∧ pwR (R_law_take (x :: xs) M) (finQ m Q) := e_call ⟨_, rfl, rfl, by unfold R_law_take; rfl⟩
theorem ok_lowest : DefOk fa fn G_lowest (F_lowest, H_lowest) := ⟨by decide +kernel, by kernel_rfl, by decide +kernel, by decide, fun _ _ _ _ _ _ us hl => match us, hl with | [_], _ => rfl, rfl, rfl, by simp [fn], by simp [fa, F_lowest]⟩
theorem run_lowest (x0 : PV) (M : Sto) (Q : PV → Sto → Prop) : pwR (R_lowest [x0] M) Q ↔ pwS (evSs G_lowest B_lowest [some x0, none, none, none] M) (fun _ M => Q .non M) Q := by unfold R_lowest; exact pw_run F_lowest G_lowest [x0] M Q
theorem ok_lasting : DefOk fa fn G_lasting (F_lasting, H_lasting) := ⟨by decide +kernel, by kernel_rfl, by decide +kernel, by decide, fun _ _ _ _ _ _ us hl => match us, hl with | [_, _], _ => rfl, rfl, rfl, by simp [fn], by simp [fa, F_lasting]⟩
theorem run_lasting (x0 x1 : PV) (M : Sto) (Q : PV → Sto → Prop) : pwR (R_lasting [x0, x1] M) Q ↔ pwS (evSs G_lasting B_lasting [some x0, some x1, none, none, none, none] M) (fun _ M => Q .non M) Q := by unfold R_lasting; exact pw_run F_lasting G_lasting [x0, x1] M Q
theorem c_lasting_deepest {m : Bool} {x : Str} {e : PEx} {es : PEs} {p p2 : Pos} {tau : Sig} {M : Sto} {Q : PV → Sto → Prop} : pwR (evE G_lasting m (.call 5 x e es p p2) tau M) Q ↔ pwR (evE G_lasting false e tau M) fun x M => pwR (evL G_lasting es tau M) fun xs M => (x :: xs).length = 1 ∧ pwR (R_deepest (x :: xs) M) (finQ m Q) := e_call ⟨_, rfl, rfl, by unfold R_deepest; rfl⟩
theorem c_lasting_lowest {m : Bool} {x : Str} {e : PEx} {es : PEs} {p p2 : Pos} {tau : Sig} {M : Sto} {Q : PV → Sto → Prop} : pwR (evE G_lasting m (.call 9 x e es p p2) tau M) Q ↔ pwR (evE G_lasting false e tau M) fun x M => pwR (evL G_lasting es tau M) fun xs M => (x :: xs).length = 1 ∧ pwR (R_lowest (x :: xs) M) (finQ m Q) := e_call ⟨_, rfl, rfl, by unfold R_lowest; rfl⟩
theorem ok_law_number : DefOk fa fn G_law_number (F_law_number, H_law_number) := ⟨by decide +kernel, by kernel_rfl, by decide +kernel, by decide, fun _ _ _ _ _ _ us hl => match us, hl with | [_], _ => rfl, rfl, rfl, by simp [fn], by simp [fa, F_law_number]⟩
theorem run_law_number (x0 : PV) (M : Sto) (Q : PV → Sto → Prop) : pwR (R_law_number [x0] M) Q ↔ pwS (evSs G_law_number B_law_number [some x0] M) (fun _ M => Q .non M) Q := by unfold R_law_number; exact pw_run F_law_number G_law_number [x0] M Q
theorem ok_is_number : DefOk fa fn G_is_number (F_is_number, H_is_number) := ⟨by decide +kernel, by kernel_rfl, by decide +kernel, by decide, fun _ _ _ _ _ _ us hl => match us, hl with | [_], _ => rfl, rfl, rfl, by simp [fn], by simp [fa, F_is_number]⟩
theorem run_is_number (x0 : PV) (M : Sto) (Q : PV → Sto → Prop) : pwR (R_is_number [x0] M) Q ↔ pwS (evSs G_is_number B_is_number [some x0] M) (fun _ M => Q .non M) Q := by unfold R_is_number; exact pw_run F_is_number G_is_number [x0] M Q
theorem ok_stretch_sum : DefOk fa fn G_stretch_sum (F_stretch_sum, H_stretch_sum) := ⟨by decide +kernel, by kernel_rfl, by decide +kernel, by decide, fun _ _ _ _ _ _ us hl => match us, hl with | [_, _, _], _ => rfl, rfl, rfl, by simp [fn], by simp [fa, F_stretch_sum]⟩
theorem run_stretch_sum (x0 x1 x2 : PV) (M : Sto) (Q : PV → Sto → Prop) : pwR (R_stretch_sum [x0, x1, x2] M) Q ↔ pwS (evSs G_stretch_sum B_stretch_sum [some x0, some x1, some x2, none, none] M) (fun _ M => Q .non M) Q := by unfold R_stretch_sum; exact pw_run F_stretch_sum G_stretch_sum [x0, x1, x2] M Q
theorem ok_shows_dry : DefOk fa fn G_shows_dry (F_shows_dry, H_shows_dry) := ⟨by decide +kernel, by kernel_rfl, by decide +kernel, by decide, fun _ _ _ _ _ _ us hl => match us, hl with | [_, _, _], _ => rfl, rfl, rfl, by simp [fn], by simp [fa, F_shows_dry]⟩
theorem run_shows_dry (x0 x1 x2 : PV) (M : Sto) (Q : PV → Sto → Prop) : pwR (R_shows_dry [x0, x1, x2] M) Q ↔ pwS (evSs G_shows_dry B_shows_dry [some x0, some x1, some x2] M) (fun _ M => Q .non M) Q := by unfold R_shows_dry; exact pw_run F_shows_dry G_shows_dry [x0, x1, x2] M Q
theorem c_shows_dry_is_number {m : Bool} {x : Str} {e : PEx} {es : PEs} {p p2 : Pos} {tau : Sig} {M : Sto} {Q : PV → Sto → Prop} : pwR (evE G_shows_dry m (.call 12 x e es p p2) tau M) Q ↔ pwR (evE G_shows_dry false e tau M) fun x M => pwR (evL G_shows_dry es tau M) fun xs M => (x :: xs).length = 1 ∧ pwR (R_is_number (x :: xs) M) (finQ m Q) := e_call ⟨_, rfl, rfl, by unfold R_is_number; rfl⟩
theorem c_shows_dry_stretch_sum {m : Bool} {x : Str} {e : PEx} {es : PEs} {p p2 : Pos} {tau : Sig} {M : Sto} {Q : PV → Sto → Prop} : pwR (evE G_shows_dry m (.call 13 x e es p p2) tau M) Q ↔ pwR (evE G_shows_dry false e tau M) fun x M => pwR (evL G_shows_dry es tau M) fun xs M => (x :: xs).length = 3 ∧ pwR (R_stretch_sum (x :: xs) M) (finQ m Q) := e_call ⟨_, rfl, rfl, by unfold R_stretch_sum; rfl⟩
theorem ok_law_told : DefOk fa fn G_law_told (F_law_told, H_law_told) := ⟨by decide +kernel, by kernel_rfl, by decide +kernel, by decide, fun _ _ _ _ _ _ us hl => match us, hl with | [_, _, _], _ => rfl, rfl, rfl, by simp [fn], by simp [fa, F_law_told]⟩
theorem run_law_told (x0 x1 x2 : PV) (M : Sto) (Q : PV → Sto → Prop) : pwR (R_law_told [x0, x1, x2] M) Q ↔ pwS (evSs G_law_told B_law_told [some x0, some x1, some x2, none] M) (fun _ M => Q .non M) Q := by unfold R_law_told; exact pw_run F_law_told G_law_told [x0, x1, x2] M Q
theorem c_law_told_lasting {m : Bool} {x : Str} {e : PEx} {es : PEs} {p p2 : Pos} {tau : Sig} {M : Sto} {Q : PV → Sto → Prop} : pwR (evE G_law_told m (.call 10 x e es p p2) tau M) Q ↔ pwR (evE G_law_told false e tau M) fun x M => pwR (evL G_law_told es tau M) fun xs M => (x :: xs).length = 2 ∧ pwR (R_lasting (x :: xs) M) (finQ m Q) := e_call ⟨_, rfl, rfl, by unfold R_lasting; rfl⟩
theorem c_law_told_law_number {m : Bool} {x : Str} {e : PEx} {es : PEs} {p p2 : Pos} {tau : Sig} {M : Sto} {Q : PV → Sto → Prop} : pwR (evE G_law_told m (.call 11 x e es p p2) tau M) Q ↔ pwR (evE G_law_told false e tau M) fun x M => pwR (evL G_law_told es tau M) fun xs M => (x :: xs).length = 1 ∧ pwR (R_law_number (x :: xs) M) (finQ m Q) := e_call ⟨_, rfl, rfl, by unfold R_law_number; rfl⟩
theorem c_law_told_shows_dry {m : Bool} {x : Str} {e : PEx} {es : PEs} {p p2 : Pos} {tau : Sig} {M : Sto} {Q : PV → Sto → Prop} : pwR (evE G_law_told m (.call 14 x e es p p2) tau M) Q ↔ pwR (evE G_law_told false e tau M) fun x M => pwR (evL G_law_told es tau M) fun xs M => (x :: xs).length = 3 ∧ pwR (R_shows_dry (x :: xs) M) (finQ m Q) := e_call ⟨_, rfl, rfl, by unfold R_shows_dry; rfl⟩
theorem ok_law_lowest : DefOk fa fn G_law_lowest (F_law_lowest, H_law_lowest) := ⟨by decide +kernel, by kernel_rfl, by decide +kernel, by decide, fun _ _ _ _ _ _ us hl => match us, hl with | [_], _ => rfl, rfl, rfl, by simp [fn], by simp [fa, F_law_lowest]⟩
theorem run_law_lowest (x0 : PV) (M : Sto) (Q : PV → Sto → Prop) : pwR (R_law_lowest [x0] M) Q ↔ pwS (evSs G_law_lowest B_law_lowest [some x0, none, none, none, none, none, none] M) (fun _ M => Q .non M) Q := by unfold R_law_lowest; exact pw_run F_law_lowest G_law_lowest [x0] M Q
theorem ok_walked : DefOk fa fn G_walked (F_walked, H_walked) := ⟨by decide +kernel, by kernel_rfl, by decide +kernel, by decide, fun _ _ _ _ _ _ us hl => match us, hl with | [_, _, _, _], _ => rfl, rfl, rfl, by simp [fn], by simp [fa, F_walked]⟩
theorem run_walked (x0 x1 x2 x3 : PV) (M : Sto) (Q : PV → Sto → Prop) : pwR (R_walked [x0, x1, x2, x3] M) Q ↔ pwS (evSs G_walked B_walked [some x0, some x1, some x2, some x3, none] M) (fun _ M => Q .non M) Q := by unfold R_walked; exact pw_run F_walked G_walked [x0, x1, x2, x3] M Q
theorem ok_passed : DefOk fa fn G_passed (F_passed, H_passed) := ⟨by decide +kernel, by kernel_rfl, by decide +kernel, by decide, fun _ _ _ _ _ _ us hl => match us, hl with | [_, _, _, _], _ => rfl, rfl, rfl, by simp [fn], by simp [fa, F_passed]⟩
theorem run_passed (x0 x1 x2 x3 : PV) (M : Sto) (Q : PV → Sto → Prop) : pwR (R_passed [x0, x1, x2, x3] M) Q ↔ pwS (evSs G_passed B_passed [some x0, some x1, some x2, some x3, none, none, none] M) (fun _ M => Q .non M) Q := by unfold R_passed; exact pw_run F_passed G_passed [x0, x1, x2, x3] M Q
theorem c_passed_walked {m : Bool} {x : Str} {e : PEx} {es : PEs} {p p2 : Pos} {tau : Sig} {M : Sto} {Q : PV → Sto → Prop} : pwR (evE G_passed m (.call 17 x e es p p2) tau M) Q ↔ pwR (evE G_passed false e tau M) fun x M => pwR (evL G_passed es tau M) fun xs M => (x :: xs).length = 4 ∧ pwR (R_walked (x :: xs) M) (finQ m Q) := e_call ⟨_, rfl, rfl, by unfold R_walked; rfl⟩
theorem c_passed_lowest {m : Bool} {x : Str} {e : PEx} {es : PEs} {p p2 : Pos} {tau : Sig} {M : Sto} {Q : PV → Sto → Prop} : pwR (evE G_passed m (.call 9 x e es p p2) tau M) Q ↔ pwR (evE G_passed false e tau M) fun x M => pwR (evL G_passed es tau M) fun xs M => (x :: xs).length = 1 ∧ pwR (R_lowest (x :: xs) M) (finQ m Q) := e_call ⟨_, rfl, rfl, by unfold R_lowest; rfl⟩
theorem ok_level_behind : DefOk fa fn G_level_behind (F_level_behind, H_level_behind) := ⟨by decide +kernel, by kernel_rfl, by decide +kernel, by decide, fun _ _ _ _ _ _ us hl => match us, hl with | [_, _, _, _], _ => rfl, rfl, rfl, by simp [fn], by simp [fa, F_level_behind]⟩
theorem run_level_behind (x0 x1 x2 x3 : PV) (M : Sto) (Q : PV → Sto → Prop) : pwR (R_level_behind [x0, x1, x2, x3] M) Q ↔ pwS (evSs G_level_behind B_level_behind [some x0, some x1, some x2, some x3, none, none, none] M) (fun _ M => Q .non M) Q := by unfold R_level_behind; exact pw_run F_level_behind G_level_behind [x0, x1, x2, x3] M Q
theorem c_level_behind_walked {m : Bool} {x : Str} {e : PEx} {es : PEs} {p p2 : Pos} {tau : Sig} {M : Sto} {Q : PV → Sto → Prop} : pwR (evE G_level_behind m (.call 17 x e es p p2) tau M) Q ↔ pwR (evE G_level_behind false e tau M) fun x M => pwR (evL G_level_behind es tau M) fun xs M => (x :: xs).length = 4 ∧ pwR (R_walked (x :: xs) M) (finQ m Q) := e_call ⟨_, rfl, rfl, by unfold R_walked; rfl⟩
theorem c_level_behind_passed {m : Bool} {x : Str} {e : PEx} {es : PEs} {p p2 : Pos} {tau : Sig} {M : Sto} {Q : PV → Sto → Prop} : pwR (evE G_level_behind m (.call 18 x e es p p2) tau M) Q ↔ pwR (evE G_level_behind false e tau M) fun x M => pwR (evL G_level_behind es tau M) fun xs M => (x :: xs).length = 4 ∧ pwR (R_passed (x :: xs) M) (finQ m Q) := e_call ⟨_, rfl, rfl, by unfold R_passed; rfl⟩
theorem ok_law_ends : DefOk fa fn G_law_ends (F_law_ends, H_law_ends) := ⟨by decide +kernel, by kernel_rfl, by decide +kernel, by decide, fun _ _ _ _ _ _ us hl => match us, hl with | [_, _, _], _ => rfl, rfl, rfl, by simp [fn], by simp [fa, F_law_ends]⟩
theorem run_law_ends (x0 x1 x2 : PV) (M : Sto) (Q : PV → Sto → Prop) : pwR (R_law_ends [x0, x1, x2] M) Q ↔ pwS (evSs G_law_ends B_law_ends [some x0, some x1, some x2, none] M) (fun _ M => Q .non M) Q := by unfold R_law_ends; exact pw_run F_law_ends G_law_ends [x0, x1, x2] M Q
theorem c_law_ends_level_behind {m : Bool} {x : Str} {e : PEx} {es : PEs} {p p2 : Pos} {tau : Sig} {M : Sto} {Q : PV → Sto → Prop} : pwR (evE G_law_ends m (.call 19 x e es p p2) tau M) Q ↔ pwR (evE G_law_ends false e tau M) fun x M => pwR (evL G_law_ends es tau M) fun xs M => (x :: xs).length = 4 ∧ pwR (R_level_behind (x :: xs) M) (finQ m Q) := e_call ⟨_, rfl, rfl, by unfold R_level_behind; rfl⟩
theorem ok_law_dries : DefOk fa fn G_law_dries (F_law_dries, H_law_dries) := ⟨by decide +kernel, by kernel_rfl, by decide +kernel, by decide, fun _ _ _ _ _ _ us hl => match us, hl with | [_, _, _, _], _ => rfl, rfl, rfl, by simp [fn], by simp [fa, F_law_dries]⟩
theorem run_law_dries (x0 x1 x2 x3 : PV) (M : Sto) (Q : PV → Sto → Prop) : pwR (R_law_dries [x0, x1, x2, x3] M) Q ↔ pwS (evSs G_law_dries B_law_dries [some x0, some x1, some x2, some x3, none, none] M) (fun _ M => Q .non M) Q := by unfold R_law_dries; exact pw_run F_law_dries G_law_dries [x0, x1, x2, x3] M Q
theorem c_law_dries_law_number {m : Bool} {x : Str} {e : PEx} {es : PEs} {p p2 : Pos} {tau : Sig} {M : Sto} {Q : PV → Sto → Prop} : pwR (evE G_law_dries m (.call 11 x e es p p2) tau M) Q ↔ pwR (evE G_law_dries false e tau M) fun x M => pwR (evL G_law_dries es tau M) fun xs M => (x :: xs).length = 1 ∧ pwR (R_law_number (x :: xs) M) (finQ m Q) := e_call ⟨_, rfl, rfl, by unfold R_law_number; rfl⟩
theorem ok_law_shown_right : DefOk fa fn G_law_shown_right (F_law_shown_right, H_law_shown_right) := ⟨by decide +kernel, by kernel_rfl, by decide +kernel, by decide, fun _ _ _ _ _ _ us hl => match us, hl with | [_, _, _, _], _ => rfl, rfl, rfl, by simp [fn], by simp [fa, F_law_shown_right]⟩
theorem run_law_shown_right (x0 x1 x2 x3 : PV) (M : Sto) (Q : PV → Sto → Prop) : pwR (R_law_shown_right [x0, x1, x2, x3] M) Q ↔ pwS (evSs G_law_shown_right B_law_shown_right [some x0, some x1, some x2, some x3, none] M) (fun _ M => Q .non M) Q := by unfold R_law_shown_right; exact pw_run F_law_shown_right G_law_shown_right [x0, x1, x2, x3] M Q
theorem c_law_shown_right_shows_dry {m : Bool} {x : Str} {e : PEx} {es : PEs} {p p2 : Pos} {tau : Sig} {M : Sto} {Q : PV → Sto → Prop} : pwR (evE G_law_shown_right m (.call 14 x e es p p2) tau M) Q ↔ pwR (evE G_law_shown_right false e tau M) fun x M => pwR (evL G_law_shown_right es tau M) fun xs M => (x :: xs).length = 3 ∧ pwR (R_shows_dry (x :: xs) M) (finQ m Q) := e_call ⟨_, rfl, rfl, by unfold R_shows_dry; rfl⟩
theorem c_law_shown_right_law_dries {m : Bool} {x : Str} {e : PEx} {es : PEs} {p p2 : Pos} {tau : Sig} {M : Sto} {Q : PV → Sto → Prop} : pwR (evE G_law_shown_right m (.call 21 x e es p p2) tau M) Q ↔ pwR (evE G_law_shown_right false e tau M) fun x M => pwR (evL G_law_shown_right es tau M) fun xs M => (x :: xs).length = 4 ∧ pwR (R_law_dries (x :: xs) M) (finQ m Q) := e_call ⟨_, rfl, rfl, by unfold R_law_dries; rfl⟩
theorem ok_law : DefOk fa fn G_law (F_law, H_law) := ⟨by decide +kernel, by kernel_rfl, by decide +kernel, by decide, fun _ _ _ _ _ _ us hl => match us, hl with | [_], _ => rfl, rfl, rfl, by simp [fn], by simp [fa, F_law]⟩
theorem run_law (x0 : PV) (M : Sto) (Q : PV → Sto → Prop) : pwR (R_law [x0] M) Q ↔ pwS (evSs G_law B_law [some x0, none, none, none, none, none, none, none, none, none, none, none] M) (fun _ M => Q .non M) Q := by unfold R_law; exact pw_run F_law G_law [x0] M Q
theorem c_law_law_tape {m : Bool} {x : Str} {e : PEx} {es : PEs} {p p2 : Pos} {tau : Sig} {M : Sto} {Q : PV → Sto → Prop} : pwR (evE G_law m (.call 0 x e es p p2) tau M) Q ↔ pwR (evE G_law false e tau M) fun x M => pwR (evL G_law es tau M) fun xs M => (x :: xs).length = 1 ∧ pwR (R_law_tape (x :: xs) M) (finQ m Q) := e_call ⟨_, rfl, rfl, by unfold R_law_tape; rfl⟩
theorem c_law_law_days {m : Bool} {x : Str} {e : PEx} {es : PEs} {p p2 : Pos} {tau : Sig} {M : Sto} {Q : PV → Sto → Prop} : pwR (evE G_law m (.call 4 x e es p p2) tau M) Q ↔ pwR (evE G_law false e tau M) fun x M => pwR (evL G_law es tau M) fun xs M => (x :: xs).length = 1 ∧ pwR (R_law_days (x :: xs) M) (finQ m Q) := e_call ⟨_, rfl, rfl, by unfold R_law_days; rfl⟩
theorem c_law_least_brim {m : Bool} {x : Str} {e : PEx} {es : PEs} {p p2 : Pos} {tau : Sig} {M : Sto} {Q : PV → Sto → Prop} : pwR (evE G_law m (.call 6 x e es p p2) tau M) Q ↔ pwR (evE G_law false e tau M) fun x M => pwR (evL G_law es tau M) fun xs M => (x :: xs).length = 1 ∧ pwR (R_least_brim (x :: xs) M) (finQ m Q) := e_call ⟨_, rfl, rfl, by unfold R_least_brim; rfl⟩
theorem c_law_law_brim {m : Bool} {x : Str} {e : PEx} {es : PEs} {p p2 : Pos} {tau : Sig} {M : Sto} {Q : PV → Sto → Prop} : pwR (evE G_law m (.call 8 x e es p p2) tau M) Q ↔ pwR (evE G_law false e tau M) fun x M => pwR (evL G_law es tau M) fun xs M => (x :: xs).length = 2 ∧ pwR (R_law_brim (x :: xs) M) (finQ m Q) := e_call ⟨_, rfl, rfl, by unfold R_law_brim; rfl⟩
theorem c_law_law_told {m : Bool} {x : Str} {e : PEx} {es : PEs} {p p2 : Pos} {tau : Sig} {M : Sto} {Q : PV → Sto → Prop} : pwR (evE G_law m (.call 15 x e es p p2) tau M) Q ↔ pwR (evE G_law false e tau M) fun x M => pwR (evL G_law es tau M) fun xs M => (x :: xs).length = 3 ∧ pwR (R_law_told (x :: xs) M) (finQ m Q) := e_call ⟨_, rfl, rfl, by unfold R_law_told; rfl⟩
theorem c_law_law_large {m : Bool} {x : Str} {e : PEx} {es : PEs} {p p2 : Pos} {tau : Sig} {M : Sto} {Q : PV → Sto → Prop} : pwR (evE G_law m (.call 3 x e es p p2) tau M) Q ↔ pwR (evE G_law false e tau M) fun x M => pwR (evL G_law es tau M) fun xs M => (x :: xs).length = 2 ∧ pwR (R_law_large (x :: xs) M) (finQ m Q) := e_call ⟨_, rfl, rfl, by unfold R_law_large; rfl⟩
theorem c_law_law_lowest {m : Bool} {x : Str} {e : PEx} {es : PEs} {p p2 : Pos} {tau : Sig} {M : Sto} {Q : PV → Sto → Prop} : pwR (evE G_law m (.call 16 x e es p p2) tau M) Q ↔ pwR (evE G_law false e tau M) fun x M => pwR (evL G_law es tau M) fun xs M => (x :: xs).length = 1 ∧ pwR (R_law_lowest (x :: xs) M) (finQ m Q) := e_call ⟨_, rfl, rfl, by unfold R_law_lowest; rfl⟩
theorem c_law_law_number {m : Bool} {x : Str} {e : PEx} {es : PEs} {p p2 : Pos} {tau : Sig} {M : Sto} {Q : PV → Sto → Prop} : pwR (evE G_law m (.call 11 x e es p p2) tau M) Q ↔ pwR (evE G_law false e tau M) fun x M => pwR (evL G_law es tau M) fun xs M => (x :: xs).length = 1 ∧ pwR (R_law_number (x :: xs) M) (finQ m Q) := e_call ⟨_, rfl, rfl, by unfold R_law_number; rfl⟩
theorem c_law_law_ends {m : Bool} {x : Str} {e : PEx} {es : PEs} {p p2 : Pos} {tau : Sig} {M : Sto} {Q : PV → Sto → Prop} : pwR (evE G_law m (.call 20 x e es p p2) tau M) Q ↔ pwR (evE G_law false e tau M) fun x M => pwR (evL G_law es tau M) fun xs M => (x :: xs).length = 3 ∧ pwR (R_law_ends (x :: xs) M) (finQ m Q) := e_call ⟨_, rfl, rfl, by unfold R_law_ends; rfl⟩
theorem c_law_law_take {m : Bool} {x : Str} {e : PEx} {es : PEs} {p p2 : Pos} {tau : Sig} {M : Sto} {Q : PV → Sto → Prop} : pwR (evE G_law m (.call 2 x e es p p2) tau M) Q ↔ pwR (evE G_law false e tau M) fun x M => pwR (evL G_law es tau M) fun xs M => (x :: xs).length = 2 ∧ pwR (R_law_take (x :: xs) M) (finQ m Q) := e_call ⟨_, rfl, rfl, by unfold R_law_take; rfl⟩
theorem c_law_law_shown_right {m : Bool} {x : Str} {e : PEx} {es : PEs} {p p2 : Pos} {tau : Sig} {M : Sto} {Q : PV → Sto → Prop} : pwR (evE G_law m (.call 22 x e es p p2) tau M) Q ↔ pwR (evE G_law false e tau M) fun x M => pwR (evL G_law es tau M) fun xs M => (x :: xs).length = 4 ∧ pwR (R_law_shown_right (x :: xs) M) (finQ m Q) := e_call ⟨_, rfl, rfl, by unfold R_law_shown_right; rfl⟩
theorem eqs_0_0 {M : Sto} : opC .Eq (.str (Str.ofString "lasts").cps.toList) (.str (Str.ofString "dries").cps.toList) M = some false := by rw [opC_eqS (by decide +kernel) (by decide +kernel)]; decide +kernel
theorem eqs_0_1 {M : Sto} : opC .Eq (.str (Str.ofString "lasts").cps.toList) (.str (Str.ofString "lasts").cps.toList) M = some true := by rw [opC_eqS (by decide +kernel) (by decide +kernel)]; decide +kernel
theorem eqs_0_2 {M : Sto} : opC .Eq (.str (Str.ofString "lasts").cps.toList) (.str (Str.ofString "dry").cps.toList) M = some false := by rw [opC_eqS (by decide +kernel) (by decide +kernel)]; decide +kernel
theorem eqs_0_3 {M : Sto} : opC .Eq (.str (Str.ofString "lasts").cps.toList) (.str (Str.ofString "level").cps.toList) M = some false := by rw [opC_eqS (by decide +kernel) (by decide +kernel)]; decide +kernel
theorem eqs_1_0 {M : Sto} : opC .Eq (.str (Str.ofString "dries").cps.toList) (.str (Str.ofString "dries").cps.toList) M = some true := by rw [opC_eqS (by decide +kernel) (by decide +kernel)]; decide +kernel
theorem eqs_1_1 {M : Sto} : opC .Eq (.str (Str.ofString "dries").cps.toList) (.str (Str.ofString "lasts").cps.toList) M = some false := by rw [opC_eqS (by decide +kernel) (by decide +kernel)]; decide +kernel
theorem eqs_1_2 {M : Sto} : opC .Eq (.str (Str.ofString "dries").cps.toList) (.str (Str.ofString "dry").cps.toList) M = some false := by rw [opC_eqS (by decide +kernel) (by decide +kernel)]; decide +kernel
theorem eqs_1_3 {M : Sto} : opC .Eq (.str (Str.ofString "dries").cps.toList) (.str (Str.ofString "level").cps.toList) M = some false := by rw [opC_eqS (by decide +kernel) (by decide +kernel)]; decide +kernel
theorem eqs_2_0 {M : Sto} : opC .Eq (.str (Str.ofString "level").cps.toList) (.str (Str.ofString "dries").cps.toList) M = some false := by rw [opC_eqS (by decide +kernel) (by decide +kernel)]; decide +kernel
theorem eqs_2_1 {M : Sto} : opC .Eq (.str (Str.ofString "level").cps.toList) (.str (Str.ofString "lasts").cps.toList) M = some false := by rw [opC_eqS (by decide +kernel) (by decide +kernel)]; decide +kernel
theorem eqs_2_2 {M : Sto} : opC .Eq (.str (Str.ofString "level").cps.toList) (.str (Str.ofString "dry").cps.toList) M = some false := by rw [opC_eqS (by decide +kernel) (by decide +kernel)]; decide +kernel
theorem eqs_2_3 {M : Sto} : opC .Eq (.str (Str.ofString "level").cps.toList) (.str (Str.ofString "level").cps.toList) M = some true := by rw [opC_eqS (by decide +kernel) (by decide +kernel)]; decide +kernel
theorem eqs_3_0 {M : Sto} : opC .Eq (.str (Str.ofString "dry").cps.toList) (.str (Str.ofString "dries").cps.toList) M = some false := by rw [opC_eqS (by decide +kernel) (by decide +kernel)]; decide +kernel
theorem eqs_3_1 {M : Sto} : opC .Eq (.str (Str.ofString "dry").cps.toList) (.str (Str.ofString "lasts").cps.toList) M = some false := by rw [opC_eqS (by decide +kernel) (by decide +kernel)]; decide +kernel
theorem eqs_3_2 {M : Sto} : opC .Eq (.str (Str.ofString "dry").cps.toList) (.str (Str.ofString "dry").cps.toList) M = some true := by rw [opC_eqS (by decide +kernel) (by decide +kernel)]; decide +kernel
theorem eqs_3_3 {M : Sto} : opC .Eq (.str (Str.ofString "dry").cps.toList) (.str (Str.ofString "level").cps.toList) M = some false := by rw [opC_eqS (by decide +kernel) (by decide +kernel)]; decide +kernel
abbrev init : List TRow := [(F_law_tape, H_law_tape), (F_law_mixed, H_law_mixed), (F_law_take, H_law_take), (F_law_large, H_law_large), (F_law_days, H_law_days), (F_deepest, H_deepest), (F_least_brim, H_least_brim), (F_law_need, H_law_need), (F_law_brim, H_law_brim), (F_lowest, H_lowest), (F_lasting, H_lasting), (F_law_number, H_law_number), (F_is_number, H_is_number), (F_stretch_sum, H_stretch_sum), (F_shows_dry, H_shows_dry), (F_law_told, H_law_told), (F_law_lowest, H_law_lowest), (F_walked, H_walked), (F_passed, H_passed), (F_level_behind, H_level_behind), (F_law_ends, H_law_ends), (F_law_dries, H_law_dries), (F_law_shown_right, H_law_shown_right)]
theorem chain : Chain fa fn G0 (init ++ [(F_law, H_law)]) := .cons ok_law_tape (.cons ok_law_mixed (.cons ok_law_take (.cons ok_law_large (.cons ok_law_days (.cons ok_deepest (.cons ok_least_brim (.cons ok_law_need (.cons ok_law_brim (.cons ok_lowest (.cons ok_lasting (.cons ok_law_number (.cons ok_is_number (.cons ok_stretch_sum (.cons ok_shows_dry (.cons ok_law_told (.cons ok_law_lowest (.cons ok_walked (.cons ok_passed (.cons ok_level_behind (.cons ok_law_ends (.cons ok_law_dries (.cons ok_law_shown_right (.cons ok_law .nil)))))))))))))))))))))))
end K56

namespace K56
open PySem PySem.Spec PyProof.Rows L2 SW
/-! ### the tape -/
theorem spec_mixed (c t : Int) (M : Sto) (Q : PV → Sto → Prop) (h : ∀ x : Int, 0 ≤ x → Q (.int x) M) : pwR (R_law_mixed [.int c, .int t] M) Q := by
  rw [run_law_mixed]; unfold B_law_mixed
  simp only [↓b_cons, ↓b_nil, ↓st_asg, ↓st_setI, ↓st_expr, ↓st_ret, ↓st_retN, ↓st_ife, ↓st_for, ↓st_whl, ↓st_pass, ↓e_nam, ↓e_non, ↓e_bl, ↓e_int, ↓e_str, ↓e_tup, ↓e_lst, ↓e_bin, ↓e_neg, ↓e_nt, ↓e_cmp, ↓e_chn, ↓e_and, ↓e_or, ↓e_ife, ↓e_sub, ↓e_slc, ↓e_slcL, ↓e_slcH, ↓e_blt, ↓e_isi, ↓e_meth, ↓e_meth0, ↓e_lc, ↓l_nil, ↓l_cons, ↓and_nil, ↓and_b, ↓or_nil, ↓or_b, ↓t_nil, ↓t_cons, ↓i_seq, ↓i_rng1, ↓i_rng2, ↓finQ_f, ↓finQ_t, isB_bl, isI_int, isS_some, isS_none, isS_map, pw_add, pw_sub, pw_mul, pw_div, pw_mod, pw_pow, pw_addT, pw_addS, opC_lt, opC_le, opC_gt, opC_ge, opC_eqI, opC_neI, opC_neS, Option.map_some, asg_one, asg_tup, setAll_nil, setAll_cons, len_tup, sum_tup, tuple_tup, list_tup, min_int, max_int, ixt_tup, atI_0, atI_1, atI_2, atI_3, decide_eq_true_eq, Bool.not_eq_true', decide_eq_false_iff_not, List.map_cons, List.map_nil, List.set_cons_zero, List.set_cons_succ, List.getElem?_cons_zero, List.getElem?_cons_succ, List.cons_append, List.nil_append, List.length_cons, List.length_nil, Nat.reduceAdd, Nat.reduceSub, true_and, and_true, if_true, if_false, eq_self, Bool.false_eq_true, Bool.not_true, Bool.not_false, seqW_tup, ty_tt, ty_ss, ty_ii, ty_bi, ty_bb, ty_ib, tr_b, tr_n, ↓pwR_boolB, MulP, DivP, or_true, true_or, Int.reduceLT, Int.reduceLE, Int.reduceNeg, Int.reducePow, Int.reduceToNat, Int.cast_ofNat_Int, Int.natCast_zero, Int.natCast_one, Int.reduceEq, Bool.true_eq_false, not_true_eq_false, not_false_eq_true, eqs_0_0, eqs_0_1, eqs_0_2, eqs_0_3, eqs_1_0, eqs_1_1, eqs_1_2, eqs_1_3, eqs_2_0, eqs_2_1, eqs_2_2, eqs_2_3, eqs_3_0, eqs_3_1, eqs_3_2, eqs_3_3]
  have a0 := Int.emod_nonneg (a := (c % 1000000007 + 40692 * t + 1) * 48271) (b := 2147483647) (by omega)
  have a1 := Int.emod_lt_of_pos ((c % 1000000007 + 40692 * t + 1) * 48271) (b := 2147483647) (by omega)
  refine ⟨by omega, h _ ?_⟩
  exact Int.ediv_nonneg (Int.emod_nonneg _ (by omega)) (by omega)
def Tape (M : Sto) (t c : Nat) : Prop := t ≠ c ∧ ∃ (a seed k : Int) (ns : List Int), 0 ≤ a ∧ M[t]? = some (.lst [.loc c, .int a, .int seed, .int k]) ∧ M[c]? = some (.lst (ns.map PV.int))
theorem Tape.kept {M M' : Sto} {t c : Nat} {S : List Nat} (h : Tape M t c) (k : Kept S M M') (ht : t ∉ S) (hc : c ∉ S) : Tape M' t c := by
  obtain ⟨n, a, seed, j, ns, h1, h2, h3⟩ := h
  exact ⟨n, a, seed, j, ns, h1, k.obj h2 ht, k.obj h3 hc⟩
theorem Tape.lt {M : Sto} {t c : Nat} (h : Tape M t c) : t < M.length ∧ c < M.length := by
  obtain ⟨n, a, seed, j, ns, h1, h2, h3⟩ := h
  exact ⟨lt_of_get h2, lt_of_get h3⟩
theorem spec_tape (ns : List Int) (hn : ns.length ≤ 63) (Q : PV → Sto → Prop) (h : ∀ M t c, Tape M t c → Q (.loc t) M) : pwR (R_law_tape [.loc 0] [.frz (ns.map PV.int)]) Q := by
  have hc : ∀ (a b : Option Int), cut (ns.map PV.int) a b = (cut ns a b).map PV.int := fun a b => by simp [cut, List.map_take, List.map_drop]
  have hl : ∀ (a b : Option Int), ((cut ns a b).map PV.int).length ≤ LINE := fun a b => by
    have : (cut ns a b).length ≤ ns.length := by simp only [cut, List.length_take, List.length_drop]; omega
    rw [List.length_map]
    unfold LINE
    omega
  have o : ∀ (M : Sto) (a b : Option Int), M[0]? = some (.frz (ns.map PV.int)) → opS (.loc 0) a b M = some (.loc M.length, M ++ [.lst ((cut ns a b).map PV.int)]) := fun M a b e => by
    simp only [opS, lst_frz e, hc]
    exact new_ok (hl a b)
  rw [run_law_tape]; unfold B_law_tape
  simp only [↓b_cons, ↓b_nil, ↓st_asg, ↓st_setI, ↓st_expr, ↓st_ret, ↓st_retN, ↓st_ife, ↓st_for, ↓st_whl, ↓st_pass, ↓e_nam, ↓e_non, ↓e_bl, ↓e_int, ↓e_str, ↓e_tup, ↓e_lst, ↓e_bin, ↓e_neg, ↓e_nt, ↓e_cmp, ↓e_chn, ↓e_and, ↓e_or, ↓e_ife, ↓e_sub, ↓e_slc, ↓e_slcL, ↓e_slcH, ↓e_blt, ↓e_isi, ↓e_meth, ↓e_meth0, ↓e_lc, ↓l_nil, ↓l_cons, ↓and_nil, ↓and_b, ↓or_nil, ↓or_b, ↓t_nil, ↓t_cons, ↓i_seq, ↓i_rng1, ↓i_rng2, ↓finQ_f, ↓finQ_t, isB_bl, isI_int, isS_some, isS_none, isS_map, pw_add, pw_sub, pw_mul, pw_div, pw_mod, pw_pow, pw_addT, pw_addS, opC_lt, opC_le, opC_gt, opC_ge, opC_eqI, opC_neI, opC_neS, Option.map_some, asg_one, asg_tup, setAll_nil, setAll_cons, len_tup, sum_tup, tuple_tup, list_tup, min_int, max_int, ixt_tup, atI_0, atI_1, atI_2, atI_3, decide_eq_true_eq, Bool.not_eq_true', decide_eq_false_iff_not, List.map_cons, List.map_nil, List.set_cons_zero, List.set_cons_succ, List.getElem?_cons_zero, List.getElem?_cons_succ, List.cons_append, List.nil_append, List.length_cons, List.length_nil, Nat.reduceAdd, Nat.reduceSub, true_and, and_true, if_true, if_false, eq_self, Bool.false_eq_true, Bool.not_true, Bool.not_false, seqW_tup, ty_tt, ty_ss, ty_ii, ty_bi, ty_bb, ty_ib, tr_b, tr_n, ↓pwR_boolB, MulP, DivP, or_true, true_or, Int.reduceLT, Int.reduceLE, Int.reduceNeg, Int.reducePow, Int.reduceToNat, Int.cast_ofNat_Int, Int.natCast_zero, Int.natCast_one, Int.reduceEq, Bool.true_eq_false, not_true_eq_false, not_false_eq_true, eqs_0_0, eqs_0_1, eqs_0_2, eqs_0_3, eqs_1_0, eqs_1_1, eqs_1_2, eqs_1_3, eqs_2_0, eqs_2_1, eqs_2_2, eqs_2_3, eqs_3_0, eqs_3_1, eqs_3_2, eqs_3_3, o [.frz (ns.map PV.int)] none (some 63) rfl]
  generalize he : cut ns none (some 63) = cs
  have sw : seqW [PObj.frz (ns.map PV.int), .lst (cs.map PV.int)] (.loc 1) = some ⟨(cs.map PV.int).length, fun i M => (lst? M (.loc 1)).map fun ys => ys[i]?⟩ := rfl
  rw [sw]
  simp only [↓b_cons, ↓b_nil, ↓st_asg, ↓st_setI, ↓st_expr, ↓st_ret, ↓st_retN, ↓st_ife, ↓st_for, ↓st_whl, ↓st_pass, ↓e_nam, ↓e_non, ↓e_bl, ↓e_int, ↓e_str, ↓e_tup, ↓e_lst, ↓e_bin, ↓e_neg, ↓e_nt, ↓e_cmp, ↓e_chn, ↓e_and, ↓e_or, ↓e_ife, ↓e_sub, ↓e_slc, ↓e_slcL, ↓e_slcH, ↓e_blt, ↓e_isi, ↓e_meth, ↓e_meth0, ↓e_lc, ↓l_nil, ↓l_cons, ↓and_nil, ↓and_b, ↓or_nil, ↓or_b, ↓t_nil, ↓t_cons, ↓i_seq, ↓i_rng1, ↓i_rng2, ↓finQ_f, ↓finQ_t, isB_bl, isI_int, isS_some, isS_none, isS_map, pw_add, pw_sub, pw_mul, pw_div, pw_mod, pw_pow, pw_addT, pw_addS, opC_lt, opC_le, opC_gt, opC_ge, opC_eqI, opC_neI, opC_neS, Option.map_some, asg_one, asg_tup, setAll_nil, setAll_cons, len_tup, sum_tup, tuple_tup, list_tup, min_int, max_int, ixt_tup, atI_0, atI_1, atI_2, atI_3, decide_eq_true_eq, Bool.not_eq_true', decide_eq_false_iff_not, List.map_cons, List.map_nil, List.set_cons_zero, List.set_cons_succ, List.getElem?_cons_zero, List.getElem?_cons_succ, List.cons_append, List.nil_append, List.length_cons, List.length_nil, Nat.reduceAdd, Nat.reduceSub, true_and, and_true, if_true, if_false, eq_self, Bool.false_eq_true, Bool.not_true, Bool.not_false, seqW_tup, ty_tt, ty_ss, ty_ii, ty_bi, ty_bb, ty_ib, tr_b, tr_n, ↓pwR_boolB, MulP, DivP, or_true, true_or, Int.reduceLT, Int.reduceLE, Int.reduceNeg, Int.reducePow, Int.reduceToNat, Int.cast_ofNat_Int, Int.natCast_zero, Int.natCast_one, Int.reduceEq, Bool.true_eq_false, not_true_eq_false, not_false_eq_true, eqs_0_0, eqs_0_1, eqs_0_2, eqs_0_3, eqs_1_0, eqs_1_1, eqs_1_2, eqs_1_3, eqs_2_0, eqs_2_1, eqs_2_2, eqs_2_3, eqs_3_0, eqs_3_1, eqs_3_2, eqs_3_3]
  refine pw_for (fun _ t M => ∃ s v, t = [some (.loc 0), some (.int s), v] ∧ M = [PObj.frz (ns.map PV.int), .lst (cs.map PV.int)]) ⟨0, none, rfl, rfl⟩ ?_ ?_
  · rintro i t M hi ⟨s, v, rfl, rfl⟩
    have hi' : i < cs.length := by simpa using hi
    refine ⟨.int cs[i], _, ?_, rfl, ?_⟩
    · show some ((cs.map PV.int)[i]?) = _
      simp [List.getElem?_eq_getElem hi']
    · unfold B_law_tape_1
      simp only [↓b_cons, ↓b_nil, ↓st_asg, ↓st_setI, ↓st_expr, ↓st_ret, ↓st_retN, ↓st_ife, ↓st_for, ↓st_whl, ↓st_pass, ↓e_nam, ↓e_non, ↓e_bl, ↓e_int, ↓e_str, ↓e_tup, ↓e_lst, ↓e_bin, ↓e_neg, ↓e_nt, ↓e_cmp, ↓e_chn, ↓e_and, ↓e_or, ↓e_ife, ↓e_sub, ↓e_slc, ↓e_slcL, ↓e_slcH, ↓e_blt, ↓e_isi, ↓e_meth, ↓e_meth0, ↓e_lc, ↓l_nil, ↓l_cons, ↓and_nil, ↓and_b, ↓or_nil, ↓or_b, ↓t_nil, ↓t_cons, ↓i_seq, ↓i_rng1, ↓i_rng2, ↓finQ_f, ↓finQ_t, isB_bl, isI_int, isS_some, isS_none, isS_map, pw_add, pw_sub, pw_mul, pw_div, pw_mod, pw_pow, pw_addT, pw_addS, opC_lt, opC_le, opC_gt, opC_ge, opC_eqI, opC_neI, opC_neS, Option.map_some, asg_one, asg_tup, setAll_nil, setAll_cons, len_tup, sum_tup, tuple_tup, list_tup, min_int, max_int, ixt_tup, atI_0, atI_1, atI_2, atI_3, decide_eq_true_eq, Bool.not_eq_true', decide_eq_false_iff_not, List.map_cons, List.map_nil, List.set_cons_zero, List.set_cons_succ, List.getElem?_cons_zero, List.getElem?_cons_succ, List.cons_append, List.nil_append, List.length_cons, List.length_nil, Nat.reduceAdd, Nat.reduceSub, true_and, and_true, if_true, if_false, eq_self, Bool.false_eq_true, Bool.not_true, Bool.not_false, seqW_tup, ty_tt, ty_ss, ty_ii, ty_bi, ty_bb, ty_ib, tr_b, tr_n, ↓pwR_boolB, MulP, DivP, or_true, true_or, Int.reduceLT, Int.reduceLE, Int.reduceNeg, Int.reducePow, Int.reduceToNat, Int.cast_ofNat_Int, Int.natCast_zero, Int.natCast_one, Int.reduceEq, Bool.true_eq_false, not_true_eq_false, not_false_eq_true, eqs_0_0, eqs_0_1, eqs_0_2, eqs_0_3, eqs_1_0, eqs_1_1, eqs_1_2, eqs_1_3, eqs_2_0, eqs_2_1, eqs_2_2, eqs_2_3, eqs_3_0, eqs_3_1, eqs_3_2, eqs_3_3]
      exact ⟨_, _, rfl⟩
  · rintro t M ⟨s, v, rfl, rfl⟩
    refine ⟨?_, ?_⟩
    · show some ((cs.map PV.int)[_]?) = _
      simp
    · simp only [↓b_cons, ↓b_nil, ↓st_asg, ↓st_setI, ↓st_expr, ↓st_ret, ↓st_retN, ↓st_ife, ↓st_for, ↓st_whl, ↓st_pass, ↓e_nam, ↓e_non, ↓e_bl, ↓e_int, ↓e_str, ↓e_tup, ↓e_lst, ↓e_bin, ↓e_neg, ↓e_nt, ↓e_cmp, ↓e_chn, ↓e_and, ↓e_or, ↓e_ife, ↓e_sub, ↓e_slc, ↓e_slcL, ↓e_slcH, ↓e_blt, ↓e_isi, ↓e_meth, ↓e_meth0, ↓e_lc, ↓l_nil, ↓l_cons, ↓and_nil, ↓and_b, ↓or_nil, ↓or_b, ↓t_nil, ↓t_cons, ↓i_seq, ↓i_rng1, ↓i_rng2, ↓finQ_f, ↓finQ_t, isB_bl, isI_int, isS_some, isS_none, isS_map, pw_add, pw_sub, pw_mul, pw_div, pw_mod, pw_pow, pw_addT, pw_addS, opC_lt, opC_le, opC_gt, opC_ge, opC_eqI, opC_neI, opC_neS, Option.map_some, asg_one, asg_tup, setAll_nil, setAll_cons, len_tup, sum_tup, tuple_tup, list_tup, min_int, max_int, ixt_tup, atI_0, atI_1, atI_2, atI_3, decide_eq_true_eq, Bool.not_eq_true', decide_eq_false_iff_not, List.map_cons, List.map_nil, List.set_cons_zero, List.set_cons_succ, List.getElem?_cons_zero, List.getElem?_cons_succ, List.cons_append, List.nil_append, List.length_cons, List.length_nil, Nat.reduceAdd, Nat.reduceSub, true_and, and_true, if_true, if_false, eq_self, Bool.false_eq_true, Bool.not_true, Bool.not_false, seqW_tup, ty_tt, ty_ss, ty_ii, ty_bi, ty_bb, ty_ib, tr_b, tr_n, ↓pwR_boolB, MulP, DivP, or_true, true_or, Int.reduceLT, Int.reduceLE, Int.reduceNeg, Int.reducePow, Int.reduceToNat, Int.cast_ofNat_Int, Int.natCast_zero, Int.natCast_one, Int.reduceEq, Bool.true_eq_false, not_true_eq_false, not_false_eq_true, eqs_0_0, eqs_0_1, eqs_0_2, eqs_0_3, eqs_1_0, eqs_1_1, eqs_1_2, eqs_1_3, eqs_2_0, eqs_2_1, eqs_2_2, eqs_2_3, eqs_3_0, eqs_3_1, eqs_3_2, eqs_3_3, o [PObj.frz (ns.map PV.int), .lst (cs.map PV.int)] none (some 63) rfl]
      rw [he]
      simp only [↓b_cons, ↓b_nil, ↓st_asg, ↓st_setI, ↓st_expr, ↓st_ret, ↓st_retN, ↓st_ife, ↓st_for, ↓st_whl, ↓st_pass, ↓e_nam, ↓e_non, ↓e_bl, ↓e_int, ↓e_str, ↓e_tup, ↓e_lst, ↓e_bin, ↓e_neg, ↓e_nt, ↓e_cmp, ↓e_chn, ↓e_and, ↓e_or, ↓e_ife, ↓e_sub, ↓e_slc, ↓e_slcL, ↓e_slcH, ↓e_blt, ↓e_isi, ↓e_meth, ↓e_meth0, ↓e_lc, ↓l_nil, ↓l_cons, ↓and_nil, ↓and_b, ↓or_nil, ↓or_b, ↓t_nil, ↓t_cons, ↓i_seq, ↓i_rng1, ↓i_rng2, ↓finQ_f, ↓finQ_t, isB_bl, isI_int, isS_some, isS_none, isS_map, pw_add, pw_sub, pw_mul, pw_div, pw_mod, pw_pow, pw_addT, pw_addS, opC_lt, opC_le, opC_gt, opC_ge, opC_eqI, opC_neI, opC_neS, Option.map_some, asg_one, asg_tup, setAll_nil, setAll_cons, len_tup, sum_tup, tuple_tup, list_tup, min_int, max_int, ixt_tup, atI_0, atI_1, atI_2, atI_3, decide_eq_true_eq, Bool.not_eq_true', decide_eq_false_iff_not, List.map_cons, List.map_nil, List.set_cons_zero, List.set_cons_succ, List.getElem?_cons_zero, List.getElem?_cons_succ, List.cons_append, List.nil_append, List.length_cons, List.length_nil, Nat.reduceAdd, Nat.reduceSub, true_and, and_true, if_true, if_false, eq_self, Bool.false_eq_true, Bool.not_true, Bool.not_false, seqW_tup, ty_tt, ty_ss, ty_ii, ty_bi, ty_bb, ty_ib, tr_b, tr_n, ↓pwR_boolB, MulP, DivP, or_true, true_or, Int.reduceLT, Int.reduceLE, Int.reduceNeg, Int.reducePow, Int.reduceToNat, Int.cast_ofNat_Int, Int.natCast_zero, Int.natCast_one, Int.reduceEq, Bool.true_eq_false, not_true_eq_false, not_false_eq_true, eqs_0_0, eqs_0_1, eqs_0_2, eqs_0_3, eqs_1_0, eqs_1_1, eqs_1_2, eqs_1_3, eqs_2_0, eqs_2_1, eqs_2_2, eqs_2_3, eqs_3_0, eqs_3_1, eqs_3_2, eqs_3_3, list_loc (M := [PObj.frz (ns.map PV.int), .lst (cs.map PV.int), .lst (cs.map PV.int)]) (n := 2) (xs := cs.map PV.int) rfl, new_ok (he ▸ hl none (some 63))]
      exact ⟨by unfold LINE; omega, h _ 4 3 ⟨by omega, 0, s, 0, cs, by omega, rfl, rfl⟩⟩
theorem spec_take {M : Sto} {t c : Nat} (many : Int) (hT : Tape M t c) (h0 : 0 < many) (h1 : many < 1000000000000000000000000000000000000000000000000000000000000) (Q : PV → Sto → Prop)
    (h : ∀ x M', 0 ≤ x → x < many → Tape M' t c → Kept [t, c] M M' → Q (.int x) M') : pwR (R_law_take [.loc t, .int many] M) Q := by
  obtain ⟨tc, a, seed, k, ns, ha, ht, hc⟩ := hT
  have md : ∀ z : Int, 0 ≤ z % many ∧ z % many < many := fun z => ⟨Int.emod_nonneg _ (by omega), Int.emod_lt_of_pos _ h0⟩
  rw [run_law_take]; unfold B_law_take
  simp only [↓b_cons, ↓b_nil, ↓st_asg, ↓st_setI, ↓st_expr, ↓st_ret, ↓st_retN, ↓st_ife, ↓st_for, ↓st_whl, ↓st_pass, ↓e_nam, ↓e_non, ↓e_bl, ↓e_int, ↓e_str, ↓e_tup, ↓e_lst, ↓e_bin, ↓e_neg, ↓e_nt, ↓e_cmp, ↓e_chn, ↓e_and, ↓e_or, ↓e_ife, ↓e_sub, ↓e_slc, ↓e_slcL, ↓e_slcH, ↓e_blt, ↓e_isi, ↓e_meth, ↓e_meth0, ↓e_lc, ↓l_nil, ↓l_cons, ↓and_nil, ↓and_b, ↓or_nil, ↓or_b, ↓t_nil, ↓t_cons, ↓i_seq, ↓i_rng1, ↓i_rng2, ↓finQ_f, ↓finQ_t, isB_bl, isI_int, isS_some, isS_none, isS_map, pw_add, pw_sub, pw_mul, pw_div, pw_mod, pw_pow, pw_addT, pw_addS, opC_lt, opC_le, opC_gt, opC_ge, opC_eqI, opC_neI, opC_neS, Option.map_some, asg_one, asg_tup, setAll_nil, setAll_cons, len_tup, sum_tup, tuple_tup, list_tup, min_int, max_int, ixt_tup, atI_0, atI_1, atI_2, atI_3, decide_eq_true_eq, Bool.not_eq_true', decide_eq_false_iff_not, List.map_cons, List.map_nil, List.set_cons_zero, List.set_cons_succ, List.getElem?_cons_zero, List.getElem?_cons_succ, List.cons_append, List.nil_append, List.length_cons, List.length_nil, Nat.reduceAdd, Nat.reduceSub, true_and, and_true, if_true, if_false, eq_self, Bool.false_eq_true, Bool.not_true, Bool.not_false, seqW_tup, ty_tt, ty_ss, ty_ii, ty_bi, ty_bb, ty_ib, tr_b, tr_n, ↓pwR_boolB, MulP, DivP, or_true, true_or, Int.reduceLT, Int.reduceLE, Int.reduceNeg, Int.reducePow, Int.reduceToNat, Int.cast_ofNat_Int, Int.natCast_zero, Int.natCast_one, Int.reduceEq, Bool.true_eq_false, not_true_eq_false, not_false_eq_true, ↓c_law_take_law_mixed, u_law_take_R1, B_law_take_R1d, u_law_take_R2, B_law_take_R2d, u_law_take_R3, B_law_take_R3d, eqs_0_0, eqs_0_1, eqs_0_2, eqs_0_3, eqs_1_0, eqs_1_1, eqs_1_2, eqs_1_3, eqs_2_0, eqs_2_1, eqs_2_2, eqs_2_3, eqs_3_0, eqs_3_1, eqs_3_2, eqs_3_3, ixt_loc ht, set_loc (i := 3) ht (by omega) (by simp)]
  have ht1 : (M.set t (.lst [.loc c, .int a, .int seed, .int (k + 1)]))[t]? = some (.lst [.loc c, .int a, .int seed, .int (k + 1)]) := get_set ht
  have hc1 : (M.set t (.lst [.loc c, .int a, .int seed, .int (k + 1)]))[c]? = some (.lst (ns.map PV.int)) := get_setne hc tc
  have kp : Kept [t, c] M (M.set t (.lst [.loc c, .int a, .int seed, .int (k + 1)])) := Kept.set (by simp)
  try simp only [show [PV.loc c, .int a, .int seed, .int k].set (Int.toNat 3) (.int (k + 1)) = [.loc c, .int a, .int seed, .int (k + 1)] from rfl]
  generalize M.set t (.lst [.loc c, .int a, .int seed, .int (k + 1)]) = M1 at ht1 hc1 kp
  try simp only [↓b_cons, ↓b_nil, ↓st_asg, ↓st_setI, ↓st_expr, ↓st_ret, ↓st_retN, ↓st_ife, ↓st_for, ↓st_whl, ↓st_pass, ↓e_nam, ↓e_non, ↓e_bl, ↓e_int, ↓e_str, ↓e_tup, ↓e_lst, ↓e_bin, ↓e_neg, ↓e_nt, ↓e_cmp, ↓e_chn, ↓e_and, ↓e_or, ↓e_ife, ↓e_sub, ↓e_slc, ↓e_slcL, ↓e_slcH, ↓e_blt, ↓e_isi, ↓e_meth, ↓e_meth0, ↓e_lc, ↓l_nil, ↓l_cons, ↓and_nil, ↓and_b, ↓or_nil, ↓or_b, ↓t_nil, ↓t_cons, ↓i_seq, ↓i_rng1, ↓i_rng2, ↓finQ_f, ↓finQ_t, isB_bl, isI_int, isS_some, isS_none, isS_map, pw_add, pw_sub, pw_mul, pw_div, pw_mod, pw_pow, pw_addT, pw_addS, opC_lt, opC_le, opC_gt, opC_ge, opC_eqI, opC_neI, opC_neS, Option.map_some, asg_one, asg_tup, setAll_nil, setAll_cons, len_tup, sum_tup, tuple_tup, list_tup, min_int, max_int, ixt_tup, atI_0, atI_1, atI_2, atI_3, decide_eq_true_eq, Bool.not_eq_true', decide_eq_false_iff_not, List.map_cons, List.map_nil, List.set_cons_zero, List.set_cons_succ, List.getElem?_cons_zero, List.getElem?_cons_succ, List.cons_append, List.nil_append, List.length_cons, List.length_nil, Nat.reduceAdd, Nat.reduceSub, true_and, and_true, if_true, if_false, eq_self, Bool.false_eq_true, Bool.not_true, Bool.not_false, seqW_tup, ty_tt, ty_ss, ty_ii, ty_bi, ty_bb, ty_ib, tr_b, tr_n, ↓pwR_boolB, MulP, DivP, or_true, true_or, Int.reduceLT, Int.reduceLE, Int.reduceNeg, Int.reducePow, Int.reduceToNat, Int.cast_ofNat_Int, Int.natCast_zero, Int.natCast_one, Int.reduceEq, Bool.true_eq_false, not_true_eq_false, not_false_eq_true, ↓c_law_take_law_mixed, u_law_take_R1, B_law_take_R1d, u_law_take_R2, B_law_take_R2d, u_law_take_R3, B_law_take_R3d, eqs_0_0, eqs_0_1, eqs_0_2, eqs_0_3, eqs_1_0, eqs_1_1, eqs_1_2, eqs_1_3, eqs_2_0, eqs_2_1, eqs_2_2, eqs_2_3, eqs_3_0, eqs_3_1, eqs_3_2, eqs_3_3, ixt_loc ht1, len_loc hc1, lst_of hc1]
  split
  · rename_i a0
    subst a0
    cases ns with
    | nil =>
      rw [if_neg (by simp)]
      refine spec_mixed _ _ _ _ fun x hx => ?_
      simp only [↓b_cons, ↓b_nil, ↓st_asg, ↓st_setI, ↓st_expr, ↓st_ret, ↓st_retN, ↓st_ife, ↓st_for, ↓st_whl, ↓st_pass, ↓e_nam, ↓e_non, ↓e_bl, ↓e_int, ↓e_str, ↓e_tup, ↓e_lst, ↓e_bin, ↓e_neg, ↓e_nt, ↓e_cmp, ↓e_chn, ↓e_and, ↓e_or, ↓e_ife, ↓e_sub, ↓e_slc, ↓e_slcL, ↓e_slcH, ↓e_blt, ↓e_isi, ↓e_meth, ↓e_meth0, ↓e_lc, ↓l_nil, ↓l_cons, ↓and_nil, ↓and_b, ↓or_nil, ↓or_b, ↓t_nil, ↓t_cons, ↓i_seq, ↓i_rng1, ↓i_rng2, ↓finQ_f, ↓finQ_t, isB_bl, isI_int, isS_some, isS_none, isS_map, pw_add, pw_sub, pw_mul, pw_div, pw_mod, pw_pow, pw_addT, pw_addS, opC_lt, opC_le, opC_gt, opC_ge, opC_eqI, opC_neI, opC_neS, Option.map_some, asg_one, asg_tup, setAll_nil, setAll_cons, len_tup, sum_tup, tuple_tup, list_tup, min_int, max_int, ixt_tup, atI_0, atI_1, atI_2, atI_3, decide_eq_true_eq, Bool.not_eq_true', decide_eq_false_iff_not, List.map_cons, List.map_nil, List.set_cons_zero, List.set_cons_succ, List.getElem?_cons_zero, List.getElem?_cons_succ, List.cons_append, List.nil_append, List.length_cons, List.length_nil, Nat.reduceAdd, Nat.reduceSub, true_and, and_true, if_true, if_false, eq_self, Bool.false_eq_true, Bool.not_true, Bool.not_false, seqW_tup, ty_tt, ty_ss, ty_ii, ty_bi, ty_bb, ty_ib, tr_b, tr_n, ↓pwR_boolB, MulP, DivP, or_true, true_or, Int.reduceLT, Int.reduceLE, Int.reduceNeg, Int.reducePow, Int.reduceToNat, Int.cast_ofNat_Int, Int.natCast_zero, Int.natCast_one, Int.reduceEq, Bool.true_eq_false, not_true_eq_false, not_false_eq_true, ↓c_law_take_law_mixed, u_law_take_R1, B_law_take_R1d, u_law_take_R2, B_law_take_R2d, u_law_take_R3, B_law_take_R3d, eqs_0_0, eqs_0_1, eqs_0_2, eqs_0_3, eqs_1_0, eqs_1_1, eqs_1_2, eqs_1_3, eqs_2_0, eqs_2_1, eqs_2_2, eqs_2_3, eqs_3_0, eqs_3_1, eqs_3_2, eqs_3_3]
      exact ⟨h0, h _ _ (md _).1 (md _).2 ⟨tc, 0, seed, k + 1, [], by omega, ht1, hc1⟩ kp⟩
    | cons n0 ns =>
      rw [if_pos (by simp)]
      have hc2 := get_set (p := .lst (ns.map PV.int)) hc1
      have ht2 := get_setne (p := .lst (ns.map PV.int)) ht1 (Ne.symm tc)
      have kp2 : Kept [t, c] M (M1.set c (.lst (ns.map PV.int))) := kp.trans (Kept.set (by simp))
      simp only [↓b_cons, ↓b_nil, ↓st_asg, ↓st_setI, ↓st_expr, ↓st_ret, ↓st_retN, ↓st_ife, ↓st_for, ↓st_whl, ↓st_pass, ↓e_nam, ↓e_non, ↓e_bl, ↓e_int, ↓e_str, ↓e_tup, ↓e_lst, ↓e_bin, ↓e_neg, ↓e_nt, ↓e_cmp, ↓e_chn, ↓e_and, ↓e_or, ↓e_ife, ↓e_sub, ↓e_slc, ↓e_slcL, ↓e_slcH, ↓e_blt, ↓e_isi, ↓e_meth, ↓e_meth0, ↓e_lc, ↓l_nil, ↓l_cons, ↓and_nil, ↓and_b, ↓or_nil, ↓or_b, ↓t_nil, ↓t_cons, ↓i_seq, ↓i_rng1, ↓i_rng2, ↓finQ_f, ↓finQ_t, isB_bl, isI_int, isS_some, isS_none, isS_map, pw_add, pw_sub, pw_mul, pw_div, pw_mod, pw_pow, pw_addT, pw_addS, opC_lt, opC_le, opC_gt, opC_ge, opC_eqI, opC_neI, opC_neS, Option.map_some, asg_one, asg_tup, setAll_nil, setAll_cons, len_tup, sum_tup, tuple_tup, list_tup, min_int, max_int, ixt_tup, atI_0, atI_1, atI_2, atI_3, decide_eq_true_eq, Bool.not_eq_true', decide_eq_false_iff_not, List.map_cons, List.map_nil, List.set_cons_zero, List.set_cons_succ, List.getElem?_cons_zero, List.getElem?_cons_succ, List.cons_append, List.nil_append, List.length_cons, List.length_nil, Nat.reduceAdd, Nat.reduceSub, true_and, and_true, if_true, if_false, eq_self, Bool.false_eq_true, Bool.not_true, Bool.not_false, seqW_tup, ty_tt, ty_ss, ty_ii, ty_bi, ty_bb, ty_ib, tr_b, tr_n, ↓pwR_boolB, MulP, DivP, or_true, true_or, Int.reduceLT, Int.reduceLE, Int.reduceNeg, Int.reducePow, Int.reduceToNat, Int.cast_ofNat_Int, Int.natCast_zero, Int.natCast_one, Int.reduceEq, Bool.true_eq_false, not_true_eq_false, not_false_eq_true, ↓c_law_take_law_mixed, u_law_take_R1, B_law_take_R1d, u_law_take_R2, B_law_take_R2d, u_law_take_R3, B_law_take_R3d, eqs_0_0, eqs_0_1, eqs_0_2, eqs_0_3, eqs_1_0, eqs_1_1, eqs_1_2, eqs_1_3, eqs_2_0, eqs_2_1, eqs_2_2, eqs_2_3, eqs_3_0, eqs_3_1, eqs_3_2, eqs_3_3, lst_of hc1, pop_loc0 hc1, ixt_loc ht2]
      split
      · refine spec_mixed _ _ _ _ fun x hx => ?_
        simp only [↓b_cons, ↓b_nil, ↓st_asg, ↓st_setI, ↓st_expr, ↓st_ret, ↓st_retN, ↓st_ife, ↓st_for, ↓st_whl, ↓st_pass, ↓e_nam, ↓e_non, ↓e_bl, ↓e_int, ↓e_str, ↓e_tup, ↓e_lst, ↓e_bin, ↓e_neg, ↓e_nt, ↓e_cmp, ↓e_chn, ↓e_and, ↓e_or, ↓e_ife, ↓e_sub, ↓e_slc, ↓e_slcL, ↓e_slcH, ↓e_blt, ↓e_isi, ↓e_meth, ↓e_meth0, ↓e_lc, ↓l_nil, ↓l_cons, ↓and_nil, ↓and_b, ↓or_nil, ↓or_b, ↓t_nil, ↓t_cons, ↓i_seq, ↓i_rng1, ↓i_rng2, ↓finQ_f, ↓finQ_t, isB_bl, isI_int, isS_some, isS_none, isS_map, pw_add, pw_sub, pw_mul, pw_div, pw_mod, pw_pow, pw_addT, pw_addS, opC_lt, opC_le, opC_gt, opC_ge, opC_eqI, opC_neI, opC_neS, Option.map_some, asg_one, asg_tup, setAll_nil, setAll_cons, len_tup, sum_tup, tuple_tup, list_tup, min_int, max_int, ixt_tup, atI_0, atI_1, atI_2, atI_3, decide_eq_true_eq, Bool.not_eq_true', decide_eq_false_iff_not, List.map_cons, List.map_nil, List.set_cons_zero, List.set_cons_succ, List.getElem?_cons_zero, List.getElem?_cons_succ, List.cons_append, List.nil_append, List.length_cons, List.length_nil, Nat.reduceAdd, Nat.reduceSub, true_and, and_true, if_true, if_false, eq_self, Bool.false_eq_true, Bool.not_true, Bool.not_false, seqW_tup, ty_tt, ty_ss, ty_ii, ty_bi, ty_bb, ty_ib, tr_b, tr_n, ↓pwR_boolB, MulP, DivP, or_true, true_or, Int.reduceLT, Int.reduceLE, Int.reduceNeg, Int.reducePow, Int.reduceToNat, Int.cast_ofNat_Int, Int.natCast_zero, Int.natCast_one, Int.reduceEq, Bool.true_eq_false, not_true_eq_false, not_false_eq_true, ↓c_law_take_law_mixed, u_law_take_R1, B_law_take_R1d, u_law_take_R2, B_law_take_R2d, u_law_take_R3, B_law_take_R3d, eqs_0_0, eqs_0_1, eqs_0_2, eqs_0_3, eqs_1_0, eqs_1_1, eqs_1_2, eqs_1_3, eqs_2_0, eqs_2_1, eqs_2_2, eqs_2_3, eqs_3_0, eqs_3_1, eqs_3_2, eqs_3_3]
        exact ⟨h0, h _ _ (md _).1 (md _).2 ⟨tc, 0, seed, k + 1, ns, by omega, ht2, hc2⟩ kp2⟩
      · have ht3 := get_set (p := .lst [.loc c, .int n0, .int seed, .int (k + 1)]) ht2
        have hc3 := get_setne (p := .lst [.loc c, .int n0, .int seed, .int (k + 1)]) hc2 tc
        have kp3 := kp2.trans (Kept.set (S := [t, c]) (n := t) (o := .lst [.loc c, .int n0, .int seed, .int (k + 1)]) (by simp))
        simp only [↓b_cons, ↓b_nil, ↓st_asg, ↓st_setI, ↓st_expr, ↓st_ret, ↓st_retN, ↓st_ife, ↓st_for, ↓st_whl, ↓st_pass, ↓e_nam, ↓e_non, ↓e_bl, ↓e_int, ↓e_str, ↓e_tup, ↓e_lst, ↓e_bin, ↓e_neg, ↓e_nt, ↓e_cmp, ↓e_chn, ↓e_and, ↓e_or, ↓e_ife, ↓e_sub, ↓e_slc, ↓e_slcL, ↓e_slcH, ↓e_blt, ↓e_isi, ↓e_meth, ↓e_meth0, ↓e_lc, ↓l_nil, ↓l_cons, ↓and_nil, ↓and_b, ↓or_nil, ↓or_b, ↓t_nil, ↓t_cons, ↓i_seq, ↓i_rng1, ↓i_rng2, ↓finQ_f, ↓finQ_t, isB_bl, isI_int, isS_some, isS_none, isS_map, pw_add, pw_sub, pw_mul, pw_div, pw_mod, pw_pow, pw_addT, pw_addS, opC_lt, opC_le, opC_gt, opC_ge, opC_eqI, opC_neI, opC_neS, Option.map_some, asg_one, asg_tup, setAll_nil, setAll_cons, len_tup, sum_tup, tuple_tup, list_tup, min_int, max_int, ixt_tup, atI_0, atI_1, atI_2, atI_3, decide_eq_true_eq, Bool.not_eq_true', decide_eq_false_iff_not, List.map_cons, List.map_nil, List.set_cons_zero, List.set_cons_succ, List.getElem?_cons_zero, List.getElem?_cons_succ, List.cons_append, List.nil_append, List.length_cons, List.length_nil, Nat.reduceAdd, Nat.reduceSub, true_and, and_true, if_true, if_false, eq_self, Bool.false_eq_true, Bool.not_true, Bool.not_false, seqW_tup, ty_tt, ty_ss, ty_ii, ty_bi, ty_bb, ty_ib, tr_b, tr_n, ↓pwR_boolB, MulP, DivP, or_true, true_or, Int.reduceLT, Int.reduceLE, Int.reduceNeg, Int.reducePow, Int.reduceToNat, Int.cast_ofNat_Int, Int.natCast_zero, Int.natCast_one, Int.reduceEq, Bool.true_eq_false, not_true_eq_false, not_false_eq_true, ↓c_law_take_law_mixed, u_law_take_R1, B_law_take_R1d, u_law_take_R2, B_law_take_R2d, u_law_take_R3, B_law_take_R3d, eqs_0_0, eqs_0_1, eqs_0_2, eqs_0_3, eqs_1_0, eqs_1_1, eqs_1_2, eqs_1_3, eqs_2_0, eqs_2_1, eqs_2_2, eqs_2_3, eqs_3_0, eqs_3_1, eqs_3_2, eqs_3_3, set_loc (i := 1) ht2 (by omega) (by simp)]
        try simp only [show [PV.loc c, .int 0, .int seed, .int (k + 1)].set (Int.toNat 1) (.int n0) = [.loc c, .int n0, .int seed, .int (k + 1)] from rfl]
        generalize (M1.set c (.lst (ns.map PV.int))).set t _ = M3 at ht3 hc3 kp3
        try simp only [↓b_cons, ↓b_nil, ↓st_asg, ↓st_setI, ↓st_expr, ↓st_ret, ↓st_retN, ↓st_ife, ↓st_for, ↓st_whl, ↓st_pass, ↓e_nam, ↓e_non, ↓e_bl, ↓e_int, ↓e_str, ↓e_tup, ↓e_lst, ↓e_bin, ↓e_neg, ↓e_nt, ↓e_cmp, ↓e_chn, ↓e_and, ↓e_or, ↓e_ife, ↓e_sub, ↓e_slc, ↓e_slcL, ↓e_slcH, ↓e_blt, ↓e_isi, ↓e_meth, ↓e_meth0, ↓e_lc, ↓l_nil, ↓l_cons, ↓and_nil, ↓and_b, ↓or_nil, ↓or_b, ↓t_nil, ↓t_cons, ↓i_seq, ↓i_rng1, ↓i_rng2, ↓finQ_f, ↓finQ_t, isB_bl, isI_int, isS_some, isS_none, isS_map, pw_add, pw_sub, pw_mul, pw_div, pw_mod, pw_pow, pw_addT, pw_addS, opC_lt, opC_le, opC_gt, opC_ge, opC_eqI, opC_neI, opC_neS, Option.map_some, asg_one, asg_tup, setAll_nil, setAll_cons, len_tup, sum_tup, tuple_tup, list_tup, min_int, max_int, ixt_tup, atI_0, atI_1, atI_2, atI_3, decide_eq_true_eq, Bool.not_eq_true', decide_eq_false_iff_not, List.map_cons, List.map_nil, List.set_cons_zero, List.set_cons_succ, List.getElem?_cons_zero, List.getElem?_cons_succ, List.cons_append, List.nil_append, List.length_cons, List.length_nil, Nat.reduceAdd, Nat.reduceSub, true_and, and_true, if_true, if_false, eq_self, Bool.false_eq_true, Bool.not_true, Bool.not_false, seqW_tup, ty_tt, ty_ss, ty_ii, ty_bi, ty_bb, ty_ib, tr_b, tr_n, ↓pwR_boolB, MulP, DivP, or_true, true_or, Int.reduceLT, Int.reduceLE, Int.reduceNeg, Int.reducePow, Int.reduceToNat, Int.cast_ofNat_Int, Int.natCast_zero, Int.natCast_one, Int.reduceEq, Bool.true_eq_false, not_true_eq_false, not_false_eq_true, ↓c_law_take_law_mixed, u_law_take_R1, B_law_take_R1d, u_law_take_R2, B_law_take_R2d, u_law_take_R3, B_law_take_R3d, eqs_0_0, eqs_0_1, eqs_0_2, eqs_0_3, eqs_1_0, eqs_1_1, eqs_1_2, eqs_1_3, eqs_2_0, eqs_2_1, eqs_2_2, eqs_2_3, eqs_3_0, eqs_3_1, eqs_3_2, eqs_3_3, ixt_loc ht3]
        split
        · rename_i hp
          try simp only [↓b_cons, ↓b_nil, ↓st_asg, ↓st_setI, ↓st_expr, ↓st_ret, ↓st_retN, ↓st_ife, ↓st_for, ↓st_whl, ↓st_pass, ↓e_nam, ↓e_non, ↓e_bl, ↓e_int, ↓e_str, ↓e_tup, ↓e_lst, ↓e_bin, ↓e_neg, ↓e_nt, ↓e_cmp, ↓e_chn, ↓e_and, ↓e_or, ↓e_ife, ↓e_sub, ↓e_slc, ↓e_slcL, ↓e_slcH, ↓e_blt, ↓e_isi, ↓e_meth, ↓e_meth0, ↓e_lc, ↓l_nil, ↓l_cons, ↓and_nil, ↓and_b, ↓or_nil, ↓or_b, ↓t_nil, ↓t_cons, ↓i_seq, ↓i_rng1, ↓i_rng2, ↓finQ_f, ↓finQ_t, isB_bl, isI_int, isS_some, isS_none, isS_map, pw_add, pw_sub, pw_mul, pw_div, pw_mod, pw_pow, pw_addT, pw_addS, opC_lt, opC_le, opC_gt, opC_ge, opC_eqI, opC_neI, opC_neS, Option.map_some, asg_one, asg_tup, setAll_nil, setAll_cons, len_tup, sum_tup, tuple_tup, list_tup, min_int, max_int, ixt_tup, atI_0, atI_1, atI_2, atI_3, decide_eq_true_eq, Bool.not_eq_true', decide_eq_false_iff_not, List.map_cons, List.map_nil, List.set_cons_zero, List.set_cons_succ, List.getElem?_cons_zero, List.getElem?_cons_succ, List.cons_append, List.nil_append, List.length_cons, List.length_nil, Nat.reduceAdd, Nat.reduceSub, true_and, and_true, if_true, if_false, eq_self, Bool.false_eq_true, Bool.not_true, Bool.not_false, seqW_tup, ty_tt, ty_ss, ty_ii, ty_bi, ty_bb, ty_ib, tr_b, tr_n, ↓pwR_boolB, MulP, DivP, or_true, true_or, Int.reduceLT, Int.reduceLE, Int.reduceNeg, Int.reducePow, Int.reduceToNat, Int.cast_ofNat_Int, Int.natCast_zero, Int.natCast_one, Int.reduceEq, Bool.true_eq_false, not_true_eq_false, not_false_eq_true, ↓c_law_take_law_mixed, u_law_take_R1, B_law_take_R1d, u_law_take_R2, B_law_take_R2d, u_law_take_R3, B_law_take_R3d, eqs_0_0, eqs_0_1, eqs_0_2, eqs_0_3, eqs_1_0, eqs_1_1, eqs_1_2, eqs_1_3, eqs_2_0, eqs_2_1, eqs_2_2, eqs_2_3, eqs_3_0, eqs_3_1, eqs_3_2, eqs_3_3, ixt_loc ht3, set_loc (i := 1) ht3 (by omega) (by simp)]
          exact ⟨h0, ⟨h0, h1⟩, h _ _ (md _).1 (md _).2 ⟨tc, n0 / many, seed, k + 1, ns, Int.ediv_nonneg (by omega) (by omega), get_set ht3, get_setne hc3 tc⟩ (kp3.trans (Kept.set (by simp)))⟩
        · try simp only [↓b_cons, ↓b_nil, ↓st_asg, ↓st_setI, ↓st_expr, ↓st_ret, ↓st_retN, ↓st_ife, ↓st_for, ↓st_whl, ↓st_pass, ↓e_nam, ↓e_non, ↓e_bl, ↓e_int, ↓e_str, ↓e_tup, ↓e_lst, ↓e_bin, ↓e_neg, ↓e_nt, ↓e_cmp, ↓e_chn, ↓e_and, ↓e_or, ↓e_ife, ↓e_sub, ↓e_slc, ↓e_slcL, ↓e_slcH, ↓e_blt, ↓e_isi, ↓e_meth, ↓e_meth0, ↓e_lc, ↓l_nil, ↓l_cons, ↓and_nil, ↓and_b, ↓or_nil, ↓or_b, ↓t_nil, ↓t_cons, ↓i_seq, ↓i_rng1, ↓i_rng2, ↓finQ_f, ↓finQ_t, isB_bl, isI_int, isS_some, isS_none, isS_map, pw_add, pw_sub, pw_mul, pw_div, pw_mod, pw_pow, pw_addT, pw_addS, opC_lt, opC_le, opC_gt, opC_ge, opC_eqI, opC_neI, opC_neS, Option.map_some, asg_one, asg_tup, setAll_nil, setAll_cons, len_tup, sum_tup, tuple_tup, list_tup, min_int, max_int, ixt_tup, atI_0, atI_1, atI_2, atI_3, decide_eq_true_eq, Bool.not_eq_true', decide_eq_false_iff_not, List.map_cons, List.map_nil, List.set_cons_zero, List.set_cons_succ, List.getElem?_cons_zero, List.getElem?_cons_succ, List.cons_append, List.nil_append, List.length_cons, List.length_nil, Nat.reduceAdd, Nat.reduceSub, true_and, and_true, if_true, if_false, eq_self, Bool.false_eq_true, Bool.not_true, Bool.not_false, seqW_tup, ty_tt, ty_ss, ty_ii, ty_bi, ty_bb, ty_ib, tr_b, tr_n, ↓pwR_boolB, MulP, DivP, or_true, true_or, Int.reduceLT, Int.reduceLE, Int.reduceNeg, Int.reducePow, Int.reduceToNat, Int.cast_ofNat_Int, Int.natCast_zero, Int.natCast_one, Int.reduceEq, Bool.true_eq_false, not_true_eq_false, not_false_eq_true, ↓c_law_take_law_mixed, u_law_take_R1, B_law_take_R1d, u_law_take_R2, B_law_take_R2d, u_law_take_R3, B_law_take_R3d, eqs_0_0, eqs_0_1, eqs_0_2, eqs_0_3, eqs_1_0, eqs_1_1, eqs_1_2, eqs_1_3, eqs_2_0, eqs_2_1, eqs_2_2, eqs_2_3, eqs_3_0, eqs_3_1, eqs_3_2, eqs_3_3, ixt_loc ht3]
          refine spec_mixed _ _ _ _ fun x hx => ?_
          simp only [↓b_cons, ↓b_nil, ↓st_asg, ↓st_setI, ↓st_expr, ↓st_ret, ↓st_retN, ↓st_ife, ↓st_for, ↓st_whl, ↓st_pass, ↓e_nam, ↓e_non, ↓e_bl, ↓e_int, ↓e_str, ↓e_tup, ↓e_lst, ↓e_bin, ↓e_neg, ↓e_nt, ↓e_cmp, ↓e_chn, ↓e_and, ↓e_or, ↓e_ife, ↓e_sub, ↓e_slc, ↓e_slcL, ↓e_slcH, ↓e_blt, ↓e_isi, ↓e_meth, ↓e_meth0, ↓e_lc, ↓l_nil, ↓l_cons, ↓and_nil, ↓and_b, ↓or_nil, ↓or_b, ↓t_nil, ↓t_cons, ↓i_seq, ↓i_rng1, ↓i_rng2, ↓finQ_f, ↓finQ_t, isB_bl, isI_int, isS_some, isS_none, isS_map, pw_add, pw_sub, pw_mul, pw_div, pw_mod, pw_pow, pw_addT, pw_addS, opC_lt, opC_le, opC_gt, opC_ge, opC_eqI, opC_neI, opC_neS, Option.map_some, asg_one, asg_tup, setAll_nil, setAll_cons, len_tup, sum_tup, tuple_tup, list_tup, min_int, max_int, ixt_tup, atI_0, atI_1, atI_2, atI_3, decide_eq_true_eq, Bool.not_eq_true', decide_eq_false_iff_not, List.map_cons, List.map_nil, List.set_cons_zero, List.set_cons_succ, List.getElem?_cons_zero, List.getElem?_cons_succ, List.cons_append, List.nil_append, List.length_cons, List.length_nil, Nat.reduceAdd, Nat.reduceSub, true_and, and_true, if_true, if_false, eq_self, Bool.false_eq_true, Bool.not_true, Bool.not_false, seqW_tup, ty_tt, ty_ss, ty_ii, ty_bi, ty_bb, ty_ib, tr_b, tr_n, ↓pwR_boolB, MulP, DivP, or_true, true_or, Int.reduceLT, Int.reduceLE, Int.reduceNeg, Int.reducePow, Int.reduceToNat, Int.cast_ofNat_Int, Int.natCast_zero, Int.natCast_one, Int.reduceEq, Bool.true_eq_false, not_true_eq_false, not_false_eq_true, ↓c_law_take_law_mixed, u_law_take_R1, B_law_take_R1d, u_law_take_R2, B_law_take_R2d, u_law_take_R3, B_law_take_R3d, eqs_0_0, eqs_0_1, eqs_0_2, eqs_0_3, eqs_1_0, eqs_1_1, eqs_1_2, eqs_1_3, eqs_2_0, eqs_2_1, eqs_2_2, eqs_2_3, eqs_3_0, eqs_3_1, eqs_3_2, eqs_3_3]
          exact ⟨h0, h _ _ (md _).1 (md _).2 ⟨tc, n0, seed, k + 1, ns, by omega, ht3, hc3⟩ kp3⟩
  · try simp only [↓b_cons, ↓b_nil, ↓st_asg, ↓st_setI, ↓st_expr, ↓st_ret, ↓st_retN, ↓st_ife, ↓st_for, ↓st_whl, ↓st_pass, ↓e_nam, ↓e_non, ↓e_bl, ↓e_int, ↓e_str, ↓e_tup, ↓e_lst, ↓e_bin, ↓e_neg, ↓e_nt, ↓e_cmp, ↓e_chn, ↓e_and, ↓e_or, ↓e_ife, ↓e_sub, ↓e_slc, ↓e_slcL, ↓e_slcH, ↓e_blt, ↓e_isi, ↓e_meth, ↓e_meth0, ↓e_lc, ↓l_nil, ↓l_cons, ↓and_nil, ↓and_b, ↓or_nil, ↓or_b, ↓t_nil, ↓t_cons, ↓i_seq, ↓i_rng1, ↓i_rng2, ↓finQ_f, ↓finQ_t, isB_bl, isI_int, isS_some, isS_none, isS_map, pw_add, pw_sub, pw_mul, pw_div, pw_mod, pw_pow, pw_addT, pw_addS, opC_lt, opC_le, opC_gt, opC_ge, opC_eqI, opC_neI, opC_neS, Option.map_some, asg_one, asg_tup, setAll_nil, setAll_cons, len_tup, sum_tup, tuple_tup, list_tup, min_int, max_int, ixt_tup, atI_0, atI_1, atI_2, atI_3, decide_eq_true_eq, Bool.not_eq_true', decide_eq_false_iff_not, List.map_cons, List.map_nil, List.set_cons_zero, List.set_cons_succ, List.getElem?_cons_zero, List.getElem?_cons_succ, List.cons_append, List.nil_append, List.length_cons, List.length_nil, Nat.reduceAdd, Nat.reduceSub, true_and, and_true, if_true, if_false, eq_self, Bool.false_eq_true, Bool.not_true, Bool.not_false, seqW_tup, ty_tt, ty_ss, ty_ii, ty_bi, ty_bb, ty_ib, tr_b, tr_n, ↓pwR_boolB, MulP, DivP, or_true, true_or, Int.reduceLT, Int.reduceLE, Int.reduceNeg, Int.reducePow, Int.reduceToNat, Int.cast_ofNat_Int, Int.natCast_zero, Int.natCast_one, Int.reduceEq, Bool.true_eq_false, not_true_eq_false, not_false_eq_true, ↓c_law_take_law_mixed, u_law_take_R1, B_law_take_R1d, u_law_take_R2, B_law_take_R2d, u_law_take_R3, B_law_take_R3d, eqs_0_0, eqs_0_1, eqs_0_2, eqs_0_3, eqs_1_0, eqs_1_1, eqs_1_2, eqs_1_3, eqs_2_0, eqs_2_1, eqs_2_2, eqs_2_3, eqs_3_0, eqs_3_1, eqs_3_2, eqs_3_3, ixt_loc ht1]
    split
    · rename_i hp
      try simp only [↓b_cons, ↓b_nil, ↓st_asg, ↓st_setI, ↓st_expr, ↓st_ret, ↓st_retN, ↓st_ife, ↓st_for, ↓st_whl, ↓st_pass, ↓e_nam, ↓e_non, ↓e_bl, ↓e_int, ↓e_str, ↓e_tup, ↓e_lst, ↓e_bin, ↓e_neg, ↓e_nt, ↓e_cmp, ↓e_chn, ↓e_and, ↓e_or, ↓e_ife, ↓e_sub, ↓e_slc, ↓e_slcL, ↓e_slcH, ↓e_blt, ↓e_isi, ↓e_meth, ↓e_meth0, ↓e_lc, ↓l_nil, ↓l_cons, ↓and_nil, ↓and_b, ↓or_nil, ↓or_b, ↓t_nil, ↓t_cons, ↓i_seq, ↓i_rng1, ↓i_rng2, ↓finQ_f, ↓finQ_t, isB_bl, isI_int, isS_some, isS_none, isS_map, pw_add, pw_sub, pw_mul, pw_div, pw_mod, pw_pow, pw_addT, pw_addS, opC_lt, opC_le, opC_gt, opC_ge, opC_eqI, opC_neI, opC_neS, Option.map_some, asg_one, asg_tup, setAll_nil, setAll_cons, len_tup, sum_tup, tuple_tup, list_tup, min_int, max_int, ixt_tup, atI_0, atI_1, atI_2, atI_3, decide_eq_true_eq, Bool.not_eq_true', decide_eq_false_iff_not, List.map_cons, List.map_nil, List.set_cons_zero, List.set_cons_succ, List.getElem?_cons_zero, List.getElem?_cons_succ, List.cons_append, List.nil_append, List.length_cons, List.length_nil, Nat.reduceAdd, Nat.reduceSub, true_and, and_true, if_true, if_false, eq_self, Bool.false_eq_true, Bool.not_true, Bool.not_false, seqW_tup, ty_tt, ty_ss, ty_ii, ty_bi, ty_bb, ty_ib, tr_b, tr_n, ↓pwR_boolB, MulP, DivP, or_true, true_or, Int.reduceLT, Int.reduceLE, Int.reduceNeg, Int.reducePow, Int.reduceToNat, Int.cast_ofNat_Int, Int.natCast_zero, Int.natCast_one, Int.reduceEq, Bool.true_eq_false, not_true_eq_false, not_false_eq_true, ↓c_law_take_law_mixed, u_law_take_R1, B_law_take_R1d, u_law_take_R2, B_law_take_R2d, u_law_take_R3, B_law_take_R3d, eqs_0_0, eqs_0_1, eqs_0_2, eqs_0_3, eqs_1_0, eqs_1_1, eqs_1_2, eqs_1_3, eqs_2_0, eqs_2_1, eqs_2_2, eqs_2_3, eqs_3_0, eqs_3_1, eqs_3_2, eqs_3_3, ixt_loc ht1, set_loc (i := 1) ht1 (by omega) (by simp)]
      exact ⟨h0, ⟨h0, h1⟩, h _ _ (md _).1 (md _).2 ⟨tc, a / many, seed, k + 1, ns, Int.ediv_nonneg (by omega) (by omega), get_set ht1, get_setne hc1 tc⟩ (kp.trans (Kept.set (by simp)))⟩
    · try simp only [↓b_cons, ↓b_nil, ↓st_asg, ↓st_setI, ↓st_expr, ↓st_ret, ↓st_retN, ↓st_ife, ↓st_for, ↓st_whl, ↓st_pass, ↓e_nam, ↓e_non, ↓e_bl, ↓e_int, ↓e_str, ↓e_tup, ↓e_lst, ↓e_bin, ↓e_neg, ↓e_nt, ↓e_cmp, ↓e_chn, ↓e_and, ↓e_or, ↓e_ife, ↓e_sub, ↓e_slc, ↓e_slcL, ↓e_slcH, ↓e_blt, ↓e_isi, ↓e_meth, ↓e_meth0, ↓e_lc, ↓l_nil, ↓l_cons, ↓and_nil, ↓and_b, ↓or_nil, ↓or_b, ↓t_nil, ↓t_cons, ↓i_seq, ↓i_rng1, ↓i_rng2, ↓finQ_f, ↓finQ_t, isB_bl, isI_int, isS_some, isS_none, isS_map, pw_add, pw_sub, pw_mul, pw_div, pw_mod, pw_pow, pw_addT, pw_addS, opC_lt, opC_le, opC_gt, opC_ge, opC_eqI, opC_neI, opC_neS, Option.map_some, asg_one, asg_tup, setAll_nil, setAll_cons, len_tup, sum_tup, tuple_tup, list_tup, min_int, max_int, ixt_tup, atI_0, atI_1, atI_2, atI_3, decide_eq_true_eq, Bool.not_eq_true', decide_eq_false_iff_not, List.map_cons, List.map_nil, List.set_cons_zero, List.set_cons_succ, List.getElem?_cons_zero, List.getElem?_cons_succ, List.cons_append, List.nil_append, List.length_cons, List.length_nil, Nat.reduceAdd, Nat.reduceSub, true_and, and_true, if_true, if_false, eq_self, Bool.false_eq_true, Bool.not_true, Bool.not_false, seqW_tup, ty_tt, ty_ss, ty_ii, ty_bi, ty_bb, ty_ib, tr_b, tr_n, ↓pwR_boolB, MulP, DivP, or_true, true_or, Int.reduceLT, Int.reduceLE, Int.reduceNeg, Int.reducePow, Int.reduceToNat, Int.cast_ofNat_Int, Int.natCast_zero, Int.natCast_one, Int.reduceEq, Bool.true_eq_false, not_true_eq_false, not_false_eq_true, ↓c_law_take_law_mixed, u_law_take_R1, B_law_take_R1d, u_law_take_R2, B_law_take_R2d, u_law_take_R3, B_law_take_R3d, eqs_0_0, eqs_0_1, eqs_0_2, eqs_0_3, eqs_1_0, eqs_1_1, eqs_1_2, eqs_1_3, eqs_2_0, eqs_2_1, eqs_2_2, eqs_2_3, eqs_3_0, eqs_3_1, eqs_3_2, eqs_3_3, ixt_loc ht1]
      refine spec_mixed _ _ _ _ fun x hx => ?_
      simp only [↓b_cons, ↓b_nil, ↓st_asg, ↓st_setI, ↓st_expr, ↓st_ret, ↓st_retN, ↓st_ife, ↓st_for, ↓st_whl, ↓st_pass, ↓e_nam, ↓e_non, ↓e_bl, ↓e_int, ↓e_str, ↓e_tup, ↓e_lst, ↓e_bin, ↓e_neg, ↓e_nt, ↓e_cmp, ↓e_chn, ↓e_and, ↓e_or, ↓e_ife, ↓e_sub, ↓e_slc, ↓e_slcL, ↓e_slcH, ↓e_blt, ↓e_isi, ↓e_meth, ↓e_meth0, ↓e_lc, ↓l_nil, ↓l_cons, ↓and_nil, ↓and_b, ↓or_nil, ↓or_b, ↓t_nil, ↓t_cons, ↓i_seq, ↓i_rng1, ↓i_rng2, ↓finQ_f, ↓finQ_t, isB_bl, isI_int, isS_some, isS_none, isS_map, pw_add, pw_sub, pw_mul, pw_div, pw_mod, pw_pow, pw_addT, pw_addS, opC_lt, opC_le, opC_gt, opC_ge, opC_eqI, opC_neI, opC_neS, Option.map_some, asg_one, asg_tup, setAll_nil, setAll_cons, len_tup, sum_tup, tuple_tup, list_tup, min_int, max_int, ixt_tup, atI_0, atI_1, atI_2, atI_3, decide_eq_true_eq, Bool.not_eq_true', decide_eq_false_iff_not, List.map_cons, List.map_nil, List.set_cons_zero, List.set_cons_succ, List.getElem?_cons_zero, List.getElem?_cons_succ, List.cons_append, List.nil_append, List.length_cons, List.length_nil, Nat.reduceAdd, Nat.reduceSub, true_and, and_true, if_true, if_false, eq_self, Bool.false_eq_true, Bool.not_true, Bool.not_false, seqW_tup, ty_tt, ty_ss, ty_ii, ty_bi, ty_bb, ty_ib, tr_b, tr_n, ↓pwR_boolB, MulP, DivP, or_true, true_or, Int.reduceLT, Int.reduceLE, Int.reduceNeg, Int.reducePow, Int.reduceToNat, Int.cast_ofNat_Int, Int.natCast_zero, Int.natCast_one, Int.reduceEq, Bool.true_eq_false, not_true_eq_false, not_false_eq_true, ↓c_law_take_law_mixed, u_law_take_R1, B_law_take_R1d, u_law_take_R2, B_law_take_R2d, u_law_take_R3, B_law_take_R3d, eqs_0_0, eqs_0_1, eqs_0_2, eqs_0_3, eqs_1_0, eqs_1_1, eqs_1_2, eqs_1_3, eqs_2_0, eqs_2_1, eqs_2_2, eqs_2_3, eqs_3_0, eqs_3_1, eqs_3_2, eqs_3_3]
      exact ⟨h0, h _ _ (md _).1 (md _).2 ⟨tc, a, seed, k + 1, ns, by omega, ht1, hc1⟩ kp⟩

theorem spec_large {M : Sto} {t c : Nat} (many : Int) (hT : Tape M t c) (h0 : 0 < many) (h1 : many ≤ 1000000000000000000000000000000000000000000) (Q : PV → Sto → Prop)
    (h : ∀ x M', 0 ≤ x → x < many → Tape M' t c → Kept [t, c] M M' → Q (.int x) M') : pwR (R_law_large [.loc t, .int many] M) Q := by
  rw [run_law_large]; unfold B_law_large
  simp only [↓b_cons, ↓b_nil, ↓st_asg, ↓st_setI, ↓st_expr, ↓st_ret, ↓st_retN, ↓st_ife, ↓st_for, ↓st_whl, ↓st_pass, ↓e_nam, ↓e_non, ↓e_bl, ↓e_int, ↓e_str, ↓e_tup, ↓e_lst, ↓e_bin, ↓e_neg, ↓e_nt, ↓e_cmp, ↓e_chn, ↓e_and, ↓e_or, ↓e_ife, ↓e_sub, ↓e_slc, ↓e_slcL, ↓e_slcH, ↓e_blt, ↓e_isi, ↓e_meth, ↓e_meth0, ↓e_lc, ↓l_nil, ↓l_cons, ↓and_nil, ↓and_b, ↓or_nil, ↓or_b, ↓t_nil, ↓t_cons, ↓i_seq, ↓i_rng1, ↓i_rng2, ↓finQ_f, ↓finQ_t, isB_bl, isI_int, isS_some, isS_none, isS_map, pw_add, pw_sub, pw_mul, pw_div, pw_mod, pw_pow, pw_addT, pw_addS, opC_lt, opC_le, opC_gt, opC_ge, opC_eqI, opC_neI, opC_neS, Option.map_some, asg_one, asg_tup, setAll_nil, setAll_cons, len_tup, sum_tup, tuple_tup, list_tup, min_int, max_int, ixt_tup, atI_0, atI_1, atI_2, atI_3, decide_eq_true_eq, Bool.not_eq_true', decide_eq_false_iff_not, List.map_cons, List.map_nil, List.set_cons_zero, List.set_cons_succ, List.getElem?_cons_zero, List.getElem?_cons_succ, List.cons_append, List.nil_append, List.length_cons, List.length_nil, Nat.reduceAdd, Nat.reduceSub, true_and, and_true, if_true, if_false, eq_self, Bool.false_eq_true, Bool.not_true, Bool.not_false, seqW_tup, ty_tt, ty_ss, ty_ii, ty_bi, ty_bb, ty_ib, tr_b, tr_n, ↓pwR_boolB, MulP, DivP, or_true, true_or, Int.reduceLT, Int.reduceLE, Int.reduceNeg, Int.reducePow, Int.reduceToNat, Int.cast_ofNat_Int, Int.natCast_zero, Int.natCast_one, Int.reduceEq, Bool.true_eq_false, not_true_eq_false, not_false_eq_true, ↓c_law_large_law_take, eqs_0_0, eqs_0_1, eqs_0_2, eqs_0_3, eqs_1_0, eqs_1_1, eqs_1_2, eqs_1_3, eqs_2_0, eqs_2_1, eqs_2_2, eqs_2_3, eqs_3_0, eqs_3_1, eqs_3_2, eqs_3_3]
  refine pw_whl 7 (fun k T m => ∃ f s : Int, T = [some (.loc t), some (.int many), some (.int f), some (.int s)] ∧ Tape m t c ∧ Kept [t, c] M m ∧ (1000000 ^ 7 ≤ s * 1000000 ^ k)) (by unfold FUEL; omega) ⟨0, 1, rfl, hT, .refl, by decide⟩ ?_
  rintro k T m hk ⟨f, s, rfl, hT', kp, hs⟩
  simp only [↓b_cons, ↓b_nil, ↓st_asg, ↓st_setI, ↓st_expr, ↓st_ret, ↓st_retN, ↓st_ife, ↓st_for, ↓st_whl, ↓st_pass, ↓e_nam, ↓e_non, ↓e_bl, ↓e_int, ↓e_str, ↓e_tup, ↓e_lst, ↓e_bin, ↓e_neg, ↓e_nt, ↓e_cmp, ↓e_chn, ↓e_and, ↓e_or, ↓e_ife, ↓e_sub, ↓e_slc, ↓e_slcL, ↓e_slcH, ↓e_blt, ↓e_isi, ↓e_meth, ↓e_meth0, ↓e_lc, ↓l_nil, ↓l_cons, ↓and_nil, ↓and_b, ↓or_nil, ↓or_b, ↓t_nil, ↓t_cons, ↓i_seq, ↓i_rng1, ↓i_rng2, ↓finQ_f, ↓finQ_t, isB_bl, isI_int, isS_some, isS_none, isS_map, pw_add, pw_sub, pw_mul, pw_div, pw_mod, pw_pow, pw_addT, pw_addS, opC_lt, opC_le, opC_gt, opC_ge, opC_eqI, opC_neI, opC_neS, Option.map_some, asg_one, asg_tup, setAll_nil, setAll_cons, len_tup, sum_tup, tuple_tup, list_tup, min_int, max_int, ixt_tup, atI_0, atI_1, atI_2, atI_3, decide_eq_true_eq, Bool.not_eq_true', decide_eq_false_iff_not, List.map_cons, List.map_nil, List.set_cons_zero, List.set_cons_succ, List.getElem?_cons_zero, List.getElem?_cons_succ, List.cons_append, List.nil_append, List.length_cons, List.length_nil, Nat.reduceAdd, Nat.reduceSub, true_and, and_true, if_true, if_false, eq_self, Bool.false_eq_true, Bool.not_true, Bool.not_false, seqW_tup, ty_tt, ty_ss, ty_ii, ty_bi, ty_bb, ty_ib, tr_b, tr_n, ↓pwR_boolB, MulP, DivP, or_true, true_or, Int.reduceLT, Int.reduceLE, Int.reduceNeg, Int.reducePow, Int.reduceToNat, Int.cast_ofNat_Int, Int.natCast_zero, Int.natCast_one, Int.reduceEq, Bool.true_eq_false, not_true_eq_false, not_false_eq_true, ↓c_law_large_law_take, eqs_0_0, eqs_0_1, eqs_0_2, eqs_0_3, eqs_1_0, eqs_1_1, eqs_1_2, eqs_1_3, eqs_2_0, eqs_2_1, eqs_2_2, eqs_2_3, eqs_3_0, eqs_3_1, eqs_3_2, eqs_3_3]
  split
  · rename_i hlt
    unfold B_law_large_1
    simp only [↓b_cons, ↓b_nil, ↓st_asg, ↓st_setI, ↓st_expr, ↓st_ret, ↓st_retN, ↓st_ife, ↓st_for, ↓st_whl, ↓st_pass, ↓e_nam, ↓e_non, ↓e_bl, ↓e_int, ↓e_str, ↓e_tup, ↓e_lst, ↓e_bin, ↓e_neg, ↓e_nt, ↓e_cmp, ↓e_chn, ↓e_and, ↓e_or, ↓e_ife, ↓e_sub, ↓e_slc, ↓e_slcL, ↓e_slcH, ↓e_blt, ↓e_isi, ↓e_meth, ↓e_meth0, ↓e_lc, ↓l_nil, ↓l_cons, ↓and_nil, ↓and_b, ↓or_nil, ↓or_b, ↓t_nil, ↓t_cons, ↓i_seq, ↓i_rng1, ↓i_rng2, ↓finQ_f, ↓finQ_t, isB_bl, isI_int, isS_some, isS_none, isS_map, pw_add, pw_sub, pw_mul, pw_div, pw_mod, pw_pow, pw_addT, pw_addS, opC_lt, opC_le, opC_gt, opC_ge, opC_eqI, opC_neI, opC_neS, Option.map_some, asg_one, asg_tup, setAll_nil, setAll_cons, len_tup, sum_tup, tuple_tup, list_tup, min_int, max_int, ixt_tup, atI_0, atI_1, atI_2, atI_3, decide_eq_true_eq, Bool.not_eq_true', decide_eq_false_iff_not, List.map_cons, List.map_nil, List.set_cons_zero, List.set_cons_succ, List.getElem?_cons_zero, List.getElem?_cons_succ, List.cons_append, List.nil_append, List.length_cons, List.length_nil, Nat.reduceAdd, Nat.reduceSub, true_and, and_true, if_true, if_false, eq_self, Bool.false_eq_true, Bool.not_true, Bool.not_false, seqW_tup, ty_tt, ty_ss, ty_ii, ty_bi, ty_bb, ty_ib, tr_b, tr_n, ↓pwR_boolB, MulP, DivP, or_true, true_or, Int.reduceLT, Int.reduceLE, Int.reduceNeg, Int.reducePow, Int.reduceToNat, Int.cast_ofNat_Int, Int.natCast_zero, Int.natCast_one, Int.reduceEq, Bool.true_eq_false, not_true_eq_false, not_false_eq_true, ↓c_law_large_law_take, eqs_0_0, eqs_0_1, eqs_0_2, eqs_0_3, eqs_1_0, eqs_1_1, eqs_1_2, eqs_1_3, eqs_2_0, eqs_2_1, eqs_2_2, eqs_2_3, eqs_3_0, eqs_3_1, eqs_3_2, eqs_3_3]
    refine spec_take _ hT' (by decide) (by decide) _ fun x M' hx0 hx1 hT2 kp2 => ?_
    simp only [↓b_cons, ↓b_nil, ↓st_asg, ↓st_setI, ↓st_expr, ↓st_ret, ↓st_retN, ↓st_ife, ↓st_for, ↓st_whl, ↓st_pass, ↓e_nam, ↓e_non, ↓e_bl, ↓e_int, ↓e_str, ↓e_tup, ↓e_lst, ↓e_bin, ↓e_neg, ↓e_nt, ↓e_cmp, ↓e_chn, ↓e_and, ↓e_or, ↓e_ife, ↓e_sub, ↓e_slc, ↓e_slcL, ↓e_slcH, ↓e_blt, ↓e_isi, ↓e_meth, ↓e_meth0, ↓e_lc, ↓l_nil, ↓l_cons, ↓and_nil, ↓and_b, ↓or_nil, ↓or_b, ↓t_nil, ↓t_cons, ↓i_seq, ↓i_rng1, ↓i_rng2, ↓finQ_f, ↓finQ_t, isB_bl, isI_int, isS_some, isS_none, isS_map, pw_add, pw_sub, pw_mul, pw_div, pw_mod, pw_pow, pw_addT, pw_addS, opC_lt, opC_le, opC_gt, opC_ge, opC_eqI, opC_neI, opC_neS, Option.map_some, asg_one, asg_tup, setAll_nil, setAll_cons, len_tup, sum_tup, tuple_tup, list_tup, min_int, max_int, ixt_tup, atI_0, atI_1, atI_2, atI_3, decide_eq_true_eq, Bool.not_eq_true', decide_eq_false_iff_not, List.map_cons, List.map_nil, List.set_cons_zero, List.set_cons_succ, List.getElem?_cons_zero, List.getElem?_cons_succ, List.cons_append, List.nil_append, List.length_cons, List.length_nil, Nat.reduceAdd, Nat.reduceSub, true_and, and_true, if_true, if_false, eq_self, Bool.false_eq_true, Bool.not_true, Bool.not_false, seqW_tup, ty_tt, ty_ss, ty_ii, ty_bi, ty_bb, ty_ib, tr_b, tr_n, ↓pwR_boolB, MulP, DivP, or_true, true_or, Int.reduceLT, Int.reduceLE, Int.reduceNeg, Int.reducePow, Int.reduceToNat, Int.cast_ofNat_Int, Int.natCast_zero, Int.natCast_one, Int.reduceEq, Bool.true_eq_false, not_true_eq_false, not_false_eq_true, ↓c_law_large_law_take, eqs_0_0, eqs_0_1, eqs_0_2, eqs_0_3, eqs_1_0, eqs_1_1, eqs_1_2, eqs_1_3, eqs_2_0, eqs_2_1, eqs_2_2, eqs_2_3, eqs_3_0, eqs_3_1, eqs_3_2, eqs_3_3]
    refine ⟨k - 1, ?_, _, _, rfl, hT2, kp.trans kp2, ?_⟩
    · rcases k with _ | k
      · simp at hs; omega
      · omega
    · rcases k with _ | k
      · simp at hs; omega
      · rw [Int.pow_succ] at hs
        simp only [Nat.add_sub_cancel]
        rw [Int.mul_assoc, Int.mul_comm 1000000]
        exact hs
  · exact ⟨h0, h _ _ (Int.emod_nonneg _ (by omega)) (Int.emod_lt_of_pos _ h0) hT' kp⟩

def Bd (d : Int) : Prop := -1000000000000000 ≤ d ∧ d ≤ 1000000000000000
theorem ins_map (ds : List Int) (i : Nat) (d : Int) : insP (ds.map PV.int) i (.int d) = (ds.take i ++ d :: ds.drop i).map PV.int := by
  simp [insP, List.map_take, List.map_drop]
theorem ins_len (ds : List Int) (i : Nat) (d : Int) : (ds.take i ++ d :: ds.drop i).length = ds.length + 1 := by
  simp only [List.length_append, List.length_take, List.length_cons, List.length_drop]; omega
theorem ins_memP {P : Int → Prop} {ds : List Int} {i : Nat} {d : Int} (h : ∀ x ∈ ds, P x) (hd : P d) : ∀ x ∈ ds.take i ++ d :: ds.drop i, P x := by
  intro x hx
  rcases List.mem_append.mp hx with q | q
  · exact h x (List.mem_of_mem_take q)
  · rcases List.mem_cons.mp q with rfl | q
    · exact hd
    · exact h x (List.mem_of_mem_drop q)
theorem spec_days {M : Sto} {t c : Nat} (hT : Tape M t c) (Q : PV → Sto → Prop)
    (h : ∀ (ds : List Int) M', 1 ≤ ds.length → ds.length ≤ 60 → (∀ x ∈ ds, Bd x) → Tape M' t c → Kept [t, c] M M' → Q (.tup (ds.map PV.int)) M') : pwR (R_law_days [.loc t] M) Q := by
  rw [run_law_days]; unfold B_law_days
  simp only [↓b_cons, ↓b_nil, ↓st_asg, ↓st_setI, ↓st_expr, ↓st_ret, ↓st_retN, ↓st_ife, ↓st_for, ↓st_whl, ↓st_pass, ↓e_nam, ↓e_non, ↓e_bl, ↓e_int, ↓e_str, ↓e_tup, ↓e_lst, ↓e_bin, ↓e_neg, ↓e_nt, ↓e_cmp, ↓e_chn, ↓e_and, ↓e_or, ↓e_ife, ↓e_sub, ↓e_slc, ↓e_slcL, ↓e_slcH, ↓e_blt, ↓e_isi, ↓e_meth, ↓e_meth0, ↓e_lc, ↓l_nil, ↓l_cons, ↓and_nil, ↓and_b, ↓or_nil, ↓or_b, ↓t_nil, ↓t_cons, ↓i_seq, ↓i_rng1, ↓i_rng2, ↓finQ_f, ↓finQ_t, isB_bl, isI_int, isS_some, isS_none, isS_map, pw_add, pw_sub, pw_mul, pw_div, pw_mod, pw_pow, pw_addT, pw_addS, opC_lt, opC_le, opC_gt, opC_ge, opC_eqI, opC_neI, opC_neS, Option.map_some, asg_one, asg_tup, setAll_nil, setAll_cons, len_tup, sum_tup, tuple_tup, list_tup, min_int, max_int, ixt_tup, atI_0, atI_1, atI_2, atI_3, decide_eq_true_eq, Bool.not_eq_true', decide_eq_false_iff_not, List.map_cons, List.map_nil, List.set_cons_zero, List.set_cons_succ, List.getElem?_cons_zero, List.getElem?_cons_succ, List.cons_append, List.nil_append, List.length_cons, List.length_nil, Nat.reduceAdd, Nat.reduceSub, true_and, and_true, if_true, if_false, eq_self, Bool.false_eq_true, Bool.not_true, Bool.not_false, seqW_tup, ty_tt, ty_ss, ty_ii, ty_bi, ty_bb, ty_ib, tr_b, tr_n, ↓pwR_boolB, MulP, DivP, or_true, true_or, Int.reduceLT, Int.reduceLE, Int.reduceNeg, Int.reducePow, Int.reduceToNat, Int.cast_ofNat_Int, Int.natCast_zero, Int.natCast_one, Int.reduceEq, Bool.true_eq_false, not_true_eq_false, not_false_eq_true, ↓c_law_days_law_take, ↓c_law_days_law_large, u_law_days_R1, B_law_days_R1d, eqs_0_0, eqs_0_1, eqs_0_2, eqs_0_3, eqs_1_0, eqs_1_1, eqs_1_2, eqs_1_3, eqs_2_0, eqs_2_1, eqs_2_2, eqs_2_3, eqs_3_0, eqs_3_1, eqs_3_2, eqs_3_3]
  have tl := hT.lt
  have hT1 : Tape (M ++ [.lst [.int 3, .int 8, .int 60]]) t c := hT.kept (S := []) Kept.app (by simp) (by simp)
  refine ⟨by unfold LINE; omega, spec_take _ hT1 (by decide) (by decide) _ fun i M1 i0 i1 hT1 kp1 => ?_⟩
  have q1 : M1[M.length]? = some (.lst [.int 3, .int 8, .int 60]) := kp1.obj get_new (by simp; omega)
  have k1 : Kept [t, c] M M1 := Kept.app.trans kp1
  obtain ⟨z, hz, z0, z1⟩ : ∃ z : Int, atI [PV.int 3, .int 8, .int 60] i = some (.int z) ∧ 3 ≤ z ∧ z ≤ 60 := by
    have : i = 0 ∨ i = 1 ∨ i = 2 := by omega
    rcases this with rfl | rfl | rfl
    · exact ⟨3, rfl, by omega, by omega⟩
    · exact ⟨8, rfl, by omega, by omega⟩
    · exact ⟨60, rfl, by omega, by omega⟩
  simp only [↓b_cons, ↓b_nil, ↓st_asg, ↓st_setI, ↓st_expr, ↓st_ret, ↓st_retN, ↓st_ife, ↓st_for, ↓st_whl, ↓st_pass, ↓e_nam, ↓e_non, ↓e_bl, ↓e_int, ↓e_str, ↓e_tup, ↓e_lst, ↓e_bin, ↓e_neg, ↓e_nt, ↓e_cmp, ↓e_chn, ↓e_and, ↓e_or, ↓e_ife, ↓e_sub, ↓e_slc, ↓e_slcL, ↓e_slcH, ↓e_blt, ↓e_isi, ↓e_meth, ↓e_meth0, ↓e_lc, ↓l_nil, ↓l_cons, ↓and_nil, ↓and_b, ↓or_nil, ↓or_b, ↓t_nil, ↓t_cons, ↓i_seq, ↓i_rng1, ↓i_rng2, ↓finQ_f, ↓finQ_t, isB_bl, isI_int, isS_some, isS_none, isS_map, pw_add, pw_sub, pw_mul, pw_div, pw_mod, pw_pow, pw_addT, pw_addS, opC_lt, opC_le, opC_gt, opC_ge, opC_eqI, opC_neI, opC_neS, Option.map_some, asg_one, asg_tup, setAll_nil, setAll_cons, len_tup, sum_tup, tuple_tup, list_tup, min_int, max_int, ixt_tup, atI_0, atI_1, atI_2, atI_3, decide_eq_true_eq, Bool.not_eq_true', decide_eq_false_iff_not, List.map_cons, List.map_nil, List.set_cons_zero, List.set_cons_succ, List.getElem?_cons_zero, List.getElem?_cons_succ, List.cons_append, List.nil_append, List.length_cons, List.length_nil, Nat.reduceAdd, Nat.reduceSub, true_and, and_true, if_true, if_false, eq_self, Bool.false_eq_true, Bool.not_true, Bool.not_false, seqW_tup, ty_tt, ty_ss, ty_ii, ty_bi, ty_bb, ty_ib, tr_b, tr_n, ↓pwR_boolB, MulP, DivP, or_true, true_or, Int.reduceLT, Int.reduceLE, Int.reduceNeg, Int.reducePow, Int.reduceToNat, Int.cast_ofNat_Int, Int.natCast_zero, Int.natCast_one, Int.reduceEq, Bool.true_eq_false, not_true_eq_false, not_false_eq_true, ↓c_law_days_law_take, ↓c_law_days_law_large, u_law_days_R1, B_law_days_R1d, eqs_0_0, eqs_0_1, eqs_0_2, eqs_0_3, eqs_1_0, eqs_1_1, eqs_1_2, eqs_1_3, eqs_2_0, eqs_2_1, eqs_2_2, eqs_2_3, eqs_3_0, eqs_3_1, eqs_3_2, eqs_3_3, ixt_loc q1, hz]
  refine spec_take _ hT1 (by omega) (by omega) _ fun size M2 s0 s1 hT2 kp2 => ?_
  have k2 := k1.trans kp2
  simp only [↓b_cons, ↓b_nil, ↓st_asg, ↓st_setI, ↓st_expr, ↓st_ret, ↓st_retN, ↓st_ife, ↓st_for, ↓st_whl, ↓st_pass, ↓e_nam, ↓e_non, ↓e_bl, ↓e_int, ↓e_str, ↓e_tup, ↓e_lst, ↓e_bin, ↓e_neg, ↓e_nt, ↓e_cmp, ↓e_chn, ↓e_and, ↓e_or, ↓e_ife, ↓e_sub, ↓e_slc, ↓e_slcL, ↓e_slcH, ↓e_blt, ↓e_isi, ↓e_meth, ↓e_meth0, ↓e_lc, ↓l_nil, ↓l_cons, ↓and_nil, ↓and_b, ↓or_nil, ↓or_b, ↓t_nil, ↓t_cons, ↓i_seq, ↓i_rng1, ↓i_rng2, ↓finQ_f, ↓finQ_t, isB_bl, isI_int, isS_some, isS_none, isS_map, pw_add, pw_sub, pw_mul, pw_div, pw_mod, pw_pow, pw_addT, pw_addS, opC_lt, opC_le, opC_gt, opC_ge, opC_eqI, opC_neI, opC_neS, Option.map_some, asg_one, asg_tup, setAll_nil, setAll_cons, len_tup, sum_tup, tuple_tup, list_tup, min_int, max_int, ixt_tup, atI_0, atI_1, atI_2, atI_3, decide_eq_true_eq, Bool.not_eq_true', decide_eq_false_iff_not, List.map_cons, List.map_nil, List.set_cons_zero, List.set_cons_succ, List.getElem?_cons_zero, List.getElem?_cons_succ, List.cons_append, List.nil_append, List.length_cons, List.length_nil, Nat.reduceAdd, Nat.reduceSub, true_and, and_true, if_true, if_false, eq_self, Bool.false_eq_true, Bool.not_true, Bool.not_false, seqW_tup, ty_tt, ty_ss, ty_ii, ty_bi, ty_bb, ty_ib, tr_b, tr_n, ↓pwR_boolB, MulP, DivP, or_true, true_or, Int.reduceLT, Int.reduceLE, Int.reduceNeg, Int.reducePow, Int.reduceToNat, Int.cast_ofNat_Int, Int.natCast_zero, Int.natCast_one, Int.reduceEq, Bool.true_eq_false, not_true_eq_false, not_false_eq_true, ↓c_law_days_law_take, ↓c_law_days_law_large, u_law_days_R1, B_law_days_R1d, eqs_0_0, eqs_0_1, eqs_0_2, eqs_0_3, eqs_1_0, eqs_1_1, eqs_1_2, eqs_1_3, eqs_2_0, eqs_2_1, eqs_2_2, eqs_2_3, eqs_3_0, eqs_3_1, eqs_3_2, eqs_3_3]
  have hT2' : Tape (M2 ++ [.lst [.int 10, .int 1000, .int 1000000000000000]]) t c := hT2.kept (S := []) Kept.app (by simp) (by simp)
  have tl2 := hT2.lt
  refine ⟨by unfold LINE; omega, spec_take _ hT2' (by decide) (by decide) _ fun i M3 i0 i1 hT3 kp3 => ?_⟩
  have q3 : M3[M2.length]? = some (.lst [.int 10, .int 1000, .int 1000000000000000]) := kp3.obj get_new (by simp; omega)
  have k3 : Kept [t, c] M M3 := k2.trans (Kept.app.trans kp3)
  obtain ⟨w, hw, w0, w1⟩ : ∃ z : Int, atI [PV.int 10, .int 1000, .int 1000000000000000] i = some (.int z) ∧ 10 ≤ z ∧ z ≤ 1000000000000000 := by
    have : i = 0 ∨ i = 1 ∨ i = 2 := by omega
    rcases this with rfl | rfl | rfl
    · exact ⟨10, rfl, by omega, by omega⟩
    · exact ⟨1000, rfl, by omega, by omega⟩
    · exact ⟨1000000000000000, rfl, by omega, by omega⟩
  simp only [↓b_cons, ↓b_nil, ↓st_asg, ↓st_setI, ↓st_expr, ↓st_ret, ↓st_retN, ↓st_ife, ↓st_for, ↓st_whl, ↓st_pass, ↓e_nam, ↓e_non, ↓e_bl, ↓e_int, ↓e_str, ↓e_tup, ↓e_lst, ↓e_bin, ↓e_neg, ↓e_nt, ↓e_cmp, ↓e_chn, ↓e_and, ↓e_or, ↓e_ife, ↓e_sub, ↓e_slc, ↓e_slcL, ↓e_slcH, ↓e_blt, ↓e_isi, ↓e_meth, ↓e_meth0, ↓e_lc, ↓l_nil, ↓l_cons, ↓and_nil, ↓and_b, ↓or_nil, ↓or_b, ↓t_nil, ↓t_cons, ↓i_seq, ↓i_rng1, ↓i_rng2, ↓finQ_f, ↓finQ_t, isB_bl, isI_int, isS_some, isS_none, isS_map, pw_add, pw_sub, pw_mul, pw_div, pw_mod, pw_pow, pw_addT, pw_addS, opC_lt, opC_le, opC_gt, opC_ge, opC_eqI, opC_neI, opC_neS, Option.map_some, asg_one, asg_tup, setAll_nil, setAll_cons, len_tup, sum_tup, tuple_tup, list_tup, min_int, max_int, ixt_tup, atI_0, atI_1, atI_2, atI_3, decide_eq_true_eq, Bool.not_eq_true', decide_eq_false_iff_not, List.map_cons, List.map_nil, List.set_cons_zero, List.set_cons_succ, List.getElem?_cons_zero, List.getElem?_cons_succ, List.cons_append, List.nil_append, List.length_cons, List.length_nil, Nat.reduceAdd, Nat.reduceSub, true_and, and_true, if_true, if_false, eq_self, Bool.false_eq_true, Bool.not_true, Bool.not_false, seqW_tup, ty_tt, ty_ss, ty_ii, ty_bi, ty_bb, ty_ib, tr_b, tr_n, ↓pwR_boolB, MulP, DivP, or_true, true_or, Int.reduceLT, Int.reduceLE, Int.reduceNeg, Int.reducePow, Int.reduceToNat, Int.cast_ofNat_Int, Int.natCast_zero, Int.natCast_one, Int.reduceEq, Bool.true_eq_false, not_true_eq_false, not_false_eq_true, ↓c_law_days_law_take, ↓c_law_days_law_large, u_law_days_R1, B_law_days_R1d, eqs_0_0, eqs_0_1, eqs_0_2, eqs_0_3, eqs_1_0, eqs_1_1, eqs_1_2, eqs_1_3, eqs_2_0, eqs_2_1, eqs_2_2, eqs_2_3, eqs_3_0, eqs_3_1, eqs_3_2, eqs_3_3, ixt_loc q3, hw]
  refine spec_take _ hT3 (by decide) (by decide) _ fun even M4 e0 e1 hT4 kp4 => ?_
  have k4 := k3.trans kp4
  have tl4 := hT4.lt
  simp only [↓b_cons, ↓b_nil, ↓st_asg, ↓st_setI, ↓st_expr, ↓st_ret, ↓st_retN, ↓st_ife, ↓st_for, ↓st_whl, ↓st_pass, ↓e_nam, ↓e_non, ↓e_bl, ↓e_int, ↓e_str, ↓e_tup, ↓e_lst, ↓e_bin, ↓e_neg, ↓e_nt, ↓e_cmp, ↓e_chn, ↓e_and, ↓e_or, ↓e_ife, ↓e_sub, ↓e_slc, ↓e_slcL, ↓e_slcH, ↓e_blt, ↓e_isi, ↓e_meth, ↓e_meth0, ↓e_lc, ↓l_nil, ↓l_cons, ↓and_nil, ↓and_b, ↓or_nil, ↓or_b, ↓t_nil, ↓t_cons, ↓i_seq, ↓i_rng1, ↓i_rng2, ↓finQ_f, ↓finQ_t, isB_bl, isI_int, isS_some, isS_none, isS_map, pw_add, pw_sub, pw_mul, pw_div, pw_mod, pw_pow, pw_addT, pw_addS, opC_lt, opC_le, opC_gt, opC_ge, opC_eqI, opC_neI, opC_neS, Option.map_some, asg_one, asg_tup, setAll_nil, setAll_cons, len_tup, sum_tup, tuple_tup, list_tup, min_int, max_int, ixt_tup, atI_0, atI_1, atI_2, atI_3, decide_eq_true_eq, Bool.not_eq_true', decide_eq_false_iff_not, List.map_cons, List.map_nil, List.set_cons_zero, List.set_cons_succ, List.getElem?_cons_zero, List.getElem?_cons_succ, List.cons_append, List.nil_append, List.length_cons, List.length_nil, Nat.reduceAdd, Nat.reduceSub, true_and, and_true, if_true, if_false, eq_self, Bool.false_eq_true, Bool.not_true, Bool.not_false, seqW_tup, ty_tt, ty_ss, ty_ii, ty_bi, ty_bb, ty_ib, tr_b, tr_n, ↓pwR_boolB, MulP, DivP, or_true, true_or, Int.reduceLT, Int.reduceLE, Int.reduceNeg, Int.reducePow, Int.reduceToNat, Int.cast_ofNat_Int, Int.natCast_zero, Int.natCast_one, Int.reduceEq, Bool.true_eq_false, not_true_eq_false, not_false_eq_true, ↓c_law_days_law_take, ↓c_law_days_law_large, u_law_days_R1, B_law_days_R1d, eqs_0_0, eqs_0_1, eqs_0_2, eqs_0_3, eqs_1_0, eqs_1_1, eqs_1_2, eqs_1_3, eqs_2_0, eqs_2_1, eqs_2_2, eqs_2_3, eqs_3_0, eqs_3_1, eqs_3_2, eqs_3_3]
  refine ⟨by unfold LINE; omega, ?_⟩
  have tn : t ≠ M4.length ∧ c ≠ M4.length := by omega
  generalize hdl : M4.length = dl at tn
  have d0 : (M4 ++ [.lst []])[dl]? = some (.lst (([] : List Int).map PV.int)) := by rw [← hdl]; exact get_new
  have kd : Kept [t, c, dl] M (M4 ++ [.lst []]) := (k4.mono (by simp)).trans Kept.app
  have md : M.length ≤ dl := by rw [← hdl]; exact k4.len
  have hT5 : Tape (M4 ++ [.lst []]) t c := hT4.kept (S := []) Kept.app (by simp) (by simp)
  refine pw_whl (1 + size).toNat (fun k T m => ∃ (ds : List Int) (day : Option PV), T = [some (.loc t), some (.int (1 + size)), some (.int w), some (.int even), some (.int (w - 1 - even)), some (.loc dl), day, none] ∧
    Tape m t c ∧ Kept [t, c, dl] M m ∧ m[dl]? = some (.lst (ds.map PV.int)) ∧ (∀ x ∈ ds, Bd x ∧ -1000000000000000 < x ∧ x < 1000000000000000) ∧ (ds.length : Int) + k = 1 + size) (by unfold FUEL; omega) ⟨[], none, rfl, hT5, kd, d0, by simp, by simp; omega⟩ ?_
  rintro k T m hk ⟨ds, day, rfl, hT6, kp6, q6, b6, l6⟩
  simp only [↓b_cons, ↓b_nil, ↓st_asg, ↓st_setI, ↓st_expr, ↓st_ret, ↓st_retN, ↓st_ife, ↓st_for, ↓st_whl, ↓st_pass, ↓e_nam, ↓e_non, ↓e_bl, ↓e_int, ↓e_str, ↓e_tup, ↓e_lst, ↓e_bin, ↓e_neg, ↓e_nt, ↓e_cmp, ↓e_chn, ↓e_and, ↓e_or, ↓e_ife, ↓e_sub, ↓e_slc, ↓e_slcL, ↓e_slcH, ↓e_blt, ↓e_isi, ↓e_meth, ↓e_meth0, ↓e_lc, ↓l_nil, ↓l_cons, ↓and_nil, ↓and_b, ↓or_nil, ↓or_b, ↓t_nil, ↓t_cons, ↓i_seq, ↓i_rng1, ↓i_rng2, ↓finQ_f, ↓finQ_t, isB_bl, isI_int, isS_some, isS_none, isS_map, pw_add, pw_sub, pw_mul, pw_div, pw_mod, pw_pow, pw_addT, pw_addS, opC_lt, opC_le, opC_gt, opC_ge, opC_eqI, opC_neI, opC_neS, Option.map_some, asg_one, asg_tup, setAll_nil, setAll_cons, len_tup, sum_tup, tuple_tup, list_tup, min_int, max_int, ixt_tup, atI_0, atI_1, atI_2, atI_3, decide_eq_true_eq, Bool.not_eq_true', decide_eq_false_iff_not, List.map_cons, List.map_nil, List.set_cons_zero, List.set_cons_succ, List.getElem?_cons_zero, List.getElem?_cons_succ, List.cons_append, List.nil_append, List.length_cons, List.length_nil, Nat.reduceAdd, Nat.reduceSub, true_and, and_true, if_true, if_false, eq_self, Bool.false_eq_true, Bool.not_true, Bool.not_false, seqW_tup, ty_tt, ty_ss, ty_ii, ty_bi, ty_bb, ty_ib, tr_b, tr_n, ↓pwR_boolB, MulP, DivP, or_true, true_or, Int.reduceLT, Int.reduceLE, Int.reduceNeg, Int.reducePow, Int.reduceToNat, Int.cast_ofNat_Int, Int.natCast_zero, Int.natCast_one, Int.reduceEq, Bool.true_eq_false, not_true_eq_false, not_false_eq_true, ↓c_law_days_law_take, ↓c_law_days_law_large, u_law_days_R1, B_law_days_R1d, eqs_0_0, eqs_0_1, eqs_0_2, eqs_0_3, eqs_1_0, eqs_1_1, eqs_1_2, eqs_1_3, eqs_2_0, eqs_2_1, eqs_2_2, eqs_2_3, eqs_3_0, eqs_3_1, eqs_3_2, eqs_3_3, len_loc q6, List.length_map]
  split
  · rename_i hlt
    unfold B_law_days_1
    simp only [↓b_cons, ↓b_nil, ↓st_asg, ↓st_setI, ↓st_expr, ↓st_ret, ↓st_retN, ↓st_ife, ↓st_for, ↓st_whl, ↓st_pass, ↓e_nam, ↓e_non, ↓e_bl, ↓e_int, ↓e_str, ↓e_tup, ↓e_lst, ↓e_bin, ↓e_neg, ↓e_nt, ↓e_cmp, ↓e_chn, ↓e_and, ↓e_or, ↓e_ife, ↓e_sub, ↓e_slc, ↓e_slcL, ↓e_slcH, ↓e_blt, ↓e_isi, ↓e_meth, ↓e_meth0, ↓e_lc, ↓l_nil, ↓l_cons, ↓and_nil, ↓and_b, ↓or_nil, ↓or_b, ↓t_nil, ↓t_cons, ↓i_seq, ↓i_rng1, ↓i_rng2, ↓finQ_f, ↓finQ_t, isB_bl, isI_int, isS_some, isS_none, isS_map, pw_add, pw_sub, pw_mul, pw_div, pw_mod, pw_pow, pw_addT, pw_addS, opC_lt, opC_le, opC_gt, opC_ge, opC_eqI, opC_neI, opC_neS, Option.map_some, asg_one, asg_tup, setAll_nil, setAll_cons, len_tup, sum_tup, tuple_tup, list_tup, min_int, max_int, ixt_tup, atI_0, atI_1, atI_2, atI_3, decide_eq_true_eq, Bool.not_eq_true', decide_eq_false_iff_not, List.map_cons, List.map_nil, List.set_cons_zero, List.set_cons_succ, List.getElem?_cons_zero, List.getElem?_cons_succ, List.cons_append, List.nil_append, List.length_cons, List.length_nil, Nat.reduceAdd, Nat.reduceSub, true_and, and_true, if_true, if_false, eq_self, Bool.false_eq_true, Bool.not_true, Bool.not_false, seqW_tup, ty_tt, ty_ss, ty_ii, ty_bi, ty_bb, ty_ib, tr_b, tr_n, ↓pwR_boolB, MulP, DivP, or_true, true_or, Int.reduceLT, Int.reduceLE, Int.reduceNeg, Int.reducePow, Int.reduceToNat, Int.cast_ofNat_Int, Int.natCast_zero, Int.natCast_one, Int.reduceEq, Bool.true_eq_false, not_true_eq_false, not_false_eq_true, ↓c_law_days_law_take, ↓c_law_days_law_large, u_law_days_R1, B_law_days_R1d, eqs_0_0, eqs_0_1, eqs_0_2, eqs_0_3, eqs_1_0, eqs_1_1, eqs_1_2, eqs_1_3, eqs_2_0, eqs_2_1, eqs_2_2, eqs_2_3, eqs_3_0, eqs_3_1, eqs_3_2, eqs_3_3]
    refine spec_large _ hT6 (by omega) (by omega) _ fun x M7 x0 x1 hT7 kp7 => ?_
    have q7 := kp7.obj q6 (by simp; omega)
    have kq7 := kp6.trans (kp7.mono (by simp))
    simp only [↓b_cons, ↓b_nil, ↓st_asg, ↓st_setI, ↓st_expr, ↓st_ret, ↓st_retN, ↓st_ife, ↓st_for, ↓st_whl, ↓st_pass, ↓e_nam, ↓e_non, ↓e_bl, ↓e_int, ↓e_str, ↓e_tup, ↓e_lst, ↓e_bin, ↓e_neg, ↓e_nt, ↓e_cmp, ↓e_chn, ↓e_and, ↓e_or, ↓e_ife, ↓e_sub, ↓e_slc, ↓e_slcL, ↓e_slcH, ↓e_blt, ↓e_isi, ↓e_meth, ↓e_meth0, ↓e_lc, ↓l_nil, ↓l_cons, ↓and_nil, ↓and_b, ↓or_nil, ↓or_b, ↓t_nil, ↓t_cons, ↓i_seq, ↓i_rng1, ↓i_rng2, ↓finQ_f, ↓finQ_t, isB_bl, isI_int, isS_some, isS_none, isS_map, pw_add, pw_sub, pw_mul, pw_div, pw_mod, pw_pow, pw_addT, pw_addS, opC_lt, opC_le, opC_gt, opC_ge, opC_eqI, opC_neI, opC_neS, Option.map_some, asg_one, asg_tup, setAll_nil, setAll_cons, len_tup, sum_tup, tuple_tup, list_tup, min_int, max_int, ixt_tup, atI_0, atI_1, atI_2, atI_3, decide_eq_true_eq, Bool.not_eq_true', decide_eq_false_iff_not, List.map_cons, List.map_nil, List.set_cons_zero, List.set_cons_succ, List.getElem?_cons_zero, List.getElem?_cons_succ, List.cons_append, List.nil_append, List.length_cons, List.length_nil, Nat.reduceAdd, Nat.reduceSub, true_and, and_true, if_true, if_false, eq_self, Bool.false_eq_true, Bool.not_true, Bool.not_false, seqW_tup, ty_tt, ty_ss, ty_ii, ty_bi, ty_bb, ty_ib, tr_b, tr_n, ↓pwR_boolB, MulP, DivP, or_true, true_or, Int.reduceLT, Int.reduceLE, Int.reduceNeg, Int.reducePow, Int.reduceToNat, Int.cast_ofNat_Int, Int.natCast_zero, Int.natCast_one, Int.reduceEq, Bool.true_eq_false, not_true_eq_false, not_false_eq_true, ↓c_law_days_law_take, ↓c_law_days_law_large, u_law_days_R1, B_law_days_R1d, eqs_0_0, eqs_0_1, eqs_0_2, eqs_0_3, eqs_1_0, eqs_1_1, eqs_1_2, eqs_1_3, eqs_2_0, eqs_2_1, eqs_2_2, eqs_2_3, eqs_3_0, eqs_3_1, eqs_3_2, eqs_3_3, lst_of q7, len_loc q7, List.length_map]
    refine spec_take _ hT7 (by omega) (by omega) _ fun i M8 i0 i1 hT8 kp8 => ?_
    have q8 := kp8.obj q7 (by simp; omega)
    have kq8 := kq7.trans (kp8.mono (by simp))
    simp only [↓b_cons, ↓b_nil, ↓st_asg, ↓st_setI, ↓st_expr, ↓st_ret, ↓st_retN, ↓st_ife, ↓st_for, ↓st_whl, ↓st_pass, ↓e_nam, ↓e_non, ↓e_bl, ↓e_int, ↓e_str, ↓e_tup, ↓e_lst, ↓e_bin, ↓e_neg, ↓e_nt, ↓e_cmp, ↓e_chn, ↓e_and, ↓e_or, ↓e_ife, ↓e_sub, ↓e_slc, ↓e_slcL, ↓e_slcH, ↓e_blt, ↓e_isi, ↓e_meth, ↓e_meth0, ↓e_lc, ↓l_nil, ↓l_cons, ↓and_nil, ↓and_b, ↓or_nil, ↓or_b, ↓t_nil, ↓t_cons, ↓i_seq, ↓i_rng1, ↓i_rng2, ↓finQ_f, ↓finQ_t, isB_bl, isI_int, isS_some, isS_none, isS_map, pw_add, pw_sub, pw_mul, pw_div, pw_mod, pw_pow, pw_addT, pw_addS, opC_lt, opC_le, opC_gt, opC_ge, opC_eqI, opC_neI, opC_neS, Option.map_some, asg_one, asg_tup, setAll_nil, setAll_cons, len_tup, sum_tup, tuple_tup, list_tup, min_int, max_int, ixt_tup, atI_0, atI_1, atI_2, atI_3, decide_eq_true_eq, Bool.not_eq_true', decide_eq_false_iff_not, List.map_cons, List.map_nil, List.set_cons_zero, List.set_cons_succ, List.getElem?_cons_zero, List.getElem?_cons_succ, List.cons_append, List.nil_append, List.length_cons, List.length_nil, Nat.reduceAdd, Nat.reduceSub, true_and, and_true, if_true, if_false, eq_self, Bool.false_eq_true, Bool.not_true, Bool.not_false, seqW_tup, ty_tt, ty_ss, ty_ii, ty_bi, ty_bb, ty_ib, tr_b, tr_n, ↓pwR_boolB, MulP, DivP, or_true, true_or, Int.reduceLT, Int.reduceLE, Int.reduceNeg, Int.reducePow, Int.reduceToNat, Int.cast_ofNat_Int, Int.natCast_zero, Int.natCast_one, Int.reduceEq, Bool.true_eq_false, not_true_eq_false, not_false_eq_true, ↓c_law_days_law_take, ↓c_law_days_law_large, u_law_days_R1, B_law_days_R1d, eqs_0_0, eqs_0_1, eqs_0_2, eqs_0_3, eqs_1_0, eqs_1_1, eqs_1_2, eqs_1_3, eqs_2_0, eqs_2_1, eqs_2_2, eqs_2_3, eqs_3_0, eqs_3_1, eqs_3_2, eqs_3_3, ins_loc q8 i0 (i := i) (by omega) (by simp [LINE]; omega)]
    have q9 := get_set (p := .lst (insP (ds.map PV.int) i.toNat (.int (x - (w - 1 - even))))) q8
    have hT9 : Tape (M8.set dl (.lst (insP (ds.map PV.int) i.toNat (.int (x - (w - 1 - even)))))) t c := hT8.kept (S := [dl]) (Kept.set (by simp)) (by simp; omega) (by simp; omega)
    have kq9 : Kept [t, c, dl] M (M8.set dl (.lst (insP (ds.map PV.int) i.toNat (.int (x - (w - 1 - even)))))) := kq8.trans (Kept.set (by simp))
    rw [ins_map] at q9 hT9 kq9 ⊢
    have l9 := ins_len ds i.toNat (x - (w - 1 - even))
    have b9 := ins_memP (P := fun x => Bd x ∧ -1000000000000000 < x ∧ x < 1000000000000000) (i := i.toNat) (d := x - (w - 1 - even)) b6 (by unfold Bd; omega)
    generalize ds.take i.toNat ++ (x - (w - 1 - even)) :: ds.drop i.toNat = ds9 at q9 hT9 kq9 l9 b9 ⊢
    generalize M8.set dl (.lst (ds9.map PV.int)) = M9 at q9 hT9 kq9 ⊢
    have fin1 : ∃ j, j < k ∧ ∃ (ds : List Int) (day : Option PV), [some (PV.loc t), some (.int (1 + size)), some (.int w), some (.int even), some (.int (w - 1 - even)), some (.loc dl), some (.int (x - (w - 1 - even))), none] =
      [some (PV.loc t), some (.int (1 + size)), some (.int w), some (.int even), some (.int (w - 1 - even)), some (.loc dl), day, none] ∧ Tape M9 t c ∧ Kept [t, c, dl] M M9 ∧ M9[dl]? = some (.lst (ds.map PV.int)) ∧ (∀ x ∈ ds, Bd x ∧ -1000000000000000 < x ∧ x < 1000000000000000) ∧ (ds.length : Int) + j = 1 + size :=
      ⟨k - 1, by omega, ds9, _, rfl, hT9, kq9, q9, b9, by omega⟩
    simp only [↓b_cons, ↓b_nil, ↓st_asg, ↓st_setI, ↓st_expr, ↓st_ret, ↓st_retN, ↓st_ife, ↓st_for, ↓st_whl, ↓st_pass, ↓e_nam, ↓e_non, ↓e_bl, ↓e_int, ↓e_str, ↓e_tup, ↓e_lst, ↓e_bin, ↓e_neg, ↓e_nt, ↓e_cmp, ↓e_chn, ↓e_and, ↓e_or, ↓e_ife, ↓e_sub, ↓e_slc, ↓e_slcL, ↓e_slcH, ↓e_blt, ↓e_isi, ↓e_meth, ↓e_meth0, ↓e_lc, ↓l_nil, ↓l_cons, ↓and_nil, ↓and_b, ↓or_nil, ↓or_b, ↓t_nil, ↓t_cons, ↓i_seq, ↓i_rng1, ↓i_rng2, ↓finQ_f, ↓finQ_t, isB_bl, isI_int, isS_some, isS_none, isS_map, pw_add, pw_sub, pw_mul, pw_div, pw_mod, pw_pow, pw_addT, pw_addS, opC_lt, opC_le, opC_gt, opC_ge, opC_eqI, opC_neI, opC_neS, Option.map_some, asg_one, asg_tup, setAll_nil, setAll_cons, len_tup, sum_tup, tuple_tup, list_tup, min_int, max_int, ixt_tup, atI_0, atI_1, atI_2, atI_3, decide_eq_true_eq, Bool.not_eq_true', decide_eq_false_iff_not, List.map_cons, List.map_nil, List.set_cons_zero, List.set_cons_succ, List.getElem?_cons_zero, List.getElem?_cons_succ, List.cons_append, List.nil_append, List.length_cons, List.length_nil, Nat.reduceAdd, Nat.reduceSub, true_and, and_true, if_true, if_false, eq_self, Bool.false_eq_true, Bool.not_true, Bool.not_false, seqW_tup, ty_tt, ty_ss, ty_ii, ty_bi, ty_bb, ty_ib, tr_b, tr_n, ↓pwR_boolB, MulP, DivP, or_true, true_or, Int.reduceLT, Int.reduceLE, Int.reduceNeg, Int.reducePow, Int.reduceToNat, Int.cast_ofNat_Int, Int.natCast_zero, Int.natCast_one, Int.reduceEq, Bool.true_eq_false, not_true_eq_false, not_false_eq_true, ↓c_law_days_law_take, ↓c_law_days_law_large, u_law_days_R1, B_law_days_R1d, eqs_0_0, eqs_0_1, eqs_0_2, eqs_0_3, eqs_1_0, eqs_1_1, eqs_1_2, eqs_1_3, eqs_2_0, eqs_2_1, eqs_2_2, eqs_2_3, eqs_3_0, eqs_3_1, eqs_3_2, eqs_3_3, len_loc q9, List.length_map]
    split
    · split
      · rename_i h1 h2
        simp only [↓b_cons, ↓b_nil, ↓st_asg, ↓st_setI, ↓st_expr, ↓st_ret, ↓st_retN, ↓st_ife, ↓st_for, ↓st_whl, ↓st_pass, ↓e_nam, ↓e_non, ↓e_bl, ↓e_int, ↓e_str, ↓e_tup, ↓e_lst, ↓e_bin, ↓e_neg, ↓e_nt, ↓e_cmp, ↓e_chn, ↓e_and, ↓e_or, ↓e_ife, ↓e_sub, ↓e_slc, ↓e_slcL, ↓e_slcH, ↓e_blt, ↓e_isi, ↓e_meth, ↓e_meth0, ↓e_lc, ↓l_nil, ↓l_cons, ↓and_nil, ↓and_b, ↓or_nil, ↓or_b, ↓t_nil, ↓t_cons, ↓i_seq, ↓i_rng1, ↓i_rng2, ↓finQ_f, ↓finQ_t, isB_bl, isI_int, isS_some, isS_none, isS_map, pw_add, pw_sub, pw_mul, pw_div, pw_mod, pw_pow, pw_addT, pw_addS, opC_lt, opC_le, opC_gt, opC_ge, opC_eqI, opC_neI, opC_neS, Option.map_some, asg_one, asg_tup, setAll_nil, setAll_cons, len_tup, sum_tup, tuple_tup, list_tup, min_int, max_int, ixt_tup, atI_0, atI_1, atI_2, atI_3, decide_eq_true_eq, Bool.not_eq_true', decide_eq_false_iff_not, List.map_cons, List.map_nil, List.set_cons_zero, List.set_cons_succ, List.getElem?_cons_zero, List.getElem?_cons_succ, List.cons_append, List.nil_append, List.length_cons, List.length_nil, Nat.reduceAdd, Nat.reduceSub, true_and, and_true, if_true, if_false, eq_self, Bool.false_eq_true, Bool.not_true, Bool.not_false, seqW_tup, ty_tt, ty_ss, ty_ii, ty_bi, ty_bb, ty_ib, tr_b, tr_n, ↓pwR_boolB, MulP, DivP, or_true, true_or, Int.reduceLT, Int.reduceLE, Int.reduceNeg, Int.reducePow, Int.reduceToNat, Int.cast_ofNat_Int, Int.natCast_zero, Int.natCast_one, Int.reduceEq, Bool.true_eq_false, not_true_eq_false, not_false_eq_true, ↓c_law_days_law_take, ↓c_law_days_law_large, u_law_days_R1, B_law_days_R1d, eqs_0_0, eqs_0_1, eqs_0_2, eqs_0_3, eqs_1_0, eqs_1_1, eqs_1_2, eqs_1_3, eqs_2_0, eqs_2_1, eqs_2_2, eqs_2_3, eqs_3_0, eqs_3_1, eqs_3_2, eqs_3_3, lst_of q9, len_loc q9, List.length_map]
        refine spec_take _ hT9 (by omega) (by omega) _ fun i2 M10 i20 i21 hT10 kp10 => ?_
        have q10 := kp10.obj q9 (by simp; omega)
        have kq10 := kq9.trans (kp10.mono (by simp))
        simp only [↓b_cons, ↓b_nil, ↓st_asg, ↓st_setI, ↓st_expr, ↓st_ret, ↓st_retN, ↓st_ife, ↓st_for, ↓st_whl, ↓st_pass, ↓e_nam, ↓e_non, ↓e_bl, ↓e_int, ↓e_str, ↓e_tup, ↓e_lst, ↓e_bin, ↓e_neg, ↓e_nt, ↓e_cmp, ↓e_chn, ↓e_and, ↓e_or, ↓e_ife, ↓e_sub, ↓e_slc, ↓e_slcL, ↓e_slcH, ↓e_blt, ↓e_isi, ↓e_meth, ↓e_meth0, ↓e_lc, ↓l_nil, ↓l_cons, ↓and_nil, ↓and_b, ↓or_nil, ↓or_b, ↓t_nil, ↓t_cons, ↓i_seq, ↓i_rng1, ↓i_rng2, ↓finQ_f, ↓finQ_t, isB_bl, isI_int, isS_some, isS_none, isS_map, pw_add, pw_sub, pw_mul, pw_div, pw_mod, pw_pow, pw_addT, pw_addS, opC_lt, opC_le, opC_gt, opC_ge, opC_eqI, opC_neI, opC_neS, Option.map_some, asg_one, asg_tup, setAll_nil, setAll_cons, len_tup, sum_tup, tuple_tup, list_tup, min_int, max_int, ixt_tup, atI_0, atI_1, atI_2, atI_3, decide_eq_true_eq, Bool.not_eq_true', decide_eq_false_iff_not, List.map_cons, List.map_nil, List.set_cons_zero, List.set_cons_succ, List.getElem?_cons_zero, List.getElem?_cons_succ, List.cons_append, List.nil_append, List.length_cons, List.length_nil, Nat.reduceAdd, Nat.reduceSub, true_and, and_true, if_true, if_false, eq_self, Bool.false_eq_true, Bool.not_true, Bool.not_false, seqW_tup, ty_tt, ty_ss, ty_ii, ty_bi, ty_bb, ty_ib, tr_b, tr_n, ↓pwR_boolB, MulP, DivP, or_true, true_or, Int.reduceLT, Int.reduceLE, Int.reduceNeg, Int.reducePow, Int.reduceToNat, Int.cast_ofNat_Int, Int.natCast_zero, Int.natCast_one, Int.reduceEq, Bool.true_eq_false, not_true_eq_false, not_false_eq_true, ↓c_law_days_law_take, ↓c_law_days_law_large, u_law_days_R1, B_law_days_R1d, eqs_0_0, eqs_0_1, eqs_0_2, eqs_0_3, eqs_1_0, eqs_1_1, eqs_1_2, eqs_1_3, eqs_2_0, eqs_2_1, eqs_2_2, eqs_2_3, eqs_3_0, eqs_3_1, eqs_3_2, eqs_3_3, ins_loc q10 i20 (i := i2) (by omega) (by simp [LINE]; omega)]
        have q11 := get_set (p := .lst (insP (ds9.map PV.int) i2.toNat (.int (0 - (x - (w - 1 - even)))))) q10
        have hT11 : Tape (M10.set dl (.lst (insP (ds9.map PV.int) i2.toNat (.int (0 - (x - (w - 1 - even))))))) t c := hT10.kept (S := [dl]) (Kept.set (by simp)) (by simp; omega) (by simp; omega)
        have kq11 : Kept [t, c, dl] M (M10.set dl (.lst (insP (ds9.map PV.int) i2.toNat (.int (0 - (x - (w - 1 - even))))))) := kq10.trans (Kept.set (by simp))
        rw [ins_map] at q11 hT11 kq11 ⊢
        have l11 := ins_len ds9 i2.toNat (0 - (x - (w - 1 - even)))
        have b11 := ins_memP (P := fun x => Bd x ∧ -1000000000000000 < x ∧ x < 1000000000000000) (i := i2.toNat) (d := 0 - (x - (w - 1 - even))) b9 (by unfold Bd; omega)
        exact ⟨k - 2, by omega, _, _, rfl, hT11, kq11, q11, b11, by omega⟩
      · exact fin1
    · exact fin1
  · rename_i hge
    have hl : ds.length = (1 + size).toNat := by omega
    have fin2 : ∀ (ds' : List Int) (m' : Sto), ds'.length = ds.length → (∀ x ∈ ds', Bd x) → Tape m' t c → Kept [t, c, dl] M m' → Q (.tup (ds'.map PV.int)) m' := fun ds' m' hl' hb hT' hk' =>
      h ds' m' (by omega) (by omega) hb hT' (hk'.drop fun n hn => by
        simp at hn
        rcases hn with rfl | rfl | rfl
        · simp
        · simp
        · exact .inr md)
    split
    · refine spec_take _ hT6 (by omega) (by omega) _ fun i M7 i0 i1 hT7 kp7 => ?_
      have q7 := kp7.obj q6 (by simp; omega)
      have kq7 := kp6.trans (kp7.mono (by simp))
      have hi : i.toNat < ds.length := by omega
      have ix : ∀ m : Sto, m[dl]? = some (.lst (ds.map PV.int)) → opI (.loc dl) (.int i) m = some (.int ds[i.toNat], m) := fun m hm => by
        rw [ixt_loc hm, atI_ge (x := .int ds[i.toNat]) i0 (by rw [List.getElem?_map, List.getElem?_eq_getElem hi]; rfl)]
        rfl
      have bi := b6 _ (List.getElem_mem hi)
      simp only [↓b_cons, ↓b_nil, ↓st_asg, ↓st_setI, ↓st_expr, ↓st_ret, ↓st_retN, ↓st_ife, ↓st_for, ↓st_whl, ↓st_pass, ↓e_nam, ↓e_non, ↓e_bl, ↓e_int, ↓e_str, ↓e_tup, ↓e_lst, ↓e_bin, ↓e_neg, ↓e_nt, ↓e_cmp, ↓e_chn, ↓e_and, ↓e_or, ↓e_ife, ↓e_sub, ↓e_slc, ↓e_slcL, ↓e_slcH, ↓e_blt, ↓e_isi, ↓e_meth, ↓e_meth0, ↓e_lc, ↓l_nil, ↓l_cons, ↓and_nil, ↓and_b, ↓or_nil, ↓or_b, ↓t_nil, ↓t_cons, ↓i_seq, ↓i_rng1, ↓i_rng2, ↓finQ_f, ↓finQ_t, isB_bl, isI_int, isS_some, isS_none, isS_map, pw_add, pw_sub, pw_mul, pw_div, pw_mod, pw_pow, pw_addT, pw_addS, opC_lt, opC_le, opC_gt, opC_ge, opC_eqI, opC_neI, opC_neS, Option.map_some, asg_one, asg_tup, setAll_nil, setAll_cons, len_tup, sum_tup, tuple_tup, list_tup, min_int, max_int, ixt_tup, atI_0, atI_1, atI_2, atI_3, decide_eq_true_eq, Bool.not_eq_true', decide_eq_false_iff_not, List.map_cons, List.map_nil, List.set_cons_zero, List.set_cons_succ, List.getElem?_cons_zero, List.getElem?_cons_succ, List.cons_append, List.nil_append, List.length_cons, List.length_nil, Nat.reduceAdd, Nat.reduceSub, true_and, and_true, if_true, if_false, eq_self, Bool.false_eq_true, Bool.not_true, Bool.not_false, seqW_tup, ty_tt, ty_ss, ty_ii, ty_bi, ty_bb, ty_ib, tr_b, tr_n, ↓pwR_boolB, MulP, DivP, or_true, true_or, Int.reduceLT, Int.reduceLE, Int.reduceNeg, Int.reducePow, Int.reduceToNat, Int.cast_ofNat_Int, Int.natCast_zero, Int.natCast_one, Int.reduceEq, Bool.true_eq_false, not_true_eq_false, not_false_eq_true, ↓c_law_days_law_take, ↓c_law_days_law_large, u_law_days_R1, B_law_days_R1d, eqs_0_0, eqs_0_1, eqs_0_2, eqs_0_3, eqs_1_0, eqs_1_1, eqs_1_2, eqs_1_3, eqs_2_0, eqs_2_1, eqs_2_2, eqs_2_3, eqs_3_0, eqs_3_1, eqs_3_2, eqs_3_3, ix _ q7]
      refine spec_take _ hT7 (by omega) (by omega) _ fun j M8 j0 j1 hT8 kp8 => ?_
      have q8 := kp8.obj q7 (by simp; omega)
      have kq8 := kq7.trans (kp8.mono (by simp))
      have q9 := get_set (p := .lst ((ds.map PV.int).set i.toNat (.int (ds[i.toNat] + j - 1)))) q8
      simp only [↓b_cons, ↓b_nil, ↓st_asg, ↓st_setI, ↓st_expr, ↓st_ret, ↓st_retN, ↓st_ife, ↓st_for, ↓st_whl, ↓st_pass, ↓e_nam, ↓e_non, ↓e_bl, ↓e_int, ↓e_str, ↓e_tup, ↓e_lst, ↓e_bin, ↓e_neg, ↓e_nt, ↓e_cmp, ↓e_chn, ↓e_and, ↓e_or, ↓e_ife, ↓e_sub, ↓e_slc, ↓e_slcL, ↓e_slcH, ↓e_blt, ↓e_isi, ↓e_meth, ↓e_meth0, ↓e_lc, ↓l_nil, ↓l_cons, ↓and_nil, ↓and_b, ↓or_nil, ↓or_b, ↓t_nil, ↓t_cons, ↓i_seq, ↓i_rng1, ↓i_rng2, ↓finQ_f, ↓finQ_t, isB_bl, isI_int, isS_some, isS_none, isS_map, pw_add, pw_sub, pw_mul, pw_div, pw_mod, pw_pow, pw_addT, pw_addS, opC_lt, opC_le, opC_gt, opC_ge, opC_eqI, opC_neI, opC_neS, Option.map_some, asg_one, asg_tup, setAll_nil, setAll_cons, len_tup, sum_tup, tuple_tup, list_tup, min_int, max_int, ixt_tup, atI_0, atI_1, atI_2, atI_3, decide_eq_true_eq, Bool.not_eq_true', decide_eq_false_iff_not, List.map_cons, List.map_nil, List.set_cons_zero, List.set_cons_succ, List.getElem?_cons_zero, List.getElem?_cons_succ, List.cons_append, List.nil_append, List.length_cons, List.length_nil, Nat.reduceAdd, Nat.reduceSub, true_and, and_true, if_true, if_false, eq_self, Bool.false_eq_true, Bool.not_true, Bool.not_false, seqW_tup, ty_tt, ty_ss, ty_ii, ty_bi, ty_bb, ty_ib, tr_b, tr_n, ↓pwR_boolB, MulP, DivP, or_true, true_or, Int.reduceLT, Int.reduceLE, Int.reduceNeg, Int.reducePow, Int.reduceToNat, Int.cast_ofNat_Int, Int.natCast_zero, Int.natCast_one, Int.reduceEq, Bool.true_eq_false, not_true_eq_false, not_false_eq_true, ↓c_law_days_law_take, ↓c_law_days_law_large, u_law_days_R1, B_law_days_R1d, eqs_0_0, eqs_0_1, eqs_0_2, eqs_0_3, eqs_1_0, eqs_1_1, eqs_1_2, eqs_1_3, eqs_2_0, eqs_2_1, eqs_2_2, eqs_2_3, eqs_3_0, eqs_3_1, eqs_3_2, eqs_3_3, set_loc (i := i) q8 i0 (by simp; omega), tuple_loc q9]
      rw [show (ds.map PV.int).set i.toNat (.int (ds[i.toNat] + j - 1)) = (ds.set i.toNat (ds[i.toNat] + j - 1)).map PV.int from by simp [List.map_set]]
      refine fin2 _ _ (by simp) (fun y hy => ?_) (hT8.kept (S := [dl]) (Kept.set (by simp)) (by simp; omega) (by simp; omega)) (kq8.trans (Kept.set (by simp)))
      rcases List.mem_or_eq_of_mem_set hy with q | rfl
      · exact (b6 _ q).1
      · unfold Bd; omega
    · simp only [↓b_cons, ↓b_nil, ↓st_asg, ↓st_setI, ↓st_expr, ↓st_ret, ↓st_retN, ↓st_ife, ↓st_for, ↓st_whl, ↓st_pass, ↓e_nam, ↓e_non, ↓e_bl, ↓e_int, ↓e_str, ↓e_tup, ↓e_lst, ↓e_bin, ↓e_neg, ↓e_nt, ↓e_cmp, ↓e_chn, ↓e_and, ↓e_or, ↓e_ife, ↓e_sub, ↓e_slc, ↓e_slcL, ↓e_slcH, ↓e_blt, ↓e_isi, ↓e_meth, ↓e_meth0, ↓e_lc, ↓l_nil, ↓l_cons, ↓and_nil, ↓and_b, ↓or_nil, ↓or_b, ↓t_nil, ↓t_cons, ↓i_seq, ↓i_rng1, ↓i_rng2, ↓finQ_f, ↓finQ_t, isB_bl, isI_int, isS_some, isS_none, isS_map, pw_add, pw_sub, pw_mul, pw_div, pw_mod, pw_pow, pw_addT, pw_addS, opC_lt, opC_le, opC_gt, opC_ge, opC_eqI, opC_neI, opC_neS, Option.map_some, asg_one, asg_tup, setAll_nil, setAll_cons, len_tup, sum_tup, tuple_tup, list_tup, min_int, max_int, ixt_tup, atI_0, atI_1, atI_2, atI_3, decide_eq_true_eq, Bool.not_eq_true', decide_eq_false_iff_not, List.map_cons, List.map_nil, List.set_cons_zero, List.set_cons_succ, List.getElem?_cons_zero, List.getElem?_cons_succ, List.cons_append, List.nil_append, List.length_cons, List.length_nil, Nat.reduceAdd, Nat.reduceSub, true_and, and_true, if_true, if_false, eq_self, Bool.false_eq_true, Bool.not_true, Bool.not_false, seqW_tup, ty_tt, ty_ss, ty_ii, ty_bi, ty_bb, ty_ib, tr_b, tr_n, ↓pwR_boolB, MulP, DivP, or_true, true_or, Int.reduceLT, Int.reduceLE, Int.reduceNeg, Int.reducePow, Int.reduceToNat, Int.cast_ofNat_Int, Int.natCast_zero, Int.natCast_one, Int.reduceEq, Bool.true_eq_false, not_true_eq_false, not_false_eq_true, ↓c_law_days_law_take, ↓c_law_days_law_large, u_law_days_R1, B_law_days_R1d, eqs_0_0, eqs_0_1, eqs_0_2, eqs_0_3, eqs_1_0, eqs_1_1, eqs_1_2, eqs_1_3, eqs_2_0, eqs_2_1, eqs_2_2, eqs_2_3, eqs_3_0, eqs_3_1, eqs_3_2, eqs_3_3, tuple_loc q6]
      exact fin2 _ _ rfl (fun x hx => (b6 x hx).1) hT6 kp6

theorem spec_number {M : Sto} (n : Int) (Q : PV → Sto → Prop) (h : Q (.bl true) M) : pwR (R_law_number [.int n] M) Q := by
  rw [run_law_number]; unfold B_law_number
  simp only [↓b_cons, ↓b_nil, ↓st_asg, ↓st_setI, ↓st_expr, ↓st_ret, ↓st_retN, ↓st_ife, ↓st_for, ↓st_whl, ↓st_pass, ↓e_nam, ↓e_non, ↓e_bl, ↓e_int, ↓e_str, ↓e_tup, ↓e_lst, ↓e_bin, ↓e_neg, ↓e_nt, ↓e_cmp, ↓e_chn, ↓e_and, ↓e_or, ↓e_ife, ↓e_sub, ↓e_slc, ↓e_slcL, ↓e_slcH, ↓e_blt, ↓e_isi, ↓e_meth, ↓e_meth0, ↓e_lc, ↓l_nil, ↓l_cons, ↓and_nil, ↓and_b, ↓or_nil, ↓or_b, ↓t_nil, ↓t_cons, ↓i_seq, ↓i_rng1, ↓i_rng2, ↓finQ_f, ↓finQ_t, isB_bl, isI_int, isS_some, isS_none, isS_map, pw_add, pw_sub, pw_mul, pw_div, pw_mod, pw_pow, pw_addT, pw_addS, opC_lt, opC_le, opC_gt, opC_ge, opC_eqI, opC_neI, opC_neS, Option.map_some, asg_one, asg_tup, setAll_nil, setAll_cons, len_tup, sum_tup, tuple_tup, list_tup, min_int, max_int, ixt_tup, atI_0, atI_1, atI_2, atI_3, decide_eq_true_eq, Bool.not_eq_true', decide_eq_false_iff_not, List.map_cons, List.map_nil, List.set_cons_zero, List.set_cons_succ, List.getElem?_cons_zero, List.getElem?_cons_succ, List.cons_append, List.nil_append, List.length_cons, List.length_nil, Nat.reduceAdd, Nat.reduceSub, true_and, and_true, if_true, if_false, eq_self, Bool.false_eq_true, Bool.not_true, Bool.not_false, seqW_tup, ty_tt, ty_ss, ty_ii, ty_bi, ty_bb, ty_ib, tr_b, tr_n, ↓pwR_boolB, MulP, DivP, or_true, true_or, Int.reduceLT, Int.reduceLE, Int.reduceNeg, Int.reducePow, Int.reduceToNat, Int.cast_ofNat_Int, Int.natCast_zero, Int.natCast_one, Int.reduceEq, Bool.true_eq_false, not_true_eq_false, not_false_eq_true, eqs_0_0, eqs_0_1, eqs_0_2, eqs_0_3, eqs_1_0, eqs_1_1, eqs_1_2, eqs_1_3, eqs_2_0, eqs_2_1, eqs_2_2, eqs_2_3, eqs_3_0, eqs_3_1, eqs_3_2, eqs_3_3, isTy]
  exact h

theorem spec_need {M : Sto} {ds : List Int} (hl : ds.length ≤ 60) (Q : PV → Sto → Prop) (h : ∀ z : Int, Q (.int z) M) : pwR (R_law_need [.tup (ds.map PV.int)] M) Q := by
  rw [run_law_need]; unfold B_law_need
  simp only [↓b_cons, ↓b_nil, ↓st_asg, ↓st_setI, ↓st_expr, ↓st_ret, ↓st_retN, ↓st_ife, ↓st_for, ↓st_whl, ↓st_pass, ↓e_nam, ↓e_non, ↓e_bl, ↓e_int, ↓e_str, ↓e_tup, ↓e_lst, ↓e_bin, ↓e_neg, ↓e_nt, ↓e_cmp, ↓e_chn, ↓e_and, ↓e_or, ↓e_ife, ↓e_sub, ↓e_slc, ↓e_slcL, ↓e_slcH, ↓e_blt, ↓e_isi, ↓e_meth, ↓e_meth0, ↓e_lc, ↓l_nil, ↓l_cons, ↓and_nil, ↓and_b, ↓or_nil, ↓or_b, ↓t_nil, ↓t_cons, ↓i_seq, ↓i_rng1, ↓i_rng2, ↓finQ_f, ↓finQ_t, isB_bl, isI_int, isS_some, isS_none, isS_map, pw_add, pw_sub, pw_mul, pw_div, pw_mod, pw_pow, pw_addT, pw_addS, opC_lt, opC_le, opC_gt, opC_ge, opC_eqI, opC_neI, opC_neS, Option.map_some, asg_one, asg_tup, setAll_nil, setAll_cons, len_tup, sum_tup, tuple_tup, list_tup, min_int, max_int, ixt_tup, atI_0, atI_1, atI_2, atI_3, decide_eq_true_eq, Bool.not_eq_true', decide_eq_false_iff_not, List.map_cons, List.map_nil, List.set_cons_zero, List.set_cons_succ, List.getElem?_cons_zero, List.getElem?_cons_succ, List.cons_append, List.nil_append, List.length_cons, List.length_nil, Nat.reduceAdd, Nat.reduceSub, true_and, and_true, if_true, if_false, eq_self, Bool.false_eq_true, Bool.not_true, Bool.not_false, seqW_tup, ty_tt, ty_ss, ty_ii, ty_bi, ty_bb, ty_ib, tr_b, tr_n, ↓pwR_boolB, MulP, DivP, or_true, true_or, Int.reduceLT, Int.reduceLE, Int.reduceNeg, Int.reducePow, Int.reduceToNat, Int.cast_ofNat_Int, Int.natCast_zero, Int.natCast_one, Int.reduceEq, Bool.true_eq_false, not_true_eq_false, not_false_eq_true, eqs_0_0, eqs_0_1, eqs_0_2, eqs_0_3, eqs_1_0, eqs_1_1, eqs_1_2, eqs_1_3, eqs_2_0, eqs_2_1, eqs_2_2, eqs_2_3, eqs_3_0, eqs_3_1, eqs_3_2, eqs_3_3, List.length_map]
  rw [← List.map_append]
  refine ⟨by unfold LINE; omega, pw_forT (fun i T m => m = M ∧ ∃ (z u : Int) (d : Option PV), T = [some (.tup (ds.map PV.int)), some (.int z), some (.int u), d]) rfl ⟨rfl, 0, 0, none, rfl⟩ ?_ ?_⟩
  · rintro i x T m hx ⟨rfl, z, u, d, rfl⟩
    rw [List.getElem?_map, Option.map_eq_some_iff] at hx
    obtain ⟨y, -, rfl⟩ := hx
    unfold B_law_need_1
    simp only [↓b_cons, ↓b_nil, ↓st_asg, ↓st_setI, ↓st_expr, ↓st_ret, ↓st_retN, ↓st_ife, ↓st_for, ↓st_whl, ↓st_pass, ↓e_nam, ↓e_non, ↓e_bl, ↓e_int, ↓e_str, ↓e_tup, ↓e_lst, ↓e_bin, ↓e_neg, ↓e_nt, ↓e_cmp, ↓e_chn, ↓e_and, ↓e_or, ↓e_ife, ↓e_sub, ↓e_slc, ↓e_slcL, ↓e_slcH, ↓e_blt, ↓e_isi, ↓e_meth, ↓e_meth0, ↓e_lc, ↓l_nil, ↓l_cons, ↓and_nil, ↓and_b, ↓or_nil, ↓or_b, ↓t_nil, ↓t_cons, ↓i_seq, ↓i_rng1, ↓i_rng2, ↓finQ_f, ↓finQ_t, isB_bl, isI_int, isS_some, isS_none, isS_map, pw_add, pw_sub, pw_mul, pw_div, pw_mod, pw_pow, pw_addT, pw_addS, opC_lt, opC_le, opC_gt, opC_ge, opC_eqI, opC_neI, opC_neS, Option.map_some, asg_one, asg_tup, setAll_nil, setAll_cons, len_tup, sum_tup, tuple_tup, list_tup, min_int, max_int, ixt_tup, atI_0, atI_1, atI_2, atI_3, decide_eq_true_eq, Bool.not_eq_true', decide_eq_false_iff_not, List.map_cons, List.map_nil, List.set_cons_zero, List.set_cons_succ, List.getElem?_cons_zero, List.getElem?_cons_succ, List.cons_append, List.nil_append, List.length_cons, List.length_nil, Nat.reduceAdd, Nat.reduceSub, true_and, and_true, if_true, if_false, eq_self, Bool.false_eq_true, Bool.not_true, Bool.not_false, seqW_tup, ty_tt, ty_ss, ty_ii, ty_bi, ty_bb, ty_ib, tr_b, tr_n, ↓pwR_boolB, MulP, DivP, or_true, true_or, Int.reduceLT, Int.reduceLE, Int.reduceNeg, Int.reducePow, Int.reduceToNat, Int.cast_ofNat_Int, Int.natCast_zero, Int.natCast_one, Int.reduceEq, Bool.true_eq_false, not_true_eq_false, not_false_eq_true, eqs_0_0, eqs_0_1, eqs_0_2, eqs_0_3, eqs_1_0, eqs_1_1, eqs_1_2, eqs_1_3, eqs_2_0, eqs_2_1, eqs_2_2, eqs_2_3, eqs_3_0, eqs_3_1, eqs_3_2, eqs_3_3]
    exact ⟨_, _, _, rfl⟩
  · rintro T m ⟨rfl, z, u, d, rfl⟩
    simp only [↓b_cons, ↓b_nil, ↓st_asg, ↓st_setI, ↓st_expr, ↓st_ret, ↓st_retN, ↓st_ife, ↓st_for, ↓st_whl, ↓st_pass, ↓e_nam, ↓e_non, ↓e_bl, ↓e_int, ↓e_str, ↓e_tup, ↓e_lst, ↓e_bin, ↓e_neg, ↓e_nt, ↓e_cmp, ↓e_chn, ↓e_and, ↓e_or, ↓e_ife, ↓e_sub, ↓e_slc, ↓e_slcL, ↓e_slcH, ↓e_blt, ↓e_isi, ↓e_meth, ↓e_meth0, ↓e_lc, ↓l_nil, ↓l_cons, ↓and_nil, ↓and_b, ↓or_nil, ↓or_b, ↓t_nil, ↓t_cons, ↓i_seq, ↓i_rng1, ↓i_rng2, ↓finQ_f, ↓finQ_t, isB_bl, isI_int, isS_some, isS_none, isS_map, pw_add, pw_sub, pw_mul, pw_div, pw_mod, pw_pow, pw_addT, pw_addS, opC_lt, opC_le, opC_gt, opC_ge, opC_eqI, opC_neI, opC_neS, Option.map_some, asg_one, asg_tup, setAll_nil, setAll_cons, len_tup, sum_tup, tuple_tup, list_tup, min_int, max_int, ixt_tup, atI_0, atI_1, atI_2, atI_3, decide_eq_true_eq, Bool.not_eq_true', decide_eq_false_iff_not, List.map_cons, List.map_nil, List.set_cons_zero, List.set_cons_succ, List.getElem?_cons_zero, List.getElem?_cons_succ, List.cons_append, List.nil_append, List.length_cons, List.length_nil, Nat.reduceAdd, Nat.reduceSub, true_and, and_true, if_true, if_false, eq_self, Bool.false_eq_true, Bool.not_true, Bool.not_false, seqW_tup, ty_tt, ty_ss, ty_ii, ty_bi, ty_bb, ty_ib, tr_b, tr_n, ↓pwR_boolB, MulP, DivP, or_true, true_or, Int.reduceLT, Int.reduceLE, Int.reduceNeg, Int.reducePow, Int.reduceToNat, Int.cast_ofNat_Int, Int.natCast_zero, Int.natCast_one, Int.reduceEq, Bool.true_eq_false, not_true_eq_false, not_false_eq_true, eqs_0_0, eqs_0_1, eqs_0_2, eqs_0_3, eqs_1_0, eqs_1_1, eqs_1_2, eqs_1_3, eqs_2_0, eqs_2_1, eqs_2_2, eqs_2_3, eqs_3_0, eqs_3_1, eqs_3_2, eqs_3_3]
    exact h _
theorem spec_brim {M : Sto} {t c : Nat} {ds : List Int} (hT : Tape M t c) (hl : ds.length ≤ 60) (Q : PV → Sto → Prop)
    (h : ∀ (z : Int) M', 0 ≤ z → z ≤ 1000000000000000 → Tape M' t c → Kept [t, c] M M' → Q (.int z) M') : pwR (R_law_brim [.loc t, .tup (ds.map PV.int)] M) Q := by
  rw [run_law_brim]; unfold B_law_brim
  simp only [↓b_cons, ↓b_nil, ↓st_asg, ↓st_setI, ↓st_expr, ↓st_ret, ↓st_retN, ↓st_ife, ↓st_for, ↓st_whl, ↓st_pass, ↓e_nam, ↓e_non, ↓e_bl, ↓e_int, ↓e_str, ↓e_tup, ↓e_lst, ↓e_bin, ↓e_neg, ↓e_nt, ↓e_cmp, ↓e_chn, ↓e_and, ↓e_or, ↓e_ife, ↓e_sub, ↓e_slc, ↓e_slcL, ↓e_slcH, ↓e_blt, ↓e_isi, ↓e_meth, ↓e_meth0, ↓e_lc, ↓l_nil, ↓l_cons, ↓and_nil, ↓and_b, ↓or_nil, ↓or_b, ↓t_nil, ↓t_cons, ↓i_seq, ↓i_rng1, ↓i_rng2, ↓finQ_f, ↓finQ_t, isB_bl, isI_int, isS_some, isS_none, isS_map, pw_add, pw_sub, pw_mul, pw_div, pw_mod, pw_pow, pw_addT, pw_addS, opC_lt, opC_le, opC_gt, opC_ge, opC_eqI, opC_neI, opC_neS, Option.map_some, asg_one, asg_tup, setAll_nil, setAll_cons, len_tup, sum_tup, tuple_tup, list_tup, min_int, max_int, ixt_tup, atI_0, atI_1, atI_2, atI_3, decide_eq_true_eq, Bool.not_eq_true', decide_eq_false_iff_not, List.map_cons, List.map_nil, List.set_cons_zero, List.set_cons_succ, List.getElem?_cons_zero, List.getElem?_cons_succ, List.cons_append, List.nil_append, List.length_cons, List.length_nil, Nat.reduceAdd, Nat.reduceSub, true_and, and_true, if_true, if_false, eq_self, Bool.false_eq_true, Bool.not_true, Bool.not_false, seqW_tup, ty_tt, ty_ss, ty_ii, ty_bi, ty_bb, ty_ib, tr_b, tr_n, ↓pwR_boolB, MulP, DivP, or_true, true_or, Int.reduceLT, Int.reduceLE, Int.reduceNeg, Int.reducePow, Int.reduceToNat, Int.cast_ofNat_Int, Int.natCast_zero, Int.natCast_one, Int.reduceEq, Bool.true_eq_false, not_true_eq_false, not_false_eq_true, ↓c_law_brim_law_large, ↓c_law_brim_law_need, ↓c_law_brim_law_take, u_law_brim_R1, B_law_brim_R1d, eqs_0_0, eqs_0_1, eqs_0_2, eqs_0_3, eqs_1_0, eqs_1_1, eqs_1_2, eqs_1_3, eqs_2_0, eqs_2_1, eqs_2_2, eqs_2_3, eqs_3_0, eqs_3_1, eqs_3_2, eqs_3_3]
  refine spec_need hl _ fun z => ?_
  simp only [↓b_cons, ↓b_nil, ↓st_asg, ↓st_setI, ↓st_expr, ↓st_ret, ↓st_retN, ↓st_ife, ↓st_for, ↓st_whl, ↓st_pass, ↓e_nam, ↓e_non, ↓e_bl, ↓e_int, ↓e_str, ↓e_tup, ↓e_lst, ↓e_bin, ↓e_neg, ↓e_nt, ↓e_cmp, ↓e_chn, ↓e_and, ↓e_or, ↓e_ife, ↓e_sub, ↓e_slc, ↓e_slcL, ↓e_slcH, ↓e_blt, ↓e_isi, ↓e_meth, ↓e_meth0, ↓e_lc, ↓l_nil, ↓l_cons, ↓and_nil, ↓and_b, ↓or_nil, ↓or_b, ↓t_nil, ↓t_cons, ↓i_seq, ↓i_rng1, ↓i_rng2, ↓finQ_f, ↓finQ_t, isB_bl, isI_int, isS_some, isS_none, isS_map, pw_add, pw_sub, pw_mul, pw_div, pw_mod, pw_pow, pw_addT, pw_addS, opC_lt, opC_le, opC_gt, opC_ge, opC_eqI, opC_neI, opC_neS, Option.map_some, asg_one, asg_tup, setAll_nil, setAll_cons, len_tup, sum_tup, tuple_tup, list_tup, min_int, max_int, ixt_tup, atI_0, atI_1, atI_2, atI_3, decide_eq_true_eq, Bool.not_eq_true', decide_eq_false_iff_not, List.map_cons, List.map_nil, List.set_cons_zero, List.set_cons_succ, List.getElem?_cons_zero, List.getElem?_cons_succ, List.cons_append, List.nil_append, List.length_cons, List.length_nil, Nat.reduceAdd, Nat.reduceSub, true_and, and_true, if_true, if_false, eq_self, Bool.false_eq_true, Bool.not_true, Bool.not_false, seqW_tup, ty_tt, ty_ss, ty_ii, ty_bi, ty_bb, ty_ib, tr_b, tr_n, ↓pwR_boolB, MulP, DivP, or_true, true_or, Int.reduceLT, Int.reduceLE, Int.reduceNeg, Int.reducePow, Int.reduceToNat, Int.cast_ofNat_Int, Int.natCast_zero, Int.natCast_one, Int.reduceEq, Bool.true_eq_false, not_true_eq_false, not_false_eq_true, ↓c_law_brim_law_large, ↓c_law_brim_law_need, ↓c_law_brim_law_take, u_law_brim_R1, B_law_brim_R1d, eqs_0_0, eqs_0_1, eqs_0_2, eqs_0_3, eqs_1_0, eqs_1_1, eqs_1_2, eqs_1_3, eqs_2_0, eqs_2_1, eqs_2_2, eqs_2_3, eqs_3_0, eqs_3_1, eqs_3_2, eqs_3_3]
  refine spec_take _ hT (by decide) (by decide) _ fun x1 M1 x10 x11 hT1 kp1 => ?_
  simp only [↓b_cons, ↓b_nil, ↓st_asg, ↓st_setI, ↓st_expr, ↓st_ret, ↓st_retN, ↓st_ife, ↓st_for, ↓st_whl, ↓st_pass, ↓e_nam, ↓e_non, ↓e_bl, ↓e_int, ↓e_str, ↓e_tup, ↓e_lst, ↓e_bin, ↓e_neg, ↓e_nt, ↓e_cmp, ↓e_chn, ↓e_and, ↓e_or, ↓e_ife, ↓e_sub, ↓e_slc, ↓e_slcL, ↓e_slcH, ↓e_blt, ↓e_isi, ↓e_meth, ↓e_meth0, ↓e_lc, ↓l_nil, ↓l_cons, ↓and_nil, ↓and_b, ↓or_nil, ↓or_b, ↓t_nil, ↓t_cons, ↓i_seq, ↓i_rng1, ↓i_rng2, ↓finQ_f, ↓finQ_t, isB_bl, isI_int, isS_some, isS_none, isS_map, pw_add, pw_sub, pw_mul, pw_div, pw_mod, pw_pow, pw_addT, pw_addS, opC_lt, opC_le, opC_gt, opC_ge, opC_eqI, opC_neI, opC_neS, Option.map_some, asg_one, asg_tup, setAll_nil, setAll_cons, len_tup, sum_tup, tuple_tup, list_tup, min_int, max_int, ixt_tup, atI_0, atI_1, atI_2, atI_3, decide_eq_true_eq, Bool.not_eq_true', decide_eq_false_iff_not, List.map_cons, List.map_nil, List.set_cons_zero, List.set_cons_succ, List.getElem?_cons_zero, List.getElem?_cons_succ, List.cons_append, List.nil_append, List.length_cons, List.length_nil, Nat.reduceAdd, Nat.reduceSub, true_and, and_true, if_true, if_false, eq_self, Bool.false_eq_true, Bool.not_true, Bool.not_false, seqW_tup, ty_tt, ty_ss, ty_ii, ty_bi, ty_bb, ty_ib, tr_b, tr_n, ↓pwR_boolB, MulP, DivP, or_true, true_or, Int.reduceLT, Int.reduceLE, Int.reduceNeg, Int.reducePow, Int.reduceToNat, Int.cast_ofNat_Int, Int.natCast_zero, Int.natCast_one, Int.reduceEq, Bool.true_eq_false, not_true_eq_false, not_false_eq_true, ↓c_law_brim_law_large, ↓c_law_brim_law_need, ↓c_law_brim_law_take, u_law_brim_R1, B_law_brim_R1d, eqs_0_0, eqs_0_1, eqs_0_2, eqs_0_3, eqs_1_0, eqs_1_1, eqs_1_2, eqs_1_3, eqs_2_0, eqs_2_1, eqs_2_2, eqs_2_3, eqs_3_0, eqs_3_1, eqs_3_2, eqs_3_3]
  refine spec_take _ hT1 (by decide) (by decide) _ fun x2 M2 x20 x21 hT2 kp2 => ?_
  have k2 := kp1.trans kp2
  have rest : ∀ Q : PV → Sto → Prop, (∀ (z : Int) M', 0 ≤ z → z ≤ 1000000000000000 → Tape M' t c → Kept [t, c] M M' → Q (.int z) M') → pwS (evSs G_law_brim B_law_brim_R1 [some (.loc t), some (.tup (ds.map PV.int)), some (.int (z + x1 - 1))] M2) (fun _ M => Q .non M) Q := by
    intro Q h
    simp only [↓b_cons, ↓b_nil, ↓st_asg, ↓st_setI, ↓st_expr, ↓st_ret, ↓st_retN, ↓st_ife, ↓st_for, ↓st_whl, ↓st_pass, ↓e_nam, ↓e_non, ↓e_bl, ↓e_int, ↓e_str, ↓e_tup, ↓e_lst, ↓e_bin, ↓e_neg, ↓e_nt, ↓e_cmp, ↓e_chn, ↓e_and, ↓e_or, ↓e_ife, ↓e_sub, ↓e_slc, ↓e_slcL, ↓e_slcH, ↓e_blt, ↓e_isi, ↓e_meth, ↓e_meth0, ↓e_lc, ↓l_nil, ↓l_cons, ↓and_nil, ↓and_b, ↓or_nil, ↓or_b, ↓t_nil, ↓t_cons, ↓i_seq, ↓i_rng1, ↓i_rng2, ↓finQ_f, ↓finQ_t, isB_bl, isI_int, isS_some, isS_none, isS_map, pw_add, pw_sub, pw_mul, pw_div, pw_mod, pw_pow, pw_addT, pw_addS, opC_lt, opC_le, opC_gt, opC_ge, opC_eqI, opC_neI, opC_neS, Option.map_some, asg_one, asg_tup, setAll_nil, setAll_cons, len_tup, sum_tup, tuple_tup, list_tup, min_int, max_int, ixt_tup, atI_0, atI_1, atI_2, atI_3, decide_eq_true_eq, Bool.not_eq_true', decide_eq_false_iff_not, List.map_cons, List.map_nil, List.set_cons_zero, List.set_cons_succ, List.getElem?_cons_zero, List.getElem?_cons_succ, List.cons_append, List.nil_append, List.length_cons, List.length_nil, Nat.reduceAdd, Nat.reduceSub, true_and, and_true, if_true, if_false, eq_self, Bool.false_eq_true, Bool.not_true, Bool.not_false, seqW_tup, ty_tt, ty_ss, ty_ii, ty_bi, ty_bb, ty_ib, tr_b, tr_n, ↓pwR_boolB, MulP, DivP, or_true, true_or, Int.reduceLT, Int.reduceLE, Int.reduceNeg, Int.reducePow, Int.reduceToNat, Int.cast_ofNat_Int, Int.natCast_zero, Int.natCast_one, Int.reduceEq, Bool.true_eq_false, not_true_eq_false, not_false_eq_true, ↓c_law_brim_law_large, ↓c_law_brim_law_need, ↓c_law_brim_law_take, u_law_brim_R1, B_law_brim_R1d, eqs_0_0, eqs_0_1, eqs_0_2, eqs_0_3, eqs_1_0, eqs_1_1, eqs_1_2, eqs_1_3, eqs_2_0, eqs_2_1, eqs_2_2, eqs_2_3, eqs_3_0, eqs_3_1, eqs_3_2, eqs_3_3]
    have tl := hT2.lt
    have hT3 : Tape (M2 ++ [.lst [.int 1, .int 20, .int 2000, .int (1000000000000000 + 1)]]) t c := hT2.kept (S := []) Kept.app (by simp) (by simp)
    refine ⟨by unfold LINE; omega, spec_take _ hT3 (by decide) (by decide) _ fun i M4 i0 i1 hT4 kp4 => ?_⟩
    have q4 := kp4.obj (get_new (M := M2)) (by simp; omega)
    have k4 : Kept [t, c] M M4 := k2.trans (Kept.app.trans kp4)
    obtain ⟨z, hz, z0, z1⟩ : ∃ z : Int, atI [PV.int 1, .int 20, .int 2000, .int (1000000000000000 + 1)] i = some (.int z) ∧ 1 ≤ z ∧ z ≤ 1000000000000001 := by
      have : i = 0 ∨ i = 1 ∨ i = 2 ∨ i = 3 := by omega
      rcases this with rfl | rfl | rfl | rfl
      · exact ⟨1, rfl, by omega, by omega⟩
      · exact ⟨20, rfl, by omega, by omega⟩
      · exact ⟨2000, rfl, by omega, by omega⟩
      · exact ⟨1000000000000001, rfl, by omega, by omega⟩
    simp only [↓b_cons, ↓b_nil, ↓st_asg, ↓st_setI, ↓st_expr, ↓st_ret, ↓st_retN, ↓st_ife, ↓st_for, ↓st_whl, ↓st_pass, ↓e_nam, ↓e_non, ↓e_bl, ↓e_int, ↓e_str, ↓e_tup, ↓e_lst, ↓e_bin, ↓e_neg, ↓e_nt, ↓e_cmp, ↓e_chn, ↓e_and, ↓e_or, ↓e_ife, ↓e_sub, ↓e_slc, ↓e_slcL, ↓e_slcH, ↓e_blt, ↓e_isi, ↓e_meth, ↓e_meth0, ↓e_lc, ↓l_nil, ↓l_cons, ↓and_nil, ↓and_b, ↓or_nil, ↓or_b, ↓t_nil, ↓t_cons, ↓i_seq, ↓i_rng1, ↓i_rng2, ↓finQ_f, ↓finQ_t, isB_bl, isI_int, isS_some, isS_none, isS_map, pw_add, pw_sub, pw_mul, pw_div, pw_mod, pw_pow, pw_addT, pw_addS, opC_lt, opC_le, opC_gt, opC_ge, opC_eqI, opC_neI, opC_neS, Option.map_some, asg_one, asg_tup, setAll_nil, setAll_cons, len_tup, sum_tup, tuple_tup, list_tup, min_int, max_int, ixt_tup, atI_0, atI_1, atI_2, atI_3, decide_eq_true_eq, Bool.not_eq_true', decide_eq_false_iff_not, List.map_cons, List.map_nil, List.set_cons_zero, List.set_cons_succ, List.getElem?_cons_zero, List.getElem?_cons_succ, List.cons_append, List.nil_append, List.length_cons, List.length_nil, Nat.reduceAdd, Nat.reduceSub, true_and, and_true, if_true, if_false, eq_self, Bool.false_eq_true, Bool.not_true, Bool.not_false, seqW_tup, ty_tt, ty_ss, ty_ii, ty_bi, ty_bb, ty_ib, tr_b, tr_n, ↓pwR_boolB, MulP, DivP, or_true, true_or, Int.reduceLT, Int.reduceLE, Int.reduceNeg, Int.reducePow, Int.reduceToNat, Int.cast_ofNat_Int, Int.natCast_zero, Int.natCast_one, Int.reduceEq, Bool.true_eq_false, not_true_eq_false, not_false_eq_true, ↓c_law_brim_law_large, ↓c_law_brim_law_need, ↓c_law_brim_law_take, u_law_brim_R1, B_law_brim_R1d, eqs_0_0, eqs_0_1, eqs_0_2, eqs_0_3, eqs_1_0, eqs_1_1, eqs_1_2, eqs_1_3, eqs_2_0, eqs_2_1, eqs_2_2, eqs_2_3, eqs_3_0, eqs_3_1, eqs_3_2, eqs_3_3, ixt_loc q4, hz]
    exact spec_large _ hT4 (by omega) (by omega) _ fun y M5 y0 y1 hT5 kp5 => h _ _ y0 (by omega) hT5 (k4.trans kp5)
  simp only [↓b_cons, ↓b_nil, ↓st_asg, ↓st_setI, ↓st_expr, ↓st_ret, ↓st_retN, ↓st_ife, ↓st_for, ↓st_whl, ↓st_pass, ↓e_nam, ↓e_non, ↓e_bl, ↓e_int, ↓e_str, ↓e_tup, ↓e_lst, ↓e_bin, ↓e_neg, ↓e_nt, ↓e_cmp, ↓e_chn, ↓e_and, ↓e_or, ↓e_ife, ↓e_sub, ↓e_slc, ↓e_slcL, ↓e_slcH, ↓e_blt, ↓e_isi, ↓e_meth, ↓e_meth0, ↓e_lc, ↓l_nil, ↓l_cons, ↓and_nil, ↓and_b, ↓or_nil, ↓or_b, ↓t_nil, ↓t_cons, ↓i_seq, ↓i_rng1, ↓i_rng2, ↓finQ_f, ↓finQ_t, isB_bl, isI_int, isS_some, isS_none, isS_map, pw_add, pw_sub, pw_mul, pw_div, pw_mod, pw_pow, pw_addT, pw_addS, opC_lt, opC_le, opC_gt, opC_ge, opC_eqI, opC_neI, opC_neS, Option.map_some, asg_one, asg_tup, setAll_nil, setAll_cons, len_tup, sum_tup, tuple_tup, list_tup, min_int, max_int, ixt_tup, atI_0, atI_1, atI_2, atI_3, decide_eq_true_eq, Bool.not_eq_true', decide_eq_false_iff_not, List.map_cons, List.map_nil, List.set_cons_zero, List.set_cons_succ, List.getElem?_cons_zero, List.getElem?_cons_succ, List.cons_append, List.nil_append, List.length_cons, List.length_nil, Nat.reduceAdd, Nat.reduceSub, true_and, and_true, if_true, if_false, eq_self, Bool.false_eq_true, Bool.not_true, Bool.not_false, seqW_tup, ty_tt, ty_ss, ty_ii, ty_bi, ty_bb, ty_ib, tr_b, tr_n, ↓pwR_boolB, MulP, DivP, or_true, true_or, Int.reduceLT, Int.reduceLE, Int.reduceNeg, Int.reducePow, Int.reduceToNat, Int.cast_ofNat_Int, Int.natCast_zero, Int.natCast_one, Int.reduceEq, Bool.true_eq_false, not_true_eq_false, not_false_eq_true, ↓c_law_brim_law_large, ↓c_law_brim_law_need, ↓c_law_brim_law_take, eqs_0_0, eqs_0_1, eqs_0_2, eqs_0_3, eqs_1_0, eqs_1_1, eqs_1_2, eqs_1_3, eqs_2_0, eqs_2_1, eqs_2_2, eqs_2_3, eqs_3_0, eqs_3_1, eqs_3_2, eqs_3_3]
  split
  · split
    · split
      · exact h _ _ (by omega) (by omega) hT2 k2
      · exact rest Q h
    · exact rest Q h
  · exact rest Q h

theorem bd_sum : ∀ {ds : List Int}, (∀ x ∈ ds, Bd x) → ds.sum ≤ ds.length * 1000000000000000 ∧ -(ds.length * 1000000000000000 : Int) ≤ ds.sum := by
  intro ds
  induction ds with
  | nil => intro _; simp
  | cons d ds ih =>
    intro h
    have a := ih fun x hx => h x (by simp [hx])
    have c := h d (by simp)
    unfold Bd at c
    rw [List.sum_cons, List.length_cons]
    omega

def Lv (M : Sto) (v : PV) : Prop := ∀ n, v = .loc n → ∃ xs, M[n]? = some (.lst xs)
def isNum : PV → Bool
  | .int _ => true
  | _ => false
def isBoo : PV → Bool
  | .bl _ => true
  | _ => false
def isTxt : PV → Bool
  | .str _ => true
  | _ => false
def isTup : PV → Bool
  | .tup _ => true
  | _ => false
theorem ty_of {M : Sto} {v : PV} (h : Lv M v) : isTy M .int v = some (isNum v || isBoo v) ∧ isTy M .bool v = some (isBoo v) ∧ isTy M .str v = some (isTxt v) ∧ isTy M .tuple v = some (isTup v) := by
  cases v with
  | loc n =>
    obtain ⟨xs, e⟩ := h n rfl
    simp only [isTy, lst_of e, Option.map_some]
    exact ⟨rfl, rfl, rfl, rfl⟩
  | _ => exact ⟨rfl, rfl, rfl, rfl⟩

theorem spec_lnum {M : Sto} {v : PV} (hv : Lv M v) (Q : PV → Sto → Prop) (h : Q (.bl (isNum v)) M) : pwR (R_law_number [v] M) Q := by
  obtain ⟨t1, t2, t3, t4⟩ := ty_of hv
  rw [run_law_number]; unfold B_law_number
  simp only [↓b_cons, ↓b_nil, ↓st_asg, ↓st_setI, ↓st_expr, ↓st_ret, ↓st_retN, ↓st_ife, ↓st_for, ↓st_whl, ↓st_pass, ↓e_nam, ↓e_non, ↓e_bl, ↓e_int, ↓e_str, ↓e_tup, ↓e_lst, ↓e_bin, ↓e_neg, ↓e_nt, ↓e_cmp, ↓e_chn, ↓e_and, ↓e_or, ↓e_ife, ↓e_sub, ↓e_slc, ↓e_slcL, ↓e_slcH, ↓e_blt, ↓e_isi, ↓e_meth, ↓e_meth0, ↓e_lc, ↓l_nil, ↓l_cons, ↓and_nil, ↓and_b, ↓or_nil, ↓or_b, ↓t_nil, ↓t_cons, ↓i_seq, ↓i_rng1, ↓i_rng2, ↓finQ_f, ↓finQ_t, isB_bl, isI_int, isS_some, isS_none, isS_map, pw_add, pw_sub, pw_mul, pw_div, pw_mod, pw_pow, pw_addT, pw_addS, opC_lt, opC_le, opC_gt, opC_ge, opC_eqI, opC_neI, opC_neS, Option.map_some, asg_one, asg_tup, setAll_nil, setAll_cons, len_tup, sum_tup, tuple_tup, list_tup, min_int, max_int, ixt_tup, atI_0, atI_1, atI_2, atI_3, decide_eq_true_eq, Bool.not_eq_true', decide_eq_false_iff_not, List.map_cons, List.map_nil, List.set_cons_zero, List.set_cons_succ, List.getElem?_cons_zero, List.getElem?_cons_succ, List.cons_append, List.nil_append, List.length_cons, List.length_nil, Nat.reduceAdd, Nat.reduceSub, true_and, and_true, if_true, if_false, eq_self, Bool.false_eq_true, Bool.not_true, Bool.not_false, seqW_tup, ty_tt, ty_ss, ty_ii, ty_bi, ty_bb, ty_ib, tr_b, tr_n, ↓pwR_boolB, MulP, DivP, or_true, true_or, Int.reduceLT, Int.reduceLE, Int.reduceNeg, Int.reducePow, Int.reduceToNat, Int.cast_ofNat_Int, Int.natCast_zero, Int.natCast_one, Int.reduceEq, Bool.true_eq_false, not_true_eq_false, not_false_eq_true, eqs_0_0, eqs_0_1, eqs_0_2, eqs_0_3, eqs_1_0, eqs_1_1, eqs_1_2, eqs_1_3, eqs_2_0, eqs_2_1, eqs_2_2, eqs_2_3, eqs_3_0, eqs_3_1, eqs_3_2, eqs_3_3, t1, t2]
  cases v <;> exact h
theorem spec_inum {M : Sto} {v : PV} (hv : Lv M v) (Q : PV → Sto → Prop) (h : Q (.bl (isNum v)) M) : pwR (R_is_number [v] M) Q := by
  obtain ⟨t1, t2, t3, t4⟩ := ty_of hv
  rw [run_is_number]; unfold B_is_number
  simp only [↓b_cons, ↓b_nil, ↓st_asg, ↓st_setI, ↓st_expr, ↓st_ret, ↓st_retN, ↓st_ife, ↓st_for, ↓st_whl, ↓st_pass, ↓e_nam, ↓e_non, ↓e_bl, ↓e_int, ↓e_str, ↓e_tup, ↓e_lst, ↓e_bin, ↓e_neg, ↓e_nt, ↓e_cmp, ↓e_chn, ↓e_and, ↓e_or, ↓e_ife, ↓e_sub, ↓e_slc, ↓e_slcL, ↓e_slcH, ↓e_blt, ↓e_isi, ↓e_meth, ↓e_meth0, ↓e_lc, ↓l_nil, ↓l_cons, ↓and_nil, ↓and_b, ↓or_nil, ↓or_b, ↓t_nil, ↓t_cons, ↓i_seq, ↓i_rng1, ↓i_rng2, ↓finQ_f, ↓finQ_t, isB_bl, isI_int, isS_some, isS_none, isS_map, pw_add, pw_sub, pw_mul, pw_div, pw_mod, pw_pow, pw_addT, pw_addS, opC_lt, opC_le, opC_gt, opC_ge, opC_eqI, opC_neI, opC_neS, Option.map_some, asg_one, asg_tup, setAll_nil, setAll_cons, len_tup, sum_tup, tuple_tup, list_tup, min_int, max_int, ixt_tup, atI_0, atI_1, atI_2, atI_3, decide_eq_true_eq, Bool.not_eq_true', decide_eq_false_iff_not, List.map_cons, List.map_nil, List.set_cons_zero, List.set_cons_succ, List.getElem?_cons_zero, List.getElem?_cons_succ, List.cons_append, List.nil_append, List.length_cons, List.length_nil, Nat.reduceAdd, Nat.reduceSub, true_and, and_true, if_true, if_false, eq_self, Bool.false_eq_true, Bool.not_true, Bool.not_false, seqW_tup, ty_tt, ty_ss, ty_ii, ty_bi, ty_bb, ty_ib, tr_b, tr_n, ↓pwR_boolB, MulP, DivP, or_true, true_or, Int.reduceLT, Int.reduceLE, Int.reduceNeg, Int.reducePow, Int.reduceToNat, Int.cast_ofNat_Int, Int.natCast_zero, Int.natCast_one, Int.reduceEq, Bool.true_eq_false, not_true_eq_false, not_false_eq_true, eqs_0_0, eqs_0_1, eqs_0_2, eqs_0_3, eqs_1_0, eqs_1_1, eqs_1_2, eqs_1_3, eqs_2_0, eqs_2_1, eqs_2_2, eqs_2_3, eqs_3_0, eqs_3_1, eqs_3_2, eqs_3_3, t1, t2]
  cases v <;> exact h
/-- whether a stretch is dry, whatever is shown -/
def dry2 (ds : List Int) (b : Int) : PV → PV → Bool
  | .int f, .int m => decide (0 ≤ f ∧ f < ds.length ∧ 1 ≤ m ∧ sg ds f m + b < 0)
  | _, _ => false
theorem dry2_l {ds : List Int} {b : Int} {x y : PV} (h : isNum x = false) : dry2 ds b x y = false := by cases x <;> simp [isNum] at h <;> rfl
theorem dry2_r {ds : List Int} {b : Int} {x y : PV} (h : isNum y = false) : dry2 ds b x y = false := by cases x <;> cases y <;> simp [isNum] at h <;> rfl
theorem num_int {x : PV} (h : isNum x = true) : ∃ i, x = .int i := by cases x <;> simp [isNum] at h; exact ⟨_, rfl⟩
theorem spec_driesA {M : Sto} {ds : List Int} (hd : 0 < ds.length) (hl : ds.length ≤ 60) (hb : ∀ x ∈ ds, Bd x) (b : Int) (x y : PV) (hx : Lv M x) (hy : Lv M y) (Q : PV → Sto → Prop)
    (h : Q (.bl (dry2 ds b x y)) M) : pwR (R_law_dries [.int b, .tup (ds.map PV.int), x, y] M) Q := by
  have sb := bd_sum hb
  rw [run_law_dries]; unfold B_law_dries
  simp only [↓b_cons, ↓b_nil, ↓st_asg, ↓st_setI, ↓st_expr, ↓st_ret, ↓st_retN, ↓st_ife, ↓st_for, ↓st_whl, ↓st_pass, ↓e_nam, ↓e_non, ↓e_bl, ↓e_int, ↓e_str, ↓e_tup, ↓e_lst, ↓e_bin, ↓e_neg, ↓e_nt, ↓e_cmp, ↓e_chn, ↓e_and, ↓e_or, ↓e_ife, ↓e_sub, ↓e_slc, ↓e_slcL, ↓e_slcH, ↓e_blt, ↓e_isi, ↓e_meth, ↓e_meth0, ↓e_lc, ↓l_nil, ↓l_cons, ↓and_nil, ↓and_b, ↓or_nil, ↓or_b, ↓t_nil, ↓t_cons, ↓i_seq, ↓i_rng1, ↓i_rng2, ↓finQ_f, ↓finQ_t, isB_bl, isI_int, isS_some, isS_none, isS_map, pw_add, pw_sub, pw_mul, pw_div, pw_mod, pw_pow, pw_addT, pw_addS, opC_lt, opC_le, opC_gt, opC_ge, opC_eqI, opC_neI, opC_neS, Option.map_some, asg_one, asg_tup, setAll_nil, setAll_cons, len_tup, sum_tup, tuple_tup, list_tup, min_int, max_int, ixt_tup, atI_0, atI_1, atI_2, atI_3, decide_eq_true_eq, Bool.not_eq_true', decide_eq_false_iff_not, List.map_cons, List.map_nil, List.set_cons_zero, List.set_cons_succ, List.getElem?_cons_zero, List.getElem?_cons_succ, List.cons_append, List.nil_append, List.length_cons, List.length_nil, Nat.reduceAdd, Nat.reduceSub, true_and, and_true, if_true, if_false, eq_self, Bool.false_eq_true, Bool.not_true, Bool.not_false, seqW_tup, ty_tt, ty_ss, ty_ii, ty_bi, ty_bb, ty_ib, tr_b, tr_n, ↓pwR_boolB, MulP, DivP, or_true, true_or, Int.reduceLT, Int.reduceLE, Int.reduceNeg, Int.reducePow, Int.reduceToNat, Int.cast_ofNat_Int, Int.natCast_zero, Int.natCast_one, Int.reduceEq, Bool.true_eq_false, not_true_eq_false, not_false_eq_true, ↓c_law_dries_law_number, eqs_0_0, eqs_0_1, eqs_0_2, eqs_0_3, eqs_1_0, eqs_1_1, eqs_1_2, eqs_1_3, eqs_2_0, eqs_2_1, eqs_2_2, eqs_2_3, eqs_3_0, eqs_3_1, eqs_3_2, eqs_3_3]
  refine spec_lnum hx _ ?_
  simp only [↓b_cons, ↓b_nil, ↓st_asg, ↓st_setI, ↓st_expr, ↓st_ret, ↓st_retN, ↓st_ife, ↓st_for, ↓st_whl, ↓st_pass, ↓e_nam, ↓e_non, ↓e_bl, ↓e_int, ↓e_str, ↓e_tup, ↓e_lst, ↓e_bin, ↓e_neg, ↓e_nt, ↓e_cmp, ↓e_chn, ↓e_and, ↓e_or, ↓e_ife, ↓e_sub, ↓e_slc, ↓e_slcL, ↓e_slcH, ↓e_blt, ↓e_isi, ↓e_meth, ↓e_meth0, ↓e_lc, ↓l_nil, ↓l_cons, ↓and_nil, ↓and_b, ↓or_nil, ↓or_b, ↓t_nil, ↓t_cons, ↓i_seq, ↓i_rng1, ↓i_rng2, ↓finQ_f, ↓finQ_t, isB_bl, isI_int, isS_some, isS_none, isS_map, pw_add, pw_sub, pw_mul, pw_div, pw_mod, pw_pow, pw_addT, pw_addS, opC_lt, opC_le, opC_gt, opC_ge, opC_eqI, opC_neI, opC_neS, Option.map_some, asg_one, asg_tup, setAll_nil, setAll_cons, len_tup, sum_tup, tuple_tup, list_tup, min_int, max_int, ixt_tup, atI_0, atI_1, atI_2, atI_3, decide_eq_true_eq, Bool.not_eq_true', decide_eq_false_iff_not, List.map_cons, List.map_nil, List.set_cons_zero, List.set_cons_succ, List.getElem?_cons_zero, List.getElem?_cons_succ, List.cons_append, List.nil_append, List.length_cons, List.length_nil, Nat.reduceAdd, Nat.reduceSub, true_and, and_true, if_true, if_false, eq_self, Bool.false_eq_true, Bool.not_true, Bool.not_false, seqW_tup, ty_tt, ty_ss, ty_ii, ty_bi, ty_bb, ty_ib, tr_b, tr_n, ↓pwR_boolB, MulP, DivP, or_true, true_or, Int.reduceLT, Int.reduceLE, Int.reduceNeg, Int.reducePow, Int.reduceToNat, Int.cast_ofNat_Int, Int.natCast_zero, Int.natCast_one, Int.reduceEq, Bool.true_eq_false, not_true_eq_false, not_false_eq_true, ↓c_law_dries_law_number, eqs_0_0, eqs_0_1, eqs_0_2, eqs_0_3, eqs_1_0, eqs_1_1, eqs_1_2, eqs_1_3, eqs_2_0, eqs_2_1, eqs_2_2, eqs_2_3, eqs_3_0, eqs_3_1, eqs_3_2, eqs_3_3]
  cases ex : isNum x
  · rw [dry2_l ex] at h
    try simp only [↓b_cons, ↓b_nil, ↓st_asg, ↓st_setI, ↓st_expr, ↓st_ret, ↓st_retN, ↓st_ife, ↓st_for, ↓st_whl, ↓st_pass, ↓e_nam, ↓e_non, ↓e_bl, ↓e_int, ↓e_str, ↓e_tup, ↓e_lst, ↓e_bin, ↓e_neg, ↓e_nt, ↓e_cmp, ↓e_chn, ↓e_and, ↓e_or, ↓e_ife, ↓e_sub, ↓e_slc, ↓e_slcL, ↓e_slcH, ↓e_blt, ↓e_isi, ↓e_meth, ↓e_meth0, ↓e_lc, ↓l_nil, ↓l_cons, ↓and_nil, ↓and_b, ↓or_nil, ↓or_b, ↓t_nil, ↓t_cons, ↓i_seq, ↓i_rng1, ↓i_rng2, ↓finQ_f, ↓finQ_t, isB_bl, isI_int, isS_some, isS_none, isS_map, pw_add, pw_sub, pw_mul, pw_div, pw_mod, pw_pow, pw_addT, pw_addS, opC_lt, opC_le, opC_gt, opC_ge, opC_eqI, opC_neI, opC_neS, Option.map_some, asg_one, asg_tup, setAll_nil, setAll_cons, len_tup, sum_tup, tuple_tup, list_tup, min_int, max_int, ixt_tup, atI_0, atI_1, atI_2, atI_3, decide_eq_true_eq, Bool.not_eq_true', decide_eq_false_iff_not, List.map_cons, List.map_nil, List.set_cons_zero, List.set_cons_succ, List.getElem?_cons_zero, List.getElem?_cons_succ, List.cons_append, List.nil_append, List.length_cons, List.length_nil, Nat.reduceAdd, Nat.reduceSub, true_and, and_true, if_true, if_false, eq_self, Bool.false_eq_true, Bool.not_true, Bool.not_false, seqW_tup, ty_tt, ty_ss, ty_ii, ty_bi, ty_bb, ty_ib, tr_b, tr_n, ↓pwR_boolB, MulP, DivP, or_true, true_or, Int.reduceLT, Int.reduceLE, Int.reduceNeg, Int.reducePow, Int.reduceToNat, Int.cast_ofNat_Int, Int.natCast_zero, Int.natCast_one, Int.reduceEq, Bool.true_eq_false, not_true_eq_false, not_false_eq_true, ↓c_law_dries_law_number, eqs_0_0, eqs_0_1, eqs_0_2, eqs_0_3, eqs_1_0, eqs_1_1, eqs_1_2, eqs_1_3, eqs_2_0, eqs_2_1, eqs_2_2, eqs_2_3, eqs_3_0, eqs_3_1, eqs_3_2, eqs_3_3]
    exact h
  · try simp only [↓b_cons, ↓b_nil, ↓st_asg, ↓st_setI, ↓st_expr, ↓st_ret, ↓st_retN, ↓st_ife, ↓st_for, ↓st_whl, ↓st_pass, ↓e_nam, ↓e_non, ↓e_bl, ↓e_int, ↓e_str, ↓e_tup, ↓e_lst, ↓e_bin, ↓e_neg, ↓e_nt, ↓e_cmp, ↓e_chn, ↓e_and, ↓e_or, ↓e_ife, ↓e_sub, ↓e_slc, ↓e_slcL, ↓e_slcH, ↓e_blt, ↓e_isi, ↓e_meth, ↓e_meth0, ↓e_lc, ↓l_nil, ↓l_cons, ↓and_nil, ↓and_b, ↓or_nil, ↓or_b, ↓t_nil, ↓t_cons, ↓i_seq, ↓i_rng1, ↓i_rng2, ↓finQ_f, ↓finQ_t, isB_bl, isI_int, isS_some, isS_none, isS_map, pw_add, pw_sub, pw_mul, pw_div, pw_mod, pw_pow, pw_addT, pw_addS, opC_lt, opC_le, opC_gt, opC_ge, opC_eqI, opC_neI, opC_neS, Option.map_some, asg_one, asg_tup, setAll_nil, setAll_cons, len_tup, sum_tup, tuple_tup, list_tup, min_int, max_int, ixt_tup, atI_0, atI_1, atI_2, atI_3, decide_eq_true_eq, Bool.not_eq_true', decide_eq_false_iff_not, List.map_cons, List.map_nil, List.set_cons_zero, List.set_cons_succ, List.getElem?_cons_zero, List.getElem?_cons_succ, List.cons_append, List.nil_append, List.length_cons, List.length_nil, Nat.reduceAdd, Nat.reduceSub, true_and, and_true, if_true, if_false, eq_self, Bool.false_eq_true, Bool.not_true, Bool.not_false, seqW_tup, ty_tt, ty_ss, ty_ii, ty_bi, ty_bb, ty_ib, tr_b, tr_n, ↓pwR_boolB, MulP, DivP, or_true, true_or, Int.reduceLT, Int.reduceLE, Int.reduceNeg, Int.reducePow, Int.reduceToNat, Int.cast_ofNat_Int, Int.natCast_zero, Int.natCast_one, Int.reduceEq, Bool.true_eq_false, not_true_eq_false, not_false_eq_true, ↓c_law_dries_law_number, eqs_0_0, eqs_0_1, eqs_0_2, eqs_0_3, eqs_1_0, eqs_1_1, eqs_1_2, eqs_1_3, eqs_2_0, eqs_2_1, eqs_2_2, eqs_2_3, eqs_3_0, eqs_3_1, eqs_3_2, eqs_3_3]
    refine spec_lnum hy _ ?_
    simp only [↓b_cons, ↓b_nil, ↓st_asg, ↓st_setI, ↓st_expr, ↓st_ret, ↓st_retN, ↓st_ife, ↓st_for, ↓st_whl, ↓st_pass, ↓e_nam, ↓e_non, ↓e_bl, ↓e_int, ↓e_str, ↓e_tup, ↓e_lst, ↓e_bin, ↓e_neg, ↓e_nt, ↓e_cmp, ↓e_chn, ↓e_and, ↓e_or, ↓e_ife, ↓e_sub, ↓e_slc, ↓e_slcL, ↓e_slcH, ↓e_blt, ↓e_isi, ↓e_meth, ↓e_meth0, ↓e_lc, ↓l_nil, ↓l_cons, ↓and_nil, ↓and_b, ↓or_nil, ↓or_b, ↓t_nil, ↓t_cons, ↓i_seq, ↓i_rng1, ↓i_rng2, ↓finQ_f, ↓finQ_t, isB_bl, isI_int, isS_some, isS_none, isS_map, pw_add, pw_sub, pw_mul, pw_div, pw_mod, pw_pow, pw_addT, pw_addS, opC_lt, opC_le, opC_gt, opC_ge, opC_eqI, opC_neI, opC_neS, Option.map_some, asg_one, asg_tup, setAll_nil, setAll_cons, len_tup, sum_tup, tuple_tup, list_tup, min_int, max_int, ixt_tup, atI_0, atI_1, atI_2, atI_3, decide_eq_true_eq, Bool.not_eq_true', decide_eq_false_iff_not, List.map_cons, List.map_nil, List.set_cons_zero, List.set_cons_succ, List.getElem?_cons_zero, List.getElem?_cons_succ, List.cons_append, List.nil_append, List.length_cons, List.length_nil, Nat.reduceAdd, Nat.reduceSub, true_and, and_true, if_true, if_false, eq_self, Bool.false_eq_true, Bool.not_true, Bool.not_false, seqW_tup, ty_tt, ty_ss, ty_ii, ty_bi, ty_bb, ty_ib, tr_b, tr_n, ↓pwR_boolB, MulP, DivP, or_true, true_or, Int.reduceLT, Int.reduceLE, Int.reduceNeg, Int.reducePow, Int.reduceToNat, Int.cast_ofNat_Int, Int.natCast_zero, Int.natCast_one, Int.reduceEq, Bool.true_eq_false, not_true_eq_false, not_false_eq_true, ↓c_law_dries_law_number, eqs_0_0, eqs_0_1, eqs_0_2, eqs_0_3, eqs_1_0, eqs_1_1, eqs_1_2, eqs_1_3, eqs_2_0, eqs_2_1, eqs_2_2, eqs_2_3, eqs_3_0, eqs_3_1, eqs_3_2, eqs_3_3]
    cases ey : isNum y
    · rw [dry2_r ey] at h
      simp only [↓b_cons, ↓b_nil, ↓st_asg, ↓st_setI, ↓st_expr, ↓st_ret, ↓st_retN, ↓st_ife, ↓st_for, ↓st_whl, ↓st_pass, ↓e_nam, ↓e_non, ↓e_bl, ↓e_int, ↓e_str, ↓e_tup, ↓e_lst, ↓e_bin, ↓e_neg, ↓e_nt, ↓e_cmp, ↓e_chn, ↓e_and, ↓e_or, ↓e_ife, ↓e_sub, ↓e_slc, ↓e_slcL, ↓e_slcH, ↓e_blt, ↓e_isi, ↓e_meth, ↓e_meth0, ↓e_lc, ↓l_nil, ↓l_cons, ↓and_nil, ↓and_b, ↓or_nil, ↓or_b, ↓t_nil, ↓t_cons, ↓i_seq, ↓i_rng1, ↓i_rng2, ↓finQ_f, ↓finQ_t, isB_bl, isI_int, isS_some, isS_none, isS_map, pw_add, pw_sub, pw_mul, pw_div, pw_mod, pw_pow, pw_addT, pw_addS, opC_lt, opC_le, opC_gt, opC_ge, opC_eqI, opC_neI, opC_neS, Option.map_some, asg_one, asg_tup, setAll_nil, setAll_cons, len_tup, sum_tup, tuple_tup, list_tup, min_int, max_int, ixt_tup, atI_0, atI_1, atI_2, atI_3, decide_eq_true_eq, Bool.not_eq_true', decide_eq_false_iff_not, List.map_cons, List.map_nil, List.set_cons_zero, List.set_cons_succ, List.getElem?_cons_zero, List.getElem?_cons_succ, List.cons_append, List.nil_append, List.length_cons, List.length_nil, Nat.reduceAdd, Nat.reduceSub, true_and, and_true, if_true, if_false, eq_self, Bool.false_eq_true, Bool.not_true, Bool.not_false, seqW_tup, ty_tt, ty_ss, ty_ii, ty_bi, ty_bb, ty_ib, tr_b, tr_n, ↓pwR_boolB, MulP, DivP, or_true, true_or, Int.reduceLT, Int.reduceLE, Int.reduceNeg, Int.reducePow, Int.reduceToNat, Int.cast_ofNat_Int, Int.natCast_zero, Int.natCast_one, Int.reduceEq, Bool.true_eq_false, not_true_eq_false, not_false_eq_true, ↓c_law_dries_law_number, eqs_0_0, eqs_0_1, eqs_0_2, eqs_0_3, eqs_1_0, eqs_1_1, eqs_1_2, eqs_1_3, eqs_2_0, eqs_2_1, eqs_2_2, eqs_2_3, eqs_3_0, eqs_3_1, eqs_3_2, eqs_3_3]
      exact h
    · obtain ⟨f, rfl⟩ := num_int ex
      obtain ⟨m, rfl⟩ := num_int ey
      have h : Q (.bl (decide (0 ≤ f ∧ f < ds.length ∧ 1 ≤ m ∧ sg ds f m + b < 0))) M := h
      have no : ¬ (0 ≤ f ∧ f < ds.length ∧ 1 ≤ m ∧ sg ds f m + b < 0) → Q (.bl false) M := fun n => by
        rw [show decide (0 ≤ f ∧ f < ds.length ∧ 1 ≤ m ∧ sg ds f m + b < 0) = false from by simp only [decide_eq_false_iff_not]; exact n] at h
        exact h
      simp only [↓b_cons, ↓b_nil, ↓st_asg, ↓st_setI, ↓st_expr, ↓st_ret, ↓st_retN, ↓st_ife, ↓st_for, ↓st_whl, ↓st_pass, ↓e_nam, ↓e_non, ↓e_bl, ↓e_int, ↓e_str, ↓e_tup, ↓e_lst, ↓e_bin, ↓e_neg, ↓e_nt, ↓e_cmp, ↓e_chn, ↓e_and, ↓e_or, ↓e_ife, ↓e_sub, ↓e_slc, ↓e_slcL, ↓e_slcH, ↓e_blt, ↓e_isi, ↓e_meth, ↓e_meth0, ↓e_lc, ↓l_nil, ↓l_cons, ↓and_nil, ↓and_b, ↓or_nil, ↓or_b, ↓t_nil, ↓t_cons, ↓i_seq, ↓i_rng1, ↓i_rng2, ↓finQ_f, ↓finQ_t, isB_bl, isI_int, isS_some, isS_none, isS_map, pw_add, pw_sub, pw_mul, pw_div, pw_mod, pw_pow, pw_addT, pw_addS, opC_lt, opC_le, opC_gt, opC_ge, opC_eqI, opC_neI, opC_neS, Option.map_some, asg_one, asg_tup, setAll_nil, setAll_cons, len_tup, sum_tup, tuple_tup, list_tup, min_int, max_int, ixt_tup, atI_0, atI_1, atI_2, atI_3, decide_eq_true_eq, Bool.not_eq_true', decide_eq_false_iff_not, List.map_cons, List.map_nil, List.set_cons_zero, List.set_cons_succ, List.getElem?_cons_zero, List.getElem?_cons_succ, List.cons_append, List.nil_append, List.length_cons, List.length_nil, Nat.reduceAdd, Nat.reduceSub, true_and, and_true, if_true, if_false, eq_self, Bool.false_eq_true, Bool.not_true, Bool.not_false, seqW_tup, ty_tt, ty_ss, ty_ii, ty_bi, ty_bb, ty_ib, tr_b, tr_n, ↓pwR_boolB, MulP, DivP, or_true, true_or, Int.reduceLT, Int.reduceLE, Int.reduceNeg, Int.reducePow, Int.reduceToNat, Int.cast_ofNat_Int, Int.natCast_zero, Int.natCast_one, Int.reduceEq, Bool.true_eq_false, not_true_eq_false, not_false_eq_true, ↓c_law_dries_law_number, eqs_0_0, eqs_0_1, eqs_0_2, eqs_0_3, eqs_1_0, eqs_1_1, eqs_1_2, eqs_1_3, eqs_2_0, eqs_2_1, eqs_2_2, eqs_2_3, eqs_3_0, eqs_3_1, eqs_3_2, eqs_3_3, List.length_map, u_law_dries_R2, B_law_dries_R2d]
      split
      · exact no (by omega)
      · split
        · exact no (by omega)
        · split
          · exact no (by omega)
          · obtain ⟨f, rfl⟩ : ∃ g : Nat, f = (g : Int) := ⟨f.toNat, by omega⟩
            simp only [↓b_cons, ↓b_nil, ↓st_asg, ↓st_setI, ↓st_expr, ↓st_ret, ↓st_retN, ↓st_ife, ↓st_for, ↓st_whl, ↓st_pass, ↓e_nam, ↓e_non, ↓e_bl, ↓e_int, ↓e_str, ↓e_tup, ↓e_lst, ↓e_bin, ↓e_neg, ↓e_nt, ↓e_cmp, ↓e_chn, ↓e_and, ↓e_or, ↓e_ife, ↓e_sub, ↓e_slc, ↓e_slcL, ↓e_slcH, ↓e_blt, ↓e_isi, ↓e_meth, ↓e_meth0, ↓e_lc, ↓l_nil, ↓l_cons, ↓and_nil, ↓and_b, ↓or_nil, ↓or_b, ↓t_nil, ↓t_cons, ↓i_seq, ↓i_rng1, ↓i_rng2, ↓finQ_f, ↓finQ_t, isB_bl, isI_int, isS_some, isS_none, isS_map, pw_add, pw_sub, pw_mul, pw_div, pw_mod, pw_pow, pw_addT, pw_addS, opC_lt, opC_le, opC_gt, opC_ge, opC_eqI, opC_neI, opC_neS, Option.map_some, asg_one, asg_tup, setAll_nil, setAll_cons, len_tup, sum_tup, tuple_tup, list_tup, min_int, max_int, ixt_tup, atI_0, atI_1, atI_2, atI_3, decide_eq_true_eq, Bool.not_eq_true', decide_eq_false_iff_not, List.map_cons, List.map_nil, List.set_cons_zero, List.set_cons_succ, List.getElem?_cons_zero, List.getElem?_cons_succ, List.cons_append, List.nil_append, List.length_cons, List.length_nil, Nat.reduceAdd, Nat.reduceSub, true_and, and_true, if_true, if_false, eq_self, Bool.false_eq_true, Bool.not_true, Bool.not_false, seqW_tup, ty_tt, ty_ss, ty_ii, ty_bi, ty_bb, ty_ib, tr_b, tr_n, ↓pwR_boolB, MulP, DivP, or_true, true_or, Int.reduceLT, Int.reduceLE, Int.reduceNeg, Int.reducePow, Int.reduceToNat, Int.cast_ofNat_Int, Int.natCast_zero, Int.natCast_one, Int.reduceEq, Bool.true_eq_false, not_true_eq_false, not_false_eq_true, ↓c_law_dries_law_number, u_law_dries_R1, B_law_dries_R1d, u_law_dries_R2, B_law_dries_R2d, eqs_0_0, eqs_0_1, eqs_0_2, eqs_0_3, eqs_1_0, eqs_1_1, eqs_1_2, eqs_1_3, eqs_2_0, eqs_2_1, eqs_2_2, eqs_2_3, eqs_3_0, eqs_3_1, eqs_3_2, eqs_3_3, List.length_map]
            have m0 := Int.emod_nonneg m (b := (ds.length : Int)) (by omega)
            have m1 := Int.emod_lt_of_pos m (b := (ds.length : Int)) (by omega)
            refine ⟨by omega, by omega, by omega, by simp [small62]; omega, pw_forR (fun i T k => ∃ (a : Option PV), T = [some (.int b), some (.tup (ds.map PV.int)), some (.int f), some (.int m), some (.int (m / ds.length * ds.sum + ps ds i f)), a] ∧ k = M) ⟨none, by simp [ps], rfl⟩ ?_ ?_⟩
            · rintro i T k hi ⟨a, rfl, rfl⟩
              unfold B_law_dries_1
              rw [Int.zero_add]
              have e := ps_succ (ds := ds) i f
              simp only [↓b_cons, ↓b_nil, ↓st_asg, ↓st_setI, ↓st_expr, ↓st_ret, ↓st_retN, ↓st_ife, ↓st_for, ↓st_whl, ↓st_pass, ↓e_nam, ↓e_non, ↓e_bl, ↓e_int, ↓e_str, ↓e_tup, ↓e_lst, ↓e_bin, ↓e_neg, ↓e_nt, ↓e_cmp, ↓e_chn, ↓e_and, ↓e_or, ↓e_ife, ↓e_sub, ↓e_slc, ↓e_slcL, ↓e_slcH, ↓e_blt, ↓e_isi, ↓e_meth, ↓e_meth0, ↓e_lc, ↓l_nil, ↓l_cons, ↓and_nil, ↓and_b, ↓or_nil, ↓or_b, ↓t_nil, ↓t_cons, ↓i_seq, ↓i_rng1, ↓i_rng2, ↓finQ_f, ↓finQ_t, isB_bl, isI_int, isS_some, isS_none, isS_map, pw_add, pw_sub, pw_mul, pw_div, pw_mod, pw_pow, pw_addT, pw_addS, opC_lt, opC_le, opC_gt, opC_ge, opC_eqI, opC_neI, opC_neS, Option.map_some, asg_one, asg_tup, setAll_nil, setAll_cons, len_tup, sum_tup, tuple_tup, list_tup, min_int, max_int, ixt_tup, atI_0, atI_1, atI_2, atI_3, decide_eq_true_eq, Bool.not_eq_true', decide_eq_false_iff_not, List.map_cons, List.map_nil, List.set_cons_zero, List.set_cons_succ, List.getElem?_cons_zero, List.getElem?_cons_succ, List.cons_append, List.nil_append, List.length_cons, List.length_nil, Nat.reduceAdd, Nat.reduceSub, true_and, and_true, if_true, if_false, eq_self, Bool.false_eq_true, Bool.not_true, Bool.not_false, seqW_tup, ty_tt, ty_ss, ty_ii, ty_bi, ty_bb, ty_ib, tr_b, tr_n, ↓pwR_boolB, MulP, DivP, or_true, true_or, Int.reduceLT, Int.reduceLE, Int.reduceNeg, Int.reducePow, Int.reduceToNat, Int.cast_ofNat_Int, Int.natCast_zero, Int.natCast_one, Int.reduceEq, Bool.true_eq_false, not_true_eq_false, not_false_eq_true, ↓c_law_dries_law_number, u_law_dries_R1, B_law_dries_R1d, u_law_dries_R2, B_law_dries_R2d, eqs_0_0, eqs_0_1, eqs_0_2, eqs_0_3, eqs_1_0, eqs_1_1, eqs_1_2, eqs_1_3, eqs_2_0, eqs_2_1, eqs_2_2, eqs_2_3, eqs_3_0, eqs_3_1, eqs_3_2, eqs_3_3, List.length_map]
              rw [← Int.natCast_add]
              simp only [↓b_cons, ↓b_nil, ↓st_asg, ↓st_setI, ↓st_expr, ↓st_ret, ↓st_retN, ↓st_ife, ↓st_for, ↓st_whl, ↓st_pass, ↓e_nam, ↓e_non, ↓e_bl, ↓e_int, ↓e_str, ↓e_tup, ↓e_lst, ↓e_bin, ↓e_neg, ↓e_nt, ↓e_cmp, ↓e_chn, ↓e_and, ↓e_or, ↓e_ife, ↓e_sub, ↓e_slc, ↓e_slcL, ↓e_slcH, ↓e_blt, ↓e_isi, ↓e_meth, ↓e_meth0, ↓e_lc, ↓l_nil, ↓l_cons, ↓and_nil, ↓and_b, ↓or_nil, ↓or_b, ↓t_nil, ↓t_cons, ↓i_seq, ↓i_rng1, ↓i_rng2, ↓finQ_f, ↓finQ_t, isB_bl, isI_int, isS_some, isS_none, isS_map, pw_add, pw_sub, pw_mul, pw_div, pw_mod, pw_pow, pw_addT, pw_addS, opC_lt, opC_le, opC_gt, opC_ge, opC_eqI, opC_neI, opC_neS, Option.map_some, asg_one, asg_tup, setAll_nil, setAll_cons, len_tup, sum_tup, tuple_tup, list_tup, min_int, max_int, ixt_tup, atI_0, atI_1, atI_2, atI_3, decide_eq_true_eq, Bool.not_eq_true', decide_eq_false_iff_not, List.map_cons, List.map_nil, List.set_cons_zero, List.set_cons_succ, List.getElem?_cons_zero, List.getElem?_cons_succ, List.cons_append, List.nil_append, List.length_cons, List.length_nil, Nat.reduceAdd, Nat.reduceSub, true_and, and_true, if_true, if_false, eq_self, Bool.false_eq_true, Bool.not_true, Bool.not_false, seqW_tup, ty_tt, ty_ss, ty_ii, ty_bi, ty_bb, ty_ib, tr_b, tr_n, ↓pwR_boolB, MulP, DivP, or_true, true_or, Int.reduceLT, Int.reduceLE, Int.reduceNeg, Int.reducePow, Int.reduceToNat, Int.cast_ofNat_Int, Int.natCast_zero, Int.natCast_one, Int.reduceEq, Bool.true_eq_false, not_true_eq_false, not_false_eq_true, ↓c_law_dries_law_number, u_law_dries_R1, B_law_dries_R1d, u_law_dries_R2, B_law_dries_R2d, eqs_0_0, eqs_0_1, eqs_0_2, eqs_0_3, eqs_1_0, eqs_1_1, eqs_1_2, eqs_1_3, eqs_2_0, eqs_2_1, eqs_2_2, eqs_2_3, eqs_3_0, eqs_3_1, eqs_3_2, eqs_3_3, List.length_map, atI_dy hd]
              exact ⟨by omega, _, by rw [e, Int.add_assoc]⟩
            · rintro T k ⟨a, rfl, rfl⟩
              simp only [↓b_cons, ↓b_nil, ↓st_asg, ↓st_setI, ↓st_expr, ↓st_ret, ↓st_retN, ↓st_ife, ↓st_for, ↓st_whl, ↓st_pass, ↓e_nam, ↓e_non, ↓e_bl, ↓e_int, ↓e_str, ↓e_tup, ↓e_lst, ↓e_bin, ↓e_neg, ↓e_nt, ↓e_cmp, ↓e_chn, ↓e_and, ↓e_or, ↓e_ife, ↓e_sub, ↓e_slc, ↓e_slcL, ↓e_slcH, ↓e_blt, ↓e_isi, ↓e_meth, ↓e_meth0, ↓e_lc, ↓l_nil, ↓l_cons, ↓and_nil, ↓and_b, ↓or_nil, ↓or_b, ↓t_nil, ↓t_cons, ↓i_seq, ↓i_rng1, ↓i_rng2, ↓finQ_f, ↓finQ_t, isB_bl, isI_int, isS_some, isS_none, isS_map, pw_add, pw_sub, pw_mul, pw_div, pw_mod, pw_pow, pw_addT, pw_addS, opC_lt, opC_le, opC_gt, opC_ge, opC_eqI, opC_neI, opC_neS, Option.map_some, asg_one, asg_tup, setAll_nil, setAll_cons, len_tup, sum_tup, tuple_tup, list_tup, min_int, max_int, ixt_tup, atI_0, atI_1, atI_2, atI_3, decide_eq_true_eq, Bool.not_eq_true', decide_eq_false_iff_not, List.map_cons, List.map_nil, List.set_cons_zero, List.set_cons_succ, List.getElem?_cons_zero, List.getElem?_cons_succ, List.cons_append, List.nil_append, List.length_cons, List.length_nil, Nat.reduceAdd, Nat.reduceSub, true_and, and_true, if_true, if_false, eq_self, Bool.false_eq_true, Bool.not_true, Bool.not_false, seqW_tup, ty_tt, ty_ss, ty_ii, ty_bi, ty_bb, ty_ib, tr_b, tr_n, ↓pwR_boolB, MulP, DivP, or_true, true_or, Int.reduceLT, Int.reduceLE, Int.reduceNeg, Int.reducePow, Int.reduceToNat, Int.cast_ofNat_Int, Int.natCast_zero, Int.natCast_one, Int.reduceEq, Bool.true_eq_false, not_true_eq_false, not_false_eq_true, ↓c_law_dries_law_number, u_law_dries_R1, B_law_dries_R1d, u_law_dries_R2, B_law_dries_R2d, eqs_0_0, eqs_0_1, eqs_0_2, eqs_0_3, eqs_1_0, eqs_1_1, eqs_1_2, eqs_1_3, eqs_2_0, eqs_2_1, eqs_2_2, eqs_2_3, eqs_3_0, eqs_3_1, eqs_3_2, eqs_3_3, List.length_map]
              rw [Int.sub_zero]
              have es : sg ds f m = m / ds.length * ds.sum + ps ds (m % ds.length).toNat f := by unfold sg; rw [Int.toNat_natCast]
              rw [show decide (0 ≤ (f : Int) ∧ (f : Int) < ds.length ∧ 1 ≤ m ∧ sg ds f m + b < 0) = decide (sg ds f m + b < 0) from by congr 1; exact propext ⟨fun q => q.2.2.2, fun q => ⟨by omega, by omega, by omega, q⟩⟩, es] at h
              exact h
theorem spec_ssum {M : Sto} {ds : List Int} (hd : 0 < ds.length) (hl : ds.length ≤ 60) (hb : ∀ x ∈ ds, Bd x) (f : Nat) (m : Int) (Q : PV → Sto → Prop)
    (h : Q (.int (sg ds f m)) M) : pwR (R_stretch_sum [.tup (ds.map PV.int), .int f, .int m] M) Q := by
  have sb := bd_sum hb
  have m0 := Int.emod_nonneg m (b := (ds.length : Int)) (by omega)
  have m1 := Int.emod_lt_of_pos m (b := (ds.length : Int)) (by omega)
  have es : sg ds f m = m / ds.length * ds.sum + ps ds (m % ds.length).toNat f := by unfold sg; rw [Int.toNat_natCast]
  rw [run_stretch_sum]; unfold B_stretch_sum
  simp only [↓b_cons, ↓b_nil, ↓st_asg, ↓st_setI, ↓st_expr, ↓st_ret, ↓st_retN, ↓st_ife, ↓st_for, ↓st_whl, ↓st_pass, ↓e_nam, ↓e_non, ↓e_bl, ↓e_int, ↓e_str, ↓e_tup, ↓e_lst, ↓e_bin, ↓e_neg, ↓e_nt, ↓e_cmp, ↓e_chn, ↓e_and, ↓e_or, ↓e_ife, ↓e_sub, ↓e_slc, ↓e_slcL, ↓e_slcH, ↓e_blt, ↓e_isi, ↓e_meth, ↓e_meth0, ↓e_lc, ↓l_nil, ↓l_cons, ↓and_nil, ↓and_b, ↓or_nil, ↓or_b, ↓t_nil, ↓t_cons, ↓i_seq, ↓i_rng1, ↓i_rng2, ↓finQ_f, ↓finQ_t, isB_bl, isI_int, isS_some, isS_none, isS_map, pw_add, pw_sub, pw_mul, pw_div, pw_mod, pw_pow, pw_addT, pw_addS, opC_lt, opC_le, opC_gt, opC_ge, opC_eqI, opC_neI, opC_neS, Option.map_some, asg_one, asg_tup, setAll_nil, setAll_cons, len_tup, sum_tup, tuple_tup, list_tup, min_int, max_int, ixt_tup, atI_0, atI_1, atI_2, atI_3, decide_eq_true_eq, Bool.not_eq_true', decide_eq_false_iff_not, List.map_cons, List.map_nil, List.set_cons_zero, List.set_cons_succ, List.getElem?_cons_zero, List.getElem?_cons_succ, List.cons_append, List.nil_append, List.length_cons, List.length_nil, Nat.reduceAdd, Nat.reduceSub, true_and, and_true, if_true, if_false, eq_self, Bool.false_eq_true, Bool.not_true, Bool.not_false, seqW_tup, ty_tt, ty_ss, ty_ii, ty_bi, ty_bb, ty_ib, tr_b, tr_n, ↓pwR_boolB, MulP, DivP, or_true, true_or, Int.reduceLT, Int.reduceLE, Int.reduceNeg, Int.reducePow, Int.reduceToNat, Int.cast_ofNat_Int, Int.natCast_zero, Int.natCast_one, Int.reduceEq, Bool.true_eq_false, not_true_eq_false, not_false_eq_true, eqs_0_0, eqs_0_1, eqs_0_2, eqs_0_3, eqs_1_0, eqs_1_1, eqs_1_2, eqs_1_3, eqs_2_0, eqs_2_1, eqs_2_2, eqs_2_3, eqs_3_0, eqs_3_1, eqs_3_2, eqs_3_3, List.length_map]
  refine ⟨by omega, by omega, by omega, by simp [small62]; omega, pw_forR (fun i T k => ∃ (a : Option PV), T = [some (.tup (ds.map PV.int)), some (.int f), some (.int m), some (.int (m / ds.length * ds.sum + ps ds i f)), a] ∧ k = M) ⟨none, by simp [ps], rfl⟩ ?_ ?_⟩
  · rintro i T k hi ⟨a, rfl, rfl⟩
    unfold B_stretch_sum_1
    rw [Int.zero_add]
    have e := ps_succ (ds := ds) i f
    simp only [↓b_cons, ↓b_nil, ↓st_asg, ↓st_setI, ↓st_expr, ↓st_ret, ↓st_retN, ↓st_ife, ↓st_for, ↓st_whl, ↓st_pass, ↓e_nam, ↓e_non, ↓e_bl, ↓e_int, ↓e_str, ↓e_tup, ↓e_lst, ↓e_bin, ↓e_neg, ↓e_nt, ↓e_cmp, ↓e_chn, ↓e_and, ↓e_or, ↓e_ife, ↓e_sub, ↓e_slc, ↓e_slcL, ↓e_slcH, ↓e_blt, ↓e_isi, ↓e_meth, ↓e_meth0, ↓e_lc, ↓l_nil, ↓l_cons, ↓and_nil, ↓and_b, ↓or_nil, ↓or_b, ↓t_nil, ↓t_cons, ↓i_seq, ↓i_rng1, ↓i_rng2, ↓finQ_f, ↓finQ_t, isB_bl, isI_int, isS_some, isS_none, isS_map, pw_add, pw_sub, pw_mul, pw_div, pw_mod, pw_pow, pw_addT, pw_addS, opC_lt, opC_le, opC_gt, opC_ge, opC_eqI, opC_neI, opC_neS, Option.map_some, asg_one, asg_tup, setAll_nil, setAll_cons, len_tup, sum_tup, tuple_tup, list_tup, min_int, max_int, ixt_tup, atI_0, atI_1, atI_2, atI_3, decide_eq_true_eq, Bool.not_eq_true', decide_eq_false_iff_not, List.map_cons, List.map_nil, List.set_cons_zero, List.set_cons_succ, List.getElem?_cons_zero, List.getElem?_cons_succ, List.cons_append, List.nil_append, List.length_cons, List.length_nil, Nat.reduceAdd, Nat.reduceSub, true_and, and_true, if_true, if_false, eq_self, Bool.false_eq_true, Bool.not_true, Bool.not_false, seqW_tup, ty_tt, ty_ss, ty_ii, ty_bi, ty_bb, ty_ib, tr_b, tr_n, ↓pwR_boolB, MulP, DivP, or_true, true_or, Int.reduceLT, Int.reduceLE, Int.reduceNeg, Int.reducePow, Int.reduceToNat, Int.cast_ofNat_Int, Int.natCast_zero, Int.natCast_one, Int.reduceEq, Bool.true_eq_false, not_true_eq_false, not_false_eq_true, eqs_0_0, eqs_0_1, eqs_0_2, eqs_0_3, eqs_1_0, eqs_1_1, eqs_1_2, eqs_1_3, eqs_2_0, eqs_2_1, eqs_2_2, eqs_2_3, eqs_3_0, eqs_3_1, eqs_3_2, eqs_3_3, List.length_map]
    rw [← Int.natCast_add]
    simp only [↓b_cons, ↓b_nil, ↓st_asg, ↓st_setI, ↓st_expr, ↓st_ret, ↓st_retN, ↓st_ife, ↓st_for, ↓st_whl, ↓st_pass, ↓e_nam, ↓e_non, ↓e_bl, ↓e_int, ↓e_str, ↓e_tup, ↓e_lst, ↓e_bin, ↓e_neg, ↓e_nt, ↓e_cmp, ↓e_chn, ↓e_and, ↓e_or, ↓e_ife, ↓e_sub, ↓e_slc, ↓e_slcL, ↓e_slcH, ↓e_blt, ↓e_isi, ↓e_meth, ↓e_meth0, ↓e_lc, ↓l_nil, ↓l_cons, ↓and_nil, ↓and_b, ↓or_nil, ↓or_b, ↓t_nil, ↓t_cons, ↓i_seq, ↓i_rng1, ↓i_rng2, ↓finQ_f, ↓finQ_t, isB_bl, isI_int, isS_some, isS_none, isS_map, pw_add, pw_sub, pw_mul, pw_div, pw_mod, pw_pow, pw_addT, pw_addS, opC_lt, opC_le, opC_gt, opC_ge, opC_eqI, opC_neI, opC_neS, Option.map_some, asg_one, asg_tup, setAll_nil, setAll_cons, len_tup, sum_tup, tuple_tup, list_tup, min_int, max_int, ixt_tup, atI_0, atI_1, atI_2, atI_3, decide_eq_true_eq, Bool.not_eq_true', decide_eq_false_iff_not, List.map_cons, List.map_nil, List.set_cons_zero, List.set_cons_succ, List.getElem?_cons_zero, List.getElem?_cons_succ, List.cons_append, List.nil_append, List.length_cons, List.length_nil, Nat.reduceAdd, Nat.reduceSub, true_and, and_true, if_true, if_false, eq_self, Bool.false_eq_true, Bool.not_true, Bool.not_false, seqW_tup, ty_tt, ty_ss, ty_ii, ty_bi, ty_bb, ty_ib, tr_b, tr_n, ↓pwR_boolB, MulP, DivP, or_true, true_or, Int.reduceLT, Int.reduceLE, Int.reduceNeg, Int.reducePow, Int.reduceToNat, Int.cast_ofNat_Int, Int.natCast_zero, Int.natCast_one, Int.reduceEq, Bool.true_eq_false, not_true_eq_false, not_false_eq_true, eqs_0_0, eqs_0_1, eqs_0_2, eqs_0_3, eqs_1_0, eqs_1_1, eqs_1_2, eqs_1_3, eqs_2_0, eqs_2_1, eqs_2_2, eqs_2_3, eqs_3_0, eqs_3_1, eqs_3_2, eqs_3_3, List.length_map, atI_dy hd]
    exact ⟨by omega, _, by rw [e, Int.add_assoc]⟩
  · rintro T k ⟨a, rfl, rfl⟩
    simp only [↓b_cons, ↓b_nil, ↓st_asg, ↓st_setI, ↓st_expr, ↓st_ret, ↓st_retN, ↓st_ife, ↓st_for, ↓st_whl, ↓st_pass, ↓e_nam, ↓e_non, ↓e_bl, ↓e_int, ↓e_str, ↓e_tup, ↓e_lst, ↓e_bin, ↓e_neg, ↓e_nt, ↓e_cmp, ↓e_chn, ↓e_and, ↓e_or, ↓e_ife, ↓e_sub, ↓e_slc, ↓e_slcL, ↓e_slcH, ↓e_blt, ↓e_isi, ↓e_meth, ↓e_meth0, ↓e_lc, ↓l_nil, ↓l_cons, ↓and_nil, ↓and_b, ↓or_nil, ↓or_b, ↓t_nil, ↓t_cons, ↓i_seq, ↓i_rng1, ↓i_rng2, ↓finQ_f, ↓finQ_t, isB_bl, isI_int, isS_some, isS_none, isS_map, pw_add, pw_sub, pw_mul, pw_div, pw_mod, pw_pow, pw_addT, pw_addS, opC_lt, opC_le, opC_gt, opC_ge, opC_eqI, opC_neI, opC_neS, Option.map_some, asg_one, asg_tup, setAll_nil, setAll_cons, len_tup, sum_tup, tuple_tup, list_tup, min_int, max_int, ixt_tup, atI_0, atI_1, atI_2, atI_3, decide_eq_true_eq, Bool.not_eq_true', decide_eq_false_iff_not, List.map_cons, List.map_nil, List.set_cons_zero, List.set_cons_succ, List.getElem?_cons_zero, List.getElem?_cons_succ, List.cons_append, List.nil_append, List.length_cons, List.length_nil, Nat.reduceAdd, Nat.reduceSub, true_and, and_true, if_true, if_false, eq_self, Bool.false_eq_true, Bool.not_true, Bool.not_false, seqW_tup, ty_tt, ty_ss, ty_ii, ty_bi, ty_bb, ty_ib, tr_b, tr_n, ↓pwR_boolB, MulP, DivP, or_true, true_or, Int.reduceLT, Int.reduceLE, Int.reduceNeg, Int.reducePow, Int.reduceToNat, Int.cast_ofNat_Int, Int.natCast_zero, Int.natCast_one, Int.reduceEq, Bool.true_eq_false, not_true_eq_false, not_false_eq_true, eqs_0_0, eqs_0_1, eqs_0_2, eqs_0_3, eqs_1_0, eqs_1_1, eqs_1_2, eqs_1_3, eqs_2_0, eqs_2_1, eqs_2_2, eqs_2_3, eqs_3_0, eqs_3_1, eqs_3_2, eqs_3_3, List.length_map]
    rw [Int.sub_zero, ← es]
    exact h
/-- what is shown as dry -/
def due3 (ds : List Int) (b : Int) : PV → PV → PV → Bool
  | .str s, x, y => decide (s = (Str.ofString "dries").cps.toList) && dry2 ds b x y
  | _, _, _ => false
def due (ds : List Int) (b : Int) : PV → Bool
  | .tup [x, y, z] => due3 ds b x y z
  | _ => false
/-- a thing that can be looked at -/
def Thing (M : Sto) : PV → Prop
  | .tup [x, y, z] => Lv M x ∧ Lv M y ∧ Lv M z ∧ (∀ s, x = .str s → PyData.strOk ⟨s.toArray⟩ = true)
  | v => Lv M v
theorem thing_lv {M : Sto} {v : PV} (h : Thing M v) : Lv M v := by
  cases v with
  | tup xs => intro n e; cases e
  | _ => exact h
theorem strOk_dries : PyData.strOk ⟨(Str.ofString "dries").cps.toList.toArray⟩ = true := by decide +kernel
theorem spec_shows {M : Sto} {ds : List Int} (hd : 0 < ds.length) (hl : ds.length ≤ 60) (hb : ∀ x ∈ ds, Bd x) (b : Int) (v : PV) (hv : Thing M v) (Q : PV → Sto → Prop)
    (h : Q (.bl (due ds b v)) M) : pwR (R_shows_dry [.int b, .tup (ds.map PV.int), v] M) Q := by
  have t := (ty_of (thing_lv hv)).2.2.2
  rw [run_shows_dry]; unfold B_shows_dry
  cases v with
  | tup xs =>
    match xs, hv with
    | [], _ => simp only [↓b_cons, ↓b_nil, ↓st_asg, ↓st_setI, ↓st_expr, ↓st_ret, ↓st_retN, ↓st_ife, ↓st_for, ↓st_whl, ↓st_pass, ↓e_nam, ↓e_non, ↓e_bl, ↓e_int, ↓e_str, ↓e_tup, ↓e_lst, ↓e_bin, ↓e_neg, ↓e_nt, ↓e_cmp, ↓e_chn, ↓e_and, ↓e_or, ↓e_ife, ↓e_sub, ↓e_slc, ↓e_slcL, ↓e_slcH, ↓e_blt, ↓e_isi, ↓e_meth, ↓e_meth0, ↓e_lc, ↓l_nil, ↓l_cons, ↓and_nil, ↓and_b, ↓or_nil, ↓or_b, ↓t_nil, ↓t_cons, ↓i_seq, ↓i_rng1, ↓i_rng2, ↓finQ_f, ↓finQ_t, isB_bl, isI_int, isS_some, isS_none, isS_map, pw_add, pw_sub, pw_mul, pw_div, pw_mod, pw_pow, pw_addT, pw_addS, opC_lt, opC_le, opC_gt, opC_ge, opC_eqI, opC_neI, opC_neS, Option.map_some, asg_one, asg_tup, setAll_nil, setAll_cons, len_tup, sum_tup, tuple_tup, list_tup, min_int, max_int, ixt_tup, atI_0, atI_1, atI_2, atI_3, decide_eq_true_eq, Bool.not_eq_true', decide_eq_false_iff_not, List.map_cons, List.map_nil, List.set_cons_zero, List.set_cons_succ, List.getElem?_cons_zero, List.getElem?_cons_succ, List.cons_append, List.nil_append, List.length_cons, List.length_nil, Nat.reduceAdd, Nat.reduceSub, true_and, and_true, if_true, if_false, eq_self, Bool.false_eq_true, Bool.not_true, Bool.not_false, seqW_tup, ty_tt, ty_ss, ty_ii, ty_bi, ty_bb, ty_ib, tr_b, tr_n, ↓pwR_boolB, MulP, DivP, or_true, true_or, Int.reduceLT, Int.reduceLE, Int.reduceNeg, Int.reducePow, Int.reduceToNat, Int.cast_ofNat_Int, Int.natCast_zero, Int.natCast_one, Int.reduceEq, Bool.true_eq_false, not_true_eq_false, not_false_eq_true, ↓c_shows_dry_is_number, ↓c_shows_dry_stretch_sum, eqs_0_0, eqs_0_1, eqs_0_2, eqs_0_3, eqs_1_0, eqs_1_1, eqs_1_2, eqs_1_3, eqs_2_0, eqs_2_1, eqs_2_2, eqs_2_3, eqs_3_0, eqs_3_1, eqs_3_2, eqs_3_3]; exact h
    | [_], _ => simp only [↓b_cons, ↓b_nil, ↓st_asg, ↓st_setI, ↓st_expr, ↓st_ret, ↓st_retN, ↓st_ife, ↓st_for, ↓st_whl, ↓st_pass, ↓e_nam, ↓e_non, ↓e_bl, ↓e_int, ↓e_str, ↓e_tup, ↓e_lst, ↓e_bin, ↓e_neg, ↓e_nt, ↓e_cmp, ↓e_chn, ↓e_and, ↓e_or, ↓e_ife, ↓e_sub, ↓e_slc, ↓e_slcL, ↓e_slcH, ↓e_blt, ↓e_isi, ↓e_meth, ↓e_meth0, ↓e_lc, ↓l_nil, ↓l_cons, ↓and_nil, ↓and_b, ↓or_nil, ↓or_b, ↓t_nil, ↓t_cons, ↓i_seq, ↓i_rng1, ↓i_rng2, ↓finQ_f, ↓finQ_t, isB_bl, isI_int, isS_some, isS_none, isS_map, pw_add, pw_sub, pw_mul, pw_div, pw_mod, pw_pow, pw_addT, pw_addS, opC_lt, opC_le, opC_gt, opC_ge, opC_eqI, opC_neI, opC_neS, Option.map_some, asg_one, asg_tup, setAll_nil, setAll_cons, len_tup, sum_tup, tuple_tup, list_tup, min_int, max_int, ixt_tup, atI_0, atI_1, atI_2, atI_3, decide_eq_true_eq, Bool.not_eq_true', decide_eq_false_iff_not, List.map_cons, List.map_nil, List.set_cons_zero, List.set_cons_succ, List.getElem?_cons_zero, List.getElem?_cons_succ, List.cons_append, List.nil_append, List.length_cons, List.length_nil, Nat.reduceAdd, Nat.reduceSub, true_and, and_true, if_true, if_false, eq_self, Bool.false_eq_true, Bool.not_true, Bool.not_false, seqW_tup, ty_tt, ty_ss, ty_ii, ty_bi, ty_bb, ty_ib, tr_b, tr_n, ↓pwR_boolB, MulP, DivP, or_true, true_or, Int.reduceLT, Int.reduceLE, Int.reduceNeg, Int.reducePow, Int.reduceToNat, Int.cast_ofNat_Int, Int.natCast_zero, Int.natCast_one, Int.reduceEq, Bool.true_eq_false, not_true_eq_false, not_false_eq_true, ↓c_shows_dry_is_number, ↓c_shows_dry_stretch_sum, eqs_0_0, eqs_0_1, eqs_0_2, eqs_0_3, eqs_1_0, eqs_1_1, eqs_1_2, eqs_1_3, eqs_2_0, eqs_2_1, eqs_2_2, eqs_2_3, eqs_3_0, eqs_3_1, eqs_3_2, eqs_3_3]; exact h
    | [_, _], _ => simp only [↓b_cons, ↓b_nil, ↓st_asg, ↓st_setI, ↓st_expr, ↓st_ret, ↓st_retN, ↓st_ife, ↓st_for, ↓st_whl, ↓st_pass, ↓e_nam, ↓e_non, ↓e_bl, ↓e_int, ↓e_str, ↓e_tup, ↓e_lst, ↓e_bin, ↓e_neg, ↓e_nt, ↓e_cmp, ↓e_chn, ↓e_and, ↓e_or, ↓e_ife, ↓e_sub, ↓e_slc, ↓e_slcL, ↓e_slcH, ↓e_blt, ↓e_isi, ↓e_meth, ↓e_meth0, ↓e_lc, ↓l_nil, ↓l_cons, ↓and_nil, ↓and_b, ↓or_nil, ↓or_b, ↓t_nil, ↓t_cons, ↓i_seq, ↓i_rng1, ↓i_rng2, ↓finQ_f, ↓finQ_t, isB_bl, isI_int, isS_some, isS_none, isS_map, pw_add, pw_sub, pw_mul, pw_div, pw_mod, pw_pow, pw_addT, pw_addS, opC_lt, opC_le, opC_gt, opC_ge, opC_eqI, opC_neI, opC_neS, Option.map_some, asg_one, asg_tup, setAll_nil, setAll_cons, len_tup, sum_tup, tuple_tup, list_tup, min_int, max_int, ixt_tup, atI_0, atI_1, atI_2, atI_3, decide_eq_true_eq, Bool.not_eq_true', decide_eq_false_iff_not, List.map_cons, List.map_nil, List.set_cons_zero, List.set_cons_succ, List.getElem?_cons_zero, List.getElem?_cons_succ, List.cons_append, List.nil_append, List.length_cons, List.length_nil, Nat.reduceAdd, Nat.reduceSub, true_and, and_true, if_true, if_false, eq_self, Bool.false_eq_true, Bool.not_true, Bool.not_false, seqW_tup, ty_tt, ty_ss, ty_ii, ty_bi, ty_bb, ty_ib, tr_b, tr_n, ↓pwR_boolB, MulP, DivP, or_true, true_or, Int.reduceLT, Int.reduceLE, Int.reduceNeg, Int.reducePow, Int.reduceToNat, Int.cast_ofNat_Int, Int.natCast_zero, Int.natCast_one, Int.reduceEq, Bool.true_eq_false, not_true_eq_false, not_false_eq_true, ↓c_shows_dry_is_number, ↓c_shows_dry_stretch_sum, eqs_0_0, eqs_0_1, eqs_0_2, eqs_0_3, eqs_1_0, eqs_1_1, eqs_1_2, eqs_1_3, eqs_2_0, eqs_2_1, eqs_2_2, eqs_2_3, eqs_3_0, eqs_3_1, eqs_3_2, eqs_3_3]; exact h
    | _ :: _ :: _ :: _ :: r, _ =>
      simp only [↓b_cons, ↓b_nil, ↓st_asg, ↓st_setI, ↓st_expr, ↓st_ret, ↓st_retN, ↓st_ife, ↓st_for, ↓st_whl, ↓st_pass, ↓e_nam, ↓e_non, ↓e_bl, ↓e_int, ↓e_str, ↓e_tup, ↓e_lst, ↓e_bin, ↓e_neg, ↓e_nt, ↓e_cmp, ↓e_chn, ↓e_and, ↓e_or, ↓e_ife, ↓e_sub, ↓e_slc, ↓e_slcL, ↓e_slcH, ↓e_blt, ↓e_isi, ↓e_meth, ↓e_meth0, ↓e_lc, ↓l_nil, ↓l_cons, ↓and_nil, ↓and_b, ↓or_nil, ↓or_b, ↓t_nil, ↓t_cons, ↓i_seq, ↓i_rng1, ↓i_rng2, ↓finQ_f, ↓finQ_t, isB_bl, isI_int, isS_some, isS_none, isS_map, pw_add, pw_sub, pw_mul, pw_div, pw_mod, pw_pow, pw_addT, pw_addS, opC_lt, opC_le, opC_gt, opC_ge, opC_eqI, opC_neI, opC_neS, Option.map_some, asg_one, asg_tup, setAll_nil, setAll_cons, len_tup, sum_tup, tuple_tup, list_tup, min_int, max_int, ixt_tup, atI_0, atI_1, atI_2, atI_3, decide_eq_true_eq, Bool.not_eq_true', decide_eq_false_iff_not, List.map_cons, List.map_nil, List.set_cons_zero, List.set_cons_succ, List.getElem?_cons_zero, List.getElem?_cons_succ, List.cons_append, List.nil_append, List.length_cons, List.length_nil, Nat.reduceAdd, Nat.reduceSub, true_and, and_true, if_true, if_false, eq_self, Bool.false_eq_true, Bool.not_true, Bool.not_false, seqW_tup, ty_tt, ty_ss, ty_ii, ty_bi, ty_bb, ty_ib, tr_b, tr_n, ↓pwR_boolB, MulP, DivP, or_true, true_or, Int.reduceLT, Int.reduceLE, Int.reduceNeg, Int.reducePow, Int.reduceToNat, Int.cast_ofNat_Int, Int.natCast_zero, Int.natCast_one, Int.reduceEq, Bool.true_eq_false, not_true_eq_false, not_false_eq_true, ↓c_shows_dry_is_number, ↓c_shows_dry_stretch_sum, eqs_0_0, eqs_0_1, eqs_0_2, eqs_0_3, eqs_1_0, eqs_1_1, eqs_1_2, eqs_1_3, eqs_2_0, eqs_2_1, eqs_2_2, eqs_2_3, eqs_3_0, eqs_3_1, eqs_3_2, eqs_3_3]
      try rw [if_pos (by omega)]
      exact h
    | [x, y, z], hv =>
      obtain ⟨hx, hy, hz, hs⟩ := hv
      have tx := (ty_of hx).2.2.1
      cases x with
      | str s =>
        simp only [↓b_cons, ↓b_nil, ↓st_asg, ↓st_setI, ↓st_expr, ↓st_ret, ↓st_retN, ↓st_ife, ↓st_for, ↓st_whl, ↓st_pass, ↓e_nam, ↓e_non, ↓e_bl, ↓e_int, ↓e_str, ↓e_tup, ↓e_lst, ↓e_bin, ↓e_neg, ↓e_nt, ↓e_cmp, ↓e_chn, ↓e_and, ↓e_or, ↓e_ife, ↓e_sub, ↓e_slc, ↓e_slcL, ↓e_slcH, ↓e_blt, ↓e_isi, ↓e_meth, ↓e_meth0, ↓e_lc, ↓l_nil, ↓l_cons, ↓and_nil, ↓and_b, ↓or_nil, ↓or_b, ↓t_nil, ↓t_cons, ↓i_seq, ↓i_rng1, ↓i_rng2, ↓finQ_f, ↓finQ_t, isB_bl, isI_int, isS_some, isS_none, isS_map, pw_add, pw_sub, pw_mul, pw_div, pw_mod, pw_pow, pw_addT, pw_addS, opC_lt, opC_le, opC_gt, opC_ge, opC_eqI, opC_neI, opC_neS, Option.map_some, asg_one, asg_tup, setAll_nil, setAll_cons, len_tup, sum_tup, tuple_tup, list_tup, min_int, max_int, ixt_tup, atI_0, atI_1, atI_2, atI_3, decide_eq_true_eq, Bool.not_eq_true', decide_eq_false_iff_not, List.map_cons, List.map_nil, List.set_cons_zero, List.set_cons_succ, List.getElem?_cons_zero, List.getElem?_cons_succ, List.cons_append, List.nil_append, List.length_cons, List.length_nil, Nat.reduceAdd, Nat.reduceSub, true_and, and_true, if_true, if_false, eq_self, Bool.false_eq_true, Bool.not_true, Bool.not_false, seqW_tup, ty_tt, ty_ss, ty_ii, ty_bi, ty_bb, ty_ib, tr_b, tr_n, ↓pwR_boolB, MulP, DivP, or_true, true_or, Int.reduceLT, Int.reduceLE, Int.reduceNeg, Int.reducePow, Int.reduceToNat, Int.cast_ofNat_Int, Int.natCast_zero, Int.natCast_one, Int.reduceEq, Bool.true_eq_false, not_true_eq_false, not_false_eq_true, ↓c_shows_dry_is_number, ↓c_shows_dry_stretch_sum, eqs_0_0, eqs_0_1, eqs_0_2, eqs_0_3, eqs_1_0, eqs_1_1, eqs_1_2, eqs_1_3, eqs_2_0, eqs_2_1, eqs_2_2, eqs_2_3, eqs_3_0, eqs_3_1, eqs_3_2, eqs_3_3, opC_eqS (hs s rfl) strOk_dries]
        have h : Q (.bl (decide (s = (Str.ofString "dries").cps.toList) && dry2 ds b y z)) M := h
        by_cases e : s = (Str.ofString "dries").cps.toList
        · rw [if_neg (fun q => q e)]
          rw [decide_eq_true e, Bool.true_and] at h
          simp only [↓b_cons, ↓b_nil, ↓st_asg, ↓st_setI, ↓st_expr, ↓st_ret, ↓st_retN, ↓st_ife, ↓st_for, ↓st_whl, ↓st_pass, ↓e_nam, ↓e_non, ↓e_bl, ↓e_int, ↓e_str, ↓e_tup, ↓e_lst, ↓e_bin, ↓e_neg, ↓e_nt, ↓e_cmp, ↓e_chn, ↓e_and, ↓e_or, ↓e_ife, ↓e_sub, ↓e_slc, ↓e_slcL, ↓e_slcH, ↓e_blt, ↓e_isi, ↓e_meth, ↓e_meth0, ↓e_lc, ↓l_nil, ↓l_cons, ↓and_nil, ↓and_b, ↓or_nil, ↓or_b, ↓t_nil, ↓t_cons, ↓i_seq, ↓i_rng1, ↓i_rng2, ↓finQ_f, ↓finQ_t, isB_bl, isI_int, isS_some, isS_none, isS_map, pw_add, pw_sub, pw_mul, pw_div, pw_mod, pw_pow, pw_addT, pw_addS, opC_lt, opC_le, opC_gt, opC_ge, opC_eqI, opC_neI, opC_neS, Option.map_some, asg_one, asg_tup, setAll_nil, setAll_cons, len_tup, sum_tup, tuple_tup, list_tup, min_int, max_int, ixt_tup, atI_0, atI_1, atI_2, atI_3, decide_eq_true_eq, Bool.not_eq_true', decide_eq_false_iff_not, List.map_cons, List.map_nil, List.set_cons_zero, List.set_cons_succ, List.getElem?_cons_zero, List.getElem?_cons_succ, List.cons_append, List.nil_append, List.length_cons, List.length_nil, Nat.reduceAdd, Nat.reduceSub, true_and, and_true, if_true, if_false, eq_self, Bool.false_eq_true, Bool.not_true, Bool.not_false, seqW_tup, ty_tt, ty_ss, ty_ii, ty_bi, ty_bb, ty_ib, tr_b, tr_n, ↓pwR_boolB, MulP, DivP, or_true, true_or, Int.reduceLT, Int.reduceLE, Int.reduceNeg, Int.reducePow, Int.reduceToNat, Int.cast_ofNat_Int, Int.natCast_zero, Int.natCast_one, Int.reduceEq, Bool.true_eq_false, not_true_eq_false, not_false_eq_true, ↓c_shows_dry_is_number, ↓c_shows_dry_stretch_sum, eqs_0_0, eqs_0_1, eqs_0_2, eqs_0_3, eqs_1_0, eqs_1_1, eqs_1_2, eqs_1_3, eqs_2_0, eqs_2_1, eqs_2_2, eqs_2_3, eqs_3_0, eqs_3_1, eqs_3_2, eqs_3_3, u_shows_dry_R3, B_shows_dry_R3d]
          refine spec_inum hy _ ?_
          simp only [↓b_cons, ↓b_nil, ↓st_asg, ↓st_setI, ↓st_expr, ↓st_ret, ↓st_retN, ↓st_ife, ↓st_for, ↓st_whl, ↓st_pass, ↓e_nam, ↓e_non, ↓e_bl, ↓e_int, ↓e_str, ↓e_tup, ↓e_lst, ↓e_bin, ↓e_neg, ↓e_nt, ↓e_cmp, ↓e_chn, ↓e_and, ↓e_or, ↓e_ife, ↓e_sub, ↓e_slc, ↓e_slcL, ↓e_slcH, ↓e_blt, ↓e_isi, ↓e_meth, ↓e_meth0, ↓e_lc, ↓l_nil, ↓l_cons, ↓and_nil, ↓and_b, ↓or_nil, ↓or_b, ↓t_nil, ↓t_cons, ↓i_seq, ↓i_rng1, ↓i_rng2, ↓finQ_f, ↓finQ_t, isB_bl, isI_int, isS_some, isS_none, isS_map, pw_add, pw_sub, pw_mul, pw_div, pw_mod, pw_pow, pw_addT, pw_addS, opC_lt, opC_le, opC_gt, opC_ge, opC_eqI, opC_neI, opC_neS, Option.map_some, asg_one, asg_tup, setAll_nil, setAll_cons, len_tup, sum_tup, tuple_tup, list_tup, min_int, max_int, ixt_tup, atI_0, atI_1, atI_2, atI_3, decide_eq_true_eq, Bool.not_eq_true', decide_eq_false_iff_not, List.map_cons, List.map_nil, List.set_cons_zero, List.set_cons_succ, List.getElem?_cons_zero, List.getElem?_cons_succ, List.cons_append, List.nil_append, List.length_cons, List.length_nil, Nat.reduceAdd, Nat.reduceSub, true_and, and_true, if_true, if_false, eq_self, Bool.false_eq_true, Bool.not_true, Bool.not_false, seqW_tup, ty_tt, ty_ss, ty_ii, ty_bi, ty_bb, ty_ib, tr_b, tr_n, ↓pwR_boolB, MulP, DivP, or_true, true_or, Int.reduceLT, Int.reduceLE, Int.reduceNeg, Int.reducePow, Int.reduceToNat, Int.cast_ofNat_Int, Int.natCast_zero, Int.natCast_one, Int.reduceEq, Bool.true_eq_false, not_true_eq_false, not_false_eq_true, ↓c_shows_dry_is_number, ↓c_shows_dry_stretch_sum, eqs_0_0, eqs_0_1, eqs_0_2, eqs_0_3, eqs_1_0, eqs_1_1, eqs_1_2, eqs_1_3, eqs_2_0, eqs_2_1, eqs_2_2, eqs_2_3, eqs_3_0, eqs_3_1, eqs_3_2, eqs_3_3]
          cases ey : isNum y
          · rw [dry2_l ey] at h
            try simp only [↓b_cons, ↓b_nil, ↓st_asg, ↓st_setI, ↓st_expr, ↓st_ret, ↓st_retN, ↓st_ife, ↓st_for, ↓st_whl, ↓st_pass, ↓e_nam, ↓e_non, ↓e_bl, ↓e_int, ↓e_str, ↓e_tup, ↓e_lst, ↓e_bin, ↓e_neg, ↓e_nt, ↓e_cmp, ↓e_chn, ↓e_and, ↓e_or, ↓e_ife, ↓e_sub, ↓e_slc, ↓e_slcL, ↓e_slcH, ↓e_blt, ↓e_isi, ↓e_meth, ↓e_meth0, ↓e_lc, ↓l_nil, ↓l_cons, ↓and_nil, ↓and_b, ↓or_nil, ↓or_b, ↓t_nil, ↓t_cons, ↓i_seq, ↓i_rng1, ↓i_rng2, ↓finQ_f, ↓finQ_t, isB_bl, isI_int, isS_some, isS_none, isS_map, pw_add, pw_sub, pw_mul, pw_div, pw_mod, pw_pow, pw_addT, pw_addS, opC_lt, opC_le, opC_gt, opC_ge, opC_eqI, opC_neI, opC_neS, Option.map_some, asg_one, asg_tup, setAll_nil, setAll_cons, len_tup, sum_tup, tuple_tup, list_tup, min_int, max_int, ixt_tup, atI_0, atI_1, atI_2, atI_3, decide_eq_true_eq, Bool.not_eq_true', decide_eq_false_iff_not, List.map_cons, List.map_nil, List.set_cons_zero, List.set_cons_succ, List.getElem?_cons_zero, List.getElem?_cons_succ, List.cons_append, List.nil_append, List.length_cons, List.length_nil, Nat.reduceAdd, Nat.reduceSub, true_and, and_true, if_true, if_false, eq_self, Bool.false_eq_true, Bool.not_true, Bool.not_false, seqW_tup, ty_tt, ty_ss, ty_ii, ty_bi, ty_bb, ty_ib, tr_b, tr_n, ↓pwR_boolB, MulP, DivP, or_true, true_or, Int.reduceLT, Int.reduceLE, Int.reduceNeg, Int.reducePow, Int.reduceToNat, Int.cast_ofNat_Int, Int.natCast_zero, Int.natCast_one, Int.reduceEq, Bool.true_eq_false, not_true_eq_false, not_false_eq_true, ↓c_shows_dry_is_number, ↓c_shows_dry_stretch_sum, eqs_0_0, eqs_0_1, eqs_0_2, eqs_0_3, eqs_1_0, eqs_1_1, eqs_1_2, eqs_1_3, eqs_2_0, eqs_2_1, eqs_2_2, eqs_2_3, eqs_3_0, eqs_3_1, eqs_3_2, eqs_3_3]
            exact h
          · try simp only [↓b_cons, ↓b_nil, ↓st_asg, ↓st_setI, ↓st_expr, ↓st_ret, ↓st_retN, ↓st_ife, ↓st_for, ↓st_whl, ↓st_pass, ↓e_nam, ↓e_non, ↓e_bl, ↓e_int, ↓e_str, ↓e_tup, ↓e_lst, ↓e_bin, ↓e_neg, ↓e_nt, ↓e_cmp, ↓e_chn, ↓e_and, ↓e_or, ↓e_ife, ↓e_sub, ↓e_slc, ↓e_slcL, ↓e_slcH, ↓e_blt, ↓e_isi, ↓e_meth, ↓e_meth0, ↓e_lc, ↓l_nil, ↓l_cons, ↓and_nil, ↓and_b, ↓or_nil, ↓or_b, ↓t_nil, ↓t_cons, ↓i_seq, ↓i_rng1, ↓i_rng2, ↓finQ_f, ↓finQ_t, isB_bl, isI_int, isS_some, isS_none, isS_map, pw_add, pw_sub, pw_mul, pw_div, pw_mod, pw_pow, pw_addT, pw_addS, opC_lt, opC_le, opC_gt, opC_ge, opC_eqI, opC_neI, opC_neS, Option.map_some, asg_one, asg_tup, setAll_nil, setAll_cons, len_tup, sum_tup, tuple_tup, list_tup, min_int, max_int, ixt_tup, atI_0, atI_1, atI_2, atI_3, decide_eq_true_eq, Bool.not_eq_true', decide_eq_false_iff_not, List.map_cons, List.map_nil, List.set_cons_zero, List.set_cons_succ, List.getElem?_cons_zero, List.getElem?_cons_succ, List.cons_append, List.nil_append, List.length_cons, List.length_nil, Nat.reduceAdd, Nat.reduceSub, true_and, and_true, if_true, if_false, eq_self, Bool.false_eq_true, Bool.not_true, Bool.not_false, seqW_tup, ty_tt, ty_ss, ty_ii, ty_bi, ty_bb, ty_ib, tr_b, tr_n, ↓pwR_boolB, MulP, DivP, or_true, true_or, Int.reduceLT, Int.reduceLE, Int.reduceNeg, Int.reducePow, Int.reduceToNat, Int.cast_ofNat_Int, Int.natCast_zero, Int.natCast_one, Int.reduceEq, Bool.true_eq_false, not_true_eq_false, not_false_eq_true, ↓c_shows_dry_is_number, ↓c_shows_dry_stretch_sum, eqs_0_0, eqs_0_1, eqs_0_2, eqs_0_3, eqs_1_0, eqs_1_1, eqs_1_2, eqs_1_3, eqs_2_0, eqs_2_1, eqs_2_2, eqs_2_3, eqs_3_0, eqs_3_1, eqs_3_2, eqs_3_3]
            refine spec_inum hz _ ?_
            simp only [↓b_cons, ↓b_nil, ↓st_asg, ↓st_setI, ↓st_expr, ↓st_ret, ↓st_retN, ↓st_ife, ↓st_for, ↓st_whl, ↓st_pass, ↓e_nam, ↓e_non, ↓e_bl, ↓e_int, ↓e_str, ↓e_tup, ↓e_lst, ↓e_bin, ↓e_neg, ↓e_nt, ↓e_cmp, ↓e_chn, ↓e_and, ↓e_or, ↓e_ife, ↓e_sub, ↓e_slc, ↓e_slcL, ↓e_slcH, ↓e_blt, ↓e_isi, ↓e_meth, ↓e_meth0, ↓e_lc, ↓l_nil, ↓l_cons, ↓and_nil, ↓and_b, ↓or_nil, ↓or_b, ↓t_nil, ↓t_cons, ↓i_seq, ↓i_rng1, ↓i_rng2, ↓finQ_f, ↓finQ_t, isB_bl, isI_int, isS_some, isS_none, isS_map, pw_add, pw_sub, pw_mul, pw_div, pw_mod, pw_pow, pw_addT, pw_addS, opC_lt, opC_le, opC_gt, opC_ge, opC_eqI, opC_neI, opC_neS, Option.map_some, asg_one, asg_tup, setAll_nil, setAll_cons, len_tup, sum_tup, tuple_tup, list_tup, min_int, max_int, ixt_tup, atI_0, atI_1, atI_2, atI_3, decide_eq_true_eq, Bool.not_eq_true', decide_eq_false_iff_not, List.map_cons, List.map_nil, List.set_cons_zero, List.set_cons_succ, List.getElem?_cons_zero, List.getElem?_cons_succ, List.cons_append, List.nil_append, List.length_cons, List.length_nil, Nat.reduceAdd, Nat.reduceSub, true_and, and_true, if_true, if_false, eq_self, Bool.false_eq_true, Bool.not_true, Bool.not_false, seqW_tup, ty_tt, ty_ss, ty_ii, ty_bi, ty_bb, ty_ib, tr_b, tr_n, ↓pwR_boolB, MulP, DivP, or_true, true_or, Int.reduceLT, Int.reduceLE, Int.reduceNeg, Int.reducePow, Int.reduceToNat, Int.cast_ofNat_Int, Int.natCast_zero, Int.natCast_one, Int.reduceEq, Bool.true_eq_false, not_true_eq_false, not_false_eq_true, ↓c_shows_dry_is_number, ↓c_shows_dry_stretch_sum, eqs_0_0, eqs_0_1, eqs_0_2, eqs_0_3, eqs_1_0, eqs_1_1, eqs_1_2, eqs_1_3, eqs_2_0, eqs_2_1, eqs_2_2, eqs_2_3, eqs_3_0, eqs_3_1, eqs_3_2, eqs_3_3]
            cases ez : isNum z
            · rw [dry2_r ez] at h
              try simp only [↓b_cons, ↓b_nil, ↓st_asg, ↓st_setI, ↓st_expr, ↓st_ret, ↓st_retN, ↓st_ife, ↓st_for, ↓st_whl, ↓st_pass, ↓e_nam, ↓e_non, ↓e_bl, ↓e_int, ↓e_str, ↓e_tup, ↓e_lst, ↓e_bin, ↓e_neg, ↓e_nt, ↓e_cmp, ↓e_chn, ↓e_and, ↓e_or, ↓e_ife, ↓e_sub, ↓e_slc, ↓e_slcL, ↓e_slcH, ↓e_blt, ↓e_isi, ↓e_meth, ↓e_meth0, ↓e_lc, ↓l_nil, ↓l_cons, ↓and_nil, ↓and_b, ↓or_nil, ↓or_b, ↓t_nil, ↓t_cons, ↓i_seq, ↓i_rng1, ↓i_rng2, ↓finQ_f, ↓finQ_t, isB_bl, isI_int, isS_some, isS_none, isS_map, pw_add, pw_sub, pw_mul, pw_div, pw_mod, pw_pow, pw_addT, pw_addS, opC_lt, opC_le, opC_gt, opC_ge, opC_eqI, opC_neI, opC_neS, Option.map_some, asg_one, asg_tup, setAll_nil, setAll_cons, len_tup, sum_tup, tuple_tup, list_tup, min_int, max_int, ixt_tup, atI_0, atI_1, atI_2, atI_3, decide_eq_true_eq, Bool.not_eq_true', decide_eq_false_iff_not, List.map_cons, List.map_nil, List.set_cons_zero, List.set_cons_succ, List.getElem?_cons_zero, List.getElem?_cons_succ, List.cons_append, List.nil_append, List.length_cons, List.length_nil, Nat.reduceAdd, Nat.reduceSub, true_and, and_true, if_true, if_false, eq_self, Bool.false_eq_true, Bool.not_true, Bool.not_false, seqW_tup, ty_tt, ty_ss, ty_ii, ty_bi, ty_bb, ty_ib, tr_b, tr_n, ↓pwR_boolB, MulP, DivP, or_true, true_or, Int.reduceLT, Int.reduceLE, Int.reduceNeg, Int.reducePow, Int.reduceToNat, Int.cast_ofNat_Int, Int.natCast_zero, Int.natCast_one, Int.reduceEq, Bool.true_eq_false, not_true_eq_false, not_false_eq_true, ↓c_shows_dry_is_number, ↓c_shows_dry_stretch_sum, eqs_0_0, eqs_0_1, eqs_0_2, eqs_0_3, eqs_1_0, eqs_1_1, eqs_1_2, eqs_1_3, eqs_2_0, eqs_2_1, eqs_2_2, eqs_2_3, eqs_3_0, eqs_3_1, eqs_3_2, eqs_3_3]
              exact h
            · obtain ⟨f, rfl⟩ := num_int ey
              obtain ⟨m, rfl⟩ := num_int ez
              have h : Q (.bl (decide (0 ≤ f ∧ f < ds.length ∧ 1 ≤ m ∧ sg ds f m + b < 0))) M := h
              have no : ¬ (0 ≤ f ∧ f < ds.length ∧ 1 ≤ m ∧ sg ds f m + b < 0) → Q (.bl false) M := fun n => by
                rw [show decide (0 ≤ f ∧ f < ds.length ∧ 1 ≤ m ∧ sg ds f m + b < 0) = false from by simp only [decide_eq_false_iff_not]; exact n] at h
                exact h
              simp only [↓b_cons, ↓b_nil, ↓st_asg, ↓st_setI, ↓st_expr, ↓st_ret, ↓st_retN, ↓st_ife, ↓st_for, ↓st_whl, ↓st_pass, ↓e_nam, ↓e_non, ↓e_bl, ↓e_int, ↓e_str, ↓e_tup, ↓e_lst, ↓e_bin, ↓e_neg, ↓e_nt, ↓e_cmp, ↓e_chn, ↓e_and, ↓e_or, ↓e_ife, ↓e_sub, ↓e_slc, ↓e_slcL, ↓e_slcH, ↓e_blt, ↓e_isi, ↓e_meth, ↓e_meth0, ↓e_lc, ↓l_nil, ↓l_cons, ↓and_nil, ↓and_b, ↓or_nil, ↓or_b, ↓t_nil, ↓t_cons, ↓i_seq, ↓i_rng1, ↓i_rng2, ↓finQ_f, ↓finQ_t, isB_bl, isI_int, isS_some, isS_none, isS_map, pw_add, pw_sub, pw_mul, pw_div, pw_mod, pw_pow, pw_addT, pw_addS, opC_lt, opC_le, opC_gt, opC_ge, opC_eqI, opC_neI, opC_neS, Option.map_some, asg_one, asg_tup, setAll_nil, setAll_cons, len_tup, sum_tup, tuple_tup, list_tup, min_int, max_int, ixt_tup, atI_0, atI_1, atI_2, atI_3, decide_eq_true_eq, Bool.not_eq_true', decide_eq_false_iff_not, List.map_cons, List.map_nil, List.set_cons_zero, List.set_cons_succ, List.getElem?_cons_zero, List.getElem?_cons_succ, List.cons_append, List.nil_append, List.length_cons, List.length_nil, Nat.reduceAdd, Nat.reduceSub, true_and, and_true, if_true, if_false, eq_self, Bool.false_eq_true, Bool.not_true, Bool.not_false, seqW_tup, ty_tt, ty_ss, ty_ii, ty_bi, ty_bb, ty_ib, tr_b, tr_n, ↓pwR_boolB, MulP, DivP, or_true, true_or, Int.reduceLT, Int.reduceLE, Int.reduceNeg, Int.reducePow, Int.reduceToNat, Int.cast_ofNat_Int, Int.natCast_zero, Int.natCast_one, Int.reduceEq, Bool.true_eq_false, not_true_eq_false, not_false_eq_true, ↓c_shows_dry_is_number, ↓c_shows_dry_stretch_sum, u_shows_dry_R1, B_shows_dry_R1d, u_shows_dry_R2, B_shows_dry_R2d, u_shows_dry_R3, B_shows_dry_R3d, eqs_0_0, eqs_0_1, eqs_0_2, eqs_0_3, eqs_1_0, eqs_1_1, eqs_1_2, eqs_1_3, eqs_2_0, eqs_2_1, eqs_2_2, eqs_2_3, eqs_3_0, eqs_3_1, eqs_3_2, eqs_3_3, List.length_map]
              split
              · split
                · exact no (by omega)
                · split
                  · exact no (by omega)
                  · obtain ⟨f, rfl⟩ : ∃ g : Nat, f = (g : Int) := ⟨f.toNat, by omega⟩
                    refine spec_ssum hd hl hb _ _ _ ?_
                    simp only [↓b_cons, ↓b_nil, ↓st_asg, ↓st_setI, ↓st_expr, ↓st_ret, ↓st_retN, ↓st_ife, ↓st_for, ↓st_whl, ↓st_pass, ↓e_nam, ↓e_non, ↓e_bl, ↓e_int, ↓e_str, ↓e_tup, ↓e_lst, ↓e_bin, ↓e_neg, ↓e_nt, ↓e_cmp, ↓e_chn, ↓e_and, ↓e_or, ↓e_ife, ↓e_sub, ↓e_slc, ↓e_slcL, ↓e_slcH, ↓e_blt, ↓e_isi, ↓e_meth, ↓e_meth0, ↓e_lc, ↓l_nil, ↓l_cons, ↓and_nil, ↓and_b, ↓or_nil, ↓or_b, ↓t_nil, ↓t_cons, ↓i_seq, ↓i_rng1, ↓i_rng2, ↓finQ_f, ↓finQ_t, isB_bl, isI_int, isS_some, isS_none, isS_map, pw_add, pw_sub, pw_mul, pw_div, pw_mod, pw_pow, pw_addT, pw_addS, opC_lt, opC_le, opC_gt, opC_ge, opC_eqI, opC_neI, opC_neS, Option.map_some, asg_one, asg_tup, setAll_nil, setAll_cons, len_tup, sum_tup, tuple_tup, list_tup, min_int, max_int, ixt_tup, atI_0, atI_1, atI_2, atI_3, decide_eq_true_eq, Bool.not_eq_true', decide_eq_false_iff_not, List.map_cons, List.map_nil, List.set_cons_zero, List.set_cons_succ, List.getElem?_cons_zero, List.getElem?_cons_succ, List.cons_append, List.nil_append, List.length_cons, List.length_nil, Nat.reduceAdd, Nat.reduceSub, true_and, and_true, if_true, if_false, eq_self, Bool.false_eq_true, Bool.not_true, Bool.not_false, seqW_tup, ty_tt, ty_ss, ty_ii, ty_bi, ty_bb, ty_ib, tr_b, tr_n, ↓pwR_boolB, MulP, DivP, or_true, true_or, Int.reduceLT, Int.reduceLE, Int.reduceNeg, Int.reducePow, Int.reduceToNat, Int.cast_ofNat_Int, Int.natCast_zero, Int.natCast_one, Int.reduceEq, Bool.true_eq_false, not_true_eq_false, not_false_eq_true, ↓c_shows_dry_is_number, ↓c_shows_dry_stretch_sum, u_shows_dry_R1, B_shows_dry_R1d, u_shows_dry_R2, B_shows_dry_R2d, u_shows_dry_R3, B_shows_dry_R3d, eqs_0_0, eqs_0_1, eqs_0_2, eqs_0_3, eqs_1_0, eqs_1_1, eqs_1_2, eqs_1_3, eqs_2_0, eqs_2_1, eqs_2_2, eqs_2_3, eqs_3_0, eqs_3_1, eqs_3_2, eqs_3_3]
                    rw [show decide (sg ds f m + b < 0) = decide (0 ≤ (f : Int) ∧ (f : Int) < ds.length ∧ 1 ≤ m ∧ sg ds f m + b < 0) from by congr 1; exact propext ⟨fun q => ⟨by omega, by omega, by omega, q⟩, fun q => q.2.2.2⟩]
                    exact h
              · exact no (by omega)
        · rw [if_pos e]
          rw [decide_eq_false e] at h
          exact h
      | _ => simp only [↓b_cons, ↓b_nil, ↓st_asg, ↓st_setI, ↓st_expr, ↓st_ret, ↓st_retN, ↓st_ife, ↓st_for, ↓st_whl, ↓st_pass, ↓e_nam, ↓e_non, ↓e_bl, ↓e_int, ↓e_str, ↓e_tup, ↓e_lst, ↓e_bin, ↓e_neg, ↓e_nt, ↓e_cmp, ↓e_chn, ↓e_and, ↓e_or, ↓e_ife, ↓e_sub, ↓e_slc, ↓e_slcL, ↓e_slcH, ↓e_blt, ↓e_isi, ↓e_meth, ↓e_meth0, ↓e_lc, ↓l_nil, ↓l_cons, ↓and_nil, ↓and_b, ↓or_nil, ↓or_b, ↓t_nil, ↓t_cons, ↓i_seq, ↓i_rng1, ↓i_rng2, ↓finQ_f, ↓finQ_t, isB_bl, isI_int, isS_some, isS_none, isS_map, pw_add, pw_sub, pw_mul, pw_div, pw_mod, pw_pow, pw_addT, pw_addS, opC_lt, opC_le, opC_gt, opC_ge, opC_eqI, opC_neI, opC_neS, Option.map_some, asg_one, asg_tup, setAll_nil, setAll_cons, len_tup, sum_tup, tuple_tup, list_tup, min_int, max_int, ixt_tup, atI_0, atI_1, atI_2, atI_3, decide_eq_true_eq, Bool.not_eq_true', decide_eq_false_iff_not, List.map_cons, List.map_nil, List.set_cons_zero, List.set_cons_succ, List.getElem?_cons_zero, List.getElem?_cons_succ, List.cons_append, List.nil_append, List.length_cons, List.length_nil, Nat.reduceAdd, Nat.reduceSub, true_and, and_true, if_true, if_false, eq_self, Bool.false_eq_true, Bool.not_true, Bool.not_false, seqW_tup, ty_tt, ty_ss, ty_ii, ty_bi, ty_bb, ty_ib, tr_b, tr_n, ↓pwR_boolB, MulP, DivP, or_true, true_or, Int.reduceLT, Int.reduceLE, Int.reduceNeg, Int.reducePow, Int.reduceToNat, Int.cast_ofNat_Int, Int.natCast_zero, Int.natCast_one, Int.reduceEq, Bool.true_eq_false, not_true_eq_false, not_false_eq_true, ↓c_shows_dry_is_number, ↓c_shows_dry_stretch_sum, eqs_0_0, eqs_0_1, eqs_0_2, eqs_0_3, eqs_1_0, eqs_1_1, eqs_1_2, eqs_1_3, eqs_2_0, eqs_2_1, eqs_2_2, eqs_2_3, eqs_3_0, eqs_3_1, eqs_3_2, eqs_3_3, tx, isTxt]; exact h
  | _ =>
    simp only [↓b_cons, ↓b_nil, ↓st_asg, ↓st_setI, ↓st_expr, ↓st_ret, ↓st_retN, ↓st_ife, ↓st_for, ↓st_whl, ↓st_pass, ↓e_nam, ↓e_non, ↓e_bl, ↓e_int, ↓e_str, ↓e_tup, ↓e_lst, ↓e_bin, ↓e_neg, ↓e_nt, ↓e_cmp, ↓e_chn, ↓e_and, ↓e_or, ↓e_ife, ↓e_sub, ↓e_slc, ↓e_slcL, ↓e_slcH, ↓e_blt, ↓e_isi, ↓e_meth, ↓e_meth0, ↓e_lc, ↓l_nil, ↓l_cons, ↓and_nil, ↓and_b, ↓or_nil, ↓or_b, ↓t_nil, ↓t_cons, ↓i_seq, ↓i_rng1, ↓i_rng2, ↓finQ_f, ↓finQ_t, isB_bl, isI_int, isS_some, isS_none, isS_map, pw_add, pw_sub, pw_mul, pw_div, pw_mod, pw_pow, pw_addT, pw_addS, opC_lt, opC_le, opC_gt, opC_ge, opC_eqI, opC_neI, opC_neS, Option.map_some, asg_one, asg_tup, setAll_nil, setAll_cons, len_tup, sum_tup, tuple_tup, list_tup, min_int, max_int, ixt_tup, atI_0, atI_1, atI_2, atI_3, decide_eq_true_eq, Bool.not_eq_true', decide_eq_false_iff_not, List.map_cons, List.map_nil, List.set_cons_zero, List.set_cons_succ, List.getElem?_cons_zero, List.getElem?_cons_succ, List.cons_append, List.nil_append, List.length_cons, List.length_nil, Nat.reduceAdd, Nat.reduceSub, true_and, and_true, if_true, if_false, eq_self, Bool.false_eq_true, Bool.not_true, Bool.not_false, seqW_tup, ty_tt, ty_ss, ty_ii, ty_bi, ty_bb, ty_ib, tr_b, tr_n, ↓pwR_boolB, MulP, DivP, or_true, true_or, Int.reduceLT, Int.reduceLE, Int.reduceNeg, Int.reducePow, Int.reduceToNat, Int.cast_ofNat_Int, Int.natCast_zero, Int.natCast_one, Int.reduceEq, Bool.true_eq_false, not_true_eq_false, not_false_eq_true, ↓c_shows_dry_is_number, ↓c_shows_dry_stretch_sum, eqs_0_0, eqs_0_1, eqs_0_2, eqs_0_3, eqs_1_0, eqs_1_1, eqs_1_2, eqs_1_3, eqs_2_0, eqs_2_1, eqs_2_2, eqs_2_3, eqs_3_0, eqs_3_1, eqs_3_2, eqs_3_3, t, isTup]
    exact h

theorem spec_pwalked {M : Sto} {ds : List Int} (hd : 0 < ds.length) (b l n : Int) (hb : 0 ≤ b) (hn : n < 4611686018427387904) (h0 : 0 ≤ n) (Q : PV → Sto → Prop) (h : Q (wP (wk ds b n.toNat 0 l)) M) : pwR (R_walked [.int b, .tup (ds.map PV.int), .int l, .int n] M) Q := by
  rw [run_walked]; unfold B_walked
  simp only [↓b_cons, ↓b_nil, ↓st_asg, ↓st_setI, ↓st_expr, ↓st_ret, ↓st_retN, ↓st_ife, ↓st_for, ↓st_whl, ↓st_pass, ↓e_nam, ↓e_non, ↓e_bl, ↓e_int, ↓e_str, ↓e_tup, ↓e_lst, ↓e_bin, ↓e_neg, ↓e_nt, ↓e_cmp, ↓e_chn, ↓e_and, ↓e_or, ↓e_ife, ↓e_sub, ↓e_slc, ↓e_slcL, ↓e_slcH, ↓e_blt, ↓e_isi, ↓e_meth, ↓e_meth0, ↓e_lc, ↓l_nil, ↓l_cons, ↓and_nil, ↓and_b, ↓or_nil, ↓or_b, ↓t_nil, ↓t_cons, ↓i_seq, ↓i_rng1, ↓i_rng2, ↓finQ_f, ↓finQ_t, isB_bl, isI_int, isS_some, isS_none, isS_map, pw_add, pw_sub, pw_mul, pw_div, pw_mod, pw_pow, pw_addT, pw_addS, opC_lt, opC_le, opC_gt, opC_ge, opC_eqI, opC_neI, opC_neS, Option.map_some, asg_one, asg_tup, setAll_nil, setAll_cons, len_tup, sum_tup, tuple_tup, list_tup, min_int, max_int, ixt_tup, atI_0, atI_1, atI_2, atI_3, decide_eq_true_eq, Bool.not_eq_true', decide_eq_false_iff_not, List.map_cons, List.map_nil, List.set_cons_zero, List.set_cons_succ, List.getElem?_cons_zero, List.getElem?_cons_succ, List.cons_append, List.nil_append, List.length_cons, List.length_nil, Nat.reduceAdd, Nat.reduceSub, true_and, and_true, if_true, if_false, eq_self, Bool.false_eq_true, Bool.not_true, Bool.not_false, seqW_tup, ty_tt, ty_ss, ty_ii, ty_bi, ty_bb, ty_ib, tr_b, tr_n, ↓pwR_boolB, MulP, DivP, or_true, true_or, Int.reduceLT, Int.reduceLE, Int.reduceNeg, Int.reducePow, Int.reduceToNat, Int.cast_ofNat_Int, Int.natCast_zero, Int.natCast_one, Int.reduceEq, Bool.true_eq_false, not_true_eq_false, not_false_eq_true, eqs_0_0, eqs_0_1, eqs_0_2, eqs_0_3, eqs_1_0, eqs_1_1, eqs_1_2, eqs_1_3, eqs_2_0, eqs_2_1, eqs_2_2, eqs_2_3, eqs_3_0, eqs_3_1, eqs_3_2, eqs_3_3]
  refine ⟨by simp [small62]; omega, pw_forR (fun i T m => ∃ (l' : Int) (a : Option PV), T = [some (.int b), some (.tup (ds.map PV.int)), some (.int l'), some (.int n), a] ∧ m = M ∧ i ≤ n.toNat ∧ wk ds b n.toNat 0 l = wk ds b (n.toNat - i) i l') ⟨l, none, rfl, rfl, by omega, rfl⟩ ?_ ?_⟩
  · rintro i T m hi ⟨l', a, rfl, rfl, hin, hw⟩
    unfold B_walked_1
    rw [Int.zero_add]
    simp only [↓b_cons, ↓b_nil, ↓st_asg, ↓st_setI, ↓st_expr, ↓st_ret, ↓st_retN, ↓st_ife, ↓st_for, ↓st_whl, ↓st_pass, ↓e_nam, ↓e_non, ↓e_bl, ↓e_int, ↓e_str, ↓e_tup, ↓e_lst, ↓e_bin, ↓e_neg, ↓e_nt, ↓e_cmp, ↓e_chn, ↓e_and, ↓e_or, ↓e_ife, ↓e_sub, ↓e_slc, ↓e_slcL, ↓e_slcH, ↓e_blt, ↓e_isi, ↓e_meth, ↓e_meth0, ↓e_lc, ↓l_nil, ↓l_cons, ↓and_nil, ↓and_b, ↓or_nil, ↓or_b, ↓t_nil, ↓t_cons, ↓i_seq, ↓i_rng1, ↓i_rng2, ↓finQ_f, ↓finQ_t, isB_bl, isI_int, isS_some, isS_none, isS_map, pw_add, pw_sub, pw_mul, pw_div, pw_mod, pw_pow, pw_addT, pw_addS, opC_lt, opC_le, opC_gt, opC_ge, opC_eqI, opC_neI, opC_neS, Option.map_some, asg_one, asg_tup, setAll_nil, setAll_cons, len_tup, sum_tup, tuple_tup, list_tup, min_int, max_int, ixt_tup, atI_0, atI_1, atI_2, atI_3, decide_eq_true_eq, Bool.not_eq_true', decide_eq_false_iff_not, List.map_cons, List.map_nil, List.set_cons_zero, List.set_cons_succ, List.getElem?_cons_zero, List.getElem?_cons_succ, List.cons_append, List.nil_append, List.length_cons, List.length_nil, Nat.reduceAdd, Nat.reduceSub, true_and, and_true, if_true, if_false, eq_self, Bool.false_eq_true, Bool.not_true, Bool.not_false, seqW_tup, ty_tt, ty_ss, ty_ii, ty_bi, ty_bb, ty_ib, tr_b, tr_n, ↓pwR_boolB, MulP, DivP, or_true, true_or, Int.reduceLT, Int.reduceLE, Int.reduceNeg, Int.reducePow, Int.reduceToNat, Int.cast_ofNat_Int, Int.natCast_zero, Int.natCast_one, Int.reduceEq, Bool.true_eq_false, not_true_eq_false, not_false_eq_true, eqs_0_0, eqs_0_1, eqs_0_2, eqs_0_3, eqs_1_0, eqs_1_1, eqs_1_2, eqs_1_3, eqs_2_0, eqs_2_1, eqs_2_2, eqs_2_3, eqs_3_0, eqs_3_1, eqs_3_2, eqs_3_3, List.length_map, atI_dy hd]
    refine ⟨by omega, ?_⟩
    have hk : n.toNat - i = (n.toNat - (i + 1)) + 1 := by omega
    rw [hk, wk_succ] at hw
    split
    · rename_i hlt
      rw [if_pos (by omega)] at hw
      rw [hw] at h
      exact ⟨by simp [LINE], h⟩
    · rename_i hge
      rw [if_neg (by omega)] at hw
      exact ⟨_, _, rfl, by omega, hw⟩
  · rintro T m ⟨l', a, rfl, rfl, hin, hw⟩
    simp only [↓b_cons, ↓b_nil, ↓st_asg, ↓st_setI, ↓st_expr, ↓st_ret, ↓st_retN, ↓st_ife, ↓st_for, ↓st_whl, ↓st_pass, ↓e_nam, ↓e_non, ↓e_bl, ↓e_int, ↓e_str, ↓e_tup, ↓e_lst, ↓e_bin, ↓e_neg, ↓e_nt, ↓e_cmp, ↓e_chn, ↓e_and, ↓e_or, ↓e_ife, ↓e_sub, ↓e_slc, ↓e_slcL, ↓e_slcH, ↓e_blt, ↓e_isi, ↓e_meth, ↓e_meth0, ↓e_lc, ↓l_nil, ↓l_cons, ↓and_nil, ↓and_b, ↓or_nil, ↓or_b, ↓t_nil, ↓t_cons, ↓i_seq, ↓i_rng1, ↓i_rng2, ↓finQ_f, ↓finQ_t, isB_bl, isI_int, isS_some, isS_none, isS_map, pw_add, pw_sub, pw_mul, pw_div, pw_mod, pw_pow, pw_addT, pw_addS, opC_lt, opC_le, opC_gt, opC_ge, opC_eqI, opC_neI, opC_neS, Option.map_some, asg_one, asg_tup, setAll_nil, setAll_cons, len_tup, sum_tup, tuple_tup, list_tup, min_int, max_int, ixt_tup, atI_0, atI_1, atI_2, atI_3, decide_eq_true_eq, Bool.not_eq_true', decide_eq_false_iff_not, List.map_cons, List.map_nil, List.set_cons_zero, List.set_cons_succ, List.getElem?_cons_zero, List.getElem?_cons_succ, List.cons_append, List.nil_append, List.length_cons, List.length_nil, Nat.reduceAdd, Nat.reduceSub, true_and, and_true, if_true, if_false, eq_self, Bool.false_eq_true, Bool.not_true, Bool.not_false, seqW_tup, ty_tt, ty_ss, ty_ii, ty_bi, ty_bb, ty_ib, tr_b, tr_n, ↓pwR_boolB, MulP, DivP, or_true, true_or, Int.reduceLT, Int.reduceLE, Int.reduceNeg, Int.reducePow, Int.reduceToNat, Int.cast_ofNat_Int, Int.natCast_zero, Int.natCast_one, Int.reduceEq, Bool.true_eq_false, not_true_eq_false, not_false_eq_true, eqs_0_0, eqs_0_1, eqs_0_2, eqs_0_3, eqs_1_0, eqs_1_1, eqs_1_2, eqs_1_3, eqs_2_0, eqs_2_1, eqs_2_2, eqs_2_3, eqs_3_0, eqs_3_1, eqs_3_2, eqs_3_3]
    rw [show n.toNat - (n - 0).toNat = 0 from by omega] at hw
    rw [hw] at h
    exact ⟨by simp [LINE], h⟩

theorem spec_lowest {M : Sto} {ds : List Int} (Q : PV → Sto → Prop) (h : Q (.int (lo ds ds.length)) M) : pwR (R_lowest [.tup (ds.map PV.int)] M) Q := by
  rw [run_lowest]; unfold B_lowest
  simp only [↓b_cons, ↓b_nil, ↓st_asg, ↓st_setI, ↓st_expr, ↓st_ret, ↓st_retN, ↓st_ife, ↓st_for, ↓st_whl, ↓st_pass, ↓e_nam, ↓e_non, ↓e_bl, ↓e_int, ↓e_str, ↓e_tup, ↓e_lst, ↓e_bin, ↓e_neg, ↓e_nt, ↓e_cmp, ↓e_chn, ↓e_and, ↓e_or, ↓e_ife, ↓e_sub, ↓e_slc, ↓e_slcL, ↓e_slcH, ↓e_blt, ↓e_isi, ↓e_meth, ↓e_meth0, ↓e_lc, ↓l_nil, ↓l_cons, ↓and_nil, ↓and_b, ↓or_nil, ↓or_b, ↓t_nil, ↓t_cons, ↓i_seq, ↓i_rng1, ↓i_rng2, ↓finQ_f, ↓finQ_t, isB_bl, isI_int, isS_some, isS_none, isS_map, pw_add, pw_sub, pw_mul, pw_div, pw_mod, pw_pow, pw_addT, pw_addS, opC_lt, opC_le, opC_gt, opC_ge, opC_eqI, opC_neI, opC_neS, Option.map_some, asg_one, asg_tup, setAll_nil, setAll_cons, len_tup, sum_tup, tuple_tup, list_tup, min_int, max_int, ixt_tup, atI_0, atI_1, atI_2, atI_3, decide_eq_true_eq, Bool.not_eq_true', decide_eq_false_iff_not, List.map_cons, List.map_nil, List.set_cons_zero, List.set_cons_succ, List.getElem?_cons_zero, List.getElem?_cons_succ, List.cons_append, List.nil_append, List.length_cons, List.length_nil, Nat.reduceAdd, Nat.reduceSub, true_and, and_true, if_true, if_false, eq_self, Bool.false_eq_true, Bool.not_true, Bool.not_false, seqW_tup, ty_tt, ty_ss, ty_ii, ty_bi, ty_bb, ty_ib, tr_b, tr_n, ↓pwR_boolB, MulP, DivP, or_true, true_or, Int.reduceLT, Int.reduceLE, Int.reduceNeg, Int.reducePow, Int.reduceToNat, Int.cast_ofNat_Int, Int.natCast_zero, Int.natCast_one, Int.reduceEq, Bool.true_eq_false, not_true_eq_false, not_false_eq_true, eqs_0_0, eqs_0_1, eqs_0_2, eqs_0_3, eqs_1_0, eqs_1_1, eqs_1_2, eqs_1_3, eqs_2_0, eqs_2_1, eqs_2_2, eqs_2_3, eqs_3_0, eqs_3_1, eqs_3_2, eqs_3_3]
  refine pw_forT (fun i T m => m = M ∧ ∃ (d : Option PV), T = [some (.tup (ds.map PV.int)), some (.int (ps ds i 0)), some (.int (lo ds i)), d]) rfl ⟨rfl, none, rfl⟩ ?_ ?_
  · rintro i x T m hx ⟨rfl, d, rfl⟩
    rw [List.getElem?_map, Option.map_eq_some_iff] at hx
    obtain ⟨y, hy, rfl⟩ := hx
    obtain ⟨hi, e⟩ := List.getElem?_eq_some_iff.mp hy
    unfold B_lowest_1
    simp only [↓b_cons, ↓b_nil, ↓st_asg, ↓st_setI, ↓st_expr, ↓st_ret, ↓st_retN, ↓st_ife, ↓st_for, ↓st_whl, ↓st_pass, ↓e_nam, ↓e_non, ↓e_bl, ↓e_int, ↓e_str, ↓e_tup, ↓e_lst, ↓e_bin, ↓e_neg, ↓e_nt, ↓e_cmp, ↓e_chn, ↓e_and, ↓e_or, ↓e_ife, ↓e_sub, ↓e_slc, ↓e_slcL, ↓e_slcH, ↓e_blt, ↓e_isi, ↓e_meth, ↓e_meth0, ↓e_lc, ↓l_nil, ↓l_cons, ↓and_nil, ↓and_b, ↓or_nil, ↓or_b, ↓t_nil, ↓t_cons, ↓i_seq, ↓i_rng1, ↓i_rng2, ↓finQ_f, ↓finQ_t, isB_bl, isI_int, isS_some, isS_none, isS_map, pw_add, pw_sub, pw_mul, pw_div, pw_mod, pw_pow, pw_addT, pw_addS, opC_lt, opC_le, opC_gt, opC_ge, opC_eqI, opC_neI, opC_neS, Option.map_some, asg_one, asg_tup, setAll_nil, setAll_cons, len_tup, sum_tup, tuple_tup, list_tup, min_int, max_int, ixt_tup, atI_0, atI_1, atI_2, atI_3, decide_eq_true_eq, Bool.not_eq_true', decide_eq_false_iff_not, List.map_cons, List.map_nil, List.set_cons_zero, List.set_cons_succ, List.getElem?_cons_zero, List.getElem?_cons_succ, List.cons_append, List.nil_append, List.length_cons, List.length_nil, Nat.reduceAdd, Nat.reduceSub, true_and, and_true, if_true, if_false, eq_self, Bool.false_eq_true, Bool.not_true, Bool.not_false, seqW_tup, ty_tt, ty_ss, ty_ii, ty_bi, ty_bb, ty_ib, tr_b, tr_n, ↓pwR_boolB, MulP, DivP, or_true, true_or, Int.reduceLT, Int.reduceLE, Int.reduceNeg, Int.reducePow, Int.reduceToNat, Int.cast_ofNat_Int, Int.natCast_zero, Int.natCast_one, Int.reduceEq, Bool.true_eq_false, not_true_eq_false, not_false_eq_true, eqs_0_0, eqs_0_1, eqs_0_2, eqs_0_3, eqs_1_0, eqs_1_1, eqs_1_2, eqs_1_3, eqs_2_0, eqs_2_1, eqs_2_2, eqs_2_3, eqs_3_0, eqs_3_1, eqs_3_2, eqs_3_3]
    have e1 : ps ds (i + 1) 0 = ps ds i 0 + y := by rw [ps_succ, Nat.zero_add, dy_get hi, e]
    have e2 : lo ds (i + 1) = min (lo ds i) (ps ds i 0 + y) := by simp only [SW.lo, e1]
    exact ⟨_, by rw [e1, e2]⟩
  · rintro T m ⟨rfl, d, rfl⟩
    simp only [↓b_cons, ↓b_nil, ↓st_asg, ↓st_setI, ↓st_expr, ↓st_ret, ↓st_retN, ↓st_ife, ↓st_for, ↓st_whl, ↓st_pass, ↓e_nam, ↓e_non, ↓e_bl, ↓e_int, ↓e_str, ↓e_tup, ↓e_lst, ↓e_bin, ↓e_neg, ↓e_nt, ↓e_cmp, ↓e_chn, ↓e_and, ↓e_or, ↓e_ife, ↓e_sub, ↓e_slc, ↓e_slcL, ↓e_slcH, ↓e_blt, ↓e_isi, ↓e_meth, ↓e_meth0, ↓e_lc, ↓l_nil, ↓l_cons, ↓and_nil, ↓and_b, ↓or_nil, ↓or_b, ↓t_nil, ↓t_cons, ↓i_seq, ↓i_rng1, ↓i_rng2, ↓finQ_f, ↓finQ_t, isB_bl, isI_int, isS_some, isS_none, isS_map, pw_add, pw_sub, pw_mul, pw_div, pw_mod, pw_pow, pw_addT, pw_addS, opC_lt, opC_le, opC_gt, opC_ge, opC_eqI, opC_neI, opC_neS, Option.map_some, asg_one, asg_tup, setAll_nil, setAll_cons, len_tup, sum_tup, tuple_tup, list_tup, min_int, max_int, ixt_tup, atI_0, atI_1, atI_2, atI_3, decide_eq_true_eq, Bool.not_eq_true', decide_eq_false_iff_not, List.map_cons, List.map_nil, List.set_cons_zero, List.set_cons_succ, List.getElem?_cons_zero, List.getElem?_cons_succ, List.cons_append, List.nil_append, List.length_cons, List.length_nil, Nat.reduceAdd, Nat.reduceSub, true_and, and_true, if_true, if_false, eq_self, Bool.false_eq_true, Bool.not_true, Bool.not_false, seqW_tup, ty_tt, ty_ss, ty_ii, ty_bi, ty_bb, ty_ib, tr_b, tr_n, ↓pwR_boolB, MulP, DivP, or_true, true_or, Int.reduceLT, Int.reduceLE, Int.reduceNeg, Int.reducePow, Int.reduceToNat, Int.cast_ofNat_Int, Int.natCast_zero, Int.natCast_one, Int.reduceEq, Bool.true_eq_false, not_true_eq_false, not_false_eq_true, eqs_0_0, eqs_0_1, eqs_0_2, eqs_0_3, eqs_1_0, eqs_1_1, eqs_1_2, eqs_1_3, eqs_2_0, eqs_2_1, eqs_2_2, eqs_2_3, eqs_3_0, eqs_3_1, eqs_3_2, eqs_3_3]
    rw [List.length_map]
    exact h

theorem spec_passed {M : Sto} {ds : List Int} (hd : 0 < ds.length) (hl : ds.length ≤ 60) (hb : ∀ x ∈ ds, Bd x) (b l r : Int) (b0 : 0 ≤ b) (Q : PV → Sto → Prop)
    (h : Q (if 0 ≤ ds.sum then .tup [.int r, .int (min (wk ds b ds.length 0 b).2 (l + r * ds.sum))] else .tup [.int (min r (max 0 ((l + lo ds ds.length) / (0 - ds.sum) + 1))), .int (l + min r (max 0 ((l + lo ds ds.length) / (0 - ds.sum) + 1)) * ds.sum)]) M) :
    pwR (R_passed [.int b, .tup (ds.map PV.int), .int l, .int r] M) Q := by
  have sb := bd_sum hb
  rw [run_passed]; unfold B_passed
  simp only [↓b_cons, ↓b_nil, ↓st_asg, ↓st_setI, ↓st_expr, ↓st_ret, ↓st_retN, ↓st_ife, ↓st_for, ↓st_whl, ↓st_pass, ↓e_nam, ↓e_non, ↓e_bl, ↓e_int, ↓e_str, ↓e_tup, ↓e_lst, ↓e_bin, ↓e_neg, ↓e_nt, ↓e_cmp, ↓e_chn, ↓e_and, ↓e_or, ↓e_ife, ↓e_sub, ↓e_slc, ↓e_slcL, ↓e_slcH, ↓e_blt, ↓e_isi, ↓e_meth, ↓e_meth0, ↓e_lc, ↓l_nil, ↓l_cons, ↓and_nil, ↓and_b, ↓or_nil, ↓or_b, ↓t_nil, ↓t_cons, ↓i_seq, ↓i_rng1, ↓i_rng2, ↓finQ_f, ↓finQ_t, isB_bl, isI_int, isS_some, isS_none, isS_map, pw_add, pw_sub, pw_mul, pw_div, pw_mod, pw_pow, pw_addT, pw_addS, opC_lt, opC_le, opC_gt, opC_ge, opC_eqI, opC_neI, opC_neS, Option.map_some, asg_one, asg_tup, setAll_nil, setAll_cons, len_tup, sum_tup, tuple_tup, list_tup, min_int, max_int, ixt_tup, atI_0, atI_1, atI_2, atI_3, decide_eq_true_eq, Bool.not_eq_true', decide_eq_false_iff_not, List.map_cons, List.map_nil, List.set_cons_zero, List.set_cons_succ, List.getElem?_cons_zero, List.getElem?_cons_succ, List.cons_append, List.nil_append, List.length_cons, List.length_nil, Nat.reduceAdd, Nat.reduceSub, true_and, and_true, if_true, if_false, eq_self, Bool.false_eq_true, Bool.not_true, Bool.not_false, seqW_tup, ty_tt, ty_ss, ty_ii, ty_bi, ty_bb, ty_ib, tr_b, tr_n, ↓pwR_boolB, MulP, DivP, or_true, true_or, Int.reduceLT, Int.reduceLE, Int.reduceNeg, Int.reducePow, Int.reduceToNat, Int.cast_ofNat_Int, Int.natCast_zero, Int.natCast_one, Int.reduceEq, Bool.true_eq_false, not_true_eq_false, not_false_eq_true, ↓c_passed_walked, ↓c_passed_lowest, u_passed_R1, B_passed_R1d, eqs_0_0, eqs_0_1, eqs_0_2, eqs_0_3, eqs_1_0, eqs_1_1, eqs_1_2, eqs_1_3, eqs_2_0, eqs_2_1, eqs_2_2, eqs_2_3, eqs_3_0, eqs_3_1, eqs_3_2, eqs_3_3]
  split
  · rename_i ht
    rw [if_pos ht] at h
    refine spec_pwalked hd _ _ _ b0 (by rw [List.length_map]; omega) (by omega) _ ?_
    simp only [↓b_cons, ↓b_nil, ↓st_asg, ↓st_setI, ↓st_expr, ↓st_ret, ↓st_retN, ↓st_ife, ↓st_for, ↓st_whl, ↓st_pass, ↓e_nam, ↓e_non, ↓e_bl, ↓e_int, ↓e_str, ↓e_tup, ↓e_lst, ↓e_bin, ↓e_neg, ↓e_nt, ↓e_cmp, ↓e_chn, ↓e_and, ↓e_or, ↓e_ife, ↓e_sub, ↓e_slc, ↓e_slcL, ↓e_slcH, ↓e_blt, ↓e_isi, ↓e_meth, ↓e_meth0, ↓e_lc, ↓l_nil, ↓l_cons, ↓and_nil, ↓and_b, ↓or_nil, ↓or_b, ↓t_nil, ↓t_cons, ↓i_seq, ↓i_rng1, ↓i_rng2, ↓finQ_f, ↓finQ_t, isB_bl, isI_int, isS_some, isS_none, isS_map, pw_add, pw_sub, pw_mul, pw_div, pw_mod, pw_pow, pw_addT, pw_addS, opC_lt, opC_le, opC_gt, opC_ge, opC_eqI, opC_neI, opC_neS, Option.map_some, asg_one, asg_tup, setAll_nil, setAll_cons, len_tup, sum_tup, tuple_tup, list_tup, min_int, max_int, ixt_tup, atI_0, atI_1, atI_2, atI_3, decide_eq_true_eq, Bool.not_eq_true', decide_eq_false_iff_not, List.map_cons, List.map_nil, List.set_cons_zero, List.set_cons_succ, List.getElem?_cons_zero, List.getElem?_cons_succ, List.cons_append, List.nil_append, List.length_cons, List.length_nil, Nat.reduceAdd, Nat.reduceSub, true_and, and_true, if_true, if_false, eq_self, Bool.false_eq_true, Bool.not_true, Bool.not_false, seqW_tup, ty_tt, ty_ss, ty_ii, ty_bi, ty_bb, ty_ib, tr_b, tr_n, ↓pwR_boolB, MulP, DivP, or_true, true_or, Int.reduceLT, Int.reduceLE, Int.reduceNeg, Int.reducePow, Int.reduceToNat, Int.cast_ofNat_Int, Int.natCast_zero, Int.natCast_one, Int.reduceEq, Bool.true_eq_false, not_true_eq_false, not_false_eq_true, ↓c_passed_walked, ↓c_passed_lowest, u_passed_R1, B_passed_R1d, eqs_0_0, eqs_0_1, eqs_0_2, eqs_0_3, eqs_1_0, eqs_1_1, eqs_1_2, eqs_1_3, eqs_2_0, eqs_2_1, eqs_2_2, eqs_2_3, eqs_3_0, eqs_3_1, eqs_3_2, eqs_3_3, wP, List.length_map, Int.toNat_natCast]
    exact ⟨by omega, by simp [LINE], h⟩
  · rename_i ht
    rw [if_neg ht] at h
    refine spec_lowest _ ?_
    simp only [↓b_cons, ↓b_nil, ↓st_asg, ↓st_setI, ↓st_expr, ↓st_ret, ↓st_retN, ↓st_ife, ↓st_for, ↓st_whl, ↓st_pass, ↓e_nam, ↓e_non, ↓e_bl, ↓e_int, ↓e_str, ↓e_tup, ↓e_lst, ↓e_bin, ↓e_neg, ↓e_nt, ↓e_cmp, ↓e_chn, ↓e_and, ↓e_or, ↓e_ife, ↓e_sub, ↓e_slc, ↓e_slcL, ↓e_slcH, ↓e_blt, ↓e_isi, ↓e_meth, ↓e_meth0, ↓e_lc, ↓l_nil, ↓l_cons, ↓and_nil, ↓and_b, ↓or_nil, ↓or_b, ↓t_nil, ↓t_cons, ↓i_seq, ↓i_rng1, ↓i_rng2, ↓finQ_f, ↓finQ_t, isB_bl, isI_int, isS_some, isS_none, isS_map, pw_add, pw_sub, pw_mul, pw_div, pw_mod, pw_pow, pw_addT, pw_addS, opC_lt, opC_le, opC_gt, opC_ge, opC_eqI, opC_neI, opC_neS, Option.map_some, asg_one, asg_tup, setAll_nil, setAll_cons, len_tup, sum_tup, tuple_tup, list_tup, min_int, max_int, ixt_tup, atI_0, atI_1, atI_2, atI_3, decide_eq_true_eq, Bool.not_eq_true', decide_eq_false_iff_not, List.map_cons, List.map_nil, List.set_cons_zero, List.set_cons_succ, List.getElem?_cons_zero, List.getElem?_cons_succ, List.cons_append, List.nil_append, List.length_cons, List.length_nil, Nat.reduceAdd, Nat.reduceSub, true_and, and_true, if_true, if_false, eq_self, Bool.false_eq_true, Bool.not_true, Bool.not_false, seqW_tup, ty_tt, ty_ss, ty_ii, ty_bi, ty_bb, ty_ib, tr_b, tr_n, ↓pwR_boolB, MulP, DivP, or_true, true_or, Int.reduceLT, Int.reduceLE, Int.reduceNeg, Int.reducePow, Int.reduceToNat, Int.cast_ofNat_Int, Int.natCast_zero, Int.natCast_one, Int.reduceEq, Bool.true_eq_false, not_true_eq_false, not_false_eq_true, ↓c_passed_walked, ↓c_passed_lowest, u_passed_R1, B_passed_R1d, eqs_0_0, eqs_0_1, eqs_0_2, eqs_0_3, eqs_1_0, eqs_1_1, eqs_1_2, eqs_1_3, eqs_2_0, eqs_2_1, eqs_2_2, eqs_2_3, eqs_3_0, eqs_3_1, eqs_3_2, eqs_3_3]
    exact ⟨by omega, by omega, by simp [LINE], h⟩
theorem spec_behind {M : Sto} {ds : List Int} (hd : 0 < ds.length) (hl : ds.length ≤ 60) (hb : ∀ x ∈ ds, Bd x) (b l n : Int) (b0 : 0 ≤ b) (l0 : 0 ≤ l) (lb : l ≤ b) (h0 : 0 ≤ n) (Q : PV → Sto → Prop) (h : Q (wP (wk ds b n.toNat 0 l)) M) :
    pwR (R_level_behind [.int b, .tup (ds.map PV.int), .int l, .int n] M) Q := by
  rw [run_level_behind]; unfold B_level_behind
  simp only [↓b_cons, ↓b_nil, ↓st_asg, ↓st_setI, ↓st_expr, ↓st_ret, ↓st_retN, ↓st_ife, ↓st_for, ↓st_whl, ↓st_pass, ↓e_nam, ↓e_non, ↓e_bl, ↓e_int, ↓e_str, ↓e_tup, ↓e_lst, ↓e_bin, ↓e_neg, ↓e_nt, ↓e_cmp, ↓e_chn, ↓e_and, ↓e_or, ↓e_ife, ↓e_sub, ↓e_slc, ↓e_slcL, ↓e_slcH, ↓e_blt, ↓e_isi, ↓e_meth, ↓e_meth0, ↓e_lc, ↓l_nil, ↓l_cons, ↓and_nil, ↓and_b, ↓or_nil, ↓or_b, ↓t_nil, ↓t_cons, ↓i_seq, ↓i_rng1, ↓i_rng2, ↓finQ_f, ↓finQ_t, isB_bl, isI_int, isS_some, isS_none, isS_map, pw_add, pw_sub, pw_mul, pw_div, pw_mod, pw_pow, pw_addT, pw_addS, opC_lt, opC_le, opC_gt, opC_ge, opC_eqI, opC_neI, opC_neS, Option.map_some, asg_one, asg_tup, setAll_nil, setAll_cons, len_tup, sum_tup, tuple_tup, list_tup, min_int, max_int, ixt_tup, atI_0, atI_1, atI_2, atI_3, decide_eq_true_eq, Bool.not_eq_true', decide_eq_false_iff_not, List.map_cons, List.map_nil, List.set_cons_zero, List.set_cons_succ, List.getElem?_cons_zero, List.getElem?_cons_succ, List.cons_append, List.nil_append, List.length_cons, List.length_nil, Nat.reduceAdd, Nat.reduceSub, true_and, and_true, if_true, if_false, eq_self, Bool.false_eq_true, Bool.not_true, Bool.not_false, seqW_tup, ty_tt, ty_ss, ty_ii, ty_bi, ty_bb, ty_ib, tr_b, tr_n, ↓pwR_boolB, MulP, DivP, or_true, true_or, Int.reduceLT, Int.reduceLE, Int.reduceNeg, Int.reducePow, Int.reduceToNat, Int.cast_ofNat_Int, Int.natCast_zero, Int.natCast_one, Int.reduceEq, Bool.true_eq_false, not_true_eq_false, not_false_eq_true, ↓c_level_behind_walked, ↓c_level_behind_passed, u_level_behind_R1, B_level_behind_R1d, u_level_behind_R2, B_level_behind_R2d, eqs_0_0, eqs_0_1, eqs_0_2, eqs_0_3, eqs_1_0, eqs_1_1, eqs_1_2, eqs_1_3, eqs_2_0, eqs_2_1, eqs_2_2, eqs_2_3, eqs_3_0, eqs_3_1, eqs_3_2, eqs_3_3]
  refine spec_pwalked hd _ _ _ b0 (by rw [List.length_map]; omega) (by omega) _ ?_
  rw [List.length_map]
  by_cases hc : n ≤ 2 * ds.length
  · rw [show min n (2 * (ds.length : Int)) = n from by omega]
    simp only [↓b_cons, ↓b_nil, ↓st_asg, ↓st_setI, ↓st_expr, ↓st_ret, ↓st_retN, ↓st_ife, ↓st_for, ↓st_whl, ↓st_pass, ↓e_nam, ↓e_non, ↓e_bl, ↓e_int, ↓e_str, ↓e_tup, ↓e_lst, ↓e_bin, ↓e_neg, ↓e_nt, ↓e_cmp, ↓e_chn, ↓e_and, ↓e_or, ↓e_ife, ↓e_sub, ↓e_slc, ↓e_slcL, ↓e_slcH, ↓e_blt, ↓e_isi, ↓e_meth, ↓e_meth0, ↓e_lc, ↓l_nil, ↓l_cons, ↓and_nil, ↓and_b, ↓or_nil, ↓or_b, ↓t_nil, ↓t_cons, ↓i_seq, ↓i_rng1, ↓i_rng2, ↓finQ_f, ↓finQ_t, isB_bl, isI_int, isS_some, isS_none, isS_map, pw_add, pw_sub, pw_mul, pw_div, pw_mod, pw_pow, pw_addT, pw_addS, opC_lt, opC_le, opC_gt, opC_ge, opC_eqI, opC_neI, opC_neS, Option.map_some, asg_one, asg_tup, setAll_nil, setAll_cons, len_tup, sum_tup, tuple_tup, list_tup, min_int, max_int, ixt_tup, atI_0, atI_1, atI_2, atI_3, decide_eq_true_eq, Bool.not_eq_true', decide_eq_false_iff_not, List.map_cons, List.map_nil, List.set_cons_zero, List.set_cons_succ, List.getElem?_cons_zero, List.getElem?_cons_succ, List.cons_append, List.nil_append, List.length_cons, List.length_nil, Nat.reduceAdd, Nat.reduceSub, true_and, and_true, if_true, if_false, eq_self, Bool.false_eq_true, Bool.not_true, Bool.not_false, seqW_tup, ty_tt, ty_ss, ty_ii, ty_bi, ty_bb, ty_ib, tr_b, tr_n, ↓pwR_boolB, MulP, DivP, or_true, true_or, Int.reduceLT, Int.reduceLE, Int.reduceNeg, Int.reducePow, Int.reduceToNat, Int.cast_ofNat_Int, Int.natCast_zero, Int.natCast_one, Int.reduceEq, Bool.true_eq_false, not_true_eq_false, not_false_eq_true, ↓c_level_behind_walked, ↓c_level_behind_passed, u_level_behind_R1, B_level_behind_R1d, u_level_behind_R2, B_level_behind_R2d, eqs_0_0, eqs_0_1, eqs_0_2, eqs_0_3, eqs_1_0, eqs_1_1, eqs_1_2, eqs_1_3, eqs_2_0, eqs_2_1, eqs_2_2, eqs_2_3, eqs_3_0, eqs_3_1, eqs_3_2, eqs_3_3, wP, wS_dry]
    unfold wP at h
    split
    · exact h
    · exact h
  · rw [show min n (2 * (ds.length : Int)) = 2 * ds.length from by omega, show (2 * (ds.length : Int)).toNat = 2 * ds.length from by omega]
    obtain ⟨m, rfl⟩ : ∃ m : Nat, n = ((2 * ds.length + m : Nat) : Int) := ⟨n.toNat - 2 * ds.length, by omega⟩
    rw [Int.toNat_natCast] at h
    simp only [↓b_cons, ↓b_nil, ↓st_asg, ↓st_setI, ↓st_expr, ↓st_ret, ↓st_retN, ↓st_ife, ↓st_for, ↓st_whl, ↓st_pass, ↓e_nam, ↓e_non, ↓e_bl, ↓e_int, ↓e_str, ↓e_tup, ↓e_lst, ↓e_bin, ↓e_neg, ↓e_nt, ↓e_cmp, ↓e_chn, ↓e_and, ↓e_or, ↓e_ife, ↓e_sub, ↓e_slc, ↓e_slcL, ↓e_slcH, ↓e_blt, ↓e_isi, ↓e_meth, ↓e_meth0, ↓e_lc, ↓l_nil, ↓l_cons, ↓and_nil, ↓and_b, ↓or_nil, ↓or_b, ↓t_nil, ↓t_cons, ↓i_seq, ↓i_rng1, ↓i_rng2, ↓finQ_f, ↓finQ_t, isB_bl, isI_int, isS_some, isS_none, isS_map, pw_add, pw_sub, pw_mul, pw_div, pw_mod, pw_pow, pw_addT, pw_addS, opC_lt, opC_le, opC_gt, opC_ge, opC_eqI, opC_neI, opC_neS, Option.map_some, asg_one, asg_tup, setAll_nil, setAll_cons, len_tup, sum_tup, tuple_tup, list_tup, min_int, max_int, ixt_tup, atI_0, atI_1, atI_2, atI_3, decide_eq_true_eq, Bool.not_eq_true', decide_eq_false_iff_not, List.map_cons, List.map_nil, List.set_cons_zero, List.set_cons_succ, List.getElem?_cons_zero, List.getElem?_cons_succ, List.cons_append, List.nil_append, List.length_cons, List.length_nil, Nat.reduceAdd, Nat.reduceSub, true_and, and_true, if_true, if_false, eq_self, Bool.false_eq_true, Bool.not_true, Bool.not_false, seqW_tup, ty_tt, ty_ss, ty_ii, ty_bi, ty_bb, ty_ib, tr_b, tr_n, ↓pwR_boolB, MulP, DivP, or_true, true_or, Int.reduceLT, Int.reduceLE, Int.reduceNeg, Int.reducePow, Int.reduceToNat, Int.cast_ofNat_Int, Int.natCast_zero, Int.natCast_one, Int.reduceEq, Bool.true_eq_false, not_true_eq_false, not_false_eq_true, ↓c_level_behind_walked, ↓c_level_behind_passed, eqs_0_0, eqs_0_1, eqs_0_2, eqs_0_3, eqs_1_0, eqs_1_1, eqs_1_2, eqs_1_3, eqs_2_0, eqs_2_1, eqs_2_2, eqs_2_3, eqs_3_0, eqs_3_1, eqs_3_2, eqs_3_3, wP, wS_dry]
    split
    · rename_i hd1
      rw [wk_add, if_pos hd1] at h
      exact h
    · rename_i hd1
      have hd2 : (wk ds b (2 * ds.length) 0 l).1 = false := by simpa using hd1
      rw [if_neg (by omega)]
      generalize e1 : (wk ds b (2 * ds.length) 0 l).2 = l1
      obtain ⟨rr, l2, p1, p2, p3, p4⟩ := passed_ok b0 l0 lb hd hd2 m l1 e1
      have bk := behind_ok hd (Prod.ext hd2 e1) p2 p3 p4
      rw [bk] at h
      simp only [↓b_cons, ↓b_nil, ↓st_asg, ↓st_setI, ↓st_expr, ↓st_ret, ↓st_retN, ↓st_ife, ↓st_for, ↓st_whl, ↓st_pass, ↓e_nam, ↓e_non, ↓e_bl, ↓e_int, ↓e_str, ↓e_tup, ↓e_lst, ↓e_bin, ↓e_neg, ↓e_nt, ↓e_cmp, ↓e_chn, ↓e_and, ↓e_or, ↓e_ife, ↓e_sub, ↓e_slc, ↓e_slcL, ↓e_slcH, ↓e_blt, ↓e_isi, ↓e_meth, ↓e_meth0, ↓e_lc, ↓l_nil, ↓l_cons, ↓and_nil, ↓and_b, ↓or_nil, ↓or_b, ↓t_nil, ↓t_cons, ↓i_seq, ↓i_rng1, ↓i_rng2, ↓finQ_f, ↓finQ_t, isB_bl, isI_int, isS_some, isS_none, isS_map, pw_add, pw_sub, pw_mul, pw_div, pw_mod, pw_pow, pw_addT, pw_addS, opC_lt, opC_le, opC_gt, opC_ge, opC_eqI, opC_neI, opC_neS, Option.map_some, asg_one, asg_tup, setAll_nil, setAll_cons, len_tup, sum_tup, tuple_tup, list_tup, min_int, max_int, ixt_tup, atI_0, atI_1, atI_2, atI_3, decide_eq_true_eq, Bool.not_eq_true', decide_eq_false_iff_not, List.map_cons, List.map_nil, List.set_cons_zero, List.set_cons_succ, List.getElem?_cons_zero, List.getElem?_cons_succ, List.cons_append, List.nil_append, List.length_cons, List.length_nil, Nat.reduceAdd, Nat.reduceSub, true_and, and_true, if_true, if_false, eq_self, Bool.false_eq_true, Bool.not_true, Bool.not_false, seqW_tup, ty_tt, ty_ss, ty_ii, ty_bi, ty_bb, ty_ib, tr_b, tr_n, ↓pwR_boolB, MulP, DivP, or_true, true_or, Int.reduceLT, Int.reduceLE, Int.reduceNeg, Int.reducePow, Int.reduceToNat, Int.cast_ofNat_Int, Int.natCast_zero, Int.natCast_one, Int.reduceEq, Bool.true_eq_false, not_true_eq_false, not_false_eq_true, ↓c_level_behind_walked, ↓c_level_behind_passed, u_level_behind_R1, B_level_behind_R1d, u_level_behind_R2, B_level_behind_R2d, eqs_0_0, eqs_0_1, eqs_0_2, eqs_0_3, eqs_1_0, eqs_1_1, eqs_1_2, eqs_1_3, eqs_2_0, eqs_2_1, eqs_2_2, eqs_2_3, eqs_3_0, eqs_3_1, eqs_3_2, eqs_3_3, List.length_map]
      refine ⟨by omega, spec_passed hd hl hb _ _ _ b0 _ ?_⟩
      have hm : ((m / ds.length : Nat) : Int) = (((2 * ds.length + m : Nat) : Int) - 2 * (ds.length : Int)) / (ds.length : Int) := by
        rw [show ((2 * ds.length + m : Nat) : Int) - 2 * (ds.length : Int) = (m : Int) from by omega, Int.natCast_ediv]
      rw [← hm, p1]
      have rm : rr * ds.length ≤ m := Nat.le_trans (Nat.mul_le_mul_right _ p2) (Nat.div_mul_le_self _ _)
      have ei : ((rr * ds.length : Nat) : Int) = (rr : Int) * (ds.length : Int) := by simp
      simp only [↓b_cons, ↓b_nil, ↓st_asg, ↓st_setI, ↓st_expr, ↓st_ret, ↓st_retN, ↓st_ife, ↓st_for, ↓st_whl, ↓st_pass, ↓e_nam, ↓e_non, ↓e_bl, ↓e_int, ↓e_str, ↓e_tup, ↓e_lst, ↓e_bin, ↓e_neg, ↓e_nt, ↓e_cmp, ↓e_chn, ↓e_and, ↓e_or, ↓e_ife, ↓e_sub, ↓e_slc, ↓e_slcL, ↓e_slcH, ↓e_blt, ↓e_isi, ↓e_meth, ↓e_meth0, ↓e_lc, ↓l_nil, ↓l_cons, ↓and_nil, ↓and_b, ↓or_nil, ↓or_b, ↓t_nil, ↓t_cons, ↓i_seq, ↓i_rng1, ↓i_rng2, ↓finQ_f, ↓finQ_t, isB_bl, isI_int, isS_some, isS_none, isS_map, pw_add, pw_sub, pw_mul, pw_div, pw_mod, pw_pow, pw_addT, pw_addS, opC_lt, opC_le, opC_gt, opC_ge, opC_eqI, opC_neI, opC_neS, Option.map_some, asg_one, asg_tup, setAll_nil, setAll_cons, len_tup, sum_tup, tuple_tup, list_tup, min_int, max_int, ixt_tup, atI_0, atI_1, atI_2, atI_3, decide_eq_true_eq, Bool.not_eq_true', decide_eq_false_iff_not, List.map_cons, List.map_nil, List.set_cons_zero, List.set_cons_succ, List.getElem?_cons_zero, List.getElem?_cons_succ, List.cons_append, List.nil_append, List.length_cons, List.length_nil, Nat.reduceAdd, Nat.reduceSub, true_and, and_true, if_true, if_false, eq_self, Bool.false_eq_true, Bool.not_true, Bool.not_false, seqW_tup, ty_tt, ty_ss, ty_ii, ty_bi, ty_bb, ty_ib, tr_b, tr_n, ↓pwR_boolB, MulP, DivP, or_true, true_or, Int.reduceLT, Int.reduceLE, Int.reduceNeg, Int.reducePow, Int.reduceToNat, Int.cast_ofNat_Int, Int.natCast_zero, Int.natCast_one, Int.reduceEq, Bool.true_eq_false, not_true_eq_false, not_false_eq_true, ↓c_level_behind_walked, ↓c_level_behind_passed, u_level_behind_R1, B_level_behind_R1d, u_level_behind_R2, B_level_behind_R2d, eqs_0_0, eqs_0_1, eqs_0_2, eqs_0_3, eqs_1_0, eqs_1_1, eqs_1_2, eqs_1_3, eqs_2_0, eqs_2_1, eqs_2_2, eqs_2_3, eqs_3_0, eqs_3_1, eqs_3_2, eqs_3_3, List.length_map]
      generalize hk : rr * ds.length = k at *
      rw [← ei]
      refine ⟨by omega, spec_pwalked hd _ _ _ b0 (by omega) (by omega) _ ?_⟩
      rw [show (min (((2 * ds.length + m : Nat) : Int) - (2 * (ds.length : Int) + (k : Int))) (ds.length : Int)).toNat = min (m - k) ds.length from by omega]
      simp only [↓b_cons, ↓b_nil, ↓st_asg, ↓st_setI, ↓st_expr, ↓st_ret, ↓st_retN, ↓st_ife, ↓st_for, ↓st_whl, ↓st_pass, ↓e_nam, ↓e_non, ↓e_bl, ↓e_int, ↓e_str, ↓e_tup, ↓e_lst, ↓e_bin, ↓e_neg, ↓e_nt, ↓e_cmp, ↓e_chn, ↓e_and, ↓e_or, ↓e_ife, ↓e_sub, ↓e_slc, ↓e_slcL, ↓e_slcH, ↓e_blt, ↓e_isi, ↓e_meth, ↓e_meth0, ↓e_lc, ↓l_nil, ↓l_cons, ↓and_nil, ↓and_b, ↓or_nil, ↓or_b, ↓t_nil, ↓t_cons, ↓i_seq, ↓i_rng1, ↓i_rng2, ↓finQ_f, ↓finQ_t, isB_bl, isI_int, isS_some, isS_none, isS_map, pw_add, pw_sub, pw_mul, pw_div, pw_mod, pw_pow, pw_addT, pw_addS, opC_lt, opC_le, opC_gt, opC_ge, opC_eqI, opC_neI, opC_neS, Option.map_some, asg_one, asg_tup, setAll_nil, setAll_cons, len_tup, sum_tup, tuple_tup, list_tup, min_int, max_int, ixt_tup, atI_0, atI_1, atI_2, atI_3, decide_eq_true_eq, Bool.not_eq_true', decide_eq_false_iff_not, List.map_cons, List.map_nil, List.set_cons_zero, List.set_cons_succ, List.getElem?_cons_zero, List.getElem?_cons_succ, List.cons_append, List.nil_append, List.length_cons, List.length_nil, Nat.reduceAdd, Nat.reduceSub, true_and, and_true, if_true, if_false, eq_self, Bool.false_eq_true, Bool.not_true, Bool.not_false, seqW_tup, ty_tt, ty_ss, ty_ii, ty_bi, ty_bb, ty_ib, tr_b, tr_n, ↓pwR_boolB, MulP, DivP, or_true, true_or, Int.reduceLT, Int.reduceLE, Int.reduceNeg, Int.reducePow, Int.reduceToNat, Int.cast_ofNat_Int, Int.natCast_zero, Int.natCast_one, Int.reduceEq, Bool.true_eq_false, not_true_eq_false, not_false_eq_true, ↓c_level_behind_walked, ↓c_level_behind_passed, u_level_behind_R1, B_level_behind_R1d, u_level_behind_R2, B_level_behind_R2d, eqs_0_0, eqs_0_1, eqs_0_2, eqs_0_3, eqs_1_0, eqs_1_1, eqs_1_2, eqs_1_3, eqs_2_0, eqs_2_1, eqs_2_2, eqs_2_3, eqs_3_0, eqs_3_1, eqs_3_2, eqs_3_3, wP, wS_dry]
      split
      · rename_i hd3
        rw [if_pos hd3] at h
        exact ⟨by simp [LINE], h⟩
      · rename_i hd3
        rw [if_neg hd3] at h
        exact h

theorem spec_deepest {M : Sto} {ds : List Int} (hd : 0 < ds.length) (hl : ds.length ≤ 60) (Q : PV → Sto → Prop)
    (h : ∀ (f y : Nat), (lw ds (2 * ds.length) < 0 → 1 ≤ y ∧ ps ds y f = lw ds (2 * ds.length)) → y ≤ 2 * ds.length → Q (.tup [.int (lw ds (2 * ds.length)), .int ((f % ds.length : Nat) : Int), .int y]) M) : pwR (R_deepest [.tup (ds.map PV.int)] M) Q := by
  rw [run_deepest]; unfold B_deepest
  simp only [↓b_cons, ↓b_nil, ↓st_asg, ↓st_setI, ↓st_expr, ↓st_ret, ↓st_retN, ↓st_ife, ↓st_for, ↓st_whl, ↓st_pass, ↓e_nam, ↓e_non, ↓e_bl, ↓e_int, ↓e_str, ↓e_tup, ↓e_lst, ↓e_bin, ↓e_neg, ↓e_nt, ↓e_cmp, ↓e_chn, ↓e_and, ↓e_or, ↓e_ife, ↓e_sub, ↓e_slc, ↓e_slcL, ↓e_slcH, ↓e_blt, ↓e_isi, ↓e_meth, ↓e_meth0, ↓e_lc, ↓l_nil, ↓l_cons, ↓and_nil, ↓and_b, ↓or_nil, ↓or_b, ↓t_nil, ↓t_cons, ↓i_seq, ↓i_rng1, ↓i_rng2, ↓finQ_f, ↓finQ_t, isB_bl, isI_int, isS_some, isS_none, isS_map, pw_add, pw_sub, pw_mul, pw_div, pw_mod, pw_pow, pw_addT, pw_addS, opC_lt, opC_le, opC_gt, opC_ge, opC_eqI, opC_neI, opC_neS, Option.map_some, asg_one, asg_tup, setAll_nil, setAll_cons, len_tup, sum_tup, tuple_tup, list_tup, min_int, max_int, ixt_tup, atI_0, atI_1, atI_2, atI_3, decide_eq_true_eq, Bool.not_eq_true', decide_eq_false_iff_not, List.map_cons, List.map_nil, List.set_cons_zero, List.set_cons_succ, List.getElem?_cons_zero, List.getElem?_cons_succ, List.cons_append, List.nil_append, List.length_cons, List.length_nil, Nat.reduceAdd, Nat.reduceSub, true_and, and_true, if_true, if_false, eq_self, Bool.false_eq_true, Bool.not_true, Bool.not_false, seqW_tup, ty_tt, ty_ss, ty_ii, ty_bi, ty_bb, ty_ib, tr_b, tr_n, ↓pwR_boolB, MulP, DivP, or_true, true_or, Int.reduceLT, Int.reduceLE, Int.reduceNeg, Int.reducePow, Int.reduceToNat, Int.cast_ofNat_Int, Int.natCast_zero, Int.natCast_one, Int.reduceEq, Bool.true_eq_false, not_true_eq_false, not_false_eq_true, eqs_0_0, eqs_0_1, eqs_0_2, eqs_0_3, eqs_1_0, eqs_1_1, eqs_1_2, eqs_1_3, eqs_2_0, eqs_2_1, eqs_2_2, eqs_2_3, eqs_3_0, eqs_3_1, eqs_3_2, eqs_3_3, List.length_map]
  refine ⟨by simp [small62]; omega, pw_forR (fun i T m => ∃ (f y s : Nat) (day : Option PV), T = [some (.tup (ds.map PV.int)), some (.int (lw ds i)), some (.int f), some (.int y), some (.int (und ds i)), some (.int s), day] ∧ m = M ∧ s ≤ i ∧ y ≤ i ∧ und ds i = ps ds (i - s) s ∧ (lw ds i < 0 → 1 ≤ y ∧ ps ds y f = lw ds i)) ⟨0, 0, 0, none, rfl, rfl, by omega, by omega, rfl, fun h => by simp [lw] at h⟩ ?_ ?_⟩
  · rintro i T m hi ⟨f, y, s, day, rfl, rfl, hs, hy, hu, hw⟩
    unfold B_deepest_1
    rw [Int.zero_add]
    simp only [↓b_cons, ↓b_nil, ↓st_asg, ↓st_setI, ↓st_expr, ↓st_ret, ↓st_retN, ↓st_ife, ↓st_for, ↓st_whl, ↓st_pass, ↓e_nam, ↓e_non, ↓e_bl, ↓e_int, ↓e_str, ↓e_tup, ↓e_lst, ↓e_bin, ↓e_neg, ↓e_nt, ↓e_cmp, ↓e_chn, ↓e_and, ↓e_or, ↓e_ife, ↓e_sub, ↓e_slc, ↓e_slcL, ↓e_slcH, ↓e_blt, ↓e_isi, ↓e_meth, ↓e_meth0, ↓e_lc, ↓l_nil, ↓l_cons, ↓and_nil, ↓and_b, ↓or_nil, ↓or_b, ↓t_nil, ↓t_cons, ↓i_seq, ↓i_rng1, ↓i_rng2, ↓finQ_f, ↓finQ_t, isB_bl, isI_int, isS_some, isS_none, isS_map, pw_add, pw_sub, pw_mul, pw_div, pw_mod, pw_pow, pw_addT, pw_addS, opC_lt, opC_le, opC_gt, opC_ge, opC_eqI, opC_neI, opC_neS, Option.map_some, asg_one, asg_tup, setAll_nil, setAll_cons, len_tup, sum_tup, tuple_tup, list_tup, min_int, max_int, ixt_tup, atI_0, atI_1, atI_2, atI_3, decide_eq_true_eq, Bool.not_eq_true', decide_eq_false_iff_not, List.map_cons, List.map_nil, List.set_cons_zero, List.set_cons_succ, List.getElem?_cons_zero, List.getElem?_cons_succ, List.cons_append, List.nil_append, List.length_cons, List.length_nil, Nat.reduceAdd, Nat.reduceSub, true_and, and_true, if_true, if_false, eq_self, Bool.false_eq_true, Bool.not_true, Bool.not_false, seqW_tup, ty_tt, ty_ss, ty_ii, ty_bi, ty_bb, ty_ib, tr_b, tr_n, ↓pwR_boolB, MulP, DivP, or_true, true_or, Int.reduceLT, Int.reduceLE, Int.reduceNeg, Int.reducePow, Int.reduceToNat, Int.cast_ofNat_Int, Int.natCast_zero, Int.natCast_one, Int.reduceEq, Bool.true_eq_false, not_true_eq_false, not_false_eq_true, eqs_0_0, eqs_0_1, eqs_0_2, eqs_0_3, eqs_1_0, eqs_1_1, eqs_1_2, eqs_1_3, eqs_2_0, eqs_2_1, eqs_2_2, eqs_2_3, eqs_3_0, eqs_3_1, eqs_3_2, eqs_3_3, List.length_map, atI_dy hd]
    have h1 := lw_le (ds := ds) i
    have h2 : und ds (i + 1) = min 0 (und ds i + dy ds i) := rfl
    have h3 : lw ds (i + 1) = min (lw ds i) (und ds (i + 1)) := rfl
    have h4 := ps_succ (ds := ds) (i - s) s
    rw [show s + (i - s) = i from by omega, ← hu, show i - s + 1 = i + 1 - s from by omega] at h4
    refine ⟨by omega, ?_⟩
    split
    · have e1 : lw ds (i + 1) = lw ds i := by omega
      have e2 : und ds (i + 1) = 0 := by omega
      rw [e1, e2, ← Int.natCast_add_one]
      exact ⟨f, y, i + 1, _, rfl, by omega, by omega, by rw [Nat.sub_self]; rfl, hw⟩
    · have e2 : und ds (i + 1) = und ds i + dy ds i := by omega
      split
      · have e1 : lw ds (i + 1) = und ds i + dy ds i := by omega
        rw [e1, e2]
        exact ⟨s, i + 1 - s, s, _, by rw [show ((i + 1 - s : Nat) : Int) = (i : Int) + 1 - s from by omega], by omega, by omega, by omega, fun _ => ⟨by omega, by omega⟩⟩
      · have e1 : lw ds (i + 1) = lw ds i := by omega
        rw [e1, e2]
        exact ⟨f, y, s, _, rfl, by omega, by omega, by omega, hw⟩
  · rintro T m ⟨f, y, s, day, rfl, rfl, hs, hy, hu, hw⟩
    rw [show (2 * (ds.length : Int) - 0).toNat = 2 * ds.length from by omega] at *
    simp only [↓b_cons, ↓b_nil, ↓st_asg, ↓st_setI, ↓st_expr, ↓st_ret, ↓st_retN, ↓st_ife, ↓st_for, ↓st_whl, ↓st_pass, ↓e_nam, ↓e_non, ↓e_bl, ↓e_int, ↓e_str, ↓e_tup, ↓e_lst, ↓e_bin, ↓e_neg, ↓e_nt, ↓e_cmp, ↓e_chn, ↓e_and, ↓e_or, ↓e_ife, ↓e_sub, ↓e_slc, ↓e_slcL, ↓e_slcH, ↓e_blt, ↓e_isi, ↓e_meth, ↓e_meth0, ↓e_lc, ↓l_nil, ↓l_cons, ↓and_nil, ↓and_b, ↓or_nil, ↓or_b, ↓t_nil, ↓t_cons, ↓i_seq, ↓i_rng1, ↓i_rng2, ↓finQ_f, ↓finQ_t, isB_bl, isI_int, isS_some, isS_none, isS_map, pw_add, pw_sub, pw_mul, pw_div, pw_mod, pw_pow, pw_addT, pw_addS, opC_lt, opC_le, opC_gt, opC_ge, opC_eqI, opC_neI, opC_neS, Option.map_some, asg_one, asg_tup, setAll_nil, setAll_cons, len_tup, sum_tup, tuple_tup, list_tup, min_int, max_int, ixt_tup, atI_0, atI_1, atI_2, atI_3, decide_eq_true_eq, Bool.not_eq_true', decide_eq_false_iff_not, List.map_cons, List.map_nil, List.set_cons_zero, List.set_cons_succ, List.getElem?_cons_zero, List.getElem?_cons_succ, List.cons_append, List.nil_append, List.length_cons, List.length_nil, Nat.reduceAdd, Nat.reduceSub, true_and, and_true, if_true, if_false, eq_self, Bool.false_eq_true, Bool.not_true, Bool.not_false, seqW_tup, ty_tt, ty_ss, ty_ii, ty_bi, ty_bb, ty_ib, tr_b, tr_n, ↓pwR_boolB, MulP, DivP, or_true, true_or, Int.reduceLT, Int.reduceLE, Int.reduceNeg, Int.reducePow, Int.reduceToNat, Int.cast_ofNat_Int, Int.natCast_zero, Int.natCast_one, Int.reduceEq, Bool.true_eq_false, not_true_eq_false, not_false_eq_true, eqs_0_0, eqs_0_1, eqs_0_2, eqs_0_3, eqs_1_0, eqs_1_1, eqs_1_2, eqs_1_3, eqs_2_0, eqs_2_1, eqs_2_2, eqs_2_3, eqs_3_0, eqs_3_1, eqs_3_2, eqs_3_3, List.length_map]
    have e := h f y hw hy
    rw [Int.natCast_emod] at e
    exact ⟨by omega, by simp [LINE], e⟩

theorem spec_least {M : Sto} {ds : List Int} (hd : 0 < ds.length) (hl : ds.length ≤ 60) (Q : PV → Sto → Prop) (h : Q (if ds.sum < 0 then .non else .int (-lw ds (2 * ds.length))) M) : pwR (R_least_brim [.tup (ds.map PV.int)] M) Q := by
  rw [run_least_brim]; unfold B_least_brim
  simp only [↓b_cons, ↓b_nil, ↓st_asg, ↓st_setI, ↓st_expr, ↓st_ret, ↓st_retN, ↓st_ife, ↓st_for, ↓st_whl, ↓st_pass, ↓e_nam, ↓e_non, ↓e_bl, ↓e_int, ↓e_str, ↓e_tup, ↓e_lst, ↓e_bin, ↓e_neg, ↓e_nt, ↓e_cmp, ↓e_chn, ↓e_and, ↓e_or, ↓e_ife, ↓e_sub, ↓e_slc, ↓e_slcL, ↓e_slcH, ↓e_blt, ↓e_isi, ↓e_meth, ↓e_meth0, ↓e_lc, ↓l_nil, ↓l_cons, ↓and_nil, ↓and_b, ↓or_nil, ↓or_b, ↓t_nil, ↓t_cons, ↓i_seq, ↓i_rng1, ↓i_rng2, ↓finQ_f, ↓finQ_t, isB_bl, isI_int, isS_some, isS_none, isS_map, pw_add, pw_sub, pw_mul, pw_div, pw_mod, pw_pow, pw_addT, pw_addS, opC_lt, opC_le, opC_gt, opC_ge, opC_eqI, opC_neI, opC_neS, Option.map_some, asg_one, asg_tup, setAll_nil, setAll_cons, len_tup, sum_tup, tuple_tup, list_tup, min_int, max_int, ixt_tup, atI_0, atI_1, atI_2, atI_3, decide_eq_true_eq, Bool.not_eq_true', decide_eq_false_iff_not, List.map_cons, List.map_nil, List.set_cons_zero, List.set_cons_succ, List.getElem?_cons_zero, List.getElem?_cons_succ, List.cons_append, List.nil_append, List.length_cons, List.length_nil, Nat.reduceAdd, Nat.reduceSub, true_and, and_true, if_true, if_false, eq_self, Bool.false_eq_true, Bool.not_true, Bool.not_false, seqW_tup, ty_tt, ty_ss, ty_ii, ty_bi, ty_bb, ty_ib, tr_b, tr_n, ↓pwR_boolB, MulP, DivP, or_true, true_or, Int.reduceLT, Int.reduceLE, Int.reduceNeg, Int.reducePow, Int.reduceToNat, Int.cast_ofNat_Int, Int.natCast_zero, Int.natCast_one, Int.reduceEq, Bool.true_eq_false, not_true_eq_false, not_false_eq_true, ↓c_least_brim_deepest, u_least_brim_R1, B_least_brim_R1d, eqs_0_0, eqs_0_1, eqs_0_2, eqs_0_3, eqs_1_0, eqs_1_1, eqs_1_2, eqs_1_3, eqs_2_0, eqs_2_1, eqs_2_2, eqs_2_3, eqs_3_0, eqs_3_1, eqs_3_2, eqs_3_3]
  split
  · rename_i hs
    rw [if_pos hs] at h
    exact h
  · rename_i hs
    rw [if_neg hs] at h
    refine spec_deepest hd hl _ fun x y _ _ => ?_
    simp only [↓b_cons, ↓b_nil, ↓st_asg, ↓st_setI, ↓st_expr, ↓st_ret, ↓st_retN, ↓st_ife, ↓st_for, ↓st_whl, ↓st_pass, ↓e_nam, ↓e_non, ↓e_bl, ↓e_int, ↓e_str, ↓e_tup, ↓e_lst, ↓e_bin, ↓e_neg, ↓e_nt, ↓e_cmp, ↓e_chn, ↓e_and, ↓e_or, ↓e_ife, ↓e_sub, ↓e_slc, ↓e_slcL, ↓e_slcH, ↓e_blt, ↓e_isi, ↓e_meth, ↓e_meth0, ↓e_lc, ↓l_nil, ↓l_cons, ↓and_nil, ↓and_b, ↓or_nil, ↓or_b, ↓t_nil, ↓t_cons, ↓i_seq, ↓i_rng1, ↓i_rng2, ↓finQ_f, ↓finQ_t, isB_bl, isI_int, isS_some, isS_none, isS_map, pw_add, pw_sub, pw_mul, pw_div, pw_mod, pw_pow, pw_addT, pw_addS, opC_lt, opC_le, opC_gt, opC_ge, opC_eqI, opC_neI, opC_neS, Option.map_some, asg_one, asg_tup, setAll_nil, setAll_cons, len_tup, sum_tup, tuple_tup, list_tup, min_int, max_int, ixt_tup, atI_0, atI_1, atI_2, atI_3, decide_eq_true_eq, Bool.not_eq_true', decide_eq_false_iff_not, List.map_cons, List.map_nil, List.set_cons_zero, List.set_cons_succ, List.getElem?_cons_zero, List.getElem?_cons_succ, List.cons_append, List.nil_append, List.length_cons, List.length_nil, Nat.reduceAdd, Nat.reduceSub, true_and, and_true, if_true, if_false, eq_self, Bool.false_eq_true, Bool.not_true, Bool.not_false, seqW_tup, ty_tt, ty_ss, ty_ii, ty_bi, ty_bb, ty_ib, tr_b, tr_n, ↓pwR_boolB, MulP, DivP, or_true, true_or, Int.reduceLT, Int.reduceLE, Int.reduceNeg, Int.reducePow, Int.reduceToNat, Int.cast_ofNat_Int, Int.natCast_zero, Int.natCast_one, Int.reduceEq, Bool.true_eq_false, not_true_eq_false, not_false_eq_true, ↓c_least_brim_deepest, u_least_brim_R1, B_least_brim_R1d, eqs_0_0, eqs_0_1, eqs_0_2, eqs_0_3, eqs_1_0, eqs_1_1, eqs_1_2, eqs_1_3, eqs_2_0, eqs_2_1, eqs_2_2, eqs_2_3, eqs_3_0, eqs_3_1, eqs_3_2, eqs_3_3]
    rw [Int.zero_sub]
    exact h

theorem spec_lasting {M : Sto} {ds : List Int} (hd : 0 < ds.length) (hl : ds.length ≤ 60) (hb : ∀ x ∈ ds, Bd x) (b : Int) (Q : PV → Sto → Prop)
    (h1 : ds.sum < 0 → Q (.tup [.str (Str.ofString "dries").cps.toList, .int 0, .int ((ds.length : Int) * (b / (0 - ds.sum) + 1))]) M)
    (h2 : 0 ≤ ds.sum → lw ds (2 * ds.length) + b < 0 → ∀ (f y : Nat), (lw ds (2 * ds.length) < 0 → 1 ≤ y ∧ ps ds y f = lw ds (2 * ds.length)) → y ≤ 2 * ds.length → Q (.tup [.str (Str.ofString "dries").cps.toList, .int ((f % ds.length : Nat) : Int), .int y]) M)
    (h3 : 0 ≤ ds.sum → 0 ≤ lw ds (2 * ds.length) + b → Q (.tup [.str (Str.ofString "lasts").cps.toList, .int (0 - SW.lo ds ds.length)]) M) : pwR (R_lasting [.int b, .tup (ds.map PV.int)] M) Q := by
  have sb := bd_sum hb
  rw [run_lasting]; unfold B_lasting
  simp only [↓b_cons, ↓b_nil, ↓st_asg, ↓st_setI, ↓st_expr, ↓st_ret, ↓st_retN, ↓st_ife, ↓st_for, ↓st_whl, ↓st_pass, ↓e_nam, ↓e_non, ↓e_bl, ↓e_int, ↓e_str, ↓e_tup, ↓e_lst, ↓e_bin, ↓e_neg, ↓e_nt, ↓e_cmp, ↓e_chn, ↓e_and, ↓e_or, ↓e_ife, ↓e_sub, ↓e_slc, ↓e_slcL, ↓e_slcH, ↓e_blt, ↓e_isi, ↓e_meth, ↓e_meth0, ↓e_lc, ↓l_nil, ↓l_cons, ↓and_nil, ↓and_b, ↓or_nil, ↓or_b, ↓t_nil, ↓t_cons, ↓i_seq, ↓i_rng1, ↓i_rng2, ↓finQ_f, ↓finQ_t, isB_bl, isI_int, isS_some, isS_none, isS_map, pw_add, pw_sub, pw_mul, pw_div, pw_mod, pw_pow, pw_addT, pw_addS, opC_lt, opC_le, opC_gt, opC_ge, opC_eqI, opC_neI, opC_neS, Option.map_some, asg_one, asg_tup, setAll_nil, setAll_cons, len_tup, sum_tup, tuple_tup, list_tup, min_int, max_int, ixt_tup, atI_0, atI_1, atI_2, atI_3, decide_eq_true_eq, Bool.not_eq_true', decide_eq_false_iff_not, List.map_cons, List.map_nil, List.set_cons_zero, List.set_cons_succ, List.getElem?_cons_zero, List.getElem?_cons_succ, List.cons_append, List.nil_append, List.length_cons, List.length_nil, Nat.reduceAdd, Nat.reduceSub, true_and, and_true, if_true, if_false, eq_self, Bool.false_eq_true, Bool.not_true, Bool.not_false, seqW_tup, ty_tt, ty_ss, ty_ii, ty_bi, ty_bb, ty_ib, tr_b, tr_n, ↓pwR_boolB, MulP, DivP, or_true, true_or, Int.reduceLT, Int.reduceLE, Int.reduceNeg, Int.reducePow, Int.reduceToNat, Int.cast_ofNat_Int, Int.natCast_zero, Int.natCast_one, Int.reduceEq, Bool.true_eq_false, not_true_eq_false, not_false_eq_true, ↓c_lasting_deepest, ↓c_lasting_lowest, u_lasting_R1, B_lasting_R1d, u_lasting_R2, B_lasting_R2d, eqs_0_0, eqs_0_1, eqs_0_2, eqs_0_3, eqs_1_0, eqs_1_1, eqs_1_2, eqs_1_3, eqs_2_0, eqs_2_1, eqs_2_2, eqs_2_3, eqs_3_0, eqs_3_1, eqs_3_2, eqs_3_3, List.length_map]
  split
  · rename_i hs
    exact ⟨by omega, by omega, by simp [LINE], h1 hs⟩
  · rename_i hs
    refine spec_deepest hd hl _ fun f y hw hy => ?_
    simp only [↓b_cons, ↓b_nil, ↓st_asg, ↓st_setI, ↓st_expr, ↓st_ret, ↓st_retN, ↓st_ife, ↓st_for, ↓st_whl, ↓st_pass, ↓e_nam, ↓e_non, ↓e_bl, ↓e_int, ↓e_str, ↓e_tup, ↓e_lst, ↓e_bin, ↓e_neg, ↓e_nt, ↓e_cmp, ↓e_chn, ↓e_and, ↓e_or, ↓e_ife, ↓e_sub, ↓e_slc, ↓e_slcL, ↓e_slcH, ↓e_blt, ↓e_isi, ↓e_meth, ↓e_meth0, ↓e_lc, ↓l_nil, ↓l_cons, ↓and_nil, ↓and_b, ↓or_nil, ↓or_b, ↓t_nil, ↓t_cons, ↓i_seq, ↓i_rng1, ↓i_rng2, ↓finQ_f, ↓finQ_t, isB_bl, isI_int, isS_some, isS_none, isS_map, pw_add, pw_sub, pw_mul, pw_div, pw_mod, pw_pow, pw_addT, pw_addS, opC_lt, opC_le, opC_gt, opC_ge, opC_eqI, opC_neI, opC_neS, Option.map_some, asg_one, asg_tup, setAll_nil, setAll_cons, len_tup, sum_tup, tuple_tup, list_tup, min_int, max_int, ixt_tup, atI_0, atI_1, atI_2, atI_3, decide_eq_true_eq, Bool.not_eq_true', decide_eq_false_iff_not, List.map_cons, List.map_nil, List.set_cons_zero, List.set_cons_succ, List.getElem?_cons_zero, List.getElem?_cons_succ, List.cons_append, List.nil_append, List.length_cons, List.length_nil, Nat.reduceAdd, Nat.reduceSub, true_and, and_true, if_true, if_false, eq_self, Bool.false_eq_true, Bool.not_true, Bool.not_false, seqW_tup, ty_tt, ty_ss, ty_ii, ty_bi, ty_bb, ty_ib, tr_b, tr_n, ↓pwR_boolB, MulP, DivP, or_true, true_or, Int.reduceLT, Int.reduceLE, Int.reduceNeg, Int.reducePow, Int.reduceToNat, Int.cast_ofNat_Int, Int.natCast_zero, Int.natCast_one, Int.reduceEq, Bool.true_eq_false, not_true_eq_false, not_false_eq_true, ↓c_lasting_deepest, ↓c_lasting_lowest, u_lasting_R1, B_lasting_R1d, u_lasting_R2, B_lasting_R2d, eqs_0_0, eqs_0_1, eqs_0_2, eqs_0_3, eqs_1_0, eqs_1_1, eqs_1_2, eqs_1_3, eqs_2_0, eqs_2_1, eqs_2_2, eqs_2_3, eqs_3_0, eqs_3_1, eqs_3_2, eqs_3_3]
    split
    · rename_i hc
      exact ⟨by simp [LINE], h2 (by omega) hc f y hw hy⟩
    · rename_i hc
      refine spec_lowest _ ?_
      simp only [↓b_cons, ↓b_nil, ↓st_asg, ↓st_setI, ↓st_expr, ↓st_ret, ↓st_retN, ↓st_ife, ↓st_for, ↓st_whl, ↓st_pass, ↓e_nam, ↓e_non, ↓e_bl, ↓e_int, ↓e_str, ↓e_tup, ↓e_lst, ↓e_bin, ↓e_neg, ↓e_nt, ↓e_cmp, ↓e_chn, ↓e_and, ↓e_or, ↓e_ife, ↓e_sub, ↓e_slc, ↓e_slcL, ↓e_slcH, ↓e_blt, ↓e_isi, ↓e_meth, ↓e_meth0, ↓e_lc, ↓l_nil, ↓l_cons, ↓and_nil, ↓and_b, ↓or_nil, ↓or_b, ↓t_nil, ↓t_cons, ↓i_seq, ↓i_rng1, ↓i_rng2, ↓finQ_f, ↓finQ_t, isB_bl, isI_int, isS_some, isS_none, isS_map, pw_add, pw_sub, pw_mul, pw_div, pw_mod, pw_pow, pw_addT, pw_addS, opC_lt, opC_le, opC_gt, opC_ge, opC_eqI, opC_neI, opC_neS, Option.map_some, asg_one, asg_tup, setAll_nil, setAll_cons, len_tup, sum_tup, tuple_tup, list_tup, min_int, max_int, ixt_tup, atI_0, atI_1, atI_2, atI_3, decide_eq_true_eq, Bool.not_eq_true', decide_eq_false_iff_not, List.map_cons, List.map_nil, List.set_cons_zero, List.set_cons_succ, List.getElem?_cons_zero, List.getElem?_cons_succ, List.cons_append, List.nil_append, List.length_cons, List.length_nil, Nat.reduceAdd, Nat.reduceSub, true_and, and_true, if_true, if_false, eq_self, Bool.false_eq_true, Bool.not_true, Bool.not_false, seqW_tup, ty_tt, ty_ss, ty_ii, ty_bi, ty_bb, ty_ib, tr_b, tr_n, ↓pwR_boolB, MulP, DivP, or_true, true_or, Int.reduceLT, Int.reduceLE, Int.reduceNeg, Int.reducePow, Int.reduceToNat, Int.cast_ofNat_Int, Int.natCast_zero, Int.natCast_one, Int.reduceEq, Bool.true_eq_false, not_true_eq_false, not_false_eq_true, ↓c_lasting_deepest, ↓c_lasting_lowest, u_lasting_R1, B_lasting_R1d, u_lasting_R2, B_lasting_R2d, eqs_0_0, eqs_0_1, eqs_0_2, eqs_0_3, eqs_1_0, eqs_1_1, eqs_1_2, eqs_1_3, eqs_2_0, eqs_2_1, eqs_2_2, eqs_2_3, eqs_3_0, eqs_3_1, eqs_3_2, eqs_3_3]
      exact ⟨by simp [LINE], h3 (by omega) (by omega)⟩

theorem dries_neg {ds : List Int} (hd : 0 < ds.length) {b : Int} (b0 : 0 ≤ b) (hs : ds.sum < 0) : 1 ≤ (ds.length : Int) * (b / (0 - ds.sum) + 1) ∧ sg ds 0 ((ds.length : Int) * (b / (0 - ds.sum) + 1)) + b < 0 := by
  have q0 : 0 ≤ b / (0 - ds.sum) := Int.ediv_nonneg b0 (by omega)
  have lt : b < (b / (0 - ds.sum) + 1) * (0 - ds.sum) := Int.lt_ediv_add_one_mul_self b (by omega)
  generalize b / (0 - ds.sum) = q at *
  constructor
  · have : (1 : Int) * 1 ≤ (ds.length : Int) * (q + 1) := Int.mul_le_mul (by omega) (by omega) (by omega) (by omega)
    omega
  · unfold sg
    rw [Int.mul_ediv_cancel_left _ (by omega), Int.mul_emod_right]
    have e : (q + 1) * (0 - ds.sum) = -((q + 1) * ds.sum) := by rw [Int.zero_sub, Int.mul_neg]
    rw [e] at lt
    simp only [Int.toNat_zero, ps]
    omega
theorem lasts_ok {ds : List Int} (hd : 0 < ds.length) {b : Int} (hs : 0 ≤ ds.sum) (hb : 0 ≤ lw ds (2 * ds.length) + b) : ∀ i, i ≤ 2 * ds.length → 0 ≤ 0 - SW.lo ds ds.length + ps ds i 0 := by
  intro i hi
  by_cases c : i ≤ ds.length
  · have := lo_le (ds := ds) c
    omega
  · have e := ps_add (ds := ds) ds.length (i - ds.length) 0
    have p := ps_per (ds := ds) (i - ds.length) 0 1
    rw [show ds.length + (i - ds.length) = i from by omega, ps_all] at e
    rw [Nat.one_mul] at p
    rw [p] at e
    have := lo_le (ds := ds) (k := ds.length) (s := i - ds.length) (by omega)
    omega

theorem never_dry {ds : List Int} (hd : 0 < ds.length) {b l : Int} (b0 : 0 ≤ b) (lb : l ≤ b) (hs : 0 ≤ ds.sum) (hc : 0 ≤ lw ds (2 * ds.length) + b) (hl : 0 - SW.lo ds ds.length ≤ l) (N : Nat) : (wk ds b N 0 l).1 = false := by
  have pre : ∀ a c, (wk ds b (a + c) 0 l).1 = false → (wk ds b a 0 l).1 = false := fun a c h => by
    rw [wk_add] at h
    split at h
    · exact h
    · rename_i q; simpa using q
  have two := wk_last (ds := ds) (b := b) (least := 0 - SW.lo ds ds.length) (N := 2 * ds.length) (by omega) (lasts_ok hd hs hc) (2 * ds.length) 0 l (by omega) (.inl (by simp only [ps]; omega))
  have up := (rounds_up b0 lb hs two).2 N
  have e : (wk ds b (2 * ds.length + N * ds.length) 0 l).1 = false := by
    rw [wk_add, if_neg (by rw [two]; simp), wk_per, up]
  refine pre N (2 * ds.length + N * ds.length - N) ?_
  rw [show N + (2 * ds.length + N * ds.length - N) = 2 * ds.length + N * ds.length from by
    have : N * 1 ≤ N * ds.length := Nat.mul_le_mul_left _ hd
    omega]
  exact e

def lasts (ds : List Int) (b : Int) : Bool := decide (0 ≤ ds.sum) && decide (0 ≤ lw ds (2 * ds.length) + b)
theorem spec_told {M : Sto} {ds : List Int} (hd : 0 < ds.length) (hl : ds.length ≤ 60) (hb : ∀ x ∈ ds, Bd x) (b : Int) (b0 : 0 ≤ b) (Q : PV → Sto → Prop)
    (h : ∀ v, v ≠ .non → (lasts ds b = true → v = .tup [.str (Str.ofString "lasts").cps.toList, .int (0 - SW.lo ds ds.length)]) → Q v M) : pwR (R_law_told [.int b, .tup (ds.map PV.int), .bl (lasts ds b)] M) Q := by
  have dd : ∀ (f m : Int), 0 ≤ f → f < ds.length → 1 ≤ m → sg ds f m + b < 0 → due ds b (.tup [.str (Str.ofString "dries").cps.toList, .int f, .int m]) = true := fun f m h0 h1 h2 h3 => by
    simp only [due, due3, dry2, Bool.and_eq_true, decide_eq_true_eq, true_and]
    exact ⟨h0, h1, h2, h3⟩
  have th : ∀ (f m : Int), Thing M (.tup [.str (Str.ofString "dries").cps.toList, .int f, .int m]) := fun f m => by
    refine ⟨?_, ?_, ?_, ?_⟩ <;> first | (intro n e; cases e; done) | (intro s e; cases e; decide +kernel)
  rw [run_law_told]; unfold B_law_told
  simp only [↓b_cons, ↓b_nil, ↓st_asg, ↓st_setI, ↓st_expr, ↓st_ret, ↓st_retN, ↓st_ife, ↓st_for, ↓st_whl, ↓st_pass, ↓e_nam, ↓e_non, ↓e_bl, ↓e_int, ↓e_str, ↓e_tup, ↓e_lst, ↓e_bin, ↓e_neg, ↓e_nt, ↓e_cmp, ↓e_chn, ↓e_and, ↓e_or, ↓e_ife, ↓e_sub, ↓e_slc, ↓e_slcL, ↓e_slcH, ↓e_blt, ↓e_isi, ↓e_meth, ↓e_meth0, ↓e_lc, ↓l_nil, ↓l_cons, ↓and_nil, ↓and_b, ↓or_nil, ↓or_b, ↓t_nil, ↓t_cons, ↓i_seq, ↓i_rng1, ↓i_rng2, ↓finQ_f, ↓finQ_t, isB_bl, isI_int, isS_some, isS_none, isS_map, pw_add, pw_sub, pw_mul, pw_div, pw_mod, pw_pow, pw_addT, pw_addS, opC_lt, opC_le, opC_gt, opC_ge, opC_eqI, opC_neI, opC_neS, Option.map_some, asg_one, asg_tup, setAll_nil, setAll_cons, len_tup, sum_tup, tuple_tup, list_tup, min_int, max_int, ixt_tup, atI_0, atI_1, atI_2, atI_3, decide_eq_true_eq, Bool.not_eq_true', decide_eq_false_iff_not, List.map_cons, List.map_nil, List.set_cons_zero, List.set_cons_succ, List.getElem?_cons_zero, List.getElem?_cons_succ, List.cons_append, List.nil_append, List.length_cons, List.length_nil, Nat.reduceAdd, Nat.reduceSub, true_and, and_true, if_true, if_false, eq_self, Bool.false_eq_true, Bool.not_true, Bool.not_false, seqW_tup, ty_tt, ty_ss, ty_ii, ty_bi, ty_bb, ty_ib, tr_b, tr_n, ↓pwR_boolB, MulP, DivP, or_true, true_or, Int.reduceLT, Int.reduceLE, Int.reduceNeg, Int.reducePow, Int.reduceToNat, Int.cast_ofNat_Int, Int.natCast_zero, Int.natCast_one, Int.reduceEq, Bool.true_eq_false, not_true_eq_false, not_false_eq_true, ↓c_law_told_lasting, ↓c_law_told_law_number, ↓c_law_told_shows_dry, u_law_told_R1, B_law_told_R1d, u_law_told_R2, B_law_told_R2d, u_law_told_R3, B_law_told_R3d, u_law_told_R4, B_law_told_R4d, eqs_0_0, eqs_0_1, eqs_0_2, eqs_0_3, eqs_1_0, eqs_1_1, eqs_1_2, eqs_1_3, eqs_2_0, eqs_2_1, eqs_2_2, eqs_2_3, eqs_3_0, eqs_3_1, eqs_3_2, eqs_3_3]
  refine spec_lasting hd hl hb _ _ (fun hs => ?_) (fun hs hc f y hw hy => ?_) (fun hs hc => ?_)
  · have g := dries_neg hd b0 hs
    have nl : lasts ds b = false := by unfold lasts; rw [decide_eq_false (by omega)]; rfl
    simp only [↓b_cons, ↓b_nil, ↓st_asg, ↓st_setI, ↓st_expr, ↓st_ret, ↓st_retN, ↓st_ife, ↓st_for, ↓st_whl, ↓st_pass, ↓e_nam, ↓e_non, ↓e_bl, ↓e_int, ↓e_str, ↓e_tup, ↓e_lst, ↓e_bin, ↓e_neg, ↓e_nt, ↓e_cmp, ↓e_chn, ↓e_and, ↓e_or, ↓e_ife, ↓e_sub, ↓e_slc, ↓e_slcL, ↓e_slcH, ↓e_blt, ↓e_isi, ↓e_meth, ↓e_meth0, ↓e_lc, ↓l_nil, ↓l_cons, ↓and_nil, ↓and_b, ↓or_nil, ↓or_b, ↓t_nil, ↓t_cons, ↓i_seq, ↓i_rng1, ↓i_rng2, ↓finQ_f, ↓finQ_t, isB_bl, isI_int, isS_some, isS_none, isS_map, pw_add, pw_sub, pw_mul, pw_div, pw_mod, pw_pow, pw_addT, pw_addS, opC_lt, opC_le, opC_gt, opC_ge, opC_eqI, opC_neI, opC_neS, Option.map_some, asg_one, asg_tup, setAll_nil, setAll_cons, len_tup, sum_tup, tuple_tup, list_tup, min_int, max_int, ixt_tup, atI_0, atI_1, atI_2, atI_3, decide_eq_true_eq, Bool.not_eq_true', decide_eq_false_iff_not, List.map_cons, List.map_nil, List.set_cons_zero, List.set_cons_succ, List.getElem?_cons_zero, List.getElem?_cons_succ, List.cons_append, List.nil_append, List.length_cons, List.length_nil, Nat.reduceAdd, Nat.reduceSub, true_and, and_true, if_true, if_false, eq_self, Bool.false_eq_true, Bool.not_true, Bool.not_false, seqW_tup, ty_tt, ty_ss, ty_ii, ty_bi, ty_bb, ty_ib, tr_b, tr_n, ↓pwR_boolB, MulP, DivP, or_true, true_or, Int.reduceLT, Int.reduceLE, Int.reduceNeg, Int.reducePow, Int.reduceToNat, Int.cast_ofNat_Int, Int.natCast_zero, Int.natCast_one, Int.reduceEq, Bool.true_eq_false, not_true_eq_false, not_false_eq_true, ↓c_law_told_lasting, ↓c_law_told_law_number, ↓c_law_told_shows_dry, u_law_told_R1, B_law_told_R1d, u_law_told_R2, B_law_told_R2d, u_law_told_R3, B_law_told_R3d, u_law_told_R4, B_law_told_R4d, eqs_0_0, eqs_0_1, eqs_0_2, eqs_0_3, eqs_1_0, eqs_1_1, eqs_1_2, eqs_1_3, eqs_2_0, eqs_2_1, eqs_2_2, eqs_2_3, eqs_3_0, eqs_3_1, eqs_3_2, eqs_3_3]
    rw [nl]
    simp only [↓b_cons, ↓b_nil, ↓st_asg, ↓st_setI, ↓st_expr, ↓st_ret, ↓st_retN, ↓st_ife, ↓st_for, ↓st_whl, ↓st_pass, ↓e_nam, ↓e_non, ↓e_bl, ↓e_int, ↓e_str, ↓e_tup, ↓e_lst, ↓e_bin, ↓e_neg, ↓e_nt, ↓e_cmp, ↓e_chn, ↓e_and, ↓e_or, ↓e_ife, ↓e_sub, ↓e_slc, ↓e_slcL, ↓e_slcH, ↓e_blt, ↓e_isi, ↓e_meth, ↓e_meth0, ↓e_lc, ↓l_nil, ↓l_cons, ↓and_nil, ↓and_b, ↓or_nil, ↓or_b, ↓t_nil, ↓t_cons, ↓i_seq, ↓i_rng1, ↓i_rng2, ↓finQ_f, ↓finQ_t, isB_bl, isI_int, isS_some, isS_none, isS_map, pw_add, pw_sub, pw_mul, pw_div, pw_mod, pw_pow, pw_addT, pw_addS, opC_lt, opC_le, opC_gt, opC_ge, opC_eqI, opC_neI, opC_neS, Option.map_some, asg_one, asg_tup, setAll_nil, setAll_cons, len_tup, sum_tup, tuple_tup, list_tup, min_int, max_int, ixt_tup, atI_0, atI_1, atI_2, atI_3, decide_eq_true_eq, Bool.not_eq_true', decide_eq_false_iff_not, List.map_cons, List.map_nil, List.set_cons_zero, List.set_cons_succ, List.getElem?_cons_zero, List.getElem?_cons_succ, List.cons_append, List.nil_append, List.length_cons, List.length_nil, Nat.reduceAdd, Nat.reduceSub, true_and, and_true, if_true, if_false, eq_self, Bool.false_eq_true, Bool.not_true, Bool.not_false, seqW_tup, ty_tt, ty_ss, ty_ii, ty_bi, ty_bb, ty_ib, tr_b, tr_n, ↓pwR_boolB, MulP, DivP, or_true, true_or, Int.reduceLT, Int.reduceLE, Int.reduceNeg, Int.reducePow, Int.reduceToNat, Int.cast_ofNat_Int, Int.natCast_zero, Int.natCast_one, Int.reduceEq, Bool.true_eq_false, not_true_eq_false, not_false_eq_true, ↓c_law_told_lasting, ↓c_law_told_law_number, ↓c_law_told_shows_dry, u_law_told_R1, B_law_told_R1d, u_law_told_R2, B_law_told_R2d, u_law_told_R3, B_law_told_R3d, u_law_told_R4, B_law_told_R4d, eqs_0_0, eqs_0_1, eqs_0_2, eqs_0_3, eqs_1_0, eqs_1_1, eqs_1_2, eqs_1_3, eqs_2_0, eqs_2_1, eqs_2_2, eqs_2_3, eqs_3_0, eqs_3_1, eqs_3_2, eqs_3_3]
    refine spec_number _ _ ?_
    simp only [↓b_cons, ↓b_nil, ↓st_asg, ↓st_setI, ↓st_expr, ↓st_ret, ↓st_retN, ↓st_ife, ↓st_for, ↓st_whl, ↓st_pass, ↓e_nam, ↓e_non, ↓e_bl, ↓e_int, ↓e_str, ↓e_tup, ↓e_lst, ↓e_bin, ↓e_neg, ↓e_nt, ↓e_cmp, ↓e_chn, ↓e_and, ↓e_or, ↓e_ife, ↓e_sub, ↓e_slc, ↓e_slcL, ↓e_slcH, ↓e_blt, ↓e_isi, ↓e_meth, ↓e_meth0, ↓e_lc, ↓l_nil, ↓l_cons, ↓and_nil, ↓and_b, ↓or_nil, ↓or_b, ↓t_nil, ↓t_cons, ↓i_seq, ↓i_rng1, ↓i_rng2, ↓finQ_f, ↓finQ_t, isB_bl, isI_int, isS_some, isS_none, isS_map, pw_add, pw_sub, pw_mul, pw_div, pw_mod, pw_pow, pw_addT, pw_addS, opC_lt, opC_le, opC_gt, opC_ge, opC_eqI, opC_neI, opC_neS, Option.map_some, asg_one, asg_tup, setAll_nil, setAll_cons, len_tup, sum_tup, tuple_tup, list_tup, min_int, max_int, ixt_tup, atI_0, atI_1, atI_2, atI_3, decide_eq_true_eq, Bool.not_eq_true', decide_eq_false_iff_not, List.map_cons, List.map_nil, List.set_cons_zero, List.set_cons_succ, List.getElem?_cons_zero, List.getElem?_cons_succ, List.cons_append, List.nil_append, List.length_cons, List.length_nil, Nat.reduceAdd, Nat.reduceSub, true_and, and_true, if_true, if_false, eq_self, Bool.false_eq_true, Bool.not_true, Bool.not_false, seqW_tup, ty_tt, ty_ss, ty_ii, ty_bi, ty_bb, ty_ib, tr_b, tr_n, ↓pwR_boolB, MulP, DivP, or_true, true_or, Int.reduceLT, Int.reduceLE, Int.reduceNeg, Int.reducePow, Int.reduceToNat, Int.cast_ofNat_Int, Int.natCast_zero, Int.natCast_one, Int.reduceEq, Bool.true_eq_false, not_true_eq_false, not_false_eq_true, ↓c_law_told_lasting, ↓c_law_told_law_number, ↓c_law_told_shows_dry, u_law_told_R1, B_law_told_R1d, u_law_told_R2, B_law_told_R2d, u_law_told_R3, B_law_told_R3d, u_law_told_R4, B_law_told_R4d, eqs_0_0, eqs_0_1, eqs_0_2, eqs_0_3, eqs_1_0, eqs_1_1, eqs_1_2, eqs_1_3, eqs_2_0, eqs_2_1, eqs_2_2, eqs_2_3, eqs_3_0, eqs_3_1, eqs_3_2, eqs_3_3]
    refine spec_number _ _ ?_
    simp only [↓b_cons, ↓b_nil, ↓st_asg, ↓st_setI, ↓st_expr, ↓st_ret, ↓st_retN, ↓st_ife, ↓st_for, ↓st_whl, ↓st_pass, ↓e_nam, ↓e_non, ↓e_bl, ↓e_int, ↓e_str, ↓e_tup, ↓e_lst, ↓e_bin, ↓e_neg, ↓e_nt, ↓e_cmp, ↓e_chn, ↓e_and, ↓e_or, ↓e_ife, ↓e_sub, ↓e_slc, ↓e_slcL, ↓e_slcH, ↓e_blt, ↓e_isi, ↓e_meth, ↓e_meth0, ↓e_lc, ↓l_nil, ↓l_cons, ↓and_nil, ↓and_b, ↓or_nil, ↓or_b, ↓t_nil, ↓t_cons, ↓i_seq, ↓i_rng1, ↓i_rng2, ↓finQ_f, ↓finQ_t, isB_bl, isI_int, isS_some, isS_none, isS_map, pw_add, pw_sub, pw_mul, pw_div, pw_mod, pw_pow, pw_addT, pw_addS, opC_lt, opC_le, opC_gt, opC_ge, opC_eqI, opC_neI, opC_neS, Option.map_some, asg_one, asg_tup, setAll_nil, setAll_cons, len_tup, sum_tup, tuple_tup, list_tup, min_int, max_int, ixt_tup, atI_0, atI_1, atI_2, atI_3, decide_eq_true_eq, Bool.not_eq_true', decide_eq_false_iff_not, List.map_cons, List.map_nil, List.set_cons_zero, List.set_cons_succ, List.getElem?_cons_zero, List.getElem?_cons_succ, List.cons_append, List.nil_append, List.length_cons, List.length_nil, Nat.reduceAdd, Nat.reduceSub, true_and, and_true, if_true, if_false, eq_self, Bool.false_eq_true, Bool.not_true, Bool.not_false, seqW_tup, ty_tt, ty_ss, ty_ii, ty_bi, ty_bb, ty_ib, tr_b, tr_n, ↓pwR_boolB, MulP, DivP, or_true, true_or, Int.reduceLT, Int.reduceLE, Int.reduceNeg, Int.reducePow, Int.reduceToNat, Int.cast_ofNat_Int, Int.natCast_zero, Int.natCast_one, Int.reduceEq, Bool.true_eq_false, not_true_eq_false, not_false_eq_true, ↓c_law_told_lasting, ↓c_law_told_law_number, ↓c_law_told_shows_dry, u_law_told_R1, B_law_told_R1d, u_law_told_R2, B_law_told_R2d, u_law_told_R3, B_law_told_R3d, u_law_told_R4, B_law_told_R4d, eqs_0_0, eqs_0_1, eqs_0_2, eqs_0_3, eqs_1_0, eqs_1_1, eqs_1_2, eqs_1_3, eqs_2_0, eqs_2_1, eqs_2_2, eqs_2_3, eqs_3_0, eqs_3_1, eqs_3_2, eqs_3_3]
    have fin := h (.tup [.str (Str.ofString "dries").cps.toList, .int 0, .int ((ds.length : Int) * (b / (0 - ds.sum) + 1))]) (by simp) (fun q => by rw [nl] at q; cases q)
    split
    · refine spec_shows hd hl hb b _ (th _ _) _ ?_
      rw [dd _ _ (by omega) (by omega) g.1 g.2]
      simp only [↓b_cons, ↓b_nil, ↓st_asg, ↓st_setI, ↓st_expr, ↓st_ret, ↓st_retN, ↓st_ife, ↓st_for, ↓st_whl, ↓st_pass, ↓e_nam, ↓e_non, ↓e_bl, ↓e_int, ↓e_str, ↓e_tup, ↓e_lst, ↓e_bin, ↓e_neg, ↓e_nt, ↓e_cmp, ↓e_chn, ↓e_and, ↓e_or, ↓e_ife, ↓e_sub, ↓e_slc, ↓e_slcL, ↓e_slcH, ↓e_blt, ↓e_isi, ↓e_meth, ↓e_meth0, ↓e_lc, ↓l_nil, ↓l_cons, ↓and_nil, ↓and_b, ↓or_nil, ↓or_b, ↓t_nil, ↓t_cons, ↓i_seq, ↓i_rng1, ↓i_rng2, ↓finQ_f, ↓finQ_t, isB_bl, isI_int, isS_some, isS_none, isS_map, pw_add, pw_sub, pw_mul, pw_div, pw_mod, pw_pow, pw_addT, pw_addS, opC_lt, opC_le, opC_gt, opC_ge, opC_eqI, opC_neI, opC_neS, Option.map_some, asg_one, asg_tup, setAll_nil, setAll_cons, len_tup, sum_tup, tuple_tup, list_tup, min_int, max_int, ixt_tup, atI_0, atI_1, atI_2, atI_3, decide_eq_true_eq, Bool.not_eq_true', decide_eq_false_iff_not, List.map_cons, List.map_nil, List.set_cons_zero, List.set_cons_succ, List.getElem?_cons_zero, List.getElem?_cons_succ, List.cons_append, List.nil_append, List.length_cons, List.length_nil, Nat.reduceAdd, Nat.reduceSub, true_and, and_true, if_true, if_false, eq_self, Bool.false_eq_true, Bool.not_true, Bool.not_false, seqW_tup, ty_tt, ty_ss, ty_ii, ty_bi, ty_bb, ty_ib, tr_b, tr_n, ↓pwR_boolB, MulP, DivP, or_true, true_or, Int.reduceLT, Int.reduceLE, Int.reduceNeg, Int.reducePow, Int.reduceToNat, Int.cast_ofNat_Int, Int.natCast_zero, Int.natCast_one, Int.reduceEq, Bool.true_eq_false, not_true_eq_false, not_false_eq_true, ↓c_law_told_lasting, ↓c_law_told_law_number, ↓c_law_told_shows_dry, u_law_told_R1, B_law_told_R1d, u_law_told_R2, B_law_told_R2d, u_law_told_R3, B_law_told_R3d, u_law_told_R4, B_law_told_R4d, eqs_0_0, eqs_0_1, eqs_0_2, eqs_0_3, eqs_1_0, eqs_1_1, eqs_1_2, eqs_1_3, eqs_2_0, eqs_2_1, eqs_2_2, eqs_2_3, eqs_3_0, eqs_3_1, eqs_3_2, eqs_3_3, is_bb]
      exact fin
    · exact fin
  · have em := Nat.mod_lt f hd
    have hw := hw (by omega)
    have nl : lasts ds b = false := by unfold lasts; rw [decide_eq_false (show ¬ 0 ≤ lw ds (2 * ds.length) + b by omega), Bool.and_false]
    simp only [↓b_cons, ↓b_nil, ↓st_asg, ↓st_setI, ↓st_expr, ↓st_ret, ↓st_retN, ↓st_ife, ↓st_for, ↓st_whl, ↓st_pass, ↓e_nam, ↓e_non, ↓e_bl, ↓e_int, ↓e_str, ↓e_tup, ↓e_lst, ↓e_bin, ↓e_neg, ↓e_nt, ↓e_cmp, ↓e_chn, ↓e_and, ↓e_or, ↓e_ife, ↓e_sub, ↓e_slc, ↓e_slcL, ↓e_slcH, ↓e_blt, ↓e_isi, ↓e_meth, ↓e_meth0, ↓e_lc, ↓l_nil, ↓l_cons, ↓and_nil, ↓and_b, ↓or_nil, ↓or_b, ↓t_nil, ↓t_cons, ↓i_seq, ↓i_rng1, ↓i_rng2, ↓finQ_f, ↓finQ_t, isB_bl, isI_int, isS_some, isS_none, isS_map, pw_add, pw_sub, pw_mul, pw_div, pw_mod, pw_pow, pw_addT, pw_addS, opC_lt, opC_le, opC_gt, opC_ge, opC_eqI, opC_neI, opC_neS, Option.map_some, asg_one, asg_tup, setAll_nil, setAll_cons, len_tup, sum_tup, tuple_tup, list_tup, min_int, max_int, ixt_tup, atI_0, atI_1, atI_2, atI_3, decide_eq_true_eq, Bool.not_eq_true', decide_eq_false_iff_not, List.map_cons, List.map_nil, List.set_cons_zero, List.set_cons_succ, List.getElem?_cons_zero, List.getElem?_cons_succ, List.cons_append, List.nil_append, List.length_cons, List.length_nil, Nat.reduceAdd, Nat.reduceSub, true_and, and_true, if_true, if_false, eq_self, Bool.false_eq_true, Bool.not_true, Bool.not_false, seqW_tup, ty_tt, ty_ss, ty_ii, ty_bi, ty_bb, ty_ib, tr_b, tr_n, ↓pwR_boolB, MulP, DivP, or_true, true_or, Int.reduceLT, Int.reduceLE, Int.reduceNeg, Int.reducePow, Int.reduceToNat, Int.cast_ofNat_Int, Int.natCast_zero, Int.natCast_one, Int.reduceEq, Bool.true_eq_false, not_true_eq_false, not_false_eq_true, ↓c_law_told_lasting, ↓c_law_told_law_number, ↓c_law_told_shows_dry, u_law_told_R1, B_law_told_R1d, u_law_told_R2, B_law_told_R2d, u_law_told_R3, B_law_told_R3d, u_law_told_R4, B_law_told_R4d, eqs_0_0, eqs_0_1, eqs_0_2, eqs_0_3, eqs_1_0, eqs_1_1, eqs_1_2, eqs_1_3, eqs_2_0, eqs_2_1, eqs_2_2, eqs_2_3, eqs_3_0, eqs_3_1, eqs_3_2, eqs_3_3]
    rw [nl]
    simp only [↓b_cons, ↓b_nil, ↓st_asg, ↓st_setI, ↓st_expr, ↓st_ret, ↓st_retN, ↓st_ife, ↓st_for, ↓st_whl, ↓st_pass, ↓e_nam, ↓e_non, ↓e_bl, ↓e_int, ↓e_str, ↓e_tup, ↓e_lst, ↓e_bin, ↓e_neg, ↓e_nt, ↓e_cmp, ↓e_chn, ↓e_and, ↓e_or, ↓e_ife, ↓e_sub, ↓e_slc, ↓e_slcL, ↓e_slcH, ↓e_blt, ↓e_isi, ↓e_meth, ↓e_meth0, ↓e_lc, ↓l_nil, ↓l_cons, ↓and_nil, ↓and_b, ↓or_nil, ↓or_b, ↓t_nil, ↓t_cons, ↓i_seq, ↓i_rng1, ↓i_rng2, ↓finQ_f, ↓finQ_t, isB_bl, isI_int, isS_some, isS_none, isS_map, pw_add, pw_sub, pw_mul, pw_div, pw_mod, pw_pow, pw_addT, pw_addS, opC_lt, opC_le, opC_gt, opC_ge, opC_eqI, opC_neI, opC_neS, Option.map_some, asg_one, asg_tup, setAll_nil, setAll_cons, len_tup, sum_tup, tuple_tup, list_tup, min_int, max_int, ixt_tup, atI_0, atI_1, atI_2, atI_3, decide_eq_true_eq, Bool.not_eq_true', decide_eq_false_iff_not, List.map_cons, List.map_nil, List.set_cons_zero, List.set_cons_succ, List.getElem?_cons_zero, List.getElem?_cons_succ, List.cons_append, List.nil_append, List.length_cons, List.length_nil, Nat.reduceAdd, Nat.reduceSub, true_and, and_true, if_true, if_false, eq_self, Bool.false_eq_true, Bool.not_true, Bool.not_false, seqW_tup, ty_tt, ty_ss, ty_ii, ty_bi, ty_bb, ty_ib, tr_b, tr_n, ↓pwR_boolB, MulP, DivP, or_true, true_or, Int.reduceLT, Int.reduceLE, Int.reduceNeg, Int.reducePow, Int.reduceToNat, Int.cast_ofNat_Int, Int.natCast_zero, Int.natCast_one, Int.reduceEq, Bool.true_eq_false, not_true_eq_false, not_false_eq_true, ↓c_law_told_lasting, ↓c_law_told_law_number, ↓c_law_told_shows_dry, u_law_told_R1, B_law_told_R1d, u_law_told_R2, B_law_told_R2d, u_law_told_R3, B_law_told_R3d, u_law_told_R4, B_law_told_R4d, eqs_0_0, eqs_0_1, eqs_0_2, eqs_0_3, eqs_1_0, eqs_1_1, eqs_1_2, eqs_1_3, eqs_2_0, eqs_2_1, eqs_2_2, eqs_2_3, eqs_3_0, eqs_3_1, eqs_3_2, eqs_3_3]
    refine spec_number _ _ ?_
    simp only [↓b_cons, ↓b_nil, ↓st_asg, ↓st_setI, ↓st_expr, ↓st_ret, ↓st_retN, ↓st_ife, ↓st_for, ↓st_whl, ↓st_pass, ↓e_nam, ↓e_non, ↓e_bl, ↓e_int, ↓e_str, ↓e_tup, ↓e_lst, ↓e_bin, ↓e_neg, ↓e_nt, ↓e_cmp, ↓e_chn, ↓e_and, ↓e_or, ↓e_ife, ↓e_sub, ↓e_slc, ↓e_slcL, ↓e_slcH, ↓e_blt, ↓e_isi, ↓e_meth, ↓e_meth0, ↓e_lc, ↓l_nil, ↓l_cons, ↓and_nil, ↓and_b, ↓or_nil, ↓or_b, ↓t_nil, ↓t_cons, ↓i_seq, ↓i_rng1, ↓i_rng2, ↓finQ_f, ↓finQ_t, isB_bl, isI_int, isS_some, isS_none, isS_map, pw_add, pw_sub, pw_mul, pw_div, pw_mod, pw_pow, pw_addT, pw_addS, opC_lt, opC_le, opC_gt, opC_ge, opC_eqI, opC_neI, opC_neS, Option.map_some, asg_one, asg_tup, setAll_nil, setAll_cons, len_tup, sum_tup, tuple_tup, list_tup, min_int, max_int, ixt_tup, atI_0, atI_1, atI_2, atI_3, decide_eq_true_eq, Bool.not_eq_true', decide_eq_false_iff_not, List.map_cons, List.map_nil, List.set_cons_zero, List.set_cons_succ, List.getElem?_cons_zero, List.getElem?_cons_succ, List.cons_append, List.nil_append, List.length_cons, List.length_nil, Nat.reduceAdd, Nat.reduceSub, true_and, and_true, if_true, if_false, eq_self, Bool.false_eq_true, Bool.not_true, Bool.not_false, seqW_tup, ty_tt, ty_ss, ty_ii, ty_bi, ty_bb, ty_ib, tr_b, tr_n, ↓pwR_boolB, MulP, DivP, or_true, true_or, Int.reduceLT, Int.reduceLE, Int.reduceNeg, Int.reducePow, Int.reduceToNat, Int.cast_ofNat_Int, Int.natCast_zero, Int.natCast_one, Int.reduceEq, Bool.true_eq_false, not_true_eq_false, not_false_eq_true, ↓c_law_told_lasting, ↓c_law_told_law_number, ↓c_law_told_shows_dry, u_law_told_R1, B_law_told_R1d, u_law_told_R2, B_law_told_R2d, u_law_told_R3, B_law_told_R3d, u_law_told_R4, B_law_told_R4d, eqs_0_0, eqs_0_1, eqs_0_2, eqs_0_3, eqs_1_0, eqs_1_1, eqs_1_2, eqs_1_3, eqs_2_0, eqs_2_1, eqs_2_2, eqs_2_3, eqs_3_0, eqs_3_1, eqs_3_2, eqs_3_3]
    refine spec_number _ _ ?_
    simp only [↓b_cons, ↓b_nil, ↓st_asg, ↓st_setI, ↓st_expr, ↓st_ret, ↓st_retN, ↓st_ife, ↓st_for, ↓st_whl, ↓st_pass, ↓e_nam, ↓e_non, ↓e_bl, ↓e_int, ↓e_str, ↓e_tup, ↓e_lst, ↓e_bin, ↓e_neg, ↓e_nt, ↓e_cmp, ↓e_chn, ↓e_and, ↓e_or, ↓e_ife, ↓e_sub, ↓e_slc, ↓e_slcL, ↓e_slcH, ↓e_blt, ↓e_isi, ↓e_meth, ↓e_meth0, ↓e_lc, ↓l_nil, ↓l_cons, ↓and_nil, ↓and_b, ↓or_nil, ↓or_b, ↓t_nil, ↓t_cons, ↓i_seq, ↓i_rng1, ↓i_rng2, ↓finQ_f, ↓finQ_t, isB_bl, isI_int, isS_some, isS_none, isS_map, pw_add, pw_sub, pw_mul, pw_div, pw_mod, pw_pow, pw_addT, pw_addS, opC_lt, opC_le, opC_gt, opC_ge, opC_eqI, opC_neI, opC_neS, Option.map_some, asg_one, asg_tup, setAll_nil, setAll_cons, len_tup, sum_tup, tuple_tup, list_tup, min_int, max_int, ixt_tup, atI_0, atI_1, atI_2, atI_3, decide_eq_true_eq, Bool.not_eq_true', decide_eq_false_iff_not, List.map_cons, List.map_nil, List.set_cons_zero, List.set_cons_succ, List.getElem?_cons_zero, List.getElem?_cons_succ, List.cons_append, List.nil_append, List.length_cons, List.length_nil, Nat.reduceAdd, Nat.reduceSub, true_and, and_true, if_true, if_false, eq_self, Bool.false_eq_true, Bool.not_true, Bool.not_false, seqW_tup, ty_tt, ty_ss, ty_ii, ty_bi, ty_bb, ty_ib, tr_b, tr_n, ↓pwR_boolB, MulP, DivP, or_true, true_or, Int.reduceLT, Int.reduceLE, Int.reduceNeg, Int.reducePow, Int.reduceToNat, Int.cast_ofNat_Int, Int.natCast_zero, Int.natCast_one, Int.reduceEq, Bool.true_eq_false, not_true_eq_false, not_false_eq_true, ↓c_law_told_lasting, ↓c_law_told_law_number, ↓c_law_told_shows_dry, u_law_told_R1, B_law_told_R1d, u_law_told_R2, B_law_told_R2d, u_law_told_R3, B_law_told_R3d, u_law_told_R4, B_law_told_R4d, eqs_0_0, eqs_0_1, eqs_0_2, eqs_0_3, eqs_1_0, eqs_1_1, eqs_1_2, eqs_1_3, eqs_2_0, eqs_2_1, eqs_2_2, eqs_2_3, eqs_3_0, eqs_3_1, eqs_3_2, eqs_3_3]
    have fin := h (.tup [.str (Str.ofString "dries").cps.toList, .int ((f % ds.length : Nat) : Int), .int y]) (by simp) (fun q => by rw [nl] at q; cases q)
    rw [if_pos (by omega)]
    refine spec_shows hd hl hb b _ (th _ _) _ ?_
    rw [dd _ _ (by omega) (by omega) (by omega) (by rw [sg_ps hd]; omega)]
    simp only [↓b_cons, ↓b_nil, ↓st_asg, ↓st_setI, ↓st_expr, ↓st_ret, ↓st_retN, ↓st_ife, ↓st_for, ↓st_whl, ↓st_pass, ↓e_nam, ↓e_non, ↓e_bl, ↓e_int, ↓e_str, ↓e_tup, ↓e_lst, ↓e_bin, ↓e_neg, ↓e_nt, ↓e_cmp, ↓e_chn, ↓e_and, ↓e_or, ↓e_ife, ↓e_sub, ↓e_slc, ↓e_slcL, ↓e_slcH, ↓e_blt, ↓e_isi, ↓e_meth, ↓e_meth0, ↓e_lc, ↓l_nil, ↓l_cons, ↓and_nil, ↓and_b, ↓or_nil, ↓or_b, ↓t_nil, ↓t_cons, ↓i_seq, ↓i_rng1, ↓i_rng2, ↓finQ_f, ↓finQ_t, isB_bl, isI_int, isS_some, isS_none, isS_map, pw_add, pw_sub, pw_mul, pw_div, pw_mod, pw_pow, pw_addT, pw_addS, opC_lt, opC_le, opC_gt, opC_ge, opC_eqI, opC_neI, opC_neS, Option.map_some, asg_one, asg_tup, setAll_nil, setAll_cons, len_tup, sum_tup, tuple_tup, list_tup, min_int, max_int, ixt_tup, atI_0, atI_1, atI_2, atI_3, decide_eq_true_eq, Bool.not_eq_true', decide_eq_false_iff_not, List.map_cons, List.map_nil, List.set_cons_zero, List.set_cons_succ, List.getElem?_cons_zero, List.getElem?_cons_succ, List.cons_append, List.nil_append, List.length_cons, List.length_nil, Nat.reduceAdd, Nat.reduceSub, true_and, and_true, if_true, if_false, eq_self, Bool.false_eq_true, Bool.not_true, Bool.not_false, seqW_tup, ty_tt, ty_ss, ty_ii, ty_bi, ty_bb, ty_ib, tr_b, tr_n, ↓pwR_boolB, MulP, DivP, or_true, true_or, Int.reduceLT, Int.reduceLE, Int.reduceNeg, Int.reducePow, Int.reduceToNat, Int.cast_ofNat_Int, Int.natCast_zero, Int.natCast_one, Int.reduceEq, Bool.true_eq_false, not_true_eq_false, not_false_eq_true, ↓c_law_told_lasting, ↓c_law_told_law_number, ↓c_law_told_shows_dry, u_law_told_R1, B_law_told_R1d, u_law_told_R2, B_law_told_R2d, u_law_told_R3, B_law_told_R3d, u_law_told_R4, B_law_told_R4d, eqs_0_0, eqs_0_1, eqs_0_2, eqs_0_3, eqs_1_0, eqs_1_1, eqs_1_2, eqs_1_3, eqs_2_0, eqs_2_1, eqs_2_2, eqs_2_3, eqs_3_0, eqs_3_1, eqs_3_2, eqs_3_3, is_bb]
    exact fin
  · have nl : lasts ds b = true := by unfold lasts; rw [decide_eq_true hs, decide_eq_true hc]; rfl
    simp only [↓b_cons, ↓b_nil, ↓st_asg, ↓st_setI, ↓st_expr, ↓st_ret, ↓st_retN, ↓st_ife, ↓st_for, ↓st_whl, ↓st_pass, ↓e_nam, ↓e_non, ↓e_bl, ↓e_int, ↓e_str, ↓e_tup, ↓e_lst, ↓e_bin, ↓e_neg, ↓e_nt, ↓e_cmp, ↓e_chn, ↓e_and, ↓e_or, ↓e_ife, ↓e_sub, ↓e_slc, ↓e_slcL, ↓e_slcH, ↓e_blt, ↓e_isi, ↓e_meth, ↓e_meth0, ↓e_lc, ↓l_nil, ↓l_cons, ↓and_nil, ↓and_b, ↓or_nil, ↓or_b, ↓t_nil, ↓t_cons, ↓i_seq, ↓i_rng1, ↓i_rng2, ↓finQ_f, ↓finQ_t, isB_bl, isI_int, isS_some, isS_none, isS_map, pw_add, pw_sub, pw_mul, pw_div, pw_mod, pw_pow, pw_addT, pw_addS, opC_lt, opC_le, opC_gt, opC_ge, opC_eqI, opC_neI, opC_neS, Option.map_some, asg_one, asg_tup, setAll_nil, setAll_cons, len_tup, sum_tup, tuple_tup, list_tup, min_int, max_int, ixt_tup, atI_0, atI_1, atI_2, atI_3, decide_eq_true_eq, Bool.not_eq_true', decide_eq_false_iff_not, List.map_cons, List.map_nil, List.set_cons_zero, List.set_cons_succ, List.getElem?_cons_zero, List.getElem?_cons_succ, List.cons_append, List.nil_append, List.length_cons, List.length_nil, Nat.reduceAdd, Nat.reduceSub, true_and, and_true, if_true, if_false, eq_self, Bool.false_eq_true, Bool.not_true, Bool.not_false, seqW_tup, ty_tt, ty_ss, ty_ii, ty_bi, ty_bb, ty_ib, tr_b, tr_n, ↓pwR_boolB, MulP, DivP, or_true, true_or, Int.reduceLT, Int.reduceLE, Int.reduceNeg, Int.reducePow, Int.reduceToNat, Int.cast_ofNat_Int, Int.natCast_zero, Int.natCast_one, Int.reduceEq, Bool.true_eq_false, not_true_eq_false, not_false_eq_true, ↓c_law_told_lasting, ↓c_law_told_law_number, ↓c_law_told_shows_dry, u_law_told_R1, B_law_told_R1d, u_law_told_R2, B_law_told_R2d, u_law_told_R3, B_law_told_R3d, u_law_told_R4, B_law_told_R4d, eqs_0_0, eqs_0_1, eqs_0_2, eqs_0_3, eqs_1_0, eqs_1_1, eqs_1_2, eqs_1_3, eqs_2_0, eqs_2_1, eqs_2_2, eqs_2_3, eqs_3_0, eqs_3_1, eqs_3_2, eqs_3_3]
    rw [nl]
    simp only [↓b_cons, ↓b_nil, ↓st_asg, ↓st_setI, ↓st_expr, ↓st_ret, ↓st_retN, ↓st_ife, ↓st_for, ↓st_whl, ↓st_pass, ↓e_nam, ↓e_non, ↓e_bl, ↓e_int, ↓e_str, ↓e_tup, ↓e_lst, ↓e_bin, ↓e_neg, ↓e_nt, ↓e_cmp, ↓e_chn, ↓e_and, ↓e_or, ↓e_ife, ↓e_sub, ↓e_slc, ↓e_slcL, ↓e_slcH, ↓e_blt, ↓e_isi, ↓e_meth, ↓e_meth0, ↓e_lc, ↓l_nil, ↓l_cons, ↓and_nil, ↓and_b, ↓or_nil, ↓or_b, ↓t_nil, ↓t_cons, ↓i_seq, ↓i_rng1, ↓i_rng2, ↓finQ_f, ↓finQ_t, isB_bl, isI_int, isS_some, isS_none, isS_map, pw_add, pw_sub, pw_mul, pw_div, pw_mod, pw_pow, pw_addT, pw_addS, opC_lt, opC_le, opC_gt, opC_ge, opC_eqI, opC_neI, opC_neS, Option.map_some, asg_one, asg_tup, setAll_nil, setAll_cons, len_tup, sum_tup, tuple_tup, list_tup, min_int, max_int, ixt_tup, atI_0, atI_1, atI_2, atI_3, decide_eq_true_eq, Bool.not_eq_true', decide_eq_false_iff_not, List.map_cons, List.map_nil, List.set_cons_zero, List.set_cons_succ, List.getElem?_cons_zero, List.getElem?_cons_succ, List.cons_append, List.nil_append, List.length_cons, List.length_nil, Nat.reduceAdd, Nat.reduceSub, true_and, and_true, if_true, if_false, eq_self, Bool.false_eq_true, Bool.not_true, Bool.not_false, seqW_tup, ty_tt, ty_ss, ty_ii, ty_bi, ty_bb, ty_ib, tr_b, tr_n, ↓pwR_boolB, MulP, DivP, or_true, true_or, Int.reduceLT, Int.reduceLE, Int.reduceNeg, Int.reducePow, Int.reduceToNat, Int.cast_ofNat_Int, Int.natCast_zero, Int.natCast_one, Int.reduceEq, Bool.true_eq_false, not_true_eq_false, not_false_eq_true, ↓c_law_told_lasting, ↓c_law_told_law_number, ↓c_law_told_shows_dry, u_law_told_R1, B_law_told_R1d, u_law_told_R2, B_law_told_R2d, u_law_told_R3, B_law_told_R3d, u_law_told_R4, B_law_told_R4d, eqs_0_0, eqs_0_1, eqs_0_2, eqs_0_3, eqs_1_0, eqs_1_1, eqs_1_2, eqs_1_3, eqs_2_0, eqs_2_1, eqs_2_2, eqs_2_3, eqs_3_0, eqs_3_1, eqs_3_2, eqs_3_3]
    refine spec_number _ _ ?_
    simp only [↓b_cons, ↓b_nil, ↓st_asg, ↓st_setI, ↓st_expr, ↓st_ret, ↓st_retN, ↓st_ife, ↓st_for, ↓st_whl, ↓st_pass, ↓e_nam, ↓e_non, ↓e_bl, ↓e_int, ↓e_str, ↓e_tup, ↓e_lst, ↓e_bin, ↓e_neg, ↓e_nt, ↓e_cmp, ↓e_chn, ↓e_and, ↓e_or, ↓e_ife, ↓e_sub, ↓e_slc, ↓e_slcL, ↓e_slcH, ↓e_blt, ↓e_isi, ↓e_meth, ↓e_meth0, ↓e_lc, ↓l_nil, ↓l_cons, ↓and_nil, ↓and_b, ↓or_nil, ↓or_b, ↓t_nil, ↓t_cons, ↓i_seq, ↓i_rng1, ↓i_rng2, ↓finQ_f, ↓finQ_t, isB_bl, isI_int, isS_some, isS_none, isS_map, pw_add, pw_sub, pw_mul, pw_div, pw_mod, pw_pow, pw_addT, pw_addS, opC_lt, opC_le, opC_gt, opC_ge, opC_eqI, opC_neI, opC_neS, Option.map_some, asg_one, asg_tup, setAll_nil, setAll_cons, len_tup, sum_tup, tuple_tup, list_tup, min_int, max_int, ixt_tup, atI_0, atI_1, atI_2, atI_3, decide_eq_true_eq, Bool.not_eq_true', decide_eq_false_iff_not, List.map_cons, List.map_nil, List.set_cons_zero, List.set_cons_succ, List.getElem?_cons_zero, List.getElem?_cons_succ, List.cons_append, List.nil_append, List.length_cons, List.length_nil, Nat.reduceAdd, Nat.reduceSub, true_and, and_true, if_true, if_false, eq_self, Bool.false_eq_true, Bool.not_true, Bool.not_false, seqW_tup, ty_tt, ty_ss, ty_ii, ty_bi, ty_bb, ty_ib, tr_b, tr_n, ↓pwR_boolB, MulP, DivP, or_true, true_or, Int.reduceLT, Int.reduceLE, Int.reduceNeg, Int.reducePow, Int.reduceToNat, Int.cast_ofNat_Int, Int.natCast_zero, Int.natCast_one, Int.reduceEq, Bool.true_eq_false, not_true_eq_false, not_false_eq_true, ↓c_law_told_lasting, ↓c_law_told_law_number, ↓c_law_told_shows_dry, u_law_told_R1, B_law_told_R1d, u_law_told_R2, B_law_told_R2d, u_law_told_R3, B_law_told_R3d, u_law_told_R4, B_law_told_R4d, eqs_0_0, eqs_0_1, eqs_0_2, eqs_0_3, eqs_1_0, eqs_1_1, eqs_1_2, eqs_1_3, eqs_2_0, eqs_2_1, eqs_2_2, eqs_2_3, eqs_3_0, eqs_3_1, eqs_3_2, eqs_3_3]
    exact h _ (by simp) (fun _ => rfl)
theorem spec_llowest {M : Sto} {ds : List Int} (hd : 0 < ds.length) (hl : ds.length ≤ 60) (Q : PV → Sto → Prop) (h : ∀ x y : Int, Q (.tup [.str (Str.ofString "dries").cps.toList, .int x, .int y]) M) : pwR (R_law_lowest [.tup (ds.map PV.int)] M) Q := by
  rw [run_law_lowest]; unfold B_law_lowest
  simp only [↓b_cons, ↓b_nil, ↓st_asg, ↓st_setI, ↓st_expr, ↓st_ret, ↓st_retN, ↓st_ife, ↓st_for, ↓st_whl, ↓st_pass, ↓e_nam, ↓e_non, ↓e_bl, ↓e_int, ↓e_str, ↓e_tup, ↓e_lst, ↓e_bin, ↓e_neg, ↓e_nt, ↓e_cmp, ↓e_chn, ↓e_and, ↓e_or, ↓e_ife, ↓e_sub, ↓e_slc, ↓e_slcL, ↓e_slcH, ↓e_blt, ↓e_isi, ↓e_meth, ↓e_meth0, ↓e_lc, ↓l_nil, ↓l_cons, ↓and_nil, ↓and_b, ↓or_nil, ↓or_b, ↓t_nil, ↓t_cons, ↓i_seq, ↓i_rng1, ↓i_rng2, ↓finQ_f, ↓finQ_t, isB_bl, isI_int, isS_some, isS_none, isS_map, pw_add, pw_sub, pw_mul, pw_div, pw_mod, pw_pow, pw_addT, pw_addS, opC_lt, opC_le, opC_gt, opC_ge, opC_eqI, opC_neI, opC_neS, Option.map_some, asg_one, asg_tup, setAll_nil, setAll_cons, len_tup, sum_tup, tuple_tup, list_tup, min_int, max_int, ixt_tup, atI_0, atI_1, atI_2, atI_3, decide_eq_true_eq, Bool.not_eq_true', decide_eq_false_iff_not, List.map_cons, List.map_nil, List.set_cons_zero, List.set_cons_succ, List.getElem?_cons_zero, List.getElem?_cons_succ, List.cons_append, List.nil_append, List.length_cons, List.length_nil, Nat.reduceAdd, Nat.reduceSub, true_and, and_true, if_true, if_false, eq_self, Bool.false_eq_true, Bool.not_true, Bool.not_false, seqW_tup, ty_tt, ty_ss, ty_ii, ty_bi, ty_bb, ty_ib, tr_b, tr_n, ↓pwR_boolB, MulP, DivP, or_true, true_or, Int.reduceLT, Int.reduceLE, Int.reduceNeg, Int.reducePow, Int.reduceToNat, Int.cast_ofNat_Int, Int.natCast_zero, Int.natCast_one, Int.reduceEq, Bool.true_eq_false, not_true_eq_false, not_false_eq_true, u_law_lowest_R1, B_law_lowest_R1d, eqs_0_0, eqs_0_1, eqs_0_2, eqs_0_3, eqs_1_0, eqs_1_1, eqs_1_2, eqs_1_3, eqs_2_0, eqs_2_1, eqs_2_2, eqs_2_3, eqs_3_0, eqs_3_1, eqs_3_2, eqs_3_3, List.length_map]
  refine ⟨by simp [small62]; omega, pw_forR (fun i T m => m = M ∧ ∃ (l f y u s : Int) (day : Option PV), T = [some (.tup (ds.map PV.int)), some (.int l), some (.int f), some (.int y), some (.int u), some (.int s), day]) ⟨rfl, 0, 0, 1, 0, 0, none, rfl⟩ ?_ ?_⟩
  · rintro i T m hi ⟨rfl, l, f, y, u, s, day, rfl⟩
    unfold B_law_lowest_1
    rw [Int.zero_add]
    simp only [↓b_cons, ↓b_nil, ↓st_asg, ↓st_setI, ↓st_expr, ↓st_ret, ↓st_retN, ↓st_ife, ↓st_for, ↓st_whl, ↓st_pass, ↓e_nam, ↓e_non, ↓e_bl, ↓e_int, ↓e_str, ↓e_tup, ↓e_lst, ↓e_bin, ↓e_neg, ↓e_nt, ↓e_cmp, ↓e_chn, ↓e_and, ↓e_or, ↓e_ife, ↓e_sub, ↓e_slc, ↓e_slcL, ↓e_slcH, ↓e_blt, ↓e_isi, ↓e_meth, ↓e_meth0, ↓e_lc, ↓l_nil, ↓l_cons, ↓and_nil, ↓and_b, ↓or_nil, ↓or_b, ↓t_nil, ↓t_cons, ↓i_seq, ↓i_rng1, ↓i_rng2, ↓finQ_f, ↓finQ_t, isB_bl, isI_int, isS_some, isS_none, isS_map, pw_add, pw_sub, pw_mul, pw_div, pw_mod, pw_pow, pw_addT, pw_addS, opC_lt, opC_le, opC_gt, opC_ge, opC_eqI, opC_neI, opC_neS, Option.map_some, asg_one, asg_tup, setAll_nil, setAll_cons, len_tup, sum_tup, tuple_tup, list_tup, min_int, max_int, ixt_tup, atI_0, atI_1, atI_2, atI_3, decide_eq_true_eq, Bool.not_eq_true', decide_eq_false_iff_not, List.map_cons, List.map_nil, List.set_cons_zero, List.set_cons_succ, List.getElem?_cons_zero, List.getElem?_cons_succ, List.cons_append, List.nil_append, List.length_cons, List.length_nil, Nat.reduceAdd, Nat.reduceSub, true_and, and_true, if_true, if_false, eq_self, Bool.false_eq_true, Bool.not_true, Bool.not_false, seqW_tup, ty_tt, ty_ss, ty_ii, ty_bi, ty_bb, ty_ib, tr_b, tr_n, ↓pwR_boolB, MulP, DivP, or_true, true_or, Int.reduceLT, Int.reduceLE, Int.reduceNeg, Int.reducePow, Int.reduceToNat, Int.cast_ofNat_Int, Int.natCast_zero, Int.natCast_one, Int.reduceEq, Bool.true_eq_false, not_true_eq_false, not_false_eq_true, u_law_lowest_R1, B_law_lowest_R1d, eqs_0_0, eqs_0_1, eqs_0_2, eqs_0_3, eqs_1_0, eqs_1_1, eqs_1_2, eqs_1_3, eqs_2_0, eqs_2_1, eqs_2_2, eqs_2_3, eqs_3_0, eqs_3_1, eqs_3_2, eqs_3_3, List.length_map, atI_dy hd]
    refine ⟨by omega, ?_⟩
    split
    · refine ⟨by omega, ?_⟩
      split <;> exact ⟨_, _, _, _, _, _, rfl⟩
    · split <;> exact ⟨_, _, _, _, _, _, rfl⟩
  · rintro T m ⟨rfl, l, f, y, u, s, day, rfl⟩
    simp only [↓b_cons, ↓b_nil, ↓st_asg, ↓st_setI, ↓st_expr, ↓st_ret, ↓st_retN, ↓st_ife, ↓st_for, ↓st_whl, ↓st_pass, ↓e_nam, ↓e_non, ↓e_bl, ↓e_int, ↓e_str, ↓e_tup, ↓e_lst, ↓e_bin, ↓e_neg, ↓e_nt, ↓e_cmp, ↓e_chn, ↓e_and, ↓e_or, ↓e_ife, ↓e_sub, ↓e_slc, ↓e_slcL, ↓e_slcH, ↓e_blt, ↓e_isi, ↓e_meth, ↓e_meth0, ↓e_lc, ↓l_nil, ↓l_cons, ↓and_nil, ↓and_b, ↓or_nil, ↓or_b, ↓t_nil, ↓t_cons, ↓i_seq, ↓i_rng1, ↓i_rng2, ↓finQ_f, ↓finQ_t, isB_bl, isI_int, isS_some, isS_none, isS_map, pw_add, pw_sub, pw_mul, pw_div, pw_mod, pw_pow, pw_addT, pw_addS, opC_lt, opC_le, opC_gt, opC_ge, opC_eqI, opC_neI, opC_neS, Option.map_some, asg_one, asg_tup, setAll_nil, setAll_cons, len_tup, sum_tup, tuple_tup, list_tup, min_int, max_int, ixt_tup, atI_0, atI_1, atI_2, atI_3, decide_eq_true_eq, Bool.not_eq_true', decide_eq_false_iff_not, List.map_cons, List.map_nil, List.set_cons_zero, List.set_cons_succ, List.getElem?_cons_zero, List.getElem?_cons_succ, List.cons_append, List.nil_append, List.length_cons, List.length_nil, Nat.reduceAdd, Nat.reduceSub, true_and, and_true, if_true, if_false, eq_self, Bool.false_eq_true, Bool.not_true, Bool.not_false, seqW_tup, ty_tt, ty_ss, ty_ii, ty_bi, ty_bb, ty_ib, tr_b, tr_n, ↓pwR_boolB, MulP, DivP, or_true, true_or, Int.reduceLT, Int.reduceLE, Int.reduceNeg, Int.reducePow, Int.reduceToNat, Int.cast_ofNat_Int, Int.natCast_zero, Int.natCast_one, Int.reduceEq, Bool.true_eq_false, not_true_eq_false, not_false_eq_true, u_law_lowest_R1, B_law_lowest_R1d, eqs_0_0, eqs_0_1, eqs_0_2, eqs_0_3, eqs_1_0, eqs_1_1, eqs_1_2, eqs_1_3, eqs_2_0, eqs_2_1, eqs_2_2, eqs_2_3, eqs_3_0, eqs_3_1, eqs_3_2, eqs_3_3]
    exact ⟨by simp [LINE], h _ _⟩
theorem spec_ends {M : Sto} {ds : List Int} (hd : 0 < ds.length) (hl : ds.length ≤ 60) (hb : ∀ x ∈ ds, Bd x) (b : Int) (b0 : 0 ≤ b) (b1 : b ≤ 1000000000000000) (Q : PV → Sto → Prop)
    (h : Q (.bl true) M) : pwR (R_law_ends [.int b, .tup (ds.map PV.int), .bl (lasts ds b)] M) Q := by
  rw [run_law_ends]; unfold B_law_ends
  simp only [↓b_cons, ↓b_nil, ↓st_asg, ↓st_setI, ↓st_expr, ↓st_ret, ↓st_retN, ↓st_ife, ↓st_for, ↓st_whl, ↓st_pass, ↓e_nam, ↓e_non, ↓e_bl, ↓e_int, ↓e_str, ↓e_tup, ↓e_lst, ↓e_bin, ↓e_neg, ↓e_nt, ↓e_cmp, ↓e_chn, ↓e_and, ↓e_or, ↓e_ife, ↓e_sub, ↓e_slc, ↓e_slcL, ↓e_slcH, ↓e_blt, ↓e_isi, ↓e_meth, ↓e_meth0, ↓e_lc, ↓l_nil, ↓l_cons, ↓and_nil, ↓and_b, ↓or_nil, ↓or_b, ↓t_nil, ↓t_cons, ↓i_seq, ↓i_rng1, ↓i_rng2, ↓finQ_f, ↓finQ_t, isB_bl, isI_int, isS_some, isS_none, isS_map, pw_add, pw_sub, pw_mul, pw_div, pw_mod, pw_pow, pw_addT, pw_addS, opC_lt, opC_le, opC_gt, opC_ge, opC_eqI, opC_neI, opC_neS, Option.map_some, asg_one, asg_tup, setAll_nil, setAll_cons, len_tup, sum_tup, tuple_tup, list_tup, min_int, max_int, ixt_tup, atI_0, atI_1, atI_2, atI_3, decide_eq_true_eq, Bool.not_eq_true', decide_eq_false_iff_not, List.map_cons, List.map_nil, List.set_cons_zero, List.set_cons_succ, List.getElem?_cons_zero, List.getElem?_cons_succ, List.cons_append, List.nil_append, List.length_cons, List.length_nil, Nat.reduceAdd, Nat.reduceSub, true_and, and_true, if_true, if_false, eq_self, Bool.false_eq_true, Bool.not_true, Bool.not_false, seqW_tup, ty_tt, ty_ss, ty_ii, ty_bi, ty_bb, ty_ib, tr_b, tr_n, ↓pwR_boolB, MulP, DivP, or_true, true_or, Int.reduceLT, Int.reduceLE, Int.reduceNeg, Int.reducePow, Int.reduceToNat, Int.cast_ofNat_Int, Int.natCast_zero, Int.natCast_one, Int.reduceEq, Bool.true_eq_false, not_true_eq_false, not_false_eq_true, ↓c_law_ends_level_behind, u_law_ends_R1, B_law_ends_R1d, eqs_0_0, eqs_0_1, eqs_0_2, eqs_0_3, eqs_1_0, eqs_1_1, eqs_1_2, eqs_1_3, eqs_2_0, eqs_2_1, eqs_2_2, eqs_2_3, eqs_3_0, eqs_3_1, eqs_3_2, eqs_3_3]
  refine spec_behind hd hl hb _ _ _ b0 b0 (Int.le_refl _) (by decide) _ ?_
  have key : (wk ds b (Int.toNat 1000000000000000000000000000000) 0 b).1 = !lasts ds b := by
    generalize hN : Int.toNat 1000000000000000000000000000000 = N
    have hN : (N : Int) = 1000000000000000000000000000000 := by omega
    by_cases hs : 0 ≤ ds.sum
    · by_cases hc : 0 ≤ lw ds (2 * ds.length) + b
      · have nl : lasts ds b = true := by unfold lasts; rw [decide_eq_true hs, decide_eq_true hc]; rfl
        rw [nl]
        have l1 := lo_nonpos (ds := ds) ds.length
        have l2 := lw_lo (ds := ds) ds.length
        have l3 := lw_mono (ds := ds) (show ds.length ≤ 2 * ds.length from by omega)
        exact never_dry hd b0 (Int.le_refl _) hs hc (by omega) N
      · have nl : lasts ds b = false := by unfold lasts; rw [decide_eq_false (show ¬ 0 ≤ lw ds (2 * ds.length) + b by omega), Bool.and_false]
        rw [nl]
        obtain q | ⟨j, j0, j1, q⟩ := lw_at (ds := ds) (2 * ds.length)
        · omega
        · have w := wk_dries (ds := ds) (b := b) b0 (2 * ds.length) 0 ⟨j, j0, by omega, by omega⟩
          rw [show b + und ds 0 = b from by simp [und]] at w
          have := wk_more (c := N - 2 * ds.length) w
          rw [show 2 * ds.length + (N - 2 * ds.length) = N from by omega] at this
          exact this
    · have nl : lasts ds b = false := by unfold lasts; rw [decide_eq_false hs]; rfl
      rw [nl]
      refine wk_low b0 N 0 b b0 ⟨N, Nat.le_refl _, ?_⟩
      rw [ps_rounds N 0 hd]
      have hB : ∀ i : Nat, dy ds i ≤ 1000000000000000 := fun i => by
        rw [dy_nat, dy_get (Nat.mod_lt i hd)]
        exact (hb _ (List.getElem_mem _)).2
      have p := ps_le (ds := ds) hB (N % ds.length) 0
      have hm := Nat.mod_lt N hd
      have e := Nat.div_add_mod N ds.length
      have q : N ≤ 60 * (N / ds.length) + 60 := by
        have : ds.length * (N / ds.length) ≤ 60 * (N / ds.length) := Nat.mul_le_mul_right _ hl
        omega
      have qs : ((N / ds.length : Nat) : Int) * ds.sum ≤ ((N / ds.length : Nat) : Int) * (-1) := Int.mul_le_mul_of_nonneg_left (by omega) (by omega)
      omega
  generalize wk ds b (Int.toNat 1000000000000000000000000000000) 0 b = r at key
  obtain ⟨r1, r2⟩ := r
  have key : r1 = !lasts ds b := key
  subst key
  cases lasts ds b
  · simp only [↓b_cons, ↓b_nil, ↓st_asg, ↓st_setI, ↓st_expr, ↓st_ret, ↓st_retN, ↓st_ife, ↓st_for, ↓st_whl, ↓st_pass, ↓e_nam, ↓e_non, ↓e_bl, ↓e_int, ↓e_str, ↓e_tup, ↓e_lst, ↓e_bin, ↓e_neg, ↓e_nt, ↓e_cmp, ↓e_chn, ↓e_and, ↓e_or, ↓e_ife, ↓e_sub, ↓e_slc, ↓e_slcL, ↓e_slcH, ↓e_blt, ↓e_isi, ↓e_meth, ↓e_meth0, ↓e_lc, ↓l_nil, ↓l_cons, ↓and_nil, ↓and_b, ↓or_nil, ↓or_b, ↓t_nil, ↓t_cons, ↓i_seq, ↓i_rng1, ↓i_rng2, ↓finQ_f, ↓finQ_t, isB_bl, isI_int, isS_some, isS_none, isS_map, pw_add, pw_sub, pw_mul, pw_div, pw_mod, pw_pow, pw_addT, pw_addS, opC_lt, opC_le, opC_gt, opC_ge, opC_eqI, opC_neI, opC_neS, Option.map_some, asg_one, asg_tup, setAll_nil, setAll_cons, len_tup, sum_tup, tuple_tup, list_tup, min_int, max_int, ixt_tup, atI_0, atI_1, atI_2, atI_3, decide_eq_true_eq, Bool.not_eq_true', decide_eq_false_iff_not, List.map_cons, List.map_nil, List.set_cons_zero, List.set_cons_succ, List.getElem?_cons_zero, List.getElem?_cons_succ, List.cons_append, List.nil_append, List.length_cons, List.length_nil, Nat.reduceAdd, Nat.reduceSub, true_and, and_true, if_true, if_false, eq_self, Bool.false_eq_true, Bool.not_true, Bool.not_false, seqW_tup, ty_tt, ty_ss, ty_ii, ty_bi, ty_bb, ty_ib, tr_b, tr_n, ↓pwR_boolB, MulP, DivP, or_true, true_or, Int.reduceLT, Int.reduceLE, Int.reduceNeg, Int.reducePow, Int.reduceToNat, Int.cast_ofNat_Int, Int.natCast_zero, Int.natCast_one, Int.reduceEq, Bool.true_eq_false, not_true_eq_false, not_false_eq_true, ↓c_law_ends_level_behind, u_law_ends_R1, B_law_ends_R1d, eqs_0_0, eqs_0_1, eqs_0_2, eqs_0_3, eqs_1_0, eqs_1_1, eqs_1_2, eqs_1_3, eqs_2_0, eqs_2_1, eqs_2_2, eqs_2_3, eqs_3_0, eqs_3_1, eqs_3_2, eqs_3_3, wP, wS_dry]
    exact h
  · simp only [↓b_cons, ↓b_nil, ↓st_asg, ↓st_setI, ↓st_expr, ↓st_ret, ↓st_retN, ↓st_ife, ↓st_for, ↓st_whl, ↓st_pass, ↓e_nam, ↓e_non, ↓e_bl, ↓e_int, ↓e_str, ↓e_tup, ↓e_lst, ↓e_bin, ↓e_neg, ↓e_nt, ↓e_cmp, ↓e_chn, ↓e_and, ↓e_or, ↓e_ife, ↓e_sub, ↓e_slc, ↓e_slcL, ↓e_slcH, ↓e_blt, ↓e_isi, ↓e_meth, ↓e_meth0, ↓e_lc, ↓l_nil, ↓l_cons, ↓and_nil, ↓and_b, ↓or_nil, ↓or_b, ↓t_nil, ↓t_cons, ↓i_seq, ↓i_rng1, ↓i_rng2, ↓finQ_f, ↓finQ_t, isB_bl, isI_int, isS_some, isS_none, isS_map, pw_add, pw_sub, pw_mul, pw_div, pw_mod, pw_pow, pw_addT, pw_addS, opC_lt, opC_le, opC_gt, opC_ge, opC_eqI, opC_neI, opC_neS, Option.map_some, asg_one, asg_tup, setAll_nil, setAll_cons, len_tup, sum_tup, tuple_tup, list_tup, min_int, max_int, ixt_tup, atI_0, atI_1, atI_2, atI_3, decide_eq_true_eq, Bool.not_eq_true', decide_eq_false_iff_not, List.map_cons, List.map_nil, List.set_cons_zero, List.set_cons_succ, List.getElem?_cons_zero, List.getElem?_cons_succ, List.cons_append, List.nil_append, List.length_cons, List.length_nil, Nat.reduceAdd, Nat.reduceSub, true_and, and_true, if_true, if_false, eq_self, Bool.false_eq_true, Bool.not_true, Bool.not_false, seqW_tup, ty_tt, ty_ss, ty_ii, ty_bi, ty_bb, ty_ib, tr_b, tr_n, ↓pwR_boolB, MulP, DivP, or_true, true_or, Int.reduceLT, Int.reduceLE, Int.reduceNeg, Int.reducePow, Int.reduceToNat, Int.cast_ofNat_Int, Int.natCast_zero, Int.natCast_one, Int.reduceEq, Bool.true_eq_false, not_true_eq_false, not_false_eq_true, ↓c_law_ends_level_behind, u_law_ends_R1, B_law_ends_R1d, eqs_0_0, eqs_0_1, eqs_0_2, eqs_0_3, eqs_1_0, eqs_1_1, eqs_1_2, eqs_1_3, eqs_2_0, eqs_2_1, eqs_2_2, eqs_2_3, eqs_3_0, eqs_3_1, eqs_3_2, eqs_3_3, wP, wS_level]
    exact h
theorem spec_right {M : Sto} {ds : List Int} (hd : 0 < ds.length) (hl : ds.length ≤ 60) (hb : ∀ x ∈ ds, Bd x) (b x y : Int) (Q : PV → Sto → Prop) (h : Q (.bl true) M) : pwR (R_law_shown_right [.int b, .tup (ds.map PV.int), .tup [.str (Str.ofString "dries").cps.toList, .int x, .int y], .bl (lasts ds b)] M) Q := by
  have th : ∀ (f m : Int), Thing M (.tup [.str (Str.ofString "dries").cps.toList, .int f, .int m]) := fun f m => by
    refine ⟨?_, ?_, ?_, ?_⟩ <;> first | (intro n e; cases e; done) | (intro s e; cases e; decide +kernel)
  have lv : ∀ i : Int, Lv M (.int i) := fun i n e => by cases e
  have ed : due ds b (.tup [.str (Str.ofString "dries").cps.toList, .int x, .int y]) = dry2 ds b (.int x) (.int y) := by
    simp only [due, due3, decide_true, Bool.true_and]
  rw [run_law_shown_right]; unfold B_law_shown_right
  simp only [↓b_cons, ↓b_nil, ↓st_asg, ↓st_setI, ↓st_expr, ↓st_ret, ↓st_retN, ↓st_ife, ↓st_for, ↓st_whl, ↓st_pass, ↓e_nam, ↓e_non, ↓e_bl, ↓e_int, ↓e_str, ↓e_tup, ↓e_lst, ↓e_bin, ↓e_neg, ↓e_nt, ↓e_cmp, ↓e_chn, ↓e_and, ↓e_or, ↓e_ife, ↓e_sub, ↓e_slc, ↓e_slcL, ↓e_slcH, ↓e_blt, ↓e_isi, ↓e_meth, ↓e_meth0, ↓e_lc, ↓l_nil, ↓l_cons, ↓and_nil, ↓and_b, ↓or_nil, ↓or_b, ↓t_nil, ↓t_cons, ↓i_seq, ↓i_rng1, ↓i_rng2, ↓finQ_f, ↓finQ_t, isB_bl, isI_int, isS_some, isS_none, isS_map, pw_add, pw_sub, pw_mul, pw_div, pw_mod, pw_pow, pw_addT, pw_addS, opC_lt, opC_le, opC_gt, opC_ge, opC_eqI, opC_neI, opC_neS, Option.map_some, asg_one, asg_tup, setAll_nil, setAll_cons, len_tup, sum_tup, tuple_tup, list_tup, min_int, max_int, ixt_tup, atI_0, atI_1, atI_2, atI_3, decide_eq_true_eq, Bool.not_eq_true', decide_eq_false_iff_not, List.map_cons, List.map_nil, List.set_cons_zero, List.set_cons_succ, List.getElem?_cons_zero, List.getElem?_cons_succ, List.cons_append, List.nil_append, List.length_cons, List.length_nil, Nat.reduceAdd, Nat.reduceSub, true_and, and_true, if_true, if_false, eq_self, Bool.false_eq_true, Bool.not_true, Bool.not_false, seqW_tup, ty_tt, ty_ss, ty_ii, ty_bi, ty_bb, ty_ib, tr_b, tr_n, ↓pwR_boolB, MulP, DivP, or_true, true_or, Int.reduceLT, Int.reduceLE, Int.reduceNeg, Int.reducePow, Int.reduceToNat, Int.cast_ofNat_Int, Int.natCast_zero, Int.natCast_one, Int.reduceEq, Bool.true_eq_false, not_true_eq_false, not_false_eq_true, ↓c_law_shown_right_shows_dry, ↓c_law_shown_right_law_dries, u_law_shown_right_R1, B_law_shown_right_R1d, eqs_0_0, eqs_0_1, eqs_0_2, eqs_0_3, eqs_1_0, eqs_1_1, eqs_1_2, eqs_1_3, eqs_2_0, eqs_2_1, eqs_2_2, eqs_2_3, eqs_3_0, eqs_3_1, eqs_3_2, eqs_3_3]
  refine spec_shows hd hl hb b _ (th _ _) _ ?_
  simp only [↓b_cons, ↓b_nil, ↓st_asg, ↓st_setI, ↓st_expr, ↓st_ret, ↓st_retN, ↓st_ife, ↓st_for, ↓st_whl, ↓st_pass, ↓e_nam, ↓e_non, ↓e_bl, ↓e_int, ↓e_str, ↓e_tup, ↓e_lst, ↓e_bin, ↓e_neg, ↓e_nt, ↓e_cmp, ↓e_chn, ↓e_and, ↓e_or, ↓e_ife, ↓e_sub, ↓e_slc, ↓e_slcL, ↓e_slcH, ↓e_blt, ↓e_isi, ↓e_meth, ↓e_meth0, ↓e_lc, ↓l_nil, ↓l_cons, ↓and_nil, ↓and_b, ↓or_nil, ↓or_b, ↓t_nil, ↓t_cons, ↓i_seq, ↓i_rng1, ↓i_rng2, ↓finQ_f, ↓finQ_t, isB_bl, isI_int, isS_some, isS_none, isS_map, pw_add, pw_sub, pw_mul, pw_div, pw_mod, pw_pow, pw_addT, pw_addS, opC_lt, opC_le, opC_gt, opC_ge, opC_eqI, opC_neI, opC_neS, Option.map_some, asg_one, asg_tup, setAll_nil, setAll_cons, len_tup, sum_tup, tuple_tup, list_tup, min_int, max_int, ixt_tup, atI_0, atI_1, atI_2, atI_3, decide_eq_true_eq, Bool.not_eq_true', decide_eq_false_iff_not, List.map_cons, List.map_nil, List.set_cons_zero, List.set_cons_succ, List.getElem?_cons_zero, List.getElem?_cons_succ, List.cons_append, List.nil_append, List.length_cons, List.length_nil, Nat.reduceAdd, Nat.reduceSub, true_and, and_true, if_true, if_false, eq_self, Bool.false_eq_true, Bool.not_true, Bool.not_false, seqW_tup, ty_tt, ty_ss, ty_ii, ty_bi, ty_bb, ty_ib, tr_b, tr_n, ↓pwR_boolB, MulP, DivP, or_true, true_or, Int.reduceLT, Int.reduceLE, Int.reduceNeg, Int.reducePow, Int.reduceToNat, Int.cast_ofNat_Int, Int.natCast_zero, Int.natCast_one, Int.reduceEq, Bool.true_eq_false, not_true_eq_false, not_false_eq_true, ↓c_law_shown_right_shows_dry, ↓c_law_shown_right_law_dries, u_law_shown_right_R1, B_law_shown_right_R1d, eqs_0_0, eqs_0_1, eqs_0_2, eqs_0_3, eqs_1_0, eqs_1_1, eqs_1_2, eqs_1_3, eqs_2_0, eqs_2_1, eqs_2_2, eqs_2_3, eqs_3_0, eqs_3_1, eqs_3_2, eqs_3_3]
  refine spec_driesA hd hl hb b _ _ (lv _) (lv _) _ ?_
  rw [ed]
  simp only [↓b_cons, ↓b_nil, ↓st_asg, ↓st_setI, ↓st_expr, ↓st_ret, ↓st_retN, ↓st_ife, ↓st_for, ↓st_whl, ↓st_pass, ↓e_nam, ↓e_non, ↓e_bl, ↓e_int, ↓e_str, ↓e_tup, ↓e_lst, ↓e_bin, ↓e_neg, ↓e_nt, ↓e_cmp, ↓e_chn, ↓e_and, ↓e_or, ↓e_ife, ↓e_sub, ↓e_slc, ↓e_slcL, ↓e_slcH, ↓e_blt, ↓e_isi, ↓e_meth, ↓e_meth0, ↓e_lc, ↓l_nil, ↓l_cons, ↓and_nil, ↓and_b, ↓or_nil, ↓or_b, ↓t_nil, ↓t_cons, ↓i_seq, ↓i_rng1, ↓i_rng2, ↓finQ_f, ↓finQ_t, isB_bl, isI_int, isS_some, isS_none, isS_map, pw_add, pw_sub, pw_mul, pw_div, pw_mod, pw_pow, pw_addT, pw_addS, opC_lt, opC_le, opC_gt, opC_ge, opC_eqI, opC_neI, opC_neS, Option.map_some, asg_one, asg_tup, setAll_nil, setAll_cons, len_tup, sum_tup, tuple_tup, list_tup, min_int, max_int, ixt_tup, atI_0, atI_1, atI_2, atI_3, decide_eq_true_eq, Bool.not_eq_true', decide_eq_false_iff_not, List.map_cons, List.map_nil, List.set_cons_zero, List.set_cons_succ, List.getElem?_cons_zero, List.getElem?_cons_succ, List.cons_append, List.nil_append, List.length_cons, List.length_nil, Nat.reduceAdd, Nat.reduceSub, true_and, and_true, if_true, if_false, eq_self, Bool.false_eq_true, Bool.not_true, Bool.not_false, seqW_tup, ty_tt, ty_ss, ty_ii, ty_bi, ty_bb, ty_ib, tr_b, tr_n, ↓pwR_boolB, MulP, DivP, or_true, true_or, Int.reduceLT, Int.reduceLE, Int.reduceNeg, Int.reducePow, Int.reduceToNat, Int.cast_ofNat_Int, Int.natCast_zero, Int.natCast_one, Int.reduceEq, Bool.true_eq_false, not_true_eq_false, not_false_eq_true, ↓c_law_shown_right_shows_dry, ↓c_law_shown_right_law_dries, u_law_shown_right_R1, B_law_shown_right_R1d, eqs_0_0, eqs_0_1, eqs_0_2, eqs_0_3, eqs_1_0, eqs_1_1, eqs_1_2, eqs_1_3, eqs_2_0, eqs_2_1, eqs_2_2, eqs_2_3, eqs_3_0, eqs_3_1, eqs_3_2, eqs_3_3, opC_neB]
  rw [if_neg (by simp)]
  cases e : dry2 ds b (.int x) (.int y)
  · simp only [↓b_cons, ↓b_nil, ↓st_asg, ↓st_setI, ↓st_expr, ↓st_ret, ↓st_retN, ↓st_ife, ↓st_for, ↓st_whl, ↓st_pass, ↓e_nam, ↓e_non, ↓e_bl, ↓e_int, ↓e_str, ↓e_tup, ↓e_lst, ↓e_bin, ↓e_neg, ↓e_nt, ↓e_cmp, ↓e_chn, ↓e_and, ↓e_or, ↓e_ife, ↓e_sub, ↓e_slc, ↓e_slcL, ↓e_slcH, ↓e_blt, ↓e_isi, ↓e_meth, ↓e_meth0, ↓e_lc, ↓l_nil, ↓l_cons, ↓and_nil, ↓and_b, ↓or_nil, ↓or_b, ↓t_nil, ↓t_cons, ↓i_seq, ↓i_rng1, ↓i_rng2, ↓finQ_f, ↓finQ_t, isB_bl, isI_int, isS_some, isS_none, isS_map, pw_add, pw_sub, pw_mul, pw_div, pw_mod, pw_pow, pw_addT, pw_addS, opC_lt, opC_le, opC_gt, opC_ge, opC_eqI, opC_neI, opC_neS, Option.map_some, asg_one, asg_tup, setAll_nil, setAll_cons, len_tup, sum_tup, tuple_tup, list_tup, min_int, max_int, ixt_tup, atI_0, atI_1, atI_2, atI_3, decide_eq_true_eq, Bool.not_eq_true', decide_eq_false_iff_not, List.map_cons, List.map_nil, List.set_cons_zero, List.set_cons_succ, List.getElem?_cons_zero, List.getElem?_cons_succ, List.cons_append, List.nil_append, List.length_cons, List.length_nil, Nat.reduceAdd, Nat.reduceSub, true_and, and_true, if_true, if_false, eq_self, Bool.false_eq_true, Bool.not_true, Bool.not_false, seqW_tup, ty_tt, ty_ss, ty_ii, ty_bi, ty_bb, ty_ib, tr_b, tr_n, ↓pwR_boolB, MulP, DivP, or_true, true_or, Int.reduceLT, Int.reduceLE, Int.reduceNeg, Int.reducePow, Int.reduceToNat, Int.cast_ofNat_Int, Int.natCast_zero, Int.natCast_one, Int.reduceEq, Bool.true_eq_false, not_true_eq_false, not_false_eq_true, ↓c_law_shown_right_shows_dry, ↓c_law_shown_right_law_dries, u_law_shown_right_R1, B_law_shown_right_R1d, eqs_0_0, eqs_0_1, eqs_0_2, eqs_0_3, eqs_1_0, eqs_1_1, eqs_1_2, eqs_1_3, eqs_2_0, eqs_2_1, eqs_2_2, eqs_2_3, eqs_3_0, eqs_3_1, eqs_3_2, eqs_3_3]
    exact h
  · have nl : lasts ds b = false := by
      have e : decide (0 ≤ x ∧ x < ds.length ∧ 1 ≤ y ∧ sg ds x y + b < 0) = true := e
      rw [decide_eq_true_eq] at e
      by_cases hs : 0 ≤ ds.sum
      · have g := sg_ge hd hs e.1 e.2.1 e.2.2.1
        unfold lasts
        rw [decide_eq_false (show ¬ 0 ≤ lw ds (2 * ds.length) + b by omega), Bool.and_false]
      · unfold lasts
        rw [decide_eq_false hs]
        rfl
    rw [nl]
    simp only [↓b_cons, ↓b_nil, ↓st_asg, ↓st_setI, ↓st_expr, ↓st_ret, ↓st_retN, ↓st_ife, ↓st_for, ↓st_whl, ↓st_pass, ↓e_nam, ↓e_non, ↓e_bl, ↓e_int, ↓e_str, ↓e_tup, ↓e_lst, ↓e_bin, ↓e_neg, ↓e_nt, ↓e_cmp, ↓e_chn, ↓e_and, ↓e_or, ↓e_ife, ↓e_sub, ↓e_slc, ↓e_slcL, ↓e_slcH, ↓e_blt, ↓e_isi, ↓e_meth, ↓e_meth0, ↓e_lc, ↓l_nil, ↓l_cons, ↓and_nil, ↓and_b, ↓or_nil, ↓or_b, ↓t_nil, ↓t_cons, ↓i_seq, ↓i_rng1, ↓i_rng2, ↓finQ_f, ↓finQ_t, isB_bl, isI_int, isS_some, isS_none, isS_map, pw_add, pw_sub, pw_mul, pw_div, pw_mod, pw_pow, pw_addT, pw_addS, opC_lt, opC_le, opC_gt, opC_ge, opC_eqI, opC_neI, opC_neS, Option.map_some, asg_one, asg_tup, setAll_nil, setAll_cons, len_tup, sum_tup, tuple_tup, list_tup, min_int, max_int, ixt_tup, atI_0, atI_1, atI_2, atI_3, decide_eq_true_eq, Bool.not_eq_true', decide_eq_false_iff_not, List.map_cons, List.map_nil, List.set_cons_zero, List.set_cons_succ, List.getElem?_cons_zero, List.getElem?_cons_succ, List.cons_append, List.nil_append, List.length_cons, List.length_nil, Nat.reduceAdd, Nat.reduceSub, true_and, and_true, if_true, if_false, eq_self, Bool.false_eq_true, Bool.not_true, Bool.not_false, seqW_tup, ty_tt, ty_ss, ty_ii, ty_bi, ty_bb, ty_ib, tr_b, tr_n, ↓pwR_boolB, MulP, DivP, or_true, true_or, Int.reduceLT, Int.reduceLE, Int.reduceNeg, Int.reducePow, Int.reduceToNat, Int.cast_ofNat_Int, Int.natCast_zero, Int.natCast_one, Int.reduceEq, Bool.true_eq_false, not_true_eq_false, not_false_eq_true, ↓c_law_shown_right_shows_dry, ↓c_law_shown_right_law_dries, u_law_shown_right_R1, B_law_shown_right_R1d, eqs_0_0, eqs_0_1, eqs_0_2, eqs_0_3, eqs_1_0, eqs_1_1, eqs_1_2, eqs_1_3, eqs_2_0, eqs_2_1, eqs_2_2, eqs_2_3, eqs_3_0, eqs_3_1, eqs_3_2, eqs_3_3]
    exact h
theorem lasts_eq {ds : List Int} {b : Int} (hs : 0 ≤ ds.sum) : lasts ds b = decide (-lw ds (2 * ds.length) ≤ b) := by
  unfold lasts
  rw [decide_eq_true hs, Bool.true_and]
  congr 1
  exact propext ⟨fun h => by omega, fun h => by omega⟩
theorem lasts_no {ds : List Int} {b : Int} (hs : ds.sum < 0) : lasts ds b = false := by
  unfold lasts
  rw [decide_eq_false (by omega)]
  rfl
theorem sim0 : ∀ ns : List Int, ns.length ≤ 63 → ∃ M, R_law [.loc 0] [.frz (ns.map PV.int)] = .ok (.bl true) M := by
  intro ns hn
  have key : pwR (R_law [.loc 0] [.frz (ns.map PV.int)]) fun x _ => x = .bl true := by
    rw [run_law]; unfold B_law
    simp only [↓b_cons, ↓b_nil, ↓st_asg, ↓st_setI, ↓st_expr, ↓st_ret, ↓st_retN, ↓st_ife, ↓st_for, ↓st_whl, ↓st_pass, ↓e_nam, ↓e_non, ↓e_bl, ↓e_int, ↓e_str, ↓e_tup, ↓e_lst, ↓e_bin, ↓e_neg, ↓e_nt, ↓e_cmp, ↓e_chn, ↓e_and, ↓e_or, ↓e_ife, ↓e_sub, ↓e_slc, ↓e_slcL, ↓e_slcH, ↓e_blt, ↓e_isi, ↓e_meth, ↓e_meth0, ↓e_lc, ↓l_nil, ↓l_cons, ↓and_nil, ↓and_b, ↓or_nil, ↓or_b, ↓t_nil, ↓t_cons, ↓i_seq, ↓i_rng1, ↓i_rng2, ↓finQ_f, ↓finQ_t, isB_bl, isI_int, isS_some, isS_none, isS_map, pw_add, pw_sub, pw_mul, pw_div, pw_mod, pw_pow, pw_addT, pw_addS, opC_lt, opC_le, opC_gt, opC_ge, opC_eqI, opC_neI, opC_neS, Option.map_some, asg_one, asg_tup, setAll_nil, setAll_cons, len_tup, sum_tup, tuple_tup, list_tup, min_int, max_int, ixt_tup, atI_0, atI_1, atI_2, atI_3, decide_eq_true_eq, Bool.not_eq_true', decide_eq_false_iff_not, List.map_cons, List.map_nil, List.set_cons_zero, List.set_cons_succ, List.getElem?_cons_zero, List.getElem?_cons_succ, List.cons_append, List.nil_append, List.length_cons, List.length_nil, Nat.reduceAdd, Nat.reduceSub, true_and, and_true, if_true, if_false, eq_self, Bool.false_eq_true, Bool.not_true, Bool.not_false, seqW_tup, ty_tt, ty_ss, ty_ii, ty_bi, ty_bb, ty_ib, tr_b, tr_n, ↓pwR_boolB, MulP, DivP, or_true, true_or, Int.reduceLT, Int.reduceLE, Int.reduceNeg, Int.reducePow, Int.reduceToNat, Int.cast_ofNat_Int, Int.natCast_zero, Int.natCast_one, Int.reduceEq, Bool.true_eq_false, not_true_eq_false, not_false_eq_true, ↓c_law_law_tape, ↓c_law_law_days, ↓c_law_least_brim, ↓c_law_law_brim, ↓c_law_law_told, ↓c_law_law_large, ↓c_law_law_lowest, ↓c_law_law_number, ↓c_law_law_ends, ↓c_law_law_take, ↓c_law_law_shown_right, u_law_R1, B_law_R1d, u_law_R2, B_law_R2d, u_law_R3, B_law_R3d, eqs_0_0, eqs_0_1, eqs_0_2, eqs_0_3, eqs_1_0, eqs_1_1, eqs_1_2, eqs_1_3, eqs_2_0, eqs_2_1, eqs_2_2, eqs_2_3, eqs_3_0, eqs_3_1, eqs_3_2, eqs_3_3]
    refine spec_tape ns hn _ fun M t c hT => ?_
    simp only [↓b_cons, ↓b_nil, ↓st_asg, ↓st_setI, ↓st_expr, ↓st_ret, ↓st_retN, ↓st_ife, ↓st_for, ↓st_whl, ↓st_pass, ↓e_nam, ↓e_non, ↓e_bl, ↓e_int, ↓e_str, ↓e_tup, ↓e_lst, ↓e_bin, ↓e_neg, ↓e_nt, ↓e_cmp, ↓e_chn, ↓e_and, ↓e_or, ↓e_ife, ↓e_sub, ↓e_slc, ↓e_slcL, ↓e_slcH, ↓e_blt, ↓e_isi, ↓e_meth, ↓e_meth0, ↓e_lc, ↓l_nil, ↓l_cons, ↓and_nil, ↓and_b, ↓or_nil, ↓or_b, ↓t_nil, ↓t_cons, ↓i_seq, ↓i_rng1, ↓i_rng2, ↓finQ_f, ↓finQ_t, isB_bl, isI_int, isS_some, isS_none, isS_map, pw_add, pw_sub, pw_mul, pw_div, pw_mod, pw_pow, pw_addT, pw_addS, opC_lt, opC_le, opC_gt, opC_ge, opC_eqI, opC_neI, opC_neS, Option.map_some, asg_one, asg_tup, setAll_nil, setAll_cons, len_tup, sum_tup, tuple_tup, list_tup, min_int, max_int, ixt_tup, atI_0, atI_1, atI_2, atI_3, decide_eq_true_eq, Bool.not_eq_true', decide_eq_false_iff_not, List.map_cons, List.map_nil, List.set_cons_zero, List.set_cons_succ, List.getElem?_cons_zero, List.getElem?_cons_succ, List.cons_append, List.nil_append, List.length_cons, List.length_nil, Nat.reduceAdd, Nat.reduceSub, true_and, and_true, if_true, if_false, eq_self, Bool.false_eq_true, Bool.not_true, Bool.not_false, seqW_tup, ty_tt, ty_ss, ty_ii, ty_bi, ty_bb, ty_ib, tr_b, tr_n, ↓pwR_boolB, MulP, DivP, or_true, true_or, Int.reduceLT, Int.reduceLE, Int.reduceNeg, Int.reducePow, Int.reduceToNat, Int.cast_ofNat_Int, Int.natCast_zero, Int.natCast_one, Int.reduceEq, Bool.true_eq_false, not_true_eq_false, not_false_eq_true, ↓c_law_law_tape, ↓c_law_law_days, ↓c_law_least_brim, ↓c_law_law_brim, ↓c_law_law_told, ↓c_law_law_large, ↓c_law_law_lowest, ↓c_law_law_number, ↓c_law_law_ends, ↓c_law_law_take, ↓c_law_law_shown_right, u_law_R1, B_law_R1d, u_law_R2, B_law_R2d, u_law_R3, B_law_R3d, eqs_0_0, eqs_0_1, eqs_0_2, eqs_0_3, eqs_1_0, eqs_1_1, eqs_1_2, eqs_1_3, eqs_2_0, eqs_2_1, eqs_2_2, eqs_2_3, eqs_3_0, eqs_3_1, eqs_3_2, eqs_3_3]
    refine spec_days hT _ fun ds M1 hl hl2 hb hT1 _ => ?_
    have hd : 0 < ds.length := hl
    simp only [↓b_cons, ↓b_nil, ↓st_asg, ↓st_setI, ↓st_expr, ↓st_ret, ↓st_retN, ↓st_ife, ↓st_for, ↓st_whl, ↓st_pass, ↓e_nam, ↓e_non, ↓e_bl, ↓e_int, ↓e_str, ↓e_tup, ↓e_lst, ↓e_bin, ↓e_neg, ↓e_nt, ↓e_cmp, ↓e_chn, ↓e_and, ↓e_or, ↓e_ife, ↓e_sub, ↓e_slc, ↓e_slcL, ↓e_slcH, ↓e_blt, ↓e_isi, ↓e_meth, ↓e_meth0, ↓e_lc, ↓l_nil, ↓l_cons, ↓and_nil, ↓and_b, ↓or_nil, ↓or_b, ↓t_nil, ↓t_cons, ↓i_seq, ↓i_rng1, ↓i_rng2, ↓finQ_f, ↓finQ_t, isB_bl, isI_int, isS_some, isS_none, isS_map, pw_add, pw_sub, pw_mul, pw_div, pw_mod, pw_pow, pw_addT, pw_addS, opC_lt, opC_le, opC_gt, opC_ge, opC_eqI, opC_neI, opC_neS, Option.map_some, asg_one, asg_tup, setAll_nil, setAll_cons, len_tup, sum_tup, tuple_tup, list_tup, min_int, max_int, ixt_tup, atI_0, atI_1, atI_2, atI_3, decide_eq_true_eq, Bool.not_eq_true', decide_eq_false_iff_not, List.map_cons, List.map_nil, List.set_cons_zero, List.set_cons_succ, List.getElem?_cons_zero, List.getElem?_cons_succ, List.cons_append, List.nil_append, List.length_cons, List.length_nil, Nat.reduceAdd, Nat.reduceSub, true_and, and_true, if_true, if_false, eq_self, Bool.false_eq_true, Bool.not_true, Bool.not_false, seqW_tup, ty_tt, ty_ss, ty_ii, ty_bi, ty_bb, ty_ib, tr_b, tr_n, ↓pwR_boolB, MulP, DivP, or_true, true_or, Int.reduceLT, Int.reduceLE, Int.reduceNeg, Int.reducePow, Int.reduceToNat, Int.cast_ofNat_Int, Int.natCast_zero, Int.natCast_one, Int.reduceEq, Bool.true_eq_false, not_true_eq_false, not_false_eq_true, ↓c_law_law_tape, ↓c_law_law_days, ↓c_law_least_brim, ↓c_law_law_brim, ↓c_law_law_told, ↓c_law_law_large, ↓c_law_law_lowest, ↓c_law_law_number, ↓c_law_law_ends, ↓c_law_law_take, ↓c_law_law_shown_right, u_law_R1, B_law_R1d, u_law_R2, B_law_R2d, u_law_R3, B_law_R3d, eqs_0_0, eqs_0_1, eqs_0_2, eqs_0_3, eqs_1_0, eqs_1_1, eqs_1_2, eqs_1_3, eqs_2_0, eqs_2_1, eqs_2_2, eqs_2_3, eqs_3_0, eqs_3_1, eqs_3_2, eqs_3_3]
    refine spec_least hd hl2 _ ?_
    have rest : ∀ L : PV, ((ds.sum < 0 ∧ L = .non) ∨ (0 ≤ ds.sum ∧ L = .int (-lw ds (2 * ds.length)))) → pwS (evSs G_law B_law_R3 [some (.loc 0), some (.loc t), some (.tup (ds.map PV.int)), some L, none, none, none, none, none, none, none, none] M1) (fun x M => PV.non = PV.bl true) (fun x M => x = .bl true) := by
      intro L hL
      have tl1 := hT1.lt
      generalize hp : M1.length = p
      simp only [↓b_cons, ↓b_nil, ↓st_asg, ↓st_setI, ↓st_expr, ↓st_ret, ↓st_retN, ↓st_ife, ↓st_for, ↓st_whl, ↓st_pass, ↓e_nam, ↓e_non, ↓e_bl, ↓e_int, ↓e_str, ↓e_tup, ↓e_lst, ↓e_bin, ↓e_neg, ↓e_nt, ↓e_cmp, ↓e_chn, ↓e_and, ↓e_or, ↓e_ife, ↓e_sub, ↓e_slc, ↓e_slcL, ↓e_slcH, ↓e_blt, ↓e_isi, ↓e_meth, ↓e_meth0, ↓e_lc, ↓l_nil, ↓l_cons, ↓and_nil, ↓and_b, ↓or_nil, ↓or_b, ↓t_nil, ↓t_cons, ↓i_seq, ↓i_rng1, ↓i_rng2, ↓finQ_f, ↓finQ_t, isB_bl, isI_int, isS_some, isS_none, isS_map, pw_add, pw_sub, pw_mul, pw_div, pw_mod, pw_pow, pw_addT, pw_addS, opC_lt, opC_le, opC_gt, opC_ge, opC_eqI, opC_neI, opC_neS, Option.map_some, asg_one, asg_tup, setAll_nil, setAll_cons, len_tup, sum_tup, tuple_tup, list_tup, min_int, max_int, ixt_tup, atI_0, atI_1, atI_2, atI_3, decide_eq_true_eq, Bool.not_eq_true', decide_eq_false_iff_not, List.map_cons, List.map_nil, List.set_cons_zero, List.set_cons_succ, List.getElem?_cons_zero, List.getElem?_cons_succ, List.cons_append, List.nil_append, List.length_cons, List.length_nil, Nat.reduceAdd, Nat.reduceSub, true_and, and_true, if_true, if_false, eq_self, Bool.false_eq_true, Bool.not_true, Bool.not_false, seqW_tup, ty_tt, ty_ss, ty_ii, ty_bi, ty_bb, ty_ib, tr_b, tr_n, ↓pwR_boolB, MulP, DivP, or_true, true_or, Int.reduceLT, Int.reduceLE, Int.reduceNeg, Int.reducePow, Int.reduceToNat, Int.cast_ofNat_Int, Int.natCast_zero, Int.natCast_one, Int.reduceEq, Bool.true_eq_false, not_true_eq_false, not_false_eq_true, ↓c_law_law_tape, ↓c_law_law_days, ↓c_law_least_brim, ↓c_law_law_brim, ↓c_law_law_told, ↓c_law_law_large, ↓c_law_law_lowest, ↓c_law_law_number, ↓c_law_law_ends, ↓c_law_law_take, ↓c_law_law_shown_right, eqs_0_0, eqs_0_1, eqs_0_2, eqs_0_3, eqs_1_0, eqs_1_1, eqs_1_2, eqs_1_3, eqs_2_0, eqs_2_1, eqs_2_2, eqs_2_3, eqs_3_0, eqs_3_1, eqs_3_2, eqs_3_3, u_law_R3, B_law_R3d]
      refine ⟨by simp [LINE], by decide, pw_forR (fun i T m => ∃ (v5 v6 v7 v8 v9 v10 v11 : Option PV) (k : Nat), T = [some (.loc 0), some (.loc t), some (.tup (ds.map PV.int)), some L, some (.loc p), v5, v6, v7, v8, v9, v10, v11] ∧ Tape m t c ∧ m[p]? = some (.lst (List.replicate k (.int (0 - SW.lo ds ds.length)))) ∧ k ≤ i) ?_ ?_ ?_⟩
      · exact ⟨none, none, none, none, none, none, none, 0, by rw [hp], hT1.kept (S := []) Kept.app (by simp) (by simp), by rw [← hp]; exact get_new, Nat.le_refl _⟩
      · rintro i T m hi ⟨v5, v6, v7, v8, v9, v10, v11, k, rfl, hT2, hq2, hk⟩
        unfold B_law_1
        simp only [↓b_cons, ↓b_nil, ↓st_asg, ↓st_setI, ↓st_expr, ↓st_ret, ↓st_retN, ↓st_ife, ↓st_for, ↓st_whl, ↓st_pass, ↓e_nam, ↓e_non, ↓e_bl, ↓e_int, ↓e_str, ↓e_tup, ↓e_lst, ↓e_bin, ↓e_neg, ↓e_nt, ↓e_cmp, ↓e_chn, ↓e_and, ↓e_or, ↓e_ife, ↓e_sub, ↓e_slc, ↓e_slcL, ↓e_slcH, ↓e_blt, ↓e_isi, ↓e_meth, ↓e_meth0, ↓e_lc, ↓l_nil, ↓l_cons, ↓and_nil, ↓and_b, ↓or_nil, ↓or_b, ↓t_nil, ↓t_cons, ↓i_seq, ↓i_rng1, ↓i_rng2, ↓finQ_f, ↓finQ_t, isB_bl, isI_int, isS_some, isS_none, isS_map, pw_add, pw_sub, pw_mul, pw_div, pw_mod, pw_pow, pw_addT, pw_addS, opC_lt, opC_le, opC_gt, opC_ge, opC_eqI, opC_neI, opC_neS, Option.map_some, asg_one, asg_tup, setAll_nil, setAll_cons, len_tup, sum_tup, tuple_tup, list_tup, min_int, max_int, ixt_tup, atI_0, atI_1, atI_2, atI_3, decide_eq_true_eq, Bool.not_eq_true', decide_eq_false_iff_not, List.map_cons, List.map_nil, List.set_cons_zero, List.set_cons_succ, List.getElem?_cons_zero, List.getElem?_cons_succ, List.cons_append, List.nil_append, List.length_cons, List.length_nil, Nat.reduceAdd, Nat.reduceSub, true_and, and_true, if_true, if_false, eq_self, Bool.false_eq_true, Bool.not_true, Bool.not_false, seqW_tup, ty_tt, ty_ss, ty_ii, ty_bi, ty_bb, ty_ib, tr_b, tr_n, ↓pwR_boolB, MulP, DivP, or_true, true_or, Int.reduceLT, Int.reduceLE, Int.reduceNeg, Int.reducePow, Int.reduceToNat, Int.cast_ofNat_Int, Int.natCast_zero, Int.natCast_one, Int.reduceEq, Bool.true_eq_false, not_true_eq_false, not_false_eq_true, ↓c_law_law_tape, ↓c_law_law_days, ↓c_law_least_brim, ↓c_law_law_brim, ↓c_law_law_told, ↓c_law_law_large, ↓c_law_law_lowest, ↓c_law_law_number, ↓c_law_law_ends, ↓c_law_law_take, ↓c_law_law_shown_right, eqs_0_0, eqs_0_1, eqs_0_2, eqs_0_3, eqs_1_0, eqs_1_1, eqs_1_2, eqs_1_3, eqs_2_0, eqs_2_1, eqs_2_2, eqs_2_3, eqs_3_0, eqs_3_1, eqs_3_2, eqs_3_3]
        refine spec_brim hT2 hl2 _ fun b M3 b0 b1 hT3 kp3 => ?_
        have q3 := kp3.obj hq2 (by simp; omega)
        simp only [↓b_cons, ↓b_nil, ↓st_asg, ↓st_setI, ↓st_expr, ↓st_ret, ↓st_retN, ↓st_ife, ↓st_for, ↓st_whl, ↓st_pass, ↓e_nam, ↓e_non, ↓e_bl, ↓e_int, ↓e_str, ↓e_tup, ↓e_lst, ↓e_bin, ↓e_neg, ↓e_nt, ↓e_cmp, ↓e_chn, ↓e_ife, ↓e_sub, ↓e_slc, ↓e_slcL, ↓e_slcH, ↓e_blt, ↓e_isi, ↓e_meth, ↓e_meth0, ↓e_lc, ↓l_nil, ↓l_cons, ↓and_nil, ↓and_b, ↓or_nil, ↓or_b, ↓t_nil, ↓t_cons, ↓i_seq, ↓i_rng1, ↓i_rng2, ↓finQ_f, ↓finQ_t, isB_bl, isI_int, isS_some, isS_none, isS_map, pw_add, pw_sub, pw_mul, pw_div, pw_mod, pw_pow, pw_addT, pw_addS, opC_lt, opC_le, opC_gt, opC_ge, opC_eqI, opC_neI, opC_neS, Option.map_some, asg_one, asg_tup, setAll_nil, setAll_cons, len_tup, sum_tup, tuple_tup, list_tup, min_int, max_int, ixt_tup, atI_0, atI_1, atI_2, atI_3, decide_eq_true_eq, Bool.not_eq_true', decide_eq_false_iff_not, List.map_cons, List.map_nil, List.set_cons_zero, List.set_cons_succ, List.getElem?_cons_zero, List.getElem?_cons_succ, List.cons_append, List.nil_append, List.length_cons, List.length_nil, Nat.reduceAdd, Nat.reduceSub, true_and, and_true, if_true, if_false, eq_self, Bool.false_eq_true, Bool.not_true, Bool.not_false, seqW_tup, ty_tt, ty_ss, ty_ii, ty_bi, ty_bb, ty_ib, tr_b, tr_n, ↓pwR_boolB, MulP, DivP, or_true, true_or, Int.reduceLT, Int.reduceLE, Int.reduceNeg, Int.reducePow, Int.reduceToNat, Int.cast_ofNat_Int, Int.natCast_zero, Int.natCast_one, Int.reduceEq, Bool.true_eq_false, not_true_eq_false, not_false_eq_true, ↓c_law_law_tape, ↓c_law_law_days, ↓c_law_least_brim, ↓c_law_law_brim, ↓c_law_law_told, ↓c_law_law_large, ↓c_law_law_lowest, ↓c_law_law_number, ↓c_law_law_ends, ↓c_law_law_take, ↓c_law_law_shown_right, eqs_0_0, eqs_0_1, eqs_0_2, eqs_0_3, eqs_1_0, eqs_1_1, eqs_1_2, eqs_1_3, eqs_2_0, eqs_2_1, eqs_2_2, eqs_2_3, eqs_3_0, eqs_3_1, eqs_3_2, eqs_3_3]
        refine pwR_mono (Q := fun v m => v = .bl (lasts ds b) ∧ m = M3) ?_ ?_
        · rcases hL with ⟨hs, rfl⟩ | ⟨hs, rfl⟩
          · simp only [↓b_cons, ↓b_nil, ↓st_asg, ↓st_setI, ↓st_expr, ↓st_ret, ↓st_retN, ↓st_ife, ↓st_for, ↓st_whl, ↓st_pass, ↓e_nam, ↓e_non, ↓e_bl, ↓e_int, ↓e_str, ↓e_tup, ↓e_lst, ↓e_bin, ↓e_neg, ↓e_nt, ↓e_cmp, ↓e_chn, ↓e_and, ↓e_or, ↓e_ife, ↓e_sub, ↓e_slc, ↓e_slcL, ↓e_slcH, ↓e_blt, ↓e_isi, ↓e_meth, ↓e_meth0, ↓e_lc, ↓l_nil, ↓l_cons, ↓and_nil, ↓and_b, ↓or_nil, ↓or_b, ↓t_nil, ↓t_cons, ↓i_seq, ↓i_rng1, ↓i_rng2, ↓finQ_f, ↓finQ_t, isB_bl, isI_int, isS_some, isS_none, isS_map, pw_add, pw_sub, pw_mul, pw_div, pw_mod, pw_pow, pw_addT, pw_addS, opC_lt, opC_le, opC_gt, opC_ge, opC_eqI, opC_neI, opC_neS, Option.map_some, asg_one, asg_tup, setAll_nil, setAll_cons, len_tup, sum_tup, tuple_tup, list_tup, min_int, max_int, ixt_tup, atI_0, atI_1, atI_2, atI_3, decide_eq_true_eq, Bool.not_eq_true', decide_eq_false_iff_not, List.map_cons, List.map_nil, List.set_cons_zero, List.set_cons_succ, List.getElem?_cons_zero, List.getElem?_cons_succ, List.cons_append, List.nil_append, List.length_cons, List.length_nil, Nat.reduceAdd, Nat.reduceSub, true_and, and_true, if_true, if_false, eq_self, Bool.false_eq_true, Bool.not_true, Bool.not_false, seqW_tup, ty_tt, ty_ss, ty_ii, ty_bi, ty_bb, ty_ib, tr_b, tr_n, ↓pwR_boolB, MulP, DivP, or_true, true_or, Int.reduceLT, Int.reduceLE, Int.reduceNeg, Int.reducePow, Int.reduceToNat, Int.cast_ofNat_Int, Int.natCast_zero, Int.natCast_one, Int.reduceEq, Bool.true_eq_false, not_true_eq_false, not_false_eq_true, ↓c_law_law_tape, ↓c_law_law_days, ↓c_law_least_brim, ↓c_law_law_brim, ↓c_law_law_told, ↓c_law_law_large, ↓c_law_law_lowest, ↓c_law_law_number, ↓c_law_law_ends, ↓c_law_law_take, ↓c_law_law_shown_right, eqs_0_0, eqs_0_1, eqs_0_2, eqs_0_3, eqs_1_0, eqs_1_1, eqs_1_2, eqs_1_3, eqs_2_0, eqs_2_1, eqs_2_2, eqs_2_3, eqs_3_0, eqs_3_1, eqs_3_2, eqs_3_3, opC_isnotN]
            rw [lasts_no hs]
          · simp only [↓b_cons, ↓b_nil, ↓st_asg, ↓st_setI, ↓st_expr, ↓st_ret, ↓st_retN, ↓st_ife, ↓st_for, ↓st_whl, ↓st_pass, ↓e_nam, ↓e_non, ↓e_bl, ↓e_int, ↓e_str, ↓e_tup, ↓e_lst, ↓e_bin, ↓e_neg, ↓e_nt, ↓e_cmp, ↓e_chn, ↓e_and, ↓e_or, ↓e_ife, ↓e_sub, ↓e_slc, ↓e_slcL, ↓e_slcH, ↓e_blt, ↓e_isi, ↓e_meth, ↓e_meth0, ↓e_lc, ↓l_nil, ↓l_cons, ↓and_nil, ↓and_b, ↓or_nil, ↓or_b, ↓t_nil, ↓t_cons, ↓i_seq, ↓i_rng1, ↓i_rng2, ↓finQ_f, ↓finQ_t, isB_bl, isI_int, isS_some, isS_none, isS_map, pw_add, pw_sub, pw_mul, pw_div, pw_mod, pw_pow, pw_addT, pw_addS, opC_lt, opC_le, opC_gt, opC_ge, opC_eqI, opC_neI, opC_neS, Option.map_some, asg_one, asg_tup, setAll_nil, setAll_cons, len_tup, sum_tup, tuple_tup, list_tup, min_int, max_int, ixt_tup, atI_0, atI_1, atI_2, atI_3, decide_eq_true_eq, Bool.not_eq_true', decide_eq_false_iff_not, List.map_cons, List.map_nil, List.set_cons_zero, List.set_cons_succ, List.getElem?_cons_zero, List.getElem?_cons_succ, List.cons_append, List.nil_append, List.length_cons, List.length_nil, Nat.reduceAdd, Nat.reduceSub, true_and, and_true, if_true, if_false, eq_self, Bool.false_eq_true, Bool.not_true, Bool.not_false, seqW_tup, ty_tt, ty_ss, ty_ii, ty_bi, ty_bb, ty_ib, tr_b, tr_n, ↓pwR_boolB, MulP, DivP, or_true, true_or, Int.reduceLT, Int.reduceLE, Int.reduceNeg, Int.reducePow, Int.reduceToNat, Int.cast_ofNat_Int, Int.natCast_zero, Int.natCast_one, Int.reduceEq, Bool.true_eq_false, not_true_eq_false, not_false_eq_true, ↓c_law_law_tape, ↓c_law_law_days, ↓c_law_least_brim, ↓c_law_law_brim, ↓c_law_law_told, ↓c_law_law_large, ↓c_law_law_lowest, ↓c_law_law_number, ↓c_law_law_ends, ↓c_law_law_take, ↓c_law_law_shown_right, eqs_0_0, eqs_0_1, eqs_0_2, eqs_0_3, eqs_1_0, eqs_1_1, eqs_1_2, eqs_1_3, eqs_2_0, eqs_2_1, eqs_2_2, eqs_2_3, eqs_3_0, eqs_3_1, eqs_3_2, eqs_3_3, opC_isnotI]
            rw [lasts_eq hs]
        · rintro _ _ ⟨rfl, rfl⟩
          simp only [↓b_cons, ↓b_nil, ↓st_asg, ↓st_setI, ↓st_expr, ↓st_ret, ↓st_retN, ↓st_ife, ↓st_for, ↓st_whl, ↓st_pass, ↓e_nam, ↓e_non, ↓e_bl, ↓e_int, ↓e_str, ↓e_tup, ↓e_lst, ↓e_bin, ↓e_neg, ↓e_nt, ↓e_cmp, ↓e_chn, ↓e_and, ↓e_or, ↓e_ife, ↓e_sub, ↓e_slc, ↓e_slcL, ↓e_slcH, ↓e_blt, ↓e_isi, ↓e_meth, ↓e_meth0, ↓e_lc, ↓l_nil, ↓l_cons, ↓and_nil, ↓and_b, ↓or_nil, ↓or_b, ↓t_nil, ↓t_cons, ↓i_seq, ↓i_rng1, ↓i_rng2, ↓finQ_f, ↓finQ_t, isB_bl, isI_int, isS_some, isS_none, isS_map, pw_add, pw_sub, pw_mul, pw_div, pw_mod, pw_pow, pw_addT, pw_addS, opC_lt, opC_le, opC_gt, opC_ge, opC_eqI, opC_neI, opC_neS, Option.map_some, asg_one, asg_tup, setAll_nil, setAll_cons, len_tup, sum_tup, tuple_tup, list_tup, min_int, max_int, ixt_tup, atI_0, atI_1, atI_2, atI_3, decide_eq_true_eq, Bool.not_eq_true', decide_eq_false_iff_not, List.map_cons, List.map_nil, List.set_cons_zero, List.set_cons_succ, List.getElem?_cons_zero, List.getElem?_cons_succ, List.cons_append, List.nil_append, List.length_cons, List.length_nil, Nat.reduceAdd, Nat.reduceSub, true_and, and_true, if_true, if_false, eq_self, Bool.false_eq_true, Bool.not_true, Bool.not_false, seqW_tup, ty_tt, ty_ss, ty_ii, ty_bi, ty_bb, ty_ib, tr_b, tr_n, ↓pwR_boolB, MulP, DivP, or_true, true_or, Int.reduceLT, Int.reduceLE, Int.reduceNeg, Int.reducePow, Int.reduceToNat, Int.cast_ofNat_Int, Int.natCast_zero, Int.natCast_one, Int.reduceEq, Bool.true_eq_false, not_true_eq_false, not_false_eq_true, ↓c_law_law_tape, ↓c_law_law_days, ↓c_law_least_brim, ↓c_law_law_brim, ↓c_law_law_told, ↓c_law_law_large, ↓c_law_law_lowest, ↓c_law_law_number, ↓c_law_law_ends, ↓c_law_law_take, ↓c_law_law_shown_right, eqs_0_0, eqs_0_1, eqs_0_2, eqs_0_3, eqs_1_0, eqs_1_1, eqs_1_2, eqs_1_3, eqs_2_0, eqs_2_1, eqs_2_2, eqs_2_3, eqs_3_0, eqs_3_1, eqs_3_2, eqs_3_3]
          refine spec_told hd hl2 hb b b0 _ fun fo hfo hfl => ?_
          simp only [↓b_cons, ↓b_nil, ↓st_asg, ↓st_setI, ↓st_expr, ↓st_ret, ↓st_retN, ↓st_ife, ↓st_for, ↓st_whl, ↓st_pass, ↓e_nam, ↓e_non, ↓e_bl, ↓e_int, ↓e_str, ↓e_tup, ↓e_lst, ↓e_bin, ↓e_neg, ↓e_nt, ↓e_cmp, ↓e_chn, ↓e_and, ↓e_or, ↓e_ife, ↓e_sub, ↓e_slc, ↓e_slcL, ↓e_slcH, ↓e_blt, ↓e_isi, ↓e_meth, ↓e_meth0, ↓e_lc, ↓l_nil, ↓l_cons, ↓and_nil, ↓and_b, ↓or_nil, ↓or_b, ↓t_nil, ↓t_cons, ↓i_seq, ↓i_rng1, ↓i_rng2, ↓finQ_f, ↓finQ_t, isB_bl, isI_int, isS_some, isS_none, isS_map, pw_add, pw_sub, pw_mul, pw_div, pw_mod, pw_pow, pw_addT, pw_addS, opC_lt, opC_le, opC_gt, opC_ge, opC_eqI, opC_neI, opC_neS, Option.map_some, asg_one, asg_tup, setAll_nil, setAll_cons, len_tup, sum_tup, tuple_tup, list_tup, min_int, max_int, ixt_tup, atI_0, atI_1, atI_2, atI_3, decide_eq_true_eq, Bool.not_eq_true', decide_eq_false_iff_not, List.map_cons, List.map_nil, List.set_cons_zero, List.set_cons_succ, List.getElem?_cons_zero, List.getElem?_cons_succ, List.cons_append, List.nil_append, List.length_cons, List.length_nil, Nat.reduceAdd, Nat.reduceSub, true_and, and_true, if_true, if_false, eq_self, Bool.false_eq_true, Bool.not_true, Bool.not_false, seqW_tup, ty_tt, ty_ss, ty_ii, ty_bi, ty_bb, ty_ib, tr_b, tr_n, ↓pwR_boolB, MulP, DivP, or_true, true_or, Int.reduceLT, Int.reduceLE, Int.reduceNeg, Int.reducePow, Int.reduceToNat, Int.cast_ofNat_Int, Int.natCast_zero, Int.natCast_one, Int.reduceEq, Bool.true_eq_false, not_true_eq_false, not_false_eq_true, ↓c_law_law_tape, ↓c_law_law_days, ↓c_law_least_brim, ↓c_law_law_brim, ↓c_law_law_told, ↓c_law_law_large, ↓c_law_law_lowest, ↓c_law_law_number, ↓c_law_law_ends, ↓c_law_law_take, ↓c_law_law_shown_right, eqs_0_0, eqs_0_1, eqs_0_2, eqs_0_3, eqs_1_0, eqs_1_1, eqs_1_2, eqs_1_3, eqs_2_0, eqs_2_1, eqs_2_2, eqs_2_3, eqs_3_0, eqs_3_1, eqs_3_2, eqs_3_3]
          have isn : ∀ m, opC .Is fo .non m = some false := fun m => by
            cases fo with
            | non => exact absurd rfl hfo
            | _ => rfl
          simp only [↓b_cons, ↓b_nil, ↓st_asg, ↓st_setI, ↓st_expr, ↓st_ret, ↓st_retN, ↓st_ife, ↓st_for, ↓st_whl, ↓st_pass, ↓e_nam, ↓e_non, ↓e_bl, ↓e_int, ↓e_str, ↓e_tup, ↓e_lst, ↓e_bin, ↓e_neg, ↓e_nt, ↓e_cmp, ↓e_chn, ↓e_and, ↓e_or, ↓e_ife, ↓e_sub, ↓e_slc, ↓e_slcL, ↓e_slcH, ↓e_blt, ↓e_isi, ↓e_meth, ↓e_meth0, ↓e_lc, ↓l_nil, ↓l_cons, ↓and_nil, ↓and_b, ↓or_nil, ↓or_b, ↓t_nil, ↓t_cons, ↓i_seq, ↓i_rng1, ↓i_rng2, ↓finQ_f, ↓finQ_t, isB_bl, isI_int, isS_some, isS_none, isS_map, pw_add, pw_sub, pw_mul, pw_div, pw_mod, pw_pow, pw_addT, pw_addS, opC_lt, opC_le, opC_gt, opC_ge, opC_eqI, opC_neI, opC_neS, Option.map_some, asg_one, asg_tup, setAll_nil, setAll_cons, len_tup, sum_tup, tuple_tup, list_tup, min_int, max_int, ixt_tup, atI_0, atI_1, atI_2, atI_3, decide_eq_true_eq, Bool.not_eq_true', decide_eq_false_iff_not, List.map_cons, List.map_nil, List.set_cons_zero, List.set_cons_succ, List.getElem?_cons_zero, List.getElem?_cons_succ, List.cons_append, List.nil_append, List.length_cons, List.length_nil, Nat.reduceAdd, Nat.reduceSub, true_and, and_true, if_true, if_false, eq_self, Bool.false_eq_true, Bool.not_true, Bool.not_false, seqW_tup, ty_tt, ty_ss, ty_ii, ty_bi, ty_bb, ty_ib, tr_b, tr_n, ↓pwR_boolB, MulP, DivP, or_true, true_or, Int.reduceLT, Int.reduceLE, Int.reduceNeg, Int.reducePow, Int.reduceToNat, Int.cast_ofNat_Int, Int.natCast_zero, Int.natCast_one, Int.reduceEq, Bool.true_eq_false, not_true_eq_false, not_false_eq_true, ↓c_law_law_tape, ↓c_law_law_days, ↓c_law_least_brim, ↓c_law_law_brim, ↓c_law_law_told, ↓c_law_law_large, ↓c_law_law_lowest, ↓c_law_law_number, ↓c_law_law_ends, ↓c_law_law_take, ↓c_law_law_shown_right, eqs_0_0, eqs_0_1, eqs_0_2, eqs_0_3, eqs_1_0, eqs_1_1, eqs_1_2, eqs_1_3, eqs_2_0, eqs_2_1, eqs_2_2, eqs_2_3, eqs_3_0, eqs_3_1, eqs_3_2, eqs_3_3, isn]
          refine spec_ends hd hl2 hb b b0 b1 _ ?_
          simp only [↓b_cons, ↓b_nil, ↓st_asg, ↓st_setI, ↓st_expr, ↓st_ret, ↓st_retN, ↓st_ife, ↓st_for, ↓st_whl, ↓st_pass, ↓e_nam, ↓e_non, ↓e_bl, ↓e_int, ↓e_str, ↓e_tup, ↓e_lst, ↓e_bin, ↓e_neg, ↓e_nt, ↓e_cmp, ↓e_chn, ↓e_and, ↓e_or, ↓e_ife, ↓e_sub, ↓e_slc, ↓e_slcL, ↓e_slcH, ↓e_blt, ↓e_isi, ↓e_meth, ↓e_meth0, ↓e_lc, ↓l_nil, ↓l_cons, ↓and_nil, ↓and_b, ↓or_nil, ↓or_b, ↓t_nil, ↓t_cons, ↓i_seq, ↓i_rng1, ↓i_rng2, ↓finQ_f, ↓finQ_t, isB_bl, isI_int, isS_some, isS_none, isS_map, pw_add, pw_sub, pw_mul, pw_div, pw_mod, pw_pow, pw_addT, pw_addS, opC_lt, opC_le, opC_gt, opC_ge, opC_eqI, opC_neI, opC_neS, Option.map_some, asg_one, asg_tup, setAll_nil, setAll_cons, len_tup, sum_tup, tuple_tup, list_tup, min_int, max_int, ixt_tup, atI_0, atI_1, atI_2, atI_3, decide_eq_true_eq, Bool.not_eq_true', decide_eq_false_iff_not, List.map_cons, List.map_nil, List.set_cons_zero, List.set_cons_succ, List.getElem?_cons_zero, List.getElem?_cons_succ, List.cons_append, List.nil_append, List.length_cons, List.length_nil, Nat.reduceAdd, Nat.reduceSub, true_and, and_true, if_true, if_false, eq_self, Bool.false_eq_true, Bool.not_true, Bool.not_false, seqW_tup, ty_tt, ty_ss, ty_ii, ty_bi, ty_bb, ty_ib, tr_b, tr_n, ↓pwR_boolB, MulP, DivP, or_true, true_or, Int.reduceLT, Int.reduceLE, Int.reduceNeg, Int.reducePow, Int.reduceToNat, Int.cast_ofNat_Int, Int.natCast_zero, Int.natCast_one, Int.reduceEq, Bool.true_eq_false, not_true_eq_false, not_false_eq_true, ↓c_law_law_tape, ↓c_law_law_days, ↓c_law_least_brim, ↓c_law_law_brim, ↓c_law_law_told, ↓c_law_law_large, ↓c_law_law_lowest, ↓c_law_law_number, ↓c_law_law_ends, ↓c_law_law_take, ↓c_law_law_shown_right, eqs_0_0, eqs_0_1, eqs_0_2, eqs_0_3, eqs_1_0, eqs_1_1, eqs_1_2, eqs_1_3, eqs_2_0, eqs_2_1, eqs_2_2, eqs_2_3, eqs_3_0, eqs_3_1, eqs_3_2, eqs_3_3, u_law_R2, B_law_R2d]
          have tail : ∀ (m : Sto) (k' : Nat), k' ≤ i + 1 → Tape m t c → m[p]? = some (.lst (List.replicate k' (.int (0 - SW.lo ds ds.length)))) → pwS (evSs G_law B_law_R1 [some (.loc 0), some (.loc t), some (.tup (ds.map PV.int)), some L, some (.loc p), some (.int (0 + (i : Int))), some (.int b), some (.bl (lasts ds b)), some fo, v9, v10, v11] m)
              (fun T m => ∃ (v5 v6 v7 v8 v9 v10 v11 : Option PV) (k : Nat), T = [some (.loc 0), some (.loc t), some (.tup (ds.map PV.int)), some L, some (.loc p), v5, v6, v7, v8, v9, v10, v11] ∧ Tape m t c ∧ m[p]? = some (.lst (List.replicate k (.int (0 - SW.lo ds ds.length)))) ∧ k ≤ i + 1) (fun x M => x = .bl true) := by
            intro m k' hk' hT4 q4
            have tl4 := hT4.lt
            have pl := lt_of_get q4
            simp only [↓b_cons, ↓b_nil, ↓st_asg, ↓st_setI, ↓st_expr, ↓st_ret, ↓st_retN, ↓st_ife, ↓st_for, ↓st_whl, ↓st_pass, ↓e_nam, ↓e_non, ↓e_bl, ↓e_int, ↓e_str, ↓e_tup, ↓e_lst, ↓e_bin, ↓e_neg, ↓e_nt, ↓e_cmp, ↓e_chn, ↓e_and, ↓e_or, ↓e_ife, ↓e_sub, ↓e_slc, ↓e_slcL, ↓e_slcH, ↓e_blt, ↓e_isi, ↓e_meth, ↓e_meth0, ↓e_lc, ↓l_nil, ↓l_cons, ↓and_nil, ↓and_b, ↓or_nil, ↓or_b, ↓t_nil, ↓t_cons, ↓i_seq, ↓i_rng1, ↓i_rng2, ↓finQ_f, ↓finQ_t, isB_bl, isI_int, isS_some, isS_none, isS_map, pw_add, pw_sub, pw_mul, pw_div, pw_mod, pw_pow, pw_addT, pw_addS, opC_lt, opC_le, opC_gt, opC_ge, opC_eqI, opC_neI, opC_neS, Option.map_some, asg_one, asg_tup, setAll_nil, setAll_cons, len_tup, sum_tup, tuple_tup, list_tup, min_int, max_int, ixt_tup, atI_0, atI_1, atI_2, atI_3, decide_eq_true_eq, Bool.not_eq_true', decide_eq_false_iff_not, List.map_cons, List.map_nil, List.set_cons_zero, List.set_cons_succ, List.getElem?_cons_zero, List.getElem?_cons_succ, List.cons_append, List.nil_append, List.length_cons, List.length_nil, Nat.reduceAdd, Nat.reduceSub, true_and, and_true, if_true, if_false, eq_self, Bool.false_eq_true, Bool.not_true, Bool.not_false, seqW_tup, ty_tt, ty_ss, ty_ii, ty_bi, ty_bb, ty_ib, tr_b, tr_n, ↓pwR_boolB, MulP, DivP, or_true, true_or, Int.reduceLT, Int.reduceLE, Int.reduceNeg, Int.reducePow, Int.reduceToNat, Int.cast_ofNat_Int, Int.natCast_zero, Int.natCast_one, Int.reduceEq, Bool.true_eq_false, not_true_eq_false, not_false_eq_true, ↓c_law_law_tape, ↓c_law_law_days, ↓c_law_least_brim, ↓c_law_law_brim, ↓c_law_law_told, ↓c_law_law_large, ↓c_law_law_lowest, ↓c_law_law_number, ↓c_law_law_ends, ↓c_law_law_take, ↓c_law_law_shown_right, eqs_0_0, eqs_0_1, eqs_0_2, eqs_0_3, eqs_1_0, eqs_1_1, eqs_1_2, eqs_1_3, eqs_2_0, eqs_2_1, eqs_2_2, eqs_2_3, eqs_3_0, eqs_3_1, eqs_3_2, eqs_3_3, u_law_R1, B_law_R1d]
            refine ⟨by simp [LINE], spec_take _ (hT4.kept (S := []) Kept.app (by simp) (by simp)) (by decide) (by decide) _ fun j M5 j0 j1 hT5 kp5 => ?_⟩
            have q5 := kp5.obj (get_new (M := m)) (by simp; omega)
            have p5 := (Kept.app.trans kp5).obj q4 (by simp; omega)
            obtain ⟨x, hx, ox⟩ := pick3 (x0 := .int 100) (x1 := .int 1000000000000000000) (x2 := .int 1000000000000000000000000000000000000000) j0 j1
            obtain ⟨z, rfl, z0, z1⟩ : ∃ z : Int, x = .int z ∧ 0 < z ∧ z ≤ 1000000000000000000000000000000000000000 := by
              rcases ox with rfl | rfl | rfl <;> exact ⟨_, rfl, by decide, by decide⟩
            simp only [↓b_cons, ↓b_nil, ↓st_asg, ↓st_setI, ↓st_expr, ↓st_ret, ↓st_retN, ↓st_ife, ↓st_for, ↓st_whl, ↓st_pass, ↓e_nam, ↓e_non, ↓e_bl, ↓e_int, ↓e_str, ↓e_tup, ↓e_lst, ↓e_bin, ↓e_neg, ↓e_nt, ↓e_cmp, ↓e_chn, ↓e_and, ↓e_or, ↓e_ife, ↓e_sub, ↓e_slc, ↓e_slcL, ↓e_slcH, ↓e_blt, ↓e_isi, ↓e_meth, ↓e_meth0, ↓e_lc, ↓l_nil, ↓l_cons, ↓and_nil, ↓and_b, ↓or_nil, ↓or_b, ↓t_nil, ↓t_cons, ↓i_seq, ↓i_rng1, ↓i_rng2, ↓finQ_f, ↓finQ_t, isB_bl, isI_int, isS_some, isS_none, isS_map, pw_add, pw_sub, pw_mul, pw_div, pw_mod, pw_pow, pw_addT, pw_addS, opC_lt, opC_le, opC_gt, opC_ge, opC_eqI, opC_neI, opC_neS, Option.map_some, asg_one, asg_tup, setAll_nil, setAll_cons, len_tup, sum_tup, tuple_tup, list_tup, min_int, max_int, ixt_tup, atI_0, atI_1, atI_2, atI_3, decide_eq_true_eq, Bool.not_eq_true', decide_eq_false_iff_not, List.map_cons, List.map_nil, List.set_cons_zero, List.set_cons_succ, List.getElem?_cons_zero, List.getElem?_cons_succ, List.cons_append, List.nil_append, List.length_cons, List.length_nil, Nat.reduceAdd, Nat.reduceSub, true_and, and_true, if_true, if_false, eq_self, Bool.false_eq_true, Bool.not_true, Bool.not_false, seqW_tup, ty_tt, ty_ss, ty_ii, ty_bi, ty_bb, ty_ib, tr_b, tr_n, ↓pwR_boolB, MulP, DivP, or_true, true_or, Int.reduceLT, Int.reduceLE, Int.reduceNeg, Int.reducePow, Int.reduceToNat, Int.cast_ofNat_Int, Int.natCast_zero, Int.natCast_one, Int.reduceEq, Bool.true_eq_false, not_true_eq_false, not_false_eq_true, ↓c_law_law_tape, ↓c_law_law_days, ↓c_law_least_brim, ↓c_law_law_brim, ↓c_law_law_told, ↓c_law_law_large, ↓c_law_law_lowest, ↓c_law_law_number, ↓c_law_law_ends, ↓c_law_law_take, ↓c_law_law_shown_right, eqs_0_0, eqs_0_1, eqs_0_2, eqs_0_3, eqs_1_0, eqs_1_1, eqs_1_2, eqs_1_3, eqs_2_0, eqs_2_1, eqs_2_2, eqs_2_3, eqs_3_0, eqs_3_1, eqs_3_2, eqs_3_3, ixt_loc q5, hx]
            refine spec_large _ hT5 (by omega) (by omega) _ fun mn M6 m0 m1 hT6 kp6 => ?_
            have p6 := kp6.obj p5 (by simp; omega)
            simp only [↓b_cons, ↓b_nil, ↓st_asg, ↓st_setI, ↓st_expr, ↓st_ret, ↓st_retN, ↓st_ife, ↓st_for, ↓st_whl, ↓st_pass, ↓e_nam, ↓e_non, ↓e_bl, ↓e_int, ↓e_str, ↓e_tup, ↓e_lst, ↓e_bin, ↓e_neg, ↓e_nt, ↓e_cmp, ↓e_chn, ↓e_and, ↓e_or, ↓e_ife, ↓e_sub, ↓e_slc, ↓e_slcL, ↓e_slcH, ↓e_blt, ↓e_isi, ↓e_meth, ↓e_meth0, ↓e_lc, ↓l_nil, ↓l_cons, ↓and_nil, ↓and_b, ↓or_nil, ↓or_b, ↓t_nil, ↓t_cons, ↓i_seq, ↓i_rng1, ↓i_rng2, ↓finQ_f, ↓finQ_t, isB_bl, isI_int, isS_some, isS_none, isS_map, pw_add, pw_sub, pw_mul, pw_div, pw_mod, pw_pow, pw_addT, pw_addS, opC_lt, opC_le, opC_gt, opC_ge, opC_eqI, opC_neI, opC_neS, Option.map_some, asg_one, asg_tup, setAll_nil, setAll_cons, len_tup, sum_tup, tuple_tup, list_tup, min_int, max_int, ixt_tup, atI_0, atI_1, atI_2, atI_3, decide_eq_true_eq, Bool.not_eq_true', decide_eq_false_iff_not, List.map_cons, List.map_nil, List.set_cons_zero, List.set_cons_succ, List.getElem?_cons_zero, List.getElem?_cons_succ, List.cons_append, List.nil_append, List.length_cons, List.length_nil, Nat.reduceAdd, Nat.reduceSub, true_and, and_true, if_true, if_false, eq_self, Bool.false_eq_true, Bool.not_true, Bool.not_false, seqW_tup, ty_tt, ty_ss, ty_ii, ty_bi, ty_bb, ty_ib, tr_b, tr_n, ↓pwR_boolB, MulP, DivP, or_true, true_or, Int.reduceLT, Int.reduceLE, Int.reduceNeg, Int.reducePow, Int.reduceToNat, Int.cast_ofNat_Int, Int.natCast_zero, Int.natCast_one, Int.reduceEq, Bool.true_eq_false, not_true_eq_false, not_false_eq_true, ↓c_law_law_tape, ↓c_law_law_days, ↓c_law_least_brim, ↓c_law_law_brim, ↓c_law_law_told, ↓c_law_law_large, ↓c_law_law_lowest, ↓c_law_law_number, ↓c_law_law_ends, ↓c_law_law_take, ↓c_law_law_shown_right, eqs_0_0, eqs_0_1, eqs_0_2, eqs_0_3, eqs_1_0, eqs_1_1, eqs_1_2, eqs_1_3, eqs_2_0, eqs_2_1, eqs_2_2, eqs_2_3, eqs_3_0, eqs_3_1, eqs_3_2, eqs_3_3, List.length_map]
            refine spec_take _ hT6 (by omega) (by omega) _ fun f M7 f0 f1 hT7 kp7 => ?_
            have p7 := kp7.obj p6 (by simp; omega)
            simp only [↓b_cons, ↓b_nil, ↓st_asg, ↓st_setI, ↓st_expr, ↓st_ret, ↓st_retN, ↓st_ife, ↓st_for, ↓st_whl, ↓st_pass, ↓e_nam, ↓e_non, ↓e_bl, ↓e_int, ↓e_str, ↓e_tup, ↓e_lst, ↓e_bin, ↓e_neg, ↓e_nt, ↓e_cmp, ↓e_chn, ↓e_and, ↓e_or, ↓e_ife, ↓e_sub, ↓e_slc, ↓e_slcL, ↓e_slcH, ↓e_blt, ↓e_isi, ↓e_meth, ↓e_meth0, ↓e_lc, ↓l_nil, ↓l_cons, ↓and_nil, ↓and_b, ↓or_nil, ↓or_b, ↓t_nil, ↓t_cons, ↓i_seq, ↓i_rng1, ↓i_rng2, ↓finQ_f, ↓finQ_t, isB_bl, isI_int, isS_some, isS_none, isS_map, pw_add, pw_sub, pw_mul, pw_div, pw_mod, pw_pow, pw_addT, pw_addS, opC_lt, opC_le, opC_gt, opC_ge, opC_eqI, opC_neI, opC_neS, Option.map_some, asg_one, asg_tup, setAll_nil, setAll_cons, len_tup, sum_tup, tuple_tup, list_tup, min_int, max_int, ixt_tup, atI_0, atI_1, atI_2, atI_3, decide_eq_true_eq, Bool.not_eq_true', decide_eq_false_iff_not, List.map_cons, List.map_nil, List.set_cons_zero, List.set_cons_succ, List.getElem?_cons_zero, List.getElem?_cons_succ, List.cons_append, List.nil_append, List.length_cons, List.length_nil, Nat.reduceAdd, Nat.reduceSub, true_and, and_true, if_true, if_false, eq_self, Bool.false_eq_true, Bool.not_true, Bool.not_false, seqW_tup, ty_tt, ty_ss, ty_ii, ty_bi, ty_bb, ty_ib, tr_b, tr_n, ↓pwR_boolB, MulP, DivP, or_true, true_or, Int.reduceLT, Int.reduceLE, Int.reduceNeg, Int.reducePow, Int.reduceToNat, Int.cast_ofNat_Int, Int.natCast_zero, Int.natCast_one, Int.reduceEq, Bool.true_eq_false, not_true_eq_false, not_false_eq_true, ↓c_law_law_tape, ↓c_law_law_days, ↓c_law_least_brim, ↓c_law_law_brim, ↓c_law_law_told, ↓c_law_law_large, ↓c_law_law_lowest, ↓c_law_law_number, ↓c_law_law_ends, ↓c_law_law_take, ↓c_law_law_shown_right, eqs_0_0, eqs_0_1, eqs_0_2, eqs_0_3, eqs_1_0, eqs_1_1, eqs_1_2, eqs_1_3, eqs_2_0, eqs_2_1, eqs_2_2, eqs_2_3, eqs_3_0, eqs_3_1, eqs_3_2, eqs_3_3]
            refine ⟨by simp [LINE], spec_llowest hd hl2 _ fun x y => ?_⟩
            simp only [↓b_cons, ↓b_nil, ↓st_asg, ↓st_setI, ↓st_expr, ↓st_ret, ↓st_retN, ↓st_ife, ↓st_for, ↓st_whl, ↓st_pass, ↓e_nam, ↓e_non, ↓e_bl, ↓e_int, ↓e_str, ↓e_tup, ↓e_lst, ↓e_bin, ↓e_neg, ↓e_nt, ↓e_cmp, ↓e_chn, ↓e_and, ↓e_or, ↓e_ife, ↓e_sub, ↓e_slc, ↓e_slcL, ↓e_slcH, ↓e_blt, ↓e_isi, ↓e_meth, ↓e_meth0, ↓e_lc, ↓l_nil, ↓l_cons, ↓and_nil, ↓and_b, ↓or_nil, ↓or_b, ↓t_nil, ↓t_cons, ↓i_seq, ↓i_rng1, ↓i_rng2, ↓finQ_f, ↓finQ_t, isB_bl, isI_int, isS_some, isS_none, isS_map, pw_add, pw_sub, pw_mul, pw_div, pw_mod, pw_pow, pw_addT, pw_addS, opC_lt, opC_le, opC_gt, opC_ge, opC_eqI, opC_neI, opC_neS, Option.map_some, asg_one, asg_tup, setAll_nil, setAll_cons, len_tup, sum_tup, tuple_tup, list_tup, min_int, max_int, ixt_tup, atI_0, atI_1, atI_2, atI_3, decide_eq_true_eq, Bool.not_eq_true', decide_eq_false_iff_not, List.map_cons, List.map_nil, List.set_cons_zero, List.set_cons_succ, List.getElem?_cons_zero, List.getElem?_cons_succ, List.cons_append, List.nil_append, List.length_cons, List.length_nil, Nat.reduceAdd, Nat.reduceSub, true_and, and_true, if_true, if_false, eq_self, Bool.false_eq_true, Bool.not_true, Bool.not_false, seqW_tup, ty_tt, ty_ss, ty_ii, ty_bi, ty_bb, ty_ib, tr_b, tr_n, ↓pwR_boolB, MulP, DivP, or_true, true_or, Int.reduceLT, Int.reduceLE, Int.reduceNeg, Int.reducePow, Int.reduceToNat, Int.cast_ofNat_Int, Int.natCast_zero, Int.natCast_one, Int.reduceEq, Bool.true_eq_false, not_true_eq_false, not_false_eq_true, ↓c_law_law_tape, ↓c_law_law_days, ↓c_law_least_brim, ↓c_law_law_brim, ↓c_law_law_told, ↓c_law_law_large, ↓c_law_law_lowest, ↓c_law_law_number, ↓c_law_law_ends, ↓c_law_law_take, ↓c_law_law_shown_right, eqs_0_0, eqs_0_1, eqs_0_2, eqs_0_3, eqs_1_0, eqs_1_1, eqs_1_2, eqs_1_3, eqs_2_0, eqs_2_1, eqs_2_2, eqs_2_3, eqs_3_0, eqs_3_1, eqs_3_2, eqs_3_3]
            refine ⟨by simp [LINE], ?_⟩
            have sw := seqW_loc (get_new (M := M7) (p := .lst [.tup [.str (Str.ofString "dries").cps.toList, .int f, .int (1 + mn)], .tup [.str (Str.ofString "dries").cps.toList, .int x, .int y]]))
            have gn := get_new (M := M7) (p := .lst [.tup [.str (Str.ofString "dries").cps.toList, .int f, .int (1 + mn)], .tup [.str (Str.ofString "dries").cps.toList, .int x, .int y]])
            have tl7 := hT7.lt
            have hT8 : Tape (M7 ++ [.lst [.tup [.str (Str.ofString "dries").cps.toList, .int f, .int (1 + mn)], .tup [.str (Str.ofString "dries").cps.toList, .int x, .int y]]]) t c := hT7.kept (S := []) Kept.app (by simp) (by simp)
            have p8 := get_app (p := .lst [.tup [.str (Str.ofString "dries").cps.toList, .int f, .int (1 + mn)], .tup [.str (Str.ofString "dries").cps.toList, .int x, .int y]]) p7
            rw [sw]
            generalize M7 ++ [.lst [.tup [.str (Str.ofString "dries").cps.toList, .int f, .int (1 + mn)], .tup [.str (Str.ofString "dries").cps.toList, .int x, .int y]]] = M8 at *
            simp only [↓b_cons, ↓b_nil, ↓st_asg, ↓st_setI, ↓st_expr, ↓st_ret, ↓st_retN, ↓st_ife, ↓st_for, ↓st_whl, ↓st_pass, ↓e_nam, ↓e_non, ↓e_bl, ↓e_int, ↓e_str, ↓e_tup, ↓e_lst, ↓e_bin, ↓e_neg, ↓e_nt, ↓e_cmp, ↓e_chn, ↓e_and, ↓e_or, ↓e_ife, ↓e_sub, ↓e_slc, ↓e_slcL, ↓e_slcH, ↓e_blt, ↓e_isi, ↓e_meth, ↓e_meth0, ↓e_lc, ↓l_nil, ↓l_cons, ↓and_nil, ↓and_b, ↓or_nil, ↓or_b, ↓t_nil, ↓t_cons, ↓i_seq, ↓i_rng1, ↓i_rng2, ↓finQ_f, ↓finQ_t, isB_bl, isI_int, isS_some, isS_none, isS_map, pw_add, pw_sub, pw_mul, pw_div, pw_mod, pw_pow, pw_addT, pw_addS, opC_lt, opC_le, opC_gt, opC_ge, opC_eqI, opC_neI, opC_neS, Option.map_some, asg_one, asg_tup, setAll_nil, setAll_cons, len_tup, sum_tup, tuple_tup, list_tup, min_int, max_int, ixt_tup, atI_0, atI_1, atI_2, atI_3, decide_eq_true_eq, Bool.not_eq_true', decide_eq_false_iff_not, List.map_cons, List.map_nil, List.set_cons_zero, List.set_cons_succ, List.getElem?_cons_zero, List.getElem?_cons_succ, List.cons_append, List.nil_append, List.length_cons, List.length_nil, Nat.reduceAdd, Nat.reduceSub, true_and, and_true, if_true, if_false, eq_self, Bool.false_eq_true, Bool.not_true, Bool.not_false, seqW_tup, ty_tt, ty_ss, ty_ii, ty_bi, ty_bb, ty_ib, tr_b, tr_n, ↓pwR_boolB, MulP, DivP, or_true, true_or, Int.reduceLT, Int.reduceLE, Int.reduceNeg, Int.reducePow, Int.reduceToNat, Int.cast_ofNat_Int, Int.natCast_zero, Int.natCast_one, Int.reduceEq, Bool.true_eq_false, not_true_eq_false, not_false_eq_true, ↓c_law_law_tape, ↓c_law_law_days, ↓c_law_least_brim, ↓c_law_law_brim, ↓c_law_law_told, ↓c_law_law_large, ↓c_law_law_lowest, ↓c_law_law_number, ↓c_law_law_ends, ↓c_law_law_take, ↓c_law_law_shown_right, eqs_0_0, eqs_0_1, eqs_0_2, eqs_0_3, eqs_1_0, eqs_1_1, eqs_1_2, eqs_1_3, eqs_2_0, eqs_2_1, eqs_2_2, eqs_2_3, eqs_3_0, eqs_3_1, eqs_3_2, eqs_3_3]
            refine pw_for (fun _ T m => m = M8 ∧ ∃ v10 v11 : Option PV, T = [some (.loc 0), some (.loc t), some (.tup (ds.map PV.int)), some L, some (.loc p), some (.int (0 + (i : Int))), some (.int b), some (.bl (lasts ds b)), some fo, some (.int (1 + mn)), v10, v11]) ⟨rfl, _, _, rfl⟩ ?_ ?_
            · rintro i2 T m hi2 ⟨rfl, v10, v11, rfl⟩
              have hi2 : i2 < 2 := hi2
              obtain ⟨xx, yy, e⟩ : ∃ xx yy : Int, [PV.tup [.str (Str.ofString "dries").cps.toList, .int f, .int (1 + mn)], .tup [.str (Str.ofString "dries").cps.toList, .int x, .int y]][i2]? = some (.tup [.str (Str.ofString "dries").cps.toList, .int xx, .int yy]) := by
                rcases (show i2 = 0 ∨ i2 = 1 by omega) with rfl | rfl
                · exact ⟨_, _, rfl⟩
                · exact ⟨_, _, rfl⟩
              refine ⟨_, _, by rw [lst_of gn]; exact congrArg some e, rfl, ?_⟩
              unfold B_law_2
              simp only [↓b_cons, ↓b_nil, ↓st_asg, ↓st_setI, ↓st_expr, ↓st_ret, ↓st_retN, ↓st_ife, ↓st_for, ↓st_whl, ↓st_pass, ↓e_nam, ↓e_non, ↓e_bl, ↓e_int, ↓e_str, ↓e_tup, ↓e_lst, ↓e_bin, ↓e_neg, ↓e_nt, ↓e_cmp, ↓e_chn, ↓e_and, ↓e_or, ↓e_ife, ↓e_sub, ↓e_slc, ↓e_slcL, ↓e_slcH, ↓e_blt, ↓e_isi, ↓e_meth, ↓e_meth0, ↓e_lc, ↓l_nil, ↓l_cons, ↓and_nil, ↓and_b, ↓or_nil, ↓or_b, ↓t_nil, ↓t_cons, ↓i_seq, ↓i_rng1, ↓i_rng2, ↓finQ_f, ↓finQ_t, isB_bl, isI_int, isS_some, isS_none, isS_map, pw_add, pw_sub, pw_mul, pw_div, pw_mod, pw_pow, pw_addT, pw_addS, opC_lt, opC_le, opC_gt, opC_ge, opC_eqI, opC_neI, opC_neS, Option.map_some, asg_one, asg_tup, setAll_nil, setAll_cons, len_tup, sum_tup, tuple_tup, list_tup, min_int, max_int, ixt_tup, atI_0, atI_1, atI_2, atI_3, decide_eq_true_eq, Bool.not_eq_true', decide_eq_false_iff_not, List.map_cons, List.map_nil, List.set_cons_zero, List.set_cons_succ, List.getElem?_cons_zero, List.getElem?_cons_succ, List.cons_append, List.nil_append, List.length_cons, List.length_nil, Nat.reduceAdd, Nat.reduceSub, true_and, and_true, if_true, if_false, eq_self, Bool.false_eq_true, Bool.not_true, Bool.not_false, seqW_tup, ty_tt, ty_ss, ty_ii, ty_bi, ty_bb, ty_ib, tr_b, tr_n, ↓pwR_boolB, MulP, DivP, or_true, true_or, Int.reduceLT, Int.reduceLE, Int.reduceNeg, Int.reducePow, Int.reduceToNat, Int.cast_ofNat_Int, Int.natCast_zero, Int.natCast_one, Int.reduceEq, Bool.true_eq_false, not_true_eq_false, not_false_eq_true, ↓c_law_law_tape, ↓c_law_law_days, ↓c_law_least_brim, ↓c_law_law_brim, ↓c_law_law_told, ↓c_law_law_large, ↓c_law_law_lowest, ↓c_law_law_number, ↓c_law_law_ends, ↓c_law_law_take, ↓c_law_law_shown_right, eqs_0_0, eqs_0_1, eqs_0_2, eqs_0_3, eqs_1_0, eqs_1_1, eqs_1_2, eqs_1_3, eqs_2_0, eqs_2_1, eqs_2_2, eqs_2_3, eqs_3_0, eqs_3_1, eqs_3_2, eqs_3_3]
              refine spec_right hd hl2 hb b xx yy _ ?_
              simp only [↓b_cons, ↓b_nil, ↓st_asg, ↓st_setI, ↓st_expr, ↓st_ret, ↓st_retN, ↓st_ife, ↓st_for, ↓st_whl, ↓st_pass, ↓e_nam, ↓e_non, ↓e_bl, ↓e_int, ↓e_str, ↓e_tup, ↓e_lst, ↓e_bin, ↓e_neg, ↓e_nt, ↓e_cmp, ↓e_chn, ↓e_and, ↓e_or, ↓e_ife, ↓e_sub, ↓e_slc, ↓e_slcL, ↓e_slcH, ↓e_blt, ↓e_isi, ↓e_meth, ↓e_meth0, ↓e_lc, ↓l_nil, ↓l_cons, ↓and_nil, ↓and_b, ↓or_nil, ↓or_b, ↓t_nil, ↓t_cons, ↓i_seq, ↓i_rng1, ↓i_rng2, ↓finQ_f, ↓finQ_t, isB_bl, isI_int, isS_some, isS_none, isS_map, pw_add, pw_sub, pw_mul, pw_div, pw_mod, pw_pow, pw_addT, pw_addS, opC_lt, opC_le, opC_gt, opC_ge, opC_eqI, opC_neI, opC_neS, Option.map_some, asg_one, asg_tup, setAll_nil, setAll_cons, len_tup, sum_tup, tuple_tup, list_tup, min_int, max_int, ixt_tup, atI_0, atI_1, atI_2, atI_3, decide_eq_true_eq, Bool.not_eq_true', decide_eq_false_iff_not, List.map_cons, List.map_nil, List.set_cons_zero, List.set_cons_succ, List.getElem?_cons_zero, List.getElem?_cons_succ, List.cons_append, List.nil_append, List.length_cons, List.length_nil, Nat.reduceAdd, Nat.reduceSub, true_and, and_true, if_true, if_false, eq_self, Bool.false_eq_true, Bool.not_true, Bool.not_false, seqW_tup, ty_tt, ty_ss, ty_ii, ty_bi, ty_bb, ty_ib, tr_b, tr_n, ↓pwR_boolB, MulP, DivP, or_true, true_or, Int.reduceLT, Int.reduceLE, Int.reduceNeg, Int.reducePow, Int.reduceToNat, Int.cast_ofNat_Int, Int.natCast_zero, Int.natCast_one, Int.reduceEq, Bool.true_eq_false, not_true_eq_false, not_false_eq_true, ↓c_law_law_tape, ↓c_law_law_days, ↓c_law_least_brim, ↓c_law_law_brim, ↓c_law_law_told, ↓c_law_law_large, ↓c_law_law_lowest, ↓c_law_law_number, ↓c_law_law_ends, ↓c_law_law_take, ↓c_law_law_shown_right, eqs_0_0, eqs_0_1, eqs_0_2, eqs_0_3, eqs_1_0, eqs_1_1, eqs_1_2, eqs_1_3, eqs_2_0, eqs_2_1, eqs_2_2, eqs_2_3, eqs_3_0, eqs_3_1, eqs_3_2, eqs_3_3]
              exact ⟨_, _, rfl⟩
            · rintro T m ⟨rfl, v10, v11, rfl⟩
              refine ⟨by rw [lst_of gn]; rfl, _, _, _, _, _, _, _, k', rfl, hT8, p8, hk'⟩
          have tl3 := hT3.lt
          split
          · rename_i hla
            have hfo := hfl hla
            subst hfo
            have ap := app_loc (v := .int (0 - SW.lo ds ds.length)) q3 (by simp [LINE]; omega)
            simp only [↓b_cons, ↓b_nil, ↓st_asg, ↓st_setI, ↓st_expr, ↓st_ret, ↓st_retN, ↓st_ife, ↓st_for, ↓st_whl, ↓st_pass, ↓e_nam, ↓e_non, ↓e_bl, ↓e_int, ↓e_str, ↓e_tup, ↓e_lst, ↓e_bin, ↓e_neg, ↓e_nt, ↓e_cmp, ↓e_chn, ↓e_and, ↓e_or, ↓e_ife, ↓e_sub, ↓e_slc, ↓e_slcL, ↓e_slcH, ↓e_blt, ↓e_isi, ↓e_meth, ↓e_meth0, ↓e_lc, ↓l_nil, ↓l_cons, ↓and_nil, ↓and_b, ↓or_nil, ↓or_b, ↓t_nil, ↓t_cons, ↓i_seq, ↓i_rng1, ↓i_rng2, ↓finQ_f, ↓finQ_t, isB_bl, isI_int, isS_some, isS_none, isS_map, pw_add, pw_sub, pw_mul, pw_div, pw_mod, pw_pow, pw_addT, pw_addS, opC_lt, opC_le, opC_gt, opC_ge, opC_eqI, opC_neI, opC_neS, Option.map_some, asg_one, asg_tup, setAll_nil, setAll_cons, len_tup, sum_tup, tuple_tup, list_tup, min_int, max_int, ixt_tup, atI_0, atI_1, atI_2, atI_3, decide_eq_true_eq, Bool.not_eq_true', decide_eq_false_iff_not, List.map_cons, List.map_nil, List.set_cons_zero, List.set_cons_succ, List.getElem?_cons_zero, List.getElem?_cons_succ, List.cons_append, List.nil_append, List.length_cons, List.length_nil, Nat.reduceAdd, Nat.reduceSub, true_and, and_true, if_true, if_false, eq_self, Bool.false_eq_true, Bool.not_true, Bool.not_false, seqW_tup, ty_tt, ty_ss, ty_ii, ty_bi, ty_bb, ty_ib, tr_b, tr_n, ↓pwR_boolB, MulP, DivP, or_true, true_or, Int.reduceLT, Int.reduceLE, Int.reduceNeg, Int.reducePow, Int.reduceToNat, Int.cast_ofNat_Int, Int.natCast_zero, Int.natCast_one, Int.reduceEq, Bool.true_eq_false, not_true_eq_false, not_false_eq_true, ↓c_law_law_tape, ↓c_law_law_days, ↓c_law_least_brim, ↓c_law_law_brim, ↓c_law_law_told, ↓c_law_law_large, ↓c_law_law_lowest, ↓c_law_law_number, ↓c_law_law_ends, ↓c_law_law_take, ↓c_law_law_shown_right, eqs_0_0, eqs_0_1, eqs_0_2, eqs_0_3, eqs_1_0, eqs_1_1, eqs_1_2, eqs_1_3, eqs_2_0, eqs_2_1, eqs_2_2, eqs_2_3, eqs_3_0, eqs_3_1, eqs_3_2, eqs_3_3, lst_of q3, ap]
            refine tail _ (k + 1) (by omega) (hT3.kept (S := [p]) (Kept.set (by simp)) ?_ ?_) ?_
            · simp; omega
            · simp; omega
            · rw [get_set q3, List.replicate_succ']
          · exact tail _ k (by omega) hT3 q3
      · rintro T m ⟨v5, v6, v7, v8, v9, v10, v11, k, rfl, hT2, hq2, hk⟩
        have hk : k ≤ 3 := hk
        have pl := lt_of_get hq2
        simp only [↓b_cons, ↓b_nil, ↓st_asg, ↓st_setI, ↓st_expr, ↓st_ret, ↓st_retN, ↓st_ife, ↓st_for, ↓st_whl, ↓st_pass, ↓e_nam, ↓e_non, ↓e_bl, ↓e_int, ↓e_str, ↓e_tup, ↓e_lst, ↓e_bin, ↓e_neg, ↓e_nt, ↓e_cmp, ↓e_chn, ↓e_and, ↓e_or, ↓e_ife, ↓e_sub, ↓e_slc, ↓e_slcL, ↓e_slcH, ↓e_blt, ↓e_isi, ↓e_meth, ↓e_meth0, ↓e_lc, ↓l_nil, ↓l_cons, ↓and_nil, ↓and_b, ↓or_nil, ↓or_b, ↓t_nil, ↓t_cons, ↓i_seq, ↓i_rng1, ↓i_rng2, ↓finQ_f, ↓finQ_t, isB_bl, isI_int, isS_some, isS_none, isS_map, pw_add, pw_sub, pw_mul, pw_div, pw_mod, pw_pow, pw_addT, pw_addS, opC_lt, opC_le, opC_gt, opC_ge, opC_eqI, opC_neI, opC_neS, Option.map_some, asg_one, asg_tup, setAll_nil, setAll_cons, len_tup, sum_tup, tuple_tup, list_tup, min_int, max_int, ixt_tup, atI_0, atI_1, atI_2, atI_3, decide_eq_true_eq, Bool.not_eq_true', decide_eq_false_iff_not, List.map_cons, List.map_nil, List.set_cons_zero, List.set_cons_succ, List.getElem?_cons_zero, List.getElem?_cons_succ, List.cons_append, List.nil_append, List.length_cons, List.length_nil, Nat.reduceAdd, Nat.reduceSub, true_and, and_true, if_true, if_false, eq_self, Bool.false_eq_true, Bool.not_true, Bool.not_false, seqW_tup, ty_tt, ty_ss, ty_ii, ty_bi, ty_bb, ty_ib, tr_b, tr_n, ↓pwR_boolB, MulP, DivP, or_true, true_or, Int.reduceLT, Int.reduceLE, Int.reduceNeg, Int.reducePow, Int.reduceToNat, Int.cast_ofNat_Int, Int.natCast_zero, Int.natCast_one, Int.reduceEq, Bool.true_eq_false, not_true_eq_false, not_false_eq_true, ↓c_law_law_tape, ↓c_law_law_days, ↓c_law_least_brim, ↓c_law_law_brim, ↓c_law_law_told, ↓c_law_law_large, ↓c_law_law_lowest, ↓c_law_law_number, ↓c_law_law_ends, ↓c_law_law_take, ↓c_law_law_shown_right, eqs_0_0, eqs_0_1, eqs_0_2, eqs_0_3, eqs_1_0, eqs_1_1, eqs_1_2, eqs_1_3, eqs_2_0, eqs_2_1, eqs_2_2, eqs_2_3, eqs_3_0, eqs_3_1, eqs_3_2, eqs_3_3, seqW_loc hq2]
        generalize hB : PV.int (0 - SW.lo ds ds.length) = e at hq2
        have he : ∀ m : Sto, opC .Eq e e m = some true := fun m => by rw [← hB, opC_eqI]; simp
        refine pw_lc (fun i m' => Kept [m.length] m m' ∧ m'[m.length]? = some (.lst ((List.replicate i true).map PV.bl)) ∧ i ≤ k) ⟨Kept.app, get_new, Nat.zero_le _⟩ ?_ ?_
        · rintro i m' hi ⟨kp, qn, hik⟩
          have hi' : i < k := by simpa using hi
          have qp := kp.obj hq2 (by simp; omega)
          refine ⟨e, _, by simp [lst_of qp, hi'], rfl, ?_⟩
          have z0 : atI (List.replicate k e) 0 = some e := atI_ge (by decide) (by rw [show Int.toNat 0 = 0 from rfl, List.getElem?_replicate, if_pos (by omega)])
          simp only [↓b_cons, ↓b_nil, ↓st_asg, ↓st_setI, ↓st_expr, ↓st_ret, ↓st_retN, ↓st_ife, ↓st_for, ↓st_whl, ↓st_pass, ↓e_nam, ↓e_non, ↓e_bl, ↓e_int, ↓e_str, ↓e_tup, ↓e_lst, ↓e_bin, ↓e_neg, ↓e_nt, ↓e_cmp, ↓e_chn, ↓e_and, ↓e_or, ↓e_ife, ↓e_sub, ↓e_slc, ↓e_slcL, ↓e_slcH, ↓e_blt, ↓e_isi, ↓e_meth, ↓e_meth0, ↓e_lc, ↓l_nil, ↓l_cons, ↓and_nil, ↓and_b, ↓or_nil, ↓or_b, ↓t_nil, ↓t_cons, ↓i_seq, ↓i_rng1, ↓i_rng2, ↓finQ_f, ↓finQ_t, isB_bl, isI_int, isS_some, isS_none, isS_map, pw_add, pw_sub, pw_mul, pw_div, pw_mod, pw_pow, pw_addT, pw_addS, opC_lt, opC_le, opC_gt, opC_ge, opC_eqI, opC_neI, opC_neS, Option.map_some, asg_one, asg_tup, setAll_nil, setAll_cons, len_tup, sum_tup, tuple_tup, list_tup, min_int, max_int, ixt_tup, atI_0, atI_1, atI_2, atI_3, decide_eq_true_eq, Bool.not_eq_true', decide_eq_false_iff_not, List.map_cons, List.map_nil, List.set_cons_zero, List.set_cons_succ, List.getElem?_cons_zero, List.getElem?_cons_succ, List.cons_append, List.nil_append, List.length_cons, List.length_nil, Nat.reduceAdd, Nat.reduceSub, true_and, and_true, if_true, if_false, eq_self, Bool.false_eq_true, Bool.not_true, Bool.not_false, seqW_tup, ty_tt, ty_ss, ty_ii, ty_bi, ty_bb, ty_ib, tr_b, tr_n, ↓pwR_boolB, MulP, DivP, or_true, true_or, Int.reduceLT, Int.reduceLE, Int.reduceNeg, Int.reducePow, Int.reduceToNat, Int.cast_ofNat_Int, Int.natCast_zero, Int.natCast_one, Int.reduceEq, Bool.true_eq_false, not_true_eq_false, not_false_eq_true, ↓c_law_law_tape, ↓c_law_law_days, ↓c_law_least_brim, ↓c_law_law_brim, ↓c_law_law_told, ↓c_law_law_large, ↓c_law_law_lowest, ↓c_law_law_number, ↓c_law_law_ends, ↓c_law_law_take, ↓c_law_law_shown_right, eqs_0_0, eqs_0_1, eqs_0_2, eqs_0_3, eqs_1_0, eqs_1_1, eqs_1_2, eqs_1_3, eqs_2_0, eqs_2_1, eqs_2_2, eqs_2_3, eqs_3_0, eqs_3_1, eqs_3_2, eqs_3_3, pwR_nox, ixt_loc qp, z0, he, wipeP]
          refine ⟨_, qn, by rw [List.length_map, List.length_replicate]; unfold LINE; omega, kp.trans (Kept.set (by simp)), ?_, by omega⟩
          rw [get_set qn, List.replicate_succ']
          simp
        · rintro m' ⟨kp, qn, hik⟩
          have qp := kp.obj hq2 (by simp; omega)
          refine ⟨by simp [lst_of qp], ?_⟩
          simp only [↓b_cons, ↓b_nil, ↓st_asg, ↓st_setI, ↓st_expr, ↓st_ret, ↓st_retN, ↓st_ife, ↓st_for, ↓st_whl, ↓st_pass, ↓e_nam, ↓e_non, ↓e_bl, ↓e_int, ↓e_str, ↓e_tup, ↓e_lst, ↓e_bin, ↓e_neg, ↓e_nt, ↓e_cmp, ↓e_chn, ↓e_and, ↓e_or, ↓e_ife, ↓e_sub, ↓e_slc, ↓e_slcL, ↓e_slcH, ↓e_blt, ↓e_isi, ↓e_meth, ↓e_meth0, ↓e_lc, ↓l_nil, ↓l_cons, ↓and_nil, ↓and_b, ↓or_nil, ↓or_b, ↓t_nil, ↓t_cons, ↓i_seq, ↓i_rng1, ↓i_rng2, ↓finQ_f, ↓finQ_t, isB_bl, isI_int, isS_some, isS_none, isS_map, pw_add, pw_sub, pw_mul, pw_div, pw_mod, pw_pow, pw_addT, pw_addS, opC_lt, opC_le, opC_gt, opC_ge, opC_eqI, opC_neI, opC_neS, Option.map_some, asg_one, asg_tup, setAll_nil, setAll_cons, len_tup, sum_tup, tuple_tup, list_tup, min_int, max_int, ixt_tup, atI_0, atI_1, atI_2, atI_3, decide_eq_true_eq, Bool.not_eq_true', decide_eq_false_iff_not, List.map_cons, List.map_nil, List.set_cons_zero, List.set_cons_succ, List.getElem?_cons_zero, List.getElem?_cons_succ, List.cons_append, List.nil_append, List.length_cons, List.length_nil, Nat.reduceAdd, Nat.reduceSub, true_and, and_true, if_true, if_false, eq_self, Bool.false_eq_true, Bool.not_true, Bool.not_false, seqW_tup, ty_tt, ty_ss, ty_ii, ty_bi, ty_bb, ty_ib, tr_b, tr_n, ↓pwR_boolB, MulP, DivP, or_true, true_or, Int.reduceLT, Int.reduceLE, Int.reduceNeg, Int.reducePow, Int.reduceToNat, Int.cast_ofNat_Int, Int.natCast_zero, Int.natCast_one, Int.reduceEq, Bool.true_eq_false, not_true_eq_false, not_false_eq_true, ↓c_law_law_tape, ↓c_law_law_days, ↓c_law_least_brim, ↓c_law_law_brim, ↓c_law_law_told, ↓c_law_law_large, ↓c_law_law_lowest, ↓c_law_law_number, ↓c_law_law_ends, ↓c_law_law_take, ↓c_law_law_shown_right, eqs_0_0, eqs_0_1, eqs_0_2, eqs_0_3, eqs_1_0, eqs_1_1, eqs_1_2, eqs_1_3, eqs_2_0, eqs_2_1, eqs_2_2, eqs_2_3, eqs_3_0, eqs_3_1, eqs_3_2, eqs_3_3, all_loc qn]
          simp
    rcases (show ds.sum < 0 ∨ 0 ≤ ds.sum by omega) with hs | hs
    · rw [if_pos hs]
      simp only [↓b_cons, ↓b_nil, ↓st_asg, ↓st_setI, ↓st_expr, ↓st_ret, ↓st_retN, ↓st_ife, ↓st_for, ↓st_whl, ↓st_pass, ↓e_nam, ↓e_non, ↓e_bl, ↓e_int, ↓e_str, ↓e_tup, ↓e_lst, ↓e_bin, ↓e_neg, ↓e_nt, ↓e_cmp, ↓e_chn, ↓e_and, ↓e_or, ↓e_ife, ↓e_sub, ↓e_slc, ↓e_slcL, ↓e_slcH, ↓e_blt, ↓e_isi, ↓e_meth, ↓e_meth0, ↓e_lc, ↓l_nil, ↓l_cons, ↓and_nil, ↓and_b, ↓or_nil, ↓or_b, ↓t_nil, ↓t_cons, ↓i_seq, ↓i_rng1, ↓i_rng2, ↓finQ_f, ↓finQ_t, isB_bl, isI_int, isS_some, isS_none, isS_map, pw_add, pw_sub, pw_mul, pw_div, pw_mod, pw_pow, pw_addT, pw_addS, opC_lt, opC_le, opC_gt, opC_ge, opC_eqI, opC_neI, opC_neS, Option.map_some, asg_one, asg_tup, setAll_nil, setAll_cons, len_tup, sum_tup, tuple_tup, list_tup, min_int, max_int, ixt_tup, atI_0, atI_1, atI_2, atI_3, decide_eq_true_eq, Bool.not_eq_true', decide_eq_false_iff_not, List.map_cons, List.map_nil, List.set_cons_zero, List.set_cons_succ, List.getElem?_cons_zero, List.getElem?_cons_succ, List.cons_append, List.nil_append, List.length_cons, List.length_nil, Nat.reduceAdd, Nat.reduceSub, true_and, and_true, if_true, if_false, eq_self, Bool.false_eq_true, Bool.not_true, Bool.not_false, seqW_tup, ty_tt, ty_ss, ty_ii, ty_bi, ty_bb, ty_ib, tr_b, tr_n, ↓pwR_boolB, MulP, DivP, or_true, true_or, Int.reduceLT, Int.reduceLE, Int.reduceNeg, Int.reducePow, Int.reduceToNat, Int.cast_ofNat_Int, Int.natCast_zero, Int.natCast_one, Int.reduceEq, Bool.true_eq_false, not_true_eq_false, not_false_eq_true, ↓c_law_law_tape, ↓c_law_law_days, ↓c_law_least_brim, ↓c_law_law_brim, ↓c_law_law_told, ↓c_law_law_large, ↓c_law_law_lowest, ↓c_law_law_number, ↓c_law_law_ends, ↓c_law_law_take, ↓c_law_law_shown_right, eqs_0_0, eqs_0_1, eqs_0_2, eqs_0_3, eqs_1_0, eqs_1_1, eqs_1_2, eqs_1_3, eqs_2_0, eqs_2_1, eqs_2_2, eqs_2_3, eqs_3_0, eqs_3_1, eqs_3_2, eqs_3_3, opC_isnotN]
      exact rest _ (.inl ⟨hs, rfl⟩)
    · rw [if_neg (by omega)]
      simp only [↓b_cons, ↓b_nil, ↓st_asg, ↓st_setI, ↓st_expr, ↓st_ret, ↓st_retN, ↓st_ife, ↓st_for, ↓st_whl, ↓st_pass, ↓e_nam, ↓e_non, ↓e_bl, ↓e_int, ↓e_str, ↓e_tup, ↓e_lst, ↓e_bin, ↓e_neg, ↓e_nt, ↓e_cmp, ↓e_chn, ↓e_and, ↓e_or, ↓e_ife, ↓e_sub, ↓e_slc, ↓e_slcL, ↓e_slcH, ↓e_blt, ↓e_isi, ↓e_meth, ↓e_meth0, ↓e_lc, ↓l_nil, ↓l_cons, ↓and_nil, ↓and_b, ↓or_nil, ↓or_b, ↓t_nil, ↓t_cons, ↓i_seq, ↓i_rng1, ↓i_rng2, ↓finQ_f, ↓finQ_t, isB_bl, isI_int, isS_some, isS_none, isS_map, pw_add, pw_sub, pw_mul, pw_div, pw_mod, pw_pow, pw_addT, pw_addS, opC_lt, opC_le, opC_gt, opC_ge, opC_eqI, opC_neI, opC_neS, Option.map_some, asg_one, asg_tup, setAll_nil, setAll_cons, len_tup, sum_tup, tuple_tup, list_tup, min_int, max_int, ixt_tup, atI_0, atI_1, atI_2, atI_3, decide_eq_true_eq, Bool.not_eq_true', decide_eq_false_iff_not, List.map_cons, List.map_nil, List.set_cons_zero, List.set_cons_succ, List.getElem?_cons_zero, List.getElem?_cons_succ, List.cons_append, List.nil_append, List.length_cons, List.length_nil, Nat.reduceAdd, Nat.reduceSub, true_and, and_true, if_true, if_false, eq_self, Bool.false_eq_true, Bool.not_true, Bool.not_false, seqW_tup, ty_tt, ty_ss, ty_ii, ty_bi, ty_bb, ty_ib, tr_b, tr_n, ↓pwR_boolB, MulP, DivP, or_true, true_or, Int.reduceLT, Int.reduceLE, Int.reduceNeg, Int.reducePow, Int.reduceToNat, Int.cast_ofNat_Int, Int.natCast_zero, Int.natCast_one, Int.reduceEq, Bool.true_eq_false, not_true_eq_false, not_false_eq_true, ↓c_law_law_tape, ↓c_law_law_days, ↓c_law_least_brim, ↓c_law_law_brim, ↓c_law_law_told, ↓c_law_law_large, ↓c_law_law_lowest, ↓c_law_law_number, ↓c_law_law_ends, ↓c_law_law_take, ↓c_law_law_shown_right, eqs_0_0, eqs_0_1, eqs_0_2, eqs_0_3, eqs_1_0, eqs_1_1, eqs_1_2, eqs_1_3, eqs_2_0, eqs_2_1, eqs_2_2, eqs_2_3, eqs_3_0, eqs_3_1, eqs_3_2, eqs_3_3, opC_isnotI]
      refine spec_number _ _ ?_
      simp only [↓b_cons, ↓b_nil, ↓st_asg, ↓st_setI, ↓st_expr, ↓st_ret, ↓st_retN, ↓st_ife, ↓st_for, ↓st_whl, ↓st_pass, ↓e_nam, ↓e_non, ↓e_bl, ↓e_int, ↓e_str, ↓e_tup, ↓e_lst, ↓e_bin, ↓e_neg, ↓e_nt, ↓e_cmp, ↓e_chn, ↓e_and, ↓e_or, ↓e_ife, ↓e_sub, ↓e_slc, ↓e_slcL, ↓e_slcH, ↓e_blt, ↓e_isi, ↓e_meth, ↓e_meth0, ↓e_lc, ↓l_nil, ↓l_cons, ↓and_nil, ↓and_b, ↓or_nil, ↓or_b, ↓t_nil, ↓t_cons, ↓i_seq, ↓i_rng1, ↓i_rng2, ↓finQ_f, ↓finQ_t, isB_bl, isI_int, isS_some, isS_none, isS_map, pw_add, pw_sub, pw_mul, pw_div, pw_mod, pw_pow, pw_addT, pw_addS, opC_lt, opC_le, opC_gt, opC_ge, opC_eqI, opC_neI, opC_neS, Option.map_some, asg_one, asg_tup, setAll_nil, setAll_cons, len_tup, sum_tup, tuple_tup, list_tup, min_int, max_int, ixt_tup, atI_0, atI_1, atI_2, atI_3, decide_eq_true_eq, Bool.not_eq_true', decide_eq_false_iff_not, List.map_cons, List.map_nil, List.set_cons_zero, List.set_cons_succ, List.getElem?_cons_zero, List.getElem?_cons_succ, List.cons_append, List.nil_append, List.length_cons, List.length_nil, Nat.reduceAdd, Nat.reduceSub, true_and, and_true, if_true, if_false, eq_self, Bool.false_eq_true, Bool.not_true, Bool.not_false, seqW_tup, ty_tt, ty_ss, ty_ii, ty_bi, ty_bb, ty_ib, tr_b, tr_n, ↓pwR_boolB, MulP, DivP, or_true, true_or, Int.reduceLT, Int.reduceLE, Int.reduceNeg, Int.reducePow, Int.reduceToNat, Int.cast_ofNat_Int, Int.natCast_zero, Int.natCast_one, Int.reduceEq, Bool.true_eq_false, not_true_eq_false, not_false_eq_true, ↓c_law_law_tape, ↓c_law_law_days, ↓c_law_least_brim, ↓c_law_law_brim, ↓c_law_law_told, ↓c_law_law_large, ↓c_law_law_lowest, ↓c_law_law_number, ↓c_law_law_ends, ↓c_law_law_take, ↓c_law_law_shown_right, eqs_0_0, eqs_0_1, eqs_0_2, eqs_0_3, eqs_1_0, eqs_1_1, eqs_1_2, eqs_1_3, eqs_2_0, eqs_2_1, eqs_2_2, eqs_2_3, eqs_3_0, eqs_3_1, eqs_3_2, eqs_3_3]
      have := lw_le (ds := ds) (2 * ds.length)
      rw [if_neg (by omega)]
      exact rest _ (.inr ⟨hs, rfl⟩)
  obtain ⟨a, M, e, rfl⟩ := pw_get key
  exact ⟨M, e⟩

end K56

namespace K56
open PySem PySem.Spec PyProof.Rows L2 SW
theorem sim : ∀ ns : List Int, ns.length ≤ 63 → ∃ M, (F_law.fi G_law).run [.loc 0] [.frz (ns.map PV.int)] = .ok (.bl true) M := by
  have h := sim0
  unfold R_law at h
  exact h
/-! ### the head -/
abbrev R : PySem.W.OpenRow := PySem.W.OpenLaw.row PySem.Challenge.rw_summitwater_k56_whole_never_both
abbrev hk : PySem.W.Hook := He.hookD 4 fa fn
def ob (s : PySem.W.SharedT) : He.AlD := He.obsDG 4 fa fn (HandSHeadRun.getT s)
theorem ob_eq (s : PySem.W.SharedT) : ob s = hk.obs s.abs := He.obsDG_eq (HandSHeadRun.getT_eq s)
def loose : List PySem.Str := (["walked", "lowest", "passed", "level_behind", "deepest", "lasting", "least_brim", "is_number", "stretch_sum", "shows_dry", "_law_mixed", "_law_tape", "_law_take", "_law_large", "_law_days", "_law_need", "_law_brim", "_law_number", "_law_dries", "_law_lowest", "_law_told", "_law_shown_right", "_law_ends"] : List PySem.Str)
theorem run (w : World) : HandSHeadRun.RunEq R (PySem.W.view R.prog [26]) hk ob 2020 loose w := by
  intro os
  kernel_rfl
end K56
open PySem PySem.W PySem.Calls PyProof.Rows
theorem PySem.Challenge.cw_summitwater_k56_whole_never_both_holds : PySem.Challenge.rw_summitwater_k56_whole_never_both.Holds := by
  w_on; o_law
  refine HandSHeadRun.head_any (r := OpenLaw.row PySem.Challenge.rw_summitwater_k56_whole_never_both) (q := view (OpenLaw.row PySem.Challenge.rw_summitwater_k56_whole_never_both).prog [26]) (H := K56.hk) (ob := K56.ob) (M := 2020) (loose := K56.loose) (d := HandSHeadRun.topDef (OpenLaw.row PySem.Challenge.rw_summitwater_k56_whole_never_both).prog 26) (kwd := []) K56.ob_eq
    (by kernel_rfl) (fun s => by kernel_rfl) K56.run (by kernel_rfl) (by kernel_rfl) (by kernel_rfl) (by rfl) (by first | assumption | decide +kernel) (by decide +kernel) ⟨rfl, rfl, rfl, rfl, rfl, by decide +kernel⟩ ?hw ?hc
  case hw => w_witness2
  case hc => exact SW.law_end (l := PySem.Challenge.rw_summitwater_k56_whole_never_both) (n := 63) (k := 5) (x := "script") (G := K56.G0) rfl (by decide) (by kernel_rfl) ⟨rfl, by decide, by decide⟩ rfl rfl (by kernel_rfl) rfl K56.chain (fun x hx => by revert x; simp [K56.G0, K56.bn, K56.fa]) (fun K h mg _ _ _ p hp => by cases hp) K56.sim
