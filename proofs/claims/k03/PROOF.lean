import PyProof.Rows.All
import Wide.All
import OpenK.AllK
import Wide.FinOn
import HandS.ForMost
import HandS.ForExc
import HandS.TupAny
import KE.KDictKeyed
import KE.KDictDisplayH
import HandS.TupMul
import HandS.Wide
import HandS.IsInst
import HandS.More
import HandS.CallSlots
import KE.KTupSum
import HandS.ExcField
import PyProof.Rows.TupTab
import KE.KDictWalk
import HandS.Iter
import HandS.TupLe
import HandS.Text
import KE.DataEq
import KE.KDictCopyH
import HandS.RaiseMore
import KE.KDictList
import KE.DataFind
import HandS.Zip
import HandS.Rev
import KE.GoesEnum
import HandS.RevTup
import HandS.Style
import PyProof.DictTable
import HandS.ExcIs
import HandS.ExcCtx
import HandS.TryOnly
import HandS.TryMany
import HandS.SuiteRaise
import HandS.RaiseFrom
import HandS.ExcInit
import HandS.ExcInitHot
import HandS.Defaults
import HandS.HeadHook1
import KE.KExcIs
import HandS.Conv
import PyProof.Rows.SetFrom
import HandS.RevRange
import KE.GoesZip
import KE.GoesMore
import HandS.FStr
import HandS.HotCalls
import HandS.Head0
import HandS.Head1
import HandS.Head2
import HandS.HeadEnd
import HandS.HeadHook2
import HandS.HeadHook3
import HandS.HeadHook4
import PyProof.Rows.ReprOcc
import PyProof.ReprLen
import PySem.Challenge.RW_summitwater_k03_canals_written_and_read
set_option Elab.async false
set_option linter.all false
set_option maxRecDepth 100000
set_option maxHeartbeats 0
set_option autoImplicit false
/-! The plain values, the store, and how they lie in the layer's heap. -/
namespace SW
open PySem PySem.Spec PyProof.Rows L2

/-- a plain value -/
inductive PV where
  | non | bl (b : Bool) | int (i : Int) | str (s : List Nat) | tup (xs : List PV) | loc (n : Nat)
  deriving Inhabited
/-- a plain object -/
inductive PObj where
  | lst (xs : List PV) | frz (xs : List PV) | dct (kvs : List (PV × PV)) | ins (c : Nat) (fs : List (Str × PV))
  deriving Inhabited
abbrev Sto := List PObj
abbrev Sig := List (Option PV)
inductive Res (α : Type) where
  | ok (a : α) (M : Sto) | exc (c : Nat) (v : Option PV) (M : Sto) | stuck
def Res.bind {α β : Type} (r : Res α) (f : α → Sto → Res β) : Res β := match r with
  | .ok a M => f a M
  | .exc c v M => .exc c v M
  | .stuck => .stuck
@[simp] theorem Res.bind_ok {α β : Type} (a : α) (M : Sto) (f : α → Sto → Res β) : (Res.ok a M).bind f = f a M := rfl
@[simp] theorem Res.bind_exc {α β : Type} (c : Nat) (v : Option PV) (M : Sto) (f : α → Sto → Res β) : (Res.exc c v M).bind f = .exc c v M := rfl
@[simp] theorem Res.bind_stuck {α β : Type} (f : α → Sto → Res β) : (Res.stuck : Res α).bind f = .stuck := rfl
/-- a primitive's answer -/
def Res.of {α : Type} : Option (α × Sto) → Res α
  | some (a, M) => .ok a M
  | none => .stuck
@[simp] theorem Res.of_some {α : Type} (a : α) (M : Sto) : Res.of (some (a, M)) = .ok a M := rfl
@[simp] theorem Res.of_none {α : Type} : Res.of (none : Option (α × Sto)) = .stuck := rfl

/-- the fixed world: the written part, the classes' addresses -/
structure Wd where
  K : PySem.W.Frag
  cl : Nat → Addr
  w : World
  /-- the plain classes -/
  oc : Nat → Addr

section
variable (D : Wd)
mutual
/-- v stands for the plain value in the heap H, the store's objects at the addresses rho -/
def Rep (H : Hp) (rho : List Addr) : PV → V → Prop
  | .non, v => v = .non
  | .bl b, v => v = .bl b
  | .int i, v => v = .int i
  | .str s, v => v = .str ⟨s.toArray⟩
  | .tup xs, v => ∃ a vs, v = .ref a ∧ SqT D.K H a vs ∧ RepL H rho xs vs
  | .loc n, v => ∃ a, v = .ref a ∧ rho[n]? = some a
def RepL (H : Hp) (rho : List Addr) : List PV → List V → Prop
  | [], vs => vs = []
  | x :: xs, vs => ∃ v r, vs = v :: r ∧ Rep H rho x v ∧ RepL H rho xs r
end
end

mutual
/-- a key of a dict -/
def nky : PV → Option NestedKey
  | .non => some .none
  | .int i => some (.num i)
  | .str s => some (.text ⟨s.toArray⟩)
  | .tup xs => (nkyL xs).map .tup
  | .bl _ => none
  | .loc _ => none
def nkyL : List PV → Option (List NestedKey)
  | [] => some []
  | x :: xs => match nky x, nkyL xs with
    | some k, some ks => some (k :: ks)
    | _, _ => none
end
/-- a flat key -/
def fky : PV → Option Key
  | .int i => some (.inl i)
  | .str s => some (.inr ⟨s.toArray⟩)
  | _ => none
/-- later: tuples and locked things stay, the store's addresses stay -/
structure Ext (H : Hp) (rho : List Addr) (H' : Hp) (rho' : List Addr) : Prop where
  tup : ∀ a xs, H a = some (.tup xs) → H' a = some (.tup xs)
  frz : ∀ a o u, H a = some (.frz o u) → H' a = some (.frz o u)
  loc : ∀ (n : Nat) (a : Addr), rho[n]? = some a → rho'[n]? = some a
  xd : ∀ a fs, H a = some (.xd fs) → H' a = some (.xd fs)
/-- what a value leans on stays -/
structure Ext0 (H : Hp) (rho : List Addr) (H' : Hp) (rho' : List Addr) : Prop where
  tup : ∀ a xs, H a = some (.tup xs) → H' a = some (.tup xs)
  frzT : ∀ a o xs, H a = some (.frz o (.tup xs)) → H' a = some (.frz o (.tup xs))
  frzL : ∀ a o xs, H a = some (.frz o (.lst xs)) → H' a = some (.frz o (.lst xs))
  loc : ∀ (n : Nat) (a : Addr), rho[n]? = some a → rho'[n]? = some a
theorem Ext.to0 {H : Hp} {rho : List Addr} {H' : Hp} {rho' : List Addr} (e : Ext H rho H' rho') : Ext0 H rho H' rho' := ⟨e.tup, fun a o xs h => e.frz a o _ h, fun a o xs h => e.frz a o _ h, e.loc⟩
theorem Ext.refl {H : Hp} {rho : List Addr} : Ext H rho H rho := ⟨fun _ _ h => h, fun _ _ _ h => h, fun _ _ h => h, fun _ _ h => h⟩
theorem Ext.trans {H H1 H2 : Hp} {r r1 r2 : List Addr} (a : Ext H r H1 r1) (b : Ext H1 r1 H2 r2) : Ext H r H2 r2 :=
  ⟨fun x y h => b.tup x y (a.tup x y h), fun x o y h => b.frz x o y (a.frz x o y h), fun n x h => b.loc n x (a.loc n x h), fun x y h => b.xd x y (a.xd x y h)⟩

section
variable {D : Wd} {H H' : Hp} {rho rho' : List Addr}
theorem Ext0.sqT (e : Ext0 H rho H' rho') {a : Addr} {xs : List V} (h : SqT D.K H a xs) : SqT D.K H' a xs := by
  rcases h with (h | ⟨o, h⟩) | h
  · exact .inl (.inl (e.tup _ _ h))
  · exact .inl (.inr ⟨o, e.frzT _ _ _ h⟩)
  · exact .inr h
mutual
theorem Rep.ext0 (e : Ext0 H rho H' rho') : ∀ (x : PV) (v : V), Rep D H rho x v → Rep D H' rho' x v
  | .non, v, h => h
  | .bl b, v, h => h
  | .int i, v, h => h
  | .str s, v, h => h
  | .tup xs, v, h => by
    unfold Rep at h ⊢
    obtain ⟨a, vs, e1, h1, h2⟩ := h
    exact ⟨a, vs, e1, e.sqT h1, RepL.ext0 e xs vs h2⟩
  | .loc n, v, h => by
    unfold Rep at h ⊢
    obtain ⟨a, e1, h1⟩ := h
    exact ⟨a, e1, e.loc _ _ h1⟩
theorem RepL.ext0 (e : Ext0 H rho H' rho') : ∀ (xs : List PV) (vs : List V), RepL D H rho xs vs → RepL D H' rho' xs vs
  | [], vs, h => by unfold RepL at h ⊢; exact h
  | x :: xs, vs, h => by
    unfold RepL at h ⊢
    obtain ⟨v, r, e1, h1, h2⟩ := h
    exact ⟨v, r, e1, Rep.ext0 e x v h1, RepL.ext0 e xs r h2⟩
end
theorem Ext.sqT (e : Ext H rho H' rho') {a : Addr} {xs : List V} (h : SqT D.K H a xs) : SqT D.K H' a xs := e.to0.sqT h
theorem Rep.ext (e : Ext H rho H' rho') (x : PV) (v : V) (h : Rep D H rho x v) : Rep D H' rho' x v := Rep.ext0 e.to0 x v h
theorem RepL.ext (e : Ext H rho H' rho') (xs : List PV) (vs : List V) (h : RepL D H rho xs vs) : RepL D H' rho' xs vs := RepL.ext0 e.to0 xs vs h
theorem repL_nil {vs : List V} : RepL D H rho [] vs ↔ vs = [] := by unfold RepL; exact Iff.rfl
theorem repL_cons {x : PV} {xs : List PV} {vs : List V} : RepL D H rho (x :: xs) vs ↔ ∃ v r, vs = v :: r ∧ Rep D H rho x v ∧ RepL D H rho xs r := by
  constructor
  · intro h; unfold RepL at h; exact h
  · intro h; unfold RepL; exact h
theorem rep_tup {xs : List PV} {v : V} : Rep D H rho (.tup xs) v ↔ ∃ a vs, v = .ref a ∧ SqT D.K H a vs ∧ RepL D H rho xs vs := by
  constructor
  · intro h; unfold Rep at h; exact h
  · intro h; unfold Rep; exact h
theorem rep_loc {n : Nat} {v : V} : Rep D H rho (.loc n) v ↔ ∃ a, v = .ref a ∧ rho[n]? = some a := by
  constructor
  · intro h; unfold Rep at h; exact h
  · intro h; unfold Rep; exact h
theorem rep_int {i : Int} {v : V} : Rep D H rho (.int i) v ↔ v = .int i := by unfold Rep; exact Iff.rfl
theorem rep_bl {i : Bool} {v : V} : Rep D H rho (.bl i) v ↔ v = .bl i := by unfold Rep; exact Iff.rfl
theorem rep_non {v : V} : Rep D H rho .non v ↔ v = .non := by unfold Rep; exact Iff.rfl
theorem rep_str {s : List Nat} {v : V} : Rep D H rho (.str s) v ↔ v = .str ⟨s.toArray⟩ := by unfold Rep; exact Iff.rfl
theorem RepL.len : ∀ {xs : List PV} {vs : List V}, RepL D H rho xs vs → xs.length = vs.length
  | [], vs, h => by rw [repL_nil] at h; subst h; rfl
  | x :: xs, vs, h => by
    obtain ⟨v, r, rfl, h1, h2⟩ := repL_cons.mp h
    rw [List.length_cons, List.length_cons, RepL.len h2]
theorem RepL.get : ∀ {xs : List PV} {vs : List V} {i : Nat} {x : PV}, RepL D H rho xs vs → xs[i]? = some x → ∃ v, vs[i]? = some v ∧ Rep D H rho x v
  | [], _, _, _, _, e => by simp at e
  | x :: xs, vs, i, y, h, e => by
    obtain ⟨v, r, rfl, h1, h2⟩ := repL_cons.mp h
    cases i with
    | zero => simp at e; subst e; exact ⟨v, rfl, h1⟩
    | succ i => simpa using RepL.get h2 (by simpa using e)
theorem RepL.get' : ∀ {xs : List PV} {vs : List V} {i : Nat} {v : V}, RepL D H rho xs vs → vs[i]? = some v → ∃ x, xs[i]? = some x ∧ Rep D H rho x v
  | [], _, _, _, h, e => by rw [repL_nil.mp h] at e; simp at e
  | x :: xs, vs, i, y, h, e => by
    obtain ⟨v, r, rfl, h1, h2⟩ := repL_cons.mp h
    cases i with
    | zero => simp at e; subst e; exact ⟨x, rfl, h1⟩
    | succ i => simpa using RepL.get' h2 (by simpa using e)
theorem RepL.append : ∀ {xs ys : List PV} {vs ws : List V}, RepL D H rho xs vs → RepL D H rho ys ws → RepL D H rho (xs ++ ys) (vs ++ ws)
  | [], ys, vs, ws, h, k => by rw [repL_nil] at h; subst h; exact k
  | x :: xs, ys, vs, ws, h, k => by
    obtain ⟨v, r, rfl, h1, h2⟩ := repL_cons.mp h
    exact repL_cons.mpr ⟨v, r ++ ws, rfl, h1, RepL.append h2 k⟩
theorem RepL.take : ∀ {xs : List PV} {vs : List V} (n : Nat), RepL D H rho xs vs → RepL D H rho (xs.take n) (vs.take n)
  | xs, vs, 0, _ => by simp [repL_nil]
  | [], vs, n + 1, h => by rw [repL_nil] at h; subst h; simp [repL_nil]
  | x :: xs, vs, n + 1, h => by
    obtain ⟨v, r, rfl, h1, h2⟩ := repL_cons.mp h
    exact repL_cons.mpr ⟨v, r.take n, rfl, h1, RepL.take n h2⟩
theorem RepL.drop : ∀ {xs : List PV} {vs : List V} (n : Nat), RepL D H rho xs vs → RepL D H rho (xs.drop n) (vs.drop n)
  | xs, vs, 0, h => by simpa using h
  | [], vs, n + 1, h => by rw [repL_nil] at h; subst h; simp [repL_nil]
  | x :: xs, vs, n + 1, h => by
    obtain ⟨v, r, rfl, h1, h2⟩ := repL_cons.mp h
    simpa using RepL.drop n h2
theorem RepL.set : ∀ {xs : List PV} {vs : List V} {x : PV} {v : V} (i : Nat), Rep D H rho x v → RepL D H rho xs vs → RepL D H rho (xs.set i x) (vs.set i v)
  | [], vs, x, v, i, _, h => by rw [repL_nil] at h; subst h; simp [repL_nil]
  | y :: xs, vs, x, v, i, k, h => by
    obtain ⟨w, r, rfl, h1, h2⟩ := repL_cons.mp h
    cases i with
    | zero => exact repL_cons.mpr ⟨v, r, rfl, k, h2⟩
    | succ i => exact repL_cons.mpr ⟨w, r.set i v, rfl, h1, RepL.set i k h2⟩
theorem RepL.erase : ∀ {xs : List PV} {vs : List V} (i : Nat), RepL D H rho xs vs → RepL D H rho (xs.eraseIdx i) (vs.eraseIdx i)
  | [], vs, i, h => by rw [repL_nil] at h; subst h; simp [repL_nil]
  | y :: xs, vs, i, h => by
    obtain ⟨w, r, rfl, h1, h2⟩ := repL_cons.mp h
    cases i with
    | zero => simpa using h2
    | succ i => exact repL_cons.mpr ⟨w, r.eraseIdx i, by simp, h1, RepL.erase i h2⟩
theorem RepL.one {x : PV} {v : V} (h : Rep D H rho x v) : RepL D H rho [x] [v] := repL_cons.mpr ⟨v, [], rfl, h, repL_nil.mpr rfl⟩
theorem RepL.rev : ∀ {xs : List PV} {vs : List V}, RepL D H rho xs vs → RepL D H rho xs.reverse vs.reverse
  | [], vs, h => by rw [repL_nil] at h; subst h; simp [repL_nil]
  | y :: xs, vs, h => by
    obtain ⟨w, r, rfl, h1, h2⟩ := repL_cons.mp h
    rw [List.reverse_cons, List.reverse_cons]
    exact (RepL.rev h2).append (RepL.one h1)
theorem RepL.nil_iff {xs : List PV} {vs : List V} (h : RepL D H rho xs vs) : xs = [] ↔ vs = [] := by
  have e := h.len
  cases xs <;> cases vs <;> simp at e ⊢

/-- all ints -/
def ints? : List PV → Option (List Int)
  | [] => some []
  | .int i :: r => (ints? r).map (i :: ·)
  | _ => none
theorem ints_rep : ∀ {xs : List PV} {vs : List V} {ns : List Int}, RepL D H rho xs vs → ints? xs = some ns → vs = ns.map V.int
  | [], vs, ns, h, e => by rw [repL_nil] at h; subst h; cases e; rfl
  | x :: xs, vs, ns, h, e => by
    obtain ⟨v, r, rfl, h1, h2⟩ := repL_cons.mp h
    cases x <;> simp [ints?] at e
    obtain ⟨ms, e1, rfl⟩ := e
    rw [rep_int] at h1
    subst h1
    rw [ints_rep h2 e1]
    rfl
/-- all truths -/
def bls? : List PV → Option (List Bool)
  | [] => some []
  | .bl i :: r => (bls? r).map (i :: ·)
  | _ => none
theorem bls_rep : ∀ {xs : List PV} {vs : List V} {ns : List Bool}, RepL D H rho xs vs → bls? xs = some ns → vs = ns.map V.bl
  | [], vs, ns, h, e => by rw [repL_nil] at h; subst h; cases e; rfl
  | x :: xs, vs, ns, h, e => by
    obtain ⟨v, r, rfl, h1, h2⟩ := repL_cons.mp h
    cases x <;> simp [bls?] at e
    obtain ⟨ms, e1, rfl⟩ := e
    rw [rep_bl] at h1
    subst h1
    rw [bls_rep h2 e1]
    rfl
@[simp] theorem ints_map : ∀ ns : List Int, ints? (ns.map PV.int) = some ns
  | [] => rfl
  | n :: ns => by simp [ints?, ints_map ns]
@[simp] theorem bls_map : ∀ ns : List Bool, bls? (ns.map PV.bl) = some ns
  | [] => rfl
  | n :: ns => by simp [bls?, bls_map ns]
end

/-! ### the store -/
def PObj.mut : PObj → Bool
  | .frz _ => false
  | _ => true
/-- a locked list, whatever the heap's other things: its own words -/
def FrzL (D : Wd) (H : Hp) (a : Addr) (vs : List V) : Prop :=
  (∃ o, H a = some (.frz o (.lst vs))) ∨
    ∃ (o : Obj) (its : Array Value) (n : Nat), D.K.lookup a = some o ∧ o.cls = .type "list" ∧ o.dict = none ∧ o.data = .seq its n ∧ its.size ≤ sizeLine ∧ Vals vs its.toList
/-- a dict of flat keys -/
def DKs (D : Wd) (H : Hp) (rho : List Addr) : List (PV × PV) → List (Key × V) → Prop
  | [], ws => ws = []
  | p :: kvs, ws => ∃ k v r, ws = (k, v) :: r ∧ fky p.1 = some k ∧ Rep D H rho p.2 v ∧ DKs D H rho kvs r
/-- a dict of tuples -/
def DNs (D : Wd) (H : Hp) (rho : List Addr) : List (PV × PV) → List (NestedKey × Addr × Value) → Prop
  | [], xs => xs = []
  | p :: kvs, xs => ∃ nk b u v r, xs = (nk, b, u) :: r ∧ nky p.1 = some nk ∧ nk.depth ≤ 8 ∧ Rep D H rho p.1 (.ref b) ∧ RelV v u ∧ Rep D H rho p.2 v ∧ DNs D H rho kvs r
/-- the object of a dict of tuples -/
def dnO (w : World) (a : Addr) (xs : List (NestedKey × Addr × Value)) : HO := .ext fun h => ∃ ob es ep, h.get? a = some ob ∧ ob.ExactDict ∧ ob.data = .dict es ep ∧ ep = xs.length ∧ es.toList = xs.map fun x => (⟨x.1.hash w, .ref x.2.1, x.2.2⟩ : DictEntry)
def DRep (D : Wd) (H : Hp) (rho : List Addr) (a : Addr) (kvs : List (PV × PV)) (o : HO) : Prop :=
  (kvs ≠ [] ∧ ∃ ws, o = .dK ws ∧ DKs D H rho kvs ws) ∨ ((a == sysModules) = false ∧ ∃ xs, o = dnO D.w a xs ∧ DNs D H rho kvs xs ∧ (xs.map (·.1)).Nodup ∧ xs.length ≤ sizeLine)
/-- an instance's fields -/
def FRs (D : Wd) (H : Hp) (rho : List Addr) : List (Str × PV) → List (Str × V) → Prop
  | [], vs => vs = []
  | p :: fs, vs => ∃ v r, vs = (p.1, v) :: r ∧ Rep D H rho p.2 v ∧ FRs D H rho fs r
def ORel (D : Wd) (H : Hp) (rho : List Addr) : PObj → Addr → Prop
  | .lst xs, a => ∃ vs, H a = some (.lst vs) ∧ RepL D H rho xs vs
  | .frz xs, a => ∃ vs, FrzL D H a vs ∧ RepL D H rho xs vs
  | .dct kvs, a => ∃ o, H a = some o ∧ DRep D H rho a kvs o
  | .ins c fs, a => ∃ dx vs, H a = some (.ins (D.oc c) dx vs) ∧ FRs D H rho fs vs
theorem FRs.ext0 {D : Wd} {H H' : Hp} {rho rho' : List Addr} (e : Ext0 H rho H' rho') : ∀ {fs : List (Str × PV)} {vs : List (Str × V)}, FRs D H rho fs vs → FRs D H' rho' fs vs
  | [], _, h => h
  | p :: fs, _, h => by
    obtain ⟨v, r, e1, e2, e3⟩ := h
    exact ⟨v, r, e1, Rep.ext0 e _ _ e2, FRs.ext0 e e3⟩
theorem DKs.ext0 {D : Wd} {H H' : Hp} {rho rho' : List Addr} (e : Ext0 H rho H' rho') : ∀ {kvs : List (PV × PV)} {ws : List (Key × V)}, DKs D H rho kvs ws → DKs D H' rho' kvs ws
  | [], _, h => h
  | p :: kvs, _, h => by
    obtain ⟨k, v, r, e1, e2, e3, e4⟩ := h
    exact ⟨k, v, r, e1, e2, Rep.ext0 e _ _ e3, DKs.ext0 e e4⟩
theorem DNs.ext0 {D : Wd} {H H' : Hp} {rho rho' : List Addr} (e : Ext0 H rho H' rho') : ∀ {kvs : List (PV × PV)} {xs : List (NestedKey × Addr × Value)}, DNs D H rho kvs xs → DNs D H' rho' kvs xs
  | [], _, h => h
  | p :: kvs, _, h => by
    obtain ⟨nk, b, u, v, r, e1, e2, e3, e4, e5, e6, e7⟩ := h
    exact ⟨nk, b, u, v, r, e1, e2, e3, Rep.ext0 e _ _ e4, e5, Rep.ext0 e _ _ e6, DNs.ext0 e e7⟩
theorem DRep.ext0 {D : Wd} {H H' : Hp} {rho rho' : List Addr} (e : Ext0 H rho H' rho') {a : Addr} {kvs : List (PV × PV)} {o : HO} (h : DRep D H rho a kvs o) : DRep D H' rho' a kvs o := by
  rcases h with ⟨h0, ws, h1, h2⟩ | ⟨hs, xs, h1, h2, h3, h4⟩
  · exact .inl ⟨h0, ws, h1, h2.ext0 e⟩
  · exact .inr ⟨hs, xs, h1, h2.ext0 e, h3, h4⟩
theorem DRep.mut {D : Wd} {H : Hp} {rho : List Addr} {a : Addr} {kvs : List (PV × PV)} {o : HO} (h : DRep D H rho a kvs o) : Mut (some o) := by
  rcases h with ⟨_, ws, h1, _⟩ | ⟨_, xs, h1, _⟩ <;> (subst h1; exact trivial)
structure StoOk (D : Wd) (H : Hp) (rho : List Addr) (M : Sto) : Prop where
  len : rho.length = M.length
  obj : ∀ (n : Nat) (o : PObj), M[n]? = some o → ∃ a, rho[n]? = some a ∧ ORel D H rho o a
  inj : ∀ (n m : Nat) (o o' : PObj) (a : Addr), M[n]? = some o → M[m]? = some o' → o.mut = true → o'.mut = true → rho[n]? = some a → rho[m]? = some a → n = m
section
variable {D : Wd} {H H' : Hp} {rho rho' : List Addr} {M : Sto}
theorem FrzL.sq {a : Addr} {vs : List V} (h : FrzL D H a vs) : SqL D.K H a vs := by
  rcases h with ⟨o, h⟩ | h
  · exact .inl (.inr ⟨o, h⟩)
  · exact .inr h
theorem FrzL.ext0 (e : Ext0 H rho H' rho') {a : Addr} {vs : List V} (h : FrzL D H a vs) : FrzL D H' a vs := by
  rcases h with ⟨o, h⟩ | h
  · exact .inl ⟨o, e.frzL _ _ _ h⟩
  · exact .inr h
theorem FrzL.ext (e : Ext H rho H' rho') {a : Addr} {vs : List V} (h : FrzL D H a vs) : FrzL D H' a vs := h.ext0 e.to0
theorem StoOk.lst {n : Nat} {xs : List PV} (R : StoOk D H rho M) (h : M[n]? = some (.lst xs)) : ∃ a vs, rho[n]? = some a ∧ H a = some (.lst vs) ∧ RepL D H rho xs vs := by
  obtain ⟨a, e, vs, h1, h2⟩ := R.obj n _ h
  exact ⟨a, vs, e, h1, h2⟩
/-- what a list's items are, in the store -/
def items? (M : Sto) : PV → Option (List PV)
  | .tup xs => some xs
  | .loc n => match M[n]? with
    | some (.lst xs) => some xs
    | some (.frz xs) => some xs
    | _ => none
  | _ => none
def lst? (M : Sto) : PV → Option (List PV)
  | .loc n => match M[n]? with
    | some (.lst xs) => some xs
    | some (.frz xs) => some xs
    | _ => none
  | _ => none
theorem StoOk.list {x : PV} {v : V} {xs : List PV} (R : StoOk D H rho M) (r : Rep D H rho x v) (h : lst? M x = some xs) : ∃ a vs, v = .ref a ∧ SqL D.K H a vs ∧ RepL D H rho xs vs := by
  cases x with
  | loc n =>
    obtain ⟨a, rfl, ea⟩ := rep_loc.mp r
    simp only [lst?] at h
    split at h
    · rename_i ys hm
      cases h
      obtain ⟨b, vs, eb, h1, h2⟩ := R.lst hm
      rw [ea] at eb; cases eb
      exact ⟨a, vs, rfl, .inl (.inl h1), h2⟩
    · rename_i ys hm
      cases h
      obtain ⟨b, eb, vs, h1, h2⟩ := R.obj n _ hm
      rw [ea] at eb; cases eb
      exact ⟨a, vs, rfl, h1.sq, h2⟩
    · cases h
  | _ => cases h
theorem StoOk.seq {x : PV} {v : V} {xs : List PV} (R : StoOk D H rho M) (r : Rep D H rho x v) (h : items? M x = some xs) : ∃ a vs, v = .ref a ∧ (SqL D.K H a vs ∨ SqT D.K H a vs) ∧ RepL D H rho xs vs := by
  cases x with
  | tup ys =>
    cases h
    obtain ⟨a, vs, rfl, h1, h2⟩ := rep_tup.mp r
    exact ⟨a, vs, rfl, .inr h1, h2⟩
  | loc n =>
    obtain ⟨a, vs, e, h1, h2⟩ := R.list r (xs := xs) h
    exact ⟨a, vs, e, .inl h1, h2⟩
  | _ => cases h
/-- a new thing stands at a free place -/
theorem Ext.new {p : Addr} {o : HO} (h : H p = none) : Ext H rho (upd H p o) rho :=
  ⟨fun a xs e => by rw [upd_ne (ne_of_none e h)]; exact e, fun a ob u e => by rw [upd_ne (ne_of_none e h)]; exact e, fun _ _ e => e, fun a xs e => by rw [upd_ne (ne_of_none e h)]; exact e⟩
theorem Ext.newL {p : Addr} {o : HO} (h : H p = none) : Ext H rho (upd H p o) (rho ++ [p]) :=
  ⟨fun a xs e => by rw [upd_ne (ne_of_none e h)]; exact e, fun a ob u e => by rw [upd_ne (ne_of_none e h)]; exact e, fun n a e => by
    rw [List.getElem?_append_left (List.getElem?_eq_some_iff.mp e).1]; exact e, fun a xs e => by rw [upd_ne (ne_of_none e h)]; exact e⟩
theorem ORel.step0 {o : PObj} {a : Addr} (e : Ext0 H rho H' rho') (k : o.mut = true → ∀ u, H a = some u → Mut (some u) → H' a = some u) (h : ORel D H rho o a) : ORel D H' rho' o a := by
  cases o with
  | lst xs => obtain ⟨vs, h1, h2⟩ := h; exact ⟨vs, k rfl _ h1 trivial, RepL.ext0 e _ _ h2⟩
  | frz xs => obtain ⟨vs, h1, h2⟩ := h; exact ⟨vs, h1.ext0 e, RepL.ext0 e _ _ h2⟩
  | dct kvs => obtain ⟨u, h1, h2⟩ := h; exact ⟨u, k rfl _ h1 h2.mut, h2.ext0 e⟩
  | ins c fs => obtain ⟨dx, vs, h1, h2⟩ := h; exact ⟨dx, vs, k rfl _ h1 trivial, h2.ext0 e⟩
theorem ORel.step {o : PObj} {a : Addr} (e : Ext H rho H' rho') (k : ∀ u, H a = some u → Mut (some u) → H' a = some u) (h : ORel D H rho o a) : ORel D H' rho' o a := h.step0 e.to0 fun _ => k
theorem ORel.some {o : PObj} {a : Addr} (m : o.mut = true) (h : ORel D H rho o a) : ∃ u, H a = some u ∧ Mut (some u) := by
  cases o with
  | lst xs => obtain ⟨vs, h1, h2⟩ := h; exact ⟨_, h1, trivial⟩
  | frz xs => cases m
  | dct kvs => obtain ⟨u, h1, h2⟩ := h; exact ⟨u, h1, h2.mut⟩
  | ins c fs => obtain ⟨dx, vs, h1, h2⟩ := h; exact ⟨_, h1, trivial⟩
/-- all that can change stays: the relation stays -/
theorem StoOk.keep (R : StoOk D H rho M) (e : Ext H rho H' rho) (k : ∀ a u, H a = some u → Mut (some u) → H' a = some u) : StoOk D H' rho M :=
  ⟨R.len, fun n o h => let ⟨a, ea, ho⟩ := R.obj n o h; ⟨a, ea, ho.step e (k a)⟩, R.inj⟩
theorem StoOk.new {p : Addr} {o : HO} (R : StoOk D H rho M) (h : H p = none) : StoOk D (upd H p o) rho M :=
  R.keep (Ext.new h) fun a u e _ => by rw [upd_ne (ne_of_none e h)]; exact e
/-- a new object of the store -/
theorem StoOk.newO {p : Addr} {u : HO} {ob : PObj} (R : StoOk D H rho M) (h : H p = none) (r : ORel D (upd H p u) (rho ++ [p]) ob p) : StoOk D (upd H p u) (rho ++ [p]) (M ++ [ob]) := by
  have e : Ext H rho (upd H p u) (rho ++ [p]) := Ext.newL h
  have at_ : ∀ (n : Nat) (o : PObj), (M ++ [ob])[n]? = some o → (n < M.length ∧ M[n]? = some o) ∨ (n = M.length ∧ o = ob) := fun n o q => by
    by_cases hn : n < M.length
    · rw [List.getElem?_append_left hn] at q; exact .inl ⟨hn, q⟩
    · rw [List.getElem?_append_right (by omega)] at q
      have z : n - M.length = 0 := by
        rcases Nat.eq_zero_or_pos (n - M.length) with z | z
        · exact z
        · rw [List.getElem?_eq_none (by simp; omega)] at q; cases q
      rw [z] at q
      exact .inr ⟨by omega, by simpa using q.symm⟩
  have mutA : ∀ (n : Nat) (o : PObj) (a : Addr), M[n]? = some o → o.mut = true → rho[n]? = some a → a ≠ p := fun n o a q m ea z => by
    obtain ⟨b, eb, ho⟩ := R.obj n o q
    rw [ea] at eb; cases eb
    obtain ⟨w, hw, _⟩ := ho.some m
    rw [z, h] at hw; cases hw
  have rlt : ∀ (n : Nat) (a : Addr), n < M.length → (rho ++ [p])[n]? = some a → rho[n]? = some a := fun n a hn q => by
    rw [List.getElem?_append_left (by rw [R.len]; exact hn)] at q; exact q
  have rend : ∀ (a : Addr), (rho ++ [p])[M.length]? = some a → a = p := fun a q => by
    rw [← R.len, List.getElem?_append_right (Nat.le_refl _)] at q
    simpa using q.symm
  refine ⟨by simp [R.len], fun n o q => ?_, fun n m o o' a q q' mo mo' ea ea' => ?_⟩
  · rcases at_ n o q with ⟨hn, q1⟩ | ⟨rfl, rfl⟩
    · obtain ⟨a, ea, ho⟩ := R.obj n o q1
      exact ⟨a, e.loc _ _ ea, ho.step e fun ws e1 _ => by rw [upd_ne (ne_of_none e1 h)]; exact e1⟩
    · exact ⟨p, by rw [← R.len]; simp, r⟩
  · rcases at_ n o q with ⟨hn, q1⟩ | ⟨rfl, rfl⟩
    · rcases at_ m o' q' with ⟨hm, q2⟩ | ⟨rfl, rfl⟩
      · exact R.inj n m o o' a q1 q2 mo mo' (rlt _ _ hn ea) (rlt _ _ hm ea')
      · exact absurd (rend _ ea') (mutA n o a q1 mo (rlt _ _ hn ea))
    · rcases at_ m o' q' with ⟨hm, q2⟩ | ⟨rfl, rfl⟩
      · exact absurd (rend _ ea) (mutA m o' a q2 mo' (rlt _ _ hm ea'))
      · rfl
theorem StoOk.newL {p : Addr} {xs : List PV} {vs : List V} (R : StoOk D H rho M) (h : H p = none) (r : RepL D H rho xs vs) : StoOk D (upd H p (.lst vs)) (rho ++ [p]) (M ++ [.lst xs]) :=
  R.newO h ⟨vs, upd_same, r.ext (Ext.newL h)⟩
/-- a list is changed -/
theorem Ext.writeL {a : Addr} {vs ws : List V} (h : H a = some (.lst vs)) : Ext H rho (upd H a (.lst ws)) rho :=
  ⟨fun b xs e => by rw [upd_ne (ne_of e h (by intro z; cases z))]; exact e, fun b ob u e => by rw [upd_ne (ne_of e h (by intro z; cases z))]; exact e, fun _ _ e => e, fun b xs e => by rw [upd_ne (ne_of e h (by intro z; cases z))]; exact e⟩
/-- an object that can change is changed -/
theorem Ext.write {a : Addr} {u0 u : HO} (h : H a = some u0) (m : Mut (some u0)) : Ext H rho (upd H a u) rho :=
  ⟨fun b xs e => by rw [upd_ne (ne_of e h (by intro z; subst z; exact m))]; exact e, fun b ob v e => by rw [upd_ne (ne_of e h (by intro z; subst z; exact m))]; exact e, fun _ _ e => e, fun b xs e => by rw [upd_ne (ne_of e h (by intro z; subst z; exact m))]; exact e⟩
theorem StoOk.write {n : Nat} {a : Addr} {o0 ob : PObj} {u0 u : HO} (R : StoOk D H rho M) (hn : M[n]? = some o0) (m0 : o0.mut = true) (mb : ob.mut = true) (ea : rho[n]? = some a) (h : H a = some u0) (mu : Mut (some u0)) (r : ORel D (upd H a u) rho ob a) :
    StoOk D (upd H a u) rho (M.set n ob) := by
  have e : Ext H rho (upd H a u) rho := Ext.write h mu
  have hl : n < M.length := (List.getElem?_eq_some_iff.mp hn).1
  have mt : ∀ (m : Nat) (o : PObj), (M.set n ob)[m]? = some o → (m = n ∧ o = ob) ∨ (m ≠ n ∧ M[m]? = some o) := fun m o q => by
    by_cases hm : m = n
    · subst hm
      rw [List.getElem?_set_self hl] at q
      exact .inl ⟨rfl, (Option.some.inj q).symm⟩
    · rw [List.getElem?_set_ne (Ne.symm hm)] at q
      exact .inr ⟨hm, q⟩
  refine ⟨by simp [R.len], fun m o q => ?_, fun m k o o' b q q' mo mo' eb eb' => ?_⟩
  · rcases mt m o q with ⟨rfl, rfl⟩ | ⟨hm, q1⟩
    · exact ⟨a, ea, r⟩
    · obtain ⟨b, eb, ho⟩ := R.obj m o q1
      refine ⟨b, eb, ho.step0 e.to0 fun mo w hw _ => ?_⟩
      have hb : b ≠ a := fun z => hm (R.inj m n _ _ a q1 hn mo m0 (z ▸ eb) ea)
      rw [upd_ne hb]; exact hw
  · rcases mt m o q with ⟨rfl, rfl⟩ | ⟨hm, q1⟩
    · rcases mt k o' q' with ⟨rfl, rfl⟩ | ⟨hk, q2⟩
      · rfl
      · exact R.inj _ _ _ _ b hn q2 m0 mo' eb eb'
    · rcases mt k o' q' with ⟨rfl, rfl⟩ | ⟨hk, q2⟩
      · exact R.inj _ _ _ _ b q1 hn mo m0 eb eb'
      · exact R.inj _ _ _ _ b q1 q2 mo mo' eb eb'
theorem StoOk.writeL {n : Nat} {a : Addr} {xs ys : List PV} {vs ws : List V} (R : StoOk D H rho M) (hn : M[n]? = some (.lst xs)) (ea : rho[n]? = some a) (h : H a = some (.lst vs)) (r : RepL D H rho ys ws) :
    StoOk D (upd H a (.lst ws)) rho (M.set n (.lst ys)) := R.write hn rfl rfl ea h trivial ⟨ws, upd_same, r.ext (Ext.writeL h)⟩
end

/-! ### fields -/
section
variable {D : Wd} {H : Hp} {rho : List Addr}
def putP (f : Str) (v : PV) : List (Str × PV) → List (Str × PV)
  | [] => [(f, v)]
  | (g, x) :: r => if g = f then (g, v) :: r else (g, x) :: putP f v r
theorem FRs.len : ∀ {fs : List (Str × PV)} {vs : List (Str × V)}, FRs D H rho fs vs → vs.length = fs.length
  | [], _, h => by have h : _ = [] := h; rw [h]; rfl
  | p :: fs, _, h => by
    obtain ⟨v, r, e1, e2, e3⟩ := h
    rw [e1, List.length_cons, List.length_cons, FRs.len e3]
theorem FRs.get {f : Str} {x : PV} : ∀ {fs : List (Str × PV)} {vs : List (Str × V)}, FRs D H rho fs vs → fs.lookup f = some x → ∃ v, vs.lookup f = some v ∧ Rep D H rho x v
  | [], _, _, e => by cases e
  | (g, y) :: fs, _, h, e => by
    obtain ⟨v, r, e1, e2, e3⟩ := h
    subst e1
    simp only [List.lookup_cons] at e ⊢
    cases q : f == g with
    | true => rw [q] at e; cases e; exact ⟨v, rfl, e2⟩
    | false => rw [q] at e; exact FRs.get e3 e
theorem FRs.none {f : Str} : ∀ {fs : List (Str × PV)} {vs : List (Str × V)}, FRs D H rho fs vs → fs.lookup f = none → vs.lookup f = none
  | [], _, h, _ => by have h : _ = [] := h; rw [h]; rfl
  | (g, y) :: fs, _, h, e => by
    obtain ⟨v, r, e1, e2, e3⟩ := h
    subst e1
    simp only [List.lookup_cons] at e ⊢
    cases q : f == g with
    | true => rw [q] at e; cases e
    | false => rw [q] at e; exact FRs.none e3 e
theorem FRs.put {f : Str} {x : PV} {v : V} (r : Rep D H rho x v) : ∀ {fs : List (Str × PV)} {vs : List (Str × V)}, FRs D H rho fs vs → FRs D H rho (putP f x fs) (putF f v vs)
  | [], _, h => by
    have h : _ = [] := h
    rw [h]
    exact ⟨v, [], rfl, r, rfl⟩
  | (g, y) :: fs, _, h => by
    obtain ⟨w, r', e1, e2, e3⟩ := h
    subst e1
    simp only [putP, putF]
    by_cases q : g = f
    · rw [if_pos q, if_pos q]; exact ⟨v, r', rfl, r, e3⟩
    · rw [if_neg q, if_neg q]; exact ⟨w, _, rfl, e2, FRs.put r e3⟩
end

/-! ### slots -/
structure RelS (D : Wd) (H : Hp) (rho : List Addr) (M : Sto) (sg : L2.St) (tau : Sig) : Prop where
  mem : StoOk D H rho M
  len : tau.length = sg.length
  slot : ∀ (i : Nat) x, tau[i]? = some (some x) → ∃ v, sg[i]? = some (some v) ∧ Rep D H rho x v
section
variable {D : Wd} {H H' : Hp} {rho rho' : List Addr} {M M' : Sto} {sg : L2.St} {tau : Sig}
theorem RelS.ext (R : RelS D H rho M sg tau) (e : Ext H rho H' rho') (m : StoOk D H' rho' M') : RelS D H' rho' M' sg tau :=
  ⟨m, R.len, fun i x h => let ⟨v, h1, h2⟩ := R.slot i x h; ⟨v, h1, h2.ext e⟩⟩
theorem RelS.set (R : RelS D H rho M sg tau) {x : PV} {v : V} (i : Nat) (r : Rep D H rho x v) : RelS D H rho M (sg.set i (some v)) (tau.set i (some x)) := by
  refine ⟨R.mem, by simp [R.len], fun j y h => ?_⟩
  by_cases hj : j = i
  · subst hj
    by_cases hl : j < tau.length
    · rw [List.getElem?_set_self hl] at h
      cases h
      exact ⟨v, by rw [List.getElem?_set_self (by rw [← R.len]; exact hl)], r⟩
    · rw [List.getElem?_eq_none (by simpa using hl)] at h; cases h
  · rw [List.getElem?_set_ne (Ne.symm hj)] at h ⊢
    exact R.slot j y h
theorem RelS.unset (R : RelS D H rho M sg tau) (i : Nat) (o : Option V) : RelS D H rho M (sg.set i o) (tau.set i none) := by
  refine ⟨R.mem, by simp [R.len], fun j y h => ?_⟩
  by_cases hj : j = i
  · subst hj
    by_cases hl : j < tau.length
    · rw [List.getElem?_set_self hl] at h; cases h
    · rw [List.getElem?_eq_none (by simpa using hl)] at h; cases h
  · rw [List.getElem?_set_ne (Ne.symm hj)] at h ⊢
    exact R.slot j y h
end
end SW

/-! The text as plain terms, and what it does on plain values. -/
namespace SW
open PySem PySem.Spec PyProof.Rows L2

/-- the built-in functions and types that are called -/
inductive Bi where
  | len | list | tuple | sum | min | max | abs | str | int | all | any | repr
  deriving DecidableEq
/-- the methods -/
inductive Me where
  | append | insert | pop | index | count | clear | reverse
  deriving DecidableEq
inductive Ty where
  | int | bool | str | tuple | list
  deriving DecidableEq
abbrev Own := List (Str × Nat)
/-- a target -/
inductive PTg where
  | one (i : Nat) (x : Str) (p : Pos)
  | tup (ts : List (Nat × Str × Pos)) (k : Nat) (p : Pos)
mutual
inductive PEx where
  | nam (i : Nat) (x : Str) (p : Pos)
  | glb (g : Nat) (x : Str) (p : Pos)
  | non (k : Nat) (p : Pos)
  | bl (b : Bool) (k : Nat) (p : Pos)
  | int (i : Int) (k : Nat) (p : Pos)
  | str (s : Str) (k : Nat) (p : Pos)
  | tup (es : PEs) (k : Nat) (p : Pos)
  | lst (es : PEs) (p : Pos)
  | bin (op : Operator) (a b : PEx) (p : Pos)
  | neg (a : PEx) (p : Pos)
  | nt (a : PEx) (p : Pos)
  | cmp (op : CmpOp) (a b : PEx) (p : Pos)
  | chn (op op' : CmpOp) (a b c : PEx) (p : Pos)
  | and (a : PEx) (es : PEs) (p : Pos)
  | or (a : PEx) (es : PEs) (p : Pos)
  | ife (t a b : PEx) (p : Pos)
  | sub (a i : PEx) (p : Pos)
  | slc (a lo hi : PEx) (p2 p : Pos)
  | slcL (a lo : PEx) (p2 p : Pos)
  | slcH (a hi : PEx) (p2 p : Pos)
  | slcN (a : PEx) (p2 p : Pos)
  | call (f : Nat) (x : Str) (e : PEx) (es : PEs) (p p2 : Pos)
  | blt (b : Bi) (e : PEx) (es : PEs) (p p2 : Pos)
  | isi (e : PEx) (t : Ty) (p pt p2 : Pos)
  | meth (m : Me) (o e : PEx) (es : PEs) (pa p : Pos)
  | meth0 (m : Me) (o : PEx) (pa p : Pos)
  | lc (e : PEx) (t : PTg) (it : PIt) (ifs : PEs) (sc : Scope) (own : Own) (p : Pos)
  | trev (e : PEx) (p p2 q q2 : Pos)
  | lrv (e : PEx) (p p2 q q2 : Pos)
  | jn (s : Str) (k : Nat) (e : PEx) (ps pa p : Pos)
  | lns (e : PEx) (p p2 q q2 : Pos)
  | lrg (a : PEx) (p p2 q q2 : Pos)
  | lrg2 (a b : PEx) (p p2 q q2 : Pos)
  | dct (ps : PPr) (p : Pos)
  | slcR (a : PEx) (k : Nat) (p1 p2 p3 p : Pos)
  | dgt (o k x : PEx) (pa p : Pos)
  | fmt (e : PEx) (p : Pos)
  | jst (es : PEs) (p : Pos)
  | spl (e : PEx) (s : Str) (k : Nat) (ps pa p : Pos)
  | fld (o : PEx) (f : Str) (p : Pos)
  | mth0 (f : Nat) (mn : Str) (o : PEx) (pa p : Pos)
  | mth (f : Nat) (mn : Str) (o e : PEx) (es : PEs) (pa p : Pos)
  | mk (k f : Nat) (x : Str) (e : PEx) (es : PEs) (p p2 : Pos)
inductive PEs where
  | nil
  | cons (e : PEx) (es : PEs)
/-- the pairs of a display -/
inductive PPr where
  | nil
  | cons (k e : PEx) (r : PPr)
/-- what a loop walks -/
inductive PIt where
  | seq (e : PEx)
  | rng1 (e : PEx) (p p2 : Pos)
  | rngR (e : PEx) (p p2 q q2 : Pos)
  | rng2 (a b : PEx) (p p2 : Pos)
  | enum (e : PEx) (p p2 : Pos)
  | zip (a b : PEx) (p p2 : Pos)
  | zip3 (a b c : PEx) (p p2 : Pos)
  | rev (e : PEx) (p p2 : Pos)
end
/-- constants of an except suite -/
inductive HC where
  | non (k : Nat) (p : Pos)
  | bl (b : Bool) (k : Nat) (p : Pos)
  | int (i : Int) (k : Nat) (p : Pos)
/-- isinstance(e, C), C the class j or ValueError -/
structure IsC where
  j : Option Nat
  cn : Str
  p : Pos
  pe : Pos
  pc : Pos
  p2 : Pos
/-- a truth of an except suite -/
inductive HX where
  | isa (c : IsC)
  | isT (cs : List (Nat × Str × Pos)) (p pe : Pos) (k : Nat) (q p2 : Pos)
  | nam (i : Nat) (x : Str) (p : Pos)
  | nt (a : HX) (p : Pos)
  | an (a b : HX) (p : Pos)
  | or (a b : HX) (p : Pos)
/-- a statement of an except suite -/
inductive HSt where
  | bx (i : Nat) (x : Str) (px : Pos) (e : HX) (p : Pos)
  | cst (i : Nat) (x : Str) (px : Pos) (c : HC) (p : Pos)
  | mks (i : Nat) (x : Str) (px : Pos) (cs : List IsC) (pl p : Pos)
  | mkA (i : Nat) (x : Str) (px : Pos) (i2 : Nat) (x2 : Str) (px2 : Pos) (cs : List IsC) (pl pb p : Pos)
  | fld (i : Nat) (x : Str) (px pe pa p : Pos)
  | iff (t : HX) (i : Nat) (x : Str) (px pe pa p pi : Pos)
mutual
inductive PSt where
  | asg (t : PTg) (e : PEx) (p : Pos)
  | setI (o i e : PEx) (pt p : Pos)
  | setF (o : PEx) (f : Str) (e : PEx) (pt p : Pos)
  | setT (o i o2 i2 e : PEx) (pt pt2 px p : Pos)
  | expr (e : PEx) (p : Pos)
  | ret (e : PEx) (p : Pos)
  | retN (p : Pos)
  | ife (t : PEx) (a b : PBl) (p : Pos)
  | for_ (t : PTg) (it : PIt) (b : PBl) (p : Pos)
  | whl (t : PEx) (b : PBl) (p : Pos)
  | pass (p : Pos)
  | rai (k : Nat) (x m : Str) (jc : Nat) (p p2 q pr : Pos)
  | raiF (k : Nat) (x : Str) (e : PEx) (p q pr : Pos)
  | tryC (body : PBl) (j : Nat) (cx : Str) (np : Pos) (h : HSt) (hs : List HSt) (pos' pos : Pos)
  | tryA (body : PBl) (j : Nat) (cx : Str) (np : Pos) (ie : Nat) (en : Str) (h : HSt) (hs : List HSt) (pos' pos : Pos)
  | tryN (body : PBl) (eh : ExceptHandler) (pos : Pos)
  | tryR (body : PBl) (j : Nat) (cx : Str) (np : Pos) (k : Nat) (x : Str) (i : Nat) (xn : Str) (p p2 q : Pos) (jc : Nat) (cp pr pos' pos : Pos)
inductive PBl where
  | nil
  | cons (s : PSt) (r : PBl)
end

/-! ### back to the text -/
def Bi.nm : Bi → Str
  | .len => "len" | .list => "list" | .tuple => "tuple" | .sum => "sum" | .min => "min" | .max => "max" | .abs => "abs" | .str => "str" | .int => "int" | .all => "all" | .any => "any" | .repr => "repr"
def Me.nm : Me → Str
  | .append => "append" | .insert => "insert" | .pop => "pop" | .index => "index" | .count => "count" | .clear => "clear" | .reverse => "reverse"
def Ty.nm : Ty → Str
  | .int => "int" | .bool => "bool" | .str => "str" | .tuple => "tuple" | .list => "list"
def Ty.ts : Ty → String
  | .int => "int" | .bool => "bool" | .str => "str" | .tuple => "tuple" | .list => "list"
def toT : PTg → Expr
  | .one _ x p => .Name x p
  | .tup ts k p => .Tuple (ts.map fun t => .Name t.2.1 t.2.2) k p
mutual
def toE : PEx → Expr
  | .nam _ x p => .Name x p
  | .glb _ x p => .Name x p
  | .non k p => .Constant .none k p
  | .bl b k p => .Constant (.bool b) k p
  | .int i k p => .Constant (.int i) k p
  | .str s k p => .Constant (.str s) k p
  | .tup es k p => .Tuple (toL es) k p
  | .lst es p => .List (toL es) p
  | .bin op a b p => .BinOp (toE a) op (toE b) p
  | .neg a p => .UnaryOp .USub (toE a) p
  | .nt a p => .UnaryOp .Not (toE a) p
  | .cmp op a b p => .Compare (toE a) [op] [toE b] p
  | .chn op op' a b c p => .Compare (toE a) [op, op'] [toE b, toE c] p
  | .and a es p => .BoolOp .And (toE a :: toL es) p
  | .or a es p => .BoolOp .Or (toE a :: toL es) p
  | .ife t a b p => .IfExp (toE t) (toE a) (toE b) p
  | .sub a i p => .Subscript (toE a) (toE i) p
  | .slc a lo hi p2 p => .Subscript (toE a) (.Slice (some (toE lo)) (some (toE hi)) none p2) p
  | .slcL a lo p2 p => .Subscript (toE a) (.Slice (some (toE lo)) none none p2) p
  | .slcH a hi p2 p => .Subscript (toE a) (.Slice none (some (toE hi)) none p2) p
  | .slcN a p2 p => .Subscript (toE a) (.Slice none none none p2) p
  | .call _ x e es p p2 => .Call (.Name x p) (toE e :: toL es) [] p2
  | .blt b e es p p2 => .Call (.Name b.nm p) (toE e :: toL es) [] p2
  | .isi e t p pt p2 => .Call (.Name "isinstance" p) [toE e, .Name t.nm pt] [] p2
  | .meth m o e es pa p => .Call (.Attribute (toE o) m.nm pa) (toE e :: toL es) [] p
  | .meth0 m o pa p => .Call (.Attribute (toE o) m.nm pa) [] [] p
  | .lc e t it ifs sc _ p => .ListComp (toE e) [⟨toT t, toI it, toL ifs, 0⟩] sc p
  | .trev e p p2 q q2 => .Call (.Name "tuple" p) [.Call (.Name "reversed" p2) [toE e] [] q2] [] q
  | .jn s k e ps pa p => .Call (.Attribute (.Constant (.str s) k ps) "join" pa) [toE e] [] p
  | .lrv e p p2 q q2 => .Call (.Name "list" p) [.Call (.Name "reversed" p2) [toE e] [] q2] [] q
  | .lns e p p2 q q2 => .Call (.Name "len" p) [.Call (.Name "set" p2) [toE e] [] q2] [] q
  | .lrg a p p2 q q2 => .Call (.Name "list" p) [.Call (.Name "range" p2) [toE a] [] q2] [] q
  | .lrg2 a b p p2 q q2 => .Call (.Name "list" p) [.Call (.Name "range" p2) [toE a, toE b] [] q2] [] q
  | .dct ps p => .Dict (toK ps) (toV ps) p
  | .dgt o k x pa p => .Call (.Attribute (toE o) "get" pa) [toE k, toE x] [] p
  | .slcR a k p1 p2 p3 p => .Subscript (toE a) (.Slice none none (some (.UnaryOp .USub (.Constant (.int 1) k p1) p2)) p3) p
  | .fmt e p => .FormattedValue (toE e) (-1) none p
  | .jst es p => .JoinedStr (toL es) p
  | .spl e s k ps pa p => .Call (.Attribute (toE e) "split" pa) [.Constant (.str s) k ps] [] p
  | .fld o f p => .Attribute (toE o) f p
  | .mth0 _ mn o pa p => .Call (.Attribute (toE o) mn pa) [] [] p
  | .mth _ mn o e es pa p => .Call (.Attribute (toE o) mn pa) (toE e :: toL es) [] p
  | .mk _ _ x e es p p2 => .Call (.Name x p) (toE e :: toL es) [] p2
def toL : PEs → List Expr
  | .nil => []
  | .cons e es => toE e :: toL es
def toK : PPr → List (Option Expr)
  | .nil => []
  | .cons k _ r => some (toE k) :: toK r
def toV : PPr → List Expr
  | .nil => []
  | .cons _ e r => toE e :: toV r
def toI : PIt → Expr
  | .seq e => toE e
  | .rng1 e p p2 => .Call (.Name "range" p) [toE e] [] p2
  | .rngR e p p2 q q2 => .Call (.Name "reversed" q) [.Call (.Name "range" p) [toE e] [] p2] [] q2
  | .rng2 a b p p2 => .Call (.Name "range" p) [toE a, toE b] [] p2
  | .enum e p p2 => .Call (.Name "enumerate" p) [toE e] [] p2
  | .zip a b p p2 => .Call (.Name "zip" p) [toE a, toE b] [] p2
  | .zip3 a b c p p2 => .Call (.Name "zip" p) [toE a, toE b, toE c] [] p2
  | .rev e p p2 => .Call (.Name "reversed" p) [toE e] [] p2
end
def HC.e : HC → Expr
  | .non k p => .Constant .none k p
  | .bl b k p => .Constant (.bool b) k p
  | .int i k p => .Constant (.int i) k p
def IsC.e (en : Str) (c : IsC) : Expr := .Call (.Name "isinstance" c.p) [.Name en c.pe, .Name c.cn c.pc] [] c.p2
def HX.e (en : Str) : HX → Expr
  | .isa c => c.e en
  | .isT cs p pe k q p2 => .Call (.Name "isinstance" p) [.Name en pe, .Tuple (cs.map fun c => .Name c.2.1 c.2.2) k q] [] p2
  | .nam _ x p => .Name x p
  | .nt a p => .UnaryOp .Not (a.e en) p
  | .an a b p => .BoolOp .And [a.e en, b.e en] p
  | .or a b p => .BoolOp .Or [a.e en, b.e en] p
def toH (en : Str) : HSt → Stmt
  | .bx _ x px e p => .Assign [.Name x px] (e.e en) p
  | .cst _ x px c p => .Assign [.Name x px] c.e p
  | .mks _ x px cs pl p => .Assign [.Name x px] (.List (cs.map (IsC.e en)) pl) p
  | .mkA _ x px _ x2 px2 cs pl pb p => .Assign [.Name x px] (.BinOp (.Name x2 px2) .Add (.List (cs.map (IsC.e en)) pl) pb) p
  | .fld _ x px pe pa p => .Assign [.Name x px] (.Attribute (.Name en pe) "at" pa) p
  | .iff t _ x px pe pa p pi => .If (t.e en) [.Assign [.Name x px] (.Attribute (.Name en pe) "at" pa) p] [] pi
mutual
def toS : PSt → Stmt
  | .asg t e p => .Assign [toT t] (toE e) p
  | .setI o i e pt p => .Assign [.Subscript (toE o) (toE i) pt] (toE e) p
  | .setF o f e pt p => .Assign [.Attribute (toE o) f pt] (toE e) p
  | .setT o i o2 i2 e pt pt2 px p => .Assign [.Tuple [.Subscript (toE o) (toE i) pt, .Subscript (toE o2) (toE i2) pt2] 0 px] (toE e) p
  | .expr e p => .Expr (toE e) p
  | .ret e p => .Return (some (toE e)) p
  | .retN p => .Return none p
  | .ife t a b p => .If (toE t) (toSs a) (toSs b) p
  | .for_ t it b p => .For (toT t) (toI it) (toSs b) [] p
  | .whl t b p => .While (toE t) (toSs b) [] p
  | .pass p => .Pass p
  | .rai _ x m jc p p2 q pr => .Raise (some (.Call (.Name x p) [.Constant (.str m) jc p2] [] q)) none pr
  | .raiF _ x e p q pr => .Raise (some (.Call (.Name x p) [toE e] [] q)) none pr
  | .tryC body _ cx np h hs pos' pos => .Try (toSs body) [.ExceptHandler (some (.Name cx np)) none (toH Str.empty h :: hs.map (toH Str.empty)) pos'] [] [] pos
  | .tryA body _ cx np _ en h hs pos' pos => .Try (toSs body) [.ExceptHandler (some (.Name cx np)) (some en) (toH en h :: hs.map (toH en)) pos'] [] [] pos
  | .tryN body eh pos => .Try (toSs body) [eh] [] [] pos
  | .tryR body _ cx np _ x _ xn p p2 q jc cp pr pos' pos => .Try (toSs body) [.ExceptHandler (some (.Name cx np)) none [.Raise (some (.Call (.Name x p) [.Name xn p2] [] q)) (some (.Constant .none jc cp)) pr] pos'] [] [] pos
def toSs : PBl → List Stmt
  | .nil => []
  | .cons s r => toS s :: toSs r
end

/-! ### primitives on plain values -/
def LINE : Nat := 16777216
abbrev Prim := Option (PV × Sto)
def newL (M : Sto) (xs : List PV) : Prim := if xs.length ≤ LINE then some (.loc M.length, M ++ [.lst xs]) else none
def opB : Operator → PV → PV → Sto → Prim
  | .Add, .int i, .int j, M => some (.int (i + j), M)
  | .Add, .str a, .str b, M => if a.length + b.length ≤ LINE then some (.str (a ++ b), M) else none
  | .Add, .tup a, .tup b, M => if a.length + b.length ≤ LINE then some (.tup (a ++ b), M) else none
  | .Add, .loc a, .loc b, M => match M[a]?, M[b]? with
    | some (.lst xs), some (.lst ys) => newL M (xs ++ ys)
    | _, _ => none
  | .Sub, .int i, .int j, M => some (.int (i - j), M)
  | .Mult, .int i, .int j, M => if (-18446744073709551616 < i ∧ i < 18446744073709551616) ∨ (-18446744073709551616 < j ∧ j < 18446744073709551616) then some (.int (i * j), M) else none
  | .Mult, .tup xs, .int k, M => if xs.isEmpty = false ∧ 0 ≤ k ∧ k ≤ 1000 ∧ xs.length ≤ 1000 then some (.tup (List.replicate k.toNat xs).flatten, M) else none
  | .Mult, .loc a, .int k, M => match M[a]? with
    | some (.lst xs) => if -(2 ^ 63) ≤ k ∧ k < 2 ^ 63 ∧ xs.length * k.toNat ≤ LINE then newL M (List.replicate k.toNat xs).flatten else none
    | _ => none
  | .FloorDiv, .int i, .int j, M => if 0 < j ∧ j < 1000000000000000000000000000000000000000000000000000000000000 then some (.int (i / j), M) else none
  | .Mod, .int i, .int j, M => if 0 < j then some (.int (i % j), M) else none
  | .Pow, .int i, .int j, M => if 0 ≤ j ∧ j ≤ 1000000 ∧ i.natAbs < 2 ^ 64 then some (.int (i ^ j.toNat), M) else none
  | _, _, _, _ => none

def mapO {α β : Type} (f : α → Option β) : List α → Option (List β)
  | [] => some []
  | x :: xs => match f x, mapO f xs with
    | some y, some ys => some (y :: ys)
    | _, _ => none
/-- the data of a value -/
def toD (M : Sto) : Nat → PV → Option PyData
  | _, .non => some .none
  | _, .bl b => some (.bool b)
  | _, .int i => some (.int i)
  | _, .str s => some (.str ⟨s.toArray⟩)
  | k + 1, .tup xs => (mapO (toD M k) xs).map .tuple
  | k + 1, .loc n => match lst? M (.loc n) with
    | some xs => (mapO (toD M k) xs).map .list
    | none => none
  | _, _ => none
def eqP (M : Sto) (x y : PV) : Option Bool := match toD M 12 x, toD M 12 y with
  | some d, some e => if d.canLay0 && e.canLay0 then some (PyData.eqv d e) else none
  | _, _ => none
def flat : PV → Bool
  | .tup _ => false
  | .loc _ => false
  | _ => true
/-- == of flat things -/
def eqF : PV → PV → Bool
  | .non, .non => true
  | .bl a, .bl b => a == b
  | .int a, .int b => a == b
  | .bl a, .int j => (if a then (1 : Int) else 0) == j
  | .int i, .bl b => i == (if b then 1 else 0)
  | .str a, .str b => a == b
  | _, _ => false
/-! dicts -/
def dctOf (M : Sto) : PV → Option (List (PV × PV))
  | .loc n => match M[n]? with
    | some (.dct kvs) => some kvs
    | _ => none
  | _ => none
def isTupK : PV → Bool
  | .tup _ => true
  | _ => false
/-- what stands at a key -/
def dgetP (kvs : List (PV × PV)) (x : PV) : Option (Option PV) := if isTupK x = true then (match nky x with
    | some k => if k.depth ≤ 8 ∧ (kvs.all fun p => isTupK p.1) = true then some ((kvs.find? fun p => decide (nky p.1 = some k)).map (·.2)) else none
    | none => none)
  else match fky x with
    | some k => if (kvs.all fun p => (fky p.1).isSome) = true then some ((kvs.find? fun p => decide (fky p.1 = some k)).map (·.2)) else none
    | none => none
def dputP (kvs : List (PV × PV)) (x v : PV) : Option (List (PV × PV)) := if isTupK x = true then (match nky x with
    | some k => if k.depth ≤ 8 ∧ (kvs.all fun p => isTupK p.1) = true ∧ kvs.length < LINE then some (if (kvs.any fun p => decide (nky p.1 = some k)) = true then kvs.map (fun p => if nky p.1 = some k then (p.1, v) else p) else kvs ++ [(x, v)]) else none
    | none => none)
  else match fky x with
    | some k => if (kvs.all fun p => (fky p.1).isSome) = true ∧ kvs.length < LINE then some (if (kvs.any fun p => decide (fky p.1 = some k)) = true then kvs.map (fun p => if fky p.1 = some k then (p.1, v) else p) else kvs ++ [(x, v)]) else none
    | none => none
def dI (M : Sto) (n : Nat) (y : PV) : Prim := match dctOf M (.loc n) with
  | some kvs => match dgetP kvs y with
    | some (some v) => some (v, M)
    | _ => none
  | none => none
/-- d.get(y, z) -/
def getP (d y z : PV) (M : Sto) : Prim := match dctOf M d with
  | some kvs => match dgetP kvs y with
    | some r => some (r.getD z, M)
    | none => none
  | none => none
/-- x in y, by the data of both -/
def inP (M : Sto) (x y : PV) : Option Bool := match toD M 12 x, toD M 12 y with
  | some d, some (.list es) => if d.canLay0 && PyData.canLayAll0 es then some (es.any fun e => PyData.eqv e d) else none
  | some d, some (.tuple es) => if d.canLay0 && PyData.canLayAll0 es then some (es.any fun e => PyData.eqv e d) else none
  | _, _ => none
/-- how many of a list are like x, by the data of both -/
def cntP (M : Sto) (o x : PV) : Option Int := match toD M 12 x, toD M 12 o with
  | some d, some (.list es) => if d.canLay0 && PyData.canLayAll0 es then some ((es.countP fun e => PyData.eqv e d : Nat) : Int) else none
  | _, _ => none
def opC : CmpOp → PV → PV → Sto → Option Bool
  | .Eq, .str a, .str b, _ => some (decide (a = b))
  | .NotEq, .str a, .str b, _ => some (!decide (a = b))
  | .Eq, x, y, M => eqP M x y
  | .NotEq, x, y, M => (eqP M x y).map not
  | .Lt, .int i, .int j, _ => some (decide (i < j))
  | .LtE, .int i, .int j, _ => some (decide (i ≤ j))
  | .Gt, .int i, .int j, _ => some (decide (j < i))
  | .GtE, .int i, .int j, _ => some (decide (j ≤ i))
  | .Is, .bl a, .bl b, _ => some (decide (a = b))
  | .IsNot, .bl a, .bl b, _ => some (!decide (a = b))
  | .Is, .non, .non, _ => some true
  | .Is, _, .non, _ => some false
  | .IsNot, .non, .non, _ => some false
  | .IsNot, _, .non, _ => some true
  | .In, .str [c], .str z, _ => some (decide (c ∈ z))
  | .NotIn, .str [c], .str z, _ => some (!decide (c ∈ z))
  | .In, x, y, M => match items? M y with
    | some ys => if flat x && ys.all flat then some (ys.any fun z => eqF z x) else inP M x y
    | none => match dctOf M y with
      | some kvs => (dgetP kvs x).map (·.isSome)
      | none => none
  | .NotIn, x, y, M => match items? M y with
    | some ys => if flat x && ys.all flat then some (!(ys.any fun z => eqF z x)) else (inP M x y).map not
    | none => match dctOf M y with
      | some kvs => (dgetP kvs x).map fun o => !o.isSome
      | none => none
  | _, _, _, _ => none
def atP (xs : List PV) (i : Int) : Option PV := atI xs i
def opI : PV → PV → Sto → Prim
  | .tup xs, .int i, M => (atI xs i).map (·, M)
  | .loc n, .int i, M => match lst? M (.loc n) with
    | some xs => (atI xs i).map (·, M)
    | none => dI M n (.int i)
  | .loc n, y, M => dI M n y
  | .str s, .int i, M => if s.length ≤ LINE then (atI s i).map (fun c => (.str [c], M)) else none
  | _, _, _ => none
def cut {α : Type} (xs : List α) (lo hi : Option Int) : List α := (xs.drop (HT.sIx xs.length 0 lo)).take (HT.sIx xs.length xs.length hi - HT.sIx xs.length 0 lo)
def opS : PV → Option Int → Option Int → Sto → Prim
  | .tup xs, lo, hi, M => some (.tup (cut xs lo hi), M)
  | .loc n, lo, hi, M => match lst? M (.loc n) with
    | some xs => newL M (cut xs lo hi)
    | none => none
  | _, _, _, _ => none
/-- truth -/
def truth (M : Sto) : PV → Option Bool
  | .non => some false
  | .bl b => some b
  | .int i => some (i != 0)
  | .tup xs => some (!xs.isEmpty)
  | .loc n => (lst? M (.loc n)).map fun xs => !xs.isEmpty
  | .str _ => none
def isTy (M : Sto) : Ty → PV → Option Bool
  | t, .non => some false
  | t, .bl _ => some (t == .int || t == .bool)
  | t, .int _ => some (t == .int)
  | t, .str _ => some (t == .str)
  | t, .tup _ => some (t == .tuple)
  | t, .loc n => (lst? M (.loc n)).map fun _ => t == .list
/-- the greatest of some -/
def maxL : List Int → Option Int
  | [] => none
  | [x] => some x
  | x :: xs => (maxL xs).map (max x)
def minL : List Int → Option Int
  | [] => none
  | [x] => some x
  | x :: xs => (minL xs).map (min x)
def opM : Bi → List PV → Sto → Prim
  | .len, [x], M => match x with
    | .str s => if s.length ≤ LINE then some (.int s.length, M) else none
    | x => match items? M x with
      | some xs => some (.int xs.length, M)
      | none => (dctOf M x).map fun kvs => (.int kvs.length, M)
  | .list, [x], M => match items? M x with
    | some xs => newL M xs
    | none => match dctOf M x with
      | some kvs => if (kvs.all fun p => isTupK p.1) = true then newL M (kvs.map (·.1)) else none
      | none => none
  | .tuple, [x], M => (items? M x).map fun xs => (.tup xs, M)
  | .sum, [x], M => match items? M x with
    | some xs => (ints? xs).map fun ns => (.int ns.sum, M)
    | none => none
  | .min, [.int i, .int j], M => some (.int (if j < i then j else i), M)
  | .max, [.int i, .int j], M => some (.int (if j > i then j else i), M)
  | .abs, [.int i], M => some (.int (if i < 0 then -i else i), M)
  | .str, [.int i], M => if i.natAbs.log2 < 1920 then some (.str (toString i : Str).cps.toList, M) else none
  | .str, [.str s], M => some (.str s, M)
  | .int, [.int i], M => some (.int i, M)
  | .int, [.bl b], M => some (.int (if b then 1 else 0), M)
  | .int, [.str s], M => if s.length ≤ 640 then (PySem.intText? ⟨s.toArray⟩).map fun n => (.int n, M) else none
  | .all, [x], M => match lst? M x with
    | some xs => (bls? xs).map fun bs => (.bl (bs.all id), M)
    | none => none
  | .any, [x], M => match lst? M x with
    | some xs => (bls? xs).map fun bs => (.bl (bs.any id), M)
    | none => none
  | .max, [.loc n], M => match lst? M (.loc n) with
    | some xs => (ints? xs).bind fun ns => (maxL ns).map fun k => (.int k, M)
    | none => none
  | .min, [.loc n], M => match lst? M (.loc n) with
    | some xs => (ints? xs).bind fun ns => (minL ns).map fun k => (.int k, M)
    | none => none
  | .repr, [x], M => match toD M 12 x with
    | some d => if d.showable = true ∧ d.hasDict = false ∧ d.shown.length ≤ LINE then some (.str d.shown.cps.toList, M) else none
    | none => none
  | _, _, _ => none
def insP (xs : List PV) (i : Nat) (x : PV) : List PV := xs.take i ++ x :: xs.drop i
def opD : Me → PV → List PV → Sto → Prim
  | .append, .loc n, [x], M => match M[n]? with
    | some (.lst xs) => if xs.length < LINE then some (.non, M.set n (.lst (xs ++ [x]))) else none
    | _ => none
  | .insert, .loc n, [.int i, x], M => match M[n]? with
    | some (.lst xs) => if xs.length < LINE ∧ 0 ≤ i ∧ i < 2 ^ 63 then some (.non, M.set n (.lst (insP xs i.toNat x))) else none
    | _ => none
  | .pop, .loc n, [.int i], M => match M[n]? with
    | some (.lst xs) => match ixN xs.length i with
      | some k => match xs[k]? with
        | some y => if -(2 ^ 63) ≤ i ∧ i < 2 ^ 63 then some (y, M.set n (.lst (xs.eraseIdx k))) else none
        | none => none
      | none => none
    | _ => none
  | .pop, .loc n, [], M => match M[n]? with
    | some (.lst xs) => match xs[xs.length - 1]? with
      | some y => some (y, M.set n (.lst xs.dropLast))
      | none => none
    | _ => none
  | .clear, .loc n, [], M => match M[n]? with
    | some (.lst _) => some (.non, M.set n (.lst []))
    | _ => none
  | .reverse, .loc n, [], M => match M[n]? with
    | some (.lst xs) => some (.non, M.set n (.lst xs.reverse))
    | _ => none
  | .index, .loc n, [x], M => match lst? M (.loc n) with
    | some ys => if flat x && ys.all flat then (ys.findIdx? fun z => eqF z x).map fun j => (.int (j : Nat), M) else none
    | none => none
  | .count, .loc n, [x], M => match lst? M (.loc n) with
    | some ys => if flat x && ys.all flat then some (.int ((ys.countP fun z => eqF z x : Nat) : Int), M) else (cntP M (.loc n) x).map fun k => (.int k, M)
    | none => none
  | _, _, _, _ => none
/-- tuple(reversed(x)) -/
def revT : PV → Sto → Prim
  | .tup xs, M => some (.tup xs.reverse, M)
  | .loc n, M => (lst? M (.loc n)).map fun xs => (.tup xs.reverse, M)
  | _, _ => none
/-- list(reversed(x)) -/
def keyP : PV → Bool
  | .int _ => true
  | .str _ => true
  | _ => false
def addP (a : List PV) (x : PV) : List PV := if a.any (fun z => eqF z x) = true then a else a ++ [x]
def setP (xs : List PV) : List PV := xs.foldl addP []
/-- len(set(a list)) -/
def lenS : PV → Sto → Prim
  | .loc n, M => match lst? M (.loc n) with
    | some xs => if xs.all keyP && decide (xs.length ≤ 4000) then some (.int ((setP xs).length : Nat), M) else none
    | none => none
  | _, _ => none
def strs? : List PV → Option (List (List Nat))
  | [] => some []
  | .str a :: xs => (strs? xs).map (a :: ·)
  | _ :: _ => none
/-- {x} -/
def fmtP : PV → Sto → Prim
  | .str s, M => if s.length ≤ LINE then some (.str s, M) else none
  | .int i, M => if i.natAbs.log2 < 1920 then some (.str (toString i : Str).cps.toList, M) else none
  | _, _ => none
/-- x.split(s) -/
def splP (s : Str) : PV → Sto → Prim
  | .str a, M => if (s.length == 0) = false ∧ a.length + 2 ≤ LINE ∧ (Txt.split ⟨a.toArray⟩ s).length ≤ LINE then newL M ((Txt.split ⟨a.toArray⟩ s).map fun x => PV.str x.cps.toList) else none
  | _, _ => none
/-- s.join(a list of texts) -/
def jnP (s : Str) : PV → Sto → Prim
  | .loc n, M => match lst? M (.loc n) with
    | some xs => match strs? xs with
      | some ys => if ((ys.map fun a => (⟨a.toArray⟩ : Str)).map (·.length)).sum + (ys.map fun a => (⟨a.toArray⟩ : Str)).length * s.length ≤ 16777216 then some (.str (Txt.join s (ys.map fun a => (⟨a.toArray⟩ : Str))).cps.toList, M) else none
      | none => none
    | none => none
  | _, _ => none
def revL : PV → Sto → Prim
  | .loc n, M => match lst? M (.loc n) with
    | some xs => newL M xs.reverse
    | none => none
  | _, _ => none
/-- x[::-1] -/
def revS : PV → Sto → Prim
  | .tup xs, M => some (.tup xs.reverse, M)
  | .loc n, M => match lst? M (.loc n) with
    | some xs => newL M xs.reverse
    | none => none
  | _, _ => none
/-- o[i] = v -/
def opSet : PV → PV → PV → Sto → Option Sto
  | .loc n, .int k, v, M => match M[n]? with
    | some (.lst xs) => (ixN xs.length k).map fun j => M.set n (.lst (xs.set j v))
    | some (.dct kvs) => (dputP kvs (.int k) v).map fun ks => M.set n (.dct ks)
    | _ => none
  | .loc n, y, v, M => match M[n]? with
    | some (.dct kvs) => (dputP kvs y v).map fun ks => M.set n (.dct ks)
    | _ => none
  | _, _, _, _ => none
/-- the pairs are put into the dict at n -/
def putsD (n : Nat) : List (PV × PV) → Sto → Option Sto
  | [], M => some M
  | (x, y) :: ps, M => match M[n]? with
    | some (.dct kvs) => match dputP kvs x y with
      | some ks => putsD n ps (M.set n (.dct ks))
      | none => none
    | _ => none

/-! ### running -/
structure FI where
  nm : Str
  ps : List Str
  lev : Nat
  run : List PV → Sto → Res PV
  /-- the last parameter's default -/
  dv : Option PV
  /-- a class's method -/
  ow : Option (Nat × Str)
def argsN (n : Nat) (dv : Option PV) (xs : List PV) : Option (List PV) := if xs.length = n then some xs else match dv with
  | some d => if xs.length + 1 = n then some (xs ++ [d]) else none
  | none => none
/-- a call with some values written -/
def FI.go (fi : FI) (xs : List PV) (M : Sto) : Res PV := match argsN fi.ps.length fi.dv xs with
  | some ys => fi.run ys M
  | none => .stuck
structure Glb where
  fns : List FI
  bn : List Str
  cst : List (Str × PV)
  /-- the text's exception classes: the first is the base of the others; made with a text alone? -/
  cls : List (Str × Bool)
  /-- the classes whose own __init__ is known -/
  ini : List Nat := []
  /-- the plain classes: their names, their instances' fields -/
  ocs : List (Str × List Str) := []
/-- an exception of the class k is one of the class j, or of ValueError -/
def hitC (k : Nat) : Option Nat → Bool
  | none => true
  | some j => j == 0 || j == k
/-- a walk: the value at a turn, or the end; none: it can't go on -/
abbrev Wlk := Nat → Sto → Option (Option PV)
structure Walk where
  cnt : Nat
  at_ : Wlk
inductive SR where
  | next (tau : Sig) (M : Sto) | ret (v : PV) (M : Sto) | exc (c : Nat) (v : Option PV) (tau : Sig) (M : Sto) | stuck
/-- a field of an instance -/
def fldP (oc : List (Str × List Str)) (x : PV) (f : Str) (M : Sto) : Prim := match x with
  | .loc n => match M[n]? with
    | some (.ins k fs) => match oc[k]? with
      | some r => if f ∈ r.2 then (fs.lookup f).map (·, M) else none
      | none => none
    | _ => none
  | _ => none
def setFP (oc : List (Str × List Str)) (x : PV) (f : Str) (v : PV) (M : Sto) : Option Sto := match x with
  | .loc n => match M[n]? with
    | some (.ins k fs) => match oc[k]? with
      | some r => if f ∈ r.2 ∧ fs.length < 1000 then some (M.set n (.ins k (putP f v fs))) else none
      | none => none
    | _ => none
  | _ => none
/-- whether x has the method -/
def mthP (fi : FI) (mn : Str) (x : PV) (M : Sto) : Bool := match fi.ow with
  | some (k, m) => decide (m = mn) && (match x with
    | .loc n => match M[n]? with
      | some (.ins j fs) => decide (j = k) && decide (fs.lookup mn = none)
      | _ => false
    | _ => false)
  | none => false
/-- a new instance, by its class's __init__ -/
def mkP (fi : FI) (k : Nat) (xs : List PV) (M : Sto) : Res PV := if xs.length + 1 = fi.ps.length then (fi.run (.loc M.length :: xs) (M ++ [.ins k []])).bind fun v M' => match v with
  | .non => .ok (.loc M.length) M'
  | _ => .stuck else .stuck
def SR.bind (r : SR) (f : Sig → Sto → SR) : SR := match r with
  | .next tau M => f tau M
  | r => r
/-- an expression's answer in a statement -/
def Res.then {α : Type} (r : Res α) (tau : Sig) (f : α → Sto → SR) : SR := match r with
  | .ok a M => f a M
  | .exc c v M => .exc c v tau M
  | .stuck => .stuck
@[simp] theorem Res.then_ok {α : Type} (a : α) (M : Sto) (tau : Sig) (f : α → Sto → SR) : (Res.ok a M).then tau f = f a M := rfl
@[simp] theorem Res.then_stuck {α : Type} (tau : Sig) (f : α → Sto → SR) : (Res.stuck : Res α).then tau f = .stuck := rfl
@[simp] theorem Res.then_exc {α : Type} (c : Nat) (v : Option PV) (M : Sto) (tau : Sig) (f : α → Sto → SR) : (Res.exc c v M : Res α).then tau f = .exc c v tau M := rfl
@[simp] theorem SR.bind_next (tau : Sig) (M : Sto) (f : Sig → Sto → SR) : (SR.next tau M).bind f = f tau M := rfl
@[simp] theorem SR.bind_ret (v : PV) (M : Sto) (f : Sig → Sto → SR) : (SR.ret v M).bind f = .ret v M := rfl
@[simp] theorem SR.bind_exc (c : Nat) (v : Option PV) (tau : Sig) (M : Sto) (f : Sig → Sto → SR) : (SR.exc c v tau M).bind f = .exc c v tau M := rfl
@[simp] theorem SR.bind_stuck (f : Sig → Sto → SR) : SR.stuck.bind f = .stuck := rfl
def setAll : List Nat → List PV → Sig → Option Sig
  | [], [], tau => some tau
  | i :: is, v :: vs, tau => setAll is vs (tau.set i (some v))
  | _, _, _ => none
/-- a target takes a value -/
def asgT (t : PTg) (v : PV) (tau : Sig) (M : Sto) : Option Sig := match t with
  | .one i _ _ => some (tau.set i (some v))
  | .tup ts _ _ => match items? M v with
    | some xs => setAll (ts.map (·.1)) xs tau
    | none => none
def wipeP (tau : Sig) : List Nat → Sig
  | [] => tau
  | v :: vs => (wipeP tau vs).set v none
/-- a dict's keys, one by one: tuples all, as many as at first -/
def keyW (n c : Nat) : Wlk := fun i M => match dctOf M (.loc n) with
  | some ks => if (ks.all fun p => isTupK p.1) = true ∧ ks.length = c then some (ks[i]?.map (·.1)) else none
  | none => none
def seqW (M : Sto) : PV → Option Walk
  | .tup xs => some ⟨xs.length, fun i _ => some xs[i]?⟩
  | .loc n => match lst? M (.loc n) with
    | some xs => some ⟨xs.length, fun i M => (lst? M (.loc n)).map fun ys => ys[i]?⟩
    | none => match dctOf M (.loc n) with
      | some kvs => if (kvs.all fun p => isTupK p.1) = true then some ⟨kvs.length, keyW n kvs.length⟩ else none
      | none => none
  | .str s => some ⟨s.length, fun i _ => some (s[i]?.map fun c => .str [c])⟩
  | _ => none
def enumW (M : Sto) : PV → Option Walk
  | .tup xs => some ⟨xs.length, fun i _ => some (xs[i]?.map fun y => .tup [.int (i : Nat), y])⟩
  | .loc n => match lst? M (.loc n) with
    | some xs => some ⟨xs.length, fun i M => (lst? M (.loc n)).map fun ys => ys[i]?.map fun y => .tup [.int (i : Nat), y]⟩
    | none => none
  | _ => none
def two (xs ys : List PV) (i : Nat) : Option PV := match xs[i]?, ys[i]? with
  | some a, some b => some (.tup [a, b])
  | _, _ => none
def zipW (M : Sto) : PV → PV → Option Walk
  | .tup xs, .tup ys => some ⟨min xs.length ys.length, fun i _ => some (two xs ys i)⟩
  | .loc a, .loc b => match lst? M (.loc a), lst? M (.loc b) with
    | some xs, some ys => some ⟨min xs.length ys.length, fun i M => match lst? M (.loc a), lst? M (.loc b) with
      | some xs, some ys => some (two xs ys i)
      | _, _ => none⟩
    | _, _ => none
  | _, _ => none
def three (xs ys zs : List PV) (i : Nat) : Option (Option PV) := match xs[i]?, ys[i]?, zs[i]? with
  | some a, some b, some c => some (some (.tup [a, b, c]))
  | _, _, _ => if i = min (min xs.length ys.length) zs.length then some none else none
def zipW3 : PV → PV → PV → Option Walk
  | .tup xs, .tup ys, .tup zs => some ⟨min (min xs.length ys.length) zs.length, fun i _ => three xs ys zs i⟩
  | _, _, _ => none
def revW (M : Sto) : PV → Option Walk
  | .tup xs => some ⟨xs.length, fun i _ => if i < xs.length then xs[xs.length - 1 - i]?.map some else some none⟩
  | .loc n => match lst? M (.loc n) with
    | some xs => some ⟨xs.length, fun i M => if i < xs.length then (lst? M (.loc n)).bind fun ys => ys[xs.length - 1 - i]?.map some else some none⟩
    | none => none
  | _ => none
def rngW (lo hi : Int) : Walk := ⟨(hi - lo).toNat, fun i _ => some (if i < (hi - lo).toNat then some (.int (lo + i)) else none)⟩
/-- from a range's end -/
def rngB (j : Int) : Walk := ⟨j.toNat, fun i _ => some (if i < j.toNat then some (.int ((j.toNat : Int) - 1 - i)) else none)⟩
def small62 (i : Int) : Bool := decide (-(2 ^ 62) ≤ i) && decide (i < 2 ^ 62)
/-- a comprehension's turns: the list stands at n -/
def lcGo (n : Nat) (at_ : Wlk) (tgt : PV → Sto → Option Sig) (tst : Sig → Sto → Res Bool) (el : Sig → Sto → Res PV) : Nat → Nat → Sto → Res PV
  | 0, i, M => match at_ i M with
    | some none => .ok (.loc n) M
    | _ => .stuck
  | k + 1, i, M => match at_ i M with
    | some none => .ok (.loc n) M
    | some (some v) => match tgt v M with
      | some tau => (tst tau M).bind fun b M => if b = true then (el tau M).bind fun y M => match M[n]? with
          | some (.lst acc) => if acc.length < LINE then lcGo n at_ tgt tst el k (i + 1) (M.set n (.lst (acc ++ [y]))) else .stuck
          | _ => .stuck
        else lcGo n at_ tgt tst el k (i + 1) M
      | none => .stuck
    | none => .stuck
/-- a loop's turns -/
def forGo (at_ : Wlk) (tgt : PV → Sig → Sto → Option Sig) (body : Sig → Sto → SR) : Nat → Nat → Sig → Sto → SR
  | 0, i, tau, M => match at_ i M with
    | some none => .next tau M
    | _ => .stuck
  | k + 1, i, tau, M => match at_ i M with
    | some none => .next tau M
    | some (some v) => match tgt v tau M with
      | some tau => (body tau M).bind (forGo at_ tgt body k (i + 1))
      | none => .stuck
    | none => .stuck
def FUEL : Nat := 1000000
def whlGo (tst : Sig → Sto → Res Bool) (body : Sig → Sto → SR) : Nat → Sig → Sto → SR
  | 0, _, _ => .stuck
  | k + 1, tau, M => (tst tau M).then tau fun b M => if b = true then (body tau M).bind (whlGo tst body k) else .next tau M

/-- list(range(i, j)) -/
def rngL (i j : Int) (M : Sto) : Prim := if small62 i && small62 j && decide ((j - i).toNat ≤ LINE) then newL M ((List.range (j - i).toNat).map fun (k : Nat) => PV.int (i + k)) else none
/-- no exception leaves -/
def Res.nox {α : Type} (r : Res α) : Res α := match r with
  | .exc _ _ _ => .stuck
  | r => r
@[simp] theorem Res.nox_ok {α : Type} (a : α) (M : Sto) : (Res.ok a M).nox = .ok a M := rfl
/-- a value as a test's answer -/
def fin (m : Bool) (r : Res PV) : Res PV := match m with
  | false => r
  | true => r.bind fun x M => match truth M x with
    | some k => .ok (.bl k) M
    | none => .stuck
/-- a test's answer as a truth -/
def Res.bool (r : Res PV) : Res Bool := r.bind fun x M => match x with
  | .bl b => .ok b M
  | _ => .stuck
def HC.v : HC → PV
  | .non _ _ => .non
  | .bl b _ _ => .bl b
  | .int i _ _ => .int i
/-- a truth, of an exception of the class k -/
def evX (k : Nat) : HX → Sig → Option Bool
  | .isa c, _ => some (hitC k c.j)
  | .isT cs _ _ _ _ _, _ => some (cs.any fun c => hitC k (some c.1))
  | .nam i _ _, tau => match tau[i]? with
    | some (some (.bl b)) => some b
    | _ => none
  | .nt a _, tau => match evX k a tau with
    | some b => some (!b)
    | none => none
  | .an a b _, tau => match evX k a tau with
    | some true => evX k b tau
    | some false => some false
    | none => none
  | .or a b _, tau => match evX k a tau with
    | some true => some true
    | some false => evX k b tau
    | none => none
/-- a statement of the suite that holds an exception of the class k with the field y -/
def evH (k : Nat) (y : Option PV) : HSt → Sig → Sto → Option (Sig × Sto)
  | .bx i _ _ e _, tau, M => if (y.isSome && false) = true then none else match evX k e tau with
    | some b => some (tau.set i (some (.bl b)), M)
    | none => none
  | .cst i _ _ c _, tau, M => some (tau.set i (some c.v), M)
  | .mks i _ _ cs _ _, tau, M => if (y.isSome && false) = true then none else match newL M (cs.map fun c => PV.bl (hitC k c.j)) with
    | some (v, M) => some (tau.set i (some v), M)
    | none => none
  | .mkA i _ _ i2 _ _ cs _ _ _, tau, M => if (y.isSome && false) = true then none else match tau[i2]? with
    | some (some u) => match newL M (cs.map fun c => PV.bl (hitC k c.j)) with
      | some (v, M) => match opB .Add u v M with
        | some (z, M) => some (tau.set i (some z), M)
        | none => none
      | none => none
    | _ => none
  | .fld i _ _ _ _ _, tau, M => match y with
    | some v => some (tau.set i (some v), M)
    | none => none
  | .iff t i _ _ _ _ _ _, tau, M => match evX k t tau with
    | some true => (match y with
      | some v => some (tau.set i (some v), M)
      | none => none)
    | some false => some (tau, M)
    | none => none
def evHs (k : Nat) (y : Option PV) : List HSt → Sig → Sto → Option (Sig × Sto)
  | [], tau, M => some (tau, M)
  | h :: hs, tau, M => match evH k y h tau M with
    | some (tau, M) => evHs k y hs tau M
    | none => none
def SR.ofH : Option (Sig × Sto) → SR
  | some (tau, M) => .next tau M
  | none => .stuck
/-- .. except C: hs; n classes are known -/
def SR.catchC (n j : Nat) (hs : List HSt) (r : SR) : SR := match r with
  | .exc k y tau M => if k < n then (if hitC k (some j) = true then SR.ofH (evHs k y hs tau M) else .stuck) else .stuck
  | r => r
/-- .. except C as e: hs, e the slot ie -/
def SR.catchA (n j ie : Nat) (hs : List HSt) (r : SR) : SR := match r with
  | .exc k y tau M => if k < n ∧ ie < tau.length then (if hitC k (some j) = true then SR.ofH ((evHs k y hs (tau.set ie none) M).map fun p => (p.1.set ie none, p.2)) else .stuck) else .stuck
  | r => r
/-- .. except C: raise X(x) from None, x the slot i -/
def SR.catchR (n j k i : Nat) (r : SR) : SR := match r with
  | .exc k0 y tau M => if y.isSome = true then .stuck else if k0 < n ∧ hitC k0 (some j) = true then (match tau[i]? with
    | some (some (.int z)) => .exc k (some (.int z)) tau M
    | _ => .stuck) else .stuck
  | r => r
/-- no exception leaves a suite -/
def SR.nox (r : SR) : SR := match r with
  | .exc _ _ _ _ => .stuck
  | r => r
variable (G : Glb)
mutual
/-- an expression; m: as a test -/
def evE (m : Bool) : PEx → Sig → Sto → Res PV
  | .nam i _ _, tau, M => fin m (match tau[i]? with
    | some (some v) => .ok v M
    | _ => .stuck)
  | .glb g _ _, _, M => fin m (match G.cst[g]? with
    | some (_, v) => .ok v M
    | none => .stuck)
  | .non _ _, _, M => fin m (.ok .non M)
  | .bl b _ _, _, M => fin m (.ok (.bl b) M)
  | .int i _ _, _, M => fin m (.ok (.int i) M)
  | .str s _ _, _, M => fin m (.ok (.str s.cps.toList) M)
  | .tup es _ _, tau, M => fin m ((evL es tau M).bind fun xs M => if xs.length ≤ LINE then .ok (.tup xs) M else .stuck)
  | .lst es _, tau, M => fin m ((evL es tau M).bind fun xs M => Res.of (newL M xs))
  | .bin op a b _, tau, M => fin m ((evE false a tau M).bind fun x M => (evE false b tau M).bind fun y M => Res.of (opB op x y M))
  | .neg a _, tau, M => fin m ((evE false a tau M).bind fun x M => match x with
    | .int i => .ok (.int (-i)) M
    | _ => .stuck)
  | .nt a _, tau, M => (evE m a tau M).bind fun x M => match x with
    | .bl b => .ok (.bl (!b)) M
    | _ => .stuck
  | .cmp op a b _, tau, M => (evE false a tau M).bind fun x M => (evE false b tau M).bind fun y M => match opC op x y M with
    | some k => .ok (.bl k) M
    | none => .stuck
  | .chn op op' a b c _, tau, M => (evE false a tau M).bind fun x M => (evE false b tau M).bind fun y M => match opC op x y M with
    | some true => (evE false c tau M).bind fun z M => match opC op' y z M with
      | some k => .ok (.bl k) M
      | none => .stuck
    | some false => .ok (.bl false) M
    | none => .stuck
  | .and a es _, tau, M => (evE m a tau M).bind fun x M => evAnd m es x tau M
  | .or a es _, tau, M => (evE m a tau M).bind fun x M => evOr m es x tau M
  | .ife t a b _, tau, M => if m = true then .stuck else (evE true t tau M).bool.bind fun k M => if k = true then evE false a tau M else evE false b tau M
  | .sub a i _, tau, M => fin m ((evE false a tau M).bind fun x M => (evE false i tau M).bind fun y M => Res.of (opI x y M))
  | .slc a lo hi _ _, tau, M => fin m ((evE false a tau M).bind fun x M => (evE false lo tau M).bind fun l M => match l with
    | .int l => (evE false hi tau M).bind fun h M => match h with
      | .int h => Res.of (opS x (some l) (some h) M)
      | _ => .stuck
    | _ => .stuck)
  | .slcL a lo _ _, tau, M => fin m ((evE false a tau M).bind fun x M => (evE false lo tau M).bind fun l M => match l with
    | .int l => Res.of (opS x (some l) none M)
    | _ => .stuck)
  | .slcH a hi _ _, tau, M => fin m ((evE false a tau M).bind fun x M => (evE false hi tau M).bind fun h M => match h with
    | .int h => Res.of (opS x none (some h) M)
    | _ => .stuck)
  | .slcN a _ _, tau, M => fin m ((evE false a tau M).bind fun x M => Res.of (opS x none none M))
  | .call f _ e es _ _, tau, M => fin m (match G.fns[f]? with
    | some fi => (evE false e tau M).bind fun x M => (evL es tau M).bind fun xs M => fi.go (x :: xs) M
    | none => .stuck)
  | .blt b e es _ _, tau, M => fin m ((evE false e tau M).bind fun x M => (evL es tau M).bind fun xs M => Res.of (opM b (x :: xs) M))
  | .isi e t _ _ _, tau, M => fin m ((evE false e tau M).bind fun x M => match isTy M t x with
    | some k => .ok (.bl k) M
    | none => .stuck)
  | .meth d o e es _ _, tau, M => fin m ((evE false o tau M).bind fun x M => match lst? M x with
    | some _ => (evE false e tau M).bind fun y M => (evL es tau M).bind fun ys M => Res.of (opD d x (y :: ys) M)
    | none => .stuck)
  | .meth0 d o _ _, tau, M => fin m ((evE false o tau M).bind fun x M => match lst? M x with
    | some _ => Res.of (opD d x [] M)
    | none => .stuck)
  | .lc e t it ifs _ own _, tau, M => fin m ((evI it tau M).bind fun w M =>
      lcGo M.length w.at_ (fun v M => asgT t v (wipeP tau (own.map (·.2))) M) (fun tau M => (evTs ifs tau M).nox) (fun tau M => (evE false e tau M).nox) w.cnt 0 (M ++ [.lst []]))
  | .lrg a _ _ _ _, tau, M => fin m ((evE false a tau M).bind fun x M => match x with
    | .int j => Res.of (rngL 0 j M)
    | _ => .stuck)
  | .lrg2 a b _ _ _ _, tau, M => fin m ((evE false a tau M).bind fun x M => (evE false b tau M).bind fun y M => match x, y with
    | .int i, .int j => Res.of (rngL i j M)
    | _, _ => .stuck)
  | .trev e _ _ _ _, tau, M => fin m ((evE false e tau M).bind fun x M => Res.of (revT x M))
  | .jn s _ e _ _ _, tau, M => fin m ((evE false e tau M).bind fun x M => Res.of (jnP s x M))
  | .lrv e _ _ _ _, tau, M => fin m ((evE false e tau M).bind fun x M => Res.of (revL x M))
  | .lns e _ _ _ _, tau, M => fin m ((evE false e tau M).bind fun x M => Res.of (lenS x M))
  | .dct ps _, tau, M => fin m ((evP ps tau (M ++ [.dct []])).bind fun kvs M' => Res.of ((putsD M.length kvs M').map fun N => (.loc M.length, N)))
  | .dgt o k x _ _, tau, M => fin m ((evE false o tau M).bind fun d M => match dctOf M d with
    | some _ => (evE false k tau M).bind fun y M => (evE false x tau M).bind fun z M => Res.of (getP d y z M)
    | none => .stuck)
  | .slcR a _ _ _ _ _, tau, M => fin m ((evE false a tau M).bind fun x M => Res.of (revS x M))
  | .fmt e _, tau, M => fin m ((evE false e tau M).bind fun x M => Res.of (fmtP x M))
  | .jst es _, tau, M => fin m (evJ es [] tau M)
  | .spl e s _ _ _ _, tau, M => fin m ((evE false e tau M).bind fun x M => Res.of (splP s x M))
  | .fld o f _, tau, M => fin m ((evE false o tau M).bind fun x M => Res.of (fldP G.ocs x f M))
  | .mth0 f mn o _ _, tau, M => fin m (match G.fns[f]? with
    | some fi => (evE false o tau M).bind fun x M => if mthP fi mn x M = true then fi.go [x] M else .stuck
    | none => .stuck)
  | .mth f mn o e es _ _, tau, M => fin m (match G.fns[f]? with
    | some fi => (evE false o tau M).bind fun x M => if mthP fi mn x M = true then (evE false e tau M).bind fun y M => (evL es tau M).bind fun ys M => fi.go (x :: y :: ys) M else .stuck
    | none => .stuck)
  | .mk k f _ e es _ _, tau, M => fin m (match G.fns[f]? with
    | some fi => (evE false e tau M).bind fun y M => (evL es tau M).bind fun ys M => mkP fi k (y :: ys) M
    | none => .stuck)
/-- the pairs of a display -/
def evP : PPr → Sig → Sto → Res (List (PV × PV))
  | .nil, _, M => .ok [] M
  | .cons k e r, tau, M => (evE false k tau M).bind fun x M => (evE false e tau M).bind fun y M => (evP r tau M).bind fun ps M => .ok ((x, y) :: ps) M
def evL : PEs → Sig → Sto → Res (List PV)
  | .nil, _, M => .ok [] M
  | .cons e es, tau, M => (evE false e tau M).bind fun x M => (evL es tau M).bind fun xs M => .ok (x :: xs) M
def evAnd (m : Bool) : PEs → PV → Sig → Sto → Res PV
  | .nil, x, _, M => .ok x M
  | .cons e es, x, tau, M => match x with
    | .bl true => (evE m e tau M).bind fun y M => evAnd m es y tau M
    | .bl false => .ok (.bl false) M
    | _ => .stuck
def evOr (m : Bool) : PEs → PV → Sig → Sto → Res PV
  | .nil, x, _, M => .ok x M
  | .cons e es, x, tau, M => match x with
    | .bl false => (evE m e tau M).bind fun y M => evOr m es y tau M
    | .bl true => .ok (.bl true) M
    | _ => .stuck
/-- the texts one behind the other -/
def evJ : PEs → List Nat → Sig → Sto → Res PV
  | .nil, acc, _, M => .ok (.str acc) M
  | .cons e es, acc, tau, M => (evE false e tau M).bind fun x M => match x with
    | .str y => if (acc ++ y).length ≤ LINE then evJ es (acc ++ y) tau M else .stuck
    | _ => .stuck
/-- a comprehension's ifs (none or one) -/
def evTs : PEs → Sig → Sto → Res Bool
  | .nil, _, M => .ok true M
  | .cons e _, tau, M => (evE true e tau M).bool
def evI : PIt → Sig → Sto → Res Walk
  | .seq e, tau, M => (evE false e tau M).bind fun x M => match seqW M x with
    | some w => .ok w M
    | none => .stuck
  | .rng1 e _ _, tau, M => (evE false e tau M).bind fun x M => match x with
    | .int j => if small62 j then .ok (rngW 0 j) M else .stuck
    | _ => .stuck
  | .rngR e _ _ _ _, tau, M => (evE false e tau M).bind fun x M => match x with
    | .int j => if small62 j then .ok (rngB j) M else .stuck
    | _ => .stuck
  | .rng2 a b _ _, tau, M => (evE false a tau M).bind fun x M => (evE false b tau M).bind fun y M => match x, y with
    | .int i, .int j => if small62 i && small62 j then .ok (rngW i j) M else .stuck
    | _, _ => .stuck
  | .enum e _ _, tau, M => (evE false e tau M).bind fun x M => match enumW M x with
    | some w => .ok w M
    | none => .stuck
  | .zip a b _ _, tau, M => (evE false a tau M).bind fun x M => (evE false b tau M).bind fun y M => match zipW M x y with
    | some w => .ok w M
    | none => .stuck
  | .zip3 a b c _ _, tau, M => (evE false a tau M).bind fun x M => (evE false b tau M).bind fun y M => (evE false c tau M).bind fun z M => match zipW3 x y z with
    | some w => .ok w M
    | none => .stuck
  | .rev e _ _, tau, M => (evE false e tau M).bind fun x M => match revW M x with
    | some w => .ok w M
    | none => .stuck
end
/-- a pair's parts -/
def pair? : PV → Option (PV × PV)
  | .tup [x, y] => some (x, y)
  | _ => none
mutual
def evS : PSt → Sig → Sto → SR
  | .asg t e _, tau, M => (evE G false e tau M).then tau fun v M => match asgT t v tau M with
    | some tau => .next tau M
    | none => .stuck
  | .setI o i e _ _, tau, M => (evE G false e tau M).then tau fun v M => (evE G false o tau M).then tau fun x M => (evE G false i tau M).then tau fun y M => match opSet x y v M with
    | some M => .next tau M
    | none => .stuck
  | .setF o f e _ _, tau, M => (evE G false e tau M).then tau fun v M => (evE G false o tau M).then tau fun x M => match setFP G.ocs x f v M with
    | some M => .next tau M
    | none => .stuck
  | .setT o i o2 i2 e _ _ _ _, tau, M => (evE G false e tau M).then tau fun v M => match pair? v with
    | some r => (evE G false o tau M).then tau fun x M => (evE G false i tau M).then tau fun y M => match opSet x y r.1 M with
      | some M => (evE G false o2 tau M).then tau fun x M => (evE G false i2 tau M).then tau fun y M => match opSet x y r.2 M with
        | some M => .next tau M
        | none => .stuck
      | none => .stuck
    | none => .stuck
  | .expr e _, tau, M => (evE G false e tau M).then tau fun _ M => .next tau M
  | .ret e _, tau, M => (evE G false e tau M).then tau fun v M => .ret v M
  | .retN _, _, M => .ret .non M
  | .ife t a b _, tau, M => (evE G true t tau M).bool.then tau fun k M => if k = true then evSs a tau M else evSs b tau M
  | .for_ t it b _, tau, M => (evI G it tau M).then tau fun w M => forGo w.at_ (fun v tau M => asgT t v tau M) (fun tau M => evSs b tau M) w.cnt 0 tau M
  | .whl t b _, tau, M => whlGo (fun tau M => (evE G true t tau M).bool) (fun tau M => evSs b tau M) FUEL tau M
  | .pass _, tau, M => .next tau M
  | .rai k _ _ _ _ _ _ _, tau, M => .exc k none tau M
  | .tryC body j _ _ h hs _ _, tau, M => (evSs body tau M).catchC G.cls.length j (h :: hs)
  | .tryA body j _ _ ie _ h hs _ _, tau, M => (evSs body tau M).catchA G.cls.length j ie (h :: hs)
  | .tryN body _ _, tau, M => (evSs body tau M).nox
  | .tryR body j _ _ k _ i _ _ _ _ _ _ _ _ _, tau, M => (evSs body tau M).catchR G.cls.length j k i
  | .raiF k _ e _ _ _, tau, M => (evE G false e tau M).then tau fun v M => match v with
    | .int z => .exc k (some (.int z)) tau M
    | _ => .stuck
def evSs : PBl → Sig → Sto → SR
  | .nil, tau, M => .next tau M
  | .cons s r, tau, M => (evS s tau M).bind fun tau M => evSs r tau M
end
/-- a def's run -/
def runF (n : Nat) (body : PBl) (xs : List PV) (M : Sto) : Res PV := match evSs G body (xs.map some ++ List.replicate (n - xs.length) none) M with
  | .next _ M => .ok .non M
  | .ret v M => .ok v M
  | .exc c v _ M => .exc c v M
  | .stuck => .stuck
example (G : Glb) (k : Nat) (p : Pos) (t : Sig) (M : Sto) : evE G true (.nt (.bl true k p) p) t M = .ok (.bl false) M := rfl
end SW

/-! a tuple times 1, or times 0 -/
namespace SW
open PySem PySem.Spec PyProof.Rows L2
theorem mul_one_meets (l : Addr) (its : Array Value) (n : Nat) (dd : Option Addr) (sl : Array (Option Value)) (u : Tok) :
    Meets (Builtin.«tuple.__mul__» ⟨[.ref l, .int 1 u], []⟩) (fun _ R s => s.heap.get? l = some { cls := .type "tuple", dict := dd, data := .seq its n, slots := sl } ∧ R (.ok (.ret (Value.ref l))) s) :=
  .of_wp fun prog w A R s h => by
    obtain ⟨hp, g, d, tk, os⟩ := s
    obtain ⟨hl, h⟩ := h
    have f1 := AutoSeq1.idx_int
    wp_walk using wpAny_loadPart' hl
    exact ⟨_, rfl, h⟩
theorem mul_nil_meets (l : Addr) (its : Array Value) (n : Nat) (dd : Option Addr) (sl : Array (Option Value)) (u : Tok) (hi : its.isEmpty = false) :
    Meets (Builtin.«tuple.__mul__» ⟨[.ref l, .int 0 u], []⟩) (fun _ R s => s.heap.get? l = some { cls := .type "tuple", dict := dd, data := .seq its n, slots := sl } ∧
      R (.ok (.ret (Value.ref s.heap.objs.size))) { s with heap := s.heap.push { cls := Value.type "tuple", data := Data.seq #[] }, toks := s.toks }) :=
  .of_wp fun prog w A R s h => by
    obtain ⟨hp, g, d, tk, os⟩ := s
    obtain ⟨hl, h⟩ := h
    have f1 := AutoSeq1.idx_int
    wp_walk using wpAny_loadPart' hl
    exact ⟨_, rfl, h⟩
def rRep01 (K : PySem.W.Frag) : R2 := fun x y H Q => ∃ l k xs, x = .ref l ∧ y = .int k ∧ SqT K H l xs ∧ xs ≠ [] ∧ ((k = 1 ∧ Q (.ref l) H) ∨ (k = 0 ∧ ∀ p, H p = none → Q (.ref p) (upd H p (.tup []))))
theorem op_rep01 {X : Cx} : OpR X (binaryOp .Mult) (rRep01 X.K) := by
  intro pins s σ H x y v u Q I rx ry h
  obtain ⟨l, k, xs, rfl, rfl, hT, hne, q⟩ := h
  have rl : v = Value.ref l := rx
  subst rl
  obtain ⟨t, rfl⟩ := ry
  obtain ⟨its, r, ⟨⟨cls, dd, data, sl⟩, ho, hc, n, hd⟩, hs⟩ := I.tuple hT
  simp only at hc hd
  subst hc hd
  have hi : its.toArray.isEmpty = false := by
    cases its with
    | nil => exact absurd (List.eq_nil_of_length_eq_zero r.length) hne
    | cons a b => rfl
  rcases q with ⟨rfl, q⟩ | ⟨rfl, q⟩
  · exact wpAny_binaryOp_repeat_ref (T := "tuple") (U := "int") (by decide) ⟨_, ho, rfl⟩ (fun s' => typeIs_int s' 1 t) noFill_tuple_mul F.fills_int_mul F.slot_int_rmul repeat_tuple F.slot_int_index.lookup
      (call_meets F.slot_int_rmul (typeIs_int s 1 t) F.entry_int_rmul (F.args_int_rmul_2 _ _) (int_rmul_tuple 1 t l its.toArray n dd sl)
        ⟨ho, rfl, ⟨_, ho, rfl⟩, call_meets F.slot_tuple_mul ⟨_, ho, rfl⟩ F.entry_tuple_mul (F.args_tuple_mul_2 _ _) (mul_one_meets l its.toArray n dd sl t) ⟨ho, .ref l, H, I, rfl, q⟩⟩)
  · exact wpAny_binaryOp_repeat_ref (T := "tuple") (U := "int") (by decide) ⟨_, ho, rfl⟩ (fun s' => typeIs_int s' 0 t) noFill_tuple_mul F.fills_int_mul F.slot_int_rmul repeat_tuple F.slot_int_index.lookup
      (call_meets F.slot_int_rmul (typeIs_int s 0 t) F.entry_int_rmul (F.args_int_rmul_2 _ _) (int_rmul_tuple 0 t l its.toArray n dd sl)
        ⟨ho, rfl, ⟨_, ho, rfl⟩, call_meets F.slot_tuple_mul ⟨_, ho, rfl⟩ F.entry_tuple_mul (F.args_tuple_mul_2 _ _) (mul_nil_meets l its.toArray n dd sl t hi)
          ⟨ho, .ref s.heap.objs.size, _, I.laid (t' := s.toks) (o := .tup []) (fun b ob q => Heap.get?_push_of_some _ q) (Nat.le_refl _) ⟨Nat.zero_le _, [], .nil, IsTup.new _ _⟩, rfl, q _ (I.hok.fresh (Nat.le_refl _))⟩⟩)
end SW

/-! The primitives do what they do. -/
namespace SW
open PySem PySem.Spec PyProof.Rows L2

/-- what the class of an exception with a field must have -/
def XfA (K : PySem.W.Frag) (C : Addr) : Prop := XfC K C ∧ PySem.W.findIn K (.ref C) "at" = some none
/-- the class of an exception whose context is not known -/
def tagC (C : Addr) : Value := .int (C : Nat) 0
theorem tagC_ne {C C' : Addr} : Value.ref C ≠ tagC C' := fun z => by unfold tagC at z; cases z
theorem tagC_inj {C C' : Addr} (h : tagC C = tagC C') : C = C' := by
  unfold tagC at h
  injection h with h1
  exact Int.ofNat.inj h1
/-- how an exception of the plain class c with the field y lies -/
def ERep (D : Wd) (H : Hp) (rho : List Addr) (c : Nat) (y : Option PV) (cls : Value) (d : Option Addr) : Prop :=
  match y with
    | none => cls = .ref (D.cl c) ∧ d = none
    | some y => cls = tagC (D.cl c) ∧ ∃ dx v, d = some dx ∧ H dx = some (.xd [("at", v)]) ∧ Rep D H rho y v ∧ XfA D.K (D.cl c)
section
variable {D : Wd}
/-- the answer r, from (H0, rho0) on, makes Q hold -/
def OKG (D : Wd) {α β : Type} (R : Hp → List Addr → α → β → Prop) (H0 : Hp) (rho0 : List Addr) (r : Res α) (Q : β → Hp → Prop) (W : XK) : Prop := match r with
  | .ok x M => ∀ (H : Hp) (rho : List Addr) (v : β), Ext H0 rho0 H rho → StoOk D H rho M → R H rho x v → Q v H
  | .exc c y M => ∀ (H : Hp) (rho : List Addr) (cls : Value) (d : Option Addr), Ext H0 rho0 H rho → StoOk D H rho M → ERep D H rho c y cls d → W cls d H
  | .stuck => False
theorem OKG.ext {α β : Type} {R : Hp → List Addr → α → β → Prop} {H0 H : Hp} {rho0 rho : List Addr} {r : Res α} {Q : β → Hp → Prop} {W : XK} (e : Ext H0 rho0 H rho) (h : OKG D R H0 rho0 r Q W) : OKG D R H rho r Q W := by
  cases r with
  | ok x M => exact fun H1 rho1 v e1 s q => h H1 rho1 v (e.trans e1) s q
  | exc c y M => exact fun H1 rho1 cls d e1 s q => h H1 rho1 cls d (e.trans e1) s q
  | stuck => exact h
theorem OKG.bind {α β γ δ : Type} {R : Hp → List Addr → α → β → Prop} {R2 : Hp → List Addr → γ → δ → Prop} {H0 : Hp} {rho0 : List Addr} {r : Res α} {g : α → Sto → Res γ} {Q : δ → Hp → Prop} {Q' : β → Hp → Prop} {W : XK}
    (h : OKG D R2 H0 rho0 (r.bind g) Q W) (k : ∀ (H : Hp) (rho : List Addr) (x : α) (v : β) (M : Sto), Ext H0 rho0 H rho → StoOk D H rho M → R H rho x v → OKG D R2 H rho (g x M) Q W → Q' v H) : OKG D R H0 rho0 r Q' W := by
  cases r with
  | ok x M => exact fun H rho v e s q => k H rho x v M e s q (OKG.ext e h)
  | exc c y M => exact h
  | stuck => exact h
theorem OKG.ok {α β : Type} {R : Hp → List Addr → α → β → Prop} {H0 : Hp} {rho0 : List Addr} {x : α} {M : Sto} {v : β} {Q : β → Hp → Prop} {W : XK} (h : OKG D R H0 rho0 (.ok x M) Q W) (s : StoOk D H0 rho0 M) (r : R H0 rho0 x v) : Q v H0 := h H0 rho0 v Ext.refl s r
/-- a primitive's -/
def PRM (D : Wd) (H0 : Hp) (rho0 : List Addr) (r : Prim) (Q : VK) : Prop := match r with
  | some (x, M) => ∀ (H : Hp) (rho : List Addr) (v : V), Ext H0 rho0 H rho → StoOk D H rho M → Rep D H rho x v → Q v H
  | none => False
theorem OKG.prm {H0 : Hp} {rho0 : List Addr} {r : Prim} {Q : VK} {W : XK} (h : OKG D (Rep D) H0 rho0 (Res.of r) Q W) : PRM D H0 rho0 r Q := by
  cases r with
  | none => exact h
  | some p => exact h
theorem PRM.ok {H0 : Hp} {rho0 : List Addr} {x : PV} {M : Sto} {v : V} {Q : VK} (h : PRM D H0 rho0 (some (x, M)) Q) (s : StoOk D H0 rho0 M) (r : Rep D H0 rho0 x v) : Q v H0 := h H0 rho0 v Ext.refl s r
/-- a new list -/
theorem PRM.newL {H0 : Hp} {rho0 : List Addr} {xs : List PV} {M : Sto} {vs : List V} {Q : VK} (h : PRM D H0 rho0 (SW.newL M xs) Q) (s : StoOk D H0 rho0 M) (r : RepL D H0 rho0 xs vs) : xs.length ≤ LINE ∧ ∀ p, H0 p = none → Q (.ref p) (upd H0 p (.lst vs)) := by
  unfold SW.newL at h
  by_cases hz : xs.length ≤ LINE
  · rw [if_pos hz] at h
    refine ⟨hz, fun p np => h _ (rho0 ++ [p]) _ (Ext.newL np) (s.newL np r) ?_⟩
    rw [rep_loc]
    exact ⟨p, rfl, by rw [← s.len]; simp⟩
  · rw [if_neg hz] at h
    exact h.elim
theorem PRM.tup {H0 : Hp} {rho0 : List Addr} {xs : List PV} {M : Sto} {vs : List V} {Q : VK} (h : PRM D H0 rho0 (some (.tup xs, M)) Q) (s : StoOk D H0 rho0 M) (r : RepL D H0 rho0 xs vs) : ∀ p, H0 p = none → Q (.ref p) (upd H0 p (.tup vs)) := fun p np =>
  h _ rho0 _ (Ext.new np) (s.new np) (rep_tup.mpr ⟨p, vs, rfl, .inl (.inl upd_same), r.ext (Ext.new np)⟩)
/-- a list written -/
theorem StoOk.wr {H : Hp} {rho : List Addr} {M : Sto} {n : Nat} {xs ys : List PV} {ws : List V} (s : StoOk D H rho M) (hn : M[n]? = some (.lst xs)) {a : Addr} {vs : List V} (ea : rho[n]? = some a) (h : H a = some (.lst vs)) (r : RepL D H rho ys ws) :
    Ext H rho (upd H a (.lst ws)) rho ∧ StoOk D (upd H a (.lst ws)) rho (M.set n (.lst ys)) := ⟨Ext.writeL h, s.writeL hn ea h r⟩
end
theorem line_eq : sizeLine = LINE := sizeLine_eq

section
variable {X : Cx} {D : Wd} (hK : X.K = D.K)
def r2P (D : Wd) (g : PV → PV → Sto → Prim) : R2 := fun x y H Q => ∃ px py M rho, StoOk D H rho M ∧ Rep D H rho px x ∧ Rep D H rho py y ∧ PRM D H rho (g px py M) Q
def r1P (D : Wd) (g : List PV → Sto → Prim) : List V → Hp → VK → Prop := fun vs H Q => ∃ xs M rho, StoOk D H rho M ∧ RepL D H rho xs vs ∧ PRM D H rho (g xs M) Q
include hK
theorem opB_ok (op : Operator) : OpR X (binaryOp op) (r2P D (opB op)) := by
  intro pins s σ H x y v u Q I rx ry h
  obtain ⟨px, py, M, rho, st, hx, hy, h⟩ := h
  cases op with
  | Add =>
    cases px <;> cases py <;> simp only [opB] at h <;> first | exact h.elim | skip
    · rename_i i j
      rw [rep_int] at hx hy
      exact op_add pins s σ H x y v u Q I rx ry ⟨i, j, hx, hy, h.ok st (rep_int.mpr rfl)⟩
    · rename_i a b
      rw [rep_str] at hx hy
      split at h
      · rename_i hz
        refine op_add_str pins s σ H x y v u Q I rx ry ⟨_, _, hx, hy, ?_, h.ok st (rep_str.mpr ?_)⟩
        · rw [line_eq]; simpa [Str.length] using hz
        · show V.str _ = V.str _
          congr 1
          show Str.mk _ = Str.mk _
          simp
      · exact h.elim
    · rename_i a b
      rw [rep_tup] at hx hy
      obtain ⟨p, vs, ex, h1, h2⟩ := hx
      obtain ⟨q, ws, ey, k1, k2⟩ := hy
      split at h
      · rename_i hz
        refine op_catA pins s σ H x y v u Q I rx ry ⟨p, q, vs, ws, ex, ey, by rw [hK]; exact h1, by rw [hK]; exact k1, by rw [line_eq, ← h2.len, ← k2.len]; exact hz, fun e => ?_, fun _ e => ?_, fun _ _ r nr => ?_⟩
        · have ea := h2.nil_iff.mpr e
          subst ea
          exact h.ok st (rep_tup.mpr ⟨q, ws, rfl, k1, k2⟩)
        · have ea := k2.nil_iff.mpr e
          subst ea
          rw [List.append_nil] at h
          exact h.ok st (rep_tup.mpr ⟨p, vs, rfl, h1, h2⟩)
        · exact h.tup st (h2.append k2) r nr
      · exact h.elim
    · rename_i a b
      split at h
      · rename_i xs ys ha hb
        obtain ⟨p, ex, ep⟩ := rep_loc.mp hx
        obtain ⟨q, ey, eq⟩ := rep_loc.mp hy
        obtain ⟨p', vs, ep', h1, h2⟩ := st.lst ha
        obtain ⟨q', ws, eq', k1, k2⟩ := st.lst hb
        rw [ep] at ep'; cases ep'
        rw [eq] at eq'; cases eq'
        obtain ⟨hz, hq⟩ := h.newL st (h2.append k2)
        exact op_cat pins s σ H x y v u Q I rx ry ⟨p, q, vs, ws, ex, ey, h1, k1, by rw [line_eq, ← h2.len, ← k2.len, ← List.length_append]; exact hz, hq⟩
      · exact h.elim
  | Sub =>
    cases px <;> cases py <;> simp only [opB] at h <;> first | exact h.elim | skip
    rename_i i j
    rw [rep_int] at hx hy
    exact op_sub pins s σ H x y v u Q I rx ry ⟨i, j, hx, hy, h.ok st (rep_int.mpr rfl)⟩
  | Mult =>
    cases px <;> cases py <;> simp only [opB] at h <;> first | exact h.elim | skip
    · rename_i i j
      rw [rep_int] at hx hy
      split at h
      · rename_i hc
        exact op_mul pins s σ H x y v u Q I rx ry ⟨i, j, hx, hy, by unfold CMul; omega, h.ok st (rep_int.mpr rfl)⟩
      · exact h.elim
    · rename_i xs k
      rw [rep_int] at hy
      split at h
      · rename_i hc
        obtain ⟨a, vs, ex, h1, h2⟩ := rep_tup.mp hx
        have hr : ∀ n : Nat, RepL D H rho (List.replicate n xs).flatten (List.replicate n vs).flatten := fun n => by
          induction n with
          | zero => simp [repL_nil]
          | succ n ih => rw [List.replicate_succ, List.replicate_succ, List.flatten_cons, List.flatten_cons]; exact h2.append ih
        have hne : vs ≠ [] := fun e => by
          have := h2.nil_iff.mpr e
          rw [this] at hc
          exact absurd hc.1 (by simp)
        have hk := hc.2.1
        rcases (show k = 0 ∨ k = 1 ∨ 2 ≤ k by omega) with rfl | rfl | k2
        · exact op_rep01 pins s σ H x y v u Q I rx ry ⟨a, 0, vs, ex, hy, by rw [hK]; exact h1, hne, .inr ⟨rfl, h.tup st (hr 0)⟩⟩
        · have e1 : (List.replicate (Int.toNat 1) xs).flatten = xs := by simp
          rw [e1] at h
          exact op_rep01 pins s σ H x y v u Q I rx ry ⟨a, 1, vs, ex, hy, by rw [hK]; exact h1, hne, .inl ⟨rfl, h.ok st (rep_tup.mpr ⟨a, vs, rfl, h1, h2⟩)⟩⟩
        · exact op_repT pins s σ H x y v u Q I rx ry ⟨a, k, vs, ex, hy, by rw [hK]; exact h1, hne, k2, hc.2.2.1, by rw [← h2.len]; exact hc.2.2.2, h.tup st (hr _)⟩
      · exact h.elim
    · rename_i a k
      rw [rep_int] at hy
      split at h
      · rename_i xs ha
        split at h
        · rename_i hc
          obtain ⟨p, ex, ep⟩ := rep_loc.mp hx
          obtain ⟨p', vs, ep', h1, h2⟩ := st.lst ha
          rw [ep] at ep'; cases ep'
          have hr : ∀ n : Nat, RepL D H rho (List.replicate n xs).flatten (List.replicate n vs).flatten := fun n => by
            induction n with
            | zero => simp [repL_nil]
            | succ n ih => rw [List.replicate_succ, List.replicate_succ, List.flatten_cons, List.flatten_cons]; exact h2.append ih
          obtain ⟨hz, hq⟩ := h.newL st (hr _)
          exact op_rep pins s σ H x y v u Q I rx ry ⟨p, k, vs, ex, hy, h1, hc.1, hc.2.1, by rw [line_eq, ← h2.len]; exact hc.2.2, hq⟩
        · exact h.elim
      · exact h.elim
  | FloorDiv =>
    cases px <;> cases py <;> simp only [opB] at h <;> first | exact h.elim | skip
    rename_i i j
    rw [rep_int] at hx hy
    split at h
    · rename_i hc
      exact op_fdivW pins s σ H x y v u Q I rx ry ⟨i, j, hx, hy, wide_div (b := 200) hc.1 (by omega) (by omega) (by omega), h.ok st (rep_int.mpr rfl)⟩
    · exact h.elim
  | Mod =>
    cases px <;> cases py <;> simp only [opB] at h <;> first | exact h.elim | skip
    rename_i i j
    rw [rep_int] at hx hy
    split at h
    · rename_i hc
      exact op_mod pins s σ H x y v u Q I rx ry ⟨i, j, hx, hy, hc, h.ok st (rep_int.mpr rfl)⟩
    · exact h.elim
  | Pow =>
    cases px <;> cases py <;> simp only [opB] at h <;> first | exact h.elim | skip
    rename_i i j
    rw [rep_int] at hx hy
    split at h
    · rename_i hc
      exact op_pow pins s σ H x y v u Q I rx ry ⟨i, j, hx, hy, hc, h.ok st (rep_int.mpr rfl)⟩
    · exact h.elim
  | _ => exact h.elim
end
end SW

/-! Dicts: flat keys, or tuples. -/
namespace SW
open PySem PySem.Spec PyProof.Rows L2

section
variable {X : Cx} {D : Wd} {pins : List (Addr × Obj)} {σ : L2.St} {s : Shared} {H : Hp} {rho : List Addr} {M : Sto}
mutual
theorem nested_is (hK : X.K = D.K) (I : Inv X pins σ H s) : ∀ (x : PV) (v : V) (u : Value) (k : NestedKey), Rep D H rho x v → RelV v u → nky x = some k → NestedIs s.heap k u
  | .non, v, u, k, r, rv, h => by
    rw [rep_non] at r; subst r; cases rv
    rw [nky] at h; cases h
    exact .none
  | .int i, v, u, k, r, rv, h => by
    rw [rep_int] at r; subst r
    obtain ⟨t, rfl⟩ := rv
    rw [nky] at h; cases h
    exact .int i t
  | .str z, v, u, k, r, rv, h => by
    rw [rep_str] at r; subst r
    obtain ⟨t, rfl⟩ := rv
    rw [nky] at h; cases h
    exact .text _ t
  | .tup xs, v, u, k, r, rv, h => by
    obtain ⟨a, vs, rfl, h1, h2⟩ := rep_tup.mp r
    cases rv
    rw [nky] at h
    obtain ⟨ks, hk, rfl⟩ := Option.map_eq_some_iff.mp h
    obtain ⟨its, rr, p, hz⟩ := I.tuple (by rw [hK]; exact h1)
    obtain ⟨o, ho, hc, n, hd⟩ := p
    exact .tup ho hc hd (nested_all hK I xs vs its ks h2 rr hk)
  | .bl b, v, u, k, r, rv, h => by rw [nky] at h; cases h
  | .loc n, v, u, k, r, rv, h => by rw [nky] at h; cases h
theorem nested_all (hK : X.K = D.K) (I : Inv X pins σ H s) : ∀ (xs : List PV) (vs : List V) (us : List Value) (ks : List NestedKey), RepL D H rho xs vs → Vals vs us → nkyL xs = some ks → NestedAll s.heap ks us
  | [], vs, us, ks, r, rv, h => by
    rw [repL_nil] at r; subst r; cases rv
    rw [nkyL] at h; cases h
    exact .nil
  | x :: xs, vs, us, ks, r, rv, h => by
    obtain ⟨v, r', rfl, r1, r2⟩ := repL_cons.mp r
    cases rv with
    | cons a b =>
      rw [nkyL] at h
      split at h
      · rename_i k ks' e1 e2
        cases h
        exact .cons (nested_is hK I x v _ k r1 a e1) (nested_all hK I xs r' _ ks' r2 b e2)
      · cases h
end
/-- a key that is a tuple -/
theorem key_is (hK : X.K = D.K) (I : Inv X pins σ H s) {x : PV} {v : V} {u : Value} {k : NestedKey} (r : Rep D H rho x v) (rv : RelV v u) (h : nky x = some k) (ht : isTupK x = true) (hd : k.depth ≤ 8) : ∃ b, v = .ref b ∧ u = .ref b ∧ (nestedKind X.prog X.w).is s.heap k b := by
  cases x <;> first | cases ht | skip
  obtain ⟨a, vs, rfl, h1, h2⟩ := rep_tup.mp r
  have ru : u = Value.ref a := rv
  subst ru
  exact ⟨a, rfl, rfl, nested_is hK I _ _ _ _ r rv h, hd⟩
theorem dns_is (hK : X.K = D.K) (I : Inv X pins σ H s) : ∀ {kvs : List (PV × PV)} {xs : List (NestedKey × Addr × Value)}, DNs D H rho kvs xs → ∀ x ∈ xs, (nestedKind X.prog X.w).is s.heap x.1 x.2.1
  | [], xs, h, x, hx => by subst h; cases hx
  | p :: kvs, xs, h, x, hx => by
    obtain ⟨nk, b, u, v, r, rfl, h2, h3, h4, h5, h6, h7⟩ := h
    rcases List.mem_cons.mp hx with rfl | q
    · exact ⟨nested_is hK I _ _ (Value.ref b) _ h4 rfl h2, h3⟩
    · exact dns_is hK I h7 x q
/-- the dict as the kit has it, and its keys have turned as often as there are keys -/
def DE (P : Program) (w : World) (h : Heap) (a : Addr) (xs : List (NestedKey × Addr × Value)) : Prop :=
  ∃ ob es, h.get? a = some ob ∧ ob.ExactDict ∧ ob.data = .dict es xs.length ∧ es.toList = xs.map (entryOfKey (nestedKind P w)) ∧ (∀ x ∈ xs, (nestedKind P w).is h x.1 x.2.1) ∧ (xs.map (·.1)).Nodup
theorem DE.h {P : Program} {w : World} {h : Heap} {a : Addr} {xs : List (NestedKey × Addr × Value)} (x : DE P w h a xs) : h.DictOfH (nestedKind P w) a xs := let ⟨ob, es, h1, h2, h3, r⟩ := x; ⟨ob, es, _, h1, h2, h3, r⟩
theorem DE.flat {P : Program} {w : World} {h : Heap} {a : Addr} (x : DE P w h a []) : h.DictOf (mixKind P w) a [] := by
  obtain ⟨ob, es, h1, h2, h3, h4, _⟩ := x
  have e : es = #[] := by cases es with | mk l => simpa using h4
  subst e
  exact ⟨ob, #[], _, h1, h2, h3, fun _ q => by simp at q, Pairs.nil, List.nodup_nil⟩
theorem dn_of (hK : X.K = D.K) (hw : X.w = D.w) (I : Inv X pins σ H s) {a : Addr} {kvs : List (PV × PV)} {xs : List (NestedKey × Addr × Value)} (h : H a = some (dnO D.w a xs)) (hn : DNs D H rho kvs xs) (nd : (xs.map (·.1)).Nodup) :
    DE X.prog X.w s.heap a xs := by
  have x : ObjOk X.prog X.w H s.heap a (.ext fun h => ∃ ob es ep, h.get? a = some ob ∧ ob.ExactDict ∧ ob.data = .dict es ep ∧ ep = xs.length ∧ es.toList = xs.map fun x => (⟨x.1.hash D.w, .ref x.2.1, x.2.2⟩ : DictEntry)) := I.hok a _ h
  obtain ⟨⟨ob, es, ep, h1, h2, h3, h5, h4⟩, _⟩ := x
  subst h5
  refine ⟨ob, es, h1, h2, h3, ?_, dns_is hK I hn, nd⟩
  rw [h4, ← hw]
  rfl
/-- the object told of -/
theorem dn_ok {P : Program} {w : World} {H' : Hp} {h' : Heap} {a : Addr} {xs : List (NestedKey × Addr × Value)} (dd : DE P w h' a xs) : ObjOk P w H' h' a (dnO w a xs) := by
  obtain ⟨ob, es, h1, h2, h3, h4, h5, h6⟩ := dd
  exact ⟨⟨ob, es, _, h1, h2, h3, rfl, h4⟩, ⟨ob, h1⟩, fun g1 g2 ⟨ob, es, ep, k1, k2, k3, k5, k4⟩ e => ⟨ob, es, ep, e _ k1, k2, k3, k5, k4⟩⟩
/-- a new dict -/
theorem de_new {P : Program} {w : World} (h : Heap) : DE P w (h.push { cls := .type "dict", data := .dict #[] }) h.objs.size [] := ⟨_, #[], Heap.get?_push_size _ rfl, ⟨rfl, rfl, rfl⟩, rfl, rfl, fun _ q => (List.not_mem_nil q).elim, List.nodup_nil⟩
theorem sys_new {h : Heap} (hb : sysModules < h.objs.size) : (h.objs.size == sysModules) = false := beq_eq_false_iff_ne.mpr (Ne.symm (Nat.ne_of_lt hb))
theorem dns_len : ∀ {kvs : List (PV × PV)} {xs : List (NestedKey × Addr × Value)}, DNs D H rho kvs xs → xs.length = kvs.length
  | [], xs, h => by subst h; rfl
  | p :: kvs, xs, h => by
    obtain ⟨nk, b, u, v, r, rfl, h2, h3, h4, h5, h6, h7⟩ := h
    rw [List.length_cons, List.length_cons, dns_len h7]
theorem dks_len : ∀ {kvs : List (PV × PV)} {ws : List (Key × V)}, DKs D H rho kvs ws → ws.length = kvs.length
  | [], xs, h => by subst h; rfl
  | p :: kvs, xs, h => by
    obtain ⟨k, v, r, rfl, h2, h3, h4⟩ := h
    rw [List.length_cons, List.length_cons, dks_len h4]
def GotN (D : Wd) (H : Hp) (rho : List Addr) (r : Option PV) (o : Option (Addr × Value)) : Prop := match r with
  | some pv => ∃ q v, o = some q ∧ RelV v q.2 ∧ Rep D H rho pv v
  | none => o = none
def GotK (D : Wd) (H : Hp) (rho : List Addr) (r : Option PV) (o : Option V) : Prop := match r with
  | some pv => ∃ v, o = some v ∧ Rep D H rho pv v
  | none => o = none
/-- what is found -/
theorem dns_find {k : NestedKey} : ∀ {kvs : List (PV × PV)} {xs : List (NestedKey × Addr × Value)}, DNs D H rho kvs xs → GotN D H rho ((kvs.find? fun p => decide (nky p.1 = some k)).map (·.2)) (atKey xs k)
  | [], xs, h => by subst h; rfl
  | p :: kvs, xs, h => by
    obtain ⟨nk, b, u, v, r, rfl, h2, h3, h4, h5, h6, h7⟩ := h
    by_cases e : nk = k
    · subst e
      have e1 : decide (nky p.1 = some nk) = true := decide_eq_true h2
      rw [List.find?_cons, e1]
      exact ⟨(b, u), v, by simp [atKey], h5, h6⟩
    · have e1 : decide (nky p.1 = some k) = false := decide_eq_false (by rw [h2]; intro z; exact e (Option.some.inj z))
      rw [List.find?_cons, e1]
      have ih := dns_find (k := k) h7
      have ea : atKey ((nk, b, u) :: r) k = atKey r k := by simp [atKey, List.find?_cons, e]
      rw [ea]
      exact ih
theorem dks_find {k : Key} : ∀ {kvs : List (PV × PV)} {ws : List (Key × V)}, DKs D H rho kvs ws → GotK D H rho ((kvs.find? fun p => decide (fky p.1 = some k)).map (·.2)) (valV ws k)
  | [], xs, h => by subst h; rfl
  | p :: kvs, xs, h => by
    obtain ⟨nk, v, r, rfl, h2, h6, h7⟩ := h
    by_cases e : nk = k
    · subst e
      have e1 : decide (fky p.1 = some nk) = true := decide_eq_true h2
      rw [List.find?_cons, e1]
      exact ⟨v, valV_pos rfl, h6⟩
    · have e1 : decide (fky p.1 = some k) = false := decide_eq_false (by rw [h2]; intro z; exact e (Option.some.inj z))
      rw [List.find?_cons, e1, valV_neg e]
      exact dks_find (k := k) h7
theorem dns_any {k : NestedKey} : ∀ {kvs : List (PV × PV)} {xs : List (NestedKey × Addr × Value)}, DNs D H rho kvs xs → (kvs.any fun p => decide (nky p.1 = some k)) = (atKey xs k).isSome
  | [], xs, h => by subst h; rfl
  | p :: kvs, xs, h => by
    obtain ⟨nk, b, u, v, r, rfl, h2, h3, h4, h5, h6, h7⟩ := h
    rw [List.any_cons, dns_any (k := k) h7]
    by_cases e : nk = k
    · subst e
      rw [decide_eq_true h2]
      simp [atKey]
    · rw [decide_eq_false (by rw [h2]; intro z; exact e (Option.some.inj z)), Bool.false_or]
      simp [atKey, List.find?_cons, e]
theorem dks_any {k : Key} : ∀ {kvs : List (PV × PV)} {ws : List (Key × V)}, DKs D H rho kvs ws → (kvs.any fun p => decide (fky p.1 = some k)) = (ws.any fun kv => decide (kv.1 = k))
  | [], xs, h => by subst h; rfl
  | p :: kvs, xs, h => by
    obtain ⟨nk, v, r, rfl, h2, h6, h7⟩ := h
    rw [List.any_cons, List.any_cons, dks_any (k := k) h7, h2]
    congr 1
    by_cases e : nk = k <;> simp [e]
theorem dns_map {k : NestedKey} {pv : PV} {v : V} {u : Value} (rv : RelV v u) (r : Rep D H rho pv v) : ∀ {kvs : List (PV × PV)} {xs : List (NestedKey × Addr × Value)}, DNs D H rho kvs xs → DNs D H rho (kvs.map fun p => if nky p.1 = some k then (p.1, pv) else p) (xs.map (putAt k u))
  | [], xs, h => by subst h; rfl
  | p :: kvs, xs, h => by
    obtain ⟨nk, b, u', v', r', rfl, h2, h3, h4, h5, h6, h7⟩ := h
    have ih := dns_map (k := k) rv r h7
    by_cases e : nk = k
    · subst e
      rw [List.map_cons, List.map_cons, if_pos h2]
      exact ⟨nk, b, u, v, _, by simp [putAt], h2, h3, h4, rv, r, ih⟩
    · rw [List.map_cons, List.map_cons, if_neg (by rw [h2]; intro z; exact e (Option.some.inj z))]
      exact ⟨nk, b, u', v', _, by simp [putAt, e], h2, h3, h4, h5, h6, ih⟩
theorem dks_map {k : Key} {pv : PV} {v : V} (r : Rep D H rho pv v) : ∀ {kvs : List (PV × PV)} {ws : List (Key × V)}, DKs D H rho kvs ws → DKs D H rho (kvs.map fun p => if fky p.1 = some k then (p.1, pv) else p) (ws.map fun kv => if kv.1 = k then (kv.1, v) else kv)
  | [], xs, h => by subst h; rfl
  | p :: kvs, xs, h => by
    obtain ⟨nk, v', r', rfl, h2, h6, h7⟩ := h
    have ih := dks_map (k := k) r h7
    by_cases e : nk = k
    · subst e
      rw [List.map_cons, List.map_cons, if_pos h2, if_pos rfl]
      exact ⟨nk, v, _, rfl, h2, r, ih⟩
    · rw [List.map_cons, List.map_cons, if_neg (by rw [h2]; intro z; exact e (Option.some.inj z)), if_neg e]
      exact ⟨nk, v', _, rfl, h2, h6, ih⟩
theorem dns_snoc {x pv : PV} {k : NestedKey} {b : Addr} {v : V} {u : Value} (h2 : nky x = some k) (h3 : k.depth ≤ 8) (h4 : Rep D H rho x (.ref b)) (rv : RelV v u) (r : Rep D H rho pv v) : ∀ {kvs : List (PV × PV)} {xs : List (NestedKey × Addr × Value)}, DNs D H rho kvs xs → DNs D H rho (kvs ++ [(x, pv)]) (xs ++ [(k, b, u)])
  | [], xs, h => by subst h; exact ⟨k, b, u, v, [], rfl, h2, h3, h4, rv, r, rfl⟩
  | p :: kvs, xs, h => by
    obtain ⟨nk, b', u', v', r', rfl, q2, q3, q4, q5, q6, q7⟩ := h
    exact ⟨nk, b', u', v', _, rfl, q2, q3, q4, q5, q6, dns_snoc h2 h3 h4 rv r q7⟩
theorem dks_snoc {x pv : PV} {k : Key} {v : V} (h2 : fky x = some k) (r : Rep D H rho pv v) : ∀ {kvs : List (PV × PV)} {ws : List (Key × V)}, DKs D H rho kvs ws → DKs D H rho (kvs ++ [(x, pv)]) (ws ++ [(k, v)])
  | [], xs, h => by subst h; exact ⟨k, v, [], rfl, h2, r, rfl⟩
  | p :: kvs, xs, h => by
    obtain ⟨nk, v', r', rfl, q2, q6, q7⟩ := h
    exact ⟨nk, v', _, rfl, q2, q6, dks_snoc h2 r q7⟩
theorem pk_kV {x : PV} {k : Key} {v : V} (h : fky x = some k) (r : Rep D H rho x v) : v = kV k := by
  cases x <;> simp only [fky] at h <;> cases h
  · rw [rep_int] at r; subst r; rfl
  · rw [rep_str] at r; subst r; rfl
theorem dns_tup : ∀ {kvs : List (PV × PV)} {xs : List (NestedKey × Addr × Value)}, DNs D H rho kvs xs → kvs ≠ [] → (kvs.all fun p => (fky p.1).isSome) = false
  | [], xs, h, ne => absurd rfl ne
  | p :: kvs, xs, h, _ => by
    obtain ⟨nk, b, u, v, r, rfl, h2, h3, h4, h5, h6, h7⟩ := h
    have : fky p.1 = none := by
      cases e : p.1 with
      | int i => rw [e, rep_int] at h4; cases h4
      | str z => rw [e, rep_str] at h4; cases h4
      | _ => rfl
    rw [List.all_cons, this]; rfl
theorem dks_flat : ∀ {kvs : List (PV × PV)} {ws : List (Key × V)}, DKs D H rho kvs ws → kvs ≠ [] → (kvs.all fun p => isTupK p.1) = false
  | [], xs, h, ne => absurd rfl ne
  | p :: kvs, xs, h, _ => by
    obtain ⟨nk, v, r, rfl, h2, h6, h7⟩ := h
    have : isTupK p.1 = false := by
      cases e : p.1 with
      | tup xs => rw [e] at h2; cases h2
      | _ => rfl
    rw [List.all_cons, this]; rfl
theorem dct_at (st : StoOk D H rho M) {x : PV} {v : V} {kvs : List (PV × PV)} (r : Rep D H rho x v) (h : dctOf M x = some kvs) : ∃ n a o, x = .loc n ∧ M[n]? = some (.dct kvs) ∧ rho[n]? = some a ∧ v = .ref a ∧ H a = some o ∧ DRep D H rho a kvs o := by
  cases x <;> simp only [dctOf] at h <;> first | cases h | skip
  rename_i n
  split at h
  · rename_i ks hm
    cases h
    obtain ⟨a, ea, o, h1, h2⟩ := st.obj n _ hm
    obtain ⟨b, eb, ea'⟩ := rep_loc.mp r
    rw [ea] at ea'; cases ea'
    exact ⟨n, a, o, rfl, hm, ea, eb, h1, h2⟩
  · cases h
/-- what is found at a key: as the kit has it -/
theorem dct_get (hK : X.K = D.K) (hw : X.w = D.w) (hu : X.A.units + 64 < cLine) (I : Inv X pins σ H s) {a : Addr} {o : HO} {kvs : List (PV × PV)} {x : PV} {v : V} {u : Value} {r : Option PV} (ho : H a = some o) (hd : DRep D H rho a kvs o) (rx : Rep D H rho x v) (ru : RelV v u) (h : dgetP kvs x = some r) :
    (∃ k ro, DGet H a v ro ∧ v = kV k ∧ GotK D H rho r ro) ∨
    (∃ k b xs, u = .ref b ∧ (nestedKind X.prog X.w).is s.heap k b ∧ (a == sysModules) = false ∧ s.heap.DictOfH (nestedKind X.prog X.w) a xs ∧ GotN D H rho r (atKey xs k)) ∨
    (∃ k, r = none ∧ v = kV k ∧ (a == sysModules) = false ∧ s.heap.DictOf (mixKind X.prog X.w) a []) := by
  unfold dgetP at h
  split at h
  · rename_i ht
    right; left
    split at h
    · rename_i k hk
      split at h
      · rename_i hc
        cases h
        obtain ⟨b, rfl, rfl, hi⟩ := key_is hK I rx ru hk ht hc.1
        rcases hd with ⟨ne, ws, rfl, hws⟩ | ⟨hs, xs, rfl, hxs, nd, _⟩
        · rw [dks_flat hws ne] at hc; cases hc.2
        · exact ⟨k, b, xs, rfl, hi, hs, (dn_of hK hw I ho hxs nd).h, dns_find hxs⟩
      · cases h
    · cases h
  · split at h
    · rename_i k hk
      split at h
      · rename_i hc
        cases h
        have ek := pk_kV hk rx
        subst ek
        rcases hd with ⟨ne, ws, rfl, hws⟩ | ⟨hs, xs, rfl, hxs, nd, _⟩
        · exact .inl ⟨k, _, DGet.k ho, rfl, dks_find (k := k) hws⟩
        · by_cases ne : kvs = []
          · subst ne
            have hxs0 : xs = [] := hxs
            subst hxs0
            exact .inr (.inr ⟨k, rfl, rfl, hs, (dn_of hK hw I ho hxs nd).flat⟩)
          · rw [dns_tup hxs ne] at hc; cases hc
      · cases h
    · cases h
theorem room_nest (hu : X.A.units + 64 < cLine) : (nestedKind X.prog X.w).room X.A.in1 := by
  show X.A.units + 1 + 8 < cLine
  omega
theorem dct_in (hK : X.K = D.K) (hw : X.w = D.w) (hu : X.A.units + 64 < cLine) (I : Inv X pins σ H s) {E : Value → Shared → Prop} {a : Addr} {o : HO} {kvs : List (PV × PV)} {x : PV} {v : V} {u : Value} {r : Option PV} {Q : Value → Shared → Prop} (ho : H a = some o) (hd : DRep D H rho a kvs o) (rx : Rep D H rho x v) (ru : RelV v u) (h : dgetP kvs x = some r) :
    ((∀ s', Inv X pins σ H s' → Q (.bool r.isSome) s') → wpAny (model X.prog X.w) X.A (compareOp .In u (.ref a)) Q E s) ∧ ((∀ s', Inv X pins σ H s' → Q (.bool (!r.isSome)) s') → wpAny (model X.prog X.w) X.A (compareOp .NotIn u (.ref a)) Q E s) := by
  rcases dct_get hK hw hu I ho hd rx ru h with ⟨k, ro, g, rfl, e⟩ | ⟨k, b, xs, rfl, hi, hs, dd, e⟩ | ⟨k, rfl, rfl, hs, dd⟩
  · have eq : ro.isSome = r.isSome := by
      cases r with
      | none => have e : ro = none := e; rw [e]; rfl
      | some pv => obtain ⟨w, e1, _⟩ := e; rw [e1]; rfl
    exact ⟨fun q => d_in (by omega) I g ru fun s' I' => by rw [eq]; exact q s' I', fun q => d_notIn (by omega) I g ru fun s' I' => by rw [eq]; exact q s' I'⟩
  · have eq : (atKey xs k).isSome = r.isSome := by
      cases r with
      | none => have e : atKey xs k = none := e; rw [e]; rfl
      | some pv => obtain ⟨q, w, e1, _⟩ := e; rw [e1]; rfl
    exact ⟨fun q => wpAny_in_heap (room_nest hu) hi hs dd (by rw [eq]; exact q _ (I.tok _)), fun q => wpAny_notIn_heap (room_nest hu) hi hs dd (by rw [eq]; exact q _ (I.tok _))⟩
  · exact ⟨fun q => wpAny_in_of (kV_is ru) hs dd.mapOf (q _ (I.tok _)), fun q => wpAny_notIn_of (kV_is ru) hs dd.mapOf (q _ (I.tok _))⟩
theorem dct_sub (hK : X.K = D.K) (hw : X.w = D.w) (hu : X.A.units + 64 < cLine) (I : Inv X pins σ H s) {E : Value → Shared → Prop} {a : Addr} {o : HO} {kvs : List (PV × PV)} {x pv : PV} {v : V} {u : Value} {Q : Value → Shared → Prop} (ho : H a = some o) (hd : DRep D H rho a kvs o) (rx : Rep D H rho x v) (ru : RelV v u) (h : dgetP kvs x = some (some pv))
    (q : ∀ w u' s', Inv X pins σ H s' → RelV w u' → Rep D H rho pv w → Q u' s') : s.TypeIs (.ref a) "dict" ∧ wpAny (model X.prog X.w) X.A (getItem (.ref a) u) Q E s := by
  rcases dct_get hK hw hu I ho hd rx ru h with ⟨k, ro, g, rfl, e⟩ | ⟨k, b, xs, rfl, hi, hs, dd, e⟩ | ⟨k, e, _⟩
  · obtain ⟨w, rfl, rw'⟩ := e
    exact ⟨dict_typeIs I g, d_getItem (by omega) I g ru fun w' s' I' rel => q w w' s' I' rel rw'⟩
  · obtain ⟨p, w, e1, e2, e3⟩ := e
    exact ⟨dd.typeIs, wpAny_getItem_heap (room_nest hu) hi dd e1 (q w _ _ (I.tok _) e2 e3)⟩
  · cases e
/-- a dict's kind -/
theorem dct_ty (hK : X.K = D.K) (hw : X.w = D.w) (I : Inv X pins σ H s) {a : Addr} {o : HO} {kvs : List (PV × PV)} (ho : H a = some o) (hd : DRep D H rho a kvs o) : s.TypeIs (.ref a) "dict" ∧ ∀ b, Value.ref a = .ref b → ∃ ob, s.heap.get? b = some ob ∧ ob.dict = none := by
  rcases hd with ⟨ne, ws, rfl, hws⟩ | ⟨hs, xs, rfl, hxs, nd, _⟩
  · obtain ⟨_, _, vs, _, dd⟩ := dk_of I.hok ho
    refine ⟨dd.typeIs, fun b q => ?_⟩
    cases q
    obtain ⟨ob, _, _, g, cl, _⟩ := dd
    exact ⟨ob, g, cl.2.1⟩
  · have dd := dn_of hK hw I ho hxs nd
    refine ⟨dd.h.typeIs, fun b q => ?_⟩
    cases q
    obtain ⟨ob, _, g, cl, _⟩ := dd
    exact ⟨ob, g, cl.2.1⟩
/-- d.get(x, z) -/
theorem dct_getd (hK : X.K = D.K) (hw : X.w = D.w) (hu : X.A.units + 64 < cLine) (I : Inv X pins σ H s) {E : Value → Shared → Prop} {a : Addr} {o : HO} {kvs : List (PV × PV)} {x pz : PV} {v z : V} {u t : Value} {r : Option PV} {Q : Value → Shared → Prop} (ho : H a = some o) (hd : DRep D H rho a kvs o) (rx : Rep D H rho x v) (ru : RelV v u) (rz : Rep D H rho pz z) (rt : RelV z t) (h : dgetP kvs x = some r)
    (q : ∀ w u' s', Inv X pins σ H s' → RelV w u' → Rep D H rho (r.getD pz) w → Q u' s') : wpAny (model X.prog X.w) X.A (call (.builtin "dict.get") [.ref a, u, t]) Q E s := by
  rcases dct_get hK hw hu I ho hd rx ru h with ⟨k, ro, g, rfl, e⟩ | ⟨k, b, xs, rfl, hi, hs, dd, e⟩ | ⟨k, rfl, rfl, hs, dd⟩
  · refine d_get2 (by omega) I g ru rt fun w' s' I' rel => q _ w' s' I' rel ?_
    cases r with
    | none => have e : ro = none := e; subst e; exact rz
    | some pv => obtain ⟨w, rfl, rw'⟩ := e; exact rw'
  · refine call_meetsIn PySem.F.slot_dict_get dd.typeIs PySem.F.entry_dict_get (PySem.F.args_dict_get_3 _ _ _) (meetsH_dict_get_default (nestedKind X.prog X.w) a b hs t) ⟨room_nest hu, k, xs, hi, dd, ?_⟩
    cases r with
    | none => have e : atKey xs k = none := e; rw [e]; exact q z _ _ (I.tok _) rt rz
    | some pv => obtain ⟨p, w, e1, e2, e3⟩ := e; rw [e1]; exact q w _ _ (I.tok _) e2 e3
  · refine call_meetsIn PySem.F.slot_dict_get dd.typeIs PySem.F.entry_dict_get (PySem.F.args_dict_get_3 _ _ _) (meets_dict_get_default (mixKind X.prog X.w) a (kV_is ru) hs t) ⟨_, dd.mapOf, ?_⟩
    exact q z _ _ (I.tok _) rt rz
/-- a dict of tuples, walked: its entries -/
theorem dn_raw (I : Inv X pins σ H s) {w : World} {a : Addr} {xs : List (NestedKey × Addr × Value)} (h : H a = some (dnO w a xs)) : ∃ es, s.heap.DictRaw a es xs.length ∧ es.size = xs.length ∧ ∀ (i : Nat) (hi : i < es.size), ∃ y, xs[i]? = some y ∧ es[i].key = .ref y.2.1 := by
  have x : ObjOk X.prog X.w H s.heap a (.ext fun h => ∃ ob es ep, h.get? a = some ob ∧ ob.ExactDict ∧ ob.data = .dict es ep ∧ ep = xs.length ∧ es.toList = xs.map fun x => (⟨x.1.hash w, .ref x.2.1, x.2.2⟩ : DictEntry)) := I.hok a _ h
  obtain ⟨⟨ob, es, ep, h1, h2, h3, h5, h4⟩, _⟩ := x
  subst h5
  have sz : es.size = xs.length := by rw [← Array.length_toList, h4, List.length_map]
  refine ⟨es, ⟨ob, h1, h2, h3⟩, sz, fun i hi => ?_⟩
  have hx : i < xs.length := sz ▸ hi
  refine ⟨xs[i], List.getElem?_eq_getElem hx, ?_⟩
  have e : es[i]? = some es[i] := Array.getElem?_eq_getElem hi
  rw [← Array.getElem?_toList, h4, List.getElem?_map, List.getElem?_eq_getElem hx] at e
  rw [← Option.some.inj e]
theorem dns_get {p : PV × PV} : ∀ {kvs : List (PV × PV)} {xs : List (NestedKey × Addr × Value)} {i : Nat}, DNs D H rho kvs xs → kvs[i]? = some p → ∃ y, xs[i]? = some y ∧ Rep D H rho p.1 (.ref y.2.1)
  | [], xs, i, h, e => by simp at e
  | q :: kvs, xs, i, h, e => by
    obtain ⟨nk, b, u, v, r, rfl, h2, h3, h4, h5, h6, h7⟩ := h
    cases i with
    | zero => simp at e; subst e; exact ⟨_, rfl, h4⟩
    | succ i => simpa using dns_get h7 (by simpa using e)
/-- a value is put at a key that has its hash -/
theorem put_hashed {P : Program} {w : World} {A : Around} {E : Value → Shared → Prop} {s : Shared} {a b : Addr} {xs : List (NestedKey × Addr × Value)} {k : NestedKey} {r : Value} {Q : Unit → Shared → Prop} (hu : (nestedKind P w).room A)
    (hk : (nestedKind P w).is s.heap k b) (m : DE P w s.heap a xs) (hz : xs.length ≤ sizeLine) (q : ∀ g, DE P w g a (storedH xs k b r) → Heap.SameBut a s.heap g → Q () { s with heap := g }) :
    wpAny (model P w) A (dictSetHashed a (.ref b) ((nestedKind P w).hash k) r) Q E s := by
  obtain ⟨ob, es, g, cl, da, en, ks, nd⟩ := m
  have sz := size_of_entries en
  unfold dictSetHashed
  try with_reducible refine wpAny_holding ?_
  refine wpAny_bind (wpAny_dictFind_heap hu hk g da en ks nd (fun no => ?_) fun j p hj => ?_)
  · have fresh : k ∉ xs.map (·.1) := not_mem_keys_of_get no
    have e0 : storedH xs k b r = xs ++ [(k, b, r)] := storedH_new (atKey_none_of_get no) b r
    have sb : Heap.SameBut a s.heap (s.heap.update a (Obj.mapDictKeys fun es => es.push ⟨(nestedKind P w).hash k, .ref b, r⟩)) := Heap.SameBut.update ..
    refine wpAny_bind (wpAny_rule (wpAny_updateDictKeys (hz := by omega) g da (q _ ?_ sb)))
    rw [e0]
    refine ⟨_, es.push ⟨(nestedKind P w).hash k, .ref b, r⟩, Heap.get?_update_self _ g (Obj.isFreed_of_dict (Obj.data_mapDictKeys da _)), cl.mapDictKeys _, ?_, ?_, fun x hx => ?_, ?_⟩
    · rw [List.length_append]; exact Obj.data_mapDictKeys da _
    · simp [en, entryOfKey]
    · rcases List.mem_append.mp hx with hx | hx
      · exact (nestedKind P w).keeps (ks x hx) g da sb
      · rw [List.mem_singleton] at hx; subst hx; exact (nestedKind P w).keeps hk g da sb
    · rw [List.map_append, List.nodup_append]
      exact ⟨nd, by simp, fun x hx y hy => by rw [List.map_cons, List.map_nil, List.mem_singleton] at hy; subst hy; exact fun e => fresh (e ▸ hx)⟩
  · have e0 : storedH xs k b r = xs.map (putAt k r) := storedH_old (atKey_of_get nd hj) b r
    have sb : Heap.SameBut a s.heap (s.heap.update a (Obj.mapDict fun es => es.modify j fun e => { e with val := r })) := Heap.SameBut.update ..
    refine wpAny_bind (wpAny_rule (wpAny_bind (wpAny_updateDict g da (wpAny_point (q _ ?_ sb)))))
    rw [e0]
    refine ⟨_, es.modify j fun e => { e with val := r }, Heap.get?_update_self _ g (Obj.isFreed_of_dict (Obj.data_mapDict da _)), cl.mapDict _, ?_, ?_, fun x hx => ?_, ?_⟩
    · rw [List.length_map]; exact Obj.data_mapDict da _
    · have z := modify_map_putAt (entryOfKey (nestedKind P w)) (fun e : DictEntry => { e with val := r }) k r (fun _ _ => rfl) nd hj
      rw [← en] at z
      obtain ⟨l⟩ := es
      simpa using z
    · obtain ⟨y, hy, rfl⟩ := List.mem_map.mp hx
      unfold putAt
      split <;> exact (nestedKind P w).keeps (ks y hy) g da sb
    · rw [keys_map_putAt]; exact nd
theorem put_key {P : Program} {w : World} {A : Around} {E : Value → Shared → Prop} {s : Shared} {a b : Addr} {xs : List (NestedKey × Addr × Value)} {k : NestedKey} {r : Value} {Q : Unit → Shared → Prop} (hu : (nestedKind P w).room A)
    (hk : (nestedKind P w).is s.heap k b) (m : DE P w s.heap a xs) (hz : xs.length ≤ sizeLine) (q : ∀ g tk, DE P w g a (storedH xs k b r) → Heap.SameBut a s.heap g → Q () { s with heap := g, toks := tk }) :
    wpAny (model P w) A (dictSet a (.ref b) r) Q E s := by
  unfold dictSet
  try with_reducible refine wpAny_holding ?_
  exact wpAny_bind ((nestedKind P w).pyHash hu hk (put_hashed (s := { s with toks := s.toks + (nestedKind P w).draws k }) hu hk m hz fun g d sb => q g _ d sb))
theorem put_item {P : Program} {w : World} {A : Around} {E : Value → Shared → Prop} {s : Shared} {a b : Addr} {xs : List (NestedKey × Addr × Value)} {k : NestedKey} {r : Value} {Q : Unit → Shared → Prop} (hu : (nestedKind P w).room A.in1)
    (hk : (nestedKind P w).is s.heap k b) (m : DE P w s.heap a xs) (hz : xs.length ≤ sizeLine) (q : ∀ g tk, DE P w g a (storedH xs k b r) → Heap.SameBut a s.heap g → Q () { s with heap := g, toks := tk }) :
    wpAny (model P w) A (setItem (.ref a) (.ref b) r) Q E s := by
  have ty := m.h.typeIs
  unfold setItem
  try with_reducible refine wpAny_holding ?_
  refine wpAny_bind (wpAny_sequenceKey ty (by decide) (wpAny_bind (wpAny_callSpecial?_slot (name := Str.ofString "__setitem__") ty PySem.slot_dict_setitem
    (wpAny_call_entry PySem.slot_dict_setitem ty PySem.entry_dict_setitem ?_ (PySem.args_dict_setitem _ _ _)))))
  show wpAny _ _ (Builtin.Dict.notOrdered "__setitem__" ⟨[.ref a, .ref b, r], []⟩ >>= _) _ _ s
  refine wpAny_bind (wpAny_notOrdered_dict ty ?_)
  show wpAny _ _ (dictSet a (.ref b) r >>= _) _ _ s
  exact wpAny_bind (put_key hu hk m hz fun g tk d sb => wpAny_pure ⟨.none, rfl, wpAny_pure (q g tk d sb)⟩)
/-- a way to put r at u in the dict at a -/
structure Putter (X : Cx) (E : Value → Shared → Prop) (a : Addr) (u r : Value) (op : Sem Unit) : Prop where
  hp : ∀ (s : Shared) (k : NestedKey) (b : Addr) (xs : List (NestedKey × Addr × Value)) (Q : Unit → Shared → Prop), u = .ref b → (nestedKind X.prog X.w).is s.heap k b → DE X.prog X.w s.heap a xs → xs.length ≤ sizeLine →
    (∀ h' tk, DE X.prog X.w h' a (storedH xs k b r) → Heap.SameBut a s.heap h' → Q () { s with heap := h', toks := tk }) → wpAny (model X.prog X.w) X.A op Q E s
  fl : ∀ (s : Shared) (k : Key) (vs : List (Key × Value)) (Q : Unit → Shared → Prop), (mixKind X.prog X.w).is k u = true → s.heap.DictOf (mixKind X.prog X.w) a vs → vs.length ≤ sizeLine →
    (∀ h' tk, h'.DictOf (mixKind X.prog X.w) a (stored vs k r) → Heap.SameBut a s.heap h' → Q () { s with heap := h', toks := tk }) → wpAny (model X.prog X.w) X.A op Q E s
theorem put_set (hu : X.A.units + 64 < cLine) {E : Value → Shared → Prop} {a : Addr} {u r : Value} : Putter X E a u r (setItem (.ref a) u r) :=
  ⟨fun s k b xs Q e hi dd hz q => by subst e; exact put_item (room_nest hu) hi dd hz q, fun s k vs Q hi dd hz q => wpAny_setItem_pairs (hsz := hz) hi dd fun h' d b => q h' _ d b⟩
theorem room_nest0 (hu : X.A.units + 64 < cLine) : (nestedKind X.prog X.w).room X.A := by
  show X.A.units + 8 < cLine
  omega
theorem put_dict (hu : X.A.units + 64 < cLine) {E : Value → Shared → Prop} {a : Addr} {u r : Value} : Putter X E a u r (dictSet a u r) :=
  ⟨fun s k b xs Q e hi dd hz q => by subst e; exact put_key (room_nest0 hu) hi dd hz q, fun s k vs Q hi dd hz q => wpAny_dictSet_pairs (hsz := hz) hi dd fun h' d b => q h' _ d b⟩
theorem dct_put (hK : X.K = D.K) (hw : X.w = D.w) (I : Inv X pins σ H s) {E : Value → Shared → Prop} {n : Nat} {a : Addr} {kvs ks : List (PV × PV)} {x pv : PV} {v vy : V} {u r : Value} {Q : Unit → Shared → Prop} {op : Sem Unit} (pt : Putter X E a u r op)
    (st : StoOk D H rho M) (hm : M[n]? = some (.dct kvs)) (ea : rho[n]? = some a) (rx : Rep D H rho x v) (ru : RelV v u) (ry : Rep D H rho pv vy) (rr : RelV vy r) (h : dputP kvs x pv = some ks)
    (q : ∀ H' s', Inv X pins σ H' s' → Ext H rho H' rho → StoOk D H' rho (M.set n (.dct ks)) → Q () s') : wpAny (model X.prog X.w) X.A op Q E s := by
  obtain ⟨a', ea', o, ho, hd⟩ := st.obj n _ hm
  rw [ea] at ea'; cases ea'
  unfold dputP at h
  split at h
  · rename_i ht
    split at h
    · rename_i k hk
      split at h
      · rename_i hc
        cases h
        obtain ⟨b, rfl, rfl, hi⟩ := key_is hK I rx ru hk ht hc.1
        have all : ∃ xs, (a == sysModules) = false ∧ DE X.prog X.w s.heap a xs ∧ DNs D H rho kvs xs ∧ Mut (some o) := by
          rcases hd with ⟨ne, ws, rfl, hws⟩ | ⟨hs, xs, rfl, hxs, nd, _⟩
          · rw [dks_flat hws ne] at hc; cases hc.2.1
          · exact ⟨xs, hs, dn_of hK hw I ho hxs nd, hxs, trivial⟩
        obtain ⟨xs, hs, dd, hxs, mo⟩ := all
        have lz := dns_len hxs
        have hz : xs.length < sizeLine := by rw [line_eq]; omega
        refine pt.hp s k b xs _ rfl hi dd (by omega) fun h' tk dd' sb => ?_
        have he : ∃ q, h'.get? a = some q := let ⟨q, _, hq, _⟩ := dd'; ⟨q, hq⟩
        have I' := d_write (t' := tk) I (a := a) (by rw [ho]; exact mo) sb he (dn_ok (H' := upd H a (dnO X.w a (storedH xs k b r))) dd')
        rw [hw] at I'
        have e1 : Ext H rho (upd H a (dnO D.w a (storedH xs k b r))) rho := Ext.write ho mo
        refine q _ _ I' e1 (st.write hm rfl rfl ea ho mo ⟨_, upd_same, .inr ⟨hs, _, rfl, ?_, ?_, ?_⟩⟩)
        · have an := dns_any (k := k) hxs
          refine DNs.ext0 e1.to0 ?_
          cases ek : atKey xs k with
          | none =>
            rw [storedH_new ek, an, ek, if_neg (by simp)]
            exact dns_snoc hk hc.1 rx rr ry hxs
          | some p =>
            rw [storedH_old ek, an, ek, if_pos (by rfl)]
            exact dns_map rr ry hxs
        · exact dd'.h.nodup
        · unfold storedH
          split
          · rw [List.length_map]; omega
          · rw [List.length_append]; simp; omega
      · cases h
    · cases h
  · split at h
    · rename_i k hk
      split at h
      · rename_i hc
        cases h
        have ek := pk_kV hk rx
        subst ek
        have all : ∃ ws vs, DKs D H rho kvs ws ∧ ws.length ≤ sizeLine ∧ (a == sysModules) = false ∧ KV ws vs ∧ s.heap.DictOf (mixKind X.prog X.w) a vs ∧ Mut (some o) := by
          rcases hd with ⟨ne, ws, rfl, hws⟩ | ⟨hs, xs, rfl, hxs, nd, _⟩
          · obtain ⟨z, hs, vs, rel, dd⟩ := dk_of I.hok ho
            exact ⟨ws, vs, hws, z, hs, rel, dd, trivial⟩
          · by_cases ne : kvs = []
            · subst ne
              have hxs0 : xs = [] := hxs
              subst hxs0
              exact ⟨[], [], rfl, Nat.zero_le _, hs, .nil, (dn_of hK hw I ho hxs nd).flat, trivial⟩
            · rw [dns_tup hxs ne] at hc; cases hc.1
        obtain ⟨ws, vs, hws, z, hs, rel, dd, mo⟩ := all
        have lz := dks_len hws
        have hl : (putK ws k vy).length ≤ sizeLine := by have h1 := length_putK ws k vy; have h2 := line_eq; omega
        have e1 : Ext H rho (upd H a (.dK (putK ws k vy))) rho := Ext.write ho mo
        refine pt.fl s k vs _ (kV_is ru) dd (by rw [← rel.length]; exact z) fun h' tk dd' sb => ?_
        have he : ∃ q, h'.get? a = some q := let ⟨q, _, _, hq, _⟩ := dd'; ⟨q, hq⟩
        have I' := d_write (t' := tk) I (a := a) (by rw [ho]; exact mo) sb he (dk_new (H' := upd H a (.dK (putK ws k vy))) hl hs (rel.put k rr) dd')
        refine q _ _ I' e1 (st.write hm rfl rfl ea ho mo ⟨_, upd_same, .inl ⟨?_, _, rfl, ?_⟩⟩)
        · split
          · rename_i c
            intro z
            have := congrArg List.length z
            rw [List.length_map] at this
            cases kvs with
            | nil => cases c
            | cons _ _ => cases this
          · simp
        · refine DKs.ext0 e1.to0 ?_
          have an := dks_any (k := k) hws
          unfold putK
          rw [an]
          split
          · exact dks_map ry hws
          · exact dks_snoc hk ry hws
      · cases h
    · cases h
/-- a[x] = y -/
theorem dct_set (hK : X.K = D.K) (hw : X.w = D.w) (hu : X.A.units + 64 < cLine) (I : Inv X pins σ H s) {E : Value → Shared → Prop} {n : Nat} {a : Addr} {kvs ks : List (PV × PV)} {x pv : PV} {v vy : V} {u r : Value} {Q : Unit → Shared → Prop} (st : StoOk D H rho M) (hm : M[n]? = some (.dct kvs)) (ea : rho[n]? = some a) (rx : Rep D H rho x v) (ru : RelV v u) (ry : Rep D H rho pv vy) (rr : RelV vy r) (h : dputP kvs x pv = some ks)
    (q : ∀ H' s', Inv X pins σ H' s' → Ext H rho H' rho → StoOk D H' rho (M.set n (.dct ks)) → Q () s') : wpAny (model X.prog X.w) X.A (setItem (.ref a) u r) Q E s :=
  dct_put hK hw I (put_set hu) st hm ea rx ru ry rr h q
end
end SW

namespace SW
open PySem PySem.Spec PyProof.Rows L2

/-! ### data -/
theorem depthAll_le {n : Nat} : ∀ {ds : List PyData}, (∀ d ∈ ds, d.depth ≤ n) → PyData.depthAll ds ≤ n
  | [], _ => by simp [PyData.depthAll]
  | d :: ds, h => by
    have h1 := h d (by simp)
    have h2 := depthAll_le (ds := ds) fun e he => h e (by simp [he])
    simp only [PyData.depthAll]
    omega
theorem mapO_mem {α β : Type} {f : α → Option β} : ∀ {xs : List α} {ys : List β}, mapO f xs = some ys → ∀ y ∈ ys, ∃ x ∈ xs, f x = some y
  | [], ys, h, y, hy => by cases h; cases hy
  | x :: xs, ys, h, y, hy => by
    simp only [mapO] at h
    split at h
    · rename_i a as e1 e2
      cases h
      rcases List.mem_cons.mp hy with rfl | hy
      · exact ⟨x, by simp, e1⟩
      · obtain ⟨z, hz, ez⟩ := mapO_mem e2 y hy
        exact ⟨z, by simp [hz], ez⟩
    · cases h
theorem toD_depth (M : Sto) : ∀ (k : Nat) (x : PV) (d : PyData), toD M k x = some d → d.depth ≤ k + 1
  | k, .non, d, h => by simp [toD] at h; subst h; simp [PyData.depth]
  | k, .bl b, d, h => by simp [toD] at h; subst h; simp [PyData.depth]
  | k, .int i, d, h => by simp [toD] at h; subst h; simp [PyData.depth]
  | k, .str s, d, h => by simp [toD] at h; subst h; simp [PyData.depth]
  | 0, .tup xs, d, h => by simp [toD] at h
  | 0, .loc n, d, h => by simp [toD] at h
  | k + 1, .tup xs, d, h => by
    simp only [toD] at h
    obtain ⟨ds, e, rfl⟩ := Option.map_eq_some_iff.mp h
    have : PyData.depthAll ds ≤ k + 1 := depthAll_le fun d hd => by
      obtain ⟨x, _, ex⟩ := mapO_mem e d hd
      exact toD_depth M k x d ex
    simp only [PyData.depth]
    omega
  | k + 1, .loc n, d, h => by
    simp only [toD] at h
    split at h
    · rename_i xs hx
      obtain ⟨ds, e, rfl⟩ := Option.map_eq_some_iff.mp h
      have : PyData.depthAll ds ≤ k + 1 := depthAll_le fun d hd => by
        obtain ⟨x, _, ex⟩ := mapO_mem e d hd
        exact toD_depth M k x d ex
      simp only [PyData.depth]
      omega
    · cases h
section
variable {D : Wd} {H : Hp} {rho : List Addr} {M : Sto}
theorem dpAll_of {f : PV → Option PyData} (hf : ∀ x v d, f x = some d → Rep D H rho x v → Dp D.K H v d) : ∀ {xs : List PV} {vs : List V} {ds : List PyData}, mapO f xs = some ds → RepL D H rho xs vs → DpAll D.K H vs ds
  | [], vs, ds, h, r => by cases h; rw [repL_nil.mp r]; exact .nil
  | x :: xs, vs, ds, h, r => by
    obtain ⟨v, rs, rfl, r1, r2⟩ := repL_cons.mp r
    simp only [mapO] at h
    split at h
    · rename_i a as e1 e2
      cases h
      exact .cons (hf _ _ _ e1 r1) (dpAll_of hf e2 r2)
    · cases h
theorem dp_of (st : StoOk D H rho M) : ∀ (k : Nat) (x : PV) (v : V) (d : PyData), toD M k x = some d → Rep D H rho x v → Dp D.K H v d
  | k, .non, v, d, h, r => by simp [toD] at h; subst h; rw [rep_non] at r; subst r; exact .non
  | k, .bl b, v, d, h, r => by simp [toD] at h; subst h; rw [rep_bl] at r; subst r; exact .bl _
  | k, .int i, v, d, h, r => by simp [toD] at h; subst h; rw [rep_int] at r; subst r; exact .int _
  | k, .str s, v, d, h, r => by simp [toD] at h; subst h; rw [rep_str] at r; subst r; exact .str _
  | 0, .tup xs, v, d, h, r => by simp [toD] at h
  | 0, .loc n, v, d, h, r => by simp [toD] at h
  | k + 1, .tup xs, v, d, h, r => by
    simp only [toD] at h
    obtain ⟨ds, e, rfl⟩ := Option.map_eq_some_iff.mp h
    obtain ⟨a, vs, rfl, h1, h2⟩ := rep_tup.mp r
    exact .tup h1 (dpAll_of (fun x v d => dp_of st k x v d) e h2)
  | k + 1, .loc n, v, d, h, r => by
    simp only [toD] at h
    split at h
    · rename_i xs hx
      obtain ⟨ds, e, rfl⟩ := Option.map_eq_some_iff.mp h
      obtain ⟨a, vs, rfl, h1, h2⟩ := st.list r hx
      exact .lst h1 (dpAll_of (fun x v d => dp_of st k x v d) e h2)
    · cases h
theorem flatV_of {x : PV} {v : V} (r : Rep D H rho x v) (f : flat x = true) : flatV v = true := by
  cases x with
  | non => rw [rep_non] at r; subst r; rfl
  | bl b => rw [rep_bl] at r; subst r; rfl
  | int b => rw [rep_int] at r; subst r; rfl
  | str b => rw [rep_str] at r; subst r; rfl
  | tup _ => cases f
  | loc _ => cases f
theorem str_beq (a b : List Nat) : ((⟨a.toArray⟩ : Str) == ⟨b.toArray⟩) = (a == b) := by
  rw [Bool.eq_iff_iff]
  simp
theorem eqF_of {x y : PV} {v w : V} (r : Rep D H rho x v) (q : Rep D H rho y w) : flat x = true → flat y = true → eqF x y = eqV v w := by
  intro fx fy
  cases x with
  | tup _ => cases fx
  | loc _ => cases fx
  | non =>
    rw [rep_non] at r; subst r
    cases y with
    | tup _ => cases fy
    | loc _ => cases fy
    | non => rw [rep_non] at q; subst q; rfl
    | bl b => rw [rep_bl] at q; subst q; rfl
    | int b => rw [rep_int] at q; subst q; rfl
    | str b => rw [rep_str] at q; subst q; rfl
  | bl a =>
    rw [rep_bl] at r; subst r
    cases y with
    | tup _ => cases fy
    | loc _ => cases fy
    | non => rw [rep_non] at q; subst q; rfl
    | bl b => rw [rep_bl] at q; subst q; rfl
    | int b => rw [rep_int] at q; subst q; rfl
    | str b => rw [rep_str] at q; subst q; rfl
  | int a =>
    rw [rep_int] at r; subst r
    cases y with
    | tup _ => cases fy
    | loc _ => cases fy
    | non => rw [rep_non] at q; subst q; rfl
    | bl b => rw [rep_bl] at q; subst q; rfl
    | int b => rw [rep_int] at q; subst q; rfl
    | str b => rw [rep_str] at q; subst q; rfl
  | str a =>
    rw [rep_str] at r; subst r
    cases y with
    | tup _ => cases fy
    | loc _ => cases fy
    | non => rw [rep_non] at q; subst q; rfl
    | bl b => rw [rep_bl] at q; subst q; rfl
    | int b => rw [rep_int] at q; subst q; rfl
    | str b => rw [rep_str] at q; subst q; exact (str_beq a b).symm
theorem any_of {x : PV} {v : V} (r : Rep D H rho x v) (fx : flat x = true) : ∀ {xs : List PV} {vs : List V}, RepL D H rho xs vs → xs.all flat = true → (vs.all flatV = true ∧ (xs.any fun z => eqF z x) = inV v vs)
  | [], vs, h, _ => by rw [repL_nil.mp h]; exact ⟨rfl, rfl⟩
  | y :: xs, vs, h, f => by
    obtain ⟨w, rs, rfl, r1, r2⟩ := repL_cons.mp h
    rw [List.all_cons, Bool.and_eq_true] at f
    obtain ⟨q1, q2⟩ := any_of r fx r2 f.2
    unfold inV at q2 ⊢
    rw [List.all_cons, List.any_cons, List.any_cons, q1, q2, flatV_of r1 f.1, eqF_of r1 r f.1 fx]
    exact ⟨rfl, rfl⟩
end

theorem opC_in {x y : PV} {M : Sto} (h : ¬ ∃ c z, x = .str [c] ∧ y = .str z) : opC .In x y M = (match items? M y with
    | some ys => if flat x && ys.all flat then some (ys.any fun z => eqF z x) else inP M x y
    | none => match dctOf M y with
      | some kvs => (dgetP kvs x).map (·.isSome)
      | none => none) := by
  rw [opC] <;> first | rfl | exact fun c z e1 e2 => h ⟨c, z, e1, e2⟩
theorem opC_nin {x y : PV} {M : Sto} (h : ¬ ∃ c z, x = .str [c] ∧ y = .str z) : opC .NotIn x y M = (match items? M y with
    | some ys => if flat x && ys.all flat then some (!(ys.any fun z => eqF z x)) else (inP M x y).map not
    | none => match dctOf M y with
      | some kvs => (dgetP kvs x).map fun o => !o.isSome
      | none => none) := by
  rw [opC] <;> first | rfl | exact fun c z e1 e2 => h ⟨c, z, e1, e2⟩
section
variable {X : Cx} {D : Wd} (hK : X.K = D.K)
def rCP (D : Wd) (g : PV → PV → Sto → Option Bool) : R2 := fun x y H Q => ∃ px py M rho k, StoOk D H rho M ∧ Rep D H rho px x ∧ Rep D H rho py y ∧ g px py M = some k ∧ Q (.bl k) H
include hK
theorem inP_ok (hu : X.A.units + 64 < cLine) {pins : List (Addr × Obj)} {s : Shared} {σ : L2.St} {H : Hp} {x y : V} {v u : Value} {E : Value → Shared → Prop} {px py : PV} {M : Sto} {rho : List Addr} {k : Bool} {Q : Value → Shared → Prop} (I : Inv X pins σ H s) (rx : RelV x v) (ry : RelV y u) (st : StoOk D H rho M) (hx : Rep D H rho px x) (hy : Rep D H rho py y)
    (h : inP M px py = some k) : (Q (.bool k) s → wpAny (model X.prog X.w) X.A (compareOp .In v u) Q E s) ∧ (Q (.bool (!k)) s → wpAny (model X.prog X.w) X.A (compareOp .NotIn v u) Q E s) := by
  have go : ∀ (d e : PyData) (es : List PyData), toD M 12 px = some d → toD M 12 py = some e → (d.canLay0 && PyData.canLayAll0 es) = true → (e = .list es ∨ e = .tuple es) → k = (es.any fun z => PyData.eqv z d) →
      (Q (.bool k) s → wpAny (model X.prog X.w) X.A (compareOp .In v u) Q E s) ∧ (Q (.bool (!k)) s → wpAny (model X.prog X.w) X.A (compareOp .NotIn v u) Q E s) := by
    intro d e es hd he hc ho hk
    rw [Bool.and_eq_true] at hc
    have p1 := PyData.plain_of_canLay0 d hc.1
    have p2 := PyData.plainAll_of_canLay0 es hc.2
    have d1 := toD_depth M 12 px d hd
    obtain ⟨as, r1⟩ := Dp.reads I d x v (by rw [hK]; exact dp_of st 12 px x d hd hx) rx
    obtain ⟨bs, r2⟩ := Dp.reads I e y u (by rw [hK]; exact dp_of st 12 py y e he hy) ry
    subst hk
    have hl : X.A.units + 1 + min (PyData.depthAll es) d.depth < cLine := by omega
    rcases ho with rfl | rfl
    · exact ⟨fun q => SeqAt.in_list_data r2 r1 p2 p1 hl q, fun q => SeqAt.notIn_list_data r2 r1 p2 p1 hl q⟩
    · exact ⟨fun q => SeqAt.in_tuple_data r2 r1 p2 p1 hl q, fun q => SeqAt.notIn_tuple_data r2 r1 p2 p1 hl q⟩
  unfold inP at h
  split at h
  · rename_i d es hd he
    split at h
    · rename_i hc
      exact go d _ es hd he hc (.inl rfl) (Option.some.inj h).symm
    · cases h
  · rename_i d es hd he
    split at h
    · rename_i hc
      exact go d _ es hd he hc (.inr rfl) (Option.some.inj h).symm
    · cases h
  · cases h
theorem opC_ok (hw : X.w = D.w) (hu : X.A.units + 64 < cLine) (op : CmpOp) : OpR X (compareOp op) (rCP D (opC op)) := by
  intro pins s σ H x y v u Q I rx ry h
  obtain ⟨px, py, M, rho, k, st, hx, hy, h, q⟩ := h
  cases op with
  | Eq =>
    by_cases isS : ∃ a b, px = .str a ∧ py = .str b
    · obtain ⟨a, b, rfl, rfl⟩ := isS
      simp only [opC] at h
      cases h
      rw [rep_str] at hx hy
      subst hx hy
      refine op_eq pins s σ H _ _ v u Q I rx ry ⟨rfl, ?_⟩
      have e : decide (V.str ⟨a.toArray⟩ = V.str ⟨b.toArray⟩) = decide (a = b) := by congr 1; simp
      rw [e]
      exact q
    have h : eqP M px py = some k := by
      revert h
      cases px <;> cases py <;> first | exact id | (intro _; exact absurd ⟨_, _, rfl, rfl⟩ isS)
    simp only [eqP] at h
    split at h
    · rename_i d e hd he
      split at h
      · rename_i hc
        cases h
        rw [Bool.and_eq_true] at hc
        have d1 := toD_depth M 12 px d hd
        have d2 := toD_depth M 12 py e he
        refine op_eqD hu pins s σ H x y v u Q I rx ry ⟨d, e, by rw [hK]; exact dp_of st 12 px x d hd hx, by rw [hK]; exact dp_of st 12 py y e he hy, ?_, ?_, q⟩
        · unfold SeqAt.shaped; rw [hc.1, Bool.true_and]; exact decide_eq_true (by omega)
        · unfold SeqAt.shaped; rw [hc.2, Bool.true_and]; exact decide_eq_true (by omega)
      · cases h
    · cases h
  | NotEq =>
    by_cases isS : ∃ a b, px = .str a ∧ py = .str b
    · obtain ⟨a, b, rfl, rfl⟩ := isS
      simp only [opC] at h
      cases h
      rw [rep_str] at hx hy
      subst hx hy
      refine op_ne pins s σ H _ _ v u Q I rx ry ⟨rfl, ?_⟩
      have e : decide (V.str ⟨a.toArray⟩ = V.str ⟨b.toArray⟩) = decide (a = b) := by congr 1; simp
      rw [e]
      exact q
    have h : (eqP M px py).map not = some k := by
      revert h
      cases px <;> cases py <;> first | exact id | (intro _; exact absurd ⟨_, _, rfl, rfl⟩ isS)
    obtain ⟨k', h', ek⟩ := Option.map_eq_some_iff.mp h
    clear h
    subst ek
    simp only [eqP] at h'
    split at h'
    · rename_i d e hd he
      split at h'
      · rename_i hc
        have hk : PyData.eqv d e = k' := Option.some.inj h'
        subst hk
        rw [Bool.and_eq_true] at hc
        have d1 := toD_depth M 12 px d hd
        have d2 := toD_depth M 12 py e he
        refine op_neD hu pins s σ H x y v u Q I rx ry ⟨d, e, by rw [hK]; exact dp_of st 12 px x d hd hx, by rw [hK]; exact dp_of st 12 py y e he hy, ?_, ?_, q⟩
        · unfold SeqAt.shaped; rw [hc.1, Bool.true_and]; exact decide_eq_true (by omega)
        · unfold SeqAt.shaped; rw [hc.2, Bool.true_and]; exact decide_eq_true (by omega)
      · cases h'
    · cases h'
  | Lt =>
    cases px <;> cases py <;> simp only [opC] at h <;> first | cases h | skip
    rw [rep_int] at hx hy
    exact op_lt pins s σ H x y v u Q I rx ry ⟨_, _, hx, hy, q⟩
  | LtE =>
    cases px <;> cases py <;> simp only [opC] at h <;> first | cases h | skip
    rw [rep_int] at hx hy
    exact op_le pins s σ H x y v u Q I rx ry ⟨_, _, hx, hy, q⟩
  | Gt =>
    cases px <;> cases py <;> simp only [opC] at h <;> first | cases h | skip
    rw [rep_int] at hx hy
    exact op_gt pins s σ H x y v u Q I rx ry ⟨_, _, hx, hy, q⟩
  | GtE =>
    cases px <;> cases py <;> simp only [opC] at h <;> first | cases h | skip
    rw [rep_int] at hx hy
    exact op_ge pins s σ H x y v u Q I rx ry ⟨_, _, hx, hy, q⟩
  | Is =>
    cases py <;> simp only [opC] at h <;> first | cases h | skip
    all_goals first
      | (cases px <;> simp only [opC] at h <;> cases h
         rw [rep_bl] at hx hy
         exact op_is_bl pins s σ H x y v u Q I rx ry ⟨_, _, hx, hy, q⟩)
      | (rw [rep_non] at hy; subst hy
         refine op_isN pins s σ H x _ v u Q I rx ry ⟨rfl, ?_⟩
         cases px <;> simp only [opC] at h <;> cases h
         · rw [rep_non] at hx; subst hx; exact q
         · rw [rep_bl] at hx; subst hx; exact q
         · rw [rep_int] at hx; subst hx; exact q
         · rw [rep_str] at hx; subst hx; exact q
         · obtain ⟨a, vs, rfl, _⟩ := rep_tup.mp hx; exact q
         · obtain ⟨a, rfl, _⟩ := rep_loc.mp hx; exact q)
      | (cases px <;> simp only [opC] at h <;> cases h)
  | IsNot =>
    cases py <;> simp only [opC] at h <;> first | cases h | skip
    all_goals first
      | (cases px <;> simp only [opC] at h <;> cases h
         rw [rep_bl] at hx hy
         exact op_isnot_bl pins s σ H x y v u Q I rx ry ⟨_, _, hx, hy, q⟩)
      | (rw [rep_non] at hy; subst hy
         refine op_notN pins s σ H x _ v u Q I rx ry ⟨rfl, ?_⟩
         cases px <;> simp only [opC] at h <;> cases h
         · rw [rep_non] at hx; subst hx; exact q
         · rw [rep_bl] at hx; subst hx; exact q
         · rw [rep_int] at hx; subst hx; exact q
         · rw [rep_str] at hx; subst hx; exact q
         · obtain ⟨a, vs, rfl, _⟩ := rep_tup.mp hx; exact q
         · obtain ⟨a, rfl, _⟩ := rep_loc.mp hx; exact q)
      | (cases px <;> simp only [opC] at h <;> cases h)
  | In =>
    by_cases isS : ∃ c z, px = .str [c] ∧ py = .str z
    · obtain ⟨ch, z, rfl, rfl⟩ := isS
      have h : some (decide (ch ∈ z)) = some k := h
      cases h
      rw [rep_str] at hx hy
      subst hx hy
      exact op_in_sign pins s σ H _ _ v u Q I rx ry ⟨ch, _, rfl, rfl, q⟩
    rw [opC_in isS] at h
    split at h
    · rename_i ys hi
      split at h
      · rename_i hf
        cases h
        rw [Bool.and_eq_true] at hf
        obtain ⟨a, vs, rfl, h1, h2⟩ := st.seq hy hi
        obtain ⟨f1, f2⟩ := any_of hx hf.1 h2 hf.2
        exact op_in_seq pins s σ H x _ v u Q I rx ry ⟨a, vs, rfl, by rw [hK]; exact h1, flatV_of hx hf.1, f1, by rw [f2] at q; exact q⟩
      · exact (inP_ok hK hu I rx ry st hx hy h).1 ⟨.bl _, H, I, rfl, q⟩
    · split at h
      · rename_i kvs hk
        obtain ⟨r, hr, rfl⟩ := Option.map_eq_some_iff.mp h
        obtain ⟨n, a, o, rfl, hm, ea, rfl, ho, hd⟩ := dct_at st hy hk
        have ru : u = Value.ref a := ry
        subst ru
        exact (dct_in hK hw hu I ho hd hx rx hr).1 fun s' I' => ⟨.bl _, H, I', rfl, q⟩
      · cases h
  | NotIn =>
    by_cases isS : ∃ c z, px = .str [c] ∧ py = .str z
    · obtain ⟨ch, z, rfl, rfl⟩ := isS
      have h : some (!decide (ch ∈ z)) = some k := h
      cases h
      rw [rep_str] at hx hy
      subst hx hy
      exact op_notIn_sign pins s σ H _ _ v u Q I rx ry ⟨ch, _, rfl, rfl, q⟩
    rw [opC_nin isS] at h
    split at h
    · rename_i ys hi
      split at h
      · rename_i hf
        cases h
        rw [Bool.and_eq_true] at hf
        obtain ⟨a, vs, rfl, h1, h2⟩ := st.seq hy hi
        obtain ⟨f1, f2⟩ := any_of hx hf.1 h2 hf.2
        exact op_notIn_seq pins s σ H x _ v u Q I rx ry ⟨a, vs, rfl, by rw [hK]; exact h1, flatV_of hx hf.1, f1, by rw [f2] at q; exact q⟩
      · obtain ⟨k', h', rfl⟩ := Option.map_eq_some_iff.mp h
        exact (inP_ok hK hu I rx ry st hx hy h').2 ⟨.bl _, H, I, rfl, q⟩
    · split at h
      · rename_i kvs hk
        obtain ⟨r, hr, rfl⟩ := Option.map_eq_some_iff.mp h
        obtain ⟨n, a, o, rfl, hm, ea, rfl, ho, hd⟩ := dct_at st hy hk
        have ru : u = Value.ref a := ry
        subst ru
        exact (dct_in hK hw hu I ho hd hx rx hr).2 fun s' I' => ⟨.bl _, H, I', rfl, q⟩
      · cases h
end
end SW

namespace SW
open PySem PySem.Spec PyProof.Rows L2

section
variable {D : Wd} {H : Hp} {rho : List Addr} {M : Sto}
theorem atI_rep {xs : List PV} {vs : List V} {i : Int} {x : PV} (r : RepL D H rho xs vs) (h : atI xs i = some x) : ∃ v, atI vs i = some v ∧ Rep D H rho x v := by
  unfold atI at h ⊢
  rw [← r.len]
  obtain ⟨j, e1, e2⟩ := Option.bind_eq_some_iff.mp h
  obtain ⟨v, e3, q⟩ := r.get e2
  exact ⟨v, Option.bind_eq_some_iff.mpr ⟨j, e1, e3⟩, q⟩
theorem cut_rep {xs : List PV} {vs : List V} (lo hi : Option Int) (r : RepL D H rho xs vs) : RepL D H rho (cut xs lo hi) (cutV vs lo hi) := by
  unfold cut cutV
  rw [← r.len]
  exact (r.drop _).take _
end
/-- a rule chosen by the values -/
theorem IxR.of {X : Cx} {r' : R2} (h : ∀ x y H Q, r' x y H Q → ∃ r, IxR X r ∧ r x y H Q) : IxR X r' := by
  intro value slice pins s σ H x y v u Q I rx ry q hs
  obtain ⟨r, hr, q'⟩ := h x y H Q q
  exact hr value slice pins s σ H x y v u Q I rx ry q' hs
theorem SlR.of {X : Cx} {r' : V → Option Int → Option Int → Hp → VK → Prop} (h : ∀ x lo hi H Q, r' x lo hi H Q → ∃ r, SlR X r ∧ r x lo hi H Q) : SlR X r' := by
  intro pins s σ H x v vl vu lo hi sl Q I rx hs pl pu q
  obtain ⟨r, hr, q'⟩ := h x lo hi H Q q
  exact hr pins s σ H x v vl vu lo hi sl Q I rx hs pl pu q'
theorem CallR.of {X : Cx} {f : Value} {r' : List V → Hp → VK → Prop} (h : ∀ xs H Q, r' xs H Q → ∃ r, CallR X f r ∧ r xs H Q) : CallR X f r' := by
  intro pins s σ H xs us Q I rv q
  obtain ⟨r, hr, q'⟩ := h xs H Q q
  exact hr pins s σ H xs us Q I rv q'
theorem MtR.of {X : Cx} {id : String} {r' : V → List V → Hp → VK → Prop} (h : ∀ x xs H Q, r' x xs H Q → ∃ r, MtR X id r ∧ r x xs H Q) : MtR X id r' := by
  intro pins s σ H x xs v us Q I rx rv q
  obtain ⟨r, hr, q'⟩ := h x xs H Q q
  exact hr pins s σ H x xs v us Q I rx rv q'

/-- d[x] -/
def rDct (D : Wd) : R2 := fun x y H Q => ∃ px py pv M rho kvs, StoOk D H rho M ∧ Rep D H rho px x ∧ Rep D H rho py y ∧ dctOf M px = some kvs ∧ dgetP kvs py = some (some pv) ∧ ∀ w, Rep D H rho pv w → Q w H
theorem ix_dct {X : Cx} {D : Wd} (hK : X.K = D.K) (hw : X.w = D.w) (hu : X.A.units + 64 < cLine) : IxR X (rDct D) := by
  intro value slice pins s σ H x y v u Q I rx ry q hs
  obtain ⟨px, py, pv, M, rho, kvs, st, h1, h2, h3, h4, q⟩ := q
  obtain ⟨n, a, o, rfl, hm, ea, rfl, ho, hd⟩ := dct_at st h1 h3
  have rv : v = Value.ref a := rx
  subst rv
  obtain ⟨t1, t2⟩ := dct_sub (E := X.xe) (Q := EP X pins σ Q) hK hw hu I ho hd h2 ry h4 fun w u' s' I' rel rw' => ⟨w, H, I', rel, q w rw'⟩
  exact tail_any (ops := [.ref a, u]) t1 PySem.F.slot_dict_getitem.lookup t2 hs
section
variable {X : Cx} {D : Wd} (hK : X.K = D.K)
include hK
theorem opI_ok (hw : X.w = D.w) (hu : X.A.units + 64 < cLine) : IxR X (r2P D opI) := by
  refine IxR.of fun x y H Q h => ?_
  obtain ⟨px, py, M, rho, st, hx, hy, h⟩ := h
  have dct : ∀ n, px = .loc n → PRM D H rho (dI M n py) Q → ∃ r, IxR X r ∧ r x y H Q := fun n e hd => by
    clear h
    subst e
    unfold dI at hd
    split at hd
    · rename_i kvs hk
      split at hd
      · rename_i pv hg
        exact ⟨_, ix_dct hK hw hu, _, _, pv, M, rho, kvs, st, hx, hy, hk, hg, fun w rw' => hd.ok st rw'⟩
      · exact hd.elim
    · exact hd.elim
  cases px <;> cases py <;> simp only [opI] at h <;> first | exact h.elim | (exact dct _ rfl h) | skip
  · rename_i s i
    rw [rep_str] at hx
    rw [rep_int] at hy
    split at h
    · rename_i hz
      cases e : atI s i with
      | none => rw [e] at h; exact h.elim
      | some c =>
        rw [e] at h
        exact ⟨_, ix_str, _, i, c, hx, hy, by rw [line_eq]; simpa [Str.length] using hz, by simpa using e, h.ok st (rep_str.mpr rfl)⟩
    · exact h.elim
  · rename_i xs i
    obtain ⟨a, vs, ex, h1, h2⟩ := rep_tup.mp hx
    rw [rep_int] at hy
    cases e : atI xs i with
    | none => rw [e] at h; exact h.elim
    | some z =>
      rw [e] at h
      obtain ⟨v, e2, rz⟩ := atI_rep h2 e
      exact ⟨_, ix_tup, a, vs, i, v, ex, hy, by rw [hK]; exact h1, e2, h.ok st rz⟩
  · rename_i n i
    rw [rep_int] at hy
    split at h
    · rename_i xs hl
      obtain ⟨a, vs, ex, h1, h2⟩ := st.list hx hl
      cases e : atI xs i with
      | none => rw [e] at h; exact h.elim
      | some z =>
        rw [e] at h
        obtain ⟨v, e2, rz⟩ := atI_rep h2 e
        exact ⟨_, ix_list, a, vs, i, v, ex, hy, by rw [hK]; exact h1, e2, h.ok st rz⟩
    · exact dct _ rfl h
def rSP (D : Wd) (g : PV → Option Int → Option Int → Sto → Prim) : V → Option Int → Option Int → Hp → VK → Prop := fun x lo hi H Q => ∃ px M rho, StoOk D H rho M ∧ Rep D H rho px x ∧ PRM D H rho (g px lo hi M) Q
theorem opS_ok : SlR X (rSP D opS) := by
  refine SlR.of fun x lo hi H Q h => ?_
  obtain ⟨px, M, rho, st, hx, h⟩ := h
  cases px <;> simp only [opS] at h <;> first | exact h.elim | skip
  · rename_i xs
    obtain ⟨a, vs, ex, h1, h2⟩ := rep_tup.mp hx
    refine ⟨_, sl_tupA, a, vs, ex, by rw [hK]; exact h1, fun hw => ?_, fun _ => h.tup st (cut_rep lo hi h2)⟩
    rw [← h2.len] at hw
    have e : cut xs lo hi = xs := by
      unfold cut
      rw [hw.1, hw.2]
      simp
    rw [e] at h
    exact h.ok st (rep_tup.mpr ⟨a, vs, rfl, h1, h2⟩)
  · rename_i n
    split at h
    · rename_i xs hl
      obtain ⟨a, vs, ex, h1, h2⟩ := st.list hx hl
      exact ⟨_, sl_list, a, vs, ex, by rw [hK]; exact h1, (h.newL st (cut_rep lo hi h2)).2⟩
    · exact h.elim

/-! ### built-ins -/
def Bi.val : Bi → Value
  | .len => .builtin "len" | .list => .type "list" | .tuple => .type "tuple" | .sum => .builtin "sum" | .min => .builtin "min" | .max => .builtin "max" | .abs => .builtin "abs"
  | .str => .type "str" | .int => .type "int" | .all => .builtin "all" | .any => .builtin "any" | .repr => .builtin "repr"
theorem sum_tup_ok (hc : X.calm = true) : CallR X (.builtin "sum") (fun vs H Q => ∃ (a : Addr) (ns : List Int), vs = [V.ref a] ∧ SqT X.K H a (ns.map V.int) ∧ Q (.int ns.sum) H) := by
  intro pins s σ H xs us Q I rv h
  obtain ⟨a, ns, rfl, hs, q⟩ := h
  obtain rfl := rv.ref1
  obtain ⟨its, r, ht, _⟩ := I.tuple hs
  have hi := intsAre_of r
  obtain ⟨ys, hy⟩ := hi.allInts.items
  have hn : numsOf its.toArray.toList = ns := by rw [show its.toArray.toList = its from rfl, hi.numsOf]
  rw [hy] at ht hn
  rw [nums_intItems] at hn
  refine PySem.W.ktm_sumG (I.ok.hd hc) ht fun h' tk t' k => ?_
  refine ⟨.int ns.sum, H, I.kept (h' := h') (t' := tk) k, ?_, q⟩
  exact ⟨t', by rw [preSum_eq, List.take_of_length_le (by simp), hn]⟩
theorem maxL_spec : ∀ {ns : List Int} {k : Int}, maxL ns = some k → 0 < ns.length ∧ k ∈ ns ∧ ∀ y ∈ ns, y ≤ k
  | [], k, h => by cases h
  | [x], k, h => by cases h; simp
  | x :: y :: r, k, h => by
    obtain ⟨j, hj, e⟩ := Option.map_eq_some_iff.mp (show (maxL (y :: r)).map (max x) = some k from h)
    obtain ⟨_, h2, h3⟩ := maxL_spec hj
    subst e
    refine ⟨by simp, ?_, fun z hz => ?_⟩
    · by_cases c : x ≤ j
      · rw [Int.max_eq_right c]; exact List.mem_cons_of_mem _ h2
      · rw [Int.max_eq_left (by omega)]; exact List.mem_cons_self
    · rcases List.mem_cons.mp hz with rfl | q
      · exact Int.le_max_left _ _
      · exact Int.le_trans (h3 z q) (Int.le_max_right _ _)
theorem minL_spec : ∀ {ns : List Int} {k : Int}, minL ns = some k → 0 < ns.length ∧ k ∈ ns ∧ ∀ y ∈ ns, k ≤ y
  | [], k, h => by cases h
  | [x], k, h => by cases h; simp
  | x :: y :: r, k, h => by
    obtain ⟨j, hj, e⟩ := Option.map_eq_some_iff.mp (show (minL (y :: r)).map (min x) = some k from h)
    obtain ⟨_, h2, h3⟩ := minL_spec hj
    subst e
    refine ⟨by simp, ?_, fun z hz => ?_⟩
    · by_cases c : x ≤ j
      · rw [Int.min_eq_left c]; exact List.mem_cons_self
      · rw [Int.min_eq_right (by omega)]; exact List.mem_cons_of_mem _ h2
    · rcases List.mem_cons.mp hz with rfl | q
      · exact Int.min_le_left _ _
      · exact Int.le_trans (Int.min_le_right _ _) (h3 z q)
theorem repr_ok (hg : X.A.guards = some []) (hu : X.A.units + 64 < cLine) : CallR X (.builtin "repr") (fun vs H Q => ∃ (v : V) (d : PyData), vs = [v] ∧ Dp X.K H v d ∧ d.depth ≤ 14 ∧ d.showable = true ∧ d.hasDict = false ∧ d.shown.length ≤ sizeLine ∧ Q (.str d.shown) H) := by
  intro pins s σ H xs us Q I r h
  obtain ⟨v, d, rfl, dp, dd, hs, hd, hz, q⟩ := h
  obtain ⟨u, rfl, ru⟩ := vals1 r
  cases dp with
  | non =>
    cases ru
    exact PySem.P.repr_of_none ⟨.str _, H, I.tok _, ⟨_, rfl⟩, q⟩
  | bl b =>
    cases ru
    refine PySem.P.repr_of_bool ⟨.str _, H, I.tok _, ⟨s.toks, ?_⟩, q⟩
    cases b <;> rfl
  | int i =>
    obtain ⟨t, rfl⟩ := ru
    have hs' : i.natAbs.log2 < 1920 := by simpa [PyData.showable] using hs
    exact PySem.P.repr_of_int hs' ⟨.str _, H, I.tok _, ⟨_, rfl⟩, q⟩
  | str z =>
    obtain ⟨t, rfl⟩ := ru
    exact PySem.P.repr_of_str ⟨.str _, H, I.tok _, ⟨_, rfl⟩, q⟩ hz
  | lst h1 h2 =>
    cases ru
    obtain ⟨as, rd⟩ := Dp.reads I _ _ _ (Dp.lst h1 h2) rfl
    exact repr_of_reads' rd hs (fun e => by rw [hd] at e; cases e) hg (by omega) (fun _ _ e => e) (fun h' u tk hk => ⟨.str _, H, I.kept (h' := h') (t' := tk) hk, ⟨_, rfl⟩, q⟩) hz
  | tup h1 h2 =>
    cases ru
    obtain ⟨as, rd⟩ := Dp.reads I _ _ _ (Dp.tup h1 h2) rfl
    exact repr_of_reads' rd hs (fun e => by rw [hd] at e; cases e) hg (by omega) (fun _ _ e => e) (fun h' u tk hk => ⟨.str _, H, I.kept (h' := h') (t' := tk) hk, ⟨_, rfl⟩, q⟩) hz
/-- len(d) -/
theorem call_len_dct (hw : X.w = D.w) : CallR X (.builtin "len") (fun vs H Q => ∃ x v M rho kvs, vs = [v] ∧ StoOk D H rho M ∧ Rep D H rho x v ∧ dctOf M x = some kvs ∧ Q (.int kvs.length) H) := by
  intro pins s σ H xs us Q I rv h
  obtain ⟨x, v, M, rho, kvs, rfl, st, hx, hk, q⟩ := h
  obtain ⟨n, a, o, rfl, hm, ea, rfl, ho, hd⟩ := dct_at st hx hk
  obtain rfl := rv.ref1
  rcases hd with ⟨ne, ws, rfl, hws⟩ | ⟨hs, xs, rfl, hxs, nd, hz⟩
  · refine d_len I (.inl ho) fun t s' I' => ⟨.int _, H, I', ⟨t, rfl⟩, ?_⟩
    rw [dks_len hws]; exact q
  · have dd := (dn_of hK hw I ho hxs nd).h
    have lz := dns_len hxs
    refine PyProof.Rows.call_len_slot (n := xs.length) dd.typeIs PySem.F.slot_dict_len (fun Q' hq => ?_) (by omega) (by rw [sizeLine_eq] at hz; omega) ?_
    · obtain ⟨es, ep, hr, he, _⟩ := dd.raw
      refine call_len_raw hs hr ?_
      rw [he]
      exact hq
    · exact ⟨.int _, H, I.tok _, ⟨_, rfl⟩, by rw [lz]; exact q⟩
/-- the keys stand for themselves -/
theorem dns_keys {D : Wd} {H : Hp} {rho : List Addr} : ∀ {kvs : List (PV × PV)} {xs : List (NestedKey × Addr × Value)}, DNs D H rho kvs xs → RepL D H rho (kvs.map (·.1)) (xs.map fun y => V.ref y.2.1)
  | [], xs, h => by subst h; exact repL_nil.mpr rfl
  | p :: kvs, xs, h => by
    obtain ⟨nk, b, u, v, r, rfl, _, _, h4, _, _, h7⟩ := h
    exact repL_cons.mpr ⟨_, _, rfl, h4, dns_keys h7⟩
theorem keys_vals : ∀ (xs : List (NestedKey × Addr × Value)) (us : List Value), us.length = xs.length → (∀ (j : Nat) (v : Value), us[j]? = some v → ∃ y, xs[j]? = some y ∧ v = .ref y.2.1) → Vals (xs.map fun y => V.ref y.2.1) us
  | [], [], _, _ => .nil
  | [], u :: us, l, _ => by simp at l
  | x :: xs, [], l, _ => by simp at l
  | x :: xs, u :: us, l, h => by
    obtain ⟨y, hy, rfl⟩ := h 0 u rfl
    cases hy
    exact .cons rfl (keys_vals xs us (by simpa using l) fun j v hj => h (j + 1) v hj)
/-- list(d) of a dict of tuples -/
theorem call_list_dct (hw : X.w = D.w) (hc : X.calm = true) : CallR X (.type "list") (fun vs H Q => ∃ x v M rho kvs, vs = [v] ∧ StoOk D H rho M ∧ Rep D H rho x v ∧ dctOf M x = some kvs ∧ (kvs.all fun p => isTupK p.1) = true ∧ ∀ ws, RepL D H rho (kvs.map (·.1)) ws → ∀ l, H l = none → Q (.ref l) (upd H l (.lst ws))) := by
  intro pins s σ H xs us Q I rv h
  obtain ⟨x, v, M, rho, kvs, rfl, st, hx, hk, ht, q⟩ := h
  obtain ⟨n, a, o, rfl, hm, ea, rfl, ho, hd⟩ := dct_at st hx hk
  obtain rfl := rv.ref1
  rcases hd with ⟨ne, ws, rfl, hws⟩ | ⟨hs, xs, rfl, hxs, nd, hz⟩
  · rw [dks_flat hws ne] at ht; cases ht
  · obtain ⟨es, hr, hsz, hy⟩ := dn_raw I ho
    refine PySem.W.kdl_call (KdlSrc.rawDict hs) (I.ok.hd hc) hr (by omega) fun h' tk acc' c' kp e hacc => ?_
    have r' : Vals (xs.map fun y => V.ref y.2.1) acc'.toList := keys_vals hK xs acc'.toList (by rw [Array.length_toList]; exact hacc.1.trans hsz) fun j v hj => by
      obtain ⟨hi, rfl⟩ := hacc.2 j v (by rw [← Array.getElem?_toList]; exact hj)
      obtain ⟨y, y1, y2⟩ := hy j hi
      exact ⟨y, y1, y2⟩
    exact ⟨.ref s.heap.objs.size, _, I.laid (t' := tk) kp (Nat.le_refl _) (show ObjOk X.prog X.w _ h' _ (.lst (xs.map fun y => V.ref y.2.1)) from ⟨by rw [List.length_map]; exact hz, acc'.toList, c', r', by rw [Array.toArray_toList]; exact e⟩), rfl, q _ (dns_keys hK hxs) _ (I.hok.fresh (Nat.le_refl _))⟩
theorem opM_ok (hw : X.w = D.w) (hc : X.calm = true) (hg : X.A.guards = some []) (hu : X.A.units + 64 < cLine) (b : Bi) : CallR X b.val (r1P D (opM b)) := by
  refine CallR.of fun vs H Q h => ?_
  obtain ⟨xs, M, rho, st, hx, h⟩ := h
  have one : ∀ {x : PV}, xs = [x] → ∃ v, vs = [v] ∧ Rep D H rho x v := fun {x} e => by
    subst e
    obtain ⟨v, r, rfl, r1, r2⟩ := repL_cons.mp hx
    rw [repL_nil] at r2
    subst r2
    exact ⟨v, rfl, r1⟩
  have two : ∀ {x y : PV}, xs = [x, y] → ∃ v w, vs = [v, w] ∧ Rep D H rho x v ∧ Rep D H rho y w := fun {x y} e => by
    subst e
    obtain ⟨v, r, rfl, r1, r2⟩ := repL_cons.mp hx
    obtain ⟨w, r, rfl, r3, r4⟩ := repL_cons.mp r2
    rw [repL_nil] at r4
    subst r4
    exact ⟨v, w, rfl, r1, r3⟩
  unfold opM at h
  split at h
  · -- len
    rename_i x
    obtain ⟨v, rfl, r⟩ := one rfl
    split at h
    · rename_i sx
      split at h
      · rename_i hz
        rw [rep_str] at r
        subst r
        exact ⟨_, call_len_str, _, rfl, by rw [line_eq]; simpa [Str.length] using hz, h.ok st (rep_int.mpr (by simp [Str.length]))⟩
      · exact h.elim
    · cases e : items? M x with
      | none =>
        rw [e] at h
        cases e2 : dctOf M x with
        | none => rw [e2] at h; exact h.elim
        | some kvs =>
          rw [e2] at h
          exact ⟨_, call_len_dct hK hw, x, v, M, rho, kvs, rfl, st, r, e2, h.ok st (rep_int.mpr rfl)⟩
      | some ys =>
        rw [e] at h
        obtain ⟨a, ws, rfl, h1, h2⟩ := st.seq r e
        exact ⟨_, call_len_seq, a, ws, rfl, by rw [hK]; exact h1, h.ok st (rep_int.mpr (by rw [h2.len]))⟩
  · -- list
    rename_i x
    obtain ⟨v, rfl, r⟩ := one rfl
    split at h
    · rename_i ys e
      obtain ⟨a, ws, rfl, h1, h2⟩ := st.seq r e
      exact ⟨_, call_list_of, a, ws, rfl, by rw [hK]; exact h1, (h.newL st h2).2⟩
    · cases e2 : dctOf M x with
      | none => rw [e2] at h; exact h.elim
      | some kvs =>
        simp only [e2] at h
        by_cases ht : (kvs.all fun p => isTupK p.1) = true
        · rw [if_pos ht] at h
          exact ⟨_, call_list_dct hK hw hc, x, v, M, rho, kvs, rfl, st, r, e2, ht, fun ws hws => (h.newL st hws).2⟩
        · rw [if_neg ht] at h
          exact h.elim
  · -- tuple
    rename_i x
    obtain ⟨v, rfl, r⟩ := one rfl
    cases e : items? M x with
    | none => rw [e] at h; exact h.elim
    | some ys =>
      rw [e] at h
      obtain ⟨a, ws, rfl, h1, h2⟩ := st.seq r e
      refine ⟨_, call_tuple_of, a, ws, rfl, ?_⟩
      rw [hK]
      rcases h1 with h1 | h1
      · exact .inl ⟨h1, h.tup st h2⟩
      · exact .inr ⟨h1, h.ok st (rep_tup.mpr ⟨a, ws, rfl, h1, h2⟩)⟩
  · -- sum
    rename_i x
    obtain ⟨v, rfl, r⟩ := one rfl
    split at h
    · rename_i ys e
      cases e2 : ints? ys with
      | none => rw [e2] at h; exact h.elim
      | some ns =>
        rw [e2] at h
        obtain ⟨a, ws, rfl, h1, h2⟩ := st.seq r e
        obtain rfl := ints_rep h2 e2
        rw [← hK] at h1
        rcases h1 with h1 | h1
        · exact ⟨_, cr_sum hc, a, ns, rfl, h1, h.ok st (rep_int.mpr rfl)⟩
        · exact ⟨_, sum_tup_ok hK hc, a, ns, rfl, h1, h.ok st (rep_int.mpr rfl)⟩
    · exact h.elim
  · -- min
    rename_i i j
    obtain ⟨v, w, rfl, r1, r2⟩ := two rfl
    rw [rep_int] at r1 r2
    subst r1 r2
    exact ⟨_, call_min2 hc, i, j, rfl, h.ok st (rep_int.mpr rfl)⟩
  · rename_i i j
    obtain ⟨v, w, rfl, r1, r2⟩ := two rfl
    rw [rep_int] at r1 r2
    subst r1 r2
    exact ⟨_, call_max2 hc, i, j, rfl, h.ok st (rep_int.mpr rfl)⟩
  · rename_i i
    obtain ⟨v, rfl, r⟩ := one rfl
    rw [rep_int] at r
    subst r
    exact ⟨_, call_abs, i, rfl, h.ok st (rep_int.mpr rfl)⟩
  · rename_i i
    obtain ⟨v, rfl, r⟩ := one rfl
    rw [rep_int] at r
    subst r
    split at h
    · rename_i hz
      exact ⟨_, call_str_int, i, rfl, hz, h.ok st (rep_str.mpr (by simp))⟩
    · exact h.elim
  · rename_i t
    obtain ⟨v, rfl, r⟩ := one rfl
    rw [rep_str] at r
    subst r
    exact ⟨_, SkE.call_str_str, _, rfl, h.ok st (rep_str.mpr (by simp))⟩
  · rename_i i
    obtain ⟨v, rfl, r⟩ := one rfl
    rw [rep_int] at r
    subst r
    exact ⟨_, call_int1, .inl ⟨i, rfl, h.ok st (rep_int.mpr rfl)⟩⟩
  · rename_i i
    obtain ⟨v, rfl, r⟩ := one rfl
    rw [rep_bl] at r
    subst r
    exact ⟨_, call_int1, .inr ⟨i, rfl, h.ok st (rep_int.mpr rfl)⟩⟩
  · rename_i t
    obtain ⟨v, rfl, r⟩ := one rfl
    rw [rep_str] at r
    subst r
    split at h
    · rename_i hz
      cases e2 : PySem.intText? ⟨t.toArray⟩ with
      | none => rw [e2] at h; exact h.elim
      | some n =>
        rw [e2] at h
        exact ⟨_, call_int_str, _, n, rfl, e2, by simpa [Str.length] using hz, h.ok st (rep_int.mpr rfl)⟩
    · exact h.elim
  · rename_i x
    obtain ⟨v, rfl, r⟩ := one rfl
    split at h
    · rename_i ys e
      cases e2 : bls? ys with
      | none => rw [e2] at h; exact h.elim
      | some ns =>
        rw [e2] at h
        obtain ⟨a, ws, rfl, h1, h2⟩ := st.list r e
        obtain rfl := bls_rep h2 e2
        exact ⟨_, cr_all hc, a, ns, rfl, by rw [hK]; exact h1, h.ok st (rep_bl.mpr rfl)⟩
    · exact h.elim
  · rename_i x
    obtain ⟨v, rfl, r⟩ := one rfl
    split at h
    · rename_i ys e
      cases e2 : bls? ys with
      | none => rw [e2] at h; exact h.elim
      | some ns =>
        rw [e2] at h
        obtain ⟨a, ws, rfl, h1, h2⟩ := st.list r e
        obtain rfl := bls_rep h2 e2
        exact ⟨_, cr_any hc, a, ns, rfl, by rw [hK]; exact h1, h.ok st (rep_bl.mpr rfl)⟩
    · exact h.elim
  · rename_i n
    obtain ⟨v, rfl, r⟩ := one rfl
    split at h
    · rename_i ys e
      cases e2 : ints? ys with
      | none => rw [e2] at h; exact h.elim
      | some ns =>
        rw [e2] at h
        cases e3 : maxL ns with
        | none => rw [show (some ns).bind (fun ns => (maxL ns).map fun k => (PV.int k, M)) = none from by simp [e3]] at h; exact h.elim
        | some k =>
          rw [show (some ns).bind (fun ns => (maxL ns).map fun k => (PV.int k, M)) = some (.int k, M) from by simp [e3]] at h
          obtain ⟨k1, k2, k3⟩ := maxL_spec hK e3
          obtain ⟨a, ws, rfl, h1, h2⟩ := st.list r e
          obtain rfl := ints_rep h2 e2
          refine ⟨_, cr_max hc, a, ns, rfl, by rw [hK]; exact h1, k1, fun m h1 h2 => ?_⟩
          have em : m = k := Int.le_antisymm (k3 m h1) (h2 k k2)
          subst em
          exact h.ok st (rep_int.mpr rfl)
    · exact h.elim
  · rename_i n
    obtain ⟨v, rfl, r⟩ := one rfl
    split at h
    · rename_i ys e
      cases e2 : ints? ys with
      | none => rw [e2] at h; exact h.elim
      | some ns =>
        rw [e2] at h
        cases e3 : minL ns with
        | none => rw [show (some ns).bind (fun ns => (minL ns).map fun k => (PV.int k, M)) = none from by simp [e3]] at h; exact h.elim
        | some k =>
          rw [show (some ns).bind (fun ns => (minL ns).map fun k => (PV.int k, M)) = some (.int k, M) from by simp [e3]] at h
          obtain ⟨k1, k2, k3⟩ := minL_spec hK e3
          obtain ⟨a, ws, rfl, h1, h2⟩ := st.list r e
          obtain rfl := ints_rep h2 e2
          refine ⟨_, cr_min hc, a, ns, rfl, by rw [hK]; exact h1, k1, fun m h1 h2 => ?_⟩
          have em : m = k := Int.le_antisymm (h2 k k2) (k3 m h1)
          subst em
          exact h.ok st (rep_int.mpr rfl)
    · exact h.elim
  · rename_i x
    obtain ⟨v, rfl, r⟩ := one rfl
    split at h
    · rename_i d e
      split at h
      · rename_i hc2
        have dd := toD_depth M 12 x d e
        refine ⟨_, repr_ok hK hg hu, v, d, rfl, by rw [hK]; exact dp_of st 12 x v d e r, by omega, hc2.1, hc2.2.1, hc2.2.2, h.ok st (rep_str.mpr ?_)⟩
        show V.str _ = V.str _
        congr 1
      · exact h.elim
    · exact h.elim
  · exact h.elim

/-! ### list.count of flat items -/
def rCntF (K : PySem.W.Frag) : V → List V → Hp → VK → Prop := fun x xs H Q => ∃ (a : Addr) (ys : List V) (y : V), x = V.ref a ∧ xs = [y] ∧ SqL K H a ys ∧ flatV y = true ∧ ys.all flatV = true ∧ Q (.int ((ys.countP fun z => eqV z y : Nat) : Int)) H
omit hK in
theorem cntP_vals {y : V} : ∀ {ys : List V} {its : List Value}, Vals ys its → ys.all flatV = true → its.countP (eqU y) = ys.countP fun z => eqV z y
  | _, _, .nil, _ => rfl
  | z :: ys, u :: its, .cons r t, f => by
    rw [List.all_cons, Bool.and_eq_true] at f
    rw [List.countP_cons, List.countP_cons, cntP_vals t f.2, eqU_of r f.1]
omit hK in
theorem mt_cntF : MtR X "list.count" (rCntF X.K) := by
  intro pins s σ H x xs v us Q I rx rxs h
  obtain ⟨a, ys, y, rfl, rfl, hs, fy, fys, q⟩ := h
  cases rx
  obtain ⟨uy, rfl, ry⟩ := rxs.one
  obtain ⟨its, rv, ⟨⟨cls, dd, data, sl⟩, n, ho, hc, hdn, hd⟩, hlen⟩ := I.list hs
  simp only at hc hd
  subst hc hd
  refine call_meets PySem.F.slot_list_count ⟨_, ho, rfl⟩ PySem.F.entry_list_count (PySem.F.args_list_count_2 _ _)
    (SeqAt.list_countAt a its.toArray n dd sl uy (eqU y)) ⟨ho, fun u' hu' => mem_eqAt ry fy rv fys u' (by simpa using hu'), ?_⟩
  have ec : its.toArray.toList.countP (eqU y) = ys.countP fun z => eqV z y := cntP_vals rv fys
  refine ⟨.int ((ys.countP fun z => eqV z y : Nat) : Int), H, I.tok _, ⟨s.toks, ?_⟩, q⟩
  rw [ec]
omit hK in
theorem cnt_of {H : Hp} {rho : List Addr} {x : PV} {v : V} (r : Rep D H rho x v) (fx : flat x = true) : ∀ {xs : List PV} {vs : List V}, RepL D H rho xs vs → xs.all flat = true → (xs.countP fun z => eqF z x) = vs.countP fun z => eqV z v
  | [], vs, h, _ => by rw [repL_nil.mp h]; rfl
  | y :: xs, vs, h, f => by
    obtain ⟨w, rs, rfl, r1, r2⟩ := repL_cons.mp h
    rw [List.all_cons, Bool.and_eq_true] at f
    rw [List.countP_cons, List.countP_cons, cnt_of r fx r2 f.2, eqF_of r1 r f.1 fx]
/-! ### list.count by data -/
def rCntD (D : Wd) : V → List V → Hp → VK → Prop := fun x xs H Q => ∃ (px py : PV) (M : Sto) (rho : List Addr) (k : Int) (y : V), StoOk D H rho M ∧ Rep D H rho px x ∧ Rep D H rho py y ∧ xs = [y] ∧ cntP M px py = some k ∧ Q (.int k) H
theorem mt_cntD (hu : X.A.units + 64 < cLine) : MtR X "list.count" (rCntD D) := by
  intro pins s σ H x xs v us Q I rx rxs h
  obtain ⟨px, py, M, rho, k, y, st, hx, hy, rfl, h, q⟩ := h
  obtain ⟨uy, rfl, ry⟩ := rxs.one
  unfold cntP at h
  split at h
  · rename_i d es hd he
    split at h
    · rename_i hc
      rw [Bool.and_eq_true] at hc
      have p1 := PyData.plain_of_canLay0 d hc.1
      have p2 := PyData.plainAll_of_canLay0 es hc.2
      have d1 := toD_depth M 12 py d hd
      obtain ⟨as, r1⟩ := Dp.reads I d y uy (by rw [hK]; exact dp_of st 12 py y d hd hy) ry
      obtain ⟨bs, r2⟩ := Dp.reads I _ x v (by rw [hK]; exact dp_of st 12 px x _ he hx) rx
      have hl : X.A.units + 1 + min (PyData.depthAll es) d.depth < cLine := by omega
      cases r2 with
      | list h1 h2 h3 h4 =>
        refine SeqAt.count_list_data ⟨_, h1, h2, _, h3⟩ h4 r1 p2 p1 hl ⟨.int k, H, I.tok _, ⟨s.toks, ?_⟩, q⟩
        rw [← Option.some.inj h]
    · cases h
  · cases h
/-! ### methods of lists -/
def Me.id : Me → String
  | .append => "list.append" | .insert => "list.insert" | .pop => "list.pop" | .index => "list.index" | .count => "list.count" | .clear => "list.clear" | .reverse => "list.reverse"
def rDP (D : Wd) (g : PV → List PV → Sto → Prim) : V → List V → Hp → VK → Prop := fun x vs H Q => ∃ px xs M rho, StoOk D H rho M ∧ Rep D H rho px x ∧ RepL D H rho xs vs ∧ PRM D H rho (g px xs M) Q
theorem ixN_lt {n : Nat} {i : Int} {j : Nat} (h : ixN n i = some j) : j < n := (ixN_seq h).2.1
theorem dropLast_rep {H : Hp} {rho : List Addr} {xs : List PV} {vs : List V} (r : RepL D H rho xs vs) : RepL D H rho xs.dropLast vs.dropLast := by
  rw [List.dropLast_eq_take, List.dropLast_eq_take, ← r.len]
  exact r.take _
theorem opD_ok (hu : X.A.units + 64 < cLine) (m : Me) : MtR X m.id (rDP D (opD m)) := by
  refine MtR.of fun x vs H Q h => ?_
  obtain ⟨px, xs, M, rho, st, hx, hv, h⟩ := h
  unfold opD at h
  split at h
  · -- append
    rename_i n y
    obtain ⟨v, r, rfl, r1, r2⟩ := repL_cons.mp hv
    rw [repL_nil] at r2
    subst r2
    obtain ⟨a, rfl, ea⟩ := rep_loc.mp hx
    split at h
    · rename_i ys hm
      split at h
      · rename_i hz
        obtain ⟨b, ws, eb, h1, h2⟩ := st.lst hm
        rw [ea] at eb; cases eb
        obtain ⟨e1, s1⟩ := st.wr hm ea h1 (h2.append (RepL.one r1))
        exact ⟨_, mt_append, a, ws, v, rfl, rfl, h1, by rw [line_eq, ← h2.len]; exact hz, h _ rho _ e1 s1 (rep_non.mpr rfl)⟩
      · exact h.elim
    · exact h.elim
  · -- insert
    rename_i n i y
    obtain ⟨v, r, rfl, r1, r2⟩ := repL_cons.mp hv
    obtain ⟨w, r, rfl, r3, r4⟩ := repL_cons.mp r2
    rw [repL_nil] at r4
    subst r4
    rw [rep_int] at r1
    subst r1
    obtain ⟨a, rfl, ea⟩ := rep_loc.mp hx
    split at h
    · rename_i ys hm
      split at h
      · rename_i hz
        obtain ⟨b, ws, eb, h1, h2⟩ := st.lst hm
        rw [ea] at eb; cases eb
        have hr : RepL D H rho (insP ys i.toNat y) (ws.take i.toNat ++ [w] ++ ws.drop i.toNat) := by
          unfold insP
          rw [List.append_assoc]
          exact (h2.take _).append (repL_cons.mpr ⟨w, _, rfl, r3, h2.drop _⟩)
        obtain ⟨e1, s1⟩ := st.wr hm ea h1 hr
        exact ⟨_, mt_insert, a, ws, i, w, rfl, rfl, h1, by rw [line_eq, ← h2.len]; exact hz.1, hz.2.1, hz.2.2, h _ rho _ e1 s1 (rep_non.mpr rfl)⟩
      · exact h.elim
    · exact h.elim
  · -- pop i
    rename_i n i
    obtain ⟨v, r, rfl, r1, r2⟩ := repL_cons.mp hv
    rw [repL_nil] at r2
    subst r2
    rw [rep_int] at r1
    subst r1
    obtain ⟨a, rfl, ea⟩ := rep_loc.mp hx
    split at h
    · rename_i ys hm
      split at h
      · rename_i k hk
        split at h
        · rename_i y hy
          split at h
          · rename_i hz
            obtain ⟨b, ws, eb, h1, h2⟩ := st.lst hm
            rw [ea] at eb; cases eb
            obtain ⟨w, hw, rw_⟩ := h2.get hy
            obtain ⟨e1, s1⟩ := st.wr hm ea h1 (h2.erase k)
            exact ⟨_, mt_popAt, a, ws, i, k, w, rfl, rfl, h1, hz.1, hz.2, by rw [← h2.len]; exact (ixN_seq hk).1, hw, h _ rho _ e1 s1 (rw_.ext e1)⟩
          · exact h.elim
        · exact h.elim
      · exact h.elim
    · exact h.elim
  · -- pop
    rename_i n
    rw [repL_nil] at hv
    subst hv
    obtain ⟨a, rfl, ea⟩ := rep_loc.mp hx
    split at h
    · rename_i ys hm
      split at h
      · rename_i y hy
        obtain ⟨b, ws, eb, h1, h2⟩ := st.lst hm
        rw [ea] at eb; cases eb
        obtain ⟨w, hw, rw_⟩ := h2.get hy
        obtain ⟨e1, s1⟩ := st.wr hm ea h1 (dropLast_rep hK h2)
        exact ⟨_, mt_pop, a, ws, w, rfl, rfl, h1, by rw [← h2.len]; exact hw, h _ rho _ e1 s1 (rw_.ext e1)⟩
      · exact h.elim
    · exact h.elim
  · -- clear
    rename_i n
    rw [repL_nil] at hv
    subst hv
    obtain ⟨a, rfl, ea⟩ := rep_loc.mp hx
    split at h
    · rename_i ys hm
      obtain ⟨b, ws, eb, h1, h2⟩ := st.lst hm
      rw [ea] at eb; cases eb
      obtain ⟨e1, s1⟩ := st.wr hm ea h1 (ys := []) (ws := []) (repL_nil.mpr rfl)
      exact ⟨_, mt_clear, a, ws, rfl, rfl, h1, h _ rho _ e1 s1 (rep_non.mpr rfl)⟩
    · exact h.elim
  · -- reverse
    rename_i n
    rw [repL_nil] at hv
    subst hv
    obtain ⟨a, rfl, ea⟩ := rep_loc.mp hx
    split at h
    · rename_i ys hm
      obtain ⟨b, ws, eb, h1, h2⟩ := st.lst hm
      rw [ea] at eb; cases eb
      obtain ⟨e1, s1⟩ := st.wr hm ea h1 h2.rev
      exact ⟨_, mt_reverse, a, ws, rfl, rfl, h1, h _ rho _ e1 s1 (rep_non.mpr rfl)⟩
    · exact h.elim
  · -- index
    rename_i n y
    obtain ⟨v, r, rfl, r1, r2⟩ := repL_cons.mp hv
    rw [repL_nil] at r2
    subst r2
    split at h
    · rename_i ys hl
      obtain ⟨a, ws, rfl, h1, h2⟩ := st.list hx hl
      split at h
      · rename_i hf
        rw [Bool.and_eq_true] at hf
        cases hj : ys.findIdx? fun z => eqF z y with
        | none => rw [hj] at h; exact h.elim
        | some j =>
          rw [hj] at h
          obtain ⟨jl, e1, e2⟩ := List.findIdx?_eq_some_iff_getElem.mp hj
          have at_ : ∀ (m : Nat) (hm : m < ys.length), ∃ w, ws[m]? = some w ∧ eqF ys[m] y = eqV w v := fun m hm => by
            obtain ⟨w, hw, rw_⟩ := h2.get (List.getElem?_eq_getElem hm)
            exact ⟨w, hw, eqF_of rw_ r1 (List.all_eq_true.mp hf.2 _ (List.getElem_mem hm)) hf.1⟩
          obtain ⟨w, hw, ew⟩ := at_ j jl
          refine ⟨_, mt_index, a, ws, v, j, w, rfl, rfl, by rw [hK]; exact h1, flatV_of r1 hf.1, (any_of r1 hf.1 h2 hf.2).1, hw, by rw [← ew]; exact e1, fun m z' hm hz => ?_, h.ok st (rep_int.mpr rfl)⟩
          obtain ⟨w2, hw2, ew2⟩ := at_ m (by omega)
          rw [hz] at hw2
          cases hw2
          rw [← ew2]
          have := e2 m hm
          simpa using this
      · exact h.elim
    · exact h.elim
  · -- count
    rename_i n y
    obtain ⟨v, r, rfl, r1, r2⟩ := repL_cons.mp hv
    rw [repL_nil] at r2
    subst r2
    split at h
    · rename_i ys hl
      obtain ⟨a, ws, rfl, h1, h2⟩ := st.list hx hl
      split at h
      · rename_i hf
        rw [Bool.and_eq_true] at hf
        refine ⟨_, mt_cntF, a, ws, v, rfl, rfl, by rw [hK]; exact h1, flatV_of r1 hf.1, (any_of r1 hf.1 h2 hf.2).1, ?_⟩
        rw [← cnt_of r1 hf.1 h2 hf.2]
        exact h.ok st (rep_int.mpr rfl)
      · cases e : cntP M (.loc n) y with
        | none => rw [e] at h; exact h.elim
        | some k =>
          rw [e] at h
          exact ⟨_, mt_cntD hK hu, .loc n, y, M, rho, k, v, st, hx, r1, rfl, e, h.ok st (rep_int.mpr rfl)⟩
    · exact h.elim
  · exact h.elim
/-! ### o[i] = v -/
def rWP (D : Wd) (g : PV → PV → PV → Sto → Option Sto) : TSet := fun o i v H Q => ∃ po pi pv M rho, StoOk D H rho M ∧ Rep D H rho po o ∧ Rep D H rho pi i ∧ Rep D H rho pv v ∧
  ∃ M', g po pi pv M = some M' ∧ ∀ H' rho', Ext H rho H' rho' → StoOk D H' rho' M' → Q H'
theorem opSet_ok (hw : X.w = D.w) (hu : X.A.units + 64 < cLine) : PSet X (rWP D opSet) := by
  intro pins s σ H o i v ov iv u Q I ro ri rv h
  obtain ⟨po, pi, pv, M, rho, st, ho, hi, hv, M', h, q⟩ := h
  have dct : ∀ n kvs ks, po = .loc n → M[n]? = some (.dct kvs) → dputP kvs pi pv = some ks → M' = M.set n (.dct ks) → wpAny (model X.prog X.w) X.A (setItem ov iv u) (fun _ s' => ∃ H', Inv X pins σ H' s' ∧ Q H') X.xe s := fun n kvs ks e hm hp hM => by
    subst e hM
    obtain ⟨a, eo, ea⟩ := rep_loc.mp ho
    subst eo
    have ro : ov = Value.ref a := ro
    subst ro
    exact dct_set hK hw hu I st hm ea hi ri hv rv hp fun H' s' I' e1 s1 => ⟨H', I', q H' rho e1 s1⟩
  unfold opSet at h
  split at h
  · rename_i n k
    split at h
    rotate_left
    · rename_i kvs hm
      obtain ⟨ks, hk, rfl⟩ := Option.map_eq_some_iff.mp h
      exact dct _ _ _ rfl hm hk rfl
    · cases h
    rw [rep_int] at hi
    obtain ⟨a, eo, ea⟩ := rep_loc.mp ho
    rename_i xs hm
    obtain ⟨j, hj, rfl⟩ := Option.map_eq_some_iff.mp h
    obtain ⟨b, ws, eb, h1, h2⟩ := st.lst hm
    rw [ea] at eb; cases eb
    obtain ⟨e1, s1⟩ := st.wr hm ea h1 (h2.set j hv)
    exact set_list pins s σ H o i v ov iv u Q I ro ri rv ⟨a, ws, k, j, eo, hi, h1, by rw [← h2.len]; exact hj, q _ _ e1 s1⟩
  · rename_i n y w _
    split at h
    · rename_i kvs hm
      obtain ⟨ks, hk, rfl⟩ := Option.map_eq_some_iff.mp h
      exact dct _ _ _ rfl hm hk rfl
    · cases h
  · cases h
/-! ### truth -/
theorem truth_ok : TruR X (fun x H Q => ∃ px M rho k, StoOk D H rho M ∧ Rep D H rho px x ∧ truth M px = some k ∧ Q k H) := by
  intro pins s σ H x v Q I rx h
  obtain ⟨px, M, rho, k, st, hx, h, q⟩ := h
  refine tru_ok pins s σ H x v Q I rx ⟨k, ?_, q⟩
  cases px <;> simp only [truth] at h <;> first | cases h | skip
  · rw [rep_non] at hx; subst hx; rfl
  · rw [rep_bl] at hx; subst hx; rfl
  · rw [rep_int] at hx; subst hx; rfl
  · rename_i xs
    obtain ⟨a, vs, rfl, h1, h2⟩ := rep_tup.mp hx
    refine .inr (.inl ⟨vs, by rw [hK]; exact h1, ?_⟩)
    have := h2.nil_iff
    cases xs <;> cases vs <;> simp at this ⊢
  · rename_i n
    obtain ⟨xs, e, rfl⟩ := Option.map_eq_some_iff.mp h
    obtain ⟨a, vs, rfl, h1, h2⟩ := st.list hx e
    refine .inl ⟨vs, by rw [hK]; exact h1, ?_⟩
    have := h2.nil_iff
    cases xs <;> cases vs <;> simp at this ⊢
/-! ### isinstance -/
def tyNames : List String := ["int", "bool", "str", "tuple", "list"]
theorem kitB_int : ∀ t : Ty, kitB "int" t.ts = some (t == .int) := by intro t; cases t <;> decide +kernel
theorem kitB_bool : ∀ t : Ty, kitB "bool" t.ts = some (t == .int || t == .bool) := by intro t; cases t <;> decide +kernel
theorem kitB_str : ∀ t : Ty, kitB "str" t.ts = some (t == .str) := by intro t; cases t <;> decide +kernel
theorem kitB_tuple : ∀ t : Ty, kitB "tuple" t.ts = some (t == .tuple) := by intro t; cases t <;> decide +kernel
theorem kitB_list : ∀ t : Ty, kitB "list" t.ts = some (t == .list) := by intro t; cases t <;> decide +kernel
theorem kitB_none : ∀ t : Ty, kitB "NoneType" t.ts = some false := by intro t; cases t <;> decide +kernel
theorem sqT_ty {H : Hp} {a : Addr} {vs : List V} (h : SqT X.K H a vs) : TyX X.K H (.ref a) (.type "tuple") := by
  rcases h with (h | ⟨o, h⟩) | ⟨o, its, n, h1, h2, _⟩
  · exact .base (.tup h)
  · exact .fTuple h
  · exact .kTuple h1 h2
theorem sqL_ty {H : Hp} {a : Addr} {vs : List V} (h : SqL X.K H a vs) : TyX X.K H (.ref a) (.type "list") := by
  rcases h with (h | ⟨o, h⟩) | ⟨o, its, n, h1, h2, _⟩
  · exact .base (.lst h)
  · exact .base (.frz h)
  · exact .kList h1 h2
theorem isTy_ok (t : Ty) : CallR X (.builtin "isinstance") (fun vs H Q => ∃ x px M rho k, vs = [x, .ty t.ts] ∧ StoOk D H rho M ∧ Rep D H rho px x ∧ isTy M t px = some k ∧ Q (.bl k) H) := by
  refine CallR.of fun vs H Q h => ⟨_, call_isi, ?_⟩
  obtain ⟨x, px, M, rho, k, rfl, st, hx, h, q⟩ := h
  cases px <;> simp only [isTy] at h
  · rw [rep_non] at hx; subst hx; cases h
    exact ⟨_, _, _, _, false, rfl, .ty _, .base .non, kit_ty (kitB_none hK t), q⟩
  · rw [rep_bl] at hx; subst hx; cases h
    exact ⟨_, _, _, _, _, rfl, .ty _, .base (.bl _), kit_ty (kitB_bool hK t), q⟩
  · rw [rep_int] at hx; subst hx; cases h
    exact ⟨_, _, _, _, _, rfl, .ty _, .base (.int _), kit_ty (kitB_int hK t), q⟩
  · rw [rep_str] at hx; subst hx; cases h
    exact ⟨_, _, _, _, _, rfl, .ty _, .base (.str _), kit_ty (kitB_str hK t), q⟩
  · obtain ⟨a, vs, rfl, h1, h2⟩ := rep_tup.mp hx; cases h
    exact ⟨_, _, _, _, _, rfl, .ty _, sqT_ty hK (by rw [hK]; exact h1), kit_ty (kitB_tuple hK t), q⟩
  · obtain ⟨xs, e, rfl⟩ := Option.map_eq_some_iff.mp h
    obtain ⟨a, vs, rfl, h1, h2⟩ := st.list hx e
    exact ⟨_, _, _, _, _, rfl, .ty _, sqL_ty hK (by rw [hK]; exact h1), kit_ty (kitB_list hK t), q⟩
end
end SW

/-! enumerate of a tuple. -/
namespace SW
open PySem PySem.Spec PyProof.Rows L2

theorem enumNew {v : Value} {o : Obj} {Hc : Heap → Prop} (B : Begins v o Hc) :
    Meets (Builtin.«enumerate.__new__» ⟨[.type "enumerate", v], []⟩) (fun _ R s => Hc s.heap ∧ R (.ok (.ret (.ref (s.heap.push o).objs.size)))
      { s with heap := (s.heap.push o).push { cls := .type "enumerate", data := .fields #[.none, .bool false, .ref s.heap.objs.size, rawInt 0, .none, .none] } }) :=
  .of_wp fun prog w A R s h => by
    obtain ⟨hp, g, d, tk, os⟩ := s
    obtain ⟨hc, h⟩ := h
    have hsub := sub_enumerate
    have it1 : ∀ {A' : Around} {E : Value → Shared → Prop} {Q : Value → Shared → Prop}, Q (.ref hp.objs.size) ⟨hp.push o, g, d, tk, os⟩ → wpAny (model prog w) A' (pyIter v) Q E ⟨hp, g, d, tk, os⟩ :=
      fun q => B.iter prog w _ _ ⟨hp, g, d, tk, os⟩ _ hc q
    wp_walk using it1
    refine wpAny_stack_any fun st => wpAny_pure ?_
    split
    · rename_i c _ _ _ _ _
      cases (c == Value.type "enumerate")
      · wp_walk using it1
        exact ⟨_, rfl, h⟩
      · wp_walk using it1
        exact ⟨_, rfl, h⟩
    · wp_walk using it1
      exact ⟨_, rfl, h⟩
section
variable {prog : Program} {w : World} {A : Around} {E : Value → Shared → Prop} {s : Shared}
theorem enumMade {v : Value} {o : Obj} {Hc : Heap → Prop} {Q : Value → Shared → Prop} (B : Begins v o Hc) (hc : Hc s.heap)
    (h : ∀ h', IsEnum h' (s.heap.objs.size + 1) s.heap.objs.size 0 .none → h'.get? s.heap.objs.size = some o → (∀ b u, s.heap.get? b = some u → h'.get? b = some u) → Q (.ref (s.heap.objs.size + 1)) { s with heap := h' }) :
    wpAny (model prog w) A (call (.type "enumerate") [v]) Q E s := by
  refine callType_new F.called_enumerate (by decide) (F.typeCall_enumerate_1 _) (F.newCall_enumerate_1 _) (fun obj => F.args_object_init_2 obj _) F.entry_enumerate_new (enumNew B) ⟨hc, ?_⟩
  have hz : (s.heap.push o).objs.size = s.heap.objs.size + 1 := Heap.size_push ..
  show _ ∧ _
  rw [hz]
  have he := Heap.get?_push_size (s.heap.push o) (o := { cls := .type "enumerate", data := .fields #[.none, .bool false, .ref s.heap.objs.size, rawInt 0, .none, .none] }) rfl
  rw [hz] at he
  exact ⟨⟨_, he, rfl⟩, h _ he (Heap.get?_push_of_some _ (Heap.get?_push_size _ B.free)) fun b u x => Heap.get?_push_of_some _ (Heap.get?_push_of_some _ x)⟩
end
/-- the tuple at a, each item in a new pair with its number -/
def Iet (K : PySem.W.Frag) (a : Addr) (n : Nat) : It :=
  ⟨fun i H => ∃ (xs : List V) (x : V), SqT K H a xs ∧ xs.length = n ∧ xs[i]? = some x,
    fun i H v H' => ∃ T x, v = .ref T ∧ H T = none ∧ H' = upd H T (.tup [.int (i : Nat), x]) ∧ ∀ xs, SqT K H a xs → xs[i]? = some x,
    fun i H => ∃ xs : List V, SqT K H a xs ∧ xs.length = n ∧ xs.length ≤ i⟩
theorem turnEt {P : Program} {w : World} {K : PySem.W.Frag} {elts : List Expr} {kk : Nat} {tpos : Pos} (a e it : Addr) (n : Nat) :
    Turn P w K (.Tuple elts kk tpos) (Iet K a n) [e, it] e (fun i h => (∃ old, IsEnum h e it ((i : Nat) : Int) old) ∧ h.IsTupleIter it a i ∧ e ≠ it ∧ e ≠ a ∧ a ≠ it ∧ i ≤ n) where
  mem := by simp
  obj := fun i h st b hb => by
    obtain ⟨⟨old, he⟩, ⟨o, ho, hc, hd⟩, _⟩ := st
    have e' : b = e ∨ b = it := by simpa using hb
    rcases e' with z | z
    · rw [z]; exact ⟨_, he, fun v q => nomatch q⟩
    · rw [z]; exact ⟨o, ho, fun v q => by rw [hd] at q; cases q⟩
  keep := fun i h h' st k => by
    obtain ⟨⟨old, he⟩, hi, hne, n2, n3, n4⟩ := st
    exact ⟨⟨old, k e (by simp) _ he⟩, hi.at fun o q => k it (by simp) o q, hne, n2, n3, n4⟩
  item := by
    intro X hP hw hK hc i pins s σ H E I hf st hg
    subst hP hw hK
    obtain ⟨⟨old, he⟩, hit, hne, n2, n3, n4⟩ := st
    obtain ⟨xs, x, hq, hn, hx⟩ := hg
    have hlx := (List.getElem?_eq_some_iff.mp hx).1
    obtain ⟨its, rv, p, hz⟩ := I.tuple hq
    obtain ⟨u, hu, ru⟩ := rv.get hx
    have hel : e < s.heap.objs.size := Heap.lt_size he
    have hil : it < s.heap.objs.size := by obtain ⟨_, q, _⟩ := hit; exact Heap.lt_size q
    have hui : its.toArray[i]? = some u := by simpa using hu
    have hin : i < its.toArray.size := (Array.getElem?_eq_some_iff.mp hui).1
    have hh : X.A.in1.handled = none := I.ok.hd hc
    refine wpAny_pyNext_enum_itemC (Draws.tuple hh it a n3 its.toArray) he ⟨hit, p⟩ hin hne (by simp [hne, n2]) fun y h' tk hy ho st' hT hsz hk => ?_
    have ey : y = u := by rw [hui] at hy; cases hy; rfl
    subst ey
    refine ⟨_, rfl, wpAny_letOwnedTupleGo_enum (s := { s with heap := h', toks := tk + 1 }) ho fun h'' he' sb => ?_⟩
    have hT2 : h''.get? s.heap.objs.size = some { cls := .type "tuple", data := .seq #[.int i tk, y] } := (sb.2 _ (Nat.ne_of_gt hel)).trans hT
    have new : ObjOk X.prog X.w (upd H s.heap.objs.size (.tup [.int (i : Nat), x])) h'' s.heap.objs.size (.tup [.int (i : Nat), x]) :=
      ⟨by show 2 ≤ sizeLine; decide, [.int i tk, y], .cons ⟨_, rfl⟩ (.cons ru .nil), ⟨_, hT2, rfl, _, rfl⟩⟩
    have I1 : Inv X pins σ (upd H s.heap.objs.size (.tup [.int (i : Nat), x])) { s with heap := h'', toks := tk + 1 } :=
      I.turnedNew (ch := [e, it]) (fun b ob hb q => (sb.2 b (fun z => hb (by simp [z]))).trans (hk b ob (fun z => hb (by simp [z])) (fun z => hb (by simp [z])) q)) hf (Nat.le_refl _) new
    refine ⟨.ref s.heap.objs.size, _, I1, rfl, ⟨_, x, rfl, I.hok.fresh (Nat.le_refl _), rfl, fun ys hy => by rw [I.tuple_inj hy hq]; exact hx⟩, ⟨⟨y, ?_⟩, st'.1.at fun o q => (sb.2 it (Ne.symm hne)).trans q, hne, n2, n3, by omega⟩, fun b hb => ?_⟩
    · rw [show ((i + 1 : Nat) : Int) = (i : Int) + 1 from by omega]
      exact he'
    · have hb' : b < s.heap.objs.size := by
        have e' : b = e ∨ b = it := by simpa using hb
        rcases e' with z | z <;> rw [z] <;> assumption
      rw [upd_ne (Nat.ne_of_lt hb')]
      exact (hf b hb).1
  done := by
    intro X hP hw hK hc i pins s σ H E I hf st hg
    subst hP hw hK
    obtain ⟨⟨old, he⟩, hit, hne, n2, n3, n4⟩ := st
    obtain ⟨xs, hq, hn, hx⟩ := hg
    obtain ⟨its, rv, p, hz⟩ := I.tuple hq
    obtain ⟨f0, f1, f2, f3, f4, f5⟩ := hf it (by simp)
    have hl := rv.length
    have hsz : its.toArray.size = i := by rw [List.size_toArray]; omega
    have hh : X.A.in1.handled = none := I.ok.hd hc
    exact wpAny_pyNext_enum_endD (Draws.tuple hh it a n3 its.toArray) he ⟨by rw [hsz]; exact hit, p⟩ fun h' eb => ⟨rfl, I.turned (t' := s.toks) (fun b o hb q => eb b o hb q) f0 f1 f3 f4 f5⟩
  self := fun A i s Q E st h => let ⟨⟨_, he⟩, _⟩ := st; wpAny_pyIter_enum he h
/-- enumerate(e), a list or a tuple -/
def iEnA (K : PySem.W.Frag) (ta : TA) : TI := fun σ H R => ta σ H fun vs H1 => ∃ a xs, vs = [.ref a] ∧ ((SqL K H1 a xs ∧ R (Ite K a) H1) ∨ (SqT K H1 a xs ∧ R (Iet K a xs.length) H1))
theorem pi_enA {X : Cx} {e : Expr} {ta : TA} {p pos tpos : Pos} {elts : List Expr} {kk : Nat} (hg : Gl X "enumerate") (hm : X.mg "enumerate" = none) (ha : PA X [e] ta) (hs : starEach [e] X.env = [(false, eval e X.env)]) :
    PI X (.Tuple elts kk tpos) (.Call (.Name "enumerate" p) [e] [] pos) (iEnA X.K ta) := by
  refine ⟨fun pins s σ H R I h => ?_⟩
  refine Call_ (ld_blt I hg hm boot_enumerate (PyProof.Rows.callWith_type1 (thn (ha.run pos pins s σ H _ I h) fun us s1 ⟨vs, H1, I1, r1, q1⟩ => ?_) hs rfl))
  obtain ⟨a, xs, ex, q⟩ := q1
  subst ex
  cases r1 with
  | cons r rr =>
    cases rr
    cases r
    have fr : ∀ b ∈ [s1.heap.objs.size + 1, s1.heap.objs.size], FpOk X pins H1 b := fun b hb => by
      have e' : b = s1.heap.objs.size + 1 ∨ b = s1.heap.objs.size := by simpa using hb
      have hle : s1.heap.objs.size ≤ b := by
        rcases e' with z | z
        · rw [z]; exact Nat.le_add_right _ _
        · rw [z]; exact Nat.le_refl _
      exact I1.fpOk hle (I1.hok.fresh hle)
    rcases q with ⟨hq, q⟩ | ⟨hq, q⟩
    · obtain ⟨its, rv, p', hz⟩ := I1.list hq
      refine call_enumerate_list p'.isList fun h' he hit hsz hk => wpAny_pyIter_enum he ?_
      have I2 : Inv X pins σ H1 { s1 with heap := h' } := I1.kept (t' := s1.toks) hk
      exact ⟨s1.heap.objs.size + 1, [s1.heap.objs.size + 1, s1.heap.objs.size], _, _, H1, rfl, I2, turn_enum a (s1.heap.objs.size + 1) s1.heap.objs.size, ⟨⟨.none, he⟩, hit, Nat.succ_ne_self _⟩, fr, q⟩
    · obtain ⟨its, rv, p', hz⟩ := I1.tuple hq
      have hlt : a < s1.heap.objs.size := by obtain ⟨o, ho, _⟩ := id p'; exact Heap.lt_size ho
      refine enumMade (begins_tuple a its.toArray) p' fun h' he hit hk => wpAny_pyIter_enum he ?_
      have I2 : Inv X pins σ H1 { s1 with heap := h' } := I1.kept (t' := s1.toks) hk
      exact ⟨s1.heap.objs.size + 1, [s1.heap.objs.size + 1, s1.heap.objs.size], _, _, H1, rfl, I2, turnEt a (s1.heap.objs.size + 1) s1.heap.objs.size xs.length, ⟨⟨.none, he⟩, ⟨_, hit, rfl, rfl⟩, Nat.succ_ne_self _, Nat.ne_of_gt (Nat.lt_succ_of_lt hlt), Nat.ne_of_lt hlt, Nat.zero_le _⟩, fr, q⟩
end SW

/-! tuple(reversed(x)), x a list or a tuple. -/
namespace SW
open PySem PySem.Spec PyProof.Rows L2

theorem rq_nolen : typeLookup (.type "reversed") "__len__" = pure none := by rw [typeLookup_type, builtinLookup_eq_fast]; kernel_rfl
theorem rq_hint : typeLookup (.type "reversed") "__length_hint__" = pure (some (.builtin "reversed.__length_hint__")) := by rw [typeLookup_type, builtinLookup_eq_fast]; kernel_rfl
theorem rq_slot : Slot "reversed" "__length_hint__" "reversed.__length_hint__" :=
  .of (owner := "reversed") (n := "__length_hint__") (by rw [typeLookup_type, builtinLookup_eq_fast]; kernel_rfl) (by decide +kernel) (by decide +kernel) (by decide +kernel)
    (by first | exact .inl (by decide +kernel) | exact .inr (by decide +kernel)) (by rw [isSubtype_type]; kernel_rfl)
theorem rq_entry : entryFor table "reversed.__length_hint__" = some Builtin.«reversed.__length_hint__» := entryFor_of_tree (by kernel_rfl)
theorem rq_args (a : Value) : argsOk "reversed.__length_hint__" ⟨[a], []⟩ := by
  unfold argsOk; rw [signature?_of (id := "reversed.__length_hint__") (n := ['_', '_', 't', 'n', 'i', 'h', '_', 'h', 't', 'g', 'n', 'e', 'l', '_', '_']) (o := ['d', 'e', 's', 'r', 'e', 'v', 'e', 'r']) (by kernel_rfl) RT.owner_rt]; kernel_rfl
theorem tup_at {h h' : Heap} {a : Addr} {its : Array Value} (x : IsTup h a its) (e : ∀ o, h.get? a = some o → h'.get? a = some o) : IsTup h' a its := let ⟨o, ho, r⟩ := x; ⟨o, e _ ho, r⟩
theorem ite_both {α : Type} {c : Prop} [Decidable c] {a b : α} {P : α → Prop} (ha : P a) (hb : P b) : P (if c then a else b) := by by_cases h : c <;> simp only [h, if_true, if_false] <;> assumption
/-- a walk over reversed(a tuple) -/
theorem rq_walks {prog : Program} {w : World} {A : Around} (hh : A.handled = none) (I l : Addr) (hne : l ≠ I) (items : Array Value) (hz : items.size ≤ sizeLine) :
    Walks prog w A I [I, l] [I] items.size (fun i v => items[items.size - 1 - i]? = some v) (fun i h => i ≤ items.size ∧ RT.IsRt h I l ((items.size : Int) - 1 - (i : Int)) ∧ IsTup h l items) where
  sub := fun b hb => by simp at hb; simp [hb]
  frame := fun _ _ _ x hk => ⟨x.1, x.2.1.at fun o e => hk I (by simp) o e, tup_at x.2.2 fun o e => hk l (by simp) o e⟩
  item := fun i s Q E hi x hQ => by
    have e : (items.size : Int) - 1 - (i : Int) = ((items.size - 1 - i : Nat) : Int) := by omega
    have hit := x.2.1
    rw [e] at hit
    have hx : items[items.size - 1 - i]? = some (items[items.size - 1 - i]'(by omega)) := Array.getElem?_eq_getElem (by omega)
    refine RT.next_rt_item hit x.2.2 hx hz fun h' hit' hs' => ?_
    have e2 : ((items.size - 1 - i : Nat) : Int) - 1 = (items.size : Int) - 1 - ((i + 1 : Nat) : Int) := by omega
    rw [e2] at hit'
    exact hQ _ h' (s.toks + 1) hx ⟨hi, hit', tup_at x.2.2 fun o eo => (hs'.2 l hne).trans eo⟩ fun b o hb eo => hs'.extBut b o (fun h => hb (by simp [h])) eo
  done := fun s Q E x hQ => by
    have e : (items.size : Int) - 1 - (items.size : Int) = -1 := by omega
    have hit := x.2.1
    rw [e] at hit
    exact RT.next_rt_end hh hit fun h' he' => hQ h' s.toks fun b o hb eo => he' b o (fun h => hb (by simp [h])) eo
  self := fun _ _ _ _ x hQ => RT.iter_rt x.2.1 hQ
section
variable {prog : Program} {w : World} {A : Around} {E : Value → Shared → Prop} {s : Shared}
theorem rq_len {it l : Addr} {items : Array Value} {Q : Value → Shared → Prop} (hit : RT.IsRt s.heap it l ((items.size : Int) - 1)) (hl : IsTup s.heap l items) (hz : items.size ≤ sizeLine)
    (h : ∀ t tk, Q (.int items.size t) { s with toks := tk }) : wpAny (model prog w) A (call (.builtin "reversed.__length_hint__") [.ref it]) Q E s := by
  obtain ⟨o, ho, hc, hd⟩ := id hit
  have hn := line63
  refine wpAny_call_entry rq_slot hit.typeIs rq_entry ?_ (rq_args _)
  unfold Builtin.«reversed.__length_hint__»
  refine wpAny_bind (wpAny_of_eq (a := Value.ref it) rfl ?_)
  try dsimp only
  refine wpAny_bind (wpAny_field ho hd (x := .ref l) rfl ?_)
  try dsimp only
  rw [if_neg (show ¬ ((Value.ref l == Value.none) = true) from by simp)]
  refine wpAny_bind ?_
  refine len_tuple hl (by omega) ?_
  refine wpAny_bind (wpAny_of_eq (a := some ((items.size : Nat) : Int)) rfl ?_)
  try dsimp only
  refine wpAny_bind (wpAny_field (s := { s with toks := s.toks + 1 + 1 }) ho hd (x := rawInt ((items.size : Int) - 1)) rfl ?_)
  show wpAny _ _ (if ((items.size : Nat) : Int) < (items.size : Int) - 1 + 1 then _ else _) _ _ _
  rw [if_neg (by omega)]
  unfold retInt
  refine wpAny_bind (wpAny_mkInt ?_)
  refine wpAny_pure ⟨_, rfl, ?_⟩
  rw [show (items.size : Int) - 1 + 1 = items.size from by omega]
  exact h _ _
theorem rq_collect {it l : Addr} {items : Array Value} {Q : List Value → Shared → Prop} (hh : A.handled = none) (hit : RT.IsRt s.heap it l ((items.size : Int) - 1)) (hl : IsTup s.heap l items) (hne : l ≠ it) (hn : items.size ≤ sizeLine)
    (hQ : ∀ (h' : Heap) (tk : Nat) (acc : Array Value), (∀ b o, b ≠ it → s.heap.get? b = some o → h'.get? b = some o) → ItemsOf (fun i v => items[items.size - 1 - i]? = some v) acc items.size → Q acc.toList { s with heap := h', toks := tk }) :
    wpAny (model prog w) A (collect (.ref it)) Q E s := by
  have W := (rq_walks (prog := prog) (w := w) (A := A.in1) hh it l hne items hn).toS
  obtain ⟨oi, hoi, _⟩ := id hit
  obtain ⟨ol, hol, _⟩ := id hl
  have hz63 := line63
  have hSi : s.heap.objs.size ≠ it := Nat.ne_of_gt (Heap.lt_size hoi)
  have hSl : s.heap.objs.size ≠ l := Nat.ne_of_gt (Heap.lt_size hol)
  have hSf : s.heap.objs.size ∉ [it, l] := by simp only [List.mem_cons, List.not_mem_nil, or_false, not_or]; exact ⟨hSi, hSl⟩
  unfold collect
  refine wpAny_bind (wpAny_runValue (codeAny_builtin F.entry_proto_collect ?_))
  rw [Around.under_plainId F.plain_proto_collect _]
  show wpAny _ A.in1 (newList [] >>= fun l' => again (.builtin "list.__iadd__" ⟨[l', .ref it], []⟩)) _ _ s
  refine wpAny_bind (wpAny_newObj_type ?_)
  refine wpAny_pure ⟨plainId_quiet F.plain_list_iadd _, codeAny_builtin F.entry_list_iadd ?_⟩
  rw [Around.under_plainId F.plain_list_iadd _]
  generalize eo : ({ cls := .type "list", data := .seq ([] : List Value).toArray } : Obj) = ob
  have hS₁ : (s.heap.push ob).get? s.heap.objs.size = some ob := Heap.get?_push_size _ (by rw [← eo]; rfl)
  have hit1 : RT.IsRt (s.heap.push ob) it l ((items.size : Int) - 1) := hit.at fun o e => Heap.get?_push_of_some _ e
  have hl1 : IsTup (s.heap.push ob) l items := tup_at hl fun o e => Heap.get?_push_of_some _ e
  have hT : ({ s with heap := s.heap.push ob } : Shared).TypeIs (.ref it) "reversed" := RT.IsRt.typeIs (s := { s with heap := s.heap.push ob }) hit1
  have h1 : Builtin.List.listSameRef (.ref s.heap.objs.size) (.ref it) = false := by simp [Builtin.List.listSameRef, hSi]
  show wpAny _ A.in1 (Builtin.List.listExtendWith (.ref s.heap.objs.size) (.ref it) (.ref s.heap.objs.size)) _ _ _
  unfold Builtin.List.listExtendWith
  refine wpAny_bind (wpAny_typeOf hT ?_)
  rw [if_neg (by rw [h1]; decide)]
  refine wpAny_bind (RT.iter_rt (s := { s with heap := s.heap.push ob }) hit1 ?_)
  refine wpAny_bind (wpAny_holding ?_)
  unfold Builtin.List.listLengthHint
  refine wpAny_bind (wpAny_specialOf hT rq_nolen ?_)
  show wpAny _ A.in1 (specialOf (Value.ref it) (Str.ofString "__length_hint__") >>= _) _ _ _
  refine wpAny_bind (wpAny_specialOf hT rq_hint ?_)
  generalize hid : ("reversed.__length_hint__" : String) = id0
  wp_delta
  rw [show splitId id0 = some ("reversed", "__length_hint__") from by subst hid; decide +kernel]
  subst hid
  refine wpAny_bind (wpAny_isInstance (b := true) hT (by rw [isSubtype_type]; kernel_rfl) ?_)
  rw [if_neg (by decide)]
  try dsimp only
  rw [if_neg (by decide +kernel)]
  refine wpAny_bind (wpAny_rule ?_)
  rw [rq_slot.bind (.ref it)]
  refine wpAny_bind (wpAny_pure ?_)
  try dsimp only
  refine wpAny_bind (wpAny_attempt (rq_len (s := { s with heap := s.heap.push ob }) hit1 hl1 hn fun t tk => ?_))
  try dsimp only
  have ha : asInt? (Value.int ((items.size : Nat) : Int) t) = pure (some ((items.size : Nat) : Int)) := by
    generalize ((items.size : Nat) : Int) = z
    rfl
  generalize hz : ((items.size : Nat) : Int) = z at *
  refine wpAny_bind ?_
  rw [ha]
  refine wpAny_pure ?_
  have z0 : 0 ≤ z := by omega
  have z1 : z.toNat ≤ sizeLine := by omega
  have f1 : (!Builtin.List.listFitsIndex z) = false := by
    unfold Builtin.List.listFitsIndex
    simp only [Bool.not_eq_false', Bool.and_eq_true, decide_eq_true_eq]
    omega
  have f2 : Builtin.List.listTooLong z.toNat = false := by
    unfold Builtin.List.listTooLong
    exact decide_eq_false (by omega)
  try dsimp only
  rw [f1, if_neg (by decide), if_neg (by omega), f2, if_neg (by decide)]
  refine wpAny_pure ?_
  have e0 : z - 1 - ((0 : Nat) : Int) = z - 1 := by omega
  refine ite_both (P := fun m => wpAny _ _ m _ _ _) ?_ ?_
  · refine wpAny_bind (wpAny_rule ?_)
    refine wpAny_bind ?_
    show wpAny _ A.in1 (updateSeq s.heap.objs.size (·.push .none) >>= fun _ => updateSeq s.heap.objs.size (·.pop)) _ _ _
    subst eo
    refine wpAny_bind (wpAny_updateSeq hS₁ rfl ?_)
    have hS₂ := Heap.get?_update_self (Obj.mapSeq (·.push Value.none)) hS₁ rfl
    refine wpAny_updateSeq hS₂ rfl ?_
    have hS := Heap.get?_update_self (Obj.mapSeq (·.pop)) hS₂ rfl
    have oth : ∀ b o, b ≠ s.heap.objs.size → s.heap.get? b = some o →
        (((s.heap.push { cls := .type "list", data := .seq ([] : List Value).toArray }).update s.heap.objs.size (Obj.mapSeq (·.push Value.none))).update s.heap.objs.size (Obj.mapSeq (·.pop))).get? b = some o :=
      fun b o hb e => (Heap.get?_update_other _ _ (Ne.symm hb)).trans ((Heap.get?_update_other _ _ (Ne.symm hb)).trans (Heap.get?_push_of_some _ e))
    refine wpAny_pure ⟨plainId_quiet F.plain_extend_loop _, codeAny_extend_loopS W hn _ hSf _ items.size 0 _ _ _ rfl (Nat.zero_le _) ⟨Nat.zero_le _, by rw [e0]; exact hit.at fun o e => oth _ _ (Ne.symm hSi) e, tup_at hl fun o e => oth _ _ (Ne.symm hSl) e⟩ hS (ItemsOf.nil _) fun s' acc' c' hm hS' hacc => ?_⟩
    show wpAny _ A (load s.heap.objs.size >>= _) _ _ s'
    refine wpAny_bind (wpAny_load hS' ?_)
    refine wpAny_pure ?_
    rw [Moved.eq_with hm]
    refine hQ s'.heap s'.toks acc' (fun b o hb e => hm.heap b o (fun hmem => ?_) (oth b o (Nat.ne_of_lt (Heap.lt_size e)) e)) hacc
    rcases List.mem_cons.mp hmem with e' | hmem
    · exact absurd (Heap.lt_size e) (by rw [e']; exact Nat.lt_irrefl _)
    · exact hb (List.mem_singleton.mp hmem)
  · subst eo
    have hS := hS₁
    have oth : ∀ b o, b ≠ s.heap.objs.size → s.heap.get? b = some o → (s.heap.push { cls := .type "list", data := .seq ([] : List Value).toArray }).get? b = some o := fun b o _ e => Heap.get?_push_of_some _ e
    refine wpAny_pure ⟨plainId_quiet F.plain_extend_loop _, codeAny_extend_loopS W hn _ hSf _ items.size 0 _ _ _ rfl (Nat.zero_le _) ⟨Nat.zero_le _, by rw [e0]; exact hit.at fun o e => oth _ _ (Ne.symm hSi) e, tup_at hl fun o e => oth _ _ (Ne.symm hSl) e⟩ hS (ItemsOf.nil _) fun s' acc' c' hm hS' hacc => ?_⟩
    show wpAny _ A (load s.heap.objs.size >>= _) _ _ s'
    refine wpAny_bind (wpAny_load hS' ?_)
    refine wpAny_pure ?_
    rw [Moved.eq_with hm]
    refine hQ s'.heap s'.toks acc' (fun b o hb e => hm.heap b o (fun hmem => ?_) (oth b o (Nat.ne_of_lt (Heap.lt_size e)) e)) hacc
    rcases List.mem_cons.mp hmem with e' | hmem
    · exact absurd (Heap.lt_size e) (by rw [e']; exact Nat.lt_irrefl _)
    · exact hb (List.mem_singleton.mp hmem)
theorem rq_new {it l : Addr} {items : Array Value} {Q₁ : Value → Shared → Prop} (hh : A.handled = none) (hit : RT.IsRt s.heap it l ((items.size : Int) - 1)) (hl : IsTup s.heap l items) (hne : l ≠ it) (hn : items.size ≤ sizeLine)
    (h : ∀ (h' : Heap) (tk : Nat) (acc : Array Value), (∀ b o, b ≠ it → s.heap.get? b = some o → h'.get? b = some o) → ItemsOf (fun i v => items[items.size - 1 - i]? = some v) acc items.size →
      Q₁ (.ref h'.objs.size) { s with heap := h'.push { cls := .type "tuple", data := .seq acc }, toks := tk }) :
    codeAny (model prog w) A (.call (.builtin "tuple.__new__") ⟨[.type "tuple", .ref it], []⟩) (wants Q₁ E) s := by
  refine codeAny_of_tree ?_
  show wpAny _ A.in1 (do checkBuiltinCall "tuple.__new__" ⟨[.type "tuple", .ref it], []⟩; again (.builtin "tuple.__new__" ⟨[.type "tuple", .ref it], []⟩)) _ _ s
  refine wpAny_bind (wpAny_of_eq (F.newCall_tuple_1 _) (wpAny_pure ⟨plainId_quiet F.plain_tuple_new _, codeAny_builtin F.entry_tuple_new ?_⟩))
  rw [Around.under_plainId F.plain_tuple_new _]
  have hsub := sub_tuple_self
  have hinit := init_tuple_lookup
  have hmh := madeHere_tuple
  have hTI : s.TypeIs (.ref it) "reversed" := hit.typeIs
  have hh1 : A.in1.handled = none := hh
  wp_walk using wpAny_typeOf hTI, rq_collect (A := A.in1) hh1 hit hl hne hn
  intro h' tk acc hk hacc
  show wpAny _ _ (Builtin.Tuple.tupleExact acc.toList.toArray >>= fun v => ret v) _ _ _
  unfold Builtin.Tuple.tupleExact
  refine wpAny_bind (wpAny_newObj_type ?_ (by show acc.toList.toArray.size ≤ sizeLine; simp only [Array.toArray_toList]; rw [hacc.1]; exact hn))
  refine wpAny_pure ?_
  have e : acc.toList.toArray = acc := by simp
  rw [e]
  exact h h' tk acc hk hacc
theorem rq_call {it l : Addr} {items : Array Value} {Q : Value → Shared → Prop} (hh : A.handled = none) (hit : RT.IsRt s.heap it l ((items.size : Int) - 1)) (hl : IsTup s.heap l items) (hne : l ≠ it) (hn : items.size ≤ sizeLine)
    (hQ : ∀ (h' : Heap) (tk : Nat) (acc : Array Value), (∀ b o, b ≠ it → s.heap.get? b = some o → h'.get? b = some o) → ItemsOf (fun i v => items[items.size - 1 - i]? = some v) acc items.size →
      Q (.ref h'.objs.size) { s with heap := h'.push { cls := .type "tuple", data := .seq acc }, toks := tk }) :
    wpAny (model prog w) A (call (.type "tuple") [.ref it]) Q E s := by
  refine callType_codes (Q₁ := fun obj s₁ => s₁.TypeIs obj "tuple" ∧ Q obj s₁) F.called_tuple (F.typeCall_tuple_1 _) F.entry_object_init
    (rq_new (A := A.in1) hh hit hl hne hn fun h' tk acc hk hacc => ⟨⟨_, Heap.get?_push_size _ rfl, rfl⟩, hQ h' tk acc hk hacc⟩) fun obj s₁ h₁ => ?_
  exact ⟨h₁.1, F.args_object_init_2 obj _, object_init_meets F.called_tuple.init.lookup F.called_tuple.made (by decide) prog w A.in1 _ s₁ ⟨h₁.1, rfl, h₁.2⟩⟩
end
/-- tuple(reversed(x)): a new tuple -/
def tRevA (K : PySem.W.Frag) (te : TE) : TE := fun σ H Q => te σ H fun v H1 => ∃ (a : Addr) (xs : List V), v = .ref a ∧ (SqL K H1 a xs ∨ SqT K H1 a xs) ∧ ∀ q, H1 q = none → Q (.ref q) (upd H1 q (.tup xs.reverse))
section
variable {X : Cx}
theorem pe_revA {e : Expr} {te : TE} {p p2 pos pos2 : Pos} (hc : X.calm = true) (hg : Gl X "tuple") (hm : X.mg "tuple" = none) (hg2 : Gl X "reversed") (hm2 : X.mg "reversed" = none) (he : PE X e te)
    (hs : starEach [e] X.env = (false, eval e X.env) :: starEach [] X.env) : PE X (.Call (.Name "tuple" p) [.Call (.Name "reversed" p2) [e] [] pos2] [] pos) (tRevA X.K te) := by
  refine ⟨fun pins s σ H Q I h => ?_⟩
  have hs2 : starEach [.Call (.Name "reversed" p2) [e] [] pos2] X.env = (false, eval (.Call (.Name "reversed" p2) [e] [] pos2) X.env) :: starEach [] X.env := rfl
  refine Call_ (ld_blt I hg hm boot_tuple (PyProof.Rows.callWith_type1 (args_cons (Call_ (ld_blt I hg2 hm2 PyProof.Rows.boot_reversed (PyProof.Rows.callWith_type1 (args_cons (thn (he.run pins s σ H _ I h) fun u s1 ⟨v, H1, I1, r1, q1⟩ => args_nil ?_) hs) hs rfl))) hs2) hs2 rfl))
  obtain ⟨a, xs, ev, hq, q⟩ := q1
  subst ev
  obtain rfl : u = Value.ref a := r1
  have done : ∀ {its : List Value} (b : Obj) (acc : Array Value) (h' : Heap) (tk tk0 : Nat), Vals xs its → xs.length ≤ sizeLine → (∀ c o, c ≠ s1.heap.objs.size → (s1.heap.push b).get? c = some o → h'.get? c = some o) →
      ItemsOf (fun i v => its.toArray[its.toArray.size - 1 - i]? = some v) acc its.toArray.size →
      ∃ v' H', Inv X pins σ H' { s1 with heap := h'.push { cls := .type "tuple", data := .seq acc }, toks := tk } ∧ RelV v' (.ref h'.objs.size) ∧ Q v' H' := by
    intro its b acc h' tk tk0 rv hz hk hi
    have I2 : Inv X pins σ H1 { s1 with heap := s1.heap.push b, toks := tk0 } := I1.kept (t' := tk0) fun c o e => Heap.get?_push_of_some _ e
    obtain ⟨f0, f1, f2, f3, f4, f5⟩ := I1.fpOk (H' := H1) (b := s1.heap.objs.size) (Nat.le_refl _) (I1.hok.fresh (Nat.le_refl _))
    have I3 : Inv X pins σ H1 { s1 with heap := h', toks := tk } := I2.turned (t' := tk) (fun c o hb e => hk c o hb e) f0 f1 f3 f4 f5
    refine ⟨.ref h'.objs.size, upd H1 h'.objs.size (.tup xs.reverse), I3.laid (t' := tk) (fun c o e => Heap.get?_push_of_some _ e) (Nat.le_refl _) (show ObjOk X.prog X.w _ _ _ (.tup xs.reverse) from ⟨by rw [List.length_reverse]; exact hz, acc.toList, RT.vals_rev rv hi, ?_⟩), rfl, q _ (I3.hok.fresh (Nat.le_refl _))⟩
    rw [Array.toArray_toList]
    exact IsTup.new _ _
  rcases hq with hq | hq
  · obtain ⟨its, rv, p', hz⟩ := I1.list hq
    refine call_reversed_list p'.isList (args_nil ?_)
    have hl := p'.isList
    obtain ⟨ol, hol, _⟩ := id hl
    have hne : a ≠ s1.heap.objs.size := Nat.ne_of_lt (Heap.lt_size hol)
    have hn : its.toArray.size ≤ sizeLine := by rw [List.size_toArray, ← rv.length]; exact hz
    exact RT.call_tuple_rev (s := { s1 with heap := s1.heap.push (revObj a ((its.toArray.size : Int) - 1)) }) (I1.ok.hd hc) ⟨_, Heap.get?_push_size _ rfl, rfl, rfl⟩ (hl.push _) hne hn fun h' tk acc hk hi => done _ acc h' tk s1.toks rv hz hk hi
  · obtain ⟨its, rv, p', hz⟩ := I1.tuple hq
    have hln := rv.length
    have h63 := line63
    refine RT.call_reversed_tup p' (fun A E Q k => len_tuple p' (by simp only [List.size_toArray] <;> omega) k) (args_nil ?_)
    obtain ⟨ol, hol, _⟩ := id p'
    have hne : a ≠ s1.heap.objs.size := Nat.ne_of_lt (Heap.lt_size hol)
    have hn : its.toArray.size ≤ sizeLine := by rw [List.size_toArray, ← rv.length]; exact hz
    exact rq_call (s := { s1 with heap := s1.heap.push (RT.rtObj a ((its.toArray.size : Int) - 1)), toks := s1.toks + 1 + 1 }) (I1.ok.hd hc) ⟨_, Heap.get?_push_size _ rfl, rfl, rfl⟩ (tup_at p' fun o e => Heap.get?_push_of_some _ e) hne hn fun h' tk acc hk hi => done _ acc h' tk (s1.toks + 1 + 1) rv hz hk hi
end
end SW

/-! x[::-1]; displays of dicts. -/
namespace SW
open PySem PySem.Spec PyProof.Rows L2
section
variable {prog : Program} {w : World} {A : Around} {E : Value → Shared → Prop} {s : Shared}
theorem part_neg {sl : Addr} {vl vu vs : Value} {n : Nat} {Q : Int × Int × Nat → Shared → Prop} (hs : s.heap.IsSliceOf sl vl vu vs) (pl : IsPart vl none) (pu : IsPart vu none) (ps : IsPart vs (some (-1)))
    (h : Q ((n : Int) - 1, -1, n) s) : wpAny (model prog w) A (Builtin.Slice.sliceApplied (.ref sl) (pure (n : Int))) Q E s := by
  obtain ⟨os, hos, hcs, hds⟩ := id hs
  unfold Builtin.Slice.sliceApplied Builtin.Slice.sliceFields
  refine wpAny_bind (wpAny_bind (wpAny_field hos hds (x := vl) rfl (wpAny_bind (wpAny_field hos hds (x := vu) rfl (wpAny_bind (wpAny_field hos hds (x := vs) rfl (wpAny_pure ?_)))))))
  refine wpAny_bind (HT.slicePart_ ps ?_)
  show wpAny _ _ (if ((-1 : Int) == 0) = true then _ else _) _ _ s
  rw [if_neg (by decide)]
  refine wpAny_bind (HT.slicePart_ pl (wpAny_bind (HT.slicePart_ pu (wpAny_bind (wpAny_pure ?_)))))
  show wpAny _ _ (match Builtin.Slice.sliceAdjust none none (-1) (n : Int) with | (lo, hi) => pure (lo, (-1 : Int), Builtin.Slice.slicePlaces lo hi (-1))) _ _ s
  have e1 : Builtin.Slice.sliceAdjust none none (-1) (n : Int) = ((n : Int) - 1, -1) := rfl
  rw [e1]
  have e2 : Builtin.Slice.slicePlaces ((n : Int) - 1) (-1) (-1) = n := by
    unfold Builtin.Slice.slicePlaces
    have h1 : ¬ ((-1 : Int) > 0) := by omega
    have h2 : ∀ z : Int, z / (- (-1)) = z := fun z => by rw [show (- -1 : Int) = 1 by decide, Int.ediv_one]
    simp only [h1, if_false, h2]
    split <;> omega
  show wpAny _ _ (pure ((n : Int) - 1, (-1 : Int), Builtin.Slice.slicePlaces ((n : Int) - 1) (-1) (-1))) _ _ s
  rw [e2]
  exact wpAny_pure h
theorem pick_neg (xs : Array Value) : ((List.range xs.size).filterMap fun (m : Nat) => xs[((xs.size : Int) - 1 + (m : Int) * (-1)).toNat]?).toArray = xs.toList.reverse.toArray := by
  have e : ((List.range xs.size).filterMap fun (m : Nat) => xs[((xs.size : Int) - 1 + (m : Int) * (-1)).toNat]?) = (List.range xs.size).filterMap ((xs[·]?) ∘ fun k => xs.size - 1 - k) := by
    have g : ∀ (l : List Nat), (∀ m ∈ l, m < xs.size) → (l.filterMap fun (m : Nat) => xs[((xs.size : Int) - 1 + (m : Int) * (-1)).toNat]?) = l.filterMap ((xs[·]?) ∘ fun k => xs.size - 1 - k) := by
      intro l
      induction l with
      | nil => intro _; rfl
      | cons m r ih =>
        intro h
        have e : ((xs.size : Int) - 1 + (m : Int) * (-1)).toNat = xs.size - 1 - m := by have := h m (List.mem_cons_self ..); omega
        rw [List.filterMap_cons, List.filterMap_cons, ih fun k hk => h k (List.mem_cons_of_mem _ hk), e]
        rfl
    exact g _ fun m hm => List.mem_range.mp hm
  rw [e, ← List.filterMap_map, PySem.W.krv_range, List.filterMap_reverse, PySem.W.krv_all]
theorem getItem_tuple_neg {t sl : Addr} {items : Array Value} {vl vu vs : Value} {Q : Value → Shared → Prop} (ht : IsTup s.heap t items) (hs : s.heap.IsSliceOf sl vl vu vs) (pl : IsPart vl none) (pu : IsPart vu none) (ps : IsPart vs (some (-1)))
    (h : Q (.ref s.heap.objs.size) { s with heap := s.heap.push { cls := .type "tuple", data := .seq items.toList.reverse.toArray } }) (hsz : items.size ≤ sizeLine) : wpAny (model prog w) A (getItem (.ref t) (.ref sl)) Q E s := by
  have htake : sizeOk (.seq items.toList.reverse.toArray) := by
    show items.toList.reverse.toArray.size ≤ sizeLine
    rw [List.size_toArray, List.length_reverse, Array.length_toList]
    exact hsz
  obtain ⟨os, hos, hcs, hds⟩ := id hs
  have hTs : s.TypeIs (.ref sl) "slice" := ⟨os, hos, hcs⟩
  unfold getItem
  try with_reducible refine wpAny_holding ?_
  first | refine wpAny_bind (wpAny_pure ?_) | skip
  refine wpAny_bind (wpAny_sequenceKey ht.typeIs (by decide) ?_)
  refine wpAny_bind (wpAny_callSpecial?_slot (name := Str.ofString "__getitem__") ht.typeIs PyProof.Rows.slot_tuple_getitem
    (wpAny_call_entry PyProof.Rows.slot_tuple_getitem ht.typeIs entry_tuple_getitem ?_ (args_tuple_getitem _ _)))
  show wpAny _ _ (Builtin.Tuple.tupleItemsOf (.ref t) >>= _) _ _ s
  refine wpAny_bind (tupleItemsOf_ ht ?_)
  refine wpAny_bind (wpAny_typeOf hTs ?_)
  rw [if_pos (by decide)]
  refine wpAny_bind (part_neg hs pl pu ps ?_)
  show wpAny _ _ (if (((items.size : Int) - 1) == 0 && (-1 : Int) == 1 && items.size == items.size) = true then _ else _) _ _ s
  rw [if_neg (by simp), pick_neg]
  first
    | exact wpAny_bind (m := Builtin.Tuple.tupleExact _) (wpAny_newObj_type (wpAny_pure ⟨_, rfl, wpAny_pure h⟩) htake)
    | exact wpAny_bind (m := Builtin.Tuple.tupleExact _) (wpAny_newObj_type (wpAny_bind (wpAny_pure (wpAny_pure ⟨_, rfl, wpAny_pure h⟩))) htake)
    | exact wpAny_bind (wpAny_bind (m := Builtin.Tuple.tupleExact _) (wpAny_newObj_type (wpAny_pure (wpAny_pure ⟨_, rfl, wpAny_pure h⟩)) htake))
    | exact wpAny_bind (wpAny_bind (m := Builtin.Tuple.tupleExact _) (wpAny_newObj_type (wpAny_pure ⟨_, rfl, wpAny_pure h⟩) htake))
end
section
variable {X : Cx} {D : Wd}
def rRS (D : Wd) (x : V) (H : Hp) (Q : VK) : Prop := ∃ px M rho, StoOk D H rho M ∧ Rep D H rho px x ∧ PRM D H rho (revS px M) Q
theorem pe_revS (hK : X.K = D.K) {e : Expr} {te : TE} {k : Nat} {p1 p2 p3 pos : Pos} (he : PE X e te) : PE X (.Subscript e (.Slice none none (some (.UnaryOp .USub (.Constant (.int 1) k p1) p2)) p3) pos) (fun σ H Q => te σ H fun x H1 => rRS D x H1 Q) := by
  refine ⟨fun pins s σ H Q I h => ?_⟩
  refine Subscript_ (thn (he.run pins s σ H _ I h) fun v s1 ⟨x, H1, I1, r1, q1⟩ => ?_)
  have hst : PO X (some (.UnaryOp .USub (.Constant (.int 1) k p1) p2)) (tPart (tUn (rU fun i => .int (-i)) (tC (.int 1)))) := po_some (pe_un un_neg pe_int)
  refine wpAny_Slice (thn (po_none.run pins s1 σ H1 (fun o H2 => o = none ∧ H2 = H1) I1 ⟨rfl, rfl⟩) fun vl s2 ⟨l, H2, I2, pl, el, e2⟩ => ?_)
  subst el e2
  refine thn (po_none.run pins s2 σ H2 (fun o H3 => o = none ∧ H3 = H2) I2 ⟨rfl, rfl⟩) fun vu s3 ⟨u, H3, I3, pu, eu, e3⟩ => ?_
  subst eu e3
  refine thn (hst.run pins s3 σ H3 (fun o H4 => o = some (-1) ∧ H4 = H3) I3 ⟨1, rfl, -1, rfl, rfl, rfl⟩) fun vs s4 ⟨o, H4, I4, ps, eo, e4⟩ => ?_
  subst eo e4
  have I5 : Inv X pins σ H4 { s4 with heap := s4.heap.push { cls := .type "slice", data := .fields #[vl, vu, vs] } } := I4.kept (t' := s4.toks) fun b ob q => Heap.get?_push_of_some _ q
  obtain ⟨px, M, rho, st, hx, q⟩ := q1
  cases px <;> simp only [revS] at q <;> first | exact q.elim | skip
  · rename_i xs
    obtain ⟨a, vs', rfl, h1, h2⟩ := rep_tup.mp hx
    have r1 : v = Value.ref a := r1
    subst r1
    obtain ⟨its, r, ht, hz⟩ := I5.tuple (by rw [hK]; exact h1)
    show wpAny (model X.prog X.w) X.A (subscriptTail e (.Slice none none (some (.UnaryOp .USub (.Constant (.int 1) k p1) p2)) p3) (.ref a) (.ref s4.heap.objs.size)) (EP X pins σ Q) X.xe { s4 with heap := s4.heap.push { cls := .type "slice", data := .fields #[vl, vu, vs] } }
    refine tail_any (ops := [.ref a, .ref s4.heap.objs.size]) ht.typeIs (PyProof.Rows.slot_tuple_getitem.lookup) ?_ (by with_unfolding_all rfl)
    have hlen := r.length
    refine getItem_tuple_neg ht (Heap.IsSliceOf.new _ vl vu vs) pl pu ps ?_ (by rw [List.size_toArray]; omega)
    refine ⟨.ref _, _, I5.laid (t' := s4.toks) (o := .tup vs'.reverse) (fun b ob q => Heap.get?_push_of_some _ q) (Nat.le_refl _) ?_, rfl, q.tup st h2.rev _ (I5.hok.fresh (Nat.le_refl _))⟩
    exact ⟨by rw [List.length_reverse]; exact hz, _, r.reverse, _, Heap.get?_push_size _ rfl, rfl, 0, rfl⟩
  · rename_i n
    split at q
    · rename_i xs hl
      obtain ⟨a, vs', rfl, h1, h2⟩ := st.list hx hl
      have r1 : v = Value.ref a := r1
      subst r1
      obtain ⟨its, r, ht, hz⟩ := I5.list (by rw [hK]; exact h1)
      have hlen := r.length
      show wpAny (model X.prog X.w) X.A (subscriptTail e (.Slice none none (some (.UnaryOp .USub (.Constant (.int 1) k p1) p2)) p3) (.ref a) (.ref s4.heap.objs.size)) (EP X pins σ Q) X.xe { s4 with heap := s4.heap.push { cls := .type "slice", data := .fields #[vl, vu, vs] } }
      refine tail_any (ops := [.ref a, .ref s4.heap.objs.size]) ht.isList.typeIs (PySem.slot_list_getitem.lookup) ?_ (by with_unfolding_all rfl)
      refine wpAny_getItem_list_slice ht.isList (Heap.IsSliceOf.new _ vl vu vs) pl pu ps (by decide) ?_ (by rw [List.size_toArray]; omega)
      rw [PySem.W.krv_pick]
      refine ⟨.ref _, _, I5.laid (t' := s4.toks) (o := .lst vs'.reverse) (fun b ob q => Heap.get?_push_of_some _ q) (Nat.le_refl _) ?_, rfl, (q.newL st h2.rev).2 _ (I5.hok.fresh (Nat.le_refl _))⟩
      exact ⟨by rw [List.length_reverse]; exact hz, _, 0, r.reverse, Heap.get?_push_size _ rfl⟩
    · exact q.elim
/-! displays -/
/-- pairs, from the left -/
abbrev TP := L2.St → Hp → (List (V × V) → Hp → Prop) → Prop
structure PPq (X : Cx) (pos : Pos) (keys : List (Option Expr)) (values : List Expr) (t : TP) : Prop where
  run : ∀ (pins : List (Addr × Obj)) (s : Shared) (σ : L2.St) (H : Hp) (Q : List (V × V) → Hp → Prop), Inv X pins σ H s → t σ H Q →
    wpAny (model X.prog X.w) X.A (evalPairs (pairTrees keys values X.env pos)) (fun vs s' => ∃ ps H', Inv X pins σ H' s' ∧ VV ps vs ∧ Q ps H') X.xe s
def RepP (D : Wd) (H : Hp) (rho : List Addr) : List (PV × PV) → List (V × V) → Prop
  | [], vs => vs = []
  | p :: ps, vs => ∃ v w r, vs = (v, w) :: r ∧ Rep D H rho p.1 v ∧ Rep D H rho p.2 w ∧ RepP D H rho ps r
theorem RepP.ext {H H' : Hp} {rho rho' : List Addr} (e : Ext H rho H' rho') : ∀ {ps : List (PV × PV)} {vs : List (V × V)}, RepP D H rho ps vs → RepP D H' rho' ps vs
  | [], _, h => h
  | p :: ps, _, h => by
    obtain ⟨v, w, r, e1, h1, h2, h3⟩ := h
    exact ⟨v, w, r, e1, h1.ext e, h2.ext e, h3.ext e⟩
theorem pairs_len {pairs : List (Value × Value)} {ps : List (V × V)} (h : VV ps pairs) : ps.length = pairs.length := by
  induction h with
  | nil => rfl
  | cons _ _ ih => rw [List.length_cons, List.length_cons, ih]
/-- the pairs are put in -/
theorem put_all (hK : X.K = D.K) (hw : X.w = D.w) (hu : X.A.units + 64 < cLine) {E : Value → Shared → Prop} {pins : List (Addr × Obj)} {σ : L2.St} {n : Nat} {a : Addr} : ∀ (ps : List (PV × PV)) (vs : List (V × V)) (us : List (Value × Value)) (s : Shared) (H : Hp) (rho : List Addr) (M M' : Sto) (Q : PUnit → Shared → Prop),
    Inv X pins σ H s → StoOk D H rho M → rho[n]? = some a → RepP D H rho ps vs → VV vs us → putsD n ps M = some M' → (∀ H' s', Inv X pins σ H' s' → Ext H rho H' rho → StoOk D H' rho M' → Q PUnit.unit s') →
    wpAny (model X.prog X.w) X.A (forIn us PUnit.unit fun (x : Value × Value) (_ : PUnit) => (do dictSet a x.1 x.2; pure (ForInStep.yield PUnit.unit) : Sem (ForInStep PUnit))) Q E s
  | [], vs, us, s, H, rho, M, M', Q, I, st, ea, rp, rv, h, q => by
    have rp : vs = [] := rp
    subst rp
    cases rv
    cases h
    rw [List.forIn_nil]
    exact wpAny_pure (q H s I Ext.refl st)
  | (x, y) :: ps, vs, us, s, H, rho, M, M', Q, I, st, ea, rp, rv, h, q => by
    obtain ⟨v, w, r, rfl, h1, h2, h3⟩ := rp
    cases rv with
    | @cons _ u _ us' ruv rest =>
      obtain ⟨u1, u2⟩ := u
      rw [putsD] at h
      split at h
      · rename_i kvs hm
        split at h
        · rename_i ks hk
          rw [List.forIn_cons]
          refine wpAny_bind (wpAny_bind (dct_put hK hw I (put_dict hu) st hm ea h1 ruv.1 h2 ruv.2 hk fun H1 s1 I1 e1 st1 => wpAny_pure ?_))
          exact put_all hK hw hu ps r us' s1 H1 rho _ M' Q I1 st1 ea (h3.ext e1) rest h fun H2 s2 I2 e2 st2 => q H2 s2 I2 (e1.trans e2) st2
        · cases h
      · cases h
/-- {} -/
def tEmptyQ (D : Wd) : TE := fun _ H Q => ∀ p, H p = none → (p == sysModules) = false → Q (.ref p) (upd H p (dnO D.w p []))
theorem pe_emptyQ (hw : X.w = D.w) {pos : Pos} : PE X (.Dict [] [] pos) (tEmptyQ D) := ⟨fun pins s σ H Q I h => by
  have I1 := I.laid (a := s.heap.objs.size) (o := dnO X.w s.heap.objs.size []) (t' := s.toks) (fun _ _ q => Heap.get?_push_of_some _ q) (Nat.le_refl _) (dn_ok (de_new s.heap))
  rw [hw] at I1
  exact wpAny_Dict_empty ⟨.ref s.heap.objs.size, _, I1, rfl, h _ (I.hok.fresh (Nat.le_refl _)) (sys_new I.big)⟩⟩
/-- {k: v, ..} -/
def tDispQ (D : Wd) (t : TP) : TE := fun σ H Q => ∀ p, H p = none → (p == sysModules) = false → t σ (upd H p (dnO D.w p [])) fun vs H2 => ∃ ps M rho n M', StoOk D H2 rho M ∧ RepP D H2 rho ps vs ∧ rho[n]? = some p ∧ putsD n ps M = some M' ∧ ∀ H' rho', Ext H2 rho H' rho' → StoOk D H' rho' M' → Q (.ref p) H'
theorem pe_dispQ (hK : X.K = D.K) (hw : X.w = D.w) (hu : X.A.units + 64 < cLine) {pos : Pos} {keys : List (Option Expr)} {values : List Expr} {t : TP} (h : PPq X pos keys values t) (hall : keys.all (·.isSome) = true) (hl : keys.length = values.length) (h0 : keys ≠ [])
    (h15 : keys.length ≤ 15) : PE X (.Dict keys values pos) (tDispQ D t) := by
  refine ⟨fun pins s σ H Q I q => ?_⟩
  have hn := I.hok.fresh (Nat.le_refl s.heap.objs.size)
  have I1 := I.laid (a := s.heap.objs.size) (o := dnO X.w s.heap.objs.size []) (h' := s.heap.push { cls := .type "dict", data := .dict #[] }) (t' := s.toks) (fun _ _ q => Heap.get?_push_of_some _ q) (Nat.le_refl _) (dn_ok (de_new s.heap))
  rw [hw] at I1
  have hlen := pairTrees_length keys values X.env pos hall hl
  rw [arm_eval_Dict, zip_pairTrees keys values X.env pos hall hl, dictDisplay_pairs _ (fun he => h0 (by rw [he] at hlen; exact List.length_eq_zero_iff.mp hlen.symm)) (by rw [hlen]; omega)]
  refine wpAny_bind (wpAny_standAt (wpAny_bind ?_))
  unfold subDict
  refine wpAny_bind (wpAny_alloc ?_)
  refine wpAny_bind (wpAny_holding ?_)
  rw [if_pos (by rw [hlen]; exact h15)]
  refine wpAny_bind (wpAny_mono (h.run pins _ σ _ _ I1 (q _ hn (sys_new I.big))) (fun us s1 ⟨vs, H2, I2, rel, q2⟩ => ?_) fun _ _ e => e)
  obtain ⟨ps, M, rho, n, M', st, rp, ea, hp, q3⟩ := q2
  refine wpAny_holding ?_
  exact wpAny_bind (put_all hK hw hu ps vs us s1 H2 rho M M' _ I2 st ea rp rel hp fun H' s' I' e' st' => wpAny_pure (wpAny_pure (wpAny_pure ⟨.ref s.heap.objs.size, H', I', rfl, q3 H' rho e' st'⟩)))
end
end SW

/-! Exceptions of two kinds: of no context; of any, marked. Classes with an own __init__(self, at). -/
namespace SW
open PySem PySem.Spec PyProof.Rows L2

def coldW (W : WX) : WX := fun cls d s H => ∃ C, cls = .ref C ∧ W (.ref C) d s H
def hotW (W : WX) : WX := fun cls d s H => ∃ C, cls = .ref C ∧ W (tagC C) d s H
/-- what a def lets out: without a context; or, marked, with any -/
structure TakesM (X : Cx) (W : WX) : Prop where
  n : L2N.Takes X (coldW W)
  s : L2.Takes X (hotW W)
def CXM (P : Program) (w : World) : CXT := fun outer H s E u s' =>
  L2N.CX P w outer H s (fun cls d H => ∃ C, cls = .ref C ∧ E (.ref C) d H) u s' ∨ L2.CX P w outer H s (fun cls d H => ∃ C, cls = .ref C ∧ E (tagC C) d H) u s'
section
variable {X : Cx} {W : WX}
theorem passM (tk : TakesM X W) (s : L2.St) : PassesAt (CXM X.prog X.w) X s (WE W s) := fun pins H sh e s' I c => by
  rcases c with c | c
  · exact tk.n e s' (L2N.XE.of_call I (fun _ _ _ h => h) c)
  · exact tk.s e s' (L2.XE.of_call I (fun _ _ _ h => h) c)
theorem takesM0 : TakesM X (fun _ _ _ _ => False) :=
  ⟨fun u s' ⟨_, _, _, _, _, _, _, _, _, _, _, _, _, _, _, _, w⟩ => by obtain ⟨_, _, w⟩ := w; exact w.elim, fun u s' ⟨_, _, _, _, _, _, _, _, _, _, _, _, _, _, _, _, w⟩ => by obtain ⟨_, _, w⟩ := w; exact w.elim⟩
theorem takes0 : L2.Takes X (fun _ _ _ _ => False) := fun u s' ⟨_, _, _, _, _, _, _, _, _, _, _, _, _, _, _, _, w⟩ => w.elim
theorem sky_imp {B : Heap} {l : List Env} {a L : Addr} {Z Z' : Obj → Prop} {h : Heap} (z : ∀ o, Z o → Z' o) (x : Sky B l a Z L h) : Sky B l a Z' L h := by
  rcases x with ⟨x1, x2, x3, oe, vs, x4, x5, x6⟩ | x | x
  · exact .inl ⟨x1, x2, x3, oe, vs, x4, z _ x5, x6⟩
  · exact .inr (.inl ⟨x.1, x.2.1, x.2.2.1, L2H.tracedZ_imp z x.2.2.2⟩)
  · exact .inr (.inr ⟨x.1, x.2.1, x.2.2.1, L2H.tracedZ_imp z x.2.2.2⟩)
/-- caught whatever its context is -/
def mixW (W : WX) : WX := fun cls d s H => ∃ C, (cls = .ref C ∨ cls = tagC C) ∧ W (.ref C) d s H
theorem TakesM.mix (tk : L2.Takes X W) : TakesM X (mixW W) := by
  refine ⟨fun u s' ⟨a, B, sI, pins, s, H, cls, d, e1, I, nb, up, sky, na, os, ag, w⟩ => tk u s' ⟨a, B, sI, pins, s, H, cls, d, e1, I, nb, up, sky_imp (fun _ z => z.zc) sky, na, os, ag, ?_⟩, tk.imp fun cls d s H w => ?_⟩
  · obtain ⟨C, rfl, C', e | e, w⟩ := w
    · cases e; exact w
    · exact absurd e tagC_ne
  · obtain ⟨C, rfl, C', e | e, w⟩ := w
    · exact absurd e.symm tagC_ne
    · cases tagC_inj e; exact w
/-- such without a context alone -/
theorem TakesM.cold (tk : L2N.Takes X W) : TakesM X (coldW W) := by
  refine ⟨tk.imp fun cls d s H w => ?_, fun u s' ⟨_, _, _, _, _, _, _, _, _, _, _, _, _, _, _, _, w⟩ => ?_⟩
  · obtain ⟨C, rfl, C', e, w⟩ := w
    cases e; exact w
  · obtain ⟨C, _, C', e, _⟩ := w
    exact absurd e.symm tagC_ne
theorem takesM_of {E : XK} (hs : X.stack = X.env :: X.outer) (hf : X.env.frame = some X.env.locals) (hex : X.ex = []) {E₁ : Value → Shared → Prop}
    (hx : X.xe = fun e s' => wpAny (model X.prog X.w) X.A (leaving X.env e) (fun _ s'' => CXM X.prog X.w X.outer X.H_0 X.s_0 E e s'') E₁ s') : TakesM X (fun cls d _ H => E cls d H) := by
  refine ⟨fun u s' x => ?_, fun u s' x => ?_⟩
  · rw [hx]
    exact wpAny_mono (L2N.XE.leave (W := coldW fun cls d _ H => E cls d H) (E := fun cls d H => ∃ C, cls = .ref C ∧ E (.ref C) d H) hs hf hex (fun _ _ _ _ h => h) x) (fun _ _ z => Or.inl z) fun _ _ z => z
  · rw [hx]
    exact wpAny_mono (L2.XE.leave (W := hotW fun cls d _ H => E cls d H) (E := fun cls d H => ∃ C, cls = .ref C ∧ E (tagC C) d H) hs hf hex (fun _ _ _ _ h => h) x) (fun _ _ z => Or.inr z) fun _ _ z => z
end
/-! ### an own __init__(self, at): Base.__init__(self, "m"); self.at = at -/
def initSp (K : PySem.W.Frag) : Sp := fun vs H Q _ => ∃ (a C : Addr) (y : V), vs = [.ref a, y] ∧ OexC K C ∧ PySem.W.findIn K (.ref C) "at" = some none ∧ H a = some (exo a C none) ∧
  ∀ dx, H dx = none → dx ≠ a → Q .non (upd (upd H dx (exd dx [("at", y)])) a (exo a C (some dx)))
structure OwnI (P : Program) (w : World) (K : PySem.W.Frag) (mg : Str → Option Value) (base : Heap) (C : Addr) : Prop where
  T : OexC K C
  no : PySem.W.findIn K (.ref C) "at" = some none
  ex : ∃ (fI : Addr) (fd : FuncData), PySem.W.findIn K (.ref C) "__init__" = some (some (.ref fI)) ∧ PySem.W.typeIn K (.ref fI) = some (.type "function") ∧ Binds K fd ["self", "at"] [] ∧
    (∀ CX, FnOk P w K mg base CX 1 fI fd ["self", "at"] (initSp K)) ∧ ∀ CX, L2H.FnH P w K mg base CX 1 fI fd ["self", "at"] (initSp K)
/-- what is known of the base class -/
structure BaseI (K : PySem.W.Frag) (mg : Str → Option Value) (x : Str) (C : Addr) : Prop where
  at_ : mg x = some (.ref C)
  ga : PySem.W.specialIn K (.ref C) "__getattribute__" = some (some (.builtin "type.__getattribute__"))
  rd : PySem.W.readsIn K C (.type "type") = true
  ty : PySem.W.typeIn K (.ref C) = some (.type "type")
  vI : PySem.W.findCls K (.ref C) (.type "type") "__init__" = some (.val (.builtin "ValueError.__init__"))
section
variable {X : Cx} {e : Expr} {es : List Expr} {ta : TA} {p1 p2 pos : Pos} {x : Str} {C0 : Addr}
theorem pe_cinit {pl : Sem Bool} (hg : Gl X x) (B : BaseI X.K X.mg x C0) (hdb : (x == ("__debug__" : Str)) = false) (ha : PA X (e :: es) ta)
    (hc : eval (.Call (.Attribute (.Name x p1) "__init__" p2) (e :: es) [] pos) X.env = (do
      let ov ← eval (.Name x p1) X.env
      standAt p2.atName
      let (f, first) ← holding [ov] (getMethod ov "__init__" pl)
      callWith pos f first (backTo pos (starEach (e :: es) X.env)) (backToKw pos (keywordEach [] X.env))) := by rfl)
    (he : starEach (e :: es) X.env = (false, eval e X.env) :: starEach es X.env := by rfl) (hpl : (backTo pos (starEach es X.env)).any (·.1) = false := by rfl) :
    PE X (.Call (.Attribute (.Name x p1) "__init__" p2) (e :: es) [] pos) (tVeI X.K ta) := by
  refine ⟨fun pins s t H Q I h => ?_⟩
  refine PySem.W.methodCall_KW (ld_glob I hg B.at_ ?_ hdb) hc
  obtain ⟨m, fr⟩ := I.fr
  refine PySem.W.method_of_cls fr I.ok.mod.kin B.ga (PySem.W.cls_val fr I.ok.mod.kin B.ty B.rd B.vI (by decide +kernel) ?_)
  show wpAny _ _ (callWith pos (Value.builtin "ValueError.__init__") [] (backTo pos (starEach (e :: es) X.env)) []) _ _ _
  refine PyProof.Rows.callWith_method1 (thn (ha.run pos pins _ t H _ (I.tok _) h) fun us s1 ⟨vs, H1, I1, r1, a, C, ws, ev, hl, T, ea, q⟩ => ?_) he hpl
  subst ev
  cases r1 with
  | @cons _ u0 _ ur ra rw' =>
    obtain rfl : u0 = Value.ref a := ra
    have hlen : ur.length ≤ sizeLine := by
      rw [← Paired.length rw', sizeLine_eq]
      omega
    exact oinit_ok T I1 ea hlen fun s' J => ⟨.non, H1, J, rfl, q⟩
end
/-- the body of such a method -/
structure InitP where
  m : Str
  j : Nat
  p1 : Pos
  p2 : Pos
  p3 : Pos
  p4 : Pos
  p5 : Pos
  p6 : Pos
  p7 : Pos
  p8 : Pos
  p9 : Pos
  p10 : Pos
def InitP.body (b : InitP) : List Stmt := [.Expr (.Call (.Attribute (.Name "SummitError" b.p1) "__init__" b.p2) [.Name "self" b.p3, .Constant (.str b.m) b.j b.p4] [] b.p5) b.p6,
  .Assign [.Attribute (.Name "self" b.p7) "at" b.p8] (.Name "at" b.p9) b.p10]
/-- its first call is a plain one (its places tell) -/
def InitP.ev (b : InitP) : Prop := ∀ env : Env, eval (.Call (.Attribute (.Name "SummitError" b.p1) "__init__" b.p2) [.Name "self" b.p3, .Constant (.str b.m) b.j b.p4] [] b.p5) env = (do
      let ov ← eval (.Name "SummitError" b.p1) env
      standAt b.p2.atName
      let (f, first) ← holding [ov] (getMethod ov "__init__" (do return (← importBound (.Name "SummitError" b.p1) env).getD true))
      callWith b.p5 f first (backTo b.p5 (starEach [.Name "self" b.p3, .Constant (.str b.m) b.j b.p4] env)) (backToKw b.p5 (keywordEach [] env)))
def initN : List Str := ["self", "at"]
structure InitSc (sc : Scope) : Prop where
  fs : FnScope initN initN sc
  gl : sc.names.lookup ("SummitError" : Str) = some .globalImplicit
  s1 : sc.names.lookup ("self" : Str) = some .local
  s2 : sc.names.lookup ("at" : Str) = some .local
/-- the body's run, wherever it is -/
theorem init_run {X : Cx} {b : InitP} {sc : Scope} {C0 : Addr} (ev : b.ev) (S : InitSc sc) (hsc : X.env.scope = sc) (hk : ∀ y, X.env.kindOf y = sc.names.lookup y) (hN : X.N = initN) (B : BaseI X.K X.mg "SummitError" C0) :
    PSs X b.body (tSeq (tDrop (tVeI X.K (tCons (tVar 0) (tCons (tC (.str b.m)) tNil)))) (tOst X.K "at" (tVar 0) (tVar 1))) := by
  have v0 : Vis X.env.scope "self" := by rw [hsc]; exact .inl S.s1
  have v1 : Vis X.env.scope "at" := by rw [hsc]; exact .inl S.s2
  have n0 : X.N[0]? = some ("self" : Str) := by rw [hN]; rfl
  have n1 : X.N[1]? = some ("at" : Str) := by rw [hN]; rfl
  exact pss_cons (ps_expr (pe_cinit (pl := (do return (← importBound (.Name "SummitError" b.p1) X.env).getD true)) (by unfold Gl; rw [hk]; exact S.gl) B (by decide) (pa_cons (pe_var n0 v0) (pa_cons pe_str pa_nil)) (ev X.env))) (pss_one (ps_ost (pe_var n0 v0) (pe_var n1 v1)))
theorem init_len (K : PySem.W.Frag) : ∀ vs H Q E, initSp K vs H Q E → vs.length = initN.length := fun vs H Q E ⟨_, _, _, e, _⟩ => by rw [e]; rfl
theorem init_goal {X : Cx} {b : InitP} {vs : List V} {H : Hp} {Q : VK} {E : XK} (h : initSp X.K vs H Q E) : tSeq (tDrop (tVeI X.K (tCons (tVar 0) (tCons (tC (.str b.m)) tNil)))) (tOst X.K "at" (tVar 0) (tVar 1)) { nx := fun _ H' => Q .non H', rt := Q } (L2.start initN vs) H := by
  obtain ⟨a, C, y, rfl, T, no, ha, q⟩ := h
  refine ⟨.ref a, rfl, ⟨a, C, [.str b.m], rfl, by simp, T, ha, ?_⟩⟩
  exact ⟨y, rfl, .ref a, rfl, a, C, rfl, T, no, .inl ⟨ha, q⟩⟩
theorem own_ok {P : Program} {w : World} {K : PySem.W.Frag} {mg : Str → Option Value} {base : Heap} {b : InitP} {sc : Scope} {x qual : Str} {params : Arguments} {bd : List Stmt} {kws : List (Str × V)} {fI C C0 : Addr} {fd : FuncData}
    (F : FunD K x qual params bd sc [] kws fI fd) (hb : bd = b.body) (ev : b.ev) (S : InitSc sc) (bind : Binds K fd initN []) (B : BaseI K mg "SummitError" C0) (T : OexC K C) (no : PySem.W.findIn K (.ref C) "at" = some none)
    (iC : PySem.W.findIn K (.ref C) "__init__" = some (some (.ref fI))) (tI : PySem.W.typeIn K (.ref fI) = some (.type "function")) : OwnI P w K mg base C := by
  refine ⟨T, no, fI, fd, iC, tI, bind, fun CX => ?_, fun CX => ?_⟩
  · refine F.ok S.fs (init_len K) fun cdv A outer s H vs Q E hr sp => ⟨_, ?_, init_goal (X := cxOf CX P w K mg base initN qual sc fI cdv A outer s H E) (b := b) sp⟩
    rw [hb]
    exact init_run ev S rfl (fun y => rfl) rfl B
  · obtain ⟨oc, od, dV, kV, doc, pm, an, cdv, ct, osl, rfl, lk, hcd, _, _⟩ := F.ex
    refine L2H.fn_ofH lk hcd S.fs (init_len K) fun A outer s H vs Q E p hot hr sp => ⟨_, ?_, init_goal (X := L2H.cxH CX P w K mg base initN qual sc fI cdv A outer s H E p) (b := b) sp⟩
    rw [hb]
    exact init_run ev S rfl (fun y => rfl) rfl B
end SW

/-! list(reversed(a list)) -/
namespace SW
open PySem PySem.Spec PyProof.Rows L2 RT
section
variable {prog : Program} {w : World} {A : Around} {E : Value → Shared → Prop} {s : Shared}
theorem extend_back {R : Result → Shared → Prop} {it l S : Addr} {xs : Array Value} {c0 : Nat} (res : Value) (hh : A.handled = none) (hI : s.heap.IsRevIter it l ((xs.size : Int) - 1)) (hL : s.heap.IsList l xs) (ne : l ≠ it) (hz : xs.size ≤ sizeLine)
    (hS : s.heap.get? S = some { cls := .type "list", data := .seq #[] c0 }) (n1 : S ≠ it) (n2 : S ≠ l)
    (k : ∀ (h' : Heap) (tk : Nat) (acc : Array Value) (c' : Nat), (∀ b o, b ≠ S → b ≠ it → s.heap.get? b = some o → h'.get? b = some o) → h'.get? S = some { cls := .type "list", dict := none, data := .seq acc c', slots := #[] } →
      ItemsOf (fun i v => xs[xs.size - 1 - i]? = some v) acc xs.size → R (.ok (.ret res)) { s with heap := h', toks := tk }) :
    wpAny (model prog w) A.in1 (Builtin.List.listExtendWith (.ref S) (.ref it) res)
      (fun fin s' => match fin with | .done f => R (.ok f) s' | .again c' => c'.quiet = true ∧ codeAny (model prog w) A c' R s') (fun e s' => R (.error e) s') s := by
  have W := (Walks.listRev (prog := prog) (w := w) (A := A.in1) hh it l ne xs).toS
  have out : S ∉ [it, l] := by simp [n1, n2]
  have ty : s.TypeIs (.ref it) "list_reverseiterator" := hI.typeIs
  have same : Builtin.List.listSameRef (.ref S) (.ref it) = false := by simp [Builtin.List.listSameRef, n1]
  unfold Builtin.List.listExtendWith; refine wpAny_bind (wpAny_typeOf ty ?_)
  rw [if_neg (by rw [same]; decide)]
  refine wpAny_bind (wpAny_pyIter_revIter hI (wpAny_bind (wpAny_holding ?_)))
  unfold Builtin.List.listLengthHint; refine wpAny_bind (wpAny_specialOf ty nolen_lri ?_)
  show wpAny _ A.in1 (specialOf (Value.ref it) (Str.ofString "__length_hint__") >>= _) _ _ s
  refine wpAny_bind (wpAny_specialOf ty hint_lri ?_)
  generalize hid : ("list_reverseiterator.__length_hint__" : String) = nm; wp_delta
  rw [show splitId nm = some ("list_reverseiterator", "__length_hint__") from by rw [← hid]; decide +kernel]
  subst hid
  refine wpAny_bind (wpAny_isInstance (b := true) ty (by rw [isSubtype_type]; kernel_rfl) (wpAny_pure ?_))
  rw [if_neg (by decide)]
  have z0 : ((xs.size : Nat) : Int) - 1 - ((0 : Nat) : Int) = (xs.size : Int) - 1 := by omega
  refine wpAny_pure ⟨plainId_quiet F.plain_extend_loop _, codeAny_extend_loopS W hz S out res xs.size 0 _ #[] c0 rfl (Nat.zero_le _) ⟨Nat.zero_le _, by rw [z0]; exact hI, hL⟩ hS (ItemsOf.nil _) fun s2 acc c2 mv hS2 hacc => ?_⟩
  rw [Moved.eq_with mv]
  refine k s2.heap s2.toks acc c2 (fun b o b1 b2 e => mv.heap b o (fun z => ?_) e) hS2 hacc
  simp only [List.mem_cons, List.not_mem_nil, or_false] at z
  rcases z with z | z
  · exact b1 z
  · exact b2 z
theorem init_back {R : Result → Shared → Prop} {it l S : Addr} {xs : Array Value} (hh : A.handled = none) (hI : s.heap.IsRevIter it l ((xs.size : Int) - 1)) (hL : s.heap.IsList l xs) (ne : l ≠ it) (hz : xs.size ≤ sizeLine)
    (hS : s.heap.get? S = some { cls := .type "list", data := .seq #[] }) (n1 : S ≠ it) (n2 : S ≠ l)
    (k : ∀ (h' : Heap) (tk : Nat) (acc : Array Value) (c' : Nat), (∀ b o, b ≠ S → b ≠ it → s.heap.get? b = some o → h'.get? b = some o) → h'.get? S = some { cls := .type "list", dict := none, data := .seq acc c', slots := #[] } →
      ItemsOf (fun i v => xs[xs.size - 1 - i]? = some v) acc xs.size → R (.ok (.ret .none)) { s with heap := h', toks := tk }) :
    wpAny (model prog w) A.in1 (Builtin.«list.__init__» ⟨[.ref S, .ref it], []⟩)
      (fun fin s' => match fin with | .done f => R (.ok f) s' | .again c' => c'.quiet = true ∧ codeAny (model prog w) A c' R s') (fun e s' => R (.error e) s') s := by
  show wpAny _ A.in1 (do let old ← Builtin.List.listItems (.ref S); Builtin.List.listUpdate (.ref S) (fun _ => #[]); letGo old.toList.reverse; Builtin.List.listExtendWith (.ref S) (.ref it) .none) _ _ s
  refine wpAny_bind (show wpAny _ _ (Builtin.List.listItems (.ref S)) _ _ _ from ?_); unfold Builtin.List.listItems
  refine wpAny_bind (wpAny_seqItems hS rfl (wpAny_pure ?_))
  show wpAny _ A.in1 (updateSeq S (fun _ => #[]) >>= fun _ => letGo (#[] : Array Value).toList.reverse >>= fun _ => Builtin.List.listExtendWith (.ref S) (.ref it) .none) _ _ s
  refine wpAny_bind (wpAny_updateSeq hS rfl (wpAny_bind (wpAny_letGo ?_)))
  have hS2 := Heap.get?_update_self (Obj.mapSeq (fun _ => (#[] : Array Value))) hS rfl
  have rest : ∀ b o, b ≠ S → s.heap.get? b = some o → (s.heap.update S (Obj.mapSeq (fun _ => (#[] : Array Value)))).get? b = some o := fun b o hb e => (Heap.get?_update_other _ _ (Ne.symm hb)).trans e
  obtain ⟨oi, i1, i2, i3⟩ := id hI
  obtain ⟨ol, l1, l2⟩ := id hL
  exact extend_back .none hh ⟨oi, rest it _ (Ne.symm n1) i1, i2, i3⟩ ⟨ol, rest l _ (Ne.symm n2) l1, l2⟩ ne hz hS2 n1 n2 fun h' tk acc c' kp hS' hacc => k h' tk acc c' (fun b o b1 b2 e => kp b o b1 b2 (rest b o b1 e)) hS' hacc
theorem call_list_back {Q : Value → Shared → Prop} {it l : Addr} {xs : Array Value} (hh : A.handled = none) (hI : s.heap.IsRevIter it l ((xs.size : Int) - 1)) (hL : s.heap.IsList l xs) (ne : l ≠ it) (hz : xs.size ≤ sizeLine)
    (k : ∀ (h' : Heap) (tk : Nat) (acc : Array Value) (c' : Nat), (∀ b o, b ≠ it → s.heap.get? b = some o → h'.get? b = some o) → h'.get? s.heap.objs.size = some { cls := .type "list", dict := none, data := .seq acc c', slots := #[] } →
      ItemsOf (fun i v => xs[xs.size - 1 - i]? = some v) acc xs.size → Q (.ref s.heap.objs.size) { s with heap := h', toks := tk }) : wpAny (model prog w) A (call (.type "list") [.ref it]) Q E s := by
  refine callType_codes (Q₁ := fun o s1 => o = .ref s.heap.objs.size ∧ s1 = { s with heap := s.heap.push { cls := .type "list", data := .seq #[] } }) F.called_list (F.typeCall_list_1 _) F.entry_list_init (code_list_new _ ⟨rfl, rfl⟩) fun o s1 z => ?_
  obtain ⟨rfl, rfl⟩ := z
  have hS : (s.heap.push { cls := .type "list", data := .seq #[] }).get? s.heap.objs.size = some { cls := .type "list", data := .seq #[] } := Heap.get?_push_size _ rfl
  obtain ⟨oi, i1, i2, i3⟩ := id hI
  obtain ⟨ol, l1, l2⟩ := id hL
  have a1 := Heap.lt_size i1
  have a2 := Heap.lt_size l1
  refine ⟨⟨_, hS, rfl⟩, F.args_list_init_2 _ _, init_back (A := A.in1) hh ⟨oi, Heap.get?_push_of_some _ i1, i2, i3⟩ ⟨ol, Heap.get?_push_of_some _ l1, l2⟩ ne hz hS (Ne.symm (Nat.ne_of_lt a1)) (Ne.symm (Nat.ne_of_lt a2)) fun h' tk acc c' kp hS' hacc => ⟨rfl, ?_⟩⟩
  exact k h' tk acc c' (fun b o b1 e => kp b o (Nat.ne_of_lt (Heap.lt_size e)) b1 (Heap.get?_push_of_some _ e)) hS' hacc
end
section
variable {X : Cx}
def tLstRev (K : PySem.W.Frag) (te : TE) : TE := fun σ H Q => te σ H fun v H1 => ∃ (a : Addr) (xs : List V), v = .ref a ∧ SqL K H1 a xs ∧ ∀ q, H1 q = none → Q (.ref q) (upd H1 q (.lst xs.reverse))
theorem pe_listRev {e : Expr} {te : TE} {p p2 pos pos2 : Pos} (hc : X.calm = true) (g1 : Gl X "list") (m1 : X.mg "list" = none) (g2 : Gl X "reversed") (m2 : X.mg "reversed" = none) (he : PE X e te)
    (n1 : starEach [e] X.env = (false, eval e X.env) :: starEach [] X.env := by rfl) (n2 : starEach [.Call (.Name "reversed" p2) [e] [] pos2] X.env = (false, eval (.Call (.Name "reversed" p2) [e] [] pos2) X.env) :: starEach [] X.env := by rfl) :
    PE X (.Call (.Name "list" p) [.Call (.Name "reversed" p2) [e] [] pos2] [] pos) (tLstRev X.K te) := by
  refine ⟨fun pins s σ H Q I h => Call_ (ld_blt I g1 m1 boot_list (PyProof.Rows.callWith_type1 (args_cons (Call_ (ld_blt I g2 m2 PyProof.Rows.boot_reversed (PyProof.Rows.callWith_type1 (args_cons (thn (he.run pins s σ H _ I h) fun u s1 ⟨v, H1, I1, r1, a, xs, ev, hq, q⟩ => args_nil ?_) n1) n1 rfl))) n2) n2 rfl))⟩
  subst ev; cases (show u = Value.ref a from r1)
  obtain ⟨its, rv, tr, hz⟩ := I1.list hq
  have isl := tr.isList
  refine call_reversed_list isl (args_nil ?_)
  have keep : ∀ (o : Obj) b u, s1.heap.get? b = some u → (s1.heap.push o).get? b = some u := fun o b u e => Heap.get?_push_of_some _ e
  have I2 : Inv X pins σ H1 { s1 with heap := s1.heap.push (revObj a ((its.toArray.size : Int) - 1)) } := I1.kept (t' := s1.toks) (keep _)
  obtain ⟨f0, f1, f2, f3, f4, f5⟩ := I1.fpOk (H' := H1) (b := s1.heap.objs.size) (Nat.le_refl _) (I1.hok.fresh (Nat.le_refl _))
  obtain ⟨ol, hol, _⟩ := id isl
  have sm : its.toArray.size ≤ sizeLine := by rw [List.size_toArray, ← rv.length]; exact hz
  have sz : (s1.heap.push (revObj a ((its.toArray.size : Int) - 1))).objs.size = s1.heap.objs.size + 1 := by simp [Heap.push]
  refine call_list_back (s := { s1 with heap := s1.heap.push (revObj a ((its.toArray.size : Int) - 1)) }) (I1.ok.hd hc) ⟨_, Heap.get?_push_size _ rfl, rfl, rfl⟩ (isl.push _) (Nat.ne_of_lt (Heap.lt_size hol)) sm fun h' tk acc c' hk hS hi => ?_
  generalize hh1 : s1.heap.push (revObj a ((its.toArray.size : Int) - 1)) = h1 at *
  have I3 : Inv X pins σ (upd H1 h1.objs.size (.lst xs.reverse)) { s1 with heap := h1.push { cls := .type "list", dict := none, data := .seq acc c', slots := #[] } } :=
    I2.laid (t' := s1.toks) (fun b u e => Heap.get?_push_of_some _ e) (Nat.le_refl _) (show ObjOk X.prog X.w _ _ _ (.lst xs.reverse) from ⟨by rw [List.length_reverse]; exact hz, acc.toList, c', vals_rev rv hi, by rw [Array.toArray_toList]; exact Heap.get?_push_size _ rfl⟩)
  have ne : s1.heap.objs.size ≠ h1.objs.size := by omega
  have kk : ∀ b o, b ≠ s1.heap.objs.size → (h1.push { cls := .type "list", dict := none, data := .seq acc c', slots := #[] }).get? b = some o → h'.get? b = some o := fun b o hb e => by
    rcases Heap.get?_push_cases e with ⟨rfl, rfl⟩ | e
    · exact hS
    · exact hk b o hb e
  have I4 := Inv.turned (s := { s1 with heap := h1.push { cls := .type "list", dict := none, data := .seq acc c', slots := #[] } }) (h' := h') (t' := tk) (it := s1.heap.objs.size) I3 kk (by unfold upd; rw [if_neg ne]; exact f0) f1 f3 f4 f5
  exact ⟨.ref h1.objs.size, _, I4, rfl, q _ (I2.hok.fresh (Nat.le_refl _))⟩
end
end SW

/-! len(set(a list of whole numbers or texts)) -/
namespace SW
open PySem PySem.Spec PyProof.Rows L2
def kIn (a : List Key) (k : Key) : Bool := a.any fun x => decide (x = k)
def kAdd (a : List Key) (k : Key) : List Key := if kIn a k = true then a else a ++ [k]
def kSet (val : Nat → Key) (i : Nat) : List Key := ((List.range i).map val).foldl kAdd []
theorem kSet_next (val : Nat → Key) (i : Nat) : kSet val (i + 1) = kAdd (kSet val i) (val i) := by
  unfold kSet
  rw [List.range_succ, List.map_append, List.foldl_append]; rfl
theorem kSet_le (val : Nat → Key) (i : Nat) : (kSet val i).length ≤ i := by
  induction i with
  | zero => exact Nat.le_refl _
  | succ i ih =>
    rw [kSet_next]
    unfold kAdd
    split
    · omega
    · rw [List.length_append, List.length_singleton]; omega
theorem kIn_iff {a : List Key} {k : Key} : kIn a k = true ↔ k ∈ a := by
  unfold kIn
  rw [List.any_eq_true]
  constructor
  · rintro ⟨x, hx, e⟩
    rw [← of_decide_eq_true e]
    exact hx
  · exact fun h => ⟨k, h, decide_eq_true rfl⟩
theorem kAdd_mem (a : List Key) (v k : Key) : kIn (kAdd a v) k = (kIn a k || decide (k = v)) := by
  unfold kAdd
  by_cases h : kIn a v = true
  · rw [if_pos h]
    by_cases e : k = v
    · subst e; rw [h, Bool.true_or]
    · rw [decide_eq_false e, Bool.or_false]
  · rw [if_neg h]
    unfold kIn
    rw [List.any_append]
    congr 1
    show (decide (v = k) || false) = decide (k = v)
    rw [Bool.or_false]
    by_cases e : k = v
    · subst e; rfl
    · rw [decide_eq_false e, decide_eq_false fun z => e z.symm]
theorem kAdd_len (a : List Key) (v : Key) : (kAdd a v).length = if kIn a v = true then a.length else a.length + 1 := by
  unfold kAdd
  split <;> simp
theorem setOf_same {prog : Program} {w : World} {h : Heap} {a : Addr} {S S' : Key → Bool} {n n' : Nat} (hS : h.SetOf (mixKind prog w) a S n) (e : ∀ k, S k = S' k) (en : n = n') : h.SetOf (mixKind prog w) a S' n' := by
  have : S = S' := funext e
  subst this
  subst en
  exact hS
section
variable {prog : Program} {w : World} {A : Around} {R : Result → Shared → Prop} {I : Addr} {fp wr : List Addr} {G : Array GenState → Array GenState → Prop} {n : Nat} {P : Nat → Value → Prop} {St : Nat → Shared → Prop}

theorem kset_loop (W : WalksS prog w A.in1 I fp wr G n P St) (S : Addr) (hSf : S ∉ fp)
    (val : Nat → Key) (hval : ∀ i v, P i v → keyIs (val i) v = true ∧ v.scannable = true) (hb : n + 1 < scanBound) :
    ∀ (k i : Nat) (s : Shared), n - i = k → i ≤ n → St i s →
      s.heap.SetOf (mixKind prog w) S (fun k' => kIn (kSet val i) k') (kSet val i).length →
      (∀ s', Moved (S :: wr) G s s' → s'.heap.SetOf (mixKind prog w) S (fun k' => kIn (kSet val n) k') (kSet val n).length → R (.ok (.ret .none)) s') →
      codeAny (model prog w) A (.builtin "set.update.loop" ⟨[.ref S, .ref I], []⟩) R s := by
  have hSw : S ∉ wr := fun h => hSf (W.sub _ h)
  have hsub : ∀ b ∈ wr, b ∈ S :: wr := fun b hb => List.mem_cons_of_mem _ hb
  intro k
  induction k with
  | zero =>
    intro i s hk hi hst hS hR
    have hin : i = n := by omega
    subst hin
    refine codeAny_builtin PyProof.Rows.F.entry_set_update_loop ?_
    rw [Around.under_plainId PyProof.Rows.F.plain_set_update_loop _]
    show wpAny _ A.in1 (pyNext (.ref I) >>= _) _ _ s
    refine wpAny_bind (W.done s _ _ hst fun s' hm => ?_)
    show wpAny _ A.in1 (ret Value.none) _ _ s'
    exact wpAny_pure (hR s' (hm.mono hsub) (by
      obtain ⟨o, es, ep, t, ho, rest⟩ := hS
      exact ⟨o, es, ep, t, hm.heap S _ hSw ho, rest⟩))
  | succ k ih =>
    intro i s hk hi hst hS hR
    have hlt : i < n := by omega
    refine codeAny_builtin PyProof.Rows.F.entry_set_update_loop ?_
    rw [Around.under_plainId PyProof.Rows.F.plain_set_update_loop _]
    show wpAny _ A.in1 (pyNext (.ref I) >>= _) _ _ s
    refine wpAny_bind (W.item i s _ _ hlt hst fun v s' hP hst' hm => ?_)
    obtain ⟨hk1, hk2⟩ := hval i v hP
    have hS' : s'.heap.SetOf (mixKind prog w) S (fun k' => kIn (kSet val i) k') (kSet val i).length := by
      obtain ⟨o, es, ep, tb, ho, rest⟩ := hS
      exact ⟨o, es, ep, tb, hm.heap S _ hSw ho, rest⟩
    show wpAny _ A.in1 (holding [v] (setAdd S v) >>= _) _ _ s'
    refine wpAny_bind (wpAny_holding ?_)
    unfold setAdd
    refine wpAny_holding ?_
    refine wpAny_bind ((mixKind prog w).pyHash (k := val i) hk1 ?_)
    have hroom : (kSet val i).length + 1 < scanBound := by have := kSet_le val i; omega
    refine wpAny_setAddHashed_of (knd := mixKind prog w) (s := { s' with toks := s'.toks + 1 }) hk1 hk2 hS' hroom fun h' hsb hS2 => ?_

    have hSi : h'.SetOf (mixKind prog w) S (fun k' => kIn (kSet val (i + 1)) k') (kSet val (i + 1)).length :=
      setOf_same hS2 (fun k' => by rw [kSet_next, kAdd_mem]) (by rw [kSet_next, kAdd_len])
    refine wpAny_pure ⟨plainId_quiet PyProof.Rows.F.plain_set_update_loop _, ih (i + 1) _ (by omega) hlt (W.frame _ s' _ _ hst' (Nat.le_succ _) fun b hb o e => ?_) hSi fun s'' hm'' hS'' => ?_⟩
    · rw [hsb.2 b (fun h : b = S => hSf (by rw [← h]; exact hb))]; exact e
    · refine hR s'' (Moved.trans W.gtrans ((hm.mono hsub).then_heap (Nat.le_succ _) fun b o hb e => ?_) hm'') hS''
      rw [hsb.2 b (fun h : b = S => hb (by rw [h]; exact List.mem_cons_self))]; exact e
end

section
variable {prog : Program} {w : World} {A : Around} {E : Value → Shared → Prop} {s : Shared}
theorem call_set_keys {l : Addr} {items : Array Value} {val : Nat → Key} {Q : Value → Shared → Prop}
    (hh : A.handled = none) (hl : s.heap.IsList l items) (hi : ∀ (i : Nat) (v : Value), items[i]? = some v → keyIs (val i) v = true ∧ v.scannable = true) (hb : items.size + 1 < scanBound)
    (h : ∀ (h' : Heap) (tk : Nat), h'.SetOf (mixKind prog w) s.heap.objs.size (fun k' => kIn (kSet val items.size) k') (kSet val items.size).length →
      (∀ b o, b < s.heap.objs.size → s.heap.get? b = some o → h'.get? b = some o) → Q (.ref s.heap.objs.size) { s with heap := h', toks := tk }) :
    wpAny (model prog w) A (call (.type "set") [.ref l]) Q E s := by
  obtain ⟨c, tl, hmro⟩ := PySem.F.called_set.mro
  have hmade := PySem.F.called_set.made
  have hsub := PySem.F.called_set.sub
  refine wpAny_call (codeAny_of_tree ?_)
  show wpAny _ _ (callAny (.type "set") _) _ _ _
  refine wpAny_pure ⟨Code.quiet_builtin _ (by decide +kernel), codeAny_builtin PySem.F.entry_type_call ?_⟩
  rw [Around.under_plain (weight_type_call_type "set" [.ref l] []) rfl]
  have h1 := PySem.F.called_set.notType
  have h2 := PySem.F.called_set.canCreate
  have hct := PySem.F.typeCall_set_1 (.ref l)
  repeat (any_goals (first | assumption | wp_step))

  refine codeAny_mono (code_set_new_1 (.ref l) (E := E) (Q₁ := fun obj s₁ => ∃ led : Bool, obj = .ref s.heap.objs.size ∧ s₁ = { s with heap := s.heap.push { cls := .type "set", dict := none, data := .set #[] 0 (.fresh 0 0 led) } }) fun led => ⟨led, rfl, rfl⟩) fun r s₁ hr => ?_
  cases r with
  | error e => exact hr
  | ok fl =>
    cases fl with
    | ret obj =>
      obtain ⟨led, rfl, rfl⟩ := hr
      have hS : (s.heap.push { cls := .type "set", dict := none, data := .set #[] 0 (.fresh 0 0 led) }).get? s.heap.objs.size = some { cls := .type "set", dict := none, data := .set #[] 0 (.fresh 0 0 led) } := Heap.get?_push_size _ rfl
      have hT : Shared.TypeIs { s with heap := s.heap.push { cls := .type "set", dict := none, data := .set #[] 0 (.fresh 0 0 led) } } (.ref s.heap.objs.size) "set" := ⟨_, hS, rfl⟩
      have hli := PySem.F.called_set.init.lookup
      have hbi := PySem.F.called_set.init.bind (.ref s.heap.objs.size)
      repeat (any_goals (first | assumption | wp_step))

      refine codeAny_mono (codeAny_call_builtin (R := wants (fun r s₂ => r = .none ∧ ∃ h' tk, s₂ = { s with heap := h', toks := tk } ∧
          h'.SetOf (mixKind prog w) s.heap.objs.size (fun k' => kIn (kSet val items.size) k') (kSet val items.size).length ∧
          (∀ b o, b < s.heap.objs.size → s.heap.get? b = some o → h'.get? b = some o)) E) PySem.F.called_set.init.plain PySem.F.entry_set_init (check_set_init_1 hT ?_)) fun r₂ s₂ hr₂ => ?_
      · obtain ⟨ol, hol, hcl, nl, hdl⟩ := hl
        obtain ⟨ocls, odict, odata, oslots⟩ := ol
        simp only at hcl hdl
        subst hcl; subst hdl
        have hol' : (s.heap.push { cls := .type "set", dict := none, data := .set #[] 0 (.fresh 0 0 led) }).get? l = some { cls := .type "list", dict := odict, data := .seq items nl, slots := oslots } := Heap.get?_push_of_some _ hol
        have hsls := PySem.F.sub_list_set
        have hslf := PySem.F.sub_list_frozenset
        have hne : (Value.type "list" == Value.type "dict") = false := by decide
        have hl1 : (s.heap.push { cls := .type "set", dict := none, data := .set #[] 0 (.fresh 0 0 led) }).IsList l items := ⟨_, hol', rfl, nl, rfl⟩
        unfold Builtin.«set.__init__» noKeywords Builtin.Frozenset.updateFrom
        generalize hPI : pyIter = PI
        wp_walk
        subst hPI

        refine wpAny_pyIter_list hl1 ?_
        refine wpAny_bind (wpAny_runValue ?_)
        have hlS : l < s.heap.objs.size := Heap.lt_size hol
        have hh3 : A.in1.in1.in1.handled = none := by simp [hh]
        have hneI : l ≠ (s.heap.push { cls := .type "set", dict := none, data := .set #[] 0 (.fresh 0 0 led) }).objs.size := by
          rw [Heap.size_push]; exact Nat.ne_of_lt (Nat.lt_succ_of_lt hlS)
        have hSf : s.heap.objs.size ∉ [(s.heap.push { cls := .type "set", dict := none, data := .set #[] 0 (.fresh 0 0 led) }).objs.size, l] := by
          rw [Heap.size_push]; simp only [List.mem_cons, List.mem_singleton, List.not_mem_nil, or_false, not_or]
          exact ⟨Nat.ne_of_lt (Nat.lt_succ_self _), Nat.ne_of_gt hlS⟩
        refine kset_loop ((Walks.list hh3 _ l hneI items).toS) s.heap.objs.size
          hSf val hi hb (items.size - 0) 0 _ (by omega) (Nat.zero_le _)
          ⟨⟨_, Heap.get?_push_size _ rfl, rfl, rfl⟩, (hl1.push _)⟩ ?hS0 ?hR
        case hS0 =>
          have hget : ((s.heap.push { cls := .type "set", dict := none, data := .set #[] 0 (.fresh 0 0 led) }).push { cls := .type "list_iterator", data := .fields #[.ref l, .int 0 0] }).get? s.heap.objs.size
              = some { cls := .type "set", dict := none, data := .set #[] 0 (.fresh 0 0 led) } := Heap.get?_push_of_some _ hS
          exact ⟨_, #[], 0, _, hget, ⟨rfl, rfl, rfl⟩, rfl, (fun e he => by simp at he), (fun k => by simp [kSet, kIn]), (by decide), (by rfl), rfl⟩
        case hR =>
          intro s' hm hS'
          obtain ⟨h', g', d', tk', os'⟩ := s'
          have eg : g' = s.gens := hm.gens
          have ed : d' = s.drawn := hm.drawn
          have eo : os' = s.os := hm.os
          subst eg; subst ed; subst eo
          show wpAny _ _ _ _ _ _
          refine wpAny_pure ?_
          show wpAny _ _ (ret Value.none) _ _ _
          refine wpAny_pure ⟨rfl, h', tk', rfl, hS', fun b o hb e => ?_⟩
          have hb1 : b ≠ s.heap.objs.size := Nat.ne_of_lt hb
          have hb2 : b ≠ (s.heap.push { cls := .type "set", dict := none, data := .set #[] 0 (.fresh 0 0 led) }).objs.size := by
            rw [Heap.size_push]; exact Nat.ne_of_lt (Nat.lt_succ_of_lt hb)
          exact hm.heap b o (by simp only [List.mem_cons, List.mem_singleton, List.not_mem_nil, or_false, not_or]; exact ⟨hb1, hb2⟩) (Heap.get?_push_of_some _ (Heap.get?_push_of_some _ e))

      · cases r₂ with
        | error e => exact hr₂
        | ok fl₂ =>
          cases fl₂ with
          | ret r =>
            obtain ⟨rfl, h', tk, rfl, hS', hk'⟩ := hr₂
            repeat (any_goals (first | assumption | wp_step))
            exact h _ _ hS' hk'
          | _ => exact hr₂.elim
    | _ => exact hr.elim
end
section
variable {X : Cx}
def kNth (ks : List Key) (i : Nat) : Key := ks.getD i (.inl 0)
theorem vals_keys {ks : List Key} {us : List Value} (r : Vals (ks.map kV) us) : ∀ (i : Nat) (v : Value), us[i]? = some v → keyIs (kNth ks i) v = true ∧ v.scannable = true := by
  induction ks generalizing us with
  | nil =>
    intro i v h
    cases r
    cases h
  | cons k ks ih =>
    intro i v h
    cases r with
    | cons r t =>
      cases i with
      | zero =>
        cases h
        cases k with
        | inl n =>
          obtain ⟨t, rfl⟩ := r
          exact ⟨keyIs_int n t, rfl⟩
        | inr x =>
          obtain ⟨t, rfl⟩ := r
          exact ⟨keyIs_str x t, rfl⟩
      | succ i => exact ih t i v h
def tLenSetK (K : PySem.W.Frag) (ta : TE) : TE := fun σ H Q => ta σ H fun x H1 => ∃ (l : Addr) (ks : List Key), x = .ref l ∧ SqL K H1 l (ks.map kV) ∧ ks.length ≤ 4000 ∧ Q (.int ((kSet (kNth ks) ks.length).length : Nat)) H1
theorem pe_lenSetK {a : Expr} {ta : TE} {p p2 q pos : Pos} (hc : X.calm = true) (hg : Gl X "len") (hm : X.mg "len" = none) (hg2 : Gl X "set") (hm2 : X.mg "set" = none) (ha : PE X a ta)
    (na : starEach [a] X.env = (false, eval a X.env) :: starEach [] X.env := by rfl) (nb : starEach [.Call (.Name "set" p2) [a] [] q] X.env = (false, eval (.Call (.Name "set" p2) [a] [] q) X.env) :: starEach [] X.env := by rfl) :
    PE X (.Call (.Name "len" p) [.Call (.Name "set" p2) [a] [] q] [] pos) (tLenSetK X.K ta) := by
  refine ⟨fun pins s σ H Q I h => Call_ (ld_blt I hg hm boot_len (PyProof.Rows.callWith_builtin1 (PyProof.Rows.args_cons (Call_ (ld_blt I hg2 hm2 boot_set (PyProof.Rows.callWith_type1 (PyProof.Rows.args_cons (thn (ha.run pins s σ H _ I h) fun v s1 ⟨x, H1, I1, r1, l, ks, ex, hq, hl, q1⟩ => PyProof.Rows.args_nil ?_) na) na rfl))) nb) nb rfl))⟩
  subst ex
  cases r1
  obtain ⟨its, r, pl, hz⟩ := I1.list hq
  have hlen : its.toArray.size = ks.length := by rw [List.size_toArray, ← r.length, List.length_map]
  refine call_set_keys (val := kNth ks) (I1.ok.hd hc) pl.isList (fun i v hv => vals_keys r i v (by rw [← Array.getElem?_toList] at hv; simpa using hv)) (by rw [hlen]; unfold scanBound; omega) fun h' tk hS hk => ?_
  refine PyProof.Rows.args_nil ?_
  rw [hlen] at hS
  obtain ⟨o, es, ep, t, ho, hex, hd, _, _, _, hf, hn⟩ := hS
  have I2 : Inv X pins σ H1 { s1 with heap := h', toks := tk } := I1.kept fun b o e => hk b o (Heap.lt_size e) e
  have le := kSet_le (kNth ks) ks.length
  exact call_len_set ho hex hd hf (by rw [hn] <;> omega) ⟨.int (kSet (kNth ks) ks.length).length, H1, I2.tok _, ⟨_, by rw [hn]⟩, q1⟩
end
end SW

/-! The contexts; expressions. -/
namespace SW
open PySem PySem.Spec PyProof.Rows L2

theorem PE.imp {X : Cx} {e : Expr} {t t' : TE} (h : PE X e t) (k : ∀ s H Q, t' s H Q → t s H Q) : PE X e t' := ⟨fun pins s σ H Q I q => h.run pins s σ H Q I (k _ _ _ q)⟩
theorem PT.imp {X : Cx} {e : Expr} {t t' : TT} (h : PT X e t) (k : ∀ s H Q, t' s H Q → t s H Q) : PT X e t' := ⟨fun pins s σ H Q I q => h.run pins s σ H Q I (k _ _ _ q)⟩
theorem PW.imp {X : Cx} {e : Expr} {t t' : TT} (h : PW X e t) (k : ∀ s H Q, t' s H Q → t s H Q) : PW X e t' := ⟨fun wh pins s σ H Q I q => h.run wh pins s σ H Q I (k _ _ _ q)⟩
theorem PA.imp {X : Cx} {e : List Expr} {t t' : TA} (h : PA X e t) (k : ∀ s H Q, t' s H Q → t s H Q) : PA X e t' := ⟨fun pos pins s σ H Q I q => h.run pos pins s σ H Q I (k _ _ _ q)⟩
theorem PI.imp {X : Cx} {tg e : Expr} {t t' : TI} (h : PI X tg e t) (k : ∀ s H Q, t' s H Q → t s H Q) : PI X tg e t' := ⟨fun pins s σ H Q I q => h.run pins s σ H Q I (k _ _ _ q)⟩
theorem PS.imp {X : Cx} {e : Stmt} {t t' : TS} (h : PS X e t) (k : ∀ E s H, t' E s H → t E s H) : PS X e t' := ⟨fun pins s σ H E I q => h.run pins s σ H E I (k _ _ _ q)⟩
theorem PSs.imp {X : Cx} {e : List Stmt} {t t' : TS} (h : PSs X e t) (k : ∀ E s H, t' E s H → t E s H) : PSs X e t' := ⟨fun pins s σ H E I q => h.run pins s σ H E I (k _ _ _ q)⟩

/-! ### readings out of plain runs -/
section
variable (D : Wd) (W : WX)
def teOf (f : Sig → Sto → Res PV) : TE := fun s H Q => ∃ tau M rho, RelS D H rho M s tau ∧ OKG D (Rep D) H rho (f tau M) Q (fun cls d H' => W cls d s H')
def ttOf (f : Sig → Sto → Res Bool) : TT := fun s H Q => ∃ tau M rho, RelS D H rho M s tau ∧ OKG D (fun _ _ (x : Bool) (v : Bool) => v = x) H rho (f tau M) Q (fun cls d H' => W cls d s H')
def taOf (f : Sig → Sto → Res (List PV)) : TA := fun s H Q => ∃ tau M rho, RelS D H rho M s tau ∧ OKG D (RepL D) H rho (f tau M) Q (fun cls d H' => W cls d s H')
/-- the layer's walk does what the plain one does -/
def WkOk (H0 : Hp) (rho0 : List Addr) (w : Walk) (J : It) : Prop := ∀ (i : Nat) (H : Hp) (rho : List Addr) (M : Sto), Ext H0 rho0 H rho → StoOk D H rho M → match w.at_ i M with
  | none => True
  | some none => J.stop i H
  | some (some x) => J.go i H ∧ ∀ v H', J.yld i H v H' → Ext H rho H' rho ∧ StoOk D H' rho M ∧ Rep D H' rho x v
def tpOf (f : Sig → Sto → Res (List (PV × PV))) : TP := fun s H Q => ∃ tau M rho, RelS D H rho M s tau ∧ OKG D (RepP D) H rho (f tau M) Q (fun cls d H' => W cls d s H')
def tiOf (f : Sig → Sto → Res Walk) : TI := fun s H R => ∃ tau M rho, RelS D H rho M s tau ∧ OKG D (fun H1 rho1 w J => WkOk D H1 rho1 w J) H rho (f tau M) R (fun cls d H' => W cls d s H')
end

/-! ### contexts -/
/-- what is known of a def's text: its slots, its scope, the levels below -/
structure Cn where
  N : List Str
  sc : Scope
  lev : Nat
/-- a scope as the running environment has it: captured names may be cells there -/
def ScOk (sc sc' : Scope) : Prop := ∀ x k, sc.names.lookup x = some k → sc'.names.lookup x = some k ∨ (k = .free ∧ sc'.names.lookup x = some .cell)
theorem ScOk.refl {sc : Scope} : ScOk sc sc := fun _ _ h => .inl h
theorem ScOk.relabel (sc : Scope) (env : Env) : ScOk sc (PySem.relabel sc env) := by
  unfold ScOk PySem.relabel
  show ∀ x k, sc.names.lookup x = some k → (sc.names.map fun (n, k) => if (k == .free && env.scope.kind == .function && env.kindOf n == some .cell) then (n, .cell) else (n, k)).lookup x = some k ∨ _
  induction sc.names with
  | nil => intro x k h; cases h
  | cons p r ih =>
    obtain ⟨n, j⟩ := p
    intro x k h
    have ih' := ih x k
    rw [List.map_cons]
    cases hx : x == n with
    | true =>
      simp only [List.lookup_cons, hx] at h
      cases h
      by_cases hc : (j == .free && env.scope.kind == .function && env.kindOf n == some .cell) = true
      · right
        dsimp only
        rw [if_pos hc]
        simp only [Bool.and_eq_true, beq_iff_eq] at hc
        exact ⟨hc.1.1, by simp only [List.lookup_cons, hx]⟩
      · left
        dsimp only
        rw [if_neg hc]
        simp only [List.lookup_cons, hx]
    | false =>
      simp only [List.lookup_cons, hx] at h
      have e : ∀ q : NameKind, (List.lookup x (((n, q) : Str × NameKind) :: (r.map fun (n, k) => if (k == .free && env.scope.kind == .function && env.kindOf n == some .cell) then (n, .cell) else (n, k)))) =
          List.lookup x (r.map fun (n, k) => if (k == .free && env.scope.kind == .function && env.kindOf n == some .cell) then (n, .cell) else (n, k)) := fun q => by simp only [List.lookup_cons, hx]
      dsimp only
      by_cases hc : (j == .free && env.scope.kind == .function && env.kindOf n == some .cell) = true
      · rw [if_pos hc, e]; exact ih' h
      · rw [if_neg hc, e]; exact ih' h
/-- a def's promise -/
def spOf (D : Wd) (fi : FI) : Sp := fun vs H Q E => ∃ xs M rho, StoOk D H rho M ∧ RepL D H rho xs vs ∧ xs.length = fi.ps.length ∧ OKG D (Rep D) H rho (fi.run xs M) Q E
/-- a def that keeps its promise wherever no text of a list is being made -/
structure FnG (P : Program) (w : World) (K : PySem.W.Frag) (mg : Str → Option Value) (base : Heap) (k : Nat) (f : Addr) (fd : FuncData) (ps : List Str) (sp : Sp) : Prop where
  run : ∀ (A : Around) (outer : List Env) (s : Shared) (H : Hp) (args : Args) (us : List Value) (vs : List V) (Q : VK) (E : XK), Room k A → A.guards = some [] → Env0 P w K mg base A outer s H →
    vs.length = ps.length → BindsTo s fd args (ps.zip us) → Vals vs us → sp vs H Q E → codeAny (model P w) A (.call (.ref f) args) (CR (CXM P w) outer P w H s Q E) s
structure FOk (D : Wd) (P : Program) (w : World) (mg : Str → Option Value) (base : Heap) (fi : FI) (f : Addr) (fd : FuncData) : Prop where
  at_ : fi.ow = none → mg fi.nm = some (.ref f)
  mt : ∀ k m, fi.ow = some (k, m) → Meth D.K (D.oc k) m f ∧ Cls D.K (D.oc k)
  kp : PySem.W.keepIn D.K (.ref f) = true
  bd : Binds D.K fd fi.ps []
  dd : ∀ d, fi.dv = some d → ∃ u v, RelV v u ∧ (∀ H rho, Rep D H rho d v) ∧ Binds D.K fd fi.ps [u]
  fn : FnG P w D.K mg base fi.lev f fd fi.ps (spOf D fi)
/-- what is known of an own exception class -/
structure ClsF (D : Wd) (mg : Str → Option Value) (cls : List (Str × Bool)) (k : Nat) (x : Str) (b : Bool) : Prop where
  at_ : mg x = some (.ref (D.cl k))
  tr : PySem.W.subIn D.K (.ref (D.cl k)) (.type "BaseException") = some true ∧ PySem.W.typeIn D.K (.ref (D.cl k)) = some (.type "type")
  smp : b = true → PySem.W.excIn D.K (D.cl k) He.veBase "ValueError.__new__" = true ∧ PySem.W.keepIn D.K (.ref (D.cl k)) = true
  exm : ∀ i, i < cls.length → PySem.W.exmOne D.K (.ref (D.cl i)) (.ref (D.cl k)) = some (hitC i (some k))
  kit : ∀ i, i < cls.length → PySem.W.kitOne D.K (.ref (D.cl i)) (.ref (D.cl k)) = some (hitC i (some k))
  kv : PySem.W.kitOne D.K (.ref (D.cl k)) (.type "ValueError") = some true
  ec : ExcC D.K (D.cl k)
/-- what is known of a plain class -/
structure OcF (D : Wd) (mg : Str → Option Value) (k : Nat) (x : Str) (fs : List Str) : Prop where
  at_ : mg x = some (.ref (D.oc k))
  cl : Cls D.K (D.oc k)
  na : ∀ f ∈ fs, NoAttr D.K (D.oc k) f
  mkr : PySem.W.makesIn D.K (D.oc k) = true
  kp : PySem.W.keepIn D.K (.ref (D.oc k)) = true
structure COk (D : Wd) (G : Glb) (c : Cn) (X : Cx) (W : WX) : Prop where
  kK : X.K = D.K
  kw : X.w = D.w
  nN : X.N = c.N
  sc : ScOk c.sc X.env.scope
  nd : c.N.Nodup
  calm : X.calm = true
  kind : X.env.scope.kind = .function
  gd : X.A.guards = some []
  room : Room c.lev X.A
  tk : TakesM X W
  po : PassesOwn (model X.prog X.w) X.A X.env X.xe
  fnx : ∀ x, Loc c.sc x → X.fn x = true ∨ X.env.scope.names.lookup x = some .local
  fok : ∀ fi ∈ G.fns, fi.lev ≤ c.lev → ∃ f fd, FOk D X.prog X.w X.mg X.base fi f fd
  bn : ∀ x ∈ G.bn, X.mg x = none
  cst : ∀ p ∈ G.cst, ∃ u v, X.mg p.1 = some u ∧ RelV v u ∧ ∀ H rho, Rep D H rho p.2 v
  cx : ∀ k x b, G.cls[k]? = some (x, b) → ClsF D X.mg G.cls k x b
  ow : ∀ k ∈ G.ini, ∃ x b, G.cls[k]? = some (x, b) ∧ OwnI X.prog X.w D.K X.mg X.base (D.cl k) ∧ XfC D.K (D.cl k)
  oc : ∀ k x fs, G.ocs[k]? = some (x, fs) → OcF D X.mg k x fs

/-! ### what is asked of the text -/
def slotOk (c : Cn) (i : Nat) (x : Str) : Bool := decide (c.N[i]? = some x) && (match c.sc.names.lookup x with | some .local => true | some .cell => true | some .free => true | _ => false) && !(x == ("__debug__" : Str)) && !(x == ("__classdict__" : Str))
def tgtOk (c : Cn) (i : Nat) (x : Str) : Bool := decide (c.N[i]? = some x) && (match c.sc.names.lookup x with | some .local => true | some .cell => true | _ => false)
def glOk (c : Cn) (x : Str) : Bool := decide (c.sc.names.lookup x = some .globalImplicit) && !(x == ("__debug__" : Str)) && decide (x ≠ "__name__")
section
variable {D : Wd} {G : Glb} {c : Cn} {X : Cx} {W : WX}
theorem COk.vis (C : COk D G c X W) {i : Nat} {x : Str} (h : slotOk c i x = true) : X.N[i]? = some x ∧ Vis X.env.scope x ∧ (x == ("__debug__" : Str)) = false ∧ (x == ("__classdict__" : Str)) = false := by
  unfold slotOk at h
  simp only [Bool.and_eq_true, decide_eq_true_eq, Bool.not_eq_true'] at h
  obtain ⟨⟨⟨h1, h2⟩, h3⟩, h4⟩ := h
  refine ⟨by rw [C.nN]; exact h1, ?_, h3, h4⟩
  split at h2
  · rename_i e; rcases C.sc x _ e with q | ⟨q, _⟩
    · exact .inl q
    · cases q
  · rename_i e; rcases C.sc x _ e with q | ⟨q, _⟩
    · exact .inr (.inl q)
    · cases q
  · rename_i e; rcases C.sc x _ e with q | ⟨_, q⟩
    · exact .inr (.inr q)
    · exact .inr (.inl q)
  · cases h2
theorem COk.tgt (C : COk D G c X W) {i : Nat} {x : Str} (h : tgtOk c i x = true) : X.N[i]? = some x ∧ Loc X.env.scope x ∧ (X.fn x = true ∨ X.env.scope.names.lookup x = some .local) := by
  unfold tgtOk at h
  simp only [Bool.and_eq_true, decide_eq_true_eq] at h
  obtain ⟨h1, h2⟩ := h
  have hl : Loc c.sc x := by
    split at h2
    · rename_i e; exact .inl e
    · rename_i e; exact .inr e
    · cases h2
  refine ⟨by rw [C.nN]; exact h1, ?_, C.fnx x hl⟩
  rcases hl with e | e
  · rcases C.sc x _ e with q | ⟨q, _⟩
    · exact .inl q
    · cases q
  · rcases C.sc x _ e with q | ⟨q, _⟩
    · exact .inr q
    · cases q
theorem COk.gl (C : COk D G c X W) {x : Str} (h : glOk c x = true) : Gl X x ∧ (x == ("__debug__" : Str)) = false ∧ x ≠ "__name__" := by
  unfold glOk at h
  simp only [Bool.and_eq_true, decide_eq_true_eq, Bool.not_eq_true'] at h
  obtain ⟨⟨h1, h2⟩, h3⟩ := h
  refine ⟨?_, h2, h3⟩
  rcases C.sc x _ h1 with q | ⟨q, _⟩
  · exact q
  · cases q
theorem COk.nodup (C : COk D G c X W) : X.N.Nodup := by rw [C.nN]; exact C.nd
end
theorem PE.fin {X : Cx} {e : Expr} {D : Wd} {W : WX} {f : Sig → Sto → Res PV} (hK : X.K = D.K) (h : PE X e (teOf D W f)) (he : ∀ whole, isTrue e X.env whole = (do let v ← whole; standAt e.pos; holding [v] (truthy v))) :
    PE X e (teOf D W fun tau M => SW.fin false (f tau M)) ∧ PT X e (ttOf D W fun tau M => (SW.fin true (f tau M)).bool) := by
  refine ⟨h, ⟨fun pins s σ H Q I q => ?_⟩⟩
  obtain ⟨tau, M, rho, rs, q⟩ := q
  have q : OKG D (fun _ _ (x : Bool) (v : Bool) => v = x) H rho ((SW.fin true (f tau M)).bool) Q (fun cls d H' => W cls d σ H') := q
  have q' : OKG D (fun _ _ (x : Bool) (v : Bool) => v = x) H rho ((f tau M).bind fun x M => match truth M x with | some k => .ok k M | none => .stuck) Q (fun cls d H' => W cls d σ H') := by
    cases e : f tau M with
    | ok x M1 =>
      rw [e] at q
      simp only [SW.fin, Res.bool, Res.bind_ok] at q ⊢
      cases e2 : truth M1 x with
      | none => rw [e2] at q; exact q
      | some k => rw [e2] at q; exact q
    | exc c v M1 => rw [e] at q; exact q
    | stuck => rw [e] at q; exact q
  refine isTrue_plain (thn (h.run pins s σ H (fun x H1 => ∃ px M rho k, StoOk D H1 rho M ∧ Rep D H1 rho px x ∧ truth M px = some k ∧ Q k H1) I ⟨tau, M, rho, rs, q'.bind fun H1 rho1 x v M1 e s1 r k => ?_⟩) fun v s1 ⟨x, H1, I1, r1, q1⟩ => truth_ok hK pins s1 σ H1 x v Q I1 r1 q1) (he _)
  cases e2 : truth M1 x with
  | none => rw [e2] at k; exact k.elim
  | some b =>
    rw [e2] at k
    exact ⟨x, M1, rho1, b, s1, r, e2, k.ok s1 rfl⟩
end SW

/-! Expressions do what they do: the pieces. -/
namespace SW
open PySem PySem.Spec PyProof.Rows L2

theorem star_cons (e : PEx) (es : List Expr) (env : Env) : starEach (toE e :: es) env = (false, eval (toE e) env) :: starEach es env := by cases e <;> rfl
theorem star_no (env : Env) : ∀ (es : PEs), (starEach (toL es) env).any (·.1) = false
  | .nil => rfl
  | .cons e es => by
    show (starEach (toE e :: toL es) env).any (·.1) = false
    rw [star_cons, List.any_cons, star_no env es]
    rfl
theorem star_any (pos : Pos) (env : Env) (es : PEs) : (backTo pos (starEach (toL es) env)).any (·.1) = false := by
  unfold backTo
  rw [List.any_map]
  exact star_no env es
theorem star_all (pos : Pos) (env : Env) (e : PEx) (es : PEs) : (backTo pos (starEach (toE e :: toL es) env)).all (fun x => !x.1) = true := by
  have h := star_any pos env (.cons e es)
  show (backTo pos (starEach (toL (.cons e es)) env)).all (fun x => !x.1) = true
  rw [List.all_eq_true]
  intro x hx
  cases q : x.1 with
  | false => rfl
  | true =>
    have : (backTo pos (starEach (toL (.cons e es)) env)).any (·.1) = true := List.any_eq_true.mpr ⟨x, hx, q⟩
    rw [h] at this; cases this
theorem mark_toE (op : CmpOp) (e : PEx) : behindInMarks op (toE e) = false := by cases e <;> rfl
theorem base_toE (e : PEx) (x : Str) (env : Env) : attributeBase (toE e) x env (eval (toE e) env) = eval (toE e) env := by cases e <;> rfl
theorem fold_toI (it : PIt) (env : Env) : ∀ x, foldedSetIterable (toI it) env x = pure x := by
  intro x
  cases it with
  | seq e => cases e <;> rfl
  | _ => rfl
theorem plain_toE (e : PEx) : PlainIx (toE e) := by intro o i; cases e <;> rfl
theorem true_toE {e : PEx} {env : Env} (h : match e with | .nt _ _ => False | .cmp .. => False | .chn .. => False | .and .. => False | .or .. => False | .ife .. => False | _ => True) :
    ∀ whole, isTrue (toE e) env whole = (do let v ← whole; standAt (toE e).pos; holding [v] (truthy v)) := by
  intro whole
  cases e <;> first | exact h.elim | rfl

section
variable {D : Wd} {G : Glb} {c : Cn} {X : Cx} {W : WX}
theorem RelS.slots {H : Hp} {rho : List Addr} {M : Sto} {s : L2.St} {tau : Sig} (R : RelS D H rho M s tau) {i : Nat} {x : PV} (h : tau[i]? = some (some x)) : ∃ v, s[i]? = some (some v) ∧ Rep D H rho x v := R.slot i x h
theorem sim_nam (C : COk D G c X W) {i : Nat} {x : Str} {p : Pos} (h : slotOk c i x = true) : PE X (.Name x p) (teOf D W fun tau M => match tau[i]? with | some (some v) => .ok v M | _ => .stuck) := by
  obtain ⟨h1, h2, h3, h4⟩ := C.vis h
  refine PE.imp (pe_var h1 h2 h3 h4) fun s H Q ⟨tau, M, rho, rs, q⟩ => ?_
  dsimp only at q
  split at q
  · rename_i v e
    obtain ⟨w, e1, r⟩ := rs.slot i v e
    exact ⟨w, e1, q.ok rs.mem r⟩
  · exact q.elim
theorem sim_glb (C : COk D G c X W) {g : Nat} {x : Str} {p : Pos} (h : glOk c x = true) (h2 : (match G.cst[g]? with | some (y, _) => decide (y = x) | none => false) = true) :
    PE X (.Name x p) (teOf D W fun _ M => match G.cst[g]? with | some (_, v) => .ok v M | none => .stuck) := by
  obtain ⟨g1, g2, g3⟩ := C.gl h
  cases e : G.cst[g]? with
  | none => rw [e] at h2; cases h2
  | some q =>
    obtain ⟨y, pv⟩ := q
    rw [e] at h2
    have hy : y = x := of_decide_eq_true h2
    subst hy
    obtain ⟨u, v, hm, rv, hr⟩ := C.cst _ (List.mem_of_getElem? e)
    refine PE.imp (pe_glob g1 hm rv g2) fun s H Q ⟨tau, M, rho, rs, q⟩ => ?_
    exact OKG.ok (x := pv) (M := M) q rs.mem (hr H rho)
theorem sim_const {e : Expr} {v : V} {x : PV} (h : PE X e (tC v)) (hr : ∀ H rho, Rep D H rho x v) : PE X e (teOf D W fun _ M => .ok x M) :=
  PE.imp h fun s H Q ⟨tau, M, rho, rs, q⟩ => OKG.ok (x := x) (M := M) q rs.mem (hr H rho)
theorem sim_nil : PA X [] (taOf D W fun _ M => .ok [] M) :=
  PA.imp pa_nil fun s H Q ⟨tau, M, rho, rs, q⟩ => OKG.ok (R := RepL D) (x := []) (M := M) q rs.mem (repL_nil.mpr rfl)
theorem sim_cons {e : PEx} {es : List Expr} {f : Sig → Sto → Res PV} {g : Sig → Sto → Res (List PV)} (ha : PE X (toE e) (teOf D W f)) (hr : PA X es (taOf D W g)) :
    PA X (toE e :: es) (taOf D W fun tau M => (f tau M).bind fun x M => (g tau M).bind fun xs M => .ok (x :: xs) M) :=
  PA.imp (pa_cons ha hr (star_cons e es X.env)) fun s H Q ⟨tau, M, rho, rs, q⟩ => ⟨tau, M, rho, rs, q.bind fun H1 rho1 x v M1 e1 s1 r1 q1 =>
    ⟨tau, M1, rho1, rs.ext e1 s1, q1.bind fun H2 rho2 xs vs M2 e2 s2 r2 q2 => OKG.ok (R := RepL D) q2 s2 (repL_cons.mpr ⟨v, vs, rfl, r1.ext e2, r2⟩)⟩⟩
theorem sim_tup {es : List Expr} {k : Nat} {p : Pos} {g : Sig → Sto → Res (List PV)} (h : PA X es (taOf D W g)) :
    PE X (.Tuple es k p) (teOf D W fun tau M => (g tau M).bind fun xs M => if xs.length ≤ LINE then .ok (.tup xs) M else .stuck) :=
  PE.imp (pe_tup h) fun s H Q ⟨tau, M, rho, rs, q⟩ => ⟨tau, M, rho, rs, q.bind fun H1 rho1 xs vs M1 e1 s1 r1 q1 => by
    by_cases hz : xs.length ≤ LINE
    · rw [if_pos hz] at q1
      exact ⟨by rw [line_eq, ← r1.len]; exact hz, PRM.tup (M := M1) (D := D) q1 s1 r1⟩
    · rw [if_neg hz] at q1; exact q1.elim⟩
theorem sim_lst {es : List Expr} {p : Pos} {g : Sig → Sto → Res (List PV)} (h : PA X es (taOf D W g)) :
    PE X (.List es p) (teOf D W fun tau M => (g tau M).bind fun xs M => Res.of (newL M xs)) :=
  PE.imp (pe_lst h) fun s H Q ⟨tau, M, rho, rs, q⟩ => ⟨tau, M, rho, rs, q.bind fun H1 rho1 xs vs M1 e1 s1 r1 q1 => by
    obtain ⟨hz, hq⟩ := q1.prm.newL s1 r1
    exact ⟨by rw [line_eq, ← r1.len]; exact hz, hq⟩⟩
section
variable {a b : Expr} {f g : Sig → Sto → Res PV}
theorem two_run {r : R2} {h : PV → PV → Sto → Res PV} (k : ∀ {H : Hp} {rho : List Addr} {x y : PV} {v u : V} {M : Sto} {Q : VK} {E : XK}, StoOk D H rho M → Rep D H rho x v → Rep D H rho y u → OKG D (Rep D) H rho (h x y M) Q E → r v u H Q) :
    ∀ s H Q, teOf D W (fun tau M => (f tau M).bind fun x M => (g tau M).bind fun y M => h x y M) s H Q → tOp r (teOf D W f) (teOf D W g) s H Q := fun s H Q ⟨tau, M, rho, rs, q⟩ =>
  ⟨tau, M, rho, rs, q.bind fun H1 rho1 x v M1 e1 s1 r1 q1 => ⟨tau, M1, rho1, rs.ext e1 s1, q1.bind fun H2 rho2 y u M2 e2 s2 r2 q2 => k s2 (r1.ext e2) r2 q2⟩⟩
theorem sim_bin (hK : X.K = D.K) {op : Operator} {p : Pos} (ha : PE X a (teOf D W f)) (hb : PE X b (teOf D W g)) :
    PE X (.BinOp a op b p) (teOf D W fun tau M => (f tau M).bind fun x M => (g tau M).bind fun y M => Res.of (opB op x y M)) :=
  PE.imp (pe_op (opB_ok hK op) ha hb) (two_run fun s r1 r2 q => ⟨_, _, _, _, s, r1, r2, q.prm⟩)
theorem sim_sub (hK : X.K = D.K) (hw : X.w = D.w) (hu : X.A.units + 64 < cLine) {p : Pos} (hi : PlainIx b) (ha : PE X a (teOf D W f)) (hb : PE X b (teOf D W g)) :
    PE X (.Subscript a b p) (teOf D W fun tau M => (f tau M).bind fun x M => (g tau M).bind fun y M => Res.of (opI x y M)) :=
  PE.imp (pe_ix (opI_ok hK hw hu) ha hb hi) (two_run fun s r1 r2 q => ⟨_, _, _, _, s, r1, r2, q.prm⟩)
theorem cmp_ok {op : CmpOp} {H : Hp} {rho : List Addr} {x y : PV} {v u : V} {M : Sto} {Q : VK} {E : XK} (s : StoOk D H rho M) (r1 : Rep D H rho x v) (r2 : Rep D H rho y u)
    (q : OKG D (Rep D) H rho (match opC op x y M with | some k => .ok (.bl k) M | none => .stuck) Q E) : rCP D (opC op) v u H Q := by
  cases e : opC op x y M with
  | none => rw [e] at q; exact q.elim
  | some k =>
    rw [e] at q
    exact ⟨x, y, M, rho, k, s, r1, r2, e, q.ok s (rep_bl.mpr rfl)⟩
/-- a truth, as a test -/
theorem bool_run {h : Sig → Sto → Res PV} {t : TE} (k : ∀ s H Q, teOf D W h s H Q → t s H Q) : ∀ s H Q, ttOf D W (fun tau M => (h tau M).bool) s H Q → tTest t s H Q := fun s H Q ⟨tau, M, rho, rs, q⟩ =>
  k s H _ ⟨tau, M, rho, rs, OKG.bind (R := Rep D) (Q' := fun x H' => ∃ k, x = V.bl k ∧ Q k H') q fun H1 rho1 x v M1 e1 s1 r1 q1 => by
    cases x <;> first | exact q1.elim | skip
    rw [rep_bl] at r1
    exact ⟨_, r1, q1.ok s1 rfl⟩⟩
theorem sim_cmp (hK : X.K = D.K) (hw : X.w = D.w) (hu : X.A.units + 64 < cLine) {op : CmpOp} {p : Pos} (hm : behindInMarks op b = false) (ha : PE X a (teOf D W f)) (hb : PE X b (teOf D W g)) :
    PE X (.Compare a [op] [b] p) (teOf D W fun tau M => (f tau M).bind fun x M => (g tau M).bind fun y M => match opC op x y M with | some k => .ok (.bl k) M | none => .stuck) ∧
    PT X (.Compare a [op] [b] p) (ttOf D W fun tau M => ((f tau M).bind fun x M => (g tau M).bind fun y M => match opC op x y M with | some k => .ok (.bl k) M | none => .stuck).bool) :=
  ⟨PE.imp (pe_cmpR (opC_ok hK hw hu op) ha hb hm) (two_run fun s r1 r2 q => cmp_ok s r1 r2 q), PT.imp (pt_cmpR (opC_ok hK hw hu op) ha hb hm) (bool_run (two_run fun s r1 r2 q => cmp_ok s r1 r2 q))⟩
variable {d : Expr} {h : Sig → Sto → Res PV}
theorem chn_run {op op' : CmpOp} : ∀ s H Q, teOf D W (fun tau M => (f tau M).bind fun x M => (g tau M).bind fun y M => match opC op x y M with
    | some true => (h tau M).bind fun z M => match opC op' y z M with
      | some k => .ok (.bl k) M
      | none => .stuck
    | some false => .ok (.bl false) M
    | none => .stuck) s H Q → tChain (rCP D (opC op)) (rCP D (opC op')) (teOf D W f) (teOf D W g) (teOf D W h) s H Q := fun s H Q ⟨tau, M, rho, rs, q⟩ =>
  ⟨tau, M, rho, rs, q.bind fun H1 rho1 x v M1 e1 s1 r1 q1 => ⟨tau, M1, rho1, rs.ext e1 s1, q1.bind fun H2 rho2 y u M2 e2 s2 r2 q2 => by
    cases e : opC op x y M2 with
    | none => rw [e] at q2; exact q2.elim
    | some k =>
      rw [e] at q2
      refine ⟨x, y, M2, rho2, k, s2, r1.ext e2, r2, e, k, rfl, ?_⟩
      cases k with
      | false => exact q2.ok s2 (rep_bl.mpr rfl)
      | true => exact ⟨tau, M2, rho2, (rs.ext e1 s1).ext e2 s2, OKG.bind q2 fun H3 rho3 z w M3 e3 s3 r3 q3 => cmp_ok s3 (r2.ext e3) r3 q3⟩⟩⟩
theorem sim_chn (hK : X.K = D.K) (hw : X.w = D.w) (hu : X.A.units + 64 < cLine) {op op' : CmpOp} {p : Pos} (hm : lastMarks [op, op'] [b, d] = false) (ha : PE X a (teOf D W f)) (hb : PE X b (teOf D W g)) (hd : PE X d (teOf D W h)) :
    PE X (.Compare a [op, op'] [b, d] p) (teOf D W fun tau M => (f tau M).bind fun x M => (g tau M).bind fun y M => match opC op x y M with
      | some true => (h tau M).bind fun z M => match opC op' y z M with
        | some k => .ok (.bl k) M
        | none => .stuck
      | some false => .ok (.bl false) M
      | none => .stuck) ∧
    PT X (.Compare a [op, op'] [b, d] p) (ttOf D W fun tau M => ((f tau M).bind fun x M => (g tau M).bind fun y M => match opC op x y M with
      | some true => (h tau M).bind fun z M => match opC op' y z M with
        | some k => .ok (.bl k) M
        | none => .stuck
      | some false => .ok (.bl false) M
      | none => .stuck).bool) :=
  ⟨PE.imp (pe_chain (opC_ok hK hw hu op) (opC_ok hK hw hu op') ha hb hd hm) chn_run, PT.imp (pt_chain (opC_ok hK hw hu op) (opC_ok hK hw hu op') ha hb hd hm) (bool_run chn_run)⟩
theorem sim_neg {p : Pos} (ha : PE X a (teOf D W f)) : PE X (.UnaryOp .USub a p) (teOf D W fun tau M => (f tau M).bind fun x M => match x with | .int i => .ok (.int (-i)) M | _ => .stuck) :=
  PE.imp (pe_un un_neg ha) fun s H Q ⟨tau, M, rho, rs, q⟩ => ⟨tau, M, rho, rs, q.bind fun H1 rho1 x v M1 e1 s1 r1 q1 => by
    cases x <;> first | exact q1.elim | skip
    rw [rep_int] at r1
    exact ⟨_, r1, q1.ok s1 (rep_int.mpr rfl)⟩⟩
theorem sim_not {p : Pos} (ha : PE X a (teOf D W f)) : PE X (.UnaryOp .Not a p) (teOf D W fun tau M => (f tau M).bind fun x M => match x with | .bl b => .ok (.bl (!b)) M | _ => .stuck) :=
  PE.imp (pe_not ha) fun s H Q ⟨tau, M, rho, rs, q⟩ => ⟨tau, M, rho, rs, q.bind fun H1 rho1 x v M1 e1 s1 r1 q1 => by
    cases x <;> first | exact q1.elim | skip
    rw [rep_bl] at r1
    exact ⟨_, r1, q1.ok s1 (rep_bl.mpr rfl)⟩⟩
theorem sim_notT {p : Pos} (ha : PT X a (ttOf D W fun tau M => (f tau M).bool)) : PT X (.UnaryOp .Not a p) (ttOf D W fun tau M => ((f tau M).bind fun x M => match x with | .bl b => .ok (.bl (!b)) M | _ => .stuck).bool) :=
  PT.imp (pt_not ha) fun s H Q ⟨tau, M, rho, rs, q⟩ => ⟨tau, M, rho, rs, by
    revert q
    show OKG D _ H rho (((f tau M).bind fun x M => match x with | .bl b => .ok (.bl (!b)) M | _ => .stuck).bool) Q _ → OKG D _ H rho ((f tau M).bool) (fun c H1 => Q (!c) H1) _
    cases f tau M with
    | ok x M1 =>
      intro q
      cases x <;> first | exact q.elim | skip
      intro H1 rho1 v e1 s1 r1
      have r1 : v = _ := r1
      subst r1
      exact q H1 rho1 _ e1 s1 rfl
    | exc c v M1 => exact fun q => q
    | stuck => exact fun q => q⟩
theorem sim_ife {t : Expr} {k : Sig → Sto → Res Bool} {p : Pos} (ht : PT X t (ttOf D W k)) (ha : PE X a (teOf D W f)) (hb : PE X b (teOf D W g)) :
    PE X (.IfExp t a b p) (teOf D W fun tau M => (k tau M).bind fun c M => if c = true then f tau M else g tau M) :=
  PE.imp (pe_ifExp ht ha hb) fun s H Q ⟨tau, M, rho, rs, q⟩ => ⟨tau, M, rho, rs, q.bind fun H1 rho1 x v M1 e1 s1 r1 q1 => by
    have r1 : v = x := r1
    subst r1
    cases v with
    | true => exact ⟨tau, M1, rho1, rs.ext e1 s1, q1⟩
    | false => exact ⟨tau, M1, rho1, rs.ext e1 s1, q1⟩⟩
/-! slices -/
theorem part_run {x : PV} {H0 : Hp} {rho0 : List Addr} {R : Option Int → Hp → Prop} {Q : VK} {E : XK} {k : Int → Sto → Res PV} {r : Res PV} (q : OKG D (Rep D) H0 rho0 (r.bind fun l M => match l with | .int l => k l M | _ => .stuck) Q E)
    (h : ∀ (H : Hp) (rho : List Addr) (l : Int) (M : Sto), Ext H0 rho0 H rho → StoOk D H rho M → OKG D (Rep D) H rho (k l M) Q E → R (some l) H) : OKG D (Rep D) H0 rho0 r (fun v H => ∃ i, v = .int i ∧ R (some i) H) E :=
  q.bind fun H rho l v M e s r q1 => by
    cases l <;> first | exact q1.elim | skip
    rw [rep_int] at r
    exact ⟨_, r, h H rho _ M e s q1⟩
theorem sim_slc (hK : X.K = D.K) {p p2 : Pos} (ha : PE X a (teOf D W f)) (hb : PE X b (teOf D W g)) (hd : PE X d (teOf D W h)) :
    PE X (.Subscript a (.Slice (some b) (some d) none p2) p) (teOf D W fun tau M => (f tau M).bind fun x M => (g tau M).bind fun l M => match l with | .int l => (h tau M).bind fun u M => (match u with | .int u => Res.of (opS x (some l) (some u) M) | _ => .stuck) | _ => .stuck) :=
  PE.imp (pe_slice (opS_ok hK) ha (po_some hb) (po_some hd)) fun s H Q ⟨tau, M, rho, rs, q⟩ => ⟨tau, M, rho, rs, q.bind fun H1 rho1 x v M1 e1 s1 r1 q1 => ⟨tau, M1, rho1, rs.ext e1 s1, part_run (x := x) (R := fun l H2 => tPart (teOf D W h) s H2 fun u H3 => rSP D opS v l u H3 Q) q1 fun H2 rho2 l M2 e2 s2 q2 =>
    ⟨tau, M2, rho2, (rs.ext e1 s1).ext e2 s2, part_run (x := x) (R := fun u H3 => rSP D opS v (some l) u H3 Q) q2 fun H3 rho3 u M3 e3 s3 q3 => ⟨x, M3, rho3, s3, (r1.ext e2).ext e3, q3.prm⟩⟩⟩⟩
theorem sim_slcL (hK : X.K = D.K) {p p2 : Pos} (ha : PE X a (teOf D W f)) (hb : PE X b (teOf D W g)) :
    PE X (.Subscript a (.Slice (some b) none none p2) p) (teOf D W fun tau M => (f tau M).bind fun x M => (g tau M).bind fun l M => match l with | .int l => Res.of (opS x (some l) none M) | _ => .stuck) :=
  PE.imp (pe_slice (opS_ok hK) ha (po_some hb) po_none) fun s H Q ⟨tau, M, rho, rs, q⟩ => ⟨tau, M, rho, rs, q.bind fun H1 rho1 x v M1 e1 s1 r1 q1 => ⟨tau, M1, rho1, rs.ext e1 s1, part_run (x := x) (R := fun l H2 => rSP D opS v l none H2 Q) q1 fun H2 rho2 l M2 e2 s2 q2 =>
    ⟨x, M2, rho2, s2, r1.ext e2, q2.prm⟩⟩⟩
theorem sim_slcH (hK : X.K = D.K) {p p2 : Pos} (ha : PE X a (teOf D W f)) (hb : PE X b (teOf D W g)) :
    PE X (.Subscript a (.Slice none (some b) none p2) p) (teOf D W fun tau M => (f tau M).bind fun x M => (g tau M).bind fun l M => match l with | .int l => Res.of (opS x none (some l) M) | _ => .stuck) :=
  PE.imp (pe_slice (opS_ok hK) ha po_none (po_some hb)) fun s H Q ⟨tau, M, rho, rs, q⟩ => ⟨tau, M, rho, rs, q.bind fun H1 rho1 x v M1 e1 s1 r1 q1 => ⟨tau, M1, rho1, rs.ext e1 s1, part_run (x := x) (R := fun l H2 => rSP D opS v none l H2 Q) q1 fun H2 rho2 l M2 e2 s2 q2 =>
    ⟨x, M2, rho2, s2, r1.ext e2, q2.prm⟩⟩⟩
theorem sim_slcN (hK : X.K = D.K) {p p2 : Pos} (ha : PE X a (teOf D W f)) :
    PE X (.Subscript a (.Slice none none none p2) p) (teOf D W fun tau M => (f tau M).bind fun x M => Res.of (opS x none none M)) :=
  PE.imp (pe_slice (opS_ok hK) ha po_none po_none) fun s H Q ⟨tau, M, rho, rs, q⟩ => ⟨tau, M, rho, rs, q.bind fun H1 rho1 x v M1 e1 s1 r1 q1 => ⟨x, M1, rho1, s1, r1, q1.prm⟩⟩
theorem sim_slcR (hK : X.K = D.K) {k : Nat} {p1 p2 p3 p : Pos} (ha : PE X a (teOf D W f)) :
    PE X (.Subscript a (.Slice none none (some (.UnaryOp .USub (.Constant (.int 1) k p1) p2)) p3) p) (teOf D W fun tau M => (f tau M).bind fun x M => Res.of (revS x M)) :=
  PE.imp (pe_revS hK ha) fun s H Q ⟨tau, M, rho, rs, q⟩ => ⟨tau, M, rho, rs, q.bind fun H1 rho1 x v M1 e1 s1 r1 q1 => ⟨x, M1, rho1, s1, r1, q1.prm⟩⟩
/-! calls -/
theorem bi_ty (b : Bi) : (∃ T, b.val = .type T ∧ bootBuiltins b.nm = some (.type T)) ∨ ∃ T, b.val = .builtin T ∧ bootBuiltins b.nm = some (.builtin T) := by
  cases b
  · exact .inr ⟨_, rfl, by decide +kernel⟩
  · exact .inl ⟨_, rfl, by decide +kernel⟩
  · exact .inl ⟨_, rfl, by decide +kernel⟩
  · exact .inr ⟨_, rfl, by decide +kernel⟩
  · exact .inr ⟨_, rfl, by decide +kernel⟩
  · exact .inr ⟨_, rfl, by decide +kernel⟩
  · exact .inr ⟨_, rfl, by decide +kernel⟩
  · exact .inl ⟨_, rfl, by decide +kernel⟩
  · exact .inl ⟨_, rfl, by decide +kernel⟩
  · exact .inr ⟨_, rfl, by decide +kernel⟩
  · exact .inr ⟨_, rfl, by decide +kernel⟩
  · exact .inr ⟨_, rfl, by decide +kernel⟩
theorem args_run {e0 : List V → Hp → VK → Prop} {gl : Sig → Sto → Res (List PV)} {k : List PV → Sto → Res PV} (h : ∀ {H : Hp} {rho : List Addr} {xs : List PV} {vs : List V} {M : Sto} {Q : VK} {E : XK}, StoOk D H rho M → RepL D H rho xs vs → OKG D (Rep D) H rho (k xs M) Q E → e0 vs H Q) :
    ∀ s H Q, teOf D W (fun tau M => (f tau M).bind fun x M => (gl tau M).bind fun xs M => k (x :: xs) M) s H Q → tCB e0 (taOf D W fun tau M => (f tau M).bind fun x M => (gl tau M).bind fun xs M => .ok (x :: xs) M) s H Q := fun s H Q ⟨tau, M, rho, rs, q⟩ => ⟨tau, M, rho, rs, by
  revert q
  show OKG D _ H rho ((f tau M).bind fun x M => (gl tau M).bind fun xs M => k (x :: xs) M) Q _ → OKG D _ H rho ((f tau M).bind fun x M => (gl tau M).bind fun xs M => .ok (x :: xs) M) (fun vs H1 => e0 vs H1 Q) _
  cases f tau M with
  | exc c v M1 => exact fun q => q
  | stuck => exact fun q => q
  | ok x M1 =>
    show OKG D _ H rho ((gl tau M1).bind fun xs M => k (x :: xs) M) Q _ → OKG D _ H rho ((gl tau M1).bind fun xs M => .ok (x :: xs) M) (fun vs H1 => e0 vs H1 Q) _
    cases gl tau M1 with
    | exc c v M1 => exact fun q => q
    | stuck => exact fun q => q
    | ok xs M2 => exact fun q H1 rho1 vs e1 s1 r1 => h s1 r1 (OKG.ext e1 q)⟩
theorem sim_blt (C : COk D G c X W) {b : Bi} {e : PEx} {es : PEs} {gl : Sig → Sto → Res (List PV)} {p p2 : Pos} (h1 : glOk c b.nm = true) (h2 : b.nm ∈ G.bn)
    (ha : PA X (toE e :: toL es) (taOf D W fun tau M => (f tau M).bind fun x M => (gl tau M).bind fun xs M => .ok (x :: xs) M)) :
    PE X (.Call (.Name b.nm p) (toE e :: toL es) [] p2) (teOf D W fun tau M => (f tau M).bind fun x M => (gl tau M).bind fun xs M => Res.of (opM b (x :: xs) M)) := by
  obtain ⟨g1, g2, g3⟩ := C.gl h1
  have hc := opM_ok C.kK C.kw C.calm C.gd C.room.units b
  rcases bi_ty b with ⟨T, e1, e2⟩ | ⟨T, e1, e2⟩
  · rw [e1] at hc
    exact PE.imp (pe_callTy hc g1 (C.bn _ h2) e2 ha g3 g2 (star_cons e _ _) (star_any _ _ es)) (args_run (k := fun xs M => Res.of (opM b xs M)) fun s r q => ⟨_, _, _, s, r, q.prm⟩)
  · rw [e1] at hc
    exact PE.imp (pe_callB hc g1 (C.bn _ h2) e2 ha g3 g2 (star_cons e _ _) (star_any _ _ es)) (args_run (k := fun xs M => Res.of (opM b xs M)) fun s r q => ⟨_, _, _, s, r, q.prm⟩)
theorem ty_boot (t : Ty) : bootBuiltins t.nm = some (.type t.ts) := by cases t <;> decide +kernel
theorem sim_isi (C : COk D G c X W) {e : PEx} {t : Ty} {p pt p2 : Pos} (h1 : glOk c "isinstance" = true) (h2 : ("isinstance" : Str) ∈ G.bn) (h3 : glOk c t.nm = true) (h4 : t.nm ∈ G.bn) (ha : PE X (toE e) (teOf D W f)) :
    PE X (.Call (.Name "isinstance" p) [toE e, .Name t.nm pt] [] p2) (teOf D W fun tau M => (f tau M).bind fun x M => match isTy M t x with | some k => .ok (.bl k) M | none => .stuck) := by
  obtain ⟨g1, g2, g3⟩ := C.gl h1
  obtain ⟨k1, k2, k3⟩ := C.gl h3
  have ht : PE X (.Name t.nm pt) (tC (.ty t.ts)) := pe_bltn k1 (C.bn _ h4) (ty_boot t) rfl k3 k2
  have hs : starEach [toE e, .Name t.nm pt] X.env = (false, eval (toE e) X.env) :: starEach [.Name t.nm pt] X.env := star_cons e _ _
  refine PE.imp (pe_callB (isTy_ok C.kK t) g1 (C.bn _ h2) (by decide +kernel) (pa_cons ha (pa_cons ht pa_nil) hs) g3 g2 hs rfl) fun s H Q ⟨tau, M, rho, rs, q⟩ => ⟨tau, M, rho, rs, q.bind fun H1 rho1 x v M1 e1 s1 r1 q1 => ?_⟩
  cases e2 : isTy M1 t x with
  | none => rw [e2] at q1; exact q1.elim
  | some k =>
    rw [e2] at q1
    exact ⟨v, x, M1, rho1, k, rfl, s1, r1, e2, q1.ok s1 (rep_bl.mpr rfl)⟩
end
end
end SW

/-! Calls, methods, and, or. -/
namespace SW
open PySem PySem.Spec PyProof.Rows L2

section
variable {D : Wd} {G : Glb} {c : Cn} {X : Cx} {W : WX} {f : Sig → Sto → Res PV}
theorem run_fi (C : COk D G c X W) {fi : FI} {a : Addr} {fd : FuncData} (F : FOk D X.prog X.w X.mg X.base fi a fd) (hl : fi.lev ≤ c.lev) {pins : List (Addr × Obj)} {s : L2.St} {H : Hp} {sh : Shared} {Q : VK} {us ds : List Value} {vs ws : List V}
    (I : Inv X pins s H sh) (hb : Binds D.K fd fi.ps ds) (r : Vals vs us) (rd : Vals ws ds) (h : spOf D fi (vs ++ ws) H Q (WE W s)) : wpAny (model X.prog X.w) X.A (PySem.call (.ref a) us) (EP X pins s Q) X.xe sh := by
  have hn : (vs ++ ws).length = fi.ps.length := by
    obtain ⟨xs, M, rho, _, h2, h3, _⟩ := h
    rw [← h2.len]; exact h3
  have e0 : Env0 X.prog X.w D.K X.mg X.base X.A X.stack sh H := by rw [← C.kK]; exact I.env0
  have ki : D.K.In sh.heap := by rw [← C.kK]; exact I.kIn
  have bd := hb sh us ki (by rw [List.length_append, ← r.length, ← rd.length, ← List.length_append]; exact hn)
  have go := F.fn.run X.A X.stack sh H ⟨us, []⟩ (us ++ ds) (vs ++ ws) Q (WE W s) (C.room.mono hl) C.gd e0 hn bd (r.append rd) h
  refine wpAny_call (codeAny_mono go fun res s' hq => ?_)
  cases res with
  | ok fl =>
    cases fl with
    | ret u => exact I.after hq
    | _ => exact hq.elim
  | error e => exact passM C.tk s pins H sh e s' I hq
theorem args_runS {s : L2.St} {H : Hp} {Q : VK} {R : List V → Hp → Prop} {gl : Sig → Sto → Res (List PV)} {k : List PV → Sto → Res PV}
    (h : ∀ {H : Hp} {rho : List Addr} {xs : List PV} {vs : List V} {M : Sto}, StoOk D H rho M → RepL D H rho xs vs → OKG D (Rep D) H rho (k xs M) Q (WE W s) → R vs H)
    (q : teOf D W (fun tau M => (f tau M).bind fun x M => (gl tau M).bind fun xs M => k (x :: xs) M) s H Q) : taOf D W (fun tau M => (f tau M).bind fun x M => (gl tau M).bind fun xs M => .ok (x :: xs) M) s H R := by
  obtain ⟨tau, M, rho, rs, q⟩ := q
  refine ⟨tau, M, rho, rs, ?_⟩
  revert q
  show OKG D _ H rho ((f tau M).bind fun x M => (gl tau M).bind fun xs M => k (x :: xs) M) Q _ → OKG D _ H rho ((f tau M).bind fun x M => (gl tau M).bind fun xs M => .ok (x :: xs) M) R _
  cases f tau M with
  | exc c v M1 => exact fun q => q
  | stuck => exact fun q => q
  | ok x M1 =>
    show OKG D _ H rho ((gl tau M1).bind fun xs M => k (x :: xs) M) Q _ → OKG D _ H rho ((gl tau M1).bind fun xs M => .ok (x :: xs) M) R _
    cases gl tau M1 with
    | exc c v M1 => exact fun q => q
    | stuck => exact fun q => q
    | ok xs M2 => exact fun q H1 rho1 vs e1 s1 r1 => h s1 r1 (OKG.ext e1 q)
theorem sim_call (C : COk D G c X W) {fi : FI} (hfi : fi ∈ G.fns) (hl : fi.lev ≤ c.lev) {e : PEx} {es : PEs} {gl : Sig → Sto → Res (List PV)} {p p2 : Pos} (h1 : glOk c fi.nm = true) (h0 : fi.ow = none)
    (ha : PA X (toE e :: toL es) (taOf D W fun tau M => (f tau M).bind fun x M => (gl tau M).bind fun xs M => .ok (x :: xs) M)) :
    PE X (.Call (.Name fi.nm p) (toE e :: toL es) [] p2) (teOf D W fun tau M => (f tau M).bind fun x M => (gl tau M).bind fun xs M => fi.go (x :: xs) M) := by
  obtain ⟨g1, g2, _⟩ := C.gl h1
  obtain ⟨a, fd, F⟩ := C.fok fi hfi hl
  have kp : PySem.W.keepIn X.K (.ref a) = true := by rw [C.kK]; exact F.kp
  refine ⟨fun pins sh s H Q I q => ?_⟩
  refine wpAny_Call_Name_kw (ld_glob I g1 (F.at_ h0) ?_ g2)
  have q' := args_runS (R := fun vs H1 => ∃ ws ds, Binds D.K fd fi.ps ds ∧ Vals ws ds ∧ spOf D fi (vs ++ ws) H1 Q (WE W s)) (k := fun xs M => fi.go xs M) (fun {H rho xs vs M} st r q => by
    unfold FI.go argsN at q
    by_cases hz : xs.length = fi.ps.length
    · rw [if_pos hz] at q
      exact ⟨[], [], F.bd, .nil, by rw [List.append_nil]; exact ⟨xs, M, rho, st, r, hz, q⟩⟩
    · rw [if_neg hz] at q
      cases ed : fi.dv with
      | none => rw [ed] at q; exact q.elim
      | some d =>
        rw [ed] at q
        by_cases hy : xs.length + 1 = fi.ps.length
        · obtain ⟨u, v, rv, hr, hb⟩ := F.dd d ed
          dsimp only at q
          rw [if_pos hy] at q
          exact ⟨[v], [u], hb, .cons rv .nil, xs ++ [d], M, rho, st, r.append (RepL.one (hr H rho)), by rw [List.length_append]; exact hy, q⟩
        · dsimp only at q
          rw [if_neg hy] at q
          exact q.elim) q
  exact PySem.W.callWith_K (h₀ := X.base) I.ok.mod.kin kp (thn (ha.run p2 pins sh s H _ I q') fun us s1 ⟨vs, H1, I1, r, ws, ds, hb, rd, k⟩ => ⟨I1.kIn, run_fi C F hl I1 hb r rd k⟩) (star_cons e _ _) (star_any _ _ es)

/-! ### methods of lists -/
theorem me_slot (m : Me) : Slot "list" m.nm m.id := by
  cases m
  · exact PySem.F.slot_list_append
  · exact PySem.F.slot_list_insert
  · exact PySem.F.slot_list_pop
  · exact PySem.F.slot_list_index
  · exact PySem.F.slot_list_count
  · exact PySem.F.slot_list_clear
  · exact PySem.F.slot_list_reverse
theorem me_type (m : Me) : typeOf (.builtin m.id) = pure (.type "method_descriptor") := by
  cases m
  · exact PySem.F.type_list_append
  · exact PySem.F.type_list_insert
  · exact PySem.F.type_list_pop
  · exact PySem.F.type_list_index
  · exact PySem.F.type_list_count
  · exact PySem.F.type_list_clear
  · exact PySem.F.type_list_reverse
theorem lst_ty {H : Hp} {rho : List Addr} {M : Sto} {x : PV} {v : V} {xs : List PV} (hK : X.K = D.K) (st : StoOk D H rho M) (r : Rep D H rho x v) (h : lst? M x = some xs) : tyV X.K "list" v H := by
  obtain ⟨a, vs, rfl, h1, _⟩ := st.list r h
  rw [hK]
  exact .inl ⟨rfl, vs, h1⟩
theorem sim_meth (C : COk D G c X W) {m : Me} {o e : PEx} {es : PEs} {fo : Sig → Sto → Res PV} {gl : Sig → Sto → Res (List PV)} {pa p : Pos} (hline : (pa.endLine == p.line) = true) (hfew : (toL es).length < 20)
    (ho : PE X (toE o) (teOf D W fo)) (ha : PA X (toE e :: toL es) (taOf D W fun tau M => (f tau M).bind fun x M => (gl tau M).bind fun xs M => .ok (x :: xs) M)) :
    PE X (.Call (.Attribute (toE o) m.nm pa) (toE e :: toL es) [] p) (teOf D W fun tau M => (fo tau M).bind fun x M => match lst? M x with
      | some _ => (f tau M).bind fun y M => (gl tau M).bind fun ys M => Res.of (opD m x (y :: ys) M)
      | none => .stuck) := by
  have few : ((backTo p (starEach (toE e :: toL es) X.env)).all (fun x => !x.1) && (backToKw p (keywordEach [] X.env)).all (fun x => x.1.isSome)
      && decide ((toE e :: toL es).length + ([] : List Keyword).length + (if ([] : List Keyword).isEmpty then 0 else 1) < 30)) = true := by
    rw [star_all]
    simp [keywordEach, backToKw]
    omega
  refine PE.imp (pe_bm PySem.F.plainAttrs_list (me_slot m) (me_type m) (opD_ok C.kK C.room.units m) ho ha (base_toE o _ _) few hline (star_cons e _ _) (star_any _ _ es)) fun s H Q ⟨tau, M, rho, rs, q⟩ => ⟨tau, M, rho, rs, q.bind fun H1 rho1 x v M1 e1 s1 r1 q1 => ?_⟩
  cases e2 : lst? M1 x with
  | none => rw [e2] at q1; exact q1.elim
  | some ys =>
    rw [e2] at q1
    refine ⟨lst_ty C.kK s1 r1 e2, tau, M1, rho1, rs.ext e1 s1, ?_⟩
    revert q1
    show OKG D _ H1 rho1 ((f tau M1).bind fun y M => (gl tau M).bind fun ys M => Res.of (opD m x (y :: ys) M)) Q _ → OKG D _ H1 rho1 ((f tau M1).bind fun x M => (gl tau M).bind fun xs M => .ok (x :: xs) M) _ _
    cases f tau M1 with
    | exc c v M1 => exact fun q => q
    | stuck => exact fun q => q
    | ok y M2 =>
      show OKG D _ H1 rho1 ((gl tau M2).bind fun ys M => Res.of (opD m x (y :: ys) M)) Q _ → OKG D _ H1 rho1 ((gl tau M2).bind fun xs M => .ok (y :: xs) M) _ _
      cases gl tau M2 with
      | exc c v M1 => exact fun q => q
      | stuck => exact fun q => q
      | ok zs M3 => exact fun q H2 rho2 vs e3 s3 r3 => ⟨x, _, M3, rho2, s3, r1.ext e3, r3, (OKG.ext e3 q).prm⟩
theorem sim_meth0 (C : COk D G c X W) {m : Me} {o : PEx} {fo : Sig → Sto → Res PV} {pa p : Pos} (hline : (pa.endLine == p.line) = true) (ho : PE X (toE o) (teOf D W fo)) :
    PE X (.Call (.Attribute (toE o) m.nm pa) [] [] p) (teOf D W fun tau M => (fo tau M).bind fun x M => match lst? M x with
      | some _ => Res.of (opD m x [] M)
      | none => .stuck) := by
  refine PE.imp (pe_bm0 PySem.F.plainAttrs_list (me_slot m) (me_type m) (opD_ok C.kK C.room.units m) ho (base_toE o _ _) hline) fun s H Q ⟨tau, M, rho, rs, q⟩ => ⟨tau, M, rho, rs, q.bind fun H1 rho1 x v M1 e1 s1 r1 q1 => ?_⟩
  cases e2 : lst? M1 x with
  | none => rw [e2] at q1; exact q1.elim
  | some ys =>
    rw [e2] at q1
    exact ⟨lst_ty C.kK s1 r1 e2, x, [], M1, rho1, s1, r1, repL_nil.mpr rfl, q1.prm⟩

/-! ### and, or -/
variable {a b : Expr} {rest : List Expr} {g : Sig → Sto → Res PV}
theorem sim_and1 {p : Pos} (ha : PE X a (teOf D W f)) : PE X (.BoolOp .And [a] p) (teOf D W fun tau M => (f tau M).bind fun x M => .ok x M) :=
  PE.imp (pe_one ha) fun s H Q ⟨tau, M, rho, rs, q⟩ => ⟨tau, M, rho, rs, by
    revert q
    show OKG D _ H rho ((f tau M).bind fun x M => .ok x M) Q _ → OKG D _ H rho (f tau M) Q _
    cases f tau M <;> exact fun q => q⟩
theorem sim_or1 {p : Pos} (ha : PE X a (teOf D W f)) : PE X (.BoolOp .Or [a] p) (teOf D W fun tau M => (f tau M).bind fun x M => .ok x M) :=
  PE.imp (pe_one ha) fun s H Q ⟨tau, M, rho, rs, q⟩ => ⟨tau, M, rho, rs, by
    revert q
    show OKG D _ H rho ((f tau M).bind fun x M => .ok x M) Q _ → OKG D _ H rho (f tau M) Q _
    cases f tau M <;> exact fun q => q⟩
theorem sim_and2 {p : Pos} (ha : PE X a (teOf D W f)) (hb : PE X (.BoolOp .And (b :: rest) p) (teOf D W g)) : PE X (.BoolOp .And (a :: b :: rest) p) (teOf D W fun tau M => (f tau M).bind fun x M => match x with | .bl true => g tau M | .bl false => .ok (.bl false) M | _ => .stuck) :=
  PE.imp (pe_and ha hb) fun s H Q ⟨tau, M, rho, rs, q⟩ => ⟨tau, M, rho, rs, q.bind fun H1 rho1 x v M1 e1 s1 r1 q1 => by
    cases x <;> first | exact q1.elim | skip
    rename_i k
    rw [rep_bl] at r1
    refine ⟨k, r1, ?_⟩
    cases k with
    | true => exact ⟨tau, M1, rho1, rs.ext e1 s1, q1⟩
    | false => exact OKG.ok q1 s1 (rep_bl.mpr rfl)⟩
theorem sim_or2 {p : Pos} (ha : PE X a (teOf D W f)) (hb : PE X (.BoolOp .Or (b :: rest) p) (teOf D W g)) : PE X (.BoolOp .Or (a :: b :: rest) p) (teOf D W fun tau M => (f tau M).bind fun x M => match x with | .bl false => g tau M | .bl true => .ok (.bl true) M | _ => .stuck) :=
  PE.imp (pe_or ha hb) fun s H Q ⟨tau, M, rho, rs, q⟩ => ⟨tau, M, rho, rs, q.bind fun H1 rho1 x v M1 e1 s1 r1 q1 => by
    cases x <;> first | exact q1.elim | skip
    rename_i k
    rw [rep_bl] at r1
    refine ⟨k, r1, ?_⟩
    cases k with
    | false => exact ⟨tau, M1, rho1, rs.ext e1 s1, q1⟩
    | true => exact OKG.ok q1 s1 (rep_bl.mpr rfl)⟩
theorem bool_bind {H0 : Hp} {rho0 : List Addr} {r : Res PV} {k : Bool → Sto → Res PV} {Q : Bool → Hp → Prop} {R : Bool → Hp → Prop} {E : XK}
    (q : OKG D (fun _ _ (x : Bool) (v : Bool) => v = x) H0 rho0 ((r.bind fun x M => match x with | .bl b => k b M | _ => .stuck).bool) Q E)
    (h : ∀ (H : Hp) (rho : List Addr) (b : Bool) (M : Sto), Ext H0 rho0 H rho → StoOk D H rho M → OKG D (fun _ _ (x : Bool) (v : Bool) => v = x) H rho ((k b M).bool) Q E → R b H) :
    OKG D (fun _ _ (x : Bool) (v : Bool) => v = x) H0 rho0 (r.bool) R E := by
  cases r with
  | exc c v M1 => exact q
  | stuck => exact q
  | ok x M1 =>
    cases x <;> first | exact q.elim | skip
    intro H rho v e s r1
    have r1 : v = _ := r1
    subst r1
    exact h H rho _ M1 e s (OKG.ext e q)
theorem sim_andT1 {p : Pos} (ha : PT X a (ttOf D W fun tau M => (f tau M).bool)) : PW X (.BoolOp .And [a] p) (ttOf D W fun tau M => ((f tau M).bind fun x M => .ok x M).bool) :=
  PW.imp (pw_and1 ha) fun s H Q ⟨tau, M, rho, rs, q⟩ => ⟨tau, M, rho, rs, by
    revert q
    show OKG D _ H rho (((f tau M).bind fun x M => .ok x M).bool) Q _ → OKG D _ H rho ((f tau M).bool) Q _
    cases f tau M <;> exact fun q => q⟩
theorem sim_orT1 {p : Pos} (ha : PT X a (ttOf D W fun tau M => (f tau M).bool)) : PW X (.BoolOp .Or [a] p) (ttOf D W fun tau M => ((f tau M).bind fun x M => .ok x M).bool) :=
  PW.imp (pw_or1 ha) fun s H Q ⟨tau, M, rho, rs, q⟩ => ⟨tau, M, rho, rs, by
    revert q
    show OKG D _ H rho (((f tau M).bind fun x M => .ok x M).bool) Q _ → OKG D _ H rho ((f tau M).bool) Q _
    cases f tau M <;> exact fun q => q⟩
theorem split2 {α : Type} {k k' : Res α} : ∀ (x : PV), (match x with | .bl true => k | .bl false => k' | _ => .stuck) = (match x with | .bl b => (if b = true then k else k') | _ => .stuck) := by
  intro x
  cases x <;> first | rfl | skip
  rename_i b
  cases b <;> rfl
theorem split3 {α : Type} {k k' : Res α} : ∀ (x : PV), (match x with | .bl false => k | .bl true => k' | _ => .stuck) = (match x with | .bl b => (if b = true then k' else k) | _ => .stuck) := by
  intro x
  cases x <;> first | rfl | skip
  rename_i b
  cases b <;> rfl
theorem sim_andT2 {p : Pos} (ha : PT X a (ttOf D W fun tau M => (f tau M).bool)) (hb : PW X (.BoolOp .And (b :: rest) p) (ttOf D W fun tau M => (g tau M).bool)) :
    PW X (.BoolOp .And (a :: b :: rest) p) (ttOf D W fun tau M => ((f tau M).bind fun x M => match x with | .bl true => g tau M | .bl false => .ok (.bl false) M | _ => .stuck).bool) :=
  PW.imp (pw_and ha hb) fun s H Q ⟨tau, M, rho, rs, q⟩ => ⟨tau, M, rho, rs, by
    simp only [split2] at q
    refine bool_bind (k := fun b M => if b = true then g tau M else .ok (.bl false) M) q fun H1 rho1 k M1 e1 s1 q1 => ?_
    cases k with
    | true => exact ⟨tau, M1, rho1, rs.ext e1 s1, q1⟩
    | false => exact OKG.ok (R := fun _ _ (x : Bool) (v : Bool) => v = x) (x := false) (M := M1) q1 s1 rfl⟩
theorem sim_orT2 {p : Pos} (ha : PT X a (ttOf D W fun tau M => (f tau M).bool)) (hb : PW X (.BoolOp .Or (b :: rest) p) (ttOf D W fun tau M => (g tau M).bool)) :
    PW X (.BoolOp .Or (a :: b :: rest) p) (ttOf D W fun tau M => ((f tau M).bind fun x M => match x with | .bl false => g tau M | .bl true => .ok (.bl true) M | _ => .stuck).bool) :=
  PW.imp (pw_or ha hb) fun s H Q ⟨tau, M, rho, rs, q⟩ => ⟨tau, M, rho, rs, by
    simp only [split3] at q
    refine bool_bind (k := fun b M => if b = true then .ok (.bl true) M else g tau M) q fun H1 rho1 k M1 e1 s1 q1 => ?_
    cases k with
    | false => exact ⟨tau, M1, rho1, rs.ext e1 s1, q1⟩
    | true => exact OKG.ok (R := fun _ _ (x : Bool) (v : Bool) => v = x) (x := true) (M := M1) q1 s1 rfl⟩
end
end SW

/-! Targets, walks, comprehensions. -/
namespace SW
open PySem PySem.Spec PyProof.Rows L2

/-! ### targets -/
def slotsT : PTg → List Nat
  | .one i _ _ => [i]
  | .tup ts _ _ => ts.map (·.1)
theorem wipe_set_set (s : L2.St) (i : Nat) (x y : Option V) : ∀ vs : List Nat, (wipe (s.set i x) vs).set i y = (wipe s vs).set i y
  | [] => by unfold wipe; rw [List.set_set]
  | v :: vs => by
    unfold wipe
    by_cases h : v = i
    · subst h
      rw [List.set_set, List.set_set]
      exact wipe_set_set s v x y vs
    · rw [List.set_comm _ _ h, List.set_comm _ _ h, wipe_set_set s i x y vs]
theorem wipe_set {s : L2.St} {i : Nat} {x : Option V} : ∀ {vs : List Nat}, i ∈ vs → wipe (s.set i x) vs = wipe s vs
  | v :: vs, h => by
    unfold wipe
    by_cases e : v = i
    · subst e; exact wipe_set_set s v x none vs
    · rw [wipe_set (vs := vs) (by rcases List.mem_cons.mp h with q | q; exact absurd q.symm e; exact q)]
section
variable {D : Wd} {G : Glb} {c : Cn} {X : Cx} {W : WX}
theorem RelS.wipe {H : Hp} {rho : List Addr} {M : Sto} {s : L2.St} {tau : Sig} (R : RelS D H rho M s tau) : ∀ vs : List Nat, RelS D H rho M (L2.wipe s vs) (wipeP tau vs)
  | [] => R
  | v :: vs => (R.wipe vs).unset v none
/-- a target's reading -/
def tgOf (D : Wd) (t : PTg) : TG := fun v s H Q => ∃ x tau M rho tau', RelS D H rho M s tau ∧ Rep D H rho x v ∧ asgT t x tau M = some tau' ∧
  ∀ s', RelS D H rho M s' tau' → (∀ vs : List Nat, (∀ i ∈ slotsT t, i ∈ vs) → L2.wipe s' vs = L2.wipe s vs) → Q s' H
def tgtsOk (c : Cn) (t : PTg) : Bool := match t with
  | .one i x _ => tgtOk c i x
  | .tup ts _ _ => ts.all fun t => tgtOk c t.1 t.2.1
def gsOf (D : Wd) (is : List Nat) : TGs := fun vs s H Q => ∃ xs tau M rho tau', RelS D H rho M s tau ∧ RepL D H rho xs vs ∧ setAll is xs tau = some tau' ∧
  ∀ s', RelS D H rho M s' tau' → (∀ ws : List Nat, (∀ i ∈ is, i ∈ ws) → L2.wipe s' ws = L2.wipe s ws) → Q s' H
theorem PGs.imp {e : List Expr} {t t' : TGs} (h : PGs X e t) (k : ∀ v s H Q, t' v s H Q → t v s H Q) : PGs X e t' := ⟨fun pins s σ H vs us Q I r q => h.run pins s σ H vs us Q I r (k _ _ _ _ q)⟩
theorem PG.imp {e : Expr} {t t' : TG} (h : PG X e t) (k : ∀ v s H Q, t' v s H Q → t v s H Q) : PG X e t' := ⟨fun pins s σ H v u Q I r q => h.run pins s σ H v u Q I r (k _ _ _ _ q)⟩
theorem sim_gs (C : COk D G c X W) : ∀ {ts : List (Nat × Str × Pos)}, (ts.all fun t => tgtOk c t.1 t.2.1) = true → PGs X (ts.map fun t => .Name t.2.1 t.2.2) (gsOf D (ts.map (·.1)))
  | [], _ => PGs.imp pgs_nil fun v s H Q ⟨xs, tau, M, rho, tau', rs, r, h, q⟩ => by
    cases xs with
    | nil => cases h; exact ⟨repL_nil.mp r, q s rs fun _ _ => rfl⟩
    | cons _ _ => cases h
  | t :: ts, h => by
    rw [List.all_cons, Bool.and_eq_true] at h
    obtain ⟨k1, k2, k3⟩ := C.tgt h.1
    refine PGs.imp (pgs_cons (pg_name C.nodup k1 k2 k3) (sim_gs C h.2) rfl) fun v s H Q ⟨xs, tau, M, rho, tau', rs, r, hs, q⟩ => ?_
    cases xs with
    | nil => cases hs
    | cons x xs =>
      obtain ⟨w, rest, rfl, r1, r2⟩ := repL_cons.mp r
      refine ⟨w, rest, rfl, xs, _, M, rho, tau', rs.set _ r1, r2, hs, fun s' rs' hw => q s' rs' fun ws hi => ?_⟩
      rw [hw ws fun i hi' => hi i (by rw [List.map_cons]; exact List.mem_cons_of_mem _ hi'), wipe_set (hi t.1 (by simp))]
theorem names_len : ∀ (env : Env) (ts : List (Nat × Str × Pos)), (assignEach (ts.map fun t => Expr.Name t.2.1 t.2.2) env).length = ts.length
  | _, [] => rfl
  | env, t :: ts => by
    show (assignEach (ts.map fun t => Expr.Name t.2.1 t.2.2) env).length + 1 = _
    rw [names_len env ts]; rfl
theorem names_star : ∀ (env : Env) (ts : List (Nat × Str × Pos)), (assignEach (ts.map fun t => Expr.Name t.2.1 t.2.2) env).findIdx? (·.1) = none
  | _, [] => rfl
  | env, t :: ts => by
    have h := names_star env ts
    show List.findIdx? (·.1) ((false, _) :: assignEach (ts.map fun t => Expr.Name t.2.1 t.2.2) env) = none
    rw [List.findIdx?_cons, h]
    rfl
theorem PG.or {e : Expr} {t t' : TG} (h : PG X e t) (h' : PG X e t') : PG X e (fun v s H Q => t v s H Q ∨ t' v s H Q) := ⟨fun pins s σ H v u Q I r q => by
  rcases q with q | q
  · exact h.run pins s σ H v u Q I r q
  · exact h'.run pins s σ H v u Q I r q⟩
theorem setAll_len : ∀ {is : List Nat} {xs : List PV} {tau tau' : Sig}, setAll is xs tau = some tau' → xs.length = is.length
  | [], [], _, _, _ => rfl
  | [], _ :: _, _, _, h => by cases h
  | _ :: _, [], _, _, h => by cases h
  | i :: is, x :: xs, tau, tau', h => by rw [List.length_cons, List.length_cons, setAll_len (is := is) h]
theorem sim_tg (C : COk D G c X W) {t : PTg} (h : tgtsOk c t = true) : PG X (toT t) (tgOf D t) := by
  cases t with
  | one i x p =>
    obtain ⟨k1, k2, k3⟩ := C.tgt h
    refine PG.imp (pg_name C.nodup k1 k2 k3) fun v s H Q ⟨y, tau, M, rho, tau', rs, r, ha, q⟩ => ?_
    cases ha
    exact q _ (rs.set i r) fun vs hv => wipe_set (hv i (by simp [slotsT]))
  | tup ts k p =>
    have hg := sim_gs C h
    have n1 := names_len X.env ts
    have n2 := names_star X.env ts
    refine PG.imp (PG.or (pg_tup (n := ts.length) C.calm hg n1 n2) (pg_lst (n := ts.length) C.calm hg n1 n2)) fun v s H Q ⟨y, tau, M, rho, tau', rs, r, ha, q⟩ => ?_
    simp only [asgT] at ha
    split at ha
    · rename_i xs hx
      have hl := setAll_len ha
      rw [List.length_map] at hl
      obtain ⟨a, vs, rfl, h1, h2⟩ := rs.mem.seq r hx
      rw [← C.kK] at h1
      rcases h1 with h1 | h1
      · exact .inr ⟨a, vs, rfl, h1, by rw [← h2.len]; exact hl, xs, tau, M, rho, tau', rs, h2, ha, q⟩
      · exact .inl ⟨a, vs, rfl, h1, by rw [← h2.len]; exact hl, xs, tau, M, rho, tau', rs, h2, ha, q⟩
    · cases ha

/-! ### walks -/
theorem wk_tup {H : Hp} {rho : List Addr} {xs : List PV} {a : Addr} {vs : List V} (hK : X.K = D.K) (h1 : SqT D.K H a vs) (h2 : RepL D H rho xs vs) : WkOk D H rho ⟨xs.length, fun i _ => some xs[i]?⟩ (Itt X.K a) := by
  intro i H1 rho1 M e s
  have k1 := e.sqT h1
  have k2 := h2.ext e
  rw [← hK] at k1
  show match some xs[i]? with | none => True | some none => _ | some (some x) => _
  cases q : xs[i]? with
  | none => exact ⟨vs, k1, by rw [← k2.len]; exact List.getElem?_eq_none_iff.mp q⟩
  | some x =>
    obtain ⟨v, hv, rv⟩ := k2.get q
    refine ⟨⟨vs, v, k1, hv⟩, fun w H' y => ?_⟩
    obtain ⟨rfl, y⟩ := y
    have := y vs k1
    rw [hv] at this; cases this
    exact ⟨Ext.refl, s, rv⟩
theorem wk_loc {H : Hp} {rho : List Addr} {n c : Nat} {a : Addr} (hK : X.K = D.K) (ha : rho[n]? = some a) : WkOk D H rho ⟨c, fun i M => (lst? M (.loc n)).map fun ys => ys[i]?⟩ (Itl X.K a) := by
  intro i H1 rho1 M e s
  show match (lst? M (.loc n)).map fun ys => ys[i]? with | none => True | some none => _ | some (some x) => _
  cases q : lst? M (.loc n) with
  | none => trivial
  | some ys =>
    obtain ⟨b, vs, eb, h1, h2⟩ := s.list (rep_loc.mpr ⟨a, rfl, e.loc _ _ ha⟩) q
    cases eb
    rw [← hK] at h1
    show match some ys[i]? with | none => True | some none => _ | some (some x) => _
    cases q2 : ys[i]? with
    | none => exact ⟨vs, h1, by rw [← h2.len]; exact List.getElem?_eq_none_iff.mp q2⟩
    | some x =>
      obtain ⟨v, hv, rv⟩ := h2.get q2
      refine ⟨⟨vs, v, h1, hv⟩, fun w H' y => ?_⟩
      obtain ⟨rfl, y⟩ := y
      have := y vs h1
      rw [hv] at this; cases this
      exact ⟨Ext.refl, s, rv⟩
/-- the keys of the dict at a, as long as there are c of them -/
def Itn (w : World) (a : Addr) (c : Nat) : It :=
  ⟨fun i H => i < c ∧ ∃ xs, H a = some (dnO w a xs) ∧ xs.length = c, fun i H x H' => H' = H ∧ ∀ xs, H a = some (dnO w a xs) → ∃ y, xs[i]? = some y ∧ x = .ref y.2.1, fun i H => c ≤ i ∧ ∃ xs, H a = some (dnO w a xs) ∧ xs.length = c⟩
theorem turn_keysN {P : Program} {w wd : World} {K : PySem.W.Frag} {tg : Expr} {a : Addr} {c : Nat} (it : Addr) : Turn P w K tg (Itn wd a c) [it] it (fun i h => h.IsKeyIter it a i c c) where
  mem := List.mem_singleton.mpr rfl
  obj := fun i h st b hb => by
    obtain rfl : b = it := List.mem_singleton.mp hb
    obtain ⟨oi, e, _, dd⟩ := st
    exact ⟨oi, e, fun v z => by rw [dd] at z; cases z⟩
  keep := fun i h h' st k => st.at fun oi e => k it (List.mem_singleton.mpr rfl) oi e
  item := by
    intro X hP hw hK hc i pins s σ H E I hf st hg
    subst hP hw hK
    obtain ⟨hi, xs, hd, hl⟩ := hg
    obtain ⟨f0, f1, f2, f3, f4, f5⟩ := hf it (List.mem_singleton.mpr rfl)
    obtain ⟨es, hr, hs, hy⟩ := dn_raw I hd
    have hs' : es.size = c := hs.trans hl
    subst hs'
    rw [← hs] at hr
    obtain ⟨y, y1, y2⟩ := hy i hi
    refine wpAny_pyNext_keys_item_raw st hr hi fun g st' sb => ?_
    have I1 : Inv X pins σ H { s with heap := g } := I.turned (t' := s.toks) (fun b ob hb e => (sb.2 b hb).trans e) f0 f1 f3 f4 f5
    obtain ⟨oi, e, cc, dd⟩ := id st'
    refine ⟨_, rfl, go_of (s := { s with heap := g }) e cc dd (by decide) ⟨.ref y.2.1, H, I1, y2, ⟨rfl, fun xs' hd' => ?_⟩, st', fun b hb => (hf b hb).1⟩⟩
    obtain ⟨es', ⟨ob', g', _, dt'⟩, hs2, hy'⟩ := dn_raw I hd'
    obtain ⟨ob, g0, _, dt⟩ := hr
    rw [g0] at g'
    cases g'
    have e2 : es' = es := by injection dt.symm.trans dt' with e2; exact e2.symm
    subst e2
    obtain ⟨y', z1, z2⟩ := hy' i hi
    refine ⟨y', z1, ?_⟩
    rw [y2] at z2
    injection z2 with z3
    rw [z3]
  done := by
    intro X hP hw hK hc i pins s σ H E I hf st hg
    subst hP hw hK
    obtain ⟨hi, xs, hd, hl⟩ := hg
    obtain ⟨f0, f1, f2, f3, f4, f5⟩ := hf it (List.mem_singleton.mpr rfl)
    obtain ⟨es, hr, hs, hy⟩ := dn_raw I hd
    have hs' : es.size = c := hs.trans hl
    subst hs'
    rw [← hs] at hr
    exact wpAny_pyNext_keys_end_raw (I.ok.hd hc) st hr hi fun g eb => ⟨rfl, I.turned (t' := s.toks) (fun b ob hb e => eb b ob hb e) f0 f1 f3 f4 f5⟩
  self := fun A i s Q E st h => wpAny_pyIter_keyiter st h
/-- a dict of tuples: the object -/
theorem key_dct {H : Hp} {rho : List Addr} {M : Sto} {n : Nat} {a : Addr} {kvs : List (PV × PV)} (st : StoOk D H rho M) (ha : rho[n]? = some a) (h : dctOf M (.loc n) = some kvs) (ht : (kvs.all fun p => isTupK p.1) = true) :
    (a == sysModules) = false ∧ ∃ xs, H a = some (dnO D.w a xs) ∧ DNs D H rho kvs xs := by
  obtain ⟨n', a', o, e, hm, ea, ev, ho, hd⟩ := dct_at st (rep_loc.mpr ⟨a, rfl, ha⟩) h
  cases ev
  rcases hd with ⟨ne, ws, rfl, hws⟩ | ⟨hs, xs, rfl, hxs, nd, _⟩
  · rw [dks_flat hws ne] at ht; cases ht
  · exact ⟨hs, xs, ho, hxs⟩
theorem wk_key {H : Hp} {rho : List Addr} {n c : Nat} {a : Addr} (ha : rho[n]? = some a) : WkOk D H rho ⟨c, keyW n c⟩ (Itn D.w a c) := by
  intro i H1 rho1 M e s
  show match keyW n c i M with | none => True | some none => _ | some (some x) => _
  unfold keyW
  cases q : dctOf M (.loc n) with
  | none => trivial
  | some ks =>
    by_cases hc : (ks.all fun p => isTupK p.1) = true ∧ ks.length = c
    · obtain ⟨hs, xs, ho, hxs⟩ := key_dct s (e.loc _ _ ha) q hc.1
      have hl : xs.length = c := (dns_len hxs).trans hc.2
      dsimp only
      rw [if_pos hc]
      cases q2 : ks[i]? with
      | none => exact ⟨by have := List.getElem?_eq_none_iff.mp q2; omega, xs, ho, hl⟩
      | some p =>
        have hlt : i < c := by have := (List.getElem?_eq_some_iff.mp q2).1; omega
        refine ⟨⟨hlt, xs, ho, hl⟩, fun w H' y => ?_⟩
        obtain ⟨rfl, y⟩ := y
        obtain ⟨z, hz, rfl⟩ := y xs ho
        obtain ⟨z', hz', r⟩ := dns_get hxs q2
        rw [hz] at hz'
        cases hz'
        exact ⟨Ext.refl, s, r⟩
    · dsimp only
      rw [if_neg hc]
      trivial
theorem wk_str {H : Hp} {rho : List Addr} {z : List Nat} : WkOk D H rho ⟨z.length, fun i _ => some (z[i]?.map fun c => .str [c])⟩ (Its ⟨z.toArray⟩) := by
  intro i H1 rho1 M e s
  show match some (z[i]?.map fun c => PV.str [c]) with | none => True | some none => _ | some (some x) => _
  cases q : z[i]? with
  | none => exact (by simpa using q : (⟨z.toArray⟩ : Str).cps.size ≤ i)
  | some ch =>
    have hlt : i < z.length := (List.getElem?_eq_some_iff.mp q).1
    refine ⟨(by simpa using hlt : i < (⟨z.toArray⟩ : Str).cps.size), fun w H' y => ?_⟩
    obtain ⟨rfl, ch', y1, rfl⟩ := y
    have : z[i]? = some ch' := by simpa using y1
    rw [q] at this; cases this
    exact ⟨Ext.refl, s, rep_str.mpr rfl⟩
theorem wk_rng {H : Hp} {rho : List Addr} {lo hi : Int} : WkOk D H rho (rngW lo hi) (Itr lo (hi - lo).toNat) := by
  intro i H1 rho1 M e s
  unfold rngW
  show match some (if i < (hi - lo).toNat then some (PV.int (lo + i)) else none) with | none => True | some none => _ | some (some x) => _
  by_cases h : i < (hi - lo).toNat
  · rw [if_pos h]
    refine ⟨h, fun w H' y => ?_⟩
    obtain ⟨rfl, rfl⟩ := y
    exact ⟨Ext.refl, s, rep_int.mpr rfl⟩
  · rw [if_neg h]
    exact Nat.le_of_not_lt h
section
variable {f g : Sig → Sto → Res PV} {tg : Expr}
theorem sim_seq (hK : X.K = D.K) {e : Expr} (he : PE X e (teOf D W f)) : PI X tg e (tiOf D W fun tau M => (f tau M).bind fun x M => match seqW M x with | some w => .ok w M | none => .stuck) := by
  refine ⟨fun pins sh s H R I q => ?_⟩
  obtain ⟨tau, M, rho, rs, q⟩ := q
  have q' := OKG.bind (R := Rep D) (Q' := fun v H1 => ∃ x M1 rho1, StoOk D H1 rho1 M1 ∧ Rep D H1 rho1 x v ∧ OKG D (fun H1 rho1 w J => WkOk D H1 rho1 w J) H1 rho1 (match seqW M1 x with | some w => .ok w M1 | none => .stuck) R (WE W s)) q
    fun H1 rho1 x v M1 e1 s1 r1 k => ⟨x, M1, rho1, s1, r1, k⟩
  refine thn (he.run pins sh s H _ I ⟨tau, M, rho, rs, q'⟩) fun v s1 ⟨x, H1, I1, rv, px, M1, rho1, st, r1, k⟩ => ?_
  have new : FpOk X pins H1 s1.heap.objs.size := I1.fpOk (Nat.le_refl _) (I1.hok.fresh (Nat.le_refl _))
  have fp : ∀ b ∈ [s1.heap.objs.size], FpOk X pins H1 b := fun b hb => by
    have e : b = s1.heap.objs.size := by simpa using hb
    rw [e]; exact new
  cases px <;> simp only [seqW] at k <;> first | exact k.elim | skip
  · -- a text
    rename_i z
    rw [rep_str] at r1
    subst r1
    obtain ⟨t, rfl⟩ := rv
    have k' := OKG.ok (R := fun H1 rho1 w J => WkOk D H1 rho1 w J) (x := ⟨z.length, fun i _ => some (z[i]?.map fun c => .str [c])⟩) k st wk_str
    cases ha : (⟨z.toArray⟩ : Str).cps.all (· < 128)
    · refine wpAny_pyIter_wide ha (pi_one (tk := s1.toks) I1 _ (turn_str _ _ t "str_iterator" (.inr rfl)) ⟨_, Heap.get?_push_size _ rfl, rfl, rfl⟩ k')
    · refine wpAny_pyIter_ascii ha (pi_one (tk := s1.toks) I1 _ (turn_str _ _ t "str_ascii_iterator" (.inl rfl)) ⟨_, Heap.get?_push_size _ rfl, rfl, rfl⟩ k')
  · rename_i xs
    obtain ⟨a, vs, rfl, h1, h2⟩ := rep_tup.mp r1
    cases rv
    have h1' : SqT X.K H1 a vs := by rw [hK]; exact h1
    obtain ⟨its, rvs, p, hz⟩ := I1.tuple h1'
    refine wpAny_pyIter_tuple (show s1.heap.IsTuple a its.toArray from p) ⟨s1.heap.objs.size, [s1.heap.objs.size], _, Itt X.K a, H1, rfl, ?_, turn_tuple a _, ⟨_, Heap.get?_push_size _ rfl, rfl, rfl⟩, fp, k.ok st (wk_tup hK h1 h2)⟩
    exact I1.kept (t' := s1.toks) fun b o e => Heap.get?_push_of_some _ e
  · rename_i n
    obtain ⟨a, rfl, ha⟩ := rep_loc.mp r1
    cases rv
    split at k
    · rename_i w hw
      split at hw
      · rename_i xs hl
        cases hw
        obtain ⟨b, vs, eb, h1, h2⟩ := st.list (rep_loc.mpr ⟨a, rfl, ha⟩) hl
        cases eb
        have h1' : SqL X.K H1 a vs := by rw [hK]; exact h1
        obtain ⟨its, rvs, p, hz⟩ := I1.list h1'
        refine wpAny_pyIter_list p.isList ⟨s1.heap.objs.size, [s1.heap.objs.size], _, Itl X.K a, H1, rfl, ?_, turn_list a _, ⟨_, Heap.get?_push_size _ rfl, rfl, rfl⟩, fp, k.ok st (wk_loc hK ha)⟩
        exact I1.kept (t' := s1.toks) fun b o e => Heap.get?_push_of_some _ e
      · split at hw
        · rename_i kvs hk
          split at hw
          · rename_i ht
            cases hw
            obtain ⟨hs, xs, ho, hxs⟩ := key_dct st ha hk ht
            obtain ⟨es, hr, hz, _⟩ := dn_raw I1 ho
            have hl := dns_len hxs
            refine wpAny_pyIter_dict_raw hs hr ⟨s1.heap.objs.size, [s1.heap.objs.size], _, Itn D.w a kvs.length, H1, rfl, ?_, turn_keysN _, ⟨_, Heap.get?_push_size _ rfl, rfl, ?_⟩, fp, k.ok st (wk_key ha)⟩
            · exact I1.kept (t' := s1.toks) fun b o e => Heap.get?_push_of_some _ e
            · rw [hz, hl]; rfl
          · cases hw
        · cases hw
    · exact k.elim
theorem small_of {i : Int} (h : small62 i = true) : -(2 ^ 62) ≤ i ∧ i < 2 ^ 62 := by
  unfold small62 at h
  simpa using h
theorem sim_rng1 (C : COk D G c X W) {e : PEx} {p p2 : Pos} (h1 : glOk c "range" = true) (h2 : ("range" : Str) ∈ G.bn) (he : PE X (toE e) (teOf D W f)) :
    PI X tg (.Call (.Name "range" p) [toE e] [] p2) (tiOf D W fun tau M => (f tau M).bind fun x M => match x with | .int j => if small62 j then .ok (rngW 0 j) M else .stuck | _ => .stuck) := by
  obtain ⟨g1, _, _⟩ := C.gl h1
  refine PI.imp (pi_range1 g1 (C.bn _ h2) (pa_cons he pa_nil (star_cons e _ _)) (star_cons e _ _)) fun s H Q ⟨tau, M, rho, rs, q⟩ => ⟨tau, M, rho, rs, q.bind fun H1 rho1 x v M1 e1 s1 r1 k => ?_⟩
  cases x <;> first | exact k.elim | skip
  rename_i j
  rw [rep_int] at r1
  subst r1
  by_cases hj : small62 j = true
  · have k : OKG D (fun H1 rho1 w J => WkOk D H1 rho1 w J) H1 rho1 (if small62 j = true then .ok (rngW 0 j) M1 else .stuck) Q (WE W s) := k
    rw [if_pos hj] at k
    obtain ⟨b1, b2⟩ := small_of hj
    refine ⟨j, rfl, b1, b2, ?_⟩
    have := k.ok s1 wk_rng
    rwa [Int.sub_zero] at this
  · have k : OKG D (fun H1 rho1 w J => WkOk D H1 rho1 w J) H1 rho1 (if small62 j = true then .ok (rngW 0 j) M1 else .stuck) Q (WE W s) := k
    rw [if_neg hj] at k
    exact k.elim
theorem wk_rngB {H : Hp} {rho : List Addr} {j : Int} : WkOk D H rho (rngB j) (Itc (0 + (((j - 0).toNat : Nat) : Int) - 1) (-1) (j - 0).toNat) := by
  intro i H1 rho1 M e s
  rw [Int.sub_zero]
  unfold rngB
  show match some (if i < j.toNat then some (PV.int ((j.toNat : Int) - 1 - i)) else none) with | none => True | some none => _ | some (some x) => _
  by_cases h : i < j.toNat
  · rw [if_pos h]
    refine ⟨h, fun w H' y => ?_⟩
    obtain ⟨rfl, rfl⟩ := y
    refine ⟨Ext.refl, s, rep_int.mpr ?_⟩
    congr 1
    omega
  · rw [if_neg h]
    exact Nat.le_of_not_lt h
theorem sim_rngR (C : COk D G c X W) {e : PEx} {p p2 q q2 : Pos} (h1 : glOk c "range" = true) (h2 : ("range" : Str) ∈ G.bn) (h3 : glOk c "reversed" = true) (h4 : ("reversed" : Str) ∈ G.bn) (he : PE X (toE e) (teOf D W f)) :
    PI X tg (.Call (.Name "reversed" q) [.Call (.Name "range" p) [toE e] [] p2] [] q2) (tiOf D W fun tau M => (f tau M).bind fun x M => match x with | .int j => if small62 j then .ok (rngB j) M else .stuck | _ => .stuck) := by
  obtain ⟨g1, _, _⟩ := C.gl h1
  obtain ⟨g2, _, _⟩ := C.gl h3
  refine PI.imp (pi_revR g2 (C.bn _ h4) (prg_1 g1 (C.bn _ h2) he (star_cons e _ _)) rfl) fun s H Q ⟨tau, M, rho, rs, q⟩ => ⟨tau, M, rho, rs, q.bind fun H1 rho1 x v M1 e1 s1 r1 k => ?_⟩
  cases x <;> first | exact k.elim | skip
  rename_i j
  rw [rep_int] at r1
  subst r1
  by_cases hj : small62 j = true
  · have k : OKG D (fun H1 rho1 w J => WkOk D H1 rho1 w J) H1 rho1 (if small62 j = true then .ok (rngB j) M1 else .stuck) Q (WE W s) := k
    rw [if_pos hj] at k
    obtain ⟨b1, b2⟩ := small_of hj
    exact ⟨j, rfl, by decide, by decide, b1, b2, k.ok s1 wk_rngB⟩
  · have k : OKG D (fun H1 rho1 w J => WkOk D H1 rho1 w J) H1 rho1 (if small62 j = true then .ok (rngB j) M1 else .stuck) Q (WE W s) := k
    rw [if_neg hj] at k
    exact k.elim
theorem sim_rng2 (C : COk D G c X W) {a b : PEx} {p p2 : Pos} (h1 : glOk c "range" = true) (h2 : ("range" : Str) ∈ G.bn) (ha : PE X (toE a) (teOf D W f)) (hb : PE X (toE b) (teOf D W g)) :
    PI X tg (.Call (.Name "range" p) [toE a, toE b] [] p2) (tiOf D W fun tau M => (f tau M).bind fun x M => (g tau M).bind fun y M => match x, y with
      | .int i, .int j => if small62 i && small62 j then .ok (rngW i j) M else .stuck
      | _, _ => .stuck) := by
  obtain ⟨g1, _, _⟩ := C.gl h1
  have hs : starEach [toE a, toE b] X.env = [(false, eval (toE a) X.env), (false, eval (toE b) X.env)] := by rw [star_cons, star_cons]; rfl
  refine PI.imp (pi_range2 g1 (C.bn _ h2) (pa_cons ha (pa_cons hb pa_nil (star_cons b _ _)) (star_cons a _ _)) hs (star_cons b _ _)) fun s H Q ⟨tau, M, rho, rs, q⟩ =>
    ⟨tau, M, rho, rs, q.bind fun H1 rho1 x v M1 e1 s1 r1 k => ⟨tau, M1, rho1, rs.ext e1 s1, k.bind fun H2 rho2 y u M2 e2 s2 r2 k2 => ?_⟩⟩
  cases x <;> cases y <;> first | exact k2.elim | skip
  rename_i i j
  rw [rep_int] at r1 r2
  subst r1 r2
  by_cases hj : (small62 i && small62 j) = true
  · have k2 : OKG D (fun H1 rho1 w J => WkOk D H1 rho1 w J) H2 rho2 (if (small62 i && small62 j) = true then .ok (rngW i j) M2 else .stuck) Q (WE W s) := k2
    rw [if_pos hj] at k2
    rw [Bool.and_eq_true] at hj
    obtain ⟨b1, b2⟩ := small_of hj.1
    obtain ⟨b3, b4⟩ := small_of hj.2
    exact ⟨i, j, rfl, ⟨b1, b2, b3, b4⟩, k2.ok s2 wk_rng⟩
  · have k2 : OKG D (fun H1 rho1 w J => WkOk D H1 rho1 w J) H2 rho2 (if (small62 i && small62 j) = true then .ok (rngW i j) M2 else .stuck) Q (WE W s) := k2
    rw [if_neg hj] at k2
    exact k2.elim
theorem wk_enT {H : Hp} {rho : List Addr} {xs : List PV} {a : Addr} {vs : List V} (hK : X.K = D.K) (h1 : SqT D.K H a vs) (h2 : RepL D H rho xs vs) : WkOk D H rho ⟨xs.length, fun i _ => some (xs[i]?.map fun y => .tup [.int (i : Nat), y])⟩ (Iet X.K a vs.length) := by
  intro i H1 rho1 M e s
  show match some (xs[i]?.map fun y => PV.tup [.int (i : Nat), y]) with | none => True | some none => _ | some (some x) => _
  have k1 : SqT X.K H1 a vs := by rw [hK]; exact e.sqT h1
  cases q : xs[i]? with
  | none => exact ⟨vs, k1, rfl, by rw [← h2.len]; exact List.getElem?_eq_none_iff.mp q⟩
  | some y =>
    obtain ⟨v, hv, rv⟩ := h2.get q
    refine ⟨⟨vs, v, k1, rfl, hv⟩, fun w H' z => ?_⟩
    obtain ⟨T, x, rfl, hT, rfl, hx⟩ := z
    have ex : x = v := by have := hx vs k1; rw [hv] at this; cases this; rfl
    subst ex
    exact ⟨Ext.new hT, s.new hT, rep_tup.mpr ⟨T, _, rfl, .inl (.inl upd_same), repL_cons.mpr ⟨_, _, rfl, rep_int.mpr rfl, (RepL.one (rv.ext (e.trans (Ext.new hT))))⟩⟩⟩
theorem wk_enL {H : Hp} {rho : List Addr} {n c : Nat} {a : Addr} (hK : X.K = D.K) (ha : rho[n]? = some a) : WkOk D H rho ⟨c, fun i M => (lst? M (.loc n)).map fun ys => ys[i]?.map fun y => .tup [.int (i : Nat), y]⟩ (Ite X.K a) := by
  intro i H1 rho1 M e s
  show match (lst? M (.loc n)).map fun ys => ys[i]?.map fun y => PV.tup [.int (i : Nat), y] with | none => True | some none => _ | some (some x) => _
  cases q : lst? M (.loc n) with
  | none => trivial
  | some ys =>
    obtain ⟨b, vs, eb, h1, h2⟩ := s.list (rep_loc.mpr ⟨a, rfl, e.loc _ _ ha⟩) q
    cases eb
    rw [← hK] at h1
    show match some (ys[i]?.map fun y => PV.tup [.int (i : Nat), y]) with | none => True | some none => _ | some (some x) => _
    cases q2 : ys[i]? with
    | none => exact ⟨vs, h1, by rw [← h2.len]; exact List.getElem?_eq_none_iff.mp q2⟩
    | some y =>
      obtain ⟨v, hv, rv⟩ := h2.get q2
      refine ⟨⟨vs, v, h1, hv⟩, fun w H' z => ?_⟩
      obtain ⟨T, x, rfl, hT, rfl, hx⟩ := z
      have ex : x = v := by have := hx vs h1; rw [hv] at this; cases this; rfl
      subst ex
      exact ⟨Ext.new hT, s.new hT, rep_tup.mpr ⟨T, _, rfl, .inl (.inl upd_same), repL_cons.mpr ⟨_, _, rfl, rep_int.mpr rfl, RepL.one (rv.ext (Ext.new hT))⟩⟩⟩
theorem wk_zipT {H : Hp} {rho : List Addr} {xs ys : List PV} {a b c : Nat} {vs ws : List V} (hK : X.K = D.K) (h1 : SqT D.K H a vs) (h2 : RepL D H rho xs vs) (k1 : SqT D.K H b ws) (k2 : RepL D H rho ys ws) : WkOk D H rho ⟨c, fun i _ => some (two xs ys i)⟩ (RZ.ItzT X.K a b) := by
  intro i H1 rho1 M e s
  show match some (two xs ys i) with | none => True | some none => _ | some (some x) => _
  have g1 : SqT X.K H1 a vs := by rw [hK]; exact e.sqT h1
  have g2 : SqT X.K H1 b ws := by rw [hK]; exact e.sqT k1
  unfold two
  cases q : xs[i]? with
  | none => exact ⟨vs, ws, g1, g2, .inl (by rw [← h2.len]; exact List.getElem?_eq_none_iff.mp q)⟩
  | some y =>
    cases q2 : ys[i]? with
    | none => exact ⟨vs, ws, g1, g2, .inr (by rw [← k2.len]; exact List.getElem?_eq_none_iff.mp q2)⟩
    | some z =>
      obtain ⟨v, hv, rv⟩ := h2.get q
      obtain ⟨u, hu, ru⟩ := k2.get q2
      refine ⟨⟨vs, ws, v, u, g1, g2, hv, hu⟩, fun w H' t => ?_⟩
      obtain ⟨T, x, x2, rfl, hT, rfl, hx, hx2⟩ := t
      have ex : x = v := by have := hx vs g1; rw [hv] at this; cases this; rfl
      have ex2 : x2 = u := by have := hx2 ws g2; rw [hu] at this; cases this; rfl
      subst ex ex2
      exact ⟨Ext.new hT, s.new hT, rep_tup.mpr ⟨T, _, rfl, .inl (.inl upd_same), repL_cons.mpr ⟨_, _, rfl, rv.ext (e.trans (Ext.new hT)), RepL.one (ru.ext (e.trans (Ext.new hT)))⟩⟩⟩
theorem wk_zipL {H : Hp} {rho : List Addr} {n m c : Nat} {a b : Addr} (hK : X.K = D.K) (ha : rho[n]? = some a) (hb : rho[m]? = some b) : WkOk D H rho ⟨c, fun i M => match lst? M (.loc n), lst? M (.loc m) with
      | some xs, some ys => some (two xs ys i)
      | _, _ => none⟩ (Itz X.K a b) := by
  intro i H1 rho1 M e s
  show match (match lst? M (.loc n), lst? M (.loc m) with
      | some xs, some ys => some (two xs ys i)
      | _, _ => none) with | none => True | some none => _ | some (some x) => _
  cases q : lst? M (.loc n) with
  | none => trivial
  | some xs =>
    cases q' : lst? M (.loc m) with
    | none => trivial
    | some ys =>
      obtain ⟨a', vs, ea, h1, h2⟩ := s.list (rep_loc.mpr ⟨a, rfl, e.loc _ _ ha⟩) q
      cases ea
      obtain ⟨b', ws, eb, k1, k2⟩ := s.list (rep_loc.mpr ⟨b, rfl, e.loc _ _ hb⟩) q'
      cases eb
      rw [← hK] at h1 k1
      show match some (two xs ys i) with | none => True | some none => _ | some (some x) => _
      unfold two
      cases q1 : xs[i]? with
      | none => exact ⟨vs, ws, h1, k1, .inl (by rw [← h2.len]; exact List.getElem?_eq_none_iff.mp q1)⟩
      | some y =>
        cases q2 : ys[i]? with
        | none => exact ⟨vs, ws, h1, k1, .inr (by rw [← k2.len]; exact List.getElem?_eq_none_iff.mp q2)⟩
        | some z =>
          obtain ⟨v, hv, rv⟩ := h2.get q1
          obtain ⟨u, hu, ru⟩ := k2.get q2
          refine ⟨⟨vs, ws, v, u, h1, k1, hv, hu⟩, fun w H' t => ?_⟩
          obtain ⟨T, x, x2, rfl, hT, rfl, hx, hx2⟩ := t
          have ex : x = v := by have := hx vs h1; rw [hv] at this; cases this; rfl
          have ex2 : x2 = u := by have := hx2 ws k1; rw [hu] at this; cases this; rfl
          subst ex ex2
          exact ⟨Ext.new hT, s.new hT, rep_tup.mpr ⟨T, _, rfl, .inl (.inl upd_same), repL_cons.mpr ⟨_, _, rfl, rv.ext (Ext.new hT), RepL.one (ru.ext (Ext.new hT))⟩⟩⟩
theorem wk_revT {H : Hp} {rho : List Addr} {xs : List PV} {a : Addr} {vs : List V} (hK : X.K = D.K) (h1 : SqT D.K H a vs) (h2 : RepL D H rho xs vs) : WkOk D H rho ⟨xs.length, fun i _ => if i < xs.length then xs[xs.length - 1 - i]?.map some else some none⟩ (RT.ItvT X.K a vs.length) := by
  intro i H1 rho1 M e s
  show match (if i < xs.length then xs[xs.length - 1 - i]?.map some else some none) with | none => True | some none => _ | some (some x) => _
  have k1 : SqT X.K H1 a vs := by rw [hK]; exact e.sqT h1
  have hl := h2.len
  by_cases hi : i < xs.length
  · rw [if_pos hi]
    cases q : xs[xs.length - 1 - i]? with
    | none => trivial
    | some y =>
      obtain ⟨v, hv, rv⟩ := h2.get q
      rw [hl] at hv
      refine ⟨⟨by omega, vs, v, k1, hv⟩, fun w H' z => ?_⟩
      obtain ⟨rfl, hx⟩ := z
      have ex : w = v := by have := hx vs k1; rw [hv] at this; cases this; rfl
      subst ex
      exact ⟨Ext.refl, s, rv.ext e⟩
  · rw [if_neg hi]
    show vs.length ≤ i
    omega
theorem wk_revL {H : Hp} {rho : List Addr} {n k : Nat} {a : Addr} (hK : X.K = D.K) (ha : rho[n]? = some a) : WkOk D H rho ⟨k, fun i M => if i < k then (lst? M (.loc n)).bind fun ys => ys[k - 1 - i]?.map some else some none⟩ (Itv X.K a k) := by
  intro i H1 rho1 M e s
  show match (if i < k then (lst? M (.loc n)).bind fun ys => ys[k - 1 - i]?.map some else some none) with | none => True | some none => _ | some (some x) => _
  by_cases hi : i < k
  · rw [if_pos hi]
    cases q : lst? M (.loc n) with
    | none => trivial
    | some ys =>
      obtain ⟨b, vs, eb, h1, h2⟩ := s.list (rep_loc.mpr ⟨a, rfl, e.loc _ _ ha⟩) q
      cases eb
      rw [← hK] at h1
      show match ys[k - 1 - i]?.map some with | none => True | some none => _ | some (some x) => _
      cases q2 : ys[k - 1 - i]? with
      | none => trivial
      | some y =>
        obtain ⟨v, hv, rv⟩ := h2.get q2
        refine ⟨⟨hi, vs, v, h1, hv⟩, fun w H' z => ?_⟩
        obtain ⟨rfl, hx⟩ := z
        have ex : w = v := by have := hx vs h1; rw [hv] at this; cases this; rfl
        subst ex
        exact ⟨Ext.refl, s, rv⟩
  · rw [if_neg hi]
    show k ≤ i
    omega
theorem sim_enum (C : COk D G c X W) {e : PEx} {p p2 pos : Pos} {elts : List Expr} {kk : Nat} (h1 : glOk c "enumerate" = true) (h2 : ("enumerate" : Str) ∈ G.bn) (he : PE X (toE e) (teOf D W f)) :
    PI X (.Tuple elts kk pos) (.Call (.Name "enumerate" p) [toE e] [] p2) (tiOf D W fun tau M => (f tau M).bind fun x M => match enumW M x with | some w => .ok w M | none => .stuck) := by
  obtain ⟨g1, _, _⟩ := C.gl h1
  refine PI.imp (pi_enA g1 (C.bn _ h2) (pa_cons he pa_nil (star_cons e _ _)) (star_cons e _ _)) fun s H Q ⟨tau, M, rho, rs, q⟩ => ⟨tau, M, rho, rs, q.bind fun H1 rho1 x v M1 e1 s1 r1 k => ?_⟩
  cases x <;> simp only [enumW] at k <;> first | exact k.elim | skip
  · rename_i xs
    obtain ⟨a, vs, rfl, k1, k2⟩ := rep_tup.mp r1
    exact ⟨a, vs, rfl, .inr ⟨by rw [C.kK]; exact k1, k.ok s1 (wk_enT C.kK k1 k2)⟩⟩
  · rename_i n
    obtain ⟨a, rfl, ea⟩ := rep_loc.mp r1
    split at k
    · rename_i w hw
      split at hw
      · rename_i xs hx
        cases hw
        obtain ⟨b, vs, eb, k1, k2⟩ := s1.list r1 hx
        cases eb
        exact ⟨a, vs, rfl, .inl ⟨by rw [C.kK]; exact k1, k.ok s1 (wk_enL C.kK ea)⟩⟩
      · cases hw
    · exact k.elim
theorem sim_zip (C : COk D G c X W) {a b : PEx} {p p2 pos : Pos} {elts : List Expr} {kk : Nat} (h1 : glOk c "zip" = true) (h2 : ("zip" : Str) ∈ G.bn) (ha : PE X (toE a) (teOf D W f)) (hb : PE X (toE b) (teOf D W g)) :
    PI X (.Tuple elts kk pos) (.Call (.Name "zip" p) [toE a, toE b] [] p2) (tiOf D W fun tau M => (f tau M).bind fun x M => (g tau M).bind fun y M => match zipW M x y with | some w => .ok w M | none => .stuck) := by
  obtain ⟨g1, _, _⟩ := C.gl h1
  have hs2 : starEach [toE b] X.env = (false, eval (toE b) X.env) :: starEach [] X.env := star_cons b _ _
  refine PI.imp (RZ.pi_zipA g1 (C.bn _ h2) (pa_cons ha (pa_cons hb pa_nil hs2) (star_cons a _ _)) (star_cons a _ _) (by rw [hs2]; rfl)) fun s H Q ⟨tau, M, rho, rs, q⟩ => ⟨tau, M, rho, rs, q.bind fun H1 rho1 x v M1 e1 s1 r1 k => ⟨tau, M1, rho1, rs.ext e1 s1, k.bind fun H2 rho2 y u M2 e2 s2 r2 k => ?_⟩⟩
  have r1 := r1.ext e2
  cases x <;> cases y <;> simp only [zipW] at k <;> first | exact k.elim | skip
  · rename_i xs ys
    obtain ⟨a, vs, rfl, k1, k2⟩ := rep_tup.mp r1
    obtain ⟨b, ws, rfl, k3, k4⟩ := rep_tup.mp r2
    exact ⟨a, b, vs, ws, rfl, .inr ⟨by rw [C.kK]; exact k1, by rw [C.kK]; exact k3, k.ok s2 (wk_zipT C.kK k1 k2 k3 k4)⟩⟩
  · rename_i n m
    obtain ⟨a, rfl, ea⟩ := rep_loc.mp r1
    obtain ⟨b, rfl, eb⟩ := rep_loc.mp r2
    split at k
    · rename_i w hw
      split at hw
      · rename_i xs ys hx hy
        cases hw
        obtain ⟨a', vs, ea', k1, k2⟩ := s2.list r1 hx
        cases ea'
        obtain ⟨b', ws, eb', k3, k4⟩ := s2.list r2 hy
        cases eb'
        exact ⟨a, b, vs, ws, rfl, .inl ⟨by rw [C.kK]; exact k1, by rw [C.kK]; exact k3, k.ok s2 (wk_zipL C.kK ea eb)⟩⟩
      · cases hw
    · exact k.elim
theorem sim_rev (C : COk D G c X W) {e : PEx} {p p2 : Pos} (h1 : glOk c "reversed" = true) (h2 : ("reversed" : Str) ∈ G.bn) (he : PE X (toE e) (teOf D W f)) :
    PI X tg (.Call (.Name "reversed" p) [toE e] [] p2) (tiOf D W fun tau M => (f tau M).bind fun x M => match revW M x with | some w => .ok w M | none => .stuck) := by
  obtain ⟨g1, _, _⟩ := C.gl h1
  refine PI.imp (RT.pi_revA g1 (C.bn _ h2) he (star_cons e _ _)) fun s H Q ⟨tau, M, rho, rs, q⟩ => ⟨tau, M, rho, rs, q.bind fun H1 rho1 x v M1 e1 s1 r1 k => ?_⟩
  cases x <;> simp only [revW] at k <;> first | exact k.elim | skip
  · rename_i xs
    obtain ⟨a, vs, rfl, k1, k2⟩ := rep_tup.mp r1
    exact ⟨a, vs, rfl, .inr ⟨by rw [C.kK]; exact k1, k.ok s1 (wk_revT C.kK k1 k2)⟩⟩
  · rename_i n
    obtain ⟨a, rfl, ea⟩ := rep_loc.mp r1
    split at k
    · rename_i w hw
      split at hw
      · rename_i xs hx
        cases hw
        obtain ⟨b, vs, eb, k1, k2⟩ := s1.list r1 hx
        cases eb
        refine ⟨a, vs, rfl, .inl ⟨by rw [C.kK]; exact k1, k.ok s1 ?_⟩⟩
        rw [← k2.len]
        exact wk_revL C.kK ea
      · cases hw
    · exact k.elim
theorem sim_noI {e : Expr} : PI X tg e (tiOf D W fun _ _ => .stuck) := ⟨fun pins sh s H R I q => by obtain ⟨tau, M, rho, rs, q⟩ := q; exact q.elim⟩
end

/-! ### list(range(..)) -/
theorem rg_rep {H : Hp} {rho : List Addr} (i : Int) : ∀ (ks : List Nat), RepL D H rho (ks.map fun (k : Nat) => PV.int (i + k)) (ks.map fun (k : Nat) => V.int (i + k))
  | [] => repL_nil.mpr rfl
  | k :: ks => repL_cons.mpr ⟨_, _, rfl, rep_int.mpr rfl, rg_rep i ks⟩
theorem rngL_run {i j : Int} {M : Sto} {H : Hp} {rho : List Addr} {Q : VK} (st : StoOk D H rho M) (h : PRM D H rho (rngL i j M) Q) : RgOk i j ∧ ∀ q, H q = none → Q (.ref q) (upd H q (.lst (rgV i j))) := by
  unfold rngL at h
  split at h
  · rename_i hc
    simp only [Bool.and_eq_true, decide_eq_true_eq] at hc
    obtain ⟨b1, b2⟩ := small_of hc.1.1
    obtain ⟨b3, b4⟩ := small_of hc.1.2
    have b5 : (j - i).toNat ≤ 2 ^ 24 := hc.2
    exact ⟨⟨b1, b2, b3, b4, b5⟩, (h.newL st (rg_rep i _)).2⟩
  · exact h.elim
theorem sim_lrg (C : COk D G c X W) {e : PEx} {f : Sig → Sto → Res PV} {p p2 q q2 : Pos} (h1 : glOk c "list" = true) (h2 : ("list" : Str) ∈ G.bn) (h3 : glOk c "range" = true) (h4 : ("range" : Str) ∈ G.bn) (he : PE X (toE e) (teOf D W f)) :
    PE X (.Call (.Name "list" p) [.Call (.Name "range" p2) [toE e] [] q2] [] q) (teOf D W fun tau M => (f tau M).bind fun x M => match x with | .int j => Res.of (rngL 0 j M) | _ => .stuck) := by
  obtain ⟨g1, _, _⟩ := C.gl h1
  obtain ⟨g2, _, _⟩ := C.gl h3
  refine PE.imp (pe_listRg C.calm g1 (C.bn _ h2) (prg_1 g2 (C.bn _ h4) he (star_cons e _ _))) fun s H Q ⟨tau, M, rho, rs, q⟩ => ⟨tau, M, rho, rs, q.bind fun H1 rho1 x v M1 e1 s1 r1 k => ?_⟩
  cases x <;> first | exact k.elim | skip
  rw [rep_int] at r1
  exact ⟨_, r1, rngL_run s1 k.prm⟩
theorem sim_lrg2 (C : COk D G c X W) {a b : PEx} {f g : Sig → Sto → Res PV} {p p2 q q2 : Pos} (h1 : glOk c "list" = true) (h2 : ("list" : Str) ∈ G.bn) (h3 : glOk c "range" = true) (h4 : ("range" : Str) ∈ G.bn) (ha : PE X (toE a) (teOf D W f)) (hb : PE X (toE b) (teOf D W g)) :
    PE X (.Call (.Name "list" p) [.Call (.Name "range" p2) [toE a, toE b] [] q2] [] q) (teOf D W fun tau M => (f tau M).bind fun x M => (g tau M).bind fun y M => match x, y with | .int i, .int j => Res.of (rngL i j M) | _, _ => .stuck) := by
  obtain ⟨g1, _, _⟩ := C.gl h1
  obtain ⟨g2, _, _⟩ := C.gl h3
  have hs : starEach [toE a, toE b] X.env = [(false, eval (toE a) X.env), (false, eval (toE b) X.env)] := by rw [star_cons, star_cons]; rfl
  have hb2 : starEach [toE b] X.env = (false, eval (toE b) X.env) :: starEach [] X.env := star_cons b _ _
  refine PE.imp (pe_listRg C.calm g1 (C.bn _ h2) (prg_2 g2 (C.bn _ h4) ha hb (star_cons a _ _) hb2 (by rw [hb2]; rfl))) fun s H Q ⟨tau, M, rho, rs, q⟩ => ⟨tau, M, rho, rs, q.bind fun H1 rho1 x v M1 e1 s1 r1 k =>
    ⟨tau, M1, rho1, rs.ext e1 s1, k.bind fun H2 rho2 y u M2 e2 s2 r2 k2 => ?_⟩⟩
  cases x <;> cases y <;> first | exact k2.elim | skip
  rw [rep_int] at r1 r2
  exact ⟨_, _, r1, r2, rngL_run s2 k2.prm⟩

/-! ### tuple(reversed(x)) -/
theorem sim_trev (C : COk D G c X W) {e : PEx} {f : Sig → Sto → Res PV} {p p2 q q2 : Pos} (h1 : glOk c "tuple" = true) (h2 : ("tuple" : Str) ∈ G.bn) (h3 : glOk c "reversed" = true) (h4 : ("reversed" : Str) ∈ G.bn) (he : PE X (toE e) (teOf D W f)) :
    PE X (.Call (.Name "tuple" p) [.Call (.Name "reversed" p2) [toE e] [] q2] [] q) (teOf D W fun tau M => (f tau M).bind fun x M => Res.of (revT x M)) := by
  obtain ⟨g1, _, _⟩ := C.gl h1
  obtain ⟨g2, _, _⟩ := C.gl h3
  refine PE.imp (pe_revA C.calm g1 (C.bn _ h2) g2 (C.bn _ h4) he (star_cons e _ _)) fun s H Q ⟨tau, M, rho, rs, q⟩ => ⟨tau, M, rho, rs, q.bind fun H1 rho1 x v M1 e1 s1 r1 k => ?_⟩
  replace k := k.prm
  cases x <;> simp only [revT] at k <;> first | exact k.elim | skip
  · rename_i xs
    obtain ⟨a, vs, rfl, k1, k2⟩ := rep_tup.mp r1
    exact ⟨a, vs, rfl, .inr (by rw [C.kK]; exact k1), k.tup s1 k2.rev⟩
  · rename_i n
    cases hx : lst? M1 (.loc n) with
    | none => rw [hx] at k; exact k.elim
    | some xs =>
      rw [hx] at k
      obtain ⟨b, vs, eb, k1, k2⟩ := s1.list r1 hx
      exact ⟨b, vs, eb, .inl (by rw [C.kK]; exact k1), k.tup s1 k2.rev⟩

theorem sim_lrv (C : COk D G c X W) {e : PEx} {f : Sig → Sto → Res PV} {p p2 q q2 : Pos} (h1 : glOk c "list" = true) (h2 : ("list" : Str) ∈ G.bn) (h3 : glOk c "reversed" = true) (h4 : ("reversed" : Str) ∈ G.bn) (he : PE X (toE e) (teOf D W f)) :
    PE X (.Call (.Name "list" p) [.Call (.Name "reversed" p2) [toE e] [] q2] [] q) (teOf D W fun tau M => (f tau M).bind fun x M => Res.of (revL x M)) := by
  obtain ⟨g1, _, _⟩ := C.gl h1
  obtain ⟨g2, _, _⟩ := C.gl h3
  refine PE.imp (pe_listRev C.calm g1 (C.bn _ h2) g2 (C.bn _ h4) he (star_cons e _ _)) fun s H Q ⟨tau, M, rho, rs, q⟩ => ⟨tau, M, rho, rs, q.bind fun H1 rho1 x v M1 e1 s1 r1 k => ?_⟩
  replace k := k.prm
  cases x <;> simp only [revL] at k <;> first | exact k.elim | skip
  rename_i n
  cases hx : lst? M1 (.loc n) with
  | none => rw [hx] at k; exact k.elim
  | some xs =>
    rw [hx] at k
    obtain ⟨b, vs, eb, k1, k2⟩ := s1.list r1 hx
    exact ⟨b, vs, eb, by rw [C.kK]; exact k1, (k.newL s1 k2.rev).2⟩

/-! len(set(..)) -/
def keyOf : PV → Key
  | .int i => .inl i
  | .str s => .inr ⟨s.toArray⟩
  | _ => .inl 0
theorem key_eq {x y : PV} (hx : keyP x = true) (hy : keyP y = true) : eqF x y = decide (keyOf x = keyOf y) := by
  cases x with
  | int a =>
    cases y with
    | int b =>
      show (a == b) = _
      exact (key_ll a b).symm
    | str b => exact (key_lr _ _).symm
    | _ => cases hy
  | str a =>
    cases y with
    | int b => exact (key_rl _ _).symm
    | str b =>
      show (a == b) = _
      refine Eq.trans ?_ (key_rr _ _).symm
      by_cases e : a = b
      · subst e; simp
      · rw [beq_eq_false_iff_ne.mpr e, decide_eq_false fun z => e ?_]
        have := congrArg (fun t : Str => t.cps.toList) z
        simpa using this
    | _ => cases hy
  | _ => cases hx
theorem addP_key {a : List PV} {x : PV} (ha : ∀ z ∈ a, keyP z = true) (hx : keyP x = true) : (addP a x).map keyOf = kAdd (a.map keyOf) (keyOf x) := by
  have e : (a.any fun z => eqF z x) = kIn (a.map keyOf) (keyOf x) := by
    unfold kIn
    rw [List.any_map]
    induction a with
    | nil => rfl
    | cons z a ih =>
      rw [List.any_cons, List.any_cons, ih fun y hy => ha y (List.mem_cons_of_mem _ hy), key_eq (ha z List.mem_cons_self) hx]
      rfl
  unfold addP kAdd
  rw [e]
  split
  · rfl
  · rw [List.map_append]; rfl
theorem foldP_key : ∀ {xs a : List PV}, (∀ z ∈ a, keyP z = true) → (∀ z ∈ xs, keyP z = true) → (xs.foldl addP a).map keyOf = (xs.map keyOf).foldl kAdd (a.map keyOf)
  | [], a, _, _ => rfl
  | x :: xs, a, ha, hx => by
    rw [List.foldl_cons, List.map_cons, List.foldl_cons, ← addP_key ha (hx x List.mem_cons_self)]
    refine foldP_key (fun z hz => ?_) fun z hz => hx z (List.mem_cons_of_mem _ hz)
    unfold addP at hz
    split at hz
    · exact ha z hz
    · rcases List.mem_append.mp hz with c | c
      · exact ha z c
      · rw [List.mem_singleton.mp c]; exact hx x List.mem_cons_self
theorem range_nth (ks : List Key) : (List.range ks.length).map (kNth ks) = ks := by
  refine List.ext_getElem? fun i => ?_
  rw [List.getElem?_map]
  by_cases h : i < ks.length
  · rw [List.getElem?_range h, List.getElem?_eq_getElem h]
    show some (ks.getD i (.inl 0)) = _
    rw [List.getD_eq_getElem?_getD, List.getElem?_eq_getElem h]; rfl
  · rw [List.getElem?_eq_none (by simpa using h), List.getElem?_eq_none (by omega)]; rfl
theorem setP_len {xs : List PV} (h : ∀ z ∈ xs, keyP z = true) : (setP xs).length = (kSet (kNth (xs.map keyOf)) (xs.map keyOf).length).length := by
  unfold kSet
  rw [range_nth]
  have := foldP_key (xs := xs) (a := []) (fun z hz => by cases hz) h
  rw [← List.length_map (f := keyOf), setP, this]
  rfl
theorem rep_keys {H : Hp} {rho : List Addr} : ∀ {xs : List PV} {vs : List V}, (∀ z ∈ xs, keyP z = true) → RepL D H rho xs vs → vs = (xs.map keyOf).map kV
  | [], vs, _, h => by rw [repL_nil] at h; subst h; rfl
  | x :: xs, vs, hk, h => by
    rw [repL_cons] at h
    obtain ⟨v, r, rfl, h1, h2⟩ := h
    rw [rep_keys (fun z hz => hk z (List.mem_cons_of_mem _ hz)) h2]
    have kx := hk x List.mem_cons_self
    cases x <;> first | cases kx | skip
    · rw [rep_int] at h1; subst h1; rfl
    · rw [rep_str] at h1; subst h1; rfl
theorem sim_lns (C : COk D G c X W) {e : PEx} {f : Sig → Sto → Res PV} {p p2 q q2 : Pos} (h1 : glOk c "len" = true) (h2 : ("len" : Str) ∈ G.bn) (h3 : glOk c "set" = true) (h4 : ("set" : Str) ∈ G.bn) (he : PE X (toE e) (teOf D W f)) :
    PE X (.Call (.Name "len" p) [.Call (.Name "set" p2) [toE e] [] q2] [] q) (teOf D W fun tau M => (f tau M).bind fun x M => Res.of (lenS x M)) := by
  obtain ⟨g1, _, _⟩ := C.gl h1
  obtain ⟨g2, _, _⟩ := C.gl h3
  refine PE.imp (pe_lenSetK C.calm g1 (C.bn _ h2) g2 (C.bn _ h4) he (star_cons e _ _)) fun s H Q ⟨tau, M, rho, rs, q⟩ => ⟨tau, M, rho, rs, q.bind fun H1 rho1 x v M1 e1 s1 r1 k => ?_⟩
  replace k := k.prm
  cases x <;> simp only [lenS] at k <;> first | exact k.elim | skip
  rename_i n
  cases hx : lst? M1 (.loc n) with
  | none => rw [hx] at k; exact k.elim
  | some xs =>
    rw [hx] at k
    obtain ⟨b, vs, eb, k1, k2⟩ := s1.list r1 hx
    dsimp only at k
    split at k
    · rename_i hc
      rw [Bool.and_eq_true, decide_eq_true_eq, List.all_eq_true] at hc
      have ev := rep_keys hc.1 k2
      rw [ev] at k1
      refine ⟨b, xs.map keyOf, eb, by rw [C.kK]; exact k1, by rw [List.length_map]; exact hc.2, ?_⟩
      rw [← setP_len hc.1]
      exact k.ok s1 (rep_int.mpr rfl)
    · exact k.elim

theorem rep_strs {H : Hp} {rho : List Addr} : ∀ {xs : List PV} {vs : List V} {ys : List (List Nat)}, strs? xs = some ys → RepL D H rho xs vs → vs = (ys.map fun a => (⟨a.toArray⟩ : Str)).map V.str
  | [], vs, ys, h, r => by
    cases h
    rw [repL_nil] at r
    subst r
    rfl
  | x :: xs, vs, ys, h, r => by
    cases x <;> try (cases h; done)
    rename_i a
    obtain ⟨zs, e, rfl⟩ := Option.map_eq_some_iff.mp (show (strs? xs).map (a :: ·) = some ys from h)
    rw [repL_cons] at r
    obtain ⟨v, rs, rfl, h1, h2⟩ := r
    rw [rep_strs e h2]
    rw [rep_str] at h1
    subst h1
    rfl
/-- d.get(k, x) -/
theorem sim_dgt (C : COk D G c X W) {o e z : PEx} {fo fe fz : Sig → Sto → Res PV} {pa p : Pos} (hl : (pa.endLine == p.line) = true) (ho : PE X (toE o) (teOf D W fo)) (he : PE X (toE e) (teOf D W fe)) (hz : PE X (toE z) (teOf D W fz)) :
    PE X (.Call (.Attribute (toE o) "get" pa) [toE e, toE z] [] p) (teOf D W fun tau M => (fo tau M).bind fun d M => match dctOf M d with
      | some _ => (fe tau M).bind fun y M => (fz tau M).bind fun x M => Res.of (getP d y x M)
      | none => .stuck) := ⟨fun pins s σ H Q I ⟨tau, M, rho, rs, q⟩ => by
  have few : ((backTo p (starEach [toE e, toE z] X.env)).all (fun x => !x.1) && (backToKw p (keywordEach [] X.env)).all (fun x => x.1.isSome)
      && decide (([toE e, toE z] : List Expr).length + ([] : List Keyword).length + (if ([] : List Keyword).isEmpty then 0 else 1) < 30)) = true := by
    rw [star_cons e [toE z], star_cons z []]; rfl
  have trees : backTo p (starEach [toE e, toE z] X.env) = [(false, eval (toE e) X.env), (false, eval (toE z) X.env)] := by
    rw [star_cons e [toE z], star_cons z []]; rfl
  refine wpAny_Call_method (base_toE o _ _) few hl PySem.F.plainAttrs_dict PySem.F.slot_dict_get PySem.F.type_dict_get (thn (ho.run pins s σ H (fun v H1 => ∃ x M1 rho1, RelS D H1 rho1 M1 σ tau ∧ Rep D H1 rho1 x v ∧ OKG D (Rep D) H1 rho1 (match dctOf M1 x with
      | some _ => (fe tau M1).bind fun y M => (fz tau M).bind fun x' M => Res.of (getP x y x' M)
      | none => .stuck) Q (fun cls d H' => W cls d σ H')) I ⟨tau, M, rho, rs, q.bind fun H1 rho1 x v M1 e1 s1 r1 q1 => ⟨x, M1, rho1, rs.ext e1 s1, r1, q1⟩⟩) fun u s1 ⟨v, H1, I1, rv, x, M1, rho1, rs1, rx, q1⟩ => ?_)
  cases hk : dctOf M1 x with
  | none => rw [hk] at q1; exact q1.elim
  | some kvs =>
    rw [hk] at q1
    obtain ⟨n, a, od, rfl, hm, ea, rfl, hho, hd⟩ := dct_at rs1.mem rx hk
    obtain rfl : u = Value.ref a := rv
    obtain ⟨t1, t2⟩ := dct_ty C.kK C.kw I1 hho hd
    refine ⟨t1, t2, ?_⟩
    rw [trees]
    refine Calls.callWith_builtin rfl (Calls.evalArgs_plain (Calls.spliced_cons (thn (he.run pins s1 σ H1 (fun w H2 => ∃ y M2 rho2, RelS D H2 rho2 M2 σ tau ∧ Rep D H2 rho2 (.loc n) (.ref a) ∧ Rep D H2 rho2 y w ∧ OKG D (Rep D) H2 rho2 ((fz tau M2).bind fun x' M => Res.of (getP (.loc n) y x' M)) Q (fun cls d H' => W cls d σ H')) I1 ⟨tau, M1, rho1, rs1, q1.bind fun H2 rho2 y w M2 e2 s2 r2 q2 => ⟨y, M2, rho2, rs1.ext e2 s2, rx.ext e2, r2, q2⟩⟩) fun u2 s2 ⟨w, H2, I2, rw', y, M2, rho2, rs2, rx2, ry2, q2⟩ =>
      Calls.spliced_cons (thn (hz.run pins s2 σ H2 (fun z H3 => ∃ x' M3 rho3, StoOk D H3 rho3 M3 ∧ Rep D H3 rho3 (.loc n) (.ref a) ∧ Rep D H3 rho3 y w ∧ Rep D H3 rho3 x' z ∧ OKG D (Rep D) H3 rho3 (Res.of (getP (.loc n) y x' M3)) Q (fun cls d H' => W cls d σ H')) I2 ⟨tau, M2, rho2, rs2, q2.bind fun H3 rho3 x' z M3 e3 s3 r3 q3 => ⟨x', M3, rho3, s3, rx2.ext e3, ry2.ext e3, r3, q3⟩⟩) fun u3 s3 ⟨z, H3, I3, rz', x', M3, rho3, st3, rx3, ry3, rz3, q3⟩ => Calls.spliced_nil ?_))))
    replace q3 := q3.prm
    unfold getP at q3
    cases hk3 : dctOf M3 (.loc n) with
    | none => rw [hk3] at q3; exact q3.elim
    | some ks =>
      rw [hk3] at q3
      dsimp only at q3
      cases hg : dgetP ks y with
      | none => rw [hg] at q3; exact q3.elim
      | some r =>
        rw [hg] at q3
        obtain ⟨n', a', od', en, hm3, ea3, ev, hho3, hd3⟩ := dct_at st3 rx3 hk3
        cases ev
        exact dct_getd C.kK C.kw C.room.units I3 hho3 hd3 ry3 rw' rz3 rz' hg fun w' u' s' I' rel rep => ⟨w', H3, I', rel, q3.ok st3 rep⟩⟩
theorem sim_jn (C : COk D G c X W) {e : PEx} {f : Sig → Sto → Res PV} {s : Str} {k : Nat} {ps pa p : Pos} (hl : (pa.endLine == p.line) = true) (he : PE X (toE e) (teOf D W f)) :
    PE X (.Call (.Attribute (.Constant (.str s) k ps) "join" pa) [toE e] [] p) (teOf D W fun tau M => (f tau M).bind fun x M => Res.of (jnP s x M)) := by
  refine PE.imp (pe_join pe_str he (star_cons e _ _) rfl hl) fun st H Q ⟨tau, M, rho, rs, q⟩ => ⟨⟨_, rfl⟩, tau, M, rho, rs, q.bind fun H1 rho1 x v M1 e1 s1 r1 k => ?_⟩
  replace k := k.prm
  cases x <;> simp only [jnP] at k <;> first | exact k.elim | skip
  rename_i n
  cases hx : lst? M1 (.loc n) with
  | none => rw [hx] at k; exact k.elim
  | some xs =>
    rw [hx] at k
    obtain ⟨b, vs, eb, k1, k2⟩ := s1.list r1 hx
    dsimp only at k
    cases hy : strs? xs with
    | none => rw [hy] at k; exact k.elim
    | some ys =>
      rw [hy] at k
      dsimp only at k
      split at k
      · rename_i hc
        rw [rep_strs hy k2] at k1
        refine ⟨s, b, ys.map fun a => (⟨a.toArray⟩ : Str), rfl, by rw [eb], .inl (by rw [C.kK]; exact k1), hc, ?_⟩
        exact k.ok s1 (rep_str.mpr (by simp))
      · exact k.elim

/-! ### comprehensions -/
/-- the context of a block -/
theorem COk.blk (C : COk D G c X W) {sc : Scope} (hk : sc.kind = .function) (s : Shared) (H : Hp) (Ca : Addr) (cl : List (Str × Addr)) (fp : List Addr) :
    COk D G ⟨c.N, sc, c.lev⟩ (X.blk s H sc (compEnvC sc cl Ca X.env) fp) (fun _ _ _ _ => False) := by
  refine ⟨C.kK, C.kw, C.nN, ScOk.relabel sc X.env, C.nd, C.calm, hk, C.gd, C.room, takesM0, PassesOwn.never, fun x h => ?_, C.fok, C.bn, C.cst, C.cx, C.ow, C.oc⟩
  rcases h with h | h
  · right
    rcases ScOk.relabel sc X.env x _ h with q | ⟨q, _⟩
    · exact q
    · cases q
  · left
    show (sc.names.lookup x == some .cell) = true
    have h' : sc.names.lookup x = some .cell := h
    rw [h']; rfl
theorem blk_ok (C : COk D G c X W) {sc : Scope} {own : Own} (h : blkC c.N c.sc sc own = true) : BlkOk X.N X.env.scope sc own := by
  have b := blkOk_by h
  rw [C.nN]
  refine ⟨b.kind, b.uniq, b.ix, fun y hy e => ?_, b.own⟩
  rcases b.free y hy e with q | q
  · rcases C.sc _ _ q with z | ⟨z, _⟩
    · exact .inl z
    · cases z
  · rcases C.sc _ _ q with z | ⟨_, z⟩
    · exact .inr z
    · exact .inl z
theorem OKG.nox {α β : Type} {R : Hp → List Addr → α → β → Prop} {H0 : Hp} {rho0 : List Addr} {r : Res α} {Q : β → Hp → Prop} {E E' : XK} (h : OKG D R H0 rho0 r.nox Q E) : OKG D R H0 rho0 r Q E' := by
  cases r with
  | ok x M => exact h
  | exc c v M => exact h.elim
  | stuck => exact h
theorem OKG.noxb {α β γ δ : Type} {R : Hp → List Addr → α → β → Prop} {R2 : Hp → List Addr → γ → δ → Prop} {H0 : Hp} {rho0 : List Addr} {r : Res α} {g : α → Sto → Res γ} {Q : δ → Hp → Prop} {Q' : β → Hp → Prop} {E E' : XK}
    (h : OKG D R2 H0 rho0 (r.nox.bind g) Q E) (k : ∀ (H : Hp) (rho : List Addr) (x : α) (v : β) (M : Sto), Ext H0 rho0 H rho → StoOk D H rho M → R H rho x v → OKG D R2 H rho (g x M) Q E → Q' v H) : OKG D R H0 rho0 r Q' E' := by
  cases r with
  | ok x M => exact fun H rho v e s q => k H rho x v M e s q (OKG.ext e h)
  | exc c y M => exact h.elim
  | stuck => exact h
theorem lc_run {t : PTg} {own : Own} {fi : Sig → Sto → Res Walk} {ft : Sig → Sto → Res Bool} {fe : Sig → Sto → Res PV} (hown : ∀ i ∈ slotsT t, i ∈ own.map (·.2)) :
    ∀ s H Q, teOf D W (fun tau M => (fi tau M).bind fun w M => lcGo M.length w.at_ (fun v M => asgT t v (wipeP tau (own.map (·.2))) M) (fun tau M => (ft tau M).nox) (fun tau M => (fe tau M).nox) w.cnt 0 (M ++ [.lst []])) s H Q →
      tLc (tiOf D W fi) (tgOf D t) (ttOf D (fun _ _ _ _ => False) ft) (teOf D (fun _ _ _ _ => False) fe) (own.map (·.2)) s H Q := by
  refine fun s H Q ⟨tau, M, rho, rs, q⟩ =>
    ⟨tau, M, rho, rs, q.bind fun H1 rho1 w J M1 e1 s1 wk k => fun Dp np => ?_⟩
  have ew : Ext H1 rho1 (upd H1 Dp (.lst [])) (rho1 ++ [Dp]) := Ext.newL np
  have sw := s1.newL (xs := []) np (repL_nil.mpr rfl)
  have rs0 : RelS D (upd H1 Dp (.lst [])) (rho1 ++ [Dp]) (M1 ++ [.lst []]) s tau := (rs.ext e1 s1).ext ew sw
  have atD : (rho1 ++ [Dp])[M1.length]? = some Dp := by rw [← s1.len]; simp
  refine ⟨fun i m H2 => ∃ rho2 M2, Ext (upd H1 Dp (.lst [])) (rho1 ++ [Dp]) H2 rho2 ∧ StoOk D H2 rho2 M2 ∧
    OKG D (Rep D) H2 rho2 (lcGo M1.length w.at_ (fun v M => asgT t v (wipeP tau (own.map (·.2))) M) (fun tau M => (ft tau M).nox) (fun tau M => (fe tau M).nox) m i M2) Q (WE W s), ⟨w.cnt, rho1 ++ [Dp], _, Ext.refl, sw, OKG.ext ew k⟩, fun i m H2 ⟨rho2, M2, e2, s2, k2⟩ => ?_⟩
  have wk2 := wk i H2 rho2 M2 (ew.trans e2) s2
  have isD : Rep D H2 rho2 (.loc M1.length) (.ref Dp) := rep_loc.mpr ⟨Dp, rfl, e2.loc _ _ atD⟩
  have rs2 : RelS D H2 rho2 M2 s tau := rs0.ext e2 s2
  cases m with
  | zero =>
    simp only [lcGo] at k2
    split at k2
    · rename_i hw
      rw [hw] at wk2
      exact .inl ⟨wk2, k2.ok s2 isD⟩
    · exact k2.elim
  | succ m =>
    simp only [lcGo] at k2
    split at k2
    · rename_i hw
      rw [hw] at wk2
      exact .inl ⟨wk2, k2.ok s2 isD⟩
    · rename_i x hw
      rw [hw] at wk2
      obtain ⟨go, yld⟩ := wk2
      refine .inr ⟨go, fun H3 => ∃ rho3 M3, Ext (upd H1 Dp (.lst [])) (rho1 ++ [Dp]) H3 rho3 ∧ StoOk D H3 rho3 M3 ∧
        OKG D (Rep D) H3 rho3 (lcGo M1.length w.at_ (fun v M => asgT t v (wipeP tau (own.map (·.2))) M) (fun tau M => (ft tau M).nox) (fun tau M => (fe tau M).nox) m (i + 1) M3) Q (WE W s), fun H3 hN => ⟨m, Nat.lt_succ_self m, hN⟩, fun v H3 y => ?_⟩
      obtain ⟨e3, s3, r3⟩ := yld v H3 y
      split at k2
      · rename_i tau2 ha
        have rs3 : RelS D H3 rho2 M2 (L2.wipe s (own.map (·.2))) (wipeP tau (own.map (·.2))) := (rs2.ext e3 s3).wipe _
        refine ⟨x, _, M2, rho2, tau2, rs3, r3, ha, fun s' rs' hw => ⟨?_, tau2, M2, rho2, rs', OKG.noxb (OKG.ext e3 k2) fun H4 rho4 b v4 M4 e4 s4 r4 k4 => ?_⟩⟩
        · have h0 := hw (own.map (·.2)) hown
          rw [h0]
          have wipe2 : ∀ vs : List Nat, L2.wipe (L2.wipe s vs) vs = L2.wipe s vs := fun vs => by
            have gen : ∀ us : List Nat, (∀ i ∈ us, i ∈ vs) → L2.wipe (L2.wipe s us) vs = L2.wipe s vs := fun us => by
              induction us with
              | nil => intro _; rfl
              | cons u us ih =>
                intro hu
                show L2.wipe ((L2.wipe s us).set u none) vs = _
                rw [wipe_set (hu u (by simp)), ih fun i hi => hu i (by simp [hi])]
            exact gen vs fun _ h => h
          exact wipe2 _
        · have r4 : v4 = b := r4
          subst r4
          cases v4 with
          | false => exact ⟨rho4, M4, (e2.trans e3).trans e4, s4, k4⟩
          | true =>
            refine ⟨tau2, M4, rho4, rs'.ext e4 s4, OKG.noxb k4 fun H5 rho5 px v5 M5 e5 s5 r5 k5 => ?_⟩
            split at k5
            · rename_i acc hm
              split at k5
              · rename_i hz
                obtain ⟨a, vs, ea, h1, h2⟩ := s5.lst hm
                have ea' := (((e2.trans e3).trans e4).trans e5).loc _ _ atD
                rw [ea'] at ea; cases ea
                obtain ⟨e6, s6⟩ := s5.wr hm ea' h1 (h2.append (RepL.one r5))
                exact ⟨vs, h1, by rw [line_eq, ← h2.len]; exact hz, rho5, _, (((e2.trans e3).trans e4).trans e5).trans e6, s6, OKG.ext e6 k5⟩
              · exact k5.elim
            · exact k5.elim
      · exact k2.elim
    · exact k2.elim
theorem sim_lc (C : COk D G c X W) {e iter : Expr} {t : PTg} {ifs : List Expr} {sc : Scope} {own : Own} {p : Pos} {fi : Sig → Sto → Res Walk} {ft : Sig → Sto → Res Bool} {fe : Sig → Sto → Res PV}
    (hi : PI X (toT t) iter (tiOf D W fi)) (hb : blkC c.N c.sc sc own = true) (htg : tgtsOk ⟨c.N, sc, c.lev⟩ t = true) (hown : ∀ i ∈ slotsT t, i ∈ own.map (·.2))
    (ht : ∀ X' W', COk D G ⟨c.N, sc, c.lev⟩ X' W' → PTs X' ifs (ttOf D W' ft)) (he : ∀ X' W', COk D G ⟨c.N, sc, c.lev⟩ X' W' → PE X' e (teOf D W' fe)) (hf : ∀ x, foldedSetIterable iter X.env x = pure x) :
    PE X (.ListComp e [⟨toT t, iter, ifs, 0⟩] sc p) (teOf D W fun tau M => (fi tau M).bind fun w M => lcGo M.length w.at_ (fun v M => asgT t v (wipeP tau (own.map (·.2))) M) (fun tau M => (ft tau M).nox) (fun tau M => (fe tau M).nox) w.cnt 0 (M ++ [.lst []])) := by
  have bk := blk_ok C hb
  have inner := fun s H Ca cl fp => C.blk bk.kind s H Ca cl fp
  exact PE.imp (pe_lc C.calm C.nodup hi bk (fun s H Ca cl fp => sim_tg (inner s H Ca cl fp) htg) (fun s H Ca cl fp => ht _ _ (inner s H Ca cl fp)) (fun s H Ca cl fp => he _ _ (inner s H Ca cl fp)) hf) (lc_run hown)
end
end SW

/-! Texts: zip of three tuples, f'..', split. -/
namespace SW
open PySem PySem.Spec PyProof.Rows L2

/-- three tuples side by side -/
def ItzT3 (K : PySem.W.Frag) (a b c : Addr) : It :=
  ⟨fun i H => ∃ (xs ys zs : List V) (x y z : V), SqT K H a xs ∧ SqT K H b ys ∧ SqT K H c zs ∧ xs[i]? = some x ∧ ys[i]? = some y ∧ zs[i]? = some z,
    fun i H v H' => ∃ T x y z, v = .ref T ∧ H T = none ∧ H' = upd H T (.tup [x, y, z]) ∧ (∀ xs, SqT K H a xs → xs[i]? = some x) ∧ (∀ ys, SqT K H b ys → ys[i]? = some y) ∧ ∀ zs, SqT K H c zs → zs[i]? = some z,
    fun i H => ∃ xs ys zs : List V, SqT K H a xs ∧ SqT K H b ys ∧ SqT K H c zs ∧ i ≤ xs.length ∧ i ≤ ys.length ∧ i ≤ zs.length ∧ (i = xs.length ∨ i = ys.length ∨ i = zs.length)⟩
theorem turn_zipT3 {P : Program} {w : World} {K : PySem.W.Frag} {elts : List Expr} {kk : Nat} {tpos : Pos} {a b c z TI TO i1 i2 i3 : Addr} (D : ZipSep3 z TI TO i1 i2 i3 [i1, a] [i2, b] [i3, c]) (na : a ≠ i1) (nb : b ≠ i2) (nc : c ≠ i3) :
    Turn P w K (.Tuple elts kk tpos) (ItzT3 K a b c) [z, TI, TO, i1, i2, i3] z (fun i h => IsZip h z TI TO .none ∧ IsTupOf3 h TI (.ref i1) (.ref i2) (.ref i3) ∧ (∃ x y u, IsTupOf3 h TO x y u) ∧ h.IsTupleIter i1 a i ∧ h.IsTupleIter i2 b i ∧ h.IsTupleIter i3 c i) where
  mem := by simp
  obj := fun i h st d hd => by
    obtain ⟨hz, hTI, ⟨x, y, u, hTO⟩, ⟨o1, e1, _, d1⟩, ⟨o2, e2, _, d2⟩, ⟨o3, e3, _, d3⟩⟩ := st
    have e' : d = z ∨ d = TI ∨ d = TO ∨ d = i1 ∨ d = i2 ∨ d = i3 := by simpa using hd
    rcases e' with q | q | q | q | q | q
    · rw [q]; exact ⟨_, hz, fun v q => nomatch q⟩
    · rw [q]; exact ⟨_, hTI, fun v q => nomatch q⟩
    · rw [q]; exact ⟨_, hTO, fun v q => nomatch q⟩
    · rw [q]; exact ⟨o1, e1, fun v q => by rw [d1] at q; cases q⟩
    · rw [q]; exact ⟨o2, e2, fun v q => by rw [d2] at q; cases q⟩
    · rw [q]; exact ⟨o3, e3, fun v q => by rw [d3] at q; cases q⟩
  keep := fun i h h' st k => by
    obtain ⟨hz, hTI, ⟨x, y, u, hTO⟩, h1, h2, h3⟩ := st
    exact ⟨k z (by simp) _ hz, k TI (by simp) _ hTI, ⟨x, y, u, k TO (by simp) _ hTO⟩, h1.at fun o q => k i1 (by simp) o q, h2.at fun o q => k i2 (by simp) o q, h3.at fun o q => k i3 (by simp) o q⟩
  item := by
    intro X hP hw hK hc i pins s σ H E I hf st hg
    subst hP hw hK
    obtain ⟨hz, hTI, ⟨x0, y0, u0, hTO⟩, h1, h2, h3⟩ := st
    obtain ⟨xs, ys, zs, x, y, zv, hqx, hqy, hqz, hx, hy, hzv⟩ := hg
    obtain ⟨its, rv, p, _⟩ := I.tuple hqx
    obtain ⟨its2, rv2, p2, _⟩ := I.tuple hqy
    obtain ⟨its3, rv3, p3, _⟩ := I.tuple hqz
    obtain ⟨u, hu, ru⟩ := rv.get hx
    obtain ⟨u2, hu2, ru2⟩ := rv2.get hy
    obtain ⟨u3, hu3, ru3⟩ := rv3.get hzv
    have hzl : z < s.heap.objs.size := Heap.lt_size hz
    have lt1 : i < its.toArray.size := by have := (List.getElem?_eq_some_iff.mp hu).1; simpa using this
    have lt2 : i < its2.toArray.size := by have := (List.getElem?_eq_some_iff.mp hu2).1; simpa using this
    have lt3 : i < its3.toArray.size := by have := (List.getElem?_eq_some_iff.mp hu3).1; simpa using this
    have q1 : s.heap.IsTuple a its.toArray := p
    have q2 : s.heap.IsTuple b its2.toArray := p2
    have q3 : s.heap.IsTuple c its3.toArray := p3
    have hh : X.A.in1.handled = none := I.ok.hd hc
    have D1 : Draws X.prog X.w X.A.in1 i1 [i1, a] its.toArray.size (fun i v => its.toArray[i]? = some v) (fun i h => h.IsTupleIter i1 a i ∧ h.IsTuple a its.toArray) := Draws.tuple hh i1 a na its.toArray
    have D2 : Draws X.prog X.w X.A.in1 i2 [i2, b] its2.toArray.size (fun i v => its2.toArray[i]? = some v) (fun i h => h.IsTupleIter i2 b i ∧ h.IsTuple b its2.toArray) := Draws.tuple hh i2 b nb its2.toArray
    have D3 : Draws X.prog X.w X.A.in1 i3 [i3, c] its3.toArray.size (fun i v => its3.toArray[i]? = some v) (fun i h => h.IsTupleIter i3 c i ∧ h.IsTuple c its3.toArray) := Draws.tuple hh i3 c nc its3.toArray
    refine wpAny_pyNext_zipD3_item D D1 D2 D3 hz hTI hTO ⟨h1, q1⟩ ⟨h2, q2⟩ ⟨h3, q3⟩ lt1 lt2 lt3 fun w1 w2 w3 h' tk e1 e2 e3 z' TO' s1 s2 s3 hT hsz hk => ?_
    have e1 : w1 = u := by rw [List.getElem?_toArray, hu] at e1; exact (Option.some.inj e1).symm
    have e2 : w2 = u2 := by rw [List.getElem?_toArray, hu2] at e2; exact (Option.some.inj e2).symm
    have e3 : w3 = u3 := by rw [List.getElem?_toArray, hu3] at e3; exact (Option.some.inj e3).symm
    subst e1 e2 e3
    refine ⟨_, rfl, wpAny_letOwnedTupleGo_zip (s := { s with heap := h', toks := tk }) z' fun h'' z'' sb => ?_⟩
    have hT2 : h''.get? s.heap.objs.size = some { cls := .type "tuple", data := .seq #[w1, w2, w3] } := (sb.2 _ (Nat.ne_of_gt hzl)).trans hT
    have new : ObjOk X.prog X.w (upd H s.heap.objs.size (.tup [x, y, zv])) h'' s.heap.objs.size (.tup [x, y, zv]) :=
      ⟨by show 3 ≤ sizeLine; decide, [w1, w2, w3], .cons ru (.cons ru2 (.cons ru3 .nil)), ⟨_, hT2, rfl, _, rfl⟩⟩
    have I1 : Inv X pins σ (upd H s.heap.objs.size (.tup [x, y, zv])) { s with heap := h'', toks := tk } :=
      I.turnedNew (t' := tk) (ch := [z, TI, TO, i1, i2, i3]) (fun c o hb q => (sb.2 c (fun q' => hb (by simp [q']))).trans (hk c o (fun q' => hb (by simp [q'])) (fun q' => hb (by simp [q'])) (fun q' => hb (by simp [q'])) (fun q' => hb (by simp [q'])) (fun q' => hb (by simp [q'])) q)) hf (Nat.le_refl _) new
    refine ⟨.ref s.heap.objs.size, _, I1, rfl, ⟨_, x, y, zv, rfl, I.hok.fresh (Nat.le_refl _), rfl, fun l hl => by rw [I.tuple_inj hl hqx]; exact hx, fun l hl => by rw [I.tuple_inj hl hqy]; exact hy, fun l hl => by rw [I.tuple_inj hl hqz]; exact hzv⟩, ⟨z'', ?_, ⟨w1, w2, w3, ?_⟩, ?_, ?_, ?_⟩, fun d hdm => ?_⟩
    · exact (sb.2 _ D.TIz).trans (hk _ _ D.TIz D.TITO D.TIi1 D.TIi2 D.TIi3 hTI)
    · exact (sb.2 _ D.TOz).trans TO'
    · exact s1.1.at fun o q => (sb.2 _ D.zi1.symm).trans q
    · exact s2.1.at fun o q => (sb.2 _ D.zi2.symm).trans q
    · exact s3.1.at fun o q => (sb.2 _ D.zi3.symm).trans q
    · have hlt : d < s.heap.objs.size := by
        have e' : d = z ∨ d = TI ∨ d = TO ∨ d = i1 ∨ d = i2 ∨ d = i3 := by simpa using hdm
        rcases e' with q | q | q | q | q | q
        · rw [q]; exact hzl
        · rw [q]; exact Heap.lt_size hTI
        · rw [q]; exact Heap.lt_size hTO
        · rw [q]; obtain ⟨_, e1, _⟩ := h1; exact Heap.lt_size e1
        · rw [q]; obtain ⟨_, e2, _⟩ := h2; exact Heap.lt_size e2
        · rw [q]; obtain ⟨_, e3, _⟩ := h3; exact Heap.lt_size e3
      rw [upd_ne (Nat.ne_of_lt hlt)]
      exact (hf d hdm).1
  done := by
    intro X hP hw hK hc i pins s σ H E I hf st hg
    subst hP hw hK
    obtain ⟨hz, hTI, ⟨x0, y0, u0, hTO⟩, h1, h2, h3⟩ := st
    obtain ⟨xs, ys, zs, hqx, hqy, hqz, le1, le2, le3, hend⟩ := hg
    obtain ⟨its, rv, p, _⟩ := I.tuple hqx
    obtain ⟨its2, rv2, p2, _⟩ := I.tuple hqy
    obtain ⟨its3, rv3, p3, _⟩ := I.tuple hqz
    have l1 := rv.length
    have l2 := rv2.length
    have l3 := rv3.length
    have q1 : s.heap.IsTuple a its.toArray := p
    have q2 : s.heap.IsTuple b its2.toArray := p2
    have q3 : s.heap.IsTuple c its3.toArray := p3
    have z1 : its.toArray.size = its.length := by simp
    have z2 : its2.toArray.size = its2.length := by simp
    have z3 : its3.toArray.size = its3.length := by simp
    have hh : X.A.in1.handled = none := I.ok.hd hc
    have D1 : Draws X.prog X.w X.A.in1 i1 [i1, a] its.toArray.size (fun i v => its.toArray[i]? = some v) (fun i h => h.IsTupleIter i1 a i ∧ h.IsTuple a its.toArray) := Draws.tuple hh i1 a na its.toArray
    have D2 : Draws X.prog X.w X.A.in1 i2 [i2, b] its2.toArray.size (fun i v => its2.toArray[i]? = some v) (fun i h => h.IsTupleIter i2 b i ∧ h.IsTuple b its2.toArray) := Draws.tuple hh i2 b nb its2.toArray
    have D3 : Draws X.prog X.w X.A.in1 i3 [i3, c] its3.toArray.size (fun i v => its3.toArray[i]? = some v) (fun i h => h.IsTupleIter i3 c i ∧ h.IsTuple c its3.toArray) := Draws.tuple hh i3 c nc its3.toArray
    refine wpAny_pyNext_zipD3_end D D1 D2 D3 hz hTI hTO ⟨h1, q1⟩ ⟨h2, q2⟩ ⟨h3, q3⟩ (by omega) (by omega) (by omega) (by omega) fun h' tk hk => ⟨rfl, I.turnedL (t' := tk) (ch := [z, TI, TO, i1, i2, i3]) (fun c o hb q =>
      hk c o (fun q' => hb (by simp [q'])) (fun q' => hb (by simp [q'])) (fun q' => hb (by simp [q'])) (fun q' => hb (by simp [q'])) (fun q' => hb (by simp [q'])) q) hf⟩
  self := fun A i s Q E st h => wpAny_pyIter_zip st.1 h
def iZip3 (K : PySem.W.Frag) (ta : TA) : TI := fun σ H R => ta σ H fun vs H1 => ∃ a b c xs ys zs, vs = [.ref a, .ref b, .ref c] ∧ SqT K H1 a xs ∧ SqT K H1 b ys ∧ SqT K H1 c zs ∧ R (ItzT3 K a b c) H1
theorem pi_zip3 {X : Cx} {e e2 e3 : Expr} {ta : TA} {p pos tpos : Pos} {elts : List Expr} {kk : Nat} (hg : Gl X "zip") (hm : X.mg "zip" = none) (ha : PA X [e, e2, e3] ta)
    (hs : starEach [e, e2, e3] X.env = (false, eval e X.env) :: starEach [e2, e3] X.env) (hpl : (backTo pos (starEach [e2, e3] X.env)).any (·.1) = false) :
    PI X (.Tuple elts kk tpos) (.Call (.Name "zip" p) [e, e2, e3] [] pos) (iZip3 X.K ta) := by
  refine ⟨fun pins s σ H R I h => ?_⟩
  refine Call_ (ld_blt I hg hm PyProof.Rows.boot_zip (PyProof.Rows.callWith_type1 (thn (ha.run pos pins s σ H _ I h) fun us s1 ⟨vs, H1, I1, r1, q1⟩ => ?_) hs hpl))
  obtain ⟨a, b, c, xs, ys, zs, ex, hqx, hqy, hqz, q⟩ := q1
  subst ex
  cases r1 with
  | cons r rr =>
    cases rr with
    | cons r' rr =>
      cases rr with
      | cons r'' rr =>
        cases rr
        cases r
        cases r'
        cases r''
        have fresh6 : ∀ d, d ∈ [s1.heap.objs.size + 5, s1.heap.objs.size + 3, s1.heap.objs.size + 4, s1.heap.objs.size, s1.heap.objs.size + 1, s1.heap.objs.size + 2] → FpOk X pins H1 d := fun d hdm => by
          have e' : d = s1.heap.objs.size + 5 ∨ d = s1.heap.objs.size + 3 ∨ d = s1.heap.objs.size + 4 ∨ d = s1.heap.objs.size ∨ d = s1.heap.objs.size + 1 ∨ d = s1.heap.objs.size + 2 := by simpa using hdm
          have hle : s1.heap.objs.size ≤ d := by
            rcases e' with z | z | z | z | z | z
            · rw [z]; exact Nat.le_add_right _ _
            · rw [z]; exact Nat.le_add_right _ _
            · rw [z]; exact Nat.le_add_right _ _
            · rw [z]; exact Nat.le_refl _
            · rw [z]; exact Nat.le_add_right _ _
            · rw [z]; exact Nat.le_add_right _ _
          exact I1.fpOk hle (I1.hok.fresh hle)
        obtain ⟨its, rv, p1, _⟩ := I1.tuple hqx
        obtain ⟨its2, rv2, p2, _⟩ := I1.tuple hqy
        obtain ⟨its3, rv3, p3, _⟩ := I1.tuple hqz
        have t1 : s1.heap.IsTuple a its.toArray := p1
        have t2 : s1.heap.IsTuple b its2.toArray := p2
        have t3 : s1.heap.IsTuple c its3.toArray := p3
        have la : a < s1.heap.objs.size := by obtain ⟨o, ho, _⟩ := id t1; exact Heap.lt_size ho
        have lb : b < s1.heap.objs.size := by obtain ⟨o, ho, _⟩ := id t2; exact Heap.lt_size ho
        have lc : c < s1.heap.objs.size := by obtain ⟨o, ho, _⟩ := id t3; exact Heap.lt_size ho
        refine zip_begins3 (begins_tuple a its.toArray) (begins_tuple b its2.toArray) (begins_tuple c its3.toArray) t1 t2 t3 fun h' hz hTI hTO g1 g2 g3 hsz hk => wpAny_pyIter_zip hz ?_
        have I2 : Inv X pins σ H1 { s1 with heap := h' } := I1.kept (t' := s1.toks) hk
        have la' : a < (s1.heap.objs.size : Nat) := la
        have lb' : b < (s1.heap.objs.size : Nat) := lb
        have lc' : c < (s1.heap.objs.size : Nat) := lc
        exact ⟨s1.heap.objs.size + 5, [s1.heap.objs.size + 5, s1.heap.objs.size + 3, s1.heap.objs.size + 4, s1.heap.objs.size, s1.heap.objs.size + 1, s1.heap.objs.size + 2], _, _, H1, rfl, I2,
          turn_zipT3 (zip_sep3 (fp1 := [a]) (fp2 := [b]) (fp3 := [c]) (by simpa using la) (by simpa using lb) (by simpa using lc)) (Nat.ne_of_lt la) (Nat.ne_of_lt (Nat.lt_of_lt_of_le lb (Nat.le_add_right _ _))) (Nat.ne_of_lt (Nat.lt_of_lt_of_le lc (Nat.le_add_right _ _))), ⟨hz, hTI, ⟨_, _, _, hTO⟩, ⟨_, g1, rfl, rfl⟩, ⟨_, g2, rfl, rfl⟩, ⟨_, g3, rfl, rfl⟩⟩, fresh6, q⟩
section
variable {D : Wd} {G : Glb} {c : Cn} {X : Cx} {W : WX} {f g h : Sig → Sto → Res PV}
theorem wk_zip3 {H : Hp} {rho : List Addr} {xs ys zs : List PV} {a b c n : Nat} {vs ws us : List V} (hK : X.K = D.K) (h1 : SqT D.K H a vs) (h2 : RepL D H rho xs vs) (k1 : SqT D.K H b ws) (k2 : RepL D H rho ys ws) (l1 : SqT D.K H c us) (l2 : RepL D H rho zs us) : WkOk D H rho ⟨n, fun i _ => three xs ys zs i⟩ (ItzT3 X.K a b c) := by
  intro i H1 rho1 M e s
  have g1 : SqT X.K H1 a vs := by rw [hK]; exact e.sqT h1
  have g2 : SqT X.K H1 b ws := by rw [hK]; exact e.sqT k1
  have g3 : SqT X.K H1 c us := by rw [hK]; exact e.sqT l1
  have e1 := h2.len
  have e2 := k2.len
  have e3 := l2.len
  show match three xs ys zs i with | none => True | some none => _ | some (some x) => _
  unfold three
  have stop : (xs[i]? = none ∨ ys[i]? = none ∨ zs[i]? = none) → match (if i = min (min xs.length ys.length) zs.length then some (none : Option PV) else none) with | none => True | some none => (ItzT3 X.K a b c).stop i H1 | some (some x) => (ItzT3 X.K a b c).go i H1 ∧ ∀ v H', (ItzT3 X.K a b c).yld i H1 v H' → Ext H1 rho1 H' rho1 ∧ StoOk D H' rho1 M ∧ Rep D H' rho1 x v := fun q => by
    by_cases hi : i = min (min xs.length ys.length) zs.length
    · rw [if_pos hi]
      exact ⟨vs, ws, us, g1, g2, g3, by omega, by omega, by omega, by omega⟩
    · rw [if_neg hi]
      trivial
  cases q : xs[i]? with
  | none => exact stop (.inl q)
  | some y =>
    cases q2 : ys[i]? with
    | none => exact stop (.inr (.inl q2))
    | some z =>
      cases q3 : zs[i]? with
      | none => exact stop (.inr (.inr q3))
      | some o =>
        obtain ⟨v, hv, rv⟩ := h2.get q
        obtain ⟨u, hu, ru⟩ := k2.get q2
        obtain ⟨w, hw, rw_⟩ := l2.get q3
        refine ⟨⟨vs, ws, us, v, u, w, g1, g2, g3, hv, hu, hw⟩, fun t H' y => ?_⟩
        obtain ⟨T, x, x2, x3, rfl, hT, rfl, hx, hx2, hx3⟩ := y
        have ex : x = v := by have := hx vs g1; rw [hv] at this; cases this; rfl
        have ex2 : x2 = u := by have := hx2 ws g2; rw [hu] at this; cases this; rfl
        have ex3 : x3 = w := by have := hx3 us g3; rw [hw] at this; cases this; rfl
        subst ex ex2 ex3
        exact ⟨Ext.new hT, s.new hT, rep_tup.mpr ⟨T, _, rfl, .inl (.inl upd_same), repL_cons.mpr ⟨_, _, rfl, rv.ext (e.trans (Ext.new hT)), repL_cons.mpr ⟨_, _, rfl, ru.ext (e.trans (Ext.new hT)), RepL.one (rw_.ext (e.trans (Ext.new hT)))⟩⟩⟩⟩
theorem sim_zip3 (C : COk D G c X W) {a b e : PEx} {p p2 pos : Pos} {elts : List Expr} {kk : Nat} (h1 : glOk c "zip" = true) (h2 : ("zip" : Str) ∈ G.bn) (ha : PE X (toE a) (teOf D W f)) (hb : PE X (toE b) (teOf D W g)) (he : PE X (toE e) (teOf D W h)) :
    PI X (.Tuple elts kk pos) (.Call (.Name "zip" p) [toE a, toE b, toE e] [] p2) (tiOf D W fun tau M => (f tau M).bind fun x M => (g tau M).bind fun y M => (h tau M).bind fun z M => match zipW3 x y z with | some w => .ok w M | none => .stuck) := by
  obtain ⟨g1, _, _⟩ := C.gl h1
  have hs3 : starEach [toE e] X.env = (false, eval (toE e) X.env) :: starEach [] X.env := star_cons e _ _
  have hs2 : starEach [toE b, toE e] X.env = (false, eval (toE b) X.env) :: starEach [toE e] X.env := star_cons b _ _
  refine PI.imp (pi_zip3 g1 (C.bn _ h2) (pa_cons ha (pa_cons hb (pa_cons he pa_nil hs3) hs2) (star_cons a _ _)) (star_cons a _ _) (by rw [hs2, hs3]; rfl)) fun s H Q ⟨tau, M, rho, rs, q⟩ => ⟨tau, M, rho, rs, q.bind fun H1 rho1 x v M1 e1 s1 r1 k => ⟨tau, M1, rho1, rs.ext e1 s1, k.bind fun H2 rho2 y u M2 e2 s2 r2 k => ⟨tau, M2, rho2, (rs.ext e1 s1).ext e2 s2, k.bind fun H3 rho3 z o M3 e3 s3 r3 k => ?_⟩⟩⟩
  have r1 := (r1.ext e2).ext e3
  have r2 := r2.ext e3
  cases x <;> cases y <;> cases z <;> simp only [zipW3] at k <;> first | exact k.elim | skip
  rename_i xs ys zs
  obtain ⟨a, vs, rfl, k1, k2⟩ := rep_tup.mp r1
  obtain ⟨b, ws, rfl, k3, k4⟩ := rep_tup.mp r2
  obtain ⟨d, us, rfl, k5, k6⟩ := rep_tup.mp r3
  exact ⟨a, b, d, vs, ws, us, rfl, by rw [C.kK]; exact k1, by rw [C.kK]; exact k3, by rw [C.kK]; exact k5, k.ok s3 (wk_zip3 C.kK k1 k2 k3 k4 k5 k6)⟩
theorem sim_fmt {e : Expr} {p : Pos} (he : PE X e (teOf D W f)) : PE X (.FormattedValue e (-1) none p) (teOf D W fun tau M => (f tau M).bind fun x M => Res.of (fmtP x M)) := by
  refine PE.imp (pe_fmt he) fun s H Q ⟨tau, M, rho, rs, q⟩ => ⟨tau, M, rho, rs, q.bind fun H1 rho1 x v M1 e1 s1 r1 k => ?_⟩
  replace k := k.prm
  cases x <;> simp only [fmtP] at k <;> first | exact k.elim | skip
  · rename_i i
    rw [rep_int] at r1
    split at k
    · rename_i hz
      exact .inr ⟨i, r1, hz, k.ok s1 (rep_str.mpr (by simp))⟩
    · exact k.elim
  · rename_i t
    rw [rep_str] at r1
    split at k
    · rename_i hz
      exact .inl ⟨_, r1, by rw [line_eq]; simpa [Str.length] using hz, k.ok s1 (rep_str.mpr rfl)⟩
    · exact k.elim
theorem repL_strs {H : Hp} {rho : List Addr} : ∀ ys : List Str, RepL D H rho (ys.map fun x => PV.str x.cps.toList) (ys.map V.str)
  | [] => repL_nil.mpr rfl
  | y :: ys => repL_cons.mpr ⟨_, _, rfl, rep_str.mpr (by simp), repL_strs ys⟩
theorem sim_spl {e : PEx} {s : Str} {k : Nat} {ps pa p : Pos} (hl : (pa.endLine == p.line) = true) (he : PE X (toE e) (teOf D W f)) :
    PE X (.Call (.Attribute (toE e) "split" pa) [.Constant (.str s) k ps] [] p) (teOf D W fun tau M => (f tau M).bind fun x M => Res.of (splP s x M)) := by
  refine PE.imp (pe_split he pe_str rfl (base_toE e _ _) hl) fun st H Q ⟨tau, M, rho, rs, q⟩ => ⟨tau, M, rho, rs, q.bind fun H1 rho1 x v M1 e1 s1 r1 k => ?_⟩
  replace k := k.prm
  cases x <;> simp only [splP] at k <;> first | exact k.elim | skip
  rename_i t
  rw [rep_str] at r1
  split at k
  · rename_i hz
    obtain ⟨_, k2⟩ := k.newL s1 (repL_strs _)
    exact ⟨⟨_, r1⟩, _, s, r1, rfl, hz.1, by rw [line_eq]; simpa [Str.length] using hz.2.1, k2⟩
  · exact k.elim
/-- the parts of f'..' -/
def jTs (D : Wd) (G : Glb) (W : WX) : PEs → List TE
  | .nil => []
  | .cons e es => teOf D W (fun tau M => evE G false e tau M) :: jTs D G W es
theorem str_app (a b : List Nat) : ((⟨a.toArray⟩ : Str) ++ ⟨b.toArray⟩) = ⟨(a ++ b).toArray⟩ := TL.ext_tl (by rw [TL.tl_append, TL.tl_mk, TL.tl_mk, TL.tl_mk])
theorem jst_ok : ∀ (es : PEs) (acc : List Nat) {tau : Sig} {M : Sto} {rho : List Addr} {s : L2.St} {H : Hp} {Q : VK}, RelS D H rho M s tau → OKG D (Rep D) H rho (evJ G es acc tau M) Q (fun cls d H' => W cls d s H') → tJs (jTs D G W es) ⟨acc.toArray⟩ s H fun out H1 => Q (.str out) H1
  | .nil, acc, tau, M, rho, s, H, Q, rs, q => OKG.ok q rs.mem (rep_str.mpr rfl)
  | .cons e es, acc, tau, M, rho, s, H, Q, rs, q => ⟨tau, M, rho, rs, OKG.bind q fun H1 rho1 x v M1 e1 s1 r1 k => by
    cases x <;> first | exact k.elim | skip
    rename_i y
    rw [rep_str] at r1
    by_cases hz : (acc ++ y).length ≤ LINE
    · have k : OKG D (Rep D) H1 rho1 (evJ G es (acc ++ y) tau M1) Q (fun cls d H' => W cls d s H') := by
        have e3 : (if (acc ++ y).length ≤ LINE then evJ G es (acc ++ y) tau M1 else .stuck) = evJ G es (acc ++ y) tau M1 := if_pos hz
        rw [← e3]
        exact k
      refine ⟨_, r1, ?_, ?_⟩
      · rw [str_app, line_eq]
        simpa [Str.length] using hz
      · rw [str_app]
        exact jst_ok es (acc ++ y) (rs.ext e1 s1) k
    · have e3 : (if (acc ++ y).length ≤ LINE then evJ G es (acc ++ y) tau M1 else .stuck) = .stuck := if_neg hz
      have k : OKG D (Rep D) H1 rho1 (if (acc ++ y).length ≤ LINE then evJ G es (acc ++ y) tau M1 else .stuck) Q (fun cls d H' => W cls d s H') := k
      rw [e3] at k
      exact k.elim⟩
theorem sim_jst {es : PEs} {p : Pos} (h2 : 2 ≤ (toL es).length) (hj : PJ X (toL es) (jTs D G W es)) : PE X (.JoinedStr (toL es) p) (teOf D W fun tau M => evJ G es [] tau M) := by
  match es, h2, hj with
  | .cons a (.cons b r), _, hj =>
    exact PE.imp (pe_joined hj) fun s H Q ⟨tau, M, rho, rs, q⟩ => jst_ok (.cons a (.cons b r)) [] rs q
  | .cons a .nil, h2, _ => exact absurd h2 (by simp [toL])
  | .nil, h2, _ => exact absurd h2 (by simp [toL])
end
end SW

/-! Instances of plain classes: fields, methods, new ones. -/
namespace SW
open PySem PySem.Spec PyProof.Rows L2

theorem tree_meth {o : Expr} {name : Str} {apos pos : Pos} {args : List Expr} {env : Env} (hbase : attributeBase o name env (eval o env) = eval o env)
    (hfew : ((backTo pos (starEach args env)).all (fun x => !x.1) && (backToKw pos (keywordEach [] env)).all (fun x => x.1.isSome)
      && decide (args.length + ([] : List Keyword).length + (if ([] : List Keyword).isEmpty then 0 else 1) < 30)) = true) (hline : (apos.endLine == pos.line) = true) :
    ∃ pl : Sem Bool, eval (.Call (.Attribute o name apos) args [] pos) env = (do
      let ov ← eval o env
      standAt apos.atName
      let (f, first) ← holding [ov] (getMethod ov name pl)
      callWith pos f first (backTo pos (starEach args env)) (backToKw pos (keywordEach [] env))) := by
  have hform : methodCallForm (args.length + ([] : List Keyword).length) (backTo pos (starEach args env)) (backToKw pos (keywordEach [] env)) = true := hfew
  have hpos : methodCallPos true o env apos pos = pure pos := by unfold methodCallPos; simp [hline]
  rw [arm_eval_Call, hbase]
  unfold methodCall
  rw [hform, hpos]
  unfold calleeOf
  refine ⟨do return (← importBound o env).getD true, ?_⟩
  rfl

theorem fldP_some {oc : List (Str × List Str)} {x : PV} {f : Str} {M : Sto} {r : PV × Sto} (h : fldP oc x f M = some r) : ∃ n k fs p, x = .loc n ∧ M[n]? = some (.ins k fs) ∧ oc[k]? = some p ∧ f ∈ p.2 ∧ fs.lookup f = some r.1 ∧ r.2 = M := by
  unfold fldP at h
  split at h
  · rename_i n
    split at h
    · rename_i k fs hm
      split at h
      · rename_i p hp
        split at h
        · rename_i hf
          cases e : fs.lookup f with
          | none => rw [e] at h; cases h
          | some y => rw [e] at h; cases h; exact ⟨n, k, fs, p, rfl, hm, hp, hf, e, rfl⟩
        · cases h
      · cases h
    · cases h
  · cases h
theorem setFP_some {oc : List (Str × List Str)} {x v : PV} {f : Str} {M M' : Sto} (h : setFP oc x f v M = some M') : ∃ n k fs p, x = .loc n ∧ M[n]? = some (.ins k fs) ∧ oc[k]? = some p ∧ f ∈ p.2 ∧ fs.length < 1000 ∧ M' = M.set n (.ins k (putP f v fs)) := by
  unfold setFP at h
  split at h
  · rename_i n
    split at h
    · rename_i k fs hm
      split at h
      · rename_i p hp
        split at h
        · rename_i hf
          cases h
          exact ⟨n, k, fs, p, rfl, hm, hp, hf.1, hf.2, rfl⟩
        · cases h
      · cases h
    · cases h
  · cases h
theorem mthP_true {fi : FI} {mn : Str} {x : PV} {M : Sto} (h : mthP fi mn x M = true) : ∃ n k fs, x = .loc n ∧ M[n]? = some (.ins k fs) ∧ fi.ow = some (k, mn) ∧ fs.lookup mn = none := by
  unfold mthP at h
  split at h
  · rename_i k m how
    rw [Bool.and_eq_true, decide_eq_true_eq] at h
    obtain ⟨rfl, h⟩ := h
    split at h
    · rename_i n
      split at h
      · rename_i j fs hm
        rw [Bool.and_eq_true, decide_eq_true_eq, decide_eq_true_eq] at h
        obtain ⟨rfl, h⟩ := h
        exact ⟨n, j, fs, rfl, hm, how, h⟩
      · cases h
    · cases h
  · cases h
section
variable {D : Wd} {G : Glb} {c : Cn} {X : Cx} {W : WX} {f : Sig → Sto → Res PV}
theorem StoOk.ins {H : Hp} {rho : List Addr} {M : Sto} {n k : Nat} {fs : List (Str × PV)} {v : V} (R : StoOk D H rho M) (h : M[n]? = some (.ins k fs)) (r : Rep D H rho (.loc n) v) : ∃ a dx vs, v = .ref a ∧ rho[n]? = some a ∧ H a = some (.ins (D.oc k) dx vs) ∧ FRs D H rho fs vs := by
  obtain ⟨a, ea, dx, vs, h1, h2⟩ := R.obj n _ h
  obtain ⟨b, rfl, eb⟩ := rep_loc.mp r
  rw [ea] at eb; cases eb
  exact ⟨a, dx, vs, rfl, ea, h1, h2⟩
theorem sim_fld (C : COk D G c X W) {o : PEx} {n : Str} {p : Pos} (ho : PE X (toE o) (teOf D W f)) : PE X (.Attribute (toE o) n p) (teOf D W fun tau M => (f tau M).bind fun x M => Res.of (fldP G.ocs x n M)) := by
  refine PE.imp (pe_fld ho (base_toE o n X.env)) fun s H Q ⟨tau, M, rho, rs, q⟩ => ⟨tau, M, rho, rs, q.bind fun H1 rho1 x v M1 e1 s1 r1 q1 => ?_⟩
  cases e2 : fldP G.ocs x n M1 with
  | none => rw [e2] at q1; exact q1.elim
  | some r =>
    obtain ⟨y, M2⟩ := r
    obtain ⟨i, k, fs, p, rfl, hm, hp, hf, hl, e3⟩ := fldP_some e2
    have e3 : M2 = M1 := e3
    subst e3
    rw [e2] at q1
    obtain ⟨x, ns⟩ := p
    have O := C.oc k x ns hp
    obtain ⟨a, dx, vs, rfl, ea, ha, hfs⟩ := s1.ins hm r1
    obtain ⟨w, hw, hr⟩ := hfs.get hl
    exact ⟨a, _, dx, vs, w, rfl, ha, by rw [C.kK]; exact O.cl, by rw [C.kK]; exact O.na n hf, hw, OKG.ok (x := y) (M := M2) q1 s1 hr⟩
theorem go_sp {P : Program} {w : World} {mg : Str → Option Value} {base : Heap} {fi : FI} {a : Addr} {fd : FuncData} (F : FOk D P w mg base fi a fd) {H : Hp} {rho : List Addr} {xs : List PV} {vs : List V} {M : Sto} {Q : VK} {E : XK} (st : StoOk D H rho M) (r : RepL D H rho xs vs) (q : OKG D (Rep D) H rho (fi.go xs M) Q E) :
    ∃ ws ds, Binds D.K fd fi.ps ds ∧ Vals ws ds ∧ spOf D fi (vs ++ ws) H Q E := by
  unfold FI.go argsN at q
  by_cases hz : xs.length = fi.ps.length
  · rw [if_pos hz] at q
    exact ⟨[], [], F.bd, .nil, by rw [List.append_nil]; exact ⟨xs, M, rho, st, r, hz, q⟩⟩
  · rw [if_neg hz] at q
    cases ed : fi.dv with
    | none => rw [ed] at q; exact q.elim
    | some d =>
      rw [ed] at q
      by_cases hy : xs.length + 1 = fi.ps.length
      · obtain ⟨u, v, rv, hr, hb⟩ := F.dd d ed
        dsimp only at q
        rw [if_pos hy] at q
        exact ⟨[v], [u], hb, .cons rv .nil, xs ++ [d], M, rho, st, r.append (RepL.one (hr H rho)), by rw [List.length_append]; exact hy, q⟩
      · dsimp only at q
        rw [if_neg hy] at q
        exact q.elim
theorem args_runX {s : L2.St} {H : Hp} {rho : List Addr} {M : Sto} {tau : Sig} {Q : VK} {R : List V → Hp → Prop} {gl : Sig → Sto → Res (List PV)} {k : List PV → Sto → Res PV} (rs : RelS D H rho M s tau)
    (h : ∀ {H' : Hp} {rho' : List Addr} {xs : List PV} {vs : List V} {M' : Sto}, Ext H rho H' rho' → StoOk D H' rho' M' → RepL D H' rho' xs vs → OKG D (Rep D) H' rho' (k xs M') Q (WE W s) → R vs H')
    (q : OKG D (Rep D) H rho ((f tau M).bind fun x M => (gl tau M).bind fun xs M => k (x :: xs) M) Q (WE W s)) : taOf D W (fun tau M => (f tau M).bind fun x M => (gl tau M).bind fun xs M => .ok (x :: xs) M) s H R := by
  refine ⟨tau, M, rho, rs, ?_⟩
  revert q
  show OKG D _ H rho ((f tau M).bind fun x M => (gl tau M).bind fun xs M => k (x :: xs) M) Q _ → OKG D _ H rho ((f tau M).bind fun x M => (gl tau M).bind fun xs M => .ok (x :: xs) M) R _
  cases f tau M with
  | exc c v M1 => exact fun q => q
  | stuck => exact fun q => q
  | ok x M1 =>
    show OKG D _ H rho ((gl tau M1).bind fun xs M => k (x :: xs) M) Q _ → OKG D _ H rho ((gl tau M1).bind fun xs M => .ok (x :: xs) M) R _
    cases gl tau M1 with
    | exc c v M1 => exact fun q => q
    | stuck => exact fun q => q
    | ok xs M2 => exact fun q H1 rho1 vs e1 s1 r1 => h e1 s1 r1 (OKG.ext e1 q)
theorem few0 (env : Env) (p : Pos) : ((backTo p (starEach [] env)).all (fun x => !x.1) && (backToKw p (keywordEach [] env)).all (fun x => x.1.isSome)
      && decide (([] : List Expr).length + ([] : List Keyword).length + (if ([] : List Keyword).isEmpty then 0 else 1) < 30)) = true := rfl
theorem sim_mth0 (C : COk D G c X W) {fi : FI} (hfi : fi ∈ G.fns) (hl : fi.lev ≤ c.lev) {mn : Str} {o : PEx} {fo : Sig → Sto → Res PV} {pa p : Pos} (hline : (pa.endLine == p.line) = true) (ho : PE X (toE o) (teOf D W fo)) :
    PE X (.Call (.Attribute (toE o) mn pa) [] [] p) (teOf D W fun tau M => (fo tau M).bind fun x M => if mthP fi mn x M = true then fi.go [x] M else .stuck) := by
  obtain ⟨fa, fd, F⟩ := C.fok fi hfi hl
  refine ⟨fun pins sh s H Q I q => ?_⟩
  obtain ⟨tau, M, rho, rs, q⟩ := q
  obtain ⟨pl, ht⟩ := tree_meth (args := []) (base_toE o mn X.env) (few0 X.env p) hline
  refine PySem.W.methodCall_KW (pl := pl) (thn (ho.run pins sh s H (fun v H1 => ∃ x M1 rho1, StoOk D H1 rho1 M1 ∧ Rep D H1 rho1 x v ∧ OKG D (Rep D) H1 rho1 (if mthP fi mn x M1 = true then fi.go [x] M1 else .stuck) Q (WE W s)) I ⟨tau, M, rho, rs, q.bind fun H1 rho1 x v M1 e1 s1 r1 q1 => ⟨x, M1, rho1, s1, r1, q1⟩⟩) fun u s1 ⟨v, H1, I1, rv, x, M1, rho1, st1, rx, q1⟩ => ?_) ht
  by_cases hm : mthP fi mn x M1 = true
  case neg => rw [if_neg hm] at q1; exact q1.elim
  rw [if_pos hm] at q1
  obtain ⟨n, k, fs, rfl, hmn, how, hl2⟩ := mthP_true hm
  obtain ⟨a, dx, vs, rfl, ea, ha, hfs⟩ := st1.ins hmn rx
  obtain rfl : u = Value.ref a := rv
  obtain ⟨mt, cl⟩ := F.mt k mn how
  rw [← C.kK] at mt cl
  refine getmeth_ok (C := D.oc k) I1 ha cl mt (hfs.none hl2) ?_
  obtain ⟨ws, ds, hb, rd, hsp⟩ := go_sp F st1 (RepL.one rx) q1
  exact PySem.W.callWith_K0 (first := [.ref a]) I1.kIn mt.kp (run_fi C F hl I1 hb (us := [.ref a]) (vs := [.ref a]) (.cons rfl .nil) rd hsp)
theorem sim_mth (C : COk D G c X W) {fi : FI} (hfi : fi ∈ G.fns) (hl : fi.lev ≤ c.lev) {mn : Str} {o e : PEx} {es : PEs} {fo : Sig → Sto → Res PV} {gl : Sig → Sto → Res (List PV)} {pa p : Pos} (hline : (pa.endLine == p.line) = true) (hfew : (toL es).length < 20)
    (ho : PE X (toE o) (teOf D W fo)) (ha : PA X (toE e :: toL es) (taOf D W fun tau M => (f tau M).bind fun x M => (gl tau M).bind fun xs M => .ok (x :: xs) M)) :
    PE X (.Call (.Attribute (toE o) mn pa) (toE e :: toL es) [] p) (teOf D W fun tau M => (fo tau M).bind fun x M => if mthP fi mn x M = true then (f tau M).bind fun y M => (gl tau M).bind fun ys M => fi.go (x :: y :: ys) M else .stuck) := by
  have few : ((backTo p (starEach (toE e :: toL es) X.env)).all (fun x => !x.1) && (backToKw p (keywordEach [] X.env)).all (fun x => x.1.isSome)
      && decide ((toE e :: toL es).length + ([] : List Keyword).length + (if ([] : List Keyword).isEmpty then 0 else 1) < 30)) = true := by
    rw [star_all]
    simp [keywordEach, backToKw]
    omega
  obtain ⟨fa, fd, F⟩ := C.fok fi hfi hl
  refine ⟨fun pins sh s H Q I q => ?_⟩
  obtain ⟨tau, M, rho, rs, q⟩ := q
  obtain ⟨pl, ht⟩ := tree_meth (args := toE e :: toL es) (base_toE o mn X.env) few hline
  refine PySem.W.methodCall_KW (pl := pl) (thn (ho.run pins sh s H (fun v H1 => ∃ x M1 rho1, RelS D H1 rho1 M1 s tau ∧ Rep D H1 rho1 x v ∧ OKG D (Rep D) H1 rho1 (if mthP fi mn x M1 = true then (f tau M1).bind fun y M => (gl tau M).bind fun ys M => fi.go (x :: y :: ys) M else .stuck) Q (WE W s)) I ⟨tau, M, rho, rs, q.bind fun H1 rho1 x v M1 e1 s1 r1 q1 => ⟨x, M1, rho1, rs.ext e1 s1, r1, q1⟩⟩) fun u s1 ⟨v, H1, I1, rv, x, M1, rho1, rs1, rx, q1⟩ => ?_) ht
  by_cases hm : mthP fi mn x M1 = true
  case neg => rw [if_neg hm] at q1; exact q1.elim
  rw [if_pos hm] at q1
  obtain ⟨n, k, fs, rfl, hmn, how, hl2⟩ := mthP_true hm
  obtain ⟨a, dx, vs, rfl, ea, hat, hfs⟩ := rs1.mem.ins hmn rx
  obtain rfl : u = Value.ref a := rv
  obtain ⟨mt, cl⟩ := F.mt k mn how
  rw [← C.kK] at mt cl
  refine getmeth_ok (C := D.oc k) I1 hat cl mt (hfs.none hl2) ?_
  have q' := args_runX (R := fun vs H1 => ∃ ws ds, Binds D.K fd fi.ps ds ∧ Vals ws ds ∧ spOf D fi (V.ref a :: (vs ++ ws)) H1 Q (WE W s)) (k := fun xs M => fi.go (.loc n :: xs) M) rs1 (fun {H' rho' xs vs M'} e2 st2 r2 q2 => by
    obtain ⟨ws, ds, hb, rd, hsp⟩ := go_sp F st2 (repL_cons.mpr ⟨V.ref a, vs, rfl, rep_loc.mpr ⟨a, rfl, e2.loc _ _ ea⟩, r2⟩) q2
    exact ⟨ws, ds, hb, rd, hsp⟩) q1
  exact PySem.W.callWith_K (first := [.ref a]) (h₀ := X.base) I1.ok.mod.kin mt.kp (thn (ha.run p pins s1 s H1 _ I1 q') fun us s2 ⟨vs, H2, I2, r, ws, ds, hb, rd, hsp⟩ => ⟨I2.kIn, run_fi C F hl I2 hb (us := .ref a :: us) (vs := .ref a :: vs) (.cons rfl r) rd hsp⟩) (star_cons e _ _) (star_any _ _ es)
theorem make_guards {A : Around} {C : Addr} {us : List Value} {kw : List (Str × Value)} (h : A.guards = some []) : (A.under (.builtin "type.__call__" ⟨.ref C :: us, kw⟩)).guards = some [] := by
  simp [Around.under, pushGuards, Code.guards, Code.isGuard, guardIds, h]
theorem sim_mk (C : COk D G c X W) {fi : FI} (hfi : fi ∈ G.fns) (hl : fi.lev + 1 ≤ c.lev) {k : Nat} {x : Str} {ns : List Str} (hoc : G.ocs[k]? = some (x, ns)) (how : fi.ow = some (k, ("__init__" : Str))) {e : PEx} {es : PEs} {gl : Sig → Sto → Res (List PV)} {p p2 : Pos} (h1 : glOk c x = true)
    (ha : PA X (toE e :: toL es) (taOf D W fun tau M => (f tau M).bind fun x M => (gl tau M).bind fun xs M => .ok (x :: xs) M)) :
    PE X (.Call (.Name x p) (toE e :: toL es) [] p2) (teOf D W fun tau M => (f tau M).bind fun y M => (gl tau M).bind fun ys M => mkP fi k (y :: ys) M) := by
  obtain ⟨g1, g2, _⟩ := C.gl h1
  obtain ⟨fa, fd, F⟩ := C.fok fi hfi (by omega)
  have O := C.oc k x ns hoc
  obtain ⟨mt, cl⟩ := F.mt k _ how
  have kp : PySem.W.keepIn X.K (.ref (D.oc k)) = true := by rw [C.kK]; exact O.kp
  refine ⟨fun pins sh s H Q I q => ?_⟩
  obtain ⟨tau, M, rho, rs, q⟩ := q
  refine wpAny_Call_Name_kw (ld_glob I g1 O.at_ ?_ g2)
  have q' := args_runX (R := fun vs H1 => ∃ xs M1 rho1, StoOk D H1 rho1 M1 ∧ RepL D H1 rho1 xs vs ∧ OKG D (Rep D) H1 rho1 (mkP fi k xs M1) Q (WE W s)) (k := fun xs M => mkP fi k xs M) rs (fun {H' rho' xs vs M'} e2 st2 r2 q2 => ⟨xs, M', rho', st2, r2, q2⟩) q
  refine PySem.W.callWith_K (h₀ := X.base) I.ok.mod.kin kp (thn (ha.run p2 pins sh s H _ I q') fun us s1 ⟨vs, H1, I1, r, xs, M1, rho1, st1, rx, q1⟩ => ⟨I1.kIn, ?_⟩) (star_cons e _ _) (star_any _ _ es)
  -- the new instance
  unfold mkP at q1
  by_cases hn : xs.length + 1 = fi.ps.length
  case neg => rw [if_neg hn] at q1; exact q1.elim
  rw [if_pos hn] at q1
  have f1 : H1 (s1.heap.objs.size + 1) = none := I1.hok.fresh (Nat.le_succ _)
  have f0 : H1 s1.heap.objs.size = none := I1.hok.fresh (Nat.le_refl _)
  have ne : s1.heap.objs.size ≠ s1.heap.objs.size + 1 := Nat.ne_of_lt (Nat.lt_succ_self _)
  have I2 := Inv.made (C := D.oc k) I1
  have f2 : (upd H1 s1.heap.objs.size (.own (s1.heap.objs.size + 1))) (s1.heap.objs.size + 1) = none := by rw [upd_ne (Ne.symm ne)]; exact f1
  have st2 : StoOk D (upd H1 s1.heap.objs.size (.own (s1.heap.objs.size + 1))) rho1 M1 := st1.new f0
  have ex2 : Ext H1 rho1 (upd H1 s1.heap.objs.size (.own (s1.heap.objs.size + 1))) rho1 := Ext.new f0
  have st3 : StoOk D (upd (upd H1 s1.heap.objs.size (.own (s1.heap.objs.size + 1))) (s1.heap.objs.size + 1) (.ins (D.oc k) s1.heap.objs.size [])) (rho1 ++ [s1.heap.objs.size + 1]) (M1 ++ [.ins k []]) := st2.newO f2 ⟨_, [], upd_same, rfl⟩
  have ex3 : Ext H1 rho1 (upd (upd H1 s1.heap.objs.size (.own (s1.heap.objs.size + 1))) (s1.heap.objs.size + 1) (.ins (D.oc k) s1.heap.objs.size [])) (rho1 ++ [s1.heap.objs.size + 1]) := ex2.trans (Ext.newL f2)
  have at3 : (rho1 ++ [s1.heap.objs.size + 1])[M1.length]? = some (s1.heap.objs.size + 1) := by rw [← st1.len]; simp
  have rx3 := rx.ext ex3
  have len : (V.ref (s1.heap.objs.size + 1) :: vs).length = fi.ps.length := by rw [List.length_cons, ← rx.len]; exact hn
  have sp : spOf D fi (V.ref (s1.heap.objs.size + 1) :: vs) (upd (upd H1 s1.heap.objs.size (.own (s1.heap.objs.size + 1))) (s1.heap.objs.size + 1) (.ins (D.oc k) s1.heap.objs.size [])) (fun v H2 => v = .non ∧ Q (.ref (s1.heap.objs.size + 1)) H2) (WE W s) := by
    refine ⟨PV.loc M1.length :: xs, M1 ++ [PObj.ins k []], _, st3, repL_cons.mpr ⟨_, _, rfl, rep_loc.mpr ⟨_, rfl, at3⟩, rx3⟩, by rw [List.length_cons]; exact hn, ?_⟩
    refine OKG.bind (OKG.ext ex3 q1) fun H4 rho4 v w M4 e4 s4 r4 q4 => ?_
    cases v <;> first | exact q4.elim | skip
    exact ⟨rep_non.mp r4, OKG.ok (x := PV.loc M1.length) (M := M4) q4 s4 (rep_loc.mpr ⟨_, rfl, e4.loc _ _ at3⟩)⟩
  have e0 : Env0 X.prog X.w D.K X.mg X.base X.A X.stack { s1 with heap := (s1.heap.push PySem.W.emptyDict).push (PySem.W.instObj (D.oc k) s1.heap.objs.size) } (upd (upd H1 s1.heap.objs.size (.own (s1.heap.objs.size + 1))) (s1.heap.objs.size + 1) (.ins (D.oc k) s1.heap.objs.size [])) := by rw [← C.kK]; exact I2.env0
  have ki : D.K.In ((s1.heap.push PySem.W.emptyDict).push (PySem.W.instObj (D.oc k) s1.heap.objs.size)) := by rw [← C.kK]; exact I2.kIn
  have lus : (Value.ref (s1.heap.objs.size + 1) :: us).length = fi.ps.length := by rw [← len, List.length_cons, List.length_cons, r.length]
  have bd := F.bd { s1 with heap := (s1.heap.push PySem.W.emptyDict).push (PySem.W.instObj (D.oc k) s1.heap.objs.size) } (Value.ref (s1.heap.objs.size + 1) :: us) ki (by rw [List.append_nil]; exact lus)
  rw [List.append_nil] at bd
  have room : Room fi.lev (X.A.under (.builtin "type.__call__" ⟨.ref (D.oc k) :: us, []⟩)) := (C.room.mono hl).make _ _ _
  have go := F.fn.run _ X.stack _ _ ⟨Value.ref (s1.heap.objs.size + 1) :: us, []⟩ (Value.ref (s1.heap.objs.size + 1) :: us) (V.ref (s1.heap.objs.size + 1) :: vs) _ (WE W s) room (make_guards C.gd) (e0.make _ _ _) len bd (.cons rfl r) sp
  have mkX : PySem.W.makesIn X.K (D.oc k) = true := by rw [C.kK]; exact O.mkr
  rw [← C.kK] at mt
  refine wpAny_call (make_map (f := fa) I1.kIn mkX mt.at_ (beq_iff_eq.mp mt.fn) (codeAny_mono go fun res s' hq => ?_))
  cases res with
  | error e => exact passM C.tk s pins _ _ e s' I2 hq
  | ok fl =>
    cases fl with
    | ret u =>
      obtain ⟨v, H', I3, rv, ev, q3⟩ := I2.after hq
      subst ev
      exact ⟨rv, ⟨V.ref (s1.heap.objs.size + 1), H', I3, rfl, q3⟩⟩
    | next => exact hq.elim
    | brk => exact hq.elim
    | cont => exact hq.elim
end
end SW

/-! Every expression does what it does. -/
namespace SW
open PySem PySem.Spec PyProof.Rows L2

def inBn (G : Glb) (x : Str) : Bool := decide (x ∈ G.bn)
def lenPs : PEs → Nat
  | .nil => 0
  | .cons _ es => lenPs es + 1
theorem lenPs_eq : ∀ es : PEs, (toL es).length = lenPs es
  | .nil => rfl
  | .cons e es => by show (toL es).length + 1 = _; rw [lenPs_eq es]; rfl
def lenPr : PPr → Nat
  | .nil => 0
  | .cons _ _ r => lenPr r + 1
def isLc : PEx → Bool
  | .lc .. => true
  | _ => false
def isTupT : PTg → Bool
  | .tup .. => true
  | _ => false
variable (G : Glb)
mutual
/-- what is asked of an expression's text -/
def wfE : PEx → Cn → Bool
  | .nam i x _, c => slotOk c i x
  | .glb g x _, c => glOk c x && (match G.cst[g]? with | some (y, _) => decide (y = x) | none => false)
  | .non .., _ => true
  | .bl .., _ => true
  | .int .., _ => true
  | .str .., _ => true
  | .tup es _ _, c => wfL es c
  | .lst es _, c => wfL es c
  | .bin _ a b _, c => wfE a c && wfE b c
  | .neg a _, c => wfE a c
  | .nt a _, c => wfE a c
  | .cmp _ a b _, c => wfE a c && wfE b c
  | .chn op op' a b d _, c => wfE a c && wfE b c && wfE d c
  | .and a es _, c => wfE a c && wfL es c
  | .or a es _, c => wfE a c && wfL es c
  | .ife t a b _, c => wfE t c && wfE a c && wfE b c
  | .sub a i _, c => wfE a c && wfE i c
  | .slc a l h _ _, c => wfE a c && wfE l c && wfE h c
  | .slcL a l _ _, c => wfE a c && wfE l c
  | .slcH a h _ _, c => wfE a c && wfE h c
  | .slcN a _ _, c => wfE a c
  | .call f x e es _ _, c => glOk c x && (match G.fns[f]? with | some fi => decide (fi.nm = x) && (decide (fi.lev ≤ c.lev) && fi.ow.isNone) | none => true) && wfE e c && wfL es c
  | .blt b e es _ _, c => glOk c b.nm && inBn G b.nm && wfE e c && wfL es c
  | .isi e t _ _ _, c => glOk c "isinstance" && inBn G "isinstance" && glOk c t.nm && inBn G t.nm && wfE e c
  | .meth _ o e es pa p, c => (pa.endLine == p.line) && decide (lenPs es < 20) && wfE o c && wfE e c && wfL es c
  | .meth0 _ o pa p, c => (pa.endLine == p.line) && wfE o c
  | .lc e t it ifs sc own _, c => wfI it t c && blkC c.N c.sc sc own && tgtsOk ⟨c.N, sc, c.lev⟩ t && ((slotsT t).all fun i => (own.map (·.2)).contains i) && decide (lenPs ifs ≤ 1) && wfE e ⟨c.N, sc, c.lev⟩ && wfL ifs ⟨c.N, sc, c.lev⟩
  | .lrg a _ _ _ _, c => glOk c "list" && inBn G "list" && glOk c "range" && inBn G "range" && wfE a c
  | .lrg2 a b _ _ _ _, c => glOk c "list" && inBn G "list" && glOk c "range" && inBn G "range" && wfE a c && wfE b c
  | .trev e _ _ _ _, c => glOk c "tuple" && inBn G "tuple" && glOk c "reversed" && inBn G "reversed" && wfE e c
  | .jn _ _ e _ pa p, c => (pa.endLine == p.line) && wfE e c
  | .fmt e _, c => wfE e c
  | .jst es _, c => decide (2 ≤ lenPs es) && wfL es c
  | .spl e _ _ _ pa p, c => (pa.endLine == p.line) && wfE e c
  | .fld o _ _, c => wfE o c
  | .mth0 f _ o pa p, c => (pa.endLine == p.line) && ((match G.fns[f]? with | some fi => decide (fi.lev ≤ c.lev) | none => true) && wfE o c)
  | .mth f _ o e es pa p, c => (pa.endLine == p.line) && (decide (lenPs es < 20) && ((match G.fns[f]? with | some fi => decide (fi.lev ≤ c.lev) | none => true) && (wfE o c && (wfE e c && wfL es c))))
  | .mk k f x e es _ _, c => glOk c x && ((match G.fns[f]? with | some fi => decide (fi.lev + 1 ≤ c.lev) && decide (fi.ow = some (k, ("__init__" : Str))) | none => true) && ((match G.ocs[k]? with | some r => decide (r.1 = x) | none => false) && (wfE e c && wfL es c)))
  | .dgt o k x pa p, c => (pa.endLine == p.line) && (wfE o c && (wfE k c && wfE x c))
  | .lrv e _ _ _ _, c => glOk c "list" && inBn G "list" && glOk c "reversed" && inBn G "reversed" && wfE e c
  | .lns e _ _ _ _, c => glOk c "len" && inBn G "len" && glOk c "set" && inBn G "set" && wfE e c
  | .dct ps _, c => decide (lenPr ps ≤ 15) && wfP ps c
  | .slcR a _ _ _ _ _, c => wfE a c
def wfP : PPr → Cn → Bool
  | .nil, _ => true
  | .cons k e r, c => wfE k c && (wfE e c && wfP r c)
def wfL : PEs → Cn → Bool
  | .nil, _ => true
  | .cons e es, c => wfE e c && wfL es c
def wfI : PIt → PTg → Cn → Bool
  | .seq e, _, c => wfE e c
  | .rng1 e _ _, _, c => glOk c "range" && inBn G "range" && wfE e c
  | .rngR e _ _ _ _, _, c => glOk c "range" && inBn G "range" && glOk c "reversed" && inBn G "reversed" && wfE e c
  | .rng2 a b _ _, _, c => glOk c "range" && inBn G "range" && wfE a c && wfE b c
  | .enum e _ _, t, c => isTupT t && glOk c "enumerate" && inBn G "enumerate" && wfE e c
  | .zip a b _ _, t, c => isTupT t && glOk c "zip" && inBn G "zip" && wfE a c && wfE b c
  | .zip3 a b e _ _, t, c => isTupT t && glOk c "zip" && inBn G "zip" && wfE a c && wfE b c && wfE e c
  | .rev e _ _, _, c => glOk c "reversed" && inBn G "reversed" && wfE e c
end
variable {G}
theorem inBn_of {x : Str} (h : inBn G x = true) : x ∈ G.bn := of_decide_eq_true h
theorem PE.no {X : Cx} {e : Expr} {D : Wd} {W : WX} : PE X e (teOf D W fun _ _ => .stuck) := ⟨fun pins sh s H Q I q => by obtain ⟨_, _, _, _, q⟩ := q; exact q.elim⟩
theorem PT.no {X : Cx} {e : Expr} {D : Wd} {W : WX} : PT X e (ttOf D W fun _ _ => .stuck) := ⟨fun pins sh s H Q I q => by obtain ⟨_, _, _, _, q⟩ := q; exact q.elim⟩
section
variable {D : Wd} {W : WX} {X : Cx} {e : Expr}
/-- both readings of an expression -/
abbrev Both (D : Wd) (X : Cx) (W : WX) (e : Expr) (f : Bool → Sig → Sto → Res PV) : Prop := PE X e (teOf D W (f false)) ∧ PT X e (ttOf D W fun tau M => (f true tau M).bool)
theorem units_ok {c : Cn} (C : COk D G c X W) : X.A.units + 64 < cLine := C.room.units
end
theorem lastMarks2 (op op' : CmpOp) (b d : PEx) : lastMarks [op, op'] [toE b, toE d] = false := by
  show lastMarks [op'] [toE d] = false
  exact mark_toE op' d
/-! displays -/
theorem toK_some : ∀ ps : PPr, (toK ps).all (·.isSome) = true
  | .nil => rfl
  | .cons k e r => by rw [toK, List.all_cons, toK_some r]; rfl
theorem toK_len : ∀ ps : PPr, (toK ps).length = lenPr ps
  | .nil => rfl
  | .cons k e r => by rw [toK, List.length_cons, toK_len r, lenPr]
theorem toV_len : ∀ ps : PPr, (toV ps).length = lenPr ps
  | .nil => rfl
  | .cons k e r => by rw [toV, List.length_cons, toV_len r, lenPr]
section
variable {D : Wd} {W : WX} {X : Cx} {p pos : Pos}
theorem PPq.imp {ks : List (Option Expr)} {vs : List Expr} {t t' : TP} (h : PPq X pos ks vs t) (k : ∀ s H Q, t' s H Q → t s H Q) : PPq X pos ks vs t' := ⟨fun pins s σ H Q I q => h.run pins s σ H Q I (k _ _ _ q)⟩
theorem sim_pnil : PPq X pos [] [] (tpOf D W fun _ M => .ok [] M) := ⟨fun pins s σ H Q I ⟨tau, M, rho, rs, q⟩ => pairTrees_nil_walk ⟨[], H, I, .nil, OKG.ok (R := RepP D) (x := []) (M := M) q rs.mem rfl⟩⟩
theorem sim_pcons {k e : PEx} {ks : List (Option Expr)} {vs : List Expr} {f g : Sig → Sto → Res PV} {h : Sig → Sto → Res (List (PV × PV))} (hk : PE X (toE k) (teOf D W f)) (he : PE X (toE e) (teOf D W g)) (hr : PPq X pos ks vs (tpOf D W h)) :
    PPq X pos (some (toE k) :: ks) (toE e :: vs) (tpOf D W fun tau M => (f tau M).bind fun x M => (g tau M).bind fun y M => (h tau M).bind fun ps M => .ok ((x, y) :: ps) M) := ⟨fun pins s σ H Q I ⟨tau, M, rho, rs, q⟩ => by
  refine pairTrees_cons_walk (thn (hk.run pins s σ H (fun v H1 => ∃ x M1 rho1, RelS D H1 rho1 M1 σ tau ∧ Rep D H1 rho1 x v ∧ OKG D (RepP D) H1 rho1 ((g tau M1).bind fun y M => (h tau M).bind fun ps M => .ok ((x, y) :: ps) M) Q (fun cls d H' => W cls d σ H')) I ⟨tau, M, rho, rs, q.bind fun H1 rho1 x v M1 e1 s1 r1 q1 => ⟨x, M1, rho1, rs.ext e1 s1, r1, q1⟩⟩) fun u s1 ⟨v, H1, I1, rv, x, M1, rho1, rs1, rx, q1⟩ => ?_)
  refine thn (he.run pins s1 σ H1 (fun w H2 => ∃ y M2 rho2, RelS D H2 rho2 M2 σ tau ∧ Rep D H2 rho2 x v ∧ Rep D H2 rho2 y w ∧ OKG D (RepP D) H2 rho2 ((h tau M2).bind fun ps M => .ok ((x, y) :: ps) M) Q (fun cls d H' => W cls d σ H')) I1 ⟨tau, M1, rho1, rs1, q1.bind fun H2 rho2 y w M2 e2 s2 r2 q2 => ⟨y, M2, rho2, rs1.ext e2 s2, rx.ext e2, r2, q2⟩⟩) fun u2 s2 ⟨w, H2, I2, rw', y, M2, rho2, rs2, rx2, ry2, q2⟩ => ?_
  refine thn (hr.run pins s2 σ H2 (fun vs H3 => Q ((v, w) :: vs) H3) I2 ⟨tau, M2, rho2, rs2, q2.bind fun H3 rho3 ps vs M3 e3 s3 r3 q3 => OKG.ok (R := RepP D) q3 s3 ⟨v, w, vs, rfl, rx2.ext e3, ry2.ext e3, r3⟩⟩) fun us s3 ⟨vs, H3, I3, rel, q3⟩ => ?_
  exact ⟨(v, w) :: vs, H3, I3, .cons ⟨rv, rw'⟩ rel, q3⟩⟩
theorem sim_dct {c : Cn} (C : COk D G c X W) {ps : PPr} (hl : lenPr ps ≤ 15) {h : Sig → Sto → Res (List (PV × PV))} (hp : PPq X p (toK ps) (toV ps) (tpOf D W h)) (h0 : ps = .nil → ∀ tau M, h tau M = .ok [] M) :
    PE X (.Dict (toK ps) (toV ps) p) (teOf D W fun tau M => (h tau (M ++ [.dct []])).bind fun kvs M' => Res.of ((putsD M.length kvs M').map fun N => (.loc M.length, N))) := by
  cases ps with
  | nil =>
    refine PE.imp (pe_emptyQ C.kw) fun s H Q ⟨tau, M, rho, rs, q⟩ p np sp => ?_
    dsimp only at q
    rw [h0 rfl] at q
    exact q _ (rho ++ [p]) (.ref p) (Ext.newL np) (rs.mem.newO np ⟨_, upd_same, .inr ⟨sp, [], rfl, rfl, List.nodup_nil, Nat.zero_le _⟩⟩) (rep_loc.mpr ⟨p, rfl, by rw [← rs.mem.len]; simp⟩)
  | cons k e r =>
    refine PE.imp (pe_dispQ C.kK C.kw C.room.units hp (toK_some _) (by rw [toK_len, toV_len]) (by rw [toK]; intro z; cases z) (by rw [toK_len]; exact hl)) fun s H Q ⟨tau, M, rho, rs, q⟩ p np sp => ?_
    have e0 : Ext H rho (upd H p (dnO D.w p [])) (rho ++ [p]) := Ext.newL np
    have s0 : StoOk D (upd H p (dnO D.w p [])) (rho ++ [p]) (M ++ [.dct []]) := rs.mem.newO np ⟨_, upd_same, .inr ⟨sp, [], rfl, rfl, List.nodup_nil, Nat.zero_le _⟩⟩
    have at0 : (rho ++ [p])[M.length]? = some p := by rw [← rs.mem.len]; simp
    refine ⟨tau, M ++ [.dct []], rho ++ [p], rs.ext e0 s0, OKG.bind (OKG.ext e0 q) fun H2 rho2 kvs vs M2 e2 s2 r2 q2 => ?_⟩
    cases hz : putsD M.length kvs M2 with
    | none => rw [hz] at q2; exact q2.elim
    | some M' =>
      rw [hz] at q2
      exact ⟨kvs, M2, rho2, M.length, M', s2, r2, e2.loc _ _ at0, hz, fun H' rho' e' s' => q2 H' rho' (.ref p) e' s' (rep_loc.mpr ⟨p, rfl, e'.loc _ _ (e2.loc _ _ at0)⟩)⟩
end
mutual
theorem simE {D : Wd} : (e : PEx) → (c : Cn) → (X : Cx) → (W : WX) → COk D G c X W → wfE G e c = true → Both D X W (toE e) (fun m => evE G m e)
  | .nam i x p, c, X, W, C, h => PE.fin C.kK (sim_nam C (p := p) h) (true_toE (e := .nam i x p) trivial)
  | .glb g x p, c, X, W, C, h => by
    rw [wfE, Bool.and_eq_true] at h
    exact PE.fin C.kK (sim_glb C (p := p) h.1 h.2) (true_toE (e := .glb g x p) trivial)
  | .non k p, c, X, W, C, h => PE.fin C.kK (sim_const (x := .non) pe_non fun _ _ => rep_non.mpr rfl) (true_toE (e := .non k p) trivial)
  | .bl b k p, c, X, W, C, h => PE.fin C.kK (sim_const (x := .bl b) pe_bl fun _ _ => rep_bl.mpr rfl) (true_toE (e := .bl b k p) trivial)
  | .int b k p, c, X, W, C, h => PE.fin C.kK (sim_const (x := .int b) pe_int fun _ _ => rep_int.mpr rfl) (true_toE (e := .int b k p) trivial)
  | .str b k p, c, X, W, C, h => PE.fin C.kK (sim_const (x := .str b.cps.toList) pe_str fun _ _ => rep_str.mpr (by simp)) (true_toE (e := .str b k p) trivial)
  | .tup es k p, c, X, W, C, h => by
    rw [wfE] at h
    exact PE.fin C.kK (sim_tup (simL es c X W C h)) (true_toE (e := .tup es k p) trivial)
  | .lst es p, c, X, W, C, h => by
    rw [wfE] at h
    exact PE.fin C.kK (sim_lst (simL es c X W C h)) (true_toE (e := .lst es p) trivial)
  | .bin op a b p, c, X, W, C, h => by
    rw [wfE, Bool.and_eq_true] at h
    exact PE.fin C.kK (sim_bin C.kK (simE a c X W C h.1).1 (simE b c X W C h.2).1) (true_toE (e := .bin op a b p) trivial)
  | .neg a p, c, X, W, C, h => by
    rw [wfE] at h
    exact PE.fin C.kK (sim_neg (simE a c X W C h).1) (true_toE (e := .neg a p) trivial)
  | .nt a p, c, X, W, C, h => by
    rw [wfE] at h
    have k := simE a c X W C h
    exact ⟨sim_not k.1, sim_notT k.2⟩
  | .cmp op a b p, c, X, W, C, h => by
    rw [wfE, Bool.and_eq_true] at h
    exact sim_cmp C.kK C.kw (units_ok C) (mark_toE op b) (simE a c X W C h.1).1 (simE b c X W C h.2).1
  | .chn op op' a b d p, c, X, W, C, h => by
    simp only [wfE, Bool.and_eq_true] at h
    exact sim_chn C.kK C.kw (units_ok C) (lastMarks2 op op' b d) (simE a c X W C h.1.1).1 (simE b c X W C h.1.2).1 (simE d c X W C h.2).1
  | .and a es p, c, X, W, C, h => by
    rw [wfE, Bool.and_eq_true] at h
    have k := simE a c X W C h.1
    exact ⟨simAnd es c X W C h.2 p k.1, (simAndT es c X W C h.2 p k.2).pt⟩
  | .or a es p, c, X, W, C, h => by
    rw [wfE, Bool.and_eq_true] at h
    have k := simE a c X W C h.1
    exact ⟨simOr es c X W C h.2 p k.1, (simOrT es c X W C h.2 p k.2).pt⟩
  | .ife t a b p, c, X, W, C, h => by
    simp only [wfE, Bool.and_eq_true] at h
    exact ⟨sim_ife (simE t c X W C h.1.1).2 (simE a c X W C h.1.2).1 (simE b c X W C h.2).1, PT.no⟩
  | .sub a i p, c, X, W, C, h => by
    rw [wfE, Bool.and_eq_true] at h
    exact PE.fin C.kK (sim_sub C.kK C.kw (units_ok C) (plain_toE i) (simE a c X W C h.1).1 (simE i c X W C h.2).1) (true_toE (e := .sub a i p) trivial)
  | .slc a l u p2 p, c, X, W, C, h => by
    simp only [wfE, Bool.and_eq_true] at h
    exact PE.fin C.kK (sim_slc C.kK (simE a c X W C h.1.1).1 (simE l c X W C h.1.2).1 (simE u c X W C h.2).1) (true_toE (e := .slc a l u p2 p) trivial)
  | .slcL a l p2 p, c, X, W, C, h => by
    simp only [wfE, Bool.and_eq_true] at h
    exact PE.fin C.kK (sim_slcL C.kK (simE a c X W C h.1).1 (simE l c X W C h.2).1) (true_toE (e := .slcL a l p2 p) trivial)
  | .slcH a l p2 p, c, X, W, C, h => by
    simp only [wfE, Bool.and_eq_true] at h
    exact PE.fin C.kK (sim_slcH C.kK (simE a c X W C h.1).1 (simE l c X W C h.2).1) (true_toE (e := .slcH a l p2 p) trivial)
  | .slcN a p2 p, c, X, W, C, h => by
    rw [wfE] at h
    exact PE.fin C.kK (sim_slcN C.kK (simE a c X W C h).1) (true_toE (e := .slcN a p2 p) trivial)
  | .call f x e es p p2, c, X, W, C, h => by
    simp only [wfE, Bool.and_eq_true] at h
    obtain ⟨⟨⟨h1, h2⟩, h3⟩, h4⟩ := h
    cases ef : G.fns[f]? with
    | none =>
      have e0 : ∀ m, (fun tau M => evE G m (.call f x e es p p2) tau M) = fun _ _ => .stuck := fun m => by
        funext tau M
        simp only [evE, ef]
        cases m <;> rfl
      refine ⟨?_, ?_⟩
      · show PE X _ (teOf D W fun tau M => evE G false (.call f x e es p p2) tau M)
        rw [e0]; exact PE.no
      · show PT X _ (ttOf D W fun tau M => ((fun tau M => evE G true (.call f x e es p p2) tau M) tau M).bool)
        rw [e0]; exact PT.no
    | some fi =>
      rw [ef] at h2
      simp only [Bool.and_eq_true, decide_eq_true_eq] at h2
      obtain ⟨rfl, hl, h0⟩ := h2
      have h0 : fi.ow = none := Option.isNone_iff_eq_none.mp h0
      have k := sim_call C (List.mem_of_getElem? ef) hl (p := p) (p2 := p2) h1 h0 (sim_cons (simE e c X W C h3).1 (simL es c X W C h4))
      have e1 : ∀ m, (fun tau M => evE G m (.call f fi.nm e es p p2) tau M) = fun tau M => fin m ((evE G false e tau M).bind fun x M => (evL G es tau M).bind fun xs M => fi.go (x :: xs) M) := fun m => by
        funext tau M
        simp only [evE, ef]
      have k2 := PE.fin C.kK k (true_toE (e := .call f fi.nm e es p p2) trivial)
      refine ⟨?_, ?_⟩
      · have := k2.1; rw [← e1] at this; exact this
      · have := k2.2
        have e2 := e1 true
        show PT X _ (ttOf D W fun tau M => ((fun tau M => evE G true (.call f fi.nm e es p p2) tau M) tau M).bool)
        rw [e2]; exact this
  | .blt b e es p p2, c, X, W, C, h => by
    simp only [wfE, Bool.and_eq_true] at h
    obtain ⟨⟨⟨h1, h2⟩, h3⟩, h4⟩ := h
    exact PE.fin C.kK (sim_blt C h1 (inBn_of h2) (sim_cons (simE e c X W C h3).1 (simL es c X W C h4))) (true_toE (e := .blt b e es p p2) trivial)
  | .isi e t p pt p2, c, X, W, C, h => by
    simp only [wfE, Bool.and_eq_true] at h
    obtain ⟨⟨⟨⟨h1, h2⟩, h3⟩, h4⟩, h5⟩ := h
    exact PE.fin C.kK (sim_isi C h1 (inBn_of h2) h3 (inBn_of h4) (simE e c X W C h5).1) (true_toE (e := .isi e t p pt p2) trivial)
  | .meth m o e es pa p, c, X, W, C, h => by
    simp only [wfE, Bool.and_eq_true, decide_eq_true_eq] at h
    obtain ⟨⟨⟨⟨h1, h2⟩, h3⟩, h4⟩, h5⟩ := h
    exact PE.fin C.kK (sim_meth C h1 (by rw [lenPs_eq]; exact h2) (simE o c X W C h3).1 (sim_cons (simE e c X W C h4).1 (simL es c X W C h5))) (true_toE (e := .meth m o e es pa p) trivial)
  | .meth0 m o pa p, c, X, W, C, h => by
    simp only [wfE, Bool.and_eq_true] at h
    exact PE.fin C.kK (sim_meth0 C h.1 (simE o c X W C h.2).1) (true_toE (e := .meth0 m o pa p) trivial)
  | .lc e t it ifs sc own p, c, X, W, C, h => by
    simp only [wfE, Bool.and_eq_true, decide_eq_true_eq] at h
    obtain ⟨⟨⟨⟨⟨⟨h1, h2⟩, h3⟩, h4⟩, h5⟩, h6⟩, h7⟩ := h
    refine PE.fin C.kK (sim_lc C (simI it t c X W C h1) h2 h3 (fun i hi => ?_) (fun X' W' C' => simTs ifs _ X' W' C' h7 h5) (fun X' W' C' => (simE e _ X' W' C' h6).1) (fold_toI it X.env)) (true_toE (e := .lc e t it ifs sc own p) trivial)
    have := List.all_eq_true.mp h4 i hi
    exact List.contains_iff_mem.mp this
  | .lrg a p p2 q q2, c, X, W, C, h => by
    simp only [wfE, Bool.and_eq_true] at h
    obtain ⟨⟨⟨⟨h1, h2⟩, h3⟩, h4⟩, h5⟩ := h
    exact PE.fin C.kK (sim_lrg C h1 (inBn_of h2) h3 (inBn_of h4) (simE a c X W C h5).1) (true_toE (e := .lrg a p p2 q q2) trivial)
  | .lrg2 a b p p2 q q2, c, X, W, C, h => by
    simp only [wfE, Bool.and_eq_true] at h
    obtain ⟨⟨⟨⟨⟨h1, h2⟩, h3⟩, h4⟩, h5⟩, h6⟩ := h
    exact PE.fin C.kK (sim_lrg2 C h1 (inBn_of h2) h3 (inBn_of h4) (simE a c X W C h5).1 (simE b c X W C h6).1) (true_toE (e := .lrg2 a b p p2 q q2) trivial)
  | .trev e p p2 q q2, c, X, W, C, h => by
    simp only [wfE, Bool.and_eq_true] at h
    obtain ⟨⟨⟨⟨h1, h2⟩, h3⟩, h4⟩, h5⟩ := h
    exact PE.fin C.kK (sim_trev C h1 (inBn_of h2) h3 (inBn_of h4) (simE e c X W C h5).1) (true_toE (e := .trev e p p2 q q2) trivial)
  | .dgt o k x pa p, c, X, W, C, h => by
    simp only [wfE, Bool.and_eq_true] at h
    exact PE.fin C.kK (sim_dgt C h.1 (simE o c X W C h.2.1).1 (simE k c X W C h.2.2.1).1 (simE x c X W C h.2.2.2).1) (true_toE (e := .dgt o k x pa p) trivial)
  | .jn s k e ps pa p, c, X, W, C, h => by
    simp only [wfE, Bool.and_eq_true] at h
    exact PE.fin C.kK (sim_jn C h.1 (simE e c X W C h.2).1) (true_toE (e := .jn s k e ps pa p) trivial)
  | .fmt e p, c, X, W, C, h => by
    rw [wfE] at h
    exact PE.fin C.kK (sim_fmt (simE e c X W C h).1) (true_toE (e := .fmt e p) trivial)
  | .jst es p, c, X, W, C, h => by
    simp only [wfE, Bool.and_eq_true, decide_eq_true_eq] at h
    exact PE.fin C.kK (sim_jst (by rw [lenPs_eq]; exact h.1) (simJ es c X W C h.2)) (true_toE (e := .jst es p) trivial)
  | .spl e s k ps pa p, c, X, W, C, h => by
    simp only [wfE, Bool.and_eq_true] at h
    exact PE.fin C.kK (sim_spl h.1 (simE e c X W C h.2).1) (true_toE (e := .spl e s k ps pa p) trivial)
  | .lrv e p p2 q q2, c, X, W, C, h => by
    simp only [wfE, Bool.and_eq_true] at h
    obtain ⟨⟨⟨⟨h1, h2⟩, h3⟩, h4⟩, h5⟩ := h
    exact PE.fin C.kK (sim_lrv C h1 (inBn_of h2) h3 (inBn_of h4) (simE e c X W C h5).1) (true_toE (e := .lrv e p p2 q q2) trivial)
  | .lns e p p2 q q2, c, X, W, C, h => by
    simp only [wfE, Bool.and_eq_true] at h
    obtain ⟨⟨⟨⟨h1, h2⟩, h3⟩, h4⟩, h5⟩ := h
    exact PE.fin C.kK (sim_lns C h1 (inBn_of h2) h3 (inBn_of h4) (simE e c X W C h5).1) (true_toE (e := .lns e p p2 q q2) trivial)
  | .dct ps p, c, X, W, C, h => by
    simp only [wfE, Bool.and_eq_true, decide_eq_true_eq] at h
    exact PE.fin C.kK (sim_dct C h.1 (simP ps c X W C p h.2) fun e => by subst e; exact fun _ _ => rfl) (true_toE (e := .dct ps p) trivial)
  | .slcR a k p1 p2 p3 p, c, X, W, C, h => by
    rw [wfE] at h
    exact PE.fin C.kK (sim_slcR C.kK (simE a c X W C h).1) (true_toE (e := .slcR a k p1 p2 p3 p) trivial)
  | .fld o f p, c, X, W, C, h => by
    rw [wfE] at h
    exact PE.fin C.kK (sim_fld C (simE o c X W C h).1) (true_toE (e := .fld o f p) trivial)
  | .mth0 f mn o pa p, c, X, W, C, h => by
    simp only [wfE, Bool.and_eq_true] at h
    obtain ⟨h1, h2, h3⟩ := h
    cases ef : G.fns[f]? with
    | none =>
      have e0 : ∀ m, (fun tau M => evE G m (.mth0 f mn o pa p) tau M) = fun _ _ => .stuck := fun m => by
        funext tau M
        simp only [evE, ef]
        cases m <;> rfl
      refine ⟨?_, ?_⟩
      · show PE X _ (teOf D W fun tau M => evE G false (.mth0 f mn o pa p) tau M)
        rw [e0]; exact PE.no
      · show PT X _ (ttOf D W fun tau M => ((fun tau M => evE G true (.mth0 f mn o pa p) tau M) tau M).bool)
        rw [e0]; exact PT.no
    | some fi =>
      rw [ef] at h2
      simp only [decide_eq_true_eq] at h2
      have k := sim_mth0 C (List.mem_of_getElem? ef) h2 (mn := mn) (pa := pa) (p := p) h1 (simE o c X W C h3).1
      have e1 : ∀ m, (fun tau M => evE G m (.mth0 f mn o pa p) tau M) = fun tau M => fin m ((evE G false o tau M).bind fun x M => if mthP fi mn x M = true then fi.go [x] M else .stuck) := fun m => by
        funext tau M
        simp only [evE, ef]
      have k2 := PE.fin C.kK k (true_toE (e := .mth0 f mn o pa p) trivial)
      refine ⟨?_, ?_⟩
      · have := k2.1; rw [← e1] at this; exact this
      · have := k2.2
        have e2 := e1 true
        show PT X _ (ttOf D W fun tau M => ((fun tau M => evE G true (.mth0 f mn o pa p) tau M) tau M).bool)
        rw [e2]; exact this
  | .mth f mn o e es pa p, c, X, W, C, h => by
    simp only [wfE, Bool.and_eq_true, decide_eq_true_eq] at h
    obtain ⟨h1, hf, h2, h3, h4, h5⟩ := h
    cases ef : G.fns[f]? with
    | none =>
      have e0 : ∀ m, (fun tau M => evE G m (.mth f mn o e es pa p) tau M) = fun _ _ => .stuck := fun m => by
        funext tau M
        simp only [evE, ef]
        cases m <;> rfl
      refine ⟨?_, ?_⟩
      · show PE X _ (teOf D W fun tau M => evE G false (.mth f mn o e es pa p) tau M)
        rw [e0]; exact PE.no
      · show PT X _ (ttOf D W fun tau M => ((fun tau M => evE G true (.mth f mn o e es pa p) tau M) tau M).bool)
        rw [e0]; exact PT.no
    | some fi =>
      rw [ef] at h2
      simp only [decide_eq_true_eq] at h2
      have k := sim_mth C (List.mem_of_getElem? ef) h2 (mn := mn) (pa := pa) (p := p) h1 (by rw [lenPs_eq]; exact hf) (simE o c X W C h3).1 (sim_cons (simE e c X W C h4).1 (simL es c X W C h5))
      have e1 : ∀ m, (fun tau M => evE G m (.mth f mn o e es pa p) tau M) = fun tau M => fin m ((evE G false o tau M).bind fun x M => if mthP fi mn x M = true then (evE G false e tau M).bind fun y M => (evL G es tau M).bind fun ys M => fi.go (x :: y :: ys) M else .stuck) := fun m => by
        funext tau M
        simp only [evE, ef]
      have k2 := PE.fin C.kK k (true_toE (e := .mth f mn o e es pa p) trivial)
      refine ⟨?_, ?_⟩
      · have := k2.1; rw [← e1] at this; exact this
      · have := k2.2
        have e2 := e1 true
        show PT X _ (ttOf D W fun tau M => ((fun tau M => evE G true (.mth f mn o e es pa p) tau M) tau M).bool)
        rw [e2]; exact this
  | .mk kc f x e es p p2, c, X, W, C, h => by
    simp only [wfE, Bool.and_eq_true] at h
    obtain ⟨h1, h2, h3, h4, h5⟩ := h
    cases ef : G.fns[f]? with
    | none =>
      have e0 : ∀ m, (fun tau M => evE G m (.mk kc f x e es p p2) tau M) = fun _ _ => .stuck := fun m => by
        funext tau M
        simp only [evE, ef]
        cases m <;> rfl
      refine ⟨?_, ?_⟩
      · show PE X _ (teOf D W fun tau M => evE G false (.mk kc f x e es p p2) tau M)
        rw [e0]; exact PE.no
      · show PT X _ (ttOf D W fun tau M => ((fun tau M => evE G true (.mk kc f x e es p p2) tau M) tau M).bool)
        rw [e0]; exact PT.no
    | some fi =>
      rw [ef] at h2
      simp only [Bool.and_eq_true, decide_eq_true_eq] at h2
      cases eo : G.ocs[kc]? with
      | none => rw [eo] at h3; cases h3
      | some r =>
        obtain ⟨y, ns⟩ := r
        rw [eo] at h3
        obtain rfl : y = x := of_decide_eq_true h3
        have k := sim_mk C (List.mem_of_getElem? ef) h2.1 eo h2.2 (p := p) (p2 := p2) h1 (sim_cons (simE e c X W C h4).1 (simL es c X W C h5))
        have e1 : ∀ m, (fun tau M => evE G m (.mk kc f y e es p p2) tau M) = fun tau M => fin m ((evE G false e tau M).bind fun y M => (evL G es tau M).bind fun ys M => mkP fi kc (y :: ys) M) := fun m => by
          funext tau M
          simp only [evE, ef]
        have k2 := PE.fin C.kK k (true_toE (e := .mk kc f y e es p p2) trivial)
        refine ⟨?_, ?_⟩
        · have := k2.1; rw [← e1] at this; exact this
        · have := k2.2
          have e2 := e1 true
          show PT X _ (ttOf D W fun tau M => ((fun tau M => evE G true (.mk kc f y e es p p2) tau M) tau M).bool)
          rw [e2]; exact this
theorem simP {D : Wd} : (ps : PPr) → (c : Cn) → (X : Cx) → (W : WX) → COk D G c X W → (p : Pos) → wfP G ps c = true → PPq X p (toK ps) (toV ps) (tpOf D W (evP G ps))
  | .nil, c, X, W, C, p, h => sim_pnil
  | .cons k e r, c, X, W, C, p, h => by
    rw [wfP, Bool.and_eq_true, Bool.and_eq_true] at h
    exact sim_pcons (simE k c X W C h.1).1 (simE e c X W C h.2.1).1 (simP r c X W C p h.2.2)
theorem simJ {D : Wd} : (es : PEs) → (c : Cn) → (X : Cx) → (W : WX) → COk D G c X W → wfL G es c = true → PJ X (toL es) (jTs D G W es)
  | .nil, c, X, W, C, h => .nil
  | .cons e es, c, X, W, C, h => by
    rw [wfL, Bool.and_eq_true] at h
    exact .cons (simE e c X W C h.1).1 (simJ es c X W C h.2)
theorem simL {D : Wd} : (es : PEs) → (c : Cn) → (X : Cx) → (W : WX) → COk D G c X W → wfL G es c = true → PA X (toL es) (taOf D W (evL G es))
  | .nil, c, X, W, C, h => sim_nil
  | .cons e es, c, X, W, C, h => by
    rw [wfL, Bool.and_eq_true] at h
    exact sim_cons (simE e c X W C h.1).1 (simL es c X W C h.2)
theorem simAnd {D : Wd} : (es : PEs) → (c : Cn) → (X : Cx) → (W : WX) → COk D G c X W → wfL G es c = true → (p : Pos) → {a : Expr} → {f : Sig → Sto → Res PV} → PE X a (teOf D W f) →
    PE X (.BoolOp .And (a :: toL es) p) (teOf D W fun tau M => (f tau M).bind fun x M => evAnd G false es x tau M)
  | .nil, c, X, W, C, h, p, a, f, ha => sim_and1 ha
  | .cons e es, c, X, W, C, h, p, a, f, ha => by
    rw [wfL, Bool.and_eq_true] at h
    exact sim_and2 ha (simAnd es c X W C h.2 p (simE e c X W C h.1).1)
theorem simOr {D : Wd} : (es : PEs) → (c : Cn) → (X : Cx) → (W : WX) → COk D G c X W → wfL G es c = true → (p : Pos) → {a : Expr} → {f : Sig → Sto → Res PV} → PE X a (teOf D W f) →
    PE X (.BoolOp .Or (a :: toL es) p) (teOf D W fun tau M => (f tau M).bind fun x M => evOr G false es x tau M)
  | .nil, c, X, W, C, h, p, a, f, ha => sim_or1 ha
  | .cons e es, c, X, W, C, h, p, a, f, ha => by
    rw [wfL, Bool.and_eq_true] at h
    exact sim_or2 ha (simOr es c X W C h.2 p (simE e c X W C h.1).1)
theorem simAndT {D : Wd} : (es : PEs) → (c : Cn) → (X : Cx) → (W : WX) → COk D G c X W → wfL G es c = true → (p : Pos) → {a : Expr} → {f : Sig → Sto → Res PV} → PT X a (ttOf D W fun tau M => (f tau M).bool) →
    PW X (.BoolOp .And (a :: toL es) p) (ttOf D W fun tau M => ((f tau M).bind fun x M => evAnd G true es x tau M).bool)
  | .nil, c, X, W, C, h, p, a, f, ha => sim_andT1 ha
  | .cons e es, c, X, W, C, h, p, a, f, ha => by
    rw [wfL, Bool.and_eq_true] at h
    exact sim_andT2 ha (simAndT es c X W C h.2 p (simE e c X W C h.1).2)
theorem simOrT {D : Wd} : (es : PEs) → (c : Cn) → (X : Cx) → (W : WX) → COk D G c X W → wfL G es c = true → (p : Pos) → {a : Expr} → {f : Sig → Sto → Res PV} → PT X a (ttOf D W fun tau M => (f tau M).bool) →
    PW X (.BoolOp .Or (a :: toL es) p) (ttOf D W fun tau M => ((f tau M).bind fun x M => evOr G true es x tau M).bool)
  | .nil, c, X, W, C, h, p, a, f, ha => sim_orT1 ha
  | .cons e es, c, X, W, C, h, p, a, f, ha => by
    rw [wfL, Bool.and_eq_true] at h
    exact sim_orT2 ha (simOrT es c X W C h.2 p (simE e c X W C h.1).2)
theorem simTs {D : Wd} : (es : PEs) → (c : Cn) → (X : Cx) → (W : WX) → COk D G c X W → wfL G es c = true → lenPs es ≤ 1 → PTs X (toL es) (ttOf D W (evTs G es))
  | .nil, c, X, W, C, h, hl => ⟨fun pins sh s H Q I q => pts_nil.run pins sh s H Q I (by
      obtain ⟨tau, M, rho, rs, q⟩ := q
      exact OKG.ok (R := fun _ _ (x : Bool) (v : Bool) => v = x) (x := true) (M := M) q rs.mem rfl)⟩
  | .cons e .nil, c, X, W, C, h, hl => by
    rw [wfL, Bool.and_eq_true] at h
    exact pts_one (simE e c X W C h.1).2
  | .cons e (.cons e' es), c, X, W, C, h, hl => by
    simp only [lenPs] at hl
    omega
theorem simI {D : Wd} : (it : PIt) → (t : PTg) → (c : Cn) → (X : Cx) → (W : WX) → COk D G c X W → wfI G it t c = true → PI X (toT t) (toI it) (tiOf D W (evI G it))
  | .seq e, t, c, X, W, C, h => by
    rw [wfI] at h
    exact sim_seq C.kK (simE e c X W C h).1
  | .rng1 e p p2, t, c, X, W, C, h => by
    simp only [wfI, Bool.and_eq_true] at h
    exact sim_rng1 C h.1.1 (inBn_of h.1.2) (simE e c X W C h.2).1
  | .rngR e p p2 q q2, t, c, X, W, C, h => by
    simp only [wfI, Bool.and_eq_true] at h
    obtain ⟨⟨⟨⟨h1, h2⟩, h3⟩, h4⟩, h5⟩ := h
    exact sim_rngR C h1 (inBn_of h2) h3 (inBn_of h4) (simE e c X W C h5).1
  | .rng2 a b p p2, t, c, X, W, C, h => by
    simp only [wfI, Bool.and_eq_true] at h
    exact sim_rng2 C h.1.1.1 (inBn_of h.1.1.2) (simE a c X W C h.1.2).1 (simE b c X W C h.2).1
  | .enum e p p2, .tup ts k pt, c, X, W, C, h => by
    simp only [wfI, Bool.and_eq_true] at h
    exact sim_enum C h.1.1.2 (inBn_of h.1.2) (simE e c X W C h.2).1
  | .enum e p p2, .one i x pt, c, X, W, C, h => by
    simp only [wfI, isTupT, Bool.false_and] at h
    cases h
  | .zip a b p p2, .tup ts k pt, c, X, W, C, h => by
    simp only [wfI, Bool.and_eq_true] at h
    exact sim_zip C h.1.1.1.2 (inBn_of h.1.1.2) (simE a c X W C h.1.2).1 (simE b c X W C h.2).1
  | .zip a b p p2, .one i x pt, c, X, W, C, h => by
    simp only [wfI, isTupT, Bool.false_and] at h
    cases h
  | .zip3 a b e p p2, .tup ts k pt, c, X, W, C, h => by
    simp only [wfI, Bool.and_eq_true] at h
    exact sim_zip3 C h.1.1.1.1.2 (inBn_of h.1.1.1.2) (simE a c X W C h.1.1.2).1 (simE b c X W C h.1.2).1 (simE e c X W C h.2).1
  | .zip3 a b e p p2, .one i x pt, c, X, W, C, h => by
    simp only [wfI, isTupT, Bool.false_and] at h
    cases h
  | .rev e p p2, t, c, X, W, C, h => by
    simp only [wfI, Bool.and_eq_true] at h
    exact sim_rev C h.1.1 (inBn_of h.1.2) (simE e c X W C h.2).1
end
end SW

/-! Statements, defs. -/
namespace SW
open PySem PySem.Spec PyProof.Rows L2

/-- a statement's answer makes the ends hold -/
def SOK (D : Wd) (W : WX) (E : Ends) (H0 : Hp) (rho0 : List Addr) : SR → Prop
  | .next tau M => ∀ (s : L2.St) (H : Hp) (rho : List Addr), Ext H0 rho0 H rho → RelS D H rho M s tau → E.nx s H
  | .ret x M => ∀ (H : Hp) (rho : List Addr) (v : V), Ext H0 rho0 H rho → StoOk D H rho M → Rep D H rho x v → E.rt v H
  | .exc c y tau M => ∀ (s : L2.St) (H : Hp) (rho : List Addr) (cls : Value) (d : Option Addr), Ext H0 rho0 H rho → RelS D H rho M s tau → ERep D H rho c y cls d → W cls d s H
  | .stuck => False
def tsOf (D : Wd) (W : WX) (f : Sig → Sto → SR) : TS := fun E s H => ∃ tau M rho, RelS D H rho M s tau ∧ SOK D W E H rho (f tau M)
section
variable {D : Wd} {W : WX} {E : Ends} {H0 H : Hp} {rho0 rho : List Addr}
theorem SOK.ext {r : SR} (e : Ext H0 rho0 H rho) (h : SOK D W E H0 rho0 r) : SOK D W E H rho r := by
  cases r with
  | next tau M => exact fun s H1 rho1 e1 q => h s H1 rho1 (e.trans e1) q
  | ret x M => exact fun H1 rho1 v e1 s q => h H1 rho1 v (e.trans e1) s q
  | exc c y tau M => exact fun s H1 rho1 cls d e1 q r => h s H1 rho1 cls d (e.trans e1) q r
  | stuck => exact h
theorem SOK.then {α β : Type} {R : Hp → List Addr → α → β → Prop} {r : Res α} {tau : Sig} {M0 : Sto} {s : L2.St} {g : α → Sto → SR} {Q : β → Hp → Prop} (rs : RelS D H0 rho0 M0 s tau) (h : SOK D W E H0 rho0 (r.then tau g))
    (k : ∀ (H : Hp) (rho : List Addr) (x : α) (v : β) (M : Sto), Ext H0 rho0 H rho → StoOk D H rho M → R H rho x v → SOK D W E H rho (g x M) → Q v H) : OKG D R H0 rho0 r Q (WE W s) := by
  cases r with
  | ok x M => exact fun H rho v e st q => k H rho x v M e st q (SOK.ext e h)
  | exc c y M => exact fun H rho cls d e st q => h s H rho cls d e (rs.ext e st) q
  | stuck => exact h
theorem SOK.bind {r : SR} {g : Sig → Sto → SR} {N : L2.St → Hp → Prop} {bk ct : L2.St → Hp → Prop} (h : SOK D W E H0 rho0 (r.bind g))
    (k : ∀ (s : L2.St) (H : Hp) (rho : List Addr) (tau : Sig) (M : Sto), Ext H0 rho0 H rho → RelS D H rho M s tau → SOK D W E H rho (g tau M) → N s H) : SOK D W { nx := N, rt := E.rt, bk := bk, ct := ct } H0 rho0 r := by
  cases r with
  | next tau M => exact fun s H rho e q => k s H rho tau M e q (SOK.ext e h)
  | ret x M => exact h
  | exc c y tau M => exact h
  | stuck => exact h
theorem SOK.next {s : L2.St} {tau : Sig} {M : Sto} (rs : RelS D H0 rho0 M s tau) (h : SOK D W E H0 rho0 (.next tau M)) : E.nx s H0 := h s H0 rho0 Ext.refl rs
end

section
variable {D : Wd} {G : Glb} {c : Cn} {X : Cx} {W : WX}
variable {e : Expr} {f g h : Sig → Sto → Res PV} {b b2 : Sig → Sto → SR}
theorem s_nil : L2.PSs X [] (tsOf D W fun tau M => .next tau M) := PSs.imp pss_nil fun E s H ⟨tau, M, rho, rs, q⟩ => SOK.next rs q
theorem s_cons {st : Stmt} {r : List Stmt} (h1 : PS X st (tsOf D W b)) (h2 : L2.PSs X r (tsOf D W b2)) : L2.PSs X (st :: r) (tsOf D W fun tau M => (b tau M).bind fun tau M => b2 tau M) :=
  PSs.imp (pss_cons h1 h2) fun E s H ⟨tau, M, rho, rs, q⟩ => ⟨tau, M, rho, rs, SOK.bind (g := fun tau M => b2 tau M) (N := tsOf D W b2 E) (bk := E.bk) (ct := E.ct) q fun s1 H1 rho1 tau1 M1 e1 rs1 q1 => ⟨tau1, M1, rho1, rs1, q1⟩⟩
theorem s_pass {p : Pos} : PS X (.Pass p) (tsOf D W fun tau M => .next tau M) := PS.imp ps_pass fun E s H ⟨tau, M, rho, rs, q⟩ => SOK.next rs q
theorem s_ret {p : Pos} (he : PE X e (teOf D W f)) : PS X (.Return (some e) p) (tsOf D W fun tau M => (f tau M).then tau fun v M => .ret v M) :=
  PS.imp (ps_ret he) fun E s H ⟨tau, M, rho, rs, q⟩ => ⟨tau, M, rho, rs, SOK.then rs q fun H1 rho1 x v M1 e1 s1 r1 q1 => q1 H1 rho1 v Ext.refl s1 r1⟩
theorem s_retN {p : Pos} : PS X (.Return none p) (tsOf D W fun _ M => .ret .non M) :=
  PS.imp ps_retN fun E s H ⟨tau, M, rho, rs, q⟩ => q H rho .non Ext.refl rs.mem (rep_non.mpr rfl)
theorem s_expr {p : Pos} (he : PE X e (teOf D W f)) (hs : swapsWith e none p.line X.env = pure false) : PS X (.Expr e p) (tsOf D W fun tau M => (f tau M).then tau fun _ M => .next tau M) :=
  PS.imp (ps_expr he hs) fun E s H ⟨tau, M, rho, rs, q⟩ => ⟨tau, M, rho, rs, SOK.then rs q fun H1 rho1 x v M1 e1 s1 r1 q1 => SOK.next (rs.ext e1 s1) q1⟩
theorem s_if {t : Expr} {ta tb : List Stmt} {k : Sig → Sto → Res Bool} {p : Pos} (ht : PT X t (ttOf D W k)) (ha : L2.PSs X ta (tsOf D W b)) (hb : L2.PSs X tb (tsOf D W b2)) :
    PS X (.If t ta tb p) (tsOf D W fun tau M => (k tau M).then tau fun k M => if k = true then b tau M else b2 tau M) :=
  PS.imp (ps_if ht ha hb) fun E s H ⟨tau, M, rho, rs, q⟩ => ⟨tau, M, rho, rs, SOK.then rs q fun H1 rho1 x v M1 e1 s1 r1 q1 => by
    have r1 : v = x := r1
    subst r1
    cases v with
    | true => exact ⟨tau, M1, rho1, rs.ext e1 s1, q1⟩
    | false => exact ⟨tau, M1, rho1, rs.ext e1 s1, q1⟩⟩
theorem asg_run {t : PTg} : ∀ E s H, tsOf D W (fun tau M => (f tau M).then tau fun v M => match asgT t v tau M with | some tau => .next tau M | none => .stuck) E s H → tAsg (teOf D W f) (tgOf D t) E s H := fun E s H ⟨tau, M, rho, rs, q⟩ =>
  ⟨tau, M, rho, rs, SOK.then rs q fun H1 rho1 x v M1 e1 s1 r1 q1 => by
    cases ha : asgT t x tau M1 with
    | none => rw [ha] at q1; exact q1.elim
    | some tau' =>
      rw [ha] at q1
      exact ⟨x, tau, M1, rho1, tau', rs.ext e1 s1, r1, ha, fun s' rs' _ => SOK.next rs' q1⟩⟩
/-- a name takes a value -/
theorem s_set (C : COk D G c X W) {i : Nat} {x : Str} {px p : Pos} (ht : tgtOk c i x = true) (he : PE X e (teOf D W f)) (hs : swapsWith e (some (.Name x px)) p.line X.env = pure false) :
    PS X (.Assign [.Name x px] e p) (tsOf D W fun tau M => (f tau M).then tau fun v M => match asgT (.one i x px) v tau M with | some tau => .next tau M | none => .stuck) := by
  obtain ⟨k1, k2, k3⟩ := C.tgt ht
  refine PS.imp (ps_set C.nodup k1 k2 he hs k3) fun E s H ⟨tau, M, rho, rs, q⟩ => ⟨tau, M, rho, rs, SOK.then rs q fun H1 rho1 x v M1 e1 s1 r1 q1 => ?_⟩
  exact SOK.next ((rs.ext e1 s1).set i r1) q1
/-- names take a tuple's items -/
theorem s_unp (C : COk D G c X W) {ts : List (Nat × Str × Pos)} {k : Nat} {px p : Pos} (ht : tgtsOk c (.tup ts k px) = true) (he : PE X e (teOf D W f)) (hs : ∀ t l env, swapsWith e (some t) l env = pure false ∨ ∃ x q, t = Expr.Name x q) (hw : swappedStores [toT (.tup ts k px)] e X.env = pure none) :
    PS X (.Assign [toT (.tup ts k px)] e p) (tsOf D W fun tau M => (f tau M).then tau fun v M => match asgT (.tup ts k px) v tau M with | some tau => .next tau M | none => .stuck) := by
  refine PS.imp (ps_asg he (sim_tg C ht) ?_ ?_ rfl) asg_run
  · show swapsWith e (some (toT (.tup ts k px))) p.line X.env = pure false
    rcases hs (toT (.tup ts k px)) p.line X.env with q | ⟨x, q, z⟩
    · exact q
    · cases z
  · exact hw
/-- o[i] takes a value -/
theorem s_setI (C : COk D G c X W) {o i : Expr} {pt p : Pos} (ho : PE X o (teOf D W g)) (hi : PE X i (teOf D W h)) (he : PE X e (teOf D W f)) (hs : swapsWith e (some (.Subscript o i pt)) p.line X.env = pure false)
    (ha : ∀ v, assign (.Subscript o i pt) X.env v = (do
      let ov ← holding [v] (eval o X.env)
      let iv ← holding [v, ov] (eval i X.env)
      standAt pt
      holding [v, ov, iv] (setItem ov iv v)
      release [v, ov, iv] [])) :
    PS X (.Assign [.Subscript o i pt] e p) (tsOf D W fun tau M => (f tau M).then tau fun v M => (g tau M).then tau fun x M => (h tau M).then tau fun y M => match opSet x y v M with | some M => .next tau M | none => .stuck) := by
  refine PS.imp (ps_asg he (pg_sub ho hi (opSet_ok C.kK C.kw C.room.units) ha) hs rfl rfl) fun E s H ⟨tau, M, rho, rs, q⟩ => ⟨tau, M, rho, rs, SOK.then rs q fun H1 rho1 x v M1 e1 s1 r1 q1 =>
    ⟨tau, M1, rho1, rs.ext e1 s1, SOK.then (rs.ext e1 s1) q1 fun H2 rho2 y u M2 e2 s2 r2 q2 => ⟨tau, M2, rho2, (rs.ext e1 s1).ext e2 s2, SOK.then ((rs.ext e1 s1).ext e2 s2) q2 fun H3 rho3 z w M3 e3 s3 r3 q3 => ?_⟩⟩⟩
  cases ho : opSet y z x M3 with
  | none => rw [ho] at q3; exact q3.elim
  | some M4 =>
    rw [ho] at q3
    exact ⟨y, z, x, M3, rho3, s3, r2.ext e3, r3, (r1.ext e2).ext e3, M4, ho, fun H' rho' e4 s4 => SOK.next ((((rs.ext e1 s1).ext e2 s2).ext e3 s3).ext e4 s4) (SOK.ext e4 q3)⟩
/-- o.n takes a value -/
theorem s_setF (C : COk D G c X W) {o : PEx} {n : Str} {pt p : Pos} (ho : PE X (toE o) (teOf D W g)) (he : PE X e (teOf D W f)) (hs : swapsWith e (some (.Attribute (toE o) n pt)) p.line X.env = pure false) :
    PS X (.Assign [.Attribute (toE o) n pt] e p) (tsOf D W fun tau M => (f tau M).then tau fun v M => (g tau M).then tau fun x M => match setFP G.ocs x n v M with | some M => .next tau M | none => .stuck) := by
  refine PS.imp (ps_fld ho he hs) fun E s H ⟨tau, M, rho, rs, q⟩ => ⟨tau, M, rho, rs, SOK.then rs q fun H1 rho1 y v M1 e1 s1 r1 q1 =>
    ⟨tau, M1, rho1, rs.ext e1 s1, SOK.then (rs.ext e1 s1) q1 fun H2 rho2 x w M2 e2 s2 r2 q2 => ?_⟩⟩
  cases e3 : setFP G.ocs x n y M2 with
  | none => rw [e3] at q2; exact q2.elim
  | some M3 =>
    rw [e3] at q2
    obtain ⟨i, k, fs, r, rfl, hm, hp, hf, hl, rfl⟩ := setFP_some e3
    obtain ⟨cx, ns⟩ := r
    have O := C.oc k cx ns hp
    obtain ⟨a, dx, vs, rfl, ea, ha, hfs⟩ := s2.ins hm r2
    have ew : Ext H2 rho2 (upd H2 a (.ins (D.oc k) dx (putF n v vs))) rho2 := Ext.write ha trivial
    have st3 : StoOk D (upd H2 a (.ins (D.oc k) dx (putF n v vs))) rho2 (M2.set i (.ins k (putP n y fs))) := s2.write hm rfl rfl ea ha trivial ⟨dx, _, upd_same, (FRs.put (r1.ext e2) hfs).ext0 ew.to0⟩
    exact ⟨a, _, dx, vs, rfl, ha, by rw [C.kK]; exact O.cl, by rw [C.kK]; exact O.na n hf, by rw [hfs.len]; exact hl, SOK.next (((rs.ext e1 s1).ext e2 s2).ext ew st3) (SOK.ext ew q2)⟩
/-- o[i], o2[i2] take a pair's parts -/
theorem s_setT (C : COk D G c X W) {o i o2 i2 : Expr} {g2 h2 : Sig → Sto → Res PV} {pt pt2 px p : Pos} (ho : PE X o (teOf D W g)) (hi : PE X i (teOf D W h)) (ho2 : PE X o2 (teOf D W g2)) (hi2 : PE X i2 (teOf D W h2)) (he : PE X e (teOf D W f))
    (hs : swapsWith e (some (.Tuple [.Subscript o i pt, .Subscript o2 i2 pt2] 0 px)) p.line X.env = pure false) (hw : ∀ es k2 p2, e ≠ .Tuple es k2 p2)
    (ha : ∀ v, assign (.Subscript o i pt) X.env v = (do
      let ov ← holding [v] (eval o X.env)
      let iv ← holding [v, ov] (eval i X.env)
      standAt pt
      holding [v, ov, iv] (setItem ov iv v)
      release [v, ov, iv] []))
    (ha2 : ∀ v, assign (.Subscript o2 i2 pt2) X.env v = (do
      let ov ← holding [v] (eval o2 X.env)
      let iv ← holding [v, ov] (eval i2 X.env)
      standAt pt2
      holding [v, ov, iv] (setItem ov iv v)
      release [v, ov, iv] [])) :
    PS X (.Assign [.Tuple [.Subscript o i pt, .Subscript o2 i2 pt2] 0 px] e p) (tsOf D W fun tau M => (f tau M).then tau fun v M => match pair? v with
      | some r => (g tau M).then tau fun x M => (h tau M).then tau fun y M => match opSet x y r.1 M with
        | some M => (g2 tau M).then tau fun x M => (h2 tau M).then tau fun y M => match opSet x y r.2 M with
          | some M => .next tau M
          | none => .stuck
        | none => .stuck
      | none => .stuck) := by
  refine PS.imp (ps_asg he (pg_tup (n := 2) C.calm (pgs_cons (pg_sub ho hi (opSet_ok C.kK C.kw C.room.units) ha) (pgs_cons (pg_sub ho2 hi2 (opSet_ok C.kK C.kw C.room.units) ha2) pgs_nil))) hs ?_ rfl) fun E s H ⟨tau, M, rho, rs, q⟩ => ⟨tau, M, rho, rs, SOK.then rs q fun H1 rho1 x v M1 e1 s1 r1 q1 => ?_⟩
  · unfold swappedStores
    cases e <;> first | rfl | exact absurd rfl (hw _ _ _)
  cases hp : pair? x with
  | none => rw [hp] at q1; exact q1.elim
  | some r =>
    rw [hp] at q1
    have ex : x = .tup [r.1, r.2] := by
      unfold pair? at hp
      split at hp
      · cases hp; rfl
      · cases hp
    subst ex
    obtain ⟨a, vs, rfl, sq, rl⟩ := rep_tup.mp r1
    obtain ⟨v1, vr, rfl, ra, rl⟩ := repL_cons.mp rl
    obtain ⟨v2, vr, rfl, rb, rl⟩ := repL_cons.mp rl
    have ev : vr = [] := repL_nil.mp rl
    subst ev
    have rs1 := rs.ext e1 s1
    refine ⟨a, [v1, v2], rfl, by rw [C.kK]; exact sq, rfl, v1, [v2], rfl, ?_⟩
    refine ⟨tau, M1, rho1, rs1, SOK.then rs1 q1 fun H2 rho2 y u M2 e2 s2 r2 q2 => ⟨tau, M2, rho2, rs1.ext e2 s2, SOK.then (rs1.ext e2 s2) q2 fun H3 rho3 z w M3 e3 s3 r3 q3 => ?_⟩⟩
    cases hq : opSet y z r.1 M3 with
    | none => rw [hq] at q3; exact q3.elim
    | some M4 =>
      rw [hq] at q3
      refine ⟨y, z, r.1, M3, rho3, s3, r2.ext e3, r3, (ra.ext e2).ext e3, M4, hq, fun H4 rho4 e4 s4 => ?_⟩
      have rs4 := ((rs1.ext e2 s2).ext e3 s3).ext e4 s4
      have q4 := SOK.ext e4 q3
      have rb4 := ((rb.ext e2).ext e3).ext e4
      refine ⟨v2, [], rfl, ?_⟩
      refine ⟨tau, M4, rho4, rs4, SOK.then rs4 q4 fun H5 rho5 y u M5 e5 s5 r5 q5 => ⟨tau, M5, rho5, rs4.ext e5 s5, SOK.then (rs4.ext e5 s5) q5 fun H6 rho6 z w M6 e6 s6 r6 q6 => ?_⟩⟩
      cases hq2 : opSet y z r.2 M6 with
      | none => rw [hq2] at q6; exact q6.elim
      | some M7 =>
        rw [hq2] at q6
        exact ⟨y, z, r.2, M6, rho6, s6, r5.ext e6, r6, (rb4.ext e5).ext e6, M7, hq2, fun H7 rho7 e7 s7 => ⟨rfl, SOK.next (((rs4.ext e5 s5).ext e6 s6).ext e7 s7) (SOK.ext e7 q6)⟩⟩
/-! ### loops -/
theorem s_for (C : COk D G c X W) {t : PTg} {iter : Expr} {body : List Stmt} {fi : Sig → Sto → Res Walk} {p : Pos} (ht : tgtsOk c t = true) (hi : PI X (toT t) iter (tiOf D W fi)) (hb : L2.PSs X body (tsOf D W b)) (hf : ∀ x, foldedSetIterable iter X.env x = pure x) :
    PS X (.For (toT t) iter body [] p) (tsOf D W fun tau M => (fi tau M).then tau fun w M => forGo w.at_ (fun v tau M => asgT t v tau M) b w.cnt 0 tau M) := by
  refine PS.imp (ps_for C.po C.calm hi (sim_tg C ht) hb hf) fun E s H ⟨tau, M, rho, rs, q⟩ => ⟨tau, M, rho, rs, SOK.then rs q fun H1 rho1 w J M1 e1 s1 wk q1 => ?_⟩
  refine ⟨fun i m s2 H2 => ∃ tau2 M2 rho2, Ext H1 rho1 H2 rho2 ∧ RelS D H2 rho2 M2 s2 tau2 ∧ SOK D W E H2 rho2 (forGo w.at_ (fun v tau M => asgT t v tau M) b m i tau2 M2), ⟨w.cnt, tau, M1, rho1, Ext.refl, rs.ext e1 s1, q1⟩, fun i m s2 H2 ⟨tau2, M2, rho2, e2, rs2, k2⟩ => ?_⟩
  have wk2 := wk i H2 rho2 M2 e2 rs2.mem
  cases m with
  | zero =>
    simp only [forGo] at k2
    split at k2
    · rename_i hw
      rw [hw] at wk2
      exact .inl ⟨wk2, SOK.next rs2 k2⟩
    · exact k2.elim
  | succ m =>
    simp only [forGo] at k2
    split at k2
    · rename_i hw
      rw [hw] at wk2
      exact .inl ⟨wk2, SOK.next rs2 k2⟩
    · rename_i x hw
      rw [hw] at wk2
      obtain ⟨go, yld⟩ := wk2
      refine .inr ⟨go, fun s3 H3 => ∃ tau3 M3 rho3, Ext H1 rho1 H3 rho3 ∧ RelS D H3 rho3 M3 s3 tau3 ∧ SOK D W E H3 rho3 (forGo w.at_ (fun v tau M => asgT t v tau M) b m (i + 1) tau3 M3), fun s3 H3 hN => ⟨m, Nat.lt_succ_self m, hN⟩, fun v H3 y => ?_⟩
      obtain ⟨e3, s3, r3⟩ := yld v H3 y
      split at k2
      · rename_i tau3 ha
        refine ⟨x, tau2, M2, rho2, tau3, rs2.ext e3 s3, r3, ha, fun s' rs' _ => ⟨tau3, M2, rho2, rs', ?_⟩⟩
        exact SOK.bind (SOK.ext e3 k2) fun s4 H4 rho4 tau4 M4 e4 rs4 k4 => ⟨tau4, M4, rho4, (e2.trans e3).trans e4, rs4, k4⟩
      · exact k2.elim
    · exact k2.elim
theorem s_whl (C : COk D G c X W) {t : Expr} {body : List Stmt} {k : Sig → Sto → Res Bool} {p : Pos} (ht : PT X t (ttOf D W k)) (hb : L2.PSs X body (tsOf D W b)) :
    PS X (.While t body [] p) (tsOf D W fun tau M => whlGo k b FUEL tau M) := by
  refine PS.imp (ps_while C.po ht hb) fun E s H ⟨tau, M, rho, rs, q⟩ => ?_
  refine ⟨fun m s2 H2 => ∃ tau2 M2 rho2, RelS D H2 rho2 M2 s2 tau2 ∧ SOK D W E H2 rho2 (whlGo k b m tau2 M2), ⟨FUEL, tau, M, rho, rs, q⟩, fun m s2 H2 ⟨tau2, M2, rho2, rs2, k2⟩ => ?_⟩
  cases m with
  | zero => exact k2.elim
  | succ m =>
    simp only [whlGo] at k2
    refine ⟨tau2, M2, rho2, rs2, SOK.then rs2 k2 fun H3 rho3 x v M3 e3 s3 r3 q3 => ?_⟩
    have r3 : v = x := r3
    subst r3
    cases v with
    | false => exact SOK.next (rs2.ext e3 s3) q3
    | true =>
      refine ⟨fun s4 H4 => ∃ tau4 M4 rho4, RelS D H4 rho4 M4 s4 tau4 ∧ SOK D W E H4 rho4 (whlGo k b m tau4 M4), fun s4 H4 hN => ⟨m, Nat.lt_succ_self m, hN⟩, tau2, M3, rho3, rs2.ext e3 s3, ?_⟩
      exact SOK.bind q3 fun s4 H4 rho4 tau4 M4 e4 rs4 k4 => ⟨tau4, M4, rho4, rs4, k4⟩
/-- a name takes a new list -/
theorem s_setLc (C : COk D G c X W) {iter el : Expr} {t : PTg} {ifs : List Expr} {sc : Scope} {own : Own} {p : Pos} {fi : Sig → Sto → Res Walk} {ft : Sig → Sto → Res Bool} {fe : Sig → Sto → Res PV} {i : Nat} {x : Str} {px ps : Pos}
    (hx : tgtOk c i x = true) (hl : c.sc.names.lookup x = some .local) (hline : (px.line == p.line) = true) (hkind : X.env.scope.kind = .function) (hno : (sc.names.any fun (n, k) => n == x && (k == .local || k == .cell)) = false)
    (hi : PI X (toT t) iter (tiOf D W fi)) (hb : blkC c.N c.sc sc own = true) (htg : tgtsOk ⟨c.N, sc, c.lev⟩ t = true) (hown : ∀ i ∈ slotsT t, i ∈ own.map (·.2))
    (ht : ∀ X' W', COk D G ⟨c.N, sc, c.lev⟩ X' W' → PTs X' ifs (ttOf D W' ft)) (he : ∀ X' W', COk D G ⟨c.N, sc, c.lev⟩ X' W' → PE X' el (teOf D W' fe)) (hf : ∀ x, foldedSetIterable iter X.env x = pure x) :
    PS X (.Assign [.Name x px] (.ListComp el [⟨toT t, iter, ifs, 0⟩] sc p) ps) (tsOf D W fun tau M => ((fi tau M).bind fun w M => lcGo M.length w.at_ (fun v M => asgT t v (wipeP tau (own.map (·.2))) M) (fun tau M => (ft tau M).nox) (fun tau M => (fe tau M).nox) w.cnt 0 (M ++ [.lst []])).then tau
      fun v M => match asgT (.one i x px) v tau M with | some tau => .next tau M | none => .stuck) := by
  obtain ⟨k1, k2, k3⟩ := C.tgt hx
  have kl : X.env.scope.names.lookup x = some .local := by
    rcases C.sc x _ hl with q | ⟨q, _⟩
    · exact q
    · cases q
  have bk := blk_ok C hb
  have inner := fun s H Ca cl fp => C.blk bk.kind s H Ca cl fp
  have base := ps_setLc (i := i) (py := px) (spos := ps) C.calm C.nodup k1 kl (sw_true hkind kl hline hno) hi bk (fun s H Ca cl fp => sim_tg (inner s H Ca cl fp) htg) (fun s H Ca cl fp => ht _ _ (inner s H Ca cl fp)) (fun s H Ca cl fp => he _ _ (inner s H Ca cl fp)) hf
  refine PS.imp base fun E s H ⟨tau, M, rho, rs, q⟩ => ?_
  have lc := lc_run (D := D) (W := W) (t := t) (own := own) (fi := fi) (ft := ft) (fe := fe) hown s H (fun v H1 => gName i v s H1 E.nx) ⟨tau, M, rho, rs, SOK.then rs q fun H1 rho1 x v M1 e1 s1 r1 q1 => SOK.next ((rs.ext e1 s1).set i r1) q1⟩
  exact lc
end
end SW

/-! raise C("m"); try with one except suite. -/
namespace SW
open PySem PySem.Spec PyProof.Rows L2

/-- what is known of the exception that the suite holds -/
def EL (D : Wd) (H : Hp) (rho : List Addr) (k : Nat) (y : Option PV) (cls : Value) (d : Option Addr) : Prop := cls = .ref (D.cl k) ∧ match y with
  | none => d = none
  | some y => ∃ dx v, d = some dx ∧ H dx = some (.xd [("at", v)]) ∧ Rep D H rho y v ∧ XfA D.K (D.cl k)
/-- the dict, where there is one, is an exception's -/
def DOk (H : Hp) (d : Option Addr) : Prop := ∀ dx, d = some dx → ∃ fs, H dx = some (.xd fs)
theorem DOk.ext {H H' : Hp} {rho rho' : List Addr} {d : Option Addr} (e : Ext H rho H' rho') (h : DOk H d) : DOk H' d := fun dx z => let ⟨fs, q⟩ := h dx z; ⟨fs, e.xd _ _ q⟩
theorem ERep.el {D : Wd} {H : Hp} {rho : List Addr} {k : Nat} {y : Option PV} {cls : Value} {d : Option Addr} (e : ERep D H rho k y cls d) : (cls = .ref (D.cl k) ∨ cls = tagC (D.cl k)) ∧ EL D H rho k y (.ref (D.cl k)) d := by
  cases y with
  | none => exact ⟨.inl e.1, rfl, e.2⟩
  | some y => exact ⟨.inr e.1, rfl, e.2⟩
theorem EL.ext {D : Wd} {H H' : Hp} {rho rho' : List Addr} {k : Nat} {y : Option PV} {cls : Value} {d : Option Addr} (x : Ext H rho H' rho') (e : EL D H rho k y cls d) : EL D H' rho' k y cls d := by
  cases y with
  | none => exact e
  | some y => obtain ⟨e1, dx, v, e2, e3, e4, e5⟩ := e; exact ⟨e1, dx, v, e2, x.xd _ _ e3, Rep.ext x _ _ e4, e5⟩
theorem EL.dok {D : Wd} {H : Hp} {rho : List Addr} {k : Nat} {y : Option PV} {cls : Value} {d : Option Addr} (e : EL D H rho k y cls d) : DOk H d := by
  cases y with
  | none => intro dx z; rw [e.2] at z; cases z
  | some y => obtain ⟨e1, dx, v, e2, e3, e4, e5⟩ := e; intro dy z; rw [e2] at z; cases z; exact ⟨_, e3⟩
def slotIs (ie : Option Nat) (a : Addr) (s : L2.St) : Prop := ∀ i, ie = some i → s[i]? = some (some (.ref a))
/-- one statement of a suite -/
def t1H (D : Wd) (n : Nat) (ie : Option Nat) (h : HSt) (a : Addr) (cls : Value) (d : Option Addr) : TS := fun E s H => ∃ k y tau M rho, k < n ∧ RelS D H rho M s tau ∧ EL D H rho k y cls d ∧ slotIs ie a s ∧
  match evH k y h tau M with
  | some (tau', M') => ∀ s' H' rho', Ext H rho H' rho' → RelS D H' rho' M' s' tau' → slotIs ie a s' → E.nx s' H'
  | none => False
def tHs (D : Wd) (n : Nat) (ie : Option Nat) (hs : List HSt) (a : Addr) (cls : Value) (d : Option Addr) : TS := fun E s H => ∃ k y tau M rho, k < n ∧ RelS D H rho M s tau ∧ EL D H rho k y cls d ∧ slotIs ie a s ∧
  match evHs k y hs tau M with
  | some (tau', M') => ∀ s' H' rho', Ext H rho H' rho' → RelS D H' rho' M' s' tau' → slotIs ie a s' → E.nx s' H'
  | none => False
variable (G : Glb)
/-- what is asked of isinstance(e, C) -/
def wfI1 (c : Cn) (k : IsC) : Bool := glOk c k.cn && (match k.j with
  | some j => (match G.cls[j]? with
    | some (y, _) => decide (y = k.cn)
    | none => false)
  | none => decide (k.cn = "ValueError") && inBn G "ValueError")
def wfIs (c : Cn) (ie : Nat) (en : Str) (cs : List IsC) : Bool := slotOk c ie en && glOk c "isinstance" && inBn G "isinstance" && cs.all (wfI1 G c)
/-- what is asked of a truth -/
def wfX (c : Cn) (ie : Nat) (en : Str) : HX → Bool
  | .isa q => wfI1 G c q
  | .isT cs _ _ _ _ _ => decide (cs.length ≤ 100) && cs.all fun q => glOk c q.2.1 && (match G.cls[q.1]? with
    | some (y, _) => decide (y = q.2.1)
    | none => false)
  | .nam i x _ => slotOk c i x
  | .nt a _ => wfX c ie en a
  | .an a b _ => wfX c ie en a && wfX c ie en b
  | .or a b _ => wfX c ie en a && wfX c ie en b
/-- a test of a suite -/
def wfT (c : Cn) : HX → Bool
  | .isa q => wfI1 G c q
  | .or (.isa q) (.isa q2) _ => wfI1 G c q && wfI1 G c q2
  | _ => false
/-- what is asked of a suite's statement -/
def wfH (c : Cn) (ie : Option (Nat × Str)) : HSt → Bool
  | .bx i x _ e _ => tgtOk c i x && (match ie with
    | some (j, en) => !(j == i) && wfIs G c j en [] && wfX G c j en e
    | none => false)
  | .cst i x _ _ _ => tgtOk c i x && !(ie.map (·.1) == some i)
  | .mks i x _ cs _ _ => tgtOk c i x && (match ie with
    | some (j, en) => !(j == i) && wfIs G c j en cs
    | none => false)
  | .mkA i x _ i2 x2 _ cs _ _ _ => tgtOk c i x && slotOk c i2 x2 && (match ie with
    | some (j, en) => !(j == i) && !(j == i2) && wfIs G c j en cs
    | none => false)
  | .fld i x _ _ _ _ => tgtOk c i x && (match ie with
    | some (j, en) => !(j == i) && slotOk c j en
    | none => false)
  | .iff t i x _ _ _ _ _ => tgtOk c i x && wfT G c t && (match ie with
    | some (j, en) => !(j == i) && wfIs G c j en []
    | none => false)
variable {G}
section
variable {D : Wd} {c : Cn} {X : Cx} {W : WX} {a : Addr} {oe : Obj} {cls : Value} {d : Option Addr} {pn : List (Addr × Obj)}
theorem cls_get (C : COk D G c X W) {k : Nat} (h : k < G.cls.length) : ∃ x b, ClsF D X.mg G.cls k x b := ⟨_, _, C.cx k G.cls[k].1 G.cls[k].2 (by rw [List.getElem?_eq_getElem h])⟩
theorem slotIs.set {ie : Option Nat} {s : L2.St} {i : Nat} {o : Option V} (h : slotIs ie a s) (ne : ie ≠ some i) : slotIs ie a (s.set i o) := fun j e => by
  rw [List.getElem?_set_ne (fun z => ne (by rw [e, z]))]
  exact h j e
theorem boot_isi : bootBuiltins "isinstance" = some (.builtin "isinstance") := by decide +kernel
theorem boot_ve : bootBuiltins "ValueError" = some (.type "ValueError") := by decide +kernel
theorem cls_some {K : PySem.W.Frag} {C : Addr} (E : ExcC K C) : (PySem.W.clsIn K C).isSome = true := by
  obtain ⟨cd, hc, _⟩ := PySem.W.any_some E.hd
  rw [hc] <;> rfl
/-- the exception's instance -/
theorem inst_at {X : Cx} {a D : Addr} {d : Option Addr} {oe : Obj} {pn pins : List (Addr × Obj)} {s : Shared} {σ : L2.St} {H : Hp} (I : Inv (X.suite a ((a, oe) :: pn)) pins σ H s) (hz : Zc (.ref D) d oe) (hf : ∃ vs, oe.data = .fields vs) (dk : DOk H d) : ∃ od, PySem.W.InstAt s.heap a oe D od := by
  obtain ⟨hget, _⟩ := I.pin (a, oe) (List.mem_append.mpr (.inl List.mem_cons_self))
  obtain ⟨vs, hv⟩ := hf
  obtain ⟨oc, od, oda, osl⟩ := oe
  obtain ⟨h1, h2⟩ := hz
  dsimp only at h1 h2 hv
  subst h1 h2 hv
  cases od with
  | none => exact ⟨none, hget, rfl, rfl, trivial⟩
  | some dx =>
    obtain ⟨fs, hx⟩ := dk dx rfl
    have hx : ObjOk X.prog X.w H s.heap dx (.xd fs) := I.hok dx _ hx
    obtain ⟨mA, hns, hr⟩ := hx
    obtain ⟨o2, ho, hl⟩ := lookIn_ns hns
    exact ⟨some o2, hget, rfl, rfl, ho⟩
def rIsD (K : PySem.W.Frag) (D a : Addr) (d : Option Addr) : List V → Hp → VK → Prop := fun xs H Q => DOk H d ∧ ∃ (c : V) (cv : Value) (b : Bool), xs = [.ref a, c] ∧ (∀ u, RelV c u → u = cv) ∧ PySem.W.kitOne K (.ref D) cv = some b ∧ Q (.bl b) H
theorem call_isD {X : Cx} {a D : Addr} {d : Option Addr} {oe : Obj} {pn : List (Addr × Obj)} (C : ExcC X.K D) (hz : Zc (.ref D) d oe) (hf : ∃ vs, oe.data = .fields vs) : CallR (X.suite a ((a, oe) :: pn)) (.builtin "isinstance") (rIsD X.K D a d) := by
  intro pins s σ H xs us Q I r h
  obtain ⟨dk, c, cv, b, rfl, hcv, e, q⟩ := h
  obtain ⟨u1, u2, rfl, r1, r2⟩ := vals2 r
  cases (show u1 = Value.ref a from r1)
  cases hcv _ r2
  obtain ⟨od, J⟩ := inst_at I hz hf dk
  exact PySem.W.kia_one (PySem.W.kitx_exc (od := od) (cls_some C) C.hg C.hk C.hs C.ha C.hn C.ht C.hm) I.kIn J e (fun z => nomatch z) fun tk => ⟨.bl b, H, I.kept (t' := tk) fun _ _ z => z, rfl, q⟩
/-- isinstance(e, C) -/
theorem pe_is (C : COk D G c X W) {k j : Nat} {en : Str} {q : IsC} (hk : k < G.cls.length) (hc : cls = .ref (D.cl k)) (hz : Zc cls d oe) (hf : ∃ vs, oe.data = .fields vs)
    (h1 : slotOk c j en = true) (h2 : glOk c "isinstance" = true) (h3 : inBn G "isinstance" = true) (h4 : wfI1 G c q = true) :
    PE (X.suite a ((a, oe) :: pn)) (q.e en) (fun s H Q => (s[j]? = some (some (.ref a)) ∧ DOk H d) ∧ Q (.bl (hitC k q.j)) H) := by
  subst hc
  obtain ⟨x, b, F⟩ := cls_get C hk
  obtain ⟨v1, v2, v3, v4⟩ := C.vis h1
  obtain ⟨g1, g2, g3⟩ := C.gl h2
  unfold wfI1 at h4
  rw [Bool.and_eq_true] at h4
  obtain ⟨h5, h6⟩ := h4
  obtain ⟨k1, k2, k3⟩ := C.gl h5
  have hcl : ∃ (v : V) (cv : Value), PE (X.suite a ((a, oe) :: pn)) (.Name q.cn q.pc) (tC v) ∧ (∀ u, RelV v u → u = cv) ∧ PySem.W.kitOne X.K (.ref (D.cl k)) cv = some (hitC k q.j) := by
    cases hj : q.j with
    | none =>
      rw [hj] at h6
      simp only [Bool.and_eq_true, decide_eq_true_eq] at h6
      obtain ⟨e1, e2⟩ := h6
      rw [e1] at k1 k2 k3 ⊢
      exact ⟨.ty "ValueError", .type "ValueError", pe_bltn (X := X.suite a ((a, oe) :: pn)) k1 (C.bn _ (inBn_of e2)) boot_ve rfl k3 k2, fun u r => r, by rw [C.kK]; exact F.kv⟩
    | some j2 =>
      rw [hj] at h6
      cases hg : G.cls[j2]? with
      | none => simp only [hg] at h6; cases h6
      | some p =>
        obtain ⟨y, b2⟩ := p
        simp only [hg] at h6
        have e1 : y = q.cn := of_decide_eq_true h6
        subst e1
        have F2 := C.cx j2 _ b2 hg
        exact ⟨.ref (D.cl j2), .ref (D.cl j2), pe_glob (X := X.suite a ((a, oe) :: pn)) k1 F2.at_ rfl k2, fun u r => r, by rw [C.kK]; exact F2.kit k hk⟩
  obtain ⟨v, cv, hp, hr, hkit⟩ := hcl
  have ec : ExcC (X.suite a ((a, oe) :: pn)).K (D.cl k) := by
    show ExcC X.K _
    rw [C.kK]
    exact F.ec
  refine PE.imp (pe_callB (call_isD (X := X) ec hz hf) g1 (C.bn _ (inBn_of h3)) boot_isi (pa_cons (pe_var (X := X.suite a ((a, oe) :: pn)) v1 v2 v3 v4) (pa_cons hp pa_nil)) g3 g2) fun s H Q ⟨⟨h, dk⟩, q2⟩ => ?_
  exact ⟨_, h, dk, v, cv, _, rfl, hr, hkit, q2⟩
/-- [isinstance(e, C), ..] -/
theorem pa_is (C : COk D G c X W) {k j : Nat} {en : Str} (hk : k < G.cls.length) (hc : cls = .ref (D.cl k)) (hz : Zc cls d oe) (hf : ∃ vs, oe.data = .fields vs)
    (h1 : slotOk c j en = true) (h2 : glOk c "isinstance" = true) (h3 : inBn G "isinstance" = true) : ∀ cs : List IsC, cs.all (wfI1 G c) = true →
    PA (X.suite a ((a, oe) :: pn)) (cs.map (IsC.e en)) (fun s H Q => (s[j]? = some (some (.ref a)) ∧ DOk H d) ∧ Q (cs.map fun q => V.bl (hitC k q.j)) H)
  | [], _ => PA.imp pa_nil fun s H Q ⟨_, q⟩ => q
  | q :: cs, h => by
    rw [List.all_cons, Bool.and_eq_true] at h
    exact PA.imp (pa_cons (pe_is C hk hc hz hf h1 h2 h3 h.1) (pa_is C hk hc hz hf h1 h2 h3 cs h.2)) fun s H Q ⟨e, z⟩ => ⟨e, e, z⟩
theorem bls_repL {H : Hp} {rho : List Addr} (f : IsC → Bool) : ∀ cs : List IsC, RepL D H rho (cs.map fun q => PV.bl (f q)) (cs.map fun q => V.bl (f q))
  | [] => repL_nil.mpr rfl
  | q :: cs => repL_cons.mpr ⟨_, _, rfl, rep_bl.mpr rfl, bls_repL f cs⟩
theorem newL_prm {M : Sto} {xs : List PV} {H : Hp} {rho : List Addr} {Q : VK} {v : PV} {M' : Sto} (e : newL M xs = some (v, M')) (h : ∀ H' rho' u, Ext H rho H' rho' → StoOk D H' rho' M' → Rep D H' rho' v u → Q u H') : PRM D H rho (newL M xs) Q := by
  rw [e]; exact h
/-- isinstance(e, (C, ..)) -/
def rIsET (K : PySem.W.Frag) (D a : Addr) (d : Option Addr) : List V → Hp → VK → Prop := fun xs H Q => DOk H d ∧ ∃ (tp : Addr) (cs : List V) (us : List Value) (b : Bool), xs = [.ref a, .ref tp] ∧ H tp = some (.tup cs) ∧ Paired ClsV cs us ∧ PySem.W.kitAny K (.ref D) us = some b ∧ Q (.bl b) H
theorem call_isET {X : Cx} {a D : Addr} {d : Option Addr} {oe : Obj} {pn : List (Addr × Obj)} (C : ExcC X.K D) (hz : Zc (.ref D) d oe) (hf : ∃ vs, oe.data = .fields vs) : CallR (X.suite a ((a, oe) :: pn)) (.builtin "isinstance") (rIsET X.K D a d) := by
  intro pins s σ H xs us Q I r h
  obtain ⟨dk, tp, cs, ws, b, rfl, hT, k, e, q⟩ := h
  obtain ⟨u1, u2, rfl, r1, r2⟩ := vals2 r
  cases (show u1 = Value.ref a from r1)
  cases (show u2 = Value.ref tp from r2)
  obtain ⟨od, J⟩ := inst_at I hz hf dk
  obtain ⟨_, its, rv, o, h1, h2, n, h3⟩ := (show ObjOk X.prog X.w H s.heap tp (.tup cs) from I.hok tp _ hT)
  have e3 := ClsV.all k rv
  subst e3
  obtain ⟨oc, od2, dt, sl⟩ := o
  simp only at h2 h3
  subst h2 h3
  exact PySem.W.kia_tup (PySem.W.kitx_exc (od := od) (cls_some C) C.hg C.hk C.hs C.ha C.hn C.ht C.hm) I.kIn J h1 e (fun z => nomatch z) fun tk => ⟨.bl b, H, I.tok tk, rfl, q⟩
/-- the classes of the tuple -/
theorem pa_cls (C : COk D G c X W) : ∀ cs : List (Nat × Str × Pos), (cs.all fun q => glOk c q.2.1 && (match G.cls[q.1]? with
    | some (y, _) => decide (y = q.2.1)
    | none => false)) = true → PA (X.suite a ((a, oe) :: pn)) (cs.map fun q => .Name q.2.1 q.2.2) (fun s H Q => Q (cs.map fun q => V.ref (D.cl q.1)) H)
  | [], _ => PA.imp pa_nil fun s H Q q => q
  | q :: cs, h => by
    rw [List.all_cons, Bool.and_eq_true, Bool.and_eq_true] at h
    obtain ⟨⟨h1, h2⟩, h3⟩ := h
    obtain ⟨k1, k2, k3⟩ := C.gl h1
    cases hg : G.cls[q.1]? with
    | none => simp only [hg] at h2; cases h2
    | some p =>
      obtain ⟨y, b2⟩ := p
      simp only [hg] at h2
      have e1 : y = q.2.1 := of_decide_eq_true h2
      subst e1
      have F2 := C.cx q.1 _ b2 hg
      exact PA.imp (pa_cons (show PE (X.suite a ((a, oe) :: pn)) (.Name q.2.1 q.2.2) (tC (V.ref (D.cl q.1))) from pe_glob (X := X.suite a ((a, oe) :: pn)) k1 F2.at_ rfl k2) (pa_cls C cs h3)) fun s H Q z => z
theorem cls_pair : ∀ cs : List (Nat × Str × Pos), Paired ClsV (cs.map fun q => V.ref (D.cl q.1)) (cs.map fun q => Value.ref (D.cl q.1))
  | [] => .nil
  | q :: cs => .cons (.own _) (cls_pair cs)
theorem cls_any (C : COk D G c X W) {k : Nat} (hk : k < G.cls.length) : ∀ cs : List (Nat × Str × Pos), (cs.all fun q => glOk c q.2.1 && (match G.cls[q.1]? with
    | some (y, _) => decide (y = q.2.1)
    | none => false)) = true → PySem.W.kitAny X.K (.ref (D.cl k)) (cs.map fun q => Value.ref (D.cl q.1)) = some (cs.any fun q => hitC k (some q.1))
  | [], _ => rfl
  | q :: cs, h => by
    rw [List.all_cons, Bool.and_eq_true, Bool.and_eq_true] at h
    obtain ⟨⟨h1, h2⟩, h3⟩ := h
    cases hg : G.cls[q.1]? with
    | none => simp only [hg] at h2; cases h2
    | some p =>
      obtain ⟨y, b2⟩ := p
      have F2 := (C.cx q.1 _ b2 hg).kit k hk
      rw [← C.kK] at F2
      show (match PySem.W.kitOne X.K (.ref (D.cl k)) (.ref (D.cl q.1)) with
        | some true => some true
        | some false => PySem.W.kitAny X.K (.ref (D.cl k)) (cs.map fun q => Value.ref (D.cl q.1))
        | none => none) = some (hitC k (some q.1) || cs.any fun q => hitC k (some q.1))
      rw [F2]
      cases hitC k (some q.1) with
      | true => rfl
      | false => exact cls_any C hk cs h3
/-- a truth of the suite -/
theorem pe_hx (C : COk D G c X W) {k j : Nat} {en : Str} (hk : k < G.cls.length) (hc : cls = .ref (D.cl k)) (hz : Zc cls d oe) (hf : ∃ vs, oe.data = .fields vs)
    (h1 : slotOk c j en = true) (h2 : glOk c "isinstance" = true) (h3 : inBn G "isinstance" = true) : ∀ e : HX, wfX G c j en e = true →
    PE (X.suite a ((a, oe) :: pn)) (e.e en) (fun s H Q => (s[j]? = some (some (.ref a)) ∧ DOk H d) ∧ ∃ tau M rho, RelS D H rho M s tau ∧ match evX k e tau with
      | some b => ∀ H1, Ext H rho H1 rho → StoOk D H1 rho M → Q (.bl b) H1
      | none => False)
  | .isa q, h => PE.imp (pe_is C hk hc hz hf h1 h2 h3 h) fun s H Q ⟨z, tau, M, rho, rs, q⟩ => ⟨z, q H Ext.refl rs.mem⟩
  | .isT cs p pe kt q p2, h => by
    subst hc
    obtain ⟨x, b, F⟩ := cls_get C hk
    obtain ⟨v1, v2, v3, v4⟩ := C.vis h1
    obtain ⟨g1, g2, g3⟩ := C.gl h2
    have h : (decide (cs.length ≤ 100) && cs.all fun q => glOk c q.2.1 && (match G.cls[q.1]? with
      | some (y, _) => decide (y = q.2.1)
      | none => false)) = true := h
    rw [Bool.and_eq_true] at h
    have hl : cs.length ≤ 100 := of_decide_eq_true h.1
    have ec : ExcC (X.suite a ((a, oe) :: pn)).K (D.cl k) := by
      show ExcC X.K _
      rw [C.kK]
      exact F.ec
    refine PE.imp (pe_callB (call_isET (X := X) ec hz hf) g1 (C.bn _ (inBn_of h3)) boot_isi (pa_cons (pe_var (X := X.suite a ((a, oe) :: pn)) v1 v2 v3 v4) (pa_cons (pe_tup (pa_cls C cs h.2)) pa_nil)) g3 g2) fun s H Q ⟨⟨hz2, dk⟩, tau, M, rho, rs, q2⟩ => ?_
    refine ⟨_, hz2, by rw [List.length_map, line_eq]; unfold LINE; omega, fun p np => ?_⟩
    exact ⟨dk.ext (Ext.new (rho := rho) np), p, _, _, _, rfl, upd_same, cls_pair cs, cls_any C hk cs h.2, q2 _ (Ext.new np) (rs.mem.new np)⟩
  | .nam i x p, h => by
    have h : slotOk c i x = true := h
    obtain ⟨v1, v2, v3, v4⟩ := C.vis h
    refine PE.imp (pe_var (X := X.suite a ((a, oe) :: pn)) v1 v2 v3 v4) fun s H Q ⟨_, tau, M, rho, rs, q⟩ => ?_
    have q : match (match tau[i]? with
        | some (some (.bl b)) => some b
        | _ => none) with
      | some b => ∀ H1, Ext H rho H1 rho → StoOk D H1 rho M → Q (.bl b) H1
      | none => False := q
    split at q
    · rename_i b e
      split at e
      · rename_i b2 e2
        cases e
        obtain ⟨v, hs, rv⟩ := rs.slot i _ e2
        have ev : v = .bl b := rep_bl.mp rv
        subst ev
        exact ⟨_, hs, q H Ext.refl rs.mem⟩
      · cases e
    · exact q.elim
  | .nt e p, h => by
    have h : wfX G c j en e = true := h
    refine PE.imp (pe_not (pe_hx C hk hc hz hf h1 h2 h3 e h)) fun s H Q ⟨z, tau, M, rho, rs, q⟩ => ⟨z, tau, M, rho, rs, ?_⟩
    have q : match (match evX k e tau with
        | some b => some (!b)
        | none => none) with
      | some b => ∀ H1, Ext H rho H1 rho → StoOk D H1 rho M → Q (.bl b) H1
      | none => False := q
    cases hx : evX k e tau with
    | none => rw [hx] at q; exact q.elim
    | some b =>
      rw [hx] at q
      exact fun H1 e1 s1 => ⟨b, rfl, q H1 e1 s1⟩
  | .an e e2 p, h => by
    have h : (wfX G c j en e && wfX G c j en e2) = true := h
    rw [Bool.and_eq_true] at h
    refine PE.imp (pe_and (pe_hx C hk hc hz hf h1 h2 h3 e h.1) (pe_one (pe_hx C hk hc hz hf h1 h2 h3 e2 h.2))) fun s H Q ⟨z, tau, M, rho, rs, q⟩ => ⟨z, tau, M, rho, rs, ?_⟩
    have q : match (match evX k e tau with
        | some true => evX k e2 tau
        | some false => some false
        | none => none) with
      | some b => ∀ H1, Ext H rho H1 rho → StoOk D H1 rho M → Q (.bl b) H1
      | none => False := q
    cases hx : evX k e tau with
    | none => rw [hx] at q; exact q.elim
    | some b =>
      rw [hx] at q
      intro H1 e1 s1
      refine ⟨b, rfl, ?_⟩
      cases b with
      | false => exact q H1 e1 s1
      | true =>
        refine ⟨⟨z.1, z.2.ext e1⟩, tau, M, rho, rs.ext e1 s1, ?_⟩
        have q : match evX k e2 tau with
          | some b => ∀ H1, Ext H rho H1 rho → StoOk D H1 rho M → Q (.bl b) H1
          | none => False := q
        cases hy : evX k e2 tau with
        | none => rw [hy] at q; exact q.elim
        | some b2 =>
          rw [hy] at q
          exact fun H2 e3 s2 => q H2 (e1.trans e3) s2
  | .or e e2 p, h => by
    have h : (wfX G c j en e && wfX G c j en e2) = true := h
    rw [Bool.and_eq_true] at h
    refine PE.imp (pe_or (pe_hx C hk hc hz hf h1 h2 h3 e h.1) (pe_one (pe_hx C hk hc hz hf h1 h2 h3 e2 h.2))) fun s H Q ⟨z, tau, M, rho, rs, q⟩ => ⟨z, tau, M, rho, rs, ?_⟩
    have q : match (match evX k e tau with
        | some true => some true
        | some false => evX k e2 tau
        | none => none) with
      | some b => ∀ H1, Ext H rho H1 rho → StoOk D H1 rho M → Q (.bl b) H1
      | none => False := q
    cases hx : evX k e tau with
    | none => rw [hx] at q; exact q.elim
    | some b =>
      rw [hx] at q
      intro H1 e1 s1
      refine ⟨b, rfl, ?_⟩
      cases b with
      | true => exact q H1 e1 s1
      | false =>
        refine ⟨⟨z.1, z.2.ext e1⟩, tau, M, rho, rs.ext e1 s1, ?_⟩
        have q : match evX k e2 tau with
          | some b => ∀ H1, Ext H rho H1 rho → StoOk D H1 rho M → Q (.bl b) H1
          | none => False := q
        cases hy : evX k e2 tau with
        | none => rw [hy] at q; exact q.elim
        | some b2 =>
          rw [hy] at q
          exact fun H2 e3 s2 => q H2 (e1.trans e3) s2
/-- the test of an if -/
theorem pt_isa (C : COk D G c X W) {k j : Nat} {en : Str} {q : IsC} (hk : k < G.cls.length) (hc : cls = .ref (D.cl k)) (hz : Zc cls d oe) (hf : ∃ vs, oe.data = .fields vs)
    (h1 : slotOk c j en = true) (h2 : glOk c "isinstance" = true) (h3 : inBn G "isinstance" = true) (h4 : wfI1 G c q = true) :
    PT (X.suite a ((a, oe) :: pn)) (q.e en) (fun s H Q => (s[j]? = some (some (.ref a)) ∧ DOk H d) ∧ Q (hitC k q.j) H) := by
  refine ⟨fun pins s σ H Q I ⟨z, q2⟩ => ?_⟩
  refine isTrue_plain (thn ((pe_is C hk hc hz hf h1 h2 h3 h4).run pins s σ H (fun x H1 => x = .bl (hitC k q.j) ∧ Q (hitC k q.j) H1) I ⟨z, rfl, q2⟩) fun v s1 ⟨x, H1, I1, r1, e1, q1⟩ => ?_) (by rfl)
  subst e1
  have r1 : v = Value.bool (hitC k q.j) := r1
  subst r1
  exact wpAny_truthy_bool ⟨H1, I1, q1⟩
theorem pt_hx (C : COk D G c X W) {k j : Nat} {en : Str} (hk : k < G.cls.length) (hc : cls = .ref (D.cl k)) (hz : Zc cls d oe) (hf : ∃ vs, oe.data = .fields vs)
    (h1 : slotOk c j en = true) (h2 : glOk c "isinstance" = true) (h3 : inBn G "isinstance" = true) : ∀ e : HX, wfT G c e = true →
    PT (X.suite a ((a, oe) :: pn)) (e.e en) (fun s H Q => (s[j]? = some (some (.ref a)) ∧ DOk H d) ∧ ∃ tau b, evX k e tau = some b ∧ (∀ tau', evX k e tau' = some b) ∧ Q b H)
  | .isa q, h => PT.imp (pt_isa C hk hc hz hf h1 h2 h3 h) fun s H Q ⟨z, tau, b, e1, _, q2⟩ => ⟨z, by cases e1; exact q2⟩
  | .or (.isa q) (.isa q2) p, h => by
    have h : (wfI1 G c q && wfI1 G c q2) = true := h
    rw [Bool.and_eq_true] at h
    refine PT.imp (PW.pt (pw_or (pt_isa C hk hc hz hf h1 h2 h3 h.1) (pw_or1 (pt_isa C hk hc hz hf h1 h2 h3 h.2)))) fun s H Q ⟨z, tau, b, e1, _, q3⟩ => ⟨z, ?_⟩
    have e1 : (match some (hitC k q.j) with
      | some true => some true
      | some false => some (hitC k q2.j)
      | none => none) = some b := e1
    cases hx : hitC k q.j with
    | true => rw [hx] at e1; cases e1; exact q3
    | false => rw [hx] at e1; cases e1; exact ⟨z, q3⟩
  | .nam .., h => nomatch h
  | .isT .., h => nomatch h
  | .nt .., h => nomatch h
  | .an .., h => nomatch h
  | .or (.nam ..) _ _, h => nomatch h
  | .or (.isT ..) _ _, h => nomatch h
  | .or (.nt ..) _ _, h => nomatch h
  | .or (.an ..) _ _, h => nomatch h
  | .or (.or ..) _ _, h => nomatch h
  | .or (.isa _) (.nam ..) _, h => nomatch h
  | .or (.isa _) (.isT ..) _, h => nomatch h
  | .or (.isa _) (.nt ..) _, h => nomatch h
  | .or (.isa _) (.an ..) _, h => nomatch h
  | .or (.isa _) (.or ..) _, h => nomatch h
/-- x = e.at -/
theorem ps_fld (C : COk D G c X W) {k j i : Nat} {en x : Str} {px pe pa p : Pos} (hc : cls = .ref (D.cl k)) (hz : Zc cls d oe) (hf : ∃ vs, oe.data = .fields vs)
    (h0 : tgtOk c i x = true) (h1 : slotOk c j en = true) (xf : XfA D.K (D.cl k)) :
    PS (X.suite a ((a, oe) :: pn)) (.Assign [.Name x px] (.Attribute (.Name en pe) "at" pa) p) (fun E s H => s[j]? = some (some (.ref a)) ∧ ∃ dx v, d = some dx ∧ H dx = some (.xd [("at", v)]) ∧ E.nx (s.set i (some v)) H) := by
  subst hc
  obtain ⟨k1, k2, k3⟩ := C.tgt h0
  obtain ⟨v1, v2, v3, v4⟩ := C.vis h1
  refine PS.imp (ps_set (X := X.suite a ((a, oe) :: pn)) (pos := p) (pos' := px) C.nodup k1 k2 (pe_xf (X := X) (n := "at") (pos := pa) (by rw [C.kK]; exact xf.1) (by rw [C.kK]; exact xf.2) hz hf (pe_var (X := X.suite a ((a, oe) :: pn)) v1 v2 v3 v4)) rfl k3) fun E s H ⟨z, dx, v, e1, e2, q⟩ => ?_
  exact ⟨_, z, rfl, rfl, dx, _, v, e1, e2, rfl, q⟩
theorem wfT_same {k : Nat} {tau tau' : Sig} : ∀ {t : HX}, wfT G c t = true → evX k t tau' = evX k t tau
  | .isa q, _ => rfl
  | .or (.isa q) (.isa q2) p, _ => rfl
  | .nam .., h => nomatch h
  | .isT .., h => nomatch h
  | .nt .., h => nomatch h
  | .an .., h => nomatch h
  | .or (.nam ..) _ _, h => nomatch h
  | .or (.isT ..) _ _, h => nomatch h
  | .or (.nt ..) _ _, h => nomatch h
  | .or (.an ..) _ _, h => nomatch h
  | .or (.or ..) _ _, h => nomatch h
  | .or (.isa _) (.nam ..) _, h => nomatch h
  | .or (.isa _) (.isT ..) _, h => nomatch h
  | .or (.isa _) (.nt ..) _, h => nomatch h
  | .or (.isa _) (.an ..) _, h => nomatch h
  | .or (.isa _) (.or ..) _, h => nomatch h
/-- one statement -/
theorem sim_h (C : COk D G c X W) {ie : Option (Nat × Str)} (hz : Zc cls d oe) (hf : ∃ vs, oe.data = .fields vs) : ∀ h : HSt, wfH G c ie h = true →
    PS (X.suite a ((a, oe) :: pn)) (toH ((ie.map (·.2)).getD Str.empty) h) (t1H D G.cls.length (ie.map (·.1)) h a cls d)
  | .bx i x px e p, h => by
    unfold wfH at h
    rw [Bool.and_eq_true] at h
    obtain ⟨k1, k2, k3⟩ := C.tgt h.1
    cases ie with
    | none => cases h.2
    | some je =>
      obtain ⟨j, en⟩ := je
      have h2 := h.2
      simp only [wfIs, Bool.and_eq_true, Bool.not_eq_true', beq_eq_false_iff_ne] at h2
      obtain ⟨⟨ne, ⟨⟨w1, w2⟩, w3⟩, w4⟩, w5⟩ := h2
      have ne' : some j ≠ some i := fun z => ne (Option.some.inj z)
      refine ⟨fun pins s σ H E I hyp => ?_⟩
      obtain ⟨k, y, tau, M, rho, hk, rs, el, sl, q⟩ := id hyp
      have q : match (if (y.isSome && false) = true then none else match evX k e tau with
          | some b => some (tau.set i (some (.bl b)), M)
          | none => none) with
        | some (tau', M') => ∀ s' H' rho', Ext H rho H' rho' → RelS D H' rho' M' s' tau' → slotIs (some j) a s' → E.nx s' H'
        | none => False := q
      rw [if_neg (by simp)] at q
      refine (ps_set (X := X.suite a ((a, oe) :: pn)) (pos := p) (pos' := px) C.nodup k1 k2 (pe_hx (a := a) (pn := pn) C hk el.1 hz hf w1 w2 w3 e w5) (by cases e <;> rfl) k3).run pins s σ H E I ?_
      refine ⟨⟨sl j rfl, el.dok⟩, tau, M, rho, rs, ?_⟩
      cases hx : evX k e tau with
      | none => rw [hx] at q; exact q.elim
      | some b =>
        rw [hx] at q
        exact fun H1 e1 s1 => q _ H1 rho e1 ((rs.ext e1 s1).set i (rep_bl.mpr rfl)) (sl.set ne')
  | .cst i x px k p, h => by
    unfold wfH at h
    rw [Bool.and_eq_true] at h
    obtain ⟨k1, k2, k3⟩ := C.tgt h.1
    have ne : ie.map (·.1) ≠ some i := fun z => by have := h.2; rw [z] at this; simp at this
    have hp : PE (X.suite a ((a, oe) :: pn)) k.e (fun s H Q => ∀ v, Rep D H [] k.v v → Q v H) := by
      cases k with
      | non j q => exact PE.imp pe_non fun s H Q q => q _ (rep_non.mpr rfl)
      | bl b j q => exact PE.imp pe_bl fun s H Q q => q _ (rep_bl.mpr rfl)
      | int b j q => exact PE.imp pe_int fun s H Q q => q _ (rep_int.mpr rfl)
    have hr : ∀ {H : Hp} {rho : List Addr} {v : V}, Rep D H [] k.v v → Rep D H rho k.v v := fun {H rho v} r => by
      cases k with
      | non j q => exact r
      | bl b j q => exact r
      | int b j q => exact r
    refine PS.imp (ps_set (X := X.suite a ((a, oe) :: pn)) C.nodup k1 k2 hp (by cases k <;> rfl) k3) fun E s H ⟨k, y, tau, M, rho, hk, rs, el, sl, q⟩ => ?_
    intro v r
    exact q _ H rho Ext.refl (rs.set i (hr r)) (sl.set ne)
  | .mks i x px cs pl p, h => by
    unfold wfH at h
    rw [Bool.and_eq_true] at h
    obtain ⟨k1, k2, k3⟩ := C.tgt h.1
    cases ie with
    | none => cases h.2
    | some je =>
      obtain ⟨j, en⟩ := je
      have h2 := h.2
      simp only [wfIs, Bool.and_eq_true, Bool.not_eq_true', beq_eq_false_iff_ne] at h2
      obtain ⟨ne, ⟨⟨w1, w2⟩, w3⟩, w4⟩ := h2
      have ne' : some j ≠ some i := fun z => ne (Option.some.inj z)
      refine ⟨fun pins s σ H E I hyp => ?_⟩
      obtain ⟨k, y, tau, M, rho, hk, rs, el, sl, q⟩ := id hyp
      have q : match (if (y.isSome && false) = true then none else match newL M (cs.map fun c => PV.bl (hitC k c.j)) with
          | some (v, M) => some (tau.set i (some v), M)
          | none => none) with
        | some (tau', M') => ∀ s' H' rho', Ext H rho H' rho' → RelS D H' rho' M' s' tau' → slotIs (some j) a s' → E.nx s' H'
        | none => False := q
      rw [if_neg (by simp)] at q
      have pl_ := pe_lst (pos := pl) (pa_is (a := a) (pn := pn) C hk el.1 hz hf w1 w2 w3 cs w4)
      refine (ps_set (X := X.suite a ((a, oe) :: pn)) (pos := p) (pos' := px) C.nodup k1 k2 pl_ rfl k3).run pins s σ H E I ?_
      cases hn : newL M (cs.map fun c => PV.bl (hitC k c.j)) with
      | none => rw [hn] at q; exact q.elim
      | some r =>
        obtain ⟨v, M'⟩ := r
        rw [hn] at q
        obtain ⟨z1, z2⟩ := (newL_prm (D := D) (Q := fun u H' => E.nx (σ.set i (some u)) H') hn fun H' rho' u e st r => q _ H' rho' e ((rs.ext e st).set i r) (sl.set ne')).newL rs.mem (bls_repL (fun c => hitC k c.j) cs)
        exact ⟨⟨sl j rfl, el.dok⟩, by rw [line_eq]; simpa using z1, z2⟩
  | .mkA i x px i2 x2 px2 cs pl pb p, h => by
    unfold wfH at h
    simp only [Bool.and_eq_true] at h
    obtain ⟨⟨h0, h00⟩, h2⟩ := h
    obtain ⟨k1, k2, k3⟩ := C.tgt h0
    obtain ⟨v1, v2, v3, v4⟩ := C.vis h00
    cases ie with
    | none => cases h2
    | some je =>
      obtain ⟨j, en⟩ := je
      simp only [wfIs, Bool.and_eq_true, Bool.not_eq_true', beq_eq_false_iff_ne] at h2
      obtain ⟨⟨ne, ne2⟩, ⟨⟨w1, w2⟩, w3⟩, w4⟩ := h2
      have ne' : some j ≠ some i := fun z => ne (Option.some.inj z)
      refine ⟨fun pins s σ H E I hyp => ?_⟩
      obtain ⟨k, y, tau, M, rho, hk, rs, el, sl, q⟩ := id hyp
      have q : match (if (y.isSome && false) = true then none else match tau[i2]? with
          | some (some u) => match newL M (cs.map fun c => PV.bl (hitC k c.j)) with
            | some (v, M) => match opB .Add u v M with
              | some (z, M) => some (tau.set i (some z), M)
              | none => none
            | none => none
          | _ => none) with
        | some (tau', M') => ∀ s' H' rho', Ext H rho H' rho' → RelS D H' rho' M' s' tau' → slotIs (some j) a s' → E.nx s' H'
        | none => False := q
      rw [if_neg (by simp)] at q
      have pl_ := pe_lst (pos := pl) (pa_is (a := a) (pn := pn) C hk el.1 hz hf w1 w2 w3 cs w4)
      have pv_ : PE (X.suite a ((a, oe) :: pn)) (.Name x2 px2) (tVar i2) := pe_var v1 v2 v3 v4
      refine (ps_set (X := X.suite a ((a, oe) :: pn)) (pos := p) (pos' := px) C.nodup k1 k2 (pe_op (pos := pb) (opB_ok (X := X.suite a ((a, oe) :: pn)) C.kK .Add) pv_ pl_) rfl k3).run pins s σ H E I ?_
      cases hu : tau[i2]? with
      | none => rw [hu] at q; exact q.elim
      | some o =>
        cases o with
        | none => rw [hu] at q; exact q.elim
        | some u =>
          rw [hu] at q
          obtain ⟨uv, hs, ru⟩ := rs.slot i2 u hu
          cases hn : newL M (cs.map fun c => PV.bl (hitC k c.j)) with
          | none => simp only [hn] at q
          | some r =>
            obtain ⟨v, M'⟩ := r
            simp only [hn] at q
            cases ha : opB .Add u v M' with
            | none => rw [ha] at q; exact q.elim
            | some r2 =>
              obtain ⟨z, M2⟩ := r2
              rw [ha] at q
              refine ⟨uv, hs, ?_⟩
              obtain ⟨z1, z2⟩ := (newL_prm (D := D) (Q := fun w H' => r2P D (opB .Add) uv w H' fun t H2 => E.nx (σ.set i (some t)) H2) hn fun H' rho' w e st r => ⟨u, v, M', rho', st, ru.ext e, r, by
                rw [ha]
                exact fun H2 rho2 t e2 st2 r2 => q _ H2 rho2 (e.trans e2) (((rs.ext e st).ext e2 st2).set i r2) (sl.set ne')⟩).newL rs.mem (bls_repL (fun c => hitC k c.j) cs)
              exact ⟨⟨sl j rfl, el.dok⟩, by rw [line_eq]; simpa using z1, z2⟩
  | .fld i x px pe pa p, h => by
    unfold wfH at h
    rw [Bool.and_eq_true] at h
    cases ie with
    | none => cases h.2
    | some je =>
      obtain ⟨j, en⟩ := je
      have h2 := h.2
      simp only [Bool.and_eq_true, Bool.not_eq_true', beq_eq_false_iff_ne] at h2
      have ne' : some j ≠ some i := fun z => h2.1 (Option.some.inj z)
      refine ⟨fun pins s σ H E I hyp => ?_⟩
      obtain ⟨k, y, tau, M, rho, hk, rs, el, sl, q⟩ := id hyp
      cases y with
      | none => exact q.elim
      | some y =>
        obtain ⟨e1, dx, v, e2, e3, e4, e5⟩ := el
        refine (ps_fld (a := a) (pn := pn) C e1 hz hf h.1 h2.2 e5).run pins s σ H E I ⟨sl j rfl, dx, v, e2, e3, ?_⟩
        exact q _ H rho Ext.refl (rs.set i e4) (sl.set ne')
  | .iff t i x px pe pa p pi, h => by
    unfold wfH at h
    simp only [Bool.and_eq_true] at h
    obtain ⟨⟨h0, ht⟩, h2⟩ := h
    cases ie with
    | none => cases h2
    | some je =>
      obtain ⟨j, en⟩ := je
      simp only [wfIs, Bool.and_eq_true, Bool.not_eq_true', beq_eq_false_iff_ne] at h2
      obtain ⟨ne, ⟨⟨w1, w2⟩, w3⟩, w4⟩ := h2
      have ne' : some j ≠ some i := fun z => ne (Option.some.inj z)
      refine ⟨fun pins s σ H E I hyp => ?_⟩
      obtain ⟨k, y, tau, M, rho, hk, rs, el, sl, q⟩ := id hyp
      have q : match (match evX k t tau with
          | some true => (match y with
            | some v => some (tau.set i (some v), M)
            | none => none)
          | some false => some (tau, M)
          | none => none) with
        | some (tau', M') => ∀ s' H' rho', Ext H rho H' rho' → RelS D H' rho' M' s' tau' → slotIs (some j) a s' → E.nx s' H'
        | none => False := q
      have same : ∀ tau', evX k t tau' = evX k t tau := fun tau' => wfT_same ht
      cases y with
      | none =>
        have pt := pt_hx (a := a) (pn := pn) C hk el.1 hz hf w1 w2 w3 t ht
        refine (ps_if (pos := pi) pt (show L2.PSs (X.suite a ((a, oe) :: pn)) _ (fun E s H => False) from ⟨fun _ _ _ _ _ _ z => z.elim⟩) pss_nil).run pins s σ H E I ?_
        refine ⟨⟨sl j rfl, el.dok⟩, tau, ?_⟩
        cases hx : evX k t tau with
        | none => rw [hx] at q; exact q.elim
        | some b =>
          refine ⟨b, rfl, fun tau' => by rw [same tau', hx], ?_⟩
          cases b with
          | true => rw [hx] at q; exact q.elim
          | false => rw [hx] at q; exact q _ H rho Ext.refl rs sl
      | some y =>
        obtain ⟨e1, dx, v, e2, e3, e4, e5⟩ := id el
        have pt := pt_hx (a := a) (pn := pn) C hk el.1 hz hf w1 w2 w3 t ht
        refine (ps_if (pos := pi) pt (pss_one (ps_fld (a := a) (pn := pn) C e1 hz hf h0 w1 e5)) pss_nil).run pins s σ H E I ?_
        refine ⟨⟨sl j rfl, el.dok⟩, tau, ?_⟩
        cases hx : evX k t tau with
        | none => rw [hx] at q; exact q.elim
        | some b =>
          refine ⟨b, rfl, fun tau' => by rw [same tau', hx], ?_⟩
          cases b with
          | true => rw [hx] at q; exact ⟨sl j rfl, dx, v, e2, e3, q _ H rho Ext.refl (rs.set i e4) (sl.set ne')⟩
          | false => rw [hx] at q; exact q _ H rho Ext.refl rs sl
theorem sim_hs (C : COk D G c X W) {ie : Option (Nat × Str)} (hz : Zc cls d oe) (hf : ∃ vs, oe.data = .fields vs) : ∀ hs : List HSt, hs.all (wfH G c ie) = true →
    L2.PSs (X.suite a ((a, oe) :: pn)) (hs.map (toH ((ie.map (·.2)).getD Str.empty))) (tHs D G.cls.length (ie.map (·.1)) hs a cls d)
  | [], _ => PSs.imp pss_nil fun E s H ⟨k, y, tau, M, rho, hk, rs, el, sl, q⟩ => q s H rho Ext.refl rs sl
  | h :: hs, w => by
    rw [List.all_cons, Bool.and_eq_true] at w
    refine PSs.imp (pss_cons (sim_h C hz hf h w.1) (sim_hs C hz hf hs w.2)) fun E s H ⟨k, y, tau, M, rho, hk, rs, el, sl, q⟩ => ⟨k, y, tau, M, rho, hk, rs, el, sl, ?_⟩
    have q : match (match evH k y h tau M with
        | some (tau, M) => evHs k y hs tau M
        | none => none) with
      | some (tau', M') => ∀ s' H' rho', Ext H rho H' rho' → RelS D H' rho' M' s' tau' → slotIs (ie.map (·.1)) a s' → E.nx s' H'
      | none => False := q
    cases e1 : evH k y h tau M with
    | none => rw [e1] at q; exact q.elim
    | some r =>
      obtain ⟨tau1, M1⟩ := r
      rw [e1] at q
      have q : match evHs k y hs tau1 M1 with
        | some (tau', M') => ∀ s' H' rho', Ext H rho H' rho' → RelS D H' rho' M' s' tau' → slotIs (ie.map (·.1)) a s' → E.nx s' H'
        | none => False := q
      intro s' H' rho' e rs' sl'
      refine ⟨k, y, tau1, M1, rho', hk, rs', el.ext e, sl', ?_⟩
      cases e2 : evHs k y hs tau1 M1 with
      | none => rw [e2] at q; exact q.elim
      | some r2 =>
        rw [e2] at q
        exact fun s2 H2 rho2 ex2 rs2 sl2 => q s2 H2 rho2 (e.trans ex2) rs2 sl2
/-- the context of a def's own body -/
structure FrX (X : Cx) (t : Bool) : Prop where
  st : X.stack = X.env :: X.outer
  fr : X.env.frame = some X.env.locals
  pa : t = true → ∀ hd : Option Value, PassesOwnAt (model X.prog X.w) (X.A.mark hd) X.A X.env X.xe
theorem FrX.tr {t : Bool} (f : FrX X t) {pn : List (Addr × Obj)} {xe : Value → Shared → Prop} : FrX (X.tr pn xe) false := ⟨f.st, f.fr, fun z => nomatch z⟩
theorem FrX.nox {t : Bool} (f : FrX X t) : FrX X.nox false := ⟨f.st, f.fr, fun z => nomatch z⟩
/-- raise C('m') -/
theorem s_rai (C : COk D G c X W) {k jc : Nat} {x m : Str} {p p2 q pr : Pos} (hg : glOk c x = true) (hk : G.cls[k]? = some (x, true)) :
    PS X (.Raise (some (.Call (.Name x p) [.Constant (.str m) jc p2] [] q)) none pr) (tsOf D W fun tau M => .exc k none tau M) := by
  obtain ⟨g1, g2, g3⟩ := C.gl hg
  have F := C.cx k x true hk
  obtain ⟨m1, m2⟩ := F.smp rfl
  have r : Raises X (.ref (D.cl k)) := raises_own (by rw [C.kK]; exact F.tr.1) (by rw [C.kK]; exact F.tr.2)
  refine PS.imp (L2N.ps_raise C.calm C.tk.n (L2N.pmk_own PySem.F.excBase_ValueError (by rw [C.kK]; exact m1) F.at_ (by rw [C.kK]; exact m2) r g1 g2)) fun E s H ⟨tau, M, rho, rs, q⟩ => ?_
  exact ⟨D.cl k, rfl, q s H rho (.ref (D.cl k)) none Ext.refl rs ⟨rfl, rfl⟩⟩
theorem COk.tr (C : COk D G c X W) {W' : WX} {pn : List (Addr × Obj)} {xe : Value → Shared → Prop} (tk : TakesM (X.tr pn xe) W') (po : PassesOwn (model X.prog X.w) X.A X.env xe) : COk D G c (X.tr pn xe) W' :=
  ⟨C.kK, C.kw, C.nN, C.sc, C.nd, C.calm, C.kind, C.gd, C.room, tk, po, C.fnx, C.fok, C.bn, C.cst, C.cx, C.ow, C.oc⟩
theorem names_cls (C : COk D G c X W) {j : Nat} {cx : Str} {b : Bool} (hg : glOk c cx = true) (hj : G.cls[j]? = some (cx, b)) : Names X cx (.ref (D.cl j)) := by
  obtain ⟨g1, g2, g3⟩ := C.gl hg
  exact ⟨g1, g2, .inl (C.cx j cx b hj).at_⟩
theorem s_tryC (C : COk D G c X W) {t : Bool} (fr : FrX X t) {j : Nat} {cx : Str} {b : Bool} {body : List Stmt} {f : Sig → Sto → SR} {h : HSt} {hs : List HSt} {np pos' pos : Pos} (hg : glOk c cx = true) (hj : G.cls[j]? = some (cx, b)) (hh : (h :: hs).all (wfH G c none) = true)
    (hb : ∀ (W' : WX) (pn : List (Addr × Obj)) (xe : Value → Shared → Prop), COk D G c (X.tr pn xe) W' → L2.PSs (X.tr pn xe) body (tsOf D W' f)) :
    PS X (.Try body [.ExceptHandler (some (.Name cx np)) none (toH Str.empty h :: hs.map (toH Str.empty)) pos'] [] [] pos) (tsOf D W fun tau M => (f tau M).catchC G.cls.length j (h :: hs)) := by
  refine PS.imp (ps_try_only (tb := fun W' => tsOf D (mixW W') f) (ts := tHs D G.cls.length none (h :: hs)) fr.st fr.fr (names_cls C hg hj) (Wout := fun _ _ _ _ => False) takes0 (fun W' pn xe tk po => hb (mixW W') pn xe (C.tr (TakesM.mix tk) po)) fun a oe cls d pn hz hf => ?_) fun E s H ⟨tau, M, rho, rs, q⟩ => ?_
  · exact sim_hs C (ie := none) hz hf (h :: hs) hh
  · refine ⟨tau, M, rho, rs, ?_⟩
    revert q
    show SOK D W E H rho ((f tau M).catchC G.cls.length j (h :: hs)) → _
    cases f tau M with
    | next tau' M' => exact fun q => q
    | ret v M' => exact fun q => q
    | stuck => exact fun q => q
    | exc k y tau' M' =>
      intro q s' H' rho' cls d e rs' er
      have q : SOK D W E H rho (if k < G.cls.length then (if hitC k (some j) = true then SR.ofH (evHs k y (h :: hs) tau' M') else .stuck) else .stuck) := q
      by_cases hk : k < G.cls.length
      · rw [if_pos hk] at q
        refine ⟨D.cl k, er.el.1, hitC k (some j), by rw [C.kK]; exact (C.cx j cx b hj).exm k hk, fun hb' a na => ?_, fun hb' => ?_⟩
        · rw [if_pos hb'] at q
          refine ⟨k, y, tau', M', rho', hk, rs', er.el.2, (fun i z => by cases z), ?_⟩
          cases e2 : evHs k y (h :: hs) tau' M' with
          | none => rw [e2] at q; exact q.elim
          | some r =>
            rw [e2] at q
            exact fun s2 H2 rho2 ex2 rs2 _ => q s2 H2 rho2 (e.trans ex2) rs2
        · rw [if_neg (by rw [hb']; simp)] at q
          exact q.elim
      · rw [if_neg hk] at q
        exact q.elim
theorem s_tryA (C : COk D G c X W) {t : Bool} (fr : FrX X t) {j ie : Nat} {cx en : Str} {b : Bool} {body : List Stmt} {f : Sig → Sto → SR} {h : HSt} {hs : List HSt} {np pos' pos : Pos} (hg : glOk c cx = true) (hj : G.cls[j]? = some (cx, b)) (hh : (h :: hs).all (wfH G c (some (ie, en))) = true)
    (hie : c.N[ie]? = some en) (hen : c.sc.names.lookup en = some .local)
    (hb : ∀ (W' : WX) (pn : List (Addr × Obj)) (xe : Value → Shared → Prop), COk D G c (X.tr pn xe) W' → L2.PSs (X.tr pn xe) body (tsOf D W' f)) :
    PS X (.Try body [.ExceptHandler (some (.Name cx np)) (some en) (toH en h :: hs.map (toH en)) pos'] [] [] pos) (tsOf D W fun tau M => (f tau M).catchA G.cls.length j ie (h :: hs)) := by
  have hln : X.env.kindOf en = some .local := by
    rcases C.sc en _ hen with q | ⟨q, _⟩
    · exact q
    · cases q
  refine PS.imp (ps_try_as (i := ie) (tb := fun W' => tsOf D (mixW W') f) (ts := tHs D G.cls.length (some ie) (h :: hs)) fr.st fr.fr C.nodup (by rw [C.nN]; exact hie) hln (names_cls C hg hj) (Wout := fun _ _ _ _ => False) takes0 (fun W' pn xe tk po => hb (mixW W') pn xe (C.tr (TakesM.mix tk) po)) fun a oe cls d pn hz hf => ?_) fun E s H ⟨tau, M, rho, rs, q⟩ => ?_
  · exact sim_hs C (ie := some (ie, en)) hz hf (h :: hs) hh
  · refine ⟨tau, M, rho, rs, ?_⟩
    revert q
    show SOK D W E H rho ((f tau M).catchA G.cls.length j ie (h :: hs)) → _
    cases f tau M with
    | next tau' M' => exact fun q => q
    | ret v M' => exact fun q => q
    | stuck => exact fun q => q
    | exc k y tau' M' =>
      intro q s' H' rho' cls d e rs' er
      have q : SOK D W E H rho (if k < G.cls.length ∧ ie < tau'.length then (if hitC k (some j) = true then SR.ofH ((evHs k y (h :: hs) (tau'.set ie none) M').map fun p => (p.1.set ie none, p.2)) else .stuck) else .stuck) := q
      by_cases hk : k < G.cls.length ∧ ie < tau'.length
      · rw [if_pos hk] at q
        refine ⟨D.cl k, er.el.1, hitC k (some j), by rw [C.kK]; exact (C.cx j cx b hj).exm k hk.1, fun hb' a na => ?_, fun hb' => ?_⟩
        · rw [if_pos hb'] at q
          refine ⟨k, y, tau'.set ie none, M', rho', hk.1, rs'.unset ie _, er.el.2, fun i z => ?_, ?_⟩
          · cases z
            rw [List.getElem?_set_self (by rw [← rs'.len]; exact hk.2)]
          · cases e2 : evHs k y (h :: hs) (tau'.set ie none) M' with
            | none => rw [e2] at q; exact q.elim
            | some r =>
              rw [e2] at q
              exact fun s2 H2 rho2 ex2 rs2 _ => q (s2.set ie none) H2 rho2 (e.trans ex2) (rs2.unset ie none)
        · rw [if_neg (by rw [hb']; simp)] at q
          exact q.elim
      · rw [if_neg hk] at q
        exact q.elim
theorem init_mono {K : PySem.W.Frag} {vs : List V} {H : Hp} {Q Q' : VK} {E : XK} (h : initSp K vs H Q E) (k : ∀ v H', Q v H' → Q' v H') : initSp K vs H Q' E :=
  let ⟨a, C, y, e, t, n, ha, q⟩ := h
  ⟨a, C, y, e, t, n, ha, fun dx n1 n2 => k _ _ (q dx n1 n2)⟩
/-- what the new exception's heap is -/
theorem mk_heap {H : Hp} {a dx C : Addr} {y : V} (na : H a = none) (ne : dx ≠ a) :
    upd (del (upd (upd (upd H a (exo a C none)) dx (exd dx [("at", y)])) a (exo a C (some dx))) a) dx (.xd [("at", y)]) = upd H dx (.xd [("at", y)]) := by
  funext b
  by_cases h1 : b = dx
  · rw [h1, upd_same, upd_same]
  · rw [upd_ne h1, upd_ne h1]
    by_cases h2 : b = a
    · rw [h2, del_same, na]
    · rw [del_ne h2, upd_ne h2, upd_ne h1, upd_ne h2]
/-- the new exception of C(e) -/
theorem mk_init {D : Wd} {W : XK} {k : Nat} {y : V} {z : Int} {H : Hp} {rho : List Addr} {M : Sto} {P : Program} {w : World} {mg : Str → Option Value} {base : Heap} {tau : Sig} {s : L2.St} (O : OwnI P w D.K mg base (D.cl k)) (xf : XfC D.K (D.cl k)) (ry : Rep D H rho (.int z) y) (rs : RelS D H rho M s tau) (a : Addr) (na : H a = none)
    (h : ∀ H' d, Ext H rho H' rho → RelS D H' rho M s tau → ERep D H' rho k (some (.int z)) (tagC (D.cl k)) d → W (tagC (D.cl k)) d H') :
    initSp D.K [.ref a, y] (upd H a (exo a (D.cl k) none)) (fun v H2 => v = .non ∧ ∃ (d : Addr) (fs : List (Str × V)), H2 a = some (exo a (D.cl k) (some d)) ∧ H2 d = some (exd d fs) ∧ H d = none ∧ W (tagC (D.cl k)) (some d) (upd (del H2 a) d (.xd fs))) (fun _ _ _ => False) := by
  refine ⟨a, D.cl k, y, rfl, O.T, O.no, upd_same, fun dx nd ne => ⟨rfl, dx, [("at", y)], upd_same, by rw [upd_ne ne, upd_same], by rw [upd_ne ne] at nd; exact nd, ?_⟩⟩
  rw [mk_heap na ne]
  have nd : H dx = none := by rw [upd_ne ne] at nd; exact nd
  exact h _ _ (Ext.new nd) (rs.ext (Ext.new nd) (rs.mem.new nd)) ⟨rfl, dx, y, rfl, upd_same, ry.ext (Ext.new nd), xf, O.no⟩
/-- raise C(e) -/
theorem s_raiF (C : COk D G c X W) {k : Nat} {x : Str} {b : Bool} {e : Expr} {f : Sig → Sto → Res PV} {p q pr : Pos} (hg : glOk c x = true) (hk : G.cls[k]? = some (x, b)) (hi : k ∈ G.ini) (hl : 2 ≤ c.lev) (he : PE X e (teOf D W f)) (hse : starEach (e :: []) X.env = (false, eval e X.env) :: starEach [] X.env) :
    PS X (.Raise (some (.Call (.Name x p) [e] [] q)) none pr) (tsOf D W fun tau M => (f tau M).then tau fun v M => match v with
      | .int z => .exc k (some (.int z)) tau M
      | _ => .stuck) := by
  obtain ⟨g1, g2, g3⟩ := C.gl hg
  have F := C.cx k x b hk
  obtain ⟨x2, b2, e2, O, xf⟩ := C.ow k hi
  obtain ⟨T, no, fI, fd, iC, tI, bind, fn1, fnH⟩ := O
  have O : OwnI X.prog X.w D.K X.mg X.base (D.cl k) := ⟨T, no, fI, fd, iC, tI, bind, fn1, fnH⟩
  refine PS.imp (L2.ps_raise C.calm C.tk.s (pmk_oex (CX := CX0) (by rw [C.kK]; exact T) (by rw [C.kK]; exact iC) (by rw [C.kK]; exact tI) (by rw [C.kK]; exact fn1 _) (C.room.mono hl) (by rw [C.kK]; exact bind) .nil (fun _ _ _ _ _ _ _ z => z.elim) g1 F.at_ (pa_cons he pa_nil hse) g2 hse (by rw [show starEach ([] : List Expr) X.env = [] from rfl]; rfl))) fun E s H ⟨tau, M, rho, rs, q⟩ => ?_
  refine ⟨tau, M, rho, rs, SOK.then rs q fun H1 rho1 v y M1 e1 s1 r1 q1 => ?_⟩
  cases v <;> first | exact q1.elim | skip
  rename_i z
  refine ⟨by simp, fun a na => ?_⟩
  have rs1 := rs.ext e1 s1
  refine init_mono (mk_init (W := fun cls d H' => W cls d s H') O xf r1 rs1 a na fun H' d e3 rs3 er => q1 s H' rho1 _ d e3 rs3 er) fun v H2 ⟨ev, d, fs, h1, h2, h3, h4⟩ => ⟨ev, d, fs, h1, h2, h3, D.cl k, rfl, h4⟩
/-- try .. except C: raise X(x) from None -/
theorem s_tryR (C : COk D G c X W) (fr : FrX X true) {j k i jc : Nat} {cx x xn : Str} {b b2 : Bool} {body : List Stmt} {f : Sig → Sto → SR} {np p p2 q cp pr pos' pos : Pos} (hg : glOk c cx = true) (hj : G.cls[j]? = some (cx, b)) (hg2 : glOk c x = true) (hk : G.cls[k]? = some (x, b2)) (hi : k ∈ G.ini) (hl : 2 ≤ c.lev) (hs : slotOk c i xn = true)
    (hb : ∀ (W' : WX) (pn : List (Addr × Obj)) (xe : Value → Shared → Prop), COk D G c (X.tr pn xe) W' → L2.PSs (X.tr pn xe) body (tsOf D W' f)) :
    PS X (.Try body [.ExceptHandler (some (.Name cx np)) none [.Raise (some (.Call (.Name x p) [.Name xn p2] [] q)) (some (.Constant .none jc cp)) pr] pos'] [] [] pos) (tsOf D W fun tau M => (f tau M).catchR G.cls.length j k i) := by
  obtain ⟨g1, g2, g3⟩ := C.gl hg2
  have F := C.cx k x b2 hk
  obtain ⟨x2, b3, e2, O, xf⟩ := C.ow k hi
  obtain ⟨T, no, fI, fd, iC, tI, bind, fn1, fnH⟩ := O
  have O : OwnI X.prog X.w D.K X.mg X.base (D.cl k) := ⟨T, no, fI, fd, iC, tI, bind, fn1, fnH⟩
  obtain ⟨v1, v2, v3, v4⟩ := C.vis hs
  refine PS.imp (L2H.ps_try_onlyX (tb := fun W' => tsOf D (coldW W') f) (ts := fun _ _ _ E s H => ∃ y, s[i]? = some (some y) ∧ ∀ a, H a = none → initSp D.K [.ref a, y] (upd H a (exo a (D.cl k) none)) (fun v H2 => v = .non ∧ ∃ (d : Addr) (fs : List (Str × V)), H2 a = some (exo a (D.cl k) (some d)) ∧ H2 d = some (exd d fs) ∧ H d = none ∧ W (tagC (D.cl k)) (some d) s (upd (del H2 a) d (.xd fs))) (fun _ _ _ => False))
    fr.st fr.fr (names_cls C hg hj) (fr.pa rfl) C.tk.s (fun W' pn xe tk _ po => hb (coldW W') pn xe (C.tr (TakesM.cold tk) po)) fun a oe cls d pn hz hf tk hot => ?_) fun E s H ⟨tau, M, rho, rs, q⟩ => ?_
  · refine PSs.imp (pss_one (L2H.ps_raiseHN hot tk (L2H.pmk5_oexH (CX := CX0) (by show OexC X.K _; rw [C.kK]; exact T) (by show PySem.W.findIn X.K _ _ = _; rw [C.kK]; exact iC) (by show PySem.W.typeIn X.K _ = _; rw [C.kK]; exact tI) (by show L2H.FnH X.prog X.w X.K X.mg X.base _ _ _ _ _ _; rw [C.kK]; exact fnH _) (L2H.roomH_mark (C.room.mono hl) _) hot (by show Binds X.K _ _ _; rw [C.kK]; exact bind) (fun _ _ _ _ _ _ _ z => z.elim) g1 F.at_ (pa_cons (pe_var v1 v2 v3 v4) pa_nil) g2))) fun E s H ⟨y, hy, hq⟩ => ?_
    refine ⟨y, hy, by simp, fun a na => ?_⟩
    exact init_mono (hq a na) fun v H2 ⟨ev, d, fs, h1, h2, h3, h4⟩ => ⟨ev, d, fs, h1, h2, h3, D.cl k, rfl, h4⟩
  · refine ⟨tau, M, rho, rs, ?_⟩
    revert q
    show SOK D W E H rho ((f tau M).catchR G.cls.length j k i) → _
    cases f tau M with
    | next tau' M' => exact fun q => q
    | ret v M' => exact fun q => q
    | stuck => exact fun q => q
    | exc k0 y tau' M' =>
      intro q s' H' rho' cls d e rs' er
      cases y with
      | some y => exact q.elim
      | none =>
        have q : SOK D W E H rho (if k0 < G.cls.length ∧ hitC k0 (some j) = true then (match tau'[i]? with
          | some (some (.int z)) => .exc k (some (.int z)) tau' M'
          | _ => .stuck) else .stuck) := q
        by_cases hh : k0 < G.cls.length ∧ hitC k0 (some j) = true
        · rw [if_pos hh] at q
          obtain ⟨e1, e2⟩ := er
          subst e1
          refine ⟨D.cl k0, rfl, true, by rw [C.kK, ← hh.2]; exact (C.cx j cx b hj).exm k0 hh.1, fun _ a na => ?_, fun z => nomatch z⟩
          split at q
          · rename_i z hz
            obtain ⟨y, hy, ry⟩ := rs'.slot i _ hz
            exact ⟨y, hy, fun a na => mk_init (W := fun cls d H2 => W cls d s' H2) O xf ry rs' a na fun H2 d e3 rs3 er => q s' H2 rho' _ d (e.trans e3) rs3 er⟩
          · exact q.elim
        · rw [if_neg hh] at q
          exact q.elim
theorem COk.nox (C : COk D G c X W) : COk D G c X.nox (fun _ _ _ _ => False) :=
  ⟨C.kK, C.kw, C.nN, C.sc, C.nd, C.calm, C.kind, C.gd, C.room, takesM0, PassesOwn.never, C.fnx, C.fok, C.bn, C.cst, C.cx, C.ow, C.oc⟩
/-- a suite out of which no exception comes, whatever its handler -/
theorem s_tryN {body : List Stmt} {f : Sig → Sto → SR} {eh : ExceptHandler} {pos : Pos} (hb : L2.PSs X.nox body (tsOf D (fun _ _ _ _ => False) f)) :
    PS X (.Try body [eh] [] [] pos) (tsOf D W fun tau M => (f tau M).nox) := by
  refine PS.imp (ps_try_thru0 hb) fun E s H ⟨tau, M, rho, rs, q⟩ => ⟨tau, M, rho, rs, ?_⟩
  revert q
  show SOK D W E H rho ((f tau M).nox) → _
  cases f tau M with
  | next tau' M' => exact fun q => q
  | ret v M' => exact fun q => q
  | stuck => exact fun q => q
  | exc k y tau' M' => exact fun q => q.elim
end
end SW

/-! Every statement; every def; the law. -/
namespace SW
open PySem PySem.Spec PyProof.Rows L2

def isTup : PEx → Bool
  | .tup .. => true
  | _ => false
variable (G : Glb)
/-- a written tuple of constants -/
def allFold : PEx → Bool
  | .tup es _ _ => (toL es).all (foldedForSure 8)
  | _ => false
theorem sw_noTup {ts : List (Nat × Str × Pos)} {k : Nat} {px : Pos} {e : Expr} {env : Env} (h : ∀ es k2 p2, e ≠ .Tuple es k2 p2) : swappedStores [toT (.tup ts k px)] e env = pure none := by
  unfold swappedStores toT
  cases e <;> first | rfl | exact absurd rfl (h _ _ _)
theorem sw_fold {ts : List (Nat × Str × Pos)} {k k2 : Nat} {px p2 : Pos} {vs : List Expr} {env : Env} (h : vs.all (foldedForSure 8) = true) : swappedStores [toT (.tup ts k px)] (.Tuple vs k2 p2) env = pure none := by
  unfold swappedStores toT
  dsimp only
  simp only [h, if_true]
  repeat' split
  all_goals rfl
/-- what is asked of an assignment -/
def wfA (t : PTg) (e : PEx) (c : Cn) : Bool := tgtsOk c t && match t with
  | .one _ x px => (match e with
    | .lc _ _ _ _ sc _ p => (decide (c.sc.names.lookup x = some .local) && (px.line == p.line) && !(sc.names.any fun (n, k) => n == x && (k == .local || k == .cell))) || decide (c.sc.names.lookup x = some .cell)
    | _ => true)
  | .tup _ _ _ => (!isTup e || allFold e) && !isLc e
mutual
def wfS : PSt → Cn → Bool → Bool
  | .asg t e _, c, b0 => wfE G e c && wfA t e c
  | .setI o i e _ _, c, b0 => wfE G o c && wfE G i c && wfE G e c
  | .setF o f e _ _, c, b0 => wfE G o c && wfE G e c
  | .setT o i o2 i2 e _ _ _ _, c, b0 => wfE G o c && wfE G i c && wfE G o2 c && wfE G i2 c && wfE G e c && !isTup e && !isLc e
  | .expr e _, c, b0 => wfE G e c && !isLc e
  | .ret e _, c, b0 => wfE G e c
  | .retN _, _, _ => true
  | .ife t a b _, c, b0 => wfE G t c && wfSs a c b0 && wfSs b c b0
  | .for_ t it b _, c, b0 => tgtsOk c t && wfI G it t c && wfSs b c b0
  | .whl t b _, c, b0 => wfE G t c && wfSs b c b0
  | .pass _, _, _ => true
  | .rai k x _ _ _ _ _ _, c, b0 => glOk c x && decide (G.cls[k]? = some (x, true))
  | .tryC body j cx _ h hs _ _, c, b0 => wfSs body c false && glOk c cx && (match G.cls[j]? with | some (y, _) => decide (y = cx) | none => false) && (h :: hs).all (wfH G c none)
  | .tryA body j cx _ ie en h hs _ _, c, b0 => wfSs body c false && glOk c cx && (match G.cls[j]? with | some (y, _) => decide (y = cx) | none => false) && (h :: hs).all (wfH G c (some (ie, en))) && decide (c.N[ie]? = some en) && decide (c.sc.names.lookup en = some .local)
  | .tryN body _ _, c, b0 => wfSs body c false
  | .tryR body j cx _ k x i xn _ _ _ _ _ _ _ _, c, b0 => wfSs body c false && glOk c cx && (match G.cls[j]? with | some (y, _) => decide (y = cx) | none => false) && glOk c x && (match G.cls[k]? with | some (y, _) => decide (y = x) | none => false) && decide (k ∈ G.ini) && decide (2 ≤ c.lev) && slotOk c i xn && b0
  | .raiF k x e _ _ _, c, b0 => glOk c x && (match G.cls[k]? with | some (y, _) => decide (y = x) | none => false) && decide (k ∈ G.ini) && decide (2 ≤ c.lev) && wfE G e c
def wfSs : PBl → Cn → Bool → Bool
  | .nil, _, _ => true
  | .cons s r, c, b0 => wfS s c b0 && wfSs r c b0
end
variable {G}
theorem sw_no {e : PEx} (h : isLc e = false) (t : Option Expr) (l : Nat) (env : Env) : swapsWith (toE e) t l env = pure false := by
  cases e <;> first | rfl | cases h
theorem sw_cell {e : PEx} {x : Str} {px : Pos} {l : Nat} {env : Env} (h : env.scope.names.lookup x = some .cell) : swapsWith (toE e) (some (.Name x px)) l env = pure false := by
  have h1 : (env.kindOf x == some .local) = false := by
    have : env.kindOf x = some .cell := h
    rw [this]; rfl
  cases e <;> first | rfl | skip
  show (pure (env.blockKind == .function && env.kindOf x == some .local && _ && _) : Sem Bool) = pure false
  rw [h1, Bool.and_false, Bool.false_and, Bool.false_and]
theorem sw_sub (e : PEx) (o i : Expr) (pt : Pos) (l : Nat) (env : Env) : swapsWith (toE e) (some (.Subscript o i pt)) l env = pure false := by
  cases e <;> rfl
theorem sw_att (e : PEx) (o : Expr) (f : Str) (pt : Pos) (l : Nat) (env : Env) : swapsWith (toE e) (some (.Attribute o f pt)) l env = pure false := by
  cases e <;> rfl
theorem asg_sub (o i : PEx) (pt : Pos) (env : Env) : ∀ v, assign (.Subscript (toE o) (toE i) pt) env v = (do
      let ov ← holding [v] (eval (toE o) env)
      let iv ← holding [v, ov] (eval (toE i) env)
      standAt pt
      holding [v, ov, iv] (setItem ov iv v)
      release [v, ov, iv] []) := by
  intro v
  cases i <;> rfl
section
variable {D : Wd}
theorem sim_asg {c : Cn} {X : Cx} {W : WX} (C : COk D G c X W) (t : PTg) (e : PEx) (p : Pos) (he : wfE G e c = true) (ha : wfA t e c = true) :
    PS X (.Assign [toT t] (toE e) p) (tsOf D W fun tau M => (evE G false e tau M).then tau fun v M => match asgT t v tau M with | some tau => .next tau M | none => .stuck) := by
  unfold wfA at ha
  rw [Bool.and_eq_true] at ha
  obtain ⟨h1, h2⟩ := ha
  cases t with
  | one i x px =>
    by_cases hl : isLc e = true
    · cases e <;> first | cases hl | skip
      rename_i el tt it ifs sc own pl
      simp only [Bool.or_eq_true, Bool.and_eq_true, decide_eq_true_eq, Bool.not_eq_true'] at h2
      rcases h2 with ⟨⟨k1, k2⟩, k3⟩ | kc
      rotate_left
      · have kc' : X.env.scope.names.lookup x = some .cell := by
          rcases C.sc x _ kc with q | ⟨q, _⟩
          · exact q
          · cases q
        exact s_set C h1 (simE (.lc el tt it ifs sc own pl) c X W C he).1 (sw_cell kc')
      simp only [wfE, Bool.and_eq_true, decide_eq_true_eq] at he
      obtain ⟨⟨⟨⟨⟨⟨h3, h4⟩, h5⟩, h6⟩, h7⟩, h8⟩, h9⟩ := he
      exact s_setLc C h1 k1 k2 C.kind k3 (simI it tt c X W C h3) h4 h5 (fun i hi => List.contains_iff_mem.mp (List.all_eq_true.mp h6 i hi)) (fun X' W' C' => simTs ifs _ X' W' C' h9 h7) (fun X' W' C' => (simE el _ X' W' C' h8).1) (fold_toI it X.env)
    · have hl : isLc e = false := by simpa using hl
      exact s_set C h1 (simE e c X W C he).1 (sw_no hl _ _ _)
  | tup ts k px =>
    simp only [Bool.and_eq_true, Bool.not_eq_true'] at h2
    refine s_unp C h1 (simE e c X W C he).1 (fun t l env => .inl (sw_no h2.2 _ _ _)) ?_
    have h3 := h2.1
    cases e with
    | tup es k2 p2 => exact sw_fold (by simpa [isTup, allFold] using h3)
    | _ => exact sw_noTup fun es k2 p2 z => by cases z
mutual
theorem simS : (s : PSt) → (c : Cn) → (X : Cx) → (W : WX) → (b0 : Bool) → COk D G c X W → FrX X b0 → wfS G s c b0 = true → PS X (toS s) (tsOf D W (evS G s))
  | .asg t e p, c, X, W, b0, C, fr, h => by
    rw [wfS, Bool.and_eq_true] at h
    exact sim_asg C t e p h.1 h.2
  | .setF o f e pt p, c, X, W, b0, C, fr, h => by
    simp only [wfS, Bool.and_eq_true] at h
    exact s_setF C (simE o c X W C h.1).1 (simE e c X W C h.2).1 (sw_att e _ _ _ _ _)
  | .setI o i e pt p, c, X, W, b0, C, fr, h => by
    simp only [wfS, Bool.and_eq_true] at h
    exact s_setI C (simE o c X W C h.1.1).1 (simE i c X W C h.1.2).1 (simE e c X W C h.2).1 (sw_sub e _ _ _ _ _) (asg_sub o i pt X.env)
  | .setT o i o2 i2 e pt pt2 px p, c, X, W, b0, C, fr, h => by
    simp only [wfS, Bool.and_eq_true, Bool.not_eq_true'] at h
    obtain ⟨⟨⟨⟨⟨⟨h1, h2⟩, h3⟩, h4⟩, h5⟩, h6⟩, h7⟩ := h
    refine s_setT C (simE o c X W C h1).1 (simE i c X W C h2).1 (simE o2 c X W C h3).1 (simE i2 c X W C h4).1 (simE e c X W C h5).1 (sw_no h7 _ _ _) (fun es k2 p2 => ?_) (asg_sub o i pt X.env) (asg_sub o2 i2 pt2 X.env)
    cases e <;> first | (intro z; cases z; done) | cases h6
  | .expr e p, c, X, W, b0, C, fr, h => by
    simp only [wfS, Bool.and_eq_true, Bool.not_eq_true'] at h
    exact s_expr (simE e c X W C h.1).1 (sw_no h.2 _ _ _)
  | .ret e p, c, X, W, b0, C, fr, h => by
    rw [wfS] at h
    exact s_ret (simE e c X W C h).1
  | .retN p, c, X, W, b0, C, fr, h => s_retN
  | .ife t a b p, c, X, W, b0, C, fr, h => by
    simp only [wfS, Bool.and_eq_true] at h
    exact s_if (simE t c X W C h.1.1).2 (simSs a c X W b0 C fr h.1.2) (simSs b c X W b0 C fr h.2)
  | .for_ t it b p, c, X, W, b0, C, fr, h => by
    simp only [wfS, Bool.and_eq_true] at h
    exact s_for C h.1.1 (simI it t c X W C h.1.2) (simSs b c X W b0 C fr h.2) (fold_toI it X.env)
  | .whl t b p, c, X, W, b0, C, fr, h => by
    simp only [wfS, Bool.and_eq_true] at h
    exact s_whl C (simE t c X W C h.1).2 (simSs b c X W b0 C fr h.2)
  | .pass p, c, X, W, b0, C, fr, h => s_pass
  | .rai k x m jc p p2 q pr, c, X, W, b0, C, fr, h => by
    simp only [wfS, Bool.and_eq_true, decide_eq_true_eq] at h
    exact s_rai C h.1 h.2
  | .tryC body j cx np h0 hs pos' pos, c, X, W, b0, C, fr, h => by
    simp only [wfS, Bool.and_eq_true] at h
    obtain ⟨⟨⟨h1, h2⟩, h3⟩, h4⟩ := h
    cases ef : G.cls[j]? with
    | none => rw [ef] at h3; cases h3
    | some r =>
      obtain ⟨y, b⟩ := r
      rw [ef] at h3
      obtain rfl : y = cx := of_decide_eq_true h3
      exact s_tryC C fr h2 ef h4 fun W' pn xe C' => simSs body c _ W' false C' fr.tr h1
  | .tryA body j cx np ie en h0 hs pos' pos, c, X, W, b0, C, fr, h => by
    simp only [wfS, Bool.and_eq_true, decide_eq_true_eq] at h
    obtain ⟨⟨⟨⟨⟨h1, h2⟩, h3⟩, h4⟩, h5⟩, h6⟩ := h
    cases ef : G.cls[j]? with
    | none => rw [ef] at h3; cases h3
    | some r =>
      obtain ⟨y, b⟩ := r
      rw [ef] at h3
      obtain rfl : y = cx := of_decide_eq_true h3
      exact s_tryA C fr h2 ef h4 h5 h6 fun W' pn xe C' => simSs body c _ W' false C' fr.tr h1
  | .tryN body eh pos, c, X, W, b0, C, fr, h => by
    rw [wfS] at h
    exact s_tryN (simSs body c _ _ false C.nox fr.nox h)
  | .tryR body j cx np k x i xn p p2 q jc cp pr pos' pos, c, X, W, b0, C, fr, h => by
    simp only [wfS, Bool.and_eq_true, decide_eq_true_eq] at h
    obtain ⟨⟨⟨⟨⟨⟨⟨⟨h1, h2⟩, h3⟩, h4⟩, h5⟩, h6⟩, h7⟩, h8⟩, h9⟩ := h
    subst h9
    cases ef : G.cls[j]? with
    | none => rw [ef] at h3; cases h3
    | some r =>
      obtain ⟨y, b⟩ := r
      rw [ef] at h3
      obtain rfl : y = cx := of_decide_eq_true h3
      cases eg : G.cls[k]? with
      | none => rw [eg] at h5; cases h5
      | some r =>
        obtain ⟨y2, b2⟩ := r
        rw [eg] at h5
        obtain rfl : y2 = x := of_decide_eq_true h5
        exact s_tryR C fr h2 ef h4 eg h6 h7 h8 fun W' pn xe C' => simSs body c _ W' false C' fr.tr h1
  | .raiF k x e p q pr, c, X, W, b0, C, fr, h => by
    simp only [wfS, Bool.and_eq_true, decide_eq_true_eq] at h
    obtain ⟨⟨⟨⟨h1, h2⟩, h3⟩, h4⟩, h5⟩ := h
    cases eg : G.cls[k]? with
    | none => rw [eg] at h2; cases h2
    | some r =>
      obtain ⟨y2, b2⟩ := r
      rw [eg] at h2
      obtain rfl : y2 = x := of_decide_eq_true h2
      exact s_raiF C h1 eg h3 h4 (simE e c X W C h5).1 (star_cons e [] X.env)
theorem simSs : (s : PBl) → (c : Cn) → (X : Cx) → (W : WX) → (b0 : Bool) → COk D G c X W → FrX X b0 → wfSs G s c b0 = true → L2.PSs X (toSs s) (tsOf D W (evSs G s))
  | .nil, c, X, W, b0, C, fr, h => s_nil
  | .cons s r, c, X, W, b0, C, fr, h => by
    rw [wfSs, Bool.and_eq_true] at h
    exact s_cons (simS s c X W b0 C fr h.1) (simSs r c X W b0 C fr h.2)
end

/-! ### defs -/
/-- a def's slots at its start -/
theorem start_rel {H : Hp} {rho : List Addr} {M : Sto} {n : Nat} {xs : List PV} {vs : List V} {N : List Str} (st : StoOk D H rho M) (r : RepL D H rho xs vs) :
    RelS D H rho M (L2.start N vs) (xs.map some ++ List.replicate (N.length - xs.length) none) := by
  have hl := r.len
  refine ⟨st, by unfold L2.start; simp [hl], fun i x h => ?_⟩
  by_cases hi : i < xs.length
  · rw [List.getElem?_append_left (by simpa using hi), List.getElem?_map] at h
    cases e : xs[i]? with
    | none => rw [e] at h; cases h
    | some y =>
      rw [e] at h
      cases h
      obtain ⟨v, hv, rv⟩ := r.get e
      refine ⟨v, ?_, rv⟩
      unfold L2.start
      rw [List.getElem?_append_left (by simpa [← hl] using hi), List.getElem?_map, hv]
      rfl
  · rw [List.getElem?_append_right (by simpa using hi), List.getElem?_replicate] at h
    split at h <;> cases h
/-- a def of the text: its slots, parameters, its body -/
structure FD where
  nm : Str
  N : List Str
  ps : List Str
  lev : Nat
  body : PBl
  dv : Option PV
  ow : Option (Nat × Str)
/-- the table entry of a def, over the defs before it -/
def FD.fi (d : FD) (G : Glb) : FI := ⟨d.nm, d.ps, d.lev, runF G d.N.length d.body, d.dv, d.ow⟩
section
variable {P : Program} {w : World} {mg : Str → Option Value} {base : Heap}
theorem SOK.run {E : Ends} {H0 : Hp} {rho0 : List Addr} {r : SR} {Q : VK} {K : XK}
    (h : OKG D (Rep D) H0 rho0 (match r with | .next _ M => .ok .non M | .ret v M => .ok v M | .exc c v _ M => .exc c v M | .stuck => .stuck) Q K) :
    SOK D (fun cls d _ H => K cls d H) { nx := fun _ H' => Q .non H', rt := Q } H0 rho0 r := by
  cases r with
  | next tau M => exact fun s H rho e rs => h H rho .non e rs.mem (rep_non.mpr rfl)
  | ret x M => exact h
  | exc c y tau M => exact fun s H rho cls d e rs er => h H rho cls d e rs.mem er
  | stuck => exact h
/-- a body's context -/
theorem cx_ok {N ps : List Str} {k : Nat} {qual : Str} {sc : Scope} {f : Addr} {cd : Value} {A : Around} {outer : List Env} {s : Shared} {H : Hp} {E : XK} (hw : w = D.w) (S : FnScope N ps sc) (hr : Room k (A.deeper (envOfC qual sc s.heap.objs.size f cd))) (hg : A.guards = some [])
    (hf : ∀ fi ∈ G.fns, fi.lev ≤ k → ∃ a fd, FOk D P w mg base fi a fd) (hb : ∀ x ∈ G.bn, mg x = none) (hc : ∀ p ∈ G.cst, ∃ u v, mg p.1 = some u ∧ RelV v u ∧ ∀ H rho, Rep D H rho p.2 v) (hx : ∀ k x b, G.cls[k]? = some (x, b) → ClsF D mg G.cls k x b) (how : ∀ k ∈ G.ini, ∃ x b, G.cls[k]? = some (x, b) ∧ OwnI P w D.K mg base (D.cl k) ∧ XfC D.K (D.cl k)) (hoc : ∀ k x fs, G.ocs[k]? = some (x, fs) → OcF D mg k x fs) :
    COk D G ⟨N, sc, k⟩ (cxOf (CXM P w) P w D.K mg base N qual sc f cd A outer s H E) (fun cls d _ H => E cls d H) :=
  ⟨rfl, hw, rfl, ScOk.refl, S.nd, rfl, S.kind, hg, hr, takesM_of rfl rfl rfl rfl, passes_of rfl, fun _ _ => .inl rfl, hf, hb, hc, hx, how, hoc⟩
/-- a def keeps its promise -/
theorem fn_ok {x qual : Str} {params : Arguments} {bd : List Stmt} {sc : Scope} {dvs : List V} {kws : List (Str × V)} {f : Addr} {fd : FuncData} {d : FD} {k : Nat} (hw : w = D.w) (F : FunD D.K x qual params bd sc dvs kws f fd) (S : FnScope d.N d.ps sc) (hbody : bd = toSs d.body) (hlev : d.lev = k + 1)
    (hwf : wfSs G d.body ⟨d.N, sc, k⟩ true = true) (hf : ∀ fi ∈ G.fns, fi.lev ≤ k → ∃ a fd, FOk D P w mg base fi a fd) (hb : ∀ x ∈ G.bn, mg x = none) (hc : ∀ p ∈ G.cst, ∃ u v, mg p.1 = some u ∧ RelV v u ∧ ∀ H rho, Rep D H rho p.2 v) (hx : ∀ k x b, G.cls[k]? = some (x, b) → ClsF D mg G.cls k x b) (how : ∀ k ∈ G.ini, ∃ x b, G.cls[k]? = some (x, b) ∧ OwnI P w D.K mg base (D.cl k) ∧ XfC D.K (D.cl k)) (hoc : ∀ k x fs, G.ocs[k]? = some (x, fs) → OcF D mg k x fs) :
    FnG P w D.K mg base d.lev f fd d.ps (spOf D (d.fi G)) := by
  obtain ⟨oc, od, dV, kV, doc, pm, an, cdv, ct, osl, rfl, look, code, _, _⟩ := F.ex
  rw [hlev]
  refine ⟨fun A outer s H args us vs Q E hr hg e0 hn hbind rv hsp => ?_⟩
  -- what stands in the heap
  have inK : D.K.In s.heap := e0.mod.kin.keeps fun a o q => (e0.bs a o q).1
  have noLim : s.heap.NoLimit := e0.mod.nolimit.keeps fun a o q => (e0.bs a o q).1
  have stores : ∀ y ∈ d.ps.zip us, sc.names.lookup y.1 = some .local ∨ (sc.names.lookup y.1 = some .cell ∧ ((cellsFrom (s.heap.objs.size + 1) sc.names []).lookup y.1).isSome = true) := by
    rintro ⟨nm, vv⟩ hy
    have hm : nm ∈ d.ps := (List.of_mem_zip hy).1
    exact (S.par nm hm).elim Or.inl fun q => Or.inr ⟨q, PySem.W.cellsFrom_some _ _ _ (Or.inl q)⟩
  refine codeAny_call_function hr.depth (inK f _ look) rfl S.co S.gen rfl (PySem.W.codeRec_of inK code) (hbind _ _ _ _ ?_)
  refine wpAny_newFunctionEnv_cells S.kind stores fun env he s1 entered => ?_
  subst he
  refine ⟨noLim.keeps entered.toInCall.keep, codeAny_func ?_⟩
  have I0 : Inv (cxOf (CXM P w) P w D.K mg base d.N qual sc f cdv A outer s H E) [] (L2.start d.N vs) H s1 := inv_start S hr.hd e0 hn rv entered
  have body := simSs d.body _ (cxOf (CXM P w) P w D.K mg base d.N qual sc f cdv A outer s H E) (fun cls d _ H => E cls d H) true (cx_ok hw S (hr.deeper _) hg hf hb hc hx how hoc) ⟨rfl, rfl, fun _ => L2H.passesAt_of rfl⟩ hwf
  obtain ⟨xs, M, rho, st0, rx, hx, hq⟩ := hsp
  have start0 : tsOf D (fun cls d _ H => E cls d H) (evSs G d.body) { nx := fun _ H' => Q .non H', rt := Q } (L2.start d.N vs) H := ⟨_, M, rho, start_rel (n := 0) st0 rx, SOK.run (E := { nx := fun _ H' => Q .non H', rt := Q }) hq⟩
  have goal_ := body.run [] s1 (L2.start d.N vs) H _ I0 start0
  rw [← hbody] at goal_
  refine wpAny_mono goal_ (fun fl s' done => ?_) fun _ _ z => z
  match fl, done with
  | .ret u, ⟨v, sg, H', J, rv', q⟩ => exact ⟨v, H', J.os, J.bare, J.base, J.hok, rv', q⟩
  | .next, ⟨sg, H', J, q⟩ => exact ⟨V.non, H', J.os, J.bare, J.base, J.hok, rfl, q⟩
  | .brk, ⟨_, _, _, q⟩ => exact False.elim q
  | .cont, ⟨_, _, _, q⟩ => exact False.elim q
end
end
end SW

/-! The table of a text's defs; the law. -/
namespace SW
open PySem PySem.Spec PyProof.Rows L2

def grow (G : Glb) (d : FD) : Glb := { G with fns := G.fns ++ [d.fi G] }
abbrev TRow := FD × He.DefD
def scopeB (N ps : List Str) (sc : Scope) : Bool :=
  decide (sc.kind = .function) && decide (sc.isCoroutine = false) && decide (sc.isGenerator = false) && decide N.Nodup && decide (N.take ps.length = ps) &&
    (ps.all fun x => decide (sc.names.lookup x = some .local) || decide (sc.names.lookup x = some .cell)) && (sc.names.all fun y => decide (y.2 ≠ .free))
theorem scope_of {N ps : List Str} {sc : Scope} (h : scopeB N ps sc = true) : FnScope N ps sc := by
  unfold scopeB at h
  simp only [Bool.and_eq_true, decide_eq_true_eq, List.all_eq_true, Bool.or_eq_true] at h
  obtain ⟨⟨⟨⟨⟨⟨h1, h2⟩, h3⟩, h4⟩, h5⟩, h6⟩, h7⟩ := h
  exact ⟨h1, h2, h3, h4, h5, h6, h7⟩
/-- how values are bound to the parameters: no default, or one at the end -/
inductive BdOk (r : TRow) : Prop
  | no : r.1.dv = none → r.2.dfl = [] → (∀ (kV doc pm : Value) (an : Option Addr) (cdv ct : Value) (us : List Value), us.length = r.1.ps.length → bindArgs (PySem.W.fnOf r.2.name r.2.qual r.2.params r.2.body r.2.scope .none kV doc pm an cdv ct) ⟨us, []⟩ = pure (r.1.ps.zip us)) → BdOk r
  | one (i : Int) : r.1.dv = some (.int i) → r.2.dfl = [.int i] → 1 ≤ r.1.ps.length →
    (∀ (T : Addr) (kV doc pm : Value) (an : Option Addr) (cdv ct : Value) (us its : List Value), us.length = r.1.ps.length → its.length = 1 →
      ∃ k, bindArgs (PySem.W.fnOf r.2.name r.2.qual r.2.params r.2.body r.2.scope (.ref T) kV doc pm an cdv ct) ⟨us, []⟩ = seqItems? (.ref T) >>= k ∧ k (some its.toArray) = pure (r.1.ps.zip (us ++ its.drop 1))) →
    (∀ (T : Addr) (kV doc pm : Value) (an : Option Addr) (cdv ct : Value) (us its : List Value), us.length = r.1.ps.length - 1 → its.length = 1 →
      ∃ k, bindArgs (PySem.W.fnOf r.2.name r.2.qual r.2.params r.2.body r.2.scope (.ref T) kV doc pm an cdv ct) ⟨us, []⟩ = seqItems? (.ref T) >>= k ∧ k (some its.toArray) = pure (r.1.ps.zip (us ++ its.drop 0))) → BdOk r
/-- where a def stands: at the top, or in a plain class -/
inductive Whr (fa : List He.Fa) (G : Glb) (r : TRow) : Prop
  | top : r.1.ow = none → r.2.at_ = (r.1.nm, none) → He.Fa.glo r.1.nm ∈ fa → Whr fa G r
  | mth (k : Nat) (x : Str) (fs : List Str) (m : Str) : r.1.ow = some (k, m) → G.ocs[k]? = some (x, fs) → r.2.at_ = (x, some m) → He.Fa.meth x m ∈ fa → Whr fa G r
/-- what is shown of each def -/
structure DefOk (fa : List He.Fa) (fn : List He.DefD) (G : Glb) (r : TRow) : Prop where
  sc : scopeB r.1.N r.1.ps r.2.scope = true
  body : r.2.body = toSs r.1.body
  wf : wfSs G r.1.body ⟨r.1.N, r.2.scope, r.1.lev - 1⟩ true = true
  lev : 1 ≤ r.1.lev
  bd : BdOk r
  mem : r.2 ∈ fn
  wh : Whr fa G r
inductive Chain (fa : List He.Fa) (fn : List He.DefD) : Glb → List TRow → Prop
  | nil {G : Glb} : Chain fa fn G []
  | cons {G : Glb} {r : TRow} {rs : List TRow} : DefOk fa fn G r → Chain fa fn (grow G r.1) rs → Chain fa fn G (r :: rs)
def whole (G : Glb) (rs : List TRow) : Glb := rs.foldl (fun G r => grow G r.1) G
section
variable {fa : List He.Fa} {fn : List He.DefD} {D : Wd} {P : Program} {w : World} {mg : Str → Option Value} {base : Heap}
theorem row_ok {G : Glb} {r : TRow} (hw : w = D.w) (ok : DefOk fa fn G r) (c : He.SaysD fa fn D.K) (X : D.K.In base) (N : base.Ns mainGlobals mg) (hG : ∀ fi ∈ G.fns, ∃ a fd, FOk D P w mg base fi a fd) (hb : ∀ x ∈ G.bn, mg x = none)
    (hc : ∀ p ∈ G.cst, ∃ u v, mg p.1 = some u ∧ RelV v u ∧ ∀ H rho, Rep D H rho p.2 v) (hx : ∀ k x b, G.cls[k]? = some (x, b) → ClsF D mg G.cls k x b) (how : ∀ k ∈ G.ini, ∃ x b, G.cls[k]? = some (x, b) ∧ OwnI P w D.K mg base (D.cl k) ∧ XfC D.K (D.cl k)) (hoc : ∀ k x fs, G.ocs[k]? = some (x, fs) → OcF D mg k x fs) (hoa : ∀ k x fs, G.ocs[k]? = some (x, fs) → D.oc k = He.ga D.K x) : ∃ a fd, FOk D P w mg base (r.1.fi G) a fd ∧ (r.1.dv = none → ∀ (s : Shared) (us : List Value), us.length = r.1.ps.length → BindsTo s fd ⟨us, []⟩ (r.1.ps.zip us)) := by
  obtain ⟨fd, F⟩ := c.defs ok.mem
  have gl : r.1.ow = none → mg r.1.nm = some (.ref (He.fAd D.K r.2.at_)) := fun e => by
    rcases ok.wh with ⟨_, h2, h3⟩ | ⟨_, _, _, _, h1, _⟩
    · rw [h2]; exact He.glo_ok X N (c.facts h3)
    · rw [e] at h1; cases h1
  have gm : ∀ k m, r.1.ow = some (k, m) → Meth D.K (D.oc k) m (He.fAd D.K r.2.at_) ∧ Cls D.K (D.oc k) := fun k m e => by
    rcases ok.wh with ⟨h1, _⟩ | ⟨k2, x, fs, m2, h1, h2, h3, h4⟩
    · rw [e] at h1; cases h1
    · rw [e] at h1
      cases h1
      rw [h3, hoa k x fs h2]
      refine ⟨He.meth_ok (c.facts h4), ?_⟩
      rw [← hoa k x fs h2]
      exact (hoc k x fs h2).cl
  have fn_ := fn_ok (P := P) (w := w) (mg := mg) (base := base) hw F (scope_of ok.sc) ok.body (k := r.1.lev - 1) (by have := ok.lev; omega) ok.wf (fun fi hfi _ => hG fi hfi) hb hc hx how hoc
  rcases ok.bd with ⟨e1, e2, h⟩ | ⟨i, e1, e2, hp, h1, h2⟩
  · have dv : r.2.dvs D.K = [] := by unfold He.DefD.dvs; rw [e2]; rfl
    rw [dv] at F
    exact ⟨He.fAd D.K r.2.at_, fd, ⟨gl, gm, F.kp, F.bindsN h, fun d e => (by have e : r.1.dv = some d := e; rw [e1] at e; cases e), fn_⟩, fun _ => F.bindsA h⟩
  · have dv : r.2.dvs D.K = [V.int i] := by unfold He.DefD.dvs; rw [e2]; rfl
    rw [dv] at F
    obtain ⟨ds, rd, b1⟩ := F.binds1 (ps := r.1.ps) r.1.ps.length 1 (by simp) (by simp) h1
    obtain ⟨es, re, b2⟩ := F.binds1 (ps := r.1.ps) (r.1.ps.length - 1) 0 (by simp) (by simp; omega) h2
    have rd : Vals [] ds := rd
    have re : Vals [V.int i] es := re
    cases rd
    cases re with
    | cons r1 r2 =>
      cases r2
      exact ⟨He.fAd D.K r.2.at_, fd, ⟨gl, gm, F.kp, b1, fun d e => by
        have e : r.1.dv = some d := e
        rw [e1] at e; cases e
        exact ⟨_, _, r1, fun H rho => rep_int.mpr rfl, b2⟩, fn_⟩, fun z => by rw [e1] at z; cases z⟩
theorem grow_bn (G : Glb) (d : FD) : (grow G d).bn = G.bn := rfl
theorem grow_cst (G : Glb) (d : FD) : (grow G d).cst = G.cst := rfl
theorem grow_ocs (G : Glb) (d : FD) : (grow G d).ocs = G.ocs := rfl
theorem grow_cls (G : Glb) (d : FD) : (grow G d).cls = G.cls := rfl
/-- all defs, and the last one -/
theorem chain_ok (hw : w = D.w) (c : He.SaysD fa fn D.K) (X : D.K.In base) (N : base.Ns mainGlobals mg) : ∀ {G : Glb} {rs : List TRow}, Chain fa fn G rs → (∀ fi ∈ G.fns, ∃ a fd, FOk D P w mg base fi a fd) → (∀ x ∈ G.bn, mg x = none) →
    (∀ p ∈ G.cst, ∃ u v, mg p.1 = some u ∧ RelV v u ∧ ∀ H rho, Rep D H rho p.2 v) → (∀ k x b, G.cls[k]? = some (x, b) → ClsF D mg G.cls k x b) → (∀ k ∈ G.ini, ∃ x b, G.cls[k]? = some (x, b) ∧ OwnI P w D.K mg base (D.cl k) ∧ XfC D.K (D.cl k)) → (∀ k x fs, G.ocs[k]? = some (x, fs) → OcF D mg k x fs) → (∀ k x fs, G.ocs[k]? = some (x, fs) → D.oc k = He.ga D.K x) → ∀ (init : List TRow) (r : TRow), rs = init ++ [r] →
    ∃ a fd, FOk D P w mg base (r.1.fi (whole G init)) a fd ∧ (r.1.dv = none → ∀ (s : Shared) (us : List Value), us.length = r.1.ps.length → BindsTo s fd ⟨us, []⟩ (r.1.ps.zip us))
  | G, _, .nil, _, _, _, _, _, _, _, init, r, e => by cases init <;> cases e
  | G, _, .cons (r := r0) (rs := rs) ok ch, hG, hb, hc, hx, how, hoc, hoa, init, r, e => by
    obtain ⟨a, fd, F, B⟩ := row_ok (P := P) (w := w) hw ok c X N hG hb hc hx how hoc hoa
    cases init with
    | nil =>
      rw [List.nil_append] at e
      obtain ⟨rfl, rfl⟩ := List.cons.inj e
      exact ⟨a, fd, F, B⟩
    | cons i init =>
      obtain ⟨rfl, e2⟩ := List.cons.inj e
      refine chain_ok hw c X N ch (fun fi hfi => ?_) hb hc hx how hoc hoa init r e2
      rcases List.mem_append.mp hfi with q | q
      · exact hG fi q
      · rw [List.mem_singleton.mp q]
        exact ⟨a, fd, F⟩
end

/-- nothing of the top binds these -/
theorem free_all {fa : List He.Fa} {fn : List He.DefD} {K : PySem.W.Frag} {h : Heap} {mg : Str → Option Value} (c : He.SaysD fa fn K) (X : K.In h) (N : h.Ns mainGlobals mg) {bn : List Str} (hf : ∀ x ∈ bn, He.Fa.free x ∈ fa) : ∀ x ∈ bn, mg x = none :=
  fun x hx => He.free_ok X N (c.facts (hf x hx))

/-! ### the module's constants -/
def dvO : PV → Option He.Dv
  | .non => some .non
  | .bl b => some (.bl b)
  | .int i => some (.int i)
  | .str z => some (.str ⟨z.toArray⟩)
  | _ => none
def cstB (K : PySem.W.Frag) (p : Str × PV) : Bool := match p.2 with
  | .int i => (He.Fa.int p.1 i).ok K
  | .str z => (He.Fa.str p.1 ⟨z.toArray⟩).ok K
  | .tup xs => (match mapO dvO xs with
    | some ds => (He.Fa.glo p.1).ok K && He.tupB K p.1 ds
    | none => false)
  | _ => false
theorem dvs_rep {D : Wd} {H : Hp} {rho : List Addr} : ∀ {xs : List PV} {ds : List He.Dv}, mapO dvO xs = some ds → RepL D H rho xs (ds.map (He.Dv.v D.K))
  | [], ds, h => by cases h; exact repL_nil.mpr rfl
  | x :: xs, ds, h => by
    simp only [mapO] at h
    split at h
    · rename_i d es e1 e2
      cases h
      refine repL_cons.mpr ⟨_, _, rfl, ?_, dvs_rep e2⟩
      cases x <;> simp only [dvO] at e1 <;> first | (cases e1; done) | (cases e1; first | exact rep_non.mpr rfl | exact rep_bl.mpr rfl | exact rep_int.mpr rfl | exact rep_str.mpr rfl)
    · cases h
theorem cst_ok {D : Wd} {base : Heap} {mg : Str → Option Value} (X : D.K.In base) (N : base.Ns mainGlobals mg) {p : Str × PV} (h : cstB D.K p = true) : ∃ u v, mg p.1 = some u ∧ RelV v u ∧ ∀ H rho, Rep D H rho p.2 v := by
  obtain ⟨x, v⟩ := p
  cases v <;> simp only [cstB] at h <;> first | (cases h; done) | skip
  · obtain ⟨t, e⟩ := He.int_ok X N h
    exact ⟨_, V.int _, e, ⟨t, rfl⟩, fun H rho => rep_int.mpr rfl⟩
  · obtain ⟨t, e⟩ := He.str_ok X N h
    exact ⟨_, V.str _, e, ⟨t, rfl⟩, fun H rho => rep_str.mpr rfl⟩
  · split at h
    · rename_i ds hd
      rw [Bool.and_eq_true] at h
      exact ⟨_, .ref (He.ga D.K x), He.glo_ok X N h.1, rfl, fun H rho => rep_tup.mpr ⟨_, _, rfl, He.tupB_ok h.2 H, dvs_rep hd⟩⟩
    · cases h
/-! ### the module's exception classes -/
def clA (cls : List (Str × Bool)) (K : PySem.W.Frag) (k : Nat) : Addr := He.ga K (cls.getD k (Str.empty, false)).1
def ecB (K : PySem.W.Frag) (C : Addr) : Bool :=
  decide (PySem.W.findIn K (.ref C) "__getattribute__" = some (some (.builtin "BaseException.__getattribute__"))) && (decide (PySem.W.findIn K (.ref C) "__getattr__" = some none) && (PySem.W.hasDictIn K C &&
    (decide (PySem.W.findIn K (.ref C) "__class__" = some (some (.builtin "object.__class__"))) && (decide (PySem.W.specialIn K (.builtin "object.__class__") "__get__" = some (some (.builtin "getset_descriptor.__get__"))) &&
    (decide (PySem.W.takesIn K (.builtin "object.__class__") = some true) && decide (PySem.W.mroIn K C (.type "object") = some true))))))
/-- what is asked of the class k -/
def cls1B (cls : List (Str × Bool)) (K : PySem.W.Frag) (k : Nat) (p : Str × Bool) : Bool :=
  (He.Fa.glo p.1).ok K && (decide (PySem.W.subIn K (.ref (He.ga K p.1)) (.type "BaseException") = some true) && (decide (PySem.W.typeIn K (.ref (He.ga K p.1)) = some (.type "type")) &&
    ((!p.2 || (PySem.W.excIn K (He.ga K p.1) He.veBase "ValueError.__new__" && PySem.W.keepIn K (.ref (He.ga K p.1)))) &&
    (((List.range cls.length).all fun i => decide (PySem.W.exmOne K (.ref (clA cls K i)) (.ref (He.ga K p.1)) = some (hitC i (some k)))) &&
    (((List.range cls.length).all fun i => decide (PySem.W.kitOne K (.ref (clA cls K i)) (.ref (He.ga K p.1)) = some (hitC i (some k)))) &&
    (decide (PySem.W.kitOne K (.ref (He.ga K p.1)) (.type "ValueError") = some true) && ecB K (He.ga K p.1)))))))
def clsB (cls : List (Str × Bool)) (K : PySem.W.Frag) : Bool := (List.range cls.length).all fun k => cls1B cls K k (cls.getD k (Str.empty, false))
theorem bb {a b : Bool} (h : (a && b) = true) : a = true ∧ b = true := Bool.and_eq_true_iff.mp h
theorem ecB_ok {K : PySem.W.Frag} {C : Addr} (h : ecB K C = true) (hs : PySem.W.subIn K (.ref C) (.type "BaseException") = some true) : ExcC K C := by
  obtain ⟨h1, h⟩ := bb h
  obtain ⟨h2, h⟩ := bb h
  obtain ⟨h3, h⟩ := bb h
  obtain ⟨h4, h⟩ := bb h
  obtain ⟨h5, h⟩ := bb h
  obtain ⟨h6, h7⟩ := bb h
  exact ⟨of_decide_eq_true h1, of_decide_eq_true h2, hs, h3, of_decide_eq_true h4, of_decide_eq_true h5, of_decide_eq_true h6, of_decide_eq_true h7⟩
theorem cls_ok {cls : List (Str × Bool)} {K : PySem.W.Frag} {base : Heap} {mg : Str → Option Value} {w : World} {oc : Nat → Addr} (X : K.In base) (N : base.Ns mainGlobals mg) (h : clsB cls K = true) :
    ∀ k x b, cls[k]? = some (x, b) → ClsF ⟨K, clA cls K, w, oc⟩ mg cls k x b := by
  intro k x b e
  have hk : k < cls.length := (List.getElem?_eq_some_iff.mp e).1
  have h1 := List.all_eq_true.mp h k (List.mem_range.mpr hk)
  have eg : cls.getD k (Str.empty, false) = (x, b) := by rw [List.getD_eq_getElem?_getD, e]; rfl
  have ea : clA cls K k = He.ga K x := by unfold clA; rw [eg]
  rw [eg] at h1
  obtain ⟨h2, h1⟩ := bb h1
  obtain ⟨h3, h1⟩ := bb h1
  obtain ⟨h4, h1⟩ := bb h1
  obtain ⟨h5, h1⟩ := bb h1
  obtain ⟨h6, h1⟩ := bb h1
  obtain ⟨h7, h1⟩ := bb h1
  obtain ⟨h8, h9⟩ := bb h1
  have s1 := of_decide_eq_true h3
  refine ⟨?_, ⟨?_, ?_⟩, fun hb => ?_, fun i hi => ?_, fun i hi => ?_, ?_, ?_⟩
  · show mg x = some (.ref (clA cls K k)); rw [ea]; exact He.glo_ok X N h2
  · show PySem.W.subIn K (.ref (clA cls K k)) _ = _; rw [ea]; exact s1
  · show PySem.W.typeIn K (.ref (clA cls K k)) = _; rw [ea]; exact of_decide_eq_true h4
  · subst hb
    have h5 := bb (show (PySem.W.excIn K (He.ga K x) He.veBase "ValueError.__new__" && PySem.W.keepIn K (.ref (He.ga K x))) = true from h5)
    show PySem.W.excIn K (clA cls K k) _ _ = true ∧ PySem.W.keepIn K (.ref (clA cls K k)) = true
    rw [ea]; exact h5
  · show PySem.W.exmOne K (.ref (clA cls K i)) (.ref (clA cls K k)) = _
    rw [ea]; exact of_decide_eq_true (List.all_eq_true.mp h6 i (List.mem_range.mpr hi))
  · show PySem.W.kitOne K (.ref (clA cls K i)) (.ref (clA cls K k)) = _
    rw [ea]; exact of_decide_eq_true (List.all_eq_true.mp h7 i (List.mem_range.mpr hi))
  · show PySem.W.kitOne K (.ref (clA cls K k)) _ = _; rw [ea]; exact of_decide_eq_true h8
  · show ExcC K (clA cls K k); rw [ea]; exact ecB_ok h9 s1
/-! ### the classes with an own __init__ -/
def oexB (K : PySem.W.Frag) (C : Addr) : Bool := (match K.lookup C with
  | some ⟨.type "type", _, .cls cd, sl⟩ => (match cd.mro, sl.toList with
    | .ref C' :: bm, [_, _, _, _, some (.builtin n), _] => C' == C && (n == "ValueError.__new__" && (!cd.hasDel && (cd.hasDict && PySem.HandSPX.refsVE bm)))
    | _, _ => false)
  | _ => false) && (decide (PySem.W.findIn K (.ref C) "__setattr__" = some (some (.builtin "object.__setattr__"))) && (decide (PySem.W.subIn K (.ref C) (.type "BaseException") = some true) &&
    (decide (PySem.W.typeIn K (.ref C) = some (.type "type")) && PySem.W.keepIn K (.ref C))))
theorem oexB_ok {K : PySem.W.Frag} {C : Addr} (h : oexB K C = true) : OexC K C := by
  unfold oexB at h
  obtain ⟨h0, h⟩ := bb h
  obtain ⟨h1, h⟩ := bb h
  obtain ⟨h2, h⟩ := bb h
  obtain ⟨h3, h4⟩ := bb h
  refine ⟨?_, of_decide_eq_true h1, of_decide_eq_true h2, of_decide_eq_true h3, h4⟩
  split at h0
  · rename_i dd cd sl ho
    split at h0
    · rename_i C2 bm j0 j1 j2 j3 n j5 hm hs
      simp only [Bool.and_eq_true, beq_iff_eq, Bool.not_eq_true'] at h0
      obtain ⟨rfl, rfl, hdel, hdc, hr⟩ := h0
      obtain ⟨nm, bs, mro, ns, qn, hd, sn, sub, ab, col, del⟩ := cd
      dsimp only at hm hdel hdc
      subst hm hdel hdc
      have hsl : sl = #[j0, j1, j2, j3, some (.builtin "ValueError.__new__"), j5] := by
        obtain ⟨l⟩ := sl
        simp only at hs
        rw [hs]
      subst hsl
      exact ⟨nm, qn, ns, bs, bm, sn, sub, ab, col, dd, j0, j1, j2, j3, j5, ho, hr⟩
    · cases h0
  · cases h0
def baseB (K : PySem.W.Frag) (C : Addr) : Bool := decide (PySem.W.specialIn K (.ref C) "__getattribute__" = some (some (.builtin "type.__getattribute__"))) && (PySem.W.readsIn K C (.type "type") &&
  (decide (PySem.W.typeIn K (.ref C) = some (.type "type")) && (match PySem.W.findCls K (.ref C) (.type "type") "__init__" with
    | some (.val (.builtin n)) => n == "ValueError.__init__"
    | _ => false)))
theorem baseB_ok {K : PySem.W.Frag} {C : Addr} {mg : Str → Option Value} {x : Str} (at_ : mg x = some (.ref C)) (h : baseB K C = true) : BaseI K mg x C := by
  obtain ⟨h1, h⟩ := bb h
  obtain ⟨h2, h⟩ := bb h
  obtain ⟨h3, h4⟩ := bb h
  refine ⟨at_, of_decide_eq_true h1, h2, of_decide_eq_true h3, ?_⟩
  split at h4
  · rename_i n e
    rw [e, beq_iff_eq.mp h4]
  · cases h4
def ini1B (K : PySem.W.Frag) (C : Addr) : Bool := oexB K C && (decide (PySem.W.findIn K (.ref C) "at" = some none) && (decide (PySem.W.findIn K (.ref C) "__init__" = some (some (.ref (He.ma K C "__init__")))) &&
  (decide (PySem.W.typeIn K (.ref (He.ma K C "__init__")) = some (.type "function")) && xfB K C)))
def iniB (G : Glb) (K : PySem.W.Frag) : Bool := G.ini.isEmpty || ((He.Fa.glo "SummitError").ok K && (baseB K (He.ga K "SummitError") && G.ini.all fun k => ini1B K (clA G.cls K k)))
/-- a statement of a class -/
def inCls (s : Stmt) (j : Nat) : Stmt := match s with
  | .ClassDef _ _ _ b _ _ _ _ _ _ _ => b.getD j (.Pass ⟨0, 0, 0, 0⟩)
  | s => s
/-- what the text says of such a class -/
structure IniOk (fn : List He.DefD) (G : Glb) (k : Nat) (x : Str) (d : He.DefD) (b : InitP) : Prop where
  cl : G.cls[k]? = some (x, false)
  mem : d ∈ fn
  at_ : d.at_ = (x, some ("__init__" : Str))
  bd : d.body = b.body
  ev : b.ev
  sc : InitSc d.scope
  df : d.dfl = []
  bi : ∀ (kV doc pm : Value) (an : Option Addr) (cdv ct : Value) (us : List Value), us.length = initN.length → bindArgs (PySem.W.fnOf d.name d.qual d.params d.body d.scope .none kV doc pm an cdv ct) ⟨us, []⟩ = pure (initN.zip us)
theorem ini_ok {fa : List He.Fa} {fn : List He.DefD} {G : Glb} {K : PySem.W.Frag} {P : Program} {w : World} {mg : Str → Option Value} {base : Heap} (X : K.In base) (N : base.Ns mainGlobals mg) (c : He.SaysD fa fn K) (h : iniB G K = true) (hi : ∀ k ∈ G.ini, ∃ x d b, IniOk fn G k x d b) :
    ∀ k ∈ G.ini, ∃ x b, G.cls[k]? = some (x, b) ∧ OwnI P w K mg base (clA G.cls K k) ∧ XfC K (clA G.cls K k) := by
  intro k hk
  obtain ⟨x, d, b, O⟩ := hi k hk
  unfold iniB at h
  have h2 : ((He.Fa.glo "SummitError").ok K && (baseB K (He.ga K "SummitError") && G.ini.all fun k => ini1B K (clA G.cls K k))) = true := by
    rcases Bool.or_eq_true_iff.mp h with z | z
    · rw [List.isEmpty_iff] at z
      rw [z] at hk; cases hk
    · exact z
  obtain ⟨g, h2⟩ := bb h2
  obtain ⟨bs, h2⟩ := bb h2
  have h3 := List.all_eq_true.mp h2 k hk
  obtain ⟨h4, h3⟩ := bb h3
  obtain ⟨h5, h3⟩ := bb h3
  obtain ⟨h6, h3⟩ := bb h3
  obtain ⟨h7, h8⟩ := bb h3
  have eg : clA G.cls K k = He.ga K x := by
    unfold clA
    rw [List.getD_eq_getElem?_getD, O.cl]
    rfl
  obtain ⟨fd, F⟩ := c.defs O.mem
  have dv : d.dvs K = [] := by unfold He.DefD.dvs; rw [O.df]; rfl
  have ea : He.fAd K d.at_ = He.ma K (clA G.cls K k) "__init__" := by rw [O.at_, eg]; rfl
  rw [dv, ea] at F
  exact ⟨x, false, O.cl, own_ok F O.bd O.ev O.sc (F.bindsN O.bi) (baseB_ok (He.glo_ok X N g) bs) (oexB_ok h4) (of_decide_eq_true h5) (of_decide_eq_true h6) (of_decide_eq_true h7), xfB_ok h8⟩
abbrev AlP : Type := He.AlD × Bool
def obsP (n : Nat) (fa : List He.Fa) (fn : List He.DefD) (ex : PySem.W.Frag → Bool) (g : Addr → Option Obj) : AlP := (He.obsD fa fn (He.frG g (cStatics :: He.asD g n)), ex (He.frG g (cStatics :: He.asD g n)))
def hookP (n : Nat) (fa : List He.Fa) (fn : List He.DefD) (ex : PySem.W.Frag → Bool) : PySem.W.Hook where
  α := AlP
  obs := fun s => obsP n fa fn ex s.heap.get?
  val := fun _ => (He.valD fn, true)
  says := fun _ h => ∃ K : PySem.W.Frag, K.In h ∧ He.SaysD fa fn K ∧ ex K = true
  of := fun _ _ e => ⟨_, He.frG_in, congrArg (fun z : AlP => z.1) e, congrArg (fun z : AlP => z.2) e⟩
  keeps := fun _ _ _ ⟨K, hK, c⟩ k => ⟨K, PySem.W.Frag.In.keeps hK k, c⟩
theorem obsP_eq {n : Nat} {fa : List He.Fa} {fn : List He.DefD} {ex : PySem.W.Frag → Bool} {g : Addr → Option Obj} {s : Shared} (h : ∀ a, g a = s.heap.get? a) : obsP n fa fn ex g = (hookP n fa fn ex).obs s := by
  have e : g = s.heap.get? := funext h
  rw [e] <;> rfl

theorem ints_lie {D : Wd} {H : Hp} {rho : List Addr} : ∀ ns : List Int, RepL D H rho (ns.map PV.int) (ns.map V.int)
  | [] => repL_nil.mpr rfl
  | z :: zs => repL_cons.mpr ⟨.int z, zs.map V.int, rfl, rep_int.mpr rfl, ints_lie zs⟩
/-! ### plain classes -/
def ocA (ocs : List (Str × List Str)) (K : PySem.W.Frag) (k : Nat) : Addr := He.ga K (ocs.getD k (Str.empty, [])).1
def OcFa (fa : List He.Fa) (r : Str × List Str) : Prop := He.Fa.glo r.1 ∈ fa ∧ He.Fa.cls r.1 ∈ fa ∧ He.Fa.mkr r.1 ∈ fa ∧ ∀ f ∈ r.2, He.Fa.noat r.1 f ∈ fa
theorem oc_at {ocs : List (Str × List Str)} {K : PySem.W.Frag} {k : Nat} {x : Str} {fs : List Str} (h : ocs[k]? = some (x, fs)) : ocA ocs K k = He.ga K x := by
  unfold ocA
  rw [List.getD_eq_getElem?_getD, h]
  rfl
theorem oc_ok {fa : List He.Fa} {fn : List He.DefD} {D : Wd} {ocs : List (Str × List Str)} {base : Heap} {mg : Str → Option Value} (X : D.K.In base) (N : base.Ns mainGlobals mg) (c : He.SaysD fa fn D.K) (ha : D.oc = ocA ocs D.K) (h : ∀ r ∈ ocs, OcFa fa r) :
    ∀ k x fs, ocs[k]? = some (x, fs) → OcF D mg k x fs := by
  intro k x fs e
  obtain ⟨h1, h2, h3, h4⟩ := h _ (List.mem_of_getElem? e)
  have ea : D.oc k = He.ga D.K x := by rw [ha]; exact oc_at e
  have M := He.mkr_ok (c.facts h3)
  refine ⟨?_, ?_, fun f hf => ?_, ?_, ?_⟩
  · rw [ea]; exact He.glo_ok X N (c.facts h1)
  · rw [ea]; exact He.cls_ok (c.facts h2)
  · rw [ea]; exact He.noat_ok (c.facts (h4 f hf))
  · rw [ea]; exact M.makes
  · rw [ea]; exact M.kp
/-- THE END: the law's run -/
theorem law_end {l : PySem.W.OpenLaw} {n m k : Nat} {q : Program} {loose : List Str} {XP : (Str → Option Value) → Heap → Prop} {d : DefRec} {fa : List He.Fa} {fn : List He.DefD} {x : Str} {G : Glb} {init : List TRow} {r : TRow} {ex : PySem.W.Frag → Bool}
    (hn : l.most = some n) (hz : n ≤ sizeLine) (hdf : d.params.defaults = []) (hk : Room k callerA) (hr : r.1.lev = k) (hps : r.1.ps = [x]) (hdv : r.1.dv = none) (hov : r.1.ow = none) (hnm : d.name = r.1.nm) (hG : G.fns = []) (ch : Chain fa fn G (init ++ [r]))
    (hbn : ∀ x ∈ G.bn, He.Fa.free x ∈ fa) (hcst : ∀ K : PySem.W.Frag, ex K = true → (∀ p ∈ G.cst, cstB K p = true) ∧ clsB G.cls K = true ∧ iniB G K = true) (hini : ∀ k ∈ G.ini, ∃ x d b, IniOk fn G k x d b) (hocs : ∀ r ∈ G.ocs, OcFa fa r)
    (sim : ∀ ns : List Int, ns.length ≤ n → ∃ M, (r.1.fi (whole G init)).run [.loc 0] [.frz (ns.map PV.int)] = .ok (.bl true) M) :
    PySem.W.WalkO q loose XP (hookP m fa fn ex).says l.row.toRowW d [] (fun f vs => PySem.call f vs) := by
  refine Att.attach_call hn hdf fun w s₀ s1 mg mb f o pm cd doc a vs ns Gr Y ho hd hcd hmg script hints len gens => ?_
  obtain ⟨K, inK, says, exK⟩ := Y
  have room : ns.length ≤ sizeLine := Nat.le_trans len hz
  have nsG := Gr.T.g
  have nsB := Gr.T.b
  have vals := vals_ints hints
  have vlen := hints.length
  -- the law, over a heap H that knows of the script alone
  have core : ∀ H : Hp, (∀ b, H b ≠ none → b = a ∧ K.lookup a = none) → FrzL ⟨K, clA G.cls K, w, ocA G.ocs K⟩ H a (ns.map V.int) → HOk l.prog w H s1.heap → (∀ b o, s1.heap.get? b = some o → H b ≠ none → ∃ ob u, H b = some (.frz ob u)) →
      codeAny (model l.prog w) callerA (.call (.ref f) ⟨[.ref a], []⟩) (fun res s' => res = .ok (.ret (.bool true)) ∧ OldK s1.heap s'.heap ∧ s'.os = s1.os ∧ AllBare s'.gens) s1 := by
    intro H only fz hok locked
    have under : ∀ {b : Addr} {ob : Obj}, s1.heap.get? b = some ob → H b = none → (hidT s1.heap H).get? b = some ob := fun e z => hidT_get e z
    have isA : ∀ {b : Addr} {ob : Obj} {es : Array DictEntry} {ep : Nat}, s1.heap.get? b = some ob → ob.data = .dict es ep → H b = none := fun {b ob es ep} e dd => by
      by_cases z : H b = none
      · exact z
      · obtain ⟨rfl, _⟩ := only b z
        rw [script] at e
        cases e
        cases dd
    have ns_ : ∀ {b : Addr} {mm : Str → Option Value}, s1.heap.Ns b mm → (hidT s1.heap H).Ns b mm := fun {b mm} hh => by
      obtain ⟨ob, es, ep, e, dd, rest⟩ := hh
      exact ⟨ob, es, ep, under e (isA e dd), dd, rest⟩
    have baseK : K.In (hidT s1.heap H) := fun b ob e => under (inK b ob e) (by
      by_cases z : H b = none
      · exact z
      · obtain ⟨rfl, kn⟩ := only b z
        rw [kn] at e
        cases e)
    have lim : (hidT s1.heap H).NoLimit := by
      obtain ⟨mc, l1, l2⟩ := Gr.T.nolimit
      exact ⟨mc, ns_ l1, l2⟩
    have md : Mod K mg (hidT s1.heap H) := ⟨baseK, ns_ nsG, ⟨mb, ns_ nsB, Gr.T.builtins⟩, lim⟩
    have e0 : Env0 l.prog w K mg (hidT s1.heap H) callerA [] s1 H :=
      { frames := rfl, mod := md, bs := fun b ob e => of_hidT e, bsz := Nat.le_of_eq (hidT_size _ _), funs := trivial, frf := fun b z => (List.not_mem_nil z).elim, hok := hok, bare := .of_eq gens }
    obtain ⟨fA, fd, F, B⟩ := chain_ok (D := ⟨K, clA G.cls K, w, ocA G.ocs K⟩) (P := l.prog) (w := w) rfl says baseK (ns_ nsG) ch (fun fi h => by rw [hG] at h; cases h) (free_all says baseK (ns_ nsG) hbn) (fun p hp => cst_ok (D := ⟨K, clA G.cls K, w, ocA G.ocs K⟩) baseK (ns_ nsG) ((hcst K exK).1 p hp)) (cls_ok baseK (ns_ nsG) (hcst K exK).2.1) (ini_ok baseK (ns_ nsG) says (hcst K exK).2.2 hini) (oc_ok baseK (ns_ nsG) says rfl hocs) (fun k x fs e => oc_at e) init r rfl
    have fAe : fA = f := by
      have h1 := F.at_ hov
      have h2 : mg r.1.nm = some (.ref f) := by rw [← hnm]; exact hmg
      have h3 : mg r.1.nm = some (.ref fA) := h1
      rw [h2] at h3
      cases h3
      rfl
    subst fAe
    have bind := B hdv s1 [.ref a] (by rw [hps]; rfl)
    obtain ⟨M', runs⟩ := sim ns len
    have st : StoOk ⟨K, clA G.cls K, w, ocA G.ocs K⟩ H [a] [.frz (ns.map PV.int)] := by
      refine ⟨rfl, fun i ob e => ?_, fun i j ob ob' b e _ mu _ _ _ => ?_⟩
      · have hi : i = 0 := by
          rcases i with _ | i
          · rfl
          · simp at e
        subst hi
        cases e
        exact ⟨a, rfl, _, fz, ints_lie ns⟩
      · have hi : i = 0 := by
          rcases i with _ | i
          · rfl
          · simp at e
        subst hi
        cases e
        cases mu
    have sp : spOf ⟨K, clA G.cls K, w, ocA G.ocs K⟩ (r.1.fi (whole G init)) [V.ref a] H (fun v _ => v = .bl true) (fun _ _ _ => False) := by
      refine ⟨[.loc 0], _, [a], st, RepL.one (rep_loc.mpr ⟨a, rfl, rfl⟩), by show 1 = r.1.ps.length; rw [hps]; rfl, ?_⟩
      rw [runs]
      exact fun H1 rho1 v _ _ rv => rep_bl.mp rv
    have go := F.fn.run callerA [] s1 H ⟨[.ref a], []⟩ [.ref a] [V.ref a] _ _ (by show Room r.1.lev callerA; rw [hr]; exact hk) rfl e0 (by show 1 = r.1.ps.length; rw [hps]; rfl) bind (.cons rfl .nil) sp
    refine codeAny_mono go fun res s' fin_ => ?_
    match res, fin_ with
    | .error e, .inl ⟨_, _, _, _, _, _, _, _, _, _, _, _, z⟩ => obtain ⟨_, _, zz⟩ := z; exact zz.elim
    | .error e, .inr ⟨_, _, _, _, _, _, _, _, _, _, _, _, z⟩ => obtain ⟨_, _, zz⟩ := z; exact zz.elim
    | .ok .next, z => exact False.elim z
    | .ok .brk, z => exact False.elim z
    | .ok .cont, z => exact False.elim z
    | .ok (.ret u), ⟨v, H1, os, bare, un, hok1, rv, z⟩ =>
      subst z
      have ru : u = Value.bool true := rv
      subst ru
      refine ⟨rfl, OldK.of_keep fun b ob e => ?_, os, bare⟩
      by_cases z : H b = none
      · exact un.keep b ob e z List.not_mem_nil List.not_mem_nil
      · obtain ⟨ob', u, zz⟩ := locked b ob e z
        have z2 := un.frzs b ob' u zz
        have o1 : ObjOk l.prog w H s1.heap b (.frz ob' u) := hok b _ zz
        have o2 : ObjOk l.prog w H1 s'.heap b (.frz ob' u) := hok1 b _ z2
        obtain ⟨q1, _⟩ := o1
        obtain ⟨q2, _⟩ := o2
        rw [e] at q1
        cases q1
        exact q2
  by_cases known : K.lookup a = none
  · -- the script is not of the written part: it is locked
    have at_ : ∀ b, (if b = a then some (HO.frz { cls := .type "list", data := .seq vs.toArray } (.lst (ns.map V.int))) else none) ≠ none → b = a := fun b z => by
      by_cases hb : b = a
      · exact hb
      · rw [if_neg hb] at z; exact absurd rfl z
    refine core (fun b => if b = a then some (HO.frz { cls := .type "list", data := .seq vs.toArray } (.lst (ns.map V.int))) else none) (fun b z => ⟨at_ b z, known⟩) (.inl ⟨_, if_pos rfl⟩) (fun b u z => ?_) (fun b ob _ z => ⟨_, _, if_pos (at_ b z)⟩)
    have hb : b = a := at_ b (fun w => by have w' := z.symm.trans w; cases w')
    have z' := (if_pos hb).symm.trans z
    cases z'
    subst hb
    exact ⟨script, by rw [List.length_map]; exact room, vs, _, vals, script⟩
  · cases kn : K.lookup a with
    | none => exact absurd kn known
    | some ob =>
      have e := inK a ob kn
      rw [script] at e
      cases e
      refine core (fun _ => none) (fun b z => absurd rfl z) (.inr ⟨_, vs.toArray, _, kn, rfl, rfl, rfl, ?_, ?_⟩) (fun b u z => nomatch z) (fun b ob _ z => absurd rfl z)
      · rw [List.size_toArray, vlen]; exact room
      · simpa using vals
end SW

/-! Plain weakest preconditions of the interpreter. -/
namespace SW
open PySem PySem.Spec PyProof.Rows L2

/-- an argument that hangs on a: simp leaves a alone -/
inductive Nix {α : Type} (a : α) : Type where
  | mk
/-- what is wished of an exception -/
abbrev Xp := Nat → Option PV → Sto → Prop
abbrev Yp := Nat → Option PV → Sig → Sto → Prop
def pwX {α : Type} (E : Xp) (r : Res α) (Q : α → Sto → Prop) (_ : Nix Q := .mk) (_ : Nix E := .mk) : Prop := match r with
  | .ok a M => Q a M
  | .exc c v M => E c v M
  | .stuck => False
def pwY (Y : Yp) (r : SR) (N : Sig → Sto → Prop) (R : PV → Sto → Prop) (_ : Nix N := .mk) (_ : Nix R := .mk) (_ : Nix Y := .mk) : Prop := match r with
  | .next t M => N t M
  | .ret v M => R v M
  | .exc c v t M => Y c v t M
  | .stuck => False
/-- none is wished -/
def xno : Xp := fun _ _ _ => False
section
variable {α β : Type} {E : Xp} {Y : Yp} {Q : α → Sto → Prop} {N : Sig → Sto → Prop} {R : PV → Sto → Prop}
@[simp] theorem pwR_ok (a : α) (M : Sto) : pwX E (.ok a M) Q ↔ Q a M := Iff.rfl
@[simp] theorem pwR_stuck : pwX E (.stuck : Res α) Q ↔ False := Iff.rfl
@[simp] theorem pwR_exc (c : Nat) (v : Option PV) (M : Sto) : pwX E (.exc c v M : Res α) Q ↔ E c v M := Iff.rfl
@[simp] theorem pwR_bind (r : Res β) (f : β → Sto → Res α) : pwX E (r.bind f) Q ↔ pwX E r fun b M => pwX E (f b M) Q := by cases r <;> exact Iff.rfl
@[simp] theorem pwR_of_some (a : α) (M : Sto) : pwX E (Res.of (some (a, M))) Q ↔ Q a M := Iff.rfl
@[simp] theorem pwR_of_none : pwX E (Res.of (none : Option (α × Sto))) Q ↔ False := Iff.rfl
@[simp] theorem pwR_nox (r : Res α) : pwX E r.nox Q ↔ pwX xno r Q := by cases r <;> exact Iff.rfl
@[simp] theorem pwS_next (t : Sig) (M : Sto) : pwY Y (.next t M) N R ↔ N t M := Iff.rfl
@[simp] theorem pwS_ret (v : PV) (M : Sto) : pwY Y (.ret v M) N R ↔ R v M := Iff.rfl
@[simp] theorem pwS_exc (c : Nat) (v : Option PV) (t : Sig) (M : Sto) : pwY Y (.exc c v t M) N R ↔ Y c v t M := Iff.rfl
@[simp] theorem pwS_stuck : pwY Y .stuck N R ↔ False := Iff.rfl
@[simp] theorem pwS_bind (r : SR) (f : Sig → Sto → SR) : pwY Y (r.bind f) N R ↔ pwY Y r (fun t M => pwY Y (f t M) N R) R := by cases r <;> exact Iff.rfl
@[simp] theorem pwS_then (r : Res α) (t : Sig) (f : α → Sto → SR) : pwY Y (r.then t f) N R ↔ pwX (fun c v M => Y c v t M) r fun a M => pwY Y (f a M) N R := by cases r <;> exact Iff.rfl
theorem pwR_mono {r : Res α} {Q' : α → Sto → Prop} (h : pwX E r Q) (k : ∀ a M, Q a M → Q' a M) : pwX E r Q' := by
  cases r with
  | ok a M => exact k _ _ h
  | exc c v M => exact h
  | stuck => exact h
theorem pwS_mono {r : SR} {N' : Sig → Sto → Prop} {R' : PV → Sto → Prop} (h : pwY Y r N R) (k : ∀ a M, N a M → N' a M) (l : ∀ a M, R a M → R' a M) : pwY Y r N' R' := by
  cases r with
  | next a M => exact k _ _ h
  | ret a M => exact l _ _ h
  | exc c v t M => exact h
  | stuck => exact h
theorem pwR_ite {c : Prop} [Decidable c] {a b : Res α} : pwX E (if c then a else b) Q ↔ if c then pwX E a Q else pwX E b Q := by by_cases h : c <;> simp only [h, if_true, if_false]
theorem pwS_ite {c : Prop} [Decidable c] {a b : SR} : pwY Y (if c then a else b) N R ↔ if c then pwY Y a N R else pwY Y b N R := by by_cases h : c <;> simp only [h, if_true, if_false]
theorem pw_lift {r : Res α} (h : pwX xno r Q) : pwX E r Q := by
  cases r with
  | ok a M => exact h
  | exc c v M => exact h.elim
  | stuck => exact h
theorem pwX_mono {E' : Xp} {r : Res α} {Q' : α → Sto → Prop} (h : pwX E r Q) (k : ∀ a M, Q a M → Q' a M) (l : ∀ c v M, E c v M → E' c v M) : pwX E' r Q' := by
  cases r with
  | ok a M => exact k _ _ h
  | exc c v M => exact l _ _ _ h
  | stuck => exact h
theorem pw_get {r : Res α} (h : pwX xno r Q) : ∃ a M, r = .ok a M ∧ Q a M := by
  cases r with
  | ok a M => exact ⟨a, M, rfl, h⟩
  | exc c v M => exact h.elim
  | stuck => exact h.elim
theorem pw_put {r : Res α} {a : α} {M : Sto} (e : r = .ok a M) (h : Q a M) : pwX E r Q := by rw [e]; exact h
end
theorem pw_run {E : Xp} (d : FD) (G : Glb) (xs : List PV) (M : Sto) (Q : PV → Sto → Prop) : pwX E ((d.fi G).run xs M) Q ↔ pwY (fun c v _ M => E c v M) (evSs G d.body (xs.map some ++ List.replicate (d.N.length - xs.length) none) M) (fun _ M => Q .non M) Q := by
  show pwX E (runF G d.N.length d.body xs M) Q ↔ _
  unfold runF
  cases evSs G d.body (xs.map some ++ List.replicate (d.N.length - xs.length) none) M <;> exact Iff.rfl
@[simp] theorem bool_bl (b : Bool) (M : Sto) : (Res.ok (.bl b) M : Res PV).bool = .ok b M := rfl
@[simp] theorem pwR_bool {E : Xp} (r : Res PV) (Q : Bool → Sto → Prop) : pwX E r.bool Q ↔ pwX E r fun x M => match x with
    | .bl b => Q b M
    | _ => False := by
  unfold Res.bool
  rw [pwR_bind]
  cases r with
  | ok x M => cases x <;> exact Iff.rfl
  | exc c v M => exact Iff.rfl
  | stuck => exact Iff.rfl
@[simp] theorem fin_false (r : Res PV) : fin false r = r := rfl
@[simp] theorem pwR_fin_true {E : Xp} (r : Res PV) (Q : PV → Sto → Prop) : pwX E (fin true r) Q ↔ pwX E r fun x M => match truth M x with
    | some k => Q (.bl k) M
    | none => False := by
  show pwX E (r.bind _) Q ↔ _
  rw [pwR_bind]
  cases r with
  | ok x M => simp only [pwR_ok]; cases truth M x <;> exact Iff.rfl
  | exc c v M => exact Iff.rfl
  | stuck => exact Iff.rfl

/-! ### loops -/
theorem pw_for {Y : Yp} {at_ : Wlk} {tgt : PV → Sig → Sto → Option Sig} {body : Sig → Sto → SR} {cnt : Nat} {tau : Sig} {M : Sto} {N : Sig → Sto → Prop} {R : PV → Sto → Prop} (Inv : Nat → Sig → Sto → Prop) (h0 : Inv 0 tau M)
    (step : ∀ i t m, i < cnt → Inv i t m → ∃ x t', at_ i m = some (some x) ∧ tgt x t m = some t' ∧ pwY Y (body t' m) (Inv (i + 1)) R) (done : ∀ t m, Inv cnt t m → at_ cnt m = some none ∧ N t m) : pwY Y (forGo at_ tgt body cnt 0 tau M) N R := by
  have go : ∀ k i t m, i + k = cnt → Inv i t m → pwY Y (forGo at_ tgt body k i t m) N R := by
    intro k
    induction k with
    | zero =>
      intro i t m e h
      have e' : i = cnt := by omega
      subst e'
      obtain ⟨a, b⟩ := done t m h
      unfold forGo
      rw [a]
      exact b
    | succ k ih =>
      intro i t m e h
      obtain ⟨x, t', a, b, c⟩ := step i t m (by omega) h
      unfold forGo
      rw [a]
      simp only [b]
      rw [pwS_bind]
      exact pwS_mono c (fun t m h => ih _ _ _ (by omega) h) (fun _ _ h => h)
  exact go cnt 0 tau M (by omega) h0
/-- over a tuple's items -/
theorem pw_forT {Y : Yp} {xs : List PV} {tgt : PV → Sig → Sto → Option Sig} {body : Sig → Sto → SR} {cnt : Nat} {tau : Sig} {M : Sto} {N : Sig → Sto → Prop} {R : PV → Sto → Prop} (Inv : Nat → Sig → Sto → Prop) (hc : cnt = xs.length) (h0 : Inv 0 tau M)
    (step : ∀ i x t m, xs[i]? = some x → Inv i t m → pwY Y (match tgt x t m with
      | some t' => body t' m
      | none => .stuck) (Inv (i + 1)) R) (done : ∀ t m, Inv xs.length t m → N t m) : pwY Y (forGo (fun i _ => some xs[i]?) tgt body cnt 0 tau M) N R := by
  subst hc
  refine pw_for Inv h0 (fun i t m hi h => ?_) (fun t m h => ⟨by simp, done t m h⟩)
  have e : xs[i]? = some xs[i] := List.getElem?_eq_getElem hi
  have s := step i _ t m e h
  revert s
  cases ht : tgt xs[i] t m with
  | none => intro s; exact s.elim
  | some t' => intro s; exact ⟨_, t', by rw [e], ht, s⟩
/-- over a range -/
theorem pw_forR {Y : Yp} {lo hi : Int} {tgt : PV → Sig → Sto → Option Sig} {body : Sig → Sto → SR} {tau : Sig} {M : Sto} {N : Sig → Sto → Prop} {R : PV → Sto → Prop} (Inv : Nat → Sig → Sto → Prop) (h0 : Inv 0 tau M)
    (step : ∀ (i : Nat) t m, lo + i < hi → Inv i t m → pwY Y (match tgt (.int (lo + i)) t m with
      | some t' => body t' m
      | none => .stuck) (Inv (i + 1)) R) (done : ∀ t m, Inv (hi - lo).toNat t m → N t m) : pwY Y (forGo (rngW lo hi).at_ tgt body (rngW lo hi).cnt 0 tau M) N R := by
  refine pw_for Inv h0 (fun i t m hi' h => ?_) (fun t m h => ⟨by show some (if _ then _ else _) = _; exact congrArg some (if_neg (Nat.lt_irrefl _)), done t m h⟩)
  have hlt : i < (hi - lo).toNat := hi'
  have s := step i t m (by omega) h
  revert s
  cases ht : tgt (.int (lo + i)) t m with
  | none => intro s; exact s.elim
  | some t' => intro s; exact ⟨_, t', by show some (if _ then _ else _) = _; rw [if_pos hlt], ht, s⟩
/-- while: k counts down -/
theorem pw_whl {Y : Yp} {tst : Sig → Sto → Res Bool} {body : Sig → Sto → SR} {tau : Sig} {M : Sto} {N : Sig → Sto → Prop} {R : PV → Sto → Prop} (n : Nat) (Inv : Nat → Sig → Sto → Prop) (hn : n < FUEL) (h0 : Inv n tau M)
    (step : ∀ k t m, k ≤ n → Inv k t m → pwX (fun c v M => Y c v t M) (tst t m) fun b m => if b = true then pwY Y (body t m) (fun t m => ∃ j, j < k ∧ Inv j t m) R else N t m) : pwY Y (whlGo tst body FUEL tau M) N R := by
  have go : ∀ f k t m, k < f → k ≤ n → Inv k t m → pwY Y (whlGo tst body f t m) N R := by
    intro f
    induction f with
    | zero => intro k t m e; omega
    | succ f ih =>
      intro k t m e e2 h
      have s := step k t m e2 h
      unfold whlGo
      rw [pwS_then]
      refine pwR_mono s fun b m' h' => ?_
      cases b with
      | false => exact h'
      | true =>
        simp only [if_true] at h' ⊢
        rw [pwS_bind]
        exact pwS_mono h' (fun t m ⟨j, h1, h2⟩ => ih j _ _ (by omega) (by omega) h2) (fun _ _ h => h)
  exact go FUEL n tau M hn (Nat.le_refl _) h0

/-! ### the store -/
/-- all but the places S stay -/
structure Kept (S : List Nat) (M M' : Sto) : Prop where
  len : M.length ≤ M'.length
  get : ∀ n, n ∉ S → n < M.length → M'[n]? = M[n]?
theorem Kept.refl {S : List Nat} {M : Sto} : Kept S M M := ⟨Nat.le_refl _, fun _ _ _ => rfl⟩
theorem Kept.trans {S : List Nat} {M M1 M2 : Sto} (a : Kept S M M1) (b : Kept S M1 M2) : Kept S M M2 := ⟨Nat.le_trans a.len b.len, fun n h1 h2 => by rw [b.get n h1 (Nat.lt_of_lt_of_le h2 a.len), a.get n h1 h2]⟩
theorem Kept.mono {S S' : List Nat} {M M' : Sto} (a : Kept S M M') (h : ∀ n ∈ S, n ∈ S') : Kept S' M M' := ⟨a.len, fun n h1 h2 => a.get n (fun z => h1 (h n z)) h2⟩
/-- a place that is written was new -/
theorem Kept.drop {S S' : List Nat} {M M' : Sto} (a : Kept S M M') (h : ∀ n ∈ S, n ∈ S' ∨ M.length ≤ n) : Kept S' M M' := ⟨a.len, fun n h1 h2 => a.get n (fun z => (h n z).elim h1 (by omega)) h2⟩
theorem Kept.app {S : List Nat} {M : Sto} {o : PObj} : Kept S M (M ++ [o]) := ⟨by simp, fun n _ h => List.getElem?_append_left h⟩
theorem Kept.set {S : List Nat} {M : Sto} {n : Nat} {o : PObj} (h : n ∈ S) : Kept S M (M.set n o) := ⟨by simp, fun m h1 h2 => List.getElem?_set_ne (fun e => h1 (by rw [← e]; exact h))⟩
theorem lt_of_get {M : Sto} {n : Nat} {o : PObj} (h : M[n]? = some o) : n < M.length := (List.getElem?_eq_some_iff.mp h).1
theorem Kept.obj {S : List Nat} {M M' : Sto} (a : Kept S M M') {n : Nat} {o : PObj} (h : M[n]? = some o) (hn : n ∉ S) : M'[n]? = some o := by rw [a.get n hn (lt_of_get h), h]
theorem get_app {M : Sto} {n : Nat} {o p : PObj} (h : M[n]? = some o) : (M ++ [p])[n]? = some o := by rw [List.getElem?_append_left (lt_of_get h), h]
theorem get_new {M : Sto} {p : PObj} : (M ++ [p])[M.length]? = some p := by simp
theorem get_set {M : Sto} {n : Nat} {o p : PObj} (h : M[n]? = some o) : (M.set n p)[n]? = some p := List.getElem?_set_self (lt_of_get h)
theorem get_setne {M : Sto} {n k : Nat} {o p : PObj} (h : M[n]? = some o) (hk : k ≠ n) : (M.set k p)[n]? = some o := by rw [List.getElem?_set_ne hk, h]
theorem lst_of {M : Sto} {n : Nat} {xs : List PV} (h : M[n]? = some (.lst xs)) : lst? M (.loc n) = some xs := by simp only [lst?, h]
theorem items_of {M : Sto} {n : Nat} {xs : List PV} (h : M[n]? = some (.lst xs)) : items? M (.loc n) = some xs := by simp only [items?, h]
theorem lst_frz {M : Sto} {n : Nat} {xs : List PV} (h : M[n]? = some (.frz xs)) : lst? M (.loc n) = some xs := by simp only [lst?, h]
theorem items_frz {M : Sto} {n : Nat} {xs : List PV} (h : M[n]? = some (.frz xs)) : items? M (.loc n) = some xs := by simp only [items?, h]
theorem items_tup {M : Sto} {xs : List PV} : items? M (.tup xs) = some xs := rfl

/-! ### the primitives -/
section
variable {Q : PV → Sto → Prop} {M : Sto}
variable {E : Xp}
theorem pw_if {c : Prop} [Decidable c] {p : PV × Sto} : pwX E (Res.of (if c then some p else none)) Q ↔ c ∧ Q p.1 p.2 := by
  by_cases h : c <;> simp only [h, if_true, if_false, true_and, false_and, pwR_of_none]
  exact Iff.rfl
theorem pw_add (i j : Int) : pwX E (Res.of (opB .Add (.int i) (.int j) M)) Q ↔ Q (.int (i + j)) M := Iff.rfl
theorem pw_sub (i j : Int) : pwX E (Res.of (opB .Sub (.int i) (.int j) M)) Q ↔ Q (.int (i - j)) M := Iff.rfl
def MulP (i j : Int) : Prop := (-18446744073709551616 < i ∧ i < 18446744073709551616) ∨ (-18446744073709551616 < j ∧ j < 18446744073709551616)
def DivP (j : Int) : Prop := 0 < j ∧ j < 1000000000000000000000000000000000000000000000000000000000000
theorem pw_mul (i j : Int) : pwX E (Res.of (opB .Mult (.int i) (.int j) M)) Q ↔ MulP i j ∧ Q (.int (i * j)) M := pw_if
theorem pw_div (i j : Int) : pwX E (Res.of (opB .FloorDiv (.int i) (.int j) M)) Q ↔ DivP j ∧ Q (.int (i / j)) M := pw_if
theorem pw_mod (i j : Int) : pwX E (Res.of (opB .Mod (.int i) (.int j) M)) Q ↔ 0 < j ∧ Q (.int (i % j)) M := pw_if
theorem pw_pow (i j : Int) : pwX E (Res.of (opB .Pow (.int i) (.int j) M)) Q ↔ (0 ≤ j ∧ j ≤ 1000000 ∧ -18446744073709551616 < i ∧ i < 18446744073709551616) ∧ Q (.int (i ^ j.toNat)) M := by
  refine Iff.trans pw_if ?_
  rw [show (i.natAbs < 2 ^ 64) = (-18446744073709551616 < i ∧ i < 18446744073709551616) from propext (by omega)]
theorem pw_addT (a b : List PV) : pwX E (Res.of (opB .Add (.tup a) (.tup b) M)) Q ↔ a.length + b.length ≤ LINE ∧ Q (.tup (a ++ b)) M := pw_if
theorem pw_addS (a b : List Nat) : pwX E (Res.of (opB .Add (.str a) (.str b) M)) Q ↔ a.length + b.length ≤ LINE ∧ Q (.str (a ++ b)) M := pw_if
theorem pw_new (xs : List PV) : pwX E (Res.of (newL M xs)) Q ↔ xs.length ≤ LINE ∧ Q (.loc M.length) (M ++ [.lst xs]) := pw_if
theorem pw_opt {β : Type} (o : Option β) (f : β → PV × Sto) : pwX E (Res.of (o.map f)) Q ↔ ∃ y, o = some y ∧ Q (f y).1 (f y).2 := by
  cases o with
  | none => simp
  | some y => exact ⟨fun h => ⟨y, rfl, h⟩, fun ⟨z, e, h⟩ => by cases e; exact h⟩
theorem opC_lt (i j : Int) : opC .Lt (.int i) (.int j) M = some (decide (i < j)) := rfl
theorem opC_le (i j : Int) : opC .LtE (.int i) (.int j) M = some (decide (i ≤ j)) := rfl
theorem opC_gt (i j : Int) : opC .Gt (.int i) (.int j) M = some (decide (j < i)) := rfl
theorem opC_ge (i j : Int) : opC .GtE (.int i) (.int j) M = some (decide (j ≤ i)) := rfl
theorem opC_eqI (i j : Int) : opC .Eq (.int i) (.int j) M = some (decide (i = j)) := by
  have e : (i == j) = decide (i = j) := by by_cases h : i = j <;> simp [h]
  simp [opC, eqP, toD, PyData.canLay0, PyData.eqv, e]
theorem opC_neI (i j : Int) : opC .NotEq (.int i) (.int j) M = some (!decide (i = j)) := by
  have e : (i == j) = decide (i = j) := by by_cases h : i = j <;> simp [h]
  simp [opC, eqP, toD, PyData.canLay0, PyData.eqv, e]
end
example : True := by
  have := @opC_eqI
  trivial
end SW

/-! The interpreter's rows, one by one, each in its place alone. -/
namespace SW
open PySem PySem.Spec PyProof.Rows L2

def finQ (m : Bool) (Q : PV → Sto → Prop) : PV → Sto → Prop := match m with
  | false => Q
  | true => fun x M => match truth M x with
    | some k => Q (.bl k) M
    | none => False
def isB (x : PV) (P : Bool → Prop) (_ : Nix P := .mk) : Prop := match x with
  | .bl k => P k
  | _ => False
theorem isB_bl (k : Bool) (P : Bool → Prop) : isB (.bl k) P ↔ P k := Iff.rfl
def isI (x : PV) (P : Int → Prop) (_ : Nix P := .mk) : Prop := match x with
  | .int k => P k
  | _ => False
def isT (x : PV) (P : List Nat → Prop) (_ : Nix P := .mk) : Prop := match x with
  | .str k => P k
  | _ => False
theorem isT_str (k : List Nat) (P : List Nat → Prop) : isT (.str k) P ↔ P k := Iff.rfl
theorem isI_int (k : Int) (P : Int → Prop) : isI (.int k) P ↔ P k := Iff.rfl
def isS {α : Type} (x : Option α) (P : α → Prop) (_ : Nix P := .mk) : Prop := match x with
  | some k => P k
  | none => False
theorem isS_some {α : Type} (k : α) (P : α → Prop) : isS (some k) P ↔ P k := Iff.rfl
theorem isS_none {α : Type} (P : α → Prop) : isS none P ↔ False := Iff.rfl
theorem isS_iff {α : Type} {o : Option α} {P : α → Prop} : isS o P ↔ ∃ x, o = some x ∧ P x := by
  cases o with
  | none => exact ⟨fun h => h.elim, fun ⟨_, h, _⟩ => by cases h⟩
  | some x => exact ⟨fun h => ⟨x, rfl, h⟩, fun ⟨_, e, h⟩ => by cases e; exact h⟩
theorem finQ_f (Q : PV → Sto → Prop) (x : PV) (M : Sto) : finQ false Q x M ↔ Q x M := Iff.rfl
theorem finQ_t (Q : PV → Sto → Prop) (x : PV) (M : Sto) : finQ true Q x M ↔ isS (truth M x) fun k => Q (.bl k) M := by
  show (match truth M x with
    | some k => Q (.bl k) M
    | none => False) ↔ _
  cases truth M x <;> exact Iff.rfl
theorem pw_fin {E : Xp} {m : Bool} {r : Res PV} {Q : PV → Sto → Prop} : pwX E (fin m r) Q ↔ pwX E r (finQ m Q) := by
  cases m
  · exact Iff.rfl
  · rw [pwR_fin_true]; exact Iff.rfl
theorem pw_opt' {E : Xp} {α : Type} {o : Option α} {f : α → Res PV} {Q : PV → Sto → Prop} : pwX E (match o with
    | some k => f k
    | none => .stuck) Q ↔ isS o fun k => pwX E (f k) Q := by cases o <;> exact Iff.rfl
theorem pwR_cg {E : Xp} {α : Type} {r : Res α} {Q Q' : α → Sto → Prop} (h : ∀ a M, Q a M ↔ Q' a M) : pwX E r Q ↔ pwX E r Q' := ⟨fun q => pwR_mono q fun a M => (h a M).mp, fun q => pwR_mono q fun a M => (h a M).mpr⟩
theorem pw_of {E : Xp} {o : Prim} {Q : PV → Sto → Prop} : pwX E (Res.of o) Q ↔ isS o fun r => Q r.1 r.2 := by
  cases o with
  | none => exact Iff.rfl
  | some p => exact Iff.rfl
section
variable {E : Xp} {G : Glb} {m : Bool} {tau : Sig} {M : Sto} {p p2 pt pa : Pos} {a b c e i lo hi o t : PEx} {es ifs : PEs} {Q : PV → Sto → Prop} {QL : List PV → Sto → Prop}
theorem e_nam {n : Nat} {x : Str} : pwX E (evE G m (.nam n x p) tau M) Q ↔ isS tau[n]? fun o => isS o fun v => finQ m Q v M := by
  show pwX E (fin m _) Q ↔ _
  rw [pw_fin]
  cases tau[n]? with
  | none => exact Iff.rfl
  | some o => cases o <;> exact Iff.rfl
theorem e_non {k : Nat} : pwX E (evE G m (.non k p) tau M) Q ↔ finQ m Q .non M := pw_fin
theorem e_bl {k : Nat} {v : Bool} : pwX E (evE G m (.bl v k p) tau M) Q ↔ finQ m Q (.bl v) M := pw_fin
theorem e_int {k : Nat} {v : Int} : pwX E (evE G m (.int v k p) tau M) Q ↔ finQ m Q (.int v) M := pw_fin
theorem e_str {k : Nat} {v : Str} : pwX E (evE G m (.str v k p) tau M) Q ↔ finQ m Q (.str v.cps.toList) M := pw_fin
theorem e_tup {k : Nat} : pwX E (evE G m (.tup es k p) tau M) Q ↔ pwX E (evL G es tau M) fun xs M => xs.length ≤ LINE ∧ finQ m Q (.tup xs) M := by
  show pwX E (fin m (Res.bind _ _)) Q ↔ _
  rw [pw_fin, pwR_bind]
  refine pwR_cg fun xs M => ?_
  rw [pwR_ite]
  by_cases h : xs.length ≤ LINE <;> simp [h]
theorem e_lst : pwX E (evE G m (.lst es p) tau M) Q ↔ pwX E (evL G es tau M) fun xs M => xs.length ≤ LINE ∧ finQ m Q (.loc M.length) (M ++ [.lst xs]) := by
  show pwX E (fin m (Res.bind _ _)) Q ↔ _
  rw [pw_fin, pwR_bind]
  exact pwR_cg fun xs M => pw_new xs
theorem e_bin {op : Operator} : pwX E (evE G m (.bin op a b p) tau M) Q ↔ pwX E (evE G false a tau M) fun x M => pwX E (evE G false b tau M) fun y M => pwX E (Res.of (opB op x y M)) (finQ m Q) := by
  show pwX E (fin m (Res.bind _ _)) Q ↔ _
  rw [pw_fin, pwR_bind]
  exact pwR_cg fun x M => pwR_bind _ _
theorem e_neg : pwX E (evE G m (.neg a p) tau M) Q ↔ pwX E (evE G false a tau M) fun x M => isI x fun i => finQ m Q (.int (-i)) M := by
  show pwX E (fin m (Res.bind _ _)) Q ↔ _
  rw [pw_fin, pwR_bind]
  exact pwR_cg fun x M => by cases x <;> exact Iff.rfl
theorem e_nt : pwX E (evE G m (.nt a p) tau M) Q ↔ pwX E (evE G m a tau M) fun x M => isB x fun b => Q (.bl (!b)) M := by
  show pwX E (Res.bind _ _) Q ↔ _
  rw [pwR_bind]
  exact pwR_cg fun x M => by cases x <;> exact Iff.rfl
theorem e_cmp {op : CmpOp} : pwX E (evE G m (.cmp op a b p) tau M) Q ↔ pwX E (evE G false a tau M) fun x M => pwX E (evE G false b tau M) fun y M => isS (opC op x y M) fun k => Q (.bl k) M := by
  show pwX E (Res.bind _ _) Q ↔ _
  rw [pwR_bind]
  refine pwR_cg fun x M => ?_
  rw [pwR_bind]
  exact pwR_cg fun y M => by cases opC op x y M <;> exact Iff.rfl
theorem e_chn {op op' : CmpOp} : pwX E (evE G m (.chn op op' a b c p) tau M) Q ↔ pwX E (evE G false a tau M) fun x M => pwX E (evE G false b tau M) fun y M => isS (opC op x y M) fun k => if k = true then
    pwX E (evE G false c tau M) fun z M => isS (opC op' y z M) fun k => Q (.bl k) M
    else Q (.bl false) M := by
  show pwX E (Res.bind _ _) Q ↔ _
  rw [pwR_bind]
  refine pwR_cg fun x M => ?_
  rw [pwR_bind]
  refine pwR_cg fun y M => ?_
  cases opC op x y M with
  | none => exact Iff.rfl
  | some k => cases k with
    | false => exact Iff.rfl
    | true =>
      show pwX E (Res.bind _ _) _ ↔ _
      rw [pwR_bind]
      exact pwR_cg fun z M => by cases opC op' y z M <;> exact Iff.rfl
theorem e_and : pwX E (evE G m (.and a es p) tau M) Q ↔ pwX E (evE G m a tau M) fun x M => pwX E (evAnd G m es x tau M) Q := pwR_bind _ _
theorem e_or : pwX E (evE G m (.or a es p) tau M) Q ↔ pwX E (evE G m a tau M) fun x M => pwX E (evOr G m es x tau M) Q := pwR_bind _ _
theorem e_ife : pwX E (evE G false (.ife t a b p) tau M) Q ↔ pwX E (evE G true t tau M) fun x M => isB x fun k => if k = true then pwX E (evE G false a tau M) Q else pwX E (evE G false b tau M) Q := by
  show pwX E (Res.bind _ _) Q ↔ _
  rw [pwR_bind, pwR_bool]
  exact pwR_cg fun x M => by cases x with
    | bl k => cases k <;> exact Iff.rfl
    | _ => exact Iff.rfl
theorem e_sub : pwX E (evE G m (.sub a i p) tau M) Q ↔ pwX E (evE G false a tau M) fun x M => pwX E (evE G false i tau M) fun y M => isS (opI x y M) fun r => finQ m Q r.1 r.2 := by
  show pwX E (fin m (Res.bind _ _)) Q ↔ _
  rw [pw_fin, pwR_bind]
  refine pwR_cg fun x M => ?_
  rw [pwR_bind]
  exact pwR_cg fun y M => pw_of
theorem e_slc : pwX E (evE G m (.slc a lo hi p2 p) tau M) Q ↔ pwX E (evE G false a tau M) fun x M => pwX E (evE G false lo tau M) fun l M => isI l fun l => pwX E (evE G false hi tau M) fun h M => isI h fun h => isS (opS x (some l) (some h) M) fun r => finQ m Q r.1 r.2 := by
  show pwX E (fin m (Res.bind _ _)) Q ↔ _
  rw [pw_fin, pwR_bind]
  refine pwR_cg fun x M => ?_
  rw [pwR_bind]
  refine pwR_cg fun y M => ?_
  cases y with
  | int l =>
    show pwX E (Res.bind _ _) _ ↔ _
    rw [pwR_bind]
    refine pwR_cg fun y M => ?_
    cases y with
    | int l => exact pw_of
    | _ => exact Iff.rfl
  | _ => exact Iff.rfl
theorem e_slcL : pwX E (evE G m (.slcL a lo p2 p) tau M) Q ↔ pwX E (evE G false a tau M) fun x M => pwX E (evE G false lo tau M) fun l M => isI l fun l => isS (opS x (some l) none M) fun r => finQ m Q r.1 r.2 := by
  show pwX E (fin m (Res.bind _ _)) Q ↔ _
  rw [pw_fin, pwR_bind]
  refine pwR_cg fun x M => ?_
  rw [pwR_bind]
  refine pwR_cg fun y M => ?_
  cases y with
  | int l => exact pw_of
  | _ => exact Iff.rfl
theorem e_slcH : pwX E (evE G m (.slcH a hi p2 p) tau M) Q ↔ pwX E (evE G false a tau M) fun x M => pwX E (evE G false hi tau M) fun l M => isI l fun l => isS (opS x none (some l) M) fun r => finQ m Q r.1 r.2 := by
  show pwX E (fin m (Res.bind _ _)) Q ↔ _
  rw [pw_fin, pwR_bind]
  refine pwR_cg fun x M => ?_
  rw [pwR_bind]
  refine pwR_cg fun y M => ?_
  cases y with
  | int l => exact pw_of
  | _ => exact Iff.rfl
theorem e_blt {k : Bi} : pwX E (evE G m (.blt k e es p p2) tau M) Q ↔ pwX E (evE G false e tau M) fun x M => pwX E (evL G es tau M) fun xs M => isS (opM k (x :: xs) M) fun r => finQ m Q r.1 r.2 := by
  show pwX E (fin m (Res.bind _ _)) Q ↔ _
  rw [pw_fin, pwR_bind]
  refine pwR_cg fun x M => ?_
  rw [pwR_bind]
  exact pwR_cg fun y M => pw_of
theorem e_isi {k : Ty} : pwX E (evE G m (.isi e k p pt p2) tau M) Q ↔ pwX E (evE G false e tau M) fun x M => isS (isTy M k x) fun k => finQ m Q (.bl k) M := by
  show pwX E (fin m (Res.bind _ _)) Q ↔ _
  rw [pw_fin, pwR_bind]
  exact pwR_cg fun x M => by cases isTy M k x <;> exact Iff.rfl
theorem e_meth {d : Me} : pwX E (evE G m (.meth d o e es pa p) tau M) Q ↔ pwX E (evE G false o tau M) fun x M => isS (lst? M x) fun _ => pwX E (evE G false e tau M) fun y M => pwX E (evL G es tau M) fun ys M => isS (opD d x (y :: ys) M) fun r => finQ m Q r.1 r.2 := by
  show pwX E (fin m (Res.bind _ _)) Q ↔ _
  rw [pw_fin, pwR_bind]
  refine pwR_cg fun x M => ?_
  cases lst? M x with
  | none => exact Iff.rfl
  | some _ =>
    show pwX E (Res.bind _ _) _ ↔ _
    rw [pwR_bind]
    exact pwR_cg fun y M => (pwR_bind _ _).trans (pwR_cg fun ys M => pw_of)
theorem e_meth0 {d : Me} : pwX E (evE G m (.meth0 d o pa p) tau M) Q ↔ pwX E (evE G false o tau M) fun x M => isS (lst? M x) fun _ => isS (opD d x [] M) fun r => finQ m Q r.1 r.2 := by
  show pwX E (fin m (Res.bind _ _)) Q ↔ _
  rw [pw_fin, pwR_bind]
  refine pwR_cg fun x M => ?_
  cases lst? M x with
  | none => exact Iff.rfl
  | some _ => exact pw_of
theorem e_dgt {k x : PEx} : pwX E (evE G m (.dgt o k x pa p) tau M) Q ↔ pwX E (evE G false o tau M) fun d M => isS (dctOf M d) fun _ => pwX E (evE G false k tau M) fun y M => pwX E (evE G false x tau M) fun z M => isS (getP d y z M) fun r => finQ m Q r.1 r.2 := by
  show pwX E (fin m (Res.bind _ _)) Q ↔ _
  rw [pw_fin, pwR_bind]
  refine pwR_cg fun d M => ?_
  cases dctOf M d with
  | none => exact Iff.rfl
  | some _ =>
    show pwX E (Res.bind _ _) _ ↔ _
    rw [pwR_bind]
    exact pwR_cg fun y M => (pwR_bind _ _).trans (pwR_cg fun z M => pw_of)
theorem e_lc {tg : PTg} {it : PIt} {sc : Scope} {own : Own} : pwX E (evE G m (.lc e tg it ifs sc own p) tau M) Q ↔ pwX E (evI G it tau M) fun w M =>
      pwX E (lcGo M.length w.at_ (fun v M => asgT tg v (wipeP tau (own.map (·.2))) M) (fun tau M => (evTs G ifs tau M).nox) (fun tau M => (evE G false e tau M).nox) w.cnt 0 (M ++ [.lst []])) (finQ m Q) := by
  show pwX E (fin m (Res.bind _ _)) Q ↔ _
  rw [pw_fin, pwR_bind]
/-- a call -/
theorem e_call {f n : Nat} {x : Str} {R : List PV → Sto → Res PV} (h : ∃ fi, G.fns[f]? = some fi ∧ fi.ps.length = n ∧ fi.run = R ∧ fi.dv = none) : pwX E (evE G m (.call f x e es p p2) tau M) Q ↔ pwX E (evE G false e tau M) fun x M => pwX E (evL G es tau M) fun xs M => (x :: xs).length = n ∧ pwX E (R (x :: xs) M) (finQ m Q) := by
  obtain ⟨fi, h1, rfl, rfl, hd⟩ := h
  show pwX E (fin m _) Q ↔ _
  rw [pw_fin]
  simp only [h1]
  rw [pwR_bind]
  refine pwR_cg fun x M => ?_
  rw [pwR_bind]
  refine pwR_cg fun xs M => ?_
  unfold FI.go argsN
  rw [hd]
  by_cases h : (x :: xs).length = fi.ps.length <;> simp only [h, if_true, if_false, true_and, false_and, pwR_stuck]
/-- a call of a def with a default -/
theorem e_callD {f n : Nat} {d : PV} {x : Str} {R : List PV → Sto → Res PV} (h : ∃ fi, G.fns[f]? = some fi ∧ fi.ps.length = n ∧ fi.run = R ∧ fi.dv = some d) : pwX E (evE G m (.call f x e es p p2) tau M) Q ↔ pwX E (evE G false e tau M) fun x M => pwX E (evL G es tau M) fun xs M => isS (argsN n (some d) (x :: xs)) fun ys => pwX E (R ys M) (finQ m Q) := by
  obtain ⟨fi, h1, rfl, rfl, hd⟩ := h
  show pwX E (fin m _) Q ↔ _
  rw [pw_fin]
  simp only [h1]
  rw [pwR_bind]
  refine pwR_cg fun x M => ?_
  rw [pwR_bind]
  refine pwR_cg fun xs M => ?_
  unfold FI.go
  rw [hd]
  cases argsN fi.ps.length (some d) (x :: xs) <;> exact Iff.rfl
theorem args_full {n : Nat} {d : Option PV} {xs : List PV} (h : xs.length = n) : argsN n d xs = some xs := if_pos h
theorem args_less {n : Nat} {d : PV} {xs : List PV} (h : xs.length + 1 = n) : argsN n (some d) xs = some (xs ++ [d]) := by
  unfold argsN
  rw [if_neg (by omega)]
  exact if_pos h
variable {QP : List (PV × PV) → Sto → Prop} {ps : PPr}
theorem p_nil : pwX E (evP G .nil tau M) QP ↔ QP [] M := Iff.rfl
theorem p_cons : pwX E (evP G (.cons a e ps) tau M) QP ↔ pwX E (evE G false a tau M) fun x M => pwX E (evE G false e tau M) fun y M => pwX E (evP G ps tau M) fun kvs M => QP ((x, y) :: kvs) M := by
  show pwX E (Res.bind _ _) _ ↔ _
  rw [pwR_bind]
  exact pwR_cg fun x M => (pwR_bind _ _).trans (pwR_cg fun y M => pwR_bind _ _)
theorem e_dct : pwX E (evE G m (.dct ps p) tau M) Q ↔ pwX E (evP G ps tau (M ++ [.dct []])) fun kvs M' => isS (putsD M.length kvs M') fun N => finQ m Q (.loc M.length) N := by
  show pwX E (fin m (Res.bind _ _)) Q ↔ _
  rw [pw_fin, pwR_bind]
  refine pwR_cg fun kvs M' => ?_
  cases putsD M.length kvs M' <;> exact Iff.rfl
theorem e_slcR {k : Nat} {p1 p3 : Pos} : pwX E (evE G m (.slcR a k p1 p2 p3 p) tau M) Q ↔ pwX E (evE G false a tau M) fun x M => isS (revS x M) fun r => finQ m Q r.1 r.2 := by
  show pwX E (fin m (Res.bind _ _)) Q ↔ _
  rw [pw_fin, pwR_bind]
  exact pwR_cg fun x M => pw_of
theorem l_nil : pwX E (evL G .nil tau M) QL ↔ QL [] M := Iff.rfl
theorem l_cons : pwX E (evL G (.cons e es) tau M) QL ↔ pwX E (evE G false e tau M) fun x M => pwX E (evL G es tau M) fun xs M => QL (x :: xs) M := by
  show pwX E (Res.bind _ _) _ ↔ _
  rw [pwR_bind]
  exact pwR_cg fun x M => pwR_bind _ _
theorem and_nil {x : PV} : pwX E (evAnd G m .nil x tau M) Q ↔ Q x M := Iff.rfl
theorem or_nil {x : PV} : pwX E (evOr G m .nil x tau M) Q ↔ Q x M := Iff.rfl
theorem and_b {k : Bool} : pwX E (evAnd G m (.cons e es) (.bl k) tau M) Q ↔ if k = true then pwX E (evE G m e tau M) fun y M => pwX E (evAnd G m es y tau M) Q else Q (.bl false) M := by
  cases k
  · exact Iff.rfl
  · simp only [if_true]
    exact pwR_bind _ _
theorem or_b {k : Bool} : pwX E (evOr G m (.cons e es) (.bl k) tau M) Q ↔ if k = true then Q (.bl true) M else pwX E (evE G m e tau M) fun y M => pwX E (evOr G m es y tau M) Q := by
  cases k
  · simp only [Bool.false_eq_true, if_false]
    exact pwR_bind _ _
  · exact Iff.rfl
theorem pwR_boolB {r : Res PV} {Q : Bool → Sto → Prop} : pwX E r.bool Q ↔ pwX E r fun x M => isB x fun k => Q k M := by
  rw [pwR_bool]
  exact pwR_cg fun x M => by cases x <;> exact Iff.rfl
theorem t_nil {Q : Bool → Sto → Prop} : pwX E (evTs G .nil tau M) Q ↔ Q true M := Iff.rfl
theorem t_cons {Q : Bool → Sto → Prop} : pwX E (evTs G (.cons e es) tau M) Q ↔ pwX E (evE G true e tau M) fun x M => isB x fun k => Q k M := by
  show pwX E (Res.bool _) _ ↔ _
  rw [pwR_bool]
  exact pwR_cg fun x M => by cases x <;> exact Iff.rfl
variable {QW : Walk → Sto → Prop}
theorem i_seq : pwX E (evI G (.seq e) tau M) QW ↔ pwX E (evE G false e tau M) fun x M => isS (seqW M x) fun w => QW w M := by
  show pwX E (Res.bind _ _) _ ↔ _
  rw [pwR_bind]
  exact pwR_cg fun x M => by cases seqW M x <;> exact Iff.rfl
theorem i_rng1 : pwX E (evI G (.rng1 e p p2) tau M) QW ↔ pwX E (evE G false e tau M) fun x M => isI x fun j => small62 j = true ∧ QW (rngW 0 j) M := by
  show pwX E (Res.bind _ _) _ ↔ _
  rw [pwR_bind]
  refine pwR_cg fun x M => ?_
  cases x with
  | int j =>
    show pwX E (if _ then _ else _) _ ↔ _ ∧ _
    rw [pwR_ite]
    by_cases h : small62 j = true <;> simp [h]
  | _ => exact Iff.rfl
theorem i_rngR {q q2 : Pos} : pwX E (evI G (.rngR e p p2 q q2) tau M) QW ↔ pwX E (evE G false e tau M) fun x M => isI x fun j => small62 j = true ∧ QW (rngB j) M := by
  show pwX E (Res.bind _ _) _ ↔ _
  rw [pwR_bind]
  refine pwR_cg fun x M => ?_
  cases x with
  | int j =>
    show pwX E (if _ then _ else _) _ ↔ _ ∧ _
    rw [pwR_ite]
    by_cases h : small62 j = true <;> simp [h]
  | _ => exact Iff.rfl
theorem i_rng2 : pwX E (evI G (.rng2 a b p p2) tau M) QW ↔ pwX E (evE G false a tau M) fun x M => pwX E (evE G false b tau M) fun y M => isI x fun i => isI y fun j => small62 i = true ∧ small62 j = true ∧ QW (rngW i j) M := by
  show pwX E (Res.bind _ _) _ ↔ _
  rw [pwR_bind]
  refine pwR_cg fun x M => ?_
  rw [pwR_bind]
  refine pwR_cg fun y M => ?_
  cases x with
  | int i => cases y with
    | int j =>
      show pwX E (if _ then _ else _) _ ↔ _ ∧ _ ∧ _
      rw [pwR_ite]
      by_cases h : small62 i = true <;> by_cases h' : small62 j = true <;> simp [h, h']
    | _ => exact Iff.rfl
  | _ => exact Iff.rfl
theorem i_enum : pwX E (evI G (.enum e p p2) tau M) QW ↔ pwX E (evE G false e tau M) fun x M => isS (enumW M x) fun w => QW w M := by
  show pwX E (Res.bind _ _) _ ↔ _
  rw [pwR_bind]
  exact pwR_cg fun x M => by cases enumW M x <;> exact Iff.rfl
theorem i_zip : pwX E (evI G (.zip a b p p2) tau M) QW ↔ pwX E (evE G false a tau M) fun x M => pwX E (evE G false b tau M) fun y M => isS (zipW M x y) fun w => QW w M := by
  show pwX E (Res.bind _ _) _ ↔ _
  rw [pwR_bind]
  exact pwR_cg fun x M => (pwR_bind _ _).trans (pwR_cg fun y M => by cases zipW M x y <;> exact Iff.rfl)
theorem i_zip3 {d : PEx} : pwX E (evI G (.zip3 a b d p p2) tau M) QW ↔ pwX E (evE G false a tau M) fun x M => pwX E (evE G false b tau M) fun y M => pwX E (evE G false d tau M) fun z M => isS (zipW3 x y z) fun w => QW w M := by
  show pwX E (Res.bind _ _) _ ↔ _
  rw [pwR_bind]
  exact pwR_cg fun x M => (pwR_bind _ _).trans (pwR_cg fun y M => (pwR_bind _ _).trans (pwR_cg fun z M => by cases zipW3 x y z <;> exact Iff.rfl))
theorem i_rev : pwX E (evI G (.rev e p p2) tau M) QW ↔ pwX E (evE G false e tau M) fun x M => isS (revW M x) fun w => QW w M := by
  show pwX E (Res.bind _ _) _ ↔ _
  rw [pwR_bind]
  exact pwR_cg fun x M => by cases revW M x <;> exact Iff.rfl
theorem e_glb {g : Nat} {x : Str} : pwX E (evE G m (.glb g x p) tau M) Q ↔ isS G.cst[g]? fun o => finQ m Q o.2 M := by
  show pwX E (fin m _) Q ↔ _
  rw [pw_fin]
  rcases G.cst[g]? with _ | ⟨y, v⟩ <;> exact Iff.rfl
theorem e_lrg {q q2 : Pos} : pwX E (evE G m (.lrg a p p2 q q2) tau M) Q ↔ pwX E (evE G false a tau M) fun x M => isI x fun j => isS (rngL 0 j M) fun r => finQ m Q r.1 r.2 := by
  show pwX E (fin m (Res.bind _ _)) Q ↔ _
  rw [pw_fin, pwR_bind]
  refine pwR_cg fun x M => ?_
  cases x with
  | int j => exact pw_of
  | _ => exact Iff.rfl
theorem e_lrg2 {q q2 : Pos} : pwX E (evE G m (.lrg2 a b p p2 q q2) tau M) Q ↔ pwX E (evE G false a tau M) fun x M => pwX E (evE G false b tau M) fun y M => isI x fun i => isI y fun j => isS (rngL i j M) fun r => finQ m Q r.1 r.2 := by
  show pwX E (fin m (Res.bind _ _)) Q ↔ _
  rw [pw_fin, pwR_bind]
  refine pwR_cg fun x M => ?_
  rw [pwR_bind]
  refine pwR_cg fun y M => ?_
  cases x with
  | int i => cases y with
    | int j => exact pw_of
    | _ => exact Iff.rfl
  | _ => exact Iff.rfl
theorem e_trev {q q2 : Pos} : pwX E (evE G m (.trev e p p2 q q2) tau M) Q ↔ pwX E (evE G false e tau M) fun x M => isS (revT x M) fun r => finQ m Q r.1 r.2 := by
  show pwX E (fin m (Res.bind _ _)) Q ↔ _
  rw [pw_fin, pwR_bind]
  exact pwR_cg fun x M => pw_of
theorem e_lns {q q2 : Pos} : pwX E (evE G m (.lns e p p2 q q2) tau M) Q ↔ pwX E (evE G false e tau M) fun x M => isS (lenS x M) fun r => finQ m Q r.1 r.2 := by
  show pwX E (fin m (Res.bind _ _)) Q ↔ _
  rw [pw_fin, pwR_bind]
  exact pwR_cg fun x M => pw_of
theorem e_jn {s : Str} {k : Nat} {ps pa : Pos} : pwX E (evE G m (.jn s k e ps pa p) tau M) Q ↔ pwX E (evE G false e tau M) fun x M => isS (jnP s x M) fun r => finQ m Q r.1 r.2 := by
  show pwX E (fin m (Res.bind _ _)) Q ↔ _
  rw [pw_fin, pwR_bind]
  exact pwR_cg fun x M => pw_of
theorem e_fmt : pwX E (evE G m (.fmt e p) tau M) Q ↔ pwX E (evE G false e tau M) fun x M => isS (fmtP x M) fun r => finQ m Q r.1 r.2 := by
  show pwX E (fin m (Res.bind _ _)) Q ↔ _
  rw [pw_fin, pwR_bind]
  exact pwR_cg fun x M => pw_of
theorem e_spl {s : Str} {k : Nat} {ps pa : Pos} : pwX E (evE G m (.spl e s k ps pa p) tau M) Q ↔ pwX E (evE G false e tau M) fun x M => isS (splP s x M) fun r => finQ m Q r.1 r.2 := by
  show pwX E (fin m (Res.bind _ _)) Q ↔ _
  rw [pw_fin, pwR_bind]
  exact pwR_cg fun x M => pw_of
theorem e_fld {f : Str} : pwX E (evE G m (.fld o f p) tau M) Q ↔ pwX E (evE G false o tau M) fun x M => isS (fldP G.ocs x f M) fun r => finQ m Q r.1 r.2 := by
  show pwX E (fin m (Res.bind _ _)) Q ↔ _
  rw [pw_fin, pwR_bind]
  exact pwR_cg fun x M => pw_of
/-- x is an instance of the class k, and has no field of the name -/
def insOf (k : Nat) (mn : Str) (x : PV) (M : Sto) : Bool := match x with
  | .loc n => match M[n]? with
    | some (.ins j fs) => decide (j = k) && decide (fs.lookup mn = none)
    | _ => false
  | _ => false
theorem insOf_ok {k n : Nat} {mn : Str} {fs : List (Str × PV)} {M : Sto} (h : M[n]? = some (.ins k fs)) (h2 : fs.lookup mn = none) : insOf k mn (.loc n) M = true := by
  simp only [insOf, h, h2, decide_true, Bool.and_self]
theorem mthP_eq {fi : FI} {k : Nat} {mn : Str} {x : PV} {M : Sto} (h : fi.ow = some (k, mn)) : mthP fi mn x M = insOf k mn x M := by
  unfold mthP insOf
  rw [h]
  simp only [decide_true, Bool.true_and] <;> rfl
theorem e_mth0 {f k : Nat} {mn : Str} {R : List PV → Sto → Res PV} (h : ∃ fi, G.fns[f]? = some fi ∧ fi.ps.length = 1 ∧ fi.run = R ∧ fi.dv = none ∧ fi.ow = some (k, mn)) :
    pwX E (evE G m (.mth0 f mn o pa p) tau M) Q ↔ pwX E (evE G false o tau M) fun x M => insOf k mn x M = true ∧ pwX E (R [x] M) (finQ m Q) := by
  obtain ⟨fi, h1, hn, rfl, hd, hw⟩ := h
  show pwX E (fin m _) Q ↔ _
  rw [pw_fin]
  simp only [h1]
  rw [pwR_bind]
  refine pwR_cg fun x M => ?_
  rw [mthP_eq hw]
  by_cases hi : insOf k mn x M = true
  · simp only [hi, if_true, true_and]
    unfold FI.go argsN
    rw [if_pos (show [x].length = fi.ps.length by rw [hn]; rfl)]
  · rw [if_neg hi]
    exact ⟨fun q => q.elim, fun q => hi q.1⟩
theorem e_mth {f k n : Nat} {mn : Str} {R : List PV → Sto → Res PV} (h : ∃ fi, G.fns[f]? = some fi ∧ fi.ps.length = n ∧ fi.run = R ∧ fi.dv = none ∧ fi.ow = some (k, mn)) :
    pwX E (evE G m (.mth f mn o e es pa p) tau M) Q ↔ pwX E (evE G false o tau M) fun x M => insOf k mn x M = true ∧ pwX E (evE G false e tau M) fun y M => pwX E (evL G es tau M) fun ys M => (x :: y :: ys).length = n ∧ pwX E (R (x :: y :: ys) M) (finQ m Q) := by
  obtain ⟨fi, h1, hn, rfl, hd, hw⟩ := h
  show pwX E (fin m _) Q ↔ _
  rw [pw_fin]
  simp only [h1]
  rw [pwR_bind]
  refine pwR_cg fun x M => ?_
  rw [mthP_eq hw]
  by_cases hi : insOf k mn x M = true
  · simp only [hi, if_true, true_and]
    rw [pwR_bind]
    refine pwR_cg fun y M => ?_
    rw [pwR_bind]
    refine pwR_cg fun ys M => ?_
    unfold FI.go argsN
    rw [hd, ← hn]
    by_cases h : (x :: y :: ys).length = fi.ps.length <;> simp only [h, if_true, if_false, true_and, false_and, pwR_stuck]
  · rw [if_neg hi]
    exact ⟨fun q => q.elim, fun q => hi q.1⟩
def isN (v : PV) (P : Prop) : Prop := match v with
  | .non => P
  | _ => False
theorem isN_non {P : Prop} : isN .non P ↔ P := Iff.rfl
theorem e_mk {k f n : Nat} {x : Str} {R : List PV → Sto → Res PV} (h : ∃ fi, G.fns[f]? = some fi ∧ fi.ps.length = n ∧ fi.run = R) :
    pwX E (evE G m (.mk k f x e es p p2) tau M) Q ↔ pwX E (evE G false e tau M) fun y M => pwX E (evL G es tau M) fun ys M => (y :: ys).length + 1 = n ∧ pwX E (R (.loc M.length :: y :: ys) (M ++ [.ins k []])) fun v M' => isN v (finQ m Q (.loc M.length) M') := by
  obtain ⟨fi, h1, hn, rfl⟩ := h
  show pwX E (fin m _) Q ↔ _
  rw [pw_fin]
  simp only [h1]
  rw [pwR_bind]
  refine pwR_cg fun y M => ?_
  rw [pwR_bind]
  refine pwR_cg fun ys M => ?_
  unfold mkP
  rw [hn]
  by_cases h : (y :: ys).length + 1 = n
  · simp only [h, if_true, true_and]
    rw [pwR_bind]
    exact pwR_cg fun v M' => by cases v <;> exact Iff.rfl
  · simp only [h, if_false, false_and, pwR_stuck]
theorem e_jst : pwX E (evE G m (.jst es p) tau M) Q ↔ pwX E (evJ G es [] tau M) fun x M => finQ m Q x M := by
  show pwX E (fin m _) Q ↔ _
  rw [pw_fin]
theorem j_nil {acc : List Nat} : pwX E (evJ G .nil acc tau M) Q ↔ Q (.str acc) M := Iff.rfl
theorem j_cons {acc : List Nat} : pwX E (evJ G (.cons e es) acc tau M) Q ↔ pwX E (evE G false e tau M) fun x M => isT x fun y => (acc ++ y).length ≤ LINE ∧ pwX E (evJ G es (acc ++ y) tau M) Q := by
  show pwX E (Res.bind _ _) _ ↔ _
  rw [pwR_bind]
  exact pwR_cg fun x M => by
    cases x with
    | str y =>
      show pwX E (if _ then _ else _) _ ↔ _ ∧ _
      rw [pwR_ite]
      by_cases h : (acc ++ y).length ≤ LINE
      · rw [if_pos h]; exact ⟨fun q => ⟨h, q⟩, fun q => q.2⟩
      · rw [if_neg h]; exact ⟨fun q => q.elim, fun q => h q.1⟩
    | _ => exact Iff.rfl
theorem e_lrv {q q2 : Pos} : pwX E (evE G m (.lrv e p p2 q q2) tau M) Q ↔ pwX E (evE G false e tau M) fun x M => isS (revL x M) fun r => finQ m Q r.1 r.2 := by
  show pwX E (fin m (Res.bind _ _)) Q ↔ _
  rw [pw_fin, pwR_bind]
  exact pwR_cg fun x M => pw_of
variable {tg : PTg} {it : PIt} {u w : PBl} {N : Sig → Sto → Prop} {Y : Yp}
theorem st_asg : pwY Y (evS G (.asg tg e p) tau M) N Q ↔ pwX (fun c v M => Y c v tau M) (evE G false e tau M) fun v M => isS (asgT tg v tau M) fun tau => N tau M := by
  show pwY Y (Res.then _ _ _) _ _ ↔ _
  rw [pwS_then]
  exact pwR_cg fun x M => by cases asgT tg x tau M <;> exact Iff.rfl
theorem st_setI : pwY Y (evS G (.setI o i e pt p) tau M) N Q ↔ pwX (fun c v M => Y c v tau M) (evE G false e tau M) fun v M => pwX (fun c v M => Y c v tau M) (evE G false o tau M) fun x M => pwX (fun c v M => Y c v tau M) (evE G false i tau M) fun y M => isS (opSet x y v M) fun M => N tau M := by
  show pwY Y (Res.then _ _ _) _ _ ↔ _
  rw [pwS_then]
  exact pwR_cg fun v M => (pwS_then _ _ _).trans (pwR_cg fun x M => (pwS_then _ _ _).trans (pwR_cg fun y M => by cases opSet x y v M <;> exact Iff.rfl))
theorem st_setF {f : Str} : pwY Y (evS G (.setF o f e pt p) tau M) N Q ↔ pwX (fun c v M => Y c v tau M) (evE G false e tau M) fun v M => pwX (fun c v M => Y c v tau M) (evE G false o tau M) fun x M => isS (setFP G.ocs x f v M) fun M => N tau M := by
  show pwY Y (Res.then _ _ _) _ _ ↔ _
  rw [pwS_then]
  exact pwR_cg fun v M => (pwS_then _ _ _).trans (pwR_cg fun x M => by cases setFP G.ocs x f v M <;> exact Iff.rfl)
theorem st_setT {o2 i2 : PEx} {pt2 px : Pos} : pwY Y (evS G (.setT o i o2 i2 e pt pt2 px p) tau M) N Q ↔ pwX (fun c v M => Y c v tau M) (evE G false e tau M) fun v M => isS (pair? v) fun r => pwX (fun c v M => Y c v tau M) (evE G false o tau M) fun x M => pwX (fun c v M => Y c v tau M) (evE G false i tau M) fun y M => isS (opSet x y r.1 M) fun M =>
    pwX (fun c v M => Y c v tau M) (evE G false o2 tau M) fun x M => pwX (fun c v M => Y c v tau M) (evE G false i2 tau M) fun y M => isS (opSet x y r.2 M) fun M => N tau M := by
  show pwY Y (Res.then _ _ _) _ _ ↔ _
  rw [pwS_then]
  refine pwR_cg fun v M => ?_
  cases pair? v with
  | none => exact Iff.rfl
  | some r =>
    refine (pwS_then _ _ _).trans (pwR_cg fun x M => (pwS_then _ _ _).trans (pwR_cg fun y M => ?_))
    cases opSet x y r.1 M with
    | none => exact Iff.rfl
    | some M2 => exact (pwS_then _ _ _).trans (pwR_cg fun x M => (pwS_then _ _ _).trans (pwR_cg fun y M => by cases opSet x y r.2 M <;> exact Iff.rfl))
theorem pair_t {x y : PV} : pair? (.tup [x, y]) = some (x, y) := rfl
theorem st_expr : pwY Y (evS G (.expr e p) tau M) N Q ↔ pwX (fun c v M => Y c v tau M) (evE G false e tau M) fun _ M => N tau M := by
  show pwY Y (Res.then _ _ _) _ _ ↔ _
  rw [pwS_then]
  exact Iff.rfl
theorem st_ret : pwY Y (evS G (.ret e p) tau M) N Q ↔ pwX (fun c v M => Y c v tau M) (evE G false e tau M) Q := by
  show pwY Y (Res.then _ _ _) _ _ ↔ _
  rw [pwS_then]
  exact Iff.rfl
theorem st_retN : pwY Y (evS G (.retN p) tau M) N Q ↔ Q .non M := Iff.rfl
theorem st_ife : pwY Y (evS G (.ife t u w p) tau M) N Q ↔ pwX (fun c v M => Y c v tau M) (evE G true t tau M) fun x M => isB x fun k => if k = true then pwY Y (evSs G u tau M) N Q else pwY Y (evSs G w tau M) N Q := by
  show pwY Y (Res.then _ _ _) _ _ ↔ _
  rw [pwS_then, pwR_bool]
  exact pwR_cg fun x M => by cases x with
    | bl k => cases k <;> exact Iff.rfl
    | _ => exact Iff.rfl
theorem st_for : pwY Y (evS G (.for_ tg it u p) tau M) N Q ↔ pwX (fun c v M => Y c v tau M) (evI G it tau M) fun w M => pwY Y (forGo w.at_ (fun v tau M => asgT tg v tau M) (fun tau M => evSs G u tau M) w.cnt 0 tau M) N Q := by
  show pwY Y (Res.then _ _ _) _ _ ↔ _
  rw [pwS_then]
theorem st_whl : pwY Y (evS G (.whl t u p) tau M) N Q ↔ pwY Y (whlGo (fun tau M => (evE G true t tau M).bool) (fun tau M => evSs G u tau M) FUEL tau M) N Q := Iff.rfl
theorem st_rai {k jc : Nat} {x z : Str} {p2 q pr : Pos} : pwY Y (evS G (.rai k x z jc p p2 q pr) tau M) N Q ↔ Y k none tau M := Iff.rfl
theorem st_tryC {j : Nat} {cx : Str} {np p2 : Pos} {h : HSt} {hs : List HSt} : pwY Y (evS G (.tryC u j cx np h hs p2 p) tau M) N Q ↔
    pwY (fun k y tau M => k < G.cls.length ∧ if hitC k (some j) = true then isS (evHs k y (h :: hs) tau M) fun r => N r.1 r.2 else False) (evSs G u tau M) N Q := by
  show pwY Y (SR.catchC _ _ _ (evSs G u tau M)) N Q ↔ _
  cases evSs G u tau M with
  | next t M => exact Iff.rfl
  | ret v M => exact Iff.rfl
  | stuck => exact Iff.rfl
  | exc k y t M =>
    show pwY Y (if _ then _ else _) N Q ↔ _ ∧ _
    rw [pwS_ite]
    by_cases hk : k < G.cls.length
    · rw [if_pos hk, pwS_ite]
      by_cases hh : hitC k (some j) = true
      · rw [if_pos hh, if_pos hh]
        cases evHs k y (h :: hs) t M <;> exact ⟨fun q => ⟨hk, q⟩, fun q => q.2⟩
      · rw [if_neg hh, if_neg hh]
        exact ⟨fun q => ⟨hk, q⟩, fun q => q.2⟩
    · rw [if_neg hk]
      exact ⟨fun q => q.elim, fun q => hk q.1⟩
theorem st_tryA {j ie : Nat} {cx en : Str} {np p2 : Pos} {h : HSt} {hs : List HSt} : pwY Y (evS G (.tryA u j cx np ie en h hs p2 p) tau M) N Q ↔
    pwY (fun k y tau M => (k < G.cls.length ∧ ie < tau.length) ∧ if hitC k (some j) = true then isS (evHs k y (h :: hs) (tau.set ie none) M) fun r => N (r.1.set ie none) r.2 else False) (evSs G u tau M) N Q := by
  show pwY Y (SR.catchA _ _ _ _ (evSs G u tau M)) N Q ↔ _
  cases evSs G u tau M with
  | next t M => exact Iff.rfl
  | ret v M => exact Iff.rfl
  | stuck => exact Iff.rfl
  | exc k y t M =>
    show pwY Y (if _ then _ else _) N Q ↔ _ ∧ _
    rw [pwS_ite]
    by_cases hk : k < G.cls.length ∧ ie < t.length
    · rw [if_pos hk, pwS_ite]
      by_cases hh : hitC k (some j) = true
      · rw [if_pos hh, if_pos hh]
        cases evHs k y (h :: hs) (t.set ie none) M <;> exact ⟨fun q => ⟨hk, q⟩, fun q => q.2⟩
      · rw [if_neg hh, if_neg hh]
        exact ⟨fun q => ⟨hk, q⟩, fun q => q.2⟩
    · rw [if_neg hk]
      exact ⟨fun q => q.elim, fun q => hk q.1⟩
theorem st_tryN {eh : ExceptHandler} : pwY Y (evS G (.tryN u eh p) tau M) N Q ↔ pwY (fun _ _ _ _ => False) (evSs G u tau M) N Q := by
  show pwY Y (SR.nox (evSs G u tau M)) N Q ↔ _
  cases evSs G u tau M <;> exact Iff.rfl
theorem st_raiF {k : Nat} {x : Str} {p2 pr : Pos} : pwY Y (evS G (.raiF k x e p p2 pr) tau M) N Q ↔ pwX (fun c v M => Y c v tau M) (evE G false e tau M) fun v M => isI v fun z => Y k (some (.int z)) tau M := by
  show pwY Y (Res.then _ _ _) _ _ ↔ _
  rw [pwS_then]
  exact pwR_cg fun v M => by cases v <;> exact Iff.rfl
theorem st_tryR {j k i jc : Nat} {cx x xn : Str} {np p2 p3 cp pr pos' : Pos} : pwY Y (evS G (.tryR u j cx np k x i xn p p2 p3 jc cp pr pos' pt) tau M) N Q ↔
    pwY (fun k0 y tau M => (y = none ∧ k0 < G.cls.length ∧ hitC k0 (some j) = true) ∧ isS tau[i]? fun o => isS o fun v => isI v fun z => Y k (some (.int z)) tau M) (evSs G u tau M) N Q := by
  show pwY Y (SR.catchR _ _ _ _ (evSs G u tau M)) N Q ↔ _
  cases evSs G u tau M with
  | next t M => exact Iff.rfl
  | ret v M => exact Iff.rfl
  | stuck => exact Iff.rfl
  | exc k0 y t M =>
    show pwY Y (if y.isSome = true then _ else if _ then _ else _) N Q ↔ _ ∧ _
    cases y with
    | some y => exact ⟨fun q => q.elim, fun q => by cases q.1.1⟩
    | none =>
      rw [if_neg (by simp), pwS_ite]
      by_cases hk : k0 < G.cls.length ∧ hitC k0 (some j) = true
      · rw [if_pos hk]
        cases t[i]? with
        | none => exact ⟨fun q => q.elim, fun q => q.2⟩
        | some o =>
          cases o with
          | none => exact ⟨fun q => q.elim, fun q => q.2⟩
          | some v => cases v <;> first | exact ⟨fun q => q.elim, fun q => q.2⟩ | exact ⟨fun q => ⟨⟨rfl, hk⟩, q⟩, fun q => q.2⟩
      · rw [if_neg hk]
        exact ⟨fun q => q.elim, fun q => hk q.1.2⟩
theorem hs_fld {k i : Nat} {y : PV} {x : Str} {px pe pa : Pos} {hs : List HSt} : evHs k (some y) (.fld i x px pe pa p :: hs) tau M = evHs k (some y) hs (tau.set i (some y)) M := rfl
theorem hs_nil {k : Nat} {y : Option PV} : evHs k y [] tau M = some (tau, M) := rfl
theorem hs_cst {k i : Nat} {y : Option PV} {x : Str} {px : Pos} {c : HC} {hs : List HSt} : evHs k y (.cst i x px c p :: hs) tau M = evHs k y hs (tau.set i (some c.v)) M := rfl
theorem hc_non {k : Nat} : (HC.non k p).v = .non := rfl
theorem hc_bl {k : Nat} {b : Bool} : (HC.bl b k p).v = .bl b := rfl
theorem hc_int {k : Nat} {b : Int} : (HC.int b k p).v = .int b := rfl
theorem st_pass : pwY Y (evS G (.pass p) tau M) N Q ↔ N tau M := Iff.rfl
theorem b_nil : pwY Y (evSs G .nil tau M) N Q ↔ N tau M := Iff.rfl
theorem b_cons {s : PSt} : pwY Y (evSs G (.cons s u) tau M) N Q ↔ pwY Y (evS G s tau M) (fun tau M => pwY Y (evSs G u tau M) N Q) Q := pwS_bind _ _
end

/-! ### more primitives -/
section
variable {Q : PV → Sto → Prop} {M : Sto}
theorem asg_one {n : Nat} {x : Str} {p : Pos} {v : PV} {tau : Sig} : asgT (.one n x p) v tau M = some (tau.set n (some v)) := rfl
theorem asg_tup {ts : List (Nat × Str × Pos)} {k : Nat} {p : Pos} {xs : List PV} {tau : Sig} : asgT (.tup ts k p) (.tup xs) tau M = setAll (ts.map (·.1)) xs tau := rfl
theorem setAll_nil {tau : Sig} : setAll [] [] tau = some tau := rfl
theorem setAll_cons {i : Nat} {is : List Nat} {v : PV} {vs : List PV} {tau : Sig} : setAll (i :: is) (v :: vs) tau = setAll is vs (tau.set i (some v)) := rfl
theorem len_tup (xs : List PV) : opM .len [.tup xs] M = some (.int xs.length, M) := rfl
theorem len_loc {n : Nat} {xs : List PV} (h : M[n]? = some (.lst xs)) : opM .len [.loc n] M = some (.int xs.length, M) := by simp only [opM, items_of h, Option.map_some]
theorem sum_tup (ns : List Int) : opM .sum [.tup (ns.map PV.int)] M = some (.int ns.sum, M) := by simp [opM, items?]
theorem sum_loc {n : Nat} {ns : List Int} (h : M[n]? = some (.lst (ns.map PV.int))) : opM .sum [.loc n] M = some (.int ns.sum, M) := by simp [opM, items_of h]
theorem tuple_loc {n : Nat} {xs : List PV} (h : M[n]? = some (.lst xs)) : opM .tuple [.loc n] M = some (.tup xs, M) := by simp [opM, items_of h]
theorem tuple_tup {xs : List PV} : opM .tuple [.tup xs] M = some (.tup xs, M) := rfl
theorem list_loc {n : Nat} {xs : List PV} (h : M[n]? = some (.lst xs)) : opM .list [.loc n] M = newL M xs := by simp [opM, items_of h]
theorem list_frz {n : Nat} {xs : List PV} (h : M[n]? = some (.frz xs)) : opM .list [.loc n] M = newL M xs := by simp [opM, items_frz h]
theorem list_tup {xs : List PV} : opM .list [.tup xs] M = newL M xs := rfl
theorem min_int (i j : Int) : opM .min [.int i, .int j] M = some (.int (min i j), M) := by
  simp only [opM]
  congr 3
  split <;> omega
theorem max_int (i j : Int) : opM .max [.int i, .int j] M = some (.int (max i j), M) := by
  simp only [opM]
  congr 3
  split <;> omega
theorem new_ok {xs : List PV} (h : xs.length ≤ LINE) : newL M xs = some (.loc M.length, M ++ [.lst xs]) := if_pos h
theorem ixt_loc {n : Nat} {xs : List PV} {i : Int} (h : M[n]? = some (.lst xs)) : opI (.loc n) (.int i) M = (atI xs i).map (·, M) := by simp only [opI, lst_of h]
theorem ixt_tup {xs : List PV} {i : Int} : opI (.tup xs) (.int i) M = (atI xs i).map (·, M) := rfl
theorem isS_map {α β : Type} {o : Option α} {f : α → β} {P : β → Prop} : isS (o.map f) P ↔ isS o fun x => P (f x) := by cases o <;> exact Iff.rfl
theorem atI_nat {xs : List PV} {k : Nat} {x : PV} (h : xs[k]? = some x) : atI xs (k : Int) = some x := by
  have hl := (List.getElem?_eq_some_iff.mp h).1
  unfold atI ixN
  rw [if_pos (by omega), if_pos (by omega)]
  exact h
theorem atI_ge {xs : List PV} {i : Int} {x : PV} (h0 : 0 ≤ i) (h : xs[i.toNat]? = some x) : atI xs i = some x := by
  have := atI_nat h
  rwa [Int.toNat_of_nonneg h0] at this
theorem atI_0 {x : PV} {xs : List PV} : atI (x :: xs) 0 = some x := atI_nat (k := 0) rfl
theorem atI_1 {a x : PV} {xs : List PV} : atI (a :: x :: xs) 1 = some x := atI_nat (k := 1) rfl
theorem atI_2 {a b x : PV} {xs : List PV} : atI (a :: b :: x :: xs) 2 = some x := atI_nat (k := 2) rfl
theorem atI_3 {a b c x : PV} {xs : List PV} : atI (a :: b :: c :: x :: xs) 3 = some x := atI_nat (k := 3) rfl
theorem ixN_ge {n : Nat} {i : Int} (h0 : 0 ≤ i) (h : i < n) : ixN n i = some i.toNat := by unfold ixN; rw [if_pos h0, if_pos h]
/-- a number of a row that goes on and on -/
def dy (ds : List Int) (i : Int) : Int := ds.getD (i % (ds.length : Int)).toNat 0
theorem atI_dy {ds : List Int} (h : 0 < ds.length) (i : Int) : atI (ds.map PV.int) (i % (ds.length : Int)) = some (.int (dy ds i)) := by
  have h1 : 0 ≤ i % (ds.length : Int) := Int.emod_nonneg _ (by omega)
  have h2 : i % (ds.length : Int) < ds.length := Int.emod_lt_of_pos _ (by omega)
  have h3 : (i % (ds.length : Int)).toNat < ds.length := by omega
  refine atI_ge h1 ?_
  rw [List.getElem?_map, List.getElem?_eq_getElem h3]
  unfold dy
  rw [List.getD_eq_getElem?_getD, List.getElem?_eq_getElem h3]
  rfl
theorem set_loc {n : Nat} {xs : List PV} {i : Int} {v : PV} (h : M[n]? = some (.lst xs)) (h0 : 0 ≤ i) (h1 : i < xs.length) : opSet (.loc n) (.int i) v M = some (M.set n (.lst (xs.set i.toNat v))) := by
  simp only [opSet, h, ixN_ge h0 h1, Option.map_some]
theorem ins_loc {n : Nat} {xs : List PV} {i : Int} {v : PV} (h : M[n]? = some (.lst xs)) (h0 : 0 ≤ i) (h1 : i < 2 ^ 63) (h2 : xs.length < LINE) : opD .insert (.loc n) [.int i, v] M = some (.non, M.set n (.lst (insP xs i.toNat v))) := by
  simp only [opD, h]
  rw [if_pos ⟨h2, h0, h1⟩]
theorem app_loc {n : Nat} {xs : List PV} {v : PV} (h : M[n]? = some (.lst xs)) (h2 : xs.length < LINE) : opD .append (.loc n) [v] M = some (.non, M.set n (.lst (xs ++ [v]))) := by
  simp only [opD, h]
  rw [if_pos h2]
theorem pop_loc0 {n : Nat} {x : PV} {xs : List PV} (h : M[n]? = some (.lst (x :: xs))) : opD .pop (.loc n) [.int 0] M = some (x, M.set n (.lst xs)) := by
  simp only [opD, h]
  rw [ixN_ge (by omega) (by simp)]
  simp
theorem opC_eqS {s t : List Nat} : opC .Eq (.str s) (.str t) M = some (decide (s = t)) := rfl
theorem opC_neS {s t : List Nat} : opC .NotEq (.str s) (.str t) M = (opC .Eq (.str s) (.str t) M).map not := rfl
theorem seqW_tup {xs : List PV} : seqW M (.tup xs) = some ⟨xs.length, fun i _ => some xs[i]?⟩ := rfl
theorem revS_t {xs : List PV} : revS (.tup xs) M = some (.tup xs.reverse, M) := rfl
theorem revL_loc {n : Nat} {xs : List PV} (h : M[n]? = some (.lst xs)) : revL (.loc n) M = newL M xs.reverse := by simp only [revL, lst_of h]
theorem puts_nil {n : Nat} : putsD n [] M = some M := rfl
theorem rev_t {xs : List PV} : revT (.tup xs) M = some (.tup xs.reverse, M) := rfl
theorem ty_tt {xs : List PV} : isTy M .tuple (.tup xs) = some true := rfl
theorem ty_ss {s : List Nat} : isTy M .str (.str s) = some true := rfl
theorem ty_ii {i : Int} : isTy M .int (.int i) = some true := rfl
theorem ty_bi {i : Int} : isTy M .bool (.int i) = some false := rfl
theorem ty_bb {i : Bool} : isTy M .bool (.bl i) = some true := rfl
theorem ty_ib {i : Bool} : isTy M .int (.bl i) = some true := rfl
theorem tr_b {i : Bool} : truth M (.bl i) = some i := rfl
theorem tr_n : truth M .non = some false := rfl
theorem enumW_tup {xs : List PV} : enumW M (.tup xs) = some ⟨xs.length, fun i _ => some (xs[i]?.map fun y => .tup [.int (i : Nat), y])⟩ := rfl
theorem zipW_tup {xs ys : List PV} : zipW M (.tup xs) (.tup ys) = some ⟨min xs.length ys.length, fun i _ => some (two xs ys i)⟩ := rfl
theorem opC_is {x : PV} : opC .Is x .non M = some (match x with
    | .non => true
    | _ => false) := by cases x <;> rfl
end
end SW

/-! Pools: the sums. -/
namespace SW
open PySem PySem.Spec PyProof.Rows L2

/-- a pool's days, one by one -/
def wk (ds : List Int) (brim : Int) : Nat → Nat → Int → Bool × Int
  | 0, _, l => (false, l)
  | k + 1, i, l => if l + dy ds i < 0 then (true, i) else wk ds brim k (i + 1) (min brim (l + dy ds i))
theorem wk_succ {ds : List Int} {b : Int} (k i : Nat) (l : Int) : wk ds b (k + 1) i l = if l + dy ds i < 0 then (true, (i : Int)) else wk ds b k (i + 1) (min b (l + dy ds i)) := rfl
def wS (b : Bool) : List Nat := if b = true then ("dry" : Str).cps.toList else ("level" : Str).cps.toList
theorem dry_dry {M : Sto} : opC .Eq (.str (Str.ofString "dry").cps.toList) (.str (Str.ofString "dry").cps.toList) M = some true := by
  rw [opC_eqS]
  simp
theorem level_dry {M : Sto} : opC .Eq (.str (Str.ofString "level").cps.toList) (.str (Str.ofString "dry").cps.toList) M = some false := by
  rw [opC_eqS]
  decide +kernel
theorem wS_dry {M : Sto} {b : Bool} : opC .Eq (.str (wS b)) (.str (Str.ofString "dry").cps.toList) M = some b := by
  cases b
  · exact level_dry
  · exact dry_dry
theorem wS_level {M : Sto} {b : Bool} : opC .Eq (.str (wS b)) (.str (Str.ofString "level").cps.toList) M = some (!b) := by
  cases b
  · show opC .Eq (.str (Str.ofString "level").cps.toList) _ M = _
    rw [opC_eqS]; simp
  · show opC .Eq (.str (Str.ofString "dry").cps.toList) _ M = _
    rw [opC_eqS]; decide +kernel
theorem wS_eq {M : Sto} {b c : Bool} : opC .Eq (.str (wS b)) (.str (wS c)) M = some (decide (b = c)) := by
  cases b <;> cases c
  · rw [opC_eqS]; simp
  · rw [opC_eqS]; decide +kernel
  · rw [opC_eqS]; decide +kernel
  · rw [opC_eqS]; simp
theorem wS_t : wS true = ("dry" : Str).cps.toList := rfl
theorem wS_f : wS false = ("level" : Str).cps.toList := rfl
def wP (r : Bool × Int) : PV := .tup [.str (wS r.1), .int r.2]
/-- how far below the last height -/
def und (ds : List Int) : Nat → Int
  | 0 => 0
  | i + 1 => min 0 (und ds i + dy ds i)
def lw (ds : List Int) : Nat → Int
  | 0 => 0
  | i + 1 => min (lw ds i) (und ds (i + 1))
section
variable {ds : List Int}
theorem und_le (i : Nat) : und ds i ≤ 0 := by cases i <;> simp only [und] <;> omega
theorem lw_le (i : Nat) : lw ds i ≤ 0 := by
  induction i with
  | zero => simp [lw]
  | succ i ih => simp only [lw]; omega
theorem lw_und (i : Nat) : lw ds i ≤ und ds i := by
  cases i with
  | zero => simp [lw, und]
  | succ i => simp only [lw]; omega
theorem lw_mono {i j : Nat} (h : i ≤ j) : lw ds j ≤ lw ds i := by
  induction j with
  | zero =>
    have : i = 0 := by omega
    subst this
    exact Int.le_refl _
  | succ j ih =>
    by_cases e : i = j + 1
    · subst e; exact Int.le_refl _
    · have := ih (by omega)
      simp only [lw]
      omega
theorem lw_at (n : Nat) : lw ds n = 0 ∨ ∃ j, 0 < j ∧ j ≤ n ∧ und ds j = lw ds n := by
  induction n with
  | zero => exact .inl rfl
  | succ n ih =>
    simp only [lw]
    rcases Int.le_total (lw ds n) (und ds (n + 1)) with h | h
    · rw [Int.min_eq_left h]
      rcases ih with q | ⟨j, a, b, c⟩
      · exact .inl q
      · exact .inr ⟨j, a, by omega, c⟩
    · rw [Int.min_eq_right h]
      exact .inr ⟨n + 1, by omega, by omega, rfl⟩
/-- at the least brim the water lasts -/
theorem wk_lasts {N : Nat} {b : Int} (hb : -lw ds N ≤ b) : ∀ k i, i + k ≤ N → wk ds b k i (b + und ds i) = (false, b + und ds (i + k)) := by
  intro k
  induction k with
  | zero => intro i _; rfl
  | succ k ih =>
    intro i h
    have h1 := lw_und (ds := ds) (i + 1)
    have h2 : lw ds N ≤ lw ds (i + 1) := lw_mono (by omega)
    have h3 : und ds (i + 1) = min 0 (und ds i + dy ds i) := rfl
    unfold wk
    rw [if_neg (by omega), show min b (b + und ds i + dy ds i) = b + und ds (i + 1) from by omega, ih (i + 1) (by omega), show i + 1 + k = i + (k + 1) from by omega]
theorem wk_dries {b : Int} (hb : 0 ≤ b) : ∀ k i, (∃ j, i < j ∧ j ≤ i + k ∧ b + und ds j < 0) → (wk ds b k i (b + und ds i)).1 = true := by
  intro k
  induction k with
  | zero => rintro i ⟨j, h, h2, _⟩; omega
  | succ k ih =>
    rintro i ⟨j, h, h2, h3⟩
    have h4 : und ds (i + 1) = min 0 (und ds i + dy ds i) := rfl
    unfold wk
    by_cases hd : b + und ds i + dy ds i < 0
    · rw [if_pos hd]
    · rw [if_neg hd, show min b (b + und ds i + dy ds i) = b + und ds (i + 1) from by omega]
      refine ih (i + 1) ⟨j, ?_, by omega, h3⟩
      by_cases e : j = i + 1
      · subst e
        have := h3
        rw [h4] at this
        omega
      · omega
end
end SW

/-! Pools: whole rounds. -/
namespace SW
open PySem PySem.Spec PyProof.Rows L2

/-- the sum of k days from day i on -/
def ps (ds : List Int) : Nat → Nat → Int
  | 0, _ => 0
  | k + 1, i => dy ds i + ps ds k (i + 1)
/-- the lowest sum of the first days -/
def lo (ds : List Int) : Nat → Int
  | 0 => 0
  | k + 1 => min (lo ds k) (ps ds (k + 1) 0)
section
variable {ds : List Int} {b : Int}
theorem ps_add (a c i : Nat) : ps ds (a + c) i = ps ds a i + ps ds c (i + a) := by
  induction a generalizing i with
  | zero => simp [ps]
  | succ a ih =>
    rw [show a + 1 + c = (a + c) + 1 from by omega]
    simp only [ps]
    rw [ih (i + 1), show i + 1 + a = i + (a + 1) from by omega]
    omega
theorem ps_one (i : Nat) : ps ds 1 i = dy ds i := by simp [ps]
theorem ps_succ (k i : Nat) : ps ds (k + 1) i = ps ds k i + dy ds ((i + k : Nat) : Int) := by
  rw [ps_add, ps_one]
theorem dy_get {i : Nat} (h : i < ds.length) : dy ds i = ds[i] := by
  unfold dy
  rw [Int.emod_eq_of_lt (by omega) (by omega), Int.toNat_natCast, List.getD_eq_getElem?_getD, List.getElem?_eq_getElem h]
  rfl
theorem dy_per (i m : Nat) : dy ds ((i + m * ds.length : Nat) : Int) = dy ds i := by
  unfold dy
  rw [show ((i + m * ds.length : Nat) : Int) = (i : Int) + (m : Int) * (ds.length : Int) from by simp, Int.add_mul_emod_self_right]
theorem dy_nat (i : Nat) : dy ds i = dy ds ((i % ds.length : Nat) : Int) := by
  unfold dy
  congr 2
  simp
theorem ps_per (k i m : Nat) : ps ds k (i + m * ds.length) = ps ds k i := by
  induction k generalizing i with
  | zero => rfl
  | succ k ih =>
    simp only [ps]
    rw [dy_per, show i + m * ds.length + 1 = i + 1 + m * ds.length from by omega, ih]
theorem ps_drop : ∀ k i, i + k = ds.length → ps ds k i = (ds.drop i).sum := by
  intro k
  induction k with
  | zero => intro i h; rw [List.drop_eq_nil_of_le (by omega)]; rfl
  | succ k ih =>
    intro i h
    have hi : i < ds.length := by omega
    simp only [ps]
    rw [ih (i + 1) (by omega), dy_get hi, List.drop_eq_getElem_cons hi, List.sum_cons]
theorem ps_all : ps ds ds.length 0 = ds.sum := by rw [ps_drop _ 0 (by omega), List.drop_zero]
theorem lo_le {k s : Nat} (h : s ≤ k) : lo ds k ≤ ps ds s 0 := by
  induction k with
  | zero =>
    have : s = 0 := by omega
    subst this
    exact Int.le_refl _
  | succ k ih =>
    simp only [lo]
    by_cases e : s = k + 1
    · subst e; omega
    · have := ih (by omega)
      omega
theorem lo_at (k : Nat) : ∃ s, s ≤ k ∧ lo ds k = ps ds s 0 := by
  induction k with
  | zero => exact ⟨0, by omega, rfl⟩
  | succ k ih =>
    obtain ⟨s, h1, h2⟩ := ih
    simp only [lo]
    rcases Int.le_total (lo ds k) (ps ds (k + 1) 0) with h | h
    · exact ⟨s, by omega, by omega⟩
    · exact ⟨k + 1, by omega, by omega⟩
theorem lo_nonpos (k : Nat) : lo ds k ≤ 0 := lo_le (s := 0) (by omega)

theorem wk_mono : ∀ k i (l l' : Int), l ≤ l' → (wk ds b k i l).1 = false → (wk ds b k i l').1 = false ∧ (wk ds b k i l).2 ≤ (wk ds b k i l').2 := by
  intro k
  induction k with
  | zero => intro i l l' h _; exact ⟨rfl, h⟩
  | succ k ih =>
    intro i l l' h
    rw [wk_succ, wk_succ]
    by_cases c : l + dy ds i < 0
    · rw [if_pos c]; intro q; cases q
    · rw [if_neg c, if_neg (by omega)]
      exact ih _ _ _ (by omega)
theorem wk_add : ∀ a c i (l : Int), wk ds b (a + c) i l = if (wk ds b a i l).1 = true then wk ds b a i l else wk ds b c (i + a) (wk ds b a i l).2 := by
  intro a
  induction a with
  | zero => intro c i l; simp [wk]
  | succ a ih =>
    intro c i l
    rw [show a + 1 + c = (a + c) + 1 from by omega, wk_succ, wk_succ]
    by_cases h : l + dy ds i < 0
    · rw [if_pos h, if_pos h, if_pos rfl]
    · rw [if_neg h, if_neg h, ih, show i + 1 + a = i + (a + 1) from by omega]
theorem wk_per (m : Nat) : ∀ k i (l : Int), wk ds b k (i + m * ds.length) l = ((wk ds b k i l).1, if (wk ds b k i l).1 = true then (wk ds b k i l).2 + (m * ds.length : Nat) else (wk ds b k i l).2) := by
  intro k
  induction k with
  | zero => intro i l; rfl
  | succ k ih =>
    intro i l
    rw [wk_succ, wk_succ, dy_per]
    by_cases h : l + dy ds i < 0
    · rw [if_pos h, if_pos h]
      simp
    · rw [if_neg h, if_neg h, show i + m * ds.length + 1 = i + 1 + m * ds.length from by omega, ih]
theorem wk_cap : ∀ k i, ∃ c, c ≤ b ∧ (∀ s, 1 ≤ s → s ≤ k → c ≤ b + ps ds (k - s) (i + s)) ∧ ∀ l, l ≤ b → (wk ds b k i l).1 = false → (wk ds b k i l).2 = min c (l + ps ds k i) := by
  intro k
  induction k with
  | zero => intro i; exact ⟨b, by omega, fun s h1 h2 => by omega, fun l h _ => by simp only [wk, ps]; omega⟩
  | succ k ih =>
    intro i
    obtain ⟨c, h1, h2, h3⟩ := ih (i + 1)
    refine ⟨min c (b + ps ds k (i + 1)), by omega, fun s s1 s2 => ?_, fun l hl => ?_⟩
    · by_cases e : s = 1
      · subst e
        rw [show k + 1 - 1 = k from by omega]
        omega
      · have := h2 (s - 1) (by omega) (by omega)
        rw [show k - (s - 1) = k + 1 - s from by omega, show i + 1 + (s - 1) = i + s from by omega] at this
        omega
    · rw [wk_succ]
      by_cases c : l + dy ds i < 0
      · rw [if_pos c]; intro q; cases q
      · rw [if_neg c]
        intro q
        rw [h3 _ (by omega) q]
        simp only [ps]
        omega
theorem wk_free : ∀ k i (l : Int), (∀ s, s ≤ k → l + ps ds s i ≤ b) → ((∀ s, s ≤ k → 0 ≤ l + ps ds s i) → wk ds b k i l = (false, l + ps ds k i)) ∧ ((∃ s, s ≤ k ∧ l + ps ds s i < 0) → 0 ≤ l → (wk ds b k i l).1 = true) := by
  intro k
  induction k with
  | zero =>
    intro i l _
    refine ⟨fun _ => by simp [wk, ps], fun ⟨s, h1, h2⟩ h0 => ?_⟩
    have : s = 0 := by omega
    subst this
    simp [ps] at h2
    omega
  | succ k ih =>
    intro i l h
    have h1 := h 1 (by omega)
    rw [ps_one] at h1
    have sh : ∀ s, l + dy ds i + ps ds s (i + 1) = l + ps ds (s + 1) i := fun s => by simp only [ps]; omega
    obtain ⟨g1, g2⟩ := ih (i + 1) (l + dy ds i) (fun s hs => by rw [sh]; exact h (s + 1) (by omega))
    rw [wk_succ]
    refine ⟨fun hs => ?_, fun ⟨s, hs, hn⟩ h0 => ?_⟩
    · have := hs 1 (by omega)
      rw [ps_one] at this
      rw [if_neg (by omega), show min b (l + dy ds i) = l + dy ds i from by omega, g1 (fun s q => by rw [sh]; exact hs (s + 1) (by omega)), sh]
    · by_cases c : l + dy ds i < 0
      · rw [if_pos c]
      · rw [if_neg c, show min b (l + dy ds i) = l + dy ds i from by omega]
        refine g2 ⟨s - 1, by omega, ?_⟩ (by omega)
        rw [sh]
        have : s ≠ 0 := fun e => by subst e; simp [ps] at hn; omega
        rw [show s - 1 + 1 = s from by omega]
        exact hn
theorem wk_bounds : ∀ k i (l : Int), 0 ≤ b → 0 ≤ l → l ≤ b → (wk ds b k i l).1 = false → 0 ≤ (wk ds b k i l).2 ∧ (wk ds b k i l).2 ≤ b := by
  intro k
  induction k with
  | zero => intro i l _ h0 h1 _; exact ⟨h0, h1⟩
  | succ k ih =>
    intro i l hb h0 h1
    rw [wk_succ]
    by_cases c : l + dy ds i < 0
    · rw [if_pos c]; intro q; cases q
    · rw [if_neg c]
      exact ih _ _ hb (by omega) (by omega)
/-- two rounds passed, the days come to nought or more: so does every round -/
theorem rounds_up {l : Int} (hb : 0 ≤ b) (hl : l ≤ b) (ht : 0 ≤ ds.sum) (h : (wk ds b (2 * ds.length) 0 l).1 = false) :
    (wk ds b ds.length 0 b).1 = false ∧ ∀ r : Nat, wk ds b (r * ds.length) 0 (wk ds b (2 * ds.length) 0 l).2 = (false, min (wk ds b ds.length 0 b).2 ((wk ds b (2 * ds.length) 0 l).2 + r * ds.sum)) := by
  obtain ⟨c, c1, _, c3⟩ := wk_cap (ds := ds) (b := b) ds.length 0
  rw [ps_all] at c3
  rw [show 2 * ds.length = ds.length + ds.length from by omega, wk_add] at h ⊢
  by_cases d : (wk ds b ds.length 0 l).1 = true
  · rw [if_pos d, d] at h; cases h
  have d' : (wk ds b ds.length 0 l).1 = false := by simpa using d
  have full := wk_mono ds.length 0 l b hl d'
  have ec := c3 b (by omega) full.1
  have e1 := c3 l hl d'
  rw [if_neg d] at h ⊢
  have pz := wk_per (ds := ds) (b := b) 1 ds.length 0 (wk ds b ds.length 0 l).2
  simp only [Nat.one_mul] at pz
  rw [pz] at h ⊢
  have h' : (wk ds b ds.length 0 (wk ds b ds.length 0 l).2).1 = false := h
  have e2 := c3 _ (by omega) h'
  refine ⟨full.1, fun r => ?_⟩
  rw [h']
  simp only [Bool.false_eq_true, if_false]
  generalize hl1 : (wk ds b ds.length 0 l).2 = l1 at *
  generalize hl2 : (wk ds b ds.length 0 l1).2 = l2 at *
  rw [ec]
  induction r with
  | zero => simp [wk]; omega
  | succ r ih =>
    rw [show (r + 1) * ds.length = r * ds.length + ds.length from by rw [Nat.succ_mul], wk_add, ih]
    simp only [Bool.false_eq_true, if_false]
    rw [wk_per]
    have rt : (0 : Int) ≤ r * ds.sum := Int.mul_nonneg (by omega) ht
    have ex : ((r + 1 : Nat) : Int) * ds.sum = r * ds.sum + ds.sum := by rw [Int.natCast_add, Int.add_mul]; simp
    have m := wk_mono (ds := ds) (b := b) ds.length 0 l1 (min (min c (b + ds.sum)) (l2 + r * ds.sum)) (by omega) h'
    rw [m.1]
    simp only [Bool.false_eq_true, if_false]
    rw [c3 _ (by omega) m.1, ex]
    congr 1
    omega
/-- a round passed, the days come to less than nought: from then on nothing spills -/
theorem rounds_down {l : Int} (hb : 0 ≤ b) (h0 : 0 ≤ l) (hl : l ≤ b) (ht : ds.sum < 0) (h : (wk ds b (2 * ds.length) 0 l).1 = false) (hn : 0 < ds.length) :
    (∀ r : Nat, (r : Int) ≤ max 0 (((wk ds b (2 * ds.length) 0 l).2 + lo ds ds.length) / (0 - ds.sum) + 1) → wk ds b (r * ds.length) 0 (wk ds b (2 * ds.length) 0 l).2 = (false, (wk ds b (2 * ds.length) 0 l).2 + r * ds.sum)) ∧
    ∀ r : Nat, (r : Int) = max 0 (((wk ds b (2 * ds.length) 0 l).2 + lo ds ds.length) / (0 - ds.sum) + 1) → (wk ds b ds.length 0 ((wk ds b (2 * ds.length) 0 l).2 + r * ds.sum)).1 = true := by
  have bd := wk_bounds (ds := ds) (2 * ds.length) 0 l hb h0 hl h
  have low : ∀ s, s ≤ ds.length → (wk ds b (2 * ds.length) 0 l).2 + ps ds s 0 ≤ b := by
    obtain ⟨c, c1, c2, c3⟩ := wk_cap (ds := ds) (b := b) (2 * ds.length) 0
    rw [c3 l hl h]
    intro s hs
    by_cases z : s = 0
    · subst z
      simp only [ps]
      omega
    · have k := c2 (ds.length + s) (by omega) (by omega)
      rw [show 2 * ds.length - (ds.length + s) = ds.length - s from by omega, show 0 + (ds.length + s) = s + 1 * ds.length from by omega, ps_per] at k
      have a := ps_add (ds := ds) s (ds.length - s) 0
      rw [show s + (ds.length - s) = ds.length from by omega, ps_all, Nat.zero_add] at a
      omega
  generalize (wk ds b (2 * ds.length) 0 l).2 = l2 at *
  have ex : ∀ r : Nat, ((r + 1 : Nat) : Int) * ds.sum = r * ds.sum + ds.sum := fun r => by rw [Int.natCast_add, Int.add_mul]; simp
  have rn : ∀ r : Nat, (r : Int) * ds.sum ≤ 0 := fun r => by
    induction r with
    | zero => simp
    | succ r ih => rw [ex]; omega
  have one : ∀ (r : Nat), 0 ≤ l2 + r * ds.sum + lo ds ds.length → wk ds b ds.length 0 (l2 + r * ds.sum) = (false, l2 + r * ds.sum + ds.sum) := fun r hr => by
    have q := (wk_free (ds := ds) (b := b) ds.length 0 (l2 + r * ds.sum) (fun s hs => by have := low s hs; have := rn r; omega)).1 (fun s hs => by have := lo_le (ds := ds) hs; omega)
    rw [q, ps_all]
  have dv : ∀ r : Nat, (r : Int) ≤ (l2 + lo ds ds.length) / (0 - ds.sum) → 0 ≤ l2 + r * ds.sum + lo ds ds.length := fun r hr => by
    have := (Int.le_ediv_iff_mul_le (a := (r : Int)) (b := l2 + lo ds ds.length) (c := 0 - ds.sum) (by omega)).mp hr
    rw [Int.mul_sub, Int.mul_zero] at this
    omega
  constructor
  · intro r
    induction r with
    | zero => intro _; simp [wk]
    | succ r ih =>
      intro hr
      rw [show (r + 1) * ds.length = r * ds.length + ds.length from by rw [Nat.succ_mul], wk_add, ih (by omega)]
      simp only [Bool.false_eq_true, if_false]
      rw [wk_per, one r (dv r (by omega)), ex]
      simp only [Bool.false_eq_true, if_false]
      congr 1
      omega
  · intro r hr
    obtain ⟨s, hs, es⟩ := lo_at (ds := ds) ds.length
    refine (wk_free (ds := ds) (b := b) ds.length 0 (l2 + r * ds.sum) (fun s hs => by have := low s hs; have := rn r; omega)).2 ⟨s, hs, ?_⟩ ?_
    · rw [← es]
      have nlt : ¬ ((r : Int) ≤ (l2 + lo ds ds.length) / (0 - ds.sum)) := by omega
      rw [Int.le_ediv_iff_mul_le (by omega), Int.mul_sub, Int.mul_zero] at nlt
      omega
    · rcases r with _ | r
      · simp; omega
      · have := dv r (by omega)
        have ll : lo ds ds.length ≤ ds.sum := by rw [← ps_all]; exact lo_le (Nat.le_refl _)
        rw [ex]
        omega
/-- what is passed at once -/
theorem passed_ok {l : Int} (hb : 0 ≤ b) (h0 : 0 ≤ l) (hl : l ≤ b) (hn : 0 < ds.length) (h : (wk ds b (2 * ds.length) 0 l).1 = false) (m : Nat) (l1 : Int) (e1 : (wk ds b (2 * ds.length) 0 l).2 = l1) : ∃ (rr : Nat) (l2 : Int),
    (if 0 ≤ ds.sum then PV.tup [.int ((m / ds.length : Nat) : Int), .int (min (wk ds b ds.length 0 b).2 (l1 + ((m / ds.length : Nat) : Int) * ds.sum))] else .tup [.int (min ((m / ds.length : Nat) : Int) (max 0 ((l1 + lo ds ds.length) / (0 - ds.sum) + 1))), .int (l1 + min ((m / ds.length : Nat) : Int) (max 0 ((l1 + lo ds ds.length) / (0 - ds.sum) + 1)) * ds.sum)]) = .tup [.int rr, .int l2] ∧
    rr ≤ m / ds.length ∧ wk ds b (rr * ds.length) 0 l1 = (false, l2) ∧ (rr = m / ds.length ∨ (wk ds b ds.length 0 l2).1 = true) := by
  subst e1
  by_cases ht : 0 ≤ ds.sum
  · rw [if_pos ht]
    obtain ⟨-, q⟩ := rounds_up hb hl ht h
    exact ⟨_, _, rfl, Nat.le_refl _, q _, .inl rfl⟩
  · rw [if_neg ht]
    obtain ⟨q1, q2⟩ := rounds_down hb h0 hl (by omega) h hn
    generalize hx : max 0 (((wk ds b (2 * ds.length) 0 l).2 + lo ds ds.length) / (0 - ds.sum) + 1) = x at *
    have x0 : 0 ≤ x := by omega
    generalize m / ds.length = R
    refine ⟨(min (R : Int) x).toNat, (wk ds b (2 * ds.length) 0 l).2 + min (R : Int) x * ds.sum, ?_, by omega, ?_, ?_⟩
    · rw [show (((min (R : Int) x).toNat : Nat) : Int) = min (R : Int) x from by omega]
    · rw [q1 _ (by omega), show (((min (R : Int) x).toNat : Nat) : Int) = min (R : Int) x from by omega]
    · by_cases c : (R : Int) ≤ x
      · exact .inl (by omega)
      · right
        have q := q2 x.toNat (by omega)
        rw [show ((x.toNat : Nat) : Int) = x from by omega] at q
        rw [show min (R : Int) x = x from by omega]
        exact q
theorem behind_ok {l l1 l2 : Int} {rr m : Nat} (hn : 0 < ds.length) (h : wk ds b (2 * ds.length) 0 l = (false, l1)) (hr : rr ≤ m / ds.length) (h2 : wk ds b (rr * ds.length) 0 l1 = (false, l2)) (h3 : rr = m / ds.length ∨ (wk ds b ds.length 0 l2).1 = true) :
    wk ds b (2 * ds.length + m) 0 l = if (wk ds b (min (m - rr * ds.length) ds.length) 0 l2).1 = true then (true, ((2 * ds.length + rr * ds.length : Nat) : Int) + (wk ds b (min (m - rr * ds.length) ds.length) 0 l2).2) else wk ds b (min (m - rr * ds.length) ds.length) 0 l2 := by
  have hm : rr * ds.length ≤ m := Nat.le_trans (Nat.mul_le_mul_right _ hr) (Nat.div_mul_le_self _ _)
  have rest : wk ds b (m - rr * ds.length) 0 l2 = wk ds b (min (m - rr * ds.length) ds.length) 0 l2 := by
    by_cases c : m - rr * ds.length ≤ ds.length
    · rw [Nat.min_eq_left c]
    · rw [Nat.min_eq_right (by omega)]
      rcases h3 with q | q
      · exfalso
        rw [q] at c
        have := Nat.mod_lt m hn
        have e := Nat.div_add_mod m ds.length
        rw [Nat.mul_comm] at e
        omega
      · have a := wk_add (ds := ds) (b := b) ds.length (m - rr * ds.length - ds.length) 0 l2
        rw [if_pos q] at a
        rw [← a]
        congr 1
        omega
  rw [wk_add, h]
  simp only [Bool.false_eq_true, if_false]
  rw [wk_per]
  have a := wk_add (ds := ds) (b := b) (rr * ds.length) (m - rr * ds.length) 0 l1
  rw [h2, wk_per, rest, show rr * ds.length + (m - rr * ds.length) = m from by omega] at a
  simp only [Bool.false_eq_true, if_false] at a
  rw [a]
  generalize wk ds b (min (m - rr * ds.length) ds.length) 0 l2 = r
  obtain ⟨r1, r2⟩ := r
  cases r1
  · simp
  · simp only [if_true]
    congr 1
    simp only [Int.natCast_add]
    omega
/-! ### lasting -/
theorem und_ps (i : Nat) : und ds i ≤ ps ds i 0 := by
  induction i with
  | zero => exact Int.le_refl _
  | succ i ih =>
    have h : und ds (i + 1) = min 0 (und ds i + dy ds i) := rfl
    have e := ps_succ (ds := ds) i 0
    rw [Nat.zero_add] at e
    omega
theorem lw_lo (k : Nat) : lw ds k ≤ SW.lo ds k := by
  obtain ⟨s, h1, h2⟩ := lo_at (ds := ds) k
  have a := lw_mono (ds := ds) h1
  have b := lw_und (ds := ds) s
  have c := und_ps (ds := ds) s
  omega
theorem wk_last {least : Int} {N : Nat} (h1 : -lw ds N ≤ b) (h2 : ∀ i, i ≤ N → 0 ≤ least + ps ds i 0) : ∀ k i (l : Int), i + k ≤ N → (least + ps ds i 0 ≤ l ∨ b + und ds i ≤ l) → (wk ds b k i l).1 = false := by
  intro k
  induction k with
  | zero => intro i l _ _; rfl
  | succ k ih =>
    intro i l hi hl
    have e := ps_succ (ds := ds) i 0
    rw [Nat.zero_add] at e
    have u : und ds (i + 1) = min 0 (und ds i + dy ds i) := rfl
    have a := lw_und (ds := ds) (i + 1)
    have c := lw_mono (ds := ds) (show i + 1 ≤ N from by omega)
    have d := h2 (i + 1) (by omega)
    rw [wk_succ, if_neg (by omega)]
    exact ih _ _ (by omega) (by omega)
theorem wk_low (hb : 0 ≤ b) : ∀ k i (l : Int), 0 ≤ l → (∃ s, s ≤ k ∧ l + ps ds s i < 0) → (wk ds b k i l).1 = true := by
  intro k
  induction k with
  | zero =>
    rintro i l h0 ⟨s, h1, h2⟩
    have : s = 0 := by omega
    subst this
    simp only [ps] at h2
    omega
  | succ k ih =>
    rintro i l h0 ⟨s, h1, h2⟩
    rw [wk_succ]
    by_cases c : l + dy ds i < 0
    · rw [if_pos c]
    · rw [if_neg c]
      rcases s with _ | s
      · simp only [ps] at h2
        omega
      · simp only [ps] at h2
        exact ih _ _ (by omega) ⟨s, by omega, by omega⟩
theorem ps_rounds (m i : Nat) (hn : 0 < ds.length) : ps ds m i = ((m / ds.length : Nat) : Int) * ds.sum + ps ds (m % ds.length) i := by
  have one : ∀ i, ps ds ds.length i = ds.sum := fun i => by
    induction i with
    | zero => exact ps_all
    | succ i ih =>
      have a := ps_add (ds := ds) 1 ds.length i
      have c := ps_add (ds := ds) ds.length 1 i
      rw [Nat.add_comm ds.length 1, ps_one] at c
      rw [ps_one] at a
      have p := dy_per (ds := ds) i 1
      rw [Nat.one_mul] at p
      omega
  have rs : ∀ q, ps ds (q * ds.length) i = (q : Int) * ds.sum := fun q => by
    induction q with
    | zero => simp [ps]
    | succ q ih =>
      rw [show (q + 1) * ds.length = q * ds.length + ds.length from by rw [Nat.succ_mul], ps_add, ih, one, Int.natCast_add, Int.add_mul]
      simp
  have e := Nat.div_add_mod m ds.length
  rw [Nat.mul_comm] at e
  have a := ps_add (ds := ds) (m / ds.length * ds.length) (m % ds.length) i
  rw [e, rs, ps_per] at a
  exact a
/-- a stretch's sum -/
def sg (ds : List Int) (first many : Int) : Int := many / ds.length * ds.sum + ps ds (many % ds.length).toNat first.toNat
theorem sg_ps (hn : 0 < ds.length) (f m : Nat) : sg ds ((f % ds.length : Nat) : Int) m = ps ds m f := by
  unfold sg
  rw [ps_rounds m f hn, ← Int.natCast_ediv, ← Int.natCast_emod, Int.toNat_natCast, Int.toNat_natCast]
  congr 1
  have e := Nat.div_add_mod f ds.length
  rw [Nat.mul_comm] at e
  have p := ps_per (ds := ds) (m % ds.length) (f % ds.length) (f / ds.length)
  rw [show f % ds.length + f / ds.length * ds.length = f from by omega] at p
  exact p.symm
theorem wk_ix : ∀ k i (l : Int), (wk ds b k i l).1 = true → (i : Int) ≤ (wk ds b k i l).2 ∧ (wk ds b k i l).2 < i + k := by
  intro k
  induction k with
  | zero => intro i l h; cases h
  | succ k ih =>
    intro i l
    rw [wk_succ]
    by_cases c : l + dy ds i < 0
    · rw [if_pos c]
      intro _
      refine ⟨Int.le_refl _, ?_⟩
      show (i : Int) < _
      omega
    · rw [if_neg c]
      intro h
      have := ih _ _ h
      omega
theorem dy_turn {f : Nat} (hf : f ≤ ds.length) (hn : 0 < ds.length) (j : Nat) : dy (ds.drop f ++ ds.take f) j = dy ds ((f + j : Nat) : Int) := by
  have tl : (ds.drop f ++ ds.take f).length = ds.length := by simp only [List.length_append, List.length_drop, List.length_take]; omega
  have e1 := dy_nat (ds := ds.drop f ++ ds.take f) j
  rw [tl] at e1
  have hj := Nat.mod_lt j hn
  have e2 : dy ds ((f + j : Nat) : Int) = dy ds ((f + j % ds.length : Nat) : Int) := by
    have p := dy_per (ds := ds) (f + j % ds.length) (j / ds.length)
    have e := Nat.div_add_mod j ds.length
    rw [Nat.mul_comm] at e
    rw [show f + j % ds.length + j / ds.length * ds.length = f + j from by omega] at p
    exact p
  rw [e1, e2]
  generalize j % ds.length = r at hj
  rw [dy_get (by omega)]
  by_cases c : r < ds.length - f
  · rw [List.getElem_append_left (by simpa using c), dy_get (by omega)]
    simp
  · have p := dy_per (ds := ds) (f + r - ds.length) 1
    rw [Nat.one_mul, show f + r - ds.length + ds.length = f + r from by omega] at p
    rw [p, dy_get (by omega), List.getElem_append_right (by simpa using c), List.getElem_take]
    congr 1
    simp
    omega
theorem ps_turn {f : Nat} (hf : f ≤ ds.length) (k i : Nat) : ps (ds.drop f ++ ds.take f) k i = ps ds k (f + i) := by
  by_cases hn : 0 < ds.length
  · induction k generalizing i with
    | zero => rfl
    | succ k ih =>
      simp only [ps]
      rw [dy_turn hf hn, ih (i + 1), Nat.add_assoc]
  · have : ds = [] := List.eq_nil_of_length_eq_zero (by omega)
    subst this
    have z : ∀ k i, ps [] k i = 0 := fun k => by
      induction k with
      | zero => intro i; rfl
      | succ k ih => intro i; simp only [ps]; rw [ih]; simp [dy]
    simp [z]
theorem wk_turn {f : Nat} (hf : f ≤ ds.length) (hn : 0 < ds.length) : ∀ k i (l : Int), wk ds b k (f + i) l = ((wk (ds.drop f ++ ds.take f) b k i l).1, if (wk (ds.drop f ++ ds.take f) b k i l).1 = true then (f : Int) + (wk (ds.drop f ++ ds.take f) b k i l).2 else (wk (ds.drop f ++ ds.take f) b k i l).2) := by
  intro k
  induction k with
  | zero => intro i l; rfl
  | succ k ih =>
    intro i l
    rw [wk_succ, wk_succ, dy_turn hf hn]
    by_cases h : l + dy ds ((f + i : Nat) : Int) < 0
    · rw [if_pos h, if_pos h]
      simp
    · rw [if_neg h, if_neg h, Nat.add_assoc, ih]
theorem wk_dry_at : ∀ k i (l : Int), (wk ds b k i l).1 = true → ∃ d, d < k ∧ wk ds b k i l = (true, ((i + d : Nat) : Int)) ∧ (wk ds b d i l).1 = false ∧ (wk ds b d i l).2 + dy ds ((i + d : Nat) : Int) < 0 := by
  intro k
  induction k with
  | zero => intro i l h; cases h
  | succ k ih =>
    intro i l
    rw [wk_succ]
    by_cases c : l + dy ds i < 0
    · rw [if_pos c]
      intro _
      exact ⟨0, by omega, rfl, rfl, c⟩
    · rw [if_neg c]
      intro h
      obtain ⟨d, h1, h2, h3, h4⟩ := ih _ _ h
      refine ⟨d + 1, by omega, by rw [h2, show i + 1 + d = i + (d + 1) from by omega], ?_, ?_⟩
      · rw [wk_succ, if_neg c]; exact h3
      · rw [wk_succ, if_neg c, show i + (d + 1) = i + 1 + d from by omega]; exact h4
theorem pick4 {x0 x1 x2 x3 : PV} {i : Int} (h0 : 0 ≤ i) (h1 : i < 4) : ∃ x, atI [x0, x1, x2, x3] i = some x ∧ (x = x0 ∨ x = x1 ∨ x = x2 ∨ x = x3) := by
  have : i = 0 ∨ i = 1 ∨ i = 2 ∨ i = 3 := by omega
  rcases this with rfl | rfl | rfl | rfl
  · exact ⟨x0, rfl, by simp⟩
  · exact ⟨x1, rfl, by simp⟩
  · exact ⟨x2, rfl, by simp⟩
  · exact ⟨x3, rfl, by simp⟩
theorem pick3 {x0 x1 x2 : PV} {i : Int} (h0 : 0 ≤ i) (h1 : i < 3) : ∃ x, atI [x0, x1, x2] i = some x ∧ (x = x0 ∨ x = x1 ∨ x = x2) := by
  have : i = 0 ∨ i = 1 ∨ i = 2 := by omega
  rcases this with rfl | rfl | rfl
  · exact ⟨x0, rfl, by simp⟩
  · exact ⟨x1, rfl, by simp⟩
  · exact ⟨x2, rfl, by simp⟩
/-! ### places in the store -/
def lstM (o : Option PObj) : Option (List PV) := match o with
  | some (.lst xs) => some xs
  | _ => none
theorem lstM_some (xs : List PV) : lstM (some (.lst xs)) = some xs := rfl
theorem pw_addL {E : Xp} {a c : Nat} {M : Sto} {Q : PV → Sto → Prop} : pwX E (Res.of (opB .Add (.loc a) (.loc c) M)) Q ↔ isS (lstM M[a]?) fun xs => isS (lstM M[c]?) fun ys => (xs ++ ys).length ≤ LINE ∧ Q (.loc M.length) (M ++ [.lst (xs ++ ys)]) := by
  simp only [opB]
  rcases M[a]? with _ | (xs | xs | xs | _)
  · exact Iff.rfl
  · rcases M[c]? with _ | (ys | ys | ys | _)
    · exact Iff.rfl
    · exact pw_new _
    · exact Iff.rfl
    · exact Iff.rfl
    · exact Iff.rfl
  · exact Iff.rfl
  · exact Iff.rfl
  · exact Iff.rfl
theorem isS_newL {M : Sto} {xs : List PV} {P : PV × Sto → Prop} : isS (newL M xs) P ↔ xs.length ≤ LINE ∧ P (.loc M.length, M ++ [.lst xs]) := by
  unfold newL
  by_cases h : xs.length ≤ LINE
  · rw [if_pos h]; exact ⟨fun q => ⟨h, q⟩, fun q => q.2⟩
  · rw [if_neg h]; exact ⟨fun q => q.elim, fun q => h q.1⟩
theorem get_app_k {M l : Sto} {k : Nat} : (M ++ l)[M.length + k]? = l[k]? := by
  rw [List.getElem?_append_right (by omega)]
  congr 1
  omega
theorem get_app_0 {M l : Sto} : (M ++ l)[M.length]? = l[0]? := get_app_k (k := 0)
theorem lit_le {n : Nat} : n ≤ LINE ↔ n ≤ 16777216 := Iff.rfl
theorem str_int {M : Sto} {i : Int} : opM .str [.int i] M = if i.natAbs.log2 < 1920 then some (.str (toString i : Str).cps.toList, M) else none := rfl
/-! ### the data of a value -/
theorem toD_non {M : Sto} {k : Nat} : toD M k .non = some .none := by cases k <;> rfl
theorem toD_bl {M : Sto} {k : Nat} {b : Bool} : toD M k (.bl b) = some (.bool b) := by cases k <;> rfl
theorem toD_int {M : Sto} {k : Nat} {i : Int} : toD M k (.int i) = some (.int i) := by cases k <;> rfl
theorem str_str {M : Sto} {s : List Nat} : opM .str [.str s] M = some (.str s, M) := rfl
theorem toD_str {M : Sto} {k : Nat} {s : List Nat} : toD M k (.str s) = some (.str ⟨s.toArray⟩) := by cases k <;> rfl
theorem toD_tup {M : Sto} {k : Nat} {xs : List PV} : toD M (k + 1) (.tup xs) = (mapO (toD M k) xs).map .tuple := rfl
theorem toD_loc {M : Sto} {k n : Nat} {xs : List PV} (h : M[n]? = some (.lst xs)) : toD M (k + 1) (.loc n) = (mapO (toD M k) xs).map PyData.list := by
  show (match lst? M (.loc n) with
    | some xs => (mapO (toD M k) xs).map PyData.list
    | none => none) = _
  rw [lst_of h]
theorem toD_locM {M : Sto} {k n : Nat} : toD M (k + 1) (.loc n) = match M[n]? with
    | some (.lst xs) => (mapO (toD M k) xs).map PyData.list
    | some (.frz xs) => (mapO (toD M k) xs).map PyData.list
    | some (.dct _) => none
    | some (.ins _ _) => none
    | none => none := by
  show (match lst? M (.loc n) with
    | some xs => (mapO (toD M k) xs).map PyData.list
    | none => none) = _
  simp only [lst?]
  rcases M[n]? with _ | (_ | _ | _ | _) <;> rfl
theorem mapO_nil {α β : Type} {f : α → Option β} : mapO f [] = some [] := rfl
theorem mapO_cons {α β : Type} {f : α → Option β} {x : α} {xs : List α} {y : β} {ys : List β} (h : f x = some y) (k : mapO f xs = some ys) : mapO f (x :: xs) = some (y :: ys) := by simp only [mapO, h, k]
theorem toD_kept {M M' : Sto} (kp : Kept [] M M') : ∀ (k : Nat) (v : PV) (d : PyData), toD M k v = some d → toD M' k v = some d := by
  intro k
  induction k with
  | zero =>
    intro v d h
    cases v with
    | tup xs => cases h
    | loc n => cases h
    | _ => exact h
  | succ k ih =>
    have ihm : ∀ (xs : List PV) ds, mapO (toD M k) xs = some ds → mapO (toD M' k) xs = some ds := by
      intro xs
      induction xs with
      | nil => intro ds h; exact h
      | cons x xs ihx =>
        intro ds h
        simp only [mapO] at h
        split at h
        · rename_i y ys h1 h2
          cases h
          exact mapO_cons (ih _ _ h1) (ihx _ h2)
        · cases h
    intro v d h
    cases v with
    | tup xs =>
      rw [toD_tup] at h ⊢
      obtain ⟨ds, h1, rfl⟩ := Option.map_eq_some_iff.mp h
      rw [ihm _ _ h1]
      rfl
    | loc n =>
      rw [toD_locM] at h ⊢
      split at h
      · rename_i xs e
        rw [kp.obj e (by simp)]
        obtain ⟨ds, h1, rfl⟩ := Option.map_eq_some_iff.mp h
        simp only [ihm _ _ h1, Option.map_some]
      · rename_i xs e
        rw [kp.obj e (by simp)]
        obtain ⟨ds, h1, rfl⟩ := Option.map_eq_some_iff.mp h
        simp only [ihm _ _ h1, Option.map_some]
      · cases h
      · cases h
      · cases h
    | _ =>
      first
        | (rw [toD_non] at h ⊢; exact h)
        | (rw [toD_bl] at h ⊢; exact h)
        | (rw [toD_int] at h ⊢; exact h)
        | (rw [toD_str] at h ⊢; exact h)
theorem opC_eqP {M : Sto} {x y : PV} (h : ¬ ∃ a b, x = .str a ∧ y = .str b) : opC .Eq x y M = eqP M x y := by
  cases x <;> cases y <;> first | rfl | exact absurd ⟨_, _, rfl, rfl⟩ h
/-- == of things whose data are known -/
theorem opC_eqD {M : Sto} {x y : PV} {d e : PyData} (hx : toD M 12 x = some d) (hy : toD M 12 y = some e) (cx : d.canLay0 = true) (cy : e.canLay0 = true) : opC .Eq x y M = some (PyData.eqv d e) := by
  by_cases h : ∃ a b, x = .str a ∧ y = .str b
  · obtain ⟨a, b, rfl, rfl⟩ := h
    rw [toD_str] at hx hy
    cases hx
    cases hy
    show some (decide (a = b)) = some _
    congr 1
    show decide (a = b) = ((⟨a.toArray⟩ : Str) == ⟨b.toArray⟩)
    by_cases e : a = b <;> simp [e]
  · rw [opC_eqP h]
    simp only [eqP, hx, hy, cx, cy, Bool.and_self, if_true]
theorem opC_same {M : Sto} {x y : PV} {d : PyData} (hx : toD M 12 x = some d) (hy : toD M 12 y = some d) (cx : d.canLay0 = true) : opC .Eq x y M = some true := by
  rw [opC_eqD hx hy cx cx, SeqAt.eqv_refl_plain d (PyData.plain_of_canLay0 d cx)]
theorem strOk_int (i : Int) : PyData.strOk (toString i : Str) = true := by
  unfold PyData.strOk
  rw [← Array.all_toList, List.all_eq_true]
  intro k hk
  rw [decide_eq_true_eq]
  by_cases c : k ≠ 45 ∧ (k < 48 ∨ 57 < k)
  · exact absurd hk (int_text_free' k c i)
  · omega
theorem opC_isnotN {M : Sto} : opC .IsNot .non .non M = some false := rfl
theorem opC_isnotI {M : Sto} {i : Int} : opC .IsNot (.int i) .non M = some true := rfl
theorem opC_isN {M : Sto} : opC .Is .non .non M = some true := rfl
theorem opC_isI {M : Sto} {i : Int} : opC .Is (.int i) .non M = some false := rfl
theorem opC_isT {M : Sto} {i : List PV} : opC .Is (.tup i) .non M = some false := rfl
theorem is_bb {M : Sto} {a c : Bool} : opC .IsNot (.bl a) (.bl c) M = some (!decide (a = c)) := rfl
theorem opC_neB {M : Sto} {a c : Bool} : opC .NotEq (.bl a) (.bl c) M = some (!(a == c)) := by cases a <;> cases c <;> rfl
theorem opC_eqB {M : Sto} {a c : Bool} : opC .Eq (.bl a) (.bl c) M = some (a == c) := by cases a <;> cases c <;> rfl
theorem Kept.appL {S : List Nat} {M l : Sto} : SW.Kept S M (M ++ l) := ⟨by simp, fun n _ h => List.getElem?_append_left h⟩
theorem app_intro {P : Sto → Prop} {M l : Sto} (h : ∀ M', (∀ k, M'[M.length + k]? = l[k]?) → M'[M.length]? = l[0]? → SW.Kept [] M M' → P M') : P (M ++ l) := h _ (fun _ => get_app_k) get_app_0 Kept.appL
theorem strOk_int2 (i : Int) : PyData.strOk ⟨(Str.ofString (toString i)).cps.toList.toArray⟩ = true := by
  have h := strOk_int i
  simpa using h
theorem log_ok {i : Int} (h0 : 0 ≤ i) (h1 : i ≤ 1000000000000000000000000000000000000000000) : i.natAbs.log2 < 1920 :=
  Nat.lt_of_lt_of_le (PySem.Flt.log2_lt_of (k := 200) (by decide) (by omega)) (by decide)
theorem und_le_ps (s j : Nat) : und ds (j + s) ≤ ps ds s j := by
  induction s with
  | zero => exact und_le j
  | succ s ih =>
    have h : und ds (j + s + 1) = min 0 (und ds (j + s) + dy ds ((j + s : Nat) : Int)) := rfl
    have e := ps_succ (ds := ds) s j
    rw [← Nat.add_assoc]
    omega
theorem sg_ge (hd : 0 < ds.length) (hs : 0 ≤ ds.sum) {f m : Int} (f0 : 0 ≤ f) (f1 : f < ds.length) (m1 : 1 ≤ m) : lw ds (2 * ds.length) ≤ sg ds f m := by
  obtain ⟨f, rfl⟩ : ∃ g : Nat, f = (g : Int) := ⟨f.toNat, by omega⟩
  obtain ⟨m, rfl⟩ : ∃ g : Nat, m = (g : Int) := ⟨m.toNat, by omega⟩
  unfold sg
  have q0 : (0 : Int) ≤ (m : Int) / ds.length * ds.sum := Int.mul_nonneg (Int.ediv_nonneg (by omega) (by omega)) hs
  rw [← Int.natCast_emod, Int.toNat_natCast, Int.toNat_natCast]
  have hm := Nat.mod_lt m hd
  have a := und_le_ps (ds := ds) (m % ds.length) f
  have c := lw_und (ds := ds) (f + m % ds.length)
  have d := lw_mono (ds := ds) (show f + m % ds.length ≤ 2 * ds.length from by omega)
  omega
theorem wk_more {a c i : Nat} {l : Int} (h : (wk ds b a i l).1 = true) : (wk ds b (a + c) i l).1 = true := by
  rw [wk_add, if_pos h, h]
theorem wk_from (b0 : 0 ≤ b) {l : Int} (l0 : 0 ≤ l) (lb : l ≤ b) {f m : Nat} (hs : ps ds m f + b < 0) : (wk ds b (f + m) 0 l).1 = true := by
  rw [wk_add]
  split
  · assumption
  · rename_i c
    have bd := wk_bounds (ds := ds) f 0 l b0 l0 lb (by simpa using c)
    exact wk_low b0 m _ _ bd.1 ⟨m, Nat.le_refl _, by rw [Nat.zero_add]; omega⟩
theorem ps_le {B : Int} (hB : ∀ i : Nat, dy ds i ≤ B) (k i : Nat) : ps ds k i ≤ k * B := by
  induction k generalizing i with
  | zero => simp [ps]
  | succ k ih =>
    have := ih (i + 1)
    have := hB i
    simp only [ps]
    rw [Int.natCast_add, Int.add_mul]
    omega
/-- a comprehension -/
theorem pw_lc {E : Xp} {n : Nat} {at_ : Wlk} {tgt : PV → Sto → Option Sig} {tst : Sig → Sto → Res Bool} {el : Sig → Sto → Res PV} {cnt : Nat} {M : Sto} {Q : PV → Sto → Prop} (Inv : Nat → Sto → Prop) (h0 : Inv 0 M)
    (step : ∀ i m, i < cnt → Inv i m → ∃ x tau, at_ i m = some (some x) ∧ tgt x m = some tau ∧ pwX E (tst tau m) fun b m => if b = true then pwX E (el tau m) fun y m => ∃ acc, m[n]? = some (.lst acc) ∧ acc.length < LINE ∧ Inv (i + 1) (m.set n (.lst (acc ++ [y]))) else Inv (i + 1) m)
    (done : ∀ m, Inv cnt m → at_ cnt m = some none ∧ Q (.loc n) m) : pwX E (lcGo n at_ tgt tst el cnt 0 M) Q := by
  have go : ∀ k i m, i + k = cnt → Inv i m → pwX E (lcGo n at_ tgt tst el k i m) Q := by
    intro k
    induction k with
    | zero =>
      intro i m e h
      have e' : i = cnt := by omega
      subst e'
      obtain ⟨a, b⟩ := done m h
      unfold lcGo
      rw [a]
      exact b
    | succ k ih =>
      intro i m e h
      obtain ⟨x, tau, a, b, c⟩ := step i m (by omega) h
      unfold lcGo
      rw [a]
      simp only [b]
      rw [pwR_bind]
      refine pwR_mono c fun t m' q => ?_
      cases t with
      | false => exact ih _ _ (by omega) q
      | true =>
        simp only [if_true] at q ⊢
        rw [pwR_bind]
        refine pwR_mono q fun y m'' ⟨acc, q1, q2, q3⟩ => ?_
        rw [q1]
        simp only [q2, if_true]
        exact ih _ _ (by omega) q3
  exact go cnt 0 M (by omega) h0
theorem all_loc {M : Sto} {n : Nat} {bs : List Bool} (h : M[n]? = some (.lst (bs.map PV.bl))) : opM .all [.loc n] M = some (.bl (bs.all id), M) := by simp [opM, lst_of h]
theorem any_loc {M : Sto} {n : Nat} {bs : List Bool} (h : M[n]? = some (.lst (bs.map PV.bl))) : opM .any [.loc n] M = some (.bl (bs.any id), M) := by simp [opM, lst_of h]
theorem dct_of {M : Sto} {n : Nat} {kvs : List (PV × PV)} (h : M[n]? = some (.dct kvs)) : dctOf M (.loc n) = some kvs := by simp [dctOf, h]
theorem seqW_dct {M : Sto} {n : Nat} {kvs : List (PV × PV)} (h : M[n]? = some (.dct kvs)) (t : (kvs.all fun p => isTupK p.1) = true) : seqW M (.loc n) = some ⟨kvs.length, keyW n kvs.length⟩ := by simp [seqW, lst?, dctOf, h, t]
theorem keyW_at {M : Sto} {n i : Nat} {kvs : List (PV × PV)} (h : M[n]? = some (.dct kvs)) (t : (kvs.all fun p => isTupK p.1) = true) : keyW n kvs.length i M = some (kvs[i]?.map (·.1)) := by simp [keyW, dctOf, h, t]
theorem seqW_loc {M : Sto} {n : Nat} {xs : List PV} (h : M[n]? = some (.lst xs)) : seqW M (.loc n) = some ⟨xs.length, fun i M => (lst? M (.loc n)).map fun ys => ys[i]?⟩ := by simp only [seqW, lst_of h]
end
end SW

/-! Canals as plain things. -/
namespace SW
open PySem PySem.Spec PyProof.Rows L2

def sEnd : List Nat := (Str.ofString "end").cps.toList
def sCh : List Nat := (Str.ofString "chamber").cps.toList
def sPo : List Nat := (Str.ofString "pound").cps.toList
def sUp : List Nat := (Str.ofString "up").cps.toList
def sDown : List Nat := (Str.ofString "down").cps.toList
def opI? : Option Int → PV
  | some z => .int z
  | none => .non
/-- a place -/
inductive Pl where
  | en | ch | po (b d r : Int) (p : Option Int)
  deriving DecidableEq
def Pl.v : Pl → PV
  | .en => .tup [.str sEnd]
  | .ch => .tup [.str sCh]
  | .po b d r p => .tup [.str sPo, .int b, .int d, .int r, opI? p]
def Pl.ok : Pl → Prop
  | .po b d r p => 1 ≤ b ∧ b ≤ 9 ∧ 0 ≤ d ∧ d ≤ b ∧ 1 ≤ r ∧ r ≤ 4 ∧ ∀ z, p = some z → 0 ≤ z ∧ z ≤ 99
  | _ => True
def Pl.isCh : Pl → Bool
  | .ch => true
  | _ => false
def Pl.isEn : Pl → Bool
  | .en => true
  | _ => false
def gv (up : Bool) : PV := .str (if up = true then sUp else sDown)
/-- no two neighbours without a chamber -/
def Alt (ps : List Pl) : Prop := ∀ i a b, ps[i]? = some a → ps[i + 1]? = some b → a = .ch ∨ b = .ch
theorem Alt.snoc {xs : List Pl} {a b : Pl} (h : Alt (xs ++ [a])) (k : a = .ch ∨ b = .ch) : Alt (xs ++ [a] ++ [b]) := by
  intro i x y hx hy
  have hl : i + 1 < (xs ++ [a] ++ [b]).length := (List.getElem?_eq_some_iff.mp hy).1
  simp only [List.length_append, List.length_cons, List.length_nil] at hl
  by_cases c : i + 1 < (xs ++ [a]).length
  · rw [List.getElem?_append_left (by simp at c ⊢; omega)] at hx
    rw [List.getElem?_append_left c] at hy
    exact h i x y hx hy
  · simp only [List.length_append, List.length_cons, List.length_nil] at c
    have ei : i = xs.length := by omega
    subst ei
    rw [List.getElem?_append_left (by simp), List.getElem?_append_right (Nat.le_refl _)] at hx
    rw [List.getElem?_append_right (by simp)] at hy
    simp at hx hy
    subst hx hy
    exact k
structure CanOk (most : Nat) (ps : List Pl) (gs : List Bool) : Prop where
  shape : ∃ mid : List Pl, ps = .en :: mid ++ [.en] ∧ 1 ≤ mid.length ∧ mid.length ≤ most ∧ (∀ p ∈ mid, p ≠ .en)
  len : gs.length + 1 = ps.length
  ok : ∀ p ∈ ps, p.ok
  alt : Alt ps
theorem strE {a b : List Nat} {M : Sto} (h : (decide (a = b)) = true ∨ decide (a = b) = false) : opC .Eq (.str a) (.str b) M = some (decide (a = b)) := rfl
section
variable {M : Sto}
theorem ok_end : PyData.strOk ⟨sEnd.toArray⟩ = true := by decide +kernel
theorem ok_ch : PyData.strOk ⟨sCh.toArray⟩ = true := by decide +kernel
theorem ok_po : PyData.strOk ⟨sPo.toArray⟩ = true := by decide +kernel
theorem ok_up : PyData.strOk ⟨sUp.toArray⟩ = true := by decide +kernel
theorem ok_down : PyData.strOk ⟨sDown.toArray⟩ = true := by decide +kernel
/-- the data of a place -/
def Pl.d : Pl → PyData
  | .en => .tuple [.str ⟨sEnd.toArray⟩]
  | .ch => .tuple [.str ⟨sCh.toArray⟩]
  | .po b d r p => .tuple [.str ⟨sPo.toArray⟩, .int b, .int d, .int r, match p with
    | some z => .int z
    | none => .none]
theorem Pl.toD (p : Pl) (k : Nat) : SW.toD M (k + 2) p.v = some p.d := by
  cases p with
  | en => simp only [Pl.v, Pl.d, toD_tup, mapO, toD_str, Option.map_some]
  | ch => simp only [Pl.v, Pl.d, toD_tup, mapO, toD_str, Option.map_some]
  | po b d r p =>
    cases p <;> simp only [Pl.v, Pl.d, opI?, toD_tup, mapO, toD_str, toD_int, toD_non, Option.map_some]
theorem Pl.lay (p : Pl) : p.d.canLay0 = true := by
  cases p with
  | en => simp only [Pl.d, PyData.canLay0, PyData.canLayAll0, ok_end, Bool.and_self]
  | ch => simp only [Pl.d, PyData.canLay0, PyData.canLayAll0, ok_ch, Bool.and_self]
  | po b d r p => cases p <;> simp only [Pl.d, PyData.canLay0, PyData.canLayAll0, ok_po, Bool.and_self]
theorem eq_ch (p : Pl) : opC .Eq p.v (.tup [.str sCh]) M = some p.isCh := by
  refine (opC_eqD (p.toD 10) ((Pl.ch).toD 10) p.lay (Pl.ch).lay).trans ?_
  cases p with
  | en => decide +kernel
  | ch => decide +kernel
  | po b d r p => cases p <;> simp [Pl.d, PyData.eqv, PyData.eqvAll, Pl.isCh]
theorem ne_ch (p : Pl) : opC .NotEq p.v (.tup [.str sCh]) M = some (!p.isCh) := by
  have h := eq_ch (M := M) p
  have e : opC .NotEq p.v (.tup [.str sCh]) M = (opC .Eq p.v (.tup [.str sCh]) M).map not := by cases p <;> rfl
  rw [e, h]
  rfl
theorem eq_end (p : Pl) : opC .Eq p.v (.tup [.str sEnd]) M = some p.isEn := by
  refine (opC_eqD (p.toD 10) ((Pl.en).toD 10) p.lay (Pl.en).lay).trans ?_
  cases p with
  | en => decide +kernel
  | ch => decide +kernel
  | po b d r p => cases p <;> simp [Pl.d, PyData.eqv, PyData.eqvAll, Pl.isEn]
/-- [x] * k -/
theorem pw_mulL {E : Xp} {a : Nat} {k : Int} {Q : PV → Sto → Prop} : pwX E (Res.of (opB .Mult (.loc a) (.int k) M)) Q ↔ isS (lstM M[a]?) fun xs => (-(2 ^ 63) ≤ k ∧ k < 2 ^ 63 ∧ xs.length * k.toNat ≤ LINE) ∧ (List.replicate k.toNat xs).flatten.length ≤ LINE ∧ Q (.loc M.length) (M ++ [.lst (List.replicate k.toNat xs).flatten]) := by
  simp only [opB]
  rcases M[a]? with _ | (xs | xs | xs | _)
  · exact Iff.rfl
  · by_cases h : -(2 ^ 63) ≤ k ∧ k < 2 ^ 63 ∧ xs.length * k.toNat ≤ LINE
    · simp only [h, and_self, if_true]
      exact (pw_new _).trans ⟨fun q => ⟨h, q⟩, fun q => q.2⟩
    · simp only [h, if_false]
      exact ⟨fun q => q.elim, fun q => h q.1⟩
  · exact Iff.rfl
  · exact Iff.rfl
  · exact Iff.rfl
theorem rep_one {α : Type} (k : Nat) (x : α) : (List.replicate k [x]).flatten = List.replicate k x := by
  induction k with
  | zero => rfl
  | succ k ih => rw [List.replicate_succ, List.flatten_cons, ih, List.replicate_succ]; rfl
theorem atI_last {xs : List PV} {x : PV} : atI (xs ++ [x]) (-1) = some x := by
  unfold atI ixN
  rw [if_neg (by decide), if_pos (by simp; omega)]
  show (xs ++ [x])[(-1 + (((xs ++ [x]).length : Nat) : Int)).toNat]? = some x
  rw [show (-1 + (((xs ++ [x]).length : Nat) : Int)).toNat = xs.length from by simp; omega]
  simp
/-- one place of a stand -/
def Fit (cr : Int) : Pl → Int → Int → Int → Prop
  | .en, l, r, f => l = 0 ∧ 0 ≤ r ∧ r ≤ cr ∧ 0 ≤ f ∧ f ≤ cr
  | .ch, l, r, f => 0 ≤ l ∧ l ≤ 1 ∧ 0 ≤ r ∧ 0 ≤ f ∧ r + f ≤ 1
  | .po b _ m _, l, r, f => 0 ≤ l ∧ l ≤ b ∧ 0 ≤ r ∧ 0 ≤ f ∧ r + f ≤ m
/-- a stand's rows -/
structure Stnd (cr : Int) (ps : List Pl) (L R F : List Int) : Prop where
  l : L.length = ps.length
  r : R.length = ps.length
  f : F.length = ps.length
  fit : ∀ (i : Nat) p x y z, ps[i]? = some p → L[i]? = some x → R[i]? = some y → F[i]? = some z → Fit cr p x y z
theorem Stnd.nil {cr : Int} : Stnd cr [] [] [] [] := ⟨rfl, rfl, rfl, fun i p x y z h => by simp at h⟩
theorem snoc_get {α : Type} {xs : List α} {a b : α} {i : Nat} (h : (xs ++ [a])[i]? = some b) : (i < xs.length ∧ xs[i]? = some b) ∨ (i = xs.length ∧ b = a) := by
  by_cases c : i < xs.length
  · rw [List.getElem?_append_left c] at h
    exact .inl ⟨c, h⟩
  · rw [List.getElem?_append_right (by omega)] at h
    have hl := (List.getElem?_eq_some_iff.mp h).1
    simp at hl
    have e : i - xs.length = 0 := by omega
    rw [e] at h
    exact .inr ⟨by omega, by simpa using h.symm⟩
theorem Stnd.snoc {cr : Int} {ps : List Pl} {L R F : List Int} (h : Stnd cr ps L R F) {p : Pl} {x y z : Int} (k : Fit cr p x y z) : Stnd cr (ps ++ [p]) (L ++ [x]) (R ++ [y]) (F ++ [z]) := by
  have l1 := h.l
  have l2 := h.r
  have l3 := h.f
  refine ⟨by simp [l1], by simp [l2], by simp [l3], fun i q a b c h1 h2 h3 h4 => ?_⟩
  rcases snoc_get h1 with ⟨i1, g1⟩ | ⟨i1, rfl⟩
  · rcases snoc_get h2 with ⟨_, g2⟩ | ⟨i2, _⟩
    · rcases snoc_get h3 with ⟨_, g3⟩ | ⟨i3, _⟩
      · rcases snoc_get h4 with ⟨_, g4⟩ | ⟨i4, _⟩
        · exact h.fit i q a b c g1 g2 g3 g4
        · omega
      · omega
    · omega
  · rcases snoc_get h2 with ⟨i2, _⟩ | ⟨_, rfl⟩
    · omega
    · rcases snoc_get h3 with ⟨i3, _⟩ | ⟨_, rfl⟩
      · omega
      · rcases snoc_get h4 with ⟨i4, _⟩ | ⟨_, rfl⟩
        · omega
        · exact k
theorem take_snoc {α : Type} {xs : List α} {i : Nat} {a : α} (h : xs[i]? = some a) : xs.take (i + 1) = xs.take i ++ [a] := by
  obtain ⟨hl, e⟩ := List.getElem?_eq_some_iff.mp h
  rw [List.take_succ, h]
  rfl
theorem int_bl {M : Sto} {b : Bool} : opM .int [.bl b] M = some (.int (if b then 1 else 0), M) := rfl
/-! ### things of any kind -/
def isNumV : PV → Bool
  | .int _ => true
  | _ => false
def isBooV : PV → Bool
  | .bl _ => true
  | _ => false
def isTxtV : PV → Bool
  | .str _ => true
  | _ => false
def isTupV : PV → Bool
  | .tup _ => true
  | _ => false
/-- all of its data can be read -/
def GoodV (M : Sto) (v : PV) : Prop := ∃ k d, SW.toD M k v = some d
theorem GoodV.kept {M M' : Sto} {v : PV} (h : GoodV M v) (k : SW.Kept [] M M') : GoodV M' v := by
  obtain ⟨j, d, e⟩ := h
  exact ⟨j, d, toD_kept k _ _ _ e⟩
theorem mapO_all {α β : Type} {f : α → Option β} : ∀ {xs : List α} {ys : List β}, mapO f xs = some ys → ∀ x ∈ xs, ∃ y, f x = some y
  | [], ys, h, x, hx => by cases hx
  | a :: xs, ys, h, x, hx => by
    simp only [mapO] at h
    split at h
    · rename_i y zs e1 e2
      rcases List.mem_cons.mp hx with rfl | q
      · exact ⟨y, e1⟩
      · exact mapO_all e2 x q
    · cases h
theorem GoodV.tup {M : Sto} {xs : List PV} (h : GoodV M (.tup xs)) : ∀ x ∈ xs, GoodV M x := by
  obtain ⟨j, d, e⟩ := h
  cases j with
  | zero => cases e
  | succ j =>
    rw [toD_tup] at e
    obtain ⟨ds, e1, -⟩ := Option.map_eq_some_iff.mp e
    exact fun x hx => ⟨j, mapO_all e1 x hx⟩
theorem GoodV.ty {M : Sto} {v : PV} (h : GoodV M v) : isTy M .int v = some (isNumV v || isBooV v) ∧ isTy M .bool v = some (isBooV v) ∧ isTy M .str v = some (isTxtV v) ∧ isTy M .tuple v = some (isTupV v) := by
  cases v with
  | loc n =>
    obtain ⟨j, d, e⟩ := h
    have hl : ∃ xs, lst? M (.loc n) = some xs := by
      cases j with
      | zero => cases e
      | succ j =>
        rw [toD_locM] at e
        simp only [lst?]
        split at e
        · rename_i xs q; rw [q]; exact ⟨xs, rfl⟩
        · rename_i xs q; rw [q]; exact ⟨xs, rfl⟩
        · cases e
        · cases e
        · cases e
    obtain ⟨xs, q⟩ := hl
    simp only [isTy, q, Option.map_some]
    exact ⟨rfl, rfl, rfl, rfl⟩
  | _ => exact ⟨rfl, rfl, rfl, rfl⟩
/-- a whole number, none below 0 -/
def nn : PV → Bool
  | .int i => decide (0 ≤ i)
  | _ => false
def rowOk (n : Nat) : PV → Bool
  | .tup xs => decide (xs.length = n) && xs.all nn
  | _ => false
theorem nn_ints : ∀ {xs : List PV}, xs.all nn = true → ∃ ns : List Int, xs = ns.map PV.int ∧ ∀ x ∈ ns, 0 ≤ x
  | [], _ => ⟨[], rfl, by simp⟩
  | x :: xs, h => by
    rw [List.all_cons, Bool.and_eq_true] at h
    obtain ⟨ns, rfl, hn⟩ := nn_ints h.2
    cases x <;> simp [nn] at h
    rename_i i
    exact ⟨i :: ns, rfl, fun y hy => by
      rcases List.mem_cons.mp hy with rfl | q
      · exact h.1
      · exact hn y q⟩
theorem rowOk_ints {n : Nat} {v : PV} (h : rowOk n v = true) : ∃ ns : List Int, v = .tup (ns.map PV.int) ∧ ns.length = n ∧ ∀ x ∈ ns, 0 ≤ x := by
  cases v with
  | tup xs =>
    simp only [rowOk, Bool.and_eq_true, decide_eq_true_eq] at h
    obtain ⟨ns, rfl, hn⟩ := nn_ints h.2
    exact ⟨ns, rfl, by simpa using h.1, hn⟩
  | _ => cases h
def rowV : PV → List Int
  | .tup xs => xs.map fun
    | .int i => i
    | _ => 0
  | _ => []
theorem rowV_ints (ns : List Int) : rowV (.tup (ns.map PV.int)) = ns := by
  simp only [rowV, List.map_map]
  exact List.map_id' ns
def Pl.brim : Pl → Int
  | .en => 0
  | .ch => 1
  | .po b _ _ _ => b
def Pl.room : Pl → Option Int
  | .en => none
  | .ch => some 1
  | .po _ _ r _ => some r
def fit1 (p : Pl) (l r f : Int) : Bool := decide (l ≤ p.brim) && (match p.room with
  | some m => decide (r + f ≤ m)
  | none => true)
def fitAt (ps : List Pl) (L R F : List Int) (i : Nat) : Bool := match ps[i]?, L[i]?, R[i]?, F[i]? with
  | some p, some l, some r, some f => fit1 p l r f
  | _, _, _, _ => true
def fitsB (ps : List Pl) (L R F : List Int) : Bool := (List.range ps.length).all (fitAt ps L R F)
def stand3 (ps : List Pl) (x y z : PV) : Bool := rowOk ps.length x && rowOk ps.length y && rowOk ps.length z && fitsB ps (rowV x) (rowV y) (rowV z) && decide ((rowV y).sum + (rowV z).sum ≤ 60)
def standB (ps : List Pl) : PV → Bool
  | .tup [x, y, z] => stand3 ps x y z
  | _ => false
theorem fitsB_no {ps : List Pl} {L R F : List Int} {i : Nat} (hi : i < ps.length) (h : fitAt ps L R F i = false) : fitsB ps L R F = false := by
  unfold fitsB
  rw [List.all_eq_false]
  exact ⟨i, List.mem_range.mpr hi, by simp [h]⟩
theorem fitsB_yes {ps : List Pl} {L R F : List Int} (h : ∀ i, i < ps.length → fitAt ps L R F i = true) : fitsB ps L R F = true := by
  unfold fitsB
  rw [List.all_eq_true]
  exact fun i hi => h i (List.mem_range.mp hi)
theorem get_map {ns : List Int} {i : Nat} (h : i < ns.length) : atI (ns.map PV.int) (i : Int) = some (.int ns[i]) := atI_nat (by rw [List.getElem?_map, List.getElem?_eq_getElem h]; rfl)
theorem fit1_no1 {p : Pl} {l r f : Int} (h : ¬ l ≤ p.brim) : fit1 p l r f = false := by
  unfold fit1
  rw [decide_eq_false h, Bool.false_and]
theorem fit1_no2 {p : Pl} {l r f m : Int} (e : p.room = some m) (h : ¬ r + f ≤ m) : fit1 p l r f = false := by
  unfold fit1
  rw [e]
  simp only [decide_eq_false h, Bool.and_false]
theorem fit1_yes {p : Pl} {l r f : Int} (h : l ≤ p.brim) (k : ∀ m, p.room = some m → r + f ≤ m) : fit1 p l r f = true := by
  unfold fit1
  rw [decide_eq_true h, Bool.true_and]
  cases e : p.room with
  | none => rfl
  | some m => exact decide_eq_true (k m e)
/-! ### what can be shown -/
def Sh (w : Nat) (d : PyData) : Prop := d.showable = true ∧ d.hasDict = false ∧ d.canLay0 = true ∧ d.shown.length ≤ w
theorem Sh.mono {w w' : Nat} {d : PyData} (h : Sh w d) (k : w ≤ w') : Sh w' d := ⟨h.1, h.2.1, h.2.2.1, Nat.le_trans h.2.2.2 k⟩
theorem sh_non : Sh 8 .none := ⟨rfl, rfl, rfl, by decide +kernel⟩
theorem sh_bl (b : Bool) : Sh 8 (.bool b) := ⟨rfl, rfl, rfl, by cases b <;> decide +kernel⟩
theorem sh_int {i : Int} (h : i.natAbs < 10 ^ 70) : Sh 100 (.int i) := by
  refine ⟨?_, rfl, rfl, ?_⟩
  · simp only [PyData.showable, decide_eq_true_eq]
    exact Nat.lt_of_lt_of_le (PySem.Flt.log2_lt_of (k := 240) (by decide) (Nat.lt_trans h (by decide))) (by decide)
  · have e := int_text_length_le10 (k := 70) (by decide) h
    show (Str.ofString (toString i)).length ≤ 100
    rw [PySem.ofString_length]
    omega
theorem sh_all {w : Nat} : ∀ {ds : List PyData}, (∀ d ∈ ds, Sh w d) → PyData.showableAll ds = true ∧ PyData.hasDictAll ds = false ∧ PyData.canLayAll0 ds = true ∧ ((PyData.shownAll ds).map (·.length)).sum ≤ w * ds.length ∧ (PyData.shownAll ds).length = ds.length
  | [], _ => ⟨rfl, rfl, rfl, Nat.zero_le _, rfl⟩
  | d :: ds, h => by
    obtain ⟨h1, h2, h3, h4⟩ := h d (by simp)
    obtain ⟨k1, k2, k3, k4, k5⟩ := sh_all (ds := ds) fun e he => h e (by simp [he])
    refine ⟨by simp [PyData.showableAll, h1, k1], by simp [PyData.hasDictAll, h2, k2], by simp [PyData.canLayAll0, h3, k3], ?_, by simp [PyData.shownAll, k5]⟩
    simp only [PyData.shownAll, List.map_cons, List.sum_cons, List.length_cons]
    rw [Nat.mul_succ]
    omega
theorem sh_tup {w n : Nat} {ds : List PyData} (h : ∀ d ∈ ds, Sh w d) (hl : ds.length ≤ n) : Sh ((w + 2) * n + 3) (.tuple ds) := by
  obtain ⟨k1, k2, k3, k4, k5⟩ := sh_all h
  refine ⟨k1, k2, k3, ?_⟩
  have a := tupleText_len_le (PyData.shownAll ds)
  have m : w * ds.length ≤ w * n := Nat.mul_le_mul_left _ hl
  rw [Nat.add_mul]
  show (tupleText (PyData.shownAll ds)).length ≤ _
  omega
theorem sh_lst {w n : Nat} {ds : List PyData} (h : ∀ d ∈ ds, Sh w d) (hl : ds.length ≤ n) : Sh ((w + 2) * n + 3) (.list ds) := by
  obtain ⟨k1, k2, k3, k4, k5⟩ := sh_all h
  refine ⟨k1, k2, k3, ?_⟩
  have a := listText_len_le (PyData.shownAll ds)
  have m : w * ds.length ≤ w * n := Nat.mul_le_mul_left _ hl
  rw [Nat.add_mul]
  show (listText (PyData.shownAll ds)).length ≤ _
  omega
/-- a thing that can be read to the depth k and shown in w signs -/
def GD (M : Sto) (k w : Nat) (v : PV) : Prop := ∃ d, SW.toD M k v = some d ∧ Sh w d
theorem GD.mono {M : Sto} {k w w' : Nat} {v : PV} (h : GD M k w v) (q : w ≤ w') : GD M k w' v := by
  obtain ⟨d, e, s⟩ := h
  exact ⟨d, e, s.mono q⟩
theorem GD.good {M : Sto} {k w : Nat} {v : PV} (h : GD M k w v) : GoodV M v := by
  obtain ⟨d, e, s⟩ := h
  exact ⟨k, d, e⟩
theorem GD.kept {M M' : Sto} {k w : Nat} {v : PV} (h : GD M k w v) (q : SW.Kept [] M M') : GD M' k w v := by
  obtain ⟨d, e, s⟩ := h
  exact ⟨d, toD_kept q _ _ _ e, s⟩
theorem gd_mapO {M : Sto} {k w : Nat} : ∀ {xs : List PV}, (∀ x ∈ xs, GD M k w x) → ∃ ds, mapO (SW.toD M k) xs = some ds ∧ (∀ d ∈ ds, Sh w d) ∧ ds.length = xs.length
  | [], _ => ⟨[], rfl, by simp, rfl⟩
  | x :: xs, h => by
    obtain ⟨d, e, s⟩ := h x (by simp)
    obtain ⟨ds, e2, s2, l2⟩ := gd_mapO (xs := xs) fun y hy => h y (by simp [hy])
    exact ⟨d :: ds, mapO_cons e e2, fun z hz => by
      rcases List.mem_cons.mp hz with rfl | q
      · exact s
      · exact s2 z q, by simp [l2]⟩
theorem gd_tup {M : Sto} {k w n : Nat} {xs : List PV} (h : ∀ x ∈ xs, GD M k w x) (hl : xs.length ≤ n) : GD M (k + 1) ((w + 2) * n + 3) (.tup xs) := by
  obtain ⟨ds, e, s, l⟩ := gd_mapO h
  exact ⟨.tuple ds, by rw [toD_tup, e]; rfl, sh_tup s (by omega)⟩
theorem gd_lst {M : Sto} {k w n p : Nat} {xs : List PV} (hp : M[p]? = some (.lst xs)) (h : ∀ x ∈ xs, GD M k w x) (hl : xs.length ≤ n) : GD M (k + 1) ((w + 2) * n + 3) (.loc p) := by
  obtain ⟨ds, e, s, l⟩ := gd_mapO h
  exact ⟨.list ds, by rw [toD_loc hp, e]; rfl, sh_lst s (by omega)⟩
theorem gd_int {M : Sto} {k : Nat} {i : Int} (h : i.natAbs < 10 ^ 70) : GD M k 100 (.int i) := ⟨_, toD_int, sh_int h⟩
theorem gd_bl {M : Sto} {k : Nat} {b : Bool} : GD M k 100 (.bl b) := ⟨_, toD_bl, (sh_bl b).mono (by decide)⟩
theorem gd_non {M : Sto} {k : Nat} : GD M k 100 .non := ⟨_, toD_non, sh_non.mono (by decide)⟩
theorem gd_str {M : Sto} {k : Nat} {s : List Nat} (h : PyData.strOk ⟨s.toArray⟩ = true) (l : (reprText ⟨s.toArray⟩).length ≤ 100) : GD M k 100 (.str s) := ⟨_, toD_str, rfl, rfl, h, l⟩
/-- repr -/
theorem repr_gd {M : Sto} {w : Nat} {v : PV} (h : GD M 12 w v) (hw : w ≤ 16777216) : ∃ s, ∀ M', SW.Kept [] M M' → opM .repr [v] M' = some (.str s, M') := by
  obtain ⟨d, e, s1, s2, s3, s4⟩ := h
  refine ⟨d.shown.cps.toList, fun M' kp => ?_⟩
  simp only [opM, toD_kept kp _ _ _ e]
  rw [if_pos ⟨s1, s2, Nat.le_trans s4 hw⟩]
/-! ### comprehensions over known things -/
def pwO (o : Option PV) (P : Prop) (R : PV → Prop) (_ : Nix R := .mk) : Prop := match o with
  | none => P
  | some v => R v
theorem pwO_n (P : Prop) (R : PV → Prop) : pwO none P R ↔ P := Iff.rfl
theorem pwO_s (v : PV) (P : Prop) (R : PV → Prop) : pwO (some v) P R ↔ R v := Iff.rfl
theorem pw_lc0 {E : Xp} {n i : Nat} {at_ : Wlk} {tgt : PV → Sto → Option Sig} {tst : Sig → Sto → Res Bool} {el : Sig → Sto → Res PV} {M : Sto} {Q : PV → Sto → Prop} : pwX E (lcGo n at_ tgt tst el 0 i M) Q ↔ isS (at_ i M) fun o => pwO o (Q (.loc n) M) fun _ => False := by
  unfold lcGo
  rcases at_ i M with _ | (_ | _) <;> exact Iff.rfl
theorem pw_lcS {E : Xp} {n k i : Nat} {at_ : Wlk} {tgt : PV → Sto → Option Sig} {tst : Sig → Sto → Res Bool} {el : Sig → Sto → Res PV} {M : Sto} {Q : PV → Sto → Prop} : pwX E (lcGo n at_ tgt tst el (k + 1) i M) Q ↔ isS (at_ i M) fun o => pwO o (Q (.loc n) M) fun v => isS (tgt v M) fun tau => pwX E (tst tau M) fun b M =>
    if b = true then pwX E (el tau M) fun y M => isS (lstM M[n]?) fun acc => acc.length < LINE ∧ pwX E (lcGo n at_ tgt tst el k (i + 1) (M.set n (.lst (acc ++ [y])))) Q else pwX E (lcGo n at_ tgt tst el k (i + 1) M) Q := by
  conv => lhs; unfold lcGo
  rcases at_ i M with _ | (_ | v)
  · exact Iff.rfl
  · exact Iff.rfl
  · show pwX E (match tgt v M with
      | some tau => _
      | none => .stuck) Q ↔ isS (tgt v M) _
    rcases tgt v M with _ | tau
    · exact Iff.rfl
    · show pwX E (Res.bind _ _) Q ↔ pwX E _ _
      rw [pwR_bind]
      refine pwR_cg fun b m => ?_
      cases b with
      | false => exact Iff.rfl
      | true =>
        show pwX E (Res.bind _ _) Q ↔ pwX E _ _
        rw [pwR_bind]
        refine pwR_cg fun y m => ?_
        rcases m[n]? with _ | (acc | acc | acc | _)
        · exact Iff.rfl
        · show pwX E (if _ then _ else _) Q ↔ _ ∧ _
          by_cases h : acc.length < LINE <;> simp [h]
        · exact Iff.rfl
        · exact Iff.rfl
        · exact Iff.rfl
theorem set_app_k {M l : Sto} {k : Nat} {o : PObj} : (M ++ l).set (M.length + k) o = M ++ l.set k o := by
  rw [List.set_append_right _ _ (by omega)]
  congr 2
  omega
theorem set_app_0 {M l : Sto} {o : PObj} : (M ++ l).set M.length o = M ++ l.set 0 o := set_app_k (k := 0)
/-! ### three rows in the store -/
def Sm (X : List Int) : Prop := ∀ x ∈ X, x.natAbs ≤ 1000000000000000000000000000000000000000000000000000000000000
structure RI (m : Sto) (r a b d n : Nat) : Prop where
  top : m[r]? = some (.lst [.loc a, .loc b, .loc d])
  ne : a ≠ b ∧ a ≠ d ∧ b ≠ d ∧ r ≠ a ∧ r ≠ b ∧ r ≠ d
  a : ∃ X : List Int, m[a]? = some (.lst (X.map PV.int)) ∧ X.length = n ∧ Sm X
  b : ∃ X : List Int, m[b]? = some (.lst (X.map PV.int)) ∧ X.length = n ∧ Sm X
  d : ∃ X : List Int, m[d]? = some (.lst (X.map PV.int)) ∧ X.length = n ∧ Sm X
def RowG (m : Sto) (q : Nat) : Prop := ∃ U, m[q]? = some (.lst U) ∧ U.length ≤ 50 ∧ ∀ u ∈ U, GD m 10 1000 u
def Rw (m : Sto) (r : Nat) : Prop := ∃ a b d, m[r]? = some (.lst [.loc a, .loc b, .loc d]) ∧ RowG m a ∧ RowG m b ∧ RowG m d
theorem RI.kept {m m' : Sto} {r a b d n : Nat} {S : List Nat} (h : RI m r a b d n) (k : SW.Kept S m m') (h0 : r ∉ S ∧ a ∉ S ∧ b ∉ S ∧ d ∉ S) : RI m' r a b d n := by
  obtain ⟨X, x1, x2, x3⟩ := h.a
  obtain ⟨Y, y1, y2, y3⟩ := h.b
  obtain ⟨Z, z1, z2, z3⟩ := h.d
  exact ⟨k.obj h.top h0.1, h.ne, ⟨X, k.obj x1 h0.2.1, x2, x3⟩, ⟨Y, k.obj y1 h0.2.2.1, y2, y3⟩, ⟨Z, k.obj z1 h0.2.2.2, z2, z3⟩⟩
theorem row_ints {m : Sto} {q : Nat} {X : List Int} (h : m[q]? = some (.lst (X.map PV.int))) (l : X.length ≤ 50) (b : Sm X) : RowG m q := by
  refine ⟨_, h, by simpa using l, fun u hu => ?_⟩
  obtain ⟨x, hx, rfl⟩ := List.mem_map.mp hu
  exact (gd_int (Nat.lt_of_le_of_lt (b x hx) (by decide))).mono (by decide)
theorem RI.rw {m : Sto} {r a b d n : Nat} (h : RI m r a b d n) (hn : n ≤ 50) : Rw m r := by
  obtain ⟨X, x1, x2, x3⟩ := h.a
  obtain ⟨Y, y1, y2, y3⟩ := h.b
  obtain ⟨Z, z1, z2, z3⟩ := h.d
  exact ⟨a, b, d, h.top, row_ints x1 (by omega) x3, row_ints y1 (by omega) y3, row_ints z1 (by omega) z3⟩
def pk (a b d : Nat) (k : Int) : Nat := if k = 0 then a else if k = 1 then b else d
theorem pk_at {a b d : Nat} {k : Int} (h0 : 0 ≤ k) (h1 : k < 3) : atI [PV.loc a, .loc b, .loc d] k = some (.loc (pk a b d k)) := by
  rcases (show k = 0 ∨ k = 1 ∨ k = 2 by omega) with rfl | rfl | rfl
  · exact atI_0
  · exact atI_1
  · exact atI_2
theorem pk_mem (a b d : Nat) (k : Int) : pk a b d k = a ∨ pk a b d k = b ∨ pk a b d k = d := by
  unfold pk
  split
  · exact .inl rfl
  · split
    · exact .inr (.inl rfl)
    · exact .inr (.inr rfl)
theorem RI.get {m : Sto} {r a b d n : Nat} (h : RI m r a b d n) (k : Int) : ∃ X : List Int, m[pk a b d k]? = some (.lst (X.map PV.int)) ∧ X.length = n ∧ Sm X := by
  rcases pk_mem a b d k with e | e | e <;> rw [e]
  · exact h.a
  · exact h.b
  · exact h.d
theorem RI.set {m : Sto} {r a b d n : Nat} (h : RI m r a b d n) (hn : n ≤ 50) (k : Int) {U : List PV} (lU : U.length ≤ 50) (gU : ∀ u ∈ U, GD (m.set (pk a b d k) (.lst U)) 10 1000 u) : Rw (m.set (pk a b d k) (.lst U)) r := by
  obtain ⟨X, x1, x2, x3⟩ := h.a
  obtain ⟨Y, y1, y2, y3⟩ := h.b
  obtain ⟨Z, z1, z2, z3⟩ := h.d
  obtain ⟨n1, n2, n3, n4, n5, n6⟩ := h.ne
  have one : ∀ (q : Nat) (X : List Int), m[q]? = some (.lst (X.map PV.int)) → X.length = n → Sm X → RowG (m.set (pk a b d k) (.lst U)) q := fun q X h1 h2 h3 => by
    by_cases e : pk a b d k = q
    · refine ⟨U, ?_, lU, gU⟩
      rw [e]
      exact get_set h1
    · exact row_ints (get_setne h1 e) (by omega) h3
  refine ⟨a, b, d, get_setne h.top ?_, one a X x1 x2 x3, one b Y y1 y2 y3, one d Z z1 z2 z3⟩
  rcases pk_mem a b d k with e | e | e <;> rw [e] <;> omega
theorem app_get_lt {M l : Sto} {n : Nat} (h : n < M.length) : (M ++ l)[n]? = M[n]? := List.getElem?_append_left h
theorem tuple_locM {M : Sto} {n : Nat} : opM .tuple [.loc n] M = (items? M (.loc n)).map fun xs => (.tup xs, M) := rfl
theorem items_locM {M : Sto} {n : Nat} : items? M (.loc n) = match M[n]? with
    | some (.lst xs) => some xs
    | some (.frz xs) => some xs
    | _ => none := rfl
theorem lst_locM {M : Sto} {n : Nat} : lst? M (.loc n) = match M[n]? with
    | some (.lst xs) => some xs
    | some (.frz xs) => some xs
    | _ => none := rfl
theorem sm_sum : ∀ {X : List Int}, Sm X → X.sum.natAbs ≤ X.length * 1000000000000000000000000000000000000000000000000000000000000
  | [], _ => by simp
  | x :: X, h => by
    have a := h x (by simp)
    have b := sm_sum (X := X) fun y hy => h y (by simp [hy])
    rw [List.sum_cons, List.length_cons, Nat.succ_mul]
    omega
theorem gd_small {M : Sto} {k : Nat} {i : Int} (h : i.natAbs ≤ 1000000000000000000000000000000000000000000000000000000000000000) : GD M k 1000 (.int i) := (gd_int (Nat.lt_of_le_of_lt h (by decide))).mono (by decide)
theorem set_mem {xs : List PV} {i : Nat} {v u : PV} (h : u ∈ xs.set i v) : u ∈ xs ∨ u = v := List.mem_or_eq_of_mem_set h
theorem ints_gd {M : Sto} {X : List Int} (h : Sm X) : ∀ u ∈ X.map PV.int, GD M 10 1000 u := fun u hu => by
  obtain ⟨x, hx, rfl⟩ := List.mem_map.mp hu
  exact gd_small (Nat.le_trans (h x hx) (by decide))
end
end SW

/-! A canal's stands: the sums. -/
namespace SW
open PySem PySem.Spec PyProof.Rows L2

def wt : Pl → Int
  | .en => 14
  | .ch => 1
  | .po _ _ r _ => r
def noCh (ps : List Pl) : Nat := (ps.filter fun p => !p.isCh).length
theorem Alt.tail {a : Pl} {ps : List Pl} (h : Alt (a :: ps)) : Alt ps := fun i x y hx hy => h (i + 1) x y (by simpa using hx) (by simpa using hy)
theorem isCh_iff {p : Pl} : p.isCh = true ↔ p = .ch := by cases p <;> simp [Pl.isCh]
theorem alt_count : ∀ ps : List Pl, Alt ps → 2 * noCh ps ≤ ps.length + 1 ∧ (ps.head? = some .ch → 2 * noCh ps ≤ ps.length)
  | [], _ => by simp [noCh]
  | a :: ps, h => by
    obtain ⟨h1, h2⟩ := alt_count ps h.tail
    by_cases c : a = .ch
    · subst c
      have e : noCh (Pl.ch :: ps) = noCh ps := by simp [noCh, Pl.isCh]
      rw [e, List.length_cons]
      exact ⟨by omega, fun _ => by omega⟩
    · have e : noCh (a :: ps) = noCh ps + 1 := by
        have : a.isCh = false := by
          cases q : a.isCh
          · rfl
          · exact absurd (isCh_iff.mp q) c
        simp [noCh, this]
      rw [e, List.length_cons]
      refine ⟨?_, fun q => by simp at q; exact absurd q c⟩
      cases ps with
      | nil => simp [noCh]
      | cons b r =>
        have := h 0 a b rfl rfl
        rcases this with q | q
        · exact absurd q c
        · have := h2 (by rw [q]; rfl)
          omega
theorem wt_mid : ∀ mid : List Pl, (∀ p ∈ mid, p ≠ .en) → (∀ p ∈ mid, p.ok) → (mid.map wt).sum ≤ mid.length + 3 * noCh mid
  | [], _, _ => by simp [noCh]
  | p :: mid, h, k => by
    have ih := wt_mid mid (fun q hq => h q (by simp [hq])) (fun q hq => k q (by simp [hq]))
    have hp := h p (by simp)
    have kp := k p (by simp)
    rw [List.map_cons, List.sum_cons, List.length_cons]
    cases p with
    | en => exact absurd rfl hp
    | ch =>
      have e : noCh (Pl.ch :: mid) = noCh mid := by simp [noCh, Pl.isCh]
      rw [e]
      simp only [wt]
      omega
    | po b d r q =>
      have e : noCh (Pl.po b d r q :: mid) = noCh mid + 1 := by simp [noCh, Pl.isCh]
      rw [e]
      obtain ⟨_, _, _, _, _, k6, _⟩ := kp
      simp only [wt]
      omega
theorem stand_sum {cr : Int} (hc : cr ≤ 7) : ∀ {ps : List Pl} {L R F : List Int}, Stnd cr ps L R F → R.sum + F.sum ≤ (ps.map wt).sum
  | [], L, R, F, h => by
    have r0 : R = [] := List.eq_nil_of_length_eq_zero h.r
    have f0 : F = [] := List.eq_nil_of_length_eq_zero h.f
    subst r0 f0
    simp
  | p :: ps, L, R, F, h => by
    have h1 := h.l
    have h2 := h.r
    have h3 := h.f
    match L, R, F, h1, h2, h3 with
    | l :: L, r :: R, f :: F, h1, h2, h3 =>
      have ih := stand_sum hc (ps := ps) (L := L) (R := R) (F := F) ⟨by simpa using h1, by simpa using h2, by simpa using h3, fun i q x y z a b c d => h.fit (i + 1) q x y z (by simpa using a) (by simpa using b) (by simpa using c) (by simpa using d)⟩
      have ft := h.fit 0 p l r f rfl rfl rfl rfl
      rw [List.map_cons, List.sum_cons, List.sum_cons, List.sum_cons]
      cases p with
      | en =>
        obtain ⟨_, _, _, _, _⟩ := ft
        simp only [wt]
        omega
      | ch =>
        obtain ⟨_, _, _, _, _⟩ := ft
        simp only [wt]
        omega
      | po b d m q =>
        obtain ⟨_, _, _, _, _⟩ := ft
        simp only [wt]
        omega
theorem can_sum {ps : List Pl} {gs : List Bool} (h : CanOk 11 ps gs) : (ps.map wt).sum ≤ 60 := by
  obtain ⟨mid, rfl, m1, m2, m3⟩ := h.shape
  have c := (alt_count _ h.alt).1
  have w := wt_mid mid m3 (fun p hp => h.ok p (by simp [hp]))
  have e : noCh (Pl.en :: mid ++ [.en]) = noCh mid + 2 := by simp [noCh, Pl.isCh, List.filter_append]
  rw [e] at c
  simp only [List.length_append, List.length_cons, List.length_nil] at c
  rw [List.map_append, List.map_cons, List.sum_append, List.sum_cons]
  simp only [List.map_cons, List.map_nil, List.sum_cons, List.sum_nil, wt]
  omega
theorem Stnd.bounds {cr : Int} (hc : cr ≤ 7) {ps : List Pl} {L R F : List Int} (h : Stnd cr ps L R F) (ok : ∀ p ∈ ps, p.ok) : (∀ x ∈ L, 0 ≤ x ∧ x ≤ 100) ∧ (∀ x ∈ R, 0 ≤ x ∧ x ≤ 100) ∧ (∀ x ∈ F, 0 ≤ x ∧ x ≤ 100) := by
  have h1 := h.l
  have h2 := h.r
  have h3 := h.f
  have at_ : ∀ i (hi : i < ps.length), (0 ≤ L[i]'(by omega) ∧ L[i]'(by omega) ≤ 100) ∧ (0 ≤ R[i]'(by omega) ∧ R[i]'(by omega) ≤ 100) ∧ (0 ≤ F[i]'(by omega) ∧ F[i]'(by omega) ≤ 100) := fun i hi => by
    have ft := h.fit i ps[i] (L[i]'(by omega)) (R[i]'(by omega)) (F[i]'(by omega)) (List.getElem?_eq_getElem hi) (List.getElem?_eq_getElem _) (List.getElem?_eq_getElem _) (List.getElem?_eq_getElem _)
    have op := ok _ (List.getElem_mem hi)
    revert ft op
    generalize ps[i] = p
    generalize L[i]'(by omega) = a
    generalize R[i]'(by omega) = b
    generalize F[i]'(by omega) = c
    intro ft op
    cases p with
    | en =>
      obtain ⟨_, _, _, _, _⟩ := ft
      omega
    | ch =>
      obtain ⟨_, _, _, _, _⟩ := ft
      omega
    | po b d m q =>
      obtain ⟨_, _, _, _, _⟩ := ft
      obtain ⟨_, _, _, _, _, _, _⟩ := op
      omega
  refine ⟨fun x hx => ?_, fun x hx => ?_, fun x hx => ?_⟩
  · obtain ⟨i, hi, rfl⟩ := List.mem_iff_getElem.mp hx
    exact (at_ i (by omega)).1
  · obtain ⟨i, hi, rfl⟩ := List.mem_iff_getElem.mp hx
    exact (at_ i (by omega)).2.1
  · obtain ⟨i, hi, rfl⟩ := List.mem_iff_getElem.mp hx
    exact (at_ i (by omega)).2.2
theorem row_yes {n : Nat} {X : List Int} (h : X.length = n) (k : ∀ x ∈ X, 0 ≤ x ∧ x ≤ 100) : rowOk n (.tup (X.map PV.int)) = true := by
  simp only [rowOk, Bool.and_eq_true, decide_eq_true_eq]
  refine ⟨by simpa using h, ?_⟩
  rw [List.all_eq_true]
  intro v hv
  obtain ⟨x, hx, rfl⟩ := List.mem_map.mp hv
  exact decide_eq_true (k x hx).1
theorem stand_yes {cr : Int} (hc : cr ≤ 7) {ps : List Pl} {gs : List Bool} {L R F : List Int} (h : Stnd cr ps L R F) (c : CanOk 11 ps gs) : standB ps (.tup [.tup (L.map PV.int), .tup (R.map PV.int), .tup (F.map PV.int)]) = true := by
  obtain ⟨b1, b2, b3⟩ := h.bounds hc c.ok
  have h1 := h.l
  have h2 := h.r
  have h3 := h.f
  simp only [standB, stand3, row_yes h.l b1, row_yes h.r b2, row_yes h.f b3, rowV_ints, Bool.true_and, Bool.and_eq_true, decide_eq_true_eq]
  refine ⟨fitsB_yes fun i hi => ?_, Int.le_trans (stand_sum hc h) (can_sum c)⟩
  have ft := h.fit i ps[i] (L[i]'(by omega)) (R[i]'(by omega)) (F[i]'(by omega)) (List.getElem?_eq_getElem hi) (List.getElem?_eq_getElem _) (List.getElem?_eq_getElem _) (List.getElem?_eq_getElem _)
  simp only [fitAt, List.getElem?_eq_getElem hi, List.getElem?_eq_getElem (show i < L.length by omega), List.getElem?_eq_getElem (show i < R.length by omega), List.getElem?_eq_getElem (show i < F.length by omega)]
  revert ft
  generalize ps[i] = p
  intro ft
  cases p with
  | en =>
    obtain ⟨f1, _, _, _, _⟩ := ft
    exact fit1_yes (by rw [f1]; exact Int.le_refl _) (fun m e => by cases e)
  | ch =>
    obtain ⟨_, f2, _, _, f5⟩ := ft
    exact fit1_yes f2 (fun m e => by cases e; exact f5)
  | po b d m q =>
    obtain ⟨_, f2, _, _, f5⟩ := ft
    exact fit1_yes f2 (fun m e => by cases e; exact f5)
/-- what goes through -/
def thrB (R F : List Int) : Bool := decide ((R.take (R.length - 1)).sum + (F.drop 1).sum = 0)
theorem sum_pos : ∀ {X : List Int}, (∀ x ∈ X, 0 ≤ x) → 0 ≤ X.sum ∧ (X.sum = 0 ↔ X.filter (fun x => decide (0 < x)) = [])
  | [], _ => by simp
  | x :: X, h => by
    obtain ⟨h1, h2⟩ := sum_pos (X := X) fun y hy => h y (by simp [hy])
    have h0 := h x (by simp)
    rw [List.sum_cons, List.filter_cons]
    refine ⟨by omega, ?_⟩
    by_cases c : 0 < x
    · rw [if_pos (by simpa using c)]
      exact ⟨fun q => by omega, fun q => by cases q⟩
    · rw [if_neg (by simpa using c), ← h2]
      omega
theorem cut_but_last {X : List Int} (h : 1 ≤ X.length) : cut (X.map PV.int) none (some (-1)) = (X.take (X.length - 1)).map PV.int := by
  have e : HT.sIx (X.map PV.int).length (X.map PV.int).length (some (-1)) = X.length - 1 := by
    show (if (-1 : Int) < 0 then ((-1 : Int) + ((X.map PV.int).length : Int)).toNat else min (Int.toNat (-1)) (X.map PV.int).length) = _
    rw [if_pos (by decide), List.length_map]
    omega
  unfold cut
  rw [e, HT.sIx_none, List.drop_zero, Nat.sub_zero, List.map_take]
theorem cut_but_first {X : List Int} (h : 1 ≤ X.length) : cut (X.map PV.int) (some 1) none = (X.drop 1).map PV.int := by
  have e : HT.sIx (X.map PV.int).length 0 (some 1) = 1 := by
    show (if (1 : Int) < 0 then ((1 : Int) + ((X.map PV.int).length : Int)).toNat else min (Int.toNat 1) (X.map PV.int).length) = _
    rw [if_neg (by decide), List.length_map]
    simp
    omega
  unfold cut
  rw [e, HT.sIx_none, List.map_drop, List.take_of_length_le (by simp)]
theorem gd_eq_ints {M : Sto} {k : Nat} : ∀ X : List Int, ∃ ds, mapO (SW.toD M k) (X.map PV.int) = some ds ∧ PyData.canLayAll0 ds = true ∧ ds.length = X.length
  | [] => ⟨[], rfl, rfl, rfl⟩
  | x :: X => by
    obtain ⟨ds, h1, h2, h3⟩ := gd_eq_ints (M := M) (k := k) X
    exact ⟨.int x :: ds, mapO_cons toD_int h1, by simp [PyData.canLayAll0, PyData.canLay0, h2], by simp [h3]⟩
theorem opC_eqNil {M : Sto} {a b : Nat} {X : List Int} (ha : M[a]? = some (.lst (X.map PV.int))) (hb : M[b]? = some (.lst [])) : opC .Eq (.loc a) (.loc b) M = some (decide (X = [])) := by
  obtain ⟨ds, h1, h2, h3⟩ := gd_eq_ints (M := M) (k := 11) X
  have e1 : SW.toD M 12 (.loc a) = some (.list ds) := by rw [toD_loc ha, h1]; rfl
  have e2 : SW.toD M 12 (.loc b) = some (.list []) := by rw [toD_loc hb]; rfl
  rw [opC_eqD e1 e2 (by simp [PyData.canLay0, h2]) (by rfl)]
  congr 1
  cases X with
  | nil =>
    have : ds = [] := List.eq_nil_of_length_eq_zero (by simpa using h3)
    subst this
    simp [PyData.eqv, PyData.eqvAll]
  | cons x X =>
    cases ds with
    | nil => simp at h3
    | cons d ds => simp [PyData.eqv, PyData.eqvAll]
theorem pw_mulT {E : Xp} {M : Sto} {xs : List PV} {k : Int} {Q : PV → Sto → Prop} : pwX E (Res.of (opB .Mult (.tup xs) (.int k) M)) Q ↔ (xs.isEmpty = false ∧ 0 ≤ k ∧ k ≤ 1000 ∧ xs.length ≤ 1000) ∧ Q (.tup (List.replicate k.toNat xs).flatten) M := pw_if
theorem thr_own {R F : List Int} (hR : ∀ x ∈ R, 0 ≤ x ∧ x ≤ 100) (hF : ∀ x ∈ F, 0 ≤ x ∧ x ≤ 100) : thrB R F = decide ((R.take (R.length - 1) ++ F.drop 1).filter (fun x => decide (0 < x)) = []) := by
  unfold thrB
  congr 1
  rw [← List.sum_append]
  refine propext (sum_pos fun x hx => ?_).2
  rcases List.mem_append.mp hx with q | q
  · exact (hR x (List.mem_of_mem_take q)).1
  · exact (hF x (List.mem_of_mem_drop q)).1
theorem thr_none (n : Nat) (k : Int) : thrB (List.replicate n 0 ++ [k]) (k :: List.replicate n 0) = true := by
  unfold thrB
  rw [decide_eq_true_eq]
  have z : ∀ n : Nat, (List.replicate n (0 : Int)).sum = 0 := fun n => by
    induction n with
    | zero => rfl
    | succ n ih => rw [List.replicate_succ, List.sum_cons, ih]; rfl
  simp [z]
end SW

/-! The rows, bound together. -/
namespace SW
open PySem PySem.Spec PyProof.Rows L2
def rowD := And.intro @e_fld (And.intro @st_setF (And.intro @isN_non (And.intro @e_fmt (And.intro @e_spl (And.intro @e_jst (And.intro @j_nil (And.intro @j_cons (And.intro @i_zip3 (And.intro @p_nil (And.intro @p_cons (And.intro @e_dct (And.intro @e_slcR (And.intro @b_cons (And.intro @b_nil (And.intro @st_asg (And.intro @st_setI (And.intro @st_setT (And.intro @st_expr (And.intro @st_ret (And.intro @st_retN (And.intro @st_ife (And.intro @st_for (And.intro @st_whl (And.intro @st_pass (And.intro @e_nam (And.intro @e_non (And.intro @e_bl (And.intro @e_int (And.intro @e_str (And.intro @e_tup (And.intro @e_lst (And.intro @e_bin (And.intro @e_neg (And.intro @e_nt (And.intro @e_cmp (And.intro @e_chn (And.intro @e_ife (And.intro @e_sub (And.intro @e_slc (And.intro @e_slcL (And.intro @e_slcH (And.intro @e_blt (And.intro @e_isi (And.intro @e_meth (And.intro @e_meth0 (And.intro @e_lc (And.intro @l_nil (And.intro @l_cons (And.intro @and_nil (And.intro @and_b (And.intro @or_nil (And.intro @or_b (And.intro @t_nil (And.intro @t_cons (And.intro @i_seq (And.intro @i_rng1 (And.intro @i_rngR (And.intro @i_rng2 (And.intro @i_enum (And.intro @i_zip (And.intro @i_rev (And.intro @e_glb (And.intro @e_trev (And.intro @e_lns (And.intro @e_dgt (And.intro @e_jn (And.intro @e_lrv (And.intro @st_raiF (And.intro @st_tryR (And.intro @st_rai (And.intro @st_tryC (And.intro @st_tryA (And.intro @st_tryN (And.intro @e_lrg (And.intro @e_lrg2 (And.intro @finQ_f (And.intro @finQ_t (@pwR_boolB))))))))))))))))))))))))))))))))))))))))))))))))))))))))))))))))))))))))))))))
def rowU := And.intro @isT_str (And.intro @revS_t (And.intro @pair_t (And.intro @puts_nil (And.intro @rev_t (And.intro @hs_nil (And.intro @hs_cst (And.intro @hc_non (And.intro @hc_bl (And.intro @hc_int (And.intro @isB_bl (And.intro @isI_int (And.intro @isS_some (And.intro @isS_none (And.intro @isS_map (And.intro @pw_add (And.intro @pw_sub (And.intro @pw_mul (And.intro @pw_div (And.intro @pw_mod (And.intro @pw_pow (And.intro @pw_addT (And.intro @pw_addS (And.intro @opC_lt (And.intro @opC_le (And.intro @opC_gt (And.intro @opC_ge (And.intro @opC_eqI (And.intro @opC_neI (And.intro @opC_neS (And.intro @asg_one (And.intro @asg_tup (And.intro @setAll_nil (And.intro @setAll_cons (And.intro @len_tup (And.intro @sum_tup (And.intro @tuple_tup (And.intro @list_tup (And.intro @min_int (And.intro @max_int (And.intro @ixt_tup (And.intro @atI_0 (And.intro @atI_1 (And.intro @atI_2 (And.intro @atI_3 (And.intro @seqW_tup (And.intro @enumW_tup (And.intro @zipW_tup (And.intro @ty_tt (And.intro @ty_ss (And.intro @ty_ii (And.intro @ty_bi (And.intro @ty_bb (And.intro @ty_ib (And.intro @tr_b (@tr_n)))))))))))))))))))))))))))))))))))))))))))))))))))))))
end SW

namespace K03
open PySem PySem.Spec PyProof.Rows L2 SW
/-! ### the text -/
def top (i : Nat) : Stmt := PySem.Challenge.pw_summitwater_k03_canals_written_and_read.main.body.getD i (.Pass ⟨0, 0, 0, 0⟩)
def B_law_draw_R1d : PBl :=
 (.cons (.asg (.one 5 "_law_mixed" ⟨112, 4, 112, 14⟩) (.bin .Mod (.bin .Mult (.bin .Add (.bin .Mod (.nam 4 "_law_cell" ⟨112, 18, 112, 27⟩) (.int 1000003 0 ⟨112, 30, 112, 37⟩) ⟨112, 18, 112, 37⟩) (.int 1 0 ⟨112, 40, 112, 41⟩) ⟨112, 18, 112, 41⟩) (.bin .Add (.bin .Add (.bin .Mult (.bin .Mult (.int 7919 0 ⟨112, 46, 112, 50⟩) (.nam 3 "_law_at" ⟨112, 53, 112, 60⟩) ⟨112, 46, 112, 60⟩) (.nam 3 "_law_at" ⟨112, 63, 112, 70⟩) ⟨112, 46, 112, 70⟩) (.bin .Mult (.int 104729 0 ⟨112, 73, 112, 79⟩) (.nam 3 "_law_at" ⟨112, 82, 112, 89⟩) ⟨112, 73, 112, 89⟩) ⟨112, 46, 112, 89⟩) (.int 12345 0 ⟨112, 92, 112, 97⟩) ⟨112, 46, 112, 97⟩) ⟨112, 17, 112, 98⟩) (.int 2147483647 0 ⟨112, 101, 112, 111⟩) ⟨112, 17, 112, 111⟩) ⟨112, 4, 112, 111⟩)
 (.cons (.asg (.one 5 "_law_mixed" ⟨113, 4, 113, 14⟩) (.bin .Mod (.bin .Add (.bin .Add (.bin .Mult (.nam 5 "_law_mixed" ⟨113, 18, 113, 28⟩) (.nam 5 "_law_mixed" ⟨113, 31, 113, 41⟩) ⟨113, 18, 113, 41⟩) (.bin .Mult (.int 48271 0 ⟨113, 44, 113, 49⟩) (.nam 3 "_law_at" ⟨113, 52, 113, 59⟩) ⟨113, 44, 113, 59⟩) ⟨113, 18, 113, 59⟩) (.bin .Mod (.nam 4 "_law_cell" ⟨113, 62, 113, 71⟩) (.int 65537 0 ⟨113, 74, 113, 79⟩) ⟨113, 62, 113, 79⟩) ⟨113, 18, 113, 79⟩) (.int 2147483629 0 ⟨113, 83, 113, 93⟩) ⟨113, 17, 113, 93⟩) ⟨113, 4, 113, 93⟩)
 (.cons (.ret (.bin .Mod (.bin .FloorDiv (.nam 5 "_law_mixed" ⟨114, 11, 114, 21⟩) (.int 8 0 ⟨114, 25, 114, 26⟩) ⟨114, 11, 114, 26⟩) (.nam 1 "_law_many" ⟨114, 29, 114, 38⟩) ⟨114, 11, 114, 38⟩) ⟨114, 4, 114, 38⟩)
 .nil)))
@[irreducible] def B_law_draw_R1 : PBl := B_law_draw_R1d
theorem u_law_draw_R1 : B_law_draw_R1 = B_law_draw_R1d := by unfold B_law_draw_R1; rfl
def B_law_draw_R2d : PBl :=
 (.cons (.ife (.and (.cmp .Lt (.nam 3 "_law_at" ⟨109, 7, 109, 14⟩) (.blt .len (.sub (.nam 0 "_law_tape_here" ⟨109, 21, 109, 35⟩) (.int 0 0 ⟨109, 36, 109, 37⟩) ⟨109, 21, 109, 38⟩) .nil ⟨109, 17, 109, 20⟩ ⟨109, 17, 109, 39⟩) ⟨109, 7, 109, 39⟩) (.cons (.cmp .GtE (.nam 4 "_law_cell" ⟨109, 44, 109, 53⟩) (.bin .Pow (.int 10 0 ⟨109, 57, 109, 59⟩) (.int 18 0 ⟨109, 63, 109, 65⟩) ⟨109, 57, 109, 65⟩) ⟨109, 44, 109, 65⟩) .nil) ⟨109, 7, 109, 65⟩) (.cons (.setI (.nam 0 "_law_tape_here" ⟨110, 8, 110, 22⟩) (.int 2 0 ⟨110, 23, 110, 24⟩) (.bin .FloorDiv (.nam 4 "_law_cell" ⟨110, 28, 110, 37⟩) (.nam 1 "_law_many" ⟨110, 41, 110, 50⟩) ⟨110, 28, 110, 50⟩) ⟨110, 8, 110, 25⟩ ⟨110, 8, 110, 50⟩)
  (.cons (.ret (.bin .Mod (.nam 4 "_law_cell" ⟨111, 15, 111, 24⟩) (.nam 1 "_law_many" ⟨111, 27, 111, 36⟩) ⟨111, 15, 111, 36⟩) ⟨111, 8, 111, 36⟩)
  .nil)) .nil ⟨109, 4, 111, 36⟩)
 B_law_draw_R1)
@[irreducible] def B_law_draw_R2 : PBl := B_law_draw_R2d
theorem u_law_draw_R2 : B_law_draw_R2 = B_law_draw_R2d := by unfold B_law_draw_R2; rfl
def B_law_draw_R3d : PBl :=
 (.cons (.asg (.one 3 "_law_at" ⟨104, 4, 104, 11⟩) (.sub (.nam 0 "_law_tape_here" ⟨104, 14, 104, 28⟩) (.int 1 0 ⟨104, 29, 104, 30⟩) ⟨104, 14, 104, 31⟩) ⟨104, 4, 104, 31⟩)
 (.cons (.setI (.nam 0 "_law_tape_here" ⟨105, 4, 105, 18⟩) (.int 1 0 ⟨105, 19, 105, 20⟩) (.bin .Add (.nam 3 "_law_at" ⟨105, 24, 105, 31⟩) (.int 1 0 ⟨105, 34, 105, 35⟩) ⟨105, 24, 105, 35⟩) ⟨105, 4, 105, 21⟩ ⟨105, 4, 105, 35⟩)
 (.cons (.asg (.one 4 "_law_cell" ⟨106, 4, 106, 13⟩) (.int 0 0 ⟨106, 16, 106, 17⟩) ⟨106, 4, 106, 17⟩)
 (.cons (.ife (.cmp .Gt (.blt .len (.sub (.nam 0 "_law_tape_here" ⟨107, 11, 107, 25⟩) (.int 0 0 ⟨107, 26, 107, 27⟩) ⟨107, 11, 107, 28⟩) .nil ⟨107, 7, 107, 10⟩ ⟨107, 7, 107, 29⟩) (.int 0 0 ⟨107, 32, 107, 33⟩) ⟨107, 7, 107, 33⟩) (.cons (.asg (.one 4 "_law_cell" ⟨108, 8, 108, 17⟩) (.sub (.sub (.nam 0 "_law_tape_here" ⟨108, 20, 108, 34⟩) (.int 0 0 ⟨108, 35, 108, 36⟩) ⟨108, 20, 108, 37⟩) (.bin .Mod (.nam 3 "_law_at" ⟨108, 38, 108, 45⟩) (.blt .len (.sub (.nam 0 "_law_tape_here" ⟨108, 52, 108, 66⟩) (.int 0 0 ⟨108, 67, 108, 68⟩) ⟨108, 52, 108, 69⟩) .nil ⟨108, 48, 108, 51⟩ ⟨108, 48, 108, 70⟩) ⟨108, 38, 108, 70⟩) ⟨108, 20, 108, 71⟩) ⟨108, 8, 108, 71⟩)
  .nil) .nil ⟨107, 4, 108, 71⟩)
 B_law_draw_R2))))
@[irreducible] def B_law_draw_R3 : PBl := B_law_draw_R3d
theorem u_law_draw_R3 : B_law_draw_R3 = B_law_draw_R3d := by unfold B_law_draw_R3; rfl
def B_law_canal_R1d : PBl :=
 (.cons (.ret (.tup (.cons (.blt .tuple (.bin .Add (.nam 3 "_law_places" ⟨134, 18, 134, 29⟩) (.lst (.cons (.tup (.cons (.str "end" 0 ⟨134, 34, 134, 39⟩) .nil) 0 ⟨134, 33, 134, 41⟩) .nil) ⟨134, 32, 134, 42⟩) ⟨134, 18, 134, 42⟩) .nil ⟨134, 12, 134, 17⟩ ⟨134, 12, 134, 43⟩) (.cons (.blt .tuple (.nam 7 "_law_gates" ⟨134, 51, 134, 61⟩) .nil ⟨134, 45, 134, 50⟩ ⟨134, 45, 134, 62⟩) .nil)) 0 ⟨134, 11, 134, 63⟩) ⟨134, 4, 134, 63⟩)
 .nil)
@[irreducible] def B_law_canal_R1 : PBl := B_law_canal_R1d
theorem u_law_canal_R1 : B_law_canal_R1 = B_law_canal_R1d := by unfold B_law_canal_R1; rfl
def B_law_canal_1 : PBl :=
 (.cons (.asg (.one 5 "_law_amid" ⟨125, 8, 125, 17⟩) (.and (.cmp .Lt (.int 0 0 ⟨125, 20, 125, 21⟩) (.nam 4 "_law_k" ⟨125, 24, 125, 30⟩) ⟨125, 20, 125, 30⟩) (.cons (.cmp .Lt (.nam 4 "_law_k" ⟨125, 35, 125, 41⟩) (.bin .Sub (.nam 2 "_law_many" ⟨125, 44, 125, 53⟩) (.int 1 0 ⟨125, 56, 125, 57⟩) ⟨125, 44, 125, 57⟩) ⟨125, 35, 125, 57⟩) (.cons (.cmp .Eq (.sub (.nam 3 "_law_places" ⟨125, 63, 125, 74⟩) (.neg (.int 1 0 ⟨125, 76, 125, 77⟩) ⟨125, 75, 125, 77⟩) ⟨125, 63, 125, 78⟩) (.tup (.cons (.str "chamber" 0 ⟨125, 83, 125, 92⟩) .nil) 0 ⟨125, 82, 125, 94⟩) ⟨125, 63, 125, 94⟩) .nil)) ⟨125, 20, 125, 95⟩) ⟨125, 8, 125, 95⟩)
 (.cons (.ife (.and (.nam 5 "_law_amid" ⟨126, 11, 126, 20⟩) (.cons (.cmp .Gt (.call 1 "_law_draw" (.nam 0 "_law_tape_here" ⟨126, 35, 126, 49⟩) (.cons (.int 4 0 ⟨126, 51, 126, 52⟩) .nil) ⟨126, 25, 126, 34⟩ ⟨126, 25, 126, 53⟩) (.int 0 0 ⟨126, 56, 126, 57⟩) ⟨126, 25, 126, 57⟩) .nil) ⟨126, 11, 126, 57⟩) (.cons (.expr (.meth .append (.nam 3 "_law_places" ⟨127, 12, 127, 23⟩) (.call 2 "_law_pound" (.nam 0 "_law_tape_here" ⟨127, 42, 127, 56⟩) .nil ⟨127, 31, 127, 41⟩ ⟨127, 31, 127, 57⟩) .nil ⟨127, 12, 127, 30⟩ ⟨127, 12, 127, 58⟩) ⟨127, 12, 127, 58⟩)
  .nil) (.cons (.expr (.meth .append (.nam 3 "_law_places" ⟨129, 12, 129, 23⟩) (.tup (.cons (.str "chamber" 0 ⟨129, 32, 129, 41⟩) .nil) 0 ⟨129, 31, 129, 43⟩) .nil ⟨129, 12, 129, 30⟩ ⟨129, 12, 129, 44⟩) ⟨129, 12, 129, 44⟩)
  .nil) ⟨126, 8, 129, 44⟩)
 .nil))
def B_canal_text_1 : PBl :=
 (.cons (.asg (.one 1 "words" ⟨22, 8, 22, 13⟩) (.bin .Add (.bin .Add (.nam 1 "words" ⟨22, 16, 22, 21⟩) (.lst (.cons (.nam 2 "gate" ⟨22, 25, 22, 29⟩) .nil) ⟨22, 24, 22, 30⟩) ⟨22, 16, 22, 30⟩) (.call 4 "place_words" (.nam 3 "place" ⟨22, 45, 22, 50⟩) .nil ⟨22, 33, 22, 44⟩ ⟨22, 33, 22, 51⟩) ⟨22, 16, 22, 51⟩) ⟨22, 8, 22, 51⟩)
 .nil)
def B_law_words_R1d : PBl :=
 (.cons (.asg (.one 1 "_law_found" ⟨140, 8, 140, 18⟩) (.bin .Add (.nam 1 "_law_found" ⟨140, 21, 140, 31⟩) (.lc (.blt .str (.nam 4 "_law_part" ⟨140, 39, 140, 48⟩) .nil ⟨140, 35, 140, 38⟩ ⟨140, 35, 140, 49⟩) (.one 4 "_law_part" ⟨140, 54, 140, 63⟩) (.seq (.nam 3 "_law_place" ⟨140, 67, 140, 77⟩)) (.cons (.cmp .IsNot (.nam 4 "_law_part" ⟨140, 81, 140, 90⟩) (.non 0 ⟨140, 98, 140, 102⟩) ⟨140, 81, 140, 102⟩) .nil) ⟨.function, [(".0", .local), ("_law_part", .local), ("str", .globalImplicit)], false, false, []⟩ [("_law_part", 4)] ⟨140, 34, 140, 103⟩) ⟨140, 21, 140, 103⟩) ⟨140, 8, 140, 103⟩)
 .nil)
@[irreducible] def B_law_words_R1 : PBl := B_law_words_R1d
theorem u_law_words_R1 : B_law_words_R1 = B_law_words_R1d := by unfold B_law_words_R1; rfl
def B_law_words_1 : PBl :=
 (.cons (.ife (.cmp .Gt (.nam 2 "_law_k" ⟨138, 11, 138, 17⟩) (.int 0 0 ⟨138, 20, 138, 21⟩) ⟨138, 11, 138, 21⟩) (.cons (.expr (.meth .append (.nam 1 "_law_found" ⟨139, 12, 139, 22⟩) (.sub (.sub (.nam 0 "_law_canal_here" ⟨139, 30, 139, 45⟩) (.int 1 0 ⟨139, 46, 139, 47⟩) ⟨139, 30, 139, 48⟩) (.bin .Sub (.nam 2 "_law_k" ⟨139, 49, 139, 55⟩) (.int 1 0 ⟨139, 58, 139, 59⟩) ⟨139, 49, 139, 59⟩) ⟨139, 30, 139, 60⟩) .nil ⟨139, 12, 139, 29⟩ ⟨139, 12, 139, 61⟩) ⟨139, 12, 139, 61⟩)
  .nil) .nil ⟨138, 8, 139, 61⟩)
 B_law_words_R1)
def B_Reader_word_R1d : PBl :=
 (.cons (.ret (.sub (.fld (.nam 0 "self" ⟨42, 15, 42, 19⟩) "words" ⟨42, 15, 42, 25⟩) (.fld (.nam 0 "self" ⟨42, 26, 42, 30⟩) "at" ⟨42, 26, 42, 33⟩) ⟨42, 15, 42, 34⟩) ⟨42, 8, 42, 34⟩)
 .nil)
@[irreducible] def B_Reader_word_R1 : PBl := B_Reader_word_R1d
theorem u_Reader_word_R1 : B_Reader_word_R1 = B_Reader_word_R1d := by unfold B_Reader_word_R1; rfl
def B_Reader_can_be_R1d : PBl :=
 (.cons (.ret (.and (.cmp .Eq (.nam 1 "word" ⟨69, 15, 69, 19⟩) (.str "chamber" 0 ⟨69, 23, 69, 32⟩) ⟨69, 15, 69, 32⟩) (.cons (.cmp .Lt (.bin .Add (.nam 2 "number" ⟨69, 37, 69, 43⟩) (.int 1 0 ⟨69, 46, 69, 47⟩) ⟨69, 37, 69, 47⟩) (.glb 2 "MOST_PLACES" ⟨69, 50, 69, 61⟩) ⟨69, 37, 69, 61⟩) .nil) ⟨69, 15, 69, 61⟩) ⟨69, 8, 69, 61⟩)
 .nil)
@[irreducible] def B_Reader_can_be_R1 : PBl := B_Reader_can_be_R1d
theorem u_Reader_can_be_R1 : B_Reader_can_be_R1 = B_Reader_can_be_R1d := by unfold B_Reader_can_be_R1; rfl
def B_Reader_can_be_R2d : PBl :=
 (.cons (.ife (.cmp .Eq (.nam 1 "word" ⟨67, 11, 67, 15⟩) (.str "pound" 0 ⟨67, 19, 67, 26⟩) ⟨67, 11, 67, 26⟩) (.cons (.ret (.and (.nam 3 "beside_chamber" ⟨68, 19, 68, 33⟩) (.cons (.cmp .Lt (.bin .Add (.nam 2 "number" ⟨68, 38, 68, 44⟩) (.int 2 0 ⟨68, 47, 68, 48⟩) ⟨68, 38, 68, 48⟩) (.glb 2 "MOST_PLACES" ⟨68, 51, 68, 62⟩) ⟨68, 38, 68, 62⟩) .nil) ⟨68, 19, 68, 62⟩) ⟨68, 12, 68, 62⟩)
  .nil) .nil ⟨67, 8, 68, 62⟩)
 B_Reader_can_be_R1)
@[irreducible] def B_Reader_can_be_R2 : PBl := B_Reader_can_be_R2d
theorem u_Reader_can_be_R2 : B_Reader_can_be_R2 = B_Reader_can_be_R2d := by unfold B_Reader_can_be_R2; rfl
def B_Reader_can_be_R3d : PBl :=
 (.cons (.asg (.one 3 "beside_chamber" ⟨64, 8, 64, 22⟩) (.cmp .Eq (.sub (.fld (.nam 0 "self" ⟨64, 25, 64, 29⟩) "places" ⟨64, 25, 64, 36⟩) (.neg (.int 1 0 ⟨64, 38, 64, 39⟩) ⟨64, 37, 64, 39⟩) ⟨64, 25, 64, 40⟩) (.glb 1 "CHAMBER" ⟨64, 44, 64, 51⟩) ⟨64, 25, 64, 51⟩) ⟨64, 8, 64, 51⟩)
 (.cons (.ife (.cmp .Eq (.nam 1 "word" ⟨65, 11, 65, 15⟩) (.str "end" 0 ⟨65, 19, 65, 24⟩) ⟨65, 11, 65, 24⟩) (.cons (.ret (.and (.nam 3 "beside_chamber" ⟨66, 19, 66, 33⟩) (.cons (.cmp .GtE (.nam 2 "number" ⟨66, 38, 66, 44⟩) (.int 2 0 ⟨66, 48, 66, 49⟩) ⟨66, 38, 66, 49⟩) .nil) ⟨66, 19, 66, 49⟩) ⟨66, 12, 66, 49⟩)
  .nil) .nil ⟨65, 8, 66, 49⟩)
 B_Reader_can_be_R2))
@[irreducible] def B_Reader_can_be_R3 : PBl := B_Reader_can_be_R3d
theorem u_Reader_can_be_R3 : B_Reader_can_be_R3 = B_Reader_can_be_R3d := by unfold B_Reader_can_be_R3; rfl
def B_figures_number_1 : PBl :=
 (.cons (.ife (.cmp .NotIn (.nam 1 "sign" ⟨28, 11, 28, 15⟩) (.glb 6 "FIGURES" ⟨28, 23, 28, 30⟩) ⟨28, 11, 28, 30⟩) (.cons (.ret (.non 0 ⟨29, 19, 29, 23⟩) ⟨29, 12, 29, 23⟩)
  .nil) .nil ⟨28, 8, 29, 23⟩)
 .nil)
def B_figures_number_R1d : PBl :=
 (.cons (.for_ (.one 1 "sign" ⟨27, 8, 27, 12⟩) (.seq (.nam 0 "word" ⟨27, 16, 27, 20⟩)) B_figures_number_1 ⟨27, 4, 29, 23⟩)
 (.cons (.ret (.blt .int (.nam 0 "word" ⟨30, 15, 30, 19⟩) .nil ⟨30, 11, 30, 14⟩ ⟨30, 11, 30, 20⟩) ⟨30, 4, 30, 20⟩)
 .nil))
@[irreducible] def B_figures_number_R1 : PBl := B_figures_number_R1d
theorem u_figures_number_R1 : B_figures_number_R1 = B_figures_number_R1d := by unfold B_figures_number_R1; rfl
def B_Reader_number_R1d : PBl :=
 (.cons (.setF (.nam 0 "self" ⟨48, 8, 48, 12⟩) "at" (.bin .Add (.fld (.nam 0 "self" ⟨48, 18, 48, 22⟩) "at" ⟨48, 18, 48, 25⟩) (.int 1 0 ⟨48, 28, 48, 29⟩) ⟨48, 18, 48, 29⟩) ⟨48, 8, 48, 15⟩ ⟨48, 8, 48, 29⟩)
 (.cons (.ret (.nam 3 "number" ⟨49, 15, 49, 21⟩) ⟨49, 8, 49, 21⟩)
 .nil))
@[irreducible] def B_Reader_number_R1 : PBl := B_Reader_number_R1d
theorem u_Reader_number_R1 : B_Reader_number_R1 = B_Reader_number_R1d := by unfold B_Reader_number_R1; rfl
def B_Reader_pound_R1d : PBl :=
 (.cons (.ret (.tup (.cons (.str "pound" 0 ⟨58, 16, 58, 23⟩) (.cons (.nam 1 "brim" ⟨58, 25, 58, 29⟩) (.cons (.nam 2 "deep" ⟨58, 31, 58, 35⟩) (.cons (.nam 3 "room" ⟨58, 37, 58, 41⟩) (.cons (.nam 4 "price" ⟨58, 43, 58, 48⟩) .nil))))) 0 ⟨58, 15, 58, 49⟩) ⟨58, 8, 58, 49⟩)
 .nil)
@[irreducible] def B_Reader_pound_R1 : PBl := B_Reader_pound_R1d
theorem u_Reader_pound_R1 : B_Reader_pound_R1 = B_Reader_pound_R1d := by unfold B_Reader_pound_R1; rfl
def B_Reader_place_R1d : PBl :=
 (.cons (.setF (.nam 0 "self" ⟨75, 8, 75, 12⟩) "at" (.bin .Add (.fld (.nam 0 "self" ⟨75, 18, 75, 22⟩) "at" ⟨75, 18, 75, 25⟩) (.int 1 0 ⟨75, 28, 75, 29⟩) ⟨75, 18, 75, 29⟩) ⟨75, 8, 75, 15⟩ ⟨75, 8, 75, 29⟩)
 (.cons (.ife (.cmp .Eq (.nam 1 "word" ⟨76, 11, 76, 15⟩) (.str "pound" 0 ⟨76, 19, 76, 26⟩) ⟨76, 11, 76, 26⟩) (.cons (.expr (.meth .append (.fld (.nam 0 "self" ⟨77, 12, 77, 16⟩) "places" ⟨77, 12, 77, 23⟩) (.mth0 12 "pound" (.nam 0 "self" ⟨77, 31, 77, 35⟩) ⟨77, 31, 77, 41⟩ ⟨77, 31, 77, 43⟩) .nil ⟨77, 12, 77, 30⟩ ⟨77, 12, 77, 44⟩) ⟨77, 12, 77, 44⟩)
  .nil) (.cons (.expr (.meth .append (.fld (.nam 0 "self" ⟨79, 12, 79, 16⟩) "places" ⟨79, 12, 79, 23⟩) (.tup (.cons (.nam 1 "word" ⟨79, 32, 79, 36⟩) .nil) 0 ⟨79, 31, 79, 38⟩) .nil ⟨79, 12, 79, 30⟩ ⟨79, 12, 79, 39⟩) ⟨79, 12, 79, 39⟩)
  .nil) ⟨76, 8, 79, 39⟩)
 .nil))
@[irreducible] def B_Reader_place_R1 : PBl := B_Reader_place_R1d
theorem u_Reader_place_R1 : B_Reader_place_R1 = B_Reader_place_R1d := by unfold B_Reader_place_R1; rfl
def B_Reader_gate_R1d : PBl :=
 (.cons (.expr (.meth .append (.fld (.nam 0 "self" ⟨85, 8, 85, 12⟩) "gates" ⟨85, 8, 85, 18⟩) (.nam 1 "word" ⟨85, 26, 85, 30⟩) .nil ⟨85, 8, 85, 25⟩ ⟨85, 8, 85, 31⟩) ⟨85, 8, 85, 31⟩)
 (.cons (.setF (.nam 0 "self" ⟨86, 8, 86, 12⟩) "at" (.bin .Add (.fld (.nam 0 "self" ⟨86, 18, 86, 22⟩) "at" ⟨86, 18, 86, 25⟩) (.int 1 0 ⟨86, 28, 86, 29⟩) ⟨86, 18, 86, 29⟩) ⟨86, 8, 86, 15⟩ ⟨86, 8, 86, 29⟩)
 .nil))
@[irreducible] def B_Reader_gate_R1 : PBl := B_Reader_gate_R1d
theorem u_Reader_gate_R1 : B_Reader_gate_R1 = B_Reader_gate_R1d := by unfold B_Reader_gate_R1; rfl
def B_read_canal_R1d : PBl :=
 (.cons (.ret (.tup (.cons (.blt .tuple (.fld (.nam 1 "reader" ⟨95, 18, 95, 24⟩) "places" ⟨95, 18, 95, 31⟩) .nil ⟨95, 12, 95, 17⟩ ⟨95, 12, 95, 32⟩) (.cons (.blt .tuple (.fld (.nam 1 "reader" ⟨95, 40, 95, 46⟩) "gates" ⟨95, 40, 95, 52⟩) .nil ⟨95, 34, 95, 39⟩ ⟨95, 34, 95, 53⟩) .nil)) 0 ⟨95, 11, 95, 54⟩) ⟨95, 4, 95, 54⟩)
 .nil)
@[irreducible] def B_read_canal_R1 : PBl := B_read_canal_R1d
theorem u_read_canal_R1 : B_read_canal_R1 = B_read_canal_R1d := by unfold B_read_canal_R1; rfl
def B_read_canal_1 : PBl :=
 (.cons (.expr (.mth0 14 "gate" (.nam 1 "reader" ⟨91, 8, 91, 14⟩) ⟨91, 8, 91, 19⟩ ⟨91, 8, 91, 21⟩) ⟨91, 8, 91, 21⟩)
 (.cons (.expr (.mth0 13 "place" (.nam 1 "reader" ⟨92, 8, 92, 14⟩) ⟨92, 8, 92, 20⟩ ⟨92, 8, 92, 22⟩) ⟨92, 8, 92, 22⟩)
 .nil))
def B_law_R1d : PBl :=
 (.cons (.ife (.or (.cmp .NotEq (.blt .repr (.call 15 "read_canal" (.nam 4 "_law_text" ⟨150, 27, 150, 36⟩) .nil ⟨150, 16, 150, 26⟩ ⟨150, 16, 150, 37⟩) .nil ⟨150, 11, 150, 15⟩ ⟨150, 11, 150, 38⟩) (.blt .repr (.nam 3 "_law_canal_here" ⟨150, 47, 150, 62⟩) .nil ⟨150, 42, 150, 46⟩ ⟨150, 42, 150, 63⟩) ⟨150, 11, 150, 63⟩) (.cons (.cmp .NotEq (.call 5 "canal_text" (.call 15 "read_canal" (.nam 4 "_law_text" ⟨150, 89, 150, 98⟩) .nil ⟨150, 78, 150, 88⟩ ⟨150, 78, 150, 99⟩) .nil ⟨150, 67, 150, 77⟩ ⟨150, 67, 150, 100⟩) (.nam 4 "_law_text" ⟨150, 104, 150, 113⟩) ⟨150, 67, 150, 113⟩) .nil) ⟨150, 11, 150, 113⟩) (.cons (.ret (.bl false 0 ⟨151, 19, 151, 24⟩) ⟨151, 12, 151, 24⟩)
  .nil) .nil ⟨150, 8, 151, 24⟩)
 .nil)
@[irreducible] def B_law_R1 : PBl := B_law_R1d
theorem u_law_R1 : B_law_R1 = B_law_R1d := by unfold B_law_R1; rfl
def B_law_1 : PBl :=
 (.cons (.asg (.one 3 "_law_canal_here" ⟨145, 8, 145, 23⟩) (.call 3 "_law_canal" (.nam 1 "_law_tape_here" ⟨145, 37, 145, 51⟩) (.cons (.int 11 0 ⟨145, 53, 145, 55⟩) .nil) ⟨145, 26, 145, 36⟩ ⟨145, 26, 145, 56⟩) ⟨145, 8, 145, 56⟩)
 (.cons (.asg (.one 4 "_law_text" ⟨146, 8, 146, 17⟩) (.jn " " 0 (.call 6 "_law_words" (.nam 3 "_law_canal_here" ⟨146, 40, 146, 55⟩) .nil ⟨146, 29, 146, 39⟩ ⟨146, 29, 146, 56⟩) ⟨146, 20, 146, 23⟩ ⟨146, 20, 146, 28⟩ ⟨146, 20, 146, 57⟩) ⟨146, 8, 146, 57⟩)
 (.cons (.asg (.one 5 "_law_found" ⟨147, 8, 147, 18⟩) (.call 5 "canal_text" (.nam 3 "_law_canal_here" ⟨147, 32, 147, 47⟩) .nil ⟨147, 21, 147, 31⟩ ⟨147, 21, 147, 48⟩) ⟨147, 8, 147, 48⟩)
 (.cons (.ife (.or (.nt (.isi (.nam 5 "_law_found" ⟨148, 26, 148, 36⟩) .str ⟨148, 15, 148, 25⟩ ⟨148, 38, 148, 41⟩ ⟨148, 15, 148, 42⟩) ⟨148, 11, 148, 42⟩) (.cons (.cmp .NotEq (.nam 5 "_law_found" ⟨148, 46, 148, 56⟩) (.nam 4 "_law_text" ⟨148, 60, 148, 69⟩) ⟨148, 46, 148, 69⟩) .nil) ⟨148, 11, 148, 69⟩) (.cons (.ret (.bl false 0 ⟨149, 19, 149, 24⟩) ⟨149, 12, 149, 24⟩)
  .nil) .nil ⟨148, 8, 149, 24⟩)
 B_law_R1))))
def bn : List Str := ["list", "len", "min", "tuple", "range", "str", "zip", "enumerate", "int", "repr", "isinstance"]
def fa : List He.Fa := [.glo "_law_tape", .glo "_law_draw", .glo "_law_pound", .glo "_law_canal", .glo "place_words", .glo "canal_text", .glo "_law_words", .glo "figures_number", .glo "read_canal", .glo "law"] ++ [.free "list", .free "len", .free "min", .free "tuple", .free "range", .free "str", .free "zip", .free "enumerate", .free "int", .free "repr", .free "isinstance"] ++ [.glo "Reader", .cls "Reader", .mkr "Reader", .noat "Reader" "words", .noat "Reader" "at", .noat "Reader" "places", .noat "Reader" "gates", .meth "Reader" "__init__", .meth "Reader" "word", .meth "Reader" "can_be", .meth "Reader" "number", .meth "Reader" "pound", .meth "Reader" "place", .meth "Reader" "gate"]
/-- _law_tape(_law_script): 0 _law_script -/
def B_law_tape : PBl :=
 (.cons (.ret (.lst (.cons (.blt .list (.slcH (.nam 0 "_law_script" ⟨98, 17, 98, 28⟩) (.int 63 0 ⟨98, 30, 98, 32⟩) ⟨98, 29, 98, 32⟩ ⟨98, 17, 98, 33⟩) .nil ⟨98, 12, 98, 16⟩ ⟨98, 12, 98, 34⟩) (.cons (.int 0 0 ⟨98, 36, 98, 37⟩) (.cons (.int 0 0 ⟨98, 39, 98, 40⟩) .nil))) ⟨98, 11, 98, 41⟩) ⟨98, 4, 98, 41⟩)
 .nil)
def F_law_tape : FD := ⟨"_law_tape", ["_law_script"], ["_law_script"], 1, B_law_tape, none, none⟩
def H_law_tape : He.DefD := ⟨("_law_tape", none), "_law_tape", "_law_tape", defArgs (top 17), defBody (top 17), defScope (top 17), [], []⟩
/-- _law_draw(_law_tape_here, _law_many): 0 _law_tape_here 1 _law_many 2 _law_digit 3 _law_at 4 _law_cell 5 _law_mixed -/
def B_law_draw : PBl :=
 (.cons (.ife (.cmp .Gt (.sub (.nam 0 "_law_tape_here" ⟨100, 7, 100, 21⟩) (.int 2 0 ⟨100, 22, 100, 23⟩) ⟨100, 7, 100, 24⟩) (.int 0 0 ⟨100, 27, 100, 28⟩) ⟨100, 7, 100, 28⟩) (.cons (.asg (.one 2 "_law_digit" ⟨101, 8, 101, 18⟩) (.bin .Mod (.sub (.nam 0 "_law_tape_here" ⟨101, 21, 101, 35⟩) (.int 2 0 ⟨101, 36, 101, 37⟩) ⟨101, 21, 101, 38⟩) (.nam 1 "_law_many" ⟨101, 41, 101, 50⟩) ⟨101, 21, 101, 50⟩) ⟨101, 8, 101, 50⟩)
  (.cons (.setI (.nam 0 "_law_tape_here" ⟨102, 8, 102, 22⟩) (.int 2 0 ⟨102, 23, 102, 24⟩) (.bin .FloorDiv (.sub (.nam 0 "_law_tape_here" ⟨102, 28, 102, 42⟩) (.int 2 0 ⟨102, 43, 102, 44⟩) ⟨102, 28, 102, 45⟩) (.nam 1 "_law_many" ⟨102, 49, 102, 58⟩) ⟨102, 28, 102, 58⟩) ⟨102, 8, 102, 25⟩ ⟨102, 8, 102, 58⟩)
  (.cons (.ret (.nam 2 "_law_digit" ⟨103, 15, 103, 25⟩) ⟨103, 8, 103, 25⟩)
  .nil))) .nil ⟨100, 4, 103, 25⟩)
 B_law_draw_R3)
def F_law_draw : FD := ⟨"_law_draw", ["_law_tape_here", "_law_many", "_law_digit", "_law_at", "_law_cell", "_law_mixed"], ["_law_tape_here", "_law_many"], 1, B_law_draw, none, none⟩
def H_law_draw : He.DefD := ⟨("_law_draw", none), "_law_draw", "_law_draw", defArgs (top 18), defBody (top 18), defScope (top 18), [], []⟩
/-- _law_pound(_law_tape_here): 0 _law_tape_here 1 _law_brim 2 _law_deep 3 _law_room 4 _law_price -/
def B_law_pound : PBl :=
 (.cons (.asg (.one 1 "_law_brim" ⟨116, 4, 116, 13⟩) (.sub (.lst (.cons (.int 1 0 ⟨116, 17, 116, 18⟩) (.cons (.int 2 0 ⟨116, 20, 116, 21⟩) (.cons (.int 3 0 ⟨116, 23, 116, 24⟩) (.cons (.bin .Add (.int 1 0 ⟨116, 26, 116, 27⟩) (.call 1 "_law_draw" (.nam 0 "_law_tape_here" ⟨116, 40, 116, 54⟩) (.cons (.int 9 0 ⟨116, 56, 116, 57⟩) .nil) ⟨116, 30, 116, 39⟩ ⟨116, 30, 116, 58⟩) ⟨116, 26, 116, 58⟩) .nil)))) ⟨116, 16, 116, 59⟩) (.call 1 "_law_draw" (.nam 0 "_law_tape_here" ⟨116, 70, 116, 84⟩) (.cons (.int 4 0 ⟨116, 86, 116, 87⟩) .nil) ⟨116, 60, 116, 69⟩ ⟨116, 60, 116, 88⟩) ⟨116, 16, 116, 89⟩) ⟨116, 4, 116, 89⟩)
 (.cons (.asg (.one 2 "_law_deep" ⟨117, 4, 117, 13⟩) (.blt .min (.nam 1 "_law_brim" ⟨117, 20, 117, 29⟩) (.cons (.sub (.lst (.cons (.int 0 0 ⟨117, 32, 117, 33⟩) (.cons (.int 0 0 ⟨117, 35, 117, 36⟩) (.cons (.int 1 0 ⟨117, 38, 117, 39⟩) (.cons (.call 1 "_law_draw" (.nam 0 "_law_tape_here" ⟨117, 51, 117, 65⟩) (.cons (.int 10 0 ⟨117, 67, 117, 69⟩) .nil) ⟨117, 41, 117, 50⟩ ⟨117, 41, 117, 70⟩) .nil)))) ⟨117, 31, 117, 71⟩) (.call 1 "_law_draw" (.nam 0 "_law_tape_here" ⟨117, 82, 117, 96⟩) (.cons (.int 4 0 ⟨117, 98, 117, 99⟩) .nil) ⟨117, 72, 117, 81⟩ ⟨117, 72, 117, 100⟩) ⟨117, 31, 117, 101⟩) .nil) ⟨117, 16, 117, 19⟩ ⟨117, 16, 117, 102⟩) ⟨117, 4, 117, 102⟩)
 (.cons (.asg (.one 3 "_law_room" ⟨118, 4, 118, 13⟩) (.sub (.lst (.cons (.int 1 0 ⟨118, 17, 118, 18⟩) (.cons (.int 2 0 ⟨118, 20, 118, 21⟩) (.cons (.bin .Add (.int 1 0 ⟨118, 23, 118, 24⟩) (.call 1 "_law_draw" (.nam 0 "_law_tape_here" ⟨118, 37, 118, 51⟩) (.cons (.int 4 0 ⟨118, 53, 118, 54⟩) .nil) ⟨118, 27, 118, 36⟩ ⟨118, 27, 118, 55⟩) ⟨118, 23, 118, 55⟩) .nil))) ⟨118, 16, 118, 56⟩) (.call 1 "_law_draw" (.nam 0 "_law_tape_here" ⟨118, 67, 118, 81⟩) (.cons (.int 3 0 ⟨118, 83, 118, 84⟩) .nil) ⟨118, 57, 118, 66⟩ ⟨118, 57, 118, 85⟩) ⟨118, 16, 118, 86⟩) ⟨118, 4, 118, 86⟩)
 (.cons (.asg (.one 4 "_law_price" ⟨119, 4, 119, 14⟩) (.sub (.lst (.cons (.non 0 ⟨119, 18, 119, 22⟩) (.cons (.call 1 "_law_draw" (.nam 0 "_law_tape_here" ⟨119, 34, 119, 48⟩) (.cons (.int 100 0 ⟨119, 50, 119, 53⟩) .nil) ⟨119, 24, 119, 33⟩ ⟨119, 24, 119, 54⟩) (.cons (.bin .Add (.int 1 0 ⟨119, 56, 119, 57⟩) (.call 1 "_law_draw" (.nam 0 "_law_tape_here" ⟨119, 70, 119, 84⟩) (.cons (.int 5 0 ⟨119, 86, 119, 87⟩) .nil) ⟨119, 60, 119, 69⟩ ⟨119, 60, 119, 88⟩) ⟨119, 56, 119, 88⟩) (.cons (.int 0 0 ⟨119, 90, 119, 91⟩) .nil)))) ⟨119, 17, 119, 92⟩) (.call 1 "_law_draw" (.nam 0 "_law_tape_here" ⟨119, 103, 119, 117⟩) (.cons (.int 4 0 ⟨119, 119, 119, 120⟩) .nil) ⟨119, 93, 119, 102⟩ ⟨119, 93, 119, 121⟩) ⟨119, 17, 119, 122⟩) ⟨119, 4, 119, 122⟩)
 (.cons (.ret (.tup (.cons (.str "pound" 0 ⟨120, 12, 120, 19⟩) (.cons (.nam 1 "_law_brim" ⟨120, 21, 120, 30⟩) (.cons (.nam 2 "_law_deep" ⟨120, 32, 120, 41⟩) (.cons (.nam 3 "_law_room" ⟨120, 43, 120, 52⟩) (.cons (.nam 4 "_law_price" ⟨120, 54, 120, 64⟩) .nil))))) 0 ⟨120, 11, 120, 65⟩) ⟨120, 4, 120, 65⟩)
 .nil)))))
def F_law_pound : FD := ⟨"_law_pound", ["_law_tape_here", "_law_brim", "_law_deep", "_law_room", "_law_price"], ["_law_tape_here"], 2, B_law_pound, none, none⟩
def H_law_pound : He.DefD := ⟨("_law_pound", none), "_law_pound", "_law_pound", defArgs (top 19), defBody (top 19), defScope (top 19), [], []⟩
/-- _law_canal(_law_tape_here, _law_most): 0 _law_tape_here 1 _law_most 2 _law_many 3 _law_places 4 _law_k 5 _law_amid 6 _law_top 7 _law_gates -/
def B_law_canal : PBl :=
 (.cons (.asg (.one 2 "_law_many" ⟨122, 4, 122, 13⟩) (.bin .Add (.int 1 0 ⟨122, 16, 122, 17⟩) (.call 1 "_law_draw" (.nam 0 "_law_tape_here" ⟨122, 30, 122, 44⟩) (.cons (.nam 1 "_law_most" ⟨122, 46, 122, 55⟩) .nil) ⟨122, 20, 122, 29⟩ ⟨122, 20, 122, 56⟩) ⟨122, 16, 122, 56⟩) ⟨122, 4, 122, 56⟩)
 (.cons (.asg (.one 3 "_law_places" ⟨123, 4, 123, 15⟩) (.lst (.cons (.tup (.cons (.str "end" 0 ⟨123, 20, 123, 25⟩) .nil) 0 ⟨123, 19, 123, 27⟩) .nil) ⟨123, 18, 123, 28⟩) ⟨123, 4, 123, 28⟩)
 (.cons (.for_ (.one 4 "_law_k" ⟨124, 8, 124, 14⟩) (.rng1 (.nam 2 "_law_many" ⟨124, 24, 124, 33⟩) ⟨124, 18, 124, 23⟩ ⟨124, 18, 124, 34⟩) B_law_canal_1 ⟨124, 4, 129, 44⟩)
 (.cons (.asg (.one 6 "_law_top" ⟨130, 4, 130, 12⟩) (.bin .Add (.int 1 0 ⟨130, 15, 130, 16⟩) (.call 1 "_law_draw" (.nam 0 "_law_tape_here" ⟨130, 29, 130, 43⟩) (.cons (.nam 2 "_law_many" ⟨130, 45, 130, 54⟩) .nil) ⟨130, 19, 130, 28⟩ ⟨130, 19, 130, 55⟩) ⟨130, 15, 130, 55⟩) ⟨130, 4, 130, 55⟩)
 (.cons (.asg (.one 7 "_law_gates" ⟨131, 4, 131, 14⟩) (.bin .Add (.bin .Mult (.lst (.cons (.str "up" 0 ⟨131, 18, 131, 22⟩) .nil) ⟨131, 17, 131, 23⟩) (.nam 6 "_law_top" ⟨131, 26, 131, 34⟩) ⟨131, 17, 131, 34⟩) (.bin .Mult (.lst (.cons (.str "down" 0 ⟨131, 38, 131, 44⟩) .nil) ⟨131, 37, 131, 45⟩) (.bin .Sub (.bin .Add (.nam 2 "_law_many" ⟨131, 49, 131, 58⟩) (.int 1 0 ⟨131, 61, 131, 62⟩) ⟨131, 49, 131, 62⟩) (.nam 6 "_law_top" ⟨131, 65, 131, 73⟩) ⟨131, 49, 131, 73⟩) ⟨131, 37, 131, 74⟩) ⟨131, 17, 131, 74⟩) ⟨131, 4, 131, 74⟩)
 (.cons (.ife (.cmp .Eq (.call 1 "_law_draw" (.nam 0 "_law_tape_here" ⟨132, 17, 132, 31⟩) (.cons (.int 3 0 ⟨132, 33, 132, 34⟩) .nil) ⟨132, 7, 132, 16⟩ ⟨132, 7, 132, 35⟩) (.int 0 0 ⟨132, 39, 132, 40⟩) ⟨132, 7, 132, 40⟩) (.cons (.asg (.one 7 "_law_gates" ⟨133, 8, 133, 18⟩) (.lc (.sub (.lst (.cons (.str "up" 0 ⟨133, 23, 133, 27⟩) (.cons (.str "down" 0 ⟨133, 29, 133, 35⟩) .nil)) ⟨133, 22, 133, 36⟩) (.call 1 "_law_draw" (.nam 0 "_law_tape_here" ⟨133, 47, 133, 61⟩) (.cons (.int 2 0 ⟨133, 63, 133, 64⟩) .nil) ⟨133, 37, 133, 46⟩ ⟨133, 37, 133, 65⟩) ⟨133, 22, 133, 66⟩) (.one 4 "_law_k" ⟨133, 71, 133, 77⟩) (.rng1 (.bin .Add (.nam 2 "_law_many" ⟨133, 87, 133, 96⟩) (.int 1 0 ⟨133, 99, 133, 100⟩) ⟨133, 87, 133, 100⟩) ⟨133, 81, 133, 86⟩ ⟨133, 81, 133, 101⟩) .nil ⟨.function, [(".0", .local), ("_law_k", .local), ("_law_draw", .globalImplicit), ("_law_tape_here", .free)], false, false, []⟩ [("_law_k", 4)] ⟨133, 21, 133, 102⟩) ⟨133, 8, 133, 102⟩)
  .nil) .nil ⟨132, 4, 133, 102⟩)
 B_law_canal_R1))))))
def F_law_canal : FD := ⟨"_law_canal", ["_law_tape_here", "_law_most", "_law_many", "_law_places", "_law_k", "_law_amid", "_law_top", "_law_gates"], ["_law_tape_here", "_law_most"], 3, B_law_canal, none, none⟩
def H_law_canal : He.DefD := ⟨("_law_canal", none), "_law_canal", "_law_canal", defArgs (top 20), defBody (top 20), defScope (top 20), [], []⟩
/-- place_words(place): 0 place 1 number -/
def B_place_words : PBl :=
 (.cons (.ret (.bin .Add (.lst (.cons (.sub (.nam 0 "place" ⟨18, 12, 18, 17⟩) (.int 0 0 ⟨18, 18, 18, 19⟩) ⟨18, 12, 18, 20⟩) .nil) ⟨18, 11, 18, 21⟩) (.lc (.blt .str (.nam 1 "number" ⟨18, 29, 18, 35⟩) .nil ⟨18, 25, 18, 28⟩ ⟨18, 25, 18, 36⟩) (.one 1 "number" ⟨18, 41, 18, 47⟩) (.seq (.slcL (.nam 0 "place" ⟨18, 51, 18, 56⟩) (.int 1 0 ⟨18, 57, 18, 58⟩) ⟨18, 57, 18, 59⟩ ⟨18, 51, 18, 60⟩)) (.cons (.cmp .IsNot (.nam 1 "number" ⟨18, 64, 18, 70⟩) (.non 0 ⟨18, 78, 18, 82⟩) ⟨18, 64, 18, 82⟩) .nil) ⟨.function, [(".0", .local), ("number", .local), ("str", .globalImplicit)], false, false, []⟩ [("number", 1)] ⟨18, 24, 18, 83⟩) ⟨18, 11, 18, 83⟩) ⟨18, 4, 18, 83⟩)
 .nil)
def F_place_words : FD := ⟨"place_words", ["place", "number"], ["place"], 1, B_place_words, none, none⟩
def H_place_words : He.DefD := ⟨("place_words", none), "place_words", "place_words", defArgs (top 11), defBody (top 11), defScope (top 11), [], []⟩
/-- canal_text(canal): 0 canal 1 words 2 gate 3 place -/
def B_canal_text : PBl :=
 (.cons (.asg (.one 1 "words" ⟨20, 4, 20, 9⟩) (.call 4 "place_words" (.sub (.sub (.nam 0 "canal" ⟨20, 24, 20, 29⟩) (.int 0 0 ⟨20, 30, 20, 31⟩) ⟨20, 24, 20, 32⟩) (.int 0 0 ⟨20, 33, 20, 34⟩) ⟨20, 24, 20, 35⟩) .nil ⟨20, 12, 20, 23⟩ ⟨20, 12, 20, 36⟩) ⟨20, 4, 20, 36⟩)
 (.cons (.for_ (.tup [(2, "gate", ⟨21, 8, 21, 12⟩), (3, "place", ⟨21, 14, 21, 19⟩)] 0 ⟨21, 8, 21, 19⟩) (.zip (.sub (.nam 0 "canal" ⟨21, 27, 21, 32⟩) (.int 1 0 ⟨21, 33, 21, 34⟩) ⟨21, 27, 21, 35⟩) (.slcL (.sub (.nam 0 "canal" ⟨21, 37, 21, 42⟩) (.int 0 0 ⟨21, 43, 21, 44⟩) ⟨21, 37, 21, 45⟩) (.int 1 0 ⟨21, 46, 21, 47⟩) ⟨21, 46, 21, 48⟩ ⟨21, 37, 21, 49⟩) ⟨21, 23, 21, 26⟩ ⟨21, 23, 21, 50⟩) B_canal_text_1 ⟨21, 4, 22, 51⟩)
 (.cons (.ret (.jn " " 0 (.nam 1 "words" ⟨23, 20, 23, 25⟩) ⟨23, 11, 23, 14⟩ ⟨23, 11, 23, 19⟩ ⟨23, 11, 23, 26⟩) ⟨23, 4, 23, 26⟩)
 .nil)))
def F_canal_text : FD := ⟨"canal_text", ["canal", "words", "gate", "place"], ["canal"], 2, B_canal_text, none, none⟩
def H_canal_text : He.DefD := ⟨("canal_text", none), "canal_text", "canal_text", defArgs (top 12), defBody (top 12), defScope (top 12), [], []⟩
/-- _law_words(_law_canal_here): 0 _law_canal_here 1 _law_found 2 _law_k 3 _law_place 4 _law_part -/
def B_law_words : PBl :=
 (.cons (.asg (.one 1 "_law_found" ⟨136, 4, 136, 14⟩) (.lst .nil ⟨136, 17, 136, 19⟩) ⟨136, 4, 136, 19⟩)
 (.cons (.for_ (.tup [(2, "_law_k", ⟨137, 8, 137, 14⟩), (3, "_law_place", ⟨137, 16, 137, 26⟩)] 0 ⟨137, 8, 137, 26⟩) (.enum (.sub (.nam 0 "_law_canal_here" ⟨137, 40, 137, 55⟩) (.int 0 0 ⟨137, 56, 137, 57⟩) ⟨137, 40, 137, 58⟩) ⟨137, 30, 137, 39⟩ ⟨137, 30, 137, 59⟩) B_law_words_1 ⟨137, 4, 140, 103⟩)
 (.cons (.ret (.nam 1 "_law_found" ⟨141, 11, 141, 21⟩) ⟨141, 4, 141, 21⟩)
 .nil)))
def F_law_words : FD := ⟨"_law_words", ["_law_canal_here", "_law_found", "_law_k", "_law_place", "_law_part"], ["_law_canal_here"], 1, B_law_words, none, none⟩
def H_law_words : He.DefD := ⟨("_law_words", none), "_law_words", "_law_words", defArgs (top 21), defBody (top 21), defScope (top 21), [], []⟩
/-- Reader.__init__(self, words): 0 self 1 words -/
def B_Reader_init : PBl :=
 (.cons (.setF (.nam 0 "self" ⟨34, 8, 34, 12⟩) "words" (.nam 1 "words" ⟨34, 21, 34, 26⟩) ⟨34, 8, 34, 18⟩ ⟨34, 8, 34, 26⟩)
 (.cons (.setF (.nam 0 "self" ⟨35, 8, 35, 12⟩) "at" (.int 0 0 ⟨35, 18, 35, 19⟩) ⟨35, 8, 35, 15⟩ ⟨35, 8, 35, 19⟩)
 (.cons (.setF (.nam 0 "self" ⟨36, 8, 36, 12⟩) "places" (.lst .nil ⟨36, 22, 36, 24⟩) ⟨36, 8, 36, 19⟩ ⟨36, 8, 36, 24⟩)
 (.cons (.setF (.nam 0 "self" ⟨37, 8, 37, 12⟩) "gates" (.lst .nil ⟨37, 21, 37, 23⟩) ⟨37, 8, 37, 18⟩ ⟨37, 8, 37, 23⟩)
 .nil))))
def F_Reader_init : FD := ⟨"Reader.__init__", ["self", "words"], ["self", "words"], 1, B_Reader_init, none, (some (0, "__init__"))⟩
def H_Reader_init : He.DefD := ⟨("Reader", some "__init__"), "__init__", "Reader.__init__", defArgs (inCls (top 14) 0), defBody (inCls (top 14) 0), defScope (inCls (top 14) 0), [], []⟩
/-- Reader.word(self): 0 self -/
def B_Reader_word : PBl :=
 (.cons (.ife (.cmp .Eq (.fld (.nam 0 "self" ⟨40, 11, 40, 15⟩) "at" ⟨40, 11, 40, 18⟩) (.blt .len (.fld (.nam 0 "self" ⟨40, 26, 40, 30⟩) "words" ⟨40, 26, 40, 36⟩) .nil ⟨40, 22, 40, 25⟩ ⟨40, 22, 40, 37⟩) ⟨40, 11, 40, 37⟩) (.cons (.raiF 1 "NoText" (.fld (.nam 0 "self" ⟨41, 25, 41, 29⟩) "at" ⟨41, 25, 41, 32⟩) ⟨41, 18, 41, 24⟩ ⟨41, 18, 41, 33⟩ ⟨41, 12, 41, 33⟩)
  .nil) .nil ⟨40, 8, 41, 33⟩)
 B_Reader_word_R1)
def F_Reader_word : FD := ⟨"Reader.word", ["self"], ["self"], 3, B_Reader_word, none, (some (0, "word"))⟩
def H_Reader_word : He.DefD := ⟨("Reader", some "word"), "word", "Reader.word", defArgs (inCls (top 14) 1), defBody (inCls (top 14) 1), defScope (inCls (top 14) 1), [], []⟩
/-- Reader.can_be(self, word): 0 self 1 word 2 number 3 beside_chamber -/
def B_Reader_can_be : PBl :=
 (.cons (.asg (.one 2 "number" ⟨61, 8, 61, 14⟩) (.blt .len (.fld (.nam 0 "self" ⟨61, 21, 61, 25⟩) "places" ⟨61, 21, 61, 32⟩) .nil ⟨61, 17, 61, 20⟩ ⟨61, 17, 61, 33⟩) ⟨61, 8, 61, 33⟩)
 (.cons (.ife (.cmp .Eq (.nam 2 "number" ⟨62, 11, 62, 17⟩) (.int 0 0 ⟨62, 21, 62, 22⟩) ⟨62, 11, 62, 22⟩) (.cons (.ret (.cmp .Eq (.nam 1 "word" ⟨63, 19, 63, 23⟩) (.str "end" 0 ⟨63, 27, 63, 32⟩) ⟨63, 19, 63, 32⟩) ⟨63, 12, 63, 32⟩)
  .nil) .nil ⟨62, 8, 63, 32⟩)
 B_Reader_can_be_R3))
def F_Reader_can_be : FD := ⟨"Reader.can_be", ["self", "word", "number", "beside_chamber"], ["self", "word"], 1, B_Reader_can_be, none, (some (0, "can_be"))⟩
def H_Reader_can_be : He.DefD := ⟨("Reader", some "can_be"), "can_be", "Reader.can_be", defArgs (inCls (top 14) 4), defBody (inCls (top 14) 4), defScope (inCls (top 14) 4), [], []⟩
/-- figures_number(word): 0 word 1 sign -/
def B_figures_number : PBl :=
 (.cons (.ife (.or (.nt (.chn .LtE .LtE (.int 1 0 ⟨25, 11, 25, 12⟩) (.blt .len (.nam 0 "word" ⟨25, 20, 25, 24⟩) .nil ⟨25, 16, 25, 19⟩ ⟨25, 16, 25, 25⟩) (.int 2 0 ⟨25, 29, 25, 30⟩) ⟨25, 11, 25, 30⟩) ⟨25, 7, 25, 30⟩) (.cons (.and (.cmp .Eq (.sub (.nam 0 "word" ⟨25, 35, 25, 39⟩) (.int 0 0 ⟨25, 40, 25, 41⟩) ⟨25, 35, 25, 42⟩) (.str "0" 0 ⟨25, 46, 25, 49⟩) ⟨25, 35, 25, 49⟩) (.cons (.cmp .Gt (.blt .len (.nam 0 "word" ⟨25, 58, 25, 62⟩) .nil ⟨25, 54, 25, 57⟩ ⟨25, 54, 25, 63⟩) (.int 1 0 ⟨25, 66, 25, 67⟩) ⟨25, 54, 25, 67⟩) .nil) ⟨25, 35, 25, 67⟩) .nil) ⟨25, 7, 25, 68⟩) (.cons (.ret (.non 0 ⟨26, 15, 26, 19⟩) ⟨26, 8, 26, 19⟩)
  .nil) .nil ⟨25, 4, 26, 19⟩)
 B_figures_number_R1)
def F_figures_number : FD := ⟨"figures_number", ["word", "sign"], ["word"], 1, B_figures_number, none, none⟩
def H_figures_number : He.DefD := ⟨("figures_number", none), "figures_number", "figures_number", defArgs (top 13), defBody (top 13), defScope (top 13), [], []⟩
/-- Reader.number(self, low, high): 0 self 1 low 2 high 3 number -/
def B_Reader_number : PBl :=
 (.cons (.asg (.one 3 "number" ⟨45, 8, 45, 14⟩) (.call 10 "figures_number" (.mth0 8 "word" (.nam 0 "self" ⟨45, 32, 45, 36⟩) ⟨45, 32, 45, 41⟩ ⟨45, 32, 45, 43⟩) .nil ⟨45, 17, 45, 31⟩ ⟨45, 17, 45, 44⟩) ⟨45, 8, 45, 44⟩)
 (.cons (.ife (.or (.cmp .Is (.nam 3 "number" ⟨46, 11, 46, 17⟩) (.non 0 ⟨46, 21, 46, 25⟩) ⟨46, 11, 46, 25⟩) (.cons (.nt (.chn .LtE .LtE (.nam 1 "low" ⟨46, 33, 46, 36⟩) (.nam 3 "number" ⟨46, 40, 46, 46⟩) (.nam 2 "high" ⟨46, 50, 46, 54⟩) ⟨46, 33, 46, 54⟩) ⟨46, 29, 46, 54⟩) .nil) ⟨46, 11, 46, 54⟩) (.cons (.raiF 1 "NoText" (.fld (.nam 0 "self" ⟨47, 25, 47, 29⟩) "at" ⟨47, 25, 47, 32⟩) ⟨47, 18, 47, 24⟩ ⟨47, 18, 47, 33⟩ ⟨47, 12, 47, 33⟩)
  .nil) .nil ⟨46, 8, 47, 33⟩)
 B_Reader_number_R1))
def F_Reader_number : FD := ⟨"Reader.number", ["self", "low", "high", "number"], ["self", "low", "high"], 4, B_Reader_number, none, (some (0, "number"))⟩
def H_Reader_number : He.DefD := ⟨("Reader", some "number"), "number", "Reader.number", defArgs (inCls (top 14) 2), defBody (inCls (top 14) 2), defScope (inCls (top 14) 2), [], []⟩
/-- Reader.pound(self): 0 self 1 brim 2 deep 3 room 4 price -/
def B_Reader_pound : PBl :=
 (.cons (.asg (.one 1 "brim" ⟨52, 8, 52, 12⟩) (.mth 11 "number" (.nam 0 "self" ⟨52, 15, 52, 19⟩) (.int 1 0 ⟨52, 27, 52, 28⟩) (.cons (.glb 3 "MOST_BRIM" ⟨52, 30, 52, 39⟩) .nil) ⟨52, 15, 52, 26⟩ ⟨52, 15, 52, 40⟩) ⟨52, 8, 52, 40⟩)
 (.cons (.asg (.one 2 "deep" ⟨53, 8, 53, 12⟩) (.mth 11 "number" (.nam 0 "self" ⟨53, 15, 53, 19⟩) (.int 0 0 ⟨53, 27, 53, 28⟩) (.cons (.nam 1 "brim" ⟨53, 30, 53, 34⟩) .nil) ⟨53, 15, 53, 26⟩ ⟨53, 15, 53, 35⟩) ⟨53, 8, 53, 35⟩)
 (.cons (.asg (.one 3 "room" ⟨54, 8, 54, 12⟩) (.mth 11 "number" (.nam 0 "self" ⟨54, 15, 54, 19⟩) (.int 1 0 ⟨54, 27, 54, 28⟩) (.cons (.glb 4 "MOST_ROOM" ⟨54, 30, 54, 39⟩) .nil) ⟨54, 15, 54, 26⟩ ⟨54, 15, 54, 40⟩) ⟨54, 8, 54, 40⟩)
 (.cons (.asg (.one 4 "price" ⟨55, 8, 55, 13⟩) (.non 0 ⟨55, 16, 55, 20⟩) ⟨55, 8, 55, 20⟩)
 (.cons (.ife (.cmp .NotIn (.mth0 8 "word" (.nam 0 "self" ⟨56, 11, 56, 15⟩) ⟨56, 11, 56, 20⟩ ⟨56, 11, 56, 22⟩) (.tup (.cons (.str "up" 0 ⟨56, 31, 56, 35⟩) (.cons (.str "down" 0 ⟨56, 37, 56, 43⟩) .nil)) 0 ⟨56, 30, 56, 44⟩) ⟨56, 11, 56, 44⟩) (.cons (.asg (.one 4 "price" ⟨57, 12, 57, 17⟩) (.mth 11 "number" (.nam 0 "self" ⟨57, 20, 57, 24⟩) (.int 0 0 ⟨57, 32, 57, 33⟩) (.cons (.glb 5 "MOST_PRICE" ⟨57, 35, 57, 45⟩) .nil) ⟨57, 20, 57, 31⟩ ⟨57, 20, 57, 46⟩) ⟨57, 12, 57, 46⟩)
  .nil) .nil ⟨56, 8, 57, 46⟩)
 B_Reader_pound_R1)))))
def F_Reader_pound : FD := ⟨"Reader.pound", ["self", "brim", "deep", "room", "price"], ["self"], 5, B_Reader_pound, none, (some (0, "pound"))⟩
def H_Reader_pound : He.DefD := ⟨("Reader", some "pound"), "pound", "Reader.pound", defArgs (inCls (top 14) 3), defBody (inCls (top 14) 3), defScope (inCls (top 14) 3), [], []⟩
/-- Reader.place(self): 0 self 1 word -/
def B_Reader_place : PBl :=
 (.cons (.asg (.one 1 "word" ⟨72, 8, 72, 12⟩) (.mth0 8 "word" (.nam 0 "self" ⟨72, 15, 72, 19⟩) ⟨72, 15, 72, 24⟩ ⟨72, 15, 72, 26⟩) ⟨72, 8, 72, 26⟩)
 (.cons (.ife (.nt (.mth 9 "can_be" (.nam 0 "self" ⟨73, 15, 73, 19⟩) (.nam 1 "word" ⟨73, 27, 73, 31⟩) .nil ⟨73, 15, 73, 26⟩ ⟨73, 15, 73, 32⟩) ⟨73, 11, 73, 32⟩) (.cons (.raiF 1 "NoText" (.fld (.nam 0 "self" ⟨74, 25, 74, 29⟩) "at" ⟨74, 25, 74, 32⟩) ⟨74, 18, 74, 24⟩ ⟨74, 18, 74, 33⟩ ⟨74, 12, 74, 33⟩)
  .nil) .nil ⟨73, 8, 74, 33⟩)
 B_Reader_place_R1))
def F_Reader_place : FD := ⟨"Reader.place", ["self", "word"], ["self"], 6, B_Reader_place, none, (some (0, "place"))⟩
def H_Reader_place : He.DefD := ⟨("Reader", some "place"), "place", "Reader.place", defArgs (inCls (top 14) 5), defBody (inCls (top 14) 5), defScope (inCls (top 14) 5), [], []⟩
/-- Reader.gate(self): 0 self 1 word -/
def B_Reader_gate : PBl :=
 (.cons (.asg (.one 1 "word" ⟨82, 8, 82, 12⟩) (.mth0 8 "word" (.nam 0 "self" ⟨82, 15, 82, 19⟩) ⟨82, 15, 82, 24⟩ ⟨82, 15, 82, 26⟩) ⟨82, 8, 82, 26⟩)
 (.cons (.ife (.cmp .NotIn (.nam 1 "word" ⟨83, 11, 83, 15⟩) (.tup (.cons (.str "up" 0 ⟨83, 24, 83, 28⟩) (.cons (.str "down" 0 ⟨83, 30, 83, 36⟩) .nil)) 0 ⟨83, 23, 83, 37⟩) ⟨83, 11, 83, 37⟩) (.cons (.raiF 1 "NoText" (.fld (.nam 0 "self" ⟨84, 25, 84, 29⟩) "at" ⟨84, 25, 84, 32⟩) ⟨84, 18, 84, 24⟩ ⟨84, 18, 84, 33⟩ ⟨84, 12, 84, 33⟩)
  .nil) .nil ⟨83, 8, 84, 33⟩)
 B_Reader_gate_R1))
def F_Reader_gate : FD := ⟨"Reader.gate", ["self", "word"], ["self"], 4, B_Reader_gate, none, (some (0, "gate"))⟩
def H_Reader_gate : He.DefD := ⟨("Reader", some "gate"), "gate", "Reader.gate", defArgs (inCls (top 14) 6), defBody (inCls (top 14) 6), defScope (inCls (top 14) 6), [], []⟩
/-- read_canal(text): 0 text 1 reader -/
def B_read_canal : PBl :=
 (.cons (.asg (.one 1 "reader" ⟨88, 4, 88, 10⟩) (.mk 0 7 "Reader" (.spl (.nam 0 "text" ⟨88, 20, 88, 24⟩) " " 0 ⟨88, 31, 88, 34⟩ ⟨88, 20, 88, 30⟩ ⟨88, 20, 88, 35⟩) .nil ⟨88, 13, 88, 19⟩ ⟨88, 13, 88, 36⟩) ⟨88, 4, 88, 36⟩)
 (.cons (.expr (.mth0 13 "place" (.nam 1 "reader" ⟨89, 4, 89, 10⟩) ⟨89, 4, 89, 16⟩ ⟨89, 4, 89, 18⟩) ⟨89, 4, 89, 18⟩)
 (.cons (.whl (.or (.cmp .Eq (.blt .len (.fld (.nam 1 "reader" ⟨90, 14, 90, 20⟩) "places" ⟨90, 14, 90, 27⟩) .nil ⟨90, 10, 90, 13⟩ ⟨90, 10, 90, 28⟩) (.int 1 0 ⟨90, 32, 90, 33⟩) ⟨90, 10, 90, 33⟩) (.cons (.cmp .NotEq (.sub (.fld (.nam 1 "reader" ⟨90, 37, 90, 43⟩) "places" ⟨90, 37, 90, 50⟩) (.neg (.int 1 0 ⟨90, 52, 90, 53⟩) ⟨90, 51, 90, 53⟩) ⟨90, 37, 90, 54⟩) (.glb 0 "END" ⟨90, 58, 90, 61⟩) ⟨90, 37, 90, 61⟩) .nil) ⟨90, 10, 90, 61⟩) B_read_canal_1 ⟨90, 4, 92, 22⟩)
 (.cons (.ife (.cmp .Lt (.fld (.nam 1 "reader" ⟨93, 7, 93, 13⟩) "at" ⟨93, 7, 93, 16⟩) (.blt .len (.fld (.nam 1 "reader" ⟨93, 23, 93, 29⟩) "words" ⟨93, 23, 93, 35⟩) .nil ⟨93, 19, 93, 22⟩ ⟨93, 19, 93, 36⟩) ⟨93, 7, 93, 36⟩) (.cons (.raiF 1 "NoText" (.fld (.nam 1 "reader" ⟨94, 21, 94, 27⟩) "at" ⟨94, 21, 94, 30⟩) ⟨94, 14, 94, 20⟩ ⟨94, 14, 94, 31⟩ ⟨94, 8, 94, 31⟩)
  .nil) .nil ⟨93, 4, 94, 31⟩)
 B_read_canal_R1))))
def F_read_canal : FD := ⟨"read_canal", ["text", "reader"], ["text"], 7, B_read_canal, none, none⟩
def H_read_canal : He.DefD := ⟨("read_canal", none), "read_canal", "read_canal", defArgs (top 15), defBody (top 15), defScope (top 15), [], []⟩
/-- law(_law_script): 0 _law_script 1 _law_tape_here 2 _law_k 3 _law_canal_here 4 _law_text 5 _law_found -/
def B_law : PBl :=
 (.cons (.asg (.one 1 "_law_tape_here" ⟨143, 4, 143, 18⟩) (.call 0 "_law_tape" (.nam 0 "_law_script" ⟨143, 31, 143, 42⟩) .nil ⟨143, 21, 143, 30⟩ ⟨143, 21, 143, 43⟩) ⟨143, 4, 143, 43⟩)
 (.cons (.for_ (.one 2 "_law_k" ⟨144, 8, 144, 14⟩) (.rng1 (.int 4 0 ⟨144, 24, 144, 25⟩) ⟨144, 18, 144, 23⟩ ⟨144, 18, 144, 26⟩) B_law_1 ⟨144, 4, 151, 24⟩)
 (.cons (.ret (.bl true 0 ⟨152, 11, 152, 15⟩) ⟨152, 4, 152, 15⟩)
 .nil)))
def F_law : FD := ⟨"law", ["_law_script", "_law_tape_here", "_law_k", "_law_canal_here", "_law_text", "_law_found"], ["_law_script"], 8, B_law, none, none⟩
def H_law : He.DefD := ⟨("law", none), "law", "law", defArgs (top 22), defBody (top 22), defScope (top 22), [], []⟩
def I_NoText : InitP := ⟨"no such text", 0, ⟨13, 8, 13, 19⟩, ⟨13, 8, 13, 28⟩, ⟨13, 29, 13, 33⟩, ⟨13, 35, 13, 49⟩, ⟨13, 8, 13, 50⟩, ⟨13, 8, 13, 50⟩, ⟨14, 8, 14, 12⟩, ⟨14, 8, 14, 15⟩, ⟨14, 18, 14, 20⟩, ⟨14, 8, 14, 20⟩⟩
def H_i_NoText : He.DefD := ⟨("NoText", some "__init__"), "__init__", "NoText.__init__", defArgs (inCls (top 8) 0), defBody (inCls (top 8) 0), defScope (inCls (top 8) 0), [], []⟩
def fn : List He.DefD := [H_law_tape, H_law_draw, H_law_pound, H_law_canal, H_place_words, H_canal_text, H_law_words, H_Reader_init, H_Reader_word, H_Reader_can_be, H_figures_number, H_Reader_number, H_Reader_pound, H_Reader_place, H_Reader_gate, H_read_canal, H_law, H_i_NoText]
def cst : List (Str × PV) := [("END", .tup [.str (Str.ofString "end").cps.toList]), ("CHAMBER", .tup [.str (Str.ofString "chamber").cps.toList]), ("MOST_PLACES", .int 13), ("MOST_BRIM", .int 9), ("MOST_ROOM", .int 4), ("MOST_PRICE", .int 99), ("FIGURES", .str (Str.ofString "0123456789").cps.toList)]
def cls : List (Str × Bool) := [("SummitError", true), ("NoText", false)]
def ocs : List (Str × List Str) := [("Reader", ["words", "at", "places", "gates"])]
def G0 : Glb := ⟨[], bn, cst, cls, [1], ocs⟩
theorem ocs_ok : ∀ r ∈ G0.ocs, OcFa fa r := fun r hr => by
  have hr : r ∈ ocs := hr
  simp [ocs] at hr
  subst hr
  exact ⟨by simp [fa], by simp [fa], by simp [fa], fun f hf => by simp at hf; rcases hf with rfl | rfl | rfl | rfl <;> simp [fa]⟩
def ex (K : PySem.W.Frag) : Bool := cst.all (cstB K) && (clsB cls K && iniB G0 K)
theorem ini_NoText : IniOk fn G0 1 "NoText" H_i_NoText I_NoText := ⟨rfl, by simp [fn], rfl, by kernel_rfl, fun env => rfl, ⟨scope_of (by decide +kernel), by decide +kernel, by decide +kernel, by decide +kernel⟩, rfl, fun _ _ _ _ _ _ us hl => match us, hl with | [_, _], _ => rfl⟩
theorem ini_all : ∀ k ∈ G0.ini, ∃ x d b, IniOk fn G0 k x d b := fun k hk => by
  simp [G0] at hk
  subst hk
  exact ⟨_, _, _, ini_NoText⟩
def G_law_tape : Glb := G0
@[irreducible] def R_law_tape : List PV → Sto → Res PV := (F_law_tape.fi G_law_tape).run
def G_law_draw : Glb := grow G_law_tape F_law_tape
@[irreducible] def R_law_draw : List PV → Sto → Res PV := (F_law_draw.fi G_law_draw).run
def G_law_pound : Glb := grow G_law_draw F_law_draw
@[irreducible] def R_law_pound : List PV → Sto → Res PV := (F_law_pound.fi G_law_pound).run
def G_law_canal : Glb := grow G_law_pound F_law_pound
@[irreducible] def R_law_canal : List PV → Sto → Res PV := (F_law_canal.fi G_law_canal).run
def G_place_words : Glb := grow G_law_canal F_law_canal
@[irreducible] def R_place_words : List PV → Sto → Res PV := (F_place_words.fi G_place_words).run
def G_canal_text : Glb := grow G_place_words F_place_words
@[irreducible] def R_canal_text : List PV → Sto → Res PV := (F_canal_text.fi G_canal_text).run
def G_law_words : Glb := grow G_canal_text F_canal_text
@[irreducible] def R_law_words : List PV → Sto → Res PV := (F_law_words.fi G_law_words).run
def G_Reader_init : Glb := grow G_law_words F_law_words
@[irreducible] def R_Reader_init : List PV → Sto → Res PV := (F_Reader_init.fi G_Reader_init).run
def G_Reader_word : Glb := grow G_Reader_init F_Reader_init
@[irreducible] def R_Reader_word : List PV → Sto → Res PV := (F_Reader_word.fi G_Reader_word).run
def G_Reader_can_be : Glb := grow G_Reader_word F_Reader_word
@[irreducible] def R_Reader_can_be : List PV → Sto → Res PV := (F_Reader_can_be.fi G_Reader_can_be).run
def G_figures_number : Glb := grow G_Reader_can_be F_Reader_can_be
@[irreducible] def R_figures_number : List PV → Sto → Res PV := (F_figures_number.fi G_figures_number).run
def G_Reader_number : Glb := grow G_figures_number F_figures_number
@[irreducible] def R_Reader_number : List PV → Sto → Res PV := (F_Reader_number.fi G_Reader_number).run
def G_Reader_pound : Glb := grow G_Reader_number F_Reader_number
@[irreducible] def R_Reader_pound : List PV → Sto → Res PV := (F_Reader_pound.fi G_Reader_pound).run
def G_Reader_place : Glb := grow G_Reader_pound F_Reader_pound
@[irreducible] def R_Reader_place : List PV → Sto → Res PV := (F_Reader_place.fi G_Reader_place).run
def G_Reader_gate : Glb := grow G_Reader_place F_Reader_place
@[irreducible] def R_Reader_gate : List PV → Sto → Res PV := (F_Reader_gate.fi G_Reader_gate).run
def G_read_canal : Glb := grow G_Reader_gate F_Reader_gate
@[irreducible] def R_read_canal : List PV → Sto → Res PV := (F_read_canal.fi G_read_canal).run
def G_law : Glb := grow G_read_canal F_read_canal
@[irreducible] def R_law : List PV → Sto → Res PV := (F_law.fi G_law).run
theorem ok_law_tape : DefOk fa fn G_law_tape (F_law_tape, H_law_tape) := ⟨by decide +kernel, by kernel_rfl, by decide +kernel, by decide, .no rfl rfl (fun _ _ _ _ _ _ us hl => match us, hl with | [_], _ => rfl), by simp [fn], .top rfl rfl (by simp [fa, F_law_tape])⟩
theorem run_law_tape {E : Xp} (x0 : PV) (M : Sto) (Q : PV → Sto → Prop) : pwX E (R_law_tape [x0] M) Q ↔ pwY (fun c v _ M => E c v M) (evSs G_law_tape B_law_tape [some x0] M) (fun _ M => Q .non M) Q := by unfold R_law_tape; exact pw_run F_law_tape G_law_tape [x0] M Q
theorem ok_law_draw : DefOk fa fn G_law_draw (F_law_draw, H_law_draw) := ⟨by decide +kernel, by kernel_rfl, by decide +kernel, by decide, .no rfl rfl (fun _ _ _ _ _ _ us hl => match us, hl with | [_, _], _ => rfl), by simp [fn], .top rfl rfl (by simp [fa, F_law_draw])⟩
theorem run_law_draw {E : Xp} (x0 x1 : PV) (M : Sto) (Q : PV → Sto → Prop) : pwX E (R_law_draw [x0, x1] M) Q ↔ pwY (fun c v _ M => E c v M) (evSs G_law_draw B_law_draw [some x0, some x1, none, none, none, none] M) (fun _ M => Q .non M) Q := by unfold R_law_draw; exact pw_run F_law_draw G_law_draw [x0, x1] M Q
theorem ok_law_pound : DefOk fa fn G_law_pound (F_law_pound, H_law_pound) := ⟨by decide +kernel, by kernel_rfl, by decide +kernel, by decide, .no rfl rfl (fun _ _ _ _ _ _ us hl => match us, hl with | [_], _ => rfl), by simp [fn], .top rfl rfl (by simp [fa, F_law_pound])⟩
theorem run_law_pound {E : Xp} (x0 : PV) (M : Sto) (Q : PV → Sto → Prop) : pwX E (R_law_pound [x0] M) Q ↔ pwY (fun c v _ M => E c v M) (evSs G_law_pound B_law_pound [some x0, none, none, none, none] M) (fun _ M => Q .non M) Q := by unfold R_law_pound; exact pw_run F_law_pound G_law_pound [x0] M Q
theorem c_law_pound_law_draw {E : Xp} {m : Bool} {x : Str} {e : PEx} {es : PEs} {p p2 : Pos} {tau : Sig} {M : Sto} {Q : PV → Sto → Prop} : pwX E (evE G_law_pound m (.call 1 x e es p p2) tau M) Q ↔ pwX E (evE G_law_pound false e tau M) fun x M => pwX E (evL G_law_pound es tau M) fun xs M => (x :: xs).length = 2 ∧ pwX E (R_law_draw (x :: xs) M) (finQ m Q) := e_call ⟨_, rfl, rfl, by unfold R_law_draw; rfl, rfl⟩
theorem ok_law_canal : DefOk fa fn G_law_canal (F_law_canal, H_law_canal) := ⟨by decide +kernel, by kernel_rfl, by decide +kernel, by decide, .no rfl rfl (fun _ _ _ _ _ _ us hl => match us, hl with | [_, _], _ => rfl), by simp [fn], .top rfl rfl (by simp [fa, F_law_canal])⟩
theorem run_law_canal {E : Xp} (x0 x1 : PV) (M : Sto) (Q : PV → Sto → Prop) : pwX E (R_law_canal [x0, x1] M) Q ↔ pwY (fun c v _ M => E c v M) (evSs G_law_canal B_law_canal [some x0, some x1, none, none, none, none, none, none] M) (fun _ M => Q .non M) Q := by unfold R_law_canal; exact pw_run F_law_canal G_law_canal [x0, x1] M Q
theorem c_law_canal_law_draw {E : Xp} {m : Bool} {x : Str} {e : PEx} {es : PEs} {p p2 : Pos} {tau : Sig} {M : Sto} {Q : PV → Sto → Prop} : pwX E (evE G_law_canal m (.call 1 x e es p p2) tau M) Q ↔ pwX E (evE G_law_canal false e tau M) fun x M => pwX E (evL G_law_canal es tau M) fun xs M => (x :: xs).length = 2 ∧ pwX E (R_law_draw (x :: xs) M) (finQ m Q) := e_call ⟨_, rfl, rfl, by unfold R_law_draw; rfl, rfl⟩
theorem c_law_canal_law_pound {E : Xp} {m : Bool} {x : Str} {e : PEx} {es : PEs} {p p2 : Pos} {tau : Sig} {M : Sto} {Q : PV → Sto → Prop} : pwX E (evE G_law_canal m (.call 2 x e es p p2) tau M) Q ↔ pwX E (evE G_law_canal false e tau M) fun x M => pwX E (evL G_law_canal es tau M) fun xs M => (x :: xs).length = 1 ∧ pwX E (R_law_pound (x :: xs) M) (finQ m Q) := e_call ⟨_, rfl, rfl, by unfold R_law_pound; rfl, rfl⟩
theorem ok_place_words : DefOk fa fn G_place_words (F_place_words, H_place_words) := ⟨by decide +kernel, by kernel_rfl, by decide +kernel, by decide, .no rfl rfl (fun _ _ _ _ _ _ us hl => match us, hl with | [_], _ => rfl), by simp [fn], .top rfl rfl (by simp [fa, F_place_words])⟩
theorem run_place_words {E : Xp} (x0 : PV) (M : Sto) (Q : PV → Sto → Prop) : pwX E (R_place_words [x0] M) Q ↔ pwY (fun c v _ M => E c v M) (evSs G_place_words B_place_words [some x0, none] M) (fun _ M => Q .non M) Q := by unfold R_place_words; exact pw_run F_place_words G_place_words [x0] M Q
theorem ok_canal_text : DefOk fa fn G_canal_text (F_canal_text, H_canal_text) := ⟨by decide +kernel, by kernel_rfl, by decide +kernel, by decide, .no rfl rfl (fun _ _ _ _ _ _ us hl => match us, hl with | [_], _ => rfl), by simp [fn], .top rfl rfl (by simp [fa, F_canal_text])⟩
theorem run_canal_text {E : Xp} (x0 : PV) (M : Sto) (Q : PV → Sto → Prop) : pwX E (R_canal_text [x0] M) Q ↔ pwY (fun c v _ M => E c v M) (evSs G_canal_text B_canal_text [some x0, none, none, none] M) (fun _ M => Q .non M) Q := by unfold R_canal_text; exact pw_run F_canal_text G_canal_text [x0] M Q
theorem c_canal_text_place_words {E : Xp} {m : Bool} {x : Str} {e : PEx} {es : PEs} {p p2 : Pos} {tau : Sig} {M : Sto} {Q : PV → Sto → Prop} : pwX E (evE G_canal_text m (.call 4 x e es p p2) tau M) Q ↔ pwX E (evE G_canal_text false e tau M) fun x M => pwX E (evL G_canal_text es tau M) fun xs M => (x :: xs).length = 1 ∧ pwX E (R_place_words (x :: xs) M) (finQ m Q) := e_call ⟨_, rfl, rfl, by unfold R_place_words; rfl, rfl⟩
theorem ok_law_words : DefOk fa fn G_law_words (F_law_words, H_law_words) := ⟨by decide +kernel, by kernel_rfl, by decide +kernel, by decide, .no rfl rfl (fun _ _ _ _ _ _ us hl => match us, hl with | [_], _ => rfl), by simp [fn], .top rfl rfl (by simp [fa, F_law_words])⟩
theorem run_law_words {E : Xp} (x0 : PV) (M : Sto) (Q : PV → Sto → Prop) : pwX E (R_law_words [x0] M) Q ↔ pwY (fun c v _ M => E c v M) (evSs G_law_words B_law_words [some x0, none, none, none, none] M) (fun _ M => Q .non M) Q := by unfold R_law_words; exact pw_run F_law_words G_law_words [x0] M Q
theorem ok_Reader_init : DefOk fa fn G_Reader_init (F_Reader_init, H_Reader_init) := ⟨by decide +kernel, by kernel_rfl, by decide +kernel, by decide, .no rfl rfl (fun _ _ _ _ _ _ us hl => match us, hl with | [_, _], _ => rfl), by simp [fn], .mth 0 "Reader" ["words", "at", "places", "gates"] "__init__" rfl rfl rfl (by simp [fa])⟩
theorem run_Reader_init {E : Xp} (x0 x1 : PV) (M : Sto) (Q : PV → Sto → Prop) : pwX E (R_Reader_init [x0, x1] M) Q ↔ pwY (fun c v _ M => E c v M) (evSs G_Reader_init B_Reader_init [some x0, some x1] M) (fun _ M => Q .non M) Q := by unfold R_Reader_init; exact pw_run F_Reader_init G_Reader_init [x0, x1] M Q
theorem ok_Reader_word : DefOk fa fn G_Reader_word (F_Reader_word, H_Reader_word) := ⟨by decide +kernel, by kernel_rfl, by decide +kernel, by decide, .no rfl rfl (fun _ _ _ _ _ _ us hl => match us, hl with | [_], _ => rfl), by simp [fn], .mth 0 "Reader" ["words", "at", "places", "gates"] "word" rfl rfl rfl (by simp [fa])⟩
theorem run_Reader_word {E : Xp} (x0 : PV) (M : Sto) (Q : PV → Sto → Prop) : pwX E (R_Reader_word [x0] M) Q ↔ pwY (fun c v _ M => E c v M) (evSs G_Reader_word B_Reader_word [some x0] M) (fun _ M => Q .non M) Q := by unfold R_Reader_word; exact pw_run F_Reader_word G_Reader_word [x0] M Q
theorem ok_Reader_can_be : DefOk fa fn G_Reader_can_be (F_Reader_can_be, H_Reader_can_be) := ⟨by decide +kernel, by kernel_rfl, by decide +kernel, by decide, .no rfl rfl (fun _ _ _ _ _ _ us hl => match us, hl with | [_, _], _ => rfl), by simp [fn], .mth 0 "Reader" ["words", "at", "places", "gates"] "can_be" rfl rfl rfl (by simp [fa])⟩
theorem run_Reader_can_be {E : Xp} (x0 x1 : PV) (M : Sto) (Q : PV → Sto → Prop) : pwX E (R_Reader_can_be [x0, x1] M) Q ↔ pwY (fun c v _ M => E c v M) (evSs G_Reader_can_be B_Reader_can_be [some x0, some x1, none, none] M) (fun _ M => Q .non M) Q := by unfold R_Reader_can_be; exact pw_run F_Reader_can_be G_Reader_can_be [x0, x1] M Q
theorem ok_figures_number : DefOk fa fn G_figures_number (F_figures_number, H_figures_number) := ⟨by decide +kernel, by kernel_rfl, by decide +kernel, by decide, .no rfl rfl (fun _ _ _ _ _ _ us hl => match us, hl with | [_], _ => rfl), by simp [fn], .top rfl rfl (by simp [fa, F_figures_number])⟩
theorem run_figures_number {E : Xp} (x0 : PV) (M : Sto) (Q : PV → Sto → Prop) : pwX E (R_figures_number [x0] M) Q ↔ pwY (fun c v _ M => E c v M) (evSs G_figures_number B_figures_number [some x0, none] M) (fun _ M => Q .non M) Q := by unfold R_figures_number; exact pw_run F_figures_number G_figures_number [x0] M Q
theorem ok_Reader_number : DefOk fa fn G_Reader_number (F_Reader_number, H_Reader_number) := ⟨by decide +kernel, by kernel_rfl, by decide +kernel, by decide, .no rfl rfl (fun _ _ _ _ _ _ us hl => match us, hl with | [_, _, _], _ => rfl), by simp [fn], .mth 0 "Reader" ["words", "at", "places", "gates"] "number" rfl rfl rfl (by simp [fa])⟩
theorem run_Reader_number {E : Xp} (x0 x1 x2 : PV) (M : Sto) (Q : PV → Sto → Prop) : pwX E (R_Reader_number [x0, x1, x2] M) Q ↔ pwY (fun c v _ M => E c v M) (evSs G_Reader_number B_Reader_number [some x0, some x1, some x2, none] M) (fun _ M => Q .non M) Q := by unfold R_Reader_number; exact pw_run F_Reader_number G_Reader_number [x0, x1, x2] M Q
theorem c_Reader_number_figures_number {E : Xp} {m : Bool} {x : Str} {e : PEx} {es : PEs} {p p2 : Pos} {tau : Sig} {M : Sto} {Q : PV → Sto → Prop} : pwX E (evE G_Reader_number m (.call 10 x e es p p2) tau M) Q ↔ pwX E (evE G_Reader_number false e tau M) fun x M => pwX E (evL G_Reader_number es tau M) fun xs M => (x :: xs).length = 1 ∧ pwX E (R_figures_number (x :: xs) M) (finQ m Q) := e_call ⟨_, rfl, rfl, by unfold R_figures_number; rfl, rfl⟩
theorem c_Reader_number_Reader_word {E : Xp} {m : Bool} {o : PEx} {pa p : Pos} {tau : Sig} {M : Sto} {Q : PV → Sto → Prop} : pwX E (evE G_Reader_number m (.mth0 8 "word" o pa p) tau M) Q ↔ pwX E (evE G_Reader_number false o tau M) fun x M => insOf 0 "word" x M = true ∧ pwX E (R_Reader_word [x] M) (finQ m Q) := e_mth0 ⟨_, rfl, rfl, by unfold R_Reader_word; rfl, rfl, rfl⟩
theorem ok_Reader_pound : DefOk fa fn G_Reader_pound (F_Reader_pound, H_Reader_pound) := ⟨by decide +kernel, by kernel_rfl, by decide +kernel, by decide, .no rfl rfl (fun _ _ _ _ _ _ us hl => match us, hl with | [_], _ => rfl), by simp [fn], .mth 0 "Reader" ["words", "at", "places", "gates"] "pound" rfl rfl rfl (by simp [fa])⟩
theorem run_Reader_pound {E : Xp} (x0 : PV) (M : Sto) (Q : PV → Sto → Prop) : pwX E (R_Reader_pound [x0] M) Q ↔ pwY (fun c v _ M => E c v M) (evSs G_Reader_pound B_Reader_pound [some x0, none, none, none, none] M) (fun _ M => Q .non M) Q := by unfold R_Reader_pound; exact pw_run F_Reader_pound G_Reader_pound [x0] M Q
theorem c_Reader_pound_Reader_number {E : Xp} {m : Bool} {o e : PEx} {es : PEs} {pa p : Pos} {tau : Sig} {M : Sto} {Q : PV → Sto → Prop} : pwX E (evE G_Reader_pound m (.mth 11 "number" o e es pa p) tau M) Q ↔ pwX E (evE G_Reader_pound false o tau M) fun x M => insOf 0 "number" x M = true ∧ pwX E (evE G_Reader_pound false e tau M) fun y M => pwX E (evL G_Reader_pound es tau M) fun ys M => (x :: y :: ys).length = 3 ∧ pwX E (R_Reader_number (x :: y :: ys) M) (finQ m Q) := e_mth ⟨_, rfl, rfl, by unfold R_Reader_number; rfl, rfl, rfl⟩
theorem c_Reader_pound_Reader_word {E : Xp} {m : Bool} {o : PEx} {pa p : Pos} {tau : Sig} {M : Sto} {Q : PV → Sto → Prop} : pwX E (evE G_Reader_pound m (.mth0 8 "word" o pa p) tau M) Q ↔ pwX E (evE G_Reader_pound false o tau M) fun x M => insOf 0 "word" x M = true ∧ pwX E (R_Reader_word [x] M) (finQ m Q) := e_mth0 ⟨_, rfl, rfl, by unfold R_Reader_word; rfl, rfl, rfl⟩
theorem ok_Reader_place : DefOk fa fn G_Reader_place (F_Reader_place, H_Reader_place) := ⟨by decide +kernel, by kernel_rfl, by decide +kernel, by decide, .no rfl rfl (fun _ _ _ _ _ _ us hl => match us, hl with | [_], _ => rfl), by simp [fn], .mth 0 "Reader" ["words", "at", "places", "gates"] "place" rfl rfl rfl (by simp [fa])⟩
theorem run_Reader_place {E : Xp} (x0 : PV) (M : Sto) (Q : PV → Sto → Prop) : pwX E (R_Reader_place [x0] M) Q ↔ pwY (fun c v _ M => E c v M) (evSs G_Reader_place B_Reader_place [some x0, none] M) (fun _ M => Q .non M) Q := by unfold R_Reader_place; exact pw_run F_Reader_place G_Reader_place [x0] M Q
theorem c_Reader_place_Reader_word {E : Xp} {m : Bool} {o : PEx} {pa p : Pos} {tau : Sig} {M : Sto} {Q : PV → Sto → Prop} : pwX E (evE G_Reader_place m (.mth0 8 "word" o pa p) tau M) Q ↔ pwX E (evE G_Reader_place false o tau M) fun x M => insOf 0 "word" x M = true ∧ pwX E (R_Reader_word [x] M) (finQ m Q) := e_mth0 ⟨_, rfl, rfl, by unfold R_Reader_word; rfl, rfl, rfl⟩
theorem c_Reader_place_Reader_can_be {E : Xp} {m : Bool} {o e : PEx} {es : PEs} {pa p : Pos} {tau : Sig} {M : Sto} {Q : PV → Sto → Prop} : pwX E (evE G_Reader_place m (.mth 9 "can_be" o e es pa p) tau M) Q ↔ pwX E (evE G_Reader_place false o tau M) fun x M => insOf 0 "can_be" x M = true ∧ pwX E (evE G_Reader_place false e tau M) fun y M => pwX E (evL G_Reader_place es tau M) fun ys M => (x :: y :: ys).length = 2 ∧ pwX E (R_Reader_can_be (x :: y :: ys) M) (finQ m Q) := e_mth ⟨_, rfl, rfl, by unfold R_Reader_can_be; rfl, rfl, rfl⟩
theorem c_Reader_place_Reader_pound {E : Xp} {m : Bool} {o : PEx} {pa p : Pos} {tau : Sig} {M : Sto} {Q : PV → Sto → Prop} : pwX E (evE G_Reader_place m (.mth0 12 "pound" o pa p) tau M) Q ↔ pwX E (evE G_Reader_place false o tau M) fun x M => insOf 0 "pound" x M = true ∧ pwX E (R_Reader_pound [x] M) (finQ m Q) := e_mth0 ⟨_, rfl, rfl, by unfold R_Reader_pound; rfl, rfl, rfl⟩
theorem ok_Reader_gate : DefOk fa fn G_Reader_gate (F_Reader_gate, H_Reader_gate) := ⟨by decide +kernel, by kernel_rfl, by decide +kernel, by decide, .no rfl rfl (fun _ _ _ _ _ _ us hl => match us, hl with | [_], _ => rfl), by simp [fn], .mth 0 "Reader" ["words", "at", "places", "gates"] "gate" rfl rfl rfl (by simp [fa])⟩
theorem run_Reader_gate {E : Xp} (x0 : PV) (M : Sto) (Q : PV → Sto → Prop) : pwX E (R_Reader_gate [x0] M) Q ↔ pwY (fun c v _ M => E c v M) (evSs G_Reader_gate B_Reader_gate [some x0, none] M) (fun _ M => Q .non M) Q := by unfold R_Reader_gate; exact pw_run F_Reader_gate G_Reader_gate [x0] M Q
theorem c_Reader_gate_Reader_word {E : Xp} {m : Bool} {o : PEx} {pa p : Pos} {tau : Sig} {M : Sto} {Q : PV → Sto → Prop} : pwX E (evE G_Reader_gate m (.mth0 8 "word" o pa p) tau M) Q ↔ pwX E (evE G_Reader_gate false o tau M) fun x M => insOf 0 "word" x M = true ∧ pwX E (R_Reader_word [x] M) (finQ m Q) := e_mth0 ⟨_, rfl, rfl, by unfold R_Reader_word; rfl, rfl, rfl⟩
theorem ok_read_canal : DefOk fa fn G_read_canal (F_read_canal, H_read_canal) := ⟨by decide +kernel, by kernel_rfl, by decide +kernel, by decide, .no rfl rfl (fun _ _ _ _ _ _ us hl => match us, hl with | [_], _ => rfl), by simp [fn], .top rfl rfl (by simp [fa, F_read_canal])⟩
theorem run_read_canal {E : Xp} (x0 : PV) (M : Sto) (Q : PV → Sto → Prop) : pwX E (R_read_canal [x0] M) Q ↔ pwY (fun c v _ M => E c v M) (evSs G_read_canal B_read_canal [some x0, none] M) (fun _ M => Q .non M) Q := by unfold R_read_canal; exact pw_run F_read_canal G_read_canal [x0] M Q
theorem c_read_canal_Reader_init {E : Xp} {m : Bool} {x : Str} {e : PEx} {es : PEs} {p p2 : Pos} {tau : Sig} {M : Sto} {Q : PV → Sto → Prop} : pwX E (evE G_read_canal m (.mk 0 7 x e es p p2) tau M) Q ↔ pwX E (evE G_read_canal false e tau M) fun y M => pwX E (evL G_read_canal es tau M) fun ys M => (y :: ys).length + 1 = 2 ∧ pwX E (R_Reader_init (.loc M.length :: y :: ys) (M ++ [.ins 0 []])) fun v M' => isN v (finQ m Q (.loc M.length) M') := e_mk ⟨_, rfl, rfl, by unfold R_Reader_init; rfl⟩
theorem c_read_canal_Reader_place {E : Xp} {m : Bool} {o : PEx} {pa p : Pos} {tau : Sig} {M : Sto} {Q : PV → Sto → Prop} : pwX E (evE G_read_canal m (.mth0 13 "place" o pa p) tau M) Q ↔ pwX E (evE G_read_canal false o tau M) fun x M => insOf 0 "place" x M = true ∧ pwX E (R_Reader_place [x] M) (finQ m Q) := e_mth0 ⟨_, rfl, rfl, by unfold R_Reader_place; rfl, rfl, rfl⟩
theorem c_read_canal_Reader_gate {E : Xp} {m : Bool} {o : PEx} {pa p : Pos} {tau : Sig} {M : Sto} {Q : PV → Sto → Prop} : pwX E (evE G_read_canal m (.mth0 14 "gate" o pa p) tau M) Q ↔ pwX E (evE G_read_canal false o tau M) fun x M => insOf 0 "gate" x M = true ∧ pwX E (R_Reader_gate [x] M) (finQ m Q) := e_mth0 ⟨_, rfl, rfl, by unfold R_Reader_gate; rfl, rfl, rfl⟩
theorem ok_law : DefOk fa fn G_law (F_law, H_law) := ⟨by decide +kernel, by kernel_rfl, by decide +kernel, by decide, .no rfl rfl (fun _ _ _ _ _ _ us hl => match us, hl with | [_], _ => rfl), by simp [fn], .top rfl rfl (by simp [fa, F_law])⟩
theorem run_law {E : Xp} (x0 : PV) (M : Sto) (Q : PV → Sto → Prop) : pwX E (R_law [x0] M) Q ↔ pwY (fun c v _ M => E c v M) (evSs G_law B_law [some x0, none, none, none, none, none] M) (fun _ M => Q .non M) Q := by unfold R_law; exact pw_run F_law G_law [x0] M Q
theorem c_law_law_tape {E : Xp} {m : Bool} {x : Str} {e : PEx} {es : PEs} {p p2 : Pos} {tau : Sig} {M : Sto} {Q : PV → Sto → Prop} : pwX E (evE G_law m (.call 0 x e es p p2) tau M) Q ↔ pwX E (evE G_law false e tau M) fun x M => pwX E (evL G_law es tau M) fun xs M => (x :: xs).length = 1 ∧ pwX E (R_law_tape (x :: xs) M) (finQ m Q) := e_call ⟨_, rfl, rfl, by unfold R_law_tape; rfl, rfl⟩
theorem c_law_law_canal {E : Xp} {m : Bool} {x : Str} {e : PEx} {es : PEs} {p p2 : Pos} {tau : Sig} {M : Sto} {Q : PV → Sto → Prop} : pwX E (evE G_law m (.call 3 x e es p p2) tau M) Q ↔ pwX E (evE G_law false e tau M) fun x M => pwX E (evL G_law es tau M) fun xs M => (x :: xs).length = 2 ∧ pwX E (R_law_canal (x :: xs) M) (finQ m Q) := e_call ⟨_, rfl, rfl, by unfold R_law_canal; rfl, rfl⟩
theorem c_law_canal_text {E : Xp} {m : Bool} {x : Str} {e : PEx} {es : PEs} {p p2 : Pos} {tau : Sig} {M : Sto} {Q : PV → Sto → Prop} : pwX E (evE G_law m (.call 5 x e es p p2) tau M) Q ↔ pwX E (evE G_law false e tau M) fun x M => pwX E (evL G_law es tau M) fun xs M => (x :: xs).length = 1 ∧ pwX E (R_canal_text (x :: xs) M) (finQ m Q) := e_call ⟨_, rfl, rfl, by unfold R_canal_text; rfl, rfl⟩
theorem c_law_law_words {E : Xp} {m : Bool} {x : Str} {e : PEx} {es : PEs} {p p2 : Pos} {tau : Sig} {M : Sto} {Q : PV → Sto → Prop} : pwX E (evE G_law m (.call 6 x e es p p2) tau M) Q ↔ pwX E (evE G_law false e tau M) fun x M => pwX E (evL G_law es tau M) fun xs M => (x :: xs).length = 1 ∧ pwX E (R_law_words (x :: xs) M) (finQ m Q) := e_call ⟨_, rfl, rfl, by unfold R_law_words; rfl, rfl⟩
theorem c_law_read_canal {E : Xp} {m : Bool} {x : Str} {e : PEx} {es : PEs} {p p2 : Pos} {tau : Sig} {M : Sto} {Q : PV → Sto → Prop} : pwX E (evE G_law m (.call 15 x e es p p2) tau M) Q ↔ pwX E (evE G_law false e tau M) fun x M => pwX E (evL G_law es tau M) fun xs M => (x :: xs).length = 1 ∧ pwX E (R_read_canal (x :: xs) M) (finQ m Q) := e_call ⟨_, rfl, rfl, by unfold R_read_canal; rfl, rfl⟩
theorem k_Reader_can_be_1 : G_Reader_can_be.cst[1]? = some (("CHAMBER" : Str), (.tup [.str (Str.ofString "chamber").cps.toList] : PV)) := rfl
theorem k_Reader_can_be_2 : G_Reader_can_be.cst[2]? = some (("MOST_PLACES" : Str), (.int 13 : PV)) := rfl
theorem k_figures_number_6 : G_figures_number.cst[6]? = some (("FIGURES" : Str), (.str (Str.ofString "0123456789").cps.toList : PV)) := rfl
theorem k_Reader_pound_3 : G_Reader_pound.cst[3]? = some (("MOST_BRIM" : Str), (.int 9 : PV)) := rfl
theorem k_Reader_pound_4 : G_Reader_pound.cst[4]? = some (("MOST_ROOM" : Str), (.int 4 : PV)) := rfl
theorem k_Reader_pound_5 : G_Reader_pound.cst[5]? = some (("MOST_PRICE" : Str), (.int 99 : PV)) := rfl
theorem k_read_canal_0 : G_read_canal.cst[0]? = some (("END" : Str), (.tup [.str (Str.ofString "end").cps.toList] : PV)) := rfl
theorem eqs_0_0 {M : Sto} : opC .Eq (.str (Str.ofString "pound").cps.toList) (.str (Str.ofString "end").cps.toList) M = some false   := by rw [opC_eqS]; decide +kernel
theorem eqs_0_1 {M : Sto} : opC .Eq (.str (Str.ofString "pound").cps.toList) (.str (Str.ofString "pound").cps.toList) M = some true   := by rw [opC_eqS]; decide +kernel
theorem eqs_0_2 {M : Sto} : opC .Eq (.str (Str.ofString "pound").cps.toList) (.str (Str.ofString "chamber").cps.toList) M = some false   := by rw [opC_eqS]; decide +kernel
theorem eqs_0_3 {M : Sto} : opC .Eq (.str (Str.ofString "pound").cps.toList) (.str (Str.ofString "0").cps.toList) M = some false   := by rw [opC_eqS]; decide +kernel
theorem eqs_1_0 {M : Sto} : opC .Eq (.str (Str.ofString "end").cps.toList) (.str (Str.ofString "end").cps.toList) M = some true   := by rw [opC_eqS]; decide +kernel
theorem eqs_1_1 {M : Sto} : opC .Eq (.str (Str.ofString "end").cps.toList) (.str (Str.ofString "pound").cps.toList) M = some false   := by rw [opC_eqS]; decide +kernel
theorem eqs_1_2 {M : Sto} : opC .Eq (.str (Str.ofString "end").cps.toList) (.str (Str.ofString "chamber").cps.toList) M = some false   := by rw [opC_eqS]; decide +kernel
theorem eqs_1_3 {M : Sto} : opC .Eq (.str (Str.ofString "end").cps.toList) (.str (Str.ofString "0").cps.toList) M = some false   := by rw [opC_eqS]; decide +kernel
theorem eqs_2_0 {M : Sto} : opC .Eq (.str (Str.ofString "up").cps.toList) (.str (Str.ofString "end").cps.toList) M = some false   := by rw [opC_eqS]; decide +kernel
theorem eqs_2_1 {M : Sto} : opC .Eq (.str (Str.ofString "up").cps.toList) (.str (Str.ofString "pound").cps.toList) M = some false   := by rw [opC_eqS]; decide +kernel
theorem eqs_2_2 {M : Sto} : opC .Eq (.str (Str.ofString "up").cps.toList) (.str (Str.ofString "chamber").cps.toList) M = some false   := by rw [opC_eqS]; decide +kernel
theorem eqs_2_3 {M : Sto} : opC .Eq (.str (Str.ofString "up").cps.toList) (.str (Str.ofString "0").cps.toList) M = some false   := by rw [opC_eqS]; decide +kernel
theorem eqs_3_0 {M : Sto} : opC .Eq (.str (Str.ofString "down").cps.toList) (.str (Str.ofString "end").cps.toList) M = some false   := by rw [opC_eqS]; decide +kernel
theorem eqs_3_1 {M : Sto} : opC .Eq (.str (Str.ofString "down").cps.toList) (.str (Str.ofString "pound").cps.toList) M = some false   := by rw [opC_eqS]; decide +kernel
theorem eqs_3_2 {M : Sto} : opC .Eq (.str (Str.ofString "down").cps.toList) (.str (Str.ofString "chamber").cps.toList) M = some false   := by rw [opC_eqS]; decide +kernel
theorem eqs_3_3 {M : Sto} : opC .Eq (.str (Str.ofString "down").cps.toList) (.str (Str.ofString "0").cps.toList) M = some false   := by rw [opC_eqS]; decide +kernel
theorem eqs_4_0 {M : Sto} : opC .Eq (.str (Str.ofString "chamber").cps.toList) (.str (Str.ofString "end").cps.toList) M = some false   := by rw [opC_eqS]; decide +kernel
theorem eqs_4_1 {M : Sto} : opC .Eq (.str (Str.ofString "chamber").cps.toList) (.str (Str.ofString "pound").cps.toList) M = some false   := by rw [opC_eqS]; decide +kernel
theorem eqs_4_2 {M : Sto} : opC .Eq (.str (Str.ofString "chamber").cps.toList) (.str (Str.ofString "chamber").cps.toList) M = some true   := by rw [opC_eqS]; decide +kernel
theorem eqs_4_3 {M : Sto} : opC .Eq (.str (Str.ofString "chamber").cps.toList) (.str (Str.ofString "0").cps.toList) M = some false   := by rw [opC_eqS]; decide +kernel
theorem eqs_5_0 {M : Sto} : opC .Eq (.str (Str.ofString " ").cps.toList) (.str (Str.ofString "end").cps.toList) M = some false   := by rw [opC_eqS]; decide +kernel
theorem eqs_5_1 {M : Sto} : opC .Eq (.str (Str.ofString " ").cps.toList) (.str (Str.ofString "pound").cps.toList) M = some false   := by rw [opC_eqS]; decide +kernel
theorem eqs_5_2 {M : Sto} : opC .Eq (.str (Str.ofString " ").cps.toList) (.str (Str.ofString "chamber").cps.toList) M = some false   := by rw [opC_eqS]; decide +kernel
theorem eqs_5_3 {M : Sto} : opC .Eq (.str (Str.ofString " ").cps.toList) (.str (Str.ofString "0").cps.toList) M = some false   := by rw [opC_eqS]; decide +kernel
theorem eqs_6_0 {M : Sto} : opC .Eq (.str (Str.ofString "0").cps.toList) (.str (Str.ofString "end").cps.toList) M = some false   := by rw [opC_eqS]; decide +kernel
theorem eqs_6_1 {M : Sto} : opC .Eq (.str (Str.ofString "0").cps.toList) (.str (Str.ofString "pound").cps.toList) M = some false   := by rw [opC_eqS]; decide +kernel
theorem eqs_6_2 {M : Sto} : opC .Eq (.str (Str.ofString "0").cps.toList) (.str (Str.ofString "chamber").cps.toList) M = some false   := by rw [opC_eqS]; decide +kernel
theorem eqs_6_3 {M : Sto} : opC .Eq (.str (Str.ofString "0").cps.toList) (.str (Str.ofString "0").cps.toList) M = some true   := by rw [opC_eqS]; decide +kernel
def eqsA := And.intro @eqs_0_0 (And.intro @eqs_0_1 (And.intro @eqs_0_2 (And.intro @eqs_0_3 (And.intro @eqs_1_0 (And.intro @eqs_1_1 (And.intro @eqs_1_2 (And.intro @eqs_1_3 (And.intro @eqs_2_0 (And.intro @eqs_2_1 (And.intro @eqs_2_2 (And.intro @eqs_2_3 (And.intro @eqs_3_0 (And.intro @eqs_3_1 (And.intro @eqs_3_2 (And.intro @eqs_3_3 (And.intro @eqs_4_0 (And.intro @eqs_4_1 (And.intro @eqs_4_2 (And.intro @eqs_4_3 (And.intro @eqs_5_0 (And.intro @eqs_5_1 (And.intro @eqs_5_2 (And.intro @eqs_5_3 (And.intro @eqs_6_0 (And.intro @eqs_6_1 (And.intro @eqs_6_2 (@eqs_6_3)))))))))))))))))))))))))))
abbrev init : List TRow := [(F_law_tape, H_law_tape), (F_law_draw, H_law_draw), (F_law_pound, H_law_pound), (F_law_canal, H_law_canal), (F_place_words, H_place_words), (F_canal_text, H_canal_text), (F_law_words, H_law_words), (F_Reader_init, H_Reader_init), (F_Reader_word, H_Reader_word), (F_Reader_can_be, H_Reader_can_be), (F_figures_number, H_figures_number), (F_Reader_number, H_Reader_number), (F_Reader_pound, H_Reader_pound), (F_Reader_place, H_Reader_place), (F_Reader_gate, H_Reader_gate), (F_read_canal, H_read_canal)]
theorem chain : Chain fa fn G0 (init ++ [(F_law, H_law)]) := .cons ok_law_tape (.cons ok_law_draw (.cons ok_law_pound (.cons ok_law_canal (.cons ok_place_words (.cons ok_canal_text (.cons ok_law_words (.cons ok_Reader_init (.cons ok_Reader_word (.cons ok_Reader_can_be (.cons ok_figures_number (.cons ok_Reader_number (.cons ok_Reader_pound (.cons ok_Reader_place (.cons ok_Reader_gate (.cons ok_read_canal (.cons ok_law .nil))))))))))))))))
end K03

namespace K03
open PySem PySem.Spec PyProof.Rows L2 SW
/-! ### the tape -/
def Tape2 (M : Sto) (t c n : Nat) : Prop := t ≠ c ∧ ∃ (at_ : Nat) (rest : Int) (ns : List Int), at_ ≤ n ∧ 0 ≤ rest ∧ M[t]? = some (.lst [.loc c, .int at_, .int rest]) ∧ M[c]? = some (.lst (ns.map PV.int))
theorem Tape2.kept {M M' : Sto} {t c n : Nat} {S : List Nat} (h : Tape2 M t c n) (k : Kept S M M') (ht : t ∉ S) (hc : c ∉ S) : Tape2 M' t c n := by
  obtain ⟨n, a, r, ns, h0, h1, h2, h3⟩ := h
  exact ⟨n, a, r, ns, h0, h1, k.obj h2 ht, k.obj h3 hc⟩
theorem Tape2.mono {M : Sto} {t c n m : Nat} (h : Tape2 M t c n) (k : n ≤ m) : Tape2 M t c m := by
  obtain ⟨n, a, r, ns, h0, h1, h2, h3⟩ := h
  exact ⟨n, a, r, ns, by omega, h1, h2, h3⟩
theorem Tape2.lt {M : Sto} {t c n : Nat} (h : Tape2 M t c n) : t < M.length ∧ c < M.length := by
  obtain ⟨n, a, r, ns, h0, h1, h2, h3⟩ := h
  exact ⟨lt_of_get h2, lt_of_get h3⟩
theorem spec_tape (ns : List Int) (hn : ns.length ≤ 63) (Q : PV → Sto → Prop) (h : ∀ M t c, Tape2 M t c 0 → Q (.loc t) M) : pwX xno (R_law_tape [.loc 0] [.frz (ns.map PV.int)]) Q := by
  have hc : ∀ (a b : Option Int), cut (ns.map PV.int) a b = (cut ns a b).map PV.int := fun a b => by simp [cut, List.map_take, List.map_drop]
  have hl : ∀ (a b : Option Int), ((cut ns a b).map PV.int).length ≤ LINE := fun a b => by
    have : (cut ns a b).length ≤ ns.length := by simp only [cut, List.length_take, List.length_drop]; omega
    rw [List.length_map]
    unfold LINE
    omega
  have o : opS (.loc 0) none (some 63) [.frz (ns.map PV.int)] = some (.loc 1, [.frz (ns.map PV.int), .lst ((cut ns none (some 63)).map PV.int)]) := by
    simp only [opS, lst_frz (M := [.frz (ns.map PV.int)]) (n := 0) rfl, hc]
    exact new_ok (hl _ _)
  generalize he : cut ns none (some 63) = cs at o
  rw [run_law_tape]; unfold B_law_tape
  simp only [↓rowD, rowU, ↓e_and, ↓e_or, Option.map_some, decide_eq_true_eq, Bool.not_eq_true', decide_eq_false_iff_not, List.map_cons, List.map_nil, List.set_cons_zero, List.set_cons_succ, List.getElem?_cons_zero, List.getElem?_cons_succ, List.cons_append, List.nil_append, List.length_cons, List.length_nil, Nat.reduceAdd, Nat.reduceSub, true_and, and_true, if_true, if_false, eq_self, Bool.false_eq_true, Bool.not_true, Bool.not_false, MulP, DivP, or_true, true_or, Int.reduceLT, Int.reduceLE, Int.reduceNeg, Int.reducePow, Int.reduceToNat, Int.cast_ofNat_Int, Int.natCast_zero, Int.natCast_one, Int.reduceEq, Bool.true_eq_false, not_true_eq_false, not_false_eq_true, eqsA, o, list_loc (M := [PObj.frz (ns.map PV.int), .lst (cs.map PV.int)]) (n := 1) (xs := cs.map PV.int) rfl, new_ok (he ▸ hl none (some 63))]
  exact ⟨by simp [LINE], h _ 3 2 ⟨by omega, 0, 0, cs, by omega, by omega, rfl, rfl⟩⟩
theorem spec_draw {M : Sto} {t c n : Nat} (many : Int) (hT : Tape2 M t c n) (hn : n < 1000000000) (h0 : 0 < many) (h1 : many < 1000000000000000000000000000000000000000000000000000000000000) (Q : PV → Sto → Prop)
    (h : ∀ x M', 0 ≤ x → x < many → Tape2 M' t c (n + 1) → Kept [t] M M' → Q (.int x) M') : pwX xno (R_law_draw [.loc t, .int many] M) Q := by
  obtain ⟨tc, a, r, ns, ha, hr, ht, hc⟩ := hT
  have md : ∀ z : Int, 0 ≤ z % many ∧ z % many < many := fun z => ⟨Int.emod_nonneg _ (by omega), Int.emod_lt_of_pos _ h0⟩
  rw [run_law_draw]; unfold B_law_draw
  simp only [↓rowD, rowU, ↓e_and, ↓e_or, Option.map_some, decide_eq_true_eq, Bool.not_eq_true', decide_eq_false_iff_not, List.map_cons, List.map_nil, List.set_cons_zero, List.set_cons_succ, List.getElem?_cons_zero, List.getElem?_cons_succ, List.cons_append, List.nil_append, List.length_cons, List.length_nil, Nat.reduceAdd, Nat.reduceSub, true_and, and_true, if_true, if_false, eq_self, Bool.false_eq_true, Bool.not_true, Bool.not_false, MulP, DivP, or_true, true_or, Int.reduceLT, Int.reduceLE, Int.reduceNeg, Int.reducePow, Int.reduceToNat, Int.cast_ofNat_Int, Int.natCast_zero, Int.natCast_one, Int.reduceEq, Bool.true_eq_false, not_true_eq_false, not_false_eq_true, eqsA, ixt_loc ht]
  split
  · simp only [↓rowD, rowU, ↓e_and, ↓e_or, Option.map_some, decide_eq_true_eq, Bool.not_eq_true', decide_eq_false_iff_not, List.map_cons, List.map_nil, List.set_cons_zero, List.set_cons_succ, List.getElem?_cons_zero, List.getElem?_cons_succ, List.cons_append, List.nil_append, List.length_cons, List.length_nil, Nat.reduceAdd, Nat.reduceSub, true_and, and_true, if_true, if_false, eq_self, Bool.false_eq_true, Bool.not_true, Bool.not_false, MulP, DivP, or_true, true_or, Int.reduceLT, Int.reduceLE, Int.reduceNeg, Int.reducePow, Int.reduceToNat, Int.cast_ofNat_Int, Int.natCast_zero, Int.natCast_one, Int.reduceEq, Bool.true_eq_false, not_true_eq_false, not_false_eq_true, u_law_draw_R1, B_law_draw_R1d, u_law_draw_R2, B_law_draw_R2d, u_law_draw_R3, B_law_draw_R3d, eqsA, ixt_loc ht, set_loc (i := 2) ht (by omega) (by simp)]
    exact ⟨h0, ⟨h0, h1⟩, h _ _ (md _).1 (md _).2 ⟨tc, a, r / many, ns, by omega, Int.ediv_nonneg (by omega) (by omega), get_set ht, get_setne hc tc⟩ (Kept.set (by simp))⟩
  · have ht1 := get_set (p := .lst [.loc c, .int (a + 1 : Nat), .int r]) ht
    have hc1 := get_setne (p := .lst [.loc c, .int (a + 1 : Nat), .int r]) hc tc
    have kp1 : Kept [t] M (M.set t (.lst [.loc c, .int (a + 1 : Nat), .int r])) := Kept.set (by simp)
    simp only [↓rowD, rowU, ↓e_and, ↓e_or, Option.map_some, decide_eq_true_eq, Bool.not_eq_true', decide_eq_false_iff_not, List.map_cons, List.map_nil, List.set_cons_zero, List.set_cons_succ, List.getElem?_cons_zero, List.getElem?_cons_succ, List.cons_append, List.nil_append, List.length_cons, List.length_nil, Nat.reduceAdd, Nat.reduceSub, true_and, and_true, if_true, if_false, eq_self, Bool.false_eq_true, Bool.not_true, Bool.not_false, MulP, DivP, or_true, true_or, Int.reduceLT, Int.reduceLE, Int.reduceNeg, Int.reducePow, Int.reduceToNat, Int.cast_ofNat_Int, Int.natCast_zero, Int.natCast_one, Int.reduceEq, Bool.true_eq_false, not_true_eq_false, not_false_eq_true, eqsA, ixt_loc ht, set_loc (i := 1) ht (by omega) (by simp), u_law_draw_R3, B_law_draw_R3d]
    rw [show ((a : Int) + 1) = ((a + 1 : Nat) : Int) from by omega]
    generalize M.set t (.lst [.loc c, .int (a + 1 : Nat), .int r]) = M1 at ht1 hc1 kp1 ⊢
    have rest : ∀ cell : Int, pwY (fun c v _ M => xno c v M) (evSs G_law_draw B_law_draw_R2 [some (.loc t), some (.int many), none, some (.int a), some (.int cell), none] M1) (fun _ M => Q .non M) Q := by
      intro cell
      have fin : pwY (fun c v _ M => xno c v M) (evSs G_law_draw B_law_draw_R1 [some (.loc t), some (.int many), none, some (.int a), some (.int cell), none] M1) (fun _ M => Q .non M) Q := by
        have b0 := Int.emod_nonneg cell (b := 1000003) (by omega)
        have b1 := Int.emod_lt_of_pos cell (b := 1000003) (by omega)
        have c0 := Int.emod_nonneg ((cell % 1000003 + 1) * (7919 * (a : Int) * a + 104729 * a + 12345)) (b := 2147483647) (by omega)
        have c1 := Int.emod_lt_of_pos ((cell % 1000003 + 1) * (7919 * (a : Int) * a + 104729 * a + 12345)) (b := 2147483647) (by omega)
        simp only [↓rowD, rowU, ↓e_and, ↓e_or, Option.map_some, decide_eq_true_eq, Bool.not_eq_true', decide_eq_false_iff_not, List.map_cons, List.map_nil, List.set_cons_zero, List.set_cons_succ, List.getElem?_cons_zero, List.getElem?_cons_succ, List.cons_append, List.nil_append, List.length_cons, List.length_nil, Nat.reduceAdd, Nat.reduceSub, true_and, and_true, if_true, if_false, eq_self, Bool.false_eq_true, Bool.not_true, Bool.not_false, MulP, DivP, or_true, true_or, Int.reduceLT, Int.reduceLE, Int.reduceNeg, Int.reducePow, Int.reduceToNat, Int.cast_ofNat_Int, Int.natCast_zero, Int.natCast_one, Int.reduceEq, Bool.true_eq_false, not_true_eq_false, not_false_eq_true, u_law_draw_R1, B_law_draw_R1d, u_law_draw_R2, B_law_draw_R2d, u_law_draw_R3, B_law_draw_R3d, eqsA]
        refine ⟨by omega, by omega, by omega, h0, h _ _ (md _).1 (md _).2 ⟨tc, a + 1, r, ns, by omega, hr, ht1, hc1⟩ kp1⟩
      simp only [↓rowD, rowU, ↓e_and, ↓e_or, Option.map_some, decide_eq_true_eq, Bool.not_eq_true', decide_eq_false_iff_not, List.map_cons, List.map_nil, List.set_cons_zero, List.set_cons_succ, List.getElem?_cons_zero, List.getElem?_cons_succ, List.cons_append, List.nil_append, List.length_cons, List.length_nil, Nat.reduceAdd, Nat.reduceSub, true_and, and_true, if_true, if_false, eq_self, Bool.false_eq_true, Bool.not_true, Bool.not_false, MulP, DivP, or_true, true_or, Int.reduceLT, Int.reduceLE, Int.reduceNeg, Int.reducePow, Int.reduceToNat, Int.cast_ofNat_Int, Int.natCast_zero, Int.natCast_one, Int.reduceEq, Bool.true_eq_false, not_true_eq_false, not_false_eq_true, eqsA, u_law_draw_R2, B_law_draw_R2d, ixt_loc ht1, len_loc hc1]
      split
      · split
        · simp only [↓rowD, rowU, ↓e_and, ↓e_or, Option.map_some, decide_eq_true_eq, Bool.not_eq_true', decide_eq_false_iff_not, List.map_cons, List.map_nil, List.set_cons_zero, List.set_cons_succ, List.getElem?_cons_zero, List.getElem?_cons_succ, List.cons_append, List.nil_append, List.length_cons, List.length_nil, Nat.reduceAdd, Nat.reduceSub, true_and, and_true, if_true, if_false, eq_self, Bool.false_eq_true, Bool.not_true, Bool.not_false, MulP, DivP, or_true, true_or, Int.reduceLT, Int.reduceLE, Int.reduceNeg, Int.reducePow, Int.reduceToNat, Int.cast_ofNat_Int, Int.natCast_zero, Int.natCast_one, Int.reduceEq, Bool.true_eq_false, not_true_eq_false, not_false_eq_true, u_law_draw_R1, B_law_draw_R1d, u_law_draw_R2, B_law_draw_R2d, u_law_draw_R3, B_law_draw_R3d, eqsA, set_loc (i := 2) ht1 (by omega) (by simp)]
          exact ⟨⟨h0, h1⟩, h0, h _ _ (md _).1 (md _).2 ⟨tc, a + 1, cell / many, ns, by omega, Int.ediv_nonneg (by omega) (by omega), get_set ht1, get_setne hc1 tc⟩ (kp1.trans (Kept.set (by simp)))⟩
        · exact fin
      · exact fin
    simp only [↓rowD, rowU, ↓e_and, ↓e_or, Option.map_some, decide_eq_true_eq, Bool.not_eq_true', decide_eq_false_iff_not, List.map_cons, List.map_nil, List.set_cons_zero, List.set_cons_succ, List.getElem?_cons_zero, List.getElem?_cons_succ, List.cons_append, List.nil_append, List.length_cons, List.length_nil, Nat.reduceAdd, Nat.reduceSub, true_and, and_true, if_true, if_false, eq_self, Bool.false_eq_true, Bool.not_true, Bool.not_false, MulP, DivP, or_true, true_or, Int.reduceLT, Int.reduceLE, Int.reduceNeg, Int.reducePow, Int.reduceToNat, Int.cast_ofNat_Int, Int.natCast_zero, Int.natCast_one, Int.reduceEq, Bool.true_eq_false, not_true_eq_false, not_false_eq_true, eqsA, ixt_loc ht1, len_loc hc1, List.length_map]
    split
    · rename_i hpos
      have hl : 0 < ns.length := by omega
      have ix : atI (ns.map PV.int) ((a : Int) % (ns.length : Int)) = some (.int (dy ns a)) := atI_dy hl a
      simp only [↓rowD, rowU, ↓e_and, ↓e_or, Option.map_some, decide_eq_true_eq, Bool.not_eq_true', decide_eq_false_iff_not, List.map_cons, List.map_nil, List.set_cons_zero, List.set_cons_succ, List.getElem?_cons_zero, List.getElem?_cons_succ, List.cons_append, List.nil_append, List.length_cons, List.length_nil, Nat.reduceAdd, Nat.reduceSub, true_and, and_true, if_true, if_false, eq_self, Bool.false_eq_true, Bool.not_true, Bool.not_false, MulP, DivP, or_true, true_or, Int.reduceLT, Int.reduceLE, Int.reduceNeg, Int.reducePow, Int.reduceToNat, Int.cast_ofNat_Int, Int.natCast_zero, Int.natCast_one, Int.reduceEq, Bool.true_eq_false, not_true_eq_false, not_false_eq_true, eqsA, ixt_loc ht1, ixt_loc hc1, len_loc hc1, List.length_map, ix]
      exact ⟨by omega, rest _⟩
    · exact rest _

theorem spec_pound {M : Sto} {t c n : Nat} (hT : Tape2 M t c n) (hn : n < 900000000) (Q : PV → Sto → Prop)
    (h : ∀ b d r p M', (Pl.po b d r p).ok → Tape2 M' t c (n + 9) → Kept [t] M M' → Q (Pl.po b d r p).v M') : pwX xno (R_law_pound [.loc t] M) Q := by
  rw [run_law_pound]; unfold B_law_pound
  simp only [↓rowD, rowU, ↓e_and, ↓e_or, Option.map_some, decide_eq_true_eq, Bool.not_eq_true', decide_eq_false_iff_not, List.map_cons, List.map_nil, List.set_cons_zero, List.set_cons_succ, List.getElem?_cons_zero, List.getElem?_cons_succ, List.cons_append, List.nil_append, List.length_cons, List.length_nil, Nat.reduceAdd, Nat.reduceSub, true_and, and_true, if_true, if_false, eq_self, Bool.false_eq_true, Bool.not_true, Bool.not_false, MulP, DivP, or_true, true_or, Int.reduceLT, Int.reduceLE, Int.reduceNeg, Int.reducePow, Int.reduceToNat, Int.cast_ofNat_Int, Int.natCast_zero, Int.natCast_one, Int.reduceEq, Bool.true_eq_false, not_true_eq_false, not_false_eq_true, ↓c_law_pound_law_draw, eqsA]
  refine spec_draw _ hT (by omega) (by decide) (by decide) _ fun x1 M1 a1 b1 hT1 k1 => ?_
  simp only [↓rowD, rowU, ↓e_and, ↓e_or, Option.map_some, decide_eq_true_eq, Bool.not_eq_true', decide_eq_false_iff_not, List.map_cons, List.map_nil, List.set_cons_zero, List.set_cons_succ, List.getElem?_cons_zero, List.getElem?_cons_succ, List.cons_append, List.nil_append, List.length_cons, List.length_nil, Nat.reduceAdd, Nat.reduceSub, true_and, and_true, if_true, if_false, eq_self, Bool.false_eq_true, Bool.not_true, Bool.not_false, MulP, DivP, or_true, true_or, Int.reduceLT, Int.reduceLE, Int.reduceNeg, Int.reducePow, Int.reduceToNat, Int.cast_ofNat_Int, Int.natCast_zero, Int.natCast_one, Int.reduceEq, Bool.true_eq_false, not_true_eq_false, not_false_eq_true, ↓c_law_pound_law_draw, eqsA]
  have l1 := hT1.lt
  refine ⟨by simp [LINE], spec_draw _ (hT1.kept (S := []) Kept.app (by simp) (by simp)) (by omega) (by decide) (by decide) _ fun i2 M2 a2 b2 hT2 k2 => ?_⟩
  have q2 := k2.obj (get_new (M := M1)) (by simp; omega)
  have kk2 : Kept [t] M M2 := k1.trans (Kept.app.trans k2)
  obtain ⟨x, hx, ox⟩ := pick4 (x0 := .int 1) (x1 := .int 2) (x2 := .int 3) (x3 := .int (1 + x1)) a2 b2
  obtain ⟨b, rfl, z0, z1⟩ : ∃ z : Int, x = .int z ∧ 1 ≤ z ∧ z ≤ 9 := by
    rcases ox with rfl | rfl | rfl | rfl <;> exact ⟨_, rfl, by omega, by omega⟩
  simp only [↓rowD, rowU, ↓e_and, ↓e_or, Option.map_some, decide_eq_true_eq, Bool.not_eq_true', decide_eq_false_iff_not, List.map_cons, List.map_nil, List.set_cons_zero, List.set_cons_succ, List.getElem?_cons_zero, List.getElem?_cons_succ, List.cons_append, List.nil_append, List.length_cons, List.length_nil, Nat.reduceAdd, Nat.reduceSub, true_and, and_true, if_true, if_false, eq_self, Bool.false_eq_true, Bool.not_true, Bool.not_false, MulP, DivP, or_true, true_or, Int.reduceLT, Int.reduceLE, Int.reduceNeg, Int.reducePow, Int.reduceToNat, Int.cast_ofNat_Int, Int.natCast_zero, Int.natCast_one, Int.reduceEq, Bool.true_eq_false, not_true_eq_false, not_false_eq_true, ↓c_law_pound_law_draw, eqsA, ixt_loc q2, hx]
  refine spec_draw _ hT2 (by omega) (by decide) (by decide) _ fun x3 M3 a3 b3 hT3 k3 => ?_
  simp only [↓rowD, rowU, ↓e_and, ↓e_or, Option.map_some, decide_eq_true_eq, Bool.not_eq_true', decide_eq_false_iff_not, List.map_cons, List.map_nil, List.set_cons_zero, List.set_cons_succ, List.getElem?_cons_zero, List.getElem?_cons_succ, List.cons_append, List.nil_append, List.length_cons, List.length_nil, Nat.reduceAdd, Nat.reduceSub, true_and, and_true, if_true, if_false, eq_self, Bool.false_eq_true, Bool.not_true, Bool.not_false, MulP, DivP, or_true, true_or, Int.reduceLT, Int.reduceLE, Int.reduceNeg, Int.reducePow, Int.reduceToNat, Int.cast_ofNat_Int, Int.natCast_zero, Int.natCast_one, Int.reduceEq, Bool.true_eq_false, not_true_eq_false, not_false_eq_true, ↓c_law_pound_law_draw, eqsA]
  have l3 := hT3.lt
  refine ⟨by simp [LINE], spec_draw _ (hT3.kept (S := []) Kept.app (by simp) (by simp)) (by omega) (by decide) (by decide) _ fun i4 M4 a4 b4 hT4 k4 => ?_⟩
  have q4 := k4.obj (get_new (M := M3)) (by simp; omega)
  have kk4 : Kept [t] M M4 := kk2.trans (k3.trans (Kept.app.trans k4))
  obtain ⟨x, hx, ox⟩ := pick4 (x0 := .int 0) (x1 := .int 0) (x2 := .int 1) (x3 := .int x3) a4 b4
  obtain ⟨d, rfl, d0⟩ : ∃ z : Int, x = .int z ∧ 0 ≤ z := by
    rcases ox with rfl | rfl | rfl | rfl <;> exact ⟨_, rfl, by omega⟩
  simp only [↓rowD, rowU, ↓e_and, ↓e_or, Option.map_some, decide_eq_true_eq, Bool.not_eq_true', decide_eq_false_iff_not, List.map_cons, List.map_nil, List.set_cons_zero, List.set_cons_succ, List.getElem?_cons_zero, List.getElem?_cons_succ, List.cons_append, List.nil_append, List.length_cons, List.length_nil, Nat.reduceAdd, Nat.reduceSub, true_and, and_true, if_true, if_false, eq_self, Bool.false_eq_true, Bool.not_true, Bool.not_false, MulP, DivP, or_true, true_or, Int.reduceLT, Int.reduceLE, Int.reduceNeg, Int.reducePow, Int.reduceToNat, Int.cast_ofNat_Int, Int.natCast_zero, Int.natCast_one, Int.reduceEq, Bool.true_eq_false, not_true_eq_false, not_false_eq_true, ↓c_law_pound_law_draw, eqsA, ixt_loc q4, hx]
  refine spec_draw _ hT4 (by omega) (by decide) (by decide) _ fun x5 M5 a5 b5 hT5 k5 => ?_
  simp only [↓rowD, rowU, ↓e_and, ↓e_or, Option.map_some, decide_eq_true_eq, Bool.not_eq_true', decide_eq_false_iff_not, List.map_cons, List.map_nil, List.set_cons_zero, List.set_cons_succ, List.getElem?_cons_zero, List.getElem?_cons_succ, List.cons_append, List.nil_append, List.length_cons, List.length_nil, Nat.reduceAdd, Nat.reduceSub, true_and, and_true, if_true, if_false, eq_self, Bool.false_eq_true, Bool.not_true, Bool.not_false, MulP, DivP, or_true, true_or, Int.reduceLT, Int.reduceLE, Int.reduceNeg, Int.reducePow, Int.reduceToNat, Int.cast_ofNat_Int, Int.natCast_zero, Int.natCast_one, Int.reduceEq, Bool.true_eq_false, not_true_eq_false, not_false_eq_true, ↓c_law_pound_law_draw, eqsA]
  have l5 := hT5.lt
  refine ⟨by simp [LINE], spec_draw _ (hT5.kept (S := []) Kept.app (by simp) (by simp)) (by omega) (by decide) (by decide) _ fun i6 M6 a6 b6 hT6 k6 => ?_⟩
  have q6 := k6.obj (get_new (M := M5)) (by simp; omega)
  have kk6 : Kept [t] M M6 := kk4.trans (k5.trans (Kept.app.trans k6))
  obtain ⟨x, hx, ox⟩ := pick3 (x0 := .int 1) (x1 := .int 2) (x2 := .int (1 + x5)) a6 b6
  obtain ⟨r, rfl, r0, r1⟩ : ∃ z : Int, x = .int z ∧ 1 ≤ z ∧ z ≤ 4 := by
    rcases ox with rfl | rfl | rfl <;> exact ⟨_, rfl, by omega, by omega⟩
  simp only [↓rowD, rowU, ↓e_and, ↓e_or, Option.map_some, decide_eq_true_eq, Bool.not_eq_true', decide_eq_false_iff_not, List.map_cons, List.map_nil, List.set_cons_zero, List.set_cons_succ, List.getElem?_cons_zero, List.getElem?_cons_succ, List.cons_append, List.nil_append, List.length_cons, List.length_nil, Nat.reduceAdd, Nat.reduceSub, true_and, and_true, if_true, if_false, eq_self, Bool.false_eq_true, Bool.not_true, Bool.not_false, MulP, DivP, or_true, true_or, Int.reduceLT, Int.reduceLE, Int.reduceNeg, Int.reducePow, Int.reduceToNat, Int.cast_ofNat_Int, Int.natCast_zero, Int.natCast_one, Int.reduceEq, Bool.true_eq_false, not_true_eq_false, not_false_eq_true, ↓c_law_pound_law_draw, eqsA, ixt_loc q6, hx]
  refine spec_draw _ hT6 (by omega) (by decide) (by decide) _ fun x7 M7 a7 b7 hT7 k7 => ?_
  simp only [↓rowD, rowU, ↓e_and, ↓e_or, Option.map_some, decide_eq_true_eq, Bool.not_eq_true', decide_eq_false_iff_not, List.map_cons, List.map_nil, List.set_cons_zero, List.set_cons_succ, List.getElem?_cons_zero, List.getElem?_cons_succ, List.cons_append, List.nil_append, List.length_cons, List.length_nil, Nat.reduceAdd, Nat.reduceSub, true_and, and_true, if_true, if_false, eq_self, Bool.false_eq_true, Bool.not_true, Bool.not_false, MulP, DivP, or_true, true_or, Int.reduceLT, Int.reduceLE, Int.reduceNeg, Int.reducePow, Int.reduceToNat, Int.cast_ofNat_Int, Int.natCast_zero, Int.natCast_one, Int.reduceEq, Bool.true_eq_false, not_true_eq_false, not_false_eq_true, ↓c_law_pound_law_draw, eqsA]
  refine spec_draw _ hT7 (by omega) (by decide) (by decide) _ fun x8 M8 a8 b8 hT8 k8 => ?_
  simp only [↓rowD, rowU, ↓e_and, ↓e_or, Option.map_some, decide_eq_true_eq, Bool.not_eq_true', decide_eq_false_iff_not, List.map_cons, List.map_nil, List.set_cons_zero, List.set_cons_succ, List.getElem?_cons_zero, List.getElem?_cons_succ, List.cons_append, List.nil_append, List.length_cons, List.length_nil, Nat.reduceAdd, Nat.reduceSub, true_and, and_true, if_true, if_false, eq_self, Bool.false_eq_true, Bool.not_true, Bool.not_false, MulP, DivP, or_true, true_or, Int.reduceLT, Int.reduceLE, Int.reduceNeg, Int.reducePow, Int.reduceToNat, Int.cast_ofNat_Int, Int.natCast_zero, Int.natCast_one, Int.reduceEq, Bool.true_eq_false, not_true_eq_false, not_false_eq_true, ↓c_law_pound_law_draw, eqsA]
  have l8 := hT8.lt
  refine ⟨by simp [LINE], spec_draw _ (hT8.kept (S := []) Kept.app (by simp) (by simp)) (by omega) (by decide) (by decide) _ fun i9 M9 a9 b9 hT9 k9 => ?_⟩
  have q9 := k9.obj (get_new (M := M8)) (by simp; omega)
  have kk9 : Kept [t] M M9 := kk6.trans (k7.trans (k8.trans (Kept.app.trans k9)))
  obtain ⟨x, hx, ox⟩ := pick4 (x0 := .non) (x1 := .int x7) (x2 := .int (1 + x8)) (x3 := .int 0) a9 b9
  obtain ⟨p, rfl, p0⟩ : ∃ p : Option Int, x = opI? p ∧ ∀ z, p = some z → 0 ≤ z ∧ z ≤ 99 := by
    rcases ox with rfl | rfl | rfl | rfl
    · exact ⟨none, rfl, fun z e => by cases e⟩
    · exact ⟨some _, rfl, fun z e => by cases e; omega⟩
    · exact ⟨some _, rfl, fun z e => by cases e; omega⟩
    · exact ⟨some _, rfl, fun z e => by cases e; omega⟩
  simp only [↓rowD, rowU, ↓e_and, ↓e_or, Option.map_some, decide_eq_true_eq, Bool.not_eq_true', decide_eq_false_iff_not, List.map_cons, List.map_nil, List.set_cons_zero, List.set_cons_succ, List.getElem?_cons_zero, List.getElem?_cons_succ, List.cons_append, List.nil_append, List.length_cons, List.length_nil, Nat.reduceAdd, Nat.reduceSub, true_and, and_true, if_true, if_false, eq_self, Bool.false_eq_true, Bool.not_true, Bool.not_false, MulP, DivP, or_true, true_or, Int.reduceLT, Int.reduceLE, Int.reduceNeg, Int.reducePow, Int.reduceToNat, Int.cast_ofNat_Int, Int.natCast_zero, Int.natCast_one, Int.reduceEq, Bool.true_eq_false, not_true_eq_false, not_false_eq_true, ↓c_law_pound_law_draw, eqsA, ixt_loc q9, hx]
  exact ⟨by simp [LINE], h b (min b d) r p M9 ⟨by omega, by omega, by omega, by omega, by omega, by omega, p0⟩ hT9 kk9⟩
theorem spec_canal {M : Sto} {t c n : Nat} (most : Nat) (hm : 1 ≤ most) (hm2 : most ≤ 11) (hT : Tape2 M t c n) (hn : n < 800000000) (Q : PV → Sto → Prop)
    (h : ∀ ps gs M', CanOk most ps gs → Tape2 M' t c (n + 200) → Kept [t] M M' → Q (.tup [.tup (ps.map Pl.v), .tup (gs.map gv)]) M') : pwX xno (R_law_canal [.loc t, .int most] M) Q := by
  rw [run_law_canal]; unfold B_law_canal
  simp only [↓rowD, rowU, ↓e_and, ↓e_or, Option.map_some, decide_eq_true_eq, Bool.not_eq_true', decide_eq_false_iff_not, List.map_cons, List.map_nil, List.set_cons_zero, List.set_cons_succ, List.getElem?_cons_zero, List.getElem?_cons_succ, List.cons_append, List.nil_append, List.length_cons, List.length_nil, Nat.reduceAdd, Nat.reduceSub, true_and, and_true, if_true, if_false, eq_self, Bool.false_eq_true, Bool.not_true, Bool.not_false, MulP, DivP, or_true, true_or, Int.reduceLT, Int.reduceLE, Int.reduceNeg, Int.reducePow, Int.reduceToNat, Int.cast_ofNat_Int, Int.natCast_zero, Int.natCast_one, Int.reduceEq, Bool.true_eq_false, not_true_eq_false, not_false_eq_true, ↓c_law_canal_law_draw, ↓c_law_canal_law_pound, u_law_canal_R1, B_law_canal_R1d, eqsA]
  refine spec_draw _ hT (by omega) (by omega) (by omega) _ fun x M1 x0 x1 hT1 k1 => ?_
  obtain ⟨N, hN⟩ : ∃ N : Nat, 1 + x = (N : Int) := ⟨(1 + x).toNat, by omega⟩
  simp only [↓rowD, rowU, ↓e_and, ↓e_or, Option.map_some, decide_eq_true_eq, Bool.not_eq_true', decide_eq_false_iff_not, List.map_cons, List.map_nil, List.set_cons_zero, List.set_cons_succ, List.getElem?_cons_zero, List.getElem?_cons_succ, List.cons_append, List.nil_append, List.length_cons, List.length_nil, Nat.reduceAdd, Nat.reduceSub, true_and, and_true, if_true, if_false, eq_self, Bool.false_eq_true, Bool.not_true, Bool.not_false, MulP, DivP, or_true, true_or, Int.reduceLT, Int.reduceLE, Int.reduceNeg, Int.reducePow, Int.reduceToNat, Int.cast_ofNat_Int, Int.natCast_zero, Int.natCast_one, Int.reduceEq, Bool.true_eq_false, not_true_eq_false, not_false_eq_true, ↓c_law_canal_law_draw, ↓c_law_canal_law_pound, u_law_canal_R1, B_law_canal_R1d, eqsA]
  rw [hN]
  have n1 : 1 ≤ N ∧ N ≤ most := by omega
  have l1 := hT1.lt
  generalize hp : M1.length = p
  have lp : t < p ∧ c < p ∧ M.length ≤ p := by have := k1.len; omega
  have hT1' : Tape2 (M1 ++ [.lst [.tup [.str (Str.ofString "end").cps.toList]]]) t c (n + 1) := hT1.kept (S := []) Kept.app (by simp) (by simp)
  have kk1 : Kept [t, p] M (M1 ++ [.lst [.tup [.str (Str.ofString "end").cps.toList]]]) := (k1.mono (by simp)).trans Kept.app
  have q1 : (M1 ++ [.lst [.tup [.str (Str.ofString "end").cps.toList]]])[p]? = some (.lst (([] ++ [Pl.en]).map Pl.v)) := by rw [← hp]; exact get_new
  generalize M1 ++ [.lst [.tup [.str (Str.ofString "end").cps.toList]]] = M2 at hT1' kk1 q1
  refine ⟨by simp [LINE], by simp [LINE], by simp [small62]; omega, pw_forR (fun i T m => ∃ (v5 v6 : Option PV) (xs : List Pl) (a : Pl), T = [some (.loc t), some (.int most), some (.int N), some (.loc p), v5, v6, none, none] ∧ Tape2 m t c (n + 1 + 10 * i) ∧ Kept [t, p] M m ∧
      m[p]? = some (.lst ((xs ++ [a]).map Pl.v)) ∧ xs.length = i ∧ Alt (xs ++ [a]) ∧ (∀ q ∈ xs ++ [a], q.ok) ∧ ((xs = [] ∧ a = .en) ∨ ∃ ys, xs = .en :: ys ∧ ∀ q ∈ ys ++ [a], q ≠ .en) ∧ (i = N → a = .ch)) ?_ ?_ ?_⟩
  · exact ⟨none, none, [], .en, rfl, hT1', kk1, q1, rfl, fun i a b h1 h2 => by simp at h2, by simp [Pl.ok], .inl ⟨rfl, rfl⟩, fun e => by omega⟩
  · rintro i T m hi ⟨v5, v6, xs, a, rfl, hT3, kk3, q3, hl, hA, hO, hE, hN2⟩
    unfold B_law_canal_1
    rw [Int.zero_add]
    have l3 := hT3.lt
    have last : ∀ m : Sto, m[p]? = some (.lst ((xs ++ [a]).map Pl.v)) → opI (.loc p) (.int (-1)) m = some (a.v, m) := fun m hm => by
      rw [ixt_loc hm, List.map_append, List.map_cons, List.map_nil, SW.atI_last]
      rfl
    have addc : ∀ (m : Sto) (b : Pl) (v6 : Option PV), Tape2 m t c (n + 1 + 10 * i + 10) → Kept [t, p] M m → m[p]? = some (.lst ((xs ++ [a]).map Pl.v)) → b.ok → b ≠ .en → (a = .ch ∨ b = .ch) → (i + 1 = N → b = .ch) →
        ∃ (v5' v6' : Option PV) (xs' : List Pl) (a' : Pl), [some (.loc t), some (.int most), some (.int N), some (.loc p), some (.int i), v6, none, none] = [some (.loc t), some (.int most), some (.int N), some (.loc p), v5', v6', none, none] ∧ Tape2 (m.set p (.lst ((xs ++ [a]).map Pl.v ++ [b.v]))) t c (n + 1 + 10 * (i + 1)) ∧ Kept [t, p] M (m.set p (.lst ((xs ++ [a]).map Pl.v ++ [b.v]))) ∧
          (m.set p (.lst ((xs ++ [a]).map Pl.v ++ [b.v])))[p]? = some (.lst ((xs' ++ [a']).map Pl.v)) ∧ xs'.length = i + 1 ∧ Alt (xs' ++ [a']) ∧ (∀ q ∈ xs' ++ [a'], q.ok) ∧ ((xs' = [] ∧ a' = .en) ∨ ∃ ys, xs' = .en :: ys ∧ ∀ q ∈ ys ++ [a'], q ≠ .en) ∧ (i + 1 = N → a' = .ch) := by
      intro m b v6 hT4 kk4 q4 ob ne k1 k2
      have lm := lt_of_get q4
      refine ⟨_, _, xs ++ [a], b, rfl, (hT4.mono (by omega)).kept (S := [p]) (Kept.set (by simp)) (by simp; omega) (by simp; omega), kk4.trans (Kept.set (by simp)), ?_, by simp; omega, hA.snoc k1, ?_, .inr ?_, k2⟩
      · rw [get_set q4]
        simp
      · intro q hq
        rcases List.mem_append.mp hq with z | z
        · exact hO q z
        · simp at z
          subst z
          exact ob
      · rcases hE with ⟨rfl, rfl⟩ | ⟨ys, rfl, hy⟩
        · exact ⟨[], rfl, by simpa using ne⟩
        · refine ⟨ys ++ [a], by simp, fun q hq => ?_⟩
          rcases List.mem_append.mp hq with z | z
          · exact hy q z
          · simp at z
            subst z
            exact ne
    have chv : PV.tup [.str (Str.ofString "chamber").cps.toList] = Pl.ch.v := rfl
    have ech : ∀ m : Sto, opC .Eq a.v Pl.ch.v m = some a.isCh := fun m => eq_ch a
    simp only [↓rowD, rowU, ↓e_and, ↓e_or, Option.map_some, decide_eq_true_eq, Bool.not_eq_true', decide_eq_false_iff_not, List.map_cons, List.map_nil, List.set_cons_zero, List.set_cons_succ, List.getElem?_cons_zero, List.getElem?_cons_succ, List.cons_append, List.nil_append, List.length_cons, List.length_nil, Nat.reduceAdd, Nat.reduceSub, true_and, and_true, if_true, if_false, eq_self, Bool.false_eq_true, Bool.not_true, Bool.not_false, MulP, DivP, or_true, true_or, Int.reduceLT, Int.reduceLE, Int.reduceNeg, Int.reducePow, Int.reduceToNat, Int.cast_ofNat_Int, Int.natCast_zero, Int.natCast_one, Int.reduceEq, Bool.true_eq_false, not_true_eq_false, not_false_eq_true, ↓c_law_canal_law_draw, ↓c_law_canal_law_pound, u_law_canal_R1, B_law_canal_R1d, eqsA, last m q3, chv, ech]
    have short : ((xs ++ [a]).map Pl.v).length < LINE := by rw [List.length_map, List.length_append]; unfold LINE; simp; omega
    have isN : i + 1 = N → (i : Int) = N - 1 := fun e => by omega
    have okc : Pl.ch.ok := trivial
    have tm : Tape2 m t c (n + 1 + 10 * i + 10) := hT3.mono (by omega)
    have ap := app_loc (v := Pl.ch.v) q3 short
    have endc := fun v6 => addc m .ch v6 tm kk3 q3 okc (by simp) (.inr rfl) (fun _ => rfl)
    split
    · split
      · refine ⟨by simp [LINE], ?_⟩
        split
        · rename_i hch
          have ea : a = .ch := by cases a <;> simp [Pl.isCh] at hch; rfl
          refine spec_draw _ hT3 (by omega) (by decide) (by decide) _ fun y M4 y0 y1 hT4 k4 => ?_
          have q4 := k4.obj q3 (by simp; omega)
          have kk4 := kk3.trans (k4.mono (by simp))
          simp only [↓rowD, rowU, ↓e_and, ↓e_or, Option.map_some, decide_eq_true_eq, Bool.not_eq_true', decide_eq_false_iff_not, List.map_cons, List.map_nil, List.set_cons_zero, List.set_cons_succ, List.getElem?_cons_zero, List.getElem?_cons_succ, List.cons_append, List.nil_append, List.length_cons, List.length_nil, Nat.reduceAdd, Nat.reduceSub, true_and, and_true, if_true, if_false, eq_self, Bool.false_eq_true, Bool.not_true, Bool.not_false, MulP, DivP, or_true, true_or, Int.reduceLT, Int.reduceLE, Int.reduceNeg, Int.reducePow, Int.reduceToNat, Int.cast_ofNat_Int, Int.natCast_zero, Int.natCast_one, Int.reduceEq, Bool.true_eq_false, not_true_eq_false, not_false_eq_true, ↓c_law_canal_law_draw, ↓c_law_canal_law_pound, u_law_canal_R1, B_law_canal_R1d, eqsA, lst_of q4, chv]
          split
          · refine spec_pound hT4 (by omega) _ fun b d r pr M5 ob hT5 k5 => ?_
            have q5 := k5.obj q4 (by simp; omega)
            have kk5 := kk4.trans (k5.mono (by simp))
            simp only [↓rowD, rowU, ↓e_and, ↓e_or, Option.map_some, decide_eq_true_eq, Bool.not_eq_true', decide_eq_false_iff_not, List.map_cons, List.map_nil, List.set_cons_zero, List.set_cons_succ, List.getElem?_cons_zero, List.getElem?_cons_succ, List.cons_append, List.nil_append, List.length_cons, List.length_nil, Nat.reduceAdd, Nat.reduceSub, true_and, and_true, if_true, if_false, eq_self, Bool.false_eq_true, Bool.not_true, Bool.not_false, MulP, DivP, or_true, true_or, Int.reduceLT, Int.reduceLE, Int.reduceNeg, Int.reducePow, Int.reduceToNat, Int.cast_ofNat_Int, Int.natCast_zero, Int.natCast_one, Int.reduceEq, Bool.true_eq_false, not_true_eq_false, not_false_eq_true, ↓c_law_canal_law_draw, ↓c_law_canal_law_pound, u_law_canal_R1, B_law_canal_R1d, eqsA, app_loc (v := (Pl.po b d r pr).v) q5 short]
            exact addc M5 _ _ (hT5.mono (by omega)) kk5 q5 ob (by simp) (.inl ea) (fun e => by have := isN e; omega)
          · simp only [↓rowD, rowU, ↓e_and, ↓e_or, Option.map_some, decide_eq_true_eq, Bool.not_eq_true', decide_eq_false_iff_not, List.map_cons, List.map_nil, List.set_cons_zero, List.set_cons_succ, List.getElem?_cons_zero, List.getElem?_cons_succ, List.cons_append, List.nil_append, List.length_cons, List.length_nil, Nat.reduceAdd, Nat.reduceSub, true_and, and_true, if_true, if_false, eq_self, Bool.false_eq_true, Bool.not_true, Bool.not_false, MulP, DivP, or_true, true_or, Int.reduceLT, Int.reduceLE, Int.reduceNeg, Int.reducePow, Int.reduceToNat, Int.cast_ofNat_Int, Int.natCast_zero, Int.natCast_one, Int.reduceEq, Bool.true_eq_false, not_true_eq_false, not_false_eq_true, ↓c_law_canal_law_draw, ↓c_law_canal_law_pound, u_law_canal_R1, B_law_canal_R1d, eqsA, app_loc (v := Pl.ch.v) q4 short]
            exact ⟨by simp [LINE], addc M4 .ch _ (hT4.mono (by omega)) kk4 q4 okc (by simp) (.inr rfl) (fun _ => rfl)⟩
        · simp only [↓rowD, rowU, ↓e_and, ↓e_or, Option.map_some, decide_eq_true_eq, Bool.not_eq_true', decide_eq_false_iff_not, List.map_cons, List.map_nil, List.set_cons_zero, List.set_cons_succ, List.getElem?_cons_zero, List.getElem?_cons_succ, List.cons_append, List.nil_append, List.length_cons, List.length_nil, Nat.reduceAdd, Nat.reduceSub, true_and, and_true, if_true, if_false, eq_self, Bool.false_eq_true, Bool.not_true, Bool.not_false, MulP, DivP, or_true, true_or, Int.reduceLT, Int.reduceLE, Int.reduceNeg, Int.reducePow, Int.reduceToNat, Int.cast_ofNat_Int, Int.natCast_zero, Int.natCast_one, Int.reduceEq, Bool.true_eq_false, not_true_eq_false, not_false_eq_true, ↓c_law_canal_law_draw, ↓c_law_canal_law_pound, u_law_canal_R1, B_law_canal_R1d, eqsA, lst_of q3, chv, ap]
          exact ⟨by simp [LINE], endc _⟩
      · simp only [↓rowD, rowU, ↓e_and, ↓e_or, Option.map_some, decide_eq_true_eq, Bool.not_eq_true', decide_eq_false_iff_not, List.map_cons, List.map_nil, List.set_cons_zero, List.set_cons_succ, List.getElem?_cons_zero, List.getElem?_cons_succ, List.cons_append, List.nil_append, List.length_cons, List.length_nil, Nat.reduceAdd, Nat.reduceSub, true_and, and_true, if_true, if_false, eq_self, Bool.false_eq_true, Bool.not_true, Bool.not_false, MulP, DivP, or_true, true_or, Int.reduceLT, Int.reduceLE, Int.reduceNeg, Int.reducePow, Int.reduceToNat, Int.cast_ofNat_Int, Int.natCast_zero, Int.natCast_one, Int.reduceEq, Bool.true_eq_false, not_true_eq_false, not_false_eq_true, ↓c_law_canal_law_draw, ↓c_law_canal_law_pound, u_law_canal_R1, B_law_canal_R1d, eqsA, lst_of q3, chv, ap]
        exact ⟨by simp [LINE], endc _⟩
    · simp only [↓rowD, rowU, ↓e_and, ↓e_or, Option.map_some, decide_eq_true_eq, Bool.not_eq_true', decide_eq_false_iff_not, List.map_cons, List.map_nil, List.set_cons_zero, List.set_cons_succ, List.getElem?_cons_zero, List.getElem?_cons_succ, List.cons_append, List.nil_append, List.length_cons, List.length_nil, Nat.reduceAdd, Nat.reduceSub, true_and, and_true, if_true, if_false, eq_self, Bool.false_eq_true, Bool.not_true, Bool.not_false, MulP, DivP, or_true, true_or, Int.reduceLT, Int.reduceLE, Int.reduceNeg, Int.reducePow, Int.reduceToNat, Int.cast_ofNat_Int, Int.natCast_zero, Int.natCast_one, Int.reduceEq, Bool.true_eq_false, not_true_eq_false, not_false_eq_true, ↓c_law_canal_law_draw, ↓c_law_canal_law_pound, u_law_canal_R1, B_law_canal_R1d, eqsA, lst_of q3, chv, ap]
      exact ⟨by simp [LINE], endc _⟩
  · rintro T m ⟨v5, v6, xs, a, rfl, hT3, kk3, q3, hl, hA, hO, hE, hN2⟩
    rw [show ((N : Int) - 0).toNat = N from by omega] at *
    have l3 := hT3.lt
    simp only [↓rowD, rowU, ↓e_and, ↓e_or, Option.map_some, decide_eq_true_eq, Bool.not_eq_true', decide_eq_false_iff_not, List.map_cons, List.map_nil, List.set_cons_zero, List.set_cons_succ, List.getElem?_cons_zero, List.getElem?_cons_succ, List.cons_append, List.nil_append, List.length_cons, List.length_nil, Nat.reduceAdd, Nat.reduceSub, true_and, and_true, if_true, if_false, eq_self, Bool.false_eq_true, Bool.not_true, Bool.not_false, MulP, DivP, or_true, true_or, Int.reduceLT, Int.reduceLE, Int.reduceNeg, Int.reducePow, Int.reduceToNat, Int.cast_ofNat_Int, Int.natCast_zero, Int.natCast_one, Int.reduceEq, Bool.true_eq_false, not_true_eq_false, not_false_eq_true, ↓c_law_canal_law_draw, ↓c_law_canal_law_pound, eqsA]
    refine spec_draw _ hT3 (by omega) (by omega) (by omega) _ fun x2 M4 x20 x21 hT4 k4 => ?_
    have q4 := k4.obj q3 (by simp; omega)
    have kk4 := kk3.trans (k4.mono (by simp))
    have l4 := hT4.lt
    obtain ⟨tp, ht⟩ : ∃ tp : Nat, 1 + x2 = (tp : Int) := ⟨(1 + x2).toNat, by omega⟩
    have ux : [PV.str (Str.ofString "up").cps.toList] = [gv true] := rfl
    have dx : [PV.str (Str.ofString "down").cps.toList] = [gv false] := rfl
    have fin : ∀ (m : Sto) (gl : Nat) (gs : List Bool), m[gl]? = some (.lst (gs.map gv)) → gs.length = N + 1 → Tape2 m t c (n + 150) → Kept [t, p] M m → m[p]? = some (.lst ((xs ++ [a]).map Pl.v)) →
        pwY (fun c v _ M => xno c v M) (evSs G_law_canal B_law_canal_R1 [some (.loc t), some (.int most), some (.int N), some (.loc p), v5, v6, some (.int tp), some (.loc gl)] m) (fun _ M => Q .non M) Q := by
      intro m gl gs qg lg hT5 kk5 q5
      have lgm := lt_of_get qg
      have lpm := lt_of_get q5
      simp only [↓rowD, rowU, ↓e_and, ↓e_or, Option.map_some, decide_eq_true_eq, Bool.not_eq_true', decide_eq_false_iff_not, List.map_cons, List.map_nil, List.set_cons_zero, List.set_cons_succ, List.getElem?_cons_zero, List.getElem?_cons_succ, List.cons_append, List.nil_append, List.length_cons, List.length_nil, Nat.reduceAdd, Nat.reduceSub, true_and, and_true, if_true, if_false, eq_self, Bool.false_eq_true, Bool.not_true, Bool.not_false, MulP, DivP, or_true, true_or, Int.reduceLT, Int.reduceLE, Int.reduceNeg, Int.reducePow, Int.reduceToNat, Int.cast_ofNat_Int, Int.natCast_zero, Int.natCast_one, Int.reduceEq, Bool.true_eq_false, not_true_eq_false, not_false_eq_true, ↓c_law_canal_law_draw, ↓c_law_canal_law_pound, u_law_canal_R1, B_law_canal_R1d, eqsA, pw_addL, q5, lstM_some, get_new, get_app q5]
      have ex : PV.tup [.str (Str.ofString "end").cps.toList] = Pl.en.v := rfl
      rw [ex]
      have q6 : (m ++ [PObj.lst [Pl.en.v]] ++ [.lst ((xs ++ [a]).map Pl.v ++ [Pl.en.v])])[(m ++ [PObj.lst [Pl.en.v]]).length]? = some (.lst ((xs ++ [a]).map Pl.v ++ [Pl.en.v])) := get_new
      have q7 : (m ++ [PObj.lst [Pl.en.v]] ++ [.lst ((xs ++ [a]).map Pl.v ++ [Pl.en.v])])[gl]? = some (.lst (gs.map gv)) := get_app (get_app qg)
      simp only [↓rowD, rowU, ↓e_and, ↓e_or, Option.map_some, decide_eq_true_eq, Bool.not_eq_true', decide_eq_false_iff_not, List.map_cons, List.map_nil, List.set_cons_zero, List.set_cons_succ, List.getElem?_cons_zero, List.getElem?_cons_succ, List.cons_append, List.nil_append, List.length_cons, List.length_nil, Nat.reduceAdd, Nat.reduceSub, true_and, and_true, if_true, if_false, eq_self, Bool.false_eq_true, Bool.not_true, Bool.not_false, MulP, DivP, or_true, true_or, Int.reduceLT, Int.reduceLE, Int.reduceNeg, Int.reducePow, Int.reduceToNat, Int.cast_ofNat_Int, Int.natCast_zero, Int.natCast_one, Int.reduceEq, Bool.true_eq_false, not_true_eq_false, not_false_eq_true, ↓c_law_canal_law_draw, ↓c_law_canal_law_pound, u_law_canal_R1, B_law_canal_R1d, eqsA, tuple_loc q6, tuple_loc q7]
      have e : (xs ++ [a]).map Pl.v ++ [Pl.en.v] = (xs ++ [a] ++ [Pl.en]).map Pl.v := by simp
      and_intros
      all_goals first | (simp [LINE]; done) | (simp [LINE]; omega; done) | skip
      rw [e]
      refine h _ gs _ ⟨?_, ?_, ?_, hA.snoc (.inl (hN2 rfl))⟩ ((hT5.mono (by omega)).kept (S := []) (Kept.app.trans Kept.app) (by simp) (by simp)) ((kk5.trans (Kept.app.trans Kept.app)).drop fun z hz => by
        simp at hz
        rcases hz with rfl | rfl
        · simp
        · exact .inr lp.2.2)
      · rcases hE with ⟨rfl, rfl⟩ | ⟨ys, rfl, hy⟩
        · simp at hl; omega
        · refine ⟨ys ++ [a], by simp, by simp, ?_, hy⟩
          simp at hl ⊢
          omega
      · rw [lg]; simp; omega
      · intro q hq
        rcases List.mem_append.mp hq with z | z
        · exact hO q z
        · simp at z
          subst z
          trivial
    simp only [↓rowD, rowU, ↓e_and, ↓e_or, Option.map_some, decide_eq_true_eq, Bool.not_eq_true', decide_eq_false_iff_not, List.map_cons, List.map_nil, List.set_cons_zero, List.set_cons_succ, List.getElem?_cons_zero, List.getElem?_cons_succ, List.cons_append, List.nil_append, List.length_cons, List.length_nil, Nat.reduceAdd, Nat.reduceSub, true_and, and_true, if_true, if_false, eq_self, Bool.false_eq_true, Bool.not_true, Bool.not_false, MulP, DivP, or_true, true_or, Int.reduceLT, Int.reduceLE, Int.reduceNeg, Int.reducePow, Int.reduceToNat, Int.cast_ofNat_Int, Int.natCast_zero, Int.natCast_one, Int.reduceEq, Bool.true_eq_false, not_true_eq_false, not_false_eq_true, ↓c_law_canal_law_draw, ↓c_law_canal_law_pound, eqsA, isS_newL, lit_le, Nat.reduceLeDiff, pw_addL, lstM_some, List.append_assoc, List.length_append, get_app_k, get_app_0, set_app_k, set_app_0, ↓pw_lc0, ↓pw_lcS, pwO_n, pwO_s, List.getElem?_nil, ↓pwR_nox, Nat.add_assoc, pw_mulL, rep_one, ux, dx, ht]
    and_intros
    all_goals first | (simp [LINE]; done) | omega | (simp [LINE]; omega; done) | skip
    have ge : List.replicate (↑tp : Int).toNat (gv true) ++ List.replicate ((N : Int) + 1 - tp).toNat (gv false) = (List.replicate tp true ++ List.replicate (N + 1 - tp) false).map gv := by
      rw [List.map_append, List.map_replicate, List.map_replicate, Int.toNat_natCast, show ((N : Int) + 1 - tp).toNat = N + 1 - tp from by omega]
    rw [ge]
    refine app_intro (P := fun X => pwX xno (R_law_draw [.loc t, .int 3] X) _) fun M5 look look0 kp5 => ?_
    have q5 : M5[M4.length + 4]? = some (.lst ((List.replicate tp true ++ List.replicate (N + 1 - tp) false).map gv)) := by rw [look]; rfl
    have p5 := kp5.obj q4 (by simp)
    have hT5 := hT4.kept kp5 (by simp) (by simp)
    have l5 := lt_of_get q5
    clear look look0
    refine spec_draw _ hT5 (by omega) (by decide) (by decide) _ fun x3 M6 x30 x31 hT6 kp6 => ?_
    have q6 := kp6.obj q5 (by simp; omega)
    have p6 := kp6.obj p5 (by simp; omega)
    have kk6 : Kept [t, p] M M6 := kk4.trans ((kp5.mono (by simp)).trans (kp6.mono (by simp)))
    have l6 := hT6.lt
    simp only [↓rowD, rowU, ↓e_and, ↓e_or, Option.map_some, decide_eq_true_eq, Bool.not_eq_true', decide_eq_false_iff_not, List.map_cons, List.map_nil, List.set_cons_zero, List.set_cons_succ, List.getElem?_cons_zero, List.getElem?_cons_succ, List.cons_append, List.nil_append, List.length_cons, List.length_nil, Nat.reduceAdd, Nat.reduceSub, true_and, and_true, if_true, if_false, eq_self, Bool.false_eq_true, Bool.not_true, Bool.not_false, MulP, DivP, or_true, true_or, Int.reduceLT, Int.reduceLE, Int.reduceNeg, Int.reducePow, Int.reduceToNat, Int.cast_ofNat_Int, Int.natCast_zero, Int.natCast_one, Int.reduceEq, Bool.true_eq_false, not_true_eq_false, not_false_eq_true, ↓c_law_canal_law_draw, ↓c_law_canal_law_pound, eqsA]
    split
    · refine ⟨by simp [small62]; omega, ?_⟩
      have lp6 := lt_of_get p6
      refine pw_lc (fun i m => Tape2 m t c (n + 1 + 10 * N + 2 + i) ∧ Kept [t, M6.length] M6 m ∧ ∃ gs : List Bool, gs.length = i ∧ m[M6.length]? = some (.lst (gs.map gv))) ?_ ?_ ?_
      · exact ⟨hT6.kept (S := []) Kept.app (by simp) (by simp), Kept.app, [], rfl, get_new⟩
      · rintro i m hi ⟨hT7, kp7, gs, lg, qg⟩
        have hi' : i < N + 1 := by simp [rngW] at hi; omega
        have l7 := hT7.lt
        refine ⟨.int (0 + i), _, ?_, rfl, ?_⟩
        · show some (if _ then _ else _) = _
          rw [if_pos (by omega)]
        · simp only [↓rowD, rowU, ↓e_and, ↓e_or, Option.map_some, decide_eq_true_eq, Bool.not_eq_true', decide_eq_false_iff_not, List.map_cons, List.map_nil, List.set_cons_zero, List.set_cons_succ, List.getElem?_cons_zero, List.getElem?_cons_succ, List.cons_append, List.nil_append, List.length_cons, List.length_nil, Nat.reduceAdd, Nat.reduceSub, true_and, and_true, if_true, if_false, eq_self, Bool.false_eq_true, Bool.not_true, Bool.not_false, MulP, DivP, or_true, true_or, Int.reduceLT, Int.reduceLE, Int.reduceNeg, Int.reducePow, Int.reduceToNat, Int.cast_ofNat_Int, Int.natCast_zero, Int.natCast_one, Int.reduceEq, Bool.true_eq_false, not_true_eq_false, not_false_eq_true, ↓c_law_canal_law_draw, ↓c_law_canal_law_pound, eqsA, pwR_nox, wipeP]
          refine ⟨by simp [LINE], ?_⟩
          have lgm := lt_of_get qg
          refine spec_draw _ (hT7.kept (S := []) Kept.app (by simp) (by simp)) (by omega) (by decide) (by decide) _ fun x4 M8 x40 x41 hT8 kp8 => ?_
          have q8 := kp8.obj (get_new (M := m)) (by simp; omega)
          have g8 := kp8.obj (get_app qg) (by simp; omega)
          obtain ⟨bb, hb⟩ : ∃ bb : Bool, atI [PV.str (Str.ofString "up").cps.toList, .str (Str.ofString "down").cps.toList] x4 = some (gv bb) := by
            rcases (show x4 = 0 ∨ x4 = 1 by omega) with rfl | rfl
            · exact ⟨true, rfl⟩
            · exact ⟨false, rfl⟩
          simp only [↓rowD, rowU, ↓e_and, ↓e_or, Option.map_some, decide_eq_true_eq, Bool.not_eq_true', decide_eq_false_iff_not, List.map_cons, List.map_nil, List.set_cons_zero, List.set_cons_succ, List.getElem?_cons_zero, List.getElem?_cons_succ, List.cons_append, List.nil_append, List.length_cons, List.length_nil, Nat.reduceAdd, Nat.reduceSub, true_and, and_true, if_true, if_false, eq_self, Bool.false_eq_true, Bool.not_true, Bool.not_false, MulP, DivP, or_true, true_or, Int.reduceLT, Int.reduceLE, Int.reduceNeg, Int.reducePow, Int.reduceToNat, Int.cast_ofNat_Int, Int.natCast_zero, Int.natCast_one, Int.reduceEq, Bool.true_eq_false, not_true_eq_false, not_false_eq_true, ↓c_law_canal_law_draw, ↓c_law_canal_law_pound, eqsA, ixt_loc q8, hb]
          refine ⟨_, g8, by simp [LINE]; omega, (hT8.mono (by omega)).kept (S := [M6.length]) (Kept.set (by simp)) (by simp; omega) (by simp; omega), kp7.trans (Kept.app.trans ((kp8.mono (by simp)).trans (Kept.set (by simp)))), gs ++ [bb], by simp [lg], ?_⟩
          rw [get_set g8]
          simp
      · rintro m ⟨hT7, kp7, gs, lg, qg⟩
        refine ⟨?_, ?_⟩
        · exact congrArg some (if_neg (Nat.lt_irrefl _))
        · simp only [↓rowD, rowU, ↓e_and, ↓e_or, Option.map_some, decide_eq_true_eq, Bool.not_eq_true', decide_eq_false_iff_not, List.map_cons, List.map_nil, List.set_cons_zero, List.set_cons_succ, List.getElem?_cons_zero, List.getElem?_cons_succ, List.cons_append, List.nil_append, List.length_cons, List.length_nil, Nat.reduceAdd, Nat.reduceSub, true_and, and_true, if_true, if_false, eq_self, Bool.false_eq_true, Bool.not_true, Bool.not_false, MulP, DivP, or_true, true_or, Int.reduceLT, Int.reduceLE, Int.reduceNeg, Int.reducePow, Int.reduceToNat, Int.cast_ofNat_Int, Int.natCast_zero, Int.natCast_one, Int.reduceEq, Bool.true_eq_false, not_true_eq_false, not_false_eq_true, ↓c_law_canal_law_draw, ↓c_law_canal_law_pound, eqsA]
          have lg' : gs.length = N + 1 := by rw [lg]; simp [rngW]
          have cn : (rngW 0 ((N : Int) + 1)).cnt ≤ 12 := by simp [rngW]; omega
          exact fin m _ gs qg lg' (hT7.mono (by omega)) (kk6.trans (kp7.drop fun z hz => by
            simp at hz
            rcases hz with rfl | rfl
            · simp
            · exact .inr (Nat.le_refl _))) (kp7.obj p6 (by simp; omega))
    · exact fin M6 _ _ q6 (by simp; omega) (hT6.mono (by omega)) kk6 p6

/-! ### texts of stands -/
def numT (i : Int) : List Nat := (toString i : Str).cps.toList
theorem log_ok {i : Int} (h : i.natAbs < 10 ^ 70) : i.natAbs.log2 < 1920 := by
  by_cases z : i.natAbs = 0
  · rw [z]; decide
  · exact (Nat.log2_lt z).mpr (Nat.lt_trans h (Nat.lt_of_lt_of_le (show 10 ^ 70 < 2 ^ 250 by decide +kernel) (Nat.pow_le_pow_right (by decide) (by decide))))
theorem numT_len {i : Int} (h : i.natAbs < 10 ^ 70) : (numT i).length ≤ 80 := by
  have e := PySem.int_text_length_le10 (k := 70) (by decide) h
  have e2 := PySem.ofString_length (toString i)
  have e3 : (numT i).length = (Str.ofString (toString i)).length := by simp [numT, Str.length]
  omega
theorem fmt_int {i : Int} (h : i.natAbs < 10 ^ 70) (m : Sto) : fmtP (.int i) m = some (.str (numT i), m) := if_pos (log_ok h)
theorem fmt_str {s : List Nat} (h : s.length ≤ LINE) (m : Sto) : fmtP (.str s) m = some (.str s, m) := if_pos h
theorem str_int {i : Int} (h : i.natAbs < 10 ^ 70) (m : Sto) : opM .str [.int i] m = some (.str (numT i), m) := if_pos (log_ok h)
def joinS (ts : List (List Nat)) : List Nat := (Txt.join (Str.ofString " ") (ts.map fun t => (⟨t.toArray⟩ : Str))).cps.toList
theorem strs_map : ∀ ts : List (List Nat), strs? (ts.map PV.str) = some ts
  | [] => rfl
  | t :: ts => by
    show (strs? (ts.map PV.str)).map (t :: ·) = _
    rw [strs_map ts]
    rfl
theorem sum_le' : ∀ (xs : List Nat) (k : Nat), (∀ x ∈ xs, x ≤ k) → xs.sum ≤ xs.length * k
  | [], k, _ => by simp
  | x :: xs, k, h => by
    have h1 := h x (by simp)
    have h2 := sum_le' xs k fun y hy => h y (by simp [hy])
    simp only [List.sum_cons, List.length_cons, Nat.add_mul, Nat.one_mul]
    omega
theorem jn_parts {m : Sto} {q : Nat} {ts : List (List Nat)} (h : m[q]? = some (.lst (ts.map PV.str))) (l : ts.length ≤ 100) (b : ∀ t ∈ ts, t.length ≤ 1000) : jnP (Str.ofString " ") (.loc q) m = some (.str (joinS ts), m) := by
  simp only [jnP, lst_of h, strs_map]
  rw [if_pos ?_]
  · rfl
  · have e : ((ts.map fun a => (⟨a.toArray⟩ : Str)).map (·.length)).sum ≤ ts.length * 1000 := by
      have := sum_le' ((ts.map fun a => (⟨a.toArray⟩ : Str)).map (·.length)) 1000 fun x hx => by
        rw [List.map_map] at hx
        obtain ⟨t, ht, rfl⟩ := List.mem_map.mp hx
        have := b t ht
        simpa [Str.length] using this
      simpa using this
    have e2 : (Str.ofString " ").length = 1 := by decide +kernel
    rw [List.length_map, e2]
    omega
/-! ### texts of stands, read -/
theorem str_eta (a : Str) : (⟨a.cps.toList.toArray⟩ : Str) = a := TL.ext_tl rfl
theorem spl_join81 {sep : Str} {c : Nat} (ey : TL.tl sep = [c]) (hk : sep.cps.all (· < 256) = true) {ts : List (List Nat)} (hne : ts ≠ []) (hp : ∀ t ∈ ts, c ∉ t) (l0 : (sep.length == 0) = false) (m : Sto)
    (l1 : ts.length ≤ 1000) (l2 : (Txt.join sep (ts.map fun t => (⟨t.toArray⟩ : Str))).cps.toList.length ≤ 100000) :
    splP sep (.str (Txt.join sep (ts.map fun t => (⟨t.toArray⟩ : Str))).cps.toList) m = some (.loc m.length, m ++ [.lst (ts.map PV.str)]) := by
  have e : Txt.split (Txt.join sep (ts.map fun t => (⟨t.toArray⟩ : Str))) sep = ts.map fun t => (⟨t.toArray⟩ : Str) := TL.split_join ey hk (by simpa using hne) fun p h => by
    obtain ⟨t, ht, rfl⟩ := List.mem_map.mp h
    exact hp t ht
  simp only [splP, str_eta, e]
  have e2 : ((ts.map fun t => (⟨t.toArray⟩ : Str)).map fun x => PV.str x.cps.toList) = ts.map PV.str := by
    rw [List.map_map]
    refine List.map_congr_left fun t _ => ?_
    show PV.str (t.toArray.toList) = _
    simp
  rw [if_pos ⟨l0, by unfold LINE; omega, by rw [List.length_map]; unfold LINE; omega⟩, e2]
  exact new_ok (by rw [List.length_map]; unfold LINE; omega)
theorem numT_nat (n : Nat) : numT (n : Int) = TL.numL n := TL.tl_num n
/-- numbers of one or two figures -/
theorem num_cases {n : Nat} (h : n ≤ 99) : (n < 10 ∧ numT (n : Int) = [48 + n]) ∨ (10 ≤ n ∧ numT (n : Int) = [48 + n / 10, 48 + n % 10]) := by
  rw [numT_nat]
  by_cases c : n < 10
  · exact .inl ⟨c, TL.numL_lt c⟩
  · refine .inr ⟨by omega, ?_⟩
    rw [TL.numL_step (by omega), TL.numL_lt (show n / 10 < 10 by omega)]
    rfl
theorem num_free {n : Nat} {s : Nat} (h : s < 48 ∨ 57 < s) : s ∉ numT (n : Int) := by rw [numT_nat]; exact TL.numL_free h
theorem num_int {n : Nat} (h : n ≤ 99) (m : Sto) : opM .int [.str (numT (n : Int))] m = some (.int n, m) := by
  have l : (numT (n : Int)).length ≤ 2 := by rcases num_cases h with ⟨_, e⟩ | ⟨_, e⟩ <;> rw [e] <;> simp
  have e : (⟨(numT (n : Int)).toArray⟩ : Str) = Str.ofString (toString ((n : Nat) : Int)) := str_eta _
  have e2 := TL.int_num (n := n) (by rw [← numT_nat]; omega)
  show (if (numT (n : Int)).length ≤ 640 then _ else _) = _
  rw [if_pos (by omega), e, e2]
  rfl
theorem seqW_str {M : Sto} {s : List Nat} : seqW M (.str s) = some ⟨(s.map fun c => PV.str [c]).length, fun i _ => some (s.map fun c => PV.str [c])[i]?⟩ := by
  simp only [seqW, List.length_map, List.getElem?_map]

theorem pw_forE {Y : Yp} {n : Nat} {xs : List PV} {tgt : PV → Sig → Sto → Option Sig} {body : Sig → Sto → SR} {cnt : Nat} {tau : Sig} {M : Sto} {N : Sig → Sto → Prop} {R : PV → Sto → Prop} (Inv : Nat → Sig → Sto → Prop) (hc : cnt = xs.length) (hI : ∀ i t m, Inv i t m → m[n]? = some (.lst xs)) (h0 : Inv 0 tau M)
    (step : ∀ i x t m, xs[i]? = some x → Inv i t m → pwY Y (match tgt (.tup [.int (i : Nat), x]) t m with
      | some t' => body t' m
      | none => .stuck) (Inv (i + 1)) R) (done : ∀ t m, Inv xs.length t m → N t m) : pwY Y (forGo (fun i M => (lst? M (.loc n)).map fun ys => ys[i]?.map fun y => .tup [.int (i : Nat), y]) tgt body cnt 0 tau M) N R := by
  subst hc
  refine pw_for Inv h0 (fun i t m hi h => ?_) (fun t m h => ⟨by simp [lst_of (hI _ _ _ h)], done t m h⟩)
  have e : xs[i]? = some xs[i] := List.getElem?_eq_getElem hi
  have s := step i _ t m e h
  revert s
  cases ht : tgt (.tup [.int (i : Nat), xs[i]]) t m with
  | none => intro s; exact s.elim
  | some t' => exact fun s => ⟨_, _, by simp [lst_of (hI _ _ _ h), e], ht, s⟩
theorem enumW_loc {M : Sto} {n : Nat} {xs : List PV} (h : M[n]? = some (.lst xs)) : enumW M (.loc n) = some ⟨xs.length, fun i M => (lst? M (.loc n)).map fun ys => ys[i]?.map fun y => .tup [.int (i : Nat), y]⟩ := by simp only [enumW, lst_of h]
theorem getmap {α : Type} {f : α → PV} {xs : List α} {j : Nat} {d : PV} (h : (xs.map f)[j]? = some d) : ∃ w, xs[j]? = some w ∧ f w = d := by
  rw [List.getElem?_map] at h
  exact Option.map_eq_some_iff.mp h

theorem pw_lcY {E : Xp} {at_ : Wlk} {tgt : PV → Sto → Option Sig} {tst : Sig → Sto → Res Bool} {el : Sig → Sto → Res PV} {cnt : Nat} {M : Sto} {Q : PV → Sto → Prop} (ys : List PV) (hc : cnt = ys.length) (hl : cnt ≤ 100000)
    (step : ∀ i m y, ys[i]? = some y → Kept [] M m → ∃ x tau, at_ i m = some (some x) ∧ tgt x m = some tau ∧ pwX E (tst tau m) fun b m1 => b = true ∧ pwX E (el tau m1) fun z m' => z = y ∧ Kept [] m m')
    (done : ∀ m, Kept [] M m → m[M.length]? = some (.lst ys) → at_ cnt m = some none ∧ Q (.loc M.length) m) : pwX E (lcGo M.length at_ tgt tst el cnt 0 (M ++ [.lst []])) Q := by
  subst hc
  have dr : ∀ {m : Sto}, Kept [M.length] M m → Kept [] M m := fun k => k.drop fun z hz => .inr (by simp at hz; omega)
  refine pw_lc (fun i m => Kept [M.length] M m ∧ m[M.length]? = some (.lst (ys.take i))) ⟨Kept.app, by rw [List.take_zero]; exact get_new⟩ ?_ ?_
  · rintro i m hi ⟨kp, qn⟩
    have e : ys[i]? = some ys[i] := List.getElem?_eq_getElem hi
    obtain ⟨x, tau, h1, h2, h3⟩ := step i m _ e (dr kp)
    refine ⟨x, tau, h1, h2, pwR_mono h3 fun b m1 ⟨hb, k⟩ => ?_⟩
    rw [if_pos hb]
    refine pwR_mono k fun z m' ⟨hz, kz⟩ => ?_
    have q2 := kz.obj qn (by simp)
    refine ⟨_, q2, by rw [List.length_take]; unfold LINE; omega, kp.trans ((kz.mono (by simp)).trans (Kept.set (by simp))), ?_⟩
    rw [get_set q2, take_snoc e, hz]
  · rintro m ⟨kp, qn⟩
    rw [List.take_length] at qn
    exact done m (dr kp) qn

/-! ### words of any signs -/
def sp1 (c : Nat) : List Nat → List Nat → List (List Nat)
  | acc, [] => [acc]
  | acc, x :: r => if x = c then acc :: sp1 c [] r else sp1 c (acc ++ [x]) r
theorem spl_sp1 {c : Nat} : ∀ (l acc : List Nat), TL.spl [c] 0 acc l = sp1 c acc l
  | [], acc => TL.spl_nil _ _ _
  | x :: r, acc => by
    by_cases h : x = c
    · subst h
      rw [TL.spl_hit (by simp [TL.pre]), show ([x] : List Nat).length - 1 = 0 from rfl, spl_sp1 r []]
      simp [sp1]
    · rw [TL.spl_miss (TL.pre_of_head [] r (fun e => h e)), spl_sp1 r (acc ++ [x])]
      simp [sp1, h]
theorem sp1_free {c : Nat} : ∀ (l acc : List Nat), c ∉ acc → ∀ t ∈ sp1 c acc l, c ∉ t
  | [], acc, h, t, ht => by
    simp only [sp1, List.mem_singleton] at ht
    rw [ht]; exact h
  | x :: r, acc, h, t, ht => by
    unfold sp1 at ht
    split at ht
    · rcases List.mem_cons.mp ht with e | e
      · rw [e]; exact h
      · exact sp1_free r [] (by simp) t e
    · rename_i hx
      exact sp1_free r (acc ++ [x]) (by simp only [List.mem_append, List.mem_singleton, not_or]; exact ⟨h, fun e => hx e.symm⟩) t ht
theorem sp1_ne {c : Nat} : ∀ (l acc : List Nat), sp1 c acc l ≠ []
  | [], acc => by simp [sp1]
  | x :: r, acc => by
    unfold sp1
    split
    · simp
    · exact sp1_ne r _
theorem sp1_len {c : Nat} : ∀ (l acc : List Nat), (sp1 c acc l).length ≤ l.length + 1
  | [], acc => by simp [sp1]
  | x :: r, acc => by
    unfold sp1
    split
    · have := sp1_len (c := c) r []
      simp only [List.length_cons]; omega
    · have := sp1_len (c := c) r (acc ++ [x])
      simp only [List.length_cons]; omega
theorem sp1_wlen {c : Nat} : ∀ (l acc : List Nat), ∀ t ∈ sp1 c acc l, t.length ≤ acc.length + l.length
  | [], acc, t, ht => by
    simp only [sp1, List.mem_singleton] at ht
    rw [ht]; simp
  | x :: r, acc, t, ht => by
    unfold sp1 at ht
    split at ht
    · rcases List.mem_cons.mp ht with e | e
      · rw [e]; simp
      · have := sp1_wlen r [] t e
        simp only [List.length_nil, List.length_cons] at *; omega
    · have := sp1_wlen r (acc ++ [x]) t ht
      simp only [List.length_append, List.length_cons, List.length_nil] at *; omega
theorem splP_any {sep : Str} {c : Nat} (ey : TL.tl sep = [c]) (hk : sep.cps.all (· < 256) = true) (l0 : (sep.length == 0) = false) (w : List Nat) (hw : w.length ≤ 100000) (m : Sto) : splP sep (.str w) m = some (.loc m.length, m ++ [.lst ((sp1 c [] w).map PV.str)]) := by
  have e : (Txt.split (⟨w.toArray⟩ : Str) sep).map TL.tl = sp1 c [] w := by
    rw [TL.split_spl _ sep (by rw [ey]; simp) (TL.kind_ok hk), ey, TL.tl_mk, spl_sp1]
  have e2 : ((Txt.split (⟨w.toArray⟩ : Str) sep).map fun x => PV.str x.cps.toList) = (sp1 c [] w).map PV.str := by
    rw [← e, List.map_map]
    rfl
  have le : (Txt.split (⟨w.toArray⟩ : Str) sep).length = (sp1 c [] w).length := by rw [← e, List.length_map]
  have ll := sp1_len (c := c) w []
  simp only [splP]
  rw [if_pos ⟨l0, by unfold LINE; omega, by rw [le]; unfold LINE; omega⟩, e2]
  exact new_ok (by rw [List.length_map]; unfold LINE; omega)
/-- the text of a word's number -/
def DW (w : List Nat) : Prop := w ≠ [] ∧ (w.head? = some 48 → w.length = 1) ∧ ∀ c ∈ w, 48 ≤ c ∧ c ≤ 57
instance (w : List Nat) : Decidable (DW w) := by unfold DW; infer_instance
def valW (w : List Nat) : Nat := w.foldl (fun a c => a * 10 + (c - 48)) 0
theorem dw_num {w : List Nat} (h : DW w) (l : w.length ≤ 4) : w = numT ((valW w : Nat) : Int) ∧ (3 ≤ w.length → 100 ≤ valW w) ∧ (w.length ≤ 2 → valW w ≤ 99) ∧ valW w ≤ 9999 := by
  obtain ⟨h1, h2, h3⟩ := h
  rw [numT_nat]
  match w, h1, h2, h3, l with
  | [a], _, _, h3, _ =>
    have ha := h3 a (by simp)
    have e : valW [a] = a - 48 := by simp [valW]
    rw [e, TL.numL_lt (by omega)]
    refine ⟨by congr 1; omega, by simp, by simp; omega, by omega⟩
  | [a, b], _, h2, h3, _ =>
    have ha := h3 a (by simp)
    have hb := h3 b (by simp)
    have na : a ≠ 48 := fun e => by subst e; simp at h2
    have e : valW [a, b] = (a - 48) * 10 + (b - 48) := by simp [valW]
    rw [e, TL.numL_step (by omega), TL.numL_lt (by omega)]
    refine ⟨?_, by simp, by simp; omega, by omega⟩
    show [a, b] = [48 + _, 48 + _]
    congr 1
    · omega
    · congr 1; omega
  | [a, b, c], _, h2, h3, _ =>
    have ha := h3 a (by simp)
    have hb := h3 b (by simp)
    have hc := h3 c (by simp)
    have na : a ≠ 48 := fun e => by subst e; simp at h2
    have e : valW [a, b, c] = ((a - 48) * 10 + (b - 48)) * 10 + (c - 48) := by simp [valW]
    rw [e, TL.numL_step (by omega), TL.numL_step (by omega), TL.numL_lt (by omega)]
    refine ⟨?_, by simp; omega, by simp, by omega⟩
    show [a, b, c] = [48 + _, 48 + _, 48 + _]
    congr 1
    · omega
    · congr 1
      · omega
      · congr 1; omega
  | [a, b, c, d], _, h2, h3, _ =>
    have ha := h3 a (by simp)
    have hb := h3 b (by simp)
    have hc := h3 c (by simp)
    have hd := h3 d (by simp)
    have na : a ≠ 48 := fun e => by subst e; simp at h2
    have e : valW [a, b, c, d] = (((a - 48) * 10 + (b - 48)) * 10 + (c - 48)) * 10 + (d - 48) := by simp [valW]
    rw [e, TL.numL_step (by omega), TL.numL_step (by omega), TL.numL_step (by omega), TL.numL_lt (by omega)]
    refine ⟨?_, by simp; omega, by simp, by omega⟩
    show [a, b, c, d] = [48 + _, 48 + _, 48 + _, 48 + _]
    congr 1
    · omega
    · congr 1
      · omega
      · congr 1
        · omega
        · congr 1; omega
  | [], h, _, _, _ => exact absurd rfl h
  | _ :: _ :: _ :: _ :: _ :: _, _, _, _, l => simp at l
theorem dw_int {w : List Nat} (h : DW w) (l : w.length ≤ 4) (m : Sto) : opM .int [.str w] m = some (.int (valW w), m) := by
  obtain ⟨e, _, _, le⟩ := dw_num h l
  have e2 : (⟨w.toArray⟩ : Str) = Str.ofString (toString ((valW w : Nat) : Int)) := by
    rw [e]
    have : valW (numT ((valW w : Nat) : Int)) = valW w := by rw [← e]
    rw [this]
    exact str_eta _
  have e3 := TL.int_num (n := valW w) (by rw [← numT_nat, ← e]; omega)
  show (if w.length ≤ 640 then _ else _) = _
  rw [if_pos (by omega), e2, e3]
  rfl
/-- the program's reading of a number -/
def snum (w : List Nat) : Option Int := if DW w ∧ w.length ≤ 2 then some (valW w) else none
/-- the law's -/
def lfig (w : List Nat) : Int := if DW w then (if w.length < 5 then (valW w : Int) else 10000) else 0 - 1

/-! ### the readers at any word -/
def optV : Option Int → PV
  | none => .non
  | some x => .int x
section
variable {M : Sto} {Q : PV → Sto → Prop} {E : Xp}
theorem str_at0 {c : Nat} {r : List Nat} {m : Sto} (hl : (c :: r).length ≤ LINE) : opI (.str (c :: r)) (.int 0) m = some (.str [c], m) := by
  show (if (c :: r).length ≤ LINE then (atI (c :: r) 0).map (fun c => (PV.str [c], m)) else none) = _
  have e : atI (c :: r) 0 = some c := by simp [atI, ixN]
  rw [if_pos hl, e]
  rfl
theorem str_len {s : List Nat} {m : Sto} (hl : s.length ≤ LINE) : opM .len [.str s] m = some (.int s.length, m) := if_pos hl
theorem fig_in (c : Nat) (m : Sto) : opC .NotIn (.str [c]) (.str [48, 49, 50, 51, 52, 53, 54, 55, 56, 57]) m = some (decide (¬ (48 ≤ c ∧ c ≤ 57))) := by
  show some (!decide (c ∈ [48, 49, 50, 51, 52, 53, 54, 55, 56, 57])) = _
  have : (c ∈ [48, 49, 50, 51, 52, 53, 54, 55, 56, 57]) ↔ (48 ≤ c ∧ c ≤ 57) := by simp; omega
  by_cases h : 48 ≤ c ∧ c ≤ 57
  · rw [decide_eq_true (this.mpr h), decide_eq_false (fun z => z h)]; rfl
  · rw [decide_eq_false (fun z => h (this.mp z)), decide_eq_true h]; rfl
theorem eq_zero (c : Nat) (m : Sto) : opC .Eq (.str [c]) (.str [48]) m = some (decide (c = 48)) := opC_eqS.trans (by congr 1; simp)
end

theorem joinS_L (ts : List (List Nat)) : (Txt.join (Str.ofString " ") (ts.map fun t => (⟨t.toArray⟩ : Str))).cps.toList = TL.joinL [32] ts := by
  have e2 : TL.tl (Str.ofString " ") = [32] := by decide +kernel
  show TL.tl _ = _
  rw [TL.join_eq, TL.tl_join, e2, List.map_map]
  congr 1
  refine (List.map_congr_left fun t _ => ?_).trans (List.map_id _)
  exact TL.tl_mk t
theorem joinL_len (k : Nat) : ∀ ts : List (List Nat), (∀ t ∈ ts, t.length ≤ k) → (TL.joinL [32] ts).length ≤ (k + 1) * ts.length
  | [], _ => by simp [TL.joinL]
  | [t], h => by
    have := h t (by simp)
    simp only [TL.joinL, List.length_cons, List.length_nil]; omega
  | t :: u :: us, h => by
    have h1 := h t (by simp)
    have h2 := joinL_len k (u :: us) fun x hx => h x (by simp [hx])
    simp only [TL.joinL, List.length_append, List.length_cons, List.length_nil] at *
    have e : (k + 1) * (us.length + 1 + 1) = (k + 1) * (us.length + 1) + (k + 1) := by rw [Nat.mul_add (k + 1) (us.length + 1) 1, Nat.mul_one]
    omega
theorem spl_join82 {ts : List (List Nat)} (ne : ts ≠ []) (fr : ∀ t ∈ ts, 32 ∉ t) (lt : ts.length ≤ 100) (wl : ∀ t ∈ ts, t.length ≤ 300) (m : Sto) : splP (Str.ofString " ") (.str (joinS ts)) m = some (.loc m.length, m ++ [.lst (ts.map PV.str)]) :=
  spl_join81 (sep := Str.ofString " ") (by decide +kernel) (by decide +kernel) ne fr (by decide +kernel) m (by omega) (by rw [joinS_L]; have := joinL_len 300 ts wl; omega)
theorem split_again {ws : List (List Nat)} (h1 : ws.length ≤ 30) (h2 : ∀ w ∈ ws, w.length ≤ 20 ∧ 32 ∉ w) : ∃ W : List (List Nat), (∀ m, splP (Str.ofString " ") (.str (joinS ws)) m = some (.loc m.length, m ++ [.lst (W.map PV.str)])) ∧ W ≠ [] ∧ (∀ w ∈ W, 32 ∉ w) ∧ W.length ≤ 100 ∧ ∀ w ∈ W, w.length ≤ 300 := by
  by_cases ne : ws = []
  · subst ne
    have e : joinS [] = [] := joinS_L []
    refine ⟨[[]], fun m => ?_, by simp, by simp, by simp, by simp⟩
    rw [e]
    exact splP_any (sep := Str.ofString " ") (c := 32) (by decide +kernel) (by decide +kernel) (by decide +kernel) [] (by simp) m
  · have wl : ∀ w ∈ ws, w.length ≤ 300 := fun w hw => by have := (h2 w hw).1; omega
    exact ⟨ws, fun m => spl_join82 ne (fun w hw => (h2 w hw).2) (by omega) wl m, ne, fun w hw => (h2 w hw).2, by omega, wl⟩

/-! ### the reader's numbers -/
section
variable {M : Sto} {Q : PV → Sto → Prop} {E : Xp}
theorem spec_figures {w : List Nat} (hw : w.length ≤ 100000) (h : ∀ M', Kept [] M M' → Q (optV (snum w)) M') : pwX E (R_figures_number [.str w] M) Q := by
  have figs : (Str.ofString "0123456789").cps.toList = [48, 49, 50, 51, 52, 53, 54, 55, 56, 57] := by decide +kernel
  have zero : (Str.ofString "0").cps.toList = [48] := by decide +kernel
  have no : ¬ (DW w ∧ w.length ≤ 2) → snum w = none := fun h => if_neg h
  have loop : w ≠ [] → (w.head? = some 48 → w.length = 1) → w.length ≤ 2 → pwY (fun c v _ M => E c v M) (evSs G_figures_number B_figures_number_R1 [some (.str w), none] M) (fun _ M => Q .non M) Q := fun ne hd l2 => by
    simp only [↓rowD, rowU, ↓e_and, ↓e_or, Option.map_some, decide_eq_true_eq, Bool.not_eq_true', decide_eq_false_iff_not, List.map_cons, List.map_nil, List.set_cons_zero, List.set_cons_succ, List.getElem?_cons_zero, List.getElem?_cons_succ, List.cons_append, List.nil_append, List.length_cons, List.length_nil, Nat.reduceAdd, Nat.reduceSub, true_and, and_true, if_true, if_false, eq_self, Bool.false_eq_true, Bool.not_true, Bool.not_false, MulP, DivP, or_true, true_or, Int.reduceLT, Int.reduceLE, Int.reduceNeg, Int.reducePow, Int.reduceToNat, Int.cast_ofNat_Int, Int.natCast_zero, Int.natCast_one, Int.reduceEq, Bool.true_eq_false, not_true_eq_false, not_false_eq_true, eqsA, k_figures_number_6, lit_le, Nat.reduceLeDiff, u_figures_number_R1, B_figures_number_R1d, seqW_str]
    refine pw_forT (xs := w.map fun c => PV.str [c]) (fun i T m => Kept [] M m ∧ (∀ c ∈ w.take i, 48 ≤ c ∧ c ≤ 57) ∧ ∃ v1 : Option PV, T = [some (.str w), v1]) rfl ⟨.refl, by simp, _, rfl⟩ ?_ ?_
    · rintro i y T m hy ⟨kp, al, v1, rfl⟩
      obtain ⟨c, hc, rfl⟩ := getmap hy
      unfold B_figures_number_1
      simp only [↓rowD, rowU, ↓e_and, ↓e_or, Option.map_some, decide_eq_true_eq, Bool.not_eq_true', decide_eq_false_iff_not, List.map_cons, List.map_nil, List.set_cons_zero, List.set_cons_succ, List.getElem?_cons_zero, List.getElem?_cons_succ, List.cons_append, List.nil_append, List.length_cons, List.length_nil, Nat.reduceAdd, Nat.reduceSub, true_and, and_true, if_true, if_false, eq_self, Bool.false_eq_true, Bool.not_true, Bool.not_false, MulP, DivP, or_true, true_or, Int.reduceLT, Int.reduceLE, Int.reduceNeg, Int.reducePow, Int.reduceToNat, Int.cast_ofNat_Int, Int.natCast_zero, Int.natCast_one, Int.reduceEq, Bool.true_eq_false, not_true_eq_false, not_false_eq_true, eqsA, k_figures_number_6, lit_le, Nat.reduceLeDiff, figs, fig_in]
      by_cases dg : 48 ≤ c ∧ c ≤ 57
      · rw [if_neg (fun z => z dg)]
        refine ⟨kp, fun x hx => ?_, _, rfl⟩
        rw [take_snoc hc] at hx
        rcases List.mem_append.mp hx with e | e
        · exact al x e
        · rw [List.mem_singleton.mp e]; exact dg
      · rw [if_pos dg]
        have := h m kp
        rw [no fun z => dg (z.1.2.2 c (List.mem_of_getElem? hc))] at this
        exact this
    · rintro T m ⟨kp, al, v1, rfl⟩
      rw [List.length_map, List.take_length] at al
      have dw : DW w := ⟨ne, hd, al⟩
      have e : snum w = some (valW w) := if_pos ⟨dw, l2⟩
      have := h m kp
      rw [e] at this
      simp only [↓rowD, rowU, ↓e_and, ↓e_or, Option.map_some, decide_eq_true_eq, Bool.not_eq_true', decide_eq_false_iff_not, List.map_cons, List.map_nil, List.set_cons_zero, List.set_cons_succ, List.getElem?_cons_zero, List.getElem?_cons_succ, List.cons_append, List.nil_append, List.length_cons, List.length_nil, Nat.reduceAdd, Nat.reduceSub, true_and, and_true, if_true, if_false, eq_self, Bool.false_eq_true, Bool.not_true, Bool.not_false, MulP, DivP, or_true, true_or, Int.reduceLT, Int.reduceLE, Int.reduceNeg, Int.reducePow, Int.reduceToNat, Int.cast_ofNat_Int, Int.natCast_zero, Int.natCast_one, Int.reduceEq, Bool.true_eq_false, not_true_eq_false, not_false_eq_true, eqsA, k_figures_number_6, lit_le, Nat.reduceLeDiff, dw_int dw (by omega)]
      exact this
  rw [run_figures_number]; unfold B_figures_number
  match w, hw, loop, no with
  | [], _, _, no =>
    have := h M .refl
    rw [no fun z => z.1.1 rfl] at this
    simp only [↓rowD, rowU, ↓e_and, ↓e_or, Option.map_some, decide_eq_true_eq, Bool.not_eq_true', decide_eq_false_iff_not, List.map_cons, List.map_nil, List.set_cons_zero, List.set_cons_succ, List.getElem?_cons_zero, List.getElem?_cons_succ, List.cons_append, List.nil_append, List.length_cons, List.length_nil, Nat.reduceAdd, Nat.reduceSub, true_and, and_true, if_true, if_false, eq_self, Bool.false_eq_true, Bool.not_true, Bool.not_false, MulP, DivP, or_true, true_or, Int.reduceLT, Int.reduceLE, Int.reduceNeg, Int.reducePow, Int.reduceToNat, Int.cast_ofNat_Int, Int.natCast_zero, Int.natCast_one, Int.reduceEq, Bool.true_eq_false, not_true_eq_false, not_false_eq_true, eqsA, k_figures_number_6, lit_le, Nat.reduceLeDiff, str_len (show ([] : List Nat).length ≤ LINE by simp)]
    exact this
  | [a], _, loop, no =>
    have lp := loop (by simp) (by simp) (by simp)
    simp only [↓rowD, rowU, ↓e_and, ↓e_or, Option.map_some, decide_eq_true_eq, Bool.not_eq_true', decide_eq_false_iff_not, List.map_cons, List.map_nil, List.set_cons_zero, List.set_cons_succ, List.getElem?_cons_zero, List.getElem?_cons_succ, List.cons_append, List.nil_append, List.length_cons, List.length_nil, Nat.reduceAdd, Nat.reduceSub, true_and, and_true, if_true, if_false, eq_self, Bool.false_eq_true, Bool.not_true, Bool.not_false, MulP, DivP, or_true, true_or, Int.reduceLT, Int.reduceLE, Int.reduceNeg, Int.reducePow, Int.reduceToNat, Int.cast_ofNat_Int, Int.natCast_zero, Int.natCast_one, Int.reduceEq, Bool.true_eq_false, not_true_eq_false, not_false_eq_true, eqsA, k_figures_number_6, lit_le, Nat.reduceLeDiff, str_len (s := [a]) (by simp [LINE]), str_at0 (c := a) (r := []) (by simp [LINE]), eq_zero, zero]
    by_cases z : a = 48
    · rw [if_pos z]; exact lp
    · rw [if_neg z]; exact lp
  | [a, b], _, loop, no =>
    simp only [↓rowD, rowU, ↓e_and, ↓e_or, Option.map_some, decide_eq_true_eq, Bool.not_eq_true', decide_eq_false_iff_not, List.map_cons, List.map_nil, List.set_cons_zero, List.set_cons_succ, List.getElem?_cons_zero, List.getElem?_cons_succ, List.cons_append, List.nil_append, List.length_cons, List.length_nil, Nat.reduceAdd, Nat.reduceSub, true_and, and_true, if_true, if_false, eq_self, Bool.false_eq_true, Bool.not_true, Bool.not_false, MulP, DivP, or_true, true_or, Int.reduceLT, Int.reduceLE, Int.reduceNeg, Int.reducePow, Int.reduceToNat, Int.cast_ofNat_Int, Int.natCast_zero, Int.natCast_one, Int.reduceEq, Bool.true_eq_false, not_true_eq_false, not_false_eq_true, eqsA, k_figures_number_6, lit_le, Nat.reduceLeDiff, str_len (s := [a, b]) (by simp [LINE]), str_at0 (c := a) (r := [b]) (by simp [LINE]), eq_zero, zero]
    by_cases z : a = 48
    · rw [if_pos z]
      have := h M .refl
      rw [no fun q => by have := q.1.2.1 (by simp [z]); simp at this] at this
      exact this
    · rw [if_neg z]
      exact loop (by simp) (fun q => absurd (by simpa using q) z) (by simp)
  | a :: b :: c :: r, hw, _, no =>
    have := h M .refl
    rw [no fun q => by have := q.2; simp at this] at this
    simp only [↓rowD, rowU, ↓e_and, ↓e_or, Option.map_some, decide_eq_true_eq, Bool.not_eq_true', decide_eq_false_iff_not, List.map_cons, List.map_nil, List.set_cons_zero, List.set_cons_succ, List.getElem?_cons_zero, List.getElem?_cons_succ, List.cons_append, List.nil_append, List.length_cons, List.length_nil, Nat.reduceAdd, Nat.reduceSub, true_and, and_true, if_true, if_false, eq_self, Bool.false_eq_true, Bool.not_true, Bool.not_false, MulP, DivP, or_true, true_or, Int.reduceLT, Int.reduceLE, Int.reduceNeg, Int.reducePow, Int.reduceToNat, Int.cast_ofNat_Int, Int.natCast_zero, Int.natCast_one, Int.reduceEq, Bool.true_eq_false, not_true_eq_false, not_false_eq_true, eqsA, k_figures_number_6, lit_le, Nat.reduceLeDiff, str_len (s := a :: b :: c :: r) (by unfold LINE; omega)]
    rw [if_pos (by omega), if_pos (by omega)]
    exact this
end

/-! ### the reader of a canal's words -/
def F4 (w : Nat) (i : Nat) (p g : Nat) : List (Str × PV) := [("words", .loc w), ("at", .int (i : Nat)), ("places", .loc p), ("gates", .loc g)]
structure Rdr (M : Sto) (r w p g : Nat) (ws : List (List Nat)) (i : Nat) (ps : List Pl) (gs : List Bool) : Prop where
  ins : M[r]? = some (.ins 0 (F4 w i p g))
  wds : M[w]? = some (.lst (ws.map PV.str))
  pls : M[p]? = some (.lst (ps.map Pl.v))
  gts : M[g]? = some (.lst (gs.map gv))
  ne : r ≠ w ∧ r ≠ p ∧ r ≠ g ∧ w ≠ p ∧ w ≠ g ∧ p ≠ g
  le : i ≤ ws.length
theorem str_ne {a b : Str} (h : a ≠ b) : (a == b) = false := beq_false_of_ne h
theorem sw1 : ("at" : Str) ≠ "words" ∧ ("places" : Str) ≠ "words" ∧ ("places" : Str) ≠ "at" ∧ ("gates" : Str) ≠ "words" ∧ ("gates" : Str) ≠ "at" ∧ ("gates" : Str) ≠ "places" := by decide +kernel
theorem look4 {w i p g : Nat} : (F4 w i p g).lookup ("words" : Str) = some (PV.loc w) ∧ (F4 w i p g).lookup ("at" : Str) = some (PV.int (i : Nat)) ∧ (F4 w i p g).lookup ("places" : Str) = some (PV.loc p) ∧ (F4 w i p g).lookup ("gates" : Str) = some (PV.loc g) := by
  obtain ⟨h1, h2, h3, h4, h5, h6⟩ := sw1
  refine ⟨?_, ?_, ?_, ?_⟩
  · simp only [F4, List.lookup_cons, beq_self_eq_true]
  · simp only [F4, List.lookup_cons, beq_self_eq_true, str_ne h1]
  · simp only [F4, List.lookup_cons, beq_self_eq_true, str_ne h2, str_ne h3]
  · simp only [F4, List.lookup_cons, beq_self_eq_true, str_ne h4, str_ne h5, str_ne h6]
theorem look4n {w i p g : Nat} {f : Str} (h : f ≠ "words" ∧ f ≠ "at" ∧ f ≠ "places" ∧ f ≠ "gates") : (F4 w i p g).lookup f = none := by
  simp only [F4, List.lookup_cons, str_ne h.1, str_ne h.2.1, str_ne h.2.2.1, str_ne h.2.2.2, List.lookup_nil]
theorem fld_of {oc : List (Str × List Str)} {r k : Nat} {fs : List (Str × PV)} {f x : Str} {ns : List Str} {M : Sto} {v : PV} (h : M[r]? = some (.ins k fs)) (ho : oc[k]? = some (x, ns)) (hf : f ∈ ns) (hl : fs.lookup f = some v) : fldP oc (.loc r) f M = some (v, M) := by
  simp only [fldP, h, ho, if_pos hf, hl, Option.map_some]
theorem setF_of {oc : List (Str × List Str)} {r k : Nat} {fs fs' : List (Str × PV)} {f x : Str} {ns : List Str} {M : Sto} {v : PV} (h : M[r]? = some (.ins k fs)) (ho : oc[k]? = some (x, ns)) (hf : f ∈ ns) (hl : fs.length < 1000) (hp : putP f v fs = fs') : setFP oc (.loc r) f v M = some (M.set r (.ins k fs')) := by
  simp only [setFP, h, ho, if_pos (And.intro hf hl), hp]
theorem rdr_f {G : Glb} {M : Sto} {r w p g i : Nat} {ws : List (List Nat)} {ps : List Pl} {gs : List Bool} (hG : G.ocs = ocs) (R : Rdr M r w p g ws i ps gs) :
    fldP G.ocs (.loc r) "words" M = some (.loc w, M) ∧ fldP G.ocs (.loc r) "at" M = some (.int (i : Nat), M) ∧ fldP G.ocs (.loc r) "places" M = some (.loc p, M) ∧ fldP G.ocs (.loc r) "gates" M = some (.loc g, M) ∧
      insOf 0 "word" (.loc r) M = true ∧ insOf 0 "number" (.loc r) M = true ∧ insOf 0 "pound" (.loc r) M = true ∧ insOf 0 "can_be" (.loc r) M = true ∧ insOf 0 "place" (.loc r) M = true ∧ insOf 0 "gate" (.loc r) M = true := by
  obtain ⟨l1, l2, l3, l4⟩ := look4 (w := w) (i := i) (p := p) (g := g)
  rw [hG]
  refine ⟨fld_of R.ins rfl (by decide +kernel) l1, fld_of R.ins rfl (by decide +kernel) l2, fld_of R.ins rfl (by decide +kernel) l3, fld_of R.ins rfl (by decide +kernel) l4, ?_, ?_, ?_, ?_, ?_, ?_⟩
  all_goals exact insOf_ok R.ins (look4n (by decide +kernel))
theorem rdr_at {G : Glb} {M : Sto} {r w p g i j : Nat} {ws : List (List Nat)} {ps : List Pl} {gs : List Bool} {v : PV} (hG : G.ocs = ocs) (R : Rdr M r w p g ws i ps gs) (hv : v = .int (j : Nat)) : setFP G.ocs (.loc r) "at" v M = some (M.set r (.ins 0 (F4 w j p g))) := by
  subst hv
  rw [hG]
  refine setF_of R.ins rfl (by decide +kernel) (by simp [F4]) ?_
  obtain ⟨h1, _⟩ := sw1
  simp only [F4, putP, if_neg (Ne.symm h1), if_true]
theorem Rdr.step {M : Sto} {r w p g i j : Nat} {ws : List (List Nat)} {ps : List Pl} {gs : List Bool} (R : Rdr M r w p g ws i ps gs) (hj : j ≤ ws.length) : Rdr (M.set r (.ins 0 (F4 w j p g))) r w p g ws j ps gs := by
  obtain ⟨n1, n2, n3, n4, n5, n6⟩ := R.ne
  exact ⟨get_set R.ins, get_setne R.wds n1, get_setne R.pls n2, get_setne R.gts n3, R.ne, hj⟩
theorem Rdr.kept {M M' : Sto} {r w p g i : Nat} {ws : List (List Nat)} {ps : List Pl} {gs : List Bool} (R : Rdr M r w p g ws i ps gs) (k : Kept [] M M') : Rdr M' r w p g ws i ps gs :=
  ⟨k.obj R.ins (by simp), k.obj R.wds (by simp), k.obj R.pls (by simp), k.obj R.gts (by simp), R.ne, R.le⟩
theorem Rdr.place {M : Sto} {r w p g i : Nat} {ws : List (List Nat)} {ps : List Pl} {gs : List Bool} (R : Rdr M r w p g ws i ps gs) (a : Pl) : Rdr (M.set p (.lst (ps.map Pl.v ++ [a.v]))) r w p g ws i (ps ++ [a]) gs := by
  obtain ⟨n1, n2, n3, n4, n5, n6⟩ := R.ne
  exact ⟨get_setne R.ins (Ne.symm n2), get_setne R.wds (Ne.symm n4), by rw [get_set R.pls, List.map_append]; rfl, get_setne R.gts n6, R.ne, R.le⟩
theorem Rdr.gate {M : Sto} {r w p g i : Nat} {ws : List (List Nat)} {ps : List Pl} {gs : List Bool} (R : Rdr M r w p g ws i ps gs) (b : Bool) : Rdr (M.set g (.lst (gs.map gv ++ [gv b]))) r w p g ws i ps (gs ++ [b]) := by
  obtain ⟨n1, n2, n3, n4, n5, n6⟩ := R.ne
  exact ⟨get_setne R.ins (Ne.symm n3), get_setne R.wds (Ne.symm n5), get_setne R.pls (Ne.symm n6), by rw [get_set R.gts, List.map_append]; rfl, R.ne, R.le⟩
/-! what it reads -/
def numAt (ws : List (List Nat)) (i : Nat) (lo hi : Int) : Option Int := match ws[i]? with
  | some w => match snum w with
    | some z => if lo ≤ z ∧ z ≤ hi then some z else none
    | none => none
  | none => none
/-- a word of a gate -/
def gw (w : List Nat) : Option Bool := if w = sUp then some true else if w = sDown then some false else none
def gateAt (ws : List (List Nat)) (i : Nat) : Option Bool := match ws[i]? with
  | some w => gw w
  | none => none
/-- the pound at a word, and where it ends; or the first wrong word -/
def poundAt (ws : List (List Nat)) (i : Nat) : Except Nat (Pl × Nat) := match numAt ws i 1 9 with
  | none => .error i
  | some b => match numAt ws (i + 1) 0 b with
    | none => .error (i + 1)
    | some d => match numAt ws (i + 2) 1 4 with
      | none => .error (i + 2)
      | some r => match ws[i + 3]? with
        | none => .error (i + 3)
        | some w => if (gw w).isSome = true then .ok (.po b d r none, i + 3) else match numAt ws (i + 3) 0 99 with
          | none => .error (i + 3)
          | some p => .ok (.po b d r (some p), i + 4)
def lastCh (ps : List Pl) : Bool := match ps.getLast? with
  | some .ch => true
  | _ => false
def canBe (ps : List Pl) (w : List Nat) : Bool :=
  if ps = [] then decide (w = sEnd) else if w = sEnd then lastCh ps && decide (2 ≤ ps.length) else if w = sPo then lastCh ps && decide (ps.length + 2 < 13) else decide (w = sCh) && decide (ps.length + 1 < 13)
def placeAt (ws : List (List Nat)) (i : Nat) (ps : List Pl) : Except Nat (Pl × Nat) := match ws[i]? with
  | none => .error i
  | some w => if canBe ps w = true then (if w = sPo then poundAt ws (i + 1) else .ok (if w = sEnd then .en else .ch, i + 1)) else .error i
section
variable {M : Sto} {Q : PV → Sto → Prop} {E : Xp} {r w p g i : Nat} {ws : List (List Nat)} {ps : List Pl} {gs : List Bool}
theorem spec_init (h0 : M[r]? = some (.ins 0 [])) (hw : M[w]? = some (.lst (ws.map PV.str))) (rw_ : r ≠ w) (h : ∀ M' p g, Rdr M' r w p g ws 0 [] [] → Kept [r] M M' → M.length ≤ p → M.length ≤ g → Q .non M') : pwX E (R_Reader_init [.loc r, .loc w] M) Q := by
  obtain ⟨n1, n2, n3, n4, n5, n6⟩ := sw1
  have lr := lt_of_get h0
  have lw := lt_of_get hw
  have s1 := setF_of (oc := G_Reader_init.ocs) (fs' := [("words", .loc w)]) h0 rfl (show ("words" : Str) ∈ [("words" : Str), "at", "places", "gates"] by decide +kernel) (by simp) (v := .loc w) rfl
  have a1 := get_set (p := .ins 0 [("words", .loc w)]) h0
  have s2 := setF_of (oc := G_Reader_init.ocs) (fs' := [("words", .loc w), ("at", .int (0 : Nat))]) a1 rfl (show ("at" : Str) ∈ [("words" : Str), "at", "places", "gates"] by decide +kernel) (by simp) (v := .int 0) (by simp only [putP, if_neg (Ne.symm n1)]; rfl)
  have a2 := get_set (p := .ins 0 [("words", .loc w), ("at", .int (0 : Nat))]) a1
  have b2 := get_setne (p := .ins 0 [("words", .loc w), ("at", .int (0 : Nat))]) (k := r) (get_setne (p := .ins 0 [("words", .loc w)]) (k := r) hw rw_) rw_
  have k2 : Kept [r] M ((M.set r (.ins 0 [("words", .loc w)])).set r (.ins 0 [("words", .loc w), ("at", .int (0 : Nat))])) := (Kept.set (by simp)).trans (Kept.set (by simp))
  rw [run_Reader_init]; unfold B_Reader_init
  simp only [↓rowD, rowU, ↓e_and, ↓e_or, Option.map_some, decide_eq_true_eq, Bool.not_eq_true', decide_eq_false_iff_not, List.map_cons, List.map_nil, List.set_cons_zero, List.set_cons_succ, List.getElem?_cons_zero, List.getElem?_cons_succ, List.cons_append, List.nil_append, List.length_cons, List.length_nil, Nat.reduceAdd, Nat.reduceSub, true_and, and_true, if_true, if_false, eq_self, Bool.false_eq_true, Bool.not_true, Bool.not_false, MulP, DivP, or_true, true_or, Int.reduceLT, Int.reduceLE, Int.reduceNeg, Int.reducePow, Int.reduceToNat, Int.cast_ofNat_Int, Int.natCast_zero, Int.natCast_one, Int.reduceEq, Bool.true_eq_false, not_true_eq_false, not_false_eq_true, eqsA, lit_le, Nat.reduceLeDiff, s1, s2]
  generalize (M.set r (.ins 0 [("words", .loc w)])).set r (.ins 0 [("words", .loc w), ("at", .int (0 : Nat))]) = M2 at a2 b2 k2 ⊢
  have l2 : M.length ≤ M2.length := k2.len
  have a3 := get_app (p := .lst []) a2
  have s3 := setF_of (oc := G_Reader_init.ocs) (fs' := [("words", .loc w), ("at", .int (0 : Nat)), ("places", .loc M2.length)]) a3 rfl (show ("places" : Str) ∈ [("words" : Str), "at", "places", "gates"] by decide +kernel) (by simp) (v := .loc M2.length) (by simp only [putP, if_neg (Ne.symm n2), if_neg (Ne.symm n3)])
  have a4 := get_set (p := .ins 0 [("words", .loc w), ("at", .int (0 : Nat)), ("places", .loc M2.length)]) a3
  have b4 := get_setne (p := .ins 0 [("words", .loc w), ("at", .int (0 : Nat)), ("places", .loc M2.length)]) (k := r) (get_app (p := .lst []) b2) rw_
  have c4 := get_setne (p := .ins 0 [("words", .loc w), ("at", .int (0 : Nat)), ("places", .loc M2.length)]) (k := r) (get_new (M := M2) (p := .lst [])) (by omega)
  have k4 : Kept [r] M ((M2 ++ [PObj.lst []]).set r (.ins 0 [("words", .loc w), ("at", .int (0 : Nat)), ("places", .loc M2.length)])) := k2.trans ((Kept.app).trans (Kept.set (by simp)))
  simp only [↓rowD, rowU, ↓e_and, ↓e_or, Option.map_some, decide_eq_true_eq, Bool.not_eq_true', decide_eq_false_iff_not, List.map_cons, List.map_nil, List.set_cons_zero, List.set_cons_succ, List.getElem?_cons_zero, List.getElem?_cons_succ, List.cons_append, List.nil_append, List.length_cons, List.length_nil, Nat.reduceAdd, Nat.reduceSub, true_and, and_true, if_true, if_false, eq_self, Bool.false_eq_true, Bool.not_true, Bool.not_false, MulP, DivP, or_true, true_or, Int.reduceLT, Int.reduceLE, Int.reduceNeg, Int.reducePow, Int.reduceToNat, Int.cast_ofNat_Int, Int.natCast_zero, Int.natCast_one, Int.reduceEq, Bool.true_eq_false, not_true_eq_false, not_false_eq_true, eqsA, lit_le, Nat.reduceLeDiff, s3]
  generalize hp : M2.length = p at a4 b4 c4 k4 ⊢
  generalize (M2 ++ [PObj.lst []]).set r (.ins 0 [("words", .loc w), ("at", .int (0 : Nat)), ("places", .loc p)]) = M4 at a4 b4 c4 k4 ⊢
  have l4 := lt_of_get c4
  have a5 := get_app (p := .lst []) a4
  have s5 := setF_of (oc := G_Reader_init.ocs) (fs' := F4 w 0 p M4.length) a5 rfl (show ("gates" : Str) ∈ [("words" : Str), "at", "places", "gates"] by decide +kernel) (by simp) (v := .loc M4.length) (by simp only [putP, if_neg (Ne.symm n4), if_neg (Ne.symm n5), if_neg (Ne.symm n6)]; rfl)
  simp only [↓rowD, rowU, ↓e_and, ↓e_or, Option.map_some, decide_eq_true_eq, Bool.not_eq_true', decide_eq_false_iff_not, List.map_cons, List.map_nil, List.set_cons_zero, List.set_cons_succ, List.getElem?_cons_zero, List.getElem?_cons_succ, List.cons_append, List.nil_append, List.length_cons, List.length_nil, Nat.reduceAdd, Nat.reduceSub, true_and, and_true, if_true, if_false, eq_self, Bool.false_eq_true, Bool.not_true, Bool.not_false, MulP, DivP, or_true, true_or, Int.reduceLT, Int.reduceLE, Int.reduceNeg, Int.reducePow, Int.reduceToNat, Int.cast_ofNat_Int, Int.natCast_zero, Int.natCast_one, Int.reduceEq, Bool.true_eq_false, not_true_eq_false, not_false_eq_true, eqsA, lit_le, Nat.reduceLeDiff, s5]
  have lw4 := lt_of_get b4
  have lr4 := lt_of_get a4
  exact h _ p M4.length ⟨get_set a5, get_setne (get_app b4) rw_, get_setne (get_app c4) (by omega), get_setne get_new (by omega), ⟨rw_, by omega, by omega, by omega, by omega, by omega⟩, by omega⟩ (k4.trans ((Kept.app).trans (Kept.set (by simp)))) (by omega) k4.len
theorem spec_word (R : Rdr M r w p g ws i ps gs) (h1 : ∀ x, ws[i]? = some x → Q (.str x) M) (h2 : ws[i]? = none → E 1 (some (.int (i : Nat))) M) : pwX E (R_Reader_word [.loc r] M) Q := by
  have f := rdr_f (G := G_Reader_word) rfl R
  have hl := R.le
  rw [run_Reader_word]; unfold B_Reader_word
  simp only [↓rowD, rowU, ↓e_and, ↓e_or, Option.map_some, decide_eq_true_eq, Bool.not_eq_true', decide_eq_false_iff_not, List.map_cons, List.map_nil, List.set_cons_zero, List.set_cons_succ, List.getElem?_cons_zero, List.getElem?_cons_succ, List.cons_append, List.nil_append, List.length_cons, List.length_nil, Nat.reduceAdd, Nat.reduceSub, true_and, and_true, if_true, if_false, eq_self, Bool.false_eq_true, Bool.not_true, Bool.not_false, MulP, DivP, or_true, true_or, Int.reduceLT, Int.reduceLE, Int.reduceNeg, Int.reducePow, Int.reduceToNat, Int.cast_ofNat_Int, Int.natCast_zero, Int.natCast_one, Int.reduceEq, Bool.true_eq_false, not_true_eq_false, not_false_eq_true, eqsA, lit_le, Nat.reduceLeDiff, f, len_loc R.wds, List.length_map]
  by_cases e : i = ws.length
  · rw [if_pos (by omega)]
    exact h2 (List.getElem?_eq_none (by omega))
  · rw [if_neg (by omega)]
    obtain ⟨x, hx⟩ : ∃ x, ws[i]? = some x := ⟨_, List.getElem?_eq_getElem (by omega)⟩
    have a : atI (ws.map PV.str) (i : Int) = some (.str x) := SW.atI_nat (by rw [List.getElem?_map, hx]; rfl)
    simp only [↓rowD, rowU, ↓e_and, ↓e_or, Option.map_some, decide_eq_true_eq, Bool.not_eq_true', decide_eq_false_iff_not, List.map_cons, List.map_nil, List.set_cons_zero, List.set_cons_succ, List.getElem?_cons_zero, List.getElem?_cons_succ, List.cons_append, List.nil_append, List.length_cons, List.length_nil, Nat.reduceAdd, Nat.reduceSub, true_and, and_true, if_true, if_false, eq_self, Bool.false_eq_true, Bool.not_true, Bool.not_false, MulP, DivP, or_true, true_or, Int.reduceLT, Int.reduceLE, Int.reduceNeg, Int.reducePow, Int.reduceToNat, Int.cast_ofNat_Int, Int.natCast_zero, Int.natCast_one, Int.reduceEq, Bool.true_eq_false, not_true_eq_false, not_false_eq_true, eqsA, lit_le, Nat.reduceLeDiff, u_Reader_word_R1, B_Reader_word_R1d, f, ixt_loc R.wds, a]
    exact h1 x hx
end
theorem notin_gates (x : List Nat) (m : Sto) : opC .NotIn (.str x) (.tup [.str (Str.ofString "up").cps.toList, .str (Str.ofString "down").cps.toList]) m = some (!(gw x).isSome) := by
  have e : opC .NotIn (.str x) (.tup [.str (Str.ofString "up").cps.toList, .str (Str.ofString "down").cps.toList]) m = some (!([PV.str (Str.ofString "up").cps.toList, .str (Str.ofString "down").cps.toList].any fun z => eqF z (.str x))) := by
    rw [opC_nin (by rintro ⟨c, z, _, e⟩; cases e)]
    rfl
  rw [e]
  congr 2
  show (sUp == x || (sDown == x || false)) = _
  unfold gw
  by_cases h1 : x = sUp
  · rw [if_pos h1, h1]; simp
  · rw [if_neg h1]
    by_cases h2 : x = sDown
    · rw [if_pos h2, h2]; simp
    · rw [if_neg h2]
      have h1' : (sUp == x) = false := beq_false_of_ne (Ne.symm h1)
      have h2' : (sDown == x) = false := beq_false_of_ne (Ne.symm h2)
      rw [h1', h2']; rfl
theorem isnon_int (z : Int) (m : Sto) : opC .Is (.int z) .non m = some false := rfl
theorem isnon_non (m : Sto) : opC .Is .non .non m = some true := rfl
section
variable {M : Sto} {Q : PV → Sto → Prop} {E : Xp} {r w p g i : Nat} {ws : List (List Nat)} {ps : List Pl} {gs : List Bool}
theorem spec_numb (R : Rdr M r w p g ws i ps gs) (wl : ∀ x ∈ ws, x.length ≤ 100000) (lo hi : Int) (h1 : ∀ z M', numAt ws i lo hi = some z → Rdr M' r w p g ws (i + 1) ps gs → Kept [r] M M' → Q (.int z) M')
    (h2 : numAt ws i lo hi = none → ∀ M', Kept [r] M M' → E 1 (some (.int (i : Nat))) M') : pwX E (R_Reader_number [.loc r, .int lo, .int hi] M) Q := by
  have f := rdr_f (G := G_Reader_number) rfl R
  rw [run_Reader_number]; unfold B_Reader_number
  simp only [↓rowD, rowU, ↓e_and, ↓e_or, Option.map_some, decide_eq_true_eq, Bool.not_eq_true', decide_eq_false_iff_not, List.map_cons, List.map_nil, List.set_cons_zero, List.set_cons_succ, List.getElem?_cons_zero, List.getElem?_cons_succ, List.cons_append, List.nil_append, List.length_cons, List.length_nil, Nat.reduceAdd, Nat.reduceSub, true_and, and_true, if_true, if_false, eq_self, Bool.false_eq_true, Bool.not_true, Bool.not_false, MulP, DivP, or_true, true_or, Int.reduceLT, Int.reduceLE, Int.reduceNeg, Int.reducePow, Int.reduceToNat, Int.cast_ofNat_Int, Int.natCast_zero, Int.natCast_one, Int.reduceEq, Bool.true_eq_false, not_true_eq_false, not_false_eq_true, ↓c_Reader_number_figures_number, ↓c_Reader_number_Reader_word, eqsA, lit_le, Nat.reduceLeDiff, f]
  refine spec_word R (fun x hx => ?_) (fun hn => h2 (by unfold numAt; rw [hn]) M .refl)
  have li := (List.getElem?_eq_some_iff.mp hx).1
  simp only [↓rowD, rowU, ↓e_and, ↓e_or, Option.map_some, decide_eq_true_eq, Bool.not_eq_true', decide_eq_false_iff_not, List.map_cons, List.map_nil, List.set_cons_zero, List.set_cons_succ, List.getElem?_cons_zero, List.getElem?_cons_succ, List.cons_append, List.nil_append, List.length_cons, List.length_nil, Nat.reduceAdd, Nat.reduceSub, true_and, and_true, if_true, if_false, eq_self, Bool.false_eq_true, Bool.not_true, Bool.not_false, MulP, DivP, or_true, true_or, Int.reduceLT, Int.reduceLE, Int.reduceNeg, Int.reducePow, Int.reduceToNat, Int.cast_ofNat_Int, Int.natCast_zero, Int.natCast_one, Int.reduceEq, Bool.true_eq_false, not_true_eq_false, not_false_eq_true, ↓c_Reader_number_figures_number, ↓c_Reader_number_Reader_word, eqsA, lit_le, Nat.reduceLeDiff]
  refine spec_figures (wl x (List.mem_of_getElem? hx)) fun M1 k1 => ?_
  have R1 := R.kept k1
  have f1 := rdr_f (G := G_Reader_number) rfl R1
  cases e : snum x with
  | none =>
    simp only [↓rowD, rowU, ↓e_and, ↓e_or, Option.map_some, decide_eq_true_eq, Bool.not_eq_true', decide_eq_false_iff_not, List.map_cons, List.map_nil, List.set_cons_zero, List.set_cons_succ, List.getElem?_cons_zero, List.getElem?_cons_succ, List.cons_append, List.nil_append, List.length_cons, List.length_nil, Nat.reduceAdd, Nat.reduceSub, true_and, and_true, if_true, if_false, eq_self, Bool.false_eq_true, Bool.not_true, Bool.not_false, MulP, DivP, or_true, true_or, Int.reduceLT, Int.reduceLE, Int.reduceNeg, Int.reducePow, Int.reduceToNat, Int.cast_ofNat_Int, Int.natCast_zero, Int.natCast_one, Int.reduceEq, Bool.true_eq_false, not_true_eq_false, not_false_eq_true, ↓c_Reader_number_figures_number, ↓c_Reader_number_Reader_word, eqsA, lit_le, Nat.reduceLeDiff, optV, isnon_non, f1]
    exact h2 (by unfold numAt; rw [hx]; dsimp only; rw [e]) M1 (k1.mono (by simp))
  | some z =>
    have en : numAt ws i lo hi = if lo ≤ z ∧ z ≤ hi then some z else none := by unfold numAt; rw [hx]; dsimp only; rw [e]
    simp only [↓rowD, rowU, ↓e_and, ↓e_or, Option.map_some, decide_eq_true_eq, Bool.not_eq_true', decide_eq_false_iff_not, List.map_cons, List.map_nil, List.set_cons_zero, List.set_cons_succ, List.getElem?_cons_zero, List.getElem?_cons_succ, List.cons_append, List.nil_append, List.length_cons, List.length_nil, Nat.reduceAdd, Nat.reduceSub, true_and, and_true, if_true, if_false, eq_self, Bool.false_eq_true, Bool.not_true, Bool.not_false, MulP, DivP, or_true, true_or, Int.reduceLT, Int.reduceLE, Int.reduceNeg, Int.reducePow, Int.reduceToNat, Int.cast_ofNat_Int, Int.natCast_zero, Int.natCast_one, Int.reduceEq, Bool.true_eq_false, not_true_eq_false, not_false_eq_true, ↓c_Reader_number_figures_number, ↓c_Reader_number_Reader_word, eqsA, lit_le, Nat.reduceLeDiff, optV, isnon_int, f1]
    by_cases c1 : lo ≤ z
    · rw [if_pos c1]
      by_cases c2 : z ≤ hi
      · rw [if_neg (fun q => q c2)]
        rw [if_pos ⟨c1, c2⟩] at en
        simp only [↓rowD, rowU, ↓e_and, ↓e_or, Option.map_some, decide_eq_true_eq, Bool.not_eq_true', decide_eq_false_iff_not, List.map_cons, List.map_nil, List.set_cons_zero, List.set_cons_succ, List.getElem?_cons_zero, List.getElem?_cons_succ, List.cons_append, List.nil_append, List.length_cons, List.length_nil, Nat.reduceAdd, Nat.reduceSub, true_and, and_true, if_true, if_false, eq_self, Bool.false_eq_true, Bool.not_true, Bool.not_false, MulP, DivP, or_true, true_or, Int.reduceLT, Int.reduceLE, Int.reduceNeg, Int.reducePow, Int.reduceToNat, Int.cast_ofNat_Int, Int.natCast_zero, Int.natCast_one, Int.reduceEq, Bool.true_eq_false, not_true_eq_false, not_false_eq_true, ↓c_Reader_number_figures_number, ↓c_Reader_number_Reader_word, eqsA, lit_le, Nat.reduceLeDiff, u_Reader_number_R1, B_Reader_number_R1d, f1, rdr_at (G := G_Reader_number) (j := i + 1) (v := .int ((i : Int) + 1)) rfl R1 rfl]
        exact h1 z _ en (R1.step (by omega)) ((k1.mono (by simp)).trans (Kept.set (by simp)))
      · rw [if_pos c2]
        rw [if_neg (fun q => c2 q.2)] at en
        exact h2 en M1 (k1.mono (by simp))
    · rw [if_neg c1]
      rw [if_neg (fun q => c1 q.1)] at en
      exact h2 en M1 (k1.mono (by simp))
theorem spec_rpound (R : Rdr M r w p g ws i ps gs) (wl : ∀ x ∈ ws, x.length ≤ 100000) (h1 : ∀ a j M', poundAt ws i = .ok (a, j) → Rdr M' r w p g ws j ps gs → Kept [r] M M' → Q a.v M')
    (h2 : ∀ j, poundAt ws i = .error j → ∀ M', E 1 (some (.int (j : Nat))) M') : pwX E (R_Reader_pound [.loc r] M) Q := by
  have f := rdr_f (G := G_Reader_pound) rfl R
  rw [run_Reader_pound]; unfold B_Reader_pound
  simp only [↓rowD, rowU, ↓e_and, ↓e_or, Option.map_some, decide_eq_true_eq, Bool.not_eq_true', decide_eq_false_iff_not, List.map_cons, List.map_nil, List.set_cons_zero, List.set_cons_succ, List.getElem?_cons_zero, List.getElem?_cons_succ, List.cons_append, List.nil_append, List.length_cons, List.length_nil, Nat.reduceAdd, Nat.reduceSub, true_and, and_true, if_true, if_false, eq_self, Bool.false_eq_true, Bool.not_true, Bool.not_false, MulP, DivP, or_true, true_or, Int.reduceLT, Int.reduceLE, Int.reduceNeg, Int.reducePow, Int.reduceToNat, Int.cast_ofNat_Int, Int.natCast_zero, Int.natCast_one, Int.reduceEq, Bool.true_eq_false, not_true_eq_false, not_false_eq_true, ↓c_Reader_pound_Reader_number, ↓c_Reader_pound_Reader_word, eqsA, k_Reader_pound_3, k_Reader_pound_4, k_Reader_pound_5, lit_le, Nat.reduceLeDiff, f]
  refine spec_numb R wl 1 9 (fun b M1 e1 R1 k1 => ?_) (fun e1 M1 k1 => h2 i (by unfold poundAt; rw [e1]) M1)
  have f1 := rdr_f (G := G_Reader_pound) rfl R1
  simp only [↓rowD, rowU, ↓e_and, ↓e_or, Option.map_some, decide_eq_true_eq, Bool.not_eq_true', decide_eq_false_iff_not, List.map_cons, List.map_nil, List.set_cons_zero, List.set_cons_succ, List.getElem?_cons_zero, List.getElem?_cons_succ, List.cons_append, List.nil_append, List.length_cons, List.length_nil, Nat.reduceAdd, Nat.reduceSub, true_and, and_true, if_true, if_false, eq_self, Bool.false_eq_true, Bool.not_true, Bool.not_false, MulP, DivP, or_true, true_or, Int.reduceLT, Int.reduceLE, Int.reduceNeg, Int.reducePow, Int.reduceToNat, Int.cast_ofNat_Int, Int.natCast_zero, Int.natCast_one, Int.reduceEq, Bool.true_eq_false, not_true_eq_false, not_false_eq_true, ↓c_Reader_pound_Reader_number, ↓c_Reader_pound_Reader_word, eqsA, k_Reader_pound_3, k_Reader_pound_4, k_Reader_pound_5, lit_le, Nat.reduceLeDiff, f1]
  refine spec_numb R1 wl 0 b (fun d M2 e2 R2 k2 => ?_) (fun e2 M2 k2 => h2 (i + 1) (by unfold poundAt; rw [e1]; dsimp only; rw [e2]) M2)
  have f2 := rdr_f (G := G_Reader_pound) rfl R2
  simp only [↓rowD, rowU, ↓e_and, ↓e_or, Option.map_some, decide_eq_true_eq, Bool.not_eq_true', decide_eq_false_iff_not, List.map_cons, List.map_nil, List.set_cons_zero, List.set_cons_succ, List.getElem?_cons_zero, List.getElem?_cons_succ, List.cons_append, List.nil_append, List.length_cons, List.length_nil, Nat.reduceAdd, Nat.reduceSub, true_and, and_true, if_true, if_false, eq_self, Bool.false_eq_true, Bool.not_true, Bool.not_false, MulP, DivP, or_true, true_or, Int.reduceLT, Int.reduceLE, Int.reduceNeg, Int.reducePow, Int.reduceToNat, Int.cast_ofNat_Int, Int.natCast_zero, Int.natCast_one, Int.reduceEq, Bool.true_eq_false, not_true_eq_false, not_false_eq_true, ↓c_Reader_pound_Reader_number, ↓c_Reader_pound_Reader_word, eqsA, k_Reader_pound_3, k_Reader_pound_4, k_Reader_pound_5, lit_le, Nat.reduceLeDiff, f2]
  refine spec_numb R2 wl 1 4 (fun ro M3 e3 R3 k3 => ?_) (fun e3 M3 k3 => h2 (i + 2) (by unfold poundAt; rw [e1]; dsimp only; rw [e2]; dsimp only; rw [e3]) M3)
  have f3 := rdr_f (G := G_Reader_pound) rfl R3
  have kk : Kept [r] M M3 := (k1.trans k2).trans k3
  simp only [↓rowD, rowU, ↓e_and, ↓e_or, Option.map_some, decide_eq_true_eq, Bool.not_eq_true', decide_eq_false_iff_not, List.map_cons, List.map_nil, List.set_cons_zero, List.set_cons_succ, List.getElem?_cons_zero, List.getElem?_cons_succ, List.cons_append, List.nil_append, List.length_cons, List.length_nil, Nat.reduceAdd, Nat.reduceSub, true_and, and_true, if_true, if_false, eq_self, Bool.false_eq_true, Bool.not_true, Bool.not_false, MulP, DivP, or_true, true_or, Int.reduceLT, Int.reduceLE, Int.reduceNeg, Int.reducePow, Int.reduceToNat, Int.cast_ofNat_Int, Int.natCast_zero, Int.natCast_one, Int.reduceEq, Bool.true_eq_false, not_true_eq_false, not_false_eq_true, ↓c_Reader_pound_Reader_number, ↓c_Reader_pound_Reader_word, eqsA, k_Reader_pound_3, k_Reader_pound_4, k_Reader_pound_5, lit_le, Nat.reduceLeDiff, f3]
  refine spec_word R3 (fun x hx => ?_) (fun hn => h2 (i + 3) (by unfold poundAt; rw [e1]; dsimp only; rw [e2]; dsimp only; rw [e3]; dsimp only; rw [hn]) M3)
  have hx : ws[i + 3]? = some x := hx
  simp only [↓rowD, rowU, ↓e_and, ↓e_or, Option.map_some, decide_eq_true_eq, Bool.not_eq_true', decide_eq_false_iff_not, List.map_cons, List.map_nil, List.set_cons_zero, List.set_cons_succ, List.getElem?_cons_zero, List.getElem?_cons_succ, List.cons_append, List.nil_append, List.length_cons, List.length_nil, Nat.reduceAdd, Nat.reduceSub, true_and, and_true, if_true, if_false, eq_self, Bool.false_eq_true, Bool.not_true, Bool.not_false, MulP, DivP, or_true, true_or, Int.reduceLT, Int.reduceLE, Int.reduceNeg, Int.reducePow, Int.reduceToNat, Int.cast_ofNat_Int, Int.natCast_zero, Int.natCast_one, Int.reduceEq, Bool.true_eq_false, not_true_eq_false, not_false_eq_true, ↓c_Reader_pound_Reader_number, ↓c_Reader_pound_Reader_word, eqsA, k_Reader_pound_3, k_Reader_pound_4, k_Reader_pound_5, lit_le, Nat.reduceLeDiff, notin_gates]
  cases eg : (gw x).isSome with
  | true =>
    simp only [↓rowD, rowU, ↓e_and, ↓e_or, Option.map_some, decide_eq_true_eq, Bool.not_eq_true', decide_eq_false_iff_not, List.map_cons, List.map_nil, List.set_cons_zero, List.set_cons_succ, List.getElem?_cons_zero, List.getElem?_cons_succ, List.cons_append, List.nil_append, List.length_cons, List.length_nil, Nat.reduceAdd, Nat.reduceSub, true_and, and_true, if_true, if_false, eq_self, Bool.false_eq_true, Bool.not_true, Bool.not_false, MulP, DivP, or_true, true_or, Int.reduceLT, Int.reduceLE, Int.reduceNeg, Int.reducePow, Int.reduceToNat, Int.cast_ofNat_Int, Int.natCast_zero, Int.natCast_one, Int.reduceEq, Bool.true_eq_false, not_true_eq_false, not_false_eq_true, ↓c_Reader_pound_Reader_number, ↓c_Reader_pound_Reader_word, eqsA, k_Reader_pound_3, k_Reader_pound_4, k_Reader_pound_5, lit_le, Nat.reduceLeDiff, u_Reader_pound_R1, B_Reader_pound_R1d]
    exact h1 (.po b d ro none) (i + 3) M3 (by unfold poundAt; rw [e1]; dsimp only; rw [e2]; dsimp only; rw [e3]; dsimp only; rw [hx]; dsimp only; rw [if_pos eg]) R3 kk
  | false =>
    simp only [↓rowD, rowU, ↓e_and, ↓e_or, Option.map_some, decide_eq_true_eq, Bool.not_eq_true', decide_eq_false_iff_not, List.map_cons, List.map_nil, List.set_cons_zero, List.set_cons_succ, List.getElem?_cons_zero, List.getElem?_cons_succ, List.cons_append, List.nil_append, List.length_cons, List.length_nil, Nat.reduceAdd, Nat.reduceSub, true_and, and_true, if_true, if_false, eq_self, Bool.false_eq_true, Bool.not_true, Bool.not_false, MulP, DivP, or_true, true_or, Int.reduceLT, Int.reduceLE, Int.reduceNeg, Int.reducePow, Int.reduceToNat, Int.cast_ofNat_Int, Int.natCast_zero, Int.natCast_one, Int.reduceEq, Bool.true_eq_false, not_true_eq_false, not_false_eq_true, ↓c_Reader_pound_Reader_number, ↓c_Reader_pound_Reader_word, eqsA, k_Reader_pound_3, k_Reader_pound_4, k_Reader_pound_5, lit_le, Nat.reduceLeDiff, f3]
    refine spec_numb R3 wl 0 99 (fun pr M4 e4 R4 k4 => ?_) (fun e4 M4 k4 => h2 (i + 3) (by unfold poundAt; rw [e1]; dsimp only; rw [e2]; dsimp only; rw [e3]; dsimp only; rw [hx]; dsimp only; rw [if_neg (by rw [eg]; simp)]; rw [e4]) M4)
    simp only [↓rowD, rowU, ↓e_and, ↓e_or, Option.map_some, decide_eq_true_eq, Bool.not_eq_true', decide_eq_false_iff_not, List.map_cons, List.map_nil, List.set_cons_zero, List.set_cons_succ, List.getElem?_cons_zero, List.getElem?_cons_succ, List.cons_append, List.nil_append, List.length_cons, List.length_nil, Nat.reduceAdd, Nat.reduceSub, true_and, and_true, if_true, if_false, eq_self, Bool.false_eq_true, Bool.not_true, Bool.not_false, MulP, DivP, or_true, true_or, Int.reduceLT, Int.reduceLE, Int.reduceNeg, Int.reducePow, Int.reduceToNat, Int.cast_ofNat_Int, Int.natCast_zero, Int.natCast_one, Int.reduceEq, Bool.true_eq_false, not_true_eq_false, not_false_eq_true, ↓c_Reader_pound_Reader_number, ↓c_Reader_pound_Reader_word, eqsA, k_Reader_pound_3, k_Reader_pound_4, k_Reader_pound_5, lit_le, Nat.reduceLeDiff, u_Reader_pound_R1, B_Reader_pound_R1d]
    exact h1 (.po b d ro (some pr)) (i + 4) M4 (by unfold poundAt; rw [e1]; dsimp only; rw [e2]; dsimp only; rw [e3]; dsimp only; rw [hx]; dsimp only; rw [if_neg (by rw [eg]; simp)]; rw [e4]) R4 (kk.trans k4)
end
theorem lastCh_snoc (xs : List Pl) (a : Pl) : lastCh (xs ++ [a]) = a.isCh := by
  unfold lastCh
  rw [List.getLast?_concat]
  cases a <;> rfl
theorem eq_wE (x : List Nat) (m : Sto) : opC .Eq (.str x) (.str (Str.ofString "end").cps.toList) m = some (decide (x = sEnd)) := opC_eqS
theorem eq_wC (x : List Nat) (m : Sto) : opC .Eq (.str x) (.str (Str.ofString "chamber").cps.toList) m = some (decide (x = sCh)) := opC_eqS
theorem eq_wP (x : List Nat) (m : Sto) : opC .Eq (.str x) (.str (Str.ofString "pound").cps.toList) m = some (decide (x = sPo)) := opC_eqS
section
variable {M : Sto} {Q : PV → Sto → Prop} {E : Xp} {r w p g i : Nat} {ws : List (List Nat)} {ps : List Pl} {gs : List Bool}
theorem spec_can_be (R : Rdr M r w p g ws i ps gs) {x : List Nat} (h : Q (.bl (canBe ps x)) M) : pwX E (R_Reader_can_be [.loc r, .str x] M) Q := by
  have f := rdr_f (G := G_Reader_can_be) rfl R
  have chv : PV.tup [.str (Str.ofString "chamber").cps.toList] = Pl.ch.v := rfl
  rw [run_Reader_can_be]; unfold B_Reader_can_be
  simp only [↓rowD, rowU, ↓e_and, ↓e_or, Option.map_some, decide_eq_true_eq, Bool.not_eq_true', decide_eq_false_iff_not, List.map_cons, List.map_nil, List.set_cons_zero, List.set_cons_succ, List.getElem?_cons_zero, List.getElem?_cons_succ, List.cons_append, List.nil_append, List.length_cons, List.length_nil, Nat.reduceAdd, Nat.reduceSub, true_and, and_true, if_true, if_false, eq_self, Bool.false_eq_true, Bool.not_true, Bool.not_false, MulP, DivP, or_true, true_or, Int.reduceLT, Int.reduceLE, Int.reduceNeg, Int.reducePow, Int.reduceToNat, Int.cast_ofNat_Int, Int.natCast_zero, Int.natCast_one, Int.reduceEq, Bool.true_eq_false, not_true_eq_false, not_false_eq_true, eqsA, k_Reader_can_be_1, k_Reader_can_be_2, lit_le, Nat.reduceLeDiff, f, len_loc R.pls, List.length_map, eq_wE]
  rcases List.eq_nil_or_concat ps with e | ⟨xs, a, e⟩
  · rw [if_pos (by rw [e]; rfl)]
    unfold canBe at h
    rw [if_pos e] at h
    exact h
  · rw [List.concat_eq_append] at e
    have ne : ps ≠ [] := by rw [e]; simp
    have lp : 1 ≤ ps.length := by rw [e]; simp
    have last : opI (.loc p) (.int (-1)) M = some (a.v, M) := by
      rw [ixt_loc R.pls, e, List.map_append, List.map_cons, List.map_nil, SW.atI_last]
      rfl
    have lc : lastCh ps = a.isCh := by rw [e]; exact lastCh_snoc xs a
    have ech : ∀ m : Sto, opC .Eq a.v Pl.ch.v m = some a.isCh := fun m => eq_ch a
    unfold canBe at h
    rw [if_neg ne, lc] at h
    rw [if_neg (by omega)]
    simp only [↓rowD, rowU, ↓e_and, ↓e_or, Option.map_some, decide_eq_true_eq, Bool.not_eq_true', decide_eq_false_iff_not, List.map_cons, List.map_nil, List.set_cons_zero, List.set_cons_succ, List.getElem?_cons_zero, List.getElem?_cons_succ, List.cons_append, List.nil_append, List.length_cons, List.length_nil, Nat.reduceAdd, Nat.reduceSub, true_and, and_true, if_true, if_false, eq_self, Bool.false_eq_true, Bool.not_true, Bool.not_false, MulP, DivP, or_true, true_or, Int.reduceLT, Int.reduceLE, Int.reduceNeg, Int.reducePow, Int.reduceToNat, Int.cast_ofNat_Int, Int.natCast_zero, Int.natCast_one, Int.reduceEq, Bool.true_eq_false, not_true_eq_false, not_false_eq_true, eqsA, k_Reader_can_be_1, k_Reader_can_be_2, lit_le, Nat.reduceLeDiff, u_Reader_can_be_R3, B_Reader_can_be_R3d, u_Reader_can_be_R2, B_Reader_can_be_R2d, u_Reader_can_be_R1, B_Reader_can_be_R1d, f, last, chv, ech, eq_wE, eq_wP, eq_wC]
    have n1 : (decide (2 ≤ (ps.length : Int))) = decide (2 ≤ ps.length) := decide_eq_decide.mpr (by omega)
    have n2 : (decide ((ps.length : Int) + 2 < 13)) = decide (ps.length + 2 < 13) := decide_eq_decide.mpr (by omega)
    have n3 : (decide ((ps.length : Int) + 1 < 13)) = decide (ps.length + 1 < 13) := decide_eq_decide.mpr (by omega)
    rw [n1, n2, n3]
    by_cases c1 : x = sEnd
    · rw [if_pos c1] at h ⊢
      cases ea : a.isCh with
      | true => rw [ea, Bool.true_and] at h; rw [if_pos rfl]; exact h
      | false => rw [ea, Bool.false_and] at h; rw [if_neg (by simp)]; exact h
    · rw [if_neg c1] at h ⊢
      by_cases c2 : x = sPo
      · rw [if_pos c2] at h ⊢
        cases ea : a.isCh with
        | true => rw [ea, Bool.true_and] at h; rw [if_pos rfl]; exact h
        | false => rw [ea, Bool.false_and] at h; rw [if_neg (by simp)]; exact h
      · rw [if_neg c2] at h ⊢
        by_cases c3 : x = sCh
        · rw [decide_eq_true c3, Bool.true_and] at h; rw [if_pos c3]; exact h
        · rw [decide_eq_false c3, Bool.false_and] at h; rw [if_neg c3]; exact h
theorem spec_rplace (R : Rdr M r w p g ws i ps gs) (wl : ∀ x ∈ ws, x.length ≤ 100000) (lp : ps.length ≤ 100) (h1 : ∀ a j M', placeAt ws i ps = .ok (a, j) → Rdr M' r w p g ws j (ps ++ [a]) gs → Kept [r, p] M M' → Q .non M')
    (h2 : ∀ j, placeAt ws i ps = .error j → ∀ M', E 1 (some (.int (j : Nat))) M') : pwX E (R_Reader_place [.loc r] M) Q := by
  have f := rdr_f (G := G_Reader_place) rfl R
  rw [run_Reader_place]; unfold B_Reader_place
  simp only [↓rowD, rowU, ↓e_and, ↓e_or, Option.map_some, decide_eq_true_eq, Bool.not_eq_true', decide_eq_false_iff_not, List.map_cons, List.map_nil, List.set_cons_zero, List.set_cons_succ, List.getElem?_cons_zero, List.getElem?_cons_succ, List.cons_append, List.nil_append, List.length_cons, List.length_nil, Nat.reduceAdd, Nat.reduceSub, true_and, and_true, if_true, if_false, eq_self, Bool.false_eq_true, Bool.not_true, Bool.not_false, MulP, DivP, or_true, true_or, Int.reduceLT, Int.reduceLE, Int.reduceNeg, Int.reducePow, Int.reduceToNat, Int.cast_ofNat_Int, Int.natCast_zero, Int.natCast_one, Int.reduceEq, Bool.true_eq_false, not_true_eq_false, not_false_eq_true, ↓c_Reader_place_Reader_word, ↓c_Reader_place_Reader_can_be, ↓c_Reader_place_Reader_pound, eqsA, lit_le, Nat.reduceLeDiff, f]
  refine spec_word R (fun x hx => ?_) (fun hn => h2 i (by unfold placeAt; rw [hn]) M)
  have li := (List.getElem?_eq_some_iff.mp hx).1
  simp only [↓rowD, rowU, ↓e_and, ↓e_or, Option.map_some, decide_eq_true_eq, Bool.not_eq_true', decide_eq_false_iff_not, List.map_cons, List.map_nil, List.set_cons_zero, List.set_cons_succ, List.getElem?_cons_zero, List.getElem?_cons_succ, List.cons_append, List.nil_append, List.length_cons, List.length_nil, Nat.reduceAdd, Nat.reduceSub, true_and, and_true, if_true, if_false, eq_self, Bool.false_eq_true, Bool.not_true, Bool.not_false, MulP, DivP, or_true, true_or, Int.reduceLT, Int.reduceLE, Int.reduceNeg, Int.reducePow, Int.reduceToNat, Int.cast_ofNat_Int, Int.natCast_zero, Int.natCast_one, Int.reduceEq, Bool.true_eq_false, not_true_eq_false, not_false_eq_true, ↓c_Reader_place_Reader_word, ↓c_Reader_place_Reader_can_be, ↓c_Reader_place_Reader_pound, eqsA, lit_le, Nat.reduceLeDiff, f]
  refine spec_can_be R ?_
  cases cb : canBe ps x with
  | false =>
    simp only [↓rowD, rowU, ↓e_and, ↓e_or, Option.map_some, decide_eq_true_eq, Bool.not_eq_true', decide_eq_false_iff_not, List.map_cons, List.map_nil, List.set_cons_zero, List.set_cons_succ, List.getElem?_cons_zero, List.getElem?_cons_succ, List.cons_append, List.nil_append, List.length_cons, List.length_nil, Nat.reduceAdd, Nat.reduceSub, true_and, and_true, if_true, if_false, eq_self, Bool.false_eq_true, Bool.not_true, Bool.not_false, MulP, DivP, or_true, true_or, Int.reduceLT, Int.reduceLE, Int.reduceNeg, Int.reducePow, Int.reduceToNat, Int.cast_ofNat_Int, Int.natCast_zero, Int.natCast_one, Int.reduceEq, Bool.true_eq_false, not_true_eq_false, not_false_eq_true, ↓c_Reader_place_Reader_word, ↓c_Reader_place_Reader_can_be, ↓c_Reader_place_Reader_pound, eqsA, lit_le, Nat.reduceLeDiff, f]
    exact h2 i (by unfold placeAt; rw [hx]; dsimp only; rw [if_neg (by rw [cb]; simp)]) M
  | true =>
    have R1 := R.step (j := i + 1) (by omega)
    have k1 : Kept [r, p] M (M.set r (.ins 0 (F4 w (i + 1) p g))) := Kept.set (by simp)
    simp only [↓rowD, rowU, ↓e_and, ↓e_or, Option.map_some, decide_eq_true_eq, Bool.not_eq_true', decide_eq_false_iff_not, List.map_cons, List.map_nil, List.set_cons_zero, List.set_cons_succ, List.getElem?_cons_zero, List.getElem?_cons_succ, List.cons_append, List.nil_append, List.length_cons, List.length_nil, Nat.reduceAdd, Nat.reduceSub, true_and, and_true, if_true, if_false, eq_self, Bool.false_eq_true, Bool.not_true, Bool.not_false, MulP, DivP, or_true, true_or, Int.reduceLT, Int.reduceLE, Int.reduceNeg, Int.reducePow, Int.reduceToNat, Int.cast_ofNat_Int, Int.natCast_zero, Int.natCast_one, Int.reduceEq, Bool.true_eq_false, not_true_eq_false, not_false_eq_true, ↓c_Reader_place_Reader_word, ↓c_Reader_place_Reader_can_be, ↓c_Reader_place_Reader_pound, eqsA, lit_le, Nat.reduceLeDiff, u_Reader_place_R1, B_Reader_place_R1d, f, rdr_at (G := G_Reader_place) (j := i + 1) (v := .int ((i : Int) + 1)) rfl R rfl, eq_wP]
    generalize M.set r (.ins 0 (F4 w (i + 1) p g)) = M1 at R1 k1 ⊢
    have f1 := rdr_f (G := G_Reader_place) rfl R1
    have pe : placeAt ws i ps = if x = sPo then poundAt ws (i + 1) else .ok (if x = sEnd then .en else .ch, i + 1) := by unfold placeAt; rw [hx]; dsimp only; rw [if_pos cb]
    by_cases c : x = sPo
    · rw [if_pos c] at pe
      rw [if_pos c]
      simp only [↓rowD, rowU, ↓e_and, ↓e_or, Option.map_some, decide_eq_true_eq, Bool.not_eq_true', decide_eq_false_iff_not, List.map_cons, List.map_nil, List.set_cons_zero, List.set_cons_succ, List.getElem?_cons_zero, List.getElem?_cons_succ, List.cons_append, List.nil_append, List.length_cons, List.length_nil, Nat.reduceAdd, Nat.reduceSub, true_and, and_true, if_true, if_false, eq_self, Bool.false_eq_true, Bool.not_true, Bool.not_false, MulP, DivP, or_true, true_or, Int.reduceLT, Int.reduceLE, Int.reduceNeg, Int.reducePow, Int.reduceToNat, Int.cast_ofNat_Int, Int.natCast_zero, Int.natCast_one, Int.reduceEq, Bool.true_eq_false, not_true_eq_false, not_false_eq_true, ↓c_Reader_place_Reader_word, ↓c_Reader_place_Reader_can_be, ↓c_Reader_place_Reader_pound, eqsA, lit_le, Nat.reduceLeDiff, f1, lst_of R1.pls]
      refine spec_rpound R1 wl (fun a j M2 e2 R2 k2 => ?_) (fun j e2 M2 => h2 j (by rw [pe, e2]) M2)
      have ap := app_loc (v := a.v) R2.pls (by rw [List.length_map]; unfold LINE; omega)
      simp only [↓rowD, rowU, ↓e_and, ↓e_or, Option.map_some, decide_eq_true_eq, Bool.not_eq_true', decide_eq_false_iff_not, List.map_cons, List.map_nil, List.set_cons_zero, List.set_cons_succ, List.getElem?_cons_zero, List.getElem?_cons_succ, List.cons_append, List.nil_append, List.length_cons, List.length_nil, Nat.reduceAdd, Nat.reduceSub, true_and, and_true, if_true, if_false, eq_self, Bool.false_eq_true, Bool.not_true, Bool.not_false, MulP, DivP, or_true, true_or, Int.reduceLT, Int.reduceLE, Int.reduceNeg, Int.reducePow, Int.reduceToNat, Int.cast_ofNat_Int, Int.natCast_zero, Int.natCast_one, Int.reduceEq, Bool.true_eq_false, not_true_eq_false, not_false_eq_true, ↓c_Reader_place_Reader_word, ↓c_Reader_place_Reader_can_be, ↓c_Reader_place_Reader_pound, eqsA, lit_le, Nat.reduceLeDiff, ap]
      exact h1 a j _ (by rw [pe, e2]) (R2.place a) (k1.trans ((k2.mono (by simp)).trans (Kept.set (by simp))))
    · rw [if_neg c] at pe
      rw [if_neg c]
      have xv : ∃ a : Pl, a = (if x = sEnd then Pl.en else Pl.ch) ∧ PV.tup [.str x] = a.v := by
        by_cases c1 : x = sEnd
        · exact ⟨.en, by rw [if_pos c1], by rw [c1]; rfl⟩
        · refine ⟨.ch, by rw [if_neg c1], ?_⟩
          have : x = sCh := by
            unfold canBe at cb
            by_cases e : ps = []
            · rw [if_pos e] at cb; exact absurd (of_decide_eq_true cb) c1
            · rw [if_neg e, if_neg c1, if_neg c, Bool.and_eq_true, decide_eq_true_eq] at cb
              exact cb.1
          rw [this]; rfl
      obtain ⟨a, ea, ev⟩ := xv
      rw [← ea] at pe
      have ap := app_loc (v := .tup [.str x]) R1.pls (by rw [List.length_map]; unfold LINE; omega)
      simp only [↓rowD, rowU, ↓e_and, ↓e_or, Option.map_some, decide_eq_true_eq, Bool.not_eq_true', decide_eq_false_iff_not, List.map_cons, List.map_nil, List.set_cons_zero, List.set_cons_succ, List.getElem?_cons_zero, List.getElem?_cons_succ, List.cons_append, List.nil_append, List.length_cons, List.length_nil, Nat.reduceAdd, Nat.reduceSub, true_and, and_true, if_true, if_false, eq_self, Bool.false_eq_true, Bool.not_true, Bool.not_false, MulP, DivP, or_true, true_or, Int.reduceLT, Int.reduceLE, Int.reduceNeg, Int.reducePow, Int.reduceToNat, Int.cast_ofNat_Int, Int.natCast_zero, Int.natCast_one, Int.reduceEq, Bool.true_eq_false, not_true_eq_false, not_false_eq_true, ↓c_Reader_place_Reader_word, ↓c_Reader_place_Reader_can_be, ↓c_Reader_place_Reader_pound, eqsA, lit_le, Nat.reduceLeDiff, f1, lst_of R1.pls, ap]
      rw [ev]
      exact h1 a (i + 1) _ pe (R1.place a) (k1.trans (Kept.set (by simp)))
theorem gw_some {x : List Nat} {b : Bool} (h : gw x = some b) : PV.str x = gv b := by
  unfold gw at h
  by_cases h1 : x = sUp
  · rw [if_pos h1] at h; cases h; rw [h1]; rfl
  · rw [if_neg h1] at h
    by_cases h2 : x = sDown
    · rw [if_pos h2] at h; cases h; rw [h2]; rfl
    · rw [if_neg h2] at h; cases h
theorem spec_rgate (R : Rdr M r w p g ws i ps gs) (lg : gs.length ≤ 100) (h1 : ∀ b M', gateAt ws i = some b → Rdr M' r w p g ws (i + 1) ps (gs ++ [b]) → Kept [r, g] M M' → Q .non M')
    (h2 : gateAt ws i = none → ∀ M', E 1 (some (.int (i : Nat))) M') : pwX E (R_Reader_gate [.loc r] M) Q := by
  have f := rdr_f (G := G_Reader_gate) rfl R
  rw [run_Reader_gate]; unfold B_Reader_gate
  simp only [↓rowD, rowU, ↓e_and, ↓e_or, Option.map_some, decide_eq_true_eq, Bool.not_eq_true', decide_eq_false_iff_not, List.map_cons, List.map_nil, List.set_cons_zero, List.set_cons_succ, List.getElem?_cons_zero, List.getElem?_cons_succ, List.cons_append, List.nil_append, List.length_cons, List.length_nil, Nat.reduceAdd, Nat.reduceSub, true_and, and_true, if_true, if_false, eq_self, Bool.false_eq_true, Bool.not_true, Bool.not_false, MulP, DivP, or_true, true_or, Int.reduceLT, Int.reduceLE, Int.reduceNeg, Int.reducePow, Int.reduceToNat, Int.cast_ofNat_Int, Int.natCast_zero, Int.natCast_one, Int.reduceEq, Bool.true_eq_false, not_true_eq_false, not_false_eq_true, ↓c_Reader_gate_Reader_word, eqsA, lit_le, Nat.reduceLeDiff, f]
  refine spec_word R (fun x hx => ?_) (fun hn => h2 (by unfold gateAt; rw [hn]) M)
  have li := (List.getElem?_eq_some_iff.mp hx).1
  have ge : gateAt ws i = gw x := by unfold gateAt; rw [hx]
  simp only [↓rowD, rowU, ↓e_and, ↓e_or, Option.map_some, decide_eq_true_eq, Bool.not_eq_true', decide_eq_false_iff_not, List.map_cons, List.map_nil, List.set_cons_zero, List.set_cons_succ, List.getElem?_cons_zero, List.getElem?_cons_succ, List.cons_append, List.nil_append, List.length_cons, List.length_nil, Nat.reduceAdd, Nat.reduceSub, true_and, and_true, if_true, if_false, eq_self, Bool.false_eq_true, Bool.not_true, Bool.not_false, MulP, DivP, or_true, true_or, Int.reduceLT, Int.reduceLE, Int.reduceNeg, Int.reducePow, Int.reduceToNat, Int.cast_ofNat_Int, Int.natCast_zero, Int.natCast_one, Int.reduceEq, Bool.true_eq_false, not_true_eq_false, not_false_eq_true, ↓c_Reader_gate_Reader_word, eqsA, lit_le, Nat.reduceLeDiff, f, notin_gates]
  cases eg : gw x with
  | none =>
    simp only [↓rowD, rowU, ↓e_and, ↓e_or, Option.map_some, decide_eq_true_eq, Bool.not_eq_true', decide_eq_false_iff_not, List.map_cons, List.map_nil, List.set_cons_zero, List.set_cons_succ, List.getElem?_cons_zero, List.getElem?_cons_succ, List.cons_append, List.nil_append, List.length_cons, List.length_nil, Nat.reduceAdd, Nat.reduceSub, true_and, and_true, if_true, if_false, eq_self, Bool.false_eq_true, Bool.not_true, Bool.not_false, MulP, DivP, or_true, true_or, Int.reduceLT, Int.reduceLE, Int.reduceNeg, Int.reducePow, Int.reduceToNat, Int.cast_ofNat_Int, Int.natCast_zero, Int.natCast_one, Int.reduceEq, Bool.true_eq_false, not_true_eq_false, not_false_eq_true, ↓c_Reader_gate_Reader_word, eqsA, lit_le, Nat.reduceLeDiff, f, Option.isSome_none]
    exact h2 (by rw [ge, eg]) M
  | some b =>
    have ap := app_loc (v := .str x) R.gts (by rw [List.length_map]; unfold LINE; omega)
    rw [gw_some eg] at ap
    have R1 := R.gate b
    have k1 : Kept [r, g] M (M.set g (.lst (gs.map gv ++ [gv b]))) := Kept.set (by simp)
    simp only [↓rowD, rowU, ↓e_and, ↓e_or, Option.map_some, decide_eq_true_eq, Bool.not_eq_true', decide_eq_false_iff_not, List.map_cons, List.map_nil, List.set_cons_zero, List.set_cons_succ, List.getElem?_cons_zero, List.getElem?_cons_succ, List.cons_append, List.nil_append, List.length_cons, List.length_nil, Nat.reduceAdd, Nat.reduceSub, true_and, and_true, if_true, if_false, eq_self, Bool.false_eq_true, Bool.not_true, Bool.not_false, MulP, DivP, or_true, true_or, Int.reduceLT, Int.reduceLE, Int.reduceNeg, Int.reducePow, Int.reduceToNat, Int.cast_ofNat_Int, Int.natCast_zero, Int.natCast_one, Int.reduceEq, Bool.true_eq_false, not_true_eq_false, not_false_eq_true, ↓c_Reader_gate_Reader_word, eqsA, lit_le, Nat.reduceLeDiff, u_Reader_gate_R1, B_Reader_gate_R1d, Option.isSome_some, f, lst_of R.gts, gw_some eg, ap]
    generalize M.set g (.lst (gs.map gv ++ [gv b])) = M1 at R1 k1 ⊢
    have f1 := rdr_f (G := G_Reader_gate) rfl R1
    simp only [↓rowD, rowU, ↓e_and, ↓e_or, Option.map_some, decide_eq_true_eq, Bool.not_eq_true', decide_eq_false_iff_not, List.map_cons, List.map_nil, List.set_cons_zero, List.set_cons_succ, List.getElem?_cons_zero, List.getElem?_cons_succ, List.cons_append, List.nil_append, List.length_cons, List.length_nil, Nat.reduceAdd, Nat.reduceSub, true_and, and_true, if_true, if_false, eq_self, Bool.false_eq_true, Bool.not_true, Bool.not_false, MulP, DivP, or_true, true_or, Int.reduceLT, Int.reduceLE, Int.reduceNeg, Int.reducePow, Int.reduceToNat, Int.cast_ofNat_Int, Int.natCast_zero, Int.natCast_one, Int.reduceEq, Bool.true_eq_false, not_true_eq_false, not_false_eq_true, ↓c_Reader_gate_Reader_word, eqsA, lit_le, Nat.reduceLeDiff, f1, rdr_at (G := G_Reader_gate) (j := i + 1) (v := .int ((i : Int) + 1)) rfl R1 rfl]
    exact h1 b _ (by rw [ge, eg]) (R1.step (by omega)) (k1.trans (Kept.set (by simp)))
end

/-! ### a canal, read -/
def lastEn (ps : List Pl) : Bool := match ps.getLast? with
  | some .en => true
  | _ => false
theorem lastEn_snoc (xs : List Pl) (a : Pl) : lastEn (xs ++ [a]) = a.isEn := by
  unfold lastEn
  rw [List.getLast?_concat]
  cases a <;> rfl
def rdLoop (ws : List (List Nat)) : Nat → Nat → List Pl → List Bool → Except Nat (List Pl × List Bool × Nat)
  | 0, i, ps, gs => .ok (ps, gs, i)
  | k + 1, i, ps, gs => if ps.length = 1 ∨ lastEn ps = false then (match gateAt ws i with
    | none => .error i
    | some b => match placeAt ws (i + 1) ps with
      | .error j => .error j
      | .ok r => rdLoop ws k r.2 (ps ++ [r.1]) (gs ++ [b])) else .ok (ps, gs, i)
def rdAll (ws : List (List Nat)) : Except Nat (List Pl × List Bool) := match placeAt ws 0 [] with
  | .error j => .error j
  | .ok r => match rdLoop ws 13 r.2 [r.1] [] with
    | .error j => .error j
    | .ok t => if t.2.2 < ws.length then .error t.2.2 else .ok (t.1, t.2.1)
def JP (ps : List Pl) : Prop := ps ≠ [] ∧ (ps.length ≤ 12 ∨ (ps.length = 13 ∧ lastEn ps = true))
theorem place_few {ws : List (List Nat)} {i j : Nat} {ps : List Pl} {a : Pl} (h : placeAt ws i ps = .ok (a, j)) (ne : ps ≠ []) : a = .en ∨ ps.length + 1 < 13 := by
  unfold placeAt at h
  split at h
  · cases h
  · rename_i w hw
    split at h
    · rename_i cb
      unfold canBe at cb
      rw [if_neg ne] at cb
      by_cases c1 : w = sEnd
      · have np : w ≠ sPo := by rw [c1]; decide +kernel
        rw [if_neg np, if_pos c1] at h
        cases h
        exact .inl rfl
      · rw [if_neg c1] at cb
        by_cases c2 : w = sPo
        · rw [if_pos c2, Bool.and_eq_true, decide_eq_true_eq] at cb
          exact .inr (by omega)
        · rw [if_neg c2, Bool.and_eq_true, decide_eq_true_eq, decide_eq_true_eq] at cb
          exact .inr cb.2
    · cases h
theorem JP.next {ws : List (List Nat)} {i j : Nat} {ps : List Pl} {a : Pl} (J : JP ps) (c : ps.length = 1 ∨ lastEn ps = false) (h : placeAt ws i ps = .ok (a, j)) : JP (ps ++ [a]) := by
  obtain ⟨ne, J⟩ := J
  refine ⟨by simp, ?_⟩
  rw [List.length_append]
  have l12 : ps.length ≤ 12 := by
    rcases J with q | ⟨q, e⟩
    · exact q
    · rcases c with c | c
      · omega
      · rw [e] at c; cases c
  rcases place_few h ne with rfl | q
  · by_cases e : ps.length = 12
    · exact .inr ⟨by simp [e], by rw [lastEn_snoc]; rfl⟩
    · exact .inl (by simp; omega)
  · exact .inl (by simp; omega)
section
variable {M : Sto} {Q : PV → Sto → Prop} {E : Xp}
theorem spec_read_canal {ws : List (List Nat)} (ne : ws ≠ []) (fr : ∀ w ∈ ws, 32 ∉ w) (lw : ws.length ≤ 100) (wl : ∀ w ∈ ws, w.length ≤ 300)
    (h1 : ∀ ps gs, rdAll ws = .ok (ps, gs) → ∀ M', Kept [] M M' → Q (.tup [.tup (ps.map Pl.v), .tup (gs.map gv)]) M') (h2 : ∀ j, rdAll ws = .error j → ∀ M', E 1 (some (.int (j : Nat))) M') :
    pwX E (R_read_canal [.str (joinS ws)] M) Q := by
  have sp := spl_join82 ne fr lw wl M
  have wl2 : ∀ w ∈ ws, w.length ≤ 100000 := fun w hw => by have := wl w hw; omega
  have env : PV.tup [.str (Str.ofString "end").cps.toList] = Pl.en.v := rfl
  have een : ∀ (a : Pl) (m : Sto), opC .NotEq a.v Pl.en.v m = some (!a.isEn) := fun a m => by
    have e : opC .NotEq a.v Pl.en.v m = (eqP m a.v Pl.en.v).map not := by cases a <;> rfl
    rw [e]
    have e2 : opC .Eq a.v Pl.en.v m = some a.isEn := eq_end a
    have e3 : opC .Eq a.v Pl.en.v m = eqP m a.v Pl.en.v := by cases a <;> rfl
    rw [← e3, e2]; rfl
  rw [run_read_canal]; unfold B_read_canal
  simp only [↓rowD, rowU, ↓e_and, ↓e_or, Option.map_some, decide_eq_true_eq, Bool.not_eq_true', decide_eq_false_iff_not, List.map_cons, List.map_nil, List.set_cons_zero, List.set_cons_succ, List.getElem?_cons_zero, List.getElem?_cons_succ, List.cons_append, List.nil_append, List.length_cons, List.length_nil, Nat.reduceAdd, Nat.reduceSub, true_and, and_true, if_true, if_false, eq_self, Bool.false_eq_true, Bool.not_true, Bool.not_false, MulP, DivP, or_true, true_or, Int.reduceLT, Int.reduceLE, Int.reduceNeg, Int.reducePow, Int.reduceToNat, Int.cast_ofNat_Int, Int.natCast_zero, Int.natCast_one, Int.reduceEq, Bool.true_eq_false, not_true_eq_false, not_false_eq_true, ↓c_read_canal_Reader_init, ↓c_read_canal_Reader_place, ↓c_read_canal_Reader_gate, eqsA, k_read_canal_0, lit_le, Nat.reduceLeDiff, sp]
  refine spec_init (w := M.length) get_new (get_app get_new) (by simp) fun M1 p g R1 k1 lp lg => ?_
  have kr : Kept [(M ++ [PObj.lst (ws.map PV.str)]).length] M M1 := (Kept.app.trans Kept.app).trans k1
  generalize hr : (M ++ [PObj.lst (ws.map PV.str)]).length = r at R1 kr ⊢
  have lr : M.length ≤ r := by rw [← hr]; simp
  have pl := R1.ne
  have f1 := rdr_f (G := G_read_canal) rfl R1
  simp only [↓rowD, rowU, ↓e_and, ↓e_or, Option.map_some, decide_eq_true_eq, Bool.not_eq_true', decide_eq_false_iff_not, List.map_cons, List.map_nil, List.set_cons_zero, List.set_cons_succ, List.getElem?_cons_zero, List.getElem?_cons_succ, List.cons_append, List.nil_append, List.length_cons, List.length_nil, Nat.reduceAdd, Nat.reduceSub, true_and, and_true, if_true, if_false, eq_self, Bool.false_eq_true, Bool.not_true, Bool.not_false, MulP, DivP, or_true, true_or, Int.reduceLT, Int.reduceLE, Int.reduceNeg, Int.reducePow, Int.reduceToNat, Int.cast_ofNat_Int, Int.natCast_zero, Int.natCast_one, Int.reduceEq, Bool.true_eq_false, not_true_eq_false, not_false_eq_true, ↓c_read_canal_Reader_init, ↓c_read_canal_Reader_place, ↓c_read_canal_Reader_gate, eqsA, k_read_canal_0, lit_le, Nat.reduceLeDiff, f1]
  have lp : M.length ≤ p := by simp at lp; omega
  have lg : M.length ≤ g := by simp at lg; omega
  refine spec_rplace R1 wl2 (by simp) (fun a j M2 e2 R2 k2 => ?_) (fun j e2 M2 => h2 j (by unfold rdAll; rw [e2]) M2)
  have k2' : Kept [r, p, g] M1 M2 := k2.mono (by simp)
  simp only [↓rowD, rowU, ↓e_and, ↓e_or, Option.map_some, decide_eq_true_eq, Bool.not_eq_true', decide_eq_false_iff_not, List.map_cons, List.map_nil, List.set_cons_zero, List.set_cons_succ, List.getElem?_cons_zero, List.getElem?_cons_succ, List.cons_append, List.nil_append, List.length_cons, List.length_nil, Nat.reduceAdd, Nat.reduceSub, true_and, and_true, if_true, if_false, eq_self, Bool.false_eq_true, Bool.not_true, Bool.not_false, MulP, DivP, or_true, true_or, Int.reduceLT, Int.reduceLE, Int.reduceNeg, Int.reducePow, Int.reduceToNat, Int.cast_ofNat_Int, Int.natCast_zero, Int.natCast_one, Int.reduceEq, Bool.true_eq_false, not_true_eq_false, not_false_eq_true, ↓c_read_canal_Reader_init, ↓c_read_canal_Reader_place, ↓c_read_canal_Reader_gate, eqsA, k_read_canal_0, lit_le, Nat.reduceLeDiff]
  have ra : rdAll ws = match rdLoop ws 13 j [a] [] with
      | .error j => .error j
      | .ok t => if t.2.2 < ws.length then .error t.2.2 else .ok (t.1, t.2.1) := by unfold rdAll; rw [e2]
  generalize hR0 : rdLoop ws 13 j [a] [] = R0 at ra
  refine pw_whl 13 (fun k T m => ∃ (i : Nat) (ps : List Pl) (gs : List Bool), Rdr m r M.length p g ws i ps gs ∧ Kept [r, p, g] M1 m ∧ JP ps ∧ ps.length + k = 14 ∧ gs.length + 1 = ps.length ∧ rdLoop ws k i ps gs = R0 ∧ T = [some (.str (joinS ws)), some (.loc r)]) (by unfold FUEL; omega) ⟨j, [a], [], R2, k2', ⟨by simp, .inl (by simp)⟩, rfl, rfl, hR0, rfl⟩ ?_
  rintro k T m hk ⟨i, ps, gs, R, kp, J, hn, hg, hl, rfl⟩
  have f := rdr_f (G := G_read_canal) rfl R
  obtain ⟨k', rfl⟩ : ∃ k', k = k' + 1 := ⟨k - 1, by rcases J.2 with q | q <;> omega⟩
  obtain ⟨xs, b, e⟩ : ∃ xs b, ps = xs ++ [b] := by
    rcases List.eq_nil_or_concat ps with e | ⟨xs, b, e⟩
    · exact absurd e J.1
    · exact ⟨xs, b, by rw [e, List.concat_eq_append]⟩
  have last : opI (.loc p) (.int (-1)) m = some (b.v, m) := by
    rw [ixt_loc R.pls, e, List.map_append, List.map_cons, List.map_nil, SW.atI_last]
    rfl
  have le : lastEn ps = b.isEn := by rw [e]; exact lastEn_snoc xs b
  have body : (ps.length = 1 ∨ lastEn ps = false) → pwY (fun c v x M => E c v M) (evSs G_read_canal B_read_canal_1 [some (.str (joinS ws)), some (.loc r)] m) (fun t m => ∃ j_1, j_1 < k' + 1 ∧ ∃ (i : Nat) (ps : List Pl) (gs : List Bool), Rdr m r M.length p g ws i ps gs ∧ Kept [r, p, g] M1 m ∧ JP ps ∧ ps.length + j_1 = 14 ∧ gs.length + 1 = ps.length ∧ rdLoop ws j_1 i ps gs = R0 ∧ t = [some (.str (joinS ws)), some (.loc r)]) Q := by
    intro c
    unfold rdLoop at hl
    rw [if_pos c] at hl
    unfold B_read_canal_1
    simp only [↓rowD, rowU, ↓e_and, ↓e_or, Option.map_some, decide_eq_true_eq, Bool.not_eq_true', decide_eq_false_iff_not, List.map_cons, List.map_nil, List.set_cons_zero, List.set_cons_succ, List.getElem?_cons_zero, List.getElem?_cons_succ, List.cons_append, List.nil_append, List.length_cons, List.length_nil, Nat.reduceAdd, Nat.reduceSub, true_and, and_true, if_true, if_false, eq_self, Bool.false_eq_true, Bool.not_true, Bool.not_false, MulP, DivP, or_true, true_or, Int.reduceLT, Int.reduceLE, Int.reduceNeg, Int.reducePow, Int.reduceToNat, Int.cast_ofNat_Int, Int.natCast_zero, Int.natCast_one, Int.reduceEq, Bool.true_eq_false, not_true_eq_false, not_false_eq_true, ↓c_read_canal_Reader_init, ↓c_read_canal_Reader_place, ↓c_read_canal_Reader_gate, eqsA, k_read_canal_0, lit_le, Nat.reduceLeDiff, f]
    refine spec_rgate R (by omega) (fun bg M3 e3 R3 k3 => ?_) (fun e3 M3 => ?_)
    · rw [e3] at hl
      dsimp only at hl
      have f3 := rdr_f (G := G_read_canal) rfl R3
      simp only [↓rowD, rowU, ↓e_and, ↓e_or, Option.map_some, decide_eq_true_eq, Bool.not_eq_true', decide_eq_false_iff_not, List.map_cons, List.map_nil, List.set_cons_zero, List.set_cons_succ, List.getElem?_cons_zero, List.getElem?_cons_succ, List.cons_append, List.nil_append, List.length_cons, List.length_nil, Nat.reduceAdd, Nat.reduceSub, true_and, and_true, if_true, if_false, eq_self, Bool.false_eq_true, Bool.not_true, Bool.not_false, MulP, DivP, or_true, true_or, Int.reduceLT, Int.reduceLE, Int.reduceNeg, Int.reducePow, Int.reduceToNat, Int.cast_ofNat_Int, Int.natCast_zero, Int.natCast_one, Int.reduceEq, Bool.true_eq_false, not_true_eq_false, not_false_eq_true, ↓c_read_canal_Reader_init, ↓c_read_canal_Reader_place, ↓c_read_canal_Reader_gate, eqsA, k_read_canal_0, lit_le, Nat.reduceLeDiff, f3]
      refine spec_rplace R3 wl2 (by omega) (fun a' j' M4 e4 R4 k4 => ?_) (fun j' e4 M4 => ?_)
      · rw [e4] at hl
        dsimp only at hl
        simp only [↓rowD, rowU, ↓e_and, ↓e_or, Option.map_some, decide_eq_true_eq, Bool.not_eq_true', decide_eq_false_iff_not, List.map_cons, List.map_nil, List.set_cons_zero, List.set_cons_succ, List.getElem?_cons_zero, List.getElem?_cons_succ, List.cons_append, List.nil_append, List.length_cons, List.length_nil, Nat.reduceAdd, Nat.reduceSub, true_and, and_true, if_true, if_false, eq_self, Bool.false_eq_true, Bool.not_true, Bool.not_false, MulP, DivP, or_true, true_or, Int.reduceLT, Int.reduceLE, Int.reduceNeg, Int.reducePow, Int.reduceToNat, Int.cast_ofNat_Int, Int.natCast_zero, Int.natCast_one, Int.reduceEq, Bool.true_eq_false, not_true_eq_false, not_false_eq_true, ↓c_read_canal_Reader_init, ↓c_read_canal_Reader_place, ↓c_read_canal_Reader_gate, eqsA, k_read_canal_0, lit_le, Nat.reduceLeDiff]
        exact ⟨k', by omega, j', _, _, R4, kp.trans ((k3.mono (by simp)).trans (k4.mono (by simp))), J.next c e4, by simp; omega, by simp; omega, hl⟩
      · rw [e4] at hl
        dsimp only at hl
        exact h2 j' (by rw [ra, ← hl]) M4
    · rw [e3] at hl
      dsimp only at hl
      exact h2 i (by rw [ra, ← hl]) M3
  simp only [↓rowD, rowU, ↓e_and, ↓e_or, Option.map_some, decide_eq_true_eq, Bool.not_eq_true', decide_eq_false_iff_not, List.map_cons, List.map_nil, List.set_cons_zero, List.set_cons_succ, List.getElem?_cons_zero, List.getElem?_cons_succ, List.cons_append, List.nil_append, List.length_cons, List.length_nil, Nat.reduceAdd, Nat.reduceSub, true_and, and_true, if_true, if_false, eq_self, Bool.false_eq_true, Bool.not_true, Bool.not_false, MulP, DivP, or_true, true_or, Int.reduceLT, Int.reduceLE, Int.reduceNeg, Int.reducePow, Int.reduceToNat, Int.cast_ofNat_Int, Int.natCast_zero, Int.natCast_one, Int.reduceEq, Bool.true_eq_false, not_true_eq_false, not_false_eq_true, ↓c_read_canal_Reader_init, ↓c_read_canal_Reader_place, ↓c_read_canal_Reader_gate, eqsA, k_read_canal_0, lit_le, Nat.reduceLeDiff, f, len_loc R.pls, List.length_map, last, env, een]
  by_cases c1 : ps.length = 1
  · rw [if_pos (by omega)]
    exact body (.inl c1)
  rw [if_neg (by omega)]
  cases eb : b.isEn with
  | false =>
    rw [if_pos rfl]
    exact body (.inr (by rw [le, eb]))
  | true =>
    rw [if_neg (by simp)]
    have nc : ¬ (ps.length = 1 ∨ lastEn ps = false) := by
      rw [le, eb]
      intro z
      rcases z with z | z
      · exact c1 z
      · cases z
    unfold rdLoop at hl
    rw [if_neg nc] at hl
    have li := R.le
    simp only [↓rowD, rowU, ↓e_and, ↓e_or, Option.map_some, decide_eq_true_eq, Bool.not_eq_true', decide_eq_false_iff_not, List.map_cons, List.map_nil, List.set_cons_zero, List.set_cons_succ, List.getElem?_cons_zero, List.getElem?_cons_succ, List.cons_append, List.nil_append, List.length_cons, List.length_nil, Nat.reduceAdd, Nat.reduceSub, true_and, and_true, if_true, if_false, eq_self, Bool.false_eq_true, Bool.not_true, Bool.not_false, MulP, DivP, or_true, true_or, Int.reduceLT, Int.reduceLE, Int.reduceNeg, Int.reducePow, Int.reduceToNat, Int.cast_ofNat_Int, Int.natCast_zero, Int.natCast_one, Int.reduceEq, Bool.true_eq_false, not_true_eq_false, not_false_eq_true, ↓c_read_canal_Reader_init, ↓c_read_canal_Reader_place, ↓c_read_canal_Reader_gate, eqsA, k_read_canal_0, lit_le, Nat.reduceLeDiff, f, len_loc R.wds, List.length_map]
    by_cases c2 : i < ws.length
    · rw [if_pos (by omega)]
      exact h2 i (by rw [ra, ← hl]; dsimp only; rw [if_pos c2]) m
    · rw [if_neg (by omega)]
      simp only [↓rowD, rowU, ↓e_and, ↓e_or, Option.map_some, decide_eq_true_eq, Bool.not_eq_true', decide_eq_false_iff_not, List.map_cons, List.map_nil, List.set_cons_zero, List.set_cons_succ, List.getElem?_cons_zero, List.getElem?_cons_succ, List.cons_append, List.nil_append, List.length_cons, List.length_nil, Nat.reduceAdd, Nat.reduceSub, true_and, and_true, if_true, if_false, eq_self, Bool.false_eq_true, Bool.not_true, Bool.not_false, MulP, DivP, or_true, true_or, Int.reduceLT, Int.reduceLE, Int.reduceNeg, Int.reducePow, Int.reduceToNat, Int.cast_ofNat_Int, Int.natCast_zero, Int.natCast_one, Int.reduceEq, Bool.true_eq_false, not_true_eq_false, not_false_eq_true, ↓c_read_canal_Reader_init, ↓c_read_canal_Reader_place, ↓c_read_canal_Reader_gate, eqsA, k_read_canal_0, lit_le, Nat.reduceLeDiff, u_read_canal_R1, B_read_canal_R1d, f, tuple_loc R.pls, tuple_loc R.gts]
      exact h1 ps gs (by rw [ra, ← hl]; dsimp only; rw [if_neg c2]) m (((kr.mono (by simp)).trans kp).drop fun z hz => .inr (by simp at hz; omega))
end

/-! ### lists made of lists -/
theorem cut_dropN {xs : List PV} (k : Nat) : cut xs (some (k : Int)) none = xs.drop k := by
  unfold cut
  rw [HT.sIx_none, HT.sIx_nat]
  by_cases hk : k ≤ xs.length
  · rw [Nat.min_eq_left hk, List.take_of_length_le (by rw [List.length_drop]; omega)]
  · rw [Nat.min_eq_right (by omega), Nat.sub_self, List.take_zero, List.drop_eq_nil_of_le (by omega)]
theorem cut_takeN {xs : List PV} (k : Nat) : cut xs none (some (k : Int)) = xs.take k := by
  unfold cut
  rw [HT.sIx_none, HT.sIx_nat, List.drop_zero, Nat.sub_zero]
  by_cases h : k ≤ xs.length
  · rw [Nat.min_eq_left h]
  · rw [Nat.min_eq_right (by omega), List.take_of_length_le (Nat.le_refl _), List.take_of_length_le (by omega)]
theorem sl_a {M : Sto} {n k : Nat} {xs : List PV} (h : M[n]? = some (.lst xs)) (hl : xs.length ≤ LINE) : ∃ a M', opS (.loc n) none (some (k : Int)) M = some (.loc a, M') ∧ Kept [] M M' ∧ M'[a]? = some (.lst (xs.take k)) ∧ M.length ≤ a :=
  ⟨M.length, M ++ [.lst (xs.take k)], by simp only [opS, lst_of h, cut_takeN]; exact new_ok (by simp; omega), Kept.app, get_new, Nat.le_refl _⟩
theorem sl_b {M : Sto} {n k : Nat} {xs : List PV} (h : M[n]? = some (.lst xs)) (hl : xs.length ≤ LINE) : ∃ a M', opS (.loc n) (some (k : Int)) none M = some (.loc a, M') ∧ Kept [] M M' ∧ M'[a]? = some (.lst (xs.drop k)) ∧ M.length ≤ a :=
  ⟨M.length, M ++ [.lst (xs.drop k)], by simp only [opS, lst_of h, cut_dropN]; exact new_ok (by simp; omega), Kept.app, get_new, Nat.le_refl _⟩
theorem add_ex {M : Sto} {a b : Nat} {xs ys : List PV} (ha : M[a]? = some (.lst xs)) (hb : M[b]? = some (.lst ys)) (hl : xs.length + ys.length ≤ LINE) : ∃ c M', opB .Add (.loc a) (.loc b) M = some (.loc c, M') ∧ Kept [] M M' ∧ M'[c]? = some (.lst (xs ++ ys)) ∧ M.length ≤ c :=
  ⟨M.length, M ++ [.lst (xs ++ ys)], by simp only [opB, ha, hb]; exact new_ok (by simp; omega), Kept.app, get_new, Nat.le_refl _⟩
theorem new_ex {M : Sto} {xs : List PV} (h : xs.length ≤ LINE) : ∃ a M', newL M xs = some (.loc a, M') ∧ Kept [] M M' ∧ M'[a]? = some (.lst xs) ∧ M.length ≤ a := ⟨_, _, new_ok h, Kept.app, get_new, Nat.le_refl _⟩
theorem rev_ex {M : Sto} {a : Nat} {xs : List PV} (ha : M[a]? = some (.lst xs)) (hl : xs.length ≤ LINE) : ∃ c M', revL (.loc a) M = some (.loc c, M') ∧ Kept [] M M' ∧ M'[c]? = some (.lst xs.reverse) ∧ M.length ≤ c :=
  ⟨M.length, M ++ [.lst xs.reverse], by show (match lst? M (.loc a) with | some xs => newL M xs.reverse | none => none) = _; rw [lst_of ha]; exact new_ok (by simpa using hl), Kept.app, get_new, Nat.le_refl _⟩

/-! ### the words that write a canal -/
def gwd (b : Bool) : List Nat := if b = true then sUp else sDown
def plwd : Pl → List Nat
  | .en => sEnd
  | .ch => sCh
  | .po _ _ _ _ => sPo
def plrest : Pl → List PV
  | .po b d r p => [.int b, .int d, .int r, opI? p]
  | _ => []
theorem pl_v (p : Pl) : p.v = .tup (.str (plwd p) :: (plrest p)) := by cases p <;> rfl
/-- what is written of a part of a place -/
def partY : PV → Option (List Nat)
  | .int z => some (numT z)
  | _ => none
def plW (p : Pl) : List (List Nat) := (plwd p) :: (plrest p).filterMap partY
def gpW : List Bool → List Pl → List (List Nat)
  | g :: gs, p :: ps => gwd g :: (plW p ++ gpW gs ps)
  | _, _ => []
def cW : List Pl → List Bool → List (List Nat)
  | [], _ => []
  | p :: ps, gs => plW p ++ gpW gs ps
theorem gpW_snoc : ∀ (gs : List Bool) (ps : List Pl) (g : Bool) (p : Pl), gs.length = ps.length → gpW (gs ++ [g]) (ps ++ [p]) = gpW gs ps ++ (gwd g :: plW p)
  | [], [], g, p, _ => by simp [gpW]
  | [], _ :: _, _, _, h => by simp at h
  | _ :: _, [], _, _, h => by simp at h
  | a :: gs, b :: ps, g, p, h => by
    have := gpW_snoc gs ps g p (by simpa using h)
    simp only [List.cons_append, gpW, this, List.append_assoc]
theorem gpW_split : ∀ (g1 : List Bool) (p1 : List Pl) (g2 : List Bool) (p2 : List Pl), g1.length = p1.length → gpW (g1 ++ g2) (p1 ++ p2) = gpW g1 p1 ++ gpW g2 p2
  | [], [], g2, p2, _ => by simp [gpW]
  | [], _ :: _, _, _, h => by simp at h
  | _ :: _, [], _, _, h => by simp at h
  | a :: gs, b :: ps, g, p, h => by
    have := gpW_split gs ps g p (by simpa using h)
    simp only [List.cons_append, gpW, this, List.append_assoc]
theorem cW_snoc {ps : List Pl} {gs : List Bool} (g : Bool) (p : Pl) (h : gs.length + 1 = ps.length) : cW (ps ++ [p]) (gs ++ [g]) = cW ps gs ++ (gwd g :: plW p) := by
  cases ps with
  | nil => simp at h
  | cons a ps => simp only [List.cons_append, cW, gpW_snoc gs ps g p (by simpa using h), List.append_assoc]
theorem cW_split {p1 : List Pl} {g1 : List Bool} (g2 : List Bool) (p2 : List Pl) (h : g1.length + 1 = p1.length) : cW (p1 ++ p2) (g1 ++ g2) = cW p1 g1 ++ gpW g2 p2 := by
  cases p1 with
  | nil => simp at h
  | cons a ps => simp only [List.cons_append, cW, gpW_split g1 ps g2 p2 (by simpa using h), List.append_assoc]
theorem cW_one (p : Pl) : cW [p] [] = plW p := by simp [cW, gpW]
/-- signs of a canal's words -/
def WOk (w : List Nat) : Prop := w.length ≤ 80 ∧ 32 ∉ w
theorem wok_3 : WOk sEnd ∧ WOk sCh ∧ WOk sPo := by unfold WOk; decide +kernel
theorem wok_wd (p : Pl) : WOk (plwd p) := by
  cases p with
  | en => exact wok_3.1
  | ch => exact wok_3.2.1
  | po _ _ _ _ => exact wok_3.2.2
theorem wok_g (b : Bool) : WOk (gwd b) := by cases b <;> exact ⟨by decide +kernel, by decide +kernel⟩
theorem wok_num {z : Int} (h : 0 ≤ z ∧ z ≤ 99) : WOk (numT z) := by
  obtain ⟨n, n9, rfl⟩ : ∃ n : Nat, n ≤ 99 ∧ z = (n : Int) := ⟨z.toNat, by omega, by omega⟩
  exact ⟨numT_len (by omega), num_free (by omega)⟩
theorem rest_Y {p : Pl} (ok : p.ok) : ∀ x ∈ (plrest p), x = .non ∨ ∃ z : Int, x = .int z ∧ 0 ≤ z ∧ z ≤ 99 := by
  cases p with
  | en => intro x hx; simp [plrest] at hx
  | ch => intro x hx; simp [plrest] at hx
  | po b d r p =>
    obtain ⟨h1, h2, h3, h4, h5, h6, h7⟩ := ok
    intro x hx
    simp only [plrest, List.mem_cons, List.not_mem_nil, or_false] at hx
    rcases hx with rfl | rfl | rfl | rfl
    · exact .inr ⟨_, rfl, by omega, by omega⟩
    · exact .inr ⟨_, rfl, by omega, by omega⟩
    · exact .inr ⟨_, rfl, by omega, by omega⟩
    · cases p with
      | none => exact .inl rfl
      | some z => exact .inr ⟨z, rfl, h7 z rfl⟩
theorem plW_ok {p : Pl} (ok : p.ok) : ∀ w ∈ plW p, WOk w := by
  intro w hw
  rcases List.mem_cons.mp hw with rfl | hw
  · exact wok_wd p
  · obtain ⟨x, hx, e⟩ := List.mem_filterMap.mp hw
    rcases rest_Y ok x hx with rfl | ⟨z, rfl, h⟩
    · cases e
    · cases e; exact wok_num h
theorem plW_len (p : Pl) : (plW p).length ≤ 5 := by
  have := List.length_filterMap_le partY (plrest p)
  have h : (plrest p).length ≤ 4 := by cases p <;> simp [plrest]
  simp only [plW, List.length_cons]; omega
theorem gpW_ok : ∀ (gs : List Bool) (ps : List Pl), (∀ p ∈ ps, p.ok) → (∀ w ∈ gpW gs ps, WOk w) ∧ (gpW gs ps).length ≤ 6 * ps.length
  | [], ps, _ => by simp [gpW]
  | g :: gs, [], _ => by simp [gpW]
  | g :: gs, p :: ps, h => by
    obtain ⟨i1, i2⟩ := gpW_ok gs ps fun q hq => h q (by simp [hq])
    refine ⟨fun w hw => ?_, ?_⟩
    · simp only [gpW, List.mem_cons, List.mem_append] at hw
      rcases hw with rfl | hw | hw
      · exact wok_g g
      · exact plW_ok (h p (by simp)) w hw
      · exact i1 w hw
    · have := plW_len p
      simp only [gpW, List.length_cons, List.length_append]; omega
theorem cW_ok {ps : List Pl} (gs : List Bool) (h : ∀ p ∈ ps, p.ok) : (∀ w ∈ cW ps gs, WOk w) ∧ (cW ps gs).length ≤ 6 * ps.length := by
  cases ps with
  | nil => simp [cW]
  | cons p ps =>
    obtain ⟨i1, i2⟩ := gpW_ok gs ps fun q hq => h q (by simp [hq])
    refine ⟨fun w hw => ?_, ?_⟩
    · rcases List.mem_append.mp hw with hw | hw
      · exact plW_ok (h p (by simp)) w hw
      · exact i1 w hw
    · have := plW_len p
      simp only [cW, List.length_cons, List.length_append]; omega
/-- a comprehension with an if -/
theorem pw_lcF {E : Xp} {at_ : Wlk} {tgt : PV → Sto → Option Sig} {tst : Sig → Sto → Res Bool} {el : Sig → Sto → Res PV} {cnt : Nat} {M : Sto} {Q : PV → Sto → Prop} (fs : List (Option PV)) (hc : cnt = fs.length) (hl : cnt ≤ 100000)
    (step : ∀ i m o, fs[i]? = some o → Kept [] M m → ∃ x tau, at_ i m = some (some x) ∧ tgt x m = some tau ∧ pwX E (tst tau m) fun b m1 => match o with
      | none => b = false ∧ Kept [] m m1
      | some y => b = true ∧ pwX E (el tau m1) fun z m' => z = y ∧ Kept [] m m')
    (done : ∀ m, Kept [] M m → m[M.length]? = some (.lst (fs.filterMap id)) → at_ cnt m = some none ∧ Q (.loc M.length) m) : pwX E (lcGo M.length at_ tgt tst el cnt 0 (M ++ [.lst []])) Q := by
  subst hc
  have dr : ∀ {m : Sto}, Kept [M.length] M m → Kept [] M m := fun k => k.drop fun z hz => .inr (by simp at hz; omega)
  refine pw_lc (fun i m => Kept [M.length] M m ∧ m[M.length]? = some (.lst ((fs.take i).filterMap id))) ⟨Kept.app, by rw [List.take_zero]; exact get_new⟩ ?_ ?_
  · rintro i m hi ⟨kp, qn⟩
    have e : fs[i]? = some fs[i] := List.getElem?_eq_getElem hi
    obtain ⟨x, tau, h1, h2, h3⟩ := step i m _ e (dr kp)
    refine ⟨x, tau, h1, h2, pwR_mono h3 fun b m1 h4 => ?_⟩
    cases ho : fs[i] with
    | none =>
      rw [ho] at h4 e
      obtain ⟨hb, k⟩ := h4
      rw [if_neg (by rw [hb]; simp)]
      refine ⟨kp.trans (k.mono (by simp)), ?_⟩
      rw [take_snoc e, List.filterMap_append, List.filterMap_cons_none (by rfl), List.filterMap_nil, List.append_nil]
      exact k.obj qn (by simp)
    | some y =>
      rw [ho] at h4 e
      obtain ⟨hb, k⟩ := h4
      rw [if_pos hb]
      refine pwR_mono k fun z m' ⟨hz, kz⟩ => ?_
      have q2 := kz.obj qn (by simp)
      have ll := List.length_filterMap_le id (fs.take i)
      refine ⟨_, q2, by rw [List.length_take] at ll; unfold LINE; omega, kp.trans ((kz.mono (by simp)).trans (Kept.set (by simp))), ?_⟩
      rw [get_set q2, take_snoc e, hz, List.filterMap_append, List.filterMap_cons_some (show id (some y) = some y from rfl), List.filterMap_nil]
  · rintro m ⟨kp, qn⟩
    rw [List.take_length] at qn
    exact done m (dr kp) qn
theorem fm_id {xs : List PV} : (xs.map fun x => (partY x).map PV.str).filterMap id = (xs.filterMap partY).map PV.str := by
  rw [List.filterMap_map, List.map_filterMap]
  rfl

/-! ### what is written is read again -/
theorem snum_num {z : Int} (h : 0 ≤ z ∧ z ≤ 99) : snum (numT z) = some z := by
  obtain ⟨n, n9, rfl⟩ : ∃ n : Nat, n ≤ 99 ∧ z = (n : Int) := ⟨z.toNat, by omega, by omega⟩
  rcases num_cases n9 with ⟨h1, e⟩ | ⟨h1, e⟩
  · rw [e]
    have v : valW [48 + n] = n := by simp [valW]
    unfold snum
    rw [if_pos ⟨⟨by simp, by simp, fun c hc => by simp at hc; omega⟩, by simp⟩, v]
  · rw [e]
    have v : valW [48 + n / 10, 48 + n % 10] = n := by simp [valW]; omega
    unfold snum
    rw [if_pos ⟨⟨by simp, fun q => by simp at q; omega, fun c hc => by simp at hc; omega⟩, by simp⟩, v]
theorem numAt_num {ws : List (List Nat)} {i : Nat} {z lo hi : Int} (h : ws[i]? = some (numT z)) (h0 : 0 ≤ z ∧ z ≤ 99) (hb : lo ≤ z ∧ z ≤ hi) : numAt ws i lo hi = some z := by
  unfold numAt
  rw [h]
  dsimp only
  rw [snum_num h0]
  dsimp only
  rw [if_pos hb]
theorem sud : sUp = [117, 112] ∧ sDown = [100, 111, 119, 110] := by decide +kernel
theorem gw_gwd (b : Bool) : gw (gwd b) = some b := by cases b <;> decide +kernel
theorem gw_num {z : Int} (h : 0 ≤ z ∧ z ≤ 99) : gw (numT z) = none := by
  obtain ⟨n, n9, rfl⟩ : ∃ n : Nat, n ≤ 99 ∧ z = (n : Int) := ⟨z.toNat, by omega, by omega⟩
  obtain ⟨e1, e2⟩ := sud
  unfold gw
  rw [e1, e2]
  rcases num_cases n9 with ⟨h1, e⟩ | ⟨h1, e⟩
  · rw [e, if_neg (by simp), if_neg (by simp)]
  · rw [e, if_neg (by simp; omega), if_neg (by simp)]
theorem wdne : sEnd ≠ sPo ∧ sCh ≠ sPo ∧ sCh ≠ sEnd ∧ sPo ≠ sEnd ∧ sPo ≠ sCh := by decide +kernel
theorem at_drop {ws t : List (List Nat)} {i : Nat} (h : ws.drop i = t) (j : Nat) : ws[i + j]? = t[j]? := by rw [← h, List.getElem?_drop]
theorem place_read {ws rest : List (List Nat)} {i : Nat} {p : Pl} {ps : List Pl} (h : ws.drop i = plW p ++ rest) (cb : canBe ps (plwd p) = true) (ok : p.ok) (nx : ∀ b d r, p = .po b d r none → ∃ g, rest[0]? = some (gwd g)) : placeAt ws i ps = .ok (p, i + (plW p).length) := by
  obtain ⟨n1, n2, n3, n4, n5⟩ := wdne
  have a := at_drop h
  have a0 : ws[i]? = some (plwd p) := by have := a 0; simpa [plW] using this
  unfold placeAt
  rw [a0]
  dsimp only
  rw [if_pos cb]
  cases p with
  | en =>
    show (if sEnd = sPo then _ else _) = _
    rw [if_neg n1]
    show Except.ok (if sEnd = sEnd then _ else _, _) = _
    rw [if_pos rfl]; rfl
  | ch =>
    show (if sCh = sPo then _ else _) = _
    rw [if_neg n2]
    show Except.ok (if sCh = sEnd then _ else _, _) = _
    rw [if_neg n3]; rfl
  | po b d r p =>
    obtain ⟨h1, h2, h3, h4, h5, h6, h7⟩ := ok
    show (if sPo = sPo then _ else _) = _
    rw [if_pos rfl]
    have b1 : ws[i + 1]? = some (numT b) := by rw [a 1]; rfl
    have b2 : ws[i + 1 + 1]? = some (numT d) := by rw [Nat.add_assoc, a 2]; rfl
    have b3 : ws[i + 1 + 2]? = some (numT r) := by rw [Nat.add_assoc, a 3]; rfl
    unfold poundAt
    rw [numAt_num b1 (by omega) ⟨h1, h2⟩]
    dsimp only
    rw [numAt_num b2 (by omega) ⟨h3, h4⟩]
    dsimp only
    rw [numAt_num b3 (by omega) ⟨h5, h6⟩]
    dsimp only
    cases p with
    | none =>
      obtain ⟨g, hg⟩ := nx b d r rfl
      have b4 : ws[i + 1 + 3]? = some (gwd g) := by
        rw [Nat.add_assoc, a 4]
        simpa [plW, plrest, opI?, partY, List.filterMap_cons] using hg
      rw [b4]
      dsimp only
      rw [if_pos (by rw [gw_gwd]; rfl)]
      simp [plW, plrest, opI?, partY, List.filterMap_cons]
    | some z =>
      have hz := h7 z rfl
      have b4 : ws[i + 1 + 3]? = some (numT z) := by rw [Nat.add_assoc, a 4]; rfl
      rw [b4]
      dsimp only
      rw [if_neg (by rw [gw_num hz]; simp), numAt_num b4 hz ⟨hz.1, hz.2⟩]
      simp [plW, plrest, opI?, partY, List.filterMap_cons]
/-- what stands where in a canal -/
theorem can_at {m : Nat} {ps : List Pl} {gs : List Bool} (hc : CanOk m ps gs) (hm : m ≤ 11) : 3 ≤ ps.length ∧ ps.length ≤ 13 ∧ ps[0]? = some .en ∧ ps[ps.length - 1]? = some .en ∧ ∀ i, 0 < i → i + 1 < ps.length → ps[i]? ≠ some .en := by
  obtain ⟨mid, e, l1, l2, ne⟩ := hc.shape
  subst e
  refine ⟨by simp; omega, by simp; omega, by simp, ?_, fun i h0 h1 h => ?_⟩
  · have : (.en :: mid ++ [Pl.en]).length - 1 = (Pl.en :: mid).length := by simp
    rw [this, List.getElem?_append_right (Nat.le_refl _)]
    simp
  · simp only [List.length_append, List.length_cons, List.length_nil] at h1
    rw [List.getElem?_append_left (by simp; omega)] at h
    obtain ⟨j, rfl⟩ : ∃ j, i = j + 1 := ⟨i - 1, by omega⟩
    rw [List.getElem?_cons_succ] at h
    exact ne _ (List.mem_of_getElem? h) rfl
theorem can_next {ps : List Pl} {gs : List Bool} (hc : CanOk 11 ps gs) {d r : List Pl} {p : Pl} (e : ps = d ++ p :: r) (hd : d ≠ []) : canBe d (plwd p) = true ∧ (d.length = 1 ∨ lastEn d = false) := by
  obtain ⟨l3, l13, a0, az, am⟩ := can_at hc (Nat.le_refl _)
  obtain ⟨n1, n2, n3, n4, n5⟩ := wdne
  obtain ⟨xs, b, eb⟩ : ∃ xs b, d = xs ++ [b] := by
    rcases List.eq_nil_or_concat d with e | ⟨xs, b, e⟩
    · exact absurd e hd
    · exact ⟨xs, b, by rw [e, List.concat_eq_append]⟩
  have hl : ps.length = d.length + 1 + r.length := by rw [e]; simp; omega
  have ld : d.length = xs.length + 1 := by rw [eb]; simp
  have ap : ps[d.length]? = some p := by rw [e, List.getElem?_append_right (Nat.le_refl _)]; simp
  have ab : ps[xs.length]? = some b := by
    rw [e, eb, List.getElem?_append_left (by simp), List.getElem?_append_right (Nat.le_refl _)]; simp
  have alt := hc.alt xs.length b p ab (by rw [← ld]; exact ap)
  have lch : lastCh d = b.isCh := by rw [eb]; exact lastCh_snoc xs b
  have nl : p ≠ .en → d.length + 1 < ps.length := fun ne => by
    by_cases c : d.length + 1 < ps.length
    · exact c
    · rw [show ps.length - 1 = d.length from by omega, ap] at az
      cases az; exact absurd rfl ne
  refine ⟨?_, ?_⟩
  · unfold canBe
    rw [if_neg hd, lch]
    cases p with
    | en =>
      show (if sEnd = sEnd then _ else _) = true
      rw [if_pos rfl]
      have eb2 : b = .ch := by rcases alt with h | h
                               · exact h
                               · cases h
      have two : 2 ≤ d.length := by
        by_cases c : 1 ≤ xs.length
        · omega
        · have : xs.length = 0 := by omega
          rw [this, a0] at ab
          cases ab; cases eb2
      rw [eb2, decide_eq_true two]; rfl
    | ch =>
      have := nl (by simp)
      show (if sCh = sEnd then _ else if sCh = sPo then _ else _) = true
      rw [if_neg n3, if_neg n2, decide_eq_true (show plwd Pl.ch = sCh from rfl), decide_eq_true (show d.length + 1 < 13 by omega)]; rfl
    | po x y z w =>
      have h1 := nl (by simp)
      show (if sPo = sEnd then _ else if sPo = sPo then _ else _) = true
      rw [if_neg n4, if_pos rfl]
      have eb2 : b = .ch := by rcases alt with h | h
                               · exact h
                               · cases h
      have h2 : d.length + 2 < 13 := by
        obtain ⟨q, hq⟩ : ∃ q, ps[d.length + 1]? = some q := ⟨_, List.getElem?_eq_getElem h1⟩
        have al2 := hc.alt d.length _ q ap hq
        have eq2 : q = .ch := by rcases al2 with h | h
                                 · cases h
                                 · exact h
        by_cases c : d.length + 2 < ps.length
        · omega
        · rw [show ps.length - 1 = d.length + 1 from by omega, hq, eq2] at az
          cases az
      rw [eb2, decide_eq_true h2]; rfl
  · rw [eb, lastEn_snoc]
    by_cases c : xs.length = 0
    · exact .inl (by simp [c])
    · refine .inr ?_
      have := am xs.length (by omega) (by omega)
      rw [ab] at this
      cases b with
      | en => exact absurd rfl this
      | ch => rfl
      | po _ _ _ _ => rfl
theorem loop_read {ps : List Pl} {gs : List Bool} (hc : CanOk 11 ps gs) : ∀ (rp : List Pl) (rg : List Bool) (d : List Pl) (dg : List Bool) (k : Nat), ps = d ++ rp → gs = dg ++ rg → d ≠ [] → rg.length = rp.length → rp.length ≤ k → rdLoop (cW ps gs) k (cW d dg).length d dg = .ok (ps, gs, (cW ps gs).length)
  | [], [], d, dg, k, ep, eg, hd, _, _ => by
    rw [List.append_nil] at ep eg
    subst ep eg
    obtain ⟨l3, l13, a0, az, am⟩ := can_at hc (Nat.le_refl _)
    have le : lastEn ps = true := by
      unfold lastEn
      rw [List.getLast?_eq_getElem?, az]
    cases k with
    | zero => rfl
    | succ k =>
      unfold rdLoop
      rw [if_neg (by rw [le]; simp; omega)]
  | p :: rp, g :: rg, d, dg, k, ep, eg, hd, hl, hk => by
    obtain ⟨k, rfl⟩ : ∃ k', k = k' + 1 := ⟨k - 1, by simp at hk; omega⟩
    obtain ⟨cb, cl⟩ := can_next hc ep hd
    have lg := hc.len
    have ldg : dg.length + 1 = d.length := by
      rw [ep, eg] at lg
      simp at lg hl
      omega
    have ew : cW ps gs = cW d dg ++ (gwd g :: (plW p ++ gpW rg rp)) := by rw [ep, eg, cW_split _ _ ldg]; rfl
    have dr : (cW ps gs).drop (cW d dg).length = gwd g :: (plW p ++ gpW rg rp) := by rw [ew, List.drop_left]
    have dr1 : (cW ps gs).drop ((cW d dg).length + 1) = plW p ++ gpW rg rp := by rw [← List.drop_drop, dr]; rfl
    have hg : gateAt (cW ps gs) (cW d dg).length = some g := by
      have := at_drop dr 0
      unfold gateAt
      rw [Nat.add_zero] at this
      rw [this]
      exact gw_gwd g
    have pok : p.ok := hc.ok p (by rw [ep]; simp)
    have hp : placeAt (cW ps gs) ((cW d dg).length + 1) d = .ok (p, (cW d dg).length + 1 + (plW p).length) := by
      refine place_read dr1 cb pok fun b y r epo => ?_
      cases rp with
      | nil =>
        obtain ⟨l3, l13, a0, az, am⟩ := can_at hc (Nat.le_refl _)
        have : ps.length - 1 = d.length := by rw [ep]; simp
        rw [this, ep, List.getElem?_append_right (Nat.le_refl _)] at az
        simp [epo] at az
      | cons q rp =>
        cases rg with
        | nil => simp at hl
        | cons g2 rg => exact ⟨g2, rfl⟩
    unfold rdLoop
    rw [if_pos cl, hg]
    dsimp only
    rw [hp]
    dsimp only
    have := loop_read hc rp rg (d ++ [p]) (dg ++ [g]) k (by rw [ep]; simp) (by rw [eg]; simp) (by simp) (by simpa using hl) (by simp at hk; omega)
    rw [cW_snoc g p ldg] at this
    rw [show (cW d dg ++ gwd g :: plW p).length = (cW d dg).length + 1 + (plW p).length from by simp; omega] at this
    exact this
  | [], _ :: _, _, _, _, _, _, _, h, _ => by simp at h
  | _ :: _, [], _, _, _, _, _, _, h, _ => by simp at h
theorem read_all {ps : List Pl} {gs : List Bool} (hc : CanOk 11 ps gs) : rdAll (cW ps gs) = .ok (ps, gs) := by
  obtain ⟨l3, l13, a0, az, am⟩ := can_at hc (Nat.le_refl _)
  have lg := hc.len
  cases ps with
  | nil => simp at l3
  | cons p rp =>
    have ep : p = .en := by simpa using a0
    have hp : placeAt (cW (p :: rp) gs) 0 [] = .ok (p, 0 + (plW p).length) := by
      refine place_read (rest := gpW gs rp) rfl ?_ (hc.ok p (by simp)) fun b d r e => by rw [ep] at e; cases e
      rw [ep]; decide +kernel
    unfold rdAll
    rw [hp]
    dsimp only
    have l := loop_read hc rp gs [p] [] 13 rfl rfl (by simp) (by simpa using lg) (by simp at l13; omega)
    rw [cW_one] at l
    rw [Nat.zero_add, l]
    dsimp only
    rw [if_neg (by omega)]

theorem gd_pl {m : Sto} {k : Nat} {p : Pl} (ok : p.ok) : GD m (k + 1) 513 p.v := by
  have st : ∀ {s : List Nat}, s = sEnd ∨ s = sCh ∨ s = sPo → GD m k 100 (.str s) := fun e => by
    rcases e with rfl | rfl | rfl
    · exact gd_str ok_end (by decide +kernel)
    · exact gd_str ok_ch (by decide +kernel)
    · exact gd_str ok_po (by decide +kernel)
  cases p with
  | en => exact gd_tup (n := 5) (w := 100) (fun u hu => by simp at hu; subst hu; exact st (.inl rfl)) (by simp)
  | ch => exact gd_tup (n := 5) (w := 100) (fun u hu => by simp at hu; subst hu; exact st (.inr (.inl rfl))) (by simp)
  | po b d r p =>
    obtain ⟨o1, o2, o3, o4, o5, o6, o7⟩ := ok
    refine gd_tup (n := 5) (w := 100) (fun u hu => ?_) (by simp)
    simp at hu
    rcases hu with rfl | rfl | rfl | rfl | rfl
    · exact st (.inr (.inr rfl))
    · exact gd_int (by omega)
    · exact gd_int (by omega)
    · exact gd_int (by omega)
    · cases p with
      | none => exact gd_non
      | some z => exact gd_int (by have := o7 z rfl; omega)
theorem gd_gv {m : Sto} {k : Nat} (b : Bool) : GD m k 100 (gv b) := by
  cases b
  · exact gd_str ok_down (by decide +kernel)
  · exact gd_str ok_up (by decide +kernel)
theorem gd_canK {m : Sto} {k : Nat} {ps : List Pl} {gs : List Bool} (h : CanOk 11 ps gs) : GD m (k + 3) 13403 (.tup [.tup (ps.map Pl.v), .tup (gs.map gv)]) := by
  have lps : ps.length ≤ 13 := by obtain ⟨mid, ePs, m1, m2, m3⟩ := h.shape; rw [ePs]; simp; omega
  have hl := h.len
  have g1 : GD m (k + 2) 6698 (.tup (ps.map Pl.v)) := gd_tup (n := 13) (w := 513) (fun u hu => by
    obtain ⟨p, hp, rfl⟩ := List.mem_map.mp hu
    exact gd_pl (h.ok p hp)) (by simpa using lps)
  have g2 : GD m (k + 2) 6698 (.tup (gs.map gv)) := (gd_tup (k := k + 1) (n := 13) (w := 100) (fun u hu => by
    obtain ⟨p, hp, rfl⟩ := List.mem_map.mp hu
    exact gd_gv p) (by simp; omega)).mono (by decide)
  exact (gd_tup (k := k + 2) (n := 2) (w := 6698) (fun u hu => by
    simp at hu
    rcases hu with rfl | rfl
    · exact g1
    · exact g2) (by simp)).mono (by decide)
theorem gd_rowK {m : Sto} {k : Nat} {X : List Int} (h : X.length ≤ 50) (b : ∀ x ∈ X, x.natAbs ≤ 1000) : GD m (k + 1) 50103 (.tup (X.map PV.int)) := gd_tup (w := 1000) (n := 50) (fun u hu => by
  obtain ⟨x, hx, rfl⟩ := List.mem_map.mp hu
  exact gd_small (Nat.le_trans (b x hx) (by decide))) (by simpa using h)
theorem gd_row3 {m : Sto} {k : Nat} {L R F : List Int} (l1 : L.length ≤ 50) (l2 : R.length ≤ 50) (l3 : F.length ≤ 50) (b1 : ∀ x ∈ L, x.natAbs ≤ 1000) (b2 : ∀ x ∈ R, x.natAbs ≤ 1000) (b3 : ∀ x ∈ F, x.natAbs ≤ 1000) :
    GD m (k + 2) 200423 (.tup [.tup (L.map PV.int), .tup (R.map PV.int), .tup (F.map PV.int)]) := by
  refine (gd_tup (k := k + 1) (w := 50103) (n := 4) (fun u hu => ?_) (by simp)).mono (by decide)
  simp at hu
  rcases hu with rfl | rfl | rfl
  · exact gd_rowK l1 b1
  · exact gd_rowK l2 b2
  · exact gd_rowK l3 b3
theorem bd_abs {X : List Int} (h : ∀ x ∈ X, 0 ≤ x ∧ x ≤ 100) : ∀ x ∈ X, x.natAbs ≤ 100 := fun x hx => by have := h x hx; omega

/-! ### the words, walked -/
theorem isnot_int (z : Int) (m : Sto) : opC .IsNot (.int z) .non m = some true := rfl
theorem isnot_non (m : Sto) : opC .IsNot .non .non m = some false := rfl
theorem isnot_str (s : List Nat) (m : Sto) : opC .IsNot (.str s) .non m = some true := rfl
theorem gv_gwd (b : Bool) : gv b = .str (gwd b) := rfl
section
variable {M : Sto} {Q : PV → Sto → Prop} {E : Xp}
theorem spec_place_words {p : Pl} (ok : p.ok) (h : ∀ M' q, Kept [] M M' → M.length ≤ q → M'[q]? = some (.lst ((plW p).map PV.str)) → Q (.loc q) M') : pwX E (R_place_words [p.v] M) Q := by
  have sl : ∀ m : Sto, opS p.v (some (1 : Int)) none m = some (.tup (plrest p), m) := fun m => by
    rw [pl_v]
    show some (PV.tup (cut _ (some ((1 : Nat) : Int)) none), m) = _
    rw [cut_dropN]; rfl
  have nm : ∀ m : Sto, opI p.v (.int 0) m = some (.str (plwd p), m) := fun m => by cases p <;> rfl
  rw [run_place_words]; unfold B_place_words
  simp only [↓rowD, rowU, ↓e_and, ↓e_or, Option.map_some, decide_eq_true_eq, Bool.not_eq_true', decide_eq_false_iff_not, List.map_cons, List.map_nil, List.set_cons_zero, List.set_cons_succ, List.getElem?_cons_zero, List.getElem?_cons_succ, List.cons_append, List.nil_append, List.length_cons, List.length_nil, Nat.reduceAdd, Nat.reduceSub, true_and, and_true, if_true, if_false, eq_self, Bool.false_eq_true, Bool.not_true, Bool.not_false, MulP, DivP, or_true, true_or, Int.reduceLT, Int.reduceLE, Int.reduceNeg, Int.reducePow, Int.reduceToNat, Int.cast_ofNat_Int, Int.natCast_zero, Int.natCast_one, Int.reduceEq, Bool.true_eq_false, not_true_eq_false, not_false_eq_true, eqsA, lit_le, Nat.reduceLeDiff, nm, sl]
  have g0 : (M ++ [PObj.lst [PV.str (plwd p)]])[M.length]? = some (.lst [PV.str (plwd p)]) := get_new
  have k0 : Kept [] M (M ++ [PObj.lst [PV.str (plwd p)]]) := Kept.app
  generalize M ++ [PObj.lst [PV.str (plwd p)]] = M1 at g0 k0 ⊢
  refine pw_lcF ((plrest p).map fun x => (partY x).map PV.str) (by simp) (by cases p <;> simp [plrest]) (fun i m o ho kp => ?_) (fun m kp gq => ?_)
  · rw [List.getElem?_map] at ho
    obtain ⟨x, hx, rfl⟩ := Option.map_eq_some_iff.mp ho
    refine ⟨x, _, by rw [hx], rfl, ?_⟩
    rcases rest_Y ok x (List.mem_of_getElem? hx) with rfl | ⟨z, rfl, hz⟩
    · simp only [↓rowD, rowU, ↓e_and, ↓e_or, Option.map_some, decide_eq_true_eq, Bool.not_eq_true', decide_eq_false_iff_not, List.map_cons, List.map_nil, List.set_cons_zero, List.set_cons_succ, List.getElem?_cons_zero, List.getElem?_cons_succ, List.cons_append, List.nil_append, List.length_cons, List.length_nil, Nat.reduceAdd, Nat.reduceSub, true_and, and_true, if_true, if_false, eq_self, Bool.false_eq_true, Bool.not_true, Bool.not_false, MulP, DivP, or_true, true_or, Int.reduceLT, Int.reduceLE, Int.reduceNeg, Int.reducePow, Int.reduceToNat, Int.cast_ofNat_Int, Int.natCast_zero, Int.natCast_one, Int.reduceEq, Bool.true_eq_false, not_true_eq_false, not_false_eq_true, eqsA, lit_le, Nat.reduceLeDiff, wipeP, pwR_nox, isnot_non]
      exact .refl
    · simp only [↓rowD, rowU, ↓e_and, ↓e_or, Option.map_some, decide_eq_true_eq, Bool.not_eq_true', decide_eq_false_iff_not, List.map_cons, List.map_nil, List.set_cons_zero, List.set_cons_succ, List.getElem?_cons_zero, List.getElem?_cons_succ, List.cons_append, List.nil_append, List.length_cons, List.length_nil, Nat.reduceAdd, Nat.reduceSub, true_and, and_true, if_true, if_false, eq_self, Bool.false_eq_true, Bool.not_true, Bool.not_false, MulP, DivP, or_true, true_or, Int.reduceLT, Int.reduceLE, Int.reduceNeg, Int.reducePow, Int.reduceToNat, Int.cast_ofNat_Int, Int.natCast_zero, Int.natCast_one, Int.reduceEq, Bool.true_eq_false, not_true_eq_false, not_false_eq_true, eqsA, lit_le, Nat.reduceLeDiff, wipeP, pwR_nox, isnot_int, str_int (show z.natAbs < 10 ^ 70 by omega)]
      exact ⟨rfl, .refl⟩
  · refine ⟨by simp, ?_⟩
    obtain ⟨c, M2, e, k2, gc, lc⟩ := add_ex (kp.obj g0 (by simp)) gq (by rw [fm_id, List.length_map]; have := plW_len p; simp only [plW, List.length_cons] at this ⊢; unfold LINE; simp; omega)
    simp only [↓rowD, rowU, ↓e_and, ↓e_or, Option.map_some, decide_eq_true_eq, Bool.not_eq_true', decide_eq_false_iff_not, List.map_cons, List.map_nil, List.set_cons_zero, List.set_cons_succ, List.getElem?_cons_zero, List.getElem?_cons_succ, List.cons_append, List.nil_append, List.length_cons, List.length_nil, Nat.reduceAdd, Nat.reduceSub, true_and, and_true, if_true, if_false, eq_self, Bool.false_eq_true, Bool.not_true, Bool.not_false, MulP, DivP, or_true, true_or, Int.reduceLT, Int.reduceLE, Int.reduceNeg, Int.reducePow, Int.reduceToNat, Int.cast_ofNat_Int, Int.natCast_zero, Int.natCast_one, Int.reduceEq, Bool.true_eq_false, not_true_eq_false, not_false_eq_true, eqsA, lit_le, Nat.reduceLeDiff, e, pw_of]
    have := k0.len
    have := kp.len
    refine h M2 c ((k0.trans kp).trans k2) (by omega) ?_
    rw [gc, fm_id]; rfl
end
section
variable {M : Sto} {Q : PV → Sto → Prop} {E : Xp}
theorem spec_canal_text {ps : List Pl} {gs : List Bool} (ok : ∀ p ∈ ps, p.ok) (lg : gs.length + 1 = ps.length) (l13 : ps.length ≤ 13) (h : ∀ M', Kept [] M M' → Q (.str (joinS (cW ps gs))) M') : pwX E (R_canal_text [.tup [.tup (ps.map Pl.v), .tup (gs.map gv)]] M) Q := by
  obtain ⟨p0, rp, rfl⟩ : ∃ p rp, ps = p :: rp := by cases ps with | nil => simp at lg | cons p rp => exact ⟨p, rp, rfl⟩
  have lg : gs.length = rp.length := by simpa using lg
  have c0 : ∀ m : Sto, opI (.tup [.tup ((p0 :: rp).map Pl.v), .tup (gs.map gv)]) (.int 0) m = some (.tup ((p0 :: rp).map Pl.v), m) := fun m => rfl
  have c1 : ∀ m : Sto, opI (.tup [.tup ((p0 :: rp).map Pl.v), .tup (gs.map gv)]) (.int 1) m = some (.tup (gs.map gv), m) := fun m => rfl
  have f0 : ∀ m : Sto, opI (.tup ((p0 :: rp).map Pl.v)) (.int 0) m = some (p0.v, m) := fun m => by
    have e : atI ((p0 :: rp).map Pl.v) ((0 : Nat) : Int) = some p0.v := SW.atI_nat rfl
    show (atI ((p0 :: rp).map Pl.v) ((0 : Nat) : Int)).map _ = _
    rw [e]; rfl
  have sl : ∀ m : Sto, opS (.tup (p0.v :: rp.map Pl.v)) (some (1 : Int)) none m = some (.tup (rp.map Pl.v), m) := fun m => by
    show some (PV.tup (cut _ (some ((1 : Nat) : Int)) none), m) = _
    rw [cut_dropN]; rfl
  rw [run_canal_text]; unfold B_canal_text
  simp only [↓rowD, rowU, ↓e_and, ↓e_or, Option.map_some, decide_eq_true_eq, Bool.not_eq_true', decide_eq_false_iff_not, List.map_cons, List.map_nil, List.set_cons_zero, List.set_cons_succ, List.getElem?_cons_zero, List.getElem?_cons_succ, List.cons_append, List.nil_append, List.length_cons, List.length_nil, Nat.reduceAdd, Nat.reduceSub, true_and, and_true, if_true, if_false, eq_self, Bool.false_eq_true, Bool.not_true, Bool.not_false, MulP, DivP, or_true, true_or, Int.reduceLT, Int.reduceLE, Int.reduceNeg, Int.reducePow, Int.reduceToNat, Int.cast_ofNat_Int, Int.natCast_zero, Int.natCast_one, Int.reduceEq, Bool.true_eq_false, not_true_eq_false, not_false_eq_true, ↓c_canal_text_place_words, eqsA, lit_le, Nat.reduceLeDiff, c0, f0]
  refine spec_place_words (ok p0 (by simp)) fun M1 q k1 lq gq => ?_
  simp only [↓rowD, rowU, ↓e_and, ↓e_or, Option.map_some, decide_eq_true_eq, Bool.not_eq_true', decide_eq_false_iff_not, List.map_cons, List.map_nil, List.set_cons_zero, List.set_cons_succ, List.getElem?_cons_zero, List.getElem?_cons_succ, List.cons_append, List.nil_append, List.length_cons, List.length_nil, Nat.reduceAdd, Nat.reduceSub, true_and, and_true, if_true, if_false, eq_self, Bool.false_eq_true, Bool.not_true, Bool.not_false, MulP, DivP, or_true, true_or, Int.reduceLT, Int.reduceLE, Int.reduceNeg, Int.reducePow, Int.reduceToNat, Int.cast_ofNat_Int, Int.natCast_zero, Int.natCast_one, Int.reduceEq, Bool.true_eq_false, not_true_eq_false, not_false_eq_true, ↓c_canal_text_place_words, eqsA, lit_le, Nat.reduceLeDiff, c0, c1, sl, zipW_tup]
  refine pw_for (fun i T m => ∃ (w : Nat) (v2 v3 : Option PV), T = [some (.tup [.tup (p0.v :: rp.map Pl.v), .tup (gs.map gv)]), some (.loc w), v2, v3] ∧ Kept [] M m ∧ m[w]? = some (.lst ((cW (p0 :: rp.take i) (gs.take i)).map PV.str))) ?_ ?_ ?_
  · exact ⟨q, none, none, rfl, k1, by rw [gq]; simp [cW, gpW]⟩
  · rintro i T m hi ⟨w, v2, v3, rfl, kp, gw⟩
    have hi : i < rp.length := by simp at hi; omega
    obtain ⟨p, hp⟩ : ∃ p, rp[i]? = some p := ⟨_, List.getElem?_eq_getElem hi⟩
    obtain ⟨g, hg⟩ : ∃ g, gs[i]? = some g := ⟨_, List.getElem?_eq_getElem (by omega)⟩
    have hpm := List.mem_of_getElem? hp
    refine ⟨.tup [gv g, p.v], _, by simp only [two, List.getElem?_map, hp, hg, Option.map_some], rfl, ?_⟩
    have cl := (cW_ok (ps := p0 :: rp.take i) (gs.take i) (fun x hx => ok x (by
      rcases List.mem_cons.mp hx with e | e
      · simp [e]
      · simp [List.mem_of_mem_take e]))).2
    have cl2 : (cW (p0 :: rp.take i) (gs.take i)).length ≤ 100 := by
      have : (rp.take i).length ≤ 12 := by rw [List.length_take]; simp at l13; omega
      simp only [List.length_cons] at cl
      omega
    unfold B_canal_text_1
    simp only [↓rowD, rowU, ↓e_and, ↓e_or, Option.map_some, decide_eq_true_eq, Bool.not_eq_true', decide_eq_false_iff_not, List.map_cons, List.map_nil, List.set_cons_zero, List.set_cons_succ, List.getElem?_cons_zero, List.getElem?_cons_succ, List.cons_append, List.nil_append, List.length_cons, List.length_nil, Nat.reduceAdd, Nat.reduceSub, true_and, and_true, if_true, if_false, eq_self, Bool.false_eq_true, Bool.not_true, Bool.not_false, MulP, DivP, or_true, true_or, Int.reduceLT, Int.reduceLE, Int.reduceNeg, Int.reducePow, Int.reduceToNat, Int.cast_ofNat_Int, Int.natCast_zero, Int.natCast_one, Int.reduceEq, Bool.true_eq_false, not_true_eq_false, not_false_eq_true, ↓c_canal_text_place_words, eqsA, lit_le, Nat.reduceLeDiff]
    obtain ⟨c, M2, e, k2, gc, lc⟩ := add_ex (get_app gw) (get_new (p := .lst [gv g])) (by rw [List.length_map]; unfold LINE; simp; omega)
    simp only [↓rowD, rowU, ↓e_and, ↓e_or, Option.map_some, decide_eq_true_eq, Bool.not_eq_true', decide_eq_false_iff_not, List.map_cons, List.map_nil, List.set_cons_zero, List.set_cons_succ, List.getElem?_cons_zero, List.getElem?_cons_succ, List.cons_append, List.nil_append, List.length_cons, List.length_nil, Nat.reduceAdd, Nat.reduceSub, true_and, and_true, if_true, if_false, eq_self, Bool.false_eq_true, Bool.not_true, Bool.not_false, MulP, DivP, or_true, true_or, Int.reduceLT, Int.reduceLE, Int.reduceNeg, Int.reducePow, Int.reduceToNat, Int.cast_ofNat_Int, Int.natCast_zero, Int.natCast_one, Int.reduceEq, Bool.true_eq_false, not_true_eq_false, not_false_eq_true, ↓c_canal_text_place_words, eqsA, lit_le, Nat.reduceLeDiff, e, pw_of]
    refine spec_place_words (ok p (by simp [hpm])) fun M3 q3 k3 lq3 gq3 => ?_
    have := plW_len p
    have ok3 : ∀ x ∈ p0 :: rp.take i, x.ok := fun x hx => ok x (by
      rcases List.mem_cons.mp hx with e | e
      · simp [e]
      · simp [List.mem_of_mem_take e])
    obtain ⟨c4, M4, e4, k4, gc4, lc4⟩ := add_ex (k3.obj gc (by simp)) gq3 (by simp only [List.length_append, List.length_map, List.length_cons, List.length_nil]; unfold LINE; omega)
    simp only [↓rowD, rowU, ↓e_and, ↓e_or, Option.map_some, decide_eq_true_eq, Bool.not_eq_true', decide_eq_false_iff_not, List.map_cons, List.map_nil, List.set_cons_zero, List.set_cons_succ, List.getElem?_cons_zero, List.getElem?_cons_succ, List.cons_append, List.nil_append, List.length_cons, List.length_nil, Nat.reduceAdd, Nat.reduceSub, true_and, and_true, if_true, if_false, eq_self, Bool.false_eq_true, Bool.not_true, Bool.not_false, MulP, DivP, or_true, true_or, Int.reduceLT, Int.reduceLE, Int.reduceNeg, Int.reducePow, Int.reduceToNat, Int.cast_ofNat_Int, Int.natCast_zero, Int.natCast_one, Int.reduceEq, Bool.true_eq_false, not_true_eq_false, not_false_eq_true, ↓c_canal_text_place_words, eqsA, lit_le, Nat.reduceLeDiff, e4, pw_of]
    refine ⟨c4, some (gv g), some p.v, rfl, kp.trans (Kept.app.trans (k2.trans (k3.trans k4))), ?_⟩
    rw [gc4, take_snoc hp, take_snoc hg, ← List.cons_append, cW_snoc g p (by simp [lg]), List.map_append, List.map_cons, gv_gwd]
    simp
  · rintro T m ⟨w, v2, v3, rfl, kp, gw⟩
    have e : min (gs.map gv).length (rp.map Pl.v).length = rp.length := by simp [lg]
    rw [e] at gw ⊢
    rw [List.take_length, ← lg, List.take_length] at gw
    obtain ⟨c1, c2⟩ := cW_ok gs ok
    have j := jn_parts gw (by simp at c2 l13; omega) fun t ht => by have := (c1 t ht).1; omega
    refine ⟨by simp only [two, List.getElem?_map, List.getElem?_eq_none (Nat.le_refl rp.length)]; cases (gs[rp.length]?) <;> rfl, ?_⟩
    simp only [↓rowD, rowU, ↓e_and, ↓e_or, Option.map_some, decide_eq_true_eq, Bool.not_eq_true', decide_eq_false_iff_not, List.map_cons, List.map_nil, List.set_cons_zero, List.set_cons_succ, List.getElem?_cons_zero, List.getElem?_cons_succ, List.cons_append, List.nil_append, List.length_cons, List.length_nil, Nat.reduceAdd, Nat.reduceSub, true_and, and_true, if_true, if_false, eq_self, Bool.false_eq_true, Bool.not_true, Bool.not_false, MulP, DivP, or_true, true_or, Int.reduceLT, Int.reduceLE, Int.reduceNeg, Int.reducePow, Int.reduceToNat, Int.cast_ofNat_Int, Int.natCast_zero, Int.natCast_one, Int.reduceEq, Bool.true_eq_false, not_true_eq_false, not_false_eq_true, ↓c_canal_text_place_words, eqsA, lit_le, Nat.reduceLeDiff, j]
    exact h m kp
end
section
variable {M : Sto} {Q : PV → Sto → Prop} {E : Xp}
/-- a part of a place, written by the law -/
def partZ : PV → Option (List Nat)
  | .int z => some (numT z)
  | .str s => some s
  | _ => none
theorem place_Z (p : Pl) : (PV.str (plwd p) :: plrest p).filterMap partZ = plW p := by
  cases p with
  | en => rfl
  | ch => rfl
  | po b d r p => cases p <;> rfl
theorem gv_at {gs : List Bool} {i : Nat} {g : Bool} (h : gs[i]? = some g) (m : Sto) : opI (.tup (gs.map gv)) (.int (i : Int)) m = some (gv g, m) := by
  have e : atI (gs.map gv) (i : Int) = some (gv g) := SW.atI_nat (by rw [List.getElem?_map, h]; rfl)
  show (atI (gs.map gv) (i : Int)).map _ = _
  rw [e]; rfl
theorem spec_law_words {ps : List Pl} {gs : List Bool} (ok : ∀ p ∈ ps, p.ok) (lg : gs.length + 1 = ps.length) (l13 : ps.length ≤ 13) (h : ∀ M' q, Kept [] M M' → M.length ≤ q → M'[q]? = some (.lst ((cW ps gs).map PV.str)) → Q (.loc q) M') : pwX E (R_law_words [.tup [.tup (ps.map Pl.v), .tup (gs.map gv)]] M) Q := by
  have c0 : ∀ m : Sto, opI (.tup [.tup (ps.map Pl.v), .tup (gs.map gv)]) (.int 0) m = some (.tup (ps.map Pl.v), m) := fun m => rfl
  have c1 : ∀ m : Sto, opI (.tup [.tup (ps.map Pl.v), .tup (gs.map gv)]) (.int 1) m = some (.tup (gs.map gv), m) := fun m => rfl
  have so_far : ∀ i, (∀ x ∈ ps.take i, x.ok) ∧ (ps.take i).length ≤ 13 := fun i => ⟨fun x hx => ok x (List.mem_of_mem_take hx), by rw [List.length_take]; omega⟩
  rw [run_law_words]; unfold B_law_words
  simp only [↓rowD, rowU, ↓e_and, ↓e_or, Option.map_some, decide_eq_true_eq, Bool.not_eq_true', decide_eq_false_iff_not, List.map_cons, List.map_nil, List.set_cons_zero, List.set_cons_succ, List.getElem?_cons_zero, List.getElem?_cons_succ, List.cons_append, List.nil_append, List.length_cons, List.length_nil, Nat.reduceAdd, Nat.reduceSub, true_and, and_true, if_true, if_false, eq_self, Bool.false_eq_true, Bool.not_true, Bool.not_false, MulP, DivP, or_true, true_or, Int.reduceLT, Int.reduceLE, Int.reduceNeg, Int.reducePow, Int.reduceToNat, Int.cast_ofNat_Int, Int.natCast_zero, Int.natCast_one, Int.reduceEq, Bool.true_eq_false, not_true_eq_false, not_false_eq_true, eqsA, lit_le, Nat.reduceLeDiff, c0, enumW]
  refine pw_for (fun i T m => ∃ (w : Nat) (v2 v3 : Option PV), T = [some (.tup [.tup (ps.map Pl.v), .tup (gs.map gv)]), some (.loc w), v2, v3, none] ∧ Kept [] M m ∧ M.length ≤ w ∧ m[w]? = some (.lst ((cW (ps.take i) (gs.take (i - 1))).map PV.str))) ?_ ?_ ?_
  · exact ⟨M.length, none, none, rfl, Kept.app, Nat.le_refl _, by rw [List.take_zero]; exact get_new⟩
  · rintro i T m hi ⟨w, v2, v3, rfl, kp, lw, gw⟩
    have hi : i < ps.length := by simpa using hi
    obtain ⟨p, hp⟩ : ∃ p, ps[i]? = some p := ⟨_, List.getElem?_eq_getElem hi⟩
    have pok := ok p (List.mem_of_getElem? hp)
    have plen := plW_len p
    refine ⟨.tup [.int (i : Nat), p.v], _, by rw [List.getElem?_map, hp]; rfl, rfl, ?_⟩
    have cl := (cW_ok (gs.take (i - 1)) (so_far i).1).2
    have cl3 := (so_far i).2
    have rest : ∀ (m : Sto) (X : List (List Nat)), m[w]? = some (.lst (X.map PV.str)) → X.length ≤ 100 → Kept [] M m → X ++ plW p = cW (ps.take (i + 1)) (gs.take (i + 1 - 1)) → pwY (fun c v _ M => E c v M) (evSs G_law_words B_law_words_R1 [some (.tup [.tup (ps.map Pl.v), .tup (gs.map gv)]), some (.loc w), some (.int (i : Nat)), some p.v, none] m)
        (fun T m => ∃ (w : Nat) (v2 v3 : Option PV), T = [some (.tup [.tup (ps.map Pl.v), .tup (gs.map gv)]), some (.loc w), v2, v3, none] ∧ Kept [] M m ∧ M.length ≤ w ∧ m[w]? = some (.lst ((cW (ps.take (i + 1)) (gs.take (i + 1 - 1))).map PV.str))) Q := by
      intro m X gX lX kp eX
      have sq : ∀ m : Sto, seqW m p.v = some ⟨(PV.str (plwd p) :: plrest p).length, fun i _ => some (PV.str (plwd p) :: plrest p)[i]?⟩ := fun m => by rw [pl_v]; rfl
      rw [u_law_words_R1]; unfold B_law_words_R1d
      simp only [↓rowD, rowU, ↓e_and, ↓e_or, Option.map_some, decide_eq_true_eq, Bool.not_eq_true', decide_eq_false_iff_not, List.map_cons, List.map_nil, List.set_cons_zero, List.set_cons_succ, List.getElem?_cons_zero, List.getElem?_cons_succ, List.cons_append, List.nil_append, List.length_cons, List.length_nil, Nat.reduceAdd, Nat.reduceSub, true_and, and_true, if_true, if_false, eq_self, Bool.false_eq_true, Bool.not_true, Bool.not_false, MulP, DivP, or_true, true_or, Int.reduceLT, Int.reduceLE, Int.reduceNeg, Int.reducePow, Int.reduceToNat, Int.cast_ofNat_Int, Int.natCast_zero, Int.natCast_one, Int.reduceEq, Bool.true_eq_false, not_true_eq_false, not_false_eq_true, eqsA, lit_le, Nat.reduceLeDiff, sq]
      refine pw_lcF ((PV.str (plwd p) :: plrest p).map fun x => (partZ x).map PV.str) (by simp) (by cases p <;> simp [plrest]) (fun j m2 o ho k2 => ?_) (fun m2 k2 gq => ?_)
      · rw [List.getElem?_map] at ho
        obtain ⟨x, hx, rfl⟩ := Option.map_eq_some_iff.mp ho
        refine ⟨x, _, by rw [← hx], rfl, ?_⟩
        rcases List.mem_cons.mp (List.mem_of_getElem? hx) with rfl | hx2
        · simp only [↓rowD, rowU, ↓e_and, ↓e_or, Option.map_some, decide_eq_true_eq, Bool.not_eq_true', decide_eq_false_iff_not, List.map_cons, List.map_nil, List.set_cons_zero, List.set_cons_succ, List.getElem?_cons_zero, List.getElem?_cons_succ, List.cons_append, List.nil_append, List.length_cons, List.length_nil, Nat.reduceAdd, Nat.reduceSub, true_and, and_true, if_true, if_false, eq_self, Bool.false_eq_true, Bool.not_true, Bool.not_false, MulP, DivP, or_true, true_or, Int.reduceLT, Int.reduceLE, Int.reduceNeg, Int.reducePow, Int.reduceToNat, Int.cast_ofNat_Int, Int.natCast_zero, Int.natCast_one, Int.reduceEq, Bool.true_eq_false, not_true_eq_false, not_false_eq_true, eqsA, lit_le, Nat.reduceLeDiff, wipeP, pwR_nox, isnot_str, str_str]
          exact ⟨rfl, .refl⟩
        rcases rest_Y pok x hx2 with rfl | ⟨z, rfl, hz⟩
        · simp only [↓rowD, rowU, ↓e_and, ↓e_or, Option.map_some, decide_eq_true_eq, Bool.not_eq_true', decide_eq_false_iff_not, List.map_cons, List.map_nil, List.set_cons_zero, List.set_cons_succ, List.getElem?_cons_zero, List.getElem?_cons_succ, List.cons_append, List.nil_append, List.length_cons, List.length_nil, Nat.reduceAdd, Nat.reduceSub, true_and, and_true, if_true, if_false, eq_self, Bool.false_eq_true, Bool.not_true, Bool.not_false, MulP, DivP, or_true, true_or, Int.reduceLT, Int.reduceLE, Int.reduceNeg, Int.reducePow, Int.reduceToNat, Int.cast_ofNat_Int, Int.natCast_zero, Int.natCast_one, Int.reduceEq, Bool.true_eq_false, not_true_eq_false, not_false_eq_true, eqsA, lit_le, Nat.reduceLeDiff, wipeP, pwR_nox, isnot_non]
          exact .refl
        · simp only [↓rowD, rowU, ↓e_and, ↓e_or, Option.map_some, decide_eq_true_eq, Bool.not_eq_true', decide_eq_false_iff_not, List.map_cons, List.map_nil, List.set_cons_zero, List.set_cons_succ, List.getElem?_cons_zero, List.getElem?_cons_succ, List.cons_append, List.nil_append, List.length_cons, List.length_nil, Nat.reduceAdd, Nat.reduceSub, true_and, and_true, if_true, if_false, eq_self, Bool.false_eq_true, Bool.not_true, Bool.not_false, MulP, DivP, or_true, true_or, Int.reduceLT, Int.reduceLE, Int.reduceNeg, Int.reducePow, Int.reduceToNat, Int.cast_ofNat_Int, Int.natCast_zero, Int.natCast_one, Int.reduceEq, Bool.true_eq_false, not_true_eq_false, not_false_eq_true, eqsA, lit_le, Nat.reduceLeDiff, wipeP, pwR_nox, isnot_int, str_int (show z.natAbs < 10 ^ 70 by omega)]
          exact ⟨rfl, .refl⟩
      · have fm : ((PV.str (plwd p) :: plrest p).map fun x => (partZ x).map PV.str).filterMap id = (plW p).map PV.str := by
          rw [← place_Z p, List.filterMap_map, List.map_filterMap]
          rfl
        rw [fm] at gq
        refine ⟨by simp, ?_⟩
        obtain ⟨c, M3, e, k3, gc, lc⟩ := add_ex (k2.obj gX (by simp)) gq (by rw [List.length_map, List.length_map]; unfold LINE; omega)
        simp only [↓rowD, rowU, ↓e_and, ↓e_or, Option.map_some, decide_eq_true_eq, Bool.not_eq_true', decide_eq_false_iff_not, List.map_cons, List.map_nil, List.set_cons_zero, List.set_cons_succ, List.getElem?_cons_zero, List.getElem?_cons_succ, List.cons_append, List.nil_append, List.length_cons, List.length_nil, Nat.reduceAdd, Nat.reduceSub, true_and, and_true, if_true, if_false, eq_self, Bool.false_eq_true, Bool.not_true, Bool.not_false, MulP, DivP, or_true, true_or, Int.reduceLT, Int.reduceLE, Int.reduceNeg, Int.reducePow, Int.reduceToNat, Int.cast_ofNat_Int, Int.natCast_zero, Int.natCast_one, Int.reduceEq, Bool.true_eq_false, not_true_eq_false, not_false_eq_true, eqsA, lit_le, Nat.reduceLeDiff, e, pw_of]
        have := kp.len
        have := k2.len
        refine ⟨c, _, _, rfl, kp.trans (k2.trans k3), by omega, ?_⟩
        rw [gc, ← eX, List.map_append]
    unfold B_law_words_1
    simp only [↓rowD, rowU, ↓e_and, ↓e_or, Option.map_some, decide_eq_true_eq, Bool.not_eq_true', decide_eq_false_iff_not, List.map_cons, List.map_nil, List.set_cons_zero, List.set_cons_succ, List.getElem?_cons_zero, List.getElem?_cons_succ, List.cons_append, List.nil_append, List.length_cons, List.length_nil, Nat.reduceAdd, Nat.reduceSub, true_and, and_true, if_true, if_false, eq_self, Bool.false_eq_true, Bool.not_true, Bool.not_false, MulP, DivP, or_true, true_or, Int.reduceLT, Int.reduceLE, Int.reduceNeg, Int.reducePow, Int.reduceToNat, Int.cast_ofNat_Int, Int.natCast_zero, Int.natCast_one, Int.reduceEq, Bool.true_eq_false, not_true_eq_false, not_false_eq_true, eqsA, lit_le, Nat.reduceLeDiff]
    cases i with
    | zero =>
      rw [if_neg (by omega)]
      refine rest m [] (by simpa [cW] using gw) (by simp) kp ?_
      rw [take_snoc hp]
      simp [cW, gpW]
    | succ j =>
      obtain ⟨g, hg⟩ : ∃ g, gs[j]? = some g := ⟨_, List.getElem?_eq_getElem (by omega)⟩
      have ix := gv_at hg
      rw [if_pos (by omega)]
      have ij : ((j + 1 : Nat) : Int) - 1 = (j : Int) := by omega
      have ap := app_loc (v := gv g) gw (by rw [List.length_map]; unfold LINE; omega)
      simp only [↓rowD, rowU, ↓e_and, ↓e_or, Option.map_some, decide_eq_true_eq, Bool.not_eq_true', decide_eq_false_iff_not, List.map_cons, List.map_nil, List.set_cons_zero, List.set_cons_succ, List.getElem?_cons_zero, List.getElem?_cons_succ, List.cons_append, List.nil_append, List.length_cons, List.length_nil, Nat.reduceAdd, Nat.reduceSub, true_and, and_true, if_true, if_false, eq_self, Bool.false_eq_true, Bool.not_true, Bool.not_false, MulP, DivP, or_true, true_or, Int.reduceLT, Int.reduceLE, Int.reduceNeg, Int.reducePow, Int.reduceToNat, Int.cast_ofNat_Int, Int.natCast_zero, Int.natCast_one, Int.reduceEq, Bool.true_eq_false, not_true_eq_false, not_false_eq_true, eqsA, lit_le, Nat.reduceLeDiff, c1, ij, ix, lst_of gw, ap]
      have lwm := lt_of_get gw
      refine rest _ (cW (ps.take (j + 1)) (gs.take (j + 1 - 1)) ++ [gwd g]) ?_ (by rw [List.length_append]; simp only [List.length_cons, List.length_nil]; omega) (((kp.mono (by simp)).trans (Kept.set (S := [w]) (by simp))).drop fun z hz => .inr (by simp at hz; omega)) ?_
      · rw [get_set gw, List.map_append, gv_gwd]; rfl
      · simp only [Nat.add_sub_cancel]
        rw [take_snoc hp, take_snoc hg, cW_snoc g p (by simp; omega)]
        simp
  · rintro T m ⟨w, v2, v3, rfl, kp, lw, gw⟩
    refine ⟨by simp, ?_⟩
    rw [List.length_map, List.take_length, List.take_of_length_le (by omega)] at gw
    simp only [↓rowD, rowU, ↓e_and, ↓e_or, Option.map_some, decide_eq_true_eq, Bool.not_eq_true', decide_eq_false_iff_not, List.map_cons, List.map_nil, List.set_cons_zero, List.set_cons_succ, List.getElem?_cons_zero, List.getElem?_cons_succ, List.cons_append, List.nil_append, List.length_cons, List.length_nil, Nat.reduceAdd, Nat.reduceSub, true_and, and_true, if_true, if_false, eq_self, Bool.false_eq_true, Bool.not_true, Bool.not_false, MulP, DivP, or_true, true_or, Int.reduceLT, Int.reduceLE, Int.reduceNeg, Int.reducePow, Int.reduceToNat, Int.cast_ofNat_Int, Int.natCast_zero, Int.natCast_one, Int.reduceEq, Bool.true_eq_false, not_true_eq_false, not_false_eq_true, eqsA, lit_le, Nat.reduceLeDiff]
    exact h m w kp lw gw
end

theorem sim0 : ∀ ns : List Int, ns.length ≤ 63 → ∃ M, R_law [.loc 0] [.frz (ns.map PV.int)] = .ok (.bl true) M := by
  intro ns hn
  have tS : ∀ (s : List Nat) (m : Sto), isTy m .str (.str s) = some true := fun s m => rfl
  have ens : ∀ (s : List Nat) (m : Sto), opC .NotEq (.str s) (.str s) m = some false := fun s m => by rw [opC_neS, opC_eqS]; simp
  have key : pwX xno (R_law [.loc 0] [.frz (ns.map PV.int)]) fun x _ => x = .bl true := by
    rw [run_law]; unfold B_law
    simp only [↓rowD, rowU, ↓e_and, ↓e_or, Option.map_some, decide_eq_true_eq, Bool.not_eq_true', decide_eq_false_iff_not, List.map_cons, List.map_nil, List.set_cons_zero, List.set_cons_succ, List.getElem?_cons_zero, List.getElem?_cons_succ, List.cons_append, List.nil_append, List.length_cons, List.length_nil, Nat.reduceAdd, Nat.reduceSub, true_and, and_true, if_true, if_false, eq_self, Bool.false_eq_true, Bool.not_true, Bool.not_false, MulP, DivP, or_true, true_or, Int.reduceLT, Int.reduceLE, Int.reduceNeg, Int.reducePow, Int.reduceToNat, Int.cast_ofNat_Int, Int.natCast_zero, Int.natCast_one, Int.reduceEq, Bool.true_eq_false, not_true_eq_false, not_false_eq_true, ↓c_law_law_tape, ↓c_law_law_canal, ↓c_law_canal_text, ↓c_law_law_words, ↓c_law_read_canal, eqsA, lit_le, Nat.reduceLeDiff]
    refine spec_tape ns hn _ fun M t c hT => ?_
    simp only [↓rowD, rowU, ↓e_and, ↓e_or, Option.map_some, decide_eq_true_eq, Bool.not_eq_true', decide_eq_false_iff_not, List.map_cons, List.map_nil, List.set_cons_zero, List.set_cons_succ, List.getElem?_cons_zero, List.getElem?_cons_succ, List.cons_append, List.nil_append, List.length_cons, List.length_nil, Nat.reduceAdd, Nat.reduceSub, true_and, and_true, if_true, if_false, eq_self, Bool.false_eq_true, Bool.not_true, Bool.not_false, MulP, DivP, or_true, true_or, Int.reduceLT, Int.reduceLE, Int.reduceNeg, Int.reducePow, Int.reduceToNat, Int.cast_ofNat_Int, Int.natCast_zero, Int.natCast_one, Int.reduceEq, Bool.true_eq_false, not_true_eq_false, not_false_eq_true, ↓c_law_law_tape, ↓c_law_law_canal, ↓c_law_canal_text, ↓c_law_law_words, ↓c_law_read_canal, eqsA, lit_le, Nat.reduceLeDiff]
    refine ⟨by decide, pw_forR (fun i T m => Tape2 m t c (200 * i) ∧ ∃ v2 v3 v4 v5 : Option PV, T = [some (.loc 0), some (.loc t), v2, v3, v4, v5]) ⟨hT.mono (by omega), _, _, _, _, rfl⟩ ?_ ?_⟩
    · rintro i T m hi ⟨hT, v2, v3, v4, v5, rfl⟩
      have hi4 : i < 4 := by omega
      unfold B_law_1
      simp only [↓rowD, rowU, ↓e_and, ↓e_or, Option.map_some, decide_eq_true_eq, Bool.not_eq_true', decide_eq_false_iff_not, List.map_cons, List.map_nil, List.set_cons_zero, List.set_cons_succ, List.getElem?_cons_zero, List.getElem?_cons_succ, List.cons_append, List.nil_append, List.length_cons, List.length_nil, Nat.reduceAdd, Nat.reduceSub, true_and, and_true, if_true, if_false, eq_self, Bool.false_eq_true, Bool.not_true, Bool.not_false, MulP, DivP, or_true, true_or, Int.reduceLT, Int.reduceLE, Int.reduceNeg, Int.reducePow, Int.reduceToNat, Int.cast_ofNat_Int, Int.natCast_zero, Int.natCast_one, Int.reduceEq, Bool.true_eq_false, not_true_eq_false, not_false_eq_true, ↓c_law_law_tape, ↓c_law_law_canal, ↓c_law_canal_text, ↓c_law_law_words, ↓c_law_read_canal, eqsA, lit_le, Nat.reduceLeDiff]
      refine spec_canal 11 (by decide) (by decide) hT (by omega) _ fun ps gs M1 hc hT1 k1 => ?_
      obtain ⟨l3, l13, a0, az, am⟩ := can_at hc (Nat.le_refl _)
      have lg := hc.len
      obtain ⟨w1, w2⟩ := cW_ok gs hc.ok
      have wn : cW ps gs ≠ [] := by
        cases ps with
        | nil => simp at l3
        | cons p ps => simp [cW, plW]
      have tl1 := hT1.lt
      simp only [↓rowD, rowU, ↓e_and, ↓e_or, Option.map_some, decide_eq_true_eq, Bool.not_eq_true', decide_eq_false_iff_not, List.map_cons, List.map_nil, List.set_cons_zero, List.set_cons_succ, List.getElem?_cons_zero, List.getElem?_cons_succ, List.cons_append, List.nil_append, List.length_cons, List.length_nil, Nat.reduceAdd, Nat.reduceSub, true_and, and_true, if_true, if_false, eq_self, Bool.false_eq_true, Bool.not_true, Bool.not_false, MulP, DivP, or_true, true_or, Int.reduceLT, Int.reduceLE, Int.reduceNeg, Int.reducePow, Int.reduceToNat, Int.cast_ofNat_Int, Int.natCast_zero, Int.natCast_one, Int.reduceEq, Bool.true_eq_false, not_true_eq_false, not_false_eq_true, ↓c_law_law_tape, ↓c_law_law_canal, ↓c_law_canal_text, ↓c_law_law_words, ↓c_law_read_canal, eqsA, lit_le, Nat.reduceLeDiff]
      refine spec_law_words hc.ok lg l13 fun M2 q k2 lq gq => ?_
      have j := jn_parts gq (by omega) fun t ht => by have := (w1 t ht).1; omega
      simp only [↓rowD, rowU, ↓e_and, ↓e_or, Option.map_some, decide_eq_true_eq, Bool.not_eq_true', decide_eq_false_iff_not, List.map_cons, List.map_nil, List.set_cons_zero, List.set_cons_succ, List.getElem?_cons_zero, List.getElem?_cons_succ, List.cons_append, List.nil_append, List.length_cons, List.length_nil, Nat.reduceAdd, Nat.reduceSub, true_and, and_true, if_true, if_false, eq_self, Bool.false_eq_true, Bool.not_true, Bool.not_false, MulP, DivP, or_true, true_or, Int.reduceLT, Int.reduceLE, Int.reduceNeg, Int.reducePow, Int.reduceToNat, Int.cast_ofNat_Int, Int.natCast_zero, Int.natCast_one, Int.reduceEq, Bool.true_eq_false, not_true_eq_false, not_false_eq_true, ↓c_law_law_tape, ↓c_law_law_canal, ↓c_law_canal_text, ↓c_law_law_words, ↓c_law_read_canal, eqsA, lit_le, Nat.reduceLeDiff, j]
      refine spec_canal_text hc.ok lg l13 fun M3 k3 => ?_
      have hT3 := (hT1.kept k2 (by simp) (by simp)).kept k3 (by simp) (by simp)
      simp only [↓rowD, rowU, ↓e_and, ↓e_or, Option.map_some, decide_eq_true_eq, Bool.not_eq_true', decide_eq_false_iff_not, List.map_cons, List.map_nil, List.set_cons_zero, List.set_cons_succ, List.getElem?_cons_zero, List.getElem?_cons_succ, List.cons_append, List.nil_append, List.length_cons, List.length_nil, Nat.reduceAdd, Nat.reduceSub, true_and, and_true, if_true, if_false, eq_self, Bool.false_eq_true, Bool.not_true, Bool.not_false, MulP, DivP, or_true, true_or, Int.reduceLT, Int.reduceLE, Int.reduceNeg, Int.reducePow, Int.reduceToNat, Int.cast_ofNat_Int, Int.natCast_zero, Int.natCast_one, Int.reduceEq, Bool.true_eq_false, not_true_eq_false, not_false_eq_true, ↓c_law_law_tape, ↓c_law_law_canal, ↓c_law_canal_text, ↓c_law_law_words, ↓c_law_read_canal, eqsA, lit_le, Nat.reduceLeDiff, tS, ens, u_law_R1, B_law_R1d]
      have rd := read_all hc
      refine spec_read_canal wn (fun w hw => (w1 w hw).2) (by omega) (fun w hw => by have := (w1 w hw).1; omega) (fun ps' gs' e M4 k4 => ?_) (fun j e => by rw [rd] at e; cases e)
      rw [rd] at e
      cases e
      obtain ⟨s, hs⟩ := repr_gd (w := 16777216) ((gd_canK (m := M4) (k := 9) hc).mono (by decide)) (by decide)
      simp only [↓rowD, rowU, ↓e_and, ↓e_or, Option.map_some, decide_eq_true_eq, Bool.not_eq_true', decide_eq_false_iff_not, List.map_cons, List.map_nil, List.set_cons_zero, List.set_cons_succ, List.getElem?_cons_zero, List.getElem?_cons_succ, List.cons_append, List.nil_append, List.length_cons, List.length_nil, Nat.reduceAdd, Nat.reduceSub, true_and, and_true, if_true, if_false, eq_self, Bool.false_eq_true, Bool.not_true, Bool.not_false, MulP, DivP, or_true, true_or, Int.reduceLT, Int.reduceLE, Int.reduceNeg, Int.reducePow, Int.reduceToNat, Int.cast_ofNat_Int, Int.natCast_zero, Int.natCast_one, Int.reduceEq, Bool.true_eq_false, not_true_eq_false, not_false_eq_true, ↓c_law_law_tape, ↓c_law_law_canal, ↓c_law_canal_text, ↓c_law_law_words, ↓c_law_read_canal, eqsA, lit_le, Nat.reduceLeDiff, hs M4 .refl, ens]
      refine spec_read_canal wn (fun w hw => (w1 w hw).2) (by omega) (fun w hw => by have := (w1 w hw).1; omega) (fun ps' gs' e M5 k5 => ?_) (fun j e => by rw [rd] at e; cases e)
      rw [rd] at e
      cases e
      simp only [↓rowD, rowU, ↓e_and, ↓e_or, Option.map_some, decide_eq_true_eq, Bool.not_eq_true', decide_eq_false_iff_not, List.map_cons, List.map_nil, List.set_cons_zero, List.set_cons_succ, List.getElem?_cons_zero, List.getElem?_cons_succ, List.cons_append, List.nil_append, List.length_cons, List.length_nil, Nat.reduceAdd, Nat.reduceSub, true_and, and_true, if_true, if_false, eq_self, Bool.false_eq_true, Bool.not_true, Bool.not_false, MulP, DivP, or_true, true_or, Int.reduceLT, Int.reduceLE, Int.reduceNeg, Int.reducePow, Int.reduceToNat, Int.cast_ofNat_Int, Int.natCast_zero, Int.natCast_one, Int.reduceEq, Bool.true_eq_false, not_true_eq_false, not_false_eq_true, ↓c_law_law_tape, ↓c_law_law_canal, ↓c_law_canal_text, ↓c_law_law_words, ↓c_law_read_canal, eqsA, lit_le, Nat.reduceLeDiff]
      refine spec_canal_text hc.ok lg l13 fun M6 k6 => ?_
      simp only [↓rowD, rowU, ↓e_and, ↓e_or, Option.map_some, decide_eq_true_eq, Bool.not_eq_true', decide_eq_false_iff_not, List.map_cons, List.map_nil, List.set_cons_zero, List.set_cons_succ, List.getElem?_cons_zero, List.getElem?_cons_succ, List.cons_append, List.nil_append, List.length_cons, List.length_nil, Nat.reduceAdd, Nat.reduceSub, true_and, and_true, if_true, if_false, eq_self, Bool.false_eq_true, Bool.not_true, Bool.not_false, MulP, DivP, or_true, true_or, Int.reduceLT, Int.reduceLE, Int.reduceNeg, Int.reducePow, Int.reduceToNat, Int.cast_ofNat_Int, Int.natCast_zero, Int.natCast_one, Int.reduceEq, Bool.true_eq_false, not_true_eq_false, not_false_eq_true, ↓c_law_law_tape, ↓c_law_law_canal, ↓c_law_canal_text, ↓c_law_law_words, ↓c_law_read_canal, eqsA, lit_le, Nat.reduceLeDiff, ens]
      exact ⟨(((hT3.kept k4 (by simp) (by simp)).kept k5 (by simp) (by simp)).kept k6 (by simp) (by simp)).mono (by omega), _, _, _, _, rfl⟩
    · rintro T m ⟨hT, v2, v3, v4, v5, rfl⟩
      simp only [↓rowD, rowU, ↓e_and, ↓e_or, Option.map_some, decide_eq_true_eq, Bool.not_eq_true', decide_eq_false_iff_not, List.map_cons, List.map_nil, List.set_cons_zero, List.set_cons_succ, List.getElem?_cons_zero, List.getElem?_cons_succ, List.cons_append, List.nil_append, List.length_cons, List.length_nil, Nat.reduceAdd, Nat.reduceSub, true_and, and_true, if_true, if_false, eq_self, Bool.false_eq_true, Bool.not_true, Bool.not_false, MulP, DivP, or_true, true_or, Int.reduceLT, Int.reduceLE, Int.reduceNeg, Int.reducePow, Int.reduceToNat, Int.cast_ofNat_Int, Int.natCast_zero, Int.natCast_one, Int.reduceEq, Bool.true_eq_false, not_true_eq_false, not_false_eq_true, ↓c_law_law_tape, ↓c_law_law_canal, ↓c_law_canal_text, ↓c_law_law_words, ↓c_law_read_canal, eqsA, lit_le, Nat.reduceLeDiff]
  obtain ⟨a, M, e, rfl⟩ := pw_get key
  exact ⟨M, e⟩


end K03

namespace K03
open PySem PySem.Spec PyProof.Rows L2 SW
theorem sim : ∀ ns : List Int, ns.length ≤ 63 → ∃ M, (F_law.fi G_law).run [.loc 0] [.frz (ns.map PV.int)] = .ok (.bl true) M := by
  have h := sim0
  unfold R_law at h
  exact h
/-! ### the head -/
abbrev R : PySem.W.OpenRow := PySem.W.OpenLaw.row PySem.Challenge.rw_summitwater_k03_canals_written_and_read
abbrev hk : PySem.W.Hook := hookP 4 fa fn ex
def ob (s : PySem.W.SharedT) : AlP := obsP 4 fa fn ex (HandSHeadRun.getT s)
theorem ob_eq (s : PySem.W.SharedT) : ob s = hk.obs s.abs := obsP_eq (HandSHeadRun.getT_eq s)
def loose : List PySem.Str := (["END", "CHAMBER", "MOST_PLACES", "MOST_BRIM", "MOST_ROOM", "MOST_PRICE", "SummitError", "NoText", "FIGURES", "place_words", "canal_text", "figures_number", "Reader", "read_canal", "_law_tape", "_law_draw", "_law_pound", "_law_canal", "_law_words"] : List PySem.Str)
theorem run (w : World) : HandSHeadRun.RunEq R (PySem.W.view R.prog [22]) hk ob 2980 loose w := by
  intro os
  kernel_rfl
end K03
open PySem PySem.W PySem.Calls PyProof.Rows
theorem PySem.Challenge.cw_summitwater_k03_canals_written_and_read_holds : PySem.Challenge.rw_summitwater_k03_canals_written_and_read.Holds := by
  w_on; o_law
  refine HandSHeadRun.head_any (r := OpenLaw.row PySem.Challenge.rw_summitwater_k03_canals_written_and_read) (q := view (OpenLaw.row PySem.Challenge.rw_summitwater_k03_canals_written_and_read).prog [22]) (H := K03.hk) (ob := K03.ob) (M := 2980) (loose := K03.loose) (d := HandSHeadRun.topDef (OpenLaw.row PySem.Challenge.rw_summitwater_k03_canals_written_and_read).prog 22) (kwd := []) K03.ob_eq
    (by kernel_rfl) (fun s => by kernel_rfl) K03.run (by kernel_rfl) (by kernel_rfl) (by kernel_rfl) (by rfl) (by first | assumption | decide +kernel) (by decide +kernel) ⟨rfl, rfl, rfl, rfl, rfl, by decide +kernel⟩ ?hw ?hc
  case hw => w_witness2
  case hc => exact SW.law_end (l := PySem.Challenge.rw_summitwater_k03_canals_written_and_read) (n := 63) (k := 8) (x := "_law_script") (G := K03.G0) rfl (by decide) (by kernel_rfl) ⟨rfl, by decide, by decide⟩ rfl rfl rfl rfl (by kernel_rfl) rfl K03.chain (fun x hx => by revert x; simp [K03.G0, K03.bn, K03.fa]) (ex := K03.ex) (fun K h => ⟨fun p hp => List.all_eq_true.mp (SW.bb h).1 p hp, SW.bb (SW.bb h).2⟩) K03.ini_all K03.ocs_ok K03.sim
