import PyProof.Rows.All
import PySem.Challenge.RW_papersat_k01_ratio_in_lowest_terms
import Wide.All
import OpenK.AllK
import Wide.FinOn
import HandS.ForMost
import HandS.ForExc
import HandS.Wide
import HandS.WideMore
import HandS.SortInts
import HandS.TupAny
import HandS.Deep
import HandS.IsInst
import HandS.SortRule
import HandS.DeepEq
import HandS.Conv
import HandS.SetFor
import HandS.Small
import KE.KSortedM
import HandS.RaiseMore
import HandS.Gcd
import HandS.More
import HandS.CallSlots
import HandS.SetKeys
import HandS.MakeKw
import HandS.Defaults
import HandS.WideBits
import HandS.ExcIs
import HandS.TryOnly
import HandS.EndBits
set_option Elab.async false
set_option linter.all false
set_option maxRecDepth 100000
set_option maxHeartbeats 4000000
set_option autoImplicit false
namespace RS
open PySem PySem.Spec PyProof.Rows L2

/-- values of the small machine: tuples are values, what may change stands in the heap at its number -/
inductive PV where
  | non | bl (b : Bool) | int (i : Int) | str (s : List Nat) | tup (xs : List PV) | tupK (xs : List PV) | ref (n : Nat)
  deriving Inhabited
mutual
def PV.beq : PV → PV → Bool
  | .non, .non => true
  | .bl a, .bl b => decide (a = b)
  | .int a, .int b => decide (a = b)
  | .str a, .str b => decide (a = b)
  | .tup a, .tup b => PV.beqs a b
  | .tupK a, .tupK b => PV.beqs a b
  | .ref a, .ref b => decide (a = b)
  | _, _ => false
def PV.beqs : List PV → List PV → Bool
  | [], [] => true
  | x :: xs, y :: ys => PV.beq x y && PV.beqs xs ys
  | _, _ => false
end
mutual
theorem PV.beq_iff : ∀ (a b : PV), PV.beq a b = true ↔ a = b
  | .non, b => by cases b <;> simp [PV.beq]
  | .bl x, b => by cases b <;> simp [PV.beq]
  | .int x, b => by cases b <;> simp [PV.beq]
  | .str x, b => by cases b <;> simp [PV.beq]
  | .ref x, b => by cases b <;> simp [PV.beq]
  | .tup x, b => by
    cases b <;> simp [PV.beq]
    exact PV.beqs_iff x _
  | .tupK x, b => by
    cases b <;> simp [PV.beq]
    exact PV.beqs_iff x _
theorem PV.beqs_iff : ∀ (a b : List PV), PV.beqs a b = true ↔ a = b
  | [], b => by cases b <;> simp [PV.beqs]
  | x :: xs, b => by
    cases b with
    | nil => simp [PV.beqs]
    | cons y ys => simp [PV.beqs, PV.beq_iff x y, PV.beqs_iff xs ys]
end
instance : DecidableEq PV := fun a b => decidable_of_iff _ (PV.beq_iff a b)
/-- a dict's pairs -/
def getP (kvs : List (PV × PV)) (k : PV) : Option PV := (kvs.find? fun kv => decide (kv.1 = k)).map (·.2)
def putP (kvs : List (PV × PV)) (k v : PV) : List (PV × PV) := if kvs.any (fun kv => decide (kv.1 = k)) then kvs.map (fun kv => if kv.1 = k then (kv.1, v) else kv) else kvs ++ [(k, v)]
def dropP (kvs : List (PV × PV)) (k : PV) : List (PV × PV) := kvs.filter fun kv => decide (kv.1 ≠ k)
/-- objects -/
inductive MO where
  | lst (xs : List PV)
  | frz (xs : List PV)
  | dK (kvs : List (PV × PV))
  | dT (kvs : List (PV × PV))
  | ins (c : Nat) (fs : List (Nat × PV))
abbrev Hm := List MO
/-- an exception: its class, its field -/
structure Ex where
  c : Nat
  x : Option (Nat × PV)
inductive R (α : Type) where
  | ok (a : α) (h : Hm) | ex (e : Ex) (h : Hm) | bad
def R.bind {α β : Type} (r : R α) (f : α → Hm → R β) : R β := match r with
  | .ok a h => f a h
  | .ex e h => .ex e h
  | .bad => .bad
@[simp] theorem R.bind_ok {α β : Type} (a : α) (h : Hm) (f : α → Hm → R β) : (R.ok a h).bind f = f a h := rfl
@[simp] theorem R.bind_ex {α β : Type} (e : Ex) (h : Hm) (f : α → Hm → R β) : (R.ex e h : R α).bind f = .ex e h := rfl
@[simp] theorem R.bind_bad {α β : Type} (f : α → Hm → R β) : (R.bad : R α).bind f = .bad := rfl
theorem R.bind_assoc {α β γ : Type} (r : R α) (f : α → Hm → R β) (g : β → Hm → R γ) : (r.bind f).bind g = r.bind fun a h => (f a h).bind g := by
  cases r <;> rfl
@[simp] theorem R.bind_ite {α β : Type} (c : Prop) [Decidable c] (a b : R α) (f : α → Hm → R β) : (if c then a else b).bind f = if c then a.bind f else b.bind f := by
  split <;> rfl

abbrev En := List (Option PV)

section
variable (K : PySem.W.Frag)
mutual
inductive VRel (ρ : List Addr) (H : Hp) : PV → V → Prop
  | non : VRel ρ H .non .non
  | bl (b : Bool) : VRel ρ H (.bl b) (.bl b)
  | int (i : Int) : VRel ρ H (.int i) (.int i)
  | str (s : List Nat) : VRel ρ H (.str s) (.str ⟨s.toArray⟩)
  | tup {a : Addr} {xs : List PV} {vs : List V} : H a = some (.tup vs) → VRels ρ H xs vs → VRel ρ H (.tup xs) (.ref a)
  | tupK {a : Addr} {xs : List PV} {vs : List V} : SqT K (fun _ => none) a vs → VRels ρ H xs vs → VRel ρ H (.tupK xs) (.ref a)
  | ref {n : Nat} {a : Addr} : ρ[n]? = some a → VRel ρ H (.ref n) (.ref a)
inductive VRels (ρ : List Addr) (H : Hp) : List PV → List V → Prop
  | nil : VRels ρ H [] []
  | cons {x : PV} {xs : List PV} {v : V} {vs : List V} : VRel ρ H x v → VRels ρ H xs vs → VRels ρ H (x :: xs) (v :: vs)
end
end

/-- the tuples stay -/
def TExt (_ : PySem.W.Frag) (H H' : Hp) : Prop := ∀ a xs, H a = some (.tup xs) → H' a = some (.tup xs)
/-- a later world -/
structure Le (K : PySem.W.Frag) (ρ : List Addr) (H : Hp) (ρ' : List Addr) (H' : Hp) : Prop where
  pre : ∀ (n : Nat) (a : Addr), ρ[n]? = some a → ρ'[n]? = some a
  tup : TExt K H H'
section
variable {K : PySem.W.Frag} {ρ ρ' ρ1 ρ2 : List Addr} {H H' H1 H2 : Hp}
theorem Le.refl : Le K ρ H ρ H := ⟨fun _ _ h => h, fun _ _ h => h⟩
theorem Le.trans (a : Le K ρ H ρ1 H1) (b : Le K ρ1 H1 ρ2 H2) : Le K ρ H ρ2 H2 := ⟨fun n x h => b.pre n x (a.pre n x h), fun x y h => b.tup x y (a.tup x y h)⟩
mutual
theorem VRel.mono (l : Le K ρ H ρ' H') : ∀ {x : PV} {v : V}, VRel K ρ H x v → VRel K ρ' H' x v
  | _, _, .non => .non
  | _, _, .bl b => .bl b
  | _, _, .int i => .int i
  | _, _, .str s => .str s
  | _, _, .tup h hs => .tup (l.tup _ _ h) (VRels.mono l hs)
  | _, _, .tupK h hs => .tupK h (VRels.mono l hs)
  | _, _, .ref h => .ref (l.pre _ _ h)
theorem VRels.mono (l : Le K ρ H ρ' H') : ∀ {xs : List PV} {vs : List V}, VRels K ρ H xs vs → VRels K ρ' H' xs vs
  | _, _, .nil => .nil
  | _, _, .cons h hs => .cons (VRel.mono l h) (VRels.mono l hs)
end
theorem VRels.length : ∀ {xs : List PV} {vs : List V}, VRels K ρ H xs vs → xs.length = vs.length
  | _, _, .nil => rfl
  | _, _, .cons _ t => congrArg (· + 1) t.length
theorem VRels.get : ∀ {xs : List PV} {vs : List V} {i : Nat} {x : PV}, VRels K ρ H xs vs → xs[i]? = some x → ∃ v, vs[i]? = some v ∧ VRel K ρ H x v
  | _, _, _, _, .nil, e => by simp at e
  | _, _, 0, _, .cons r _, e => by simp at e; subst e; exact ⟨_, rfl, r⟩
  | _, _, i + 1, _, .cons _ t, e => by
    obtain ⟨v, h1, h2⟩ := VRels.get (i := i) t (by simpa using e)
    exact ⟨v, by simpa using h1, h2⟩
theorem VRels.getV : ∀ {xs : List PV} {vs : List V} {i : Nat} {v : V}, VRels K ρ H xs vs → vs[i]? = some v → ∃ x, xs[i]? = some x ∧ VRel K ρ H x v
  | _, _, _, _, .nil, e => by simp at e
  | _, _, 0, _, .cons r _, e => by simp at e; subst e; exact ⟨_, rfl, r⟩
  | _, _, i + 1, _, .cons _ t, e => by
    obtain ⟨x, h1, h2⟩ := VRels.getV (i := i) t (by simpa using e)
    exact ⟨x, by simpa using h1, h2⟩
theorem VRels.append : ∀ {xs ys : List PV} {vs ws : List V}, VRels K ρ H xs vs → VRels K ρ H ys ws → VRels K ρ H (xs ++ ys) (vs ++ ws)
  | _, _, _, _, .nil, s => s
  | _, _, _, _, .cons r t, s => .cons r (VRels.append t s)
theorem VRels.set {x : PV} {v : V} (r : VRel K ρ H x v) : ∀ {xs : List PV} {vs : List V} (i : Nat), VRels K ρ H xs vs → VRels K ρ H (xs.set i x) (vs.set i v)
  | _, _, _, .nil => .nil
  | _, _, 0, .cons _ t => .cons r t
  | _, _, i + 1, .cons q t => .cons q (VRels.set r i t)
theorem VRels.take : ∀ {xs : List PV} {vs : List V} (n : Nat), VRels K ρ H xs vs → VRels K ρ H (xs.take n) (vs.take n)
  | _, _, 0, _ => .nil
  | _, _, _ + 1, .nil => .nil
  | _, _, n + 1, .cons r t => .cons r (VRels.take n t)
theorem VRels.drop : ∀ {xs : List PV} {vs : List V} (n : Nat), VRels K ρ H xs vs → VRels K ρ H (xs.drop n) (vs.drop n)
  | _, _, 0, r => r
  | _, _, _ + 1, .nil => .nil
  | _, _, n + 1, .cons _ t => VRels.drop n t
theorem VRels.eraseIdx : ∀ {xs : List PV} {vs : List V} (i : Nat), VRels K ρ H xs vs → VRels K ρ H (xs.eraseIdx i) (vs.eraseIdx i)
  | _, _, _, .nil => .nil
  | _, _, 0, .cons _ t => t
  | _, _, i + 1, .cons r t => .cons r (VRels.eraseIdx i t)
theorem VRels.reverse : ∀ {xs : List PV} {vs : List V}, VRels K ρ H xs vs → VRels K ρ H xs.reverse vs.reverse
  | _, _, .nil => .nil
  | _, _, .cons r t => by rw [List.reverse_cons, List.reverse_cons]; exact t.reverse.append (.cons r .nil)
theorem VRels.dropLast {xs : List PV} {vs : List V} (h : VRels K ρ H xs vs) : VRels K ρ H xs.dropLast vs.dropLast := by
  rw [List.dropLast_eq_take, List.dropLast_eq_take, h.length]
  exact h.take _
theorem VRels.ints (l : List Int) : VRels K ρ H (l.map PV.int) (l.map V.int) := by
  induction l with
  | nil => exact .nil
  | cons a t ih => exact .cons (.int a) ih
end

/-- the environment: a slot without a value says nothing -/
def ERel (K : PySem.W.Frag) (ρ : List Addr) (H : Hp) (en : En) (σ : L2.St) : Prop := en.length = σ.length ∧ ∀ (i : Nat) (x : PV), en[i]? = some (some x) → ∃ v, σ[i]? = some (some v) ∧ VRel K ρ H x v
section
variable {K : PySem.W.Frag} {ρ ρ' ρ1 ρ2 : List Addr} {H H' H1 H2 : Hp} {en : En} {σ : L2.St}
theorem ERel.mono (l : Le K ρ H ρ' H') (h : ERel K ρ H en σ) : ERel K ρ' H' en σ := ⟨h.1, fun i x e => let ⟨v, a, b⟩ := h.2 i x e; ⟨v, a, b.mono l⟩⟩
theorem ERel.set {x : PV} {v : V} (h : ERel K ρ H en σ) (i : Nat) (r : VRel K ρ H x v) : ERel K ρ H (en.set i (some x)) (σ.set i (some v)) := by
  refine ⟨by rw [List.length_set, List.length_set]; exact h.1, fun j y e => ?_⟩
  by_cases hj : i = j
  · subst hj
    by_cases hl : i < en.length
    · rw [List.getElem?_set_self hl] at e
      cases e
      exact ⟨v, by rw [List.getElem?_set_self (by rw [← h.1]; exact hl)], r⟩
    · rw [List.getElem?_eq_none (by simpa using hl)] at e; cases e
  · rw [List.getElem?_set_ne hj] at e
    rw [List.getElem?_set_ne hj]
    exact h.2 j y e
theorem ERel.wipe1 (h : ERel K ρ H en σ) (i : Nat) : ERel K ρ H (en.set i none) (σ.set i none) := by
  refine ⟨by rw [List.length_set, List.length_set]; exact h.1, fun j y e => ?_⟩
  by_cases hj : i = j
  · subst hj
    by_cases hl : i < en.length
    · rw [List.getElem?_set_self hl] at e; cases e
    · rw [List.getElem?_eq_none (by simpa using hl)] at e; cases e
  · rw [List.getElem?_set_ne hj] at e
    rw [List.getElem?_set_ne hj]
    exact h.2 j y e
def wipeE (en : En) : List Nat → En
  | [] => en
  | v :: vs => (wipeE en vs).set v none
theorem ERel.wipe (h : ERel K ρ H en σ) : ∀ vs : List Nat, ERel K ρ H (wipeE en vs) (L2.wipe σ vs)
  | [] => h
  | v :: vs => (h.wipe vs).wipe1 v
theorem ERel.start {N : List Str} {xs : List PV} {vs : List V} (h : VRels K ρ H xs vs) : ERel K ρ H (xs.map some ++ List.replicate (N.length - xs.length) none) (L2.start N vs) := by
  have hl := h.length
  refine ⟨by unfold L2.start; simp [hl], fun i x e => ?_⟩
  unfold L2.start
  by_cases hi : i < xs.length
  · rw [List.getElem?_append_left (by simpa using hi), List.getElem?_map] at e
    rw [List.getElem?_append_left (by rw [List.length_map, ← hl]; exact hi), List.getElem?_map]
    cases q : xs[i]? with
    | none => rw [q] at e; cases e
    | some y =>
      rw [q] at e
      cases e
      obtain ⟨v, a, b⟩ := h.get q
      exact ⟨v, by rw [a]; rfl, b⟩
  · rw [List.getElem?_append_right (by simpa using hi), List.getElem?_replicate] at e
    split at e <;> cases e
end

/-! ### the heap -/
/-- the program's tables: the classes' addresses, the attributes' names -/
structure Tb where
  cls : Nat → Addr
  att : Nat → Str
  ainj : ∀ i j, att i = att j → i = j
def keyV : PV → Option L2.Key
  | .int i => some (.inl i)
  | .str s => some (.inr ⟨s.toArray⟩)
  | _ => none
def keysV : List PV → Option (List L2.Key)
  | [] => some []
  | x :: xs => (keyV x).bind fun k => (keysV xs).bind fun ks => some (k :: ks)
def keyT : PV → Option (List L2.Key)
  | .tup xs => keysV xs
  | _ => none
theorem keyV_inj : ∀ {a b : PV} {k : L2.Key}, keyV a = some k → keyV b = some k → a = b := by
  intro a b k ha hb
  cases a <;> simp [keyV] at ha <;> subst ha <;> cases b <;> simp [keyV] at hb
  · rw [hb]
  · rw [hb]
theorem keysV_inj : ∀ {a b : List PV} {k : List L2.Key}, keysV a = some k → keysV b = some k → a = b
  | [], [], _, _, _ => rfl
  | [], y :: ys, k, ha, hb => by
    simp only [keysV, Option.some.injEq] at ha
    subst ha
    simp [keysV, Option.bind_eq_some_iff] at hb
  | x :: xs, [], k, ha, hb => by
    simp only [keysV, Option.some.injEq] at hb
    subst hb
    simp [keysV, Option.bind_eq_some_iff] at ha
  | x :: xs, y :: ys, k, ha, hb => by
    simp only [keysV, Option.bind_eq_some_iff, Option.some.injEq] at ha hb
    obtain ⟨k1, h1, k2, h2, rfl⟩ := ha
    obtain ⟨k3, h3, k4, h4, e⟩ := hb
    injection e with e1 e2
    subst e1 e2
    rw [keyV_inj h1 h3, keysV_inj h2 h4]
theorem keyT_inj {a b : PV} {k : List L2.Key} (ha : keyT a = some k) (hb : keyT b = some k) : a = b := by
  cases a <;> simp [keyT] at ha
  cases b <;> simp [keyT] at hb
  rw [keysV_inj ha hb]
inductive KRel {κ : Type} (f : PV → Option κ) (K : PySem.W.Frag) (ρ : List Addr) (H : Hp) : List (PV × PV) → List (κ × V) → Prop
  | nil : KRel f K ρ H [] []
  | cons {k : PV} {x : PV} {kvs : List (PV × PV)} {k' : κ} {v : V} {l : List (κ × V)} : f k = some k' → VRel K ρ H x v → KRel f K ρ H kvs l → KRel f K ρ H ((k, x) :: kvs) ((k', v) :: l)
inductive FRel (T : Tb) (K : PySem.W.Frag) (ρ : List Addr) (H : Hp) : List (Nat × PV) → List (Str × V) → Prop
  | nil : FRel T K ρ H [] []
  | cons {n : Nat} {x : PV} {fs : List (Nat × PV)} {v : V} {l : List (Str × V)} : VRel K ρ H x v → FRel T K ρ H fs l → FRel T K ρ H ((n, x) :: fs) ((T.att n, v) :: l)
def ORel (T : Tb) (K : PySem.W.Frag) (ρ : List Addr) (H : Hp) : MO → Addr → Prop
  | .lst xs, a => ∃ vs, VRels K ρ H xs vs ∧ H a = some (.lst vs)
  | .frz xs, a => ∃ vs, VRels K ρ H xs vs ∧ ((∃ o, H a = some (.frz o (.lst vs))) ∨ SqL K (fun _ => none) a vs)
  | .dK kvs, a => ∃ l, KRel keyV K ρ H kvs l ∧ H a = some (.dK l)
  | .dT kvs, a => ∃ l, KRel keyT K ρ H kvs l ∧ H a = some (.dT l)
  | .ins c fs, a => ∃ dx l, FRel T K ρ H fs l ∧ H a = some (.ins (T.cls c) dx l)
def MO.mut : MO → Bool
  | .frz _ => false
  | _ => true
structure Sim (T : Tb) (K : PySem.W.Frag) (ρ : List Addr) (h : Hm) (H : Hp) : Prop where
  len : ρ.length = h.length
  obj : ∀ (i : Nat) (o : MO) (a : Addr), h[i]? = some o → ρ[i]? = some a → ORel T K ρ H o a
  inj : ∀ (i j : Nat) (o u : MO) (a : Addr), h[i]? = some o → h[j]? = some u → ρ[i]? = some a → ρ[j]? = some a → o.mut = true → u.mut = true → i = j
section
variable {T : Tb} {K : PySem.W.Frag} {ρ ρ' : List Addr} {H H' : Hp} {h : Hm}
theorem KRel.mono {κ : Type} {f : PV → Option κ} (l : Le K ρ H ρ' H') : ∀ {x : List (PV × PV)} {v : List (κ × V)}, KRel f K ρ H x v → KRel f K ρ' H' x v
  | _, _, .nil => .nil
  | _, _, .cons k r t => .cons k (r.mono l) (KRel.mono l t)
theorem FRel.mono (l : Le K ρ H ρ' H') : ∀ {x : List (Nat × PV)} {v : List (Str × V)}, FRel T K ρ H x v → FRel T K ρ' H' x v
  | _, _, .nil => .nil
  | _, _, .cons r t => .cons (r.mono l) (FRel.mono l t)
theorem ORel.mut_some {o : MO} {a : Addr} (r : ORel T K ρ H o a) (m : o.mut = true) : ∃ u, H a = some u ∧ Mut (some u) := by
  cases o with
  | lst xs => obtain ⟨vs, _, e⟩ := r; exact ⟨_, e, trivial⟩
  | frz xs => cases m
  | dK kvs => obtain ⟨l, _, e⟩ := r; exact ⟨_, e, trivial⟩
  | dT kvs => obtain ⟨l, _, e⟩ := r; exact ⟨_, e, trivial⟩
  | ins c fs => obtain ⟨dx, l, _, e⟩ := r; exact ⟨_, e, trivial⟩
/-- an object that is not touched stays as it is, in a later world -/
theorem ORel.mono {o : MO} {a : Addr} (l : Le K ρ H ρ' H') (r : ORel T K ρ H o a) (k : o.mut = true → H' a = H a) (kf : ∀ o u, H a = some (.frz o u) → H' a = some (.frz o u)) : ORel T K ρ' H' o a := by
  cases o with
  | lst xs => obtain ⟨vs, r, e⟩ := r; exact ⟨vs, r.mono l, (k rfl).trans e⟩
  | frz xs =>
    obtain ⟨vs, r, e⟩ := r
    refine ⟨vs, r.mono l, ?_⟩
    rcases e with ⟨o, e⟩ | e
    · exact .inl ⟨o, kf _ _ e⟩
    · exact .inr e
  | dK kvs => obtain ⟨vs, r, e⟩ := r; exact ⟨vs, r.mono l, (k rfl).trans e⟩
  | dT kvs => obtain ⟨vs, r, e⟩ := r; exact ⟨vs, r.mono l, (k rfl).trans e⟩
  | ins c fs => obtain ⟨dx, vs, r, e⟩ := r; exact ⟨dx, vs, r.mono l, (k rfl).trans e⟩
theorem kpart {a : Addr} {vs : List V} (s : SqL K (fun _ => none) a vs) : SqL K H a vs := by
  rcases s with (s | ⟨o, s⟩) | s
  · cases s
  · cases s
  · exact .inr s
theorem ORel.lst_of {xs : List PV} {a : Addr} (r : ORel T K ρ H (.lst xs) a ∨ ORel T K ρ H (.frz xs) a) : ∃ vs, VRels K ρ H xs vs ∧ SqL K H a vs := by
  rcases r with ⟨vs, r, e⟩ | ⟨vs, r, e⟩
  · exact ⟨vs, r, SqL.of e⟩
  · refine ⟨vs, r, ?_⟩
    rcases e with ⟨o, e⟩ | e
    · exact .inl (.inr ⟨o, e⟩)
    · exact kpart e

/-! ### a new thing, a change -/
theorem rd_new {p a : Addr} {o u : HO} (n : H p = none) (r : Rd H a u) : Rd (upd H p o) a u := by
  rcases r with r | ⟨ob, r⟩
  · exact .inl (by rw [upd_ne (ne_of_none r n)]; exact r)
  · exact .inr ⟨ob, by rw [upd_ne (ne_of_none r n)]; exact r⟩
theorem text_new {p : Addr} {o : HO} (n : H p = none) : TExt K H (upd H p o) := fun a xs s => by rw [upd_ne (ne_of_none s n)]; exact s
theorem text_mut {p : Addr} {o : HO} (m : Mut (H p)) : TExt K H (upd H p o) := fun a xs s => by
  rw [upd_ne (fun e => by subst e; rw [s] at m; exact m)]; exact s
/-- something that the small heap does not have is laid -/
theorem Sim.other {p : Addr} {o : HO} (S : Sim T K ρ h H) (n : H p = none) : Le K ρ H ρ (upd H p o) ∧ Sim T K ρ h (upd H p o) := by
  have l : Le K ρ H ρ (upd H p o) := ⟨fun _ _ e => e, text_new n⟩
  refine ⟨l, S.len, fun i ob a e1 e2 => ?_, S.inj⟩
  have r := S.obj i ob a e1 e2
  refine r.mono l (fun m => ?_) (fun o u e => ?_)
  · obtain ⟨u, e, _⟩ := r.mut_some m
    exact upd_ne (ne_of_none e n)
  · rw [upd_ne (ne_of_none e n)]; exact e
/-- an object is laid -/
theorem Sim.new {p : Addr} {o : HO} {m : MO} (S : Sim T K ρ h H) (n : H p = none) (r : ORel T K (ρ ++ [p]) (upd H p o) m p) (hm : m.mut = true) :
    Le K ρ H (ρ ++ [p]) (upd H p o) ∧ Sim T K (ρ ++ [p]) (h ++ [m]) (upd H p o) ∧ (ρ ++ [p])[h.length]? = some p := by
  have l : Le K ρ H (ρ ++ [p]) (upd H p o) := ⟨fun i a e => by rw [List.getElem?_append_left (List.getElem?_eq_some_iff.mp e).1]; exact e, text_new n⟩
  have at_ : ∀ (i : Nat) (a : Addr), (ρ ++ [p])[i]? = some a → ρ[i]? = some a ∨ (i = h.length ∧ a = p) := fun i a e => by
    by_cases hi : i < ρ.length
    · rw [List.getElem?_append_left hi] at e; exact .inl e
    · rw [List.getElem?_append_right (by omega)] at e
      have hi2 : i - ρ.length = 0 := by
        by_cases z : i - ρ.length = 0
        · exact z
        · rw [List.getElem?_eq_none (by simp; omega)] at e; cases e
      rw [hi2] at e
      have := S.len
      exact .inr ⟨by omega, (Option.some.inj e).symm⟩
  have oat : ∀ (i : Nat) (u : MO), (h ++ [m])[i]? = some u → (h[i]? = some u ∧ i < h.length) ∨ (i = h.length ∧ u = m) := fun i u e => by
    by_cases hi : i < h.length
    · rw [List.getElem?_append_left hi] at e; exact .inl ⟨e, hi⟩
    · rw [List.getElem?_append_right (by omega)] at e
      have hi2 : i - h.length = 0 := by
        by_cases z : i - h.length = 0
        · exact z
        · rw [List.getElem?_eq_none (by simp; omega)] at e; cases e
      rw [hi2] at e
      exact .inr ⟨by omega, (Option.some.inj e).symm⟩
  have old : ∀ (i : Nat) (u : MO) (a : Addr), h[i]? = some u → ρ[i]? = some a → u.mut = true → a ≠ p := fun i u a e1 e2 hu => by
    obtain ⟨w, e, _⟩ := (S.obj i u a e1 e2).mut_some hu
    exact ne_of_none e n
  refine ⟨l, ⟨by rw [List.length_append, List.length_append, S.len] <;> rfl, fun i u a e1 e2 => ?_, fun i j u w a e1 e2 e3 e4 m1 m2 => ?_⟩, ?_⟩
  · rcases oat i u e1 with ⟨e1, hi⟩ | ⟨rfl, rfl⟩
    · rcases at_ i a e2 with e2 | ⟨e2, _⟩
      · have r' := S.obj i u a e1 e2
        refine r'.mono l (fun m => upd_ne (old i u a e1 e2 m)) (fun o u e => ?_)
        rw [upd_ne (ne_of_none e n)]; exact e
      · omega
    · rcases at_ _ a e2 with e2 | ⟨_, rfl⟩
      · have := (List.getElem?_eq_some_iff.mp e2).1
        have := S.len
        omega
      · exact r
  · rcases oat i u e1 with ⟨f1, hi⟩ | ⟨i1, i2⟩
    · rcases oat j w e2 with ⟨f2, hj⟩ | ⟨j1, j2⟩
      · rcases at_ i a e3 with f3 | ⟨f3, _⟩
        · rcases at_ j a e4 with f4 | ⟨f4, _⟩
          · exact S.inj i j u w a f1 f2 f3 f4 m1 m2
          · omega
        · omega
      · rcases at_ i a e3 with f3 | ⟨f3, _⟩
        · rcases at_ _ a e4 with f4 | ⟨_, f5⟩
          · have := (List.getElem?_eq_some_iff.mp f4).1
            have := S.len
            omega
          · exact absurd f5 (old i u a f1 f3 m1)
        · omega
    · rcases oat j w e2 with ⟨f2, hj⟩ | ⟨j1, j2⟩
      · rcases at_ j a e4 with f4 | ⟨f4, _⟩
        · rcases at_ _ a e3 with f3 | ⟨_, f5⟩
          · have := (List.getElem?_eq_some_iff.mp f3).1
            have := S.len
            omega
          · exact absurd f5 (old j w a f2 f4 m2)
        · omega
      · omega
  · rw [List.getElem?_append_right (by rw [S.len]; exact Nat.le_refl _), S.len]
    simp
/-- an object is changed -/
theorem Sim.write {n : Nat} {a : Addr} {o : HO} {m m' : MO} (S : Sim T K ρ h H) (e1 : h[n]? = some m) (e2 : ρ[n]? = some a) (hm : m.mut = true) (hm' : m'.mut = true) (r : Le K ρ H ρ (upd H a o) → ORel T K ρ (upd H a o) m' a) :
    Le K ρ H ρ (upd H a o) ∧ Sim T K ρ (h.set n m') (upd H a o) := by
  obtain ⟨u, eu, mu⟩ := (S.obj n m a e1 e2).mut_some hm
  have l : Le K ρ H ρ (upd H a o) := ⟨fun _ _ e => e, text_mut (by rw [eu]; exact mu)⟩
  have hn : n < h.length := (List.getElem?_eq_some_iff.mp e1).1
  refine ⟨l, by rw [List.length_set]; exact S.len, fun i w b f1 f2 => ?_, fun i j w x b f1 f2 f3 f4 m1 m2 => ?_⟩
  · by_cases hi : n = i
    · subst hi
      rw [List.getElem?_set_self hn] at f1
      cases f1
      rw [e2] at f2; cases f2
      exact r l
    · rw [List.getElem?_set_ne hi] at f1
      have r' := S.obj i w b f1 f2
      refine r'.mono l (fun m2 => ?_) (fun ob u e => ?_)
      · refine upd_ne fun z => ?_
        subst z
        exact hi (S.inj n i m w b e1 f1 e2 f2 hm m2)
      · rw [upd_ne ?_]
        · exact e
        · intro z; subst z; rw [eu] at e; cases e; exact mu
  · have go : ∀ (i : Nat) (w : MO), (h.set n m')[i]? = some w → w.mut = true → ∃ w', h[i]? = some w' ∧ w'.mut = true := fun i w f hw => by
      by_cases hi : n = i
      · subst hi; exact ⟨m, e1, hm⟩
      · rw [List.getElem?_set_ne hi] at f; exact ⟨w, f, hw⟩
    obtain ⟨w', g1, q1⟩ := go i w f1 m1
    obtain ⟨x', g2, q2⟩ := go j x f2 m2
    exact S.inj i j w' x' b g1 g2 f3 f4 q1 q2
/-! ### dicts -/
section
variable {κ : Type} [DecidableEq κ] {f : PV → Option κ} (hf : ∀ {a b : PV} {k : κ}, f a = some k → f b = some k → a = b)
include hf
theorem key_eq {a b : PV} {k j : κ} (ha : f a = some k) (hb : f b = some j) : (a = b) ↔ (k = j) := by
  constructor
  · rintro rfl; rw [ha] at hb; exact Option.some.inj hb
  · rintro rfl; exact hf ha hb
theorem KRel.get {kvs : List (PV × PV)} {l : List (κ × V)} {k : PV} {j : κ} (r : KRel f K ρ H kvs l) (hk : f k = some j) :
    (getP kvs k = none ∧ valV l j = none) ∨ ∃ x v, getP kvs k = some x ∧ valV l j = some v ∧ VRel K ρ H x v := by
  induction r with
  | nil => exact .inl ⟨rfl, rfl⟩
  | @cons k2 x kvs k' v l h1 rx r ih =>
    have e := key_eq hf h1 hk
    by_cases q : k2 = k
    · refine .inr ⟨x, v, ?_, valV_pos (e.mp q), rx⟩
      unfold getP; rw [List.find?_cons_of_pos (by simpa using q)]; rfl
    · have q' : ¬ k' = j := fun z => q (e.mpr z)
      rw [valV_neg (p := (k', v)) q']
      have : getP ((k2, x) :: kvs) k = getP kvs k := by unfold getP; rw [List.find?_cons_of_neg (by simpa using q)]
      rw [this]; exact ih
theorem KRel.any {kvs : List (PV × PV)} {l : List (κ × V)} {k : PV} {j : κ} (r : KRel f K ρ H kvs l) (hk : f k = some j) : (kvs.any fun kv => decide (kv.1 = k)) = (l.any fun kv => decide (kv.1 = j)) := by
  induction r with
  | nil => rfl
  | @cons k2 x kvs k' v l h1 rx r ih =>
    rw [List.any_cons, List.any_cons, ih]
    have e := key_eq hf h1 hk
    by_cases q : k2 = k
    · rw [decide_eq_true q, decide_eq_true (e.mp q)]
    · rw [decide_eq_false q, decide_eq_false fun z => q (e.mpr z)]
theorem KRel.put {kvs : List (PV × PV)} {l : List (κ × V)} {k x : PV} {j : κ} {v : V} (r : KRel f K ρ H kvs l) (hk : f k = some j) (rx : VRel K ρ H x v) : KRel f K ρ H (putP kvs k x) (putK l j v) := by
  have rep : ∀ {kvs : List (PV × PV)} {l : List (κ × V)}, KRel f K ρ H kvs l → KRel f K ρ H (kvs.map fun kv => if kv.1 = k then (kv.1, x) else kv) (l.map fun kv => if kv.1 = j then (kv.1, v) else kv) := fun {kvs l} r => by
    induction r with
    | nil => exact .nil
    | @cons k2 x2 kvs k' v2 l h1 rx2 r ih =>
      have e := key_eq hf h1 hk
      rw [List.map_cons, List.map_cons]
      by_cases q : k2 = k
      · rw [if_pos q, if_pos (e.mp q)]; exact .cons h1 rx ih
      · rw [if_neg q, if_neg fun z => q (e.mpr z)]; exact .cons h1 rx2 ih
  have app : ∀ {kvs : List (PV × PV)} {l : List (κ × V)}, KRel f K ρ H kvs l → KRel f K ρ H (kvs ++ [(k, x)]) (l ++ [(j, v)]) := fun {kvs l} r => by
    induction r with
    | nil => exact .cons hk rx .nil
    | cons h1 rx2 r ih => exact .cons h1 rx2 ih
  unfold putP putK
  rw [r.any hf hk]
  split
  · exact rep r
  · exact app r
theorem KRel.drop {kvs : List (PV × PV)} {l : List (κ × V)} {k : PV} {j : κ} (r : KRel f K ρ H kvs l) (hk : f k = some j) : KRel f K ρ H (dropP kvs k) (dropK l j) := by
  unfold dropP dropK
  induction r with
  | nil => exact .nil
  | @cons k2 x2 kvs k' v2 l h1 rx2 r ih =>
    have e := key_eq hf h1 hk
    by_cases q : k2 = k
    · rw [List.filter_cons_of_neg (by simpa using q), List.filter_cons_of_neg (by simpa using e.mp q)]; exact ih
    · rw [List.filter_cons_of_pos (by simpa using q), List.filter_cons_of_pos (by simpa using fun z => q (e.mpr z))]; exact .cons h1 rx2 ih
end
theorem KRel.length {κ : Type} {f : PV → Option κ} {kvs : List (PV × PV)} {l : List (κ × V)} (r : KRel f K ρ H kvs l) : kvs.length = l.length := by
  induction r with
  | nil => rfl
  | cons _ _ _ ih => exact congrArg (· + 1) ih
end
end RS

set_option Elab.async false
set_option linter.all false
set_option maxRecDepth 100000
set_option maxHeartbeats 4000000
set_option autoImplicit false
namespace RS
open PySem PySem.Spec PyProof.Rows L2

/-! ### what an answer of the small machine promises -/
def XRel (T : Tb) (K : PySem.W.Frag) (ρ : List Addr) (H : Hp) (e : Ex) (d : Option Addr) : Prop :=
  match e.x with
  | none => d = none
  | some (n, v) => ∃ D V, d = some D ∧ H D = some (.xd [(T.att n, V)]) ∧ VRel K ρ H v V
abbrev RLT (α β : Type) := List Addr → Hp → α → β → Prop
def Post {α β : Type} (T : Tb) (K : PySem.W.Frag) (Rl : RLT α β) (W : WX) (σ : L2.St) (ρ : List Addr) (H : Hp) (r : R α) (Q : β → Hp → Prop) : Prop :=
  match r with
  | .ok a h => ∀ ρ' H' b, Le K ρ H ρ' H' → Sim T K ρ' h H' → Rl ρ' H' a b → Q b H'
  | .ex e h => ∀ ρ' H' d, Le K ρ H ρ' H' → Sim T K ρ' h H' → XRel T K ρ' H' e d → W (.ref (T.cls e.c)) d σ H'
  | .bad => False
section
variable {α β γ δ : Type} {T : Tb} {K : PySem.W.Frag} {Rl : RLT α β} {Rl2 : RLT γ δ} {W : WX} {σ : L2.St} {ρ ρ' : List Addr} {H H' : Hp}
theorem Post.mono {r : R α} {Q : β → Hp → Prop} (l : Le K ρ H ρ' H') (p : Post T K Rl W σ ρ H r Q) : Post T K Rl W σ ρ' H' r Q := by
  cases r with
  | ok a h => exact fun ρ2 H2 b l2 => p ρ2 H2 b (l.trans l2)
  | ex e h => exact fun ρ2 H2 b l2 => p ρ2 H2 b (l.trans l2)
  | bad => exact p
theorem Post.step {r : R α} {f : α → Hm → R γ} {Q : δ → Hp → Prop} {P : β → Hp → Prop} (p : Post T K Rl2 W σ ρ H (r.bind f) Q)
    (k : ∀ ρ1 H1 a h1 b, Le K ρ H ρ1 H1 → Sim T K ρ1 h1 H1 → Rl ρ1 H1 a b → Post T K Rl2 W σ ρ1 H1 (f a h1) Q → P b H1) : Post T K Rl W σ ρ H r P := by
  cases r with
  | ok a h => exact fun ρ2 H2 b l s q => k ρ2 H2 a h b l s q (Post.mono l p)
  | ex e h => exact p
  | bad => exact p
theorem Post.imp {r : R α} {Q Q' : β → Hp → Prop} (p : Post T K Rl W σ ρ H r Q) (k : ∀ b H, Q b H → Q' b H) : Post T K Rl W σ ρ H r Q' := by
  cases r with
  | ok a h => exact fun ρ2 H2 b l s q => k _ _ (p ρ2 H2 b l s q)
  | ex e h => exact p
  | bad => exact p
end
abbrev VR (K : PySem.W.Frag) : RLT PV V := fun ρ H x v => VRel K ρ H x v
abbrev VRs (K : PySem.W.Frag) : RLT (List PV) (List V) := fun ρ H x v => VRels K ρ H x v
abbrev BR : RLT Bool Bool := fun _ _ a b => a = b
abbrev OR : RLT (Option Int) (Option Int) := fun _ _ a b => a = b
abbrev CE := En → Hm → R PV
abbrev CT := En → Hm → R Bool
abbrev CA := En → Hm → R (List PV)
/-- the reading of an expression whose answer the small machine gives -/
def tR {α β : Type} (T : Tb) (K : PySem.W.Frag) (Rl : RLT α β) (W : WX) (c : En → Hm → R α) : L2.St → Hp → (β → Hp → Prop) → Prop := fun σ H Q =>
  ∃ ρ h en, Sim T K ρ h H ∧ ERel K ρ H en σ ∧ Post T K Rl W σ ρ H (c en h) Q
abbrev tE (T : Tb) (K : PySem.W.Frag) (W : WX) (c : CE) : TE := tR T K (VR K) W c
abbrev tT (T : Tb) (K : PySem.W.Frag) (W : WX) (c : CT) : TT := tR T K BR W c
abbrev tA (T : Tb) (K : PySem.W.Frag) (W : WX) (c : CA) : TA := tR T K (VRs K) W c
abbrev tO (T : Tb) (K : PySem.W.Frag) (W : WX) (c : En → Hm → R (Option Int)) : TO := tR T K OR W c
section
variable {α β γ δ : Type} {T : Tb} {K : PySem.W.Frag} {Rl : RLT α β} {Rl2 : RLT γ δ} {W : WX} {σ : L2.St} {ρ ρ' : List Addr} {H H' : Hp} {en : En} {h : Hm}
/-- the first step of a reading -/
theorem tR.step {c : En → Hm → R α} {f : α → Hm → R γ} {Q : δ → Hp → Prop} {P : β → Hp → Prop} (S : Sim T K ρ h H) (E : ERel K ρ H en σ) (p : Post T K Rl2 W σ ρ H ((c en h).bind f) Q)
    (k : ∀ ρ1 H1 a h1 b, Le K ρ H ρ1 H1 → Sim T K ρ1 h1 H1 → ERel K ρ1 H1 en σ → Rl ρ1 H1 a b → Post T K Rl2 W σ ρ1 H1 (f a h1) Q → P b H1) : tR T K Rl W c σ H P :=
  ⟨ρ, h, en, S, E, p.step fun ρ1 H1 a h1 b l s q z => k ρ1 H1 a h1 b l s (E.mono l) q z⟩
theorem tR.last {c : En → Hm → R α} {Q : β → Hp → Prop} (S : Sim T K ρ h H) (E : ERel K ρ H en σ) (p : Post T K Rl W σ ρ H (c en h) Q) : tR T K Rl W c σ H Q := ⟨ρ, h, en, S, E, p⟩
end
theorem _root_.L2.PE.weak {X : Cx} {e : Expr} {t t' : TE} (h : PE X e t) (w : ∀ σ H Q, t' σ H Q → t σ H Q) : PE X e t' := ⟨fun pins s σ H Q I q => h.run pins s σ H Q I (w _ _ _ q)⟩
theorem _root_.L2.PT.weak {X : Cx} {e : Expr} {t t' : TT} (h : PT X e t) (w : ∀ σ H Q, t' σ H Q → t σ H Q) : PT X e t' := ⟨fun pins s σ H Q I q => h.run pins s σ H Q I (w _ _ _ q)⟩
theorem _root_.L2.PW.weak {X : Cx} {e : Expr} {t t' : TT} (h : PW X e t) (w : ∀ σ H Q, t' σ H Q → t σ H Q) : PW X e t' := ⟨fun wh pins s σ H Q I q => h.run wh pins s σ H Q I (w _ _ _ q)⟩
theorem _root_.L2.PA.weak {X : Cx} {e : List Expr} {t t' : TA} (h : PA X e t) (w : ∀ σ H Q, t' σ H Q → t σ H Q) : PA X e t' := ⟨fun pos pins s σ H Q I q => h.run pos pins s σ H Q I (w _ _ _ q)⟩
theorem _root_.L2.PS.weak {X : Cx} {e : Stmt} {t t' : TS} (h : PS X e t) (w : ∀ D σ H, t' D σ H → t D σ H) : PS X e t' := ⟨fun pins s σ H D I q => h.run pins s σ H D I (w _ _ _ q)⟩
theorem _root_.L2.PSs.weak {X : Cx} {e : List Stmt} {t t' : TS} (h : PSs X e t) (w : ∀ D σ H, t' D σ H → t D σ H) : PSs X e t' := ⟨fun pins s σ H D I q => h.run pins s σ H D I (w _ _ _ q)⟩

/-! ### expressions -/
def cPure (v : PV) : CE := fun _ h => .ok v h
def cVar (i : Nat) : CE := fun en h => match en[i]? with
  | some (some v) => .ok v h
  | _ => .bad
def cB2 (g : PV → PV → Hm → R PV) (a b : CE) : CE := fun en h => (a en h).bind fun x h1 => (b en h1).bind fun y h2 => g x y h2
def cB1 (g : PV → Hm → R PV) (a : CE) : CE := fun en h => (a en h).bind fun x h1 => g x h1
section
variable {X : Cx} {T : Tb} {W : WX} {a b c : Expr} {ca cb cc : CE} {pos : Pos}
theorem e_var {i : Nat} {x : Str} (hN : X.N[i]? = some x) (hv : Vis X.env.scope x) (hd : (x == ("__debug__" : Str)) = false) (hcd : (x == ("__classdict__" : Str)) = false) : PE X (.Name x pos) (tE T X.K W (cVar i)) := by
  refine (pe_var (pos := pos) hN hv hd hcd).weak ?_
  rintro σ H Q ⟨ρ, h, en, S, E, p⟩
  have p : Post T X.K (VR X.K) W σ ρ H (cVar i en h) Q := p
  unfold cVar at p
  split at p
  · rename_i v e
    obtain ⟨v', e', r⟩ := E.2 i v e
    exact ⟨v', e', p ρ H v' Le.refl S r⟩
  · exact p.elim
theorem e_pure {e : Expr} {v : PV} {v' : V} (h : PE X e (tC v')) (r : ∀ ρ H, VRel X.K ρ H v v') : PE X e (tE T X.K W (cPure v)) := by
  refine h.weak ?_
  rintro σ H Q ⟨ρ, h, en, S, E, p⟩
  exact p ρ H v' Le.refl S (r ρ H)
/-- a two-place rule of the layer, by values -/
def Sem2 (T : Tb) (K : PySem.W.Frag) (r : R2) (g : PV → PV → Hm → R PV) : Prop := ∀ (W : WX) (σ : L2.St) (ρ : List Addr) (h : Hm) (H : Hp) (x y : PV) (x' y' : V) (Q : VK), Sim T K ρ h H → VRel K ρ H x x' → VRel K ρ H y y' →
  Post T K (VR K) W σ ρ H (g x y h) Q → r x' y' H Q
def Sem1 (T : Tb) (K : PySem.W.Frag) (r : V → Hp → VK → Prop) (g : PV → Hm → R PV) : Prop := ∀ (W : WX) (σ : L2.St) (ρ : List Addr) (h : Hm) (H : Hp) (x : PV) (x' : V) (Q : VK), Sim T K ρ h H → VRel K ρ H x x' →
  Post T K (VR K) W σ ρ H (g x h) Q → r x' H Q
def SemN (T : Tb) (K : PySem.W.Frag) (r : List V → Hp → VK → Prop) (g : List PV → Hm → R PV) : Prop := ∀ (W : WX) (σ : L2.St) (ρ : List Addr) (h : Hm) (H : Hp) (x : List PV) (x' : List V) (Q : VK), Sim T K ρ h H → VRels K ρ H x x' →
  Post T K (VR K) W σ ρ H (g x h) Q → r x' H Q
/-- the reading of two parts -/
theorem t2 {r : R2} {g : PV → PV → Hm → R PV} (hs : Sem2 T X.K r g) {σ : L2.St} {H : Hp} {Q : VK} (q : tE T X.K W (cB2 g ca cb) σ H Q) : tOp r (tE T X.K W ca) (tE T X.K W cb) σ H Q := by
  obtain ⟨ρ, h, en, S, E, p⟩ := q
  refine tR.step S E p fun ρ1 H1 x h1 x' l1 S1 E1 r1 p1 => ?_
  refine tR.step S1 E1 p1 fun ρ2 H2 y h2 y' l2 S2 E2 r2 p2 => ?_
  exact hs W σ ρ2 h2 H2 x y x' y' Q S2 (r1.mono l2) r2 p2
theorem e_bin {op : Operator} {r : R2} {g : PV → PV → Hm → R PV} (ho : OpR X (binaryOp op) r) (hs : Sem2 T X.K r g) (ha : PE X a (tE T X.K W ca)) (hb : PE X b (tE T X.K W cb)) : PE X (.BinOp a op b pos) (tE T X.K W (cB2 g ca cb)) :=
  (pe_op (pos := pos) ho ha hb).weak fun _ _ _ => t2 hs
theorem e_un {op : UnaryOp} {r : V → Hp → VK → Prop} {g : PV → Hm → R PV} (ho : UnR X (unaryOp op) r) (hs : Sem1 T X.K r g) (ha : PE X a (tE T X.K W ca)) : PE X (.UnaryOp op a pos) (tE T X.K W (cB1 g ca)) := by
  refine (pe_un (pos := pos) ho ha).weak ?_
  rintro σ H Q ⟨ρ, h, en, S, E, p⟩
  refine tR.step S E p fun ρ1 H1 x h1 x' l1 S1 E1 r1 p1 => ?_
  exact hs W σ ρ1 h1 H1 x x' Q S1 r1 p1
theorem e_cmp {op : CmpOp} {r : R2} {g : PV → PV → Hm → R PV} (ho : OpR X (compareOp op) r) (hs : Sem2 T X.K r g) (hm : behindInMarks op b = false) (ha : PE X a (tE T X.K W ca)) (hb : PE X b (tE T X.K W cb)) : PE X (.Compare a [op] [b] pos) (tE T X.K W (cB2 g ca cb)) :=
  (pe_cmpR (pos := pos) ho ha hb hm).weak fun _ _ _ => t2 hs
/-- a value that must be a truth value -/
def toB (c : CE) : CT := fun en h => (c en h).bind fun x h1 => match x with
  | .bl k => .ok k h1
  | _ => .bad
theorem t2b {r : R2} {g : PV → PV → Hm → R PV} (hs : Sem2 T X.K r g) {σ : L2.St} {H : Hp} {Q : Bool → Hp → Prop} (q : tT T X.K W (toB (cB2 g ca cb)) σ H Q) : tTest (tOp r (tE T X.K W ca) (tE T X.K W cb)) σ H Q := by
  obtain ⟨ρ, h, en, S, E, p⟩ := q
  refine t2 hs (tR.last (c := cB2 g ca cb) S E (Post.step p fun ρ1 H1 x h1 x' l1 S1 r1 p1 => ?_))
  cases r1 <;> first | exact p1.elim | exact ⟨_, rfl, p1 ρ1 H1 _ Le.refl S1 rfl⟩
theorem p_cmp {op : CmpOp} {r : R2} {g : PV → PV → Hm → R PV} (ho : OpR X (compareOp op) r) (hs : Sem2 T X.K r g) (hm : behindInMarks op b = false) (ha : PE X a (tE T X.K W ca)) (hb : PE X b (tE T X.K W cb)) : PT X (.Compare a [op] [b] pos) (tT T X.K W (toB (cB2 g ca cb))) :=
  (pt_cmpR (pos := pos) ho ha hb hm).weak fun _ _ _ => t2b hs
/-- a < b < c -/
def cChain (g g' : PV → PV → Hm → R PV) (a b c : CE) : CE := fun en h => (a en h).bind fun x h1 => (b en h1).bind fun y h2 => (g x y h2).bind fun z h3 => match z with
  | .bl true => (c en h3).bind fun w h4 => g' y w h4
  | .bl false => .ok (.bl false) h3
  | _ => .bad
theorem t3 {r r' : R2} {g g' : PV → PV → Hm → R PV} (hs : Sem2 T X.K r g) (hs' : Sem2 T X.K r' g') {σ : L2.St} {H : Hp} {Q : VK} (q : tE T X.K W (cChain g g' ca cb cc) σ H Q) : tChain r r' (tE T X.K W ca) (tE T X.K W cb) (tE T X.K W cc) σ H Q := by
  obtain ⟨ρ, h, en, S, E, p⟩ := q
  refine tR.step S E p fun ρ1 H1 x h1 x' l1 S1 E1 r1 p1 => ?_
  refine tR.step S1 E1 p1 fun ρ2 H2 y h2 y' l2 S2 E2 r2 p2 => ?_
  refine hs W σ ρ2 h2 H2 x y x' y' _ S2 (r1.mono l2) r2 (Post.step p2 fun ρ3 H3 z h3 z' l3 S3 r3 p3 => ?_)
  cases r3 with
  | bl k =>
    refine ⟨k, rfl, ?_⟩
    cases k with
    | true =>
      rw [if_pos rfl]
      exact tR.step S3 (E2.mono l3) p3 fun ρ4 H4 w h4 w' l4 S4 E4 r4 p4 => hs' W σ ρ4 h4 H4 y w y' w' Q S4 (r2.mono (l3.trans l4)) r4 p4
    | false =>
      rw [if_neg Bool.false_ne_true]
      exact p3 ρ3 H3 _ Le.refl S3 (.bl false)
  | _ => exact p3.elim
theorem e_chain {op op' : CmpOp} {r r' : R2} {g g' : PV → PV → Hm → R PV} (ho : OpR X (compareOp op) r) (ho' : OpR X (compareOp op') r') (hs : Sem2 T X.K r g) (hs' : Sem2 T X.K r' g') (hm : lastMarks [op, op'] [b, c] = false)
    (ha : PE X a (tE T X.K W ca)) (hb : PE X b (tE T X.K W cb)) (hc : PE X c (tE T X.K W cc)) : PE X (.Compare a [op, op'] [b, c] pos) (tE T X.K W (cChain g g' ca cb cc)) :=
  (pe_chain (pos := pos) ho ho' ha hb hc hm).weak fun _ _ _ => t3 hs hs'
theorem p_chain {op op' : CmpOp} {r r' : R2} {g g' : PV → PV → Hm → R PV} (ho : OpR X (compareOp op) r) (ho' : OpR X (compareOp op') r') (hs : Sem2 T X.K r g) (hs' : Sem2 T X.K r' g') (hm : lastMarks [op, op'] [b, c] = false)
    (ha : PE X a (tE T X.K W ca)) (hb : PE X b (tE T X.K W cb)) (hc : PE X c (tE T X.K W cc)) : PT X (.Compare a [op, op'] [b, c] pos) (tT T X.K W (toB (cChain g g' ca cb cc))) := by
  refine (pt_chain (pos := pos) ho ho' ha hb hc hm).weak ?_
  rintro σ H Q ⟨ρ, h, en, S, E, p⟩
  refine t3 hs hs' (tR.last (c := cChain g g' ca cb cc) S E (Post.step p fun ρ1 H1 x h1 x' l1 S1 r1 p1 => ?_))
  cases r1 <;> first | exact p1.elim | exact ⟨_, rfl, p1 ρ1 H1 _ Le.refl S1 rfl⟩

/-! ### truth -/
theorem tpart {K : PySem.W.Frag} {H : Hp} {a : Addr} {vs : List V} (s : SqT K (fun _ => none) a vs) : SqT K H a vs := by
  rcases s with (s | ⟨o, s⟩) | s
  · cases s
  · cases s
  · exact .inr s
def truth (x : PV) (h : Hm) : R Bool := match x with
  | .non => .ok false h
  | .bl b => .ok b h
  | .int i => .ok (i != 0) h
  | .str s => if s.length ≤ 16777216 then .ok (!s.isEmpty) h else .bad
  | .tup xs => .ok (!xs.isEmpty) h
  | .tupK xs => .ok (!xs.isEmpty) h
  | .ref n => match h[n]? with
    | some (.lst xs) => .ok (!xs.isEmpty) h
    | some (.frz xs) => .ok (!xs.isEmpty) h
    | some (.dK kvs) => .ok (!kvs.isEmpty) h
    | _ => .bad
def cTru (a : CE) : CT := fun en h => (a en h).bind fun x h1 => truth x h1
theorem VRels.empty {K : PySem.W.Frag} {ρ : List Addr} {H : Hp} {xs : List PV} {vs : List V} (r : VRels K ρ H xs vs) : xs.isEmpty = vs.isEmpty := by cases r <;> rfl
theorem KRel.empty {κ : Type} {f : PV → Option κ} {K : PySem.W.Frag} {ρ : List Addr} {H : Hp} {xs : List (PV × PV)} {vs : List (κ × V)} (r : KRel f K ρ H xs vs) : xs.isEmpty = vs.isEmpty := by cases r <;> rfl
theorem Sim.at {K : PySem.W.Frag} {ρ : List Addr} {H : Hp} {h : Hm} (S : Sim T K ρ h H) {n : Nat} {a : Addr} {o : MO} (e : h[n]? = some o) (ea : ρ[n]? = some a) : ORel T K ρ H o a := S.obj n o a e ea
theorem p_truth (ha : PE X a (tE T X.K W ca)) (he : ∀ whole, isTrue a X.env whole = (do let v ← whole; standAt a.pos; holding [v] (truthy v))) : PT X a (tT T X.K W (cTru ca)) := by
  refine (pt_truth ha he).weak ?_
  rintro σ H Q ⟨ρ, h, en, S, E, p⟩
  refine tR.step S E p fun ρ1 H1 x h1 x' l1 S1 E1 r1 p1 => ?_
  cases r1 with
  | non => exact ⟨false, rfl, p1 ρ1 H1 _ Le.refl S1 rfl⟩
  | bl b => exact ⟨b, rfl, p1 ρ1 H1 _ Le.refl S1 rfl⟩
  | int i => exact ⟨_, rfl, p1 ρ1 H1 _ Le.refl S1 rfl⟩
  | str s =>
    dsimp only [truth] at p1
    by_cases hl : s.length ≤ 16777216
    · rw [if_pos hl] at p1
      refine ⟨_, ⟨by show s.toArray.size ≤ _; rw [sizeLine_eq]; simpa using hl, rfl⟩, ?_⟩
      have e : (((⟨s.toArray⟩ : Str).length : Int) != 0) = !s.isEmpty := by
        cases s with
        | nil => rfl
        | cons c t =>
          show (((c :: t).toArray.size : Int) != 0) = true
          simp [bne_iff_ne]
          omega
      rw [e]
      exact p1 ρ1 H1 _ Le.refl S1 rfl
    · rw [if_neg hl] at p1; exact p1.elim
  | tup ht hr => exact ⟨_, .inr (.inl ⟨_, SqT.of ht, rfl⟩), by rw [← hr.empty]; exact p1 ρ1 H1 _ Le.refl S1 rfl⟩
  | tupK ht hr => exact ⟨_, .inr (.inl ⟨_, tpart ht, rfl⟩), by rw [← hr.empty]; exact p1 ρ1 H1 _ Le.refl S1 rfl⟩
  | @ref n ad ea =>
    dsimp only [truth] at p1
    split at p1
    · rename_i xs e
      obtain ⟨vs, r, hq⟩ := ORel.lst_of (.inl (S1.at e ea))
      exact ⟨_, .inl ⟨vs, hq, rfl⟩, by rw [← r.empty]; exact p1 ρ1 H1 _ Le.refl S1 rfl⟩
    · rename_i xs e
      obtain ⟨vs, r, hq⟩ := ORel.lst_of (.inr (S1.at e ea))
      exact ⟨_, .inl ⟨vs, hq, rfl⟩, by rw [← r.empty]; exact p1 ρ1 H1 _ Le.refl S1 rfl⟩
    · rename_i kvs e
      obtain ⟨l, r, hq⟩ := S1.at e ea
      exact ⟨_, .inr (.inr ⟨l, hq, rfl⟩), by rw [← r.empty]; exact p1 ρ1 H1 _ Le.refl S1 rfl⟩
    · exact p1.elim

/-! ### and, or, not -/
def tAndC (a b : CT) : CT := fun en h => (a en h).bind fun k h1 => if k = true then b en h1 else .ok false h1
def tOrC (a b : CT) : CT := fun en h => (a en h).bind fun k h1 => if k = true then .ok true h1 else b en h1
def tNotC (a : CT) : CT := fun en h => (a en h).bind fun k h1 => .ok (!k) h1
def eAndC (a b : CE) : CE := fun en h => (toB a en h).bind fun k h1 => if k = true then b en h1 else .ok (.bl false) h1
def eOrC (a b : CE) : CE := fun en h => (toB a en h).bind fun k h1 => if k = true then .ok (.bl true) h1 else b en h1
def eNotC (a : CE) : CE := fun en h => (toB a en h).bind fun k h1 => .ok (.bl (!k)) h1
variable {rest : List Expr} {ta tb : CT}
theorem w_and (ha : PT X a (tT T X.K W ta)) (hb : PW X (.BoolOp .And (b :: rest) pos) (tT T X.K W tb)) : PW X (.BoolOp .And (a :: b :: rest) pos) (tT T X.K W (tAndC ta tb)) := by
  refine (pw_and ha hb).weak ?_
  rintro σ H Q ⟨ρ, h, en, S, E, p⟩
  refine tR.step S E p fun ρ1 H1 x h1 x' l1 S1 E1 r1 p1 => ?_
  cases (show x = x' from r1)
  cases x with
  | true => rw [if_pos rfl] at p1 ⊢; exact tR.last S1 E1 p1
  | false => rw [if_neg Bool.false_ne_true] at p1 ⊢; exact p1 ρ1 H1 _ Le.refl S1 rfl
theorem w_or (ha : PT X a (tT T X.K W ta)) (hb : PW X (.BoolOp .Or (b :: rest) pos) (tT T X.K W tb)) : PW X (.BoolOp .Or (a :: b :: rest) pos) (tT T X.K W (tOrC ta tb)) := by
  refine (pw_or ha hb).weak ?_
  rintro σ H Q ⟨ρ, h, en, S, E, p⟩
  refine tR.step S E p fun ρ1 H1 x h1 x' l1 S1 E1 r1 p1 => ?_
  cases (show x = x' from r1)
  cases x with
  | true => rw [if_pos rfl] at p1 ⊢; exact p1 ρ1 H1 _ Le.refl S1 rfl
  | false => rw [if_neg Bool.false_ne_true] at p1 ⊢; exact tR.last S1 E1 p1
theorem p_not (ha : PT X a (tT T X.K W ta)) : PT X (.UnaryOp .Not a pos) (tT T X.K W (tNotC ta)) := by
  refine (pt_not (pos := pos) ha).weak ?_
  rintro σ H Q ⟨ρ, h, en, S, E, p⟩
  refine tR.step S E p fun ρ1 H1 x h1 x' l1 S1 E1 r1 p1 => ?_
  exact p1 ρ1 H1 _ Le.refl S1 (by rw [r1])
theorem e_and (ha : PE X a (tE T X.K W ca)) (hb : PE X (.BoolOp .And (b :: rest) pos) (tE T X.K W cb)) : PE X (.BoolOp .And (a :: b :: rest) pos) (tE T X.K W (eAndC ca cb)) := by
  refine (pe_and ha hb).weak ?_
  rintro σ H Q ⟨ρ, h, en, S, E, p⟩
  have p : Post T X.K (VR X.K) W σ ρ H ((toB ca en h).bind fun k h1 => if k = true then cb en h1 else .ok (.bl false) h1) Q := p
  unfold toB at p
  rw [R.bind_assoc] at p
  refine tR.step S E p fun ρ1 H1 x h1 x' l1 S1 E1 r1 p1 => ?_
  cases r1 with
  | bl k =>
    have p1 : Post T X.K (VR X.K) W σ ρ1 H1 (if k = true then cb en h1 else .ok (.bl false) h1) Q := p1
    refine ⟨k, rfl, ?_⟩
    cases k with
    | true => rw [if_pos rfl] at p1 ⊢; exact tR.last S1 E1 p1
    | false => rw [if_neg Bool.false_ne_true] at p1 ⊢; exact p1 ρ1 H1 _ Le.refl S1 (.bl false)
  | _ => exact p1.elim
theorem e_or (ha : PE X a (tE T X.K W ca)) (hb : PE X (.BoolOp .Or (b :: rest) pos) (tE T X.K W cb)) : PE X (.BoolOp .Or (a :: b :: rest) pos) (tE T X.K W (eOrC ca cb)) := by
  refine (pe_or ha hb).weak ?_
  rintro σ H Q ⟨ρ, h, en, S, E, p⟩
  have p : Post T X.K (VR X.K) W σ ρ H ((toB ca en h).bind fun k h1 => if k = true then .ok (.bl true) h1 else cb en h1) Q := p
  unfold toB at p
  rw [R.bind_assoc] at p
  refine tR.step S E p fun ρ1 H1 x h1 x' l1 S1 E1 r1 p1 => ?_
  cases r1 with
  | bl k =>
    have p1 : Post T X.K (VR X.K) W σ ρ1 H1 (if k = true then .ok (.bl true) h1 else cb en h1) Q := p1
    refine ⟨k, rfl, ?_⟩
    cases k with
    | true => rw [if_pos rfl] at p1 ⊢; exact p1 ρ1 H1 _ Le.refl S1 (.bl true)
    | false => rw [if_neg Bool.false_ne_true] at p1 ⊢; exact tR.last S1 E1 p1
  | _ => exact p1.elim
theorem e_not (ha : PE X a (tE T X.K W ca)) : PE X (.UnaryOp .Not a pos) (tE T X.K W (eNotC ca)) := by
  refine (pe_not (pos := pos) ha).weak ?_
  rintro σ H Q ⟨ρ, h, en, S, E, p⟩
  have p : Post T X.K (VR X.K) W σ ρ H ((toB ca en h).bind fun k h1 => .ok (.bl (!k)) h1) Q := p
  unfold toB at p
  rw [R.bind_assoc] at p
  refine tR.step S E p fun ρ1 H1 x h1 x' l1 S1 E1 r1 p1 => ?_
  cases r1 with
  | bl k => exact ⟨k, rfl, p1 ρ1 H1 _ Le.refl S1 (.bl _)⟩
  | _ => exact p1.elim
def cIf (t : CT) (a b : CE) : CE := fun en h => (t en h).bind fun k h1 => if k = true then a en h1 else b en h1
theorem e_if (ht : PT X c (tT T X.K W ta)) (ha : PE X a (tE T X.K W ca)) (hb : PE X b (tE T X.K W cb)) : PE X (.IfExp c a b pos) (tE T X.K W (cIf ta ca cb)) := by
  refine (pe_ifExp (pos := pos) ht ha hb).weak ?_
  rintro σ H Q ⟨ρ, h, en, S, E, p⟩
  refine tR.step S E p fun ρ1 H1 x h1 x' l1 S1 E1 r1 p1 => ?_
  cases (show x = x' from r1)
  cases x with
  | true => rw [if_pos rfl] at p1 ⊢; exact tR.last S1 E1 p1
  | false => rw [if_neg Bool.false_ne_true] at p1 ⊢; exact tR.last S1 E1 p1

/-! ### argument lists, displays -/
def aNil : CA := fun _ h => .ok [] h
def aCons (a : CE) (r : CA) : CA := fun en h => (a en h).bind fun x h1 => (r en h1).bind fun xs h2 => .ok (x :: xs) h2
variable {e : Expr} {es : List Expr} {ra : CA}
theorem a_nil : PA X [] (tA T X.K W aNil) := by
  refine pa_nil.weak ?_
  rintro σ H Q ⟨ρ, h, en, S, E, p⟩
  exact p ρ H _ Le.refl S .nil
theorem a_cons (ha : PE X e (tE T X.K W ca)) (hr : PA X es (tA T X.K W ra)) (hs : starEach (e :: es) X.env = (false, eval e X.env) :: starEach es X.env) : PA X (e :: es) (tA T X.K W (aCons ca ra)) := by
  refine (pa_cons ha hr hs).weak ?_
  rintro σ H Q ⟨ρ, h, en, S, E, p⟩
  refine tR.step S E p fun ρ1 H1 x h1 x' l1 S1 E1 r1 p1 => ?_
  refine tR.step S1 E1 p1 fun ρ2 H2 y h2 y' l2 S2 E2 r2 p2 => ?_
  exact p2 ρ2 H2 _ Le.refl S2 (.cons (r1.mono l2) r2)
def cTup (t : CA) : CE := fun en h => (t en h).bind fun xs h1 => if xs.length ≤ 16777216 then .ok (.tup xs) h1 else .bad
def cLst (t : CA) : CE := fun en h => (t en h).bind fun xs h1 => if xs.length ≤ 16777216 then .ok (.ref h1.length) (h1 ++ [.lst xs]) else .bad
theorem tup_new {K : PySem.W.Frag} {ρ : List Addr} {H : Hp} {h : Hm} {p : Addr} {xs : List PV} {vs : List V} (S : Sim T K ρ h H) (n : H p = none) (r : VRels K ρ H xs vs) :
    Le K ρ H ρ (upd H p (.tup vs)) ∧ Sim T K ρ h (upd H p (.tup vs)) ∧ VRel K ρ (upd H p (.tup vs)) (.tup xs) (.ref p) := by
  obtain ⟨l, S'⟩ := S.other (o := .tup vs) n
  exact ⟨l, S', .tup upd_same (r.mono l)⟩
theorem lst_new {K : PySem.W.Frag} {ρ : List Addr} {H : Hp} {h : Hm} {p : Addr} {xs : List PV} {vs : List V} (S : Sim T K ρ h H) (n : H p = none) (r : VRels K ρ H xs vs) :
    Le K ρ H (ρ ++ [p]) (upd H p (.lst vs)) ∧ Sim T K (ρ ++ [p]) (h ++ [.lst xs]) (upd H p (.lst vs)) ∧ VRel K (ρ ++ [p]) (upd H p (.lst vs)) (.ref h.length) (.ref p) := by
  have l0 : Le K ρ H (ρ ++ [p]) (upd H p (.lst vs)) := ⟨fun i a e => by rw [List.getElem?_append_left (List.getElem?_eq_some_iff.mp e).1]; exact e, text_new n⟩
  obtain ⟨l, S', e⟩ := S.new (o := .lst vs) (m := .lst xs) n ⟨vs, r.mono l0, upd_same⟩ rfl
  exact ⟨l, S', .ref e⟩
theorem le_line {n : Nat} (h : n ≤ 16777216) : n ≤ sizeLine := by rw [sizeLine_eq]; exact h
theorem lt_line {n : Nat} (h : n < 16777216) : n < sizeLine := by rw [sizeLine_eq]; exact h
theorem e_tup {k : Nat} (h : PA X es (tA T X.K W ra)) : PE X (.Tuple es k pos) (tE T X.K W (cTup ra)) := by
  refine (pe_tup (pos := pos) h).weak ?_
  rintro σ H Q ⟨ρ, h, en, S, E, p⟩
  refine tR.step S E p fun ρ1 H1 xs h1 vs l1 S1 E1 r1 p1 => ?_
  have p1 : Post T X.K (VR X.K) W σ ρ1 H1 (if xs.length ≤ 16777216 then .ok (.tup xs) h1 else .bad) Q := p1
  have hl := r1.length
  by_cases hz : xs.length ≤ 16777216
  · rw [if_pos hz] at p1
    refine ⟨le_line (hl ▸ hz), fun q hq => ?_⟩
    obtain ⟨l2, S2, r2⟩ := tup_new S1 hq r1
    exact p1 _ _ _ l2 S2 r2
  · rw [if_neg hz] at p1; exact p1.elim
theorem e_lst (h : PA X es (tA T X.K W ra)) : PE X (.List es pos) (tE T X.K W (cLst ra)) := by
  refine (pe_lst (pos := pos) h).weak ?_
  rintro σ H Q ⟨ρ, h, en, S, E, p⟩
  refine tR.step S E p fun ρ1 H1 xs h1 vs l1 S1 E1 r1 p1 => ?_
  have p1 : Post T X.K (VR X.K) W σ ρ1 H1 (if xs.length ≤ 16777216 then .ok (.ref h1.length) (h1 ++ [.lst xs]) else .bad) Q := p1
  have hl := r1.length
  by_cases hz : xs.length ≤ 16777216
  · rw [if_pos hz] at p1
    refine ⟨le_line (hl ▸ hz), fun q hq => ?_⟩
    obtain ⟨l2, S2, r2⟩ := lst_new S1 hq r1
    exact p1 _ _ _ l2 S2 r2
  · rw [if_neg hz] at p1; exact p1.elim

/-! ### subscripts -/
theorem e_ix {r : R2} {g : PV → PV → Hm → R PV} (hr : IxR X r) (hs : Sem2 T X.K r g) (hi : PlainIx b) (ha : PE X a (tE T X.K W ca)) (hb : PE X b (tE T X.K W cb)) : PE X (.Subscript a b pos) (tE T X.K W (cB2 g ca cb)) :=
  (pe_ix (pos := pos) hr ha hb hi).weak fun _ _ _ => t2 hs
def oNone : En → Hm → R (Option Int) := fun _ h => .ok none h
def oSome (a : CE) : En → Hm → R (Option Int) := fun en h => (a en h).bind fun x h1 => match x with
  | .int i => .ok (some i) h1
  | _ => .bad
theorem o_none : PO X none (tO T X.K W oNone) := by
  refine ⟨fun pins s σ H Q I q => po_none.run pins s σ H Q I ?_⟩
  obtain ⟨ρ, h, en, S, E, p⟩ := q
  exact p ρ H _ Le.refl S rfl
theorem o_some (ha : PE X a (tE T X.K W ca)) : PO X (some a) (tO T X.K W (oSome ca)) := by
  refine ⟨fun pins s σ H Q I q => (po_some ha).run pins s σ H Q I ?_⟩
  obtain ⟨ρ, h, en, S, E, p⟩ := q
  refine tR.step S E p fun ρ1 H1 x h1 x' l1 S1 E1 r1 p1 => ?_
  cases r1 with
  | int i => exact ⟨i, rfl, p1 ρ1 H1 _ Le.refl S1 rfl⟩
  | _ => exact p1.elim
def cSl (g : PV → Option Int → Option Int → Hm → R PV) (a : CE) (l u : En → Hm → R (Option Int)) : CE := fun en h => (a en h).bind fun x h1 => (l en h1).bind fun lo h2 => (u en h2).bind fun hi h3 => g x lo hi h3
def SemS (T : Tb) (K : PySem.W.Frag) (r : V → Option Int → Option Int → Hp → VK → Prop) (g : PV → Option Int → Option Int → Hm → R PV) : Prop := ∀ (W : WX) (σ : L2.St) (ρ : List Addr) (h : Hm) (H : Hp) (x : PV) (x' : V) (lo hi : Option Int) (Q : VK), Sim T K ρ h H → VRel K ρ H x x' →
  Post T K (VR K) W σ ρ H (g x lo hi h) Q → r x' lo hi H Q
theorem e_sl {r : V → Option Int → Option Int → Hp → VK → Prop} {g : PV → Option Int → Option Int → Hm → R PV} {lo hi : Option Expr} {cl cu : En → Hm → R (Option Int)} {p2 : Pos} (hr : SlR X r) (hs : SemS T X.K r g) (ha : PE X a (tE T X.K W ca)) (hl : PO X lo (tO T X.K W cl)) (hu : PO X hi (tO T X.K W cu)) :
    PE X (.Subscript a (.Slice lo hi none p2) pos) (tE T X.K W (cSl g ca cl cu)) := by
  refine (pe_slice (pos := pos) hr ha hl hu).weak ?_
  rintro σ H Q ⟨ρ, h, en, S, E, p⟩
  refine tR.step S E p fun ρ1 H1 x h1 x' l1 S1 E1 r1 p1 => ?_
  refine tR.step S1 E1 p1 fun ρ2 H2 y h2 y' l2 S2 E2 r2 p2 => ?_
  refine tR.step S2 E2 p2 fun ρ3 H3 z h3 z' l3 S3 E3 r3 p3 => ?_
  cases (show y = y' from r2)
  cases (show z = z' from r3)
  exact hs W σ ρ3 h3 H3 x x' y z Q S3 (r1.mono (l2.trans l3)) p3

/-! ### calls of what Python brings -/
def cN (g : List PV → Hm → R PV) (t : CA) : CE := fun en h => (t en h).bind fun xs h1 => g xs h1
def cM (g : PV → List PV → Hm → R PV) (a : CE) (t : CA) : CE := fun en h => (a en h).bind fun x h1 => (t en h1).bind fun xs h2 => g x xs h2
theorem e_blt {x : Str} {id : String} {r : List V → Hp → VK → Prop} {g : List PV → Hm → R PV} {p : Pos} (hc : CallR X (.builtin id) r) (hs : SemN T X.K r g) (hg : Gl X x) (hm : X.mg x = none) (hv : bootBuiltins x = some (.builtin id)) (ha : PA X (e :: es) (tA T X.K W ra))
    (hn : x ≠ "__name__") (hdb : (x == ("__debug__" : Str)) = false) (he : starEach (e :: es) X.env = (false, eval e X.env) :: starEach es X.env) (hpl : (backTo pos (starEach es X.env)).any (·.1) = false) : PE X (.Call (.Name x p) (e :: es) [] pos) (tE T X.K W (cN g ra)) := by
  refine (pe_callB hc hg hm hv ha hn hdb he hpl).weak ?_
  rintro σ H Q ⟨ρ, h, en, S, E, p⟩
  exact tR.step S E p fun ρ1 H1 x h1 x' l1 S1 E1 r1 p1 => hs W σ ρ1 h1 H1 x x' Q S1 r1 p1
theorem e_bty {x : Str} {ty : String} {r : List V → Hp → VK → Prop} {g : List PV → Hm → R PV} {p : Pos} (hc : CallR X (.type ty) r) (hs : SemN T X.K r g) (hg : Gl X x) (hm : X.mg x = none) (hv : bootBuiltins x = some (.type ty)) (ha : PA X (e :: es) (tA T X.K W ra))
    (hn : x ≠ "__name__") (hdb : (x == ("__debug__" : Str)) = false) (he : starEach (e :: es) X.env = (false, eval e X.env) :: starEach es X.env) (hpl : (backTo pos (starEach es X.env)).any (·.1) = false) : PE X (.Call (.Name x p) (e :: es) [] pos) (tE T X.K W (cN g ra)) := by
  refine (pe_callTy hc hg hm hv ha hn hdb he hpl).weak ?_
  rintro σ H Q ⟨ρ, h, en, S, E, p⟩
  exact tR.step S E p fun ρ1 H1 x h1 x' l1 S1 E1 r1 p1 => hs W σ ρ1 h1 H1 x x' Q S1 r1 p1
end
end RS

set_option Elab.async false
set_option linter.all false
set_option maxRecDepth 100000
set_option maxHeartbeats 4000000
set_option autoImplicit false
namespace RS
open PySem PySem.Spec PyProof.Rows L2

/-! ### looking at things -/
def lstAt (h : Hm) (n : Nat) : Option (List PV) := match h[n]? with
  | some (.lst xs) => some xs
  | some (.frz xs) => some xs
  | _ => none
def seqOf (x : PV) (h : Hm) : Option (List PV) := match x with
  | .tup xs => some xs
  | .tupK xs => some xs
  | .ref n => lstAt h n
  | _ => none
def intsOf : List PV → Option (List Int)
  | [] => some []
  | .int i :: r => (intsOf r).map (i :: ·)
  | _ => none
theorem intsOf_eq : ∀ {xs : List PV} {ns : List Int}, intsOf xs = some ns → xs = ns.map PV.int
  | [], ns, e => by cases e; rfl
  | .int i :: r, ns, e => by
    simp only [intsOf, Option.map_eq_some_iff] at e
    obtain ⟨t, h, rfl⟩ := e
    rw [intsOf_eq h]; rfl
  | .non :: _, _, e => by cases e
  | .bl _ :: _, _, e => by cases e
  | .str _ :: _, _, e => by cases e
  | .tup _ :: _, _, e => by cases e
  | .tupK _ :: _, _, e => by cases e
  | .ref _ :: _, _, e => by cases e
@[simp] theorem intsOf_map (ns : List Int) : intsOf (ns.map PV.int) = some ns := by
  induction ns with
  | nil => rfl
  | cons a t ih => simp [intsOf, ih]
section
variable {T : Tb} {K : PySem.W.Frag} {ρ : List Addr} {H : Hp} {h : Hm}
theorem lstAt_of {n : Nat} {a : Addr} {xs : List PV} (S : Sim T K ρ h H) (e : lstAt h n = some xs) (ea : ρ[n]? = some a) : ∃ vs, VRels K ρ H xs vs ∧ SqL K H a vs := by
  unfold lstAt at e
  split at e
  · rename_i ys q
    cases e
    exact ORel.lst_of (.inl (S.at q ea))
  · rename_i ys q
    cases e
    exact ORel.lst_of (.inr (S.at q ea))
  · cases e
theorem seqOf_of {x : PV} {x' : V} {xs : List PV} (S : Sim T K ρ h H) (e : seqOf x h = some xs) (r : VRel K ρ H x x') : ∃ a vs, x' = .ref a ∧ VRels K ρ H xs vs ∧ (SqL K H a vs ∨ SqT K H a vs) := by
  cases r with
  | tup ht hr => cases e; exact ⟨_, _, rfl, hr, .inr (SqT.of ht)⟩
  | tupK ht hr => cases e; exact ⟨_, _, rfl, hr, .inr (tpart ht)⟩
  | ref ea =>
    obtain ⟨vs, r, q⟩ := lstAt_of S e ea
    exact ⟨_, vs, rfl, r, .inl q⟩
  | _ => cases e
theorem lst_mut {n : Nat} {a : Addr} {xs : List PV} (S : Sim T K ρ h H) (e : h[n]? = some (.lst xs)) (ea : ρ[n]? = some a) : ∃ vs, VRels K ρ H xs vs ∧ H a = some (.lst vs) := S.at e ea
theorem VRels.ints_inv : ∀ {ns : List Int} {vs : List V}, VRels K ρ H (ns.map PV.int) vs → vs = ns.map V.int
  | [], _, .nil => rfl
  | _ :: _, _, .cons (.int _) t => by rw [t.ints_inv]; rfl
/-- a list is written -/
theorem lst_write {n : Nat} {a : Addr} {xs ys : List PV} {ws : List V} (S : Sim T K ρ h H) (e : h[n]? = some (.lst xs)) (ea : ρ[n]? = some a) (r : VRels K ρ H ys ws) :
    Le K ρ H ρ (upd H a (.lst ws)) ∧ Sim T K ρ (h.set n (.lst ys)) (upd H a (.lst ws)) := S.write (m := .lst xs) (m' := .lst ys) e ea rfl rfl fun l => ⟨ws, r.mono l, upd_same⟩

/-! ### arithmetic -/
def mulOk (i j : Int) : Prop := i.natAbs < 2 ^ 64 ∨ j.natAbs < 2 ^ 64 ∨ (i.natAbs < 2 ^ 4000 ∧ j.natAbs < 2 ^ 4000)
instance (i j : Int) : Decidable (mulOk i j) := by unfold mulOk; infer_instance
def divOk (j : Int) : Prop := j ≠ 0 ∧ (j.natAbs < 2 ^ 30 ∨ j.natAbs < 2 ^ 4000)
instance (j : Int) : Decidable (divOk j) := by unfold divOk; infer_instance
def powOk (i j : Int) : Prop := 0 ≤ j ∧ j ≤ 1000000 ∧ i.natAbs < 2 ^ 64
instance (i j : Int) : Decidable (powOk i j) := by unfold powOk; infer_instance
def newL (xs : List PV) (h : Hm) : R PV := .ok (.ref h.length) (h ++ [.lst xs])
def pAdd (x y : PV) (h : Hm) : R PV := match x, y with
  | .int i, .int j => .ok (.int (i + j)) h
  | .str a, .str b => if a.length + b.length ≤ 16777216 then .ok (.str (a ++ b)) h else .bad
  | .tup a, .tup b => if a.length + b.length ≤ 16777216 then .ok (.tup (a ++ b)) h else .bad
  | .ref n, .ref m => match h[n]?, h[m]? with
    | some (.lst a), some (.lst b) => if a.length + b.length ≤ 16777216 then newL (a ++ b) h else .bad
    | _, _ => .bad
  | _, _ => .bad
def pSub (x y : PV) (h : Hm) : R PV := match x, y with
  | .int i, .int j => .ok (.int (i - j)) h
  | _, _ => .bad
def pMul (x y : PV) (h : Hm) : R PV := match x, y with
  | .int i, .int j => if mulOk i j then .ok (.int (i * j)) h else .bad
  | .ref n, .int k => match h[n]? with
    | some (.lst a) => if 0 ≤ k ∧ a.length * k.toNat ≤ 16777216 ∧ k < 2 ^ 62 then newL (List.replicate k.toNat a).flatten h else .bad
    | _ => .bad
  | _, _ => .bad
def pDiv (x y : PV) (h : Hm) : R PV := match x, y with
  | .int i, .int j => if divOk j then .ok (.int (i.fdiv j)) h else .bad
  | _, _ => .bad
def pMod (x y : PV) (h : Hm) : R PV := match x, y with
  | .int i, .int j => if j ≠ 0 then .ok (.int (i.fmod j)) h else .bad
  | _, _ => .bad
def pPow (x y : PV) (h : Hm) : R PV := match x, y with
  | .int i, .int j => if powOk i j then .ok (.int (i ^ j.toNat)) h else .bad
  | _, _ => .bad
def pShl (x y : PV) (h : Hm) : R PV := match x, y with
  | .int i, .int j => if powOk i j then .ok (.int (i * 2 ^ j.toNat)) h else .bad
  | _, _ => .bad
def pShr (x y : PV) (h : Hm) : R PV := match x, y with
  | .int i, .int j => if 0 ≤ j then .ok (.int (i / 2 ^ j.toNat)) h else .bad
  | _, _ => .bad
def pAnd (x y : PV) (h : Hm) : R PV := match x, y with
  | .int i, .int j => .ok (.int (Builtin.bitAnd i j)) h
  | _, _ => .bad
def pOr (x y : PV) (h : Hm) : R PV := match x, y with
  | .int i, .int j => .ok (.int (Builtin.bitOr i j)) h
  | _, _ => .bad
def pXor (x y : PV) (h : Hm) : R PV := match x, y with
  | .int i, .int j => .ok (.int (Builtin.bitXor i j)) h
  | _, _ => .bad
def pNeg (x : PV) (h : Hm) : R PV := match x with
  | .int i => .ok (.int (-i)) h
  | _ => .bad
/-- two ints under a condition -/
theorem semI {C C' : Int → Int → Prop} [∀ i j, Decidable (C' i j)] {f : Int → Int → PV} {f' : Int → Int → V} {g : PV → PV → Hm → R PV} (hg : ∀ i j h, g (.int i) (.int j) h = if C' i j then .ok (f i j) h else .bad)
    (hb : ∀ x y h, (∀ i j, ¬ (x = .int i ∧ y = .int j)) → g x y h = .bad) (hc : ∀ i j, C' i j → C i j) (hf : ∀ (ρ : List Addr) (H : Hp) i j, VRel K ρ H (f i j) (f' i j)) : Sem2 T K (rI C f') g := by
  intro W σ ρ h H x y x' y' Q S rx ry p
  by_cases e : ∃ i j, x = .int i ∧ y = .int j
  · obtain ⟨i, j, rfl, rfl⟩ := e
    cases rx
    cases ry
    rw [hg] at p
    by_cases c : C' i j
    · rw [if_pos c] at p
      exact ⟨i, j, rfl, rfl, hc i j c, p ρ H _ Le.refl S (hf ρ H i j)⟩
    · rw [if_neg c] at p; exact p.elim
  · rw [hb x y h fun i j z => e ⟨i, j, z⟩] at p; exact p.elim
theorem semI0 {f : Int → Int → PV} {f' : Int → Int → V} {g : PV → PV → Hm → R PV} (hg : ∀ i j h, g (.int i) (.int j) h = .ok (f i j) h)
    (hb : ∀ x y h, (∀ i j, ¬ (x = .int i ∧ y = .int j)) → g x y h = .bad) (hf : ∀ (ρ : List Addr) (H : Hp) i j, VRel K ρ H (f i j) (f' i j)) : Sem2 T K (rI0 f') g := by
  intro W σ ρ h H x y x' y' Q S rx ry p
  by_cases e : ∃ i j, x = .int i ∧ y = .int j
  · obtain ⟨i, j, rfl, rfl⟩ := e
    cases rx
    cases ry
    rw [hg] at p
    exact ⟨i, j, rfl, rfl, p ρ H _ Le.refl S (hf ρ H i j)⟩
  · rw [hb x y h fun i j z => e ⟨i, j, z⟩] at p; exact p.elim
def rDivX : R2 := rI (fun _ j => j ≠ 0 ∧ j.natAbs.log2 < 9000) fun i j => .int (i.fdiv j)
theorem op_divX {X : Cx} : OpR X (binaryOp .FloorDiv) rDivX := opI fun i j _ _ _ _ _ hc q => floordiv_int hc.1 q (.inl (PyProof.noPylong_of_log2 hc.2))
def rMulX : R2 := rI (fun i j => CMul i j ∨ CMulW i j) fun i j => .int (i * j)
theorem op_mulX {X : Cx} : OpR X (binaryOp .Mult) rMulX := by
  intro pins s σ H x y v u Q I rx ry h
  obtain ⟨i, j, rfl, rfl, hc, q⟩ := h
  rcases hc with hc | hc
  · exact op_mul pins s σ H _ _ v u Q I rx ry ⟨i, j, rfl, rfl, hc, q⟩
  · exact op_mulW pins s σ H _ _ v u Q I rx ry ⟨i, j, rfl, rfl, hc, q⟩
theorem abs64 {i : Int} (h : i.natAbs < 2 ^ 64) : -(2 ^ 64) < i ∧ i < 2 ^ 64 := by omega
theorem s_sub : Sem2 T K (rI0 fun i j => .int (i - j)) pSub := semI0 (fun _ _ _ => rfl) (fun x y h z => by cases x <;> cases y <;> first | rfl | exact absurd ⟨rfl, rfl⟩ (z _ _)) fun _ _ _ _ => .int _
theorem s_div : Sem2 T K rDivX pDiv := semI (C' := fun _ j => divOk j) (fun _ _ _ => rfl) (fun x y h z => by cases x <;> cases y <;> first | rfl | exact absurd ⟨rfl, rfl⟩ (z _ _)) (fun i j hc => by
    obtain ⟨h0, h1 | h1⟩ := hc
    · exact ⟨h0, Nat.lt_of_lt_of_le (PySem.Flt.log2_lt_of (by decide) h1) (by decide)⟩
    · exact ⟨h0, Nat.lt_of_lt_of_le (PySem.Flt.log2_lt_of (by decide) h1) (by decide)⟩) fun _ _ _ _ => .int _
theorem s_mod : Sem2 T K (rI (fun _ j => j ≠ 0) fun i j => .int (i.fmod j)) pMod := semI (C' := fun _ j => j ≠ 0) (fun _ _ _ => rfl) (fun x y h z => by cases x <;> cases y <;> first | rfl | exact absurd ⟨rfl, rfl⟩ (z _ _)) (fun _ _ h => h) fun _ _ _ _ => .int _
theorem s_pow : Sem2 T K (rI CPow fun i j => .int (i ^ j.toNat)) pPow := semI (C' := powOk) (fun _ _ _ => rfl) (fun x y h z => by cases x <;> cases y <;> first | rfl | exact absurd ⟨rfl, rfl⟩ (z _ _)) (fun _ _ h => h) fun _ _ _ _ => .int _
theorem s_shl : Sem2 T K (rI CPow fun i j => .int (i * 2 ^ j.toNat)) pShl := semI (C' := powOk) (fun _ _ _ => rfl) (fun x y h z => by cases x <;> cases y <;> first | rfl | exact absurd ⟨rfl, rfl⟩ (z _ _)) (fun _ _ h => h) fun _ _ _ _ => .int _
theorem s_shr : Sem2 T K (rI (fun _ j => 0 ≤ j) fun i j => .int (i / 2 ^ j.toNat)) pShr := semI (C' := fun _ j => 0 ≤ j) (fun _ _ _ => rfl) (fun x y h z => by cases x <;> cases y <;> first | rfl | exact absurd ⟨rfl, rfl⟩ (z _ _)) (fun _ _ h => h) fun _ _ _ _ => .int _
theorem s_and : Sem2 T K (rI0 fun i j => .int (Builtin.bitAnd i j)) pAnd := semI0 (fun _ _ _ => rfl) (fun x y h z => by cases x <;> cases y <;> first | rfl | exact absurd ⟨rfl, rfl⟩ (z _ _)) fun _ _ _ _ => .int _
theorem s_or : Sem2 T K (rI0 fun i j => .int (Builtin.bitOr i j)) pOr := semI0 (fun _ _ _ => rfl) (fun x y h z => by cases x <;> cases y <;> first | rfl | exact absurd ⟨rfl, rfl⟩ (z _ _)) fun _ _ _ _ => .int _
theorem s_xor : Sem2 T K (rI0 fun i j => .int (Builtin.bitXor i j)) pXor := semI0 (fun _ _ _ => rfl) (fun x y h z => by cases x <;> cases y <;> first | rfl | exact absurd ⟨rfl, rfl⟩ (z _ _)) fun _ _ _ _ => .int _
theorem s_neg : Sem1 T K (rU fun i => .int (-i)) pNeg := by
  intro W σ ρ h H x x' Q S rx p
  cases rx with
  | int i => exact ⟨i, rfl, p ρ H _ Le.refl S (.int _)⟩
  | _ => exact p.elim
def rMul2 : R2 := fun x y H Q => rMulX x y H Q ∨ rRep x y H Q
theorem op_mul2 {X : Cx} : OpR X (binaryOp .Mult) rMul2 := op_mulX.or op_rep
theorem VRels.rep {xs : List PV} {vs : List V} (r : VRels K ρ H xs vs) : ∀ k : Nat, VRels K ρ H (List.replicate k xs).flatten (List.replicate k vs).flatten
  | 0 => .nil
  | k + 1 => by
    rw [List.replicate_succ, List.replicate_succ, List.flatten_cons, List.flatten_cons]
    exact r.append (VRels.rep r k)
theorem s_mul : Sem2 T K rMul2 pMul := by
  intro W σ ρ h H x y x' y' Q S rx ry p
  cases rx with
  | int i =>
    cases ry with
    | int j =>
      dsimp only [pMul] at p
      by_cases c : mulOk i j
      · rw [if_pos c] at p
        refine .inl ⟨i, j, rfl, rfl, ?_, p ρ H _ Le.refl S (.int _)⟩
        rcases c with c | c | ⟨c1, c2⟩
        · exact .inl (.inl (abs64 c))
        · exact .inl (.inr (abs64 c))
        · exact .inr (wide_mul c1 c2 (by decide) (by decide) (by decide))
      · rw [if_neg c] at p; exact p.elim
    | _ => exact p.elim
  | @ref n a ea =>
    cases ry with
    | int k =>
      dsimp only [pMul] at p
      split at p
      · rename_i xs e
        by_cases c : 0 ≤ k ∧ xs.length * k.toNat ≤ 16777216 ∧ k < 2 ^ 62
        · rw [if_pos c] at p
          obtain ⟨vs, r, e'⟩ := lst_mut S e ea
          obtain ⟨c0, c1, c2⟩ := c
          refine .inr ⟨a, k, vs, rfl, rfl, e', by omega, by omega, le_line (by rw [← r.length]; exact c1), fun q hq => ?_⟩
          obtain ⟨l2, S2, r2⟩ := lst_new S hq (r.rep k.toNat)
          exact p _ _ _ l2 S2 r2
        · rw [if_neg c] at p; exact p.elim
      · exact p.elim
    | _ => exact p.elim
  | _ => exact p.elim
/-- + -/
def rAdd2 (K : PySem.W.Frag) : R2 := fun x y H Q => rI0 (fun i j => .int (i + j)) x y H Q ∨ (∃ i j, x = .str i ∧ y = .str j ∧ i.length + j.length ≤ sizeLine ∧ Q (.str (i ++ j)) H) ∨ rCat x y H Q ∨ rCatA K x y H Q
theorem op_add2 {X : Cx} : OpR X (binaryOp .Add) (rAdd2 X.K) := op_add.or (op_add_str.or (op_cat.or op_catA))
theorem str_app (a b : List Nat) : (⟨a.toArray⟩ : Str) ++ (⟨b.toArray⟩ : Str) = ⟨(a ++ b).toArray⟩ := by
  show Str.append _ _ = _
  unfold Str.append
  simp
theorem str_len (a : List Nat) : (⟨a.toArray⟩ : Str).length = a.length := by unfold Str.length; simp
theorem s_add : Sem2 T K (rAdd2 K) pAdd := by
  intro W σ ρ h H x y x' y' Q S rx ry p
  cases rx with
  | int i =>
    cases ry with
    | int j => exact .inl ⟨i, j, rfl, rfl, p ρ H _ Le.refl S (.int _)⟩
    | _ => exact p.elim
  | str a =>
    cases ry with
    | str b =>
      dsimp only [pAdd] at p
      by_cases c : a.length + b.length ≤ 16777216
      · rw [if_pos c] at p
        refine .inr (.inl ⟨_, _, rfl, rfl, le_line (by rw [str_len, str_len]; exact c), ?_⟩)
        rw [str_app]
        exact p ρ H _ Le.refl S (.str _)
      · rw [if_neg c] at p; exact p.elim
    | _ => exact p.elim
  | @tup a xs vs ea r =>
    cases ry with
    | @tup b ys ws eb r2 =>
      dsimp only [pAdd] at p
      by_cases c : xs.length + ys.length ≤ 16777216
      · rw [if_pos c] at p
        refine .inr (.inr (.inr ⟨a, b, vs, ws, rfl, rfl, SqT.of ea, SqT.of eb, le_line (by rw [← r.length, ← r2.length]; exact c), fun z => ?_, fun _ z => ?_, fun _ _ q hq => ?_⟩))
        · subst z; cases r
          exact p ρ H _ Le.refl S (.tup eb r2)
        · subst z; cases r2
          rw [List.append_nil] at p
          exact p ρ H _ Le.refl S (.tup ea r)
        · obtain ⟨l2, S2, r3⟩ := tup_new S hq (r.append r2)
          exact p _ _ _ l2 S2 r3
      · rw [if_neg c] at p; exact p.elim
    | _ => exact p.elim
  | @ref n a ea =>
    cases ry with
    | @ref m b eb =>
      dsimp only [pAdd] at p
      split at p
      · rename_i xs ys e1 e2
        by_cases c : xs.length + ys.length ≤ 16777216
        · rw [if_pos c] at p
          obtain ⟨vs, r, e'⟩ := lst_mut S e1 ea
          obtain ⟨ws, r2, e2'⟩ := lst_mut S e2 eb
          refine .inr (.inr (.inl ⟨a, b, vs, ws, rfl, rfl, e', e2', le_line (by rw [← r.length, ← r2.length]; exact c), fun q hq => ?_⟩))
          obtain ⟨l2, S2, r3⟩ := lst_new S hq (r.append r2)
          exact p _ _ _ l2 S2 r3
        · rw [if_neg c] at p; exact p.elim
      · exact p.elim
    | _ => exact p.elim
  | _ => exact p.elim

/-! ### order -/
def pLt (x y : PV) (h : Hm) : R PV := match x, y with
  | .int i, .int j => .ok (.bl (decide (i < j))) h
  | .str a, .str b => .ok (.bl (decide (a < b))) h
  | _, _ => .bad
def pLe (x y : PV) (h : Hm) : R PV := match x, y with
  | .int i, .int j => .ok (.bl (decide (i ≤ j))) h
  | .str a, .str b => .ok (.bl (!decide (b < a))) h
  | _, _ => .bad
def pGt (x y : PV) (h : Hm) : R PV := match x, y with
  | .int i, .int j => .ok (.bl (decide (j < i))) h
  | .str a, .str b => .ok (.bl (decide (b < a))) h
  | _, _ => .bad
def pGe (x y : PV) (h : Hm) : R PV := match x, y with
  | .int i, .int j => .ok (.bl (decide (j ≤ i))) h
  | .str a, .str b => .ok (.bl (!decide (a < b))) h
  | _, _ => .bad
def rSS (f : List Nat → List Nat → Bool) : R2 := fun x y H Q => ∃ i j, x = .str i ∧ y = .str j ∧ Q (.bl (f i.cps.toList j.cps.toList)) H
theorem semIS {g : PV → PV → Hm → R PV} {f : Int → Int → Bool} {f2 : List Nat → List Nat → Bool} (h1 : ∀ i j h, g (.int i) (.int j) h = .ok (.bl (f i j)) h) (h2 : ∀ i j h, g (.str i) (.str j) h = .ok (.bl (f2 i j)) h)
    (hb : ∀ x y h, (∀ i j, ¬ (x = .int i ∧ y = .int j)) → (∀ i j, ¬ (x = .str i ∧ y = .str j)) → g x y h = .bad) : Sem2 T K (fun x y H Q => rI0 (fun i j => .bl (f i j)) x y H Q ∨ rSS f2 x y H Q) g := by
  intro W σ ρ h H x y x' y' Q S rx ry p
  by_cases e : ∃ i j, x = .int i ∧ y = .int j
  · obtain ⟨i, j, rfl, rfl⟩ := e
    cases rx; cases ry
    rw [h1] at p
    exact .inl ⟨i, j, rfl, rfl, p ρ H _ Le.refl S (.bl _)⟩
  · by_cases e2 : ∃ i j, x = .str i ∧ y = .str j
    · obtain ⟨i, j, rfl, rfl⟩ := e2
      cases rx; cases ry
      rw [h2] at p
      exact .inr ⟨_, _, rfl, rfl, p ρ H _ Le.refl S (.bl _)⟩
    · rw [hb x y h (fun i j z => e ⟨i, j, z⟩) fun i j z => e2 ⟨i, j, z⟩] at p; exact p.elim
theorem s_lt : Sem2 T K (fun x y H Q => rI0 (fun i j => .bl (decide (i < j))) x y H Q ∨ rSS (fun a b => decide (a < b)) x y H Q) pLt := semIS (fun _ _ _ => rfl) (fun _ _ _ => rfl) fun x y h z z2 => by cases x <;> cases y <;> first | rfl | exact absurd ⟨rfl, rfl⟩ (z _ _) | exact absurd ⟨rfl, rfl⟩ (z2 _ _)
theorem s_le : Sem2 T K (fun x y H Q => rI0 (fun i j => .bl (decide (i ≤ j))) x y H Q ∨ rSS (fun a b => !decide (b < a)) x y H Q) pLe := semIS (fun _ _ _ => rfl) (fun _ _ _ => rfl) fun x y h z z2 => by cases x <;> cases y <;> first | rfl | exact absurd ⟨rfl, rfl⟩ (z _ _) | exact absurd ⟨rfl, rfl⟩ (z2 _ _)
theorem s_gt : Sem2 T K (fun x y H Q => rI0 (fun i j => .bl (decide (j < i))) x y H Q ∨ rSS (fun a b => decide (b < a)) x y H Q) pGt := semIS (fun _ _ _ => rfl) (fun _ _ _ => rfl) fun x y h z z2 => by cases x <;> cases y <;> first | rfl | exact absurd ⟨rfl, rfl⟩ (z _ _) | exact absurd ⟨rfl, rfl⟩ (z2 _ _)
theorem s_ge : Sem2 T K (fun x y H Q => rI0 (fun i j => .bl (decide (j ≤ i))) x y H Q ∨ rSS (fun a b => !decide (a < b)) x y H Q) pGe := semIS (fun _ _ _ => rfl) (fun _ _ _ => rfl) fun x y h z z2 => by cases x <;> cases y <;> first | rfl | exact absurd ⟨rfl, rfl⟩ (z _ _) | exact absurd ⟨rfl, rfl⟩ (z2 _ _)
theorem op_lt2 {X : Cx} : OpR X (compareOp .Lt) (fun x y H Q => rI0 (fun i j => .bl (decide (i < j))) x y H Q ∨ rSS (fun a b => decide (a < b)) x y H Q) := op_lt.or op_lt_str
theorem op_le2 {X : Cx} : OpR X (compareOp .LtE) (fun x y H Q => rI0 (fun i j => .bl (decide (i ≤ j))) x y H Q ∨ rSS (fun a b => !decide (b < a)) x y H Q) := op_le.or op_le_str
theorem op_gt2 {X : Cx} : OpR X (compareOp .Gt) (fun x y H Q => rI0 (fun i j => .bl (decide (j < i))) x y H Q ∨ rSS (fun a b => decide (b < a)) x y H Q) := op_gt.or op_gt_str
theorem op_ge2 {X : Cx} : OpR X (compareOp .GtE) (fun x y H Q => rI0 (fun i j => .bl (decide (j ≤ i))) x y H Q ∨ rSS (fun a b => !decide (a < b)) x y H Q) := op_ge.or op_ge_str

/-! ### equality -/
mutual
/-- the data that a value stands for; its depth at most the number -/
def toD (h : Hm) : Nat → PV → Option PyData
  | 0, _ => none
  | _ + 1, .non => some .none
  | _ + 1, .bl b => some (.bool b)
  | _ + 1, .int i => some (.int i)
  | _ + 1, .str s => if s.all (· < 0x110000) then some (.str ⟨s.toArray⟩) else none
  | n + 1, .tup xs => (toDs h n xs).map .tuple
  | n + 1, .tupK xs => (toDs h n xs).map .tuple
  | n + 1, .ref m => match lstAt h m with
    | some xs => (toDs h n xs).map .list
    | none => none
def toDs (h : Hm) : Nat → List PV → Option (List PyData)
  | _, [] => some []
  | n, x :: xs => (toD h n x).bind fun d => (toDs h n xs).map (d :: ·)
end
mutual
theorem toD_rel (S : Sim T K ρ h H) : ∀ (n : Nat) (x : PV) (v : V) (d : PyData), toD h n x = some d → VRel K ρ H x v → Dp K H v d ∧ d.canLay0 = true ∧ d.depth ≤ n
  | 0, _, _, _, e, _ => by simp [toD] at e
  | n + 1, .non, _, d, e, r => by
    simp only [toD, Option.some.injEq] at e; subst e; cases r
    exact ⟨.non, by simp [PyData.canLay0], by simp [PyData.depth]⟩
  | n + 1, .bl b, _, d, e, r => by
    simp only [toD, Option.some.injEq] at e; subst e; cases r
    exact ⟨.bl b, by simp [PyData.canLay0], by simp [PyData.depth]⟩
  | n + 1, .int i, _, d, e, r => by
    simp only [toD, Option.some.injEq] at e; subst e; cases r
    exact ⟨.int i, by simp [PyData.canLay0], by simp [PyData.depth]⟩
  | n + 1, .str s, _, d, e, r => by
    simp only [toD] at e
    split at e
    · rename_i hs
      cases e; cases r
      refine ⟨.str _, ?_, by simp [PyData.depth]⟩
      simp only [PyData.canLay0, PyData.strOk]
      simpa using hs
    · cases e
  | n + 1, .tup xs, _, d, e, r => by
    simp only [toD, Option.map_eq_some_iff] at e
    obtain ⟨ds, e, rfl⟩ := e
    cases r with
    | tup ht hr =>
      obtain ⟨a, b, c⟩ := toDs_rel S n xs _ ds e hr
      exact ⟨.tup (SqT.of ht) a, by simpa [PyData.canLay0] using b, by simp [PyData.depth]; omega⟩
  | n + 1, .tupK xs, _, d, e, r => by
    simp only [toD, Option.map_eq_some_iff] at e
    obtain ⟨ds, e, rfl⟩ := e
    cases r with
    | tupK ht hr =>
      obtain ⟨a, b, c⟩ := toDs_rel S n xs _ ds e hr
      exact ⟨.tup (tpart ht) a, by simpa [PyData.canLay0] using b, by simp [PyData.depth]; omega⟩
  | n + 1, .ref m, _, d, e, r => by
    simp only [toD] at e
    split at e
    · rename_i xs hx
      simp only [Option.map_eq_some_iff] at e
      obtain ⟨ds, e, rfl⟩ := e
      cases r with
      | ref ea =>
        obtain ⟨vs, hr, hq⟩ := lstAt_of S hx ea
        obtain ⟨a, b, c⟩ := toDs_rel S n xs _ ds e hr
        exact ⟨.lst hq a, by simpa [PyData.canLay0] using b, by simp [PyData.depth]; omega⟩
    · cases e
theorem toDs_rel (S : Sim T K ρ h H) : ∀ (n : Nat) (xs : List PV) (vs : List V) (ds : List PyData), toDs h n xs = some ds → VRels K ρ H xs vs → DpAll K H vs ds ∧ PyData.canLayAll0 ds = true ∧ PyData.depthAll ds ≤ n
  | n, [], _, ds, e, r => by
    simp only [toDs, Option.some.injEq] at e; subst e; cases r
    exact ⟨.nil, by simp [PyData.canLayAll0], by simp [PyData.depthAll]⟩
  | n, x :: xs, _, ds, e, r => by
    simp only [toDs, Option.bind_eq_some_iff, Option.map_eq_some_iff] at e
    obtain ⟨d, e1, ds', e2, rfl⟩ := e
    cases r with
    | cons r1 r2 =>
      obtain ⟨a, b, c⟩ := toD_rel S n x _ d e1 r1
      obtain ⟨a', b', c'⟩ := toDs_rel S n xs _ ds' e2 r2
      exact ⟨.cons a a', by simp [PyData.canLayAll0, b, b'], by simp [PyData.depthAll]; omega⟩
end
def scalP : PV → PV → Bool
  | .non, .non => true | .non, .int _ => true | .int _, .non => true | .non, .bl _ => true | .bl _, .non => true | .non, .str _ => true | .str _, .non => true
  | .int _, .int _ => true | .bl _, .bl _ => true | .str _, .str _ => true
  | .int _, .str _ => true | .str _, .int _ => true | .bl _, .str _ => true | .str _, .bl _ => true
  | _, _ => false
/-- two things compared as data -/
def eqB (x y : PV) (h : Hm) : Option Bool := if scalP x y = true then some (decide (x = y)) else (toD h 60 x).bind fun d => (toD h 60 y).map fun e => PyData.eqv d e
def pEq (x y : PV) (h : Hm) : R PV := match eqB x y h with
  | some b => .ok (.bl b) h
  | none => .bad
def pNe (x y : PV) (h : Hm) : R PV := match eqB x y h with
  | some b => .ok (.bl (!b)) h
  | none => .bad
theorem scal_of {x y : PV} {x' y' : V} (s : scalP x y = true) (rx : VRel K ρ H x x') (ry : VRel K ρ H y y') : scal x' y' = true ∧ decide (x' = y') = decide (x = y) := by
  cases rx <;> cases ry <;> first | (cases s; done) | (refine ⟨rfl, ?_⟩; simp)
theorem shaped_of {d : PyData} (a : d.canLay0 = true) (b : d.depth ≤ 60) : SeqAt.shaped d = true := by
  unfold SeqAt.shaped
  rw [a, decide_eq_true (by omega)]; rfl
theorem eqB_of {x y : PV} {x' y' : V} {b : Bool} (S : Sim T K ρ h H) (e : eqB x y h = some b) (rx : VRel K ρ H x x') (ry : VRel K ρ H y y') :
    (scal x' y' = true ∧ decide (x' = y') = b) ∨ ∃ d e, Dp K H x' d ∧ Dp K H y' e ∧ SeqAt.shaped d = true ∧ SeqAt.shaped e = true ∧ PyData.eqv d e = b := by
  unfold eqB at e
  split at e
  · rename_i s
    cases e
    exact .inl (scal_of s rx ry)
  · simp only [Option.bind_eq_some_iff, Option.map_eq_some_iff] at e
    obtain ⟨d, e1, d2, e2, e3⟩ := e
    obtain ⟨a1, a2, a3⟩ := toD_rel S 60 x _ d e1 rx
    obtain ⟨b1, b2, b3⟩ := toD_rel S 60 y _ d2 e2 ry
    exact .inr ⟨d, d2, a1, b1, shaped_of a2 a3, shaped_of b2 b3, e3⟩
theorem s_eq : Sem2 T K (fun x y H Q => rEq x y H Q ∨ rEqD K x y H Q) pEq := by
  intro W σ ρ h H x y x' y' Q S rx ry p
  unfold pEq at p
  split at p
  · rename_i b e
    rcases eqB_of S e rx ry with ⟨q1, q2⟩ | ⟨d, e', q1, q2, q3, q4, q5⟩
    · exact .inl ⟨q1, by rw [q2]; exact p ρ H _ Le.refl S (.bl _)⟩
    · exact .inr ⟨d, e', q1, q2, q3, q4, by rw [q5]; exact p ρ H _ Le.refl S (.bl _)⟩
  · exact p.elim
theorem s_ne : Sem2 T K (fun x y H Q => rNe x y H Q ∨ rNeD K x y H Q) pNe := by
  intro W σ ρ h H x y x' y' Q S rx ry p
  unfold pNe at p
  split at p
  · rename_i b e
    rcases eqB_of S e rx ry with ⟨q1, q2⟩ | ⟨d, e', q1, q2, q3, q4, q5⟩
    · exact .inl ⟨q1, by rw [q2]; exact p ρ H _ Le.refl S (.bl _)⟩
    · exact .inr ⟨d, e', q1, q2, q3, q4, by rw [q5]; exact p ρ H _ Le.refl S (.bl _)⟩
  · exact p.elim
/-- two dicts that are equal, their values data -/
def sameP (h : Hm) (kb : List (PV × PV)) (p : PV × PV) : Bool := match getP kb p.1 with
  | some v => match toD h 60 p.2, toD h 60 v with
    | some d, some e => PyData.eqv d e
    | _, _ => false
  | none => false
def dictEq (x y : PV) (h : Hm) : Bool := match x, y with
  | .ref a, .ref b => match h[a]?, h[b]? with
    | some (.dK ka), some (.dK kb) => decide (ka.length = kb.length) && ka.all (sameP h kb)
    | _, _ => false
  | _, _ => false
def pEqd (x y : PV) (h : Hm) : R PV := if dictEq x y h = true then .ok (.bl true) h else .bad
def EqW (K : PySem.W.Frag) (H : Hp) (v u : V) : Prop := ∃ d e, Dp K H v d ∧ Dp K H u e ∧ SeqAt.shaped d = true ∧ SeqAt.shaped e = true ∧ PyData.eqv d e = true
def rEqK (K : PySem.W.Frag) : R2 := fun x y H Q => ∃ a b ks ls, x = .ref a ∧ y = .ref b ∧ H a = some (.dK ks) ∧ H b = some (.dK ls) ∧ ks.length = ls.length ∧ (∀ p ∈ ks, ∃ u, valV ls p.1 = some u ∧ EqW K H p.2 u) ∧ Q (.bl true) H
theorem op_eqK {X : Cx} (hu : X.A.units + 65 < cLine) : OpR X (compareOp .Eq) (rEqK X.K) := by
  intro pins s σ H x y v u Q I rx ry h
  obtain ⟨a, b, ks, ls, rfl, rfl, h1, h2, h3, h4, q⟩ := h
  refine eqR_run I (A := X.A) (F := EqW X.K H) (by omega) (fun x y v u g r1 r2 => ?_) (.inr ⟨a, b, ks, ls, rfl, rfl, h1, h2, h3, h4⟩) rx ry _ _ ⟨.bl true, H, I, rfl, q⟩
  obtain ⟨d, e, g1, g2, g3, g4, g5⟩ := g
  obtain ⟨as, q1⟩ := Dp.reads I d x v g1 r1
  obtain ⟨bs, q2⟩ := Dp.reads I e y u g2 r2
  have z := SeqAt.eqAt_reads d e X.A.in1 s v u as bs q1 q2 (SeqAt.canLay_of_shaped g3) (SeqAt.canLay_of_shaped g4) (SeqAt.room_of_shaped g3 (by show X.A.units + 1 + 64 < cLine; omega))
  rw [g5] at z
  exact z.eqP
theorem KRel.len {κ : Type} {f : PV → Option κ} : ∀ {x : List (PV × PV)} {v : List (κ × V)}, KRel f K ρ H x v → x.length = v.length
  | _, _, .nil => rfl
  | _, _, .cons _ _ t => congrArg Nat.succ t.len
theorem KRel.mem {κ : Type} {f : PV → Option κ} : ∀ {x : List (PV × PV)} {v : List (κ × V)}, KRel f K ρ H x v → ∀ q ∈ v, ∃ p ∈ x, f p.1 = some q.1 ∧ VRel K ρ H p.2 q.2
  | _, _, .nil, q, h => by cases h
  | _, _, .cons a b t, q, h => by
    rcases List.mem_cons.mp h with rfl | h
    · exact ⟨_, List.mem_cons_self, a, b⟩
    · obtain ⟨p, h1, h2⟩ := t.mem q h
      exact ⟨p, List.mem_cons_of_mem _ h1, h2⟩
theorem s_eqd : Sem2 T K (rEqK K) pEqd := by
  intro W σ ρ h H x y x' y' Q S rx ry p
  unfold pEqd at p
  split at p
  case isFalse => exact p.elim
  rename_i hd
  unfold dictEq at hd
  split at hd
  case h_2 => cases hd
  rename_i n m
  split at hd
  case h_2 => cases hd
  rename_i ka kb e1 e2
  rw [Bool.and_eq_true, decide_eq_true_eq] at hd
  obtain ⟨d1, d2⟩ := hd
  cases rx with
  | ref ea =>
    cases ry with
    | ref eb =>
      obtain ⟨la, ra, ha⟩ := S.obj _ _ _ e1 ea
      obtain ⟨lb, rb, hb⟩ := S.obj _ _ _ e2 eb
      refine ⟨_, _, la, lb, rfl, rfl, ha, hb, by rw [← ra.len, ← rb.len]; exact d1, fun q hq => ?_, p ρ H _ Le.refl S (.bl _)⟩
      obtain ⟨w, w1, w2, w3⟩ := ra.mem q hq
      have z := List.all_eq_true.mp d2 w w1
      unfold sameP at z
      split at z
      case h_2 => cases z
      rename_i v hv
      split at z
      case h_2 => cases z
      rename_i d e q1 q2
      rcases rb.get (fun {_ _ _} => keyV_inj) w2 with ⟨g, _⟩ | ⟨x, u, g1, g2, g3⟩
      · rw [g] at hv; cases hv
      · rw [g1] at hv
        cases hv
        obtain ⟨a1, a2, a3⟩ := toD_rel S 60 _ _ d q1 w3
        obtain ⟨b1, b2, b3⟩ := toD_rel S 60 _ _ e q2 g3
        exact ⟨u, g2, d, e, a1, b1, shaped_of a2 a3, shaped_of b2 b3, z⟩
  | _ => cases ry
theorem op_eq2 {X : Cx} (hu : X.A.units + 64 < cLine) : OpR X (compareOp .Eq) (fun x y H Q => rEq x y H Q ∨ rEqD X.K x y H Q) := op_eq.or (op_eqD hu)
theorem op_ne2 {X : Cx} (hu : X.A.units + 64 < cLine) : OpR X (compareOp .NotEq) (fun x y H Q => rNe x y H Q ∨ rNeD X.K x y H Q) := op_ne.or (op_neD hu)
/-- is -/
def isB (x y : PV) (h : Hm) : Option Bool := match x, y with
  | _, .non => some (decide (x = .non))
  | .ref n, .ref m => match h[n]?, h[m]? with
    | some (.lst _), some (.lst _) => some (decide (n = m))
    | some (.ins _ _), some (.ins _ _) => some (decide (n = m))
    | _, _ => none
  | _, _ => none
def pIs (x y : PV) (h : Hm) : R PV := match isB x y h with
  | some b => .ok (.bl b) h
  | none => .bad
def pIsN (x y : PV) (h : Hm) : R PV := match isB x y h with
  | some b => .ok (.bl (!b)) h
  | none => .bad
theorem non_iff {x : PV} {x' : V} (r : VRel K ρ H x x') : decide (x' = .non) = decide (x = .non) := by cases r <;> simp
def rIsR (neg : Bool) : R2 := fun x y H Q => ∃ a b oa ob, x = .ref a ∧ y = .ref b ∧ H a = some oa ∧ isObj oa = true ∧ H b = some ob ∧ isObj ob = true ∧ Q (.bl (if neg then !decide (a = b) else decide (a = b))) H
theorem op_is2 {X : Cx} : OpR X (compareOp .Is) (fun x y H Q => (y = .non ∧ Q (.bl (decide (x = .non))) H) ∨ rIsR false x y H Q) := op_isN.or op_is_ref
theorem op_isN2 {X : Cx} : OpR X (compareOp .IsNot) (fun x y H Q => (y = .non ∧ Q (.bl (!decide (x = .non))) H) ∨ rIsR true x y H Q) := op_notN.or op_isnot_ref
theorem isB_of {x y : PV} {x' y' : V} {b : Bool} (S : Sim T K ρ h H) (e : isB x y h = some b) (rx : VRel K ρ H x x') (ry : VRel K ρ H y y') :
    (y' = .non ∧ decide (x' = .non) = b) ∨ ∃ p q op oq, x' = .ref p ∧ y' = .ref q ∧ H p = some op ∧ isObj op = true ∧ H q = some oq ∧ isObj oq = true ∧ decide (p = q) = b := by
  have key : ∀ (n m : Nat) (p q : Addr) (o u : MO), h[n]? = some o → h[m]? = some u → ρ[n]? = some p → ρ[m]? = some q → o.mut = true → u.mut = true → decide (p = q) = decide (n = m) := by
    intro n m p q o u e1 e2 f1 f2 m1 m2
    by_cases z : n = m
    · subst z; rw [f1] at f2; cases f2; simp
    · rw [decide_eq_false z, decide_eq_false]
      intro w; subst w
      exact z (S.inj n m o u p e1 e2 f1 f2 m1 m2)
  unfold isB at e
  split at e
  · cases ry; cases e
    exact .inl ⟨rfl, non_iff rx⟩
  · rename_i n m
    cases rx with
    | ref ea =>
      cases ry with
      | ref eb =>
        split at e
        · rename_i q1 q2
          cases e
          obtain ⟨vs, _, w1⟩ := S.at q1 ea
          obtain ⟨ws, _, w2⟩ := S.at q2 eb
          exact .inr ⟨_, _, _, _, rfl, rfl, w1, rfl, w2, rfl, key _ _ _ _ _ _ q1 q2 ea eb rfl rfl⟩
        · rename_i q1 q2
          cases e
          obtain ⟨_, _, _, w1⟩ := S.at q1 ea
          obtain ⟨_, _, _, w2⟩ := S.at q2 eb
          exact .inr ⟨_, _, _, _, rfl, rfl, w1, rfl, w2, rfl, key _ _ _ _ _ _ q1 q2 ea eb rfl rfl⟩
        · cases e
  · cases e
theorem s_is : Sem2 T K (fun x y H Q => (y = .non ∧ Q (.bl (decide (x = .non))) H) ∨ rIsR false x y H Q) pIs := by
  intro W σ ρ h H x y x' y' Q S rx ry p
  unfold pIs at p
  split at p
  · rename_i b e
    rcases isB_of S e rx ry with ⟨q1, q2⟩ | ⟨p1, q, op, oq, e1, e2, q1, q2, q3, q4, q5⟩
    · exact .inl ⟨q1, by rw [q2]; exact p ρ H _ Le.refl S (.bl _)⟩
    · exact .inr ⟨p1, q, op, oq, e1, e2, q1, q2, q3, q4, by rw [q5]; exact p ρ H _ Le.refl S (.bl _)⟩
  · exact p.elim
theorem s_isN : Sem2 T K (fun x y H Q => (y = .non ∧ Q (.bl (!decide (x = .non))) H) ∨ rIsR true x y H Q) pIsN := by
  intro W σ ρ h H x y x' y' Q S rx ry p
  unfold pIsN at p
  split at p
  · rename_i b e
    rcases isB_of S e rx ry with ⟨q1, q2⟩ | ⟨p1, q, op, oq, e1, e2, q1, q2, q3, q4, q5⟩
    · exact .inl ⟨q1, by rw [q2]; exact p ρ H _ Le.refl S (.bl _)⟩
    · exact .inr ⟨p1, q, op, oq, e1, e2, q1, q2, q3, q4, by rw [q5]; exact p ρ H _ Le.refl S (.bl _)⟩
  · exact p.elim
end
end RS

set_option Elab.async false
set_option linter.all false
set_option maxRecDepth 100000
set_option maxHeartbeats 4000000
set_option autoImplicit false
namespace RS
open PySem PySem.Spec PyProof.Rows L2
section
variable {T : Tb} {K : PySem.W.Frag} {ρ : List Addr} {H : Hp} {h : Hm}

/-! ### in -/
def flatP : PV → Bool
  | .non => true | .bl _ => true | .int _ => true | .str _ => true
  | _ => false
def eqF : PV → PV → Bool
  | .non, .non => true
  | .bl a, .bl b => a == b
  | .bl a, .int b => (if a then 1 else 0) == b
  | .int a, .bl b => a == (if b then 1 else 0)
  | .int a, .int b => a == b
  | .str a, .str b => a == b
  | _, _ => false
theorem flat_of {x : PV} {x' : V} (r : VRel K ρ H x x') : flatV x' = flatP x := by cases r <;> rfl
theorem eqF_of {x y : PV} {x' y' : V} (fx : flatP x = true) (fy : flatP y = true) (rx : VRel K ρ H x x') (ry : VRel K ρ H y y') : eqV x' y' = eqF x y := by
  cases rx <;> cases ry <;> first | rfl | (cases fx; done) | (cases fy; done) | skip
  rename_i a b
  show ((⟨a.toArray⟩ : Str) == ⟨b.toArray⟩) = (a == b)
  rw [Bool.eq_iff_iff]
  simp
theorem allflat_of {xs : List PV} {vs : List V} (r : VRels K ρ H xs vs) : vs.all flatV = xs.all flatP := by
  induction r using VRels.rec (motive_1 := fun _ _ _ => True) with
  | nil => rfl
  | cons r _ _ ih => rw [List.all_cons, List.all_cons, flat_of r, ih]
  | _ => trivial
theorem inF_of {x : PV} {x' : V} (fx : flatP x = true) (rx : VRel K ρ H x x') {xs : List PV} {vs : List V} (r : VRels K ρ H xs vs) (f : xs.all flatP = true) : inV x' vs = xs.any fun y => eqF y x := by
  unfold inV
  induction r using VRels.rec (motive_1 := fun _ _ _ => True) with
  | nil => rfl
  | cons r _ _ ih =>
    rw [List.all_cons, Bool.and_eq_true] at f
    rw [List.any_cons, List.any_cons, eqF_of f.1 fx r rx, ih f.2]
  | _ => trivial
def inB (x y : PV) (h : Hm) : Option Bool := match y with
  | .str s => match x with
    | .str [c] => some (decide (c ∈ s))
    | _ => none
  | .ref n => match h[n]? with
    | some (.dK kvs) => if (keyV x).isSome then some (getP kvs x).isSome else none
    | some (.dT kvs) => if (keyT x).isSome then some (getP kvs x).isSome else none
    | some (.lst xs) => if flatP x && xs.all flatP then some (xs.any fun y => eqF y x) else
        (toD h 60 x).bind fun d => (toDs h 59 xs).map fun ds => ds.any fun z => PyData.eqv z d
    | some (.frz xs) => if flatP x && xs.all flatP then some (xs.any fun y => eqF y x) else none
    | _ => none
  | .tup xs => if flatP x && xs.all flatP then some (xs.any fun y => eqF y x) else none
  | .tupK xs => if flatP x && xs.all flatP then some (xs.any fun y => eqF y x) else none
  | _ => none
def pIn (x y : PV) (h : Hm) : R PV := match inB x y h with
  | some b => .ok (.bl b) h
  | none => .bad
def pNotIn (x y : PV) (h : Hm) : R PV := match inB x y h with
  | some b => .ok (.bl (!b)) h
  | none => .bad
def nb (neg b : Bool) : Bool := if neg then !b else b
def rInX (K : PySem.W.Frag) (neg : Bool) : R2 := fun x y H Q => rIn K neg x y H Q ∨ (∃ a o, y = .ref a ∧ DGet H a x o ∧ Q (.bl (nb neg o.isSome)) H) ∨
  (∃ (c : Nat) (z : Str), x = .str ⟨#[c]⟩ ∧ y = .str z ∧ Q (.bl (nb neg (decide (c ∈ z.cps.toList)))) H) ∨
  ∃ d ds, Dp K H x d ∧ Dp K H y (.list ds) ∧ SeqAt.shaped d = true ∧ SeqAt.shaped (.list ds) = true ∧ Q (.bl (nb neg (ds.any fun z => PyData.eqv z d))) H
theorem op_in_dict {X : Cx} (hu : X.A.units + 1 < cLine) : OpR X (compareOp .In) (fun x y H Q => ∃ a o, y = .ref a ∧ DGet H a x o ∧ Q (.bl (nb false o.isSome)) H) := by
  intro pins s σ H x y v u Q I rx ry q
  obtain ⟨a, o, ey, g, q⟩ := q
  subst ey
  obtain rfl : u = Value.ref a := ry
  exact d_in hu I g rx fun s3 I3 => ⟨.bl o.isSome, H, I3, rfl, q⟩
theorem op_notIn_dict {X : Cx} (hu : X.A.units + 1 < cLine) : OpR X (compareOp .NotIn) (fun x y H Q => ∃ a o, y = .ref a ∧ DGet H a x o ∧ Q (.bl (nb true o.isSome)) H) := by
  intro pins s σ H x y v u Q I rx ry q
  obtain ⟨a, o, ey, g, q⟩ := q
  subst ey
  obtain rfl : u = Value.ref a := ry
  exact d_notIn hu I g rx fun s3 I3 => ⟨.bl (!o.isSome), H, I3, rfl, q⟩
theorem op_inX {X : Cx} (hu : X.A.units + 65 < cLine) : OpR X (compareOp .In) (rInX X.K false) := op_in_seq.or ((op_in_dict (by omega)).or (op_in_sign.or (op_inD hu)))
theorem op_notInX {X : Cx} (hu : X.A.units + 65 < cLine) : OpR X (compareOp .NotIn) (rInX X.K true) := op_notIn_seq.or ((op_notIn_dict (by omega)).or (op_notIn_sign.or (op_notInD hu)))
theorem kV_of {x : PV} {x' : V} {k : L2.Key} (e : keyV x = some k) (r : VRel K ρ H x x') : x' = kV k := by
  cases r <;> simp [keyV] at e <;> subst e <;> rfl
theorem kVs_of : ∀ {xs : List PV} {vs : List V} {k : List L2.Key}, keysV xs = some k → VRels K ρ H xs vs → vs = k.map kV
  | [], _, k, e, .nil => by simp only [keysV, Option.some.injEq] at e; subst e; rfl
  | x :: xs, _, k, e, .cons r t => by
    simp only [keysV, Option.bind_eq_some_iff, Option.some.injEq] at e
    obtain ⟨k1, e1, k2, e2, rfl⟩ := e
    rw [kV_of e1 r, kVs_of e2 t]; rfl
theorem dget_of {n : Nat} {a : Addr} {kvs : List (PV × PV)} {x : PV} {x' : V} (S : Sim T K ρ h H) (ea : ρ[n]? = some a) (rx : VRel K ρ H x x')
    (e : (h[n]? = some (.dK kvs) ∧ (keyV x).isSome = true) ∨ (h[n]? = some (.dT kvs) ∧ (keyT x).isSome = true)) :
    ∃ o, DGet H a x' o ∧ ((getP kvs x = none ∧ o = none) ∨ ∃ z v, getP kvs x = some z ∧ o = some v ∧ VRel K ρ H z v) := by
  rcases e with ⟨e, k⟩ | ⟨e, k⟩
  · obtain ⟨k', hk⟩ := Option.isSome_iff_exists.mp k
    obtain ⟨l, r, q⟩ := S.at e ea
    refine ⟨valV l k', ?_, ?_⟩
    · rw [kV_of hk rx]; exact DGet.k q
    · rcases r.get (fun {_ _ _} => keyV_inj) hk with ⟨a1, a2⟩ | ⟨z, v, a1, a2, a3⟩
      · exact .inl ⟨a1, a2⟩
      · exact .inr ⟨z, v, a1, a2, a3⟩
  · obtain ⟨k', hk⟩ := Option.isSome_iff_exists.mp k
    obtain ⟨l, r, q⟩ := S.at e ea
    cases rx with
    | tup ht hr =>
      have hk2 : keysV _ = some k' := hk
      refine ⟨valV l k', DGet.t q (by rw [ht, kVs_of hk2 hr]), ?_⟩
      rcases r.get (fun {_ _ _} => keyT_inj) hk with ⟨a1, a2⟩ | ⟨z, v, a1, a2, a3⟩
      · exact .inl ⟨a1, a2⟩
      · exact .inr ⟨z, v, a1, a2, a3⟩
    | _ => simp [keyT] at hk
theorem inB_of (neg : Bool) {x y : PV} {x' y' : V} {b : Bool} (S : Sim T K ρ h H) (e : inB x y h = some b) (rx : VRel K ρ H x x') (ry : VRel K ρ H y y') (Q : VK) (q : Q (.bl (nb neg b)) H) : rInX K neg x' y' H Q := by
  have seq : ∀ {p : Addr} {xs : List PV} {vs : List V}, y' = .ref p → (flatP x && xs.all flatP) = true → VRels K ρ H xs vs → (SqL K H p vs ∨ SqT K H p vs) → b = (xs.any fun y => eqF y x) → rInX K neg x' y' H Q := by
    intro p xs vs e1 f r hs eb
    rw [Bool.and_eq_true] at f
    refine .inl ⟨p, vs, e1, hs, by rw [flat_of rx]; exact f.1, by rw [allflat_of r]; exact f.2, ?_⟩
    rw [inF_of f.1 rx r f.2, ← eb]
    exact q
  cases ry with
  | str s =>
    simp only [inB] at e
    split at e
    · rename_i c
      cases e
      cases rx
      refine .inr (.inr (.inl ⟨c, _, rfl, rfl, ?_⟩))
      simpa using q
    · cases e
  | tup ht hr =>
    simp only [inB] at e
    split at e
    · rename_i f
      cases e
      exact seq rfl f hr (.inr (SqT.of ht)) rfl
    · cases e
  | tupK ht hr =>
    simp only [inB] at e
    split at e
    · rename_i f
      cases e
      exact seq rfl f hr (.inr (tpart ht)) rfl
    · cases e
  | @ref n a ea =>
    simp only [inB] at e
    split at e
    · rename_i kvs e1
      split at e
      · rename_i hk
        cases e
        obtain ⟨o, g, c⟩ := dget_of S ea rx (.inl ⟨e1, hk⟩)
        refine .inr (.inl ⟨a, o, rfl, g, ?_⟩)
        rcases c with ⟨c1, c2⟩ | ⟨z, v, c1, c2, _⟩ <;> (rw [c2]; rw [c1] at q; exact q)
      · cases e
    · rename_i kvs e1
      split at e
      · rename_i hk
        cases e
        obtain ⟨o, g, c⟩ := dget_of S ea rx (.inr ⟨e1, hk⟩)
        refine .inr (.inl ⟨a, o, rfl, g, ?_⟩)
        rcases c with ⟨c1, c2⟩ | ⟨z, v, c1, c2, _⟩ <;> (rw [c2]; rw [c1] at q; exact q)
      · cases e
    · rename_i xs e1
      obtain ⟨vs, r, hs⟩ := ORel.lst_of (.inl (S.at e1 ea))
      split at e
      · rename_i f
        cases e
        exact seq rfl f r (.inl hs) rfl
      · simp only [Option.bind_eq_some_iff, Option.map_eq_some_iff] at e
        obtain ⟨d, e2, ds, e3, e4⟩ := e
        obtain ⟨a1, a2, a3⟩ := toD_rel S 60 x _ d e2 rx
        obtain ⟨b1, b2, b3⟩ := toDs_rel S 59 xs _ ds e3 r
        refine .inr (.inr (.inr ⟨d, ds, a1, .lst hs b1, shaped_of a2 a3, shaped_of (by simpa [PyData.canLay0] using b2) (by simp [PyData.depth]; omega), ?_⟩))
        rw [e4]; exact q
    · rename_i xs e1
      split at e
      · rename_i f
        cases e
        obtain ⟨vs, r, hs⟩ := ORel.lst_of (.inr (S.at e1 ea))
        exact seq rfl f r (.inl hs) rfl
      · cases e
    · cases e
  | _ => simp [inB] at e
theorem s_in : Sem2 T K (rInX K false) pIn := by
  intro W σ ρ h H x y x' y' Q S rx ry p
  unfold pIn at p
  split at p
  · rename_i b e
    exact inB_of false S e rx ry Q (p ρ H _ Le.refl S (.bl _))
  · exact p.elim
theorem s_notIn : Sem2 T K (rInX K true) pNotIn := by
  intro W σ ρ h H x y x' y' Q S rx ry p
  unfold pNotIn at p
  split at p
  · rename_i b e
    exact inB_of true S e rx ry Q (p ρ H _ Le.refl S (.bl _))
  · exact p.elim

/-! ### subscripts -/
def pIx (x y : PV) (h : Hm) : R PV := match x with
  | .str s => match y with
    | .int i => if s.length ≤ 16777216 then (match atI s i with | some c => .ok (.str [c]) h | none => .bad) else .bad
    | _ => .bad
  | .tup xs => match y with
    | .int i => (match atI xs i with | some v => .ok v h | none => .bad)
    | _ => .bad
  | .tupK xs => match y with
    | .int i => (match atI xs i with | some v => .ok v h | none => .bad)
    | _ => .bad
  | .ref n => match h[n]? with
    | some (.lst xs) => match y with
      | .int i => (match atI xs i with | some v => .ok v h | none => .bad)
      | _ => .bad
    | some (.frz xs) => match y with
      | .int i => (match atI xs i with | some v => .ok v h | none => .bad)
      | _ => .bad
    | some (.dK kvs) => if (keyV y).isSome then (match getP kvs y with | some v => .ok v h | none => .bad) else .bad
    | some (.dT kvs) => if (keyT y).isSome then (match getP kvs y with | some v => .ok v h | none => .bad) else .bad
    | _ => .bad
  | _ => .bad
def rIxX (K : PySem.W.Frag) : R2 := fun x y H Q => rIx K x y H Q ∨ ∃ a v, x = .ref a ∧ DGet H a y (some v) ∧ Q v H
theorem ix_dict {X : Cx} (hu : X.A.units + 1 < cLine) : IxR X (fun x y H Q => ∃ a v, x = .ref a ∧ DGet H a y (some v) ∧ Q v H) := by
  intro value slice pins s σ H x y v u Q I rx ry q hs
  obtain ⟨a, z, ex, g, q⟩ := q
  subst ex
  obtain rfl : v = Value.ref a := rx
  exact tail_any (dict_typeIs I g) PySem.F.slot_dict_getitem.lookup (d_getItem hu I g ry fun w' s3 I3 rw' => ⟨z, H, I3, rw', q⟩) hs
theorem ix_X {X : Cx} (hu : X.A.units + 1 < cLine) : IxR X (rIxX X.K) := ix_seq.or (ix_dict hu)
theorem atI_of {xs : List PV} {vs : List V} {i : Int} {v : PV} (r : VRels K ρ H xs vs) (e : atI xs i = some v) : ∃ v', atI vs i = some v' ∧ VRel K ρ H v v' := by
  unfold atI at e ⊢
  rw [← r.length]
  simp only [Option.bind_eq_some_iff] at e ⊢
  obtain ⟨j, e1, e2⟩ := e
  obtain ⟨v', e3, rv⟩ := r.get e2
  exact ⟨v', ⟨j, e1, e3⟩, rv⟩
theorem s_ix : Sem2 T K (rIxX K) pIx := by
  intro W σ ρ h H x y x' y' Q S rx ry p
  have dict : ∀ {n : Nat} {a : Addr} {kvs : List (PV × PV)}, x' = .ref a → ρ[n]? = some a → ((h[n]? = some (.dK kvs) ∧ (keyV y).isSome = true) ∨ (h[n]? = some (.dT kvs) ∧ (keyT y).isSome = true)) →
      Post T K (VR K) W σ ρ H (match getP kvs y with | some v => .ok v h | none => .bad) Q → rIxX K x' y' H Q := by
    intro n a kvs ex ea e p
    obtain ⟨o, g, c⟩ := dget_of S ea ry e
    rcases c with ⟨c1, c2⟩ | ⟨z, v, c1, c2, rz⟩
    · rw [c1] at p; exact p.elim
    · rw [c1] at p
      subst c2
      exact .inr ⟨a, v, ex, g, p ρ H _ Le.refl S rz⟩
  cases rx with
  | str s =>
    simp only [pIx] at p
    split at p
    · rename_i i
      cases ry
      by_cases hl : s.length ≤ 16777216
      · rw [if_pos hl] at p
        split at p
        · rename_i c e
          refine .inl (.inr (.inr ⟨⟨s.toArray⟩, i, c, rfl, rfl, le_line (by rw [str_len]; exact hl), by simpa using e, ?_⟩))
          exact p ρ H _ Le.refl S (.str [c])
        · exact p.elim
      · rw [if_neg hl] at p; exact p.elim
    · exact p.elim
  | tup ht hr =>
    simp only [pIx] at p
    split at p
    · rename_i i
      cases ry
      split at p
      · rename_i v e
        obtain ⟨v', e', rv⟩ := atI_of hr e
        exact .inl (.inr (.inl ⟨_, _, i, v', rfl, rfl, SqT.of ht, e', p ρ H _ Le.refl S rv⟩))
      · exact p.elim
    · exact p.elim
  | tupK ht hr =>
    simp only [pIx] at p
    split at p
    · rename_i i
      cases ry
      split at p
      · rename_i v e
        obtain ⟨v', e', rv⟩ := atI_of hr e
        exact .inl (.inr (.inl ⟨_, _, i, v', rfl, rfl, tpart ht, e', p ρ H _ Le.refl S rv⟩))
      · exact p.elim
    · exact p.elim
  | @ref n a ea =>
    simp only [pIx] at p
    split at p
    · rename_i xs e1
      obtain ⟨vs, r, hs⟩ := ORel.lst_of (.inl (S.at e1 ea))
      split at p
      · rename_i i
        cases ry
        split at p
        · rename_i v e
          obtain ⟨v', e', rv⟩ := atI_of r e
          exact .inl (.inl ⟨_, _, i, v', rfl, rfl, hs, e', p ρ H _ Le.refl S rv⟩)
        · exact p.elim
      · exact p.elim
    · rename_i xs e1
      obtain ⟨vs, r, hs⟩ := ORel.lst_of (.inr (S.at e1 ea))
      split at p
      · rename_i i
        cases ry
        split at p
        · rename_i v e
          obtain ⟨v', e', rv⟩ := atI_of r e
          exact .inl (.inl ⟨_, _, i, v', rfl, rfl, hs, e', p ρ H _ Le.refl S rv⟩)
        · exact p.elim
      · exact p.elim
    · rename_i kvs e1
      split at p
      · rename_i hk
        exact dict rfl ea (.inl ⟨e1, hk⟩) p
      · exact p.elim
    · rename_i kvs e1
      split at p
      · rename_i hk
        exact dict rfl ea (.inr ⟨e1, hk⟩) p
      · exact p.elim
    · exact p.elim
  | _ => exact p.elim
/-- the part from lo to hi -/
def cutP {α : Type} (xs : List α) (lo hi : Option Int) : List α := (xs.drop (HT.sIx xs.length 0 lo)).take (HT.sIx xs.length xs.length hi - HT.sIx xs.length 0 lo)
def pSl (x : PV) (lo hi : Option Int) (h : Hm) : R PV := match x with
  | .str s => if s.length ≤ 16777216 then .ok (.str (cutP s lo hi)) h else .bad
  | .tup xs => .ok (.tup (cutP xs lo hi)) h
  | .ref n => match lstAt h n with
    | some xs => newL (cutP xs lo hi) h
    | none => .bad
  | _ => .bad
def rSlX (K : PySem.W.Frag) : V → Option Int → Option Int → Hp → VK → Prop := fun x lo hi H Q => rSlL K x lo hi H Q ∨ rSlA K x lo hi H Q ∨ rSlS x lo hi H Q
theorem sl_X {X : Cx} : SlR X (rSlX X.K) := sl_list.or (sl_tupA.or sl_str)
theorem cut_of {xs : List PV} {vs : List V} (r : VRels K ρ H xs vs) (lo hi : Option Int) : VRels K ρ H (cutP xs lo hi) (cutV vs lo hi) := by
  unfold cutP cutV
  rw [← r.length]
  exact (r.drop _).take _
theorem s_sl : SemS T K (rSlX K) pSl := by
  intro W σ ρ h H x x' lo hi Q S rx p
  cases rx with
  | str s =>
    simp only [pSl] at p
    by_cases hl : s.length ≤ 16777216
    · rw [if_pos hl] at p
      refine .inr (.inr ⟨_, rfl, le_line (by rw [str_len]; exact hl), ?_⟩)
      have e : cutS ⟨s.toArray⟩ lo hi = ⟨(cutP s lo hi).toArray⟩ := by
        unfold cutS cutP
        rw [str_len]
      rw [e]
      exact p ρ H _ Le.refl S (.str _)
    · rw [if_neg hl] at p; exact p.elim
  | @tup a xs vs ht hr =>
    refine .inr (.inl ⟨a, vs, rfl, SqT.of ht, fun hw => ?_, fun hw q hq => ?_⟩)
    · have e : cutP xs lo hi = xs := by
        unfold cutP
        rw [hr.length, hw.1, hw.2, ← hr.length]
        simp
      have p : Post T K (VR K) W σ ρ H (.ok (.tup (cutP xs lo hi)) h) Q := p
      rw [e] at p
      exact p ρ H _ Le.refl S (.tup ht hr)
    · obtain ⟨l2, S2, r2⟩ := tup_new S hq (cut_of hr lo hi)
      exact p _ _ _ l2 S2 r2
  | @ref n a ea =>
    simp only [pSl] at p
    split at p
    · rename_i xs e
      obtain ⟨vs, r, hs⟩ := lstAt_of S e ea
      refine .inl ⟨a, vs, rfl, hs, fun q hq => ?_⟩
      obtain ⟨l2, S2, r2⟩ := lst_new S hq (cut_of r lo hi)
      exact p _ _ _ l2 S2 r2
    · exact p.elim
  | _ => exact p.elim

/-! ### built-in functions -/
inductive BN | len | abs | int | bool | list | tuple | sorted | min | max | sum | str | gcd | dict
def insI (x : Int) : List Int → List Int
  | [] => [x]
  | y :: r => if x ≤ y then x :: y :: r else y :: insI x r
def isort : List Int → List Int
  | [] => []
  | x :: r => insI x (isort r)
theorem insI_perm (x : Int) : ∀ l : List Int, (insI x l).Perm (x :: l)
  | [] => .refl _
  | y :: r => by
    unfold insI
    split
    · exact .refl _
    · exact ((insI_perm x r).cons y).trans (.swap x y r)
theorem isort_perm : ∀ l : List Int, (isort l).Perm l
  | [] => .refl _
  | x :: r => (insI_perm x (isort r)).trans ((isort_perm r).cons x)
theorem insI_sorted (x : Int) : ∀ l : List Int, l.Pairwise (· ≤ ·) → (insI x l).Pairwise (· ≤ ·)
  | [], _ => by simp [insI]
  | y :: r, h => by
    obtain ⟨h1, h2⟩ := List.pairwise_cons.mp h
    unfold insI
    split
    · rename_i hxy
      refine List.pairwise_cons.mpr ⟨fun z hz => ?_, h⟩
      rcases List.mem_cons.mp hz with rfl | hz
      · exact hxy
      · exact Int.le_trans hxy (h1 z hz)
    · rename_i hxy
      refine List.pairwise_cons.mpr ⟨fun z hz => ?_, insI_sorted x r h2⟩
      rcases List.mem_cons.mp ((insI_perm x r).mem_iff.mp hz) with rfl | hz
      · omega
      · exact h1 z hz
theorem isort_sorted : ∀ l : List Int, (isort l).Pairwise (· ≤ ·)
  | [] => .nil
  | x :: r => insI_sorted x _ (isort_sorted r)
theorem isort_uniq {l m : List Int} (hp : m.Perm l) (hs : m.Pairwise (· ≤ ·)) : m = isort l := PySem.W.ksm_same (hp.trans (isort_perm l).symm) hs (isort_sorted l)
def keysP (kvs : List (PV × PV)) : List PV := kvs.map (·.1)
def bi (b : BN) (xs : List PV) (h : Hm) : R PV := match b, xs with
  | .len, [.str s] => if s.length ≤ 16777216 then .ok (.int s.length) h else .bad
  | .len, [.ref n] => match h[n]? with
    | some (.lst ys) => .ok (.int ys.length) h
    | some (.frz ys) => .ok (.int ys.length) h
    | some (.dK kvs) => .ok (.int kvs.length) h
    | _ => .bad
  | .len, [.tup ys] => .ok (.int ys.length) h
  | .len, [.tupK ys] => .ok (.int ys.length) h
  | .abs, [.int i] => .ok (.int (if i < 0 then -i else i)) h
  | .int, [.int i] => .ok (.int i) h
  | .int, [.bl k] => .ok (.int (if k then 1 else 0)) h
  | .bool, [.int i] => .ok (.bl (i != 0)) h
  | .bool, [.bl k] => .ok (.bl k) h
  | .list, [.ref n] => match h[n]? with
    | some (.lst ys) => newL ys h
    | some (.frz ys) => newL ys h
    | some (.dK kvs) => newL (keysP kvs) h
    | _ => .bad
  | .list, [.tup ys] => newL ys h
  | .list, [.tupK ys] => newL ys h
  | .tuple, [.ref n] => match lstAt h n with
    | some ys => .ok (.tup ys) h
    | none => .bad
  | .tuple, [.tup ys] => .ok (.tup ys) h
  | .tuple, [.tupK ys] => .ok (.tupK ys) h
  | .sorted, [.ref n] => match lstAt h n with
    | some ys => match intsOf ys with
      | some ns => newL ((isort ns).map PV.int) h
      | none => .bad
    | none => match h[n]? with
      | some (.dK kvs) => match intsOf (keysP kvs) with
        | some ns => if ns.length < 64 then newL ((isort ns).map PV.int) h else .bad
        | none => .bad
      | _ => .bad
  | .min, [.int i, .int j] => .ok (.int (if j < i then j else i)) h
  | .max, [.int i, .int j] => .ok (.int (if j > i then j else i)) h
  | .max, [.ref n] => match lstAt h n with
    | some ys => match intsOf ys with
      | some ns => match ns.max? with
        | some m => .ok (.int m) h
        | none => .bad
      | none => .bad
    | none => .bad
  | .min, [.ref n] => match lstAt h n with
    | some ys => match intsOf ys with
      | some ns => match ns.min? with
        | some m => .ok (.int m) h
        | none => .bad
      | none => .bad
    | none => .bad
  | .sum, [.ref n] => match lstAt h n with
    | some ys => match intsOf ys with
      | some ns => .ok (.int ns.sum) h
      | none => .bad
    | none => .bad
  | .str, [.int i] => if i.natAbs.log2 < 1920 then .ok (.str ((Str.ofString (toString i)).cps.toList)) h else .bad
  | .dict, [.ref n] => match h[n]? with
    | some (.dK kvs) => .ok (.ref h.length) (h ++ [.dK kvs])
    | _ => .bad
  | .gcd, [.int i, .int j] => .ok (.int ((Nat.gcd i.natAbs j.natAbs : Nat) : Int)) h
  | _, _ => .bad
theorem call_len_dK {X : Cx} : CallR X (.builtin "len") (fun xs H Q => ∃ a kvs, xs = [.ref a] ∧ Rd H a (.dK kvs) ∧ Q (.int kvs.length) H) := by
  intro pins s σ H xs us Q I r q
  obtain ⟨a, kvs, ex, hd, q⟩ := q
  subst ex
  obtain ⟨u, rfl, rx⟩ := vals1 r
  cases rx
  exact d_len I hd fun t s' I' => ⟨.int kvs.length, H, I', ⟨t, rfl⟩, q⟩
def rLenX (K : PySem.W.Frag) : List V → Hp → VK → Prop := fun xs H Q => (∃ p ys, xs = [.ref p] ∧ (SqL K H p ys ∨ SqT K H p ys) ∧ Q (.int ys.length) H) ∨ (∃ z, xs = [.str z] ∧ z.length ≤ sizeLine ∧ Q (.int z.length) H) ∨ (∃ a kvs, xs = [.ref a] ∧ Rd H a (.dK kvs) ∧ Q (.int kvs.length) H)
theorem call_lenX {X : Cx} : CallR X (.builtin "len") (rLenX X.K) := call_len_seq.or (call_len_str.or call_len_dK)
theorem vrels1 {x : PV} {vs : List V} (r : VRels K ρ H [x] vs) : ∃ v, vs = [v] ∧ VRel K ρ H x v := by
  cases r with
  | cons a b => cases b; exact ⟨_, rfl, a⟩
theorem vrels2 {x y : PV} {vs : List V} (r : VRels K ρ H [x, y] vs) : ∃ v w, vs = [v, w] ∧ VRel K ρ H x v ∧ VRel K ρ H y w := by
  cases r with
  | cons a b => cases b with
    | cons c d => cases d; exact ⟨_, _, rfl, a, c⟩
theorem n_len : SemN T K (rLenX K) (bi .len) := by
  intro W σ ρ h H xs vs Q S r p
  unfold bi at p
  split at p <;> first | (rename_i e1 _; cases e1; done) | (rename_i e1; cases e1; done) | skip
  · obtain ⟨v, rfl, r1⟩ := vrels1 r
    cases r1
    split at p
    · rename_i hl
      refine .inr (.inl ⟨_, rfl, le_line (by rw [str_len]; exact hl), ?_⟩)
      rw [str_len]
      exact p ρ H _ Le.refl S (.int _)
    · exact p.elim
  · obtain ⟨v, rfl, r1⟩ := vrels1 r
    cases r1 with
    | ref ea =>
      split at p
      · rename_i e
        obtain ⟨vs, r, hs⟩ := ORel.lst_of (.inl (S.at e ea))
        exact .inl ⟨_, vs, rfl, .inl hs, by rw [← r.length]; exact p ρ H _ Le.refl S (.int _)⟩
      · rename_i e
        obtain ⟨vs, r, hs⟩ := ORel.lst_of (.inr (S.at e ea))
        exact .inl ⟨_, vs, rfl, .inl hs, by rw [← r.length]; exact p ρ H _ Le.refl S (.int _)⟩
      · rename_i e
        obtain ⟨l, r, hs⟩ := S.at e ea
        exact .inr (.inr ⟨_, l, rfl, .inl hs, by rw [← r.length]; exact p ρ H _ Le.refl S (.int _)⟩)
      · exact p.elim
  · obtain ⟨v, rfl, r1⟩ := vrels1 r
    cases r1 with
    | tup ht hr => exact .inl ⟨_, _, rfl, .inr (SqT.of ht), by rw [← hr.length]; exact p ρ H _ Le.refl S (.int _)⟩
  · obtain ⟨v, rfl, r1⟩ := vrels1 r
    cases r1 with
    | tupK ht hr => exact .inl ⟨_, _, rfl, .inr (tpart ht), by rw [← hr.length]; exact p ρ H _ Le.refl S (.int _)⟩
  · exact p.elim
end
end RS

set_option Elab.async false
set_option linter.all false
set_option maxRecDepth 100000
set_option maxHeartbeats 4000000
set_option autoImplicit false
namespace RS
open PySem PySem.Spec PyProof.Rows L2
section
variable {T : Tb} {K : PySem.W.Frag} {ρ : List Addr} {H : Hp} {h : Hm}
theorem keysP_rel {kvs : List (PV × PV)} {l : List (L2.Key × V)} (r : KRel keyV K ρ H kvs l) : VRels K ρ H (keysP kvs) (l.map fun kv => kV kv.1) := by
  induction r with
  | nil => exact .nil
  | @cons k x kvs k' v l hk _ _ ih =>
    refine .cons ?_ ih
    cases k <;> simp [keyV] at hk <;> subst hk
    · exact .int _
    · exact .str _
/-- a list of ints among the arguments -/
theorem ints1 {n : Nat} {a : Addr} {ys : List PV} {ns : List Int} (S : Sim T K ρ h H) (e : lstAt h n = some ys) (ea : ρ[n]? = some a) (e2 : intsOf ys = some ns) : SqL K H a (ns.map V.int) := by
  obtain ⟨vs, r, hs⟩ := lstAt_of S e ea
  rw [intsOf_eq e2] at r
  rw [← r.ints_inv]; exact hs
theorem n_abs : SemN T K (fun xs H Q => ∃ i, xs = [.int i] ∧ Q (.int (if i < 0 then -i else i)) H) (bi .abs) := by
  intro W σ ρ h H xs vs Q S r p
  unfold bi at p
  split at p <;> first | (rename_i e1 _; cases e1; done) | (rename_i e1; cases e1; done) | skip
  · obtain ⟨v, rfl, r1⟩ := vrels1 r
    cases r1
    exact ⟨_, rfl, p ρ H _ Le.refl S (.int _)⟩
  · exact p.elim
theorem n_int : SemN T K (fun xs H Q => (∃ i, xs = [.int i] ∧ Q (.int i) H) ∨ ∃ k, xs = [.bl k] ∧ Q (.int (if k then 1 else 0)) H) (bi .int) := by
  intro W σ ρ h H xs vs Q S r p
  unfold bi at p
  split at p <;> first | (rename_i e1 _; cases e1; done) | (rename_i e1; cases e1; done) | skip
  · obtain ⟨v, rfl, r1⟩ := vrels1 r
    cases r1
    exact .inl ⟨_, rfl, p ρ H _ Le.refl S (.int _)⟩
  · obtain ⟨v, rfl, r1⟩ := vrels1 r
    cases r1
    exact .inr ⟨_, rfl, p ρ H _ Le.refl S (.int _)⟩
  · exact p.elim
theorem n_bool : SemN T K (fun xs H Q => (∃ i, xs = [.int i] ∧ Q (.bl (i != 0)) H) ∨ ∃ k, xs = [.bl k] ∧ Q (.bl k) H) (bi .bool) := by
  intro W σ ρ h H xs vs Q S r p
  unfold bi at p
  split at p <;> first | (rename_i e1 _; cases e1; done) | (rename_i e1; cases e1; done) | skip
  · obtain ⟨v, rfl, r1⟩ := vrels1 r
    cases r1
    exact .inl ⟨_, rfl, p ρ H _ Le.refl S (.bl _)⟩
  · obtain ⟨v, rfl, r1⟩ := vrels1 r
    cases r1
    exact .inr ⟨_, rfl, p ρ H _ Le.refl S (.bl _)⟩
  · exact p.elim
def rListX (K : PySem.W.Frag) : List V → Hp → VK → Prop := fun xs H Q => (∃ p ys, xs = [.ref p] ∧ (SqL K H p ys ∨ SqT K H p ys) ∧ ∀ l, H l = none → Q (.ref l) (upd H l (.lst ys))) ∨
  (∃ (a : Addr) (kvs : List (L2.Key × V)), xs = [.ref a] ∧ Rd H a (.dK kvs) ∧ ∀ p, H p = none → Q (.ref p) (upd H p (.lst (kvs.map fun kv => kV kv.1))))
theorem call_listX {X : Cx} (hc : X.calm = true) : CallR X (.type "list") (rListX X.K) := call_list_of.or (call_listD hc)
theorem n_list : SemN T K (rListX K) (bi .list) := by
  intro W σ ρ h H xs vs Q S r p
  unfold bi at p
  split at p <;> first | (rename_i e1 _; cases e1; done) | (rename_i e1; cases e1; done) | skip
  · obtain ⟨v, rfl, r1⟩ := vrels1 r
    cases r1 with
    | ref ea =>
      split at p
      · rename_i e
        obtain ⟨vs, r, hs⟩ := ORel.lst_of (.inl (S.at e ea))
        refine .inl ⟨_, vs, rfl, .inl hs, fun q hq => ?_⟩
        obtain ⟨l2, S2, r2⟩ := lst_new S hq r
        exact p _ _ _ l2 S2 r2
      · rename_i e
        obtain ⟨vs, r, hs⟩ := ORel.lst_of (.inr (S.at e ea))
        refine .inl ⟨_, vs, rfl, .inl hs, fun q hq => ?_⟩
        obtain ⟨l2, S2, r2⟩ := lst_new S hq r
        exact p _ _ _ l2 S2 r2
      · rename_i e
        obtain ⟨l, r, hs⟩ := S.at e ea
        refine .inr ⟨_, l, rfl, .inl hs, fun q hq => ?_⟩
        obtain ⟨l2, S2, r2⟩ := lst_new S hq (keysP_rel r)
        exact p _ _ _ l2 S2 r2
      · exact p.elim
  · obtain ⟨v, rfl, r1⟩ := vrels1 r
    cases r1 with
    | tup ht hr =>
      refine .inl ⟨_, _, rfl, .inr (SqT.of ht), fun q hq => ?_⟩
      obtain ⟨l2, S2, r2⟩ := lst_new S hq hr
      exact p _ _ _ l2 S2 r2
  · obtain ⟨v, rfl, r1⟩ := vrels1 r
    cases r1 with
    | tupK ht hr =>
      refine .inl ⟨_, _, rfl, .inr (tpart ht), fun q hq => ?_⟩
      obtain ⟨l2, S2, r2⟩ := lst_new S hq hr
      exact p _ _ _ l2 S2 r2
  · exact p.elim
theorem n_tuple : SemN T K (fun xs H Q => ∃ p ys, xs = [.ref p] ∧ ((SqL K H p ys ∧ ∀ l, H l = none → Q (.ref l) (upd H l (.tup ys))) ∨ (SqT K H p ys ∧ Q (.ref p) H))) (bi .tuple) := by
  intro W σ ρ h H xs vs Q S r p
  unfold bi at p
  split at p <;> first | (rename_i e1 _; cases e1; done) | (rename_i e1; cases e1; done) | skip
  · obtain ⟨v, rfl, r1⟩ := vrels1 r
    cases r1 with
    | ref ea =>
      split at p
      · rename_i e
        obtain ⟨vs, r, hs⟩ := lstAt_of S e ea
        refine ⟨_, vs, rfl, .inl ⟨hs, fun q hq => ?_⟩⟩
        obtain ⟨l2, S2, r2⟩ := tup_new S hq r
        exact p _ _ _ l2 S2 r2
      · exact p.elim
  · obtain ⟨v, rfl, r1⟩ := vrels1 r
    cases r1 with
    | tup ht hr => exact ⟨_, _, rfl, .inr ⟨SqT.of ht, p ρ H _ Le.refl S (.tup ht hr)⟩⟩
  · obtain ⟨v, rfl, r1⟩ := vrels1 r
    cases r1 with
    | tupK ht hr => exact ⟨_, _, rfl, .inr ⟨tpart ht, p ρ H _ Le.refl S (.tupK ht hr)⟩⟩
  · exact p.elim
def rSortX (X : Cx) : List V → Hp → VK → Prop := fun xs H Q => rSortedI X.K xs H Q ∨ (∃ (a : Addr) (kvs : List (Key × V)) (ks : List Int), xs = [.ref a] ∧ Rd H a (.dK kvs) ∧ kvs.map (·.1) = ks.map Sum.inl ∧ ks.length < 64 ∧
    ∀ (ys : List Int) (p : Addr), ys.Perm ks → ys.Pairwise (· ≤ ·) → H p = none → Q (.ref p) (upd H p (.lst (ys.map V.int))))
theorem keys_ints {kvs : List (PV × PV)} {l : List (L2.Key × V)} {ns : List Int} (r : KRel keyV K ρ H kvs l) : intsOf (keysP kvs) = some ns → l.map (·.1) = ns.map Sum.inl := by
  intro e
  have e2 := intsOf_eq e
  clear e
  induction r generalizing ns with
  | nil => cases ns with
    | nil => rfl
    | cons _ _ => cases e2
  | cons hk hv t ih =>
    cases ns with
    | nil => cases e2
    | cons n ns =>
      have e3 : keysP ((_, _) :: _) = _ := e2
      unfold keysP at e3
      rw [List.map_cons, List.map_cons] at e3
      obtain ⟨e4, e5⟩ := List.cons.inj e3
      rw [List.map_cons, List.map_cons, ih e5]
      dsimp only at e4
      rw [e4] at hk
      cases hk
      rfl
theorem n_sorted {X : Cx} (hK : X.K = K) : SemN T K (rSortX X) (bi .sorted) := by
  subst hK
  intro W σ ρ h H xs vs Q S r p
  unfold bi at p
  split at p <;> first | (rename_i e1 _; cases e1; done) | (rename_i e1; cases e1; done) | skip
  · obtain ⟨v, rfl, r1⟩ := vrels1 r
    cases r1 with
    | ref ea =>
      split at p
      · rename_i ys e
        split at p
        · rename_i ns e2
          refine .inl ⟨_, ns, rfl, ints1 S e ea e2, fun ns' q hp hs hq => ?_⟩
          rw [isort_uniq hp hs]
          obtain ⟨l2, S2, r2⟩ := lst_new S hq (VRels.ints (isort ns))
          exact p _ _ _ l2 S2 r2
        · exact p.elim
      · split at p
        · rename_i kvs e
          split at p
          · rename_i ns e2
            split at p
            · rename_i h64
              obtain ⟨l, r2, hd⟩ := S.at e ea
              refine .inr ⟨_, l, ns, rfl, .inl hd, keys_ints r2 e2, h64, fun ns' q hp hs hq => ?_⟩
              rw [isort_uniq hp hs]
              obtain ⟨l2, S2, r2⟩ := lst_new S hq (VRels.ints (isort ns))
              exact p _ _ _ l2 S2 r2
            · exact p.elim
          · exact p.elim
        · exact p.elim
  · exact p.elim
def rMaxX (K : PySem.W.Frag) : List V → Hp → VK → Prop := fun xs H Q => (∃ i j, xs = [.int i, .int j] ∧ Q (.int (if j > i then j else i)) H) ∨ rMax K xs H Q
def rMinX (K : PySem.W.Frag) : List V → Hp → VK → Prop := fun xs H Q => (∃ i j, xs = [.int i, .int j] ∧ Q (.int (if j < i then j else i)) H) ∨ rMin K xs H Q
theorem max_uniq {ns : List Int} {m k : Int} (e : ns.max? = some m) (hk : k ∈ ns) (hm : ∀ y, y ∈ ns → y ≤ k) : k = m := by
  obtain ⟨h1, h2⟩ := List.max?_eq_some_iff.mp e
  have := hm m h1
  have := h2 k hk
  omega
theorem min_uniq {ns : List Int} {m k : Int} (e : ns.min? = some m) (hk : k ∈ ns) (hm : ∀ y, y ∈ ns → k ≤ y) : k = m := by
  obtain ⟨h1, h2⟩ := List.min?_eq_some_iff.mp e
  have := hm m h1
  have := h2 k hk
  omega
theorem n_max : SemN T K (rMaxX K) (bi .max) := by
  intro W σ ρ h H xs vs Q S r p
  unfold bi at p
  split at p <;> first | (rename_i e1 _; cases e1; done) | (rename_i e1; cases e1; done) | skip
  · obtain ⟨v, w, rfl, r1, r2⟩ := vrels2 r
    cases r1; cases r2
    exact .inl ⟨_, _, rfl, p ρ H _ Le.refl S (.int _)⟩
  · obtain ⟨v, rfl, r1⟩ := vrels1 r
    cases r1 with
    | ref ea =>
      split at p
      · rename_i ys e
        split at p
        · rename_i ns e2
          split at p
          · rename_i m e3
            refine .inr ⟨_, ns, rfl, ints1 S e ea e2, ?_, fun k hk hm => ?_⟩
            · exact List.length_pos_of_mem (List.max?_eq_some_iff.mp e3).1
            · rw [max_uniq e3 hk hm]
              exact p ρ H _ Le.refl S (.int _)
          · exact p.elim
        · exact p.elim
      · exact p.elim
  · exact p.elim
theorem n_min : SemN T K (rMinX K) (bi .min) := by
  intro W σ ρ h H xs vs Q S r p
  unfold bi at p
  split at p <;> first | (rename_i e1 _; cases e1; done) | (rename_i e1; cases e1; done) | skip
  · obtain ⟨v, w, rfl, r1, r2⟩ := vrels2 r
    cases r1; cases r2
    exact .inl ⟨_, _, rfl, p ρ H _ Le.refl S (.int _)⟩
  · obtain ⟨v, rfl, r1⟩ := vrels1 r
    cases r1 with
    | ref ea =>
      split at p
      · rename_i ys e
        split at p
        · rename_i ns e2
          split at p
          · rename_i m e3
            refine .inr ⟨_, ns, rfl, ints1 S e ea e2, ?_, fun k hk hm => ?_⟩
            · exact List.length_pos_of_mem (List.min?_eq_some_iff.mp e3).1
            · rw [min_uniq e3 hk hm]
              exact p ρ H _ Le.refl S (.int _)
          · exact p.elim
        · exact p.elim
      · exact p.elim
  · exact p.elim
theorem n_sum : SemN T K (rSum K) (bi .sum) := by
  intro W σ ρ h H xs vs Q S r p
  unfold bi at p
  split at p <;> first | (rename_i e1 _; cases e1; done) | (rename_i e1; cases e1; done) | skip
  · obtain ⟨v, rfl, r1⟩ := vrels1 r
    cases r1 with
    | ref ea =>
      split at p
      · rename_i ys e
        split at p
        · rename_i ns e2
          exact ⟨_, ns, rfl, ints1 S e ea e2, p ρ H _ Le.refl S (.int _)⟩
        · exact p.elim
      · exact p.elim
  · exact p.elim
theorem n_str : SemN T K (fun xs H Q => ∃ i : Int, xs = [.int i] ∧ i.natAbs.log2 < 1920 ∧ Q (.str (Str.ofString (toString i))) H) (bi .str) := by
  intro W σ ρ h H xs vs Q S r p
  unfold bi at p
  split at p <;> first | (rename_i e1 _; cases e1; done) | (rename_i e1; cases e1; done) | skip
  · obtain ⟨v, rfl, r1⟩ := vrels1 r
    cases r1
    split at p
    · rename_i hl
      refine ⟨_, rfl, hl, ?_⟩
      have q := p ρ H _ Le.refl S (.str _)
      simpa using q
    · exact p.elim
  · exact p.elim
theorem n_dict : SemN T K (fun xs H Q => ∃ (a : Addr) (kvs : List (Key × V)), xs = [.ref a] ∧ Rd H a (.dK kvs) ∧ ∀ p, H p = none → Q (.ref p) (upd H p (.dK kvs))) (bi .dict) := by
  intro W σ ρ h H xs vs Q S r p
  unfold bi at p
  split at p <;> first | (rename_i e1 _; cases e1; done) | (rename_i e1; cases e1; done) | skip
  · obtain ⟨v, rfl, r1⟩ := vrels1 r
    cases r1 with
    | ref ea =>
      split at p
      · rename_i kvs e
        obtain ⟨l, r2, hd⟩ := S.at e ea
        refine ⟨_, l, rfl, .inl hd, fun q hq => ?_⟩
        have l0 : Le K ρ H (ρ ++ [q]) (upd H q (.dK l)) := ⟨fun i a e => by rw [List.getElem?_append_left (List.getElem?_eq_some_iff.mp e).1]; exact e, text_new hq⟩
        obtain ⟨l2, S2, e2⟩ := S.new (o := .dK l) (m := .dK kvs) hq ⟨l, r2.mono l0, upd_same⟩ rfl
        exact p _ _ _ l2 S2 (.ref e2)
      · exact p.elim
  · exact p.elim
theorem n_gcd : SemN T K rGcd (bi .gcd) := by
  intro W σ ρ h H xs vs Q S r p
  unfold bi at p
  split at p <;> first | (rename_i e1 _; cases e1; done) | (rename_i e1; cases e1; done) | skip
  · obtain ⟨v, w, rfl, r1, r2⟩ := vrels2 r
    cases r1; cases r2
    exact ⟨_, _, rfl, p ρ H _ Le.refl S (.int _)⟩
  · exact p.elim
end
/-- a built-in's name -/
def BN.name : BN → Str
  | .len => "len" | .abs => "abs" | .int => "int" | .bool => "bool" | .list => "list" | .tuple => "tuple" | .sorted => "sorted" | .min => "min" | .max => "max" | .sum => "sum" | .str => "str" | .gcd => "gcd" | .dict => "dict"
def BN.mg : BN → Option Value
  | .gcd => some (.builtin "math.gcd")
  | _ => none
section
variable {X : Cx} {T : Tb} {W : WX} {e : Expr} {es : List Expr} {ra : CA} {p pos : Pos}
theorem e_bi (b : BN) (hc : X.calm = true) (hg : Gl X b.name) (hm : X.mg b.name = b.mg) (ha : PA X (e :: es) (tA T X.K W ra)) (he : starEach (e :: es) X.env = (false, eval e X.env) :: starEach es X.env) (hpl : (backTo pos (starEach es X.env)).any (·.1) = false) :
    PE X (.Call (.Name b.name p) (e :: es) [] pos) (tE T X.K W (cN (bi b) ra)) := by
  cases b with
  | len => exact e_blt call_lenX n_len hg hm PySem.boot_len ha (by decide) (by decide) he hpl
  | abs => exact e_blt call_abs n_abs hg hm (by decide +kernel) ha (by decide) (by decide) he hpl
  | int => exact e_bty call_int1 n_int hg hm boot_int ha (by decide) (by decide) he hpl
  | bool => exact e_bty call_bool1 n_bool hg hm (by decide +kernel) ha (by decide) (by decide) he hpl
  | list => exact e_bty (call_listX hc) n_list hg hm (by decide +kernel) ha (by decide) (by decide) he hpl
  | tuple => exact e_bty call_tuple_of n_tuple hg hm (by decide +kernel) ha (by decide) (by decide) he hpl
  | sorted => exact e_blt (cr_sortedI.or (call_sortedDI hc)) (n_sorted rfl) hg hm (by decide +kernel) ha (by decide) (by decide) he hpl
  | min => exact e_blt ((call_min2 hc).or (cr_min hc)) n_min hg hm (by decide +kernel) ha (by decide) (by decide) he hpl
  | max => exact e_blt ((call_max2 hc).or (cr_max hc)) n_max hg hm (by decide +kernel) ha (by decide) (by decide) he hpl
  | sum => exact e_blt (cr_sum hc) n_sum hg hm (by decide +kernel) ha (by decide) (by decide) he hpl
  | str => exact e_bty call_str_int n_str hg hm (by decide +kernel) ha (by decide) (by decide) he hpl
  | dict => exact e_bty call_dictD n_dict hg hm (by decide +kernel) ha (by decide) (by decide) he hpl
  | gcd =>
    refine (pe_callBfun cr_gcd hg hm ha (by decide) he hpl).weak ?_
    rintro σ H Q ⟨ρ, h, en, S, E, p⟩
    exact tR.step S E p fun ρ1 H1 x h1 x' l1 S1 E1 r1 p1 => n_gcd W σ ρ1 h1 H1 x x' Q S1 r1 p1
end

/-! ### isinstance -/
inductive TN | int | bool | str | list | tuple | dict | non
def TN.ty : TN → String
  | .int => "int" | .bool => "bool" | .str => "str" | .list => "list" | .tuple => "tuple" | .dict => "dict" | .non => "NoneType"
def tnOf (x : PV) (h : Hm) : Option TN := match x with
  | .non => some .non
  | .bl _ => some .bool
  | .int _ => some .int
  | .str _ => some .str
  | .tup _ => some .tuple
  | .tupK _ => some .tuple
  | .ref n => match h[n]? with
    | some (.lst _) => some .list
    | some (.frz _) => some .list
    | some (.dK _) => some .dict
    | some (.dT _) => some .dict
    | _ => none
def subTN : TN → TN → Bool
  | .int, .int => true | .bool, .bool => true | .bool, .int => true | .str, .str => true | .list, .list => true | .tuple, .tuple => true | .dict, .dict => true | .non, .non => true
  | _, _ => false
theorem kit_sub (a b : TN) : kitB a.ty b.ty = some (subTN a b) := by
  cases a <;> cases b <;> decide +kernel
def cIsi (c : TN) (a : CE) : CE := fun en h => (a en h).bind fun x h1 => match tnOf x h1 with
  | some t => .ok (.bl (subTN t c)) h1
  | none => .bad
theorem tnOf_of {T : Tb} {K : PySem.W.Frag} {ρ : List Addr} {H : Hp} {h : Hm} {x : PV} {x' : V} {t : TN} (S : Sim T K ρ h H) (e : tnOf x h = some t) (r : VRel K ρ H x x') : TyX K H x' (.type t.ty) := by
  cases r with
  | non => cases e; exact .base .non
  | bl b => cases e; exact .base (.bl b)
  | int i => cases e; exact .base (.int i)
  | str s => cases e; exact .base (.str _)
  | tup ht hr => cases e; exact .base (.tup ht)
  | tupK ht hr =>
    cases e
    rcases ht with (s | ⟨o, s⟩) | ⟨o, its, n, hk, hc, _⟩
    · cases s
    · cases s
    · exact .kTuple hk hc
  | ref ea =>
    simp only [tnOf] at e
    split at e
    · rename_i xs q
      cases e
      obtain ⟨vs, _, w⟩ := S.at q ea
      exact .base (.lst w)
    · rename_i xs q
      cases e
      obtain ⟨vs, _, w⟩ := S.at q ea
      rcases w with ⟨o, w⟩ | (s | ⟨o, s⟩) | ⟨o, its, n, hk, hc, _⟩
      · exact .base (.frz w)
      · cases s
      · cases s
      · exact .kList hk hc
    · rename_i q
      cases e
      obtain ⟨l, _, w⟩ := S.at q ea
      exact .base (.dK w)
    · rename_i q
      cases e
      obtain ⟨l, _, w⟩ := S.at q ea
      exact .base (.dT w)
    · cases e
def TN.name : TN → Str
  | .int => "int" | .bool => "bool" | .str => "str" | .list => "list" | .tuple => "tuple" | .dict => "dict" | .non => "NoneType"
section
variable {X : Cx} {T : Tb} {W : WX} {e a : Expr} {ca : CE} {p p2 pos : Pos}
theorem e_isi (c : TN) (hn : c ≠ .non) (hg : Gl X "isinstance") (hm : X.mg "isinstance" = none) (hg2 : Gl X c.name) (hm2 : X.mg c.name = none) (ha : PE X a (tE T X.K W ca)) (he : starEach [a, .Name c.name p2] X.env = (false, eval a X.env) :: starEach [.Name c.name p2] X.env) :
    PE X (.Call (.Name "isinstance" p) [a, .Name c.name p2] [] pos) (tE T X.K W (cIsi c ca)) := by
  have hT : PE X (.Name c.name p2) (tC (.ty c.ty)) := by
    cases c with
    | int => exact pe_bltn (v := .ty "int") hg2 hm2 boot_int rfl
    | bool => exact pe_bltn (v := .ty "bool") hg2 hm2 (by decide +kernel) rfl
    | str => exact pe_bltn (v := .ty "str") hg2 hm2 (by decide +kernel) rfl
    | list => exact pe_bltn (v := .ty "list") hg2 hm2 (by decide +kernel) rfl
    | tuple => exact pe_bltn (v := .ty "tuple") hg2 hm2 (by decide +kernel) rfl
    | dict => exact pe_bltn (v := .ty "dict") hg2 hm2 (by decide +kernel) rfl
    | non => exact absurd rfl hn
  refine (pe_callB (call_isi (X := X)) hg hm (by decide +kernel) (pa_cons ha (pa_cons hT pa_nil) he) (by decide) (by decide) he rfl).weak ?_
  rintro σ H Q ⟨ρ, h, en, S, E, p⟩
  refine tR.step S E p fun ρ1 H1 x h1 x' l1 S1 E1 r1 p1 => ?_
  have p1 : Post T X.K (VR X.K) W σ ρ1 H1 (match tnOf x h1 with | some t => .ok (.bl (subTN t c)) h1 | none => .bad) Q := p1
  split at p1
  · rename_i t et
    exact ⟨x', _, _, _, _, rfl, .ty _, tnOf_of S1 et r1, kit_ty (kit_sub t c), p1 ρ1 H1 _ Le.refl S1 (.bl _)⟩
  · exact p1.elim
end
end RS

set_option Elab.async false
set_option linter.all false
set_option maxRecDepth 100000
set_option maxHeartbeats 4000000
set_option autoImplicit false
namespace RS
open PySem PySem.Spec PyProof.Rows L2

/-! ### methods of built-in things -/
inductive MN | append | pop | reverse | index | clear | insert | get | setdefault
inductive RT | list | dict
def RT.s : RT → String
  | .list => "list" | .dict => "dict"
def MN.name : MN → Str
  | .append => "append" | .pop => "pop" | .reverse => "reverse" | .index => "index" | .clear => "clear" | .insert => "insert" | .get => "get" | .setdefault => "setdefault"
def rcv (x : PV) (h : Hm) : Option (RT × Nat) := match x with
  | .ref n => match h[n]? with
    | some (.lst _) => some (.list, n)
    | some (.frz _) => some (.list, n)
    | some (.dK _) => some (.dict, n)
    | some (.dT _) => some (.dict, n)
    | _ => none
  | _ => none
def idxF (y : PV) : List PV → Option Nat
  | [] => none
  | z :: r => if eqF z y = true then some 0 else (idxF y r).map (· + 1)
abbrev MF := Nat → List PV → Hm → R PV
def onL (f : List PV → R PV) (n : Nat) (h : Hm) : R PV := match h[n]? with
  | some (.lst ys) => f ys
  | _ => .bad
def mAppend : MF := fun n xs h => match xs with
  | [v] => onL (fun ys => if ys.length < 16777216 then .ok .non (h.set n (.lst (ys ++ [v]))) else .bad) n h
  | _ => .bad
def mPop : MF := fun n xs h => match xs with
  | [] => onL (fun ys => match ys[ys.length - 1]? with
    | some v => .ok v (h.set n (.lst ys.dropLast))
    | none => .bad) n h
  | _ => .bad
def mReverse : MF := fun n xs h => match xs with
  | [] => onL (fun ys => .ok .non (h.set n (.lst ys.reverse))) n h
  | _ => .bad
def mClear : MF := fun n xs h => match xs with
  | [] => onL (fun _ => .ok .non (h.set n (.lst []))) n h
  | _ => .bad
def mInsert : MF := fun n xs h => match xs with
  | [.int i, v] => onL (fun ys => if ys.length < 16777216 ∧ 0 ≤ i ∧ i < 2 ^ 62 then .ok .non (h.set n (.lst (ys.take i.toNat ++ [v] ++ ys.drop i.toNat))) else .bad) n h
  | _ => .bad
def mIndex : MF := fun n xs h => match xs with
  | [v] => match lstAt h n with
    | some ys => if flatP v && ys.all flatP then (match idxF v ys with | some j => .ok (.int (j : Nat)) h | none => .bad) else .bad
    | none => .bad
  | _ => .bad
def dLook (n : Nat) (k : PV) (h : Hm) : Option (Option PV) := match h[n]? with
  | some (.dK kvs) => if (keyV k).isSome then some (getP kvs k) else none
  | some (.dT kvs) => if (keyT k).isSome then some (getP kvs k) else none
  | _ => none
def mGet : MF := fun n xs h => match xs with
  | [k] => match dLook n k h with
    | some o => .ok (o.getD .non) h
    | none => .bad
  | [k, d] => match dLook n k h with
    | some o => .ok (o.getD d) h
    | none => .bad
  | _ => .bad
def mSetd : MF := fun n xs h => match xs with
  | [k, d] => match h[n]? with
    | some (.dK kvs) => if (keyV k).isSome ∧ kvs.length < 16777216 then (match getP kvs k with
      | some v => .ok v h
      | none => .ok d (h.set n (.dK (putP kvs k d)))) else .bad
    | _ => .bad
  | _ => .bad
/-- a method, by the receiver's kind -/
def meth : RT → MN → Option MF
  | .list, .append => some mAppend
  | .list, .pop => some mPop
  | .list, .reverse => some mReverse
  | .list, .clear => some mClear
  | .list, .insert => some mInsert
  | .list, .index => some mIndex
  | .dict, .get => some mGet
  | .dict, .setdefault => some mSetd
  | _, _ => none
def SemM (T : Tb) (K : PySem.W.Frag) (r : V → List V → Hp → VK → Prop) (g : MF) : Prop := ∀ (W : WX) (σ : L2.St) (ρ : List Addr) (h : Hm) (H : Hp) (n : Nat) (a : Addr) (xs : List PV) (xs' : List V) (Q : VK), Sim T K ρ h H → ρ[n]? = some a → VRels K ρ H xs xs' →
  Post T K (VR K) W σ ρ H (g n xs h) Q → r (.ref a) xs' H Q
section
variable {T : Tb} {K : PySem.W.Frag} {ρ : List Addr} {H : Hp} {h : Hm}
theorem vrels0 {vs : List V} (r : VRels K ρ H [] vs) : vs = [] := by cases r; rfl
theorem onL_of {W : WX} {σ : L2.St} {f : List PV → R PV} {n : Nat} {Q : VK} (p : Post T K (VR K) W σ ρ H (onL f n h) Q) : ∃ ys, h[n]? = some (.lst ys) ∧ Post T K (VR K) W σ ρ H (f ys) Q := by
  unfold onL at p
  split at p
  · rename_i ys e; exact ⟨ys, e, p⟩
  · exact p.elim
theorem m_append : SemM T K rAppend mAppend := by
  intro W σ ρ h H n a xs vs Q S ea r p
  unfold mAppend at p
  split at p
  · rename_i v
    obtain ⟨ys, e, p⟩ := onL_of p
    obtain ⟨v', rfl, r1⟩ := vrels1 r
    split at p
    · rename_i hl
      obtain ⟨vs, r2, q⟩ := lst_mut S e ea
      refine ⟨a, vs, v', rfl, rfl, q, lt_line (by rw [← r2.length]; exact hl), ?_⟩
      obtain ⟨l, S2⟩ := lst_write S e ea (r2.append (.cons r1 .nil))
      exact p _ _ _ l S2 .non
    · exact p.elim
  · exact p.elim
theorem m_pop : SemM T K rPop mPop := by
  intro W σ ρ h H n a xs vs Q S ea r p
  unfold mPop at p
  split at p
  · obtain ⟨ys, e, p⟩ := onL_of p
    obtain rfl := vrels0 r
    obtain ⟨vs, r2, q⟩ := lst_mut S e ea
    split at p
    · rename_i v ev
      obtain ⟨v', e2, rv⟩ := r2.get ev
      refine ⟨a, vs, v', rfl, rfl, q, by rw [← r2.length]; exact e2, ?_⟩
      obtain ⟨l, S2⟩ := lst_write S e ea r2.dropLast
      exact p _ _ _ l S2 (rv.mono l)
    · exact p.elim
  · exact p.elim
theorem m_reverse : SemM T K rReverse mReverse := by
  intro W σ ρ h H n a xs vs Q S ea r p
  unfold mReverse at p
  split at p
  · obtain ⟨ys, e, p⟩ := onL_of p
    obtain rfl := vrels0 r
    obtain ⟨vs, r2, q⟩ := lst_mut S e ea
    refine ⟨a, vs, rfl, rfl, q, ?_⟩
    obtain ⟨l, S2⟩ := lst_write S e ea r2.reverse
    exact p _ _ _ l S2 .non
  · exact p.elim
theorem m_clear : SemM T K rClear mClear := by
  intro W σ ρ h H n a xs vs Q S ea r p
  unfold mClear at p
  split at p
  · obtain ⟨ys, e, p⟩ := onL_of p
    obtain rfl := vrels0 r
    obtain ⟨vs, r2, q⟩ := lst_mut S e ea
    refine ⟨a, vs, rfl, rfl, q, ?_⟩
    obtain ⟨l, S2⟩ := lst_write (ys := []) (ws := []) S e ea .nil
    exact p _ _ _ l S2 .non
  · exact p.elim
def rInsert : V → List V → Hp → VK → Prop := fun x vs H Q => ∃ (l : Addr) (xs : List V) (i : Int) (y : V), x = .ref l ∧ vs = [.int i, y] ∧ H l = some (.lst xs) ∧ xs.length < sizeLine ∧ 0 ≤ i ∧ i < 2 ^ 63 ∧ Q .non (upd H l (.lst (xs.take i.toNat ++ [y] ++ xs.drop i.toNat)))
theorem m_insert : SemM T K rInsert mInsert := by
  intro W σ ρ h H n a xs vs Q S ea r p
  unfold mInsert at p
  split at p
  · rename_i i v
    obtain ⟨ys, e, p⟩ := onL_of p
    obtain ⟨w1, w2, rfl, r1, r2⟩ := vrels2 r
    cases r1
    split at p
    · rename_i hl
      obtain ⟨vs, r3, q⟩ := lst_mut S e ea
      obtain ⟨l1, l2, l3⟩ := hl
      refine ⟨a, vs, i, w2, rfl, rfl, q, lt_line (by rw [← r3.length]; exact l1), l2, by omega, ?_⟩
      obtain ⟨l, S2⟩ := lst_write S e ea (((r3.take i.toNat).append (.cons r2 .nil)).append (r3.drop i.toNat))
      exact p _ _ _ l S2 .non
    · exact p.elim
  · exact p.elim
theorem idxF_of {y : PV} {y' : V} (ry : VRel K ρ H y y') (fy : flatP y = true) : ∀ {xs : List PV} {vs : List V} {j : Nat}, VRels K ρ H xs vs → xs.all flatP = true → idxF y xs = some j →
    ∃ z, vs[j]? = some z ∧ eqV z y' = true ∧ ∀ (m : Nat) (z' : V), m < j → vs[m]? = some z' → eqV z' y' = false
  | [], _, _, .nil, _, e => by cases e
  | x :: xs, _, j, .cons (v := v) (vs := vs) r t, f, e => by
    rw [List.all_cons, Bool.and_eq_true] at f
    have ex := eqF_of f.1 fy r ry
    unfold idxF at e
    split at e
    · rename_i q
      cases e
      exact ⟨v, rfl, by rw [ex]; exact q, fun m z' hm => by omega⟩
    · rename_i q
      simp only [Option.map_eq_some_iff] at e
      obtain ⟨k, e, rfl⟩ := e
      obtain ⟨z, h1, h2, h3⟩ := idxF_of ry fy t f.2 e
      refine ⟨z, by simpa using h1, h2, fun m z' hm hz => ?_⟩
      cases m with
      | zero =>
        have : v = z' := by simpa using hz
        subst this
        rw [ex]; simpa using q
      | succ m => exact h3 m z' (by omega) (by simpa using hz)
theorem m_index : SemM T K (rIndex K) mIndex := by
  intro W σ ρ h H n a xs vs Q S ea r p
  unfold mIndex at p
  split at p
  · rename_i v
    obtain ⟨v', rfl, r1⟩ := vrels1 r
    split at p
    · rename_i ys e
      obtain ⟨vs, r2, q⟩ := lstAt_of S e ea
      split at p
      · rename_i f
        rw [Bool.and_eq_true] at f
        split at p
        · rename_i j ej
          obtain ⟨z, h1, h2, h3⟩ := idxF_of r1 f.1 r2 f.2 ej
          exact ⟨a, vs, v', j, z, rfl, rfl, q, by rw [flat_of r1]; exact f.1, by rw [allflat_of r2]; exact f.2, h1, h2, h3, p ρ H _ Le.refl S (.int _)⟩
        · exact p.elim
      · exact p.elim
    · exact p.elim
  · exact p.elim
theorem dLook_of {n : Nat} {a : Addr} {k : PV} {k' : V} {o : Option PV} (S : Sim T K ρ h H) (e : dLook n k h = some o) (ea : ρ[n]? = some a) (rk : VRel K ρ H k k') :
    ∃ o', DGet H a k' o' ∧ ((o = none ∧ o' = none) ∨ ∃ z v, o = some z ∧ o' = some v ∧ VRel K ρ H z v) := by
  unfold dLook at e
  split at e
  · rename_i kvs e1
    split at e
    · rename_i hk
      cases e
      exact dget_of S ea rk (.inl ⟨e1, hk⟩)
    · cases e
  · rename_i kvs e1
    split at e
    · rename_i hk
      cases e
      exact dget_of S ea rk (.inr ⟨e1, hk⟩)
    · cases e
  · cases e
def rGetD : V → List V → Hp → VK → Prop := fun x xs H Q => (∃ a y o, x = .ref a ∧ xs = [y] ∧ DGet H a y o ∧ Q (o.getD .non) H) ∨ ∃ a y z o, x = .ref a ∧ xs = [y, z] ∧ DGet H a y o ∧ Q (o.getD z) H
theorem mt_get {X : Cx} (hu : X.A.units + 1 < cLine) : MtR X "dict.get" rGetD := by
  intro pins s σ H x xs v us Q I rx rs q
  rcases q with ⟨a, y, o, rfl, rfl, g, q⟩ | ⟨a, y, z, o, rfl, rfl, g, q⟩
  · cases rx
    obtain ⟨u, rfl, ru⟩ := vals1 rs
    exact d_get1 hu I g ru fun w' s3 I3 rw' => ⟨_, H, I3, rw', q⟩
  · cases rx
    obtain ⟨u, w, rfl, ru, rw1⟩ := vals2 rs
    exact d_get2 hu I g ru rw1 fun w' s3 I3 rw' => ⟨_, H, I3, rw', q⟩
theorem m_get : SemM T K rGetD mGet := by
  intro W σ ρ h H n a xs vs Q S ea r p
  unfold mGet at p
  split at p
  · rename_i k
    obtain ⟨k', rfl, r1⟩ := vrels1 r
    split at p
    · rename_i o e
      obtain ⟨o', g, c⟩ := dLook_of S e ea r1
      refine .inl ⟨a, k', o', rfl, rfl, g, ?_⟩
      rcases c with ⟨c1, c2⟩ | ⟨z, v, c1, c2, rz⟩
      · subst c1 c2; exact p ρ H _ Le.refl S .non
      · subst c1 c2; exact p ρ H _ Le.refl S rz
    · exact p.elim
  · rename_i k d
    obtain ⟨k', d', rfl, r1, r2⟩ := vrels2 r
    split at p
    · rename_i o e
      obtain ⟨o', g, c⟩ := dLook_of S e ea r1
      refine .inr ⟨a, k', d', o', rfl, rfl, g, ?_⟩
      rcases c with ⟨c1, c2⟩ | ⟨z, v, c1, c2, rz⟩
      · subst c1 c2; exact p ρ H _ Le.refl S r2
      · subst c1 c2; exact p ρ H _ Le.refl S rz
    · exact p.elim
  · exact p.elim
def rSetdD : V → List V → Hp → VK → Prop := fun x xs H Q => ∃ a kvs k z, x = .ref a ∧ xs = [kV k, z] ∧ H a = some (.dK kvs) ∧ kvs.length < sizeLine ∧ (∀ v, valV kvs k = some v → Q v H) ∧ (valV kvs k = none → Q z (upd H a (.dK (putK kvs k z))))
theorem m_setd : SemM T K rSetdD mSetd := by
  intro W σ ρ h H n a xs vs Q S ea r p
  unfold mSetd at p
  split at p
  · rename_i k d
    obtain ⟨k', d', rfl, r1, r2⟩ := vrels2 r
    split at p
    · rename_i kvs e
      split at p
      · rename_i hk
        obtain ⟨hk, hl⟩ := hk
        obtain ⟨j, ej⟩ := Option.isSome_iff_exists.mp hk
        obtain ⟨l, rl, q⟩ := S.at e ea
        refine ⟨a, l, j, d', rfl, by rw [kV_of ej r1], q, lt_line (by rw [← rl.length]; exact hl), fun v hv => ?_, fun hv => ?_⟩
        · rcases rl.get (fun {_ _ _} => keyV_inj) ej with ⟨a1, a2⟩ | ⟨z, w, a1, a2, a3⟩
          · rw [a2] at hv; cases hv
          · rw [a1] at p
            rw [a2] at hv; cases hv
            exact p ρ H _ Le.refl S a3
        · rcases rl.get (fun {_ _ _} => keyV_inj) ej with ⟨a1, a2⟩ | ⟨z, w, a1, a2, a3⟩
          · rw [a1] at p
            obtain ⟨l2, S2⟩ := S.write (m' := .dK (putP kvs k d)) (o := .dK (putK l j d')) e ea rfl rfl fun l3 => ⟨_, (rl.mono l3).put (fun {_ _ _} => keyV_inj) ej (r2.mono l3), upd_same⟩
            exact p _ _ _ l2 S2 (r2.mono l2)
          · rw [a2] at hv; cases hv
      · exact p.elim
    · exact p.elim
  · exact p.elim
end
end RS

set_option Elab.async false
set_option linter.all false
set_option maxRecDepth 100000
set_option maxHeartbeats 4000000
set_option autoImplicit false
namespace RS
open PySem PySem.Spec PyProof.Rows L2
theorem mt_setd {X : Cx} : MtR X "dict.setdefault" rSetdD := by
  intro pins s σ H x xs v us Q I rx rs q
  obtain ⟨a, kvs, k, z, rfl, rfl, e, hl, q1, q2⟩ := q
  cases rx
  obtain ⟨u, w, rfl, ru, rw1⟩ := vals2 rs
  exact d_setd I e ru rw1 hl (fun v hv w' s' I' r => ⟨v, H, I', r, q1 v hv⟩) fun hn w' s' I' r => ⟨z, _, I', r, q2 hn⟩
def MethOk (X : Cx) (T : Tb) (t : String) (m : Str) (g : MF) : Prop := ∃ id r, PlainAttrs t ∧ Slot t m id ∧ typeOf (.builtin id) = pure (.type "method_descriptor") ∧ MtR X id r ∧ SemM T X.K r g
theorem meth_ok {X : Cx} {T : Tb} (hu : X.A.units + 1 < cLine) : ∀ {t : RT} {m : MN} {g : MF}, meth t m = some g → MethOk X T t.s m.name g
  | .list, .append, _, e => by cases e; exact ⟨_, _, PySem.F.plainAttrs_list, PySem.F.slot_list_append, PySem.F.type_list_append, mt_append, m_append⟩
  | .list, .pop, _, e => by cases e; exact ⟨_, _, PySem.F.plainAttrs_list, PySem.F.slot_list_pop, PySem.F.type_list_pop, mt_pop, m_pop⟩
  | .list, .reverse, _, e => by cases e; exact ⟨_, _, PySem.F.plainAttrs_list, PySem.F.slot_list_reverse, PySem.F.type_list_reverse, mt_reverse, m_reverse⟩
  | .list, .clear, _, e => by cases e; exact ⟨_, _, PySem.F.plainAttrs_list, PySem.F.slot_list_clear, PySem.F.type_list_clear, mt_clear, m_clear⟩
  | .list, .insert, _, e => by cases e; exact ⟨_, _, PySem.F.plainAttrs_list, PySem.F.slot_list_insert, PySem.F.type_list_insert, mt_insert, m_insert⟩
  | .list, .index, _, e => by cases e; exact ⟨_, _, PySem.F.plainAttrs_list, PySem.F.slot_list_index, PySem.F.type_list_index, mt_index, m_index⟩
  | .dict, .get, _, e => by cases e; exact ⟨_, _, PySem.F.plainAttrs_dict, PySem.F.slot_dict_get, PySem.F.type_dict_get, mt_get hu, m_get⟩
  | .dict, .setdefault, _, e => by cases e; exact ⟨_, _, PySem.F.plainAttrs_dict, PySem.F.slot_dict_setdefault, PySem.F.type_dict_setdefault, mt_setd, m_setd⟩
/-- the kind that has this method -/
def MN.home : MN → RT
  | .get => .dict | .setdefault => .dict
  | _ => .list
theorem home_ok (m : MN) : ∃ g, meth m.home m = some g := by cases m <;> exact ⟨_, rfl⟩
def cMeth (m : MN) (a : CE) (ra : CA) : CE := fun en h => (a en h).bind fun x h1 => match rcv x h1 with
  | some (t, n) => match meth t m with
    | some g => (ra en h1).bind fun xs h2 => g n xs h2
    | none => .bad
  | none => .bad
theorem rcv_of {T : Tb} {K : PySem.W.Frag} {ρ : List Addr} {H : Hp} {h : Hm} {x : PV} {x' : V} {t : RT} {n : Nat} (S : Sim T K ρ h H) (e : rcv x h = some (t, n)) (r : VRel K ρ H x x') : ∃ a, x' = .ref a ∧ ρ[n]? = some a ∧ tyV K t.s x' H := by
  unfold rcv at e
  split at e
  · cases r with
    | ref ea =>
      split at e
      · rename_i q
        cases e
        obtain ⟨vs, _, w⟩ := ORel.lst_of (.inl (S.at q ea))
        exact ⟨_, rfl, ea, .inl ⟨rfl, vs, w⟩⟩
      · rename_i q
        cases e
        obtain ⟨vs, _, w⟩ := ORel.lst_of (.inr (S.at q ea))
        exact ⟨_, rfl, ea, .inl ⟨rfl, vs, w⟩⟩
      · rename_i q
        cases e
        obtain ⟨l, _, w⟩ := S.at q ea
        exact ⟨_, rfl, ea, .inr (.inr (.inl ⟨rfl, .inl ⟨l, w⟩⟩))⟩
      · rename_i q
        cases e
        obtain ⟨l, _, w⟩ := S.at q ea
        exact ⟨_, rfl, ea, .inr (.inr (.inl ⟨rfl, .inr ⟨l, w⟩⟩))⟩
      · cases e
  · cases e
section
variable {X : Cx} {T : Tb} {W : WX} {o e : Expr} {es : List Expr} {ca : CE} {ra : CA} {apos cpos : Pos}
theorem e_meth (m : MN) (hu : X.A.units + 1 < cLine) (ho : PE X o (tE T X.K W ca)) (ha : PA X (e :: es) (tA T X.K W ra)) (hbase : attributeBase o m.name X.env (eval o X.env) = eval o X.env)
    (hfew : ((backTo cpos (starEach (e :: es) X.env)).all (fun x => !x.1) && (backToKw cpos (keywordEach [] X.env)).all (fun x => x.1.isSome)
      && decide ((e :: es).length + ([] : List Keyword).length + (if ([] : List Keyword).isEmpty then 0 else 1) < 30)) = true)
    (hline : (apos.endLine == cpos.line) = true) (hs : starEach (e :: es) X.env = (false, eval e X.env) :: starEach es X.env) (hplain : (backTo cpos (starEach es X.env)).any (·.1) = false) :
    PE X (.Call (.Attribute o m.name apos) (e :: es) [] cpos) (tE T X.K W (cMeth m ca ra)) := by
  refine ⟨fun pins s σ H Q I q => ?_⟩
  obtain ⟨ρ, h, en, S, E, p⟩ := q
  cases q : ca en h with
  | ok x h1 =>
    have p0 := p
    unfold cMeth at p
    rw [q] at p
    have p : Post T X.K (VR X.K) W σ ρ H (match rcv x h1 with
      | some (t, n) => match meth t m with
        | some g => (ra en h1).bind fun xs h2 => g n xs h2
        | none => .bad
      | none => .bad) Q := p
    split at p
    · rename_i t n er
      split at p
      · rename_i g eg
        obtain ⟨id, r, h1', h2', h3', h4', h5'⟩ := meth_ok (X := X) (T := T) hu eg
        refine (pe_bm h1' h2' h3' h4' ho ha hbase hfew hline hs hplain).run pins s σ H Q I ?_
        refine ⟨ρ, h, en, S, E, ?_⟩
        rw [q]
        intro ρ1 H1 x' l1 S1 r1
        obtain ⟨a, ex, ea, ty⟩ := rcv_of S1 er r1
        refine ⟨ty, tR.step S1 (E.mono l1) (Post.mono l1 p) fun ρ2 H2 xs h2 xs' l2 S2 E2 r2 p2 => ?_⟩
        subst ex
        exact h5' W σ ρ2 h2 H2 n a xs xs' Q S2 (l2.pre _ _ ea) r2 p2
      · exact p.elim
    · exact p.elim
  | ex x h1 =>
    obtain ⟨g, eg⟩ := home_ok m
    obtain ⟨id, r, h1', h2', h3', h4', h5'⟩ := meth_ok (X := X) (T := T) hu eg
    refine (pe_bm h1' h2' h3' h4' ho ha hbase hfew hline hs hplain).run pins s σ H Q I ?_
    refine ⟨ρ, h, en, S, E, ?_⟩
    unfold cMeth at p
    rw [q] at p ⊢
    exact p
  | bad =>
    unfold cMeth at p
    rw [q] at p
    exact p.elim
theorem e_meth0 (m : MN) (hu : X.A.units + 1 < cLine) (ho : PE X o (tE T X.K W ca)) (hbase : attributeBase o m.name X.env (eval o X.env) = eval o X.env) (hline : (apos.endLine == cpos.line) = true) :
    PE X (.Call (.Attribute o m.name apos) [] [] cpos) (tE T X.K W (cMeth m ca aNil)) := by
  refine ⟨fun pins s σ H Q I q => ?_⟩
  obtain ⟨ρ, h, en, S, E, p⟩ := q
  cases q : ca en h with
  | ok x h1 =>
    unfold cMeth at p
    rw [q] at p
    have p : Post T X.K (VR X.K) W σ ρ H (match rcv x h1 with
      | some (t, n) => match meth t m with
        | some g => g n [] h1
        | none => .bad
      | none => .bad) Q := p
    split at p
    · rename_i t n er
      split at p
      · rename_i g eg
        obtain ⟨id, r, h1', h2', h3', h4', h5'⟩ := meth_ok (X := X) (T := T) hu eg
        refine (pe_bm0 h1' h2' h3' h4' ho hbase hline).run pins s σ H Q I ?_
        refine ⟨ρ, h, en, S, E, ?_⟩
        rw [q]
        intro ρ1 H1 x' l1 S1 r1
        obtain ⟨a, ex, ea, ty⟩ := rcv_of S1 er r1
        refine ⟨ty, ?_⟩
        subst ex
        exact h5' W σ ρ1 h1 H1 n a [] [] Q S1 ea .nil (Post.mono l1 p)
      · exact p.elim
    · exact p.elim
  | ex x h1 =>
    obtain ⟨g, eg⟩ := home_ok m
    obtain ⟨id, r, h1', h2', h3', h4', h5'⟩ := meth_ok (X := X) (T := T) hu eg
    refine (pe_bm0 h1' h2' h3' h4' ho hbase hline).run pins s σ H Q I ?_
    refine ⟨ρ, h, en, S, E, ?_⟩
    unfold cMeth at p
    rw [q] at p ⊢
    exact p
  | bad =>
    unfold cMeth at p
    rw [q] at p
    exact p.elim
end

/-! ### calls of the program's own functions -/
abbrev FS := List PV → Hm → R PV
/-- what a def promises -/
def spF (T : Tb) (K : PySem.W.Frag) (n : Nat) (F : FS) : Sp := fun vs H Q E => vs.length = n ∧ ∃ ρ h xs, Sim T K ρ h H ∧ VRels K ρ H xs vs ∧ Post T K (VR K) (fun c d _ H => E c d H) [] ρ H (F xs h) Q
def cCall (F : FS) (ds : List PV) (ra : CA) : CE := fun en h => (ra en h).bind fun xs h1 => F (xs ++ ds) h1
section
variable {X : Cx} {T : Tb} {W : WX} {e : Expr} {es : List Expr} {ra : CA} {k : Nat} {f : Addr} {fd : FuncData} {ps : List Str} {F : FS} {x : Str} {p pos : Pos} {ds : List PV} {dvs : List V} {us : List Value}
theorem Post.reW {T : Tb} {K : PySem.W.Frag} {α β : Type} {Rl : RLT α β} {W W' : WX} {σ σ' : L2.St} {ρ : List Addr} {H : Hp} {r : R α} {Q : β → Hp → Prop} (p : Post T K Rl W σ ρ H r Q) (w : ∀ c d H, W c d σ H → W' c d σ' H) : Post T K Rl W' σ' ρ H r Q := by
  cases r with
  | ok a h => exact p
  | ex e h => exact fun ρ' H' d l S x => w _ _ _ (p ρ' H' d l S x)
  | bad => exact p
theorem Post.len {T : Tb} {K : PySem.W.Frag} {W : WX} {σ : L2.St} {ρ : List Addr} {H : Hp} {n : Nat} {h : Hm} {xs : List PV} {Q : VK} (hF : ∀ xs h, xs.length ≠ n → F xs h = .bad) (p : Post T K (VR K) W σ ρ H (F xs h) Q) : xs.length = n := by
  by_cases e : xs.length = n
  · exact e
  · rw [hF xs h e] at p; exact p.elim
theorem e_call (F0 : FnOk X.prog X.w X.K X.mg X.base (L2.CX X.prog X.w) k f fd ps (spF T X.K ps.length F)) (hF : ∀ xs h, xs.length ≠ ps.length → F xs h = .bad) (hr : Room k X.A) (tk : Takes X W) (hg : Gl X x) (hm : X.mg x = some (.ref f)) (hk : PySem.W.keepIn X.K (.ref f) = true)
    (hb : Binds X.K fd ps us) (hd : Vals dvs us) (hds : ∀ ρ H, VRels X.K ρ H ds dvs) (ha : PA X (e :: es) (tA T X.K W ra))
    (hdb : (x == ("__debug__" : Str)) = false) (he : starEach (e :: es) X.env = (false, eval e X.env) :: starEach es X.env) (hpl : (backTo pos (starEach es X.env)).any (·.1) = false) :
    PE X (.Call (.Name x p) (e :: es) [] pos) (tE T X.K W (cCall F ds ra)) := by
  refine (pe_callSD (E := WE W) F0 hr hg hm hk hb hd (fun σ => passAt tk σ) ha hdb he hpl).weak ?_
  rintro σ H Q ⟨ρ, h, en, S, E, p⟩
  refine tR.step S E p fun ρ1 H1 xs h1 vs l1 S1 E1 r1 p1 => ?_
  have r2 : VRels X.K ρ1 H1 (xs ++ ds) (vs ++ dvs) := r1.append (hds ρ1 H1)
  exact ⟨by rw [← r2.length]; exact p1.len hF, ρ1, h1, xs ++ ds, S1, r2, p1.reW fun c d H w => w⟩
def cCallK (n m : Nat) (F : FS) (ra rk : CA) : CE := fun en h => (ra en h).bind fun xs h1 => (rk en h1).bind fun zs h2 => if xs.length = n ∧ zs.length = m then F (xs ++ zs) h2 else .bad
def tCallKS (n m : Nat) (sp : Sp) (E : L2.St → XK) (t tk : L2.TA) : TE := fun σ H Q => t σ H fun vs H1 => tk σ H1 fun zs H2 => vs.length = n ∧ zs.length = m ∧ sp (vs ++ zs) H2 Q (E σ)
theorem e_callK {n : Nat} {ks : List Str} {kws : List Keyword} {rk : CA} (F0 : FnOk X.prog X.w X.K X.mg X.base (L2.CX X.prog X.w) k f fd ps (spF T X.K ps.length F)) (hF : ∀ xs h, xs.length ≠ ps.length → F xs h = .bad) (hr : Room k X.A) (tk : Takes X W) (hg : Gl X x) (hm : X.mg x = some (.ref f)) (hk : PySem.W.keepIn X.K (.ref f) = true)
    (hb : KBn X.K fd ps n ks (fun us ws => us ++ ws) (fun us ws => us ++ ws)) (ha : PA X (e :: es) (tA T X.K W ra)) (hkw : PK X kws (tA T X.K W rk))
    (hall : (backToKw pos (keywordEach kws X.env)).all (·.1.isSome) = true) (hks : (backToKw pos (keywordEach kws X.env)).filterMap (·.1) = ks) (hno : (backToKw pos (keywordEach kws X.env)).any (·.1.isNone) = false)
    (hdb : (x == ("__debug__" : Str)) = false) (he : starEach (e :: es) X.env = (false, eval e X.env) :: starEach es X.env) (hpl : (backTo pos (starEach (e :: es) X.env)).any (·.1) = false) :
    PE X (.Call (.Name x p) (e :: es) kws pos) (tE T X.K W (cCallK n ks.length F ra rk)) := by
  have key : PE X (.Call (.Name x p) (e :: es) kws pos) (tCallKS n ks.length (spF T X.K ps.length F) (WE W) (tA T X.K W ra) (tA T X.K W rk)) := by
    refine ⟨fun pins s σ H Q I h => ?_⟩
    refine wpAny_Call_Name_kw (ld_glob I hg hm ?_ hdb)
    refine PySem.W.callWith_KW (h₀ := X.base) I.ok.mod.kin hk hall (thn (ha.run pos pins s σ H _ I h) fun us s1 ⟨vs, H1, I1, r, q⟩ => ?_) (by rw [hpl, hno]; rfl) he
    refine thn (hkw.run pos pins s1 σ H1 _ I1 q) fun ws s2 ⟨zs, H2, I2, rz, q2⟩ => ⟨I2.kIn, ?_⟩
    rw [hks]
    obtain ⟨l1, l2, q3⟩ := q2
    have r2 := hb.rel r rz
    have hx : PassesAt (L2.CX X.prog X.w) X σ (WE W σ) := passAt tk σ
    refine wpAny_call (codeAny_mono (F0.run X.A X.stack s2 H2 ⟨us, ks.zip ws⟩ (us ++ ws) (vs ++ zs) Q (WE W σ) hr I2.env0 (hb.to s2 us ws I2.kIn (r.length.symm.trans l1) (rz.length.symm.trans l2)) r2 q3) fun r s' hq => ?_)
    cases r with
    | error e => exact hx pins H2 s2 e s' I2 hq
    | ok fl =>
      cases fl with
      | ret u => exact I2.after hq
      | next => exact False.elim hq
      | brk => exact False.elim hq
      | cont => exact False.elim hq
  refine key.weak ?_
  rintro σ H Q ⟨ρ, h, en, S, E, p⟩
  refine tR.step S E p fun ρ1 H1 xs h1 vs l1 S1 E1 r1 p1 => ?_
  refine tR.step S1 E1 p1 fun ρ2 H2 zs h2 ws l2 S2 E2 r2 p2 => ?_
  split at p2
  · rename_i hl
    have r3 : VRels X.K ρ2 H2 (xs ++ zs) (vs ++ ws) := (r1.mono l2).append r2
    exact ⟨by rw [← r1.length]; exact hl.1, by rw [← r2.length]; exact hl.2, by rw [← r3.length]; exact p2.len hF, ρ2, h2, xs ++ zs, S2, r3, p2.reW fun c d H w => w⟩
  · exact p2.elim
theorem e_call0 (F0 : FnOk X.prog X.w X.K X.mg X.base (L2.CX X.prog X.w) k f fd ps (spF T X.K ps.length F)) (hF : ∀ xs h, xs.length ≠ ps.length → F xs h = .bad) (hr : Room k X.A) (tk : Takes X W) (hg : Gl X x) (hm : X.mg x = some (.ref f)) (hk : PySem.W.keepIn X.K (.ref f) = true)
    (hb : Binds X.K fd ps us) (hd : Vals dvs us) (hds : ∀ ρ H, VRels X.K ρ H ds dvs) (hdb : (x == ("__debug__" : Str)) = false) :
    PE X (.Call (.Name x p) [] [] pos) (tE T X.K W (cCall F ds aNil)) := by
  refine ⟨fun pins s σ H Q I q => ?_⟩
  obtain ⟨ρ, h, en, S, E, p⟩ := q
  have p : Post T X.K (VR X.K) W σ ρ H (F ds h) Q := p
  refine wpAny_Call_Name_kw (ld_glob I hg hm ?_ hdb)
  refine PySem.W.callWith_K0 I.kIn hk (run_fnSD (us := []) (vs := []) (E := WE W) F0 hr hb hd (passAt tk σ) I .nil ?_)
  exact ⟨by rw [List.nil_append, ← (hds ρ H).length]; exact p.len hF, ρ, h, ds, S, hds ρ H, p.reW fun c d H w => w⟩
end

/-! ### statements -/
inductive SR where
  | nx (en : En) (h : Hm) | rt (v : PV) (h : Hm) | bk (en : En) (h : Hm) | ct (en : En) (h : Hm) | ex (e : Ex) (en : En) (h : Hm) | bad
abbrev CS := En → Hm → SR
def R.toS {α : Type} (r : R α) (en : En) (f : α → Hm → SR) : SR := match r with
  | .ok a h => f a h
  | .ex e h => .ex e en h
  | .bad => .bad
@[simp] theorem R.toS_ok {α : Type} (a : α) (h : Hm) (en : En) (f : α → Hm → SR) : (R.ok a h).toS en f = f a h := rfl
@[simp] theorem R.toS_ex {α : Type} (e : Ex) (h : Hm) (en : En) (f : α → Hm → SR) : (R.ex e h : R α).toS en f = .ex e en h := rfl
@[simp] theorem R.toS_bad {α : Type} (en : En) (f : α → Hm → SR) : (R.bad : R α).toS en f = .bad := rfl
@[simp] theorem R.toS_ite {α : Type} (c : Prop) [Decidable c] (a b : R α) (en : En) (f : α → Hm → SR) : (if c then a else b).toS en f = if c then a.toS en f else b.toS en f := by split <;> rfl
def SR.then (r : SR) (f : CS) : SR := match r with
  | .nx en h => f en h
  | r => r
@[simp] theorem SR.then_nx (en : En) (h : Hm) (f : CS) : (SR.nx en h).then f = f en h := rfl
@[simp] theorem SR.then_rt (v : PV) (h : Hm) (f : CS) : (SR.rt v h).then f = .rt v h := rfl
@[simp] theorem SR.then_bk (en : En) (h : Hm) (f : CS) : (SR.bk en h).then f = .bk en h := rfl
@[simp] theorem SR.then_ct (en : En) (h : Hm) (f : CS) : (SR.ct en h).then f = .ct en h := rfl
@[simp] theorem SR.then_ex (e : Ex) (en : En) (h : Hm) (f : CS) : (SR.ex e en h).then f = .ex e en h := rfl
@[simp] theorem SR.then_bad (f : CS) : SR.bad.then f = .bad := rfl
@[simp] theorem SR.then_ite (c : Prop) [Decidable c] (a b : SR) (f : CS) : (if c then a else b).then f = if c then a.then f else b.then f := by split <;> rfl
def PostS (T : Tb) (K : PySem.W.Frag) (W : WX) (ρ : List Addr) (H : Hp) (r : SR) (D : Ends) : Prop := match r with
  | .nx en h => ∀ ρ' H' σ', Le K ρ H ρ' H' → Sim T K ρ' h H' → ERel K ρ' H' en σ' → D.nx σ' H'
  | .rt v h => ∀ ρ' H' v', Le K ρ H ρ' H' → Sim T K ρ' h H' → VRel K ρ' H' v v' → D.rt v' H'
  | .bk en h => ∀ ρ' H' σ', Le K ρ H ρ' H' → Sim T K ρ' h H' → ERel K ρ' H' en σ' → D.bk σ' H'
  | .ct en h => ∀ ρ' H' σ', Le K ρ H ρ' H' → Sim T K ρ' h H' → ERel K ρ' H' en σ' → D.ct σ' H'
  | .ex e en h => ∀ ρ' H' σ' d, Le K ρ H ρ' H' → Sim T K ρ' h H' → ERel K ρ' H' en σ' → XRel T K ρ' H' e d → W (.ref (T.cls e.c)) d σ' H'
  | .bad => False
def tS (T : Tb) (K : PySem.W.Frag) (W : WX) (c : CS) : TS := fun D σ H => ∃ ρ h en, Sim T K ρ h H ∧ ERel K ρ H en σ ∧ PostS T K W ρ H (c en h) D
section
variable {α β : Type} {T : Tb} {K : PySem.W.Frag} {Rl : RLT α β} {W : WX} {σ : L2.St} {ρ ρ' : List Addr} {H H' : Hp} {en : En} {h : Hm} {D : Ends}
theorem PostS.mono {r : SR} (l : Le K ρ H ρ' H') (p : PostS T K W ρ H r D) : PostS T K W ρ' H' r D := by
  cases r with
  | nx en h => exact fun a b c l2 => p a b c (l.trans l2)
  | rt v h => exact fun a b c l2 => p a b c (l.trans l2)
  | bk en h => exact fun a b c l2 => p a b c (l.trans l2)
  | ct en h => exact fun a b c l2 => p a b c (l.trans l2)
  | ex e en h => exact fun a b c d l2 => p a b c d (l.trans l2)
  | bad => exact p
/-- an expression's part of a statement -/
theorem tR.stepS {c : En → Hm → R α} {f : α → Hm → SR} {P : β → Hp → Prop} (S : Sim T K ρ h H) (E : ERel K ρ H en σ) (p : PostS T K W ρ H ((c en h).toS en f) D)
    (k : ∀ ρ1 H1 a h1 b, Le K ρ H ρ1 H1 → Sim T K ρ1 h1 H1 → ERel K ρ1 H1 en σ → Rl ρ1 H1 a b → PostS T K W ρ1 H1 (f a h1) D → P b H1) : tR T K Rl W c σ H P := by
  refine ⟨ρ, h, en, S, E, ?_⟩
  cases q : c en h with
  | ok a h1 => rw [q] at p; exact fun ρ1 H1 b l S1 r => k ρ1 H1 a h1 b l S1 (E.mono l) r (PostS.mono l p)
  | ex e h1 => rw [q] at p; exact fun ρ1 H1 d l S1 x => p ρ1 H1 σ d l S1 (E.mono l) x
  | bad => rw [q] at p; exact p
end
def sNext : CS := fun en h => .nx en h
def sSeq (a b : CS) : CS := fun en h => (a en h).then b
def sRet (c : CE) : CS := fun en h => (c en h).toS en fun v h1 => .rt v h1
def sRetN : CS := fun _ h => .rt .non h
def sDrop (c : CE) : CS := fun en h => (c en h).toS en fun _ h1 => .nx en h1
def sIf (t : CT) (a b : CS) : CS := fun en h => (t en h).toS en fun k h1 => if k = true then a en h1 else b en h1
def sBreak : CS := fun en h => .bk en h
def sCont : CS := fun en h => .ct en h
def sBad : CS := fun _ _ => .bad
section
variable {X : Cx} {T : Tb} {W : WX} {st : Stmt} {rest sa sb : List Stmt} {e c : Expr} {ca : CE} {ta : CT} {a b : CS} {pos : Pos}
theorem z_nil : PSs X [] (tS T X.K W sNext) := ⟨fun pins s σ H D I ⟨ρ, h, en, S, E, p⟩ => pss_nil.run pins s σ H D I (p ρ H σ Le.refl S E)⟩
theorem z_cons (h1 : PS X st (tS T X.K W a)) (h2 : PSs X rest (tS T X.K W b)) : PSs X (st :: rest) (tS T X.K W (sSeq a b)) := by
  refine (pss_cons h1 h2).weak ?_
  rintro D σ H ⟨ρ, h, en, S, E, p⟩
  refine ⟨ρ, h, en, S, E, ?_⟩
  have p : PostS T X.K W ρ H ((a en h).then b) D := p
  cases q : a en h with
  | nx en1 h1 => rw [q] at p; exact fun ρ1 H1 σ1 l S1 E1 => ⟨ρ1, h1, en1, S1, E1, PostS.mono l p⟩
  | rt v h1 => rw [q] at p; exact p
  | bk en1 h1 => rw [q] at p; exact p
  | ct en1 h1 => rw [q] at p; exact p
  | ex e en1 h1 => rw [q] at p; exact p
  | bad => rw [q] at p; exact p
theorem z_bad : PS X st (tS T X.K W sBad) := ⟨fun pins s σ H D I ⟨ρ, h, en, S, E, p⟩ => p.elim⟩
theorem z_pass : PS X (.Pass pos) (tS T X.K W sNext) := ps_pass.weak fun D σ H ⟨ρ, h, en, S, E, p⟩ => p ρ H σ Le.refl S E
theorem z_break : PS X (.Break pos) (tS T X.K W sBreak) := ps_break.weak fun D σ H ⟨ρ, h, en, S, E, p⟩ => p ρ H σ Le.refl S E
theorem z_cont : PS X (.Continue pos) (tS T X.K W sCont) := ps_continue.weak fun D σ H ⟨ρ, h, en, S, E, p⟩ => p ρ H σ Le.refl S E
theorem z_ret (he : PE X e (tE T X.K W ca)) : PS X (.Return (some e) pos) (tS T X.K W (sRet ca)) := by
  refine (ps_ret (pos := pos) he).weak ?_
  rintro D σ H ⟨ρ, h, en, S, E, p⟩
  exact tR.stepS S E p fun ρ1 H1 v h1 v' l S1 E1 r p1 => p1 ρ1 H1 v' Le.refl S1 r
theorem z_retN : PS X (.Return none pos) (tS T X.K W sRetN) := ps_retN.weak fun D σ H ⟨ρ, h, en, S, E, p⟩ => p ρ H .non Le.refl S .non
theorem z_expr (he : PE X e (tE T X.K W ca)) (hs : swapsWith e none pos.line X.env = pure false) : PS X (.Expr e pos) (tS T X.K W (sDrop ca)) := by
  refine (ps_expr he hs).weak ?_
  rintro D σ H ⟨ρ, h, en, S, E, p⟩
  exact tR.stepS S E p fun ρ1 H1 v h1 v' l S1 E1 r p1 => p1 ρ1 H1 σ Le.refl S1 E1
theorem z_if (hc : PT X c (tT T X.K W ta)) (ha : PSs X sa (tS T X.K W a)) (hb : PSs X sb (tS T X.K W b)) : PS X (.If c sa sb pos) (tS T X.K W (sIf ta a b)) := by
  refine (ps_if (pos := pos) hc ha hb).weak ?_
  rintro D σ H ⟨ρ, h, en, S, E, p⟩
  refine tR.stepS S E p fun ρ1 H1 k h1 k' l S1 E1 r p1 => ?_
  cases (show k = k' from r)
  cases k with
  | true => rw [if_pos rfl] at p1 ⊢; exact ⟨ρ1, h1, en, S1, E1, p1⟩
  | false => rw [if_neg Bool.false_ne_true] at p1 ⊢; exact ⟨ρ1, h1, en, S1, E1, p1⟩
end
/-- behind a turn of a loop -/
def SR.loop (r : SR) (f : CS) : SR := match r with
  | .nx en h => f en h
  | .ct en h => f en h
  | .bk en h => .nx en h
  | r => r
@[simp] theorem SR.loop_nx (en : En) (h : Hm) (f : CS) : (SR.nx en h).loop f = f en h := rfl
@[simp] theorem SR.loop_rt (v : PV) (h : Hm) (f : CS) : (SR.rt v h).loop f = .rt v h := rfl
@[simp] theorem SR.loop_bk (en : En) (h : Hm) (f : CS) : (SR.bk en h).loop f = .nx en h := rfl
@[simp] theorem SR.loop_ct (en : En) (h : Hm) (f : CS) : (SR.ct en h).loop f = f en h := rfl
@[simp] theorem SR.loop_ex (e : Ex) (en : En) (h : Hm) (f : CS) : (SR.ex e en h).loop f = .ex e en h := rfl
@[simp] theorem SR.loop_bad (f : CS) : SR.bad.loop f = .bad := rfl
@[simp] theorem SR.loop_ite (c : Prop) [Decidable c] (a b : SR) (f : CS) : (if c then a else b).loop f = if c then a.loop f else b.loop f := by split <;> rfl
def whileL (t : CT) (b : CS) : Nat → CS
  | 0, _, _ => .bad
  | n + 1, en, h => (t en h).toS en fun k h1 => if k = true then (b en h1).loop (whileL t b n) else .nx en h1
/-- what stands behind a loop's body -/
theorem loop_post {T : Tb} {K : PySem.W.Frag} {W : WX} {ρ : List Addr} {H : Hp} {r : SR} {f : CS} {D : Ends} {N : L2.St → Hp → Prop} (p : PostS T K W ρ H (r.loop f) D)
    (hN : ∀ ρ1 H1 σ1 en1 h1, Le K ρ H ρ1 H1 → Sim T K ρ1 h1 H1 → ERel K ρ1 H1 en1 σ1 → PostS T K W ρ1 H1 (f en1 h1) D → N σ1 H1) : PostS T K W ρ H r { D with nx := N, ct := N, bk := D.nx } := by
  cases r with
  | nx en1 h1 => exact fun ρ1 H1 σ1 l S1 E1 => hN ρ1 H1 σ1 en1 h1 l S1 E1 (PostS.mono l p)
  | ct en1 h1 => exact fun ρ1 H1 σ1 l S1 E1 => hN ρ1 H1 σ1 en1 h1 l S1 E1 (PostS.mono l p)
  | rt v h1 => exact p
  | bk en1 h1 => exact p
  | ex e en1 h1 => exact p
  | bad => exact p
section
variable {X : Cx} {T : Tb} {W : WX} {st : Stmt} {rest sa sb : List Stmt} {e c : Expr} {ca : CE} {ta : CT} {a b : CS} {pos : Pos}
theorem z_while (m : Nat) (hp : PassesOwn (model X.prog X.w) X.A X.env X.xe) (hc : PT X c (tT T X.K W ta)) (hb : PSs X sa (tS T X.K W a)) : PS X (.While c sa [] pos) (tS T X.K W (whileL ta a m)) := by
  refine (ps_while (pos := pos) hp hc hb).weak ?_
  rintro D σ H ⟨ρ, h, en, S, E, p⟩
  refine ⟨fun k σ' H' => ∃ ρ' h' en', Sim T X.K ρ' h' H' ∧ ERel X.K ρ' H' en' σ' ∧ PostS T X.K W ρ' H' (whileL ta a k en' h') D, ⟨m, ρ, h, en, S, E, p⟩, ?_⟩
  rintro k σ1 H1 ⟨ρ1, h1, en1, S1, E1, p1⟩
  cases k with
  | zero => exact p1.elim
  | succ k =>
    refine tR.stepS S1 E1 p1 fun ρ2 H2 x h2 x' l2 S2 E2 r2 p2 => ?_
    cases (show x = x' from r2)
    cases x with
    | false => rw [if_neg Bool.false_ne_true] at p2 ⊢; exact p2 ρ2 H2 σ1 Le.refl S2 E2
    | true =>
      rw [if_pos rfl] at p2 ⊢
      exact ⟨_, fun _ _ n => ⟨k, Nat.lt_succ_self k, n⟩, ρ2, h2, en1, S2, E2, loop_post p2 fun ρ3 H3 σ3 en3 h3 l3 S3 E3 p3 => ⟨ρ3, h3, en3, S3, E3, p3⟩⟩
end
end RS

set_option Elab.async false
set_option linter.all false
set_option maxRecDepth 100000
set_option maxHeartbeats 4000000
set_option autoImplicit false
namespace RS
open PySem PySem.Spec PyProof.Rows L2

/-! ### targets -/
abbrev ER (K : PySem.W.Frag) : RLT En L2.St := fun ρ H en σ => ERel K ρ H en σ
abbrev CG := PV → En → Hm → R En
def tG (T : Tb) (K : PySem.W.Frag) (W : WX) (c : CG) : TG := fun v σ H Q => ∃ ρ h en x, Sim T K ρ h H ∧ ERel K ρ H en σ ∧ VRel K ρ H x v ∧ Post T K (ER K) W σ ρ H (c x en h) Q
def tGs (T : Tb) (K : PySem.W.Frag) (W : WX) (c : List PV → En → Hm → R En) : TGs := fun vs σ H Q => ∃ ρ h en xs, Sim T K ρ h H ∧ ERel K ρ H en σ ∧ VRels K ρ H xs vs ∧ Post T K (ER K) (fun _ _ _ _ => False) σ ρ H (c xs en h) Q
theorem _root_.L2.PG.weak {X : Cx} {e : Expr} {t t' : TG} (h : PG X e t) (w : ∀ v σ H Q, t' v σ H Q → t v σ H Q) : PG X e t' := ⟨fun pins s σ H v u Q I r q => h.run pins s σ H v u Q I r (w _ _ _ _ q)⟩
theorem _root_.L2.PGs.weak {X : Cx} {e : List Expr} {t t' : TGs} (h : PGs X e t) (w : ∀ v σ H Q, t' v σ H Q → t v σ H Q) : PGs X e t' := ⟨fun pins s σ H v u Q I r q => h.run pins s σ H v u Q I r (w _ _ _ _ q)⟩
def gN (i : Nat) : CG := fun x en h => .ok (en.set i (some x)) h
def gsNil : List PV → En → Hm → R En := fun xs en h => match xs with
  | [] => .ok en h
  | _ => .bad
def R.noex {α : Type} (r : R α) : R α := match r with
  | .ok a h => .ok a h
  | _ => .bad
@[simp] theorem R.noex_ok {α : Type} (a : α) (h : Hm) : (R.ok a h).noex = .ok a h := rfl
@[simp] theorem R.noex_bad {α : Type} : (R.bad : R α).noex = .bad := rfl
@[simp] theorem R.noex_ite {α : Type} (c : Prop) [Decidable c] (a b : R α) : (if c then a else b).noex = if c then a.noex else b.noex := by split <;> rfl
def gsCons (g : CG) (r : List PV → En → Hm → R En) : List PV → En → Hm → R En := fun xs en h => match xs with
  | x :: xs => (g x en h).noex.bind fun en1 h1 => r xs en1 h1
  | [] => .bad
def gT (n : Nat) (gs : List PV → En → Hm → R En) : CG := fun x en h => match seqOf x h with
  | some xs => if xs.length = n then (gs xs en h).noex else .bad
  | none => .bad
/-- o[i] = v -/
def pSet (o i v : PV) (h : Hm) : R Unit := match o with
  | .ref n => match h[n]? with
    | some (.lst xs) => match i with
      | .int k => match ixN xs.length k with
        | some j => .ok () (h.set n (.lst (xs.set j v)))
        | none => .bad
      | _ => .bad
    | some (.dK kvs) => if (keyV i).isSome ∧ kvs.length < 16777216 then .ok () (h.set n (.dK (putP kvs i v))) else .bad
    | some (.dT kvs) => if (keyT i).isSome ∧ kvs.length < 16777216 then .ok () (h.set n (.dT (putP kvs i v))) else .bad
    | _ => .bad
  | _ => .bad
def gS (co ci : CE) : CG := fun x en h => (co en h).bind fun o h1 => (ci en h1).bind fun i h2 => (pSet o i x h2).bind fun _ h3 => .ok en h3
section
variable {X : Cx} {T : Tb} {W : WX} {e c : Expr} {es : List Expr} {ca ci : CE} {pos : Pos} {g : CG} {gs : List PV → En → Hm → R En}
theorem Post.fal {α β : Type} {T : Tb} {K : PySem.W.Frag} {Rl : RLT α β} {W : WX} {σ σ' : L2.St} {ρ : List Addr} {H : Hp} {r : R α} {Q : β → Hp → Prop} (p : Post T K Rl (fun _ _ _ _ => False) σ ρ H r Q) : Post T K Rl W σ' ρ H r Q := p.reW fun _ _ _ h => h.elim
theorem Post.noex {α β : Type} {T : Tb} {K : PySem.W.Frag} {Rl : RLT α β} {W W' : WX} {σ σ' : L2.St} {ρ : List Addr} {H : Hp} {r : R α} {Q : β → Hp → Prop} (p : Post T K Rl W σ ρ H r.noex Q) : Post T K Rl W' σ' ρ H r Q := by
  cases r with
  | ok a h => exact p
  | ex e h => exact p.elim
  | bad => exact p
theorem g_name {i : Nat} {x : Str} (hN : X.N.Nodup) (hi : X.N[i]? = some x) (hx : Loc X.env.scope x) (hf : X.fn x = true ∨ X.env.scope.names.lookup x = some .local) : PG X (.Name x pos) (tG T X.K W (gN i)) := by
  refine (pg_name hN hi hx hf).weak ?_
  rintro v σ H Q ⟨ρ, h, en, x, S, E, r, p⟩
  exact p ρ H _ Le.refl S (E.set i r)
theorem gs_nil : PGs X [] (tGs T X.K W gsNil) := by
  refine pgs_nil.weak ?_
  rintro vs σ H Q ⟨ρ, h, en, xs, S, E, r, p⟩
  cases r with
  | nil => exact ⟨rfl, p ρ H _ Le.refl S E⟩
  | cons _ _ => exact p.elim
theorem gs_cons (h1 : PG X e (tG T X.K (fun _ _ _ _ => False) g)) (h2 : PGs X es (tGs T X.K W gs)) (hs : (assignEach (e :: es) X.env).map (·.2) = assign e X.env :: (assignEach es X.env).map (·.2)) : PGs X (e :: es) (tGs T X.K W (gsCons g gs)) := by
  refine (pgs_cons h1 h2 hs).weak ?_
  rintro vs σ H Q ⟨ρ, h, en, xs, S, E, r, p⟩
  cases r with
  | nil => exact p.elim
  | @cons x xs v vs r1 r2 =>
    have p : Post T X.K (ER X.K) (fun _ _ _ _ => False) σ ρ H ((g x en h).noex.bind fun en1 h1 => gs xs en1 h1) Q := p
    refine ⟨v, vs, rfl, ρ, h, en, x, S, E, r1, Post.noex (W := fun _ _ _ _ => False) (σ := σ) (Post.step (Rl := ER X.K) p fun ρ1 H1 en1 h1 σ1 l1 S1 E1 p1 => ?_)⟩
    exact ⟨ρ1, h1, en1, xs, S1, E1, r2.mono l1, p1.fal⟩
theorem g_tup {k n : Nat} (hc : X.calm = true) (h : PGs X es (tGs T X.K W gs)) (hn : (assignEach es X.env).length = n) (hst : (assignEach es X.env).findIdx? (·.1) = none) : PG X (.Tuple es k pos) (tG T X.K W (gT n gs)) := by
  have w : ∀ {v : V} {σ : L2.St} {H : Hp} {Q : L2.St → Hp → Prop}, tG T X.K W (gT n gs) v σ H Q → gTup X.K n (tGs T X.K W gs) v σ H Q ∨ gLst X.K n (tGs T X.K W gs) v σ H Q := by
    rintro v σ H Q ⟨ρ, h, en, x, S, E, r, p⟩
    unfold gT at p
    split at p
    · rename_i xs e
      obtain ⟨a, vs, ev, r2, hs⟩ := seqOf_of S e r
      split at p
      · rename_i hl
        have fin : tGs T X.K W gs vs σ H Q := by
          exact ⟨ρ, h, en, xs, S, E, r2, Post.noex p⟩
        rcases hs with hs | hs
        · exact .inr ⟨a, vs, ev, hs, by rw [← r2.length]; exact hl, fin⟩
        · exact .inl ⟨a, vs, ev, hs, by rw [← r2.length]; exact hl, fin⟩
      · exact p.elim
    · exact p.elim
  refine ⟨fun pins s σ H v u Q I r q => ?_⟩
  rcases w q with q | q
  · exact (pg_tup (k := k) (pos := pos) hc h hn hst).run pins s σ H v u Q I r q
  · exact (pg_lst (k := k) (pos := pos) hc h hn hst).run pins s σ H v u Q I r q
/-- a store by values -/
theorem pSet_of {T : Tb} {K : PySem.W.Frag} {W : WX} {σ : L2.St} {ρ : List Addr} {H : Hp} {h : Hm} {o i v : PV} {o' i' v' : V} {Q : Hp → Prop} (S : Sim T K ρ h H) (ro : VRel K ρ H o o') (ri : VRel K ρ H i i') (rv : VRel K ρ H v v')
    (p : Post T K (fun _ _ (_ : Unit) (_ : Unit) => True) W σ ρ H (pSet o i v h) fun _ H1 => Q H1) : rSetL o' i' v' H Q ∨ rSetD o' i' v' H Q := by
  unfold pSet at p
  split at p
  · rename_i n
    cases ro with
    | ref ea =>
      split at p
      · rename_i xs e
        split at p
        · rename_i k
          cases ri
          split at p
          · rename_i j ej
            obtain ⟨vs, r, q⟩ := lst_mut S e ea
            obtain ⟨l, S2⟩ := lst_write S e ea (r.set rv j)
            exact .inl ⟨_, vs, k, j, rfl, rfl, q, by rw [← r.length]; exact ej, p _ _ () l S2 trivial⟩
          · exact p.elim
        · exact p.elim
      · rename_i kvs e
        split at p
        · rename_i hk
          obtain ⟨hk, hl⟩ := hk
          obtain ⟨j, ej⟩ := Option.isSome_iff_exists.mp hk
          obtain ⟨l, rl, q⟩ := S.at e ea
          obtain ⟨l2, S2⟩ := S.write (m' := .dK (putP kvs i v)) (o := .dK (putK l j v')) e ea rfl rfl fun l3 => ⟨_, (rl.mono l3).put (fun {_ _ _} => keyV_inj) ej (rv.mono l3), upd_same⟩
          refine .inr ⟨_, _, rfl, ?_, p _ _ () l2 S2 trivial⟩
          rw [kV_of ej ri]
          exact DPut.k q (lt_line (by rw [← rl.length]; exact hl))
        · exact p.elim
      · rename_i kvs e
        split at p
        · rename_i hk
          obtain ⟨hk, hl⟩ := hk
          obtain ⟨j, ej⟩ := Option.isSome_iff_exists.mp hk
          obtain ⟨l, rl, q⟩ := S.at e ea
          obtain ⟨l2, S2⟩ := S.write (m' := .dT (putP kvs i v)) (o := .dT (putK l j v')) e ea rfl rfl fun l3 => ⟨_, (rl.mono l3).put (fun {_ _ _} => keyT_inj) ej (rv.mono l3), upd_same⟩
          refine .inr ⟨_, _, rfl, ?_, p _ _ () l2 S2 trivial⟩
          cases ri with
          | tup ht hr =>
            have ej2 : keysV _ = some j := ej
            exact DPut.t q (by rw [ht, kVs_of ej2 hr]) (lt_line (by rw [← rl.length]; exact hl))
          | _ => simp [keyT] at ej
        · exact p.elim
      · exact p.elim
  · exact p.elim
def rSetX : TSet := fun o i v H Q => rSetL o i v H Q ∨ rSetD o i v H Q
theorem set_X (hu : X.A.units + 1 < cLine) : PSet X rSetX := by
  intro pins s σ H o i v ov iv u Q I ro ri rv q
  rcases q with q | q
  · exact set_list pins s σ H o i v ov iv u Q I ro ri rv q
  · exact set_dict hu pins s σ H o i v ov iv u Q I ro ri rv q
theorem g_sub (hu : X.A.units + 1 < cLine) (ho : PE X e (tE T X.K W ca)) (hi : PE X c (tE T X.K W ci))
    (ha : ∀ v, assign (.Subscript e c pos) X.env v = (do
      let ov ← holding [v] (eval e X.env)
      let iv ← holding [v, ov] (eval c X.env)
      standAt pos
      holding [v, ov, iv] (setItem ov iv v)
      release [v, ov, iv] [])) : PG X (.Subscript e c pos) (tG T X.K W (gS ca ci)) := by
  refine (pg_sub ho hi (set_X hu) ha).weak ?_
  rintro v σ H Q ⟨ρ, h, en, x, S, E, r, p⟩
  refine tR.step S E p fun ρ1 H1 o h1 o' l1 S1 E1 r1 p1 => ?_
  refine tR.step S1 E1 p1 fun ρ2 H2 i h2 i' l2 S2 E2 r2 p2 => ?_
  refine pSet_of (W := W) (σ := σ) S2 (r1.mono l2) r2 (r.mono (l1.trans l2)) (Post.step p2 fun ρ3 H3 _ h3 _ l3 S3 _ p3 => ?_)
  exact p3 ρ3 H3 σ Le.refl S3 (E2.mono l3)

/-! ### assignments -/
def sAsg (g : CG) (c : CE) : CS := fun en h => (c en h).toS en fun x h1 => (g x en h1).toS en fun en2 h2 => .nx en2 h2
theorem asg_read {t : TE} (w : ∀ σ H Q, tE T X.K W ca σ H Q → t σ H Q) {D : Ends} {σ : L2.St} {H : Hp} (q : tS T X.K W (sAsg g ca) D σ H) : tAsg t (tG T X.K W g) D σ H := by
  obtain ⟨ρ, h, en, S, E, p⟩ := q
  refine w _ _ _ (tR.stepS S E p fun ρ1 H1 x h1 x' l1 S1 E1 r1 p1 => ?_)
  refine ⟨ρ1, h1, en, x, S1, E1, r1, ?_⟩
  cases q : g x en h1 with
  | ok en2 h2 => rw [q] at p1; exact fun ρ2 H2 σ2 l2 S2 E2 => p1 ρ2 H2 σ2 l2 S2 E2
  | ex e h2 => rw [q] at p1; exact fun ρ2 H2 d l2 S2 x2 => p1 ρ2 H2 σ d l2 S2 (E1.mono l2) x2
  | bad => rw [q] at p1; exact p1
theorem z_asg {tg : Expr} (he : PE X e (tE T X.K W ca)) (hg : PG X tg (tG T X.K W g)) (hs : swapsWithSole [tg] e pos.line X.env = pure false) (hw : swappedStores [tg] e X.env = pure none)
    (h1 : (assignEach [tg] X.env).map (·.2) = [assign tg X.env]) : PS X (.Assign [tg] e pos) (tS T X.K W (sAsg g ca)) :=
  (ps_asg he hg hs hw h1).weak fun _ _ _ => asg_read fun _ _ _ q => q
theorem name_read {t : TE} {i : Nat} (w : ∀ σ H Q, tE T X.K W ca σ H Q → t σ H Q) {D : Ends} {σ : L2.St} {H : Hp} (q : tS T X.K W (sAsg (gN i) ca) D σ H) : tAsg t (gName i) D σ H := by
  obtain ⟨ρ, h, en, S, E, p⟩ := q
  refine w _ _ _ (tR.stepS S E p fun ρ1 H1 x h1 x' l1 S1 E1 r1 p1 => ?_)
  exact p1 ρ1 H1 _ Le.refl S1 (E1.set i r1)
theorem z_set {i : Nat} {x : Str} {pos' : Pos} (hN : X.N.Nodup) (hi : X.N[i]? = some x) (hx : Loc X.env.scope x) (he : PE X e (tE T X.K W ca)) (hs : swapsWith e (some (.Name x pos')) pos.line X.env = pure false) (hf : X.fn x = true ∨ X.env.scope.names.lookup x = some .local) :
    PS X (.Assign [.Name x pos'] e pos) (tS T X.K W (sAsg (gN i) ca)) :=
  (ps_set hN hi hx he hs hf).weak fun _ _ _ => name_read fun _ _ _ q => q
def parK (i j : Nat) (xs : List PV) (en : En) (h : Hm) : SR := match xs with
  | [v, w] => .nx ((en.set i (some v)).set j (some w)) h
  | _ => .bad
def sPar (i j : Nat) (ra : CA) : CS := fun en h => (ra en h).toS en fun xs h1 => parK i j xs en h1
theorem z_par {i j : Nat} {x y : Str} {a b : Expr} {ra : CA} {px py pt : Pos} {kt k2 : Nat} {pt2 : Pos} (hc : X.calm = true) (hN : X.N.Nodup) (hi : X.N[i]? = some x) (hj : X.N[j]? = some y) (hij : i ≠ j)
    (hx : X.env.scope.names.lookup x = some .local) (hy : X.env.scope.names.lookup y = some .local) (ha : PA X [a, b] (tA T X.K W ra))
    (hw : swappedStores [.Tuple [.Name x px, .Name y py] kt pt] (.Tuple [a, b] k2 pt2) X.env = pure (some [x, y]))
    (hs : swapsWithSole [.Tuple [.Name x px, .Name y py] kt pt] (.Tuple [a, b] k2 pt2) pos.line X.env = pure false) :
    PS X (.Assign [.Tuple [.Name x px, .Name y py] kt pt] (.Tuple [a, b] k2 pt2) pos) (tS T X.K W (sPar i j ra)) := by
  refine (ps_par hc hN hi hj hij hx hy ha hw hs).weak ?_
  rintro D σ H ⟨ρ, h, en, S, E, p⟩
  refine tR.stepS S E p fun ρ1 H1 xs h1 vs l1 S1 E1 r1 p1 => ?_
  unfold parK at p1
  split at p1
  · rename_i v w
    obtain ⟨v', w', rfl, r2, r3⟩ := vrels2 r1
    exact ⟨v', w', rfl, p1 ρ1 H1 _ Le.refl S1 ((E1.set i r2).set j r3)⟩
  · exact p1.elim
/-- x op= e at a name -/
def sAug (i : Nat) (g : PV → PV → Hm → R PV) (c : CE) : CS := fun en h => match en[i]? with
  | some (some x) => (c en h).toS en fun y h1 => (g x y h1).toS en fun z h2 => .nx (en.set i (some z)) h2
  | _ => .bad
theorem z_aug {i : Nat} {x : Str} {op : Operator} {r : R2} {gg : PV → PV → Hm → R PV} {pos' : Pos} (hN : X.N.Nodup) (hi : X.N[i]? = some x) (hx : Loc X.env.scope x) (he : PE X e (tE T X.K W ca)) (ho : OpR X (inplaceOp op) r) (hsem : Sem2 T X.K r gg) (hf : X.fn x = true ∨ X.env.scope.names.lookup x = some .local) :
    PS X (.AugAssign (.Name x pos') op e pos) (tS T X.K W (sAug i gg ca)) := by
  refine (ps_aug (ti := r) hN hi hx he ho hf).weak ?_
  rintro D σ H ⟨ρ, h, en, S, E, p⟩
  have p : PostS T X.K W ρ H (match en[i]? with
    | some (some x) => (ca en h).toS en fun y h1 => (gg x y h1).toS en fun z h2 => .nx (en.set i (some z)) h2
    | _ => .bad) D := p
  split at p
  · rename_i v ev
    obtain ⟨v', e', rv⟩ := E.2 i v ev
    refine ⟨v', e', tR.stepS S E p fun ρ1 H1 y h1 y' l1 S1 E1 r1 p1 => ?_⟩
    refine hsem W σ ρ1 h1 H1 v y v' y' _ S1 (rv.mono l1) r1 ?_
    cases q : gg v y h1 with
    | ok z h2 => rw [q] at p1; exact fun ρ2 H2 z' l2 S2 r2 => p1 ρ2 H2 _ l2 S2 ((E1.mono l2).set i r2)
    | ex e h2 => rw [q] at p1; exact fun ρ2 H2 d l2 S2 x2 => p1 ρ2 H2 σ d l2 S2 (E1.mono l2) x2
    | bad => rw [q] at p1; exact p1
  · exact p.elim
end

/-! ### what a loop walks -/
/-- at turn i: none: not known; some none: the end; some (some x): x comes -/
abbrev ItF := Hm → Nat → Option (Option PV)
def ItK (T : Tb) (K : PySem.W.Frag) (J : It) (ρ' : List Addr) (h' : Hm) (H' : Hp) (i : Nat) : Option (Option PV) → Prop
  | none => True
  | some none => J.stop i H'
  | some (some x) => J.go i H' ∧ ∀ x' H2, J.yld i H' x' H2 → Le K ρ' H' ρ' H2 ∧ Sim T K ρ' h' H2 ∧ VRel K ρ' H2 x x'
def ItR (T : Tb) (K : PySem.W.Frag) : RLT ItF It := fun ρ H it J => ∀ ρ' h' H' (i : Nat), Le K ρ H ρ' H' → Sim T K ρ' h' H' → ItK T K J ρ' h' H' i (it h' i)
abbrev CI := En → Hm → R ItF
abbrev tI (T : Tb) (K : PySem.W.Frag) (W : WX) (c : CI) : TI := tR T K (ItR T K) W c
theorem _root_.L2.PI.weak {X : Cx} {tg e : Expr} {t t' : TI} (h : PI X tg e t) (w : ∀ σ H Q, t' σ H Q → t σ H Q) : PI X tg e t' := ⟨fun pins s σ H Q I q => h.run pins s σ H Q I (w _ _ _ q)⟩
def itL (n : Nat) : ItF := fun h i => (lstAt h n).map fun xs => xs[i]?
def itT (xs : List PV) : ItF := fun _ i => some xs[i]?
def itR (lo : Int) (n : Nat) : ItF := fun _ i => some (if i < n then some (.int (lo + i)) else none)
def itStr (s : List Nat) : ItF := fun _ i => some (s[i]?.map fun c => .str [c])
/-- a list, a tuple or a text -/
def itOf (x : PV) (h : Hm) : R ItF := match x with
  | .tup xs => .ok (itT xs) h
  | .tupK xs => .ok (itT xs) h
  | .str s => .ok (itStr s) h
  | .ref n => match lstAt h n with
    | some _ => .ok (itL n) h
    | none => .bad
  | _ => .bad
def cIt (a : CE) : CI := fun en h => (a en h).bind fun x h1 => itOf x h1
section
variable {T : Tb} {K : PySem.W.Frag} {ρ : List Addr} {H : Hp}
theorem it_list {n : Nat} {a : Addr} (ea : ρ[n]? = some a) : ItR T K ρ H (itL n) (Itl K a) := by
  intro ρ' h' H' i l S
  unfold itL
  cases e : lstAt h' n with
  | none => trivial
  | some xs =>
    obtain ⟨vs, r, hs⟩ := lstAt_of S e (l.pre _ _ ea)
    rw [Option.map_some]
    cases q : xs[i]? with
    | none => exact ⟨vs, hs, by rw [← r.length]; exact List.getElem?_eq_none_iff.mp q⟩
    | some x =>
      obtain ⟨v, hv, rv⟩ := r.get q
      refine ⟨⟨vs, v, hs, hv⟩, fun x' H2 y => ?_⟩
      obtain ⟨rfl, y⟩ := y
      have := y vs hs
      rw [hv] at this; cases this
      exact ⟨Le.refl, S, rv⟩
theorem it_tup {xs : List PV} {vs : List V} {a : Addr} (hs : ∀ ρ' H', Le K ρ H ρ' H' → SqT K H' a vs) (r : VRels K ρ H xs vs) (inj : ∀ ρ' H' ws, Le K ρ H ρ' H' → SqT K H' a ws → True) : ItR T K ρ H (itT xs) (Itt K a) := by
  intro ρ' h' H' i l S
  unfold itT
  cases q : xs[i]? with
  | none => exact ⟨vs, hs _ _ l, by rw [← r.length]; exact List.getElem?_eq_none_iff.mp q⟩
  | some x =>
    obtain ⟨v, hv, rv⟩ := r.get q
    refine ⟨⟨vs, v, hs _ _ l, hv⟩, fun x' H2 y => ?_⟩
    obtain ⟨rfl, y⟩ := y
    have := y vs (hs _ _ l)
    rw [hv] at this; cases this
    exact ⟨Le.refl, S, rv.mono l⟩
theorem it_rng (lo : Int) (n : Nat) : ItR T K ρ H (itR lo n) (Itr lo n) := by
  intro ρ' h' H' i l S
  unfold itR
  by_cases hi : i < n
  · rw [if_pos hi]
    refine ⟨hi, fun x' H2 y => ?_⟩
    obtain ⟨rfl, rfl⟩ := y
    exact ⟨Le.refl, S, .int _⟩
  · rw [if_neg hi]
    exact Nat.not_lt.mp hi
theorem it_str (s : List Nat) : ItR T K ρ H (itStr s) (Its ⟨s.toArray⟩) := by
  intro ρ' h' H' i l S
  unfold itStr
  cases q : s[i]? with
  | none =>
    show s.toArray.size ≤ i
    simpa using List.getElem?_eq_none_iff.mp q
  | some c =>
    have hi := (List.getElem?_eq_some_iff.mp q).1
    refine ⟨by show i < s.toArray.size; simpa using hi, fun x' H2 y => ?_⟩
    obtain ⟨rfl, d, hd, rfl⟩ := y
    have : c = d := by
      have h2 : s[i]? = some d := by simpa using hd
      rw [q] at h2; exact Option.some.inj h2
    subst this
    exact ⟨Le.refl, S, .str [c]⟩
end
section
variable {X : Cx} {T : Tb} {W : WX} {e a b tg : Expr} {es : List Expr} {ca cb : CE} {ra : CA} {p pos : Pos}
theorem i_val (he : PE X e (tE T X.K W ca)) : PI X tg e (tI T X.K W (cIt ca)) := by
  refine ⟨fun pins s σ H R I q => ?_⟩
  obtain ⟨ρ, h, en, S, E, p⟩ := q
  cases q : ca en h with
  | ex x h1 =>
    unfold cIt at p
    rw [q] at p
    refine (pi_list he).run pins s σ H R I ⟨ρ, h, en, S, E, ?_⟩
    rw [q]; exact p
  | bad => unfold cIt at p; rw [q] at p; exact p.elim
  | ok x h1 =>
    unfold cIt at p
    rw [q] at p
    have p : Post T X.K (ItR T X.K) W σ ρ H (itOf x h1) R := p
    unfold itOf at p
    split at p
    · rename_i xs
      refine (pi_tup he).run pins s σ H R I ⟨ρ, h, en, S, E, ?_⟩
      rw [q]
      intro ρ1 H1 x' l1 S1 r1
      cases r1 with
      | tup ht hr => exact ⟨_, rfl, ⟨_, SqT.of ht⟩, p ρ1 H1 _ l1 S1 (it_tup (fun ρ' H' l => SqT.of (l.tup _ _ ht)) hr fun _ _ _ _ _ => trivial)⟩
    · rename_i xs
      refine (pi_tup he).run pins s σ H R I ⟨ρ, h, en, S, E, ?_⟩
      rw [q]
      intro ρ1 H1 x' l1 S1 r1
      cases r1 with
      | tupK ht hr => exact ⟨_, rfl, ⟨_, tpart ht⟩, p ρ1 H1 _ l1 S1 (it_tup (fun ρ' H' l => tpart ht) hr fun _ _ _ _ _ => trivial)⟩
    · rename_i s
      refine (pi_str he).run pins _ σ H R I ⟨ρ, h, en, S, E, ?_⟩
      rw [q]
      intro ρ1 H1 x' l1 S1 r1
      cases r1
      exact ⟨_, rfl, p ρ1 H1 _ l1 S1 (it_str _)⟩
    · rename_i n
      split at p
      · rename_i xs exs
        refine (pi_list he).run pins s σ H R I ⟨ρ, h, en, S, E, ?_⟩
        rw [q]
        intro ρ1 H1 x' l1 S1 r1
        cases r1 with
        | ref ea =>
          obtain ⟨vs, _, hs⟩ := lstAt_of S1 exs ea
          exact ⟨_, rfl, ⟨vs, hs⟩, p ρ1 H1 _ l1 S1 (it_list ea)⟩
      · exact p.elim
    · exact p.elim
def r1K (xs : List PV) (h : Hm) : R ItF := match xs with
  | [.int j] => if j.natAbs < 2 ^ 60 then .ok (itR 0 j.toNat) h else .bad
  | _ => .bad
def r2K (xs : List PV) (h : Hm) : R ItF := match xs with
  | [.int i, .int j] => if i.natAbs < 2 ^ 60 ∧ j.natAbs < 2 ^ 60 then .ok (itR i (j - i).toNat) h else .bad
  | _ => .bad
def cR1 (ra : CA) : CI := fun en h => (ra en h).bind fun xs h1 => r1K xs h1
def cR2 (ra : CA) : CI := fun en h => (ra en h).bind fun xs h1 => r2K xs h1
theorem i_r1 (hg : Gl X "range") (hm : X.mg "range" = none) (ha : PA X [a] (tA T X.K W ra)) (hs : starEach [a] X.env = [(false, eval a X.env)]) : PI X tg (.Call (.Name "range" p) [a] [] pos) (tI T X.K W (cR1 ra)) := by
  refine (pi_range1 hg hm ha hs).weak ?_
  rintro σ H R ⟨ρ, h, en, S, E, p⟩
  refine tR.step S E p fun ρ1 H1 xs h1 vs l1 S1 E1 r1 p1 => ?_
  unfold r1K at p1
  split at p1
  · rename_i j
    obtain ⟨v, rfl, r2⟩ := vrels1 r1
    cases r2
    split at p1
    · rename_i hj
      exact ⟨j, rfl, by omega, by omega, p1 ρ1 H1 _ Le.refl S1 (it_rng 0 j.toNat)⟩
    · exact p1.elim
  · exact p1.elim
theorem i_r2 (hg : Gl X "range") (hm : X.mg "range" = none) (ha : PA X [a, b] (tA T X.K W ra)) (hs : starEach [a, b] X.env = [(false, eval a X.env), (false, eval b X.env)]) (hs2 : starEach [b] X.env = [(false, eval b X.env)]) : PI X tg (.Call (.Name "range" p) [a, b] [] pos) (tI T X.K W (cR2 ra)) := by
  refine (pi_range2 hg hm ha hs hs2).weak ?_
  rintro σ H R ⟨ρ, h, en, S, E, p⟩
  refine tR.step S E p fun ρ1 H1 xs h1 vs l1 S1 E1 r1 p1 => ?_
  unfold r2K at p1
  split at p1
  · rename_i i j
    obtain ⟨v, w, rfl, r2, r3⟩ := vrels2 r1
    cases r2; cases r3
    split at p1
    · rename_i hj
      exact ⟨i, j, rfl, ⟨by omega, by omega, by omega, by omega⟩, p1 ρ1 H1 _ Le.refl S1 (it_rng i (j - i).toNat)⟩
    · exact p1.elim
  · exact p1.elim

/-! ### for -/
def forL (it : ItF) (g : CG) (b : CS) : Nat → Nat → CS
  | 0, _, _, _ => .bad
  | m + 1, i, en, h => match it h i with
    | none => .bad
    | some none => .nx en h
    | some (some x) => (g x en h).toS en fun en1 h1 => (b en1 h1).loop (forL it g b m (i + 1))
def sFor (m : Nat) (ci : CI) (g : CG) (b : CS) : CS := fun en h => (ci en h).toS en fun it h1 => forL it g b m 0 en h1
theorem z_for (m : Nat) {iter : Expr} {body : List Stmt} {ci : CI} {g : CG} {cb : CS} (hp : PassesOwn (model X.prog X.w) X.A X.env X.xe) (hc : X.calm = true) (hi : PI X tg iter (tI T X.K W ci)) (hg : PG X tg (tG T X.K W g)) (hb : PSs X body (tS T X.K W cb))
    (hs : ∀ x, foldedSetIterable iter X.env x = pure x) : PS X (.For tg iter body [] pos) (tS T X.K W (sFor m ci g cb)) := by
  refine (ps_for (pos := pos) hp hc hi hg hb hs).weak ?_
  rintro D σ H ⟨ρ, h, en, S, E, p⟩
  refine tR.stepS S E p fun ρ0 H0 it h0 J l0 S0 E0 r0 p0 => ?_
  refine ⟨fun i k σ' H' => ∃ ρ' h' en', Le X.K ρ0 H0 ρ' H' ∧ Sim T X.K ρ' h' H' ∧ ERel X.K ρ' H' en' σ' ∧ PostS T X.K W ρ' H' (forL it g cb k i en' h') D, ⟨m, ρ0, h0, en, Le.refl, S0, E0, p0⟩, ?_⟩
  rintro i k σ1 H1 ⟨ρ1, h1, en1, l1, S1, E1, p1⟩
  cases k with
  | zero => exact p1.elim
  | succ k =>
    have J1 := r0 ρ1 h1 H1 i l1 S1
    unfold forL at p1
    split at p1
    · exact p1.elim
    · rename_i q
      rw [q] at J1
      exact .inl ⟨J1, p1 ρ1 H1 σ1 Le.refl S1 E1⟩
    · rename_i x q
      rw [q] at J1
      obtain ⟨J2, J3⟩ := J1
      refine .inr ⟨J2, _, fun _ _ n => ⟨k, Nat.lt_succ_self k, n⟩, fun x' H2 y => ?_⟩
      obtain ⟨l2, S2, r2⟩ := J3 x' H2 y
      refine ⟨ρ1, h1, en1, x, S2, E1.mono l2, r2, ?_⟩
      have p2 := PostS.mono l2 p1
      cases q3 : g x en1 h1 with
      | bad => rw [q3] at p2; exact p2
      | ex e h3 => rw [q3] at p2; exact fun ρ3 H3 d l3 S3 x3 => p2 ρ3 H3 σ1 d l3 S3 (E1.mono (l2.trans l3)) x3
      | ok en3 h3 =>
        rw [q3] at p2
        intro ρ3 H3 σ3 l3 S3 E3
        exact ⟨ρ3, h3, en3, S3, E3, loop_post (PostS.mono l3 p2) fun ρ4 H4 σ4 en4 h4 l4 S4 E4 p4 => ⟨ρ4, h4, en4, ((l1.trans l2).trans l3).trans l4, S4, E4, p4⟩⟩
end
end RS

set_option Elab.async false
set_option linter.all false
set_option maxRecDepth 100000
set_option maxHeartbeats 4000000
set_option autoImplicit false
namespace RS
open PySem PySem.Spec PyProof.Rows L2

/-! ### list comprehensions -/
/-- a comprehension's target: one name, or a tuple of names -/
inductive CTg where
  | one (i : Nat) | many (is : List Nat)
def setAll : List Nat → List PV → En → En
  | i :: is, x :: xs, en => setAll is xs (en.set i (some x))
  | _, _, en => en
def bindT (t : CTg) (x : PV) (en : En) (h : Hm) : Option En := match t with
  | .one i => some (en.set i (some x))
  | .many is => match seqOf x h with
    | some xs => if xs.length = is.length then some (setAll is xs en) else none
    | none => none
def CTg.slots : CTg → List Nat
  | .one i => [i]
  | .many is => is
/-- what a turn adds -/
def lcAdd (d : Nat) (y : PV) (h : Hm) (f : Hm → R PV) : R PV := match h[d]? with
  | some (.lst acc) => if acc.length < 16777216 then f (h.set d (.lst (acc ++ [y]))) else .bad
  | _ => .bad
def lcL (it : ItF) (t : CTg) (tt : CT) (te : CE) (en : En) (d : Nat) : Nat → Nat → Hm → R PV
  | 0, _, _ => .bad
  | m + 1, i, h => match it h i with
    | none => .bad
    | some none => .ok (.ref d) h
    | some (some x) => match bindT t x en h with
      | none => .bad
      | some en2 => (tt en2 h).noex.bind fun k h3 => if k = true then (te en2 h3).noex.bind fun y h4 => lcAdd d y h4 fun h5 => lcL it t tt te en d m (i + 1) h5 else lcL it t tt te en d m (i + 1) h3
def cLc (m : Nat) (ci : CI) (t : CTg) (vs : List Nat) (tt : CT) (te : CE) : CE := fun en h => (ci en h).bind fun it h1 => lcL it t tt te (wipeE en vs) h1.length m 0 (h1 ++ [.lst []])
def ctYes : CT := fun _ h => .ok true h
abbrev W0 : WX := fun _ _ _ _ => False
section
variable {T : Tb} {K : PySem.W.Frag}
/-- the layer's target for the names -/
def gNames (K : PySem.W.Frag) : CTg → TG
  | .one i => gName i
  | .many is => fun v σ H Q => gTup K is.length (gsOf is) v σ H Q ∨ gLst K is.length (gsOf is) v σ H Q
where gsOf : List Nat → TGs
  | [] => gNil
  | i :: is => gCons (gName i) (gsOf is)
theorem wipe_set (σ : L2.St) (i : Nat) (x : Option V) : ∀ (vs : List Nat), i ∈ vs → L2.wipe (σ.set i x) vs = L2.wipe σ vs
  | v :: vs, h => by
    unfold L2.wipe
    by_cases e : i = v
    · subst e
      by_cases hm : i ∈ vs
      · rw [wipe_set σ i x vs hm]
      · have : ∀ (vs : List Nat), i ∉ vs → L2.wipe (σ.set i x) vs = (L2.wipe σ vs).set i x := fun vs => by
          induction vs with
          | nil => intro _; rfl
          | cons w ws ih =>
            intro hw
            rw [List.mem_cons, not_or] at hw
            unfold L2.wipe
            rw [ih hw.2, List.set_comm _ _ hw.1]
        rw [this vs hm, List.set_set]
    · rcases List.mem_cons.mp h with h | h
      · exact absurd h e
      · rw [wipe_set σ i x vs h]
theorem wipe_wipe (σ : L2.St) : ∀ vs ws : List Nat, (∀ i ∈ ws, i ∈ vs) → L2.wipe (L2.wipe σ ws) vs = L2.wipe σ vs
  | vs, [], _ => rfl
  | vs, w :: ws, h => by
    rw [show L2.wipe σ (w :: ws) = (L2.wipe σ ws).set w none from rfl, wipe_set _ w none vs (h w List.mem_cons_self), wipe_wipe σ vs ws fun i hi => h i (List.mem_cons_of_mem _ hi)]
theorem gsOf_read {ρ : List Addr} {H : Hp} {vs0 : List Nat} {Q : L2.St → Hp → Prop} : ∀ {is : List Nat} {xs : List PV} {vs : List V} {en : En} {σ : L2.St}, VRels K ρ H xs vs → xs.length = is.length → (∀ i ∈ is, i ∈ vs0) → ERel K ρ H en σ →
    (∀ σ2, ERel K ρ H (setAll is xs en) σ2 → L2.wipe σ2 vs0 = L2.wipe σ vs0 → Q σ2 H) → gNames.gsOf is vs σ H Q
  | [], [], _, en, σ, .nil, _, _, E, q => ⟨rfl, q σ E rfl⟩
  | [], _ :: _, _, _, _, _, hl, _, _, _ => by cases hl
  | _ :: _, [], _, _, _, _, hl, _, _, _ => by cases hl
  | i :: is, x :: xs, _, en, σ, .cons (v := v) (vs := vs) r t, hl, hm, E, q => by
    refine ⟨v, vs, rfl, ?_⟩
    refine gsOf_read (vs0 := vs0) t (by simpa using hl) (fun j hj => hm j (List.mem_cons_of_mem _ hj)) (E.set i r) fun σ2 E2 w => q σ2 E2 ?_
    rw [w, wipe_set _ i _ vs0 (hm i List.mem_cons_self)]
theorem bindT_read {ρ : List Addr} {H : Hp} {h : Hm} {vs0 : List Nat} {Q : L2.St → Hp → Prop} {t : CTg} {x : PV} {v : V} {en en2 : En} {σ : L2.St} (S : Sim T K ρ h H) (r : VRel K ρ H x v) (hm : ∀ i ∈ t.slots, i ∈ vs0) (E : ERel K ρ H en σ) (e : bindT t x en h = some en2)
    (q : ∀ σ2, ERel K ρ H en2 σ2 → L2.wipe σ2 vs0 = L2.wipe σ vs0 → Q σ2 H) : gNames K t v σ H Q := by
  cases t with
  | one i =>
    cases e
    exact q _ (E.set i r) (wipe_set _ i _ vs0 (hm i (List.mem_singleton.mpr rfl)))
  | many is =>
    simp only [bindT] at e
    split at e
    · rename_i xs ex
      split at e
      · rename_i hl
        cases e
        obtain ⟨a, vs, rfl, r2, hs⟩ := seqOf_of S ex r
        have hl2 : vs.length = is.length := by rw [← r2.length]; exact hl
        have g := gsOf_read (K := K) (Q := Q) r2 hl hm E q
        rcases hs with hs | hs
        · exact .inr ⟨a, vs, rfl, hs, hl2, g⟩
        · exact .inl ⟨a, vs, rfl, hs, hl2, g⟩
      · cases e
    · cases e
end
section
variable {X : Cx} {T : Tb} {W : WX} {elt tg iter : Expr} {ifs : List Expr} {scope : Scope} {own : List (Str × Nat)} {ci : CI} {tt : CT} {te : CE} {t : CTg} {pos : Pos}
theorem lc_read (m : Nat) (hm : ∀ i ∈ t.slots, i ∈ own.map (·.2)) {σ : L2.St} {H : Hp} {Q : VK} (q : tE T X.K W (cLc m ci t (own.map (·.2)) tt te) σ H Q) :
    tLc (tI T X.K W ci) (gNames X.K t) (tT T X.K W0 tt) (tE T X.K W0 te) (own.map (·.2)) σ H Q := by
  obtain ⟨ρ, h, en, S, E, p⟩ := q
  refine tR.step S E p fun ρ0 H0 it h0 J l0 S0 E0 r0 p0 => fun D hD => ?_
  have p0 : Post T X.K (VR X.K) W σ ρ0 H0 (lcL it t tt te (wipeE en (own.map (·.2))) h0.length m 0 (h0 ++ [.lst []])) Q := p0
  obtain ⟨l1, S1, r1⟩ := lst_new (xs := []) (vs := []) S0 hD .nil
  have eD : (ρ0 ++ [D])[h0.length]? = some D := by cases r1; assumption
  refine ⟨fun i k H' => ∃ ρ' h', Le X.K (ρ0 ++ [D]) (upd H0 D (.lst [])) ρ' H' ∧ Sim T X.K ρ' h' H' ∧ Post T X.K (VR X.K) W σ ρ' H' (lcL it t tt te (wipeE en (own.map (·.2))) h0.length k i h') Q, ⟨m, _, _, Le.refl, S1, Post.mono l1 p0⟩, ?_⟩
  rintro i k H1 ⟨ρ1, h1, l2, S2, p1⟩
  cases k with
  | zero => exact p1.elim
  | succ k =>
    have J1 := r0 ρ1 h1 H1 i (l1.trans l2) S2
    have EW : ERel X.K ρ1 H1 (wipeE en (own.map (·.2))) (L2.wipe σ (own.map (·.2))) := ((E0.mono l1).mono l2).wipe _
    unfold lcL at p1
    split at p1
    · exact p1.elim
    · rename_i e
      rw [e] at J1
      exact .inl ⟨J1, p1 ρ1 H1 _ Le.refl S2 (.ref (l2.pre _ _ eD))⟩
    · rename_i x e
      rw [e] at J1
      obtain ⟨J2, J3⟩ := J1
      refine .inr ⟨J2, _, fun _ n => ⟨k, Nat.lt_succ_self k, n⟩, fun x' H2 y => ?_⟩
      obtain ⟨l3, S3, r3⟩ := J3 x' H2 y
      split at p1
      · exact p1.elim
      · rename_i en2 e2
        refine bindT_read (vs0 := own.map (·.2)) S3 r3 hm (EW.mono l3) e2 fun σ2 E2 w => ⟨?_, ?_⟩
        · rw [w, wipe_wipe σ _ _ fun i hi => hi]
        · refine ⟨ρ1, h1, en2, S3, E2, Post.noex (W := W) (σ := σ) (Post.step (Rl := BR) (Post.mono l3 p1) fun ρ4 H4 b h4 b' l4 S4 r4 p4 => ?_)⟩
          cases (show b = b' from r4)
          cases b with
          | false =>
            rw [if_neg Bool.false_ne_true] at p4 ⊢
            exact ⟨ρ4, h4, (l2.trans l3).trans l4, S4, p4⟩
          | true =>
            rw [if_pos rfl] at p4 ⊢
            refine ⟨ρ4, h4, en2, S4, E2.mono l4, Post.noex (W := W) (σ := σ) (Post.step (Rl := VR X.K) p4 fun ρ5 H5 y5 h5 y5' l5 S5 r5 p5 => ?_)⟩
            unfold lcAdd at p5
            have eD5 := (((l2.trans l3).trans l4).trans l5).pre _ _ eD
            split at p5
            · rename_i acc ea
              split at p5
              · rename_i hl
                obtain ⟨vs, r6, q6⟩ := lst_mut S5 ea eD5
                obtain ⟨l7, S7⟩ := lst_write S5 ea eD5 (r6.append (.cons r5 .nil))
                exact ⟨vs, q6, lt_line (by rw [← r6.length]; exact hl), ρ5, _, ((((l2.trans l3).trans l4).trans l5)).trans l7, S7, Post.mono l7 p5⟩
              · exact p5.elim
            · exact p5.elim
theorem gsOf_ok {X' : Cx} (hN : X'.N.Nodup) : ∀ {is : List Nat} {es : List Expr}, (∀ (j : Nat) (e : Expr), es[j]? = some e → ∃ i x p, is[j]? = some i ∧ e = .Name x p ∧ X'.N[i]? = some x ∧ Loc X'.env.scope x ∧ (X'.fn x = true ∨ X'.env.scope.names.lookup x = some .local)) → is.length = es.length → PGs X' es (gNames.gsOf is)
  | [], [], _, _ => pgs_nil
  | [], _ :: _, _, hl => by cases hl
  | _ :: _, [], _, hl => by cases hl
  | i :: is, e :: es, h, hl => by
    obtain ⟨j, x, p, h1, rfl, h2, h3, h4⟩ := h 0 e rfl
    cases h1
    exact pgs_cons (pg_name hN h2 h3 h4) (gsOf_ok hN (fun k e' he => h (k + 1) e' (by simpa using he)) (by simpa using hl)) rfl
/-- the target's names are this block's -/
def TgOk (X' : Cx) : CTg → Expr → Prop
  | .one i, tg => ∃ x p, tg = .Name x p ∧ X'.N[i]? = some x ∧ Loc X'.env.scope x ∧ (X'.fn x = true ∨ X'.env.scope.names.lookup x = some .local)
  | .many is, tg => ∃ es k p, tg = .Tuple es k p ∧ is.length = es.length ∧ ∀ (j : Nat) (e : Expr), es[j]? = some e → ∃ i x p, is[j]? = some i ∧ e = .Name x p ∧ X'.N[i]? = some x ∧ Loc X'.env.scope x ∧ (X'.fn x = true ∨ X'.env.scope.names.lookup x = some .local)
theorem names_each {X' : Cx} : ∀ {es : List Expr}, (∀ e ∈ es, ∃ x p, e = Expr.Name x p) → (assignEach es X'.env).length = es.length ∧ (assignEach es X'.env).findIdx? (·.1) = none
  | [], _ => ⟨rfl, rfl⟩
  | e :: es, h => by
    obtain ⟨x, p, rfl⟩ := h e List.mem_cons_self
    obtain ⟨h1, h2⟩ := names_each (X' := X') (es := es) fun e he => h e (List.mem_cons_of_mem _ he)
    refine ⟨congrArg (· + 1) h1, ?_⟩
    show List.findIdx? (·.1) ((false, assign (.Name x p) X'.env) :: assignEach es X'.env) = none
    rw [List.findIdx?_cons, h2]
    rfl
theorem tg_ok {X' : Cx} (hN : X'.N.Nodup) (hc : X'.calm = true) (h : TgOk X' t tg) : PG X' tg (gNames X'.K t) := by
  cases t with
  | one i =>
    obtain ⟨x, p, rfl, h1, h2, h3⟩ := h
    exact pg_name hN h1 h2 h3
  | many is =>
    obtain ⟨es, k, p, rfl, hl, h⟩ := h
    have hn : ∀ e ∈ es, ∃ x p, e = Expr.Name x p := fun e he => by
      obtain ⟨j, hj⟩ := List.getElem?_of_mem he
      obtain ⟨i, x, p, _, e', _⟩ := h j e hj
      exact ⟨x, p, e'⟩
    obtain ⟨n1, n2⟩ := names_each (X' := X') hn
    refine ⟨fun pins s σ H v u Q I r q => ?_⟩
    rcases q with q | q
    · exact (pg_tup (k := k) (pos := p) hc (gsOf_ok hN h hl) (by rw [n1, hl]) n2).run pins s σ H v u Q I r q
    · exact (pg_lst (k := k) (pos := p) hc (gsOf_ok hN h hl) (by rw [n1, hl]) n2).run pins s σ H v u Q I r q
/-- the blocks of a comprehension -/
def AllBlk (X : Cx) (scope : Scope) (P : Cx → Prop) : Prop := ∀ (s : Shared) (H : Hp) (C : Addr) (cl : List (Str × Addr)) (fp : List Addr), P (X.blk s H scope (compEnvC scope cl C X.env) fp)
theorem e_lc (m : Nat) (hc : X.calm = true) (hN : X.N.Nodup) (hi : PI X tg iter (tI T X.K W ci)) (ok : BlkOk X.N X.env.scope scope own) (hm : ∀ i ∈ t.slots, i ∈ own.map (·.2)) (hg : AllBlk X scope fun X' => TgOk X' t tg)
    (ht : AllBlk X scope fun X' => PTs X' ifs (tT T X.K W0 tt)) (he : AllBlk X scope fun X' => PE X' elt (tE T X.K W0 te)) (hs : ∀ x, foldedSetIterable iter X.env x = pure x) :
    PE X (.ListComp elt [⟨tg, iter, ifs, 0⟩] scope pos) (tE T X.K W (cLc m ci t (own.map (·.2)) tt te)) :=
  (pe_lc (g := gNames X.K t) hc hN hi ok (fun s H C cl fp => tg_ok (X' := X.blk s H scope (compEnvC scope cl C X.env) fp) hN hc (hg s H C cl fp)) ht he hs).weak fun _ _ _ q => lc_read m hm q
theorem z_lc (m : Nat) {i : Nat} {y : Str} {py spos : Pos} (hc : X.calm = true) (hN : X.N.Nodup) (hy : X.N[i]? = some y) (hyl : X.env.scope.names.lookup y = some .local)
    (hsw : swapsWith (.ListComp elt [⟨tg, iter, ifs, 0⟩] scope pos) (some (.Name y py)) spos.line X.env = pure true) (hi : PI X tg iter (tI T X.K W ci)) (ok : BlkOk X.N X.env.scope scope own) (hm : ∀ i ∈ t.slots, i ∈ own.map (·.2)) (hg : AllBlk X scope fun X' => TgOk X' t tg)
    (ht : AllBlk X scope fun X' => PTs X' ifs (tT T X.K W0 tt)) (he : AllBlk X scope fun X' => PE X' elt (tE T X.K W0 te)) (hs : ∀ x, foldedSetIterable iter X.env x = pure x) :
    PS X (.Assign [.Name y py] (.ListComp elt [⟨tg, iter, ifs, 0⟩] scope pos) spos) (tS T X.K W (sAsg (gN i) (cLc m ci t (own.map (·.2)) tt te))) :=
  (ps_setLc (g := gNames X.K t) hc hN hy hyl hsw hi ok (fun s H C cl fp => tg_ok (X' := X.blk s H scope (compEnvC scope cl C X.env) fp) hN hc (hg s H C cl fp)) ht he hs).weak fun _ _ _ q => name_read (fun _ _ _ q => lc_read m hm q) q
theorem t_nil : PTs X [] (tT T X.K W ctYes) := ⟨fun pins s σ H Q I ⟨ρ, h, en, S, E, p⟩ => pts_nil.run pins s σ H Q I (p ρ H _ Le.refl S rfl)⟩
end
end RS

set_option Elab.async false
set_option linter.all false
set_option maxRecDepth 100000
set_option maxHeartbeats 4000000
set_option autoImplicit false
namespace RS
open PySem PySem.Spec PyProof.Rows L2

/-! ### instances of own classes -/
def getF (fs : List (Nat × PV)) (n : Nat) : Option PV := (fs.find? fun p => p.1 == n).map (·.2)
def putN (n : Nat) (v : PV) : List (Nat × PV) → List (Nat × PV)
  | [] => [(n, v)]
  | (k, x) :: r => if k = n then (k, v) :: r else (k, x) :: putN n v r
section
variable {T : Tb} {K : PySem.W.Frag} {ρ : List Addr} {H : Hp} {h : Hm}
theorem FRel.get (n : Nat) : ∀ {fs : List (Nat × PV)} {l : List (Str × V)}, FRel T K ρ H fs l → (getF fs n = none ∧ l.lookup (T.att n) = none) ∨ ∃ x v, getF fs n = some x ∧ l.lookup (T.att n) = some v ∧ VRel K ρ H x v
  | _, _, .nil => .inl ⟨rfl, rfl⟩
  | _, _, .cons (n := k) (x := x) (v := v) (fs := fs) (l := l) r t => by
    by_cases e : k = n
    · subst e
      refine .inr ⟨x, v, ?_, ?_, r⟩
      · unfold getF; rw [List.find?_cons_of_pos (by simp)]; rfl
      · rw [List.lookup_cons, beq_self_eq_true]
    · have e2 : T.att n ≠ T.att k := fun z => e (T.ainj _ _ z).symm
      have g1 : getF ((k, x) :: fs) n = getF fs n := by unfold getF; rw [List.find?_cons_of_neg (by simpa using e)]
      have g2 : List.lookup (T.att n) ((T.att k, v) :: l) = l.lookup (T.att n) := by rw [List.lookup_cons, beq_eq_false_iff_ne.mpr e2]
      rw [g1, g2]
      exact FRel.get n t
theorem FRel.put (n : Nat) {y : PV} {w : V} (r : VRel K ρ H y w) : ∀ {fs : List (Nat × PV)} {l : List (Str × V)}, FRel T K ρ H fs l → FRel T K ρ H (putN n y fs) (putF (T.att n) w l)
  | _, _, .nil => .cons r .nil
  | _, _, .cons (n := k) (x := x) (v := v) (fs := fs) (l := l) r2 t => by
    unfold putN
    by_cases e : k = n
    · subst e
      rw [if_pos rfl]
      show FRel T K ρ H _ (putF (T.att k) w ((T.att k, v) :: l))
      unfold putF
      rw [if_pos rfl]
      exact .cons r t
    · rw [if_neg e]
      show FRel T K ρ H _ (putF (T.att n) w ((T.att k, v) :: l))
      unfold putF
      rw [if_neg fun z => e (T.ainj _ _ z)]
      exact .cons r2 (FRel.put n r t)
theorem FRel.length : ∀ {fs : List (Nat × PV)} {l : List (Str × V)}, FRel T K ρ H fs l → fs.length = l.length
  | _, _, .nil => rfl
  | _, _, .cons _ t => congrArg (· + 1) t.length
end
/-- o.f -/
def atF (ok : Nat → Nat → Bool) (n : Nat) (x : PV) (h : Hm) : R PV := match x with
  | .ref r => match h[r]? with
    | some (.ins c fs) => if ok c n = true then (match getF fs n with | some v => .ok v h | none => .bad) else .bad
    | _ => .bad
  | _ => .bad
def cAttr (ok : Nat → Nat → Bool) (n : Nat) (a : CE) : CE := fun en h => (a en h).bind fun x h1 => atF ok n x h1
/-- the classes' facts: an instance of c bears the attribute n by itself -/
def AtOk (T : Tb) (K : PySem.W.Frag) (ok : Nat → Nat → Bool) : Prop := ∀ c n, ok c n = true → Cls K (T.cls c) ∧ NoAttr K (T.cls c) (T.att n)
/-- o.f = v -/
def putA (ok : Nat → Nat → Bool) (n : Nat) (x v : PV) (h : Hm) : R Unit := match x with
  | .ref r => match h[r]? with
    | some (.ins c fs) => if ok c n = true ∧ fs.length < 900 then .ok () (h.set r (.ins c (putN n v fs))) else .bad
    | _ => .bad
  | _ => .bad
def sAttr (ok : Nat → Nat → Bool) (n : Nat) (o c : CE) : CS := fun en h => (c en h).toS en fun v h1 => (o en h1).toS en fun x h2 => (putA ok n x v h2).toS en fun _ h3 => .nx en h3
def clsAt (x : PV) (h : Hm) : Option Nat := match x with
  | .ref r => match h[r]? with
    | some (.ins c _) => some c
    | _ => none
  | _ => none
def augK (ok : Nat → Nat → Bool) (n : Nat) (c : Option Nat) (x z : PV) (en : En) (h : Hm) : SR := if clsAt x h = c then (putA ok n x z h).toS en fun _ h5 => .nx en h5 else .bad
/-- o.f op= v -/
def sAttrAug (ok : Nat → Nat → Bool) (n : Nat) (g : PV → PV → Hm → R PV) (o c : CE) : CS := fun en h => (o en h).toS en fun x h1 => (atF ok n x h1).toS en fun v h2 => (c en h2).toS en fun y h3 => (g v y h3).toS en fun z h4 => augK ok n (clsAt x h1) x z en h4
section
variable {X : Cx} {T : Tb} {W : WX} {e o : Expr} {es : List Expr} {ca co : CE} {ra : CA} {pos pos' : Pos} {ok : Nat → Nat → Bool} {n : Nat}
theorem e_attr (hA : AtOk T X.K ok) (ho : PE X o (tE T X.K W co)) (hb : attributeBase o (T.att n) X.env (eval o X.env) = eval o X.env) : PE X (.Attribute o (T.att n) pos) (tE T X.K W (cAttr ok n co)) := by
  refine (pe_fld (pos := pos) ho hb).weak ?_
  rintro σ H Q ⟨ρ, h, en, S, E, p⟩
  refine tR.step S E p fun ρ1 H1 x h1 x' l1 S1 E1 r1 p1 => ?_
  unfold atF at p1
  split at p1
  · rename_i r
    split at p1
    · rename_i c fs ex
      split at p1
      · rename_i hok
        cases r1 with
        | ref ea =>
          obtain ⟨dx, l, fr, q⟩ := S1.at ex ea
          obtain ⟨c1, c2⟩ := hA c n hok
          rcases fr.get n with ⟨g1, g2⟩ | ⟨y, v, g1, g2, rv⟩
          · rw [g1] at p1; exact p1.elim
          · rw [g1] at p1
            exact ⟨_, T.cls c, dx, l, v, rfl, q, c1, c2, g2, p1 ρ1 H1 _ Le.refl S1 rv⟩
      · exact p1.elim
    · exact p1.elim
  · exact p1.elim
theorem putA_of {W : WX} {σ : L2.St} {ρ : List Addr} {H : Hp} {h : Hm} {x v : PV} {x' v' : V} {en : En} {D : Ends} {K : PySem.W.Frag} (hA : AtOk T K ok) (S : Sim T K ρ h H) (E : ERel K ρ H en σ) (rx : VRel K ρ H x x') (rv : VRel K ρ H v v')
    (p : PostS T K W ρ H ((putA ok n x v h).toS en fun _ h3 => .nx en h3) D) : ∃ a C dx fs, x' = .ref a ∧ H a = some (.ins C dx fs) ∧ Cls K C ∧ NoAttr K C (T.att n) ∧ fs.length < 1000 ∧ D.nx σ (upd H a (.ins C dx (putF (T.att n) v' fs))) := by
  unfold putA at p
  split at p
  · rename_i r
    split at p
    · rename_i c fs ex
      split at p
      · rename_i hok
        obtain ⟨hok, hl⟩ := hok
        cases rx with
        | ref ea =>
          obtain ⟨dx, l, fr, q⟩ := S.at ex ea
          obtain ⟨c1, c2⟩ := hA c n hok
          obtain ⟨l2, S2⟩ := S.write (m' := .ins c (putN n v fs)) (o := .ins (T.cls c) dx (putF (T.att n) v' l)) ex ea rfl rfl fun l3 => ⟨dx, _, (fr.mono l3).put n (rv.mono l3), upd_same⟩
          exact ⟨_, T.cls c, dx, l, rfl, q, c1, c2, by rw [← fr.length]; omega, p ρ _ σ l2 S2 (E.mono l2)⟩
      · exact p.elim
    · exact p.elim
  · exact p.elim
theorem z_attr (hA : AtOk T X.K ok) (ho : PE X o (tE T X.K W co)) (he : PE X e (tE T X.K W ca)) (hs : swapsWith e (some (.Attribute o (T.att n) pos')) pos.line X.env = pure false) : PS X (.Assign [.Attribute o (T.att n) pos'] e pos) (tS T X.K W (sAttr ok n co ca)) := by
  refine (ps_fld ho he hs).weak ?_
  rintro D σ H ⟨ρ, h, en, S, E, p⟩
  refine tR.stepS S E p fun ρ1 H1 v h1 v' l1 S1 E1 r1 p1 => ?_
  refine tR.stepS S1 E1 p1 fun ρ2 H2 x h2 x' l2 S2 E2 r2 p2 => ?_
  exact putA_of hA S2 E2 r2 (r1.mono l2) p2
theorem z_attrAug {op : Operator} {r : V → V → Hp → VK → Prop} {g : PV → PV → Hm → R PV} (hA : AtOk T X.K ok) (ho : PE X o (tE T X.K W co)) (he : PE X e (tE T X.K W ca)) (hop : InOp X op r) (hsem : Sem2 T X.K r g) : PS X (.AugAssign (.Attribute o (T.att n) pos') op e pos) (tS T X.K W (sAttrAug ok n g co ca)) := by
  refine (ps_fldaug ho he hop).weak ?_
  rintro D σ H ⟨ρ, h, en, S, E, p⟩
  refine tR.stepS S E p fun ρ1 H1 x h1 x' l1 S1 E1 r1 p1 => ?_
  unfold atF at p1
  split at p1
  · rename_i r
    split at p1
    · rename_i c fs ex
      split at p1
      · rename_i hok
        cases r1 with
        | ref ea =>
          obtain ⟨dx, l, fr, q⟩ := S1.at ex ea
          obtain ⟨c1, c2⟩ := hA c n hok
          rcases fr.get n with ⟨g1, g2⟩ | ⟨y, v, g1, g2, rv⟩
          · rw [g1] at p1; exact p1.elim
          · rw [g1] at p1
            refine ⟨_, T.cls c, dx, l, v, rfl, q, c1, c2, g2, tR.stepS S1 E1 p1 fun ρ2 H2 z h2 z' l2 S2 E2 r2 p2 => ?_⟩
            refine hsem W σ ρ2 h2 H2 y z v z' _ S2 (rv.mono l2) r2 ?_
            cases q3 : g y z h2 with
            | bad => rw [q3] at p2; exact p2
            | ex x3 h3 => rw [q3] at p2; exact fun ρ3 H3 d l3 S3 x4 => p2 ρ3 H3 σ d l3 S3 (E2.mono l3) x4
            | ok w h3 =>
              rw [q3] at p2
              have p2 : PostS T X.K W ρ2 H2 (augK ok n (clsAt (.ref r) h1) (.ref r) w en h3) D := p2
              unfold augK at p2
              split at p2
              · rename_i hc
                intro ρ3 H3 w' l3 S3 r3
                obtain ⟨a', C', dx', fs', e1, e2, e3, e4, e5, e6⟩ := putA_of (n := n) hA S3 (E2.mono l3) (.ref ((l2.trans l3).pre _ _ ea)) r3 (PostS.mono l3 p2)
                cases e1
                have hC : C' = T.cls c := by
                  have h1c : clsAt (.ref r) h1 = some c := by unfold clsAt; dsimp only; rw [ex]
                  rw [h1c] at hc
                  unfold clsAt at hc
                  dsimp only at hc
                  split at hc
                  · rename_i c' fs2 ex2
                    cases hc
                    obtain ⟨dx2, l4, _, q4⟩ := S3.at ex2 ((l2.trans l3).pre _ _ ea)
                    rw [e2] at q4; cases q4; rfl
                  · cases hc
                subst hC
                exact ⟨dx', fs', e2, e5, e6⟩
              · exact p2.elim
      · exact p1.elim
    · exact p1.elim
  · exact p1.elim
end
end RS
namespace RS
open PySem PySem.Spec PyProof.Rows L2
/-- a method call's tree, whatever the receiver -/
theorem meth_tree {o : Expr} {m : Str} {apos pos : Pos} {args : List Expr} {env : Env} (hb : attributeBase o m env (eval o env) = eval o env) (hfew : methodCallForm (args.length + 0) (backTo pos (starEach args env)) (backToKw pos (keywordEach [] env)) = true) (hl : (apos.endLine == pos.line) = true) :
    eval (.Call (.Attribute o m apos) args [] pos) env = (do
      let ov ← eval o env
      standAt apos.atName
      let (f, first) ← holding [ov] (getMethod ov m (do return (← importBound o env).getD true))
      callWith pos f first (backTo pos (starEach args env)) (backToKw pos (keywordEach [] env))) := by
  show (do
    let ov ← attributeBase o m env (eval o env)
    standAt apos.atName
    methodCall o m apos pos env ov (args.length + 0) (backTo pos (starEach args env)) (backToKw pos (keywordEach [] env))) = _
  rw [hb]
  unfold methodCall calleeOf methodCallPos
  rw [hfew]
  simp only [if_pos, hl, Bool.not_true, Bool.false_or, if_true]
  rfl
/-- a method of the program's own classes -/
structure MInfo where
  f : Nat
/-- the method's place in the tables: class and name to function -/
abbrev MTab := Nat → Nat → Option Nat
def clsFs (x : PV) (h : Hm) : Option (Nat × List (Nat × PV)) := match x with
  | .ref r => match h[r]? with
    | some (.ins c fs) => some (c, fs)
    | _ => none
  | _ => none
def moOf (mt : MTab) (n : Nat) (x : PV) (h : Hm) : Option Nat := match clsFs x h with
  | some (c, fs) => if (getF fs n).isSome then none else mt c n
  | none => none
def cMeO (call : Nat → FS) (mt : MTab) (dv : Nat → Nat → List PV) (n : Nat) (a : CE) (k : Nat) (ra : CA) : CE := fun en h => (a en h).bind fun x h1 => match moOf mt n x h1 with
  | some f => (ra en h1).bind fun xs h2 => call f (x :: (xs ++ dv f k)) h2
  | none => .bad
section
variable {X : Cx} {T : Tb} {W : WX} {e o : Expr} {es : List Expr} {ca co : CE} {ra : CA} {pos apos : Pos} {k n : Nat}
/-- what stands behind the number of a function, for a call with some arguments -/
structure FnAt (X : Cx) (T : Tb) (k : Nat) (F : FS) (a : Addr) (fd : FuncData) (ps : List Str) (ds : List PV) : Prop where
  ok : FnOk X.prog X.w X.K X.mg X.base (L2.CX X.prog X.w) k a fd ps (spF T X.K ps.length F)
  len : ∀ xs h, xs.length ≠ ps.length → F xs h = .bad
  bind : ∃ dvs us, Binds X.K fd ps us ∧ Vals dvs us ∧ ∀ ρ H, VRels X.K ρ H ds dvs
theorem e_meO {call : Nat → FS} {mt : MTab} {dv : Nat → Nat → List PV} (j : Nat) (hr : Room k X.A) (tk : Takes X W)
    (hM : ∀ c f, mt c n = some f → Cls X.K (T.cls c) ∧ ∃ a fd ps, Meth X.K (T.cls c) (T.att n) a ∧ FnAt X T k (call f) a fd ps (dv f j))
    (ho : PE X o (tE T X.K W co)) (hb : attributeBase o (T.att n) X.env (eval o X.env) = eval o X.env) (hl : (apos.endLine == pos.line) = true)
    (ha : PA X es (tA T X.K W ra)) (hfew : methodCallForm (es.length + 0) (backTo pos (starEach es X.env)) (backToKw pos (keywordEach [] X.env)) = true)
    (hst : ∀ e r, es = e :: r → starEach (e :: r) X.env = (false, eval e X.env) :: starEach r X.env ∧ (backTo pos (starEach r X.env)).any (·.1) = false) (hnil : es = [] → ∀ en h, ra en h = .ok [] h) :
    PE X (.Call (.Attribute o (T.att n) apos) es [] pos) (tE T X.K W (cMeO call mt dv n co j ra)) := by
  refine ⟨fun pins s σ H Q I q => ?_⟩
  obtain ⟨ρ, h, en, S, E, p⟩ := q
  refine methcall_of (te := tE T X.K W co) ho I ?_ (meth_tree hb hfew hl)
  refine tR.step S E p fun ρ1 H1 x h1 x' l1 S1 E1 r1 p1 => ?_
  split at p1
  · rename_i f ef
    unfold moOf at ef
    split at ef
    · rename_i c fs ec
      split at ef
      · cases ef
      · rename_i hfs
        unfold clsFs at ec
        split at ec
        · split at ec
          · rename_i r _ _ _ ex
            cases ec
            cases r1 with
            | ref ea =>
              obtain ⟨dx, l, fr, q⟩ := S1.at ex ea
              obtain ⟨c1, a, fd, ps, c2, F⟩ := hM c f ef
              have hlk : l.lookup (T.att n) = none := by
                rcases fr.get n with ⟨g1, g2⟩ | ⟨y, v, g1, g2, rv⟩
                · exact g2
                · rw [g1] at hfs; exact absurd rfl hfs
              refine ⟨_, T.cls c, dx, l, a, rfl, q, c1, c2, hlk, fun s1 I1 => ?_⟩
              obtain ⟨dvs, us, b1, b2, b3⟩ := F.bind
              cases es with
              | nil =>
                rw [hnil rfl] at p1
                refine PySem.W.callWith_K0 (first := [.ref _]) I1.kIn c2.kp (run_fnSD (us := [.ref _]) (vs := [.ref _]) (E := WE W) F.ok hr b1 b2 (passAt tk σ) I1 (.cons rfl .nil) ?_)
                have r2 : VRels X.K ρ1 H1 (.ref r :: ([] ++ dv f j)) ([.ref _] ++ dvs) := .cons (.ref ea) (b3 ρ1 H1)
                exact ⟨by rw [← r2.length]; exact Post.len F.len p1, ρ1, h1, _, S1, r2, p1.reW fun c d H w => w⟩
              | cons e es =>
                obtain ⟨hst, hpl⟩ := hst e es rfl
                refine PySem.W.callWith_K (first := [.ref _]) (h₀ := X.base) I1.ok.mod.kin c2.kp (thn (ha.run pos pins s1 σ H1 _ I1 (tR.step S1 E1 p1 fun ρ2 H2 xs h2 vs l2 S2 E2 r2 p2 => (⟨ρ2, h2, xs, S2, l2, r2, p2⟩ : ∃ ρ2 h2 xs, Sim T X.K ρ2 h2 H2 ∧ Le X.K ρ1 H1 ρ2 H2 ∧ VRels X.K ρ2 H2 xs vs ∧ Post T X.K (VR X.K) W σ ρ2 H2 (call f (.ref r :: (xs ++ dv f j)) h2) Q))) fun us2 s2 hq => ?_) hst hpl
                obtain ⟨vs, H2, I2, rv, ρ2, h2, xs, S2, l2, r2, p2⟩ := hq
                refine ⟨I2.kIn, run_fnSD (us := .ref _ :: us2) (vs := .ref _ :: vs) (E := WE W) F.ok hr b1 b2 (passAt tk σ) I2 (.cons rfl rv) ?_⟩
                have r3 : VRels X.K ρ2 H2 (.ref r :: (xs ++ dv f j)) ((.ref _ :: vs) ++ dvs) := .cons (.ref (l2.pre _ _ ea)) (r2.append (b3 ρ2 H2))
                exact ⟨by rw [← r3.length]; exact Post.len F.len p2, ρ2, h2, _, S2, r3, p2.reW fun c d H w => w⟩
          · cases ec
        · cases ec
    · cases ef
  · exact p1.elim
/-- C(..): a new instance, then its __init__ (k, the __init__'s place) -/
def cMake (init : FS) (c : Nat) (ds : List PV) (ra : CA) : CE := fun en h => (ra en h).bind fun xs h1 => (init (.ref h1.length :: (xs ++ ds)) (h1 ++ [.ins c []])).bind fun v h2 => if v = .non then .ok (.ref h1.length) h2 else .bad
theorem run_makeS {f C : Addr} {fd : FuncData} {ps : List Str} {sp : Sp} {dvs : List V} {ds : List Value} {E : L2.St → XK} {pins : List (Addr × Obj)} {σ : L2.St} {H : Hp} {s : Shared} {Q : VK} {us : List Value} {vs : List V} (M : Mk X.K C f)
    (F : FnOk X.prog X.w X.K X.mg X.base (L2.CX X.prog X.w) k f fd ps sp) (hr : Room (k + 1) X.A) (hb : Binds X.K fd ps ds) (hd : Vals dvs ds)
    (hx : PassesAt (L2.CX X.prog X.w) X σ (E σ)) (I : Inv X pins σ H s) (r : Vals vs us)
    (h : ∀ x dx, H x = none → H dx = none → dx ≠ x → sp (.ref x :: (vs ++ dvs)) (upd (upd H dx (.own x)) x (.ins C dx [])) (fun v H2 => v = .non ∧ Q (.ref x) H2) (E σ)) :
    wpAny (model X.prog X.w) X.A (call (.ref C) us) (EP X pins σ Q) X.xe s := by
  have hq := h (s.heap.objs.size + 1) s.heap.objs.size (I.hok.fresh (Nat.le_succ _)) (I.hok.fresh (Nat.le_refl _)) (Nat.ne_of_lt (Nat.lt_succ_self _))
  have I2 := Inv.made (C := C) I
  have r2 : Vals (V.ref (s.heap.objs.size + 1) :: (vs ++ dvs)) (Value.ref (s.heap.objs.size + 1) :: (us ++ ds)) := .cons rfl (r.append hd)
  have hl : (Value.ref (s.heap.objs.size + 1) :: us ++ ds).length = ps.length := by
    have e := r2.length
    rw [F.len _ _ _ _ hq] at e
    exact e.symm
  refine wpAny_call (make_map (f := f) I.kIn M.makes M.init (beq_iff_eq.mp M.fn) (codeAny_mono (F.run _ X.stack _ _ ⟨Value.ref (s.heap.objs.size + 1) :: us, []⟩ (Value.ref (s.heap.objs.size + 1) :: (us ++ ds)) _ _ (E σ) (hr.make C us [])
    (I2.env0.make C us []) (hb _ (Value.ref (s.heap.objs.size + 1) :: us) I2.kIn hl) r2 hq) fun r s' hq' => ?_))
  cases r with
  | error e => exact hx pins _ _ e s' I2 hq'
  | ok fl =>
    cases fl with
    | ret u =>
      obtain ⟨v, H', I3, rv, ev, q3⟩ := I2.after hq'
      subst ev
      exact ⟨rv, ⟨V.ref (s.heap.objs.size + 1), H', I3, rfl, q3⟩⟩
    | next => exact False.elim hq'
    | brk => exact False.elim hq'
    | cont => exact False.elim hq'
/-- the promise that a new instance's __init__ keeps -/
theorem make_sp {init : FS} {c : Nat} {ds : List PV} {σ : L2.St} {ρ1 : List Addr} {H1 : Hp} {h1 : Hm} {xs : List PV} {vs dvs : List V} {ps : List Str} {Q : VK} (hlen : ∀ xs h, xs.length ≠ ps.length → init xs h = .bad) (S1 : Sim T X.K ρ1 h1 H1) (r1 : VRels X.K ρ1 H1 xs vs) (b3 : ∀ ρ H, VRels X.K ρ H ds dvs)
    (p1 : Post T X.K (VR X.K) W σ ρ1 H1 ((init (.ref h1.length :: (xs ++ ds)) (h1 ++ [.ins c []])).bind fun v h2 => if v = .non then .ok (.ref h1.length) h2 else .bad) Q) :
    ∀ x dx, H1 x = none → H1 dx = none → dx ≠ x → spF T X.K ps.length init (.ref x :: (vs ++ dvs)) (upd (upd H1 dx (.own x)) x (.ins (T.cls c) dx [])) (fun v H2 => v = .non ∧ Q (.ref x) H2) (WE W σ) := by
  intro x dx hx hdx hne
  obtain ⟨l2, S2⟩ := S1.other (o := .own x) hdx
  have hx2 : upd H1 dx (.own x) x = none := by rw [upd_ne hne.symm]; exact hx
  obtain ⟨l3, S3, e3⟩ := S2.new (o := .ins (T.cls c) dx []) (m := .ins c []) hx2 ⟨dx, [], .nil, upd_same⟩ rfl
  have l := l2.trans l3
  have r2 : VRels X.K (ρ1 ++ [x]) (upd (upd H1 dx (.own x)) x (.ins (T.cls c) dx [])) (.ref h1.length :: (xs ++ ds)) (.ref x :: (vs ++ dvs)) := .cons (.ref e3) ((r1.mono l).append (b3 _ _))
  have p2 := Post.mono l p1
  have p3 : Post T X.K (VR X.K) W σ (ρ1 ++ [x]) (upd (upd H1 dx (.own x)) x (.ins (T.cls c) dx [])) (init (.ref h1.length :: (xs ++ ds)) (h1 ++ [.ins c []])) (fun v H2 => v = .non ∧ Q (.ref x) H2) := by
    refine Post.step p2 fun ρ4 H4 v h4 v' l4 S4 r4 p4 => ?_
    split at p4
    · rename_i hv
      subst hv
      cases r4
      exact ⟨rfl, p4 ρ4 H4 _ Le.refl S4 (.ref (l4.pre _ _ e3))⟩
    · exact p4.elim
  refine ⟨?_, _, _, _, S3, r2, p3.reW fun c d H w => w⟩
  rw [← r2.length]
  exact Post.len hlen p3
theorem e_make {c : Nat} {init : FS} {f : Addr} {fd : FuncData} {ps : List Str} {ds : List PV} {x : Str} {p : Pos} (M : Mk X.K (T.cls c) f) (F : FnAt X T k init f fd ps ds) (hr : Room (k + 1) X.A) (tk : Takes X W) (hg : Gl X x) (hm : X.mg x = some (.ref (T.cls c)))
    (ha : PA X (e :: es) (tA T X.K W ra)) (hdb : (x == ("__debug__" : Str)) = false) (he : starEach (e :: es) X.env = (false, eval e X.env) :: starEach es X.env) (hpl : (backTo pos (starEach es X.env)).any (·.1) = false) :
    PE X (.Call (.Name x p) (e :: es) [] pos) (tE T X.K W (cMake init c ds ra)) := by
  refine ⟨fun pins s σ H Q I q => ?_⟩
  obtain ⟨ρ, h, en, S, E, p⟩ := q
  obtain ⟨dvs, us, b1, b2, b3⟩ := F.bind
  refine wpAny_Call_Name_kw (ld_glob I hg hm ?_ hdb)
  refine PySem.W.callWith_K (h₀ := X.base) I.ok.mod.kin M.kp (thn (ha.run pos pins s σ H _ I (tR.step S E p fun ρ1 H1 xs h1 vs l1 S1 E1 r1 p1 => make_sp (dvs := dvs) F.len S1 r1 b3 p1)) fun us2 s1 hq => ?_) he hpl
  obtain ⟨vs, H1, I1, r, q⟩ := hq
  exact ⟨I1.kIn, run_makeS (E := WE W) M F.ok hr b1 b2 (passAt tk σ) I1 r q⟩
theorem e_make0 {c : Nat} {init : FS} {f : Addr} {fd : FuncData} {ps : List Str} {ds : List PV} {x : Str} {p : Pos} (M : Mk X.K (T.cls c) f) (F : FnAt X T k init f fd ps ds) (hr : Room (k + 1) X.A) (tk : Takes X W) (hg : Gl X x) (hm : X.mg x = some (.ref (T.cls c)))
    (hdb : (x == ("__debug__" : Str)) = false) : PE X (.Call (.Name x p) [] [] pos) (tE T X.K W (cMake init c ds aNil)) := by
  refine ⟨fun pins s σ H Q I q => ?_⟩
  obtain ⟨ρ, h, en, S, E, p⟩ := q
  obtain ⟨dvs, us, b1, b2, b3⟩ := F.bind
  refine wpAny_Call_Name_kw (ld_glob I hg hm ?_ hdb)
  exact PySem.W.callWith_K0 I.kIn M.kp (run_makeS (us := []) (vs := []) (E := WE W) M F.ok hr b1 b2 (passAt tk σ) I .nil (make_sp (dvs := dvs) F.len S .nil b3 p))
end
end RS

set_option Elab.async false
set_option linter.all false
set_option maxRecDepth 100000
set_option maxHeartbeats 4000000
set_option autoImplicit false
namespace RS
open PySem PySem.Spec PyProof.Rows L2

/-! ### the small language -/
inductive IK | val | r1 | r2
mutual
inductive E where
  | var (i : Nat) | int (i : Int) | str (s : List Nat) | bl (b : Bool) | non | glob (g : Nat)
  | bin (o : Operator) (a b : E) | neg (a : E) | not (a : E) | and (a b : E) | or (a b : E)
  | cmp (o : CmpOp) (a b : E) | chain (o o' : CmpOp) (a b c : E) | ite (t a b : E)
  | call (f : Nat) (as : EL) | callK (f : Nat) (as ws : EL) | eqd (a b : E) | make (c : Nat) (as : EL) | meO (m : Nat) (o : E) (as : EL)
  | bitl (a : E) | bi (b : BN) (as : EL) | isi (c : TN) (a : E) | meth (m : MN) (o : E) (as : EL) | attr (n : Nat) (o : E)
  | tup (es : EL) | lst (es : EL) | dict | dictT
  | ix (a i : E) | sl (a : E) (lo hi : EL)
  | lc (ik : IK) (ia : EL) (t : CTg) (vs : List Nat) (c : EL) (e : E)
inductive EL where
  | nil | cons (e : E) (r : EL)
end
/-- tests of a caught exception; what an except suite does with it -/
inductive XE where
  | bl (b : Bool) | isI (g : Nat) | isT (gs : List Nat) | and (a b : XE)
inductive Sui where
  | ret (e : XE) | ite (t : XE) (a r : Sui)
def anyX (f : Nat → Option Bool) : List Nat → Option Bool
  | [] => some false
  | g :: r => match f g with
    | some true => some true
    | some false => anyX f r
    | none => none
def evXE (f : Nat → Option Bool) : XE → Option Bool
  | .bl b => some b
  | .isI g => f g
  | .isT gs => anyX f gs
  | .and a b => match evXE f a with
    | some true => evXE f b
    | some false => some false
    | none => none
def evXS (f : Nat → Option Bool) : Sui → Option Bool
  | .ret e => evXE f e
  | .ite t a r => match evXE f t with
    | some true => evXS f a
    | some false => evXS f r
    | none => none
mutual
inductive G where
  | nm (i : Nat) | tup (gs : GL) | sub (o i : E)
inductive GL where
  | nil | cons (g : G) (r : GL)
end
inductive S where
  | skip | seq (a b : S) | ret (e : E) | retN | expr (e : E) | ite (t : E) (a b : S) | brk | cont | bad
  | set (i : Nat) (e : E) | setT (g : G) (e : E) | par (i j : Nat) (as : EL) | aug (i : Nat) (o : Operator) (e : E)
  | sattr (n : Nat) (o e : E) | aattr (n : Nat) (o : E) (op : Operator) (e : E)
  | raise0 (c : Nat) | tryO (b : S) (g : Nat) (s : Sui) | tryA (b : S) (g i : Nat) (s : Sui)
  | whl (t : E) (b : S) | frl (ik : IK) (ia : EL) (g : G) (b : S)

/-! ### the program's tables -/
structure FD where
  name : Str
  isGlob : Bool
  ps : List Str
  dfts : List PV
structure CD where
  name : Str
  init : Nat
structure Pg where
  funs : List FD
  clss : List CD
  atts : List Str
  aok : Nat → Nat → Bool
  mt : MTab
  globs : List (Str × PV)
  blt : List Str
  xr : List (Nat × Str)
  xg : List Str
  isx : Nat → Nat → Option Bool
  kws : List (Nat × Nat × List Str)
def Pg.dv (P : Pg) (f n : Nat) : List PV := match P.funs[f]? with
  | some fd => fd.dfts.drop (min (n + fd.dfts.length - fd.ps.length) fd.dfts.length)
  | none => []
structure Dn where
  call : Nat → FS
  call1 : Nat → FS
  P : Pg
  m : Nat

/-! ### what it means -/
def binF : Operator → PV → PV → Hm → R PV
  | .Add => pAdd | .Sub => pSub | .Mult => pMul | .FloorDiv => pDiv | .Mod => pMod | .Pow => pPow | .LShift => pShl | .RShift => pShr | .BitAnd => pAnd | .BitOr => pOr | .BitXor => pXor
  | _ => fun _ _ _ => .bad
def cmpF : CmpOp → PV → PV → Hm → R PV
  | .Eq => pEq | .NotEq => pNe | .Lt => pLt | .LtE => pLe | .Gt => pGt | .GtE => pGe | .Is => pIs | .IsNot => pIsN | .In => pIn | .NotIn => pNotIn
def augF : Operator → PV → PV → Hm → R PV
  | .Add => fun x y h => match x, y with
    | .int i, .int j => .ok (.int (i + j)) h
    | _, _ => .bad
  | .Sub => pSub
  | _ => fun _ _ _ => .bad
def cNewD (o : MO) : CE := fun _ h => .ok (.ref h.length) (h ++ [o])
def EL.len : EL → Nat
  | .nil => 0
  | .cons _ r => r.len + 1
/-- what a loop walks, from its arguments -/
def cIk (k : IK) (ra : CA) : CI := match k with
  | .val => fun en h => (ra en h).bind fun xs h1 => match xs with
    | [x] => itOf x h1
    | _ => .bad
  | .r1 => cR1 ra
  | .r2 => cR2 ra
def pBits (x : PV) (h : Hm) : R PV := match x with
  | .int i => .ok (.int (Builtin.Int.intBits i : Nat)) h
  | _ => .bad
mutual
def ev (D : Dn) : E → CE × CT
  | .var i => (cVar i, cTru (cVar i))
  | .int i => (cPure (.int i), cTru (cPure (.int i)))
  | .str s => (cPure (.str s), cTru (cPure (.str s)))
  | .bl b => (cPure (.bl b), cTru (cPure (.bl b)))
  | .non => (cPure .non, cTru (cPure .non))
  | .glob g => let c : CE := match D.P.globs[g]? with | some (_, v) => cPure v | none => fun _ _ => .bad
               (c, cTru c)
  | .bin o a b => let c := cB2 (binF o) (ev D a).1 (ev D b).1; (c, cTru c)
  | .neg a => let c := cB1 pNeg (ev D a).1; (c, cTru c)
  | .bitl a => let c := cB1 pBits (ev D a).1; (c, cTru c)
  | .not a => (eNotC (ev D a).1, tNotC (ev D a).2)
  | .and a b => (eAndC (ev D a).1 (ev D b).1, tAndC (ev D a).2 (ev D b).2)
  | .or a b => (eOrC (ev D a).1 (ev D b).1, tOrC (ev D a).2 (ev D b).2)
  | .cmp o a b => let c := cB2 (cmpF o) (ev D a).1 (ev D b).1; (c, toB c)
  | .chain o o' a b c => let c := cChain (cmpF o) (cmpF o') (ev D a).1 (ev D b).1 (ev D c).1; (c, toB c)
  | .ite t a b => (cIf (ev D t).2 (ev D a).1 (ev D b).1, fun _ _ => .bad)
  | .call f as => let c := cCall (D.call f) (D.P.dv f as.len) (evL D as); (c, cTru c)
  | .callK f as ws => let c := cCallK as.len ws.len (D.call f) (evL D as) (evL D ws); (c, cTru c)
  | .eqd a b => let c := cB2 pEqd (ev D a).1 (ev D b).1; (c, toB c)
  | .make c as => let c := (match D.P.clss[c]? with | some cd => cMake (D.call1 cd.init) c (D.P.dv cd.init (as.len + 1)) (evL D as) | none => fun _ _ => .bad); (c, cTru c)
  | .meO m o as => let c := cMeO D.call D.P.mt D.P.dv m (ev D o).1 (as.len + 1) (evL D as); (c, cTru c)
  | .bi b as => let c := cN (bi b) (evL D as); (c, cTru c)
  | .isi c a => let c := cIsi c (ev D a).1; (c, cTru c)
  | .meth m o as => let c := cMeth m (ev D o).1 (evL D as); (c, cTru c)
  | .attr n o => let c := cAttr D.P.aok n (ev D o).1; (c, cTru c)
  | .tup es => let c := cTup (evL D es); (c, cTru c)
  | .lst es => let c := cLst (evL D es); (c, cTru c)
  | .dict => (cNewD (.dK []), fun _ _ => .bad)
  | .dictT => (cNewD (.dT []), fun _ _ => .bad)
  | .ix a i => let c := cB2 pIx (ev D a).1 (ev D i).1; (c, cTru c)
  | .sl a lo hi => let c := cSl pSl (ev D a).1 (evO D lo) (evO D hi); (c, cTru c)
  | .lc ik ia t vs c e => let c := cLc D.m (cIk ik (evL D ia)) t vs (evC D c) (ev D e).1; (c, cTru c)
def evL (D : Dn) : EL → CA
  | .nil => aNil
  | .cons e r => aCons (ev D e).1 (evL D r)
/-- an optional part -/
def evO (D : Dn) : EL → En → Hm → R (Option Int)
  | .nil => oNone
  | .cons e _ => oSome (ev D e).1
/-- an optional test -/
def evC (D : Dn) : EL → CT
  | .nil => ctYes
  | .cons e _ => (ev D e).2
end
def evE (D : Dn) (e : E) : CE := (ev D e).1
def evT (D : Dn) (e : E) : CT := (ev D e).2
mutual
def evG (D : Dn) : G → CG
  | .nm i => gN i
  | .tup gs => gT (GL.len gs) (evGL D gs)
  | .sub o i => gS (evE D o) (evE D i)
def evGL (D : Dn) : GL → List PV → En → Hm → R En
  | .nil => gsNil
  | .cons g r => gsCons (evG D g) (evGL D r)
def GL.len : GL → Nat
  | .nil => 0
  | .cons _ r => GL.len r + 1
end
/-- behind a try's body -/
def slotOk (oi : Option Nat) (en : En) : Bool := match oi with
  | some i => decide (i < en.length)
  | none => true
def sTry (isx : Nat → Nat → Option Bool) (g : Nat) (oi : Option Nat) (s : Sui) (r : SR) : SR := match r with
  | .ex e en h => match isx e.c g with
    | some true => match e.x with
      | none => match evXS (isx e.c) s with
        | some b => if slotOk oi en = true then .rt (.bl b) h else .bad
        | none => .bad
      | some _ => .bad
    | some false => .ex e en h
    | none => .bad
  | r => r
def evS (D : Dn) : S → CS
  | .skip => sNext
  | .seq a b => sSeq (evS D a) (evS D b)
  | .ret e => sRet (evE D e)
  | .retN => sRetN
  | .expr e => sDrop (evE D e)
  | .ite t a b => sIf (evT D t) (evS D a) (evS D b)
  | .brk => sBreak
  | .cont => sCont
  | .bad => sBad
  | .set i e => sAsg (gN i) (evE D e)
  | .setT g e => sAsg (evG D g) (evE D e)
  | .par i j as => sPar i j (evL D as)
  | .aug i o e => sAug i (augF o) (evE D e)
  | .sattr n o e => sAttr D.P.aok n (evE D o) (evE D e)
  | .aattr n o op e => sAttrAug D.P.aok n (augF op) (evE D o) (evE D e)
  | .raise0 c => fun en h => .ex ⟨c, none⟩ en h
  | .tryO b g s => fun en h => sTry D.P.isx g none s (evS D b en h)
  | .tryA b g i s => fun en h => sTry D.P.isx g (some i) s (evS D b en h)
  | .whl t b => whileL (evT D t) (evS D b) D.m
  | .frl ik ia g b => sFor D.m (cIk ik (evL D ia)) (evG D g) (evS D b)

/-! ### that it is the text -/
structure Ck where
  N : List Str
  sc : Scope
  st : List (Str × NameKind)
def visB (sc : Scope) (x : Str) : Bool := match sc.names.lookup x with
  | some .local => true
  | some .cell => true
  | some .free => true
  | _ => false
def glB (sc : Scope) (x : Str) : Bool := match sc.names.lookup x with
  | some .globalImplicit => true
  | _ => false
def stB (st : List (Str × NameKind)) (x : Str) : Bool := match st.lookup x with
  | some .local => true
  | some .cell => true
  | _ => false
def locB (sc : Scope) (x : Str) : Bool := match sc.names.lookup x with
  | some .local => true
  | _ => false
def okN (x : Str) : Bool := !(x == ("__debug__" : Str)) && !(x == ("__classdict__" : Str))
def isStar : Expr → Bool | .Starred .. => true | _ => false
def isSet : Expr → Bool | .Set .. => true | _ => false
def isSlice : Expr → Bool | .Slice .. => true | _ => false
def isComp : Expr → Bool | .ListComp .. => true | .SetComp .. => true | .DictComp .. => true | _ => false
def isZCall : Expr → Bool | .Call _ [] [] _ => true | _ => false
def isTuple : Expr → Bool | .Tuple .. => true | _ => false
def bltB (P : Pg) (b : BN) : Bool := decide (b.name ∈ P.blt)
/-- the block of a comprehension within Γ -/
def Ck.blk (Γ : Ck) (scope : Scope) : Ck := ⟨Γ.N, relS scope Γ.sc, scope.names⟩
def ownOf (N : List Str) (vs : List Nat) : List (Str × Nat) := vs.filterMap fun i => (N[i]?).map fun x => (x, i)
def tgB (Γ : Ck) : CTg → Expr → Bool
  | .one i, .Name x _ => decide (Γ.N[i]? = some x) && stB Γ.st x
  | .many is, .Tuple es _ _ => decide (is.length = es.length) && (is.zip es).all fun p => match p.2 with
    | .Name x _ => decide (Γ.N[p.1]? = some x) && stB Γ.st x
    | _ => false
  | _, _ => false
def kwN : List Keyword → List Str
  | ⟨some n, _, _⟩ :: r => n :: kwN r
  | _ => []
mutual
def chk (P : Pg) : E → Bool → Ck → Expr → Bool
  | .var i, _, Γ, .Name n _ => decide (Γ.N[i]? = some n) && visB Γ.sc n && okN n
  | .int i, _, _, .Constant (.int j) _ _ => decide (i = j)
  | .str s, _, _, .Constant (.str z) _ _ => decide (z = ⟨s.toArray⟩)
  | .bl b, _, _, .Constant (.bool c) _ _ => decide (b = c)
  | .non, _, _, .Constant .none _ _ => true
  | .glob g, _, Γ, .Name n _ => (match P.globs[g]? with | some (x, _) => decide (n = x) | none => false) && glB Γ.sc n && okN n
  | .bin o a b, _, Γ, .BinOp a' o' b' _ => decide (o = o') && chk P a false Γ a' && chk P b false Γ b'
  | .neg a, _, Γ, .UnaryOp .USub a' _ => chk P a false Γ a'
  | .not a, t, Γ, .UnaryOp .Not a' _ => chk P a t Γ a'
  | .and a b, t, Γ, .BoolOp .And (a' :: b' :: r) p => chk P a t Γ a' && (match r with
    | [] => chk P b t Γ b'
    | _ => chk P b t Γ (.BoolOp .And (b' :: r) p))
  | .or a b, t, Γ, .BoolOp .Or (a' :: b' :: r) p => chk P a t Γ a' && (match r with
    | [] => chk P b t Γ b'
    | _ => chk P b t Γ (.BoolOp .Or (b' :: r) p))
  | .cmp o a b, _, Γ, .Compare a' [o'] [b'] _ => decide (o = o') && chk P a false Γ a' && chk P b false Γ b' && !isSet b'
  | .chain o1 o2 a b c, _, Γ, .Compare a' [o1', o2'] [b', c'] _ => decide (o1 = o1') && decide (o2 = o2') && chk P a false Γ a' && chk P b false Γ b' && chk P c false Γ c' && !isSet c'
  | .ite c a b, t, Γ, .IfExp c' a' b' _ => !t && chk P c true Γ c' && chk P a false Γ a' && chk P b false Γ b'
  | .call f as, _, Γ, .Call (.Name x _) as' [] _ => (match P.funs[f]? with | some fd => fd.isGlob && decide (x = fd.name) | none => false) && glB Γ.sc x && okN x && chkL P as Γ as'
  | .callK f as ws, _, Γ, .Call (.Name x _) (a' :: as') kws _ => (match P.funs[f]? with | some fd => decide (x = fd.name) | none => false) && glB Γ.sc x && okN x && chkL P as Γ (a' :: as') && chkK P ws Γ kws && decide ((f, as.len, kwN kws) ∈ P.kws)
  | .eqd a b, _, Γ, .Compare a' [.Eq] [b'] _ => chk P a false Γ a' && chk P b false Γ b' && !isSet b'
  | .make c as, _, Γ, .Call (.Name x _) as' [] _ => (match P.clss[c]? with | some cd => decide (x = cd.name) | none => false) && glB Γ.sc x && okN x && chkL P as Γ as'
  | .meO m o as, _, Γ, .Call (.Attribute o' x ap) as' [] p => (match P.atts[m]? with | some y => decide (x = y) | none => false) && decide (as'.length < 25) && (ap.endLine == p.line) && !isZCall o' && chk P o false Γ o' && chkL P as Γ as'
  | .bi b as, _, Γ, .Call (.Name x _) as' [] _ => decide (x = b.name) && bltB P b && glB Γ.sc x && !as'.isEmpty && chkL P as Γ as'
  | .isi c a, _, Γ, .Call (.Name x _) [a', .Name y _] [] _ => decide (x = ("isinstance" : Str)) && decide (y = c.name) && decide (c.ty ≠ "NoneType") && decide (("isinstance" : Str) ∈ P.blt) && decide (c.name ∈ P.blt) && glB Γ.sc x && glB Γ.sc y && !isStar a' && chk P a false Γ a'
  | .meth m o as, _, Γ, .Call (.Attribute o' x ap) as' [] p => decide (x = m.name) && decide (as'.length < 25) && (ap.endLine == p.line) && !isZCall o' && chk P o false Γ o' && chkL P as Γ as'
  | .bitl a, _, Γ, .Call (.Attribute o' x ap) [] [] p => decide (x = ("bit_length" : Str)) && (ap.endLine == p.line) && !isZCall o' && chk P a false Γ o'
  | .attr n o, _, Γ, .Attribute o' x _ => (match P.atts[n]? with | some y => decide (x = y) | none => false) && !isZCall o' && chk P o false Γ o'
  | .tup es, _, Γ, .Tuple es' _ _ => chkL P es Γ es'
  | .lst es, _, Γ, .List es' _ => chkL P es Γ es'
  | .dict, t, _, .Dict [] [] _ => !t
  | .dictT, t, _, .Dict [] [] _ => !t
  | .ix a i, _, Γ, .Subscript a' i' _ => chk P a false Γ a' && chk P i false Γ i' && !isSlice i'
  | .sl a lo hi, _, Γ, .Subscript a' (.Slice lo' hi' none _) _ => chk P a false Γ a' && chkO P lo Γ lo' && chkO P hi Γ hi'
  | .lc ik ia t vs c e, _, Γ, .ListComp e' [⟨tg, it, ifs, asy⟩] scope _ => decide (asy = 0) && chkI P ik ia Γ it && !isSet it && blkC Γ.N Γ.sc scope (ownOf Γ.N vs) && decide (vs.length = (ownOf Γ.N vs).length) && t.slots.all (fun i => decide (i ∈ vs)) && tgB (Γ.blk scope) t tg &&
      chkC P c (Γ.blk scope) ifs && chk P e false (Γ.blk scope) e'
  | _, _, _, _ => false
def chkL (P : Pg) : EL → Ck → List Expr → Bool
  | .nil, _, [] => true
  | .cons e r, Γ, x :: xs => chk P e false Γ x && !isStar x && chkL P r Γ xs
  | _, _, _ => false
def chkK (P : Pg) : EL → Ck → List Keyword → Bool
  | .nil, _, [] => true
  | .cons e r, Γ, ⟨some _, x, _⟩ :: xs => chk P e false Γ x && chkK P r Γ xs
  | _, _, _ => false
def chkO (P : Pg) : EL → Ck → Option Expr → Bool
  | .nil, _, none => true
  | .cons e _, Γ, some x => chk P e false Γ x
  | _, _, _ => false
def chkC (P : Pg) : EL → Ck → List Expr → Bool
  | .nil, _, [] => true
  | .cons e _, Γ, [x] => chk P e true Γ x
  | _, _, _ => false
def chkI (P : Pg) : IK → EL → Ck → Expr → Bool
  | .val, .cons e .nil, Γ, x => chk P e false Γ x
  | .r1, .cons a .nil, Γ, .Call (.Name n _) [a'] [] _ => decide (n = ("range" : Str)) && decide (("range" : Str) ∈ P.blt) && glB Γ.sc n && !isStar a' && chk P a false Γ a'
  | .r2, .cons a (.cons b .nil), Γ, .Call (.Name n _) [a', b'] [] _ => decide (n = ("range" : Str)) && decide (("range" : Str) ∈ P.blt) && glB Γ.sc n && !isStar a' && !isStar b' && chk P a false Γ a' && chk P b false Γ b'
  | _, _, _, _ => false
end
end RS

set_option Elab.async false
set_option linter.all false
set_option maxRecDepth 100000
set_option maxHeartbeats 4000000
set_option autoImplicit false
namespace RS
open PySem PySem.Spec PyProof.Rows L2

/-! ### small facts of the syntax -/
theorem star_ok {e : Expr} {es : List Expr} {env : Env} (h : isStar e = false) : starEach (e :: es) env = (false, eval e env) :: starEach es env := by
  cases e <;> first | rfl | cases h
theorem setI_ok {e : Expr} {env : Env} (h : isSet e = false) : ∀ x, foldedSetIterable e env x = pure x := by
  intro x
  cases e <;> first | rfl | cases h
theorem mark_ok {op : CmpOp} {e : Expr} (h : isSet e = false) : behindInMarks op e = false := by
  cases e <;> first | rfl | cases h
theorem ix_ok {e : Expr} (h : isSlice e = false) : PlainIx e := by
  intro o i
  cases e <;> first | rfl | cases h
theorem swN {e : Expr} {t : Option Expr} {l : Nat} {env : Env} (h : isComp e = false) : swapsWith e t l env = pure false := by
  cases e <;> first | rfl | cases h
theorem base_ok {o : Expr} {f : Str} {env : Env} (h : isZCall o = false) : attributeBase o f env (eval o env) = eval o env := by
  cases o with
  | Call fn args kws pos =>
    cases args with
    | nil =>
      cases kws with
      | nil => cases h
      | cons _ _ => cases fn <;> rfl
    | cons _ _ => cases fn <;> rfl
  | _ => rfl
def noStars (es : List Expr) : Bool := es.all fun e => !isStar e
theorem star_any {pos : Pos} {env : Env} : ∀ {es : List Expr}, noStars es = true → (backTo pos (starEach es env)).any (·.1) = false
  | [], _ => rfl
  | e :: es, h => by
    unfold noStars at h
    rw [List.all_cons, Bool.and_eq_true, Bool.not_eq_true'] at h
    rw [star_ok h.1]
    show (false || (backTo pos (starEach es env)).any (·.1)) = false
    rw [star_any h.2]; rfl
theorem star_all {pos : Pos} {env : Env} : ∀ {es : List Expr}, noStars es = true → (backTo pos (starEach es env)).all (fun x => !x.1) = true
  | [], _ => rfl
  | e :: es, h => by
    unfold noStars at h
    rw [List.all_cons, Bool.and_eq_true, Bool.not_eq_true'] at h
    rw [star_ok h.1]
    show (true && (backTo pos (starEach es env)).all (fun x => !x.1)) = true
    rw [star_all h.2]; rfl
theorem few_ok {pos : Pos} {env : Env} {es : List Expr} (h : noStars es = true) (hl : es.length < 25) : methodCallForm (es.length + 0) (backTo pos (starEach es env)) (backToKw pos (keywordEach [] env)) = true := by
  unfold methodCallForm
  rw [star_all h]
  show (true && true && decide (es.length + 0 + 0 < 30)) = true
  rw [decide_eq_true (by omega)]; rfl
theorem chkL_stars {P : Pg} : ∀ {as : EL} {Γ : Ck} {es : List Expr}, chkL P as Γ es = true → noStars es = true
  | .nil, _, [], _ => rfl
  | .nil, _, _ :: _, h => by simp [chkL] at h
  | .cons e r, _, [], h => by simp [chkL] at h
  | .cons e r, Γ, x :: xs, h => by
    simp only [chkL, Bool.and_eq_true] at h
    unfold noStars
    rw [List.all_cons, h.1.2]
    exact chkL_stars h.2
theorem chkL_len {P : Pg} : ∀ {as : EL} {Γ : Ck} {es : List Expr}, chkL P as Γ es = true → as.len = es.length
  | .nil, _, [], _ => rfl
  | .nil, _, _ :: _, h => by simp [chkL] at h
  | .cons e r, _, [], h => by simp [chkL] at h
  | .cons e r, Γ, x :: xs, h => by
    simp only [chkL, Bool.and_eq_true] at h
    simp only [EL.len, List.length_cons]
    rw [chkL_len h.2]

theorem chkK_ok {P : Pg} {pos : Pos} {env : Env} : ∀ {as : EL} {Γ : Ck} {ks : List Keyword}, chkK P as Γ ks = true → (backToKw pos (keywordEach ks env)).all (·.1.isSome) = true ∧ (backToKw pos (keywordEach ks env)).filterMap (·.1) = kwN ks ∧ (backToKw pos (keywordEach ks env)).any (·.1.isNone) = false ∧ (kwN ks).length = as.len
  | .nil, _, [], _ => ⟨rfl, rfl, rfl, rfl⟩
  | .nil, _, _ :: _, h => by simp [chkK] at h
  | .cons e r, _, [], h => by simp [chkK] at h
  | .cons e r, Γ, ⟨none, x, p⟩ :: xs, h => by simp [chkK] at h
  | .cons e r, Γ, ⟨some n, x, p⟩ :: xs, h => by
    simp only [chkK, Bool.and_eq_true] at h
    obtain ⟨a, b, c, d⟩ := chkK_ok (pos := pos) (env := env) h.2
    refine ⟨?_, ?_, ?_, ?_⟩
    · show (true && (backToKw pos (keywordEach xs env)).all (·.1.isSome)) = true
      rw [a]; rfl
    · show n :: (backToKw pos (keywordEach xs env)).filterMap (·.1) = n :: kwN xs
      rw [b]
    · show (false || (backToKw pos (keywordEach xs env)).any (·.1.isNone)) = false
      rw [c]; rfl
    · show (kwN xs).length + 1 = r.len + 1
      rw [d]
theorem k_nil {X : Cx} {T : Tb} {W : WX} : PK X [] (tA T X.K W aNil) := ⟨fun pos pins s σ H Q I q => by
  obtain ⟨ρ, h, en, S, E, p⟩ := q
  have p : Q [] H := p ρ H _ Le.refl S .nil
  exact pk_nil.run pos pins s σ H Q I p⟩
theorem k_cons {X : Cx} {T : Tb} {W : WX} {e : Expr} {n : Option Str} {kpos : Pos} {kws : List Keyword} {ca : CE} {ra : CA} (ha : PE X e (tE T X.K W ca)) (hr : PK X kws (tA T X.K W ra)) : PK X (⟨n, e, kpos⟩ :: kws) (tA T X.K W (aCons ca ra)) := by
  refine ⟨fun pos pins s σ H Q I q => (pk_cons ha hr).run pos pins s σ H Q I ?_⟩
  obtain ⟨ρ, h, en, S, E, p⟩ := q
  refine tR.step S E p fun ρ1 H1 x h1 x' l1 S1 E1 r1 p1 => ?_
  refine tR.step S1 E1 p1 fun ρ2 H2 y h2 y' l2 S2 E2 r2 p2 => ?_
  exact p2 ρ2 H2 _ Le.refl S2 (.cons (r1.mono l2) r2)
/-- C() of an own exception class without own __init__ -/
theorem pmk_own0 {X : Cx} {C : Addr} {bmB : List Value} {B newId initId : String} {x : Str} {p pos : Pos} (F : ExcBaseFacts B newId initId bmB) (q : PySem.W.excIn X.K C bmB newId = true) (gC : X.mg x = some (.ref C))
    (kC : PySem.W.keepIn X.K (.ref C) = true) (r : Raises X (.ref C)) (hg : Gl X x) (hdb : (x == ("__debug__" : Str)) = false) :
    PMk X (.Call (.Name x p) [] [] pos) (fun _ H Q => Q (.ref C) none H) := by
  intro pins s σ H Q I h
  refine wpAny_Call_Name_kw (ld_glob I hg gC ?_ hdb)
  refine PySem.W.callWith_K0 (first := []) I.kIn kC ?_
  show wpAny _ _ (call (.ref C) []) _ _ _
  obtain ⟨bm, N, nm, qn, bs, hdct, sn, sub, ab, col, dd, k0, k1, k2, k3, k5, mN, hC, hN, hni, Tt⟩ := exc_obj I.kIn q
  refine wpAny_call_exc_subT F Tt hC hN hni (fun h' e hm => ?_) (Nat.zero_le _)
  exact mk_of I hm r h (I.hok.gone hm.new)
/-- isinstance(e, (C, ..)), e the exception that the suite holds -/
def rIsET (K : PySem.W.Frag) (D a : Addr) : List V → Hp → VK → Prop := fun xs H Q => ∃ (tp : Addr) (cs : List V) (us : List Value) (b : Bool), xs = [.ref a, .ref tp] ∧ H tp = some (.tup cs) ∧ Paired ClsV cs us ∧ PySem.W.kitAny K (.ref D) us = some b ∧ Q (.bl b) H
theorem call_isET {X : Cx} {a D : Addr} {oe : Obj} {pn : List (Addr × Obj)} (C : ExcC X.K D) (hz : Zc (.ref D) none oe) (hf : ∃ vs, oe.data = .fields vs) : CallR (X.suite a ((a, oe) :: pn)) (.builtin "isinstance") (rIsET X.K D a) := by
  intro pins s σ H xs us Q I r h
  obtain ⟨tp, cs, ws, b, rfl, hT, k, e, q⟩ := h
  obtain ⟨u1, u2, rfl, r1, r2⟩ := vals2 r
  cases (show u1 = Value.ref a from r1)
  cases (show u2 = Value.ref tp from r2)
  obtain ⟨hget, _⟩ := I.pin (a, oe) (List.mem_append.mpr (.inl List.mem_cons_self))
  obtain ⟨vs, hv⟩ := hf
  have J : PySem.W.InstAt s.heap a oe D none := by
    obtain ⟨oc, od, oda, osl⟩ := oe
    obtain ⟨h1, h2⟩ := hz
    dsimp only at h1 h2 hv
    subst h1 h2 hv
    exact ⟨hget, rfl, rfl, trivial⟩
  obtain ⟨_, its, rv, o, h1, h2, n, h3⟩ := (show ObjOk X.prog X.w H s.heap tp (.tup cs) from I.hok tp _ hT)
  have e3 := ClsV.all k rv
  subst e3
  obtain ⟨oc, od, dt, sl⟩ := o
  simp only at h2 h3
  subst h2 h3
  exact PySem.W.kia_tup (PySem.W.handS_kitx_exc C.hg C.hk C.hs C.hd C.ha C.hn C.ht C.hm) I.kIn J h1 e (fun z => nomatch z) fun tk => ⟨.bl b, H, I.kept (t' := tk) fun _ _ z => z, rfl, q⟩
/-! ### where one stands -/
/-- what is known of a body, a block -/
structure OkX (T : Tb) (D : Dn) (k : Nat) (Γ : Ck) (X : Cx) (W : WX) : Prop where
  N : X.N = Γ.N
  nd : X.N.Nodup
  sc : X.env.scope = Γ.sc
  kind : X.env.scope.kind = .function
  st : ∀ x, stB Γ.st x = true → Loc X.env.scope x ∧ (X.fn x = true ∨ X.env.scope.names.lookup x = some .local)
  calm : X.calm = true
  room : Room (k + 1) X.A
  tk : Takes X W
  glob : ∀ (g : Nat) x v, D.P.globs[g]? = some (x, v) → ∃ u v', X.mg x = some u ∧ RelV v' u ∧ ∀ ρ H, VRel X.K ρ H v v'
  blt : ∀ b : BN, b.name ∈ D.P.blt → X.mg b.name = b.mg
  bltO : ∀ x, x ∈ D.P.blt → x ≠ ("gcd" : Str) → X.mg x = none
  att : ∀ (n : Nat) x, D.P.atts[n]? = some x → T.att n = x
  aok : AtOk T X.K D.P.aok
  fn : ∀ (f : Nat) fd, D.P.funs[f]? = some fd → ∃ a fdat, (fd.isGlob = true → X.mg fd.name = some (.ref a) ∧ PySem.W.keepIn X.K (.ref a) = true) ∧ ∀ j, j ≤ fd.dfts.length → FnAt X T (k + 1) (D.call f) a fdat fd.ps (fd.dfts.drop j)
  mt : ∀ c m f, D.P.mt c m = some f → Cls X.K (T.cls c) ∧ ∃ fd a fdat, D.P.funs[f]? = some fd ∧ Meth X.K (T.cls c) (T.att m) a ∧ ∀ j, j ≤ fd.dfts.length → FnAt X T (k + 1) (D.call f) a fdat fd.ps (fd.dfts.drop j)
  mkc : ∀ (c : Nat) cd, D.P.clss[c]? = some cd → X.mg cd.name = some (.ref (T.cls c)) ∧ ∃ fd a fdat, D.P.funs[cd.init]? = some fd ∧ Mk X.K (T.cls c) a ∧ ∀ j, j ≤ fd.dfts.length → FnAt X T k (D.call1 cd.init) a fdat fd.ps (fd.dfts.drop j)
  xr : ∀ c x, (c, x) ∈ D.P.xr → ∃ B newId initId bmB, ExcBaseFacts B newId initId bmB ∧ PySem.W.excIn X.K (T.cls c) bmB newId = true ∧ X.mg x = some (.ref (T.cls c)) ∧ PySem.W.keepIn X.K (.ref (T.cls c)) = true ∧ PySem.W.subIn X.K (.ref (T.cls c)) (.type "BaseException") = some true ∧ PySem.W.typeIn X.K (.ref (T.cls c)) = some (.type "type")
  xg : ∀ (g : Nat) x, D.P.xg[g]? = some x → ∃ cv cw, ClsV cw cv ∧ (X.mg x = some cv ∨ (X.mg x = none ∧ bootBuiltins x = some cv ∧ x ≠ "__name__")) ∧ ∀ c b, D.P.isx c g = some b → PySem.W.kitOne X.K (.ref (T.cls c)) cv = some b ∧ PySem.W.exmOne X.K (.ref (T.cls c)) cv = some b
  xc : ∀ c g b, D.P.isx c g = some b → ExcC X.K (T.cls c)
  kw : ∀ f n ks, (f, n, ks) ∈ D.P.kws → ∃ fd a fdat, D.P.funs[f]? = some fd ∧ X.mg fd.name = some (.ref a) ∧ PySem.W.keepIn X.K (.ref a) = true ∧ FnOk X.prog X.w X.K X.mg X.base (L2.CX X.prog X.w) (k + 1) a fdat fd.ps (spF T X.K fd.ps.length (D.call f)) ∧
    (∀ xs h, xs.length ≠ fd.ps.length → D.call f xs h = .bad) ∧ KBn X.K fdat fd.ps n ks (fun us ws => us ++ ws) (fun us ws => us ++ ws)
section
variable {T : Tb} {D : Dn} {k : Nat} {Γ : Ck} {X : Cx} {W : WX}
theorem OkX.hu (o : OkX T D k Γ X W) : X.A.units + 65 < cLine := by have := o.room.un; omega
theorem OkX.gl (o : OkX T D k Γ X W) {x : Str} (h : glB Γ.sc x = true) : Gl X x := by
  unfold glB at h
  rw [← o.sc] at h
  split at h
  · assumption
  · cases h
theorem OkX.vis (o : OkX T D k Γ X W) {x : Str} (h : visB Γ.sc x = true) : Vis X.env.scope x := by
  unfold visB at h
  rw [← o.sc] at h
  split at h
  · exact .inl (by assumption)
  · exact .inr (.inl (by assumption))
  · exact .inr (.inr (by assumption))
  · cases h
theorem okN_of {x : Str} (h : okN x = true) : (x == ("__debug__" : Str)) = false ∧ (x == ("__classdict__" : Str)) = false := by
  unfold okN at h
  rw [Bool.and_eq_true, Bool.not_eq_true', Bool.not_eq_true'] at h
  exact h
theorem OkX.blk (o : OkX T D k Γ X W) (scope : Scope) (hk : scope.kind = .function) (s : Shared) (H : Hp) (C : Addr) (cl : List (Str × Addr)) (fp : List Addr) :
    OkX T D k (Γ.blk scope) (X.blk s H scope (compEnvC scope cl C X.env) fp) W0 where
  N := o.N
  nd := o.nd
  sc := by show relS scope X.env.scope = relS scope Γ.sc; rw [o.sc]
  kind := hk
  st := fun x h => by
    have h : stB scope.names x = true := h
    unfold stB at h
    split at h
    · rename_i e
      have q := lookup_relS_keep (sc := X.env.scope) (k := .local) (by decide) e
      exact ⟨.inl q, .inr q⟩
    · rename_i e
      have q := lookup_relS_keep (sc := X.env.scope) (k := .cell) (by decide) e
      exact ⟨.inr q, .inl (by show (scope.names.lookup x == some .cell) = true; rw [e]; rfl)⟩
    · cases h
  calm := o.calm
  room := o.room
  tk := takes0
  glob := o.glob
  blt := o.blt
  bltO := o.bltO
  att := o.att
  aok := o.aok
  fn := fun f fd h => let ⟨a, b, c, d⟩ := o.fn f fd h; ⟨a, b, c, fun j hj => ⟨(d j hj).ok, (d j hj).len, (d j hj).bind⟩⟩
  mt := fun c m f h => let ⟨a, fd, b, c2, d, e, g⟩ := o.mt c m f h; ⟨a, fd, b, c2, d, e, fun j hj => ⟨(g j hj).ok, (g j hj).len, (g j hj).bind⟩⟩
  xr := o.xr
  xg := o.xg
  xc := o.xc
  kw := o.kw
  mkc := fun c cd h => let ⟨a, fd, b, c2, d, e, g⟩ := o.mkc c cd h; ⟨a, fd, b, c2, d, e, fun j hj => ⟨(g j hj).ok, (g j hj).len, (g j hj).bind⟩⟩

/-! ### the operators -/
theorem rFalse {X : Cx} {f : Value → Value → Sem Value} : OpR X f (fun _ _ _ _ => False) := fun _ _ _ _ _ _ _ _ _ _ _ _ h => h.elim
theorem bin_ok (o : Operator) : ∃ r, OpR X (binaryOp o) r ∧ Sem2 T X.K r (binF o) := by
  cases o with
  | Add => exact ⟨_, op_add2, s_add⟩
  | Sub => exact ⟨_, op_sub, s_sub⟩
  | Mult => exact ⟨_, op_mul2, s_mul⟩
  | FloorDiv => exact ⟨_, op_divX, s_div⟩
  | Mod => exact ⟨_, op_modN, s_mod⟩
  | Pow => exact ⟨_, op_pow, s_pow⟩
  | LShift => exact ⟨_, op_shl, s_shl⟩
  | RShift => exact ⟨_, op_shr, s_shr⟩
  | BitAnd => exact ⟨_, op_and, s_and⟩
  | BitOr => exact ⟨_, op_or, s_or⟩
  | BitXor => exact ⟨_, op_xor, s_xor⟩
  | MatMult => exact ⟨_, rFalse, fun _ _ _ _ _ _ _ _ _ _ _ _ _ p => p⟩
  | Div => exact ⟨_, rFalse, fun _ _ _ _ _ _ _ _ _ _ _ _ _ p => p⟩
theorem cmp_ok (hu : X.A.units + 65 < cLine) (o : CmpOp) : ∃ r, OpR X (compareOp o) r ∧ Sem2 T X.K r (cmpF o) := by
  cases o with
  | Eq => exact ⟨_, op_eq2 (by omega), s_eq⟩
  | NotEq => exact ⟨_, op_ne2 (by omega), s_ne⟩
  | Lt => exact ⟨_, op_lt2, s_lt⟩
  | LtE => exact ⟨_, op_le2, s_le⟩
  | Gt => exact ⟨_, op_gt2, s_gt⟩
  | GtE => exact ⟨_, op_ge2, s_ge⟩
  | Is => exact ⟨_, op_is2, s_is⟩
  | IsNot => exact ⟨_, op_isN2, s_isN⟩
  | In => exact ⟨_, op_inX hu, s_in⟩
  | NotIn => exact ⟨_, op_notInX hu, s_notIn⟩
theorem s_augAdd {K : PySem.W.Frag} : Sem2 T K (rI0 fun i j => .int (i + j)) (augF .Add) := semI0 (fun _ _ _ => rfl) (fun x y h z => by cases x <;> cases y <;> first | rfl | exact absurd ⟨rfl, rfl⟩ (z _ _)) fun _ _ _ _ => .int _
theorem aug_ok (o : Operator) : ∃ r, OpR X (inplaceOp o) r ∧ Sem2 T X.K r (augF o) := by
  cases o with
  | Add => exact ⟨_, iop_add, s_augAdd⟩
  | Sub => exact ⟨_, iop_sub, s_sub⟩
  | _ => exact ⟨_, rFalse, fun _ _ _ _ _ _ _ _ _ _ _ _ _ p => p⟩

/-! ### soundness: expressions -/
theorem e_new (o : MO) {pos : Pos} (h : (o = .dK [] ∨ o = .dT [])) : PE X (.Dict [] [] pos) (tE T X.K W (cNewD o)) := by
  rcases h with rfl | rfl
  · refine pe_dnewK.weak ?_
    rintro σ H Q ⟨ρ, h, en, S, E, p⟩ q hq
    obtain ⟨l, S2, e⟩ := S.new (o := .dK []) (m := .dK []) hq ⟨[], .nil, upd_same⟩ rfl
    exact p _ _ _ l S2 (.ref e)
  · refine pe_dnewT.weak ?_
    rintro σ H Q ⟨ρ, h, en, S, E, p⟩ q hq
    obtain ⟨l, S2, e⟩ := S.new (o := .dT []) (m := .dT []) hq ⟨[], .nil, upd_same⟩ rfl
    exact p _ _ _ l S2 (.ref e)
theorem e_bits {a : Expr} {ca : CE} {apos pos : Pos} (ha : PE X a (tE T X.K W ca)) (hb : attributeBase a "bit_length" X.env (eval a X.env) = eval a X.env) (hl : (apos.endLine == pos.line) = true) : PE X (.Call (.Attribute a "bit_length" apos) [] [] pos) (tE T X.K W (cB1 pBits ca)) := by
  refine (pe_bits ha hb hl).weak ?_
  rintro σ H Q ⟨ρ, h, en, S, E, p⟩
  refine tR.step S E p fun ρ1 H1 x h1 x' l1 S1 E1 r1 p1 => ?_
  cases r1 <;> first | exact p1.elim | exact ⟨_, rfl, p1 ρ1 H1 _ Le.refl S1 (.int _)⟩
def isBoolOp : Expr → Bool
  | .BoolOp .. => true
  | _ => false
/-- what is shown of an expression -/
def SE (D : Dn) (T : Tb) (X : Cx) (W : WX) (e : E) (t : Bool) (x : Expr) : Prop :=
  (t = false → PE X x (tE T X.K W (ev D e).1)) ∧ (t = true → PT X x (tT T X.K W (ev D e).2) ∧ (isBoolOp x = true → PW X x (tT T X.K W (ev D e).2)))
theorem SE.of {e : E} {t : Bool} {x : Expr} {c : CE} (h : PE X x (tE T X.K W c)) (h1 : (ev D e).1 = c) (h2 : (ev D e).2 = cTru c) (hb : isBoolOp x = false) (hp : ∀ whole, isTrue x X.env whole = (do let v ← whole; standAt x.pos; holding [v] (truthy v))) : SE D T X W e t x :=
  ⟨fun _ => by rw [h1]; exact h, fun _ => ⟨by rw [h2]; exact p_truth h hp, fun z => by rw [hb] at z; cases z⟩⟩
theorem SE.bad {e : E} {t : Bool} {x : Expr} (h : False) : SE D T X W e t x := h.elim
theorem fnAt_dv (o : OkX T D k Γ X W) {f n : Nat} {fd : FD} (hf : D.P.funs[f]? = some fd) {k' : Nat} {F : FS} {a : Addr} {fdat : FuncData} (h : ∀ j, j ≤ fd.dfts.length → FnAt X T k' F a fdat fd.ps (fd.dfts.drop j)) : FnAt X T k' F a fdat fd.ps (D.P.dv f n) := by
  unfold Pg.dv
  rw [hf]
  exact h _ (Nat.min_le_right _ _)
theorem bn_ne (b : BN) (h : b.name = ("gcd" : Str)) : b.mg = some (.builtin "math.gcd") := by
  cases b <;> first | rfl | (exact absurd h (by decide +kernel))
theorem tgB_ok {X' : Cx} {Γ' : Ck} {k' : Nat} {W' : WX} (o : OkX T D k' Γ' X' W') {t : CTg} {tg : Expr} (h : tgB Γ' t tg = true) : TgOk X' t tg := by
  cases t with
  | one i =>
    cases tg <;> first | (simp [tgB] at h; done) | skip
    rename_i x p
    simp only [tgB, Bool.and_eq_true, decide_eq_true_eq] at h
    obtain ⟨h1, h2⟩ := h
    obtain ⟨h3, h4⟩ := o.st x h2
    exact ⟨x, p, rfl, by rw [o.N]; exact h1, h3, h4⟩
  | many is =>
    cases tg <;> first | (simp [tgB] at h; done) | skip
    rename_i es kk p
    simp only [tgB, Bool.and_eq_true, decide_eq_true_eq, List.all_eq_true] at h
    obtain ⟨h1, h2⟩ := h
    refine ⟨es, kk, p, rfl, h1, fun j e he => ?_⟩
    have hj : j < is.length := by rw [h1]; exact (List.getElem?_eq_some_iff.mp he).1
    have hm : (is[j], e) ∈ is.zip es := by
      have : (is.zip es)[j]? = some (is[j], e) := by rw [List.getElem?_zip_eq_some]; exact ⟨List.getElem?_eq_getElem hj, he⟩
      exact List.mem_of_getElem? this
    have q := h2 _ hm
    cases e <;> first | (simp at q; done) | skip
    rename_i x p2
    simp only [Bool.and_eq_true, decide_eq_true_eq] at q
    obtain ⟨q1, q2⟩ := q
    obtain ⟨h3, h4⟩ := o.st x q2
    exact ⟨is[j], x, p2, List.getElem?_eq_getElem hj, rfl, by rw [o.N]; exact q1, h3, h4⟩
end
end RS

set_option Elab.async false
set_option linter.all false
set_option maxRecDepth 100000
set_option maxHeartbeats 4000000
set_option autoImplicit false
namespace RS
open PySem PySem.Spec PyProof.Rows L2
theorem ff {p : Prop} (h : false = true) : p := absurd h Bool.false_ne_true
theorem ownOf_snd {N : List Str} : ∀ {vs : List Nat}, vs.length = (ownOf N vs).length → (ownOf N vs).map (·.2) = vs
  | [], _ => rfl
  | i :: vs, h => by
    have hl : ∀ vs : List Nat, (ownOf N vs).length ≤ vs.length := fun vs => List.length_filterMap_le _ _
    cases e : N[i]? with
    | none =>
      have : ownOf N (i :: vs) = ownOf N vs := by unfold ownOf; rw [List.filterMap_cons, e]; rfl
      rw [this] at h
      have := hl vs
      rw [List.length_cons] at h
      omega
    | some x =>
      have q : ownOf N (i :: vs) = (x, i) :: ownOf N vs := by unfold ownOf; rw [List.filterMap_cons, e]; rfl
      rw [q] at h ⊢
      rw [List.map_cons, ownOf_snd (by simpa using h)]
theorem few_ok2 {pos : Pos} {env : Env} {es : List Expr} (h : noStars es = true) (hl : es.length < 25) : ((backTo pos (starEach es env)).all (fun x => !x.1) && (backToKw pos (keywordEach [] env)).all (fun x => x.1.isSome)
      && decide (es.length + ([] : List Keyword).length + (if ([] : List Keyword).isEmpty then 0 else 1) < 30)) = true := by
  rw [star_all h]
  show (true && true && decide (es.length + 0 + 0 < 30)) = true
  rw [decide_eq_true (by omega)]; rfl
section
variable {T : Tb} {D : Dn} {k : Nat}
theorem any_of_noStars {pos : Pos} {env : Env} {es : List Expr} (h : noStars es = true) : (backTo pos (starEach es env)).any (·.1) = false := star_any h
mutual
theorem sE : ∀ (e : E) {t : Bool} {Γ : Ck} {x : Expr} {X : Cx} {W : WX}, OkX T D k Γ X W → chk D.P e t Γ x = true → SE D T X W e t x
  | .var i, t, Γ, x, X, W, o, h => by
    cases x <;> first | exact ff h | skip
    rename_i n p
    have h : (decide (Γ.N[i]? = some n) && visB Γ.sc n && okN n) = true := h
    simp only [Bool.and_eq_true, decide_eq_true_eq] at h
    obtain ⟨⟨h1, h2⟩, h3⟩ := h
    exact SE.of (e_var (by rw [o.N]; exact h1) (o.vis h2) (okN_of h3).1 (okN_of h3).2) rfl rfl rfl fun _ => rfl
  | .int i, t, Γ, x, X, W, o, h => by
    cases x <;> first | exact ff h | skip
    rename_i c j p
    cases c <;> first | exact ff h | skip
    rename_i j2
    have h : decide (i = j2) = true := h
    cases of_decide_eq_true h
    exact SE.of (e_pure pe_int fun _ _ => .int _) rfl rfl rfl fun _ => rfl
  | .str s, t, Γ, x, X, W, o, h => by
    cases x <;> first | exact ff h | skip
    rename_i c j p
    cases c <;> first | exact ff h | skip
    rename_i z
    have h : decide (z = ⟨s.toArray⟩) = true := h
    cases of_decide_eq_true h
    exact SE.of (e_pure pe_str fun _ _ => .str _) rfl rfl rfl fun _ => rfl
  | .bl b, t, Γ, x, X, W, o, h => by
    cases x <;> first | exact ff h | skip
    rename_i c j p
    cases c <;> first | exact ff h | skip
    rename_i z
    have h : decide (b = z) = true := h
    cases of_decide_eq_true h
    exact SE.of (e_pure pe_bl fun _ _ => .bl _) rfl rfl rfl fun _ => rfl
  | .non, t, Γ, x, X, W, o, h => by
    cases x <;> first | exact ff h | skip
    rename_i c j p
    cases c <;> first | exact ff h | skip
    exact SE.of (e_pure pe_non fun _ _ => .non) rfl rfl rfl fun _ => rfl
  | .glob g, t, Γ, x, X, W, o, h => by
    cases x <;> first | exact ff h | skip
    rename_i n p
    have h : ((match D.P.globs[g]? with | some (x, _) => decide (n = x) | none => false) && glB Γ.sc n && okN n) = true := h
    simp only [Bool.and_eq_true] at h
    obtain ⟨⟨h1, h2⟩, h3⟩ := h
    cases e : D.P.globs[g]? with
    | none => rw [e] at h1; exact ff h1
    | some q =>
      obtain ⟨y, v⟩ := q
      rw [e] at h1
      cases of_decide_eq_true h1
      obtain ⟨u, v', m1, m2, m3⟩ := o.glob g _ _ e
      have c : (ev D (.glob g)).1 = cPure v := by
        show (match D.P.globs[g]? with | some (_, v) => cPure v | none => fun _ _ => .bad) = _
        rw [e]
      have c2 : (ev D (.glob g)).2 = cTru (cPure v) := by
        show cTru (match D.P.globs[g]? with | some (_, v) => cPure v | none => fun _ _ => .bad) = _
        rw [e]
      exact SE.of (e_pure (pe_glob (o.gl h2) m1 m2 (okN_of h3).1) m3) c c2 rfl fun _ => rfl
  | .bin op a b, t, Γ, x, X, W, o, h => by
    cases x <;> first | exact ff h | skip
    rename_i a' o' b' p
    have h : (decide (op = o') && chk D.P a false Γ a' && chk D.P b false Γ b') = true := h
    simp only [Bool.and_eq_true, decide_eq_true_eq] at h
    obtain ⟨⟨h1, h2⟩, h3⟩ := h
    cases h1
    obtain ⟨r, r1, r2⟩ := bin_ok (T := T) (X := X) op
    exact SE.of (e_bin r1 r2 ((sE a o h2).1 rfl) ((sE b o h3).1 rfl)) rfl rfl rfl fun _ => rfl
  | .neg a, t, Γ, x, X, W, o, h => by
    cases x <;> first | exact ff h | skip
    rename_i op a' p
    cases op <;> first | exact ff h | skip
    have h : chk D.P a false Γ a' = true := h
    exact SE.of (e_un un_neg s_neg ((sE a o h).1 rfl)) rfl rfl rfl fun _ => rfl
  | .not a, t, Γ, x, X, W, o, h => by
    cases x <;> first | exact ff h | skip
    rename_i op a' p
    cases op <;> first | exact ff h | skip
    have h : chk D.P a t Γ a' = true := h
    have q := sE a o h
    exact ⟨fun et => e_not (q.1 et), fun et => ⟨p_not (q.2 et).1, fun z => ff z⟩⟩
  | .and a b, t, Γ, x, X, W, o, h => by
    cases x <;> first | exact ff h | skip
    rename_i op vs p
    cases op <;> first | exact ff h | skip
    cases vs with
    | nil => exact ff h
    | cons a' vs =>
      cases vs with
      | nil => exact ff h
      | cons b' r =>
        cases r with
        | nil =>
          have h : (chk D.P a t Γ a' && chk D.P b t Γ b') = true := h
          simp only [Bool.and_eq_true] at h
          have q1 := sE a o h.1
          have q2 := sE b o h.2
          exact ⟨fun et => e_and (q1.1 et) (pe_one (q2.1 et)), fun et => ⟨(w_and (pos := p) (q1.2 et).1 (pw_and1 (q2.2 et).1)).pt, fun _ => w_and (q1.2 et).1 (pw_and1 (q2.2 et).1)⟩⟩
        | cons c' r =>
          have h : (chk D.P a t Γ a' && chk D.P b t Γ (.BoolOp .And (b' :: c' :: r) p)) = true := h
          simp only [Bool.and_eq_true] at h
          have q1 := sE a o h.1
          have q2 := sE b o h.2
          exact ⟨fun et => e_and (q1.1 et) (q2.1 et), fun et => ⟨(w_and (pos := p) (q1.2 et).1 ((q2.2 et).2 rfl)).pt, fun _ => w_and (q1.2 et).1 ((q2.2 et).2 rfl)⟩⟩
  | .or a b, t, Γ, x, X, W, o, h => by
    cases x <;> first | exact ff h | skip
    rename_i op vs p
    cases op <;> first | exact ff h | skip
    cases vs with
    | nil => exact ff h
    | cons a' vs =>
      cases vs with
      | nil => exact ff h
      | cons b' r =>
        cases r with
        | nil =>
          have h : (chk D.P a t Γ a' && chk D.P b t Γ b') = true := h
          simp only [Bool.and_eq_true] at h
          have q1 := sE a o h.1
          have q2 := sE b o h.2
          exact ⟨fun et => e_or (q1.1 et) (pe_one (q2.1 et)), fun et => ⟨(w_or (pos := p) (q1.2 et).1 (pw_or1 (q2.2 et).1)).pt, fun _ => w_or (q1.2 et).1 (pw_or1 (q2.2 et).1)⟩⟩
        | cons c' r =>
          have h : (chk D.P a t Γ a' && chk D.P b t Γ (.BoolOp .Or (b' :: c' :: r) p)) = true := h
          simp only [Bool.and_eq_true] at h
          have q1 := sE a o h.1
          have q2 := sE b o h.2
          exact ⟨fun et => e_or (q1.1 et) (q2.1 et), fun et => ⟨(w_or (pos := p) (q1.2 et).1 ((q2.2 et).2 rfl)).pt, fun _ => w_or (q1.2 et).1 ((q2.2 et).2 rfl)⟩⟩
  | .cmp op a b, t, Γ, x, X, W, o, h => by
    cases x <;> first | exact ff h | skip
    rename_i a' os bs p
    obtain _ | ⟨o', _ | ⟨_, _⟩⟩ := os <;> first | exact ff h | skip
    obtain _ | ⟨b', _ | ⟨_, _⟩⟩ := bs <;> first | exact ff h | skip
    have h : (decide (op = o') && chk D.P a false Γ a' && chk D.P b false Γ b' && !isSet b') = true := h
    simp only [Bool.and_eq_true, decide_eq_true_eq, Bool.not_eq_true'] at h
    obtain ⟨⟨⟨h1, h2⟩, h3⟩, h4⟩ := h
    cases h1
    obtain ⟨r, r1, r2⟩ := cmp_ok (T := T) o.hu op
    have q1 := (sE a o h2).1 rfl
    have q2 := (sE b o h3).1 rfl
    exact ⟨fun _ => e_cmp r1 r2 (mark_ok h4) q1 q2, fun _ => ⟨p_cmp r1 r2 (mark_ok h4) q1 q2, fun z => ff z⟩⟩
  | .chain o1 o2 a b c, t, Γ, x, X, W, o, h => by
    cases x <;> first | exact ff h | skip
    rename_i a' os bs p
    obtain _ | ⟨o1', _ | ⟨o2', _ | ⟨_, _⟩⟩⟩ := os <;> first | exact ff h | skip
    obtain _ | ⟨b', _ | ⟨c', _ | ⟨_, _⟩⟩⟩ := bs <;> first | exact ff h | skip
    have h : (decide (o1 = o1') && decide (o2 = o2') && chk D.P a false Γ a' && chk D.P b false Γ b' && chk D.P c false Γ c' && !isSet c') = true := h
    simp only [Bool.and_eq_true, decide_eq_true_eq, Bool.not_eq_true'] at h
    obtain ⟨⟨⟨⟨⟨h1, h2⟩, h3⟩, h4⟩, h5⟩, h6⟩ := h
    cases h1; cases h2
    obtain ⟨r, r1, r2⟩ := cmp_ok (T := T) o.hu o1
    obtain ⟨s, s1, s2⟩ := cmp_ok (T := T) o.hu o2
    have q1 := (sE a o h3).1 rfl
    have q2 := (sE b o h4).1 rfl
    have q3 := (sE c o h5).1 rfl
    have hm : lastMarks [o1, o2] [b', c'] = false := by
      show behindInMarks o2 c' = false
      exact mark_ok h6
    exact ⟨fun _ => e_chain r1 s1 r2 s2 hm q1 q2 q3, fun _ => ⟨p_chain r1 s1 r2 s2 hm q1 q2 q3, fun z => ff z⟩⟩
  | .ite c a b, t, Γ, x, X, W, o, h => by
    cases x <;> first | exact ff h | skip
    rename_i c' a' b' p
    have h : (!t && chk D.P c true Γ c' && chk D.P a false Γ a' && chk D.P b false Γ b') = true := h
    simp only [Bool.and_eq_true, Bool.not_eq_true'] at h
    obtain ⟨⟨⟨h1, h2⟩, h3⟩, h4⟩ := h
    exact ⟨fun _ => e_if ((sE c o h2).2 rfl).1 ((sE a o h3).1 rfl) ((sE b o h4).1 rfl), fun z => by rw [h1] at z; cases z⟩
  | .call f as, t, Γ, x, X, W, o, h => by
    cases x <;> first | exact ff h | skip
    rename_i fn as' kws p
    cases kws with
    | cons _ _ => cases fn <;> exact ff h
    | nil =>
      cases fn <;> first | exact ff h | skip
      rename_i n np
      have h : ((match D.P.funs[f]? with | some fd => fd.isGlob && decide (n = fd.name) | none => false) && glB Γ.sc n && okN n && chkL D.P as Γ as') = true := h
      simp only [Bool.and_eq_true] at h
      obtain ⟨⟨⟨h1, h2⟩, h3⟩, h4⟩ := h
      cases e : D.P.funs[f]? with
      | none => rw [e] at h1; exact ff h1
      | some fd =>
        rw [e] at h1
        simp only [Bool.and_eq_true, decide_eq_true_eq] at h1
        obtain ⟨h1, rfl⟩ := h1
        obtain ⟨a, fdat, m1, m2⟩ := o.fn f fd e
        obtain ⟨m3, m4⟩ := m1 h1
        have F := fnAt_dv (n := as.len) o e m2
        obtain ⟨dvs, us, b1, b2, b3⟩ := F.bind
        have q := sL as o h4
        have st := chkL_stars h4
        cases as' with
        | nil =>
          cases as with
          | cons _ _ => exact ff h4
          | nil => exact SE.of (e_call0 F.ok F.len o.room o.tk (o.gl h2) m3 m4 b1 b2 b3 (okN_of h3).1) rfl rfl rfl fun _ => rfl
        | cons y ys =>
          unfold noStars at st
          rw [List.all_cons, Bool.and_eq_true, Bool.not_eq_true'] at st
          exact SE.of (e_call F.ok F.len o.room o.tk (o.gl h2) m3 m4 b1 b2 b3 q (okN_of h3).1 (star_ok st.1) (star_any st.2)) rfl rfl rfl fun _ => rfl
  | .callK f as ws, t, Γ, x, X, W, o, h => by
    cases x <;> first | exact ff h | skip
    rename_i fn as' kws p
    cases as' with
    | nil => cases fn <;> exact ff h
    | cons y ys =>
      cases fn <;> first | exact ff h | skip
      rename_i n np
      have h : ((match D.P.funs[f]? with | some fd => decide (n = fd.name) | none => false) && glB Γ.sc n && okN n && chkL D.P as Γ (y :: ys) && chkK D.P ws Γ kws && decide ((f, as.len, kwN kws) ∈ D.P.kws)) = true := h
      simp only [Bool.and_eq_true] at h
      obtain ⟨⟨⟨⟨⟨h1, h2⟩, h3⟩, h4⟩, h5⟩, h6⟩ := h
      obtain ⟨fd, a, fdat, m1, m2, m3, m4, m5, m6⟩ := o.kw _ _ _ (of_decide_eq_true h6)
      rw [m1] at h1
      cases of_decide_eq_true h1
      have q := sL as o h4
      have qk := sK ws o h5
      obtain ⟨z1, z2, z3, z4⟩ := chkK_ok (pos := p) (env := X.env) h5
      have st := chkL_stars h4
      have st2 := st
      unfold noStars at st
      rw [List.all_cons, Bool.and_eq_true, Bool.not_eq_true'] at st
      have e := e_callK (pos := p) (p := np) m4 m5 o.room o.tk (o.gl h2) m2 m3 m6 q qk z1 z2 z3 (okN_of h3).1 (star_ok st.1) (star_any st2)
      rw [z4] at e
      exact SE.of e rfl rfl rfl fun _ => rfl
  | .eqd a b, t, Γ, x, X, W, o, h => by
    cases x <;> first | exact ff h | skip
    rename_i a' os bs p
    obtain _ | ⟨o', _ | ⟨_, _⟩⟩ := os
    · exact ff h
    rotate_left
    · cases o' <;> exact ff h
    obtain _ | ⟨b', _ | ⟨_, _⟩⟩ := bs
    · cases o' <;> exact ff h
    rotate_left
    · cases o' <;> exact ff h
    cases o' <;> first | exact ff h | skip
    have h : (chk D.P a false Γ a' && chk D.P b false Γ b' && !isSet b') = true := h
    simp only [Bool.and_eq_true, Bool.not_eq_true'] at h
    obtain ⟨⟨h2, h3⟩, h4⟩ := h
    have r1 := op_eqK (X := X) o.hu
    have r2 := s_eqd (T := T) (K := X.K)
    have q1 := (sE a o h2).1 rfl
    have q2 := (sE b o h3).1 rfl
    exact ⟨fun _ => e_cmp r1 r2 (mark_ok h4) q1 q2, fun _ => ⟨p_cmp r1 r2 (mark_ok h4) q1 q2, fun z => ff z⟩⟩
  | .make c as, t, Γ, x, X, W, o, h => by
    cases x <;> first | exact ff h | skip
    rename_i fn as' kws p
    cases kws with
    | cons _ _ => cases fn <;> exact ff h
    | nil =>
      cases fn <;> first | exact ff h | skip
      rename_i n np
      have h : ((match D.P.clss[c]? with | some cd => decide (n = cd.name) | none => false) && glB Γ.sc n && okN n && chkL D.P as Γ as') = true := h
      simp only [Bool.and_eq_true] at h
      obtain ⟨⟨⟨h1, h2⟩, h3⟩, h4⟩ := h
      cases e : D.P.clss[c]? with
      | none => rw [e] at h1; exact ff h1
      | some cd =>
        rw [e] at h1
        cases of_decide_eq_true h1
        obtain ⟨m1, fd, a, fdat, m2, m3, m4⟩ := o.mkc c cd e
        have F := fnAt_dv (n := as.len + 1) o m2 m4
        have q := sL as o h4
        have st := chkL_stars h4
        have c1 : (ev D (.make c as)).1 = cMake (D.call1 cd.init) c (D.P.dv cd.init (as.len + 1)) (evL D as) := by
          show (match D.P.clss[c]? with | some cd => cMake (D.call1 cd.init) c (D.P.dv cd.init (as.len + 1)) (evL D as) | none => fun _ _ => .bad) = _
          rw [e]
        have c2 : (ev D (.make c as)).2 = cTru (cMake (D.call1 cd.init) c (D.P.dv cd.init (as.len + 1)) (evL D as)) := by
          show cTru (match D.P.clss[c]? with | some cd => cMake (D.call1 cd.init) c (D.P.dv cd.init (as.len + 1)) (evL D as) | none => fun _ _ => .bad) = _
          rw [e]
        cases as' with
        | nil =>
          cases as with
          | cons _ _ => exact ff h4
          | nil => exact SE.of (e_make0 m3 F o.room o.tk (o.gl h2) m1 (okN_of h3).1) c1 c2 rfl fun _ => rfl
        | cons y ys =>
          unfold noStars at st
          rw [List.all_cons, Bool.and_eq_true, Bool.not_eq_true'] at st
          exact SE.of (e_make m3 F o.room o.tk (o.gl h2) m1 q (okN_of h3).1 (star_ok st.1) (star_any st.2)) c1 c2 rfl fun _ => rfl
  | .meO m ob as, t, Γ, x, X, W, o, h => by
    cases x <;> first | exact ff h | skip
    rename_i fn as' kws p
    cases kws with
    | cons _ _ => cases fn <;> exact ff h
    | nil =>
      cases fn <;> first | exact ff h | skip
      rename_i o' n ap
      have h : ((match D.P.atts[m]? with | some y => decide (n = y) | none => false) && decide (as'.length < 25) && (ap.endLine == p.line) && !isZCall o' && chk D.P ob false Γ o' && chkL D.P as Γ as') = true := h
      simp only [Bool.and_eq_true, Bool.not_eq_true', decide_eq_true_eq] at h
      obtain ⟨⟨⟨⟨⟨h1, h2⟩, h3⟩, h4⟩, h5⟩, h6⟩ := h
      cases e : D.P.atts[m]? with
      | none => rw [e] at h1; exact ff h1
      | some y =>
        rw [e] at h1
        cases of_decide_eq_true h1
        have ea := o.att m _ e
        subst ea
        have q := sL as o h6
        have st := chkL_stars h6
        refine SE.of (e_meO (dv := D.P.dv) (as.len + 1) o.room o.tk (fun c f hf => ?_) ((sE ob o h5).1 rfl) (base_ok h4) h3 q (few_ok st h2) (fun e r z => ?_) (fun z => ?_)) rfl rfl rfl fun _ => rfl
        · obtain ⟨a, fd, b, c2, d, e1, g⟩ := o.mt c m f hf
          exact ⟨a, b, c2, fd.ps, e1, fnAt_dv o d g⟩
        · subst z
          unfold noStars at st
          rw [List.all_cons, Bool.and_eq_true, Bool.not_eq_true'] at st
          exact ⟨star_ok st.1, star_any st.2⟩
        · subst z
          cases as with
          | nil => exact fun _ _ => rfl
          | cons _ _ => exact ff h6
  | .bi b as, t, Γ, x, X, W, o, h => by
    cases x <;> first | exact ff h | skip
    rename_i fn as' kws p
    cases kws with
    | cons _ _ => cases fn <;> exact ff h
    | nil =>
      cases fn <;> first | exact ff h | skip
      rename_i n np
      have h : (decide (n = b.name) && bltB D.P b && glB Γ.sc n && !as'.isEmpty && chkL D.P as Γ as') = true := h
      simp only [Bool.and_eq_true, Bool.not_eq_true', decide_eq_true_eq] at h
      obtain ⟨⟨⟨⟨h1, h2⟩, h3⟩, h4⟩, h5⟩ := h
      subst h1
      cases as' with
      | nil => cases h4
      | cons y ys =>
        have st := chkL_stars h5
        unfold noStars at st
        rw [List.all_cons, Bool.and_eq_true, Bool.not_eq_true'] at st
        exact SE.of (e_bi b o.calm (o.gl h3) (o.blt b (of_decide_eq_true h2)) (sL as o h5) (star_ok st.1) (star_any st.2)) rfl rfl rfl fun _ => rfl
  | .isi c a, t, Γ, x, X, W, o, h => by
    cases x <;> first | exact ff h | skip
    rename_i fn as' kws p
    cases kws with
    | cons _ _ =>
      cases fn <;> first | exact ff h | skip
      obtain _ | ⟨a', _ | ⟨y', _ | ⟨_, _⟩⟩⟩ := as' <;> first | exact ff h | (cases y' <;> exact ff h)
    | nil =>
      cases fn <;> first | exact ff h | skip
      rename_i n np
      obtain _ | ⟨a', _ | ⟨y', _ | ⟨_, _⟩⟩⟩ := as' <;> first | exact ff h | (cases y' <;> exact ff h) | skip
      cases y' <;> first | exact ff h | skip
      rename_i y yp
      have h : (decide (n = ("isinstance" : Str)) && decide (y = c.name) && decide (c.ty ≠ "NoneType") && decide (("isinstance" : Str) ∈ D.P.blt) && decide (c.name ∈ D.P.blt) && glB Γ.sc n && glB Γ.sc y && !isStar a' && chk D.P a false Γ a') = true := h
      simp only [Bool.and_eq_true, Bool.not_eq_true', decide_eq_true_eq] at h
      obtain ⟨⟨⟨⟨⟨⟨⟨⟨h1, h2⟩, h3⟩, h4⟩, h5⟩, h6⟩, h7⟩, h8⟩, h9⟩ := h
      subst h1; subst h2
      have hc : c.name ≠ ("gcd" : Str) := by cases c <;> decide +kernel
      refine SE.of (e_isi c (fun z => h3 (by rw [z]; rfl)) (o.gl h6) (o.bltO _ h4 (by decide +kernel)) (o.gl h7) (o.bltO _ h5 hc) ((sE a o h9).1 rfl) (star_ok h8)) rfl rfl rfl fun _ => rfl
  | .meth m ob as, t, Γ, x, X, W, o, h => by
    cases x <;> first | exact ff h | skip
    rename_i fn as' kws p
    cases kws with
    | cons _ _ => cases fn <;> exact ff h
    | nil =>
      cases fn <;> first | exact ff h | skip
      rename_i o' n ap
      have h : (decide (n = m.name) && decide (as'.length < 25) && (ap.endLine == p.line) && !isZCall o' && chk D.P ob false Γ o' && chkL D.P as Γ as') = true := h
      simp only [Bool.and_eq_true, Bool.not_eq_true', decide_eq_true_eq] at h
      obtain ⟨⟨⟨⟨⟨h1, h2⟩, h3⟩, h4⟩, h5⟩, h6⟩ := h
      subst h1
      have st := chkL_stars h6
      have hu : X.A.units + 1 < cLine := by have := o.hu; omega
      cases as' with
      | nil =>
        cases as with
        | cons _ _ => exact ff h6
        | nil => exact SE.of (e_meth0 m hu ((sE ob o h5).1 rfl) (base_ok h4) h3) rfl rfl rfl fun _ => rfl
      | cons y ys =>
        have fw := few_ok2 (pos := p) (env := X.env) st h2
        unfold noStars at st
        rw [List.all_cons, Bool.and_eq_true, Bool.not_eq_true'] at st
        exact SE.of (e_meth m hu ((sE ob o h5).1 rfl) (sL as o h6) (base_ok h4) fw h3 (star_ok st.1) (star_any st.2)) rfl rfl rfl fun _ => rfl
  | .bitl a, t, Γ, x, X, W, o, h => by
    cases x <;> first | exact ff h | skip
    rename_i fn as' kws p
    cases fn <;> first | exact ff h | skip
    cases as' with
    | cons _ _ => exact ff h
    | nil =>
      cases kws with
      | cons _ _ => exact ff h
      | nil =>
        rename_i o' n ap
        have h : (decide (n = ("bit_length" : Str)) && (ap.endLine == p.line) && !isZCall o' && chk D.P a false Γ o') = true := h
        simp only [Bool.and_eq_true, Bool.not_eq_true', decide_eq_true_eq] at h
        obtain ⟨⟨⟨h1, h2⟩, h3⟩, h4⟩ := h
        subst h1
        exact SE.of (e_bits ((sE a o h4).1 rfl) (base_ok h3) h2) rfl rfl rfl fun _ => rfl
  | .attr n ob, t, Γ, x, X, W, o, h => by
    cases x <;> first | exact ff h | skip
    rename_i o' y p
    have h : ((match D.P.atts[n]? with | some z => decide (y = z) | none => false) && !isZCall o' && chk D.P ob false Γ o') = true := h
    simp only [Bool.and_eq_true, Bool.not_eq_true'] at h
    obtain ⟨⟨h1, h2⟩, h3⟩ := h
    cases e : D.P.atts[n]? with
    | none => rw [e] at h1; exact ff h1
    | some z =>
      rw [e] at h1
      cases of_decide_eq_true h1
      have ea := o.att n _ e
      subst ea
      exact SE.of (e_attr o.aok ((sE ob o h3).1 rfl) (base_ok h2)) rfl rfl rfl fun _ => rfl
  | .tup es, t, Γ, x, X, W, o, h => by
    cases x <;> first | exact ff h | skip
    exact SE.of (e_tup (sL es o h)) rfl rfl rfl fun _ => rfl
  | .lst es, t, Γ, x, X, W, o, h => by
    cases x <;> first | exact ff h | skip
    exact SE.of (e_lst (sL es o h)) rfl rfl rfl fun _ => rfl
  | .dict, t, Γ, x, X, W, o, h => by
    cases x <;> first | exact ff h | skip
    rename_i ks vs p
    cases ks <;> first | exact ff h | skip
    cases vs <;> first | exact ff h | skip
    have h : (!t) = true := h
    rw [Bool.not_eq_true'] at h
    exact ⟨fun _ => e_new _ (.inl rfl), fun z => by rw [h] at z; cases z⟩
  | .dictT, t, Γ, x, X, W, o, h => by
    cases x <;> first | exact ff h | skip
    rename_i ks vs p
    cases ks <;> first | exact ff h | skip
    cases vs <;> first | exact ff h | skip
    have h : (!t) = true := h
    rw [Bool.not_eq_true'] at h
    exact ⟨fun _ => e_new _ (.inr rfl), fun z => by rw [h] at z; cases z⟩
  | .ix a i, t, Γ, x, X, W, o, h => by
    cases x <;> first | exact ff h | skip
    rename_i a' i' p
    have h : (chk D.P a false Γ a' && chk D.P i false Γ i' && !isSlice i') = true := by
      cases i' <;> first | exact h | exact ff h
    simp only [Bool.and_eq_true, Bool.not_eq_true'] at h
    obtain ⟨⟨h1, h2⟩, h3⟩ := h
    exact SE.of (e_ix (ix_X (by have := o.hu; omega)) s_ix (ix_ok h3) ((sE a o h1).1 rfl) ((sE i o h2).1 rfl)) rfl rfl rfl fun _ => rfl
  | .sl a lo hi, t, Γ, x, X, W, o, h => by
    cases x <;> first | exact ff h | skip
    rename_i a' i' p
    cases i' <;> first | exact ff h | skip
    rename_i lo' hi' st' p2
    cases st' with
    | some _ => exact ff h
    | none =>
      have h : (chk D.P a false Γ a' && chkO D.P lo Γ lo' && chkO D.P hi Γ hi') = true := h
      simp only [Bool.and_eq_true] at h
      obtain ⟨⟨h1, h2⟩, h3⟩ := h
      exact SE.of (e_sl sl_X s_sl ((sE a o h1).1 rfl) (sO lo o h2) (sO hi o h3)) rfl rfl rfl fun _ => rfl
  | .lc ik ia tg vs c e, t, Γ, x, X, W, o, h => by
    cases x <;> first | exact ff h | skip
    rename_i e' gs scope p
    obtain _ | ⟨⟨tg', it, ifs, asy⟩, _ | ⟨_, _⟩⟩ := gs <;> first | exact ff h | skip
    have h : (decide (asy = 0) && chkI D.P ik ia Γ it && !isSet it && blkC Γ.N Γ.sc scope (ownOf Γ.N vs) && decide (vs.length = (ownOf Γ.N vs).length) && tg.slots.all (fun i => decide (i ∈ vs)) && tgB (Γ.blk scope) tg tg' &&
      chkC D.P c (Γ.blk scope) ifs && chk D.P e false (Γ.blk scope) e') = true := h
    simp only [Bool.and_eq_true, Bool.not_eq_true', decide_eq_true_eq, List.all_eq_true] at h
    obtain ⟨⟨⟨⟨⟨⟨⟨⟨h0, h1⟩, h2⟩, h3⟩, h4⟩, h5⟩, h6⟩, h7⟩, h8⟩ := h
    subst h0
    have hv := ownOf_snd h4
    have hb := blkOk_by h3
    have q : PE X (.ListComp e' [⟨tg', it, ifs, 0⟩] scope p) (tE T X.K W (cLc D.m (cIk ik (evL D ia)) tg ((ownOf Γ.N vs).map (·.2)) (evC D c) (ev D e).1)) :=
        e_lc D.m o.calm o.nd (sI ik ia o h1) (by rw [o.N, o.sc]; exact hb) (by rw [hv]; exact h5)
          (fun s H C cl fp => tgB_ok (o.blk scope hb.kind s H C cl fp) h6)
          (fun s H C cl fp => sC c (o.blk scope hb.kind s H C cl fp) h7)
          (fun s H C cl fp => (sE e (o.blk scope hb.kind s H C cl fp) h8).1 rfl) (setI_ok h2)
    rw [hv] at q
    exact SE.of q rfl rfl rfl fun _ => rfl
theorem sL : ∀ (as : EL) {Γ : Ck} {es : List Expr} {X : Cx} {W : WX}, OkX T D k Γ X W → chkL D.P as Γ es = true → PA X es (tA T X.K W (evL D as))
  | .nil, Γ, es, X, W, o, h => by
    cases es with
    | nil => exact a_nil
    | cons _ _ => exact ff h
  | .cons e r, Γ, es, X, W, o, h => by
    cases es with
    | nil => exact ff h
    | cons x xs =>
      have h : (chk D.P e false Γ x && !isStar x && chkL D.P r Γ xs) = true := h
      simp only [Bool.and_eq_true, Bool.not_eq_true'] at h
      obtain ⟨⟨h1, h2⟩, h3⟩ := h
      exact a_cons ((sE e o h1).1 rfl) (sL r o h3) (star_ok h2)
theorem sK : ∀ (as : EL) {Γ : Ck} {es : List Keyword} {X : Cx} {W : WX}, OkX T D k Γ X W → chkK D.P as Γ es = true → PK X es (tA T X.K W (evL D as))
  | .nil, Γ, es, X, W, o, h => by
    cases es with
    | nil => exact k_nil
    | cons _ _ => exact ff h
  | .cons e r, Γ, es, X, W, o, h => by
    cases es with
    | nil => exact ff h
    | cons x xs =>
      obtain ⟨nm, x, kp⟩ := x
      cases nm with
      | none => exact ff h
      | some nm =>
        have h : (chk D.P e false Γ x && chkK D.P r Γ xs) = true := h
        simp only [Bool.and_eq_true] at h
        exact k_cons ((sE e o h.1).1 rfl) (sK r o h.2)
theorem sO : ∀ (as : EL) {Γ : Ck} {x : Option Expr} {X : Cx} {W : WX}, OkX T D k Γ X W → chkO D.P as Γ x = true → PO X x (tO T X.K W (evO D as))
  | .nil, Γ, x, X, W, o, h => by
    cases x with
    | none => exact o_none
    | some _ => exact ff h
  | .cons e r, Γ, x, X, W, o, h => by
    cases x with
    | none => exact ff h
    | some x => exact o_some ((sE e o h).1 rfl)
theorem sC : ∀ (as : EL) {Γ : Ck} {es : List Expr} {X : Cx} {W : WX}, OkX T D k Γ X W → chkC D.P as Γ es = true → PTs X es (tT T X.K W (evC D as))
  | .nil, Γ, es, X, W, o, h => by
    cases es with
    | nil => exact t_nil
    | cons _ _ => exact ff h
  | .cons e r, Γ, es, X, W, o, h => by
    obtain _ | ⟨x, _ | ⟨_, _⟩⟩ := es <;> first | exact ff h | skip
    exact pts_one ((sE e o h).2 rfl).1
theorem sI : ∀ (ik : IK) (as : EL) {Γ : Ck} {x tg : Expr} {X : Cx} {W : WX}, OkX T D k Γ X W → chkI D.P ik as Γ x = true → PI X tg x (tI T X.K W (cIk ik (evL D as)))
  | .val, .nil, Γ, x, tg, X, W, o, h => ff h
  | .val, .cons e (.cons _ _), Γ, x, tg, X, W, o, h => ff h
  | .val, .cons e .nil, Γ, x, tg, X, W, o, h => by
    have q := i_val (tg := tg) ((sE e o h).1 rfl)
    have : cIk .val (evL D (.cons e .nil)) = cIt (ev D e).1 := by
      funext en h1
      show (((ev D e).1 en h1).bind fun x h1 => (R.ok [] h1).bind fun xs h2 => .ok (x :: xs) h2).bind _ = ((ev D e).1 en h1).bind _
      cases (ev D e).1 en h1 <;> rfl
    rw [this]; exact q
  | .r1, .nil, Γ, x, tg, X, W, o, h => by cases x <;> exact ff h
  | .r1, .cons a (.cons _ _), Γ, x, tg, X, W, o, h => by cases x <;> exact ff h
  | .r1, .cons a .nil, Γ, x, tg, X, W, o, h => by
    cases x <;> first | exact ff h | skip
    rename_i fn as' kws p
    cases kws with
    | cons _ _ =>
      cases fn <;> first | exact ff h | skip
      obtain _ | ⟨a', _ | ⟨_, _⟩⟩ := as' <;> exact ff h
    | nil =>
      cases fn <;> first | exact ff h | skip
      rename_i n np
      obtain _ | ⟨a', _ | ⟨_, _⟩⟩ := as' <;> first | exact ff h | skip
      have h : (decide (n = ("range" : Str)) && decide (("range" : Str) ∈ D.P.blt) && glB Γ.sc n && !isStar a' && chk D.P a false Γ a') = true := h
      simp only [Bool.and_eq_true, Bool.not_eq_true', decide_eq_true_eq] at h
      obtain ⟨⟨⟨⟨h1, h2⟩, h3⟩, h4⟩, h5⟩ := h
      subst h1
      exact i_r1 (o.gl h3) (o.bltO _ h2 (by decide +kernel)) (a_cons ((sE a o h5).1 rfl) a_nil (star_ok h4)) (by rw [star_ok h4]; rfl)
  | .r2, .nil, Γ, x, tg, X, W, o, h => by cases x <;> exact ff h
  | .r2, .cons a .nil, Γ, x, tg, X, W, o, h => by cases x <;> exact ff h
  | .r2, .cons a (.cons b (.cons _ _)), Γ, x, tg, X, W, o, h => by cases x <;> exact ff h
  | .r2, .cons a (.cons b .nil), Γ, x, tg, X, W, o, h => by
    cases x <;> first | exact ff h | skip
    rename_i fn as' kws p
    cases kws with
    | cons _ _ =>
      cases fn <;> first | exact ff h | skip
      obtain _ | ⟨a', _ | ⟨b', _ | ⟨_, _⟩⟩⟩ := as' <;> exact ff h
    | nil =>
      cases fn <;> first | exact ff h | skip
      rename_i n np
      obtain _ | ⟨a', _ | ⟨b', _ | ⟨_, _⟩⟩⟩ := as' <;> first | exact ff h | skip
      have h : (decide (n = ("range" : Str)) && decide (("range" : Str) ∈ D.P.blt) && glB Γ.sc n && !isStar a' && !isStar b' && chk D.P a false Γ a' && chk D.P b false Γ b') = true := h
      simp only [Bool.and_eq_true, Bool.not_eq_true', decide_eq_true_eq] at h
      obtain ⟨⟨⟨⟨⟨⟨h1, h2⟩, h3⟩, h4⟩, h5⟩, h6⟩, h7⟩ := h
      subst h1
      exact i_r2 (o.gl h3) (o.bltO _ h2 (by decide +kernel)) (a_cons ((sE a o h6).1 rfl) (a_cons ((sE b o h7).1 rfl) a_nil (star_ok h5)) (star_ok h4)) (by rw [star_ok h4, star_ok h5]; rfl) (by rw [star_ok h5]; rfl)
end
end
end RS

set_option Elab.async false
set_option linter.all false
set_option maxRecDepth 100000
set_option maxHeartbeats 4000000
set_option autoImplicit false
namespace RS
open PySem PySem.Spec PyProof.Rows L2

/-! ### that a statement is the text -/
def isName : Expr → Bool | .Name .. => true | _ => false
def notBoth : List Expr → List Expr → Bool
  | ts, vs => !(ts.length == 2 || ts.length == 3) || vs.length != ts.length || vs.any isStar || ts.any (fun t => !isName t) || vs.all (foldedForSure 8)
/-- no swapped stores -/
def noSw : Expr → Expr → Bool
  | .Subscript .., _ => true
  | .Attribute .., _ => true
  | .Name .., _ => true
  | .Tuple ts _ _, .Tuple vs _ _ => notBoth ts vs
  | .Tuple .., e => !isTuple e
  | _, _ => false
theorem filterMap_lt {α β : Type} {f : α → Option β} {p : α → Bool} (hp : ∀ a, p a = true → f a = none) : ∀ {l : List α}, l.any p = true → (l.filterMap f).length < l.length
  | [], h => ff h
  | a :: l, h => by
    rw [List.any_cons, Bool.or_eq_true] at h
    have hl : (l.filterMap f).length ≤ l.length := List.length_filterMap_le _ _
    cases e : f a with
    | none => rw [List.filterMap_cons, e]; show (l.filterMap f).length < l.length + 1; omega
    | some b =>
      have h2 : l.any p = true := by
        rcases h with h | h
        · rw [hp a h] at e; cases e
        · exact h
      rw [List.filterMap_cons, e]
      show (l.filterMap f).length + 1 < l.length + 1
      have := filterMap_lt hp h2
      omega
theorem any_star (vs : List Expr) : (vs.any fun | .Starred .. => true | _ => false) = vs.any isStar := by
  induction vs with
  | nil => rfl
  | cons e es ih =>
    rw [List.any_cons, List.any_cons, ih]
    congr 1
theorem notBoth_ok {ts vs : List Expr} {k k2 : Nat} {p p2 : Pos} {env : Env} (h : notBoth ts vs = true) : swappedStores [.Tuple ts k p] (.Tuple vs k2 p2) env = pure none := by
  unfold notBoth at h
  simp only [Bool.or_eq_true] at h
  unfold swappedStores
  simp only [any_star]
  split
  · rfl
  · rename_i c1
    simp only [Bool.or_eq_true, not_or] at c1
    obtain ⟨⟨c1, c2⟩, c3⟩ := c1
    split
    · rfl
    · rename_i c4
      split
      · rfl
      · rename_i c5
        split
        · rfl
        · rename_i c6
          exfalso
          rcases h with (((h | h) | h) | h) | h
          · exact c1 (by simpa using h)
          · exact c2 (by simpa using h)
          · exact c4 h
          · refine c5 ?_
            rw [Bool.or_eq_true]
            refine .inl ?_
            rw [bne_iff_ne]
            refine Nat.ne_of_lt (filterMap_lt (p := fun t => !isName t) (fun a ha => ?_) h)
            cases a <;> first | rfl | cases ha
          · exact c6 h
theorem noSw_ok {t e : Expr} {env : Env} (h : noSw t e = true) : swappedStores [t] e env = pure none := by
  cases t <;> first | exact ff h | rfl | skip
  cases e <;> first | exact notBoth_ok h | exact ff h | rfl
def parB (Γ : Ck) (x y : Str) (px py : Pos) (a b : Expr) : Bool := locB Γ.sc x && locB Γ.sc y && !(x == y) && (py.line == px.line) && !isStar a && !isStar b && !([a, b].all (foldedForSure 8)) && !([a, b].all (constantsAlone 8))
def cellB (sc : Scope) (x : Str) : Bool := match sc.names.lookup x with
  | some .cell => true
  | _ => false
def swB (Γ : Ck) (y : Str) (py : Pos) : Expr → Bool
  | .ListComp _ _ scope p => locB Γ.sc y && (py.line == p.line) && !(scope.names.any fun (n, k) => n == y && (k == .local || k == .cell))
  | _ => false
mutual
def chkG (P : Pg) : G → Ck → Expr → Bool
  | .nm i, Γ, .Name x _ => decide (Γ.N[i]? = some x) && stB Γ.st x
  | .tup gs, Γ, .Tuple es _ _ => chkGs P gs Γ es
  | .sub o i, Γ, .Subscript o' i' _ => chk P o false Γ o' && chk P i false Γ i' && !isSlice i'
  | _, _, _ => false
def chkGs (P : Pg) : GL → Ck → List Expr → Bool
  | .nil, _, [] => true
  | .cons g r, Γ, e :: es => !isStar e && chkG P g Γ e && chkGs P r Γ es
  | _, _, _ => false
end
def chkXG (P : Pg) : List Nat → Ck → List Expr → Bool
  | [], _, [] => true
  | g :: gs, Γ, .Name y _ :: es => decide (P.xg[g]? = some y) && glB Γ.sc y && okN y && chkXG P gs Γ es
  | _, _, _ => false
def varX (Γ : Ck) (n : Option Nat) (e : Str) : Bool := match n with
  | some i => decide (Γ.N[i]? = some e) && locB Γ.sc e && okN e
  | none => false
def chkXE (P : Pg) (n : Option Nat) : XE → Ck → Expr → Bool
  | .bl b, _, .Constant (.bool c) _ _ => decide (b = c)
  | .isI g, Γ, .Call (.Name f _) [.Name e _, .Name y _] [] _ => decide (f = ("isinstance" : Str)) && decide (("isinstance" : Str) ∈ P.blt) && glB Γ.sc f && varX Γ n e && decide (P.xg[g]? = some y) && glB Γ.sc y && okN y
  | .isT gs, Γ, .Call (.Name f _) [.Name e _, .Tuple es _ _] [] _ => decide (f = ("isinstance" : Str)) && decide (("isinstance" : Str) ∈ P.blt) && glB Γ.sc f && varX Γ n e && decide (es.length ≤ 1000) && chkXG P gs Γ es
  | .and a b, Γ, .BoolOp .And [a', b'] _ => chkXE P n a Γ a' && chkXE P n b Γ b'
  | _, _, _ => false
def isCallE : Expr → Bool | .Call .. => true | _ => false
def chkX (P : Pg) (n : Option Nat) : Sui → Ck → List Stmt → Bool
  | .ret e, Γ, [.Return (some e') _] => chkXE P n e Γ e'
  | .ite t a r, Γ, .If t' sa [] _ :: rest => isCallE t' && chkXE P n t Γ t' && chkX P n a Γ sa && chkX P n r Γ rest
  | _, _, _ => false
mutual
def chkS (P : Pg) : S → Ck → Stmt → Bool
  | .skip, _, .Pass _ => true
  | .ret e, Γ, .Return (some e') _ => chk P e false Γ e'
  | .retN, _, .Return none _ => true
  | .expr e, Γ, .Expr e' _ => chk P e false Γ e' && !isComp e'
  | .ite t a b, Γ, .If t' sa sb _ => chk P t true Γ t' && chkB P a Γ sa && chkB P b Γ sb
  | .brk, _, .Break _ => true
  | .cont, _, .Continue _ => true
  | .bad, _, _ => true
  | .set i e, Γ, .Assign [.Name y py] e' _ => decide (Γ.N[i]? = some y) && stB Γ.st y && chk P e false Γ e' && (!isComp e' || swB Γ y py e' || cellB Γ.sc y)
  | .setT g e, Γ, .Assign [t] e' _ => chkG P g Γ t && chk P e false Γ e' && !isComp e' && noSw t e'
  | .par i j as, Γ, .Assign [.Tuple [.Name x px, .Name y py] _ _] (.Tuple [a, b] _ _) _ => decide (Γ.N[i]? = some x) && decide (Γ.N[j]? = some y) && decide (i ≠ j) && parB Γ x y px py a b && chkL P as Γ [a, b]
  | .aug i o e, Γ, .AugAssign (.Name x _) o' e' _ => decide (o = o') && decide (Γ.N[i]? = some x) && stB Γ.st x && chk P e false Γ e'
  | .sattr n o e, Γ, .Assign [.Attribute o' y _] e' _ => (match P.atts[n]? with | some z => decide (y = z) | none => false) && chk P o false Γ o' && chk P e false Γ e' && !isComp e'
  | .aattr n o op e, Γ, .AugAssign (.Attribute o' y _) op' e' _ => (match P.atts[n]? with | some z => decide (y = z) | none => false) && decide (op = op') && chk P o false Γ o' && chk P e false Γ e'
  | .raise0 c, Γ, .Raise (some (.Call (.Name x _) [] [] _)) none _ => decide ((c, x) ∈ P.xr) && glB Γ.sc x && okN x
  | .tryO b g s, Γ, .Try body [.ExceptHandler (some (.Name x _)) none (b₀ :: suite) _] [] [] _ => decide (P.xg[g]? = some x) && glB Γ.sc x && okN x && chkB P b Γ body && chkX P none s Γ (b₀ :: suite)
  | .tryA b g i s, Γ, .Try body [.ExceptHandler (some (.Name x _)) (some n) (b₀ :: suite) _] [] [] _ => decide (P.xg[g]? = some x) && glB Γ.sc x && okN x && decide (Γ.N[i]? = some n) && locB Γ.sc n && chkB P b Γ body && chkX P (some i) s Γ (b₀ :: suite)
  | .whl t b, Γ, .While t' sb [] _ => chk P t true Γ t' && chkB P b Γ sb
  | .frl ik ia g b, Γ, .For g' it sb [] _ => chkI P ik ia Γ it && !isSet it && chkG P g Γ g' && chkB P b Γ sb
  | _, _, _ => false
def chkB (P : Pg) : S → Ck → List Stmt → Bool
  | .skip, _, [] => true
  | .seq a b, Γ, st :: rest => chkS P a Γ st && chkB P b Γ rest
  | _, _, _ => false
end
section
variable {T : Tb} {D : Dn} {k : Nat}
theorem locB_ok {sc : Scope} {x : Str} (h : locB sc x = true) : sc.names.lookup x = some .local := by
  unfold locB at h
  split at h
  · assumption
  · exact ff h
theorem sw_cell {e : Expr} {y : Str} {py : Pos} {l : Nat} {env : Env} (h : env.scope.names.lookup y = some .cell) : swapsWith e (some (.Name y py)) l env = pure false := by
  have ky : env.kindOf y = some .cell := h
  have kb : (env.kindOf y == some NameKind.local) = false := by rw [ky]; rfl
  unfold swapsWith
  split
  · dsimp only
    rw [kb, Bool.and_false, Bool.false_and, Bool.false_and]
  · rfl
theorem par_ok {X : Cx} {Γ : Ck} {W : WX} (o : OkX T D k Γ X W) {x y : Str} {px py p p2 : Pos} {kt k2 : Nat} {a b : Expr} (h : parB Γ x y px py a b = true) : swappedStores [.Tuple [.Name x px, .Name y py] kt p] (.Tuple [a, b] k2 p2) X.env = pure (some [x, y]) := by
  unfold parB at h
  simp only [Bool.and_eq_true, Bool.not_eq_true'] at h
  obtain ⟨⟨⟨⟨⟨⟨⟨h1, h2⟩, h3⟩, h4⟩, h5⟩, h6⟩, h7⟩, h8⟩ := h
  have kx : X.env.kindOf x = some .local := by show X.env.scope.names.lookup x = _; rw [o.sc]; exact locB_ok h1
  have ky : X.env.kindOf y = some .local := by show X.env.scope.names.lookup y = _; rw [o.sc]; exact locB_ok h2
  have hb : X.env.blockKind = .function := by unfold Env.blockKind; rw [o.kind]; rfl
  have e2 : ([x, y] : List Str).eraseDups = [x, y] := by
    have : (y == x) = false := by rw [← Bool.not_eq_true, beq_iff_eq] at h3 ⊢; exact fun z => h3 z.symm
    simp [List.eraseDups_cons, this]
  have ha : [a, b].any isStar = false := by simp [h5, h6]
  unfold swappedStores
  have : ((List.head? [Expr.Name x px, Expr.Name y py]).map (·.pos.line)).getD 0 = px.line := rfl
  simp only [hb, this, h7, h8, List.filterMap_cons, List.filterMap_nil, kx, ky, h4, beq_self_eq_true, Bool.and_self, if_true, e2]
  split
  · rename_i c; simp at c
  · split
    · rename_i c
      exfalso
      simp only [List.any_cons, List.any_nil, Bool.or_false, Bool.or_eq_true] at c
      rcases c with c | c
      · cases a <;> first | (cases h5; done) | (cases c; done)
      · cases b <;> first | (cases h6; done) | (cases c; done)
    · split
      · rename_i c; simp at c
      · rfl
mutual
theorem sG : ∀ (g : G) {Γ : Ck} {x : Expr} {X : Cx} {W : WX}, OkX T D k Γ X W → chkG D.P g Γ x = true → PG X x (tG T X.K W (evG D g))
  | .nm i, Γ, x, X, W, o, h => by
    cases x <;> first | exact ff h | skip
    rename_i y p
    have h : (decide (Γ.N[i]? = some y) && stB Γ.st y) = true := h
    simp only [Bool.and_eq_true, decide_eq_true_eq] at h
    obtain ⟨h3, h4⟩ := o.st y h.2
    exact g_name o.nd (by rw [o.N]; exact h.1) h3 h4
  | .tup gs, Γ, x, X, W, o, h => by
    cases x <;> first | exact ff h | skip
    rename_i es kk p
    obtain ⟨q1, q2, q3⟩ := sGs gs (W := W) o h
    exact g_tup o.calm q1 q2 q3
  | .sub ob i, Γ, x, X, W, o, h => by
    cases x <;> first | exact ff h | skip
    rename_i o' i' p
    have h : (chk D.P ob false Γ o' && chk D.P i false Γ i' && !isSlice i') = true := h
    simp only [Bool.and_eq_true, Bool.not_eq_true'] at h
    obtain ⟨⟨h1, h2⟩, h3⟩ := h
    refine g_sub (by have := o.hu; omega) ((sE ob o h1).1 rfl) ((sE i o h2).1 rfl) fun v => ?_
    cases i' <;> first | rfl | cases h3
theorem sGs : ∀ (gs : GL) {Γ : Ck} {es : List Expr} {X : Cx} {W : WX}, OkX T D k Γ X W → chkGs D.P gs Γ es = true → PGs X es (tGs T X.K W (evGL D gs)) ∧ (assignEach es X.env).length = gs.len ∧ (assignEach es X.env).findIdx? (·.1) = none
  | .nil, Γ, es, X, W, o, h => by
    cases es with
    | nil => exact ⟨gs_nil, rfl, rfl⟩
    | cons _ _ => exact ff h
  | .cons g r, Γ, es, X, W, o, h => by
    cases es with
    | nil => exact ff h
    | cons x xs =>
      have h : (!isStar x && chkG D.P g Γ x && chkGs D.P r Γ xs) = true := h
      simp only [Bool.and_eq_true, Bool.not_eq_true'] at h
      obtain ⟨⟨h1, h2⟩, h3⟩ := h
      obtain ⟨q1, q2, q3⟩ := sGs r (W := W) o h3
      have he : assignEach (x :: xs) X.env = (false, assign x X.env) :: assignEach xs X.env := by
        cases x <;> first | rfl | cases h1
      have o0 : OkX T D k Γ X (fun _ _ _ _ => False) := { o with tk := fun _ _ z => by obtain ⟨_, _, _, _, _, hh⟩ := z; exact absurd hh (by simp) }
      refine ⟨gs_cons (sG g o0 h2) q1 (by rw [he]; rfl), ?_, ?_⟩
      · rw [he]; show (assignEach xs X.env).length + 1 = _; rw [q2]; rfl
      · rw [he, List.findIdx?_cons, q3]; rfl
end
theorem lcInv {ik : IK} {ia : EL} {tg : CTg} {vs : List Nat} {c : EL} {e : E} {t : Bool} {Γ : Ck} {x : Expr} {X : Cx} {W : WX} (o : OkX T D k Γ X W) (h : chk D.P (.lc ik ia tg vs c e) t Γ x = true) : ∃ e' tg' it ifs scope p, x = .ListComp e' [⟨tg', it, ifs, 0⟩] scope p ∧ chkI D.P ik ia Γ it = true ∧ isSet it = false ∧ BlkOk X.N X.env.scope scope (ownOf Γ.N vs) ∧ (ownOf Γ.N vs).map (·.2) = vs ∧ (∀ i ∈ tg.slots, i ∈ vs) ∧
    (AllBlk X scope fun X' => TgOk X' tg tg') ∧ (AllBlk X scope fun X' => PTs X' ifs (tT T X.K W0 (evC D c))) ∧ (AllBlk X scope fun X' => PE X' e' (tE T X.K W0 (ev D e).1)) := by
  cases x <;> first | exact ff h | skip
  rename_i e' gs scope p
  obtain _ | ⟨⟨tg', it, ifs, asy⟩, _ | ⟨_, _⟩⟩ := gs <;> first | exact ff h | skip
  have h : (decide (asy = 0) && chkI D.P ik ia Γ it && !isSet it && blkC Γ.N Γ.sc scope (ownOf Γ.N vs) && decide (vs.length = (ownOf Γ.N vs).length) && tg.slots.all (fun i => decide (i ∈ vs)) && tgB (Γ.blk scope) tg tg' &&
    chkC D.P c (Γ.blk scope) ifs && chk D.P e false (Γ.blk scope) e') = true := h
  simp only [Bool.and_eq_true, Bool.not_eq_true', decide_eq_true_eq, List.all_eq_true] at h
  obtain ⟨⟨⟨⟨⟨⟨⟨⟨h0, h1⟩, h2⟩, h3⟩, h4⟩, h5⟩, h6⟩, h7⟩, h8⟩ := h
  subst h0
  have hv := ownOf_snd h4
  have hb := blkOk_by h3
  exact ⟨e', tg', it, ifs, scope, p, rfl, h1, h2, by rw [o.N, o.sc]; exact hb, hv, h5, fun s H C cl fp => tgB_ok (o.blk scope hb.kind s H C cl fp) h6,
    fun s H C cl fp => sC c (o.blk scope hb.kind s H C cl fp) h7, fun s H C cl fp => (sE e (o.blk scope hb.kind s H C cl fp) h8).1 rfl⟩
/-! ### exceptions -/
def Later (H H' : Hp) : Prop := ∀ p o, H p = some o → H' p = some o
theorem Later.le {K : PySem.W.Frag} {ρ : List Addr} {H H' : Hp} (l : Later H H') : Le K ρ H ρ H' := ⟨fun _ _ e => e, fun a xs e => l _ _ e⟩
theorem Sim.later {K : PySem.W.Frag} {ρ : List Addr} {h : Hm} {H H' : Hp} (S : Sim T K ρ h H) (l : Later H H') : Sim T K ρ h H' := by
  refine ⟨S.len, fun i o a e1 e2 => ?_, S.inj⟩
  have r := S.obj i o a e1 e2
  have le : Le K ρ H ρ H' := l.le
  cases o with
  | lst xs => obtain ⟨vs, q, e⟩ := r; exact ⟨vs, q.mono le, l _ _ e⟩
  | frz xs =>
    obtain ⟨vs, q, ⟨u, e⟩ | e⟩ := r
    · exact ⟨vs, q.mono le, .inl ⟨u, l _ _ e⟩⟩
    · exact ⟨vs, q.mono le, .inr e⟩
  | dK kvs => obtain ⟨vs, q, e⟩ := r; exact ⟨vs, q.mono le, l _ _ e⟩
  | dT kvs => obtain ⟨vs, q, e⟩ := r; exact ⟨vs, q.mono le, l _ _ e⟩
  | ins c fs => obtain ⟨dx, vs, q, e⟩ := r; exact ⟨dx, vs, q.mono le, l _ _ e⟩
def tX (n : Option Nat) (a : Addr) (ob : Option Bool) : TE := fun σ H Q => ∃ b, ob = some b ∧ (∀ i, n = some i → σ[i]? = some (some (.ref a))) ∧ ∀ H', Later H H' → Q (.bl b) H'
theorem ClsV.rel {c : V} {u : Value} (k : ClsV c u) : RelV c u := by cases k <;> rfl
theorem name_cls {X' : Cx} {y : Str} {p : Pos} {cv : Value} {cw : V} (hg : Gl X' y) (hd : (y == ("__debug__" : Str)) = false) (k : ClsV cw cv) (h : X'.mg y = some cv ∨ (X'.mg y = none ∧ bootBuiltins y = some cv ∧ y ≠ "__name__")) : PE X' (.Name y p) (tC cw) := by
  rcases h with h | ⟨h1, h2, h3⟩
  · exact pe_glob hg h (ClsV.rel k) hd
  · exact pe_bltn hg h1 h2 (ClsV.rel k) h3 hd
section
variable {X : Cx} {W : WX} {Γ : Ck} {n : Option Nat} {a : Addr} {oe : Obj} {pn : List (Addr × Obj)} {c0 : Nat}
theorem sXG (o : OkX T D k Γ X W) : ∀ (gs : List Nat) {es : List Expr}, chkXG D.P gs Γ es = true → ∃ cws cvs, Paired ClsV cws cvs ∧ cws.length = es.length ∧ noStars es = true ∧ PA (X.suite a ((a, oe) :: pn)) es (fun _ H Q => Q cws H) ∧ ∀ b, anyX (D.P.isx c0) gs = some b → PySem.W.kitAny X.K (.ref (T.cls c0)) cvs = some b
  | [], es, h => by
    cases es with
    | nil => exact ⟨[], [], .nil, rfl, rfl, pa_nil, fun b e => e⟩
    | cons _ _ => exact ff h
  | g :: gs, es, h => by
    cases es with
    | nil => exact ff h
    | cons x es =>
      cases x <;> first | exact ff h | skip
      rename_i y p
      have h : (decide (D.P.xg[g]? = some y) && glB Γ.sc y && okN y && chkXG D.P gs Γ es) = true := h
      simp only [Bool.and_eq_true, decide_eq_true_eq] at h
      obtain ⟨⟨⟨h1, h2⟩, h3⟩, h4⟩ := h
      obtain ⟨cws, cvs, q1, q2, q0, q3, q4⟩ := sXG o gs h4
      obtain ⟨cv, cw, k1, k2, k3⟩ := o.xg g y h1
      refine ⟨cw :: cws, cv :: cvs, .cons k1 q1, congrArg (· + 1) q2, ?_, pa_cons (X := X.suite a ((a, oe) :: pn)) (name_cls (o.gl h2) (okN_of h3).1 k1 k2) q3 rfl, fun b e => ?_⟩
      · unfold noStars at q0 ⊢
        rw [List.all_cons, q0]; rfl
      · unfold anyX at e
        show (match PySem.W.kitOne X.K (.ref (T.cls c0)) cv with
          | some true => some true
          | some false => PySem.W.kitAny X.K (.ref (T.cls c0)) cvs
          | none => none) = some b
        cases ei : D.P.isx c0 g with
        | none => rw [ei] at e; cases e
        | some v =>
          rw [ei] at e
          rw [(k3 c0 v ei).1]
          cases v with
          | true => exact e
          | false => exact q4 b e
theorem sXE (o : OkX T D k Γ X W) (C : ExcC X.K (T.cls c0)) (hz : Zc (.ref (T.cls c0)) none oe) (hf : ∃ vs, oe.data = .fields vs) : ∀ (e : XE) {x : Expr}, chkXE D.P n e Γ x = true → PE (X.suite a ((a, oe) :: pn)) x (tX n a (evXE (D.P.isx c0) e))
  | .bl b, x, h => by
    cases x <;> first | exact ff h | skip
    rename_i c j p
    cases c <;> first | exact ff h | skip
    rename_i z
    have h : decide (b = z) = true := h
    cases of_decide_eq_true h
    refine pe_bl.weak ?_
    rintro σ H Q ⟨b', e, _, q⟩
    cases e
    exact q H fun _ _ z => z
  | .isI g, x, h => by
    cases x <;> first | exact ff h | skip
    rename_i fn as' kws p
    cases fn <;> first | exact ff h | skip
    obtain _ | ⟨a', _ | ⟨y', _ | ⟨_, _⟩⟩⟩ := as' <;> first | exact ff h | (cases a' <;> exact ff h) | (cases a' <;> cases y' <;> exact ff h) | skip
    cases a' <;> first | exact ff h | skip
    cases y' <;> first | exact ff h | skip
    cases kws <;> first | exact ff h | skip
    rename_i f fp en ep y yp
    have h : (decide (f = ("isinstance" : Str)) && decide (("isinstance" : Str) ∈ D.P.blt) && glB Γ.sc f && varX Γ n en && decide (D.P.xg[g]? = some y) && glB Γ.sc y && okN y) = true := h
    simp only [Bool.and_eq_true, decide_eq_true_eq] at h
    obtain ⟨⟨⟨⟨⟨⟨h1, h2⟩, h3⟩, h4⟩, h5⟩, h6⟩, h7⟩ := h
    subst h1
    obtain ⟨cv, cw, k1, k2, k3⟩ := o.xg g y h5
    cases n with
    | none => exact ff h4
    | some i =>
      have h4 : (decide (Γ.N[i]? = some en) && locB Γ.sc en && okN en) = true := h4
      simp only [Bool.and_eq_true, decide_eq_true_eq] at h4
      have hv : Vis (X.suite a ((a, oe) :: pn)).env.scope en := .inl (by show X.env.scope.names.lookup en = _; rw [o.sc]; exact locB_ok h4.1.2)
      refine (pe_callB (call_isE C hz hf) (o.gl h3) (o.bltO _ h2 (by decide +kernel)) (by decide +kernel) (pa_cons (pe_var (i := i) (by show X.N[i]? = _; rw [o.N]; exact h4.1.1) hv (okN_of h4.2).1 (okN_of h4.2).2) (pa_cons (name_cls (o.gl h6) (okN_of h7).1 k1 k2) pa_nil rfl) rfl) (by decide) (by decide) rfl rfl).weak ?_
      rintro σ H Q ⟨b, e, hs, q⟩
      exact ⟨.ref a, hs i rfl, cw, cv, b, rfl, fun u r => k1.eq r, (k3 c0 b e).1, q H fun _ _ z => z⟩
  | .isT gs, x, h => by
    cases x <;> first | exact ff h | skip
    rename_i fn as' kws p
    cases fn <;> first | exact ff h | skip
    obtain _ | ⟨a', _ | ⟨y', _ | ⟨_, _⟩⟩⟩ := as' <;> first | exact ff h | (cases a' <;> exact ff h) | (cases a' <;> cases y' <;> exact ff h) | skip
    cases a' <;> first | exact ff h | skip
    cases y' <;> first | exact ff h | skip
    cases kws <;> first | exact ff h | skip
    rename_i f fp en ep es kk yp
    have h : (decide (f = ("isinstance" : Str)) && decide (("isinstance" : Str) ∈ D.P.blt) && glB Γ.sc f && varX Γ n en && decide (es.length ≤ 1000) && chkXG D.P gs Γ es) = true := h
    simp only [Bool.and_eq_true, decide_eq_true_eq] at h
    obtain ⟨⟨⟨⟨⟨h1, h2⟩, h3⟩, h4⟩, h5⟩, h6⟩ := h
    subst h1
    obtain ⟨cws, cvs, q1, q2, q0, q3, q4⟩ := sXG (c0 := c0) (a := a) (oe := oe) (pn := pn) o gs h6
    cases n with
    | none => exact ff h4
    | some i =>
      have h4 : (decide (Γ.N[i]? = some en) && locB Γ.sc en && okN en) = true := h4
      simp only [Bool.and_eq_true, decide_eq_true_eq] at h4
      have hv : Vis (X.suite a ((a, oe) :: pn)).env.scope en := .inl (by show X.env.scope.names.lookup en = _; rw [o.sc]; exact locB_ok h4.1.2)
      refine (pe_callB (call_isET C hz hf) (o.gl h3) (o.bltO _ h2 (by decide +kernel)) (by decide +kernel) (pa_cons (pe_var (i := i) (by show X.N[i]? = _; rw [o.N]; exact h4.1.1) hv (okN_of h4.2).1 (okN_of h4.2).2) (pa_cons (pe_tup q3) pa_nil rfl) rfl) (by decide) (by decide) rfl rfl).weak ?_
      rintro σ H Q ⟨b, e, hs, q⟩
      refine ⟨.ref a, hs i rfl, by rw [q2, sizeLine_eq]; omega, fun tp ht => ⟨tp, cws, cvs, b, rfl, upd_same, q1, q4 b e, q _ fun p' o' e' => ?_⟩⟩
      rw [upd_ne (ne_of_none e' ht)]; exact e'
  | .and e1 e2, x, h => by
    cases x <;> first | exact ff h | skip
    rename_i op vs p
    cases op <;> first | exact ff h | skip
    obtain _ | ⟨a', _ | ⟨b', _ | ⟨_, _⟩⟩⟩ := vs <;> first | exact ff h | skip
    have h : (chkXE D.P n e1 Γ a' && chkXE D.P n e2 Γ b') = true := h
    rw [Bool.and_eq_true] at h
    refine (pe_and (sXE o C hz hf e1 h.1) (pe_one (sXE o C hz hf e2 h.2))).weak ?_
    rintro σ H Q ⟨b, e, hs, q⟩
    unfold evXE at e
    cases ea : evXE (D.P.isx c0) e1 with
    | none => rw [ea] at e; cases e
    | some v =>
      rw [ea] at e
      refine ⟨v, rfl, hs, fun H' l => ⟨v, rfl, ?_⟩⟩
      cases v with
      | true => exact ⟨b, e, hs, fun H'' l2 => q H'' fun p o z => l2 _ _ (l _ _ z)⟩
      | false => cases e; exact q H' l
theorem sXS (o : OkX T D k Γ X W) (C : ExcC X.K (T.cls c0)) (hz : Zc (.ref (T.cls c0)) none oe) (hf : ∃ vs, oe.data = .fields vs) : ∀ (s : Sui) {ss : List Stmt}, chkX D.P n s Γ ss = true → PSs (X.suite a ((a, oe) :: pn)) ss (fun D' σ H => tX n a (evXS (D.P.isx c0) s) σ H D'.rt)
  | .ret e, ss, h => by
    obtain _ | ⟨st, _ | ⟨_, _⟩⟩ := ss <;> first | exact ff h | (cases st <;> first | exact ff h | (rename_i e' p; cases e' <;> exact ff h)) | skip
    cases st <;> first | exact ff h | skip
    rename_i e' p
    cases e' with
    | none => exact ff h
    | some e' => exact pss_one (ps_ret (sXE o C hz hf e h))
  | .ite t a1 r, ss, h => by
    obtain _ | ⟨st, rest⟩ := ss <;> first | exact ff h | skip
    cases st <;> first | exact ff h | skip
    rename_i t' sa sb p
    cases sb <;> first | exact ff h | skip
    have h : (isCallE t' && chkXE D.P n t Γ t' && chkX D.P n a1 Γ sa && chkX D.P n r Γ rest) = true := h
    simp only [Bool.and_eq_true] at h
    obtain ⟨⟨⟨h0, h1⟩, h2⟩, h3⟩ := h
    have pt : PT (X.suite a ((a, oe) :: pn)) t' (tB (tX n a (evXE (D.P.isx c0) t))) := pt_val (sXE o C hz hf t h1) (by cases t' <;> first | (intro _; rfl) | cases h0)
    refine (pss_cons (ps_if (pos := p) pt (sXS o C hz hf a1 h2) pss_nil) (sXS o C hz hf r h3)).weak ?_
    rintro D' σ H ⟨b, e, hs, q⟩
    unfold evXS at e
    cases ea : evXE (D.P.isx c0) t with
    | none => rw [ea] at e; cases e
    | some v =>
      rw [ea] at e
      refine ⟨v, rfl, hs, fun H' l => ⟨v, rfl, ?_⟩⟩
      cases v with
      | true => exact ⟨b, e, hs, fun H'' l2 => q H'' fun p o z => l2 _ _ (l _ _ z)⟩
      | false => exact ⟨b, e, hs, fun H'' l2 => q H'' fun p o z => l2 _ _ (l _ _ z)⟩
end
/-- what a body's place lets one do -/
structure BodyX (X : Cx) : Prop where
  pass : PassesOwn (model X.prog X.w) X.A X.env X.xe
  hs : X.stack = X.env :: X.outer
  hf : X.env.frame = some X.env.locals
theorem OkX.tr {X : Cx} {W W' : WX} {Γ : Ck} (o : OkX T D k Γ X W) {pn : List (Addr × Obj)} {xe : Value → Shared → Prop} (tk : Takes (X.tr pn xe) W') : OkX T D k Γ (X.tr pn xe) W' where
  N := o.N
  nd := o.nd
  sc := o.sc
  kind := o.kind
  st := o.st
  calm := o.calm
  room := o.room
  tk := tk
  glob := o.glob
  blt := o.blt
  bltO := o.bltO
  att := o.att
  aok := o.aok
  fn := fun f fd h => let ⟨a, b, c, d⟩ := o.fn f fd h; ⟨a, b, c, fun j hj => ⟨(d j hj).ok, (d j hj).len, (d j hj).bind⟩⟩
  mt := fun c m f h => let ⟨a, fd, b, c2, d, e, g⟩ := o.mt c m f h; ⟨a, fd, b, c2, d, e, fun j hj => ⟨(g j hj).ok, (g j hj).len, (g j hj).bind⟩⟩
  mkc := fun c cd h => let ⟨a, fd, b, c2, d, e, g⟩ := o.mkc c cd h; ⟨a, fd, b, c2, d, e, fun j hj => ⟨(g j hj).ok, (g j hj).len, (g j hj).bind⟩⟩
  xr := o.xr
  xg := o.xg
  xc := o.xc
  kw := o.kw
theorem names_of {X : Cx} {W : WX} {Γ : Ck} (o : OkX T D k Γ X W) {x : Str} {cv : Value} (hg : glB Γ.sc x = true) (hd : okN x = true) (h : X.mg x = some cv ∨ (X.mg x = none ∧ bootBuiltins x = some cv ∧ x ≠ "__name__")) : Names X x cv := ⟨o.gl hg, (okN_of hd).1, h⟩
/-- what a clause's suite promises, of the exception at a -/
def tsX (T : Tb) (P : Pg) (g : Nat) (n : Option Nat) (s : Sui) (a : Addr) (cls : Value) (d : Option Addr) : TS := fun D' σ H => ∃ c0, cls = .ref (T.cls c0) ∧ d = none ∧ P.isx c0 g = some true ∧ tX n a (evXS (P.isx c0) s) σ H D'.rt
theorem try_read {X : Cx} {W W' : WX} {cb : CS} {g : Nat} {oi : Option Nat} {s : Sui} {D' : Ends} {σ : L2.St} {H : Hp} (q : tS T X.K W (fun en h => sTry D.P.isx g oi s (cb en h)) D' σ H)
    (hw : ∀ c0 b d σ' H', D.P.isx c0 g = some b → (b = true → d = none → ∀ b', evXS (D.P.isx c0) s = some b' → (∀ i, oi = some i → i < σ'.length) → (∀ H'', Later H' H'' → D'.rt (.bl b') H'') → W' (.ref (T.cls c0)) d σ' H') ∧ (b = false → W (.ref (T.cls c0)) d σ' H' → W' (.ref (T.cls c0)) d σ' H')) : tS T X.K W' cb D' σ H := by
  obtain ⟨ρ, h, en, S, E, p⟩ := q
  refine ⟨ρ, h, en, S, E, ?_⟩
  have p : PostS T X.K W ρ H (sTry D.P.isx g oi s (cb en h)) D' := p
  cases q : cb en h with
  | nx en1 h1 => rw [q] at p; exact p
  | rt v h1 => rw [q] at p; exact p
  | bk en1 h1 => rw [q] at p; exact p
  | ct en1 h1 => rw [q] at p; exact p
  | bad => rw [q] at p; exact p
  | ex e en1 h1 =>
    rw [q] at p
    intro ρ' H' σ' d l S' E' x
    unfold sTry at p
    dsimp only at p
    cases ei : D.P.isx e.c g with
    | none => rw [ei] at p; exact p.elim
    | some b =>
      rw [ei] at p
      obtain ⟨w1, w2⟩ := hw e.c b d σ' H' ei
      cases b with
      | false => exact w2 rfl (p ρ' H' σ' d l S' E' x)
      | true =>
        dsimp only at p
        cases ex : e.x with
        | some _ => rw [ex] at p; exact p.elim
        | none =>
          rw [ex] at p
          have hd : d = none := by unfold XRel at x; rw [ex] at x; exact x
          cases ev : evXS (D.P.isx e.c) s with
          | none => rw [ev] at p; exact p.elim
          | some b' =>
            rw [ev] at p
            dsimp only at p
            by_cases hs : slotOk oi en1 = true
            · rw [if_pos hs] at p
              refine w1 rfl hd b' ev (fun i e => ?_) fun H'' l2 => p ρ' H'' (.bl b') (l.trans l2.le) (Sim.later S' l2) (.bl _)
              subst e
              have := of_decide_eq_true hs
              rw [E'.1] at this; exact this
            · rw [if_neg hs] at p; exact p.elim
mutual
theorem sS : ∀ (a : S) {Γ : Ck} {st : Stmt} {X : Cx} {W : WX}, OkX T D k Γ X W → BodyX X → chkS D.P a Γ st = true → PS X st (tS T X.K W (evS D a))
  | .skip, Γ, st, X, W, o, hp, h => by
    cases st <;> first | exact ff h | exact z_pass
  | .seq a b, Γ, st, X, W, o, hp, h => by
    cases st <;> exact ff h
  | .ret e, Γ, st, X, W, o, hp, h => by
    cases st <;> first | exact ff h | skip
    rename_i e' p
    cases e' with
    | none => exact ff h
    | some e' => exact z_ret ((sE e o h).1 rfl)
  | .retN, Γ, st, X, W, o, hp, h => by
    cases st <;> first | exact ff h | skip
    rename_i e' p
    cases e' with
    | none => exact z_retN
    | some e' => exact ff h
  | .expr e, Γ, st, X, W, o, hp, h => by
    cases st <;> first | exact ff h | skip
    rename_i e' p
    have h : (chk D.P e false Γ e' && !isComp e') = true := h
    simp only [Bool.and_eq_true, Bool.not_eq_true'] at h
    exact z_expr ((sE e o h.1).1 rfl) (swN h.2)
  | .ite t a b, Γ, st, X, W, o, hp, h => by
    cases st <;> first | exact ff h | skip
    rename_i t' sa sb p
    have h : (chk D.P t true Γ t' && chkB D.P a Γ sa && chkB D.P b Γ sb) = true := h
    simp only [Bool.and_eq_true] at h
    exact z_if ((sE t o h.1.1).2 rfl).1 (sB a o hp h.1.2) (sB b o hp h.2)
  | .brk, Γ, st, X, W, o, hp, h => by
    cases st <;> first | exact ff h | exact z_break
  | .cont, Γ, st, X, W, o, hp, h => by
    cases st <;> first | exact ff h | exact z_cont
  | .bad, Γ, st, X, W, o, hp, h => z_bad
  | .set i e, Γ, st, X, W, o, hp, h => by
    cases st <;> first | exact ff h | skip
    rename_i ts e' p
    obtain _ | ⟨t, ts⟩ := ts <;> first | exact ff h | skip
    cases t <;> first | exact ff h | skip
    rename_i y py
    cases ts <;> first | exact ff h | skip
    have h : (decide (Γ.N[i]? = some y) && stB Γ.st y && chk D.P e false Γ e' && (!isComp e' || swB Γ y py e' || cellB Γ.sc y)) = true := h
    simp only [Bool.and_eq_true, decide_eq_true_eq, Bool.or_eq_true, Bool.not_eq_true'] at h
    obtain ⟨⟨⟨h1, h2⟩, h3⟩, h4⟩ := h
    obtain ⟨h5, h6⟩ := o.st y h2
    rcases h4 with (h4 | h4) | h4
    · exact z_set o.nd (by rw [o.N]; exact h1) h5 ((sE e o h3).1 rfl) (swN h4) h6
    · cases e' <;> first | exact ff h4 | skip
      cases e <;> first | exact ff h3 | skip
      rename_i e' gs scope p2 ik ia tg vs c e
      obtain ⟨e2, tg', it, ifs, scope2, p3, q0, q1, q2, q3, q4, q5, q6, q7, q8⟩ := lcInv o h3
      cases q0
      have h4 : (locB Γ.sc y && (py.line == p2.line) && !(scope.names.any fun (n, k) => n == y && (k == .local || k == .cell))) = true := h4
      simp only [Bool.and_eq_true, Bool.not_eq_true'] at h4
      have hy : X.env.scope.names.lookup y = some .local := by rw [o.sc]; exact locB_ok h4.1.1
      have q := z_lc (spos := p) (py := py) D.m o.calm o.nd (by rw [o.N]; exact h1) hy (sw_true o.kind hy h4.1.2 h4.2) (sI ik ia o q1) q3 (by rw [q4]; exact q5) q6 q7 q8 (setI_ok q2)
      rw [q4] at q
      exact q
    · refine z_set o.nd (by rw [o.N]; exact h1) h5 ((sE e o h3).1 rfl) (sw_cell ?_) h6
      unfold cellB at h4
      rw [← o.sc] at h4
      split at h4
      · assumption
      · exact ff h4
  | .setT g e, Γ, st, X, W, o, hp, h => by
    cases st <;> first | exact ff h | skip
    rename_i ts e' p
    obtain _ | ⟨t, _ | ⟨_, _⟩⟩ := ts <;> first | exact ff h | skip
    have h : (chkG D.P g Γ t && chk D.P e false Γ e' && !isComp e' && noSw t e') = true := h
    simp only [Bool.and_eq_true, Bool.not_eq_true'] at h
    obtain ⟨⟨⟨h1, h2⟩, h3⟩, h4⟩ := h
    refine z_asg ((sE e o h2).1 rfl) (sG g o h1) (swN h3) (noSw_ok h4) ?_
    cases t <;> first | rfl | exact ff h4
  | .par i j as, Γ, st, X, W, o, hp, h => by
    cases st <;> first | exact ff h | skip
    rename_i ts e' p
    obtain _ | ⟨t, ts⟩ := ts <;> first | exact ff h | skip
    cases t <;> first | exact ff h | skip
    rename_i es kk p2
    obtain _ | ⟨x, es⟩ := es <;> first | exact ff h | skip
    cases x <;> first | exact ff h | skip
    obtain _ | ⟨y, es⟩ := es <;> first | exact ff h | skip
    cases y <;> first | exact ff h | skip
    cases es <;> first | exact ff h | skip
    cases ts <;> first | exact ff h | skip
    cases e' <;> first | exact ff h | skip
    rename_i x px y py vs kk2 p3
    obtain _ | ⟨a, _ | ⟨b, _ | ⟨_, _⟩⟩⟩ := vs <;> first | exact ff h | skip
    have h : (decide (Γ.N[i]? = some x) && decide (Γ.N[j]? = some y) && decide (i ≠ j) && parB Γ x y px py a b && chkL D.P as Γ [a, b]) = true := h
    simp only [Bool.and_eq_true, decide_eq_true_eq] at h
    obtain ⟨⟨⟨⟨h1, h2⟩, h3⟩, h4⟩, h5⟩ := h
    have h6 := h4
    unfold parB at h6
    simp only [Bool.and_eq_true, Bool.not_eq_true'] at h6
    exact z_par o.calm o.nd (by rw [o.N]; exact h1) (by rw [o.N]; exact h2) h3 (by rw [o.sc]; exact locB_ok h6.1.1.1.1.1.1.1) (by rw [o.sc]; exact locB_ok h6.1.1.1.1.1.1.2) (sL as o h5) (par_ok o h4) rfl
  | .aug i op e, Γ, st, X, W, o, hp, h => by
    cases st <;> first | exact ff h | skip
    rename_i t op' e' p
    cases t <;> first | exact ff h | skip
    rename_i x px
    have h : (decide (op = op') && decide (Γ.N[i]? = some x) && stB Γ.st x && chk D.P e false Γ e') = true := h
    simp only [Bool.and_eq_true, decide_eq_true_eq] at h
    obtain ⟨⟨⟨h1, h2⟩, h3⟩, h4⟩ := h
    subst h1
    obtain ⟨h5, h6⟩ := o.st x h3
    obtain ⟨r, r1, r2⟩ := aug_ok (T := T) (X := X) op
    exact z_aug o.nd (by rw [o.N]; exact h2) h5 ((sE e o h4).1 rfl) r1 r2 h6
  | .sattr n ob e, Γ, st, X, W, o, hp, h => by
    cases st <;> first | exact ff h | skip
    rename_i ts e' p
    obtain _ | ⟨t, ts⟩ := ts <;> first | exact ff h | skip
    cases t <;> first | exact ff h | skip
    rename_i o' y py
    cases ts <;> first | exact ff h | skip
    have h : ((match D.P.atts[n]? with | some z => decide (y = z) | none => false) && chk D.P ob false Γ o' && chk D.P e false Γ e' && !isComp e') = true := h
    simp only [Bool.and_eq_true, Bool.not_eq_true'] at h
    obtain ⟨⟨⟨h1, h2⟩, h3⟩, h4⟩ := h
    cases e1 : D.P.atts[n]? with
    | none => rw [e1] at h1; exact ff h1
    | some z =>
      rw [e1] at h1
      cases of_decide_eq_true h1
      have ea := o.att n _ e1
      subst ea
      exact z_attr o.aok ((sE ob o h2).1 rfl) ((sE e o h3).1 rfl) (swN h4)
  | .aattr n ob op e, Γ, st, X, W, o, hp, h => by
    cases st <;> first | exact ff h | skip
    rename_i t op' e' p
    cases t <;> first | exact ff h | skip
    rename_i o' y py
    have h : ((match D.P.atts[n]? with | some z => decide (y = z) | none => false) && decide (op = op') && chk D.P ob false Γ o' && chk D.P e false Γ e') = true := h
    simp only [Bool.and_eq_true, decide_eq_true_eq] at h
    obtain ⟨⟨⟨h1, h2⟩, h3⟩, h4⟩ := h
    subst h2
    cases e1 : D.P.atts[n]? with
    | none => rw [e1] at h1; exact ff h1
    | some z =>
      rw [e1] at h1
      cases of_decide_eq_true h1
      have ea := o.att n _ e1
      subst ea
      obtain ⟨r, r1, r2⟩ := aug_ok (T := T) (X := X) op
      exact z_attrAug o.aok ((sE ob o h3).1 rfl) ((sE e o h4).1 rfl) r1 r2
  | .whl t b, Γ, st, X, W, o, hp, h => by
    cases st <;> first | exact ff h | skip
    rename_i t' sb els p
    cases els <;> first | exact ff h | skip
    have h : (chk D.P t true Γ t' && chkB D.P b Γ sb) = true := h
    simp only [Bool.and_eq_true] at h
    exact z_while D.m hp.pass ((sE t o h.1).2 rfl).1 (sB b o hp h.2)
  | .frl ik ia g b, Γ, st, X, W, o, hp, h => by
    cases st <;> first | exact ff h | skip
    rename_i g' it sb els p
    cases els <;> first | exact ff h | skip
    have h : (chkI D.P ik ia Γ it && !isSet it && chkG D.P g Γ g' && chkB D.P b Γ sb) = true := h
    simp only [Bool.and_eq_true, Bool.not_eq_true'] at h
    obtain ⟨⟨⟨h1, h2⟩, h3⟩, h4⟩ := h
    exact z_for D.m hp.pass o.calm (sI ik ia o h1) (sG g o h3) (sB b o hp h4) (setI_ok h2)
  | .raise0 c, Γ, st, X, W, o, hp, h => by
    cases st <;> first | exact ff h | skip
    rename_i e ca p
    obtain _ | e := e <;> first | exact ff h | skip
    cases e <;> first | exact ff h | skip
    rename_i fn as' kws p2
    cases fn <;> first | exact ff h | skip
    cases as' <;> first | exact ff h | skip
    cases kws <;> first | exact ff h | skip
    cases ca <;> first | exact ff h | skip
    rename_i x xp
    have h : (decide ((c, x) ∈ D.P.xr) && glB Γ.sc x && okN x) = true := h
    simp only [Bool.and_eq_true, decide_eq_true_eq] at h
    obtain ⟨B, newId, initId, bmB, F, q1, q2, q3, q4, q5⟩ := o.xr c x h.1.1
    refine (ps_raise o.calm o.tk (pmk_own0 F q1 q2 q3 (raises_own q4 q5) (o.gl h.1.2) (okN_of h.2).1)).weak ?_
    rintro D' σ H ⟨ρ, h, en, S, E, p⟩
    exact p ρ H σ none Le.refl S E rfl
  | .tryO b g s, Γ, st, X, W, o, hp, h => by
    cases st <;> first | exact ff h | skip
    rename_i body hs els fin p
    obtain _ | ⟨hd, _ | ⟨_, _⟩⟩ := hs <;> first | exact ff h | (obtain ⟨_ | ty, _ | nm, _ | ⟨b0, sx⟩, hq⟩ := hd <;> first | exact ff h | (cases ty <;> exact ff h)) | skip
    obtain ⟨ty, nm, suite, hp2⟩ := hd
    obtain _ | ty := ty <;> first | exact ff h | skip
    cases ty <;> first | exact ff h | skip
    cases nm <;> first | exact ff h | skip
    cases suite <;> first | exact ff h | skip
    cases els <;> first | exact ff h | skip
    cases fin <;> first | exact ff h | skip
    rename_i x xp b0 suite
    have h : (decide (D.P.xg[g]? = some x) && glB Γ.sc x && okN x && chkB D.P b Γ body && chkX D.P none s Γ (b0 :: suite)) = true := h
    simp only [Bool.and_eq_true, decide_eq_true_eq] at h
    obtain ⟨⟨⟨⟨h1, h2⟩, h3⟩, h4⟩, h5⟩ := h
    obtain ⟨cv, cw, k1, k2, k3⟩ := o.xg g x h1
    refine (ps_try_only (tb := fun W' => tS T X.K W' (evS D b)) (ts := tsX T D.P g none s) hp.hs hp.hf (names_of o h2 h3 k2) o.tk (fun W' pn xe tk pass => sB b (o.tr tk) ⟨pass, hp.hs, hp.hf⟩ h4) (fun a oe cls d pn hz hf => ⟨fun pins s1 σ H D' I q => ?_⟩)).weak ?_
    · obtain ⟨c0, rfl, rfl, hi, q⟩ := q
      exact (sXS o (o.xc _ _ _ hi) hz hf s h5).run pins s1 σ H D' I q
    · rintro D' σ H q
      refine try_read q fun c0 b' d σ' H' hi => ⟨fun e1 e2 b2 e3 hl hr => ?_, fun e1 w => ⟨b', (k3 c0 b' hi).2, fun z => ?_, fun _ => w⟩⟩
      · subst e1
        exact ⟨true, (k3 c0 true hi).2, fun _ a na => ⟨c0, rfl, e2, hi, b2, e3, (fun i z => by cases z), hr⟩, fun z => by cases z⟩
      · rw [e1] at z; cases z
  | .tryA b g i s, Γ, st, X, W, o, hp, h => by
    cases st <;> first | exact ff h | skip
    rename_i body hs els fin p
    obtain _ | ⟨hd, _ | ⟨_, _⟩⟩ := hs <;> first | exact ff h | (obtain ⟨_ | ty, _ | nm, _ | ⟨b0, sx⟩, hq⟩ := hd <;> first | exact ff h | (cases ty <;> exact ff h)) | skip
    obtain ⟨ty, nm, suite, hp2⟩ := hd
    obtain _ | ty := ty <;> first | exact ff h | skip
    cases ty <;> first | exact ff h | skip
    cases nm <;> first | exact ff h | skip
    cases suite <;> first | exact ff h | skip
    cases els <;> first | exact ff h | skip
    cases fin <;> first | exact ff h | skip
    rename_i x xp nm b0 suite
    have h : (decide (D.P.xg[g]? = some x) && glB Γ.sc x && okN x && decide (Γ.N[i]? = some nm) && locB Γ.sc nm && chkB D.P b Γ body && chkX D.P (some i) s Γ (b0 :: suite)) = true := h
    simp only [Bool.and_eq_true, decide_eq_true_eq] at h
    obtain ⟨⟨⟨⟨⟨⟨h1, h2⟩, h3⟩, h6⟩, h7⟩, h4⟩, h5⟩ := h
    obtain ⟨cv, cw, k1, k2, k3⟩ := o.xg g x h1
    refine (ps_try_as (i := i) (tb := fun W' => tS T X.K W' (evS D b)) (ts := tsX T D.P g (some i) s) hp.hs hp.hf o.nd (by rw [o.N]; exact h6) (by show X.env.scope.names.lookup nm = _; rw [o.sc]; exact locB_ok h7) (names_of o h2 h3 k2) o.tk (fun W' pn xe tk pass => sB b (o.tr tk) ⟨pass, hp.hs, hp.hf⟩ h4) (fun a oe cls d pn hz hf => ⟨fun pins s1 σ H D' I q => ?_⟩)).weak ?_
    · obtain ⟨c0, rfl, rfl, hi, q⟩ := q
      exact (sXS o (o.xc _ _ _ hi) hz hf s h5).run pins s1 σ H D' I q
    · rintro D' σ H q
      refine try_read q fun c0 b' d σ' H' hi => ⟨fun e1 e2 b2 e3 hl hr => ?_, fun e1 w => ⟨b', (k3 c0 b' hi).2, fun z => ?_, fun _ => w⟩⟩
      · subst e1
        exact ⟨true, (k3 c0 true hi).2, fun _ a na => ⟨c0, rfl, e2, hi, b2, e3, (fun j z => by cases z; exact List.getElem?_set_self (hl i rfl)), hr⟩, fun z => by cases z⟩
      · rw [e1] at z; cases z
theorem sB : ∀ (a : S) {Γ : Ck} {st : List Stmt} {X : Cx} {W : WX}, OkX T D k Γ X W → BodyX X → chkB D.P a Γ st = true → PSs X st (tS T X.K W (evS D a))
  | .skip, Γ, st, X, W, o, hp, h => by
    cases st <;> first | exact ff h | exact z_nil
  | .seq a b, Γ, st, X, W, o, hp, h => by
    cases st with
    | nil => exact ff h
    | cons x xs =>
      have h : (chkS D.P a Γ x && chkB D.P b Γ xs) = true := h
      simp only [Bool.and_eq_true] at h
      exact z_cons (sS a o hp h.1) (sB b o hp h.2)
  | .ret _, Γ, st, X, W, o, hp, h => by cases st <;> exact ff h
  | .retN, Γ, st, X, W, o, hp, h => by cases st <;> exact ff h
  | .expr _, Γ, st, X, W, o, hp, h => by cases st <;> exact ff h
  | .ite _ _ _, Γ, st, X, W, o, hp, h => by cases st <;> exact ff h
  | .brk, Γ, st, X, W, o, hp, h => by cases st <;> exact ff h
  | .cont, Γ, st, X, W, o, hp, h => by cases st <;> exact ff h
  | .bad, Γ, st, X, W, o, hp, h => by cases st <;> exact ff h
  | .set _ _, Γ, st, X, W, o, hp, h => by cases st <;> exact ff h
  | .setT _ _, Γ, st, X, W, o, hp, h => by cases st <;> exact ff h
  | .par _ _ _, Γ, st, X, W, o, hp, h => by cases st <;> exact ff h
  | .aug _ _ _, Γ, st, X, W, o, hp, h => by cases st <;> exact ff h
  | .sattr _ _ _, Γ, st, X, W, o, hp, h => by cases st <;> exact ff h
  | .aattr _ _ _ _, Γ, st, X, W, o, hp, h => by cases st <;> exact ff h
  | .whl _ _, Γ, st, X, W, o, hp, h => by cases st <;> exact ff h
  | .raise0 _, Γ, st, X, W, o, hp, h => by cases st <;> exact ff h
  | .tryO _ _ _, Γ, st, X, W, o, hp, h => by cases st <;> exact ff h
  | .tryA _ _ _ _, Γ, st, X, W, o, hp, h => by cases st <;> exact ff h
  | .frl _ _ _ _, Γ, st, X, W, o, hp, h => by cases st <;> exact ff h
end
end
end RS

set_option Elab.async false
set_option linter.all false
set_option maxRecDepth 100000
set_option maxHeartbeats 4000000
set_option autoImplicit false
namespace RS
open PySem PySem.Spec PyProof.Rows L2

/-! ### the functions, by level -/
def SR.ret : SR → R PV
  | .rt v h => .ok v h
  | .nx _ h => .ok .non h
  | .ex e _ h => .ex e h
  | _ => .bad
@[simp] theorem SR.ret_rt (v : PV) (h : Hm) : (SR.rt v h).ret = .ok v h := rfl
@[simp] theorem SR.ret_nx (en : En) (h : Hm) : (SR.nx en h).ret = .ok .non h := rfl
@[simp] theorem SR.ret_ex (e : Ex) (en : En) (h : Hm) : (SR.ex e en h).ret = .ex e h := rfl
@[simp] theorem SR.ret_bad : SR.bad.ret = .bad := rfl
@[simp] theorem SR.ret_ite (c : Prop) [Decidable c] (a b : SR) : (if c then a else b).ret = if c then a.ret else b.ret := by split <;> rfl
def startE (n : Nat) (xs : List PV) : En := xs.map some ++ List.replicate (n - xs.length) none
structure FB where
  n : Nat
  b : S
def callF (fb : List FB) (P : Pg) (m : Nat) : Nat → Nat → FS
  | k + 2, f, xs, h => match fb[f]?, P.funs[f]? with
    | some fi, some fd => if xs.length = fd.ps.length then (evS ⟨callF fb P m (k + 1), callF fb P m k, P, m⟩ fi.b (startE fi.n xs) h).ret else .bad
    | _, _ => .bad
  | _, _, _, _ => .bad
def dnF (fb : List FB) (P : Pg) (m k : Nat) : Dn := ⟨callF fb P m (k + 1), callF fb P m k, P, m⟩
theorem callF_at {fb : List FB} {P : Pg} {m : Nat} (k : Nat) {f : Nat} {xs : List PV} {h : Hm} {fi : FB} {fd : FD} (h1 : fb[f]? = some fi) (h2 : P.funs[f]? = some fd) (hl : xs.length = fd.ps.length) : callF fb P m (k + 2) f xs h = (evS (dnF fb P m k) fi.b (startE fi.n xs) h).ret := by
  show (match fb[f]?, P.funs[f]? with
    | some fi, some fd => if xs.length = fd.ps.length then (evS ⟨callF fb P m (k + 1), callF fb P m k, P, m⟩ fi.b (startE fi.n xs) h).ret else .bad
    | _, _ => .bad) = _
  rw [h1, h2]
  dsimp only
  rw [if_pos hl]
  rfl
theorem callF_len {fb : List FB} {P : Pg} {m : Nat} (k : Nat) {f : Nat} {fd : FD} (h2 : P.funs[f]? = some fd) : ∀ xs h, xs.length ≠ fd.ps.length → callF fb P m k f xs h = .bad := fun xs h hl => by
  match k with
  | 0 => rfl
  | 1 => rfl
  | k + 2 =>
    show (match fb[f]?, P.funs[f]? with
      | some fi, some fd => if xs.length = fd.ps.length then (evS ⟨callF fb P m (k + 1), callF fb P m k, P, m⟩ fi.b (startE fi.n xs) h).ret else .bad
      | _, _ => .bad) = _
    rw [h2]
    cases fb[f]? with
    | none => rfl
    | some fi => dsimp only; rw [if_neg hl]

/-- one def of the text -/
structure FW (K : PySem.W.Frag) (mg : Str → Option Value) (P : Pg) (fi : FB) (fd : FD) (a : Addr) (fdat : FuncData) : Prop where
  ex : ∃ x qual st N dvs, FunD K x qual (defArgs st) (defBody st) (defScope st) dvs [] a fdat ∧ FnScope N fd.ps (defScope st) ∧ N.length = fi.n ∧ chkB P fi.b ⟨N, defScope st, (defScope st).names⟩ (defBody st) = true
  glob : fd.isGlob = true → mg fd.name = some (.ref a)
  bind : ∀ j, j ≤ fd.dfts.length → ∃ dvs us, Binds K fdat fd.ps us ∧ Vals dvs us ∧ ∀ ρ H, VRels K ρ H (fd.dfts.drop j) dvs
/-- the text as the tables tell it -/
structure Wd (T : Tb) (K : PySem.W.Frag) (mg : Str → Option Value) (P : Pg) (fb : List FB) (fa : Nat → Addr) (fdt : Nat → FuncData) : Prop where
  glob : ∀ (g : Nat) x v, P.globs[g]? = some (x, v) → ∃ u v', mg x = some u ∧ RelV v' u ∧ ∀ ρ H, VRel K ρ H v v'
  blt : ∀ b : BN, b.name ∈ P.blt → mg b.name = b.mg
  bltO : ∀ x, x ∈ P.blt → x ≠ ("gcd" : Str) → mg x = none
  att : ∀ (n : Nat) x, P.atts[n]? = some x → T.att n = x
  aok : AtOk T K P.aok
  fn : ∀ (f : Nat) fd, P.funs[f]? = some fd → ∃ fi, fb[f]? = some fi ∧ FW K mg P fi fd (fa f) (fdt f)
  mt : ∀ c m f, P.mt c m = some f → Cls K (T.cls c) ∧ ∃ fd, P.funs[f]? = some fd ∧ Meth K (T.cls c) (T.att m) (fa f)
  mkc : ∀ (c : Nat) cd, P.clss[c]? = some cd → mg cd.name = some (.ref (T.cls c)) ∧ ∃ fd, P.funs[cd.init]? = some fd ∧ Mk K (T.cls c) (fa cd.init)
  xr : ∀ c x, (c, x) ∈ P.xr → ∃ B newId initId bmB, ExcBaseFacts B newId initId bmB ∧ PySem.W.excIn K (T.cls c) bmB newId = true ∧ mg x = some (.ref (T.cls c)) ∧ PySem.W.keepIn K (.ref (T.cls c)) = true ∧ PySem.W.subIn K (.ref (T.cls c)) (.type "BaseException") = some true ∧ PySem.W.typeIn K (.ref (T.cls c)) = some (.type "type")
  xg : ∀ (g : Nat) x, P.xg[g]? = some x → ∃ cv cw, ClsV cw cv ∧ (mg x = some cv ∨ (mg x = none ∧ bootBuiltins x = some cv ∧ x ≠ "__name__")) ∧ ∀ c b, P.isx c g = some b → PySem.W.kitOne K (.ref (T.cls c)) cv = some b ∧ PySem.W.exmOne K (.ref (T.cls c)) cv = some b
  xc : ∀ c g b, P.isx c g = some b → ExcC K (T.cls c)
  kw : ∀ f n ks, (f, n, ks) ∈ P.kws → ∃ fd, P.funs[f]? = some fd ∧ mg fd.name = some (.ref (fa f)) ∧ PySem.W.keepIn K (.ref (fa f)) = true ∧ KBn K (fdt f) fd.ps n ks (fun us ws => us ++ ws) (fun us ws => us ++ ws)
section
variable {T : Tb} {Pr : Program} {wl : World} {K : PySem.W.Frag} {mg : Str → Option Value} {base : Heap} {P : Pg} {fb : List FB} {fa : Nat → Addr} {fdt : Nat → FuncData} {m : Nat}
theorem startE_ok {ρ : List Addr} {H : Hp} {n : Nat} {N : List Str} {xs : List PV} {vs : List V} (hN : N.length = n) (r : VRels K ρ H xs vs) : ERel K ρ H (startE n xs) (L2.start N vs) := by
  have hl := r.length
  subst hN
  refine ⟨?_, fun i x e => ?_⟩
  · unfold startE L2.start
    simp [hl]
  · unfold startE at e
    by_cases hi : i < xs.length
    · rw [List.getElem?_append_left (by simpa using hi), List.getElem?_map, List.getElem?_eq_getElem hi] at e
      cases e
      obtain ⟨v, e2, r2⟩ := r.get (List.getElem?_eq_getElem hi)
      refine ⟨v, ?_, r2⟩
      unfold L2.start
      rw [List.getElem?_append_left (by simpa [← hl] using hi), List.getElem?_map, e2]
      rfl
    · rw [List.getElem?_append_right (by simpa using Nat.not_lt.mp hi)] at e
      rw [List.getElem?_replicate] at e
      split at e <;> cases e
theorem fnAt_of {X : Cx} {k f : Nat} {fd : FD} {fi : FB} {F : FS} (hK : X.K = K) (hmg : X.mg = mg) (h2 : P.funs[f]? = some fd) (w : FW K mg P fi fd (fa f) (fdt f)) (hl : ∀ xs h, xs.length ≠ fd.ps.length → F xs h = .bad)
    (ok : FnOk X.prog X.w X.K X.mg X.base (L2.CX X.prog X.w) k (fa f) (fdt f) fd.ps (spF T X.K fd.ps.length F)) : ∀ j, j ≤ fd.dfts.length → FnAt X T k F (fa f) (fdt f) fd.ps (fd.dfts.drop j) := fun j hj =>
  ⟨ok, hl, by subst hK; exact w.bind j hj⟩
theorem bad_ok {k f : Nat} {a : Addr} {fdat : FuncData} {fd : FD} {F : FS} (hF : ∀ xs h, F xs h = .bad) : FnOk Pr wl K mg base (L2.CX Pr wl) k a fdat fd.ps (spF T K fd.ps.length F) := by
  refine ⟨fun vs H Q E h => h.1, fun A outer s H args us vs Q E hr he hb hv hs => ?_⟩
  obtain ⟨_, ρ, h, xs, S, r, p⟩ := hs
  rw [hF] at p
  exact p.elim
theorem callF_ok (w : Wd T K mg P fb fa fdt) : ∀ k, (∀ f fd, P.funs[f]? = some fd → FnOk Pr wl K mg base (L2.CX Pr wl) k (fa f) (fdt f) fd.ps (spF T K fd.ps.length (callF fb P m k f))) ∧
    (∀ f fd, P.funs[f]? = some fd → FnOk Pr wl K mg base (L2.CX Pr wl) (k + 1) (fa f) (fdt f) fd.ps (spF T K fd.ps.length (callF fb P m (k + 1) f)))
  | 0 => ⟨fun f fd h => bad_ok (f := f) fun _ _ => rfl, fun f fd h => bad_ok (f := f) fun _ _ => rfl⟩
  | k + 1 => by
    obtain ⟨ih1, ih2⟩ := callF_ok w k
    refine ⟨ih2, fun f fd h => ?_⟩
    obtain ⟨fi, e1, fw⟩ := w.fn f fd h
    obtain ⟨x, qual, st, N, dvs, F, S, hn, hc⟩ := fw.ex
    refine F.ok S (fun vs H Q E z => z.1) fun cdv A outer s H vs Q E hr hs => ?_
    obtain ⟨hl, ρ, h0, xs, S0, r0, p⟩ := hs
    have o : OkX T (dnF fb P m k) k ⟨N, defScope st, (defScope st).names⟩ (cxOf (L2.CX Pr wl) Pr wl K mg base N qual (defScope st) (fa f) cdv A outer s H E) (fun cls d _ H => E cls d H) := {
      N := rfl
      nd := S.nd
      sc := rfl
      kind := S.kind
      st := fun x hx => by
        unfold stB at hx
        split at hx
        · rename_i e; exact ⟨.inl e, .inl rfl⟩
        · rename_i e; exact ⟨.inr e, .inl rfl⟩
        · exact ff hx
      calm := rfl
      room := hr
      tk := takes_of rfl rfl rfl rfl
      glob := w.glob
      blt := w.blt
      bltO := w.bltO
      att := w.att
      aok := w.aok
      xr := w.xr
      xg := w.xg
      xc := w.xc
      kw := fun g n ks hg => by
        obtain ⟨gd, g1, g2, g3, g4⟩ := w.kw g n ks hg
        exact ⟨gd, fa g, fdt g, g1, g2, g3, ih2 g gd g1, callF_len _ g1, g4⟩
      fn := fun g gd hg => by
        obtain ⟨gi, _, gw⟩ := w.fn g gd hg
        obtain ⟨_, _, _, _, _, GF, _⟩ := gw.ex
        exact ⟨fa g, fdt g, fun z => ⟨gw.glob z, GF.kp⟩, fnAt_of rfl rfl hg gw (callF_len _ hg) (ih2 g gd hg)⟩
      mt := fun c mm g hg => by
        obtain ⟨c1, gd, c2, c3⟩ := w.mt c mm g hg
        obtain ⟨gi, _, gw⟩ := w.fn g gd c2
        exact ⟨c1, gd, fa g, fdt g, c2, c3, fnAt_of rfl rfl c2 gw (callF_len _ c2) (ih2 g gd c2)⟩
      mkc := fun c cd hg => by
        obtain ⟨c1, gd, c2, c3⟩ := w.mkc c cd hg
        obtain ⟨gi, _, gw⟩ := w.fn cd.init gd c2
        exact ⟨c1, gd, fa cd.init, fdt cd.init, c2, c3, fnAt_of rfl rfl c2 gw (callF_len _ c2) (ih1 cd.init gd c2)⟩ }
    refine ⟨_, sB fi.b o ⟨passes_of rfl, rfl, rfl⟩ hc, ρ, h0, startE fi.n xs, S0, startE_ok hn r0, ?_⟩
    have hl2 : xs.length = fd.ps.length := by rw [r0.length, hl]
    have p : Post T K (VR K) (fun c d _ H => E c d H) [] ρ H (callF fb P m (k + 2) f xs h0) Q := p
    rw [callF_at k e1 h hl2] at p
    show PostS T K (fun cls d _ H => E cls d H) ρ H (evS (dnF fb P m k) fi.b (startE fi.n xs) h0) _
    cases q : evS (dnF fb P m k) fi.b (startE fi.n xs) h0 with
    | nx en h1 => rw [q] at p; exact fun ρ' H' σ' l S1 E1 => p ρ' H' _ l S1 .non
    | rt v h1 => rw [q] at p; exact p
    | ex e en h1 => rw [q] at p; exact fun ρ' H' σ' d l S1 E1 x => p ρ' H' d l S1 x
    | bk en h1 => rw [q] at p; exact p.elim
    | ct en h1 => rw [q] at p; exact p.elim
    | bad => rw [q] at p; exact p.elim
end
end RS

set_option Elab.async false
set_option linter.all false
set_option maxRecDepth 100000
set_option maxHeartbeats 4000000
set_option autoImplicit false
namespace RS
open PySem PySem.Spec PyProof.Rows L2

/-! ### the top -/
/-- other names, one for each number -/
def farName (n : Nat) : Str := ⟨(List.replicate (n + 1000) 35).toArray⟩
theorem farName_inj {i j : Nat} (h : farName i = farName j) : i = j := by
  have h2 := congrArg (fun s : Str => s.cps.size) h
  simpa [farName] using h2
theorem farName_size (n : Nat) : (farName n).cps.size = n + 1000 := by simp [farName]
def attOf (al : List Str) (n : Nat) : Str := match al[n]? with
  | some x => x
  | none => farName n
theorem attOf_inj {al : List Str} (hn : al.Nodup) (hl : ∀ x ∈ al, x.cps.size < 1000) (i j : Nat) (h : attOf al i = attOf al j) : i = j := by
  unfold attOf at h
  cases ei : al[i]? with
  | none =>
    cases ej : al[j]? with
    | none => rw [ei, ej] at h; exact farName_inj h
    | some y =>
      rw [ei, ej] at h
      have := hl y (List.mem_of_getElem? ej)
      have h : farName i = y := h
      rw [← h, farName_size] at this
      omega
  | some x =>
    cases ej : al[j]? with
    | none =>
      rw [ei, ej] at h
      have := hl x (List.mem_of_getElem? ei)
      have h : x = farName j := h
      rw [h, farName_size] at this
      omega
    | some y =>
      rw [ei, ej] at h
      have h : x = y := h
      subst h
      obtain ⟨hi, e1⟩ := List.getElem?_eq_some_iff.mp ei
      obtain ⟨hj, e2⟩ := List.getElem?_eq_some_iff.mp ej
      exact List.getElem_inj hn |>.mp (e1.trans e2.symm)
def tbOf (al : List Str) (hn : al.Nodup) (hl : ∀ x ∈ al, x.cps.size < 1000) (cl : Nat → Addr) : Tb := ⟨cl, attOf al, attOf_inj hn hl⟩
theorem tbOf_att {al : List Str} {hn : al.Nodup} {hl : ∀ x ∈ al, x.cps.size < 1000} {cl : Nat → Addr} : ∀ (n : Nat) x, al[n]? = some x → (tbOf al hn hl cl).att n = x := fun n x h => by
  show attOf al n = x
  unfold attOf
  rw [h]
/-- the law's promise, whatever the tables' addresses -/
def spT (al : List Str) (hn : al.Nodup) (hl : ∀ x ∈ al, x.cps.size < 1000) (K : PySem.W.Frag) (n : Nat) (F : FS) : Sp := fun vs H Q E => ∀ cl : Nat → Addr, spF (tbOf al hn hl cl) K n F vs H Q E
theorem spT_ok {Pr : Program} {wl : World} {K : PySem.W.Frag} {mg : Str → Option Value} {base : Heap} {k n : Nat} {a : Addr} {fdat : FuncData} {ps : List Str} {F : FS} {al : List Str} {hn : al.Nodup} {hl : ∀ x ∈ al, x.cps.size < 1000} {cl : Nat → Addr}
    (h : FnOk Pr wl K mg base (L2.CX Pr wl) k a fdat ps (spF (tbOf al hn hl cl) K n F)) : FnOk Pr wl K mg base (L2.CX Pr wl) k a fdat ps (spT al hn hl K n F) := h.imp fun _ _ _ _ q => q cl
theorem law_sp {al : List Str} {hn : al.Nodup} {hl : ∀ x ∈ al, x.cps.size < 1000} {K : PySem.W.Frag} {F : FS} {H : Hp} {a : Addr} {ns : List Int} (hO : Only H) (hS : SqL K H a (ns.map V.int)) (h : ∃ h', F [.ref 0] [.frz (ns.map PV.int)] = .ok (.bl true) h') :
    spT al hn hl K 1 F [.ref a] H (fun v _ => v = .bl true) fun _ _ _ => False := by
  intro cl
  refine ⟨rfl, [a], [.frz (ns.map PV.int)], [.ref 0], ⟨rfl, fun i o b e1 e2 => ?_, fun i j o u b e1 e2 e3 e4 m1 m2 => ?_⟩, .cons (.ref rfl) .nil, ?_⟩
  · cases i with
    | succ i => simp at e1
    | zero =>
      cases e1; cases e2
      refine ⟨ns.map V.int, ?_, ?_⟩
      · clear h hS
        induction ns with
        | nil => exact .nil
        | cons n r ih => exact .cons (.int n) ih
      · rcases hS with hS | hS
        · rcases hO a with e | ⟨o, xs, e⟩
          · rcases hS with hS | ⟨o, hS⟩
            · rw [e] at hS; cases hS
            · rw [e] at hS; cases hS
          · rcases hS with hS | ⟨o2, hS⟩
            · rw [e] at hS; cases hS
            · exact .inl ⟨o2, hS⟩
        · exact .inr (.inr hS)
  · cases i with
    | succ i => simp at e1
    | zero => cases e1; cases m1
  · obtain ⟨h', e⟩ := h
    rw [e]
    intro ρ' H' v' l S r
    cases r
    rfl
theorem law_CX {Pr : Program} (w : World) (H : Hp) (s : Shared) (e : Value) (s' : Shared) (h : L2.CX Pr w [] H s (fun _ _ _ => False) e s') : False := by
  obtain ⟨_, _, _, _, _, _, _, _, _, _, _, _, z⟩ := h
  exact z
theorem bind0 {K : PySem.W.Frag} {fdat : FuncData} {ps : List Str} (b : Binds K fdat ps []) : ∀ j : Nat, j ≤ ([] : List PV).length → ∃ dvs us, Binds K fdat ps us ∧ Vals dvs us ∧ ∀ ρ H, VRels K ρ H (([] : List PV).drop j) dvs := fun j _ => ⟨[], [], b, .nil, fun _ _ => by rw [List.drop_nil]; exact .nil⟩
theorem blt_of {bl : List Str} {mg : Str → Option Value} (h : ∀ x ∈ bl, x ≠ ("gcd" : Str) → mg x = none) (hg : ("gcd" : Str) ∈ bl → mg "gcd" = some (.builtin "math.gcd")) (b : BN) (hb : b.name ∈ bl) : mg b.name = b.mg := by
  cases b <;> first | exact hg hb | exact h _ hb (by decide +kernel)
/-- the methods, the fields, by lists -/
def mtOf (l : List (Nat × Nat × Nat)) : MTab := fun c m => (l.find? fun p => p.1 == c && p.2.1 == m).map (·.2.2)
theorem mtOf_mem {l : List (Nat × Nat × Nat)} {c m f : Nat} (h : mtOf l c m = some f) : (c, m, f) ∈ l := by
  unfold mtOf at h
  rw [Option.map_eq_some_iff] at h
  obtain ⟨⟨a, b, d⟩, h1, h2⟩ := h
  have h3 := List.find?_some h1
  simp only [Bool.and_eq_true, beq_iff_eq] at h3
  obtain ⟨e1, e2⟩ := h3
  have := List.mem_of_find?_eq_some h1
  dsimp only at e1 e2 h2
  rw [e1, e2, h2] at this
  exact this
def aokOf (l : List (Nat × Nat)) : Nat → Nat → Bool := fun c n => l.any fun p => p.1 == c && p.2 == n
theorem aokOf_mem {l : List (Nat × Nat)} {c n : Nat} (h : aokOf l c n = true) : (c, n) ∈ l := by
  unfold aokOf at h
  rw [List.any_eq_true] at h
  obtain ⟨⟨a, b⟩, h1, h2⟩ := h
  simp only [Bool.and_eq_true, beq_iff_eq] at h2
  obtain ⟨e1, e2⟩ := h2
  subst e1; subst e2
  exact h1
def isxOf (l : List (Nat × Nat × Bool)) : Nat → Nat → Option Bool := fun c g => (l.find? fun p => p.1 == c && p.2.1 == g).map (·.2.2)
theorem isxOf_mem {l : List (Nat × Nat × Bool)} {c g : Nat} {b : Bool} (h : isxOf l c g = some b) : (c, g, b) ∈ l := by
  unfold isxOf at h
  rw [Option.map_eq_some_iff] at h
  obtain ⟨⟨a, d, e⟩, h1, h2⟩ := h
  have h3 := List.find?_some h1
  simp only [Bool.and_eq_true, beq_iff_eq] at h3
  obtain ⟨e1, e2⟩ := h3
  have := List.mem_of_find?_eq_some h1
  dsimp only at e1 e2 h2
  rw [e1, e2, h2] at this
  exact this
theorem kit_ref {K : PySem.W.Frag} {E C : Addr} {b : Bool} (hE : PySem.W.subIn K (.ref E) (.ref E) = some true) (i : PySem.W.isClsIn K C = true) (t : PySem.W.typeIn K (.ref C) = some (.type "type")) (bC : PySem.W.subIn K (.ref C) (.type "BaseException") = some true) (s : PySem.W.subIn K (.ref E) (.ref C) = some b) :
    PySem.W.kitOne K (.ref E) (.ref C) = some b ∧ PySem.W.exmOne K (.ref E) (.ref C) = some b := by
  have k : PySem.W.kitCls K (.ref E) (.ref C) = some b := by
    show (if ((PySem.W.clsIn K C).isSome && PySem.W.typeIn K (.ref C) == some (.type "type")) = true then PySem.W.subIn K (.ref E) (.ref C) else none) = some b
    rw [show (PySem.W.clsIn K C).isSome = true from i, t]
    exact s
  constructor
  · unfold PySem.W.kitOne
    by_cases e : (Value.ref E == Value.ref C) = true
    · rw [if_pos e]
      have e2 := Value.ref.inj (beq_iff_eq.mp e)
      subst e2
      rw [hE] at s
      exact s
    · rw [if_neg e]; exact k
  · unfold PySem.W.exmOne
    rw [bC]
    exact k
theorem kit_ty {K : PySem.W.Frag} {E : Addr} {n : String} {b : Bool} (m : PySem.W.kitMeta n = true) (bC : (fastBuiltinMro n).map (·.contains (.type "BaseException")) = some true) (s : PySem.W.subIn K (.ref E) (.type n) = some b) :
    PySem.W.kitOne K (.ref E) (.type n) = some b ∧ PySem.W.exmOne K (.ref E) (.type n) = some b := by
  have k : PySem.W.kitCls K (.ref E) (.type n) = some b := by
    show (if PySem.W.kitMeta n = true then PySem.W.subIn K (.ref E) (.type n) else none) = some b
    rw [if_pos m]; exact s
  constructor
  · unfold PySem.W.kitOne
    rw [if_neg (show ¬ (Value.ref E == Value.type n) = true from by simp)]; exact k
  · unfold PySem.W.exmOne
    rw [show PySem.W.subIn K (.type n) (.type "BaseException") = some true from bC]
    exact k
theorem nogcd {bl : List Str} {mg : Str → Option Value} {x : Value} (h : decide (("gcd" : Str) ∈ bl) = false) : ("gcd" : Str) ∈ bl → mg "gcd" = some x := fun z => absurd z (of_decide_eq_false h)
end RS

set_option Elab.async false
set_option linter.all false
set_option maxRecDepth 100000
set_option maxHeartbeats 4000000
set_option autoImplicit false
namespace RS

/-! ### what a run must keep -/
def wR {α : Type} (r : R α) (P : α → Hm → Prop) (X : Ex → Hm → Prop) : Prop := match r with
  | .ok a h => P a h
  | .ex e h => X e h
  | .bad => False
def wSR (r : SR) (N : En → Hm → Prop) (V : PV → Hm → Prop) (B C : En → Hm → Prop) (X : Ex → En → Hm → Prop) : Prop := match r with
  | .nx en h => N en h
  | .rt v h => V v h
  | .bk en h => B en h
  | .ct en h => C en h
  | .ex e en h => X e en h
  | .bad => False
def wV (o : Option (Option PV)) (f : PV → Prop) : Prop := match o with
  | some (some v) => f v
  | _ => False
def wBl (v : PV) (f : Bool → Prop) : Prop := match v with
  | .bl k => f k
  | _ => False
def wInt (v : PV) (f : Int → Prop) : Prop := match v with
  | .int k => f k
  | _ => False
def wTwo (xs : List PV) (f : PV → PV → Prop) : Prop := match xs with
  | [v, w] => f v w
  | _ => False
def wOp {α : Type} (o : Option α) (f : α → Prop) : Prop := match o with
  | some v => f v
  | none => False
def wE (D : Dn) (e : E) (en : En) (h : Hm) (P : PV → Hm → Prop) (X : Ex → Hm → Prop) : Prop := wR ((ev D e).1 en h) P X
def wT (D : Dn) (e : E) (en : En) (h : Hm) (P : Bool → Hm → Prop) (X : Ex → Hm → Prop) : Prop := wR ((ev D e).2 en h) P X
def wL (D : Dn) (as : EL) (en : En) (h : Hm) (P : List PV → Hm → Prop) (X : Ex → Hm → Prop) : Prop := wR (evL D as en h) P X
def wOI (D : Dn) (as : EL) (en : En) (h : Hm) (P : Option Int → Hm → Prop) (X : Ex → Hm → Prop) : Prop := wR (evO D as en h) P X
def wC (D : Dn) (as : EL) (en : En) (h : Hm) (P : Bool → Hm → Prop) (X : Ex → Hm → Prop) : Prop := wR (evC D as en h) P X
def wI (D : Dn) (k : IK) (as : EL) (en : En) (h : Hm) (P : ItF → Hm → Prop) (X : Ex → Hm → Prop) : Prop := wR (cIk k (evL D as) en h) P X
def wG (D : Dn) (g : G) (x : PV) (en : En) (h : Hm) (P : En → Hm → Prop) (X : Ex → Hm → Prop) : Prop := wR (evG D g x en h) P X
def wGs (D : Dn) (g : GL) (x : List PV) (en : En) (h : Hm) (P : En → Hm → Prop) (X : Ex → Hm → Prop) : Prop := wR (evGL D g x en h) P X
def wS (D : Dn) (s : S) (en : En) (h : Hm) (N : En → Hm → Prop) (V : PV → Hm → Prop) (B C : En → Hm → Prop) (X : Ex → En → Hm → Prop) : Prop := wSR (evS D s en h) N V B C X
/-! continuations by name (so that nothing is worked out under a binder) -/
section
variable (D : Dn) (en : En) (P : PV → Hm → Prop) (X : Ex → Hm → Prop) (PB : Bool → Hm → Prop) (PL : List PV → Hm → Prop) (N : En → Hm → Prop) (V : PV → Hm → Prop) (B C : En → Hm → Prop) (XS : Ex → En → Hm → Prop)
def XF : Ex → Hm → Prop := fun _ _ => False
def k_at (h : Hm) (v : PV) : Prop := P v h
def k_at2 (h : Hm) (p : PySem.Str × PV) : Prop := P p.2 h
def k_bin2 (o : PySem.Operator) (x y : PV) (h : Hm) : Prop := wR (binF o x y h) P X
def k_bin1 (o : PySem.Operator) (b : E) (x : PV) (h : Hm) : Prop := wE D b en h (k_bin2 P X o x) X
def k_neg (x : PV) (h : Hm) : Prop := wR (pNeg x h) P X
def k_bits (x : PV) (h : Hm) : Prop := wR (pBits x h) P X
def k_not2 (h : Hm) (k : Bool) : Prop := P (.bl (!k)) h
def k_not1 (v : PV) (h : Hm) : Prop := wBl v (k_not2 P h)
def k_and2 (b : E) (h : Hm) (k : Bool) : Prop := if k = true then wE D b en h P X else P (.bl false) h
def k_and1 (b : E) (v : PV) (h : Hm) : Prop := wBl v (k_and2 D en P X b h)
def k_or2 (b : E) (h : Hm) (k : Bool) : Prop := if k = true then P (.bl true) h else wE D b en h P X
def k_or1 (b : E) (v : PV) (h : Hm) : Prop := wBl v (k_or2 D en P X b h)
def k_cmp2 (o : PySem.CmpOp) (x y : PV) (h : Hm) : Prop := wR (cmpF o x y h) P X
def k_cmp1 (o : PySem.CmpOp) (b : E) (x : PV) (h : Hm) : Prop := wE D b en h (k_cmp2 P X o x) X
def k_ch4 (o' : PySem.CmpOp) (c : E) (y : PV) (h : Hm) (k : Bool) : Prop := if k = true then wE D c en h (k_cmp2 P X o' y) X else P (.bl false) h
def k_ch3 (o' : PySem.CmpOp) (c : E) (y z : PV) (h : Hm) : Prop := wBl z (k_ch4 D en P X o' c y h)
def k_ch2 (o o' : PySem.CmpOp) (c : E) (x y : PV) (h : Hm) : Prop := wR (cmpF o x y h) (k_ch3 D en P X o' c y) X
def k_ch1 (o o' : PySem.CmpOp) (b c : E) (x : PV) (h : Hm) : Prop := wE D b en h (k_ch2 D en P X o o' c x) X
def k_ite (a b : E) (k : Bool) (h : Hm) : Prop := if k = true then wE D a en h P X else wE D b en h P X
def k_call (f n : Nat) (xs : List PV) (h : Hm) : Prop := wR (D.call f (xs ++ D.P.dv f n) h) P X
def k_ck2 (f n m : Nat) (xs zs : List PV) (h : Hm) : Prop := (xs.length = n ∧ zs.length = m) ∧ wR (D.call f (xs ++ zs) h) P X
def k_ck1 (f n m : Nat) (ws : EL) (xs : List PV) (h : Hm) : Prop := wL D ws en h (k_ck2 D P X f n m xs) X
def k_eqd2 (x y : PV) (h : Hm) : Prop := dictEq x y h = true ∧ P (.bl true) h
def k_eqd1 (b : E) (x : PV) (h : Hm) : Prop := wE D b en h (k_eqd2 P x) X
def k_mk3 (a : Nat) (v : PV) (h : Hm) : Prop := v = .non ∧ P (.ref a) h
def k_mk2 (c : Nat) (cd : CD) (n : Nat) (xs : List PV) (h : Hm) : Prop := wR (D.call1 cd.init (.ref h.length :: (xs ++ D.P.dv cd.init (n + 1))) (h ++ [.ins c []])) (k_mk3 P h.length) X
def k_mk1 (c : Nat) (as : EL) (h : Hm) (cd : CD) : Prop := wL D as en h (k_mk2 D P X c cd as.len) X
def k_mo3 (f n : Nat) (x : PV) (xs : List PV) (h : Hm) : Prop := wR (D.call f (x :: (xs ++ D.P.dv f (n + 1))) h) P X
def k_mo2 (as : EL) (x : PV) (h : Hm) (f : Nat) : Prop := wL D as en h (k_mo3 D P X f as.len x) X
def k_mo1 (m : Nat) (as : EL) (x : PV) (h : Hm) : Prop := wOp (moOf D.P.mt m x h) (k_mo2 D en P X as x h)
def k_bi (b : BN) (xs : List PV) (h : Hm) : Prop := wR (bi b xs h) P X
def k_isi2 (c : TN) (h : Hm) (t : TN) : Prop := P (.bl (subTN t c)) h
def k_isi (c : TN) (x : PV) (h : Hm) : Prop := wOp (tnOf x h) (k_isi2 P c h)
def k_me4 (g : MF) (n : Nat) (xs : List PV) (h : Hm) : Prop := wR (g n xs h) P X
def k_me3 (as : EL) (n : Nat) (h : Hm) (g : MF) : Prop := wL D as en h (k_me4 P X g n) X
def k_me2 (m : MN) (as : EL) (h : Hm) (p : RT × Nat) : Prop := wOp (meth p.1 m) (k_me3 D en P X as p.2 h)
def k_me1 (m : MN) (as : EL) (x : PV) (h : Hm) : Prop := wOp (rcv x h) (k_me2 D en P X m as h)
def k_attr (n : Nat) (x : PV) (h : Hm) : Prop := wR (atF D.P.aok n x h) P X
def k_tup (xs : List PV) (h : Hm) : Prop := xs.length ≤ 16777216 ∧ P (.tup xs) h
def k_lst (xs : List PV) (h : Hm) : Prop := xs.length ≤ 16777216 ∧ P (.ref h.length) (h ++ [.lst xs])
def k_ix2 (x y : PV) (h : Hm) : Prop := wR (pIx x y h) P X
def k_ix1 (i : E) (x : PV) (h : Hm) : Prop := wE D i en h (k_ix2 P X x) X
def k_sl3 (x : PV) (l u : Option Int) (h : Hm) : Prop := wR (pSl x l u h) P X
def k_sl2 (hi : EL) (x : PV) (l : Option Int) (h : Hm) : Prop := wOI D hi en h (k_sl3 P X x l) X
def k_sl1 (lo hi : EL) (x : PV) (h : Hm) : Prop := wOI D lo en h (k_sl2 D en P X hi x) X
def k_oi2 (P : Option Int → Hm → Prop) (h : Hm) (i : Int) : Prop := P (some i) h
def k_oi (P : Option Int → Hm → Prop) (x : PV) (h : Hm) : Prop := wInt x (k_oi2 P h)
def k_lc (t : CTg) (vs : List Nat) (c : EL) (e : E) (it : ItF) (h : Hm) : Prop := wR (lcL it t (evC D c) (ev D e).1 (wipeE en vs) h.length D.m 0 (h ++ [.lst []])) P X
def k_l2 (x : PV) (xs : List PV) (h : Hm) : Prop := PL (x :: xs) h
def k_l1 (r : EL) (x : PV) (h : Hm) : Prop := wL D r en h (k_l2 PL x) X
def k_tr (v : PV) (h : Hm) : Prop := wR (truth v h) PB X
def k_bl2 (h : Hm) (k : Bool) : Prop := PB k h
def k_bl (v : PV) (h : Hm) : Prop := wBl v (k_bl2 PB h)
def k_tn (k : Bool) (h : Hm) : Prop := PB (!k) h
def k_ta (b : E) (k : Bool) (h : Hm) : Prop := if k = true then wT D b en h PB X else PB false h
def k_to (b : E) (k : Bool) (h : Hm) : Prop := if k = true then PB true h else wT D b en h PB X
def k_it (P : ItF → Hm → Prop) (x : PV) (h : Hm) : Prop := wR (itOf x h) P X
def k_r1 (P : ItF → Hm → Prop) (x : PV) (h : Hm) : Prop := wR (r1K [x] h) P X
def k_r2b (P : ItF → Hm → Prop) (x y : PV) (h : Hm) : Prop := wR (r2K [x, y] h) P X
def k_r2 (P : ItF → Hm → Prop) (f : E) (x : PV) (h : Hm) : Prop := wE D f en h (k_r2b X P x) X
def k_un (N : En → Hm → Prop) (_ : Unit) (h : Hm) : Prop := N en h
def k_gs2 (ov x iv : PV) (h : Hm) : Prop := wR (pSet ov iv x h) (k_un en N) X
def k_gs1 (i : E) (x ov : PV) (h : Hm) : Prop := wE D i en h (k_gs2 en X N ov x) X
def k_gt (gs : GL) (h : Hm) (xs : List PV) : Prop := xs.length = gs.len ∧ wGs D gs xs en h N XF
def k_gc (r : GL) (xs : List PV) (en1 : En) (h : Hm) : Prop := wGs D r xs en1 h N X
def k_xs (e : Ex) (h : Hm) : Prop := XS e en h
def k_seq (b : S) (en1 : En) (h : Hm) : Prop := wS D b en1 h N V B C XS
def k_ex (_ : PV) (h : Hm) : Prop := N en h
def k_sif (a b : S) (k : Bool) (h : Hm) : Prop := if k = true then wS D a en h N V B C XS else wS D b en h N V B C XS
def k_set (i : Nat) (x : PV) (h : Hm) : Prop := N (en.set i (some x)) h
def k_st (g : G) (x : PV) (h : Hm) : Prop := wG D g x en h N (k_xs en XS)
def k_par2 (i j : Nat) (h : Hm) (v w : PV) : Prop := N ((en.set i (some v)).set j (some w)) h
def k_par (i j : Nat) (xs : List PV) (h : Hm) : Prop := wTwo xs (k_par2 en N i j h)
def k_aug2 (i : Nat) (o : PySem.Operator) (x y : PV) (h : Hm) : Prop := wR (augF o x y h) (k_set en N i) (k_xs en XS)
def k_aug1 (i : Nat) (o : PySem.Operator) (e : E) (h : Hm) (x : PV) : Prop := wE D e en h (k_aug2 en N XS i o x) (k_xs en XS)
def k_sa2 (n : Nat) (v x : PV) (h : Hm) : Prop := wR (putA D.P.aok n x v h) (k_un en N) (k_xs en XS)
def k_sa1 (n : Nat) (o : E) (v : PV) (h : Hm) : Prop := wE D o en h (k_sa2 D en N XS n v) (k_xs en XS)
def k_aa4 (n : Nat) (x : PV) (c : Option Nat) (z : PV) (h : Hm) : Prop := wSR (augK D.P.aok n c x z en h) N V B C XS
def k_aa3 (n : Nat) (op : PySem.Operator) (x : PV) (c : Option Nat) (v y : PV) (h : Hm) : Prop := wR (augF op v y h) (k_aa4 D en N V B C XS n x c) (k_xs en XS)
def k_aa2 (n : Nat) (op : PySem.Operator) (e : E) (x : PV) (c : Option Nat) (v : PV) (h : Hm) : Prop := wE D e en h (k_aa3 D en N V B C XS n op x c v) (k_xs en XS)
def k_aa1 (n : Nat) (op : PySem.Operator) (e : E) (x : PV) (h : Hm) : Prop := wR (atF D.P.aok n x h) (k_aa2 D en N V B C XS n op e x (clsAt x h)) (k_xs en XS)
def k_frl (g : G) (b : S) (it : ItF) (h : Hm) : Prop := wSR (forL it (evG D g) (evS D b) D.m 0 en h) N V B C XS
def k_try (isx : Nat → Nat → Option Bool) (g : Nat) (oi : Option Nat) (s : Sui) (V : PV → Hm → Prop) (XS' : Ex → En → Hm → Prop) (e : Ex) (en : En) (h : Hm) : Prop := wOp (isx e.c g) fun b => if b = true then e.x = none ∧ slotOk oi en = true ∧ wOp (evXS (isx e.c) s) fun r => V (.bl r) h else XS' e en h
def k_rn (P : PV → Hm → Prop) (_ : En) (h : Hm) : Prop := P .non h
def k_rx (_ : En) (_ : Hm) : Prop := False
def k_re (X : Ex → Hm → Prop) (e : Ex) (_ : En) (h : Hm) : Prop := X e h
end
section
variable {α β : Type} {P : α → Hm → Prop} {P' : PV → Hm → Prop} {PB : Bool → Hm → Prop} {PL : List PV → Hm → Prop} {X X' : Ex → Hm → Prop} {N : En → Hm → Prop} {V : PV → Hm → Prop} {B C : En → Hm → Prop} {XS : Ex → En → Hm → Prop} {D : Dn} {en : En} {h : Hm}
theorem wR.mono {r : R α} {P Q : α → Hm → Prop} {X Y : Ex → Hm → Prop} (a : wR r P X) (p : ∀ v h, P v h → Q v h) (x : ∀ e h, X e h → Y e h) : wR r Q Y := by
  cases r with
  | ok v h => exact p _ _ a
  | ex e h => exact x _ _ a
  | bad => exact a
theorem wSR.mono {r : SR} {N N' : En → Hm → Prop} {V V' : PV → Hm → Prop} {B B' C C' : En → Hm → Prop} {X X' : Ex → En → Hm → Prop} (a : wSR r N V B C X) (n : ∀ e h, N e h → N' e h) (v : ∀ e h, V e h → V' e h) (b : ∀ e h, B e h → B' e h) (c : ∀ e h, C e h → C' e h) (x : ∀ e en h, X e en h → X' e en h) : wSR r N' V' B' C' X' := by
  cases r with
  | nx en h => exact n _ _ a
  | rt en h => exact v _ _ a
  | bk en h => exact b _ _ a
  | ct en h => exact c _ _ a
  | ex e en h => exact x _ _ _ a
  | bad => exact a
theorem wR_bind {r : R β} {f : β → Hm → R α} : wR (r.bind f) P X = wR r (fun a h => wR (f a h) P X) X := by cases r <;> rfl
theorem wR_noex {r : R α} : wR r.noex P X = wR r P (fun _ _ => False) := by cases r <;> rfl
theorem wSR_toS {r : R β} {f : β → Hm → SR} : wSR (r.toS en f) N V B C XS = wR r (fun a h => wSR (f a h) N V B C XS) (fun e h => XS e en h) := by cases r <;> rfl
theorem wSR_then {r : SR} {f : CS} : wSR (r.then f) N V B C XS = wSR r (fun en h => wSR (f en h) N V B C XS) V B C XS := by cases r <;> rfl
theorem wR_ret {r : SR} : wR r.ret P' X = wSR r (k_rn P') P' k_rx k_rx (k_re X) := by cases r <;> rfl
theorem wR_ok {a : α} : wR (.ok a h) P X = P a h := rfl
theorem wR_bad : wR (.bad : R α) P X = False := rfl
theorem wR_ite {c : Prop} [Decidable c] {a b : R α} : wR (if c then a else b) P X = if c then wR a P X else wR b P X := by split <;> rfl
@[simp] theorem wV_some {v : PV} {f : PV → Prop} : wV (some (some v)) f = f v := rfl
@[simp] theorem wV_none {f : PV → Prop} : wV (some none) f = False := rfl
@[simp] theorem wV_no {f : PV → Prop} : wV none f = False := rfl
@[simp] theorem wBl_bl {v : Bool} {f : Bool → Prop} : wBl (.bl v) f = f v := rfl
@[simp] theorem wBl_int {v : Int} {f : Bool → Prop} : wBl (.int v) f = False := rfl
@[simp] theorem wInt_int {v : Int} {f : Int → Prop} : wInt (.int v) f = f v := rfl
@[simp] theorem wTwo_two {v w : PV} {f : PV → PV → Prop} : wTwo [v, w] f = f v w := rfl
@[simp] theorem wOp_some {v : α} {f : α → Prop} : wOp (some v) f = f v := rfl
@[simp] theorem wOp_none {f : α → Prop} : wOp none f = False := rfl
@[simp] theorem dnF_P {fb : List FB} {p : Pg} {m k : Nat} : (dnF fb p m k).P = p := rfl
@[simp] theorem dnF_m {fb : List FB} {p : Pg} {m k : Nat} : (dnF fb p m k).m = m := rfl
@[simp] theorem dnF_call {fb : List FB} {p : Pg} {m k f : Nat} : (dnF fb p m k).call f = callF fb p m (k + 1) f := rfl
@[simp] theorem dnF_call1 {fb : List FB} {p : Pg} {m k f : Nat} : (dnF fb p m k).call1 f = callF fb p m k f := rfl

/-! expressions -/
theorem e1_var {i : Nat} : wE D (.var i) en h P' X = wV en[i]? (k_at P' h) := by
  unfold wE; show wR (cVar i en h) P' X = _; unfold cVar
  cases en[i]? with
  | none => rfl
  | some o => cases o <;> rfl
theorem e1_int {i : Int} : wE D (.int i) en h P' X = P' (.int i) h := rfl
theorem e1_str {s : List Nat} : wE D (.str s) en h P' X = P' (.str s) h := rfl
theorem e1_bl {b : Bool} : wE D (.bl b) en h P' X = P' (.bl b) h := rfl
theorem e1_non : wE D .non en h P' X = P' .non h := rfl
theorem e1_glob {g : Nat} : wE D (.glob g) en h P' X = wOp D.P.globs[g]? (k_at2 P' h) := by
  unfold wE; show wR ((match D.P.globs[g]? with | some (_, v) => cPure v | none => fun _ _ => .bad : CE) en h) P' X = _
  cases D.P.globs[g]? <;> rfl
theorem e1_bin {o : PySem.Operator} {a b : E} : wE D (.bin o a b) en h P' X = wE D a en h (k_bin1 D en P' X o b) X := by
  show wR (R.bind _ fun x h1 => R.bind _ fun y h2 => _) P' X = _
  simp only [wR_bind]; rfl
theorem e1_neg {a : E} : wE D (.neg a) en h P' X = wE D a en h (k_neg P' X) X := by
  show wR (R.bind _ fun x h1 => _) P' X = _
  simp only [wR_bind]; rfl
theorem e1_bitl {a : E} : wE D (.bitl a) en h P' X = wE D a en h (k_bits P' X) X := by
  show wR (R.bind _ fun x h1 => _) P' X = _
  simp only [wR_bind]; rfl
theorem wR_toB {c : CE} {P : Bool → Hm → Prop} : wR (toB c en h) P X = wR (c en h) (fun v h1 => wBl v fun k => P k h1) X := by
  unfold toB
  rw [wR_bind]
  congr 1
  funext v h1
  cases v <;> rfl
theorem e1_not {a : E} : wE D (.not a) en h P' X = wE D a en h (k_not1 P') X := by
  show wR (R.bind (toB _ en h) fun k h1 => _) P' X = _
  rw [wR_bind, wR_toB]; rfl
theorem e1_and {a b : E} : wE D (.and a b) en h P' X = wE D a en h (k_and1 D en P' X b) X := by
  show wR (R.bind (toB _ en h) fun k h1 => _) P' X = _
  rw [wR_bind, wR_toB]
  simp only [wR_ite]; rfl
theorem e1_or {a b : E} : wE D (.or a b) en h P' X = wE D a en h (k_or1 D en P' X b) X := by
  show wR (R.bind (toB _ en h) fun k h1 => _) P' X = _
  rw [wR_bind, wR_toB]
  simp only [wR_ite]; rfl
theorem e1_cmp {o : PySem.CmpOp} {a b : E} : wE D (.cmp o a b) en h P' X = wE D a en h (k_cmp1 D en P' X o b) X := by
  show wR (R.bind _ fun x h1 => R.bind _ fun y h2 => _) P' X = _
  simp only [wR_bind]; rfl
theorem e1_chain {o o' : PySem.CmpOp} {a b c : E} : wE D (.chain o o' a b c) en h P' X = wE D a en h (k_ch1 D en P' X o o' b c) X := by
  show wR (R.bind _ fun x h1 => R.bind _ fun y h2 => R.bind _ fun z h3 => _) P' X = _
  simp only [wR_bind]
  unfold wE
  have key : ∀ (y z : PV) (h3 : Hm), wR (match z with
      | .bl true => ((ev D c).1 en h3).bind fun w h4 => cmpF o' y w h4
      | .bl false => R.ok (PV.bl false) h3
      | _ => R.bad) P' X = k_ch3 D en P' X o' c y z h3 := by
    intro y z h3
    unfold k_ch3
    cases z with
    | bl k =>
      cases k with
      | true => dsimp only; rw [wR_bind]; rfl
      | false => rfl
    | _ => rfl
  congr 1; funext x h1
  show wR _ _ _ = wR _ _ _
  congr 1; funext y h2
  show wR _ _ _ = wR _ _ _
  congr 1; funext z h3
  exact key y z h3
theorem e1_ite {t a b : E} : wE D (.ite t a b) en h P' X = wT D t en h (k_ite D en P' X a b) X := by
  show wR (R.bind _ fun k h1 => _) P' X = _
  simp only [wR_bind, wR_ite]; rfl
theorem e1_call {f : Nat} {as : EL} : wE D (.call f as) en h P' X = wL D as en h (k_call D P' X f as.len) X := by
  show wR (R.bind _ fun k h1 => _) P' X = _
  simp only [wR_bind]; rfl
theorem e1_callK {f : Nat} {as ws : EL} : wE D (.callK f as ws) en h P' X = wL D as en h (k_ck1 D en P' X f as.len ws.len ws) X := by
  show wR (R.bind _ fun xs h1 => R.bind _ fun zs h2 => if (_ = _ ∧ _ = _ : Prop) then _ else _) P' X = _
  simp only [wR_bind, wR_ite, wR_bad]
  show wR _ _ _ = wR _ _ _
  congr 1; funext xs h1
  show wR _ _ _ = wR _ _ _
  congr 1; funext zs h2
  unfold k_ck2
  by_cases e : xs.length = as.len ∧ zs.length = ws.len
  · rw [if_pos e]; simp [e]
  · rw [if_neg e]; simp [e]
theorem e1_eqd {a b : E} : wE D (.eqd a b) en h P' X = wE D a en h (k_eqd1 D en P' X b) X := by
  show wR (R.bind _ fun xs h1 => R.bind _ fun zs h2 => pEqd _ _ _) P' X = _
  unfold pEqd
  simp only [wR_bind, wR_ite, wR_bad, wR_ok]
  show wR _ _ _ = wR _ _ _
  congr 1; funext xs h1
  show wR _ _ _ = wR _ _ _
  congr 1; funext zs h2
  unfold k_eqd2
  by_cases e : dictEq xs zs h2 = true
  · rw [if_pos e]; simp [e]
  · rw [if_neg e]; simp [e]
theorem e1_make {c : Nat} {as : EL} : wE D (.make c as) en h P' X = wOp D.P.clss[c]? (k_mk1 D en P' X c as h) := by
  unfold wE
  show wR ((match D.P.clss[c]? with | some cd => cMake (D.call1 cd.init) c (D.P.dv cd.init (as.len + 1)) (evL D as) | none => fun _ _ => .bad : CE) en h) P' X = _
  cases D.P.clss[c]? with
  | none => rfl
  | some cd =>
    show wR (R.bind _ fun k h1 => R.bind _ fun v h2 => if v = PV.non then R.ok (PV.ref h1.length) h2 else R.bad) P' X = _
    simp only [wR_bind, wR_ite, wR_ok, wR_bad, wOp_some]
    show _ = wR _ _ _
    congr 1; funext xs h1
    show _ = wR _ _ _
    congr 1; funext v h2
    by_cases e : v = .non <;> simp [e, k_mk3]
theorem e1_meO {m : Nat} {o : E} {as : EL} : wE D (.meO m o as) en h P' X = wE D o en h (k_mo1 D en P' X m as) X := by
  show wR (R.bind _ fun x h1 => _) P' X = _
  rw [wR_bind]
  unfold wE
  congr 1; funext x h1
  unfold k_mo1
  cases moOf D.P.mt m x h1 with
  | none => rfl
  | some f => simp only [wR_bind]; rfl
theorem e1_bi {b : BN} {as : EL} : wE D (.bi b as) en h P' X = wL D as en h (k_bi P' X b) X := by
  show wR (R.bind _ fun k h1 => _) P' X = _
  simp only [wR_bind]; rfl
theorem e1_isi {c : TN} {a : E} : wE D (.isi c a) en h P' X = wE D a en h (k_isi P' c) X := by
  show wR (R.bind _ fun k h1 => _) P' X = _
  simp only [wR_bind]
  unfold wE
  congr 1; funext x h1
  unfold k_isi
  cases tnOf x h1 <;> rfl
theorem e1_meth {m : MN} {o : E} {as : EL} : wE D (.meth m o as) en h P' X = wE D o en h (k_me1 D en P' X m as) X := by
  show wR (R.bind _ fun x h1 => _) P' X = _
  rw [wR_bind]
  unfold wE
  congr 1; funext x h1
  unfold k_me1
  cases rcv x h1 with
  | none => rfl
  | some p =>
    obtain ⟨t, n⟩ := p
    dsimp only [wOp, k_me2]
    cases meth t m with
    | none => rfl
    | some g => simp only [wR_bind]; rfl
theorem e1_attr {n : Nat} {o : E} : wE D (.attr n o) en h P' X = wE D o en h (k_attr D P' X n) X := by
  show wR (R.bind _ fun x h1 => _) P' X = _
  rw [wR_bind]; rfl
theorem e1_tup {es : EL} : wE D (.tup es) en h P' X = wL D es en h (k_tup P') X := by
  show wR (R.bind _ fun x h1 => _) P' X = _
  rw [wR_bind]
  unfold wL
  congr 1; funext xs h1
  by_cases e : xs.length ≤ 16777216 <;> simp [e, wR_ok, wR_bad, k_tup, k_lst]
theorem e1_lst {es : EL} : wE D (.lst es) en h P' X = wL D es en h (k_lst P') X := by
  show wR (R.bind _ fun x h1 => _) P' X = _
  rw [wR_bind]
  unfold wL
  congr 1; funext xs h1
  by_cases e : xs.length ≤ 16777216 <;> simp [e, wR_ok, wR_bad, k_tup, k_lst]
theorem e1_dict : wE D .dict en h P' X = P' (.ref h.length) (h ++ [.dK []]) := rfl
theorem e1_dictT : wE D .dictT en h P' X = P' (.ref h.length) (h ++ [.dT []]) := rfl
theorem e1_ix {a i : E} : wE D (.ix a i) en h P' X = wE D a en h (k_ix1 D en P' X i) X := by
  show wR (R.bind _ fun x h1 => R.bind _ fun y h2 => _) P' X = _
  simp only [wR_bind]; rfl
theorem e1_sl {a : E} {lo hi : EL} : wE D (.sl a lo hi) en h P' X = wE D a en h (k_sl1 D en P' X lo hi) X := by
  show wR (R.bind _ fun x h1 => R.bind _ fun y h2 => R.bind _ fun z h3 => _) P' X = _
  simp only [wR_bind]; rfl
theorem o1_nil {P : Option Int → Hm → Prop} : wOI D .nil en h P X = P none h := rfl
theorem o1_cons {e : E} {r : EL} {P : Option Int → Hm → Prop} : wOI D (.cons e r) en h P X = wE D e en h (k_oi P) X := by
  show wR (R.bind _ fun x h1 => _) P X = _
  rw [wR_bind]
  unfold wE
  congr 1; funext x h1
  unfold k_oi
  cases x <;> rfl
theorem e1_lc {ik : IK} {ia : EL} {t : CTg} {vs : List Nat} {c : EL} {e : E} : wE D (.lc ik ia t vs c e) en h P' X = wI D ik ia en h (k_lc D en P' X t vs c e) X := by
  show wR (R.bind _ fun x h1 => _) P' X = _
  rw [wR_bind]; rfl
theorem l1_nil : wL D .nil en h PL X = PL [] h := rfl
theorem l1_cons {e : E} {r : EL} : wL D (.cons e r) en h PL X = wE D e en h (k_l1 D en X PL r) X := by
  show wR (R.bind _ fun x h1 => R.bind _ fun y h2 => _) PL X = _
  simp only [wR_bind]; rfl
/-! tests -/
def plainT : E → Bool
  | .bitl _ => true | .var _ => true | .int _ => true | .str _ => true | .bl _ => true | .non => true | .glob _ => true | .bin .. => true | .neg _ => true | .call .. => true | .callK .. => true | .make .. => true | .meO .. => true | .bi .. => true | .isi .. => true | .meth .. => true | .attr .. => true | .tup _ => true | .lst _ => true | .ix .. => true | .sl .. => true | .lc .. => true
  | _ => false
theorem t1_tru {e : E} (p : plainT e = true) : wT D e en h PB X = wE D e en h (k_tr X PB) X := by
  have : (ev D e).2 = cTru (ev D e).1 := by cases e <;> first | rfl | cases p
  unfold wT
  rw [this]
  show wR (R.bind _ fun x h1 => _) PB X = _
  rw [wR_bind]; rfl
theorem t1_cmp {o : PySem.CmpOp} {a b : E} : wT D (.cmp o a b) en h PB X = wE D (.cmp o a b) en h (k_bl PB) X := wR_toB
theorem t1_eqd {a b : E} : wT D (.eqd a b) en h PB X = wE D (.eqd a b) en h (k_bl PB) X := wR_toB
theorem t1_chain {o o' : PySem.CmpOp} {a b c : E} : wT D (.chain o o' a b c) en h PB X = wE D (.chain o o' a b c) en h (k_bl PB) X := wR_toB
theorem t1_not {a : E} : wT D (.not a) en h PB X = wT D a en h (k_tn PB) X := by
  show wR (R.bind _ fun x h1 => _) PB X = _
  rw [wR_bind]; rfl
theorem t1_and {a b : E} : wT D (.and a b) en h PB X = wT D a en h (k_ta D en X PB b) X := by
  show wR (R.bind _ fun x h1 => _) PB X = _
  simp only [wR_bind, wR_ite]; rfl
theorem t1_or {a b : E} : wT D (.or a b) en h PB X = wT D a en h (k_to D en X PB b) X := by
  show wR (R.bind _ fun x h1 => _) PB X = _
  simp only [wR_bind, wR_ite]; rfl
theorem c1_nil : wC D .nil en h PB X = PB true h := rfl
theorem c1_cons {e : E} {r : EL} : wC D (.cons e r) en h PB X = wT D e en h PB X := rfl
theorem i1_val {e : E} {P : ItF → Hm → Prop} : wI D .val (.cons e .nil) en h P X = wE D e en h (k_it X P) X := by
  show wR (R.bind (R.bind _ fun x h1 => R.bind _ fun xs h2 => _) fun xs h1 => _) P X = _
  simp only [wR_bind]; rfl
theorem i1_r1 {e : E} {P : ItF → Hm → Prop} : wI D .r1 (.cons e .nil) en h P X = wE D e en h (k_r1 X P) X := by
  show wR (R.bind (R.bind _ fun x h1 => R.bind _ fun xs h2 => _) fun xs h1 => _) P X = _
  simp only [wR_bind]; rfl
theorem i1_r2 {e f : E} {P : ItF → Hm → Prop} : wI D .r2 (.cons e (.cons f .nil)) en h P X = wE D e en h (k_r2 D en X P f) X := by
  show wR (R.bind (R.bind _ fun x h1 => R.bind (R.bind _ fun y h3 => R.bind _ fun z h4 => _) fun xs h2 => _) fun xs h1 => _) P X = _
  simp only [wR_bind]; rfl
/-! targets, statements -/
theorem g1_nm {i : Nat} {x : PV} {P : En → Hm → Prop} : wG D (.nm i) x en h P X = P (en.set i (some x)) h := rfl
theorem g1_sub {o i : E} {x : PV} {P : En → Hm → Prop} : wG D (.sub o i) x en h P X = wE D o en h (k_gs1 D en X P i x) X := by
  show wR (R.bind _ fun x h1 => R.bind _ fun y h2 => R.bind _ fun _ h3 => _) P X = _
  simp only [wR_bind]; rfl
theorem g1_tup {gs : GL} {x : PV} {P : En → Hm → Prop} : wG D (.tup gs) x en h P X = wOp (seqOf x h) (k_gt D en P gs h) := by
  show wR (gT _ _ x en h) P X = _
  unfold gT
  cases seqOf x h with
  | none => rfl
  | some xs =>
    show wR (if xs.length = gs.len then _ else _) P X = k_gt D en P gs h xs
    rw [wR_ite]
    unfold k_gt
    by_cases e : xs.length = gs.len
    · rw [if_pos e, wR_noex]; simp only [e, true_and]; rfl
    · rw [if_neg e]; simp only [e, false_and]; rfl
theorem gs1_nil {P : En → Hm → Prop} : wGs D .nil [] en h P X = P en h := rfl
theorem gs1_cons {g : G} {r : GL} {x : PV} {xs : List PV} {P : En → Hm → Prop} : wGs D (.cons g r) (x :: xs) en h P X = wG D g x en h (k_gc D X P r xs) XF := by
  show wR (R.bind (R.noex _) fun _ _ => _) P X = _
  rw [wR_bind, wR_noex]
  unfold wG
  have : (fun (e : Ex) (h : Hm) => False) = (fun _ _ => False) := rfl
  cases evG D g x en h <;> rfl
theorem s1_skip : wS D .skip en h N V B C XS = N en h := rfl
theorem s1_seq {a b : S} : wS D (.seq a b) en h N V B C XS = wS D a en h (k_seq D N V B C XS b) V B C XS := wSR_then
theorem s1_ret {e : E} : wS D (.ret e) en h N V B C XS = wE D e en h V (k_xs en XS) := by
  show wSR (R.toS _ en _) N V B C XS = _
  rw [wSR_toS]; rfl
theorem s1_retN : wS D .retN en h N V B C XS = V .non h := rfl
theorem s1_expr {e : E} : wS D (.expr e) en h N V B C XS = wE D e en h (k_ex en N) (k_xs en XS) := by
  show wSR (R.toS _ en _) N V B C XS = _
  rw [wSR_toS]; rfl
theorem s1_ite {t : E} {a b : S} : wS D (.ite t a b) en h N V B C XS = wT D t en h (k_sif D en N V B C XS a b) (k_xs en XS) := by
  show wSR (R.toS _ en _) N V B C XS = _
  rw [wSR_toS]
  unfold wT evT
  congr 1; funext k h1; cases k <;> rfl
theorem s1_brk : wS D .brk en h N V B C XS = B en h := rfl
theorem s1_cont : wS D .cont en h N V B C XS = C en h := rfl
theorem s1_bad : wS D .bad en h N V B C XS = False := rfl
theorem s1_set {i : Nat} {e : E} : wS D (.set i e) en h N V B C XS = wE D e en h (k_set en N i) (k_xs en XS) := by
  show wSR (R.toS _ en fun x h1 => R.toS _ _ _) N V B C XS = _
  rw [wSR_toS]; rfl
theorem s1_setT {g : G} {e : E} : wS D (.setT g e) en h N V B C XS = wE D e en h (k_st D en N XS g) (k_xs en XS) := by
  show wSR (R.toS _ en fun x h1 => R.toS _ _ _) N V B C XS = _
  simp only [wSR_toS]; rfl
theorem s1_par {i j : Nat} {as : EL} : wS D (.par i j as) en h N V B C XS = wL D as en h (k_par en N i j) (k_xs en XS) := by
  show wSR (R.toS _ en fun x h1 => _) N V B C XS = _
  rw [wSR_toS]
  unfold wL
  congr 1; funext xs h1
  rcases xs with _ | ⟨a, _ | ⟨b, _ | ⟨_, _⟩⟩⟩ <;> rfl
theorem s1_aug {i : Nat} {o : PySem.Operator} {e : E} : wS D (.aug i o e) en h N V B C XS = wV en[i]? (k_aug1 D en N XS i o e h) := by
  show wSR (match en[i]? with | some (some x) => _ | _ => .bad) N V B C XS = _
  cases en[i]? with
  | none => rfl
  | some v => cases v with
    | none => rfl
    | some v =>
      show wSR (R.toS _ en fun x h1 => R.toS _ _ _) N V B C XS = _
      simp only [wSR_toS]; rfl
theorem s1_sattr {n : Nat} {o e : E} : wS D (.sattr n o e) en h N V B C XS = wE D e en h (k_sa1 D en N XS n o) (k_xs en XS) := by
  show wSR (R.toS _ en fun x h1 => R.toS _ _ fun _ _ => R.toS _ _ _) N V B C XS = _
  simp only [wSR_toS]; rfl
theorem s1_aattr {n : Nat} {op : PySem.Operator} {o e : E} : wS D (.aattr n o op e) en h N V B C XS = wE D o en h (k_aa1 D en N V B C XS n op e) (k_xs en XS) := by
  show wSR (R.toS _ en fun x h1 => R.toS _ _ fun _ _ => R.toS _ _ fun _ _ => R.toS _ _ _) N V B C XS = _
  simp only [wSR_toS]; rfl
theorem s1_raise0 {c : Nat} : wS D (.raise0 c) en h N V B C XS = XS ⟨c, none⟩ en h := rfl
theorem wSR_try {isx : Nat → Nat → Option Bool} {g : Nat} {oi : Option Nat} {s : Sui} {r : SR} : wSR (sTry isx g oi s r) N V B C XS = wSR r N V B C (k_try isx g oi s V XS) := by
  cases r with
  | ex e en h =>
    show wSR (sTry isx g oi s (.ex e en h)) N V B C XS = k_try isx g oi s V XS e en h
    unfold sTry k_try
    dsimp only
    cases isx e.c g with
    | none => rfl
    | some b =>
      cases b with
      | false => rfl
      | true =>
        dsimp only [wOp]
        rw [if_pos rfl]
        cases e.x with
        | some _ => simp [wSR]
        | none =>
          dsimp only
          cases evXS (isx e.c) s with
          | none => simp [wSR]
          | some b =>
            by_cases z : slotOk oi en = true
            · simp [z, wSR]
            · simp [z, wSR]
  | _ => rfl
theorem s1_tryO {b : S} {g : Nat} {s : Sui} : wS D (.tryO b g s) en h N V B C XS = wS D b en h N V B C (k_try D.P.isx g none s V XS) := wSR_try
theorem s1_tryA {b : S} {g i : Nat} {s : Sui} : wS D (.tryA b g i s) en h N V B C XS = wS D b en h N V B C (k_try D.P.isx g (some i) s V XS) := wSR_try
theorem s1_whl {t : E} {b : S} : wS D (.whl t b) en h N V B C XS = wSR (whileL (evT D t) (evS D b) D.m en h) N V B C XS := rfl
theorem s1_frl {ik : IK} {ia : EL} {g : G} {b : S} : wS D (.frl ik ia g b) en h N V B C XS = wI D ik ia en h (k_frl D en N V B C XS g b) (k_xs en XS) := by
  show wSR (R.toS _ en _) N V B C XS = _
  rw [wSR_toS]; rfl
end
end RS

set_option Elab.async false
set_option linter.all false
set_option maxRecDepth 100000
set_option maxHeartbeats 4000000
set_option autoImplicit false
namespace RS

/-! ### loops -/
section
variable {D : Dn} {N : En → Hm → Prop} {V : PV → Hm → Prop} {B C : En → Hm → Prop} {X : Ex → En → Hm → Prop}
theorem wSR_loop {r : SR} {f : CS} : wSR (r.loop f) N V B C X = wSR r (fun en h => wSR (f en h) N V B C X) V N (fun en h => wSR (f en h) N V B C X) X := by cases r <;> rfl
theorem for_w {it : ItF} {g : G} {b : S} {m : Nat} {en : En} {h : Hm} (n : Nat) (I : Nat → En → Hm → Prop) (hm : n < m) (h0 : I 0 en h) (fin : ∀ en h, I n en h → it h n = some none ∧ N en h)
    (step : ∀ i en h, i < n → I i en h → ∃ x, it h i = some (some x) ∧ wG D g x en h (fun en1 h1 => wS D b en1 h1 (I (i + 1)) V N (I (i + 1)) X) (k_xs en X)) : wSR (forL it (evG D g) (evS D b) m 0 en h) N V B C X := by
  have key : ∀ (j i m : Nat) (en : En) (h : Hm), i + j = n → j < m → I i en h → wSR (forL it (evG D g) (evS D b) m i en h) N V B C X := by
    intro j
    induction j with
    | zero =>
      intro i m en h e hm hI
      obtain ⟨m, rfl⟩ : ∃ k, m = k + 1 := ⟨m - 1, by omega⟩
      have e : i = n := by omega
      subst e
      obtain ⟨q1, q2⟩ := fin en h hI
      unfold forL
      rw [q1]
      exact q2
    | succ j ih =>
      intro i m en h e hm hI
      obtain ⟨m, rfl⟩ : ∃ k, m = k + 1 := ⟨m - 1, by omega⟩
      obtain ⟨x, q1, q2⟩ := step i en h (by omega) hI
      unfold forL
      rw [q1]
      show wSR (R.toS (evG D g x en h) en fun en1 h1 => (evS D b en1 h1).loop (forL it (evG D g) (evS D b) m (i + 1))) N V B C X
      rw [wSR_toS]
      refine wR.mono q2 (fun en1 h1 q3 => ?_) (fun e h1 q3 => q3)
      rw [wSR_loop]
      exact wSR.mono q3 (fun en2 h2 q4 => ih (i + 1) m en2 h2 (by omega) (by omega) q4) (fun _ _ q => q) (fun _ _ q => q) (fun en2 h2 q4 => ih (i + 1) m en2 h2 (by omega) (by omega) q4) (fun _ _ _ q => q)
  exact key n 0 m en h (by omega) hm h0
theorem while_w {t : E} {b : S} {m : Nat} {en : En} {h : Hm} (I : Nat → En → Hm → Prop) (n : Nat) (hm : n < m) (h0 : I n en h)
    (step : ∀ n en h, I n en h → wT D t en h (fun k h1 => if k = true then wS D b en h1 (fun en2 h2 => ∃ n', n' < n ∧ I n' en2 h2) V N (fun en2 h2 => ∃ n', n' < n ∧ I n' en2 h2) X else N en h1) (k_xs en X)) : wSR (whileL (evT D t) (evS D b) m en h) N V B C X := by
  induction n using Nat.strongRecOn generalizing m en h with
  | ind n ih =>
    obtain ⟨m, rfl⟩ : ∃ k, m = k + 1 := ⟨m - 1, by omega⟩
    show wSR (R.toS (evT D t en h) en fun k h1 => if k = true then (evS D b en h1).loop (whileL (evT D t) (evS D b) m) else .nx en h1) N V B C X
    rw [wSR_toS]
    refine wR.mono (step n en h h0) (fun k h1 q => ?_) (fun _ _ q => q)
    cases k with
    | false => exact q
    | true =>
      rw [if_pos rfl] at q ⊢
      rw [wSR_loop]
      exact wSR.mono q (fun en2 h2 ⟨n', l, q4⟩ => ih n' l (by omega) q4) (fun _ _ q => q) (fun _ _ q => q) (fun en2 h2 ⟨n', l, q4⟩ => ih n' l (by omega) q4) (fun _ _ _ q => q)
end
/-- a list comprehension, its parts doing whatever they do -/
theorem lc_w {D : Dn} {it : ItF} {t : CTg} {c : EL} {e : E} {en : En} {d m : Nat} {h : Hm} {P : PV → Hm → Prop} {X : Ex → Hm → Prop} (n : Nat) (I : Nat → Hm → Prop) (hm : n < m) (h0 : I 0 h) (fin : ∀ h, I n h → it h n = some none ∧ P (.ref d) h)
    (step : ∀ i h, i < n → I i h → ∃ x en2, it h i = some (some x) ∧ bindT t x en h = some en2 ∧ wC D c en2 h (fun k h3 => if k = true then wE D e en2 h3 (fun y h4 => ∃ acc, h4[d]? = some (.lst acc) ∧ acc.length < 16777216 ∧ I (i + 1) (h4.set d (.lst (acc ++ [y])))) XF else I (i + 1) h3) XF) :
    wR (lcL it t (evC D c) (ev D e).1 en d m 0 h) P X := by
  have key : ∀ (j i m : Nat) (h : Hm), i + j = n → j < m → I i h → wR (lcL it t (evC D c) (ev D e).1 en d m i h) P X := by
    intro j
    induction j with
    | zero =>
      intro i m h e hm hI
      obtain ⟨m, rfl⟩ : ∃ k, m = k + 1 := ⟨m - 1, by omega⟩
      have e : i = n := by omega
      subst e
      obtain ⟨q1, q2⟩ := fin h hI
      unfold lcL
      rw [q1]
      exact q2
    | succ j ih =>
      intro i m h e1 hm hI
      obtain ⟨m, rfl⟩ : ∃ k, m = k + 1 := ⟨m - 1, by omega⟩
      obtain ⟨x, en2, q1, q2, q3⟩ := step i h (by omega) hI
      unfold lcL
      rw [q1]
      dsimp only
      rw [q2]
      dsimp only
      rw [wR_bind, wR_noex]
      refine wR.mono q3 (fun k h3 q4 => ?_) (fun _ _ z => z)
      cases k with
      | false => exact ih (i + 1) m h3 (by omega) (by omega) q4
      | true =>
        rw [if_pos rfl] at q4
        show wR (R.bind (R.noex ((ev D e).1 en2 h3)) fun y h4 => lcAdd d y h4 fun h5 => lcL it t (evC D c) (ev D e).1 en d m (i + 1) h5) P X
        rw [wR_bind, wR_noex]
        refine wR.mono q4 (fun y h4 q5 => ?_) (fun _ _ z => z)
        obtain ⟨acc, a1, a2, a3⟩ := q5
        unfold lcAdd
        rw [a1]
        dsimp only
        rw [if_pos a2]
        exact ih (i + 1) m _ (by omega) (by omega) a3
  exact key n 0 m h (by omega) hm h0
/-- a list comprehension whose parts write nothing -/
theorem lc_p {D : Dn} {it : ItF} {t : CTg} {c : EL} {e : E} {en : En} {m : Nat} {h : Hm} {P : PV → Hm → Prop} {X : Ex → Hm → Prop} (n : Nat) (out : Nat → List PV) (hm : n < m) (hn : n < 16777216) (h0 : out 0 = []) (fin : ∀ acc, it (h ++ [.lst acc]) n = some none)
    (step : ∀ i, i < n → ∃ x, ∀ acc, it (h ++ [.lst acc]) i = some (some x) ∧ wOp (bindT t x en (h ++ [.lst acc])) fun en2 => wC D c en2 (h ++ [.lst acc]) (fun k h3 => h3 = h ++ [.lst acc] ∧ if k = true then wE D e en2 (h ++ [.lst acc]) (fun y h4 => h4 = h ++ [.lst acc] ∧ out (i + 1) = out i ++ [y]) XF else out (i + 1) = out i) XF)
    (p : P (.ref h.length) (h ++ [.lst (out n)])) : wR (lcL it t (evC D c) (ev D e).1 en h.length m 0 (h ++ [.lst []])) P X := by
  refine lc_w n (fun i h1 => h1 = h ++ [.lst (out i)] ∧ (out i).length ≤ i) hm ⟨by rw [h0], by rw [h0]; exact Nat.le_refl _⟩ (fun h1 ⟨e, _⟩ => by subst e; exact ⟨fin _, p⟩) fun i h1 hi ⟨e1, e2⟩ => ?_
  subst e1
  obtain ⟨x, q⟩ := step i hi
  obtain ⟨q1, q2⟩ := q (out i)
  cases eb : bindT t x en (h ++ [.lst (out i)]) with
  | none => rw [eb] at q2; exact q2.elim
  | some en2 =>
    rw [eb] at q2
    refine ⟨x, en2, q1, eb, wR.mono q2 (fun k h3 q3 => ?_) (fun _ _ z => z)⟩
    obtain ⟨rfl, q3⟩ := q3
    cases k with
    | false => rw [if_neg Bool.false_ne_true] at q3 ⊢; rw [q3]; exact ⟨rfl, by omega⟩
    | true =>
      rw [if_pos rfl] at q3 ⊢
      refine wR.mono q3 (fun y h4 q4 => ?_) (fun _ _ z => z)
      obtain ⟨rfl, q4⟩ := q4
      refine ⟨out i, by simp, by omega, ?_, ?_⟩
      · rw [q4]; simp
      · rw [q4]; simp; omega

/-! ### the operators at work -/
section
variable {h : Hm} {i j : Int} {x y : PV} {n m : Nat} {xs ys : List PV} {s z : List Nat}
theorem b_add : binF .Add = pAdd := rfl
theorem b_sub : binF .Sub = pSub := rfl
theorem b_mul : binF .Mult = pMul := rfl
theorem b_div : binF .FloorDiv = pDiv := rfl
theorem b_mod : binF .Mod = pMod := rfl
theorem b_pow : binF .Pow = pPow := rfl
theorem b_shl : binF .LShift = pShl := rfl
theorem b_shr : binF .RShift = pShr := rfl
theorem b_and : binF .BitAnd = pAnd := rfl
theorem b_or : binF .BitOr = pOr := rfl
theorem b_xor : binF .BitXor = pXor := rfl
theorem c_eq : cmpF .Eq = pEq := rfl
theorem c_ne : cmpF .NotEq = pNe := rfl
theorem c_lt : cmpF .Lt = pLt := rfl
theorem c_le : cmpF .LtE = pLe := rfl
theorem c_gt : cmpF .Gt = pGt := rfl
theorem c_ge : cmpF .GtE = pGe := rfl
theorem c_is : cmpF .Is = pIs := rfl
theorem c_isn : cmpF .IsNot = pIsN := rfl
theorem c_in : cmpF .In = pIn := rfl
theorem c_nin : cmpF .NotIn = pNotIn := rfl
theorem a_add : augF .Add (.int i) (.int j) h = .ok (.int (i + j)) h := rfl
theorem a_sub : augF .Sub (.int i) (.int j) h = .ok (.int (i - j)) h := rfl
theorem p_add : pAdd (.int i) (.int j) h = .ok (.int (i + j)) h := rfl
theorem p_sub : pSub (.int i) (.int j) h = .ok (.int (i - j)) h := rfl
theorem p_mul : pMul (.int i) (.int j) h = if mulOk i j then .ok (.int (i * j)) h else .bad := rfl
theorem p_div : pDiv (.int i) (.int j) h = if divOk j then .ok (.int (i.fdiv j)) h else .bad := rfl
theorem p_mod : pMod (.int i) (.int j) h = if j ≠ 0 then .ok (.int (i.fmod j)) h else .bad := rfl
theorem p_pow : pPow (.int i) (.int j) h = if powOk i j then .ok (.int (i ^ j.toNat)) h else .bad := rfl
theorem p_shr : pShr (.int i) (.int j) h = if 0 ≤ j then .ok (.int (i / 2 ^ j.toNat)) h else .bad := rfl
theorem p_and2 : pAnd (.int i) (.int j) h = .ok (.int (PySem.Builtin.bitAnd i j)) h := rfl
theorem p_bits : pBits (.int i) h = .ok (.int (PySem.Builtin.Int.intBits i : Nat)) h := rfl
theorem p_neg : pNeg (.int i) h = .ok (.int (-i)) h := rfl
theorem p_lt : pLt (.int i) (.int j) h = .ok (.bl (decide (i < j))) h := rfl
theorem p_le : pLe (.int i) (.int j) h = .ok (.bl (decide (i ≤ j))) h := rfl
theorem p_gt : pGt (.int i) (.int j) h = .ok (.bl (decide (j < i))) h := rfl
theorem p_ge : pGe (.int i) (.int j) h = .ok (.bl (decide (j ≤ i))) h := rfl
theorem p_eqi : pEq (.int i) (.int j) h = .ok (.bl (decide (i = j))) h := by simp [pEq, eqB, scalP]
theorem p_nei : pNe (.int i) (.int j) h = .ok (.bl (!decide (i = j))) h := by simp [pNe, eqB, scalP]
theorem p_eqs : pEq (.str s) (.str z) h = .ok (.bl (decide (s = z))) h := by simp [pEq, eqB, scalP]
theorem p_nes : pNe (.str s) (.str z) h = .ok (.bl (!decide (s = z))) h := by simp [pNe, eqB, scalP]
theorem p_eqb {a b : Bool} : pEq (.bl a) (.bl b) h = .ok (.bl (decide (a = b))) h := by simp [pEq, eqB, scalP]
theorem p_isn : pIs x .non h = .ok (.bl (decide (x = .non))) h := by cases x <;> rfl
theorem p_isnn : pIsN x .non h = .ok (.bl (!decide (x = .non))) h := by cases x <;> rfl
theorem t_bl {b : Bool} : truth (.bl b) h = .ok b h := rfl
theorem t_int : truth (.int i) h = .ok (i != 0) h := rfl
theorem lst_lst (e : h[n]? = some (.lst xs)) : lstAt h n = some xs := by unfold lstAt; rw [e]
theorem lst_frz (e : h[n]? = some (.frz xs)) : lstAt h n = some xs := by unfold lstAt; rw [e]
theorem ix_lst {v : PV} (e : lstAt h n = some xs) (a : L2.atI xs i = some v) : pIx (.ref n) (.int i) h = .ok v h := by
  unfold lstAt at e
  unfold pIx
  dsimp only
  split at e
  · rename_i ys q; cases e; rw [q]; dsimp only; rw [a]
  · rename_i ys q; cases e; rw [q]; dsimp only; rw [a]
  · cases e
theorem ix_tup {v : PV} (a : L2.atI xs i = some v) : pIx (.tup xs) (.int i) h = .ok v h := by
  unfold pIx; dsimp only; rw [a]
theorem ix_tupK {v : PV} (a : L2.atI xs i = some v) : pIx (.tupK xs) (.int i) h = .ok v h := by
  unfold pIx; dsimp only; rw [a]
theorem len_lst (e : lstAt h n = some xs) : bi .len [.ref n] h = .ok (.int xs.length) h := by
  unfold lstAt at e
  unfold bi
  dsimp only
  split at e
  · rename_i ys q; cases e; rw [q]
  · rename_i ys q; cases e; rw [q]
  · cases e
theorem len_dK {kvs : List (PV × PV)} (e : h[n]? = some (.dK kvs)) : bi .len [.ref n] h = .ok (.int kvs.length) h := by unfold bi; dsimp only; rw [e]
theorem len_tup : bi .len [.tup xs] h = .ok (.int xs.length) h := rfl
theorem bi_int : bi .int [.int i] h = .ok (.int i) h := rfl
theorem bi_intb {b : Bool} : bi .int [.bl b] h = .ok (.int (if b then 1 else 0)) h := rfl
theorem bi_abs : bi .abs [.int i] h = .ok (.int (if i < 0 then -i else i)) h := rfl
theorem bi_tup (e : lstAt h n = some xs) : bi .tuple [.ref n] h = .ok (.tup xs) h := by unfold bi; dsimp only; rw [e]
theorem bi_lst (e : lstAt h n = some xs) : bi .list [.ref n] h = .ok (.ref h.length) (h ++ [.lst xs]) := by
  unfold lstAt at e
  unfold bi
  dsimp only
  split at e
  · rename_i ys q; cases e; rw [q]; rfl
  · rename_i ys q; cases e; rw [q]; rfl
  · cases e
theorem bi_lstT : bi .list [.tup xs] h = .ok (.ref h.length) (h ++ [.lst xs]) := rfl
theorem set_lst {k : Nat} {v : PV} (e : h[n]? = some (.lst xs)) (a : L2.ixN xs.length i = some k) : pSet (.ref n) (.int i) v h = .ok () (h.set n (.lst (xs.set k v))) := by
  unfold pSet; dsimp only; rw [e]; dsimp only; rw [a]
theorem rcv_lst (e : h[n]? = some (.lst xs)) : rcv (.ref n) h = some (.list, n) := by unfold rcv; dsimp only; rw [e]
theorem rcv_dK {kvs : List (PV × PV)} (e : h[n]? = some (.dK kvs)) : rcv (.ref n) h = some (.dict, n) := by unfold rcv; dsimp only; rw [e]
theorem m_app (e : h[n]? = some (.lst xs)) (l : xs.length < 16777216) {g : MF} (hg : meth .list .append = some g) : g n [x] h = .ok .non (h.set n (.lst (xs ++ [x]))) := by
  cases hg
  unfold mAppend onL; dsimp only; rw [e]; dsimp only; rw [if_pos l]
theorem atI_nat {α : Type} {xs : List α} {k : Nat} : L2.atI xs (k : Int) = xs[k]? := by
  by_cases hk : k < xs.length
  · rw [List.getElem?_eq_getElem hk]; exact L2.atI_nat (List.getElem?_eq_getElem hk)
  · rw [List.getElem?_eq_none (Nat.not_lt.mp hk)]
    unfold L2.atI L2.ixN
    simp
    intro z; omega
end
end RS

set_option Elab.async false
set_option linter.all false
set_option maxRecDepth 100000
set_option maxHeartbeats 4000000
set_option autoImplicit false
namespace RS
open L2

/-! ### what is done with an object, by the object -/
def wIx (o : Option MO) (y : PV) (f : PV → Prop) : Prop := match o with
  | some (.lst xs) => wInt y fun i => wOp (atI xs i) f
  | some (.frz xs) => wInt y fun i => wOp (atI xs i) f
  | some (.dK kvs) => (keyV y).isSome ∧ wOp (getP kvs y) f
  | some (.dT kvs) => (keyT y).isSome ∧ wOp (getP kvs y) f
  | _ => False
def wSq (o : Option MO) (f : List PV → Prop) : Prop := match o with
  | some (.lst xs) => f xs
  | some (.frz xs) => f xs
  | _ => False
def wMl (o : Option MO) (f : List PV → Prop) : Prop := match o with
  | some (.lst xs) => f xs
  | _ => False
def wLs (o : Option MO) (f : List PV → Prop) : Prop := match o with
  | some (.lst xs) => f xs
  | some (.frz xs) => f xs
  | some (.dK kvs) => f (keysP kvs)
  | _ => False
def wDk (o : Option MO) (f : List (PV × PV) → Prop) : Prop := match o with
  | some (.dK kvs) => f kvs
  | _ => False
def wSt (o : Option MO) (i v : PV) (f : MO → Prop) : Prop := match o with
  | some (.lst xs) => wInt i fun k => wOp (ixN xs.length k) fun j => f (.lst (xs.set j v))
  | some (.dK kvs) => ((keyV i).isSome ∧ kvs.length < 16777216) ∧ f (.dK (putP kvs i v))
  | some (.dT kvs) => ((keyT i).isSome ∧ kvs.length < 16777216) ∧ f (.dT (putP kvs i v))
  | _ => False
def wDl (o : Option MO) (k : PV) (f : Option PV → Prop) : Prop := match o with
  | some (.dK kvs) => (keyV k).isSome ∧ f (getP kvs k)
  | some (.dT kvs) => (keyT k).isSome ∧ f (getP kvs k)
  | _ => False
def rcvO (o : Option MO) (n : Nat) : Option (RT × Nat) := match o with
  | some (.lst _) => some (.list, n)
  | some (.frz _) => some (.list, n)
  | some (.dK _) => some (.dict, n)
  | some (.dT _) => some (.dict, n)
  | _ => none
def tnO (o : Option MO) : Option TN := match o with
  | some (.lst _) => some .list
  | some (.frz _) => some .list
  | some (.dK _) => some .dict
  | some (.dT _) => some .dict
  | _ => none
def lstO (o : Option MO) : Option (List PV) := match o with
  | some (.lst xs) => some xs
  | some (.frz xs) => some xs
  | _ => none
section
variable {α : Type} {h : Hm} {n m : Nat} {i j : Int} {x y v : PV} {xs ys : List PV} {kvs : List (PV × PV)} {f : PV → Prop} {fl : List PV → Prop} {P : PV → Hm → Prop} {PU : Unit → Hm → Prop} {PI : ItF → Hm → Prop} {PB : Bool → Hm → Prop} {X : Ex → Hm → Prop} {c : Nat} {fs : List (Nat × PV)}
theorem wIx_l : wIx (some (.lst xs)) (.int i) f = wOp (atI xs i) f := rfl
theorem wIx_f : wIx (some (.frz xs)) (.int i) f = wOp (atI xs i) f := rfl
theorem wIx_d : wIx (some (.dK kvs)) y f = ((keyV y).isSome ∧ wOp (getP kvs y) f) := rfl
theorem wIx_t : wIx (some (.dT kvs)) y f = ((keyT y).isSome ∧ wOp (getP kvs y) f) := rfl
theorem wSq_l : wSq (some (.lst xs)) fl = fl xs := rfl
theorem wSq_f : wSq (some (.frz xs)) fl = fl xs := rfl
theorem wMl_l : wMl (some (.lst xs)) fl = fl xs := rfl
theorem wLs_l : wLs (some (.lst xs)) fl = fl xs := rfl
theorem wLs_f : wLs (some (.frz xs)) fl = fl xs := rfl
theorem wLs_d : wLs (some (.dK kvs)) fl = fl (keysP kvs) := rfl
theorem wDk_d {f : List (PV × PV) → Prop} : wDk (some (.dK kvs)) f = f kvs := rfl
theorem wSt_l {f : MO → Prop} : wSt (some (.lst xs)) (.int i) v f = wOp (ixN xs.length i) fun j => f (.lst (xs.set j v)) := rfl
theorem wSt_d {f : MO → Prop} : wSt (some (.dK kvs)) x v f = (((keyV x).isSome ∧ kvs.length < 16777216) ∧ f (.dK (putP kvs x v))) := rfl
theorem wSt_t {f : MO → Prop} : wSt (some (.dT kvs)) x v f = (((keyT x).isSome ∧ kvs.length < 16777216) ∧ f (.dT (putP kvs x v))) := rfl
theorem wDl_d {f : Option PV → Prop} : wDl (some (.dK kvs)) x f = ((keyV x).isSome ∧ f (getP kvs x)) := rfl
theorem wDl_t {f : Option PV → Prop} : wDl (some (.dT kvs)) x f = ((keyT x).isSome ∧ f (getP kvs x)) := rfl
theorem rcvO_l : rcvO (some (.lst xs)) n = some (.list, n) := rfl
theorem rcvO_f : rcvO (some (.frz xs)) n = some (.list, n) := rfl
theorem rcvO_d : rcvO (some (.dK kvs)) n = some (.dict, n) := rfl
theorem rcvO_t : rcvO (some (.dT kvs)) n = some (.dict, n) := rfl
theorem tnO_l : tnO (some (.lst xs)) = some .list := rfl
theorem tnO_f : tnO (some (.frz xs)) = some .list := rfl
theorem tnO_d : tnO (some (.dK kvs)) = some .dict := rfl
theorem tnO_t : tnO (some (.dT kvs)) = some .dict := rfl
theorem lstO_l : lstO (some (.lst xs)) = some xs := rfl
theorem lstO_f : lstO (some (.frz xs)) = some xs := rfl
theorem keyV_i : (keyV (.int i)).isSome = true := rfl
theorem keyV_s {s : List Nat} : (keyV (.str s)).isSome = true := rfl
/-- reading -/
theorem q_ix : wR (pIx (.ref n) y h) P X = wIx h[n]? y (k_at P h) := by
  unfold pIx wIx
  dsimp only
  cases h[n]? with
  | none => rfl
  | some o =>
    cases o with
    | lst xs => cases y <;> first | rfl | (rename_i i; dsimp only [wInt]; cases atI xs i <;> rfl)
    | frz xs => cases y <;> first | rfl | (rename_i i; dsimp only [wInt]; cases atI xs i <;> rfl)
    | dK kvs =>
      dsimp only
      by_cases e : (keyV y).isSome = true
      · rw [if_pos e]; simp only [e, true_and]; cases getP kvs y <;> rfl
      · rw [if_neg e]; simp [e, wR_bad]
    | dT kvs =>
      dsimp only
      by_cases e : (keyT y).isSome = true
      · rw [if_pos e]; simp only [e, true_and]; cases getP kvs y <;> rfl
      · rw [if_neg e]; simp [e, wR_bad]
    | ins c fs => rfl
theorem q_ixT : wR (pIx (.tup xs) (.int i) h) P X = wOp (atI xs i) (k_at P h) := by
  unfold pIx; dsimp only; cases atI xs i <;> rfl
theorem q_ixK : wR (pIx (.tupK xs) (.int i) h) P X = wOp (atI xs i) (k_at P h) := by
  unfold pIx; dsimp only; cases atI xs i <;> rfl
theorem q_set : wR (pSet (.ref n) x v h) PU X = wSt h[n]? x v (fun o => PU () (h.set n o)) := by
  unfold pSet wSt
  dsimp only
  cases h[n]? with
  | none => rfl
  | some o =>
    cases o with
    | lst xs => cases x <;> first | rfl | (rename_i i; dsimp only [wInt]; cases ixN xs.length i <;> rfl)
    | frz xs => rfl
    | dK kvs =>
      dsimp only
      by_cases e : (keyV x).isSome ∧ kvs.length < 16777216
      · rw [if_pos e]; simp only [e, true_and]; rfl
      · rw [if_neg e]; simp only [e, false_and]; rfl
    | dT kvs =>
      dsimp only
      by_cases e : (keyT x).isSome ∧ kvs.length < 16777216
      · rw [if_pos e]; simp only [e, true_and]; rfl
      · rw [if_neg e]; simp only [e, false_and]; rfl
    | ins c fs => rfl
theorem q_len : wR (bi .len [.ref n] h) P X = wLs h[n]? (fun xs => P (.int xs.length) h) := by
  unfold bi wLs; dsimp only
  cases h[n]? with
  | none => rfl
  | some o => cases o <;> first | rfl | (rename_i kvs; show P _ h = P _ h; unfold keysP; rw [List.length_map])
theorem q_list : wR (bi .list [.ref n] h) P X = wLs h[n]? (fun xs => P (.ref h.length) (h ++ [.lst xs])) := by
  unfold bi wLs; dsimp only
  cases h[n]? with
  | none => rfl
  | some o => cases o <;> rfl
theorem q_dict : wR (bi .dict [.ref n] h) P X = wDk h[n]? (fun kvs => P (.ref h.length) (h ++ [.dK kvs])) := by
  unfold bi wDk; dsimp only
  cases h[n]? with
  | none => rfl
  | some o => cases o <;> rfl
theorem q_tuple : wR (bi .tuple [.ref n] h) P X = wSq h[n]? (fun xs => P (.tup xs) h) := by
  unfold bi wSq lstAt; dsimp only
  cases h[n]? with
  | none => rfl
  | some o => cases o <;> rfl
theorem q_it : wR (itOf (.ref n) h) PI X = wSq h[n]? (fun _ => PI (itL n) h) := by
  unfold itOf wSq lstAt; dsimp only
  cases h[n]? with
  | none => rfl
  | some o => cases o <;> rfl
theorem q_itT : wR (itOf (.tup xs) h) PI X = PI (itT xs) h := rfl
theorem q_itK : wR (itOf (.tupK xs) h) PI X = PI (itT xs) h := rfl
theorem q_itS {s : List Nat} : wR (itOf (.str s) h) PI X = PI (itStr s) h := rfl
theorem q_r1 : wR (r1K [.int i] h) PI X = if i.natAbs < 2 ^ 60 then PI (itR 0 i.toNat) h else False := by
  unfold r1K; dsimp only; rw [wR_ite]; rfl
theorem q_r2 : wR (r2K [.int i, .int j] h) PI X = if i.natAbs < 2 ^ 60 ∧ j.natAbs < 2 ^ 60 then PI (itR i (j - i).toNat) h else False := by
  unfold r2K; dsimp only; rw [wR_ite]; rfl
theorem q_addL : wR (pAdd (.ref n) (.ref m) h) P X = wMl h[n]? fun a => wMl h[m]? fun b => a.length + b.length ≤ 16777216 ∧ P (.ref h.length) (h ++ [.lst (a ++ b)]) := by
  unfold pAdd wMl; dsimp only
  cases h[n]? with
  | none => rfl
  | some o =>
    cases o with
    | lst a =>
      cases h[m]? with
      | none => rfl
      | some u =>
        cases u with
        | lst b =>
          dsimp only
          by_cases e : a.length + b.length ≤ 16777216
          · rw [if_pos e]; simp only [e, true_and]; rfl
          · rw [if_neg e]; simp only [e, false_and]; rfl
        | _ => rfl
    | _ => rfl
theorem q_addT : wR (pAdd (.tup xs) (.tup ys) h) P X = (xs.length + ys.length ≤ 16777216 ∧ P (.tup (xs ++ ys)) h) := by
  unfold pAdd; dsimp only
  by_cases e : xs.length + ys.length ≤ 16777216
  · rw [if_pos e]; simp only [e, true_and]; rfl
  · rw [if_neg e]; simp only [e, false_and]; rfl
theorem q_in : wR (pIn x y h) P X = wOp (inB x y h) (fun b => P (.bl b) h) := by unfold pIn; cases inB x y h <;> rfl
theorem q_nin : wR (pNotIn x y h) P X = wOp (inB x y h) (fun b => P (.bl (!b)) h) := by unfold pNotIn; cases inB x y h <;> rfl
theorem q_eq : wR (pEq x y h) P X = wOp (eqB x y h) (fun b => P (.bl b) h) := by unfold pEq; cases eqB x y h <;> rfl
theorem q_ne : wR (pNe x y h) P X = wOp (eqB x y h) (fun b => P (.bl (!b)) h) := by unfold pNe; cases eqB x y h <;> rfl
theorem eqB_i : eqB (.int i) (.int j) h = some (decide (i = j)) := by simp [eqB, scalP]
theorem eqB_s {s z : List Nat} : eqB (.str s) (.str z) h = some (decide (s = z)) := by simp [eqB, scalP]
theorem eqB_b {a b : Bool} : eqB (.bl a) (.bl b) h = some (decide (a = b)) := by simp [eqB, scalP]
theorem q_slL {lo hi : Option Int} : wR (pSl (.ref n) lo hi h) P X = wSq h[n]? (fun xs => P (.ref h.length) (h ++ [.lst (cutP xs lo hi)])) := by
  unfold pSl wSq lstAt; dsimp only
  cases h[n]? with
  | none => rfl
  | some o => cases o <;> rfl
theorem q_slT {lo hi : Option Int} : wR (pSl (.tup xs) lo hi h) P X = P (.tup (cutP xs lo hi)) h := rfl
theorem q_tr : wR (truth (.ref n) h) PB X = wLs h[n]? (fun xs => PB (!xs.isEmpty) h) := by
  unfold truth wLs; dsimp only
  cases h[n]? with
  | none => rfl
  | some o => cases o <;> first | rfl | (rename_i kvs; show PB _ h = PB _ h; unfold keysP; cases kvs <;> rfl)
theorem q_rcv : rcv (.ref n) h = rcvO h[n]? n := rfl
theorem q_tn : tnOf (.ref n) h = tnO h[n]? := rfl
theorem q_lst : lstAt h n = lstO h[n]? := rfl
theorem tn_i : tnOf (.int i) h = some .int := rfl
theorem tn_b {b : Bool} : tnOf (.bl b) h = some .bool := rfl
theorem tn_n : tnOf .non h = some .non := rfl
theorem tn_s {s : List Nat} : tnOf (.str s) h = some .str := rfl
theorem tn_t : tnOf (.tup xs) h = some .tuple := rfl
theorem tn_k : tnOf (.tupK xs) h = some .tuple := rfl
theorem me_app : meth .list .append = some mAppend := rfl
theorem me_pop : meth .list .pop = some mPop := rfl
theorem me_rev : meth .list .reverse = some mReverse := rfl
theorem me_clr : meth .list .clear = some mClear := rfl
theorem me_ins : meth .list .insert = some mInsert := rfl
theorem me_idx : meth .list .index = some mIndex := rfl
theorem me_get : meth .dict .get = some mGet := rfl
theorem me_sd : meth .dict .setdefault = some mSetd := rfl
theorem wR_onL {g : List PV → R PV} : wR (onL g n h) P X = wMl h[n]? fun ys => wR (g ys) P X := by
  unfold onL wMl
  cases h[n]? with
  | none => rfl
  | some o => cases o <;> rfl
theorem q_app : wR (mAppend n [v] h) P X = wMl h[n]? fun ys => ys.length < 16777216 ∧ P .non (h.set n (.lst (ys ++ [v]))) := by
  show wR (onL _ n h) P X = _
  rw [wR_onL]
  congr 1; funext ys
  rw [wR_ite]
  by_cases e : ys.length < 16777216 <;> simp [e, wR_ok, wR_bad]
theorem q_rev : wR (mReverse n [] h) P X = wMl h[n]? fun ys => P .non (h.set n (.lst ys.reverse)) := by
  show wR (onL _ n h) P X = _
  rw [wR_onL]; rfl
theorem q_clr : wR (mClear n [] h) P X = wMl h[n]? fun ys => P .non (h.set n (.lst [])) := by
  show wR (onL _ n h) P X = _
  rw [wR_onL]; rfl
theorem q_pop : wR (mPop n [] h) P X = wMl h[n]? fun ys => wOp ys[ys.length - 1]? fun v => P v (h.set n (.lst ys.dropLast)) := by
  show wR (onL _ n h) P X = _
  rw [wR_onL]
  congr 1; funext ys
  cases ys[ys.length - 1]? <;> rfl
theorem q_get1 : wR (mGet n [x] h) P X = wDl h[n]? x (fun o => P (o.getD .non) h) := by
  unfold mGet dLook wDl; dsimp only
  cases h[n]? with
  | none => rfl
  | some o =>
    cases o with
    | dK kvs => by_cases e : (keyV x).isSome = true <;> simp [e, wR_ok, wR_bad]
    | dT kvs => by_cases e : (keyT x).isSome = true <;> simp [e, wR_ok, wR_bad]
    | _ => rfl
theorem q_get2 : wR (mGet n [x, y] h) P X = wDl h[n]? x (fun o => P (o.getD y) h) := by
  unfold mGet dLook wDl; dsimp only
  cases h[n]? with
  | none => rfl
  | some o =>
    cases o with
    | dK kvs => by_cases e : (keyV x).isSome = true <;> simp [e, wR_ok, wR_bad]
    | dT kvs => by_cases e : (keyT x).isSome = true <;> simp [e, wR_ok, wR_bad]
    | _ => rfl
theorem q_idx : wR (mIndex n [v] h) P X = wSq h[n]? fun ys => (flatP v && ys.all flatP) = true ∧ wOp (idxF v ys) fun j => P (.int (j : Nat)) h := by
  unfold mIndex lstAt wSq; dsimp only
  have key : ∀ ys : List PV, wR (if flatP v && ys.all flatP then (match idxF v ys with | some j => R.ok (PV.int (j : Nat)) h | none => .bad) else .bad) P X = ((flatP v && ys.all flatP) = true ∧ wOp (idxF v ys) fun j => P (.int (j : Nat)) h) := by
    intro ys
    rw [wR_ite]
    by_cases e : (flatP v && ys.all flatP) = true
    · simp only [e, if_true, true_and]; cases idxF v ys <;> rfl
    · simp [e, wR_bad]
  cases h[n]? with
  | none => rfl
  | some o => cases o <;> first | rfl | exact key _
theorem at0 {a : α} {l : List α} : atI (a :: l) 0 = some a := RS.atI_nat (xs := a :: l) (k := 0)
theorem atS {l : List α} {k : Nat} {a : α} : atI (a :: l) ((k + 1 : Nat) : Int) = atI l (k : Int) := by
  rw [RS.atI_nat, RS.atI_nat]; rfl
theorem at1 {a b : α} {l : List α} : atI (a :: b :: l) 1 = some b := (atS (k := 0)).trans at0
theorem at2 {a b c : α} {l : List α} : atI (a :: b :: c :: l) 2 = some c := (atS (k := 1)).trans at1
theorem at3 {a b c d : α} {l : List α} : atI (a :: b :: c :: d :: l) 3 = some d := (atS (k := 2)).trans at2
theorem ix0 {n : Nat} : ixN (n + 1) 0 = some 0 := by unfold ixN; rw [if_pos (by decide), if_pos (by omega)]; rfl
theorem ix1 {n : Nat} : ixN (n + 2) 1 = some 1 := by unfold ixN; rw [if_pos (by decide), if_pos (by omega)]; rfl
theorem ix2 {n : Nat} : ixN (n + 3) 2 = some 2 := by unfold ixN; rw [if_pos (by decide), if_pos (by omega)]; rfl
theorem ix3 {n : Nat} : ixN (n + 4) 3 = some 3 := by unfold ixN; rw [if_pos (by decide), if_pos (by omega)]; rfl
theorem ixk {n k : Nat} (h : k < n) : ixN n (k : Int) = some k := by unfold ixN; rw [if_pos (by omega), if_pos (by omega)]; simp
theorem atk {l : List α} {k : Nat} : atI l (k : Int) = l[k]? := RS.atI_nat
/-! tests of plain expressions -/
variable {D : Dn} {en : En}
theorem t2_var {k : Nat} : wT D (.var k) en h PB X = wV en[k]? (k_at (k_tr X PB) h) := by rw [t1_tru rfl, e1_var]
theorem t2_bl {b : Bool} : wT D (.bl b) en h PB X = PB b h := rfl
theorem t2_ix {a b : E} : wT D (.ix a b) en h PB X = wE D (.ix a b) en h (k_tr X PB) X := t1_tru rfl
theorem t2_call {f : Nat} {as : EL} : wT D (.call f as) en h PB X = wE D (.call f as) en h (k_tr X PB) X := t1_tru rfl
theorem t2_callK {f : Nat} {as ws : EL} : wT D (.callK f as ws) en h PB X = wE D (.callK f as ws) en h (k_tr X PB) X := t1_tru rfl
theorem t2_meO {f : Nat} {o : E} {as : EL} : wT D (.meO f o as) en h PB X = wE D (.meO f o as) en h (k_tr X PB) X := t1_tru rfl
theorem t2_bi {f : BN} {as : EL} : wT D (.bi f as) en h PB X = wE D (.bi f as) en h (k_tr X PB) X := t1_tru rfl
theorem t2_isi {f : TN} {a : E} : wT D (.isi f a) en h PB X = wE D (.isi f a) en h (k_tr X PB) X := t1_tru rfl
theorem t2_meth {m : MN} {o : E} {as : EL} : wT D (.meth m o as) en h PB X = wE D (.meth m o as) en h (k_tr X PB) X := t1_tru rfl
theorem t2_attr {m : Nat} {o : E} : wT D (.attr m o) en h PB X = wE D (.attr m o) en h (k_tr X PB) X := t1_tru rfl
theorem t2_bin {o : PySem.Operator} {a b : E} : wT D (.bin o a b) en h PB X = wE D (.bin o a b) en h (k_tr X PB) X := t1_tru rfl
/-! what the heap keeps -/
theorem lt_of {o : MO} (e : h[n]? = some o) : n < h.length := (List.getElem?_eq_some_iff.mp e).1
theorem hs_self {o : MO} (l : n < h.length) : (h.set n o)[n]? = some o := by simp [l]
theorem hs_ne {o : MO} (l : n ≠ m) : (h.set n o)[m]? = h[m]? := List.getElem?_set_ne l
theorem ha_old {t : Hm} (l : n < h.length) : (h ++ t)[n]? = h[n]? := List.getElem?_append_left l
theorem ha_new {o : MO} : (h ++ [o])[h.length]? = some o := by simp
theorem la_old {t : Hm} (l : n < h.length) : (n < (h ++ t).length) = True := by simp; omega
theorem la_new {o : MO} : (h.length < (h ++ [o]).length) = True := by simp
theorem ls_len {o : MO} : (h.set n o).length = h.length := List.length_set
end
end RS

set_option Elab.async false
set_option linter.all false
set_option maxRecDepth 100000
set_option maxHeartbeats 4000000
set_option autoImplicit false
namespace RL
open PySem PySem.Spec PyProof.Rows L2 RS
def topS (i : Nat) : Stmt := PySem.Challenge.pw_papersat_k01_ratio_in_lowest_terms.main.body.getD i (.Pass ⟨0, 0, 0, 0⟩)
/-! 0: ratio(p, q); slots 0 p, 1 q, 2 divisor -/
abbrev st0 : Stmt := topS 15
abbrev N0 : List Str := ["p", "q", "divisor"]
abbrev ps0 : List Str := ["p", "q"]
def b0 : S := (.seq (.ite (.cmp .Eq (.var 1) (.int 0)) (.seq (.raise0 0) .skip) .skip) (.seq (.set 2 (.bi .gcd (.cons (.var 0) (.cons (.var 1) .nil)))) (.seq (.ite (.cmp .Lt (.var 1) (.int 0)) (.seq (.set 2 (.neg (.var 2))) .skip) .skip) (.seq (.ret (.tup (.cons (.bin .FloorDiv (.var 0) (.var 2)) (.cons (.bin .FloorDiv (.var 1) (.var 2)) .nil)))) .skip))))
theorem sc0 : FnScope N0 ps0 (defScope st0) := ⟨rfl, rfl, rfl, by decide +kernel, rfl, by decide +kernel, by decide +kernel⟩
/-! 1: _law_pool(_law_script, _law_k); slots 0 _law_script, 1 _law_k, 2 _law_cell, 3 _law_spare -/
abbrev st1 : Stmt := topS 17
abbrev N1 : List Str := ["_law_script", "_law_k", "_law_cell", "_law_spare"]
abbrev ps1 : List Str := ["_law_script", "_law_k"]
def b1 : S := (.seq (.set 2 (.bin .Add (.bin .Mult (.int 17) (.var 1)) (.int 5))) (.seq (.set 3 (.bin .Add (.bin .Mult (.int 31) (.var 1)) (.int 2))) (.seq (.ite (.cmp .Lt (.var 1) (.bi .len (.cons (.var 0) .nil))) (.seq (.set 2 (.ix (.var 0) (.var 1))) .skip) .skip) (.seq (.ite (.cmp .Lt (.bin .Add (.var 1) (.int 1)) (.bi .len (.cons (.var 0) .nil))) (.seq (.set 3 (.ix (.var 0) (.bin .Add (.var 1) (.int 1)))) .skip) .skip) (.seq (.ret (.lst (.cons (.var 2) (.cons (.int 0) (.cons (.cmp .GtE (.var 2) (.bin .Pow (.int 10) (.int 18))) (.cons (.var 3) .nil)))))) .skip)))))
theorem sc1 : FnScope N1 ps1 (defScope st1) := ⟨rfl, rfl, rfl, by decide +kernel, rfl, by decide +kernel, by decide +kernel⟩
/-! 2: _law_take(_law_pool_here, _law_size); slots 0 _law_pool_here, 1 _law_size, 2 _law_k, 3 _law_cell, 4 _law_mixed -/
abbrev st2 : Stmt := topS 18
abbrev N2 : List Str := ["_law_pool_here", "_law_size", "_law_k", "_law_cell", "_law_mixed"]
abbrev ps2 : List Str := ["_law_pool_here", "_law_size"]
def b2 : S := (.seq (.set 2 (.ix (.var 0) (.int 1))) (.seq (.setT (.sub (.var 0) (.int 1)) (.bin .Add (.var 2) (.int 1))) (.seq (.set 3 (.ix (.var 0) (.int 0))) (.seq (.ite (.and (.ix (.var 0) (.int 2)) (.cmp .Gt (.var 3) (.int 0))) (.seq (.setT (.sub (.var 0) (.int 0)) (.bin .FloorDiv (.var 3) (.var 1))) (.seq (.ret (.bin .Mod (.bi .int (.cons (.var 3) .nil)) (.var 1))) .skip)) .skip) (.seq (.ite (.ix (.var 0) (.int 2)) (.seq (.set 3 (.ix (.var 0) (.int 3))) .skip) .skip) (.seq (.set 4 (.bin .Mod (.bi .int (.cons (.bin .Add (.bin .Add (.var 3) (.bin .Mult (.int 7919) (.var 2))) (.int 13)) .nil)) (.int 2147483647))) (.seq (.set 4 (.bin .Mod (.bi .int (.cons (.bin .Mult (.var 4) (.bin .Add (.var 4) (.int 48271))) .nil)) (.int 2147483629))) (.seq (.set 4 (.bin .Mod (.bi .int (.cons (.bin .Add (.bin .Mult (.var 4) (.bin .Add (.var 4) (.int 69621))) (.bin .Mult (.int 31) (.var 2))) .nil)) (.int 2147483647))) (.seq (.ret (.bin .Mod (.bi .int (.cons (.bin .FloorDiv (.var 4) (.int 9)) .nil)) (.var 1))) .skip)))))))))
theorem sc2 : FnScope N2 ps2 (defScope st2) := ⟨rfl, rfl, rfl, by decide +kernel, rfl, by decide +kernel, by decide +kernel⟩
/-! 3: _law_whole(_law_value); slots 0 _law_value -/
abbrev st3 : Stmt := topS 19
abbrev N3 : List Str := ["_law_value"]
abbrev ps3 : List Str := ["_law_value"]
def b3 : S := (.seq (.ret (.and (.isi .int (.var 0)) (.not (.isi .bool (.var 0))))) .skip)
theorem sc3 : FnScope N3 ps3 (defScope st3) := ⟨rfl, rfl, rfl, by decide +kernel, rfl, by decide +kernel, by decide +kernel⟩
/-! 4: _law_sized(_law_pool_here, _law_pieces); slots 0 _law_pool_here, 1 _law_pieces, 2 _law_size, 3 _law_total, 4 _law_k -/
abbrev st4 : Stmt := topS 20
abbrev N4 : List Str := ["_law_pool_here", "_law_pieces", "_law_size", "_law_total", "_law_k"]
abbrev ps4 : List Str := ["_law_pool_here", "_law_pieces"]
def b4 : S := (.seq (.set 2 (.call 2 (.cons (.var 0) (.cons (.int 4) .nil)))) (.seq (.set 3 (.call 2 (.cons (.var 0) (.cons (.int 5) .nil)))) (.seq (.ite (.cmp .Eq (.var 2) (.int 1)) (.seq (.set 3 (.call 2 (.cons (.var 0) (.cons (.int 64) .nil)))) .skip) .skip) (.seq (.ite (.cmp .Eq (.var 2) (.int 2)) (.seq (.set 3 (.call 2 (.cons (.var 0) (.cons (.int 1000000) .nil)))) .skip) .skip) (.seq (.ite (.cmp .Eq (.var 2) (.int 3)) (.seq (.set 3 (.int 0)) (.seq (.frl .r1 (.cons (.var 1) .nil) (.nm 4) (.seq (.set 3 (.bin .Add (.bin .Mult (.var 3) (.int 1000000)) (.call 2 (.cons (.var 0) (.cons (.int 1000000) .nil))))) .skip)) .skip)) .skip) (.seq (.ite (.cmp .Eq (.call 2 (.cons (.var 0) (.cons (.int 2) .nil))) (.int 1)) (.seq (.ret (.neg (.var 3))) .skip) .skip) (.seq (.ret (.var 3)) .skip)))))))
theorem sc4 : FnScope N4 ps4 (defScope st4) := ⟨rfl, rfl, rfl, by decide +kernel, rfl, by decide +kernel, by decide +kernel⟩
/-! 5: _law_slow(_law_pool_here); slots 0 _law_pool_here, 1 _law_top, 2 _law_bottom, 3 _law_k -/
abbrev st5 : Stmt := topS 21
abbrev N5 : List Str := ["_law_pool_here", "_law_top", "_law_bottom", "_law_k"]
abbrev ps5 : List Str := ["_law_pool_here"]
def b5 : S := (.seq (.set 1 (.int 0)) (.seq (.set 2 (.bin .Add (.int 1) (.call 2 (.cons (.var 0) (.cons (.int 26) .nil))))) (.seq (.frl .r1 (.cons (.call 2 (.cons (.var 0) (.cons (.int 81) .nil))) .nil) (.nm 3) (.seq (.par 1 2 (.cons (.var 2) (.cons (.bin .Add (.var 1) (.var 2)) .nil))) .skip)) (.seq (.ret (.tup (.cons (.var 1) (.cons (.var 2) .nil)))) .skip))))
theorem sc5 : FnScope N5 ps5 (defScope st5) := ⟨rfl, rfl, rfl, by decide +kernel, rfl, by decide +kernel, by decide +kernel⟩
/-! 6: _law_two(_law_pool_here); slots 0 _law_pool_here, 1 _law_way, 2 _law_top, 3 _law_many, 4 _law_factor -/
abbrev st6 : Stmt := topS 22
abbrev N6 : List Str := ["_law_pool_here", "_law_way", "_law_top", "_law_many", "_law_factor"]
abbrev ps6 : List Str := ["_law_pool_here"]
def b6 : S := (.seq (.set 1 (.call 2 (.cons (.var 0) (.cons (.int 7) .nil)))) (.seq (.ite (.cmp .Eq (.var 1) (.int 6)) (.seq (.ret (.call 5 (.cons (.var 0) .nil))) .skip) .skip) (.seq (.set 2 (.call 4 (.cons (.var 0) (.cons (.bin .Sub (.int 3) (.bi .int (.cons (.cmp .Gt (.var 1) (.int 2)) .nil))) .nil)))) (.seq (.ite (.cmp .Eq (.var 1) (.int 0)) (.seq (.ret (.tup (.cons (.var 2) (.cons (.call 4 (.cons (.var 0) (.cons (.int 3) .nil))) .nil)))) .skip) .skip) (.seq (.ite (.cmp .Eq (.var 1) (.int 1)) (.seq (.ret (.tup (.cons (.var 2) (.cons (.bin .Sub (.int 1) (.bin .Mult (.int 2) (.call 2 (.cons (.var 0) (.cons (.int 2) .nil))))) .nil)))) .skip) .skip) (.seq (.ite (.cmp .Eq (.var 1) (.int 2)) (.seq (.ret (.tup (.cons (.var 2) (.cons (.int 0) .nil)))) .skip) .skip) (.seq (.ite (.cmp .Eq (.var 1) (.int 3)) (.seq (.set 4 (.bin .Add (.int 1) (.call 2 (.cons (.var 0) (.cons (.int 999999) .nil))))) (.seq (.ret (.tup (.cons (.bin .Mult (.var 4) (.var 2)) (.cons (.bin .Mult (.var 4) (.call 4 (.cons (.var 0) (.cons (.int 2) .nil)))) .nil)))) .skip)) .skip) (.seq (.set 3 (.bin .Sub (.call 2 (.cons (.var 0) (.cons (.int 9) .nil))) (.int 4))) (.seq (.ite (.cmp .Eq (.var 1) (.int 4)) (.seq (.ret (.tup (.cons (.bin .Mult (.var 3) (.var 2)) (.cons (.var 2) .nil)))) .skip) .skip) (.seq (.ret (.tup (.cons (.var 2) (.cons (.bin .Mult (.var 3) (.var 2)) .nil)))) .skip))))))))))
theorem sc6 : FnScope N6 ps6 (defScope st6) := ⟨rfl, rfl, rfl, by decide +kernel, rfl, by decide +kernel, by decide +kernel⟩
/-! 7: _law_common(_law_a, _law_b); slots 0 _law_a, 1 _law_b, 2 _law_k -/
abbrev st7 : Stmt := topS 23
abbrev N7 : List Str := ["_law_a", "_law_b", "_law_k"]
abbrev ps7 : List Str := ["_law_a", "_law_b"]
def b7 : S := (.seq (.set 0 (.bi .abs (.cons (.var 0) .nil))) (.seq (.set 1 (.bi .abs (.cons (.var 1) .nil))) (.seq (.frl .r1 (.cons (.bin .Add (.bin .Mult (.int 2) (.bitl (.var 1))) (.int 5)) .nil) (.nm 2) (.seq (.ite (.cmp .Eq (.var 1) (.int 0)) (.seq .brk .skip) .skip) (.seq (.par 0 1 (.cons (.var 1) (.cons (.bin .Mod (.bi .int (.cons (.var 0) .nil)) (.bi .int (.cons (.var 1) .nil))) .nil))) .skip))) (.seq (.ret (.var 0)) .skip))))
theorem sc7 : FnScope N7 ps7 (defScope st7) := ⟨rfl, rfl, rfl, by decide +kernel, rfl, by decide +kernel, by decide +kernel⟩
/-! 8: _law_due(_law_told_here, _law_top, _law_bottom); slots 0 _law_told_here, 1 _law_top, 2 _law_bottom -/
abbrev st8 : Stmt := topS 24
abbrev N8 : List Str := ["_law_told_here", "_law_top", "_law_bottom"]
abbrev ps8 : List Str := ["_law_told_here", "_law_top", "_law_bottom"]
def b8 : S := (.seq (.ite (.or (.not (.isi .tuple (.var 0))) (.cmp .NotEq (.bi .len (.cons (.var 0) .nil)) (.int 2))) (.seq (.ret (.bl false)) .skip) .skip) (.seq (.ite (.or (.not (.call 3 (.cons (.ix (.var 0) (.int 0)) .nil))) (.or (.not (.call 3 (.cons (.ix (.var 0) (.int 1)) .nil))) (.cmp .Lt (.ix (.var 0) (.int 1)) (.int 1)))) (.seq (.ret (.bl false)) .skip) .skip) (.seq (.ret (.and (.cmp .Eq (.call 7 (.cons (.ix (.var 0) (.int 0)) (.cons (.ix (.var 0) (.int 1)) .nil))) (.int 1)) (.cmp .Eq (.bin .Mult (.ix (.var 0) (.int 0)) (.var 2)) (.bin .Mult (.var 1) (.ix (.var 0) (.int 1)))))) .skip)))
theorem sc8 : FnScope N8 ps8 (defScope st8) := ⟨rfl, rfl, rfl, by decide +kernel, rfl, by decide +kernel, by decide +kernel⟩
/-! 9: _law_told(_law_top, _law_bottom, _law_how); slots 0 _law_top, 1 _law_bottom, 2 _law_how -/
abbrev st9 : Stmt := topS 25
abbrev N9 : List Str := ["_law_top", "_law_bottom", "_law_how"]
abbrev ps9 : List Str := ["_law_top", "_law_bottom", "_law_how"]
def b9 : S := (.seq (.ite (.cmp .Eq (.var 2) (.int 1)) (.seq (.ret (.callK 0 (.cons (.var 0) .nil) (.cons (.var 1) .nil))) .skip) .skip) (.seq (.ite (.and (.cmp .Eq (.var 2) (.int 2)) (.cmp .Eq (.var 1) (.int 1))) (.seq (.ret (.call 0 (.cons (.var 0) .nil))) .skip) .skip) (.seq (.ret (.call 0 (.cons (.var 0) (.cons (.var 1) .nil)))) .skip)))
theorem sc9 : FnScope N9 ps9 (defScope st9) := ⟨rfl, rfl, rfl, by decide +kernel, rfl, by decide +kernel, by decide +kernel⟩
/-! 10: _law_refused(_law_top, _law_how); slots 0 _law_top, 1 _law_how, 2 e -/
abbrev st10 : Stmt := topS 26
abbrev N10 : List Str := ["_law_top", "_law_how", "e"]
abbrev ps10 : List Str := ["_law_top", "_law_how"]
def b10 : S := (.seq (.ite (.or (.cmp .Eq (.var 1) (.int 0)) (.cmp .Eq (.var 1) (.int 2))) (.seq (.tryO (.seq (.expr (.call 9 (.cons (.var 0) (.cons (.int 0) (.cons (.var 1) .nil))))) .skip) 10 (.ret (.bl true))) (.seq (.ret (.bl false)) .skip)) .skip) (.seq (.tryA (.seq (.expr (.call 9 (.cons (.var 0) (.cons (.int 0) (.cons (.var 1) .nil))))) .skip) 12 2 (.ite (.isT [0, 1, 2, 3, 4, 5]) (.ret (.bl false)) (.ite (.isT [6, 7, 8, 9]) (.ret (.bl false)) (.ret (.and (.isI 10) (.isI 11)))))) (.seq (.ret (.bl false)) .skip)))
theorem sc10 : FnScope N10 ps10 (defScope st10) := ⟨rfl, rfl, rfl, by decide +kernel, rfl, by decide +kernel, by decide +kernel⟩
/-! 11: _law_asked(_law_top, _law_bottom, _law_how); slots 0 _law_top, 1 _law_bottom, 2 _law_how -/
abbrev st11 : Stmt := topS 27
abbrev N11 : List Str := ["_law_top", "_law_bottom", "_law_how"]
abbrev ps11 : List Str := ["_law_top", "_law_bottom", "_law_how"]
def b11 : S := (.seq (.ite (.cmp .Eq (.var 1) (.int 0)) (.seq (.ret (.and (.call 10 (.cons (.var 0) (.cons (.var 2) .nil))) (.call 8 (.cons (.call 0 (.cons (.var 0) (.cons (.int 1) .nil))) (.cons (.var 0) (.cons (.int 1) .nil)))))) .skip) .skip) (.seq (.ret (.call 8 (.cons (.call 9 (.cons (.var 0) (.cons (.var 1) (.cons (.var 2) .nil)))) (.cons (.var 0) (.cons (.var 1) .nil))))) .skip))
theorem sc11 : FnScope N11 ps11 (defScope st11) := ⟨rfl, rfl, rfl, by decide +kernel, rfl, by decide +kernel, by decide +kernel⟩
/-! 12: law(_law_script); slots 0 _law_script, 1 _law_k, 2 _law_pool_here, 3 _law_how, 4 _law_top, 5 _law_bottom -/
abbrev st12 : Stmt := topS 28
abbrev N12 : List Str := ["_law_script", "_law_k", "_law_pool_here", "_law_how", "_law_top", "_law_bottom"]
abbrev ps12 : List Str := ["_law_script"]
def b12 : S := (.seq (.frl .r1 (.cons (.bi .max (.cons (.int 2) (.cons (.bi .min (.cons (.int 8) (.cons (.bi .len (.cons (.var 0) .nil)) .nil))) .nil))) .nil) (.nm 1) (.seq (.set 2 (.call 1 (.cons (.var 0) (.cons (.var 1) .nil)))) (.seq (.setT (.tup (.cons (.nm 4) (.cons (.nm 5) .nil))) (.call 6 (.cons (.var 2) .nil))) (.seq (.set 3 (.call 2 (.cons (.var 2) (.cons (.int 4) .nil)))) (.seq (.ite (.not (.call 11 (.cons (.var 4) (.cons (.var 5) (.cons (.var 3) .nil))))) (.seq (.ret (.bl false)) .skip) .skip) (.seq (.ite (.not (.call 11 (.cons (.var 5) (.cons (.var 4) (.cons (.bin .Sub (.int 3) (.var 3)) .nil))))) (.seq (.ret (.bl false)) .skip) .skip) (.seq (.ite (.not (.call 11 (.cons (.var 4) (.cons (.var 5) (.cons (.bin .Sub (.int 3) (.var 3)) .nil))))) (.seq (.ret (.bl false)) .skip) .skip) .skip))))))) (.seq (.ret (.bl true)) .skip))
theorem sc12 : FnScope N12 ps12 (defScope st12) := ⟨rfl, rfl, rfl, by decide +kernel, rfl, by decide +kernel, by decide +kernel⟩
abbrev fds : List FD := [⟨"ratio", true, ps0, [.int 1]⟩, ⟨"_law_pool", true, ps1, []⟩, ⟨"_law_take", true, ps2, []⟩, ⟨"_law_whole", true, ps3, []⟩, ⟨"_law_sized", true, ps4, []⟩, ⟨"_law_slow", true, ps5, []⟩, ⟨"_law_two", true, ps6, []⟩, ⟨"_law_common", true, ps7, []⟩, ⟨"_law_due", true, ps8, []⟩, ⟨"_law_told", true, ps9, []⟩, ⟨"_law_refused", true, ps10, []⟩, ⟨"_law_asked", true, ps11, []⟩, ⟨"law", true, ps12, []⟩]
abbrev fbs : List FB := [⟨3, b0⟩, ⟨4, b1⟩, ⟨5, b2⟩, ⟨1, b3⟩, ⟨5, b4⟩, ⟨4, b5⟩, ⟨5, b6⟩, ⟨3, b7⟩, ⟨3, b8⟩, ⟨3, b9⟩, ⟨3, b10⟩, ⟨3, b11⟩, ⟨6, b12⟩]
abbrev cds : List CD := []
abbrev attL : List Str := []
abbrev mtL : List (Nat × Nat × Nat) := []
abbrev aokL : List (Nat × Nat) := []
abbrev xrL : List (Nat × Str) := [(0, "BadRatio")]
abbrev isxL : List (Nat × Nat × Bool) := [(0, 0, false), (0, 1, false), (0, 2, false), (0, 3, false), (0, 4, false), (0, 5, false), (0, 6, false), (0, 7, false), (0, 8, false), (0, 9, false), (0, 10, true), (0, 11, true), (0, 12, true)]
abbrev gls : List (Str × PV) := []
def pg : Pg := ⟨fds, cds, attL, aokOf aokL, mtOf mtL, gls, ["abs", "bool", "gcd", "int", "isinstance", "len", "max", "min", "range", "tuple"], xrL, ["BadLiteral", "BadModel", "BadName", "BadNode", "BadSort", "BadText", "NameTaken", "NoAnswer", "NoLevel", "UnknownName", "BadRatio", "ValueError", "PaperError"], isxOf isxL, [(0, 1, ["q"])]⟩
theorem ck0 : chkB pg b0 ⟨N0, defScope st0, (defScope st0).names⟩ (defBody st0) = true := by decide +kernel
theorem ck1 : chkB pg b1 ⟨N1, defScope st1, (defScope st1).names⟩ (defBody st1) = true := by decide +kernel
theorem ck2 : chkB pg b2 ⟨N2, defScope st2, (defScope st2).names⟩ (defBody st2) = true := by decide +kernel
theorem ck3 : chkB pg b3 ⟨N3, defScope st3, (defScope st3).names⟩ (defBody st3) = true := by decide +kernel
theorem ck4 : chkB pg b4 ⟨N4, defScope st4, (defScope st4).names⟩ (defBody st4) = true := by decide +kernel
theorem ck5 : chkB pg b5 ⟨N5, defScope st5, (defScope st5).names⟩ (defBody st5) = true := by decide +kernel
theorem ck6 : chkB pg b6 ⟨N6, defScope st6, (defScope st6).names⟩ (defBody st6) = true := by decide +kernel
theorem ck7 : chkB pg b7 ⟨N7, defScope st7, (defScope st7).names⟩ (defBody st7) = true := by decide +kernel
theorem ck8 : chkB pg b8 ⟨N8, defScope st8, (defScope st8).names⟩ (defBody st8) = true := by decide +kernel
theorem ck9 : chkB pg b9 ⟨N9, defScope st9, (defScope st9).names⟩ (defBody st9) = true := by decide +kernel
theorem ck10 : chkB pg b10 ⟨N10, defScope st10, (defScope st10).names⟩ (defBody st10) = true := by decide +kernel
theorem ck11 : chkB pg b11 ⟨N11, defScope st11, (defScope st11).names⟩ (defBody st11) = true := by decide +kernel
theorem ck12 : chkB pg b12 ⟨N12, defScope st12, (defScope st12).names⟩ (defBody st12) = true := by decide +kernel
theorem attN : attL.Nodup := by decide +kernel
theorem attS : ∀ x ∈ attL, x.cps.size < 1000 := by decide +kernel
theorem all_mk {w : World} {K : PySem.W.Frag} {h : Heap} {mg : Str → Option Value} {fa : Addr} (X : K.In h) (G : h.Ns mainGlobals mg) (hfa : mg "law" = some (.ref fa))
    {f0 : Addr} {od0 an0 : Option Addr} {sl0 : Array (Option Value)} {oc0 kV0 dc0 pm0 cd0 ct0 : Value}
    {T0 : Addr} {ot0 : Value} {oe0 : Option Addr} {ts0 : Array (Option Value)} {il0 : List Value} {in0 : Nat}
    {f1 : Addr} {od1 an1 : Option Addr} {sl1 : Array (Option Value)} {oc1 kV1 dc1 pm1 cd1 ct1 : Value}
    {f2 : Addr} {od2 an2 : Option Addr} {sl2 : Array (Option Value)} {oc2 kV2 dc2 pm2 cd2 ct2 : Value}
    {f3 : Addr} {od3 an3 : Option Addr} {sl3 : Array (Option Value)} {oc3 kV3 dc3 pm3 cd3 ct3 : Value}
    {f4 : Addr} {od4 an4 : Option Addr} {sl4 : Array (Option Value)} {oc4 kV4 dc4 pm4 cd4 ct4 : Value}
    {f5 : Addr} {od5 an5 : Option Addr} {sl5 : Array (Option Value)} {oc5 kV5 dc5 pm5 cd5 ct5 : Value}
    {f6 : Addr} {od6 an6 : Option Addr} {sl6 : Array (Option Value)} {oc6 kV6 dc6 pm6 cd6 ct6 : Value}
    {f7 : Addr} {od7 an7 : Option Addr} {sl7 : Array (Option Value)} {oc7 kV7 dc7 pm7 cd7 ct7 : Value}
    {f8 : Addr} {od8 an8 : Option Addr} {sl8 : Array (Option Value)} {oc8 kV8 dc8 pm8 cd8 ct8 : Value}
    {f9 : Addr} {od9 an9 : Option Addr} {sl9 : Array (Option Value)} {oc9 kV9 dc9 pm9 cd9 ct9 : Value}
    {f10 : Addr} {od10 an10 : Option Addr} {sl10 : Array (Option Value)} {oc10 kV10 dc10 pm10 cd10 ct10 : Value}
    {f11 : Addr} {od11 an11 : Option Addr} {sl11 : Array (Option Value)} {oc11 kV11 dc11 pm11 cd11 ct11 : Value}
    {f12 : Addr} {od12 an12 : Option Addr} {sl12 : Array (Option Value)} {oc12 kV12 dc12 pm12 cd12 ct12 : Value}
    {E0 : Addr}
    {G0 : Addr}
    {G1 : Addr}
    {G2 : Addr}
    {G3 : Addr}
    {G4 : Addr}
    {G5 : Addr}
    {G6 : Addr}
    {G7 : Addr}
    {G8 : Addr}
    {G9 : Addr}
    {G12 : Addr}
    (a0 : PySem.W.nsIn K mainGlobals "ratio" = some (some (.ref f0)))
    (l0 : K.lookup f0 = some ⟨oc0, od0, .func (PySem.W.fnOf "ratio" "ratio" (defArgs st0) (defBody st0) (defScope st0) (.ref T0) kV0 dc0 pm0 an0 cd0 ct0), sl0⟩)
    (c0 : PySem.W.codeIn K cd0 "ratio" = true)
    (k0 : PySem.W.keepIn K (.ref f0) = true)
    (d0 : K.lookup T0 = some ⟨ot0, oe0, .seq il0.toArray in0, ts0⟩)
    (v0 : Vals [V.int 1] il0)
    (a1 : PySem.W.nsIn K mainGlobals "_law_pool" = some (some (.ref f1)))
    (l1 : K.lookup f1 = some ⟨oc1, od1, .func (PySem.W.fnOf "_law_pool" "_law_pool" (defArgs st1) (defBody st1) (defScope st1) .none kV1 dc1 pm1 an1 cd1 ct1), sl1⟩)
    (c1 : PySem.W.codeIn K cd1 "_law_pool" = true)
    (k1 : PySem.W.keepIn K (.ref f1) = true)
    (a2 : PySem.W.nsIn K mainGlobals "_law_take" = some (some (.ref f2)))
    (l2 : K.lookup f2 = some ⟨oc2, od2, .func (PySem.W.fnOf "_law_take" "_law_take" (defArgs st2) (defBody st2) (defScope st2) .none kV2 dc2 pm2 an2 cd2 ct2), sl2⟩)
    (c2 : PySem.W.codeIn K cd2 "_law_take" = true)
    (k2 : PySem.W.keepIn K (.ref f2) = true)
    (a3 : PySem.W.nsIn K mainGlobals "_law_whole" = some (some (.ref f3)))
    (l3 : K.lookup f3 = some ⟨oc3, od3, .func (PySem.W.fnOf "_law_whole" "_law_whole" (defArgs st3) (defBody st3) (defScope st3) .none kV3 dc3 pm3 an3 cd3 ct3), sl3⟩)
    (c3 : PySem.W.codeIn K cd3 "_law_whole" = true)
    (k3 : PySem.W.keepIn K (.ref f3) = true)
    (a4 : PySem.W.nsIn K mainGlobals "_law_sized" = some (some (.ref f4)))
    (l4 : K.lookup f4 = some ⟨oc4, od4, .func (PySem.W.fnOf "_law_sized" "_law_sized" (defArgs st4) (defBody st4) (defScope st4) .none kV4 dc4 pm4 an4 cd4 ct4), sl4⟩)
    (c4 : PySem.W.codeIn K cd4 "_law_sized" = true)
    (k4 : PySem.W.keepIn K (.ref f4) = true)
    (a5 : PySem.W.nsIn K mainGlobals "_law_slow" = some (some (.ref f5)))
    (l5 : K.lookup f5 = some ⟨oc5, od5, .func (PySem.W.fnOf "_law_slow" "_law_slow" (defArgs st5) (defBody st5) (defScope st5) .none kV5 dc5 pm5 an5 cd5 ct5), sl5⟩)
    (c5 : PySem.W.codeIn K cd5 "_law_slow" = true)
    (k5 : PySem.W.keepIn K (.ref f5) = true)
    (a6 : PySem.W.nsIn K mainGlobals "_law_two" = some (some (.ref f6)))
    (l6 : K.lookup f6 = some ⟨oc6, od6, .func (PySem.W.fnOf "_law_two" "_law_two" (defArgs st6) (defBody st6) (defScope st6) .none kV6 dc6 pm6 an6 cd6 ct6), sl6⟩)
    (c6 : PySem.W.codeIn K cd6 "_law_two" = true)
    (k6 : PySem.W.keepIn K (.ref f6) = true)
    (a7 : PySem.W.nsIn K mainGlobals "_law_common" = some (some (.ref f7)))
    (l7 : K.lookup f7 = some ⟨oc7, od7, .func (PySem.W.fnOf "_law_common" "_law_common" (defArgs st7) (defBody st7) (defScope st7) .none kV7 dc7 pm7 an7 cd7 ct7), sl7⟩)
    (c7 : PySem.W.codeIn K cd7 "_law_common" = true)
    (k7 : PySem.W.keepIn K (.ref f7) = true)
    (a8 : PySem.W.nsIn K mainGlobals "_law_due" = some (some (.ref f8)))
    (l8 : K.lookup f8 = some ⟨oc8, od8, .func (PySem.W.fnOf "_law_due" "_law_due" (defArgs st8) (defBody st8) (defScope st8) .none kV8 dc8 pm8 an8 cd8 ct8), sl8⟩)
    (c8 : PySem.W.codeIn K cd8 "_law_due" = true)
    (k8 : PySem.W.keepIn K (.ref f8) = true)
    (a9 : PySem.W.nsIn K mainGlobals "_law_told" = some (some (.ref f9)))
    (l9 : K.lookup f9 = some ⟨oc9, od9, .func (PySem.W.fnOf "_law_told" "_law_told" (defArgs st9) (defBody st9) (defScope st9) .none kV9 dc9 pm9 an9 cd9 ct9), sl9⟩)
    (c9 : PySem.W.codeIn K cd9 "_law_told" = true)
    (k9 : PySem.W.keepIn K (.ref f9) = true)
    (a10 : PySem.W.nsIn K mainGlobals "_law_refused" = some (some (.ref f10)))
    (l10 : K.lookup f10 = some ⟨oc10, od10, .func (PySem.W.fnOf "_law_refused" "_law_refused" (defArgs st10) (defBody st10) (defScope st10) .none kV10 dc10 pm10 an10 cd10 ct10), sl10⟩)
    (c10 : PySem.W.codeIn K cd10 "_law_refused" = true)
    (k10 : PySem.W.keepIn K (.ref f10) = true)
    (a11 : PySem.W.nsIn K mainGlobals "_law_asked" = some (some (.ref f11)))
    (l11 : K.lookup f11 = some ⟨oc11, od11, .func (PySem.W.fnOf "_law_asked" "_law_asked" (defArgs st11) (defBody st11) (defScope st11) .none kV11 dc11 pm11 an11 cd11 ct11), sl11⟩)
    (c11 : PySem.W.codeIn K cd11 "_law_asked" = true)
    (k11 : PySem.W.keepIn K (.ref f11) = true)
    (a12 : PySem.W.nsIn K mainGlobals "law" = some (some (.ref f12)))
    (l12 : K.lookup f12 = some ⟨oc12, od12, .func (PySem.W.fnOf "law" "law" (defArgs st12) (defBody st12) (defScope st12) .none kV12 dc12 pm12 an12 cd12 ct12), sl12⟩)
    (c12 : PySem.W.codeIn K cd12 "law" = true)
    (k12 : PySem.W.keepIn K (.ref f12) = true)
    (ea0 : PySem.W.nsIn K mainGlobals "BadRatio" = some (some (.ref E0)))
    (ex0 : PySem.W.excIn K E0 [.type "ValueError", .type "Exception", .type "BaseException", .type "object"] "ValueError.__new__" = true)
    (ek0 : PySem.W.keepIn K (.ref E0) = true)
    (es0 : PySem.W.subIn K (.ref E0) (.type "BaseException") = some true)
    (et0 : PySem.W.typeIn K (.ref E0) = some (.type "type"))
    (eg0 : PySem.W.findIn K (.ref E0) "__getattribute__" = some (some (.builtin "BaseException.__getattribute__")))
    (eh0 : PySem.W.findIn K (.ref E0) "__getattr__" = some none)
    (ed0 : PySem.W.hasDictIn K E0 = true)
    (ec0 : PySem.W.findIn K (.ref E0) "__class__" = some (some (.builtin "object.__class__")))
    (em0 : PySem.W.mroIn K E0 (.type "object") = some true)
    (eu : PySem.W.specialIn K (.builtin "object.__class__") "__get__" = some (some (.builtin "getset_descriptor.__get__")))
    (ev : PySem.W.takesIn K (.builtin "object.__class__") = some true)
    (ga0 : PySem.W.nsIn K mainGlobals "BadLiteral" = some (some (.ref G0)))
    (gi0 : PySem.W.isClsIn K G0 = true)
    (gt0 : PySem.W.typeIn K (.ref G0) = some (.type "type"))
    (gb0 : PySem.W.subIn K (.ref G0) (.type "BaseException") = some true)
    (ga1 : PySem.W.nsIn K mainGlobals "BadModel" = some (some (.ref G1)))
    (gi1 : PySem.W.isClsIn K G1 = true)
    (gt1 : PySem.W.typeIn K (.ref G1) = some (.type "type"))
    (gb1 : PySem.W.subIn K (.ref G1) (.type "BaseException") = some true)
    (ga2 : PySem.W.nsIn K mainGlobals "BadName" = some (some (.ref G2)))
    (gi2 : PySem.W.isClsIn K G2 = true)
    (gt2 : PySem.W.typeIn K (.ref G2) = some (.type "type"))
    (gb2 : PySem.W.subIn K (.ref G2) (.type "BaseException") = some true)
    (ga3 : PySem.W.nsIn K mainGlobals "BadNode" = some (some (.ref G3)))
    (gi3 : PySem.W.isClsIn K G3 = true)
    (gt3 : PySem.W.typeIn K (.ref G3) = some (.type "type"))
    (gb3 : PySem.W.subIn K (.ref G3) (.type "BaseException") = some true)
    (ga4 : PySem.W.nsIn K mainGlobals "BadSort" = some (some (.ref G4)))
    (gi4 : PySem.W.isClsIn K G4 = true)
    (gt4 : PySem.W.typeIn K (.ref G4) = some (.type "type"))
    (gb4 : PySem.W.subIn K (.ref G4) (.type "BaseException") = some true)
    (ga5 : PySem.W.nsIn K mainGlobals "BadText" = some (some (.ref G5)))
    (gi5 : PySem.W.isClsIn K G5 = true)
    (gt5 : PySem.W.typeIn K (.ref G5) = some (.type "type"))
    (gb5 : PySem.W.subIn K (.ref G5) (.type "BaseException") = some true)
    (ga6 : PySem.W.nsIn K mainGlobals "NameTaken" = some (some (.ref G6)))
    (gi6 : PySem.W.isClsIn K G6 = true)
    (gt6 : PySem.W.typeIn K (.ref G6) = some (.type "type"))
    (gb6 : PySem.W.subIn K (.ref G6) (.type "BaseException") = some true)
    (ga7 : PySem.W.nsIn K mainGlobals "NoAnswer" = some (some (.ref G7)))
    (gi7 : PySem.W.isClsIn K G7 = true)
    (gt7 : PySem.W.typeIn K (.ref G7) = some (.type "type"))
    (gb7 : PySem.W.subIn K (.ref G7) (.type "BaseException") = some true)
    (ga8 : PySem.W.nsIn K mainGlobals "NoLevel" = some (some (.ref G8)))
    (gi8 : PySem.W.isClsIn K G8 = true)
    (gt8 : PySem.W.typeIn K (.ref G8) = some (.type "type"))
    (gb8 : PySem.W.subIn K (.ref G8) (.type "BaseException") = some true)
    (ga9 : PySem.W.nsIn K mainGlobals "UnknownName" = some (some (.ref G9)))
    (gi9 : PySem.W.isClsIn K G9 = true)
    (gt9 : PySem.W.typeIn K (.ref G9) = some (.type "type"))
    (gb9 : PySem.W.subIn K (.ref G9) (.type "BaseException") = some true)
    (ga11 : PySem.W.nsIn K mainGlobals "ValueError" = some none)
    (ga12 : PySem.W.nsIn K mainGlobals "PaperError" = some (some (.ref G12)))
    (gi12 : PySem.W.isClsIn K G12 = true)
    (gt12 : PySem.W.typeIn K (.ref G12) = some (.type "type"))
    (gb12 : PySem.W.subIn K (.ref G12) (.type "BaseException") = some true)
    (ei0 : PySem.W.isClsIn K E0 = true)
    (ee0 : PySem.W.subIn K (.ref E0) (.ref E0) = some true)
    (eo0_0 : PySem.W.subIn K (.ref E0) (.ref G0) = some false)
    (eo0_1 : PySem.W.subIn K (.ref E0) (.ref G1) = some false)
    (eo0_2 : PySem.W.subIn K (.ref E0) (.ref G2) = some false)
    (eo0_3 : PySem.W.subIn K (.ref E0) (.ref G3) = some false)
    (eo0_4 : PySem.W.subIn K (.ref E0) (.ref G4) = some false)
    (eo0_5 : PySem.W.subIn K (.ref E0) (.ref G5) = some false)
    (eo0_6 : PySem.W.subIn K (.ref E0) (.ref G6) = some false)
    (eo0_7 : PySem.W.subIn K (.ref E0) (.ref G7) = some false)
    (eo0_8 : PySem.W.subIn K (.ref E0) (.ref G8) = some false)
    (eo0_9 : PySem.W.subIn K (.ref E0) (.ref G9) = some false)
    (eo0_10 : PySem.W.subIn K (.ref E0) (.ref E0) = some true)
    (eo0_11 : PySem.W.subIn K (.ref E0) (.type "ValueError") = some true)
    (eo0_12 : PySem.W.subIn K (.ref E0) (.ref G12) = some true)
    (z0 : PySem.W.nsIn K mainGlobals "abs" = some none)
    (z1 : PySem.W.nsIn K mainGlobals "bool" = some none)
    (z2 : PySem.W.nsIn K mainGlobals "gcd" = some (some (.builtin "math.gcd")))
    (z3 : PySem.W.nsIn K mainGlobals "int" = some none)
    (z4 : PySem.W.nsIn K mainGlobals "isinstance" = some none)
    (z5 : PySem.W.nsIn K mainGlobals "len" = some none)
    (z6 : PySem.W.nsIn K mainGlobals "max" = some none)
    (z7 : PySem.W.nsIn K mainGlobals "min" = some none)
    (z8 : PySem.W.nsIn K mainGlobals "range" = some none)
    (z9 : PySem.W.nsIn K mainGlobals "tuple" = some none) :
    ∃ fd : FuncData, (∀ (s : Shared) (v : Value), BindsTo s fd ⟨[v], []⟩ [("_law_script", v)]) ∧ ∀ base : Heap, K.In base → base.Ns mainGlobals mg → FnOk PySem.Challenge.rw_papersat_k01_ratio_in_lowest_terms.prog w K mg base (L2.CX PySem.Challenge.rw_papersat_k01_ratio_in_lowest_terms.prog w) 230 fa fd ["_law_script"] (spT attL attN attS K 1 (callF fbs pg 100000 230 12)) := by
  have e := hfa.symm.trans (PySem.W.mg_of X G a12)
  obtain rfl : f12 = fa := by cases e; rfl
  have F0 : FunD K "ratio" "ratio" (defArgs st0) (defBody st0) (defScope st0) [V.int 1] [] f0 (PySem.W.fnOf "ratio" "ratio" (defArgs st0) (defBody st0) (defScope st0) (.ref T0) kV0 dc0 pm0 an0 cd0 ct0) := ⟨⟨_, _, _, _, _, _, _, _, _, _, rfl, l0, c0, .inr ⟨by simp, T0, _, il0, in0, rfl, d0, rfl, v0⟩, .inl rfl⟩, k0⟩
  have B0 : ∀ j : Nat, j ≤ [PV.int 1].length → ∃ dvs us, Binds K (PySem.W.fnOf "ratio" "ratio" (defArgs st0) (defBody st0) (defScope st0) (.ref T0) kV0 dc0 pm0 an0 cd0 ct0) ps0 us ∧ Vals dvs us ∧ ∀ ρ H, VRels K ρ H (([.int 1] : List PV).drop j) dvs := fun j hj => match j, hj with
    | 0, _ => by obtain ⟨ds, r, b⟩ := F0.binds1 (ps := ps0) 1 0 (by simp) rfl (fun T kV doc pm an cdv ct us its hu hi => match us, its, hu, hi with | [_], [_], _, _ => ⟨_, rfl, rfl⟩); exact ⟨_, ds, b, r, fun _ _ => .cons (.int _) (.nil)⟩
    | 1, _ => by obtain ⟨ds, r, b⟩ := F0.binds1 (ps := ps0) 2 1 (by simp) rfl (fun T kV doc pm an cdv ct us its hu hi => match us, its, hu, hi with | [_, _], [_], _, _ => ⟨_, rfl, rfl⟩); exact ⟨_, ds, b, r, fun _ _ => .nil⟩
    | n + 2, h => absurd h (by simp)
  have F1 : FunD K "_law_pool" "_law_pool" (defArgs st1) (defBody st1) (defScope st1) [] [] f1 (PySem.W.fnOf "_law_pool" "_law_pool" (defArgs st1) (defBody st1) (defScope st1) .none kV1 dc1 pm1 an1 cd1 ct1) := ⟨⟨_, _, _, _, _, _, _, _, _, _, rfl, l1, c1, .inl ⟨rfl, rfl⟩, .inl rfl⟩, k1⟩
  have B1 := bind0 (F1.bindsN (ps := ps1) fun _ _ _ _ _ _ us hl => match us, hl with | [_, _], _ => rfl)
  have F2 : FunD K "_law_take" "_law_take" (defArgs st2) (defBody st2) (defScope st2) [] [] f2 (PySem.W.fnOf "_law_take" "_law_take" (defArgs st2) (defBody st2) (defScope st2) .none kV2 dc2 pm2 an2 cd2 ct2) := ⟨⟨_, _, _, _, _, _, _, _, _, _, rfl, l2, c2, .inl ⟨rfl, rfl⟩, .inl rfl⟩, k2⟩
  have B2 := bind0 (F2.bindsN (ps := ps2) fun _ _ _ _ _ _ us hl => match us, hl with | [_, _], _ => rfl)
  have F3 : FunD K "_law_whole" "_law_whole" (defArgs st3) (defBody st3) (defScope st3) [] [] f3 (PySem.W.fnOf "_law_whole" "_law_whole" (defArgs st3) (defBody st3) (defScope st3) .none kV3 dc3 pm3 an3 cd3 ct3) := ⟨⟨_, _, _, _, _, _, _, _, _, _, rfl, l3, c3, .inl ⟨rfl, rfl⟩, .inl rfl⟩, k3⟩
  have B3 := bind0 (F3.bindsN (ps := ps3) fun _ _ _ _ _ _ us hl => match us, hl with | [_], _ => rfl)
  have F4 : FunD K "_law_sized" "_law_sized" (defArgs st4) (defBody st4) (defScope st4) [] [] f4 (PySem.W.fnOf "_law_sized" "_law_sized" (defArgs st4) (defBody st4) (defScope st4) .none kV4 dc4 pm4 an4 cd4 ct4) := ⟨⟨_, _, _, _, _, _, _, _, _, _, rfl, l4, c4, .inl ⟨rfl, rfl⟩, .inl rfl⟩, k4⟩
  have B4 := bind0 (F4.bindsN (ps := ps4) fun _ _ _ _ _ _ us hl => match us, hl with | [_, _], _ => rfl)
  have F5 : FunD K "_law_slow" "_law_slow" (defArgs st5) (defBody st5) (defScope st5) [] [] f5 (PySem.W.fnOf "_law_slow" "_law_slow" (defArgs st5) (defBody st5) (defScope st5) .none kV5 dc5 pm5 an5 cd5 ct5) := ⟨⟨_, _, _, _, _, _, _, _, _, _, rfl, l5, c5, .inl ⟨rfl, rfl⟩, .inl rfl⟩, k5⟩
  have B5 := bind0 (F5.bindsN (ps := ps5) fun _ _ _ _ _ _ us hl => match us, hl with | [_], _ => rfl)
  have F6 : FunD K "_law_two" "_law_two" (defArgs st6) (defBody st6) (defScope st6) [] [] f6 (PySem.W.fnOf "_law_two" "_law_two" (defArgs st6) (defBody st6) (defScope st6) .none kV6 dc6 pm6 an6 cd6 ct6) := ⟨⟨_, _, _, _, _, _, _, _, _, _, rfl, l6, c6, .inl ⟨rfl, rfl⟩, .inl rfl⟩, k6⟩
  have B6 := bind0 (F6.bindsN (ps := ps6) fun _ _ _ _ _ _ us hl => match us, hl with | [_], _ => rfl)
  have F7 : FunD K "_law_common" "_law_common" (defArgs st7) (defBody st7) (defScope st7) [] [] f7 (PySem.W.fnOf "_law_common" "_law_common" (defArgs st7) (defBody st7) (defScope st7) .none kV7 dc7 pm7 an7 cd7 ct7) := ⟨⟨_, _, _, _, _, _, _, _, _, _, rfl, l7, c7, .inl ⟨rfl, rfl⟩, .inl rfl⟩, k7⟩
  have B7 := bind0 (F7.bindsN (ps := ps7) fun _ _ _ _ _ _ us hl => match us, hl with | [_, _], _ => rfl)
  have F8 : FunD K "_law_due" "_law_due" (defArgs st8) (defBody st8) (defScope st8) [] [] f8 (PySem.W.fnOf "_law_due" "_law_due" (defArgs st8) (defBody st8) (defScope st8) .none kV8 dc8 pm8 an8 cd8 ct8) := ⟨⟨_, _, _, _, _, _, _, _, _, _, rfl, l8, c8, .inl ⟨rfl, rfl⟩, .inl rfl⟩, k8⟩
  have B8 := bind0 (F8.bindsN (ps := ps8) fun _ _ _ _ _ _ us hl => match us, hl with | [_, _, _], _ => rfl)
  have F9 : FunD K "_law_told" "_law_told" (defArgs st9) (defBody st9) (defScope st9) [] [] f9 (PySem.W.fnOf "_law_told" "_law_told" (defArgs st9) (defBody st9) (defScope st9) .none kV9 dc9 pm9 an9 cd9 ct9) := ⟨⟨_, _, _, _, _, _, _, _, _, _, rfl, l9, c9, .inl ⟨rfl, rfl⟩, .inl rfl⟩, k9⟩
  have B9 := bind0 (F9.bindsN (ps := ps9) fun _ _ _ _ _ _ us hl => match us, hl with | [_, _, _], _ => rfl)
  have F10 : FunD K "_law_refused" "_law_refused" (defArgs st10) (defBody st10) (defScope st10) [] [] f10 (PySem.W.fnOf "_law_refused" "_law_refused" (defArgs st10) (defBody st10) (defScope st10) .none kV10 dc10 pm10 an10 cd10 ct10) := ⟨⟨_, _, _, _, _, _, _, _, _, _, rfl, l10, c10, .inl ⟨rfl, rfl⟩, .inl rfl⟩, k10⟩
  have B10 := bind0 (F10.bindsN (ps := ps10) fun _ _ _ _ _ _ us hl => match us, hl with | [_, _], _ => rfl)
  have F11 : FunD K "_law_asked" "_law_asked" (defArgs st11) (defBody st11) (defScope st11) [] [] f11 (PySem.W.fnOf "_law_asked" "_law_asked" (defArgs st11) (defBody st11) (defScope st11) .none kV11 dc11 pm11 an11 cd11 ct11) := ⟨⟨_, _, _, _, _, _, _, _, _, _, rfl, l11, c11, .inl ⟨rfl, rfl⟩, .inl rfl⟩, k11⟩
  have B11 := bind0 (F11.bindsN (ps := ps11) fun _ _ _ _ _ _ us hl => match us, hl with | [_, _, _], _ => rfl)
  have F12 : FunD K "law" "law" (defArgs st12) (defBody st12) (defScope st12) [] [] f12 (PySem.W.fnOf "law" "law" (defArgs st12) (defBody st12) (defScope st12) .none kV12 dc12 pm12 an12 cd12 ct12) := ⟨⟨_, _, _, _, _, _, _, _, _, _, rfl, l12, c12, .inl ⟨rfl, rfl⟩, .inl rfl⟩, k12⟩
  have B12 := bind0 (F12.bindsN (ps := ps12) fun _ _ _ _ _ _ us hl => match us, hl with | [_], _ => rfl)
  have W : Wd (tbOf attL attN attS fun n => [E0].getD n 0) K mg pg fbs (fun n => [f0, f1, f2, f3, f4, f5, f6, f7, f8, f9, f10, f11, f12].getD n 0) (fun n => match n with | 0 => PySem.W.fnOf "ratio" "ratio" (defArgs st0) (defBody st0) (defScope st0) (.ref T0) kV0 dc0 pm0 an0 cd0 ct0 | 1 => PySem.W.fnOf "_law_pool" "_law_pool" (defArgs st1) (defBody st1) (defScope st1) .none kV1 dc1 pm1 an1 cd1 ct1 | 2 => PySem.W.fnOf "_law_take" "_law_take" (defArgs st2) (defBody st2) (defScope st2) .none kV2 dc2 pm2 an2 cd2 ct2 | 3 => PySem.W.fnOf "_law_whole" "_law_whole" (defArgs st3) (defBody st3) (defScope st3) .none kV3 dc3 pm3 an3 cd3 ct3 | 4 => PySem.W.fnOf "_law_sized" "_law_sized" (defArgs st4) (defBody st4) (defScope st4) .none kV4 dc4 pm4 an4 cd4 ct4 | 5 => PySem.W.fnOf "_law_slow" "_law_slow" (defArgs st5) (defBody st5) (defScope st5) .none kV5 dc5 pm5 an5 cd5 ct5 | 6 => PySem.W.fnOf "_law_two" "_law_two" (defArgs st6) (defBody st6) (defScope st6) .none kV6 dc6 pm6 an6 cd6 ct6 | 7 => PySem.W.fnOf "_law_common" "_law_common" (defArgs st7) (defBody st7) (defScope st7) .none kV7 dc7 pm7 an7 cd7 ct7 | 8 => PySem.W.fnOf "_law_due" "_law_due" (defArgs st8) (defBody st8) (defScope st8) .none kV8 dc8 pm8 an8 cd8 ct8 | 9 => PySem.W.fnOf "_law_told" "_law_told" (defArgs st9) (defBody st9) (defScope st9) .none kV9 dc9 pm9 an9 cd9 ct9 | 10 => PySem.W.fnOf "_law_refused" "_law_refused" (defArgs st10) (defBody st10) (defScope st10) .none kV10 dc10 pm10 an10 cd10 ct10 | 11 => PySem.W.fnOf "_law_asked" "_law_asked" (defArgs st11) (defBody st11) (defScope st11) .none kV11 dc11 pm11 an11 cd11 ct11 | _ => PySem.W.fnOf "law" "law" (defArgs st12) (defBody st12) (defScope st12) .none kV12 dc12 pm12 an12 cd12 ct12) := {
    glob := fun g x v hg => absurd (show none = some (x, v) from hg) (by simp)
    blt := blt_of (List.forall_mem_cons.mpr ⟨fun _ => PySem.W.mg_none_of X G z0, List.forall_mem_cons.mpr ⟨fun _ => PySem.W.mg_none_of X G z1, List.forall_mem_cons.mpr ⟨fun h => absurd rfl h, List.forall_mem_cons.mpr ⟨fun _ => PySem.W.mg_none_of X G z3, List.forall_mem_cons.mpr ⟨fun _ => PySem.W.mg_none_of X G z4, List.forall_mem_cons.mpr ⟨fun _ => PySem.W.mg_none_of X G z5, List.forall_mem_cons.mpr ⟨fun _ => PySem.W.mg_none_of X G z6, List.forall_mem_cons.mpr ⟨fun _ => PySem.W.mg_none_of X G z7, List.forall_mem_cons.mpr ⟨fun _ => PySem.W.mg_none_of X G z8, List.forall_mem_cons.mpr ⟨fun _ => PySem.W.mg_none_of X G z9, List.forall_mem_nil _⟩⟩⟩⟩⟩⟩⟩⟩⟩⟩) (fun _ => PySem.W.mg_of X G z2)
    bltO := List.forall_mem_cons.mpr ⟨fun _ => PySem.W.mg_none_of X G z0, List.forall_mem_cons.mpr ⟨fun _ => PySem.W.mg_none_of X G z1, List.forall_mem_cons.mpr ⟨fun h => absurd rfl h, List.forall_mem_cons.mpr ⟨fun _ => PySem.W.mg_none_of X G z3, List.forall_mem_cons.mpr ⟨fun _ => PySem.W.mg_none_of X G z4, List.forall_mem_cons.mpr ⟨fun _ => PySem.W.mg_none_of X G z5, List.forall_mem_cons.mpr ⟨fun _ => PySem.W.mg_none_of X G z6, List.forall_mem_cons.mpr ⟨fun _ => PySem.W.mg_none_of X G z7, List.forall_mem_cons.mpr ⟨fun _ => PySem.W.mg_none_of X G z8, List.forall_mem_cons.mpr ⟨fun _ => PySem.W.mg_none_of X G z9, List.forall_mem_nil _⟩⟩⟩⟩⟩⟩⟩⟩⟩⟩
    att := tbOf_att
    aok := fun c n z => (show ∀ p ∈ aokL, Cls K ((tbOf attL attN attS fun n => [E0].getD n 0).cls p.1) ∧ NoAttr K ((tbOf attL attN attS fun n => [E0].getD n 0).cls p.1) ((tbOf attL attN attS fun n => [E0].getD n 0).att p.2) from List.forall_mem_nil _) _ (aokOf_mem z)
    fn := fun f fd hg => match f, hg with
      | 0, hg => by cases hg; exact ⟨_, rfl, ⟨_, _, st0, N0, _, F0, sc0, rfl, ck0⟩, fun _ => PySem.W.mg_of X G a0, B0⟩
      | 1, hg => by cases hg; exact ⟨_, rfl, ⟨_, _, st1, N1, _, F1, sc1, rfl, ck1⟩, fun _ => PySem.W.mg_of X G a1, B1⟩
      | 2, hg => by cases hg; exact ⟨_, rfl, ⟨_, _, st2, N2, _, F2, sc2, rfl, ck2⟩, fun _ => PySem.W.mg_of X G a2, B2⟩
      | 3, hg => by cases hg; exact ⟨_, rfl, ⟨_, _, st3, N3, _, F3, sc3, rfl, ck3⟩, fun _ => PySem.W.mg_of X G a3, B3⟩
      | 4, hg => by cases hg; exact ⟨_, rfl, ⟨_, _, st4, N4, _, F4, sc4, rfl, ck4⟩, fun _ => PySem.W.mg_of X G a4, B4⟩
      | 5, hg => by cases hg; exact ⟨_, rfl, ⟨_, _, st5, N5, _, F5, sc5, rfl, ck5⟩, fun _ => PySem.W.mg_of X G a5, B5⟩
      | 6, hg => by cases hg; exact ⟨_, rfl, ⟨_, _, st6, N6, _, F6, sc6, rfl, ck6⟩, fun _ => PySem.W.mg_of X G a6, B6⟩
      | 7, hg => by cases hg; exact ⟨_, rfl, ⟨_, _, st7, N7, _, F7, sc7, rfl, ck7⟩, fun _ => PySem.W.mg_of X G a7, B7⟩
      | 8, hg => by cases hg; exact ⟨_, rfl, ⟨_, _, st8, N8, _, F8, sc8, rfl, ck8⟩, fun _ => PySem.W.mg_of X G a8, B8⟩
      | 9, hg => by cases hg; exact ⟨_, rfl, ⟨_, _, st9, N9, _, F9, sc9, rfl, ck9⟩, fun _ => PySem.W.mg_of X G a9, B9⟩
      | 10, hg => by cases hg; exact ⟨_, rfl, ⟨_, _, st10, N10, _, F10, sc10, rfl, ck10⟩, fun _ => PySem.W.mg_of X G a10, B10⟩
      | 11, hg => by cases hg; exact ⟨_, rfl, ⟨_, _, st11, N11, _, F11, sc11, rfl, ck11⟩, fun _ => PySem.W.mg_of X G a11, B11⟩
      | 12, hg => by cases hg; exact ⟨_, rfl, ⟨_, _, st12, N12, _, F12, sc12, rfl, ck12⟩, fun _ => PySem.W.mg_of X G a12, B12⟩
      | n + 13, hg => absurd (show none = some fd from hg) (by simp)
    mt := fun c m f z => (show ∀ p ∈ mtL, Cls K ((tbOf attL attN attS fun n => [E0].getD n 0).cls p.1) ∧ ∃ fd, pg.funs[p.2.2]? = some fd ∧ Meth K ((tbOf attL attN attS fun n => [E0].getD n 0).cls p.1) ((tbOf attL attN attS fun n => [E0].getD n 0).att p.2.1) ([f0, f1, f2, f3, f4, f5, f6, f7, f8, f9, f10, f11, f12].getD p.2.2 0) from List.forall_mem_nil _) _ (mtOf_mem z)
    xr := fun c x z => (show ∀ p ∈ xrL, ∃ B newId initId bmB, ExcBaseFacts B newId initId bmB ∧ PySem.W.excIn K ((tbOf attL attN attS fun n => [E0].getD n 0).cls p.1) bmB newId = true ∧ mg p.2 = some (.ref ((tbOf attL attN attS fun n => [E0].getD n 0).cls p.1)) ∧ PySem.W.keepIn K (.ref ((tbOf attL attN attS fun n => [E0].getD n 0).cls p.1)) = true ∧ PySem.W.subIn K (.ref ((tbOf attL attN attS fun n => [E0].getD n 0).cls p.1)) (.type "BaseException") = some true ∧ PySem.W.typeIn K (.ref ((tbOf attL attN attS fun n => [E0].getD n 0).cls p.1)) = some (.type "type") from List.forall_mem_cons.mpr ⟨⟨_, _, _, _, PySem.F.excBase_ValueError, ex0, PySem.W.mg_of X G ea0, ek0, es0, et0⟩, List.forall_mem_nil _⟩) _ z
    xg := fun g x hg => match g, hg with
      | 0, hg => by cases hg; exact ⟨.ref G0, .ref G0, .own _, .inl (PySem.W.mg_of X G ga0), fun c b z => (show ∀ p ∈ isxL, p.2.1 = 0 → PySem.W.kitOne K (.ref ((tbOf attL attN attS fun n => [E0].getD n 0).cls p.1)) (.ref G0) = some p.2.2 ∧ PySem.W.exmOne K (.ref ((tbOf attL attN attS fun n => [E0].getD n 0).cls p.1)) (.ref G0) = some p.2.2 from List.forall_mem_cons.mpr ⟨fun z => kit_ref ee0 gi0 gt0 gb0 eo0_0, List.forall_mem_cons.mpr ⟨fun z => absurd z (by decide), List.forall_mem_cons.mpr ⟨fun z => absurd z (by decide), List.forall_mem_cons.mpr ⟨fun z => absurd z (by decide), List.forall_mem_cons.mpr ⟨fun z => absurd z (by decide), List.forall_mem_cons.mpr ⟨fun z => absurd z (by decide), List.forall_mem_cons.mpr ⟨fun z => absurd z (by decide), List.forall_mem_cons.mpr ⟨fun z => absurd z (by decide), List.forall_mem_cons.mpr ⟨fun z => absurd z (by decide), List.forall_mem_cons.mpr ⟨fun z => absurd z (by decide), List.forall_mem_cons.mpr ⟨fun z => absurd z (by decide), List.forall_mem_cons.mpr ⟨fun z => absurd z (by decide), List.forall_mem_cons.mpr ⟨fun z => absurd z (by decide), List.forall_mem_nil _⟩⟩⟩⟩⟩⟩⟩⟩⟩⟩⟩⟩⟩) _ (isxOf_mem z) rfl⟩
      | 1, hg => by cases hg; exact ⟨.ref G1, .ref G1, .own _, .inl (PySem.W.mg_of X G ga1), fun c b z => (show ∀ p ∈ isxL, p.2.1 = 1 → PySem.W.kitOne K (.ref ((tbOf attL attN attS fun n => [E0].getD n 0).cls p.1)) (.ref G1) = some p.2.2 ∧ PySem.W.exmOne K (.ref ((tbOf attL attN attS fun n => [E0].getD n 0).cls p.1)) (.ref G1) = some p.2.2 from List.forall_mem_cons.mpr ⟨fun z => absurd z (by decide), List.forall_mem_cons.mpr ⟨fun z => kit_ref ee0 gi1 gt1 gb1 eo0_1, List.forall_mem_cons.mpr ⟨fun z => absurd z (by decide), List.forall_mem_cons.mpr ⟨fun z => absurd z (by decide), List.forall_mem_cons.mpr ⟨fun z => absurd z (by decide), List.forall_mem_cons.mpr ⟨fun z => absurd z (by decide), List.forall_mem_cons.mpr ⟨fun z => absurd z (by decide), List.forall_mem_cons.mpr ⟨fun z => absurd z (by decide), List.forall_mem_cons.mpr ⟨fun z => absurd z (by decide), List.forall_mem_cons.mpr ⟨fun z => absurd z (by decide), List.forall_mem_cons.mpr ⟨fun z => absurd z (by decide), List.forall_mem_cons.mpr ⟨fun z => absurd z (by decide), List.forall_mem_cons.mpr ⟨fun z => absurd z (by decide), List.forall_mem_nil _⟩⟩⟩⟩⟩⟩⟩⟩⟩⟩⟩⟩⟩) _ (isxOf_mem z) rfl⟩
      | 2, hg => by cases hg; exact ⟨.ref G2, .ref G2, .own _, .inl (PySem.W.mg_of X G ga2), fun c b z => (show ∀ p ∈ isxL, p.2.1 = 2 → PySem.W.kitOne K (.ref ((tbOf attL attN attS fun n => [E0].getD n 0).cls p.1)) (.ref G2) = some p.2.2 ∧ PySem.W.exmOne K (.ref ((tbOf attL attN attS fun n => [E0].getD n 0).cls p.1)) (.ref G2) = some p.2.2 from List.forall_mem_cons.mpr ⟨fun z => absurd z (by decide), List.forall_mem_cons.mpr ⟨fun z => absurd z (by decide), List.forall_mem_cons.mpr ⟨fun z => kit_ref ee0 gi2 gt2 gb2 eo0_2, List.forall_mem_cons.mpr ⟨fun z => absurd z (by decide), List.forall_mem_cons.mpr ⟨fun z => absurd z (by decide), List.forall_mem_cons.mpr ⟨fun z => absurd z (by decide), List.forall_mem_cons.mpr ⟨fun z => absurd z (by decide), List.forall_mem_cons.mpr ⟨fun z => absurd z (by decide), List.forall_mem_cons.mpr ⟨fun z => absurd z (by decide), List.forall_mem_cons.mpr ⟨fun z => absurd z (by decide), List.forall_mem_cons.mpr ⟨fun z => absurd z (by decide), List.forall_mem_cons.mpr ⟨fun z => absurd z (by decide), List.forall_mem_cons.mpr ⟨fun z => absurd z (by decide), List.forall_mem_nil _⟩⟩⟩⟩⟩⟩⟩⟩⟩⟩⟩⟩⟩) _ (isxOf_mem z) rfl⟩
      | 3, hg => by cases hg; exact ⟨.ref G3, .ref G3, .own _, .inl (PySem.W.mg_of X G ga3), fun c b z => (show ∀ p ∈ isxL, p.2.1 = 3 → PySem.W.kitOne K (.ref ((tbOf attL attN attS fun n => [E0].getD n 0).cls p.1)) (.ref G3) = some p.2.2 ∧ PySem.W.exmOne K (.ref ((tbOf attL attN attS fun n => [E0].getD n 0).cls p.1)) (.ref G3) = some p.2.2 from List.forall_mem_cons.mpr ⟨fun z => absurd z (by decide), List.forall_mem_cons.mpr ⟨fun z => absurd z (by decide), List.forall_mem_cons.mpr ⟨fun z => absurd z (by decide), List.forall_mem_cons.mpr ⟨fun z => kit_ref ee0 gi3 gt3 gb3 eo0_3, List.forall_mem_cons.mpr ⟨fun z => absurd z (by decide), List.forall_mem_cons.mpr ⟨fun z => absurd z (by decide), List.forall_mem_cons.mpr ⟨fun z => absurd z (by decide), List.forall_mem_cons.mpr ⟨fun z => absurd z (by decide), List.forall_mem_cons.mpr ⟨fun z => absurd z (by decide), List.forall_mem_cons.mpr ⟨fun z => absurd z (by decide), List.forall_mem_cons.mpr ⟨fun z => absurd z (by decide), List.forall_mem_cons.mpr ⟨fun z => absurd z (by decide), List.forall_mem_cons.mpr ⟨fun z => absurd z (by decide), List.forall_mem_nil _⟩⟩⟩⟩⟩⟩⟩⟩⟩⟩⟩⟩⟩) _ (isxOf_mem z) rfl⟩
      | 4, hg => by cases hg; exact ⟨.ref G4, .ref G4, .own _, .inl (PySem.W.mg_of X G ga4), fun c b z => (show ∀ p ∈ isxL, p.2.1 = 4 → PySem.W.kitOne K (.ref ((tbOf attL attN attS fun n => [E0].getD n 0).cls p.1)) (.ref G4) = some p.2.2 ∧ PySem.W.exmOne K (.ref ((tbOf attL attN attS fun n => [E0].getD n 0).cls p.1)) (.ref G4) = some p.2.2 from List.forall_mem_cons.mpr ⟨fun z => absurd z (by decide), List.forall_mem_cons.mpr ⟨fun z => absurd z (by decide), List.forall_mem_cons.mpr ⟨fun z => absurd z (by decide), List.forall_mem_cons.mpr ⟨fun z => absurd z (by decide), List.forall_mem_cons.mpr ⟨fun z => kit_ref ee0 gi4 gt4 gb4 eo0_4, List.forall_mem_cons.mpr ⟨fun z => absurd z (by decide), List.forall_mem_cons.mpr ⟨fun z => absurd z (by decide), List.forall_mem_cons.mpr ⟨fun z => absurd z (by decide), List.forall_mem_cons.mpr ⟨fun z => absurd z (by decide), List.forall_mem_cons.mpr ⟨fun z => absurd z (by decide), List.forall_mem_cons.mpr ⟨fun z => absurd z (by decide), List.forall_mem_cons.mpr ⟨fun z => absurd z (by decide), List.forall_mem_cons.mpr ⟨fun z => absurd z (by decide), List.forall_mem_nil _⟩⟩⟩⟩⟩⟩⟩⟩⟩⟩⟩⟩⟩) _ (isxOf_mem z) rfl⟩
      | 5, hg => by cases hg; exact ⟨.ref G5, .ref G5, .own _, .inl (PySem.W.mg_of X G ga5), fun c b z => (show ∀ p ∈ isxL, p.2.1 = 5 → PySem.W.kitOne K (.ref ((tbOf attL attN attS fun n => [E0].getD n 0).cls p.1)) (.ref G5) = some p.2.2 ∧ PySem.W.exmOne K (.ref ((tbOf attL attN attS fun n => [E0].getD n 0).cls p.1)) (.ref G5) = some p.2.2 from List.forall_mem_cons.mpr ⟨fun z => absurd z (by decide), List.forall_mem_cons.mpr ⟨fun z => absurd z (by decide), List.forall_mem_cons.mpr ⟨fun z => absurd z (by decide), List.forall_mem_cons.mpr ⟨fun z => absurd z (by decide), List.forall_mem_cons.mpr ⟨fun z => absurd z (by decide), List.forall_mem_cons.mpr ⟨fun z => kit_ref ee0 gi5 gt5 gb5 eo0_5, List.forall_mem_cons.mpr ⟨fun z => absurd z (by decide), List.forall_mem_cons.mpr ⟨fun z => absurd z (by decide), List.forall_mem_cons.mpr ⟨fun z => absurd z (by decide), List.forall_mem_cons.mpr ⟨fun z => absurd z (by decide), List.forall_mem_cons.mpr ⟨fun z => absurd z (by decide), List.forall_mem_cons.mpr ⟨fun z => absurd z (by decide), List.forall_mem_cons.mpr ⟨fun z => absurd z (by decide), List.forall_mem_nil _⟩⟩⟩⟩⟩⟩⟩⟩⟩⟩⟩⟩⟩) _ (isxOf_mem z) rfl⟩
      | 6, hg => by cases hg; exact ⟨.ref G6, .ref G6, .own _, .inl (PySem.W.mg_of X G ga6), fun c b z => (show ∀ p ∈ isxL, p.2.1 = 6 → PySem.W.kitOne K (.ref ((tbOf attL attN attS fun n => [E0].getD n 0).cls p.1)) (.ref G6) = some p.2.2 ∧ PySem.W.exmOne K (.ref ((tbOf attL attN attS fun n => [E0].getD n 0).cls p.1)) (.ref G6) = some p.2.2 from List.forall_mem_cons.mpr ⟨fun z => absurd z (by decide), List.forall_mem_cons.mpr ⟨fun z => absurd z (by decide), List.forall_mem_cons.mpr ⟨fun z => absurd z (by decide), List.forall_mem_cons.mpr ⟨fun z => absurd z (by decide), List.forall_mem_cons.mpr ⟨fun z => absurd z (by decide), List.forall_mem_cons.mpr ⟨fun z => absurd z (by decide), List.forall_mem_cons.mpr ⟨fun z => kit_ref ee0 gi6 gt6 gb6 eo0_6, List.forall_mem_cons.mpr ⟨fun z => absurd z (by decide), List.forall_mem_cons.mpr ⟨fun z => absurd z (by decide), List.forall_mem_cons.mpr ⟨fun z => absurd z (by decide), List.forall_mem_cons.mpr ⟨fun z => absurd z (by decide), List.forall_mem_cons.mpr ⟨fun z => absurd z (by decide), List.forall_mem_cons.mpr ⟨fun z => absurd z (by decide), List.forall_mem_nil _⟩⟩⟩⟩⟩⟩⟩⟩⟩⟩⟩⟩⟩) _ (isxOf_mem z) rfl⟩
      | 7, hg => by cases hg; exact ⟨.ref G7, .ref G7, .own _, .inl (PySem.W.mg_of X G ga7), fun c b z => (show ∀ p ∈ isxL, p.2.1 = 7 → PySem.W.kitOne K (.ref ((tbOf attL attN attS fun n => [E0].getD n 0).cls p.1)) (.ref G7) = some p.2.2 ∧ PySem.W.exmOne K (.ref ((tbOf attL attN attS fun n => [E0].getD n 0).cls p.1)) (.ref G7) = some p.2.2 from List.forall_mem_cons.mpr ⟨fun z => absurd z (by decide), List.forall_mem_cons.mpr ⟨fun z => absurd z (by decide), List.forall_mem_cons.mpr ⟨fun z => absurd z (by decide), List.forall_mem_cons.mpr ⟨fun z => absurd z (by decide), List.forall_mem_cons.mpr ⟨fun z => absurd z (by decide), List.forall_mem_cons.mpr ⟨fun z => absurd z (by decide), List.forall_mem_cons.mpr ⟨fun z => absurd z (by decide), List.forall_mem_cons.mpr ⟨fun z => kit_ref ee0 gi7 gt7 gb7 eo0_7, List.forall_mem_cons.mpr ⟨fun z => absurd z (by decide), List.forall_mem_cons.mpr ⟨fun z => absurd z (by decide), List.forall_mem_cons.mpr ⟨fun z => absurd z (by decide), List.forall_mem_cons.mpr ⟨fun z => absurd z (by decide), List.forall_mem_cons.mpr ⟨fun z => absurd z (by decide), List.forall_mem_nil _⟩⟩⟩⟩⟩⟩⟩⟩⟩⟩⟩⟩⟩) _ (isxOf_mem z) rfl⟩
      | 8, hg => by cases hg; exact ⟨.ref G8, .ref G8, .own _, .inl (PySem.W.mg_of X G ga8), fun c b z => (show ∀ p ∈ isxL, p.2.1 = 8 → PySem.W.kitOne K (.ref ((tbOf attL attN attS fun n => [E0].getD n 0).cls p.1)) (.ref G8) = some p.2.2 ∧ PySem.W.exmOne K (.ref ((tbOf attL attN attS fun n => [E0].getD n 0).cls p.1)) (.ref G8) = some p.2.2 from List.forall_mem_cons.mpr ⟨fun z => absurd z (by decide), List.forall_mem_cons.mpr ⟨fun z => absurd z (by decide), List.forall_mem_cons.mpr ⟨fun z => absurd z (by decide), List.forall_mem_cons.mpr ⟨fun z => absurd z (by decide), List.forall_mem_cons.mpr ⟨fun z => absurd z (by decide), List.forall_mem_cons.mpr ⟨fun z => absurd z (by decide), List.forall_mem_cons.mpr ⟨fun z => absurd z (by decide), List.forall_mem_cons.mpr ⟨fun z => absurd z (by decide), List.forall_mem_cons.mpr ⟨fun z => kit_ref ee0 gi8 gt8 gb8 eo0_8, List.forall_mem_cons.mpr ⟨fun z => absurd z (by decide), List.forall_mem_cons.mpr ⟨fun z => absurd z (by decide), List.forall_mem_cons.mpr ⟨fun z => absurd z (by decide), List.forall_mem_cons.mpr ⟨fun z => absurd z (by decide), List.forall_mem_nil _⟩⟩⟩⟩⟩⟩⟩⟩⟩⟩⟩⟩⟩) _ (isxOf_mem z) rfl⟩
      | 9, hg => by cases hg; exact ⟨.ref G9, .ref G9, .own _, .inl (PySem.W.mg_of X G ga9), fun c b z => (show ∀ p ∈ isxL, p.2.1 = 9 → PySem.W.kitOne K (.ref ((tbOf attL attN attS fun n => [E0].getD n 0).cls p.1)) (.ref G9) = some p.2.2 ∧ PySem.W.exmOne K (.ref ((tbOf attL attN attS fun n => [E0].getD n 0).cls p.1)) (.ref G9) = some p.2.2 from List.forall_mem_cons.mpr ⟨fun z => absurd z (by decide), List.forall_mem_cons.mpr ⟨fun z => absurd z (by decide), List.forall_mem_cons.mpr ⟨fun z => absurd z (by decide), List.forall_mem_cons.mpr ⟨fun z => absurd z (by decide), List.forall_mem_cons.mpr ⟨fun z => absurd z (by decide), List.forall_mem_cons.mpr ⟨fun z => absurd z (by decide), List.forall_mem_cons.mpr ⟨fun z => absurd z (by decide), List.forall_mem_cons.mpr ⟨fun z => absurd z (by decide), List.forall_mem_cons.mpr ⟨fun z => absurd z (by decide), List.forall_mem_cons.mpr ⟨fun z => kit_ref ee0 gi9 gt9 gb9 eo0_9, List.forall_mem_cons.mpr ⟨fun z => absurd z (by decide), List.forall_mem_cons.mpr ⟨fun z => absurd z (by decide), List.forall_mem_cons.mpr ⟨fun z => absurd z (by decide), List.forall_mem_nil _⟩⟩⟩⟩⟩⟩⟩⟩⟩⟩⟩⟩⟩) _ (isxOf_mem z) rfl⟩
      | 10, hg => by cases hg; exact ⟨.ref E0, .ref E0, .own _, .inl (PySem.W.mg_of X G ea0), fun c b z => (show ∀ p ∈ isxL, p.2.1 = 10 → PySem.W.kitOne K (.ref ((tbOf attL attN attS fun n => [E0].getD n 0).cls p.1)) (.ref E0) = some p.2.2 ∧ PySem.W.exmOne K (.ref ((tbOf attL attN attS fun n => [E0].getD n 0).cls p.1)) (.ref E0) = some p.2.2 from List.forall_mem_cons.mpr ⟨fun z => absurd z (by decide), List.forall_mem_cons.mpr ⟨fun z => absurd z (by decide), List.forall_mem_cons.mpr ⟨fun z => absurd z (by decide), List.forall_mem_cons.mpr ⟨fun z => absurd z (by decide), List.forall_mem_cons.mpr ⟨fun z => absurd z (by decide), List.forall_mem_cons.mpr ⟨fun z => absurd z (by decide), List.forall_mem_cons.mpr ⟨fun z => absurd z (by decide), List.forall_mem_cons.mpr ⟨fun z => absurd z (by decide), List.forall_mem_cons.mpr ⟨fun z => absurd z (by decide), List.forall_mem_cons.mpr ⟨fun z => absurd z (by decide), List.forall_mem_cons.mpr ⟨fun z => kit_ref ee0 ei0 et0 es0 eo0_10, List.forall_mem_cons.mpr ⟨fun z => absurd z (by decide), List.forall_mem_cons.mpr ⟨fun z => absurd z (by decide), List.forall_mem_nil _⟩⟩⟩⟩⟩⟩⟩⟩⟩⟩⟩⟩⟩) _ (isxOf_mem z) rfl⟩
      | 11, hg => by cases hg; exact ⟨.type "ValueError", .ty "ValueError", .ty _, .inr ⟨PySem.W.mg_none_of X G ga11, by decide +kernel, by decide +kernel⟩, fun c b z => (show ∀ p ∈ isxL, p.2.1 = 11 → PySem.W.kitOne K (.ref ((tbOf attL attN attS fun n => [E0].getD n 0).cls p.1)) (.type "ValueError") = some p.2.2 ∧ PySem.W.exmOne K (.ref ((tbOf attL attN attS fun n => [E0].getD n 0).cls p.1)) (.type "ValueError") = some p.2.2 from List.forall_mem_cons.mpr ⟨fun z => absurd z (by decide), List.forall_mem_cons.mpr ⟨fun z => absurd z (by decide), List.forall_mem_cons.mpr ⟨fun z => absurd z (by decide), List.forall_mem_cons.mpr ⟨fun z => absurd z (by decide), List.forall_mem_cons.mpr ⟨fun z => absurd z (by decide), List.forall_mem_cons.mpr ⟨fun z => absurd z (by decide), List.forall_mem_cons.mpr ⟨fun z => absurd z (by decide), List.forall_mem_cons.mpr ⟨fun z => absurd z (by decide), List.forall_mem_cons.mpr ⟨fun z => absurd z (by decide), List.forall_mem_cons.mpr ⟨fun z => absurd z (by decide), List.forall_mem_cons.mpr ⟨fun z => absurd z (by decide), List.forall_mem_cons.mpr ⟨fun z => kit_ty (by decide +kernel) (by decide +kernel) eo0_11, List.forall_mem_cons.mpr ⟨fun z => absurd z (by decide), List.forall_mem_nil _⟩⟩⟩⟩⟩⟩⟩⟩⟩⟩⟩⟩⟩) _ (isxOf_mem z) rfl⟩
      | 12, hg => by cases hg; exact ⟨.ref G12, .ref G12, .own _, .inl (PySem.W.mg_of X G ga12), fun c b z => (show ∀ p ∈ isxL, p.2.1 = 12 → PySem.W.kitOne K (.ref ((tbOf attL attN attS fun n => [E0].getD n 0).cls p.1)) (.ref G12) = some p.2.2 ∧ PySem.W.exmOne K (.ref ((tbOf attL attN attS fun n => [E0].getD n 0).cls p.1)) (.ref G12) = some p.2.2 from List.forall_mem_cons.mpr ⟨fun z => absurd z (by decide), List.forall_mem_cons.mpr ⟨fun z => absurd z (by decide), List.forall_mem_cons.mpr ⟨fun z => absurd z (by decide), List.forall_mem_cons.mpr ⟨fun z => absurd z (by decide), List.forall_mem_cons.mpr ⟨fun z => absurd z (by decide), List.forall_mem_cons.mpr ⟨fun z => absurd z (by decide), List.forall_mem_cons.mpr ⟨fun z => absurd z (by decide), List.forall_mem_cons.mpr ⟨fun z => absurd z (by decide), List.forall_mem_cons.mpr ⟨fun z => absurd z (by decide), List.forall_mem_cons.mpr ⟨fun z => absurd z (by decide), List.forall_mem_cons.mpr ⟨fun z => absurd z (by decide), List.forall_mem_cons.mpr ⟨fun z => absurd z (by decide), List.forall_mem_cons.mpr ⟨fun z => kit_ref ee0 gi12 gt12 gb12 eo0_12, List.forall_mem_nil _⟩⟩⟩⟩⟩⟩⟩⟩⟩⟩⟩⟩⟩) _ (isxOf_mem z) rfl⟩
      | n + 13, hg => absurd (show none = some x from hg) (by simp)
    xc := fun c g b z => (show ∀ p ∈ isxL, ExcC K ((tbOf attL attN attS fun n => [E0].getD n 0).cls p.1) from List.forall_mem_cons.mpr ⟨⟨eg0, eh0, es0, ed0, ec0, eu, ev, em0⟩, List.forall_mem_cons.mpr ⟨⟨eg0, eh0, es0, ed0, ec0, eu, ev, em0⟩, List.forall_mem_cons.mpr ⟨⟨eg0, eh0, es0, ed0, ec0, eu, ev, em0⟩, List.forall_mem_cons.mpr ⟨⟨eg0, eh0, es0, ed0, ec0, eu, ev, em0⟩, List.forall_mem_cons.mpr ⟨⟨eg0, eh0, es0, ed0, ec0, eu, ev, em0⟩, List.forall_mem_cons.mpr ⟨⟨eg0, eh0, es0, ed0, ec0, eu, ev, em0⟩, List.forall_mem_cons.mpr ⟨⟨eg0, eh0, es0, ed0, ec0, eu, ev, em0⟩, List.forall_mem_cons.mpr ⟨⟨eg0, eh0, es0, ed0, ec0, eu, ev, em0⟩, List.forall_mem_cons.mpr ⟨⟨eg0, eh0, es0, ed0, ec0, eu, ev, em0⟩, List.forall_mem_cons.mpr ⟨⟨eg0, eh0, es0, ed0, ec0, eu, ev, em0⟩, List.forall_mem_cons.mpr ⟨⟨eg0, eh0, es0, ed0, ec0, eu, ev, em0⟩, List.forall_mem_cons.mpr ⟨⟨eg0, eh0, es0, ed0, ec0, eu, ev, em0⟩, List.forall_mem_cons.mpr ⟨⟨eg0, eh0, es0, ed0, ec0, eu, ev, em0⟩, List.forall_mem_nil _⟩⟩⟩⟩⟩⟩⟩⟩⟩⟩⟩⟩⟩) _ (isxOf_mem (g := g) (b := b) z)
    kw := fun f n ks z => (show ∀ p ∈ pg.kws, ∃ fd, pg.funs[p.1]? = some fd ∧ mg fd.name = some (.ref ([f0, f1, f2, f3, f4, f5, f6, f7, f8, f9, f10, f11, f12].getD p.1 0)) ∧ PySem.W.keepIn K (.ref ([f0, f1, f2, f3, f4, f5, f6, f7, f8, f9, f10, f11, f12].getD p.1 0)) = true ∧ KBn K ((fun n => match n with | 0 => PySem.W.fnOf "ratio" "ratio" (defArgs st0) (defBody st0) (defScope st0) (.ref T0) kV0 dc0 pm0 an0 cd0 ct0 | 1 => PySem.W.fnOf "_law_pool" "_law_pool" (defArgs st1) (defBody st1) (defScope st1) .none kV1 dc1 pm1 an1 cd1 ct1 | 2 => PySem.W.fnOf "_law_take" "_law_take" (defArgs st2) (defBody st2) (defScope st2) .none kV2 dc2 pm2 an2 cd2 ct2 | 3 => PySem.W.fnOf "_law_whole" "_law_whole" (defArgs st3) (defBody st3) (defScope st3) .none kV3 dc3 pm3 an3 cd3 ct3 | 4 => PySem.W.fnOf "_law_sized" "_law_sized" (defArgs st4) (defBody st4) (defScope st4) .none kV4 dc4 pm4 an4 cd4 ct4 | 5 => PySem.W.fnOf "_law_slow" "_law_slow" (defArgs st5) (defBody st5) (defScope st5) .none kV5 dc5 pm5 an5 cd5 ct5 | 6 => PySem.W.fnOf "_law_two" "_law_two" (defArgs st6) (defBody st6) (defScope st6) .none kV6 dc6 pm6 an6 cd6 ct6 | 7 => PySem.W.fnOf "_law_common" "_law_common" (defArgs st7) (defBody st7) (defScope st7) .none kV7 dc7 pm7 an7 cd7 ct7 | 8 => PySem.W.fnOf "_law_due" "_law_due" (defArgs st8) (defBody st8) (defScope st8) .none kV8 dc8 pm8 an8 cd8 ct8 | 9 => PySem.W.fnOf "_law_told" "_law_told" (defArgs st9) (defBody st9) (defScope st9) .none kV9 dc9 pm9 an9 cd9 ct9 | 10 => PySem.W.fnOf "_law_refused" "_law_refused" (defArgs st10) (defBody st10) (defScope st10) .none kV10 dc10 pm10 an10 cd10 ct10 | 11 => PySem.W.fnOf "_law_asked" "_law_asked" (defArgs st11) (defBody st11) (defScope st11) .none kV11 dc11 pm11 an11 cd11 ct11 | _ => PySem.W.fnOf "law" "law" (defArgs st12) (defBody st12) (defScope st12) .none kV12 dc12 pm12 an12 cd12 ct12) p.1) fd.ps p.2.1 p.2.2 (fun us ws => us ++ ws) (fun us ws => us ++ ws) from List.forall_mem_cons.mpr ⟨⟨_, rfl, PySem.W.mg_of X G a0, k0, (F0.kbindsD (ps := ps0) 1 ["q"] (fun us ds ws => us ++ ws) (by simp) (fun r1 _ r3 => r1.append r3) (fun T kV doc pm an cdv ct us its ws hu hi hw => match us, its, ws, hu, hi, hw with | [_], [_], [_], _, _, _ => ⟨_, rfl, rfl⟩)).choose_spec⟩, List.forall_mem_nil _⟩) _ z
    mkc := fun c cd z => absurd (show none = some cd from z) (by simp) }
  exact ⟨PySem.W.fnOf "law" "law" (defArgs st12) (defBody st12) (defScope st12) .none kV12 dc12 pm12 an12 cd12 ct12, fun s v => .of_eq rfl, fun base _ _ => spT_ok ((callF_ok W 230).1 12 ⟨"law", true, ps12, []⟩ rfl)⟩
end RL

set_option autoImplicit false
namespace RL
/-- in lowest terms -/
def Low (p q : Int) : Prop := 1 ≤ q ∧ Int.gcd p q = 1
theorem low_dvd {a b c d : Int} (h : Low a b) (e : a * d = c * b) : b ∣ d := by
  have h1 : Nat.Coprime b.natAbs a.natAbs := by
    have := h.2
    rw [Int.gcd_comm] at this
    exact this
  have h2 : b.natAbs ∣ a.natAbs * d.natAbs := by
    rw [← Int.natAbs_mul, e, Int.natAbs_mul]
    exact Nat.dvd_mul_left _ _
  have h3 := h1.dvd_of_dvd_mul_left h2
  exact Int.natAbs_dvd_natAbs.mp h3
theorem low_uniq {a b c d : Int} (h : Low a b) (h' : Low c d) (e : a * d = c * b) : a = c ∧ b = d := by
  have h1 : b ∣ d := low_dvd h e
  have h2 : d ∣ b := low_dvd h' e.symm
  have hb := h.1
  have hd := h'.1
  have eq : b = d := by
    have := Int.le_of_dvd (by omega) h1
    have := Int.le_of_dvd (by omega) h2
    omega
  subst eq
  exact ⟨Int.eq_of_mul_eq_mul_right (by omega) e, rfl⟩
/-- what the quotients by the gcd are -/
theorem low_of {p q d : Int} (hq : q ≠ 0) (hd : d = Int.gcd p q ∧ 0 < q ∨ d = -(Int.gcd p q : Int) ∧ q < 0) : d ≠ 0 ∧ Low (p.fdiv d) (q.fdiv d) ∧ p.fdiv d * q = p * q.fdiv d ∧ (p.fdiv d).natAbs ≤ p.natAbs ∧ (q.fdiv d).natAbs ≤ q.natAbs := by
  have gp : 0 < Int.gcd p q := Nat.pos_of_ne_zero fun z => hq (Int.gcd_eq_zero_iff.mp z).2
  have dp : (Int.gcd p q : Int) ∣ p := Int.gcd_dvd_left p q
  have dq : (Int.gcd p q : Int) ∣ q := Int.gcd_dvd_right p q
  have d0 : d ≠ 0 := by rcases hd with ⟨e, _⟩ | ⟨e, _⟩ <;> omega
  have ddp : d ∣ p := by
    rcases hd with ⟨e, _⟩ | ⟨e, _⟩
    · rw [e]; exact dp
    · rw [e]; exact Int.neg_dvd.mpr dp
  have ddq : d ∣ q := by
    rcases hd with ⟨e, _⟩ | ⟨e, _⟩
    · rw [e]; exact dq
    · rw [e]; exact Int.neg_dvd.mpr dq
  obtain ⟨x, ex⟩ := ddp
  obtain ⟨y, ey⟩ := ddq
  have fx : p.fdiv d = x := by rw [ex]; exact Int.mul_fdiv_cancel_left x d0
  have fy : q.fdiv d = y := by rw [ey]; exact Int.mul_fdiv_cancel_left y d0
  have da : d.natAbs = Int.gcd p q := by rcases hd with ⟨e, _⟩ | ⟨e, _⟩ <;> omega
  have g1 : Int.gcd x y = 1 := by
    have h1 : Int.gcd p q = d.natAbs * Int.gcd x y := by
      conv => lhs; rw [ex, ey]
      exact Int.gcd_mul_left d x y
    rw [da] at h1
    have h2 : Int.gcd p q * Int.gcd x y = Int.gcd p q * 1 := by omega
    exact Nat.eq_of_mul_eq_mul_left gp h2
  have y1 : 1 ≤ y := by
    rcases hd with ⟨e, s⟩ | ⟨e, s⟩
    · have : 0 < d := by omega
      by_cases z : 0 < y
      · omega
      · have : d * y ≤ 0 := Int.mul_nonpos_of_nonneg_of_nonpos (by omega) (by omega)
        omega
    · have : d < 0 := by omega
      by_cases z : 0 < y
      · omega
      · have : 0 ≤ d * y := Int.mul_nonneg_of_nonpos_of_nonpos (by omega) (by omega)
        omega
  have le : ∀ z w : Int, z = d * w → w.natAbs ≤ z.natAbs := by
    intro z w e
    rw [e, Int.natAbs_mul]
    exact Nat.le_mul_of_pos_left _ (by omega)
  rw [fx, fy]
  refine ⟨d0, ⟨y1, g1⟩, ?_, le p x ex, le q y ey⟩
  rw [ex, ey]
  conv => lhs; rw [← Int.mul_assoc, Int.mul_comm x d]
/-- Euclid's steps -/
def euc : Nat → Nat → Nat → Nat × Nat
  | 0, a, b => (a, b)
  | n + 1, a, b => if b = 0 then (a, b) else euc n b (a % b)
theorem euc_gcd : ∀ (n a b : Nat), Nat.gcd (euc n a b).1 (euc n a b).2 = Nat.gcd a b
  | 0, a, b => rfl
  | n + 1, a, b => by
    unfold euc
    split
    · rfl
    · rw [euc_gcd n b (a % b), Nat.gcd_comm b, ← Nat.gcd_rec, Nat.gcd_comm]
theorem euc_end : ∀ (n a b : Nat), b < 2 ^ n → (euc (2 * n + 1) a b).2 = 0
  | 0, a, b, h => by
    have : b = 0 := by simpa using h
    subst this
    unfold euc
    rw [if_pos rfl]
  | n + 1, a, b, h => by
    show (euc (2 * n + 1 + 2) a b).2 = 0
    unfold euc
    by_cases hb : b = 0
    · rw [if_pos hb]; exact hb
    · rw [if_neg hb]
      unfold euc
      by_cases hc : a % b = 0
      · rw [if_pos hc]; exact hc
      · rw [if_neg hc]
        apply euc_end n
        have h1 : a % b < b := Nat.mod_lt _ (by omega)
        have h2 : b % (a % b) < a % b := Nat.mod_lt _ (by omega)
        have h3 : b % (a % b) + a % b ≤ b := by
          have := Nat.div_add_mod b (a % b)
          have h4 : 1 ≤ b / (a % b) := (Nat.le_div_iff_mul_le (by omega)).mpr (by omega)
          have h5 : a % b * 1 ≤ a % b * (b / (a % b)) := Nat.mul_le_mul_left _ h4
          omega
        rw [Nat.pow_succ] at h
        omega
end RL

set_option Elab.async false
set_option linter.all false
set_option maxRecDepth 100000
set_option maxHeartbeats 1000000
set_option autoImplicit false
namespace RL
open RS
theorem mul_l {i j : Int} (h : i.natAbs < 2 ^ 64) : mulOk i j = True := eq_true (.inl h)
theorem mul_r {i j : Int} (h : j.natAbs < 2 ^ 64) : mulOk i j = True := eq_true (.inr (.inl h))
theorem div_ok {j : Int} (h0 : 0 < j) (h : j < 2 ^ 30) : divOk j = True := eq_true ⟨by omega, .inl (by omega)⟩
theorem pow18 : powOk 10 18 = True := eq_true (by decide)
theorem fmodB (a : Int) {n : Int} (h : 0 < n) : 0 ≤ a.fmod n ∧ a.fmod n < n := ⟨Int.fmod_nonneg_of_pos a h, Int.fmod_lt_of_pos a h⟩
def IsPool (o : MO) : Prop := ∃ c k b sp, 0 ≤ k ∧ o = .lst [.int c, .int k, .bl b, .int sp]
theorem pool_ok (k : Nat) (s i : Nat) (ns : List Int) (h : Hm) (hs : h[s]? = some (.frz (ns.map PV.int))) : wR (callF fbs pg 100000 (k+2) 1 [.ref s, .int i] h) (fun v h' => v = .ref h.length ∧ ∃ o, IsPool o ∧ h' = h ++ [o]) XF := by
  rw [callF_at (fi := ⟨4, b1⟩) (fd := ⟨"_law_pool", true, ps1, []⟩) (k) rfl rfl rfl, wR_ret]; show wS (dnF fbs pg 100000 (k)) b1 _ _ _ _ _ _ _
  have e1 : ((i : Int) + 1) = ((i + 1 : Nat) : Int) := by simp
  have g : ∀ j, j < ns.length → (ns.map PV.int)[j]? = some (.int (ns.getD j 0)) := fun j hj => by simp [hj]
  have m1 := mul_l (j := i) (show (17 : Int).natAbs < 2 ^ 64 by decide)
  have m2 := mul_l (j := i) (show (31 : Int).natAbs < 2 ^ 64 by decide)
  by_cases h1 : i < ns.length
  · by_cases h2 : i + 1 < ns.length
    · simp only [b1, hs, m1, m2, pow18, e1, Int.ofNat_lt, List.length_map, h1, h2, g i h1, g _ h2, ↓e1_var, ↓e1_int, ↓e1_str, ↓e1_bl, ↓e1_non, ↓e1_glob, ↓e1_bin, ↓e1_neg, ↓e1_bitl, ↓e1_not, ↓e1_and, ↓e1_or, ↓e1_cmp, ↓e1_chain, ↓e1_ite, ↓e1_call, ↓e1_callK, ↓e1_eqd, ↓e1_make, ↓e1_meO, ↓e1_bi, ↓e1_isi, ↓e1_meth, ↓e1_attr, ↓e1_tup, ↓e1_lst, ↓e1_dict, ↓e1_dictT, ↓e1_ix, ↓e1_sl, ↓o1_nil, ↓o1_cons, ↓e1_lc, ↓l1_nil, ↓l1_cons, ↓t1_cmp, ↓t1_chain, ↓t1_eqd, ↓t1_not, ↓t1_and, ↓t1_or, ↓c1_nil, ↓c1_cons, ↓i1_val, ↓i1_r1, ↓i1_r2, ↓g1_nm, ↓g1_sub, ↓g1_tup, ↓gs1_nil, ↓gs1_cons, ↓s1_skip, ↓s1_seq, ↓s1_ret, ↓s1_retN, ↓s1_expr, ↓s1_ite, ↓s1_brk, ↓s1_cont, ↓s1_bad, ↓s1_set, ↓s1_setT, ↓s1_par, ↓s1_aug, ↓s1_sattr, ↓s1_aattr, ↓s1_raise0, ↓s1_tryO, ↓s1_tryA, ↓s1_whl, ↓s1_frl, ↓t2_var, ↓t2_bl, ↓t2_ix, ↓t2_call, ↓t2_callK, ↓t2_meO, ↓t2_bi, ↓t2_isi, ↓t2_meth, ↓t2_attr, ↓t2_bin, wR_ok, wR_bad, wR_ite, wV_some, wV_none, wV_no, wBl_bl, wBl_int, wOp_some, wOp_none, wInt_int, wTwo_two, dnF_P, dnF_m, dnF_call, dnF_call1, b_add, b_sub, b_mul, b_div, b_mod, b_pow, b_shl, b_shr, b_and, b_or, b_xor, c_eq, c_ne, c_lt, c_le, c_gt, c_ge, c_is, c_isn, c_in, c_nin, a_add, a_sub, p_add, p_sub, p_mul, p_div, p_mod, p_pow, p_shr, p_and2, p_neg, p_bits, p_lt, p_le, p_gt, p_ge, p_eqi, p_nei, p_eqs, p_nes, p_eqb, p_isn, p_isnn, t_bl, t_int, len_tup, bi_int, bi_intb, bi_abs, bi_lstT, wIx_l, wIx_f, wIx_d, wIx_t, wSq_l, wSq_f, wMl_l, wLs_l, wLs_f, wLs_d, wDk_d, wSt_l, wSt_d, wSt_t, wDl_d, wDl_t, rcvO_l, rcvO_f, rcvO_d, rcvO_t, tnO_l, tnO_f, tnO_d, tnO_t, lstO_l, lstO_f, keyV_i, keyV_s, q_ix, q_ixT, q_ixK, q_set, q_len, q_list, q_dict, q_tuple, q_it, q_itT, q_itK, q_itS, q_r1, q_r2, q_addL, q_addT, q_in, q_nin, q_eq, q_ne, eqB_i, eqB_s, eqB_b, q_slL, q_slT, q_tr, q_rcv, q_tn, tn_i, tn_b, tn_n, tn_s, tn_t, tn_k, me_app, me_pop, me_rev, me_clr, me_ins, me_idx, me_get, me_sd, q_app, q_rev, q_clr, q_pop, q_get1, q_get2, q_idx, at0, at1, at2, at3, ix0, ix1, ix2, ix3, atk, ls_len, ha_new, la_new, k_at, k_at2, k_bin2, k_bin1, k_neg, k_bits, k_not2, k_not1, k_and2, k_and1, k_or2, k_or1, k_cmp2, k_cmp1, k_ch4, k_ch3, k_ch2, k_ch1, k_ite, k_call, k_ck2, k_ck1, k_eqd2, k_eqd1, k_mk3, k_mk2, k_mk1, k_mo3, k_mo2, k_mo1, k_bi, k_isi2, k_isi, k_me4, k_me3, k_me2, k_me1, k_attr, k_tup, k_lst, k_ix2, k_ix1, k_sl3, k_sl2, k_sl1, k_oi2, k_oi, k_lc, k_l2, k_l1, k_tr, k_bl2, k_bl, k_tn, k_ta, k_to, k_it, k_r1, k_r2b, k_r2, k_un, k_gs2, k_gs1, k_gt, k_gc, k_xs, k_seq, k_ex, k_sif, k_set, k_st, k_par2, k_par, k_aug2, k_aug1, k_sa2, k_sa1, k_aa4, k_aa3, k_aa2, k_aa1, k_frl, k_try, k_rn, k_rx, k_re, List.getElem?_cons_zero, List.getElem?_cons_succ, List.set_cons_zero, List.set_cons_succ, List.length_cons, List.length_nil, decide_eq_true_eq, Bool.not_eq_true', decide_eq_false_iff_not, if_true, if_false, Bool.false_eq_true, reduceIte, List.cons_append, List.nil_append, List.map_cons, List.map_nil, Nat.reduceLeDiff, and_true, true_and, startE, List.replicate, List.length_singleton, List.append_nil, decide_true, decide_false, not_true_eq_false, not_false_eq_true, Int.natAbs_natCast, Int.toNat_natCast, List.length_map, Bool.not_true, Bool.not_false, reduceCtorEq, subTN, ne_eq, and_self, true_and, Nat.reduceSub, Nat.reduceAdd, wipeE]
      exact ⟨_, ⟨_, _, _, _, Int.le_refl _, rfl⟩, rfl⟩
    · simp only [b1, hs, m1, m2, pow18, e1, Int.ofNat_lt, List.length_map, h1, h2, g i h1, ↓e1_var, ↓e1_int, ↓e1_str, ↓e1_bl, ↓e1_non, ↓e1_glob, ↓e1_bin, ↓e1_neg, ↓e1_bitl, ↓e1_not, ↓e1_and, ↓e1_or, ↓e1_cmp, ↓e1_chain, ↓e1_ite, ↓e1_call, ↓e1_callK, ↓e1_eqd, ↓e1_make, ↓e1_meO, ↓e1_bi, ↓e1_isi, ↓e1_meth, ↓e1_attr, ↓e1_tup, ↓e1_lst, ↓e1_dict, ↓e1_dictT, ↓e1_ix, ↓e1_sl, ↓o1_nil, ↓o1_cons, ↓e1_lc, ↓l1_nil, ↓l1_cons, ↓t1_cmp, ↓t1_chain, ↓t1_eqd, ↓t1_not, ↓t1_and, ↓t1_or, ↓c1_nil, ↓c1_cons, ↓i1_val, ↓i1_r1, ↓i1_r2, ↓g1_nm, ↓g1_sub, ↓g1_tup, ↓gs1_nil, ↓gs1_cons, ↓s1_skip, ↓s1_seq, ↓s1_ret, ↓s1_retN, ↓s1_expr, ↓s1_ite, ↓s1_brk, ↓s1_cont, ↓s1_bad, ↓s1_set, ↓s1_setT, ↓s1_par, ↓s1_aug, ↓s1_sattr, ↓s1_aattr, ↓s1_raise0, ↓s1_tryO, ↓s1_tryA, ↓s1_whl, ↓s1_frl, ↓t2_var, ↓t2_bl, ↓t2_ix, ↓t2_call, ↓t2_callK, ↓t2_meO, ↓t2_bi, ↓t2_isi, ↓t2_meth, ↓t2_attr, ↓t2_bin, wR_ok, wR_bad, wR_ite, wV_some, wV_none, wV_no, wBl_bl, wBl_int, wOp_some, wOp_none, wInt_int, wTwo_two, dnF_P, dnF_m, dnF_call, dnF_call1, b_add, b_sub, b_mul, b_div, b_mod, b_pow, b_shl, b_shr, b_and, b_or, b_xor, c_eq, c_ne, c_lt, c_le, c_gt, c_ge, c_is, c_isn, c_in, c_nin, a_add, a_sub, p_add, p_sub, p_mul, p_div, p_mod, p_pow, p_shr, p_and2, p_neg, p_bits, p_lt, p_le, p_gt, p_ge, p_eqi, p_nei, p_eqs, p_nes, p_eqb, p_isn, p_isnn, t_bl, t_int, len_tup, bi_int, bi_intb, bi_abs, bi_lstT, wIx_l, wIx_f, wIx_d, wIx_t, wSq_l, wSq_f, wMl_l, wLs_l, wLs_f, wLs_d, wDk_d, wSt_l, wSt_d, wSt_t, wDl_d, wDl_t, rcvO_l, rcvO_f, rcvO_d, rcvO_t, tnO_l, tnO_f, tnO_d, tnO_t, lstO_l, lstO_f, keyV_i, keyV_s, q_ix, q_ixT, q_ixK, q_set, q_len, q_list, q_dict, q_tuple, q_it, q_itT, q_itK, q_itS, q_r1, q_r2, q_addL, q_addT, q_in, q_nin, q_eq, q_ne, eqB_i, eqB_s, eqB_b, q_slL, q_slT, q_tr, q_rcv, q_tn, tn_i, tn_b, tn_n, tn_s, tn_t, tn_k, me_app, me_pop, me_rev, me_clr, me_ins, me_idx, me_get, me_sd, q_app, q_rev, q_clr, q_pop, q_get1, q_get2, q_idx, at0, at1, at2, at3, ix0, ix1, ix2, ix3, atk, ls_len, ha_new, la_new, k_at, k_at2, k_bin2, k_bin1, k_neg, k_bits, k_not2, k_not1, k_and2, k_and1, k_or2, k_or1, k_cmp2, k_cmp1, k_ch4, k_ch3, k_ch2, k_ch1, k_ite, k_call, k_ck2, k_ck1, k_eqd2, k_eqd1, k_mk3, k_mk2, k_mk1, k_mo3, k_mo2, k_mo1, k_bi, k_isi2, k_isi, k_me4, k_me3, k_me2, k_me1, k_attr, k_tup, k_lst, k_ix2, k_ix1, k_sl3, k_sl2, k_sl1, k_oi2, k_oi, k_lc, k_l2, k_l1, k_tr, k_bl2, k_bl, k_tn, k_ta, k_to, k_it, k_r1, k_r2b, k_r2, k_un, k_gs2, k_gs1, k_gt, k_gc, k_xs, k_seq, k_ex, k_sif, k_set, k_st, k_par2, k_par, k_aug2, k_aug1, k_sa2, k_sa1, k_aa4, k_aa3, k_aa2, k_aa1, k_frl, k_try, k_rn, k_rx, k_re, List.getElem?_cons_zero, List.getElem?_cons_succ, List.set_cons_zero, List.set_cons_succ, List.length_cons, List.length_nil, decide_eq_true_eq, Bool.not_eq_true', decide_eq_false_iff_not, if_true, if_false, Bool.false_eq_true, reduceIte, List.cons_append, List.nil_append, List.map_cons, List.map_nil, Nat.reduceLeDiff, and_true, true_and, startE, List.replicate, List.length_singleton, List.append_nil, decide_true, decide_false, not_true_eq_false, not_false_eq_true, Int.natAbs_natCast, Int.toNat_natCast, List.length_map, Bool.not_true, Bool.not_false, reduceCtorEq, subTN, ne_eq, and_self, true_and, Nat.reduceSub, Nat.reduceAdd, wipeE]
      exact ⟨_, ⟨_, _, _, _, Int.le_refl _, rfl⟩, rfl⟩
  · have h2 : ¬ i + 1 < ns.length := by omega
    simp only [b1, hs, m1, m2, pow18, e1, Int.ofNat_lt, List.length_map, h1, h2, ↓e1_var, ↓e1_int, ↓e1_str, ↓e1_bl, ↓e1_non, ↓e1_glob, ↓e1_bin, ↓e1_neg, ↓e1_bitl, ↓e1_not, ↓e1_and, ↓e1_or, ↓e1_cmp, ↓e1_chain, ↓e1_ite, ↓e1_call, ↓e1_callK, ↓e1_eqd, ↓e1_make, ↓e1_meO, ↓e1_bi, ↓e1_isi, ↓e1_meth, ↓e1_attr, ↓e1_tup, ↓e1_lst, ↓e1_dict, ↓e1_dictT, ↓e1_ix, ↓e1_sl, ↓o1_nil, ↓o1_cons, ↓e1_lc, ↓l1_nil, ↓l1_cons, ↓t1_cmp, ↓t1_chain, ↓t1_eqd, ↓t1_not, ↓t1_and, ↓t1_or, ↓c1_nil, ↓c1_cons, ↓i1_val, ↓i1_r1, ↓i1_r2, ↓g1_nm, ↓g1_sub, ↓g1_tup, ↓gs1_nil, ↓gs1_cons, ↓s1_skip, ↓s1_seq, ↓s1_ret, ↓s1_retN, ↓s1_expr, ↓s1_ite, ↓s1_brk, ↓s1_cont, ↓s1_bad, ↓s1_set, ↓s1_setT, ↓s1_par, ↓s1_aug, ↓s1_sattr, ↓s1_aattr, ↓s1_raise0, ↓s1_tryO, ↓s1_tryA, ↓s1_whl, ↓s1_frl, ↓t2_var, ↓t2_bl, ↓t2_ix, ↓t2_call, ↓t2_callK, ↓t2_meO, ↓t2_bi, ↓t2_isi, ↓t2_meth, ↓t2_attr, ↓t2_bin, wR_ok, wR_bad, wR_ite, wV_some, wV_none, wV_no, wBl_bl, wBl_int, wOp_some, wOp_none, wInt_int, wTwo_two, dnF_P, dnF_m, dnF_call, dnF_call1, b_add, b_sub, b_mul, b_div, b_mod, b_pow, b_shl, b_shr, b_and, b_or, b_xor, c_eq, c_ne, c_lt, c_le, c_gt, c_ge, c_is, c_isn, c_in, c_nin, a_add, a_sub, p_add, p_sub, p_mul, p_div, p_mod, p_pow, p_shr, p_and2, p_neg, p_bits, p_lt, p_le, p_gt, p_ge, p_eqi, p_nei, p_eqs, p_nes, p_eqb, p_isn, p_isnn, t_bl, t_int, len_tup, bi_int, bi_intb, bi_abs, bi_lstT, wIx_l, wIx_f, wIx_d, wIx_t, wSq_l, wSq_f, wMl_l, wLs_l, wLs_f, wLs_d, wDk_d, wSt_l, wSt_d, wSt_t, wDl_d, wDl_t, rcvO_l, rcvO_f, rcvO_d, rcvO_t, tnO_l, tnO_f, tnO_d, tnO_t, lstO_l, lstO_f, keyV_i, keyV_s, q_ix, q_ixT, q_ixK, q_set, q_len, q_list, q_dict, q_tuple, q_it, q_itT, q_itK, q_itS, q_r1, q_r2, q_addL, q_addT, q_in, q_nin, q_eq, q_ne, eqB_i, eqB_s, eqB_b, q_slL, q_slT, q_tr, q_rcv, q_tn, tn_i, tn_b, tn_n, tn_s, tn_t, tn_k, me_app, me_pop, me_rev, me_clr, me_ins, me_idx, me_get, me_sd, q_app, q_rev, q_clr, q_pop, q_get1, q_get2, q_idx, at0, at1, at2, at3, ix0, ix1, ix2, ix3, atk, ls_len, ha_new, la_new, k_at, k_at2, k_bin2, k_bin1, k_neg, k_bits, k_not2, k_not1, k_and2, k_and1, k_or2, k_or1, k_cmp2, k_cmp1, k_ch4, k_ch3, k_ch2, k_ch1, k_ite, k_call, k_ck2, k_ck1, k_eqd2, k_eqd1, k_mk3, k_mk2, k_mk1, k_mo3, k_mo2, k_mo1, k_bi, k_isi2, k_isi, k_me4, k_me3, k_me2, k_me1, k_attr, k_tup, k_lst, k_ix2, k_ix1, k_sl3, k_sl2, k_sl1, k_oi2, k_oi, k_lc, k_l2, k_l1, k_tr, k_bl2, k_bl, k_tn, k_ta, k_to, k_it, k_r1, k_r2b, k_r2, k_un, k_gs2, k_gs1, k_gt, k_gc, k_xs, k_seq, k_ex, k_sif, k_set, k_st, k_par2, k_par, k_aug2, k_aug1, k_sa2, k_sa1, k_aa4, k_aa3, k_aa2, k_aa1, k_frl, k_try, k_rn, k_rx, k_re, List.getElem?_cons_zero, List.getElem?_cons_succ, List.set_cons_zero, List.set_cons_succ, List.length_cons, List.length_nil, decide_eq_true_eq, Bool.not_eq_true', decide_eq_false_iff_not, if_true, if_false, Bool.false_eq_true, reduceIte, List.cons_append, List.nil_append, List.map_cons, List.map_nil, Nat.reduceLeDiff, and_true, true_and, startE, List.replicate, List.length_singleton, List.append_nil, decide_true, decide_false, not_true_eq_false, not_false_eq_true, Int.natAbs_natCast, Int.toNat_natCast, List.length_map, Bool.not_true, Bool.not_false, reduceCtorEq, subTN, ne_eq, and_self, true_and, Nat.reduceSub, Nat.reduceAdd, wipeE]
    exact ⟨_, ⟨_, _, _, _, Int.le_refl _, rfl⟩, rfl⟩
theorem take_ok (k : Nat) (p : Nat) (n : Int) (h : Hm) (o : MO) (hp : h[p]? = some o) (ho : IsPool o) (h0 : 0 < n) (hn : n < 2 ^ 30) : wR (callF fbs pg 100000 (k+2) 2 [.ref p, .int n] h) (fun v h' => ∃ r o', v = .int r ∧ 0 ≤ r ∧ r < n ∧ IsPool o' ∧ h' = h.set p o') XF := by
  obtain ⟨c, q, b, sp, hq, rfl⟩ := ho
  rw [callF_at (fi := ⟨5, b2⟩) (fd := ⟨"_law_take", true, ps2, []⟩) (k) rfl rfl rfl, wR_ret]; show wS (dnF fbs pg 100000 (k)) b2 _ _ _ _ _ _ _
  have lp := lt_of hp
  have m1 := mul_l (j := q) (show (7919 : Int).natAbs < 2 ^ 64 by decide)
  have m2 := mul_l (j := q) (show (31 : Int).natAbs < 2 ^ 64 by decide)
  have d1 := div_ok h0 hn
  have d2 : divOk 9 = True := eq_true (by decide)
  have n0 : n ≠ 0 := by omega
  have n1 : (2147483647 : Int) ≠ 0 := by decide
  have n2 : (2147483629 : Int) ≠ 0 := by decide
  have f : ∀ x : Int, 0 ≤ x.fmod n ∧ x.fmod n < n := fun x => fmodB x h0
  have m3 : ∀ x y : Int, mulOk (x.fmod 2147483647) y = True := fun x y => mul_l (by have := fmodB x (show (0:Int) < 2147483647 by decide); omega)
  have m4 : ∀ x y : Int, mulOk (x.fmod 2147483629) y = True := fun x y => mul_l (by have := fmodB x (show (0:Int) < 2147483629 by decide); omega)
  by_cases hb : b = true
  · by_cases hc : 0 < c
    · simp only [b2, hp, lp, hs_self, hb, hc, m1, m2, m3, m4, d1, d2, n0, n1, n2, ne_eq, not_false_eq_true, List.set_set, ↓e1_var, ↓e1_int, ↓e1_str, ↓e1_bl, ↓e1_non, ↓e1_glob, ↓e1_bin, ↓e1_neg, ↓e1_bitl, ↓e1_not, ↓e1_and, ↓e1_or, ↓e1_cmp, ↓e1_chain, ↓e1_ite, ↓e1_call, ↓e1_callK, ↓e1_eqd, ↓e1_make, ↓e1_meO, ↓e1_bi, ↓e1_isi, ↓e1_meth, ↓e1_attr, ↓e1_tup, ↓e1_lst, ↓e1_dict, ↓e1_dictT, ↓e1_ix, ↓e1_sl, ↓o1_nil, ↓o1_cons, ↓e1_lc, ↓l1_nil, ↓l1_cons, ↓t1_cmp, ↓t1_chain, ↓t1_eqd, ↓t1_not, ↓t1_and, ↓t1_or, ↓c1_nil, ↓c1_cons, ↓i1_val, ↓i1_r1, ↓i1_r2, ↓g1_nm, ↓g1_sub, ↓g1_tup, ↓gs1_nil, ↓gs1_cons, ↓s1_skip, ↓s1_seq, ↓s1_ret, ↓s1_retN, ↓s1_expr, ↓s1_ite, ↓s1_brk, ↓s1_cont, ↓s1_bad, ↓s1_set, ↓s1_setT, ↓s1_par, ↓s1_aug, ↓s1_sattr, ↓s1_aattr, ↓s1_raise0, ↓s1_tryO, ↓s1_tryA, ↓s1_whl, ↓s1_frl, ↓t2_var, ↓t2_bl, ↓t2_ix, ↓t2_call, ↓t2_callK, ↓t2_meO, ↓t2_bi, ↓t2_isi, ↓t2_meth, ↓t2_attr, ↓t2_bin, wR_ok, wR_bad, wR_ite, wV_some, wV_none, wV_no, wBl_bl, wBl_int, wOp_some, wOp_none, wInt_int, wTwo_two, dnF_P, dnF_m, dnF_call, dnF_call1, b_add, b_sub, b_mul, b_div, b_mod, b_pow, b_shl, b_shr, b_and, b_or, b_xor, c_eq, c_ne, c_lt, c_le, c_gt, c_ge, c_is, c_isn, c_in, c_nin, a_add, a_sub, p_add, p_sub, p_mul, p_div, p_mod, p_pow, p_shr, p_and2, p_neg, p_bits, p_lt, p_le, p_gt, p_ge, p_eqi, p_nei, p_eqs, p_nes, p_eqb, p_isn, p_isnn, t_bl, t_int, len_tup, bi_int, bi_intb, bi_abs, bi_lstT, wIx_l, wIx_f, wIx_d, wIx_t, wSq_l, wSq_f, wMl_l, wLs_l, wLs_f, wLs_d, wDk_d, wSt_l, wSt_d, wSt_t, wDl_d, wDl_t, rcvO_l, rcvO_f, rcvO_d, rcvO_t, tnO_l, tnO_f, tnO_d, tnO_t, lstO_l, lstO_f, keyV_i, keyV_s, q_ix, q_ixT, q_ixK, q_set, q_len, q_list, q_dict, q_tuple, q_it, q_itT, q_itK, q_itS, q_r1, q_r2, q_addL, q_addT, q_in, q_nin, q_eq, q_ne, eqB_i, eqB_s, eqB_b, q_slL, q_slT, q_tr, q_rcv, q_tn, tn_i, tn_b, tn_n, tn_s, tn_t, tn_k, me_app, me_pop, me_rev, me_clr, me_ins, me_idx, me_get, me_sd, q_app, q_rev, q_clr, q_pop, q_get1, q_get2, q_idx, at0, at1, at2, at3, ix0, ix1, ix2, ix3, atk, ls_len, ha_new, la_new, k_at, k_at2, k_bin2, k_bin1, k_neg, k_bits, k_not2, k_not1, k_and2, k_and1, k_or2, k_or1, k_cmp2, k_cmp1, k_ch4, k_ch3, k_ch2, k_ch1, k_ite, k_call, k_ck2, k_ck1, k_eqd2, k_eqd1, k_mk3, k_mk2, k_mk1, k_mo3, k_mo2, k_mo1, k_bi, k_isi2, k_isi, k_me4, k_me3, k_me2, k_me1, k_attr, k_tup, k_lst, k_ix2, k_ix1, k_sl3, k_sl2, k_sl1, k_oi2, k_oi, k_lc, k_l2, k_l1, k_tr, k_bl2, k_bl, k_tn, k_ta, k_to, k_it, k_r1, k_r2b, k_r2, k_un, k_gs2, k_gs1, k_gt, k_gc, k_xs, k_seq, k_ex, k_sif, k_set, k_st, k_par2, k_par, k_aug2, k_aug1, k_sa2, k_sa1, k_aa4, k_aa3, k_aa2, k_aa1, k_frl, k_try, k_rn, k_rx, k_re, List.getElem?_cons_zero, List.getElem?_cons_succ, List.set_cons_zero, List.set_cons_succ, List.length_cons, List.length_nil, decide_eq_true_eq, Bool.not_eq_true', decide_eq_false_iff_not, if_true, if_false, Bool.false_eq_true, reduceIte, List.cons_append, List.nil_append, List.map_cons, List.map_nil, Nat.reduceLeDiff, and_true, true_and, startE, List.replicate, List.length_singleton, List.append_nil, decide_true, decide_false, not_true_eq_false, not_false_eq_true, Int.natAbs_natCast, Int.toNat_natCast, List.length_map, Bool.not_true, Bool.not_false, reduceCtorEq, subTN, ne_eq, and_self, true_and, Nat.reduceSub, Nat.reduceAdd, wipeE]
      exact ⟨_, _, rfl, (f _).1, (f _).2, ⟨_, _, _, _, by omega, rfl⟩, rfl⟩
    · simp only [b2, hp, lp, hs_self, hb, hc, m1, m2, m3, m4, d1, d2, n0, n1, n2, ne_eq, not_false_eq_true, List.set_set, ↓e1_var, ↓e1_int, ↓e1_str, ↓e1_bl, ↓e1_non, ↓e1_glob, ↓e1_bin, ↓e1_neg, ↓e1_bitl, ↓e1_not, ↓e1_and, ↓e1_or, ↓e1_cmp, ↓e1_chain, ↓e1_ite, ↓e1_call, ↓e1_callK, ↓e1_eqd, ↓e1_make, ↓e1_meO, ↓e1_bi, ↓e1_isi, ↓e1_meth, ↓e1_attr, ↓e1_tup, ↓e1_lst, ↓e1_dict, ↓e1_dictT, ↓e1_ix, ↓e1_sl, ↓o1_nil, ↓o1_cons, ↓e1_lc, ↓l1_nil, ↓l1_cons, ↓t1_cmp, ↓t1_chain, ↓t1_eqd, ↓t1_not, ↓t1_and, ↓t1_or, ↓c1_nil, ↓c1_cons, ↓i1_val, ↓i1_r1, ↓i1_r2, ↓g1_nm, ↓g1_sub, ↓g1_tup, ↓gs1_nil, ↓gs1_cons, ↓s1_skip, ↓s1_seq, ↓s1_ret, ↓s1_retN, ↓s1_expr, ↓s1_ite, ↓s1_brk, ↓s1_cont, ↓s1_bad, ↓s1_set, ↓s1_setT, ↓s1_par, ↓s1_aug, ↓s1_sattr, ↓s1_aattr, ↓s1_raise0, ↓s1_tryO, ↓s1_tryA, ↓s1_whl, ↓s1_frl, ↓t2_var, ↓t2_bl, ↓t2_ix, ↓t2_call, ↓t2_callK, ↓t2_meO, ↓t2_bi, ↓t2_isi, ↓t2_meth, ↓t2_attr, ↓t2_bin, wR_ok, wR_bad, wR_ite, wV_some, wV_none, wV_no, wBl_bl, wBl_int, wOp_some, wOp_none, wInt_int, wTwo_two, dnF_P, dnF_m, dnF_call, dnF_call1, b_add, b_sub, b_mul, b_div, b_mod, b_pow, b_shl, b_shr, b_and, b_or, b_xor, c_eq, c_ne, c_lt, c_le, c_gt, c_ge, c_is, c_isn, c_in, c_nin, a_add, a_sub, p_add, p_sub, p_mul, p_div, p_mod, p_pow, p_shr, p_and2, p_neg, p_bits, p_lt, p_le, p_gt, p_ge, p_eqi, p_nei, p_eqs, p_nes, p_eqb, p_isn, p_isnn, t_bl, t_int, len_tup, bi_int, bi_intb, bi_abs, bi_lstT, wIx_l, wIx_f, wIx_d, wIx_t, wSq_l, wSq_f, wMl_l, wLs_l, wLs_f, wLs_d, wDk_d, wSt_l, wSt_d, wSt_t, wDl_d, wDl_t, rcvO_l, rcvO_f, rcvO_d, rcvO_t, tnO_l, tnO_f, tnO_d, tnO_t, lstO_l, lstO_f, keyV_i, keyV_s, q_ix, q_ixT, q_ixK, q_set, q_len, q_list, q_dict, q_tuple, q_it, q_itT, q_itK, q_itS, q_r1, q_r2, q_addL, q_addT, q_in, q_nin, q_eq, q_ne, eqB_i, eqB_s, eqB_b, q_slL, q_slT, q_tr, q_rcv, q_tn, tn_i, tn_b, tn_n, tn_s, tn_t, tn_k, me_app, me_pop, me_rev, me_clr, me_ins, me_idx, me_get, me_sd, q_app, q_rev, q_clr, q_pop, q_get1, q_get2, q_idx, at0, at1, at2, at3, ix0, ix1, ix2, ix3, atk, ls_len, ha_new, la_new, k_at, k_at2, k_bin2, k_bin1, k_neg, k_bits, k_not2, k_not1, k_and2, k_and1, k_or2, k_or1, k_cmp2, k_cmp1, k_ch4, k_ch3, k_ch2, k_ch1, k_ite, k_call, k_ck2, k_ck1, k_eqd2, k_eqd1, k_mk3, k_mk2, k_mk1, k_mo3, k_mo2, k_mo1, k_bi, k_isi2, k_isi, k_me4, k_me3, k_me2, k_me1, k_attr, k_tup, k_lst, k_ix2, k_ix1, k_sl3, k_sl2, k_sl1, k_oi2, k_oi, k_lc, k_l2, k_l1, k_tr, k_bl2, k_bl, k_tn, k_ta, k_to, k_it, k_r1, k_r2b, k_r2, k_un, k_gs2, k_gs1, k_gt, k_gc, k_xs, k_seq, k_ex, k_sif, k_set, k_st, k_par2, k_par, k_aug2, k_aug1, k_sa2, k_sa1, k_aa4, k_aa3, k_aa2, k_aa1, k_frl, k_try, k_rn, k_rx, k_re, List.getElem?_cons_zero, List.getElem?_cons_succ, List.set_cons_zero, List.set_cons_succ, List.length_cons, List.length_nil, decide_eq_true_eq, Bool.not_eq_true', decide_eq_false_iff_not, if_true, if_false, Bool.false_eq_true, reduceIte, List.cons_append, List.nil_append, List.map_cons, List.map_nil, Nat.reduceLeDiff, and_true, true_and, startE, List.replicate, List.length_singleton, List.append_nil, decide_true, decide_false, not_true_eq_false, not_false_eq_true, Int.natAbs_natCast, Int.toNat_natCast, List.length_map, Bool.not_true, Bool.not_false, reduceCtorEq, subTN, ne_eq, and_self, true_and, Nat.reduceSub, Nat.reduceAdd, wipeE]
      exact ⟨_, _, rfl, (f _).1, (f _).2, ⟨_, _, _, _, by omega, rfl⟩, rfl⟩
  · have hb : b = false := by simpa using hb
    simp only [b2, hp, lp, hs_self, hb, m1, m2, m3, m4, d1, d2, n0, n1, n2, ne_eq, not_false_eq_true, List.set_set, ↓e1_var, ↓e1_int, ↓e1_str, ↓e1_bl, ↓e1_non, ↓e1_glob, ↓e1_bin, ↓e1_neg, ↓e1_bitl, ↓e1_not, ↓e1_and, ↓e1_or, ↓e1_cmp, ↓e1_chain, ↓e1_ite, ↓e1_call, ↓e1_callK, ↓e1_eqd, ↓e1_make, ↓e1_meO, ↓e1_bi, ↓e1_isi, ↓e1_meth, ↓e1_attr, ↓e1_tup, ↓e1_lst, ↓e1_dict, ↓e1_dictT, ↓e1_ix, ↓e1_sl, ↓o1_nil, ↓o1_cons, ↓e1_lc, ↓l1_nil, ↓l1_cons, ↓t1_cmp, ↓t1_chain, ↓t1_eqd, ↓t1_not, ↓t1_and, ↓t1_or, ↓c1_nil, ↓c1_cons, ↓i1_val, ↓i1_r1, ↓i1_r2, ↓g1_nm, ↓g1_sub, ↓g1_tup, ↓gs1_nil, ↓gs1_cons, ↓s1_skip, ↓s1_seq, ↓s1_ret, ↓s1_retN, ↓s1_expr, ↓s1_ite, ↓s1_brk, ↓s1_cont, ↓s1_bad, ↓s1_set, ↓s1_setT, ↓s1_par, ↓s1_aug, ↓s1_sattr, ↓s1_aattr, ↓s1_raise0, ↓s1_tryO, ↓s1_tryA, ↓s1_whl, ↓s1_frl, ↓t2_var, ↓t2_bl, ↓t2_ix, ↓t2_call, ↓t2_callK, ↓t2_meO, ↓t2_bi, ↓t2_isi, ↓t2_meth, ↓t2_attr, ↓t2_bin, wR_ok, wR_bad, wR_ite, wV_some, wV_none, wV_no, wBl_bl, wBl_int, wOp_some, wOp_none, wInt_int, wTwo_two, dnF_P, dnF_m, dnF_call, dnF_call1, b_add, b_sub, b_mul, b_div, b_mod, b_pow, b_shl, b_shr, b_and, b_or, b_xor, c_eq, c_ne, c_lt, c_le, c_gt, c_ge, c_is, c_isn, c_in, c_nin, a_add, a_sub, p_add, p_sub, p_mul, p_div, p_mod, p_pow, p_shr, p_and2, p_neg, p_bits, p_lt, p_le, p_gt, p_ge, p_eqi, p_nei, p_eqs, p_nes, p_eqb, p_isn, p_isnn, t_bl, t_int, len_tup, bi_int, bi_intb, bi_abs, bi_lstT, wIx_l, wIx_f, wIx_d, wIx_t, wSq_l, wSq_f, wMl_l, wLs_l, wLs_f, wLs_d, wDk_d, wSt_l, wSt_d, wSt_t, wDl_d, wDl_t, rcvO_l, rcvO_f, rcvO_d, rcvO_t, tnO_l, tnO_f, tnO_d, tnO_t, lstO_l, lstO_f, keyV_i, keyV_s, q_ix, q_ixT, q_ixK, q_set, q_len, q_list, q_dict, q_tuple, q_it, q_itT, q_itK, q_itS, q_r1, q_r2, q_addL, q_addT, q_in, q_nin, q_eq, q_ne, eqB_i, eqB_s, eqB_b, q_slL, q_slT, q_tr, q_rcv, q_tn, tn_i, tn_b, tn_n, tn_s, tn_t, tn_k, me_app, me_pop, me_rev, me_clr, me_ins, me_idx, me_get, me_sd, q_app, q_rev, q_clr, q_pop, q_get1, q_get2, q_idx, at0, at1, at2, at3, ix0, ix1, ix2, ix3, atk, ls_len, ha_new, la_new, k_at, k_at2, k_bin2, k_bin1, k_neg, k_bits, k_not2, k_not1, k_and2, k_and1, k_or2, k_or1, k_cmp2, k_cmp1, k_ch4, k_ch3, k_ch2, k_ch1, k_ite, k_call, k_ck2, k_ck1, k_eqd2, k_eqd1, k_mk3, k_mk2, k_mk1, k_mo3, k_mo2, k_mo1, k_bi, k_isi2, k_isi, k_me4, k_me3, k_me2, k_me1, k_attr, k_tup, k_lst, k_ix2, k_ix1, k_sl3, k_sl2, k_sl1, k_oi2, k_oi, k_lc, k_l2, k_l1, k_tr, k_bl2, k_bl, k_tn, k_ta, k_to, k_it, k_r1, k_r2b, k_r2, k_un, k_gs2, k_gs1, k_gt, k_gc, k_xs, k_seq, k_ex, k_sif, k_set, k_st, k_par2, k_par, k_aug2, k_aug1, k_sa2, k_sa1, k_aa4, k_aa3, k_aa2, k_aa1, k_frl, k_try, k_rn, k_rx, k_re, List.getElem?_cons_zero, List.getElem?_cons_succ, List.set_cons_zero, List.set_cons_succ, List.length_cons, List.length_nil, decide_eq_true_eq, Bool.not_eq_true', decide_eq_false_iff_not, if_true, if_false, Bool.false_eq_true, reduceIte, List.cons_append, List.nil_append, List.map_cons, List.map_nil, Nat.reduceLeDiff, and_true, true_and, startE, List.replicate, List.length_singleton, List.append_nil, decide_true, decide_false, not_true_eq_false, not_false_eq_true, Int.natAbs_natCast, Int.toNat_natCast, List.length_map, Bool.not_true, Bool.not_false, reduceCtorEq, subTN, ne_eq, and_self, true_and, Nat.reduceSub, Nat.reduceAdd, wipeE]
    exact ⟨_, _, rfl, (f _).1, (f _).2, ⟨_, _, _, _, by omega, rfl⟩, rfl⟩
theorem wR_eq {α : Type} {r : R α} {a : α} {h : Hm} (w : wR r (fun v h' => v = a ∧ h' = h) XF) : r = .ok a h := by
  cases r with
  | ok b g => obtain ⟨e1, e2⟩ := w; rw [e1, e2]
  | ex e g => exact False.elim w
  | bad => exact False.elim w
theorem itR_at {lo : Int} {n : Nat} {h : Hm} {i : Nat} (hi : i < n) : itR lo n h i = some (some (.int (lo + i))) := by unfold itR; rw [if_pos hi]
theorem itR_end {lo : Int} {n : Nat} {h : Hm} : itR lo n h n = some none := by unfold itR; rw [if_neg (Nat.lt_irrefl _)]
theorem setL {h t : Hm} {p : Nat} {o : MO} (l : p < h.length) : (h ++ t).set p o = h.set p o ++ t := List.set_append_left _ _ l
theorem setN {h : Hm} {n : Nat} {a o : MO} (l : n = h.length) : (h ++ [a]).set n o = h ++ [o] := by subst l; simp
theorem getN {h : Hm} {n : Nat} {a : MO} (l : n = h.length) : (h ++ [a])[n]? = some a := by subst l; simp
theorem take_w (k p : Nat) {n : Int} {h : Hm} {o : MO} {P : PV → Hm → Prop} {X : Ex → Hm → Prop} (hp : h[p]? = some o) (ho : IsPool o) (h0 : 0 < n) (hn : n < 2 ^ 30) (c : ∀ r o', 0 ≤ r → r < n → IsPool o' → P (.int r) (h.set p o')) : wR (callF fbs pg 100000 (k+2) 2 [.ref p, .int n] h) P X :=
  wR.mono (take_ok k p n h o hp ho h0 hn) (fun v h' ⟨r, o', e1, a, b, d, e2⟩ => by subst e1; subst e2; exact c r o' a b d) fun _ _ z => False.elim z
structure Grow (p : Nat) (h h' : Hm) : Prop where
  pool : ∃ o, IsPool o ∧ h'[p]? = some o
  keep : ∀ n, n < h.length → n ≠ p → h'[n]? = h[n]?
  len : h.length ≤ h'.length
theorem Grow.refl {p : Nat} {h : Hm} {o : MO} (ho : IsPool o) (hp : h[p]? = some o) : Grow p h h := ⟨⟨o, ho, hp⟩, fun _ _ _ => rfl, Nat.le_refl _⟩
theorem Grow.trans {p : Nat} {h h1 h2 : Hm} (a : Grow p h h1) (b : Grow p h1 h2) : Grow p h h2 := ⟨b.pool, fun n l e => (b.keep n (Nat.lt_of_lt_of_le l a.len) e).trans (a.keep n l e), Nat.le_trans a.len b.len⟩
theorem Grow.push {p : Nat} {h h1 : Hm} (t : Hm) (a : Grow p h h1) : Grow p h (h1 ++ t) := by
  obtain ⟨o, ho, hp⟩ := a.pool
  exact ⟨⟨o, ho, by rw [ha_old (lt_of hp)]; exact hp⟩, fun n l e => by rw [ha_old (Nat.lt_of_lt_of_le l a.len)]; exact a.keep n l e, by have := a.len; simp; omega⟩
theorem Grow.write {p : Nat} {h h1 : Hm} {d : Nat} (o : MO) (a : Grow p h h1) (l : h.length ≤ d) (e : d ≠ p) : Grow p h (h1.set d o) := by
  obtain ⟨o1, ho, hp⟩ := a.pool
  exact ⟨⟨o1, ho, by rw [hs_ne e]; exact hp⟩, fun n l2 e => by rw [hs_ne (by omega)]; exact a.keep n l2 e, by have := a.len; simp; omega⟩
theorem Grow.get {p : Nat} {h h1 : Hm} {n : Nat} {o : MO} (a : Grow p h h1) (e : h[n]? = some o) (ne : n ≠ p) : h1[n]? = some o := (a.keep n (lt_of e) ne).trans e
theorem take_g (k p : Nat) {n : Int} {h : Hm} {h0 : Hm} {P : PV → Hm → Prop} {X : Ex → Hm → Prop} (g : Grow p h0 h) (n0 : 0 < n) (hn : n < 2 ^ 30) (c : ∀ r h2, 0 ≤ r → r < n → Grow p h0 h2 → (∀ m, m ≠ p → h2[m]? = h[m]?) → h2.length = h.length → P (.int r) h2) : wR (callF fbs pg 100000 (k+2) 2 [.ref p, .int n] h) P X := by
  obtain ⟨o, ho, hp⟩ := g.pool
  refine take_w k p hp ho n0 hn fun r o' a b c1 => c r _ a b ?_ (fun m e => hs_ne e.symm) (by simp)
  exact ⟨⟨o', c1, hs_self (lt_of hp)⟩, fun n l e => by rw [hs_ne e.symm]; exact g.keep n l e, by have := g.len; simp; omega⟩
structure Ext (h h' : Hm) : Prop where
  keep : ∀ n, n < h.length → h'[n]? = h[n]?
  len : h.length ≤ h'.length
theorem Ext.refl {h : Hm} : Ext h h := ⟨fun _ _ => rfl, Nat.le_refl _⟩
theorem Ext.trans {h h1 h2 : Hm} (a : Ext h h1) (b : Ext h1 h2) : Ext h h2 := ⟨fun n l => (b.keep n (Nat.lt_of_lt_of_le l a.len)).trans (a.keep n l), Nat.le_trans a.len b.len⟩
theorem Ext.app {h : Hm} (t : Hm) : Ext h (h ++ t) := ⟨fun n l => ha_old l, by simp⟩
theorem Ext.push {h h1 : Hm} (t : Hm) (a : Ext h h1) : Ext h (h1 ++ t) := a.trans (Ext.app t)
theorem Ext.write {h h1 : Hm} {d : Nat} (o : MO) (a : Ext h h1) (l : h.length ≤ d) : Ext h (h1.set d o) := ⟨fun n l2 => by rw [hs_ne (by omega)]; exact a.keep n l2, by have := a.len; simp; omega⟩
theorem Ext.get {h h1 : Hm} {n : Nat} {o : MO} (a : Ext h h1) (e : h[n]? = some o) : h1[n]? = some o := (a.keep n (lt_of e)).trans e
theorem Grow.ext {p : Nat} {h h1 h2 : Hm} (g : Grow p h h1) (a : Ext h1 h2) : Grow p h h2 := by
  obtain ⟨o, ho, hp⟩ := g.pool
  exact ⟨⟨o, ho, a.get hp⟩, fun n l e => (a.keep n (Nat.lt_of_lt_of_le l g.len)).trans (g.keep n l e), Nat.le_trans g.len a.len⟩
theorem Grow.toExt {p : Nat} {h h1 h2 : Hm} (l : h.length ≤ p) (e : Ext h h1) (g : Grow p h1 h2) : Ext h h2 := ⟨fun n l2 => (g.keep n (Nat.lt_of_lt_of_le l2 e.len) (by omega)).trans (e.keep n l2), Nat.le_trans e.len g.len⟩
theorem sq_tup {xs : List PV} {h : Hm} : seqOf (.tup xs) h = some xs := rfl
theorem pool_w (k s i : Nat) {ns : List Int} {h : Hm} {P : PV → Hm → Prop} {X : Ex → Hm → Prop} (hs : h[s]? = some (.frz (ns.map PV.int))) (c : ∀ o h', IsPool o → h'[h.length]? = some o → Ext h h' → h.length < h'.length → P (.ref h.length) h') : wR (callF fbs pg 100000 (k+2) 1 [.ref s, .int (i : Int)] h) P X :=
  wR.mono (pool_ok k s i ns h hs) (fun v h' ⟨e1, o, ho, e2⟩ => by subst e1; subst e2; exact c o _ ho (getN rfl) (Ext.app _) (by simp)) fun _ _ z => False.elim z
end RL

set_option Elab.async false
set_option linter.all false
set_option maxRecDepth 100000
set_option maxHeartbeats 1000000
set_option autoImplicit false
namespace RL
open RS
theorem dvN (f n : Nat) : pg.dv (f + 1) n = [] := by
  have : ∀ fd ∈ fds.drop 1, fd.dfts = [] := by decide
  show (match fds[f + 1]? with
    | some fd => fd.dfts.drop (min (n + fd.dfts.length - fd.ps.length) fd.dfts.length)
    | none => []) = _
  cases e : fds[f + 1]? with
  | none => rfl
  | some fd =>
    have e2 : (fds.drop 1)[f]? = some fd := by rw [List.getElem?_drop, Nat.add_comm]; exact e
    dsimp only
    rw [this fd (List.mem_of_getElem? e2), List.drop_nil]
theorem dvR : pg.dv 0 2 = [] := rfl
def Big (x : Int) : Prop := x.natAbs < 2 ^ 4000
theorem ratio_ok (k : Nat) (p q : Int) (h : Hm) (hq : q ≠ 0) (bq : q.natAbs < 2 ^ 4000) : ∃ a b, Low a b ∧ a * q = p * b ∧ a.natAbs ≤ p.natAbs ∧ b.natAbs ≤ q.natAbs ∧ callF fbs pg 100000 (k+2) 0 [.int p, .int q] h = .ok (.tup [.int a, .int b]) h := by
  have gp : 0 < Int.gcd p q := Nat.pos_of_ne_zero fun z => hq (Int.gcd_eq_zero_iff.mp z).2
  have gl : Int.gcd p q ≤ q.natAbs := Nat.le_of_dvd (by omega) (Nat.gcd_dvd_right _ _)
  have gi : (Nat.gcd p.natAbs q.natAbs : Int) = (Int.gcd p q : Int) := rfl
  by_cases s : q < 0
  · obtain ⟨d0, lw, e, l1, l2⟩ := low_of (p := p) (d := -(Int.gcd p q : Int)) hq (.inr ⟨rfl, s⟩)
    have dk : divOk (-(Int.gcd p q : Int)) = True := eq_true ⟨d0, .inr (by omega)⟩
    refine ⟨_, _, lw, e, l1, l2, wR_eq ?_⟩
    rw [callF_at (fi := ⟨3, b0⟩) (fd := ⟨"ratio", true, ps0, [.int 1]⟩) (k) rfl rfl rfl, wR_ret]; show wS (dnF fbs pg 100000 (k)) b0 _ _ _ _ _ _ _
    have bg : bi .gcd [.int p, .int q] h = .ok (.int (Int.gcd p q : Int)) h := rfl
    simp only [b0, hq, bg, s, dk, ↓e1_var, ↓e1_int, ↓e1_str, ↓e1_bl, ↓e1_non, ↓e1_glob, ↓e1_bin, ↓e1_neg, ↓e1_bitl, ↓e1_not, ↓e1_and, ↓e1_or, ↓e1_cmp, ↓e1_chain, ↓e1_ite, ↓e1_call, ↓e1_callK, ↓e1_eqd, ↓e1_make, ↓e1_meO, ↓e1_bi, ↓e1_isi, ↓e1_meth, ↓e1_attr, ↓e1_tup, ↓e1_lst, ↓e1_dict, ↓e1_dictT, ↓e1_ix, ↓e1_sl, ↓o1_nil, ↓o1_cons, ↓e1_lc, ↓l1_nil, ↓l1_cons, ↓t1_cmp, ↓t1_chain, ↓t1_eqd, ↓t1_not, ↓t1_and, ↓t1_or, ↓c1_nil, ↓c1_cons, ↓i1_val, ↓i1_r1, ↓i1_r2, ↓g1_nm, ↓g1_sub, ↓g1_tup, ↓gs1_nil, ↓gs1_cons, ↓s1_skip, ↓s1_seq, ↓s1_ret, ↓s1_retN, ↓s1_expr, ↓s1_ite, ↓s1_brk, ↓s1_cont, ↓s1_bad, ↓s1_set, ↓s1_setT, ↓s1_par, ↓s1_aug, ↓s1_sattr, ↓s1_aattr, ↓s1_raise0, ↓s1_tryO, ↓s1_tryA, ↓s1_whl, ↓s1_frl, ↓t2_var, ↓t2_bl, ↓t2_ix, ↓t2_call, ↓t2_callK, ↓t2_meO, ↓t2_bi, ↓t2_isi, ↓t2_meth, ↓t2_attr, ↓t2_bin, wR_ok, wR_bad, wR_ite, wV_some, wV_none, wV_no, wBl_bl, wBl_int, wOp_some, wOp_none, wInt_int, wTwo_two, dnF_P, dnF_m, dnF_call, dnF_call1, b_add, b_sub, b_mul, b_div, b_mod, b_pow, b_shl, b_shr, b_and, b_or, b_xor, c_eq, c_ne, c_lt, c_le, c_gt, c_ge, c_is, c_isn, c_in, c_nin, a_add, a_sub, p_add, p_sub, p_mul, p_div, p_mod, p_pow, p_shr, p_and2, p_neg, p_bits, p_lt, p_le, p_gt, p_ge, p_eqi, p_nei, p_eqs, p_nes, p_eqb, p_isn, p_isnn, t_bl, t_int, len_tup, bi_int, bi_intb, bi_abs, bi_lstT, wIx_l, wIx_f, wIx_d, wIx_t, wSq_l, wSq_f, wMl_l, wLs_l, wLs_f, wLs_d, wDk_d, wSt_l, wSt_d, wSt_t, wDl_d, wDl_t, rcvO_l, rcvO_f, rcvO_d, rcvO_t, tnO_l, tnO_f, tnO_d, tnO_t, lstO_l, lstO_f, keyV_i, keyV_s, q_ix, q_ixT, q_ixK, q_set, q_len, q_list, q_dict, q_tuple, q_it, q_itT, q_itK, q_itS, q_r1, q_r2, q_addL, q_addT, q_in, q_nin, q_eq, q_ne, eqB_i, eqB_s, eqB_b, q_slL, q_slT, q_tr, q_rcv, q_tn, tn_i, tn_b, tn_n, tn_s, tn_t, tn_k, me_app, me_pop, me_rev, me_clr, me_ins, me_idx, me_get, me_sd, q_app, q_rev, q_clr, q_pop, q_get1, q_get2, q_idx, at0, at1, at2, at3, ix0, ix1, ix2, ix3, atk, ls_len, ha_new, la_new, k_at, k_at2, k_bin2, k_bin1, k_neg, k_bits, k_not2, k_not1, k_and2, k_and1, k_or2, k_or1, k_cmp2, k_cmp1, k_ch4, k_ch3, k_ch2, k_ch1, k_ite, k_call, k_ck2, k_ck1, k_eqd2, k_eqd1, k_mk3, k_mk2, k_mk1, k_mo3, k_mo2, k_mo1, k_bi, k_isi2, k_isi, k_me4, k_me3, k_me2, k_me1, k_attr, k_tup, k_lst, k_ix2, k_ix1, k_sl3, k_sl2, k_sl1, k_oi2, k_oi, k_lc, k_l2, k_l1, k_tr, k_bl2, k_bl, k_tn, k_ta, k_to, k_it, k_r1, k_r2b, k_r2, k_un, k_gs2, k_gs1, k_gt, k_gc, k_xs, k_seq, k_ex, k_sif, k_set, k_st, k_par2, k_par, k_aug2, k_aug1, k_sa2, k_sa1, k_aa4, k_aa3, k_aa2, k_aa1, k_frl, k_try, k_rn, k_rx, k_re, List.getElem?_cons_zero, List.getElem?_cons_succ, List.set_cons_zero, List.set_cons_succ, List.length_cons, List.length_nil, decide_eq_true_eq, Bool.not_eq_true', decide_eq_false_iff_not, if_true, if_false, Bool.false_eq_true, reduceIte, List.cons_append, List.nil_append, List.map_cons, List.map_nil, Nat.reduceLeDiff, and_true, true_and, startE, List.replicate, List.length_singleton, List.append_nil, decide_true, decide_false, not_true_eq_false, not_false_eq_true, Int.natAbs_natCast, Int.toNat_natCast, List.length_map, Bool.not_true, Bool.not_false, reduceCtorEq, subTN, ne_eq, and_self, true_and, Nat.reduceSub, Nat.reduceAdd, wipeE]
  · obtain ⟨d0, lw, e, l1, l2⟩ := low_of (p := p) (d := (Int.gcd p q : Int)) hq (.inl ⟨rfl, by omega⟩)
    have dk : divOk (Int.gcd p q : Int) = True := eq_true ⟨d0, .inr (by omega)⟩
    refine ⟨_, _, lw, e, l1, l2, wR_eq ?_⟩
    rw [callF_at (fi := ⟨3, b0⟩) (fd := ⟨"ratio", true, ps0, [.int 1]⟩) (k) rfl rfl rfl, wR_ret]; show wS (dnF fbs pg 100000 (k)) b0 _ _ _ _ _ _ _
    have bg : bi .gcd [.int p, .int q] h = .ok (.int (Int.gcd p q : Int)) h := rfl
    simp only [b0, hq, bg, s, dk, ↓e1_var, ↓e1_int, ↓e1_str, ↓e1_bl, ↓e1_non, ↓e1_glob, ↓e1_bin, ↓e1_neg, ↓e1_bitl, ↓e1_not, ↓e1_and, ↓e1_or, ↓e1_cmp, ↓e1_chain, ↓e1_ite, ↓e1_call, ↓e1_callK, ↓e1_eqd, ↓e1_make, ↓e1_meO, ↓e1_bi, ↓e1_isi, ↓e1_meth, ↓e1_attr, ↓e1_tup, ↓e1_lst, ↓e1_dict, ↓e1_dictT, ↓e1_ix, ↓e1_sl, ↓o1_nil, ↓o1_cons, ↓e1_lc, ↓l1_nil, ↓l1_cons, ↓t1_cmp, ↓t1_chain, ↓t1_eqd, ↓t1_not, ↓t1_and, ↓t1_or, ↓c1_nil, ↓c1_cons, ↓i1_val, ↓i1_r1, ↓i1_r2, ↓g1_nm, ↓g1_sub, ↓g1_tup, ↓gs1_nil, ↓gs1_cons, ↓s1_skip, ↓s1_seq, ↓s1_ret, ↓s1_retN, ↓s1_expr, ↓s1_ite, ↓s1_brk, ↓s1_cont, ↓s1_bad, ↓s1_set, ↓s1_setT, ↓s1_par, ↓s1_aug, ↓s1_sattr, ↓s1_aattr, ↓s1_raise0, ↓s1_tryO, ↓s1_tryA, ↓s1_whl, ↓s1_frl, ↓t2_var, ↓t2_bl, ↓t2_ix, ↓t2_call, ↓t2_callK, ↓t2_meO, ↓t2_bi, ↓t2_isi, ↓t2_meth, ↓t2_attr, ↓t2_bin, wR_ok, wR_bad, wR_ite, wV_some, wV_none, wV_no, wBl_bl, wBl_int, wOp_some, wOp_none, wInt_int, wTwo_two, dnF_P, dnF_m, dnF_call, dnF_call1, b_add, b_sub, b_mul, b_div, b_mod, b_pow, b_shl, b_shr, b_and, b_or, b_xor, c_eq, c_ne, c_lt, c_le, c_gt, c_ge, c_is, c_isn, c_in, c_nin, a_add, a_sub, p_add, p_sub, p_mul, p_div, p_mod, p_pow, p_shr, p_and2, p_neg, p_bits, p_lt, p_le, p_gt, p_ge, p_eqi, p_nei, p_eqs, p_nes, p_eqb, p_isn, p_isnn, t_bl, t_int, len_tup, bi_int, bi_intb, bi_abs, bi_lstT, wIx_l, wIx_f, wIx_d, wIx_t, wSq_l, wSq_f, wMl_l, wLs_l, wLs_f, wLs_d, wDk_d, wSt_l, wSt_d, wSt_t, wDl_d, wDl_t, rcvO_l, rcvO_f, rcvO_d, rcvO_t, tnO_l, tnO_f, tnO_d, tnO_t, lstO_l, lstO_f, keyV_i, keyV_s, q_ix, q_ixT, q_ixK, q_set, q_len, q_list, q_dict, q_tuple, q_it, q_itT, q_itK, q_itS, q_r1, q_r2, q_addL, q_addT, q_in, q_nin, q_eq, q_ne, eqB_i, eqB_s, eqB_b, q_slL, q_slT, q_tr, q_rcv, q_tn, tn_i, tn_b, tn_n, tn_s, tn_t, tn_k, me_app, me_pop, me_rev, me_clr, me_ins, me_idx, me_get, me_sd, q_app, q_rev, q_clr, q_pop, q_get1, q_get2, q_idx, at0, at1, at2, at3, ix0, ix1, ix2, ix3, atk, ls_len, ha_new, la_new, k_at, k_at2, k_bin2, k_bin1, k_neg, k_bits, k_not2, k_not1, k_and2, k_and1, k_or2, k_or1, k_cmp2, k_cmp1, k_ch4, k_ch3, k_ch2, k_ch1, k_ite, k_call, k_ck2, k_ck1, k_eqd2, k_eqd1, k_mk3, k_mk2, k_mk1, k_mo3, k_mo2, k_mo1, k_bi, k_isi2, k_isi, k_me4, k_me3, k_me2, k_me1, k_attr, k_tup, k_lst, k_ix2, k_ix1, k_sl3, k_sl2, k_sl1, k_oi2, k_oi, k_lc, k_l2, k_l1, k_tr, k_bl2, k_bl, k_tn, k_ta, k_to, k_it, k_r1, k_r2b, k_r2, k_un, k_gs2, k_gs1, k_gt, k_gc, k_xs, k_seq, k_ex, k_sif, k_set, k_st, k_par2, k_par, k_aug2, k_aug1, k_sa2, k_sa1, k_aa4, k_aa3, k_aa2, k_aa1, k_frl, k_try, k_rn, k_rx, k_re, List.getElem?_cons_zero, List.getElem?_cons_succ, List.set_cons_zero, List.set_cons_succ, List.length_cons, List.length_nil, decide_eq_true_eq, Bool.not_eq_true', decide_eq_false_iff_not, if_true, if_false, Bool.false_eq_true, reduceIte, List.cons_append, List.nil_append, List.map_cons, List.map_nil, Nat.reduceLeDiff, and_true, true_and, startE, List.replicate, List.length_singleton, List.append_nil, decide_true, decide_false, not_true_eq_false, not_false_eq_true, Int.natAbs_natCast, Int.toNat_natCast, List.length_map, Bool.not_true, Bool.not_false, reduceCtorEq, subTN, ne_eq, and_self, true_and, Nat.reduceSub, Nat.reduceAdd, wipeE]
theorem ratio_ex (k : Nat) (p : Int) (h : Hm) : callF fbs pg 100000 (k+2) 0 [.int p, .int 0] h = .ex ⟨0, none⟩ h := by
  rw [callF_at (fi := ⟨3, b0⟩) (fd := ⟨"ratio", true, ps0, [.int 1]⟩) k rfl rfl rfl]
  have w : wS (dnF fbs pg 100000 k) b0 (startE 3 [.int p, .int 0]) h (fun _ _ => False) (fun _ _ => False) (fun _ _ => False) (fun _ _ => False) (fun e en h' => e = ⟨0, none⟩ ∧ h' = h) := by
    simp only [b0, ↓e1_var, ↓e1_int, ↓e1_str, ↓e1_bl, ↓e1_non, ↓e1_glob, ↓e1_bin, ↓e1_neg, ↓e1_bitl, ↓e1_not, ↓e1_and, ↓e1_or, ↓e1_cmp, ↓e1_chain, ↓e1_ite, ↓e1_call, ↓e1_callK, ↓e1_eqd, ↓e1_make, ↓e1_meO, ↓e1_bi, ↓e1_isi, ↓e1_meth, ↓e1_attr, ↓e1_tup, ↓e1_lst, ↓e1_dict, ↓e1_dictT, ↓e1_ix, ↓e1_sl, ↓o1_nil, ↓o1_cons, ↓e1_lc, ↓l1_nil, ↓l1_cons, ↓t1_cmp, ↓t1_chain, ↓t1_eqd, ↓t1_not, ↓t1_and, ↓t1_or, ↓c1_nil, ↓c1_cons, ↓i1_val, ↓i1_r1, ↓i1_r2, ↓g1_nm, ↓g1_sub, ↓g1_tup, ↓gs1_nil, ↓gs1_cons, ↓s1_skip, ↓s1_seq, ↓s1_ret, ↓s1_retN, ↓s1_expr, ↓s1_ite, ↓s1_brk, ↓s1_cont, ↓s1_bad, ↓s1_set, ↓s1_setT, ↓s1_par, ↓s1_aug, ↓s1_sattr, ↓s1_aattr, ↓s1_raise0, ↓s1_tryO, ↓s1_tryA, ↓s1_whl, ↓s1_frl, ↓t2_var, ↓t2_bl, ↓t2_ix, ↓t2_call, ↓t2_callK, ↓t2_meO, ↓t2_bi, ↓t2_isi, ↓t2_meth, ↓t2_attr, ↓t2_bin, wR_ok, wR_bad, wR_ite, wV_some, wV_none, wV_no, wBl_bl, wBl_int, wOp_some, wOp_none, wInt_int, wTwo_two, dnF_P, dnF_m, dnF_call, dnF_call1, b_add, b_sub, b_mul, b_div, b_mod, b_pow, b_shl, b_shr, b_and, b_or, b_xor, c_eq, c_ne, c_lt, c_le, c_gt, c_ge, c_is, c_isn, c_in, c_nin, a_add, a_sub, p_add, p_sub, p_mul, p_div, p_mod, p_pow, p_shr, p_and2, p_neg, p_bits, p_lt, p_le, p_gt, p_ge, p_eqi, p_nei, p_eqs, p_nes, p_eqb, p_isn, p_isnn, t_bl, t_int, len_tup, bi_int, bi_intb, bi_abs, bi_lstT, wIx_l, wIx_f, wIx_d, wIx_t, wSq_l, wSq_f, wMl_l, wLs_l, wLs_f, wLs_d, wDk_d, wSt_l, wSt_d, wSt_t, wDl_d, wDl_t, rcvO_l, rcvO_f, rcvO_d, rcvO_t, tnO_l, tnO_f, tnO_d, tnO_t, lstO_l, lstO_f, keyV_i, keyV_s, q_ix, q_ixT, q_ixK, q_set, q_len, q_list, q_dict, q_tuple, q_it, q_itT, q_itK, q_itS, q_r1, q_r2, q_addL, q_addT, q_in, q_nin, q_eq, q_ne, eqB_i, eqB_s, eqB_b, q_slL, q_slT, q_tr, q_rcv, q_tn, tn_i, tn_b, tn_n, tn_s, tn_t, tn_k, me_app, me_pop, me_rev, me_clr, me_ins, me_idx, me_get, me_sd, q_app, q_rev, q_clr, q_pop, q_get1, q_get2, q_idx, at0, at1, at2, at3, ix0, ix1, ix2, ix3, atk, ls_len, ha_new, la_new, k_at, k_at2, k_bin2, k_bin1, k_neg, k_bits, k_not2, k_not1, k_and2, k_and1, k_or2, k_or1, k_cmp2, k_cmp1, k_ch4, k_ch3, k_ch2, k_ch1, k_ite, k_call, k_ck2, k_ck1, k_eqd2, k_eqd1, k_mk3, k_mk2, k_mk1, k_mo3, k_mo2, k_mo1, k_bi, k_isi2, k_isi, k_me4, k_me3, k_me2, k_me1, k_attr, k_tup, k_lst, k_ix2, k_ix1, k_sl3, k_sl2, k_sl1, k_oi2, k_oi, k_lc, k_l2, k_l1, k_tr, k_bl2, k_bl, k_tn, k_ta, k_to, k_it, k_r1, k_r2b, k_r2, k_un, k_gs2, k_gs1, k_gt, k_gc, k_xs, k_seq, k_ex, k_sif, k_set, k_st, k_par2, k_par, k_aug2, k_aug1, k_sa2, k_sa1, k_aa4, k_aa3, k_aa2, k_aa1, k_frl, k_try, k_rn, k_rx, k_re, List.getElem?_cons_zero, List.getElem?_cons_succ, List.set_cons_zero, List.set_cons_succ, List.length_cons, List.length_nil, decide_eq_true_eq, Bool.not_eq_true', decide_eq_false_iff_not, if_true, if_false, Bool.false_eq_true, reduceIte, List.cons_append, List.nil_append, List.map_cons, List.map_nil, Nat.reduceLeDiff, and_true, true_and, startE, List.replicate, List.length_singleton, List.append_nil, decide_true, decide_false, not_true_eq_false, not_false_eq_true, Int.natAbs_natCast, Int.toNat_natCast, List.length_map, Bool.not_true, Bool.not_false, reduceCtorEq, subTN, ne_eq, and_self, true_and, Nat.reduceSub, Nat.reduceAdd, wipeE]
  unfold wS at w
  cases e : evS (dnF fbs pg 100000 k) b0 (startE 3 [.int p, .int 0]) h with
  | ex e' en h' => rw [e] at w; obtain ⟨rfl, rfl⟩ := (w : e' = ⟨0, none⟩ ∧ h' = h); rfl
  | nx _ _ => rw [e] at w; exact False.elim w
  | rt _ _ => rw [e] at w; exact False.elim w
  | bk _ _ => rw [e] at w; exact False.elim w
  | ct _ _ => rw [e] at w; exact False.elim w
  | bad => rw [e] at w; exact False.elim w
end RL

set_option Elab.async false
set_option linter.all false
set_option maxRecDepth 100000
set_option maxHeartbeats 1000000
set_option autoImplicit false
namespace RL
open RS
theorem euc_succ (n a b : Nat) : euc (n + 1) a b = if b = 0 then (a, b) else euc n b (a % b) := rfl
/-- the state after i turns, while none has stopped -/
theorem euc_step : ∀ (i a b : Nat), (euc i a b).2 ≠ 0 → euc (i + 1) a b = ((euc i a b).2, (euc i a b).1 % (euc i a b).2)
  | 0, a, b, h => by
    have hb : b ≠ 0 := h
    rw [euc_succ, if_neg hb]; rfl
  | i + 1, a, b, h => by
    rw [euc_succ] at h ⊢
    by_cases hb : b = 0
    · rw [if_pos hb] at h; exact absurd hb h
    · rw [if_neg hb] at h ⊢
      rw [euc_step i b (a % b) h, euc_succ i a b, if_neg hb]
theorem euc_stop : ∀ (i j a b : Nat), (euc i a b).2 = 0 → i ≤ j → euc j a b = euc i a b
  | 0, 0, a, b, h, _ => rfl
  | 0, j + 1, a, b, h, _ => by
    have hb : b = 0 := h
    rw [euc_succ, if_pos hb]; rfl
  | i + 1, 0, a, b, h, l => by omega
  | i + 1, j + 1, a, b, h, l => by
    rw [euc_succ] at h ⊢
    rw [euc_succ]
    by_cases hb : b = 0
    · rw [if_pos hb, if_pos hb]
    · rw [if_neg hb] at h
      rw [if_neg hb, if_neg hb]
      exact euc_stop i j b (a % b) h (by omega)
theorem fmod_nat (a b : Nat) : ((a : Int)).fmod (b : Int) = ((a % b : Nat) : Int) := by
  rw [Int.fmod_eq_emod_of_nonneg _ (by omega)]; rfl
theorem bits_lt (q : Nat) (hq : 0 < q) : q < 2 ^ (PySem.Builtin.Int.intBits (q : Int)) := by
  unfold PySem.Builtin.Int.intBits
  rw [if_neg (by simp; omega)]
  show q < 2 ^ (((q : Int).natAbs).log2 + 1)
  rw [Int.natAbs_natCast]
  exact Nat.lt_log2_self
theorem euc_le (i a b : Nat) : (euc i a b).1 ≤ max a b ∧ (euc i a b).2 ≤ max a b := by
  induction i generalizing a b with
  | zero => exact ⟨Nat.le_max_left _ _, Nat.le_max_right _ _⟩
  | succ i ih =>
    rw [euc_succ]
    by_cases hb : b = 0
    · rw [if_pos hb]; exact ⟨Nat.le_max_left _ _, Nat.le_max_right _ _⟩
    · rw [if_neg hb]
      have := ih b (a % b)
      have h1 : a % b < b := Nat.mod_lt _ (by omega)
      omega
end RL

set_option Elab.async false
set_option linter.all false
set_option maxRecDepth 100000
set_option maxHeartbeats 1000000
set_option autoImplicit false
namespace RL
open RS
/-- a number of a size that is far below what is allowed -/
def Sz (n : Nat) (x : Int) : Prop := x.natAbs < 2 ^ n
theorem Sz.mul {n m : Nat} {x y : Int} (a : Sz n x) (b : Sz m y) : Sz (n + m) (x * y) := by
  unfold Sz at *
  rw [Int.natAbs_mul, Nat.pow_add]
  exact Nat.mul_lt_mul'' a b
theorem Sz.add {n m : Nat} {x y : Int} (a : Sz n x) (b : Sz n y) (h : m = n + 1) : Sz m (x + y) := by
  unfold Sz at *
  subst h
  rw [Nat.pow_succ]
  have := Int.natAbs_add_le x y
  omega
theorem Sz.neg {n : Nat} {x : Int} (a : Sz n x) : Sz n (-x) := by unfold Sz at *; rw [Int.natAbs_neg]; exact a
theorem Sz.sub {n m : Nat} {x y : Int} (a : Sz n x) (b : Sz n y) (h : m = n + 1) : Sz m (x - y) := by
  rw [Int.sub_eq_add_neg]; exact a.add b.neg h
theorem Sz.le {n m : Nat} {x : Int} (a : Sz n x) (h : n ≤ m) : Sz m x := Nat.lt_of_lt_of_le a (Nat.pow_le_pow_right (by decide) h)
theorem Sz.mk {n : Nat} {x : Int} (a : Sz n x) (h : n ≤ 4000) : x.natAbs < 2 ^ 4000 := a.le h
theorem Sz.of {n : Nat} {x y : Int} (a : Sz n y) (h : x.natAbs ≤ y.natAbs) : Sz n x := Nat.lt_of_le_of_lt h a
theorem mulS {n m : Nat} {x y : Int} (a : Sz n x) (b : Sz m y) (h1 : n ≤ 4000) (h2 : m ≤ 4000) : mulOk x y = True := eq_true (.inr (.inr ⟨a.le h1, b.le h2⟩))
/-- a pair in lowest terms, not too great -/
structure Rat (n : Nat) (a b : Int) : Prop where
  low : Low a b
  sa : Sz n a
  sb : Sz n b
def pr (a b : Int) : PV := .tup [.int a, .int b]
end RL

set_option Elab.async false
set_option linter.all false
set_option maxRecDepth 100000
set_option maxHeartbeats 1000000
set_option autoImplicit false
namespace RL
open RS
theorem pow10 {a b : Nat} (h : a ≤ b) : (10 : Int) ^ a ≤ 10 ^ b := by
  have := Nat.pow_le_pow_right (show 0 < 10 by decide) h
  exact_mod_cast this
theorem fm (k p : Nat) {n : Int} {h h0 : Hm} {P : PV → Hm → Prop} {X : Ex → Hm → Prop} (g : Grow p h0 h) (n0 : 0 < n) (hn : n < 2 ^ 30) (c : ∀ r h2, 0 ≤ r → r < n → Grow p h0 h2 → P (.int r) h2) : wR (callF fbs pg 100000 (k+2) 2 [.ref p, .int n] h) P X :=
  take_g k p g n0 hn fun r h2 a b g2 _ _ => c r h2 a b g2
theorem sized_ok (k p : Nat) (pc : Int) (h : Hm) (o : MO) (hp : h[p]? = some o) (ho : IsPool o) (p0 : 0 ≤ pc) (p3 : pc ≤ 3) : wR (callF fbs pg 100000 (k+3) 4 [.ref p, .int pc] h) (fun v h' => Grow p h h' ∧ ∃ x, v = .int x ∧ Sz 60 x ∧ (pc ≤ 2 → Sz 40 x)) XF := by
  rw [callF_at (fi := ⟨5, b4⟩) (fd := ⟨"_law_sized", true, ps4, []⟩) (k+1) rfl rfl rfl, wR_ret]; show wS (dnF fbs pg 100000 (k+1)) b4 _ _ _ _ _ _ _
  simp only [b4, dvN, ↓e1_var, ↓e1_int, ↓e1_str, ↓e1_bl, ↓e1_non, ↓e1_glob, ↓e1_bin, ↓e1_neg, ↓e1_bitl, ↓e1_not, ↓e1_and, ↓e1_or, ↓e1_cmp, ↓e1_chain, ↓e1_ite, ↓e1_call, ↓e1_callK, ↓e1_eqd, ↓e1_make, ↓e1_meO, ↓e1_bi, ↓e1_isi, ↓e1_meth, ↓e1_attr, ↓e1_tup, ↓e1_lst, ↓e1_dict, ↓e1_dictT, ↓e1_ix, ↓e1_sl, ↓o1_nil, ↓o1_cons, ↓e1_lc, ↓l1_nil, ↓l1_cons, ↓t1_cmp, ↓t1_chain, ↓t1_eqd, ↓t1_not, ↓t1_and, ↓t1_or, ↓c1_nil, ↓c1_cons, ↓i1_val, ↓i1_r1, ↓i1_r2, ↓g1_nm, ↓g1_sub, ↓g1_tup, ↓gs1_nil, ↓gs1_cons, ↓s1_skip, ↓s1_seq, ↓s1_ret, ↓s1_retN, ↓s1_expr, ↓s1_ite, ↓s1_brk, ↓s1_cont, ↓s1_bad, ↓s1_set, ↓s1_setT, ↓s1_par, ↓s1_aug, ↓s1_sattr, ↓s1_aattr, ↓s1_raise0, ↓s1_tryO, ↓s1_tryA, ↓s1_whl, ↓s1_frl, ↓t2_var, ↓t2_bl, ↓t2_ix, ↓t2_call, ↓t2_callK, ↓t2_meO, ↓t2_bi, ↓t2_isi, ↓t2_meth, ↓t2_attr, ↓t2_bin, wR_ok, wR_bad, wR_ite, wV_some, wV_none, wV_no, wBl_bl, wBl_int, wOp_some, wOp_none, wInt_int, wTwo_two, dnF_P, dnF_m, dnF_call, dnF_call1, b_add, b_sub, b_mul, b_div, b_mod, b_pow, b_shl, b_shr, b_and, b_or, b_xor, c_eq, c_ne, c_lt, c_le, c_gt, c_ge, c_is, c_isn, c_in, c_nin, a_add, a_sub, p_add, p_sub, p_mul, p_div, p_mod, p_pow, p_shr, p_and2, p_neg, p_bits, p_lt, p_le, p_gt, p_ge, p_eqi, p_nei, p_eqs, p_nes, p_eqb, p_isn, p_isnn, t_bl, t_int, len_tup, bi_int, bi_intb, bi_abs, bi_lstT, wIx_l, wIx_f, wIx_d, wIx_t, wSq_l, wSq_f, wMl_l, wLs_l, wLs_f, wLs_d, wDk_d, wSt_l, wSt_d, wSt_t, wDl_d, wDl_t, rcvO_l, rcvO_f, rcvO_d, rcvO_t, tnO_l, tnO_f, tnO_d, tnO_t, lstO_l, lstO_f, keyV_i, keyV_s, q_ix, q_ixT, q_ixK, q_set, q_len, q_list, q_dict, q_tuple, q_it, q_itT, q_itK, q_itS, q_r1, q_r2, q_addL, q_addT, q_in, q_nin, q_eq, q_ne, eqB_i, eqB_s, eqB_b, q_slL, q_slT, q_tr, q_rcv, q_tn, tn_i, tn_b, tn_n, tn_s, tn_t, tn_k, me_app, me_pop, me_rev, me_clr, me_ins, me_idx, me_get, me_sd, q_app, q_rev, q_clr, q_pop, q_get1, q_get2, q_idx, at0, at1, at2, at3, ix0, ix1, ix2, ix3, atk, ls_len, ha_new, la_new, k_at, k_at2, k_bin2, k_bin1, k_neg, k_bits, k_not2, k_not1, k_and2, k_and1, k_or2, k_or1, k_cmp2, k_cmp1, k_ch4, k_ch3, k_ch2, k_ch1, k_ite, k_call, k_ck2, k_ck1, k_eqd2, k_eqd1, k_mk3, k_mk2, k_mk1, k_mo3, k_mo2, k_mo1, k_bi, k_isi2, k_isi, k_me4, k_me3, k_me2, k_me1, k_attr, k_tup, k_lst, k_ix2, k_ix1, k_sl3, k_sl2, k_sl1, k_oi2, k_oi, k_lc, k_l2, k_l1, k_tr, k_bl2, k_bl, k_tn, k_ta, k_to, k_it, k_r1, k_r2b, k_r2, k_un, k_gs2, k_gs1, k_gt, k_gc, k_xs, k_seq, k_ex, k_sif, k_set, k_st, k_par2, k_par, k_aug2, k_aug1, k_sa2, k_sa1, k_aa4, k_aa3, k_aa2, k_aa1, k_frl, k_try, k_rn, k_rx, k_re, List.getElem?_cons_zero, List.getElem?_cons_succ, List.set_cons_zero, List.set_cons_succ, List.length_cons, List.length_nil, decide_eq_true_eq, Bool.not_eq_true', decide_eq_false_iff_not, if_true, if_false, Bool.false_eq_true, reduceIte, List.cons_append, List.nil_append, List.map_cons, List.map_nil, Nat.reduceLeDiff, and_true, true_and, startE, List.replicate, List.length_singleton, List.append_nil, decide_true, decide_false, not_true_eq_false, not_false_eq_true, Int.natAbs_natCast, Int.toNat_natCast, List.length_map, Bool.not_true, Bool.not_false, reduceCtorEq, subTN, ne_eq, and_self, true_and, Nat.reduceSub, Nat.reduceAdd, wipeE]
  refine fm _ p (Grow.refl ho hp) (by decide) (by decide) fun sz h1 z0 z1 g1 => ?_
  simp only [dvN, ↓e1_var, ↓e1_int, ↓e1_str, ↓e1_bl, ↓e1_non, ↓e1_glob, ↓e1_bin, ↓e1_neg, ↓e1_bitl, ↓e1_not, ↓e1_and, ↓e1_or, ↓e1_cmp, ↓e1_chain, ↓e1_ite, ↓e1_call, ↓e1_callK, ↓e1_eqd, ↓e1_make, ↓e1_meO, ↓e1_bi, ↓e1_isi, ↓e1_meth, ↓e1_attr, ↓e1_tup, ↓e1_lst, ↓e1_dict, ↓e1_dictT, ↓e1_ix, ↓e1_sl, ↓o1_nil, ↓o1_cons, ↓e1_lc, ↓l1_nil, ↓l1_cons, ↓t1_cmp, ↓t1_chain, ↓t1_eqd, ↓t1_not, ↓t1_and, ↓t1_or, ↓c1_nil, ↓c1_cons, ↓i1_val, ↓i1_r1, ↓i1_r2, ↓g1_nm, ↓g1_sub, ↓g1_tup, ↓gs1_nil, ↓gs1_cons, ↓s1_skip, ↓s1_seq, ↓s1_ret, ↓s1_retN, ↓s1_expr, ↓s1_ite, ↓s1_brk, ↓s1_cont, ↓s1_bad, ↓s1_set, ↓s1_setT, ↓s1_par, ↓s1_aug, ↓s1_sattr, ↓s1_aattr, ↓s1_raise0, ↓s1_tryO, ↓s1_tryA, ↓s1_whl, ↓s1_frl, ↓t2_var, ↓t2_bl, ↓t2_ix, ↓t2_call, ↓t2_callK, ↓t2_meO, ↓t2_bi, ↓t2_isi, ↓t2_meth, ↓t2_attr, ↓t2_bin, wR_ok, wR_bad, wR_ite, wV_some, wV_none, wV_no, wBl_bl, wBl_int, wOp_some, wOp_none, wInt_int, wTwo_two, dnF_P, dnF_m, dnF_call, dnF_call1, b_add, b_sub, b_mul, b_div, b_mod, b_pow, b_shl, b_shr, b_and, b_or, b_xor, c_eq, c_ne, c_lt, c_le, c_gt, c_ge, c_is, c_isn, c_in, c_nin, a_add, a_sub, p_add, p_sub, p_mul, p_div, p_mod, p_pow, p_shr, p_and2, p_neg, p_bits, p_lt, p_le, p_gt, p_ge, p_eqi, p_nei, p_eqs, p_nes, p_eqb, p_isn, p_isnn, t_bl, t_int, len_tup, bi_int, bi_intb, bi_abs, bi_lstT, wIx_l, wIx_f, wIx_d, wIx_t, wSq_l, wSq_f, wMl_l, wLs_l, wLs_f, wLs_d, wDk_d, wSt_l, wSt_d, wSt_t, wDl_d, wDl_t, rcvO_l, rcvO_f, rcvO_d, rcvO_t, tnO_l, tnO_f, tnO_d, tnO_t, lstO_l, lstO_f, keyV_i, keyV_s, q_ix, q_ixT, q_ixK, q_set, q_len, q_list, q_dict, q_tuple, q_it, q_itT, q_itK, q_itS, q_r1, q_r2, q_addL, q_addT, q_in, q_nin, q_eq, q_ne, eqB_i, eqB_s, eqB_b, q_slL, q_slT, q_tr, q_rcv, q_tn, tn_i, tn_b, tn_n, tn_s, tn_t, tn_k, me_app, me_pop, me_rev, me_clr, me_ins, me_idx, me_get, me_sd, q_app, q_rev, q_clr, q_pop, q_get1, q_get2, q_idx, at0, at1, at2, at3, ix0, ix1, ix2, ix3, atk, ls_len, ha_new, la_new, k_at, k_at2, k_bin2, k_bin1, k_neg, k_bits, k_not2, k_not1, k_and2, k_and1, k_or2, k_or1, k_cmp2, k_cmp1, k_ch4, k_ch3, k_ch2, k_ch1, k_ite, k_call, k_ck2, k_ck1, k_eqd2, k_eqd1, k_mk3, k_mk2, k_mk1, k_mo3, k_mo2, k_mo1, k_bi, k_isi2, k_isi, k_me4, k_me3, k_me2, k_me1, k_attr, k_tup, k_lst, k_ix2, k_ix1, k_sl3, k_sl2, k_sl1, k_oi2, k_oi, k_lc, k_l2, k_l1, k_tr, k_bl2, k_bl, k_tn, k_ta, k_to, k_it, k_r1, k_r2b, k_r2, k_un, k_gs2, k_gs1, k_gt, k_gc, k_xs, k_seq, k_ex, k_sif, k_set, k_st, k_par2, k_par, k_aug2, k_aug1, k_sa2, k_sa1, k_aa4, k_aa3, k_aa2, k_aa1, k_frl, k_try, k_rn, k_rx, k_re, List.getElem?_cons_zero, List.getElem?_cons_succ, List.set_cons_zero, List.set_cons_succ, List.length_cons, List.length_nil, decide_eq_true_eq, Bool.not_eq_true', decide_eq_false_iff_not, if_true, if_false, Bool.false_eq_true, reduceIte, List.cons_append, List.nil_append, List.map_cons, List.map_nil, Nat.reduceLeDiff, and_true, true_and, startE, List.replicate, List.length_singleton, List.append_nil, decide_true, decide_false, not_true_eq_false, not_false_eq_true, Int.natAbs_natCast, Int.toNat_natCast, List.length_map, Bool.not_true, Bool.not_false, reduceCtorEq, subTN, ne_eq, and_self, true_and, Nat.reduceSub, Nat.reduceAdd, wipeE]
  refine fm _ p g1 (by decide) (by decide) fun t h2 t0 t1 g2 => ?_
  have fin : ∀ (x2 x4 : Option PV) (t : Int) (hh : Hm), Grow p h hh → 0 ≤ t → t < 10 ^ 18 → (pc ≤ 2 → t < 10 ^ 12) → wS (dnF fbs pg 100000 (k+1)) (.seq (.ite (.cmp .Eq (.call 2 (.cons (.var 0) (.cons (.int 2) .nil))) (.int 1)) (.seq (.ret (.neg (.var 3))) .skip) .skip) (.seq (.ret (.var 3)) .skip)) [some (.ref p), some (.int pc), x2, some (.int t), x4] hh
      (k_rn fun v h' => Grow p h h' ∧ ∃ x, v = .int x ∧ Sz 60 x ∧ (pc ≤ 2 → Sz 40 x)) (fun v h' => Grow p h h' ∧ ∃ x, v = .int x ∧ Sz 60 x ∧ (pc ≤ 2 → Sz 40 x)) k_rx k_rx (k_re XF) := by
    intro x2 x4 t hh g t0 t18 t12
    have s60 : Sz 60 t := by unfold Sz; omega
    have s40 : pc ≤ 2 → Sz 40 t := fun z => by have := t12 z; unfold Sz; omega
    simp only [dvN, ↓e1_var, ↓e1_int, ↓e1_str, ↓e1_bl, ↓e1_non, ↓e1_glob, ↓e1_bin, ↓e1_neg, ↓e1_bitl, ↓e1_not, ↓e1_and, ↓e1_or, ↓e1_cmp, ↓e1_chain, ↓e1_ite, ↓e1_call, ↓e1_callK, ↓e1_eqd, ↓e1_make, ↓e1_meO, ↓e1_bi, ↓e1_isi, ↓e1_meth, ↓e1_attr, ↓e1_tup, ↓e1_lst, ↓e1_dict, ↓e1_dictT, ↓e1_ix, ↓e1_sl, ↓o1_nil, ↓o1_cons, ↓e1_lc, ↓l1_nil, ↓l1_cons, ↓t1_cmp, ↓t1_chain, ↓t1_eqd, ↓t1_not, ↓t1_and, ↓t1_or, ↓c1_nil, ↓c1_cons, ↓i1_val, ↓i1_r1, ↓i1_r2, ↓g1_nm, ↓g1_sub, ↓g1_tup, ↓gs1_nil, ↓gs1_cons, ↓s1_skip, ↓s1_seq, ↓s1_ret, ↓s1_retN, ↓s1_expr, ↓s1_ite, ↓s1_brk, ↓s1_cont, ↓s1_bad, ↓s1_set, ↓s1_setT, ↓s1_par, ↓s1_aug, ↓s1_sattr, ↓s1_aattr, ↓s1_raise0, ↓s1_tryO, ↓s1_tryA, ↓s1_whl, ↓s1_frl, ↓t2_var, ↓t2_bl, ↓t2_ix, ↓t2_call, ↓t2_callK, ↓t2_meO, ↓t2_bi, ↓t2_isi, ↓t2_meth, ↓t2_attr, ↓t2_bin, wR_ok, wR_bad, wR_ite, wV_some, wV_none, wV_no, wBl_bl, wBl_int, wOp_some, wOp_none, wInt_int, wTwo_two, dnF_P, dnF_m, dnF_call, dnF_call1, b_add, b_sub, b_mul, b_div, b_mod, b_pow, b_shl, b_shr, b_and, b_or, b_xor, c_eq, c_ne, c_lt, c_le, c_gt, c_ge, c_is, c_isn, c_in, c_nin, a_add, a_sub, p_add, p_sub, p_mul, p_div, p_mod, p_pow, p_shr, p_and2, p_neg, p_bits, p_lt, p_le, p_gt, p_ge, p_eqi, p_nei, p_eqs, p_nes, p_eqb, p_isn, p_isnn, t_bl, t_int, len_tup, bi_int, bi_intb, bi_abs, bi_lstT, wIx_l, wIx_f, wIx_d, wIx_t, wSq_l, wSq_f, wMl_l, wLs_l, wLs_f, wLs_d, wDk_d, wSt_l, wSt_d, wSt_t, wDl_d, wDl_t, rcvO_l, rcvO_f, rcvO_d, rcvO_t, tnO_l, tnO_f, tnO_d, tnO_t, lstO_l, lstO_f, keyV_i, keyV_s, q_ix, q_ixT, q_ixK, q_set, q_len, q_list, q_dict, q_tuple, q_it, q_itT, q_itK, q_itS, q_r1, q_r2, q_addL, q_addT, q_in, q_nin, q_eq, q_ne, eqB_i, eqB_s, eqB_b, q_slL, q_slT, q_tr, q_rcv, q_tn, tn_i, tn_b, tn_n, tn_s, tn_t, tn_k, me_app, me_pop, me_rev, me_clr, me_ins, me_idx, me_get, me_sd, q_app, q_rev, q_clr, q_pop, q_get1, q_get2, q_idx, at0, at1, at2, at3, ix0, ix1, ix2, ix3, atk, ls_len, ha_new, la_new, k_at, k_at2, k_bin2, k_bin1, k_neg, k_bits, k_not2, k_not1, k_and2, k_and1, k_or2, k_or1, k_cmp2, k_cmp1, k_ch4, k_ch3, k_ch2, k_ch1, k_ite, k_call, k_ck2, k_ck1, k_eqd2, k_eqd1, k_mk3, k_mk2, k_mk1, k_mo3, k_mo2, k_mo1, k_bi, k_isi2, k_isi, k_me4, k_me3, k_me2, k_me1, k_attr, k_tup, k_lst, k_ix2, k_ix1, k_sl3, k_sl2, k_sl1, k_oi2, k_oi, k_lc, k_l2, k_l1, k_tr, k_bl2, k_bl, k_tn, k_ta, k_to, k_it, k_r1, k_r2b, k_r2, k_un, k_gs2, k_gs1, k_gt, k_gc, k_xs, k_seq, k_ex, k_sif, k_set, k_st, k_par2, k_par, k_aug2, k_aug1, k_sa2, k_sa1, k_aa4, k_aa3, k_aa2, k_aa1, k_frl, k_try, k_rn, k_rx, k_re, List.getElem?_cons_zero, List.getElem?_cons_succ, List.set_cons_zero, List.set_cons_succ, List.length_cons, List.length_nil, decide_eq_true_eq, Bool.not_eq_true', decide_eq_false_iff_not, if_true, if_false, Bool.false_eq_true, reduceIte, List.cons_append, List.nil_append, List.map_cons, List.map_nil, Nat.reduceLeDiff, and_true, true_and, startE, List.replicate, List.length_singleton, List.append_nil, decide_true, decide_false, not_true_eq_false, not_false_eq_true, Int.natAbs_natCast, Int.toNat_natCast, List.length_map, Bool.not_true, Bool.not_false, reduceCtorEq, subTN, ne_eq, and_self, true_and, Nat.reduceSub, Nat.reduceAdd, wipeE]
    refine fm _ p g (by decide) (by decide) fun r h3 r0 r1 g3 => ?_
    by_cases c : r = 1
    · simp only [c, ↓e1_var, ↓e1_int, ↓e1_str, ↓e1_bl, ↓e1_non, ↓e1_glob, ↓e1_bin, ↓e1_neg, ↓e1_bitl, ↓e1_not, ↓e1_and, ↓e1_or, ↓e1_cmp, ↓e1_chain, ↓e1_ite, ↓e1_call, ↓e1_callK, ↓e1_eqd, ↓e1_make, ↓e1_meO, ↓e1_bi, ↓e1_isi, ↓e1_meth, ↓e1_attr, ↓e1_tup, ↓e1_lst, ↓e1_dict, ↓e1_dictT, ↓e1_ix, ↓e1_sl, ↓o1_nil, ↓o1_cons, ↓e1_lc, ↓l1_nil, ↓l1_cons, ↓t1_cmp, ↓t1_chain, ↓t1_eqd, ↓t1_not, ↓t1_and, ↓t1_or, ↓c1_nil, ↓c1_cons, ↓i1_val, ↓i1_r1, ↓i1_r2, ↓g1_nm, ↓g1_sub, ↓g1_tup, ↓gs1_nil, ↓gs1_cons, ↓s1_skip, ↓s1_seq, ↓s1_ret, ↓s1_retN, ↓s1_expr, ↓s1_ite, ↓s1_brk, ↓s1_cont, ↓s1_bad, ↓s1_set, ↓s1_setT, ↓s1_par, ↓s1_aug, ↓s1_sattr, ↓s1_aattr, ↓s1_raise0, ↓s1_tryO, ↓s1_tryA, ↓s1_whl, ↓s1_frl, ↓t2_var, ↓t2_bl, ↓t2_ix, ↓t2_call, ↓t2_callK, ↓t2_meO, ↓t2_bi, ↓t2_isi, ↓t2_meth, ↓t2_attr, ↓t2_bin, wR_ok, wR_bad, wR_ite, wV_some, wV_none, wV_no, wBl_bl, wBl_int, wOp_some, wOp_none, wInt_int, wTwo_two, dnF_P, dnF_m, dnF_call, dnF_call1, b_add, b_sub, b_mul, b_div, b_mod, b_pow, b_shl, b_shr, b_and, b_or, b_xor, c_eq, c_ne, c_lt, c_le, c_gt, c_ge, c_is, c_isn, c_in, c_nin, a_add, a_sub, p_add, p_sub, p_mul, p_div, p_mod, p_pow, p_shr, p_and2, p_neg, p_bits, p_lt, p_le, p_gt, p_ge, p_eqi, p_nei, p_eqs, p_nes, p_eqb, p_isn, p_isnn, t_bl, t_int, len_tup, bi_int, bi_intb, bi_abs, bi_lstT, wIx_l, wIx_f, wIx_d, wIx_t, wSq_l, wSq_f, wMl_l, wLs_l, wLs_f, wLs_d, wDk_d, wSt_l, wSt_d, wSt_t, wDl_d, wDl_t, rcvO_l, rcvO_f, rcvO_d, rcvO_t, tnO_l, tnO_f, tnO_d, tnO_t, lstO_l, lstO_f, keyV_i, keyV_s, q_ix, q_ixT, q_ixK, q_set, q_len, q_list, q_dict, q_tuple, q_it, q_itT, q_itK, q_itS, q_r1, q_r2, q_addL, q_addT, q_in, q_nin, q_eq, q_ne, eqB_i, eqB_s, eqB_b, q_slL, q_slT, q_tr, q_rcv, q_tn, tn_i, tn_b, tn_n, tn_s, tn_t, tn_k, me_app, me_pop, me_rev, me_clr, me_ins, me_idx, me_get, me_sd, q_app, q_rev, q_clr, q_pop, q_get1, q_get2, q_idx, at0, at1, at2, at3, ix0, ix1, ix2, ix3, atk, ls_len, ha_new, la_new, k_at, k_at2, k_bin2, k_bin1, k_neg, k_bits, k_not2, k_not1, k_and2, k_and1, k_or2, k_or1, k_cmp2, k_cmp1, k_ch4, k_ch3, k_ch2, k_ch1, k_ite, k_call, k_ck2, k_ck1, k_eqd2, k_eqd1, k_mk3, k_mk2, k_mk1, k_mo3, k_mo2, k_mo1, k_bi, k_isi2, k_isi, k_me4, k_me3, k_me2, k_me1, k_attr, k_tup, k_lst, k_ix2, k_ix1, k_sl3, k_sl2, k_sl1, k_oi2, k_oi, k_lc, k_l2, k_l1, k_tr, k_bl2, k_bl, k_tn, k_ta, k_to, k_it, k_r1, k_r2b, k_r2, k_un, k_gs2, k_gs1, k_gt, k_gc, k_xs, k_seq, k_ex, k_sif, k_set, k_st, k_par2, k_par, k_aug2, k_aug1, k_sa2, k_sa1, k_aa4, k_aa3, k_aa2, k_aa1, k_frl, k_try, k_rn, k_rx, k_re, List.getElem?_cons_zero, List.getElem?_cons_succ, List.set_cons_zero, List.set_cons_succ, List.length_cons, List.length_nil, decide_eq_true_eq, Bool.not_eq_true', decide_eq_false_iff_not, if_true, if_false, Bool.false_eq_true, reduceIte, List.cons_append, List.nil_append, List.map_cons, List.map_nil, Nat.reduceLeDiff, and_true, true_and, startE, List.replicate, List.length_singleton, List.append_nil, decide_true, decide_false, not_true_eq_false, not_false_eq_true, Int.natAbs_natCast, Int.toNat_natCast, List.length_map, Bool.not_true, Bool.not_false, reduceCtorEq, subTN, ne_eq, and_self, true_and, Nat.reduceSub, Nat.reduceAdd, wipeE]
      exact ⟨g3, _, rfl, s60.neg, fun z => (s40 z).neg⟩
    · simp only [c, ↓e1_var, ↓e1_int, ↓e1_str, ↓e1_bl, ↓e1_non, ↓e1_glob, ↓e1_bin, ↓e1_neg, ↓e1_bitl, ↓e1_not, ↓e1_and, ↓e1_or, ↓e1_cmp, ↓e1_chain, ↓e1_ite, ↓e1_call, ↓e1_callK, ↓e1_eqd, ↓e1_make, ↓e1_meO, ↓e1_bi, ↓e1_isi, ↓e1_meth, ↓e1_attr, ↓e1_tup, ↓e1_lst, ↓e1_dict, ↓e1_dictT, ↓e1_ix, ↓e1_sl, ↓o1_nil, ↓o1_cons, ↓e1_lc, ↓l1_nil, ↓l1_cons, ↓t1_cmp, ↓t1_chain, ↓t1_eqd, ↓t1_not, ↓t1_and, ↓t1_or, ↓c1_nil, ↓c1_cons, ↓i1_val, ↓i1_r1, ↓i1_r2, ↓g1_nm, ↓g1_sub, ↓g1_tup, ↓gs1_nil, ↓gs1_cons, ↓s1_skip, ↓s1_seq, ↓s1_ret, ↓s1_retN, ↓s1_expr, ↓s1_ite, ↓s1_brk, ↓s1_cont, ↓s1_bad, ↓s1_set, ↓s1_setT, ↓s1_par, ↓s1_aug, ↓s1_sattr, ↓s1_aattr, ↓s1_raise0, ↓s1_tryO, ↓s1_tryA, ↓s1_whl, ↓s1_frl, ↓t2_var, ↓t2_bl, ↓t2_ix, ↓t2_call, ↓t2_callK, ↓t2_meO, ↓t2_bi, ↓t2_isi, ↓t2_meth, ↓t2_attr, ↓t2_bin, wR_ok, wR_bad, wR_ite, wV_some, wV_none, wV_no, wBl_bl, wBl_int, wOp_some, wOp_none, wInt_int, wTwo_two, dnF_P, dnF_m, dnF_call, dnF_call1, b_add, b_sub, b_mul, b_div, b_mod, b_pow, b_shl, b_shr, b_and, b_or, b_xor, c_eq, c_ne, c_lt, c_le, c_gt, c_ge, c_is, c_isn, c_in, c_nin, a_add, a_sub, p_add, p_sub, p_mul, p_div, p_mod, p_pow, p_shr, p_and2, p_neg, p_bits, p_lt, p_le, p_gt, p_ge, p_eqi, p_nei, p_eqs, p_nes, p_eqb, p_isn, p_isnn, t_bl, t_int, len_tup, bi_int, bi_intb, bi_abs, bi_lstT, wIx_l, wIx_f, wIx_d, wIx_t, wSq_l, wSq_f, wMl_l, wLs_l, wLs_f, wLs_d, wDk_d, wSt_l, wSt_d, wSt_t, wDl_d, wDl_t, rcvO_l, rcvO_f, rcvO_d, rcvO_t, tnO_l, tnO_f, tnO_d, tnO_t, lstO_l, lstO_f, keyV_i, keyV_s, q_ix, q_ixT, q_ixK, q_set, q_len, q_list, q_dict, q_tuple, q_it, q_itT, q_itK, q_itS, q_r1, q_r2, q_addL, q_addT, q_in, q_nin, q_eq, q_ne, eqB_i, eqB_s, eqB_b, q_slL, q_slT, q_tr, q_rcv, q_tn, tn_i, tn_b, tn_n, tn_s, tn_t, tn_k, me_app, me_pop, me_rev, me_clr, me_ins, me_idx, me_get, me_sd, q_app, q_rev, q_clr, q_pop, q_get1, q_get2, q_idx, at0, at1, at2, at3, ix0, ix1, ix2, ix3, atk, ls_len, ha_new, la_new, k_at, k_at2, k_bin2, k_bin1, k_neg, k_bits, k_not2, k_not1, k_and2, k_and1, k_or2, k_or1, k_cmp2, k_cmp1, k_ch4, k_ch3, k_ch2, k_ch1, k_ite, k_call, k_ck2, k_ck1, k_eqd2, k_eqd1, k_mk3, k_mk2, k_mk1, k_mo3, k_mo2, k_mo1, k_bi, k_isi2, k_isi, k_me4, k_me3, k_me2, k_me1, k_attr, k_tup, k_lst, k_ix2, k_ix1, k_sl3, k_sl2, k_sl1, k_oi2, k_oi, k_lc, k_l2, k_l1, k_tr, k_bl2, k_bl, k_tn, k_ta, k_to, k_it, k_r1, k_r2b, k_r2, k_un, k_gs2, k_gs1, k_gt, k_gc, k_xs, k_seq, k_ex, k_sif, k_set, k_st, k_par2, k_par, k_aug2, k_aug1, k_sa2, k_sa1, k_aa4, k_aa3, k_aa2, k_aa1, k_frl, k_try, k_rn, k_rx, k_re, List.getElem?_cons_zero, List.getElem?_cons_succ, List.set_cons_zero, List.set_cons_succ, List.length_cons, List.length_nil, decide_eq_true_eq, Bool.not_eq_true', decide_eq_false_iff_not, if_true, if_false, Bool.false_eq_true, reduceIte, List.cons_append, List.nil_append, List.map_cons, List.map_nil, Nat.reduceLeDiff, and_true, true_and, startE, List.replicate, List.length_singleton, List.append_nil, decide_true, decide_false, not_true_eq_false, not_false_eq_true, Int.natAbs_natCast, Int.toNat_natCast, List.length_map, Bool.not_true, Bool.not_false, reduceCtorEq, subTN, ne_eq, and_self, true_and, Nat.reduceSub, Nat.reduceAdd, wipeE]
      exact ⟨g3, _, rfl, s60, s40⟩
  by_cases c1 : sz = 1
  · subst c1
    simp only [dvN, show ¬ ((1 : Int) = 2) from by decide, show ¬ ((1 : Int) = 3) from by decide, ↓e1_var, ↓e1_int, ↓e1_str, ↓e1_bl, ↓e1_non, ↓e1_glob, ↓e1_bin, ↓e1_neg, ↓e1_bitl, ↓e1_not, ↓e1_and, ↓e1_or, ↓e1_cmp, ↓e1_chain, ↓e1_ite, ↓e1_call, ↓e1_callK, ↓e1_eqd, ↓e1_make, ↓e1_meO, ↓e1_bi, ↓e1_isi, ↓e1_meth, ↓e1_attr, ↓e1_tup, ↓e1_lst, ↓e1_dict, ↓e1_dictT, ↓e1_ix, ↓e1_sl, ↓o1_nil, ↓o1_cons, ↓e1_lc, ↓l1_nil, ↓l1_cons, ↓t1_cmp, ↓t1_chain, ↓t1_eqd, ↓t1_not, ↓t1_and, ↓t1_or, ↓c1_nil, ↓c1_cons, ↓i1_val, ↓i1_r1, ↓i1_r2, ↓g1_nm, ↓g1_sub, ↓g1_tup, ↓gs1_nil, ↓gs1_cons, ↓s1_skip, ↓s1_seq, ↓s1_ret, ↓s1_retN, ↓s1_expr, ↓s1_ite, ↓s1_brk, ↓s1_cont, ↓s1_bad, ↓s1_set, ↓s1_setT, ↓s1_par, ↓s1_aug, ↓s1_sattr, ↓s1_aattr, ↓s1_raise0, ↓s1_tryO, ↓s1_tryA, ↓s1_whl, ↓s1_frl, ↓t2_var, ↓t2_bl, ↓t2_ix, ↓t2_call, ↓t2_callK, ↓t2_meO, ↓t2_bi, ↓t2_isi, ↓t2_meth, ↓t2_attr, ↓t2_bin, wR_ok, wR_bad, wR_ite, wV_some, wV_none, wV_no, wBl_bl, wBl_int, wOp_some, wOp_none, wInt_int, wTwo_two, dnF_P, dnF_m, dnF_call, dnF_call1, b_add, b_sub, b_mul, b_div, b_mod, b_pow, b_shl, b_shr, b_and, b_or, b_xor, c_eq, c_ne, c_lt, c_le, c_gt, c_ge, c_is, c_isn, c_in, c_nin, a_add, a_sub, p_add, p_sub, p_mul, p_div, p_mod, p_pow, p_shr, p_and2, p_neg, p_bits, p_lt, p_le, p_gt, p_ge, p_eqi, p_nei, p_eqs, p_nes, p_eqb, p_isn, p_isnn, t_bl, t_int, len_tup, bi_int, bi_intb, bi_abs, bi_lstT, wIx_l, wIx_f, wIx_d, wIx_t, wSq_l, wSq_f, wMl_l, wLs_l, wLs_f, wLs_d, wDk_d, wSt_l, wSt_d, wSt_t, wDl_d, wDl_t, rcvO_l, rcvO_f, rcvO_d, rcvO_t, tnO_l, tnO_f, tnO_d, tnO_t, lstO_l, lstO_f, keyV_i, keyV_s, q_ix, q_ixT, q_ixK, q_set, q_len, q_list, q_dict, q_tuple, q_it, q_itT, q_itK, q_itS, q_r1, q_r2, q_addL, q_addT, q_in, q_nin, q_eq, q_ne, eqB_i, eqB_s, eqB_b, q_slL, q_slT, q_tr, q_rcv, q_tn, tn_i, tn_b, tn_n, tn_s, tn_t, tn_k, me_app, me_pop, me_rev, me_clr, me_ins, me_idx, me_get, me_sd, q_app, q_rev, q_clr, q_pop, q_get1, q_get2, q_idx, at0, at1, at2, at3, ix0, ix1, ix2, ix3, atk, ls_len, ha_new, la_new, k_at, k_at2, k_bin2, k_bin1, k_neg, k_bits, k_not2, k_not1, k_and2, k_and1, k_or2, k_or1, k_cmp2, k_cmp1, k_ch4, k_ch3, k_ch2, k_ch1, k_ite, k_call, k_ck2, k_ck1, k_eqd2, k_eqd1, k_mk3, k_mk2, k_mk1, k_mo3, k_mo2, k_mo1, k_bi, k_isi2, k_isi, k_me4, k_me3, k_me2, k_me1, k_attr, k_tup, k_lst, k_ix2, k_ix1, k_sl3, k_sl2, k_sl1, k_oi2, k_oi, k_lc, k_l2, k_l1, k_tr, k_bl2, k_bl, k_tn, k_ta, k_to, k_it, k_r1, k_r2b, k_r2, k_un, k_gs2, k_gs1, k_gt, k_gc, k_xs, k_seq, k_ex, k_sif, k_set, k_st, k_par2, k_par, k_aug2, k_aug1, k_sa2, k_sa1, k_aa4, k_aa3, k_aa2, k_aa1, k_frl, k_try, k_rn, k_rx, k_re, List.getElem?_cons_zero, List.getElem?_cons_succ, List.set_cons_zero, List.set_cons_succ, List.length_cons, List.length_nil, decide_eq_true_eq, Bool.not_eq_true', decide_eq_false_iff_not, if_true, if_false, Bool.false_eq_true, reduceIte, List.cons_append, List.nil_append, List.map_cons, List.map_nil, Nat.reduceLeDiff, and_true, true_and, startE, List.replicate, List.length_singleton, List.append_nil, decide_true, decide_false, not_true_eq_false, not_false_eq_true, Int.natAbs_natCast, Int.toNat_natCast, List.length_map, Bool.not_true, Bool.not_false, reduceCtorEq, subTN, ne_eq, and_self, true_and, Nat.reduceSub, Nat.reduceAdd, wipeE]
    refine fm _ p g2 (by decide) (by decide) fun t2 h3 t20 t21 g3 => ?_
    simp only [show ¬ ((1 : Int) = 2) from by decide, show ¬ ((1 : Int) = 3) from by decide, ↓s1_seq, ↓s1_ite, ↓s1_skip, ↓t1_cmp, ↓e1_cmp, ↓e1_var, ↓e1_int, k_cmp1, k_cmp2, k_at, k_bl, k_bl2, k_sif, k_seq, k_set, c_eq, p_eqi, wR_ok, wBl_bl, wV_some, List.set_cons_zero, List.set_cons_succ, List.getElem?_cons_zero, List.getElem?_cons_succ, decide_false, if_false, Bool.false_eq_true]
    have := fin (some (.int 1)) none t2 h3 g3 t20 (by omega) (fun _ => by omega)
    simp only [↓s1_seq, ↓s1_ite, ↓t1_cmp, ↓e1_cmp] at this
    exact this
  · by_cases c2 : sz = 2
    · subst c2
      simp only [dvN, show ¬ ((2 : Int) = 1) from by decide, show ¬ ((2 : Int) = 3) from by decide, ↓e1_var, ↓e1_int, ↓e1_str, ↓e1_bl, ↓e1_non, ↓e1_glob, ↓e1_bin, ↓e1_neg, ↓e1_bitl, ↓e1_not, ↓e1_and, ↓e1_or, ↓e1_cmp, ↓e1_chain, ↓e1_ite, ↓e1_call, ↓e1_callK, ↓e1_eqd, ↓e1_make, ↓e1_meO, ↓e1_bi, ↓e1_isi, ↓e1_meth, ↓e1_attr, ↓e1_tup, ↓e1_lst, ↓e1_dict, ↓e1_dictT, ↓e1_ix, ↓e1_sl, ↓o1_nil, ↓o1_cons, ↓e1_lc, ↓l1_nil, ↓l1_cons, ↓t1_cmp, ↓t1_chain, ↓t1_eqd, ↓t1_not, ↓t1_and, ↓t1_or, ↓c1_nil, ↓c1_cons, ↓i1_val, ↓i1_r1, ↓i1_r2, ↓g1_nm, ↓g1_sub, ↓g1_tup, ↓gs1_nil, ↓gs1_cons, ↓s1_skip, ↓s1_seq, ↓s1_ret, ↓s1_retN, ↓s1_expr, ↓s1_ite, ↓s1_brk, ↓s1_cont, ↓s1_bad, ↓s1_set, ↓s1_setT, ↓s1_par, ↓s1_aug, ↓s1_sattr, ↓s1_aattr, ↓s1_raise0, ↓s1_tryO, ↓s1_tryA, ↓s1_whl, ↓s1_frl, ↓t2_var, ↓t2_bl, ↓t2_ix, ↓t2_call, ↓t2_callK, ↓t2_meO, ↓t2_bi, ↓t2_isi, ↓t2_meth, ↓t2_attr, ↓t2_bin, wR_ok, wR_bad, wR_ite, wV_some, wV_none, wV_no, wBl_bl, wBl_int, wOp_some, wOp_none, wInt_int, wTwo_two, dnF_P, dnF_m, dnF_call, dnF_call1, b_add, b_sub, b_mul, b_div, b_mod, b_pow, b_shl, b_shr, b_and, b_or, b_xor, c_eq, c_ne, c_lt, c_le, c_gt, c_ge, c_is, c_isn, c_in, c_nin, a_add, a_sub, p_add, p_sub, p_mul, p_div, p_mod, p_pow, p_shr, p_and2, p_neg, p_bits, p_lt, p_le, p_gt, p_ge, p_eqi, p_nei, p_eqs, p_nes, p_eqb, p_isn, p_isnn, t_bl, t_int, len_tup, bi_int, bi_intb, bi_abs, bi_lstT, wIx_l, wIx_f, wIx_d, wIx_t, wSq_l, wSq_f, wMl_l, wLs_l, wLs_f, wLs_d, wDk_d, wSt_l, wSt_d, wSt_t, wDl_d, wDl_t, rcvO_l, rcvO_f, rcvO_d, rcvO_t, tnO_l, tnO_f, tnO_d, tnO_t, lstO_l, lstO_f, keyV_i, keyV_s, q_ix, q_ixT, q_ixK, q_set, q_len, q_list, q_dict, q_tuple, q_it, q_itT, q_itK, q_itS, q_r1, q_r2, q_addL, q_addT, q_in, q_nin, q_eq, q_ne, eqB_i, eqB_s, eqB_b, q_slL, q_slT, q_tr, q_rcv, q_tn, tn_i, tn_b, tn_n, tn_s, tn_t, tn_k, me_app, me_pop, me_rev, me_clr, me_ins, me_idx, me_get, me_sd, q_app, q_rev, q_clr, q_pop, q_get1, q_get2, q_idx, at0, at1, at2, at3, ix0, ix1, ix2, ix3, atk, ls_len, ha_new, la_new, k_at, k_at2, k_bin2, k_bin1, k_neg, k_bits, k_not2, k_not1, k_and2, k_and1, k_or2, k_or1, k_cmp2, k_cmp1, k_ch4, k_ch3, k_ch2, k_ch1, k_ite, k_call, k_ck2, k_ck1, k_eqd2, k_eqd1, k_mk3, k_mk2, k_mk1, k_mo3, k_mo2, k_mo1, k_bi, k_isi2, k_isi, k_me4, k_me3, k_me2, k_me1, k_attr, k_tup, k_lst, k_ix2, k_ix1, k_sl3, k_sl2, k_sl1, k_oi2, k_oi, k_lc, k_l2, k_l1, k_tr, k_bl2, k_bl, k_tn, k_ta, k_to, k_it, k_r1, k_r2b, k_r2, k_un, k_gs2, k_gs1, k_gt, k_gc, k_xs, k_seq, k_ex, k_sif, k_set, k_st, k_par2, k_par, k_aug2, k_aug1, k_sa2, k_sa1, k_aa4, k_aa3, k_aa2, k_aa1, k_frl, k_try, k_rn, k_rx, k_re, List.getElem?_cons_zero, List.getElem?_cons_succ, List.set_cons_zero, List.set_cons_succ, List.length_cons, List.length_nil, decide_eq_true_eq, Bool.not_eq_true', decide_eq_false_iff_not, if_true, if_false, Bool.false_eq_true, reduceIte, List.cons_append, List.nil_append, List.map_cons, List.map_nil, Nat.reduceLeDiff, and_true, true_and, startE, List.replicate, List.length_singleton, List.append_nil, decide_true, decide_false, not_true_eq_false, not_false_eq_true, Int.natAbs_natCast, Int.toNat_natCast, List.length_map, Bool.not_true, Bool.not_false, reduceCtorEq, subTN, ne_eq, and_self, true_and, Nat.reduceSub, Nat.reduceAdd, wipeE]
      refine fm _ p g2 (by decide) (by decide) fun t2 h3 t20 t21 g3 => ?_
      simp only [show ¬ ((2 : Int) = 1) from by decide, show ¬ ((2 : Int) = 3) from by decide, ↓s1_seq, ↓s1_ite, ↓s1_skip, ↓t1_cmp, ↓e1_cmp, ↓e1_var, ↓e1_int, k_cmp1, k_cmp2, k_at, k_bl, k_bl2, k_sif, k_seq, k_set, c_eq, p_eqi, wR_ok, wBl_bl, wV_some, List.set_cons_zero, List.set_cons_succ, List.getElem?_cons_zero, List.getElem?_cons_succ, decide_false, if_false, Bool.false_eq_true]
      have := fin (some (.int 2)) none t2 h3 g3 t20 (by omega) (fun _ => by omega)
      simp only [↓s1_seq, ↓s1_ite, ↓t1_cmp, ↓e1_cmp] at this
      exact this
    · by_cases c3 : sz = 3
      · subst c3
        have l60 : pc.natAbs < 2 ^ 60 := by omega
        simp only [dvN, l60, show ¬ ((3 : Int) = 1) from by decide, show ¬ ((3 : Int) = 2) from by decide, ↓e1_var, ↓e1_int, ↓e1_str, ↓e1_bl, ↓e1_non, ↓e1_glob, ↓e1_bin, ↓e1_neg, ↓e1_bitl, ↓e1_not, ↓e1_and, ↓e1_or, ↓e1_cmp, ↓e1_chain, ↓e1_ite, ↓e1_call, ↓e1_callK, ↓e1_eqd, ↓e1_make, ↓e1_meO, ↓e1_bi, ↓e1_isi, ↓e1_meth, ↓e1_attr, ↓e1_tup, ↓e1_lst, ↓e1_dict, ↓e1_dictT, ↓e1_ix, ↓e1_sl, ↓o1_nil, ↓o1_cons, ↓e1_lc, ↓l1_nil, ↓l1_cons, ↓t1_cmp, ↓t1_chain, ↓t1_eqd, ↓t1_not, ↓t1_and, ↓t1_or, ↓c1_nil, ↓c1_cons, ↓i1_val, ↓i1_r1, ↓i1_r2, ↓g1_nm, ↓g1_sub, ↓g1_tup, ↓gs1_nil, ↓gs1_cons, ↓s1_skip, ↓s1_seq, ↓s1_ret, ↓s1_retN, ↓s1_expr, ↓s1_ite, ↓s1_brk, ↓s1_cont, ↓s1_bad, ↓s1_set, ↓s1_setT, ↓s1_par, ↓s1_aug, ↓s1_sattr, ↓s1_aattr, ↓s1_raise0, ↓s1_tryO, ↓s1_tryA, ↓s1_whl, ↓s1_frl, ↓t2_var, ↓t2_bl, ↓t2_ix, ↓t2_call, ↓t2_callK, ↓t2_meO, ↓t2_bi, ↓t2_isi, ↓t2_meth, ↓t2_attr, ↓t2_bin, wR_ok, wR_bad, wR_ite, wV_some, wV_none, wV_no, wBl_bl, wBl_int, wOp_some, wOp_none, wInt_int, wTwo_two, dnF_P, dnF_m, dnF_call, dnF_call1, b_add, b_sub, b_mul, b_div, b_mod, b_pow, b_shl, b_shr, b_and, b_or, b_xor, c_eq, c_ne, c_lt, c_le, c_gt, c_ge, c_is, c_isn, c_in, c_nin, a_add, a_sub, p_add, p_sub, p_mul, p_div, p_mod, p_pow, p_shr, p_and2, p_neg, p_bits, p_lt, p_le, p_gt, p_ge, p_eqi, p_nei, p_eqs, p_nes, p_eqb, p_isn, p_isnn, t_bl, t_int, len_tup, bi_int, bi_intb, bi_abs, bi_lstT, wIx_l, wIx_f, wIx_d, wIx_t, wSq_l, wSq_f, wMl_l, wLs_l, wLs_f, wLs_d, wDk_d, wSt_l, wSt_d, wSt_t, wDl_d, wDl_t, rcvO_l, rcvO_f, rcvO_d, rcvO_t, tnO_l, tnO_f, tnO_d, tnO_t, lstO_l, lstO_f, keyV_i, keyV_s, q_ix, q_ixT, q_ixK, q_set, q_len, q_list, q_dict, q_tuple, q_it, q_itT, q_itK, q_itS, q_r1, q_r2, q_addL, q_addT, q_in, q_nin, q_eq, q_ne, eqB_i, eqB_s, eqB_b, q_slL, q_slT, q_tr, q_rcv, q_tn, tn_i, tn_b, tn_n, tn_s, tn_t, tn_k, me_app, me_pop, me_rev, me_clr, me_ins, me_idx, me_get, me_sd, q_app, q_rev, q_clr, q_pop, q_get1, q_get2, q_idx, at0, at1, at2, at3, ix0, ix1, ix2, ix3, atk, ls_len, ha_new, la_new, k_at, k_at2, k_bin2, k_bin1, k_neg, k_bits, k_not2, k_not1, k_and2, k_and1, k_or2, k_or1, k_cmp2, k_cmp1, k_ch4, k_ch3, k_ch2, k_ch1, k_ite, k_call, k_ck2, k_ck1, k_eqd2, k_eqd1, k_mk3, k_mk2, k_mk1, k_mo3, k_mo2, k_mo1, k_bi, k_isi2, k_isi, k_me4, k_me3, k_me2, k_me1, k_attr, k_tup, k_lst, k_ix2, k_ix1, k_sl3, k_sl2, k_sl1, k_oi2, k_oi, k_lc, k_l2, k_l1, k_tr, k_bl2, k_bl, k_tn, k_ta, k_to, k_it, k_r1, k_r2b, k_r2, k_un, k_gs2, k_gs1, k_gt, k_gc, k_xs, k_seq, k_ex, k_sif, k_set, k_st, k_par2, k_par, k_aug2, k_aug1, k_sa2, k_sa1, k_aa4, k_aa3, k_aa2, k_aa1, k_frl, k_try, k_rn, k_rx, k_re, List.getElem?_cons_zero, List.getElem?_cons_succ, List.set_cons_zero, List.set_cons_succ, List.length_cons, List.length_nil, decide_eq_true_eq, Bool.not_eq_true', decide_eq_false_iff_not, if_true, if_false, Bool.false_eq_true, reduceIte, List.cons_append, List.nil_append, List.map_cons, List.map_nil, Nat.reduceLeDiff, and_true, true_and, startE, List.replicate, List.length_singleton, List.append_nil, decide_true, decide_false, not_true_eq_false, not_false_eq_true, Int.natAbs_natCast, Int.toNat_natCast, List.length_map, Bool.not_true, Bool.not_false, reduceCtorEq, subTN, ne_eq, and_self, true_and, Nat.reduceSub, Nat.reduceAdd, wipeE]
        refine for_w pc.toNat (fun i en hh => Grow p h hh ∧ ∃ (x4 : Option PV) (t : Int), 0 ≤ t ∧ t < 10 ^ (6 * i) ∧ en = [some (.ref p), some (.int pc), some (.int 3), some (.int t), x4]) (by omega) ⟨g2, _, 0, by decide, by decide, rfl⟩ ?_ ?_
        · rintro en hh ⟨g3, x4, t2, t20, t21, rfl⟩
          refine ⟨itR_end, ?_⟩
          have b18 : t2 < 10 ^ 18 := by
            have : (10 : Int) ^ (6 * pc.toNat) ≤ 10 ^ 18 := pow10 (by omega)
            omega
          have b12 : pc ≤ 2 → t2 < 10 ^ 12 := fun z => by
            have : (10 : Int) ^ (6 * pc.toNat) ≤ 10 ^ 12 := pow10 (by omega)
            omega
          have := fin (some (.int 3)) x4 t2 hh g3 t20 b18 b12
          simp only [↓s1_skip, k_seq]
          exact this
        · rintro i en hh hi ⟨g3, x4, t2, t20, t21, rfl⟩
          refine ⟨.int (0 + i), itR_at hi, ?_⟩
          have m : mulOk t2 1000000 = True := mul_r (by decide)
          simp only [dvN, m, ↓e1_var, ↓e1_int, ↓e1_str, ↓e1_bl, ↓e1_non, ↓e1_glob, ↓e1_bin, ↓e1_neg, ↓e1_bitl, ↓e1_not, ↓e1_and, ↓e1_or, ↓e1_cmp, ↓e1_chain, ↓e1_ite, ↓e1_call, ↓e1_callK, ↓e1_eqd, ↓e1_make, ↓e1_meO, ↓e1_bi, ↓e1_isi, ↓e1_meth, ↓e1_attr, ↓e1_tup, ↓e1_lst, ↓e1_dict, ↓e1_dictT, ↓e1_ix, ↓e1_sl, ↓o1_nil, ↓o1_cons, ↓e1_lc, ↓l1_nil, ↓l1_cons, ↓t1_cmp, ↓t1_chain, ↓t1_eqd, ↓t1_not, ↓t1_and, ↓t1_or, ↓c1_nil, ↓c1_cons, ↓i1_val, ↓i1_r1, ↓i1_r2, ↓g1_nm, ↓g1_sub, ↓g1_tup, ↓gs1_nil, ↓gs1_cons, ↓s1_skip, ↓s1_seq, ↓s1_ret, ↓s1_retN, ↓s1_expr, ↓s1_ite, ↓s1_brk, ↓s1_cont, ↓s1_bad, ↓s1_set, ↓s1_setT, ↓s1_par, ↓s1_aug, ↓s1_sattr, ↓s1_aattr, ↓s1_raise0, ↓s1_tryO, ↓s1_tryA, ↓s1_whl, ↓s1_frl, ↓t2_var, ↓t2_bl, ↓t2_ix, ↓t2_call, ↓t2_callK, ↓t2_meO, ↓t2_bi, ↓t2_isi, ↓t2_meth, ↓t2_attr, ↓t2_bin, wR_ok, wR_bad, wR_ite, wV_some, wV_none, wV_no, wBl_bl, wBl_int, wOp_some, wOp_none, wInt_int, wTwo_two, dnF_P, dnF_m, dnF_call, dnF_call1, b_add, b_sub, b_mul, b_div, b_mod, b_pow, b_shl, b_shr, b_and, b_or, b_xor, c_eq, c_ne, c_lt, c_le, c_gt, c_ge, c_is, c_isn, c_in, c_nin, a_add, a_sub, p_add, p_sub, p_mul, p_div, p_mod, p_pow, p_shr, p_and2, p_neg, p_bits, p_lt, p_le, p_gt, p_ge, p_eqi, p_nei, p_eqs, p_nes, p_eqb, p_isn, p_isnn, t_bl, t_int, len_tup, bi_int, bi_intb, bi_abs, bi_lstT, wIx_l, wIx_f, wIx_d, wIx_t, wSq_l, wSq_f, wMl_l, wLs_l, wLs_f, wLs_d, wDk_d, wSt_l, wSt_d, wSt_t, wDl_d, wDl_t, rcvO_l, rcvO_f, rcvO_d, rcvO_t, tnO_l, tnO_f, tnO_d, tnO_t, lstO_l, lstO_f, keyV_i, keyV_s, q_ix, q_ixT, q_ixK, q_set, q_len, q_list, q_dict, q_tuple, q_it, q_itT, q_itK, q_itS, q_r1, q_r2, q_addL, q_addT, q_in, q_nin, q_eq, q_ne, eqB_i, eqB_s, eqB_b, q_slL, q_slT, q_tr, q_rcv, q_tn, tn_i, tn_b, tn_n, tn_s, tn_t, tn_k, me_app, me_pop, me_rev, me_clr, me_ins, me_idx, me_get, me_sd, q_app, q_rev, q_clr, q_pop, q_get1, q_get2, q_idx, at0, at1, at2, at3, ix0, ix1, ix2, ix3, atk, ls_len, ha_new, la_new, k_at, k_at2, k_bin2, k_bin1, k_neg, k_bits, k_not2, k_not1, k_and2, k_and1, k_or2, k_or1, k_cmp2, k_cmp1, k_ch4, k_ch3, k_ch2, k_ch1, k_ite, k_call, k_ck2, k_ck1, k_eqd2, k_eqd1, k_mk3, k_mk2, k_mk1, k_mo3, k_mo2, k_mo1, k_bi, k_isi2, k_isi, k_me4, k_me3, k_me2, k_me1, k_attr, k_tup, k_lst, k_ix2, k_ix1, k_sl3, k_sl2, k_sl1, k_oi2, k_oi, k_lc, k_l2, k_l1, k_tr, k_bl2, k_bl, k_tn, k_ta, k_to, k_it, k_r1, k_r2b, k_r2, k_un, k_gs2, k_gs1, k_gt, k_gc, k_xs, k_seq, k_ex, k_sif, k_set, k_st, k_par2, k_par, k_aug2, k_aug1, k_sa2, k_sa1, k_aa4, k_aa3, k_aa2, k_aa1, k_frl, k_try, k_rn, k_rx, k_re, List.getElem?_cons_zero, List.getElem?_cons_succ, List.set_cons_zero, List.set_cons_succ, List.length_cons, List.length_nil, decide_eq_true_eq, Bool.not_eq_true', decide_eq_false_iff_not, if_true, if_false, Bool.false_eq_true, reduceIte, List.cons_append, List.nil_append, List.map_cons, List.map_nil, Nat.reduceLeDiff, and_true, true_and, startE, List.replicate, List.length_singleton, List.append_nil, decide_true, decide_false, not_true_eq_false, not_false_eq_true, Int.natAbs_natCast, Int.toNat_natCast, List.length_map, Bool.not_true, Bool.not_false, reduceCtorEq, subTN, ne_eq, and_self, true_and, Nat.reduceSub, Nat.reduceAdd, wipeE]
          refine fm _ p g3 (by decide) (by decide) fun r h3 r0 r1 g4 => ?_
          simp only [↓e1_var, ↓e1_int, ↓e1_str, ↓e1_bl, ↓e1_non, ↓e1_glob, ↓e1_bin, ↓e1_neg, ↓e1_bitl, ↓e1_not, ↓e1_and, ↓e1_or, ↓e1_cmp, ↓e1_chain, ↓e1_ite, ↓e1_call, ↓e1_callK, ↓e1_eqd, ↓e1_make, ↓e1_meO, ↓e1_bi, ↓e1_isi, ↓e1_meth, ↓e1_attr, ↓e1_tup, ↓e1_lst, ↓e1_dict, ↓e1_dictT, ↓e1_ix, ↓e1_sl, ↓o1_nil, ↓o1_cons, ↓e1_lc, ↓l1_nil, ↓l1_cons, ↓t1_cmp, ↓t1_chain, ↓t1_eqd, ↓t1_not, ↓t1_and, ↓t1_or, ↓c1_nil, ↓c1_cons, ↓i1_val, ↓i1_r1, ↓i1_r2, ↓g1_nm, ↓g1_sub, ↓g1_tup, ↓gs1_nil, ↓gs1_cons, ↓s1_skip, ↓s1_seq, ↓s1_ret, ↓s1_retN, ↓s1_expr, ↓s1_ite, ↓s1_brk, ↓s1_cont, ↓s1_bad, ↓s1_set, ↓s1_setT, ↓s1_par, ↓s1_aug, ↓s1_sattr, ↓s1_aattr, ↓s1_raise0, ↓s1_tryO, ↓s1_tryA, ↓s1_whl, ↓s1_frl, ↓t2_var, ↓t2_bl, ↓t2_ix, ↓t2_call, ↓t2_callK, ↓t2_meO, ↓t2_bi, ↓t2_isi, ↓t2_meth, ↓t2_attr, ↓t2_bin, wR_ok, wR_bad, wR_ite, wV_some, wV_none, wV_no, wBl_bl, wBl_int, wOp_some, wOp_none, wInt_int, wTwo_two, dnF_P, dnF_m, dnF_call, dnF_call1, b_add, b_sub, b_mul, b_div, b_mod, b_pow, b_shl, b_shr, b_and, b_or, b_xor, c_eq, c_ne, c_lt, c_le, c_gt, c_ge, c_is, c_isn, c_in, c_nin, a_add, a_sub, p_add, p_sub, p_mul, p_div, p_mod, p_pow, p_shr, p_and2, p_neg, p_bits, p_lt, p_le, p_gt, p_ge, p_eqi, p_nei, p_eqs, p_nes, p_eqb, p_isn, p_isnn, t_bl, t_int, len_tup, bi_int, bi_intb, bi_abs, bi_lstT, wIx_l, wIx_f, wIx_d, wIx_t, wSq_l, wSq_f, wMl_l, wLs_l, wLs_f, wLs_d, wDk_d, wSt_l, wSt_d, wSt_t, wDl_d, wDl_t, rcvO_l, rcvO_f, rcvO_d, rcvO_t, tnO_l, tnO_f, tnO_d, tnO_t, lstO_l, lstO_f, keyV_i, keyV_s, q_ix, q_ixT, q_ixK, q_set, q_len, q_list, q_dict, q_tuple, q_it, q_itT, q_itK, q_itS, q_r1, q_r2, q_addL, q_addT, q_in, q_nin, q_eq, q_ne, eqB_i, eqB_s, eqB_b, q_slL, q_slT, q_tr, q_rcv, q_tn, tn_i, tn_b, tn_n, tn_s, tn_t, tn_k, me_app, me_pop, me_rev, me_clr, me_ins, me_idx, me_get, me_sd, q_app, q_rev, q_clr, q_pop, q_get1, q_get2, q_idx, at0, at1, at2, at3, ix0, ix1, ix2, ix3, atk, ls_len, ha_new, la_new, k_at, k_at2, k_bin2, k_bin1, k_neg, k_bits, k_not2, k_not1, k_and2, k_and1, k_or2, k_or1, k_cmp2, k_cmp1, k_ch4, k_ch3, k_ch2, k_ch1, k_ite, k_call, k_ck2, k_ck1, k_eqd2, k_eqd1, k_mk3, k_mk2, k_mk1, k_mo3, k_mo2, k_mo1, k_bi, k_isi2, k_isi, k_me4, k_me3, k_me2, k_me1, k_attr, k_tup, k_lst, k_ix2, k_ix1, k_sl3, k_sl2, k_sl1, k_oi2, k_oi, k_lc, k_l2, k_l1, k_tr, k_bl2, k_bl, k_tn, k_ta, k_to, k_it, k_r1, k_r2b, k_r2, k_un, k_gs2, k_gs1, k_gt, k_gc, k_xs, k_seq, k_ex, k_sif, k_set, k_st, k_par2, k_par, k_aug2, k_aug1, k_sa2, k_sa1, k_aa4, k_aa3, k_aa2, k_aa1, k_frl, k_try, k_rn, k_rx, k_re, List.getElem?_cons_zero, List.getElem?_cons_succ, List.set_cons_zero, List.set_cons_succ, List.length_cons, List.length_nil, decide_eq_true_eq, Bool.not_eq_true', decide_eq_false_iff_not, if_true, if_false, Bool.false_eq_true, reduceIte, List.cons_append, List.nil_append, List.map_cons, List.map_nil, Nat.reduceLeDiff, and_true, true_and, startE, List.replicate, List.length_singleton, List.append_nil, decide_true, decide_false, not_true_eq_false, not_false_eq_true, Int.natAbs_natCast, Int.toNat_natCast, List.length_map, Bool.not_true, Bool.not_false, reduceCtorEq, subTN, ne_eq, and_self, true_and, Nat.reduceSub, Nat.reduceAdd, wipeE]
          refine ⟨g4, _, _, by omega, ?_, rfl⟩
          rw [show 6 * (i + 1) = 6 * i + 6 from by omega, Int.pow_add]
          omega
      · simp only [c1, c2, c3, ↓s1_seq, ↓s1_ite, ↓s1_skip, ↓t1_cmp, ↓e1_cmp, ↓e1_var, ↓e1_int, k_cmp1, k_cmp2, k_at, k_bl, k_bl2, k_sif, k_seq, k_set, c_eq, p_eqi, wR_ok, wBl_bl, wV_some, List.set_cons_zero, List.set_cons_succ, List.getElem?_cons_zero, List.getElem?_cons_succ, decide_false, if_false, Bool.false_eq_true]
        have := fin (some (.int sz)) none t h2 g2 t0 (by omega) (fun _ => by omega)
        simp only [↓s1_seq, ↓s1_ite, ↓t1_cmp, ↓e1_cmp] at this
        exact this
end RL

set_option Elab.async false
set_option linter.all false
set_option maxRecDepth 100000
set_option maxHeartbeats 1000000
set_option autoImplicit false
namespace RL
open RS
theorem bi_max2 {i j : Int} {h : Hm} : bi .max [.int i, .int j] h = .ok (.int (if j > i then j else i)) h := rfl
theorem bi_min2 {i j : Int} {h : Hm} : bi .min [.int i, .int j] h = .ok (.int (if j < i then j else i)) h := rfl
theorem sized_g (k p : Nat) {pc : Int} {h h0 : Hm} {P : PV → Hm → Prop} {X : Ex → Hm → Prop} (g : Grow p h0 h) (p0 : 0 ≤ pc) (p3 : pc ≤ 3) (c : ∀ x h2, Grow p h0 h2 → Sz 60 x → (pc ≤ 2 → Sz 40 x) → P (.int x) h2) : wR (callF fbs pg 100000 (k+3) 4 [.ref p, .int pc] h) P X := by
  obtain ⟨o, ho, hp⟩ := g.pool
  exact wR.mono (sized_ok k p pc h o hp ho p0 p3) (fun v h2 ⟨g2, x, e, s1, s2⟩ => by subst e; exact c x h2 (g.trans g2) s1 s2) fun _ _ z => False.elim z
theorem max1 (x : Int) {n : Nat} (s : Sz n x) (hn : 1 ≤ n) : 1 ≤ (if (if x < 0 then -x else x) > 1 then (if x < 0 then -x else x) else 1) ∧ Sz n (if (if x < 0 then -x else x) > 1 then (if x < 0 then -x else x) else 1) := by
  have h1 : 1 < 2 ^ n := Nat.one_lt_two_pow (by omega)
  unfold Sz at *
  generalize 2 ^ n = N at *
  split <;> split <;> constructor <;> omega
end RL

set_option Elab.async false
set_option linter.all false
set_option maxRecDepth 100000
set_option maxHeartbeats 1000000
set_option autoImplicit false
namespace RL
open RS
theorem dvR1 : pg.dv 0 1 = [.int 1] := rfl
theorem common_ok (k : Nat) (p q : Int) (h : Hm) (bq : q.natAbs < 2 ^ 4000) : callF fbs pg 100000 (k+2) 7 [.int p, .int q] h = .ok (.int (Int.gcd p q : Int)) h := by
  apply wR_eq
  rw [callF_at (fi := ⟨3, b7⟩) (fd := ⟨"_law_common", true, ps7, []⟩) (k) rfl rfl rfl, wR_ret]; show wS (dnF fbs pg 100000 (k)) b7 _ _ _ _ _ _ _
  have ea : (if p < 0 then -p else p) = ((p.natAbs : Nat) : Int) := by split <;> omega
  have eb : (if q < 0 then -q else q) = ((q.natAbs : Nat) : Int) := by split <;> omega
  have hN : PySem.Builtin.Int.intBits ((q.natAbs : Nat) : Int) ≤ 4000 := by
    unfold PySem.Builtin.Int.intBits
    split
    · omega
    · have := PySem.Flt.log2_lt_of (by decide : 0 < 4000) (show (((q.natAbs : Nat) : Int)).natAbs < 2 ^ 4000 by rw [Int.natAbs_natCast]; exact bq)
      omega
  have hb : q.natAbs < 2 ^ (PySem.Builtin.Int.intBits ((q.natAbs : Nat) : Int)) := by
    by_cases z : q.natAbs = 0
    · rw [z]; exact Nat.two_pow_pos _
    · exact bits_lt q.natAbs (by omega)
  generalize hn : PySem.Builtin.Int.intBits ((q.natAbs : Nat) : Int) = N at hN hb
  have m2 : mulOk 2 (N : Int) = True := mul_l (by decide)
  have e2 : ((2 : Int) * (N : Int) + 5) = ((2 * N + 5 : Nat) : Int) := by omega
  have l60 : 2 * N + 5 < 2 ^ 60 := by omega
  simp only [b7, ea, eb, hn, m2, e2, l60, ↓e1_var, ↓e1_int, ↓e1_str, ↓e1_bl, ↓e1_non, ↓e1_glob, ↓e1_bin, ↓e1_neg, ↓e1_bitl, ↓e1_not, ↓e1_and, ↓e1_or, ↓e1_cmp, ↓e1_chain, ↓e1_ite, ↓e1_call, ↓e1_callK, ↓e1_eqd, ↓e1_make, ↓e1_meO, ↓e1_bi, ↓e1_isi, ↓e1_meth, ↓e1_attr, ↓e1_tup, ↓e1_lst, ↓e1_dict, ↓e1_dictT, ↓e1_ix, ↓e1_sl, ↓o1_nil, ↓o1_cons, ↓e1_lc, ↓l1_nil, ↓l1_cons, ↓t1_cmp, ↓t1_chain, ↓t1_eqd, ↓t1_not, ↓t1_and, ↓t1_or, ↓c1_nil, ↓c1_cons, ↓i1_val, ↓i1_r1, ↓i1_r2, ↓g1_nm, ↓g1_sub, ↓g1_tup, ↓gs1_nil, ↓gs1_cons, ↓s1_skip, ↓s1_seq, ↓s1_ret, ↓s1_retN, ↓s1_expr, ↓s1_ite, ↓s1_brk, ↓s1_cont, ↓s1_bad, ↓s1_set, ↓s1_setT, ↓s1_par, ↓s1_aug, ↓s1_sattr, ↓s1_aattr, ↓s1_raise0, ↓s1_tryO, ↓s1_tryA, ↓s1_whl, ↓s1_frl, ↓t2_var, ↓t2_bl, ↓t2_ix, ↓t2_call, ↓t2_callK, ↓t2_meO, ↓t2_bi, ↓t2_isi, ↓t2_meth, ↓t2_attr, ↓t2_bin, wR_ok, wR_bad, wR_ite, wV_some, wV_none, wV_no, wBl_bl, wBl_int, wOp_some, wOp_none, wInt_int, wTwo_two, dnF_P, dnF_m, dnF_call, dnF_call1, b_add, b_sub, b_mul, b_div, b_mod, b_pow, b_shl, b_shr, b_and, b_or, b_xor, c_eq, c_ne, c_lt, c_le, c_gt, c_ge, c_is, c_isn, c_in, c_nin, a_add, a_sub, p_add, p_sub, p_mul, p_div, p_mod, p_pow, p_shr, p_and2, p_neg, p_bits, p_lt, p_le, p_gt, p_ge, p_eqi, p_nei, p_eqs, p_nes, p_eqb, p_isn, p_isnn, t_bl, t_int, len_tup, bi_int, bi_intb, bi_abs, bi_lstT, wIx_l, wIx_f, wIx_d, wIx_t, wSq_l, wSq_f, wMl_l, wLs_l, wLs_f, wLs_d, wDk_d, wSt_l, wSt_d, wSt_t, wDl_d, wDl_t, rcvO_l, rcvO_f, rcvO_d, rcvO_t, tnO_l, tnO_f, tnO_d, tnO_t, lstO_l, lstO_f, keyV_i, keyV_s, q_ix, q_ixT, q_ixK, q_set, q_len, q_list, q_dict, q_tuple, q_it, q_itT, q_itK, q_itS, q_r1, q_r2, q_addL, q_addT, q_in, q_nin, q_eq, q_ne, eqB_i, eqB_s, eqB_b, q_slL, q_slT, q_tr, q_rcv, q_tn, tn_i, tn_b, tn_n, tn_s, tn_t, tn_k, me_app, me_pop, me_rev, me_clr, me_ins, me_idx, me_get, me_sd, q_app, q_rev, q_clr, q_pop, q_get1, q_get2, q_idx, at0, at1, at2, at3, ix0, ix1, ix2, ix3, atk, ls_len, ha_new, la_new, k_at, k_at2, k_bin2, k_bin1, k_neg, k_bits, k_not2, k_not1, k_and2, k_and1, k_or2, k_or1, k_cmp2, k_cmp1, k_ch4, k_ch3, k_ch2, k_ch1, k_ite, k_call, k_ck2, k_ck1, k_eqd2, k_eqd1, k_mk3, k_mk2, k_mk1, k_mo3, k_mo2, k_mo1, k_bi, k_isi2, k_isi, k_me4, k_me3, k_me2, k_me1, k_attr, k_tup, k_lst, k_ix2, k_ix1, k_sl3, k_sl2, k_sl1, k_oi2, k_oi, k_lc, k_l2, k_l1, k_tr, k_bl2, k_bl, k_tn, k_ta, k_to, k_it, k_r1, k_r2b, k_r2, k_un, k_gs2, k_gs1, k_gt, k_gc, k_xs, k_seq, k_ex, k_sif, k_set, k_st, k_par2, k_par, k_aug2, k_aug1, k_sa2, k_sa1, k_aa4, k_aa3, k_aa2, k_aa1, k_frl, k_try, k_rn, k_rx, k_re, List.getElem?_cons_zero, List.getElem?_cons_succ, List.set_cons_zero, List.set_cons_succ, List.length_cons, List.length_nil, decide_eq_true_eq, Bool.not_eq_true', decide_eq_false_iff_not, if_true, if_false, Bool.false_eq_true, reduceIte, List.cons_append, List.nil_append, List.map_cons, List.map_nil, Nat.reduceLeDiff, and_true, true_and, startE, List.replicate, List.length_singleton, List.append_nil, decide_true, decide_false, not_true_eq_false, not_false_eq_true, Int.natAbs_natCast, Int.toNat_natCast, List.length_map, Bool.not_true, Bool.not_false, reduceCtorEq, subTN, ne_eq, and_self, true_and, Nat.reduceSub, Nat.reduceAdd, wipeE]
  have stop : ∀ i, (euc i p.natAbs q.natAbs).2 = 0 → (euc i p.natAbs q.natAbs).1 = Int.gcd p q := by
    intro i hi
    have := euc_gcd i p.natAbs q.natAbs
    rw [hi, Nat.gcd_zero_right] at this
    exact this
  refine for_w (2 * N + 5) (fun i en hh => hh = h ∧ ∃ x, en = [some (.int ((euc i p.natAbs q.natAbs).1 : Int)), some (.int ((euc i p.natAbs q.natAbs).2 : Int)), x]) (by omega) ⟨rfl, none, rfl⟩ ?_ ?_
  · rintro en hh ⟨rfl, x, rfl⟩
    refine ⟨itR_end, ?_⟩
    have z : (euc (2 * N + 5) p.natAbs q.natAbs).2 = 0 := by
      have h1 := euc_end N p.natAbs q.natAbs hb
      rw [euc_stop _ _ _ _ h1 (by omega)]; exact h1
    rw [stop _ z]
    simp only [↓e1_var, ↓e1_int, ↓e1_str, ↓e1_bl, ↓e1_non, ↓e1_glob, ↓e1_bin, ↓e1_neg, ↓e1_bitl, ↓e1_not, ↓e1_and, ↓e1_or, ↓e1_cmp, ↓e1_chain, ↓e1_ite, ↓e1_call, ↓e1_callK, ↓e1_eqd, ↓e1_make, ↓e1_meO, ↓e1_bi, ↓e1_isi, ↓e1_meth, ↓e1_attr, ↓e1_tup, ↓e1_lst, ↓e1_dict, ↓e1_dictT, ↓e1_ix, ↓e1_sl, ↓o1_nil, ↓o1_cons, ↓e1_lc, ↓l1_nil, ↓l1_cons, ↓t1_cmp, ↓t1_chain, ↓t1_eqd, ↓t1_not, ↓t1_and, ↓t1_or, ↓c1_nil, ↓c1_cons, ↓i1_val, ↓i1_r1, ↓i1_r2, ↓g1_nm, ↓g1_sub, ↓g1_tup, ↓gs1_nil, ↓gs1_cons, ↓s1_skip, ↓s1_seq, ↓s1_ret, ↓s1_retN, ↓s1_expr, ↓s1_ite, ↓s1_brk, ↓s1_cont, ↓s1_bad, ↓s1_set, ↓s1_setT, ↓s1_par, ↓s1_aug, ↓s1_sattr, ↓s1_aattr, ↓s1_raise0, ↓s1_tryO, ↓s1_tryA, ↓s1_whl, ↓s1_frl, ↓t2_var, ↓t2_bl, ↓t2_ix, ↓t2_call, ↓t2_callK, ↓t2_meO, ↓t2_bi, ↓t2_isi, ↓t2_meth, ↓t2_attr, ↓t2_bin, wR_ok, wR_bad, wR_ite, wV_some, wV_none, wV_no, wBl_bl, wBl_int, wOp_some, wOp_none, wInt_int, wTwo_two, dnF_P, dnF_m, dnF_call, dnF_call1, b_add, b_sub, b_mul, b_div, b_mod, b_pow, b_shl, b_shr, b_and, b_or, b_xor, c_eq, c_ne, c_lt, c_le, c_gt, c_ge, c_is, c_isn, c_in, c_nin, a_add, a_sub, p_add, p_sub, p_mul, p_div, p_mod, p_pow, p_shr, p_and2, p_neg, p_bits, p_lt, p_le, p_gt, p_ge, p_eqi, p_nei, p_eqs, p_nes, p_eqb, p_isn, p_isnn, t_bl, t_int, len_tup, bi_int, bi_intb, bi_abs, bi_lstT, wIx_l, wIx_f, wIx_d, wIx_t, wSq_l, wSq_f, wMl_l, wLs_l, wLs_f, wLs_d, wDk_d, wSt_l, wSt_d, wSt_t, wDl_d, wDl_t, rcvO_l, rcvO_f, rcvO_d, rcvO_t, tnO_l, tnO_f, tnO_d, tnO_t, lstO_l, lstO_f, keyV_i, keyV_s, q_ix, q_ixT, q_ixK, q_set, q_len, q_list, q_dict, q_tuple, q_it, q_itT, q_itK, q_itS, q_r1, q_r2, q_addL, q_addT, q_in, q_nin, q_eq, q_ne, eqB_i, eqB_s, eqB_b, q_slL, q_slT, q_tr, q_rcv, q_tn, tn_i, tn_b, tn_n, tn_s, tn_t, tn_k, me_app, me_pop, me_rev, me_clr, me_ins, me_idx, me_get, me_sd, q_app, q_rev, q_clr, q_pop, q_get1, q_get2, q_idx, at0, at1, at2, at3, ix0, ix1, ix2, ix3, atk, ls_len, ha_new, la_new, k_at, k_at2, k_bin2, k_bin1, k_neg, k_bits, k_not2, k_not1, k_and2, k_and1, k_or2, k_or1, k_cmp2, k_cmp1, k_ch4, k_ch3, k_ch2, k_ch1, k_ite, k_call, k_ck2, k_ck1, k_eqd2, k_eqd1, k_mk3, k_mk2, k_mk1, k_mo3, k_mo2, k_mo1, k_bi, k_isi2, k_isi, k_me4, k_me3, k_me2, k_me1, k_attr, k_tup, k_lst, k_ix2, k_ix1, k_sl3, k_sl2, k_sl1, k_oi2, k_oi, k_lc, k_l2, k_l1, k_tr, k_bl2, k_bl, k_tn, k_ta, k_to, k_it, k_r1, k_r2b, k_r2, k_un, k_gs2, k_gs1, k_gt, k_gc, k_xs, k_seq, k_ex, k_sif, k_set, k_st, k_par2, k_par, k_aug2, k_aug1, k_sa2, k_sa1, k_aa4, k_aa3, k_aa2, k_aa1, k_frl, k_try, k_rn, k_rx, k_re, List.getElem?_cons_zero, List.getElem?_cons_succ, List.set_cons_zero, List.set_cons_succ, List.length_cons, List.length_nil, decide_eq_true_eq, Bool.not_eq_true', decide_eq_false_iff_not, if_true, if_false, Bool.false_eq_true, reduceIte, List.cons_append, List.nil_append, List.map_cons, List.map_nil, Nat.reduceLeDiff, and_true, true_and, startE, List.replicate, List.length_singleton, List.append_nil, decide_true, decide_false, not_true_eq_false, not_false_eq_true, Int.natAbs_natCast, Int.toNat_natCast, List.length_map, Bool.not_true, Bool.not_false, reduceCtorEq, subTN, ne_eq, and_self, true_and, Nat.reduceSub, Nat.reduceAdd, wipeE]
  · rintro i en hh hi ⟨rfl, x, rfl⟩
    refine ⟨.int (0 + i), itR_at hi, ?_⟩
    by_cases z : (euc i p.natAbs q.natAbs).2 = 0
    · simp only [z, Int.natCast_zero, ↓g1_nm, ↓s1_seq, ↓s1_ite, ↓t1_cmp, ↓e1_cmp, ↓e1_var, ↓e1_int, k_cmp1, k_cmp2, k_at, k_bl, k_bl2, k_sif, k_seq, ↓s1_brk, c_eq, p_eqi, wR_ok, wBl_bl, wV_some, List.set_cons_zero, List.set_cons_succ, List.getElem?_cons_zero, List.getElem?_cons_succ, decide_true, if_true]
      rw [stop _ z]
      simp only [↓e1_var, ↓e1_int, ↓e1_str, ↓e1_bl, ↓e1_non, ↓e1_glob, ↓e1_bin, ↓e1_neg, ↓e1_bitl, ↓e1_not, ↓e1_and, ↓e1_or, ↓e1_cmp, ↓e1_chain, ↓e1_ite, ↓e1_call, ↓e1_callK, ↓e1_eqd, ↓e1_make, ↓e1_meO, ↓e1_bi, ↓e1_isi, ↓e1_meth, ↓e1_attr, ↓e1_tup, ↓e1_lst, ↓e1_dict, ↓e1_dictT, ↓e1_ix, ↓e1_sl, ↓o1_nil, ↓o1_cons, ↓e1_lc, ↓l1_nil, ↓l1_cons, ↓t1_cmp, ↓t1_chain, ↓t1_eqd, ↓t1_not, ↓t1_and, ↓t1_or, ↓c1_nil, ↓c1_cons, ↓i1_val, ↓i1_r1, ↓i1_r2, ↓g1_nm, ↓g1_sub, ↓g1_tup, ↓gs1_nil, ↓gs1_cons, ↓s1_skip, ↓s1_seq, ↓s1_ret, ↓s1_retN, ↓s1_expr, ↓s1_ite, ↓s1_brk, ↓s1_cont, ↓s1_bad, ↓s1_set, ↓s1_setT, ↓s1_par, ↓s1_aug, ↓s1_sattr, ↓s1_aattr, ↓s1_raise0, ↓s1_tryO, ↓s1_tryA, ↓s1_whl, ↓s1_frl, ↓t2_var, ↓t2_bl, ↓t2_ix, ↓t2_call, ↓t2_callK, ↓t2_meO, ↓t2_bi, ↓t2_isi, ↓t2_meth, ↓t2_attr, ↓t2_bin, wR_ok, wR_bad, wR_ite, wV_some, wV_none, wV_no, wBl_bl, wBl_int, wOp_some, wOp_none, wInt_int, wTwo_two, dnF_P, dnF_m, dnF_call, dnF_call1, b_add, b_sub, b_mul, b_div, b_mod, b_pow, b_shl, b_shr, b_and, b_or, b_xor, c_eq, c_ne, c_lt, c_le, c_gt, c_ge, c_is, c_isn, c_in, c_nin, a_add, a_sub, p_add, p_sub, p_mul, p_div, p_mod, p_pow, p_shr, p_and2, p_neg, p_bits, p_lt, p_le, p_gt, p_ge, p_eqi, p_nei, p_eqs, p_nes, p_eqb, p_isn, p_isnn, t_bl, t_int, len_tup, bi_int, bi_intb, bi_abs, bi_lstT, wIx_l, wIx_f, wIx_d, wIx_t, wSq_l, wSq_f, wMl_l, wLs_l, wLs_f, wLs_d, wDk_d, wSt_l, wSt_d, wSt_t, wDl_d, wDl_t, rcvO_l, rcvO_f, rcvO_d, rcvO_t, tnO_l, tnO_f, tnO_d, tnO_t, lstO_l, lstO_f, keyV_i, keyV_s, q_ix, q_ixT, q_ixK, q_set, q_len, q_list, q_dict, q_tuple, q_it, q_itT, q_itK, q_itS, q_r1, q_r2, q_addL, q_addT, q_in, q_nin, q_eq, q_ne, eqB_i, eqB_s, eqB_b, q_slL, q_slT, q_tr, q_rcv, q_tn, tn_i, tn_b, tn_n, tn_s, tn_t, tn_k, me_app, me_pop, me_rev, me_clr, me_ins, me_idx, me_get, me_sd, q_app, q_rev, q_clr, q_pop, q_get1, q_get2, q_idx, at0, at1, at2, at3, ix0, ix1, ix2, ix3, atk, ls_len, ha_new, la_new, k_at, k_at2, k_bin2, k_bin1, k_neg, k_bits, k_not2, k_not1, k_and2, k_and1, k_or2, k_or1, k_cmp2, k_cmp1, k_ch4, k_ch3, k_ch2, k_ch1, k_ite, k_call, k_ck2, k_ck1, k_eqd2, k_eqd1, k_mk3, k_mk2, k_mk1, k_mo3, k_mo2, k_mo1, k_bi, k_isi2, k_isi, k_me4, k_me3, k_me2, k_me1, k_attr, k_tup, k_lst, k_ix2, k_ix1, k_sl3, k_sl2, k_sl1, k_oi2, k_oi, k_lc, k_l2, k_l1, k_tr, k_bl2, k_bl, k_tn, k_ta, k_to, k_it, k_r1, k_r2b, k_r2, k_un, k_gs2, k_gs1, k_gt, k_gc, k_xs, k_seq, k_ex, k_sif, k_set, k_st, k_par2, k_par, k_aug2, k_aug1, k_sa2, k_sa1, k_aa4, k_aa3, k_aa2, k_aa1, k_frl, k_try, k_rn, k_rx, k_re, List.getElem?_cons_zero, List.getElem?_cons_succ, List.set_cons_zero, List.set_cons_succ, List.length_cons, List.length_nil, decide_eq_true_eq, Bool.not_eq_true', decide_eq_false_iff_not, if_true, if_false, Bool.false_eq_true, reduceIte, List.cons_append, List.nil_append, List.map_cons, List.map_nil, Nat.reduceLeDiff, and_true, true_and, startE, List.replicate, List.length_singleton, List.append_nil, decide_true, decide_false, not_true_eq_false, not_false_eq_true, Int.natAbs_natCast, Int.toNat_natCast, List.length_map, Bool.not_true, Bool.not_false, reduceCtorEq, subTN, ne_eq, and_self, true_and, Nat.reduceSub, Nat.reduceAdd, wipeE]
    · have z2 : ((euc i p.natAbs q.natAbs).2 : Int) ≠ 0 := by omega
      have st := euc_step i p.natAbs q.natAbs z
      simp only [z2, fmod_nat, ↓e1_var, ↓e1_int, ↓e1_str, ↓e1_bl, ↓e1_non, ↓e1_glob, ↓e1_bin, ↓e1_neg, ↓e1_bitl, ↓e1_not, ↓e1_and, ↓e1_or, ↓e1_cmp, ↓e1_chain, ↓e1_ite, ↓e1_call, ↓e1_callK, ↓e1_eqd, ↓e1_make, ↓e1_meO, ↓e1_bi, ↓e1_isi, ↓e1_meth, ↓e1_attr, ↓e1_tup, ↓e1_lst, ↓e1_dict, ↓e1_dictT, ↓e1_ix, ↓e1_sl, ↓o1_nil, ↓o1_cons, ↓e1_lc, ↓l1_nil, ↓l1_cons, ↓t1_cmp, ↓t1_chain, ↓t1_eqd, ↓t1_not, ↓t1_and, ↓t1_or, ↓c1_nil, ↓c1_cons, ↓i1_val, ↓i1_r1, ↓i1_r2, ↓g1_nm, ↓g1_sub, ↓g1_tup, ↓gs1_nil, ↓gs1_cons, ↓s1_skip, ↓s1_seq, ↓s1_ret, ↓s1_retN, ↓s1_expr, ↓s1_ite, ↓s1_brk, ↓s1_cont, ↓s1_bad, ↓s1_set, ↓s1_setT, ↓s1_par, ↓s1_aug, ↓s1_sattr, ↓s1_aattr, ↓s1_raise0, ↓s1_tryO, ↓s1_tryA, ↓s1_whl, ↓s1_frl, ↓t2_var, ↓t2_bl, ↓t2_ix, ↓t2_call, ↓t2_callK, ↓t2_meO, ↓t2_bi, ↓t2_isi, ↓t2_meth, ↓t2_attr, ↓t2_bin, wR_ok, wR_bad, wR_ite, wV_some, wV_none, wV_no, wBl_bl, wBl_int, wOp_some, wOp_none, wInt_int, wTwo_two, dnF_P, dnF_m, dnF_call, dnF_call1, b_add, b_sub, b_mul, b_div, b_mod, b_pow, b_shl, b_shr, b_and, b_or, b_xor, c_eq, c_ne, c_lt, c_le, c_gt, c_ge, c_is, c_isn, c_in, c_nin, a_add, a_sub, p_add, p_sub, p_mul, p_div, p_mod, p_pow, p_shr, p_and2, p_neg, p_bits, p_lt, p_le, p_gt, p_ge, p_eqi, p_nei, p_eqs, p_nes, p_eqb, p_isn, p_isnn, t_bl, t_int, len_tup, bi_int, bi_intb, bi_abs, bi_lstT, wIx_l, wIx_f, wIx_d, wIx_t, wSq_l, wSq_f, wMl_l, wLs_l, wLs_f, wLs_d, wDk_d, wSt_l, wSt_d, wSt_t, wDl_d, wDl_t, rcvO_l, rcvO_f, rcvO_d, rcvO_t, tnO_l, tnO_f, tnO_d, tnO_t, lstO_l, lstO_f, keyV_i, keyV_s, q_ix, q_ixT, q_ixK, q_set, q_len, q_list, q_dict, q_tuple, q_it, q_itT, q_itK, q_itS, q_r1, q_r2, q_addL, q_addT, q_in, q_nin, q_eq, q_ne, eqB_i, eqB_s, eqB_b, q_slL, q_slT, q_tr, q_rcv, q_tn, tn_i, tn_b, tn_n, tn_s, tn_t, tn_k, me_app, me_pop, me_rev, me_clr, me_ins, me_idx, me_get, me_sd, q_app, q_rev, q_clr, q_pop, q_get1, q_get2, q_idx, at0, at1, at2, at3, ix0, ix1, ix2, ix3, atk, ls_len, ha_new, la_new, k_at, k_at2, k_bin2, k_bin1, k_neg, k_bits, k_not2, k_not1, k_and2, k_and1, k_or2, k_or1, k_cmp2, k_cmp1, k_ch4, k_ch3, k_ch2, k_ch1, k_ite, k_call, k_ck2, k_ck1, k_eqd2, k_eqd1, k_mk3, k_mk2, k_mk1, k_mo3, k_mo2, k_mo1, k_bi, k_isi2, k_isi, k_me4, k_me3, k_me2, k_me1, k_attr, k_tup, k_lst, k_ix2, k_ix1, k_sl3, k_sl2, k_sl1, k_oi2, k_oi, k_lc, k_l2, k_l1, k_tr, k_bl2, k_bl, k_tn, k_ta, k_to, k_it, k_r1, k_r2b, k_r2, k_un, k_gs2, k_gs1, k_gt, k_gc, k_xs, k_seq, k_ex, k_sif, k_set, k_st, k_par2, k_par, k_aug2, k_aug1, k_sa2, k_sa1, k_aa4, k_aa3, k_aa2, k_aa1, k_frl, k_try, k_rn, k_rx, k_re, List.getElem?_cons_zero, List.getElem?_cons_succ, List.set_cons_zero, List.set_cons_succ, List.length_cons, List.length_nil, decide_eq_true_eq, Bool.not_eq_true', decide_eq_false_iff_not, if_true, if_false, Bool.false_eq_true, reduceIte, List.cons_append, List.nil_append, List.map_cons, List.map_nil, Nat.reduceLeDiff, and_true, true_and, startE, List.replicate, List.length_singleton, List.append_nil, decide_true, decide_false, not_true_eq_false, not_false_eq_true, Int.natAbs_natCast, Int.toNat_natCast, List.length_map, Bool.not_true, Bool.not_false, reduceCtorEq, subTN, ne_eq, and_self, true_and, Nat.reduceSub, Nat.reduceAdd, wipeE]
      rw [st]
      exact ⟨_, rfl⟩
theorem whole_ok (k : Nat) (i : Int) (h : Hm) : callF fbs pg 100000 (k+2) 3 [.int i] h = .ok (.bl true) h := by
  apply wR_eq
  rw [callF_at (fi := ⟨1, b3⟩) (fd := ⟨"_law_whole", true, ps3, []⟩) (k) rfl rfl rfl, wR_ret]; show wS (dnF fbs pg 100000 (k)) b3 _ _ _ _ _ _ _
  simp only [b3, ↓e1_var, ↓e1_int, ↓e1_str, ↓e1_bl, ↓e1_non, ↓e1_glob, ↓e1_bin, ↓e1_neg, ↓e1_bitl, ↓e1_not, ↓e1_and, ↓e1_or, ↓e1_cmp, ↓e1_chain, ↓e1_ite, ↓e1_call, ↓e1_callK, ↓e1_eqd, ↓e1_make, ↓e1_meO, ↓e1_bi, ↓e1_isi, ↓e1_meth, ↓e1_attr, ↓e1_tup, ↓e1_lst, ↓e1_dict, ↓e1_dictT, ↓e1_ix, ↓e1_sl, ↓o1_nil, ↓o1_cons, ↓e1_lc, ↓l1_nil, ↓l1_cons, ↓t1_cmp, ↓t1_chain, ↓t1_eqd, ↓t1_not, ↓t1_and, ↓t1_or, ↓c1_nil, ↓c1_cons, ↓i1_val, ↓i1_r1, ↓i1_r2, ↓g1_nm, ↓g1_sub, ↓g1_tup, ↓gs1_nil, ↓gs1_cons, ↓s1_skip, ↓s1_seq, ↓s1_ret, ↓s1_retN, ↓s1_expr, ↓s1_ite, ↓s1_brk, ↓s1_cont, ↓s1_bad, ↓s1_set, ↓s1_setT, ↓s1_par, ↓s1_aug, ↓s1_sattr, ↓s1_aattr, ↓s1_raise0, ↓s1_tryO, ↓s1_tryA, ↓s1_whl, ↓s1_frl, ↓t2_var, ↓t2_bl, ↓t2_ix, ↓t2_call, ↓t2_callK, ↓t2_meO, ↓t2_bi, ↓t2_isi, ↓t2_meth, ↓t2_attr, ↓t2_bin, wR_ok, wR_bad, wR_ite, wV_some, wV_none, wV_no, wBl_bl, wBl_int, wOp_some, wOp_none, wInt_int, wTwo_two, dnF_P, dnF_m, dnF_call, dnF_call1, b_add, b_sub, b_mul, b_div, b_mod, b_pow, b_shl, b_shr, b_and, b_or, b_xor, c_eq, c_ne, c_lt, c_le, c_gt, c_ge, c_is, c_isn, c_in, c_nin, a_add, a_sub, p_add, p_sub, p_mul, p_div, p_mod, p_pow, p_shr, p_and2, p_neg, p_bits, p_lt, p_le, p_gt, p_ge, p_eqi, p_nei, p_eqs, p_nes, p_eqb, p_isn, p_isnn, t_bl, t_int, len_tup, bi_int, bi_intb, bi_abs, bi_lstT, wIx_l, wIx_f, wIx_d, wIx_t, wSq_l, wSq_f, wMl_l, wLs_l, wLs_f, wLs_d, wDk_d, wSt_l, wSt_d, wSt_t, wDl_d, wDl_t, rcvO_l, rcvO_f, rcvO_d, rcvO_t, tnO_l, tnO_f, tnO_d, tnO_t, lstO_l, lstO_f, keyV_i, keyV_s, q_ix, q_ixT, q_ixK, q_set, q_len, q_list, q_dict, q_tuple, q_it, q_itT, q_itK, q_itS, q_r1, q_r2, q_addL, q_addT, q_in, q_nin, q_eq, q_ne, eqB_i, eqB_s, eqB_b, q_slL, q_slT, q_tr, q_rcv, q_tn, tn_i, tn_b, tn_n, tn_s, tn_t, tn_k, me_app, me_pop, me_rev, me_clr, me_ins, me_idx, me_get, me_sd, q_app, q_rev, q_clr, q_pop, q_get1, q_get2, q_idx, at0, at1, at2, at3, ix0, ix1, ix2, ix3, atk, ls_len, ha_new, la_new, k_at, k_at2, k_bin2, k_bin1, k_neg, k_bits, k_not2, k_not1, k_and2, k_and1, k_or2, k_or1, k_cmp2, k_cmp1, k_ch4, k_ch3, k_ch2, k_ch1, k_ite, k_call, k_ck2, k_ck1, k_eqd2, k_eqd1, k_mk3, k_mk2, k_mk1, k_mo3, k_mo2, k_mo1, k_bi, k_isi2, k_isi, k_me4, k_me3, k_me2, k_me1, k_attr, k_tup, k_lst, k_ix2, k_ix1, k_sl3, k_sl2, k_sl1, k_oi2, k_oi, k_lc, k_l2, k_l1, k_tr, k_bl2, k_bl, k_tn, k_ta, k_to, k_it, k_r1, k_r2b, k_r2, k_un, k_gs2, k_gs1, k_gt, k_gc, k_xs, k_seq, k_ex, k_sif, k_set, k_st, k_par2, k_par, k_aug2, k_aug1, k_sa2, k_sa1, k_aa4, k_aa3, k_aa2, k_aa1, k_frl, k_try, k_rn, k_rx, k_re, List.getElem?_cons_zero, List.getElem?_cons_succ, List.set_cons_zero, List.set_cons_succ, List.length_cons, List.length_nil, decide_eq_true_eq, Bool.not_eq_true', decide_eq_false_iff_not, if_true, if_false, Bool.false_eq_true, reduceIte, List.cons_append, List.nil_append, List.map_cons, List.map_nil, Nat.reduceLeDiff, and_true, true_and, startE, List.replicate, List.length_singleton, List.append_nil, decide_true, decide_false, not_true_eq_false, not_false_eq_true, Int.natAbs_natCast, Int.toNat_natCast, List.length_map, Bool.not_true, Bool.not_false, reduceCtorEq, subTN, ne_eq, and_self, true_and, Nat.reduceSub, Nat.reduceAdd, wipeE]
theorem due_ok (k : Nat) (a b top bot : Int) (h : Hm) (lw : Low a b) (e : a * bot = top * b) (ba : a.natAbs < 2 ^ 4000) (bb : b.natAbs < 2 ^ 4000) (bt : top.natAbs < 2 ^ 4000) (bo : bot.natAbs < 2 ^ 4000) : callF fbs pg 100000 (k+3) 8 [.tup [.int a, .int b], .int top, .int bot] h = .ok (.bl true) h := by
  apply wR_eq
  rw [callF_at (fi := ⟨3, b8⟩) (fd := ⟨"_law_due", true, ps8, []⟩) (k+1) rfl rfl rfl, wR_ret]; show wS (dnF fbs pg 100000 (k+1)) b8 _ _ _ _ _ _ _
  have b1 : ¬ b < 1 := by have := lw.1; omega
  have m1 : mulOk a bot = True := eq_true (.inr (.inr ⟨ba, bo⟩))
  have m2 : mulOk top b = True := eq_true (.inr (.inr ⟨bt, bb⟩))
  have hg : ((Int.gcd a b : Nat) : Int) = 1 := by rw [lw.2]; rfl
  simp only [show ((2 : Nat) : Int) = 2 from rfl, b8, dvN, whole_ok, common_ok k a b h bb, hg, b1, m1, m2, e, ↓e1_var, ↓e1_int, ↓e1_str, ↓e1_bl, ↓e1_non, ↓e1_glob, ↓e1_bin, ↓e1_neg, ↓e1_bitl, ↓e1_not, ↓e1_and, ↓e1_or, ↓e1_cmp, ↓e1_chain, ↓e1_ite, ↓e1_call, ↓e1_callK, ↓e1_eqd, ↓e1_make, ↓e1_meO, ↓e1_bi, ↓e1_isi, ↓e1_meth, ↓e1_attr, ↓e1_tup, ↓e1_lst, ↓e1_dict, ↓e1_dictT, ↓e1_ix, ↓e1_sl, ↓o1_nil, ↓o1_cons, ↓e1_lc, ↓l1_nil, ↓l1_cons, ↓t1_cmp, ↓t1_chain, ↓t1_eqd, ↓t1_not, ↓t1_and, ↓t1_or, ↓c1_nil, ↓c1_cons, ↓i1_val, ↓i1_r1, ↓i1_r2, ↓g1_nm, ↓g1_sub, ↓g1_tup, ↓gs1_nil, ↓gs1_cons, ↓s1_skip, ↓s1_seq, ↓s1_ret, ↓s1_retN, ↓s1_expr, ↓s1_ite, ↓s1_brk, ↓s1_cont, ↓s1_bad, ↓s1_set, ↓s1_setT, ↓s1_par, ↓s1_aug, ↓s1_sattr, ↓s1_aattr, ↓s1_raise0, ↓s1_tryO, ↓s1_tryA, ↓s1_whl, ↓s1_frl, ↓t2_var, ↓t2_bl, ↓t2_ix, ↓t2_call, ↓t2_callK, ↓t2_meO, ↓t2_bi, ↓t2_isi, ↓t2_meth, ↓t2_attr, ↓t2_bin, wR_ok, wR_bad, wR_ite, wV_some, wV_none, wV_no, wBl_bl, wBl_int, wOp_some, wOp_none, wInt_int, wTwo_two, dnF_P, dnF_m, dnF_call, dnF_call1, b_add, b_sub, b_mul, b_div, b_mod, b_pow, b_shl, b_shr, b_and, b_or, b_xor, c_eq, c_ne, c_lt, c_le, c_gt, c_ge, c_is, c_isn, c_in, c_nin, a_add, a_sub, p_add, p_sub, p_mul, p_div, p_mod, p_pow, p_shr, p_and2, p_neg, p_bits, p_lt, p_le, p_gt, p_ge, p_eqi, p_nei, p_eqs, p_nes, p_eqb, p_isn, p_isnn, t_bl, t_int, len_tup, bi_int, bi_intb, bi_abs, bi_lstT, wIx_l, wIx_f, wIx_d, wIx_t, wSq_l, wSq_f, wMl_l, wLs_l, wLs_f, wLs_d, wDk_d, wSt_l, wSt_d, wSt_t, wDl_d, wDl_t, rcvO_l, rcvO_f, rcvO_d, rcvO_t, tnO_l, tnO_f, tnO_d, tnO_t, lstO_l, lstO_f, keyV_i, keyV_s, q_ix, q_ixT, q_ixK, q_set, q_len, q_list, q_dict, q_tuple, q_it, q_itT, q_itK, q_itS, q_r1, q_r2, q_addL, q_addT, q_in, q_nin, q_eq, q_ne, eqB_i, eqB_s, eqB_b, q_slL, q_slT, q_tr, q_rcv, q_tn, tn_i, tn_b, tn_n, tn_s, tn_t, tn_k, me_app, me_pop, me_rev, me_clr, me_ins, me_idx, me_get, me_sd, q_app, q_rev, q_clr, q_pop, q_get1, q_get2, q_idx, at0, at1, at2, at3, ix0, ix1, ix2, ix3, atk, ls_len, ha_new, la_new, k_at, k_at2, k_bin2, k_bin1, k_neg, k_bits, k_not2, k_not1, k_and2, k_and1, k_or2, k_or1, k_cmp2, k_cmp1, k_ch4, k_ch3, k_ch2, k_ch1, k_ite, k_call, k_ck2, k_ck1, k_eqd2, k_eqd1, k_mk3, k_mk2, k_mk1, k_mo3, k_mo2, k_mo1, k_bi, k_isi2, k_isi, k_me4, k_me3, k_me2, k_me1, k_attr, k_tup, k_lst, k_ix2, k_ix1, k_sl3, k_sl2, k_sl1, k_oi2, k_oi, k_lc, k_l2, k_l1, k_tr, k_bl2, k_bl, k_tn, k_ta, k_to, k_it, k_r1, k_r2b, k_r2, k_un, k_gs2, k_gs1, k_gt, k_gc, k_xs, k_seq, k_ex, k_sif, k_set, k_st, k_par2, k_par, k_aug2, k_aug1, k_sa2, k_sa1, k_aa4, k_aa3, k_aa2, k_aa1, k_frl, k_try, k_rn, k_rx, k_re, List.getElem?_cons_zero, List.getElem?_cons_succ, List.set_cons_zero, List.set_cons_succ, List.length_cons, List.length_nil, decide_eq_true_eq, Bool.not_eq_true', decide_eq_false_iff_not, if_true, if_false, Bool.false_eq_true, reduceIte, List.cons_append, List.nil_append, List.map_cons, List.map_nil, Nat.reduceLeDiff, and_true, true_and, startE, List.replicate, List.length_singleton, List.append_nil, decide_true, decide_false, not_true_eq_false, not_false_eq_true, Int.natAbs_natCast, Int.toNat_natCast, List.length_map, Bool.not_true, Bool.not_false, reduceCtorEq, subTN, ne_eq, and_self, true_and, Nat.reduceSub, Nat.reduceAdd, wipeE]
theorem told_ok (k : Nat) (p q how : Int) (h : Hm) (hq : q ≠ 0) (bq : q.natAbs < 2 ^ 4000) : ∃ a b, Low a b ∧ a * q = p * b ∧ a.natAbs ≤ p.natAbs ∧ b.natAbs ≤ q.natAbs ∧ callF fbs pg 100000 (k+3) 9 [.int p, .int q, .int how] h = .ok (.tup [.int a, .int b]) h := by
  obtain ⟨a, b, lw, e, l1, l2, r⟩ := ratio_ok k p q h hq bq
  refine ⟨a, b, lw, e, l1, l2, wR_eq ?_⟩
  rw [callF_at (fi := ⟨3, b9⟩) (fd := ⟨"_law_told", true, ps9, []⟩) (k+1) rfl rfl rfl, wR_ret]; show wS (dnF fbs pg 100000 (k+1)) b9 _ _ _ _ _ _ _
  by_cases c1 : how = 1
  · simp only [b9, c1, EL.len, r, ↓e1_var, ↓e1_int, ↓e1_str, ↓e1_bl, ↓e1_non, ↓e1_glob, ↓e1_bin, ↓e1_neg, ↓e1_bitl, ↓e1_not, ↓e1_and, ↓e1_or, ↓e1_cmp, ↓e1_chain, ↓e1_ite, ↓e1_call, ↓e1_callK, ↓e1_eqd, ↓e1_make, ↓e1_meO, ↓e1_bi, ↓e1_isi, ↓e1_meth, ↓e1_attr, ↓e1_tup, ↓e1_lst, ↓e1_dict, ↓e1_dictT, ↓e1_ix, ↓e1_sl, ↓o1_nil, ↓o1_cons, ↓e1_lc, ↓l1_nil, ↓l1_cons, ↓t1_cmp, ↓t1_chain, ↓t1_eqd, ↓t1_not, ↓t1_and, ↓t1_or, ↓c1_nil, ↓c1_cons, ↓i1_val, ↓i1_r1, ↓i1_r2, ↓g1_nm, ↓g1_sub, ↓g1_tup, ↓gs1_nil, ↓gs1_cons, ↓s1_skip, ↓s1_seq, ↓s1_ret, ↓s1_retN, ↓s1_expr, ↓s1_ite, ↓s1_brk, ↓s1_cont, ↓s1_bad, ↓s1_set, ↓s1_setT, ↓s1_par, ↓s1_aug, ↓s1_sattr, ↓s1_aattr, ↓s1_raise0, ↓s1_tryO, ↓s1_tryA, ↓s1_whl, ↓s1_frl, ↓t2_var, ↓t2_bl, ↓t2_ix, ↓t2_call, ↓t2_callK, ↓t2_meO, ↓t2_bi, ↓t2_isi, ↓t2_meth, ↓t2_attr, ↓t2_bin, wR_ok, wR_bad, wR_ite, wV_some, wV_none, wV_no, wBl_bl, wBl_int, wOp_some, wOp_none, wInt_int, wTwo_two, dnF_P, dnF_m, dnF_call, dnF_call1, b_add, b_sub, b_mul, b_div, b_mod, b_pow, b_shl, b_shr, b_and, b_or, b_xor, c_eq, c_ne, c_lt, c_le, c_gt, c_ge, c_is, c_isn, c_in, c_nin, a_add, a_sub, p_add, p_sub, p_mul, p_div, p_mod, p_pow, p_shr, p_and2, p_neg, p_bits, p_lt, p_le, p_gt, p_ge, p_eqi, p_nei, p_eqs, p_nes, p_eqb, p_isn, p_isnn, t_bl, t_int, len_tup, bi_int, bi_intb, bi_abs, bi_lstT, wIx_l, wIx_f, wIx_d, wIx_t, wSq_l, wSq_f, wMl_l, wLs_l, wLs_f, wLs_d, wDk_d, wSt_l, wSt_d, wSt_t, wDl_d, wDl_t, rcvO_l, rcvO_f, rcvO_d, rcvO_t, tnO_l, tnO_f, tnO_d, tnO_t, lstO_l, lstO_f, keyV_i, keyV_s, q_ix, q_ixT, q_ixK, q_set, q_len, q_list, q_dict, q_tuple, q_it, q_itT, q_itK, q_itS, q_r1, q_r2, q_addL, q_addT, q_in, q_nin, q_eq, q_ne, eqB_i, eqB_s, eqB_b, q_slL, q_slT, q_tr, q_rcv, q_tn, tn_i, tn_b, tn_n, tn_s, tn_t, tn_k, me_app, me_pop, me_rev, me_clr, me_ins, me_idx, me_get, me_sd, q_app, q_rev, q_clr, q_pop, q_get1, q_get2, q_idx, at0, at1, at2, at3, ix0, ix1, ix2, ix3, atk, ls_len, ha_new, la_new, k_at, k_at2, k_bin2, k_bin1, k_neg, k_bits, k_not2, k_not1, k_and2, k_and1, k_or2, k_or1, k_cmp2, k_cmp1, k_ch4, k_ch3, k_ch2, k_ch1, k_ite, k_call, k_ck2, k_ck1, k_eqd2, k_eqd1, k_mk3, k_mk2, k_mk1, k_mo3, k_mo2, k_mo1, k_bi, k_isi2, k_isi, k_me4, k_me3, k_me2, k_me1, k_attr, k_tup, k_lst, k_ix2, k_ix1, k_sl3, k_sl2, k_sl1, k_oi2, k_oi, k_lc, k_l2, k_l1, k_tr, k_bl2, k_bl, k_tn, k_ta, k_to, k_it, k_r1, k_r2b, k_r2, k_un, k_gs2, k_gs1, k_gt, k_gc, k_xs, k_seq, k_ex, k_sif, k_set, k_st, k_par2, k_par, k_aug2, k_aug1, k_sa2, k_sa1, k_aa4, k_aa3, k_aa2, k_aa1, k_frl, k_try, k_rn, k_rx, k_re, List.getElem?_cons_zero, List.getElem?_cons_succ, List.set_cons_zero, List.set_cons_succ, List.length_cons, List.length_nil, decide_eq_true_eq, Bool.not_eq_true', decide_eq_false_iff_not, if_true, if_false, Bool.false_eq_true, reduceIte, List.cons_append, List.nil_append, List.map_cons, List.map_nil, Nat.reduceLeDiff, and_true, true_and, startE, List.replicate, List.length_singleton, List.append_nil, decide_true, decide_false, not_true_eq_false, not_false_eq_true, Int.natAbs_natCast, Int.toNat_natCast, List.length_map, Bool.not_true, Bool.not_false, reduceCtorEq, subTN, ne_eq, and_self, true_and, Nat.reduceSub, Nat.reduceAdd, wipeE]
  · by_cases c2 : how = 2
    · subst c2
      by_cases c3 : q = 1
      · subst c3
        simp only [b9, c1, EL.len, dvR1, r, ↓e1_var, ↓e1_int, ↓e1_str, ↓e1_bl, ↓e1_non, ↓e1_glob, ↓e1_bin, ↓e1_neg, ↓e1_bitl, ↓e1_not, ↓e1_and, ↓e1_or, ↓e1_cmp, ↓e1_chain, ↓e1_ite, ↓e1_call, ↓e1_callK, ↓e1_eqd, ↓e1_make, ↓e1_meO, ↓e1_bi, ↓e1_isi, ↓e1_meth, ↓e1_attr, ↓e1_tup, ↓e1_lst, ↓e1_dict, ↓e1_dictT, ↓e1_ix, ↓e1_sl, ↓o1_nil, ↓o1_cons, ↓e1_lc, ↓l1_nil, ↓l1_cons, ↓t1_cmp, ↓t1_chain, ↓t1_eqd, ↓t1_not, ↓t1_and, ↓t1_or, ↓c1_nil, ↓c1_cons, ↓i1_val, ↓i1_r1, ↓i1_r2, ↓g1_nm, ↓g1_sub, ↓g1_tup, ↓gs1_nil, ↓gs1_cons, ↓s1_skip, ↓s1_seq, ↓s1_ret, ↓s1_retN, ↓s1_expr, ↓s1_ite, ↓s1_brk, ↓s1_cont, ↓s1_bad, ↓s1_set, ↓s1_setT, ↓s1_par, ↓s1_aug, ↓s1_sattr, ↓s1_aattr, ↓s1_raise0, ↓s1_tryO, ↓s1_tryA, ↓s1_whl, ↓s1_frl, ↓t2_var, ↓t2_bl, ↓t2_ix, ↓t2_call, ↓t2_callK, ↓t2_meO, ↓t2_bi, ↓t2_isi, ↓t2_meth, ↓t2_attr, ↓t2_bin, wR_ok, wR_bad, wR_ite, wV_some, wV_none, wV_no, wBl_bl, wBl_int, wOp_some, wOp_none, wInt_int, wTwo_two, dnF_P, dnF_m, dnF_call, dnF_call1, b_add, b_sub, b_mul, b_div, b_mod, b_pow, b_shl, b_shr, b_and, b_or, b_xor, c_eq, c_ne, c_lt, c_le, c_gt, c_ge, c_is, c_isn, c_in, c_nin, a_add, a_sub, p_add, p_sub, p_mul, p_div, p_mod, p_pow, p_shr, p_and2, p_neg, p_bits, p_lt, p_le, p_gt, p_ge, p_eqi, p_nei, p_eqs, p_nes, p_eqb, p_isn, p_isnn, t_bl, t_int, len_tup, bi_int, bi_intb, bi_abs, bi_lstT, wIx_l, wIx_f, wIx_d, wIx_t, wSq_l, wSq_f, wMl_l, wLs_l, wLs_f, wLs_d, wDk_d, wSt_l, wSt_d, wSt_t, wDl_d, wDl_t, rcvO_l, rcvO_f, rcvO_d, rcvO_t, tnO_l, tnO_f, tnO_d, tnO_t, lstO_l, lstO_f, keyV_i, keyV_s, q_ix, q_ixT, q_ixK, q_set, q_len, q_list, q_dict, q_tuple, q_it, q_itT, q_itK, q_itS, q_r1, q_r2, q_addL, q_addT, q_in, q_nin, q_eq, q_ne, eqB_i, eqB_s, eqB_b, q_slL, q_slT, q_tr, q_rcv, q_tn, tn_i, tn_b, tn_n, tn_s, tn_t, tn_k, me_app, me_pop, me_rev, me_clr, me_ins, me_idx, me_get, me_sd, q_app, q_rev, q_clr, q_pop, q_get1, q_get2, q_idx, at0, at1, at2, at3, ix0, ix1, ix2, ix3, atk, ls_len, ha_new, la_new, k_at, k_at2, k_bin2, k_bin1, k_neg, k_bits, k_not2, k_not1, k_and2, k_and1, k_or2, k_or1, k_cmp2, k_cmp1, k_ch4, k_ch3, k_ch2, k_ch1, k_ite, k_call, k_ck2, k_ck1, k_eqd2, k_eqd1, k_mk3, k_mk2, k_mk1, k_mo3, k_mo2, k_mo1, k_bi, k_isi2, k_isi, k_me4, k_me3, k_me2, k_me1, k_attr, k_tup, k_lst, k_ix2, k_ix1, k_sl3, k_sl2, k_sl1, k_oi2, k_oi, k_lc, k_l2, k_l1, k_tr, k_bl2, k_bl, k_tn, k_ta, k_to, k_it, k_r1, k_r2b, k_r2, k_un, k_gs2, k_gs1, k_gt, k_gc, k_xs, k_seq, k_ex, k_sif, k_set, k_st, k_par2, k_par, k_aug2, k_aug1, k_sa2, k_sa1, k_aa4, k_aa3, k_aa2, k_aa1, k_frl, k_try, k_rn, k_rx, k_re, List.getElem?_cons_zero, List.getElem?_cons_succ, List.set_cons_zero, List.set_cons_succ, List.length_cons, List.length_nil, decide_eq_true_eq, Bool.not_eq_true', decide_eq_false_iff_not, if_true, if_false, Bool.false_eq_true, reduceIte, List.cons_append, List.nil_append, List.map_cons, List.map_nil, Nat.reduceLeDiff, and_true, true_and, startE, List.replicate, List.length_singleton, List.append_nil, decide_true, decide_false, not_true_eq_false, not_false_eq_true, Int.natAbs_natCast, Int.toNat_natCast, List.length_map, Bool.not_true, Bool.not_false, reduceCtorEq, subTN, ne_eq, and_self, true_and, Nat.reduceSub, Nat.reduceAdd, wipeE]
      · simp only [b9, c1, c3, EL.len, dvR, r, ↓e1_var, ↓e1_int, ↓e1_str, ↓e1_bl, ↓e1_non, ↓e1_glob, ↓e1_bin, ↓e1_neg, ↓e1_bitl, ↓e1_not, ↓e1_and, ↓e1_or, ↓e1_cmp, ↓e1_chain, ↓e1_ite, ↓e1_call, ↓e1_callK, ↓e1_eqd, ↓e1_make, ↓e1_meO, ↓e1_bi, ↓e1_isi, ↓e1_meth, ↓e1_attr, ↓e1_tup, ↓e1_lst, ↓e1_dict, ↓e1_dictT, ↓e1_ix, ↓e1_sl, ↓o1_nil, ↓o1_cons, ↓e1_lc, ↓l1_nil, ↓l1_cons, ↓t1_cmp, ↓t1_chain, ↓t1_eqd, ↓t1_not, ↓t1_and, ↓t1_or, ↓c1_nil, ↓c1_cons, ↓i1_val, ↓i1_r1, ↓i1_r2, ↓g1_nm, ↓g1_sub, ↓g1_tup, ↓gs1_nil, ↓gs1_cons, ↓s1_skip, ↓s1_seq, ↓s1_ret, ↓s1_retN, ↓s1_expr, ↓s1_ite, ↓s1_brk, ↓s1_cont, ↓s1_bad, ↓s1_set, ↓s1_setT, ↓s1_par, ↓s1_aug, ↓s1_sattr, ↓s1_aattr, ↓s1_raise0, ↓s1_tryO, ↓s1_tryA, ↓s1_whl, ↓s1_frl, ↓t2_var, ↓t2_bl, ↓t2_ix, ↓t2_call, ↓t2_callK, ↓t2_meO, ↓t2_bi, ↓t2_isi, ↓t2_meth, ↓t2_attr, ↓t2_bin, wR_ok, wR_bad, wR_ite, wV_some, wV_none, wV_no, wBl_bl, wBl_int, wOp_some, wOp_none, wInt_int, wTwo_two, dnF_P, dnF_m, dnF_call, dnF_call1, b_add, b_sub, b_mul, b_div, b_mod, b_pow, b_shl, b_shr, b_and, b_or, b_xor, c_eq, c_ne, c_lt, c_le, c_gt, c_ge, c_is, c_isn, c_in, c_nin, a_add, a_sub, p_add, p_sub, p_mul, p_div, p_mod, p_pow, p_shr, p_and2, p_neg, p_bits, p_lt, p_le, p_gt, p_ge, p_eqi, p_nei, p_eqs, p_nes, p_eqb, p_isn, p_isnn, t_bl, t_int, len_tup, bi_int, bi_intb, bi_abs, bi_lstT, wIx_l, wIx_f, wIx_d, wIx_t, wSq_l, wSq_f, wMl_l, wLs_l, wLs_f, wLs_d, wDk_d, wSt_l, wSt_d, wSt_t, wDl_d, wDl_t, rcvO_l, rcvO_f, rcvO_d, rcvO_t, tnO_l, tnO_f, tnO_d, tnO_t, lstO_l, lstO_f, keyV_i, keyV_s, q_ix, q_ixT, q_ixK, q_set, q_len, q_list, q_dict, q_tuple, q_it, q_itT, q_itK, q_itS, q_r1, q_r2, q_addL, q_addT, q_in, q_nin, q_eq, q_ne, eqB_i, eqB_s, eqB_b, q_slL, q_slT, q_tr, q_rcv, q_tn, tn_i, tn_b, tn_n, tn_s, tn_t, tn_k, me_app, me_pop, me_rev, me_clr, me_ins, me_idx, me_get, me_sd, q_app, q_rev, q_clr, q_pop, q_get1, q_get2, q_idx, at0, at1, at2, at3, ix0, ix1, ix2, ix3, atk, ls_len, ha_new, la_new, k_at, k_at2, k_bin2, k_bin1, k_neg, k_bits, k_not2, k_not1, k_and2, k_and1, k_or2, k_or1, k_cmp2, k_cmp1, k_ch4, k_ch3, k_ch2, k_ch1, k_ite, k_call, k_ck2, k_ck1, k_eqd2, k_eqd1, k_mk3, k_mk2, k_mk1, k_mo3, k_mo2, k_mo1, k_bi, k_isi2, k_isi, k_me4, k_me3, k_me2, k_me1, k_attr, k_tup, k_lst, k_ix2, k_ix1, k_sl3, k_sl2, k_sl1, k_oi2, k_oi, k_lc, k_l2, k_l1, k_tr, k_bl2, k_bl, k_tn, k_ta, k_to, k_it, k_r1, k_r2b, k_r2, k_un, k_gs2, k_gs1, k_gt, k_gc, k_xs, k_seq, k_ex, k_sif, k_set, k_st, k_par2, k_par, k_aug2, k_aug1, k_sa2, k_sa1, k_aa4, k_aa3, k_aa2, k_aa1, k_frl, k_try, k_rn, k_rx, k_re, List.getElem?_cons_zero, List.getElem?_cons_succ, List.set_cons_zero, List.set_cons_succ, List.length_cons, List.length_nil, decide_eq_true_eq, Bool.not_eq_true', decide_eq_false_iff_not, if_true, if_false, Bool.false_eq_true, reduceIte, List.cons_append, List.nil_append, List.map_cons, List.map_nil, Nat.reduceLeDiff, and_true, true_and, startE, List.replicate, List.length_singleton, List.append_nil, decide_true, decide_false, not_true_eq_false, not_false_eq_true, Int.natAbs_natCast, Int.toNat_natCast, List.length_map, Bool.not_true, Bool.not_false, reduceCtorEq, subTN, ne_eq, and_self, true_and, Nat.reduceSub, Nat.reduceAdd, wipeE]
    · simp only [b9, c1, c2, EL.len, dvR, r, ↓e1_var, ↓e1_int, ↓e1_str, ↓e1_bl, ↓e1_non, ↓e1_glob, ↓e1_bin, ↓e1_neg, ↓e1_bitl, ↓e1_not, ↓e1_and, ↓e1_or, ↓e1_cmp, ↓e1_chain, ↓e1_ite, ↓e1_call, ↓e1_callK, ↓e1_eqd, ↓e1_make, ↓e1_meO, ↓e1_bi, ↓e1_isi, ↓e1_meth, ↓e1_attr, ↓e1_tup, ↓e1_lst, ↓e1_dict, ↓e1_dictT, ↓e1_ix, ↓e1_sl, ↓o1_nil, ↓o1_cons, ↓e1_lc, ↓l1_nil, ↓l1_cons, ↓t1_cmp, ↓t1_chain, ↓t1_eqd, ↓t1_not, ↓t1_and, ↓t1_or, ↓c1_nil, ↓c1_cons, ↓i1_val, ↓i1_r1, ↓i1_r2, ↓g1_nm, ↓g1_sub, ↓g1_tup, ↓gs1_nil, ↓gs1_cons, ↓s1_skip, ↓s1_seq, ↓s1_ret, ↓s1_retN, ↓s1_expr, ↓s1_ite, ↓s1_brk, ↓s1_cont, ↓s1_bad, ↓s1_set, ↓s1_setT, ↓s1_par, ↓s1_aug, ↓s1_sattr, ↓s1_aattr, ↓s1_raise0, ↓s1_tryO, ↓s1_tryA, ↓s1_whl, ↓s1_frl, ↓t2_var, ↓t2_bl, ↓t2_ix, ↓t2_call, ↓t2_callK, ↓t2_meO, ↓t2_bi, ↓t2_isi, ↓t2_meth, ↓t2_attr, ↓t2_bin, wR_ok, wR_bad, wR_ite, wV_some, wV_none, wV_no, wBl_bl, wBl_int, wOp_some, wOp_none, wInt_int, wTwo_two, dnF_P, dnF_m, dnF_call, dnF_call1, b_add, b_sub, b_mul, b_div, b_mod, b_pow, b_shl, b_shr, b_and, b_or, b_xor, c_eq, c_ne, c_lt, c_le, c_gt, c_ge, c_is, c_isn, c_in, c_nin, a_add, a_sub, p_add, p_sub, p_mul, p_div, p_mod, p_pow, p_shr, p_and2, p_neg, p_bits, p_lt, p_le, p_gt, p_ge, p_eqi, p_nei, p_eqs, p_nes, p_eqb, p_isn, p_isnn, t_bl, t_int, len_tup, bi_int, bi_intb, bi_abs, bi_lstT, wIx_l, wIx_f, wIx_d, wIx_t, wSq_l, wSq_f, wMl_l, wLs_l, wLs_f, wLs_d, wDk_d, wSt_l, wSt_d, wSt_t, wDl_d, wDl_t, rcvO_l, rcvO_f, rcvO_d, rcvO_t, tnO_l, tnO_f, tnO_d, tnO_t, lstO_l, lstO_f, keyV_i, keyV_s, q_ix, q_ixT, q_ixK, q_set, q_len, q_list, q_dict, q_tuple, q_it, q_itT, q_itK, q_itS, q_r1, q_r2, q_addL, q_addT, q_in, q_nin, q_eq, q_ne, eqB_i, eqB_s, eqB_b, q_slL, q_slT, q_tr, q_rcv, q_tn, tn_i, tn_b, tn_n, tn_s, tn_t, tn_k, me_app, me_pop, me_rev, me_clr, me_ins, me_idx, me_get, me_sd, q_app, q_rev, q_clr, q_pop, q_get1, q_get2, q_idx, at0, at1, at2, at3, ix0, ix1, ix2, ix3, atk, ls_len, ha_new, la_new, k_at, k_at2, k_bin2, k_bin1, k_neg, k_bits, k_not2, k_not1, k_and2, k_and1, k_or2, k_or1, k_cmp2, k_cmp1, k_ch4, k_ch3, k_ch2, k_ch1, k_ite, k_call, k_ck2, k_ck1, k_eqd2, k_eqd1, k_mk3, k_mk2, k_mk1, k_mo3, k_mo2, k_mo1, k_bi, k_isi2, k_isi, k_me4, k_me3, k_me2, k_me1, k_attr, k_tup, k_lst, k_ix2, k_ix1, k_sl3, k_sl2, k_sl1, k_oi2, k_oi, k_lc, k_l2, k_l1, k_tr, k_bl2, k_bl, k_tn, k_ta, k_to, k_it, k_r1, k_r2b, k_r2, k_un, k_gs2, k_gs1, k_gt, k_gc, k_xs, k_seq, k_ex, k_sif, k_set, k_st, k_par2, k_par, k_aug2, k_aug1, k_sa2, k_sa1, k_aa4, k_aa3, k_aa2, k_aa1, k_frl, k_try, k_rn, k_rx, k_re, List.getElem?_cons_zero, List.getElem?_cons_succ, List.set_cons_zero, List.set_cons_succ, List.length_cons, List.length_nil, decide_eq_true_eq, Bool.not_eq_true', decide_eq_false_iff_not, if_true, if_false, Bool.false_eq_true, reduceIte, List.cons_append, List.nil_append, List.map_cons, List.map_nil, Nat.reduceLeDiff, and_true, true_and, startE, List.replicate, List.length_singleton, List.append_nil, decide_true, decide_false, not_true_eq_false, not_false_eq_true, Int.natAbs_natCast, Int.toNat_natCast, List.length_map, Bool.not_true, Bool.not_false, reduceCtorEq, subTN, ne_eq, and_self, true_and, Nat.reduceSub, Nat.reduceAdd, wipeE]
end RL

set_option Elab.async false
set_option linter.all false
set_option maxRecDepth 100000
set_option maxHeartbeats 1000000
set_option autoImplicit false
namespace RL
open RS
theorem wR_exeq {α : Type} {r : R α} {x : Ex} {h : Hm} (w : wR r (fun _ _ => False) (fun e h' => e = x ∧ h' = h)) : r = .ex x h := by
  cases r with
  | ok b g => exact False.elim w
  | ex e g => obtain ⟨e1, e2⟩ := w; rw [e1, e2]
  | bad => exact False.elim w
theorem wR_ex {α : Type} {P : α → Hm → Prop} {X : Ex → Hm → Prop} {e : Ex} {h : Hm} : wR (.ex e h) P X = X e h := rfl
theorem told_ex (k : Nat) (p how : Int) (h : Hm) : callF fbs pg 100000 (k+3) 9 [.int p, .int 0, .int how] h = .ex ⟨0, none⟩ h := by
  apply wR_exeq
  rw [callF_at (fi := ⟨3, b9⟩) (fd := ⟨"_law_told", true, ps9, []⟩) (k+1) rfl rfl rfl, wR_ret]; show wS (dnF fbs pg 100000 (k+1)) b9 _ _ _ _ _ _ _
  have r := ratio_ex k p h
  by_cases c1 : how = 1
  · simp only [b9, c1, EL.len, r, wR_ex, k_re, show ¬ ((0 : Int) = 1) from by decide, ↓e1_var, ↓e1_int, ↓e1_str, ↓e1_bl, ↓e1_non, ↓e1_glob, ↓e1_bin, ↓e1_neg, ↓e1_bitl, ↓e1_not, ↓e1_and, ↓e1_or, ↓e1_cmp, ↓e1_chain, ↓e1_ite, ↓e1_call, ↓e1_callK, ↓e1_eqd, ↓e1_make, ↓e1_meO, ↓e1_bi, ↓e1_isi, ↓e1_meth, ↓e1_attr, ↓e1_tup, ↓e1_lst, ↓e1_dict, ↓e1_dictT, ↓e1_ix, ↓e1_sl, ↓o1_nil, ↓o1_cons, ↓e1_lc, ↓l1_nil, ↓l1_cons, ↓t1_cmp, ↓t1_chain, ↓t1_eqd, ↓t1_not, ↓t1_and, ↓t1_or, ↓c1_nil, ↓c1_cons, ↓i1_val, ↓i1_r1, ↓i1_r2, ↓g1_nm, ↓g1_sub, ↓g1_tup, ↓gs1_nil, ↓gs1_cons, ↓s1_skip, ↓s1_seq, ↓s1_ret, ↓s1_retN, ↓s1_expr, ↓s1_ite, ↓s1_brk, ↓s1_cont, ↓s1_bad, ↓s1_set, ↓s1_setT, ↓s1_par, ↓s1_aug, ↓s1_sattr, ↓s1_aattr, ↓s1_raise0, ↓s1_tryO, ↓s1_tryA, ↓s1_whl, ↓s1_frl, ↓t2_var, ↓t2_bl, ↓t2_ix, ↓t2_call, ↓t2_callK, ↓t2_meO, ↓t2_bi, ↓t2_isi, ↓t2_meth, ↓t2_attr, ↓t2_bin, wR_ok, wR_bad, wR_ite, wV_some, wV_none, wV_no, wBl_bl, wBl_int, wOp_some, wOp_none, wInt_int, wTwo_two, dnF_P, dnF_m, dnF_call, dnF_call1, b_add, b_sub, b_mul, b_div, b_mod, b_pow, b_shl, b_shr, b_and, b_or, b_xor, c_eq, c_ne, c_lt, c_le, c_gt, c_ge, c_is, c_isn, c_in, c_nin, a_add, a_sub, p_add, p_sub, p_mul, p_div, p_mod, p_pow, p_shr, p_and2, p_neg, p_bits, p_lt, p_le, p_gt, p_ge, p_eqi, p_nei, p_eqs, p_nes, p_eqb, p_isn, p_isnn, t_bl, t_int, len_tup, bi_int, bi_intb, bi_abs, bi_lstT, wIx_l, wIx_f, wIx_d, wIx_t, wSq_l, wSq_f, wMl_l, wLs_l, wLs_f, wLs_d, wDk_d, wSt_l, wSt_d, wSt_t, wDl_d, wDl_t, rcvO_l, rcvO_f, rcvO_d, rcvO_t, tnO_l, tnO_f, tnO_d, tnO_t, lstO_l, lstO_f, keyV_i, keyV_s, q_ix, q_ixT, q_ixK, q_set, q_len, q_list, q_dict, q_tuple, q_it, q_itT, q_itK, q_itS, q_r1, q_r2, q_addL, q_addT, q_in, q_nin, q_eq, q_ne, eqB_i, eqB_s, eqB_b, q_slL, q_slT, q_tr, q_rcv, q_tn, tn_i, tn_b, tn_n, tn_s, tn_t, tn_k, me_app, me_pop, me_rev, me_clr, me_ins, me_idx, me_get, me_sd, q_app, q_rev, q_clr, q_pop, q_get1, q_get2, q_idx, at0, at1, at2, at3, ix0, ix1, ix2, ix3, atk, ls_len, ha_new, la_new, k_at, k_at2, k_bin2, k_bin1, k_neg, k_bits, k_not2, k_not1, k_and2, k_and1, k_or2, k_or1, k_cmp2, k_cmp1, k_ch4, k_ch3, k_ch2, k_ch1, k_ite, k_call, k_ck2, k_ck1, k_eqd2, k_eqd1, k_mk3, k_mk2, k_mk1, k_mo3, k_mo2, k_mo1, k_bi, k_isi2, k_isi, k_me4, k_me3, k_me2, k_me1, k_attr, k_tup, k_lst, k_ix2, k_ix1, k_sl3, k_sl2, k_sl1, k_oi2, k_oi, k_lc, k_l2, k_l1, k_tr, k_bl2, k_bl, k_tn, k_ta, k_to, k_it, k_r1, k_r2b, k_r2, k_un, k_gs2, k_gs1, k_gt, k_gc, k_xs, k_seq, k_ex, k_sif, k_set, k_st, k_par2, k_par, k_aug2, k_aug1, k_sa2, k_sa1, k_aa4, k_aa3, k_aa2, k_aa1, k_frl, k_try, k_rn, k_rx, k_re, List.getElem?_cons_zero, List.getElem?_cons_succ, List.set_cons_zero, List.set_cons_succ, List.length_cons, List.length_nil, decide_eq_true_eq, Bool.not_eq_true', decide_eq_false_iff_not, if_true, if_false, Bool.false_eq_true, reduceIte, List.cons_append, List.nil_append, List.map_cons, List.map_nil, Nat.reduceLeDiff, and_true, true_and, startE, List.replicate, List.length_singleton, List.append_nil, decide_true, decide_false, not_true_eq_false, not_false_eq_true, Int.natAbs_natCast, Int.toNat_natCast, List.length_map, Bool.not_true, Bool.not_false, reduceCtorEq, subTN, ne_eq, and_self, true_and, Nat.reduceSub, Nat.reduceAdd, wipeE]
  · by_cases c2 : how = 2
    · subst c2
      simp only [b9, c1, EL.len, dvR, r, wR_ex, k_re, show ¬ ((0 : Int) = 1) from by decide, ↓e1_var, ↓e1_int, ↓e1_str, ↓e1_bl, ↓e1_non, ↓e1_glob, ↓e1_bin, ↓e1_neg, ↓e1_bitl, ↓e1_not, ↓e1_and, ↓e1_or, ↓e1_cmp, ↓e1_chain, ↓e1_ite, ↓e1_call, ↓e1_callK, ↓e1_eqd, ↓e1_make, ↓e1_meO, ↓e1_bi, ↓e1_isi, ↓e1_meth, ↓e1_attr, ↓e1_tup, ↓e1_lst, ↓e1_dict, ↓e1_dictT, ↓e1_ix, ↓e1_sl, ↓o1_nil, ↓o1_cons, ↓e1_lc, ↓l1_nil, ↓l1_cons, ↓t1_cmp, ↓t1_chain, ↓t1_eqd, ↓t1_not, ↓t1_and, ↓t1_or, ↓c1_nil, ↓c1_cons, ↓i1_val, ↓i1_r1, ↓i1_r2, ↓g1_nm, ↓g1_sub, ↓g1_tup, ↓gs1_nil, ↓gs1_cons, ↓s1_skip, ↓s1_seq, ↓s1_ret, ↓s1_retN, ↓s1_expr, ↓s1_ite, ↓s1_brk, ↓s1_cont, ↓s1_bad, ↓s1_set, ↓s1_setT, ↓s1_par, ↓s1_aug, ↓s1_sattr, ↓s1_aattr, ↓s1_raise0, ↓s1_tryO, ↓s1_tryA, ↓s1_whl, ↓s1_frl, ↓t2_var, ↓t2_bl, ↓t2_ix, ↓t2_call, ↓t2_callK, ↓t2_meO, ↓t2_bi, ↓t2_isi, ↓t2_meth, ↓t2_attr, ↓t2_bin, wR_ok, wR_bad, wR_ite, wV_some, wV_none, wV_no, wBl_bl, wBl_int, wOp_some, wOp_none, wInt_int, wTwo_two, dnF_P, dnF_m, dnF_call, dnF_call1, b_add, b_sub, b_mul, b_div, b_mod, b_pow, b_shl, b_shr, b_and, b_or, b_xor, c_eq, c_ne, c_lt, c_le, c_gt, c_ge, c_is, c_isn, c_in, c_nin, a_add, a_sub, p_add, p_sub, p_mul, p_div, p_mod, p_pow, p_shr, p_and2, p_neg, p_bits, p_lt, p_le, p_gt, p_ge, p_eqi, p_nei, p_eqs, p_nes, p_eqb, p_isn, p_isnn, t_bl, t_int, len_tup, bi_int, bi_intb, bi_abs, bi_lstT, wIx_l, wIx_f, wIx_d, wIx_t, wSq_l, wSq_f, wMl_l, wLs_l, wLs_f, wLs_d, wDk_d, wSt_l, wSt_d, wSt_t, wDl_d, wDl_t, rcvO_l, rcvO_f, rcvO_d, rcvO_t, tnO_l, tnO_f, tnO_d, tnO_t, lstO_l, lstO_f, keyV_i, keyV_s, q_ix, q_ixT, q_ixK, q_set, q_len, q_list, q_dict, q_tuple, q_it, q_itT, q_itK, q_itS, q_r1, q_r2, q_addL, q_addT, q_in, q_nin, q_eq, q_ne, eqB_i, eqB_s, eqB_b, q_slL, q_slT, q_tr, q_rcv, q_tn, tn_i, tn_b, tn_n, tn_s, tn_t, tn_k, me_app, me_pop, me_rev, me_clr, me_ins, me_idx, me_get, me_sd, q_app, q_rev, q_clr, q_pop, q_get1, q_get2, q_idx, at0, at1, at2, at3, ix0, ix1, ix2, ix3, atk, ls_len, ha_new, la_new, k_at, k_at2, k_bin2, k_bin1, k_neg, k_bits, k_not2, k_not1, k_and2, k_and1, k_or2, k_or1, k_cmp2, k_cmp1, k_ch4, k_ch3, k_ch2, k_ch1, k_ite, k_call, k_ck2, k_ck1, k_eqd2, k_eqd1, k_mk3, k_mk2, k_mk1, k_mo3, k_mo2, k_mo1, k_bi, k_isi2, k_isi, k_me4, k_me3, k_me2, k_me1, k_attr, k_tup, k_lst, k_ix2, k_ix1, k_sl3, k_sl2, k_sl1, k_oi2, k_oi, k_lc, k_l2, k_l1, k_tr, k_bl2, k_bl, k_tn, k_ta, k_to, k_it, k_r1, k_r2b, k_r2, k_un, k_gs2, k_gs1, k_gt, k_gc, k_xs, k_seq, k_ex, k_sif, k_set, k_st, k_par2, k_par, k_aug2, k_aug1, k_sa2, k_sa1, k_aa4, k_aa3, k_aa2, k_aa1, k_frl, k_try, k_rn, k_rx, k_re, List.getElem?_cons_zero, List.getElem?_cons_succ, List.set_cons_zero, List.set_cons_succ, List.length_cons, List.length_nil, decide_eq_true_eq, Bool.not_eq_true', decide_eq_false_iff_not, if_true, if_false, Bool.false_eq_true, reduceIte, List.cons_append, List.nil_append, List.map_cons, List.map_nil, Nat.reduceLeDiff, and_true, true_and, startE, List.replicate, List.length_singleton, List.append_nil, decide_true, decide_false, not_true_eq_false, not_false_eq_true, Int.natAbs_natCast, Int.toNat_natCast, List.length_map, Bool.not_true, Bool.not_false, reduceCtorEq, subTN, ne_eq, and_self, true_and, Nat.reduceSub, Nat.reduceAdd, wipeE]
    · simp only [b9, c1, c2, EL.len, dvR, r, wR_ex, k_re, show ¬ ((0 : Int) = 1) from by decide, ↓e1_var, ↓e1_int, ↓e1_str, ↓e1_bl, ↓e1_non, ↓e1_glob, ↓e1_bin, ↓e1_neg, ↓e1_bitl, ↓e1_not, ↓e1_and, ↓e1_or, ↓e1_cmp, ↓e1_chain, ↓e1_ite, ↓e1_call, ↓e1_callK, ↓e1_eqd, ↓e1_make, ↓e1_meO, ↓e1_bi, ↓e1_isi, ↓e1_meth, ↓e1_attr, ↓e1_tup, ↓e1_lst, ↓e1_dict, ↓e1_dictT, ↓e1_ix, ↓e1_sl, ↓o1_nil, ↓o1_cons, ↓e1_lc, ↓l1_nil, ↓l1_cons, ↓t1_cmp, ↓t1_chain, ↓t1_eqd, ↓t1_not, ↓t1_and, ↓t1_or, ↓c1_nil, ↓c1_cons, ↓i1_val, ↓i1_r1, ↓i1_r2, ↓g1_nm, ↓g1_sub, ↓g1_tup, ↓gs1_nil, ↓gs1_cons, ↓s1_skip, ↓s1_seq, ↓s1_ret, ↓s1_retN, ↓s1_expr, ↓s1_ite, ↓s1_brk, ↓s1_cont, ↓s1_bad, ↓s1_set, ↓s1_setT, ↓s1_par, ↓s1_aug, ↓s1_sattr, ↓s1_aattr, ↓s1_raise0, ↓s1_tryO, ↓s1_tryA, ↓s1_whl, ↓s1_frl, ↓t2_var, ↓t2_bl, ↓t2_ix, ↓t2_call, ↓t2_callK, ↓t2_meO, ↓t2_bi, ↓t2_isi, ↓t2_meth, ↓t2_attr, ↓t2_bin, wR_ok, wR_bad, wR_ite, wV_some, wV_none, wV_no, wBl_bl, wBl_int, wOp_some, wOp_none, wInt_int, wTwo_two, dnF_P, dnF_m, dnF_call, dnF_call1, b_add, b_sub, b_mul, b_div, b_mod, b_pow, b_shl, b_shr, b_and, b_or, b_xor, c_eq, c_ne, c_lt, c_le, c_gt, c_ge, c_is, c_isn, c_in, c_nin, a_add, a_sub, p_add, p_sub, p_mul, p_div, p_mod, p_pow, p_shr, p_and2, p_neg, p_bits, p_lt, p_le, p_gt, p_ge, p_eqi, p_nei, p_eqs, p_nes, p_eqb, p_isn, p_isnn, t_bl, t_int, len_tup, bi_int, bi_intb, bi_abs, bi_lstT, wIx_l, wIx_f, wIx_d, wIx_t, wSq_l, wSq_f, wMl_l, wLs_l, wLs_f, wLs_d, wDk_d, wSt_l, wSt_d, wSt_t, wDl_d, wDl_t, rcvO_l, rcvO_f, rcvO_d, rcvO_t, tnO_l, tnO_f, tnO_d, tnO_t, lstO_l, lstO_f, keyV_i, keyV_s, q_ix, q_ixT, q_ixK, q_set, q_len, q_list, q_dict, q_tuple, q_it, q_itT, q_itK, q_itS, q_r1, q_r2, q_addL, q_addT, q_in, q_nin, q_eq, q_ne, eqB_i, eqB_s, eqB_b, q_slL, q_slT, q_tr, q_rcv, q_tn, tn_i, tn_b, tn_n, tn_s, tn_t, tn_k, me_app, me_pop, me_rev, me_clr, me_ins, me_idx, me_get, me_sd, q_app, q_rev, q_clr, q_pop, q_get1, q_get2, q_idx, at0, at1, at2, at3, ix0, ix1, ix2, ix3, atk, ls_len, ha_new, la_new, k_at, k_at2, k_bin2, k_bin1, k_neg, k_bits, k_not2, k_not1, k_and2, k_and1, k_or2, k_or1, k_cmp2, k_cmp1, k_ch4, k_ch3, k_ch2, k_ch1, k_ite, k_call, k_ck2, k_ck1, k_eqd2, k_eqd1, k_mk3, k_mk2, k_mk1, k_mo3, k_mo2, k_mo1, k_bi, k_isi2, k_isi, k_me4, k_me3, k_me2, k_me1, k_attr, k_tup, k_lst, k_ix2, k_ix1, k_sl3, k_sl2, k_sl1, k_oi2, k_oi, k_lc, k_l2, k_l1, k_tr, k_bl2, k_bl, k_tn, k_ta, k_to, k_it, k_r1, k_r2b, k_r2, k_un, k_gs2, k_gs1, k_gt, k_gc, k_xs, k_seq, k_ex, k_sif, k_set, k_st, k_par2, k_par, k_aug2, k_aug1, k_sa2, k_sa1, k_aa4, k_aa3, k_aa2, k_aa1, k_frl, k_try, k_rn, k_rx, k_re, List.getElem?_cons_zero, List.getElem?_cons_succ, List.set_cons_zero, List.set_cons_succ, List.length_cons, List.length_nil, decide_eq_true_eq, Bool.not_eq_true', decide_eq_false_iff_not, if_true, if_false, Bool.false_eq_true, reduceIte, List.cons_append, List.nil_append, List.map_cons, List.map_nil, Nat.reduceLeDiff, and_true, true_and, startE, List.replicate, List.length_singleton, List.append_nil, decide_true, decide_false, not_true_eq_false, not_false_eq_true, Int.natAbs_natCast, Int.toNat_natCast, List.length_map, Bool.not_true, Bool.not_false, reduceCtorEq, subTN, ne_eq, and_self, true_and, Nat.reduceSub, Nat.reduceAdd, wipeE]
theorem refused_ok (k : Nat) (p how : Int) (h : Hm) : callF fbs pg 100000 (k+4) 10 [.int p, .int how] h = .ok (.bl true) h := by
  apply wR_eq
  rw [callF_at (fi := ⟨3, b10⟩) (fd := ⟨"_law_refused", true, ps10, []⟩) (k+2) rfl rfl rfl, wR_ret]; show wS (dnF fbs pg 100000 (k+2)) b10 _ _ _ _ _ _ _
  have i1 : pg.isx 0 10 = some true := by decide
  have i2 : pg.isx 0 12 = some true := by decide
  have i3 : evXS (pg.isx 0) (.ret (.bl true)) = some true := rfl
  have i4 : evXS (pg.isx 0) (.ite (.isT [0, 1, 2, 3, 4, 5]) (.ret (.bl false)) (.ite (.isT [6, 7, 8, 9]) (.ret (.bl false)) (.ret (.and (.isI 10) (.isI 11))))) = some true := by decide
  by_cases c : how = 0
  · simp only [b10, c, dvN, told_ex, wR_ex, i1, i3, slotOk, ↓e1_var, ↓e1_int, ↓e1_str, ↓e1_bl, ↓e1_non, ↓e1_glob, ↓e1_bin, ↓e1_neg, ↓e1_bitl, ↓e1_not, ↓e1_and, ↓e1_or, ↓e1_cmp, ↓e1_chain, ↓e1_ite, ↓e1_call, ↓e1_callK, ↓e1_eqd, ↓e1_make, ↓e1_meO, ↓e1_bi, ↓e1_isi, ↓e1_meth, ↓e1_attr, ↓e1_tup, ↓e1_lst, ↓e1_dict, ↓e1_dictT, ↓e1_ix, ↓e1_sl, ↓o1_nil, ↓o1_cons, ↓e1_lc, ↓l1_nil, ↓l1_cons, ↓t1_cmp, ↓t1_chain, ↓t1_eqd, ↓t1_not, ↓t1_and, ↓t1_or, ↓c1_nil, ↓c1_cons, ↓i1_val, ↓i1_r1, ↓i1_r2, ↓g1_nm, ↓g1_sub, ↓g1_tup, ↓gs1_nil, ↓gs1_cons, ↓s1_skip, ↓s1_seq, ↓s1_ret, ↓s1_retN, ↓s1_expr, ↓s1_ite, ↓s1_brk, ↓s1_cont, ↓s1_bad, ↓s1_set, ↓s1_setT, ↓s1_par, ↓s1_aug, ↓s1_sattr, ↓s1_aattr, ↓s1_raise0, ↓s1_tryO, ↓s1_tryA, ↓s1_whl, ↓s1_frl, ↓t2_var, ↓t2_bl, ↓t2_ix, ↓t2_call, ↓t2_callK, ↓t2_meO, ↓t2_bi, ↓t2_isi, ↓t2_meth, ↓t2_attr, ↓t2_bin, wR_ok, wR_bad, wR_ite, wV_some, wV_none, wV_no, wBl_bl, wBl_int, wOp_some, wOp_none, wInt_int, wTwo_two, dnF_P, dnF_m, dnF_call, dnF_call1, b_add, b_sub, b_mul, b_div, b_mod, b_pow, b_shl, b_shr, b_and, b_or, b_xor, c_eq, c_ne, c_lt, c_le, c_gt, c_ge, c_is, c_isn, c_in, c_nin, a_add, a_sub, p_add, p_sub, p_mul, p_div, p_mod, p_pow, p_shr, p_and2, p_neg, p_bits, p_lt, p_le, p_gt, p_ge, p_eqi, p_nei, p_eqs, p_nes, p_eqb, p_isn, p_isnn, t_bl, t_int, len_tup, bi_int, bi_intb, bi_abs, bi_lstT, wIx_l, wIx_f, wIx_d, wIx_t, wSq_l, wSq_f, wMl_l, wLs_l, wLs_f, wLs_d, wDk_d, wSt_l, wSt_d, wSt_t, wDl_d, wDl_t, rcvO_l, rcvO_f, rcvO_d, rcvO_t, tnO_l, tnO_f, tnO_d, tnO_t, lstO_l, lstO_f, keyV_i, keyV_s, q_ix, q_ixT, q_ixK, q_set, q_len, q_list, q_dict, q_tuple, q_it, q_itT, q_itK, q_itS, q_r1, q_r2, q_addL, q_addT, q_in, q_nin, q_eq, q_ne, eqB_i, eqB_s, eqB_b, q_slL, q_slT, q_tr, q_rcv, q_tn, tn_i, tn_b, tn_n, tn_s, tn_t, tn_k, me_app, me_pop, me_rev, me_clr, me_ins, me_idx, me_get, me_sd, q_app, q_rev, q_clr, q_pop, q_get1, q_get2, q_idx, at0, at1, at2, at3, ix0, ix1, ix2, ix3, atk, ls_len, ha_new, la_new, k_at, k_at2, k_bin2, k_bin1, k_neg, k_bits, k_not2, k_not1, k_and2, k_and1, k_or2, k_or1, k_cmp2, k_cmp1, k_ch4, k_ch3, k_ch2, k_ch1, k_ite, k_call, k_ck2, k_ck1, k_eqd2, k_eqd1, k_mk3, k_mk2, k_mk1, k_mo3, k_mo2, k_mo1, k_bi, k_isi2, k_isi, k_me4, k_me3, k_me2, k_me1, k_attr, k_tup, k_lst, k_ix2, k_ix1, k_sl3, k_sl2, k_sl1, k_oi2, k_oi, k_lc, k_l2, k_l1, k_tr, k_bl2, k_bl, k_tn, k_ta, k_to, k_it, k_r1, k_r2b, k_r2, k_un, k_gs2, k_gs1, k_gt, k_gc, k_xs, k_seq, k_ex, k_sif, k_set, k_st, k_par2, k_par, k_aug2, k_aug1, k_sa2, k_sa1, k_aa4, k_aa3, k_aa2, k_aa1, k_frl, k_try, k_rn, k_rx, k_re, List.getElem?_cons_zero, List.getElem?_cons_succ, List.set_cons_zero, List.set_cons_succ, List.length_cons, List.length_nil, decide_eq_true_eq, Bool.not_eq_true', decide_eq_false_iff_not, if_true, if_false, Bool.false_eq_true, reduceIte, List.cons_append, List.nil_append, List.map_cons, List.map_nil, Nat.reduceLeDiff, and_true, true_and, startE, List.replicate, List.length_singleton, List.append_nil, decide_true, decide_false, not_true_eq_false, not_false_eq_true, Int.natAbs_natCast, Int.toNat_natCast, List.length_map, Bool.not_true, Bool.not_false, reduceCtorEq, subTN, ne_eq, and_self, true_and, Nat.reduceSub, Nat.reduceAdd, wipeE]
  · by_cases c2 : how = 2
    · subst c2
      simp only [b10, c, dvN, told_ex, wR_ex, i1, i3, slotOk, ↓e1_var, ↓e1_int, ↓e1_str, ↓e1_bl, ↓e1_non, ↓e1_glob, ↓e1_bin, ↓e1_neg, ↓e1_bitl, ↓e1_not, ↓e1_and, ↓e1_or, ↓e1_cmp, ↓e1_chain, ↓e1_ite, ↓e1_call, ↓e1_callK, ↓e1_eqd, ↓e1_make, ↓e1_meO, ↓e1_bi, ↓e1_isi, ↓e1_meth, ↓e1_attr, ↓e1_tup, ↓e1_lst, ↓e1_dict, ↓e1_dictT, ↓e1_ix, ↓e1_sl, ↓o1_nil, ↓o1_cons, ↓e1_lc, ↓l1_nil, ↓l1_cons, ↓t1_cmp, ↓t1_chain, ↓t1_eqd, ↓t1_not, ↓t1_and, ↓t1_or, ↓c1_nil, ↓c1_cons, ↓i1_val, ↓i1_r1, ↓i1_r2, ↓g1_nm, ↓g1_sub, ↓g1_tup, ↓gs1_nil, ↓gs1_cons, ↓s1_skip, ↓s1_seq, ↓s1_ret, ↓s1_retN, ↓s1_expr, ↓s1_ite, ↓s1_brk, ↓s1_cont, ↓s1_bad, ↓s1_set, ↓s1_setT, ↓s1_par, ↓s1_aug, ↓s1_sattr, ↓s1_aattr, ↓s1_raise0, ↓s1_tryO, ↓s1_tryA, ↓s1_whl, ↓s1_frl, ↓t2_var, ↓t2_bl, ↓t2_ix, ↓t2_call, ↓t2_callK, ↓t2_meO, ↓t2_bi, ↓t2_isi, ↓t2_meth, ↓t2_attr, ↓t2_bin, wR_ok, wR_bad, wR_ite, wV_some, wV_none, wV_no, wBl_bl, wBl_int, wOp_some, wOp_none, wInt_int, wTwo_two, dnF_P, dnF_m, dnF_call, dnF_call1, b_add, b_sub, b_mul, b_div, b_mod, b_pow, b_shl, b_shr, b_and, b_or, b_xor, c_eq, c_ne, c_lt, c_le, c_gt, c_ge, c_is, c_isn, c_in, c_nin, a_add, a_sub, p_add, p_sub, p_mul, p_div, p_mod, p_pow, p_shr, p_and2, p_neg, p_bits, p_lt, p_le, p_gt, p_ge, p_eqi, p_nei, p_eqs, p_nes, p_eqb, p_isn, p_isnn, t_bl, t_int, len_tup, bi_int, bi_intb, bi_abs, bi_lstT, wIx_l, wIx_f, wIx_d, wIx_t, wSq_l, wSq_f, wMl_l, wLs_l, wLs_f, wLs_d, wDk_d, wSt_l, wSt_d, wSt_t, wDl_d, wDl_t, rcvO_l, rcvO_f, rcvO_d, rcvO_t, tnO_l, tnO_f, tnO_d, tnO_t, lstO_l, lstO_f, keyV_i, keyV_s, q_ix, q_ixT, q_ixK, q_set, q_len, q_list, q_dict, q_tuple, q_it, q_itT, q_itK, q_itS, q_r1, q_r2, q_addL, q_addT, q_in, q_nin, q_eq, q_ne, eqB_i, eqB_s, eqB_b, q_slL, q_slT, q_tr, q_rcv, q_tn, tn_i, tn_b, tn_n, tn_s, tn_t, tn_k, me_app, me_pop, me_rev, me_clr, me_ins, me_idx, me_get, me_sd, q_app, q_rev, q_clr, q_pop, q_get1, q_get2, q_idx, at0, at1, at2, at3, ix0, ix1, ix2, ix3, atk, ls_len, ha_new, la_new, k_at, k_at2, k_bin2, k_bin1, k_neg, k_bits, k_not2, k_not1, k_and2, k_and1, k_or2, k_or1, k_cmp2, k_cmp1, k_ch4, k_ch3, k_ch2, k_ch1, k_ite, k_call, k_ck2, k_ck1, k_eqd2, k_eqd1, k_mk3, k_mk2, k_mk1, k_mo3, k_mo2, k_mo1, k_bi, k_isi2, k_isi, k_me4, k_me3, k_me2, k_me1, k_attr, k_tup, k_lst, k_ix2, k_ix1, k_sl3, k_sl2, k_sl1, k_oi2, k_oi, k_lc, k_l2, k_l1, k_tr, k_bl2, k_bl, k_tn, k_ta, k_to, k_it, k_r1, k_r2b, k_r2, k_un, k_gs2, k_gs1, k_gt, k_gc, k_xs, k_seq, k_ex, k_sif, k_set, k_st, k_par2, k_par, k_aug2, k_aug1, k_sa2, k_sa1, k_aa4, k_aa3, k_aa2, k_aa1, k_frl, k_try, k_rn, k_rx, k_re, List.getElem?_cons_zero, List.getElem?_cons_succ, List.set_cons_zero, List.set_cons_succ, List.length_cons, List.length_nil, decide_eq_true_eq, Bool.not_eq_true', decide_eq_false_iff_not, if_true, if_false, Bool.false_eq_true, reduceIte, List.cons_append, List.nil_append, List.map_cons, List.map_nil, Nat.reduceLeDiff, and_true, true_and, startE, List.replicate, List.length_singleton, List.append_nil, decide_true, decide_false, not_true_eq_false, not_false_eq_true, Int.natAbs_natCast, Int.toNat_natCast, List.length_map, Bool.not_true, Bool.not_false, reduceCtorEq, subTN, ne_eq, and_self, true_and, Nat.reduceSub, Nat.reduceAdd, wipeE]
    · simp only [b10, c, c2, dvN, told_ex, wR_ex, i2, i4, slotOk, ↓e1_var, ↓e1_int, ↓e1_str, ↓e1_bl, ↓e1_non, ↓e1_glob, ↓e1_bin, ↓e1_neg, ↓e1_bitl, ↓e1_not, ↓e1_and, ↓e1_or, ↓e1_cmp, ↓e1_chain, ↓e1_ite, ↓e1_call, ↓e1_callK, ↓e1_eqd, ↓e1_make, ↓e1_meO, ↓e1_bi, ↓e1_isi, ↓e1_meth, ↓e1_attr, ↓e1_tup, ↓e1_lst, ↓e1_dict, ↓e1_dictT, ↓e1_ix, ↓e1_sl, ↓o1_nil, ↓o1_cons, ↓e1_lc, ↓l1_nil, ↓l1_cons, ↓t1_cmp, ↓t1_chain, ↓t1_eqd, ↓t1_not, ↓t1_and, ↓t1_or, ↓c1_nil, ↓c1_cons, ↓i1_val, ↓i1_r1, ↓i1_r2, ↓g1_nm, ↓g1_sub, ↓g1_tup, ↓gs1_nil, ↓gs1_cons, ↓s1_skip, ↓s1_seq, ↓s1_ret, ↓s1_retN, ↓s1_expr, ↓s1_ite, ↓s1_brk, ↓s1_cont, ↓s1_bad, ↓s1_set, ↓s1_setT, ↓s1_par, ↓s1_aug, ↓s1_sattr, ↓s1_aattr, ↓s1_raise0, ↓s1_tryO, ↓s1_tryA, ↓s1_whl, ↓s1_frl, ↓t2_var, ↓t2_bl, ↓t2_ix, ↓t2_call, ↓t2_callK, ↓t2_meO, ↓t2_bi, ↓t2_isi, ↓t2_meth, ↓t2_attr, ↓t2_bin, wR_ok, wR_bad, wR_ite, wV_some, wV_none, wV_no, wBl_bl, wBl_int, wOp_some, wOp_none, wInt_int, wTwo_two, dnF_P, dnF_m, dnF_call, dnF_call1, b_add, b_sub, b_mul, b_div, b_mod, b_pow, b_shl, b_shr, b_and, b_or, b_xor, c_eq, c_ne, c_lt, c_le, c_gt, c_ge, c_is, c_isn, c_in, c_nin, a_add, a_sub, p_add, p_sub, p_mul, p_div, p_mod, p_pow, p_shr, p_and2, p_neg, p_bits, p_lt, p_le, p_gt, p_ge, p_eqi, p_nei, p_eqs, p_nes, p_eqb, p_isn, p_isnn, t_bl, t_int, len_tup, bi_int, bi_intb, bi_abs, bi_lstT, wIx_l, wIx_f, wIx_d, wIx_t, wSq_l, wSq_f, wMl_l, wLs_l, wLs_f, wLs_d, wDk_d, wSt_l, wSt_d, wSt_t, wDl_d, wDl_t, rcvO_l, rcvO_f, rcvO_d, rcvO_t, tnO_l, tnO_f, tnO_d, tnO_t, lstO_l, lstO_f, keyV_i, keyV_s, q_ix, q_ixT, q_ixK, q_set, q_len, q_list, q_dict, q_tuple, q_it, q_itT, q_itK, q_itS, q_r1, q_r2, q_addL, q_addT, q_in, q_nin, q_eq, q_ne, eqB_i, eqB_s, eqB_b, q_slL, q_slT, q_tr, q_rcv, q_tn, tn_i, tn_b, tn_n, tn_s, tn_t, tn_k, me_app, me_pop, me_rev, me_clr, me_ins, me_idx, me_get, me_sd, q_app, q_rev, q_clr, q_pop, q_get1, q_get2, q_idx, at0, at1, at2, at3, ix0, ix1, ix2, ix3, atk, ls_len, ha_new, la_new, k_at, k_at2, k_bin2, k_bin1, k_neg, k_bits, k_not2, k_not1, k_and2, k_and1, k_or2, k_or1, k_cmp2, k_cmp1, k_ch4, k_ch3, k_ch2, k_ch1, k_ite, k_call, k_ck2, k_ck1, k_eqd2, k_eqd1, k_mk3, k_mk2, k_mk1, k_mo3, k_mo2, k_mo1, k_bi, k_isi2, k_isi, k_me4, k_me3, k_me2, k_me1, k_attr, k_tup, k_lst, k_ix2, k_ix1, k_sl3, k_sl2, k_sl1, k_oi2, k_oi, k_lc, k_l2, k_l1, k_tr, k_bl2, k_bl, k_tn, k_ta, k_to, k_it, k_r1, k_r2b, k_r2, k_un, k_gs2, k_gs1, k_gt, k_gc, k_xs, k_seq, k_ex, k_sif, k_set, k_st, k_par2, k_par, k_aug2, k_aug1, k_sa2, k_sa1, k_aa4, k_aa3, k_aa2, k_aa1, k_frl, k_try, k_rn, k_rx, k_re, List.getElem?_cons_zero, List.getElem?_cons_succ, List.set_cons_zero, List.set_cons_succ, List.length_cons, List.length_nil, decide_eq_true_eq, Bool.not_eq_true', decide_eq_false_iff_not, if_true, if_false, Bool.false_eq_true, reduceIte, List.cons_append, List.nil_append, List.map_cons, List.map_nil, Nat.reduceLeDiff, and_true, true_and, startE, List.replicate, List.length_singleton, List.append_nil, decide_true, decide_false, not_true_eq_false, not_false_eq_true, Int.natAbs_natCast, Int.toNat_natCast, List.length_map, Bool.not_true, Bool.not_false, reduceCtorEq, subTN, ne_eq, and_self, true_and, Nat.reduceSub, Nat.reduceAdd, wipeE]
      try decide
theorem asked_ok (k : Nat) (p q how : Int) (h : Hm) (bp : p.natAbs < 2 ^ 4000) (bq : q.natAbs < 2 ^ 4000) : callF fbs pg 100000 (k+5) 11 [.int p, .int q, .int how] h = .ok (.bl true) h := by
  apply wR_eq
  rw [callF_at (fi := ⟨3, b11⟩) (fd := ⟨"_law_asked", true, ps11, []⟩) (k+3) rfl rfl rfl, wR_ret]; show wS (dnF fbs pg 100000 (k+3)) b11 _ _ _ _ _ _ _
  by_cases c : q = 0
  · subst c
    obtain ⟨a, b, lw, e, l1, l2, r⟩ := ratio_ok (k+2) p 1 h (by decide) (by decide)
    have d := due_ok (k+1) a b p 1 h lw e (by omega) (by omega) bp (by decide)
    simp only [b11, dvN, dvR, EL.len, refused_ok, r, d, ↓e1_var, ↓e1_int, ↓e1_str, ↓e1_bl, ↓e1_non, ↓e1_glob, ↓e1_bin, ↓e1_neg, ↓e1_bitl, ↓e1_not, ↓e1_and, ↓e1_or, ↓e1_cmp, ↓e1_chain, ↓e1_ite, ↓e1_call, ↓e1_callK, ↓e1_eqd, ↓e1_make, ↓e1_meO, ↓e1_bi, ↓e1_isi, ↓e1_meth, ↓e1_attr, ↓e1_tup, ↓e1_lst, ↓e1_dict, ↓e1_dictT, ↓e1_ix, ↓e1_sl, ↓o1_nil, ↓o1_cons, ↓e1_lc, ↓l1_nil, ↓l1_cons, ↓t1_cmp, ↓t1_chain, ↓t1_eqd, ↓t1_not, ↓t1_and, ↓t1_or, ↓c1_nil, ↓c1_cons, ↓i1_val, ↓i1_r1, ↓i1_r2, ↓g1_nm, ↓g1_sub, ↓g1_tup, ↓gs1_nil, ↓gs1_cons, ↓s1_skip, ↓s1_seq, ↓s1_ret, ↓s1_retN, ↓s1_expr, ↓s1_ite, ↓s1_brk, ↓s1_cont, ↓s1_bad, ↓s1_set, ↓s1_setT, ↓s1_par, ↓s1_aug, ↓s1_sattr, ↓s1_aattr, ↓s1_raise0, ↓s1_tryO, ↓s1_tryA, ↓s1_whl, ↓s1_frl, ↓t2_var, ↓t2_bl, ↓t2_ix, ↓t2_call, ↓t2_callK, ↓t2_meO, ↓t2_bi, ↓t2_isi, ↓t2_meth, ↓t2_attr, ↓t2_bin, wR_ok, wR_bad, wR_ite, wV_some, wV_none, wV_no, wBl_bl, wBl_int, wOp_some, wOp_none, wInt_int, wTwo_two, dnF_P, dnF_m, dnF_call, dnF_call1, b_add, b_sub, b_mul, b_div, b_mod, b_pow, b_shl, b_shr, b_and, b_or, b_xor, c_eq, c_ne, c_lt, c_le, c_gt, c_ge, c_is, c_isn, c_in, c_nin, a_add, a_sub, p_add, p_sub, p_mul, p_div, p_mod, p_pow, p_shr, p_and2, p_neg, p_bits, p_lt, p_le, p_gt, p_ge, p_eqi, p_nei, p_eqs, p_nes, p_eqb, p_isn, p_isnn, t_bl, t_int, len_tup, bi_int, bi_intb, bi_abs, bi_lstT, wIx_l, wIx_f, wIx_d, wIx_t, wSq_l, wSq_f, wMl_l, wLs_l, wLs_f, wLs_d, wDk_d, wSt_l, wSt_d, wSt_t, wDl_d, wDl_t, rcvO_l, rcvO_f, rcvO_d, rcvO_t, tnO_l, tnO_f, tnO_d, tnO_t, lstO_l, lstO_f, keyV_i, keyV_s, q_ix, q_ixT, q_ixK, q_set, q_len, q_list, q_dict, q_tuple, q_it, q_itT, q_itK, q_itS, q_r1, q_r2, q_addL, q_addT, q_in, q_nin, q_eq, q_ne, eqB_i, eqB_s, eqB_b, q_slL, q_slT, q_tr, q_rcv, q_tn, tn_i, tn_b, tn_n, tn_s, tn_t, tn_k, me_app, me_pop, me_rev, me_clr, me_ins, me_idx, me_get, me_sd, q_app, q_rev, q_clr, q_pop, q_get1, q_get2, q_idx, at0, at1, at2, at3, ix0, ix1, ix2, ix3, atk, ls_len, ha_new, la_new, k_at, k_at2, k_bin2, k_bin1, k_neg, k_bits, k_not2, k_not1, k_and2, k_and1, k_or2, k_or1, k_cmp2, k_cmp1, k_ch4, k_ch3, k_ch2, k_ch1, k_ite, k_call, k_ck2, k_ck1, k_eqd2, k_eqd1, k_mk3, k_mk2, k_mk1, k_mo3, k_mo2, k_mo1, k_bi, k_isi2, k_isi, k_me4, k_me3, k_me2, k_me1, k_attr, k_tup, k_lst, k_ix2, k_ix1, k_sl3, k_sl2, k_sl1, k_oi2, k_oi, k_lc, k_l2, k_l1, k_tr, k_bl2, k_bl, k_tn, k_ta, k_to, k_it, k_r1, k_r2b, k_r2, k_un, k_gs2, k_gs1, k_gt, k_gc, k_xs, k_seq, k_ex, k_sif, k_set, k_st, k_par2, k_par, k_aug2, k_aug1, k_sa2, k_sa1, k_aa4, k_aa3, k_aa2, k_aa1, k_frl, k_try, k_rn, k_rx, k_re, List.getElem?_cons_zero, List.getElem?_cons_succ, List.set_cons_zero, List.set_cons_succ, List.length_cons, List.length_nil, decide_eq_true_eq, Bool.not_eq_true', decide_eq_false_iff_not, if_true, if_false, Bool.false_eq_true, reduceIte, List.cons_append, List.nil_append, List.map_cons, List.map_nil, Nat.reduceLeDiff, and_true, true_and, startE, List.replicate, List.length_singleton, List.append_nil, decide_true, decide_false, not_true_eq_false, not_false_eq_true, Int.natAbs_natCast, Int.toNat_natCast, List.length_map, Bool.not_true, Bool.not_false, reduceCtorEq, subTN, ne_eq, and_self, true_and, Nat.reduceSub, Nat.reduceAdd, wipeE]
  · obtain ⟨a, b, lw, e, l1, l2, r⟩ := told_ok (k+1) p q how h c bq
    have d := due_ok (k+1) a b p q h lw e (by omega) (by omega) bp bq
    simp only [b11, c, dvN, EL.len, r, d, ↓e1_var, ↓e1_int, ↓e1_str, ↓e1_bl, ↓e1_non, ↓e1_glob, ↓e1_bin, ↓e1_neg, ↓e1_bitl, ↓e1_not, ↓e1_and, ↓e1_or, ↓e1_cmp, ↓e1_chain, ↓e1_ite, ↓e1_call, ↓e1_callK, ↓e1_eqd, ↓e1_make, ↓e1_meO, ↓e1_bi, ↓e1_isi, ↓e1_meth, ↓e1_attr, ↓e1_tup, ↓e1_lst, ↓e1_dict, ↓e1_dictT, ↓e1_ix, ↓e1_sl, ↓o1_nil, ↓o1_cons, ↓e1_lc, ↓l1_nil, ↓l1_cons, ↓t1_cmp, ↓t1_chain, ↓t1_eqd, ↓t1_not, ↓t1_and, ↓t1_or, ↓c1_nil, ↓c1_cons, ↓i1_val, ↓i1_r1, ↓i1_r2, ↓g1_nm, ↓g1_sub, ↓g1_tup, ↓gs1_nil, ↓gs1_cons, ↓s1_skip, ↓s1_seq, ↓s1_ret, ↓s1_retN, ↓s1_expr, ↓s1_ite, ↓s1_brk, ↓s1_cont, ↓s1_bad, ↓s1_set, ↓s1_setT, ↓s1_par, ↓s1_aug, ↓s1_sattr, ↓s1_aattr, ↓s1_raise0, ↓s1_tryO, ↓s1_tryA, ↓s1_whl, ↓s1_frl, ↓t2_var, ↓t2_bl, ↓t2_ix, ↓t2_call, ↓t2_callK, ↓t2_meO, ↓t2_bi, ↓t2_isi, ↓t2_meth, ↓t2_attr, ↓t2_bin, wR_ok, wR_bad, wR_ite, wV_some, wV_none, wV_no, wBl_bl, wBl_int, wOp_some, wOp_none, wInt_int, wTwo_two, dnF_P, dnF_m, dnF_call, dnF_call1, b_add, b_sub, b_mul, b_div, b_mod, b_pow, b_shl, b_shr, b_and, b_or, b_xor, c_eq, c_ne, c_lt, c_le, c_gt, c_ge, c_is, c_isn, c_in, c_nin, a_add, a_sub, p_add, p_sub, p_mul, p_div, p_mod, p_pow, p_shr, p_and2, p_neg, p_bits, p_lt, p_le, p_gt, p_ge, p_eqi, p_nei, p_eqs, p_nes, p_eqb, p_isn, p_isnn, t_bl, t_int, len_tup, bi_int, bi_intb, bi_abs, bi_lstT, wIx_l, wIx_f, wIx_d, wIx_t, wSq_l, wSq_f, wMl_l, wLs_l, wLs_f, wLs_d, wDk_d, wSt_l, wSt_d, wSt_t, wDl_d, wDl_t, rcvO_l, rcvO_f, rcvO_d, rcvO_t, tnO_l, tnO_f, tnO_d, tnO_t, lstO_l, lstO_f, keyV_i, keyV_s, q_ix, q_ixT, q_ixK, q_set, q_len, q_list, q_dict, q_tuple, q_it, q_itT, q_itK, q_itS, q_r1, q_r2, q_addL, q_addT, q_in, q_nin, q_eq, q_ne, eqB_i, eqB_s, eqB_b, q_slL, q_slT, q_tr, q_rcv, q_tn, tn_i, tn_b, tn_n, tn_s, tn_t, tn_k, me_app, me_pop, me_rev, me_clr, me_ins, me_idx, me_get, me_sd, q_app, q_rev, q_clr, q_pop, q_get1, q_get2, q_idx, at0, at1, at2, at3, ix0, ix1, ix2, ix3, atk, ls_len, ha_new, la_new, k_at, k_at2, k_bin2, k_bin1, k_neg, k_bits, k_not2, k_not1, k_and2, k_and1, k_or2, k_or1, k_cmp2, k_cmp1, k_ch4, k_ch3, k_ch2, k_ch1, k_ite, k_call, k_ck2, k_ck1, k_eqd2, k_eqd1, k_mk3, k_mk2, k_mk1, k_mo3, k_mo2, k_mo1, k_bi, k_isi2, k_isi, k_me4, k_me3, k_me2, k_me1, k_attr, k_tup, k_lst, k_ix2, k_ix1, k_sl3, k_sl2, k_sl1, k_oi2, k_oi, k_lc, k_l2, k_l1, k_tr, k_bl2, k_bl, k_tn, k_ta, k_to, k_it, k_r1, k_r2b, k_r2, k_un, k_gs2, k_gs1, k_gt, k_gc, k_xs, k_seq, k_ex, k_sif, k_set, k_st, k_par2, k_par, k_aug2, k_aug1, k_sa2, k_sa1, k_aa4, k_aa3, k_aa2, k_aa1, k_frl, k_try, k_rn, k_rx, k_re, List.getElem?_cons_zero, List.getElem?_cons_succ, List.set_cons_zero, List.set_cons_succ, List.length_cons, List.length_nil, decide_eq_true_eq, Bool.not_eq_true', decide_eq_false_iff_not, if_true, if_false, Bool.false_eq_true, reduceIte, List.cons_append, List.nil_append, List.map_cons, List.map_nil, Nat.reduceLeDiff, and_true, true_and, startE, List.replicate, List.length_singleton, List.append_nil, decide_true, decide_false, not_true_eq_false, not_false_eq_true, Int.natAbs_natCast, Int.toNat_natCast, List.length_map, Bool.not_true, Bool.not_false, reduceCtorEq, subTN, ne_eq, and_self, true_and, Nat.reduceSub, Nat.reduceAdd, wipeE]
end RL

set_option Elab.async false
set_option linter.all false
set_option maxRecDepth 100000
set_option maxHeartbeats 1000000
set_option autoImplicit false
namespace RL
open RS
theorem slow_g (k p : Nat) {h h0 : Hm} {P : PV → Hm → Prop} {X : Ex → Hm → Prop} (g : Grow p h0 h) (c : ∀ x y h2, Grow p h0 h2 → Sz 200 x → Sz 200 y → P (.tup [.int x, .int y]) h2) : wR (callF fbs pg 100000 (k+3) 5 [.ref p] h) P X := by
  have w : wR (callF fbs pg 100000 (k+3) 5 [.ref p] h) (fun v h2 => Grow p h0 h2 ∧ ∃ x y, v = .tup [.int x, .int y] ∧ Sz 200 x ∧ Sz 200 y) XF := by
    rw [callF_at (fi := ⟨4, b5⟩) (fd := ⟨"_law_slow", true, ps5, []⟩) (k+1) rfl rfl rfl, wR_ret]; show wS (dnF fbs pg 100000 (k+1)) b5 _ _ _ _ _ _ _
    simp only [b5, dvN, ↓e1_var, ↓e1_int, ↓e1_str, ↓e1_bl, ↓e1_non, ↓e1_glob, ↓e1_bin, ↓e1_neg, ↓e1_bitl, ↓e1_not, ↓e1_and, ↓e1_or, ↓e1_cmp, ↓e1_chain, ↓e1_ite, ↓e1_call, ↓e1_callK, ↓e1_eqd, ↓e1_make, ↓e1_meO, ↓e1_bi, ↓e1_isi, ↓e1_meth, ↓e1_attr, ↓e1_tup, ↓e1_lst, ↓e1_dict, ↓e1_dictT, ↓e1_ix, ↓e1_sl, ↓o1_nil, ↓o1_cons, ↓e1_lc, ↓l1_nil, ↓l1_cons, ↓t1_cmp, ↓t1_chain, ↓t1_eqd, ↓t1_not, ↓t1_and, ↓t1_or, ↓c1_nil, ↓c1_cons, ↓i1_val, ↓i1_r1, ↓i1_r2, ↓g1_nm, ↓g1_sub, ↓g1_tup, ↓gs1_nil, ↓gs1_cons, ↓s1_skip, ↓s1_seq, ↓s1_ret, ↓s1_retN, ↓s1_expr, ↓s1_ite, ↓s1_brk, ↓s1_cont, ↓s1_bad, ↓s1_set, ↓s1_setT, ↓s1_par, ↓s1_aug, ↓s1_sattr, ↓s1_aattr, ↓s1_raise0, ↓s1_tryO, ↓s1_tryA, ↓s1_whl, ↓s1_frl, ↓t2_var, ↓t2_bl, ↓t2_ix, ↓t2_call, ↓t2_callK, ↓t2_meO, ↓t2_bi, ↓t2_isi, ↓t2_meth, ↓t2_attr, ↓t2_bin, wR_ok, wR_bad, wR_ite, wV_some, wV_none, wV_no, wBl_bl, wBl_int, wOp_some, wOp_none, wInt_int, wTwo_two, dnF_P, dnF_m, dnF_call, dnF_call1, b_add, b_sub, b_mul, b_div, b_mod, b_pow, b_shl, b_shr, b_and, b_or, b_xor, c_eq, c_ne, c_lt, c_le, c_gt, c_ge, c_is, c_isn, c_in, c_nin, a_add, a_sub, p_add, p_sub, p_mul, p_div, p_mod, p_pow, p_shr, p_and2, p_neg, p_bits, p_lt, p_le, p_gt, p_ge, p_eqi, p_nei, p_eqs, p_nes, p_eqb, p_isn, p_isnn, t_bl, t_int, len_tup, bi_int, bi_intb, bi_abs, bi_lstT, wIx_l, wIx_f, wIx_d, wIx_t, wSq_l, wSq_f, wMl_l, wLs_l, wLs_f, wLs_d, wDk_d, wSt_l, wSt_d, wSt_t, wDl_d, wDl_t, rcvO_l, rcvO_f, rcvO_d, rcvO_t, tnO_l, tnO_f, tnO_d, tnO_t, lstO_l, lstO_f, keyV_i, keyV_s, q_ix, q_ixT, q_ixK, q_set, q_len, q_list, q_dict, q_tuple, q_it, q_itT, q_itK, q_itS, q_r1, q_r2, q_addL, q_addT, q_in, q_nin, q_eq, q_ne, eqB_i, eqB_s, eqB_b, q_slL, q_slT, q_tr, q_rcv, q_tn, tn_i, tn_b, tn_n, tn_s, tn_t, tn_k, me_app, me_pop, me_rev, me_clr, me_ins, me_idx, me_get, me_sd, q_app, q_rev, q_clr, q_pop, q_get1, q_get2, q_idx, at0, at1, at2, at3, ix0, ix1, ix2, ix3, atk, ls_len, ha_new, la_new, k_at, k_at2, k_bin2, k_bin1, k_neg, k_bits, k_not2, k_not1, k_and2, k_and1, k_or2, k_or1, k_cmp2, k_cmp1, k_ch4, k_ch3, k_ch2, k_ch1, k_ite, k_call, k_ck2, k_ck1, k_eqd2, k_eqd1, k_mk3, k_mk2, k_mk1, k_mo3, k_mo2, k_mo1, k_bi, k_isi2, k_isi, k_me4, k_me3, k_me2, k_me1, k_attr, k_tup, k_lst, k_ix2, k_ix1, k_sl3, k_sl2, k_sl1, k_oi2, k_oi, k_lc, k_l2, k_l1, k_tr, k_bl2, k_bl, k_tn, k_ta, k_to, k_it, k_r1, k_r2b, k_r2, k_un, k_gs2, k_gs1, k_gt, k_gc, k_xs, k_seq, k_ex, k_sif, k_set, k_st, k_par2, k_par, k_aug2, k_aug1, k_sa2, k_sa1, k_aa4, k_aa3, k_aa2, k_aa1, k_frl, k_try, k_rn, k_rx, k_re, List.getElem?_cons_zero, List.getElem?_cons_succ, List.set_cons_zero, List.set_cons_succ, List.length_cons, List.length_nil, decide_eq_true_eq, Bool.not_eq_true', decide_eq_false_iff_not, if_true, if_false, Bool.false_eq_true, reduceIte, List.cons_append, List.nil_append, List.map_cons, List.map_nil, Nat.reduceLeDiff, and_true, true_and, startE, List.replicate, List.length_singleton, List.append_nil, decide_true, decide_false, not_true_eq_false, not_false_eq_true, Int.natAbs_natCast, Int.toNat_natCast, List.length_map, Bool.not_true, Bool.not_false, reduceCtorEq, subTN, ne_eq, and_self, true_and, Nat.reduceSub, Nat.reduceAdd, wipeE]
    refine fm _ p g (by decide) (by decide) fun r h1 r0 r1 g1 => ?_
    simp only [dvN, ↓e1_var, ↓e1_int, ↓e1_str, ↓e1_bl, ↓e1_non, ↓e1_glob, ↓e1_bin, ↓e1_neg, ↓e1_bitl, ↓e1_not, ↓e1_and, ↓e1_or, ↓e1_cmp, ↓e1_chain, ↓e1_ite, ↓e1_call, ↓e1_callK, ↓e1_eqd, ↓e1_make, ↓e1_meO, ↓e1_bi, ↓e1_isi, ↓e1_meth, ↓e1_attr, ↓e1_tup, ↓e1_lst, ↓e1_dict, ↓e1_dictT, ↓e1_ix, ↓e1_sl, ↓o1_nil, ↓o1_cons, ↓e1_lc, ↓l1_nil, ↓l1_cons, ↓t1_cmp, ↓t1_chain, ↓t1_eqd, ↓t1_not, ↓t1_and, ↓t1_or, ↓c1_nil, ↓c1_cons, ↓i1_val, ↓i1_r1, ↓i1_r2, ↓g1_nm, ↓g1_sub, ↓g1_tup, ↓gs1_nil, ↓gs1_cons, ↓s1_skip, ↓s1_seq, ↓s1_ret, ↓s1_retN, ↓s1_expr, ↓s1_ite, ↓s1_brk, ↓s1_cont, ↓s1_bad, ↓s1_set, ↓s1_setT, ↓s1_par, ↓s1_aug, ↓s1_sattr, ↓s1_aattr, ↓s1_raise0, ↓s1_tryO, ↓s1_tryA, ↓s1_whl, ↓s1_frl, ↓t2_var, ↓t2_bl, ↓t2_ix, ↓t2_call, ↓t2_callK, ↓t2_meO, ↓t2_bi, ↓t2_isi, ↓t2_meth, ↓t2_attr, ↓t2_bin, wR_ok, wR_bad, wR_ite, wV_some, wV_none, wV_no, wBl_bl, wBl_int, wOp_some, wOp_none, wInt_int, wTwo_two, dnF_P, dnF_m, dnF_call, dnF_call1, b_add, b_sub, b_mul, b_div, b_mod, b_pow, b_shl, b_shr, b_and, b_or, b_xor, c_eq, c_ne, c_lt, c_le, c_gt, c_ge, c_is, c_isn, c_in, c_nin, a_add, a_sub, p_add, p_sub, p_mul, p_div, p_mod, p_pow, p_shr, p_and2, p_neg, p_bits, p_lt, p_le, p_gt, p_ge, p_eqi, p_nei, p_eqs, p_nes, p_eqb, p_isn, p_isnn, t_bl, t_int, len_tup, bi_int, bi_intb, bi_abs, bi_lstT, wIx_l, wIx_f, wIx_d, wIx_t, wSq_l, wSq_f, wMl_l, wLs_l, wLs_f, wLs_d, wDk_d, wSt_l, wSt_d, wSt_t, wDl_d, wDl_t, rcvO_l, rcvO_f, rcvO_d, rcvO_t, tnO_l, tnO_f, tnO_d, tnO_t, lstO_l, lstO_f, keyV_i, keyV_s, q_ix, q_ixT, q_ixK, q_set, q_len, q_list, q_dict, q_tuple, q_it, q_itT, q_itK, q_itS, q_r1, q_r2, q_addL, q_addT, q_in, q_nin, q_eq, q_ne, eqB_i, eqB_s, eqB_b, q_slL, q_slT, q_tr, q_rcv, q_tn, tn_i, tn_b, tn_n, tn_s, tn_t, tn_k, me_app, me_pop, me_rev, me_clr, me_ins, me_idx, me_get, me_sd, q_app, q_rev, q_clr, q_pop, q_get1, q_get2, q_idx, at0, at1, at2, at3, ix0, ix1, ix2, ix3, atk, ls_len, ha_new, la_new, k_at, k_at2, k_bin2, k_bin1, k_neg, k_bits, k_not2, k_not1, k_and2, k_and1, k_or2, k_or1, k_cmp2, k_cmp1, k_ch4, k_ch3, k_ch2, k_ch1, k_ite, k_call, k_ck2, k_ck1, k_eqd2, k_eqd1, k_mk3, k_mk2, k_mk1, k_mo3, k_mo2, k_mo1, k_bi, k_isi2, k_isi, k_me4, k_me3, k_me2, k_me1, k_attr, k_tup, k_lst, k_ix2, k_ix1, k_sl3, k_sl2, k_sl1, k_oi2, k_oi, k_lc, k_l2, k_l1, k_tr, k_bl2, k_bl, k_tn, k_ta, k_to, k_it, k_r1, k_r2b, k_r2, k_un, k_gs2, k_gs1, k_gt, k_gc, k_xs, k_seq, k_ex, k_sif, k_set, k_st, k_par2, k_par, k_aug2, k_aug1, k_sa2, k_sa1, k_aa4, k_aa3, k_aa2, k_aa1, k_frl, k_try, k_rn, k_rx, k_re, List.getElem?_cons_zero, List.getElem?_cons_succ, List.set_cons_zero, List.set_cons_succ, List.length_cons, List.length_nil, decide_eq_true_eq, Bool.not_eq_true', decide_eq_false_iff_not, if_true, if_false, Bool.false_eq_true, reduceIte, List.cons_append, List.nil_append, List.map_cons, List.map_nil, Nat.reduceLeDiff, and_true, true_and, startE, List.replicate, List.length_singleton, List.append_nil, decide_true, decide_false, not_true_eq_false, not_false_eq_true, Int.natAbs_natCast, Int.toNat_natCast, List.length_map, Bool.not_true, Bool.not_false, reduceCtorEq, subTN, ne_eq, and_self, true_and, Nat.reduceSub, Nat.reduceAdd, wipeE]
    refine fm _ p g1 (by decide) (by decide) fun n h2 n0 n1 g2 => ?_
    have l60 : n.natAbs < 2 ^ 60 := by omega
    simp only [l60, ↓e1_var, ↓e1_int, ↓e1_str, ↓e1_bl, ↓e1_non, ↓e1_glob, ↓e1_bin, ↓e1_neg, ↓e1_bitl, ↓e1_not, ↓e1_and, ↓e1_or, ↓e1_cmp, ↓e1_chain, ↓e1_ite, ↓e1_call, ↓e1_callK, ↓e1_eqd, ↓e1_make, ↓e1_meO, ↓e1_bi, ↓e1_isi, ↓e1_meth, ↓e1_attr, ↓e1_tup, ↓e1_lst, ↓e1_dict, ↓e1_dictT, ↓e1_ix, ↓e1_sl, ↓o1_nil, ↓o1_cons, ↓e1_lc, ↓l1_nil, ↓l1_cons, ↓t1_cmp, ↓t1_chain, ↓t1_eqd, ↓t1_not, ↓t1_and, ↓t1_or, ↓c1_nil, ↓c1_cons, ↓i1_val, ↓i1_r1, ↓i1_r2, ↓g1_nm, ↓g1_sub, ↓g1_tup, ↓gs1_nil, ↓gs1_cons, ↓s1_skip, ↓s1_seq, ↓s1_ret, ↓s1_retN, ↓s1_expr, ↓s1_ite, ↓s1_brk, ↓s1_cont, ↓s1_bad, ↓s1_set, ↓s1_setT, ↓s1_par, ↓s1_aug, ↓s1_sattr, ↓s1_aattr, ↓s1_raise0, ↓s1_tryO, ↓s1_tryA, ↓s1_whl, ↓s1_frl, ↓t2_var, ↓t2_bl, ↓t2_ix, ↓t2_call, ↓t2_callK, ↓t2_meO, ↓t2_bi, ↓t2_isi, ↓t2_meth, ↓t2_attr, ↓t2_bin, wR_ok, wR_bad, wR_ite, wV_some, wV_none, wV_no, wBl_bl, wBl_int, wOp_some, wOp_none, wInt_int, wTwo_two, dnF_P, dnF_m, dnF_call, dnF_call1, b_add, b_sub, b_mul, b_div, b_mod, b_pow, b_shl, b_shr, b_and, b_or, b_xor, c_eq, c_ne, c_lt, c_le, c_gt, c_ge, c_is, c_isn, c_in, c_nin, a_add, a_sub, p_add, p_sub, p_mul, p_div, p_mod, p_pow, p_shr, p_and2, p_neg, p_bits, p_lt, p_le, p_gt, p_ge, p_eqi, p_nei, p_eqs, p_nes, p_eqb, p_isn, p_isnn, t_bl, t_int, len_tup, bi_int, bi_intb, bi_abs, bi_lstT, wIx_l, wIx_f, wIx_d, wIx_t, wSq_l, wSq_f, wMl_l, wLs_l, wLs_f, wLs_d, wDk_d, wSt_l, wSt_d, wSt_t, wDl_d, wDl_t, rcvO_l, rcvO_f, rcvO_d, rcvO_t, tnO_l, tnO_f, tnO_d, tnO_t, lstO_l, lstO_f, keyV_i, keyV_s, q_ix, q_ixT, q_ixK, q_set, q_len, q_list, q_dict, q_tuple, q_it, q_itT, q_itK, q_itS, q_r1, q_r2, q_addL, q_addT, q_in, q_nin, q_eq, q_ne, eqB_i, eqB_s, eqB_b, q_slL, q_slT, q_tr, q_rcv, q_tn, tn_i, tn_b, tn_n, tn_s, tn_t, tn_k, me_app, me_pop, me_rev, me_clr, me_ins, me_idx, me_get, me_sd, q_app, q_rev, q_clr, q_pop, q_get1, q_get2, q_idx, at0, at1, at2, at3, ix0, ix1, ix2, ix3, atk, ls_len, ha_new, la_new, k_at, k_at2, k_bin2, k_bin1, k_neg, k_bits, k_not2, k_not1, k_and2, k_and1, k_or2, k_or1, k_cmp2, k_cmp1, k_ch4, k_ch3, k_ch2, k_ch1, k_ite, k_call, k_ck2, k_ck1, k_eqd2, k_eqd1, k_mk3, k_mk2, k_mk1, k_mo3, k_mo2, k_mo1, k_bi, k_isi2, k_isi, k_me4, k_me3, k_me2, k_me1, k_attr, k_tup, k_lst, k_ix2, k_ix1, k_sl3, k_sl2, k_sl1, k_oi2, k_oi, k_lc, k_l2, k_l1, k_tr, k_bl2, k_bl, k_tn, k_ta, k_to, k_it, k_r1, k_r2b, k_r2, k_un, k_gs2, k_gs1, k_gt, k_gc, k_xs, k_seq, k_ex, k_sif, k_set, k_st, k_par2, k_par, k_aug2, k_aug1, k_sa2, k_sa1, k_aa4, k_aa3, k_aa2, k_aa1, k_frl, k_try, k_rn, k_rx, k_re, List.getElem?_cons_zero, List.getElem?_cons_succ, List.set_cons_zero, List.set_cons_succ, List.length_cons, List.length_nil, decide_eq_true_eq, Bool.not_eq_true', decide_eq_false_iff_not, if_true, if_false, Bool.false_eq_true, reduceIte, List.cons_append, List.nil_append, List.map_cons, List.map_nil, Nat.reduceLeDiff, and_true, true_and, startE, List.replicate, List.length_singleton, List.append_nil, decide_true, decide_false, not_true_eq_false, not_false_eq_true, Int.natAbs_natCast, Int.toNat_natCast, List.length_map, Bool.not_true, Bool.not_false, reduceCtorEq, subTN, ne_eq, and_self, true_and, Nat.reduceSub, Nat.reduceAdd, wipeE]
    refine for_w n.toNat (fun i en hh => hh = h2 ∧ ∃ x y x3, Sz (6 + i) x ∧ Sz (6 + i) y ∧ en = [some (.ref p), some (.int x), some (.int y), x3]) (by omega) ⟨rfl, 0, 1 + r, none, by unfold Sz; decide, by unfold Sz; omega, rfl⟩ ?_ ?_
    · rintro en hh ⟨rfl, x, y, x3, s1, s2, rfl⟩
      refine ⟨itR_end, ?_⟩
      simp only [↓e1_var, ↓e1_int, ↓e1_str, ↓e1_bl, ↓e1_non, ↓e1_glob, ↓e1_bin, ↓e1_neg, ↓e1_bitl, ↓e1_not, ↓e1_and, ↓e1_or, ↓e1_cmp, ↓e1_chain, ↓e1_ite, ↓e1_call, ↓e1_callK, ↓e1_eqd, ↓e1_make, ↓e1_meO, ↓e1_bi, ↓e1_isi, ↓e1_meth, ↓e1_attr, ↓e1_tup, ↓e1_lst, ↓e1_dict, ↓e1_dictT, ↓e1_ix, ↓e1_sl, ↓o1_nil, ↓o1_cons, ↓e1_lc, ↓l1_nil, ↓l1_cons, ↓t1_cmp, ↓t1_chain, ↓t1_eqd, ↓t1_not, ↓t1_and, ↓t1_or, ↓c1_nil, ↓c1_cons, ↓i1_val, ↓i1_r1, ↓i1_r2, ↓g1_nm, ↓g1_sub, ↓g1_tup, ↓gs1_nil, ↓gs1_cons, ↓s1_skip, ↓s1_seq, ↓s1_ret, ↓s1_retN, ↓s1_expr, ↓s1_ite, ↓s1_brk, ↓s1_cont, ↓s1_bad, ↓s1_set, ↓s1_setT, ↓s1_par, ↓s1_aug, ↓s1_sattr, ↓s1_aattr, ↓s1_raise0, ↓s1_tryO, ↓s1_tryA, ↓s1_whl, ↓s1_frl, ↓t2_var, ↓t2_bl, ↓t2_ix, ↓t2_call, ↓t2_callK, ↓t2_meO, ↓t2_bi, ↓t2_isi, ↓t2_meth, ↓t2_attr, ↓t2_bin, wR_ok, wR_bad, wR_ite, wV_some, wV_none, wV_no, wBl_bl, wBl_int, wOp_some, wOp_none, wInt_int, wTwo_two, dnF_P, dnF_m, dnF_call, dnF_call1, b_add, b_sub, b_mul, b_div, b_mod, b_pow, b_shl, b_shr, b_and, b_or, b_xor, c_eq, c_ne, c_lt, c_le, c_gt, c_ge, c_is, c_isn, c_in, c_nin, a_add, a_sub, p_add, p_sub, p_mul, p_div, p_mod, p_pow, p_shr, p_and2, p_neg, p_bits, p_lt, p_le, p_gt, p_ge, p_eqi, p_nei, p_eqs, p_nes, p_eqb, p_isn, p_isnn, t_bl, t_int, len_tup, bi_int, bi_intb, bi_abs, bi_lstT, wIx_l, wIx_f, wIx_d, wIx_t, wSq_l, wSq_f, wMl_l, wLs_l, wLs_f, wLs_d, wDk_d, wSt_l, wSt_d, wSt_t, wDl_d, wDl_t, rcvO_l, rcvO_f, rcvO_d, rcvO_t, tnO_l, tnO_f, tnO_d, tnO_t, lstO_l, lstO_f, keyV_i, keyV_s, q_ix, q_ixT, q_ixK, q_set, q_len, q_list, q_dict, q_tuple, q_it, q_itT, q_itK, q_itS, q_r1, q_r2, q_addL, q_addT, q_in, q_nin, q_eq, q_ne, eqB_i, eqB_s, eqB_b, q_slL, q_slT, q_tr, q_rcv, q_tn, tn_i, tn_b, tn_n, tn_s, tn_t, tn_k, me_app, me_pop, me_rev, me_clr, me_ins, me_idx, me_get, me_sd, q_app, q_rev, q_clr, q_pop, q_get1, q_get2, q_idx, at0, at1, at2, at3, ix0, ix1, ix2, ix3, atk, ls_len, ha_new, la_new, k_at, k_at2, k_bin2, k_bin1, k_neg, k_bits, k_not2, k_not1, k_and2, k_and1, k_or2, k_or1, k_cmp2, k_cmp1, k_ch4, k_ch3, k_ch2, k_ch1, k_ite, k_call, k_ck2, k_ck1, k_eqd2, k_eqd1, k_mk3, k_mk2, k_mk1, k_mo3, k_mo2, k_mo1, k_bi, k_isi2, k_isi, k_me4, k_me3, k_me2, k_me1, k_attr, k_tup, k_lst, k_ix2, k_ix1, k_sl3, k_sl2, k_sl1, k_oi2, k_oi, k_lc, k_l2, k_l1, k_tr, k_bl2, k_bl, k_tn, k_ta, k_to, k_it, k_r1, k_r2b, k_r2, k_un, k_gs2, k_gs1, k_gt, k_gc, k_xs, k_seq, k_ex, k_sif, k_set, k_st, k_par2, k_par, k_aug2, k_aug1, k_sa2, k_sa1, k_aa4, k_aa3, k_aa2, k_aa1, k_frl, k_try, k_rn, k_rx, k_re, List.getElem?_cons_zero, List.getElem?_cons_succ, List.set_cons_zero, List.set_cons_succ, List.length_cons, List.length_nil, decide_eq_true_eq, Bool.not_eq_true', decide_eq_false_iff_not, if_true, if_false, Bool.false_eq_true, reduceIte, List.cons_append, List.nil_append, List.map_cons, List.map_nil, Nat.reduceLeDiff, and_true, true_and, startE, List.replicate, List.length_singleton, List.append_nil, decide_true, decide_false, not_true_eq_false, not_false_eq_true, Int.natAbs_natCast, Int.toNat_natCast, List.length_map, Bool.not_true, Bool.not_false, reduceCtorEq, subTN, ne_eq, and_self, true_and, Nat.reduceSub, Nat.reduceAdd, wipeE]
      exact ⟨g2, x, y, rfl, s1.le (by omega), s2.le (by omega)⟩
    · rintro i en hh hi ⟨rfl, x, y, x3, s1, s2, rfl⟩
      refine ⟨.int (0 + i), itR_at hi, ?_⟩
      simp only [↓e1_var, ↓e1_int, ↓e1_str, ↓e1_bl, ↓e1_non, ↓e1_glob, ↓e1_bin, ↓e1_neg, ↓e1_bitl, ↓e1_not, ↓e1_and, ↓e1_or, ↓e1_cmp, ↓e1_chain, ↓e1_ite, ↓e1_call, ↓e1_callK, ↓e1_eqd, ↓e1_make, ↓e1_meO, ↓e1_bi, ↓e1_isi, ↓e1_meth, ↓e1_attr, ↓e1_tup, ↓e1_lst, ↓e1_dict, ↓e1_dictT, ↓e1_ix, ↓e1_sl, ↓o1_nil, ↓o1_cons, ↓e1_lc, ↓l1_nil, ↓l1_cons, ↓t1_cmp, ↓t1_chain, ↓t1_eqd, ↓t1_not, ↓t1_and, ↓t1_or, ↓c1_nil, ↓c1_cons, ↓i1_val, ↓i1_r1, ↓i1_r2, ↓g1_nm, ↓g1_sub, ↓g1_tup, ↓gs1_nil, ↓gs1_cons, ↓s1_skip, ↓s1_seq, ↓s1_ret, ↓s1_retN, ↓s1_expr, ↓s1_ite, ↓s1_brk, ↓s1_cont, ↓s1_bad, ↓s1_set, ↓s1_setT, ↓s1_par, ↓s1_aug, ↓s1_sattr, ↓s1_aattr, ↓s1_raise0, ↓s1_tryO, ↓s1_tryA, ↓s1_whl, ↓s1_frl, ↓t2_var, ↓t2_bl, ↓t2_ix, ↓t2_call, ↓t2_callK, ↓t2_meO, ↓t2_bi, ↓t2_isi, ↓t2_meth, ↓t2_attr, ↓t2_bin, wR_ok, wR_bad, wR_ite, wV_some, wV_none, wV_no, wBl_bl, wBl_int, wOp_some, wOp_none, wInt_int, wTwo_two, dnF_P, dnF_m, dnF_call, dnF_call1, b_add, b_sub, b_mul, b_div, b_mod, b_pow, b_shl, b_shr, b_and, b_or, b_xor, c_eq, c_ne, c_lt, c_le, c_gt, c_ge, c_is, c_isn, c_in, c_nin, a_add, a_sub, p_add, p_sub, p_mul, p_div, p_mod, p_pow, p_shr, p_and2, p_neg, p_bits, p_lt, p_le, p_gt, p_ge, p_eqi, p_nei, p_eqs, p_nes, p_eqb, p_isn, p_isnn, t_bl, t_int, len_tup, bi_int, bi_intb, bi_abs, bi_lstT, wIx_l, wIx_f, wIx_d, wIx_t, wSq_l, wSq_f, wMl_l, wLs_l, wLs_f, wLs_d, wDk_d, wSt_l, wSt_d, wSt_t, wDl_d, wDl_t, rcvO_l, rcvO_f, rcvO_d, rcvO_t, tnO_l, tnO_f, tnO_d, tnO_t, lstO_l, lstO_f, keyV_i, keyV_s, q_ix, q_ixT, q_ixK, q_set, q_len, q_list, q_dict, q_tuple, q_it, q_itT, q_itK, q_itS, q_r1, q_r2, q_addL, q_addT, q_in, q_nin, q_eq, q_ne, eqB_i, eqB_s, eqB_b, q_slL, q_slT, q_tr, q_rcv, q_tn, tn_i, tn_b, tn_n, tn_s, tn_t, tn_k, me_app, me_pop, me_rev, me_clr, me_ins, me_idx, me_get, me_sd, q_app, q_rev, q_clr, q_pop, q_get1, q_get2, q_idx, at0, at1, at2, at3, ix0, ix1, ix2, ix3, atk, ls_len, ha_new, la_new, k_at, k_at2, k_bin2, k_bin1, k_neg, k_bits, k_not2, k_not1, k_and2, k_and1, k_or2, k_or1, k_cmp2, k_cmp1, k_ch4, k_ch3, k_ch2, k_ch1, k_ite, k_call, k_ck2, k_ck1, k_eqd2, k_eqd1, k_mk3, k_mk2, k_mk1, k_mo3, k_mo2, k_mo1, k_bi, k_isi2, k_isi, k_me4, k_me3, k_me2, k_me1, k_attr, k_tup, k_lst, k_ix2, k_ix1, k_sl3, k_sl2, k_sl1, k_oi2, k_oi, k_lc, k_l2, k_l1, k_tr, k_bl2, k_bl, k_tn, k_ta, k_to, k_it, k_r1, k_r2b, k_r2, k_un, k_gs2, k_gs1, k_gt, k_gc, k_xs, k_seq, k_ex, k_sif, k_set, k_st, k_par2, k_par, k_aug2, k_aug1, k_sa2, k_sa1, k_aa4, k_aa3, k_aa2, k_aa1, k_frl, k_try, k_rn, k_rx, k_re, List.getElem?_cons_zero, List.getElem?_cons_succ, List.set_cons_zero, List.set_cons_succ, List.length_cons, List.length_nil, decide_eq_true_eq, Bool.not_eq_true', decide_eq_false_iff_not, if_true, if_false, Bool.false_eq_true, reduceIte, List.cons_append, List.nil_append, List.map_cons, List.map_nil, Nat.reduceLeDiff, and_true, true_and, startE, List.replicate, List.length_singleton, List.append_nil, decide_true, decide_false, not_true_eq_false, not_false_eq_true, Int.natAbs_natCast, Int.toNat_natCast, List.length_map, Bool.not_true, Bool.not_false, reduceCtorEq, subTN, ne_eq, and_self, true_and, Nat.reduceSub, Nat.reduceAdd, wipeE]
      exact ⟨_, _, _, s2.le (by omega), s1.add s2 (by omega), rfl⟩
  exact wR.mono w (fun v h2 ⟨g2, a, b, e, q1, q2⟩ => by subst e; exact c a b h2 g2 q1 q2) fun _ _ z => False.elim z
theorem two_g (k p : Nat) {h h0 : Hm} {P : PV → Hm → Prop} {X : Ex → Hm → Prop} (g : Grow p h0 h) (c : ∀ x y h2, Grow p h0 h2 → Sz 200 x → Sz 200 y → P (.tup [.int x, .int y]) h2) : wR (callF fbs pg 100000 (k+4) 6 [.ref p] h) P X := by
  have w : wR (callF fbs pg 100000 (k+4) 6 [.ref p] h) (fun v h2 => Grow p h0 h2 ∧ ∃ x y, v = .tup [.int x, .int y] ∧ Sz 200 x ∧ Sz 200 y) XF := by
    rw [callF_at (fi := ⟨5, b6⟩) (fd := ⟨"_law_two", true, ps6, []⟩) (k+2) rfl rfl rfl, wR_ret]; show wS (dnF fbs pg 100000 (k+2)) b6 _ _ _ _ _ _ _
    simp only [b6, dvN, ↓e1_var, ↓e1_int, ↓e1_str, ↓e1_bl, ↓e1_non, ↓e1_glob, ↓e1_bin, ↓e1_neg, ↓e1_bitl, ↓e1_not, ↓e1_and, ↓e1_or, ↓e1_cmp, ↓e1_chain, ↓e1_ite, ↓e1_call, ↓e1_callK, ↓e1_eqd, ↓e1_make, ↓e1_meO, ↓e1_bi, ↓e1_isi, ↓e1_meth, ↓e1_attr, ↓e1_tup, ↓e1_lst, ↓e1_dict, ↓e1_dictT, ↓e1_ix, ↓e1_sl, ↓o1_nil, ↓o1_cons, ↓e1_lc, ↓l1_nil, ↓l1_cons, ↓t1_cmp, ↓t1_chain, ↓t1_eqd, ↓t1_not, ↓t1_and, ↓t1_or, ↓c1_nil, ↓c1_cons, ↓i1_val, ↓i1_r1, ↓i1_r2, ↓g1_nm, ↓g1_sub, ↓g1_tup, ↓gs1_nil, ↓gs1_cons, ↓s1_skip, ↓s1_seq, ↓s1_ret, ↓s1_retN, ↓s1_expr, ↓s1_ite, ↓s1_brk, ↓s1_cont, ↓s1_bad, ↓s1_set, ↓s1_setT, ↓s1_par, ↓s1_aug, ↓s1_sattr, ↓s1_aattr, ↓s1_raise0, ↓s1_tryO, ↓s1_tryA, ↓s1_whl, ↓s1_frl, ↓t2_var, ↓t2_bl, ↓t2_ix, ↓t2_call, ↓t2_callK, ↓t2_meO, ↓t2_bi, ↓t2_isi, ↓t2_meth, ↓t2_attr, ↓t2_bin, wR_ok, wR_bad, wR_ite, wV_some, wV_none, wV_no, wBl_bl, wBl_int, wOp_some, wOp_none, wInt_int, wTwo_two, dnF_P, dnF_m, dnF_call, dnF_call1, b_add, b_sub, b_mul, b_div, b_mod, b_pow, b_shl, b_shr, b_and, b_or, b_xor, c_eq, c_ne, c_lt, c_le, c_gt, c_ge, c_is, c_isn, c_in, c_nin, a_add, a_sub, p_add, p_sub, p_mul, p_div, p_mod, p_pow, p_shr, p_and2, p_neg, p_bits, p_lt, p_le, p_gt, p_ge, p_eqi, p_nei, p_eqs, p_nes, p_eqb, p_isn, p_isnn, t_bl, t_int, len_tup, bi_int, bi_intb, bi_abs, bi_lstT, wIx_l, wIx_f, wIx_d, wIx_t, wSq_l, wSq_f, wMl_l, wLs_l, wLs_f, wLs_d, wDk_d, wSt_l, wSt_d, wSt_t, wDl_d, wDl_t, rcvO_l, rcvO_f, rcvO_d, rcvO_t, tnO_l, tnO_f, tnO_d, tnO_t, lstO_l, lstO_f, keyV_i, keyV_s, q_ix, q_ixT, q_ixK, q_set, q_len, q_list, q_dict, q_tuple, q_it, q_itT, q_itK, q_itS, q_r1, q_r2, q_addL, q_addT, q_in, q_nin, q_eq, q_ne, eqB_i, eqB_s, eqB_b, q_slL, q_slT, q_tr, q_rcv, q_tn, tn_i, tn_b, tn_n, tn_s, tn_t, tn_k, me_app, me_pop, me_rev, me_clr, me_ins, me_idx, me_get, me_sd, q_app, q_rev, q_clr, q_pop, q_get1, q_get2, q_idx, at0, at1, at2, at3, ix0, ix1, ix2, ix3, atk, ls_len, ha_new, la_new, k_at, k_at2, k_bin2, k_bin1, k_neg, k_bits, k_not2, k_not1, k_and2, k_and1, k_or2, k_or1, k_cmp2, k_cmp1, k_ch4, k_ch3, k_ch2, k_ch1, k_ite, k_call, k_ck2, k_ck1, k_eqd2, k_eqd1, k_mk3, k_mk2, k_mk1, k_mo3, k_mo2, k_mo1, k_bi, k_isi2, k_isi, k_me4, k_me3, k_me2, k_me1, k_attr, k_tup, k_lst, k_ix2, k_ix1, k_sl3, k_sl2, k_sl1, k_oi2, k_oi, k_lc, k_l2, k_l1, k_tr, k_bl2, k_bl, k_tn, k_ta, k_to, k_it, k_r1, k_r2b, k_r2, k_un, k_gs2, k_gs1, k_gt, k_gc, k_xs, k_seq, k_ex, k_sif, k_set, k_st, k_par2, k_par, k_aug2, k_aug1, k_sa2, k_sa1, k_aa4, k_aa3, k_aa2, k_aa1, k_frl, k_try, k_rn, k_rx, k_re, List.getElem?_cons_zero, List.getElem?_cons_succ, List.set_cons_zero, List.set_cons_succ, List.length_cons, List.length_nil, decide_eq_true_eq, Bool.not_eq_true', decide_eq_false_iff_not, if_true, if_false, Bool.false_eq_true, reduceIte, List.cons_append, List.nil_append, List.map_cons, List.map_nil, Nat.reduceLeDiff, and_true, true_and, startE, List.replicate, List.length_singleton, List.append_nil, decide_true, decide_false, not_true_eq_false, not_false_eq_true, Int.natAbs_natCast, Int.toNat_natCast, List.length_map, Bool.not_true, Bool.not_false, reduceCtorEq, subTN, ne_eq, and_self, true_and, Nat.reduceSub, Nat.reduceAdd, wipeE]
    refine fm _ p g (by decide) (by decide) fun way h1 w0 w1 g1 => ?_
    by_cases c6 : way = 6
    · simp only [c6, dvN, ↓e1_var, ↓e1_int, ↓e1_str, ↓e1_bl, ↓e1_non, ↓e1_glob, ↓e1_bin, ↓e1_neg, ↓e1_bitl, ↓e1_not, ↓e1_and, ↓e1_or, ↓e1_cmp, ↓e1_chain, ↓e1_ite, ↓e1_call, ↓e1_callK, ↓e1_eqd, ↓e1_make, ↓e1_meO, ↓e1_bi, ↓e1_isi, ↓e1_meth, ↓e1_attr, ↓e1_tup, ↓e1_lst, ↓e1_dict, ↓e1_dictT, ↓e1_ix, ↓e1_sl, ↓o1_nil, ↓o1_cons, ↓e1_lc, ↓l1_nil, ↓l1_cons, ↓t1_cmp, ↓t1_chain, ↓t1_eqd, ↓t1_not, ↓t1_and, ↓t1_or, ↓c1_nil, ↓c1_cons, ↓i1_val, ↓i1_r1, ↓i1_r2, ↓g1_nm, ↓g1_sub, ↓g1_tup, ↓gs1_nil, ↓gs1_cons, ↓s1_skip, ↓s1_seq, ↓s1_ret, ↓s1_retN, ↓s1_expr, ↓s1_ite, ↓s1_brk, ↓s1_cont, ↓s1_bad, ↓s1_set, ↓s1_setT, ↓s1_par, ↓s1_aug, ↓s1_sattr, ↓s1_aattr, ↓s1_raise0, ↓s1_tryO, ↓s1_tryA, ↓s1_whl, ↓s1_frl, ↓t2_var, ↓t2_bl, ↓t2_ix, ↓t2_call, ↓t2_callK, ↓t2_meO, ↓t2_bi, ↓t2_isi, ↓t2_meth, ↓t2_attr, ↓t2_bin, wR_ok, wR_bad, wR_ite, wV_some, wV_none, wV_no, wBl_bl, wBl_int, wOp_some, wOp_none, wInt_int, wTwo_two, dnF_P, dnF_m, dnF_call, dnF_call1, b_add, b_sub, b_mul, b_div, b_mod, b_pow, b_shl, b_shr, b_and, b_or, b_xor, c_eq, c_ne, c_lt, c_le, c_gt, c_ge, c_is, c_isn, c_in, c_nin, a_add, a_sub, p_add, p_sub, p_mul, p_div, p_mod, p_pow, p_shr, p_and2, p_neg, p_bits, p_lt, p_le, p_gt, p_ge, p_eqi, p_nei, p_eqs, p_nes, p_eqb, p_isn, p_isnn, t_bl, t_int, len_tup, bi_int, bi_intb, bi_abs, bi_lstT, wIx_l, wIx_f, wIx_d, wIx_t, wSq_l, wSq_f, wMl_l, wLs_l, wLs_f, wLs_d, wDk_d, wSt_l, wSt_d, wSt_t, wDl_d, wDl_t, rcvO_l, rcvO_f, rcvO_d, rcvO_t, tnO_l, tnO_f, tnO_d, tnO_t, lstO_l, lstO_f, keyV_i, keyV_s, q_ix, q_ixT, q_ixK, q_set, q_len, q_list, q_dict, q_tuple, q_it, q_itT, q_itK, q_itS, q_r1, q_r2, q_addL, q_addT, q_in, q_nin, q_eq, q_ne, eqB_i, eqB_s, eqB_b, q_slL, q_slT, q_tr, q_rcv, q_tn, tn_i, tn_b, tn_n, tn_s, tn_t, tn_k, me_app, me_pop, me_rev, me_clr, me_ins, me_idx, me_get, me_sd, q_app, q_rev, q_clr, q_pop, q_get1, q_get2, q_idx, at0, at1, at2, at3, ix0, ix1, ix2, ix3, atk, ls_len, ha_new, la_new, k_at, k_at2, k_bin2, k_bin1, k_neg, k_bits, k_not2, k_not1, k_and2, k_and1, k_or2, k_or1, k_cmp2, k_cmp1, k_ch4, k_ch3, k_ch2, k_ch1, k_ite, k_call, k_ck2, k_ck1, k_eqd2, k_eqd1, k_mk3, k_mk2, k_mk1, k_mo3, k_mo2, k_mo1, k_bi, k_isi2, k_isi, k_me4, k_me3, k_me2, k_me1, k_attr, k_tup, k_lst, k_ix2, k_ix1, k_sl3, k_sl2, k_sl1, k_oi2, k_oi, k_lc, k_l2, k_l1, k_tr, k_bl2, k_bl, k_tn, k_ta, k_to, k_it, k_r1, k_r2b, k_r2, k_un, k_gs2, k_gs1, k_gt, k_gc, k_xs, k_seq, k_ex, k_sif, k_set, k_st, k_par2, k_par, k_aug2, k_aug1, k_sa2, k_sa1, k_aa4, k_aa3, k_aa2, k_aa1, k_frl, k_try, k_rn, k_rx, k_re, List.getElem?_cons_zero, List.getElem?_cons_succ, List.set_cons_zero, List.set_cons_succ, List.length_cons, List.length_nil, decide_eq_true_eq, Bool.not_eq_true', decide_eq_false_iff_not, if_true, if_false, Bool.false_eq_true, reduceIte, List.cons_append, List.nil_append, List.map_cons, List.map_nil, Nat.reduceLeDiff, and_true, true_and, startE, List.replicate, List.length_singleton, List.append_nil, decide_true, decide_false, not_true_eq_false, not_false_eq_true, Int.natAbs_natCast, Int.toNat_natCast, List.length_map, Bool.not_true, Bool.not_false, reduceCtorEq, subTN, ne_eq, and_self, true_and, Nat.reduceSub, Nat.reduceAdd, wipeE]
      refine slow_g k p g1 fun x y h2 g2 s1 s2 => ?_
      exact ⟨g2, x, y, rfl, s1, s2⟩
    · simp only [c6, dvN, ↓e1_var, ↓e1_int, ↓e1_str, ↓e1_bl, ↓e1_non, ↓e1_glob, ↓e1_bin, ↓e1_neg, ↓e1_bitl, ↓e1_not, ↓e1_and, ↓e1_or, ↓e1_cmp, ↓e1_chain, ↓e1_ite, ↓e1_call, ↓e1_callK, ↓e1_eqd, ↓e1_make, ↓e1_meO, ↓e1_bi, ↓e1_isi, ↓e1_meth, ↓e1_attr, ↓e1_tup, ↓e1_lst, ↓e1_dict, ↓e1_dictT, ↓e1_ix, ↓e1_sl, ↓o1_nil, ↓o1_cons, ↓e1_lc, ↓l1_nil, ↓l1_cons, ↓t1_cmp, ↓t1_chain, ↓t1_eqd, ↓t1_not, ↓t1_and, ↓t1_or, ↓c1_nil, ↓c1_cons, ↓i1_val, ↓i1_r1, ↓i1_r2, ↓g1_nm, ↓g1_sub, ↓g1_tup, ↓gs1_nil, ↓gs1_cons, ↓s1_skip, ↓s1_seq, ↓s1_ret, ↓s1_retN, ↓s1_expr, ↓s1_ite, ↓s1_brk, ↓s1_cont, ↓s1_bad, ↓s1_set, ↓s1_setT, ↓s1_par, ↓s1_aug, ↓s1_sattr, ↓s1_aattr, ↓s1_raise0, ↓s1_tryO, ↓s1_tryA, ↓s1_whl, ↓s1_frl, ↓t2_var, ↓t2_bl, ↓t2_ix, ↓t2_call, ↓t2_callK, ↓t2_meO, ↓t2_bi, ↓t2_isi, ↓t2_meth, ↓t2_attr, ↓t2_bin, wR_ok, wR_bad, wR_ite, wV_some, wV_none, wV_no, wBl_bl, wBl_int, wOp_some, wOp_none, wInt_int, wTwo_two, dnF_P, dnF_m, dnF_call, dnF_call1, b_add, b_sub, b_mul, b_div, b_mod, b_pow, b_shl, b_shr, b_and, b_or, b_xor, c_eq, c_ne, c_lt, c_le, c_gt, c_ge, c_is, c_isn, c_in, c_nin, a_add, a_sub, p_add, p_sub, p_mul, p_div, p_mod, p_pow, p_shr, p_and2, p_neg, p_bits, p_lt, p_le, p_gt, p_ge, p_eqi, p_nei, p_eqs, p_nes, p_eqb, p_isn, p_isnn, t_bl, t_int, len_tup, bi_int, bi_intb, bi_abs, bi_lstT, wIx_l, wIx_f, wIx_d, wIx_t, wSq_l, wSq_f, wMl_l, wLs_l, wLs_f, wLs_d, wDk_d, wSt_l, wSt_d, wSt_t, wDl_d, wDl_t, rcvO_l, rcvO_f, rcvO_d, rcvO_t, tnO_l, tnO_f, tnO_d, tnO_t, lstO_l, lstO_f, keyV_i, keyV_s, q_ix, q_ixT, q_ixK, q_set, q_len, q_list, q_dict, q_tuple, q_it, q_itT, q_itK, q_itS, q_r1, q_r2, q_addL, q_addT, q_in, q_nin, q_eq, q_ne, eqB_i, eqB_s, eqB_b, q_slL, q_slT, q_tr, q_rcv, q_tn, tn_i, tn_b, tn_n, tn_s, tn_t, tn_k, me_app, me_pop, me_rev, me_clr, me_ins, me_idx, me_get, me_sd, q_app, q_rev, q_clr, q_pop, q_get1, q_get2, q_idx, at0, at1, at2, at3, ix0, ix1, ix2, ix3, atk, ls_len, ha_new, la_new, k_at, k_at2, k_bin2, k_bin1, k_neg, k_bits, k_not2, k_not1, k_and2, k_and1, k_or2, k_or1, k_cmp2, k_cmp1, k_ch4, k_ch3, k_ch2, k_ch1, k_ite, k_call, k_ck2, k_ck1, k_eqd2, k_eqd1, k_mk3, k_mk2, k_mk1, k_mo3, k_mo2, k_mo1, k_bi, k_isi2, k_isi, k_me4, k_me3, k_me2, k_me1, k_attr, k_tup, k_lst, k_ix2, k_ix1, k_sl3, k_sl2, k_sl1, k_oi2, k_oi, k_lc, k_l2, k_l1, k_tr, k_bl2, k_bl, k_tn, k_ta, k_to, k_it, k_r1, k_r2b, k_r2, k_un, k_gs2, k_gs1, k_gt, k_gc, k_xs, k_seq, k_ex, k_sif, k_set, k_st, k_par2, k_par, k_aug2, k_aug1, k_sa2, k_sa1, k_aa4, k_aa3, k_aa2, k_aa1, k_frl, k_try, k_rn, k_rx, k_re, List.getElem?_cons_zero, List.getElem?_cons_succ, List.set_cons_zero, List.set_cons_succ, List.length_cons, List.length_nil, decide_eq_true_eq, Bool.not_eq_true', decide_eq_false_iff_not, if_true, if_false, Bool.false_eq_true, reduceIte, List.cons_append, List.nil_append, List.map_cons, List.map_nil, Nat.reduceLeDiff, and_true, true_and, startE, List.replicate, List.length_singleton, List.append_nil, decide_true, decide_false, not_true_eq_false, not_false_eq_true, Int.natAbs_natCast, Int.toNat_natCast, List.length_map, Bool.not_true, Bool.not_false, reduceCtorEq, subTN, ne_eq, and_self, true_and, Nat.reduceSub, Nat.reduceAdd, wipeE]
      refine sized_g k p g1 (by split <;> omega) (by split <;> omega) fun x h2 g2 s1 s2 => ?_
      by_cases d0 : way = 0
      · simp only [d0, dvN, ↓e1_var, ↓e1_int, ↓e1_str, ↓e1_bl, ↓e1_non, ↓e1_glob, ↓e1_bin, ↓e1_neg, ↓e1_bitl, ↓e1_not, ↓e1_and, ↓e1_or, ↓e1_cmp, ↓e1_chain, ↓e1_ite, ↓e1_call, ↓e1_callK, ↓e1_eqd, ↓e1_make, ↓e1_meO, ↓e1_bi, ↓e1_isi, ↓e1_meth, ↓e1_attr, ↓e1_tup, ↓e1_lst, ↓e1_dict, ↓e1_dictT, ↓e1_ix, ↓e1_sl, ↓o1_nil, ↓o1_cons, ↓e1_lc, ↓l1_nil, ↓l1_cons, ↓t1_cmp, ↓t1_chain, ↓t1_eqd, ↓t1_not, ↓t1_and, ↓t1_or, ↓c1_nil, ↓c1_cons, ↓i1_val, ↓i1_r1, ↓i1_r2, ↓g1_nm, ↓g1_sub, ↓g1_tup, ↓gs1_nil, ↓gs1_cons, ↓s1_skip, ↓s1_seq, ↓s1_ret, ↓s1_retN, ↓s1_expr, ↓s1_ite, ↓s1_brk, ↓s1_cont, ↓s1_bad, ↓s1_set, ↓s1_setT, ↓s1_par, ↓s1_aug, ↓s1_sattr, ↓s1_aattr, ↓s1_raise0, ↓s1_tryO, ↓s1_tryA, ↓s1_whl, ↓s1_frl, ↓t2_var, ↓t2_bl, ↓t2_ix, ↓t2_call, ↓t2_callK, ↓t2_meO, ↓t2_bi, ↓t2_isi, ↓t2_meth, ↓t2_attr, ↓t2_bin, wR_ok, wR_bad, wR_ite, wV_some, wV_none, wV_no, wBl_bl, wBl_int, wOp_some, wOp_none, wInt_int, wTwo_two, dnF_P, dnF_m, dnF_call, dnF_call1, b_add, b_sub, b_mul, b_div, b_mod, b_pow, b_shl, b_shr, b_and, b_or, b_xor, c_eq, c_ne, c_lt, c_le, c_gt, c_ge, c_is, c_isn, c_in, c_nin, a_add, a_sub, p_add, p_sub, p_mul, p_div, p_mod, p_pow, p_shr, p_and2, p_neg, p_bits, p_lt, p_le, p_gt, p_ge, p_eqi, p_nei, p_eqs, p_nes, p_eqb, p_isn, p_isnn, t_bl, t_int, len_tup, bi_int, bi_intb, bi_abs, bi_lstT, wIx_l, wIx_f, wIx_d, wIx_t, wSq_l, wSq_f, wMl_l, wLs_l, wLs_f, wLs_d, wDk_d, wSt_l, wSt_d, wSt_t, wDl_d, wDl_t, rcvO_l, rcvO_f, rcvO_d, rcvO_t, tnO_l, tnO_f, tnO_d, tnO_t, lstO_l, lstO_f, keyV_i, keyV_s, q_ix, q_ixT, q_ixK, q_set, q_len, q_list, q_dict, q_tuple, q_it, q_itT, q_itK, q_itS, q_r1, q_r2, q_addL, q_addT, q_in, q_nin, q_eq, q_ne, eqB_i, eqB_s, eqB_b, q_slL, q_slT, q_tr, q_rcv, q_tn, tn_i, tn_b, tn_n, tn_s, tn_t, tn_k, me_app, me_pop, me_rev, me_clr, me_ins, me_idx, me_get, me_sd, q_app, q_rev, q_clr, q_pop, q_get1, q_get2, q_idx, at0, at1, at2, at3, ix0, ix1, ix2, ix3, atk, ls_len, ha_new, la_new, k_at, k_at2, k_bin2, k_bin1, k_neg, k_bits, k_not2, k_not1, k_and2, k_and1, k_or2, k_or1, k_cmp2, k_cmp1, k_ch4, k_ch3, k_ch2, k_ch1, k_ite, k_call, k_ck2, k_ck1, k_eqd2, k_eqd1, k_mk3, k_mk2, k_mk1, k_mo3, k_mo2, k_mo1, k_bi, k_isi2, k_isi, k_me4, k_me3, k_me2, k_me1, k_attr, k_tup, k_lst, k_ix2, k_ix1, k_sl3, k_sl2, k_sl1, k_oi2, k_oi, k_lc, k_l2, k_l1, k_tr, k_bl2, k_bl, k_tn, k_ta, k_to, k_it, k_r1, k_r2b, k_r2, k_un, k_gs2, k_gs1, k_gt, k_gc, k_xs, k_seq, k_ex, k_sif, k_set, k_st, k_par2, k_par, k_aug2, k_aug1, k_sa2, k_sa1, k_aa4, k_aa3, k_aa2, k_aa1, k_frl, k_try, k_rn, k_rx, k_re, List.getElem?_cons_zero, List.getElem?_cons_succ, List.set_cons_zero, List.set_cons_succ, List.length_cons, List.length_nil, decide_eq_true_eq, Bool.not_eq_true', decide_eq_false_iff_not, if_true, if_false, Bool.false_eq_true, reduceIte, List.cons_append, List.nil_append, List.map_cons, List.map_nil, Nat.reduceLeDiff, and_true, true_and, startE, List.replicate, List.length_singleton, List.append_nil, decide_true, decide_false, not_true_eq_false, not_false_eq_true, Int.natAbs_natCast, Int.toNat_natCast, List.length_map, Bool.not_true, Bool.not_false, reduceCtorEq, subTN, ne_eq, and_self, true_and, Nat.reduceSub, Nat.reduceAdd, wipeE]
        refine sized_g k p g2 (by decide) (by decide) fun y h3 g3 t1 t2 => ?_
        simp only [↓e1_var, ↓e1_int, ↓e1_str, ↓e1_bl, ↓e1_non, ↓e1_glob, ↓e1_bin, ↓e1_neg, ↓e1_bitl, ↓e1_not, ↓e1_and, ↓e1_or, ↓e1_cmp, ↓e1_chain, ↓e1_ite, ↓e1_call, ↓e1_callK, ↓e1_eqd, ↓e1_make, ↓e1_meO, ↓e1_bi, ↓e1_isi, ↓e1_meth, ↓e1_attr, ↓e1_tup, ↓e1_lst, ↓e1_dict, ↓e1_dictT, ↓e1_ix, ↓e1_sl, ↓o1_nil, ↓o1_cons, ↓e1_lc, ↓l1_nil, ↓l1_cons, ↓t1_cmp, ↓t1_chain, ↓t1_eqd, ↓t1_not, ↓t1_and, ↓t1_or, ↓c1_nil, ↓c1_cons, ↓i1_val, ↓i1_r1, ↓i1_r2, ↓g1_nm, ↓g1_sub, ↓g1_tup, ↓gs1_nil, ↓gs1_cons, ↓s1_skip, ↓s1_seq, ↓s1_ret, ↓s1_retN, ↓s1_expr, ↓s1_ite, ↓s1_brk, ↓s1_cont, ↓s1_bad, ↓s1_set, ↓s1_setT, ↓s1_par, ↓s1_aug, ↓s1_sattr, ↓s1_aattr, ↓s1_raise0, ↓s1_tryO, ↓s1_tryA, ↓s1_whl, ↓s1_frl, ↓t2_var, ↓t2_bl, ↓t2_ix, ↓t2_call, ↓t2_callK, ↓t2_meO, ↓t2_bi, ↓t2_isi, ↓t2_meth, ↓t2_attr, ↓t2_bin, wR_ok, wR_bad, wR_ite, wV_some, wV_none, wV_no, wBl_bl, wBl_int, wOp_some, wOp_none, wInt_int, wTwo_two, dnF_P, dnF_m, dnF_call, dnF_call1, b_add, b_sub, b_mul, b_div, b_mod, b_pow, b_shl, b_shr, b_and, b_or, b_xor, c_eq, c_ne, c_lt, c_le, c_gt, c_ge, c_is, c_isn, c_in, c_nin, a_add, a_sub, p_add, p_sub, p_mul, p_div, p_mod, p_pow, p_shr, p_and2, p_neg, p_bits, p_lt, p_le, p_gt, p_ge, p_eqi, p_nei, p_eqs, p_nes, p_eqb, p_isn, p_isnn, t_bl, t_int, len_tup, bi_int, bi_intb, bi_abs, bi_lstT, wIx_l, wIx_f, wIx_d, wIx_t, wSq_l, wSq_f, wMl_l, wLs_l, wLs_f, wLs_d, wDk_d, wSt_l, wSt_d, wSt_t, wDl_d, wDl_t, rcvO_l, rcvO_f, rcvO_d, rcvO_t, tnO_l, tnO_f, tnO_d, tnO_t, lstO_l, lstO_f, keyV_i, keyV_s, q_ix, q_ixT, q_ixK, q_set, q_len, q_list, q_dict, q_tuple, q_it, q_itT, q_itK, q_itS, q_r1, q_r2, q_addL, q_addT, q_in, q_nin, q_eq, q_ne, eqB_i, eqB_s, eqB_b, q_slL, q_slT, q_tr, q_rcv, q_tn, tn_i, tn_b, tn_n, tn_s, tn_t, tn_k, me_app, me_pop, me_rev, me_clr, me_ins, me_idx, me_get, me_sd, q_app, q_rev, q_clr, q_pop, q_get1, q_get2, q_idx, at0, at1, at2, at3, ix0, ix1, ix2, ix3, atk, ls_len, ha_new, la_new, k_at, k_at2, k_bin2, k_bin1, k_neg, k_bits, k_not2, k_not1, k_and2, k_and1, k_or2, k_or1, k_cmp2, k_cmp1, k_ch4, k_ch3, k_ch2, k_ch1, k_ite, k_call, k_ck2, k_ck1, k_eqd2, k_eqd1, k_mk3, k_mk2, k_mk1, k_mo3, k_mo2, k_mo1, k_bi, k_isi2, k_isi, k_me4, k_me3, k_me2, k_me1, k_attr, k_tup, k_lst, k_ix2, k_ix1, k_sl3, k_sl2, k_sl1, k_oi2, k_oi, k_lc, k_l2, k_l1, k_tr, k_bl2, k_bl, k_tn, k_ta, k_to, k_it, k_r1, k_r2b, k_r2, k_un, k_gs2, k_gs1, k_gt, k_gc, k_xs, k_seq, k_ex, k_sif, k_set, k_st, k_par2, k_par, k_aug2, k_aug1, k_sa2, k_sa1, k_aa4, k_aa3, k_aa2, k_aa1, k_frl, k_try, k_rn, k_rx, k_re, List.getElem?_cons_zero, List.getElem?_cons_succ, List.set_cons_zero, List.set_cons_succ, List.length_cons, List.length_nil, decide_eq_true_eq, Bool.not_eq_true', decide_eq_false_iff_not, if_true, if_false, Bool.false_eq_true, reduceIte, List.cons_append, List.nil_append, List.map_cons, List.map_nil, Nat.reduceLeDiff, and_true, true_and, startE, List.replicate, List.length_singleton, List.append_nil, decide_true, decide_false, not_true_eq_false, not_false_eq_true, Int.natAbs_natCast, Int.toNat_natCast, List.length_map, Bool.not_true, Bool.not_false, reduceCtorEq, subTN, ne_eq, and_self, true_and, Nat.reduceSub, Nat.reduceAdd, wipeE]
        exact ⟨g3, x, y, rfl, s1.le (by decide), t1.le (by decide)⟩
      by_cases d1 : way = 1
      · subst d1
        simp only [show ¬ ((1 : Int) = 0) from by decide, dvN, ↓e1_var, ↓e1_int, ↓e1_str, ↓e1_bl, ↓e1_non, ↓e1_glob, ↓e1_bin, ↓e1_neg, ↓e1_bitl, ↓e1_not, ↓e1_and, ↓e1_or, ↓e1_cmp, ↓e1_chain, ↓e1_ite, ↓e1_call, ↓e1_callK, ↓e1_eqd, ↓e1_make, ↓e1_meO, ↓e1_bi, ↓e1_isi, ↓e1_meth, ↓e1_attr, ↓e1_tup, ↓e1_lst, ↓e1_dict, ↓e1_dictT, ↓e1_ix, ↓e1_sl, ↓o1_nil, ↓o1_cons, ↓e1_lc, ↓l1_nil, ↓l1_cons, ↓t1_cmp, ↓t1_chain, ↓t1_eqd, ↓t1_not, ↓t1_and, ↓t1_or, ↓c1_nil, ↓c1_cons, ↓i1_val, ↓i1_r1, ↓i1_r2, ↓g1_nm, ↓g1_sub, ↓g1_tup, ↓gs1_nil, ↓gs1_cons, ↓s1_skip, ↓s1_seq, ↓s1_ret, ↓s1_retN, ↓s1_expr, ↓s1_ite, ↓s1_brk, ↓s1_cont, ↓s1_bad, ↓s1_set, ↓s1_setT, ↓s1_par, ↓s1_aug, ↓s1_sattr, ↓s1_aattr, ↓s1_raise0, ↓s1_tryO, ↓s1_tryA, ↓s1_whl, ↓s1_frl, ↓t2_var, ↓t2_bl, ↓t2_ix, ↓t2_call, ↓t2_callK, ↓t2_meO, ↓t2_bi, ↓t2_isi, ↓t2_meth, ↓t2_attr, ↓t2_bin, wR_ok, wR_bad, wR_ite, wV_some, wV_none, wV_no, wBl_bl, wBl_int, wOp_some, wOp_none, wInt_int, wTwo_two, dnF_P, dnF_m, dnF_call, dnF_call1, b_add, b_sub, b_mul, b_div, b_mod, b_pow, b_shl, b_shr, b_and, b_or, b_xor, c_eq, c_ne, c_lt, c_le, c_gt, c_ge, c_is, c_isn, c_in, c_nin, a_add, a_sub, p_add, p_sub, p_mul, p_div, p_mod, p_pow, p_shr, p_and2, p_neg, p_bits, p_lt, p_le, p_gt, p_ge, p_eqi, p_nei, p_eqs, p_nes, p_eqb, p_isn, p_isnn, t_bl, t_int, len_tup, bi_int, bi_intb, bi_abs, bi_lstT, wIx_l, wIx_f, wIx_d, wIx_t, wSq_l, wSq_f, wMl_l, wLs_l, wLs_f, wLs_d, wDk_d, wSt_l, wSt_d, wSt_t, wDl_d, wDl_t, rcvO_l, rcvO_f, rcvO_d, rcvO_t, tnO_l, tnO_f, tnO_d, tnO_t, lstO_l, lstO_f, keyV_i, keyV_s, q_ix, q_ixT, q_ixK, q_set, q_len, q_list, q_dict, q_tuple, q_it, q_itT, q_itK, q_itS, q_r1, q_r2, q_addL, q_addT, q_in, q_nin, q_eq, q_ne, eqB_i, eqB_s, eqB_b, q_slL, q_slT, q_tr, q_rcv, q_tn, tn_i, tn_b, tn_n, tn_s, tn_t, tn_k, me_app, me_pop, me_rev, me_clr, me_ins, me_idx, me_get, me_sd, q_app, q_rev, q_clr, q_pop, q_get1, q_get2, q_idx, at0, at1, at2, at3, ix0, ix1, ix2, ix3, atk, ls_len, ha_new, la_new, k_at, k_at2, k_bin2, k_bin1, k_neg, k_bits, k_not2, k_not1, k_and2, k_and1, k_or2, k_or1, k_cmp2, k_cmp1, k_ch4, k_ch3, k_ch2, k_ch1, k_ite, k_call, k_ck2, k_ck1, k_eqd2, k_eqd1, k_mk3, k_mk2, k_mk1, k_mo3, k_mo2, k_mo1, k_bi, k_isi2, k_isi, k_me4, k_me3, k_me2, k_me1, k_attr, k_tup, k_lst, k_ix2, k_ix1, k_sl3, k_sl2, k_sl1, k_oi2, k_oi, k_lc, k_l2, k_l1, k_tr, k_bl2, k_bl, k_tn, k_ta, k_to, k_it, k_r1, k_r2b, k_r2, k_un, k_gs2, k_gs1, k_gt, k_gc, k_xs, k_seq, k_ex, k_sif, k_set, k_st, k_par2, k_par, k_aug2, k_aug1, k_sa2, k_sa1, k_aa4, k_aa3, k_aa2, k_aa1, k_frl, k_try, k_rn, k_rx, k_re, List.getElem?_cons_zero, List.getElem?_cons_succ, List.set_cons_zero, List.set_cons_succ, List.length_cons, List.length_nil, decide_eq_true_eq, Bool.not_eq_true', decide_eq_false_iff_not, if_true, if_false, Bool.false_eq_true, reduceIte, List.cons_append, List.nil_append, List.map_cons, List.map_nil, Nat.reduceLeDiff, and_true, true_and, startE, List.replicate, List.length_singleton, List.append_nil, decide_true, decide_false, not_true_eq_false, not_false_eq_true, Int.natAbs_natCast, Int.toNat_natCast, List.length_map, Bool.not_true, Bool.not_false, reduceCtorEq, subTN, ne_eq, and_self, true_and, Nat.reduceSub, Nat.reduceAdd, wipeE]
        refine fm _ p g2 (by decide) (by decide) fun r h3 r0 r1 g3 => ?_
        have m : mulOk 2 r = True := mul_l (by decide)
        simp only [m, ↓e1_var, ↓e1_int, ↓e1_str, ↓e1_bl, ↓e1_non, ↓e1_glob, ↓e1_bin, ↓e1_neg, ↓e1_bitl, ↓e1_not, ↓e1_and, ↓e1_or, ↓e1_cmp, ↓e1_chain, ↓e1_ite, ↓e1_call, ↓e1_callK, ↓e1_eqd, ↓e1_make, ↓e1_meO, ↓e1_bi, ↓e1_isi, ↓e1_meth, ↓e1_attr, ↓e1_tup, ↓e1_lst, ↓e1_dict, ↓e1_dictT, ↓e1_ix, ↓e1_sl, ↓o1_nil, ↓o1_cons, ↓e1_lc, ↓l1_nil, ↓l1_cons, ↓t1_cmp, ↓t1_chain, ↓t1_eqd, ↓t1_not, ↓t1_and, ↓t1_or, ↓c1_nil, ↓c1_cons, ↓i1_val, ↓i1_r1, ↓i1_r2, ↓g1_nm, ↓g1_sub, ↓g1_tup, ↓gs1_nil, ↓gs1_cons, ↓s1_skip, ↓s1_seq, ↓s1_ret, ↓s1_retN, ↓s1_expr, ↓s1_ite, ↓s1_brk, ↓s1_cont, ↓s1_bad, ↓s1_set, ↓s1_setT, ↓s1_par, ↓s1_aug, ↓s1_sattr, ↓s1_aattr, ↓s1_raise0, ↓s1_tryO, ↓s1_tryA, ↓s1_whl, ↓s1_frl, ↓t2_var, ↓t2_bl, ↓t2_ix, ↓t2_call, ↓t2_callK, ↓t2_meO, ↓t2_bi, ↓t2_isi, ↓t2_meth, ↓t2_attr, ↓t2_bin, wR_ok, wR_bad, wR_ite, wV_some, wV_none, wV_no, wBl_bl, wBl_int, wOp_some, wOp_none, wInt_int, wTwo_two, dnF_P, dnF_m, dnF_call, dnF_call1, b_add, b_sub, b_mul, b_div, b_mod, b_pow, b_shl, b_shr, b_and, b_or, b_xor, c_eq, c_ne, c_lt, c_le, c_gt, c_ge, c_is, c_isn, c_in, c_nin, a_add, a_sub, p_add, p_sub, p_mul, p_div, p_mod, p_pow, p_shr, p_and2, p_neg, p_bits, p_lt, p_le, p_gt, p_ge, p_eqi, p_nei, p_eqs, p_nes, p_eqb, p_isn, p_isnn, t_bl, t_int, len_tup, bi_int, bi_intb, bi_abs, bi_lstT, wIx_l, wIx_f, wIx_d, wIx_t, wSq_l, wSq_f, wMl_l, wLs_l, wLs_f, wLs_d, wDk_d, wSt_l, wSt_d, wSt_t, wDl_d, wDl_t, rcvO_l, rcvO_f, rcvO_d, rcvO_t, tnO_l, tnO_f, tnO_d, tnO_t, lstO_l, lstO_f, keyV_i, keyV_s, q_ix, q_ixT, q_ixK, q_set, q_len, q_list, q_dict, q_tuple, q_it, q_itT, q_itK, q_itS, q_r1, q_r2, q_addL, q_addT, q_in, q_nin, q_eq, q_ne, eqB_i, eqB_s, eqB_b, q_slL, q_slT, q_tr, q_rcv, q_tn, tn_i, tn_b, tn_n, tn_s, tn_t, tn_k, me_app, me_pop, me_rev, me_clr, me_ins, me_idx, me_get, me_sd, q_app, q_rev, q_clr, q_pop, q_get1, q_get2, q_idx, at0, at1, at2, at3, ix0, ix1, ix2, ix3, atk, ls_len, ha_new, la_new, k_at, k_at2, k_bin2, k_bin1, k_neg, k_bits, k_not2, k_not1, k_and2, k_and1, k_or2, k_or1, k_cmp2, k_cmp1, k_ch4, k_ch3, k_ch2, k_ch1, k_ite, k_call, k_ck2, k_ck1, k_eqd2, k_eqd1, k_mk3, k_mk2, k_mk1, k_mo3, k_mo2, k_mo1, k_bi, k_isi2, k_isi, k_me4, k_me3, k_me2, k_me1, k_attr, k_tup, k_lst, k_ix2, k_ix1, k_sl3, k_sl2, k_sl1, k_oi2, k_oi, k_lc, k_l2, k_l1, k_tr, k_bl2, k_bl, k_tn, k_ta, k_to, k_it, k_r1, k_r2b, k_r2, k_un, k_gs2, k_gs1, k_gt, k_gc, k_xs, k_seq, k_ex, k_sif, k_set, k_st, k_par2, k_par, k_aug2, k_aug1, k_sa2, k_sa1, k_aa4, k_aa3, k_aa2, k_aa1, k_frl, k_try, k_rn, k_rx, k_re, List.getElem?_cons_zero, List.getElem?_cons_succ, List.set_cons_zero, List.set_cons_succ, List.length_cons, List.length_nil, decide_eq_true_eq, Bool.not_eq_true', decide_eq_false_iff_not, if_true, if_false, Bool.false_eq_true, reduceIte, List.cons_append, List.nil_append, List.map_cons, List.map_nil, Nat.reduceLeDiff, and_true, true_and, startE, List.replicate, List.length_singleton, List.append_nil, decide_true, decide_false, not_true_eq_false, not_false_eq_true, Int.natAbs_natCast, Int.toNat_natCast, List.length_map, Bool.not_true, Bool.not_false, reduceCtorEq, subTN, ne_eq, and_self, true_and, Nat.reduceSub, Nat.reduceAdd, wipeE]
        exact ⟨g3, _, _, rfl, s1.le (by decide), by unfold Sz; omega⟩
      by_cases d2 : way = 2
      · subst d2
        simp only [show ¬ ((2 : Int) = 0) from by decide, show ¬ ((2 : Int) = 1) from by decide, dvN, ↓e1_var, ↓e1_int, ↓e1_str, ↓e1_bl, ↓e1_non, ↓e1_glob, ↓e1_bin, ↓e1_neg, ↓e1_bitl, ↓e1_not, ↓e1_and, ↓e1_or, ↓e1_cmp, ↓e1_chain, ↓e1_ite, ↓e1_call, ↓e1_callK, ↓e1_eqd, ↓e1_make, ↓e1_meO, ↓e1_bi, ↓e1_isi, ↓e1_meth, ↓e1_attr, ↓e1_tup, ↓e1_lst, ↓e1_dict, ↓e1_dictT, ↓e1_ix, ↓e1_sl, ↓o1_nil, ↓o1_cons, ↓e1_lc, ↓l1_nil, ↓l1_cons, ↓t1_cmp, ↓t1_chain, ↓t1_eqd, ↓t1_not, ↓t1_and, ↓t1_or, ↓c1_nil, ↓c1_cons, ↓i1_val, ↓i1_r1, ↓i1_r2, ↓g1_nm, ↓g1_sub, ↓g1_tup, ↓gs1_nil, ↓gs1_cons, ↓s1_skip, ↓s1_seq, ↓s1_ret, ↓s1_retN, ↓s1_expr, ↓s1_ite, ↓s1_brk, ↓s1_cont, ↓s1_bad, ↓s1_set, ↓s1_setT, ↓s1_par, ↓s1_aug, ↓s1_sattr, ↓s1_aattr, ↓s1_raise0, ↓s1_tryO, ↓s1_tryA, ↓s1_whl, ↓s1_frl, ↓t2_var, ↓t2_bl, ↓t2_ix, ↓t2_call, ↓t2_callK, ↓t2_meO, ↓t2_bi, ↓t2_isi, ↓t2_meth, ↓t2_attr, ↓t2_bin, wR_ok, wR_bad, wR_ite, wV_some, wV_none, wV_no, wBl_bl, wBl_int, wOp_some, wOp_none, wInt_int, wTwo_two, dnF_P, dnF_m, dnF_call, dnF_call1, b_add, b_sub, b_mul, b_div, b_mod, b_pow, b_shl, b_shr, b_and, b_or, b_xor, c_eq, c_ne, c_lt, c_le, c_gt, c_ge, c_is, c_isn, c_in, c_nin, a_add, a_sub, p_add, p_sub, p_mul, p_div, p_mod, p_pow, p_shr, p_and2, p_neg, p_bits, p_lt, p_le, p_gt, p_ge, p_eqi, p_nei, p_eqs, p_nes, p_eqb, p_isn, p_isnn, t_bl, t_int, len_tup, bi_int, bi_intb, bi_abs, bi_lstT, wIx_l, wIx_f, wIx_d, wIx_t, wSq_l, wSq_f, wMl_l, wLs_l, wLs_f, wLs_d, wDk_d, wSt_l, wSt_d, wSt_t, wDl_d, wDl_t, rcvO_l, rcvO_f, rcvO_d, rcvO_t, tnO_l, tnO_f, tnO_d, tnO_t, lstO_l, lstO_f, keyV_i, keyV_s, q_ix, q_ixT, q_ixK, q_set, q_len, q_list, q_dict, q_tuple, q_it, q_itT, q_itK, q_itS, q_r1, q_r2, q_addL, q_addT, q_in, q_nin, q_eq, q_ne, eqB_i, eqB_s, eqB_b, q_slL, q_slT, q_tr, q_rcv, q_tn, tn_i, tn_b, tn_n, tn_s, tn_t, tn_k, me_app, me_pop, me_rev, me_clr, me_ins, me_idx, me_get, me_sd, q_app, q_rev, q_clr, q_pop, q_get1, q_get2, q_idx, at0, at1, at2, at3, ix0, ix1, ix2, ix3, atk, ls_len, ha_new, la_new, k_at, k_at2, k_bin2, k_bin1, k_neg, k_bits, k_not2, k_not1, k_and2, k_and1, k_or2, k_or1, k_cmp2, k_cmp1, k_ch4, k_ch3, k_ch2, k_ch1, k_ite, k_call, k_ck2, k_ck1, k_eqd2, k_eqd1, k_mk3, k_mk2, k_mk1, k_mo3, k_mo2, k_mo1, k_bi, k_isi2, k_isi, k_me4, k_me3, k_me2, k_me1, k_attr, k_tup, k_lst, k_ix2, k_ix1, k_sl3, k_sl2, k_sl1, k_oi2, k_oi, k_lc, k_l2, k_l1, k_tr, k_bl2, k_bl, k_tn, k_ta, k_to, k_it, k_r1, k_r2b, k_r2, k_un, k_gs2, k_gs1, k_gt, k_gc, k_xs, k_seq, k_ex, k_sif, k_set, k_st, k_par2, k_par, k_aug2, k_aug1, k_sa2, k_sa1, k_aa4, k_aa3, k_aa2, k_aa1, k_frl, k_try, k_rn, k_rx, k_re, List.getElem?_cons_zero, List.getElem?_cons_succ, List.set_cons_zero, List.set_cons_succ, List.length_cons, List.length_nil, decide_eq_true_eq, Bool.not_eq_true', decide_eq_false_iff_not, if_true, if_false, Bool.false_eq_true, reduceIte, List.cons_append, List.nil_append, List.map_cons, List.map_nil, Nat.reduceLeDiff, and_true, true_and, startE, List.replicate, List.length_singleton, List.append_nil, decide_true, decide_false, not_true_eq_false, not_false_eq_true, Int.natAbs_natCast, Int.toNat_natCast, List.length_map, Bool.not_true, Bool.not_false, reduceCtorEq, subTN, ne_eq, and_self, true_and, Nat.reduceSub, Nat.reduceAdd, wipeE]
        exact ⟨g2, _, _, rfl, s1.le (by decide), by unfold Sz; decide⟩
      by_cases d3 : way = 3
      · subst d3
        simp only [show ¬ ((3 : Int) = 0) from by decide, show ¬ ((3 : Int) = 1) from by decide, show ¬ ((3 : Int) = 2) from by decide, dvN, ↓e1_var, ↓e1_int, ↓e1_str, ↓e1_bl, ↓e1_non, ↓e1_glob, ↓e1_bin, ↓e1_neg, ↓e1_bitl, ↓e1_not, ↓e1_and, ↓e1_or, ↓e1_cmp, ↓e1_chain, ↓e1_ite, ↓e1_call, ↓e1_callK, ↓e1_eqd, ↓e1_make, ↓e1_meO, ↓e1_bi, ↓e1_isi, ↓e1_meth, ↓e1_attr, ↓e1_tup, ↓e1_lst, ↓e1_dict, ↓e1_dictT, ↓e1_ix, ↓e1_sl, ↓o1_nil, ↓o1_cons, ↓e1_lc, ↓l1_nil, ↓l1_cons, ↓t1_cmp, ↓t1_chain, ↓t1_eqd, ↓t1_not, ↓t1_and, ↓t1_or, ↓c1_nil, ↓c1_cons, ↓i1_val, ↓i1_r1, ↓i1_r2, ↓g1_nm, ↓g1_sub, ↓g1_tup, ↓gs1_nil, ↓gs1_cons, ↓s1_skip, ↓s1_seq, ↓s1_ret, ↓s1_retN, ↓s1_expr, ↓s1_ite, ↓s1_brk, ↓s1_cont, ↓s1_bad, ↓s1_set, ↓s1_setT, ↓s1_par, ↓s1_aug, ↓s1_sattr, ↓s1_aattr, ↓s1_raise0, ↓s1_tryO, ↓s1_tryA, ↓s1_whl, ↓s1_frl, ↓t2_var, ↓t2_bl, ↓t2_ix, ↓t2_call, ↓t2_callK, ↓t2_meO, ↓t2_bi, ↓t2_isi, ↓t2_meth, ↓t2_attr, ↓t2_bin, wR_ok, wR_bad, wR_ite, wV_some, wV_none, wV_no, wBl_bl, wBl_int, wOp_some, wOp_none, wInt_int, wTwo_two, dnF_P, dnF_m, dnF_call, dnF_call1, b_add, b_sub, b_mul, b_div, b_mod, b_pow, b_shl, b_shr, b_and, b_or, b_xor, c_eq, c_ne, c_lt, c_le, c_gt, c_ge, c_is, c_isn, c_in, c_nin, a_add, a_sub, p_add, p_sub, p_mul, p_div, p_mod, p_pow, p_shr, p_and2, p_neg, p_bits, p_lt, p_le, p_gt, p_ge, p_eqi, p_nei, p_eqs, p_nes, p_eqb, p_isn, p_isnn, t_bl, t_int, len_tup, bi_int, bi_intb, bi_abs, bi_lstT, wIx_l, wIx_f, wIx_d, wIx_t, wSq_l, wSq_f, wMl_l, wLs_l, wLs_f, wLs_d, wDk_d, wSt_l, wSt_d, wSt_t, wDl_d, wDl_t, rcvO_l, rcvO_f, rcvO_d, rcvO_t, tnO_l, tnO_f, tnO_d, tnO_t, lstO_l, lstO_f, keyV_i, keyV_s, q_ix, q_ixT, q_ixK, q_set, q_len, q_list, q_dict, q_tuple, q_it, q_itT, q_itK, q_itS, q_r1, q_r2, q_addL, q_addT, q_in, q_nin, q_eq, q_ne, eqB_i, eqB_s, eqB_b, q_slL, q_slT, q_tr, q_rcv, q_tn, tn_i, tn_b, tn_n, tn_s, tn_t, tn_k, me_app, me_pop, me_rev, me_clr, me_ins, me_idx, me_get, me_sd, q_app, q_rev, q_clr, q_pop, q_get1, q_get2, q_idx, at0, at1, at2, at3, ix0, ix1, ix2, ix3, atk, ls_len, ha_new, la_new, k_at, k_at2, k_bin2, k_bin1, k_neg, k_bits, k_not2, k_not1, k_and2, k_and1, k_or2, k_or1, k_cmp2, k_cmp1, k_ch4, k_ch3, k_ch2, k_ch1, k_ite, k_call, k_ck2, k_ck1, k_eqd2, k_eqd1, k_mk3, k_mk2, k_mk1, k_mo3, k_mo2, k_mo1, k_bi, k_isi2, k_isi, k_me4, k_me3, k_me2, k_me1, k_attr, k_tup, k_lst, k_ix2, k_ix1, k_sl3, k_sl2, k_sl1, k_oi2, k_oi, k_lc, k_l2, k_l1, k_tr, k_bl2, k_bl, k_tn, k_ta, k_to, k_it, k_r1, k_r2b, k_r2, k_un, k_gs2, k_gs1, k_gt, k_gc, k_xs, k_seq, k_ex, k_sif, k_set, k_st, k_par2, k_par, k_aug2, k_aug1, k_sa2, k_sa1, k_aa4, k_aa3, k_aa2, k_aa1, k_frl, k_try, k_rn, k_rx, k_re, List.getElem?_cons_zero, List.getElem?_cons_succ, List.set_cons_zero, List.set_cons_succ, List.length_cons, List.length_nil, decide_eq_true_eq, Bool.not_eq_true', decide_eq_false_iff_not, if_true, if_false, Bool.false_eq_true, reduceIte, List.cons_append, List.nil_append, List.map_cons, List.map_nil, Nat.reduceLeDiff, and_true, true_and, startE, List.replicate, List.length_singleton, List.append_nil, decide_true, decide_false, not_true_eq_false, not_false_eq_true, Int.natAbs_natCast, Int.toNat_natCast, List.length_map, Bool.not_true, Bool.not_false, reduceCtorEq, subTN, ne_eq, and_self, true_and, Nat.reduceSub, Nat.reduceAdd, wipeE]
        refine fm _ p g2 (by decide) (by decide) fun f h3 f0 f1 g3 => ?_
        have sf : Sz 20 (1 + f) := by unfold Sz; omega
        have m := mulS sf s1 (by decide) (by decide)
        simp only [m, dvN, ↓e1_var, ↓e1_int, ↓e1_str, ↓e1_bl, ↓e1_non, ↓e1_glob, ↓e1_bin, ↓e1_neg, ↓e1_bitl, ↓e1_not, ↓e1_and, ↓e1_or, ↓e1_cmp, ↓e1_chain, ↓e1_ite, ↓e1_call, ↓e1_callK, ↓e1_eqd, ↓e1_make, ↓e1_meO, ↓e1_bi, ↓e1_isi, ↓e1_meth, ↓e1_attr, ↓e1_tup, ↓e1_lst, ↓e1_dict, ↓e1_dictT, ↓e1_ix, ↓e1_sl, ↓o1_nil, ↓o1_cons, ↓e1_lc, ↓l1_nil, ↓l1_cons, ↓t1_cmp, ↓t1_chain, ↓t1_eqd, ↓t1_not, ↓t1_and, ↓t1_or, ↓c1_nil, ↓c1_cons, ↓i1_val, ↓i1_r1, ↓i1_r2, ↓g1_nm, ↓g1_sub, ↓g1_tup, ↓gs1_nil, ↓gs1_cons, ↓s1_skip, ↓s1_seq, ↓s1_ret, ↓s1_retN, ↓s1_expr, ↓s1_ite, ↓s1_brk, ↓s1_cont, ↓s1_bad, ↓s1_set, ↓s1_setT, ↓s1_par, ↓s1_aug, ↓s1_sattr, ↓s1_aattr, ↓s1_raise0, ↓s1_tryO, ↓s1_tryA, ↓s1_whl, ↓s1_frl, ↓t2_var, ↓t2_bl, ↓t2_ix, ↓t2_call, ↓t2_callK, ↓t2_meO, ↓t2_bi, ↓t2_isi, ↓t2_meth, ↓t2_attr, ↓t2_bin, wR_ok, wR_bad, wR_ite, wV_some, wV_none, wV_no, wBl_bl, wBl_int, wOp_some, wOp_none, wInt_int, wTwo_two, dnF_P, dnF_m, dnF_call, dnF_call1, b_add, b_sub, b_mul, b_div, b_mod, b_pow, b_shl, b_shr, b_and, b_or, b_xor, c_eq, c_ne, c_lt, c_le, c_gt, c_ge, c_is, c_isn, c_in, c_nin, a_add, a_sub, p_add, p_sub, p_mul, p_div, p_mod, p_pow, p_shr, p_and2, p_neg, p_bits, p_lt, p_le, p_gt, p_ge, p_eqi, p_nei, p_eqs, p_nes, p_eqb, p_isn, p_isnn, t_bl, t_int, len_tup, bi_int, bi_intb, bi_abs, bi_lstT, wIx_l, wIx_f, wIx_d, wIx_t, wSq_l, wSq_f, wMl_l, wLs_l, wLs_f, wLs_d, wDk_d, wSt_l, wSt_d, wSt_t, wDl_d, wDl_t, rcvO_l, rcvO_f, rcvO_d, rcvO_t, tnO_l, tnO_f, tnO_d, tnO_t, lstO_l, lstO_f, keyV_i, keyV_s, q_ix, q_ixT, q_ixK, q_set, q_len, q_list, q_dict, q_tuple, q_it, q_itT, q_itK, q_itS, q_r1, q_r2, q_addL, q_addT, q_in, q_nin, q_eq, q_ne, eqB_i, eqB_s, eqB_b, q_slL, q_slT, q_tr, q_rcv, q_tn, tn_i, tn_b, tn_n, tn_s, tn_t, tn_k, me_app, me_pop, me_rev, me_clr, me_ins, me_idx, me_get, me_sd, q_app, q_rev, q_clr, q_pop, q_get1, q_get2, q_idx, at0, at1, at2, at3, ix0, ix1, ix2, ix3, atk, ls_len, ha_new, la_new, k_at, k_at2, k_bin2, k_bin1, k_neg, k_bits, k_not2, k_not1, k_and2, k_and1, k_or2, k_or1, k_cmp2, k_cmp1, k_ch4, k_ch3, k_ch2, k_ch1, k_ite, k_call, k_ck2, k_ck1, k_eqd2, k_eqd1, k_mk3, k_mk2, k_mk1, k_mo3, k_mo2, k_mo1, k_bi, k_isi2, k_isi, k_me4, k_me3, k_me2, k_me1, k_attr, k_tup, k_lst, k_ix2, k_ix1, k_sl3, k_sl2, k_sl1, k_oi2, k_oi, k_lc, k_l2, k_l1, k_tr, k_bl2, k_bl, k_tn, k_ta, k_to, k_it, k_r1, k_r2b, k_r2, k_un, k_gs2, k_gs1, k_gt, k_gc, k_xs, k_seq, k_ex, k_sif, k_set, k_st, k_par2, k_par, k_aug2, k_aug1, k_sa2, k_sa1, k_aa4, k_aa3, k_aa2, k_aa1, k_frl, k_try, k_rn, k_rx, k_re, List.getElem?_cons_zero, List.getElem?_cons_succ, List.set_cons_zero, List.set_cons_succ, List.length_cons, List.length_nil, decide_eq_true_eq, Bool.not_eq_true', decide_eq_false_iff_not, if_true, if_false, Bool.false_eq_true, reduceIte, List.cons_append, List.nil_append, List.map_cons, List.map_nil, Nat.reduceLeDiff, and_true, true_and, startE, List.replicate, List.length_singleton, List.append_nil, decide_true, decide_false, not_true_eq_false, not_false_eq_true, Int.natAbs_natCast, Int.toNat_natCast, List.length_map, Bool.not_true, Bool.not_false, reduceCtorEq, subTN, ne_eq, and_self, true_and, Nat.reduceSub, Nat.reduceAdd, wipeE]
        refine sized_g k p g3 (by decide) (by decide) fun y h4 g4 t1 t2 => ?_
        have m2 := mulS sf t1 (by decide) (by decide)
        simp only [m2, ↓e1_var, ↓e1_int, ↓e1_str, ↓e1_bl, ↓e1_non, ↓e1_glob, ↓e1_bin, ↓e1_neg, ↓e1_bitl, ↓e1_not, ↓e1_and, ↓e1_or, ↓e1_cmp, ↓e1_chain, ↓e1_ite, ↓e1_call, ↓e1_callK, ↓e1_eqd, ↓e1_make, ↓e1_meO, ↓e1_bi, ↓e1_isi, ↓e1_meth, ↓e1_attr, ↓e1_tup, ↓e1_lst, ↓e1_dict, ↓e1_dictT, ↓e1_ix, ↓e1_sl, ↓o1_nil, ↓o1_cons, ↓e1_lc, ↓l1_nil, ↓l1_cons, ↓t1_cmp, ↓t1_chain, ↓t1_eqd, ↓t1_not, ↓t1_and, ↓t1_or, ↓c1_nil, ↓c1_cons, ↓i1_val, ↓i1_r1, ↓i1_r2, ↓g1_nm, ↓g1_sub, ↓g1_tup, ↓gs1_nil, ↓gs1_cons, ↓s1_skip, ↓s1_seq, ↓s1_ret, ↓s1_retN, ↓s1_expr, ↓s1_ite, ↓s1_brk, ↓s1_cont, ↓s1_bad, ↓s1_set, ↓s1_setT, ↓s1_par, ↓s1_aug, ↓s1_sattr, ↓s1_aattr, ↓s1_raise0, ↓s1_tryO, ↓s1_tryA, ↓s1_whl, ↓s1_frl, ↓t2_var, ↓t2_bl, ↓t2_ix, ↓t2_call, ↓t2_callK, ↓t2_meO, ↓t2_bi, ↓t2_isi, ↓t2_meth, ↓t2_attr, ↓t2_bin, wR_ok, wR_bad, wR_ite, wV_some, wV_none, wV_no, wBl_bl, wBl_int, wOp_some, wOp_none, wInt_int, wTwo_two, dnF_P, dnF_m, dnF_call, dnF_call1, b_add, b_sub, b_mul, b_div, b_mod, b_pow, b_shl, b_shr, b_and, b_or, b_xor, c_eq, c_ne, c_lt, c_le, c_gt, c_ge, c_is, c_isn, c_in, c_nin, a_add, a_sub, p_add, p_sub, p_mul, p_div, p_mod, p_pow, p_shr, p_and2, p_neg, p_bits, p_lt, p_le, p_gt, p_ge, p_eqi, p_nei, p_eqs, p_nes, p_eqb, p_isn, p_isnn, t_bl, t_int, len_tup, bi_int, bi_intb, bi_abs, bi_lstT, wIx_l, wIx_f, wIx_d, wIx_t, wSq_l, wSq_f, wMl_l, wLs_l, wLs_f, wLs_d, wDk_d, wSt_l, wSt_d, wSt_t, wDl_d, wDl_t, rcvO_l, rcvO_f, rcvO_d, rcvO_t, tnO_l, tnO_f, tnO_d, tnO_t, lstO_l, lstO_f, keyV_i, keyV_s, q_ix, q_ixT, q_ixK, q_set, q_len, q_list, q_dict, q_tuple, q_it, q_itT, q_itK, q_itS, q_r1, q_r2, q_addL, q_addT, q_in, q_nin, q_eq, q_ne, eqB_i, eqB_s, eqB_b, q_slL, q_slT, q_tr, q_rcv, q_tn, tn_i, tn_b, tn_n, tn_s, tn_t, tn_k, me_app, me_pop, me_rev, me_clr, me_ins, me_idx, me_get, me_sd, q_app, q_rev, q_clr, q_pop, q_get1, q_get2, q_idx, at0, at1, at2, at3, ix0, ix1, ix2, ix3, atk, ls_len, ha_new, la_new, k_at, k_at2, k_bin2, k_bin1, k_neg, k_bits, k_not2, k_not1, k_and2, k_and1, k_or2, k_or1, k_cmp2, k_cmp1, k_ch4, k_ch3, k_ch2, k_ch1, k_ite, k_call, k_ck2, k_ck1, k_eqd2, k_eqd1, k_mk3, k_mk2, k_mk1, k_mo3, k_mo2, k_mo1, k_bi, k_isi2, k_isi, k_me4, k_me3, k_me2, k_me1, k_attr, k_tup, k_lst, k_ix2, k_ix1, k_sl3, k_sl2, k_sl1, k_oi2, k_oi, k_lc, k_l2, k_l1, k_tr, k_bl2, k_bl, k_tn, k_ta, k_to, k_it, k_r1, k_r2b, k_r2, k_un, k_gs2, k_gs1, k_gt, k_gc, k_xs, k_seq, k_ex, k_sif, k_set, k_st, k_par2, k_par, k_aug2, k_aug1, k_sa2, k_sa1, k_aa4, k_aa3, k_aa2, k_aa1, k_frl, k_try, k_rn, k_rx, k_re, List.getElem?_cons_zero, List.getElem?_cons_succ, List.set_cons_zero, List.set_cons_succ, List.length_cons, List.length_nil, decide_eq_true_eq, Bool.not_eq_true', decide_eq_false_iff_not, if_true, if_false, Bool.false_eq_true, reduceIte, List.cons_append, List.nil_append, List.map_cons, List.map_nil, Nat.reduceLeDiff, and_true, true_and, startE, List.replicate, List.length_singleton, List.append_nil, decide_true, decide_false, not_true_eq_false, not_false_eq_true, Int.natAbs_natCast, Int.toNat_natCast, List.length_map, Bool.not_true, Bool.not_false, reduceCtorEq, subTN, ne_eq, and_self, true_and, Nat.reduceSub, Nat.reduceAdd, wipeE]
        exact ⟨g4, _, _, rfl, (sf.mul s1).le (by decide), (sf.mul t1).le (by decide)⟩
      simp only [d0, d1, d2, d3, dvN, ↓s1_seq, ↓s1_ite, ↓s1_skip, ↓t1_cmp, ↓e1_cmp, ↓e1_var, ↓e1_int, k_cmp1, k_cmp2, k_at, k_bl, k_bl2, k_sif, k_seq, k_set, c_eq, p_eqi, wR_ok, wBl_bl, wV_some, List.set_cons_zero, List.set_cons_succ, List.getElem?_cons_zero, List.getElem?_cons_succ, decide_false, if_false, Bool.false_eq_true]
      simp only [dvN, ↓e1_var, ↓e1_int, ↓e1_str, ↓e1_bl, ↓e1_non, ↓e1_glob, ↓e1_bin, ↓e1_neg, ↓e1_bitl, ↓e1_not, ↓e1_and, ↓e1_or, ↓e1_cmp, ↓e1_chain, ↓e1_ite, ↓e1_call, ↓e1_callK, ↓e1_eqd, ↓e1_make, ↓e1_meO, ↓e1_bi, ↓e1_isi, ↓e1_meth, ↓e1_attr, ↓e1_tup, ↓e1_lst, ↓e1_dict, ↓e1_dictT, ↓e1_ix, ↓e1_sl, ↓o1_nil, ↓o1_cons, ↓e1_lc, ↓l1_nil, ↓l1_cons, ↓t1_cmp, ↓t1_chain, ↓t1_eqd, ↓t1_not, ↓t1_and, ↓t1_or, ↓c1_nil, ↓c1_cons, ↓i1_val, ↓i1_r1, ↓i1_r2, ↓g1_nm, ↓g1_sub, ↓g1_tup, ↓gs1_nil, ↓gs1_cons, ↓s1_skip, ↓s1_seq, ↓s1_ret, ↓s1_retN, ↓s1_expr, ↓s1_ite, ↓s1_brk, ↓s1_cont, ↓s1_bad, ↓s1_set, ↓s1_setT, ↓s1_par, ↓s1_aug, ↓s1_sattr, ↓s1_aattr, ↓s1_raise0, ↓s1_tryO, ↓s1_tryA, ↓s1_whl, ↓s1_frl, ↓t2_var, ↓t2_bl, ↓t2_ix, ↓t2_call, ↓t2_callK, ↓t2_meO, ↓t2_bi, ↓t2_isi, ↓t2_meth, ↓t2_attr, ↓t2_bin, wR_ok, wR_bad, wR_ite, wV_some, wV_none, wV_no, wBl_bl, wBl_int, wOp_some, wOp_none, wInt_int, wTwo_two, dnF_P, dnF_m, dnF_call, dnF_call1, b_add, b_sub, b_mul, b_div, b_mod, b_pow, b_shl, b_shr, b_and, b_or, b_xor, c_eq, c_ne, c_lt, c_le, c_gt, c_ge, c_is, c_isn, c_in, c_nin, a_add, a_sub, p_add, p_sub, p_mul, p_div, p_mod, p_pow, p_shr, p_and2, p_neg, p_bits, p_lt, p_le, p_gt, p_ge, p_eqi, p_nei, p_eqs, p_nes, p_eqb, p_isn, p_isnn, t_bl, t_int, len_tup, bi_int, bi_intb, bi_abs, bi_lstT, wIx_l, wIx_f, wIx_d, wIx_t, wSq_l, wSq_f, wMl_l, wLs_l, wLs_f, wLs_d, wDk_d, wSt_l, wSt_d, wSt_t, wDl_d, wDl_t, rcvO_l, rcvO_f, rcvO_d, rcvO_t, tnO_l, tnO_f, tnO_d, tnO_t, lstO_l, lstO_f, keyV_i, keyV_s, q_ix, q_ixT, q_ixK, q_set, q_len, q_list, q_dict, q_tuple, q_it, q_itT, q_itK, q_itS, q_r1, q_r2, q_addL, q_addT, q_in, q_nin, q_eq, q_ne, eqB_i, eqB_s, eqB_b, q_slL, q_slT, q_tr, q_rcv, q_tn, tn_i, tn_b, tn_n, tn_s, tn_t, tn_k, me_app, me_pop, me_rev, me_clr, me_ins, me_idx, me_get, me_sd, q_app, q_rev, q_clr, q_pop, q_get1, q_get2, q_idx, at0, at1, at2, at3, ix0, ix1, ix2, ix3, atk, ls_len, ha_new, la_new, k_at, k_at2, k_bin2, k_bin1, k_neg, k_bits, k_not2, k_not1, k_and2, k_and1, k_or2, k_or1, k_cmp2, k_cmp1, k_ch4, k_ch3, k_ch2, k_ch1, k_ite, k_call, k_ck2, k_ck1, k_eqd2, k_eqd1, k_mk3, k_mk2, k_mk1, k_mo3, k_mo2, k_mo1, k_bi, k_isi2, k_isi, k_me4, k_me3, k_me2, k_me1, k_attr, k_tup, k_lst, k_ix2, k_ix1, k_sl3, k_sl2, k_sl1, k_oi2, k_oi, k_lc, k_l2, k_l1, k_tr, k_bl2, k_bl, k_tn, k_ta, k_to, k_it, k_r1, k_r2b, k_r2, k_un, k_gs2, k_gs1, k_gt, k_gc, k_xs, k_seq, k_ex, k_sif, k_set, k_st, k_par2, k_par, k_aug2, k_aug1, k_sa2, k_sa1, k_aa4, k_aa3, k_aa2, k_aa1, k_frl, k_try, k_rn, k_rx, k_re, List.getElem?_cons_zero, List.getElem?_cons_succ, List.set_cons_zero, List.set_cons_succ, List.length_cons, List.length_nil, decide_eq_true_eq, Bool.not_eq_true', decide_eq_false_iff_not, if_true, if_false, Bool.false_eq_true, reduceIte, List.cons_append, List.nil_append, List.map_cons, List.map_nil, Nat.reduceLeDiff, and_true, true_and, startE, List.replicate, List.length_singleton, List.append_nil, decide_true, decide_false, not_true_eq_false, not_false_eq_true, Int.natAbs_natCast, Int.toNat_natCast, List.length_map, Bool.not_true, Bool.not_false, reduceCtorEq, subTN, ne_eq, and_self, true_and, Nat.reduceSub, Nat.reduceAdd, wipeE]
      refine fm _ p g2 (by decide) (by decide) fun r h3 r0 r1 g3 => ?_
      have sr : Sz 20 (r - 4) := by unfold Sz; omega
      have m := mulS sr s1 (by decide) (by decide)
      by_cases d4 : way = 4
      · simp only [d4, m, ↓e1_var, ↓e1_int, ↓e1_str, ↓e1_bl, ↓e1_non, ↓e1_glob, ↓e1_bin, ↓e1_neg, ↓e1_bitl, ↓e1_not, ↓e1_and, ↓e1_or, ↓e1_cmp, ↓e1_chain, ↓e1_ite, ↓e1_call, ↓e1_callK, ↓e1_eqd, ↓e1_make, ↓e1_meO, ↓e1_bi, ↓e1_isi, ↓e1_meth, ↓e1_attr, ↓e1_tup, ↓e1_lst, ↓e1_dict, ↓e1_dictT, ↓e1_ix, ↓e1_sl, ↓o1_nil, ↓o1_cons, ↓e1_lc, ↓l1_nil, ↓l1_cons, ↓t1_cmp, ↓t1_chain, ↓t1_eqd, ↓t1_not, ↓t1_and, ↓t1_or, ↓c1_nil, ↓c1_cons, ↓i1_val, ↓i1_r1, ↓i1_r2, ↓g1_nm, ↓g1_sub, ↓g1_tup, ↓gs1_nil, ↓gs1_cons, ↓s1_skip, ↓s1_seq, ↓s1_ret, ↓s1_retN, ↓s1_expr, ↓s1_ite, ↓s1_brk, ↓s1_cont, ↓s1_bad, ↓s1_set, ↓s1_setT, ↓s1_par, ↓s1_aug, ↓s1_sattr, ↓s1_aattr, ↓s1_raise0, ↓s1_tryO, ↓s1_tryA, ↓s1_whl, ↓s1_frl, ↓t2_var, ↓t2_bl, ↓t2_ix, ↓t2_call, ↓t2_callK, ↓t2_meO, ↓t2_bi, ↓t2_isi, ↓t2_meth, ↓t2_attr, ↓t2_bin, wR_ok, wR_bad, wR_ite, wV_some, wV_none, wV_no, wBl_bl, wBl_int, wOp_some, wOp_none, wInt_int, wTwo_two, dnF_P, dnF_m, dnF_call, dnF_call1, b_add, b_sub, b_mul, b_div, b_mod, b_pow, b_shl, b_shr, b_and, b_or, b_xor, c_eq, c_ne, c_lt, c_le, c_gt, c_ge, c_is, c_isn, c_in, c_nin, a_add, a_sub, p_add, p_sub, p_mul, p_div, p_mod, p_pow, p_shr, p_and2, p_neg, p_bits, p_lt, p_le, p_gt, p_ge, p_eqi, p_nei, p_eqs, p_nes, p_eqb, p_isn, p_isnn, t_bl, t_int, len_tup, bi_int, bi_intb, bi_abs, bi_lstT, wIx_l, wIx_f, wIx_d, wIx_t, wSq_l, wSq_f, wMl_l, wLs_l, wLs_f, wLs_d, wDk_d, wSt_l, wSt_d, wSt_t, wDl_d, wDl_t, rcvO_l, rcvO_f, rcvO_d, rcvO_t, tnO_l, tnO_f, tnO_d, tnO_t, lstO_l, lstO_f, keyV_i, keyV_s, q_ix, q_ixT, q_ixK, q_set, q_len, q_list, q_dict, q_tuple, q_it, q_itT, q_itK, q_itS, q_r1, q_r2, q_addL, q_addT, q_in, q_nin, q_eq, q_ne, eqB_i, eqB_s, eqB_b, q_slL, q_slT, q_tr, q_rcv, q_tn, tn_i, tn_b, tn_n, tn_s, tn_t, tn_k, me_app, me_pop, me_rev, me_clr, me_ins, me_idx, me_get, me_sd, q_app, q_rev, q_clr, q_pop, q_get1, q_get2, q_idx, at0, at1, at2, at3, ix0, ix1, ix2, ix3, atk, ls_len, ha_new, la_new, k_at, k_at2, k_bin2, k_bin1, k_neg, k_bits, k_not2, k_not1, k_and2, k_and1, k_or2, k_or1, k_cmp2, k_cmp1, k_ch4, k_ch3, k_ch2, k_ch1, k_ite, k_call, k_ck2, k_ck1, k_eqd2, k_eqd1, k_mk3, k_mk2, k_mk1, k_mo3, k_mo2, k_mo1, k_bi, k_isi2, k_isi, k_me4, k_me3, k_me2, k_me1, k_attr, k_tup, k_lst, k_ix2, k_ix1, k_sl3, k_sl2, k_sl1, k_oi2, k_oi, k_lc, k_l2, k_l1, k_tr, k_bl2, k_bl, k_tn, k_ta, k_to, k_it, k_r1, k_r2b, k_r2, k_un, k_gs2, k_gs1, k_gt, k_gc, k_xs, k_seq, k_ex, k_sif, k_set, k_st, k_par2, k_par, k_aug2, k_aug1, k_sa2, k_sa1, k_aa4, k_aa3, k_aa2, k_aa1, k_frl, k_try, k_rn, k_rx, k_re, List.getElem?_cons_zero, List.getElem?_cons_succ, List.set_cons_zero, List.set_cons_succ, List.length_cons, List.length_nil, decide_eq_true_eq, Bool.not_eq_true', decide_eq_false_iff_not, if_true, if_false, Bool.false_eq_true, reduceIte, List.cons_append, List.nil_append, List.map_cons, List.map_nil, Nat.reduceLeDiff, and_true, true_and, startE, List.replicate, List.length_singleton, List.append_nil, decide_true, decide_false, not_true_eq_false, not_false_eq_true, Int.natAbs_natCast, Int.toNat_natCast, List.length_map, Bool.not_true, Bool.not_false, reduceCtorEq, subTN, ne_eq, and_self, true_and, Nat.reduceSub, Nat.reduceAdd, wipeE]
        exact ⟨g3, _, _, rfl, (sr.mul s1).le (by decide), s1.le (by decide)⟩
      · simp only [d4, m, ↓e1_var, ↓e1_int, ↓e1_str, ↓e1_bl, ↓e1_non, ↓e1_glob, ↓e1_bin, ↓e1_neg, ↓e1_bitl, ↓e1_not, ↓e1_and, ↓e1_or, ↓e1_cmp, ↓e1_chain, ↓e1_ite, ↓e1_call, ↓e1_callK, ↓e1_eqd, ↓e1_make, ↓e1_meO, ↓e1_bi, ↓e1_isi, ↓e1_meth, ↓e1_attr, ↓e1_tup, ↓e1_lst, ↓e1_dict, ↓e1_dictT, ↓e1_ix, ↓e1_sl, ↓o1_nil, ↓o1_cons, ↓e1_lc, ↓l1_nil, ↓l1_cons, ↓t1_cmp, ↓t1_chain, ↓t1_eqd, ↓t1_not, ↓t1_and, ↓t1_or, ↓c1_nil, ↓c1_cons, ↓i1_val, ↓i1_r1, ↓i1_r2, ↓g1_nm, ↓g1_sub, ↓g1_tup, ↓gs1_nil, ↓gs1_cons, ↓s1_skip, ↓s1_seq, ↓s1_ret, ↓s1_retN, ↓s1_expr, ↓s1_ite, ↓s1_brk, ↓s1_cont, ↓s1_bad, ↓s1_set, ↓s1_setT, ↓s1_par, ↓s1_aug, ↓s1_sattr, ↓s1_aattr, ↓s1_raise0, ↓s1_tryO, ↓s1_tryA, ↓s1_whl, ↓s1_frl, ↓t2_var, ↓t2_bl, ↓t2_ix, ↓t2_call, ↓t2_callK, ↓t2_meO, ↓t2_bi, ↓t2_isi, ↓t2_meth, ↓t2_attr, ↓t2_bin, wR_ok, wR_bad, wR_ite, wV_some, wV_none, wV_no, wBl_bl, wBl_int, wOp_some, wOp_none, wInt_int, wTwo_two, dnF_P, dnF_m, dnF_call, dnF_call1, b_add, b_sub, b_mul, b_div, b_mod, b_pow, b_shl, b_shr, b_and, b_or, b_xor, c_eq, c_ne, c_lt, c_le, c_gt, c_ge, c_is, c_isn, c_in, c_nin, a_add, a_sub, p_add, p_sub, p_mul, p_div, p_mod, p_pow, p_shr, p_and2, p_neg, p_bits, p_lt, p_le, p_gt, p_ge, p_eqi, p_nei, p_eqs, p_nes, p_eqb, p_isn, p_isnn, t_bl, t_int, len_tup, bi_int, bi_intb, bi_abs, bi_lstT, wIx_l, wIx_f, wIx_d, wIx_t, wSq_l, wSq_f, wMl_l, wLs_l, wLs_f, wLs_d, wDk_d, wSt_l, wSt_d, wSt_t, wDl_d, wDl_t, rcvO_l, rcvO_f, rcvO_d, rcvO_t, tnO_l, tnO_f, tnO_d, tnO_t, lstO_l, lstO_f, keyV_i, keyV_s, q_ix, q_ixT, q_ixK, q_set, q_len, q_list, q_dict, q_tuple, q_it, q_itT, q_itK, q_itS, q_r1, q_r2, q_addL, q_addT, q_in, q_nin, q_eq, q_ne, eqB_i, eqB_s, eqB_b, q_slL, q_slT, q_tr, q_rcv, q_tn, tn_i, tn_b, tn_n, tn_s, tn_t, tn_k, me_app, me_pop, me_rev, me_clr, me_ins, me_idx, me_get, me_sd, q_app, q_rev, q_clr, q_pop, q_get1, q_get2, q_idx, at0, at1, at2, at3, ix0, ix1, ix2, ix3, atk, ls_len, ha_new, la_new, k_at, k_at2, k_bin2, k_bin1, k_neg, k_bits, k_not2, k_not1, k_and2, k_and1, k_or2, k_or1, k_cmp2, k_cmp1, k_ch4, k_ch3, k_ch2, k_ch1, k_ite, k_call, k_ck2, k_ck1, k_eqd2, k_eqd1, k_mk3, k_mk2, k_mk1, k_mo3, k_mo2, k_mo1, k_bi, k_isi2, k_isi, k_me4, k_me3, k_me2, k_me1, k_attr, k_tup, k_lst, k_ix2, k_ix1, k_sl3, k_sl2, k_sl1, k_oi2, k_oi, k_lc, k_l2, k_l1, k_tr, k_bl2, k_bl, k_tn, k_ta, k_to, k_it, k_r1, k_r2b, k_r2, k_un, k_gs2, k_gs1, k_gt, k_gc, k_xs, k_seq, k_ex, k_sif, k_set, k_st, k_par2, k_par, k_aug2, k_aug1, k_sa2, k_sa1, k_aa4, k_aa3, k_aa2, k_aa1, k_frl, k_try, k_rn, k_rx, k_re, List.getElem?_cons_zero, List.getElem?_cons_succ, List.set_cons_zero, List.set_cons_succ, List.length_cons, List.length_nil, decide_eq_true_eq, Bool.not_eq_true', decide_eq_false_iff_not, if_true, if_false, Bool.false_eq_true, reduceIte, List.cons_append, List.nil_append, List.map_cons, List.map_nil, Nat.reduceLeDiff, and_true, true_and, startE, List.replicate, List.length_singleton, List.append_nil, decide_true, decide_false, not_true_eq_false, not_false_eq_true, Int.natAbs_natCast, Int.toNat_natCast, List.length_map, Bool.not_true, Bool.not_false, reduceCtorEq, subTN, ne_eq, and_self, true_and, Nat.reduceSub, Nat.reduceAdd, wipeE]
        exact ⟨g3, _, _, rfl, s1.le (by decide), (sr.mul s1).le (by decide)⟩
  exact wR.mono w (fun v h2 ⟨g2, a, b, e, q1, q2⟩ => by subst e; exact c a b h2 g2 q1 q2) fun _ _ z => False.elim z
theorem law_ok (k : Nat) (ss : List Int) (hl : ss.length ≤ 63) : wR (callF fbs pg 100000 (k+7) 12 [.ref 0] [.frz (ss.map PV.int)]) (fun v _ => v = .bl true) XF := by
  rw [callF_at (fi := ⟨6, b12⟩) (fd := ⟨"law", true, ps12, []⟩) (k+5) rfl rfl rfl, wR_ret]; show wS (dnF fbs pg 100000 (k+5)) b12 _ _ _ _ _ _ _
  have e0 : ([MO.frz (ss.map PV.int)] : Hm)[0]? = some (.frz (ss.map PV.int)) := rfl
  simp only [b12, e0, bi_min2, bi_max2, ↓e1_var, ↓e1_int, ↓e1_str, ↓e1_bl, ↓e1_non, ↓e1_glob, ↓e1_bin, ↓e1_neg, ↓e1_bitl, ↓e1_not, ↓e1_and, ↓e1_or, ↓e1_cmp, ↓e1_chain, ↓e1_ite, ↓e1_call, ↓e1_callK, ↓e1_eqd, ↓e1_make, ↓e1_meO, ↓e1_bi, ↓e1_isi, ↓e1_meth, ↓e1_attr, ↓e1_tup, ↓e1_lst, ↓e1_dict, ↓e1_dictT, ↓e1_ix, ↓e1_sl, ↓o1_nil, ↓o1_cons, ↓e1_lc, ↓l1_nil, ↓l1_cons, ↓t1_cmp, ↓t1_chain, ↓t1_eqd, ↓t1_not, ↓t1_and, ↓t1_or, ↓c1_nil, ↓c1_cons, ↓i1_val, ↓i1_r1, ↓i1_r2, ↓g1_nm, ↓g1_sub, ↓g1_tup, ↓gs1_nil, ↓gs1_cons, ↓s1_skip, ↓s1_seq, ↓s1_ret, ↓s1_retN, ↓s1_expr, ↓s1_ite, ↓s1_brk, ↓s1_cont, ↓s1_bad, ↓s1_set, ↓s1_setT, ↓s1_par, ↓s1_aug, ↓s1_sattr, ↓s1_aattr, ↓s1_raise0, ↓s1_tryO, ↓s1_tryA, ↓s1_whl, ↓s1_frl, ↓t2_var, ↓t2_bl, ↓t2_ix, ↓t2_call, ↓t2_callK, ↓t2_meO, ↓t2_bi, ↓t2_isi, ↓t2_meth, ↓t2_attr, ↓t2_bin, wR_ok, wR_bad, wR_ite, wV_some, wV_none, wV_no, wBl_bl, wBl_int, wOp_some, wOp_none, wInt_int, wTwo_two, dnF_P, dnF_m, dnF_call, dnF_call1, b_add, b_sub, b_mul, b_div, b_mod, b_pow, b_shl, b_shr, b_and, b_or, b_xor, c_eq, c_ne, c_lt, c_le, c_gt, c_ge, c_is, c_isn, c_in, c_nin, a_add, a_sub, p_add, p_sub, p_mul, p_div, p_mod, p_pow, p_shr, p_and2, p_neg, p_bits, p_lt, p_le, p_gt, p_ge, p_eqi, p_nei, p_eqs, p_nes, p_eqb, p_isn, p_isnn, t_bl, t_int, len_tup, bi_int, bi_intb, bi_abs, bi_lstT, wIx_l, wIx_f, wIx_d, wIx_t, wSq_l, wSq_f, wMl_l, wLs_l, wLs_f, wLs_d, wDk_d, wSt_l, wSt_d, wSt_t, wDl_d, wDl_t, rcvO_l, rcvO_f, rcvO_d, rcvO_t, tnO_l, tnO_f, tnO_d, tnO_t, lstO_l, lstO_f, keyV_i, keyV_s, q_ix, q_ixT, q_ixK, q_set, q_len, q_list, q_dict, q_tuple, q_it, q_itT, q_itK, q_itS, q_r1, q_r2, q_addL, q_addT, q_in, q_nin, q_eq, q_ne, eqB_i, eqB_s, eqB_b, q_slL, q_slT, q_tr, q_rcv, q_tn, tn_i, tn_b, tn_n, tn_s, tn_t, tn_k, me_app, me_pop, me_rev, me_clr, me_ins, me_idx, me_get, me_sd, q_app, q_rev, q_clr, q_pop, q_get1, q_get2, q_idx, at0, at1, at2, at3, ix0, ix1, ix2, ix3, atk, ls_len, ha_new, la_new, k_at, k_at2, k_bin2, k_bin1, k_neg, k_bits, k_not2, k_not1, k_and2, k_and1, k_or2, k_or1, k_cmp2, k_cmp1, k_ch4, k_ch3, k_ch2, k_ch1, k_ite, k_call, k_ck2, k_ck1, k_eqd2, k_eqd1, k_mk3, k_mk2, k_mk1, k_mo3, k_mo2, k_mo1, k_bi, k_isi2, k_isi, k_me4, k_me3, k_me2, k_me1, k_attr, k_tup, k_lst, k_ix2, k_ix1, k_sl3, k_sl2, k_sl1, k_oi2, k_oi, k_lc, k_l2, k_l1, k_tr, k_bl2, k_bl, k_tn, k_ta, k_to, k_it, k_r1, k_r2b, k_r2, k_un, k_gs2, k_gs1, k_gt, k_gc, k_xs, k_seq, k_ex, k_sif, k_set, k_st, k_par2, k_par, k_aug2, k_aug1, k_sa2, k_sa1, k_aa4, k_aa3, k_aa2, k_aa1, k_frl, k_try, k_rn, k_rx, k_re, List.getElem?_cons_zero, List.getElem?_cons_succ, List.set_cons_zero, List.set_cons_succ, List.length_cons, List.length_nil, decide_eq_true_eq, Bool.not_eq_true', decide_eq_false_iff_not, if_true, if_false, Bool.false_eq_true, reduceIte, List.cons_append, List.nil_append, List.map_cons, List.map_nil, Nat.reduceLeDiff, and_true, true_and, startE, List.replicate, List.length_singleton, List.append_nil, decide_true, decide_false, not_true_eq_false, not_false_eq_true, Int.natAbs_natCast, Int.toNat_natCast, List.length_map, Bool.not_true, Bool.not_false, reduceCtorEq, subTN, ne_eq, and_self, true_and, Nat.reduceSub, Nat.reduceAdd, wipeE]
  generalize hN : (if (if (ss.length : Int) < 8 then (ss.length : Int) else 8) > 2 then (if (ss.length : Int) < 8 then (ss.length : Int) else 8) else 2) = NN
  have nn : 2 ≤ NN ∧ NN ≤ 8 := by rw [← hN]; split <;> split <;> omega
  have l60 : NN.natAbs < 2 ^ 60 := by omega
  simp only [l60, ↓e1_var, ↓e1_int, ↓e1_str, ↓e1_bl, ↓e1_non, ↓e1_glob, ↓e1_bin, ↓e1_neg, ↓e1_bitl, ↓e1_not, ↓e1_and, ↓e1_or, ↓e1_cmp, ↓e1_chain, ↓e1_ite, ↓e1_call, ↓e1_callK, ↓e1_eqd, ↓e1_make, ↓e1_meO, ↓e1_bi, ↓e1_isi, ↓e1_meth, ↓e1_attr, ↓e1_tup, ↓e1_lst, ↓e1_dict, ↓e1_dictT, ↓e1_ix, ↓e1_sl, ↓o1_nil, ↓o1_cons, ↓e1_lc, ↓l1_nil, ↓l1_cons, ↓t1_cmp, ↓t1_chain, ↓t1_eqd, ↓t1_not, ↓t1_and, ↓t1_or, ↓c1_nil, ↓c1_cons, ↓i1_val, ↓i1_r1, ↓i1_r2, ↓g1_nm, ↓g1_sub, ↓g1_tup, ↓gs1_nil, ↓gs1_cons, ↓s1_skip, ↓s1_seq, ↓s1_ret, ↓s1_retN, ↓s1_expr, ↓s1_ite, ↓s1_brk, ↓s1_cont, ↓s1_bad, ↓s1_set, ↓s1_setT, ↓s1_par, ↓s1_aug, ↓s1_sattr, ↓s1_aattr, ↓s1_raise0, ↓s1_tryO, ↓s1_tryA, ↓s1_whl, ↓s1_frl, ↓t2_var, ↓t2_bl, ↓t2_ix, ↓t2_call, ↓t2_callK, ↓t2_meO, ↓t2_bi, ↓t2_isi, ↓t2_meth, ↓t2_attr, ↓t2_bin, wR_ok, wR_bad, wR_ite, wV_some, wV_none, wV_no, wBl_bl, wBl_int, wOp_some, wOp_none, wInt_int, wTwo_two, dnF_P, dnF_m, dnF_call, dnF_call1, b_add, b_sub, b_mul, b_div, b_mod, b_pow, b_shl, b_shr, b_and, b_or, b_xor, c_eq, c_ne, c_lt, c_le, c_gt, c_ge, c_is, c_isn, c_in, c_nin, a_add, a_sub, p_add, p_sub, p_mul, p_div, p_mod, p_pow, p_shr, p_and2, p_neg, p_bits, p_lt, p_le, p_gt, p_ge, p_eqi, p_nei, p_eqs, p_nes, p_eqb, p_isn, p_isnn, t_bl, t_int, len_tup, bi_int, bi_intb, bi_abs, bi_lstT, wIx_l, wIx_f, wIx_d, wIx_t, wSq_l, wSq_f, wMl_l, wLs_l, wLs_f, wLs_d, wDk_d, wSt_l, wSt_d, wSt_t, wDl_d, wDl_t, rcvO_l, rcvO_f, rcvO_d, rcvO_t, tnO_l, tnO_f, tnO_d, tnO_t, lstO_l, lstO_f, keyV_i, keyV_s, q_ix, q_ixT, q_ixK, q_set, q_len, q_list, q_dict, q_tuple, q_it, q_itT, q_itK, q_itS, q_r1, q_r2, q_addL, q_addT, q_in, q_nin, q_eq, q_ne, eqB_i, eqB_s, eqB_b, q_slL, q_slT, q_tr, q_rcv, q_tn, tn_i, tn_b, tn_n, tn_s, tn_t, tn_k, me_app, me_pop, me_rev, me_clr, me_ins, me_idx, me_get, me_sd, q_app, q_rev, q_clr, q_pop, q_get1, q_get2, q_idx, at0, at1, at2, at3, ix0, ix1, ix2, ix3, atk, ls_len, ha_new, la_new, k_at, k_at2, k_bin2, k_bin1, k_neg, k_bits, k_not2, k_not1, k_and2, k_and1, k_or2, k_or1, k_cmp2, k_cmp1, k_ch4, k_ch3, k_ch2, k_ch1, k_ite, k_call, k_ck2, k_ck1, k_eqd2, k_eqd1, k_mk3, k_mk2, k_mk1, k_mo3, k_mo2, k_mo1, k_bi, k_isi2, k_isi, k_me4, k_me3, k_me2, k_me1, k_attr, k_tup, k_lst, k_ix2, k_ix1, k_sl3, k_sl2, k_sl1, k_oi2, k_oi, k_lc, k_l2, k_l1, k_tr, k_bl2, k_bl, k_tn, k_ta, k_to, k_it, k_r1, k_r2b, k_r2, k_un, k_gs2, k_gs1, k_gt, k_gc, k_xs, k_seq, k_ex, k_sif, k_set, k_st, k_par2, k_par, k_aug2, k_aug1, k_sa2, k_sa1, k_aa4, k_aa3, k_aa2, k_aa1, k_frl, k_try, k_rn, k_rx, k_re, List.getElem?_cons_zero, List.getElem?_cons_succ, List.set_cons_zero, List.set_cons_succ, List.length_cons, List.length_nil, decide_eq_true_eq, Bool.not_eq_true', decide_eq_false_iff_not, if_true, if_false, Bool.false_eq_true, reduceIte, List.cons_append, List.nil_append, List.map_cons, List.map_nil, Nat.reduceLeDiff, and_true, true_and, startE, List.replicate, List.length_singleton, List.append_nil, decide_true, decide_false, not_true_eq_false, not_false_eq_true, Int.natAbs_natCast, Int.toNat_natCast, List.length_map, Bool.not_true, Bool.not_false, reduceCtorEq, subTN, ne_eq, and_self, true_and, Nat.reduceSub, Nat.reduceAdd, wipeE]
  refine for_w NN.toNat (fun i en hh => hh[0]? = some (.frz (ss.map PV.int)) ∧ ∃ x1 x2 x3 x4 x5, en = [some (.ref 0), x1, x2, x3, x4, x5]) (by omega) ⟨rfl, _, _, _, _, _, rfl⟩ ?_ ?_
  · rintro en hh ⟨h0, x1, x2, x3, x4, x5, rfl⟩
    refine ⟨itR_end, ?_⟩
    simp only [↓e1_var, ↓e1_int, ↓e1_str, ↓e1_bl, ↓e1_non, ↓e1_glob, ↓e1_bin, ↓e1_neg, ↓e1_bitl, ↓e1_not, ↓e1_and, ↓e1_or, ↓e1_cmp, ↓e1_chain, ↓e1_ite, ↓e1_call, ↓e1_callK, ↓e1_eqd, ↓e1_make, ↓e1_meO, ↓e1_bi, ↓e1_isi, ↓e1_meth, ↓e1_attr, ↓e1_tup, ↓e1_lst, ↓e1_dict, ↓e1_dictT, ↓e1_ix, ↓e1_sl, ↓o1_nil, ↓o1_cons, ↓e1_lc, ↓l1_nil, ↓l1_cons, ↓t1_cmp, ↓t1_chain, ↓t1_eqd, ↓t1_not, ↓t1_and, ↓t1_or, ↓c1_nil, ↓c1_cons, ↓i1_val, ↓i1_r1, ↓i1_r2, ↓g1_nm, ↓g1_sub, ↓g1_tup, ↓gs1_nil, ↓gs1_cons, ↓s1_skip, ↓s1_seq, ↓s1_ret, ↓s1_retN, ↓s1_expr, ↓s1_ite, ↓s1_brk, ↓s1_cont, ↓s1_bad, ↓s1_set, ↓s1_setT, ↓s1_par, ↓s1_aug, ↓s1_sattr, ↓s1_aattr, ↓s1_raise0, ↓s1_tryO, ↓s1_tryA, ↓s1_whl, ↓s1_frl, ↓t2_var, ↓t2_bl, ↓t2_ix, ↓t2_call, ↓t2_callK, ↓t2_meO, ↓t2_bi, ↓t2_isi, ↓t2_meth, ↓t2_attr, ↓t2_bin, wR_ok, wR_bad, wR_ite, wV_some, wV_none, wV_no, wBl_bl, wBl_int, wOp_some, wOp_none, wInt_int, wTwo_two, dnF_P, dnF_m, dnF_call, dnF_call1, b_add, b_sub, b_mul, b_div, b_mod, b_pow, b_shl, b_shr, b_and, b_or, b_xor, c_eq, c_ne, c_lt, c_le, c_gt, c_ge, c_is, c_isn, c_in, c_nin, a_add, a_sub, p_add, p_sub, p_mul, p_div, p_mod, p_pow, p_shr, p_and2, p_neg, p_bits, p_lt, p_le, p_gt, p_ge, p_eqi, p_nei, p_eqs, p_nes, p_eqb, p_isn, p_isnn, t_bl, t_int, len_tup, bi_int, bi_intb, bi_abs, bi_lstT, wIx_l, wIx_f, wIx_d, wIx_t, wSq_l, wSq_f, wMl_l, wLs_l, wLs_f, wLs_d, wDk_d, wSt_l, wSt_d, wSt_t, wDl_d, wDl_t, rcvO_l, rcvO_f, rcvO_d, rcvO_t, tnO_l, tnO_f, tnO_d, tnO_t, lstO_l, lstO_f, keyV_i, keyV_s, q_ix, q_ixT, q_ixK, q_set, q_len, q_list, q_dict, q_tuple, q_it, q_itT, q_itK, q_itS, q_r1, q_r2, q_addL, q_addT, q_in, q_nin, q_eq, q_ne, eqB_i, eqB_s, eqB_b, q_slL, q_slT, q_tr, q_rcv, q_tn, tn_i, tn_b, tn_n, tn_s, tn_t, tn_k, me_app, me_pop, me_rev, me_clr, me_ins, me_idx, me_get, me_sd, q_app, q_rev, q_clr, q_pop, q_get1, q_get2, q_idx, at0, at1, at2, at3, ix0, ix1, ix2, ix3, atk, ls_len, ha_new, la_new, k_at, k_at2, k_bin2, k_bin1, k_neg, k_bits, k_not2, k_not1, k_and2, k_and1, k_or2, k_or1, k_cmp2, k_cmp1, k_ch4, k_ch3, k_ch2, k_ch1, k_ite, k_call, k_ck2, k_ck1, k_eqd2, k_eqd1, k_mk3, k_mk2, k_mk1, k_mo3, k_mo2, k_mo1, k_bi, k_isi2, k_isi, k_me4, k_me3, k_me2, k_me1, k_attr, k_tup, k_lst, k_ix2, k_ix1, k_sl3, k_sl2, k_sl1, k_oi2, k_oi, k_lc, k_l2, k_l1, k_tr, k_bl2, k_bl, k_tn, k_ta, k_to, k_it, k_r1, k_r2b, k_r2, k_un, k_gs2, k_gs1, k_gt, k_gc, k_xs, k_seq, k_ex, k_sif, k_set, k_st, k_par2, k_par, k_aug2, k_aug1, k_sa2, k_sa1, k_aa4, k_aa3, k_aa2, k_aa1, k_frl, k_try, k_rn, k_rx, k_re, List.getElem?_cons_zero, List.getElem?_cons_succ, List.set_cons_zero, List.set_cons_succ, List.length_cons, List.length_nil, decide_eq_true_eq, Bool.not_eq_true', decide_eq_false_iff_not, if_true, if_false, Bool.false_eq_true, reduceIte, List.cons_append, List.nil_append, List.map_cons, List.map_nil, Nat.reduceLeDiff, and_true, true_and, startE, List.replicate, List.length_singleton, List.append_nil, decide_true, decide_false, not_true_eq_false, not_false_eq_true, Int.natAbs_natCast, Int.toNat_natCast, List.length_map, Bool.not_true, Bool.not_false, reduceCtorEq, subTN, ne_eq, and_self, true_and, Nat.reduceSub, Nat.reduceAdd, wipeE]
  · rintro i en hh hi ⟨h0, x1, x2, x3, x4, x5, rfl⟩
    refine ⟨.int (0 + i), itR_at hi, ?_⟩
    have l0 := lt_of h0
    simp only [Int.zero_add, dvN, ↓e1_var, ↓e1_int, ↓e1_str, ↓e1_bl, ↓e1_non, ↓e1_glob, ↓e1_bin, ↓e1_neg, ↓e1_bitl, ↓e1_not, ↓e1_and, ↓e1_or, ↓e1_cmp, ↓e1_chain, ↓e1_ite, ↓e1_call, ↓e1_callK, ↓e1_eqd, ↓e1_make, ↓e1_meO, ↓e1_bi, ↓e1_isi, ↓e1_meth, ↓e1_attr, ↓e1_tup, ↓e1_lst, ↓e1_dict, ↓e1_dictT, ↓e1_ix, ↓e1_sl, ↓o1_nil, ↓o1_cons, ↓e1_lc, ↓l1_nil, ↓l1_cons, ↓t1_cmp, ↓t1_chain, ↓t1_eqd, ↓t1_not, ↓t1_and, ↓t1_or, ↓c1_nil, ↓c1_cons, ↓i1_val, ↓i1_r1, ↓i1_r2, ↓g1_nm, ↓g1_sub, ↓g1_tup, ↓gs1_nil, ↓gs1_cons, ↓s1_skip, ↓s1_seq, ↓s1_ret, ↓s1_retN, ↓s1_expr, ↓s1_ite, ↓s1_brk, ↓s1_cont, ↓s1_bad, ↓s1_set, ↓s1_setT, ↓s1_par, ↓s1_aug, ↓s1_sattr, ↓s1_aattr, ↓s1_raise0, ↓s1_tryO, ↓s1_tryA, ↓s1_whl, ↓s1_frl, ↓t2_var, ↓t2_bl, ↓t2_ix, ↓t2_call, ↓t2_callK, ↓t2_meO, ↓t2_bi, ↓t2_isi, ↓t2_meth, ↓t2_attr, ↓t2_bin, wR_ok, wR_bad, wR_ite, wV_some, wV_none, wV_no, wBl_bl, wBl_int, wOp_some, wOp_none, wInt_int, wTwo_two, dnF_P, dnF_m, dnF_call, dnF_call1, b_add, b_sub, b_mul, b_div, b_mod, b_pow, b_shl, b_shr, b_and, b_or, b_xor, c_eq, c_ne, c_lt, c_le, c_gt, c_ge, c_is, c_isn, c_in, c_nin, a_add, a_sub, p_add, p_sub, p_mul, p_div, p_mod, p_pow, p_shr, p_and2, p_neg, p_bits, p_lt, p_le, p_gt, p_ge, p_eqi, p_nei, p_eqs, p_nes, p_eqb, p_isn, p_isnn, t_bl, t_int, len_tup, bi_int, bi_intb, bi_abs, bi_lstT, wIx_l, wIx_f, wIx_d, wIx_t, wSq_l, wSq_f, wMl_l, wLs_l, wLs_f, wLs_d, wDk_d, wSt_l, wSt_d, wSt_t, wDl_d, wDl_t, rcvO_l, rcvO_f, rcvO_d, rcvO_t, tnO_l, tnO_f, tnO_d, tnO_t, lstO_l, lstO_f, keyV_i, keyV_s, q_ix, q_ixT, q_ixK, q_set, q_len, q_list, q_dict, q_tuple, q_it, q_itT, q_itK, q_itS, q_r1, q_r2, q_addL, q_addT, q_in, q_nin, q_eq, q_ne, eqB_i, eqB_s, eqB_b, q_slL, q_slT, q_tr, q_rcv, q_tn, tn_i, tn_b, tn_n, tn_s, tn_t, tn_k, me_app, me_pop, me_rev, me_clr, me_ins, me_idx, me_get, me_sd, q_app, q_rev, q_clr, q_pop, q_get1, q_get2, q_idx, at0, at1, at2, at3, ix0, ix1, ix2, ix3, atk, ls_len, ha_new, la_new, k_at, k_at2, k_bin2, k_bin1, k_neg, k_bits, k_not2, k_not1, k_and2, k_and1, k_or2, k_or1, k_cmp2, k_cmp1, k_ch4, k_ch3, k_ch2, k_ch1, k_ite, k_call, k_ck2, k_ck1, k_eqd2, k_eqd1, k_mk3, k_mk2, k_mk1, k_mo3, k_mo2, k_mo1, k_bi, k_isi2, k_isi, k_me4, k_me3, k_me2, k_me1, k_attr, k_tup, k_lst, k_ix2, k_ix1, k_sl3, k_sl2, k_sl1, k_oi2, k_oi, k_lc, k_l2, k_l1, k_tr, k_bl2, k_bl, k_tn, k_ta, k_to, k_it, k_r1, k_r2b, k_r2, k_un, k_gs2, k_gs1, k_gt, k_gc, k_xs, k_seq, k_ex, k_sif, k_set, k_st, k_par2, k_par, k_aug2, k_aug1, k_sa2, k_sa1, k_aa4, k_aa3, k_aa2, k_aa1, k_frl, k_try, k_rn, k_rx, k_re, List.getElem?_cons_zero, List.getElem?_cons_succ, List.set_cons_zero, List.set_cons_succ, List.length_cons, List.length_nil, decide_eq_true_eq, Bool.not_eq_true', decide_eq_false_iff_not, if_true, if_false, Bool.false_eq_true, reduceIte, List.cons_append, List.nil_append, List.map_cons, List.map_nil, Nat.reduceLeDiff, and_true, true_and, startE, List.replicate, List.length_singleton, List.append_nil, decide_true, decide_false, not_true_eq_false, not_false_eq_true, Int.natAbs_natCast, Int.toNat_natCast, List.length_map, Bool.not_true, Bool.not_false, reduceCtorEq, subTN, ne_eq, and_self, true_and, Nat.reduceSub, Nat.reduceAdd, wipeE]
    refine pool_w (k+4) 0 i h0 fun o h1 ho hp x1 lt1 => ?_
    simp only [dvN, ↓e1_var, ↓e1_int, ↓e1_str, ↓e1_bl, ↓e1_non, ↓e1_glob, ↓e1_bin, ↓e1_neg, ↓e1_bitl, ↓e1_not, ↓e1_and, ↓e1_or, ↓e1_cmp, ↓e1_chain, ↓e1_ite, ↓e1_call, ↓e1_callK, ↓e1_eqd, ↓e1_make, ↓e1_meO, ↓e1_bi, ↓e1_isi, ↓e1_meth, ↓e1_attr, ↓e1_tup, ↓e1_lst, ↓e1_dict, ↓e1_dictT, ↓e1_ix, ↓e1_sl, ↓o1_nil, ↓o1_cons, ↓e1_lc, ↓l1_nil, ↓l1_cons, ↓t1_cmp, ↓t1_chain, ↓t1_eqd, ↓t1_not, ↓t1_and, ↓t1_or, ↓c1_nil, ↓c1_cons, ↓i1_val, ↓i1_r1, ↓i1_r2, ↓g1_nm, ↓g1_sub, ↓g1_tup, ↓gs1_nil, ↓gs1_cons, ↓s1_skip, ↓s1_seq, ↓s1_ret, ↓s1_retN, ↓s1_expr, ↓s1_ite, ↓s1_brk, ↓s1_cont, ↓s1_bad, ↓s1_set, ↓s1_setT, ↓s1_par, ↓s1_aug, ↓s1_sattr, ↓s1_aattr, ↓s1_raise0, ↓s1_tryO, ↓s1_tryA, ↓s1_whl, ↓s1_frl, ↓t2_var, ↓t2_bl, ↓t2_ix, ↓t2_call, ↓t2_callK, ↓t2_meO, ↓t2_bi, ↓t2_isi, ↓t2_meth, ↓t2_attr, ↓t2_bin, wR_ok, wR_bad, wR_ite, wV_some, wV_none, wV_no, wBl_bl, wBl_int, wOp_some, wOp_none, wInt_int, wTwo_two, dnF_P, dnF_m, dnF_call, dnF_call1, b_add, b_sub, b_mul, b_div, b_mod, b_pow, b_shl, b_shr, b_and, b_or, b_xor, c_eq, c_ne, c_lt, c_le, c_gt, c_ge, c_is, c_isn, c_in, c_nin, a_add, a_sub, p_add, p_sub, p_mul, p_div, p_mod, p_pow, p_shr, p_and2, p_neg, p_bits, p_lt, p_le, p_gt, p_ge, p_eqi, p_nei, p_eqs, p_nes, p_eqb, p_isn, p_isnn, t_bl, t_int, len_tup, bi_int, bi_intb, bi_abs, bi_lstT, wIx_l, wIx_f, wIx_d, wIx_t, wSq_l, wSq_f, wMl_l, wLs_l, wLs_f, wLs_d, wDk_d, wSt_l, wSt_d, wSt_t, wDl_d, wDl_t, rcvO_l, rcvO_f, rcvO_d, rcvO_t, tnO_l, tnO_f, tnO_d, tnO_t, lstO_l, lstO_f, keyV_i, keyV_s, q_ix, q_ixT, q_ixK, q_set, q_len, q_list, q_dict, q_tuple, q_it, q_itT, q_itK, q_itS, q_r1, q_r2, q_addL, q_addT, q_in, q_nin, q_eq, q_ne, eqB_i, eqB_s, eqB_b, q_slL, q_slT, q_tr, q_rcv, q_tn, tn_i, tn_b, tn_n, tn_s, tn_t, tn_k, me_app, me_pop, me_rev, me_clr, me_ins, me_idx, me_get, me_sd, q_app, q_rev, q_clr, q_pop, q_get1, q_get2, q_idx, at0, at1, at2, at3, ix0, ix1, ix2, ix3, atk, ls_len, ha_new, la_new, k_at, k_at2, k_bin2, k_bin1, k_neg, k_bits, k_not2, k_not1, k_and2, k_and1, k_or2, k_or1, k_cmp2, k_cmp1, k_ch4, k_ch3, k_ch2, k_ch1, k_ite, k_call, k_ck2, k_ck1, k_eqd2, k_eqd1, k_mk3, k_mk2, k_mk1, k_mo3, k_mo2, k_mo1, k_bi, k_isi2, k_isi, k_me4, k_me3, k_me2, k_me1, k_attr, k_tup, k_lst, k_ix2, k_ix1, k_sl3, k_sl2, k_sl1, k_oi2, k_oi, k_lc, k_l2, k_l1, k_tr, k_bl2, k_bl, k_tn, k_ta, k_to, k_it, k_r1, k_r2b, k_r2, k_un, k_gs2, k_gs1, k_gt, k_gc, k_xs, k_seq, k_ex, k_sif, k_set, k_st, k_par2, k_par, k_aug2, k_aug1, k_sa2, k_sa1, k_aa4, k_aa3, k_aa2, k_aa1, k_frl, k_try, k_rn, k_rx, k_re, List.getElem?_cons_zero, List.getElem?_cons_succ, List.set_cons_zero, List.set_cons_succ, List.length_cons, List.length_nil, decide_eq_true_eq, Bool.not_eq_true', decide_eq_false_iff_not, if_true, if_false, Bool.false_eq_true, reduceIte, List.cons_append, List.nil_append, List.map_cons, List.map_nil, Nat.reduceLeDiff, and_true, true_and, startE, List.replicate, List.length_singleton, List.append_nil, decide_true, decide_false, not_true_eq_false, not_false_eq_true, Int.natAbs_natCast, Int.toNat_natCast, List.length_map, Bool.not_true, Bool.not_false, reduceCtorEq, subTN, ne_eq, and_self, true_and, Nat.reduceSub, Nat.reduceAdd, wipeE]
    refine two_g (k+2) _ (Grow.refl ho hp) fun x y h2 g2 s1 s2 => ?_
    simp only [sq_tup, GL.len, dvN, ↓e1_var, ↓e1_int, ↓e1_str, ↓e1_bl, ↓e1_non, ↓e1_glob, ↓e1_bin, ↓e1_neg, ↓e1_bitl, ↓e1_not, ↓e1_and, ↓e1_or, ↓e1_cmp, ↓e1_chain, ↓e1_ite, ↓e1_call, ↓e1_callK, ↓e1_eqd, ↓e1_make, ↓e1_meO, ↓e1_bi, ↓e1_isi, ↓e1_meth, ↓e1_attr, ↓e1_tup, ↓e1_lst, ↓e1_dict, ↓e1_dictT, ↓e1_ix, ↓e1_sl, ↓o1_nil, ↓o1_cons, ↓e1_lc, ↓l1_nil, ↓l1_cons, ↓t1_cmp, ↓t1_chain, ↓t1_eqd, ↓t1_not, ↓t1_and, ↓t1_or, ↓c1_nil, ↓c1_cons, ↓i1_val, ↓i1_r1, ↓i1_r2, ↓g1_nm, ↓g1_sub, ↓g1_tup, ↓gs1_nil, ↓gs1_cons, ↓s1_skip, ↓s1_seq, ↓s1_ret, ↓s1_retN, ↓s1_expr, ↓s1_ite, ↓s1_brk, ↓s1_cont, ↓s1_bad, ↓s1_set, ↓s1_setT, ↓s1_par, ↓s1_aug, ↓s1_sattr, ↓s1_aattr, ↓s1_raise0, ↓s1_tryO, ↓s1_tryA, ↓s1_whl, ↓s1_frl, ↓t2_var, ↓t2_bl, ↓t2_ix, ↓t2_call, ↓t2_callK, ↓t2_meO, ↓t2_bi, ↓t2_isi, ↓t2_meth, ↓t2_attr, ↓t2_bin, wR_ok, wR_bad, wR_ite, wV_some, wV_none, wV_no, wBl_bl, wBl_int, wOp_some, wOp_none, wInt_int, wTwo_two, dnF_P, dnF_m, dnF_call, dnF_call1, b_add, b_sub, b_mul, b_div, b_mod, b_pow, b_shl, b_shr, b_and, b_or, b_xor, c_eq, c_ne, c_lt, c_le, c_gt, c_ge, c_is, c_isn, c_in, c_nin, a_add, a_sub, p_add, p_sub, p_mul, p_div, p_mod, p_pow, p_shr, p_and2, p_neg, p_bits, p_lt, p_le, p_gt, p_ge, p_eqi, p_nei, p_eqs, p_nes, p_eqb, p_isn, p_isnn, t_bl, t_int, len_tup, bi_int, bi_intb, bi_abs, bi_lstT, wIx_l, wIx_f, wIx_d, wIx_t, wSq_l, wSq_f, wMl_l, wLs_l, wLs_f, wLs_d, wDk_d, wSt_l, wSt_d, wSt_t, wDl_d, wDl_t, rcvO_l, rcvO_f, rcvO_d, rcvO_t, tnO_l, tnO_f, tnO_d, tnO_t, lstO_l, lstO_f, keyV_i, keyV_s, q_ix, q_ixT, q_ixK, q_set, q_len, q_list, q_dict, q_tuple, q_it, q_itT, q_itK, q_itS, q_r1, q_r2, q_addL, q_addT, q_in, q_nin, q_eq, q_ne, eqB_i, eqB_s, eqB_b, q_slL, q_slT, q_tr, q_rcv, q_tn, tn_i, tn_b, tn_n, tn_s, tn_t, tn_k, me_app, me_pop, me_rev, me_clr, me_ins, me_idx, me_get, me_sd, q_app, q_rev, q_clr, q_pop, q_get1, q_get2, q_idx, at0, at1, at2, at3, ix0, ix1, ix2, ix3, atk, ls_len, ha_new, la_new, k_at, k_at2, k_bin2, k_bin1, k_neg, k_bits, k_not2, k_not1, k_and2, k_and1, k_or2, k_or1, k_cmp2, k_cmp1, k_ch4, k_ch3, k_ch2, k_ch1, k_ite, k_call, k_ck2, k_ck1, k_eqd2, k_eqd1, k_mk3, k_mk2, k_mk1, k_mo3, k_mo2, k_mo1, k_bi, k_isi2, k_isi, k_me4, k_me3, k_me2, k_me1, k_attr, k_tup, k_lst, k_ix2, k_ix1, k_sl3, k_sl2, k_sl1, k_oi2, k_oi, k_lc, k_l2, k_l1, k_tr, k_bl2, k_bl, k_tn, k_ta, k_to, k_it, k_r1, k_r2b, k_r2, k_un, k_gs2, k_gs1, k_gt, k_gc, k_xs, k_seq, k_ex, k_sif, k_set, k_st, k_par2, k_par, k_aug2, k_aug1, k_sa2, k_sa1, k_aa4, k_aa3, k_aa2, k_aa1, k_frl, k_try, k_rn, k_rx, k_re, List.getElem?_cons_zero, List.getElem?_cons_succ, List.set_cons_zero, List.set_cons_succ, List.length_cons, List.length_nil, decide_eq_true_eq, Bool.not_eq_true', decide_eq_false_iff_not, if_true, if_false, Bool.false_eq_true, reduceIte, List.cons_append, List.nil_append, List.map_cons, List.map_nil, Nat.reduceLeDiff, and_true, true_and, startE, List.replicate, List.length_singleton, List.append_nil, decide_true, decide_false, not_true_eq_false, not_false_eq_true, Int.natAbs_natCast, Int.toNat_natCast, List.length_map, Bool.not_true, Bool.not_false, reduceCtorEq, subTN, ne_eq, and_self, true_and, Nat.reduceSub, Nat.reduceAdd, wipeE]
    refine fm (k+4) _ g2 (by decide) (by decide) fun how h3 r0 r1 g3 => ?_
    have k0 : h3[0]? = some (.frz (ss.map PV.int)) := (g3.toExt (Nat.le_refl _) x1).get h0
    have b1 := s1.mk (by decide)
    have b2 := s2.mk (by decide)
    simp only [dvN, asked_ok (k+1) x y _ _ b1 b2, asked_ok (k+1) y x _ _ b2 b1, ↓e1_var, ↓e1_int, ↓e1_str, ↓e1_bl, ↓e1_non, ↓e1_glob, ↓e1_bin, ↓e1_neg, ↓e1_bitl, ↓e1_not, ↓e1_and, ↓e1_or, ↓e1_cmp, ↓e1_chain, ↓e1_ite, ↓e1_call, ↓e1_callK, ↓e1_eqd, ↓e1_make, ↓e1_meO, ↓e1_bi, ↓e1_isi, ↓e1_meth, ↓e1_attr, ↓e1_tup, ↓e1_lst, ↓e1_dict, ↓e1_dictT, ↓e1_ix, ↓e1_sl, ↓o1_nil, ↓o1_cons, ↓e1_lc, ↓l1_nil, ↓l1_cons, ↓t1_cmp, ↓t1_chain, ↓t1_eqd, ↓t1_not, ↓t1_and, ↓t1_or, ↓c1_nil, ↓c1_cons, ↓i1_val, ↓i1_r1, ↓i1_r2, ↓g1_nm, ↓g1_sub, ↓g1_tup, ↓gs1_nil, ↓gs1_cons, ↓s1_skip, ↓s1_seq, ↓s1_ret, ↓s1_retN, ↓s1_expr, ↓s1_ite, ↓s1_brk, ↓s1_cont, ↓s1_bad, ↓s1_set, ↓s1_setT, ↓s1_par, ↓s1_aug, ↓s1_sattr, ↓s1_aattr, ↓s1_raise0, ↓s1_tryO, ↓s1_tryA, ↓s1_whl, ↓s1_frl, ↓t2_var, ↓t2_bl, ↓t2_ix, ↓t2_call, ↓t2_callK, ↓t2_meO, ↓t2_bi, ↓t2_isi, ↓t2_meth, ↓t2_attr, ↓t2_bin, wR_ok, wR_bad, wR_ite, wV_some, wV_none, wV_no, wBl_bl, wBl_int, wOp_some, wOp_none, wInt_int, wTwo_two, dnF_P, dnF_m, dnF_call, dnF_call1, b_add, b_sub, b_mul, b_div, b_mod, b_pow, b_shl, b_shr, b_and, b_or, b_xor, c_eq, c_ne, c_lt, c_le, c_gt, c_ge, c_is, c_isn, c_in, c_nin, a_add, a_sub, p_add, p_sub, p_mul, p_div, p_mod, p_pow, p_shr, p_and2, p_neg, p_bits, p_lt, p_le, p_gt, p_ge, p_eqi, p_nei, p_eqs, p_nes, p_eqb, p_isn, p_isnn, t_bl, t_int, len_tup, bi_int, bi_intb, bi_abs, bi_lstT, wIx_l, wIx_f, wIx_d, wIx_t, wSq_l, wSq_f, wMl_l, wLs_l, wLs_f, wLs_d, wDk_d, wSt_l, wSt_d, wSt_t, wDl_d, wDl_t, rcvO_l, rcvO_f, rcvO_d, rcvO_t, tnO_l, tnO_f, tnO_d, tnO_t, lstO_l, lstO_f, keyV_i, keyV_s, q_ix, q_ixT, q_ixK, q_set, q_len, q_list, q_dict, q_tuple, q_it, q_itT, q_itK, q_itS, q_r1, q_r2, q_addL, q_addT, q_in, q_nin, q_eq, q_ne, eqB_i, eqB_s, eqB_b, q_slL, q_slT, q_tr, q_rcv, q_tn, tn_i, tn_b, tn_n, tn_s, tn_t, tn_k, me_app, me_pop, me_rev, me_clr, me_ins, me_idx, me_get, me_sd, q_app, q_rev, q_clr, q_pop, q_get1, q_get2, q_idx, at0, at1, at2, at3, ix0, ix1, ix2, ix3, atk, ls_len, ha_new, la_new, k_at, k_at2, k_bin2, k_bin1, k_neg, k_bits, k_not2, k_not1, k_and2, k_and1, k_or2, k_or1, k_cmp2, k_cmp1, k_ch4, k_ch3, k_ch2, k_ch1, k_ite, k_call, k_ck2, k_ck1, k_eqd2, k_eqd1, k_mk3, k_mk2, k_mk1, k_mo3, k_mo2, k_mo1, k_bi, k_isi2, k_isi, k_me4, k_me3, k_me2, k_me1, k_attr, k_tup, k_lst, k_ix2, k_ix1, k_sl3, k_sl2, k_sl1, k_oi2, k_oi, k_lc, k_l2, k_l1, k_tr, k_bl2, k_bl, k_tn, k_ta, k_to, k_it, k_r1, k_r2b, k_r2, k_un, k_gs2, k_gs1, k_gt, k_gc, k_xs, k_seq, k_ex, k_sif, k_set, k_st, k_par2, k_par, k_aug2, k_aug1, k_sa2, k_sa1, k_aa4, k_aa3, k_aa2, k_aa1, k_frl, k_try, k_rn, k_rx, k_re, List.getElem?_cons_zero, List.getElem?_cons_succ, List.set_cons_zero, List.set_cons_succ, List.length_cons, List.length_nil, decide_eq_true_eq, Bool.not_eq_true', decide_eq_false_iff_not, if_true, if_false, Bool.false_eq_true, reduceIte, List.cons_append, List.nil_append, List.map_cons, List.map_nil, Nat.reduceLeDiff, and_true, true_and, startE, List.replicate, List.length_singleton, List.append_nil, decide_true, decide_false, not_true_eq_false, not_false_eq_true, Int.natAbs_natCast, Int.toNat_natCast, List.length_map, Bool.not_true, Bool.not_false, reduceCtorEq, subTN, ne_eq, and_self, true_and, Nat.reduceSub, Nat.reduceAdd, wipeE]
    exact ⟨k0, _, _, _, _, _, rfl⟩
theorem law_true (ns : List Int) (hl : ns.length ≤ 63) (hb : ∀ z ∈ ns, PySem.Builtin.Int.intBits z ≤ 1048576) : ∃ h', callF fbs pg 100000 230 12 [.ref 0] [.frz (ns.map PV.int)] = .ok (.bl true) h' := by
  have w := law_ok 223 ns hl
  generalize e : callF fbs pg 100000 (223 + 7) 12 [.ref 0] [.frz (ns.map PV.int)] = r at w
  cases r with
  | ok v h =>
    have w : v = .bl true := w
    subst w
    exact ⟨h, rfl⟩
  | ex _ _ => exact False.elim w
  | bad => exact False.elim w
end RL

set_option Elab.async false
set_option linter.all false
set_option maxRecDepth 100000
open PySem PySem.W PyProof.Rows
set_option maxHeartbeats 0 in
theorem PySem.Challenge.cw_papersat_k01_ratio_in_lowest_terms_holds : PySem.Challenge.rw_papersat_k01_ratio_in_lowest_terms.Holds := by
  w_on; o_law; k_head; (case hw => w_witness2)
  k_fill
  refine L2.walk_ofB (l := PySem.Challenge.rw_papersat_k01_ratio_in_lowest_terms) (n := 63) (k := 230) (x := "_law_script") (CX := fun w => L2.CX PySem.Challenge.rw_papersat_k01_ratio_in_lowest_terms.prog w) (sp := fun w => RS.spT RL.attL RL.attN RL.attS _ 1 (RS.callF RL.fbs RL.pg 100000 230 12)) rfl (by decide) rfl ⟨rfl, by decide, by decide⟩ (fun w h Y => PySem.W.kIn_of Y) ?F (fun _ _ a ns hl hb hO hS => RS.law_sp hO hS (RL.law_true ns hl hb)) (fun w H s e s' h => RS.law_CX w H s e s' h)
  case F =>
    intro w mg fa h KX G hmg
    refine' RL.all_mk KX G hmg ?a0 ?l0 ?c0 ?k0 ?d0 ?v0 ?a1 ?l1 ?c1 ?k1 ?a2 ?l2 ?c2 ?k2 ?a3 ?l3 ?c3 ?k3 ?a4 ?l4 ?c4 ?k4 ?a5 ?l5 ?c5 ?k5 ?a6 ?l6 ?c6 ?k6 ?a7 ?l7 ?c7 ?k7 ?a8 ?l8 ?c8 ?k8 ?a9 ?l9 ?c9 ?k9 ?a10 ?l10 ?c10 ?k10 ?a11 ?l11 ?c11 ?k11 ?a12 ?l12 ?c12 ?k12 ?ea0 ?ex0 ?ek0 ?es0 ?et0 ?eg0 ?eh0 ?ed0 ?ec0 ?em0 ?eu ?ev ?ga0 ?gi0 ?gt0 ?gb0 ?ga1 ?gi1 ?gt1 ?gb1 ?ga2 ?gi2 ?gt2 ?gb2 ?ga3 ?gi3 ?gt3 ?gb3 ?ga4 ?gi4 ?gt4 ?gb4 ?ga5 ?gi5 ?gt5 ?gb5 ?ga6 ?gi6 ?gt6 ?gb6 ?ga7 ?gi7 ?gt7 ?gb7 ?ga8 ?gi8 ?gt8 ?gb8 ?ga9 ?gi9 ?gt9 ?gb9 ?ga11 ?ga12 ?gi12 ?gt12 ?gb12 ?ei0 ?ee0 ?eo0_0 ?eo0_1 ?eo0_2 ?eo0_3 ?eo0_4 ?eo0_5 ?eo0_6 ?eo0_7 ?eo0_8 ?eo0_9 ?eo0_10 ?eo0_11 ?eo0_12 ?z0 ?z1 ?z2 ?z3 ?z4 ?z5 ?z6 ?z7 ?z8 ?z9
    (case a0 => k_is); (case l0 => k_is); (case c0 => k_is); (case k0 => k_is); (case d0 => k_is); (case v0 => first | exact .cons ⟨_, rfl⟩ .nil | exact .cons rfl .nil | exact .cons ⟨_, rfl⟩ (.cons ⟨_, rfl⟩ .nil)); (case a1 => k_is); (case l1 => k_is); (case c1 => k_is); (case k1 => k_is); (case a2 => k_is); (case l2 => k_is); (case c2 => k_is); (case k2 => k_is); (case a3 => k_is); (case l3 => k_is); (case c3 => k_is); (case k3 => k_is); (case a4 => k_is); (case l4 => k_is); (case c4 => k_is); (case k4 => k_is); (case a5 => k_is); (case l5 => k_is); (case c5 => k_is); (case k5 => k_is); (case a6 => k_is); (case l6 => k_is); (case c6 => k_is); (case k6 => k_is); (case a7 => k_is); (case l7 => k_is); (case c7 => k_is); (case k7 => k_is); (case a8 => k_is); (case l8 => k_is); (case c8 => k_is); (case k8 => k_is); (case a9 => k_is); (case l9 => k_is); (case c9 => k_is); (case k9 => k_is); (case a10 => k_is); (case l10 => k_is); (case c10 => k_is); (case k10 => k_is); (case a11 => k_is); (case l11 => k_is); (case c11 => k_is); (case k11 => k_is); (case a12 => k_is); (case l12 => k_is); (case c12 => k_is); (case k12 => k_is); (case ea0 => k_is); (case ex0 => k_exc); (case ek0 => k_is); (case es0 => k_is); (case et0 => k_is); (case eg0 => k_is); (case eh0 => k_is); (case ed0 => k_is); (case ec0 => k_is); (case em0 => k_is); (case eu => k_is); (case ev => k_is); (case ga0 => k_is); (case gi0 => k_is); (case gt0 => k_is); (case gb0 => k_is); (case ga1 => k_is); (case gi1 => k_is); (case gt1 => k_is); (case gb1 => k_is); (case ga2 => k_is); (case gi2 => k_is); (case gt2 => k_is); (case gb2 => k_is); (case ga3 => k_is); (case gi3 => k_is); (case gt3 => k_is); (case gb3 => k_is); (case ga4 => k_is); (case gi4 => k_is); (case gt4 => k_is); (case gb4 => k_is); (case ga5 => k_is); (case gi5 => k_is); (case gt5 => k_is); (case gb5 => k_is); (case ga6 => k_is); (case gi6 => k_is); (case gt6 => k_is); (case gb6 => k_is); (case ga7 => k_is); (case gi7 => k_is); (case gt7 => k_is); (case gb7 => k_is); (case ga8 => k_is); (case gi8 => k_is); (case gt8 => k_is); (case gb8 => k_is); (case ga9 => k_is); (case gi9 => k_is); (case gt9 => k_is); (case gb9 => k_is); (case ga11 => k_is); (case ga12 => k_is); (case gi12 => k_is); (case gt12 => k_is); (case gb12 => k_is); (case ei0 => k_is); (case ee0 => k_is); (case eo0_0 => k_is); (case eo0_1 => k_is); (case eo0_2 => k_is); (case eo0_3 => k_is); (case eo0_4 => k_is); (case eo0_5 => k_is); (case eo0_6 => k_is); (case eo0_7 => k_is); (case eo0_8 => k_is); (case eo0_9 => k_is); (case eo0_10 => k_is); (case eo0_11 => k_is); (case eo0_12 => k_is); (case z0 => k_is); (case z1 => k_is); (case z2 => k_is); (case z3 => k_is); (case z4 => k_is); (case z5 => k_is); (case z6 => k_is); (case z7 => k_is); (case z8 => k_is); (case z9 => k_is)

