import PyProof.Rows.All
import Wide.All
import OpenK.AllK
import Wide.FinOn
import HandS.Base
import HandS.Call
import HandS.List
import HandS.TupAny
import HandS.Wide
import HandS.Ends
import HandS.Words
import HandS.Exc
import HandS.WordsExc
import HandS.ExcOwn
import HandS.CallSlots
import HandS.Defaults
import HandS.Dict
import HandS.Comp
import HandS.IsInst
import HandS.Small
import HandS.Deep
import HandS.Finally
import HandS.DictComp
import HandS.Star
import HandS.Style
import HandS.Head0
import HandS.Head1
import HandS.Head2
import HandS.HeadHook1
import HandS.HeadHook2
import HandS.HeadHook4
import HandS.HeadEnd
import HandS.More
import PySem.Challenge.RW_weighedtrees_k10_whole_estimates_add_up
set_option Elab.async false
set_option linter.all false
set_option maxRecDepth 100000
set_option maxHeartbeats 0
set_option exponentiation.threshold 5000
/-! ## Core: a small Python over plain values: values, a heap of numbered objects, results -/
namespace Mi
open PySem

/-- a plain value: tuples (kt: one that the module's top has made) (and lists that are only read: the script) by their items; a list, a dict, an instance by its number -/
inductive PV where
  | non | bl (b : Bool) | int (i : Int) | str (s : Str) | tup (xs : List PV) | kt (xs : List PV) | rol (xs : List PV) | ref (n : Nat)
  deriving Inhabited

mutual
def PV.eqb : PV → PV → Bool
  | .non, .non => true
  | .bl a, .bl b => a == b
  | .int a, .int b => decide (a = b)
  | .str a, .str b => decide (a = b)
  | .tup a, .tup b => PV.eqbAll a b
  | .kt a, .kt b => PV.eqbAll a b
  | .rol a, .rol b => PV.eqbAll a b
  | .ref a, .ref b => a == b
  | _, _ => false
def PV.eqbAll : List PV → List PV → Bool
  | [], [] => true
  | x :: xs, y :: ys => PV.eqb x y && PV.eqbAll xs ys
  | _, _ => false
end
mutual
theorem PV.eqb_eq : ∀ {x y : PV}, PV.eqb x y = true → x = y
  | .non, y, h => by cases y <;> first | rfl | cases h
  | .bl a, y, h => by
    cases y with
    | bl b => rw [show a = b from eq_of_beq h]
    | _ => cases h
  | .int a, y, h => by
    cases y with
    | int b => rw [show a = b from of_decide_eq_true h]
    | _ => cases h
  | .str a, y, h => by
    cases y with
    | str b => rw [show a = b from of_decide_eq_true h]
    | _ => cases h
  | .tup a, y, h => by
    cases y with
    | tup b => rw [PV.eqbAll_eq (show PV.eqbAll a b = true from h)]
    | _ => cases h
  | .kt a, y, h => by
    cases y with
    | kt b => rw [PV.eqbAll_eq (show PV.eqbAll a b = true from h)]
    | _ => cases h
  | .rol a, y, h => by
    cases y with
    | rol b => rw [PV.eqbAll_eq (show PV.eqbAll a b = true from h)]
    | _ => cases h
  | .ref a, y, h => by
    cases y with
    | ref b => rw [show a = b from eq_of_beq h]
    | _ => cases h
theorem PV.eqbAll_eq : ∀ {xs ys : List PV}, PV.eqbAll xs ys = true → xs = ys
  | [], [], _ => rfl
  | [], _ :: _, h => by cases h
  | _ :: _, [], h => by cases h
  | x :: xs, y :: ys, h => by
    have h' : (PV.eqb x y && PV.eqbAll xs ys) = true := h
    rw [Bool.and_eq_true] at h'
    rw [PV.eqb_eq h'.1, PV.eqbAll_eq h'.2]
end
mutual
theorem PV.eqb_refl : ∀ x : PV, PV.eqb x x = true
  | .non => rfl
  | .bl a => by simp [PV.eqb]
  | .int a => by simp [PV.eqb]
  | .str a => by simp [PV.eqb]
  | .tup a => PV.eqbAll_refl a
  | .kt a => PV.eqbAll_refl a
  | .rol a => PV.eqbAll_refl a
  | .ref a => by simp [PV.eqb]
theorem PV.eqbAll_refl : ∀ xs : List PV, PV.eqbAll xs xs = true
  | [] => rfl
  | x :: xs => by
    show (PV.eqb x x && PV.eqbAll xs xs) = true
    rw [PV.eqb_refl x, PV.eqbAll_refl xs] <;> rfl
end
instance : DecidableEq PV := fun x y =>
  match h : PV.eqb x y with
  | true => isTrue (PV.eqb_eq h)
  | false => isFalse (fun e => by rw [e, PV.eqb_refl] at h; cases h)
mutual
/-- all numbers of objects below n -/
def PV.lt (n : Nat) : PV → Bool
  | .ref m => Nat.blt m n
  | .tup xs => PV.ltAll n xs
  | .kt xs => PV.ltAll n xs
  | .rol xs => PV.ltAll n xs
  | _ => true
def PV.ltAll (n : Nat) : List PV → Bool
  | [] => true
  | x :: xs => PV.lt n x && PV.ltAll n xs
end

/-- an object: a list, a dict, an instance -/
inductive MO where
  | lst (xs : List PV) | dic (kvs : List (PV × PV)) | ins (c : Nat) (fs : List (Str × PV))
  deriving DecidableEq, Inhabited
abbrev MH := List MO
def MO.lt (n : Nat) : MO → Bool
  | .lst xs => PV.ltAll n xs
  | .dic kvs => kvs.all fun p => PV.lt n p.1 && PV.lt n p.2
  | .ins _ fs => fs.all fun p => PV.lt n p.2

inductive Res (α : Type) where
  | ok (v : α) (h : MH) | exc (c : Nat) (v : PV) (h : MH) | bad
  deriving Inhabited
def Res.bind {α β : Type} : Res α → (α → MH → Res β) → Res β
  | .ok v h, f => f v h
  | .exc c v h, _ => .exc c v h
  | .bad, _ => .bad
abbrev Rho := List (Option PV)
abbrev Den := Rho → MH → Res PV
abbrev DenB := Rho → MH → Res Bool
abbrev DenL := Rho → MH → Res (List PV)

/-- a call's end: what the call made and nobody can see is dropped -/
def gc (h0 : MH) (v : PV) (h : MH) : PV × MH :=
  if h.length = h0.length then (v, h)
  else if h.take h0.length = h0 then
    (if PV.lt h0.length v = true then (v, h0)
    else match v with
      | .ref m => (match h[m]? with
        | some o => if MO.lt h0.length o = true then (.ref h0.length, h0 ++ [o]) else (v, h)
        | none => (v, h))
      | _ => (v, h))
  else (v, h)

/-! ### values' operations -/
/-- an operation on values: no error comes of it -/
abbrev VR := Option (PV × MH)
def Res.of {α : Type} : Option (α × MH) → Res α
  | some p => .ok p.1 p.2
  | none => .bad
def alloc (o : MO) (h : MH) : VR := some (.ref h.length, h ++ [o])
def mulOk (i j : Int) : Bool := !(decide (Builtin.Int.intBits i > shortFactorBits) && decide (Builtin.Int.intBits j > shortFactorBits) && Builtin.Int.intTooBig (Builtin.Int.intBits i + Builtin.Int.intBits j))
/-- the items of a list or tuple -/
def itemsOf (v : PV) (h : MH) : Option (List PV) := match v with
  | .tup xs => some xs
  | .kt xs => some xs
  | .rol xs => some xs
  | .ref n => (match h[n]? with
    | some (.lst xs) => some xs
    | _ => none)
  | _ => none
def lstOf (v : PV) (h : MH) : Option (Nat × List PV) := match v with
  | .ref n => (match h[n]? with
    | some (.lst xs) => some (n, xs)
    | _ => none)
  | _ => none
def binAdd (x y : PV) (h : MH) : VR := match x, y with
  | .int i, .int j => some (.int (i + j), h)
  | .tup a, .tup b => if a.length + b.length ≤ sizeLine then some (.tup (a ++ b), h) else none
  | .str a, .str b => if a.length + b.length ≤ sizeLine then some (.str (a ++ b), h) else none
  | .ref n, .ref m => (match lstOf (.ref n) h, lstOf (.ref m) h with
    | some (_, a), some (_, b) => if a.length + b.length ≤ sizeLine then alloc (.lst (a ++ b)) h else none
    | _, _ => none)
  | _, _ => none
def binMul (x y : PV) (h : MH) : VR := match x, y with
  | .int i, .int j => if mulOk i j = true then some (.int (i * j), h) else none
  | .ref n, .int k => (match lstOf (.ref n) h with
    | some (_, a) => if -(2 ^ 63) ≤ k ∧ k < 2 ^ 63 ∧ a.length * k.toNat ≤ sizeLine then alloc (.lst (List.replicate k.toNat a).flatten) h else none
    | none => none)
  | _, _ => none
def binV (op : Operator) (x y : PV) (h : MH) : VR := match op with
  | .Add => binAdd x y h
  | .Mult => binMul x y h
  | .Sub => (match x, y with
    | .int i, .int j => some (.int (i - j), h)
    | _, _ => none)
  | .FloorDiv => (match x, y with
    | .int i, .int j => if j ≠ 0 ∧ Builtin.divisionGoesByPylong i j = false then some (.int (i.fdiv j), h) else none
    | _, _ => none)
  | .Mod => (match x, y with
    | .int i, .int j => if j ≠ 0 then some (.int (i.fmod j), h) else none
    | _, _ => none)
  | .Pow => (match x, y with
    | .int i, .int j => if 0 ≤ j ∧ j ≤ 1000000 ∧ i.natAbs < 2 ^ 64 then some (.int (i ^ j.toNat), h) else none
    | _, _ => none)
  | _ => none

def mapO {α β : Type} (f : α → Option β) : List α → Option (List β)
  | [] => some []
  | x :: xs => (match f x with
    | some y => (match mapO f xs with
      | some ys => some (y :: ys)
      | none => none)
    | none => none)
/-- a value as data, k deep -/
def toD (h : MH) : Nat → PV → Option PyData
  | _, .non => some .none
  | _, .bl b => some (.bool b)
  | _, .int i => some (.int i)
  | _, .str s => some (.str s)
  | 0, .tup _ => none
  | 0, .kt _ => none
  | 0, .rol _ => none
  | 0, .ref _ => none
  | k + 1, .tup xs => (match mapO (toD h k) xs with
    | some ds => some (.tuple ds)
    | none => none)
  | k + 1, .kt xs => (match mapO (toD h k) xs with
    | some ds => some (.tuple ds)
    | none => none)
  | k + 1, .rol xs => (match mapO (toD h k) xs with
    | some ds => some (.list ds)
    | none => none)
  | k + 1, .ref n => (match h[n]? with
    | some (.lst xs) => (match mapO (toD h k) xs with
      | some ds => some (.list ds)
      | none => none)
    | _ => none)
/-- x == y of data -/
def eqD (x y : PV) (h : MH) : Option Bool := match toD h 40 x, toD h 40 y with
  | some d, some e => if SeqAt.shaped d = true ∧ SeqAt.shaped e = true then some (PyData.eqv d e) else none
  | _, _ => none
def intsOf (xs : List PV) : Option (List Int) := mapO (fun x => match x with
  | .int i => some i
  | _ => none) xs
def cmpI (op : CmpOp) (i j : Int) : Option Bool := match op with
  | .Lt => some (decide (i < j))
  | .LtE => some (decide (i ≤ j))
  | .Gt => some (decide (j < i))
  | .GtE => some (decide (j ≤ i))
  | _ => none
def ofB (o : Option Bool) (h : MH) : VR := match o with
  | some b => some (.bl b, h)
  | none => none
def cmpV (op : CmpOp) (x y : PV) (h : MH) : VR := match op with
  | .Eq => ofB (eqD x y h) h
  | .NotEq => ofB ((eqD x y h).map (!·)) h
  | .Is => (match y with
    | .non => some (.bl (decide (x = .non)), h)
    | _ => none)
  | .IsNot => (match y with
    | .non => some (.bl (!decide (x = .non)), h)
    | _ => none)
  | .In => none
  | .NotIn => none
  | op => (match x, y with
    | .int i, .int j => ofB (cmpI op i j) h
    | _, _ => none)
/-- truth -/
def truV (x : PV) (h : MH) : Option Bool := match x with
  | .non => some false
  | .bl b => some b
  | .int i => some (i != 0)
  | .str s => if s.length ≤ sizeLine then some ((s.length : Int) != 0) else none
  | .tup xs => some (!xs.isEmpty)
  | .kt xs => some (!xs.isEmpty)
  | .rol xs => some (!xs.isEmpty)
  | .ref n => (match h[n]? with
    | some (.lst xs) => some (!xs.isEmpty)
    | _ => none)
end Mi

/-! ## Rel: what the plain values and objects stand for in the layer's heap -/
namespace Mi
open PySem PySem.Spec PyProof.Rows L2

/-- the written part; the classes' addresses; the one field of each error class -/
structure Wd where
  K : PySem.W.Frag
  ca : Nat → Addr
  fld : Nat → Str

/-- a list that nobody writes -/
def SqR (K : PySem.W.Frag) (H : Hp) (a : Addr) (vs : List V) : Prop := (∃ o, H a = some (.frz o (.lst vs))) ∨
  ∃ (o : Obj) (its : Array Value) (n : Nat), K.lookup a = some o ∧ o.cls = .type "list" ∧ o.dict = none ∧ o.data = .seq its n ∧ its.size ≤ sizeLine ∧ Vals vs its.toList
theorem SqR.l {K : PySem.W.Frag} {H : Hp} {a : Addr} {vs : List V} (h : SqR K H a vs) : SqL K H a vs := by
  rcases h with ⟨o, h⟩ | h
  · exact .inl (.inr ⟨o, h⟩)
  · exact .inr h
mutual
def RepV (K : PySem.W.Frag) (μ : List Addr) (H : Hp) : PV → V → Prop
  | .non, x => x = .non
  | .bl b, x => x = .bl b
  | .int i, x => x = .int i
  | .str s, x => x = .str s
  | .tup xs, x => ∃ a vs, x = .ref a ∧ H a = some (.tup vs) ∧ RepVs K μ H xs vs
  | .kt xs, x => ∃ a vs, x = .ref a ∧ SqT K H a vs ∧ RepVs K μ H xs vs
  | .rol xs, x => ∃ a vs, x = .ref a ∧ SqR K H a vs ∧ RepVs K μ H xs vs
  | .ref n, x => ∃ a, μ[n]? = some a ∧ x = .ref a
def RepVs (K : PySem.W.Frag) (μ : List Addr) (H : Hp) : List PV → List V → Prop
  | [], vs => vs = []
  | x :: xs, vs => ∃ v r, vs = v :: r ∧ RepV K μ H x v ∧ RepVs K μ H xs r
end
/-- a key: an int or a text -/
def pvK : Key → PV
  | .inl i => .int i
  | .inr s => .str s
inductive RepFs (K : PySem.W.Frag) (μ : List Addr) (H : Hp) : List (Str × PV) → List (Str × V) → Prop
  | nil : RepFs K μ H [] []
  | cons {f : Str} {v : PV} {x : V} {fs : List (Str × PV)} {gs : List (Str × V)} : RepV K μ H v x → RepFs K μ H fs gs → RepFs K μ H ((f, v) :: fs) ((f, x) :: gs)
inductive RepKs (K : PySem.W.Frag) (μ : List Addr) (H : Hp) : List (PV × PV) → List (Key × V) → Prop
  | nil : RepKs K μ H [] []
  | cons {k : Key} {v : PV} {x : V} {fs : List (PV × PV)} {gs : List (Key × V)} : RepV K μ H v x → RepKs K μ H fs gs → RepKs K μ H ((pvK k, v) :: fs) ((k, x) :: gs)
inductive RepTs (K : PySem.W.Frag) (μ : List Addr) (H : Hp) : List (PV × PV) → List (List Key × V) → Prop
  | nil : RepTs K μ H [] []
  | cons {k : List Key} {v : PV} {x : V} {fs : List (PV × PV)} {gs : List (List Key × V)} : RepV K μ H v x → RepTs K μ H fs gs → RepTs K μ H ((.tup (k.map pvK), v) :: fs) ((k, x) :: gs)
def RepO (W : Wd) (μ : List Addr) (H : Hp) (a : Addr) : MO → Prop
  | .lst xs => ∃ vs, H a = some (.lst vs) ∧ RepVs W.K μ H xs vs
  | .dic kvs => (∃ l, H a = some (.dK l) ∧ RepKs W.K μ H kvs l) ∨ ∃ l, H a = some (.dT l) ∧ RepTs W.K μ H kvs l
  | .ins c fs => ∃ dx gs, H a = some (.ins (W.ca c) dx gs) ∧ RepFs W.K μ H fs gs
/-- the numbered objects -/
structure Rel (W : Wd) (μ : List Addr) (h : MH) (H : Hp) : Prop where
  len : μ.length = h.length
  nd : μ.Nodup
  obj : ∀ (n : Nat) (a : Addr) (o : MO), μ[n]? = some a → h[n]? = some o → RepO W μ H a o
/-- the names' slots -/
structure RepS (K : PySem.W.Frag) (μ : List Addr) (H : Hp) (ρ : Rho) (σ : L2.St) : Prop where
  len : ρ.length = σ.length
  slot : ∀ (i : Nat) (v : PV), ρ[i]? = some (some v) → ∃ x, σ[i]? = some (some x) ∧ RepV K μ H v x
/-- later: numbers go on; what has no number stands -/
structure Ext (K : PySem.W.Frag) (μ : List Addr) (H : Hp) (μ' : List Addr) (H' : Hp) : Prop where
  pre : μ <+: μ'
  keep : ∀ a o, a ∉ μ → H a = some o → a ∉ μ' ∧ H' a = some o
  tp : ∀ a vs, H a = some (.tup vs) → H' a = some (.tup vs)
  st : ∀ a vs, SqT K H a vs → SqT K H' a vs
  sr : ∀ a vs, SqR K H a vs → SqR K H' a vs

section
variable {W : Wd} {K : PySem.W.Frag} {μ μ' μ2 : List Addr} {H H' H2 : Hp} {h h' : MH} {ρ : Rho} {σ : L2.St}
theorem Ext.refl : Ext K μ H μ H := ⟨List.prefix_refl _, fun _ _ n e => ⟨n, e⟩, fun _ _ e => e, fun _ _ e => e, fun _ _ e => e⟩
theorem Ext.trans (a : Ext K μ H μ' H') (b : Ext K μ' H' μ2 H2) : Ext K μ H μ2 H2 :=
  ⟨a.pre.trans b.pre, fun x o n e => let ⟨n1, e1⟩ := a.keep x o n e; b.keep x o n1 e1, fun x vs e => b.tp x vs (a.tp x vs e), fun x vs e => b.st x vs (a.st x vs e), fun x vs e => b.sr x vs (a.sr x vs e)⟩
theorem Ext.at (e : Ext K μ H μ' H') {n : Nat} {a : Addr} (q : μ[n]? = some a) : μ'[n]? = some a := by
  obtain ⟨t, rfl⟩ := e.pre
  rw [List.getElem?_append_left (List.getElem?_eq_some_iff.mp q).1]
  exact q
mutual
theorem RepV.imp (hm : ∀ (n : Nat) (a : Addr), μ[n]? = some a → μ'[n]? = some a) (tp : ∀ a vs, H a = some (HO.tup vs) → H' a = some (HO.tup vs)) (st : ∀ a vs, SqT K H a vs → SqT K H' a vs) (sr : ∀ a vs, SqR K H a vs → SqR K H' a vs) : ∀ {v : PV} {x : V}, RepV K μ H v x → RepV K μ' H' v x
  | .non, _, r => r
  | .bl _, _, r => r
  | .int _, _, r => r
  | .str _, _, r => r
  | .tup _, _, r => let ⟨a, vs, e, s, q⟩ := r; ⟨a, vs, e, tp _ _ s, RepVs.imp hm tp st sr q⟩
  | .kt _, _, r => let ⟨a, vs, e, s, q⟩ := r; ⟨a, vs, e, st _ _ s, RepVs.imp hm tp st sr q⟩
  | .rol _, _, r => let ⟨a, vs, e, s, q⟩ := r; ⟨a, vs, e, sr _ _ s, RepVs.imp hm tp st sr q⟩
  | .ref _, _, r => let ⟨a, e, q⟩ := r; ⟨a, hm _ _ e, q⟩
theorem RepVs.imp (hm : ∀ (n : Nat) (a : Addr), μ[n]? = some a → μ'[n]? = some a) (tp : ∀ a vs, H a = some (HO.tup vs) → H' a = some (HO.tup vs)) (st : ∀ a vs, SqT K H a vs → SqT K H' a vs) (sr : ∀ a vs, SqR K H a vs → SqR K H' a vs) : ∀ {vs : List PV} {xs : List V}, RepVs K μ H vs xs → RepVs K μ' H' vs xs
  | [], _, r => r
  | _ :: _, _, r => let ⟨v, q, e, r1, r2⟩ := r; ⟨v, q, e, RepV.imp hm tp st sr r1, RepVs.imp hm tp st sr r2⟩
end
theorem RepV.ext (e : Ext K μ H μ' H') {v : PV} {x : V} (r : RepV K μ H v x) : RepV K μ' H' v x := r.imp (fun _ _ q => e.at q) e.tp e.st e.sr
theorem RepVs.ext (e : Ext K μ H μ' H') {v : List PV} {x : List V} (r : RepVs K μ H v x) : RepVs K μ' H' v x := r.imp (fun _ _ q => e.at q) e.tp e.st e.sr
/-- later, whatever else has come -/
structure Up (K : PySem.W.Frag) (μ : List Addr) (H : Hp) (μ' : List Addr) (H' : Hp) : Prop where
  pre : μ <+: μ'
  tp : ∀ a vs, H a = some (.tup vs) → H' a = some (.tup vs)
  st : ∀ a vs, SqT K H a vs → SqT K H' a vs
  sr : ∀ a vs, SqR K H a vs → SqR K H' a vs
theorem Ext.up (e : Ext K μ H μ' H') : Up K μ H μ' H' := ⟨e.pre, e.tp, e.st, e.sr⟩
theorem Up.refl : Up K μ H μ H := Ext.refl.up
theorem Up.trans (a : Up K μ H μ' H') (b : Up K μ' H' μ2 H2) : Up K μ H μ2 H2 :=
  ⟨a.pre.trans b.pre, fun x vs e => b.tp x vs (a.tp x vs e), fun x vs e => b.st x vs (a.st x vs e), fun x vs e => b.sr x vs (a.sr x vs e)⟩
theorem Up.at (e : Up K μ H μ' H') {n : Nat} {a : Addr} (q : μ[n]? = some a) : μ'[n]? = some a := by
  obtain ⟨t, rfl⟩ := e.pre
  rw [List.getElem?_append_left (List.getElem?_eq_some_iff.mp q).1]
  exact q
theorem RepV.up (e : Up K μ H μ' H') {v : PV} {x : V} (r : RepV K μ H v x) : RepV K μ' H' v x := r.imp (fun _ _ q => e.at q) e.tp e.st e.sr
theorem RepVs.up (e : Up K μ H μ' H') {v : List PV} {x : List V} (r : RepVs K μ H v x) : RepVs K μ' H' v x := r.imp (fun _ _ q => e.at q) e.tp e.st e.sr
theorem RepS.up (e : Up K μ H μ' H') (r : RepS K μ H ρ σ) : RepS K μ' H' ρ σ := ⟨r.len, fun i v q => let ⟨x, a, b⟩ := r.slot i v q; ⟨x, a, b.up e⟩⟩
theorem RepS.ext (e : Ext K μ H μ' H') (r : RepS K μ H ρ σ) : RepS K μ' H' ρ σ := ⟨r.len, fun i v q => let ⟨x, a, b⟩ := r.slot i v q; ⟨x, a, b.ext e⟩⟩
theorem RepFs.imp (hm : ∀ (n : Nat) (a : Addr), μ[n]? = some a → μ'[n]? = some a) (tp : ∀ a vs, H a = some (HO.tup vs) → H' a = some (HO.tup vs)) (st : ∀ a vs, SqT K H a vs → SqT K H' a vs) (sr : ∀ a vs, SqR K H a vs → SqR K H' a vs) {fs : List (Str × PV)} {gs : List (Str × V)} (r : RepFs K μ H fs gs) : RepFs K μ' H' fs gs := by
  induction r with
  | nil => exact .nil
  | cons r _ ih => exact .cons (r.imp hm tp st sr) ih
theorem RepKs.imp (hm : ∀ (n : Nat) (a : Addr), μ[n]? = some a → μ'[n]? = some a) (tp : ∀ a vs, H a = some (HO.tup vs) → H' a = some (HO.tup vs)) (st : ∀ a vs, SqT K H a vs → SqT K H' a vs) (sr : ∀ a vs, SqR K H a vs → SqR K H' a vs) {fs : List (PV × PV)} {gs : List (Key × V)} (r : RepKs K μ H fs gs) : RepKs K μ' H' fs gs := by
  induction r with
  | nil => exact .nil
  | cons r _ ih => exact .cons (r.imp hm tp st sr) ih
theorem RepTs.imp (hm : ∀ (n : Nat) (a : Addr), μ[n]? = some a → μ'[n]? = some a) (tp : ∀ a vs, H a = some (HO.tup vs) → H' a = some (HO.tup vs)) (st : ∀ a vs, SqT K H a vs → SqT K H' a vs) (sr : ∀ a vs, SqR K H a vs → SqR K H' a vs) {fs : List (PV × PV)} {gs : List (List Key × V)} (r : RepTs K μ H fs gs) : RepTs K μ' H' fs gs := by
  induction r with
  | nil => exact .nil
  | cons r _ ih => exact .cons (r.imp hm tp st sr) ih
/-- an object whose own place is as it was -/
theorem RepO.imp (hm : ∀ (n : Nat) (a : Addr), μ[n]? = some a → μ'[n]? = some a) (tp : ∀ a vs, H a = some (HO.tup vs) → H' a = some (HO.tup vs)) (st : ∀ a vs, SqT W.K H a vs → SqT W.K H' a vs) (sr : ∀ a vs, SqR W.K H a vs → SqR W.K H' a vs) {a : Addr} {o : MO} (hk : ∀ u, H a = some u → H' a = some u) (r : RepO W μ H a o) : RepO W μ' H' a o := by
  cases o with
  | lst xs => obtain ⟨vs, e, q⟩ := r; exact ⟨vs, hk _ e, q.imp hm tp st sr⟩
  | dic kvs =>
    rcases r with ⟨l, e, q⟩ | ⟨l, e, q⟩
    · exact .inl ⟨l, hk _ e, q.imp hm tp st sr⟩
    · exact .inr ⟨l, hk _ e, q.imp hm tp st sr⟩
  | ins c fs => obtain ⟨dx, gs, e, q⟩ := r; exact ⟨dx, gs, hk _ e, q.imp hm tp st sr⟩
/-- no tuple, nothing locked -/
def isMut : HO → Bool
  | .lst _ => true
  | .dK _ => true
  | .dT _ => true
  | .ins _ _ _ => true
  | _ => false
theorem RepO.mut {a : Addr} {o : MO} (r : RepO W μ H a o) : ∃ u, H a = some u ∧ isMut u = true := by
  cases o with
  | lst xs => obtain ⟨vs, e, q⟩ := r; exact ⟨_, e, rfl⟩
  | dic kvs =>
    rcases r with ⟨l, e, q⟩ | ⟨l, e, q⟩
    · exact ⟨_, e, rfl⟩
    · exact ⟨_, e, rfl⟩
  | ins c fs => obtain ⟨dx, gs, e, q⟩ := r; exact ⟨_, e, rfl⟩
theorem Rel.mem (R : Rel W μ h H) {a : Addr} (ha : a ∈ μ) : ∃ u, H a = some u ∧ isMut u = true := by
  obtain ⟨n, hn, e⟩ := List.mem_iff_getElem.mp ha
  have e1 : μ[n]? = some a := by rw [List.getElem?_eq_getElem hn, e]
  have hl : n < h.length := by rw [← R.len]; exact hn
  exact (R.obj n a h[n] e1 (List.getElem?_eq_getElem hl)).mut
theorem Rel.free (R : Rel W μ h H) {a : Addr} (ha : H a = none) : a ∉ μ := fun z => by
  obtain ⟨u, e, _⟩ := R.mem z
  rw [ha] at e; cases e
theorem Rel.notMut (R : Rel W μ h H) {a : Addr} {u : HO} (ha : H a = some u) (hu : isMut u = false) : a ∉ μ := fun z => by
  obtain ⟨v, e, q⟩ := R.mem z
  rw [ha] at e; cases e
  rw [hu] at q; cases q
/-- tuples and locked lists stand where only numbered and free places change -/
theorem Rel.st (R : Rel W μ h H) (k : ∀ a o, a ∉ μ → H a = some o → H' a = some o) {K : PySem.W.Frag} (a : Addr) (vs : List V) (e : SqT K H a vs) : SqT K H' a vs := by
  rcases e with (e | ⟨o, e⟩) | e
  · exact .inl (.inl (k _ _ (R.notMut e rfl) e))
  · exact .inl (.inr ⟨o, k _ _ (R.notMut e rfl) e⟩)
  · exact .inr e
theorem Rel.tp (R : Rel W μ h H) (k : ∀ a o, a ∉ μ → H a = some o → H' a = some o) (a : Addr) (vs : List V) (e : H a = some (.tup vs)) : H' a = some (.tup vs) := k _ _ (R.notMut e rfl) e
theorem Rel.sr (R : Rel W μ h H) (k : ∀ a o, a ∉ μ → H a = some o → H' a = some o) {K : PySem.W.Frag} (a : Addr) (vs : List V) (e : SqR K H a vs) : SqR K H' a vs := by
  rcases e with ⟨o, e⟩ | e
  · exact .inl ⟨o, k _ _ (R.notMut e rfl) e⟩
  · exact .inr e
theorem Rel.lt (R : Rel W μ h H) {n : Nat} {o : MO} (e : h[n]? = some o) : ∃ a, μ[n]? = some a ∧ RepO W μ H a o := by
  have hn := (List.getElem?_eq_some_iff.mp e).1
  rw [← R.len] at hn
  exact ⟨μ[n], List.getElem?_eq_getElem hn, R.obj n _ o (List.getElem?_eq_getElem hn) e⟩
theorem Ext.new (R : Rel W μ h H) {p : Addr} {u : HO} (hp : H p = none) {K : PySem.W.Frag} : Ext K μ H (μ ++ [p]) (upd H p u) := by
  have k : ∀ a o, a ∉ μ → H a = some o → upd H p u a = some o := fun a o _ e => by rw [upd_ne (ne_of_none e hp)]; exact e
  refine ⟨List.prefix_append _ _, fun a o n e => ⟨fun z => ?_, k a o n e⟩, R.tp k, R.st k, R.sr k⟩
  rcases List.mem_append.mp z with z | z
  · exact n z
  · rw [List.mem_singleton.mp z, hp] at e; cases e
/-- a new place that bears no number -/
theorem Ext.fresh (R : Rel W μ h H) {p : Addr} {u : HO} (hp : H p = none) {K : PySem.W.Frag} : Ext K μ H μ (upd H p u) := by
  have k : ∀ a o, a ∉ μ → H a = some o → upd H p u a = some o := fun a o _ e => by rw [upd_ne (ne_of_none e hp)]; exact e
  exact ⟨List.prefix_refl _, fun a o n e => ⟨n, k a o n e⟩, R.tp k, R.st k, R.sr k⟩
theorem Rel.ext (R : Rel W μ h H) (E : Ext W.K μ H μ H') (hk : ∀ a ∈ μ, ∀ u, H a = some u → H' a = some u) : Rel W μ h H' :=
  ⟨R.len, R.nd, fun n a o e1 e2 => (R.obj n a o e1 e2).imp (fun _ _ q => q) E.tp E.st E.sr (hk a (List.mem_of_getElem? e1))⟩
theorem Rel.fresh (R : Rel W μ h H) {p : Addr} {u : HO} (hp : H p = none) : Rel W μ h (upd H p u) :=
  R.ext (Ext.fresh R hp) fun a _ u e => by rw [upd_ne (ne_of_none e hp)]; exact e
theorem Rel.alloc (R : Rel W μ h H) {p : Addr} {u : HO} {o : MO} (hp : H p = none) (ho : RepO W (μ ++ [p]) (upd H p u) p o) : Rel W (μ ++ [p]) (h ++ [o]) (upd H p u) := by
  have E : Ext W.K μ H (μ ++ [p]) (upd H p u) := Ext.new R hp
  have np := R.free hp
  refine ⟨by simp [R.len], ?_, fun n a x e1 e2 => ?_⟩
  · rw [List.nodup_append]
    exact ⟨R.nd, by simp, fun a ha b hb => by rw [List.mem_singleton.mp hb]; intro z; rw [z] at ha; exact np ha⟩
  · by_cases hn : n < μ.length
    · rw [List.getElem?_append_left hn] at e1
      rw [List.getElem?_append_left (by rw [← R.len]; exact hn)] at e2
      exact (R.obj n a x e1 e2).imp (fun _ _ q => E.at q) E.tp E.st E.sr fun u e => by rw [upd_ne (ne_of_none e hp)]; exact e
    · have hn' : n = μ.length := by
        have := (List.getElem?_eq_some_iff.mp e1).1
        rw [List.length_append, List.length_singleton] at this
        omega
      subst hn'
      rw [List.getElem?_append_right (Nat.le_refl _)] at e1
      rw [R.len, List.getElem?_append_right (Nat.le_refl _)] at e2
      simp at e1 e2
      subst e1 e2
      exact ho
theorem nodup_at {μ : List Addr} (nd : μ.Nodup) {i j : Nat} {a : Addr} (h1 : μ[i]? = some a) (h2 : μ[j]? = some a) : i = j := by
  obtain ⟨p, e⟩ := List.getElem?_eq_some_iff.mp h1
  obtain ⟨q, f⟩ := List.getElem?_eq_some_iff.mp h2
  exact (List.getElem_inj nd).mp (e.trans f.symm)
theorem Ext.write (R : Rel W μ h H) {a : Addr} {u : HO} (ha : a ∈ μ) {K : PySem.W.Frag} : Ext K μ H μ (upd H a u) := by
  have k : ∀ b o, b ∉ μ → H b = some o → upd H a u b = some o := fun b o n e => by rw [upd_ne (fun z => n (by rw [z]; exact ha))]; exact e
  exact ⟨List.prefix_refl _, fun b o n e => ⟨n, k b o n e⟩, R.tp k, R.st k, R.sr k⟩
theorem Rel.write (R : Rel W μ h H) {n : Nat} {a : Addr} {u : HO} {o : MO} (ha : μ[n]? = some a) (ho : RepO W μ (upd H a u) a o) : Rel W μ (h.set n o) (upd H a u) := by
  have E : Ext W.K μ H μ (upd H a u) := Ext.write R (List.mem_of_getElem? ha)
  refine ⟨by rw [List.length_set]; exact R.len, R.nd, fun m b x e1 e2 => ?_⟩
  by_cases hm : m = n
  · subst hm
    rw [ha] at e1; cases e1
    have hl : m < h.length := by rw [← R.len]; exact (List.getElem?_eq_some_iff.mp ha).1
    rw [List.getElem?_set_self hl] at e2
    cases e2
    exact ho
  · rw [List.getElem?_set_ne (Ne.symm hm)] at e2
    have hb : b ≠ a := fun z => hm (nodup_at R.nd (by rw [z] at e1; exact e1) ha)
    exact (R.obj m b x e1 e2).imp (fun _ _ q => q) E.tp E.st E.sr fun u e => by rw [upd_ne hb]; exact e
theorem RepVs.len : ∀ {vs : List PV} {xs : List V}, RepVs K μ H vs xs → vs.length = xs.length
  | [], _, r => by rw [show _ = [] from r] <;> rfl
  | _ :: _, _, r => by
    obtain ⟨v, q, rfl, _, r2⟩ := r
    simp [RepVs.len r2]
theorem RepVs.get : ∀ {vs : List PV} {xs : List V} {i : Nat} {v : PV}, RepVs K μ H vs xs → vs[i]? = some v → ∃ x, xs[i]? = some x ∧ RepV K μ H v x
  | [], _, _, _, _, e => by simp at e
  | _ :: _, _, 0, _, r, e => by
    obtain ⟨v, q, rfl, r1, r2⟩ := r
    simp at e
    subst e
    exact ⟨v, rfl, r1⟩
  | _ :: _, _, i + 1, _, r, e => by
    obtain ⟨v, q, rfl, r1, r2⟩ := r
    obtain ⟨x, a, b⟩ := RepVs.get (i := i) r2 (by simpa using e)
    exact ⟨x, by simpa using a, b⟩
theorem RepVs.app : ∀ {vs ws : List PV} {xs ys : List V}, RepVs K μ H vs xs → RepVs K μ H ws ys → RepVs K μ H (vs ++ ws) (xs ++ ys)
  | [], _, _, _, r, s => by rw [show _ = [] from r]; exact s
  | _ :: _, _, _, _, r, s => by
    obtain ⟨v, q, rfl, r1, r2⟩ := r
    exact ⟨v, _, rfl, r1, RepVs.app r2 s⟩
theorem RepVs.one {v : PV} {x : V} (r : RepV K μ H v x) : RepVs K μ H [v] [x] := ⟨x, [], rfl, r, rfl⟩
theorem RepVs.set {v : PV} {x : V} (r : RepV K μ H v x) : ∀ {vs : List PV} {xs : List V} (i : Nat), RepVs K μ H vs xs → RepVs K μ H (vs.set i v) (xs.set i x)
  | [], _, _, q => by
    have q' : _ = [] := q
    subst q'
    exact rfl
  | _ :: _, _, 0, q => by
    obtain ⟨w, t, rfl, r1, r2⟩ := q
    exact ⟨x, t, rfl, r, r2⟩
  | _ :: _, _, i + 1, q => by
    obtain ⟨w, t, rfl, r1, r2⟩ := q
    exact ⟨w, _, rfl, r1, RepVs.set r i r2⟩
theorem RepVs.take : ∀ {vs : List PV} {xs : List V} (n : Nat), RepVs K μ H vs xs → RepVs K μ H (vs.take n) (xs.take n)
  | [], _, n, r => by
    have r' : _ = [] := r
    subst r'
    rw [List.take_nil, List.take_nil]
    exact rfl
  | _ :: _, _, 0, _ => rfl
  | _ :: _, _, n + 1, r => by
    obtain ⟨v, q, rfl, r1, r2⟩ := r
    exact ⟨v, _, rfl, r1, RepVs.take n r2⟩
theorem RepVs.drop : ∀ {vs : List PV} {xs : List V} (n : Nat), RepVs K μ H vs xs → RepVs K μ H (vs.drop n) (xs.drop n)
  | _, _, 0, r => r
  | [], _, n + 1, r => by
    have r' : _ = [] := r
    subst r'
    exact rfl
  | _ :: _, _, n + 1, r => by
    obtain ⟨v, q, rfl, r1, r2⟩ := r
    exact RepVs.drop n r2
theorem RepVs.cons_inv {v : PV} {vs : List PV} {xs : List V} (r : RepVs K μ H (v :: vs) xs) : ∃ x r', xs = x :: r' ∧ RepV K μ H v x ∧ RepVs K μ H vs r' := r
theorem RepVs.nil_inv {xs : List V} (r : RepVs K μ H [] xs) : xs = [] := r
theorem RepVs.reps {v : PV} {x : V} (r : RepV K μ H v x) : ∀ n : Nat, RepVs K μ H (List.replicate n v) (List.replicate n x)
  | 0 => rfl
  | n + 1 => ⟨x, _, rfl, r, RepVs.reps r n⟩
theorem RepVs.flat {vs : List PV} {xs : List V} (r : RepVs K μ H vs xs) : ∀ n : Nat, RepVs K μ H (List.replicate n vs).flatten (List.replicate n xs).flatten
  | 0 => rfl
  | n + 1 => by
    rw [List.replicate_succ, List.replicate_succ, List.flatten_cons, List.flatten_cons]
    exact r.app (RepVs.flat r n)
theorem RepVs.reverse : ∀ {vs : List PV} {xs : List V}, RepVs K μ H vs xs → RepVs K μ H vs.reverse xs.reverse
  | [], _, r => by
    have r' : _ = [] := r
    subst r'
    exact rfl
  | _ :: _, _, r => by
    obtain ⟨v, q, rfl, r1, r2⟩ := r
    rw [List.reverse_cons, List.reverse_cons]
    exact (RepVs.reverse r2).app (.one r1)
theorem RepVs.ints : ∀ {ns : List Int} , RepVs K μ H (ns.map PV.int) (ns.map V.int)
  | [] => rfl
  | n :: ns => ⟨.int n, _, rfl, rfl, RepVs.ints⟩
/-- a value whose numbers lie below a cut stands for the same with fewer numbers -/
theorem take_at {n m : Nat} {a : Addr} (e : μ[m]? = some a) (hm : m < n) : (μ.take n)[m]? = some a := by rw [List.getElem?_take_of_lt hm]; exact e
mutual
theorem RepV.cut {n : Nat} : ∀ {v : PV} {x : V}, PV.lt n v = true → RepV K μ H v x → RepV K (μ.take n) H v x
  | .non, _, _, r => r
  | .bl _, _, _, r => r
  | .int _, _, _, r => r
  | .str _, _, _, r => r
  | .tup _, _, l, r => let ⟨a, vs, e, s, q⟩ := r; ⟨a, vs, e, s, RepVs.cut l q⟩
  | .kt _, _, l, r => let ⟨a, vs, e, s, q⟩ := r; ⟨a, vs, e, s, RepVs.cut l q⟩
  | .rol _, _, l, r => let ⟨a, vs, e, s, q⟩ := r; ⟨a, vs, e, s, RepVs.cut l q⟩
  | .ref _, _, l, r => let ⟨a, e, q⟩ := r; ⟨a, take_at e (Nat.le_of_ble_eq_true l), q⟩
theorem RepVs.cut {n : Nat} : ∀ {vs : List PV} {xs : List V}, PV.ltAll n vs = true → RepVs K μ H vs xs → RepVs K (μ.take n) H vs xs
  | [], _, _, r => r
  | _ :: _, _, l, r => by
    obtain ⟨v, q, e, r1, r2⟩ := r
    have l' := Bool.and_eq_true_iff.mp l
    exact ⟨v, q, e, RepV.cut l'.1 r1, RepVs.cut l'.2 r2⟩
end
theorem RepFs.cut {n : Nat} {fs : List (Str × PV)} {gs : List (Str × V)} (r : RepFs K μ H fs gs) : (fs.all fun p => PV.lt n p.2) = true → RepFs K (μ.take n) H fs gs := by
  induction r with
  | nil => intro _; exact .nil
  | cons r _ ih =>
    intro l
    rw [List.all_cons, Bool.and_eq_true] at l
    exact .cons (r.cut l.1) (ih l.2)
theorem RepKs.cut {n : Nat} {fs : List (PV × PV)} {gs : List (Key × V)} (r : RepKs K μ H fs gs) : (fs.all fun p => PV.lt n p.1 && PV.lt n p.2) = true → RepKs K (μ.take n) H fs gs := by
  induction r with
  | nil => intro _; exact .nil
  | cons r _ ih =>
    intro l
    rw [List.all_cons, Bool.and_eq_true, Bool.and_eq_true] at l
    exact .cons (r.cut l.1.2) (ih l.2)
theorem RepTs.cut {n : Nat} {fs : List (PV × PV)} {gs : List (List Key × V)} (r : RepTs K μ H fs gs) : (fs.all fun p => PV.lt n p.1 && PV.lt n p.2) = true → RepTs K (μ.take n) H fs gs := by
  induction r with
  | nil => intro _; exact .nil
  | cons r _ ih =>
    intro l
    rw [List.all_cons, Bool.and_eq_true, Bool.and_eq_true] at l
    exact .cons (r.cut l.1.2) (ih l.2)
theorem RepO.cut {n : Nat} {a : Addr} {o : MO} (r : RepO W μ H a o) (l : MO.lt n o = true) : RepO W (μ.take n) H a o := by
  cases o with
  | lst xs => obtain ⟨vs, e, q⟩ := r; exact ⟨vs, e, q.cut l⟩
  | dic kvs =>
    rcases r with ⟨x, e, q⟩ | ⟨x, e, q⟩
    · exact .inl ⟨x, e, q.cut l⟩
    · exact .inr ⟨x, e, q.cut l⟩
  | ins c fs => obtain ⟨dx, gs, e, q⟩ := r; exact ⟨dx, gs, e, q.cut l⟩
end
end Mi

/-! ## Den: an expression's plain meaning, and that the machine does it -/
namespace Mi
open PySem PySem.Spec PyProof.Rows L2

/-- how a plain thing stands for one of the layer's -/
abbrev Rp (α β : Type) := List Addr → Hp → α → β → Prop
section
variable {α β : Type}
/-- what is wanted behind a plain end -/
def Post (W : Wd) (R : Rp α β) (μ : List Addr) (H : Hp) (h' : MH) (v : α) (Q : β → Hp → Prop) : Prop :=
  ∀ μ' H' x, Ext W.K μ H μ' H' → Rel W μ' h' H' → R μ' H' v x → Q x H'
def PostX (W : Wd) (μ : List Addr) (H : Hp) (h' : MH) (c : Nat) (v : PV) (E : XK) : Prop :=
  ∀ μ' H' d x, Ext W.K μ H μ' H' → Rel W μ' h' H' → H' d = some (.xd [(W.fld c, x)]) → RepV W.K μ' H' v x → E (.ref (W.ca c)) (some d) H'
def wp (W : Wd) (R : Rp α β) (μ : List Addr) (H : Hp) (r : Res α) (E : XK) (Q : β → Hp → Prop) : Prop := match r with
  | .ok v h' => Post W R μ H h' v Q
  | .exc c v h' => PostX W μ H h' c v E
  | .bad => False
theorem wp_ok {W : Wd} {R : Rp α β} {μ : List Addr} {H : Hp} {v : α} {h' : MH} {E : XK} {Q : β → Hp → Prop} (x : Post W R μ H h' v Q) : wp W R μ H (.ok v h') E Q := x
theorem wp_ext {W : Wd} {R : Rp α β} {μ μ' : List Addr} {H H' : Hp} {r : Res α} {E : XK} {Q : β → Hp → Prop} (e : Ext W.K μ H μ' H') (x : wp W R μ H r E Q) : wp W R μ' H' r E Q := by
  cases r with
  | ok v h' => exact fun μ2 H2 y e2 R2 r2 => x μ2 H2 y (e.trans e2) R2 r2
  | exc c v h' => exact fun μ2 H2 d y e2 R2 hd r2 => x μ2 H2 d y (e.trans e2) R2 hd r2
  | bad => exact x
end
def repB : Rp Bool Bool := fun _ _ a b => a = b
abbrev repV (W : Wd) : Rp PV V := RepV W.K
abbrev repL (W : Wd) : Rp (List PV) (List V) := RepVs W.K
theorem wp_bind {α β γ δ : Type} {W : Wd} {R : Rp α β} {R2 : Rp γ δ} {μ : List Addr} {H : Hp} {r : Res α} {k : α → MH → Res γ} {E : XK} {Q : δ → Hp → Prop} (x : wp W R2 μ H (r.bind k) E Q) :
    wp W R μ H r E (fun y H1 => ∃ p μ1 h1, Ext W.K μ H μ1 H1 ∧ Rel W μ1 h1 H1 ∧ R μ1 H1 p y ∧ wp W R2 μ1 H1 (k p h1) E Q) := by
  cases r with
  | ok v h' => exact fun μ1 H1 y e R1 r1 => ⟨v, μ1, h', e, R1, r1, wp_ext e x⟩
  | exc c v h' => exact x
  | bad => exact x
theorem wp_imp {α β : Type} {W : Wd} {R : Rp α β} {μ : List Addr} {H : Hp} {r : Res α} {E E' : XK} {Q Q' : β → Hp → Prop} (x : wp W R μ H r E Q) (hE : ∀ c d H', E c d H' → E' c d H') (h : ∀ y H1, Q y H1 → Q' y H1) : wp W R μ H r E' Q' := by
  cases r with
  | ok v h' => exact fun μ1 H1 y e R1 r1 => h _ _ (x μ1 H1 y e R1 r1)
  | exc c v h' => exact fun μ2 H2 d y e2 R2 hd r2 => hE _ _ _ (x μ2 H2 d y e2 R2 hd r2)
  | bad => exact x

/-- the reading of a plain meaning -/
def rd {α β : Type} (W : Wd) (R : Rp α β) (Wx : WX) (d : Rho → MH → Res α) : L2.St → Hp → (β → Hp → Prop) → Prop := fun σ H Q =>
  ∃ ρ h μ, Rel W μ h H ∧ RepS W.K μ H ρ σ ∧ wp W R μ H (d ρ h) (fun c d H' => Wx c d σ H') Q
abbrev rdE (W : Wd) (Wx : WX) (d : Den) : TE := rd W (repV W) Wx d
abbrev rdB (W : Wd) (Wx : WX) (d : DenB) : TT := rd W repB Wx d
abbrev rdL (W : Wd) (Wx : WX) (d : DenL) : TA := rd W (repL W) Wx d

theorem PE.imp {X : Cx} {e : Expr} {t t' : TE} (h : PE X e t) (i : ∀ σ H Q, t' σ H Q → t σ H Q) : PE X e t' := ⟨fun pins s σ H Q I hq => h.run pins s σ H Q I (i σ H Q hq)⟩
theorem PT.imp {X : Cx} {e : Expr} {t t' : TT} (h : PT X e t) (i : ∀ σ H Q, t' σ H Q → t σ H Q) : PT X e t' := ⟨fun pins s σ H Q I hq => h.run pins s σ H Q I (i σ H Q hq)⟩
theorem PW.imp {X : Cx} {e : Expr} {t t' : TT} (h : PW X e t) (i : ∀ σ H Q, t' σ H Q → t σ H Q) : PW X e t' := ⟨fun wh pins s σ H Q I hq => h.run wh pins s σ H Q I (i σ H Q hq)⟩
theorem PA.imp {X : Cx} {es : List Expr} {t t' : TA} (h : PA X es t) (i : ∀ σ H Q, t' σ H Q → t σ H Q) : PA X es t' := ⟨fun p pins s σ H Q I hq => h.run p pins s σ H Q I (i σ H Q hq)⟩
theorem PS.imp {X : Cx} {e : Stmt} {t t' : TS} (h : PS X e t) (i : ∀ D σ H, t' D σ H → t D σ H) : PS X e t' := ⟨fun pins s σ H D I hq => h.run pins s σ H D I (i D σ H hq)⟩
theorem PSs.imp {X : Cx} {e : List Stmt} {t t' : TS} (h : PSs X e t) (i : ∀ D σ H, t' D σ H → t D σ H) : PSs X e t' := ⟨fun pins s σ H D I hq => h.run pins s σ H D I (i D σ H hq)⟩

/-- the state between two steps: plain values that stand for the layer's -/
structure At (W : Wd) (σ : L2.St) (ρ : Rho) (μ : List Addr) (h : MH) (H : Hp) : Prop where
  rel : Rel W μ h H
  reps : RepS W.K μ H ρ σ
theorem At.ext {W : Wd} {σ : L2.St} {ρ : Rho} {μ μ' : List Addr} {h h' : MH} {H H' : Hp} (a : At W σ ρ μ h H) (e : Ext W.K μ H μ' H') (r : Rel W μ' h' H') : At W σ ρ μ' h' H' := ⟨r, a.reps.ext e⟩
theorem rd_of {α β : Type} {W : Wd} {R : Rp α β} {Wx : WX} {d : Rho → MH → Res α} {σ : L2.St} {H : Hp} {Q : β → Hp → Prop} {ρ : Rho} {μ : List Addr} {h : MH} (a : At W σ ρ μ h H) (x : wp W R μ H (d ρ h) (fun c d H' => Wx c d σ H') Q) : rd W R Wx d σ H Q :=
  ⟨ρ, h, μ, a.rel, a.reps, x⟩
/-- the first of two steps -/
theorem rd_bind {α β γ δ : Type} {W : Wd} {R : Rp α β} {R2 : Rp γ δ} {Wx : WX} {d : Rho → MH → Res α} {k : Rho → α → MH → Res γ} {σ : L2.St} {H : Hp} {Q : δ → Hp → Prop}
    (x : rd W R2 Wx (fun ρ h => (d ρ h).bind (k ρ)) σ H Q) :
    rd W R Wx d σ H (fun y H1 => ∃ ρ p μ1 h1, At W σ ρ μ1 h1 H1 ∧ R μ1 H1 p y ∧ wp W R2 μ1 H1 (k ρ p h1) (fun c d H' => Wx c d σ H') Q) := by
  obtain ⟨ρ, h, μ, r, s, x⟩ := x
  refine ⟨ρ, h, μ, r, s, wp_imp (wp_bind (R := R) x) (fun _ _ _ z => z) fun y H1 z => ?_⟩
  obtain ⟨p, μ1, h1, e, r1, q, y1⟩ := z
  exact ⟨ρ, p, μ1, h1, ⟨r1, s.ext e⟩, q, y1⟩

/-! ### operations on values -/
def r2 (W : Wd) (f : PV → PV → MH → VR) : R2 := fun x y H Q => ∃ p q μ h, Rel W μ h H ∧ RepV W.K μ H p x ∧ RepV W.K μ H q y ∧ ∃ v h', f p q h = some (v, h') ∧ Post W (repV W) μ H h' v Q
def r1 (W : Wd) (f : PV → MH → VR) : V → Hp → VK → Prop := fun x H Q => ∃ p μ h, Rel W μ h H ∧ RepV W.K μ H p x ∧ ∃ v h', f p h = some (v, h') ∧ Post W (repV W) μ H h' v Q
def rN (W : Wd) (f : List PV → MH → VR) : List V → Hp → VK → Prop := fun xs H Q => ∃ ps μ h, Rel W μ h H ∧ RepVs W.K μ H ps xs ∧ ∃ v h', f ps h = some (v, h') ∧ Post W (repV W) μ H h' v Q
theorem wp_of {α β : Type} {W : Wd} {R : Rp α β} {μ : List Addr} {H : Hp} {r : Option (α × MH)} {E : XK} {Q : β → Hp → Prop} (x : wp W R μ H (Res.of r) E Q) : ∃ v h', r = some (v, h') ∧ Post W R μ H h' v Q := by
  cases r with
  | none => exact False.elim x
  | some p => exact ⟨p.1, p.2, rfl, x⟩
/-- nothing new, nothing changed -/
theorem Post.here {α β : Type} {W : Wd} {R : Rp α β} {μ : List Addr} {H : Hp} {h : MH} {v : α} {x : β} {Q : β → Hp → Prop} (p : Post W R μ H h v Q) (r : Rel W μ h H) (q : R μ H v x) : Q x H := p μ H x Ext.refl r q
theorem Post.new {W : Wd} {μ : List Addr} {H : Hp} {h : MH} {o : MO} {u : HO} {p : Addr} {Q : VK} (q : Post W (repV W) μ H (h ++ [o]) (.ref h.length) Q) (r : Rel W μ h H) (hp : H p = none) (ho : RepO W (μ ++ [p]) (upd H p u) p o) : Q (.ref p) (upd H p u) :=
  q (μ ++ [p]) (upd H p u) (.ref p) (Ext.new r hp) (r.alloc hp ho) ⟨p, by rw [← r.len, List.getElem?_append_right (Nat.le_refl _)]; simp, rfl⟩
theorem Post.tup {W : Wd} {μ : List Addr} {H : Hp} {h : MH} {xs : List PV} {vs : List V} {p : Addr} {Q : VK} (q : Post W (repV W) μ H h (.tup xs) Q) (r : Rel W μ h H) (hp : H p = none) (ho : RepVs W.K μ H xs vs) : Q (.ref p) (upd H p (.tup vs)) :=
  q μ (upd H p (.tup vs)) (.ref p) (Ext.fresh r hp) (r.fresh hp) ⟨p, vs, rfl, upd_same, ho.ext (Ext.fresh r hp)⟩
section
variable {X : Cx} {W : Wd}
theorem lstOf_rep {μ : List Addr} {H : Hp} {h : MH} {v : PV} {x : V} {n : Nat} {xs : List PV} (r : Rel W μ h H) (q : RepV W.K μ H v x) (e : lstOf v h = some (n, xs)) : ∃ a vs, x = .ref a ∧ μ[n]? = some a ∧ h[n]? = some (.lst xs) ∧ H a = some (.lst vs) ∧ RepVs W.K μ H xs vs := by
  cases v with
  | ref m =>
    obtain ⟨a, ha, rfl⟩ := q
    have e' : (match h[m]? with
      | some (.lst xs) => some (m, xs)
      | _ => none) = some (n, xs) := e
    cases hm : h[m]? with
    | none => rw [hm] at e'; cases e'
    | some o =>
      rw [hm] at e'
      cases o with
      | lst ys =>
        cases e'
        obtain ⟨vs, h1, h2⟩ := r.obj _ _ _ ha hm
        exact ⟨a, vs, rfl, ha, hm, h1, h2⟩
      | _ => cases e'
  | _ => cases e
theorem itemsOf_rep {μ : List Addr} {H : Hp} {h : MH} {v : PV} {x : V} {xs : List PV} (r : Rel W μ h H) (q : RepV W.K μ H v x) (e : itemsOf v h = some xs) : ∃ a vs, x = .ref a ∧ (SqL W.K H a vs ∨ SqT W.K H a vs) ∧ RepVs W.K μ H xs vs := by
  cases v with
  | tup ys =>
    cases e
    obtain ⟨a, vs, rfl, s, z⟩ := q
    exact ⟨a, vs, rfl, .inr (.of s), z⟩
  | kt ys =>
    cases e
    obtain ⟨a, vs, rfl, s, z⟩ := q
    exact ⟨a, vs, rfl, .inr s, z⟩
  | rol ys =>
    cases e
    obtain ⟨a, vs, rfl, s, z⟩ := q
    exact ⟨a, vs, rfl, .inl s.l, z⟩
  | ref m =>
    obtain ⟨a, ha, rfl⟩ := q
    have e' : (match h[m]? with
      | some (.lst xs) => some xs
      | _ => none) = some xs := e
    cases hm : h[m]? with
    | none => rw [hm] at e'; cases e'
    | some o =>
      rw [hm] at e'
      cases o with
      | lst ys =>
        cases e'
        obtain ⟨vs, h1, h2⟩ := r.obj _ _ _ ha hm
        exact ⟨a, vs, rfl, .inl (.of h1), h2⟩
      | _ => cases e'
  | _ => cases e
theorem op_binAdd (hK : W.K = X.K) : OpR X (binaryOp .Add) (r2 W binAdd) := by
  intro pins s σ H x y v u Q I rx ry h
  obtain ⟨p, q, μ, h0, r, rp, rq, z, h', e, po⟩ := h
  cases p with
  | int i =>
    cases q with
    | int j =>
      cases e
      have e1 : x = .int i := rp
      have e2 : y = .int j := rq
      subst e1 e2
      exact op_add pins s σ H _ _ v u Q I rx ry ⟨i, j, rfl, rfl, po.here r rfl⟩
    | _ => cases e
  | str a =>
    cases q with
    | str b =>
      have e1 : x = .str a := rp
      have e2 : y = .str b := rq
      subst e1 e2
      have e' : (if a.length + b.length ≤ sizeLine then some (PV.str (a ++ b), h0) else none) = some (z, h') := e
      by_cases hz : a.length + b.length ≤ sizeLine
      · rw [if_pos hz] at e'
        cases e'
        exact op_add_str pins s σ H _ _ v u Q I rx ry ⟨a, b, rfl, rfl, hz, po.here r rfl⟩
      · rw [if_neg hz] at e'; cases e'
    | _ => cases e
  | tup a =>
    cases q with
    | tup b =>
      have e' : (if a.length + b.length ≤ sizeLine then some (PV.tup (a ++ b), h0) else none) = some (z, h') := e
      by_cases hz : a.length + b.length ≤ sizeLine
      · rw [if_pos hz] at e'
        cases e'
        obtain ⟨pa, va, rfl, sa, ra⟩ := rp
        obtain ⟨pb, vb, rfl, sb, rb⟩ := rq
        have la := ra.len
        have lb := rb.len
        refine op_catA pins s σ H _ _ v u Q I rx ry ⟨pa, pb, va, vb, rfl, rfl, .of sa, .of sb, by omega, fun hv => ?_, fun _ hv => ?_, fun _ _ p hp => ?_⟩
        · refine po.here r ⟨pb, vb, rfl, sb, ?_⟩
          subst hv
          have : a = [] := List.eq_nil_of_length_eq_zero la
          subst this
          exact rb
        · refine po.here r ⟨pa, va, rfl, sa, ?_⟩
          subst hv
          have : b = [] := List.eq_nil_of_length_eq_zero lb
          subst this
          rw [List.append_nil]
          exact ra
        · exact po.tup r hp (ra.app rb)
      · rw [if_neg hz] at e'; cases e'
    | _ => cases e
  | ref n =>
    cases q with
    | ref m =>
      have e' : (match lstOf (.ref n) h0, lstOf (.ref m) h0 with
        | some (_, a), some (_, b) => if a.length + b.length ≤ sizeLine then alloc (.lst (a ++ b)) h0 else none
        | _, _ => none) = some (z, h') := e
      cases ea : lstOf (.ref n) h0 with
      | none => rw [ea] at e'; cases e'
      | some A =>
        cases eb : lstOf (.ref m) h0 with
        | none => rw [ea, eb] at e'; cases e'
        | some B =>
          obtain ⟨n1, a⟩ := A
          obtain ⟨m1, b⟩ := B
          rw [ea, eb] at e'
          have e' : (if a.length + b.length ≤ sizeLine then alloc (.lst (a ++ b)) h0 else none) = some (z, h') := e'
          by_cases hz : a.length + b.length ≤ sizeLine
          · rw [if_pos hz] at e'
            cases e'
            obtain ⟨pa, va, rfl, ha, hn, Ha, ra⟩ := lstOf_rep r rp ea
            obtain ⟨pb, vb, rfl, hb, hm, Hb, rb⟩ := lstOf_rep r rq eb
            have la := ra.len
            have lb := rb.len
            refine op_cat pins s σ H _ _ v u Q I rx ry ⟨pa, pb, va, vb, rfl, rfl, Ha, Hb, by omega, fun p hp => ?_⟩
            exact po.new r hp ⟨_, upd_same, (ra.app rb).ext (Ext.new r hp)⟩
          · rw [if_neg hz] at e'; cases e'
    | _ => cases e
  | _ => cases e
theorem mulOk_ok {i j : Int} (h : mulOk i j = true) : IntMulOk i j := by
  unfold mulOk at h
  unfold IntMulOk
  rw [Bool.not_eq_true'] at h
  rw [h]
  exact Bool.false_ne_true
theorem op_binMul : OpR X (binaryOp .Mult) (r2 W binMul) := by
  intro pins s σ H x y v u Q I rx ry h
  obtain ⟨p, q, μ, h0, r, rp, rq, z, h', e, po⟩ := h
  cases p with
  | int i =>
    cases q with
    | int j =>
      have e' : (if mulOk i j = true then some (PV.int (i * j), h0) else none) = some (z, h') := e
      by_cases hz : mulOk i j = true
      · rw [if_pos hz] at e'
        cases e'
        have e1 : x = .int i := rp
        have e2 : y = .int j := rq
        subst e1 e2
        obtain ⟨t, rfl⟩ := rx
        obtain ⟨t', rfl⟩ := ry
        exact mul_int ⟨.int (i * j), H, I.tok _, ⟨_, rfl⟩, po.here r rfl⟩ (mulOk_ok hz)
      · rw [if_neg hz] at e'; cases e'
    | _ => cases e
  | ref n =>
    cases q with
    | int k =>
      have e' : (match lstOf (.ref n) h0 with
        | some (_, a) => if -(2 ^ 63) ≤ k ∧ k < 2 ^ 63 ∧ a.length * k.toNat ≤ sizeLine then alloc (.lst (List.replicate k.toNat a).flatten) h0 else none
        | none => none) = some (z, h') := e
      cases ea : lstOf (.ref n) h0 with
      | none => rw [ea] at e'; cases e'
      | some A =>
        obtain ⟨n1, a⟩ := A
        rw [ea] at e'
        have e' : (if -(2 ^ 63) ≤ k ∧ k < 2 ^ 63 ∧ a.length * k.toNat ≤ sizeLine then alloc (.lst (List.replicate k.toNat a).flatten) h0 else none) = some (z, h') := e'
        by_cases hz : -(2 ^ 63) ≤ k ∧ k < 2 ^ 63 ∧ a.length * k.toNat ≤ sizeLine
        · rw [if_pos hz] at e'
          cases e'
          obtain ⟨pa, va, rfl, ha, hn, Ha, ra⟩ := lstOf_rep r rp ea
          have e2 : y = .int k := rq
          subst e2
          refine op_rep pins s σ H _ _ v u Q I rx ry ⟨pa, k, va, rfl, rfl, Ha, hz.1, hz.2.1, by rw [← ra.len]; exact hz.2.2, fun p hp => ?_⟩
          exact po.new r hp ⟨_, upd_same, (ra.flat _).ext (Ext.new r hp)⟩
        · rw [if_neg hz] at e'; cases e'
    | _ => cases e
  | _ => cases e
/-- an operation of two ints -/
theorem op_ints {f : Value → Value → Sem Value} {g : PV → PV → MH → VR} {C : Int → Int → Prop} {w : Int → Int → Int} (ho : OpR X f (rI C fun i j => .int (w i j))) (hg : ∀ p q h v h', g p q h = some (v, h') → ∃ i j, p = .int i ∧ q = .int j ∧ C i j ∧ v = .int (w i j) ∧ h' = h) : OpR X f (r2 W g) := by
  intro pins s σ H x y v u Q I rx ry h
  obtain ⟨p, q, μ, h0, r, rp, rq, z, h', e, po⟩ := h
  obtain ⟨i, j, rfl, rfl, c, rfl, rfl⟩ := hg _ _ _ _ _ e
  have e1 : x = .int i := rp
  have e2 : y = .int j := rq
  subst e1 e2
  exact ho pins s σ H _ _ v u Q I rx ry ⟨i, j, rfl, rfl, c, po.here r rfl⟩
theorem op_binV (hK : W.K = X.K) (op : Operator) : OpR X (binaryOp op) (r2 W (binV op)) := by
  cases op with
  | Add => exact op_binAdd hK
  | Mult => exact op_binMul
  | Sub =>
    refine op_ints (C := fun _ _ => True) (w := fun i j => i - j) (opI fun _ _ _ _ _ _ _ _ q => sub_int q) fun p q h v h' e => ?_
    cases p <;> cases q <;> first | (cases e; exact ⟨_, _, rfl, rfl, trivial, rfl, rfl⟩) | cases e
  | FloorDiv =>
    refine op_ints (C := fun i j => j ≠ 0 ∧ Builtin.divisionGoesByPylong i j = false) (w := fun i j => i.fdiv j) (opI fun i j _ _ _ _ _ c q => floordiv_int c.1 q (.inl c.2)) fun p q h v h' e => ?_
    cases p with
    | int i =>
      cases q with
      | int j =>
        have e' : (if j ≠ 0 ∧ Builtin.divisionGoesByPylong i j = false then some (PV.int (i.fdiv j), h) else none) = some (v, h') := e
        by_cases hz : j ≠ 0 ∧ Builtin.divisionGoesByPylong i j = false
        · rw [if_pos hz] at e'
          cases e'
          exact ⟨i, j, rfl, rfl, hz, rfl, rfl⟩
        · rw [if_neg hz] at e'; cases e'
      | _ => cases e
    | _ => cases q <;> cases e
  | Mod =>
    refine op_ints (C := fun i j => j ≠ 0) (w := fun i j => i.fmod j) (opI fun i j _ _ _ _ _ c q => mod_int' c q) fun p q h v h' e => ?_
    cases p with
    | int i =>
      cases q with
      | int j =>
        have e' : (if j ≠ 0 then some (PV.int (i.fmod j), h) else none) = some (v, h') := e
        by_cases hz : j ≠ 0
        · rw [if_pos hz] at e'
          cases e'
          exact ⟨i, j, rfl, rfl, hz, rfl, rfl⟩
        · rw [if_neg hz] at e'; cases e'
      | _ => cases e
    | _ => cases q <;> cases e
  | Pow =>
    refine op_ints (C := CPow) (w := fun i j => i ^ j.toNat) op_pow fun p q h v h' e => ?_
    cases p with
    | int i =>
      cases q with
      | int j =>
        have e' : (if 0 ≤ j ∧ j ≤ 1000000 ∧ i.natAbs < 2 ^ 64 then some (PV.int (i ^ j.toNat), h) else none) = some (v, h') := e
        by_cases hz : 0 ≤ j ∧ j ≤ 1000000 ∧ i.natAbs < 2 ^ 64
        · rw [if_pos hz] at e'
          cases e'
          exact ⟨i, j, rfl, rfl, hz, rfl, rfl⟩
        · rw [if_neg hz] at e'; cases e'
      | _ => cases e
    | _ => cases q <;> cases e
  | _ =>
    intro pins s σ H x y v u Q I rx ry h
    obtain ⟨p, q, μ, h0, r, rp, rq, z, h', e, po⟩ := h
    cases e
end
end Mi

/-! ## Cmp: comparisons and truth -/
namespace Mi
open PySem PySem.Spec PyProof.Rows L2
section
variable {W : Wd} {μ : List Addr} {h : MH} {H : Hp}
theorem mapO_dp {K : PySem.W.Frag} {f : PV → Option PyData} (ih : ∀ p x d, f p = some d → RepV K μ H p x → Dp K H x d) : ∀ {ps : List PV} {xs : List V} {ds : List PyData}, mapO f ps = some ds → RepVs K μ H ps xs → DpAll K H xs ds
  | [], _, _, e, r => by
    have r' : _ = [] := r
    subst r'
    cases e
    exact .nil
  | p :: ps, _, _, e, r => by
    obtain ⟨v, q, rfl, r1, r2⟩ := r
    unfold mapO at e
    cases e1 : f p with
    | none => rw [e1] at e; cases e
    | some d =>
      rw [e1] at e
      cases e2 : mapO f ps with
      | none => rw [e2] at e; cases e
      | some ds =>
        rw [e2] at e
        cases e
        exact .cons (ih _ _ _ e1 r1) (mapO_dp ih e2 r2)
theorem toD_dp (r : Rel W μ h H) : ∀ (k : Nat) (p : PV) (x : V) (d : PyData), toD h k p = some d → RepV W.K μ H p x → Dp W.K H x d := by
  intro k
  induction k with
  | zero =>
    intro p x d e q
    cases p with
    | non => cases e; rw [show x = .non from q]; exact .non
    | bl b => cases e; rw [show x = .bl b from q]; exact .bl b
    | int i => cases e; rw [show x = .int i from q]; exact .int i
    | str s => cases e; rw [show x = .str s from q]; exact .str s
    | _ => cases e
  | succ k ih =>
    intro p x d e q
    cases p with
    | non => cases e; rw [show x = .non from q]; exact .non
    | bl b => cases e; rw [show x = .bl b from q]; exact .bl b
    | int i => cases e; rw [show x = .int i from q]; exact .int i
    | str s => cases e; rw [show x = .str s from q]; exact .str s
    | tup xs =>
      obtain ⟨a, vs, rfl, s, z⟩ := q
      have e' : (match mapO (toD h k) xs with
        | some ds => some (PyData.tuple ds)
        | none => none) = some d := e
      cases e2 : mapO (toD h k) xs with
      | none => rw [e2] at e'; cases e'
      | some ds => rw [e2] at e'; cases e'; exact .tup (.of s) (mapO_dp ih e2 z)
    | kt xs =>
      obtain ⟨a, vs, rfl, s, z⟩ := q
      have e' : (match mapO (toD h k) xs with
        | some ds => some (PyData.tuple ds)
        | none => none) = some d := e
      cases e2 : mapO (toD h k) xs with
      | none => rw [e2] at e'; cases e'
      | some ds => rw [e2] at e'; cases e'; exact .tup s (mapO_dp ih e2 z)
    | rol xs =>
      obtain ⟨a, vs, rfl, s, z⟩ := q
      have e' : (match mapO (toD h k) xs with
        | some ds => some (PyData.list ds)
        | none => none) = some d := e
      cases e2 : mapO (toD h k) xs with
      | none => rw [e2] at e'; cases e'
      | some ds => rw [e2] at e'; cases e'; exact .lst s.l (mapO_dp ih e2 z)
    | ref n =>
      obtain ⟨a, ha, rfl⟩ := q
      have e' : (match h[n]? with
        | some (.lst xs) => (match mapO (toD h k) xs with
          | some ds => some (PyData.list ds)
          | none => none)
        | _ => none) = some d := e
      cases e3 : h[n]? with
      | none => rw [e3] at e'; cases e'
      | some o =>
        rw [e3] at e'
        cases o with
        | lst xs =>
          have e' : (match mapO (toD h k) xs with
            | some ds => some (PyData.list ds)
            | none => none) = some d := e'
          cases e2 : mapO (toD h k) xs with
          | none => rw [e2] at e'; cases e'
          | some ds =>
            rw [e2] at e'
            cases e'
            obtain ⟨vs, h1, h2⟩ := r.obj _ _ _ ha e3
            exact .lst (.of h1) (mapO_dp ih e2 h2)
        | _ => cases e'
theorem eqD_dp (r : Rel W μ h H) {p q : PV} {x y : V} {b : Bool} (e : eqD p q h = some b) (rp : RepV W.K μ H p x) (rq : RepV W.K μ H q y) :
    ∃ d e, Dp W.K H x d ∧ Dp W.K H y e ∧ SeqAt.shaped d = true ∧ SeqAt.shaped e = true ∧ b = PyData.eqv d e := by
  unfold eqD at e
  cases e1 : toD h 40 p with
  | none => rw [e1] at e; cases e
  | some d =>
    cases e2 : toD h 40 q with
    | none => rw [e1, e2] at e; cases e
    | some d' =>
      rw [e1, e2] at e
      have e : (if SeqAt.shaped d = true ∧ SeqAt.shaped d' = true then some (PyData.eqv d d') else none) = some b := e
      by_cases hz : SeqAt.shaped d = true ∧ SeqAt.shaped d' = true
      · rw [if_pos hz] at e
        cases e
        exact ⟨d, d', toD_dp r _ _ _ _ e1 rp, toD_dp r _ _ _ _ e2 rq, hz.1, hz.2, rfl⟩
      · rw [if_neg hz] at e; cases e
theorem ofB_some {o : Option Bool} {v : PV} {h' : MH} (e : ofB o h = some (v, h')) : ∃ b, o = some b ∧ v = .bl b ∧ h' = h := by
  cases o with
  | none => cases e
  | some b => cases e; exact ⟨b, rfl, rfl, rfl⟩
end
section
variable {X : Cx} {W : Wd}
theorem op_cmpI (op : CmpOp) (g : Int → Int → Bool) (ho : OpR X (compareOp op) (rI0 fun i j => .bl (g i j))) (hg : ∀ i j, cmpI op i j = some (g i j))
    (he : ∀ p q h, cmpV op p q h = (match p, q with
      | .int i, .int j => ofB (cmpI op i j) h
      | _, _ => none)) : OpR X (compareOp op) (r2 W (cmpV op)) := by
  intro pins s σ H x y v u Q I rx ry h
  obtain ⟨p, q, μ, h0, r, rp, rq, z, h', e, po⟩ := h
  rw [he] at e
  cases p with
  | int i =>
    cases q with
    | int j =>
      have e' : ofB (cmpI op i j) h0 = some (z, h') := e
      rw [hg] at e'
      cases e'
      have e1 : x = .int i := rp
      have e2 : y = .int j := rq
      subst e1 e2
      exact ho pins s σ H _ _ v u Q I rx ry ⟨i, j, rfl, rfl, po.here r rfl⟩
    | _ => cases e
  | _ => cases q <;> cases e
theorem rep_non {K : PySem.W.Frag} {μ : List Addr} {H : Hp} {p : PV} {x : V} (q : RepV K μ H p x) : decide (x = .non) = decide (p = .non) := by
  cases p with
  | non => rw [show x = .non from q]; simp
  | bl b => rw [show x = .bl b from q]; simp
  | int i => rw [show x = .int i from q]; simp
  | str s => rw [show x = .str s from q]; simp
  | tup xs => obtain ⟨a, vs, rfl, _⟩ := q; simp
  | kt xs => obtain ⟨a, vs, rfl, _⟩ := q; simp
  | rol xs => obtain ⟨a, vs, rfl, _⟩ := q; simp
  | ref n => obtain ⟨a, _, rfl⟩ := q; simp
theorem op_cmpV (hK : W.K = X.K) (hu : X.A.units + 64 < cLine) (op : CmpOp) : OpR X (compareOp op) (r2 W (cmpV op)) := by
  cases op with
  | Lt => exact op_cmpI .Lt (fun i j => decide (i < j)) op_lt (fun _ _ => rfl) fun p q h => by cases p <;> cases q <;> rfl
  | LtE => exact op_cmpI .LtE (fun i j => decide (i ≤ j)) op_le (fun _ _ => rfl) fun p q h => by cases p <;> cases q <;> rfl
  | Gt => exact op_cmpI .Gt (fun i j => decide (j < i)) op_gt (fun _ _ => rfl) fun p q h => by cases p <;> cases q <;> rfl
  | GtE => exact op_cmpI .GtE (fun i j => decide (j ≤ i)) op_ge (fun _ _ => rfl) fun p q h => by cases p <;> cases q <;> rfl
  | Eq =>
    intro pins s σ H x y v u Q I rx ry h
    obtain ⟨p, q, μ, h0, r, rp, rq, z, h', e, po⟩ := h
    obtain ⟨b, e1, rfl, rfl⟩ := ofB_some (show ofB (eqD p q h0) h0 = some (z, h') from e)
    obtain ⟨d, d', D1, D2, s1, s2, rfl⟩ := eqD_dp r e1 rp rq
    rw [hK] at D1 D2
    exact op_eqD hu pins s σ H x y v u Q I rx ry ⟨d, d', D1, D2, s1, s2, po.here r rfl⟩
  | NotEq =>
    intro pins s σ H x y v u Q I rx ry h
    obtain ⟨p, q, μ, h0, r, rp, rq, z, h', e, po⟩ := h
    obtain ⟨b, e1, rfl, rfl⟩ := ofB_some (show ofB ((eqD p q h0).map (!·)) h0 = some (z, h') from e)
    obtain ⟨b', e2, rfl⟩ := Option.map_eq_some_iff.mp e1
    obtain ⟨d, d', D1, D2, s1, s2, rfl⟩ := eqD_dp r e2 rp rq
    rw [hK] at D1 D2
    exact op_neD hu pins s σ H x y v u Q I rx ry ⟨d, d', D1, D2, s1, s2, po.here r rfl⟩
  | Is =>
    intro pins s σ H x y v u Q I rx ry h
    obtain ⟨p, q, μ, h0, r, rp, rq, z, h', e, po⟩ := h
    cases q with
    | non =>
      cases e
      have e2 : y = .non := rq
      subst e2
      exact op_isN pins s σ H x _ v u Q I rx ry ⟨rfl, by rw [rep_non rp]; exact po.here r rfl⟩
    | _ => cases e
  | IsNot =>
    intro pins s σ H x y v u Q I rx ry h
    obtain ⟨p, q, μ, h0, r, rp, rq, z, h', e, po⟩ := h
    cases q with
    | non =>
      cases e
      have e2 : y = .non := rq
      subst e2
      exact op_notN pins s σ H x _ v u Q I rx ry ⟨rfl, by rw [rep_non rp]; exact po.here r rfl⟩
    | _ => cases e
  | In =>
    intro pins s σ H x y v u Q I rx ry h
    obtain ⟨p, q, μ, h0, r, rp, rq, z, h', e, po⟩ := h
    cases e
  | NotIn =>
    intro pins s σ H x y v u Q I rx ry h
    obtain ⟨p, q, μ, h0, r, rp, rq, z, h', e, po⟩ := h
    cases e
/-- a value's truth -/
theorem truV_ok {K : PySem.W.Frag} (hK : W.K = K) {μ : List Addr} {h : MH} {H : Hp} {p : PV} {x : V} {b : Bool} (r : Rel W μ h H) (q : RepV W.K μ H p x) (e : truV p h = some b) : TruV K x H b := by
  cases p with
  | non => cases e; rw [show x = .non from q]; rfl
  | bl c => cases e; rw [show x = .bl _ from q]; rfl
  | int i => cases e; rw [show x = .int i from q]; rfl
  | str s =>
    have e' : (if s.length ≤ sizeLine then some ((s.length : Int) != 0) else none) = some b := e
    by_cases hz : s.length ≤ sizeLine
    · rw [if_pos hz] at e'
      cases e'
      rw [show x = .str s from q]
      exact ⟨hz, rfl⟩
    · rw [if_neg hz] at e'; cases e'
  | tup xs =>
    cases e
    obtain ⟨a, vs, rfl, s, z⟩ := q
    refine .inr (.inl ⟨vs, .of s, ?_⟩)
    have := z.len
    cases xs <;> cases vs <;> simp_all
  | kt xs =>
    cases e
    obtain ⟨a, vs, rfl, s, z⟩ := q
    rw [hK] at s
    refine .inr (.inl ⟨vs, s, ?_⟩)
    have := z.len
    cases xs <;> cases vs <;> simp_all
  | rol xs =>
    cases e
    obtain ⟨a, vs, rfl, s, z⟩ := q
    rw [hK] at s
    refine .inl ⟨vs, s.l, ?_⟩
    have := z.len
    cases xs <;> cases vs <;> simp_all
  | ref n =>
    obtain ⟨a, ha, rfl⟩ := q
    have e' : (match h[n]? with
      | some (.lst xs) => some (!xs.isEmpty)
      | _ => none) = some b := e
    cases e3 : h[n]? with
    | none => rw [e3] at e'; cases e'
    | some o =>
      rw [e3] at e'
      cases o with
      | lst xs =>
        cases e'
        obtain ⟨vs, h1, h2⟩ := r.obj _ _ _ ha e3
        refine .inl ⟨vs, .of h1, ?_⟩
        have := h2.len
        cases xs <;> cases vs <;> simp_all
      | _ => cases e'
end
end Mi

/-! ## Exp: expressions, form by form -/
namespace Mi
open PySem PySem.Spec PyProof.Rows L2

/-! ### the plain meanings -/
def dVar (i : Nat) : Den := fun ρ h => match ρ[i]? with
  | some (some v) => .ok v h
  | _ => .bad
def dVal (v : PV) : Den := fun _ h => .ok v h
def dBad {α : Type} : Rho → MH → Res α := fun _ _ => .bad
def dBin (f : PV → PV → MH → VR) (a b : Den) : Den := fun ρ h => (a ρ h).bind fun x h1 => (b ρ h1).bind fun y h2 => Res.of (f x y h2)
def dUn (f : PV → MH → VR) (a : Den) : Den := fun ρ h => (a ρ h).bind fun x h1 => Res.of (f x h1)
def negV (x : PV) (h : MH) : VR := match x with
  | .int i => some (.int (-i), h)
  | _ => none
def notV (x : PV) (h : MH) : VR := match x with
  | .bl b => some (.bl (!b), h)
  | _ => none
def dChain (f g : PV → PV → MH → VR) (a b c : Den) : Den := fun ρ h => (a ρ h).bind fun x h1 => (b ρ h1).bind fun y h2 => (Res.of (f x y h2)).bind fun k h3 => match k with
  | .bl true => (c ρ h3).bind fun z h4 => Res.of (g y z h4)
  | .bl false => .ok (.bl false) h3
  | _ => .bad
def dAnd (a b : Den) : Den := fun ρ h => (a ρ h).bind fun x h1 => match x with
  | .bl true => b ρ h1
  | .bl false => .ok (.bl false) h1
  | _ => .bad
def dOr (a b : Den) : Den := fun ρ h => (a ρ h).bind fun x h1 => match x with
  | .bl true => .ok (.bl true) h1
  | .bl false => b ρ h1
  | _ => .bad
def dIf (c : DenB) (a b : Den) : Den := fun ρ h => (c ρ h).bind fun k h1 => match k with
  | true => a ρ h1
  | false => b ρ h1
def bVal (a : Den) : DenB := fun ρ h => (a ρ h).bind fun x h1 => match x with
  | .bl b => .ok b h1
  | _ => .bad
def bTru (a : Den) : DenB := fun ρ h => (a ρ h).bind fun x h1 => match truV x h1 with
  | some b => .ok b h1
  | none => .bad
def bAnd (a b : DenB) : DenB := fun ρ h => (a ρ h).bind fun k h1 => match k with
  | true => b ρ h1
  | false => .ok false h1
def bOr (a b : DenB) : DenB := fun ρ h => (a ρ h).bind fun k h1 => match k with
  | true => .ok true h1
  | false => b ρ h1
def bNot (a : DenB) : DenB := fun ρ h => (a ρ h).bind fun k h1 => .ok (!k) h1
def lNil : DenL := fun _ h => .ok [] h
def lCons (a : Den) (l : DenL) : DenL := fun ρ h => (a ρ h).bind fun x h1 => (l ρ h1).bind fun xs h2 => .ok (x :: xs) h2
def tupV (xs : List PV) (h : MH) : VR := if xs.length ≤ sizeLine then some (.tup xs, h) else none
def lstV (xs : List PV) (h : MH) : VR := if xs.length ≤ sizeLine then alloc (.lst xs) h else none
def dOf (f : List PV → MH → VR) (l : DenL) : Den := fun ρ h => (l ρ h).bind fun xs h1 => Res.of (f xs h1)

/-! ### the machine does it -/
section
variable {X : Cx} {W : Wd} {Wx : WX} {a b c e : Expr} {da db dc : Den} {ba bb : DenB} {la : DenL} {pos : Pos}
theorem rd_bind2 {α β γ δ : Type} {W : Wd} {R : Rp α β} {R2 : Rp γ δ} {Wx : WX} {k : α → MH → Res γ} {d : Rho → MH → Res α} {σ : L2.St} {H : Hp} {Q : δ → Hp → Prop}
    (x : rd W R2 Wx (fun ρ h => (d ρ h).bind k) σ H Q) :
    rd W R Wx d σ H (fun y H1 => ∃ ρ p μ1 h1, At W σ ρ μ1 h1 H1 ∧ R μ1 H1 p y ∧ wp W R2 μ1 H1 (k p h1) (fun c d H' => Wx c d σ H') Q) := rd_bind (k := fun _ => k) x
theorem se_var {i : Nat} {x : Str} (hN : X.N[i]? = some x) (hv : Vis X.env.scope x) (hd : (x == ("__debug__" : Str)) = false) (hcd : (x == ("__classdict__" : Str)) = false) : PE X (.Name x pos) (rdE W Wx (dVar i)) := by
  refine PE.imp (pe_var hN hv hd hcd) fun σ H Q h => ?_
  obtain ⟨ρ, h0, μ, r, s, x⟩ := h
  unfold dVar at x
  cases e : ρ[i]? with
  | none => rw [e] at x; exact x.elim
  | some o =>
    cases o with
    | none => rw [e] at x; exact x.elim
    | some v =>
      rw [e] at x
      obtain ⟨y, e2, q⟩ := s.slot i v e
      exact ⟨y, e2, Post.here x r q⟩
theorem se_con {v : PV} {x : V} (h : PE X e (tC x)) (hr : ∀ μ H, RepV W.K μ H v x) : PE X e (rdE W Wx (dVal v)) := by
  refine PE.imp h fun σ H Q h => ?_
  obtain ⟨ρ, h0, μ, r, s, x⟩ := h
  exact Post.here x r (hr μ H)
theorem two_read {g : PV → PV → MH → VR} {σ : L2.St} {H : Hp} {Q : VK} (h : rdE W Wx (dBin g da db) σ H Q) : tOp (r2 W g) (rdE W Wx da) (rdE W Wx db) σ H Q := by
  obtain ⟨ρ, h0, μ, r, s, z⟩ := rd_bind (R := repV W) (d := da) (k := fun ρ x h1 => (db ρ h1).bind fun y h2 => Res.of (g x y h2)) h
  refine ⟨ρ, h0, μ, r, s, wp_imp z (fun _ _ _ z => z) fun x H1 z => ?_⟩
  obtain ⟨ρ1, p, μ1, h1, a1, rp, z⟩ := z
  refine ⟨ρ1, h1, μ1, a1.rel, a1.reps, wp_imp (wp_bind (R := repV W) z) (fun _ _ _ z => z) fun y H2 z => ?_⟩
  obtain ⟨q, μ2, h2, e2, r2, rq, z⟩ := z
  obtain ⟨v, h', ev, po⟩ := wp_of z
  exact ⟨p, q, μ2, h2, r2, rp.ext e2, rq, v, h', ev, po⟩
theorem se_two {f : Value → Value → Sem Value} {g : PV → PV → MH → VR} {t : TE} (h : PE X e (tOp (r2 W g) (rdE W Wx da) (rdE W Wx db))) : PE X e (rdE W Wx (dBin g da db)) := PE.imp h fun _ _ _ h => two_read h
theorem se_bin {op : Operator} (hK : W.K = X.K) (ha : PE X a (rdE W Wx da)) (hb : PE X b (rdE W Wx db)) : PE X (.BinOp a op b pos) (rdE W Wx (dBin (binV op) da db)) :=
  se_two (f := binaryOp op) (t := fun _ _ _ => True) (pe_op (op_binV hK op) ha hb)
theorem se_cmp {op : CmpOp} {f : PV → PV → MH → VR} (ho : OpR X (compareOp op) (r2 W f)) (ha : PE X a (rdE W Wx da)) (hb : PE X b (rdE W Wx db)) (hm : behindInMarks op b = false) : PE X (.Compare a [op] [b] pos) (rdE W Wx (dBin f da db)) :=
  se_two (f := compareOp op) (t := fun _ _ _ => True) (pe_cmpR ho ha hb hm)
theorem se_un {f : Value → Sem Value} {g : PV → MH → VR} {t : TE} (h : PE X e (tUn (r1 W g) (rdE W Wx da))) : PE X e (rdE W Wx (dUn g da)) := by
  refine PE.imp h fun σ H Q h => ?_
  obtain ⟨ρ, h0, μ, r, s, z⟩ := rd_bind2 (R := repV W) (d := da) (k := fun x h1 => Res.of (g x h1)) h
  refine ⟨ρ, h0, μ, r, s, wp_imp z (fun _ _ _ z => z) fun x H1 z => ?_⟩
  obtain ⟨ρ1, p, μ1, h1, a1, rp, z⟩ := z
  obtain ⟨v, h', ev, po⟩ := wp_of z
  exact ⟨p, μ1, h1, a1.rel, rp, v, h', ev, po⟩
theorem un_negV : UnR X (unaryOp .USub) (r1 W negV) := by
  intro pins s σ H x v Q I rx h
  obtain ⟨p, μ, h0, r, rp, z, h', e, po⟩ := h
  cases p with
  | int i =>
    cases e
    have e1 : x = .int i := rp
    subst e1
    exact un_neg pins s σ H _ v Q I rx ⟨i, rfl, po.here r rfl⟩
  | _ => cases e
theorem se_neg (ha : PE X a (rdE W Wx da)) : PE X (.UnaryOp .USub a pos) (rdE W Wx (dUn negV da)) := se_un (f := unaryOp .USub) (t := fun _ _ _ => True) (pe_un un_negV ha)
theorem se_not (ha : PE X a (rdE W Wx da)) : PE X (.UnaryOp .Not a pos) (rdE W Wx (dUn notV da)) := by
  refine PE.imp (pe_not ha) fun σ H Q h => ?_
  obtain ⟨ρ, h0, μ, r, s, z⟩ := rd_bind2 (R := repV W) (d := da) (k := fun x h1 => Res.of (notV x h1)) h
  refine ⟨ρ, h0, μ, r, s, wp_imp z (fun _ _ _ z => z) fun x H1 z => ?_⟩
  obtain ⟨ρ1, p, μ1, h1, a1, rp, z⟩ := z
  obtain ⟨v, h', ev, po⟩ := wp_of z
  cases p with
  | bl k =>
    cases ev
    exact ⟨k, rp, po.here a1.rel rfl⟩
  | _ => cases ev
theorem se_and {es : List Expr} (ha : PE X a (rdE W Wx da)) (hb : PE X (.BoolOp .And (b :: es) pos) (rdE W Wx db)) : PE X (.BoolOp .And (a :: b :: es) pos) (rdE W Wx (dAnd da db)) := by
  refine PE.imp (pe_and ha hb) fun σ H Q h => ?_
  obtain ⟨ρ, h0, μ, r, s, z⟩ := rd_bind (R := repV W) (d := da) (k := fun ρ x h1 => match x with
    | .bl true => db ρ h1
    | .bl false => .ok (.bl false) h1
    | _ => .bad) h
  refine ⟨ρ, h0, μ, r, s, wp_imp z (fun _ _ _ z => z) fun x H1 z => ?_⟩
  obtain ⟨ρ1, p, μ1, h1, a1, rp, z⟩ := z
  cases p with
  | bl k =>
    refine ⟨k, rp, ?_⟩
    cases k with
    | true => exact iteT ⟨ρ1, h1, μ1, a1.rel, a1.reps, z⟩
    | false => exact iteF (Post.here z a1.rel rfl)
  | _ => exact z.elim
theorem se_or {es : List Expr} (ha : PE X a (rdE W Wx da)) (hb : PE X (.BoolOp .Or (b :: es) pos) (rdE W Wx db)) : PE X (.BoolOp .Or (a :: b :: es) pos) (rdE W Wx (dOr da db)) := by
  refine PE.imp (pe_or ha hb) fun σ H Q h => ?_
  obtain ⟨ρ, h0, μ, r, s, z⟩ := rd_bind (R := repV W) (d := da) (k := fun ρ x h1 => match x with
    | .bl true => .ok (.bl true) h1
    | .bl false => db ρ h1
    | _ => .bad) h
  refine ⟨ρ, h0, μ, r, s, wp_imp z (fun _ _ _ z => z) fun x H1 z => ?_⟩
  obtain ⟨ρ1, p, μ1, h1, a1, rp, z⟩ := z
  cases p with
  | bl k =>
    refine ⟨k, rp, ?_⟩
    cases k with
    | true => exact iteT (Post.here z a1.rel rfl)
    | false => exact iteF ⟨ρ1, h1, μ1, a1.rel, a1.reps, z⟩
  | _ => exact z.elim
theorem se_ifExp (hc : PT X c (rdB W Wx ba)) (ha : PE X a (rdE W Wx da)) (hb : PE X b (rdE W Wx db)) : PE X (.IfExp c a b pos) (rdE W Wx (dIf ba da db)) := by
  refine PE.imp (pe_ifExp hc ha hb) fun σ H Q h => ?_
  obtain ⟨ρ, h0, μ, r, s, z⟩ := rd_bind (R := repB) (d := ba) (k := fun ρ k h1 => match k with
    | true => da ρ h1
    | false => db ρ h1) h
  refine ⟨ρ, h0, μ, r, s, wp_imp z (fun _ _ _ z => z) fun x H1 z => ?_⟩
  obtain ⟨ρ1, p, μ1, h1, a1, rp, z⟩ := z
  have rp : p = x := rp
  subst rp
  cases p with
  | true => exact iteT ⟨ρ1, h1, μ1, a1.rel, a1.reps, z⟩
  | false => exact iteF ⟨ρ1, h1, μ1, a1.rel, a1.reps, z⟩
theorem chain_read {f f' : PV → PV → MH → VR} {σ : L2.St} {H : Hp} {Q : VK} (h : rdE W Wx (dChain f f' da db dc) σ H Q) : tChain (r2 W f) (r2 W f') (rdE W Wx da) (rdE W Wx db) (rdE W Wx dc) σ H Q := by
  obtain ⟨ρ, h0, μ, r, s, z⟩ := rd_bind (R := repV W) (d := da) (k := fun ρ x h1 => (db ρ h1).bind fun y h2 => (Res.of (f x y h2)).bind fun k h3 => match k with
    | .bl true => (dc ρ h3).bind fun z h4 => Res.of (f' y z h4)
    | .bl false => .ok (.bl false) h3
    | _ => .bad) h
  refine ⟨ρ, h0, μ, r, s, wp_imp z (fun _ _ _ z => z) fun x H1 z => ?_⟩
  obtain ⟨ρ1, p, μ1, h1, a1, rp, z⟩ := z
  refine ⟨ρ1, h1, μ1, a1.rel, a1.reps, wp_imp (wp_bind (R := repV W) z) (fun _ _ _ z => z) fun y H2 z => ?_⟩
  obtain ⟨q, μ2, h2, e2, r2, rq, z⟩ := z
  cases ev : f p q h2 with
  | none => rw [ev] at z; exact z.elim
  | some vh =>
    obtain ⟨k, h3⟩ := vh
    rw [ev] at z
    refine ⟨p, q, μ2, h2, r2, rp.ext e2, rq, k, h3, ev, fun μ3 H3 w e3 r3 rw' => ?_⟩
    cases k with
    | bl kb =>
      refine ⟨kb, rw', ?_⟩
      cases kb with
      | false => exact iteF (Post.here (show Post W (repV W) μ3 H3 h3 (.bl false) Q from fun μ' H' x e r q => z μ' H' x (e3.trans e) r q) r3 rfl)
      | true =>
        refine iteT ⟨ρ1, h3, μ3, r3, (a1.reps.ext e2).ext e3, ?_⟩
        refine wp_imp (wp_bind (R := repV W) (wp_ext e3 (show wp W (repV W) μ2 H2 ((dc ρ1 h3).bind fun z h4 => Res.of (f' q z h4)) _ _ from z))) (fun _ _ _ z => z) fun w2 H4 z => ?_
        obtain ⟨q2, μ4, h4, e4, r4, rq2, z⟩ := z
        obtain ⟨v, h', ev, po⟩ := wp_of z
        exact ⟨q, q2, μ4, h4, r4, (rq.ext e3).ext e4, rq2, v, h', ev, po⟩
    | _ => exact z.elim

theorem se_chain {op op' : CmpOp} {f f' : PV → PV → MH → VR} (ho : OpR X (compareOp op) (r2 W f)) (ho' : OpR X (compareOp op') (r2 W f')) (ha : PE X a (rdE W Wx da)) (hb : PE X b (rdE W Wx db)) (hc : PE X c (rdE W Wx dc)) (hm : lastMarks [op, op'] [b, c] = false) :
    PE X (.Compare a [op, op'] [b, c] pos) (rdE W Wx (dChain f f' da db dc)) := PE.imp (pe_chain ho ho' ha hb hc hm) fun _ _ _ h => chain_read h

/-! ### tests -/
theorem st_tru (hK : W.K = X.K) (ha : PE X e (rdE W Wx da)) (he : ∀ whole, isTrue e X.env whole = (do let v ← whole; standAt e.pos; holding [v] (truthy v))) : PT X e (rdB W Wx (bTru da)) := by
  refine PT.imp (pt_truth ha he) fun σ H Q h => ?_
  obtain ⟨ρ, h0, μ, r, s, z⟩ := rd_bind (R := repV W) (d := da) (k := fun ρ x h1 => match truV x h1 with
    | some b => Res.ok b h1
    | none => .bad) h
  refine ⟨ρ, h0, μ, r, s, wp_imp z (fun _ _ _ z => z) fun x H1 z => ?_⟩
  obtain ⟨ρ1, p, μ1, h1, a1, rp, z⟩ := z
  cases ev : truV p h1 with
  | none => rw [ev] at z; exact z.elim
  | some b =>
    rw [ev] at z
    exact ⟨b, truV_ok hK a1.rel rp ev, Post.here z a1.rel rfl⟩
theorem val_read {σ : L2.St} {H : Hp} {Q : Bool → Hp → Prop} (h : rdB W Wx (bVal da) σ H Q) : rdE W Wx da σ H (fun x H' => ∃ k, x = .bl k ∧ Q k H') := by
  obtain ⟨ρ, h0, μ, r, s, z⟩ := rd_bind (R := repV W) (d := da) (k := fun ρ x h1 => match x with
    | .bl b => Res.ok b h1
    | _ => .bad) h
  refine ⟨ρ, h0, μ, r, s, wp_imp z (fun _ _ _ z => z) fun x H1 z => ?_⟩
  obtain ⟨ρ1, p, μ1, h1, a1, rp, z⟩ := z
  cases p with
  | bl k => exact ⟨k, rp, Post.here z a1.rel rfl⟩
  | _ => exact z.elim
theorem st_cmp {op : CmpOp} {f : PV → PV → MH → VR} (ho : OpR X (compareOp op) (r2 W f)) (ha : PE X a (rdE W Wx da)) (hb : PE X b (rdE W Wx db)) (hm : behindInMarks op b = false) : PT X (.Compare a [op] [b] pos) (rdB W Wx (bVal (dBin f da db))) :=
  PT.imp (pt_cmpR ho ha hb hm) fun _ _ _ h => two_read (val_read h)
theorem st_chain {op op' : CmpOp} {f f' : PV → PV → MH → VR} (ho : OpR X (compareOp op) (r2 W f)) (ho' : OpR X (compareOp op') (r2 W f')) (ha : PE X a (rdE W Wx da)) (hb : PE X b (rdE W Wx db)) (hc : PE X c (rdE W Wx dc)) (hm : lastMarks [op, op'] [b, c] = false) :
    PT X (.Compare a [op, op'] [b, c] pos) (rdB W Wx (bVal (dChain f f' da db dc))) := PT.imp (pt_chain ho ho' ha hb hc hm) fun _ _ _ h => chain_read (val_read h)
theorem st_not (ha : PT X a (rdB W Wx ba)) : PT X (.UnaryOp .Not a pos) (rdB W Wx (bNot ba)) := by
  refine PT.imp (pt_not ha) fun σ H Q h => ?_
  obtain ⟨ρ, h0, μ, r, s, z⟩ := rd_bind (R := repB) (d := ba) (k := fun ρ k h1 => Res.ok (!k) h1) h
  refine ⟨ρ, h0, μ, r, s, wp_imp z (fun _ _ _ z => z) fun x H1 z => ?_⟩
  obtain ⟨ρ1, p, μ1, h1, a1, rp, z⟩ := z
  have rp : p = x := rp
  subst rp
  exact Post.here z a1.rel rfl
theorem sw_and {es : List Expr} (ha : PT X a (rdB W Wx ba)) (hb : PW X (.BoolOp .And (b :: es) pos) (rdB W Wx bb)) : PW X (.BoolOp .And (a :: b :: es) pos) (rdB W Wx (bAnd ba bb)) := by
  refine PW.imp (pw_and ha hb) fun σ H Q h => ?_
  obtain ⟨ρ, h0, μ, r, s, z⟩ := rd_bind (R := repB) (d := ba) (k := fun ρ k h1 => match k with
    | true => bb ρ h1
    | false => .ok false h1) h
  refine ⟨ρ, h0, μ, r, s, wp_imp z (fun _ _ _ z => z) fun x H1 z => ?_⟩
  obtain ⟨ρ1, p, μ1, h1, a1, rp, z⟩ := z
  have rp : p = x := rp
  subst rp
  cases p with
  | true => exact iteT ⟨ρ1, h1, μ1, a1.rel, a1.reps, z⟩
  | false => exact iteF (Post.here z a1.rel rfl)
theorem sw_or {es : List Expr} (ha : PT X a (rdB W Wx ba)) (hb : PW X (.BoolOp .Or (b :: es) pos) (rdB W Wx bb)) : PW X (.BoolOp .Or (a :: b :: es) pos) (rdB W Wx (bOr ba bb)) := by
  refine PW.imp (pw_or ha hb) fun σ H Q h => ?_
  obtain ⟨ρ, h0, μ, r, s, z⟩ := rd_bind (R := repB) (d := ba) (k := fun ρ k h1 => match k with
    | true => .ok true h1
    | false => bb ρ h1) h
  refine ⟨ρ, h0, μ, r, s, wp_imp z (fun _ _ _ z => z) fun x H1 z => ?_⟩
  obtain ⟨ρ1, p, μ1, h1, a1, rp, z⟩ := z
  have rp : p = x := rp
  subst rp
  cases p with
  | true => exact iteT (Post.here z a1.rel rfl)
  | false => exact iteF ⟨ρ1, h1, μ1, a1.rel, a1.reps, z⟩
/-! ### argument lists, displays -/
theorem sa_nil : PA X [] (rdL W Wx lNil) := PA.imp pa_nil fun σ H Q h => by
  obtain ⟨ρ, h0, μ, r, s, z⟩ := h
  exact Post.here z r rfl
theorem sa_cons {es : List Expr} (ha : PE X a (rdE W Wx da)) (hr : PA X es (rdL W Wx la)) (hs : starEach (a :: es) X.env = (false, eval a X.env) :: starEach es X.env) : PA X (a :: es) (rdL W Wx (lCons da la)) := by
  refine PA.imp (pa_cons ha hr hs) fun σ H Q h => ?_
  obtain ⟨ρ, h0, μ, r, s, z⟩ := rd_bind (R := repV W) (d := da) (k := fun ρ x h1 => (la ρ h1).bind fun xs h2 => .ok (x :: xs) h2) h
  refine ⟨ρ, h0, μ, r, s, wp_imp z (fun _ _ _ z => z) fun x H1 z => ?_⟩
  obtain ⟨ρ1, p, μ1, h1, a1, rp, z⟩ := z
  refine ⟨ρ1, h1, μ1, a1.rel, a1.reps, wp_imp (wp_bind (R := repL W) z) (fun _ _ _ z => z) fun xs H2 z => ?_⟩
  obtain ⟨q, μ2, h2, e2, r2, rq, z⟩ := z
  exact Post.here z r2 ⟨x, xs, rfl, rp.ext e2, rq⟩
theorem se_tup {es : List Expr} {k : Nat} (h : PA X es (rdL W Wx la)) : PE X (.Tuple es k pos) (rdE W Wx (dOf tupV la)) := by
  refine PE.imp (pe_tup h) fun σ H Q h => ?_
  obtain ⟨ρ, h0, μ, r, s, z⟩ := rd_bind2 (R := repL W) (d := la) (k := fun xs h1 => Res.of (tupV xs h1)) h
  refine ⟨ρ, h0, μ, r, s, wp_imp z (fun _ _ _ z => z) fun xs H1 z => ?_⟩
  obtain ⟨ρ1, p, μ1, h1, a1, rp, z⟩ := z
  obtain ⟨v, h', ev, po⟩ := wp_of z
  have ev : (if p.length ≤ sizeLine then some (PV.tup p, h1) else none) = some (v, h') := ev
  by_cases hz : p.length ≤ sizeLine
  · rw [if_pos hz] at ev
    cases ev
    exact ⟨by rw [← RepVs.len rp]; exact hz, fun q hq => po.tup a1.rel hq rp⟩
  · rw [if_neg hz] at ev; cases ev
theorem se_lst {es : List Expr} (h : PA X es (rdL W Wx la)) : PE X (.List es pos) (rdE W Wx (dOf lstV la)) := by
  refine PE.imp (pe_lst h) fun σ H Q h => ?_
  obtain ⟨ρ, h0, μ, r, s, z⟩ := rd_bind2 (R := repL W) (d := la) (k := fun xs h1 => Res.of (lstV xs h1)) h
  refine ⟨ρ, h0, μ, r, s, wp_imp z (fun _ _ _ z => z) fun xs H1 z => ?_⟩
  obtain ⟨ρ1, p, μ1, h1, a1, rp, z⟩ := z
  obtain ⟨v, h', ev, po⟩ := wp_of z
  have ev : (if p.length ≤ sizeLine then alloc (.lst p) h1 else none) = some (v, h') := ev
  by_cases hz : p.length ≤ sizeLine
  · rw [if_pos hz] at ev
    cases ev
    exact ⟨by rw [← RepVs.len rp]; exact hz, fun q hq => po.new a1.rel hq ⟨_, upd_same, (show RepVs W.K μ1 H1 p xs from rp).ext (Ext.new a1.rel hq)⟩⟩
  · rw [if_neg hz] at ev; cases ev
end
end Mi

/-! ## Stm: statements, form by form -/
namespace Mi
open PySem PySem.Spec PyProof.Rows L2

inductive SRes where
  | nx (ρ : Rho) (h : MH) | rt (v : PV) (h : MH) | bk (ρ : Rho) (h : MH) | ct (ρ : Rho) (h : MH) | exc (c : Nat) (v : PV) (ρ : Rho) (h : MH) | bad
  deriving Inhabited
abbrev DenS := Rho → MH → SRes
/-- an expression's end, then the rest of the statement -/
def Res.thn {α : Type} (ρ : Rho) : Res α → (α → MH → SRes) → SRes
  | .ok v h, f => f v h
  | .exc c v h, _ => .exc c v ρ h
  | .bad, _ => .bad
def sSkip : DenS := fun ρ h => .nx ρ h
def sSeq (a b : DenS) : DenS := fun ρ h => match a ρ h with
  | .nx ρ' h' => b ρ' h'
  | r => r
def sDrop (d : Den) : DenS := fun ρ h => (d ρ h).thn ρ fun _ h1 => .nx ρ h1
def sRet (d : Den) : DenS := fun ρ h => (d ρ h).thn ρ fun v h1 => .rt v h1
def sRetN : DenS := fun ρ h => .rt .non h
def sBreak : DenS := fun ρ h => .bk ρ h
def sCont : DenS := fun ρ h => .ct ρ h
def sBad : DenS := fun _ _ => .bad
def sIf (c : DenB) (a b : DenS) : DenS := fun ρ h => (c ρ h).thn ρ fun k h1 => match k with
  | true => a ρ h1
  | false => b ρ h1
/-- a target -/
abbrev TgD := PV → Rho → Option Rho
def gSet (i : Nat) : TgD := fun v ρ => some (ρ.set i (some v))
def gSeq : List TgD → List PV → Rho → Option Rho
  | [], [], ρ => some ρ
  | g :: gs, v :: vs, ρ => (match g v ρ with
    | some ρ' => gSeq gs vs ρ'
    | none => none)
  | _, _, _ => none
def gTupD (gs : List TgD) : TgD := fun v ρ => match v with
  | .tup xs => gSeq gs xs ρ
  | .kt xs => gSeq gs xs ρ
  | _ => none
def sAsg (d : Den) (g : TgD) : DenS := fun ρ h => (d ρ h).thn ρ fun v h1 => match g v ρ with
  | some ρ' => .nx ρ' h1
  | none => .bad
/-- a, b = x, y -/
def sPar (i j : Nat) (l : DenL) : DenS := fun ρ h => (l ρ h).thn ρ fun vs h1 => match vs with
  | [v, w] => .nx ((ρ.set i (some v)).set j (some w)) h1
  | _ => .bad
def sPar3 (i j k : Nat) (l : DenL) : DenS := fun ρ h => (l ρ h).thn ρ fun vs h1 => match vs with
  | [v, w, u] => .nx (((ρ.set i (some v)).set j (some w)).set k (some u)) h1
  | _ => .bad
def sWhile (c : DenB) (b : DenS) : Nat → DenS
  | 0 => sBad
  | n + 1 => fun ρ h => (c ρ h).thn ρ fun k h1 => match k with
    | true => (match b ρ h1 with
      | .nx ρ' h' => sWhile c b n ρ' h'
      | .ct ρ' h' => sWhile c b n ρ' h'
      | .bk ρ' h' => .nx ρ' h'
      | r => r)
    | false => .nx ρ h1
/-- what is walked: values, or a list as it stands -/
inductive Src where
  | vals (xs : List PV) | live (n : Nat)
  deriving Inhabited
def Src.at (s : Src) (h : MH) (i : Nat) : Option (Option PV) := match s with
  | .vals xs => some xs[i]?
  | .live n => (match h[n]? with
    | some (.lst xs) => some xs[i]?
    | _ => none)
def Src.size (s : Src) (h : MH) : Nat := match s with
  | .vals xs => xs.length
  | .live n => (match h[n]? with
    | some (.lst xs) => xs.length
    | _ => 0)
def sForF (s : Src) (g : TgD) (b : DenS) : Nat → Nat → DenS
  | k, i => fun ρ h => match s.at h i with
    | none => .bad
    | some none => .nx ρ h
    | some (some v) => (match k with
      | 0 => .bad
      | k + 1 => (match g v ρ with
        | none => .bad
        | some ρ1 => (match b ρ1 h with
          | .nx ρ' h' => sForF s g b k (i + 1) ρ' h'
          | .ct ρ' h' => sForF s g b k (i + 1) ρ' h'
          | .bk ρ' h' => .nx ρ' h'
          | r => r)))
abbrev DenI := Rho → MH → Res Src
def sFor (d : DenI) (g : TgD) (b : DenS) : DenS := fun ρ h => (d ρ h).thn ρ fun s h1 => sForF s g b (s.size h1) 0 ρ h1
def iSeq (d : Den) : DenI := fun ρ h => (d ρ h).bind fun v h1 => match v with
  | .tup xs => .ok (.vals xs) h1
  | .kt xs => .ok (.vals xs) h1
  | .rol xs => .ok (.vals xs) h1
  | .ref n => (match h1[n]? with
    | some (.lst _) => .ok (.live n) h1
    | _ => .bad)
  | _ => .bad
def rngV (lo hi : Int) : List PV := (List.range (hi - lo).toNat).map fun i => .int (lo + (i : Nat))
def okR (i : Int) : Bool := decide (-(2 ^ 62) ≤ i) && decide (i < 2 ^ 62)
def oneInt : List PV → Option Int
  | [.int j] => some j
  | _ => none
def twoInt : List PV → Option (Int × Int)
  | [.int i, .int j] => some (i, j)
  | _ => none
theorem oneInt_some {q : List PV} {j : Int} (h : oneInt q = some j) : q = [.int j] := by
  cases q with
  | nil => cases h
  | cons p r =>
    cases r with
    | nil => cases p <;> first | (cases h; rfl) | cases h
    | cons _ _ => cases p <;> cases h
theorem twoInt_some {q : List PV} {j : Int × Int} (h : twoInt q = some j) : q = [.int j.1, .int j.2] := by
  cases q with
  | nil => cases h
  | cons p r =>
    cases r with
    | nil => cases p <;> cases h
    | cons p2 r2 =>
      cases r2 with
      | nil =>
        cases p with
        | int a => cases p2 <;> first | (cases h; rfl) | cases h
        | _ => cases p2 <;> cases h
      | cons _ _ => cases p <;> cases p2 <;> cases h
def iRange1 (l : DenL) : DenI := fun ρ h => (l ρ h).bind fun vs h1 => match oneInt vs with
  | some j => if okR j = true then .ok (.vals (rngV 0 j)) h1 else .bad
  | none => .bad
def iRange2 (l : DenL) : DenI := fun ρ h => (l ρ h).bind fun vs h1 => match twoInt vs with
  | some p => if okR p.1 = true ∧ okR p.2 = true then .ok (.vals (rngV p.1 p.2)) h1 else .bad
  | none => .bad

/-! ### readings -/
def wpS (W : Wd) (Wx : WX) (μ : List Addr) (H : Hp) (r : SRes) (D : Ends) : Prop := match r with
  | .nx ρ' h' => ∀ μ' H' σ', Ext W.K μ H μ' H' → Rel W μ' h' H' → RepS W.K μ' H' ρ' σ' → D.nx σ' H'
  | .bk ρ' h' => ∀ μ' H' σ', Ext W.K μ H μ' H' → Rel W μ' h' H' → RepS W.K μ' H' ρ' σ' → D.bk σ' H'
  | .ct ρ' h' => ∀ μ' H' σ', Ext W.K μ H μ' H' → Rel W μ' h' H' → RepS W.K μ' H' ρ' σ' → D.ct σ' H'
  | .rt v h' => Post W (repV W) μ H h' v D.rt
  | .exc c v ρ' h' => ∀ μ' H' σ' d x, Ext W.K μ H μ' H' → Rel W μ' h' H' → RepS W.K μ' H' ρ' σ' → H' d = some (.xd [(W.fld c, x)]) → RepV W.K μ' H' v x → Wx (.ref (W.ca c)) (some d) σ' H'
  | .bad => False
theorem wpS_ext {W : Wd} {Wx : WX} {μ μ' : List Addr} {H H' : Hp} {r : SRes} {D : Ends} (e : Ext W.K μ H μ' H') (x : wpS W Wx μ H r D) : wpS W Wx μ' H' r D := by
  cases r with
  | nx ρ h => exact fun μ2 H2 σ e2 => x μ2 H2 σ (e.trans e2)
  | bk ρ h => exact fun μ2 H2 σ e2 => x μ2 H2 σ (e.trans e2)
  | ct ρ h => exact fun μ2 H2 σ e2 => x μ2 H2 σ (e.trans e2)
  | rt v h => exact fun μ2 H2 y e2 => x μ2 H2 y (e.trans e2)
  | exc c v ρ h => exact fun μ2 H2 σ d y e2 => x μ2 H2 σ d y (e.trans e2)
  | bad => exact x
def rdS (W : Wd) (Wx : WX) (d : DenS) : TS := fun D σ H => ∃ ρ h μ, Rel W μ h H ∧ RepS W.K μ H ρ σ ∧ wpS W Wx μ H (d ρ h) D
theorem rdS_of {W : Wd} {Wx : WX} {d : DenS} {D : Ends} {σ : L2.St} {H : Hp} {ρ : Rho} {μ : List Addr} {h : MH} (a : At W σ ρ μ h H) (x : wpS W Wx μ H (d ρ h) D) : rdS W Wx d D σ H := ⟨ρ, h, μ, a.rel, a.reps, x⟩
/-- an expression, then the rest -/
theorem rdS_bind {α β : Type} {W : Wd} {R : Rp α β} {Wx : WX} {d : Rho → MH → Res α} {k : Rho → α → MH → SRes} {σ : L2.St} {H : Hp} {D : Ends}
    (x : rdS W Wx (fun ρ h => (d ρ h).thn ρ (k ρ)) D σ H) :
    rd W R Wx d σ H (fun y H1 => ∃ ρ p μ1 h1, At W σ ρ μ1 h1 H1 ∧ R μ1 H1 p y ∧ wpS W Wx μ1 H1 (k ρ p h1) D) := by
  obtain ⟨ρ, h, μ, r, s, x⟩ := x
  refine ⟨ρ, h, μ, r, s, ?_⟩
  cases e : d ρ h with
  | ok v h' =>
    have x : wpS W Wx μ H ((d ρ h).thn ρ (k ρ)) D := x
    rw [e] at x
    exact fun μ1 H1 y e1 R1 r1 => ⟨ρ, v, μ1, h', ⟨R1, s.ext e1⟩, r1, wpS_ext e1 x⟩
  | exc c v h' =>
    have x : wpS W Wx μ H ((d ρ h).thn ρ (k ρ)) D := x
    rw [e] at x
    exact fun μ1 H1 d y e1 R1 hd r1 => x μ1 H1 σ d y e1 R1 (s.ext e1) hd r1
  | bad =>
    have x : wpS W Wx μ H ((d ρ h).thn ρ (k ρ)) D := x
    rw [e] at x
    exact x
/-- other ends -/
theorem wpS_ends {W : Wd} {Wx : WX} {μ : List Addr} {H : Hp} {r : SRes} {D D' : Ends} (x : wpS W Wx μ H r D) (hn : ∀ ρ h, r = .nx ρ h → wpS W Wx μ H r D') (hb : ∀ ρ h, r = .bk ρ h → wpS W Wx μ H r D') (hc : ∀ ρ h, r = .ct ρ h → wpS W Wx μ H r D') (hr : D'.rt = D.rt) : wpS W Wx μ H r D' := by
  cases r with
  | nx ρ h => exact hn _ _ rfl
  | bk ρ h => exact hb _ _ rfl
  | ct ρ h => exact hc _ _ rfl
  | rt v h =>
    show Post W (repV W) μ H h v D'.rt
    rw [hr]
    exact x
  | exc c v ρ h => exact x
  | bad => exact x
section
variable {X : Cx} {W : Wd} {Wx : WX} {a b c e : Expr} {da db dc : Den} {ba bb : DenB} {la : DenL} {pos : Pos} {sa sb : DenS} {st : Stmt} {sts : List Stmt}
theorem ss_nil : PSs X [] (rdS W Wx sSkip) := PSs.imp pss_nil fun D σ H h => by
  obtain ⟨ρ, h0, μ, r, s, z⟩ := h
  exact z μ H σ Ext.refl r s
theorem ss_cons (h1 : PS X st (rdS W Wx sa)) (h2 : PSs X sts (rdS W Wx sb)) : PSs X (st :: sts) (rdS W Wx (sSeq sa sb)) := by
  refine PSs.imp (pss_cons h1 h2) fun D σ H h => ?_
  obtain ⟨ρ, h0, μ, r, s, z⟩ := h
  refine ⟨ρ, h0, μ, r, s, ?_⟩
  have z : wpS W Wx μ H (match sa ρ h0 with
    | .nx ρ' h' => sb ρ' h'
    | r => r) D := z
  cases e : sa ρ h0 with
  | nx ρ' h' =>
    rw [e] at z
    exact fun μ' H' σ' e1 R1 S1 => ⟨ρ', h', μ', R1, S1, wpS_ext e1 z⟩
  | bk ρ' h' => rw [e] at z; exact z
  | ct ρ' h' => rw [e] at z; exact z
  | rt v h' => rw [e] at z; exact z
  | exc c v ρ' h' => rw [e] at z; exact z
  | bad => rw [e] at z; exact z
theorem ss_one (h1 : PS X st (rdS W Wx sa)) : PSs X [st] (rdS W Wx sa) := pss_one h1
theorem ss_pass : PS X (.Pass pos) (rdS W Wx sSkip) := PS.imp ps_pass fun D σ H h => by
  obtain ⟨ρ, h0, μ, r, s, z⟩ := h
  exact z μ H σ Ext.refl r s
theorem ss_break : PS X (.Break pos) (rdS W Wx sBreak) := PS.imp ps_break fun D σ H h => by
  obtain ⟨ρ, h0, μ, r, s, z⟩ := h
  exact z μ H σ Ext.refl r s
theorem ss_continue : PS X (.Continue pos) (rdS W Wx sCont) := PS.imp ps_continue fun D σ H h => by
  obtain ⟨ρ, h0, μ, r, s, z⟩ := h
  exact z μ H σ Ext.refl r s
theorem ss_bad : PS X st (rdS W Wx sBad) := PS.imp ps_never fun D σ H h => by
  obtain ⟨ρ, h0, μ, r, s, z⟩ := h
  exact z
theorem ss_expr (he : PE X e (rdE W Wx da)) (hs : swapsWith e none pos.line X.env = pure false) : PS X (.Expr e pos) (rdS W Wx (sDrop da)) := by
  refine PS.imp (ps_expr he hs) fun D σ H h => ?_
  obtain ⟨ρ, h0, μ, r, s, z⟩ := rdS_bind (R := repV W) (k := fun ρ _ h1 => .nx ρ h1) h
  refine ⟨ρ, h0, μ, r, s, wp_imp z (fun _ _ _ z => z) fun x H1 z => ?_⟩
  obtain ⟨ρ1, p, μ1, h1, a1, rp, z⟩ := z
  exact z μ1 H1 σ Ext.refl a1.rel a1.reps
theorem ss_ret (he : PE X e (rdE W Wx da)) : PS X (.Return (some e) pos) (rdS W Wx (sRet da)) := by
  refine PS.imp (ps_ret he) fun D σ H h => ?_
  obtain ⟨ρ, h0, μ, r, s, z⟩ := rdS_bind (R := repV W) (k := fun ρ v h1 => .rt v h1) h
  refine ⟨ρ, h0, μ, r, s, wp_imp z (fun _ _ _ z => z) fun x H1 z => ?_⟩
  obtain ⟨ρ1, p, μ1, h1, a1, rp, z⟩ := z
  exact Post.here z a1.rel rp
theorem ss_retN : PS X (.Return none pos) (rdS W Wx sRetN) := PS.imp ps_retN fun D σ H h => by
  obtain ⟨ρ, h0, μ, r, s, z⟩ := h
  show D.rt .non H
  exact Post.here (R := repV W) (v := PV.non) (h := h0) z r rfl
theorem ss_if {as bs : List Stmt} (hc : PT X c (rdB W Wx ba)) (ha : PSs X as (rdS W Wx sa)) (hb : PSs X bs (rdS W Wx sb)) : PS X (.If c as bs pos) (rdS W Wx (sIf ba sa sb)) := by
  refine PS.imp (ps_if hc ha hb) fun D σ H h => ?_
  obtain ⟨ρ, h0, μ, r, s, z⟩ := rdS_bind (R := repB) (k := fun ρ k h1 => match k with
    | true => sa ρ h1
    | false => sb ρ h1) h
  refine ⟨ρ, h0, μ, r, s, wp_imp z (fun _ _ _ z => z) fun x H1 z => ?_⟩
  obtain ⟨ρ1, p, μ1, h1, a1, rp, z⟩ := z
  have rp : p = x := rp
  subst rp
  cases p with
  | true => exact iteT (rdS_of a1 z)
  | false => exact iteF (rdS_of a1 z)
/-! ### targets -/
def gRd (W : Wd) (g : TgD) : TG := fun x σ H Q => ∃ p ρ h μ ρ', Rel W μ h H ∧ RepS W.K μ H ρ σ ∧ RepV W.K μ H p x ∧ g p ρ = some ρ' ∧ ∀ μ' H' σ', Ext W.K μ H μ' H' → Rel W μ' h H' → RepS W.K μ' H' ρ' σ' → Q σ' H'
def gsRd (W : Wd) (gs : List TgD) : TGs := fun xs σ H Q => ∃ ps ρ h μ ρ', Rel W μ h H ∧ RepS W.K μ H ρ σ ∧ RepVs W.K μ H ps xs ∧ gSeq gs ps ρ = some ρ' ∧ ∀ μ' H' σ', Ext W.K μ H μ' H' → Rel W μ' h H' → RepS W.K μ' H' ρ' σ' → Q σ' H'
theorem PG.imp {tg : Expr} {t t' : TG} (h : PG X tg t) (i : ∀ v σ H Q, t' v σ H Q → t v σ H Q) : PG X tg t' := ⟨fun pins s σ H v u Q I r hq => h.run pins s σ H v u Q I r (i v σ H Q hq)⟩
theorem PGs.imp {tg : List Expr} {t t' : TGs} (h : PGs X tg t) (i : ∀ v σ H Q, t' v σ H Q → t v σ H Q) : PGs X tg t' := ⟨fun pins s σ H v u Q I r hq => h.run pins s σ H v u Q I r (i v σ H Q hq)⟩
theorem RepS.set {K : PySem.W.Frag} {μ : List Addr} {H : Hp} {ρ : Rho} {σ : L2.St} {v : PV} {x : V} (s : RepS K μ H ρ σ) (i : Nat) (r : RepV K μ H v x) : RepS K μ H (ρ.set i (some v)) (σ.set i (some x)) := by
  refine ⟨by rw [List.length_set, List.length_set]; exact s.len, fun j w e => ?_⟩
  by_cases hj : i = j
  · subst hj
    by_cases hi : i < ρ.length
    · rw [List.getElem?_set_self hi] at e
      cases e
      exact ⟨x, List.getElem?_set_self (by rw [← s.len]; exact hi), r⟩
    · rw [List.set_eq_of_length_le (by omega)] at e
      rw [List.set_eq_of_length_le (by rw [← s.len]; omega)]
      exact s.slot i w e
  · rw [List.getElem?_set_ne hj] at e
    rw [List.getElem?_set_ne hj]
    exact s.slot j w e
theorem sg_name {i : Nat} {x : Str} (hN : X.N.Nodup) (hi : X.N[i]? = some x) (hx : Loc X.env.scope x) (hf : X.fn x = true ∨ X.env.scope.names.lookup x = some .local) : PG X (.Name x pos) (gRd W (gSet i)) := by
  refine PG.imp (pg_name hN hi hx hf) fun v σ H Q h => ?_
  obtain ⟨p, ρ, h0, μ, ρ', r, s, rp, e, q⟩ := h
  cases e
  exact q μ H _ Ext.refl r (s.set i rp)
theorem sgs_nil : PGs X [] (gsRd W []) := by
  refine PGs.imp pgs_nil fun vs σ H Q h => ?_
  obtain ⟨ps, ρ, h0, μ, ρ', r, s, rp, e, q⟩ := h
  cases ps with
  | nil =>
    cases e
    exact ⟨rp, q μ H _ Ext.refl r s⟩
  | cons _ _ => cases e
theorem sgs_cons {es : List Expr} {g : TgD} {gs : List TgD} (h1 : PG X e (gRd W g)) (h2 : PGs X es (gsRd W gs)) (hs : (assignEach (e :: es) X.env).map (·.2) = assign e X.env :: (assignEach es X.env).map (·.2)) : PGs X (e :: es) (gsRd W (g :: gs)) := by
  refine PGs.imp (pgs_cons h1 h2 hs) fun vs σ H Q h => ?_
  obtain ⟨ps, ρ, h0, μ, ρ', r, s, rp, e, q⟩ := h
  cases ps with
  | nil => cases e
  | cons p ps =>
    obtain ⟨x, xs, rfl, r1, r2⟩ := rp.cons_inv
    have e : (match g p ρ with
      | some ρ' => gSeq gs ps ρ'
      | none => none) = some ρ' := e
    cases e1 : g p ρ with
    | none => rw [e1] at e; cases e
    | some ρ1 =>
      rw [e1] at e
      exact ⟨x, xs, rfl, p, ρ, h0, μ, ρ1, r, s, r1, e1, fun μ' H' σ' E1 R1 S1 => ⟨ps, ρ1, h0, μ', ρ', R1, S1, r2.ext E1, e, fun μ2 H2 σ2 E2 => q μ2 H2 σ2 (E1.trans E2)⟩⟩
theorem gSeq_len : ∀ {gs : List TgD} {vs : List PV} {ρ ρ' : Rho}, gSeq gs vs ρ = some ρ' → vs.length = gs.length
  | [], [], _, _, _ => rfl
  | [], _ :: _, _, _, h => by cases h
  | _ :: _, [], _, _, h => by cases h
  | g :: gs, v :: vs, ρ, ρ', h => by
    have e : (match g v ρ with
      | some ρ' => gSeq gs vs ρ'
      | none => none) = some ρ' := h
    cases e1 : g v ρ with
    | none => rw [e1] at e; cases e
    | some ρ1 =>
      rw [e1] at e
      simp [gSeq_len e]
theorem sg_tup {es : List Expr} {k : Nat} {gs : List TgD} (hK : W.K = X.K) (hc : X.calm = true) (h : PGs X es (gsRd W gs)) (hn : (assignEach es X.env).length = gs.length) (hst : (assignEach es X.env).findIdx? (·.1) = none) : PG X (.Tuple es k pos) (gRd W (gTupD gs)) := by
  refine PG.imp (pg_tup (n := gs.length) hc h hn hst) fun v σ H Q h => ?_
  obtain ⟨p, ρ, h0, μ, ρ', r, s, rp, e, q⟩ := h
  cases p with
  | tup xs =>
    obtain ⟨a, vs, rfl, ha, rv⟩ := rp
    exact ⟨a, vs, rfl, .of ha, by rw [← rv.len]; exact gSeq_len e, xs, ρ, h0, μ, ρ', r, s, rv, e, q⟩
  | kt xs =>
    obtain ⟨a, vs, rfl, ha, rv⟩ := rp
    rw [hK] at ha
    exact ⟨a, vs, rfl, ha, by rw [← rv.len]; exact gSeq_len e, xs, ρ, h0, μ, ρ', r, s, rv, e, q⟩
  | _ => cases e
theorem ss_asg {tg : Expr} {g : TgD} (he : PE X e (rdE W Wx da)) (hg : PG X tg (gRd W g)) (hs : swapsWithSole [tg] e pos.line X.env = pure false) (hw : swappedStores [tg] e X.env = pure none) (h1 : (assignEach [tg] X.env).map (·.2) = [assign tg X.env]) :
    PS X (.Assign [tg] e pos) (rdS W Wx (sAsg da g)) := by
  refine PS.imp (ps_asg he hg hs hw h1) fun D σ H h => ?_
  obtain ⟨ρ, h0, μ, r, s, z⟩ := rdS_bind (R := repV W) (k := fun ρ v h1 => match g v ρ with
    | some ρ' => .nx ρ' h1
    | none => .bad) h
  refine ⟨ρ, h0, μ, r, s, wp_imp z (fun _ _ _ z => z) fun x H1 z => ?_⟩
  obtain ⟨ρ1, p, μ1, h1, a1, rp, z⟩ := z
  cases e1 : g p ρ1 with
  | none => rw [e1] at z; exact z.elim
  | some ρ2 =>
    rw [e1] at z
    exact ⟨p, ρ1, h1, μ1, ρ2, a1.rel, a1.reps, rp, e1, z⟩
theorem ss_par {i j : Nat} {x y : Str} {px py pt : Pos} {kt k2 pt2} (hc : X.calm = true) (hN : X.N.Nodup) (hi : X.N[i]? = some x) (hj : X.N[j]? = some y) (hij : i ≠ j)
    (hx : X.env.scope.names.lookup x = some .local) (hy : X.env.scope.names.lookup y = some .local) (ha : PA X [a, b] (rdL W Wx la))
    (hw : swappedStores [.Tuple [.Name x px, .Name y py] kt pt] (.Tuple [a, b] k2 pt2) X.env = pure (some [x, y])) (hs : swapsWithSole [.Tuple [.Name x px, .Name y py] kt pt] (.Tuple [a, b] k2 pt2) pos.line X.env = pure false) :
    PS X (.Assign [.Tuple [.Name x px, .Name y py] kt pt] (.Tuple [a, b] k2 pt2) pos) (rdS W Wx (sPar i j la)) := by
  refine PS.imp (ps_par hc hN hi hj hij hx hy ha hw hs) fun D σ H h => ?_
  obtain ⟨ρ, h0, μ, r, s, z⟩ := rdS_bind (R := repL W) (k := fun ρ vs h1 => match vs with
    | [v, w] => .nx ((ρ.set i (some v)).set j (some w)) h1
    | _ => .bad) h
  refine ⟨ρ, h0, μ, r, s, wp_imp z (fun _ _ _ z => z) fun x H1 z => ?_⟩
  obtain ⟨ρ1, p, μ1, h1, a1, rp, z⟩ := z
  match p, rp, z with
  | [v, w], rp, z =>
    obtain ⟨x1, r', rfl, q1, rp'⟩ := RepVs.cons_inv rp
    obtain ⟨x2, r'', rfl, q2, rp''⟩ := RepVs.cons_inv rp'
    have rp'' : r'' = [] := rp''
    subst rp''
    exact ⟨x1, x2, rfl, z μ1 H1 _ Ext.refl a1.rel ((a1.reps.set i q1).set j q2)⟩
  | [], _, z => exact z.elim
  | [_], _, z => exact z.elim
  | _ :: _ :: _ :: _, _, z => exact z.elim
/-! ### while -/
theorem ss_while {body : List Stmt} {n : Nat} (hp : PassesOwn (model X.prog X.w) X.A X.env X.xe) (hc : PT X c (rdB W Wx ba)) (hb : PSs X body (rdS W Wx sb)) : PS X (.While c body [] pos) (rdS W Wx (sWhile ba sb n)) := by
  refine PS.imp (ps_while hp hc hb) fun D σ H h => ?_
  refine ⟨fun m σ H => rdS W Wx (sWhile ba sb m) D σ H, ⟨n, h⟩, fun m σ H h => ?_⟩
  cases m with
  | zero =>
    obtain ⟨ρ, h0, μ, r, s, z⟩ := h
    exact z.elim
  | succ m =>
    obtain ⟨ρ, h0, μ, r, s, z⟩ := rdS_bind (R := repB) (k := fun ρ k h1 => match k with
      | true => (match sb ρ h1 with
        | .nx ρ' h' => sWhile ba sb m ρ' h'
        | .ct ρ' h' => sWhile ba sb m ρ' h'
        | .bk ρ' h' => .nx ρ' h'
        | r => r)
      | false => .nx ρ h1) h
    refine ⟨ρ, h0, μ, r, s, wp_imp z (fun _ _ _ z => z) fun x H1 z => ?_⟩
    obtain ⟨ρ1, p, μ1, h1, a1, rp, z⟩ := z
    have rp : p = x := rp
    subst rp
    cases p with
    | false => exact iteF (z μ1 H1 σ Ext.refl a1.rel a1.reps)
    | true =>
      refine iteT ⟨fun σ H => rdS W Wx (sWhile ba sb m) D σ H, fun σ' H' h' => ⟨m, Nat.lt_succ_self m, h'⟩, ?_⟩
      refine ⟨ρ1, h1, μ1, a1.rel, a1.reps, ?_⟩
      have z : wpS W Wx μ1 H1 (match sb ρ1 h1 with
        | .nx ρ' h' => sWhile ba sb m ρ' h'
        | .ct ρ' h' => sWhile ba sb m ρ' h'
        | .bk ρ' h' => .nx ρ' h'
        | r => r) D := z
      cases e : sb ρ1 h1 with
      | nx ρ' h' => rw [e] at z; exact fun μ' H' σ' E1 R1 S1 => ⟨ρ', h', μ', R1, S1, wpS_ext E1 z⟩
      | ct ρ' h' => rw [e] at z; exact fun μ' H' σ' E1 R1 S1 => ⟨ρ', h', μ', R1, S1, wpS_ext E1 z⟩
      | bk ρ' h' => rw [e] at z; exact z
      | rt v h' => rw [e] at z; exact z
      | exc c v ρ' h' => rw [e] at z; exact z
      | bad => rw [e] at z; exact z
end
end Mi

/-! ## For: what is walked, for -/
namespace Mi
open PySem PySem.Spec PyProof.Rows L2

/-- the layer's walk J goes as the plain source s; ok: what is to stand -/
structure SrcIt (W : Wd) (s : Src) (J : It) (ok : List Addr → Hp → Prop) : Prop where
  stop : ∀ μ h H i, ok μ H → Rel W μ h H → s.at h i = some none → J.stop i H
  go : ∀ μ h H i v, ok μ H → Rel W μ h H → s.at h i = some (some v) → J.go i H ∧ ∀ x H', J.yld i H x H' → ∃ μ', Ext W.K μ H μ' H' ∧ Rel W μ' h H' ∧ RepV W.K μ' H' v x
  mono : ∀ μ H μ' H', Up W.K μ H μ' H' → ok μ H → ok μ' H'
def wpI (W : Wd) (μ : List Addr) (H : Hp) (r : Res Src) (E : XK) (R : It → Hp → Prop) : Prop := match r with
  | .ok s h1 => ∀ μ1 H1 J ok, Ext W.K μ H μ1 H1 → Rel W μ1 h1 H1 → SrcIt W s J ok → ok μ1 H1 → R J H1
  | .exc c v h' => PostX W μ H h' c v E
  | .bad => False
def rdI (W : Wd) (Wx : WX) (d : DenI) : TI := fun σ H R => ∃ ρ h μ, Rel W μ h H ∧ RepS W.K μ H ρ σ ∧ wpI W μ H (d ρ h) (fun c d H' => Wx c d σ H') R
theorem PI.imp {X : Cx} {tg e : Expr} {t t' : TI} (h : PI X tg e t) (i : ∀ σ H R, t' σ H R → t σ H R) : PI X tg e t' := ⟨fun pins s σ H R I hq => h.run pins s σ H R I (i σ H R hq)⟩
theorem wpI_ext {W : Wd} {μ μ' : List Addr} {H H' : Hp} {r : Res Src} {E : XK} {R : It → Hp → Prop} (e : Ext W.K μ H μ' H') (x : wpI W μ H r E R) : wpI W μ' H' r E R := by
  cases r with
  | ok v h' => exact fun μ2 H2 J ok e2 => x μ2 H2 J ok (e.trans e2)
  | exc c v h' => exact fun μ2 H2 d y e2 R2 hd r2 => x μ2 H2 d y (e.trans e2) R2 hd r2
  | bad => exact x
theorem rdI_bind {α β : Type} {W : Wd} {R : Rp α β} {Wx : WX} {d : Rho → MH → Res α} {k : Rho → α → MH → Res Src} {σ : L2.St} {H : Hp} {Q : It → Hp → Prop}
    (x : rdI W Wx (fun ρ h => (d ρ h).bind (k ρ)) σ H Q) :
    rd W R Wx d σ H (fun y H1 => ∃ ρ p μ1 h1, At W σ ρ μ1 h1 H1 ∧ R μ1 H1 p y ∧ wpI W μ1 H1 (k ρ p h1) (fun c d H' => Wx c d σ H') Q) := by
  obtain ⟨ρ, h, μ, r, s, x⟩ := x
  refine ⟨ρ, h, μ, r, s, ?_⟩
  have x : wpI W μ H ((d ρ h).bind (k ρ)) (fun c d H' => Wx c d σ H') Q := x
  cases e : d ρ h with
  | ok v h' =>
    rw [e] at x
    exact fun μ1 H1 y e1 R1 r1 => ⟨ρ, v, μ1, h', ⟨R1, s.ext e1⟩, r1, wpI_ext e1 x⟩
  | exc c v h' => rw [e] at x; exact x
  | bad => rw [e] at x; exact x
section
variable {X : Cx} {W : Wd} {Wx : WX} {tg e : Expr} {da : Den} {la : DenL} {pos : Pos} {sb : DenS}
/-- a list or a tuple, whichever comes -/
def iSq (K : PySem.W.Frag) (tl : TE) : TI := fun σ H R => tl σ H fun x H1 => (∃ a, x = .ref a ∧ (∃ xs, SqL K H1 a xs) ∧ R (Itl K a) H1) ∨ ∃ a, x = .ref a ∧ (∃ xs, SqT K H1 a xs) ∧ R (Itt K a) H1
theorem pi_sq {tl : TE} (hl : PE X e tl) : PI X tg e (iSq X.K tl) := by
  refine ⟨fun pins s σ H R I h => ?_⟩
  refine thn (hl.run pins s σ H _ I h) fun v s1 ⟨x, H1, I1, r1, q1⟩ => ?_
  rcases q1 with ⟨a, e, ⟨xs, hq⟩, q⟩ | ⟨a, e, ⟨xs, hq⟩, q⟩
  · subst e
    cases r1
    obtain ⟨its, rv, p, hz⟩ := I1.list hq
    refine wpAny_pyIter_list p.isList ?_
    refine ⟨s1.heap.objs.size, [s1.heap.objs.size], _, _, H1, rfl, I1.kept (t' := s1.toks) fun b o e => Heap.get?_push_of_some _ e, turn_list a _, ⟨_, Heap.get?_push_size _ rfl, rfl, rfl⟩, fun b hb => ?_, q⟩
    have e : b = s1.heap.objs.size := by simpa using hb
    subst e
    exact I1.fpOk (Nat.le_refl _) (I1.hok.fresh (Nat.le_refl _))
  · subst e
    cases r1
    obtain ⟨its, rv, p, hz⟩ := I1.tuple hq
    refine wpAny_pyIter_tuple (show s1.heap.IsTuple a its.toArray from p) ?_
    refine ⟨s1.heap.objs.size, [s1.heap.objs.size], _, _, H1, rfl, I1.kept (t' := s1.toks) fun b o e => Heap.get?_push_of_some _ e, turn_tuple a _, ⟨_, Heap.get?_push_size _ rfl, rfl, rfl⟩, fun b hb => ?_, q⟩
    have e : b = s1.heap.objs.size := by simpa using hb
    subst e
    exact I1.fpOk (Nat.le_refl _) (I1.hok.fresh (Nat.le_refl _))
theorem at_vals {xs : List PV} {h : MH} {i : Nat} : (Src.vals xs).at h i = some xs[i]? := rfl
theorem src_tup {a : Addr} {ps : List PV} : SrcIt W (.vals ps) (Itt W.K a) (fun μ H => ∃ vs, SqT W.K H a vs ∧ RepVs W.K μ H ps vs) where
  stop := fun μ h H i ⟨vs, s, r⟩ _ e => by
    refine ⟨vs, s, ?_⟩
    rw [at_vals] at e
    have := List.getElem?_eq_none_iff.mp (Option.some.inj e)
    rw [← r.len]
    exact this
  go := fun μ h H i v ⟨vs, s, r⟩ R e => by
    rw [at_vals] at e
    obtain ⟨x, hx, rx⟩ := r.get (Option.some.inj e)
    refine ⟨⟨vs, x, s, hx⟩, fun y H' hy => ?_⟩
    obtain ⟨rfl, hy⟩ := hy
    have e2 := hy vs s
    rw [hx] at e2
    cases e2
    exact ⟨μ, Ext.refl, R, rx⟩
  mono := fun μ H μ' H' e ⟨vs, s, r⟩ => ⟨vs, e.st _ _ s, r.up e⟩
theorem src_rol {a : Addr} {ps : List PV} : SrcIt W (.vals ps) (Itl W.K a) (fun μ H => ∃ vs, SqR W.K H a vs ∧ RepVs W.K μ H ps vs) where
  stop := fun μ h H i ⟨vs, s, r⟩ _ e => by
    refine ⟨vs, s.l, ?_⟩
    rw [at_vals] at e
    have := List.getElem?_eq_none_iff.mp (Option.some.inj e)
    rw [← r.len]
    exact this
  go := fun μ h H i v ⟨vs, s, r⟩ R e => by
    rw [at_vals] at e
    obtain ⟨x, hx, rx⟩ := r.get (Option.some.inj e)
    refine ⟨⟨vs, x, s.l, hx⟩, fun y H' hy => ?_⟩
    obtain ⟨rfl, hy⟩ := hy
    have e2 := hy vs s.l
    rw [hx] at e2
    cases e2
    exact ⟨μ, Ext.refl, R, rx⟩
  mono := fun μ H μ' H' e ⟨vs, s, r⟩ => ⟨vs, e.sr _ _ s, r.up e⟩
theorem src_live {a : Addr} {n : Nat} : SrcIt W (.live n) (Itl W.K a) (fun μ H => μ[n]? = some a) where
  stop := fun μ h H i hm R e => by
    have e : (match h[n]? with
      | some (.lst xs) => some xs[i]?
      | _ => none) = some none := e
    cases hn : h[n]? with
    | none => rw [hn] at e; cases e
    | some o =>
      rw [hn] at e
      cases o with
      | lst xs =>
        obtain ⟨vs, h1, h2⟩ := R.obj _ _ _ hm hn
        have := List.getElem?_eq_none_iff.mp (Option.some.inj e)
        exact ⟨vs, .of h1, by rw [← h2.len]; exact this⟩
      | _ => cases e
  go := fun μ h H i v hm R e => by
    have e : (match h[n]? with
      | some (.lst xs) => some xs[i]?
      | _ => none) = some (some v) := e
    cases hn : h[n]? with
    | none => rw [hn] at e; cases e
    | some o =>
      rw [hn] at e
      cases o with
      | lst xs =>
        obtain ⟨vs, h1, h2⟩ := R.obj _ _ _ hm hn
        obtain ⟨x, hx, rx⟩ := h2.get (Option.some.inj e)
        refine ⟨⟨vs, x, .of h1, hx⟩, fun y H' hy => ?_⟩
        obtain ⟨rfl, hy⟩ := hy
        have e2 := hy vs (.of h1)
        rw [hx] at e2
        cases e2
        exact ⟨μ, Ext.refl, R, rx⟩
      | _ => cases e
  mono := fun μ H μ' H' e hm => e.at hm
theorem rngV_at {lo hi : Int} {i : Nat} : (rngV lo hi)[i]? = if i < (hi - lo).toNat then some (.int (lo + (i : Nat))) else none := by
  unfold rngV
  rw [List.getElem?_map]
  by_cases hi' : i < (hi - lo).toNat
  · rw [if_pos hi', List.getElem?_range hi']
    rfl
  · rw [if_neg hi', List.getElem?_eq_none_iff.mpr (by rw [List.length_range]; omega)]
    rfl
theorem src_rng {lo hi : Int} : SrcIt W (.vals (rngV lo hi)) (Itr lo (hi - lo).toNat) (fun _ _ => True) where
  stop := fun μ h H i _ _ e => by
    rw [at_vals, rngV_at] at e
    by_cases hi' : i < (hi - lo).toNat
    · rw [if_pos hi'] at e; cases e
    · exact Nat.le_of_not_lt hi'
  go := fun μ h H i v _ R e => by
    rw [at_vals, rngV_at] at e
    by_cases hi' : i < (hi - lo).toNat
    · rw [if_pos hi'] at e
      cases e
      refine ⟨hi', fun y H' hy => ?_⟩
      obtain ⟨rfl, rfl⟩ := hy
      exact ⟨μ, Ext.refl, R, rfl⟩
    · rw [if_neg hi'] at e; cases e
  mono := fun _ _ _ _ _ _ => trivial
theorem si_seq (hK : W.K = X.K) (he : PE X e (rdE W Wx da)) : PI X tg e (rdI W Wx (iSeq da)) := by
  refine PI.imp (pi_sq he) fun σ H R h => ?_
  obtain ⟨ρ, h0, μ, r, s, z⟩ := rdI_bind (R := repV W) (k := fun _ v h1 => match v with
    | .tup xs => .ok (.vals xs) h1
    | .kt xs => .ok (.vals xs) h1
    | .rol xs => .ok (.vals xs) h1
    | .ref n => (match h1[n]? with
      | some (.lst _) => .ok (.live n) h1
      | _ => .bad)
    | _ => .bad) h
  refine ⟨ρ, h0, μ, r, s, wp_imp z (fun _ _ _ z => z) fun x H1 z => ?_⟩
  obtain ⟨ρ1, p, μ1, h1, a1, rp, z⟩ := z
  cases p with
  | tup xs =>
    obtain ⟨a, vs, rfl, ha, rv⟩ := rp
    refine .inr ⟨a, rfl, ⟨vs, .of ha⟩, ?_⟩
    have q := z μ1 H1 (Itt W.K a) _ Ext.refl a1.rel src_tup ⟨vs, .of ha, rv⟩
    rw [hK] at q
    exact q
  | kt xs =>
    obtain ⟨a, vs, rfl, ha, rv⟩ := rp
    have q := z μ1 H1 (Itt W.K a) _ Ext.refl a1.rel src_tup ⟨vs, ha, rv⟩
    rw [hK] at q ha
    exact .inr ⟨a, rfl, ⟨vs, ha⟩, q⟩
  | rol xs =>
    obtain ⟨a, vs, rfl, ha, rv⟩ := rp
    have q := z μ1 H1 (Itl W.K a) _ Ext.refl a1.rel src_rol ⟨vs, ha, rv⟩
    rw [hK] at q ha
    exact .inl ⟨a, rfl, ⟨vs, ha.l⟩, q⟩
  | ref n =>
    obtain ⟨a, ha, rfl⟩ := rp
    have z : wpI W μ1 H1 (match h1[n]? with
      | some (.lst _) => .ok (.live n) h1
      | _ => .bad) (fun c d H' => Wx c d σ H') R := z
    cases hn : h1[n]? with
    | none => rw [hn] at z; exact z.elim
    | some o =>
      rw [hn] at z
      cases o with
      | lst xs =>
        obtain ⟨vs, e1, e2⟩ := a1.rel.obj _ _ _ ha hn
        have q := z μ1 H1 (Itl W.K a) _ Ext.refl a1.rel src_live ha
        rw [hK] at q
        exact .inl ⟨a, rfl, ⟨vs, .of e1⟩, q⟩
      | _ => exact z.elim
  | _ => exact z.elim
theorem okR_iff {i : Int} : okR i = true ↔ -(2 ^ 62) ≤ i ∧ i < 2 ^ 62 := by
  unfold okR
  rw [Bool.and_eq_true, decide_eq_true_iff, decide_eq_true_iff]
theorem si_range1 {p : Pos} (hg : Gl X "range") (hm : X.mg "range" = none) (ha : PA X [e] (rdL W Wx la)) (hs : starEach [e] X.env = [(false, eval e X.env)]) : PI X tg (.Call (.Name "range" p) [e] [] pos) (rdI W Wx (iRange1 la)) := by
  refine PI.imp (pi_range1 hg hm ha hs) fun σ H R h => ?_
  obtain ⟨ρ, h0, μ, r, s, z⟩ := rdI_bind (R := repL W) (k := fun _ vs h1 => match oneInt vs with
    | some j => if okR j = true then .ok (.vals (rngV 0 j)) h1 else .bad
    | none => .bad) h
  refine ⟨ρ, h0, μ, r, s, wp_imp z (fun _ _ _ z => z) fun x H1 z => ?_⟩
  obtain ⟨ρ1, q, μ1, h1, a1, rp, z⟩ := z
  cases eq : oneInt q with
  | none => simp only [eq] at z; exact z.elim
  | some j =>
    simp only [eq] at z
    rw [oneInt_some eq] at rp
    obtain ⟨x1, r', rfl, q1, rp'⟩ := RepVs.cons_inv rp
    have rp' : r' = [] := rp'
    have q1 : x1 = .int j := q1
    subst rp' q1
    have z : wpI W μ1 H1 (if okR j = true then .ok (.vals (rngV 0 j)) h1 else .bad) (fun c d H' => Wx c d σ H') R := z
    by_cases hj : okR j = true
    · rw [if_pos hj] at z
      obtain ⟨b1, b2⟩ := okR_iff.mp hj
      have t := z μ1 H1 (Itr 0 (j - 0).toNat) _ Ext.refl a1.rel src_rng trivial
      rw [Int.sub_zero] at t
      exact ⟨j, rfl, b1, b2, t⟩
    · rw [if_neg hj] at z; exact z.elim
theorem si_range2 {e2 : Expr} {p : Pos} (hg : Gl X "range") (hm : X.mg "range" = none) (ha : PA X [e, e2] (rdL W Wx la)) (hs : starEach [e, e2] X.env = [(false, eval e X.env), (false, eval e2 X.env)]) (hs2 : starEach [e2] X.env = [(false, eval e2 X.env)]) :
    PI X tg (.Call (.Name "range" p) [e, e2] [] pos) (rdI W Wx (iRange2 la)) := by
  refine PI.imp (pi_range2 hg hm ha hs hs2) fun σ H R h => ?_
  obtain ⟨ρ, h0, μ, r, s, z⟩ := rdI_bind (R := repL W) (k := fun _ vs h1 => match twoInt vs with
    | some p => if okR p.1 = true ∧ okR p.2 = true then .ok (.vals (rngV p.1 p.2)) h1 else .bad
    | none => .bad) h
  refine ⟨ρ, h0, μ, r, s, wp_imp z (fun _ _ _ z => z) fun x H1 z => ?_⟩
  obtain ⟨ρ1, q, μ1, h1, a1, rp, z⟩ := z
  cases eq : twoInt q with
  | none => simp only [eq] at z; exact z.elim
  | some ij =>
    obtain ⟨i, j⟩ := ij
    simp only [eq] at z
    have eq2 : q = [.int i, .int j] := twoInt_some eq
    rw [eq2] at rp
    obtain ⟨x1, r', rfl, q1, rp'⟩ := RepVs.cons_inv rp
    obtain ⟨x2, r'', rfl, q2, rp''⟩ := RepVs.cons_inv rp'
    have rp'' : r'' = [] := rp''
    have q1 : x1 = .int i := q1
    have q2 : x2 = .int j := q2
    subst rp'' q1 q2
    have z : wpI W μ1 H1 (if okR i = true ∧ okR j = true then .ok (.vals (rngV i j)) h1 else .bad) (fun c d H' => Wx c d σ H') R := z
    by_cases hj : okR i = true ∧ okR j = true
    · rw [if_pos hj] at z
      obtain ⟨b1, b2⟩ := okR_iff.mp hj.1
      obtain ⟨b3, b4⟩ := okR_iff.mp hj.2
      exact ⟨i, j, rfl, ⟨b1, b2, b3, b4⟩, z μ1 H1 (Itr i (j - i).toNat) _ Ext.refl a1.rel src_rng trivial⟩
    · rw [if_neg hj] at z; exact z.elim
/-! ### for -/
theorem ss_for {body : List Stmt} {d : DenI} {g : TgD} (hp : PassesOwn (model X.prog X.w) X.A X.env X.xe) (hc : X.calm = true) (hi : PI X tg e (rdI W Wx d)) (hg : PG X tg (gRd W g)) (hb : PSs X body (rdS W Wx sb)) (hs : ∀ x, foldedSetIterable e X.env x = pure x) :
    PS X (.For tg e body [] pos) (rdS W Wx (sFor d g sb)) := by
  refine PS.imp (ps_for hp hc hi hg hb hs) fun D σ H h => ?_
  obtain ⟨ρ, h0, μ, r, s, z⟩ := h
  refine ⟨ρ, h0, μ, r, s, ?_⟩
  have z : wpS W Wx μ H ((d ρ h0).thn ρ fun s h1 => sForF s g sb (s.size h1) 0 ρ h1) D := z
  cases e0 : d ρ h0 with
  | bad => rw [e0] at z; exact z
  | exc c v h' =>
    rw [e0] at z
    exact fun μ1 H1 d y e1 R1 hd r1 => z μ1 H1 σ d y e1 R1 (s.ext e1) hd r1
  | ok S h1 =>
    rw [e0] at z
    have z : wpS W Wx μ H (sForF S g sb (S.size h1) 0 ρ h1) D := z
    intro μ1 H1 J ok E1 R1 SI hok
    refine ⟨fun i m σ H => ∃ ρ h μ, Rel W μ h H ∧ RepS W.K μ H ρ σ ∧ ok μ H ∧ wpS W Wx μ H (sForF S g sb m i ρ h) D, ⟨S.size h1, ρ, h1, μ1, R1, s.ext E1, hok, wpS_ext E1 z⟩, ?_⟩
    rintro i m σ2 H2 ⟨ρ2, h2, μ2, R2, S2, ok2, z2⟩
    unfold sForF at z2
    cases ea : S.at h2 i with
    | none => simp only [ea] at z2; exact z2.elim
    | some o =>
      cases o with
      | none =>
        simp only [ea] at z2
        exact .inl ⟨SI.stop _ _ _ _ ok2 R2 ea, z2 μ2 H2 σ2 Ext.refl R2 S2⟩
      | some v =>
        simp only [ea] at z2
        obtain ⟨hgo, hy⟩ := SI.go _ _ _ _ _ ok2 R2 ea
        refine .inr ⟨hgo, ?_⟩
        cases m with
        | zero => exact z2.elim
        | succ m =>
          refine ⟨fun σ H => ∃ ρ h μ, Rel W μ h H ∧ RepS W.K μ H ρ σ ∧ ok μ H ∧ wpS W Wx μ H (sForF S g sb m (i + 1) ρ h) D, fun σ' H' h' => ⟨m, Nat.lt_succ_self m, h'⟩, fun x H3 hx => ?_⟩
          obtain ⟨μ3, E3, R3, rx⟩ := hy x H3 hx
          cases eg : g v ρ2 with
          | none => simp only [eg] at z2; exact z2.elim
          | some ρ3 =>
            simp only [eg] at z2
            refine ⟨v, ρ2, h2, μ3, ρ3, R3, S2.ext E3, rx, eg, fun μ4 H4 σ4 E4 R4 S4 => ⟨ρ3, h2, μ4, R4, S4, ?_⟩⟩
            have ok4 := SI.mono _ _ _ _ E4.up (SI.mono _ _ _ _ E3.up ok2)
            have z4 := wpS_ext (E3.trans E4) z2
            cases eb : sb ρ3 h2 with
            | nx ρ' h' => simp only [eb] at z4; exact fun μ5 H5 σ5 E5 R5 S5 => ⟨ρ', h', μ5, R5, S5, SI.mono _ _ _ _ E5.up ok4, wpS_ext E5 z4⟩
            | ct ρ' h' => simp only [eb] at z4; exact fun μ5 H5 σ5 E5 R5 S5 => ⟨ρ', h', μ5, R5, S5, SI.mono _ _ _ _ E5.up ok4, wpS_ext E5 z4⟩
            | bk ρ' h' => simp only [eb] at z4; exact z4
            | rt v h' => simp only [eb] at z4; exact z4
            | exc c v ρ' h' => simp only [eb] at z4; exact z4
            | bad => simp only [eb] at z4; exact z4
end
end Mi

/-! ## Lc: comprehensions -/
namespace Mi
open PySem PySem.Spec PyProof.Rows L2

def wipeR (ρ : Rho) : List Nat → Rho
  | [] => ρ
  | v :: vs => (wipeR ρ vs).set v none
/-- a comprehension's loop: what is gathered goes along -/
def lpF {α : Type} (s : Src) (g : TgD) (turn : Rho → α → MH → Res α) (ρ0 : Rho) : Nat → Nat → α → MH → Res α
  | k, i => fun acc h => match s.at h i with
    | none => .bad
    | some none => .ok acc h
    | some (some v) => (match k with
      | 0 => .bad
      | k + 1 => (match g v ρ0 with
        | none => .bad
        | some ρ1 => (match turn ρ1 acc h with
          | .ok acc' h' => lpF s g turn ρ0 k (i + 1) acc' h'
          | _ => .bad)))
def tnElt (tt : DenB) (te : Den) : Rho → List PV → MH → Res (List PV) := fun ρ acc h => match tt ρ h with
  | .ok b h1 => (match b with
    | true => (match te ρ h1 with
      | .ok y h2 => if acc.length < sizeLine then .ok (acc ++ [y]) h2 else .bad
      | _ => .bad)
    | false => .ok acc h1)
  | _ => .bad
def tnIn {α : Type} (tt : DenB) (di : DenI) (g : TgD) (own1 : List Nat) (turn : Rho → α → MH → Res α) : Rho → α → MH → Res α := fun ρ acc h => match tt ρ h with
  | .ok b h1 => (match b with
    | true => (match di ρ h1 with
      | .ok s h2 => lpF s g turn (wipeR ρ own1) (s.size h2) 0 acc h2
      | _ => .bad)
    | false => .ok acc h1)
  | _ => .bad
def dLc (di : DenI) (own : List Nat) (g : TgD) (turn : Rho → List PV → MH → Res (List PV)) : Den := fun ρ h => (di ρ h).bind fun s h1 => (match lpF s g turn (wipeR ρ own) (s.size h1) 0 [] h1 with
  | .ok acc h2 => .ok (.ref h2.length) (h2 ++ [.lst acc])
  | _ => .bad)
section
variable {W : Wd} {X : Cx} {μ : List Addr} {H : Hp}
theorem RepS.wipe {K : PySem.W.Frag} {ρ : Rho} {σ : L2.St} (s : RepS K μ H ρ σ) : ∀ own : List Nat, RepS K μ H (wipeR ρ own) (L2.wipe σ own)
  | [] => s
  | i :: own => by
    have ih := RepS.wipe s own
    refine ⟨?_, fun j v e => ?_⟩
    · show ((wipeR ρ own).set i none).length = ((L2.wipe σ own).set i none).length
      rw [List.length_set, List.length_set, ih.len]
    · have e : ((wipeR ρ own).set i none)[j]? = some (some v) := e
      show ∃ x, ((L2.wipe σ own).set i none)[j]? = some (some x) ∧ _
      by_cases hj : i = j
      · subst hj
        by_cases hi : i < (wipeR ρ own).length
        · rw [List.getElem?_set_self hi] at e; cases e
        · rw [List.getElem?_eq_none (by simpa using hi)] at e; cases e
      · rw [List.getElem?_set_ne hj] at e
        rw [List.getElem?_set_ne hj]
        exact ih.slot j v e
theorem wipe_set {σ : L2.St} {i : Nat} {x : Option V} : ∀ {own : List Nat}, i ∈ own → L2.wipe (σ.set i x) own = L2.wipe σ own
  | [], h => by cases h
  | j :: own, h => by
    show (L2.wipe (σ.set i x) own).set j none = (L2.wipe σ own).set j none
    by_cases hm : i ∈ own
    · rw [wipe_set hm]
    · have e : i = j := (List.mem_cons.mp h).resolve_right hm
      subst e
      have q : ∀ own : List Nat, L2.wipe (σ.set i x) own = L2.wipe σ own ∨ L2.wipe (σ.set i x) own = (L2.wipe σ own).set i x := fun own => by
        induction own with
        | nil => exact .inr rfl
        | cons a r ih =>
          show (L2.wipe (σ.set i x) r).set a none = (L2.wipe σ r).set a none ∨ (L2.wipe (σ.set i x) r).set a none = ((L2.wipe σ r).set a none).set i x
          rcases ih with e | e
          · exact .inl (by rw [e])
          · by_cases ha : a = i
            · subst ha
              exact .inl (by rw [e, List.set_set])
            · exact .inr (by rw [e, List.set_comm _ _ (Ne.symm ha)])
      rcases q own with e | e
      · rw [e]
      · rw [e, List.set_set]
/-- a target that sets slots of own alone -/
def gRdW (W : Wd) (own : List Nat) (g : TgD) : TG := fun x σ H Q => ∃ p ρ h μ ρ', Rel W μ h H ∧ RepS W.K μ H ρ σ ∧ RepV W.K μ H p x ∧ g p ρ = some ρ' ∧ ∀ μ' H' σ', Ext W.K μ H μ' H' → Rel W μ' h H' → RepS W.K μ' H' ρ' σ' → L2.wipe σ' own = L2.wipe σ own → Q σ' H'
def gsRdW (W : Wd) (own : List Nat) (gs : List TgD) : TGs := fun xs σ H Q => ∃ ps ρ h μ ρ', Rel W μ h H ∧ RepS W.K μ H ρ σ ∧ RepVs W.K μ H ps xs ∧ gSeq gs ps ρ = some ρ' ∧ ∀ μ' H' σ', Ext W.K μ H μ' H' → Rel W μ' h H' → RepS W.K μ' H' ρ' σ' → L2.wipe σ' own = L2.wipe σ own → Q σ' H'
variable {own : List Nat} {pos : Pos} {e : Expr}
theorem sgw_name {i : Nat} {x : Str} (hN : X.N.Nodup) (hi : X.N[i]? = some x) (hx : Loc X.env.scope x) (hf : X.fn x = true ∨ X.env.scope.names.lookup x = some .local) (ho : i ∈ own) : PG X (.Name x pos) (gRdW W own (gSet i)) := by
  refine PG.imp (pg_name hN hi hx hf) fun v σ H Q h => ?_
  obtain ⟨p, ρ, h0, μ, ρ', r, s, rp, e, q⟩ := h
  cases e
  exact q μ H _ Ext.refl r (s.set i rp) (wipe_set ho)
theorem sgsw_nil : PGs X [] (gsRdW W own []) := by
  refine PGs.imp pgs_nil fun vs σ H Q h => ?_
  obtain ⟨ps, ρ, h0, μ, ρ', r, s, rp, e, q⟩ := h
  cases ps with
  | nil =>
    cases e
    exact ⟨rp, q μ H _ Ext.refl r s rfl⟩
  | cons _ _ => cases e
theorem sgsw_cons {es : List Expr} {g : TgD} {gs : List TgD} (h1 : PG X e (gRdW W own g)) (h2 : PGs X es (gsRdW W own gs)) (hs : (assignEach (e :: es) X.env).map (·.2) = assign e X.env :: (assignEach es X.env).map (·.2)) : PGs X (e :: es) (gsRdW W own (g :: gs)) := by
  refine PGs.imp (pgs_cons h1 h2 hs) fun vs σ H Q h => ?_
  obtain ⟨ps, ρ, h0, μ, ρ', r, s, rp, e, q⟩ := h
  cases ps with
  | nil => cases e
  | cons p ps =>
    obtain ⟨x, xs, rfl, r1, r2⟩ := rp.cons_inv
    have e : (match g p ρ with
      | some ρ' => gSeq gs ps ρ'
      | none => none) = some ρ' := e
    cases e1 : g p ρ with
    | none => rw [e1] at e; cases e
    | some ρ1 =>
      rw [e1] at e
      exact ⟨x, xs, rfl, p, ρ, h0, μ, ρ1, r, s, r1, e1, fun μ' H' σ' E1 R1 S1 w1 => ⟨ps, ρ1, h0, μ', ρ', R1, S1, r2.ext E1, e, fun μ2 H2 σ2 E2 R2 S2 w2 => q μ2 H2 σ2 (E1.trans E2) R2 S2 (w2.trans w1)⟩⟩
theorem sgw_tup {es : List Expr} {k : Nat} {gs : List TgD} (hK : W.K = X.K) (hc : X.calm = true) (h : PGs X es (gsRdW W own gs)) (hn : (assignEach es X.env).length = gs.length) (hst : (assignEach es X.env).findIdx? (·.1) = none) : PG X (.Tuple es k pos) (gRdW W own (gTupD gs)) := by
  refine PG.imp (pg_tup (n := gs.length) hc h hn hst) fun v σ H Q h => ?_
  obtain ⟨p, ρ, h0, μ, ρ', r, s, rp, e, q⟩ := h
  cases p with
  | tup xs =>
    obtain ⟨a, vs, rfl, ha, rv⟩ := rp
    exact ⟨a, vs, rfl, .of ha, by rw [← rv.len]; exact gSeq_len e, xs, ρ, h0, μ, ρ', r, s, rv, e, q⟩
  | kt xs =>
    obtain ⟨a, vs, rfl, ha, rv⟩ := rp
    rw [hK] at ha
    exact ⟨a, vs, rfl, ha, by rw [← rv.len]; exact gSeq_len e, xs, ρ, h0, μ, ρ', r, s, rv, e, q⟩
  | _ => cases e
/-! ### the loops -/
abbrev WxF : WX := fun _ _ _ _ => False
def okEnd {α : Type} (r : Res α) (P : α → MH → Prop) : Prop := ∃ a h, r = .ok a h ∧ P a h
theorem okEnd_ok {α : Type} {a : α} {h : MH} {P : α → MH → Prop} (x : okEnd (.ok a h) P) : P a h := by
  obtain ⟨a', h', e, p⟩ := x
  cases e
  exact p
theorem okEnd_bad {α : Type} {P : α → MH → Prop} (x : okEnd (.bad : Res α) P) : False := by
  obtain ⟨_, _, e, _⟩ := x; cases e
theorem okEnd_exc {α : Type} {c : Nat} {v : PV} {h : MH} {P : α → MH → Prop} (x : okEnd (.exc c v h : Res α) P) : False := by
  obtain ⟨_, _, e, _⟩ := x; cases e
/-- what is gathered at D -/
abbrev RepAcc (α : Type) := List Addr → Hp → α → HO → Prop
/-- the state of a gathering: ahead (μ1, H1); now plain h, acc -/
structure Gat {α : Type} (W : Wd) (RA : RepAcc α) (D : Addr) (μ1 : List Addr) (H1 : Hp) (μ : List Addr) (h : MH) (H : Hp) (acc : α) : Prop where
  ext : Ext W.K μ1 H1 μ H
  rel : Rel W μ h H
  out : D ∉ μ
  at_ : ∃ o, H D = some o ∧ RA μ H acc o
structure AccOk {α : Type} (W : Wd) (RA : RepAcc α) : Prop where
  ext : ∀ {μ H μ' H' a o}, Ext W.K μ H μ' H' → RA μ H a o → RA μ' H' a o
  chg : ∀ {μ H a o}, RA μ H a o → isMut o = true
/-- a changeable place is changed: tuples stand -/
structure Stay (K : PySem.W.Frag) (H H' : Hp) : Prop where
  tp : ∀ a vs, H a = some (.tup vs) → H' a = some (.tup vs)
  st : ∀ a vs, SqT K H a vs → SqT K H' a vs
  sr : ∀ a vs, SqR K H a vs → SqR K H' a vs
theorem Stay.of {K : PySem.W.Frag} {D : Addr} {o o' : HO} (e : H D = some o) (m : isMut o = true) : Stay K H (upd H D o') := by
  have k : ∀ a u, H a = some u → isMut u = false → upd H D o' a = some u := fun a u q n => by
    rw [upd_ne fun z => ?_]
    · exact q
    · rw [z, e] at q
      cases q
      rw [m] at n; cases n
  refine ⟨fun a vs q => k a _ q rfl, fun a vs q => ?_, fun a vs q => ?_⟩
  · rcases q with (q | ⟨o, q⟩) | q
    · exact .inl (.inl (k _ _ q rfl))
    · exact .inl (.inr ⟨o, k _ _ q rfl⟩)
    · exact .inr q
  · rcases q with ⟨o, q⟩ | q
    · exact .inl ⟨o, k _ _ q rfl⟩
    · exact .inr q
section
variable {α : Type} {RA : RepAcc α} {D : Addr} {μ1 μ' : List Addr} {H1 H' : Hp} {h h' : MH} {acc acc' : α} {o' : HO}
theorem Gat.step (O : AccOk W RA) (G : Gat W RA D μ1 H1 μ h H acc) (E : Ext W.K μ H μ' H') (R : Rel W μ' h' H') : Gat W RA D μ1 H1 μ' h' H' acc := by
  obtain ⟨o, e, r⟩ := G.at_
  obtain ⟨n, e'⟩ := E.keep D o G.out e
  exact ⟨G.ext.trans E, R, n, o, e', O.ext E r⟩
theorem Gat.put (O : AccOk W RA) (hD : H1 D = none) (G : Gat W RA D μ1 H1 μ h H acc) (r' : RA μ (upd H D o') acc' o') : Gat W RA D μ1 H1 μ h (upd H D o') acc' := by
  obtain ⟨o, e, r⟩ := G.at_
  have S : Stay W.K H (upd H D o') := Stay.of e (O.chg r)
  refine ⟨⟨G.ext.pre, fun a u n q => ?_, fun a vs q => S.tp _ _ (G.ext.tp _ _ q), fun a vs q => S.st _ _ (G.ext.st _ _ q), fun a vs q => S.sr _ _ (G.ext.sr _ _ q)⟩, ?_, G.out, o', upd_same, r'⟩
  · obtain ⟨n', q'⟩ := G.ext.keep a u n q
    refine ⟨n', ?_⟩
    rw [upd_ne (ne_of_none q hD)]
    exact q'
  · exact ⟨G.rel.len, G.rel.nd, fun n a x e1 e2 => (G.rel.obj n a x e1 e2).imp (fun _ _ q => q) S.tp S.st S.sr fun u q => by
      rw [upd_ne fun z => G.out (by rw [← z]; exact List.mem_of_getElem? e1)]; exact q⟩
theorem Gat.putUp (O : AccOk W RA) (G : Gat W RA D μ1 H1 μ h H acc) : Up W.K μ H μ (upd H D o') := by
  obtain ⟨o, e, r⟩ := G.at_
  have S : Stay W.K H (upd H D o') := Stay.of e (O.chg r)
  exact ⟨List.prefix_refl _, S.tp, S.st, S.sr⟩
/-- gathered: the thing gets its number -/
theorem Gat.done (hD : H1 D = none) (G : Gat W RA D μ1 H1 μ h H acc) {m : MO} (hm : ∀ o, RA μ H acc o → H D = some o → RepO W μ H D m) : Ext W.K μ1 H1 (μ ++ [D]) H ∧ Rel W (μ ++ [D]) (h ++ [m]) H ∧ RepV W.K (μ ++ [D]) H (.ref h.length) (.ref D) := by
  obtain ⟨o, e, r⟩ := G.at_
  have hi : ∀ (n : Nat) (a : Addr), μ[n]? = some a → (μ ++ [D])[n]? = some a := fun n a q => by
    rw [List.getElem?_append_left (List.getElem?_eq_some_iff.mp q).1]; exact q
  refine ⟨⟨G.ext.pre.trans (List.prefix_append _ _), fun a u n q => ?_, G.ext.tp, G.ext.st, G.ext.sr⟩, ⟨by simp [G.rel.len], ?_, fun n a x e1 e2 => ?_⟩, D, by rw [← G.rel.len, List.getElem?_append_right (Nat.le_refl _)]; simp, rfl⟩
  · obtain ⟨n', q'⟩ := G.ext.keep a u n q
    refine ⟨fun z => ?_, q'⟩
    rcases List.mem_append.mp z with z | z
    · exact n' z
    · rw [List.mem_singleton.mp z, hD] at q; cases q
  · rw [List.nodup_append]
    exact ⟨G.rel.nd, by simp, fun a ha b hb => by rw [List.mem_singleton.mp hb]; intro z; rw [z] at ha; exact G.out ha⟩
  · by_cases hn : n < μ.length
    · rw [List.getElem?_append_left hn] at e1
      rw [List.getElem?_append_left (by rw [← G.rel.len]; exact hn)] at e2
      exact (G.rel.obj n a x e1 e2).imp hi (fun _ _ q => q) (fun _ _ q => q) (fun _ _ q => q) fun u q => q
    · have hn' : n = μ.length := by
        have := (List.getElem?_eq_some_iff.mp e1).1
        rw [List.length_append, List.length_singleton] at this
        omega
      subst hn'
      rw [List.getElem?_append_right (Nat.le_refl _)] at e1
      rw [G.rel.len, List.getElem?_append_right (Nat.le_refl _)] at e2
      simp at e1 e2
      subst e1 e2
      exact (hm o r e).imp hi (fun _ _ q => q) (fun _ _ q => q) (fun _ _ q => q) fun u q => q
end
/-- THE LOOP -/
theorem lp_ok {α : Type} {RA : RepAcc α} {D : Addr} {μ1 μs : List Addr} {H1 Hs : Hp} {s : Src} {J : It} {ok : List Addr → Hp → Prop} {g : TgD} {turn : Rho → α → MH → Res α} {own : List Nat} {ρ0 : Rho} {σ0 : L2.St} {m : Nat} {acc0 : α} {h0 : MH} {P : α → MH → Prop} {Fin : Hp → Prop} {BODY : (Hp → Prop) → L2.St → Hp → Prop}
    (O : AccOk W RA) (SI : SrcIt W s J ok) (ok0 : ok μs Hs) (S0 : RepS W.K μs Hs ρ0 σ0) (G0 : Gat W RA D μ1 H1 μs h0 Hs acc0) (Z0 : okEnd (lpF s g turn ρ0 m 0 acc0 h0) P)
    (hfin : ∀ μ h H acc, Up W.K μs Hs μ H → Gat W RA D μ1 H1 μ h H acc → P acc h → Fin H)
    (hbody : ∀ (Nx : Hp → Prop) μ h H acc ρ1 σ1 acc' h', Up W.K μs Hs μ H → Gat W RA D μ1 H1 μ h H acc → RepS W.K μ H ρ1 σ1 → turn ρ1 acc h = .ok acc' h' → (∀ μ' H', Up W.K μ H μ' H' → Gat W RA D μ1 H1 μ' h' H' acc' → Nx H') → BODY Nx σ1 H) :
    ∃ Wm : Nat → Nat → Hp → Prop, (∃ m, Wm 0 m Hs) ∧ ∀ i m H, Wm i m H → (J.stop i H ∧ Fin H) ∨ (J.go i H ∧ ∃ Nx : Hp → Prop, (∀ H', Nx H' → ∃ m', m' < m ∧ Wm (i + 1) m' H') ∧ ∀ x H', J.yld i H x H' → gRdW W own g x σ0 H' fun σ2 H2 => L2.wipe σ2 own = L2.wipe σ0 own ∧ BODY Nx σ2 H2) := by
  refine ⟨fun i m H => ∃ μ h acc, Up W.K μs Hs μ H ∧ Gat W RA D μ1 H1 μ h H acc ∧ okEnd (lpF s g turn ρ0 m i acc h) P, ⟨m, μs, h0, acc0, .refl, G0, Z0⟩, ?_⟩
  rintro i m H ⟨μ, h, acc, U, G, Z⟩
  have ok1 := SI.mono _ _ _ _ U ok0
  unfold lpF at Z
  cases ea : s.at h i with
  | none => simp only [ea] at Z; exact (okEnd_bad Z).elim
  | some o =>
    cases o with
    | none =>
      simp only [ea] at Z
      exact .inl ⟨SI.stop _ _ _ _ ok1 G.rel ea, hfin _ _ _ _ U G (okEnd_ok Z)⟩
    | some v =>
      simp only [ea] at Z
      obtain ⟨hgo, hy⟩ := SI.go _ _ _ _ _ ok1 G.rel ea
      refine .inr ⟨hgo, ?_⟩
      cases m with
      | zero => exact (okEnd_bad Z).elim
      | succ m =>
        refine ⟨fun H => ∃ μ h acc, Up W.K μs Hs μ H ∧ Gat W RA D μ1 H1 μ h H acc ∧ okEnd (lpF s g turn ρ0 m (i + 1) acc h) P, fun H' h' => ⟨m, Nat.lt_succ_self m, h'⟩, fun x H3 hx => ?_⟩
        obtain ⟨μ3, E3, R3, rx⟩ := hy x H3 hx
        cases eg : g v ρ0 with
        | none => simp only [eg] at Z; exact (okEnd_bad Z).elim
        | some ρ1 =>
          simp only [eg] at Z
          have G3 := G.step O E3 R3
          have U3 := U.trans E3.up
          refine ⟨v, ρ0, h, μ3, ρ1, R3, S0.up U3, rx, eg, fun μ4 H4 σ4 E4 R4 S4 w4 => ⟨w4, ?_⟩⟩
          cases et : turn ρ1 acc h with
          | ok acc' h' =>
            simp only [et] at Z
            have U4 := U3.trans E4.up
            exact hbody _ μ4 h H4 acc ρ1 σ4 acc' h' U4 (G3.step O E4 R4) S4 et fun μ' H' U' G' => ⟨μ', h', acc', U4.trans U', G', Z⟩
          | exc c v h' => simp only [et] at Z; exact (okEnd_bad Z).elim
          | bad => simp only [et] at Z; exact (okEnd_bad Z).elim
/-! ### lists -/
def RepL (W : Wd) : RepAcc (List PV) := fun μ H acc o => ∃ vs, o = .lst vs ∧ RepVs W.K μ H acc vs
theorem accL : AccOk W (RepL W) := ⟨fun E ⟨vs, e, r⟩ => ⟨vs, e, r.ext E⟩, fun ⟨vs, e, r⟩ => by rw [e] <;> rfl⟩
def bodyE (W : Wd) (D : Addr) (tt : DenB) (te : Den) : (Hp → Prop) → L2.St → Hp → Prop := fun Nx σ2 H2 => rdB W WxF tt σ2 H2 fun b H3 =>
    if b = true then rdE W WxF te σ2 H3 fun y H4 => ∃ acc, H4 D = some (.lst acc) ∧ acc.length < sizeLine ∧ Nx (upd H4 D (.lst (acc ++ [y]))) else Nx H3
theorem body_elt {D : Addr} {μ1 : List Addr} {H1 : Hp} {tt : DenB} {te : Den} (hD : H1 D = none) (Nx : Hp → Prop) {h : MH} {acc acc' : List PV} {ρ1 : Rho} {σ1 : L2.St} {h' : MH} (G : Gat W (RepL W) D μ1 H1 μ h H acc) (S : RepS W.K μ H ρ1 σ1) (e : tnElt tt te ρ1 acc h = .ok acc' h')
    (c : ∀ μ' H', Up W.K μ H μ' H' → Gat W (RepL W) D μ1 H1 μ' h' H' acc' → Nx H') : bodyE W D tt te Nx σ1 H := by
  refine ⟨ρ1, h, μ, G.rel, S, ?_⟩
  unfold tnElt at e
  cases e1 : tt ρ1 h with
  | exc c v h' => rw [e1] at e; cases e
  | bad => rw [e1] at e; cases e
  | ok b h1 =>
    simp only [e1] at e
    intro μ2 H2 x E2 R2 rx
    have rx : b = x := rx
    subst rx
    have G2 := G.step accL E2 R2
    cases b with
    | false =>
      cases e
      exact iteF (c _ _ E2.up G2)
    | true =>
      refine iteT ⟨ρ1, h1, μ2, R2, S.ext E2, ?_⟩
      simp only at e
      cases e2 : te ρ1 h1 with
      | exc c v h' => rw [e2] at e; cases e
      | bad => rw [e2] at e; cases e
      | ok y h2 =>
        simp only [e2] at e
        intro μ3 H3 x E3 R3 rx
        have G3 := G2.step accL E3 R3
        by_cases hz : acc.length < sizeLine
        · rw [if_pos hz] at e
          cases e
          obtain ⟨o, eo, vs, rfl, rv⟩ := G3.at_
          refine ⟨vs, eo, by rw [← rv.len]; exact hz, c μ3 _ ((E2.trans E3).up.trans (G3.putUp accL)) (G3.put accL hD ⟨_, rfl, ?_⟩)⟩
          have U := G3.putUp (o' := .lst (vs ++ [x])) accL
          exact (rv.up U).app (.one (rx.up U))
        · rw [if_neg hz] at e; cases e
theorem wipe_sub {σ : L2.St} {b : List Nat} : ∀ {a : List Nat}, (∀ i ∈ a, i ∈ b) → L2.wipe (L2.wipe σ a) b = L2.wipe σ b
  | [], _ => rfl
  | v :: a, h => by
    show L2.wipe ((L2.wipe σ a).set v none) b = _
    rw [wipe_set (h v List.mem_cons_self)]
    exact wipe_sub fun i hi => h i (List.mem_cons_of_mem _ hi)
theorem wipe_idem {σ : L2.St} {a : List Nat} : L2.wipe (L2.wipe σ a) a = L2.wipe σ a := wipe_sub fun _ h => h
/-- the second clause's loop -/
theorem body_in {D : Addr} {μ1 : List Addr} {H1 : Hp} {tt tt1 : DenB} {te : Den} {di : DenI} {g1 : TgD} {own1 : List Nat} (hD : H1 D = none) (Nx : Hp → Prop) {h : MH} {acc acc' : List PV} {ρ1 : Rho} {σ1 : L2.St} {h' : MH} (G : Gat W (RepL W) D μ1 H1 μ h H acc) (S : RepS W.K μ H ρ1 σ1) (e : tnIn tt di g1 own1 (tnElt tt1 te) ρ1 acc h = .ok acc' h')
    (c : ∀ μ' H', Up W.K μ H μ' H' → Gat W (RepL W) D μ1 H1 μ' h' H' acc' → Nx H') :
    rdB W WxF tt σ1 H fun b H3 => if b = true then rdI W WxF di σ1 H3 fun J1 H4 => ∃ W1 : Nat → Nat → Hp → Prop, (∃ m, W1 0 m H4) ∧ ∀ j k H, W1 j k H →
      (J1.stop j H ∧ Nx H) ∨ (J1.go j H ∧ ∃ Nx1 : Hp → Prop, (∀ H', Nx1 H' → ∃ k', k' < k ∧ W1 (j + 1) k' H') ∧ ∀ x H', J1.yld j H x H' → gRdW W own1 g1 x (L2.wipe σ1 own1) H' fun σ3 H5 => L2.wipe σ3 own1 = L2.wipe σ1 own1 ∧ bodyE W D tt1 te Nx1 σ3 H5)
    else Nx H3 := by
  refine ⟨ρ1, h, μ, G.rel, S, ?_⟩
  unfold tnIn at e
  cases e1 : tt ρ1 h with
  | exc c v h' => rw [e1] at e; cases e
  | bad => rw [e1] at e; cases e
  | ok b h1 =>
    simp only [e1] at e
    intro μ2 H2 x E2 R2 rx
    have rx : b = x := rx
    subst rx
    have G2 := G.step accL E2 R2
    cases b with
    | false =>
      cases e
      exact iteF (c _ _ E2.up G2)
    | true =>
      refine iteT ⟨ρ1, h1, μ2, R2, S.ext E2, ?_⟩
      simp only at e
      cases e2 : di ρ1 h1 with
      | exc c v h' => rw [e2] at e; cases e
      | bad => rw [e2] at e; cases e
      | ok s h2 =>
        simp only [e2] at e
        intro μ3 H3 J1 ok E3 R3 SI hok
        have G3 := G2.step accL E3 R3
        have S3 := (S.ext E2).ext E3
        have q := lp_ok (own := own1) (σ0 := L2.wipe σ1 own1) (Fin := Nx) (BODY := bodyE W D tt1 te) (P := fun a b => a = acc' ∧ b = h') accL SI hok (S3.wipe own1) G3 ⟨acc', h', e, rfl, rfl⟩
          (fun μ' h'' H' acc'' U' G' p => by
            obtain ⟨rfl, rfl⟩ := p
            exact c μ' H' ((E2.trans E3).up.trans U') G')
          (fun Nx μ' h'' H' acc'' ρ' σ' acc3 h3 _ G' S' e' c' => body_elt hD Nx G' S' e' c')
        rw [wipe_idem] at q
        exact q
section
variable {Wx : WX} {tg iter elt : Expr} {ifs : List Expr} {scope : Scope} {own : List (Str × Nat)} {pos : Pos} {di : DenI} {g : TgD} {tt : DenB} {te : Den}
theorem gat0 {D : Addr} {μ1 : List Addr} {H1 : Hp} {h1 : MH} (R1 : Rel W μ1 h1 H1) (hD : H1 D = none) : Gat W (RepL W) D μ1 H1 μ1 h1 (upd H1 D (.lst [])) [] :=
  ⟨Ext.fresh R1 hD, R1.fresh hD, R1.free hD, _, upd_same, [], rfl, rfl⟩
theorem gatL_done {D : Addr} {μ μ1 : List Addr} {H H1 : Hp} {h : MH} {acc : List PV} (hD : H1 D = none) (G : Gat W (RepL W) D μ1 H1 μ h H acc) : Ext W.K μ1 H1 (μ ++ [D]) H ∧ Rel W (μ ++ [D]) (h ++ [.lst acc]) H ∧ RepV W.K (μ ++ [D]) H (.ref h.length) (.ref D) :=
  G.done hD fun o ⟨vs, e, r⟩ eH => ⟨vs, by rw [eH, e], r⟩
/-- what a comprehension's reading comes to -/
theorem lc_read {own : List Nat} {turn : Rho → List PV → MH → Res (List PV)} {BODY : Addr → (Hp → Prop) → L2.St → Hp → Prop} {σ : L2.St} {H : Hp} {Q : VK} (h : rdE W Wx (dLc di own g turn) σ H Q)
    (hb : ∀ (D : Addr) μ1 H1 (Nx : Hp → Prop) μ h H acc ρ1 σ1 acc' h', H1 D = none → Gat W (RepL W) D μ1 H1 μ h H acc → RepS W.K μ H ρ1 σ1 → turn ρ1 acc h = .ok acc' h' → (∀ μ' H', Up W.K μ H μ' H' → Gat W (RepL W) D μ1 H1 μ' h' H' acc' → Nx H') → BODY D Nx σ1 H) :
    rdI W Wx di σ H fun J H1 => ∀ D, H1 D = none → ∃ Wm : Nat → Nat → Hp → Prop, (∃ m, Wm 0 m (upd H1 D (.lst []))) ∧ ∀ i m H, Wm i m H → (J.stop i H ∧ Q (.ref D) H) ∨ (J.go i H ∧ ∃ Nx : Hp → Prop, (∀ H', Nx H' → ∃ m', m' < m ∧ Wm (i + 1) m' H') ∧ ∀ x H', J.yld i H x H' → gRdW W own g x (L2.wipe σ own) H' fun σ2 H2 => L2.wipe σ2 own = L2.wipe σ own ∧ BODY D Nx σ2 H2) := by
  obtain ⟨ρ, h0, μ, r, s, z⟩ := h
  refine ⟨ρ, h0, μ, r, s, ?_⟩
  have z : wp W (repV W) μ H ((di ρ h0).bind fun s h1 => (match lpF s g turn (wipeR ρ own) (s.size h1) 0 [] h1 with
    | .ok acc h2 => .ok (.ref h2.length) (h2 ++ [.lst acc])
    | _ => .bad)) (fun c d H' => Wx c d σ H') Q := z
  cases e0 : di ρ h0 with
  | bad => rw [e0] at z; exact z
  | exc c v h' => rw [e0] at z; exact z
  | ok S h1 =>
    rw [e0] at z
    intro μ1 H1 J ok E1 R1 SI hok D hD
    have z : wp W (repV W) μ H (match lpF S g turn (wipeR ρ own) (S.size h1) 0 [] h1 with
      | .ok acc h2 => .ok (.ref h2.length) (h2 ++ [.lst acc])
      | _ => .bad) (fun c d H' => Wx c d σ H') Q := z
    cases e1 : lpF S g turn (wipeR ρ own) (S.size h1) 0 [] h1 with
    | exc c v h' => rw [e1] at z; exact z.elim
    | bad => rw [e1] at z; exact z.elim
    | ok accF hF =>
      rw [e1] at z
      have z : Post W (repV W) μ H (hF ++ [.lst accF]) (.ref hF.length) Q := z
      have E2 : Ext W.K μ1 H1 μ1 (upd H1 D (.lst [])) := Ext.fresh R1 hD
      have q := lp_ok (own := own) (σ0 := L2.wipe σ own) (Fin := fun H => Q (.ref D) H) (BODY := BODY D) (P := fun a b => a = accF ∧ b = hF) accL SI (SI.mono _ _ _ _ E2.up hok) (((s.ext E1).ext E2).wipe own) (gat0 R1 hD) ⟨accF, hF, e1, rfl, rfl⟩
        (fun μ' h'' H' acc'' U' G' p => by
          obtain ⟨rfl, rfl⟩ := p
          obtain ⟨a, b, c⟩ := gatL_done hD G'
          exact z _ _ _ (E1.trans a) b c)
        (fun Nx μ' h'' H' acc'' ρ' σ' acc3 h3 _ G' S' e' c' => hb D μ1 H1 Nx _ _ _ _ _ _ _ _ hD G' S' e' c')
      rw [wipe_idem] at q
      exact q
abbrev BK (X : Cx) (scope : Scope) : Cx → Prop := fun Y => ∃ (s : Shared) (H : Hp) (C : Addr) (cl : List (Str × Addr)) (fp : List Addr), Y = X.blk s H scope (compEnvC scope cl C X.env) fp
theorem se_lc (hc : X.calm = true) (hN : X.N.Nodup) (hi : PI X tg iter (rdI W Wx di)) (ok : BlkOk X.N X.env.scope scope own) (hg : ∀ Y, BK X scope Y → PG Y tg (gRdW W (own.map (·.2)) g)) (ht : ∀ Y, BK X scope Y → PTs Y ifs (rdB W WxF tt)) (he : ∀ Y, BK X scope Y → PE Y elt (rdE W WxF te)) (hs : ∀ x, foldedSetIterable iter X.env x = pure x) :
    PE X (.ListComp elt [⟨tg, iter, ifs, 0⟩] scope pos) (rdE W Wx (dLc di (own.map (·.2)) g (tnElt tt te))) := by
  refine PE.imp (pe_lc hc hN hi ok (fun _ _ _ _ _ => hg _ ⟨_, _, _, _, _, rfl⟩) (fun _ _ _ _ _ => ht _ ⟨_, _, _, _, _, rfl⟩) (fun _ _ _ _ _ => he _ ⟨_, _, _, _, _, rfl⟩) hs) fun σ H Q h => ?_
  exact lc_read (BODY := fun D => bodyE W D tt te) h fun D μ1 H1 Nx μ h H acc ρ1 σ1 acc' h' hD G S e c => body_elt hD Nx G S e c
theorem ss_setLc {i : Nat} {y : Str} {py spos : Pos} (hc : X.calm = true) (hN : X.N.Nodup) (hy : X.N[i]? = some y) (hyl : X.env.scope.names.lookup y = some .local) (hsw : swapsWith (.ListComp elt [⟨tg, iter, ifs, 0⟩] scope pos) (some (.Name y py)) spos.line X.env = pure true)
    (hi : PI X tg iter (rdI W Wx di)) (ok : BlkOk X.N X.env.scope scope own) (hg : ∀ Y, BK X scope Y → PG Y tg (gRdW W (own.map (·.2)) g)) (ht : ∀ Y, BK X scope Y → PTs Y ifs (rdB W WxF tt)) (he : ∀ Y, BK X scope Y → PE Y elt (rdE W WxF te)) (hs : ∀ x, foldedSetIterable iter X.env x = pure x) :
    PS X (.Assign [.Name y py] (.ListComp elt [⟨tg, iter, ifs, 0⟩] scope pos) spos) (rdS W Wx (sAsg (dLc di (own.map (·.2)) g (tnElt tt te)) (gSet i))) := by
  refine PS.imp (ps_setLc hc hN hy hyl hsw hi ok (fun _ _ _ _ _ => hg _ ⟨_, _, _, _, _, rfl⟩) (fun _ _ _ _ _ => ht _ ⟨_, _, _, _, _, rfl⟩) (fun _ _ _ _ _ => he _ ⟨_, _, _, _, _, rfl⟩) hs) fun D σ H h => ?_
  obtain ⟨ρ, h0, μ, r, s, z⟩ := rdS_bind (R := repV W) (k := fun ρ v h1 => match gSet i v ρ with
    | some ρ' => .nx ρ' h1
    | none => .bad) h
  have h2 : rdE W Wx (dLc di (own.map (·.2)) g (tnElt tt te)) σ H (fun x H1 => D.nx (σ.set i (some x)) H1) := ⟨ρ, h0, μ, r, s, wp_imp z (fun _ _ _ z => z) fun x H1 z => by
    obtain ⟨ρ1, p, μ1, h1, a1, rp, z⟩ := z
    exact z μ1 H1 _ Ext.refl a1.rel (a1.reps.set i rp)⟩
  exact lc_read (BODY := fun D => bodyE W D tt te) h2 fun D μ1 H1 Nx μ h H acc ρ1 σ1 acc' h' hD G S e c => body_elt hD Nx G S e c
variable {tg1 iter1 : Expr} {ifs1 : List Expr} {di1 : DenI} {g1 : TgD} {tt1 : DenB} {own1 : List Nat}
theorem se_lc2 (hc : X.calm = true) (hN : X.N.Nodup) (hi : PI X tg iter (rdI W Wx di)) (ok : BlkOk X.N X.env.scope scope own) (hv : ∀ i ∈ own1, i ∈ own.map (·.2)) (hg : ∀ Y, BK X scope Y → PG Y tg (gRdW W (own.map (·.2)) g)) (ht : ∀ Y, BK X scope Y → PTs Y ifs (rdB W WxF tt))
    (hi1 : ∀ Y, BK X scope Y → PI Y tg1 iter1 (rdI W WxF di1)) (hg1 : ∀ Y, BK X scope Y → PG Y tg1 (gRdW W own1 g1)) (ht1 : ∀ Y, BK X scope Y → PTs Y ifs1 (rdB W WxF tt1)) (he : ∀ Y, BK X scope Y → PE Y elt (rdE W WxF te)) (hs : ∀ x, foldedSetIterable iter X.env x = pure x) (hs1 : ∀ env x, foldedSetIterable iter1 env x = pure x) :
    PE X (.ListComp elt [⟨tg, iter, ifs, 0⟩, ⟨tg1, iter1, ifs1, 0⟩] scope pos) (rdE W Wx (dLc di (own.map (·.2)) g (tnIn tt di1 g1 own1 (tnElt tt1 te)))) := by
  refine PE.imp (pe_lc2 hc hN hi ok hv (fun _ _ _ _ _ => hg _ ⟨_, _, _, _, _, rfl⟩) (fun _ _ _ _ _ => ht _ ⟨_, _, _, _, _, rfl⟩) (fun _ _ _ _ _ => hi1 _ ⟨_, _, _, _, _, rfl⟩) (fun _ _ _ _ _ => hg1 _ ⟨_, _, _, _, _, rfl⟩) (fun _ _ _ _ _ => ht1 _ ⟨_, _, _, _, _, rfl⟩) (fun _ _ _ _ _ => he _ ⟨_, _, _, _, _, rfl⟩) hs hs1) fun σ H Q h => ?_
  exact lc_read h fun D μ1 H1 Nx μ h H acc ρ1 σ1 acc' h' hD G S e c => body_in hD Nx G S e c
theorem ss_setLc2 {i : Nat} {y : Str} {py spos : Pos} (hc : X.calm = true) (hN : X.N.Nodup) (hy : X.N[i]? = some y) (hyl : X.env.scope.names.lookup y = some .local) (hsw : swapsWith (.ListComp elt [⟨tg, iter, ifs, 0⟩, ⟨tg1, iter1, ifs1, 0⟩] scope pos) (some (.Name y py)) spos.line X.env = pure true)
    (hi : PI X tg iter (rdI W Wx di)) (ok : BlkOk X.N X.env.scope scope own) (hv : ∀ i ∈ own1, i ∈ own.map (·.2)) (hg : ∀ Y, BK X scope Y → PG Y tg (gRdW W (own.map (·.2)) g)) (ht : ∀ Y, BK X scope Y → PTs Y ifs (rdB W WxF tt))
    (hi1 : ∀ Y, BK X scope Y → PI Y tg1 iter1 (rdI W WxF di1)) (hg1 : ∀ Y, BK X scope Y → PG Y tg1 (gRdW W own1 g1)) (ht1 : ∀ Y, BK X scope Y → PTs Y ifs1 (rdB W WxF tt1)) (he : ∀ Y, BK X scope Y → PE Y elt (rdE W WxF te)) (hs : ∀ x, foldedSetIterable iter X.env x = pure x) (hs1 : ∀ env x, foldedSetIterable iter1 env x = pure x) :
    PS X (.Assign [.Name y py] (.ListComp elt [⟨tg, iter, ifs, 0⟩, ⟨tg1, iter1, ifs1, 0⟩] scope pos) spos) (rdS W Wx (sAsg (dLc di (own.map (·.2)) g (tnIn tt di1 g1 own1 (tnElt tt1 te))) (gSet i))) := by
  refine PS.imp (ps_setLc2 hc hN hy hyl hsw hi ok hv (fun _ _ _ _ _ => hg _ ⟨_, _, _, _, _, rfl⟩) (fun _ _ _ _ _ => ht _ ⟨_, _, _, _, _, rfl⟩) (fun _ _ _ _ _ => hi1 _ ⟨_, _, _, _, _, rfl⟩) (fun _ _ _ _ _ => hg1 _ ⟨_, _, _, _, _, rfl⟩) (fun _ _ _ _ _ => ht1 _ ⟨_, _, _, _, _, rfl⟩) (fun _ _ _ _ _ => he _ ⟨_, _, _, _, _, rfl⟩) hs hs1) fun D σ H h => ?_
  obtain ⟨ρ, h0, μ, r, s, z⟩ := rdS_bind (R := repV W) (k := fun ρ v h1 => match gSet i v ρ with
    | some ρ' => .nx ρ' h1
    | none => .bad) h
  have h2 : rdE W Wx (dLc di (own.map (·.2)) g (tnIn tt di1 g1 own1 (tnElt tt1 te))) σ H (fun x H1 => D.nx (σ.set i (some x)) H1) := ⟨ρ, h0, μ, r, s, wp_imp z (fun _ _ _ z => z) fun x H1 z => by
    obtain ⟨ρ1, p, μ1, h1, a1, rp, z⟩ := z
    exact z μ1 H1 _ Ext.refl a1.rel (a1.reps.set i rp)⟩
  exact lc_read h2 fun D μ1 H1 Nx μ h H acc ρ1 σ1 acc' h' hD G S e c => body_in hD Nx G S e c
end
end
end Mi

/-! ## Call: what a call drops, defs -/
namespace Mi
open PySem PySem.Spec PyProof.Rows L2
section
variable {W : Wd} {K : PySem.W.Frag} {μ μ' μ0 : List Addr} {H H' H0 : Hp} {h h' h0 : MH}
mutual
theorem RepV.lt : ∀ {v : PV} {x : V}, RepV K μ H v x → PV.lt μ.length v = true
  | .non, _, _ => rfl
  | .bl _, _, _ => rfl
  | .int _, _, _ => rfl
  | .str _, _, _ => rfl
  | .tup xs, _, r => let ⟨a, vs, e, s, q⟩ := r; RepVs.lt q
  | .kt xs, _, r => let ⟨a, vs, e, s, q⟩ := r; RepVs.lt q
  | .rol xs, _, r => let ⟨a, vs, e, s, q⟩ := r; RepVs.lt q
  | .ref n, _, r => let ⟨a, e, q⟩ := r; Nat.ble_eq_true_of_le (List.getElem?_eq_some_iff.mp e).1
theorem RepVs.lt : ∀ {vs : List PV} {xs : List V}, RepVs K μ H vs xs → PV.ltAll μ.length vs = true
  | [], _, _ => rfl
  | v :: vs, _, r => by
    obtain ⟨x, q, e, r1, r2⟩ := r
    show (PV.lt μ.length v && PV.ltAll μ.length vs) = true
    rw [RepV.lt r1, RepVs.lt r2] <;> rfl
end
theorem RepFs.lt {fs : List (Str × PV)} {gs : List (Str × V)} (r : RepFs K μ H fs gs) : (fs.all fun p => PV.lt μ.length p.2) = true := by
  induction r with
  | nil => rfl
  | cons r _ ih => rw [List.all_cons, RepV.lt r, ih] <;> rfl
theorem pvK_lt (k : Key) (n : Nat) : PV.lt n (pvK k) = true := by cases k <;> rfl
theorem pvKs_lt (n : Nat) : ∀ ks : List Key, PV.ltAll n (ks.map pvK) = true
  | [] => rfl
  | k :: ks => by
    show (PV.lt n (pvK k) && PV.ltAll n (ks.map pvK)) = true
    rw [pvK_lt, pvKs_lt n ks] <;> rfl
theorem RepKs.lt {fs : List (PV × PV)} {gs : List (Key × V)} (r : RepKs K μ H fs gs) : (fs.all fun p => PV.lt μ.length p.1 && PV.lt μ.length p.2) = true := by
  induction r with
  | nil => rfl
  | cons r _ ih => rw [List.all_cons, RepV.lt r, ih, pvK_lt] <;> rfl
theorem RepTs.lt {fs : List (PV × PV)} {gs : List (List Key × V)} (r : RepTs K μ H fs gs) : (fs.all fun p => PV.lt μ.length p.1 && PV.lt μ.length p.2) = true := by
  induction r with
  | nil => rfl
  | @cons k v x fs gs r _ ih =>
    rw [List.all_cons, RepV.lt r, ih, show PV.lt μ.length (.tup (k.map pvK)) = true from pvKs_lt _ k] <;> rfl
theorem RepO.lt {a : Addr} {o : MO} (r : RepO W μ H a o) : MO.lt μ.length o = true := by
  cases o with
  | lst xs => obtain ⟨vs, e, q⟩ := r; exact q.lt
  | dic kvs =>
    rcases r with ⟨l, e, q⟩ | ⟨l, e, q⟩
    · exact q.lt
    · exact q.lt
  | ins c fs => obtain ⟨dx, gs, e, q⟩ := r; exact q.lt
theorem gc_ok {v : PV} {x : V} (R0 : Rel W μ0 h0 H0) (E : Ext W.K μ0 H0 μ' H') (R : Rel W μ' h' H') (r : RepV W.K μ' H' v x) :
    ∃ μ2, Ext W.K μ0 H0 μ2 H' ∧ Rel W μ2 (gc h0 v h').2 H' ∧ RepV W.K μ2 H' (gc h0 v h').1 x := by
  unfold gc
  by_cases h1 : h'.length = h0.length
  · rw [if_pos h1]; exact ⟨μ', E, R, r⟩
  rw [if_neg h1]
  by_cases h2 : h'.take h0.length = h0
  · rw [if_pos h2]
    have et : μ'.take h0.length = μ0 := by
      obtain ⟨t, rfl⟩ := E.pre
      rw [← R0.len, List.take_left' rfl]
    have base : Rel W μ0 h0 H' := ⟨R0.len, R0.nd, fun n a o e1 e2 => by
      have hn : n < h0.length := (List.getElem?_eq_some_iff.mp e2).1
      have e3 : h'[n]? = some o := by
        rw [← h2, List.getElem?_take_of_lt hn] at e2
        exact e2
      have q := R.obj n a o (E.at e1) e3
      have l := (R0.obj n a o e1 e2).lt
      rw [R0.len] at l
      have q2 := q.cut l
      rw [et] at q2
      exact q2⟩
    have E0 : Ext W.K μ0 H0 μ0 H' := ⟨List.prefix_refl _, fun a o n e => ⟨n, (E.keep a o n e).2⟩, E.tp, E.st, E.sr⟩
    by_cases h3 : PV.lt h0.length v = true
    · rw [if_pos h3]
      refine ⟨μ0, E0, base, ?_⟩
      have q := r.cut h3
      rw [et] at q
      exact q
    · rw [if_neg h3]
      cases v with
      | ref m =>
        cases hm : h'[m]? with
        | none => exact ⟨μ', E, by simpa [hm] using R, by simpa [hm] using r⟩
        | some o =>
          by_cases h4 : MO.lt h0.length o = true
          · obtain ⟨a, ha, rfl⟩ := r
            have hge : μ0.length ≤ m := by
              rw [R0.len]
              refine Nat.le_of_not_lt fun z => h3 ?_
              exact Nat.ble_eq_true_of_le z
            have na : a ∉ μ0 := fun z => by
              obtain ⟨i, hi, e⟩ := List.mem_iff_getElem.mp z
              have e1 : μ'[i]? = some a := E.at (by rw [List.getElem?_eq_getElem hi, e])
              have := nodup_at R.nd e1 ha
              omega
            have E1 : Ext W.K μ0 H0 (μ0 ++ [a]) H' := by
              refine ⟨List.prefix_append _ _, fun b o n e => ⟨fun z => ?_, (E.keep b o n e).2⟩, E.tp, E.st, E.sr⟩
              rcases List.mem_append.mp z with z | z
              · exact n z
              · rw [List.mem_singleton.mp z] at n e
                exact (E.keep a o n e).1 (List.mem_of_getElem? ha)
            have R1 : Rel W (μ0 ++ [a]) (h0 ++ [o]) H' := by
              have hm' : ∀ (n : Nat) (b : Addr), μ0[n]? = some b → (μ0 ++ [a])[n]? = some b := fun n b q => by
                rw [List.getElem?_append_left (List.getElem?_eq_some_iff.mp q).1]; exact q
              refine ⟨by simp [R0.len], ?_, fun n b x e1 e2 => ?_⟩
              · rw [List.nodup_append]
                exact ⟨R0.nd, by simp, fun b hb c hc => by rw [List.mem_singleton.mp hc]; intro z; rw [z] at hb; exact na hb⟩
              · by_cases hn : n < μ0.length
                · rw [List.getElem?_append_left hn] at e1
                  rw [List.getElem?_append_left (by rw [← R0.len]; exact hn)] at e2
                  exact (base.obj n b x e1 e2).imp hm' (fun _ _ q => q) (fun _ _ q => q) (fun _ _ q => q) fun _ q => q
                · have hn' : n = μ0.length := by
                    have := (List.getElem?_eq_some_iff.mp e1).1
                    rw [List.length_append, List.length_singleton] at this
                    omega
                  subst hn'
                  rw [List.getElem?_append_right (Nat.le_refl _)] at e1
                  rw [R0.len, List.getElem?_append_right (Nat.le_refl _)] at e2
                  simp at e1 e2
                  subst e1 e2
                  have q := (R.obj m a o ha hm).cut h4
                  rw [et] at q
                  exact q.imp hm' (fun _ _ q => q) (fun _ _ q => q) (fun _ _ q => q) fun _ q => q
            refine ⟨μ0 ++ [a], E1, by simpa [hm, h4] using R1, ?_⟩
            have q : RepV W.K (μ0 ++ [a]) H' (.ref h0.length) (.ref a) := ⟨a, by rw [← R0.len, List.getElem?_append_right (Nat.le_refl _)]; simp, rfl⟩
            simpa [hm, h4] using q
          · exact ⟨μ', E, by simpa [hm, h4] using R, by simpa [hm, h4] using r⟩
      | _ => exact ⟨μ', E, R, r⟩
  · rw [if_neg h2]; exact ⟨μ', E, R, r⟩
end

/-- a def's promise: its plain meaning -/
def spF (W : Wd) (n : Nat) (g : List PV → MH → Res PV) : Sp := fun vs H Q E => vs.length = n ∧ ∃ ps μ h, Rel W μ h H ∧ RepVs W.K μ H ps vs ∧ wp W (repV W) μ H (g ps h) E Q
def Res.gc (h0 : MH) (v : PV) (h : MH) : Res PV := .ok (Mi.gc h0 v h).1 (Mi.gc h0 v h).2
def startR (n : Nat) (ps : List PV) : Rho := ps.map some ++ List.replicate (n - ps.length) none
/-- a def's body, from its arguments -/
def runB (n : Nat) (b : DenS) : List PV → MH → Res PV := fun ps h => match b (startR n ps) h with
  | .nx _ h' => Res.gc h .non h'
  | .rt v h' => Res.gc h v h'
  | .exc c v _ h' => .exc c (Mi.gc h v h').1 (Mi.gc h v h').2
  | _ => .bad
def dCall (g : List PV → MH → Res PV) (l : DenL) : Den := fun ρ h => (l ρ h).bind g
section
variable {W : Wd} {K : PySem.W.Frag} {μ : List Addr} {H : Hp} {h : MH}
theorem repS_start {ps : List PV} {vs : List V} {N : List Str} (r : RepVs K μ H ps vs) : RepS K μ H (startR N.length ps) (L2.start N vs) := by
  have hl := r.len
  refine ⟨?_, fun i v e => ?_⟩
  · unfold startR L2.start
    rw [List.length_append, List.length_append, List.length_map, List.length_map, List.length_replicate, List.length_replicate, hl]
  · unfold startR at e
    by_cases hi : i < ps.length
    · rw [List.getElem?_append_left (by simpa using hi), List.getElem?_map] at e
      cases q : ps[i]? with
      | none => rw [q] at e; cases e
      | some p =>
        rw [q] at e
        cases e
        obtain ⟨x, hx, rx⟩ := r.get q
        refine ⟨x, ?_, rx⟩
        unfold L2.start
        rw [List.getElem?_append_left (by rw [List.length_map, ← hl]; exact hi), List.getElem?_map, hx]
        rfl
    · rw [List.getElem?_append_right (by simpa using hi), List.getElem?_replicate] at e
      split at e <;> cases e
end
section
variable {W : Wd} {P : Program} {w : World} {K : PySem.W.Frag} {mg : Str → Option Value} {base : Heap}
/-- THE RULE for a def: its body's meaning is its meaning -/
theorem fn_ok {x qual : Str} {params : Arguments} {body : List Stmt} {scope : Scope} {dvs : List V} {kws : List (Str × V)} {f : Addr} {fd : FuncData} {N ps : List Str} {k : Nat} {b : DenS}
    (F : FunD K x qual params body scope dvs kws f fd) (S : FnScope N ps scope)
    (hb : ∀ (cdv : Value) (A : Around) (outer : List Env) (s : Shared) (H : Hp) (E : XK), Room k (A.deeper (envOfC qual scope s.heap.objs.size f cdv)) →
      PSs (cxOf (L2.CX P w) P w K mg base N qual scope f cdv A outer s H E) body (rdS W (fun c d _ H' => E c d H') b)) :
    FnOk P w K mg base (L2.CX P w) (k + 1) f fd ps (spF W ps.length (runB N.length b)) := by
  refine F.ok S (fun vs H Q E h => h.1) fun cdv A outer s H vs Q E hr h => ?_
  obtain ⟨hl, pv, μ, h0, R, rv, z⟩ := h
  refine ⟨_, hb cdv A outer s H E hr, startR N.length pv, h0, μ, R, repS_start rv, ?_⟩
  unfold runB at z
  cases e : b (startR N.length pv) h0 with
  | nx ρ' h' =>
    simp only [e] at z
    intro μ' H' σ' E1 R1 S1
    obtain ⟨μ2, E2, R2, r2⟩ := gc_ok (v := PV.non) (x := V.non) R E1 R1 rfl
    exact z μ2 H' .non E2 R2 r2
  | rt v h' =>
    simp only [e] at z
    intro μ' H' y E1 R1 r1
    obtain ⟨μ2, E2, R2, r2⟩ := gc_ok R E1 R1 r1
    exact z μ2 H' y E2 R2 r2
  | bk ρ' h' => simp only [e] at z; exact z.elim
  | ct ρ' h' => simp only [e] at z; exact z.elim
  | exc c v ρ' h' =>
    simp only [e] at z
    intro μ' H' σ' d y E1 R1 S1 hd r1
    obtain ⟨μ2, E2, R2, r2⟩ := gc_ok R E1 R1 r1
    exact z μ2 H' d y E2 R2 hd r2
  | bad => simp only [e] at z; exact z.elim
end
section
variable {X : Cx} {W : Wd} {Wx : WX} {e : Expr} {es : List Expr} {da : Den} {la : DenL} {pos p : Pos} {k n : Nat} {f : Addr} {fd : FuncData} {ps : List Str} {g : List PV → MH → Res PV} {x : Str}
theorem call_read {σ : L2.St} {H : Hp} {Q : VK} (hn : ∀ {vs : List PV} {h h' : MH} {ρ : Rho}, la ρ h = .ok vs h' → vs.length = n) (h : rdE W Wx (dCall g la) σ H Q) : tCallSD (spF W n g) [] (WE Wx) (rdL W Wx la) σ H Q := by
  obtain ⟨ρ, h0, μ, r, s, z⟩ := h
  refine ⟨ρ, h0, μ, r, s, ?_⟩
  have z : wp W (repV W) μ H ((la ρ h0).bind g) (fun c d H' => Wx c d σ H') Q := z
  cases e : la ρ h0 with
  | bad => rw [e] at z; exact z
  | exc c v h' => rw [e] at z; exact z
  | ok vs h1 =>
    rw [e] at z
    intro μ1 H1 xs E1 R1 r1
    rw [List.append_nil]
    have hl : xs.length = n := (RepVs.len r1).symm.trans (hn e)
    exact ⟨hl, vs, μ1, h1, R1, r1, wp_ext E1 z⟩
theorem lCons_len {da : Den} {l : DenL} {m : Nat} (hl : ∀ {vs : List PV} {h h' : MH} {ρ : Rho}, l ρ h = .ok vs h' → vs.length = m) : ∀ {vs : List PV} {h h' : MH} {ρ : Rho}, lCons da l ρ h = .ok vs h' → vs.length = m + 1 := fun {vs h h' ρ} e => by
  unfold lCons at e
  cases e1 : da ρ h with
  | ok v h1 =>
    rw [e1] at e
    have e : ((l ρ h1).bind fun xs h2 => Res.ok (v :: xs) h2) = .ok vs h' := e
    cases e2 : l ρ h1 with
    | ok xs h2 =>
      rw [e2] at e
      have e : Res.ok (v :: xs) h2 = .ok vs h' := e
      injection e with e3 _
      rw [← e3, List.length_cons, hl e2]
    | exc c v h' => rw [e2] at e; cases e
    | bad => rw [e2] at e; cases e
  | exc c v h' => rw [e1] at e; cases e
  | bad => rw [e1] at e; cases e
theorem se_call (F : FnOk X.prog X.w X.K X.mg X.base (L2.CX X.prog X.w) k f fd ps (spF W ps.length g)) (hr : Room k X.A) (tk : Takes X Wx) (hg : Gl X x) (hm : X.mg x = some (.ref f)) (hk : PySem.W.keepIn X.K (.ref f) = true) (hb : Binds X.K fd ps [])
    (ha : PA X (e :: es) (rdL W Wx la)) (hn : ∀ {vs : List PV} {h h' : MH} {ρ : Rho}, la ρ h = .ok vs h' → vs.length = ps.length) (hdb : (x == ("__debug__" : Str)) = false) (he : starEach (e :: es) X.env = (false, eval e X.env) :: starEach es X.env) (hpl : (backTo pos (starEach es X.env)).any (·.1) = false) :
    PE X (.Call (.Name x p) (e :: es) [] pos) (rdE W Wx (dCall g la)) :=
  PE.imp (pe_callSD (E := WE Wx) F hr hg hm hk hb .nil (fun σ => passAt tk σ) ha hdb he hpl) fun _ _ _ h => call_read hn h
end
end Mi

/-! ## Bi: built-in functions, subscripts, slices, methods of lists -/
namespace Mi
open PySem PySem.Spec PyProof.Rows L2

def one : List PV → Option PV
  | [p] => some p
  | _ => none
def two : List PV → Option (PV × PV)
  | [p, q] => some (p, q)
  | _ => none
theorem one_some {xs : List PV} {p : PV} (h : one xs = some p) : xs = [p] := by
  cases xs with
  | nil => cases h
  | cons a r =>
    cases r with
    | nil => cases h; rfl
    | cons _ _ => cases h
theorem two_some {xs : List PV} {p : PV × PV} (h : two xs = some p) : xs = [p.1, p.2] := by
  cases xs with
  | nil => cases h
  | cons a r =>
    cases r with
    | nil => cases h
    | cons b r2 =>
      cases r2 with
      | nil => cases h; rfl
      | cons _ _ => cases h
def u1 (f : PV → MH → VR) (xs : List PV) (h : MH) : VR := match one xs with
  | some p => f p h
  | none => none
def u2 (f : PV → PV → MH → VR) (xs : List PV) (h : MH) : VR := match two xs with
  | some p => f p.1 p.2 h
  | none => none
theorem u1_some {f : PV → MH → VR} {xs : List PV} {h : MH} {r : PV × MH} (e : u1 f xs h = some r) : ∃ p, xs = [p] ∧ f p h = some r := by
  unfold u1 at e
  cases q : one xs with
  | none => rw [q] at e; cases e
  | some p => rw [q] at e; exact ⟨p, one_some q, e⟩
theorem u2_some {f : PV → PV → MH → VR} {xs : List PV} {h : MH} {r : PV × MH} (e : u2 f xs h = some r) : ∃ p q, xs = [p, q] ∧ f p q h = some r := by
  unfold u2 at e
  cases q : two xs with
  | none => rw [q] at e; cases e
  | some p => rw [q] at e; exact ⟨p.1, p.2, two_some q, e⟩
def lenP (v : PV) (h : MH) : VR := match v with
  | .str s => if s.length ≤ sizeLine then some (.int s.length, h) else none
  | v => (match itemsOf v h with
    | some xs => some (.int xs.length, h)
    | none => none)
def intP (v : PV) (h : MH) : VR := match v with
  | .int i => some (.int i, h)
  | .bl b => some (.int (if b then 1 else 0), h)
  | _ => none
def maxP (v w : PV) (h : MH) : VR := match v, w with
  | .int i, .int j => some (.int (if j > i then j else i), h)
  | _, _ => none
def minP (v w : PV) (h : MH) : VR := match v, w with
  | .int i, .int j => some (.int (if j < i then j else i), h)
  | _, _ => none
def listP (v : PV) (h : MH) : VR := match itemsOf v h with
  | some xs => alloc (.lst xs) h
  | none => none
def asB : PV → Option Bool
  | .bl b => some b
  | _ => none
def boolsOf (xs : List PV) : Option (List Bool) := mapO asB xs
def allP (v : PV) (h : MH) : VR := match v with
  | .ref n => (match lstOf (.ref n) h with
    | some p => (match boolsOf p.2 with
      | some bs => some (.bl (bs.all id), h)
      | none => none)
    | none => none)
  | _ => none
/-- v[i] of a list, a tuple -/
def ixP (v i : PV) (h : MH) : VR := match i with
  | .int k => (match itemsOf v h with
    | some xs => (match atI xs k with
      | some w => some (w, h)
      | none => none)
    | none => none)
  | _ => none
section
variable {X : Cx} {W : Wd}
theorem rep1 {μ : List Addr} {K : PySem.W.Frag} {H : Hp} {p : PV} {xs : List V} (r : RepVs K μ H [p] xs) : ∃ x, xs = [x] ∧ RepV K μ H p x := by
  obtain ⟨x, r', rfl, q, z⟩ := r.cons_inv
  have z : r' = [] := z
  subst z
  exact ⟨x, rfl, q⟩
theorem rep2 {μ : List Addr} {K : PySem.W.Frag} {H : Hp} {p q : PV} {xs : List V} (r : RepVs K μ H [p, q] xs) : ∃ x y, xs = [x, y] ∧ RepV K μ H p x ∧ RepV K μ H q y := by
  obtain ⟨x, r', rfl, q1, z⟩ := r.cons_inv
  obtain ⟨y, rfl, q2⟩ := rep1 z
  exact ⟨x, y, rfl, q1, q2⟩
theorem bi_len (hK : W.K = X.K) : CallR X (.builtin "len") (rN W (u1 lenP)) := by
  intro pins s σ H xs us Q I r h
  obtain ⟨ps, μ, h0, R, rp, v, h', e, po⟩ := h
  obtain ⟨p, rfl, e⟩ := u1_some e
  obtain ⟨x, rfl, q⟩ := rep1 rp
  have seq : ∀ {ys : List PV}, itemsOf p h0 = some ys → v = .int ys.length ∧ h' = h0 → wpAny (model X.prog X.w) X.A (call (.builtin "len") us) (EP X pins σ Q) X.xe s := fun {ys} ei ev => by
    obtain ⟨rfl, rfl⟩ := ev
    obtain ⟨a, vs, rfl, ha, rv⟩ := itemsOf_rep R q ei
    rw [hK] at ha
    exact call_len_seq pins s σ H _ us Q I r ⟨a, vs, rfl, ha, by rw [← rv.len]; exact po.here R rfl⟩
  cases p with
  | str z =>
    have e : (if z.length ≤ sizeLine then some (PV.int z.length, h0) else none) = some (v, h') := e
    by_cases hz : z.length ≤ sizeLine
    · rw [if_pos hz] at e
      cases e
      have q : x = .str z := q
      subst q
      exact call_len_str pins s σ H _ us Q I r ⟨z, rfl, hz, po.here R rfl⟩
    · rw [if_neg hz] at e; cases e
  | tup ys => cases e; exact seq rfl ⟨rfl, rfl⟩
  | kt ys => cases e; exact seq rfl ⟨rfl, rfl⟩
  | rol ys => cases e; exact seq rfl ⟨rfl, rfl⟩
  | ref n =>
    have e : (match itemsOf (.ref n) h0 with
      | some xs => some (PV.int xs.length, h0)
      | none => none) = some (v, h') := e
    cases ei : itemsOf (.ref n) h0 with
    | none => rw [ei] at e; cases e
    | some ys => rw [ei] at e; cases e; exact seq ei ⟨rfl, rfl⟩
  | _ => cases e
theorem bi_int : CallR X (.type "int") (rN W (u1 intP)) := by
  intro pins s σ H xs us Q I r h
  obtain ⟨ps, μ, h0, R, rp, v, h', e, po⟩ := h
  obtain ⟨p, rfl, e⟩ := u1_some e
  obtain ⟨x, rfl, q⟩ := rep1 rp
  cases p with
  | int i =>
    cases e
    have q : x = .int i := q
    subst q
    exact call_int1 pins s σ H _ us Q I r (.inl ⟨i, rfl, po.here R rfl⟩)
  | bl b =>
    cases e
    have q : x = .bl b := q
    subst q
    exact call_int1 pins s σ H _ us Q I r (.inr ⟨b, rfl, po.here R rfl⟩)
  | _ => cases e
theorem bi_max (hc : X.calm = true) : CallR X (.builtin "max") (rN W (u2 maxP)) := by
  intro pins s σ H xs us Q I r h
  obtain ⟨ps, μ, h0, R, rp, v, h', e, po⟩ := h
  obtain ⟨p, p2, rfl, e⟩ := u2_some e
  obtain ⟨x, y, rfl, q, q2⟩ := rep2 rp
  cases p with
  | int i =>
    cases p2 with
    | int j =>
      cases e
      have q : x = .int i := q
      have q2 : y = .int j := q2
      subst q q2
      exact call_max2 hc pins s σ H _ us Q I r ⟨i, j, rfl, po.here R rfl⟩
    | _ => cases e
  | _ => cases p2 <;> cases e
theorem bi_min (hc : X.calm = true) : CallR X (.builtin "min") (rN W (u2 minP)) := by
  intro pins s σ H xs us Q I r h
  obtain ⟨ps, μ, h0, R, rp, v, h', e, po⟩ := h
  obtain ⟨p, p2, rfl, e⟩ := u2_some e
  obtain ⟨x, y, rfl, q, q2⟩ := rep2 rp
  cases p with
  | int i =>
    cases p2 with
    | int j =>
      cases e
      have q : x = .int i := q
      have q2 : y = .int j := q2
      subst q q2
      exact call_min2 hc pins s σ H _ us Q I r ⟨i, j, rfl, po.here R rfl⟩
    | _ => cases e
  | _ => cases p2 <;> cases e
theorem bi_list (hK : W.K = X.K) : CallR X (.type "list") (rN W (u1 listP)) := by
  intro pins s σ H xs us Q I r h
  obtain ⟨ps, μ, h0, R, rp, v, h', e, po⟩ := h
  obtain ⟨p, rfl, e5⟩ := u1_some e
  obtain ⟨x, rfl, q⟩ := rep1 rp
  unfold listP at e5
  cases ei : itemsOf p h0 with
  | none => rw [ei] at e5; cases e5
  | some ys =>
    rw [ei] at e5
    cases e5
    obtain ⟨a, vs, rfl, ha, rv⟩ := itemsOf_rep R q ei
    rw [hK] at ha
    exact call_list_of pins s σ H _ us Q I r ⟨a, vs, rfl, ha, fun l hl => po.new R hl ⟨_, upd_same, rv.ext (Ext.new R hl)⟩⟩
theorem bools_rep {K : PySem.W.Frag} {μ : List Addr} {H : Hp} : ∀ {ps : List PV} {vs : List V} {bs : List Bool}, boolsOf ps = some bs → RepVs K μ H ps vs → vs = bs.map V.bl
  | [], _, _, e, r => by
    cases e
    exact r
  | p :: ps, _, bs, e, r => by
    obtain ⟨x, r', rfl, q, z⟩ := r.cons_inv
    cases p with
    | bl b =>
      simp only [boolsOf, mapO, asB] at e
      cases e2 : mapO asB ps with
      | none => simp only [e2] at e; cases e
      | some cs =>
        simp only [e2] at e
        cases e
        rw [show x = .bl b from q, bools_rep (bs := cs) e2 z]
        rfl
    | _ => cases e
theorem bi_all (hK : W.K = X.K) (hc : X.calm = true) : CallR X (.builtin "all") (rN W (u1 allP)) := by
  intro pins s σ H xs us Q I r h
  obtain ⟨ps, μ, h0, R, rp, v, h', e, po⟩ := h
  obtain ⟨p, rfl, e⟩ := u1_some e
  obtain ⟨x, rfl, q⟩ := rep1 rp
  cases p with
  | ref n =>
    have e : (match lstOf (.ref n) h0 with
      | some p => (match boolsOf p.2 with
        | some bs => some (PV.bl (bs.all id), h0)
        | none => none)
      | none => none) = some (v, h') := e
    cases e1 : lstOf (.ref n) h0 with
    | none => rw [e1] at e; cases e
    | some l =>
      obtain ⟨m, ys⟩ := l
      rw [e1] at e
      have e : (match boolsOf ys with
        | some bs => some (PV.bl (bs.all id), h0)
        | none => none) = some (v, h') := e
      cases e2 : boolsOf ys with
      | none => rw [e2] at e; cases e
      | some bs =>
        rw [e2] at e
        cases e
        obtain ⟨a, vs, rfl, _, _, ha, rv⟩ := lstOf_rep R q e1
        rw [bools_rep e2 rv] at ha
        exact cr_all hc pins s σ H _ us Q I r ⟨a, bs, rfl, .of ha, po.here R rfl⟩
  | _ => cases e
theorem atI_rep {K : PySem.W.Frag} {μ : List Addr} {H : Hp} {ps : List PV} {vs : List V} {k : Int} {p : PV} (r : RepVs K μ H ps vs) (e : atI ps k = some p) : ∃ x, atI vs k = some x ∧ RepV K μ H p x := by
  unfold atI at e ⊢
  rw [← r.len]
  cases e1 : ixN ps.length k with
  | none => rw [e1] at e; cases e
  | some j =>
    rw [e1] at e
    exact r.get e
theorem ix_ixP (hK : W.K = X.K) : IxR X (r2 W ixP) := by
  intro value slice pins s σ H x y v u Q I rx ry h hs
  obtain ⟨p, q, μ, h0, R, rp, rq, z, h', e, po⟩ := h
  cases q with
  | int k =>
    have e : (match itemsOf p h0 with
      | some xs => (match atI xs k with
        | some w => some (w, h0)
        | none => none)
      | none => none) = some (z, h') := e
    cases ei : itemsOf p h0 with
    | none => rw [ei] at e; cases e
    | some ys =>
      rw [ei] at e
      have e : (match atI ys k with
        | some w => some (w, h0)
        | none => none) = some (z, h') := e
      cases ea : atI ys k with
      | none => rw [ea] at e; cases e
      | some w =>
        rw [ea] at e
        cases e
        obtain ⟨a, vs, rfl, ha, rv⟩ := itemsOf_rep R rp ei
        obtain ⟨x2, hx, rx2⟩ := atI_rep rv ea
        rw [hK] at ha
        have e2 : y = .int k := rq
        subst e2
        refine ix_seq value slice pins s σ H _ _ v u Q I rx ry ?_ hs
        rcases ha with ha | ha
        · exact .inl ⟨a, vs, k, x2, rfl, rfl, ha, hx, po.here R rx2⟩
        · exact .inr (.inl ⟨a, vs, k, x2, rfl, rfl, ha, hx, po.here R rx2⟩)
  | _ => cases e
end
section
variable {X : Cx} {W : Wd} {Wx : WX} {e a b : Expr} {es : List Expr} {da db : Den} {la : DenL} {pos p : Pos} {x : Str} {f : List PV → MH → VR}
theorem se_of (h : PE X e (tCB (rN W f) (rdL W Wx la))) : PE X e (rdE W Wx (dOf f la)) := by
  refine PE.imp h fun σ H Q h => ?_
  obtain ⟨ρ, h0, μ, r, s, z⟩ := rd_bind2 (R := repL W) (d := la) (k := fun xs h1 => Res.of (f xs h1)) h
  refine ⟨ρ, h0, μ, r, s, wp_imp z (fun _ _ _ z => z) fun xs H1 z => ?_⟩
  obtain ⟨ρ1, p, μ1, h1, a1, rp, z⟩ := z
  obtain ⟨v, h', ev, po⟩ := wp_of z
  exact ⟨p, μ1, h1, a1.rel, rp, v, h', ev, po⟩
theorem se_ix (hK : W.K = X.K) (ha : PE X a (rdE W Wx da)) (hb : PE X b (rdE W Wx db)) (hs : PlainIx b) : PE X (.Subscript a b pos) (rdE W Wx (dBin ixP da db)) :=
  se_two (f := fun _ _ => pure .none) (t := fun _ _ _ => True) (pe_ix (ix_ixP hK) ha hb hs)
end
end Mi

/-! ## Dic: dicts -/
namespace Mi
open PySem PySem.Spec PyProof.Rows L2

/-! ### forms of expressions -/
def isStar : Expr → Bool
  | .Starred _ _ => true
  | _ => false
def isSet : Expr → Bool
  | .Set _ _ _ => true
  | _ => false
def isComp : Expr → Bool
  | .ListComp _ _ _ _ => true
  | .SetComp _ _ _ _ => true
  | .DictComp _ _ _ _ _ => true
  | _ => false
def isSlice : Expr → Bool
  | .Slice _ _ _ _ => true
  | _ => false
theorem star_cons {e : Expr} {es : List Expr} {env : Env} (h : isStar e = false) : starEach (e :: es) env = (false, eval e env) :: starEach es env := by
  cases e <;> first | rfl | cases h
theorem asg_cons {e : Expr} {es : List Expr} {env : Env} (h : isStar e = false) : assignEach (e :: es) env = (false, assign e env) :: assignEach es env := by
  cases e <;> first | rfl | cases h
theorem behind_of {op : CmpOp} {b : Expr} (h : isSet b = false) : behindInMarks op b = false := by
  cases b <;> first | rfl | cases h
theorem swaps_of {e : Expr} {t : Option Expr} {l : Nat} {env : Env} (h : isComp e = false) : swapsWith e t l env = pure false := by
  cases e <;> first | rfl | cases h
theorem folded_of {e : Expr} {env : Env} (h : isSet e = false) : ∀ x, foldedSetIterable e env x = pure x := fun x => by
  cases e <;> first | rfl | cases h
theorem plainIx_of {e : Expr} (h : isSlice e = false) : PlainIx e := fun o i => by
  cases e <;> first | rfl | cases h
theorem nostar_any {es : List Expr} {env : Env} {pos : Pos} (h : (es.any isStar) = false) : (backTo pos (starEach es env)).any (·.1) = false := by
  induction es with
  | nil => rfl
  | cons e es ih =>
    rw [List.any_cons, Bool.or_eq_false_iff] at h
    rw [star_cons h.1]
    show (false || (backTo pos (starEach es env)).any (·.1)) = false
    rw [ih h.2]
    rfl
def keyAt : PV → Option Key
  | .int i => some (.inl i)
  | .str s => some (.inr s)
  | _ => none
/-- a key: an int, a text; a tuple of such -/
def keyOf : PV → Option (Key ⊕ List Key)
  | .int i => some (.inl (.inl i))
  | .str s => some (.inl (.inr s))
  | .tup xs => (match mapO keyAt xs with
    | some ks => some (.inr ks)
    | none => none)
  | _ => none
def isTup : PV → Bool
  | .tup _ => true
  | _ => false
/-- all keys of k's kind -/
def sameK (kvs : List (PV × PV)) (k : PV) : Bool := kvs.all fun p => isTup p.1 == isTup k
def dGet (kvs : List (PV × PV)) (k : PV) : Option PV := (kvs.find? fun p => decide (p.1 = k)).map (·.2)
def dPut (kvs : List (PV × PV)) (k v : PV) : List (PV × PV) := if (kvs.any fun p => decide (p.1 = k)) = true then kvs.map (fun p => if p.1 = k then (p.1, v) else p) else kvs ++ [(k, v)]
def dicOf (v : PV) (h : MH) : Option (Nat × List (PV × PV)) := match v with
  | .ref n => (match h[n]? with
    | some (.dic kvs) => some (n, kvs)
    | _ => none)
  | _ => none
/-- a dict and a key for it -/
def dicK (v k : PV) (h : MH) : Option (Nat × List (PV × PV)) := match dicOf v h with
  | some (n, kvs) => if (keyOf k).isSome = true ∧ sameK kvs k = true then some (n, kvs) else none
  | none => none
theorem keyAt_some {p : PV} {k : Key} (h : keyAt p = some k) : p = pvK k := by
  cases p <;> first | (cases h; rfl) | cases h
theorem keys_some : ∀ {ps : List PV} {ks : List Key}, mapO keyAt ps = some ks → ps = ks.map pvK
  | [], _, h => by cases h; rfl
  | p :: ps, ks, h => by
    unfold mapO at h
    cases e : keyAt p with
    | none => rw [e] at h; cases h
    | some k =>
      rw [e] at h
      cases e2 : mapO keyAt ps with
      | none => rw [e2] at h; cases h
      | some ks2 =>
        rw [e2] at h
        cases h
        rw [keyAt_some e, keys_some e2]
        rfl
theorem pvK_inj {k l : Key} (h : pvK k = pvK l) : k = l := by
  cases k <;> cases l <;> first | (cases h; rfl) | cases h
theorem pvKs_inj : ∀ {ks ls : List Key}, ks.map pvK = ls.map pvK → ks = ls
  | [], [], _ => rfl
  | [], _ :: _, h => by cases h
  | _ :: _, [], h => by cases h
  | k :: ks, l :: ls, h => by
    rw [List.map_cons, List.map_cons] at h
    injection h with h1 h2
    rw [pvK_inj h1, pvKs_inj h2]
section
variable {K : PySem.W.Frag} {μ : List Addr} {H : Hp}
theorem rep_pvK {k : Key} {x : V} (r : RepV K μ H (pvK k) x) : x = kV k := by
  cases k <;> exact r
theorem rep_pvKs : ∀ {ks : List Key} {xs : List V}, RepVs K μ H (ks.map pvK) xs → xs = ks.map kV
  | [], _, r => r
  | k :: ks, _, r => by
    obtain ⟨x, r', rfl, q, z⟩ := r.cons_inv
    rw [rep_pvK q, rep_pvKs z]
    rfl
theorem repK_of {k : Key} : RepV K μ H (pvK k) (kV k) := by cases k <;> rfl
theorem repKs_of : ∀ {ks : List Key}, RepVs K μ H (ks.map pvK) (ks.map kV)
  | [] => rfl
  | k :: ks => ⟨kV k, _, rfl, repK_of, repKs_of⟩
theorem isTup_pvK (k : Key) : isTup (pvK k) = false := by cases k <;> rfl
theorem RepKs.len {kvs : List (PV × PV)} {l : List (Key × V)} (r : RepKs K μ H kvs l) : kvs.length = l.length := by
  induction r with
  | nil => rfl
  | cons _ _ ih => rw [List.length_cons, List.length_cons, ih]
theorem RepTs.len {kvs : List (PV × PV)} {l : List (List Key × V)} (r : RepTs K μ H kvs l) : kvs.length = l.length := by
  induction r with
  | nil => rfl
  | cons _ _ ih => rw [List.length_cons, List.length_cons, ih]
/-- a plain lookup's answer stands for the layer's -/
def RepG (K : PySem.W.Frag) (μ : List Addr) (H : Hp) : Option PV → Option V → Prop
  | none, none => True
  | some p, some x => RepV K μ H p x
  | _, _ => False
theorem RepKs.get {kvs : List (PV × PV)} {l : List (Key × V)} (r : RepKs K μ H kvs l) (k : Key) : RepG K μ H (dGet kvs (pvK k)) (valV l k) := by
  induction r with
  | nil => exact trivial
  | @cons k' v x fs gs rv _ ih =>
    by_cases e : k' = k
    · subst e
      rw [valV_pos rfl]
      have : dGet ((pvK k', v) :: fs) (pvK k') = some v := by simp [dGet, List.find?_cons]
      rw [this]
      exact rv
    · rw [valV_neg e]
      have : dGet ((pvK k', v) :: fs) (pvK k) = dGet fs (pvK k) := by
        have : ¬ pvK k' = pvK k := fun z => e (pvK_inj z)
        simp [dGet, List.find?_cons, this]
      rw [this]
      exact ih
theorem tup_pvKs_ne {k k' : List Key} (e : ¬ k' = k) : ¬ PV.tup (k'.map pvK) = PV.tup (k.map pvK) := fun z => e (pvKs_inj (by injection z))
theorem RepTs.get {kvs : List (PV × PV)} {l : List (List Key × V)} (r : RepTs K μ H kvs l) (k : List Key) : RepG K μ H (dGet kvs (.tup (k.map pvK))) (valV l k) := by
  induction r with
  | nil => exact trivial
  | @cons k' v x fs gs rv _ ih =>
    by_cases e : k' = k
    · subst e
      rw [valV_pos rfl]
      have : dGet ((.tup (k'.map pvK), v) :: fs) (.tup (k'.map pvK)) = some v := by simp [dGet, List.find?_cons]
      rw [this]
      exact rv
    · rw [valV_neg e]
      have : dGet ((.tup (k'.map pvK), v) :: fs) (.tup (k.map pvK)) = dGet fs (.tup (k.map pvK)) := by
        have := tup_pvKs_ne e
        simp [dGet, List.find?_cons, this]
      rw [this]
      exact ih
theorem RepKs.any {kvs : List (PV × PV)} {l : List (Key × V)} (r : RepKs K μ H kvs l) (k : Key) : (kvs.any fun p => decide (p.1 = pvK k)) = l.any fun p => decide (p.1 = k) := by
  induction r with
  | nil => rfl
  | @cons k' v x fs gs rv _ ih =>
    rw [List.any_cons, List.any_cons, ih]
    by_cases e : k' = k
    · subst e; simp
    · have : ¬ pvK k' = pvK k := fun z => e (pvK_inj z)
      simp [e, this]
theorem RepTs.any {kvs : List (PV × PV)} {l : List (List Key × V)} (r : RepTs K μ H kvs l) (k : List Key) : (kvs.any fun p => decide (p.1 = .tup (k.map pvK))) = l.any fun p => decide (p.1 = k) := by
  induction r with
  | nil => rfl
  | @cons k' v x fs gs rv _ ih =>
    rw [List.any_cons, List.any_cons, ih]
    by_cases e : k' = k
    · subst e; simp
    · have := tup_pvKs_ne e
      simp [e, this]
theorem RepKs.app {kvs kvs2 : List (PV × PV)} {l l2 : List (Key × V)} (r : RepKs K μ H kvs l) (r2 : RepKs K μ H kvs2 l2) : RepKs K μ H (kvs ++ kvs2) (l ++ l2) := by
  induction r with
  | nil => exact r2
  | cons q _ ih => exact .cons q ih
theorem RepTs.app {kvs kvs2 : List (PV × PV)} {l l2 : List (List Key × V)} (r : RepTs K μ H kvs l) (r2 : RepTs K μ H kvs2 l2) : RepTs K μ H (kvs ++ kvs2) (l ++ l2) := by
  induction r with
  | nil => exact r2
  | cons q _ ih => exact .cons q ih
theorem RepKs.repl {kvs : List (PV × PV)} {l : List (Key × V)} {v : PV} {x : V} (r : RepKs K μ H kvs l) (k : Key) (q : RepV K μ H v x) : RepKs K μ H (kvs.map fun p => if p.1 = pvK k then (p.1, v) else p) (l.map fun p => if p.1 = k then (p.1, x) else p) := by
  induction r with
  | nil => exact .nil
  | @cons k' v' x' fs gs rv _ ih =>
    rw [List.map_cons, List.map_cons]
    by_cases e : k' = k
    · subst e
      simp only [if_true]
      exact .cons q ih
    · have : ¬ pvK k' = pvK k := fun z => e (pvK_inj z)
      simp only [e, this, if_false]
      exact .cons rv ih
theorem RepKs.put {kvs : List (PV × PV)} {l : List (Key × V)} {v : PV} {x : V} (r : RepKs K μ H kvs l) (k : Key) (q : RepV K μ H v x) : RepKs K μ H (dPut kvs (pvK k) v) (putK l k x) := by
  unfold dPut putK
  rw [r.any k]
  split
  · exact r.repl k q
  · exact r.app (.cons q .nil)
theorem RepTs.repl {kvs : List (PV × PV)} {l : List (List Key × V)} {v : PV} {x : V} (r : RepTs K μ H kvs l) (k : List Key) (q : RepV K μ H v x) : RepTs K μ H (kvs.map fun p => if p.1 = .tup (k.map pvK) then (p.1, v) else p) (l.map fun p => if p.1 = k then (p.1, x) else p) := by
  induction r with
  | nil => exact .nil
  | @cons k' v' x' fs gs rv _ ih =>
    rw [List.map_cons, List.map_cons]
    by_cases e : k' = k
    · subst e
      simp only [if_true]
      exact .cons q ih
    · have := tup_pvKs_ne e
      simp only [e, this, if_false]
      exact .cons rv ih
theorem RepTs.put {kvs : List (PV × PV)} {l : List (List Key × V)} {v : PV} {x : V} (r : RepTs K μ H kvs l) (k : List Key) (q : RepV K μ H v x) : RepTs K μ H (dPut kvs (.tup (k.map pvK)) v) (putK l k x) := by
  unfold dPut putK
  rw [r.any k]
  split
  · exact r.repl k q
  · exact r.app (.cons q .nil)
end
/-! ### the empty dict is of both kinds -/
section
variable {X : Cx} {pins : List (Addr × Obj)} {σ : L2.St} {H : Hp} {s : Shared} {a : Addr}
theorem toT (I : Inv X pins σ H s) (e : H a = some (.dK [])) : Inv X pins σ (upd H a (.dT [])) s := by
  obtain ⟨z, hd, vs, rel, o, es, ep, ho, hx, hdat, hk, hp, hn⟩ := dk_of I.hok e
  have hv : vs = [] := by cases rel; rfl
  subst hv
  have he : es.toList = [] := List.eq_nil_of_length_eq_zero hp.length
  refine d_write (h' := s.heap) (t' := s.toks) I (by rw [e]; exact True.intro) ⟨rfl, fun _ _ => rfl⟩ ⟨o, ho⟩ ?_
  exact ⟨Nat.zero_le _, hd, [], .nil, o, es, ep, ho, hx, hdat, he, List.nodup_nil⟩
theorem toK (I : Inv X pins σ H s) (e : H a = some (.dT [])) : Inv X pins σ (upd H a (.dK [])) s := by
  obtain ⟨z, hd, xs, rel, o, es, ep, ho, hx, hdat, hp, _, hn⟩ := dt_of I.hok e
  have hv : xs = [] := by cases rel; rfl
  subst hv
  have he : es.toList = [] := hp
  refine d_write (h' := s.heap) (t' := s.toks) I (by rw [e]; exact True.intro) ⟨rfl, fun _ _ => rfl⟩ ⟨o, ho⟩ ?_
  refine dk_new (Nat.zero_le _) hd .nil ⟨o, es, ep, ho, hx, hdat, ?_, ?_, List.nodup_nil⟩
  · intro x hx
    rw [← Array.mem_toList_iff, he] at hx
    cases hx
  · rw [he]; exact .nil
/-- a dict with a key at hand -/
def DV (W : Wd) (μ : List Addr) (H : Hp) (a : Addr) (kvs : List (PV × PV)) (k : PV) (y : V) : Prop :=
  (∃ (l : List (Key × V)) (kk : Key), H a = some (.dK l) ∧ RepKs W.K μ H kvs l ∧ k = pvK kk ∧ y = kV kk) ∨ ∃ (l : List (List Key × V)) (kk : List Key) (b : Addr), H a = some (.dT l) ∧ RepTs W.K μ H kvs l ∧ k = .tup (kk.map pvK) ∧ y = .ref b ∧ H b = some (.tup (kk.map kV))
theorem set_same {α : Type} : ∀ {l : List α} {n : Nat} {x : α}, l[n]? = some x → l.set n x = l
  | [], _, _, h => by simp at h
  | y :: r, 0, x, h => by
    simp at h
    subst h
    rfl
  | y :: r, n + 1, x, h => by
    show y :: r.set n x = y :: r
    rw [set_same (by simpa using h)]
variable {W : Wd} {μ : List Addr} {h : MH}
theorem dicOf_some {v : PV} {n : Nat} {kvs : List (PV × PV)} (e : dicOf v h = some (n, kvs)) : v = .ref n ∧ h[n]? = some (.dic kvs) := by
  cases v with
  | ref m =>
    have e : (match h[m]? with
      | some (.dic kvs) => some (m, kvs)
      | _ => none) = some (n, kvs) := e
    cases hm : h[m]? with
    | none => rw [hm] at e; cases e
    | some o =>
      rw [hm] at e
      cases o with
      | dic l => cases e; exact ⟨rfl, hm⟩
      | _ => cases e
  | _ => cases e
theorem dicK_some {v k : PV} {n : Nat} {kvs : List (PV × PV)} (e : dicK v k h = some (n, kvs)) : v = .ref n ∧ h[n]? = some (.dic kvs) ∧ (∃ kk, keyOf k = some kk) ∧ sameK kvs k = true := by
  unfold dicK at e
  cases e1 : dicOf v h with
  | none => rw [e1] at e; cases e
  | some p =>
    obtain ⟨m, l⟩ := p
    rw [e1] at e
    have e : (if (keyOf k).isSome = true ∧ sameK l k = true then some (m, l) else none) = some (n, kvs) := e
    by_cases c : (keyOf k).isSome = true ∧ sameK l k = true
    · rw [if_pos c] at e
      cases e
      obtain ⟨q1, q2⟩ := dicOf_some e1
      exact ⟨q1, q2, Option.isSome_iff_exists.mp c.1, c.2⟩
    · rw [if_neg c] at e; cases e
theorem keyOf_some {k : PV} {kk : Key ⊕ List Key} (e : keyOf k = some kk) : (∃ q, kk = .inl q ∧ k = pvK q) ∨ ∃ q, kk = .inr q ∧ k = .tup (q.map pvK) := by
  cases k with
  | int i => cases e; exact .inl ⟨_, rfl, rfl⟩
  | str i => cases e; exact .inl ⟨_, rfl, rfl⟩
  | tup xs =>
    have e : (match mapO keyAt xs with
      | some ks => some (.inr ks)
      | none => none) = some kk := e
    cases e1 : mapO keyAt xs with
    | none => rw [e1] at e; cases e
    | some ks =>
      rw [e1] at e
      cases e
      exact .inr ⟨ks, rfl, by rw [keys_some e1]⟩
  | _ => cases e
theorem rep_tupK {K : PySem.W.Frag} {q : List Key} {y : V} (r : RepV K μ H (.tup (q.map pvK)) y) : ∃ b, y = .ref b ∧ H b = some (.tup (q.map kV)) := by
  obtain ⟨b, vs, rfl, hb, rv⟩ := r
  rw [rep_pvKs rv] at hb
  exact ⟨b, rfl, hb⟩
theorem dic_view {v k : PV} {x y : V} {n : Nat} {kvs : List (PV × PV)} (I : Inv X pins σ H s) (R : Rel W μ h H) (e : dicK v k h = some (n, kvs)) (rv : RepV W.K μ H v x) (rk : RepV W.K μ H k y) :
    ∃ a H', x = .ref a ∧ μ[n]? = some a ∧ h[n]? = some (.dic kvs) ∧ Inv X pins σ H' s ∧ Ext W.K μ H μ H' ∧ Rel W μ h H' ∧ DV W μ H' a kvs k y := by
  obtain ⟨rfl, hn, ⟨kk, hk⟩, hs⟩ := dicK_some e
  obtain ⟨a, ha, rfl⟩ := rv
  have hd := R.obj _ _ _ ha hn
  have am := List.mem_of_getElem? ha
  rcases keyOf_some hk with ⟨q, rfl, rfl⟩ | ⟨q, rfl, rfl⟩
  · rcases hd with ⟨l, e1, r1⟩ | ⟨l, e1, r1⟩
    · exact ⟨a, H, rfl, ha, hn, I, .refl, R, Or.inl ⟨l, q, e1, r1, rfl, rep_pvK rk⟩⟩
    · cases r1 with
      | nil =>
        have E : Ext W.K μ H μ (upd H a (.dK [])) := Ext.write R am
        have R' : Rel W μ (h.set n (.dic [])) (upd H a (.dK [])) := R.write ha (.inl ⟨[], upd_same, .nil⟩)
        rw [set_same hn] at R'
        exact ⟨a, _, rfl, ha, hn, toK I e1, E, R', Or.inl ⟨[], q, upd_same, .nil, rfl, rep_pvK rk⟩⟩
      | cons r _ =>
        rw [sameK, List.all_cons, isTup_pvK] at hs
        simp [isTup] at hs
  · rcases hd with ⟨l, e1, r1⟩ | ⟨l, e1, r1⟩
    · cases r1 with
      | nil =>
        have E : Ext W.K μ H μ (upd H a (.dT [])) := Ext.write R am
        have R' : Rel W μ (h.set n (.dic [])) (upd H a (.dT [])) := R.write ha (.inr ⟨[], upd_same, .nil⟩)
        rw [set_same hn] at R'
        obtain ⟨b, rfl, hb⟩ := rep_tupK (rk.ext E)
        exact ⟨a, _, rfl, ha, hn, toT I e1, E, R', Or.inr ⟨[], q, b, upd_same, .nil, rfl, rfl, hb⟩⟩
      | cons r _ =>
        rw [sameK, List.all_cons, isTup_pvK] at hs
        simp [isTup] at hs
    · obtain ⟨b, rfl, hb⟩ := rep_tupK rk
      exact ⟨a, H, rfl, ha, hn, I, .refl, R, Or.inr ⟨l, q, b, e1, r1, rfl, rfl, hb⟩⟩
theorem DV.get {a : Addr} {kvs : List (PV × PV)} {k : PV} {y : V} (d : DV W μ H a kvs k y) : ∃ o, DGet H a y o ∧ RepG W.K μ H (dGet kvs k) o := by
  rcases d with ⟨l, kk, e1, r1, rfl, rfl⟩ | ⟨l, kk, b, e1, r1, rfl, rfl, hb⟩
  · exact ⟨_, .k e1, r1.get kk⟩
  · exact ⟨_, .t e1 hb, r1.get kk⟩
theorem RepKs.ext {K : PySem.W.Frag} {μ' : List Addr} {H' : Hp} {kvs : List (PV × PV)} {l : List (Key × V)} (E : Ext K μ H μ' H') (r : RepKs K μ H kvs l) : RepKs K μ' H' kvs l := r.imp (fun _ _ q => E.at q) E.tp E.st E.sr
theorem RepTs.ext {K : PySem.W.Frag} {μ' : List Addr} {H' : Hp} {kvs : List (PV × PV)} {l : List (List Key × V)} (E : Ext K μ H μ' H') (r : RepTs K μ H kvs l) : RepTs K μ' H' kvs l := r.imp (fun _ _ q => E.at q) E.tp E.st E.sr
theorem DV.put {a : Addr} {kvs : List (PV × PV)} {k v : PV} {x y : V} {n : Nat} (d : DV W μ H a kvs k y) (R : Rel W μ h H) (ha : μ[n]? = some a) (rv : RepV W.K μ H v x) (hl : kvs.length < sizeLine) :
    ∃ H', DPut H a y x H' ∧ Ext W.K μ H μ H' ∧ Rel W μ (h.set n (.dic (dPut kvs k v))) H' := by
  have am := List.mem_of_getElem? ha
  rcases d with ⟨l, kk, e1, r1, rfl, rfl⟩ | ⟨l, kk, b, e1, r1, rfl, rfl, hb⟩
  · have E : Ext W.K μ H μ (upd H a (.dK (putK l kk x))) := Ext.write R am
    exact ⟨_, .k e1 (by rw [← r1.len]; exact hl), E, R.write ha (.inl ⟨_, upd_same, (r1.put kk rv).ext E⟩)⟩
  · have E : Ext W.K μ H μ (upd H a (.dT (putK l kk x))) := Ext.write R am
    exact ⟨_, .t e1 hb (by rw [← r1.len]; exact hl), E, R.write ha (.inr ⟨_, upd_same, (r1.put kk rv).ext E⟩)⟩
end
/-! ### d[k], k in d, d[k] = v -/
section
variable {X : Cx} {W : Wd} {Wx : WX}
def getP (v k : PV) (h : MH) : VR := match dicK v k h with
  | some (_, kvs) => (match dGet kvs k with
    | some w => some (w, h)
    | none => none)
  | none => none
/-- v[i] -/
def subP (v i : PV) (h : MH) : VR := match dicOf v h with
  | some _ => getP v i h
  | none => ixP v i h
theorem ix_getP (hu : X.A.units + 1 < cLine) : IxR X (r2 W getP) := by
  intro value slice pins s σ H x y v u Q I rx ry h hs
  obtain ⟨p, q, μ, h0, R, rp, rq, z, h', e, po⟩ := h
  unfold getP at e
  cases e1 : dicK p q h0 with
  | none => rw [e1] at e; cases e
  | some nk =>
    obtain ⟨n, kvs⟩ := nk
    rw [e1] at e
    have e : (match dGet kvs q with
      | some w => some (w, h0)
      | none => none) = some (z, h') := e
    cases e2 : dGet kvs q with
    | none => rw [e2] at e; cases e
    | some w =>
      rw [e2] at e
      cases e
      obtain ⟨a, H1, rfl, ha, hn, I1, E1, R1, d⟩ := dic_view I R e1 rp rq
      obtain ⟨o, g, rg⟩ := d.get
      rw [e2] at rg
      cases o with
      | none => exact rg.elim
      | some w' =>
        cases (show v = Value.ref a from rx)
        refine tail_any (dict_typeIs I1 g) PySem.F.slot_dict_getitem.lookup (d_getItem hu I1 g ry fun w2 s2 I2 r2 => ⟨_, H1, I2, r2, po _ _ _ E1 R1 rg⟩) hs
theorem ix_subP (hK : W.K = X.K) (hu : X.A.units + 1 < cLine) : IxR X (r2 W subP) := by
  intro value slice pins s σ H x y v u Q I rx ry h hs
  obtain ⟨p, q, μ, h0, R, rp, rq, z, h', e, po⟩ := h
  unfold subP at e
  cases e1 : dicOf p h0 with
  | none => rw [e1] at e; exact ix_ixP hK value slice pins s σ H x y v u Q I rx ry ⟨p, q, μ, h0, R, rp, rq, z, h', e, po⟩ hs
  | some nk => rw [e1] at e; exact ix_getP hu value slice pins s σ H x y v u Q I rx ry ⟨p, q, μ, h0, R, rp, rq, z, h', e, po⟩ hs
/-- v[i] = w -/
def setP (v i w : PV) (h : MH) : Option MH := match dicOf v h with
  | some _ => (match dicK v i h with
    | some (n, kvs) => if kvs.length < sizeLine then some (h.set n (.dic (dPut kvs i w))) else none
    | none => none)
  | none => (match lstOf v h, i with
    | some (n, xs), .int k => (match ixN xs.length k with
      | some j => some (h.set n (.lst (xs.set j w)))
      | none => none)
    | _, _ => none)
def rSetP (W : Wd) : TSet := fun o i v H Q => ∃ p q w μ h, Rel W μ h H ∧ RepV W.K μ H p o ∧ RepV W.K μ H q i ∧ RepV W.K μ H w v ∧ ∃ h', setP p q w h = some h' ∧ ∀ μ' H', Ext W.K μ H μ' H' → Rel W μ' h' H' → Q H'
theorem set_setP (hu : X.A.units + 1 < cLine) : PSet X (rSetP W) := by
  intro pins s σ H o i v ov iv u Q I ro ri rv h
  obtain ⟨p, q, w, μ, h0, R, rp, rq, rw_, h', e, po⟩ := h
  unfold setP at e
  cases e1 : dicOf p h0 with
  | some _ =>
    simp only [e1] at e
    cases e2 : dicK p q h0 with
    | none => simp only [e2] at e; cases e
    | some nk =>
      obtain ⟨n, kvs⟩ := nk
      simp only [e2] at e
      by_cases hz : kvs.length < sizeLine
      · rw [if_pos hz] at e
        cases e
        obtain ⟨a, H1, rfl, ha, hn, I1, E1, R1, d⟩ := dic_view I R e2 rp rq
        obtain ⟨H2, g, E2, R2⟩ := d.put R1 ha (rw_.ext E1) hz
        cases (show ov = Value.ref a from ro)
        exact d_setItem hu I1 g ri rv fun s2 I2 => ⟨H2, I2, po _ _ (E1.trans E2) R2⟩
      · rw [if_neg hz] at e; cases e
  | none =>
    simp only [e1] at e
    cases e2 : lstOf p h0 with
    | none => simp only [e2] at e; cases e
    | some nk =>
      obtain ⟨n, xs⟩ := nk
      cases q with
      | int k =>
        simp only [e2] at e
        cases e3 : ixN xs.length k with
        | none => simp only [e3] at e; cases e
        | some j =>
          simp only [e3] at e
          cases e
          obtain ⟨a, vs, rfl, ha, hn, hv, rvs⟩ := lstOf_rep R rp e2
          have ei : i = .int k := rq
          subst ei
          have E : Ext W.K μ H μ (upd H a (.lst (vs.set j v))) := Ext.write R (List.mem_of_getElem? ha)
          exact set_list pins s σ H _ _ v ov iv u _ I ro ri rv ⟨a, vs, k, j, rfl, rfl, hv, by rw [← rvs.len]; exact e3, po _ _ E (R.write ha ⟨_, upd_same, (RepVs.set rw_ j rvs).ext E⟩)⟩
      | _ => simp only [e2] at e; cases e
end
end Mi

/-! ## Tgt: targets that write into things -/
namespace Mi
open PySem PySem.Spec PyProof.Rows L2

abbrev TgH := PV → DenS
def hLift (g : TgD) : TgH := fun v ρ h => match g v ρ with
  | some ρ' => .nx ρ' h
  | none => .bad
def hSub (a b : Den) : TgH := fun v ρ h => (a ρ h).thn ρ fun o h1 => (b ρ h1).thn ρ fun i h2 => match setP o i v h2 with
  | some h3 => .nx ρ h3
  | none => .bad
def hSeq : List TgH → List PV → DenS
  | [], [] => sSkip
  | g :: gs, v :: vs => fun ρ h => match g v ρ h with
    | .nx ρ' h' => hSeq gs vs ρ' h'
    | .exc c v ρ h => .exc c v ρ h
    | _ => .bad
  | _, _ => sBad
def hTup (gs : List TgH) : TgH := fun v => match v with
  | .tup xs => if xs.length = gs.length then hSeq gs xs else sBad
  | .kt xs => if xs.length = gs.length then hSeq gs xs else sBad
  | _ => sBad
def sAsgH (d : Den) (g : TgH) : DenS := fun ρ h => (d ρ h).thn ρ fun v h1 => match g v ρ h1 with
  | .nx ρ' h' => .nx ρ' h'
  | .exc c v ρ h => .exc c v ρ h
  | _ => .bad
def wpG (W : Wd) (Wx : WX) (μ : List Addr) (H : Hp) (r : SRes) (Q : L2.St → Hp → Prop) : Prop := match r with
  | .nx ρ' h' => ∀ μ' H' σ', Ext W.K μ H μ' H' → Rel W μ' h' H' → RepS W.K μ' H' ρ' σ' → Q σ' H'
  | .exc c v ρ' h' => ∀ μ' H' σ' d x, Ext W.K μ H μ' H' → Rel W μ' h' H' → RepS W.K μ' H' ρ' σ' → H' d = some (.xd [(W.fld c, x)]) → RepV W.K μ' H' v x → Wx (.ref (W.ca c)) (some d) σ' H'
  | _ => False
theorem wpG_ext {W : Wd} {Wx : WX} {μ μ' : List Addr} {H H' : Hp} {r : SRes} {Q : L2.St → Hp → Prop} (e : Ext W.K μ H μ' H') (x : wpG W Wx μ H r Q) : wpG W Wx μ' H' r Q := by
  cases r with
  | nx ρ h => exact fun μ2 H2 σ e2 => x μ2 H2 σ (e.trans e2)
  | exc c v ρ h => exact fun μ2 H2 σ d y e2 => x μ2 H2 σ d y (e.trans e2)
  | _ => exact x
def gRdH (W : Wd) (Wx : WX) (g : TgH) : TG := fun x σ H Q => ∃ p ρ h μ, Rel W μ h H ∧ RepS W.K μ H ρ σ ∧ RepV W.K μ H p x ∧ wpG W Wx μ H (g p ρ h) Q
def gsRdH (W : Wd) (Wx : WX) (gs : List TgH) : TGs := fun xs σ H Q => ∃ ps ρ h μ, Rel W μ h H ∧ RepS W.K μ H ρ σ ∧ RepVs W.K μ H ps xs ∧ wpG W Wx μ H (hSeq gs ps ρ h) Q
section
variable {X : Cx} {W : Wd} {Wx : WX} {pos : Pos} {e a b : Expr} {da db : Den}
theorem sgh_lift {g : TgD} (h : PG X e (gRd W g)) : PG X e (gRdH W Wx (hLift g)) := by
  refine PG.imp h fun v σ H Q h => ?_
  obtain ⟨p, ρ, h0, μ, r, s, rp, z⟩ := h
  unfold hLift at z
  cases e1 : g p ρ with
  | none => rw [e1] at z; exact z.elim
  | some ρ' =>
    rw [e1] at z
    exact ⟨p, ρ, h0, μ, ρ', r, s, rp, e1, z⟩
theorem sgh_nil : PGs X [] (gsRdH W Wx []) := by
  refine PGs.imp pgs_nil fun vs σ H Q h => ?_
  obtain ⟨ps, ρ, h0, μ, r, s, rp, q⟩ := h
  cases ps with
  | nil => exact ⟨rp, q μ H _ Ext.refl r s⟩
  | cons _ _ => exact q.elim
theorem sgh_cons {es : List Expr} {g : TgH} {gs : List TgH} (h1 : PG X e (gRdH W Wx g)) (h2 : PGs X es (gsRdH W Wx gs)) (hs : (assignEach (e :: es) X.env).map (·.2) = assign e X.env :: (assignEach es X.env).map (·.2)) : PGs X (e :: es) (gsRdH W Wx (g :: gs)) := by
  refine PGs.imp (pgs_cons h1 h2 hs) fun vs σ H Q h => ?_
  obtain ⟨ps, ρ, h0, μ, r, s, rp, z⟩ := h
  cases ps with
  | nil => exact z.elim
  | cons p ps =>
    obtain ⟨x, xs, rfl, r1, r2⟩ := rp.cons_inv
    refine ⟨x, xs, rfl, p, ρ, h0, μ, r, s, r1, ?_⟩
    have z : wpG W Wx μ H (match g p ρ h0 with
      | .nx ρ' h' => hSeq gs ps ρ' h'
      | .exc c v ρ h => .exc c v ρ h
      | _ => .bad) Q := z
    cases e1 : g p ρ h0 with
    | nx ρ1 h1 =>
      rw [e1] at z
      exact fun μ' H' σ' E1 R1 S1 => ⟨ps, ρ1, h1, μ', R1, S1, r2.ext E1, wpG_ext E1 z⟩
    | exc c v ρ1 h1 => rw [e1] at z; exact z
    | _ => rw [e1] at z; exact z.elim
theorem sgh_tup {es : List Expr} {k : Nat} {gs : List TgH} (hK : W.K = X.K) (hc : X.calm = true) (h : PGs X es (gsRdH W Wx gs)) (hn : (assignEach es X.env).length = gs.length) (hst : (assignEach es X.env).findIdx? (·.1) = none) : PG X (.Tuple es k pos) (gRdH W Wx (hTup gs)) := by
  refine PG.imp (pg_tup (n := gs.length) hc h hn hst) fun v σ H Q h => ?_
  obtain ⟨p, ρ, h0, μ, r, s, rp, z⟩ := h
  cases p with
  | tup xs =>
    obtain ⟨a, vs, rfl, ha, rv⟩ := rp
    have z : wpG W Wx μ H ((if xs.length = gs.length then hSeq gs xs else sBad) ρ h0) Q := z
    by_cases hl : xs.length = gs.length
    · rw [if_pos hl] at z
      exact ⟨a, vs, rfl, .of ha, by rw [← rv.len]; exact hl, xs, ρ, h0, μ, r, s, rv, z⟩
    · rw [if_neg hl] at z; exact z.elim
  | kt xs =>
    obtain ⟨a, vs, rfl, ha, rv⟩ := rp
    rw [hK] at ha
    have z : wpG W Wx μ H ((if xs.length = gs.length then hSeq gs xs else sBad) ρ h0) Q := z
    by_cases hl : xs.length = gs.length
    · rw [if_pos hl] at z
      exact ⟨a, vs, rfl, ha, by rw [← rv.len]; exact hl, xs, ρ, h0, μ, r, s, rv, z⟩
    · rw [if_neg hl] at z; exact z.elim
  | _ => exact z.elim
theorem wpG_thn {α β : Type} {R : Rp α β} {μ : List Addr} {H : Hp} {r : Res α} {ρ : Rho} {σ : L2.St} {k : α → MH → SRes} {Q : L2.St → Hp → Prop} (s : RepS W.K μ H ρ σ) (x : wpG W Wx μ H (r.thn ρ k) Q) :
    wp W R μ H r (fun c d H' => Wx c d σ H') fun y H1 => ∃ p μ1 h1, Ext W.K μ H μ1 H1 ∧ Rel W μ1 h1 H1 ∧ R μ1 H1 p y ∧ wpG W Wx μ1 H1 (k p h1) Q := by
  cases r with
  | ok v h' => exact fun μ1 H1 y e R1 r1 => ⟨v, μ1, h', e, R1, r1, wpG_ext e x⟩
  | exc c v h' => exact fun μ1 H1 d y e1 R1 hd r1 => x μ1 H1 σ d y e1 R1 (s.ext e1) hd r1
  | bad => exact x
theorem asgSub_of (h : isSlice b = false) {env : Env} : ∀ v, assign (.Subscript a b pos) env v = (do
      let ov ← holding [v] (eval a env)
      let iv ← holding [v, ov] (eval b env)
      standAt pos
      holding [v, ov, iv] (setItem ov iv v)
      release [v, ov, iv] []) := fun v => by cases b <;> first | rfl | cases h
theorem sgh_sub (hu : X.A.units + 1 < cLine) (hsl : isSlice b = false) (ha : PE X a (rdE W Wx da)) (hb : PE X b (rdE W Wx db)) : PG X (.Subscript a b pos) (gRdH W Wx (hSub da db)) := by
  refine PG.imp (pg_sub (t := rSetP W) ha hb (set_setP hu) (asgSub_of hsl)) fun v σ H Q h => ?_
  obtain ⟨p, ρ, h0, μ, r, s, rp, z⟩ := h
  refine ⟨ρ, h0, μ, r, s, wp_imp (wpG_thn (R := repV W) s z) (fun _ _ _ z => z) fun o H1 z => ?_⟩
  obtain ⟨po, μ1, h1, E1, R1, ro, z⟩ := z
  refine ⟨ρ, h1, μ1, R1, s.ext E1, wp_imp (wpG_thn (R := repV W) (s.ext E1) z) (fun _ _ _ z => z) fun i H2 z => ?_⟩
  obtain ⟨pi, μ2, h2, E2, R2, ri, z⟩ := z
  cases e1 : setP po pi p h2 with
  | none => rw [e1] at z; exact z.elim
  | some h3 =>
    rw [e1] at z
    exact ⟨po, pi, p, μ2, h2, R2, ro.ext E2, ri, (rp.ext E1).ext E2, h3, e1, fun μ' H' E' R' => z μ' H' σ E' R' (((s.ext E1).ext E2).ext E')⟩
theorem ss_asgH {tg : Expr} {g : TgH} (he : PE X e (rdE W Wx da)) (hg : PG X tg (gRdH W Wx g)) (hs : swapsWithSole [tg] e pos.line X.env = pure false) (hw : swappedStores [tg] e X.env = pure none) (h1 : (assignEach [tg] X.env).map (·.2) = [assign tg X.env]) :
    PS X (.Assign [tg] e pos) (rdS W Wx (sAsgH da g)) := by
  refine PS.imp (ps_asg he hg hs hw h1) fun D σ H h => ?_
  obtain ⟨ρ, h0, μ, r, s, z⟩ := rdS_bind (R := repV W) (k := fun ρ v h1 => match g v ρ h1 with
    | .nx ρ' h' => .nx ρ' h'
    | .exc c v ρ h => .exc c v ρ h
    | _ => .bad) h
  refine ⟨ρ, h0, μ, r, s, wp_imp z (fun _ _ _ z => z) fun x H1 z => ?_⟩
  obtain ⟨ρ1, p, μ1, h1, a1, rp, z⟩ := z
  refine ⟨p, ρ1, h1, μ1, a1.rel, a1.reps, rp, ?_⟩
  cases e1 : g p ρ1 h1 with
  | nx ρ' h' => simp only [e1] at z; exact z
  | exc c v ρ' h' => simp only [e1] at z; exact z
  | _ => simp only [e1] at z; exact z.elim
end
end Mi

/-! ## Mth: in, isinstance, methods of lists and dicts -/
namespace Mi
open PySem PySem.Spec PyProof.Rows L2

/-! ### x in y -/
def memD (x y : PV) (h : MH) : Option Bool := match toD h 40 x, toD h 40 y with
  | some d, some e => (match e with
    | .list ds => if SeqAt.shaped d = true ∧ SeqAt.shaped (.list ds) = true then some (ds.any fun z => PyData.eqv z d) else none
    | .tuple ds => if SeqAt.shaped d = true ∧ SeqAt.shaped (.tuple ds) = true then some (ds.any fun z => PyData.eqv z d) else none
    | _ => none)
  | _, _ => none
def memP (x y : PV) (h : MH) : Option Bool := match dicOf y h with
  | some _ => (match dicK y x h with
    | some (_, kvs) => some (dGet kvs x).isSome
    | none => none)
  | none => memD x y h
/-- all comparisons -/
def cmpP (op : CmpOp) (x y : PV) (h : MH) : VR := match op with
  | .In => ofB (memP x y h) h
  | .NotIn => ofB ((memP x y h).map (!·)) h
  | op => cmpV op x y h
section
variable {X : Cx} {W : Wd}
theorem RepG.isSome {K : PySem.W.Frag} {μ : List Addr} {H : Hp} {p : Option PV} {o : Option V} (r : RepG K μ H p o) : p.isSome = o.isSome := by
  cases p <;> cases o <;> first | rfl | exact r.elim
theorem memD_go {P : Value → Shared → Prop} {pins : List (Addr × Obj)} {σ : L2.St} {H : Hp} {s : Shared} {x y : V} {v u : Value} {p q : PV} {μ : List Addr} {h0 : MH} {b : Bool} (hK : W.K = X.K) (hu : X.A.units + 65 < cLine) (I : Inv X pins σ H s) (rx : RelV x v) (ry : RelV y u) (R : Rel W μ h0 H) (rp : RepV W.K μ H p x) (rq : RepV W.K μ H q y) (e : memD p q h0 = some b) :
    (P (.bool b) s → wpAny (model X.prog X.w) X.A (compareOp .In v u) P X.xe s) ∧ (P (.bool !b) s → wpAny (model X.prog X.w) X.A (compareOp .NotIn v u) P X.xe s) := by
  unfold memD at e
  cases e1 : toD h0 40 p with
  | none => simp only [e1] at e; cases e
  | some d =>
    cases e2 : toD h0 40 q with
    | none => simp only [e1, e2] at e; cases e
    | some c =>
      simp only [e1, e2] at e
      have D1 := toD_dp R _ _ _ _ e1 rp
      have D2 := toD_dp R _ _ _ _ e2 rq
      rw [hK] at D1 D2
      obtain ⟨as, r1⟩ := Dp.reads I d x v D1 rx
      cases c with
      | list ds =>
        dsimp only at e
        by_cases hz : SeqAt.shaped d = true ∧ SeqAt.shaped (.list ds) = true
        · rw [if_pos hz] at e
          cases e
          obtain ⟨bs, r2⟩ := Dp.reads I (.list ds) y u D2 ry
          exact ⟨fun h => SeqAt.in_list_reads r2 r1 (SeqAt.canLay_of_shaped hz.2) (SeqAt.canLay_of_shaped hz.1) (room_in_shaped hz.1 hu) h, fun h => SeqAt.notIn_list_reads r2 r1 (SeqAt.canLay_of_shaped hz.2) (SeqAt.canLay_of_shaped hz.1) (room_in_shaped hz.1 hu) h⟩
        · rw [if_neg hz] at e; cases e
      | tuple ds =>
        dsimp only at e
        by_cases hz : SeqAt.shaped d = true ∧ SeqAt.shaped (.tuple ds) = true
        · rw [if_pos hz] at e
          cases e
          obtain ⟨bs, r2⟩ := Dp.reads I (.tuple ds) y u D2 ry
          exact ⟨fun h => SeqAt.in_tuple_reads r2 r1 (SeqAt.canLay_of_shaped hz.2) (SeqAt.canLay_of_shaped hz.1) (room_in_shaped hz.1 hu) h, fun h => SeqAt.notIn_tuple_reads r2 r1 (SeqAt.canLay_of_shaped hz.2) (SeqAt.canLay_of_shaped hz.1) (room_in_shaped hz.1 hu) h⟩
        · rw [if_neg hz] at e; cases e
      | _ => cases e
theorem op_memP (hK : W.K = X.K) (hu : X.A.units + 65 < cLine) (neg : Bool) : OpR X (compareOp (if neg then .NotIn else .In)) (r2 W fun x y h => ofB ((memP x y h).map fun b => if neg then !b else b) h) := by
  intro pins s σ H x y v u Q I rx ry h
  obtain ⟨p, q, μ, h0, R, rp, rq, z, h', e, po⟩ := h
  obtain ⟨b, e1, rfl, rfl⟩ := ofB_some e
  obtain ⟨b', e2, rfl⟩ := Option.map_eq_some_iff.mp e1
  unfold memP at e2
  cases e3 : dicOf q h' with
  | none =>
    simp only [e3] at e2
    obtain ⟨t1, t2⟩ := memD_go (P := EP X pins σ Q) hK hu I rx ry R rp rq e2
    cases neg with
    | false => exact t1 ⟨.bl b', H, I, rfl, po.here R rfl⟩
    | true => exact t2 ⟨.bl !b', H, I, rfl, po.here R rfl⟩
  | some _ =>
    simp only [e3] at e2
    cases e4 : dicK q p h' with
    | none => simp only [e4] at e2; cases e2
    | some nk =>
      obtain ⟨n, kvs⟩ := nk
      simp only [e4] at e2
      cases e2
      obtain ⟨a, H1, rfl, ha, hn, I1, E1, R1, d⟩ := dic_view I R e4 rq rp
      obtain ⟨o, g, rg⟩ := d.get
      cases (show u = Value.ref a from ry)
      have hu' : X.A.units + 1 < cLine := by omega
      cases neg with
      | false => exact d_in hu' I1 g rx fun s2 I2 => ⟨.bl o.isSome, H1, I2, rfl, by rw [← rg.isSome]; exact po _ _ (.bl _) E1 R1 rfl⟩
      | true => exact d_notIn hu' I1 g rx fun s2 I2 => ⟨.bl !o.isSome, H1, I2, rfl, by rw [← rg.isSome]; exact po _ _ (.bl _) E1 R1 rfl⟩
theorem op_cmpP (hK : W.K = X.K) (hu : X.A.units + 65 < cLine) (op : CmpOp) : OpR X (compareOp op) (r2 W (cmpP op)) := by
  cases op with
  | In =>
    have t := op_memP (W := W) hK hu false
    intro pins s σ H x y v u Q I rx ry h
    refine t pins s σ H x y v u Q I rx ry ?_
    obtain ⟨p, q, μ, h0, R, rp, rq, z, h', e, po⟩ := h
    refine ⟨p, q, μ, h0, R, rp, rq, z, h', ?_, po⟩
    rw [← e]
    show ofB _ _ = ofB _ _
    cases memP p q h0 <;> rfl
  | NotIn => exact op_memP hK hu true
  | Eq => exact op_cmpV hK (by omega) .Eq
  | NotEq => exact op_cmpV hK (by omega) .NotEq
  | Lt => exact op_cmpV hK (by omega) .Lt
  | LtE => exact op_cmpV hK (by omega) .LtE
  | Gt => exact op_cmpV hK (by omega) .Gt
  | GtE => exact op_cmpV hK (by omega) .GtE
  | Is => exact op_cmpV hK (by omega) .Is
  | IsNot => exact op_cmpV hK (by omega) .IsNot
/-! ### isinstance -/
def tyB (v : PV) (h : MH) : Option String := match v with
  | .non => some "NoneType"
  | .bl _ => some "bool"
  | .int _ => some "int"
  | .str _ => some "str"
  | .tup _ => some "tuple"
  | .kt _ => some "tuple"
  | .rol _ => some "list"
  | .ref n => (match h[n]? with
    | some (.lst _) => some "list"
    | some (.dic _) => some "dict"
    | _ => none)
def isiP (t : String) (v : PV) (h : MH) : VR := match tyB v h with
  | some a => ofB (kitB a t) h
  | none => none
def isiQ (t1 t2 : String) (v : PV) (h : MH) : VR := match tyB v h with
  | some a => (match kitB a t1 with
    | some true => some (.bl true, h)
    | some false => ofB (kitB a t2) h
    | none => none)
  | none => none
theorem tyB_ok {μ : List Addr} {H : Hp} {h : MH} {v : PV} {x : V} {a : String} (hK : W.K = X.K) (R : Rel W μ h H) (r : RepV W.K μ H v x) (e : tyB v h = some a) : TyX X.K H x (.type a) := by
  cases v with
  | non => cases e; rw [show x = .non from r]; exact .base .non
  | bl b => cases e; rw [show x = .bl b from r]; exact .base (.bl b)
  | int b => cases e; rw [show x = .int b from r]; exact .base (.int b)
  | str b => cases e; rw [show x = .str b from r]; exact .base (.str b)
  | tup xs =>
    cases e
    obtain ⟨a, vs, rfl, ha, _⟩ := r
    exact .base (.tup ha)
  | kt xs =>
    cases e
    obtain ⟨a, vs, rfl, ha, _⟩ := r
    rcases ha with (ha | ⟨o, ha⟩) | ⟨o, its, n, hl, hc, _⟩
    · exact .base (.tup ha)
    · exact .fTuple ha
    · rw [hK] at hl; exact .kTuple hl hc
  | rol xs =>
    cases e
    obtain ⟨a, vs, rfl, ha, _⟩ := r
    rcases ha with ⟨o, ha⟩ | ⟨o, its, n, hl, hc, _⟩
    · exact .base (.frz ha)
    · rw [hK] at hl; exact .kList hl hc
  | ref n =>
    have e : (match h[n]? with
      | some (.lst _) => some "list"
      | some (.dic _) => some "dict"
      | _ => none) = some a := e
    obtain ⟨b, hb, rfl⟩ := r
    cases hn : h[n]? with
    | none => rw [hn] at e; cases e
    | some o =>
      rw [hn] at e
      have q := R.obj _ _ _ hb hn
      cases o with
      | lst xs =>
        cases e
        obtain ⟨vs, h1, _⟩ := q
        exact .base (.lst h1)
      | dic kvs =>
        cases e
        rcases q with ⟨l, h1, _⟩ | ⟨l, h1, _⟩
        · exact .base (.dK h1)
        · exact .base (.dT h1)
      | ins c fs => cases e
variable {Wx : WX} {e : Expr} {da : Den} {pos p p2 p3 p4 : Pos} {t t2 : Str} {n n2 : String}
theorem se_isi (hK : W.K = X.K) (hg : Gl X "isinstance") (hm : X.mg "isinstance" = none) (hgT : Gl X t) (hmT : X.mg t = none) (hv : bootBuiltins t = some (.type n)) (hn : t ≠ "__name__") (hd : (t == ("__debug__" : Str)) = false) (he : PE X e (rdE W Wx da)) (hs : isStar e = false) :
    PE X (.Call (.Name "isinstance" p) [e, .Name t p2] [] pos) (rdE W Wx (dUn (isiP n) da)) := by
  refine PE.imp (pe_callB call_isi hg hm (by decide +kernel) (pa_cons he (pa_cons (pe_bltn hgT hmT hv (v := .ty n) rfl hn hd) pa_nil) (star_cons hs)) (he := star_cons hs)) fun σ H Q h => ?_
  obtain ⟨ρ, h0, μ, r, s, z⟩ := rd_bind (R := repV W) (R2 := repV W) (k := fun _ v h1 => Res.of (isiP n v h1)) h
  refine ⟨ρ, h0, μ, r, s, wp_imp z (fun _ _ _ z => z) fun x H1 z => ?_⟩
  obtain ⟨ρ1, q, μ1, h1, a1, rp, z⟩ := z
  obtain ⟨v, h', ev, po⟩ := wp_of z
  unfold isiP at ev
  cases e1 : tyB q h1 with
  | none => rw [e1] at ev; cases ev
  | some a =>
    rw [e1] at ev
    obtain ⟨b, e2, rfl, rfl⟩ := ofB_some ev
    exact ⟨x, .ty n, _, _, b, rfl, .ty n, tyB_ok hK a1.rel rp e1, kit_ty e2, po.here a1.rel rfl⟩
theorem se_isi2 (hK : W.K = X.K) (hg : Gl X "isinstance") (hm : X.mg "isinstance" = none) (hgT : Gl X t) (hmT : X.mg t = none) (hv : bootBuiltins t = some (.type n)) (hn : t ≠ "__name__") (hd : (t == ("__debug__" : Str)) = false)
    (hgT2 : Gl X t2) (hmT2 : X.mg t2 = none) (hv2 : bootBuiltins t2 = some (.type n2)) (hn2 : t2 ≠ "__name__") (hd2 : (t2 == ("__debug__" : Str)) = false) {k : Nat} (he : PE X e (rdE W Wx da)) (hs : isStar e = false) :
    PE X (.Call (.Name "isinstance" p) [e, .Tuple [.Name t p2, .Name t2 p3] k p4] [] pos) (rdE W Wx (dUn (isiQ n n2) da)) := by
  refine PE.imp (pe_callB call_isiT hg hm (by decide +kernel) (pa_cons he (pa_cons (pe_tup (pa_cons (pe_bltn hgT hmT hv (v := .ty n) rfl hn hd) (pa_cons (pe_bltn hgT2 hmT2 hv2 (v := .ty n2) rfl hn2 hd2) pa_nil))) pa_nil) (star_cons hs)) (he := star_cons hs)) fun σ H Q h => ?_
  obtain ⟨ρ, h0, μ, r, s, z⟩ := rd_bind (R := repV W) (R2 := repV W) (k := fun _ v h1 => Res.of (isiQ n n2 v h1)) h
  refine ⟨ρ, h0, μ, r, s, wp_imp z (fun _ _ _ z => z) fun x H1 z => ?_⟩
  obtain ⟨ρ1, q, μ1, h1, a1, rp, z⟩ := z
  obtain ⟨v, h', ev, po⟩ := wp_of z
  refine ⟨by show 2 ≤ sizeLine; decide, fun tp htp => ?_⟩
  have E : Ext W.K μ1 H1 μ1 (upd H1 tp (.tup [.ty n, .ty n2])) := Ext.fresh a1.rel htp
  have R2 := a1.rel.fresh (u := .tup [.ty n, .ty n2]) htp
  unfold isiQ at ev
  cases e1 : tyB q h1 with
  | none => rw [e1] at ev; cases ev
  | some a =>
    simp only [e1] at ev
    have ty := tyB_ok hK R2 (rp.ext E) e1
    have cl : Paired ClsV [V.ty n, V.ty n2] [Value.type n, Value.type n2] := .cons (.ty n) (.cons (.ty n2) .nil)
    cases e2 : kitB a n with
    | none => rw [e2] at ev; cases ev
    | some b =>
      rw [e2] at ev
      cases b with
      | true =>
        cases ev
        exact ⟨x, tp, _, _, _, true, rfl, upd_same, cl, ty, kitAny_cons (kit_ty e2) (fun z => nomatch z) (fun _ => rfl), po _ _ (.bl true) E R2 rfl⟩
      | false =>
        obtain ⟨b, e3, rfl, rfl⟩ := ofB_some ev
        refine ⟨x, tp, _, _, _, b, rfl, upd_same, cl, ty, kitAny_cons (kit_ty e2) (fun _ => kitAny_cons (r := b) (kit_ty e3) (fun z => by rw [z]; exact kitAny_nil) id) (fun z => nomatch z), po _ _ (.bl b) E R2 rfl⟩
end
end Mi

/-! ## Mt2: methods of lists and dicts -/
namespace Mi
open PySem PySem.Spec PyProof.Rows L2
abbrev MOp := PV → List PV → MH → VR
def appM : MOp := fun v vs h => match lstOf v h, one vs with
  | some (n, xs), some y => if xs.length < sizeLine then some (.non, h.set n (.lst (xs ++ [y]))) else none
  | _, _ => none
def extM : MOp := fun v vs h => match lstOf v h, one vs with
  | some (n, xs), some y => (match lstOf y h with
    | some (_, ys) => if xs.length + ys.length ≤ sizeLine then some (.non, h.set n (.lst (xs ++ ys))) else none
    | none => none)
  | _, _ => none
def popM : MOp := fun v _ h => match lstOf v h with
  | some (n, xs) => (match xs[xs.length - 1]? with
    | some y => some (y, h.set n (.lst xs.dropLast))
    | none => none)
  | none => none
def popI : MOp := fun v vs h => match lstOf v h, oneInt vs with
  | some (n, xs), some i => (match seqIndex? i xs.length with
    | some k => (match xs[k]? with
      | some y => if -(2 ^ 63) ≤ i ∧ i < 2 ^ 63 then some (y, h.set n (.lst (xs.eraseIdx k))) else none
      | none => none)
    | none => none)
  | _, _ => none
def revM : MOp := fun v _ h => match lstOf v h with
  | some (n, xs) => some (.non, h.set n (.lst xs.reverse))
  | none => none
def clrM : MOp := fun v _ h => match lstOf v h with
  | some (n, _) => some (.non, h.set n (.lst []))
  | none => none
def get1M : MOp := fun v vs h => match one vs with
  | some k => (match dicK v k h with
    | some (_, kvs) => some ((dGet kvs k).getD .non, h)
    | none => none)
  | none => none
def get2M : MOp := fun v vs h => match two vs with
  | some (k, d) => (match dicK v k h with
    | some (_, kvs) => some ((dGet kvs k).getD d, h)
    | none => none)
  | none => none
def isL (v : PV) (h : MH) : Bool := (lstOf v h).isSome
def isDi (v : PV) (h : MH) : Bool := (dicOf v h).isSome
def dMtd (chk : PV → MH → Bool) (op : MOp) (o : Den) (l : DenL) : Den := fun ρ h => (o ρ h).bind fun v h1 => if chk v h1 = true then (l ρ h1).bind fun vs h2 => Res.of (op v vs h2) else .bad
def rMt (W : Wd) (op : MOp) : V → List V → Hp → VK → Prop := fun x xs H Q => ∃ p ps μ h, Rel W μ h H ∧ RepV W.K μ H p x ∧ RepVs W.K μ H ps xs ∧ ∃ v h', op p ps h = some (v, h') ∧ Post W (repV W) μ H h' v Q
section
variable {X : Cx} {W : Wd}
theorem RepVs.dropLast {K : PySem.W.Frag} {μ : List Addr} {H : Hp} {vs : List PV} {xs : List V} (r : RepVs K μ H vs xs) : RepVs K μ H vs.dropLast xs.dropLast := by
  rw [List.dropLast_eq_take, List.dropLast_eq_take, ← r.len]
  exact r.take _
theorem RepVs.erase {K : PySem.W.Frag} {μ : List Addr} {H : Hp} : ∀ {vs : List PV} {xs : List V} (k : Nat), RepVs K μ H vs xs → RepVs K μ H (vs.eraseIdx k) (xs.eraseIdx k)
  | [], _, _, r => by
    rw [show _ = [] from r]
    exact rfl
  | _ :: _, _, 0, r => by
    obtain ⟨v, q, rfl, r1, r2⟩ := r
    exact r2
  | _ :: _, _, k + 1, r => by
    obtain ⟨v, q, rfl, r1, r2⟩ := r
    exact ⟨v, _, rfl, r1, RepVs.erase k r2⟩
theorem lst_write {μ : List Addr} {H : Hp} {h : MH} {n : Nat} {a : Addr} {ps : List PV} {vs : List V} {v : PV} {x : V} {Q : VK} (R : Rel W μ h H) (ha : μ[n]? = some a) (rv : RepVs W.K μ H ps vs) (po : Post W (repV W) μ H (h.set n (.lst ps)) v Q) (q : ∀ H', Ext W.K μ H μ H' → RepV W.K μ H' v x) : Q x (upd H a (.lst vs)) := by
  have E : Ext W.K μ H μ (upd H a (.lst vs)) := Ext.write R (List.mem_of_getElem? ha)
  exact po μ _ x E (R.write ha ⟨_, upd_same, rv.ext E⟩) (q _ E)
theorem mt_appM : MtR X "list.append" (rMt W appM) := by
  intro pins s σ H x xs v us Q I rx rs h
  obtain ⟨p, ps, μ, h0, R, rp, rps, z, h', e, po⟩ := h
  unfold appM at e
  cases e1 : lstOf p h0 with
  | none => simp only [e1] at e; cases e
  | some nk =>
    obtain ⟨n, ys⟩ := nk
    cases e2 : one ps with
    | none => simp only [e1, e2] at e; cases e
    | some y =>
      simp only [e1, e2] at e
      by_cases hz : ys.length < sizeLine
      · rw [if_pos hz] at e
        cases e
        obtain ⟨a, vs, rfl, ha, hn, hv, rvs⟩ := lstOf_rep R rp e1
        rw [one_some e2] at rps
        obtain ⟨w, rfl, rw_⟩ := rep1 rps
        exact mt_append pins s σ H _ _ v us Q I rx rs ⟨a, vs, w, rfl, rfl, hv, by rw [← rvs.len]; exact hz, lst_write R ha (rvs.app (.one rw_)) po fun _ _ => rfl⟩
      · rw [if_neg hz] at e; cases e
theorem mt_extM : MtR X "list.extend" (rMt W extM) := by
  intro pins s σ H x xs v us Q I rx rs h
  obtain ⟨p, ps, μ, h0, R, rp, rps, z, h', e, po⟩ := h
  unfold extM at e
  cases e1 : lstOf p h0 with
  | none => simp only [e1] at e; cases e
  | some nk =>
    obtain ⟨n, ys⟩ := nk
    cases e2 : one ps with
    | none => simp only [e1, e2] at e; cases e
    | some y =>
      simp only [e1, e2] at e
      cases e3 : lstOf y h0 with
      | none => simp only [e3] at e; cases e
      | some mk =>
        obtain ⟨m, zs⟩ := mk
        simp only [e3] at e
        by_cases hz : ys.length + zs.length ≤ sizeLine
        · rw [if_pos hz] at e
          cases e
          obtain ⟨a, vs, rfl, ha, hn, hv, rvs⟩ := lstOf_rep R rp e1
          rw [one_some e2] at rps
          obtain ⟨w, rfl, rw_⟩ := rep1 rps
          obtain ⟨b, ws, rfl, hb, hm, hw, rws⟩ := lstOf_rep R rw_ e3
          exact mt_extend pins s σ H _ _ v us Q I rx rs ⟨a, b, vs, ws, rfl, rfl, hv, hw, by rw [← rvs.len, ← rws.len]; exact hz, lst_write R ha (rvs.app rws) po fun _ _ => rfl⟩
        · rw [if_neg hz] at e; cases e
theorem mt_popM : MtR X "list.pop" (fun x xs H Q => xs = [] ∧ rMt W popM x xs H Q) := by
  intro pins s σ H x xs v us Q I rx rs h
  obtain ⟨rfl, p, ps, μ, h0, R, rp, rps, z, h', e, po⟩ := h
  unfold popM at e
  cases e1 : lstOf p h0 with
  | none => simp only [e1] at e; cases e
  | some nk =>
    obtain ⟨n, ys⟩ := nk
    simp only [e1] at e
    cases e2 : ys[ys.length - 1]? with
    | none => simp only [e2] at e; cases e
    | some y =>
      simp only [e2] at e
      cases e
      obtain ⟨a, vs, rfl, ha, hn, hv, rvs⟩ := lstOf_rep R rp e1
      obtain ⟨w, hw, rw_⟩ := rvs.get e2
      exact mt_pop pins s σ H _ _ v us Q I rx rs ⟨a, vs, w, rfl, rfl, hv, by rw [← rvs.len]; exact hw, lst_write R ha rvs.dropLast po fun _ E => rw_.ext E⟩
theorem mt_popI : MtR X "list.pop" (rMt W popI) := by
  intro pins s σ H x xs v us Q I rx rs h
  obtain ⟨p, ps, μ, h0, R, rp, rps, z, h', e, po⟩ := h
  unfold popI at e
  cases e1 : lstOf p h0 with
  | none => simp only [e1] at e; cases e
  | some nk =>
    obtain ⟨n, ys⟩ := nk
    cases e2 : oneInt ps with
    | none => simp only [e1, e2] at e; cases e
    | some i =>
      simp only [e1, e2] at e
      cases e3 : seqIndex? i ys.length with
      | none => simp only [e3] at e; cases e
      | some k =>
        simp only [e3] at e
        cases e4 : ys[k]? with
        | none => simp only [e4] at e; cases e
        | some y =>
          simp only [e4] at e
          by_cases hz : -(2 ^ 63) ≤ i ∧ i < 2 ^ 63
          · rw [if_pos hz] at e
            cases e
            obtain ⟨a, vs, rfl, ha, hn, hv, rvs⟩ := lstOf_rep R rp e1
            rw [oneInt_some e2] at rps
            obtain ⟨w, rfl, rw_⟩ := rep1 rps
            have rw_ : w = .int i := rw_
            subst rw_
            obtain ⟨w2, hw2, rw2⟩ := rvs.get e4
            exact mt_popAt pins s σ H _ _ v us Q I rx rs ⟨a, vs, i, k, w2, rfl, rfl, hv, hz.1, hz.2, by rw [← rvs.len]; exact e3, hw2, lst_write R ha (rvs.erase k) po fun _ E => rw2.ext E⟩
          · rw [if_neg hz] at e; cases e
theorem mt_revM : MtR X "list.reverse" (fun x xs H Q => xs = [] ∧ rMt W revM x xs H Q) := by
  intro pins s σ H x xs v us Q I rx rs h
  obtain ⟨rfl, p, ps, μ, h0, R, rp, rps, z, h', e, po⟩ := h
  unfold revM at e
  cases e1 : lstOf p h0 with
  | none => simp only [e1] at e; cases e
  | some nk =>
    obtain ⟨n, ys⟩ := nk
    simp only [e1] at e
    cases e
    obtain ⟨a, vs, rfl, ha, hn, hv, rvs⟩ := lstOf_rep R rp e1
    exact mt_reverse pins s σ H _ _ v us Q I rx rs ⟨a, vs, rfl, rfl, hv, lst_write R ha rvs.reverse po fun _ _ => rfl⟩
theorem mt_clrM : MtR X "list.clear" (fun x xs H Q => xs = [] ∧ rMt W clrM x xs H Q) := by
  intro pins s σ H x xs v us Q I rx rs h
  obtain ⟨rfl, p, ps, μ, h0, R, rp, rps, z, h', e, po⟩ := h
  unfold clrM at e
  cases e1 : lstOf p h0 with
  | none => simp only [e1] at e; cases e
  | some nk =>
    obtain ⟨n, ys⟩ := nk
    simp only [e1] at e
    cases e
    obtain ⟨a, vs, rfl, ha, hn, hv, rvs⟩ := lstOf_rep R rp e1
    exact mt_clear pins s σ H _ _ v us Q I rx rs ⟨a, vs, rfl, rfl, hv, lst_write (ps := []) (vs := []) R ha rfl po fun _ _ => rfl⟩
theorem RepG.getD {K : PySem.W.Frag} {μ : List Addr} {H : Hp} {p : Option PV} {o : Option V} {d : PV} {x : V} (r : RepG K μ H p o) (rd : RepV K μ H d x) : RepV K μ H (p.getD d) (o.getD x) := by
  cases p <;> cases o <;> first | exact rd | exact r | exact r.elim
theorem mt_get1 (hu : X.A.units + 1 < cLine) : MtR X "dict.get" (rMt W get1M) := by
  intro pins s σ H x xs v us Q I rx rs h
  obtain ⟨p, ps, μ, h0, R, rp, rps, z, h', e, po⟩ := h
  unfold get1M at e
  cases e2 : one ps with
  | none => simp only [e2] at e; cases e
  | some k =>
    simp only [e2] at e
    cases e1 : dicK p k h0 with
    | none => simp only [e1] at e; cases e
    | some nk =>
      obtain ⟨n, kvs⟩ := nk
      simp only [e1] at e
      cases e
      rw [one_some e2] at rps
      obtain ⟨w, rfl, rw_⟩ := rep1 rps
      obtain ⟨a, H1, rfl, ha, hn, I1, E1, R1, d⟩ := dic_view I R e1 rp rw_
      obtain ⟨o, g, rg⟩ := d.get
      cases (show v = Value.ref a from rx)
      obtain ⟨u, rfl, ru⟩ := vals1 rs
      exact d_get1 hu I1 g ru fun w' s3 I3 r3 => ⟨_, H1, I3, r3, po _ _ _ E1 R1 (rg.getD rfl)⟩
theorem mt_get2 (hu : X.A.units + 1 < cLine) : MtR X "dict.get" (rMt W get2M) := by
  intro pins s σ H x xs v us Q I rx rs h
  obtain ⟨p, ps, μ, h0, R, rp, rps, z, h', e, po⟩ := h
  unfold get2M at e
  cases e2 : two ps with
  | none => simp only [e2] at e; cases e
  | some kd =>
    obtain ⟨k, df⟩ := kd
    simp only [e2] at e
    cases e1 : dicK p k h0 with
    | none => simp only [e1] at e; cases e
    | some nk =>
      obtain ⟨n, kvs⟩ := nk
      simp only [e1] at e
      cases e
      rw [two_some e2] at rps
      obtain ⟨w, w2, rfl, rw_, rw2⟩ := rep2 rps
      obtain ⟨a, H1, rfl, ha, hn, I1, E1, R1, d⟩ := dic_view I R e1 rp rw_
      obtain ⟨o, g, rg⟩ := d.get
      cases (show v = Value.ref a from rx)
      obtain ⟨u, u2, rfl, ru, ru2⟩ := vals2 rs
      exact d_get2 hu I1 g ru ru2 fun w' s3 I3 r3 => ⟨_, H1, I3, r3, po _ _ _ E1 R1 (rg.getD (rw2.ext E1))⟩
/-! ### the calls -/
variable {Wx : WX} {o e : Expr} {es : List Expr} {od : Den} {la : DenL} {name : Str} {apos cpos : Pos} {T id : String} {op : MOp} {chk : PV → MH → Bool}
def ChkOk (X : Cx) (W : Wd) (T : String) (chk : PV → MH → Bool) : Prop := ∀ {v : PV} {x : V} {μ : List Addr} {h : MH} {H : Hp}, Rel W μ h H → RepV W.K μ H v x → chk v h = true → tyV X.K T x H
theorem chkL : ChkOk X W "list" isL := fun {v x μ h H} R r e => by
  unfold isL at e
  cases e1 : lstOf v h with
  | none => rw [e1] at e; cases e
  | some nk =>
    obtain ⟨a, vs, rfl, ha, hn, hv, rvs⟩ := lstOf_rep (n := nk.1) (xs := nk.2) R r e1
    exact .inl ⟨rfl, vs, .inl (.inl hv)⟩
theorem chkD : ChkOk X W "dict" isDi := fun {v x μ h H} R r e => by
  unfold isDi at e
  cases e1 : dicOf v h with
  | none => rw [e1] at e; cases e
  | some nk =>
    obtain ⟨rfl, hn⟩ := dicOf_some (n := nk.1) (kvs := nk.2) e1
    obtain ⟨a, ha, rfl⟩ := r
    have q := R.obj _ _ _ ha hn
    refine .inr (.inr (.inl ⟨rfl, ?_⟩))
    rcases q with ⟨l, h1, _⟩ | ⟨l, h1, _⟩
    · exact .inl ⟨_, h1⟩
    · exact .inr ⟨_, h1⟩
def isCall0 : Expr → Bool
  | .Call _ [] [] _ => true
  | _ => false
theorem base_of {m : Str} {env : Env} {wh : Sem Value} (h : isCall0 o = false) : attributeBase o m env wh = wh := by
  unfold attributeBase
  split
  · cases h
  · rfl
theorem stars_all {env : Env} : ∀ {es : List Expr}, es.any isStar = false → (backTo cpos (starEach es env)).all (fun x => !x.1) = true
  | [], _ => rfl
  | e :: es, h => by
    rw [List.any_cons, Bool.or_eq_false_iff] at h
    rw [star_cons h.1]
    show (!false && (backTo cpos (starEach es env)).all fun x => !x.1) = true
    rw [stars_all h.2]
    rfl
theorem few_of {env : Env} (hs : es.any isStar = false) (hl : es.length < 30) : ((backTo cpos (starEach es env)).all (fun x => !x.1) && (backToKw cpos (keywordEach [] env)).all (fun x => x.1.isSome)
    && decide (es.length + ([] : List Keyword).length + (if ([] : List Keyword).isEmpty then 0 else 1) < 30)) = true := by
  rw [stars_all hs]
  show (true && true && decide (es.length + 0 + 0 < 30)) = true
  simp [hl]
theorem se_mtd (hK : W.K = X.K) (hc : ChkOk X W T chk) (pa : PlainAttrs T) (slot : Slot T name id) (hty : typeOf (.builtin id) = pure (.type "method_descriptor")) (hm : MtR X id (rMt W op)) (ho : PE X o (rdE W Wx od)) (ha : PA X (e :: es) (rdL W Wx la))
    (hb : isCall0 o = false) (hline : (apos.endLine == cpos.line) = true) (hs : (e :: es).any isStar = false) (hl : (e :: es).length < 30) :
    PE X (.Call (.Attribute o name apos) (e :: es) [] cpos) (rdE W Wx (dMtd chk op od la)) := by
  have hs' := hs
  rw [List.any_cons, Bool.or_eq_false_iff] at hs'
  refine PE.imp (pe_bm pa slot hty hm ho ha (base_of hb) (few_of hs hl) hline (star_cons hs'.1) (nostar_any hs'.2)) fun σ H Q h => ?_
  obtain ⟨ρ, h0, μ, r, s, z⟩ := rd_bind (R := repV W) (R2 := repV W) (k := fun ρ v h1 => if chk v h1 = true then (la ρ h1).bind fun vs h2 => Res.of (op v vs h2) else .bad) h
  refine ⟨ρ, h0, μ, r, s, wp_imp z (fun _ _ _ z => z) fun x H1 z => ?_⟩
  obtain ⟨ρ1, p, μ1, h1, a1, rp, z⟩ := z
  by_cases hk : chk p h1 = true
  · rw [if_pos hk] at z
    refine ⟨hc a1.rel rp hk, ρ1, h1, μ1, a1.rel, a1.reps, wp_imp (wp_bind (R := repL W) z) (fun _ _ _ z => z) fun xs H2 z => ?_⟩
    obtain ⟨ps, μ2, h2, E2, R2, rps, z⟩ := z
    obtain ⟨v, h', ev, po⟩ := wp_of z
    exact ⟨p, ps, μ2, h2, R2, rp.ext E2, rps, v, h', ev, po⟩
  · rw [if_neg hk] at z; exact z.elim
theorem se_mtd0 {r : V → List V → Hp → VK → Prop} (hK : W.K = X.K) (hc : ChkOk X W T chk) (pa : PlainAttrs T) (slot : Slot T name id) (hty : typeOf (.builtin id) = pure (.type "method_descriptor")) (hm : MtR X id r) (hr : ∀ x H Q, rMt W op x [] H Q → r x [] H Q) (ho : PE X o (rdE W Wx od))
    (hb : isCall0 o = false) (hline : (apos.endLine == cpos.line) = true) :
    PE X (.Call (.Attribute o name apos) [] [] cpos) (rdE W Wx (dMtd chk op od lNil)) := by
  refine PE.imp (pe_bm0 pa slot hty hm ho (base_of hb) hline) fun σ H Q h => ?_
  obtain ⟨ρ, h0, μ, r, s, z⟩ := rd_bind (R := repV W) (R2 := repV W) (k := fun ρ v h1 => if chk v h1 = true then (lNil ρ h1).bind fun vs h2 => Res.of (op v vs h2) else .bad) h
  refine ⟨ρ, h0, μ, r, s, wp_imp z (fun _ _ _ z => z) fun x H1 z => ?_⟩
  obtain ⟨ρ1, p, μ1, h1, a1, rp, z⟩ := z
  by_cases hk : chk p h1 = true
  · rw [if_pos hk] at z
    have z : wp W (repV W) μ1 H1 (Res.of (op p [] h1)) (fun c d H' => Wx c d σ H') Q := z
    obtain ⟨v, h', ev, po⟩ := wp_of z
    exact ⟨hc a1.rel rp hk, hr _ _ _ ⟨p, [], μ1, h1, a1.rel, rp, rfl, v, h', ev, po⟩⟩
  · rw [if_neg hk] at z; exact z.elim
/-- one of two readings -/
theorem PE.or {t t' : TE} (h : PE X e t) (h' : PE X e t') : PE X e (fun σ H Q => t σ H Q ∨ t' σ H Q) := ⟨fun pins s σ H Q I q => q.elim (fun q => h.run pins s σ H Q I q) fun q => h'.run pins s σ H Q I q⟩
/-- by the receiver's kind -/
def dKin (chk : PV → MH → Bool) (o a b : Den) : Den := fun ρ h => match o ρ h with
  | .ok v h1 => if chk v h1 = true then a ρ h else b ρ h
  | _ => a ρ h
theorem se_kin {da db : Den} (h : PE X e (rdE W Wx da)) (h' : PE X e (rdE W Wx db)) : PE X e (rdE W Wx (dKin chk od da db)) := by
  refine PE.imp (PE.or h h') fun σ H Q z => ?_
  obtain ⟨ρ, h0, μ, r, s, z⟩ := z
  unfold dKin at z
  cases e1 : od ρ h0 with
  | ok v h1 =>
    rw [e1] at z
    by_cases hk : chk v h1 = true
    · simp only [hk, if_true] at z
      exact .inl ⟨ρ, h0, μ, r, s, z⟩
    · simp only [hk, if_false] at z
      exact .inr ⟨ρ, h0, μ, r, s, z⟩
  | exc c v h1 => rw [e1] at z; exact .inl ⟨ρ, h0, μ, r, s, z⟩
  | bad => rw [e1] at z; exact .inl ⟨ρ, h0, μ, r, s, z⟩
end
end Mi

/-! ## Dc: dict comprehensions, keys of either kind -/
namespace Mi
open PySem PySem.Spec PyProof.Rows L2
/-- one entry is laid; the empty dict takes the first key's kind -/
def DStep (H : Hp) (D : Addr) (y z : V) (H6 : Hp) : Prop := ∃ H', (H' = H ∨ (H D = some (.dK []) ∧ H' = upd H D (.dT []))) ∧ DPut H' D y z H6
section
variable {X : Cx} {pins : List (Addr × Obj)} {σ : L2.St} {H : Hp} {s : Shared}
theorem step_ok {E : Value → Shared → Prop} {D : Addr} {y z : V} {u r : Value} {H6 : Hp} {Q : Unit → Shared → Prop} (hu : X.A.units + 1 < cLine) (I : Inv X pins σ H s) (g : DStep H D y z H6) (ry : RelV y u) (rv : RelV z r) (k : ∀ s', Inv X pins σ H6 s' → Q () s') : wpAny (model X.prog X.w) X.A (dictSet D u r) Q E s := by
  obtain ⟨H', c, p⟩ := g
  have I' : Inv X pins σ H' s := by
    rcases c with rfl | ⟨e, rfl⟩
    · exact I
    · exact toT I e
  rcases p with ⟨l, kk, e, rfl, hl, rfl⟩ | ⟨l, kk, b, e, rfl, eb, hl, rfl⟩
  · exact d_dictSet I' e hl ry rv k
  · obtain rfl : u = Value.ref b := ry
    obtain ⟨zz, hd, xs, rel, dd⟩ := dt_of I'.hok e
    have sz : xs.length ≤ sizeLine := by rw [← Paired.length rel]; exact zz
    have hp : (putK l kk z).length ≤ sizeLine := by have := length_putK l kk z; omega
    refine wpAny_dictSet_heap (hsz := sz) (show X.A.units < cLine from Nat.lt_of_succ_lt hu) (key_of I'.hok eb) dd fun h2 dd2 sb => k _ ?_
    obtain ⟨ob, es, ep, g1, g2, g3, g4, _, g5⟩ := dd2
    refine d_write I' (by rw [e]; exact True.intro) sb ⟨ob, g1⟩ ⟨hp, hd, _, (rel.put kk eb rv).keeps fun c ys ec => ?_, ob, es, ep, g1, g2, g3, g4, g5⟩
    rw [upd_ne (ne_of ec e fun q => nomatch q)]
    exact ec
/-- the reading of {k: v for .. in .. if ..} -/
def tDcA (wi : TI) (g : TG) (tt : TT) (tk tv : TE) (vs : List Nat) : TE := fun σ H Q => wi σ H fun J HA => ∀ D, HA D = none → ∃ Wm : Nat → Nat → Hp → Prop, (∃ m, Wm 0 m (upd HA D (.dK []))) ∧ ∀ i m H, Wm i m H →
  (J.stop i H ∧ Q (.ref D) H) ∨ (J.go i H ∧ ∃ Nx : Hp → Prop, (∀ H', Nx H' → ∃ m', m' < m ∧ Wm (i + 1) m' H') ∧ ∀ x H', J.yld i H x H' → g x (L2.wipe σ vs) H' fun σ2 H2 => L2.wipe σ2 vs = L2.wipe σ vs ∧ tt σ2 H2 fun b H3 =>
    if b = true then tk σ2 H3 fun y H4 => tv σ2 H4 fun z H5 => ∃ H6, DStep H5 D y z H6 ∧ Nx H6 else Nx H3)
variable {kx vx tg iter : Expr} {ifs : List Expr} {scope : Scope} {own : List (Str × Nat)} {pos p' : Pos} {wi : TI} {g : TG} {tt : TT} {tk tv : TE} {use : Option (Value → Sem Unit)} {Qf : Value → Shared → Prop} {Q : VK}
theorem dcA_core (hu : X.A.units + 1 < cLine) (calm : X.calm = true) (nd : X.N.Nodup) (I : Inv X pins σ H s) (hi : PI X tg iter wi) (ok : BlkOk X.N X.env.scope scope own) (hg : ∀ Y, BK X scope Y → PG Y tg g) (ht : ∀ Y, BK X scope Y → PTs Y ifs tt) (hk : ∀ Y, BK X scope Y → PE Y kx tk) (hv : ∀ Y, BK X scope Y → PE Y vx tv)
    (hs : ∀ x, foldedSetIterable iter X.env x = pure x) (hw : tDcA wi g tt tk tv (own.map (·.2)) σ H Q)
    (fin : ∀ D C s' m H', Inv X pins σ H' s' → Q (.ref D) H' → s'.heap.Ns C m → FpOk X pins H' C → compPost (model X.prog X.w) X.A X.xe use Qf (.ref D) C (.ok .next) s') :
    wpAny (model X.prog X.w) X.A (comprehension (.DictComp kx vx [⟨tg, iter, ifs, 0⟩] scope pos) scope X.env p' newDict false (eval iter X.env) use) Qf X.xe s := by
  have cells : ∀ y ∈ scope.names, y.2 = .free → ∃ c, X.env.cells.lookup y.1 = some c := fun y hy e => (ok.free y hy e).elim (fun q => I.ok.has _ (.inl q)) fun q => I.ok.has _ (.inr q)
  refine wpAny_comprehension_free (use := use) rfl hs (closure_ok cells) ok.kind (fun y hy e => (ok.uniq y hy).trans (by rw [e])) (thn (hi.run pins s σ H _ I hw) fun _ _ t => thn t fun _ sB t2 => ?_)
  obtain ⟨it, fp, tn, J, HB, e, IB, T, stB, fB, q⟩ := t2
  subst e
  refine wpAny_newObj_type (newEnv_comp ?_)
  obtain ⟨D, hD⟩ : ∃ D, sB.heap.objs.size = D := ⟨_, rfl⟩
  rw [hD]
  have newD : HB D = none := IB.hok.fresh (Nat.le_of_eq hD)
  obtain ⟨Wm, ⟨m0, start⟩, turn⟩ := q D newD
  obtain ⟨sC, hC⟩ : ∃ sC : Shared, ({ sB with heap := sB.heap.push { cls := .type "dict", data := .dict #[] } } : Shared) = sC := ⟨_, rfl⟩
  obtain ⟨HC, hHC⟩ : ∃ HC, upd HB D (.dK []) = HC := ⟨_, rfl⟩
  rw [hHC] at start
  have heapC : sC.heap = sB.heap.push { cls := .type "dict", data := .dict #[] } := congrArg Shared.heap hC.symm
  have IC : Inv X pins σ HC sC := by
    subst hC hHC
    refine IB.laid (t' := sB.toks) (fun _ _ => Heap.get?_push_of_some _) (Nat.le_of_eq hD) ?_
    subst hD
    exact dk_empty sB.heap IB.big
  have lowB : ∀ b ∈ fp, b < sB.heap.objs.size := fun b hb => let ⟨_, e, _⟩ := T.obj _ _ stB b hb; Heap.lt_size e
  have fC : ∀ b ∈ fp, FpOk X pins HC b ∧ b < sC.heap.objs.size := fun b hb => by
    refine ⟨⟨?_, (fB b hb).2⟩, by rw [heapC, Heap.size_push]; exact Nat.lt_succ_of_lt (lowB b hb)⟩
    subst hHC
    rw [upd_ne (fun q => absurd (lowB b hb) (by rw [q, hD]; exact Nat.lt_irrefl _))]
    exact (fB b hb).1
  have stC : tn 0 sC.heap := T.keep _ _ _ stB fun _ _ _ e => heapC ▸ Heap.get?_push_of_some _ e
  obtain ⟨cl, hcl⟩ : ∃ cl, cellsFrom (sC.heap.objs.size + 1) scope.names (cloFrom X.env.cells scope.names []) = cl := ⟨_, rfl⟩
  have ID := block_start IC ok nd fC
  rw [hcl] at ID
  have bk : BK X scope (X.blk sC HC scope (compEnvC scope cl sC.heap.objs.size X.env) fp) := ⟨_, _, _, _, _, rfl⟩
  have pg := hg _ bk
  have pt := ht _ bk
  have pk := hk _ bk
  have pv := hv _ bk
  clear bk hg ht hk hv
  obtain ⟨ce, hce⟩ : ∃ ce, compEnvC scope cl sC.heap.objs.size X.env = ce := ⟨_, rfl⟩
  have ceL : ce.locals = sC.heap.objs.size := by rw [← hce] <;> rfl
  obtain ⟨sD, hsD⟩ : ∃ sD : Shared, ({ sC with heap := pushCells (sC.heap.push { cls := .type "dict", data := .dict #[] }) scope.names } : Shared) = sD := ⟨_, rfl⟩
  have goal : codeAny (model X.prog X.w) X.A (.compStart (.DictComp kx vx [⟨tg, iter, ifs, 0⟩] scope pos) 0 (.ref it) (.ref D) ce) (compPost (model X.prog X.w) X.A X.xe use Qf (.ref D) sC.heap.objs.size) sD := by
    rw [hce] at ID pg pt pk pv
    rw [hsD] at ID
    have stD : tn 0 sD.heap := T.keep _ _ _ stC fun _ _ _ e => hsD ▸ pushCells_keeps _ _ _ _ (Heap.get?_push_of_some _ e)
    have still : ∀ {σ' : L2.St} {H' : Hp} {s' : Shared}, Inv (X.blk sC HC scope ce fp) [] σ' H' s' → (∀ b ∈ fp, H' b = none) → ∀ b ∈ fp, FpOk (X.blk sC HC scope ce fp) [] H' b := fun {_ _ _} J n b hb =>
      ⟨n b hb, (J.ok.exf b hb).1, J.ok.exfs b hb, .inl hb, fun x c e => (J.ok.exf b hb).2 x c e, fun p hp => absurd (show p ∈ ([] : List (Addr × Obj)) from hp) (by simp)⟩
    have lp : codeAny (model X.prog X.w) X.A (.compLoop (.DictComp kx vx [⟨tg, iter, ifs, 0⟩] scope pos) 0 (.ref it) (.ref D) ce) (compPost (model X.prog X.w) X.A X.xe use Qf (.ref D) sC.heap.objs.size) sD := by
      refine compLoop_anyD (fun n t => ∃ i K, Inv (X.blk sC HC scope ce fp) [] (L2.wipe σ (own.map (·.2))) K t ∧ tn i t.heap ∧ (∀ b ∈ fp, K b = none) ∧ Wm i n K) ?_ m0 ⟨0, HC, ID, stD, fun b hb => (fC b hb).1.1, start⟩
      rintro n t5 ⟨i, K5, J5, st5, n5, w5⟩
      rcases turn i n K5 w5 with ⟨stop, qq⟩ | ⟨go, Nx, nxt, step⟩
      · refine thnF (T.done (X.blk sC HC scope ce fp) rfl rfl rfl calm i [] t5 _ K5 (fun _ _ => False) J5 (still J5 n5) st5 stop) fun r t6 ⟨hr, J6⟩ => ?_
        subst hr
        have back : Inv X pins σ K5 t6 := IC.call' (ch := fp) J6.os J6.base J6.hok J6.bare fun b hb => let z := (fC b hb).1.2; ⟨z.2.2.1, z.1, z.2.2.2.1, z.2.2.2.2⟩
        have nC : K5 sC.heap.objs.size = none := ceL ▸ (show K5 ce.locals = none from J6.free)
        obtain ⟨m, ns, _⟩ := J6.loc
        have ns : t6.heap.Ns ce.locals m := ns
        exact fin D sC.heap.objs.size t6 m K5 back qq (ceL ▸ ns) (IC.fpOk (Nat.le_refl _) nC)
      · refine thnF (T.item (X.blk sC HC scope ce fp) rfl rfl rfl calm i [] t5 _ K5 (fun _ _ => False) J5 (still J5 n5) st5 go) fun r t6 ⟨u, hr, h6⟩ => ?_
        subst hr
        refine thnF h6 fun _ t7 ⟨x, K7, J7, r7, y7, st7, n7⟩ => ?_
        have J7' := J7.pinned (still J7 n7) (T.obj _ _ st7)
        refine thnF (pg.run _ t7 _ K7 x u _ J7' r7 (step x K7 y7)) fun _ t8 ⟨σ8, K8, J8, w8, q8⟩ => ?_
        refine thnF (pt.run _ t8 σ8 K8 _ J8 q8) fun b t9 ⟨K9, J9, q9⟩ => ?_
        have over : ∀ {t : Shared} {K : Hp}, Inv (X.blk sC HC scope ce fp) ([] ++ pinsAt fp t7.heap) σ8 K t → Nx K → ∃ m, m < n ∧ ∃ i K, Inv (X.blk sC HC scope ce fp) [] (L2.wipe σ (own.map (·.2))) K t ∧ tn i t.heap ∧ (∀ b ∈ fp, K b = none) ∧ Wm i m K := fun {t K} J nx => by
          obtain ⟨m', lt, w'⟩ := nxt K nx
          have pinned : ∀ b ∈ fp, ∀ o, t7.heap.get? b = some o → t.heap.get? b = some o ∧ K b = none := fun b hb o e =>
            let z := J.pin (b, o) (List.mem_append_right _ (List.mem_append_right _ (mem_pinsAt hb e)))
            ⟨z.1, z.2.1⟩
          have len : (L2.wipe σ (own.map (·.2))).length = σ8.length := w8 ▸ wipe_length _ _
          refine ⟨m', lt, i + 1, K, (J.unpinned (pins := [])).weak len (fun j v e => (wipe_some (w8 ▸ e)).1), T.keep _ _ _ st7 fun b hb o e => (pinned b hb o e).1, fun b hb => ?_, w'⟩
          obtain ⟨o, e, _⟩ := T.obj _ _ st7 b hb
          exact (pinned b hb o e).2
        cases b with
        | false => exact iteF (over J9 (by simpa using q9))
        | true =>
          rw [if_pos rfl] at q9
          refine iteT (thnF (pk.run _ t9 σ8 K9 _ J9 q9) fun z t10 ⟨yk, K10, J10, r10, q10⟩ => ?_)
          refine thnF (pv.run _ t10 σ8 K10 _ J10 q10) fun z2 t11 ⟨yv, K11, J11, r11, K12, ds, nx⟩ => ?_
          exact step_ok (X := X.blk sC HC scope ce fp) hu J11 ds r10 r11 fun t12 J12 => over J12 nx
    exact codeAny_compStart_dict lp (T.self X.A 0 _ _ _ stD lp)
  subst hsD hce hcl hC hD
  exact goal
theorem pe_dcA (hu : X.A.units + 1 < cLine) (calm : X.calm = true) (nd : X.N.Nodup) (hi : PI X tg iter wi) (ok : BlkOk X.N X.env.scope scope own) (hg : ∀ Y, BK X scope Y → PG Y tg g) (ht : ∀ Y, BK X scope Y → PTs Y ifs tt) (hk : ∀ Y, BK X scope Y → PE Y kx tk) (hv : ∀ Y, BK X scope Y → PE Y vx tv)
    (hs : ∀ x, foldedSetIterable iter X.env x = pure x) : PE X (.DictComp kx vx [⟨tg, iter, ifs, 0⟩] scope pos) (tDcA wi g tt tk tv (own.map (·.2))) := by
  refine ⟨fun pins s σ H Q I h => ?_⟩
  rw [arm_eval_DictComp]
  refine dcA_core hu calm nd I hi ok hg ht hk hv hs h fun D C s' m H' I' q ns f => ⟨m, ns, fun h2 sb => ?_⟩
  exact ⟨.ref D, H', I'.turned (t' := s'.toks) (fun b o hb e => (sb.2 b hb).trans e) f.1 f.2.1 f.2.2.2.1 f.2.2.2.2.1 f.2.2.2.2.2, rfl, q⟩
end
/-! ### its plain meaning -/
def tnEnt (tt : DenB) (tk tv : Den) : Rho → List (PV × PV) → MH → Res (List (PV × PV)) := fun ρ acc h => match tt ρ h with
  | .ok b h1 => (match b with
    | true => (match tk ρ h1 with
      | .ok k h2 => (match tv ρ h2 with
        | .ok v h3 => if acc.length < sizeLine ∧ (keyOf k).isSome = true ∧ sameK acc k = true then .ok (dPut acc k v) h3 else .bad
        | _ => .bad)
      | _ => .bad)
    | false => .ok acc h1)
  | _ => .bad
def dDc (di : DenI) (own : List Nat) (g : TgD) (turn : Rho → List (PV × PV) → MH → Res (List (PV × PV))) : Den := fun ρ h => (di ρ h).bind fun s h1 => (match lpF s g turn (wipeR ρ own) (s.size h1) 0 [] h1 with
  | .ok acc h2 => .ok (.ref h2.length) (h2 ++ [.dic acc])
  | _ => .bad)
def RepDc (W : Wd) : RepAcc (List (PV × PV)) := fun μ H acc o => (∃ l, o = .dK l ∧ RepKs W.K μ H acc l) ∨ ∃ l, o = .dT l ∧ RepTs W.K μ H acc l ∧ acc ≠ []
section
variable {W : Wd} {X : Cx} {μ : List Addr} {H : Hp}
theorem accD : AccOk W (RepDc W) := ⟨fun E z => by
  rcases z with ⟨l, e, r⟩ | ⟨l, e, r, n⟩
  · exact .inl ⟨l, e, r.ext E⟩
  · exact .inr ⟨l, e, r.ext E, n⟩, fun z => by
  rcases z with ⟨l, e, r⟩ | ⟨l, e, r, n⟩ <;> (rw [e]; rfl)⟩
theorem RepKs.upTo {K : PySem.W.Frag} {μ' : List Addr} {H' : Hp} {kvs : List (PV × PV)} {l : List (Key × V)} (E : Up K μ H μ' H') (r : RepKs K μ H kvs l) : RepKs K μ' H' kvs l := r.imp (fun _ _ q => E.at q) E.tp E.st E.sr
theorem RepTs.upTo {K : PySem.W.Frag} {μ' : List Addr} {H' : Hp} {kvs : List (PV × PV)} {l : List (List Key × V)} (E : Up K μ H μ' H') (r : RepTs K μ H kvs l) : RepTs K μ' H' kvs l := r.imp (fun _ _ q => E.at q) E.tp E.st E.sr
theorem dPut_ne {kvs : List (PV × PV)} {k v : PV} : dPut kvs k v ≠ [] := by
  unfold dPut
  split
  · rename_i h
    cases kvs with
    | nil => cases h
    | cons p r => exact fun z => by cases z
  · exact fun z => by simp at z
theorem gat_step {D : Addr} {μ1 : List Addr} {H1 : Hp} {h : MH} {acc : List (PV × PV)} {k v : PV} {y z : V} (hD : H1 D = none) (G : Gat W (RepDc W) D μ1 H1 μ h H acc) (rk : RepV W.K μ H k y) (rv : RepV W.K μ H v z) (hz : acc.length < sizeLine) (ks : (keyOf k).isSome = true) (sk : sameK acc k = true) :
    ∃ H6, DStep H D y z H6 ∧ Up W.K μ H μ H6 ∧ Gat W (RepDc W) D μ1 H1 μ h H6 (dPut acc k v) := by
  obtain ⟨kk, ek⟩ := Option.isSome_iff_exists.mp ks
  obtain ⟨o, eo, ro⟩ := G.at_
  rcases keyOf_some ek with ⟨q, rfl, rfl⟩ | ⟨q, rfl, rfl⟩
  · have ey := rep_pvK rk
    subst ey
    rcases ro with ⟨l, rfl, r⟩ | ⟨l, rfl, r, nn⟩
    · exact ⟨_, ⟨H, .inl rfl, .k eo (by rw [← r.len]; exact hz)⟩, G.putUp accD, G.put accD hD (.inl ⟨_, rfl, (r.put q rv).upTo (G.putUp accD)⟩)⟩
    · cases r with
      | nil => exact absurd rfl nn
      | cons r _ =>
        rw [sameK, List.all_cons, isTup_pvK] at sk
        simp [isTup] at sk
  · obtain ⟨b, rfl, hb⟩ := rep_tupK rk
    rcases ro with ⟨l, rfl, r⟩ | ⟨l, rfl, r, nn⟩
    · cases r with
      | nil =>
        have hb' : upd H D (.dT []) b = some (.tup (q.map kV)) := by rw [upd_ne (ne_of hb eo fun z => nomatch z)]; exact hb
        have g : DPut (upd H D (.dT [])) D (.ref b) z (upd H D (.dT (putK [] q z))) := by
          have := DPut.t (v := z) (upd_same (H := H) (a := D) (o := .dT [])) hb' (Nat.zero_lt_of_lt hz)
          rw [upd_upd] at this
          exact this
        exact ⟨_, ⟨_, .inr ⟨eo, rfl⟩, g⟩, G.putUp accD, G.put accD hD (.inr ⟨_, rfl, (RepTs.nil.put q rv).upTo (G.putUp accD), dPut_ne⟩)⟩
      | cons r _ =>
        rw [sameK, List.all_cons, isTup_pvK] at sk
        simp [isTup] at sk
    · exact ⟨_, ⟨H, .inl rfl, .t eo hb (by rw [← r.len]; exact hz)⟩, G.putUp accD, G.put accD hD (.inr ⟨_, rfl, (r.put q rv).upTo (G.putUp accD), dPut_ne⟩)⟩
def bodyD (W : Wd) (D : Addr) (tt : DenB) (tk tv : Den) : (Hp → Prop) → L2.St → Hp → Prop := fun Nx σ2 H2 => rdB W WxF tt σ2 H2 fun b H3 =>
    if b = true then rdE W WxF tk σ2 H3 fun y H4 => rdE W WxF tv σ2 H4 fun z H5 => ∃ H6, DStep H5 D y z H6 ∧ Nx H6 else Nx H3
theorem body_ent {D : Addr} {μ1 : List Addr} {H1 : Hp} {tt : DenB} {tk tv : Den} (hD : H1 D = none) (Nx : Hp → Prop) {h : MH} {acc acc' : List (PV × PV)} {ρ1 : Rho} {σ1 : L2.St} {h' : MH} (G : Gat W (RepDc W) D μ1 H1 μ h H acc) (S : RepS W.K μ H ρ1 σ1) (e : tnEnt tt tk tv ρ1 acc h = .ok acc' h')
    (c : ∀ μ' H', Up W.K μ H μ' H' → Gat W (RepDc W) D μ1 H1 μ' h' H' acc' → Nx H') : bodyD W D tt tk tv Nx σ1 H := by
  refine ⟨ρ1, h, μ, G.rel, S, ?_⟩
  unfold tnEnt at e
  cases e1 : tt ρ1 h with
  | exc c v h' => rw [e1] at e; cases e
  | bad => rw [e1] at e; cases e
  | ok b h1 =>
    simp only [e1] at e
    intro μ2 H2 x E2 R2 rx
    have rx : b = x := rx
    subst rx
    have G2 := G.step accD E2 R2
    cases b with
    | false =>
      cases e
      exact iteF (c _ _ E2.up G2)
    | true =>
      refine iteT ⟨ρ1, h1, μ2, R2, S.ext E2, ?_⟩
      simp only at e
      cases e2 : tk ρ1 h1 with
      | exc c v h' => rw [e2] at e; cases e
      | bad => rw [e2] at e; cases e
      | ok k h2 =>
        simp only [e2] at e
        intro μ3 H3 y E3 R3 ry
        have G3 := G2.step accD E3 R3
        refine ⟨ρ1, h2, μ3, R3, (S.ext E2).ext E3, ?_⟩
        cases e3 : tv ρ1 h2 with
        | exc c v h' => rw [e3] at e; cases e
        | bad => rw [e3] at e; cases e
        | ok v h3 =>
          simp only [e3] at e
          intro μ4 H4 z E4 R4 rz
          have G4 := G3.step accD E4 R4
          by_cases hz : acc.length < sizeLine ∧ (keyOf k).isSome = true ∧ sameK acc k = true
          · rw [if_pos hz] at e
            cases e
            obtain ⟨H6, d, U, G6⟩ := gat_step hD G4 (ry.ext E4) rz hz.1 hz.2.1 hz.2.2
            exact ⟨H6, d, c μ4 H6 (((E2.trans E3).trans E4).up.trans U) G6⟩
          · rw [if_neg hz] at e; cases e
variable {Wx : WX} {tg iter kx vx : Expr} {ifs : List Expr} {scope : Scope} {own : List (Str × Nat)} {pos : Pos} {di : DenI} {g : TgD} {tt : DenB} {tk tv : Den}
theorem gatD_done {D : Addr} {μ μ1 : List Addr} {H H1 : Hp} {h : MH} {acc : List (PV × PV)} (hD : H1 D = none) (G : Gat W (RepDc W) D μ1 H1 μ h H acc) : Ext W.K μ1 H1 (μ ++ [D]) H ∧ Rel W (μ ++ [D]) (h ++ [.dic acc]) H ∧ RepV W.K (μ ++ [D]) H (.ref h.length) (.ref D) :=
  G.done hD fun o z eH => by
    rcases z with ⟨l, rfl, r⟩ | ⟨l, rfl, r, _⟩
    · exact .inl ⟨l, eH, r⟩
    · exact .inr ⟨l, eH, r⟩
theorem dc_read {own : List Nat} {turn : Rho → List (PV × PV) → MH → Res (List (PV × PV))} {BODY : Addr → (Hp → Prop) → L2.St → Hp → Prop} {σ : L2.St} {H : Hp} {Q : VK} (h : rdE W Wx (dDc di own g turn) σ H Q)
    (hb : ∀ (D : Addr) μ1 H1 (Nx : Hp → Prop) μ h H acc ρ1 σ1 acc' h', H1 D = none → Gat W (RepDc W) D μ1 H1 μ h H acc → RepS W.K μ H ρ1 σ1 → turn ρ1 acc h = .ok acc' h' → (∀ μ' H', Up W.K μ H μ' H' → Gat W (RepDc W) D μ1 H1 μ' h' H' acc' → Nx H') → BODY D Nx σ1 H) :
    rdI W Wx di σ H fun J H1 => ∀ D, H1 D = none → ∃ Wm : Nat → Nat → Hp → Prop, (∃ m, Wm 0 m (upd H1 D (.dK []))) ∧ ∀ i m H, Wm i m H → (J.stop i H ∧ Q (.ref D) H) ∨ (J.go i H ∧ ∃ Nx : Hp → Prop, (∀ H', Nx H' → ∃ m', m' < m ∧ Wm (i + 1) m' H') ∧ ∀ x H', J.yld i H x H' → gRdW W own g x (L2.wipe σ own) H' fun σ2 H2 => L2.wipe σ2 own = L2.wipe σ own ∧ BODY D Nx σ2 H2) := by
  obtain ⟨ρ, h0, μ, r, s, z⟩ := h
  refine ⟨ρ, h0, μ, r, s, ?_⟩
  have z : wp W (repV W) μ H ((di ρ h0).bind fun s h1 => (match lpF s g turn (wipeR ρ own) (s.size h1) 0 [] h1 with
    | .ok acc h2 => .ok (.ref h2.length) (h2 ++ [.dic acc])
    | _ => .bad)) (fun c d H' => Wx c d σ H') Q := z
  cases e0 : di ρ h0 with
  | bad => rw [e0] at z; exact z
  | exc c v h' => rw [e0] at z; exact z
  | ok S h1 =>
    rw [e0] at z
    intro μ1 H1 J ok E1 R1 SI hok D hD
    have z : wp W (repV W) μ H (match lpF S g turn (wipeR ρ own) (S.size h1) 0 [] h1 with
      | .ok acc h2 => .ok (.ref h2.length) (h2 ++ [.dic acc])
      | _ => .bad) (fun c d H' => Wx c d σ H') Q := z
    cases e1 : lpF S g turn (wipeR ρ own) (S.size h1) 0 [] h1 with
    | exc c v h' => rw [e1] at z; exact z.elim
    | bad => rw [e1] at z; exact z.elim
    | ok accF hF =>
      rw [e1] at z
      have z : Post W (repV W) μ H (hF ++ [.dic accF]) (.ref hF.length) Q := z
      have E2 : Ext W.K μ1 H1 μ1 (upd H1 D (.dK [])) := Ext.fresh R1 hD
      have G0 : Gat W (RepDc W) D μ1 H1 μ1 h1 (upd H1 D (.dK [])) [] := ⟨E2, R1.fresh hD, R1.free hD, _, upd_same, .inl ⟨[], rfl, .nil⟩⟩
      have q := lp_ok (own := own) (σ0 := L2.wipe σ own) (Fin := fun H => Q (.ref D) H) (BODY := BODY D) (P := fun a b => a = accF ∧ b = hF) accD SI (SI.mono _ _ _ _ E2.up hok) (((s.ext E1).ext E2).wipe own) G0 ⟨accF, hF, e1, rfl, rfl⟩
        (fun μ' h'' H' acc'' U' G' p => by
          obtain ⟨rfl, rfl⟩ := p
          obtain ⟨a, b, c⟩ := gatD_done hD G'
          exact z _ _ _ (E1.trans a) b c)
        (fun Nx μ' h'' H' acc'' ρ' σ' acc3 h3 _ G' S' e' c' => hb D μ1 H1 Nx _ _ _ _ _ _ _ _ hD G' S' e' c')
      rw [wipe_idem] at q
      exact q
theorem se_dc (hu : X.A.units + 1 < cLine) (hc : X.calm = true) (hN : X.N.Nodup) (hi : PI X tg iter (rdI W Wx di)) (ok : BlkOk X.N X.env.scope scope own) (hg : ∀ Y, BK X scope Y → PG Y tg (gRdW W (own.map (·.2)) g)) (ht : ∀ Y, BK X scope Y → PTs Y ifs (rdB W WxF tt)) (hk : ∀ Y, BK X scope Y → PE Y kx (rdE W WxF tk)) (hv : ∀ Y, BK X scope Y → PE Y vx (rdE W WxF tv)) (hs : ∀ x, foldedSetIterable iter X.env x = pure x) :
    PE X (.DictComp kx vx [⟨tg, iter, ifs, 0⟩] scope pos) (rdE W Wx (dDc di (own.map (·.2)) g (tnEnt tt tk tv))) := by
  refine PE.imp (pe_dcA hu hc hN hi ok hg ht hk hv hs) fun σ H Q h => ?_
  exact dc_read (BODY := fun D => bodyD W D tt tk tv) h fun D μ1 H1 Nx μ h H acc ρ1 σ1 acc' h' hD G S e c => body_ent hD Nx G S e c
end
end Mi

/-! ## Dc2: name = {..: .. for ..} -/
namespace Mi
open PySem PySem.Spec PyProof.Rows L2
section
variable {X : Cx} {W : Wd} {Wx : WX} {tg iter kx vx : Expr} {ifs : List Expr} {scope : Scope} {own : List (Str × Nat)} {pos spos py : Pos} {di : DenI} {g : TgD} {tt : DenB} {tk tv : Den} {i : Nat} {y : Str}
theorem ps_setDcA {wi : TI} {gg : TG} {t1 : TT} {tk tv : TE} (hu : X.A.units + 1 < cLine) (calm : X.calm = true) (nd : X.N.Nodup) (hy : X.N[i]? = some y) (hyl : X.env.scope.names.lookup y = some .local) (sw : swapsWith (.DictComp kx vx [⟨tg, iter, ifs, 0⟩] scope pos) (some (.Name y py)) spos.line X.env = pure true)
    (hi : PI X tg iter wi) (ok : BlkOk X.N X.env.scope scope own) (hg : ∀ Y, BK X scope Y → PG Y tg gg) (ht : ∀ Y, BK X scope Y → PTs Y ifs t1) (hk : ∀ Y, BK X scope Y → PE Y kx tk) (hv : ∀ Y, BK X scope Y → PE Y vx tv) (hs : ∀ x, foldedSetIterable iter X.env x = pure x) :
    PS X (.Assign [.Name y py] (.DictComp kx vx [⟨tg, iter, ifs, 0⟩] scope pos) spos) (tAsg (tDcA wi gg t1 tk tv (own.map (·.2))) (gName i)) := by
  refine ⟨fun pins s σ H E I h => ?_⟩
  rw [exec_Assign_Name_used _ _ _ _ sw]
  refine wpAny_bind (wpAny_standAt (wpAny_bind ?_))
  have h : tDcA wi gg t1 tk tv (own.map (·.2)) σ H (fun x H1 => gName i x σ H1 E.nx) := h
  show wpAny _ X.A (comprehension (.DictComp kx vx [⟨tg, iter, ifs, 0⟩] scope pos) scope X.env (firstIterPos [⟨tg, iter, ifs, 0⟩] pos) newDict false (eval iter X.env) (some (assign (.Name y py) X.env)) >>= fun _ => pure ()) _ _ s
  refine wpAny_bind (thn (dcA_core (Qf := fun _ t => SP X pins E .next t) hu calm nd I hi ok hg ht hk hv hs h fun L C t m K J q ns f => ?_) fun _ t hq => wpAny_pure (wpAny_pure hq))
  show wpAny _ _ (assign (.Name y py) X.env (.ref L)) _ _ _
  refine wpAny_assign_Name (store_ok2 (v := V.ref L) J nd hy (.inl hyl) rfl (fun t2 J2 ⟨a, sb, ha⟩ => ?_) (.inr hyl))
  have ne : C ≠ a := by
    rcases ha with z | z
    · exact z ▸ f.2.1
    · exact fun e => f.2.2.2.2.1 y a z e.symm
  exact ⟨m, ns.sameBut sb ne, fun h3 sb3 => ⟨_, K, J2.turned (t' := t2.toks) (fun b o hb e => (sb3.2 b hb).trans e) f.1 f.2.1 f.2.2.2.1 f.2.2.2.2.1 f.2.2.2.2.2, q⟩⟩
theorem ss_setDc (hu : X.A.units + 1 < cLine) (hc : X.calm = true) (hN : X.N.Nodup) (hy : X.N[i]? = some y) (hyl : X.env.scope.names.lookup y = some .local) (hsw : swapsWith (.DictComp kx vx [⟨tg, iter, ifs, 0⟩] scope pos) (some (.Name y py)) spos.line X.env = pure true)
    (hi : PI X tg iter (rdI W Wx di)) (ok : BlkOk X.N X.env.scope scope own) (hg : ∀ Y, BK X scope Y → PG Y tg (gRdW W (own.map (·.2)) g)) (ht : ∀ Y, BK X scope Y → PTs Y ifs (rdB W WxF tt)) (hk : ∀ Y, BK X scope Y → PE Y kx (rdE W WxF tk)) (hv : ∀ Y, BK X scope Y → PE Y vx (rdE W WxF tv)) (hs : ∀ x, foldedSetIterable iter X.env x = pure x) :
    PS X (.Assign [.Name y py] (.DictComp kx vx [⟨tg, iter, ifs, 0⟩] scope pos) spos) (rdS W Wx (sAsg (dDc di (own.map (·.2)) g (tnEnt tt tk tv)) (gSet i))) := by
  refine PS.imp (ps_setDcA hu hc hN hy hyl hsw hi ok hg ht hk hv hs) fun D σ H h => ?_
  obtain ⟨ρ, h0, μ, r, s, z⟩ := rdS_bind (R := repV W) (k := fun ρ v h1 => match gSet i v ρ with
    | some ρ' => .nx ρ' h1
    | none => .bad) h
  have h2 : rdE W Wx (dDc di (own.map (·.2)) g (tnEnt tt tk tv)) σ H (fun x H1 => D.nx (σ.set i (some x)) H1) := ⟨ρ, h0, μ, r, s, wp_imp z (fun _ _ _ z => z) fun x H1 z => by
    obtain ⟨ρ1, p, μ1, h1, a1, rp, z⟩ := z
    exact z μ1 H1 _ Ext.refl a1.rel (a1.reps.set i rp)⟩
  exact dc_read (BODY := fun D => bodyD W D tt tk tv) h2 fun D μ1 H1 Nx μ h H acc ρ1 σ1 acc' h' hD G S e c => body_ent hD Nx G S e c
/-- x = a comprehension: the store is made by the block, or behind it -/
theorem sw_any {v : Expr} {sc : Scope} {l : Nat} {env : Env} (hk : env.scope.kind = .function) (hv : (match v with
      | .ListComp _ _ s _ => some s
      | .SetComp _ _ s _ => some s
      | .DictComp _ _ _ s _ => some s
      | _ => none) = some sc) (hy : env.scope.names.lookup y = some .local) : swapsWith v (some (.Name y py)) l env = pure (py.line == v.pos.line && !(sc.names.any fun (n, k) => n == y && (k == .local || k == .cell))) := by
  have ky : env.kindOf y = some .local := hy
  have hb : env.blockKind = .function := by unfold Env.blockKind; rw [hk]; rfl
  have go : ∀ pl : Pos, (pure (env.blockKind == .function && env.kindOf y == some .local && py.line == pl.line && !(sc.names.any fun (n, k) => n == y && (k == .local || k == .cell))) : Sem Bool) = pure (py.line == pl.line && !(sc.names.any fun (n, k) => n == y && (k == .local || k == .cell))) := fun pl => by
    rw [hb, ky]; rfl
  cases v <;> first | (cases hv; done) | (cases hv; exact go _)
theorem sw_cell {v : Expr} {l : Nat} {env : Env} (hy : (env.scope.names.lookup y == some .local) = false) : swapsWith v (some (.Name y py)) l env = pure false := by
  have ky : (env.kindOf y == some .local) = false := hy
  have go : ∀ (pl : Pos) (sc : Scope), (pure (env.blockKind == .function && env.kindOf y == some .local && py.line == pl.line && !(sc.names.any fun (n, k) => n == y && (k == .local || k == .cell))) : Sem Bool) = pure false := fun pl sc => by
    rw [ky, Bool.and_false, Bool.false_and, Bool.false_and]
  cases v <;> first | rfl | exact go _ _
end
end Mi

/-! ## Ev: a text's plain meaning -/
namespace Mi
open PySem PySem.Spec PyProof.Rows L2

/-- what a module's name stands for -/
inductive GV where
  | fn (i : Nat) | con (v : PV)
  deriving Inhabited
structure Tab where
  glob : List (Str × GV)
/-- the defs' meanings -/
structure Fs where
  call : Nat → List PV → MH → Res PV
  ar : Nat → Nat
/-- a block's names: those with a slot, the scope that runs, the written scope of a comprehension's block -/
structure Gam where
  N : List Str
  sc : Scope
  raw : Option Scope
def idx : List Str → Str → Option Nat
  | [], _ => none
  | y :: r, x => if x = y then some 0 else (idx r x).map (· + 1)
theorem idx_some : ∀ {l : List Str} {x : Str} {i : Nat}, idx l x = some i → l[i]? = some x
  | [], x, i, h => by cases h
  | y :: r, x, i, h => by
    unfold idx at h
    by_cases e : x = y
    · rw [if_pos e] at h
      cases h
      rw [e]
      rfl
    · rw [if_neg e] at h
      cases q : idx r x with
      | none => rw [q] at h; cases h
      | some j =>
        rw [q] at h
        cases h
        show r[j]? = some x
        exact idx_some q
def visB (sc : Scope) (x : Str) : Bool := match sc.names.lookup x with
  | some .local => true
  | some .cell => true
  | some .free => true
  | _ => false
def locB (sc : Scope) (x : Str) : Bool := match sc.names.lookup x with
  | some .local => true
  | some .cell => true
  | _ => false
def glB (sc : Scope) (x : Str) : Bool := match sc.names.lookup x with
  | some .globalImplicit => true
  | _ => false
theorem visB_ok {sc : Scope} {x : Str} (h : visB sc x = true) : Vis sc x := by
  unfold visB at h
  cases e : sc.names.lookup x with
  | none => rw [e] at h; cases h
  | some k =>
    cases k with
    | «local» => exact .inl e
    | cell => exact .inr (.inl e)
    | free => exact .inr (.inr e)
    | _ => rw [e] at h; cases h
theorem locB_ok {sc : Scope} {x : Str} (h : locB sc x = true) : Loc sc x := by
  unfold locB at h
  cases e : sc.names.lookup x with
  | none => rw [e] at h; cases h
  | some k =>
    cases k with
    | «local» => exact .inl e
    | cell => exact .inr e
    | _ => rw [e] at h; cases h
theorem glB_ok {sc : Scope} {x : Str} (h : glB sc x = true) : sc.names.lookup x = some .globalImplicit := by
  unfold glB at h
  cases e : sc.names.lookup x with
  | none => rw [e] at h; cases h
  | some k =>
    cases k with
    | globalImplicit => rfl
    | _ => rw [e] at h; cases h
/-- a name that nothing is special about -/
def okN (x : Str) : Bool := !(x == ("__debug__" : Str)) && !(x == ("__classdict__" : Str))
theorem okN_ok {x : Str} (h : okN x = true) : (x == ("__debug__" : Str)) = false ∧ (x == ("__classdict__" : Str)) = false := by
  unfold okN at h
  rw [Bool.and_eq_true, Bool.not_eq_true', Bool.not_eq_true'] at h
  exact h

inductive Bi where
  | len | int | max | min | list | all
  deriving DecidableEq
def biTab : List (Str × Bi) := [("len", .len), ("int", .int), ("max", .max), ("min", .min), ("list", .list), ("all", .all)]
def biOp : Bi → List PV → MH → VR
  | .len => u1 lenP
  | .int => u1 intP
  | .max => u2 maxP
  | .min => u2 minP
  | .list => u1 listP
  | .all => u1 allP

/-- a test that is its value's truth -/
def plainTest : Expr → Bool
  | .UnaryOp .Not _ _ => false
  | .BoolOp _ _ _ => false
  | .IfExp _ _ _ _ => false
  | .Compare _ _ _ _ => false
  | _ => true

def evCon : PySem.Const → Den
  | .none => dVal .non
  | .bool b => dVal (.bl b)
  | .int i => dVal (.int i)
  | .str s => dVal (.str s)
  | _ => dBad
def evName (T : Tab) (Γ : Gam) (x : Str) : Den := if okN x = true then
    (if visB Γ.sc x = true then (match idx Γ.N x with
      | some i => dVar i
      | none => dBad)
    else if glB Γ.sc x = true then (match T.glob.lookup x with
      | some (.con v) => dVal v
      | _ => dBad)
    else dBad)
  else dBad
def lStar (d : Den) (l : DenL) : DenL := fun ρ h => (d ρ h).bind fun v h1 => match itemsOf v h1 with
  | some xs => (l ρ h1).bind fun ys h2 => .ok (xs ++ ys) h2
  | none => .bad
def evL (f : Expr → Den) : List Expr → DenL
  | [] => lNil
  | .Starred e _ :: es => lStar (f e) (evL f es)
  | e :: es => lCons (f e) (evL f es)
def evAnds (f : Expr → Den) : List Expr → Den
  | [] => dBad
  | [e] => f e
  | e :: es => dAnd (f e) (evAnds f es)
def evOrs (f : Expr → Den) : List Expr → Den
  | [] => dBad
  | [e] => f e
  | e :: es => dOr (f e) (evOrs f es)
def evTAnds (f : Expr → DenB) : List Expr → DenB
  | [] => dBad
  | [e] => f e
  | e :: es => bAnd (f e) (evTAnds f es)
def evTOrs (f : Expr → DenB) : List Expr → DenB
  | [] => dBad
  | [e] => f e
  | e :: es => bOr (f e) (evTOrs f es)
/-- f(e, ..), f a module's name or a built-in's -/
def evCall (T : Tab) (Φ : Fs) (Γ : Gam) (f : Expr → Den) (x : Str) (es : List Expr) : Den :=
  if okN x = true ∧ glB Γ.sc x = true ∧ es.any isStar = false then (match T.glob.lookup x with
    | some (.fn i) => if es.length = Φ.ar i ∧ es.isEmpty = false then dCall (Φ.call i) (evL f es) else dBad
    | some _ => dBad
    | none => (match biTab.lookup x with
      | some b => if es.isEmpty = false then dOf (biOp b) (evL f es) else dBad
      | none => dBad))
  else dBad
/-! ### isinstance, methods -/
def tyTab : List (Str × String) := [("int", "int"), ("bool", "bool"), ("str", "str"), ("list", "list"), ("tuple", "tuple"), ("dict", "dict")]
def tyN (T : Tab) (Γ : Gam) (t : Str) : Option String := if glB Γ.sc t = true ∧ (T.glob.lookup t).isNone = true then tyTab.lookup t else none
def evIsi (T : Tab) (Γ : Gam) (f : Expr → Den) (es : List Expr) : Den :=
  if glB Γ.sc ("isinstance" : Str) = true ∧ (T.glob.lookup ("isinstance" : Str)).isNone = true then (match es with
    | [e, .Name t _] => if isStar e = true then dBad else (match tyN T Γ t with
      | some n => dUn (isiP n) (f e)
      | none => dBad)
    | [e, .Tuple [.Name t _, .Name t2 _] _ _] => if isStar e = true then dBad else (match tyN T Γ t, tyN T Γ t2 with
      | some n, some n2 => dUn (isiQ n n2) (f e)
      | _, _ => dBad)
    | _ => dBad)
  else dBad
inductive MI where
  | app | ext | pop | popI | rev | clr | get1 | get2
  deriving DecidableEq
def mthTab : List ((Str × Nat) × MI) := [(("append", 1), .app), (("extend", 1), .ext), (("pop", 0), .pop), (("pop", 1), .popI), (("reverse", 0), .rev), (("clear", 0), .clr), (("get", 1), .get1), (("get", 2), .get2)]
def evMI (o : Den) (l : DenL) : MI → Den
  | .app => dMtd isL appM o l
  | .ext => dMtd isL extM o l
  | .pop => dMtd isL popM o lNil
  | .popI => dMtd isL popI o l
  | .rev => dMtd isL revM o lNil
  | .clr => dMtd isL clrM o lNil
  | .get1 => dMtd isDi get1M o l
  | .get2 => dMtd isDi get2M o l
def evMth (f : Expr → Den) (o : Expr) (m : Str) (apos : Pos) (es : List Expr) (cpos : Pos) : Den :=
  if isCall0 o = false ∧ (apos.endLine == cpos.line) = true ∧ es.any isStar = false then (match mthTab.lookup (m, es.length) with
    | some i => evMI (f o) (evL f es) i
    | none => dBad)
  else dBad
/-! ### targets -/
def storeB (Γ : Gam) (x : Str) : Bool := okN x && (match Γ.raw with
  | none => locB Γ.sc x
  | some r => locB r x)
def evTg (Γ : Gam) : Expr → Option TgD
  | .Name x _ => if storeB Γ x = true then (idx Γ.N x).map gSet else none
  | _ => none
def evTgs (Γ : Gam) : List Expr → Option (List TgD)
  | [] => some []
  | e :: es => (match evTg Γ e, evTgs Γ es with
    | some g, some gs => some (g :: gs)
    | _, _ => none)
def evTgt (Γ : Gam) : Expr → Option TgD
  | .Tuple es _ _ => (evTgs Γ es).map gTupD
  | e => evTg Γ e
/-- the slots of a target's names -/
def tgSl (Γ : Gam) : Expr → List Nat
  | .Name x _ => (idx Γ.N x).toList
  | .Tuple es _ _ => es.filterMap fun e => match e with
    | .Name x _ => idx Γ.N x
    | _ => none
  | _ => []
/-! ### what is walked -/
def evIt (T : Tab) (Γ : Gam) (f : Expr → Den) (e : Expr) : DenI := match e with
  | .Call (.Name x _) [a] [] _ => if x = ("range" : Str) then (if glB Γ.sc ("range" : Str) = true ∧ (T.glob.lookup ("range" : Str)).isNone = true ∧ isStar a = false then iRange1 (evL f [a]) else dBad) else iSeq (f e)
  | .Call (.Name x _) [a, b] [] _ => if x = ("range" : Str) then (if glB Γ.sc ("range" : Str) = true ∧ (T.glob.lookup ("range" : Str)).isNone = true ∧ isStar a = false ∧ isStar b = false then iRange2 (evL f [a, b]) else dBad) else iSeq (f e)
  | e => if isSet e = true then dBad else iSeq (f e)
/-! ### comprehensions -/
def blkG (Γ : Gam) (sc : Scope) : Gam := ⟨Γ.N, relS sc Γ.sc, some sc⟩
def ownOf (N : List Str) (sc : Scope) : List (Str × Nat) := sc.names.filterMap fun p => if p.2 == .local || p.2 == .cell then (idx N p.1).map (p.1, ·) else none
def bYes : DenB := fun _ h => .ok true h
def evIfs (f : Expr → DenB) : List Expr → Option DenB
  | [] => some bYes
  | [c] => some (f c)
  | _ => none
structure Cl where
  g : TgD
  tt : DenB
def evCl (rT : Gam → Expr → DenB) (Γ : Gam) (c : Comprehension) : Option Cl := if c.is_async = 0 ∧ isSet c.iter = false then (match evTgt Γ c.target, evIfs (rT Γ) c.ifs with
    | some g, some tt => some ⟨g, tt⟩
    | _, _ => none)
  else none
def subL (a b : List Nat) : Bool := a.all fun i => b.contains i
def evLc (T : Tab) (rE : Gam → Expr → Den) (rT : Gam → Expr → DenB) (Γ : Gam) (elt : Expr) (gens : List Comprehension) (sc : Scope) : Den :=
  if blkC Γ.N Γ.sc sc (ownOf Γ.N sc) = true then (match gens with
    | [c] => (match evCl rT (blkG Γ sc) c with
      | some l => if subL (tgSl (blkG Γ sc) c.target) ((ownOf Γ.N sc).map (·.2)) = true then dLc (evIt T Γ (rE Γ) c.iter) ((ownOf Γ.N sc).map (·.2)) l.g (tnElt l.tt (rE (blkG Γ sc) elt)) else dBad
      | none => dBad)
    | [c, c2] => (match evCl rT (blkG Γ sc) c, evCl rT (blkG Γ sc) c2 with
      | some l, some l2 => if subL (tgSl (blkG Γ sc) c.target) ((ownOf Γ.N sc).map (·.2)) = true ∧ subL (tgSl (blkG Γ sc) c2.target) ((ownOf Γ.N sc).map (·.2)) = true then
          dLc (evIt T Γ (rE Γ) c.iter) ((ownOf Γ.N sc).map (·.2)) l.g (tnIn l.tt (evIt T (blkG Γ sc) (rE (blkG Γ sc)) c2.iter) l2.g (tgSl (blkG Γ sc) c2.target) (tnElt l2.tt (rE (blkG Γ sc) elt))) else dBad
      | _, _ => dBad)
    | _ => dBad)
  else dBad
def evDc (T : Tab) (rE : Gam → Expr → Den) (rT : Gam → Expr → DenB) (Γ : Gam) (kx vx : Expr) (gens : List Comprehension) (sc : Scope) : Den :=
  if blkC Γ.N Γ.sc sc (ownOf Γ.N sc) = true then (match gens with
    | [c] => (match evCl rT (blkG Γ sc) c with
      | some l => if subL (tgSl (blkG Γ sc) c.target) ((ownOf Γ.N sc).map (·.2)) = true then dDc (evIt T Γ (rE Γ) c.iter) ((ownOf Γ.N sc).map (·.2)) l.g (tnEnt l.tt (rE (blkG Γ sc) kx) (rE (blkG Γ sc) vx)) else dBad
      | none => dBad)
    | _ => dBad)
  else dBad
def dicV : List PV → MH → VR := fun _ h => alloc (.dic []) h
def evX (T : Tab) (Φ : Fs) (rE : Gam → Expr → Den) (rT : Gam → Expr → DenB) (Γ : Gam) : Expr → Den
  | .Constant c _ _ => evCon c
  | .Name x _ => evName T Γ x
  | .BinOp a op b _ => dBin (binV op) (rE Γ a) (rE Γ b)
  | .UnaryOp .USub a _ => dUn negV (rE Γ a)
  | .UnaryOp .Not a _ => dUn notV (rE Γ a)
  | .BoolOp .And es _ => evAnds (rE Γ) es
  | .BoolOp .Or es _ => evOrs (rE Γ) es
  | .Compare a [op] [b] _ => if isSet b = true then dBad else dBin (cmpP op) (rE Γ a) (rE Γ b)
  | .Compare a [op, op'] [b, c] _ => if isSet c = true then dBad else dChain (cmpP op) (cmpP op') (rE Γ a) (rE Γ b) (rE Γ c)
  | .IfExp c a b _ => dIf (rT Γ c) (rE Γ a) (rE Γ b)
  | .Tuple es _ _ => dOf tupV (evL (rE Γ) es)
  | .List es _ => dOf lstV (evL (rE Γ) es)
  | .Dict [] [] _ => dOf dicV lNil
  | .ListComp elt gens sc _ => evLc T rE rT Γ elt gens sc
  | .DictComp kx vx gens sc _ => evDc T rE rT Γ kx vx gens sc
  | .Call (.Name x _) es [] _ => if x = ("isinstance" : Str) then evIsi T Γ (rE Γ) es else evCall T Φ Γ (rE Γ) x es
  | .Call (.Attribute o m apos) es [] cpos => evMth (rE Γ) o m apos es cpos
  | .Subscript a i _ => if isSlice i = true then dBad else dBin subP (rE Γ a) (rE Γ i)
  | _ => dBad
def evTX (rE : Gam → Expr → Den) (rT : Gam → Expr → DenB) (self : Expr → Den) (Γ : Gam) : Expr → DenB
  | .UnaryOp .Not a _ => bNot (rT Γ a)
  | .BoolOp .And es _ => evTAnds (rT Γ) es
  | .BoolOp .Or es _ => evTOrs (rT Γ) es
  | .Compare a [op] [b] _ => if isSet b = true then dBad else bVal (dBin (cmpP op) (rE Γ a) (rE Γ b))
  | .Compare a [op, op'] [b, c] _ => if isSet c = true then dBad else bVal (dChain (cmpP op) (cmpP op') (rE Γ a) (rE Γ b) (rE Γ c))
  | e => if plainTest e = true then bTru (self e) else dBad
/-- expressions and tests, n deep -/
def ev (T : Tab) (Φ : Fs) : Nat → (Gam → Expr → Den) × (Gam → Expr → DenB)
  | 0 => (fun _ _ => dBad, fun _ _ => dBad)
  | n + 1 => (evX T Φ (ev T Φ n).1 (ev T Φ n).2, fun Γ => evTX (ev T Φ n).1 (ev T Φ n).2 (evX T Φ (ev T Φ n).1 (ev T Φ n).2 Γ) Γ)

/-! ### statements -/
def isTupE : Expr → Bool
  | .Tuple _ _ _ => true
  | _ => false
/-- a, b = x, y: the names whose stores are swapped -/
def swN (sc : Scope) (ts : List Expr) : List Str := ts.filterMap fun
    | .Name id pos => if sc.names.lookup id == some .local && pos.line == (ts.head?.map (·.pos.line)).getD 0 then some id else none
    | _ => none
inductive Sw where
  | no | yes (names : List Str) | bad
def swS (sc : Scope) (ts vs : List Expr) : Sw :=
  if (!(ts.length == 2 || ts.length == 3) || vs.length != ts.length) = true then .no
  else if vs.any isStar = true then .no
  else if ((swN sc ts).length != ts.length || (swN sc ts).eraseDups.length != (swN sc ts).length) = true then .no
  else if vs.all (foldedForSure 8) = true then .no
  else if vs.all (constantsAlone 8) = true then .bad
  else .yes (swN sc ts)
def evPar (Γ : Gam) (f : Expr → Den) (ns : List Str) (ts vs : List Expr) : DenS := match ts, vs with
  | [.Name x _, .Name y _], [a, b] => (match idx Γ.N x, idx Γ.N y with
    | some i, some j => if ns = [x, y] ∧ i ≠ j ∧ Γ.sc.names.lookup x = some .local ∧ Γ.sc.names.lookup y = some .local then sPar i j (evL f [a, b]) else sBad
    | _, _ => sBad)
  | [.Name x _, .Name y _, .Name z _], [a, b, c] => (match idx Γ.N x, idx Γ.N y, idx Γ.N z with
    | some i, some j, some l => if ns = [x, y, z] ∧ i ≠ j ∧ i ≠ l ∧ j ≠ l ∧ Γ.sc.names.lookup x = some .local ∧ Γ.sc.names.lookup y = some .local ∧ Γ.sc.names.lookup z = some .local then sPar3 i j l (evL f [a, b, c]) else sBad
    | _, _, _ => sBad)
  | _, _ => sBad
/-- targets that write into things -/
def evTgH (Γ : Gam) (f : Expr → Den) : Expr → Option TgH
  | .Name x p => (evTg Γ (.Name x p)).map hLift
  | .Subscript a i _ => if isSlice i = true then none else some (hSub (f a) (f i))
  | _ => none
def evTgHs (Γ : Gam) (f : Expr → Den) : List Expr → Option (List TgH)
  | [] => some []
  | e :: es => (match evTgH Γ f e, evTgHs Γ f es with
    | some g, some gs => some (g :: gs)
    | _, _ => none)
def evTgtH (Γ : Gam) (f : Expr → Den) : Expr → Option TgH
  | .Tuple es _ _ => (evTgHs Γ f es).map hTup
  | e => evTgH Γ f e
def evAs (Γ : Gam) (f : Expr → Den) (t e : Expr) : DenS := match evTgt Γ t with
  | some g => sAsg (f e) g
  | none => (match evTgtH Γ f t with
    | some g => sAsgH (f e) g
    | none => sBad)
def evAsg (Γ : Gam) (f : Expr → Den) (t e : Expr) : DenS := match t, e with
  | .Tuple ts j p, .Tuple vs j2 p2 => (match (if Γ.raw.isNone = true then swS Γ.sc ts vs else .bad) with
    | .no => evAs Γ f (.Tuple ts j p) (.Tuple vs j2 p2)
    | .yes ns => evPar Γ f ns ts vs
    | .bad => sBad)
  | .Name x p, e => if isComp e = true ∧ Γ.raw.isNone = false then sBad else (match evTgt Γ (.Name x p) with
    | some g => sAsg (f e) g
    | none => sBad)
  | .Tuple ts j p, e => if isComp e = true ∨ isTupE e = true then sBad else evAs Γ f (.Tuple ts j p) e
  | .Subscript a i _, e => if isComp e = true ∨ isSlice i = true then sBad else sAsgH (f e) (hSub (f a) (f i))
  | _, _ => sBad
def evB (g : Stmt → DenS) : List Stmt → DenS
  | [] => sSkip
  | [s] => g s
  | s :: ss => sSeq (g s) (evB g ss)
def evSX (T : Tab) (rE : Gam → Expr → Den) (rT : Gam → Expr → DenB) (rS : Gam → Stmt → DenS) (Γ : Gam) : Stmt → DenS
  | .Pass _ => sSkip
  | .Break _ => sBreak
  | .Continue _ => sCont
  | .Expr e _ => if isComp e = true then sBad else sDrop (rE Γ e)
  | .Return none _ => sRetN
  | .Return (some e) _ => sRet (rE Γ e)
  | .If c a b _ => sIf (rT Γ c) (evB (rS Γ) a) (evB (rS Γ) b)
  | .While c b [] _ => sWhile (rT Γ c) (evB (rS Γ) b) 1000000
  | .For t e b [] _ => (match evTgt Γ t with
    | some g => sFor (evIt T Γ (rE Γ) e) g (evB (rS Γ) b)
    | none => sBad)
  | .Assign [t] e _ => evAsg Γ (rE Γ) t e
  | _ => sBad
def evS (T : Tab) (Φ : Fs) (m : Nat) : Nat → Gam → Stmt → DenS
  | 0 => fun _ _ => sBad
  | n + 1 => evSX T (ev T Φ m).1 (ev T Φ m).2 (evS T Φ m n)
end Mi

/-! ## Snd: the machine does what Ev says -/
namespace Mi
open PySem PySem.Spec PyProof.Rows L2

/-- the built-ins' names that are used -/
def freeN : List Str := ["len", "int", "max", "min", "list", "all", "range", "isinstance", "bool", "str", "tuple", "dict", "sum", "sorted", "enumerate", "zip", "repr", "iter", "any", "abs"]
/-- what the module's names stand for -/
structure Ge (W : Wd) (T : Tab) (Φ : Fs) (k : Nat) (P : Program) (w : World) (mg : Str → Option Value) (base : Heap) : Prop where
  con : ∀ x v, T.glob.lookup x = some (.con v) → ∃ u y, mg x = some u ∧ RelV y u ∧ ∀ μ H, RepV W.K μ H v y
  fn : ∀ x i, T.glob.lookup x = some (.fn i) → ∃ f fd ps, mg x = some (.ref f) ∧ PySem.W.keepIn W.K (.ref f) = true ∧ ps.length = Φ.ar i ∧ FnOk P w W.K mg base (L2.CX P w) k f fd ps (spF W ps.length (Φ.call i)) ∧ Binds W.K fd ps []
  free : ∀ x, x ∈ freeN → T.glob.lookup x = none → mg x = none
/-- a context whose names are Γ's -/
structure Gd (W : Wd) (Wx : WX) (k : Nat) (Γ : Gam) (X : Cx) : Prop where
  hK : W.K = X.K
  N : X.N = Γ.N
  sc : X.env.scope = Γ.sc
  nd : Γ.N.Nodup
  calm : X.calm = true
  fn : ∀ x, storeB Γ x = true → Loc X.env.scope x ∧ (X.fn x = true ∨ X.env.scope.names.lookup x = some .local)
  fun_ : Γ.raw.isNone = true → X.env.scope.kind = .function
  hr : Room k X.A
  tk : Takes X Wx
  ps : PassesOwn (model X.prog X.w) X.A X.env X.xe
theorem pe_bad {X : Cx} {W : Wd} {Wx : WX} {e : Expr} : PE X e (rdE W Wx dBad) := ⟨fun _ _ _ _ _ _ ⟨_, _, _, _, _, z⟩ => z.elim⟩
theorem pt_bad {X : Cx} {W : Wd} {Wx : WX} {e : Expr} : PT X e (rdB W Wx dBad) := ⟨fun _ _ _ _ _ _ ⟨_, _, _, _, _, z⟩ => z.elim⟩
theorem pw_bad {X : Cx} {W : Wd} {Wx : WX} {e : Expr} : PW X e (rdB W Wx dBad) := ⟨fun _ _ _ _ _ _ _ ⟨_, _, _, _, _, z⟩ => z.elim⟩
theorem pa_bad {X : Cx} {W : Wd} {Wx : WX} {es : List Expr} : PA X es (rdL W Wx dBad) := ⟨fun _ _ _ _ _ _ _ ⟨_, _, _, _, _, z⟩ => z.elim⟩
theorem pi_bad {X : Cx} {W : Wd} {Wx : WX} {t e : Expr} : PI X t e (rdI W Wx dBad) := ⟨fun _ _ _ _ _ _ ⟨_, _, _, _, _, z⟩ => z.elim⟩
theorem isTrue_of {e : Expr} {env : Env} (h : plainTest e = true) (whole : Sem Value) : isTrue e env whole = (do let v ← whole; standAt e.pos; holding [v] (truthy v)) := by
  cases e with
  | UnaryOp op a p => cases op <;> first | rfl | cases h
  | _ => first | rfl | cases h
section
variable {W : Wd} {Wx : WX} {T : Tab} {Φ : Fs} {k : Nat} {Γ : Gam} {X : Cx} {f : Expr → Den}
theorem sn_con {c : PySem.Const} {j : Nat} {pos : Pos} : PE X (.Constant c j pos) (rdE W Wx (evCon c)) := by
  cases c with
  | none => exact se_con pe_non fun _ _ => rfl
  | bool b => exact se_con pe_bl fun _ _ => rfl
  | int i => exact se_con pe_int fun _ _ => rfl
  | str s => exact se_con pe_str fun _ _ => rfl
  | _ => exact pe_bad
theorem sn_name (G : Gd W Wx k Γ X) (E : Ge W T Φ k X.prog X.w X.mg X.base) {x : Str} {pos : Pos} : PE X (.Name x pos) (rdE W Wx (evName T Γ x)) := by
  unfold evName
  by_cases h1 : okN x = true
  · rw [if_pos h1]
    obtain ⟨o1, o2⟩ := okN_ok h1
    by_cases h2 : visB Γ.sc x = true
    · rw [if_pos h2]
      cases e : idx Γ.N x with
      | none => exact pe_bad
      | some i => exact se_var (by rw [G.N]; exact idx_some e) (by rw [G.sc]; exact visB_ok h2) o1 o2
    · rw [if_neg h2]
      by_cases h3 : glB Γ.sc x = true
      · rw [if_pos h3]
        cases e : T.glob.lookup x with
        | none => exact pe_bad
        | some g =>
          cases g with
          | fn i => exact pe_bad
          | con v =>
            obtain ⟨u, y, hm, r, hr⟩ := E.con x v e
            refine se_con (pe_glob (show X.env.kindOf x = some .globalImplicit from ?_) hm r o1) hr
            show X.env.scope.names.lookup x = _
            rw [G.sc]
            exact glB_ok h3
      · rw [if_neg h3]; exact pe_bad
  · rw [if_neg h1]; exact pe_bad
theorem sa_star {e : Expr} {es : List Expr} {da : Den} {l : DenL} {p : Pos} (hK : W.K = X.K) (ha : PE X e (rdE W Wx da)) (hr : PA X es (rdL W Wx l)) : PA X (.Starred e p :: es) (rdL W Wx (lStar da l)) := by
  refine PA.imp (StX.pa_star ha hr) fun σ H Q h => ?_
  obtain ⟨ρ, h0, μ, r, s, z⟩ := rd_bind (R := repV W) (R2 := repL W) (k := fun ρ v h1 => match itemsOf v h1 with
    | some xs => (l ρ h1).bind fun ys h2 => .ok (xs ++ ys) h2
    | none => .bad) h
  refine ⟨ρ, h0, μ, r, s, wp_imp z (fun _ _ _ z => z) fun x H1 z => ?_⟩
  obtain ⟨ρ1, p, μ1, h1, a1, rp, z⟩ := z
  cases ei : itemsOf p h1 with
  | none => rw [ei] at z; exact z.elim
  | some xs =>
    rw [ei] at z
    obtain ⟨a, vs, rfl, hs, rv⟩ := itemsOf_rep a1.rel rp ei
    rw [hK] at hs
    refine ⟨a, vs, rfl, hs.symm, ρ1, h1, μ1, a1.rel, a1.reps, wp_imp (wp_bind (R := repL W) z) (fun _ _ _ z => z) fun ys H2 z => ?_⟩
    obtain ⟨ps, μ2, h2, E2, R2, rps, z⟩ := z
    exact Post.here (show Post W (repL W) μ2 H2 h2 (xs ++ ps) Q from z) R2 ((rv.ext E2).app rps)
theorem evL_cons {e : Expr} {es : List Expr} (h : isStar e = false) : evL f (e :: es) = lCons (f e) (evL f es) := by
  cases e <;> first | rfl | cases h
theorem sn_evL (hK : W.K = X.K) (hf : ∀ e, PE X e (rdE W Wx (f e))) : ∀ es : List Expr, PA X es (rdL W Wx (evL f es))
  | [] => sa_nil
  | e :: es => by
    cases hs : isStar e with
    | true =>
      cases e <;> first | (cases hs; done) | exact sa_star hK (hf _) (sn_evL hK hf es)
    | false =>
      rw [evL_cons hs]
      exact sa_cons (hf e) (sn_evL hK hf es) (star_cons hs)
theorem evL_len : ∀ {es : List Expr} {vs : List PV} {h h' : MH} {ρ : Rho}, es.any isStar = false → evL f es ρ h = .ok vs h' → vs.length = es.length
  | [], vs, h, h', ρ, _, e => by
    have e : Res.ok ([] : List PV) h = .ok vs h' := e
    injection e with e1 _
    rw [← e1]; rfl
  | e :: es, vs, h, h', ρ, hs, z => by
    rw [List.any_cons, Bool.or_eq_false_iff] at hs
    rw [evL_cons hs.1] at z
    exact lCons_len (fun e => evL_len hs.2 e) z
theorem sn_ands (hf : ∀ e, PE X e (rdE W Wx (f e))) {pos : Pos} : ∀ es : List Expr, PE X (.BoolOp .And es pos) (rdE W Wx (evAnds f es))
  | [] => pe_bad
  | [e] => pe_one (hf e)
  | e :: e2 :: es => se_and (hf e) (sn_ands hf (e2 :: es))
theorem sn_ors (hf : ∀ e, PE X e (rdE W Wx (f e))) {pos : Pos} : ∀ es : List Expr, PE X (.BoolOp .Or es pos) (rdE W Wx (evOrs f es))
  | [] => pe_bad
  | [e] => pe_one (hf e)
  | e :: e2 :: es => se_or (hf e) (sn_ors hf (e2 :: es))
theorem sn_tands {g : Expr → DenB} (hf : ∀ e, PT X e (rdB W Wx (g e))) {pos : Pos} : ∀ es : List Expr, PW X (.BoolOp .And es pos) (rdB W Wx (evTAnds g es))
  | [] => pw_bad
  | [e] => pw_and1 (hf e)
  | e :: e2 :: es => sw_and (hf e) (sn_tands hf (e2 :: es))
theorem sn_tors {g : Expr → DenB} (hf : ∀ e, PT X e (rdB W Wx (g e))) {pos : Pos} : ∀ es : List Expr, PW X (.BoolOp .Or es pos) (rdB W Wx (evTOrs g es))
  | [] => pw_bad
  | [e] => pw_or1 (hf e)
  | e :: e2 :: es => sw_or (hf e) (sn_tors hf (e2 :: es))
theorem lookup_mem' {α : Type} : ∀ {l : List (Str × α)} {x : Str} {v : α}, l.lookup x = some v → (x, v) ∈ l
  | [], _, _, h => by cases h
  | (y, u) :: r, x, v, h => by
    unfold List.lookup at h
    cases e : x == y with
    | true =>
      rw [e] at h
      cases h
      rw [eq_of_beq e]
      exact List.mem_cons_self
    | false =>
      rw [e] at h
      exact List.mem_cons_of_mem _ (lookup_mem' h)
theorem bi_ok (G : Gd W Wx k Γ X) {x : Str} {b : Bi} (h : biTab.lookup x = some b) : x ≠ "__name__" ∧ ((∃ id, bootBuiltins x = some (.builtin id) ∧ CallR X (.builtin id) (rN W (biOp b))) ∨ ∃ t, bootBuiltins x = some (.type t) ∧ CallR X (.type t) (rN W (biOp b))) := by
  have m := lookup_mem' h
  unfold biTab at m
  simp only [List.mem_cons, Prod.mk.injEq, List.not_mem_nil, or_false] at m
  rcases m with ⟨rfl, rfl⟩ | ⟨rfl, rfl⟩ | ⟨rfl, rfl⟩ | ⟨rfl, rfl⟩ | ⟨rfl, rfl⟩ | ⟨rfl, rfl⟩
  · exact ⟨by decide, .inl ⟨_, PySem.boot_len, bi_len G.hK⟩⟩
  · exact ⟨by decide, .inr ⟨_, by decide +kernel, bi_int⟩⟩
  · exact ⟨by decide, .inl ⟨_, PyProof.Rows.boot_max, bi_max G.calm⟩⟩
  · exact ⟨by decide, .inl ⟨_, by decide +kernel, bi_min G.calm⟩⟩
  · exact ⟨by decide, .inr ⟨_, by decide +kernel, bi_list G.hK⟩⟩
  · exact ⟨by decide, .inl ⟨_, by decide +kernel, bi_all G.hK G.calm⟩⟩
theorem biTab_free {x : Str} {b : Bi} (h : biTab.lookup x = some b) : x ∈ freeN := by
  have m := lookup_mem' h
  unfold biTab at m
  simp only [List.mem_cons, Prod.mk.injEq, List.not_mem_nil, or_false] at m
  rcases m with ⟨rfl, rfl⟩ | ⟨rfl, rfl⟩ | ⟨rfl, rfl⟩ | ⟨rfl, rfl⟩ | ⟨rfl, rfl⟩ | ⟨rfl, rfl⟩ <;> decide
theorem sn_gl (G : Gd W Wx k Γ X) {x : Str} (h : glB Γ.sc x = true) : Gl X x := by
  show X.env.scope.names.lookup x = _
  rw [G.sc]
  exact glB_ok h
theorem sn_call (G : Gd W Wx k Γ X) (E : Ge W T Φ k X.prog X.w X.mg X.base) (hf : ∀ e, PE X e (rdE W Wx (f e))) {x : Str} {p pos : Pos} {es : List Expr} : PE X (.Call (.Name x p) es [] pos) (rdE W Wx (evCall T Φ Γ f x es)) := by
  unfold evCall
  by_cases h1 : okN x = true ∧ glB Γ.sc x = true ∧ es.any isStar = false
  · rw [if_pos h1]
    obtain ⟨o1, o2⟩ := okN_ok h1.1
    have hg := sn_gl G h1.2.1
    have hs := h1.2.2
    have hs0 := hs
    next =>
      cases e : T.glob.lookup x with
      | some g =>
        cases g with
        | con v => exact pe_bad
        | fn i =>
          dsimp only
          by_cases h2 : es.length = Φ.ar i ∧ es.isEmpty = false
          · rw [if_pos h2]
            obtain ⟨fa, fd, ps, hm, hk, hl, F, hb⟩ := E.fn x i e
            cases es with
            | nil => cases h2.2
            | cons e0 es =>
              rw [List.any_cons, Bool.or_eq_false_iff] at hs
              rw [G.hK] at F hb hk
              exact se_call F G.hr G.tk hg hm hk hb (sn_evL G.hK hf (e0 :: es)) (fun z => by rw [evL_len hs0 z, hl]; exact h2.1) o1 (star_cons hs.1) (nostar_any hs.2)
          · rw [if_neg h2]; exact pe_bad
      | none =>
        cases e2 : biTab.lookup x with
        | none => exact pe_bad
        | some b =>
          dsimp only
          by_cases h2 : es.isEmpty = false
          · rw [if_pos h2]
            cases es with
            | nil => cases h2
            | cons e0 es =>
              rw [List.any_cons, Bool.or_eq_false_iff] at hs
              obtain ⟨nn, hb⟩ := bi_ok G e2
              have hm := E.free x (biTab_free e2) e
              rcases hb with ⟨id, hv, hc⟩ | ⟨t, hv, hc⟩
              · exact se_of (pe_callB hc hg hm hv (sn_evL G.hK hf (e0 :: es)) nn o1 (star_cons hs.1) (nostar_any hs.2))
              · exact se_of (pe_callTy hc hg hm hv (sn_evL G.hK hf (e0 :: es)) nn o1 (star_cons hs.1) (nostar_any hs.2))
          · rw [if_neg h2]; exact pe_bad
  · rw [if_neg h1]; exact pe_bad
end
end Mi

/-! ## Sn2: expressions, statements, whole -/
namespace Mi
open PySem PySem.Spec PyProof.Rows L2
theorem Room.u65 {k : Nat} {A : Around} (r : Room k A) : A.units + 65 < cLine := by have := r.un; omega
section
variable {W : Wd} {Wx : WX} {T : Tab} {Φ : Fs} {k : Nat} {Γ : Gam} {X : Cx} {rE : Gam → Expr → Den} {rT : Gam → Expr → DenB} {rS : Gam → Stmt → DenS}
/-! ### blocks -/
theorem storeB_blk {sc : Scope} {x : Str} (h : storeB (blkG Γ sc) x = true) : locB sc x = true ∧ okN x = true := by
  have h : (okN x && locB sc x) = true := h
  rw [Bool.and_eq_true] at h
  exact ⟨h.2, h.1⟩
theorem gd_blk {sc : Scope} {Y : Cx} (G : Gd W Wx k Γ X) (B : BK X sc Y) : Gd W WxF k (blkG Γ sc) Y := by
  obtain ⟨s, H, C, cl, fp, rfl⟩ := B
  have es : (compEnvC sc cl C X.env).scope = relS sc Γ.sc := by rw [← G.sc] <;> rfl
  refine ⟨G.hK, G.N, es, G.nd, G.calm, fun x hx => ?_, (fun h => nomatch h), G.hr, fun u s' ⟨_, _, _, _, _, _, _, _, _, _, _, _, _, _, _, _, w⟩ => w.elim, PassesOwn.never⟩
  obtain ⟨h1, _⟩ := storeB_blk hx
  show Loc (compEnvC sc cl C X.env).scope x ∧ ((sc.names.lookup x == some .cell) = true ∨ (compEnvC sc cl C X.env).scope.names.lookup x = some .local)
  rw [es]
  rcases locB_ok h1 with e | e
  · have q : (relS sc Γ.sc).names.lookup x = some .local := lookup_relS_keep (by decide) e
    exact ⟨.inl q, .inr q⟩
  · have q : (relS sc Γ.sc).names.lookup x = some .cell := lookup_relS_keep (by decide) e
    exact ⟨.inr q, .inl (by rw [e]; rfl)⟩
theorem BK.same {sc : Scope} {Y : Cx} (B : BK X sc Y) : Y.prog = X.prog ∧ Y.w = X.w ∧ Y.mg = X.mg ∧ Y.base = X.base := by
  obtain ⟨s, H, C, cl, fp, rfl⟩ := B
  exact ⟨rfl, rfl, rfl, rfl⟩
theorem ge_blk {sc : Scope} {Y : Cx} (E : Ge W T Φ k X.prog X.w X.mg X.base) (B : BK X sc Y) : Ge W T Φ k Y.prog Y.w Y.mg Y.base := by
  obtain ⟨s, H, C, cl, fp, rfl⟩ := B
  exact E
/-! ### targets -/
theorem sn_tg (G : Gd W Wx k Γ X) {t : Expr} {g : TgD} (h : evTg Γ t = some g) : PG X t (gRd W g) ∧ isStar t = false := by
  cases t with
  | Name x p =>
    have h : (if storeB Γ x = true then (idx Γ.N x).map gSet else none) = some g := h
    by_cases hs : storeB Γ x = true
    · rw [if_pos hs] at h
      obtain ⟨i, hi, rfl⟩ := Option.map_eq_some_iff.mp h
      obtain ⟨h1, h2⟩ := G.fn x hs
      exact ⟨sg_name (by rw [G.N]; exact G.nd) (by rw [G.N]; exact idx_some hi) h1 h2, rfl⟩
    · rw [if_neg hs] at h; cases h
  | _ => cases h
theorem sn_tgs (G : Gd W Wx k Γ X) : ∀ {ts : List Expr} {gs : List TgD}, evTgs Γ ts = some gs → PGs X ts (gsRd W gs) ∧ (assignEach ts X.env).length = gs.length ∧ (assignEach ts X.env).findIdx? (·.1) = none
  | [], gs, h => by
    cases h
    exact ⟨sgs_nil, rfl, rfl⟩
  | t :: ts, gs, h => by
    have h : (match evTg Γ t, evTgs Γ ts with
      | some g, some gs => some (g :: gs)
      | _, _ => none) = some gs := h
    cases e1 : evTg Γ t with
    | none => rw [e1] at h; cases h
    | some g =>
      cases e2 : evTgs Γ ts with
      | none => rw [e1, e2] at h; cases h
      | some gs2 =>
        rw [e1, e2] at h
        cases h
        obtain ⟨p1, s1⟩ := sn_tg G e1
        obtain ⟨p2, l2, f2⟩ := sn_tgs G e2
        refine ⟨sgs_cons p1 p2 (by rw [asg_cons s1]; rfl), by rw [asg_cons s1, List.length_cons, l2, List.length_cons], ?_⟩
        rw [asg_cons s1, List.findIdx?_cons]
        simp [f2]
theorem sn_tgt (G : Gd W Wx k Γ X) {t : Expr} {g : TgD} (h : evTgt Γ t = some g) : PG X t (gRd W g) ∧ isStar t = false := by
  cases t with
  | Tuple es j p =>
    obtain ⟨gs, hg, rfl⟩ := Option.map_eq_some_iff.mp (show (evTgs Γ es).map gTupD = some g from h)
    obtain ⟨p1, l1, f1⟩ := sn_tgs G hg
    exact ⟨sg_tup G.hK G.calm p1 l1 f1, rfl⟩
  | Name x p => exact sn_tg G h
  | _ => cases h
/-! ### targets of blocks -/
theorem subL_ok {a b : List Nat} (h : subL a b = true) : ∀ i ∈ a, i ∈ b := fun i hi => by
  have := List.all_eq_true.mp h i hi
  exact List.contains_iff_mem.mp this
theorem sn_tgW (G : Gd W Wx k Γ X) {own : List Nat} {t : Expr} {g : TgD} (h : evTg Γ t = some g) (hs : ∀ i ∈ tgSl Γ t, i ∈ own) : PG X t (gRdW W own g) ∧ isStar t = false := by
  cases t with
  | Name x p =>
    have h : (if storeB Γ x = true then (idx Γ.N x).map gSet else none) = some g := h
    by_cases c : storeB Γ x = true
    · rw [if_pos c] at h
      obtain ⟨i, hi, rfl⟩ := Option.map_eq_some_iff.mp h
      obtain ⟨h1, h2⟩ := G.fn x c
      refine ⟨sgw_name (by rw [G.N]; exact G.nd) (by rw [G.N]; exact idx_some hi) h1 h2 (hs i ?_), rfl⟩
      show i ∈ (idx Γ.N x).toList
      rw [hi]
      exact List.mem_singleton.mpr rfl
    · rw [if_neg c] at h; cases h
  | _ => cases h
theorem sn_tgsW (G : Gd W Wx k Γ X) {own : List Nat} : ∀ {ts : List Expr} {gs : List TgD}, evTgs Γ ts = some gs → (∀ t ∈ ts, ∀ i ∈ tgSl Γ t, i ∈ own) → PGs X ts (gsRdW W own gs) ∧ (assignEach ts X.env).length = gs.length ∧ (assignEach ts X.env).findIdx? (·.1) = none
  | [], gs, h, _ => by
    cases h
    exact ⟨sgsw_nil, rfl, rfl⟩
  | t :: ts, gs, h, ho => by
    have h : (match evTg Γ t, evTgs Γ ts with
      | some g, some gs => some (g :: gs)
      | _, _ => none) = some gs := h
    cases e1 : evTg Γ t with
    | none => rw [e1] at h; cases h
    | some g =>
      cases e2 : evTgs Γ ts with
      | none => rw [e1, e2] at h; cases h
      | some gs2 =>
        rw [e1, e2] at h
        cases h
        obtain ⟨p1, s1⟩ := sn_tgW G e1 (ho t List.mem_cons_self)
        obtain ⟨p2, l2, f2⟩ := sn_tgsW G e2 fun u hu => ho u (List.mem_cons_of_mem _ hu)
        refine ⟨sgsw_cons p1 p2 (by rw [asg_cons s1]; rfl), by rw [asg_cons s1, List.length_cons, l2, List.length_cons], ?_⟩
        rw [asg_cons s1, List.findIdx?_cons]
        simp [f2]
theorem sl_mem {es : List Expr} {j : Nat} {p : Pos} {gs : List TgD} (h : evTgs Γ es = some gs) {t : Expr} (ht : t ∈ es) {i : Nat} (hi : i ∈ tgSl Γ t) : i ∈ tgSl Γ (.Tuple es j p) := by
  have nm : ∀ {es : List Expr} {gs : List TgD}, evTgs Γ es = some gs → t ∈ es → ∃ g, evTg Γ t = some g := by
    intro es
    induction es with
    | nil => intro gs _ h; cases h
    | cons a r ih =>
      intro gs h hm
      have h : (match evTg Γ a, evTgs Γ r with
        | some g, some gs => some (g :: gs)
        | _, _ => none) = some gs := h
      cases e1 : evTg Γ a with
      | none => rw [e1] at h; cases h
      | some g =>
        cases e2 : evTgs Γ r with
        | none => rw [e1, e2] at h; cases h
        | some gs2 =>
          rcases List.mem_cons.mp hm with rfl | hm
          · exact ⟨g, e1⟩
          · exact ih e2 hm
  obtain ⟨g, hg⟩ := nm h ht
  refine List.mem_filterMap.mpr ⟨t, ht, ?_⟩
  cases t with
  | Name x p => exact Option.mem_toList.mp hi
  | _ => cases hg
theorem sn_tgtW (G : Gd W Wx k Γ X) {own : List Nat} {t : Expr} {g : TgD} (h : evTgt Γ t = some g) (hs : ∀ i ∈ tgSl Γ t, i ∈ own) : PG X t (gRdW W own g) := by
  cases t with
  | Tuple es j p =>
    obtain ⟨gs, hg, rfl⟩ := Option.map_eq_some_iff.mp (show (evTgs Γ es).map gTupD = some g from h)
    obtain ⟨p1, l1, f1⟩ := sn_tgsW G hg fun t ht i hi => hs i (sl_mem hg ht hi)
    exact sgw_tup G.hK G.calm p1 l1 f1
  | Name x p => exact (sn_tgW (t := .Name x p) G h hs).1
  | _ => cases h
/-! ### expressions -/
section
variable {W : Wd} {T : Tab} {Φ : Fs} {k : Nat} {rE : Gam → Expr → Den} {rT : Gam → Expr → DenB}
abbrev SE (W : Wd) (T : Tab) (Φ : Fs) (k : Nat) (rE : Gam → Expr → Den) : Prop := ∀ {Wx : WX} {Γ : Gam} {X : Cx}, Gd W Wx k Γ X → Ge W T Φ k X.prog X.w X.mg X.base → ∀ e, PE X e (rdE W Wx (rE Γ e))
abbrev ST (W : Wd) (T : Tab) (Φ : Fs) (k : Nat) (rT : Gam → Expr → DenB) : Prop := ∀ {Wx : WX} {Γ : Gam} {X : Cx}, Gd W Wx k Γ X → Ge W T Φ k X.prog X.w X.mg X.base → ∀ e, PT X e (rdB W Wx (rT Γ e))
variable {Wx : WX} {Γ : Gam} {X : Cx}
theorem sn_it (G : Gd W Wx k Γ X) (E : Ge W T Φ k X.prog X.w X.mg X.base) {f : Expr → Den} (hf : ∀ e, PE X e (rdE W Wx (f e))) {t e : Expr} : PI X t e (rdI W Wx (evIt T Γ f e)) := by
  have hm : (T.glob.lookup ("range" : Str)).isNone = true → X.mg "range" = none := fun h => E.free _ (by decide) (by simpa using h)
  unfold evIt
  split
  · split
    · rename_i hx
      subst hx
      split
      · rename_i h
        exact si_range1 (sn_gl G h.1) (hm h.2.1) (sn_evL G.hK hf _) (by rw [star_cons h.2.2] <;> rfl)
      · exact pi_bad
    · exact si_seq G.hK (hf _)
  · split
    · rename_i hx
      subst hx
      split
      · rename_i h
        exact si_range2 (sn_gl G h.1) (hm h.2.1) (sn_evL G.hK hf _) (by rw [star_cons h.2.2.1, star_cons h.2.2.2] <;> rfl) (by rw [star_cons h.2.2.2] <;> rfl)
      · exact pi_bad
    · exact si_seq G.hK (hf _)
  · split
    · exact pi_bad
    · exact si_seq G.hK (hf _)
theorem pts_yes : PTs X [] (rdB W Wx bYes) := ⟨fun pins s σ H Q I h => pts_nil.run pins s σ H Q I (by
  obtain ⟨ρ, h0, μ, r, s, z⟩ := h
  exact Post.here (show Post W repB μ H h0 true Q from z) r rfl)⟩
theorem sn_ifs {f : Expr → DenB} (hf : ∀ e, PT X e (rdB W Wx (f e))) {es : List Expr} {tt : DenB} (h : evIfs f es = some tt) : PTs X es (rdB W Wx tt) := by
  match es, h with
  | [], h =>
    cases h
    exact pts_yes
  | [c], h =>
    cases h
    exact pts_one (hf c)
  | _ :: _ :: _, h => cases h
structure ClOk (W : Wd) (Γ : Gam) (rT : Gam → Expr → DenB) (c : Comprehension) (l : Cl) : Prop where
  as0 : c.is_async = 0
  nset : isSet c.iter = false
  tg : evTgt Γ c.target = some l.g
  tt : evIfs (rT Γ) c.ifs = some l.tt
theorem cl_ok {c : Comprehension} {l : Cl} (h : evCl rT Γ c = some l) : ClOk W Γ rT c l := by
  unfold evCl at h
  by_cases q : c.is_async = 0 ∧ isSet c.iter = false
  · rw [if_pos q] at h
    cases e1 : evTgt Γ c.target with
    | none => rw [e1] at h; cases h
    | some g =>
      cases e2 : evIfs (rT Γ) c.ifs with
      | none => rw [e1, e2] at h; cases h
      | some tt =>
        rw [e1, e2] at h
        cases h
        exact ⟨q.1, q.2, e1, e2⟩
  · rw [if_neg q] at h; cases h
theorem comp_eta {c : Comprehension} (h : c.is_async = 0) : c = ⟨c.target, c.iter, c.ifs, 0⟩ := by
  cases c
  cases h
  rfl
/-- a comprehension's pieces -/
theorem lc_parts (G : Gd W Wx k Γ X) (E : Ge W T Φ k X.prog X.w X.mg X.base) (hE : SE W T Φ k rE) (hT : ST W T Φ k rT) {sc : Scope} {c : Comprehension} {l : Cl} {own : List Nat} (o : ClOk W (blkG Γ sc) rT c l) (hs : ∀ i ∈ tgSl (blkG Γ sc) c.target, i ∈ own) :
    (∀ Y, BK X sc Y → PG Y c.target (gRdW W own l.g)) ∧ (∀ Y, BK X sc Y → PTs Y c.ifs (rdB W WxF l.tt)) ∧ (∀ Y, BK X sc Y → ∀ e, PE Y e (rdE W WxF (rE (blkG Γ sc) e))) ∧ ∀ Y, BK X sc Y → PI Y c.target c.iter (rdI W WxF (evIt T (blkG Γ sc) (rE (blkG Γ sc)) c.iter)) :=
  ⟨fun Y B => sn_tgtW (gd_blk G B) o.tg hs, fun Y B => sn_ifs (hT (gd_blk G B) (ge_blk E B)) o.tt, fun Y B => hE (gd_blk G B) (ge_blk E B), fun Y B => sn_it (gd_blk G B) (ge_blk E B) (hE (gd_blk G B) (ge_blk E B))⟩
theorem sn_lc (G : Gd W Wx k Γ X) (E : Ge W T Φ k X.prog X.w X.mg X.base) (hE : SE W T Φ k rE) (hT : ST W T Φ k rT) {elt : Expr} {gens : List Comprehension} {sc : Scope} {pos : Pos} :
    PE X (.ListComp elt gens sc pos) (rdE W Wx (evLc T rE rT Γ elt gens sc)) ∧ ∀ (i : Nat) (y : Str) (py spos : Pos), X.N[i]? = some y → X.env.scope.names.lookup y = some .local → swapsWith (.ListComp elt gens sc pos) (some (.Name y py)) spos.line X.env = pure true →
      PS X (.Assign [.Name y py] (.ListComp elt gens sc pos) spos) (rdS W Wx (sAsg (evLc T rE rT Γ elt gens sc) (gSet i))) := by
  have hN : X.N.Nodup := by rw [G.N]; exact G.nd
  have bad : rdS W Wx (sAsg dBad (gSet 0)) = rdS W Wx sBad := rfl
  unfold evLc
  split
  · rename_i hb
    have ok : BlkOk X.N X.env.scope sc (ownOf Γ.N sc) := by rw [G.N, G.sc]; exact blkOk_by hb
    split
    · rename_i c
      split
      · rename_i l e1
        split
        · rename_i hs
          have o : ClOk W (blkG Γ sc) rT c l := cl_ok e1
          obtain ⟨p1, p2, p3, _⟩ := lc_parts G E hE hT o (subL_ok hs)
          have ec := comp_eta o.as0
          rw [ec]
          exact ⟨se_lc G.calm hN (sn_it G E (hE G E)) ok p1 p2 (fun Y B => p3 Y B _) (folded_of o.nset), fun i y py spos hi hy sw => ss_setLc G.calm hN hi hy sw (sn_it G E (hE G E)) ok p1 p2 (fun Y B => p3 Y B _) (folded_of o.nset)⟩
        · exact ⟨pe_bad, fun _ _ _ _ _ _ _ => ss_bad⟩
      · exact ⟨pe_bad, fun _ _ _ _ _ _ _ => ss_bad⟩
    · rename_i c c2
      split
      · rename_i l l2 e1 e2
        split
        · rename_i hs
          have o : ClOk W (blkG Γ sc) rT c l := cl_ok e1
          have o2 : ClOk W (blkG Γ sc) rT c2 l2 := cl_ok e2
          obtain ⟨p1, p2, p3, _⟩ := lc_parts G E hE hT o (subL_ok hs.1)
          obtain ⟨r1, r2, _, r4⟩ := lc_parts (own := tgSl (blkG Γ sc) c2.target) G E hE hT o2 (fun _ h => h)
          have ec := comp_eta o.as0
          have ec2 := comp_eta o2.as0
          rw [ec, ec2]
          exact ⟨se_lc2 G.calm hN (sn_it G E (hE G E)) ok (subL_ok hs.2) p1 p2 r4 r1 r2 (fun Y B => p3 Y B _) (folded_of o.nset) (fun _ => folded_of o2.nset), fun i y py spos hi hy sw => ss_setLc2 G.calm hN hi hy sw (sn_it G E (hE G E)) ok (subL_ok hs.2) p1 p2 r4 r1 r2 (fun Y B => p3 Y B _) (folded_of o.nset) (fun _ => folded_of o2.nset)⟩
        · exact ⟨pe_bad, fun _ _ _ _ _ _ _ => ss_bad⟩
      · exact ⟨pe_bad, fun _ _ _ _ _ _ _ => ss_bad⟩
    · exact ⟨pe_bad, fun _ _ _ _ _ _ _ => ss_bad⟩
  · exact ⟨pe_bad, fun _ _ _ _ _ _ _ => ss_bad⟩
theorem sn_dc (G : Gd W Wx k Γ X) (E : Ge W T Φ k X.prog X.w X.mg X.base) (hE : SE W T Φ k rE) (hT : ST W T Φ k rT) {kx vx : Expr} {gens : List Comprehension} {sc : Scope} {pos : Pos} :
    PE X (.DictComp kx vx gens sc pos) (rdE W Wx (evDc T rE rT Γ kx vx gens sc)) ∧ ∀ (i : Nat) (y : Str) (py spos : Pos), X.N[i]? = some y → X.env.scope.names.lookup y = some .local → swapsWith (.DictComp kx vx gens sc pos) (some (.Name y py)) spos.line X.env = pure true →
      PS X (.Assign [.Name y py] (.DictComp kx vx gens sc pos) spos) (rdS W Wx (sAsg (evDc T rE rT Γ kx vx gens sc) (gSet i))) := by
  have hN : X.N.Nodup := by rw [G.N]; exact G.nd
  have hu : X.A.units + 1 < cLine := by have := G.hr.un; omega
  unfold evDc
  split
  · rename_i hb
    have ok : BlkOk X.N X.env.scope sc (ownOf Γ.N sc) := by rw [G.N, G.sc]; exact blkOk_by hb
    split
    · rename_i c
      split
      · rename_i l e1
        split
        · rename_i hs
          have o : ClOk W (blkG Γ sc) rT c l := cl_ok e1
          obtain ⟨p1, p2, p3, _⟩ := lc_parts G E hE hT o (subL_ok hs)
          have ec := comp_eta o.as0
          rw [ec]
          exact ⟨se_dc hu G.calm hN (sn_it G E (hE G E)) ok p1 p2 (fun Y B => p3 Y B _) (fun Y B => p3 Y B _) (folded_of o.nset), fun i y py spos hi hy sw => ss_setDc hu G.calm hN hi hy sw (sn_it G E (hE G E)) ok p1 p2 (fun Y B => p3 Y B _) (fun Y B => p3 Y B _) (folded_of o.nset)⟩
        · exact ⟨pe_bad, fun _ _ _ _ _ _ _ => ss_bad⟩
      · exact ⟨pe_bad, fun _ _ _ _ _ _ _ => ss_bad⟩
    · exact ⟨pe_bad, fun _ _ _ _ _ _ _ => ss_bad⟩
  · exact ⟨pe_bad, fun _ _ _ _ _ _ _ => ss_bad⟩
theorem ty_ok {t : Str} {n : String} (G : Gd W Wx k Γ X) (E : Ge W T Φ k X.prog X.w X.mg X.base) (h : tyN T Γ t = some n) : Gl X t ∧ X.mg t = none ∧ bootBuiltins t = some (.type n) ∧ t ≠ "__name__" ∧ (t == ("__debug__" : Str)) = false := by
  unfold tyN at h
  by_cases c : glB Γ.sc t = true ∧ (T.glob.lookup t).isNone = true
  · rw [if_pos c] at h
    have m := lookup_mem' h
    have cc : t ∈ freeN → X.mg t = none := fun q => E.free t q (by simpa using c.2)
    unfold tyTab at m
    simp only [List.mem_cons, Prod.mk.injEq, List.not_mem_nil, or_false] at m
    refine ⟨sn_gl G c.1, ?_⟩
    rcases m with ⟨rfl, rfl⟩ | ⟨rfl, rfl⟩ | ⟨rfl, rfl⟩ | ⟨rfl, rfl⟩ | ⟨rfl, rfl⟩ | ⟨rfl, rfl⟩ <;> exact ⟨cc (by decide), by decide +kernel, by decide, by decide⟩
  · rw [if_neg c] at h; cases h
theorem sn_isi (G : Gd W Wx k Γ X) (E : Ge W T Φ k X.prog X.w X.mg X.base) {f : Expr → Den} (hf : ∀ e, PE X e (rdE W Wx (f e))) {es : List Expr} {p pos : Pos} : PE X (.Call (.Name "isinstance" p) es [] pos) (rdE W Wx (evIsi T Γ f es)) := by
  unfold evIsi
  split
  · rename_i h
    have hg := sn_gl G h.1
    have hm := E.free "isinstance" (by decide) (by simpa using h.2)
    split
    · split
      · exact pe_bad
      · rename_i hs
        split
        · rename_i n e1
          obtain ⟨t1, t2, t3, t4, t5⟩ := ty_ok G E e1
          exact se_isi G.hK hg hm t1 t2 t3 t4 t5 (hf _) (by simpa using hs)
        · exact pe_bad
    · split
      · exact pe_bad
      · rename_i hs
        split
        · rename_i n n2 e1 e2
          obtain ⟨t1, t2, t3, t4, t5⟩ := ty_ok G E e1
          obtain ⟨u1, u2, u3, u4, u5⟩ := ty_ok G E e2
          exact se_isi2 G.hK hg hm t1 t2 t3 t4 t5 u1 u2 u3 u4 u5 (hf _) (by simpa using hs)
        · exact pe_bad
    · exact pe_bad
  · exact pe_bad
theorem len0 {α : Type} {l : List α} (h : l.length = 0) : l = [] := List.eq_nil_of_length_eq_zero h
theorem sn_mth (G : Gd W Wx k Γ X) {f : Expr → Den} (hf : ∀ e, PE X e (rdE W Wx (f e))) {o : Expr} {m : Str} {apos cpos : Pos} {es : List Expr} : PE X (.Call (.Attribute o m apos) es [] cpos) (rdE W Wx (evMth f o m apos es cpos)) := by
  have hu : X.A.units + 1 < cLine := by have := G.hr.un; omega
  unfold evMth
  split
  · rename_i h
    obtain ⟨h1, h2, h3⟩ := h
    cases e1 : mthTab.lookup (m, es.length) with
    | none => exact pe_bad
    | some i =>
      have mm : ((m, es.length), i) ∈ mthTab := by
        have gen : ∀ {l : List ((Str × Nat) × MI)} {x : Str × Nat}, l.lookup x = some i → (x, i) ∈ l := by
          intro l
          induction l with
          | nil => intro x h; cases h
          | cons p r ih =>
            intro x h
            obtain ⟨y, u⟩ := p
            unfold List.lookup at h
            cases e : x == y with
            | true =>
              rw [e] at h
              cases h
              rw [eq_of_beq e]
              exact List.mem_cons_self
            | false =>
              rw [e] at h
              exact List.mem_cons_of_mem _ (ih h)
        exact gen e1
      unfold mthTab at mm
      simp only [List.mem_cons, Prod.mk.injEq, List.not_mem_nil, or_false] at mm
      have two : ∀ {j : Nat}, es.length = j + 1 → ∃ e r, es = e :: r := fun hj => by
        cases es with
        | nil => cases hj
        | cons e r => exact ⟨e, r, rfl⟩
      rcases mm with ⟨⟨rfl, hl⟩, rfl⟩ | ⟨⟨rfl, hl⟩, rfl⟩ | ⟨⟨rfl, hl⟩, rfl⟩ | ⟨⟨rfl, hl⟩, rfl⟩ | ⟨⟨rfl, hl⟩, rfl⟩ | ⟨⟨rfl, hl⟩, rfl⟩ | ⟨⟨rfl, hl⟩, rfl⟩ | ⟨⟨rfl, hl⟩, rfl⟩
      · obtain ⟨e, r, rfl⟩ := two hl
        exact se_mtd G.hK chkL PySem.F.plainAttrs_list PySem.F.slot_list_append PySem.F.type_list_append mt_appM (hf _) (sn_evL G.hK hf _) h1 h2 h3 (by rw [hl]; decide)
      · obtain ⟨e, r, rfl⟩ := two hl
        exact se_mtd G.hK chkL PySem.F.plainAttrs_list PySem.F.slot_list_extend PySem.F.type_list_extend mt_extM (hf _) (sn_evL G.hK hf _) h1 h2 h3 (by rw [hl]; decide)
      · rw [len0 hl]
        exact se_mtd0 G.hK chkL PySem.F.plainAttrs_list PySem.F.slot_list_pop PySem.F.type_list_pop mt_popM (fun _ _ _ q => ⟨rfl, q⟩) (hf _) h1 h2
      · obtain ⟨e, r, rfl⟩ := two hl
        exact se_mtd G.hK chkL PySem.F.plainAttrs_list PySem.F.slot_list_pop PySem.F.type_list_pop mt_popI (hf _) (sn_evL G.hK hf _) h1 h2 h3 (by rw [hl]; decide)
      · rw [len0 hl]
        exact se_mtd0 G.hK chkL PySem.F.plainAttrs_list PySem.F.slot_list_reverse PySem.F.type_list_reverse mt_revM (fun _ _ _ q => ⟨rfl, q⟩) (hf _) h1 h2
      · rw [len0 hl]
        exact se_mtd0 G.hK chkL PySem.F.plainAttrs_list PySem.F.slot_list_clear PySem.F.type_list_clear mt_clrM (fun _ _ _ q => ⟨rfl, q⟩) (hf _) h1 h2
      · obtain ⟨e, r, rfl⟩ := two hl
        exact se_mtd G.hK chkD PySem.F.plainAttrs_dict PySem.F.slot_dict_get PySem.F.type_dict_get (mt_get1 hu) (hf _) (sn_evL G.hK hf _) h1 h2 h3 (by rw [hl]; decide)
      · obtain ⟨e, r, rfl⟩ := two hl
        exact se_mtd G.hK chkD PySem.F.plainAttrs_dict PySem.F.slot_dict_get PySem.F.type_dict_get (mt_get2 hu) (hf _) (sn_evL G.hK hf _) h1 h2 h3 (by rw [hl]; decide)
  · exact pe_bad
theorem se_dic0 {pos : Pos} : PE X (.Dict [] [] pos) (rdE W Wx (dOf dicV lNil)) := by
  refine PE.imp pe_dnewK fun σ H Q h => ?_
  obtain ⟨ρ, h0, μ, r, s, z⟩ := h
  intro p hp
  exact Post.new (show Post W (repV W) μ H (h0 ++ [.dic []]) (.ref h0.length) Q from z) r hp (.inl ⟨[], upd_same, .nil⟩)
theorem se_sub (G : Gd W Wx k Γ X) {a b : Expr} {da db : Den} {pos : Pos} (ha : PE X a (rdE W Wx da)) (hb : PE X b (rdE W Wx db)) (hs : PlainIx b) : PE X (.Subscript a b pos) (rdE W Wx (dBin subP da db)) :=
  se_two (f := fun _ _ => pure .none) (t := fun _ _ _ => True) (pe_ix (ix_subP G.hK (by have := G.hr.un; omega)) ha hb hs)
theorem sn_evX (G : Gd W Wx k Γ X) (E : Ge W T Φ k X.prog X.w X.mg X.base) (hE : SE W T Φ k rE) (hT : ST W T Φ k rT) (e : Expr) : PE X e (rdE W Wx (evX T Φ rE rT Γ e)) := by
  have hE' := hE G E
  unfold evX
  split
  · exact sn_con
  · exact sn_name G E
  · exact se_bin G.hK (hE' _) (hE' _)
  · exact se_neg (hE' _)
  · exact se_not (hE' _)
  · exact sn_ands hE' _
  · exact sn_ors hE' _
  · split
    · exact pe_bad
    · rename_i h
      exact se_cmp (op_cmpP G.hK (Room.u65 G.hr) _) (hE' _) (hE' _) (behind_of (by simpa using h))
  · split
    · exact pe_bad
    · rename_i h
      exact se_chain (op_cmpP G.hK (Room.u65 G.hr) _) (op_cmpP G.hK (Room.u65 G.hr) _) (hE' _) (hE' _) (hE' _) (behind_of (by simpa using h))
  · exact se_ifExp (hT G E _) (hE' _) (hE' _)
  · exact se_tup (sn_evL G.hK hE' _)
  · exact se_lst (sn_evL G.hK hE' _)
  · exact se_dic0
  · exact (sn_lc G E hE hT).1
  · exact (sn_dc G E hE hT).1
  · split
    · rename_i h
      subst h
      exact sn_isi G E hE'
    · exact sn_call G E hE'
  · exact sn_mth G hE'
  · split
    · exact pe_bad
    · rename_i h
      exact se_sub G (hE' _) (hE' _) (plainIx_of (by simpa using h))
  · exact pe_bad
theorem sn_evTX (G : Gd W Wx k Γ X) (E : Ge W T Φ k X.prog X.w X.mg X.base) (hE : ∀ e, PE X e (rdE W Wx (rE Γ e))) (hT : ∀ e, PT X e (rdB W Wx (rT Γ e))) {self : Expr → Den} (hs : ∀ e, PE X e (rdE W Wx (self e))) (e : Expr) : PT X e (rdB W Wx (evTX rE rT self Γ e)) := by
  unfold evTX
  split
  · exact st_not (hT _)
  · exact PW.pt (sn_tands hT _)
  · exact PW.pt (sn_tors hT _)
  · split
    · exact pt_bad
    · rename_i h
      exact st_cmp (op_cmpP G.hK (Room.u65 G.hr) _) (hE _) (hE _) (behind_of (by simpa using h))
  · split
    · exact pt_bad
    · rename_i h
      exact st_chain (op_cmpP G.hK (Room.u65 G.hr) _) (op_cmpP G.hK (Room.u65 G.hr) _) (hE _) (hE _) (hE _) (behind_of (by simpa using h))
  · split
    · rename_i h
      exact st_tru G.hK (hs _) (isTrue_of h)
    · exact pt_bad
theorem sn_ev : ∀ n : Nat, SE W T Φ k (ev T Φ n).1 ∧ ST W T Φ k (ev T Φ n).2
  | 0 => ⟨fun _ _ _ => pe_bad, fun _ _ _ => pt_bad⟩
  | n + 1 => by
    obtain ⟨hE, hT⟩ := sn_ev n
    exact ⟨fun G E => sn_evX G E hE hT, fun G E => sn_evTX G E (hE G E) (hT G E) (sn_evX G E hE hT)⟩
/-- name = a comprehension -/
theorem sn_comp (n : Nat) (G : Gd W Wx k Γ X) (E : Ge W T Φ k X.prog X.w X.mg X.base) {e : Expr} {i : Nat} {y : Str} {py spos : Pos} (hc : isComp e = true) (hi : X.N[i]? = some y) (hy : X.env.scope.names.lookup y = some .local) (sw : swapsWith e (some (.Name y py)) spos.line X.env = pure true) :
    PS X (.Assign [.Name y py] e spos) (rdS W Wx (sAsg ((ev T Φ n).1 Γ e) (gSet i))) := by
  cases n with
  | zero => exact ss_bad
  | succ n =>
    obtain ⟨hE, hT⟩ := sn_ev (W := W) (T := T) (Φ := Φ) (k := k) n
    cases e <;> first | (cases hc; done) | exact (sn_lc G E hE hT).2 i y py spos hi hy sw | exact (sn_dc G E hE hT).2 i y py spos hi hy sw | exact ss_bad
end
section
variable {W : Wd} {Wx : WX} {T : Tab} {Φ : Fs} {k : Nat} {Γ : Gam} {X : Cx} {rE : Gam → Expr → Den} {rT : Gam → Expr → DenB} {rS : Gam → Stmt → DenS}
/-! ### assignments -/
theorem sole_of {t e : Expr} {l : Nat} {env : Env} (h : isComp e = false) : swapsWithSole [t] e l env = pure false := swaps_of h
theorem one_asg {t : Expr} {env : Env} (h : isStar t = false) : (assignEach [t] env).map (·.2) = [assign t env] := by rw [asg_cons h]; rfl
theorem pure_bind' {α β : Type} (a : α) (f : α → Sem β) : (pure a : Sem α) >>= f = f a := by rfl
theorem sw_of {ts vs : List Expr} {j j2 : Nat} {p p2 : Pos} {env : Env} {sc : Scope} (hsc : env.scope = sc) (hk : env.scope.kind = .function) :
    (swS sc ts vs = .no → swappedStores [.Tuple ts j p] (.Tuple vs j2 p2) env = pure none) ∧ ∀ ns, swS sc ts vs = .yes ns → swappedStores [.Tuple ts j p] (.Tuple vs j2 p2) env = pure (some ns) := by
  have hb : env.blockKind = .function := by unfold Env.blockKind; rw [hk]; rfl
  have hf : (ScopeKind.function != ScopeKind.function) = false := by decide
  have hn : swN sc ts = ts.filterMap fun
      | .Name id pos => if env.kindOf id == some .local && pos.line == (ts.head?.map (·.pos.line)).getD 0 then some id else none
      | _ => none := by
    rw [← hsc]; rfl
  have hA : ∀ g : Expr → Bool, (∀ e, g e = isStar e) → vs.any g = vs.any isStar := fun g hg => by rw [funext hg]
  unfold swappedStores swS
  rw [hn]
  simp only [hb, hf, Bool.or_false]
  generalize (ts.filterMap fun
      | .Name id pos => if (env.kindOf id == some .local && pos.line == (ts.head?.map (·.pos.line)).getD 0) = true then some id else none
      | _ => none) = F
  cases c1 : (!(ts.length == 2 || ts.length == 3) || vs.length != ts.length) with
  | true => exact ⟨fun _ => rfl, fun _ h => by cases h⟩
  | false =>
    cases c2 : vs.any isStar with
    | true =>
      rw [hA _ (fun e => by cases e <;> rfl), c2]
      exact ⟨fun _ => rfl, fun _ h => by cases h⟩
    | false =>
      rw [hA _ (fun e => by cases e <;> rfl), c2]
      cases c3 : (F.length != ts.length || F.eraseDups.length != F.length) with
      | true => exact ⟨fun _ => rfl, fun _ h => by cases h⟩
      | false =>
        cases c4 : vs.all (foldedForSure 8) with
        | true => exact ⟨fun _ => rfl, fun _ h => by cases h⟩
        | false =>
          cases c5 : vs.all (constantsAlone 8) with
          | true => exact ⟨fun h => (by cases h), fun _ h => (by cases h)⟩
          | false => exact ⟨fun h => (by cases h), fun _ h => (by cases h; rfl)⟩
end
end
end Mi

/-! ## Sn3: statements -/
namespace Mi
open PySem PySem.Spec PyProof.Rows L2
section
variable {W : Wd} {Wx : WX} {T : Tab} {Φ : Fs} {k : Nat} {Γ : Gam} {X : Cx} {rE : Gam → Expr → Den} {rT : Gam → Expr → DenB} {rS : Gam → Stmt → DenS} {f : Expr → Den} {pos : Pos}
theorem ss_par3 {i j l : Nat} {a b c : Expr} {la : DenL} {x y z : Str} {px py pz pt : Pos} {kt k2 pt2} (hc : X.calm = true) (hN : X.N.Nodup) (hi : X.N[i]? = some x) (hj : X.N[j]? = some y) (hl : X.N[l]? = some z) (hij : i ≠ j) (hil : i ≠ l) (hjl : j ≠ l)
    (hx : X.env.scope.names.lookup x = some .local) (hy : X.env.scope.names.lookup y = some .local) (hz : X.env.scope.names.lookup z = some .local) (ha : PA X [a, b, c] (rdL W Wx la))
    (hw : swappedStores [.Tuple [.Name x px, .Name y py, .Name z pz] kt pt] (.Tuple [a, b, c] k2 pt2) X.env = pure (some [x, y, z]))
    (hs : swapsWithSole [.Tuple [.Name x px, .Name y py, .Name z pz] kt pt] (.Tuple [a, b, c] k2 pt2) pos.line X.env = pure false) :
    PS X (.Assign [.Tuple [.Name x px, .Name y py, .Name z pz] kt pt] (.Tuple [a, b, c] k2 pt2) pos) (rdS W Wx (sPar3 i j l la)) := by
  refine PS.imp (ps_par3 hc hN hi hj hl hij hil hjl hx hy hz ha hw hs) fun D σ H h => ?_
  obtain ⟨ρ, h0, μ, r, s, z⟩ := rdS_bind (R := repL W) (k := fun ρ vs h1 => match vs with
    | [v, w, u] => .nx (((ρ.set i (some v)).set j (some w)).set l (some u)) h1
    | _ => .bad) h
  refine ⟨ρ, h0, μ, r, s, wp_imp z (fun _ _ _ z => z) fun x H1 z => ?_⟩
  obtain ⟨ρ1, p, μ1, h1, a1, rp, z⟩ := z
  match p, rp, z with
  | [v, w, u], rp, z =>
    obtain ⟨x1, r', rfl, q1, rp'⟩ := RepVs.cons_inv rp
    obtain ⟨x2, r'', rfl, q2, rp''⟩ := RepVs.cons_inv rp'
    obtain ⟨x3, r3, rfl, q3, rp3⟩ := RepVs.cons_inv rp''
    have rp3 : r3 = [] := rp3
    subst rp3
    exact ⟨x1, x2, x3, rfl, z μ1 H1 _ Ext.refl a1.rel (((a1.reps.set i q1).set j q2).set l q3)⟩
  | [], _, z => exact z.elim
  | [_], _, z => exact z.elim
  | [_, _], _, z => exact z.elim
  | _ :: _ :: _ :: _ :: _, _, z => exact z.elim
theorem sn_par (G : Gd W Wx k Γ X) (hf : ∀ e, PE X e (rdE W Wx (f e))) {ts vs : List Expr} {ns : List Str} {j j2 : Nat} {p p2 : Pos} (hw : swappedStores [.Tuple ts j p] (.Tuple vs j2 p2) X.env = pure (some ns)) :
    PS X (.Assign [.Tuple ts j p] (.Tuple vs j2 p2) pos) (rdS W Wx (evPar Γ f ns ts vs)) := by
  unfold evPar
  split
  · split
    · rename_i hi hj
      split
      · rename_i h
        obtain ⟨rfl, h1, h2, h3⟩ := h
        rw [← G.N] at hi hj
        rw [← G.sc] at h2 h3
        exact ss_par G.calm (by rw [G.N]; exact G.nd) (idx_some hi) (idx_some hj) h1 h2 h3 (sn_evL G.hK hf _) hw (sole_of rfl)
      · exact ss_bad
    · exact ss_bad
  · split
    · rename_i hi hj hl
      split
      · rename_i h
        obtain ⟨rfl, h1, h2, h3, h4, h5, h6⟩ := h
        rw [← G.N] at hi hj hl
        rw [← G.sc] at h4 h5 h6
        exact ss_par3 G.calm (by rw [G.N]; exact G.nd) (idx_some hi) (idx_some hj) (idx_some hl) h1 h2 h3 h4 h5 h6 (sn_evL G.hK hf _) hw (sole_of rfl)
      · exact ss_bad
    · exact ss_bad
  · exact ss_bad
theorem sw_nt {t e : Expr} {env : Env} (h : isTupE e = false) : swappedStores [t] e env = pure none := by
  cases e <;> first | (cases t <;> rfl) | cases h
theorem sw_nn {x : Str} {p : Pos} {e : Expr} {env : Env} : swappedStores [.Name x p] e env = pure none := by
  cases e <;> rfl
theorem sn_tgH (G : Gd W Wx k Γ X) (hf : ∀ e, PE X e (rdE W Wx (f e))) {t : Expr} {g : TgH} (h : evTgH Γ f t = some g) : PG X t (gRdH W Wx g) ∧ isStar t = false := by
  cases t with
  | Name x p =>
    obtain ⟨g0, h0, rfl⟩ := Option.map_eq_some_iff.mp (show (evTg Γ (.Name x p)).map hLift = some g from h)
    obtain ⟨q1, q2⟩ := sn_tg G h0
    exact ⟨sgh_lift q1, q2⟩
  | Subscript a i p =>
    have h : (if isSlice i = true then none else some (hSub (f a) (f i))) = some g := h
    by_cases c : isSlice i = true
    · rw [if_pos c] at h; cases h
    · rw [if_neg c] at h
      cases h
      exact ⟨sgh_sub (by have := G.hr.un; omega) (by simpa using c) (hf _) (hf _), rfl⟩
  | _ => cases h
theorem sn_tgHs (G : Gd W Wx k Γ X) (hf : ∀ e, PE X e (rdE W Wx (f e))) : ∀ {ts : List Expr} {gs : List TgH}, evTgHs Γ f ts = some gs → PGs X ts (gsRdH W Wx gs) ∧ (assignEach ts X.env).length = gs.length ∧ (assignEach ts X.env).findIdx? (·.1) = none
  | [], gs, h => by
    cases h
    exact ⟨sgh_nil, rfl, rfl⟩
  | t :: ts, gs, h => by
    have h : (match evTgH Γ f t, evTgHs Γ f ts with
      | some g, some gs => some (g :: gs)
      | _, _ => none) = some gs := h
    cases e1 : evTgH Γ f t with
    | none => rw [e1] at h; cases h
    | some g =>
      cases e2 : evTgHs Γ f ts with
      | none => rw [e1, e2] at h; cases h
      | some gs2 =>
        rw [e1, e2] at h
        cases h
        obtain ⟨p1, s1⟩ := sn_tgH G hf e1
        obtain ⟨p2, l2, f2⟩ := sn_tgHs G hf e2
        refine ⟨sgh_cons p1 p2 (by rw [asg_cons s1]; rfl), by rw [asg_cons s1, List.length_cons, l2, List.length_cons], ?_⟩
        rw [asg_cons s1, List.findIdx?_cons]
        simp [f2]
theorem sn_tgtH (G : Gd W Wx k Γ X) (hf : ∀ e, PE X e (rdE W Wx (f e))) {t : Expr} {g : TgH} (h : evTgtH Γ f t = some g) : PG X t (gRdH W Wx g) ∧ isStar t = false := by
  cases t with
  | Tuple es j p =>
    obtain ⟨gs, hg, rfl⟩ := Option.map_eq_some_iff.mp (show (evTgHs Γ f es).map hTup = some g from h)
    obtain ⟨p1, l1, f1⟩ := sn_tgHs G hf hg
    exact ⟨sgh_tup G.hK G.calm p1 l1 f1, rfl⟩
  | Name x p => exact sn_tgH (t := .Name x p) G hf h
  | Subscript a i p => exact sn_tgH (t := .Subscript a i p) G hf h
  | _ => cases h
theorem sn_as (G : Gd W Wx k Γ X) (hf : ∀ e, PE X e (rdE W Wx (f e))) {t e : Expr} (hs : swapsWithSole [t] e pos.line X.env = pure false) (hw : swappedStores [t] e X.env = pure none) : PS X (.Assign [t] e pos) (rdS W Wx (evAs Γ f t e)) := by
  unfold evAs
  split
  · rename_i g e2
    obtain ⟨q1, q2⟩ := sn_tgt G e2
    exact ss_asg (hf _) q1 hs hw (one_asg q2)
  · split
    · rename_i g e2
      obtain ⟨q1, q2⟩ := sn_tgtH G hf e2
      exact ss_asgH (hf _) q1 hs hw (one_asg q2)
    · exact ss_bad
/-- the store of a comprehension -/
abbrev SC (W : Wd) (Wx : WX) (Γ : Gam) (X : Cx) (f : Expr → Den) : Prop := ∀ {e : Expr} {i : Nat} {y : Str} {py spos : Pos}, isComp e = true → X.N[i]? = some y → X.env.scope.names.lookup y = some .local → swapsWith e (some (.Name y py)) spos.line X.env = pure true → PS X (.Assign [.Name y py] e spos) (rdS W Wx (sAsg (f e) (gSet i)))
def compSc (e : Expr) : Option Scope := match e with
  | .ListComp _ _ s _ => some s
  | .SetComp _ _ s _ => some s
  | .DictComp _ _ _ s _ => some s
  | _ => none
theorem comp_sc {e : Expr} (h : isComp e = true) : ∃ s, compSc e = some s := by
  cases e <;> first | (cases h; done) | exact ⟨_, rfl⟩
theorem sn_asg (G : Gd W Wx k Γ X) (hf : ∀ e, PE X e (rdE W Wx (f e))) (hC : SC W Wx Γ X f) {t e : Expr} : PS X (.Assign [t] e pos) (rdS W Wx (evAsg Γ f t e)) := by
  unfold evAsg
  split
  · rename_i ts j p vs j2 p2
    by_cases hr : Γ.raw.isNone = true
    · rw [if_pos hr]
      obtain ⟨w1, w2⟩ := sw_of (ts := ts) (vs := vs) (j := j) (j2 := j2) (p := p) (p2 := p2) G.sc (G.fun_ hr)
      cases e1 : swS Γ.sc ts vs with
      | no => exact sn_as G hf (sole_of rfl) (w1 e1)
      | yes ns => exact sn_par G hf (w2 ns e1)
      | bad => exact ss_bad
    · rw [if_neg hr]
      exact ss_bad
  · split
    · exact ss_bad
    · rename_i _ x p h
      split
      · rename_i g e2
        obtain ⟨q1, q2⟩ := sn_tgt G e2
        cases hcm : isComp e with
        | false => exact ss_asg (hf _) q1 (sole_of hcm) sw_nn (one_asg q2)
        | true =>
          have hr : Γ.raw.isNone = true := by
            cases hr : Γ.raw.isNone with
            | true => rfl
            | false => exact absurd ⟨hcm, hr⟩ h
          have e2 : (if storeB Γ x = true then (idx Γ.N x).map gSet else none) = some g := e2
          by_cases c : storeB Γ x = true
          · rw [if_pos c] at e2
            obtain ⟨i, hi, rfl⟩ := Option.map_eq_some_iff.mp e2
            by_cases hl : X.env.scope.names.lookup x = some .local
            · obtain ⟨s, hs⟩ := comp_sc hcm
              have sw := sw_any (y := x) (py := p) (l := pos.line) (G.fun_ hr) (show compSc e = some s from hs) hl
              cases hb : (p.line == e.pos.line && !(s.names.any fun (n, k) => n == x && (k == .local || k == .cell))) with
              | true => exact hC hcm (by rw [G.N]; exact idx_some hi) hl (by rw [sw, hb])
              | false => exact ss_asg (hf _) q1 (by rw [hb] at sw; exact sw) sw_nn (one_asg q2)
            · exact ss_asg (hf _) q1 (sw_cell (l := pos.line) (by simpa using hl)) sw_nn (one_asg q2)
          · rw [if_neg c] at e2; cases e2
      · exact ss_bad
  · split
    · exact ss_bad
    · rename_i h
      rw [not_or] at h
      exact sn_as G hf (sole_of (by simpa using h.1)) (sw_nt (by simpa using h.2))
  · split
    · exact ss_bad
    · rename_i _ a i p h
      rw [not_or] at h
      exact ss_asgH (hf _) (sgh_sub (by have := G.hr.un; omega) (by simpa using h.2) (hf _) (hf _)) (sole_of (by simpa using h.1)) (by cases e <;> rfl) (one_asg rfl)
  · exact ss_bad
theorem it_set {t e : Expr} : isSet e = true → PI X t e (rdI W Wx (evIt T Γ f e)) := fun h => by
  cases e <;> first | exact pi_bad | cases h
theorem sn_B {g : Stmt → DenS} (hg : ∀ s, PS X s (rdS W Wx (g s))) : ∀ ss : List Stmt, PSs X ss (rdS W Wx (evB g ss))
  | [] => ss_nil
  | [s] => ss_one (hg s)
  | s :: s2 :: ss => ss_cons (hg s) (sn_B hg (s2 :: ss))
theorem for_bad {d : DenI} (h : ∀ ρ h, d ρ h = .bad) {g : TgD} {b : DenS} : rdS W Wx (sFor d g b) = rdS W Wx sBad := by
  have : sFor d g b = sBad := by
    funext ρ h0
    unfold sFor
    rw [h] <;> rfl
  rw [this]
theorem sn_SX (G : Gd W Wx k Γ X) (E : Ge W T Φ k X.prog X.w X.mg X.base) (hE : ∀ e, PE X e (rdE W Wx (rE Γ e))) (hC : SC W Wx Γ X (rE Γ)) (hT : ∀ e, PT X e (rdB W Wx (rT Γ e))) (hS : ∀ s, PS X s (rdS W Wx (rS Γ s))) (s : Stmt) : PS X s (rdS W Wx (evSX T rE rT rS Γ s)) := by
  unfold evSX
  split
  · exact ss_pass
  · exact ss_break
  · exact ss_continue
  · split
    · exact ss_bad
    · rename_i h
      exact ss_expr (hE _) (swaps_of (by simpa using h))
  · exact ss_retN
  · exact ss_ret (hE _)
  · exact ss_if (hT _) (sn_B hS _) (sn_B hS _)
  · exact ss_while G.ps (hT _) (sn_B hS _)
  · split
    · rename_i t e b p _ g e1
      obtain ⟨q1, q2⟩ := sn_tgt G e1
      cases h : isSet e with
      | true =>
        rw [for_bad (fun ρ h0 => by cases e <;> first | rfl | cases h)]
        exact ss_bad
      | false => exact ss_for G.ps G.calm (sn_it G E hE) q1 (sn_B hS _) (folded_of h)
    · exact ss_bad
  · exact sn_asg G hE hC
  · exact ss_bad
theorem sn_S (E : Ge W T Φ k X.prog X.w X.mg X.base) {m : Nat} (G : Gd W Wx k Γ X) : ∀ (n : Nat) (s : Stmt), PS X s (rdS W Wx (evS T Φ m n Γ s))
  | 0, _ => ss_bad
  | n + 1, s => sn_SX G E ((sn_ev m).1 G E) (fun hc hi hy sw => sn_comp m G E hc hi hy sw) ((sn_ev m).2 G E) (sn_S E G n) s
end
end Mi

/-! ## Top: a module's defs, the law's end -/
namespace Mi
open PySem PySem.Spec PyProof.Rows L2

/-- a def: its datum, its names with a slot (the parameters first), its parameters -/
structure FnD where
  d : He.DefD
  N : List Str
  ps : List Str
def FnD.gam (f : FnD) : Gam := ⟨f.N, f.d.scope, none⟩
def arOf (fs : List FnD) (i : Nat) : Nat := match fs[i]? with
  | some f => f.ps.length
  | none => 0
/-- the defs' meanings, n calls deep; m: how deep the text -/
def Phi (T : Tab) (fs : List FnD) (m : Nat) : Nat → Fs
  | 0 => ⟨fun _ _ _ => .bad, arOf fs⟩
  | n + 1 => ⟨fun i => match fs[i]? with
    | some f => runB f.N.length (evB (evS T (Phi T fs m n) m m f.gam) f.d.body)
    | none => fun _ _ => .bad, arOf fs⟩
theorem Phi_ar {T : Tab} {fs : List FnD} {m n : Nat} : (Phi T fs m n).ar = arOf fs := by cases n <;> rfl
def scOk (f : FnD) : Bool := (match f.d.scope.kind with | .function => true | _ => false) && !f.d.scope.isCoroutine && !f.d.scope.isGenerator && decide f.N.Nodup && decide (f.N.take f.ps.length = f.ps) && (f.ps.all fun x => locB f.d.scope x) && (f.d.scope.names.all fun y => !(y.2 == .free))
theorem sc_ok {f : FnD} (h : scOk f = true) : FnScope f.N f.ps f.d.scope := by
  unfold scOk at h
  simp only [Bool.and_eq_true, Bool.not_eq_true', decide_eq_true_eq, List.all_eq_true] at h
  obtain ⟨⟨⟨⟨⟨⟨h1, h2⟩, h3⟩, h4⟩, h5⟩, h6⟩, h7⟩ := h
  refine ⟨?_, h2, h3, h4, h5, fun x hx => ?_, fun y hy e => ?_⟩
  · split at h1
    · assumption
    · cases h1
  · exact locB_ok (h6 x hx)
  · have := h7 y hy
    rw [e] at this
    cases this
section
variable {W : Wd} {T : Tab} {fs : List FnD} {P : Program} {w : World} {mg : Str → Option Value} {base : Heap}
/-- what the head tells of a module's name -/
def Ent (K : PySem.W.Frag) (mg : Str → Option Value) (fs : List FnD) (p : Str × GV) : Prop := match p.2 with
  | .fn i => ∃ (f : FnD) (fd : FuncData) (g : Addr), fs[i]? = some f ∧ scOk f = true ∧ mg p.1 = some (.ref g) ∧ FunD K f.d.name f.d.qual f.d.params f.d.body f.d.scope (f.d.dvs K) (f.d.kws K) g fd ∧ ∀ (s : Shared) (us : List Value), (K.In s.heap ∨ f.d.dfl = []) → us.length = f.ps.length → BindsTo s fd ⟨us, []⟩ (f.ps.zip us)
  | .con v => ∃ u y, mg p.1 = some u ∧ RelV y u ∧ ∀ μ H, RepV K μ H v y
def AllE (K : PySem.W.Frag) (mg : Str → Option Value) (fs : List FnD) : List (Str × GV) → Prop
  | [] => True
  | p :: r => Ent K mg fs p ∧ AllE K mg fs r
theorem AllE.at {K : PySem.W.Frag} : ∀ {l : List (Str × GV)}, AllE K mg fs l → ∀ p ∈ l, Ent K mg fs p
  | [], _, p, h => by cases h
  | q :: r, a, p, h => by
    rcases List.mem_cons.mp h with rfl | h
    · exact a.1
    · exact AllE.at a.2 p h
theorem fn_zero {f : FnD} {fd : FuncData} {g : Addr} {i m : Nat} : FnOk P w W.K mg base (L2.CX P w) 0 g fd f.ps (spF W f.ps.length ((Phi T fs m 0).call i)) :=
  ⟨fun vs H Q E z => z.1, fun A outer s H args us vs Q E hr e0 bt rv z => by
    obtain ⟨_, ps, μ, h0, _, _, z⟩ := z
    exact z.elim⟩
theorem fn_step {f : FnD} {fd : FuncData} {g : Addr} {i m n : Nat} {dvs : List V} {kws : List (Str × V)} (ih : Ge W T (Phi T fs m n) n P w mg base) (e1 : fs[i]? = some f) (sc : scOk f = true) (F : FunD W.K f.d.name f.d.qual f.d.params f.d.body f.d.scope dvs kws g fd) :
    FnOk P w W.K mg base (L2.CX P w) (n + 1) g fd f.ps (spF W f.ps.length ((Phi T fs m (n + 1)).call i)) := by
  have S := sc_ok sc
  have e2 : (Phi T fs m (n + 1)).call i = runB f.N.length (evB (evS T (Phi T fs m n) m m f.gam) f.d.body) := by
    show (match fs[i]? with
      | some f => runB f.N.length (evB (evS T (Phi T fs m n) m m f.gam) f.d.body)
      | none => fun _ _ => .bad) = _
    rw [e1]
  rw [e2]
  refine fn_ok F S fun cdv A outer s H E hr => ?_
  refine sn_B (fun st => sn_S (k := n) (Γ := f.gam) ih ?_ m st) _
  refine ⟨rfl, rfl, rfl, S.nd, rfl, fun x hx => ?_, fun _ => S.kind, hr, takes_of (X := cxOf (L2.CX P w) P w W.K mg base f.N f.d.qual f.d.scope g cdv A outer s H E) rfl rfl rfl rfl, passes_of rfl⟩
  have hx : (okN x && locB f.d.scope x) = true := hx
  rw [Bool.and_eq_true] at hx
  exact ⟨locB_ok hx.2, .inl rfl⟩
theorem ge_phi (a : AllE W.K mg fs T.glob) (fr : ∀ x, x ∈ freeN → T.glob.lookup x = none → mg x = none) (m : Nat) : ∀ n : Nat, Ge W T (Phi T fs m n) n P w mg base := fun n => by
  have ar : ∀ {i : Nat} {f : FnD}, fs[i]? = some f → f.ps.length = arOf fs i := fun e1 => by unfold arOf; rw [e1]
  induction n with
  | zero =>
    refine ⟨fun x v h => a.at _ (lookup_mem' h), fun x i h => ?_, fr⟩
    obtain ⟨f, fd, g, e1, sc, hm, F, B⟩ := a.at _ (lookup_mem' h)
    exact ⟨g, fd, f.ps, hm, F.kp, ar e1, fn_zero, fun s us hK hl => by rw [List.append_nil] at hl ⊢; exact B s us (.inl hK) hl⟩
  | succ n ih =>
    refine ⟨fun x v h => a.at _ (lookup_mem' h), fun x i h => ?_, fr⟩
    obtain ⟨f, fd, g, e1, sc, hm, F, B⟩ := a.at _ (lookup_mem' h)
    exact ⟨g, fd, f.ps, hm, F.kp, ar e1, fn_step ih e1 sc F, fun s us hK hl => by rw [List.append_nil] at hl ⊢; exact B s us (.inl hK) hl⟩
/-- THE END: the law's def -/
theorem law_run {l : PySem.W.OpenLaw} {n k i : Nat} {x : Str} (a : AllE W.K mg fs T.glob) (fr : ∀ x, x ∈ freeN → T.glob.lookup x = none → mg x = none) (m : Nat)
    (h : ∀ ns : List Int, ns.length ≤ n → ∃ h', (Phi T fs m k).call i [.rol (ns.map .int)] [] = .ok (.bl true) h') :
    ∀ (H : Hp) (a : Addr) (ns : List Int), ns.length ≤ n → Only H → SqL W.K H a (ns.map V.int) → spF W 1 ((Phi T fs m k).call i) [.ref a] H (fun v _ => v = .bl true) fun _ _ _ => False := fun H a ns hl ho hs => by
  obtain ⟨h', e⟩ := h ns hl
  refine ⟨rfl, [.rol (ns.map .int)], [], [], ⟨rfl, List.nodup_nil, fun n a o e => by simp at e⟩, ?_, ?_⟩
  · refine RepVs.one ⟨a, ns.map V.int, rfl, ?_, RepVs.ints⟩
    rcases hs with (hs | ⟨o, hs⟩) | hs
    · rcases ho a with z | ⟨o, xs, z⟩
      · rw [z] at hs; cases hs
      · rw [z] at hs; cases hs
    · exact .inl ⟨o, hs⟩
    · exact .inr hs
  · rw [e]
    exact fun μ' H' x _ _ r => r
theorem cx_no {P : Program} {w : World} {outer : List Env} (H : Hp) (s : Shared) (e : Value) (s' : Shared) (h : L2.CX P w outer H s (fun _ _ _ => False) e s') : False := by
  obtain ⟨_, _, _, _, _, _, _, _, _, _, _, _, z⟩ := h
  exact z
end
end Mi
namespace Mi
open PySem PySem.Spec PyProof.Rows L2
/-! ### the Hook: the defs, the facts, one Bool more -/
abbrev AlE : Type := He.AlD × Bool
def obsE (n : Nat) (fa : List He.Fa) (fn : List He.DefD) (ex : PySem.W.Frag → Bool) (g : Addr → Option Obj) : AlE := (He.obsDG n fa fn g, ex (He.frG g (He.asD g n)))
def hookE (n : Nat) (fa : List He.Fa) (fn : List He.DefD) (ex : PySem.W.Frag → Bool) : PySem.W.Hook where
  α := AlE
  obs := fun s => obsE n fa fn ex s.heap.get?
  val := fun _ => (He.valD fn, true)
  says := fun _ h => ∃ K : PySem.W.Frag, K.In h ∧ He.SaysD fa fn K ∧ ex K = true
  of := fun _ s e => ⟨He.frG s.heap.get? (He.asD s.heap.get? n), He.frG_in, congrArg (fun z : AlE => z.1) e, congrArg (fun z : AlE => z.2) e⟩
  keeps := fun _ _ _ ⟨K, hK, c, d⟩ k => ⟨K, PySem.W.Frag.In.keeps hK k, c, d⟩
theorem obsE_eq {n : Nat} {fa : List He.Fa} {fn : List He.DefD} {ex : PySem.W.Frag → Bool} {g : Addr → Option Obj} {s : Shared} (h : ∀ a, g a = s.heap.get? a) : obsE n fa fn ex g = (hookE n fa fn ex).obs s := by
  have e : g = s.heap.get? := funext h
  rw [e] <;> rfl
def allB : List Bool → Bool
  | [] => true
  | b :: r => b && allB r
theorem ex_at : ∀ {l : List Bool} (i : Nat) {b : Bool}, allB l = true → l[i]? = some b → b = true
  | [], _, _, _, h => by simp at h
  | c :: r, 0, b, a, h => by
    have a : (c && allB r) = true := a
    rw [Bool.and_eq_true] at a
    simp at h
    rw [← h]
    exact a.1
  | c :: r, i + 1, b, a, h => by
    have a : (c && allB r) = true := a
    rw [Bool.and_eq_true] at a
    exact ex_at i a.2 (by simpa using h)
/-- a promise of no exception, where nothing is let out -/
theorem fn_quiet {P : Program} {w : World} {K : PySem.W.Frag} {mg : Str → Option Value} {base : Heap} {k : Nat} {g : Addr} {fd : FuncData} {ps : List Str} {sp : Sp} (F : FnOk P w K mg base (L2.CX P w) k g fd ps sp) : FnOk P w K mg base L2.CX0 k g fd ps (fun vs H Q _ => sp vs H Q fun _ _ _ => False) :=
  ⟨fun vs H Q E h => F.len vs H Q _ h, fun A outer s H args us vs Q E hr e0 bt rv h => codeAny_mono (F.run A outer s H args us vs Q _ hr e0 bt rv h) fun r s' z => by
    cases r with
    | ok f => cases f <;> exact z
    | error e => exact (cx_no H s e s' z).elim⟩
theorem law_end {W : Wd} {T : Tab} {fs : List FnD} {P : Program} {w : World} {mg : Str → Option Value} {h : Heap} {fa : Addr} {i m k n : Nat} {x name : Str} {f : FnD} (a : AllE W.K mg fs T.glob) (fr : ∀ x, x ∈ freeN → T.glob.lookup x = none → mg x = none)
    (hi : T.glob.lookup name = some (.fn i)) (hmg : mg name = some (.ref fa)) (hf : fs[i]? = some f) (hp : f.ps = [x]) (hd : f.d.dfl = []) (KX : W.K.In h) (plain : ∀ ns : List Int, ns.length ≤ n → ∃ h', (Phi T fs m k).call i [.rol (ns.map .int)] [] = .ok (.bl true) h') :
    ∃ (K : PySem.W.Frag) (fd : FuncData) (sp : Sp), K.In h ∧ (∀ (s : Shared) (u : Value), BindsTo s fd ⟨[u], []⟩ [(x, u)]) ∧ (∀ (H : Hp) (a : Addr) (ns : List Int), ns.length ≤ n → Only H → SqL K H a (ns.map V.int) → sp [.ref a] H (fun v _ => v = .bl true) fun _ _ _ => False) ∧
      ∀ base : Heap, K.In base → base.Ns mainGlobals mg → FnOk P w K mg base L2.CX0 k fa fd [x] sp := by
  obtain ⟨f', fd, g, e1, sc, hm, F, B⟩ := a.at _ (lookup_mem' hi)
  rw [hf] at e1
  cases e1
  have hm : mg name = some (.ref g) := hm
  rw [hmg] at hm
  cases hm
  refine ⟨W.K, fd, fun vs H Q _ => spF W 1 ((Phi T fs m k).call i) vs H Q fun _ _ _ => False, KX, fun s u => ?_, law_run (l := ⟨P, name, [], 0, none, none, false⟩) (x := x) a fr m plain, fun base _ _ => fn_quiet ?_⟩
  · have := B s [u] (.inr hd) (by rw [hp]; rfl)
    rw [hp] at this
    exact this
  · cases k with
    | zero =>
      have := fn_zero (W := W) (T := T) (fs := fs) (P := P) (w := w) (mg := mg) (base := base) (f := f) (fd := fd) (g := fa) (i := i) (m := m)
      rw [hp] at this
      exact this
    | succ k =>
      have := fn_step (m := m) (ge_phi (P := P) (w := w) (base := base) a fr m k) hf sc F
      rw [hp] at this
      exact this
/-! ### entries -/
section
variable {K : PySem.W.Frag} {mg : Str → Option Value} {fs : List FnD} {fa : List He.Fa} {fn : List He.DefD} {h : Heap}
theorem ent_fn {x : Str} {i j l : Nat} {f : FnD} (X : K.In h) (G : h.Ns mainGlobals mg) (c : He.SaysD fa fn K) (hi : fs[i]? = some f) (hf : fn[j]? = some f.d) (hg : fa[l]? = some (.glo x)) (ha : f.d.at_ = (x, none)) (hd : f.d.dfl = []) (hs : scOk f = true)
    (hb : ∀ (kV doc pm : Value) (an : Option Addr) (cdv ct : Value) (us : List Value), us.length = f.ps.length → bindArgs (PySem.W.fnOf f.d.name f.d.qual f.d.params f.d.body f.d.scope .none kV doc pm an cdv ct) ⟨us, []⟩ = pure (f.ps.zip us)) : Ent K mg fs (x, .fn i) := by
  obtain ⟨fd, F⟩ := c.def_ j hf
  have g := He.glo_ok X G (c.fact l hg)
  have e1 : f.d.dvs K = [] := by unfold He.DefD.dvs; rw [hd]; rfl
  rw [ha] at F
  have F2 := F
  rw [e1] at F2
  exact ⟨f, fd, _, hi, hs, g, F, fun s us _ hl => F2.bindsA hb s us hl⟩
theorem ent_int {x : Str} {v : Int} {l : Nat} (X : K.In h) (G : h.Ns mainGlobals mg) (c : He.SaysD fa fn K) (hg : fa[l]? = some (.int x v)) : Ent K mg fs (x, .con (.int v)) := by
  obtain ⟨t, e⟩ := He.int_ok X G (c.fact l hg)
  exact ⟨_, .int v, e, ⟨t, rfl⟩, fun _ _ => rfl⟩
theorem ent_str {x v : Str} {l : Nat} (X : K.In h) (G : h.Ns mainGlobals mg) (c : He.SaysD fa fn K) (hg : fa[l]? = some (.str x v)) : Ent K mg fs (x, .con (.str v)) := by
  obtain ⟨t, e⟩ := He.str_ok X G (c.fact l hg)
  exact ⟨_, .str v, e, ⟨t, rfl⟩, fun _ _ => rfl⟩
/-- plain constants -/
def dvP : He.Dv → Option PV
  | .non => some .non
  | .bl b => some (.bl b)
  | .int i => some (.int i)
  | .str s => some (.str s)
  | _ => none
theorem dvP_rep {μ : List Addr} {H : Hp} : ∀ {vs : List He.Dv} {ps : List PV}, mapO dvP vs = some ps → RepVs K μ H ps (vs.map (He.Dv.v K))
  | [], _, e => by cases e; rfl
  | d :: vs, ps, e => by
    unfold mapO at e
    cases e1 : dvP d with
    | none => rw [e1] at e; cases e
    | some p =>
      rw [e1] at e
      cases e2 : mapO dvP vs with
      | none => rw [e2] at e; cases e
      | some qs =>
        rw [e2] at e
        cases e
        refine ⟨_, _, rfl, ?_, dvP_rep e2⟩
        cases d <;> first | (cases e1; rfl) | cases e1
theorem ent_tup {x : Str} {vs : List He.Dv} {ps : List PV} {l : Nat} (X : K.In h) (G : h.Ns mainGlobals mg) (c : He.SaysD fa fn K) (hg : fa[l]? = some (.glo x)) (ht : He.tupB K x vs = true) (hv : mapO dvP vs = some ps) : Ent K mg fs (x, .con (.kt ps)) :=
  ⟨_, .ref (He.ga K x), He.glo_ok X G (c.fact l hg), rfl, fun _ H => ⟨_, _, rfl, He.tupB_ok ht H, dvP_rep hv⟩⟩
def frees (T : Tab) : List Str := freeN.filter fun x => (T.glob.lookup x).isNone
theorem free_all {T : Tab} {fa0 : List He.Fa} (X : K.In h) (G : h.Ns mainGlobals mg) (c : He.SaysD (fa0 ++ (frees T).map He.Fa.free) fn K) : ∀ x, x ∈ freeN → T.glob.lookup x = none → mg x = none := fun x hx hn => by
  have q : He.Fa.free x ∈ fa0 ++ (frees T).map He.Fa.free := List.mem_append_right _ (List.mem_map.mpr ⟨x, List.mem_filter.mpr ⟨hx, by rw [hn]; rfl⟩, rfl⟩)
  exact He.free_ok X G (He.SaysD.facts c q)
end
end Mi

/-! ## Sim: plain steps -/
namespace Mi
open PySem PySem.Spec PyProof.Rows L2
theorem phi_eta {T : Tab} {fs : List FnD} {m n : Nat} : Phi T fs m n = ⟨(Phi T fs m n).call, arOf fs⟩ := by cases n <;> rfl
/-- a def's meaning, from its body's -/
theorem phi_call {T : Tab} {fs : List FnD} {m n i : Nat} {f : FnD} {b : (Nat → List PV → MH → Res PV) → DenS} (e : fs[i]? = some f) (hb : (fun c => evB (evS T ⟨c, arOf fs⟩ m m f.gam) f.d.body) = b) :
    (Phi T fs m (n + 1)).call i = runB f.N.length (b (Phi T fs m n).call) := by
  show (match fs[i]? with
    | some f => runB f.N.length (evB (evS T (Phi T fs m n) m m f.gam) f.d.body)
    | none => fun _ _ => .bad) = _
  rw [e, ← hb]
  show runB _ (evB (evS T (Phi T fs m n) m m f.gam) f.d.body) = runB _ (evB (evS T ⟨(Phi T fs m n).call, arOf fs⟩ m m f.gam) f.d.body)
  rw [← phi_eta]
/-! ### ends of calls -/
theorem run_rt {n : Nat} {b : DenS} {ps : List PV} {h h' : MH} {v : PV} (e : b (startR n ps) h = .rt v h') : runB n b ps h = .ok (gc h v h').1 (gc h v h').2 := by
  unfold runB
  rw [e]
  rfl
theorem run_nx {n : Nat} {b : DenS} {ps : List PV} {h h' : MH} {ρ : Rho} (e : b (startR n ps) h = .nx ρ h') : runB n b ps h = .ok (gc h .non h').1 (gc h .non h').2 := by
  unfold runB
  rw [e]
  rfl
theorem gc_same {h : MH} {v : PV} {h' : MH} (e : h'.length = h.length) : gc h v h' = (v, h') := by unfold gc; rw [if_pos e]
theorem gc_drop {h g : MH} {v : PV} (e : PV.lt h.length v = true) : gc h v (h ++ g) = (v, h) := by
  unfold gc
  by_cases hg : (h ++ g).length = h.length
  · rw [if_pos hg]
    have : g = [] := by simpa using hg
    rw [this, List.append_nil]
  · rw [if_neg hg, if_pos (by simp), if_pos e]
theorem gc_new {h g : MH} {o : MO} {m : Nat} (e : (h ++ g)[m]? = some o) (hm : h.length ≤ m) (l : MO.lt h.length o = true) : gc h (.ref m) (h ++ g) = (.ref h.length, h ++ [o]) ∨ (g.length = 1 ∧ gc h (.ref m) (h ++ g) = (.ref h.length, h ++ [o])) := by
  left
  unfold gc
  have hlt : m < (h ++ g).length := (List.getElem?_eq_some_iff.mp e).1
  have hg : ¬ (h ++ g).length = h.length := by omega
  have nl : ¬ PV.lt h.length (.ref m) = true := fun z => by
    have : m < h.length := Nat.le_of_ble_eq_true z
    omega
  rw [if_neg hg, if_pos (by simp), if_neg nl]
  simp only [e, l, if_true]
/-- a call whose end returns what bears no number of the call's own -/
theorem run_val {n : Nat} {b : DenS} {ps : List PV} {h g : MH} {v : PV} (e : b (startR n ps) h = .rt v (h ++ g)) (l : PV.lt h.length v = true) : runB n b ps h = .ok v h := by
  rw [run_rt e, gc_drop l]
theorem run_val0 {n : Nat} {b : DenS} {ps : List PV} {h : MH} {v : PV} (e : b (startR n ps) h = .rt v h) : runB n b ps h = .ok v h := by
  rw [run_rt e, gc_same rfl]
theorem run_nx0 {n : Nat} {b : DenS} {ps : List PV} {h : MH} {ρ : Rho} (e : b (startR n ps) h = .nx ρ h) : runB n b ps h = .ok .non h := by
  rw [run_nx e, gc_same rfl]
theorem run_ref {n : Nat} {b : DenS} {ps : List PV} {h g : MH} {o : MO} {m : Nat} (e : b (startR n ps) h = .rt (.ref m) (h ++ g)) (eo : (h ++ g)[m]? = some o) (hm : h.length ≤ m) (l : MO.lt h.length o = true) : runB n b ps h = .ok (.ref h.length) (h ++ [o]) := by
  rw [run_rt e]
  rcases gc_new eo hm l with z | ⟨_, z⟩ <;> rw [z]
/-! ### loops -/
def tgB (g : TgD) (b : DenS) (v : PV) (ρ : Rho) (h : MH) : SRes := match g v ρ with
  | none => .bad
  | some ρ1 => b ρ1 h
theorem forF_succ {xs : List PV} {g : TgD} {b : DenS} {k i : Nat} {ρ : Rho} {h : MH} {v : PV} (e : xs[i]? = some v) : sForF (.vals xs) g b (k + 1) i ρ h = (match tgB g b v ρ h with
    | .nx ρ' h' => sForF (.vals xs) g b k (i + 1) ρ' h'
    | .ct ρ' h' => sForF (.vals xs) g b k (i + 1) ρ' h'
    | .bk ρ' h' => .nx ρ' h'
    | r => r) := by
  rw [sForF]
  simp only [at_vals, e]
  unfold tgB
  cases g v ρ <;> rfl
theorem forF_end {xs : List PV} {g : TgD} {b : DenS} {k : Nat} {ρ : Rho} {h : MH} : sForF (.vals xs) g b k xs.length ρ h = .nx ρ h := by
  unfold sForF
  simp only [at_vals, List.getElem?_eq_none (Nat.le_refl _)]
/-- every turn goes on -/
theorem for_all {xs : List PV} {g : TgD} {b : DenS} {St : Nat → Rho → MH → Prop} (step : ∀ i v ρ h, xs[i]? = some v → St i ρ h → ∃ ρ' h', (tgB g b v ρ h = .nx ρ' h' ∨ tgB g b v ρ h = .ct ρ' h') ∧ St (i + 1) ρ' h') :
    ∀ (k i : Nat) (ρ : Rho) (h : MH), i + k = xs.length → St i ρ h → ∃ ρ' h', sForF (.vals xs) g b k i ρ h = .nx ρ' h' ∧ St xs.length ρ' h'
  | 0, i, ρ, h, hk, s => by
    have : i = xs.length := by omega
    subst this
    exact ⟨ρ, h, forF_end, s⟩
  | k + 1, i, ρ, h, hk, s => by
    have hi : i < xs.length := by omega
    obtain ⟨ρ', h', e, s'⟩ := step i _ ρ h (List.getElem?_eq_getElem hi) s
    rw [forF_succ (List.getElem?_eq_getElem hi)]
    rcases e with e | e
    · rw [e]; exact for_all step k (i + 1) ρ' h' (by omega) s'
    · rw [e]; exact for_all step k (i + 1) ρ' h' (by omega) s'
theorem sFor_vals {d : DenI} {g : TgD} {b : DenS} {ρ : Rho} {h h1 : MH} {xs : List PV} (e : d ρ h = .ok (.vals xs) h1) : sFor d g b ρ h = sForF (.vals xs) g b xs.length 0 ρ h1 := by
  unfold sFor
  rw [e]
  rfl
theorem rngV_len {lo hi : Int} : (rngV lo hi).length = (hi - lo).toNat := by simp [rngV]
theorem rngV_get {lo hi : Int} {i : Nat} {v : PV} (e : (rngV lo hi)[i]? = some v) : v = .int (lo + (i : Nat)) ∧ i < (hi - lo).toNat := by
  rw [rngV_at] at e
  by_cases c : i < (hi - lo).toNat
  · rw [if_pos c] at e
    cases e
    exact ⟨rfl, c⟩
  · rw [if_neg c] at e; cases e
/-! ### numbers -/
theorem log2_lt {n k : Nat} (h : n < 2 ^ k) (hk : 0 < k) : n.log2 < k := by
  by_cases h0 : n = 0
  · subst h0
    simpa using hk
  · exact (Nat.log2_lt h0).mpr h
theorem mulOk_small {i j : Int} (h : i.natAbs < 2 ^ 64 ∨ j.natAbs < 2 ^ 64) : mulOk i j = true := by
  unfold mulOk
  have b : ∀ x : Int, x.natAbs < 2 ^ 64 → decide (Builtin.Int.intBits x > shortFactorBits) = false := fun x hx => by
    have := log2_lt hx (by decide)
    unfold Builtin.Int.intBits shortFactorBits
    split <;> simp <;> omega
  rcases h with h | h
  · rw [b i h]; rfl
  · rw [b j h]; simp
theorem mulOk_big {i j : Int} (hi : i.natAbs < 2 ^ 4000) (hj : j.natAbs < 2 ^ 4000) : mulOk i j = true := by
  have b : ∀ x : Int, x.natAbs < 2 ^ 4000 → Builtin.Int.intBits x ≤ 4000 := fun x hx => by
    have := log2_lt hx (by decide)
    unfold Builtin.Int.intBits
    split <;> omega
  have h1 := b i hi
  have h2 := b j hj
  have : Builtin.Int.intTooBig ((Builtin.Int.intBits i : Nat) + (Builtin.Int.intBits j : Nat)) = false := by
    unfold Builtin.Int.intTooBig
    exact decide_eq_false (by
      have : (8000 : Int) < bitsLine := by decide +kernel
      omega)
  unfold mulOk
  rw [this, Bool.and_false]
  rfl
theorem divOk_small {i j : Int} (h : j.natAbs < 2 ^ 4000) : Builtin.divisionGoesByPylong i j = false := by
  unfold Builtin.divisionGoesByPylong
  have : ¬ ((if (j == 0) = true then 0 else j.natAbs.log2 / 30 + 1) > 300) := by
    have := log2_lt h (by decide)
    split <;> omega
  simp only [decide_eq_false this, Bool.false_and]
end Mi

/-! ## Eq: == of plain data -/
namespace Mi
open PySem PySem.Spec PyProof.Rows L2
mutual
def dat : PV → PyData
  | .non => .none
  | .int i => .int i
  | .str s => .str s
  | .tup xs => .tuple (datL xs)
  | _ => .none
def datL : List PV → List PyData
  | [] => []
  | x :: xs => dat x :: datL xs
end
mutual
/-- tuples k deep of ints, texts, None -/
def good (k : Nat) : PV → Bool
  | .non => true
  | .int _ => true
  | .str s => PyData.strOk s
  | .tup xs => (match k with
    | 0 => false
    | k + 1 => goodL k xs)
  | _ => false
def goodL (k : Nat) : List PV → Bool
  | [] => true
  | x :: xs => good k x && goodL k xs
end
section
variable {h : MH}
mutual
theorem toD_good : ∀ {p : PV} {k j : Nat}, good k p = true → k ≤ j → toD h j p = some (dat p)
  | .non, _, j, _, _ => by cases j <;> rfl
  | .int i, _, j, _, _ => by cases j <;> rfl
  | .str s, _, j, _, _ => by cases j <;> rfl
  | .tup xs, 0, _, g, _ => by simp [good] at g
  | .tup xs, k + 1, 0, _, hj => by omega
  | .tup xs, k + 1, j + 1, g, hj => by
    have g : goodL k xs = true := by simpa [good] using g
    show (match mapO (toD h j) xs with
      | some ds => some (PyData.tuple ds)
      | none => none) = _
    rw [toDs_good g (by omega)]
    simp [dat]
  | .bl _, _, _, g, _ => by simp [good] at g
  | .kt _, _, _, g, _ => by simp [good] at g
  | .rol _, _, _, g, _ => by simp [good] at g
  | .ref _, _, _, g, _ => by simp [good] at g
theorem toDs_good : ∀ {ps : List PV} {k j : Nat}, goodL k ps = true → k ≤ j → mapO (toD h j) ps = some (datL ps)
  | [], _, _, _, _ => by simp [mapO, datL]
  | p :: ps, k, j, g, hj => by
    rw [goodL, Bool.and_eq_true] at g
    unfold mapO
    rw [toD_good g.1 hj, toDs_good g.2 hj]
    simp [datL]
end
mutual
theorem lay_good : ∀ {p : PV} {k : Nat}, good k p = true → (dat p).canLay0 = true ∧ (dat p).depth ≤ k
  | .non, _, _ => by simp [dat, PyData.canLay0, PyData.depth]
  | .int i, _, _ => by simp [dat, PyData.canLay0, PyData.depth]
  | .str s, _, g => by
    have g : PyData.strOk s = true := by simpa [good] using g
    simp [dat, PyData.canLay0, PyData.depth, g]
  | .tup xs, 0, g => by simp [good] at g
  | .tup xs, k + 1, g => by
    have g : goodL k xs = true := by simpa [good] using g
    obtain ⟨h1, h2⟩ := lays_good g
    simp only [dat, PyData.canLay0, PyData.depth]
    exact ⟨h1, by omega⟩
  | .bl _, _, g => by simp [good] at g
  | .kt _, _, g => by simp [good] at g
  | .rol _, _, g => by simp [good] at g
  | .ref _, _, g => by simp [good] at g
theorem lays_good : ∀ {ps : List PV} {k : Nat}, goodL k ps = true → PyData.canLayAll0 (datL ps) = true ∧ PyData.depthAll (datL ps) ≤ k
  | [], _, _ => by simp [datL, PyData.canLayAll0, PyData.depthAll]
  | p :: ps, k, g => by
    rw [goodL, Bool.and_eq_true] at g
    obtain ⟨h1, h2⟩ := lay_good g.1
    obtain ⟨h3, h4⟩ := lays_good g.2
    simp only [datL, PyData.canLayAll0, PyData.depthAll]
    exact ⟨by rw [h1, h3]; rfl, by omega⟩
end
mutual
theorem eqv_good : ∀ {p q : PV} {k j : Nat}, good k p = true → good j q = true → PyData.eqv (dat p) (dat q) = decide (p = q)
  | .non, q, _, _, _, g => by cases q <;> simp [dat, PyData.eqv, good] at g ⊢
  | .int i, q, _, _, _, g => by
    cases q <;> simp [dat, PyData.eqv, good] at g ⊢
    exact Bool.beq_eq_decide_eq _ _
  | .str s, q, _, _, _, g => by
    cases q <;> simp [dat, PyData.eqv, good] at g ⊢
    exact Bool.beq_eq_decide_eq _ _
  | .tup xs, q, 0, _, g, _ => by simp [good] at g
  | .tup xs, q, k + 1, j, g, g2 => by
    have g : goodL k xs = true := by simpa [good] using g
    cases q with
    | tup ys =>
      cases j with
      | zero => simp [good] at g2
      | succ j =>
        have g2 : goodL j ys = true := by simpa [good] using g2
        simp only [dat, PyData.eqv]
        rw [eqvs_good g g2]
        simp
    | bl b => simp [good] at g2
    | kt b => simp [good] at g2
    | rol b => simp [good] at g2
    | ref b => simp [good] at g2
    | _ => simp [dat, PyData.eqv]
  | .bl _, _, _, _, g, _ => by simp [good] at g
  | .kt _, _, _, _, g, _ => by simp [good] at g
  | .rol _, _, _, _, g, _ => by simp [good] at g
  | .ref _, _, _, _, g, _ => by simp [good] at g
theorem eqvs_good : ∀ {ps qs : List PV} {k j : Nat}, goodL k ps = true → goodL j qs = true → PyData.eqvAll (datL ps) (datL qs) = decide (ps = qs)
  | [], [], _, _, _, _ => by simp [datL, PyData.eqvAll]
  | [], q :: qs, _, _, _, _ => by simp [datL, PyData.eqvAll]
  | p :: ps, [], _, _, _, _ => by simp [datL, PyData.eqvAll]
  | p :: ps, q :: qs, k, j, g, g2 => by
    rw [goodL, Bool.and_eq_true] at g g2
    simp only [datL, PyData.eqvAll]
    rw [eqv_good g.1 g2.1, eqvs_good g.2 g2.2]
    by_cases h1 : p = q <;> by_cases h2 : ps = qs <;> simp [h1, h2]
end
theorem shaped_of {d : PyData} {k : Nat} (h1 : d.canLay0 = true) (h2 : d.depth ≤ k) (hk : k ≤ 64) : SeqAt.shaped d = true := by
  show (d.canLay0 && decide (d.depth ≤ 64)) = true
  rw [h1, decide_eq_true (by omega)]
  rfl
theorem eqD_good {p q : PV} (g : good 9 p = true) (g2 : good 9 q = true) : eqD p q h = some (decide (p = q)) := by
  unfold eqD
  rw [toD_good g (by decide), toD_good g2 (by decide)]
  obtain ⟨a1, a2⟩ := lay_good g
  obtain ⟨b1, b2⟩ := lay_good g2
  simp only [shaped_of a1 a2 (by decide), shaped_of b1 b2 (by decide), and_self, if_true, eqv_good g g2]
theorem toD_lst {n : Nat} {xs : List PV} (e : h[n]? = some (.lst xs)) (g : goodL 9 xs = true) : toD h 40 (.ref n) = some (.list (datL xs)) := by
  show (match h[n]? with
    | some (.lst xs) => (match mapO (toD h 39) xs with
      | some ds => some (PyData.list ds)
      | none => none)
    | _ => none) = _
  rw [e]
  simp only [toDs_good g (show 9 ≤ 39 by decide)]
theorem shaped_lst {xs : List PV} (g : goodL 9 xs = true) : SeqAt.shaped (.list (datL xs)) = true := by
  obtain ⟨a1, a2⟩ := lays_good g
  exact shaped_of (k := 10) (by simp only [PyData.canLay0]; exact a1) (by simp only [PyData.depth]; omega) (by decide)
theorem eqD_lst {n m : Nat} {xs ys : List PV} (e : h[n]? = some (.lst xs)) (e2 : h[m]? = some (.lst ys)) (g : goodL 9 xs = true) (g2 : goodL 9 ys = true) : eqD (.ref n) (.ref m) h = some (decide (xs = ys)) := by
  unfold eqD
  rw [toD_lst e g, toD_lst e2 g2]
  simp only [shaped_lst g, shaped_lst g2, and_self, if_true, PyData.eqv, eqvs_good g g2]
theorem cmp_eq {p q : PV} (g : good 9 p = true) (g2 : good 9 q = true) : cmpP .Eq p q h = some (.bl (decide (p = q)), h) := by
  show ofB (eqD p q h) h = _
  rw [eqD_good g g2]
  rfl
theorem cmp_ne {p q : PV} (g : good 9 p = true) (g2 : good 9 q = true) : cmpP .NotEq p q h = some (.bl (!decide (p = q)), h) := by
  show ofB ((eqD p q h).map (!·)) h = _
  rw [eqD_good g g2]
  rfl
theorem cmp_ne_lst {n m : Nat} {xs ys : List PV} (e : h[n]? = some (.lst xs)) (e2 : h[m]? = some (.lst ys)) (g : goodL 9 xs = true) (g2 : goodL 9 ys = true) : cmpP .NotEq (.ref n) (.ref m) h = some (.bl (!decide (xs = ys)), h) := by
  show ofB ((eqD (.ref n) (.ref m) h).map (!·)) h = _
  rw [eqD_lst e e2 g g2]
  rfl
theorem cmp_eq_int {i j : Int} : cmpP .Eq (.int i) (.int j) h = some (.bl (decide (i = j)), h) := by
  rw [cmp_eq rfl rfl]
  simp
theorem cmp_ne_int {i j : Int} : cmpP .NotEq (.int i) (.int j) h = some (.bl (!decide (i = j)), h) := by
  rw [cmp_ne rfl rfl]
  simp
end
end Mi

/-! ## Gcd: the loop of the greatest common divisor (slots 2, 3) -/
namespace Mi
open PySem PySem.Spec PyProof.Rows L2
abbrev gcdC : DenB := bVal (dBin (cmpP .NotEq) (dVar 3) (dVal (.int 0)))
abbrev gcdB : DenS := sPar 2 3 (lCons (dVar 3) (lCons (dBin (binV .Mod) (dVar 2) (dVar 3)) lNil))
theorem while_no {c : DenB} {b : DenS} {n : Nat} {ρ : Rho} {h h1 : MH} (e : c ρ h = .ok false h1) : sWhile c b (n + 1) ρ h = .nx ρ h1 := by
  unfold sWhile
  rw [e]
  rfl
theorem while_go {c : DenB} {b : DenS} {n : Nat} {ρ ρ' : Rho} {h h1 h' : MH} (e : c ρ h = .ok true h1) (eb : b ρ h1 = .nx ρ' h') : sWhile c b (n + 1) ρ h = sWhile c b n ρ' h' := by
  have z : sWhile c b (n + 1) ρ h = (c ρ h).thn ρ fun k h1 => match k with
    | true => (match b ρ h1 with
      | .nx ρ' h' => sWhile c b n ρ' h'
      | .ct ρ' h' => sWhile c b n ρ' h'
      | .bk ρ' h' => .nx ρ' h'
      | r => r)
    | false => .nx ρ h1 := rfl
  rw [z, e]
  show (match b ρ h1 with
    | .nx ρ' h' => sWhile c b n ρ' h'
    | .ct ρ' h' => sWhile c b n ρ' h'
    | .bk ρ' h' => .nx ρ' h'
    | r => r) = _
  rw [eb]
theorem fmod_nat (a b : Nat) : Int.fmod (a : Int) (b : Int) = ((a % b : Nat) : Int) := by
  rw [Int.fmod_eq_emod_of_nonneg _ (Int.natCast_nonneg b), Int.natCast_emod]
section
variable {x0 x1 : Option PV} {h : MH}
theorem gcd_c (a b : Int) : gcdC [x0, x1, some (.int a), some (.int b)] h = .ok (!decide (b = 0)) h := by
  simp [gcdC, bVal, dBin, dVar, dVal, Res.bind, Res.of, cmp_ne_int]
theorem gcd_b (a b : Nat) (hb : b ≠ 0) : gcdB [x0, x1, some (.int (a : Int)), some (.int (b : Int))] h = .nx [x0, x1, some (.int (b : Int)), some (.int ((a % b : Nat) : Int))] h := by
  have : ((b : Int) ≠ 0) := by omega
  simp [gcdB, sPar, lCons, lNil, dBin, dVar, Res.bind, Res.thn, Res.of, binV, hb, fmod_nat]
theorem gcd_loop : ∀ (m a b fuel : Nat), b < 2 ^ m → 2 * m + 1 ≤ fuel → sWhile gcdC gcdB fuel [x0, x1, some (.int (a : Int)), some (.int (b : Int))] h = .nx [x0, x1, some (.int (Nat.gcd a b : Nat)), some (.int 0)] h
  | 0, a, b, fuel, hb, hf => by
    have : b = 0 := by omega
    subst this
    obtain ⟨f, rfl⟩ : ∃ f, fuel = f + 1 := ⟨fuel - 1, by omega⟩
    rw [while_no (by rw [gcd_c]; rfl), Nat.gcd_zero_right]
    rfl
  | m + 1, a, b, fuel, hb, hf => by
    obtain ⟨f, rfl⟩ : ∃ f, fuel = f + 1 + 1 + 1 := ⟨fuel - 3, by omega⟩
    by_cases h0 : b = 0
    · subst h0
      rw [while_no (by rw [gcd_c]; rfl), Nat.gcd_zero_right]
      rfl
    · rw [while_go (by rw [gcd_c, decide_eq_false (by omega)]; rfl) (gcd_b a b h0)]
      by_cases h1 : a % b = 0
      · rw [h1, while_no (by rw [gcd_c]; rfl)]
        rw [Nat.gcd_comm, Nat.gcd_rec, h1, Nat.gcd_zero_left]
        rfl
      · rw [while_go (by rw [gcd_c, decide_eq_false (by omega)]; rfl) (gcd_b b (a % b) h1)]
        have hlt : a % b < b := Nat.mod_lt _ (by omega)
        have half : b % (a % b) < 2 ^ m := by
          have h2 : b % (a % b) < a % b := Nat.mod_lt _ (by omega)
          have h3 : b % (a % b) + a % b ≤ b := by
            have := Nat.div_add_mod b (a % b)
            have h4 : 1 ≤ b / (a % b) := Nat.div_pos (Nat.le_of_lt hlt) (by omega)
            have h5 : a % b * 1 ≤ a % b * (b / (a % b)) := Nat.mul_le_mul_left _ h4
            omega
          rw [Nat.pow_succ] at hb
          omega
        have key : Nat.gcd (a % b) (b % (a % b)) = Nat.gcd a b := by
          rw [Nat.gcd_comm (a % b) (b % (a % b)), ← Nat.gcd_rec, ← Nat.gcd_rec, Nat.gcd_comm]
        rw [gcd_loop m (a % b) (b % (a % b)) (f + 1) half (by omega), key]
end
end Mi

/-! ## Sm2: more plain steps -/
namespace Mi
open PySem PySem.Spec PyProof.Rows L2
/-- a loop, then the rest -/
theorem seq_for {d : DenI} {g : TgD} {b r : DenS} {ρ : Rho} {h h1 : MH} {xs : List PV} {R : SRes} (St : Nat → Rho → MH → Prop) (e : d ρ h = .ok (.vals xs) h1) (s0 : St 0 ρ h1)
    (step : ∀ i v ρ h, xs[i]? = some v → St i ρ h → ∃ ρ' h', tgB g b v ρ h = .nx ρ' h' ∧ St (i + 1) ρ' h') (fin : ∀ ρ' h', St xs.length ρ' h' → r ρ' h' = R) : sSeq (sFor d g b) r ρ h = R := by
  obtain ⟨ρ', h', e1, s1⟩ := for_all (fun i v ρ h a c => let ⟨ρ', h', q, s⟩ := step i v ρ h a c; ⟨ρ', h', .inl q, s⟩) xs.length 0 ρ h1 (by omega) s0
  unfold sSeq
  rw [sFor_vals e, e1]
  exact fin _ _ s1
theorem last_for {d : DenI} {g : TgD} {b : DenS} {ρ : Rho} {h h1 : MH} {xs : List PV} {R : SRes → Prop} (St : Nat → Rho → MH → Prop) (e : d ρ h = .ok (.vals xs) h1) (s0 : St 0 ρ h1)
    (step : ∀ i v ρ h, xs[i]? = some v → St i ρ h → ∃ ρ' h', tgB g b v ρ h = .nx ρ' h' ∧ St (i + 1) ρ' h') (fin : ∀ ρ' h', St xs.length ρ' h' → R (.nx ρ' h')) : R (sFor d g b ρ h) := by
  obtain ⟨ρ', h', e1, s1⟩ := for_all (fun i v ρ h a c => let ⟨ρ', h', q, s⟩ := step i v ρ h a c; ⟨ρ', h', .inl q, s⟩) xs.length 0 ρ h1 (by omega) s0
  rw [sFor_vals e, e1]
  exact fin _ _ s1
theorem seq_nx {a b : DenS} {ρ ρ' : Rho} {h h' : MH} {R : SRes} (e : a ρ h = .nx ρ' h') (k : b ρ' h' = R) : sSeq a b ρ h = R := by
  unfold sSeq
  rw [e]
  exact k
theorem seq_rt {a b : DenS} {ρ : Rho} {h h' : MH} {v : PV} (e : a ρ h = .rt v h') : sSeq a b ρ h = .rt v h' := by
  unfold sSeq
  rw [e]
theorem if_no {c : DenB} {a b : DenS} {ρ : Rho} {h h1 : MH} (e : c ρ h = .ok false h1) : sIf c a b ρ h = b ρ h1 := by
  unfold sIf
  rw [e]
  rfl
theorem if_yes {c : DenB} {a b : DenS} {ρ : Rho} {h h1 : MH} (e : c ρ h = .ok true h1) : sIf c a b ρ h = a ρ h1 := by
  unfold sIf
  rw [e]
  rfl
/-- a guard that does not strike -/
theorem seq_guard {c : DenB} {a r : DenS} {ρ : Rho} {h h1 : MH} {R : SRes} (e : c ρ h = .ok false h1) (k : r ρ h1 = R) : sSeq (sIf c a sSkip) r ρ h = R := seq_nx (if_no e) k
theorem okR_of {i : Int} (h : i.natAbs < 2 ^ 60) : okR i = true := okR_iff.mpr ⟨by omega, by omega⟩
theorem rng1 {l : DenL} {ρ : Rho} {h h1 : MH} {j : Int} (e : l ρ h = .ok [.int j] h1) (hj : j.natAbs < 2 ^ 60) : iRange1 l ρ h = .ok (.vals (rngV 0 j)) h1 := by
  unfold iRange1
  rw [e]
  simp [Res.bind, oneInt, okR_of hj]
theorem small64 {i : Int} (h : i.natAbs < 2 ^ 60) : i.natAbs < 2 ^ 64 := by omega
theorem small4000 {i : Int} (h : i.natAbs < 2 ^ 64) : i.natAbs < 2 ^ 4000 := Nat.lt_of_lt_of_le h (Nat.pow_le_pow_right (by decide) (by decide))
theorem max_abs (t : Int) : max t (-t) = (t.natAbs : Int) := by omega
/-- a product's size -/
theorem natAbs_mul_lt {i j : Int} {m n : Nat} (hi : i.natAbs < 2 ^ m) (hj : j.natAbs < 2 ^ n) : (i * j).natAbs < 2 ^ (m + n) := by
  rw [Int.natAbs_mul, Nat.pow_add]
  exact Nat.mul_lt_mul'' hi hj
/-- a fraction in lowest terms -/
def frP (t b : Int) : Int × Int := (t.fdiv (Nat.gcd t.natAbs b.natAbs : Nat), b.fdiv (Nat.gcd t.natAbs b.natAbs : Nat))
def prV (p : Int × Int) : PV := .tup [.int p.1, .int p.2]
theorem gcd_small {a b : Nat} (hb : 0 < b) (h : b < 2 ^ 4000) : Nat.gcd a b < 2 ^ 4000 := Nat.lt_of_le_of_lt (Nat.gcd_le_right a hb) h
end Mi

/-! ## Law: the defs that every law has -/
namespace Mi
open PySem PySem.Spec PyProof.Rows L2
def bOpened : DenS :=
 (sSeq (sAsg (dIf (bVal (dBin (cmpP .Lt) (dVar 1) (dOf (biOp .len) (lCons (dVar 0) lNil)))) (dBin subP (dVar 0) (dVar 1)) (dVal (.int 5))) (gSet 2))
 (sSeq (sAsg (dOf (biOp .max) (lCons (dOf (biOp .int) (lCons (dVar 2) lNil)) (lCons (dOf (biOp .int) (lCons (dBin (binV .Sub) (dUn negV (dVal (.int 1))) (dVar 2)) lNil)) lNil))) (gSet 3))
 (sRet (dOf lstV (lCons (dBin (binV .Mult) (dVar 3) (dOf (biOp .int) (lCons (dBin (cmpP .GtE) (dVar 3) (dBin (binV .Pow) (dVal (.int 10)) (dVal (.int 18)))) lNil))) (lCons (dBin (binV .Mod) (dOf (biOp .int) (lCons (dBin (binV .Mult) (dBin (binV .Add) (dBin (binV .Add) (dBin (binV .Mod) (dVar 3) (dVal (.int 2147483629))) (dBin (binV .Mult) (dVal (.int 7919)) (dVar 1))) (dVal (.int 17))) (dVal (.int 48271))) lNil)) (dVal (.int 2147483647))) lNil))))))
def bDraw : DenS :=
 (sSeq (sIf (bVal (dBin (cmpP .Gt) (dBin subP (dVar 0) (dVal (.int 0))) (dVal (.int 0))))
 (sSeq (sAsg (dBin (binV .Mod) (dOf (biOp .int) (lCons (dBin subP (dVar 0) (dVal (.int 0))) lNil)) (dVar 1)) (gSet 2))
 (sSeq (sAsgH (dBin (binV .FloorDiv) (dBin subP (dVar 0) (dVal (.int 0))) (dVar 1)) (hSub (dVar 0) (dVal (.int 0))))
 (sRet (dVar 2))))
 sSkip)
 (sSeq (sAsgH (dBin (binV .Mod) (dOf (biOp .int) (lCons (dBin (binV .Add) (dBin (binV .Mult) (dBin subP (dVar 0) (dVal (.int 1))) (dVal (.int 39373))) (dVal (.int 7))) lNil)) (dVal (.int 2147483647))) (hSub (dVar 0) (dVal (.int 1))))
 (sRet (dBin (binV .Mod) (dBin (binV .FloorDiv) (dBin (binV .Mod) (dOf (biOp .int) (lCons (dBin (binV .Mult) (dBin subP (dVar 0) (dVal (.int 1))) (dBin subP (dVar 0) (dVal (.int 1)))) lNil)) (dVal (.int 2147483629))) (dVal (.int 32))) (dVar 1)))))
def bPick (d : List PV → MH → Res PV) : DenS :=
 (sRet (dBin subP (dVar 1) (dCall d (lCons (dVar 0) (lCons (dOf (biOp .len) (lCons (dVar 1) lNil)) lNil)))))
/-- a pool -/
def Pool (h : MH) (p : Nat) : Prop := ∃ g s : Int, 0 ≤ g ∧ 0 ≤ s ∧ h[p]? = some (.lst [.int g, .int s])
theorem lt_pair {n : Nat} {a b : Int} : MO.lt n (.lst [.int a, .int b]) = true := rfl
theorem atI_nat {xs : List PV} {k : Nat} (h : k < xs.length) : atI xs (k : Int) = xs[k]? := by
  unfold atI ixN
  rw [if_pos (by omega), if_pos (by omega)]
  simp
theorem cell_ok (ns : List Int) (k : Nat) (h : MH) : ∃ x : Int, (dIf (bVal (dBin (cmpP .Lt) (dVar 1) (dOf (biOp .len) (lCons (dVar 0) lNil)))) (dBin subP (dVar 0) (dVar 1)) (dVal (.int 5))) [some (.rol (ns.map .int)), some (.int (k : Int)), none, none] h = .ok (.int x) h := by
  by_cases hk : k < ns.length
  · refine ⟨ns[k], ?_⟩
    have e : atI (ns.map PV.int) (k : Int) = some (.int ns[k]) := by rw [atI_nat (by simpa using hk)]; simp [hk]
    have e2 : cmpP .Lt (.int (k : Int)) (.int (((ns.map PV.int).length : Nat) : Int)) h = some (.bl true, h) := by simp [cmpP, cmpV, cmpI, ofB, hk]
    have e3 : biOp .len [.rol (ns.map .int)] h = some (.int (((ns.map PV.int).length : Nat) : Int), h) := rfl
    have e4 : subP (.rol (ns.map .int)) (.int (k : Int)) h = some (.int ns[k], h) := by
      show ixP (.rol (ns.map .int)) (.int (k : Int)) h = _
      simp only [ixP, itemsOf, e]
    simp only [dIf, bVal, dBin, dVar, dOf, lCons, lNil, Res.bind, Res.of, List.getElem?_cons_zero, List.getElem?_cons_succ, e2, e3, e4]
  · refine ⟨5, ?_⟩
    have e2 : cmpP .Lt (.int (k : Int)) (.int (((ns.map PV.int).length : Nat) : Int)) h = some (.bl false, h) := by simp [cmpP, cmpV, cmpI, ofB]; omega
    have e3 : biOp .len [.rol (ns.map .int)] h = some (.int (((ns.map PV.int).length : Nat) : Int), h) := rfl
    simp only [dIf, bVal, dBin, dVar, dVal, dOf, lCons, lNil, Res.bind, Res.of, List.getElem?_cons_zero, List.getElem?_cons_succ, e2, e3]
theorem opened_end (xs : List PV) (x : Int) (h : MH) (G k P B : Int) {b : Bool} (e1 : cmpP .GtE (.int G) (.int P) h = some (.bl b, h)) (e3 : binV .Pow (.int 10) (.int 18) h = some (.int P, h)) (e4 : intP (.bl b) h = some (.int B, h)) (m1 : mulOk G B = true) (m2 : ∀ y, mulOk 7919 y = true) (m3 : ∀ y, mulOk y 48271 = true) (z2 : 2 ≤ sizeLine) :
    (sRet (dOf lstV (lCons (dBin (binV .Mult) (dVar 3) (dOf (biOp .int) (lCons (dBin (cmpP .GtE) (dVar 3) (dBin (binV .Pow) (dVal (.int 10)) (dVal (.int 18)))) lNil))) (lCons (dBin (binV .Mod) (dOf (biOp .int) (lCons (dBin (binV .Mult) (dBin (binV .Add) (dBin (binV .Add) (dBin (binV .Mod) (dVar 3) (dVal (.int 2147483629))) (dBin (binV .Mult) (dVal (.int 7919)) (dVar 1))) (dVal (.int 17))) (dVal (.int 48271))) lNil)) (dVal (.int 2147483647))) lNil)))) [some (.rol xs), some (.int k), some (.int x), some (.int G)] h =
    .rt (.ref h.length) (h ++ [.lst [.int (G * B), .int (((G.fmod 2147483629 + 7919 * k + 17) * 48271).fmod 2147483647)]]) := by
  have f : ∀ (i j : Int), binV .Mult (.int i) (.int j) h = (if mulOk i j = true then some (.int (i * j), h) else none) := fun _ _ => rfl
  have f2 : ∀ (i j : Int), binV .Add (.int i) (.int j) h = some (.int (i + j), h) := fun _ _ => rfl
  have f3 : ∀ (i j : Int), j ≠ 0 → binV .Mod (.int i) (.int j) h = some (.int (i.fmod j), h) := fun i j hj => by
    show (if j ≠ 0 then some (PV.int (i.fmod j), h) else none) = _
    rw [if_pos hj]
  have g1 : ∀ i : Int, biOp .int [.int i] h = some (.int i, h) := fun _ => rfl
  have g2 : biOp .int [.bl b] h = some (.int B, h) := e4
  simp only [sRet, dOf, dBin, dVar, dVal, lCons, lNil, Res.bind, Res.thn, Res.of, List.getElem?_cons_zero, List.getElem?_cons_succ, e1, e3, g1, g2, f, f2, f3 _ 2147483629 (by decide), f3 _ 2147483647 (by decide), m1, m2, m3, if_true, lstV, alloc, List.length_cons, List.length_nil, z2]
theorem opened_ok (ns : List Int) (k : Nat) (h : MH) : ∃ g s : Int, 0 ≤ g ∧ 0 ≤ s ∧ runB 4 bOpened [.rol (ns.map .int), .int (k : Int)] h = .ok (.ref h.length) (h ++ [.lst [.int g, .int s]]) := by
  obtain ⟨x, ex⟩ := cell_ok ns k h
  have hG : ∃ G : Int, 0 ≤ G ∧ (if -1 - x > x then -1 - x else x) = G := ⟨_, by split <;> omega, rfl⟩
  obtain ⟨G, G0, eG⟩ := hG
  refine ⟨G * (if 10 ^ 18 ≤ G then 1 else 0), ((G.fmod 2147483629 + 7919 * (k : Int) + 17) * 48271).fmod 2147483647, by split <;> omega, Int.fmod_nonneg_of_pos _ (by decide), ?_⟩
  refine run_ref (g := [.lst [.int (G * (if 10 ^ 18 ≤ G then 1 else 0)), .int (((G.fmod 2147483629 + 7919 * (k : Int) + 17) * 48271).fmod 2147483647)]]) ?_ (by simp) (Nat.le_refl _) lt_pair
  show bOpened [some (.rol (ns.map .int)), some (.int (k : Int)), none, none] h = _
  have m1 : ∀ b : Bool, mulOk G (if b then 1 else 0) = true := fun b => mulOk_small (.inr (by cases b <;> decide))
  have m2 : ∀ y, mulOk 7919 y = true := fun y => mulOk_small (.inl (by decide))
  have m3 : ∀ y, mulOk y 48271 = true := fun y => mulOk_small (.inr (by decide))
  have z2 : (2 : Nat) ≤ sizeLine := by decide
  generalize ns.map PV.int = xs at ex ⊢
  refine seq_nx (ρ' := [some (.rol xs), some (.int (k : Int)), some (.int x), none]) (h' := h) ?_ ?_
  · unfold sAsg
    rw [ex]
    rfl
  refine seq_nx (ρ' := [some (.rol xs), some (.int (k : Int)), some (.int x), some (.int G)]) (h' := h) ?_ ?_
  · simp only [sSeq, sAsg, sRet, sIf, sDrop, sSkip, sPar, sPar3, gSet, gTupD, gSeq, dVar, dVal, dBin, dUn, dOf, dAnd, dOr, dIf, dChain, bVal, bTru, bNot, bAnd, bOr, lCons, lNil, dCall, Res.bind, Res.thn, Res.of, binV, binAdd, binMul, biOp, u1, u2, one, two, intP, maxP, minP, lenP, tupV, truV, negV, notV, ofB, isiP, tyB, cmp_eq_int, cmp_ne_int, subP, ixP, dicOf, itemsOf, atI, ixN, List.getElem?_cons_zero, List.getElem?_cons_succ]
    rw [← eG]
    simp
  have e1 : cmpP .GtE (.int G) (.int (10 ^ 18)) h = some (.bl (decide (10 ^ 18 ≤ G)), h) := rfl
  have e2 : (if decide (10 ^ 18 ≤ G) = true then (1 : Int) else 0) = (if 10 ^ 18 ≤ G then 1 else 0) := by by_cases q : (10 : Int) ^ 18 ≤ G <;> simp [q]
  have e3 : binV .Pow (.int 10) (.int 18) h = some (.int (10 ^ 18), h) := by simp [binV]
  have m1' := m1 (decide (10 ^ 18 ≤ G))
  rw [e2] at m1'
  have e4 : intP (.bl (decide (10 ^ 18 ≤ G))) h = some (.int (if 10 ^ 18 ≤ G then 1 else 0), h) := by
    show some (PV.int (if decide (10 ^ 18 ≤ G) = true then 1 else 0), h) = _
    rw [e2]
  exact opened_end xs x h G (k : Int) _ _ e1 e3 e4 m1' m2 m3 z2
/-! ### a draw -/
theorem lst_at {h : MH} {p : Nat} {xs : List PV} (e : h[p]? = some (.lst xs)) : dicOf (.ref p) h = none ∧ lstOf (.ref p) h = some (p, xs) ∧ itemsOf (.ref p) h = some xs := by
  refine ⟨?_, ?_, ?_⟩
  · show (match h[p]? with
      | some (.dic kvs) => some (p, kvs)
      | _ => none) = _
    rw [e]
  · show (match h[p]? with
      | some (.lst xs) => some (p, xs)
      | _ => none) = _
    rw [e]
  · show (match h[p]? with
      | some (.lst xs) => some xs
      | _ => none) = _
    rw [e]
theorem sub_lst {h : MH} {p : Nat} {xs : List PV} {k : Int} {v : PV} (e : h[p]? = some (.lst xs)) (ek : atI xs k = some v) : subP (.ref p) (.int k) h = some (v, h) := by
  obtain ⟨e1, e2, e3⟩ := lst_at e
  unfold subP
  rw [e1]
  show ixP (.ref p) (.int k) h = _
  unfold ixP
  simp only [e3, ek]
theorem set_lst {h : MH} {p : Nat} {xs : List PV} {k : Int} {j : Nat} {w : PV} (e : h[p]? = some (.lst xs)) (ek : ixN xs.length k = some j) : setP (.ref p) (.int k) w h = some (h.set p (.lst (xs.set j w))) := by
  obtain ⟨e1, e2, e3⟩ := lst_at e
  unfold setP
  simp only [e1, e2, ek]
theorem draw_ok (h : MH) (p : Nat) (g s M : Int) (e : h[p]? = some (.lst [.int g, .int s])) (g0 : 0 ≤ g) (s0 : 0 ≤ s) (hM : 0 < M) (hM2 : M.natAbs < 2 ^ 60) : ∃ d g' s' : Int, 0 ≤ d ∧ d < M ∧ 0 ≤ g' ∧ 0 ≤ s' ∧ runB 3 bDraw [.ref p, .int M] h = .ok (.int d) (h.set p (.lst [.int g', .int s'])) := by
  have hp : p < h.length := (List.getElem?_eq_some_iff.mp e).1
  have a0 : ∀ (h : MH) (a b : Int), h[p]? = some (.lst [.int a, .int b]) → subP (.ref p) (.int 0) h = some (.int a, h) ∧ subP (.ref p) (.int 1) h = some (.int b, h) := fun h a b e => ⟨sub_lst e rfl, sub_lst e rfl⟩
  have MN : M ≠ 0 := by omega
  by_cases hg : 0 < g
  · refine ⟨g.fmod M, g.fdiv M, s, Int.fmod_nonneg_of_pos _ hM, Int.fmod_lt_of_pos _ hM, Int.fdiv_nonneg g0 (by omega), s0, ?_⟩
    have e2 : setP (.ref p) (.int 0) (.int (g.fdiv M)) h = some (h.set p (.lst [.int (g.fdiv M), .int s])) := set_lst (k := 0) (j := 0) (w := .int (g.fdiv M)) e rfl
    have d1 : Builtin.divisionGoesByPylong g M = false := divOk_small (small4000 (by omega))
    have key : bDraw [some (.ref p), some (.int M), none] h = .rt (.int (g.fmod M)) (h.set p (.lst [.int (g.fdiv M), .int s])) := by
      refine seq_rt ((if_yes (h1 := h) ?_).trans ?_)
      · simp [bVal, dBin, dVar, dVal, Res.bind, Res.of, (a0 h g s e).1, cmpP, cmpV, cmpI, ofB, hg]
      · refine seq_nx (ρ' := [some (.ref p), some (.int M), some (.int (g.fmod M))]) (h' := h) ?_ ?_
        · simp [sAsg, gSet, dBin, dVar, dVal, dOf, lCons, lNil, Res.bind, Res.thn, Res.of, (a0 h g s e).1, biOp, u1, one, intP, binV, MN]
        · refine seq_nx (ρ' := [some (.ref p), some (.int M), some (.int (g.fmod M))]) (h' := h.set p (.lst [.int (g.fdiv M), .int s])) ?_ ?_
          · simp [sAsgH, hSub, dBin, dVar, dVal, Res.bind, Res.thn, Res.of, (a0 h g s e).1, binV, MN, d1, e2]
          · simp [sRet, dVar, Res.thn]
    rw [show runB 3 bDraw [.ref p, .int M] h = _ from run_rt (v := .int (g.fmod M)) (h' := h.set p (.lst [.int (g.fdiv M), .int s])) key, gc_same (by simp)]
  · have hs' : ∃ s' : Int, (s * 39373 + 7).fmod 2147483647 = s' ∧ 0 ≤ s' ∧ s' < 2147483647 := ⟨_, rfl, Int.fmod_nonneg_of_pos _ (by decide), Int.fmod_lt_of_pos _ (by decide)⟩
    obtain ⟨s', es, s1, s2⟩ := hs'
    refine ⟨(((s' * s').fmod 2147483629).fdiv 32).fmod M, g, s', Int.fmod_nonneg_of_pos _ hM, Int.fmod_lt_of_pos _ hM, g0, s1, ?_⟩
    have e2 : setP (.ref p) (.int 1) (.int s') h = some (h.set p (.lst [.int g, .int s'])) := set_lst (k := 1) (j := 1) (w := .int s') e rfl
    have m1 : mulOk s 39373 = true := mulOk_small (.inr (by decide))
    have m2 : mulOk s' s' = true := mulOk_small (.inr (by omega))
    have d1 : ∀ x, Builtin.divisionGoesByPylong x 32 = false := fun x => divOk_small (small4000 (by decide))
    have e3 : (h.set p (.lst [.int g, .int s']))[p]? = some (.lst [.int g, .int s']) := List.getElem?_set_self hp
    have key : bDraw [some (.ref p), some (.int M), none] h = .rt (.int ((((s' * s').fmod 2147483629).fdiv 32).fmod M)) (h.set p (.lst [.int g, .int s'])) := by
      refine seq_guard (h1 := h) ?_ ?_
      · have : decide (0 < g) = false := decide_eq_false hg
        simp [bVal, dBin, dVar, dVal, Res.bind, Res.of, (a0 h g s e).1, cmpP, cmpV, cmpI, ofB]
        omega
      · refine seq_nx (ρ' := [some (.ref p), some (.int M), none]) (h' := h.set p (.lst [.int g, .int s'])) ?_ ?_
        · simp [sAsgH, hSub, dBin, dVar, dVal, dOf, lCons, lNil, Res.bind, Res.thn, Res.of, (a0 h g s e).2, biOp, u1, one, intP, binV, binAdd, binMul, m1, es, e2]
        · generalize h.set p (.lst [.int g, .int s']) = h2 at e3 ⊢
          simp [sRet, dBin, dVar, dVal, dOf, lCons, lNil, Res.bind, Res.thn, Res.of, (a0 h2 g s' e3).2, biOp, u1, one, intP, binV, binMul, m2, d1, MN]
    rw [show runB 3 bDraw [.ref p, .int M] h = _ from run_rt (v := .int ((((s' * s').fmod 2147483629).fdiv 32).fmod M)) (h' := h.set p (.lst [.int g, .int s'])) key, gc_same (by simp)]
theorem pick_ok (d : List PV → MH → Res PV) (h h' : MH) (p q : Nat) (xs : List PV) (i : Nat) (v : PV) (e : h[q]? = some (.lst xs)) (ed : d [.ref p, .int ((xs.length : Nat) : Int)] h = .ok (.int (i : Int)) h') (e' : h'[q]? = some (.lst xs)) (ei : xs[i]? = some v) (hl : h'.length = h.length) : runB 2 (bPick d) [.ref p, .ref q] h = .ok v h' := by
  have hi : i < xs.length := (List.getElem?_eq_some_iff.mp ei).1
  have e1 : biOp .len [.ref q] h = some (.int ((xs.length : Nat) : Int), h) := by
    obtain ⟨_, _, e3⟩ := lst_at e
    show lenP (.ref q) h = _
    unfold lenP
    simp only [e3]
  have e2 : subP (.ref q) (.int (i : Int)) h' = some (v, h') := sub_lst e' (by rw [atI_nat hi, ei])
  have key : bPick d [some (.ref p), some (.ref q)] h = .rt v h' := by
    simp only [bPick, sRet, dBin, dCall, dVar, dOf, lCons, lNil, Res.bind, Res.thn, Res.of, List.getElem?_cons_zero, List.getElem?_cons_succ, e1, ed, e2]
  rw [show runB 2 (bPick d) [.ref p, .ref q] h = _ from run_rt (v := v) (h' := h') key, gc_same hl]
end Mi

/-! ## Sm3: walks of lists that stand, of comprehensions -/
namespace Mi
open PySem PySem.Spec PyProof.Rows L2
theorem at_live {h : MH} {n i : Nat} {xs : List PV} (e : h[n]? = some (.lst xs)) : (Src.live n).at h i = some xs[i]? := by
  show (match h[n]? with
    | some (.lst xs) => some xs[i]?
    | _ => none) = _
  rw [e]
theorem size_live {h : MH} {n : Nat} {xs : List PV} (e : h[n]? = some (.lst xs)) : (Src.live n).size h = xs.length := by
  show (match h[n]? with
    | some (.lst xs) => xs.length
    | _ => 0) = _
  rw [e]
theorem it_live {d : Den} {ρ : Rho} {h h1 : MH} {n : Nat} {xs : List PV} (e : d ρ h = .ok (.ref n) h1) (el : h1[n]? = some (.lst xs)) : iSeq d ρ h = .ok (.live n) h1 := by
  unfold iSeq
  rw [e]
  show (match h1[n]? with
    | some (.lst _) => Res.ok (Src.live n) h1
    | _ => .bad) = _
  rw [el]
/-- a walk of any source that stands -/
theorem for_src {s : Src} {xs : List PV} {g : TgD} {b : DenS} {St : Nat → Rho → MH → Prop} (at_ : ∀ i ρ h, St i ρ h → s.at h i = some xs[i]?) (step : ∀ i v ρ h, xs[i]? = some v → St i ρ h → ∃ ρ' h', tgB g b v ρ h = .nx ρ' h' ∧ St (i + 1) ρ' h') :
    ∀ (k i : Nat) (ρ : Rho) (h : MH), i + k = xs.length → St i ρ h → ∃ ρ' h', sForF s g b k i ρ h = .nx ρ' h' ∧ St xs.length ρ' h'
  | 0, i, ρ, h, hk, st => by
    have : i = xs.length := by omega
    subst this
    refine ⟨ρ, h, ?_, st⟩
    unfold sForF
    simp only [at_ _ _ _ st, List.getElem?_eq_none (Nat.le_refl _)]
  | k + 1, i, ρ, h, hk, st => by
    have hi : i < xs.length := by omega
    obtain ⟨ρ', h', e, s'⟩ := step i _ ρ h (List.getElem?_eq_getElem hi) st
    have z : sForF s g b (k + 1) i ρ h = (match tgB g b xs[i] ρ h with
        | .nx ρ' h' => sForF s g b k (i + 1) ρ' h'
        | .ct ρ' h' => sForF s g b k (i + 1) ρ' h'
        | .bk ρ' h' => .nx ρ' h'
        | r => r) := by
      rw [sForF]
      simp only [at_ _ _ _ st, List.getElem?_eq_getElem hi]
      unfold tgB
      cases g xs[i] ρ <;> rfl
    rw [z, e]
    exact for_src at_ step k (i + 1) ρ' h' (by omega) s'
theorem seq_forL {d : Den} {g : TgD} {b r : DenS} {ρ : Rho} {h h1 : MH} {n : Nat} {xs : List PV} {R : SRes} (St : Nat → Rho → MH → Prop) (e : d ρ h = .ok (.ref n) h1) (el : h1[n]? = some (.lst xs)) (s0 : St 0 ρ h1) (keep : ∀ i ρ h, St i ρ h → h[n]? = some (.lst xs))
    (step : ∀ i v ρ h, xs[i]? = some v → St i ρ h → ∃ ρ' h', tgB g b v ρ h = .nx ρ' h' ∧ St (i + 1) ρ' h') (fin : ∀ ρ' h', St xs.length ρ' h' → r ρ' h' = R) : sSeq (sFor (iSeq d) g b) r ρ h = R := by
  obtain ⟨ρ', h', e1, s1⟩ := for_src (s := .live n) (fun i ρ h st => at_live (keep i ρ h st)) step xs.length 0 ρ h1 (by omega) s0
  unfold sSeq sFor
  rw [it_live e el]
  show (match sForF (.live n) g b ((Src.live n).size h1) 0 ρ h1 with
    | .nx ρ' h' => r ρ' h'
    | q => q) = R
  rw [size_live el, e1]
  exact fin _ _ s1
/-- a comprehension's loop -/
theorem lp_all {α : Type} {s : Src} {xs : List PV} {g : TgD} {turn : Rho → α → MH → Res α} {ρ0 : Rho} {St : Nat → α → MH → Prop} (at_ : ∀ i a h, St i a h → s.at h i = some xs[i]?)
    (step : ∀ i v a h, xs[i]? = some v → St i a h → ∃ ρ1 a' h', g v ρ0 = some ρ1 ∧ turn ρ1 a h = .ok a' h' ∧ St (i + 1) a' h') : ∀ (k i : Nat) (a : α) (h : MH), i + k = xs.length → St i a h → ∃ a' h', lpF s g turn ρ0 k i a h = .ok a' h' ∧ St xs.length a' h'
  | 0, i, a, h, hk, st => by
    have : i = xs.length := by omega
    subst this
    refine ⟨a, h, ?_, st⟩
    unfold lpF
    simp only [at_ _ _ _ st, List.getElem?_eq_none (Nat.le_refl _)]
  | k + 1, i, a, h, hk, st => by
    have hi : i < xs.length := by omega
    obtain ⟨ρ1, a', h', e1, e2, s'⟩ := step i _ a h (List.getElem?_eq_getElem hi) st
    have z : lpF s g turn ρ0 (k + 1) i a h = lpF s g turn ρ0 k (i + 1) a' h' := by
      rw [lpF]
      simp only [at_ _ _ _ st, List.getElem?_eq_getElem hi, e1, e2]
    rw [z]
    exact lp_all at_ step k (i + 1) a' h' (by omega) s'
theorem lc_ok {di : DenI} {own : List Nat} {g : TgD} {turn : Rho → List PV → MH → Res (List PV)} {ρ : Rho} {h h1 h2 : MH} {s : Src} {acc : List PV} {k : Nat} (e : di ρ h = .ok s h1) (hk : s.size h1 = k) (el : lpF s g turn (wipeR ρ own) k 0 [] h1 = .ok acc h2) : dLc di own g turn ρ h = .ok (.ref h2.length) (h2 ++ [.lst acc]) := by
  unfold dLc
  rw [e]
  show (match lpF s g turn (wipeR ρ own) (s.size h1) 0 [] h1 with
    | .ok acc h2 => Res.ok (PV.ref h2.length) (h2 ++ [MO.lst acc])
    | _ => .bad) = _
  rw [hk, el]
theorem dc_ok {di : DenI} {own : List Nat} {g : TgD} {turn : Rho → List (PV × PV) → MH → Res (List (PV × PV))} {ρ : Rho} {h h1 h2 : MH} {s : Src} {acc : List (PV × PV)} {k : Nat} (e : di ρ h = .ok s h1) (hk : s.size h1 = k) (el : lpF s g turn (wipeR ρ own) k 0 [] h1 = .ok acc h2) : dDc di own g turn ρ h = .ok (.ref h2.length) (h2 ++ [.dic acc]) := by
  unfold dDc
  rw [e]
  show (match lpF s g turn (wipeR ρ own) (s.size h1) 0 [] h1 with
    | .ok acc h2 => Res.ok (PV.ref h2.length) (h2 ++ [MO.dic acc])
    | _ => .bad) = _
  rw [hk, el]
/-! ### dicts of a range -/
section
variable {K V : Nat → PV}
def entR (K V : Nat → PV) (n : Nat) : List (PV × PV) := (List.range n).map fun z => (K z, V z)
theorem entR_succ (n : Nat) : entR K V (n + 1) = entR K V n ++ [(K n, V n)] := by unfold entR; rw [List.range_succ, List.map_append]; rfl
theorem entR_put {n : Nat} (inj : ∀ i j, K i = K j → i = j) : dPut (entR K V n) (K n) (V n) = entR K V (n + 1) := by
  unfold dPut
  rw [if_neg, entR_succ]
  intro z
  rw [List.any_eq_true] at z
  obtain ⟨p, hp, e⟩ := z
  obtain ⟨i, hi, rfl⟩ := List.mem_map.mp hp
  have := inj _ _ (of_decide_eq_true e)
  have := List.mem_range.mp hi
  omega
theorem entR_get {i : Nat} (inj : ∀ i j, K i = K j → i = j) : ∀ {n : Nat}, i < n → dGet (entR K V n) (K i) = some (V i)
  | 0, h => by omega
  | n + 1, h => by
    unfold dGet
    rw [entR_succ, List.find?_append]
    by_cases hi : i < n
    · have ih := entR_get inj hi
      unfold dGet at ih
      obtain ⟨p, hp, e⟩ := Option.map_eq_some_iff.mp ih
      rw [hp]
      simp [e]
    · have : i = n := by omega
      subst this
      have none_ : (entR K V i).find? (fun p => decide (p.1 = K i)) = none := by
        rw [List.find?_eq_none]
        intro p hp e
        obtain ⟨j, hj, rfl⟩ := List.mem_map.mp hp
        have := inj _ _ (of_decide_eq_true e)
        have := List.mem_range.mp hj
        omega
      rw [none_]
      simp
theorem entR_same {n i : Nat} (tup : ∀ i, isTup (K i) = true) : sameK (entR K V n) (K i) = true := by
  unfold sameK
  rw [List.all_eq_true]
  intro p hp
  obtain ⟨j, _, rfl⟩ := List.mem_map.mp hp
  rw [tup, tup]
  rfl
theorem entR_len {n : Nat} : (entR K V n).length = n := by simp [entR]
theorem dic_at {h : MH} {t : Nat} {kvs : List (PV × PV)} {k v : PV} (e : h[t]? = some (.dic kvs)) (hk : (keyOf k).isSome = true) (hs : sameK kvs k = true) (hg : dGet kvs k = some v) : subP (.ref t) k h = some (v, h) := by
  have e1 : dicOf (.ref t) h = some (t, kvs) := by
    show (match h[t]? with
      | some (.dic kvs) => some (t, kvs)
      | _ => none) = _
    rw [e]
  have e2 : dicK (.ref t) k h = some (t, kvs) := by
    unfold dicK
    rw [e1]
    show (if (keyOf k).isSome = true ∧ sameK kvs k = true then some (t, kvs) else none) = _
    rw [if_pos ⟨hk, hs⟩]
  unfold subP getP
  simp only [e1, e2, hg]
end
end Mi

namespace Lw
open PySem PySem.Spec PyProof.Rows L2 Mi
def top (i : Nat) : Stmt := PySem.Challenge.pw_weighedtrees_k10_whole_estimates_add_up.main.body.getD i (.Pass ⟨0, 0, 0, 0⟩)
def f0 : FnD := ⟨⟨("is_count", none), "is_count", "is_count", defArgs (top 6), defBody (top 6), defScope (top 6), [], []⟩, ["value", "least", "most"], ["value", "least", "most"]⟩
def f1 : FnD := ⟨⟨("fraction", none), "fraction", "fraction", defArgs (top 7), defBody (top 7), defScope (top 7), [], []⟩, ["top", "bottom", "one", "other"], ["top", "bottom"]⟩
def f2 : FnD := ⟨⟨("power", none), "power", "power", defArgs (top 8), defBody (top 8), defScope (top 8), [], []⟩, ["base", "often", "found", "turn"], ["base", "often"]⟩
def f3 : FnD := ⟨⟨("choices", none), "choices", "choices", defArgs (top 9), defBody (top 9), defScope (top 9), [], []⟩, ["size", "some", "found", "turn"], ["size", "some"]⟩
def f4 : FnD := ⟨⟨("is_bit", none), "is_bit", "is_bit", defArgs (top 12), defBody (top 12), defScope (top 12), [], []⟩, ["value"], ["value"]⟩
def f5 : FnD := ⟨⟨("is_kind", none), "is_kind", "is_kind", defArgs (top 13), defBody (top 13), defScope (top 13), [], []⟩, ["value"], ["value"]⟩
def f6 : FnD := ⟨⟨("check_bit", none), "check_bit", "check_bit", defArgs (top 14), defBody (top 14), defScope (top 14), [], []⟩, ["bit"], ["bit"]⟩
def f7 : FnD := ⟨⟨("estimate_of", none), "estimate_of", "estimate_of", defArgs (top 17), defBody (top 17), defScope (top 17), [], []⟩, ["kind", "zeros", "ones", "size"], ["kind", "zeros", "ones"]⟩
def f8 : FnD := ⟨⟨("check_counts", none), "check_counts", "check_counts", defArgs (top 18), defBody (top 18), defScope (top 18), [], []⟩, ["kind", "zeros", "ones", "number"], ["kind", "zeros", "ones"]⟩
def f9 : FnD := ⟨⟨("estimate", none), "estimate", "estimate", defArgs (top 19), defBody (top 19), defScope (top 19), [], []⟩, ["kind", "zeros", "ones", "top", "bottom"], ["kind", "zeros", "ones"]⟩
def f10 : FnD := ⟨⟨("next_estimate", none), "next_estimate", "next_estimate", defArgs (top 20), defBody (top 20), defScope (top 20), [], []⟩, ["kind", "zeros", "ones", "bit", "count"], ["kind", "zeros", "ones", "bit"]⟩
def f11 : FnD := ⟨⟨("estimates", none), "estimates", "estimates", defArgs (top 21), defBody (top 21), defScope (top 21), [], []⟩, ["kind", "total", "zeros"], ["kind", "total"]⟩
def f12 : FnD := ⟨⟨("_law_opened", none), "_law_opened", "_law_opened", defArgs (top 23), defBody (top 23), defScope (top 23), [], []⟩, ["_law_script", "_law_k", "_law_cell", "_law_great"], ["_law_script", "_law_k"]⟩
def f13 : FnD := ⟨⟨("_law_draw", none), "_law_draw", "_law_draw", defArgs (top 24), defBody (top 24), defScope (top 24), [], []⟩, ["_law_pool", "_law_many", "_law_digit"], ["_law_pool", "_law_many"]⟩
def f14 : FnD := ⟨⟨("_law_pick", none), "_law_pick", "_law_pick", defArgs (top 25), defBody (top 25), defScope (top 25), [], []⟩, ["_law_pool", "_law_some"], ["_law_pool", "_law_some"]⟩
def f15 : FnD := ⟨⟨("_law_ratio", none), "_law_ratio", "_law_ratio", defArgs (top 26), defBody (top 26), defScope (top 26), [], []⟩, ["_law_top", "_law_bottom", "_law_one", "_law_other"], ["_law_top", "_law_bottom"]⟩
def f16 : FnD := ⟨⟨("_law_add", none), "_law_add", "_law_add", defArgs (top 27), defBody (top 27), defScope (top 27), [], []⟩, ["_law_one", "_law_other"], ["_law_one", "_law_other"]⟩
def f17 : FnD := ⟨⟨("_law_mul", none), "_law_mul", "_law_mul", defArgs (top 28), defBody (top 28), defScope (top 28), [], []⟩, ["_law_one", "_law_other"], ["_law_one", "_law_other"]⟩
def f18 : FnD := ⟨⟨("_law_less", none), "_law_less", "_law_less", defArgs (top 29), defBody (top 29), defScope (top 29), [], []⟩, ["_law_one", "_law_other"], ["_law_one", "_law_other"]⟩
def f19 : FnD := ⟨⟨("_law_sum", none), "_law_sum", "_law_sum", defArgs (top 30), defBody (top 30), defScope (top 30), [], []⟩, ["_law_some", "_law_out", "_law_one"], ["_law_some"]⟩
def f20 : FnD := ⟨⟨("law", none), "law", "law", defArgs (top 31), defBody (top 31), defScope (top 31), [], []⟩, ["_law_script", "_law_k", "_law_pool", "_law_kind", "_law_many", "_law_told", "_law_ways", "_law_weighed", "_law_zeros", "_law_ones", "_law_here", "_law_both", "_law_bit"], ["_law_script"]⟩
def fs : List FnD := [f0, f1, f2, f3, f4, f5, f6, f7, f8, f9, f10, f11, f12, f13, f14, f15, f16, f17, f18, f19, f20]
def fn : List He.DefD := [f0.d, f1.d, f2.d, f3.d, f4.d, f5.d, f6.d, f7.d, f8.d, f9.d, f10.d, f11.d, f12.d, f13.d, f14.d, f15.d, f16.d, f17.d, f18.d, f19.d, f20.d]
def tb : Tab := ⟨[("KINDS", .con (.kt [.str "one", .str "half"])), ("MOST_COUNT", .con (.int 1000)), ("is_count", .fn 0), ("fraction", .fn 1), ("power", .fn 2), ("choices", .fn 3), ("is_bit", .fn 4), ("is_kind", .fn 5), ("check_bit", .fn 6), ("estimate_of", .fn 7), ("check_counts", .fn 8), ("estimate", .fn 9), ("next_estimate", .fn 10), ("estimates", .fn 11), ("_law_opened", .fn 12), ("_law_draw", .fn 13), ("_law_pick", .fn 14), ("_law_ratio", .fn 15), ("_law_add", .fn 16), ("_law_mul", .fn 17), ("_law_less", .fn 18), ("_law_sum", .fn 19), ("law", .fn 20)]⟩
def fa0 : List He.Fa := [.glo "KINDS", .int "MOST_COUNT" 1000, .glo "is_count", .glo "fraction", .glo "power", .glo "choices", .glo "is_bit", .glo "is_kind", .glo "check_bit", .glo "estimate_of", .glo "check_counts", .glo "estimate", .glo "next_estimate", .glo "estimates", .glo "_law_opened", .glo "_law_draw", .glo "_law_pick", .glo "_law_ratio", .glo "_law_add", .glo "_law_mul", .glo "_law_less", .glo "_law_sum", .glo "law"]
def fa : List He.Fa := fa0 ++ (frees tb).map He.Fa.free
def ex (K : PySem.W.Frag) : Bool := allB [He.tupB K "KINDS" [.str "one", .str "half"]]
def loose : List PySem.Str := ([PySem.Str.ofString "WeighError", PySem.Str.ofString "BadBit", PySem.Str.ofString "BadArgument", PySem.Str.ofString "BadNumber", PySem.Str.ofString "is_count", PySem.Str.ofString "fraction", PySem.Str.ofString "power", PySem.Str.ofString "choices", PySem.Str.ofString "KINDS", PySem.Str.ofString "is_bit", PySem.Str.ofString "is_kind", PySem.Str.ofString "check_bit", PySem.Str.ofString "MOST_COUNT", PySem.Str.ofString "estimate_of", PySem.Str.ofString "check_counts", PySem.Str.ofString "estimate", PySem.Str.ofString "next_estimate", PySem.Str.ofString "estimates", PySem.Str.ofString "_law_opened", PySem.Str.ofString "_law_draw", PySem.Str.ofString "_law_pick", PySem.Str.ofString "_law_ratio", PySem.Str.ofString "_law_add", PySem.Str.ofString "_law_mul", PySem.Str.ofString "_law_less", PySem.Str.ofString "_law_sum"] : List PySem.Str)
abbrev R : PySem.W.OpenRow := PySem.W.OpenLaw.row PySem.Challenge.rw_weighedtrees_k10_whole_estimates_add_up
abbrev hk : PySem.W.Hook := hookE 5 fa fn ex
def ob (s : PySem.W.SharedT) : AlE := obsE 5 fa fn ex (HandSHeadRun.getT s)
theorem ob_eq (s : PySem.W.SharedT) : ob s = hk.obs s.abs := obsE_eq (HandSHeadRun.getT_eq s)
theorem run (w : World) : HandSHeadRun.RunEq R (PySem.W.view R.prog [31]) hk ob 3000 loose w := by
  intro os
  kernel_rfl
theorem facts {K : PySem.W.Frag} {h : Heap} {mg : Str → Option Value} (X : K.In h) (G : h.Ns mainGlobals mg) (c : He.SaysD fa fn K) (hx : ex K = true) : AllE K mg fs tb.glob :=
  ⟨ent_tup X G c (l := 0) (vs := [.str "one", .str "half"]) rfl (ex_at 0 hx rfl) rfl,
  ent_int X G c (l := 1) rfl,
  ent_fn (f := f0) (i := 0) (j := 0) (l := 2) X G c rfl rfl rfl rfl rfl (by decide +kernel) (fun _ _ _ _ _ _ us hl => match us, hl with | [_, _, _], _ => rfl),
  ent_fn (f := f1) (i := 1) (j := 1) (l := 3) X G c rfl rfl rfl rfl rfl (by decide +kernel) (fun _ _ _ _ _ _ us hl => match us, hl with | [_, _], _ => rfl),
  ent_fn (f := f2) (i := 2) (j := 2) (l := 4) X G c rfl rfl rfl rfl rfl (by decide +kernel) (fun _ _ _ _ _ _ us hl => match us, hl with | [_, _], _ => rfl),
  ent_fn (f := f3) (i := 3) (j := 3) (l := 5) X G c rfl rfl rfl rfl rfl (by decide +kernel) (fun _ _ _ _ _ _ us hl => match us, hl with | [_, _], _ => rfl),
  ent_fn (f := f4) (i := 4) (j := 4) (l := 6) X G c rfl rfl rfl rfl rfl (by decide +kernel) (fun _ _ _ _ _ _ us hl => match us, hl with | [_], _ => rfl),
  ent_fn (f := f5) (i := 5) (j := 5) (l := 7) X G c rfl rfl rfl rfl rfl (by decide +kernel) (fun _ _ _ _ _ _ us hl => match us, hl with | [_], _ => rfl),
  ent_fn (f := f6) (i := 6) (j := 6) (l := 8) X G c rfl rfl rfl rfl rfl (by decide +kernel) (fun _ _ _ _ _ _ us hl => match us, hl with | [_], _ => rfl),
  ent_fn (f := f7) (i := 7) (j := 7) (l := 9) X G c rfl rfl rfl rfl rfl (by decide +kernel) (fun _ _ _ _ _ _ us hl => match us, hl with | [_, _, _], _ => rfl),
  ent_fn (f := f8) (i := 8) (j := 8) (l := 10) X G c rfl rfl rfl rfl rfl (by decide +kernel) (fun _ _ _ _ _ _ us hl => match us, hl with | [_, _, _], _ => rfl),
  ent_fn (f := f9) (i := 9) (j := 9) (l := 11) X G c rfl rfl rfl rfl rfl (by decide +kernel) (fun _ _ _ _ _ _ us hl => match us, hl with | [_, _, _], _ => rfl),
  ent_fn (f := f10) (i := 10) (j := 10) (l := 12) X G c rfl rfl rfl rfl rfl (by decide +kernel) (fun _ _ _ _ _ _ us hl => match us, hl with | [_, _, _, _], _ => rfl),
  ent_fn (f := f11) (i := 11) (j := 11) (l := 13) X G c rfl rfl rfl rfl rfl (by decide +kernel) (fun _ _ _ _ _ _ us hl => match us, hl with | [_, _], _ => rfl),
  ent_fn (f := f12) (i := 12) (j := 12) (l := 14) X G c rfl rfl rfl rfl rfl (by decide +kernel) (fun _ _ _ _ _ _ us hl => match us, hl with | [_, _], _ => rfl),
  ent_fn (f := f13) (i := 13) (j := 13) (l := 15) X G c rfl rfl rfl rfl rfl (by decide +kernel) (fun _ _ _ _ _ _ us hl => match us, hl with | [_, _], _ => rfl),
  ent_fn (f := f14) (i := 14) (j := 14) (l := 16) X G c rfl rfl rfl rfl rfl (by decide +kernel) (fun _ _ _ _ _ _ us hl => match us, hl with | [_, _], _ => rfl),
  ent_fn (f := f15) (i := 15) (j := 15) (l := 17) X G c rfl rfl rfl rfl rfl (by decide +kernel) (fun _ _ _ _ _ _ us hl => match us, hl with | [_, _], _ => rfl),
  ent_fn (f := f16) (i := 16) (j := 16) (l := 18) X G c rfl rfl rfl rfl rfl (by decide +kernel) (fun _ _ _ _ _ _ us hl => match us, hl with | [_, _], _ => rfl),
  ent_fn (f := f17) (i := 17) (j := 17) (l := 19) X G c rfl rfl rfl rfl rfl (by decide +kernel) (fun _ _ _ _ _ _ us hl => match us, hl with | [_, _], _ => rfl),
  ent_fn (f := f18) (i := 18) (j := 18) (l := 20) X G c rfl rfl rfl rfl rfl (by decide +kernel) (fun _ _ _ _ _ _ us hl => match us, hl with | [_, _], _ => rfl),
  ent_fn (f := f19) (i := 19) (j := 19) (l := 21) X G c rfl rfl rfl rfl rfl (by decide +kernel) (fun _ _ _ _ _ _ us hl => match us, hl with | [_], _ => rfl),
  ent_fn (f := f20) (i := 20) (j := 20) (l := 22) X G c rfl rfl rfl rfl rfl (by decide +kernel) (fun _ _ _ _ _ _ us hl => match us, hl with | [_], _ => rfl), trivial⟩
def call (n : Nat) (i : Nat) : List PV → MH → Res PV := (Phi tb fs 30 n).call i
end Lw

namespace Lw
open PySem PySem.Spec PyProof.Rows L2 Mi
/-- is_count: 0 value, 1 least, 2 most -/
def b0 (c : Nat → List PV → MH → Res PV) : DenS :=
 (sRet (dAnd (dUn (isiP "int") (dVar 0)) (dAnd (dUn notV (dUn (isiP "bool") (dVar 0))) (dChain (cmpP .LtE) (cmpP .LtE) (dVar 1) (dVar 0) (dVar 2)))))
theorem b0_eq : (fun c => evB (evS tb ⟨c, arOf fs⟩ 30 30 f0.gam) f0.d.body) = b0 := by kernel_rfl
/-- fraction: 0 top, 1 bottom, 2 one, 3 other -/
def b1 (c : Nat → List PV → MH → Res PV) : DenS :=
 (sSeq (sPar 2 3 (lCons (dOf (biOp .max) (lCons (dOf (biOp .int) (lCons (dVar 0) lNil)) (lCons (dOf (biOp .int) (lCons (dUn negV (dVar 0)) lNil)) lNil))) (lCons (dVar 1) lNil)))
 (sSeq (sWhile (bVal (dBin (cmpP .NotEq) (dVar 3) (dVal (.int 0))))
 (sPar 2 3 (lCons (dVar 3) (lCons (dBin (binV .Mod) (dVar 2) (dVar 3)) lNil))) 1000000)
 (sRet (dOf tupV (lCons (dBin (binV .FloorDiv) (dVar 0) (dVar 2)) (lCons (dBin (binV .FloorDiv) (dVar 1) (dVar 2)) lNil))))))
theorem b1_eq : (fun c => evB (evS tb ⟨c, arOf fs⟩ 30 30 f1.gam) f1.d.body) = b1 := by kernel_rfl
/-- power: 0 base, 1 often, 2 found, 3 turn -/
def b2 (c : Nat → List PV → MH → Res PV) : DenS :=
 (sSeq (sAsg (dVal (.int 1)) (gSet 2))
 (sSeq (sFor (iRange1 (lCons (dVar 1) lNil)) (gSet 3)
 (sAsg (dBin (binV .Mult) (dVar 2) (dVar 0)) (gSet 2)))
 (sRet (dVar 2))))
theorem b2_eq : (fun c => evB (evS tb ⟨c, arOf fs⟩ 30 30 f2.gam) f2.d.body) = b2 := by kernel_rfl
/-- choices: 0 size, 1 some, 2 found, 3 turn -/
def b3 (c : Nat → List PV → MH → Res PV) : DenS :=
 (sSeq (sAsg (dVal (.int 1)) (gSet 2))
 (sSeq (sFor (iRange1 (lCons (dVar 1) lNil)) (gSet 3)
 (sAsg (dBin (binV .FloorDiv) (dBin (binV .Mult) (dVar 2) (dBin (binV .Sub) (dVar 0) (dVar 3))) (dBin (binV .Add) (dVar 3) (dVal (.int 1)))) (gSet 2)))
 (sRet (dVar 2))))
theorem b3_eq : (fun c => evB (evS tb ⟨c, arOf fs⟩ 30 30 f3.gam) f3.d.body) = b3 := by kernel_rfl
/-- is_bit: 0 value -/
def b4 (c : Nat → List PV → MH → Res PV) : DenS :=
 (sRet (dCall (c 0) (lCons (dVar 0) (lCons (dVal (.int 0)) (lCons (dVal (.int 1)) lNil)))))
theorem b4_eq : (fun c => evB (evS tb ⟨c, arOf fs⟩ 30 30 f4.gam) f4.d.body) = b4 := by kernel_rfl
/-- is_kind: 0 value -/
def b5 (c : Nat → List PV → MH → Res PV) : DenS :=
 (sRet (dAnd (dUn (isiP "str") (dVar 0)) (dBin (cmpP .In) (dVar 0) (dVal (.kt [.str "one", .str "half"])))))
theorem b5_eq : (fun c => evB (evS tb ⟨c, arOf fs⟩ 30 30 f5.gam) f5.d.body) = b5 := by kernel_rfl
/-- check_bit: 0 bit -/
def b6 (c : Nat → List PV → MH → Res PV) : DenS :=
 (sIf (bNot (bTru (dCall (c 4) (lCons (dVar 0) lNil))))
 sBad
 sSkip)
theorem b6_eq : (fun c => evB (evS tb ⟨c, arOf fs⟩ 30 30 f6.gam) f6.d.body) = b6 := by kernel_rfl
/-- estimate_of: 0 kind, 1 zeros, 2 ones, 3 size -/
def b7 (c : Nat → List PV → MH → Res PV) : DenS :=
 (sSeq (sAsg (dBin (binV .Add) (dVar 1) (dVar 2)) (gSet 3))
 (sSeq (sIf (bVal (dBin (cmpP .Eq) (dVar 0) (dVal (.str "one"))))
 (sRet (dOf tupV (lCons (dVal (.int 1)) (lCons (dBin (binV .Mult) (dBin (binV .Add) (dVar 3) (dVal (.int 1))) (dCall (c 3) (lCons (dVar 3) (lCons (dVar 1) lNil)))) lNil))))
 sSkip)
 (sRet (dOf tupV (lCons (dBin (binV .Mult) (dCall (c 3) (lCons (dBin (binV .Mult) (dVal (.int 2)) (dVar 1)) (lCons (dVar 1) lNil))) (dCall (c 3) (lCons (dBin (binV .Mult) (dVal (.int 2)) (dVar 2)) (lCons (dVar 2) lNil)))) (lCons (dBin (binV .Mult) (dCall (c 2) (lCons (dVal (.int 4)) (lCons (dVar 3) lNil))) (dCall (c 3) (lCons (dVar 3) (lCons (dVar 1) lNil)))) lNil))))))
theorem b7_eq : (fun c => evB (evS tb ⟨c, arOf fs⟩ 30 30 f7.gam) f7.d.body) = b7 := by kernel_rfl
/-- check_counts: 0 kind, 1 zeros, 2 ones, 3 number -/
def b8 (c : Nat → List PV → MH → Res PV) : DenS :=
 (sSeq (sIf (bNot (bTru (dCall (c 5) (lCons (dVar 0) lNil))))
 sBad
 sSkip)
 (sFor (iSeq (dOf tupV (lCons (dVar 1) (lCons (dVar 2) lNil)))) (gSet 3)
 (sIf (bNot (bTru (dCall (c 0) (lCons (dVar 3) (lCons (dVal (.int 0)) (lCons (dVal (.int 1000)) lNil))))))
 sBad
 sSkip)))
theorem b8_eq : (fun c => evB (evS tb ⟨c, arOf fs⟩ 30 30 f8.gam) f8.d.body) = b8 := by kernel_rfl
/-- estimate: 0 kind, 1 zeros, 2 ones, 3 top, 4 bottom -/
def b9 (c : Nat → List PV → MH → Res PV) : DenS :=
 (sSeq (sDrop (dCall (c 8) (lCons (dVar 0) (lCons (dVar 1) (lCons (dVar 2) lNil)))))
 (sSeq (sAsg (dCall (c 7) (lCons (dVar 0) (lCons (dVar 1) (lCons (dVar 2) lNil)))) (gTupD [gSet 3, gSet 4]))
 (sRet (dCall (c 1) (lCons (dVar 3) (lCons (dVar 4) lNil))))))
theorem b9_eq : (fun c => evB (evS tb ⟨c, arOf fs⟩ 30 30 f9.gam) f9.d.body) = b9 := by kernel_rfl
/-- next_estimate: 0 kind, 1 zeros, 2 ones, 3 bit, 4 count -/
def b10 (c : Nat → List PV → MH → Res PV) : DenS :=
 (sSeq (sDrop (dCall (c 8) (lCons (dVar 0) (lCons (dVar 1) (lCons (dVar 2) lNil)))))
 (sSeq (sDrop (dCall (c 6) (lCons (dVar 3) lNil)))
 (sSeq (sAsg (dIf (bVal (dBin (cmpP .Eq) (dVar 3) (dVal (.int 1)))) (dVar 2) (dVar 1)) (gSet 4))
 (sSeq (sIf (bVal (dBin (cmpP .Eq) (dVar 0) (dVal (.str "one"))))
 (sRet (dCall (c 1) (lCons (dBin (binV .Add) (dVar 4) (dVal (.int 1))) (lCons (dBin (binV .Add) (dBin (binV .Add) (dVar 1) (dVar 2)) (dVal (.int 2))) lNil))))
 sSkip)
 (sRet (dCall (c 1) (lCons (dBin (binV .Add) (dBin (binV .Mult) (dVal (.int 2)) (dVar 4)) (dVal (.int 1))) (lCons (dBin (binV .Add) (dBin (binV .Mult) (dVal (.int 2)) (dBin (binV .Add) (dVar 1) (dVar 2))) (dVal (.int 2))) lNil))))))))
theorem b10_eq : (fun c => evB (evS tb ⟨c, arOf fs⟩ 30 30 f10.gam) f10.d.body) = b10 := by kernel_rfl
/-- estimates: 0 kind, 1 total, 2 zeros -/
def b11 (c : Nat → List PV → MH → Res PV) : DenS :=
 (sSeq (sIf (bNot (bTru (dCall (c 5) (lCons (dVar 0) lNil))))
 sBad
 sSkip)
 (sSeq (sIf (bNot (bTru (dCall (c 0) (lCons (dVar 1) (lCons (dVal (.int 0)) (lCons (dVal (.int 1000)) lNil))))))
 sBad
 sSkip)
 (sRet (dDc (iRange1 (lCons (dBin (binV .Add) (dVar 1) (dVal (.int 1))) lNil)) [2] (gSet 2) (tnEnt bYes (dOf tupV (lCons (dVar 2) (lCons (dBin (binV .Sub) (dVar 1) (dVar 2)) lNil))) (dCall (c 9) (lCons (dVar 0) (lCons (dVar 2) (lCons (dBin (binV .Sub) (dVar 1) (dVar 2)) lNil)))))))))
theorem b11_eq : (fun c => evB (evS tb ⟨c, arOf fs⟩ 30 30 f11.gam) f11.d.body) = b11 := by kernel_rfl
/-- _law_opened: 0 _law_script, 1 _law_k, 2 _law_cell, 3 _law_great -/
def b12 (c : Nat → List PV → MH → Res PV) : DenS :=
 (sSeq (sAsg (dIf (bVal (dBin (cmpP .Lt) (dVar 1) (dOf (biOp .len) (lCons (dVar 0) lNil)))) (dBin subP (dVar 0) (dVar 1)) (dVal (.int 5))) (gSet 2))
 (sSeq (sAsg (dOf (biOp .max) (lCons (dOf (biOp .int) (lCons (dVar 2) lNil)) (lCons (dOf (biOp .int) (lCons (dBin (binV .Sub) (dUn negV (dVal (.int 1))) (dVar 2)) lNil)) lNil))) (gSet 3))
 (sRet (dOf lstV (lCons (dBin (binV .Mult) (dVar 3) (dOf (biOp .int) (lCons (dBin (cmpP .GtE) (dVar 3) (dBin (binV .Pow) (dVal (.int 10)) (dVal (.int 18)))) lNil))) (lCons (dBin (binV .Mod) (dOf (biOp .int) (lCons (dBin (binV .Mult) (dBin (binV .Add) (dBin (binV .Add) (dBin (binV .Mod) (dVar 3) (dVal (.int 2147483629))) (dBin (binV .Mult) (dVal (.int 7919)) (dVar 1))) (dVal (.int 17))) (dVal (.int 48271))) lNil)) (dVal (.int 2147483647))) lNil))))))
theorem b12_eq : (fun c => evB (evS tb ⟨c, arOf fs⟩ 30 30 f12.gam) f12.d.body) = b12 := by kernel_rfl
/-- _law_draw: 0 _law_pool, 1 _law_many, 2 _law_digit -/
def b13 (c : Nat → List PV → MH → Res PV) : DenS :=
 (sSeq (sIf (bVal (dBin (cmpP .Gt) (dBin subP (dVar 0) (dVal (.int 0))) (dVal (.int 0))))
 (sSeq (sAsg (dBin (binV .Mod) (dOf (biOp .int) (lCons (dBin subP (dVar 0) (dVal (.int 0))) lNil)) (dVar 1)) (gSet 2))
 (sSeq (sAsgH (dBin (binV .FloorDiv) (dBin subP (dVar 0) (dVal (.int 0))) (dVar 1)) (hSub (dVar 0) (dVal (.int 0))))
 (sRet (dVar 2))))
 sSkip)
 (sSeq (sAsgH (dBin (binV .Mod) (dOf (biOp .int) (lCons (dBin (binV .Add) (dBin (binV .Mult) (dBin subP (dVar 0) (dVal (.int 1))) (dVal (.int 39373))) (dVal (.int 7))) lNil)) (dVal (.int 2147483647))) (hSub (dVar 0) (dVal (.int 1))))
 (sRet (dBin (binV .Mod) (dBin (binV .FloorDiv) (dBin (binV .Mod) (dOf (biOp .int) (lCons (dBin (binV .Mult) (dBin subP (dVar 0) (dVal (.int 1))) (dBin subP (dVar 0) (dVal (.int 1)))) lNil)) (dVal (.int 2147483629))) (dVal (.int 32))) (dVar 1)))))
theorem b13_eq : (fun c => evB (evS tb ⟨c, arOf fs⟩ 30 30 f13.gam) f13.d.body) = b13 := by kernel_rfl
/-- _law_pick: 0 _law_pool, 1 _law_some -/
def b14 (c : Nat → List PV → MH → Res PV) : DenS :=
 (sRet (dBin subP (dVar 1) (dCall (c 13) (lCons (dVar 0) (lCons (dOf (biOp .len) (lCons (dVar 1) lNil)) lNil)))))
theorem b14_eq : (fun c => evB (evS tb ⟨c, arOf fs⟩ 30 30 f14.gam) f14.d.body) = b14 := by kernel_rfl
/-- _law_ratio: 0 _law_top, 1 _law_bottom, 2 _law_one, 3 _law_other -/
def b15 (c : Nat → List PV → MH → Res PV) : DenS :=
 (sSeq (sPar 2 3 (lCons (dOf (biOp .max) (lCons (dOf (biOp .int) (lCons (dVar 0) lNil)) (lCons (dOf (biOp .int) (lCons (dBin (binV .Sub) (dVal (.int 0)) (dVar 0)) lNil)) lNil))) (lCons (dOf (biOp .int) (lCons (dVar 1) lNil)) lNil)))
 (sSeq (sWhile (bVal (dBin (cmpP .NotEq) (dVar 3) (dVal (.int 0))))
 (sPar 2 3 (lCons (dVar 3) (lCons (dBin (binV .Mod) (dVar 2) (dVar 3)) lNil))) 1000000)
 (sRet (dOf tupV (lCons (dBin (binV .FloorDiv) (dVar 0) (dVar 2)) (lCons (dBin (binV .FloorDiv) (dVar 1) (dVar 2)) lNil))))))
theorem b15_eq : (fun c => evB (evS tb ⟨c, arOf fs⟩ 30 30 f15.gam) f15.d.body) = b15 := by kernel_rfl
/-- _law_add: 0 _law_one, 1 _law_other -/
def b16 (c : Nat → List PV → MH → Res PV) : DenS :=
 (sRet (dCall (c 15) (lCons (dBin (binV .Add) (dBin (binV .Mult) (dBin subP (dVar 0) (dVal (.int 0))) (dBin subP (dVar 1) (dVal (.int 1)))) (dBin (binV .Mult) (dBin subP (dVar 1) (dVal (.int 0))) (dBin subP (dVar 0) (dVal (.int 1))))) (lCons (dBin (binV .Mult) (dBin subP (dVar 0) (dVal (.int 1))) (dBin subP (dVar 1) (dVal (.int 1)))) lNil))))
theorem b16_eq : (fun c => evB (evS tb ⟨c, arOf fs⟩ 30 30 f16.gam) f16.d.body) = b16 := by kernel_rfl
/-- _law_mul: 0 _law_one, 1 _law_other -/
def b17 (c : Nat → List PV → MH → Res PV) : DenS :=
 (sRet (dCall (c 15) (lCons (dBin (binV .Mult) (dBin subP (dVar 0) (dVal (.int 0))) (dBin subP (dVar 1) (dVal (.int 0)))) (lCons (dBin (binV .Mult) (dBin subP (dVar 0) (dVal (.int 1))) (dBin subP (dVar 1) (dVal (.int 1)))) lNil))))
theorem b17_eq : (fun c => evB (evS tb ⟨c, arOf fs⟩ 30 30 f17.gam) f17.d.body) = b17 := by kernel_rfl
/-- _law_less: 0 _law_one, 1 _law_other -/
def b18 (c : Nat → List PV → MH → Res PV) : DenS :=
 (sRet (dBin (cmpP .Lt) (dBin (binV .Mult) (dBin subP (dVar 0) (dVal (.int 0))) (dBin subP (dVar 1) (dVal (.int 1)))) (dBin (binV .Mult) (dBin subP (dVar 1) (dVal (.int 0))) (dBin subP (dVar 0) (dVal (.int 1))))))
theorem b18_eq : (fun c => evB (evS tb ⟨c, arOf fs⟩ 30 30 f18.gam) f18.d.body) = b18 := by kernel_rfl
/-- _law_sum: 0 _law_some, 1 _law_out, 2 _law_one -/
def b19 (c : Nat → List PV → MH → Res PV) : DenS :=
 (sSeq (sAsg (dOf tupV (lCons (dVal (.int 0)) (lCons (dVal (.int 1)) lNil))) (gSet 1))
 (sSeq (sFor (iSeq (dVar 0)) (gSet 2)
 (sAsg (dCall (c 16) (lCons (dVar 1) (lCons (dVar 2) lNil))) (gSet 1)))
 (sRet (dVar 1))))
theorem b19_eq : (fun c => evB (evS tb ⟨c, arOf fs⟩ 30 30 f19.gam) f19.d.body) = b19 := by kernel_rfl
/-- law: 0 _law_script, 1 _law_k, 2 _law_pool, 3 _law_kind, 4 _law_many, 5 _law_told, 6 _law_ways, 7 _law_weighed, 8 _law_zeros, 9 _law_ones, 10 _law_here, 11 _law_both, 12 _law_bit -/
def b20 (c : Nat → List PV → MH → Res PV) : DenS :=
 (sSeq (sFor (iRange1 (lCons (dOf (biOp .max) (lCons (dVal (.int 1)) (lCons (dOf (biOp .min) (lCons (dOf (biOp .len) (lCons (dVar 0) lNil)) (lCons (dVal (.int 5)) lNil))) lNil))) lNil)) (gSet 1)
 (sSeq (sAsg (dCall (c 12) (lCons (dVar 0) (lCons (dVar 1) lNil))) (gSet 2))
 (sSeq (sAsg (dOf tupV (lCons (dCall (c 14) (lCons (dVar 2) (lCons (dOf lstV (lCons (dVal (.str "one")) (lCons (dVal (.str "half")) lNil))) lNil))) (lCons (dCall (c 13) (lCons (dVar 2) (lCons (dVal (.int 41)) lNil))) lNil))) (gTupD [gSet 3, gSet 4]))
 (sSeq (sPar3 5 6 7 (lCons (dCall (c 11) (lCons (dVar 3) (lCons (dVar 4) lNil))) (lCons (dVal (.int 1)) (lCons (dOf lstV lNil) lNil))))
 (sSeq (sFor (iRange1 (lCons (dBin (binV .Add) (dVar 4) (dVal (.int 1))) lNil)) (gSet 8)
 (sSeq (sAsg (dBin (binV .Sub) (dVar 4) (dVar 8)) (gSet 9))
 (sSeq (sAsg (dBin subP (dVar 5) (dOf tupV (lCons (dVar 8) (lCons (dVar 9) lNil)))) (gSet 10))
 (sSeq (sIf (bVal (dBin (cmpP .NotEq) (dCall (c 16) (lCons (dCall (c 9) (lCons (dVar 3) (lCons (dBin (binV .Add) (dVar 8) (dVal (.int 1))) (lCons (dVar 9) lNil)))) (lCons (dCall (c 9) (lCons (dVar 3) (lCons (dVar 8) (lCons (dBin (binV .Add) (dVar 9) (dVal (.int 1))) lNil)))) lNil))) (dVar 10)))
 (sRet (dVal (.bl false)))
 sSkip)
 (sSeq (sAsg (dLc (iSeq (dOf lstV (lCons (dVal (.int 0)) (lCons (dVal (.int 1)) lNil)))) [12] (gSet 12) (tnElt bYes (dCall (c 10) (lCons (dVar 3) (lCons (dVar 8) (lCons (dVar 9) (lCons (dVar 12) lNil))))))) (gSet 11))
 (sSeq (sIf (bVal (dBin (cmpP .NotEq) (dCall (c 16) (lCons (dBin subP (dVar 11) (dVal (.int 0))) (lCons (dBin subP (dVar 11) (dVal (.int 1))) lNil))) (dOf tupV (lCons (dVal (.int 1)) (lCons (dVal (.int 1)) lNil)))))
 (sRet (dVal (.bl false)))
 sSkip)
 (sSeq (sDrop (dMtd isL appM (dVar 7) (lCons (dCall (c 17) (lCons (dOf tupV (lCons (dVar 6) (lCons (dVal (.int 1)) lNil))) (lCons (dVar 10) lNil))) lNil)))
 (sSeq (sAsg (dBin (binV .FloorDiv) (dBin (binV .Mult) (dVar 6) (dVar 9)) (dBin (binV .Add) (dVar 8) (dVal (.int 1)))) (gSet 6))
 (sIf (bOr (bTru (dCall (c 18) (lCons (dBin subP (dVar 5) (dOf tupV (lCons (dVar 4) (lCons (dVal (.int 0)) lNil)))) (lCons (dVar 10) lNil)))) (bVal (dBin (cmpP .NotEq) (dBin subP (dVar 5) (dOf tupV (lCons (dVar 4) (lCons (dVal (.int 0)) lNil)))) (dBin subP (dVar 5) (dOf tupV (lCons (dVal (.int 0)) (lCons (dVar 4) lNil)))))))
 (sRet (dVal (.bl false)))
 sSkip)))))))))
 (sSeq (sIf (bVal (dBin (cmpP .NotEq) (dCall (c 19) (lCons (dVar 7) lNil)) (dOf tupV (lCons (dVal (.int 1)) (lCons (dVal (.int 1)) lNil)))))
 (sRet (dVal (.bl false)))
 sSkip)
 (sIf (bAnd (bVal (dBin (cmpP .Eq) (dVar 3) (dVal (.str "one")))) (bVal (dBin (cmpP .NotEq) (dVar 7) (dBin (binV .Mult) (dOf lstV (lCons (dCall (c 15) (lCons (dVal (.int 1)) (lCons (dBin (binV .Add) (dVar 4) (dVal (.int 1))) lNil))) lNil)) (dBin (binV .Add) (dVar 4) (dVal (.int 1)))))))
 (sRet (dVal (.bl false)))
 sSkip)))))))
 (sRet (dVal (.bl true))))
theorem b20_eq : (fun c => evB (evS tb ⟨c, arOf fs⟩ 30 30 f20.gam) f20.d.body) = b20 := by kernel_rfl
end Lw

namespace Lw
open PySem PySem.Spec PyProof.Rows L2 Mi
abbrev cc (n : Nat) := (Phi tb fs 30 n).call
/-! ### numbers -/
def chP (s : Int) : Nat → Int
  | 0 => 1
  | t + 1 => (chP s t * (s - (t : Int))).fdiv ((t : Int) + 1)
theorem choices_ok (n : Nat) (s k : Int) (h : MH) (hk : 0 ≤ k) (hk2 : k.natAbs < 2 ^ 60) (hs : s.natAbs < 2 ^ 60) : cc (n + 1) 3 [.int s, .int k] h = .ok (.int (chP s k.toNat)) h := by
  rw [show cc (n + 1) 3 = runB 4 (b3 (cc n)) from phi_call rfl b3_eq]
  refine run_val0 ?_
  show b3 (cc n) [some (.int s), some (.int k), none, none] h = _
  refine seq_nx (ρ' := [some (.int s), some (.int k), some (.int 1), none]) (h' := h) (by simp [sSeq, sAsg, sRet, sIf, sDrop, sSkip, sPar, sPar3, gSet, gTupD, gSeq, dVar, dVal, dBin, dUn, dOf, dAnd, dOr, dIf, dChain, bVal, bTru, bNot, bAnd, bOr, lCons, lNil, dCall, Res.bind, Res.thn, Res.of, binV, binAdd, binMul, biOp, u1, u2, one, two, intP, maxP, minP, lenP, tupV, truV, negV, notV, ofB, isiP, tyB, cmp_eq_int, cmp_ne_int, subP, ixP, dicOf, itemsOf, atI, ixN]) ?_
  refine seq_for (h1 := h) (fun i ρ h' => ∃ x, ρ = [some (.int s), some (.int k), some (.int (chP s i)), x] ∧ h' = h) (rng1 (j := k) (by simp [sSeq, sAsg, sRet, sIf, sDrop, sSkip, sPar, sPar3, gSet, gTupD, gSeq, dVar, dVal, dBin, dUn, dOf, dAnd, dOr, dIf, dChain, bVal, bTru, bNot, bAnd, bOr, lCons, lNil, dCall, Res.bind, Res.thn, Res.of, binV, binAdd, binMul, biOp, u1, u2, one, two, intP, maxP, minP, lenP, tupV, truV, negV, notV, ofB, isiP, tyB, cmp_eq_int, cmp_ne_int, subP, ixP, dicOf, itemsOf, atI, ixN]) hk2) ⟨none, rfl, rfl⟩ ?_ ?_
  · rintro i v ρ h' hv ⟨x, rfl, rfl⟩
    obtain ⟨rfl, hi⟩ := rngV_get hv
    have m1 : mulOk (chP s i) (s - (i : Int)) = true := mulOk_small (.inr (by omega))
    have d1 : Builtin.divisionGoesByPylong (chP s i * (s - (i : Int))) ((i : Int) + 1) = false := divOk_small (small4000 (by omega))
    have d2 : ((i : Int) + 1) ≠ 0 := by omega
    refine ⟨_, _, ?_, some (.int i), rfl, rfl⟩
    simp [tgB, sSeq, sAsg, sRet, sIf, sDrop, sSkip, sPar, sPar3, gSet, gTupD, gSeq, dVar, dVal, dBin, dUn, dOf, dAnd, dOr, dIf, dChain, bVal, bTru, bNot, bAnd, bOr, lCons, lNil, dCall, Res.bind, Res.thn, Res.of, binV, binAdd, binMul, biOp, u1, u2, one, two, intP, maxP, minP, lenP, tupV, truV, negV, notV, ofB, isiP, tyB, cmp_eq_int, cmp_ne_int, subP, ixP, dicOf, itemsOf, atI, ixN, m1, d1, d2, chP]
  · rintro ρ' h' ⟨x, rfl, rfl⟩
    simp [sSeq, sAsg, sRet, sIf, sDrop, sSkip, sPar, sPar3, gSet, gTupD, gSeq, dVar, dVal, dBin, dUn, dOf, dAnd, dOr, dIf, dChain, bVal, bTru, bNot, bAnd, bOr, lCons, lNil, dCall, Res.bind, Res.thn, Res.of, binV, binAdd, binMul, biOp, u1, u2, one, two, intP, maxP, minP, lenP, tupV, truV, negV, notV, ofB, isiP, tyB, cmp_eq_int, cmp_ne_int, subP, ixP, dicOf, itemsOf, atI, ixN, rngV_len]
theorem power_ok (n : Nat) (k : Int) (h : MH) (hk : 0 ≤ k) (hk2 : k.natAbs < 2 ^ 60) : cc (n + 1) 2 [.int 4, .int k] h = .ok (.int (4 ^ k.toNat)) h := by
  rw [show cc (n + 1) 2 = runB 4 (b2 (cc n)) from phi_call rfl b2_eq]
  refine run_val0 ?_
  show b2 (cc n) [some (.int 4), some (.int k), none, none] h = _
  refine seq_nx (ρ' := [some (.int 4), some (.int k), some (.int 1), none]) (h' := h) (by simp [sSeq, sAsg, sRet, sIf, sDrop, sSkip, sPar, sPar3, gSet, gTupD, gSeq, dVar, dVal, dBin, dUn, dOf, dAnd, dOr, dIf, dChain, bVal, bTru, bNot, bAnd, bOr, lCons, lNil, dCall, Res.bind, Res.thn, Res.of, binV, binAdd, binMul, biOp, u1, u2, one, two, intP, maxP, minP, lenP, tupV, truV, negV, notV, ofB, isiP, tyB, cmp_eq_int, cmp_ne_int, subP, ixP, dicOf, itemsOf, atI, ixN]) ?_
  refine seq_for (h1 := h) (fun i ρ h' => ∃ x, ρ = [some (.int 4), some (.int k), some (.int (4 ^ i)), x] ∧ h' = h) (rng1 (j := k) (by simp [sSeq, sAsg, sRet, sIf, sDrop, sSkip, sPar, sPar3, gSet, gTupD, gSeq, dVar, dVal, dBin, dUn, dOf, dAnd, dOr, dIf, dChain, bVal, bTru, bNot, bAnd, bOr, lCons, lNil, dCall, Res.bind, Res.thn, Res.of, binV, binAdd, binMul, biOp, u1, u2, one, two, intP, maxP, minP, lenP, tupV, truV, negV, notV, ofB, isiP, tyB, cmp_eq_int, cmp_ne_int, subP, ixP, dicOf, itemsOf, atI, ixN]) hk2) ⟨none, rfl, rfl⟩ ?_ ?_
  · rintro i v ρ h' hv ⟨x, rfl, rfl⟩
    obtain ⟨rfl, hi⟩ := rngV_get hv
    have m1 : mulOk (4 ^ i) 4 = true := mulOk_small (.inr (by decide))
    refine ⟨_, _, ?_, some (.int i), rfl, rfl⟩
    simp [tgB, sSeq, sAsg, sRet, sIf, sDrop, sSkip, sPar, sPar3, gSet, gTupD, gSeq, dVar, dVal, dBin, dUn, dOf, dAnd, dOr, dIf, dChain, bVal, bTru, bNot, bAnd, bOr, lCons, lNil, dCall, Res.bind, Res.thn, Res.of, binV, binAdd, binMul, biOp, u1, u2, one, two, intP, maxP, minP, lenP, tupV, truV, negV, notV, ofB, isiP, tyB, cmp_eq_int, cmp_ne_int, subP, ixP, dicOf, itemsOf, atI, ixN, m1, Int.pow_succ]
  · rintro ρ' h' ⟨x, rfl, rfl⟩
    simp [sSeq, sAsg, sRet, sIf, sDrop, sSkip, sPar, sPar3, gSet, gTupD, gSeq, dVar, dVal, dBin, dUn, dOf, dAnd, dOr, dIf, dChain, bVal, bTru, bNot, bAnd, bOr, lCons, lNil, dCall, Res.bind, Res.thn, Res.of, binV, binAdd, binMul, biOp, u1, u2, one, two, intP, maxP, minP, lenP, tupV, truV, negV, notV, ofB, isiP, tyB, cmp_eq_int, cmp_ne_int, subP, ixP, dicOf, itemsOf, atI, ixN, rngV_len]
/-- the greatest common divisor's def -/
theorem fraction_ok (n : Nat) (t b : Int) (h : MH) (hb : 0 < b) (hb2 : b.natAbs < 2 ^ 4000) : cc (n + 1) 1 [.int t, .int b] h = .ok (prV (frP t b)) h := by
  rw [show cc (n + 1) 1 = runB 4 (b1 (cc n)) from phi_call rfl b1_eq]
  refine run_val0 ?_
  show b1 (cc n) [some (.int t), some (.int b), none, none] h = _
  refine seq_nx (ρ' := [some (.int t), some (.int b), some (.int (t.natAbs : Int)), some (.int (b.natAbs : Int))]) (h' := h) ?_ ?_
  · have e1 : (if -t > t then -t else t) = (t.natAbs : Int) := by split <;> omega
    have e2 : (b.natAbs : Int) = b := by omega
    simp [sSeq, sAsg, sRet, sIf, sDrop, sSkip, sPar, sPar3, gSet, gTupD, gSeq, dVar, dVal, dBin, dUn, dOf, dAnd, dOr, dIf, dChain, bVal, bTru, bNot, bAnd, bOr, lCons, lNil, dCall, Res.bind, Res.thn, Res.of, binV, binAdd, binMul, biOp, u1, u2, one, two, intP, maxP, minP, lenP, tupV, truV, negV, notV, ofB, isiP, tyB, cmp_eq_int, cmp_ne_int, subP, ixP, dicOf, itemsOf, atI, ixN, e1, e2]
  refine seq_nx (gcd_loop 4000 t.natAbs b.natAbs 1000000 hb2 (by decide)) ?_
  have g0 : 0 < Nat.gcd t.natAbs b.natAbs := Nat.gcd_pos_of_pos_right _ (by omega)
  have g1 : ((Nat.gcd t.natAbs b.natAbs : Nat) : Int) ≠ 0 := by omega
  have g2 : ∀ x, Builtin.divisionGoesByPylong x ((Nat.gcd t.natAbs b.natAbs : Nat) : Int) = false := fun x => divOk_small (gcd_small (by omega) hb2)
  have z : (2 : Nat) ≤ sizeLine := by decide
  have b0 : b ≠ 0 := by omega
  simp [sSeq, sAsg, sRet, sIf, sDrop, sSkip, sPar, sPar3, gSet, gTupD, gSeq, dVar, dVal, dBin, dUn, dOf, dAnd, dOr, dIf, dChain, bVal, bTru, bNot, bAnd, bOr, lCons, lNil, dCall, Res.bind, Res.thn, Res.of, binV, binAdd, binMul, biOp, u1, u2, one, two, intP, maxP, minP, lenP, tupV, truV, negV, notV, ofB, isiP, tyB, cmp_eq_int, cmp_ne_int, subP, ixP, dicOf, itemsOf, atI, ixN, g2, frP, prV, z, b0]
theorem ratio_ok (n : Nat) (t b : Int) (h : MH) (hb : 0 < b) (hb2 : b.natAbs < 2 ^ 4000) : cc (n + 1) 15 [.int t, .int b] h = .ok (prV (frP t b)) h := by
  rw [show cc (n + 1) 15 = runB 4 (b15 (cc n)) from phi_call rfl b15_eq]
  refine run_val0 ?_
  show b15 (cc n) [some (.int t), some (.int b), none, none] h = _
  refine seq_nx (ρ' := [some (.int t), some (.int b), some (.int (t.natAbs : Int)), some (.int (b.natAbs : Int))]) (h' := h) ?_ ?_
  · have e1 : (if t < -t then -t else t) = (t.natAbs : Int) := by split <;> omega
    have e2 : (b.natAbs : Int) = b := by omega
    simp [sSeq, sAsg, sRet, sIf, sDrop, sSkip, sPar, sPar3, gSet, gTupD, gSeq, dVar, dVal, dBin, dUn, dOf, dAnd, dOr, dIf, dChain, bVal, bTru, bNot, bAnd, bOr, lCons, lNil, dCall, Res.bind, Res.thn, Res.of, binV, binAdd, binMul, biOp, u1, u2, one, two, intP, maxP, minP, lenP, tupV, truV, negV, notV, ofB, isiP, tyB, cmp_eq_int, cmp_ne_int, subP, ixP, dicOf, itemsOf, atI, ixN, e1, e2]
  refine seq_nx (gcd_loop 4000 t.natAbs b.natAbs 1000000 hb2 (by decide)) ?_
  have g0 : 0 < Nat.gcd t.natAbs b.natAbs := Nat.gcd_pos_of_pos_right _ (by omega)
  have g1 : ((Nat.gcd t.natAbs b.natAbs : Nat) : Int) ≠ 0 := by omega
  have g2 : ∀ x, Builtin.divisionGoesByPylong x ((Nat.gcd t.natAbs b.natAbs : Nat) : Int) = false := fun x => divOk_small (gcd_small (by omega) hb2)
  have z : (2 : Nat) ≤ sizeLine := by decide
  have b0 : b ≠ 0 := by omega
  simp [sSeq, sAsg, sRet, sIf, sDrop, sSkip, sPar, sPar3, gSet, gTupD, gSeq, dVar, dVal, dBin, dUn, dOf, dAnd, dOr, dIf, dChain, bVal, bTru, bNot, bAnd, bOr, lCons, lNil, dCall, Res.bind, Res.thn, Res.of, binV, binAdd, binMul, biOp, u1, u2, one, two, intP, maxP, minP, lenP, tupV, truV, negV, notV, ofB, isiP, tyB, cmp_eq_int, cmp_ne_int, subP, ixP, dicOf, itemsOf, atI, ixN, g2, frP, prV, z, b0]
/-! ### checks -/
theorem kit_ii : kitB "int" "int" = some true := by decide +kernel
theorem kit_ib : kitB "int" "bool" = some false := by decide +kernel
theorem kit_ss : kitB "str" "str" = some true := by decide +kernel
theorem count_ok (n : Nat) (v a b : Int) (h : MH) (h1 : a ≤ v) (h2 : v ≤ b) : cc (n + 1) 0 [.int v, .int a, .int b] h = .ok (.bl true) h := by
  rw [show cc (n + 1) 0 = runB 3 (b0 (cc n)) from phi_call rfl b0_eq]
  refine run_val0 ?_
  show b0 (cc n) [some (.int v), some (.int a), some (.int b)] h = _
  simp [b0, sSeq, sAsg, sRet, sIf, sDrop, sSkip, sPar, sPar3, gSet, gTupD, gSeq, dVar, dVal, dBin, dUn, dOf, dAnd, dOr, dIf, dChain, bVal, bTru, bNot, bAnd, bOr, lCons, lNil, dCall, Res.bind, Res.thn, Res.of, binV, binAdd, binMul, biOp, u1, u2, one, two, intP, maxP, minP, lenP, tupV, truV, negV, notV, ofB, isiP, tyB, cmp_eq_int, cmp_ne_int, subP, ixP, dicOf, itemsOf, atI, ixN, kit_ii, kit_ib, cmpP, cmpV, cmpI, h1, h2]
/-! ### the estimates -/
def ks (kd : Bool) : Str := if kd then "one" else "half"
theorem kind_in (kd : Bool) (h : MH) : cmpP .In (.str (ks kd)) (.kt [.str "one", .str "half"]) h = some (.bl true, h) := by
  cases kd <;> kernel_rfl
theorem kind_ok (n : Nat) (kd : Bool) (h : MH) : cc (n + 1) 5 [.str (ks kd)] h = .ok (.bl true) h := by
  rw [show cc (n + 1) 5 = runB 1 (b5 (cc n)) from phi_call rfl b5_eq]
  refine run_val0 ?_
  show b5 (cc n) [some (.str (ks kd))] h = _
  simp [b5, sSeq, sAsg, sRet, sIf, sDrop, sSkip, sPar, sPar3, gSet, gTupD, gSeq, dVar, dVal, dBin, dUn, dOf, dAnd, dOr, dIf, dChain, bVal, bTru, bNot, bAnd, bOr, lCons, lNil, dCall, Res.bind, Res.thn, Res.of, binV, binAdd, binMul, biOp, u1, u2, one, two, intP, maxP, minP, lenP, tupV, truV, negV, notV, ofB, isiP, tyB, cmp_eq_int, cmp_ne_int, subP, ixP, dicOf, itemsOf, atI, ixN, kit_ss, kind_in]
theorem bit_ok (n : Nat) (b : Int) (h : MH) (h1 : 0 ≤ b) (h2 : b ≤ 1) : cc (n + 3) 6 [.int b] h = .ok .non h := by
  rw [show cc (n + 3) 6 = runB 1 (b6 (cc (n + 2))) from phi_call rfl b6_eq]
  refine run_nx0 (ρ := [some (.int b)]) ?_
  have e : cc (n + 2) 4 [.int b] h = .ok (.bl true) h := by
    rw [show cc (n + 2) 4 = runB 1 (b4 (cc (n + 1))) from phi_call rfl b4_eq]
    refine run_val0 ?_
    show b4 (cc (n + 1)) [some (.int b)] h = _
    simp [b4, sSeq, sAsg, sRet, sIf, sDrop, sSkip, sPar, sPar3, gSet, gTupD, gSeq, dVar, dVal, dBin, dUn, dOf, dAnd, dOr, dIf, dChain, bVal, bTru, bNot, bAnd, bOr, lCons, lNil, dCall, Res.bind, Res.thn, Res.of, binV, binAdd, binMul, biOp, u1, u2, one, two, intP, maxP, minP, lenP, tupV, truV, negV, notV, ofB, isiP, tyB, cmp_eq_int, cmp_ne_int, subP, ixP, dicOf, itemsOf, atI, ixN, count_ok n b 0 1 h h1 h2]
  show b6 (cc (n + 2)) [some (.int b)] h = _
  simp [b6, sSeq, sAsg, sRet, sIf, sDrop, sSkip, sPar, sPar3, gSet, gTupD, gSeq, dVar, dVal, dBin, dUn, dOf, dAnd, dOr, dIf, dChain, bVal, bTru, bNot, bAnd, bOr, lCons, lNil, dCall, Res.bind, Res.thn, Res.of, binV, binAdd, binMul, biOp, u1, u2, one, two, intP, maxP, minP, lenP, tupV, truV, negV, notV, ofB, isiP, tyB, cmp_eq_int, cmp_ne_int, subP, ixP, dicOf, itemsOf, atI, ixN, e]
theorem counts_ok (n : Nat) (kd : Bool) (z o : Int) (h : MH) (h1 : 0 ≤ z) (h2 : z ≤ 1000) (h3 : 0 ≤ o) (h4 : o ≤ 1000) : cc (n + 2) 8 [.str (ks kd), .int z, .int o] h = .ok .non h := by
  rw [show cc (n + 2) 8 = runB 4 (b8 (cc (n + 1))) from phi_call rfl b8_eq]
  have key : ∃ x, b8 (cc (n + 1)) [some (.str (ks kd)), some (.int z), some (.int o), none] h = .nx [some (.str (ks kd)), some (.int z), some (.int o), x] h := by
    unfold b8
    have z2 : (2 : Nat) ≤ sizeLine := by decide
    have e1 : (sIf (bNot (bTru (dCall (cc (n + 1) 5) (lCons (dVar 0) lNil)))) sBad sSkip) [some (.str (ks kd)), some (.int z), some (.int o), none] h = .nx [some (.str (ks kd)), some (.int z), some (.int o), none] h := by
      simp [sSeq, sAsg, sRet, sIf, sDrop, sSkip, sPar, sPar3, gSet, gTupD, gSeq, dVar, dVal, dBin, dUn, dOf, dAnd, dOr, dIf, dChain, bVal, bTru, bNot, bAnd, bOr, lCons, lNil, dCall, Res.bind, Res.thn, Res.of, binV, binAdd, binMul, biOp, u1, u2, one, two, intP, maxP, minP, lenP, tupV, truV, negV, notV, ofB, isiP, tyB, cmp_eq_int, cmp_ne_int, subP, ixP, dicOf, itemsOf, atI, ixN, kind_ok]
    unfold sSeq
    rw [e1]
    refine last_for (R := fun r => ∃ x, r = .nx [some (.str (ks kd)), some (.int z), some (.int o), x] h) (xs := [.int z, .int o]) (h1 := h) (fun i ρ h' => ∃ x, ρ = [some (.str (ks kd)), some (.int z), some (.int o), x] ∧ h' = h) (by simp [iSeq, sSeq, sAsg, sRet, sIf, sDrop, sSkip, sPar, sPar3, gSet, gTupD, gSeq, dVar, dVal, dBin, dUn, dOf, dAnd, dOr, dIf, dChain, bVal, bTru, bNot, bAnd, bOr, lCons, lNil, dCall, Res.bind, Res.thn, Res.of, binV, binAdd, binMul, biOp, u1, u2, one, two, intP, maxP, minP, lenP, tupV, truV, negV, notV, ofB, isiP, tyB, cmp_eq_int, cmp_ne_int, subP, ixP, dicOf, itemsOf, atI, ixN, z2]) ⟨none, rfl, rfl⟩ ?_ ?_
    · rintro i v ρ h' hv ⟨x, rfl, rfl⟩
      have hv' : ∃ w : Int, v = .int w ∧ 0 ≤ w ∧ w ≤ 1000 := by
        match i, hv with
        | 0, hv => exact ⟨z, by simpa using hv.symm, h1, h2⟩
        | 1, hv => exact ⟨o, by simpa using hv.symm, h3, h4⟩
        | i + 2, hv => simp at hv
      obtain ⟨w, rfl, w1, w2⟩ := hv'
      exact ⟨[some (.str (ks kd)), some (.int z), some (.int o), some (.int w)], h', by simp [tgB, sSeq, sAsg, sRet, sIf, sDrop, sSkip, sPar, sPar3, gSet, gTupD, gSeq, dVar, dVal, dBin, dUn, dOf, dAnd, dOr, dIf, dChain, bVal, bTru, bNot, bAnd, bOr, lCons, lNil, dCall, Res.bind, Res.thn, Res.of, binV, binAdd, binMul, biOp, u1, u2, one, two, intP, maxP, minP, lenP, tupV, truV, negV, notV, ofB, isiP, tyB, cmp_eq_int, cmp_ne_int, subP, ixP, dicOf, itemsOf, atI, ixN, count_ok n w 0 1000 h' w1 w2], _, rfl, rfl⟩
    · rintro ρ' h' ⟨x, rfl, rfl⟩
      exact ⟨x, rfl⟩
  obtain ⟨x, e⟩ := key
  exact run_nx0 e
end Lw

namespace Lw
open PySem PySem.Spec PyProof.Rows L2 Mi
theorem chP_all : ∀ s < 85, ∀ k < 43, (chP ((s : Nat) : Int) k).natAbs < 2 ^ 200 ∧ (k ≤ s → 0 < chP ((s : Nat) : Int) k) := by decide +kernel
theorem pow_all : ∀ s < 85, ((4 : Int) ^ s).natAbs < 2 ^ 200 ∧ 0 < (4 : Int) ^ s := by decide +kernel
def topP (kd : Bool) (z o : Nat) : Int := if kd then 1 else chP (2 * (z : Int)) z * chP (2 * (o : Int)) o
def botP (kd : Bool) (z o : Nat) : Int := if kd then ((z : Int) + (o : Int) + 1) * chP ((z : Int) + (o : Int)) z else 4 ^ (z + o) * chP ((z : Int) + (o : Int)) z
def est (kd : Bool) (z o : Nat) : Int × Int := frP (topP kd z o) (botP kd z o)
theorem chP2 (z : Nat) (hz : z ≤ 42) : (chP (2 * (z : Int)) z).natAbs < 2 ^ 200 ∧ 0 < chP (2 * (z : Int)) z := by
  have e : (2 * (z : Int)) = ((2 * z : Nat) : Int) := by omega
  rw [e]
  obtain ⟨a, b⟩ := chP_all (2 * z) (by omega) z (by omega)
  exact ⟨a, b (by omega)⟩
theorem chPs (z o : Nat) (hz : z ≤ 42) (ho : o ≤ 42) : (chP ((z : Int) + (o : Int)) z).natAbs < 2 ^ 200 ∧ 0 < chP ((z : Int) + (o : Int)) z := by
  have e : ((z : Int) + (o : Int)) = ((z + o : Nat) : Int) := by omega
  rw [e]
  obtain ⟨a, b⟩ := chP_all (z + o) (by omega) z (by omega)
  exact ⟨a, b (by omega)⟩
theorem le4000 {i : Int} {m : Nat} (h : i.natAbs < 2 ^ m) (hm : m ≤ 4000) : i.natAbs < 2 ^ 4000 := Nat.lt_of_lt_of_le h (Nat.pow_le_pow_right (by decide) hm)
theorem botP_ok (kd : Bool) (z o : Nat) (hz : z ≤ 42) (ho : o ≤ 42) : 0 < botP kd z o ∧ (botP kd z o).natAbs < 2 ^ 400 := by
  obtain ⟨a, b⟩ := chPs z o hz ho
  unfold botP
  cases kd with
  | true =>
    have h1 : ((z : Int) + (o : Int) + 1).natAbs < 2 ^ 200 := Nat.lt_of_lt_of_le (show ((z : Int) + (o : Int) + 1).natAbs < 2 ^ 10 by omega) (Nat.pow_le_pow_right (by decide) (by decide))
    exact ⟨Int.mul_pos (by omega) b, natAbs_mul_lt h1 a⟩
  | false =>
    obtain ⟨c, d⟩ := pow_all (z + o) (by omega)
    exact ⟨Int.mul_pos d b, natAbs_mul_lt c a⟩
theorem kq (kd : Bool) (h : MH) : cmpP .Eq (.str (ks kd)) (.str "one") h = some (.bl kd, h) := by
  cases kd <;> kernel_rfl
theorem kc (kd : Bool) (r : Rho) (h : MH) : bVal (dBin (cmpP .Eq) (dVar 0) (dVal (.str "one"))) (some (.str (ks kd)) :: r) h = .ok kd h := by
  simp [bVal, dBin, dVar, dVal, Res.bind, Res.of, kq]
theorem eA (c : Nat → List PV → MH → Res PV) (z o : Nat) (C : Int) (h : MH) (k : Option PV) (c1 : c 3 [.int ((z : Int) + (o : Int)), .int (z : Int)] h = .ok (.int C) h) (m1 : mulOk ((z : Int) + (o : Int) + 1) C = true) (z2 : 2 ≤ sizeLine) : (sRet (dOf tupV (lCons (dVal (.int 1)) (lCons (dBin (binV .Mult) (dBin (binV .Add) (dVar 3) (dVal (.int 1))) (dCall (c 3) (lCons (dVar 3) (lCons (dVar 1) lNil)))) lNil)))) [k, some (.int (z : Int)), some (.int (o : Int)), some (.int ((z : Int) + (o : Int)))] h = .rt (.tup [.int 1, .int (((z : Int) + (o : Int) + 1) * C)]) h := by
  simp [sSeq, sAsg, sRet, sIf, sDrop, sSkip, sPar, sPar3, gSet, gTupD, gSeq, dVar, dVal, dBin, dUn, dOf, dAnd, dOr, dIf, dChain, bVal, bTru, bNot, bAnd, bOr, lCons, lNil, dCall, Res.bind, Res.thn, Res.of, binV, binAdd, binMul, biOp, u1, u2, one, two, intP, maxP, minP, lenP, tupV, truV, negV, notV, ofB, isiP, tyB, cmp_eq_int, cmp_ne_int, subP, ixP, dicOf, itemsOf, atI, ixN, c1, m1, z2]
theorem eB (c : Nat → List PV → MH → Res PV) (z o : Nat) (A B C D : Int) (h : MH) (k : Option PV) (c1 : c 3 [.int ((z : Int) + (o : Int)), .int (z : Int)] h = .ok (.int C) h) (c2 : c 3 [.int (2 * (z : Int)), .int (z : Int)] h = .ok (.int A) h) (c3 : c 3 [.int (2 * (o : Int)), .int (o : Int)] h = .ok (.int B) h) (c4 : c 2 [.int 4, .int ((z : Int) + (o : Int))] h = .ok (.int D) h)
    (m0 : ∀ x : Int, mulOk 2 x = true) (m2 : mulOk A B = true) (m3 : mulOk D C = true) (z2 : 2 ≤ sizeLine) :
    (sRet (dOf tupV (lCons (dBin (binV .Mult) (dCall (c 3) (lCons (dBin (binV .Mult) (dVal (.int 2)) (dVar 1)) (lCons (dVar 1) lNil))) (dCall (c 3) (lCons (dBin (binV .Mult) (dVal (.int 2)) (dVar 2)) (lCons (dVar 2) lNil)))) (lCons (dBin (binV .Mult) (dCall (c 2) (lCons (dVal (.int 4)) (lCons (dVar 3) lNil))) (dCall (c 3) (lCons (dVar 3) (lCons (dVar 1) lNil)))) lNil)))) [k, some (.int (z : Int)), some (.int (o : Int)), some (.int ((z : Int) + (o : Int)))] h = .rt (.tup [.int (A * B), .int (D * C)]) h := by
  simp [sSeq, sAsg, sRet, sIf, sDrop, sSkip, sPar, sPar3, gSet, gTupD, gSeq, dVar, dVal, dBin, dUn, dOf, dAnd, dOr, dIf, dChain, bVal, bTru, bNot, bAnd, bOr, lCons, lNil, dCall, Res.bind, Res.thn, Res.of, binV, binAdd, binMul, biOp, u1, u2, one, two, intP, maxP, minP, lenP, tupV, truV, negV, notV, ofB, isiP, tyB, cmp_eq_int, cmp_ne_int, subP, ixP, dicOf, itemsOf, atI, ixN, c1, c2, c3, c4, m0, m2, m3, z2]
theorem estimate_of_ok (n : Nat) (kd : Bool) (z o : Nat) (h : MH) (hz : z ≤ 42) (ho : o ≤ 42) : cc (n + 2) 7 [.str (ks kd), .int (z : Int), .int (o : Int)] h = .ok (.tup [.int (topP kd z o), .int (botP kd z o)]) h := by
  rw [show cc (n + 2) 7 = runB 4 (b7 (cc (n + 1))) from phi_call rfl b7_eq]
  refine run_val0 ?_
  have c1 := choices_ok n ((z : Int) + (o : Int)) (z : Int) h (by omega) (by omega) (by omega)
  have c2 := choices_ok n (2 * (z : Int)) (z : Int) h (by omega) (by omega) (by omega)
  have c3 := choices_ok n (2 * (o : Int)) (o : Int) h (by omega) (by omega) (by omega)
  have c4 := power_ok n ((z : Int) + (o : Int)) h (by omega) (by omega)
  generalize cc (n + 1) = c at c1 c2 c3 c4 ⊢
  show b7 c [some (.str (ks kd)), some (.int (z : Int)), some (.int (o : Int)), none] h = _
  have z2 : (2 : Nat) ≤ sizeLine := by decide
  refine seq_nx (ρ' := [some (.str (ks kd)), some (.int (z : Int)), some (.int (o : Int)), some (.int ((z : Int) + (o : Int)))]) (h' := h) (by simp [sSeq, sAsg, sRet, sIf, sDrop, sSkip, sPar, sPar3, gSet, gTupD, gSeq, dVar, dVal, dBin, dUn, dOf, dAnd, dOr, dIf, dChain, bVal, bTru, bNot, bAnd, bOr, lCons, lNil, dCall, Res.bind, Res.thn, Res.of, binV, binAdd, binMul, biOp, u1, u2, one, two, intP, maxP, minP, lenP, tupV, truV, negV, notV, ofB, isiP, tyB, cmp_eq_int, cmp_ne_int, subP, ixP, dicOf, itemsOf, atI, ixN]) ?_
  have m0 : ∀ x : Int, mulOk 2 x = true := fun x => mulOk_small (.inl (by decide))
  have e4 : ((z : Int) + (o : Int)).toNat = z + o := by omega
  rw [e4] at c4
  rw [Int.toNat_natCast] at c1 c2 c3
  have kk := kc kd [some (.int (z : Int)), some (.int (o : Int)), some (.int ((z : Int) + (o : Int)))] h
  cases kd with
  | true =>
    have m1 : mulOk ((z : Int) + (o : Int) + 1) (chP ((z : Int) + (o : Int)) z) = true := mulOk_small (.inl (by omega))
    refine seq_rt ((if_yes kk).trans ?_)
    exact eA c z o _ h _ c1 m1 z2
  | false =>
    refine seq_guard kk ?_
    have m2 : mulOk (chP (2 * (z : Int)) z) (chP (2 * (o : Int)) o) = true := mulOk_big (le4000 (chP2 z hz).1 (by decide)) (le4000 (chP2 o ho).1 (by decide))
    have m3 : mulOk (4 ^ (z + o)) (chP ((z : Int) + (o : Int)) z) = true := mulOk_big (le4000 (pow_all (z + o) (by omega)).1 (by decide)) (le4000 (chPs z o hz ho).1 (by decide))
    exact eB c z o _ _ _ _ h _ c1 c2 c3 c4 m0 m2 m3 z2
theorem estimate_ok (n : Nat) (kd : Bool) (z o : Nat) (h : MH) (hz : z ≤ 42) (ho : o ≤ 42) : cc (n + 3) 9 [.str (ks kd), .int (z : Int), .int (o : Int)] h = .ok (prV (est kd z o)) h := by
  rw [show cc (n + 3) 9 = runB 5 (b9 (cc (n + 2))) from phi_call rfl b9_eq]
  refine run_val0 ?_
  have c1 := counts_ok n kd (z : Int) (o : Int) h (by omega) (by omega) (by omega) (by omega)
  have c2 := estimate_of_ok n kd z o h hz ho
  obtain ⟨b1, b2⟩ := botP_ok kd z o hz ho
  have c3 := fraction_ok (n + 1) (topP kd z o) (botP kd z o) h b1 (le4000 b2 (by decide))
  generalize cc (n + 2) = c at c1 c2 c3 ⊢
  show b9 c [some (.str (ks kd)), some (.int (z : Int)), some (.int (o : Int)), none, none] h = _
  simp [b9, sSeq, sAsg, sRet, sIf, sDrop, sSkip, sPar, sPar3, gSet, gTupD, gSeq, dVar, dVal, dBin, dUn, dOf, dAnd, dOr, dIf, dChain, bVal, bTru, bNot, bAnd, bOr, lCons, lNil, dCall, Res.bind, Res.thn, Res.of, binV, binAdd, binMul, biOp, u1, u2, one, two, intP, maxP, minP, lenP, tupV, truV, negV, notV, ofB, isiP, tyB, cmp_eq_int, cmp_ne_int, subP, ixP, dicOf, itemsOf, atI, ixN, c1, c2, c3, est]
def nxt (kd : Bool) (z o : Nat) (b : Bool) : Int × Int := if kd then frP ((if b then (o : Int) else (z : Int)) + 1) ((z : Int) + (o : Int) + 2) else frP (2 * (if b then (o : Int) else (z : Int)) + 1) (2 * ((z : Int) + (o : Int)) + 2)
theorem next_ok (n : Nat) (kd : Bool) (z o : Nat) (b : Bool) (h : MH) (hz : z ≤ 42) (ho : o ≤ 42) : cc (n + 4) 10 [.str (ks kd), .int (z : Int), .int (o : Int), .int (if b then 1 else 0)] h = .ok (prV (nxt kd z o b)) h := by
  rw [show cc (n + 4) 10 = runB 5 (b10 (cc (n + 3))) from phi_call rfl b10_eq]
  refine run_val0 ?_
  have c1 := counts_ok (n + 1) kd (z : Int) (o : Int) h (by omega) (by omega) (by omega) (by omega)
  have c2 := bit_ok n (if b then 1 else 0) h (by split <;> decide) (by split <;> decide)
  have m0 : ∀ x : Int, mulOk 2 x = true := fun x => mulOk_small (.inl (by decide))
  have sm : ∀ x : Int, x.natAbs < 1000 → x.natAbs < 2 ^ 4000 := fun x hx => small4000 (by omega)
  have c3 : ∀ t b : Int, 0 < b → b.natAbs < 1000 → cc (n + 3) 1 [.int t, .int b] h = .ok (prV (frP t b)) h := fun t b h1 h2 => fraction_ok (n + 2) t b h h1 (sm _ h2)
  have c4 := fun t => c3 t ((z : Int) + (o : Int) + 2) (by omega) (by omega)
  have c5 := fun t => c3 t (2 * ((z : Int) + (o : Int)) + 2) (by omega) (by omega)
  clear c3
  generalize cc (n + 3) = c at c1 c2 c4 c5 ⊢
  show b10 c [some (.str (ks kd)), some (.int (z : Int)), some (.int (o : Int)), some (.int (if b then 1 else 0)), none] h = _
  unfold b10
  refine seq_nx (ρ' := [some (.str (ks kd)), some (.int (z : Int)), some (.int (o : Int)), some (.int (if b then 1 else 0)), none]) (h' := h) (by simp [sSeq, sAsg, sRet, sIf, sDrop, sSkip, sPar, sPar3, gSet, gTupD, gSeq, dVar, dVal, dBin, dUn, dOf, dAnd, dOr, dIf, dChain, bVal, bTru, bNot, bAnd, bOr, lCons, lNil, dCall, Res.bind, Res.thn, Res.of, binV, binAdd, binMul, biOp, u1, u2, one, two, intP, maxP, minP, lenP, tupV, truV, negV, notV, ofB, isiP, tyB, cmp_eq_int, cmp_ne_int, subP, ixP, dicOf, itemsOf, atI, ixN, c1]) ?_
  refine seq_nx (ρ' := [some (.str (ks kd)), some (.int (z : Int)), some (.int (o : Int)), some (.int (if b then 1 else 0)), none]) (h' := h) (by simp [sSeq, sAsg, sRet, sIf, sDrop, sSkip, sPar, sPar3, gSet, gTupD, gSeq, dVar, dVal, dBin, dUn, dOf, dAnd, dOr, dIf, dChain, bVal, bTru, bNot, bAnd, bOr, lCons, lNil, dCall, Res.bind, Res.thn, Res.of, binV, binAdd, binMul, biOp, u1, u2, one, two, intP, maxP, minP, lenP, tupV, truV, negV, notV, ofB, isiP, tyB, cmp_eq_int, cmp_ne_int, subP, ixP, dicOf, itemsOf, atI, ixN, c2]) ?_
  refine seq_nx (ρ' := [some (.str (ks kd)), some (.int (z : Int)), some (.int (o : Int)), some (.int (if b then 1 else 0)), some (.int (if b then (o : Int) else (z : Int)))]) (h' := h) (by cases b <;> simp [sSeq, sAsg, sRet, sIf, sDrop, sSkip, sPar, sPar3, gSet, gTupD, gSeq, dVar, dVal, dBin, dUn, dOf, dAnd, dOr, dIf, dChain, bVal, bTru, bNot, bAnd, bOr, lCons, lNil, dCall, Res.bind, Res.thn, Res.of, binV, binAdd, binMul, biOp, u1, u2, one, two, intP, maxP, minP, lenP, tupV, truV, negV, notV, ofB, isiP, tyB, cmp_eq_int, cmp_ne_int, subP, ixP, dicOf, itemsOf, atI, ixN]) ?_
  have kk := kc kd [some (.int (z : Int)), some (.int (o : Int)), some (.int (if b then 1 else 0)), some (.int (if b then (o : Int) else (z : Int)))] h
  cases kd with
  | true =>
    refine seq_rt ((if_yes kk).trans ?_)
    simp [sSeq, sAsg, sRet, sIf, sDrop, sSkip, sPar, sPar3, gSet, gTupD, gSeq, dVar, dVal, dBin, dUn, dOf, dAnd, dOr, dIf, dChain, bVal, bTru, bNot, bAnd, bOr, lCons, lNil, dCall, Res.bind, Res.thn, Res.of, binV, binAdd, binMul, biOp, u1, u2, one, two, intP, maxP, minP, lenP, tupV, truV, negV, notV, ofB, isiP, tyB, cmp_eq_int, cmp_ne_int, subP, ixP, dicOf, itemsOf, atI, ixN, c4, nxt]
  | false =>
    refine seq_guard kk ?_
    simp [sSeq, sAsg, sRet, sIf, sDrop, sSkip, sPar, sPar3, gSet, gTupD, gSeq, dVar, dVal, dBin, dUn, dOf, dAnd, dOr, dIf, dChain, bVal, bTru, bNot, bAnd, bOr, lCons, lNil, dCall, Res.bind, Res.thn, Res.of, binV, binAdd, binMul, biOp, u1, u2, one, two, intP, maxP, minP, lenP, tupV, truV, negV, notV, ofB, isiP, tyB, cmp_eq_int, cmp_ne_int, subP, ixP, dicOf, itemsOf, atI, ixN, c5, m0, nxt]
end Lw

namespace Lw
open PySem PySem.Spec PyProof.Rows L2 Mi
/-- a fraction of bounded size -/
def Bd (p : Int × Int) : Prop := p.1.natAbs < 2 ^ 1500 ∧ 0 < p.2 ∧ p.2.natAbs < 2 ^ 1500
def addP (a b : Int × Int) : Int × Int := frP (a.1 * b.2 + b.1 * a.2) (a.2 * b.2)
def mulP (a b : Int × Int) : Int × Int := frP (a.1 * b.1) (a.2 * b.2)
theorem bd_mul {a b : Int × Int} (ha : Bd a) (hb : Bd b) : 0 < a.2 * b.2 ∧ (a.2 * b.2).natAbs < 2 ^ 4000 :=
  ⟨Int.mul_pos ha.2.1 hb.2.1, le4000 (natAbs_mul_lt ha.2.2 hb.2.2) (by decide)⟩
theorem mk1500 {i j : Int} (hi : i.natAbs < 2 ^ 1500) (hj : j.natAbs < 2 ^ 1500) : mulOk i j = true := mulOk_big (le4000 hi (by decide)) (le4000 hj (by decide))
theorem sub0 (a b : Int) (h : MH) : subP (.tup [.int a, .int b]) (.int 0) h = some (.int a, h) := rfl
theorem sub1 (a b : Int) (h : MH) : subP (.tup [.int a, .int b]) (.int 1) h = some (.int b, h) := rfl
theorem add_ok (n : Nat) (a b : Int × Int) (h : MH) (ha : Bd a) (hb : Bd b) : cc (n + 2) 16 [prV a, prV b] h = .ok (prV (addP a b)) h := by
  rw [show cc (n + 2) 16 = runB 2 (b16 (cc (n + 1))) from phi_call rfl b16_eq]
  refine run_val0 ?_
  obtain ⟨m1, m2⟩ := bd_mul ha hb
  have c1 := ratio_ok n (a.1 * b.2 + b.1 * a.2) (a.2 * b.2) h m1 m2
  generalize cc (n + 1) = c at c1 ⊢
  have k1 := mk1500 ha.1 hb.2.2
  have k2 := mk1500 hb.1 ha.2.2
  have k3 := mk1500 ha.2.2 hb.2.2
  obtain ⟨a1, a2⟩ := a
  obtain ⟨b1, b2⟩ := b
  show b16 c [some (.tup [.int a1, .int a2]), some (.tup [.int b1, .int b2])] h = .rt (prV (frP (a1 * b2 + b1 * a2) (a2 * b2))) h
  generalize prV (frP (a1 * b2 + b1 * a2) (a2 * b2)) = R at c1 ⊢
  simp only at c1 k1 k2 k3
  simp only [b16, sRet, dCall, lCons, lNil, dBin, dVar, dVal, Res.bind, Res.thn, Res.of, List.getElem?_cons_zero, List.getElem?_cons_succ, sub0, sub1, binV, binAdd, binMul, k1, k2, k3, if_true, c1]
theorem mul_ok (n : Nat) (a b : Int × Int) (h : MH) (ha : Bd a) (hb : Bd b) : cc (n + 2) 17 [prV a, prV b] h = .ok (prV (mulP a b)) h := by
  rw [show cc (n + 2) 17 = runB 2 (b17 (cc (n + 1))) from phi_call rfl b17_eq]
  refine run_val0 ?_
  obtain ⟨m1, m2⟩ := bd_mul ha hb
  have c1 := ratio_ok n (a.1 * b.1) (a.2 * b.2) h m1 m2
  generalize cc (n + 1) = c at c1 ⊢
  have k1 := mk1500 ha.1 hb.1
  have k3 := mk1500 ha.2.2 hb.2.2
  obtain ⟨a1, a2⟩ := a
  obtain ⟨b1, b2⟩ := b
  show b17 c [some (.tup [.int a1, .int a2]), some (.tup [.int b1, .int b2])] h = .rt (prV (frP (a1 * b1) (a2 * b2))) h
  generalize prV (frP (a1 * b1) (a2 * b2)) = R at c1 ⊢
  simp only at c1 k1 k3
  simp only [b17, sRet, dCall, lCons, lNil, dBin, dVar, dVal, Res.bind, Res.thn, Res.of, List.getElem?_cons_zero, List.getElem?_cons_succ, sub0, sub1, binV, binAdd, binMul, k1, k3, if_true, c1]
def ltP (a b : Int × Int) : Bool := decide (a.1 * b.2 < b.1 * a.2)
theorem less_ok (n : Nat) (a b : Int × Int) (h : MH) (ha : Bd a) (hb : Bd b) : cc (n + 1) 18 [prV a, prV b] h = .ok (.bl (ltP a b)) h := by
  rw [show cc (n + 1) 18 = runB 2 (b18 (cc n)) from phi_call rfl b18_eq]
  refine run_val0 ?_
  generalize cc n = c
  have k1 := mk1500 ha.1 hb.2.2
  have k2 := mk1500 hb.1 ha.2.2
  obtain ⟨a1, a2⟩ := a
  obtain ⟨b1, b2⟩ := b
  show b18 c [some (.tup [.int a1, .int a2]), some (.tup [.int b1, .int b2])] h = .rt (.bl (decide (a1 * b2 < b1 * a2))) h
  simp only at k1 k2
  simp only [b18, sRet, dBin, dVar, dVal, Res.bind, Res.thn, Res.of, List.getElem?_cons_zero, List.getElem?_cons_succ, sub0, sub1, binV, binMul, k1, k2, if_true, cmpP, cmpV, cmpI, ofB]
def sumP : List (Int × Int) → Int × Int := fun ws => ws.foldl addP (0, 1)
theorem sumP_snoc (ws : List (Int × Int)) (w : Int × Int) : sumP (ws ++ [w]) = addP (sumP ws) w := by simp [sumP]
theorem sum_ok (n : Nat) (ws : List (Int × Int)) (q : Nat) (h : MH) (e : h[q]? = some (.lst (ws.map prV))) (hw : ∀ w ∈ ws, Bd w) (hs : ∀ i ≤ ws.length, Bd (sumP (ws.take i))) : cc (n + 3) 19 [.ref q] h = .ok (prV (sumP ws)) h := by
  rw [show cc (n + 3) 19 = runB 3 (b19 (cc (n + 2))) from phi_call rfl b19_eq]
  refine run_val0 ?_
  have c1 : ∀ a b, Bd a → Bd b → cc (n + 2) 16 [prV a, prV b] h = .ok (prV (addP a b)) h := fun a b ha hb => add_ok n a b h ha hb
  generalize cc (n + 2) = c at c1 ⊢
  show b19 c [some (.ref q), none, none] h = _
  have z2 : (2 : Nat) ≤ sizeLine := by decide
  refine seq_nx (ρ' := [some (.ref q), some (prV (sumP [])), none]) (h' := h) ?_ ?_
  · simp only [sAsg, gSet, dOf, tupV, lCons, lNil, dVal, Res.bind, Res.thn, Res.of, List.length_cons, List.length_nil, z2, if_true, List.set]
    rfl
  refine seq_forL (n := q) (h1 := h) (fun i ρ h' => ∃ x, ρ = [some (.ref q), some (prV (sumP (ws.take i))), x] ∧ h' = h) (by simp [dVar]) e ⟨none, rfl, rfl⟩ (by rintro i ρ h' ⟨x, rfl, rfl⟩; exact e) ?_ ?_
  · rintro i v ρ h' hv ⟨x, rfl, rfl⟩
    rw [List.getElem?_map] at hv
    obtain ⟨w, hw1, rfl⟩ := Option.map_eq_some_iff.mp hv
    have hi : i < ws.length := (List.getElem?_eq_some_iff.mp hw1).1
    have e2 := c1 (sumP (ws.take i)) w (hs i (by omega)) (hw w (List.mem_of_getElem? hw1))
    rw [← sumP_snoc, show ws.take i ++ [w] = ws.take (i + 1) by rw [List.take_succ, hw1]; rfl] at e2
    refine ⟨[some (.ref q), some (prV (sumP (ws.take (i + 1)))), some (prV w)], h', ?_, _, rfl, rfl⟩
    generalize prV (sumP (ws.take i)) = A at e2 ⊢
    generalize prV (sumP (ws.take (i + 1))) = B at e2 ⊢
    generalize prV w = C at e2 ⊢
    simp only [tgB, gSet, sAsg, dCall, lCons, lNil, dVar, Res.bind, Res.thn, List.set, List.getElem?_cons_zero, List.getElem?_cons_succ, e2]
  · rintro ρ' h' ⟨x, rfl, rfl⟩
    rw [List.length_map, List.take_length]
    simp only [sRet, dVar, Res.thn, List.getElem?_cons_zero, List.getElem?_cons_succ]
end Lw

namespace Lw
open PySem PySem.Spec PyProof.Rows L2 Mi
def kK (m z : Nat) : PV := .tup [.int (z : Int), .int ((m : Int) - (z : Int))]
def kV (kd : Bool) (m z : Nat) : PV := prV (est kd z (m - z))
theorem kK_inj (m : Nat) : ∀ i j, kK m i = kK m j → i = j := fun i j e => by
  unfold kK at e
  injection e with e
  injection e with e _
  injection e with e
  omega
theorem estimates_ok (n : Nat) (kd : Bool) (m : Nat) (h : MH) (hm : m ≤ 42) : cc (n + 4) 11 [.str (ks kd), .int (m : Int)] h = .ok (.ref h.length) (h ++ [.dic (entR (kK m) (kV kd m) (m + 1))]) := by
  rw [show cc (n + 4) 11 = runB 3 (b11 (cc (n + 3))) from phi_call rfl b11_eq]
  refine run_ref (g := [.dic (entR (kK m) (kV kd m) (m + 1))]) ?_ (by simp) (Nat.le_refl _) ?_
  · have c1 := kind_ok (n + 2) kd h
    have c2 := count_ok (n + 2) (m : Int) 0 1000 h (by omega) (by omega)
    have c3 : ∀ z : Nat, z ≤ m → cc (n + 3) 9 [.str (ks kd), .int (z : Int), .int ((m : Int) - (z : Int))] h = .ok (kV kd m z) h := fun z hz => by
      rw [show ((m : Int) - (z : Int)) = ((m - z : Nat) : Int) by omega]
      exact estimate_ok n kd z (m - z) h (by omega) (by omega)
    generalize cc (n + 3) = c at c1 c2 c3 ⊢
    show b11 c [some (.str (ks kd)), some (.int (m : Int)), none] h = _
    generalize ks kd = K0 at c1 c3 ⊢
    unfold b11
    refine seq_guard (h1 := h) (by simp only [bNot, bTru, dCall, lCons, lNil, dVar, Res.bind, List.getElem?_cons_zero, c1, truV, Bool.not_true]) ?_
    refine seq_guard (h1 := h) (by simp only [bNot, bTru, dCall, lCons, lNil, dVar, dVal, Res.bind, List.getElem?_cons_zero, List.getElem?_cons_succ, c2, truV, Bool.not_true]) ?_
    have e0 : (iRange1 (lCons (dBin (binV .Add) (dVar 1) (dVal (.int 1))) lNil)) [some (.str K0), some (.int (m : Int)), none] h = .ok (.vals (rngV 0 ((m : Int) + 1))) h := rng1 (by simp only [dBin, dVar, dVal, lCons, lNil, Res.bind, Res.of, List.getElem?_cons_zero, List.getElem?_cons_succ, binV, binAdd]) (by omega)
    have hl : (rngV 0 ((m : Int) + 1)).length = m + 1 := by rw [rngV_len]; omega
    have lp := lp_all (s := .vals (rngV 0 ((m : Int) + 1))) (xs := rngV 0 ((m : Int) + 1)) (g := gSet 2) (turn := tnEnt bYes (dOf tupV (lCons (dVar 2) (lCons (dBin (binV .Sub) (dVar 1) (dVar 2)) lNil))) (dCall (c 9) (lCons (dVar 0) (lCons (dVar 2) (lCons (dBin (binV .Sub) (dVar 1) (dVar 2)) lNil))))) (ρ0 := [some (.str K0), some (.int (m : Int)), none])
      (St := fun i a h' => a = entR (kK m) (kV kd m) i ∧ h' = h) (fun _ _ _ _ => rfl) (fun i v a h' hv st => by
        obtain ⟨rfl, rfl⟩ := st
        obtain ⟨rfl, hi⟩ := rngV_get hv
        rw [Int.zero_add]
        have e9 := c3 i (by omega)
        refine ⟨[some (.str K0), some (.int (m : Int)), some (.int (i : Int))], _, _, rfl, ?_, entR_put (kK_inj m), rfl⟩
        have z2 : (2 : Nat) ≤ sizeLine := by decide
        have q1 : (entR (kK m) (kV kd m) i).length < sizeLine := by rw [entR_len]; have : (100 : Nat) < sizeLine := by decide
                                                                    omega
        have q2 : (keyOf (kK m i)).isSome = true := rfl
        have q3 : sameK (entR (kK m) (kV kd m) i) (kK m i) = true := entR_same fun _ => rfl
        have kk : PV.tup [.int (i : Int), .int ((m : Int) - (i : Int))] = kK m i := rfl
        generalize kV kd m i = Vv at e9 ⊢
        generalize entR (kK m) (kV kd m) i = A at q1 q3 ⊢
        simp only [tnEnt, bYes, dOf, tupV, dCall, lCons, lNil, dBin, dVar, Res.bind, Res.of, List.getElem?_cons_zero, List.getElem?_cons_succ, binV, List.length_cons, List.length_nil, z2, if_true, e9, kk, q1, q2, q3, and_self]) (m + 1) 0 [] h (by rw [hl]; omega) ⟨rfl, rfl⟩
    obtain ⟨a', h', l1, rfl, rfl⟩ := lp
    rw [hl] at l1
    have fin := dc_ok (own := [2]) (k := m + 1) e0 (by show (rngV 0 ((m : Int) + 1)).length = _; exact hl) (show lpF _ _ _ (wipeR [some (.str K0), some (.int (m : Int)), none] [2]) _ _ _ _ = _ from l1)
    unfold sRet
    rw [fin]
    rfl
  · show ((entR (kK m) (kV kd m) (m + 1)).all fun p => PV.lt h.length p.1 && PV.lt h.length p.2) = true
    rw [List.all_eq_true]
    intro p hp
    obtain ⟨i, _, rfl⟩ := List.mem_map.mp hp
    rfl
theorem told_at (kd : Bool) (m z : Nat) (h : MH) (t : Nat) (e : h[t]? = some (.dic (entR (kK m) (kV kd m) (m + 1)))) (hz : z ≤ m) : subP (.ref t) (kK m z) h = some (kV kd m z, h) :=
  dic_at e rfl (entR_same fun _ => rfl) (entR_get (kK_inj m) (by omega))
end Lw

namespace Lw
open PySem PySem.Spec PyProof.Rows L2 Mi
/-! ### what is to be checked, in plain numbers -/
instance (p : Int × Int) : Decidable (Bd p) := by unfold Bd; infer_instance
def wayP (m : Nat) : Nat → Int
  | 0 => 1
  | z + 1 => (wayP m z * ((m : Int) - (z : Int))).fdiv ((z : Int) + 1)
def wt (kd : Bool) (m z : Nat) : Int × Int := mulP (wayP m z, 1) (est kd z (m - z))
def okZ (kd : Bool) (m z : Nat) : Bool :=
  decide (Bd (est kd z (m - z))) && decide (Bd (est kd (z + 1) (m - z))) && decide (Bd (est kd z (m - z + 1))) && decide (addP (est kd (z + 1) (m - z)) (est kd z (m - z + 1)) = est kd z (m - z)) &&
  decide (Bd (nxt kd z (m - z) false)) && decide (Bd (nxt kd z (m - z) true)) && decide (addP (nxt kd z (m - z) false) (nxt kd z (m - z) true) = (1, 1)) &&
  decide (Bd (wayP m z, 1)) && decide (Bd (wt kd m z)) && !ltP (est kd m 0) (est kd z (m - z)) && decide (kd = true → wt kd m z = frP 1 ((m : Int) + 1))
def wsP (kd : Bool) (m i : Nat) : List (Int × Int) := (List.range i).map (wt kd m)
def okM (kd : Bool) (m : Nat) : Bool := decide (Bd (est kd m 0)) && decide (est kd m 0 = est kd 0 m) && ((List.range (m + 2)).all fun i => decide (Bd (sumP ((wsP kd m (m + 1)).take i)))) && decide (sumP (wsP kd m (m + 1)) = (1, 1))
theorem okZ_all : ∀ m < 41, ∀ z < 41, z ≤ m → okZ true m z = true ∧ okZ false m z = true := by decide +kernel
theorem okM_all : ∀ m < 41, okM true m = true ∧ okM false m = true := by decide +kernel
end Lw

namespace Lw
open PySem PySem.Spec PyProof.Rows L2 Mi
structure OkZ (kd : Bool) (m z : Nat) : Prop where
  b1 : Bd (est kd z (m - z))
  b2 : Bd (est kd (z + 1) (m - z))
  b3 : Bd (est kd z (m - z + 1))
  add : addP (est kd (z + 1) (m - z)) (est kd z (m - z + 1)) = est kd z (m - z)
  n1 : Bd (nxt kd z (m - z) false)
  n2 : Bd (nxt kd z (m - z) true)
  nadd : addP (nxt kd z (m - z) false) (nxt kd z (m - z) true) = (1, 1)
  w : Bd (wayP m z, 1)
  bw : Bd (wt kd m z)
  lt : ltP (est kd m 0) (est kd z (m - z)) = false
  one : kd = true → wt kd m z = frP 1 ((m : Int) + 1)
theorem okz (kd : Bool) (m z : Nat) (hm : m < 41) (hz : z ≤ m) : OkZ kd m z := by
  have h : okZ kd m z = true := by
    obtain ⟨a, b⟩ := okZ_all m hm z (by omega) hz
    cases kd
    · exact b
    · exact a
  unfold okZ at h
  simp only [Bool.and_eq_true, decide_eq_true_eq, Bool.not_eq_true'] at h
  obtain ⟨⟨⟨⟨⟨⟨⟨⟨⟨⟨h1, h2⟩, h3⟩, h4⟩, h5⟩, h6⟩, h7⟩, h8⟩, h9⟩, h10⟩, h11⟩ := h
  exact ⟨h1, h2, h3, h4, h5, h6, h7, h8, h9, h10, h11⟩
structure OkM (kd : Bool) (m : Nat) : Prop where
  b : Bd (est kd m 0)
  sym : est kd m 0 = est kd 0 m
  sums : ∀ i ≤ m + 1, Bd (sumP ((wsP kd m (m + 1)).take i))
  sum : sumP (wsP kd m (m + 1)) = (1, 1)
theorem okm (kd : Bool) (m : Nat) (hm : m < 41) : OkM kd m := by
  have h : okM kd m = true := by
    obtain ⟨a, b⟩ := okM_all m hm
    cases kd
    · exact b
    · exact a
  unfold okM at h
  simp only [Bool.and_eq_true, decide_eq_true_eq, List.all_eq_true] at h
  obtain ⟨⟨⟨h1, h2⟩, h3⟩, h4⟩ := h
  exact ⟨h1, h2, fun i hi => h3 i (List.mem_range.mpr (by omega)), h4⟩
theorem wsP_succ (kd : Bool) (m i : Nat) : wsP kd m (i + 1) = wsP kd m i ++ [wt kd m i] := by unfold wsP; rw [List.range_succ, List.map_append]; rfl
/-! ### the inner loop -/
def bIn (c : Nat → List PV → MH → Res PV) : DenS :=
 (sSeq (sAsg (dBin (binV .Sub) (dVar 4) (dVar 8)) (gSet 9))
 (sSeq (sAsg (dBin subP (dVar 5) (dOf tupV (lCons (dVar 8) (lCons (dVar 9) lNil)))) (gSet 10))
 (sSeq (sIf (bVal (dBin (cmpP .NotEq) (dCall (c 16) (lCons (dCall (c 9) (lCons (dVar 3) (lCons (dBin (binV .Add) (dVar 8) (dVal (.int 1))) (lCons (dVar 9) lNil)))) (lCons (dCall (c 9) (lCons (dVar 3) (lCons (dVar 8) (lCons (dBin (binV .Add) (dVar 9) (dVal (.int 1))) lNil)))) lNil))) (dVar 10)))
 (sRet (dVal (.bl false)))
 sSkip)
 (sSeq (sAsg (dLc (iSeq (dOf lstV (lCons (dVal (.int 0)) (lCons (dVal (.int 1)) lNil)))) [12] (gSet 12) (tnElt bYes (dCall (c 10) (lCons (dVar 3) (lCons (dVar 8) (lCons (dVar 9) (lCons (dVar 12) lNil))))))) (gSet 11))
 (sSeq (sIf (bVal (dBin (cmpP .NotEq) (dCall (c 16) (lCons (dBin subP (dVar 11) (dVal (.int 0))) (lCons (dBin subP (dVar 11) (dVal (.int 1))) lNil))) (dOf tupV (lCons (dVal (.int 1)) (lCons (dVal (.int 1)) lNil)))))
 (sRet (dVal (.bl false)))
 sSkip)
 (sSeq (sDrop (dMtd isL appM (dVar 7) (lCons (dCall (c 17) (lCons (dOf tupV (lCons (dVar 6) (lCons (dVal (.int 1)) lNil))) (lCons (dVar 10) lNil))) lNil)))
 (sSeq (sAsg (dBin (binV .FloorDiv) (dBin (binV .Mult) (dVar 6) (dVar 9)) (dBin (binV .Add) (dVar 8) (dVal (.int 1)))) (gSet 6))
 (sIf (bOr (bTru (dCall (c 18) (lCons (dBin subP (dVar 5) (dOf tupV (lCons (dVar 4) (lCons (dVal (.int 0)) lNil)))) (lCons (dVar 10) lNil)))) (bVal (dBin (cmpP .NotEq) (dBin subP (dVar 5) (dOf tupV (lCons (dVar 4) (lCons (dVal (.int 0)) lNil)))) (dBin subP (dVar 5) (dOf tupV (lCons (dVal (.int 0)) (lCons (dVar 4) lNil)))))))
 (sRet (dVal (.bl false)))
 sSkip))))))))
theorem good_pr (p : Int × Int) : good 9 (prV p) = true := rfl
theorem ne_pr (a : Int × Int) (h : MH) : cmpP .NotEq (prV a) (prV a) h = some (.bl false, h) := by
  rw [cmp_ne (good_pr a) (good_pr a)]
  simp
/-- what the calls of a turn give, at every heap -/
structure Cs (c : Nat → List PV → MH → Res PV) (kd : Bool) (m z : Nat) : Prop where
  e1 : ∀ h, c 9 [.str (ks kd), .int ((z : Int) + 1), .int ((m : Int) - (z : Int))] h = .ok (prV (est kd (z + 1) (m - z))) h
  e2 : ∀ h, c 9 [.str (ks kd), .int (z : Int), .int ((m : Int) - (z : Int) + 1)] h = .ok (prV (est kd z (m - z + 1))) h
  a1 : ∀ h, c 16 [prV (est kd (z + 1) (m - z)), prV (est kd z (m - z + 1))] h = .ok (prV (est kd z (m - z))) h
  x0 : ∀ h, c 10 [.str (ks kd), .int (z : Int), .int ((m : Int) - (z : Int)), .int 0] h = .ok (prV (nxt kd z (m - z) false)) h
  x1 : ∀ h, c 10 [.str (ks kd), .int (z : Int), .int ((m : Int) - (z : Int)), .int 1] h = .ok (prV (nxt kd z (m - z) true)) h
  a2 : ∀ h, c 16 [prV (nxt kd z (m - z) false), prV (nxt kd z (m - z) true)] h = .ok (prV (1, 1)) h
  mu : ∀ h, c 17 [.tup [.int (wayP m z), .int 1], prV (est kd z (m - z))] h = .ok (prV (wt kd m z)) h
  le : ∀ h, c 18 [prV (est kd m 0), prV (est kd z (m - z))] h = .ok (.bl false) h
theorem cs_of (n : Nat) (kd : Bool) (m z : Nat) (hm : m < 41) (hz : z ≤ m) : Cs (cc (n + 4)) kd m z := by
  have o := okz kd m z hm hz
  have q := okm kd m hm
  have s : ((m : Int) - (z : Int)) = ((m - z : Nat) : Int) := by omega
  refine ⟨fun h => ?_, fun h => ?_, fun h => ?_, fun h => ?_, fun h => ?_, fun h => ?_, fun h => ?_, fun h => ?_⟩
  · rw [s]; exact estimate_ok (n + 1) kd (z + 1) (m - z) h (by omega) (by omega)
  · rw [s]; exact estimate_ok (n + 1) kd z (m - z + 1) h (by omega) (by omega)
  · rw [add_ok (n + 2) _ _ h o.b2 o.b3, o.add]
  · rw [s]; exact next_ok n kd z (m - z) false h (by omega) (by omega)
  · rw [s]; exact next_ok n kd z (m - z) true h (by omega) (by omega)
  · rw [add_ok (n + 2) _ _ h o.n1 o.n2, o.nadd]
  · exact mul_ok (n + 2) (wayP m z, 1) _ h o.w o.b1
  · rw [less_ok (n + 3) _ _ h q.b o.b1, o.lt]
theorem both_ok (c : Nat → List PV → MH → Res PV) (K0 : PV) (z o : Int) (v0 v1 : PV) (h : MH) (r0 r1 r2 r4 r5 r6 r7 r10 r11 r12 : Option PV) (x0 : ∀ h, c 10 [K0, .int z, .int o, .int 0] h = .ok v0 h) (x1 : ∀ h, c 10 [K0, .int z, .int o, .int 1] h = .ok v1 h) :
    (dLc (iSeq (dOf lstV (lCons (dVal (.int 0)) (lCons (dVal (.int 1)) lNil)))) [12] (gSet 12) (tnElt bYes (dCall (c 10) (lCons (dVar 3) (lCons (dVar 8) (lCons (dVar 9) (lCons (dVar 12) lNil))))))) [r0, r1, r2, some K0, r4, r5, r6, r7, some (.int z), some (.int o), r10, r11, r12] h = .ok (.ref (h.length + 1)) (h ++ [.lst [.int 0, .int 1]] ++ [.lst [v0, v1]]) := by
  have z2 : (2 : Nat) ≤ sizeLine := by decide
  have e0 : (dOf lstV (lCons (dVal (.int 0)) (lCons (dVal (.int 1)) lNil))) [r0, r1, r2, some K0, r4, r5, r6, r7, some (.int z), some (.int o), r10, r11, r12] h = .ok (.ref h.length) (h ++ [.lst [.int 0, .int 1]]) := by
    simp only [dOf, lstV, Mi.alloc, lCons, lNil, dVal, Res.bind, Res.of, List.length_cons, List.length_nil, z2, if_true]
  have el : (h ++ [MO.lst [.int 0, .int 1]])[h.length]? = some (.lst [.int 0, .int 1]) := by simp
  have lp : lpF (.live h.length) (gSet 12) (tnElt bYes (dCall (c 10) (lCons (dVar 3) (lCons (dVar 8) (lCons (dVar 9) (lCons (dVar 12) lNil)))))) [r0, r1, r2, some K0, r4, r5, r6, r7, some (.int z), some (.int o), r10, r11, none] 2 0 [] (h ++ [MO.lst [.int 0, .int 1]]) = .ok [v0, v1] (h ++ [MO.lst [.int 0, .int 1]]) := by
    have s0 : (0 : Nat) < sizeLine := by decide
    have s1 : (1 : Nat) < sizeLine := by decide
    generalize (h ++ [MO.lst [.int 0, .int 1]]) = h1 at el ⊢
    have y0 := x0 h1
    have y1 := x1 h1
    have a : ∀ i, (Src.live h.length).at h1 i = some ([PV.int 0, PV.int 1])[i]? := fun i => at_live el
    simp only [lpF, a, List.getElem?_cons_zero, List.getElem?_cons_succ, List.getElem?_nil, gSet, List.set, tnElt, bYes, dCall, lCons, lNil, dVar, Res.bind, y0, y1, List.length_nil, List.length_cons, s0, s1, if_true, List.nil_append, List.cons_append]
  have fin := lc_ok (own := [12]) (k := 2) (it_live e0 el) (size_live el) lp
  rw [fin]
  simp
theorem app_ok {h : MH} {w : Nat} {xs : List PV} {y : PV} (e : h[w]? = some (.lst xs)) (hz : xs.length < sizeLine) : appM (.ref w) [y] h = some (.non, h.set w (.lst (xs ++ [y]))) ∧ isL (.ref w) h = true := by
  obtain ⟨_, e2, _⟩ := lst_at e
  refine ⟨?_, ?_⟩
  · unfold appM
    simp only [e2, one, hz, if_true]
  · unfold isL
    rw [e2]
    rfl
theorem inner_ok (c : Nat → List PV → MH → Res PV) (kd : Bool) (m z t w : Nat) (S Kk Pp x9 x10 x11 x12 : Option PV) (h : MH) (C : Cs c kd m z) (hz : z ≤ m) (hm : m < 41) (ht : h[t]? = some (.dic (entR (kK m) (kV kd m) (m + 1)))) (hw : h[w]? = some (.lst ((wsP kd m z).map prV))) (htw : t ≠ w) (sy : est kd m 0 = est kd 0 m) :
    ∃ y12 h', bIn c [S, Kk, Pp, some (.str (ks kd)), some (.int (m : Int)), some (.ref t), some (.int (wayP m z)), some (.ref w), some (.int (z : Int)), x9, x10, x11, x12] h = .nx [S, Kk, Pp, some (.str (ks kd)), some (.int (m : Int)), some (.ref t), some (.int (wayP m (z + 1))), some (.ref w), some (.int (z : Int)), some (.int ((m : Int) - (z : Int))), some (prV (est kd z (m - z))), some (.ref (h.length + 1)), y12] h' ∧
      h'[t]? = some (.dic (entR (kK m) (kV kd m) (m + 1))) ∧ h'[w]? = some (.lst ((wsP kd m (z + 1)).map prV)) := by
  have tl : t < h.length := (List.getElem?_eq_some_iff.mp ht).1
  have wl : w < h.length := (List.getElem?_eq_some_iff.mp hw).1
  have z2 : (2 : Nat) ≤ sizeLine := by decide
  have T0 := told_at kd m z h t ht hz
  have kk : PV.tup [.int (z : Int), .int ((m : Int) - (z : Int))] = kK m z := rfl
  have vv : kV kd m z = prV (est kd z (m - z)) := rfl
  -- the heap behind the two lists
  obtain ⟨h2, eh2⟩ : ∃ h2, h2 = h ++ [.lst [.int 0, .int 1]] ++ [.lst [prV (nxt kd z (m - z) false), prV (nxt kd z (m - z) true)]] := ⟨_, rfl⟩
  have B := both_ok c (.str (ks kd)) (z : Int) ((m : Int) - (z : Int)) (prV (nxt kd z (m - z) false)) (prV (nxt kd z (m - z) true)) h S Kk Pp (some (.int (m : Int))) (some (.ref t)) (some (.int (wayP m z))) (some (.ref w)) (some (prV (est kd z (m - z)))) x11 x12 C.x0 C.x1
  rw [← eh2] at B
  have l2 : h2.length = h.length + 2 := by rw [eh2]; simp
  have ht2 : h2[t]? = some (.dic (entR (kK m) (kV kd m) (m + 1))) := by
    rw [eh2, List.append_assoc, List.getElem?_append_left tl]; exact ht
  have hw2 : h2[w]? = some (.lst ((wsP kd m z).map prV)) := by
    rw [eh2, List.append_assoc, List.getElem?_append_left wl]; exact hw
  have hb2 : h2[h.length + 1]? = some (.lst [prV (nxt kd z (m - z) false), prV (nxt kd z (m - z) true)]) := by
    rw [eh2, List.getElem?_append_right (by simp)]; simp
  have s0 : subP (.ref (h.length + 1)) (.int 0) h2 = some (prV (nxt kd z (m - z) false), h2) := sub_lst hb2 rfl
  have s1 : subP (.ref (h.length + 1)) (.int 1) h2 = some (prV (nxt kd z (m - z) true), h2) := sub_lst hb2 rfl
  have big : (100 : Nat) < sizeLine := by decide
  have lw : ((wsP kd m z).map prV).length < sizeLine := by
    unfold wsP
    rw [List.length_map, List.length_map, List.length_range]
    omega
  obtain ⟨ap, il⟩ := app_ok (y := prV (wt kd m z)) hw2 lw
  obtain ⟨h3, eh3⟩ : ∃ h3, h3 = h2.set w (.lst ((wsP kd m z).map prV ++ [prV (wt kd m z)])) := ⟨_, rfl⟩
  rw [← eh3] at ap
  have ht3 : h3[t]? = some (.dic (entR (kK m) (kV kd m) (m + 1))) := by
    rw [eh3, List.getElem?_set_ne (Ne.symm htw)]; exact ht2
  have hw3 : h3[w]? = some (.lst ((wsP kd m (z + 1)).map prV)) := by
    rw [eh3, List.getElem?_set_self (by omega), wsP_succ, List.map_append]; rfl
  have Tm := told_at kd m m h3 t ht3 (Nat.le_refl _)
  have T00 := told_at kd m 0 h3 t ht3 (Nat.zero_le _)
  have km : kK m m = .tup [.int (m : Int), .int 0] := by unfold kK; rw [Int.sub_self]
  have k0 : kK m 0 = .tup [.int 0, .int (m : Int)] := by unfold kK; simp
  rw [km, show kV kd m m = prV (est kd m 0) by unfold kV; rw [Nat.sub_self]] at Tm
  rw [k0, show kV kd m 0 = prV (est kd 0 m) by unfold kV; rw [Nat.sub_zero], ← sy] at T00
  have a1 := C.a1 h
  have e1 := C.e1 h
  have e2 := C.e2 h
  have a2 := C.a2 h2
  have mu := C.mu h2
  have le := C.le h3
  have n1 := ne_pr (est kd z (m - z)) h
  have n2 : cmpP .NotEq (prV (1, 1)) (.tup [.int 1, .int 1]) h2 = some (.bl false, h2) := ne_pr (1, 1) h2
  have n3 := ne_pr (est kd m 0) h3
  have m1 : mulOk (wayP m z) ((m : Int) - (z : Int)) = true := mulOk_small (.inr (by omega))
  have d1 : Builtin.divisionGoesByPylong (wayP m z * ((m : Int) - (z : Int))) ((z : Int) + 1) = false := divOk_small (small4000 (by omega))
  have d2 : ((z : Int) + 1) ≠ 0 := by omega
  have wy : wayP m (z + 1) = (wayP m z * ((m : Int) - (z : Int))).fdiv ((z : Int) + 1) := rfl
  have fd : ∀ h, binV .FloorDiv (.int (wayP m z * ((m : Int) - (z : Int)))) (.int ((z : Int) + 1)) h = some (.int (wayP m (z + 1)), h) := fun h => by
    show (if ((z : Int) + 1) ≠ 0 ∧ Builtin.divisionGoesByPylong (wayP m z * ((m : Int) - (z : Int))) ((z : Int) + 1) = false then some (PV.int ((wayP m z * ((m : Int) - (z : Int))).fdiv ((z : Int) + 1)), h) else none) = _
    rw [if_pos ⟨d2, d1⟩, wy]
  have fm : ∀ h, binV .Mult (.int (wayP m z)) (.int ((m : Int) - (z : Int))) h = some (.int (wayP m z * ((m : Int) - (z : Int))), h) := fun h => by
    show (if mulOk (wayP m z) ((m : Int) - (z : Int)) = true then some (PV.int (wayP m z * ((m : Int) - (z : Int))), h) else none) = _
    rw [if_pos m1]
  rw [vv] at T0
  refine ⟨x12, h3, ?_, ht3, hw3⟩
  clear C
  generalize (wsP kd m z).map prV = XS at *
  generalize (wsP kd m (z + 1)).map prV = XS2 at *
  generalize wayP m (z + 1) = W1 at *
  generalize wayP m z * ((m : Int) - (z : Int)) = W2 at *
  generalize wayP m z = W0 at *
  generalize prV (est kd z (m - z)) = A0 at *
  generalize prV (est kd (z + 1) (m - z)) = A1 at *
  generalize prV (est kd z (m - z + 1)) = A2 at *
  generalize prV (nxt kd z (m - z) false) = N0 at *
  generalize prV (nxt kd z (m - z) true) = N1 at *
  generalize prV (est kd m 0) = A3 at *
  generalize prV (wt kd m z) = A4 at *
  generalize ks kd = K0 at *
  have add1 : ∀ (i j : Int) (h : MH), binV .Add (.int i) (.int j) h = some (.int (i + j), h) := fun _ _ _ => rfl
  have sub1 : ∀ (i j : Int) (h : MH), binV .Sub (.int i) (.int j) h = some (.int (i - j), h) := fun _ _ _ => rfl
  unfold bIn
  refine seq_nx (ρ' := [S, Kk, Pp, some (.str K0), some (.int (m : Int)), some (.ref t), some (.int W0), some (.ref w), some (.int (z : Int)), some (.int ((m : Int) - (z : Int))), x10, x11, x12]) (h' := h) ?_ ?_
  · simp only [sAsg, gSet, dBin, dVar, Res.bind, Res.thn, Res.of, List.getElem?_cons_zero, List.getElem?_cons_succ, List.set, sub1]
  refine seq_nx (ρ' := [S, Kk, Pp, some (.str K0), some (.int (m : Int)), some (.ref t), some (.int W0), some (.ref w), some (.int (z : Int)), some (.int ((m : Int) - (z : Int))), some A0, x11, x12]) (h' := h) ?_ ?_
  · simp only [sAsg, gSet, dBin, dOf, tupV, lCons, lNil, dVar, Res.bind, Res.thn, Res.of, List.getElem?_cons_zero, List.getElem?_cons_succ, List.set, List.length_cons, List.length_nil, z2, if_true, kk, T0]
  refine seq_guard (h1 := h) ?_ ?_
  · simp only [bVal, dBin, dCall, lCons, lNil, dVar, dVal, Res.bind, Res.of, List.getElem?_cons_zero, List.getElem?_cons_succ, add1, e1, e2, a1, n1]
  refine seq_nx (ρ' := [S, Kk, Pp, some (.str K0), some (.int (m : Int)), some (.ref t), some (.int W0), some (.ref w), some (.int (z : Int)), some (.int ((m : Int) - (z : Int))), some A0, some (.ref (h.length + 1)), x12]) (h' := h2) ?_ ?_
  · unfold sAsg
    rw [B]
    simp only [Res.thn, gSet, List.set]
  refine seq_guard (h1 := h2) ?_ ?_
  · simp only [bVal, dBin, dCall, dOf, tupV, lCons, lNil, dVar, dVal, Res.bind, Res.of, List.getElem?_cons_zero, List.getElem?_cons_succ, s0, s1, a2, List.length_cons, List.length_nil, z2, if_true, n2]
  refine seq_nx (ρ' := [S, Kk, Pp, some (.str K0), some (.int (m : Int)), some (.ref t), some (.int W0), some (.ref w), some (.int (z : Int)), some (.int ((m : Int) - (z : Int))), some A0, some (.ref (h.length + 1)), x12]) (h' := h3) ?_ ?_
  · simp only [sDrop, dMtd, dCall, dOf, tupV, lCons, lNil, dVar, dVal, Res.bind, Res.thn, Res.of, List.getElem?_cons_zero, List.getElem?_cons_succ, List.length_cons, List.length_nil, z2, if_true, il, mu, ap]
  refine seq_nx (ρ' := [S, Kk, Pp, some (.str K0), some (.int (m : Int)), some (.ref t), some (.int W1), some (.ref w), some (.int (z : Int)), some (.int ((m : Int) - (z : Int))), some A0, some (.ref (h.length + 1)), x12]) (h' := h3) ?_ ?_
  · simp only [sAsg, gSet, dBin, dVar, dVal, Res.bind, Res.thn, Res.of, List.getElem?_cons_zero, List.getElem?_cons_succ, List.set, add1, fm, fd]
  refine (if_no (h1 := h3) ?_).trans rfl
  simp only [bOr, bTru, bVal, dBin, dCall, dOf, tupV, lCons, lNil, dVar, dVal, Res.bind, Res.of, List.getElem?_cons_zero, List.getElem?_cons_succ, List.length_cons, List.length_nil, z2, if_true, Tm, T00, le, truV, n3]
end Lw

namespace Lw
open PySem PySem.Spec PyProof.Rows L2 Mi
structure Fo (c : Nat → List PV → MH → Res PV) (ns : List Int) : Prop where
  op : ∀ (k : Nat) h, ∃ g s : Int, 0 ≤ g ∧ 0 ≤ s ∧ c 12 [.rol (ns.map .int), .int (k : Int)] h = .ok (.ref h.length) (h ++ [.lst [.int g, .int s]])
  dr : ∀ (h : MH) (p : Nat) (g s M : Int), h[p]? = some (.lst [.int g, .int s]) → 0 ≤ g → 0 ≤ s → 0 < M → M.natAbs < 2 ^ 60 → ∃ d g' s' : Int, 0 ≤ d ∧ d < M ∧ 0 ≤ g' ∧ 0 ≤ s' ∧ c 13 [.ref p, .int M] h = .ok (.int d) (h.set p (.lst [.int g', .int s']))
  pk : ∀ (h : MH) (p q : Nat) (g s : Int), h[p]? = some (.lst [.int g, .int s]) → 0 ≤ g → 0 ≤ s → p ≠ q → h[q]? = some (.lst [.str "one", .str "half"]) → ∃ (kd : Bool) (g' s' : Int), 0 ≤ g' ∧ 0 ≤ s' ∧ c 14 [.ref p, .ref q] h = .ok (.str (ks kd)) (h.set p (.lst [.int g', .int s']))
  es : ∀ (kd : Bool) (m : Nat) h, m ≤ 42 → c 11 [.str (ks kd), .int (m : Int)] h = .ok (.ref h.length) (h ++ [.dic (entR (kK m) (kV kd m) (m + 1))])
  su : ∀ (ws : List (Int × Int)) (q : Nat) (h : MH), h[q]? = some (.lst (ws.map prV)) → (∀ w ∈ ws, Bd w) → (∀ i ≤ ws.length, Bd (sumP (ws.take i))) → c 19 [.ref q] h = .ok (prV (sumP ws)) h
  ra : ∀ (t b : Int) h, 0 < b → b.natAbs < 2 ^ 4000 → c 15 [.int t, .int b] h = .ok (prV (frP t b)) h
  cs : ∀ kd m z, m < 41 → z ≤ m → Cs c kd m z
theorem fo_of (n : Nat) (ns : List Int) : Fo (cc (n + 4)) ns := by
  have dr : ∀ (j : Nat) (h : MH) (p : Nat) (g s M : Int), h[p]? = some (.lst [.int g, .int s]) → 0 ≤ g → 0 ≤ s → 0 < M → M.natAbs < 2 ^ 60 → ∃ d g' s' : Int, 0 ≤ d ∧ d < M ∧ 0 ≤ g' ∧ 0 ≤ s' ∧ cc (j + 1) 13 [.ref p, .int M] h = .ok (.int d) (h.set p (.lst [.int g', .int s'])) := fun j h p g s M e g0 s0 hM hM2 => by
    rw [show cc (j + 1) 13 = runB 3 bDraw from phi_call (b := fun _ => bDraw) rfl b13_eq]
    exact draw_ok h p g s M e g0 s0 hM hM2
  refine ⟨fun k h => ?_, dr (n + 3), fun h p q g s e g0 s0 hpq eq => ?_, fun kd m h hm => estimates_ok n kd m h hm, fun ws q h e hw hs => sum_ok (n + 1) ws q h e hw hs, fun t b h hb hb2 => ratio_ok (n + 3) t b h hb hb2, fun kd m z hm hz => cs_of n kd m z hm hz⟩
  · rw [show cc (n + 4) 12 = runB 4 bOpened from phi_call (b := fun _ => bOpened) rfl b12_eq]
    exact opened_ok ns k h
  · obtain ⟨d, g', s', d0, d1, g1, s1, ed⟩ := dr (n + 2) h p g s 2 e g0 s0 (by decide) (by decide)
    refine ⟨decide (d = 0), g', s', g1, s1, ?_⟩
    rw [show cc (n + 4) 14 = runB 2 (bPick (cc (n + 3) 13)) from phi_call (b := fun c => bPick (c 13)) rfl b14_eq]
    have eq' : (h.set p (.lst [.int g', .int s']))[q]? = some (.lst [.str "one", .str "half"]) := by rw [List.getElem?_set_ne hpq]; exact eq
    rcases (show d = 0 ∨ d = 1 by omega) with rfl | rfl
    · exact pick_ok _ h _ p q _ 0 _ eq ed eq' rfl (by simp)
    · exact pick_ok _ h _ p q _ 1 _ eq ed eq' rfl (by simp)
def bOut (c : Nat → List PV → MH → Res PV) : DenS :=
 (sSeq (sAsg (dCall (c 12) (lCons (dVar 0) (lCons (dVar 1) lNil))) (gSet 2))
 (sSeq (sAsg (dOf tupV (lCons (dCall (c 14) (lCons (dVar 2) (lCons (dOf lstV (lCons (dVal (.str "one")) (lCons (dVal (.str "half")) lNil))) lNil))) (lCons (dCall (c 13) (lCons (dVar 2) (lCons (dVal (.int 41)) lNil))) lNil))) (gTupD [gSet 3, gSet 4]))
 (sSeq (sPar3 5 6 7 (lCons (dCall (c 11) (lCons (dVar 3) (lCons (dVar 4) lNil))) (lCons (dVal (.int 1)) (lCons (dOf lstV lNil) lNil))))
 (sSeq (sFor (iRange1 (lCons (dBin (binV .Add) (dVar 4) (dVal (.int 1))) lNil)) (gSet 8) (bIn c))
 (sSeq (sIf (bVal (dBin (cmpP .NotEq) (dCall (c 19) (lCons (dVar 7) lNil)) (dOf tupV (lCons (dVal (.int 1)) (lCons (dVal (.int 1)) lNil)))))
 (sRet (dVal (.bl false)))
 sSkip)
 (sIf (bAnd (bVal (dBin (cmpP .Eq) (dVar 3) (dVal (.str "one")))) (bVal (dBin (cmpP .NotEq) (dVar 7) (dBin (binV .Mult) (dOf lstV (lCons (dCall (c 15) (lCons (dVal (.int 1)) (lCons (dBin (binV .Add) (dVar 4) (dVal (.int 1))) lNil))) lNil)) (dBin (binV .Add) (dVar 4) (dVal (.int 1)))))))
 (sRet (dVal (.bl false)))
 sSkip))))))
theorem b20_is (c : Nat → List PV → MH → Res PV) : b20 c = sSeq (sFor (iRange1 (lCons (dOf (biOp .max) (lCons (dVal (.int 1)) (lCons (dOf (biOp .min) (lCons (dOf (biOp .len) (lCons (dVar 0) lNil)) (lCons (dVal (.int 5)) lNil))) lNil))) lNil)) (gSet 1) (bOut c)) (sRet (dVal (.bl true))) := rfl
theorem goodL_pr : ∀ ws : List (Int × Int), goodL 9 (ws.map prV) = true
  | [] => by simp [goodL]
  | w :: ws => by
    rw [List.map_cons, goodL, good_pr, goodL_pr ws]
    rfl
theorem flat_one (v : PV) : ∀ n : Nat, (List.replicate n [v]).flatten = List.replicate n v
  | 0 => rfl
  | n + 1 => by rw [List.replicate_succ, List.flatten_cons, flat_one v n, List.replicate_succ]; rfl
theorem last_ok (c : Nat → List PV → MH → Res PV) (ns : List Int) (F : Fo c ns) (kd : Bool) (m w : Nat) (hm : m < 41) (r0 r1 r2 r5 r6 r8 r9 r10 r11 r12 : Option PV) (h : MH) (hw : h[w]? = some (.lst ((wsP kd m (m + 1)).map prV))) :
    ∃ h', (bAnd (bVal (dBin (cmpP .Eq) (dVar 3) (dVal (.str "one")))) (bVal (dBin (cmpP .NotEq) (dVar 7) (dBin (binV .Mult) (dOf lstV (lCons (dCall (c 15) (lCons (dVal (.int 1)) (lCons (dBin (binV .Add) (dVar 4) (dVal (.int 1))) lNil))) lNil)) (dBin (binV .Add) (dVar 4) (dVal (.int 1))))))) [r0, r1, r2, some (.str (ks kd)), some (.int (m : Int)), r5, r6, some (.ref w), r8, r9, r10, r11, r12] h = .ok false h' := by
  have q := kq kd h
  cases kd with
  | false =>
    refine ⟨h, ?_⟩
    generalize ks false = K0 at q ⊢
    simp only [bAnd, bVal, dBin, dVar, dVal, Res.bind, Res.of, List.getElem?_cons_zero, List.getElem?_cons_succ, q]
  | true =>
    have e1 := F.ra 1 ((m : Int) + 1) h (by omega) (small4000 (by omega))
    have wl : w < h.length := (List.getElem?_eq_some_iff.mp hw).1
    have all : (wsP true m (m + 1)).map prV = List.replicate (m + 1) (prV (frP 1 ((m : Int) + 1))) := by
      rw [List.eq_replicate_iff]
      refine ⟨by simp [wsP], fun b hb => ?_⟩
      obtain ⟨x, hx, rfl⟩ := List.mem_map.mp hb
      obtain ⟨z, hz, rfl⟩ := List.mem_map.mp hx
      rw [(okz true m z hm (by have := List.mem_range.mp hz; omega)).one rfl]
    obtain ⟨h2, eh2⟩ : ∃ h2, h2 = h ++ [.lst [prV (frP 1 ((m : Int) + 1))]] := ⟨_, rfl⟩
    obtain ⟨h3, eh3⟩ : ∃ h3, h3 = h2 ++ [.lst (List.replicate (m + 1) [prV (frP 1 ((m : Int) + 1))]).flatten] := ⟨_, rfl⟩
    have l2 : h2.length = h.length + 1 := by rw [eh2]; simp
    have z1 : (1 : Nat) ≤ sizeLine := by decide
    have el : lstOf (.ref h.length) h2 = some (h.length, [prV (frP 1 ((m : Int) + 1))]) := (lst_at (by rw [eh2]; simp)).2.1
    have mt : binV .Mult (.ref h.length) (.int ((m : Int) + 1)) h2 = some (.ref h2.length, h3) := by
      show (match lstOf (.ref h.length) h2 with
        | some (_, a) => if -(2 ^ 63) ≤ ((m : Int) + 1) ∧ ((m : Int) + 1) < 2 ^ 63 ∧ a.length * ((m : Int) + 1).toNat ≤ sizeLine then Mi.alloc (.lst (List.replicate ((m : Int) + 1).toNat a).flatten) h2 else none
        | none => none) = _
      have big : (100 : Nat) < sizeLine := by decide
      rw [el]
      have tn : ((m : Int) + 1).toNat = m + 1 := by omega
      simp only [tn]
      rw [if_pos ⟨by omega, by omega, by simp; omega⟩, eh3]
      rfl
    have ww : h3[w]? = some (.lst ((wsP true m (m + 1)).map prV)) := by
      rw [eh3, eh2, List.append_assoc, List.getElem?_append_left wl]; exact hw
    have rr : h3[h2.length]? = some (.lst ((wsP true m (m + 1)).map prV)) := by
      rw [eh3, all, flat_one]; simp
    have ne := cmp_ne_lst ww rr (goodL_pr _) (goodL_pr _)
    refine ⟨h3, ?_⟩
    have add1 : ∀ (i j : Int) (h : MH), binV .Add (.int i) (.int j) h = some (.int (i + j), h) := fun _ _ _ => rfl
    have lv : lstV [prV (frP 1 ((m : Int) + 1))] h = some (.ref h.length, h2) := by
      rw [eh2]
      simp only [lstV, Mi.alloc, List.length_cons, List.length_nil, z1, if_true]
    simp only [decide_true, Bool.not_true] at ne
    generalize prV (frP 1 ((m : Int) + 1)) = A at e1 lv
    generalize ks true = K0 at q ⊢
    simp only [bAnd, bVal, dBin, dOf, dCall, lCons, lNil, dVar, dVal, Res.bind, Res.of, List.getElem?_cons_zero, List.getElem?_cons_succ, q, add1, e1, lv, mt, ne]
end Lw

namespace Lw
open PySem PySem.Spec PyProof.Rows L2 Mi
theorem out_ok (c : Nat → List PV → MH → Res PV) (ns : List Int) (F : Fo c ns) (k : Nat) (r2 r3 r4 r5 r6 r7 r8 r9 r10 r11 r12 : Option PV) (h : MH) :
    ∃ s2 s3 s4 s5 s6 s7 s8 s9 s10 s11 s12 h', bOut c [some (.rol (ns.map .int)), some (.int (k : Int)), r2, r3, r4, r5, r6, r7, r8, r9, r10, r11, r12] h = .nx [some (.rol (ns.map .int)), some (.int (k : Int)), s2, s3, s4, s5, s6, s7, s8, s9, s10, s11, s12] h' := by
  obtain ⟨g, s, g0, s0, o1⟩ := F.op k h
  obtain ⟨h1, eh1⟩ : ∃ h1, h1 = h ++ [.lst [.int g, .int s]] := ⟨_, rfl⟩
  rw [← eh1] at o1
  have l1 : h1.length = h.length + 1 := by rw [eh1]; simp
  obtain ⟨h2, eh2⟩ : ∃ h2, h2 = h1 ++ [.lst [.str "one", .str "half"]] := ⟨_, rfl⟩
  have l2 : h2.length = h.length + 2 := by rw [eh2]; simp [l1]
  have p2 : h2[h.length]? = some (.lst [.int g, .int s]) := by rw [eh2, eh1, List.append_assoc, List.getElem?_append_right (Nat.le_refl _)]; simp
  have q2 : h2[h1.length]? = some (.lst [.str "one", .str "half"]) := by rw [eh2]; simp
  obtain ⟨kd, g1, s1, g10, s10, pk⟩ := F.pk h2 h.length h1.length g s p2 g0 s0 (by omega) q2
  obtain ⟨h3, eh3⟩ : ∃ h3, h3 = h2.set h.length (.lst [.int g1, .int s1]) := ⟨_, rfl⟩
  rw [← eh3] at pk
  have l3 : h3.length = h.length + 2 := by rw [eh3, List.length_set, l2]
  have p3 : h3[h.length]? = some (.lst [.int g1, .int s1]) := by rw [eh3, List.getElem?_set_self (by omega)]
  obtain ⟨d, g2, s2, d0, d1, g20, s20, dr⟩ := F.dr h3 h.length g1 s1 41 p3 g10 s10 (by decide) (by decide)
  obtain ⟨m, rfl⟩ : ∃ m : Nat, d = (m : Int) := ⟨d.toNat, by omega⟩
  have hm : m < 41 := by omega
  obtain ⟨h4, eh4⟩ : ∃ h4, h4 = h3.set h.length (.lst [.int g2, .int s2]) := ⟨_, rfl⟩
  rw [← eh4] at dr
  have l4 : h4.length = h.length + 2 := by rw [eh4, List.length_set, l3]
  have es := F.es kd m h4 (by omega)
  obtain ⟨h5, eh5⟩ : ∃ h5, h5 = h4 ++ [.dic (entR (kK m) (kV kd m) (m + 1))] := ⟨_, rfl⟩
  rw [← eh5] at es
  have l5 : h5.length = h.length + 3 := by rw [eh5]; simp [l4]
  obtain ⟨h6, eh6⟩ : ∃ h6, h6 = h5 ++ [.lst []] := ⟨_, rfl⟩
  have t6 : h6[h4.length]? = some (.dic (entR (kK m) (kV kd m) (m + 1))) := by
    rw [eh6, List.getElem?_append_left (by omega), eh5]; simp
  have w6 : h6[h5.length]? = some (.lst ((wsP kd m 0).map prV)) := by rw [eh6]; simp [wsP]
  have z2 : (2 : Nat) ≤ sizeLine := by decide
  have z0 : (0 : Nat) ≤ sizeLine := by decide
  have add1 : ∀ (i j : Int) (h : MH), binV .Add (.int i) (.int j) h = some (.int (i + j), h) := fun _ _ _ => rfl
  have cs : ∀ z, z ≤ m → Cs c kd m z := fun z hz => F.cs kd m z hm hz
  have sy := (okm kd m hm).sym
  have okM := okm kd m hm
  have kk2 : h2 = h1 ++ [MO.lst [.str "one", .str "half"]] := eh2
  have body : ∃ s8 s9 s10 s11 s12 h', bOut c [some (.rol (ns.map .int)), some (.int (k : Int)), r2, r3, r4, r5, r6, r7, r8, r9, r10, r11, r12] h = .nx [some (.rol (ns.map .int)), some (.int (k : Int)), some (.ref h.length), some (.str (ks kd)), some (.int (m : Int)), some (.ref h4.length), some (.int (wayP m (m + 1))), some (.ref h5.length), s8, s9, s10, s11, s12] h' := by
    -- the inner loop
    have hl : (rngV 0 ((m : Int) + 1)).length = m + 1 := by rw [rngV_len]; omega
    have e0 : (iRange1 (lCons (dBin (binV .Add) (dVar 4) (dVal (.int 1))) lNil)) [some (.rol (ns.map .int)), some (.int (k : Int)), some (.ref h.length), some (.str (ks kd)), some (.int (m : Int)), some (.ref h4.length), some (.int (wayP m 0)), some (.ref h5.length), r8, r9, r10, r11, r12] h6 = .ok (.vals (rngV 0 ((m : Int) + 1))) h6 :=
      rng1 (by simp only [dBin, dVar, dVal, lCons, lNil, Res.bind, Res.of, List.getElem?_cons_zero, List.getElem?_cons_succ, add1]) (by omega)
    obtain ⟨ρ', h', f1, ⟨s8, s9, s10, s11, s12, rfl⟩, ft, fw⟩ := for_all (xs := rngV 0 ((m : Int) + 1)) (g := gSet 8) (b := bIn c) (St := fun i ρ h' => (∃ x8 x9 x10 x11 x12, ρ = [some (.rol (ns.map .int)), some (.int (k : Int)), some (.ref h.length), some (.str (ks kd)), some (.int (m : Int)), some (.ref h4.length), some (.int (wayP m i)), some (.ref h5.length), x8, x9, x10, x11, x12]) ∧ h'[h4.length]? = some (.dic (entR (kK m) (kV kd m) (m + 1))) ∧ h'[h5.length]? = some (.lst ((wsP kd m i).map prV)))
      (fun i v ρ h' hv st => by
        obtain ⟨⟨x8, x9, x10, x11, x12, rfl⟩, ht, hw⟩ := st
        obtain ⟨rfl, hi⟩ := rngV_get hv
        rw [Int.zero_add]
        obtain ⟨y12, h'', e, ht', hw'⟩ := inner_ok c kd m i h4.length h5.length (some (.rol (ns.map .int))) (some (.int (k : Int))) (some (.ref h.length)) x9 x10 x11 x12 h' (cs i (by omega)) (by omega) hm ht hw (by omega) sy
        exact ⟨_, h'', .inl e, ⟨_, _, _, _, _, rfl⟩, ht', hw'⟩) (m + 1) 0 [some (.rol (ns.map .int)), some (.int (k : Int)), some (.ref h.length), some (.str (ks kd)), some (.int (m : Int)), some (.ref h4.length), some (.int (wayP m 0)), some (.ref h5.length), r8, r9, r10, r11, r12] h6 (by rw [hl]; omega) ⟨⟨_, _, _, _, _, rfl⟩, t6, w6⟩
    rw [hl] at fw
    have su := F.su (wsP kd m (m + 1)) h5.length h' fw (fun w hw => by
      obtain ⟨z, hz, rfl⟩ := List.mem_map.mp hw
      exact (okz kd m z hm (by have := List.mem_range.mp hz; omega)).bw) (fun i hi => okM.sums i (by simpa [wsP] using hi))
    rw [okM.sum] at su
    have n2 : cmpP .NotEq (prV (1, 1)) (.tup [.int 1, .int 1]) h' = some (.bl false, h') := ne_pr (1, 1) h'
    obtain ⟨hE, le⟩ := last_ok c ns F kd m h5.length hm (some (.rol (ns.map .int))) (some (.int (k : Int))) (some (.ref h.length)) (some (.ref h4.length)) (some (.int (wayP m (m + 1)))) s8 s9 s10 s11 s12 h' fw
    refine ⟨s8, s9, s10, s11, s12, hE, ?_⟩
    rw [hl] at f1
    unfold bOut
    refine seq_nx (ρ' := [some (.rol (ns.map .int)), some (.int (k : Int)), some (.ref h.length), r3, r4, r5, r6, r7, r8, r9, r10, r11, r12]) (h' := h1) ?_ ?_
    · generalize ns.map PV.int = X at o1 ⊢
      simp only [sAsg, gSet, dCall, lCons, lNil, dVar, Res.bind, Res.thn, List.getElem?_cons_zero, List.getElem?_cons_succ, List.set, o1]
    generalize ns.map PV.int = X at *
    refine seq_nx (ρ' := [some (.rol X), some (.int (k : Int)), some (.ref h.length), some (.str (ks kd)), some (.int (m : Int)), r5, r6, r7, r8, r9, r10, r11, r12]) (h' := h4) ?_ ?_
    · have lv : lstV [.str "one", .str "half"] h1 = some (.ref h1.length, h2) := by
        rw [kk2]
        simp only [lstV, Mi.alloc, List.length_cons, List.length_nil, z2, if_true]
      clear f1 le
      generalize ks kd = K0 at *
      simp only [sAsg, gTupD, gSeq, gSet, dCall, dOf, tupV, lCons, lNil, dVar, dVal, Res.bind, Res.thn, Res.of, List.getElem?_cons_zero, List.getElem?_cons_succ, List.set, lv, pk, dr, List.length_cons, List.length_nil, z2, if_true]
    refine seq_nx (ρ' := [some (.rol X), some (.int (k : Int)), some (.ref h.length), some (.str (ks kd)), some (.int (m : Int)), some (.ref h4.length), some (.int (wayP m 0)), some (.ref h5.length), r8, r9, r10, r11, r12]) (h' := h6) ?_ ?_
    · have lv : lstV [] h5 = some (.ref h5.length, h6) := by
        rw [eh6]
        simp only [lstV, Mi.alloc, List.length_nil, z0, if_true]
      clear f1 le
      generalize ks kd = K0 at *
      simp only [sPar3, dCall, dOf, lCons, lNil, dVar, dVal, Res.bind, Res.thn, Res.of, List.getElem?_cons_zero, List.getElem?_cons_succ, List.set, es, lv, wayP]
    refine seq_nx (ρ' := [some (.rol X), some (.int (k : Int)), some (.ref h.length), some (.str (ks kd)), some (.int (m : Int)), some (.ref h4.length), some (.int (wayP m (m + 1))), some (.ref h5.length), s8, s9, s10, s11, s12]) (h' := h') ?_ ?_
    · rw [sFor_vals e0, hl]
      exact f1
    refine seq_guard (h1 := h') ?_ ?_
    · generalize prV (1, 1) = A at su n2
      simp only [bVal, dBin, dCall, dOf, tupV, lCons, lNil, dVar, dVal, Res.bind, Res.of, List.getElem?_cons_zero, List.getElem?_cons_succ, List.length_cons, List.length_nil, z2, if_true, su, n2]
    exact (if_no le).trans rfl
  obtain ⟨s8, s9, s10, s11, s12, h', e⟩ := body
  exact ⟨_, _, _, _, _, _, s8, s9, s10, s11, s12, h', e⟩
theorem plain (ns : List Int) (hl : ns.length ≤ 63) : ∃ h', (Phi tb fs 30 40).call 20 [.rol (ns.map .int)] [] = .ok (.bl true) h' := by
  have F := fo_of 35 ns
  rw [show (Phi tb fs 30 40).call 20 = runB 13 (b20 (cc 39)) from phi_call rfl b20_eq]
  generalize cc 39 = c at F ⊢
  have key : ∃ h', b20 c [some (.rol (ns.map .int)), none, none, none, none, none, none, none, none, none, none, none, none] [] = .rt (.bl true) h' := by
    rw [b20_is]
    have rg : ∃ K : Nat, K ≤ 5 ∧ (iRange1 (lCons (dOf (biOp .max) (lCons (dVal (.int 1)) (lCons (dOf (biOp .min) (lCons (dOf (biOp .len) (lCons (dVar 0) lNil)) (lCons (dVal (.int 5)) lNil))) lNil))) lNil)) [some (.rol (ns.map .int)), none, none, none, none, none, none, none, none, none, none, none, none] [] = .ok (.vals (rngV 0 (K : Int))) [] := by
      have e3 : ∀ h, biOp .len [.rol (ns.map .int)] h = some (.int (((ns.map PV.int).length : Nat) : Int), h) := fun _ => rfl
      obtain ⟨L, eL⟩ : ∃ L : Nat, (ns.map PV.int).length = L := ⟨_, rfl⟩
      rw [eL] at e3
      obtain ⟨K, eK, hK⟩ : ∃ K : Nat, (if (if (5 : Int) < (L : Int) then (5 : Int) else (L : Int)) > 1 then (if (5 : Int) < (L : Int) then (5 : Int) else (L : Int)) else 1) = (K : Int) ∧ K ≤ 5 := by
        refine ⟨((if (if (5 : Int) < (L : Int) then (5 : Int) else (L : Int)) > 1 then (if (5 : Int) < (L : Int) then (5 : Int) else (L : Int)) else 1) : Int).toNat, ?_, ?_⟩
        · split <;> (try split) <;> omega
        · split <;> (try split) <;> omega
      refine ⟨K, hK, rng1 ?_ (by omega)⟩
      have e4 : ∀ h, biOp .min [.int (L : Int), .int 5] h = some (.int (if (5 : Int) < (L : Int) then (5 : Int) else (L : Int)), h) := fun _ => rfl
      have e5 : ∀ h, biOp .max [.int 1, .int (if (5 : Int) < (L : Int) then (5 : Int) else (L : Int))] h = some (.int (K : Int), h) := fun h => by rw [← eK]; rfl
      generalize (if (5 : Int) < (L : Int) then (5 : Int) else (L : Int)) = Z at e4 e5
      generalize ns.map PV.int = X at e3 ⊢
      simp only [dOf, lCons, lNil, dVar, dVal, Res.bind, Res.of, List.getElem?_cons_zero, e3, e4, e5]
    obtain ⟨K, hK, e0⟩ := rg
    obtain ⟨ρ', h', f1, r1, r2, r3, r4, r5, r6, r7, r8, r9, r10, r11, r12, rfl⟩ := for_all (xs := rngV 0 (K : Int)) (g := gSet 1) (b := bOut c) (St := fun i ρ h' => ∃ r1 r2 r3 r4 r5 r6 r7 r8 r9 r10 r11 r12, ρ = [some (.rol (ns.map .int)), r1, r2, r3, r4, r5, r6, r7, r8, r9, r10, r11, r12])
      (fun i v ρ h' hv st => by
        obtain ⟨r1, r2, r3, r4, r5, r6, r7, r8, r9, r10, r11, r12, rfl⟩ := st
        obtain ⟨rfl, hi⟩ := rngV_get hv
        rw [Int.zero_add]
        obtain ⟨s2, s3, s4, s5, s6, s7, s8, s9, s10, s11, s12, h'', e⟩ := out_ok c ns F i r2 r3 r4 r5 r6 r7 r8 r9 r10 r11 r12 h'
        exact ⟨_, h'', .inl e, _, _, _, _, _, _, _, _, _, _, _, _, rfl⟩) (rngV 0 (K : Int)).length 0 [some (.rol (ns.map .int)), none, none, none, none, none, none, none, none, none, none, none, none] [] (by omega) ⟨_, _, _, _, _, _, _, _, _, _, _, _, rfl⟩
    refine ⟨h', seq_nx ((sFor_vals e0).trans f1) ?_⟩
    rfl
  obtain ⟨h', e⟩ := key
  exact ⟨[], run_val (h := []) (g := h') e rfl⟩
end Lw



open PySem PySem.W PySem.Calls PyProof.Rows
theorem PySem.Challenge.cw_weighedtrees_k10_whole_estimates_add_up_holds : PySem.Challenge.rw_weighedtrees_k10_whole_estimates_add_up.Holds := by
  w_on; o_law
  refine HandSHeadRun.head_any (r := Lw.R) (q := view Lw.R.prog [31]) (H := Lw.hk) (ob := Lw.ob) (M := 3000) (loose := Lw.loose) (d := HandSHeadRun.topDef Lw.R.prog 31) (kwd := []) Lw.ob_eq
    (by kernel_rfl) (fun s => by kernel_rfl) Lw.run (by kernel_rfl) (by kernel_rfl) (by kernel_rfl) (by rfl) (by first | assumption | decide +kernel) (by decide +kernel) ⟨rfl, rfl, rfl, rfl, rfl, by decide +kernel⟩ ?hw ?hc
  case hw => w_witness2
  case hc =>
    refine L2.walk_ofE (l := PySem.Challenge.rw_weighedtrees_k10_whole_estimates_add_up) (n := 63) (k := 40) (x := "_law_script") (CX := L2.CX0) rfl (by decide) (by kernel_rfl) ⟨rfl, by decide, by decide⟩ ?F (fun _ _ _ _ z => z)
    intro w mg fa h Y G hmg0
    obtain ⟨K, KX, c, hx⟩ := Y
    have hmg : mg ("law" : PySem.Str) = some (.ref fa) := by
      have e : (HandSHeadRun.topDef Lw.R.prog 31).name = ("law" : PySem.Str) := by kernel_rfl
      rw [← e]
      exact hmg0
    exact Mi.law_end (W := ⟨K, fun _ => 0, fun _ => ""⟩) (i := 20) (x := "_law_script") (f := Lw.f20) (name := "law") (Lw.facts KX G c hx) (Mi.free_all KX G c) rfl hmg rfl rfl rfl KX Lw.plain


