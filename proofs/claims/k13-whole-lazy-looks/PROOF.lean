import PyProof.Rows.All
import Wide.All
import OpenK.AllK
import Wide.FinOn
import HandS.ForMost
import HandS.Exc
import HandS.WordsExc
import HandS.Flow
import HandS.TupAny
import HandS.IsInst
import HandS.Defaults
import HandS.CallLocal
import HandS.CallSlots
import HandS.Small
import HandS.More
import HandS.HeadEnd
import HandS.HeadHook1
import HandS.HeadHook2
import HandS.HeadHook3
import HandS.Head0
import HandS.Head1
import HandS.Head2
import PySem.Challenge.RW_wakethrift_k13_whole_lazy_looks
set_option Elab.async false
set_option linter.all false
set_option maxRecDepth 100000
set_option autoImplicit false
set_option maxHeartbeats 0
/-! T2A: data as trees, a small heap of cells, the readings of Python's constructs as predicate transformers. No model here. -/
namespace T2
open PySem

/-! ### data -/
inductive Ty where
  | bool | int | str | tup | list | dict
  deriving DecidableEq
/-- a datum: tuples are trees; what can change stands in a cell -/
inductive D where
  | non | bl (b : Bool) | int (i : Int) | str (x : Str) | tup (xs : List D) | ref (a : Addr) | fn (i : Nat) | ty (t : Ty)
  deriving Inhabited
abbrev Ky := Sum Int Str
/-- a cell: a list, a list that is only read, a dict with plain keys, a dict with keys that are tuples of plain ones, an object -/
inductive C where
  | lst (xs : List D) | frz (xs : List D) | dk (kvs : List (Ky × D)) | dt (kvs : List (List Ky × D)) | ins (c : Nat) (fs : List (Nat × D))
structure DH where
  f : Addr → Option C
  fin : ∃ n, ∀ a, n ≤ a → f a = none
theorem DH.ext' {h g : DH} (e : ∀ a, h.f a = g.f a) : h = g := by
  obtain ⟨f, _⟩ := h
  obtain ⟨f', _⟩ := g
  have : f = f' := funext e
  subst this
  rfl
def DH.upd (h : DH) (a : Addr) (c : C) : DH where
  f := fun b => if b = a then some c else h.f b
  fin := by
    obtain ⟨n, q⟩ := h.fin
    refine ⟨max n (a + 1), fun b hb => ?_⟩
    have h2 : n ≤ b := Nat.le_trans (Nat.le_max_left ..) hb
    have h3 : a + 1 ≤ b := Nat.le_trans (Nat.le_max_right ..) hb
    have h1 : b ≠ a := Nat.ne_of_gt h3
    simp [h1, q b h2]
def DH.emp : DH := ⟨fun _ => none, 0, fun _ _ => rfl⟩
section
variable {h h' : DH} {a b p : Addr} {c c' : C}
@[simp] theorem DH.upd_f_same : (h.upd a c).f a = some c := if_pos rfl
theorem DH.upd_f_ne (n : b ≠ a) : (h.upd a c).f b = h.f b := if_neg n
theorem DH.upd_f : (h.upd a c).f b = if b = a then some c else h.f b := rfl
@[simp] theorem DH.upd_upd : (h.upd a c).upd a c' = h.upd a c' := DH.ext' fun b => by
  simp only [DH.upd_f]
  split <;> rfl
theorem DH.upd_comm (n : a ≠ b) : (h.upd a c).upd b c' = (h.upd b c').upd a c := DH.ext' fun d => by
  simp only [DH.upd_f]
  by_cases h1 : d = b
  · by_cases h2 : d = a
    · exact absurd (h2.symm.trans h1) n
    · simp [h1, Ne.symm n]
  · by_cases h2 : d = a
    · simp [h2, n]
    · simp [h1, h2]
theorem DH.upd_id (e : h.f a = some c) : h.upd a c = h := DH.ext' fun d => by
  simp only [DH.upd_f]
  split
  · rename_i q
    rw [q, e]
  · rfl
theorem DH.fresh (h : DH) : ∃ p, h.f p = none := let ⟨n, q⟩ := h.fin; ⟨n, q n (Nat.le_refl _)⟩
@[simp] theorem all_fresh (h : DH) (X : Prop) : (∀ p, h.f p = none → X) ↔ X :=
  ⟨fun q => let ⟨p, e⟩ := h.fresh; q p e, fun q _ _ => q⟩
theorem ne_of_cells (e : h.f a = some c) (n : h.f b = none) : a ≠ b := fun q => by
  rw [q, n] at e
  cases e
/-- only what stood in h already -/
def gcTo (h h' : DH) : DH where
  f := fun a => if (h.f a).isSome then h'.f a else none
  fin := by
    obtain ⟨n, q⟩ := h.fin
    exact ⟨n, fun b hb => by simp [q b hb]⟩
theorem gcTo_f : (gcTo h h').f a = if (h.f a).isSome then h'.f a else none := rfl
@[simp] theorem gcTo_self : gcTo h h = h := DH.ext' fun a => by
  rw [gcTo_f]
  cases e : h.f a <;> simp
theorem gcTo_new (n : h.f p = none) : gcTo h (h'.upd p c) = gcTo h h' := DH.ext' fun a => by
  rw [gcTo_f, gcTo_f]
  by_cases e : a = p
  · simp [e, n]
  · rw [DH.upd_f_ne e]
theorem gcTo_old (n : (h.f p).isSome = true) : gcTo h (h'.upd p c) = (gcTo h h').upd p c := DH.ext' fun a => by
  rw [gcTo_f, DH.upd_f, DH.upd_f, gcTo_f]
  by_cases e : a = p
  · simp [e, n]
  · simp [e]
end
/-- an exception: its class by its number, its fields by theirs -/
structure Xc where
  cls : Nat
  fs : List (Nat × D)

/-! ### what values do -/
abbrev S := List (Option D)
abbrev QD := D → DH → Prop
abbrev QX := Xc → DH → Prop
abbrev EE := S → DH → QD → QX → Prop
abbrev AA := S → DH → (List D → DH → Prop) → QX → Prop
abbrev BB := S → DH → (Bool → DH → Prop) → QX → Prop
abbrev R1 := D → DH → QD → Prop
abbrev R2 := D → D → DH → QD → Prop
abbrev RL := List D → DH → QD → Prop
abbrev RM := D → List D → DH → QD → Prop
structure En where
  nx : S → DH → Prop
  rt : QD
  bk : S → DH → Prop
  ct : S → DH → Prop
  ex : Xc → S → DH → Prop
abbrev SS := En → S → DH → Prop
abbrev FnSem := List D → DH → QD → QX → Prop

def key? : D → Option Ky
  | .int i => some (.inl i)
  | .str x => some (.inr x)
  | _ => none
def keys? : List D → Option (List Ky)
  | [] => some []
  | d :: ds => match key? d, keys? ds with
    | some k, some ks => some (k :: ks)
    | _, _ => none
def ofKey : Ky → D
  | .inl i => .int i
  | .inr x => .str x
def ints? : List D → Option (List Int)
  | [] => some []
  | .int i :: ds => match ints? ds with
    | some is => some (i :: is)
    | none => none
  | _ :: _ => none
@[simp] theorem ints?_map (ns : List Int) : ints? (ns.map D.int) = some ns := by
  induction ns with
  | nil => rfl
  | cons n ns ih => simp [ints?, ih]
def bools? : List D → Option (List Bool)
  | [] => some []
  | .bl i :: ds => match bools? ds with
    | some is => some (i :: is)
    | none => none
  | _ :: _ => none
@[simp] theorem bools?_map (ns : List Bool) : bools? (ns.map D.bl) = some ns := by
  induction ns with
  | nil => rfl
  | cons n ns ih => simp [bools?, ih]
section
variable {κ : Type} [DecidableEq κ]
def getK : List (κ × D) → κ → Option D
  | [], _ => none
  | (q, d) :: r, k => if q = k then some d else getK r k
def setK (kvs : List (κ × D)) (k : κ) (d : D) : List (κ × D) :=
  if (kvs.any fun p => decide (p.1 = k)) = true then kvs.map fun p => if p.1 = k then (p.1, d) else p else kvs ++ [(k, d)]
def delK : List (κ × D) → κ → List (κ × D)
  | [], _ => []
  | (q, e) :: r, k => if q = k then delK r k else (q, e) :: delK r k
end

mutual
/-- equal as Python says (of data without cells) -/
def D.eqv : D → D → Bool
  | .non, .non => true
  | .bl a, .bl b => a == b
  | .bl a, .int j => decide ((if a then 1 else 0) = j)
  | .int i, .bl b => decide (i = (if b then 1 else 0))
  | .int i, .int j => decide (i = j)
  | .str x, .str y => decide (x = y)
  | .tup xs, .tup ys => eqvL xs ys
  | _, _ => false
def eqvL : List D → List D → Bool
  | [], [] => true
  | x :: xs, y :: ys => D.eqv x y && eqvL xs ys
  | _, _ => false
end
mutual
/-- plain data: no cell, no function, nested at most n deep -/
def D.plain : Nat → D → Bool
  | _, .non => true
  | _, .bl _ => true
  | _, .int _ => true
  | _, .str x => x.cps.all fun k => decide (k < 1114112)
  | n, .tup xs => match n with
    | 0 => false
    | n + 1 => plainL n xs
  | _, _ => false
def plainL : Nat → List D → Bool
  | _, [] => true
  | n, x :: xs => D.plain n x && plainL n xs
end
def flat : D → Bool
  | .non => true
  | .bl _ => true
  | .int _ => true
  | .str _ => true
  | _ => false
def flats (xs : List D) : Bool := xs.all flat

def lenOk (x : Str) : Prop := x.length ≤ sizeLine
def tru : D → DH → (Bool → Prop) → Prop
  | .non, _, Q => Q false
  | .bl b, _, Q => Q b
  | .int i, _, Q => Q (!decide (i = 0))
  | .str x, _, Q => x.length ≤ sizeLine ∧ Q (!decide (x.length = 0))
  | .tup xs, _, Q => Q (!xs.isEmpty)
  | .ref a, h, Q => match h.f a with
    | some (.lst xs) => Q (!xs.isEmpty)
    | some (.frz xs) => Q (!xs.isEmpty)
    | some (.dk kvs) => Q (!kvs.isEmpty)
    | _ => False
  | _, _, _ => False

/-- what a cell holds, if it is a list -/
def seqAt (h : DH) (a : Addr) : Option (List D) := match h.f a with
  | some (.lst xs) => some xs
  | some (.frz xs) => some xs
  | _ => none
/-- a tuple's or a list's items -/
def seq? (d : D) (h : DH) : Option (List D) := match d with
  | .tup xs => some xs
  | .ref a => seqAt h a
  | _ => none

def mulOk (i j : Int) : Prop := (-(2 ^ 64) < i ∧ i < 2 ^ 64) ∨ (-(2 ^ 64) < j ∧ j < 2 ^ 64)
def rAdd : R2
  | .int i, .int j, h, Q => Q (.int (i + j)) h
  | .str x, .str y, h, Q => x.length + y.length ≤ sizeLine ∧ Q (.str (x ++ y)) h
  | .tup xs, .tup ys, h, Q => xs.length + ys.length ≤ sizeLine ∧ Q (.tup (xs ++ ys)) h
  | .ref a, .ref b, h, Q => match h.f a, h.f b with
    | some (.lst xs), some (.lst ys) => xs.length + ys.length ≤ sizeLine ∧ ∀ p, h.f p = none → Q (.ref p) (h.upd p (.lst (xs ++ ys)))
    | _, _ => False
  | _, _, _, _ => False
def rSub : R2
  | .int i, .int j, h, Q => Q (.int (i - j)) h
  | _, _, _, _ => False
def rMul : R2
  | .int i, .int j, h, Q => mulOk i j ∧ Q (.int (i * j)) h
  | .ref a, .int k, h, Q => match h.f a with
    | some (.lst xs) => (-(2 ^ 63) ≤ k ∧ k < 2 ^ 63 ∧ xs.length * k.toNat ≤ sizeLine) ∧ ∀ p, h.f p = none → Q (.ref p) (h.upd p (.lst (List.replicate k.toNat xs).flatten))
    | _ => False
  | _, _, _, _ => False
/-- divisors above 0 only -/
def divOk (j : Int) : Prop := 0 < j ∧ j < 1073741824
def rDiv : R2
  | .int i, .int j, h, Q => divOk j ∧ Q (.int (i / j)) h
  | _, _, _, _ => False
def rMod : R2
  | .int i, .int j, h, Q => 0 < j ∧ Q (.int (i % j)) h
  | _, _, _, _ => False
def powOk (i j : Int) : Prop := 0 ≤ j ∧ j ≤ 1000000 ∧ i.natAbs < 2 ^ 64
def rPow : R2
  | .int i, .int j, h, Q => powOk i j ∧ Q (.int (i ^ j.toNat)) h
  | _, _, _, _ => False
def rNeg : R1
  | .int i, h, Q => Q (.int (-i)) h
  | _, _, _ => False

/-- lists of ints in the order of dictionaries -/
def lexI : List Int → List Int → Bool
  | [], [] => false
  | [], _ :: _ => true
  | _ :: _, [] => false
  | x :: xs, y :: ys => if x = y then lexI xs ys else decide (x < y)
def rLt : R2
  | .int i, .int j, h, Q => Q (.bl (decide (i < j))) h
  | .str x, .str y, h, Q => Q (.bl (decide (x.cps.toList < y.cps.toList))) h
  | .tup xs, .tup ys, h, Q => match ints? xs, ints? ys with
    | some ns, some ms => Q (.bl (lexI ns ms)) h
    | _, _ => False
  | _, _, _, _ => False
def rLe : R2
  | .int i, .int j, h, Q => Q (.bl (decide (i ≤ j))) h
  | _, _, _, _ => False
def rGt : R2
  | .int i, .int j, h, Q => Q (.bl (decide (j < i))) h
  | _, _, _, _ => False
def rGe : R2
  | .int i, .int j, h, Q => Q (.bl (decide (j ≤ i))) h
  | _, _, _, _ => False
def rEq : R2 := fun x y h Q => match x, y with
  | .int i, .int j => Q (.bl (decide (i = j))) h
  | .str i, .str j => Q (.bl (decide (i = j))) h
  | .bl i, .bl j => Q (.bl (i == j)) h
  | .ref a, .ref b => (match seqAt h a, seqAt h b with
    | some xs, some ys => D.plain 62 (.tup xs) = true ∧ D.plain 62 (.tup ys) = true ∧ Q (.bl (eqvL xs ys)) h
    | _, _ => False)
  | x, y => D.plain 62 x = true ∧ D.plain 62 y = true ∧ Q (.bl (D.eqv x y)) h
def rNe : R2 := fun x y h Q => rEq x y h fun d h' => match d with
  | .bl b => Q (.bl (!b)) h'
  | _ => False
def isNone : D → Bool
  | .non => true
  | _ => false
def rIs : R2
  | x, .non, h, Q => Q (.bl (isNone x)) h
  | _, _, _, _ => False
def rIsNot : R2
  | x, .non, h, Q => Q (.bl (!isNone x)) h
  | _, _, _, _ => False
def inL (x : D) (xs : List D) : Bool := xs.any fun y => D.eqv y x
def rIn : R2 := fun x y h Q => match y with
  | .str z => (match x with
    | .str w => (match w.cps.toList with
      | [c] => Q (.bl (decide (c ∈ z.cps.toList))) h
      | _ => False)
    | _ => False)
  | .tup ys => flat x = true ∧ flats ys = true ∧ Q (.bl (inL x ys)) h
  | .ref a => (match h.f a with
    | some (.lst ys) => flat x = true ∧ flats ys = true ∧ Q (.bl (inL x ys)) h
    | some (.frz ys) => flat x = true ∧ flats ys = true ∧ Q (.bl (inL x ys)) h
    | some (.dk kvs) => (match key? x with
      | some k => Q (.bl (getK kvs k).isSome) h
      | none => False)
    | some (.dt kvs) => (match x with
      | .tup xs => (match keys? xs with
        | some k => Q (.bl (getK kvs k).isSome) h
        | none => False)
      | _ => False)
    | _ => False)
  | _ => False
def rNotIn : R2 := fun x y h Q => rIn x y h fun d h' => match d with
  | .bl b => Q (.bl (!b)) h'
  | _ => False

/-- an item by its place, from the end if below 0 -/
def nth {α : Type} (xs : List α) (i : Int) : Option α :=
  if i < 0 then (if (xs.length : Int) + i < 0 then none else xs[((xs.length : Int) + i).toNat]?) else xs[i.toNat]?
def placeOf (n : Nat) (i : Int) : Option Nat :=
  if i < 0 then (if (n : Int) + i < 0 then none else some ((n : Int) + i).toNat) else if i < n then some i.toNat else none
def ixSeq (xs : List D) (y : D) (h : DH) (Q : QD) : Prop := match y with
  | .int i => (match nth xs i with
    | some d => Q d h
    | none => False)
  | _ => False
def rIx : R2 := fun x y h Q => match x with
  | .tup xs => ixSeq xs y h Q
  | .str z => z.length ≤ sizeLine ∧ (match y with
    | .int i => (match nth z.cps.toList i with
      | some c => Q (.str ⟨#[c]⟩) h
      | none => False)
    | _ => False)
  | .ref a => (match h.f a with
    | some (.lst xs) => ixSeq xs y h Q
    | some (.frz xs) => ixSeq xs y h Q
    | some (.dk kvs) => (match key? y with
      | some k => (match getK kvs k with
        | some d => Q d h
        | none => False)
      | none => False)
    | some (.dt kvs) => (match y with
      | .tup ys => (match keys? ys with
        | some k => (match getK kvs k with
          | some d => Q d h
          | none => False)
        | none => False)
      | _ => False)
    | _ => False)
  | _ => False
def clampI (n d : Nat) : Option Int → Nat
  | none => d
  | some v => if v < 0 then (v + (n : Int)).toNat else min v.toNat n
def cut {α : Type} (xs : List α) (lo hi : Option Int) : List α :=
  (xs.drop (clampI xs.length 0 lo)).take (clampI xs.length xs.length hi - clampI xs.length 0 lo)
def rSl (x : D) (lo hi : Option Int) (h : DH) (Q : QD) : Prop := match x with
  | .tup xs => Q (.tup (cut xs lo hi)) h
  | .ref a => (match seqAt h a with
    | some xs => ∀ p, h.f p = none → Q (.ref p) (h.upd p (.lst (cut xs lo hi)))
    | none => False)
  | _ => False

def tyOf (d : D) (h : DH) : Option Ty := match d with
  | .bl _ => some .bool
  | .int _ => some .int
  | .str _ => some .str
  | .tup _ => some .tup
  | .ref a => (match h.f a with
    | some (.lst _) => some .list
    | some (.frz _) => some .list
    | some (.dk _) => some .dict
    | some (.dt _) => some .dict
    | _ => none)
  | _ => none
def isa (a b : Ty) : Bool := decide (a = b) || (decide (a = .bool) && decide (b = .int))
/-- isinstance(x, t) -/
def bIsa : RL
  | [.non, .ty _], h, Q => Q (.bl false) h
  | [x, .ty t], h, Q => (match tyOf x h with
    | some u => Q (.bl (isa u t)) h
    | none => False)
  | _, _, _ => False
def bLen : RL
  | [.tup xs], h, Q => Q (.int xs.length) h
  | [.str x], h, Q => x.length ≤ sizeLine ∧ Q (.int x.length) h
  | [.ref a], h, Q => (match h.f a with
    | some (.lst xs) => Q (.int xs.length) h
    | some (.frz xs) => Q (.int xs.length) h
    | some (.dk kvs) => Q (.int kvs.length) h
    | _ => False)
  | _, _, _ => False
def bAbs : RL
  | [.int i], h, Q => Q (.int (if i < 0 then -i else i)) h
  | _, _, _ => False
/-- max and min of two ints; the first of equal ones -/
def bMax2 : RL
  | [.int i, .int j], h, Q => Q (.int (if j > i then j else i)) h
  | _, _, _ => False
def bMin2 : RL
  | [.int i, .int j], h, Q => Q (.int (if j < i then j else i)) h
  | _, _, _ => False
/-- of a list of ints -/
def bSum : RL := fun vs h Q => match vs with
  | [.ref a] => (match seqAt h a with
    | some xs => (match ints? xs with
      | some ns => Q (.int ns.sum) h
      | none => False)
    | none => False)
  | _ => False
def bAny : RL := fun vs h Q => match vs with
  | [.ref a] => (match seqAt h a with
    | some xs => (match bools? xs with
      | some ns => Q (.bl (ns.any id)) h
      | none => False)
    | none => False)
  | _ => False
def bAll : RL := fun vs h Q => match vs with
  | [.ref a] => (match seqAt h a with
    | some xs => (match bools? xs with
      | some ns => Q (.bl (ns.all id)) h
      | none => False)
    | none => False)
  | _ => False
/-- sorted of a list of ints -/
def bSorted : RL := fun vs h Q => match vs with
  | [.ref a] => (match seqAt h a with
    | some xs => (match ints? xs with
      | some ns => ns.length < 64 ∧ ∀ ms : List Int, ms.Perm ns → ms.Pairwise (· ≤ ·) → ∀ p, h.f p = none → Q (.ref p) (h.upd p (.lst (ms.map D.int)))
      | none => False)
    | none => False)
  | _ => False
def bInt : RL
  | [.int i], h, Q => Q (.int i) h
  | [.bl b], h, Q => Q (.int (if b then 1 else 0)) h
  | _, _, _ => False
def bTuple : RL
  | [.tup xs], h, Q => Q (.tup xs) h
  | [.ref a], h, Q => (match seqAt h a with
    | some xs => Q (.tup xs) h
    | none => False)
  | _, _, _ => False
def bList : RL := fun vs h Q => match vs with
  | [d] => (match seq? d h with
    | some xs => ∀ p, h.f p = none → Q (.ref p) (h.upd p (.lst xs))
    | none => False)
  | _ => False

/-! methods of built-in types -/
def mAppend : RM := fun x vs h Q => match x, vs with
  | .ref a, [d] => (match h.f a with
    | some (.lst xs) => xs.length < sizeLine ∧ Q .non (h.upd a (.lst (xs ++ [d])))
    | _ => False)
  | _, _ => False
def mExtend : RM := fun x vs h Q => match x, vs with
  | .ref a, [.ref b] => (match h.f a, h.f b with
    | some (.lst xs), some (.lst ys) => xs.length + ys.length ≤ sizeLine ∧ Q .non (h.upd a (.lst (xs ++ ys)))
    | _, _ => False)
  | _, _ => False
def mPop : RM := fun x vs h Q => match x, vs with
  | .ref a, [] => (match h.f a with
    | some (.lst xs) => (match xs.getLast? with
      | some d => Q d (h.upd a (.lst xs.dropLast))
      | none => False)
    | _ => False)
  | _, _ => False
def mPopAt : RM := fun x vs h Q => match x, vs with
  | .ref a, [.int i] => (match h.f a with
    | some (.lst xs) => -(2 ^ 63) ≤ i ∧ i < 2 ^ 63 ∧ (match placeOf xs.length i with
      | some k => (match xs[k]? with
        | some d => Q d (h.upd a (.lst (xs.eraseIdx k)))
        | none => False)
      | none => False)
    | _ => False)
  | _, _ => False

/-! ### expressions -/
def eVar (i : Nat) : EE := fun σ h Q _ => match σ[i]? with
  | some (some d) => Q d h
  | _ => False
def eC (d : D) : EE := fun _ h Q _ => Q d h
def eBin (r : R2) (a b : EE) : EE := fun σ h Q E => a σ h (fun x h1 => b σ h1 (fun y h2 => r x y h2 Q) E) E
def eUn (r : R1) (a : EE) : EE := fun σ h Q E => a σ h (fun x h1 => r x h1 Q) E
/-- a < b < c -/
def eChain (r s : R2) (a b c : EE) : EE := fun σ h Q E => a σ h (fun x h1 => b σ h1 (fun y h2 => r x y h2 fun z h3 => match z with
  | .bl true => c σ h3 (fun w h4 => s y w h4 Q) E
  | .bl false => Q (.bl false) h3
  | _ => False) E) E
/-- a and b, a or b, not a as values -/
def eAnd (a b : EE) : EE := fun σ h Q E => a σ h (fun x h1 => tru x h1 fun k => if k = true then b σ h1 Q E else Q x h1) E
def eOr (a b : EE) : EE := fun σ h Q E => a σ h (fun x h1 => tru x h1 fun k => if k = true then Q x h1 else b σ h1 Q E) E
def eNot (a : EE) : EE := fun σ h Q E => a σ h (fun x h1 => tru x h1 fun k => Q (.bl (!k)) h1) E
/-- tests -/
def bE (a : EE) : BB := fun σ h Q E => a σ h (fun x h1 => tru x h1 fun k => Q k h1) E
def bAnd (a b : BB) : BB := fun σ h Q E => a σ h (fun k h1 => if k = true then b σ h1 Q E else Q false h1) E
def bOr (a b : BB) : BB := fun σ h Q E => a σ h (fun k h1 => if k = true then Q true h1 else b σ h1 Q E) E
def bNot (a : BB) : BB := fun σ h Q E => a σ h (fun k h1 => Q (!k) h1) E
def eIf (t : BB) (a b : EE) : EE := fun σ h Q E => t σ h (fun k h1 => if k = true then a σ h1 Q E else b σ h1 Q E) E
def aNil : AA := fun _ h Q _ => Q [] h
def aCons (e : EE) (r : AA) : AA := fun σ h Q E => e σ h (fun x h1 => r σ h1 (fun xs h2 => Q (x :: xs) h2) E) E
def eTup (a : AA) : EE := fun σ h Q E => a σ h (fun xs h1 => Q (.tup xs) h1) E
def eLst (a : AA) : EE := fun σ h Q E => a σ h (fun xs h1 => ∀ p, h1.f p = none → Q (.ref p) (h1.upd p (.lst xs))) E
def eCall (f : FnSem) (a : AA) : EE := fun σ h Q E => a σ h (fun xs h1 => f xs h1 Q E) E
/-- a call of what a name holds; ok: the defs of so many parameters -/
def eCallV (i : Nat) (ok : Nat → Bool) (cal : Nat → FnSem) (a : AA) : EE := fun σ h Q E => match σ[i]? with
  | some (some (.fn k)) => ok k = true ∧ a σ h (fun xs h1 => cal k xs h1 Q E) E
  | _ => False
def eBi (r : RL) (a : AA) : EE := fun σ h Q E => a σ h (fun xs h1 => r xs h1 Q) E
/-- a method of a built-in type t -/
def eBm (t : Ty) (r : RM) (o : EE) (a : AA) : EE := fun σ h Q E => o σ h (fun x h1 => tyOf x h1 = some t ∧ a σ h1 (fun xs h2 => r x xs h2 Q) E) E
abbrev OO := S → DH → (Option Int → DH → Prop) → QX → Prop
def oNone : OO := fun _ h Q _ => Q none h
def oSome (a : EE) : OO := fun σ h Q E => a σ h (fun x h1 => match x with
  | .int i => Q (some i) h1
  | _ => False) E
def eSl (a : EE) (lo hi : OO) : EE := fun σ h Q E => a σ h (fun x h1 => lo σ h1 (fun l h2 => hi σ h2 (fun u h3 => rSl x l u h3 Q) E) E) E
/-- a dict that stands written in the text: its keys, the defs under them -/
def getT : List (Str × Nat) → Str → Option Nat
  | [], _ => none
  | (q, i) :: r, z => if q = z then some i else getT r z
def eTab (tb : List (Str × Nat)) (a : EE) : EE := fun σ h Q E => a σ h (fun x h1 => match x with
  | .str z => (match getT tb z with
    | some i => Q (.fn i) h1
    | none => False)
  | _ => False) E
def eInTab (tb : List (Str × Nat)) (neg : Bool) (a : EE) : EE := fun σ h Q E => a σ h (fun x h1 => match x with
  | .str z => Q (.bl (if neg then !(getT tb z).isSome else (getT tb z).isSome)) h1
  | _ => False) E
/-- {k: v, ..}, written: the dict stands empty while its parts are reckoned -/
def pairsD : List (EE × EE) → S → DH → (List (D × D) → DH → Prop) → QX → Prop
  | [], _, h, Q, _ => Q [] h
  | (k, v) :: r, σ, h, Q, E => k σ h (fun x h1 => v σ h1 (fun y h2 => pairsD r σ h2 (fun ps h3 => Q ((x, y) :: ps) h3) E) E) E
def putAll : List (Ky × D) → List (D × D) → Option (List (Ky × D))
  | kvs, [] => some kvs
  | kvs, (x, y) :: r => match key? x with
    | some k => putAll (setK kvs k y) r
    | none => none
def eDict (ps : List (EE × EE)) : EE := fun σ h Q E => ∀ p, h.f p = none → pairsD ps σ (h.upd p (.dk [])) (fun xs h1 => match h1.f p with
  | some (.dk []) => (match putAll [] xs with
    | some kvs => Q (.ref p) (h1.upd p (.dk kvs))
    | none => False)
  | _ => False) E

/-! ### what is walked -/
structure Src where
  items : List D
  chk : DH → Prop
abbrev II := S → DH → (Src → DH → Prop) → QX → Prop
def iSeq (a : EE) : II := fun σ h R E => a σ h (fun x h1 => match x with
  | .tup xs => R ⟨xs, fun _ => True⟩ h1
  | .ref l => (match seqAt h1 l with
    | some xs => R ⟨xs, fun g => seqAt g l = some xs⟩ h1
    | none => False)
  | _ => False) E
def iStr (a : EE) : II := fun σ h R E => a σ h (fun x h1 => match x with
  | .str z => R ⟨z.cps.toList.map fun c => D.str ⟨#[c]⟩, fun _ => True⟩ h1
  | _ => False) E
def rngOk (i : Int) : Prop := -(2 ^ 62) ≤ i ∧ i < 2 ^ 62
def rng (lo : Int) (n : Nat) : List D := (List.range n).map fun (k : Nat) => D.int (lo + (k : Int))
def iRng1 (a : EE) : II := fun σ h R E => a σ h (fun x h1 => match x with
  | .int j => rngOk j ∧ R ⟨rng 0 j.toNat, fun _ => True⟩ h1
  | _ => False) E
def iRng2 (a b : EE) : II := fun σ h R E => a σ h (fun x h1 => b σ h1 (fun y h2 => match x, y with
  | .int i, .int j => rngOk i ∧ rngOk j ∧ R ⟨rng i (j - i).toNat, fun _ => True⟩ h2
  | _, _ => False) E) E

/-! ### targets, statements -/
abbrev GG := D → S → DH → (S → DH → Prop) → QX → Prop
def gName (i : Nat) : GG := fun d σ h Q _ => Q (σ.set i (some d)) h
def gAll : List GG → List D → S → DH → (S → DH → Prop) → QX → Prop
  | [], [], σ, h, Q, _ => Q σ h
  | g :: gs, d :: ds, σ, h, Q, E => g d σ h (fun σ1 h1 => gAll gs ds σ1 h1 Q E) E
  | _, _, _, _, _, _ => False
def gTup (gs : List GG) : GG := fun d σ h Q E => match d with
  | .tup ds => gAll gs ds σ h Q E
  | _ => False
/-- o[i] = d -/
def putIx (o i d : D) (h : DH) (Q : DH → Prop) : Prop := match o with
  | .ref a => (match h.f a with
    | some (.lst xs) => (match i with
      | .int k => (match placeOf xs.length k with
        | some j => Q (h.upd a (.lst (xs.set j d)))
        | none => False)
      | _ => False)
    | some (.dk kvs) => (match key? i with
      | some k => kvs.length < sizeLine ∧ Q (h.upd a (.dk (setK kvs k d)))
      | none => False)
    | some (.dt kvs) => (match i with
      | .tup ys => (match keys? ys with
        | some k => kvs.length < sizeLine ∧ Q (h.upd a (.dt (setK kvs k d)))
        | none => False)
      | _ => False)
    | _ => False)
  | _ => False
def sSkip : SS := fun K σ h => K.nx σ h
def sBrk : SS := fun K σ h => K.bk σ h
def sCt : SS := fun K σ h => K.ct σ h
def sSeq (s t : SS) : SS := fun K σ h => s { K with nx := t K } σ h
def sAsg (e : EE) (g : GG) : SS := fun K σ h => e σ h (fun d h1 => g d σ h1 K.nx fun x h' => K.ex x σ h') fun x h' => K.ex x σ h'
def sPut (o i e : EE) : SS := fun K σ h => e σ h (fun d h1 => o σ h1 (fun x h2 => i σ h2 (fun y h3 => putIx x y d h3 (K.nx σ)) fun x h' => K.ex x σ h') fun x h' => K.ex x σ h') fun x h' => K.ex x σ h'
/-- a, b = e, f: no tuple is seen -/
def sPar (i j : Nat) (a : AA) : SS := fun K σ h => a σ h (fun vs h1 => match vs with
  | [v, w] => K.nx ((σ.set i (some v)).set j (some w)) h1
  | _ => False) fun x h' => K.ex x σ h'
/-- x += e -/
def sAug (r : R2) (i : Nat) (e : EE) : SS := fun K σ h => match σ[i]? with
  | some (some x) => e σ h (fun y h1 => r x y h1 fun z h2 => K.nx (σ.set i (some z)) h2) fun x h' => K.ex x σ h'
  | _ => False
def sExpr (e : EE) : SS := fun K σ h => e σ h (fun _ h1 => K.nx σ h1) fun x h' => K.ex x σ h'
def sRet (e : EE) : SS := fun K σ h => e σ h K.rt fun x h' => K.ex x σ h'
def sRetN : SS := fun K _ h => K.rt .non h
def sIf (t : BB) (a b : SS) : SS := fun K σ h => t σ h (fun k h1 => if k = true then a K σ h1 else b K σ h1) fun x h' => K.ex x σ h'
def loopF (chk : DH → Prop) (g : GG) (body : SS) (K : En) : List D → S → DH → Prop
  | [], σ, h => chk h ∧ K.nx σ h
  | d :: ds, σ, h => chk h ∧ g d σ h (fun σ1 h1 => body ⟨loopF chk g body K ds, K.rt, K.nx, loopF chk g body K ds, K.ex⟩ σ1 h1) fun x h' => K.ex x σ h'
def sFor (it : II) (g : GG) (body : SS) : SS := fun K σ h => it σ h (fun s h1 => loopF s.chk g body K s.items σ h1) fun x h' => K.ex x σ h'
def loopW (t : BB) (body : SS) (K : En) : Nat → S → DH → Prop
  | 0, _, _ => False
  | n + 1, σ, h => t σ h (fun k h1 => if k = true then body ⟨loopW t body K n, K.rt, K.nx, loopW t body K n, K.ex⟩ σ h1 else K.nx σ h1) fun x h' => K.ex x σ h'
def sWhile (t : BB) (body : SS) : SS := fun K σ h => ∃ n, loopW t body K n σ h
/-- slots that a comprehension has of its own are empty at its start -/
def wipe (σ : S) : List Nat → S
  | [] => σ
  | v :: vs => (wipe σ vs).set v none
/-- [e for g in .. if t]: the list stands at p from the start -/
def loopC (chk : DH → Prop) (g : GG) (t : BB) (e : EE) (p : Addr) (σ : S) (Q : QD) : List D → DH → Prop
  | [], h => chk h ∧ Q (.ref p) h
  | d :: ds, h => chk h ∧ g d σ h (fun σ1 h1 => t σ1 h1 (fun k h2 => if k = true then e σ1 h2 (fun y h3 => match h3.f p with
      | some (.lst acc) => acc.length < sizeLine ∧ loopC chk g t e p σ Q ds (h3.upd p (.lst (acc ++ [y])))
      | _ => False) (fun _ _ => False) else loopC chk g t e p σ Q ds h2) fun _ _ => False) fun _ _ => False
def eLc (it : II) (g : GG) (t : BB) (e : EE) (vs : List Nat) : EE := fun σ h Q E =>
  it σ h (fun s h1 => ∀ p, h1.f p = none → loopC s.chk g t e p (wipe σ vs) Q s.items (h1.upd p (.lst []))) E
def bYes : BB := fun _ h Q _ => Q true h

/-- a try whose body raises nothing; a statement that is never reached -/
def sTry0 (t : SS) : SS := fun K σ h => t { K with ex := fun _ _ _ => False } σ h
def sNever : SS := fun _ _ _ => False
/-- + of ints in place -/
def rAddI : R2
  | .int i, .int j, h, Q => Q (.int (i + j)) h
  | .str x, .str y, h, Q => x.length + y.length ≤ sizeLine ∧ Q (.str (x ++ y)) h
  | _, _, _, _ => False

/-! ### programs -/
structure Decl where
  np : Nat
  nl : Nat
  gc : Bool
  body : (Nat → FnSem) → SS
def startS (np nl : Nat) (vs : List D) : S := vs.map some ++ List.replicate (nl - np) none
def keepTo (g : Bool) (h h' : DH) : DH := if g = true then gcTo h h' else h'
/-- the ends of a def's body that was called at h -/
def enF (g : Bool) (h : DH) (Q : QD) (E : QX) : En :=
  ⟨fun _ h' => Q .non (keepTo g h h'), fun v h' => Q v (keepTo g h h'), fun _ _ => False, fun _ _ => False, fun x _ h' => E x (keepTo g h h')⟩
/-- the call of the i-th def, n calls deep at most (by a measure, so that nothing unfolds it by itself) -/
def WF (tab : Nat → Option Decl) (n i : Nat) (vs : List D) (h : DH) (Q : QD) (E : QX) : Prop :=
  match n with
  | 0 => False
  | m + 1 => match tab i with
    | none => False
    | some d => vs.length = d.np ∧ d.body (fun j us g Q E => WF tab m j us g Q E) (enF d.gc h Q E) (startS d.np d.nl vs) h
termination_by n
theorem WF_zero {tab : Nat → Option Decl} {i : Nat} {vs : List D} {h : DH} {Q : QD} {E : QX} (q : WF tab 0 i vs h Q E) : False := by
  rw [WF] at q
  exact q
theorem WF_succ {tab : Nat → Option Decl} {n i : Nat} {d : Decl} (e : tab i = some d) (vs : List D) (h : DH) (Q : QD) (E : QX) :
    WF tab (n + 1) i vs h Q E = (vs.length = d.np ∧ d.body (WF tab n) (enF d.gc h Q E) (startS d.np d.nl vs) h) := by
  rw [WF, e]
end T2
/-! T2N: evaluation by rewriting: every reading, applied. -/
namespace T2
open PySem
section
variable {σ : S} {h h1 : DH} {Q : QD} {E : QX} {K : En} {a b c : EE} {r s : R2} {i j : Nat}
/-- a truth value is awaited -/
def onB (z : D) (f : Bool → Prop) : Prop := match z with
  | .bl b => f b
  | _ => False
@[simp] theorem onB_bl {b : Bool} {f : Bool → Prop} : onB (.bl b) f = f b := rfl
def onI (z : D) (f : Int → Prop) : Prop := match z with
  | .int i => f i
  | _ => False
@[simp] theorem onI_int {b : Int} {f : Int → Prop} : onI (.int b) f = f b := rfl
def onSome {α : Type} (z : Option α) (f : α → Prop) : Prop := match z with
  | some d => f d
  | none => False
@[simp] theorem onSome_some {α : Type} {b : α} {f : α → Prop} : onSome (some b) f = f b := rfl
def look (σ : S) (i : Nat) (f : D → Prop) : Prop := match σ[i]? with
  | some (some d) => f d
  | _ => False
@[simp] theorem look_zero {d : D} {f : D → Prop} : look (some d :: σ) 0 f = f d := rfl
@[simp] theorem look_succ {d : Option D} {n : Nat} {f : D → Prop} : look (d :: σ) (n + 1) f = look σ n f := rfl
@[simp] theorem eVar_ap : eVar i σ h Q E = look σ i fun d => Q d h := by
  unfold eVar look
  split <;> simp_all
@[simp] theorem eC_ap {d : D} : eC d σ h Q E = Q d h := rfl
@[simp] theorem eBin_ap : eBin r a b σ h Q E = a σ h (fun x h1 => b σ h1 (fun y h2 => r x y h2 Q) E) E := rfl
@[simp] theorem eUn_ap {r : R1} : eUn r a σ h Q E = a σ h (fun x h1 => r x h1 Q) E := rfl
@[simp] theorem eChain_ap : eChain r s a b c σ h Q E = a σ h (fun x h1 => b σ h1 (fun y h2 => r x y h2 fun z h3 => onB z fun k => if k = true then c σ h3 (fun w h4 => s y w h4 Q) E else Q (.bl false) h3) E) E := by
  unfold eChain onB
  refine congrFun (congrArg _ (funext fun x => funext fun h1 => congrFun (congrArg _ (funext fun y => funext fun h2 => congrArg _ (funext fun z => funext fun h3 => ?_))) E)) E
  split <;> simp_all
@[simp] theorem eAnd_ap : eAnd a b σ h Q E = a σ h (fun x h1 => tru x h1 fun k => if k = true then b σ h1 Q E else Q x h1) E := rfl
@[simp] theorem eOr_ap : eOr a b σ h Q E = a σ h (fun x h1 => tru x h1 fun k => if k = true then Q x h1 else b σ h1 Q E) E := rfl
@[simp] theorem eNot_ap : eNot a σ h Q E = a σ h (fun x h1 => tru x h1 fun k => Q (.bl (!k)) h1) E := rfl
variable {P : Bool → DH → Prop} {t u : BB}
@[simp] theorem bE_ap : bE a σ h P E = a σ h (fun x h1 => tru x h1 fun k => P k h1) E := rfl
@[simp] theorem bAnd_ap : bAnd t u σ h P E = t σ h (fun k h1 => if k = true then u σ h1 P E else P false h1) E := rfl
@[simp] theorem bOr_ap : bOr t u σ h P E = t σ h (fun k h1 => if k = true then P true h1 else u σ h1 P E) E := rfl
@[simp] theorem bNot_ap : bNot t σ h P E = t σ h (fun k h1 => P (!k) h1) E := rfl
@[simp] theorem bYes_ap : bYes σ h P E = P true h := rfl
@[simp] theorem eIf_ap : eIf t a b σ h Q E = t σ h (fun k h1 => if k = true then a σ h1 Q E else b σ h1 Q E) E := rfl
variable {L : List D → DH → Prop} {as : AA}
@[simp] theorem aNil_ap : aNil σ h L E = L [] h := rfl
@[simp] theorem aCons_ap : aCons a as σ h L E = a σ h (fun x h1 => as σ h1 (fun xs h2 => L (x :: xs) h2) E) E := rfl
@[simp] theorem eTup_ap : eTup as σ h Q E = as σ h (fun xs h1 => Q (.tup xs) h1) E := rfl
@[simp] theorem eLst_ap : eLst as σ h Q E = as σ h (fun xs h1 => ∀ p, h1.f p = none → Q (.ref p) (h1.upd p (.lst xs))) E := rfl
@[simp] theorem eCall_ap {f : FnSem} : eCall f as σ h Q E = as σ h (fun xs h1 => f xs h1 Q E) E := rfl
def onF (z : D) (f : Nat → Prop) : Prop := match z with
  | .fn b => f b
  | _ => False
@[simp] theorem onF_fn {b : Nat} {f : Nat → Prop} : onF (.fn b) f = f b := rfl
@[simp] theorem eCallV_ap {ok : Nat → Bool} {cal : Nat → FnSem} : eCallV i ok cal as σ h Q E = look σ i fun d => onF d fun k => ok k = true ∧ as σ h (fun xs h1 => cal k xs h1 Q E) E := by
  unfold eCallV look
  cases e : σ[i]? with
  | none => rfl
  | some o =>
    cases o with
    | none => rfl
    | some d => cases d <;> rfl
@[simp] theorem eBi_ap {r : RL} : eBi r as σ h Q E = as σ h (fun xs h1 => r xs h1 Q) E := rfl
@[simp] theorem eBm_ap {t : Ty} {r : RM} : eBm t r a as σ h Q E = a σ h (fun x h1 => tyOf x h1 = some t ∧ as σ h1 (fun xs h2 => r x xs h2 Q) E) E := rfl
variable {O : Option Int → DH → Prop}
@[simp] theorem oNone_ap : oNone σ h O E = O none h := rfl
@[simp] theorem oSome_ap : oSome a σ h O E = a σ h (fun x h1 => onI x fun i => O (some i) h1) E := by
  unfold oSome onI
  rfl
@[simp] theorem eSl_ap {lo hi : OO} : eSl a lo hi σ h Q E = a σ h (fun x h1 => lo σ h1 (fun l h2 => hi σ h2 (fun u h3 => rSl x l u h3 Q) E) E) E := rfl
def onS (z : D) (f : Str → Prop) : Prop := match z with
  | .str b => f b
  | _ => False
@[simp] theorem onS_str {b : Str} {f : Str → Prop} : onS (.str b) f = f b := rfl
@[simp] theorem eTab_ap {tb : List (Str × Nat)} : eTab tb a σ h Q E = a σ h (fun x h1 => onS x fun z => onSome (getT tb z) fun i => Q (.fn i) h1) E := by
  unfold eTab
  refine congrFun (congrArg _ (funext fun x => funext fun h1 => ?_)) E
  cases x <;> first | rfl | (dsimp only [onS]; unfold onSome; split <;> simp_all)
@[simp] theorem eInTab_ap {tb : List (Str × Nat)} {n : Bool} : eInTab tb n a σ h Q E = a σ h (fun x h1 => onS x fun z => Q (.bl (if n then !(getT tb z).isSome else (getT tb z).isSome)) h1) E := by
  unfold eInTab onS
  rfl
@[simp] theorem eDict_ap {ps : List (EE × EE)} : eDict ps σ h Q E = ∀ p, h.f p = none → pairsD ps σ (h.upd p (.dk [])) (fun xs h1 => match h1.f p with
  | some (.dk []) => (match putAll [] xs with
    | some kvs => Q (.ref p) (h1.upd p (.dk kvs))
    | none => False)
  | _ => False) E := rfl
@[simp] theorem pairsD_nil {M : List (D × D) → DH → Prop} : pairsD [] σ h M E = M [] h := rfl
@[simp] theorem pairsD_cons {M : List (D × D) → DH → Prop} {k v : EE} {ps : List (EE × EE)} : pairsD ((k, v) :: ps) σ h M E = k σ h (fun x h1 => v σ h1 (fun y h2 => pairsD ps σ h2 (fun ps h3 => M ((x, y) :: ps) h3) E) E) E := rfl
/-! iteration -/
variable {R : Src → DH → Prop}
/-- a tuple or a list is walked -/
def onSeq (x : D) (h : DH) (f : Src → Prop) : Prop := match x with
  | .tup xs => f ⟨xs, fun _ => True⟩
  | .ref l => (match seqAt h l with
    | some xs => f ⟨xs, fun g => seqAt g l = some xs⟩
    | none => False)
  | _ => False
@[simp] theorem iSeq_ap : iSeq a σ h R E = a σ h (fun x h1 => onSeq x h1 fun s => R s h1) E := by
  unfold iSeq onSeq
  rfl
@[simp] theorem onSeq_tup {xs : List D} {f : Src → Prop} : onSeq (.tup xs) h f = f ⟨xs, fun _ => True⟩ := rfl
theorem onSeq_ref {l : Addr} {xs : List D} {f : Src → Prop} (e : seqAt h l = some xs) : onSeq (.ref l) h f = f ⟨xs, fun g => seqAt g l = some xs⟩ := by
  unfold onSeq
  simp only [e]
@[simp] theorem iStr_ap : iStr a σ h R E = a σ h (fun x h1 => onS x fun z => R ⟨z.cps.toList.map fun c => D.str ⟨#[c]⟩, fun _ => True⟩ h1) E := by
  unfold iStr onS
  rfl
@[simp] theorem iRng1_ap : iRng1 a σ h R E = a σ h (fun x h1 => onI x fun j => rngOk j ∧ R ⟨rng 0 j.toNat, fun _ => True⟩ h1) E := by
  unfold iRng1 onI
  rfl
@[simp] theorem iRng2_ap : iRng2 a b σ h R E = a σ h (fun x h1 => b σ h1 (fun y h2 => onI x fun i => onI y fun j => rngOk i ∧ rngOk j ∧ R ⟨rng i (j - i).toNat, fun _ => True⟩ h2) E) E := by
  unfold iRng2
  refine congrFun (congrArg _ (funext fun x => funext fun h1 => congrFun (congrArg _ (funext fun y => funext fun h2 => ?_)) E)) E
  unfold onI
  split
  · rfl
  · rename_i n
    split
    · split
      · exact absurd rfl (n _ _ rfl)
      · rfl
    · rfl
@[simp] theorem seqAt_lst {l : Addr} {xs : List D} : seqAt (h.upd l (.lst xs)) l = some xs := by
  unfold seqAt
  rw [DH.upd_f_same]
theorem seqAt_of {l : Addr} {xs : List D} (e : h.f l = some (.lst xs)) : seqAt h l = some xs := by
  unfold seqAt
  rw [e]
theorem seqAt_frz {l : Addr} {xs : List D} (e : h.f l = some (.frz xs)) : seqAt h l = some xs := by
  unfold seqAt
  rw [e]
/-! targets, statements -/
variable {N : S → DH → Prop} {d : D}
@[simp] theorem gName_ap : gName i d σ h N E = N (σ.set i (some d)) h := rfl
@[simp] theorem gTup_ap {gs : List GG} {ds : List D} : gTup gs (.tup ds) σ h N E = gAll gs ds σ h N E := rfl
@[simp] theorem gAll_nil : gAll [] [] σ h N E = N σ h := rfl
@[simp] theorem gAll_cons {g : GG} {gs : List GG} {ds : List D} : gAll (g :: gs) (d :: ds) σ h N E = g d σ h (fun σ1 h1 => gAll gs ds σ1 h1 N E) E := rfl
variable {p q : SS} {g : GG}
@[simp] theorem sSkip_ap : sSkip K σ h = K.nx σ h := rfl
@[simp] theorem sBrk_ap : sBrk K σ h = K.bk σ h := rfl
@[simp] theorem sCt_ap : sCt K σ h = K.ct σ h := rfl
@[simp] theorem sNever_ap : sNever K σ h = False := rfl
/-- the ends of a first statement; of a loop's body; of a try's body -/
def thenK (K : En) (k : S → DH → Prop) : En := ⟨k, K.rt, K.bk, K.ct, K.ex⟩
def loopK (K : En) (k : S → DH → Prop) : En := ⟨k, K.rt, K.nx, k, K.ex⟩
def noxK (K : En) : En := ⟨K.nx, K.rt, K.bk, K.ct, fun _ _ _ => False⟩
section
variable {k : S → DH → Prop} {x : Xc}
@[simp] theorem thenK_nx : (thenK K k).nx σ h = k σ h := rfl
@[simp] theorem thenK_rt : (thenK K k).rt d h = K.rt d h := rfl
@[simp] theorem thenK_bk : (thenK K k).bk σ h = K.bk σ h := rfl
@[simp] theorem thenK_ct : (thenK K k).ct σ h = K.ct σ h := rfl
@[simp] theorem thenK_ex : (thenK K k).ex x σ h = K.ex x σ h := rfl
@[simp] theorem loopK_nx : (loopK K k).nx σ h = k σ h := rfl
@[simp] theorem loopK_rt : (loopK K k).rt d h = K.rt d h := rfl
@[simp] theorem loopK_bk : (loopK K k).bk σ h = K.nx σ h := rfl
@[simp] theorem loopK_ct : (loopK K k).ct σ h = k σ h := rfl
@[simp] theorem loopK_ex : (loopK K k).ex x σ h = K.ex x σ h := rfl
@[simp] theorem noxK_nx : (noxK K).nx σ h = K.nx σ h := rfl
@[simp] theorem noxK_rt : (noxK K).rt d h = K.rt d h := rfl
@[simp] theorem noxK_bk : (noxK K).bk σ h = K.bk σ h := rfl
@[simp] theorem noxK_ct : (noxK K).ct σ h = K.ct σ h := rfl
@[simp] theorem noxK_ex : (noxK K).ex x σ h = False := rfl
end
@[simp] theorem sSeq_ap : sSeq p q K σ h = p (thenK K (q K)) σ h := rfl
@[simp] theorem sTry0_ap : sTry0 p K σ h = p (noxK K) σ h := rfl
@[simp] theorem sAsg_ap : sAsg a g K σ h = a σ h (fun d h1 => g d σ h1 (fun σ' h' => K.nx σ' h') fun x h' => K.ex x σ h') fun x h' => K.ex x σ h' := rfl
@[simp] theorem sPut_ap {o k : EE} : sPut o k a K σ h = a σ h (fun d h1 => o σ h1 (fun x h2 => k σ h2 (fun y h3 => putIx x y d h3 (fun h' => K.nx σ h')) fun x h' => K.ex x σ h') fun x h' => K.ex x σ h') fun x h' => K.ex x σ h' := rfl
def on2 (vs : List D) (f : D → D → Prop) : Prop := match vs with
  | [v, w] => f v w
  | _ => False
@[simp] theorem on2_2 {v w : D} {f : D → D → Prop} : on2 [v, w] f = f v w := rfl
@[simp] theorem sPar_ap : sPar i j as K σ h = as σ h (fun vs h1 => on2 vs fun v w => K.nx ((σ.set i (some v)).set j (some w)) h1) fun x h' => K.ex x σ h' := by
  unfold sPar on2
  rfl
@[simp] theorem sAug_ap : sAug r i a K σ h = look σ i fun x => a σ h (fun y h1 => r x y h1 fun z h2 => K.nx (σ.set i (some z)) h2) fun x h' => K.ex x σ h' := by
  unfold sAug look
  split <;> simp_all
@[simp] theorem sExpr_ap : sExpr a K σ h = a σ h (fun _ h1 => K.nx σ h1) fun x h' => K.ex x σ h' := rfl
@[simp] theorem sRet_ap : sRet a K σ h = a σ h (fun d h' => K.rt d h') fun x h' => K.ex x σ h' := rfl
@[simp] theorem sRetN_ap : sRetN K σ h = K.rt .non h := rfl
@[simp] theorem sIf_ap : sIf t p q K σ h = t σ h (fun k h1 => if k = true then p K σ h1 else q K σ h1) fun x h' => K.ex x σ h' := rfl
@[simp] theorem sFor_ap {it : II} : sFor it g p K σ h = it σ h (fun s h1 => loopF s.chk g p K s.items σ h1) fun x h' => K.ex x σ h' := rfl
variable {chk : DH → Prop} {ds : List D}
theorem loopF_nil : loopF chk g p K [] σ h = (chk h ∧ K.nx σ h) := rfl
theorem loopF_cons : loopF chk g p K (d :: ds) σ h = (chk h ∧ g d σ h (fun σ1 h1 => p (loopK K (loopF chk g p K ds)) σ1 h1) fun x h' => K.ex x σ h') := rfl
@[simp] theorem eLc_ap {it : II} {vs : List Nat} : eLc it g t a vs σ h Q E = it σ h (fun s h1 => ∀ p, h1.f p = none → loopC s.chk g t a p (wipe σ vs) Q s.items (h1.upd p (.lst []))) E := rfl
@[simp] theorem wipe_nil : wipe σ [] = σ := rfl
@[simp] theorem wipe_cons {v : Nat} {vs : List Nat} : wipe σ (v :: vs) = (wipe σ vs).set v none := rfl
theorem loopC_nil {p : Addr} : loopC chk g t a p σ Q [] h = (chk h ∧ Q (.ref p) h) := rfl
def onLst (o : Option C) (f : List D → Prop) : Prop := match o with
  | some (.lst xs) => f xs
  | _ => False
@[simp] theorem onLst_lst {xs : List D} {f : List D → Prop} : onLst (some (.lst xs)) f = f xs := rfl
theorem loopC_cons {p : Addr} : loopC chk g t a p σ Q (d :: ds) h = (chk h ∧ g d σ h (fun σ1 h1 => t σ1 h1 (fun k h2 => if k = true then a σ1 h2 (fun y h3 => onLst (h3.f p) fun acc => acc.length < sizeLine ∧ loopC chk g t a p σ Q ds (h3.upd p (.lst (acc ++ [y])))) (fun _ _ => False) else loopC chk g t a p σ Q ds h2) fun _ _ => False) fun _ _ => False) := by
  rw [loopC]
  unfold onLst
  rfl
@[simp] theorem enF_nx {gc : Bool} : (enF gc h Q E).nx σ h1 = Q .non (keepTo gc h h1) := rfl
@[simp] theorem enF_rt {gc : Bool} : (enF gc h Q E).rt d h1 = Q d (keepTo gc h h1) := rfl
@[simp] theorem enF_ex {gc : Bool} {x : Xc} : (enF gc h Q E).ex x σ h1 = E x (keepTo gc h h1) := rfl
@[simp] theorem keepTo_t : keepTo true h h1 = gcTo h h1 := rfl
@[simp] theorem keepTo_f : keepTo false h h1 = h1 := rfl
/-! values -/
variable {x y : Int} {F : Bool → Prop}
@[simp] theorem tru_non : tru .non h F = F false := rfl
@[simp] theorem tru_bl {k : Bool} : tru (.bl k) h F = F k := rfl
@[simp] theorem tru_int : tru (.int x) h F = F (!decide (x = 0)) := rfl
@[simp] theorem tru_tup {xs : List D} : tru (.tup xs) h F = F (!xs.isEmpty) := rfl
theorem tru_ref {l : Addr} {xs : List D} (e : seqAt h l = some xs) : tru (.ref l) h F = F (!xs.isEmpty) := by
  unfold seqAt at e
  unfold tru
  split at e <;> first | (rename_i q; cases e; simp [q]) | cases e
@[simp] theorem rAdd_int : rAdd (.int x) (.int y) h Q = Q (.int (x + y)) h := rfl
@[simp] theorem rAdd_tup {xs ys : List D} : rAdd (.tup xs) (.tup ys) h Q = (xs.length + ys.length ≤ sizeLine ∧ Q (.tup (xs ++ ys)) h) := rfl
@[simp] theorem rAddI_int : rAddI (.int x) (.int y) h Q = Q (.int (x + y)) h := rfl
theorem rAdd_ref {l m : Addr} {xs ys : List D} (e : h.f l = some (.lst xs)) (f : h.f m = some (.lst ys)) : rAdd (.ref l) (.ref m) h Q = (xs.length + ys.length ≤ sizeLine ∧ ∀ p, h.f p = none → Q (.ref p) (h.upd p (.lst (xs ++ ys)))) := by
  unfold rAdd
  simp only [e, f]
@[simp] theorem rSub_int : rSub (.int x) (.int y) h Q = Q (.int (x - y)) h := rfl
@[simp] theorem rMul_int : rMul (.int x) (.int y) h Q = (mulOk x y ∧ Q (.int (x * y)) h) := rfl
@[simp] theorem rDiv_int : rDiv (.int x) (.int y) h Q = (divOk y ∧ Q (.int (x / y)) h) := rfl
@[simp] theorem rMod_int : rMod (.int x) (.int y) h Q = (0 < y ∧ Q (.int (x % y)) h) := rfl
@[simp] theorem rPow_int : rPow (.int x) (.int y) h Q = (powOk x y ∧ Q (.int (x ^ y.toNat)) h) := rfl
@[simp] theorem rNeg_int : rNeg (.int x) h Q = Q (.int (-x)) h := rfl
@[simp] theorem rLt_int : rLt (.int x) (.int y) h Q = Q (.bl (decide (x < y))) h := rfl
@[simp] theorem rLe_int : rLe (.int x) (.int y) h Q = Q (.bl (decide (x ≤ y))) h := rfl
@[simp] theorem rGt_int : rGt (.int x) (.int y) h Q = Q (.bl (decide (y < x))) h := rfl
@[simp] theorem rGe_int : rGe (.int x) (.int y) h Q = Q (.bl (decide (y ≤ x))) h := rfl
@[simp] theorem rEq_int : rEq (.int x) (.int y) h Q = Q (.bl (decide (x = y))) h := rfl
@[simp] theorem rEq_str {z w : Str} : rEq (.str z) (.str w) h Q = Q (.bl (decide (z = w))) h := rfl
@[simp] theorem rEq_bl {z w : Bool} : rEq (.bl z) (.bl w) h Q = Q (.bl (z == w)) h := rfl
@[simp] theorem rNe_int : rNe (.int x) (.int y) h Q = Q (.bl (!decide (x = y))) h := rfl
@[simp] theorem rNe_str {z w : Str} : rNe (.str z) (.str w) h Q = Q (.bl (!decide (z = w))) h := rfl
@[simp] theorem rNe_bl {z w : Bool} : rNe (.bl z) (.bl w) h Q = Q (.bl (!(z == w))) h := rfl
@[simp] theorem rIs_non : rIs d .non h Q = Q (.bl (isNone d)) h := by cases d <;> rfl
@[simp] theorem rIsNot_non : rIsNot d .non h Q = Q (.bl (!isNone d)) h := by cases d <;> rfl
@[simp] theorem isNone_non : isNone .non = true := rfl
@[simp] theorem isNone_tup {xs : List D} : isNone (.tup xs) = false := rfl
@[simp] theorem isNone_int : isNone (.int x) = false := rfl
@[simp] theorem isNone_bl {k : Bool} : isNone (.bl k) = false := rfl
@[simp] theorem isNone_str {k : Str} : isNone (.str k) = false := rfl
@[simp] theorem isNone_ref {k : Addr} : isNone (.ref k) = false := rfl
@[simp] theorem rIx_tup {xs : List D} : rIx (.tup xs) (.int x) h Q = onSome (nth xs x) fun d => Q d h := by
  show (match nth xs x with | some d => Q d h | none => False) = _
  unfold onSome
  split <;> simp_all
theorem rIx_ref {l : Addr} {xs : List D} (e : seqAt h l = some xs) : rIx (.ref l) (.int x) h Q = onSome (nth xs x) fun d => Q d h := by
  unfold seqAt at e
  unfold rIx
  split at e
  · rename_i q
    cases e
    simp only [q]
    show (match nth xs x with | some d => Q d h | none => False) = _
    unfold onSome
    split <;> simp_all
  · rename_i q
    cases e
    simp only [q]
    show (match nth xs x with | some d => Q d h | none => False) = _
    unfold onSome
    split <;> simp_all
  · cases e
theorem rIx_dk {l : Addr} {kvs : List (Ky × D)} {z : Str} (e : h.f l = some (.dk kvs)) : rIx (.ref l) (.str z) h Q = onSome (getK kvs (.inr z)) fun d => Q d h := by
  unfold rIx
  simp only [e, key?]
  unfold onSome
  split <;> simp_all
theorem rIx_dki {l : Addr} {kvs : List (Ky × D)} (e : h.f l = some (.dk kvs)) : rIx (.ref l) (.int x) h Q = onSome (getK kvs (.inl x)) fun d => Q d h := by
  unfold rIx
  simp only [e, key?]
  unfold onSome
  split <;> simp_all
/-- an item at a place that is there -/
theorem nth_some {α : Type} {xs : List α} {i : Int} (h0 : 0 ≤ i) (h1 : i < xs.length) : ∃ (k : Nat) (hk : k < xs.length), i = (k : Int) ∧ nth xs i = some xs[k] := by
  obtain ⟨k, rfl⟩ := Int.eq_ofNat_of_zero_le h0
  have hk : k < xs.length := by omega
  refine ⟨k, hk, rfl, ?_⟩
  unfold nth
  rw [if_neg (by omega)]
  simp [hk]
@[simp] theorem nth_nat {α : Type} {xs : List α} {k : Nat} : nth xs (k : Int) = xs[k]? := by
  unfold nth
  rw [if_neg (by omega)]
  simp
@[simp] theorem nth_zero {α : Type} {xs : List α} : nth xs 0 = xs[0]? := rfl
@[simp] theorem nth_one {α : Type} {xs : List α} : nth xs 1 = xs[1]? := rfl
@[simp] theorem nth_two {α : Type} {xs : List α} : nth xs 2 = xs[2]? := rfl
theorem nth_last {α : Type} {xs : List α} : nth xs (-1) = xs.getLast? := by
  unfold nth
  rw [if_pos (by decide)]
  cases xs with
  | nil => rfl
  | cons a r =>
    rw [if_neg (by simp only [List.length_cons]; omega), List.getLast?_eq_getElem?]
    congr 1
    simp only [List.length_cons]
    omega
@[simp] theorem rSl_tup {xs : List D} {lo hi : Option Int} : rSl (.tup xs) lo hi h Q = Q (.tup (cut xs lo hi)) h := rfl
theorem rSl_ref {l : Addr} {xs : List D} {lo hi : Option Int} (e : seqAt h l = some xs) : rSl (.ref l) lo hi h Q = ∀ p, h.f p = none → Q (.ref p) (h.upd p (.lst (cut xs lo hi))) := by
  unfold rSl
  simp only [e]
@[simp] theorem tyOf_bl {k : Bool} : tyOf (.bl k) h = some .bool := rfl
@[simp] theorem tyOf_int : tyOf (.int x) h = some .int := rfl
@[simp] theorem tyOf_str {k : Str} : tyOf (.str k) h = some .str := rfl
@[simp] theorem tyOf_tup {k : List D} : tyOf (.tup k) h = some .tup := rfl
theorem tyOf_lst {l : Addr} {xs : List D} (e : h.f l = some (.lst xs)) : tyOf (.ref l) h = some .list := by
  unfold tyOf
  simp only [e]
theorem tyOf_frz {l : Addr} {xs : List D} (e : h.f l = some (.frz xs)) : tyOf (.ref l) h = some .list := by
  unfold tyOf
  simp only [e]
@[simp] theorem bIsa_ap {t : Ty} : bIsa [d, .ty t] h Q = (match d with
  | .non => Q (.bl false) h
  | d => onSome (tyOf d h) fun u => Q (.bl (isa u t)) h) := by
  cases d <;> first | rfl | (unfold bIsa onSome; dsimp only; split <;> simp_all)
@[simp] theorem bLen_tup {xs : List D} : bLen [.tup xs] h Q = Q (.int xs.length) h := rfl
theorem bLen_ref {l : Addr} {xs : List D} (e : seqAt h l = some xs) : bLen [.ref l] h Q = Q (.int xs.length) h := by
  unfold seqAt at e
  unfold bLen
  split at e <;> first | (rename_i q; cases e; simp [q]) | cases e
@[simp] theorem bLen_str {z : Str} : bLen [.str z] h Q = (z.length ≤ sizeLine ∧ Q (.int z.length) h) := rfl
@[simp] theorem bAbs_int : bAbs [.int x] h Q = Q (.int (if x < 0 then -x else x)) h := rfl
@[simp] theorem bMax2_int : bMax2 [.int x, .int y] h Q = Q (.int (if y > x then y else x)) h := rfl
@[simp] theorem bMin2_int : bMin2 [.int x, .int y] h Q = Q (.int (if y < x then y else x)) h := rfl
@[simp] theorem bInt_int : bInt [.int x] h Q = Q (.int x) h := rfl
@[simp] theorem bInt_bl {k : Bool} : bInt [.bl k] h Q = Q (.int (if k then 1 else 0)) h := rfl
@[simp] theorem bTuple_tup {xs : List D} : bTuple [.tup xs] h Q = Q (.tup xs) h := rfl
theorem bTuple_ref {l : Addr} {xs : List D} (e : seqAt h l = some xs) : bTuple [.ref l] h Q = Q (.tup xs) h := by
  unfold bTuple
  simp only [e]
@[simp] theorem bList_tup {xs : List D} : bList [.tup xs] h Q = ∀ p, h.f p = none → Q (.ref p) (h.upd p (.lst xs)) := rfl
theorem bList_ref {l : Addr} {xs : List D} (e : seqAt h l = some xs) : bList [.ref l] h Q = ∀ p, h.f p = none → Q (.ref p) (h.upd p (.lst xs)) := by
  show (match seqAt h l with
    | some xs => ∀ p, h.f p = none → Q (.ref p) (h.upd p (.lst xs))
    | none => False) = _
  rw [e]
theorem bSum_ref {l : Addr} {ns : List Int} (e : seqAt h l = some (ns.map D.int)) : bSum [.ref l] h Q = Q (.int ns.sum) h := by
  unfold bSum
  simp only [e, ints?_map]
theorem bAny_ref {l : Addr} {ns : List Bool} (e : seqAt h l = some (ns.map D.bl)) : bAny [.ref l] h Q = Q (.bl (ns.any id)) h := by
  unfold bAny
  simp only [e, bools?_map]
theorem bAll_ref {l : Addr} {ns : List Bool} (e : seqAt h l = some (ns.map D.bl)) : bAll [.ref l] h Q = Q (.bl (ns.all id)) h := by
  unfold bAll
  simp only [e, bools?_map]
theorem bSorted_ref {l : Addr} {ns : List Int} (e : seqAt h l = some (ns.map D.int)) : bSorted [.ref l] h Q = (ns.length < 64 ∧ ∀ ms : List Int, ms.Perm ns → ms.Pairwise (· ≤ ·) → ∀ p, h.f p = none → Q (.ref p) (h.upd p (.lst (ms.map D.int)))) := by
  unfold bSorted
  simp only [e, ints?_map]
theorem mAppend_lst {l : Addr} {xs : List D} (e : h.f l = some (.lst xs)) : mAppend (.ref l) [d] h Q = (xs.length < sizeLine ∧ Q .non (h.upd l (.lst (xs ++ [d])))) := by
  unfold mAppend
  simp only [e]
theorem mPopAt_lst {l : Addr} {xs : List D} (e : h.f l = some (.lst xs)) : mPopAt (.ref l) [.int x] h Q = (-(2 ^ 63) ≤ x ∧ x < 2 ^ 63 ∧ onSome (placeOf xs.length x) fun k => onSome xs[k]? fun d => Q d (h.upd l (.lst (xs.eraseIdx k)))) := by
  unfold mPopAt
  simp only [e]
  cases placeOf xs.length x with
  | none => rfl
  | some k => cases q : xs[k]? <;> simp [onSome, q]
theorem putIx_lst {l : Addr} {xs : List D} {F : DH → Prop} (e : h.f l = some (.lst xs)) : putIx (.ref l) (.int x) d h F = onSome (placeOf xs.length x) fun j => F (h.upd l (.lst (xs.set j d))) := by
  unfold putIx
  simp only [e]
  cases placeOf xs.length x <;> rfl
theorem putIx_dk {l : Addr} {kvs : List (Ky × D)} {z : Str} {F : DH → Prop} (e : h.f l = some (.dk kvs)) : putIx (.ref l) (.str z) d h F = (kvs.length < sizeLine ∧ F (h.upd l (.dk (setK kvs (.inr z) d)))) := by
  unfold putIx
  simp only [e, key?]
theorem placeOf_nat {n : Nat} {i : Int} (h0 : 0 ≤ i) (h1 : i < n) : placeOf n i = some i.toNat := by
  unfold placeOf
  rw [if_neg (by omega), if_pos h1]
end
/-- a call of a def, unfolded -/
theorem WF_ap {tab : Nat → Option Decl} {n i : Nat} {d : Decl} (e : tab i = some d) {vs : List D} {h : DH} {Q : QD} {E : QX} (hl : vs.length = d.np) : WF tab (n + 1) i vs h Q E = d.body (WF tab n) (enF d.gc h Q E) (startS d.np d.nl vs) h := by
  rw [WF_succ e]
  exact propext ⟨fun q => q.2, fun q => ⟨hl, q⟩⟩
theorem mulOk_r {i j : Int} (h : -(2 ^ 64) < j ∧ j < 2 ^ 64) : mulOk i j := .inr h
theorem mulOk_l {i j : Int} (h : -(2 ^ 64) < i ∧ i < 2 ^ 64) : mulOk i j := .inl h
end T2
/-! T2O: loops by invariants. -/
namespace T2
open PySem
theorem loopF_ind {chk : DH → Prop} {g : GG} {p : SS} {K : En} (I : List D → S → DH → Prop) (hnil : ∀ σ h, I [] σ h → chk h ∧ K.nx σ h)
    (hcons : ∀ d ds σ h, I (d :: ds) σ h → chk h ∧ ∀ k : S → DH → Prop, (∀ σ h, I ds σ h → k σ h) → g d σ h (fun σ1 h1 => p (loopK K k) σ1 h1) fun x h' => K.ex x σ h') :
    ∀ {ds : List D} {σ : S} {h : DH}, I ds σ h → loopF chk g p K ds σ h
  | [], σ, h, i => hnil σ h i
  | d :: ds, σ, h, i => let ⟨a, b⟩ := hcons d ds σ h i; ⟨a, b _ fun σ h i => loopF_ind I hnil hcons i⟩
theorem loopC_ind {chk : DH → Prop} {g : GG} {t : BB} {e : EE} {p : Addr} {σ : S} {Q : QD} (I : List D → DH → Prop) (hnil : ∀ h, I [] h → chk h ∧ Q (.ref p) h)
    (hcons : ∀ d ds h, I (d :: ds) h → chk h ∧ ∀ k : DH → Prop, (∀ h, I ds h → k h) → g d σ h (fun σ1 h1 => t σ1 h1 (fun b h2 => if b = true then e σ1 h2 (fun y h3 => onLst (h3.f p) fun acc => acc.length < sizeLine ∧ k (h3.upd p (.lst (acc ++ [y])))) (fun _ _ => False) else k h2) fun _ _ => False) fun _ _ => False) :
    ∀ {ds : List D} {h : DH}, I ds h → loopC chk g t e p σ Q ds h
  | [], h, i => hnil h i
  | d :: ds, h, i => by
    obtain ⟨a, b⟩ := hcons d ds h i
    rw [loopC_cons]
    exact ⟨a, b _ fun h i => loopC_ind I hnil hcons i⟩
/-- a comprehension that changes nothing else: f tells the item, or that there is none -/
theorem loopC_fm {chk : DH → Prop} {g : GG} {t : BB} {e : EE} {p : Addr} {σ : S} {Q : QD} {h0 : DH} (f : D → Option D) {ds : List D} (hc : ∀ xs, chk (h0.upd p (.lst xs)))
    (hs : ∀ d ∈ ds, ∀ (xs : List D) (A : D → DH → Prop) (B : DH → Prop), (∀ y, f d = some y → A y (h0.upd p (.lst xs))) → (f d = none → B (h0.upd p (.lst xs))) →
      g d σ (h0.upd p (.lst xs)) (fun σ1 h1 => t σ1 h1 (fun b h2 => if b = true then e σ1 h2 A (fun _ _ => False) else B h2) fun _ _ => False) fun _ _ => False)
    {acc : List D} (hl : acc.length + ds.length ≤ sizeLine) (q : Q (.ref p) (h0.upd p (.lst (acc ++ ds.filterMap f)))) : loopC chk g t e p σ Q ds (h0.upd p (.lst acc)) := by
  induction ds generalizing acc with
  | nil =>
    rw [List.filterMap_nil, List.append_nil] at q
    exact ⟨hc _, q⟩
  | cons d ds ih =>
    rw [loopC_cons]
    simp only [List.length_cons] at hl
    refine ⟨hc _, hs d List.mem_cons_self acc _ _ (fun y hy => ?_) fun hn => ?_⟩
    · rw [DH.upd_f_same, onLst_lst, DH.upd_upd]
      refine ⟨by omega, ih (fun d hd => hs d (List.mem_cons_of_mem _ hd)) (by simp; omega) ?_⟩
      rw [List.append_assoc]
      rw [List.filterMap_cons, hy] at q
      exact q
    · rw [List.filterMap_cons, hn] at q
      exact ih (fun d hd => hs d (List.mem_cons_of_mem _ hd)) (by omega) q
/-- .. over the images of what the items stand for -/
theorem loopC_of {α : Type} {chk : DH → Prop} {g : GG} {t : BB} {e : EE} {p : Addr} {σ : S} {Q : QD} {h0 : DH} (i : α → D) (f : α → Option D) {xs : List α} {ds : List D} (hd : ds = xs.map i) (hc : ∀ ys, chk (h0.upd p (.lst ys)))
    (hs : ∀ x ∈ xs, ∀ (ys : List D) (A : D → DH → Prop) (B : DH → Prop), (∀ y, f x = some y → A y (h0.upd p (.lst ys))) → (f x = none → B (h0.upd p (.lst ys))) →
      g (i x) σ (h0.upd p (.lst ys)) (fun σ1 h1 => t σ1 h1 (fun b h2 => if b = true then e σ1 h2 A (fun _ _ => False) else B h2) fun _ _ => False) fun _ _ => False)
    {acc : List D} (hl : acc.length + xs.length ≤ sizeLine) (q : Q (.ref p) (h0.upd p (.lst (acc ++ xs.filterMap f)))) : loopC chk g t e p σ Q ds (h0.upd p (.lst acc)) := by
  subst hd
  induction xs generalizing acc with
  | nil =>
    rw [List.filterMap_nil, List.append_nil] at q
    exact ⟨hc _, q⟩
  | cons d ds ih =>
    rw [List.map_cons, loopC_cons]
    simp only [List.length_cons] at hl
    refine ⟨hc _, hs d List.mem_cons_self acc _ _ (fun y hy => ?_) fun hn => ?_⟩
    · rw [DH.upd_f_same, onLst_lst, DH.upd_upd]
      refine ⟨by omega, ih (fun d hd => hs d (List.mem_cons_of_mem _ hd)) (by simp; omega) ?_⟩
      rw [List.append_assoc]
      rw [List.filterMap_cons, hy] at q
      exact q
    · rw [List.filterMap_cons, hn] at q
      exact ih (fun d hd => hs d (List.mem_cons_of_mem _ hd)) (by omega) q
theorem fm_if {α : Type} (i : α → D) (p : α → Bool) : ∀ xs : List α, (xs.filterMap fun x => if p x = true then some (i x) else none) = (xs.filter p).map i
  | [] => rfl
  | x :: xs => by
    rw [List.filterMap_cons, List.filter_cons]
    cases p x <;> simp [fm_if i p xs]
theorem fm_map {α : Type} (i : α → D) : ∀ xs : List α, (xs.filterMap fun x => some (i x)) = xs.map i
  | [] => rfl
  | x :: xs => by
    rw [List.filterMap_cons, List.map_cons, fm_map i xs]
theorem sWhile_ind {t : BB} {p : SS} {K : En} (I : Nat → S → DH → Prop)
    (hs : ∀ m σ h, I m σ h → ∀ k : S → DH → Prop, (∀ m' σ h, m' < m → I m' σ h → k σ h) → t σ h (fun b h1 => if b = true then p (loopK K k) σ h1 else K.nx σ h1) fun x h' => K.ex x σ h')
    {m : Nat} {σ : S} {h : DH} (i : I m σ h) : sWhile t p K σ h := by
  have claim : ∀ n m σ h, m < n → I m σ h → loopW t p K n σ h := by
    intro n
    induction n with
    | zero => intro m σ h hm; omega
    | succ n ih =>
      intro m σ h hm i
      rw [loopW]
      exact hs m σ h i _ fun m' σ h hm' i' => ih m' σ h (by omega) i'
  exact ⟨m + 1, claim (m + 1) m σ h (Nat.lt_succ_self m) i⟩
end T2
namespace T2
open PySem
/-- a statement with what follows put aside -/
theorem sSeq_gen {p q : SS} {K : En} {σ : S} {h : DH} (f : ∀ K0 : En, K0 = thenK K (q K) → p K0 σ h) : sSeq p q K σ h := f _ rfl
/-! new cells only -/
def Ext (h h' : DH) : Prop := gcTo h h' = h
section
variable {h h' : DH} {p : Addr} {c c' : C}
theorem Ext.rfl : Ext h h := gcTo_self
theorem Ext.fresh (e : Ext h h') (n : h'.f p = none) : h.f p = none := by
  have := congrArg (fun u : DH => u.f p) e
  simp only [gcTo_f, n] at this
  split at this
  · exact this.symm
  · exact this.symm
theorem Ext.at_ (e : Ext h h') (k : h.f p = some c) : h'.f p = some c := by
  have := congrArg (fun u : DH => u.f p) e
  simp only [gcTo_f, k, Option.isSome_some, if_true] at this
  exact this
theorem Ext.set (e : Ext h h') (n : h.f p = none) : Ext h (h'.upd p c) := by
  unfold Ext
  rw [gcTo_new n]
  exact e
theorem Ext.new (e : Ext h h') (n : h'.f p = none) : Ext h (h'.upd p c) := e.set (e.fresh n)
theorem Ext.ne {a : Addr} (k : h.f a = some c) (n : h.f p = none) : a ≠ p := ne_of_cells k n
end
end T2
/-! T2P: expressions that only read, in direct style. -/
namespace T2
open PySem
abbrev PF := S → DH → Option D
abbrev PB := S → DH → Option Bool
abbrev PL := S → DH → Option (List D)
def ePure (f : PF) : EE := fun σ h Q _ => onSome (f σ h) fun d => Q d h
def bPure (f : PB) : BB := fun σ h P _ => onSome (f σ h) fun k => P k h
def aPure (f : PL) : AA := fun σ h L _ => onSome (f σ h) fun k => L k h
def oVar (i : Nat) : PF := fun σ _ => match σ[i]? with
  | some o => o
  | none => none
def oC (d : D) : PF := fun _ _ => some d
def o2 {α β γ : Type} (f : S → DH → Option α) (g : S → DH → Option β) (o : α → β → DH → Option γ) : S → DH → Option γ := fun σ h => match f σ h, g σ h with
  | some x, some y => o x y h
  | _, _ => none
def o1 {α β : Type} (f : S → DH → Option α) (o : α → DH → Option β) : S → DH → Option β := fun σ h => match f σ h with
  | some x => o x h
  | none => none
def whenP (p : Prop) [Decidable p] (d : D) : Option D := if p then some d else none
instance (i j : Int) : Decidable (mulOk i j) := inferInstanceAs (Decidable (_ ∨ _))
instance (j : Int) : Decidable (divOk j) := inferInstanceAs (Decidable (_ ∧ _))
instance (i j : Int) : Decidable (powOk i j) := inferInstanceAs (Decidable (_ ∧ _))
def pAdd : D → D → DH → Option D
  | .int i, .int j, _ => some (.int (i + j))
  | .str x, .str y, _ => whenP (x.length + y.length ≤ sizeLine) (.str (x ++ y))
  | .tup x, .tup y, _ => whenP (x.length + y.length ≤ sizeLine) (.tup (x ++ y))
  | _, _, _ => none
def pSub : D → D → DH → Option D
  | .int i, .int j, _ => some (.int (i - j))
  | _, _, _ => none
def pMul : D → D → DH → Option D
  | .int i, .int j, _ => whenP (mulOk i j) (.int (i * j))
  | _, _, _ => none
def pDiv : D → D → DH → Option D
  | .int i, .int j, _ => whenP (divOk j) (.int (i / j))
  | _, _, _ => none
def pMod : D → D → DH → Option D
  | .int i, .int j, _ => whenP (0 < j) (.int (i % j))
  | _, _, _ => none
def pPow : D → D → DH → Option D
  | .int i, .int j, _ => whenP (powOk i j) (.int (i ^ j.toNat))
  | _, _, _ => none
def pNeg : D → DH → Option D
  | .int i, _ => some (.int (-i))
  | _, _ => none
def pLt : D → D → DH → Option D
  | .int i, .int j, _ => some (.bl (decide (i < j)))
  | .str x, .str y, _ => some (.bl (decide (x.cps.toList < y.cps.toList)))
  | _, _, _ => none
def pLe : D → D → DH → Option D
  | .int i, .int j, _ => some (.bl (decide (i ≤ j)))
  | _, _, _ => none
def pGt : D → D → DH → Option D
  | .int i, .int j, _ => some (.bl (decide (j < i)))
  | _, _, _ => none
def pGe : D → D → DH → Option D
  | .int i, .int j, _ => some (.bl (decide (j ≤ i)))
  | _, _, _ => none
def isRef : D → Bool
  | .ref _ => true
  | _ => false
def pEq (x y : D) (_ : DH) : Option D := match x, y with
  | .int i, .int j => some (.bl (decide (i = j)))
  | .str i, .str j => some (.bl (decide (i = j)))
  | .bl i, .bl j => some (.bl (i == j))
  | x, y => whenP (isRef x = false ∧ D.plain 62 x = true ∧ D.plain 62 y = true) (.bl (D.eqv x y))
def notD : Option D → Option D
  | some (.bl b) => some (.bl (!b))
  | _ => none
def pNe (x y : D) (h : DH) : Option D := notD (pEq x y h)
def pIs : D → D → DH → Option D
  | x, .non, _ => some (.bl (isNone x))
  | _, _, _ => none
def pIsNot : D → D → DH → Option D
  | x, .non, _ => some (.bl (!isNone x))
  | _, _, _ => none
def pIx (x y : D) (h : DH) : Option D := match y with
  | .int i => (match x with
    | .tup xs => nth xs i
    | .ref a => (match seqAt h a with
      | some xs => nth xs i
      | none => (match h.f a with
        | some (.dk kvs) => getK kvs (.inl i)
        | _ => none))
    | _ => none)
  | .str z => (match x with
    | .ref a => (match h.f a with
      | some (.dk kvs) => getK kvs (.inr z)
      | _ => none)
    | _ => none)
  | _ => none
def pLen (x : D) (h : DH) : Option D := match x with
  | .tup xs => some (.int xs.length)
  | .str z => whenP (z.length ≤ sizeLine) (.int z.length)
  | .ref a => (match seqAt h a with
    | some xs => some (.int xs.length)
    | none => (match h.f a with
      | some (.dk kvs) => some (.int kvs.length)
      | _ => none))
  | _ => none
def pAbs : D → DH → Option D
  | .int i, _ => some (.int (if i < 0 then -i else i))
  | _, _ => none
def pInt : D → DH → Option D
  | .int i, _ => some (.int i)
  | .bl b, _ => some (.int (if b then 1 else 0))
  | _, _ => none
def pMax2 : D → D → DH → Option D
  | .int i, .int j, _ => some (.int (if j > i then j else i))
  | _, _, _ => none
def pMin2 : D → D → DH → Option D
  | .int i, .int j, _ => some (.int (if j < i then j else i))
  | _, _, _ => none
def pTuple (x : D) (h : DH) : Option D := match x with
  | .tup xs => some (.tup xs)
  | .ref a => (match seqAt h a with
    | some xs => some (.tup xs)
    | none => none)
  | _ => none
def pIsa (t : Ty) (x : D) (h : DH) : Option D := match x with
  | .non => some (.bl false)
  | x => (match tyOf x h with
    | some u => some (.bl (isa u t))
    | none => none)
/-- truth -/
def pTru (x : D) (h : DH) : Option Bool := match x with
  | .non => some false
  | .bl b => some b
  | .int i => some (!decide (i = 0))
  | .tup xs => some (!xs.isEmpty)
  | .ref a => (match seqAt h a with
    | some xs => some (!xs.isEmpty)
    | none => none)
  | _ => none
def pB (b : Bool) : Option D := some (.bl b)
def oAndB (f g : PB) : PB := fun σ h => match f σ h with
  | some true => g σ h
  | some false => some false
  | none => none
def oOrB (f g : PB) : PB := fun σ h => match f σ h with
  | some true => some true
  | some false => g σ h
  | none => none
def oNotB (f : PB) : PB := fun σ h => (f σ h).map (!·)
def oAndE (f g : PF) : PF := fun σ h => match f σ h with
  | some x => (match pTru x h with
    | some true => g σ h
    | some false => some x
    | none => none)
  | none => none
def oOrE (f g : PF) : PF := fun σ h => match f σ h with
  | some x => (match pTru x h with
    | some true => some x
    | some false => g σ h
    | none => none)
  | none => none
def oNotE (f : PF) : PF := fun σ h => match f σ h with
  | some x => (match pTru x h with
    | some b => some (.bl !b)
    | none => none)
  | none => none
def oIf (t : PB) (f g : PF) : PF := fun σ h => match t σ h with
  | some true => f σ h
  | some false => g σ h
  | none => none
def oChain (r s : D → D → DH → Option D) (f g k : PF) : PF := fun σ h => match f σ h, g σ h with
  | some x, some y => (match r x y h with
    | some (.bl true) => (match k σ h with
      | some z => s y z h
      | none => none)
    | some (.bl false) => some (.bl false)
    | _ => none)
  | _, _ => none
def oNil : PL := fun _ _ => some []
def oCons (f : PF) (g : PL) : PL := fun σ h => match f σ h, g σ h with
  | some x, some xs => some (x :: xs)
  | _, _ => none
def oTup (f : PL) : PF := fun σ h => (f σ h).map .tup

/-! ### they are the readings -/
def Pu (a : EE) (f : PF) : Prop := ∀ (σ : S) (h : DH) (Q : QD) (E : QX), ePure f σ h Q E → a σ h Q E
def PuB (a : BB) (f : PB) : Prop := ∀ (σ : S) (h : DH) (Q : Bool → DH → Prop) (E : QX), bPure f σ h Q E → a σ h Q E
def PuA (a : AA) (f : PL) : Prop := ∀ (σ : S) (h : DH) (Q : List D → DH → Prop) (E : QX), aPure f σ h Q E → a σ h Q E
def PuR2 (r : R2) (o : D → D → DH → Option D) : Prop := ∀ x y h d (Q : QD), o x y h = some d → Q d h → r x y h Q
def PuR1 (r : R1) (o : D → DH → Option D) : Prop := ∀ x h d (Q : QD), o x h = some d → Q d h → r x h Q
theorem onSome_ex {α : Type} {o : Option α} {P : α → Prop} (q : onSome o P) : ∃ d, o = some d ∧ P d := by
  cases o with
  | none => exact q.elim
  | some d => exact ⟨d, rfl, q⟩
theorem whenP_ex {p : Prop} [Decidable p] {d d' : D} (e : whenP p d = some d') : p ∧ d = d' := by
  unfold whenP at e
  split at e
  · cases e
    exact ⟨by assumption, rfl⟩
  · cases e
variable {a b c : EE} {f g k : PF} {r s : R2} {o o' : D → D → DH → Option D} {t u : BB} {ft fu : PB} {as : AA} {fs : PL}
theorem pu_var {i : Nat} : Pu (eVar i) (oVar i) := fun σ h Q E q => by
  obtain ⟨d, e, q⟩ := onSome_ex q
  unfold oVar at e
  unfold eVar
  split at e
  · rename_i o ho
    cases e
    rw [ho]
    exact q
  · cases e
theorem pu_c {d : D} : Pu (eC d) (oC d) := fun σ h Q E q => q
theorem o2_ex {α β γ : Type} {f : S → DH → Option α} {g : S → DH → Option β} {o : α → β → DH → Option γ} {σ : S} {h : DH} {d : γ} (e : o2 f g o σ h = some d) : ∃ x y, f σ h = some x ∧ g σ h = some y ∧ o x y h = some d := by
  unfold o2 at e
  split at e
  · rename_i x y h1 h2
    exact ⟨x, y, h1, h2, e⟩
  · cases e
theorem pu_bin (hr : PuR2 r o) (ha : Pu a f) (hb : Pu b g) : Pu (eBin r a b) (o2 f g o) := fun σ h Q E q => by
  obtain ⟨d, e, q⟩ := onSome_ex q
  obtain ⟨x, y, h1, h2, h3⟩ := o2_ex e
  refine ha _ _ _ _ ?_
  unfold ePure
  rw [h1]
  refine hb _ _ _ _ ?_
  unfold ePure
  rw [h2]
  exact hr _ _ _ _ _ h3 q
theorem o1_ex {α β : Type} {f : S → DH → Option α} {o : α → DH → Option β} {σ : S} {h : DH} {d : β} (e : o1 f o σ h = some d) : ∃ x, f σ h = some x ∧ o x h = some d := by
  unfold o1 at e
  split at e
  · rename_i x h1
    exact ⟨x, h1, e⟩
  · cases e
theorem pu_un {r : R1} {o : D → DH → Option D} (hr : PuR1 r o) (ha : Pu a f) : Pu (eUn r a) (o1 f o) := fun σ h Q E q => by
  obtain ⟨d, e, q⟩ := onSome_ex q
  obtain ⟨x, h1, h3⟩ := o1_ex e
  refine ha _ _ _ _ ?_
  unfold ePure
  rw [h1]
  exact hr _ _ _ _ h3 q
theorem pur_add : PuR2 rAdd pAdd := fun x y h d Q e q => by
  cases x <;> cases y <;> first | (cases e; exact q) | (obtain ⟨h1, rfl⟩ := whenP_ex e; exact ⟨h1, q⟩) | cases e
theorem pur_sub : PuR2 rSub pSub := fun x y h d Q e q => by
  cases x <;> cases y <;> first | (cases e; exact q) | cases e
theorem pur_mul : PuR2 rMul pMul := fun x y h d Q e q => by
  cases x <;> cases y <;> first | (obtain ⟨h1, rfl⟩ := whenP_ex e; exact ⟨h1, q⟩) | cases e
theorem pur_div : PuR2 rDiv pDiv := fun x y h d Q e q => by
  cases x <;> cases y <;> first | (obtain ⟨h1, rfl⟩ := whenP_ex e; exact ⟨h1, q⟩) | cases e
theorem pur_mod : PuR2 rMod pMod := fun x y h d Q e q => by
  cases x <;> cases y <;> first | (obtain ⟨h1, rfl⟩ := whenP_ex e; exact ⟨h1, q⟩) | cases e
theorem pur_pow : PuR2 rPow pPow := fun x y h d Q e q => by
  cases x <;> cases y <;> first | (obtain ⟨h1, rfl⟩ := whenP_ex e; exact ⟨h1, q⟩) | cases e
theorem pur_neg : PuR1 rNeg pNeg := fun x h d Q e q => by
  cases x <;> first | (cases e; exact q) | cases e
theorem pur_lt : PuR2 rLt pLt := fun x y h d Q e q => by
  cases x <;> cases y <;> first | (cases e; exact q) | cases e
theorem pur_le : PuR2 rLe pLe := fun x y h d Q e q => by
  cases x <;> cases y <;> first | (cases e; exact q) | cases e
theorem pur_gt : PuR2 rGt pGt := fun x y h d Q e q => by
  cases x <;> cases y <;> first | (cases e; exact q) | cases e
theorem pur_ge : PuR2 rGe pGe := fun x y h d Q e q => by
  cases x <;> cases y <;> first | (cases e; exact q) | cases e
theorem pur_eq : PuR2 rEq pEq := fun x y h d Q e q => by
  cases x <;> cases y <;> first | (cases e; exact q) | (obtain ⟨⟨h0, h1, h2⟩, rfl⟩ := whenP_ex e; first | exact ⟨h1, h2, q⟩ | exact absurd h0 (by simp [isRef]))
theorem pur_ne : PuR2 rNe pNe := fun x y h d Q e q => by
  unfold pNe at e
  cases e2 : pEq x y h with
  | none =>
    rw [e2] at e
    cases e
  | some z =>
    rw [e2] at e
    cases z <;> first | (cases e; exact pur_eq _ _ _ _ _ e2 q) | cases e
theorem pur_is : PuR2 rIs pIs := fun x y h d Q e q => by
  cases y <;> first | (cases x <;> cases e <;> exact q) | (cases x <;> cases e)
theorem pur_isNot : PuR2 rIsNot pIsNot := fun x y h d Q e q => by
  cases y <;> first | (cases x <;> cases e <;> exact q) | (cases x <;> cases e)
theorem pur_ix : PuR2 rIx pIx := fun x y h d Q e q => by
  cases y with
  | int i =>
    cases x with
    | tup xs =>
      rw [rIx_tup]
      have e2 : nth xs i = some d := e
      rw [e2]
      exact q
    | ref l =>
      have e2 : (match seqAt h l with
        | some xs => nth xs i
        | none => (match h.f l with
          | some (.dk kvs) => getK kvs (.inl i)
          | _ => none)) = some d := e
      cases e3 : seqAt h l with
      | some xs =>
        rw [e3] at e2
        dsimp only at e2
        rw [rIx_ref e3, e2]
        exact q
      | none =>
        rw [e3] at e2
        dsimp only at e2
        split at e2
        · rename_i kvs e4
          rw [rIx_dki e4, e2]
          exact q
        · cases e2
    | _ => cases e
  | str z =>
    cases x with
    | ref l =>
      have e2 : (match h.f l with
        | some (.dk kvs) => getK kvs (.inr z)
        | _ => none) = some d := e
      split at e2
      · rename_i kvs e4
        rw [rIx_dk e4, e2]
        exact q
      · cases e2
    | _ => cases e
  | _ => cases x <;> cases e
theorem pu_bi1 {r : RL} {o : D → DH → Option D} (hr : ∀ x h d (Q : QD), o x h = some d → Q d h → r [x] h Q) (ha : Pu a f) : Pu (eBi r (aCons a aNil)) (o1 f o) := fun σ h Q E q => by
  obtain ⟨d, e, q⟩ := onSome_ex q
  obtain ⟨x, h1, h3⟩ := o1_ex e
  refine ha _ _ _ _ ?_
  unfold ePure
  rw [h1]
  exact hr _ _ _ _ h3 q
theorem pu_bi2 {r : RL} (hr : ∀ x y h d (Q : QD), o x y h = some d → Q d h → r [x, y] h Q) (ha : Pu a f) (hb : Pu b g) : Pu (eBi r (aCons a (aCons b aNil))) (o2 f g o) := fun σ h Q E q => by
  obtain ⟨d, e, q⟩ := onSome_ex q
  obtain ⟨x, y, h1, h2, h3⟩ := o2_ex e
  refine ha _ _ _ _ ?_
  unfold ePure
  rw [h1]
  refine hb _ _ _ _ ?_
  unfold ePure
  rw [h2]
  exact hr _ _ _ _ _ h3 q
theorem pu_isa {ty : Ty} (ha : Pu a f) : Pu (eBi bIsa (aCons a (aCons (eC (.ty ty)) aNil))) (o1 f (pIsa ty)) := fun σ h Q E q => by
  obtain ⟨d, e, q⟩ := onSome_ex q
  obtain ⟨x, h1, h3⟩ := o1_ex e
  refine ha _ _ _ _ ?_
  unfold ePure
  rw [h1]
  show bIsa [x, .ty ty] h Q
  rw [bIsa_ap]
  unfold pIsa at h3
  cases x <;> first | (cases h3; exact q) | (dsimp only at h3 ⊢; split at h3 <;> first | (rename_i e2; cases h3; rw [e2]; exact q) | cases h3)
theorem pur_len : ∀ x h d (Q : QD), pLen x h = some d → Q d h → bLen [x] h Q := fun x h d Q e q => by
  unfold pLen at e
  cases x with
  | tup xs =>
    cases e
    exact q
  | str z =>
    obtain ⟨h1, rfl⟩ := whenP_ex e
    exact ⟨h1, q⟩
  | ref l =>
    dsimp only at e
    cases e3 : seqAt h l with
    | some xs =>
      rw [e3] at e
      cases e
      rw [bLen_ref e3]
      exact q
    | none =>
      rw [e3] at e
      dsimp only at e
      split at e
      · rename_i kvs e4
        cases e
        unfold bLen
        simp only [e4]
        exact q
      · cases e
  | _ => cases e
theorem pur_abs : ∀ x h d (Q : QD), pAbs x h = some d → Q d h → bAbs [x] h Q := fun x h d Q e q => by
  cases x <;> first | (cases e; exact q) | cases e
theorem pur_int : ∀ x h d (Q : QD), pInt x h = some d → Q d h → bInt [x] h Q := fun x h d Q e q => by
  cases x <;> first | (cases e; exact q) | cases e
theorem pur_tuple : ∀ x h d (Q : QD), pTuple x h = some d → Q d h → bTuple [x] h Q := fun x h d Q e q => by
  cases x with
  | tup xs =>
    cases e
    exact q
  | ref l =>
    unfold pTuple at e
    dsimp only at e
    split at e
    · rename_i e3
      cases e
      rw [bTuple_ref e3]
      exact q
    · cases e
  | _ => cases e
theorem pur_max2 : ∀ x y h d (Q : QD), pMax2 x y h = some d → Q d h → bMax2 [x, y] h Q := fun x y h d Q e q => by
  cases x <;> cases y <;> first | (cases e; exact q) | cases e
theorem pur_min2 : ∀ x y h d (Q : QD), pMin2 x y h = some d → Q d h → bMin2 [x, y] h Q := fun x y h d Q e q => by
  cases x <;> cases y <;> first | (cases e; exact q) | cases e
theorem pTru_ok {x : D} {h : DH} {b : Bool} {F : Bool → Prop} (e : pTru x h = some b) (q : F b) : tru x h F := by
  cases x with
  | ref l =>
    unfold pTru at e
    dsimp only at e
    split at e
    · rename_i e3
      cases e
      rw [tru_ref e3]
      exact q
    · cases e
  | _ => first | (cases e; exact q) | cases e
theorem pu_e (ha : Pu a f) : PuB (bE a) (o1 f pTru) := fun σ h Q E q => by
  obtain ⟨d, e, q⟩ := onSome_ex q
  obtain ⟨x, h1, h3⟩ := o1_ex e
  refine ha _ _ _ _ ?_
  unfold ePure
  rw [h1]
  exact pTru_ok h3 q
theorem pub_and (ht : PuB t ft) (hu : PuB u fu) : PuB (bAnd t u) (oAndB ft fu) := fun σ h Q E q => by
  obtain ⟨d, e, q⟩ := onSome_ex q
  unfold oAndB at e
  refine ht _ _ _ _ ?_
  unfold bPure
  split at e
  · rename_i h1
    rw [h1]
    refine hu _ _ _ _ ?_
    unfold bPure
    rw [e]
    exact q
  · rename_i h1
    rw [h1]
    cases e
    exact q
  · cases e
theorem pub_or (ht : PuB t ft) (hu : PuB u fu) : PuB (bOr t u) (oOrB ft fu) := fun σ h Q E q => by
  obtain ⟨d, e, q⟩ := onSome_ex q
  unfold oOrB at e
  refine ht _ _ _ _ ?_
  unfold bPure
  split at e
  · rename_i h1
    rw [h1]
    cases e
    exact q
  · rename_i h1
    rw [h1]
    refine hu _ _ _ _ ?_
    unfold bPure
    rw [e]
    exact q
  · cases e
theorem pub_not (ht : PuB t ft) : PuB (bNot t) (oNotB ft) := fun σ h Q E q => by
  obtain ⟨d, e, q⟩ := onSome_ex q
  unfold oNotB at e
  refine ht _ _ _ _ ?_
  unfold bPure
  cases h1 : ft σ h with
  | none =>
    rw [h1] at e
    cases e
  | some b =>
    rw [h1] at e
    cases e
    exact q
theorem pu_and (ha : Pu a f) (hb : Pu b g) : Pu (eAnd a b) (oAndE f g) := fun σ h Q E q => by
  obtain ⟨d, e, q⟩ := onSome_ex q
  unfold oAndE at e
  refine ha _ _ _ _ ?_
  unfold ePure
  split at e
  · rename_i x h1
    rw [h1]
    split at e
    · rename_i h2
      refine pTru_ok h2 (hb _ _ _ _ ?_)
      unfold ePure
      rw [e]
      exact q
    · rename_i h2
      cases e
      exact pTru_ok h2 q
    · cases e
  · cases e
theorem pu_or (ha : Pu a f) (hb : Pu b g) : Pu (eOr a b) (oOrE f g) := fun σ h Q E q => by
  obtain ⟨d, e, q⟩ := onSome_ex q
  unfold oOrE at e
  refine ha _ _ _ _ ?_
  unfold ePure
  split at e
  · rename_i x h1
    rw [h1]
    split at e
    · rename_i h2
      cases e
      exact pTru_ok h2 q
    · rename_i h2
      refine pTru_ok h2 (hb _ _ _ _ ?_)
      unfold ePure
      rw [e]
      exact q
    · cases e
  · cases e
theorem pu_not (ha : Pu a f) : Pu (eNot a) (oNotE f) := fun σ h Q E q => by
  obtain ⟨d, e, q⟩ := onSome_ex q
  unfold oNotE at e
  refine ha _ _ _ _ ?_
  unfold ePure
  split at e
  · rename_i x h1
    rw [h1]
    split at e
    · rename_i h2
      cases e
      exact pTru_ok h2 q
    · cases e
  · cases e
theorem pu_if (ht : PuB t ft) (ha : Pu a f) (hb : Pu b g) : Pu (eIf t a b) (oIf ft f g) := fun σ h Q E q => by
  obtain ⟨d, e, q⟩ := onSome_ex q
  unfold oIf at e
  refine ht _ _ _ _ ?_
  unfold bPure
  split at e
  · rename_i h1
    rw [h1]
    refine ha _ _ _ _ ?_
    unfold ePure
    rw [e]
    exact q
  · rename_i h1
    rw [h1]
    refine hb _ _ _ _ ?_
    unfold ePure
    rw [e]
    exact q
  · cases e
theorem pu_chain (hr : PuR2 r o) (hs : PuR2 s o') (ha : Pu a f) (hb : Pu b g) (hc : Pu c k) : Pu (eChain r s a b c) (oChain o o' f g k) := fun σ h Q E q => by
  obtain ⟨d, e, q⟩ := onSome_ex q
  unfold oChain at e
  rw [eChain_ap]
  refine ha _ _ _ _ ?_
  unfold ePure
  split at e
  · rename_i x y h1 h2
    rw [h1]
    refine hb _ _ _ _ ?_
    unfold ePure
    rw [h2]
    split at e
    · rename_i h3
      refine hr _ _ _ _ _ h3 ?_
      split at e
      · rename_i z h4
        refine hc _ _ _ _ ?_
        unfold ePure
        rw [h4]
        exact hs _ _ _ _ _ e q
      · cases e
    · rename_i h3
      refine hr _ _ _ _ _ h3 ?_
      cases e
      exact q
    · cases e
  · cases e
theorem pua_nil : PuA aNil oNil := fun σ h Q E q => q
theorem pua_cons (ha : Pu a f) (hs : PuA as fs) : PuA (aCons a as) (oCons f fs) := fun σ h Q E q => by
  obtain ⟨d, e, q⟩ := onSome_ex q
  unfold oCons at e
  refine ha _ _ _ _ ?_
  unfold ePure
  split at e
  · rename_i x xs h1 h2
    rw [h1]
    refine hs _ _ _ _ ?_
    unfold aPure
    rw [h2]
    cases e
    exact q
  · cases e
theorem pu_tup (hs : PuA as fs) : Pu (eTup as) (oTup fs) := fun σ h Q E q => by
  obtain ⟨d, e, q⟩ := onSome_ex q
  unfold oTup at e
  refine hs _ _ _ _ ?_
  unfold aPure
  cases h1 : fs σ h with
  | none =>
    rw [h1] at e
    cases e
  | some x =>
    rw [h1] at e
    cases e
    exact q

/-! ### running them by rewriting: no binders -/
def b2 {α β γ : Type} (a : Option α) (b : Option β) (o : α → β → DH → Option γ) (h : DH) : Option γ := match a, b with
  | some x, some y => o x y h
  | _, _ => none
def b1 {α β : Type} (a : Option α) (o : α → DH → Option β) (h : DH) : Option β := match a with
  | some x => o x h
  | none => none
def andO (a b : Option Bool) : Option Bool := match a with
  | some true => b
  | some false => some false
  | none => none
def orO (a b : Option Bool) : Option Bool := match a with
  | some true => some true
  | some false => b
  | none => none
def andV (a b : Option D) (h : DH) : Option D := match a with
  | some x => (match pTru x h with
    | some true => b
    | some false => some x
    | none => none)
  | none => none
def orV (a b : Option D) (h : DH) : Option D := match a with
  | some x => (match pTru x h with
    | some true => some x
    | some false => b
    | none => none)
  | none => none
def notV (a : Option D) (h : DH) : Option D := match a with
  | some x => (match pTru x h with
    | some b => some (.bl !b)
    | none => none)
  | none => none
def ifO (t : Option Bool) (a b : Option D) : Option D := match t with
  | some true => a
  | some false => b
  | none => none
def chainO (r s : D → D → DH → Option D) (a b c : Option D) (h : DH) : Option D := match a, b with
  | some x, some y => (match r x y h with
    | some (.bl true) => (match c with
      | some z => s y z h
      | none => none)
    | some (.bl false) => some (.bl false)
    | _ => none)
  | _, _ => none
def consO (a : Option D) (b : Option (List D)) : Option (List D) := match a, b with
  | some x, some xs => some (x :: xs)
  | _, _ => none
def tupO (a : Option (List D)) : Option D := match a with
  | some x => some (.tup x)
  | none => none
def notO (a : Option Bool) : Option Bool := match a with
  | some x => some (!x)
  | none => none
section
variable {σ : S} {h : DH} {Q : QD} {E : QX} {P : Bool → DH → Prop} {L : List D → DH → Prop} {d e : D} {p q : Bool} {x y z : Int}
@[simp] theorem ePure_ap : ePure f σ h Q E = onSome (f σ h) fun d => Q d h := rfl
@[simp] theorem bPure_ap : bPure ft σ h P E = onSome (ft σ h) fun d => P d h := rfl
@[simp] theorem aPure_ap : aPure fs σ h L E = onSome (fs σ h) fun d => L d h := rfl
@[simp] theorem oVar_zero : oVar 0 (some d :: σ) h = some d := rfl
@[simp] theorem oVar_succ {u : Option D} {n : Nat} : oVar (n + 1) (u :: σ) h = oVar n σ h := rfl
@[simp] theorem oC_ap : oC d σ h = some d := rfl
@[simp] theorem o2_ap {α β γ : Type} {f : S → DH → Option α} {g : S → DH → Option β} {o : α → β → DH → Option γ} : o2 f g o σ h = b2 (f σ h) (g σ h) o h := rfl
@[simp] theorem b2_some {α β γ : Type} {a : α} {b : β} {o : α → β → DH → Option γ} : b2 (some a) (some b) o h = o a b h := rfl
@[simp] theorem o1_ap {α β : Type} {f : S → DH → Option α} {o : α → DH → Option β} : o1 f o σ h = b1 (f σ h) o h := rfl
@[simp] theorem b1_some {α β : Type} {a : α} {o : α → DH → Option β} : b1 (some a) o h = o a h := rfl
@[simp] theorem oAndB_ap : oAndB ft fu σ h = andO (ft σ h) (fu σ h) := rfl
@[simp] theorem oOrB_ap : oOrB ft fu σ h = orO (ft σ h) (fu σ h) := rfl
@[simp] theorem oNotB_ap : oNotB ft σ h = notO (ft σ h) := by
  unfold oNotB notO
  cases ft σ h <;> rfl
@[simp] theorem notO_some : notO (some p) = some (!p) := rfl
@[simp] theorem andO_some : andO (some p) (some q) = some (p && q) := by cases p <;> rfl
@[simp] theorem orO_some : orO (some p) (some q) = some (p || q) := by cases p <;> rfl
@[simp] theorem andO_false {b : Option Bool} : andO (some false) b = some false := rfl
@[simp] theorem andO_true {b : Option Bool} : andO (some true) b = b := rfl
@[simp] theorem orO_true {b : Option Bool} : orO (some true) b = some true := rfl
@[simp] theorem orO_false {b : Option Bool} : orO (some false) b = b := rfl
@[simp] theorem oAndE_ap : oAndE f g σ h = andV (f σ h) (g σ h) h := rfl
@[simp] theorem oOrE_ap : oOrE f g σ h = orV (f σ h) (g σ h) h := rfl
@[simp] theorem oNotE_ap : oNotE f σ h = notV (f σ h) h := rfl
@[simp] theorem andV_bl : andV (some (.bl p)) (some (.bl q)) h = some (.bl (p && q)) := by cases p <;> rfl
@[simp] theorem orV_bl : orV (some (.bl p)) (some (.bl q)) h = some (.bl (p || q)) := by cases p <;> rfl
@[simp] theorem andV_f {b : Option D} : andV (some (.bl false)) b h = some (.bl false) := rfl
@[simp] theorem andV_t {b : Option D} : andV (some (.bl true)) b h = b := rfl
@[simp] theorem orV_f {b : Option D} : orV (some (.bl false)) b h = b := rfl
@[simp] theorem orV_t {b : Option D} : orV (some (.bl true)) b h = some (.bl true) := rfl
@[simp] theorem notV_bl : notV (some (.bl p)) h = some (.bl (!p)) := rfl
@[simp] theorem oIf_ap : oIf ft f g σ h = ifO (ft σ h) (f σ h) (g σ h) := rfl
@[simp] theorem ifO_some {a b : Option D} : ifO (some p) a b = if p = true then a else b := by cases p <;> rfl
@[simp] theorem oChain_ap : oChain o o' f g k σ h = chainO o o' (f σ h) (g σ h) (k σ h) h := rfl
@[simp] theorem chain_lele : chainO pLe pLe (some (.int x)) (some (.int y)) (some (.int z)) h = some (.bl (decide (x ≤ y) && decide (y ≤ z))) := by
  unfold chainO
  simp only [pLe]
  cases decide (x ≤ y) <;> rfl
@[simp] theorem chain_lelt : chainO pLe pLt (some (.int x)) (some (.int y)) (some (.int z)) h = some (.bl (decide (x ≤ y) && decide (y < z))) := by
  unfold chainO
  simp only [pLe, pLt]
  cases decide (x ≤ y) <;> rfl
@[simp] theorem chain_ltle : chainO pLt pLe (some (.int x)) (some (.int y)) (some (.int z)) h = some (.bl (decide (x < y) && decide (y ≤ z))) := by
  unfold chainO
  simp only [pLe, pLt]
  cases decide (x < y) <;> rfl
@[simp] theorem chain_ltlt : chainO pLt pLt (some (.int x)) (some (.int y)) (some (.int z)) h = some (.bl (decide (x < y) && decide (y < z))) := by
  unfold chainO
  simp only [pLt]
  cases decide (x < y) <;> rfl
@[simp] theorem oNil_ap : oNil σ h = some [] := rfl
@[simp] theorem oCons_ap : oCons f fs σ h = consO (f σ h) (fs σ h) := rfl
@[simp] theorem consO_some {xs : List D} : consO (some d) (some xs) = some (d :: xs) := rfl
@[simp] theorem oTup_ap : oTup fs σ h = tupO (fs σ h) := by
  unfold oTup tupO
  cases fs σ h <;> rfl
@[simp] theorem tupO_some {xs : List D} : tupO (some xs) = some (.tup xs) := rfl
@[simp] theorem whenP_true : whenP True d = some d := if_pos trivial
theorem whenP_of {pp : Prop} [Decidable pp] (hp : pp) : whenP pp d = some d := if_pos hp
@[simp] theorem pAdd_int : pAdd (.int x) (.int y) h = some (.int (x + y)) := rfl
@[simp] theorem pAdd_tup {xs ys : List D} : pAdd (.tup xs) (.tup ys) h = whenP (xs.length + ys.length ≤ sizeLine) (.tup (xs ++ ys)) := rfl
@[simp] theorem pSub_int : pSub (.int x) (.int y) h = some (.int (x - y)) := rfl
@[simp] theorem pMul_int : pMul (.int x) (.int y) h = whenP (mulOk x y) (.int (x * y)) := rfl
@[simp] theorem pDiv_int : pDiv (.int x) (.int y) h = whenP (divOk y) (.int (x / y)) := rfl
@[simp] theorem pMod_int : pMod (.int x) (.int y) h = whenP (0 < y) (.int (x % y)) := rfl
@[simp] theorem pPow_int : pPow (.int x) (.int y) h = whenP (powOk x y) (.int (x ^ y.toNat)) := rfl
@[simp] theorem pNeg_int : pNeg (.int x) h = some (.int (-x)) := rfl
@[simp] theorem pLt_int : pLt (.int x) (.int y) h = some (.bl (decide (x < y))) := rfl
@[simp] theorem pLe_int : pLe (.int x) (.int y) h = some (.bl (decide (x ≤ y))) := rfl
@[simp] theorem pGt_int : pGt (.int x) (.int y) h = some (.bl (decide (y < x))) := rfl
@[simp] theorem pGe_int : pGe (.int x) (.int y) h = some (.bl (decide (y ≤ x))) := rfl
@[simp] theorem pEq_int : pEq (.int x) (.int y) h = some (.bl (decide (x = y))) := rfl
@[simp] theorem pEq_str {u v : Str} : pEq (.str u) (.str v) h = some (.bl (decide (u = v))) := rfl
@[simp] theorem pEq_bl : pEq (.bl p) (.bl q) h = some (.bl (p == q)) := rfl
@[simp] theorem pNe_int : pNe (.int x) (.int y) h = some (.bl (!decide (x = y))) := rfl
@[simp] theorem pNe_str {u v : Str} : pNe (.str u) (.str v) h = some (.bl (!decide (u = v))) := rfl
@[simp] theorem pIs_non : pIs d .non h = some (.bl (isNone d)) := by cases d <;> rfl
@[simp] theorem pIsNot_non : pIsNot d .non h = some (.bl (!isNone d)) := by cases d <;> rfl
@[simp] theorem pIx_tup {xs : List D} : pIx (.tup xs) (.int x) h = nth xs x := rfl
theorem pIx_ref {l : Addr} {xs : List D} (e : seqAt h l = some xs) : pIx (.ref l) (.int x) h = nth xs x := by
  show (match seqAt h l with
    | some xs => nth xs x
    | none => (match h.f l with
      | some (.dk kvs) => getK kvs (.inl x)
      | _ => none)) = _
  rw [e]
theorem pIx_dk {l : Addr} {kvs : List (Ky × D)} {u : Str} (e : h.f l = some (.dk kvs)) : pIx (.ref l) (.str u) h = getK kvs (.inr u) := by
  show (match h.f l with
    | some (.dk kvs) => getK kvs (.inr u)
    | _ => none) = _
  rw [e]
@[simp] theorem pLen_tup {xs : List D} : pLen (.tup xs) h = some (.int xs.length) := rfl
theorem pLen_ref {l : Addr} {xs : List D} (e : seqAt h l = some xs) : pLen (.ref l) h = some (.int xs.length) := by
  unfold pLen
  dsimp only
  rw [e]
@[simp] theorem pAbs_int : pAbs (.int x) h = some (.int (if x < 0 then -x else x)) := rfl
@[simp] theorem pInt_int : pInt (.int x) h = some (.int x) := rfl
@[simp] theorem pInt_bl : pInt (.bl p) h = some (.int (if p then 1 else 0)) := rfl
@[simp] theorem pMax2_int : pMax2 (.int x) (.int y) h = some (.int (if y > x then y else x)) := rfl
@[simp] theorem pMin2_int : pMin2 (.int x) (.int y) h = some (.int (if y < x then y else x)) := rfl
@[simp] theorem pTuple_tup {xs : List D} : pTuple (.tup xs) h = some (.tup xs) := rfl
theorem pTuple_ref {l : Addr} {xs : List D} (e : seqAt h l = some xs) : pTuple (.ref l) h = some (.tup xs) := by
  unfold pTuple
  dsimp only
  rw [e]
variable {t : Ty}
@[simp] theorem pIsa_non : pIsa t .non h = some (.bl false) := rfl
@[simp] theorem pIsa_bl : pIsa t (.bl p) h = some (.bl (isa .bool t)) := rfl
@[simp] theorem pIsa_int : pIsa t (.int x) h = some (.bl (isa .int t)) := rfl
@[simp] theorem pIsa_str {u : Str} : pIsa t (.str u) h = some (.bl (isa .str t)) := rfl
@[simp] theorem pIsa_tup {xs : List D} : pIsa t (.tup xs) h = some (.bl (isa .tup t)) := rfl
theorem pIsa_lst {l : Addr} {xs : List D} (e : h.f l = some (.lst xs)) : pIsa t (.ref l) h = some (.bl (isa .list t)) := by
  unfold pIsa
  dsimp only
  rw [tyOf_lst e]
@[simp] theorem pTru_non : pTru .non h = some false := rfl
@[simp] theorem pTru_bl : pTru (.bl p) h = some p := rfl
@[simp] theorem pTru_int : pTru (.int x) h = some (!decide (x = 0)) := rfl
@[simp] theorem pTru_tup {xs : List D} : pTru (.tup xs) h = some (!xs.isEmpty) := rfl
theorem pTru_ref {l : Addr} {xs : List D} (e : seqAt h l = some xs) : pTru (.ref l) h = some (!xs.isEmpty) := by
  unfold pTru
  dsimp only
  rw [e]
end
end T2
namespace K13
open PySem T2
def tb_CHECKS : List (Str × Nat) := [(⟨#[105, 110, 115, 116, 97, 110, 116]⟩, 1), (⟨#[110, 97, 109, 101]⟩, 3), (⟨#[110, 117, 109, 98, 101, 114]⟩, 2), (⟨#[119, 105, 110, 100, 111, 119]⟩, 8), (⟨#[119, 105, 110, 100, 111, 119, 115]⟩, 9), (⟨#[109, 111, 109, 101, 110, 116, 115]⟩, 10), (⟨#[116, 105, 109, 101, 114]⟩, 11), (⟨#[112, 108, 97, 99, 101]⟩, 12), (⟨#[108, 111, 116]⟩, 14), (⟨#[112, 108, 97, 110]⟩, 16), (⟨#[108, 111, 97, 100]⟩, 19), (⟨#[108, 111, 111, 107, 115]⟩, 21), (⟨#[114, 105, 110, 103]⟩, 42), (⟨#[97, 114, 99]⟩, 37), (⟨#[99, 104, 97, 105, 110]⟩, 38), (⟨#[108, 111, 111, 115, 101]⟩, 31), (⟨#[112, 105, 99, 107, 115]⟩, 32), (⟨#[98, 117, 114, 100, 101, 110]⟩, 33), (⟨#[114, 97, 116, 101]⟩, 34), (⟨#[115, 108, 97, 99, 107]⟩, 36), (⟨#[100, 101, 101, 100]⟩, 22), (⟨#[108, 101, 100, 103, 101, 114]⟩, 23), (⟨#[100, 101, 115, 105, 103, 110]⟩, 25), (⟨#[112, 114, 111, 109, 105, 115, 101]⟩, 27), (⟨#[113, 117, 101, 115, 116, 105, 111, 110]⟩, 50), (⟨#[112, 97, 112, 101, 114]⟩, 51), (⟨#[98, 101, 97, 116, 115]⟩, 41)]
def ars : List (Option Nat) := ([some 3, some 1, none, none, some 2, some 4, some 1, none, some 1, some 1, some 1, none, none, none, none, none, none, none, none, none, none, none, none, none, none, none, none, none, none, none] : List (Option Nat)) ++ ([none, none, none, none, none, none, none, none, none, none, none, none, none, none, none, none, none, none, none, none, none, none, some 1, some 2, some 2, some 1, some 2, some 1, some 1, some 2] : List (Option Nat)) ++ ([some 3, some 4, some 2, some 2, some 2, some 1, some 1, some 2, some 2, some 1, some 3, some 1, some 1, some 3, some 2, some 1, some 2, some 2, some 2, some 1, some 1, some 1] : List (Option Nat))
def okN (m k : Nat) : Bool := decide (ars[k]? = some (some m))
/-- is_integer(value, low, high): 0 value, 1 low, 2 high -/
def b0 (cal : Nat → FnSem) : SS :=
  sSeq (sIf (bPure (oOrB (o1 (o1 (oVar 0) (pIsa .bool)) pTru) (oNotB (o1 (o1 (oVar 0) (pIsa .int)) pTru)))) (sRet (eC (.bl false))) (sSkip))
    (sRet (ePure (oChain pLe pLe (oVar 1) (oVar 0) (oVar 2))))
def d0 : Decl := ⟨3, 3, true, b0⟩
/-- is_instant(value): 0 value -/
def b1 (cal : Nat → FnSem) : SS :=
  sRet (eCall (cal 0) (aCons (eVar 0) (aCons (eC (.int 0)) (aCons (eC (.int 1000000000)) (aNil)))))
def d1 : Decl := ⟨1, 1, true, b1⟩
/-- is_row(value, size): 0 value, 1 size -/
def b4 (cal : Nat → FnSem) : SS :=
  sRet (ePure (oAndE (o1 (oVar 0) (pIsa .tup)) (o2 (o1 (oVar 0) pLen) (oVar 1) pEq)))
def d4 : Decl := ⟨2, 2, true, b4⟩
/-- is_list_of(value, low, high, check): 0 value, 1 low, 2 high, 3 check, 4 part -/
def b5 (cal : Nat → FnSem) : SS :=
  sSeq (sIf (bPure (oNotB (o1 (o1 (oVar 0) (pIsa .tup)) pTru))) (sRet (eC (.bl false))) (sSkip))
    (sSeq (sIf (bPure (oOrB (o1 (o2 (o1 (oVar 0) pLen) (oVar 1) pLt) pTru) (o1 (o2 (o1 (oVar 0) pLen) (oVar 2) pGt) pTru))) (sRet (eC (.bl false))) (sSkip))
    (sSeq (sFor (iSeq (eVar 0)) (gName 4) (sIf (bNot (bE (eCallV 3 (okN 1) cal (aCons (eVar 4) (aNil))))) (sRet (eC (.bl false))) (sSkip)))
    (sRet (eC (.bl true)))))
def d5 : Decl := ⟨4, 5, true, b5⟩
/-- ascends(numbers): 0 numbers, 1 at -/
def b6 (cal : Nat → FnSem) : SS :=
  sSeq (sFor (iRng2 (eC (.int 1)) (ePure (o1 (oVar 0) pLen))) (gName 1) (sIf (bPure (oNotB (o1 (o2 (o2 (oVar 0) (o2 (oVar 1) (oC (.int 1)) pSub) pIx) (o2 (oVar 0) (oVar 1) pIx) pLt) pTru))) (sRet (eC (.bl false))) (sSkip)))
    (sRet (eC (.bl true)))
def d6 : Decl := ⟨1, 2, true, b6⟩
/-- is_window(value): 0 value -/
def b8 (cal : Nat → FnSem) : SS :=
  sSeq (sIf (bNot (bE (eCall (cal 4) (aCons (eVar 0) (aCons (eC (.int 2)) (aNil)))))) (sRet (eC (.bl false))) (sSkip))
    (sSeq (sIf (bOr (bNot (bE (eCall (cal 1) (aPure (oCons (o2 (oVar 0) (oC (.int 0)) pIx) (oNil)))))) (bNot (bE (eCall (cal 1) (aPure (oCons (o2 (oVar 0) (oC (.int 1)) pIx) (oNil))))))) (sRet (eC (.bl false))) (sSkip))
    (sRet (ePure (o2 (o2 (oVar 0) (oC (.int 0)) pIx) (o2 (oVar 0) (oC (.int 1)) pIx) pLe))))
def d8 : Decl := ⟨1, 1, true, b8⟩
/-- is_windows(value): 0 value -/
def b9 (cal : Nat → FnSem) : SS :=
  sRet (eCall (cal 5) (aCons (eVar 0) (aCons (eC (.int 0)) (aCons (eC (.int 60)) (aCons (eC (.fn 8)) (aNil))))))
def d9 : Decl := ⟨1, 1, true, b9⟩
/-- is_moments(value): 0 value -/
def b10 (cal : Nat → FnSem) : SS :=
  sRet (eAnd (eCall (cal 5) (aCons (eVar 0) (aCons (eC (.int 0)) (aCons (eC (.int 60)) (aCons (eC (.fn 1)) (aNil)))))) (eCall (cal 6) (aCons (eVar 0) (aNil))))
def d10 : Decl := ⟨1, 1, true, b10⟩
/-- check_kind(kind): 0 kind -/
def b52 (cal : Nat → FnSem) : SS :=
  sIf (bOr (bPure (oNotB (o1 (o1 (oVar 0) (pIsa .str)) pTru))) (bE (eInTab tb_CHECKS true (eVar 0)))) (sNever) (sSkip)
def d52 : Decl := ⟨1, 1, true, b52⟩
/-- is_a(kind, value): 0 kind, 1 value, 2 check -/
def b53 (cal : Nat → FnSem) : SS :=
  sSeq (sExpr (eCall (cal 52) (aCons (eVar 0) (aNil))))
    (sSeq (sAsg (eTab tb_CHECKS (eVar 0)) (gName 2))
    (sRet (eCallV 2 (okN 1) cal (aCons (eVar 1) (aNil)))))
def d53 : Decl := ⟨2, 3, true, b53⟩
/-- require(kind, value): 0 kind, 1 value, 2 check -/
def b54 (cal : Nat → FnSem) : SS :=
  sSeq (sAsg (eTab tb_CHECKS (eVar 0)) (gName 2))
    (sIf (bNot (bE (eCallV 2 (okN 1) cal (aCons (eVar 1) (aNil))))) (sNever) (sSkip))
def d54 : Decl := ⟨2, 3, true, b54⟩
/-- lazy_calls(windows): 0 windows, 1 left, 2 calls, 3 caller, 4 window, 5 at -/
def b55 (cal : Nat → FnSem) : SS :=
  sSeq (sAsg (eBi bList (aCons (eVar 0) (aNil))) (gName 1))
    (sSeq (sAsg (eLst (aNil)) (gName 2))
    (sSeq (sWhile (bPure (o1 (oVar 1) pTru)) (sSeq (sAsg (ePure (o2 (oVar 1) (oC (.int 0)) pIx)) (gName 3))
    (sSeq (sFor (iSeq (eVar 1)) (gName 4) (sIf (bPure (o1 (o2 (o2 (oVar 4) (oC (.int 1)) pIx) (o2 (oVar 3) (oC (.int 1)) pIx) pLt) pTru)) (sAsg (eVar 4) (gName 3)) (sSkip)))
    (sSeq (sExpr (eBm .list mAppend (eVar 2) (aCons (eVar 3) (aNil))))
    (sSeq (sAsg (ePure (o2 (oVar 3) (oC (.int 1)) pIx)) (gName 5))
    (sAsg (eLc (iSeq (eVar 1)) (gName 4) (bPure (oNotB (o1 (oChain pLe pLe (o2 (oVar 4) (oC (.int 0)) pIx) (oVar 5) (o2 (oVar 4) (oC (.int 1)) pIx)) pTru))) (eVar 4) [4]) (gName 1)))))))
    (sRet (ePure (o1 (oVar 2) pTuple)))))
def d55 : Decl := ⟨1, 6, true, b55⟩
/-- all_served(moments, windows): 0 moments, 1 windows, 2 first, 3 last, 4 moment -/
def b56 (cal : Nat → FnSem) : SS :=
  sSeq (sFor (iSeq (eVar 1)) (gTup ([2, 3].map gName)) (sIf (bNot (bE (eBi bAny (aCons (eLc (iSeq (eVar 0)) (gName 4) (bYes) (ePure (oChain pLe pLe (oVar 2) (oVar 4) (oVar 3))) [4]) (aNil))))) (sRet (eC (.bl false))) (sSkip)))
    (sRet (eC (.bl true)))
def d56 : Decl := ⟨2, 5, true, b56⟩
/-- fewest_looks(windows): 0 windows, 1 call -/
def b57 (cal : Nat → FnSem) : SS :=
  sSeq (sExpr (eCall (cal 54) (aCons (eC (.str ⟨#[119, 105, 110, 100, 111, 119, 115]⟩)) (aCons (eVar 0) (aNil)))))
    (sRet (eBi bTuple (aCons (eLc (iSeq (eCall (cal 55) (aCons (eVar 0) (aNil)))) (gName 1) (bYes) (ePure (o2 (oVar 1) (oC (.int 1)) pIx)) [1]) (aNil))))
def d57 : Decl := ⟨1, 2, true, b57⟩
/-- most_apart(windows): 0 windows -/
def b58 (cal : Nat → FnSem) : SS :=
  sSeq (sExpr (eCall (cal 54) (aCons (eC (.str ⟨#[119, 105, 110, 100, 111, 119, 115]⟩)) (aCons (eVar 0) (aNil)))))
    (sRet (eCall (cal 55) (aCons (eVar 0) (aNil))))
def d58 : Decl := ⟨1, 1, true, b58⟩
/-- serves_all(moments, windows): 0 moments, 1 windows -/
def b59 (cal : Nat → FnSem) : SS :=
  sSeq (sExpr (eCall (cal 54) (aCons (eC (.str ⟨#[109, 111, 109, 101, 110, 116, 115]⟩)) (aCons (eVar 0) (aNil)))))
    (sSeq (sExpr (eCall (cal 54) (aCons (eC (.str ⟨#[119, 105, 110, 100, 111, 119, 115]⟩)) (aCons (eVar 1) (aNil)))))
    (sRet (eCall (cal 56) (aCons (eVar 0) (aCons (eVar 1) (aNil))))))
def d59 : Decl := ⟨2, 2, true, b59⟩
/-- span_holds(first, last, instant): 0 first, 1 last, 2 instant -/
def b60 (cal : Nat → FnSem) : SS :=
  sRet (ePure (oChain pLe pLe (oVar 0) (oVar 2) (oVar 1)))
def d60 : Decl := ⟨3, 3, true, b60⟩
/-- span_within(first, last, low, high): 0 first, 1 last, 2 low, 3 high -/
def b61 (cal : Nat → FnSem) : SS :=
  sRet (ePure (oAndE (o2 (oVar 2) (oVar 0) pLe) (o2 (oVar 1) (oVar 3) pLe)))
def d61 : Decl := ⟨4, 4, true, b61⟩
/-- holds(window, instant): 0 window, 1 instant -/
def b62 (cal : Nat → FnSem) : SS :=
  sSeq (sExpr (eCall (cal 54) (aCons (eC (.str ⟨#[119, 105, 110, 100, 111, 119]⟩)) (aCons (eVar 0) (aNil)))))
    (sSeq (sExpr (eCall (cal 54) (aCons (eC (.str ⟨#[105, 110, 115, 116, 97, 110, 116]⟩)) (aCons (eVar 1) (aNil)))))
    (sRet (eCall (cal 60) (aPure (oCons (o2 (oVar 0) (oC (.int 0)) pIx) (oCons (o2 (oVar 0) (oC (.int 1)) pIx) (oCons (oVar 1) (oNil))))))))
def d62 : Decl := ⟨2, 2, true, b62⟩
/-- is_within(window, stretch): 0 window, 1 stretch -/
def b63 (cal : Nat → FnSem) : SS :=
  sSeq (sExpr (eCall (cal 54) (aCons (eC (.str ⟨#[119, 105, 110, 100, 111, 119]⟩)) (aCons (eVar 0) (aNil)))))
    (sSeq (sExpr (eCall (cal 54) (aCons (eC (.str ⟨#[119, 105, 110, 100, 111, 119]⟩)) (aCons (eVar 1) (aNil)))))
    (sRet (eCall (cal 61) (aPure (oCons (o2 (oVar 0) (oC (.int 0)) pIx) (oCons (o2 (oVar 0) (oC (.int 1)) pIx) (oCons (o2 (oVar 1) (oC (.int 0)) pIx) (oCons (o2 (oVar 1) (oC (.int 1)) pIx) (oNil)))))))))
def d63 : Decl := ⟨2, 2, true, b63⟩
/-- are_apart(window, other): 0 window, 1 other -/
def b64 (cal : Nat → FnSem) : SS :=
  sSeq (sExpr (eCall (cal 54) (aCons (eC (.str ⟨#[119, 105, 110, 100, 111, 119]⟩)) (aCons (eVar 0) (aNil)))))
    (sSeq (sExpr (eCall (cal 54) (aCons (eC (.str ⟨#[119, 105, 110, 100, 111, 119]⟩)) (aCons (eVar 1) (aNil)))))
    (sRet (ePure (oOrE (o2 (o2 (oVar 0) (oC (.int 1)) pIx) (o2 (oVar 1) (oC (.int 0)) pIx) pLt) (o2 (o2 (oVar 1) (oC (.int 1)) pIx) (o2 (oVar 0) (oC (.int 0)) pIx) pLt)))))
def d64 : Decl := ⟨2, 2, true, b64⟩
/-- common(windows): 0 windows, 1 low, 2 high, 3 first, 4 last -/
def b65 (cal : Nat → FnSem) : SS :=
  sSeq (sExpr (eCall (cal 54) (aCons (eC (.str ⟨#[119, 105, 110, 100, 111, 119, 115]⟩)) (aCons (eVar 0) (aNil)))))
    (sSeq (sAsg (eC (.int 0)) (gName 1))
    (sSeq (sAsg (eC (.int 1000000000)) (gName 2))
    (sSeq (sFor (iSeq (eVar 0)) (gTup ([3, 4].map gName)) (sSeq (sAsg (ePure (o2 (oVar 1) (oVar 3) pMax2)) (gName 1))
    (sAsg (ePure (o2 (oVar 2) (oVar 4) pMin2)) (gName 2))))
    (sSeq (sIf (bPure (o1 (o2 (oVar 1) (oVar 2) pGt) pTru)) (sRet (eC .non)) (sSkip))
    (sRet (ePure (oTup (oCons (oVar 1) (oCons (oVar 2) (oNil))))))))))
def d65 : Decl := ⟨1, 5, true, b65⟩
/-- _law_jar(script): 0 script, 1 cells, 2 great, 3 small, 4 cell -/
def b66 (cal : Nat → FnSem) : SS :=
  sSeq (sAsg (eLc (iSeq (eSl (eVar 0) (oNone) (oSome (eC (.int 63))))) (gName 4) (bYes) (ePure (o1 (o1 (oVar 4) pInt) pAbs)) [4]) (gName 1))
    (sSeq (sAsg (eLc (iSeq (eVar 1)) (gName 4) (bPure (o1 (o2 (oVar 4) (o2 (oC (.int 10)) (oC (.int 14)) pPow) pGe) pTru)) (eVar 4) [4]) (gName 2))
    (sSeq (sAsg (eLc (iSeq (eVar 1)) (gName 4) (bPure (o1 (o2 (oVar 4) (o2 (oC (.int 10)) (oC (.int 14)) pPow) pLt) pTru)) (ePure (o2 (o1 (oVar 4) pInt) (oC (.int 1000003)) pMod)) [4]) (gName 3))
    (sRet (eDict [(eC (.str ⟨#[103, 114, 101, 97, 116]⟩), eVar 2), (eC (.str ⟨#[115, 109, 97, 108, 108]⟩), eVar 3), (eC (.str ⟨#[114, 101, 115, 116]⟩), eC (.int 0)), (eC (.str ⟨#[116, 117, 114, 110]⟩), eC (.int 0))]))))
def d66 : Decl := ⟨1, 5, false, b66⟩
/-- _law_take(jar, many): 0 jar, 1 many, 2 turn, 3 great, 4 rest, 5 small, 6 seed, 7 mix -/
def b67 (cal : Nat → FnSem) : SS :=
  sSeq (sAsg (ePure (o2 (o2 (oVar 0) (oC (.str ⟨#[116, 117, 114, 110]⟩)) pIx) (oC (.int 1)) pAdd)) (gName 2))
    (sSeq (sPut (eVar 0) (eC (.str ⟨#[116, 117, 114, 110]⟩)) (eVar 2))
    (sSeq (sAsg (ePure (o2 (oVar 0) (oC (.str ⟨#[103, 114, 101, 97, 116]⟩)) pIx)) (gName 3))
    (sSeq (sIf (bPure (oAndB (o1 (o2 (o2 (oVar 0) (oC (.str ⟨#[114, 101, 115, 116]⟩)) pIx) (oC (.int 0)) pEq) pTru) (o1 (o2 (o1 (oVar 3) pLen) (oC (.int 0)) pGt) pTru))) (sPut (eVar 0) (eC (.str ⟨#[114, 101, 115, 116]⟩)) (eBm .list mPopAt (eVar 3) (aCons (eC (.int 0)) (aNil)))) (sSkip))
    (sSeq (sAsg (ePure (o2 (oVar 0) (oC (.str ⟨#[114, 101, 115, 116]⟩)) pIx)) (gName 4))
    (sSeq (sIf (bPure (o1 (o2 (oVar 4) (oC (.int 0)) pGt) pTru)) (sSeq (sPut (eVar 0) (eC (.str ⟨#[114, 101, 115, 116]⟩)) (ePure (o2 (oVar 4) (oVar 1) pDiv)))
    (sRet (ePure (o2 (o1 (oVar 4) pInt) (oVar 1) pMod)))) (sSkip))
    (sSeq (sAsg (ePure (o2 (oVar 0) (oC (.str ⟨#[115, 109, 97, 108, 108]⟩)) pIx)) (gName 5))
    (sSeq (sAsg (eC (.int 41)) (gName 6))
    (sSeq (sIf (bPure (o1 (o2 (o1 (oVar 5) pLen) (oC (.int 0)) pGt) pTru)) (sAsg (ePure (o2 (oVar 5) (o2 (o1 (oVar 2) pInt) (o1 (oVar 5) pLen) pMod) pIx)) (gName 6)) (sSkip))
    (sSeq (sAsg (ePure (o2 (o1 (o2 (o2 (o2 (oVar 6) (oC (.int 5501)) pMul) (o2 (oVar 2) (oC (.int 30071)) pMul) pAdd) (oC (.int 419)) pAdd) pInt) (oC (.int 1000033)) pMod)) (gName 7))
    (sSeq (sAsg (ePure (o2 (o1 (o2 (o2 (o2 (oVar 7) (oVar 7) pMul) (o2 (oVar 2) (oC (.int 257)) pMul) pAdd) (oVar 6) pAdd) pInt) (oC (.int 999961)) pMod)) (gName 7))
    (sSeq (sAsg (ePure (o2 (o1 (o2 (o2 (o2 (oVar 7) (oVar 7) pMul) (o2 (oVar 6) (oC (.int 3)) pMul) pAdd) (oVar 2) pAdd) pInt) (oC (.int 1000039)) pMod)) (gName 7))
    (sRet (ePure (o2 (o1 (o2 (oVar 7) (oC (.int 7)) pDiv) pInt) (oVar 1) pMod))))))))))))))
def d67 : Decl := ⟨2, 8, false, b67⟩
/-- _law_like(told, due): 0 told, 1 due, 2 k -/
def b68 (cal : Nat → FnSem) : SS :=
  sSeq (sIf (bPure (oOrB (o1 (o1 (oVar 1) (pIsa .tup)) pTru) (o1 (o1 (oVar 1) (pIsa .list)) pTru))) (sSeq (sIf (bPure (oAndB (o1 (o1 (oVar 1) (pIsa .tup)) pTru) (oNotB (o1 (o1 (oVar 0) (pIsa .tup)) pTru)))) (sRet (eC (.bl false))) (sSkip))
    (sSeq (sIf (bPure (oAndB (o1 (o1 (oVar 1) (pIsa .list)) pTru) (oNotB (o1 (o1 (oVar 0) (pIsa .list)) pTru)))) (sRet (eC (.bl false))) (sSkip))
    (sSeq (sIf (bPure (o1 (o2 (o1 (oVar 0) pLen) (o1 (oVar 1) pLen) pNe) pTru)) (sRet (eC (.bl false))) (sSkip))
    (sSeq (sFor (iRng1 (ePure (o1 (oVar 1) pLen))) (gName 2) (sIf (bNot (bE (eCall (cal 68) (aPure (oCons (o2 (oVar 0) (oVar 2) pIx) (oCons (o2 (oVar 1) (oVar 2) pIx) (oNil))))))) (sRet (eC (.bl false))) (sSkip)))
    (sRet (eC (.bl true))))))) (sSkip))
    (sSeq (sIf (bPure (o1 (o2 (oVar 1) (oC .non) pIs) pTru)) (sRet (ePure (o2 (oVar 0) (oC .non) pIs))) (sSkip))
    (sSeq (sIf (bPure (o1 (o1 (oVar 1) (pIsa .bool)) pTru)) (sRet (ePure (oAndE (o1 (oVar 0) (pIsa .bool)) (o2 (oVar 0) (oVar 1) pEq)))) (sSkip))
    (sSeq (sIf (bPure (o1 (o1 (oVar 1) (pIsa .int)) pTru)) (sRet (ePure (oAndE (o1 (oVar 0) (pIsa .int)) (oAndE (oNotE (o1 (oVar 0) (pIsa .bool))) (o2 (oVar 0) (oVar 1) pEq))))) (sSkip))
    (sRet (ePure (oAndE (o1 (oVar 0) (pIsa .str)) (o2 (oVar 0) (oVar 1) pEq)))))))
def d68 : Decl := ⟨2, 3, true, b68⟩
/-- _law_lazy(windows): 0 windows, 1 looks, 2 callers, 3 rest, 4 turn, 5 best, 6 row -/
def b69 (cal : Nat → FnSem) : SS :=
  sSeq (sAsg (eLst (aNil)) (gName 1))
    (sSeq (sAsg (eLst (aNil)) (gName 2))
    (sSeq (sAsg (eBi bList (aCons (eVar 0) (aNil))) (gName 3))
    (sSeq (sFor (iRng1 (ePure (o1 (oVar 0) pLen))) (gName 4) (sSeq (sIf (bPure (o1 (o2 (o1 (oVar 3) pLen) (oC (.int 0)) pEq) pTru)) (sBrk) (sSkip))
    (sSeq (sAsg (ePure (o2 (oVar 3) (oC (.int 0)) pIx)) (gName 5))
    (sSeq (sFor (iSeq (eVar 3)) (gName 6) (sIf (bPure (o1 (o2 (o2 (oVar 6) (oC (.int 1)) pIx) (o2 (oVar 5) (oC (.int 1)) pIx) pLt) pTru)) (sAsg (eVar 6) (gName 5)) (sSkip)))
    (sSeq (sExpr (eBm .list mAppend (eVar 1) (aPure (oCons (o2 (oVar 5) (oC (.int 1)) pIx) (oNil)))))
    (sSeq (sExpr (eBm .list mAppend (eVar 2) (aCons (eVar 5) (aNil))))
    (sAsg (eLc (iSeq (eVar 3)) (gName 6) (bPure (o1 (o2 (o2 (oVar 6) (oC (.int 0)) pIx) (o2 (oVar 5) (oC (.int 1)) pIx) pGt) pTru)) (eVar 6) [6]) (gName 3))))))))
    (sRet (ePure (oTup (oCons (o1 (oVar 1) pTuple) (oCons (o1 (oVar 2) pTuple) (oNil)))))))))
def d69 : Decl := ⟨1, 7, true, b69⟩
/-- _law_windows(jar, many, frame): 0 jar, 1 many, 2 frame, 3 base, 4 scale, 5 wide, 6 rows, 7 k, 8 way, 9 a, 10 b, 11 other, 12 row -/
def b70 (cal : Nat → FnSem) : SS :=
  sSeq (sAsg (eVar 2) (gTup ([3, 4, 5].map gName)))
    (sSeq (sAsg (eLst (aNil)) (gName 6))
    (sSeq (sFor (iRng1 (eVar 1)) (gName 7) (sSeq (sAsg (eCall (cal 67) (aCons (eVar 0) (aCons (eC (.int 6)) (aNil)))) (gName 8))
    (sSeq (sAsg (eCall (cal 67) (aPure (oCons (oVar 0) (oCons (o2 (oVar 5) (oC (.int 1)) pAdd) (oNil))))) (gName 9))
    (sSeq (sAsg (eBi bMin2 (aCons (eVar 5) (aCons (eBin rAdd (eVar 9) (eCall (cal 67) (aCons (eVar 0) (aCons (eC (.int 3)) (aNil))))) (aNil)))) (gName 10))
    (sSeq (sIf (bPure (oAndB (o1 (o2 (oVar 8) (oC (.int 3)) pLt) pTru) (o1 (o2 (o1 (oVar 6) pLen) (oC (.int 0)) pGt) pTru))) (sSeq (sAsg (eBin rIx (eVar 6) (eCall (cal 67) (aPure (oCons (oVar 0) (oCons (o1 (oVar 6) pLen) (oNil)))))) (gName 11))
    (sIf (bPure (o1 (o2 (oVar 8) (oC (.int 0)) pEq) pTru)) (sAsg (eVar 11) (gTup ([9, 10].map gName))) (sIf (bPure (o1 (o2 (oVar 8) (oC (.int 1)) pEq) pTru)) (sSeq (sAsg (ePure (o2 (oVar 9) (o2 (oVar 11) (oC (.int 1)) pIx) pMin2)) (gName 9))
    (sAsg (ePure (o2 (oVar 11) (oC (.int 1)) pIx)) (gName 10))) (sSeq (sAsg (ePure (o2 (oVar 5) (o2 (o2 (o2 (oVar 11) (oC (.int 1)) pIx) (oVar 10) pAdd) (oVar 9) pSub) pMin2)) (gName 10))
    (sAsg (ePure (o2 (oVar 11) (oC (.int 1)) pIx)) (gName 9)))))) (sIf (bPure (o1 (o2 (oVar 8) (oC (.int 3)) pEq) pTru)) (sAsg (eBin rAdd (eVar 9) (eCall (cal 67) (aPure (oCons (oVar 0) (oCons (o2 (o2 (oVar 5) (oC (.int 1)) pAdd) (oVar 9) pSub) (oNil)))))) (gName 10)) (sIf (bPure (o1 (o2 (oVar 8) (oC (.int 4)) pEq) pTru)) (sAsg (eVar 9) (gName 10)) (sSkip))))
    (sExpr (eBm .list mAppend (eVar 6) (aPure (oCons (oTup (oCons (oVar 9) (oCons (oVar 10) (oNil)))) (oNil))))))))))
    (sRet (eBi bTuple (aCons (eLc (iSeq (eVar 6)) (gName 12) (bYes) (ePure (oTup (oCons (o2 (oVar 3) (o2 (oVar 4) (o2 (oVar 12) (oC (.int 0)) pIx) pMul) pAdd) (oCons (o2 (oVar 3) (o2 (oVar 4) (o2 (oVar 12) (oC (.int 1)) pIx) pMul) pAdd) (oNil))))) [12]) (aNil))))))
def d70 : Decl := ⟨3, 13, true, b70⟩
/-- _law_frame(jar): 0 jar, 1 wide, 2 scale, 3 some, 4 base -/
def b71 (cal : Nat → FnSem) : SS :=
  sSeq (sAsg (eBin rIx (ePure (oTup (oCons (oC (.int 3)) (oCons (oC (.int 6)) (oCons (oC (.int 9)) (oCons (oC (.int 25)) (oCons (oC (.int 61)) (oCons (oC (.int 12)) (oNil))))))))) (eCall (cal 67) (aCons (eVar 0) (aCons (eC (.int 6)) (aNil))))) (gName 1))
    (sSeq (sAsg (eBin rIx (ePure (oTup (oCons (oC (.int 1)) (oCons (oC (.int 2)) (oCons (oC (.int 3)) (oCons (oC (.int 1000)) (oCons (oC (.int 16000000)) (oCons (oC (.int 1)) (oNil))))))))) (eCall (cal 67) (aCons (eVar 0) (aCons (eC (.int 6)) (aNil))))) (gName 2))
    (sSeq (sAsg (eCall (cal 67) (aCons (eVar 0) (aCons (eC (.int 900)) (aNil)))) (gName 3))
    (sSeq (sAsg (eBin rIx (ePure (oTup (oCons (oC (.int 0)) (oCons (oVar 3) (oCons (o2 (o2 (oC (.int 10)) (oC (.int 9)) pPow) (o2 (oVar 1) (oVar 2) pMul) pSub) (oCons (oC (.int 1)) (oNil))))))) (eCall (cal 67) (aCons (eVar 0) (aCons (eC (.int 4)) (aNil))))) (gName 4))
    (sRet (ePure (oTup (oCons (oVar 4) (oCons (oVar 2) (oCons (oVar 1) (oNil))))))))))
def d71 : Decl := ⟨1, 5, true, b71⟩
/-- _law_rising(row): 0 row, 1 out, 2 at -/
def b72 (cal : Nat → FnSem) : SS :=
  sSeq (sAsg (eLst (aNil)) (gName 1))
    (sSeq (sFor (iSeq (eBi bSorted (aCons (eVar 0) (aNil)))) (gName 2) (sIf (bPure (oAndB (o1 (o2 (oVar 2) (oC (.int 0)) pGe) pTru) (oAndB (o1 (o2 (oVar 2) (o2 (oC (.int 10)) (oC (.int 9)) pPow) pLe) pTru) (oOrB (o1 (o2 (o1 (oVar 1) pLen) (oC (.int 0)) pEq) pTru) (o1 (o2 (o2 (oVar 1) (o1 (oC (.int 1)) pNeg) pIx) (oVar 2) pNe) pTru))))) (sExpr (eBm .list mAppend (eVar 1) (aCons (eVar 2) (aNil)))) (sSkip)))
    (sRet (eBi bTuple (aCons (eSl (eVar 1) (oNone) (oSome (eC (.int 60)))) (aNil)))))
def d72 : Decl := ⟨1, 3, true, b72⟩
/-- _law_moments(jar, looks, frame): 0 jar, 1 looks, 2 frame, 3 base, 4 scale, 5 wide, 6 way, 7 row, 8 k, 9 many -/
def b73 (cal : Nat → FnSem) : SS :=
  sSeq (sAsg (eVar 2) (gTup ([3, 4, 5].map gName)))
    (sSeq (sAsg (eCall (cal 67) (aCons (eVar 0) (aCons (eC (.int 5)) (aNil)))) (gName 6))
    (sSeq (sAsg (eBi bList (aCons (eVar 1) (aNil))) (gName 7))
    (sSeq (sIf (bPure (oAndB (o1 (o2 (oVar 6) (oC (.int 3)) pLt) pTru) (o1 (o2 (o1 (oVar 7) pLen) (oC (.int 0)) pGt) pTru))) (sSeq (sAsg (eCall (cal 67) (aPure (oCons (oVar 0) (oCons (o1 (oVar 7) pLen) (oNil))))) (gName 8))
    (sSeq (sIf (bPure (o1 (o2 (oVar 6) (oC (.int 0)) pEq) pTru)) (sAsg (eBin rAdd (eSl (eVar 7) (oNone) (oSome (eVar 8))) (eSl (eVar 7) (oSome (ePure (o2 (oVar 8) (oC (.int 1)) pAdd))) (oNone))) (gName 7)) (sPut (eVar 7) (eVar 8) (ePure (o2 (o2 (o2 (oVar 7) (oVar 8) pIx) (o2 (oC (.int 2)) (oVar 6) pMul) pAdd) (oC (.int 3)) pSub))))
    (sRet (eCall (cal 72) (aCons (eVar 7) (aNil)))))) (sSkip))
    (sSeq (sIf (bPure (o1 (o2 (oVar 6) (oC (.int 3)) pEq) pTru)) (sSeq (sAsg (eBin rIx (ePure (oTup (oCons (oC (.int 1)) (oCons (oC (.int 2)) (oCons (oC (.int 5)) (oCons (oC (.int 60)) (oNil))))))) (eCall (cal 67) (aCons (eVar 0) (aCons (eC (.int 4)) (aNil))))) (gName 9))
    (sRet (eCall (cal 72) (aCons (eLc (iRng1 (eVar 9)) (gName 8) (bYes) (eBin rAdd (eBin rAdd (eVar 3) (eBin rMul (eVar 4) (eCall (cal 67) (aPure (oCons (oVar 0) (oCons (o2 (oVar 5) (oC (.int 1)) pAdd) (oNil))))))) (eCall (cal 67) (aCons (eVar 0) (aCons (eC (.int 2)) (aNil))))) [8]) (aNil))))) (sSkip))
    (sRet (ePure (oTup (oNil))))))))
def d73 : Decl := ⟨3, 10, true, b73⟩
/-- _law_held(moments, windows): 0 moments, 1 windows, 2 row, 3 found, 4 at -/
def b74 (cal : Nat → FnSem) : SS :=
  sSeq (sFor (iSeq (eVar 1)) (gName 2) (sSeq (sAsg (eC (.bl false)) (gName 3))
    (sSeq (sFor (iSeq (eVar 0)) (gName 4) (sIf (bPure (oAndB (o1 (o2 (o2 (oVar 2) (oC (.int 0)) pIx) (oVar 4) pLe) pTru) (o1 (o2 (oVar 4) (o2 (oVar 2) (oC (.int 1)) pIx) pLe) pTru))) (sAsg (eC (.bl true)) (gName 3)) (sSkip)))
    (sIf (bPure (oNotB (o1 (oVar 3) pTru))) (sRet (eC (.bl false))) (sSkip)))))
    (sRet (eC (.bl true)))
def d74 : Decl := ⟨2, 5, true, b74⟩
/-- _law_common(windows): 0 windows, 1 first, 2 last, 3 row -/
def b75 (cal : Nat → FnSem) : SS :=
  sSeq (sAsg (eC (.int 0)) (gName 1))
    (sSeq (sAsg (ePure (o2 (oC (.int 10)) (oC (.int 9)) pPow)) (gName 2))
    (sSeq (sFor (iSeq (eVar 0)) (gName 3) (sSeq (sAsg (ePure (o2 (oVar 1) (o2 (oVar 3) (oC (.int 0)) pIx) pMax2)) (gName 1))
    (sAsg (ePure (o2 (oVar 2) (o2 (oVar 3) (oC (.int 1)) pIx) pMin2)) (gName 2))))
    (sSeq (sIf (bPure (o1 (o2 (oVar 1) (oVar 2) pGt) pTru)) (sRet (eC .non)) (sSkip))
    (sRet (ePure (oTup (oCons (oVar 1) (oCons (oVar 2) (oNil)))))))))
def d75 : Decl := ⟨1, 4, true, b75⟩
/-- _law_stabs(windows, moments): 0 windows, 1 moments, 2 looks, 3 callers -/
def b76 (cal : Nat → FnSem) : SS :=
  sSeq (sAsg (eCall (cal 69) (aCons (eVar 0) (aNil))) (gTup ([2, 3].map gName)))
    (sSeq (sIf (bOr (bNot (bE (eCall (cal 68) (aCons (eCall (cal 57) (aCons (eVar 0) (aNil))) (aCons (eVar 2) (aNil)))))) (bNot (bE (eCall (cal 68) (aCons (eCall (cal 58) (aCons (eVar 0) (aNil))) (aCons (eVar 3) (aNil))))))) (sRet (eC (.bl false))) (sSkip))
    (sSeq (sIf (bNot (bE (eCall (cal 68) (aCons (eCall (cal 59) (aCons (eVar 2) (aCons (eVar 0) (aNil)))) (aCons (eC (.bl true)) (aNil)))))) (sRet (eC (.bl false))) (sSkip))
    (sRet (eCall (cal 68) (aCons (eCall (cal 59) (aCons (eVar 1) (aCons (eVar 0) (aNil)))) (aCons (eCall (cal 74) (aCons (eVar 1) (aCons (eVar 0) (aNil)))) (aNil)))))))
def d76 : Decl := ⟨2, 4, true, b76⟩
/-- _law_pair(u, v): 0 u, 1 v -/
def b77 (cal : Nat → FnSem) : SS :=
  sSeq (sIf (bNot (bE (eCall (cal 68) (aCons (eCall (cal 64) (aCons (eVar 0) (aCons (eVar 1) (aNil)))) (aCons (ePure (oOrE (o2 (o2 (oVar 0) (oC (.int 1)) pIx) (o2 (oVar 1) (oC (.int 0)) pIx) pLt) (o2 (o2 (oVar 1) (oC (.int 1)) pIx) (o2 (oVar 0) (oC (.int 0)) pIx) pLt))) (aNil)))))) (sRet (eC (.bl false))) (sSkip))
    (sSeq (sIf (bNot (bE (eCall (cal 68) (aCons (eCall (cal 63) (aCons (eVar 0) (aCons (eVar 1) (aNil)))) (aCons (ePure (oAndE (o2 (o2 (oVar 1) (oC (.int 0)) pIx) (o2 (oVar 0) (oC (.int 0)) pIx) pLe) (o2 (o2 (oVar 0) (oC (.int 1)) pIx) (o2 (oVar 1) (oC (.int 1)) pIx) pLe))) (aNil)))))) (sRet (eC (.bl false))) (sSkip))
    (sSeq (sIf (bNot (bE (eCall (cal 68) (aCons (eCall (cal 63) (aCons (eVar 1) (aCons (eVar 0) (aNil)))) (aCons (ePure (oAndE (o2 (o2 (oVar 0) (oC (.int 0)) pIx) (o2 (oVar 1) (oC (.int 0)) pIx) pLe) (o2 (o2 (oVar 1) (oC (.int 1)) pIx) (o2 (oVar 0) (oC (.int 1)) pIx) pLe))) (aNil)))))) (sRet (eC (.bl false))) (sSkip))
    (sRet (eCall (cal 68) (aCons (eCall (cal 65) (aPure (oCons (oTup (oCons (oVar 0) (oCons (oVar 1) (oNil)))) (oNil)))) (aCons (eCall (cal 75) (aPure (oCons (oTup (oCons (oVar 0) (oCons (oVar 1) (oNil)))) (oNil)))) (aNil)))))))
def d77 : Decl := ⟨2, 2, true, b77⟩
/-- _law_near(w, at): 0 w, 1 at, 2 t -/
def b78 (cal : Nat → FnSem) : SS :=
  sSeq (sFor (iSeq (ePure (oTup (oCons (o2 (o2 (oVar 0) (oC (.int 0)) pIx) (oC (.int 1)) pSub) (oCons (o2 (oVar 0) (oC (.int 0)) pIx) (oCons (o2 (oVar 0) (oC (.int 1)) pIx) (oCons (o2 (o2 (oVar 0) (oC (.int 1)) pIx) (oC (.int 1)) pAdd) (oCons (oVar 1) (oNil))))))))) (gName 2) (sIf (bPure (oAndB (o1 (o2 (oVar 2) (oC (.int 0)) pGe) pTru) (o1 (o2 (oVar 2) (o2 (oC (.int 10)) (oC (.int 9)) pPow) pLe) pTru))) (sIf (bNot (bE (eCall (cal 68) (aCons (eCall (cal 62) (aCons (eVar 0) (aCons (eVar 2) (aNil)))) (aCons (ePure (oAndE (o2 (o2 (oVar 0) (oC (.int 0)) pIx) (oVar 2) pLe) (o2 (oVar 2) (o2 (oVar 0) (oC (.int 1)) pIx) pLe))) (aNil)))))) (sRet (eC (.bl false))) (sSkip)) (sSkip)))
    (sSeq (sIf (bOr (bNot (bE (eCall (cal 68) (aCons (eCall (cal 63) (aCons (eVar 0) (aCons (eVar 0) (aNil)))) (aCons (eC (.bl true)) (aNil)))))) (bNot (bE (eCall (cal 68) (aCons (eCall (cal 64) (aCons (eVar 0) (aCons (eVar 0) (aNil)))) (aCons (eC (.bl false)) (aNil))))))) (sRet (eC (.bl false))) (sSkip))
    (sSeq (sIf (bPure (o1 (o2 (o2 (oVar 0) (oC (.int 0)) pIx) (o2 (oVar 0) (oC (.int 1)) pIx) pLt) pTru)) (sIf (bOr (bNot (bE (eCall (cal 77) (aPure (oCons (oVar 0) (oCons (oTup (oCons (o2 (o2 (oVar 0) (oC (.int 0)) pIx) (oC (.int 1)) pAdd) (oCons (o2 (oVar 0) (oC (.int 1)) pIx) (oNil)))) (oNil))))))) (bNot (bE (eCall (cal 77) (aPure (oCons (oVar 0) (oCons (oTup (oCons (o2 (oVar 0) (oC (.int 0)) pIx) (oCons (o2 (o2 (oVar 0) (oC (.int 1)) pIx) (oC (.int 1)) pSub) (oNil)))) (oNil)))))))) (sRet (eC (.bl false))) (sSkip)) (sSkip))
    (sSeq (sIf (bPure (o1 (o2 (o2 (oVar 0) (oC (.int 1)) pIx) (o2 (oC (.int 10)) (oC (.int 9)) pPow) pLt) pTru)) (sIf (bOr (bNot (bE (eCall (cal 77) (aPure (oCons (oVar 0) (oCons (oTup (oCons (o2 (o2 (oVar 0) (oC (.int 1)) pIx) (oC (.int 1)) pAdd) (oCons (o2 (oC (.int 10)) (oC (.int 9)) pPow) (oNil)))) (oNil))))))) (bNot (bE (eCall (cal 77) (aPure (oCons (oTup (oCons (o2 (oVar 0) (oC (.int 1)) pIx) (oCons (o2 (o2 (oVar 0) (oC (.int 1)) pIx) (oC (.int 1)) pAdd) (oNil)))) (oCons (oVar 0) (oNil)))))))) (sRet (eC (.bl false))) (sSkip)) (sSkip))
    (sRet (eC (.bl true))))))
def d78 : Decl := ⟨2, 3, true, b78⟩
/-- _law_hand(by): 0 by, 1 rows, 2 windows, 3 back, 4 looks, 5 told, 6 row, 7 k -/
def b79 (cal : Nat → FnSem) : SS :=
  sSeq (sAsg (ePure (oTup (oCons (oTup (oCons (oC (.int 2)) (oCons (oC (.int 9)) (oNil)))) (oCons (oTup (oCons (oC (.int 0)) (oCons (oC (.int 3)) (oNil)))) (oCons (oTup (oCons (oC (.int 4)) (oCons (oC (.int 9)) (oNil)))) (oCons (oTup (oCons (oC (.int 5)) (oCons (oC (.int 9)) (oNil)))) (oCons (oTup (oCons (oC (.int 3)) (oCons (oC (.int 3)) (oNil)))) (oCons (oTup (oCons (oC (.int 10)) (oCons (oC (.int 12)) (oNil)))) (oCons (oTup (oCons (oC (.int 9)) (oCons (oC (.int 10)) (oNil)))) (oNil)))))))))) (gName 1))
    (sSeq (sAsg (eBi bTuple (aCons (eLc (iSeq (eVar 1)) (gName 6) (bYes) (ePure (oTup (oCons (o2 (o2 (oVar 6) (oC (.int 0)) pIx) (oVar 0) pAdd) (oCons (o2 (o2 (oVar 6) (oC (.int 1)) pIx) (oVar 0) pAdd) (oNil))))) [6]) (aNil))) (gName 2))
    (sSeq (sAsg (eBi bTuple (aCons (eLc (iRng1 (eC (.int 7))) (gName 7) (bYes) (ePure (o2 (oVar 2) (o2 (oC (.int 6)) (oVar 7) pSub) pIx)) [7]) (aNil))) (gName 3))
    (sSeq (sAsg (ePure (oTup (oCons (o2 (oC (.int 3)) (oVar 0) pAdd) (oCons (o2 (oC (.int 9)) (oVar 0) pAdd) (oCons (o2 (oC (.int 12)) (oVar 0) pAdd) (oNil)))))) (gName 4))
    (sSeq (sIf (bOr (bNot (bE (eCall (cal 68) (aCons (eCall (cal 57) (aCons (eVar 2) (aNil))) (aCons (eVar 4) (aNil)))))) (bNot (bE (eCall (cal 68) (aCons (eCall (cal 57) (aCons (eVar 3) (aNil))) (aCons (eVar 4) (aNil))))))) (sRet (eC (.bl false))) (sSkip))
    (sSeq (sIf (bNot (bE (eCall (cal 68) (aCons (eCall (cal 58) (aCons (eVar 2) (aNil))) (aCons (ePure (oTup (oCons (oTup (oCons (oVar 0) (oCons (o2 (oC (.int 3)) (oVar 0) pAdd) (oNil)))) (oCons (oTup (oCons (o2 (oC (.int 4)) (oVar 0) pAdd) (oCons (o2 (oC (.int 9)) (oVar 0) pAdd) (oNil)))) (oCons (oTup (oCons (o2 (oC (.int 10)) (oVar 0) pAdd) (oCons (o2 (oC (.int 12)) (oVar 0) pAdd) (oNil)))) (oNil)))))) (aNil)))))) (sRet (eC (.bl false))) (sSkip))
    (sSeq (sIf (bNot (bE (eCall (cal 68) (aCons (eCall (cal 58) (aCons (eVar 3) (aNil))) (aCons (ePure (oTup (oCons (oTup (oCons (o2 (oC (.int 3)) (oVar 0) pAdd) (oCons (o2 (oC (.int 3)) (oVar 0) pAdd) (oNil)))) (oCons (oTup (oCons (o2 (oC (.int 5)) (oVar 0) pAdd) (oCons (o2 (oC (.int 9)) (oVar 0) pAdd) (oNil)))) (oCons (oTup (oCons (o2 (oC (.int 10)) (oVar 0) pAdd) (oCons (o2 (oC (.int 12)) (oVar 0) pAdd) (oNil)))) (oNil)))))) (aNil)))))) (sRet (eC (.bl false))) (sSkip))
    (sSeq (sIf (bNot (bE (eCall (cal 68) (aCons (eTup (aCons (eCall (cal 59) (aPure (oCons (oTup (oCons (o2 (oC (.int 3)) (oVar 0) pAdd) (oCons (o2 (oC (.int 9)) (oVar 0) pAdd) (oNil)))) (oCons (oVar 2) (oNil))))) (aCons (eCall (cal 59) (aPure (oCons (oTup (oCons (o2 (oC (.int 2)) (oVar 0) pAdd) (oCons (o2 (oC (.int 9)) (oVar 0) pAdd) (oCons (o2 (oC (.int 12)) (oVar 0) pAdd) (oNil))))) (oCons (oVar 2) (oNil))))) (aNil)))) (aCons (ePure (oTup (oCons (oC (.bl false)) (oCons (oC (.bl false)) (oNil))))) (aNil)))))) (sRet (eC (.bl false))) (sSkip))
    (sSeq (sIf (bNot (bE (eCall (cal 68) (aCons (eCall (cal 59) (aPure (oCons (oTup (oCons (o2 (oC (.int 3)) (oVar 0) pAdd) (oCons (o2 (oC (.int 9)) (oVar 0) pAdd) (oCons (o2 (oC (.int 10)) (oVar 0) pAdd) (oNil))))) (oCons (oVar 2) (oNil))))) (aCons (eC (.bl true)) (aNil)))))) (sRet (eC (.bl false))) (sSkip))
    (sSeq (sAsg (eTup (aCons (eCall (cal 65) (aCons (eVar 2) (aNil))) (aCons (eCall (cal 65) (aPure (oCons (oTup (oCons (o2 (oVar 2) (oC (.int 0)) pIx) (oCons (o2 (oVar 2) (oC (.int 2)) pIx) (oCons (o2 (oVar 2) (oC (.int 3)) pIx) (oNil))))) (oNil)))) (aCons (eCall (cal 65) (aPure (oCons (oTup (oCons (o2 (oVar 2) (oC (.int 0)) pIx) (oCons (o2 (oVar 2) (oC (.int 6)) pIx) (oNil)))) (oNil)))) (aCons (eCall (cal 65) (aPure (oCons (oTup (oNil)) (oNil)))) (aNil)))))) (gName 5))
    (sSeq (sIf (bNot (bE (eCall (cal 68) (aPure (oCons (oVar 5) (oCons (oTup (oCons (oC .non) (oCons (oTup (oCons (o2 (oC (.int 5)) (oVar 0) pAdd) (oCons (o2 (oC (.int 9)) (oVar 0) pAdd) (oNil)))) (oCons (oTup (oCons (o2 (oC (.int 9)) (oVar 0) pAdd) (oCons (o2 (oC (.int 9)) (oVar 0) pAdd) (oNil)))) (oCons (oTup (oCons (oC (.int 0)) (oCons (o2 (oC (.int 10)) (oC (.int 9)) pPow) (oNil)))) (oNil)))))) (oNil))))))) (sRet (eC (.bl false))) (sSkip))
    (sSeq (sAsg (eTup (aCons (eCall (cal 57) (aPure (oCons (oTup (oNil)) (oNil)))) (aCons (eCall (cal 58) (aPure (oCons (oTup (oNil)) (oNil)))) (aCons (eCall (cal 59) (aPure (oCons (oTup (oNil)) (oCons (oTup (oNil)) (oNil))))) (aCons (eCall (cal 59) (aPure (oCons (oTup (oCons (o2 (oC (.int 3)) (oVar 0) pAdd) (oNil))) (oCons (oTup (oNil)) (oNil))))) (aCons (eCall (cal 59) (aPure (oCons (oTup (oNil)) (oCons (oVar 2) (oNil))))) (aNil))))))) (gName 5))
    (sRet (eCall (cal 68) (aPure (oCons (oVar 5) (oCons (oTup (oCons (oTup (oNil)) (oCons (oTup (oNil)) (oCons (oC (.bl true)) (oCons (oC (.bl true)) (oCons (oC (.bl false)) (oNil))))))) (oNil)))))))))))))))))
def d79 : Decl := ⟨1, 8, true, b79⟩
/-- _law_all(script): 0 script, 1 jar, 2 some, 3 frame, 4 many, 5 windows, 6 k, 7 back, 8 looks, 9 callers, 10 few, 11 more, 12 j -/
def b80 (cal : Nat → FnSem) : SS :=
  sSeq (sAsg (eCall (cal 66) (aCons (eVar 0) (aNil))) (gName 1))
    (sSeq (sAsg (eCall (cal 67) (aCons (eVar 1) (aCons (eC (.int 1000)) (aNil)))) (gName 2))
    (sSeq (sIf (bNot (bE (eCall (cal 79) (aCons (eBin rIx (ePure (oTup (oCons (oC (.int 0)) (oCons (oC (.int 1)) (oCons (o2 (o2 (oC (.int 10)) (oC (.int 9)) pPow) (oC (.int 12)) pSub) (oCons (oVar 2) (oNil))))))) (eCall (cal 67) (aCons (eVar 1) (aCons (eC (.int 4)) (aNil))))) (aNil))))) (sRet (eC (.bl false))) (sSkip))
    (sSeq (sAsg (eCall (cal 71) (aCons (eVar 1) (aNil))) (gName 3))
    (sSeq (sAsg (eBin rIx (ePure (oTup (oCons (oC (.int 1)) (oCons (oC (.int 2)) (oCons (oC (.int 3)) (oCons (oC (.int 5)) (oCons (oC (.int 8)) (oCons (oC (.int 0)) (oCons (oC (.int 13)) (oCons (oC (.int 20)) (oCons (oC (.int 33)) (oCons (oC (.int 60)) (oNil))))))))))))) (eCall (cal 67) (aCons (eVar 1) (aCons (eC (.int 10)) (aNil))))) (gName 4))
    (sSeq (sAsg (eCall (cal 70) (aCons (eVar 1) (aCons (eVar 4) (aCons (eVar 3) (aNil))))) (gName 5))
    (sSeq (sAsg (eBi bTuple (aCons (eLc (iRng1 (eVar 4)) (gName 6) (bYes) (ePure (o2 (oVar 5) (o2 (o2 (oVar 4) (oC (.int 1)) pSub) (oVar 6) pSub) pIx)) [6]) (aNil))) (gName 7))
    (sSeq (sAsg (eCall (cal 69) (aCons (eVar 5) (aNil))) (gTup ([8, 9].map gName)))
    (sSeq (sIf (bOr (bNot (bE (eCall (cal 76) (aCons (eVar 5) (aCons (eCall (cal 73) (aCons (eVar 1) (aCons (eVar 8) (aCons (eVar 3) (aNil))))) (aNil)))))) (bNot (bE (eCall (cal 76) (aCons (eVar 7) (aCons (eCall (cal 73) (aCons (eVar 1) (aCons (eVar 8) (aCons (eVar 3) (aNil))))) (aNil))))))) (sRet (eC (.bl false))) (sSkip))
    (sSeq (sIf (bNot (bE (eCall (cal 68) (aCons (eTup (aCons (eCall (cal 53) (aCons (eC (.str ⟨#[119, 105, 110, 100, 111, 119, 115]⟩)) (aCons (eVar 5) (aNil)))) (aCons (eCall (cal 53) (aCons (eC (.str ⟨#[109, 111, 109, 101, 110, 116, 115]⟩)) (aCons (eVar 8) (aNil)))) (aCons (eCall (cal 53) (aCons (eC (.str ⟨#[119, 105, 110, 100, 111, 119, 115]⟩)) (aCons (eVar 9) (aNil)))) (aNil))))) (aCons (ePure (oTup (oCons (oC (.bl true)) (oCons (oC (.bl true)) (oCons (oC (.bl true)) (oNil)))))) (aNil)))))) (sRet (eC (.bl false))) (sSkip))
    (sSeq (sAsg (eSl (eVar 5) (oNone) (oSome (eCall (cal 67) (aCons (eVar 1) (aCons (eC (.int 5)) (aNil)))))) (gName 10))
    (sSeq (sIf (bNot (bE (eCall (cal 68) (aCons (eTup (aCons (eCall (cal 65) (aCons (eVar 5) (aNil))) (aCons (eCall (cal 65) (aCons (eVar 10) (aNil))) (aCons (eCall (cal 65) (aCons (eVar 9) (aNil))) (aNil))))) (aCons (eTup (aCons (eCall (cal 75) (aCons (eVar 5) (aNil))) (aCons (eCall (cal 75) (aCons (eVar 10) (aNil))) (aCons (eCall (cal 75) (aCons (eVar 9) (aNil))) (aNil))))) (aNil)))))) (sRet (eC (.bl false))) (sSkip))
    (sSeq (sIf (bPure (o1 (o2 (oVar 4) (oC (.int 0)) pEq) pTru)) (sRet (eC (.bl true))) (sSkip))
    (sSeq (sAsg (eBin rAdd (eBin rAdd (eTup (aCons (eBin rIx (eVar 5) (eCall (cal 67) (aCons (eVar 1) (aCons (eVar 4) (aNil))))) (aNil))) (eSl (eVar 5) (oNone) (oSome (eC (.int 10))))) (eTup (aCons (eBin rIx (eVar 5) (eCall (cal 67) (aCons (eVar 1) (aCons (eVar 4) (aNil))))) (aNil)))) (gName 11))
    (sSeq (sIf (bNot (bE (eCall (cal 76) (aCons (eVar 11) (aCons (eCall (cal 73) (aCons (eVar 1) (aCons (eVar 8) (aCons (eVar 3) (aNil))))) (aNil)))))) (sRet (eC (.bl false))) (sSkip))
    (sSeq (sFor (iRng1 (eC (.int 3))) (gName 6) (sSeq (sIf (bNot (bE (eCall (cal 78) (aCons (eBin rIx (eVar 5) (eCall (cal 67) (aCons (eVar 1) (aCons (eVar 4) (aNil))))) (aCons (eBin rIx (eVar 8) (eCall (cal 67) (aPure (oCons (oVar 1) (oCons (o1 (oVar 8) pLen) (oNil)))))) (aNil)))))) (sRet (eC (.bl false))) (sSkip))
    (sIf (bNot (bE (eCall (cal 77) (aCons (eBin rIx (eVar 5) (eCall (cal 67) (aCons (eVar 1) (aCons (eVar 4) (aNil))))) (aCons (eBin rIx (eVar 5) (eCall (cal 67) (aCons (eVar 1) (aCons (eVar 4) (aNil))))) (aNil)))))) (sRet (eC (.bl false))) (sSkip))))
    (sSeq (sAsg (eCall (cal 67) (aPure (oCons (oVar 1) (oCons (o1 (oVar 9) pLen) (oNil))))) (gName 6))
    (sSeq (sFor (iSeq (ePure (oTup (oCons (o2 (oVar 6) (oC (.int 1)) pSub) (oCons (o2 (oVar 6) (oC (.int 1)) pAdd) (oNil)))))) (gName 12) (sIf (bPure (oAndB (o1 (o2 (oVar 12) (oC (.int 0)) pGe) pTru) (o1 (o2 (oVar 12) (o1 (oVar 9) pLen) pLt) pTru))) (sIf (bNot (bE (eCall (cal 68) (aCons (eCall (cal 64) (aPure (oCons (o2 (oVar 9) (oVar 12) pIx) (oCons (o2 (oVar 9) (oVar 6) pIx) (oNil))))) (aCons (eC (.bl true)) (aNil)))))) (sRet (eC (.bl false))) (sSkip)) (sSkip)))
    (sRet (eC (.bl true))))))))))))))))))))
def d80 : Decl := ⟨1, 13, true, b80⟩
/-- law(script): 0 script -/
def b81 (cal : Nat → FnSem) : SS :=
  sTry0 (sRet (eCall (cal 80) (aCons (eVar 0) (aNil))))
def d81 : Decl := ⟨1, 1, true, b81⟩
def tab (i : Nat) : Option Decl := match i with
  | 0 => some d0
  | 1 => some d1
  | 4 => some d4
  | 5 => some d5
  | 6 => some d6
  | 8 => some d8
  | 9 => some d9
  | 10 => some d10
  | 52 => some d52
  | 53 => some d53
  | 54 => some d54
  | 55 => some d55
  | 56 => some d56
  | 57 => some d57
  | 58 => some d58
  | 59 => some d59
  | 60 => some d60
  | 61 => some d61
  | 62 => some d62
  | 63 => some d63
  | 64 => some d64
  | 65 => some d65
  | 66 => some d66
  | 67 => some d67
  | 68 => some d68
  | 69 => some d69
  | 70 => some d70
  | 71 => some d71
  | 72 => some d72
  | 73 => some d73
  | 74 => some d74
  | 75 => some d75
  | 76 => some d76
  | 77 => some d77
  | 78 => some d78
  | 79 => some d79
  | 80 => some d80
  | 81 => some d81
  | _ => none
theorem t0 : tab 0 = some d0 := rfl
theorem t1 : tab 1 = some d1 := rfl
theorem t4 : tab 4 = some d4 := rfl
theorem t5 : tab 5 = some d5 := rfl
theorem t6 : tab 6 = some d6 := rfl
theorem t8 : tab 8 = some d8 := rfl
theorem t9 : tab 9 = some d9 := rfl
theorem t10 : tab 10 = some d10 := rfl
theorem t52 : tab 52 = some d52 := rfl
theorem t53 : tab 53 = some d53 := rfl
theorem t54 : tab 54 = some d54 := rfl
theorem t55 : tab 55 = some d55 := rfl
theorem t56 : tab 56 = some d56 := rfl
theorem t57 : tab 57 = some d57 := rfl
theorem t58 : tab 58 = some d58 := rfl
theorem t59 : tab 59 = some d59 := rfl
theorem t60 : tab 60 = some d60 := rfl
theorem t61 : tab 61 = some d61 := rfl
theorem t62 : tab 62 = some d62 := rfl
theorem t63 : tab 63 = some d63 := rfl
theorem t64 : tab 64 = some d64 := rfl
theorem t65 : tab 65 = some d65 := rfl
theorem t66 : tab 66 = some d66 := rfl
theorem t67 : tab 67 = some d67 := rfl
theorem t68 : tab 68 = some d68 := rfl
theorem t69 : tab 69 = some d69 := rfl
theorem t70 : tab 70 = some d70 := rfl
theorem t71 : tab 71 = some d71 := rfl
theorem t72 : tab 72 = some d72 := rfl
theorem t73 : tab 73 = some d73 := rfl
theorem t74 : tab 74 = some d74 := rfl
theorem t75 : tab 75 = some d75 := rfl
theorem t76 : tab 76 = some d76 := rfl
theorem t77 : tab 77 = some d77 := rfl
theorem t78 : tab 78 = some d78 := rfl
theorem t79 : tab 79 = some d79 := rfl
theorem t80 : tab 80 = some d80 := rfl
theorem t81 : tab 81 = some d81 := rfl
theorem w0 {n : Nat} {x0 x1 x2 : D} {h : DH} {Q : QD} {E : QX} : WF tab (n + 1) 0 [x0, x1, x2] h Q E = b0 (WF tab n) (enF true h Q E) [some x0, some x1, some x2] h := WF_ap t0 rfl
theorem w1 {n : Nat} {x0 : D} {h : DH} {Q : QD} {E : QX} : WF tab (n + 1) 1 [x0] h Q E = b1 (WF tab n) (enF true h Q E) [some x0] h := WF_ap t1 rfl
theorem w4 {n : Nat} {x0 x1 : D} {h : DH} {Q : QD} {E : QX} : WF tab (n + 1) 4 [x0, x1] h Q E = b4 (WF tab n) (enF true h Q E) [some x0, some x1] h := WF_ap t4 rfl
theorem w5 {n : Nat} {x0 x1 x2 x3 : D} {h : DH} {Q : QD} {E : QX} : WF tab (n + 1) 5 [x0, x1, x2, x3] h Q E = b5 (WF tab n) (enF true h Q E) [some x0, some x1, some x2, some x3, none] h := WF_ap t5 rfl
theorem w6 {n : Nat} {x0 : D} {h : DH} {Q : QD} {E : QX} : WF tab (n + 1) 6 [x0] h Q E = b6 (WF tab n) (enF true h Q E) [some x0, none] h := WF_ap t6 rfl
theorem w8 {n : Nat} {x0 : D} {h : DH} {Q : QD} {E : QX} : WF tab (n + 1) 8 [x0] h Q E = b8 (WF tab n) (enF true h Q E) [some x0] h := WF_ap t8 rfl
theorem w9 {n : Nat} {x0 : D} {h : DH} {Q : QD} {E : QX} : WF tab (n + 1) 9 [x0] h Q E = b9 (WF tab n) (enF true h Q E) [some x0] h := WF_ap t9 rfl
theorem w10 {n : Nat} {x0 : D} {h : DH} {Q : QD} {E : QX} : WF tab (n + 1) 10 [x0] h Q E = b10 (WF tab n) (enF true h Q E) [some x0] h := WF_ap t10 rfl
theorem w52 {n : Nat} {x0 : D} {h : DH} {Q : QD} {E : QX} : WF tab (n + 1) 52 [x0] h Q E = b52 (WF tab n) (enF true h Q E) [some x0] h := WF_ap t52 rfl
theorem w53 {n : Nat} {x0 x1 : D} {h : DH} {Q : QD} {E : QX} : WF tab (n + 1) 53 [x0, x1] h Q E = b53 (WF tab n) (enF true h Q E) [some x0, some x1, none] h := WF_ap t53 rfl
theorem w54 {n : Nat} {x0 x1 : D} {h : DH} {Q : QD} {E : QX} : WF tab (n + 1) 54 [x0, x1] h Q E = b54 (WF tab n) (enF true h Q E) [some x0, some x1, none] h := WF_ap t54 rfl
theorem w55 {n : Nat} {x0 : D} {h : DH} {Q : QD} {E : QX} : WF tab (n + 1) 55 [x0] h Q E = b55 (WF tab n) (enF true h Q E) [some x0, none, none, none, none, none] h := WF_ap t55 rfl
theorem w56 {n : Nat} {x0 x1 : D} {h : DH} {Q : QD} {E : QX} : WF tab (n + 1) 56 [x0, x1] h Q E = b56 (WF tab n) (enF true h Q E) [some x0, some x1, none, none, none] h := WF_ap t56 rfl
theorem w57 {n : Nat} {x0 : D} {h : DH} {Q : QD} {E : QX} : WF tab (n + 1) 57 [x0] h Q E = b57 (WF tab n) (enF true h Q E) [some x0, none] h := WF_ap t57 rfl
theorem w58 {n : Nat} {x0 : D} {h : DH} {Q : QD} {E : QX} : WF tab (n + 1) 58 [x0] h Q E = b58 (WF tab n) (enF true h Q E) [some x0] h := WF_ap t58 rfl
theorem w59 {n : Nat} {x0 x1 : D} {h : DH} {Q : QD} {E : QX} : WF tab (n + 1) 59 [x0, x1] h Q E = b59 (WF tab n) (enF true h Q E) [some x0, some x1] h := WF_ap t59 rfl
theorem w60 {n : Nat} {x0 x1 x2 : D} {h : DH} {Q : QD} {E : QX} : WF tab (n + 1) 60 [x0, x1, x2] h Q E = b60 (WF tab n) (enF true h Q E) [some x0, some x1, some x2] h := WF_ap t60 rfl
theorem w61 {n : Nat} {x0 x1 x2 x3 : D} {h : DH} {Q : QD} {E : QX} : WF tab (n + 1) 61 [x0, x1, x2, x3] h Q E = b61 (WF tab n) (enF true h Q E) [some x0, some x1, some x2, some x3] h := WF_ap t61 rfl
theorem w62 {n : Nat} {x0 x1 : D} {h : DH} {Q : QD} {E : QX} : WF tab (n + 1) 62 [x0, x1] h Q E = b62 (WF tab n) (enF true h Q E) [some x0, some x1] h := WF_ap t62 rfl
theorem w63 {n : Nat} {x0 x1 : D} {h : DH} {Q : QD} {E : QX} : WF tab (n + 1) 63 [x0, x1] h Q E = b63 (WF tab n) (enF true h Q E) [some x0, some x1] h := WF_ap t63 rfl
theorem w64 {n : Nat} {x0 x1 : D} {h : DH} {Q : QD} {E : QX} : WF tab (n + 1) 64 [x0, x1] h Q E = b64 (WF tab n) (enF true h Q E) [some x0, some x1] h := WF_ap t64 rfl
theorem w65 {n : Nat} {x0 : D} {h : DH} {Q : QD} {E : QX} : WF tab (n + 1) 65 [x0] h Q E = b65 (WF tab n) (enF true h Q E) [some x0, none, none, none, none] h := WF_ap t65 rfl
theorem w66 {n : Nat} {x0 : D} {h : DH} {Q : QD} {E : QX} : WF tab (n + 1) 66 [x0] h Q E = b66 (WF tab n) (enF false h Q E) [some x0, none, none, none, none] h := WF_ap t66 rfl
theorem w67 {n : Nat} {x0 x1 : D} {h : DH} {Q : QD} {E : QX} : WF tab (n + 1) 67 [x0, x1] h Q E = b67 (WF tab n) (enF false h Q E) [some x0, some x1, none, none, none, none, none, none] h := WF_ap t67 rfl
theorem w68 {n : Nat} {x0 x1 : D} {h : DH} {Q : QD} {E : QX} : WF tab (n + 1) 68 [x0, x1] h Q E = b68 (WF tab n) (enF true h Q E) [some x0, some x1, none] h := WF_ap t68 rfl
theorem w69 {n : Nat} {x0 : D} {h : DH} {Q : QD} {E : QX} : WF tab (n + 1) 69 [x0] h Q E = b69 (WF tab n) (enF true h Q E) [some x0, none, none, none, none, none, none] h := WF_ap t69 rfl
theorem w70 {n : Nat} {x0 x1 x2 : D} {h : DH} {Q : QD} {E : QX} : WF tab (n + 1) 70 [x0, x1, x2] h Q E = b70 (WF tab n) (enF true h Q E) [some x0, some x1, some x2, none, none, none, none, none, none, none, none, none, none] h := WF_ap t70 rfl
theorem w71 {n : Nat} {x0 : D} {h : DH} {Q : QD} {E : QX} : WF tab (n + 1) 71 [x0] h Q E = b71 (WF tab n) (enF true h Q E) [some x0, none, none, none, none] h := WF_ap t71 rfl
theorem w72 {n : Nat} {x0 : D} {h : DH} {Q : QD} {E : QX} : WF tab (n + 1) 72 [x0] h Q E = b72 (WF tab n) (enF true h Q E) [some x0, none, none] h := WF_ap t72 rfl
theorem w73 {n : Nat} {x0 x1 x2 : D} {h : DH} {Q : QD} {E : QX} : WF tab (n + 1) 73 [x0, x1, x2] h Q E = b73 (WF tab n) (enF true h Q E) [some x0, some x1, some x2, none, none, none, none, none, none, none] h := WF_ap t73 rfl
theorem w74 {n : Nat} {x0 x1 : D} {h : DH} {Q : QD} {E : QX} : WF tab (n + 1) 74 [x0, x1] h Q E = b74 (WF tab n) (enF true h Q E) [some x0, some x1, none, none, none] h := WF_ap t74 rfl
theorem w75 {n : Nat} {x0 : D} {h : DH} {Q : QD} {E : QX} : WF tab (n + 1) 75 [x0] h Q E = b75 (WF tab n) (enF true h Q E) [some x0, none, none, none] h := WF_ap t75 rfl
theorem w76 {n : Nat} {x0 x1 : D} {h : DH} {Q : QD} {E : QX} : WF tab (n + 1) 76 [x0, x1] h Q E = b76 (WF tab n) (enF true h Q E) [some x0, some x1, none, none] h := WF_ap t76 rfl
theorem w77 {n : Nat} {x0 x1 : D} {h : DH} {Q : QD} {E : QX} : WF tab (n + 1) 77 [x0, x1] h Q E = b77 (WF tab n) (enF true h Q E) [some x0, some x1] h := WF_ap t77 rfl
theorem w78 {n : Nat} {x0 x1 : D} {h : DH} {Q : QD} {E : QX} : WF tab (n + 1) 78 [x0, x1] h Q E = b78 (WF tab n) (enF true h Q E) [some x0, some x1, none] h := WF_ap t78 rfl
theorem w79 {n : Nat} {x0 : D} {h : DH} {Q : QD} {E : QX} : WF tab (n + 1) 79 [x0] h Q E = b79 (WF tab n) (enF true h Q E) [some x0, none, none, none, none, none, none, none] h := WF_ap t79 rfl
theorem w80 {n : Nat} {x0 : D} {h : DH} {Q : QD} {E : QX} : WF tab (n + 1) 80 [x0] h Q E = b80 (WF tab n) (enF true h Q E) [some x0, none, none, none, none, none, none, none, none, none, none, none, none] h := WF_ap t80 rfl
theorem w81 {n : Nat} {x0 : D} {h : DH} {Q : QD} {E : QX} : WF tab (n + 1) 81 [x0] h Q E = b81 (WF tab n) (enF true h Q E) [some x0] h := WF_ap t81 rfl
abbrev f_is_integer : Nat := 0
abbrev f_is_instant : Nat := 1
abbrev f_is_row : Nat := 4
abbrev f_is_list_of : Nat := 5
abbrev f_ascends : Nat := 6
abbrev f_is_window : Nat := 8
abbrev f_is_windows : Nat := 9
abbrev f_is_moments : Nat := 10
abbrev f_check_kind : Nat := 52
abbrev f_is_a : Nat := 53
abbrev f_require : Nat := 54
abbrev f_lazy_calls : Nat := 55
abbrev f_all_served : Nat := 56
abbrev f_fewest_looks : Nat := 57
abbrev f_most_apart : Nat := 58
abbrev f_serves_all : Nat := 59
abbrev f_span_holds : Nat := 60
abbrev f_span_within : Nat := 61
abbrev f_holds : Nat := 62
abbrev f_is_within : Nat := 63
abbrev f_are_apart : Nat := 64
abbrev f_common : Nat := 65
abbrev f_law_jar : Nat := 66
abbrev f_law_take : Nat := 67
abbrev f_law_like : Nat := 68
abbrev f_law_lazy : Nat := 69
abbrev f_law_windows : Nat := 70
abbrev f_law_frame : Nat := 71
abbrev f_law_rising : Nat := 72
abbrev f_law_moments : Nat := 73
abbrev f_law_held : Nat := 74
abbrev f_law_common : Nat := 75
abbrev f_law_stabs : Nat := 76
abbrev f_law_pair : Nat := 77
abbrev f_law_near : Nat := 78
abbrev f_law_hand : Nat := 79
abbrev f_law_all : Nat := 80
abbrev f_law : Nat := 81
end K13
namespace K13
open PySem T2
variable {n : Nat} {h : DH} {Q : QD} {E : QX}
abbrev Wn := Int × Int
def W1 (w : Wn) : D := .tup [.int w.1, .int w.2]
def WL (ws : List Wn) : D := .tup (ws.map W1)
def Vw (w : Wn) : Prop := 0 ≤ w.1 ∧ w.1 ≤ w.2 ∧ w.2 ≤ 1000000000
def Vs (ws : List Wn) : Prop := ws.length ≤ 60 ∧ ∀ w ∈ ws, Vw w
def IL (ns : List Int) : D := .tup (ns.map D.int)
def Vm (ms : List Int) : Prop := ms.length ≤ 60 ∧ (∀ m ∈ ms, 0 ≤ m ∧ m ≤ 1000000000) ∧ ms.Pairwise (· < ·)
theorem is_integer_int {v lo hi : Int} : WF tab (n + 1) 0 [.int v, .int lo, .int hi] h Q E = Q (.bl (decide (lo ≤ v) && decide (v ≤ hi))) h := by
  rw [w0]
  by_cases hl : lo ≤ v <;> simp [b0, isa, hl]
theorem is_instant_int {v : Int} : WF tab (n + 2) 1 [.int v] h Q E = Q (.bl (decide (0 ≤ v) && decide (v ≤ 1000000000))) h := by
  rw [w1]
  simp [b1, is_integer_int]
theorem is_row_tup {xs : List D} {k : Int} : WF tab (n + 1) 4 [.tup xs, .int k] h Q E = Q (.bl (decide ((xs.length : Int) = k))) h := by
  rw [w4]
  simp [b4, isa]
theorem is_window_ok {w : Wn} (v : Vw w) : WF tab (n + 3) 8 [W1 w] h Q E = Q (.bl true) h := by
  obtain ⟨v1, v2, v3⟩ := v
  have v4 : w.1 ≤ 1000000000 := by omega
  have v5 : 0 ≤ w.2 := by omega
  rw [w8]
  simp [b8, W1, is_row_tup, is_instant_int, v1, v2, v3, v4, v5]
theorem is_list_of_ok {xs : List D} {lo hi : Int} {k : Nat} (hk : okN 1 k = true) (h1 : lo ≤ xs.length) (h2 : (xs.length : Int) ≤ hi) (hc : ∀ x ∈ xs, ∀ (h : DH) (Q : QD) (E : QX), Q (.bl true) h → WF tab n k [x] h Q E) (q : Q (.bl true) h) : WF tab (n + 1) 5 [.tup xs, .int lo, .int hi, .fn k] h Q E := by
  rw [w5]
  have e1 : ¬ ((xs.length : Int) < lo) := by omega
  have e2 : ¬ (hi < (xs.length : Int)) := by omega
  simp [b5, isa, e1, e2]
  obtain ⟨v, hv⟩ : ∃ v, v = D.tup xs := ⟨_, rfl⟩
  rw [← hv]
  clear hv e1 e2 h1 h2
  refine loopF_ind (I := fun ds σ h' => (∀ x ∈ ds, x ∈ xs) ∧ h' = h ∧ ∃ z, σ = [some v, some (.int lo), some (.int hi), some (.fn k), z]) ?_ ?_ ⟨fun _ z => z, rfl, _, rfl⟩
  · rintro σ h' ⟨_, rfl, z, rfl⟩
    simp [q]
  · rintro d ds σ h' ⟨hd, rfl, z, rfl⟩
    refine ⟨trivial, fun kk hkk => ?_⟩
    simp [hk]
    refine hc d (hd d List.mem_cons_self) _ _ _ ?_
    simp
    exact hkk _ _ ⟨fun x hx => hd x (List.mem_cons_of_mem _ hx), rfl, _, rfl⟩
theorem is_windows_ok {ws : List Wn} (v : Vs ws) (q : Q (.bl true) h) : WF tab (n + 5) 9 [WL ws] h Q E := by
  rw [w9]
  simp [b9, WL]
  refine is_list_of_ok (by decide) (by omega) (by have := v.1; simp; omega) (fun x hx h Q E q => ?_) (by simp [q])
  obtain ⟨w, hw, rfl⟩ := List.mem_map.mp hx
  rw [is_window_ok (v.2 w hw)]
  exact q
theorem ascends_ok {ms : List Int} (hl : ms.length ≤ 60) (v : ms.Pairwise (· < ·)) (q : Q (.bl true) h) : WF tab (n + 1) 6 [IL ms] h Q E := by
  rw [w6]
  simp [b6, IL]
  refine ⟨by simp [rngOk], by simp [rngOk]; omega, ?_⟩
  obtain ⟨u, hu⟩ : ∃ u, u = D.tup (ms.map D.int) := ⟨_, rfl⟩
  refine loopF_ind (I := fun ds σ h' => h' = h ∧ (∀ d ∈ ds, ∃ k : Nat, d = .int (1 + (k : Int)) ∧ k + 1 < ms.length) ∧ ∃ z, σ = [some u, z]) ?_ ?_ ⟨rfl, fun d hd => ?_, _, by rw [hu]⟩
  · rintro σ h' ⟨rfl, _, z, rfl⟩
    simp [q]
  · rintro d ds σ h' ⟨rfl, hd, z, rfl⟩
    obtain ⟨k, rfl, hk⟩ := hd d List.mem_cons_self
    refine ⟨trivial, fun kk hkk => ?_⟩
    have e1 : (1 + (k : Int)) - 1 = (k : Nat) := by omega
    have e2 : (1 + (k : Int)) = ((k + 1 : Nat) : Int) := by omega
    have e3 : ms[k] < ms[k + 1] := List.pairwise_iff_getElem.mp v k (k + 1) (by omega) hk (by omega)
    simp [hu]
    simp only [e1, e2, nth_nat]
    simp [hk, show k < ms.length by omega, e3]
    exact hkk _ _ ⟨rfl, fun d hd' => hd d (List.mem_cons_of_mem _ hd'), _, by rw [hu]⟩
  · simp [rng] at hd
    obtain ⟨k, hk, rfl⟩ := hd
    exact ⟨k, rfl, by omega⟩
theorem is_moments_ok {ms : List Int} (v : Vm ms) (q : Q (.bl true) h) : WF tab (n + 4) 10 [IL ms] h Q E := by
  rw [w10]
  simp [b10, IL]
  refine is_list_of_ok (by decide) (by omega) (by have := v.1; simp; omega) (fun x hx h Q E q => ?_) ?_
  · obtain ⟨w, hw, rfl⟩ := List.mem_map.mp hx
    rw [is_instant_int]
    have := v.2.1 w hw
    simpa [this] using q
  · simp
    exact ascends_ok v.1 v.2.2 (by simp [q])
/-! require -/
abbrev sWindows : Str := ⟨#[119, 105, 110, 100, 111, 119, 115]⟩
abbrev sWindow : Str := ⟨#[119, 105, 110, 100, 111, 119]⟩
abbrev sMoments : Str := ⟨#[109, 111, 109, 101, 110, 116, 115]⟩
abbrev sInstant : Str := ⟨#[105, 110, 115, 116, 97, 110, 116]⟩
theorem g_windows : getT tb_CHECKS sWindows = some 9 := by decide
theorem g_window : getT tb_CHECKS sWindow = some 8 := by decide
theorem g_moments : getT tb_CHECKS sMoments = some 10 := by decide
theorem g_instant : getT tb_CHECKS sInstant = some 1 := by decide
theorem require_ok {s : Str} {d : D} {k : Nat} (g : getT tb_CHECKS s = some k) (hk : okN 1 k = true) (hc : ∀ (Q : QD) (E : QX), Q (.bl true) h → WF tab n k [d] h Q E) (q : Q .non h) : WF tab (n + 1) 54 [.str s, d] h Q E := by
  rw [w54]
  simp [b54, g, hk]
  refine hc _ _ ?_
  simp [q]
theorem is_a_ok {s : Str} {d : D} {k : Nat} (g : getT tb_CHECKS s = some k) (hk : okN 1 k = true) (hc : ∀ (Q : QD) (E : QX), Q (.bl true) h → WF tab (n + 1) k [d] h Q E) (q : Q (.bl true) h) : WF tab (n + 2) 53 [.str s, d] h Q E := by
  rw [w53]
  simp [b53]
  rw [w52]
  simp [b52, g, hk, isa]
  refine hc _ _ ?_
  simp [q]
theorem req_windows {ws : List Wn} (v : Vs ws) (q : Q .non h) : WF tab (n + 6) 54 [.str sWindows, WL ws] h Q E := require_ok g_windows (by decide) (fun _ _ q => is_windows_ok v q) q
theorem req_window {w : Wn} (v : Vw w) (q : Q .non h) : WF tab (n + 6) 54 [.str sWindow, W1 w] h Q E := require_ok g_window (by decide) (fun _ _ q => by rw [is_window_ok v]; exact q) q
theorem req_moments {ms : List Int} (v : Vm ms) (q : Q .non h) : WF tab (n + 6) 54 [.str sMoments, IL ms] h Q E := require_ok g_moments (by decide) (fun _ _ q => is_moments_ok v q) q
theorem req_instant {t : Int} (v : 0 ≤ t ∧ t ≤ 1000000000) (q : Q .non h) : WF tab (n + 6) 54 [.str sInstant, .int t] h Q E := require_ok g_instant (by decide) (fun _ _ q => by rw [is_instant_int]; simpa [v] using q) q
end K13
namespace K13
open PySem T2
variable {n : Nat} {h : DH} {Q : QD} {E : QX}
/-! spans -/
theorem holds_ok {w : Wn} {t : Int} (v : Vw w) (vt : 0 ≤ t ∧ t ≤ 1000000000) (q : Q (.bl (decide (w.1 ≤ t) && decide (t ≤ w.2))) h) : WF tab (n + 7) 62 [W1 w, .int t] h Q E := by
  rw [w62]
  simp [b62]
  refine req_window v ?_
  refine req_instant vt ?_
  simp [W1]
  rw [w60]
  by_cases hl : w.1 ≤ t <;> simp [b60, hl] at q ⊢ <;> exact q
theorem is_within_ok {u w : Wn} (v : Vw u) (v' : Vw w) (q : Q (.bl (decide (w.1 ≤ u.1) && decide (u.2 ≤ w.2))) h) : WF tab (n + 7) 63 [W1 u, W1 w] h Q E := by
  rw [w63]
  simp [b63]
  refine req_window v ?_
  refine req_window v' ?_
  simp [W1]
  rw [w61]
  by_cases hl : w.1 ≤ u.1 <;> simp [b61, hl] at q ⊢ <;> exact q
theorem are_apart_ok {u w : Wn} (v : Vw u) (v' : Vw w) (q : Q (.bl (decide (u.2 < w.1) || decide (w.2 < u.1))) h) : WF tab (n + 7) 64 [W1 u, W1 w] h Q E := by
  rw [w64]
  simp [b64]
  refine req_window v ?_
  refine req_window v' ?_
  by_cases hl : u.2 < w.1 <;> simp [W1, hl] at q ⊢ <;> exact q
/-- greatest start, least end -/
def cm : List Wn → Int → Int → Int × Int
  | [], a, b => (a, b)
  | w :: ws, a, b => cm ws (if w.1 > a then w.1 else a) (if w.2 < b then w.2 else b)
def cmD (ws : List Wn) : D := let p := cm ws 0 1000000000; if p.2 < p.1 then .non else .tup [.int p.1, .int p.2]
theorem common_ok {ws : List Wn} (v : Vs ws) (q : Q (cmD ws) h) : WF tab (n + 7) 65 [WL ws] h Q E := by
  rw [w65]
  simp [b65]
  refine req_windows v ?_
  simp [WL]
  obtain ⟨u, hu⟩ : ∃ u, u = D.tup (ws.map W1) := ⟨_, rfl⟩
  rw [← hu]
  refine loopF_ind (I := fun ds σ h' => h' = h ∧ ∃ (r : List Wn) (a b : Int) (x y : Option D), ds = r.map W1 ∧ cm r a b = cm ws 0 1000000000 ∧ σ = [some u, some (.int a), some (.int b), x, y]) ?_ ?_ ⟨rfl, ws, _, _, _, _, rfl, rfl, rfl⟩
  · rintro σ h' ⟨rfl, r, a, b, x, y, hr, hc, rfl⟩
    have : r = [] := by simpa using hr.symm
    subst this
    unfold cmD at q
    simp only [← hc, cm] at q
    by_cases hl : b < a <;> simp [hl] at q ⊢ <;> exact q
  · rintro d ds σ h' ⟨rfl, r, a, b, x, y, hr, hc, rfl⟩
    cases r with
    | nil => cases hr
    | cons w r =>
      simp only [List.map_cons, List.cons.injEq] at hr
      obtain ⟨rfl, rfl⟩ := hr
      refine ⟨trivial, fun kk hkk => ?_⟩
      simp [W1]
      exact hkk _ _ ⟨rfl, r, _, _, _, _, rfl, hc, rfl⟩
/-! lazy looks -/
def pick (c : Wn) : List Wn → Wn
  | [] => c
  | w :: ws => if w.2 < c.2 then pick w ws else pick c ws
def lz : Nat → List Wn → List Wn
  | 0, _ => []
  | _ + 1, [] => []
  | k + 1, w :: ws => pick w (w :: ws) :: lz k ((w :: ws).filter fun x => decide ((pick w (w :: ws)).2 < x.1))
theorem pick_mem (c : Wn) : ∀ ws : List Wn, pick c ws = c ∨ pick c ws ∈ ws
  | [] => .inl rfl
  | w :: ws => by
    unfold pick
    split
    · rcases pick_mem w ws with e | e
      · rw [e]; exact .inr List.mem_cons_self
      · exact .inr (List.mem_cons_of_mem _ e)
    · rcases pick_mem c ws with e | e
      · exact .inl e
      · exact .inr (List.mem_cons_of_mem _ e)
theorem pick_le (c : Wn) : ∀ ws : List Wn, (pick c ws).2 ≤ c.2 ∧ ∀ w ∈ ws, (pick c ws).2 ≤ w.2
  | [] => ⟨Int.le_refl _, by simp⟩
  | w :: ws => by
    unfold pick
    split
    · rename_i hl
      obtain ⟨h1, h2⟩ := pick_le w ws
      refine ⟨by omega, fun x hx => ?_⟩
      rcases List.mem_cons.mp hx with e | e
      · rw [e]; exact h1
      · exact h2 x e
    · rename_i hl
      obtain ⟨h1, h2⟩ := pick_le c ws
      refine ⟨h1, fun x hx => ?_⟩
      rcases List.mem_cons.mp hx with e | e
      · rw [e]; omega
      · exact h2 x e
theorem pick_in (w : Wn) (ws : List Wn) : pick w (w :: ws) ∈ w :: ws := by
  rcases pick_mem w (w :: ws) with e | e
  · rw [e]; exact List.mem_cons_self
  · exact e
theorem rest_lt {w : Wn} {ws : List Wn} (v : ∀ x ∈ w :: ws, x.1 ≤ x.2) : ((w :: ws).filter fun x => decide ((pick w (w :: ws)).2 < x.1)).length < (w :: ws).length := by
  have e := pick_in w ws
  rw [List.length_filter_lt_length_iff_exists]
  refine ⟨_, e, ?_⟩
  have := v _ e
  simp
  omega
/-- more fuel changes nothing -/
theorem lz_fuel : ∀ (k j : Nat) (ws : List Wn), (∀ x ∈ ws, x.1 ≤ x.2) → ws.length ≤ k → ws.length ≤ j → lz k ws = lz j ws
  | 0, 0, _, _, _, _ => rfl
  | 0, j + 1, [], _, _, _ => rfl
  | k + 1, 0, [], _, _, _ => rfl
  | k + 1, j + 1, [], _, _, _ => rfl
  | k + 1, j + 1, w :: ws, v, hk, hj => by
    have e := rest_lt v
    unfold lz
    rw [lz_fuel k j _ (fun x hx => v x (List.mem_filter.mp hx).1) (by omega) (by omega)]
end K13
namespace K13
open PySem T2
variable {n : Nat} {h : DH} {Q : QD} {E : QX}
theorem map_W1_nil {r : List Wn} (e : [] = r.map W1) : r = [] := by simpa using e.symm
theorem lazy_calls_ok {ws : List Wn} (hl : ws.length ≤ 60) (v : ∀ w ∈ ws, w.1 ≤ w.2) (q : Q (WL (lz ws.length ws)) h) : WF tab (n + 1) 55 [WL ws] h Q E := by
  rw [w55]
  simp [b55, WL]
  intro a ha b hb
  have hb' : h.f b = none := (Ext.rfl.new ha).fresh hb
  have hab : a ≠ b := by
    rintro rfl
    simp at hb
  obtain ⟨u, hu⟩ : ∃ u, u = D.tup (ws.map W1) := ⟨_, rfl⟩
  rw [← hu]
  refine sWhile_ind (I := fun m σ h' => ∃ (rest done : List Wn) (a b : Addr) (z3 z4 z5 : Option D), σ = [some u, some (.ref a), some (.ref b), z3, z4, z5] ∧ m = rest.length ∧ a ≠ b ∧ h'.f a = some (.lst (rest.map W1)) ∧ h'.f b = some (.lst (done.map W1)) ∧ h.f b = none ∧ Ext h h' ∧
    rest.length + done.length ≤ 60 ∧ (∀ w ∈ rest, w.1 ≤ w.2) ∧ done ++ lz rest.length rest = lz ws.length ws) ?_ ⟨ws, [], a, b, _, _, _, rfl, rfl, hab, ?_, by simp, hb', (Ext.rfl.new ha).new hb, by simpa using hl, v, rfl⟩
  · rintro m σ h' ⟨rest, done, a, b, z3, z4, z5, rfl, rfl, hab, e1, e2, hb, ex, hlen, hv, hd⟩ k hk
    simp [pTru_ref (seqAt_of e1)]
    cases rest with
    | nil =>
      simp [lz] at hd ⊢
      rw [pTuple_ref (seqAt_of e2)]
      skip
      rw [ex, hd]
      exact q
    | cons w rest =>
      simp
      rw [pIx_ref (seqAt_of e1)]
      simp
      rw [onSeq_ref (seqAt_of e1)]
      refine loopF_ind (I := fun ds σ h'' => h'' = h' ∧ ∃ (r : List Wn) (c : Wn) (z4 : Option D), ds = r.map W1 ∧ pick c r = pick w (w :: rest) ∧ σ = [some u, some (.ref a), some (.ref b), some (W1 c), z4, z5]) ?_ ?_ ⟨rfl, w :: rest, w, _, rfl, rfl, rfl⟩
      · rintro σ h'' ⟨rfl, r, c, z4, hr, hc, rfl⟩
        have := map_W1_nil hr
        subst this
        have hc' : c = pick w (w :: rest) := hc
        refine ⟨seqAt_of e1, ?_⟩
        have hmem := pick_in w rest
        have hle := pick_le w (w :: rest)
        rw [← hc'] at hmem hle
        simp [tyOf_lst e2]
        rw [mAppend_lst e2]
        refine ⟨by simp [sizeLine]; simp at hlen; omega, ?_⟩
        simp [W1]
        rw [onSeq_ref (xs := (w :: rest).map W1) (seqAt_of (by rw [DH.upd_f_ne hab]; exact e1))]
        intro p hp
        have hpb : b ≠ p := by
          rintro rfl
          simp at hp
        have hpa : a ≠ p := by
          rintro rfl
          rw [DH.upd_f_ne hab, e1] at hp
          cases hp
        refine loopC_of W1 (fun x => if (decide (c.2 < x.1)) = true then some (W1 x) else none) (xs := w :: rest) rfl (fun xs => ?_) (fun x hx xs A B hA hB => ?_) (by simp [sizeLine]; simp at hlen; omega) ?_
        · exact seqAt_of (by rw [DH.upd_f_ne hpa, DH.upd_f_ne hab]; exact e1)
        · have h1 := hle.2 x hx
          simp [W1] at hA hB ⊢
          by_cases h2 : c.2 < x.1
          · have h3 : ¬ x.1 ≤ c.2 := by omega
            simp [h2, h3] at hA ⊢
            exact hA
          · have h3 : x.1 ≤ c.2 := by omega
            have h4 : ¬ x.2 < c.2 := by omega
            simp [h2, h3, h1, h4]
            exact hB (by omega)
        · rw [List.nil_append, fm_if]
          skip
          refine hk _ _ _ (rest_lt hv) ⟨(w :: rest).filter fun x => decide (c.2 < x.1), done ++ [c], p, b, _, _, _, rfl, ?_, Ne.symm hpb, by simp, ?_, hb, ?_, ?_, ?_, ?_⟩
          · rw [← hc']
          · rw [DH.upd_f_ne hpb]
            simp [W1]
          · exact (ex.set hb).new hp
          · have := rest_lt hv
            rw [← hc'] at this
            simp at hlen this ⊢
            omega
          · exact fun x hx => hv x (List.mem_filter.mp hx).1
          · rw [← hd, List.append_assoc]
            congr 1
            rw [List.length_cons, lz, ← hc']
            have := rest_lt hv
            rw [← hc'] at this
            rw [lz_fuel _ rest.length _ (fun x hx => hv x (List.mem_filter.mp hx).1) (Nat.le_refl _) (by simp at this ⊢; omega)]
            rfl
      · rintro d ds σ h'' ⟨rfl, r, c, z4, hr, hc, rfl⟩
        cases r with
        | nil => cases hr
        | cons x r =>
          simp only [List.map_cons, List.cons.injEq] at hr
          obtain ⟨rfl, rfl⟩ := hr
          refine ⟨seqAt_of e1, fun kk hkk => ?_⟩
          simp [W1]
          rw [pick] at hc
          by_cases h1 : x.2 < c.2
          · simp [h1] at hc ⊢
            exact hkk _ _ ⟨rfl, r, x, _, rfl, hc, rfl⟩
          · simp [h1] at hc ⊢
            exact hkk _ _ ⟨rfl, r, c, _, rfl, hc, rfl⟩
  · rw [DH.upd_f_ne hab]
    simp
end K13
namespace K13
open PySem T2
variable {n : Nat} {h : DH} {Q : QD} {E : QX}
/-! the law's own lazy looks -/
theorem law_lazy_ok {ws : List Wn} (hl : ws.length ≤ 60) (v : ∀ w ∈ ws, w.1 ≤ w.2) (q : Q (.tup [IL ((lz ws.length ws).map (·.2)), WL (lz ws.length ws)]) h) : WF tab (n + 1) 69 [WL ws] h Q E := by
  rw [w69]
  simp [b69, WL]
  intro a ha b hb p0 hp0
  have e0 := Ext.rfl.new (c := .lst []) ha
  have e1 := e0.new (c := .lst []) hb
  have hb' : h.f b = none := e0.fresh hb
  have hc' : h.f p0 = none := e1.fresh hp0
  have hab : a ≠ b := by
    rintro rfl
    simp at hb
  have hbc : b ≠ p0 := by
    rintro rfl
    simp at hp0
  have hac : a ≠ p0 := by
    rintro rfl
    rw [DH.upd_f_ne hab] at hp0
    simp at hp0
  obtain ⟨u, hu⟩ : ∃ u, u = D.tup (ws.map W1) := ⟨_, rfl⟩
  rw [← hu]
  refine ⟨by simp [rngOk]; omega, ?_⟩
  refine loopF_ind (I := fun ds σ h' => ∃ (rest done : List Wn) (l1 l2 : List D) (p : Addr) (z4 z5 z6 : Option D), l1 = (done.map (·.2)).map D.int ∧ l2 = done.map W1 ∧ σ = [some u, some (.ref a), some (.ref b), some (.ref p), z4, z5, z6] ∧ rest.length ≤ ds.length ∧ p ≠ a ∧ p ≠ b ∧ h'.f a = some (.lst l1) ∧ h'.f b = some (.lst l2) ∧ h'.f p = some (.lst (rest.map W1)) ∧ Ext h h' ∧
    rest.length + done.length ≤ 60 ∧ (∀ w ∈ rest, w.1 ≤ w.2) ∧ done ++ lz rest.length rest = lz ws.length ws) ?_ ?_ ⟨ws, [], [], [], p0, _, _, _, rfl, rfl, rfl, by simp [rng], Ne.symm hac, Ne.symm hbc, ?_, ?_, by simp, e1.new hp0, by simpa using hl, v, rfl⟩
  · rintro σ h' ⟨rest, done, l1, l2, p, z4, z5, z6, hl1, hl2, rfl, hlen, hpa, hpb, f1, f2, f3, ex, hl, hv, hd⟩
    have hr : rest = [] := List.eq_nil_of_length_eq_zero (by simpa using hlen)
    subst hr
    simp [lz] at hd
    rw [← hd] at q
    simp
    rw [pTuple_ref (seqAt_of f1), pTuple_ref (seqAt_of f2), ex, hl1, hl2]
    exact q
  · rintro d ds σ h' ⟨rest, done, l1, l2, p, z4, z5, z6, hl1, hl2, rfl, hlen, hpa, hpb, f1, f2, f3, ex, hl, hv, hd⟩
    refine ⟨trivial, fun k hk => ?_⟩
    simp
    rw [pLen_ref (seqAt_of f3)]
    cases rest with
    | nil =>
      simp [lz] at hd ⊢
      rw [← hd] at q
      rw [pTuple_ref (seqAt_of f1), pTuple_ref (seqAt_of f2), ex, hl1, hl2]
      exact q
    | cons w rest =>
      have h0 : ¬ ((((w :: rest).map W1).length : Int) = 0) := by
        simp only [List.length_map, List.length_cons]
        omega
      simp [h0]
      rw [pIx_ref (seqAt_of f3)]
      simp
      rw [onSeq_ref (seqAt_of f3)]
      refine loopF_ind (I := fun ds' σ h'' => h'' = h' ∧ ∃ (r : List Wn) (c : Wn) (z6 : Option D), ds' = r.map W1 ∧ pick c r = pick w (w :: rest) ∧ σ = [some u, some (.ref a), some (.ref b), some (.ref p), some d, some (W1 c), z6]) ?_ ?_ ⟨rfl, w :: rest, w, _, rfl, rfl, rfl⟩
      · rintro σ h'' ⟨rfl, r, c, z6, hr, hc, rfl⟩
        have := map_W1_nil hr
        subst this
        have hc' : c = pick w (w :: rest) := hc
        refine ⟨seqAt_of f3, ?_⟩
        have hmem := pick_in w rest
        rw [← hc'] at hmem
        simp [tyOf_lst f1, W1]
        rw [mAppend_lst f1]
        refine ⟨by simp [hl1, sizeLine]; simp at hl; omega, ?_⟩
        have g2 : (h''.upd a (.lst (l1 ++ [.int c.2]))).f b = some (.lst l2) := by
          rw [DH.upd_f_ne (Ne.symm hab)]
          exact f2
        simp [tyOf_lst g2]
        rw [mAppend_lst g2]
        refine ⟨by simp [hl2, sizeLine]; simp at hl; omega, ?_⟩
        have g3 : ((h''.upd a (.lst (l1 ++ [.int c.2]))).upd b (.lst (l2 ++ [D.tup [.int c.1, .int c.2]]))).f p = some (.lst ((w :: rest).map W1)) := by
          rw [DH.upd_f_ne hpb, DH.upd_f_ne hpa]
          exact f3
        skip
        rw [onSeq_ref (xs := (w :: rest).map W1) (seqAt_of (by simpa using g3))]
        intro r hr
        have hrp : p ≠ r := by
          rintro rfl
          simp at g3
          rw [g3] at hr
          cases hr
        have hrb : b ≠ r := by
          rintro rfl
          simp at hr
        have hra : a ≠ r := by
          rintro rfl
          rw [DH.upd_f_ne hab] at hr
          simp at hr
        refine loopC_of W1 (fun x => if (decide (c.2 < x.1)) = true then some (W1 x) else none) (xs := w :: rest) rfl (fun xs => ?_) (fun x hx xs A B hA hB => ?_) (by simp [sizeLine]; simp at hl; omega) ?_
        · refine seqAt_of ?_
          rw [DH.upd_f_ne hrp]
          simpa using g3
        · simp [W1] at hA hB ⊢
          by_cases h2 : c.2 < x.1
          · simp [h2] at hA ⊢
            exact hA
          · simp [h2]
            exact hB (by omega)
        · rw [List.nil_append, fm_if]
          have hlt := rest_lt hv
          rw [← hc'] at hlt
          refine hk _ _ ⟨(w :: rest).filter fun x => decide (c.2 < x.1), done ++ [c], _, _, r, _, _, _, rfl, rfl, rfl, ?_, Ne.symm hra, Ne.symm hrb, ?_, ?_, by simp, ?_, ?_, ?_, ?_⟩
          · simp only [List.length_cons] at hlen hlt ⊢
            omega
          · rw [DH.upd_f_ne hra, DH.upd_f_ne hab]
            simp [hl1]
          · rw [DH.upd_f_ne hrb]
            simp [hl2, W1]
          · exact ((ex.set ha).set hb').new (by simpa using hr)
          · simp at hl hlt ⊢
            omega
          · exact fun x hx => hv x (List.mem_filter.mp hx).1
          · rw [← hd, List.append_assoc]
            congr 1
            rw [List.length_cons, lz, ← hc']
            rw [lz_fuel _ rest.length _ (fun x hx => hv x (List.mem_filter.mp hx).1) (Nat.le_refl _) (by simp at hlt ⊢; omega)]
            rfl
      · rintro d' ds' σ h'' ⟨rfl, r, c, z6, hr, hc, rfl⟩
        cases r with
        | nil => cases hr
        | cons x r =>
          simp only [List.map_cons, List.cons.injEq] at hr
          obtain ⟨rfl, rfl⟩ := hr
          refine ⟨seqAt_of f3, fun kk hkk => ?_⟩
          simp [W1]
          rw [pick] at hc
          by_cases h1 : x.2 < c.2
          · simp [h1] at hc ⊢
            exact hkk _ _ ⟨rfl, r, x, _, rfl, hc, rfl⟩
          · simp [h1] at hc ⊢
            exact hkk _ _ ⟨rfl, r, c, _, rfl, hc, rfl⟩
  · rw [DH.upd_f_ne hac, DH.upd_f_ne hab]
    simp
  · rw [DH.upd_f_ne hbc]
    simp
/-! what is served -/
def held (ms : List Int) (w : Wn) : Bool := ms.any fun m => decide (w.1 ≤ m) && decide (m ≤ w.2)
def served (ms : List Int) (ws : List Wn) : Bool := ws.all (held ms)
theorem all_served_ok {ms : List Int} {ws : List Wn} (hm : ms.length ≤ 60) (q : Q (.bl (served ms ws)) h) : WF tab (n + 1) 56 [IL ms, WL ws] h Q E := by
  rw [w56]
  simp [b56, WL]
  obtain ⟨u, hu⟩ : ∃ u, u = D.tup (ws.map W1) := ⟨_, rfl⟩
  rw [← hu]
  refine loopF_ind (I := fun ds σ h' => Ext h h' ∧ ∃ (r : List Wn) (x y z : Option D), ds = r.map W1 ∧ served ms r = served ms ws ∧ σ = [some (IL ms), some u, x, y, z]) ?_ ?_ ⟨Ext.rfl, ws, _, _, _, rfl, rfl, rfl⟩
  · rintro σ h' ⟨ex, r, x, y, z, hr, hs, rfl⟩
    have := map_W1_nil hr
    subst this
    rw [← hs] at q
    simp
    rw [ex]
    exact q
  · rintro d ds σ h' ⟨ex, r, x, y, z, hr, hs, rfl⟩
    cases r with
    | nil => cases hr
    | cons w r =>
      simp only [List.map_cons, List.cons.injEq] at hr
      obtain ⟨rfl, rfl⟩ := hr
      refine ⟨trivial, fun kk hkk => ?_⟩
      simp [W1, IL]
      intro p hp
      refine loopC_of D.int (fun m => some (.bl (decide (w.1 ≤ m) && decide (m ≤ w.2)))) (xs := ms) rfl (fun xs => trivial) (fun m hm xs A B hA hB => ?_) (by simp [sizeLine]; omega) ?_
      · have h1 := hA _ rfl
        by_cases h2 : w.1 ≤ m <;> simp [h2] at h1 ⊢ <;> exact h1
      · have e3 : (ms.filterMap fun m => some (D.bl (decide (w.1 ≤ m) && decide (m ≤ w.2)))) = (ms.map fun m => (decide (w.1 ≤ m) && decide (m ≤ w.2))).map D.bl := by
          rw [fm_map (fun m => D.bl (decide (w.1 ≤ m) && decide (m ≤ w.2))), List.map_map]
          rfl
        rw [List.nil_append, e3, bAny_ref (seqAt_lst)]
        have e4 : ((ms.map fun m => (decide (w.1 ≤ m) && decide (m ≤ w.2))).any id) = held ms w := by
          rw [List.any_map]
          rfl
        rw [e4]
        have e5 : served ms (w :: r) = (held ms w && served ms r) := rfl
        rw [e5] at hs
        cases hh : held ms w with
        | true =>
          rw [hh] at hs
          simp
          exact hkk _ _ ⟨ex.new hp, r, _, _, _, rfl, hs, rfl⟩
        | false =>
          rw [hh] at hs
          simp
          have e6 := ex.new (c := .lst ((ms.map fun m => (decide (w.1 ≤ m) && decide (m ≤ w.2))).map D.bl)) hp
          simp at e6
          rw [e6]
          rw [← hs] at q
          exact q
theorem law_held_ok {ms : List Int} {ws : List Wn} (q : Q (.bl (served ms ws)) h) : WF tab (n + 1) 74 [IL ms, WL ws] h Q E := by
  rw [w74]
  simp [b74, WL]
  obtain ⟨u, hu⟩ : ∃ u, u = D.tup (ws.map W1) := ⟨_, rfl⟩
  rw [← hu]
  refine loopF_ind (I := fun ds σ h' => h' = h ∧ ∃ (r : List Wn) (x y z : Option D), ds = r.map W1 ∧ served ms r = served ms ws ∧ σ = [some (IL ms), some u, x, y, z]) ?_ ?_ ⟨rfl, ws, _, _, _, rfl, rfl, rfl⟩
  · rintro σ h' ⟨rfl, r, x, y, z, hr, hs, rfl⟩
    have := map_W1_nil hr
    subst this
    rw [← hs] at q
    simp
    exact q
  · rintro d ds σ h' ⟨rfl, r, x, y, z, hr, hs, rfl⟩
    cases r with
    | nil => cases hr
    | cons w r =>
      simp only [List.map_cons, List.cons.injEq] at hr
      obtain ⟨rfl, rfl⟩ := hr
      refine ⟨trivial, fun kk hkk => ?_⟩
      simp [W1, IL]
      have e5 : served ms (w :: r) = (held ms w && served ms r) := rfl
      rw [e5] at hs
      refine loopF_ind (I := fun ds σ h'' => h'' = h' ∧ ∃ (r : List Int) (b : Bool) (z : Option D), ds = r.map D.int ∧ (b || held r w) = held ms w ∧ σ = [some (.tup (ms.map D.int)), some u, some (W1 w), some (.bl b), z]) ?_ ?_ ⟨rfl, ms, false, _, rfl, rfl, rfl⟩
      · rintro σ h'' ⟨rfl, r2, b, z, hr, hb, rfl⟩
        have : r2 = [] := by simpa using hr.symm
        subst this
        have hb' : b = held ms w := by simpa [held] using hb
        subst hb'
        simp
        cases hh : held ms w with
        | true =>
          rw [hh] at hs
          simp
          exact hkk _ _ ⟨rfl, r, _, _, _, rfl, hs, rfl⟩
        | false =>
          rw [hh] at hs
          simp
          rw [← hs] at q
          exact q
      · rintro d ds σ h'' ⟨rfl, r2, b, z, hr, hb, rfl⟩
        cases r2 with
        | nil => cases hr
        | cons m r2 =>
          simp only [List.map_cons, List.cons.injEq] at hr
          obtain ⟨rfl, rfl⟩ := hr
          refine ⟨trivial, fun k2 hk2 => ?_⟩
          have e6 : held (m :: r2) w = ((decide (w.1 ≤ m) && decide (m ≤ w.2)) || held r2 w) := rfl
          rw [e6] at hb
          simp [W1]
          by_cases h1 : w.1 ≤ m
          · by_cases h2 : m ≤ w.2
            · simp [h1, h2] at hb ⊢
              exact hk2 _ _ ⟨rfl, r2, true, _, rfl, by simp [hb], rfl⟩
            · simp [h1, h2] at hb ⊢
              exact hk2 _ _ ⟨rfl, r2, b, _, rfl, by simp [hb], rfl⟩
          · simp [h1] at hb ⊢
            exact hk2 _ _ ⟨rfl, r2, b, _, rfl, by simp [hb], rfl⟩
end K13
namespace K13
open PySem T2
variable {n : Nat} {h : DH} {Q : QD} {E : QX}
/-! what is alike -/
mutual
def tree : Nat → D → Bool
  | _, .non => true
  | _, .bl _ => true
  | _, .int _ => true
  | m + 1, .tup xs => decide (xs.length ≤ 1000) && trees m xs
  | _, _ => false
def trees : Nat → List D → Bool
  | _, [] => true
  | m, x :: xs => tree m x && trees m xs
end
theorem trees_mem : ∀ {m : Nat} {xs : List D} {i : Nat} {x : D}, trees m xs = true → xs[i]? = some x → tree m x = true
  | m, [], i, x, _, e => by simp at e
  | m, y :: ys, 0, x, t, e => by
    unfold trees at t
    simp at t e
    rw [← e]
    exact t.1
  | m, y :: ys, i + 1, x, t, e => by
    unfold trees at t
    simp at t e
    exact trees_mem t.2 e
theorem like_ok : ∀ (m n : Nat) (d : D) (h : DH) (Q : QD) (E : QX), tree m d = true → Q (.bl true) h → WF tab (n + m + 1) 68 [d, d] h Q E
  | m, n, .non, h, Q, E, t, q => by
    rw [w68]
    simp [b68]
    exact q
  | m, n, .bl b, h, Q, E, t, q => by
    rw [w68]
    simp [b68, isa]
    exact q
  | m, n, .int i, h, Q, E, t, q => by
    rw [w68]
    simp [b68, isa]
    exact q
  | m, n, .str x, h, Q, E, t, q => by cases m <;> simp [tree] at t
  | m, n, .ref x, h, Q, E, t, q => by cases m <;> simp [tree] at t
  | m, n, .fn x, h, Q, E, t, q => by cases m <;> simp [tree] at t
  | m, n, .ty x, h, Q, E, t, q => by cases m <;> simp [tree] at t
  | 0, n, .tup xs, h, Q, E, t, q => by simp [tree] at t
  | m + 1, n, .tup xs, h, Q, E, t, q => by
    simp [tree] at t
    rw [w68]
    simp [b68, isa]
    refine ⟨by simp [rngOk]; omega, ?_⟩
    obtain ⟨u, hu⟩ : ∃ u, u = D.tup xs := ⟨_, rfl⟩
    rw [← hu]
    refine loopF_ind (I := fun ds σ h' => h' = h ∧ (∀ d ∈ ds, ∃ k : Nat, d = .int (k : Int) ∧ k < xs.length) ∧ ∃ z, σ = [some u, some u, z]) ?_ ?_ ⟨rfl, fun d hd => ?_, _, rfl⟩
    · rintro σ h' ⟨rfl, _, z, rfl⟩
      simp
      exact q
    · rintro d ds σ h' ⟨rfl, hd, z, rfl⟩
      obtain ⟨k, rfl, hk⟩ := hd d List.mem_cons_self
      refine ⟨trivial, fun kk hkk => ?_⟩
      simp [hu, hk]
      refine like_ok m n xs[k] _ _ _ (trees_mem t.2 (List.getElem?_eq_getElem hk)) ?_
      simp
      rw [← hu]
      exact hkk _ _ ⟨rfl, fun d hd' => hd d (List.mem_cons_of_mem _ hd'), _, rfl⟩
    · simp [rng] at hd
      obtain ⟨k, hk, rfl⟩ := hd
      exact ⟨k, rfl, hk⟩
theorem trees_ints (ms : List Int) (m : Nat) : trees m (ms.map D.int) = true := by
  induction ms with
  | nil => rfl
  | cons x xs ih =>
    rw [List.map_cons, trees, ih]
    cases m <;> rfl
theorem tree_IL {ms : List Int} (hl : ms.length ≤ 1000) : tree 1 (IL ms) = true := by
  simp [IL, tree, trees_ints, hl]
theorem trees_W (ws : List Wn) : trees 1 (ws.map W1) = true := by
  induction ws with
  | nil => rfl
  | cons x xs ih =>
    rw [List.map_cons, trees, ih]
    rfl
theorem tree_WL {ws : List Wn} (hl : ws.length ≤ 1000) : tree 2 (WL ws) = true := by
  simp [WL, tree, trees_W, hl]
/-! the ways in -/
theorem fewest_ok {ws : List Wn} (v : Vs ws) (q : Q (IL ((lz ws.length ws).map (·.2))) h) : WF tab (n + 7) 57 [WL ws] h Q E := by
  rw [w57]
  simp [b57]
  refine req_windows v ?_
  refine lazy_calls_ok v.1 (fun w hw => (v.2 w hw).2.1) ?_
  simp [WL]
  intro p hp
  have hlz : ∀ (k : Nat) (ws : List Wn), (lz k ws).length ≤ k := by
    intro k
    induction k with
    | zero => intro ws; simp [lz]
    | succ k ih =>
      intro ws
      cases ws with
      | nil => simp [lz]
      | cons w ws =>
        simp [lz]
        exact ih _
  have := hlz ws.length ws
  have := v.1
  refine loopC_of W1 (fun x => some (.int x.2)) (xs := lz ws.length ws) rfl (fun xs => trivial) (fun x hx xs A B hA hB => ?_) (by simp [sizeLine]; omega) ?_
  · simp [W1]
    exact hA _ rfl
  · rw [List.nil_append, fm_map (fun x : Wn => D.int x.2), bTuple_ref seqAt_lst]
    simp [gcTo_new hp]
    rw [IL, List.map_map] at q
    exact q
theorem most_ok {ws : List Wn} (v : Vs ws) (q : Q (WL (lz ws.length ws)) h) : WF tab (n + 7) 58 [WL ws] h Q E := by
  rw [w58]
  simp [b58]
  refine req_windows v ?_
  refine lazy_calls_ok v.1 (fun w hw => (v.2 w hw).2.1) ?_
  simp
  exact q
theorem serves_ok {ms : List Int} {ws : List Wn} (vm : Vm ms) (v : Vs ws) (q : Q (.bl (served ms ws)) h) : WF tab (n + 7) 59 [IL ms, WL ws] h Q E := by
  rw [w59]
  simp [b59]
  refine req_moments vm ?_
  refine req_windows v ?_
  refine all_served_ok vm.1 ?_
  simp
  exact q
theorem law_common_ok {ws : List Wn} (q : Q (cmD ws) h) : WF tab (n + 1) 75 [WL ws] h Q E := by
  rw [w75]
  simp [b75, WL, powOk]
  obtain ⟨u, hu⟩ : ∃ u, u = D.tup (ws.map W1) := ⟨_, rfl⟩
  rw [← hu]
  refine loopF_ind (I := fun ds σ h' => h' = h ∧ ∃ (r : List Wn) (a b : Int) (x : Option D), ds = r.map W1 ∧ cm r a b = cm ws 0 1000000000 ∧ σ = [some u, some (.int a), some (.int b), x]) ?_ ?_ ⟨rfl, ws, _, _, _, rfl, rfl, rfl⟩
  · rintro σ h' ⟨rfl, r, a, b, x, hr, hc, rfl⟩
    have := map_W1_nil hr
    subst this
    unfold cmD at q
    simp only [← hc, cm] at q
    by_cases hl : b < a <;> simp [hl] at q ⊢ <;> exact q
  · rintro d ds σ h' ⟨rfl, r, a, b, x, hr, hc, rfl⟩
    cases r with
    | nil => cases hr
    | cons w r =>
      simp only [List.map_cons, List.cons.injEq] at hr
      obtain ⟨rfl, rfl⟩ := hr
      refine ⟨trivial, fun kk hkk => ?_⟩
      simp [W1]
      exact hkk _ _ ⟨rfl, r, _, _, _, rfl, hc, rfl⟩
/-! the lazy looks are lazy -/
theorem lz_length : ∀ (k : Nat) (ws : List Wn), (lz k ws).length ≤ k
  | 0, _ => by simp [lz]
  | k + 1, [] => by simp [lz]
  | k + 1, w :: ws => by
    have := lz_length k ((w :: ws).filter fun x => decide ((pick w (w :: ws)).2 < x.1))
    rw [lz, List.length_cons]
    omega
theorem lz_mem : ∀ (k : Nat) (ws : List Wn), ∀ w ∈ lz k ws, w ∈ ws
  | 0, _ => by simp [lz]
  | k + 1, [] => by simp [lz]
  | k + 1, w :: ws => fun x hx => by
    rw [lz] at hx
    rcases List.mem_cons.mp hx with e | e
    · rw [e]
      exact pick_in w ws
    · exact (List.mem_filter.mp (lz_mem k _ x e)).1
theorem lz_apart : ∀ (k : Nat) (ws : List Wn), (lz k ws).Pairwise fun u w => u.2 < w.1
  | 0, _ => by simp [lz]
  | k + 1, [] => by simp [lz]
  | k + 1, w :: ws => by
    rw [lz, List.pairwise_cons]
    refine ⟨fun x hx => ?_, lz_apart k _⟩
    have := (List.mem_filter.mp (lz_mem k _ x hx)).2
    exact of_decide_eq_true this
theorem lz_served : ∀ (k : Nat) (ws : List Wn), (∀ w ∈ ws, w.1 ≤ w.2) → ws.length ≤ k → ∀ w ∈ ws, held ((lz k ws).map (·.2)) w = true
  | 0, [], _, _ => by simp
  | k + 1, [], _, _ => by simp
  | k + 1, w :: ws, v, hk => fun x hx => by
    rw [lz, List.map_cons]
    have e : ∀ (m : Int) (ms : List Int), held (m :: ms) x = ((decide (x.1 ≤ m) && decide (m ≤ x.2)) || held ms x) := fun _ _ => rfl
    rw [e]
    by_cases h1 : (pick w (w :: ws)).2 < x.1
    · have := rest_lt v
      simp only [List.length_cons] at this hk
      rw [lz_served k _ (fun y hy => v y (List.mem_filter.mp hy).1) (by omega) x (List.mem_filter.mpr ⟨hx, by simpa using h1⟩), Bool.or_true]
    · have h2 : x.1 ≤ (pick w (w :: ws)).2 := by omega
      have h3 := (pick_le w (w :: ws)).2 x hx
      simp [h2, h3]
theorem served_lz {ws : List Wn} (v : ∀ w ∈ ws, w.1 ≤ w.2) : served ((lz ws.length ws).map (·.2)) ws = true :=
  List.all_eq_true.mpr fun w hw => lz_served _ _ v (Nat.le_refl _) w hw
theorem Vs_lz {ws : List Wn} (v : Vs ws) : Vs (lz ws.length ws) := ⟨Nat.le_trans (lz_length _ _) v.1, fun w hw => v.2 w (lz_mem _ _ w hw)⟩
theorem Vm_lz {ws : List Wn} (v : Vs ws) : Vm ((lz ws.length ws).map (·.2)) := by
  refine ⟨by simp; exact Nat.le_trans (lz_length _ _) v.1, fun m hm => ?_, ?_⟩
  · obtain ⟨w, hw, rfl⟩ := List.mem_map.mp hm
    obtain ⟨h1, h2, h3⟩ := v.2 w (lz_mem _ _ w hw)
    omega
  · rw [List.pairwise_map]
    refine List.Pairwise.imp_of_mem (fun {a b} ha hb e => ?_) (lz_apart ws.length ws)
    have := (v.2 b (lz_mem _ _ b hb)).2.1
    omega
/-! the law's parts -/
theorem like_bl {b : Bool} (q : Q (.bl true) h) : WF tab (n + 1) 68 [.bl b, .bl b] h Q E := like_ok 0 n (.bl b) _ _ _ rfl q
theorem stabs_ok {ws : List Wn} {ms : List Int} (v : Vs ws) (vm : Vm ms) (q : Q (.bl true) h) : WF tab (n + 8) 76 [WL ws, IL ms] h Q E := by
  have vl := Vm_lz v
  have vc := Vs_lz v
  rw [w76]
  simp [b76]
  refine law_lazy_ok v.1 (fun w hw => (v.2 w hw).2.1) ?_
  simp
  refine fewest_ok v ?_
  refine like_ok 1 (n + 5) _ _ _ _ (tree_IL (by have := vl.1; omega)) ?_
  simp
  refine most_ok v ?_
  refine like_ok 2 (n + 4) _ _ _ _ (tree_WL (by have := vc.1; omega)) ?_
  simp
  refine serves_ok vl v ?_
  rw [served_lz fun w hw => (v.2 w hw).2.1]
  refine like_bl ?_
  simp
  refine serves_ok vm v ?_
  refine law_held_ok ?_
  refine like_bl ?_
  simp
  exact q
end K13
namespace K13
open PySem T2
variable {n : Nat} {h : DH} {Q : QD} {E : QX}
theorem pair_ok {u w : Wn} (vu : Vw u) (vw : Vw w) (q : Q (.bl true) h) : WF tab (n + 8) 77 [W1 u, W1 w] h Q E := by
  rw [w77]
  simp [b77]
  refine are_apart_ok vu vw ?_
  have e2 : Vs [u, w] := ⟨by simp, by simp [vu, vw]⟩
  have last : ∀ (Q : QD) (E : QX), Q (.bl true) h → WF tab (n + 7) 65 [.tup [W1 u, W1 w]] h (fun x h1 => WF tab (n + 7) 75 [.tup [W1 u, W1 w]] h1 (fun x_1 h1 => WF tab (n + 7) 68 [x, x_1] h1 Q E) E) E := fun Q E q => by
    refine common_ok (ws := [u, w]) e2 ?_
    refine law_common_ok (ws := [u, w]) (n := n + 6) ?_
    refine like_ok 1 (n + 5) _ _ _ _ ?_ q
    unfold cmD
    dsimp only
    split <;> rfl
  have third : ∀ (Q : QD) (E : QX) (k : Bool), Q (.bl true) h → WF tab (n + 7) 68 [.bl k, .bl k] h Q E := fun Q E k q => like_ok 0 (n + 6) (.bl k) _ _ _ rfl q
  have fin : ∀ (Q : QD) (E : QX), Q (.bl true) h → True := fun _ _ _ => trivial
  by_cases h1 : u.2 < w.1 <;> by_cases h2 : w.2 < u.1 <;> by_cases h3 : w.1 ≤ u.1 <;> by_cases h4 : u.2 ≤ w.2 <;> by_cases h5 : u.1 ≤ w.1 <;> by_cases h6 : w.2 ≤ u.2 <;> first
    | (exfalso; obtain ⟨a1, a2, a3⟩ := vu; obtain ⟨b1, b2, b3⟩ := vw; omega)
    | (simp [W1, h1, h2]
       refine third _ _ _ ?_
       simp
       refine is_within_ok vu vw ?_
       simp [W1, h3, h4]
       refine third _ _ _ ?_
       simp
       refine is_within_ok vw vu ?_
       simp [W1, h5, h6]
       refine third _ _ _ ?_
       simp
       refine last _ _ ?_
       simp
       exact q)
theorem like_b (k : Bool) (q : Q (.bl true) h) : WF tab (n + 1) 68 [.bl k, .bl k] h Q E := like_ok 0 n (.bl k) _ _ _ rfl q
theorem near_ok {w : Wn} {t : Int} (v : Vw w) (vt : 0 ≤ t ∧ t ≤ 1000000000) (q : Q (.bl true) h) : WF tab (n + 9) 78 [W1 w, .int t] h Q E := by
  rw [w78]
  simp [b78, W1]
  refine loopF_ind (I := fun ds σ h' => h' = h ∧ (∀ d ∈ ds, ∃ m : Int, d = .int m) ∧ ∃ z, σ = [some (W1 w), some (.int t), z]) ?_ ?_ ⟨rfl, by simp, _, rfl⟩
  · rintro σ h' ⟨rfl, _, z, rfl⟩
    obtain ⟨a1, a2, a3⟩ := v
    simp
    refine is_within_ok ⟨a1, a2, a3⟩ ⟨a1, a2, a3⟩ ?_
    simp
    refine like_b true ?_
    simp
    refine are_apart_ok ⟨a1, a2, a3⟩ ⟨a1, a2, a3⟩ ?_
    have e1 : ¬ w.2 < w.1 := by omega
    simp [e1]
    refine like_b false ?_
    simp [W1, powOk]
    have fin : ∀ (K : En) (hh : Q (.bl true) h'), True := fun _ _ => trivial
    by_cases e2 : w.1 < w.2
    · simp [e2]
      refine pair_ok (u := w) (w := (w.1 + 1, w.2)) ⟨a1, a2, a3⟩ ⟨by dsimp only; omega, by dsimp only; omega, by dsimp only; omega⟩ ?_
      simp
      refine pair_ok (u := w) (w := (w.1, w.2 - 1)) ⟨a1, a2, a3⟩ ⟨by dsimp only; omega, by dsimp only; omega, by dsimp only; omega⟩ ?_
      simp [powOk]
      by_cases e3 : w.2 < 1000000000
      · simp [e3]
        refine pair_ok (u := w) (w := (w.2 + 1, 1000000000)) ⟨a1, a2, a3⟩ ⟨by dsimp only; omega, by dsimp only; omega, by dsimp only; omega⟩ ?_
        simp
        refine pair_ok (w := w) (u := (w.2, w.2 + 1)) ⟨by dsimp only; omega, by dsimp only; omega, by dsimp only; omega⟩ ⟨a1, a2, a3⟩ ?_
        simp
        exact q
      · simp [e3]
        exact q
    · simp [e2, powOk]
      by_cases e3 : w.2 < 1000000000
      · simp [e3]
        refine pair_ok (u := w) (w := (w.2 + 1, 1000000000)) ⟨a1, a2, a3⟩ ⟨by dsimp only; omega, by dsimp only; omega, by dsimp only; omega⟩ ?_
        simp
        refine pair_ok (w := w) (u := (w.2, w.2 + 1)) ⟨by dsimp only; omega, by dsimp only; omega, by dsimp only; omega⟩ ⟨a1, a2, a3⟩ ?_
        simp
        exact q
      · simp [e3]
        exact q
  · rintro d ds σ h' ⟨rfl, hd, z, rfl⟩
    obtain ⟨m, rfl⟩ := hd d List.mem_cons_self
    refine ⟨trivial, fun kk hkk => ?_⟩
    have nx := hkk [some (W1 w), some (.int t), some (.int m)] h' ⟨rfl, fun d hd' => hd d (List.mem_cons_of_mem _ hd'), _, rfl⟩
    by_cases h1 : 0 ≤ m
    · by_cases h2 : m ≤ 1000000000
      · simp [h1, h2, powOk]
        refine holds_ok v ⟨h1, h2⟩ ?_
        by_cases h3 : w.1 ≤ m <;> simp [W1, h3] <;> refine like_b _ ?_ <;> simp <;> exact nx
      · simp [h1, h2, powOk]
        exact nx
    · simp [h1]
      exact nx
end K13
namespace K13
open PySem T2
variable {n : Nat} {h : DH} {Q : QD} {E : QX}
def sh (t : Int) (w : Wn) : Wn := (w.1 + t, w.2 + t)
theorem pick_sh (t : Int) : ∀ (ws : List Wn) (c : Wn), pick (sh t c) (ws.map (sh t)) = sh t (pick c ws)
  | [], _ => rfl
  | w :: ws, c => by
    rw [List.map_cons, pick, pick]
    have e : ((sh t w).2 < (sh t c).2) ↔ (w.2 < c.2) := by
      show w.2 + t < c.2 + t ↔ _
      omega
    by_cases h1 : w.2 < c.2
    · rw [if_pos h1, if_pos (e.mpr h1)]
      exact pick_sh t ws w
    · rw [if_neg h1, if_neg (fun z => h1 (e.mp z))]
      exact pick_sh t ws c
theorem lz_sh (t : Int) : ∀ (k : Nat) (ws : List Wn), lz k (ws.map (sh t)) = (lz k ws).map (sh t)
  | 0, _ => rfl
  | k + 1, [] => rfl
  | k + 1, w :: ws => by
    rw [List.map_cons, lz, lz, List.map_cons]
    have e1 : pick (sh t w) (sh t w :: ws.map (sh t)) = sh t (pick w (w :: ws)) := pick_sh t (w :: ws) w
    rw [e1, ← lz_sh t k, ← List.map_cons, List.filter_map]
    congr 1
    refine congrArg (lz k) (congrArg (List.map (sh t)) (List.filter_congr fun x _ => ?_))
    show decide ((pick w (w :: ws)).2 + t < x.1 + t) = decide ((pick w (w :: ws)).2 < x.1)
    exact decide_eq_decide.mpr (by omega)
theorem cm_sh (t : Int) : ∀ (ws : List Wn) (a b : Int), cm (ws.map (sh t)) (a + t) (b + t) = sh t (cm ws a b)
  | [], _, _ => rfl
  | w :: ws, a, b => by
    rw [List.map_cons, cm, cm, ← cm_sh t ws]
    have e1 : (if (sh t w).1 > a + t then (sh t w).1 else a + t) = (if w.1 > a then w.1 else a) + t := by
      show (if w.1 + t > a + t then w.1 + t else a + t) = _
      split <;> split <;> omega
    have e2 : (if (sh t w).2 < b + t then (sh t w).2 else b + t) = (if w.2 < b then w.2 else b) + t := by
      show (if w.2 + t < b + t then w.2 + t else b + t) = _
      split <;> split <;> omega
    rw [e1, e2]
theorem cmD_sh {t : Int} {w : Wn} {ws : List Wn} (h0 : 0 ≤ w.1 + t) (h1 : w.2 + t ≤ 1000000000) : cmD ((w :: ws).map (sh t)) = (let p := cm ws w.1 w.2; if p.2 < p.1 then D.non else .tup [.int (p.1 + t), .int (p.2 + t)]) := by
  unfold cmD
  rw [List.map_cons, cm]
  have e1 : (if (sh t w).1 > 0 then (sh t w).1 else 0) = w.1 + t := by
    show (if w.1 + t > 0 then w.1 + t else 0) = _
    split <;> omega
  have e2 : (if (sh t w).2 < 1000000000 then (sh t w).2 else 1000000000) = w.2 + t := by
    show (if w.2 + t < 1000000000 then w.2 + t else 1000000000) = _
    split <;> omega
  rw [e1, e2, cm_sh]
  dsimp only [sh]
  by_cases hl : (cm ws w.1 w.2).2 < (cm ws w.1 w.2).1
  · rw [if_pos hl, if_pos (by omega)]
  · rw [if_neg hl, if_neg (by omega)]
def rowsH : List Wn := [(2, 9), (0, 3), (4, 9), (5, 9), (3, 3), (10, 12), (9, 10)]
def backH : List Wn := [(9, 10), (10, 12), (3, 3), (5, 9), (4, 9), (0, 3), (2, 9)]
theorem Vs_H {t : Int} (h0 : 0 ≤ t) (h1 : t ≤ 999999988) (ws : List Wn) (hl : ws.length ≤ 60) (hw : ∀ w ∈ ws, 0 ≤ w.1 ∧ w.1 ≤ w.2 ∧ w.2 ≤ 12) : Vs (ws.map (sh t)) := by
  refine ⟨by simpa using hl, fun w hm => ?_⟩
  obtain ⟨x, hx, rfl⟩ := List.mem_map.mp hm
  have := hw x hx
  refine ⟨?_, ?_, ?_⟩ <;> dsimp only [sh] <;> omega
theorem Vm_H {t : Int} (h0 : 0 ≤ t) (h1 : t ≤ 999999988) (ms : List Int) (hl : ms.length ≤ 60) (hw : ∀ w ∈ ms, 0 ≤ w ∧ w ≤ 12) (hp : ms.Pairwise (· < ·)) : Vm (ms.map (· + t)) := by
  refine ⟨by simpa using hl, fun w hm => ?_, ?_⟩
  · obtain ⟨x, hx, rfl⟩ := List.mem_map.mp hm
    have := hw x hx
    omega
  · rw [List.pairwise_map]
    exact hp.imp fun {a b} e => by omega
theorem held_sh (t : Int) (ms : List Int) (w : Wn) : held (ms.map (· + t)) (sh t w) = held ms w := by
  unfold held
  rw [List.any_map]
  congr 1
  funext m
  show (decide (w.1 + t ≤ m + t) && decide (m + t ≤ w.2 + t)) = _
  rw [decide_eq_decide.mpr (show w.1 + t ≤ m + t ↔ w.1 ≤ m by omega), decide_eq_decide.mpr (show m + t ≤ w.2 + t ↔ m ≤ w.2 by omega)]
theorem served_sh (t : Int) (ms : List Int) (ws : List Wn) : served (ms.map (· + t)) (ws.map (sh t)) = served ms ws := by
  unfold served
  rw [List.all_map]
  congr 1
  funext w
  exact held_sh t ms w
theorem Wsh (t : Int) (ws : List Wn) : (ws.map fun x => W1 (sh t x)) = (ws.map (sh t)).map W1 := by
  rw [List.map_map]
  rfl
theorem hand_ok {t : Int} (h0 : 0 ≤ t) (h1 : t ≤ 999999988) (q : Q (.bl true) h) : WF tab (n + 8) 79 [.int t] h Q E := by
  have vr : Vs (rowsH.map (sh t)) := Vs_H h0 h1 rowsH (by decide) (by decide)
  have vb : Vs (backH.map (sh t)) := Vs_H h0 h1 backH (by decide) (by decide)
  rw [w79]
  unfold b79
  refine sSeq_gen fun K1 k1 => ?_
  simp
  rw [k1, thenK_nx]
  clear k1 K1
  refine sSeq_gen fun K1 k1 => ?_
  simp
  intro p hp
  refine loopC_of W1 (fun x => some (W1 (sh t x))) (xs := rowsH) rfl (fun xs => trivial) (fun x hx xs A B hA hB => ?_) (by simp [rowsH, sizeLine]) ?_
  · simp [W1]
    exact hA _ rfl
  rw [List.nil_append, fm_map (fun x => W1 (sh t x)), bTuple_ref seqAt_lst, Wsh]
  have ex1 := Ext.rfl.new (c := .lst ((rowsH.map (sh t)).map W1)) hp
  generalize hg1 : h.upd p (.lst ((rowsH.map (sh t)).map W1)) = g1 at ex1
  clear hg1 hp p
  rw [k1, thenK_nx]
  clear k1 K1
  refine sSeq_gen fun K1 k1 => ?_
  simp [rngOk, -List.map_map]
  intro p hp
  refine loopC_of (fun k : Nat => D.int (0 + (k : Int))) (fun k => some (W1 (sh t (rowsH.getD (6 - k) (0, 0))))) (xs := List.range 7) rfl (fun xs => trivial) (fun k hk xs A B hA hB => ?_) (by simp [sizeLine]) ?_
  · have hk7 : k < 7 := List.mem_range.mp hk
    have e : (6 : Int) - (0 + (k : Int)) = ((6 - k : Nat) : Int) := by omega
    simp [-List.map_map]
    simp only [Int.zero_add] at e
    rw [e, nth_nat]
    have hlt : 6 - k < rowsH.length := by
      show 6 - k < 7
      omega
    have h2 := hA _ rfl
    rw [List.getD_eq_getElem?_getD, List.getElem?_eq_getElem hlt] at h2
    simp [hlt]
    exact h2
  have eb : ((List.range 7).filterMap fun k => some (W1 (sh t (rowsH.getD (6 - k) (0, 0))))) = (backH.map (sh t)).map W1 := rfl
  rw [List.nil_append, eb, bTuple_ref seqAt_lst]
  have ex2 := ex1.new (c := .lst ((backH.map (sh t)).map W1)) hp
  generalize hg2 : g1.upd p (.lst ((backH.map (sh t)).map W1)) = g2 at ex2
  clear hg2 hp p ex1 g1
  rw [k1, thenK_nx]
  clear k1 K1
  refine sSeq_gen fun K1 k1 => ?_
  try simp [-List.map_map]
  rw [k1, thenK_nx]
  clear k1 K1
  refine sSeq_gen fun K1 k1 => ?_
  try simp [-List.map_map]
  have l1 : lz (rowsH.map (sh t)).length (rowsH.map (sh t)) = [(0, 3), (4, 9), (10, 12)].map (sh t) := (lz_sh t 7 rowsH).trans (congrArg _ (show lz 7 rowsH = [(0, 3), (4, 9), (10, 12)] by decide))
  have l2 : lz (backH.map (sh t)).length (backH.map (sh t)) = [(3, 3), (5, 9), (10, 12)].map (sh t) := (lz_sh t 7 backH).trans (congrArg _ (show lz 7 backH = [(3, 3), (5, 9), (10, 12)] by decide))
  refine fewest_ok vr ?_
  rw [l1]
  refine like_ok 1 (n + 5) (.tup [.int (3 + t), .int (9 + t), .int (12 + t)]) _ _ _ (by simp [tree, trees]) ?_
  try simp only [tru_bl, if_true]
  refine fewest_ok vb ?_
  rw [l2]
  refine like_ok 1 (n + 5) (.tup [.int (3 + t), .int (9 + t), .int (12 + t)]) _ _ _ (by simp [tree, trees]) ?_
  try simp only [tru_bl, if_true]
  rw [k1, thenK_nx]
  clear k1 K1
  refine sSeq_gen fun K1 k1 => ?_
  try simp [-List.map_map]
  refine most_ok vr ?_
  rw [l1]
  have e1 : WL ([(0, 3), (4, 9), (10, 12)].map (sh t)) = .tup [.tup [.int t, .int (3 + t)], .tup [.int (4 + t), .int (9 + t)], .tup [.int (10 + t), .int (12 + t)]] := by
    simp [WL, W1, sh]
  rw [e1]
  refine like_ok 2 (n + 4) (.tup [.tup [.int t, .int (3 + t)], .tup [.int (4 + t), .int (9 + t)], .tup [.int (10 + t), .int (12 + t)]]) _ _ _ (by simp [tree, trees]) ?_
  try simp only [tru_bl, if_true]
  try simp [-List.map_map]
  rw [k1, thenK_nx]
  clear k1 K1
  refine sSeq_gen fun K1 k1 => ?_
  try simp [-List.map_map]
  refine most_ok vb ?_
  rw [l2]
  refine like_ok 2 (n + 4) (.tup [.tup [.int (3 + t), .int (3 + t)], .tup [.int (5 + t), .int (9 + t)], .tup [.int (10 + t), .int (12 + t)]]) _ _ _ (by simp [tree, trees]) ?_
  try simp [-List.map_map]
  rw [k1, thenK_nx]
  clear k1 K1
  refine sSeq_gen fun K1 k1 => ?_
  try simp [-List.map_map]
  refine serves_ok (ms := [3, 9].map (· + t)) (Vm_H h0 h1 _ (by decide) (by decide) (by decide)) vr ?_
  rw [served_sh, show served [3, 9] rowsH = false by decide]
  refine serves_ok (ms := [2, 9, 12].map (· + t)) (Vm_H h0 h1 _ (by decide) (by decide) (by decide)) vr ?_
  rw [served_sh, show served [2, 9, 12] rowsH = false by decide]
  refine like_ok 1 (n + 5) (.tup [.bl false, .bl false]) _ _ _ (by simp [tree, trees]) ?_
  try simp [-List.map_map]
  rw [k1, thenK_nx]
  clear k1 K1
  refine sSeq_gen fun K1 k1 => ?_
  try simp [-List.map_map]
  refine serves_ok (ms := [3, 9, 10].map (· + t)) (Vm_H h0 h1 _ (by decide) (by decide) (by decide)) vr ?_
  rw [served_sh, show served [3, 9, 10] rowsH = true by decide]
  refine like_b true ?_
  try simp [-List.map_map]
  rw [k1, thenK_nx]
  clear k1 K1
  refine sSeq_gen fun K1 k1 => ?_
  have n0 : nth ((rowsH.map (sh t)).map W1) 0 = some (W1 (sh t (2, 9))) := rfl
  have n2 : nth ((rowsH.map (sh t)).map W1) 2 = some (W1 (sh t (4, 9))) := rfl
  have n3 : nth ((rowsH.map (sh t)).map W1) 3 = some (W1 (sh t (5, 9))) := rfl
  have n6 : nth ((rowsH.map (sh t)).map W1) 6 = some (W1 (sh t (9, 10))) := rfl
  simp [-List.map_map, -nth_zero, -nth_one, -nth_two, n0, n2, n3, n6]
  refine common_ok vr ?_
  have c1 : cmD (rowsH.map (sh t)) = .non := cmD_sh (w := (2, 9)) (ws := [(0, 3), (4, 9), (5, 9), (3, 3), (10, 12), (9, 10)]) (by dsimp only; omega) (by dsimp only; omega)
  rw [c1]
  refine common_ok (ws := [(2, 9), (4, 9), (5, 9)].map (sh t)) (Vs_H h0 h1 _ (by decide) (by decide)) ?_
  have c2 : cmD ([(2, 9), (4, 9), (5, 9)].map (sh t)) = .tup [.int (5 + t), .int (9 + t)] := cmD_sh (w := (2, 9)) (ws := [(4, 9), (5, 9)]) (by dsimp only; omega) (by dsimp only; omega)
  rw [c2]
  refine common_ok (ws := [(2, 9), (9, 10)].map (sh t)) (Vs_H h0 h1 _ (by decide) (by decide)) ?_
  have c3 : cmD ([(2, 9), (9, 10)].map (sh t)) = .tup [.int (9 + t), .int (9 + t)] := cmD_sh (w := (2, 9)) (ws := [(9, 10)]) (by dsimp only; omega) (by dsimp only; omega)
  rw [c3]
  have v0 : Vs ([] : List Wn) := ⟨by decide, by simp⟩
  refine common_ok (ws := []) v0 ?_
  have c4 : cmD [] = .tup [.int 0, .int 1000000000] := rfl
  rw [c4]
  try simp [-List.map_map]
  rw [k1, thenK_nx]
  clear k1 K1
  refine sSeq_gen fun K1 k1 => ?_
  try simp [-List.map_map, powOk]
  refine like_ok 2 (n + 4) (.tup [.non, .tup [.int (5 + t), .int (9 + t)], .tup [.int (9 + t), .int (9 + t)], .tup [.int 0, .int 1000000000]]) _ _ _ (by simp [tree, trees]) ?_
  try simp [-List.map_map]
  rw [k1, thenK_nx]
  clear k1 K1
  refine sSeq_gen fun K1 k1 => ?_
  try simp [-List.map_map]
  refine fewest_ok v0 ?_
  refine most_ok v0 ?_
  have m0 : Vm [] := ⟨by decide, by simp, by simp⟩
  refine serves_ok m0 v0 ?_
  refine serves_ok (ms := [3].map (· + t)) (Vm_H h0 h1 _ (by decide) (by decide) (by decide)) v0 ?_
  refine serves_ok (ms := [].map (· + t)) (Vm_H h0 h1 _ (by decide) (by decide) (by decide)) vr ?_
  rw [served_sh, show served [] rowsH = false by decide]
  try simp [-List.map_map]
  rw [k1, thenK_nx]
  clear k1 K1
  try simp [-List.map_map]
  refine like_ok 2 (n + 4) (.tup [.tup [], .tup [], .bl true, .bl true, .bl false]) _ _ _ (by simp [tree, trees]) ?_
  show Q (.bl true) (gcTo h g2)
  rw [ex2]
  exact q
end K13
namespace K13
open PySem T2
variable {n : Nat} {h : DH} {Q : QD} {E : QX}
/-! the jar -/
abbrev sGreat : Str := ⟨#[103, 114, 101, 97, 116]⟩
abbrev sSmall : Str := ⟨#[115, 109, 97, 108, 108]⟩
abbrev sRest : Str := ⟨#[114, 101, 115, 116]⟩
abbrev sTurn : Str := ⟨#[116, 117, 114, 110]⟩
def jk (g s : Addr) (r t : Int) : List (Ky × D) := [(.inr sGreat, .ref g), (.inr sSmall, .ref s), (.inr sRest, .int r), (.inr sTurn, .int t)]
section
variable {g s : Addr} {r t x : Int}
theorem jk_great : getK (jk g s r t) (.inr sGreat) = some (.ref g) := rfl
theorem jk_small : getK (jk g s r t) (.inr sSmall) = some (.ref s) := rfl
theorem jk_rest : getK (jk g s r t) (.inr sRest) = some (.int r) := rfl
theorem jk_turn : getK (jk g s r t) (.inr sTurn) = some (.int t) := rfl
theorem jk_setTurn : setK (jk g s r t) (.inr sTurn) (.int x) = jk g s r x := rfl
theorem jk_setRest : setK (jk g s r t) (.inr sRest) (.int x) = jk g s x t := rfl
theorem jk_len : (jk g s r t).length < sizeLine := by
  show 4 < sizeLine
  simp [sizeLine]
end
structure Jar (h : DH) (p g s : Addr) : Prop where
  ex : ∃ (gs ss : List Int) (r t : Int), h.f p = some (.dk (jk g s r t)) ∧ h.f g = some (.lst (gs.map D.int)) ∧ h.f s = some (.lst (ss.map D.int)) ∧ (∀ x ∈ gs, 0 ≤ x) ∧ 0 ≤ r
  pg : p ≠ g
  ps : p ≠ s
  gs : g ≠ s
theorem take_ok {p g s : Addr} {m : Int} (J : Jar h p g s) (h1 : 0 < m) (h2 : m < 1073741824) (q : ∀ r h', 0 ≤ r → r < m → Jar h' p g s → (∀ a, a ≠ p → a ≠ g → h'.f a = h.f a) → Q (.int r) h') : WF tab (n + 1) 67 [.ref p, .int m] h Q E := by
  obtain ⟨⟨gs, ss, r, t, hp, hg, hs, hgs, hr⟩, npg, nps, ngs⟩ := J
  have hdiv : divOk m := ⟨h1, h2⟩
  rw [w67]
  unfold b67
  refine sSeq_gen fun K1 k1 => ?_
  simp [pIx_dk hp, jk_turn]
  rw [k1, thenK_nx]
  clear k1 K1
  refine sSeq_gen fun K1 k1 => ?_
  simp
  rw [putIx_dk hp]
  refine ⟨jk_len, ?_⟩
  rw [jk_setTurn]
  obtain ⟨H, hH⟩ : ∃ H, H = h.upd p (.dk (jk g s r (t + 1))) := ⟨_, rfl⟩
  rw [← hH]
  have Hp : H.f p = some (.dk (jk g s r (t + 1))) := by rw [hH]; simp
  have Hg : H.f g = some (.lst (gs.map D.int)) := by rw [hH, DH.upd_f_ne (Ne.symm npg)]; exact hg
  have Hs : H.f s = some (.lst (ss.map D.int)) := by rw [hH, DH.upd_f_ne (Ne.symm nps)]; exact hs
  have Hf : ∀ a, a ≠ p → a ≠ g → H.f a = h.f a := fun a ha _ => by rw [hH, DH.upd_f_ne ha]
  clear hH hp hg hs
  rw [k1, thenK_nx]
  clear k1 K1
  refine sSeq_gen fun K1 k1 => ?_
  simp [pIx_dk Hp, jk_great]
  rw [k1, thenK_nx]
  clear k1 K1
  refine sSeq_gen fun K1 k1 => ?_
  simp [pIx_dk Hp, jk_rest, pLen_ref (seqAt_of Hg)]
  have tail : ∀ (H : DH) (gs : List Int) (r : Int), H.f p = some (.dk (jk g s r (t + 1))) → H.f g = some (.lst (gs.map D.int)) → H.f s = some (.lst (ss.map D.int)) → (∀ a, a ≠ p → a ≠ g → H.f a = h.f a) → (∀ x ∈ gs, 0 ≤ x) → 0 ≤ r →
      K1.nx [some (.ref p), some (.int m), some (.int (t + 1)), some (.ref g), none, none, none, none] H := by
    intro H gs r Hp Hg Hs Hf hgs hr
    have J' : Jar H p g s := ⟨⟨gs, ss, r, _, Hp, Hg, Hs, hgs, hr⟩, npg, nps, ngs⟩
    rw [k1, thenK_nx]
    clear k1 K1
    refine sSeq_gen fun K1 k1 => ?_
    simp [pIx_dk Hp, jk_rest]
    rw [k1, thenK_nx]
    clear k1 K1
    refine sSeq_gen fun K1 k1 => ?_
    by_cases hr0 : 0 < r
    · simp [hr0, whenP_of hdiv, whenP_of h1]
      rw [putIx_dk Hp]
      refine ⟨jk_len, ?_⟩
      rw [jk_setRest, k1]
      simp
      have e := Int.emod_nonneg r (show m ≠ 0 by omega)
      have e2 := Int.emod_lt_of_pos r h1
      refine q _ _ e e2 ⟨⟨gs, ss, r / m, _, by simp; rfl, ?_, ?_, hgs, Int.ediv_nonneg hr (by omega)⟩, npg, nps, ngs⟩ fun a ha hb => ?_
      · rw [DH.upd_f_ne (Ne.symm npg)]
        exact Hg
      · rw [DH.upd_f_ne (Ne.symm nps)]
        exact Hs
      · rw [DH.upd_f_ne ha]
        exact Hf a ha hb
    · simp [hr0]
      rw [k1, thenK_nx]
      clear k1 K1
      refine sSeq_gen fun K1 k1 => ?_
      simp [pIx_dk Hp, jk_small]
      rw [k1, thenK_nx]
      clear k1 K1
      refine sSeq_gen fun K1 k1 => ?_
      simp
      rw [k1, thenK_nx]
      clear k1 K1
      refine sSeq_gen fun K1 k1 => ?_
      simp [pLen_ref (seqAt_of Hs)]
      have tail2 : ∀ seed : Int, K1.nx [some (.ref p), some (.int m), some (.int (t + 1)), some (.ref g), some (.int r), some (.ref s), some (.int seed), none] H := by
        intro seed
        have b1 : ∀ x : Int, mulOk x 5501 := fun x => mulOk_r ⟨by omega, by omega⟩
        have b2 : ∀ x : Int, mulOk x 30071 := fun x => mulOk_r ⟨by omega, by omega⟩
        have b3 : ∀ x : Int, mulOk x 257 := fun x => mulOk_r ⟨by omega, by omega⟩
        have b4 : ∀ x : Int, mulOk x 3 := fun x => mulOk_r ⟨by omega, by omega⟩
        have b5 : divOk 7 := ⟨by omega, by omega⟩
        rw [k1, thenK_nx]
        clear k1 K1
        refine sSeq_gen fun K1 k1 => ?_
        simp [whenP_of (b1 _), whenP_of (b2 _)]
        generalize hy : (seed * 5501 + (t + 1) * 30071 + 419) % 1000033 = y
        have y0 : 0 ≤ y := by rw [← hy]; exact Int.emod_nonneg _ (by omega)
        have y1 : y < 1000033 := by rw [← hy]; exact Int.emod_lt_of_pos _ (by omega)
        rw [k1, thenK_nx]
        clear k1 K1 hy
        refine sSeq_gen fun K1 k1 => ?_
        have b6 : mulOk y y := mulOk_r ⟨by omega, by omega⟩
        simp [whenP_of b6, whenP_of (b3 _)]
        generalize hz : (y * y + (t + 1) * 257 + seed) % 999961 = z
        have z0 : 0 ≤ z := by rw [← hz]; exact Int.emod_nonneg _ (by omega)
        have z1 : z < 999961 := by rw [← hz]; exact Int.emod_lt_of_pos _ (by omega)
        rw [k1, thenK_nx]
        clear k1 K1 hz
        refine sSeq_gen fun K1 k1 => ?_
        have b7 : mulOk z z := mulOk_r ⟨by omega, by omega⟩
        simp [whenP_of b7, whenP_of (b4 _)]
        rw [k1, thenK_nx]
        clear k1 K1
        simp [whenP_of b5, whenP_of h1]
        exact q _ _ (Int.emod_nonneg _ (by omega)) (Int.emod_lt_of_pos _ h1) J' Hf
      by_cases hl : (0 : Int) < ss.length
      · have hl' : 0 < ss.length := by omega
        have e0 := Int.emod_nonneg (t + 1) (show (ss.length : Int) ≠ 0 by omega)
        have e1 := Int.emod_lt_of_pos (t + 1) hl
        obtain ⟨k, hk, hk2, hk3⟩ := nth_some (xs := ss.map D.int) e0 (by simpa using e1)
        simp [hl', whenP_of hl, pIx_ref (seqAt_of Hs), hk3]
        exact tail2 _
      · have hl' : ¬ 0 < ss.length := by omega
        simp [hl']
        exact tail2 _
  by_cases c1 : r = 0
  · by_cases c2 : 0 < gs.length
    · cases gs with
      | nil => simp at c2
      | cons x gs =>
        simp [c1, tyOf_lst Hg]
        rw [mPopAt_lst Hg]
        refine ⟨by omega, by omega, ?_⟩
        rw [placeOf_nat (by omega) (by simp <;> omega)]
        simp
        have Hp2 : (H.upd g (.lst (gs.map D.int))).f p = some (.dk (jk g s r (t + 1))) := by rw [DH.upd_f_ne npg]; exact Hp
        rw [putIx_dk Hp2]
        refine ⟨jk_len, ?_⟩
        rw [jk_setRest]
        refine tail _ gs x (by simp) ?_ ?_ (fun a ha hb => ?_) (fun y hy => hgs y (List.mem_cons_of_mem _ hy)) (hgs x List.mem_cons_self)
        · rw [DH.upd_f_ne (Ne.symm npg)]
          simp
        · rw [DH.upd_f_ne (Ne.symm nps), DH.upd_f_ne (Ne.symm ngs)]
          exact Hs
        · rw [DH.upd_f_ne ha, DH.upd_f_ne hb]
          exact Hf a ha hb
    · simp [c1, c2]
      exact tail _ gs r Hp Hg Hs Hf hgs hr
  · simp [c1]
    exact tail _ gs r Hp Hg Hs Hf hgs hr
end K13
namespace K13
open PySem T2
variable {n : Nat} {h h' h'' : DH} {Q : QD} {E : QX} {p g s : Addr}
/-- all but the jar stays -/
def Fr (p g : Addr) (h h' : DH) : Prop := ∀ a, a ≠ p → a ≠ g → h'.f a = h.f a
theorem Fr.rfl : Fr p g h h := fun _ _ _ => Eq.refl _
theorem Fr.trans (e : Fr p g h h') (f : Fr p g h' h'') : Fr p g h h'' := fun a x y => (f a x y).trans (e a x y)
theorem Jar.at3 (J : Jar h p g s) : (h.f p).isSome = true ∧ (h.f g).isSome = true ∧ (h.f s).isSome = true := by
  obtain ⟨⟨gs, ss, r, t, hp, hg, hs, _⟩, _⟩ := J
  rw [hp, hg, hs]
  exact ⟨_root_.rfl, _root_.rfl, _root_.rfl⟩
theorem Jar.gc (J : Jar h p g s) (J' : Jar h' p g s) : Jar (gcTo h h') p g s := by
  obtain ⟨e1, e2, e3⟩ := J.at3
  obtain ⟨⟨gs, ss, r, t, hp, hg, hs, x, y⟩, a, b, c⟩ := J'
  exact ⟨⟨gs, ss, r, t, by rw [gcTo_f, if_pos e1]; exact hp, by rw [gcTo_f, if_pos e2]; exact hg, by rw [gcTo_f, if_pos e3]; exact hs, x, y⟩, a, b, c⟩
/-- what stood stays: but for the jar -/
def FrX (p g : Addr) (h h' : DH) : Prop := ∀ a c, a ≠ p → a ≠ g → h.f a = some c → h'.f a = some c
theorem FrX.rfl : FrX p g h h := fun _ _ _ _ e => e
theorem FrX.fr (e : FrX p g h h') (f : Fr p g h' h'') : FrX p g h h'' := fun a c x y z => (f a x y).trans (e a c x y z)
theorem FrX.new {q : Addr} {c : C} (e : FrX p g h h') (n : h.f q = none) : FrX p g h (h'.upd q c) := fun a c x y z => by
  rw [DH.upd_f_ne (ne_of_cells z n)]
  exact e a c x y z
theorem FrX.fresh {q : Addr} (J : Jar h p g s) (J' : Jar h' p g s) (e : FrX p g h h') (n : h'.f q = none) : h.f q = none := by
  cases k : h.f q with
  | none => exact Eq.refl _
  | some c =>
    have hp : q ≠ p := by
      rintro rfl
      obtain ⟨e1, _⟩ := J'.at3
      rw [n] at e1
      cases e1
    have hg : q ≠ g := by
      rintro rfl
      obtain ⟨_, e1, _⟩ := J'.at3
      rw [n] at e1
      cases e1
    rw [e q c hp hg k] at n
    cases n
theorem FrX.gc (e : FrX p g h h') : Fr p g h (gcTo h h') := fun a x y => by
  rw [gcTo_f]
  cases k : h.f a with
  | none => exact Eq.refl _
  | some c =>
    simp
    exact e a c x y k
theorem Jar.upd {q : Addr} {c : C} (J : Jar h p g s) (a : q ≠ p) (b : q ≠ g) (d : q ≠ s) : Jar (h.upd q c) p g s := by
  obtain ⟨⟨gs, ss, r, t, hp, hg, hs, x, y⟩, u, v, w⟩ := J
  exact ⟨⟨gs, ss, r, t, by rw [DH.upd_f_ne (Ne.symm a)]; exact hp, by rw [DH.upd_f_ne (Ne.symm b)]; exact hg, by rw [DH.upd_f_ne (Ne.symm d)]; exact hs, x, y⟩, u, v, w⟩
theorem Jar.ne {q : Addr} (J : Jar h p g s) (n : h.f q = none) : q ≠ p ∧ q ≠ g ∧ q ≠ s := by
  obtain ⟨e1, e2, e3⟩ := J.at3
  refine ⟨?_, ?_, ?_⟩ <;> rintro rfl
  · rw [n] at e1; cases e1
  · rw [n] at e2; cases e2
  · rw [n] at e3; cases e3
theorem Jar.new {q : Addr} {c : C} (J : Jar h p g s) (n : h.f q = none) : Jar (h.upd q c) p g s := J.upd (J.ne n).1 (J.ne n).2.1 (J.ne n).2.2
theorem cut_all {α : Type} {xs : List α} (hl : xs.length ≤ 63) : cut xs none (some 63) = xs := by
  unfold cut clampI
  dsimp only
  rw [if_neg (by decide), show min (63 : Int).toNat xs.length = xs.length from Nat.min_eq_right hl]
  simp
theorem jar_ok {a : Addr} {ns : List Int} (ha : h.f a = some (.frz (ns.map D.int))) (hl : ns.length ≤ 63) (q : ∀ h' p g s, Jar h' p g s → Q (.ref p) h') : WF tab (n + 1) 66 [.ref a] h Q E := by
  rw [w66]
  unfold b66
  refine sSeq_gen fun K1 k1 => ?_
  simp
  rw [rSl_ref (seqAt_frz ha)]
  intro p0 hp0
  rw [cut_all (by simpa using hl)]
  rw [onSeq_ref seqAt_lst]
  intro p1 hp1
  have n10 : p0 ≠ p1 := by
    rintro rfl
    simp at hp1
  refine loopC_of D.int (fun x => some (.int (if x < 0 then -x else x))) (xs := ns) rfl (fun ys => seqAt_of (by rw [DH.upd_f_ne n10]; simp)) (fun x hx ys A B hA hB => ?_) (by simp [sizeLine]; omega) ?_
  · simp
    exact hA _ rfl
  rw [List.nil_append, fm_map (fun x : Int => D.int (if x < 0 then -x else x))]
  obtain ⟨cs, hcs⟩ : ∃ cs : List Int, cs = ns.map fun x => if x < 0 then -x else x := ⟨_, rfl⟩
  have e1 : (ns.map fun x : Int => D.int (if x < 0 then -x else x)) = cs.map D.int := by
    rw [hcs, List.map_map]
    rfl
  have hcl : cs.length ≤ 63 := by rw [hcs]; simpa using hl
  have hc0 : ∀ x ∈ cs, 0 ≤ x := by
    rw [hcs]
    intro x hx
    obtain ⟨y, _, rfl⟩ := List.mem_map.mp hx
    split <;> omega
  rw [e1]
  generalize hH : (h.upd p0 (.lst (ns.map D.int))).upd p1 (.lst (cs.map D.int)) = H
  have H1 : H.f p1 = some (.lst (cs.map D.int)) := by rw [← hH]; simp
  clear hH e1 hcs hp0 hp1 n10
  rw [k1, thenK_nx]
  clear k1 K1
  refine sSeq_gen fun K1 k1 => ?_
  simp [powOk]
  rw [onSeq_ref (seqAt_of H1)]
  intro p2 hp2
  have n12 : p1 ≠ p2 := ne_of_cells H1 hp2
  refine loopC_of D.int (fun x => if decide (100000000000000 ≤ x) = true then some (.int x) else none) (xs := cs) rfl (fun ys => seqAt_of (by rw [DH.upd_f_ne n12]; exact H1)) (fun x hx ys A B hA hB => ?_) (by simp [sizeLine]; omega) ?_
  · by_cases h1 : 100000000000000 ≤ x
    · simp [h1, powOk] at hA ⊢
      exact hA
    · simp [h1, powOk]
      exact hB (by simp; omega)
  rw [List.nil_append, fm_if D.int]
  generalize hgs : cs.filter (fun x => decide (100000000000000 ≤ x)) = gs
  have hg0 : ∀ x ∈ gs, 0 ≤ x := by
    rw [← hgs]
    exact fun x hx => hc0 x (List.mem_filter.mp hx).1
  clear hgs
  have H2 : (H.upd p2 (.lst (gs.map D.int))).f p2 = some (.lst (gs.map D.int)) := by simp
  have H1' : (H.upd p2 (.lst (gs.map D.int))).f p1 = some (.lst (cs.map D.int)) := by rw [DH.upd_f_ne n12]; exact H1
  generalize H.upd p2 (.lst (gs.map D.int)) = H' at H2 H1'
  rw [k1, thenK_nx]
  clear k1 K1
  refine sSeq_gen fun K1 k1 => ?_
  simp [powOk]
  rw [onSeq_ref (seqAt_of H1')]
  intro p3 hp3
  have n13 : p1 ≠ p3 := ne_of_cells H1' hp3
  have n23 : p2 ≠ p3 := ne_of_cells H2 hp3
  refine loopC_of D.int (fun x => if decide (x < 100000000000000) = true then some (.int (x % 1000003)) else none) (xs := cs) rfl (fun ys => seqAt_of (by rw [DH.upd_f_ne n13]; exact H1')) (fun x hx ys A B hA hB => ?_) (by simp [sizeLine]; omega) ?_
  · by_cases h1 : x < 100000000000000
    · simp [h1, powOk] at hA ⊢
      exact hA
    · simp [h1, powOk]
      exact hB (by simp; omega)
  rw [List.nil_append, fm_if (fun x : Int => D.int (x % 1000003))]
  obtain ⟨ss, hss⟩ : ∃ ss : List Int, ss = (cs.filter fun x => decide (x < 100000000000000)).map (· % 1000003) := ⟨_, rfl⟩
  have e1 : ((cs.filter fun x => decide (x < 100000000000000)).map fun x : Int => D.int (x % 1000003)) = ss.map D.int := by
    rw [hss, List.map_map]
    rfl
  rw [e1]
  clear e1 hss
  have H3 : (H'.upd p3 (.lst (ss.map D.int))).f p3 = some (.lst (ss.map D.int)) := by simp
  have H2' : (H'.upd p3 (.lst (ss.map D.int))).f p2 = some (.lst (gs.map D.int)) := by rw [DH.upd_f_ne n23]; exact H2
  generalize H'.upd p3 (.lst (ss.map D.int)) = H'' at H3 H2'
  rw [k1, thenK_nx]
  clear k1 K1
  simp
  intro p4 hp4
  have e2 : putAll [] [(D.str sGreat, D.ref p2), (D.str sSmall, D.ref p3), (D.str sRest, D.int 0), (D.str sTurn, D.int 0)] = some (jk p2 p3 0 0) := rfl
  rw [e2]
  have n24 : p2 ≠ p4 := ne_of_cells H2' hp4
  have n34 : p3 ≠ p4 := ne_of_cells H3 hp4
  exact q _ p4 p2 p3 ⟨⟨gs, ss, 0, 0, by simp, by rw [DH.upd_f_ne n24]; exact H2', by rw [DH.upd_f_ne n34]; exact H3, hg0, Int.le_refl 0⟩, Ne.symm n24, Ne.symm n34, n23⟩
end K13
namespace K13
open PySem T2
variable {n : Nat} {h h' h'' : DH} {Q : QD} {E : QX} {p g s : Addr}
theorem pickI {xs : List Int} {r : Int} (h0 : 0 ≤ r) (h1 : r < xs.length) : ∃ v ∈ xs, nth (xs.map D.int) r = some (.int v) := by
  obtain ⟨k, hk, _, e⟩ := nth_some (xs := xs.map D.int) h0 (by simpa using h1)
  refine ⟨xs[k]'(by simpa using hk), List.getElem_mem _, ?_⟩
  rw [e, List.getElem_map]
/-- a frame: base, scale, wide -/
structure FrO (b sc w : Int) : Prop where
  b0 : 0 ≤ b
  s0 : 1 ≤ sc
  s1 : sc ≤ 16000000
  w0 : 1 ≤ w
  w1 : w ≤ 61
  top : b + sc * w ≤ 1000000000
theorem frame_ok (J : Jar h p g s) (q : ∀ h' b sc w, Jar h' p g s → Fr p g h h' → FrO b sc w → Q (.tup [.int b, .int sc, .int w]) h') : WF tab (n + 2) 71 [.ref p] h Q E := by
  rw [w71]
  unfold b71
  refine sSeq_gen fun K1 k1 => ?_
  simp
  refine take_ok J (by omega) (by omega) fun r h1 r0 r1 J1 F1 => ?_
  obtain ⟨wide, hw, e1⟩ := pickI (xs := [3, 6, 9, 25, 61, 12]) r0 (by simpa using r1)
  rw [rIx_tup, show [D.int 3, .int 6, .int 9, .int 25, .int 61, .int 12] = [3, 6, 9, 25, 61, 12].map D.int from rfl, e1]
  have w0 : 1 ≤ wide ∧ wide ≤ 61 := by
    simp only [List.mem_cons, List.not_mem_nil, or_false] at hw
    omega
  clear hw e1 r0 r1 r
  simp
  rw [k1, thenK_nx]
  clear k1 K1
  refine sSeq_gen fun K1 k1 => ?_
  simp
  refine take_ok J1 (by omega) (by omega) fun r h2 r0 r1 J2 F2 => ?_
  obtain ⟨sc, hs, e1⟩ := pickI (xs := [1, 2, 3, 1000, 16000000, 1]) r0 (by simpa using r1)
  rw [rIx_tup, show [D.int 1, .int 2, .int 3, .int 1000, .int 16000000, .int 1] = [1, 2, 3, 1000, 16000000, 1].map D.int from rfl, e1]
  have s0 : 1 ≤ sc ∧ sc ≤ 16000000 := by
    simp only [List.mem_cons, List.not_mem_nil, or_false] at hs
    omega
  clear hs e1 r0 r1 r
  simp
  rw [k1, thenK_nx]
  clear k1 K1
  refine sSeq_gen fun K1 k1 => ?_
  simp
  refine take_ok J2 (by omega) (by omega) fun some_ h3 o0 o1 J3 F3 => ?_
  rw [k1, thenK_nx]
  clear k1 K1
  refine sSeq_gen fun K1 k1 => ?_
  have m0 : 0 ≤ wide * sc := Int.mul_nonneg (by omega) (by omega)
  have m1 : wide * sc ≤ 61 * 16000000 := Int.mul_le_mul w0.2 s0.2 (by omega) (by omega)
  have hm : mulOk wide sc := mulOk_r ⟨by omega, by omega⟩
  simp [powOk, whenP_of hm]
  refine take_ok J3 (by omega) (by omega) fun r h4 r0 r1 J4 F4 => ?_
  obtain ⟨b, hb, e1⟩ := pickI (xs := [0, some_, 1000000000 - wide * sc, 1]) r0 (by simpa using r1)
  rw [rIx_tup, show [D.int 0, .int some_, .int (1000000000 - wide * sc), .int 1] = [0, some_, 1000000000 - wide * sc, 1].map D.int from rfl, e1]
  have b0 : 0 ≤ b ∧ b + wide * sc ≤ 1000000000 := by
    simp only [List.mem_cons, List.not_mem_nil, or_false] at hb
    omega
  clear hb e1 r0 r1 r
  simp
  rw [k1, thenK_nx]
  clear k1 K1
  simp
  have F : FrX p g h h4 := (((FrX.rfl.fr F1).fr F2).fr F3).fr F4
  exact q _ _ _ _ (J.gc J4) F.gc ⟨b0.1, s0.1, s0.2, w0.1, w0.2, by rw [Int.mul_comm]; exact b0.2⟩
theorem rising_ok {l : Addr} {ns : List Int} (e : seqAt h l = some (ns.map D.int)) (hl : ns.length < 64) (q : ∀ ms, Vm ms → Q (IL ms) h) : WF tab (n + 1) 72 [.ref l] h Q E := by
  rw [w72]
  unfold b72
  refine sSeq_gen fun K1 k1 => ?_
  simp
  intro o ho
  rw [k1, thenK_nx]
  clear k1 K1
  refine sSeq_gen fun K1 k1 => ?_
  have nlo : l ≠ o := by
    rintro rfl
    unfold seqAt at e
    rw [ho] at e
    cases e
  have e' : seqAt (h.upd o (.lst [])) l = some (ns.map D.int) := by
    unfold seqAt at e ⊢
    rw [DH.upd_f_ne nlo]
    exact e
  simp
  rw [bSorted_ref e']
  refine ⟨hl, fun ms perm sorted p1 hp1 => ?_⟩
  rw [onSeq_ref seqAt_lst]
  have no1 : o ≠ p1 := by
    rintro rfl
    simp at hp1
  have hml : ms.length < 64 := by rw [perm.length_eq]; exact hl
  have ex0 : Ext h ((h.upd o (.lst [])).upd p1 (.lst (ms.map D.int))) := (Ext.rfl.new ho).new hp1
  refine loopF_ind (I := fun ds σ h' => ∃ (r out : List Int) (z : Option D), ds = r.map D.int ∧ σ = [some (.ref l), some (.ref o), z] ∧ h'.f o = some (.lst (out.map D.int)) ∧ h'.f p1 = some (.lst (ms.map D.int)) ∧ Ext h h' ∧ r.Pairwise (· ≤ ·) ∧ out.Pairwise (· < ·) ∧ (∀ x ∈ out, 0 ≤ x ∧ x ≤ 1000000000) ∧ (∀ x ∈ out, ∀ y ∈ r, x ≤ y) ∧ r.length + out.length ≤ 64) ?_ ?_ ⟨ms, [], _, rfl, rfl, ?_, by simp, ex0, sorted, by simp, by simp, by simp, by simp; omega⟩
  · rintro σ h' ⟨r, out, z, hr, rfl, ho', hp', ex, sr, so, ro, cr, hlen⟩
    refine ⟨seqAt_of hp', ?_⟩
    rw [k1, thenK_nx]
    clear k1 K1
    simp
    rw [rSl_ref (seqAt_of ho')]
    intro p2 hp2
    rw [bTuple_ref seqAt_lst]
    have ex2 := ex.new (c := .lst (cut (out.map D.int) none (some 60))) hp2
    have ec : cut (out.map D.int) none (some 60) = (out.take 60).map D.int := by
      unfold cut clampI
      dsimp only
      rw [if_neg (by decide), ← List.map_drop, ← List.map_take]
      congr 1
      rw [List.drop_zero, Nat.sub_zero, List.length_map]
      rcases Nat.le_total out.length 60 with h1 | h1
      · rw [show min (60 : Int).toNat out.length = out.length from Nat.min_eq_right h1, List.take_length, List.take_of_length_le h1]
      · rw [show min (60 : Int).toNat out.length = 60 from Nat.min_eq_left h1]
    rw [ec] at ex2 ⊢
    rw [ex2]
    refine q (out.take 60) ⟨by simp; omega, fun x hx => ro x (List.mem_of_mem_take hx), so.sublist (List.take_sublist _ _)⟩
  · rintro d ds σ h' ⟨r, out, z, hr, rfl, ho', hp', ex, sr, so, ro, cr, hlen⟩
    cases r with
    | nil => cases hr
    | cons x r =>
      simp only [List.map_cons, List.cons.injEq] at hr
      obtain ⟨rfl, rfl⟩ := hr
      refine ⟨seqAt_of hp', fun k hk => ?_⟩
      obtain ⟨sx, sr⟩ := List.pairwise_cons.mp sr
      have skip : k [some (.ref l), some (.ref o), some (.int x)] h' := hk _ _ ⟨r, out, _, rfl, rfl, ho', hp', ex, sr, so, ro, fun a ha y hy => cr a ha y (List.mem_cons_of_mem _ hy), by simp at hlen; omega⟩
      have add : 0 ≤ x → x ≤ 1000000000 → (∀ a ∈ out, a ≠ x) → k [some (.ref l), some (.ref o), some (.int x)] (h'.upd o (.lst (out.map D.int ++ [.int x]))) := fun x0 x1 hne =>
        hk _ _ ⟨r, out ++ [x], _, rfl, rfl, by simp, by rw [DH.upd_f_ne (Ne.symm no1)]; exact hp', ex.set ho, sr, by
          rw [List.pairwise_append]
          refine ⟨so, by simp, fun a ha b hb => ?_⟩
          simp at hb
          have := cr a ha x List.mem_cons_self
          have := hne a ha
          omega, fun a ha => by
          rcases List.mem_append.mp ha with z | z
          · exact ro a z
          · simp at z
            omega, fun a ha y hy => by
          rcases List.mem_append.mp ha with z | z
          · exact cr a z y (List.mem_cons_of_mem _ hy)
          · simp at z
            subst z
            exact sx y hy, by simp at hlen ⊢; omega⟩
      by_cases c1 : 0 ≤ x
      · by_cases c2 : x ≤ 1000000000
        · rcases List.eq_nil_or_concat out with c3 | ⟨o1, y, c3⟩
          · subst c3
            simp [c1, c2, powOk, pLen_ref (seqAt_of ho'), pIx_ref (seqAt_of ho'), nth_last, tyOf_lst ho']
            rw [mAppend_lst ho']
            refine ⟨by simp [sizeLine], ?_⟩
            exact add c1 c2 (by simp)
          · have hl : out.map D.int ≠ [] := by simp [c3]
            have hgl : (out.map D.int).getLast? = some (.int y) := by simp [c3]
            have h0 : ¬ out.length = 0 := by simp [c3]
            by_cases c4 : y = x
            · simp [c1, c2, powOk, pLen_ref (seqAt_of ho'), pIx_ref (seqAt_of ho'), nth_last, hgl, c4, h0]
              first
                | exact skip
                | (simp [c3]; exact skip)
            · simp [c1, c2, powOk, pLen_ref (seqAt_of ho'), pIx_ref (seqAt_of ho'), nth_last, hgl, c4, tyOf_lst ho']
              rw [mAppend_lst ho']
              refine ⟨by simp [sizeLine]; simp at hlen; omega, add c1 c2 fun a ha => ?_⟩
              have hy : y ∈ out := by simp [c3]
              have hyx := cr y hy x List.mem_cons_self
              rw [c3] at ha so
              simp only [List.concat_eq_append] at ha so
              rcases List.mem_append.mp ha with z | z
              · have := (List.pairwise_append.mp so).2.2 a z y (by simp)
                omega
              · simp at z
                omega
        · simp [c1, c2, powOk, pLen_ref (seqAt_of ho'), pIx_ref (seqAt_of ho'), nth_last]
          exact skip
      · simp [c1, powOk, pLen_ref (seqAt_of ho'), pIx_ref (seqAt_of ho'), nth_last]
        exact skip
  · rw [DH.upd_f_ne no1]
    simp
end K13
namespace K13
open PySem T2
variable {n : Nat} {h h' h'' : DH} {Q : QD} {E : QX} {p g s : Addr}
theorem FrX.set {q : Addr} {c : C} (e : FrX p g h h') (n : h.f q = none) : FrX p g h (h'.upd q c) := fun a d x y z => by
  rw [DH.upd_f_ne (ne_of_cells z n)]
  exact e a d x y z
theorem windows_ok {m b sc w : Int} (J : Jar h p g s) (fo : FrO b sc w) (m0 : 0 ≤ m) (m1 : m ≤ 60) (q : ∀ h' ws, Jar h' p g s → Fr p g h h' → Vs ws → (ws.length : Int) = m → Q (WL ws) h') : WF tab (n + 2) 70 [.ref p, .int m, .tup [.int b, .int sc, .int w]] h Q E := by
  obtain ⟨b0, s0, s1, w0, w1, top⟩ := fo
  rw [w70]
  unfold b70
  refine sSeq_gen fun K1 k1 => ?_
  simp
  rw [k1, thenK_nx]
  clear k1 K1
  refine sSeq_gen fun K1 k1 => ?_
  simp
  intro l hl
  rw [k1, thenK_nx]
  clear k1 K1
  obtain ⟨lp, lg, ls⟩ := J.ne hl
  refine sSeq_gen fun K1 k1 => ?_
  simp
  refine ⟨by simp [rngOk]; omega, ?_⟩
  refine loopF_ind (I := fun ds σ h' => ∃ (rows : List Wn) (z7 z8 z9 z10 z11 : Option D), σ = [some (.ref p), some (.int m), some (.tup [.int b, .int sc, .int w]), some (.int b), some (.int sc), some (.int w), some (.ref l), z7, z8, z9, z10, z11, none] ∧ h'.f l = some (.lst (rows.map W1)) ∧ Jar h' p g s ∧ FrX p g h h' ∧ (∀ x ∈ rows, 0 ≤ x.1 ∧ x.1 ≤ x.2 ∧ x.2 ≤ w) ∧ rows.length + ds.length = m.toNat) ?_ ?_ ⟨[], _, _, _, _, _, rfl, by simp, J.new hl, FrX.rfl.set hl, by simp, by simp [rng]⟩
  · rintro σ h' ⟨rows, z7, z8, z9, z10, z11, rfl, hr, J', F', ro, hlen⟩
    refine ⟨trivial, ?_⟩
    rw [k1, thenK_nx]
    clear k1 K1
    simp
    rw [onSeq_ref (seqAt_of hr)]
    intro p2 hp2
    have n12 : l ≠ p2 := ne_of_cells hr hp2
    simp only [List.length_nil, Nat.add_zero] at hlen
    refine loopC_of W1 (fun x => some (W1 (b + sc * x.1, b + sc * x.2))) (xs := rows) rfl (fun ys => seqAt_of (by rw [DH.upd_f_ne n12]; exact hr)) (fun x hx ys A B hA hB => ?_) (by simp [sizeLine]; omega) ?_
    · have c1 : ∀ y : Int, mulOk sc y := fun y => mulOk_l ⟨by omega, by omega⟩
      simp [W1, whenP_of (c1 _)]
      exact hA _ rfl
    rw [List.nil_append, fm_map (fun x : Wn => W1 (b + sc * x.1, b + sc * x.2)), bTuple_ref seqAt_lst]
    have e1 : (rows.map fun x : Wn => W1 (b + sc * x.1, b + sc * x.2)) = (rows.map fun x : Wn => ((b + sc * x.1, b + sc * x.2) : Wn)).map W1 := by
      rw [List.map_map]
      rfl
    rw [e1]
    have F2 := F'.set (c := .lst ((rows.map fun x : Wn => ((b + sc * x.1, b + sc * x.2) : Wn)).map W1)) (FrX.fresh J J' F' hp2)
    have J2 := J'.new (c := .lst ((rows.map fun x : Wn => ((b + sc * x.1, b + sc * x.2) : Wn)).map W1)) hp2
    refine q _ _ (J.gc J2) F2.gc ⟨by simp; omega, fun x hx => ?_⟩ (by simp; omega)
    obtain ⟨y, hy, rfl⟩ := List.mem_map.mp hx
    obtain ⟨y0, y1, y2⟩ := ro y hy
    have t0 : 0 ≤ sc * y.1 := Int.mul_nonneg (by omega) y0
    have t1 : sc * y.1 ≤ sc * y.2 := Int.mul_le_mul_of_nonneg_left y1 (by omega)
    have t2 : sc * y.2 ≤ sc * w := Int.mul_le_mul_of_nonneg_left y2 (by omega)
    exact ⟨by dsimp only; omega, by dsimp only; omega, by dsimp only; omega⟩
  · rintro d ds σ h0 ⟨rows, z7, z8, z9, z10, z11, rfl, hr, J0, F0, ro, hlen⟩
    simp only [List.length_cons] at hlen
    refine ⟨trivial, fun k hk => ?_⟩
    clear k1
    simp only [gName_ap, List.set_cons_succ, List.set_cons_zero]
    refine sSeq_gen fun K2 k2 => ?_
    simp
    refine take_ok J0 (by omega) (by omega) fun way h1 y0 y1 J1 G1 => ?_
    have hr1 : h1.f l = some (.lst (rows.map W1)) := (G1 l lp lg).trans hr
    rw [k2, thenK_nx]
    clear k2 K2
    refine sSeq_gen fun K2 k2 => ?_
    simp
    refine take_ok J1 (by omega) (by omega) fun a h2 a0 a1 J2 G2 => ?_
    have hr2 : h2.f l = some (.lst (rows.map W1)) := (G2 l lp lg).trans hr1
    rw [k2, thenK_nx]
    clear k2 K2
    refine sSeq_gen fun K2 k2 => ?_
    simp
    refine take_ok J2 (by omega) (by omega) fun e h3 e0 e1 J3 G3 => ?_
    have hr3 : h3.f l = some (.lst (rows.map W1)) := (G3 l lp lg).trans hr2
    have F3 := ((F0.fr G1).fr G2).fr G3
    simp
    obtain ⟨bb, hbb⟩ : ∃ bb : Int, bb = if a + e < w then a + e else w := ⟨_, rfl⟩
    have hb0 : a ≤ bb ∧ bb ≤ w := by
      rw [hbb]
      split <;> omega
    rw [← hbb]
    clear hbb
    rw [k2, thenK_nx]
    clear k2 K2
    refine sSeq_gen fun K2 k2 => ?_
    have fin : ∀ (a b2 : Int) (z11 : Option D) (h4 : DH), 0 ≤ a → a ≤ b2 → b2 ≤ w → h4.f l = some (.lst (rows.map W1)) → Jar h4 p g s → FrX p g h h4 → K2.nx [some (.ref p), some (.int m), some (.tup [.int b, .int sc, .int w]), some (.int b), some (.int sc), some (.int w), some (.ref l), some d, some (.int way), some (.int a), some (.int b2), z11, none] h4 := by
      intro a b2 z11 h4 a0 ab bw hr4 J4 F4
      rw [k2, thenK_nx]
      simp [tyOf_lst hr4]
      rw [mAppend_lst hr4]
      refine ⟨by simp [sizeLine]; omega, ?_⟩
      refine hk _ _ ⟨rows ++ [(a, b2)], _, _, _, _, _, rfl, by simp [W1], J4.upd lp lg ls, F4.set hl, fun x hx => ?_, by simp; omega⟩
      rcases List.mem_append.mp hx with z | z
      · exact ro x z
      · simp at z
        subst z
        exact ⟨a0, ab, bw⟩
    clear k2
    by_cases c1 : way < 3
    · by_cases c2 : 0 < rows.length
      · simp [c1, c2, pLen_ref (seqAt_of hr3)]
        refine take_ok J3 (by omega) (by omega) fun r h4 r0 r1 J4 G4 => ?_
        have hr4 : h4.f l = some (.lst (rows.map W1)) := (G4 l lp lg).trans hr3
        obtain ⟨kk, hkk, _, en⟩ := nth_some (xs := rows.map W1) r0 (by simpa using r1)
        rw [rIx_ref (seqAt_of hr4), en, List.getElem_map]
        have hkk' : kk < rows.length := by simpa using hkk
        obtain ⟨o0, o1, o2⟩ := ro _ (List.getElem_mem hkk')
        generalize rows[kk] = o at o0 o1 o2
        simp only [onSome_some]
        by_cases c3 : way = 0
        · simp [c3, W1]
          have := fin o.1 o.2 (some (W1 o)) h4 o0 o1 o2 hr4 J4 (F3.fr G4)
          rw [c3] at this
          exact this
        · by_cases c4 : way = 1
          · simp [c4, W1]
            have := fin (if o.2 < a then o.2 else a) o.2 (some (W1 o)) h4 (by split <;> omega) (by split <;> omega) o2 hr4 J4 (F3.fr G4)
            rw [c4] at this
            exact this
          · simp [c3, c4, W1]
            exact fin o.2 (if o.2 + bb - a < w then o.2 + bb - a else w) (some (W1 o)) h4 (by omega) (by split <;> omega) (by split <;> omega) hr4 J4 (F3.fr G4)
      · have c3 : ¬ way = 3 := by omega
        have c4 : ¬ way = 4 := by omega
        simp [c1, c2, c3, c4, pLen_ref (seqAt_of hr3)]
        exact fin a bb _ h3 a0 hb0.1 hb0.2 hr3 J3 F3
    · by_cases c3 : way = 3
      · simp [c3, pLen_ref (seqAt_of hr3)]
        refine take_ok J3 (by omega) (by omega) fun r h4 r0 r1 J4 G4 => ?_
        have hr4 : h4.f l = some (.lst (rows.map W1)) := (G4 l lp lg).trans hr3
        simp
        have := fin a (a + r) z11 h4 a0 (by omega) (by omega) hr4 J4 (F3.fr G4)
        rw [c3] at this
        exact this
      · by_cases c4 : way = 4
        · simp [c4, pLen_ref (seqAt_of hr3)]
          have := fin a a z11 h3 a0 (by omega) (by omega) hr3 J3 F3
          rw [c4] at this
          exact this
        · simp [c1, c3, c4, pLen_ref (seqAt_of hr3)]
          exact fin a bb z11 h3 a0 hb0.1 hb0.2 hr3 J3 F3
end K13
namespace K13
open PySem T2
variable {n : Nat} {h h' h'' : DH} {Q : QD} {E : QX} {p g s : Addr}
theorem cut_lo {α : Type} {xs : List α} {k : Nat} (hk : k ≤ xs.length) : cut xs none (some (k : Int)) = xs.take k := by
  unfold cut clampI
  dsimp only
  rw [if_neg (by omega), List.drop_zero, Nat.sub_zero, show min ((k : Int).toNat) xs.length = k from by simp; omega]
theorem cut_hi {α : Type} {xs : List α} {k : Nat} (hk : k ≤ xs.length) : cut xs (some (k : Int)) none = xs.drop k := by
  unfold cut clampI
  dsimp only
  rw [if_neg (by omega), show min ((k : Int).toNat) xs.length = k from by simp; omega]
  exact List.take_of_length_le (by simp)
theorem moments_ok {looks : List Int} {b sc w : Int} (J : Jar h p g s) (fo : FrO b sc w) (hl : looks.length ≤ 60) (q : ∀ h' ms, Jar h' p g s → Fr p g h h' → Vm ms → Q (IL ms) h') : WF tab (n + 2) 73 [.ref p, IL looks, .tup [.int b, .int sc, .int w]] h Q E := by
  obtain ⟨b0, s0, s1, w0, w1, top⟩ := fo
  rw [w73]
  unfold b73
  refine sSeq_gen fun K1 k1 => ?_
  simp
  rw [k1, thenK_nx]
  clear k1 K1
  refine sSeq_gen fun K1 k1 => ?_
  simp
  refine take_ok J (by omega) (by omega) fun way h1 y0 y1 J1 G1 => ?_
  have F1 := FrX.rfl.fr G1
  rw [k1, thenK_nx]
  clear k1 K1
  refine sSeq_gen fun K1 k1 => ?_
  simp [IL]
  intro l hl1
  have hl0 := FrX.fresh J J1 F1 hl1
  obtain ⟨lp, lg, ls⟩ := J1.ne hl1
  have J2 := J1.new (c := .lst (looks.map D.int)) hl1
  have F2 := F1.set (c := .lst (looks.map D.int)) hl0
  have e2 : (h1.upd l (.lst (looks.map D.int))).f l = some (.lst (looks.map D.int)) := by simp
  generalize h1.upd l (.lst (looks.map D.int)) = h2 at J2 F2 e2
  clear hl1 J1 F1 G1 h1
  rw [k1, thenK_nx]
  clear k1 K1
  refine sSeq_gen fun K1 k1 => ?_
  have done : ∀ (h' : DH) (ms : List Int), Jar h' p g s → FrX p g h h' → Vm ms → Q (IL ms) (gcTo h h') := fun h' ms J' F' v => q _ _ (J.gc J') F'.gc v
  have rest : way = 3 ∨ True → K1.nx [some (.ref p), some (.tup (looks.map D.int)), some (.tup [.int b, .int sc, .int w]), some (.int b), some (.int sc), some (.int w), some (.int way), some (.ref l), none, none] h2 := fun _ => by
    rw [k1, thenK_nx]
    clear k1 K1
    refine sSeq_gen fun K1 k1 => ?_
    by_cases c3 : way = 3
    · simp [c3]
      refine take_ok J2 (by omega) (by omega) fun r h3 r0 r1 J3 G3 => ?_
      obtain ⟨many, hm, en⟩ := pickI (xs := [1, 2, 5, 60]) r0 (by simpa using r1)
      rw [rIx_tup, show [D.int 1, .int 2, .int 5, .int 60] = [1, 2, 5, 60].map D.int from rfl, en]
      have m0 : 0 ≤ many ∧ many ≤ 60 := by
        simp only [List.mem_cons, List.not_mem_nil, or_false] at hm
        omega
      have F3 := F2.fr G3
      simp
      refine ⟨by simp [rngOk]; omega, fun pc hpc => ?_⟩
      have hpc0 := FrX.fresh J J3 F3 hpc
      obtain ⟨cp, cg, cs⟩ := J3.ne hpc
      refine loopC_ind (I := fun ds h' => ∃ acc : List Int, h'.f pc = some (.lst (acc.map D.int)) ∧ Jar h' p g s ∧ FrX p g h h' ∧ acc.length + ds.length = many.toNat) (fun h' ⟨acc, ea, J4, F4, hlen⟩ => ?_) (fun d ds h' ⟨acc, ea, J4, F4, hlen⟩ => ?_) ⟨[], by simp, J3.new hpc, F3.set hpc0, by simp [rng]⟩
      · refine ⟨trivial, ?_⟩
        simp only [List.length_nil, Nat.add_zero] at hlen
        refine rising_ok (seqAt_of ea) (by omega) fun ms v => ?_
        rw [k1]
        simp
        exact done h' ms J4 F4 v
      · refine ⟨trivial, fun k hk => ?_⟩
        simp only [List.length_cons] at hlen
        simp
        refine take_ok J4 (by omega) (by omega) fun r h5 r0 r1 J5 G5 => ?_
        have c1 : mulOk sc r := mulOk_l ⟨by omega, by omega⟩
        simp [c1]
        refine take_ok J5 (by omega) (by omega) fun r2 h6 r20 r21 J6 G6 => ?_
        have ea6 : h6.f pc = some (.lst (acc.map D.int)) := (G6 pc cp cg).trans ((G5 pc cp cg).trans ea)
        simp [ea6]
        refine ⟨by simp [sizeLine]; omega, hk _ ⟨acc ++ [b + sc * r + r2], by simp, J6.upd cp cg cs, ((F4.fr G5).fr G6).set hpc0, by simp; omega⟩⟩
    · simp [c3]
      rw [k1, thenK_nx]
      simp
      exact done h2 [] J2 F2 ⟨by simp, by simp, by simp⟩
  by_cases c1 : way < 3
  · by_cases c2 : 0 < looks.length
    · simp [c1, c2, pLen_ref (seqAt_of e2)]
      refine take_ok J2 (by omega) (by omega) fun r h3 r0 r1 J3 G3 => ?_
      have e3 : h3.f l = some (.lst (looks.map D.int)) := (G3 l lp lg).trans e2
      have F3 := F2.fr G3
      obtain ⟨k, rfl⟩ := Int.eq_ofNat_of_zero_le r0
      have hk : k < looks.length := by omega
      by_cases c4 : way = 0
      · simp [c4]
        rw [rSl_ref (seqAt_of e3)]
        intro p1 hp1
        have n1 : l ≠ p1 := ne_of_cells e3 hp1
        have e4 : (h3.upd p1 (.lst (cut (looks.map D.int) none (some (k : Int))))).f l = some (.lst (looks.map D.int)) := by
          rw [DH.upd_f_ne n1]
          exact e3
        have J4 := J3.new (c := .lst (cut (looks.map D.int) none (some (k : Int)))) hp1
        have F4 := F3.set (c := .lst (cut (looks.map D.int) none (some (k : Int)))) (FrX.fresh J J3 F3 hp1)
        skip
        rw [rSl_ref (seqAt_of e4)]
        intro p2 hp2
        have n12 : p1 ≠ p2 := by
          rintro rfl
          simp at hp2
        have J5 := J4.new (c := .lst (cut (looks.map D.int) (some ((k : Int) + 1)) none)) hp2
        have F5 := F4.set (c := .lst (cut (looks.map D.int) (some ((k : Int) + 1)) none)) (FrX.fresh J J4 F4 hp2)
        rw [rAdd_ref (xs := cut (looks.map D.int) none (some (k : Int))) (ys := cut (looks.map D.int) (some ((k : Int) + 1)) none) (by rw [DH.upd_f_ne n12]; simp) (by simp)]
        have ea : cut (looks.map D.int) none (some (k : Int)) ++ cut (looks.map D.int) (some ((k : Int) + 1)) none = (looks.take k ++ looks.drop (k + 1)).map D.int := by
          rw [cut_lo (by simp; omega), show (k : Int) + 1 = ((k + 1 : Nat) : Int) by omega, cut_hi (by simp; omega), List.map_append, List.map_take, List.map_drop]
        have el : (cut (looks.map D.int) none (some (k : Int))).length + (cut (looks.map D.int) (some ((k : Int) + 1)) none).length ≤ sizeLine := by
          rw [cut_lo (by simp; omega), show (k : Int) + 1 = ((k + 1 : Nat) : Int) by omega, cut_hi (by simp; omega)]
          simp [sizeLine]
          omega
        refine ⟨el, fun p3 hp3 => ?_⟩
        have J6 := J5.new (c := .lst (cut (looks.map D.int) none (some (k : Int)) ++ cut (looks.map D.int) (some ((k : Int) + 1)) none)) hp3
        have F6 := F5.set (c := .lst (cut (looks.map D.int) none (some (k : Int)) ++ cut (looks.map D.int) (some ((k : Int) + 1)) none)) (FrX.fresh J J5 F5 hp3)
        refine rising_ok (ns := looks.take k ++ looks.drop (k + 1)) (seqAt_of (by rw [← ea]; simp)) (by simp; omega) fun ms v => ?_
        rw [k1]
        simp
        exact done _ ms J6 F6 v
      · have en : nth (looks.map D.int) (k : Int) = some (.int looks[k]) := by
          rw [nth_nat]
          simp [hk]
        have c5 : mulOk 2 way := mulOk_l ⟨by omega, by omega⟩
        simp [c4, pIx_ref (seqAt_of e3), en, whenP_of c5]
        rw [putIx_lst e3, placeOf_nat (by omega) (by simp; omega)]
        simp
        have J4 := J3.upd (c := .lst ((looks.map D.int).set k (.int (looks[k] + 2 * way - 3)))) lp lg ls
        have F4 := F3.set (c := .lst ((looks.map D.int).set k (.int (looks[k] + 2 * way - 3)))) hl0
        refine rising_ok (ns := looks.set k (looks[k] + 2 * way - 3)) (seqAt_of (by simp [List.map_set])) (by simp; omega) fun ms v => ?_
        rw [k1]
        simp
        exact done _ ms J4 F4 v
    · simp [c1, c2, pLen_ref (seqAt_of e2)]
      exact rest (.inr trivial)
  · simp [c1, pLen_ref (seqAt_of e2)]
    exact rest (.inr trivial)
end K13
namespace K13
open PySem T2
variable {n : Nat} {h h' h'' : DH} {Q : QD} {E : QX} {p g s : Addr}
theorem cut_take {α : Type} {xs : List α} {k : Nat} : cut xs none (some (k : Int)) = xs.take k := by
  rcases Nat.le_total k xs.length with q | q
  · exact cut_lo q
  · unfold cut clampI
    dsimp only
    rw [if_neg (by omega), List.drop_zero, Nat.sub_zero, show min ((k : Int).toNat) xs.length = xs.length from by simp; omega, List.take_length, List.take_of_length_le q]
theorem Vs_sub {ws us : List Wn} (v : Vs ws) (hl : us.length ≤ 60) (hs : ∀ w ∈ us, w ∈ ws) : Vs us := ⟨hl, fun w hw => v.2 w (hs w hw)⟩
theorem tree_cmD (ws : List Wn) : tree 1 (cmD ws) = true := by
  unfold cmD
  dsimp only
  split <;> simp [tree, trees]
theorem pickW {ws : List Wn} {r : Int} (h0 : 0 ≤ r) (h1 : r < ws.length) : ∃ w ∈ ws, nth (ws.map W1) r = some (W1 w) := by
  obtain ⟨k, hk, _, e⟩ := nth_some (xs := ws.map W1) h0 (by simpa using h1)
  refine ⟨ws[k]'(by simpa using hk), List.getElem_mem _, ?_⟩
  rw [e, List.getElem_map]
theorem lz_ne {ws : List Wn} (hw : 0 < ws.length) : 0 < (lz ws.length ws).length := by
  cases ws with
  | nil => simp at hw
  | cons w ws => simp [lz]
theorem all_ok {a : Addr} {ns : List Int} (ha : h.f a = some (.frz (ns.map D.int))) (hl : ns.length ≤ 63) (q : ∀ h', Q (.bl true) h') : WF tab (n + 10) 80 [.ref a] h Q E := by
  rw [w80]
  unfold b80
  refine sSeq_gen fun K1 k1 => ?_
  try simp
  refine jar_ok ha hl fun h1 p g s J => ?_
  clear ha
  rw [k1, thenK_nx]
  clear k1 K1
  refine sSeq_gen fun K1 k1 => ?_
  try simp
  refine take_ok J (by omega) (by omega) fun so h1 so0 so1 J _ => ?_
  rw [k1, thenK_nx]
  clear k1 K1
  refine sSeq_gen fun K1 k1 => ?_
  simp [powOk]
  refine take_ok J (by omega) (by omega) fun r h1 r0 r1 J _ => ?_
  obtain ⟨t, ht, en⟩ := pickI (xs := [0, 1, 999999988, so]) r0 (by simpa using r1)
  rw [rIx_tup, show [D.int 0, .int 1, .int 999999988, .int so] = [0, 1, 999999988, so].map D.int from rfl, en]
  have t0 : 0 ≤ t ∧ t ≤ 999999988 := by
    simp only [List.mem_cons, List.not_mem_nil, or_false] at ht
    omega
  clear ht en r0 r1 r
  refine hand_ok t0.1 t0.2 ?_
  try simp
  rw [k1, thenK_nx]
  clear k1 K1
  refine sSeq_gen fun K1 k1 => ?_
  try simp
  refine frame_ok J fun h1 b sc w J _ fo => ?_
  rw [k1, thenK_nx]
  clear k1 K1
  refine sSeq_gen fun K1 k1 => ?_
  try simp
  refine take_ok J (by omega) (by omega) fun r h1 r0 r1 J _ => ?_
  obtain ⟨m, hm, en⟩ := pickI (xs := [1, 2, 3, 5, 8, 0, 13, 20, 33, 60]) r0 (by simpa using r1)
  rw [rIx_tup, show [D.int 1, .int 2, .int 3, .int 5, .int 8, .int 0, .int 13, .int 20, .int 33, .int 60] = [1, 2, 3, 5, 8, 0, 13, 20, 33, 60].map D.int from rfl, en]
  have m0 : 0 ≤ m ∧ m ≤ 60 := by
    simp only [List.mem_cons, List.not_mem_nil, or_false] at hm
    omega
  clear hm en r0 r1 r
  try simp
  rw [k1, thenK_nx]
  clear k1 K1
  refine sSeq_gen fun K1 k1 => ?_
  try simp
  refine windows_ok J fo m0.1 m0.2 fun h1 ws J _ v hw => ?_
  rw [k1, thenK_nx]
  clear k1 K1
  -- back
  refine sSeq_gen fun K1 k1 => ?_
  simp [WL]
  refine ⟨by simp [rngOk]; omega, fun pb hpb => ?_⟩
  refine loopC_of (fun k : Nat => D.int (0 + (k : Int))) (fun k => some (W1 (ws.getD (ws.length - 1 - k) (0, 0)))) (xs := List.range m.toNat) rfl (fun xs => trivial) (fun k hk xs A B hA hB => ?_) (by simp [sizeLine]; omega) ?_
  · have hk7 : k < m.toNat := List.mem_range.mp hk
    have e : m - 1 - (k : Int) = ((ws.length - 1 - k : Nat) : Int) := by omega
    simp
    rw [e, nth_nat]
    have hlt : ws.length - 1 - k < ws.length := by omega
    have h2 := hA _ rfl
    rw [List.getD_eq_getElem?_getD, List.getElem?_eq_getElem hlt] at h2
    simp [hlt]
    exact h2
  rw [List.nil_append, fm_map (fun k => W1 (ws.getD (ws.length - 1 - k) (0, 0))), bTuple_ref seqAt_lst]
  obtain ⟨back, hback⟩ : ∃ back : List Wn, back = (List.range m.toNat).map fun k => ws.getD (ws.length - 1 - k) (0, 0) := ⟨_, rfl⟩
  have eb : ((List.range m.toNat).map fun k => W1 (ws.getD (ws.length - 1 - k) (0, 0))) = back.map W1 := by
    rw [hback, List.map_map]
    rfl
  have vb : Vs back := by
    refine Vs_sub v (by rw [hback]; simp; omega) fun w hw' => ?_
    rw [hback] at hw'
    obtain ⟨k, hk, rfl⟩ := List.mem_map.mp hw'
    have hk7 : k < m.toNat := List.mem_range.mp hk
    have hlt : ws.length - 1 - k < ws.length := by omega
    rw [List.getD_eq_getElem?_getD, List.getElem?_eq_getElem hlt]
    exact List.getElem_mem _
  rw [eb]
  replace J := J.new (c := .lst (back.map W1)) hpb
  clear eb hback
  generalize h1.upd pb (.lst (back.map W1)) = h2 at J
  clear hpb
  rw [k1, thenK_nx]
  clear k1 K1
  -- looks
  have vl := Vm_lz v
  have vc := Vs_lz v
  refine sSeq_gen fun K1 k1 => ?_
  try simp
  refine law_lazy_ok v.1 (fun w hw => (v.2 w hw).2.1) ?_
  obtain ⟨looks, hlo⟩ : ∃ looks, looks = (lz ws.length ws).map (·.2) := ⟨_, rfl⟩
  obtain ⟨callers, hca⟩ : ∃ callers, callers = lz ws.length ws := ⟨_, rfl⟩
  have hap : callers.Pairwise fun u w => u.2 < w.1 := by
    rw [hca]
    exact lz_apart _ _
  have hne : 0 < ws.length → 0 < callers.length := by
    rw [hca]
    exact lz_ne
  have hll : looks.length = callers.length := by rw [hlo, hca]; simp
  rw [← hlo] at vl ⊢
  rw [← hca] at vc ⊢
  clear hlo hca
  try simp
  rw [k1, thenK_nx]
  clear k1 K1
  refine sSeq_gen fun K1 k1 => ?_
  try simp
  refine moments_ok J fo vl.1 fun h1 ms J _ vm => ?_
  refine stabs_ok v vm ?_
  try simp
  refine moments_ok J fo vl.1 fun h1 ms J _ vm => ?_
  refine stabs_ok vb vm ?_
  try simp
  rw [k1, thenK_nx]
  clear k1 K1
  refine sSeq_gen fun K1 k1 => ?_
  try simp
  refine is_a_ok g_windows (by decide) (fun _ _ q => is_windows_ok v q) ?_
  refine is_a_ok g_moments (by decide) (fun _ _ q => is_moments_ok vl q) ?_
  refine is_a_ok g_windows (by decide) (fun _ _ q => is_windows_ok vc q) ?_
  refine like_ok 1 (n + 7) (.tup [.bl true, .bl true, .bl true]) _ _ _ (by simp [tree, trees]) ?_
  try simp
  rw [k1, thenK_nx]
  clear k1 K1
  refine sSeq_gen fun K1 k1 => ?_
  try simp
  refine take_ok J (by omega) (by omega) fun r h1 r0 r1 J _ => ?_
  obtain ⟨kf, rfl⟩ := Int.eq_ofNat_of_zero_le r0
  try simp
  rw [cut_take, ← List.map_take]
  have vf : Vs (ws.take kf) := Vs_sub v (by have := v.1; simp; omega) fun w hw => List.mem_of_mem_take hw
  rw [k1, thenK_nx]
  clear k1 K1
  refine sSeq_gen fun K1 k1 => ?_
  try simp [-List.map_take]
  refine common_ok v ?_
  refine common_ok vf ?_
  refine common_ok vc ?_
  refine law_common_ok ?_
  refine law_common_ok (ws := ws.take kf) ?_
  refine law_common_ok (ws := callers) ?_
  refine like_ok 2 (n + 6) (.tup [cmD ws, cmD (ws.take kf), cmD callers]) _ _ _ (by simp [tree, trees, tree_cmD]) ?_
  try simp [-List.map_take]
  rw [k1, thenK_nx]
  clear k1 K1
  refine sSeq_gen fun K1 k1 => ?_
  by_cases cm0 : m = 0
  · simp [cm0]
    rw [k1]
    simp
    exact q _
  have hwp : 0 < ws.length := by omega
  have hcp := hne hwp
  simp [cm0]
  rw [k1, thenK_nx]
  clear k1 K1
  refine sSeq_gen fun K1 k1 => ?_
  try simp [-List.map_take]
  refine take_ok J (by omega) (by omega) fun r h1 r0 r1 J _ => ?_
  obtain ⟨w1, hw1, en⟩ := pickW (ws := ws) r0 (by omega)
  rw [rIx_tup, en]
  try simp [-List.map_take]
  have c10 : cut (ws.map W1) none (some 10) = (ws.take 10).map W1 := (cut_take (k := 10)).trans List.map_take.symm
  rw [c10]
  refine ⟨by simp [sizeLine]; omega, ?_⟩
  refine take_ok J (by omega) (by omega) fun r h1 r0 r1 J _ => ?_
  obtain ⟨w2, hw2, en⟩ := pickW (ws := ws) r0 (by omega)
  rw [rIx_tup, en]
  try simp [-List.map_take]
  refine ⟨by simp [sizeLine]; omega, ?_⟩
  rw [show (D.tup (W1 w1 :: ((ws.take 10).map W1 ++ [W1 w2]))) = WL (w1 :: (ws.take 10 ++ [w2])) by simp [WL]]
  have vmo : Vs (w1 :: (ws.take 10 ++ [w2])) := by
    refine Vs_sub v (by simp; omega) fun w hw => ?_
    rcases List.mem_cons.mp hw with z | z
    · rw [z]; exact hw1
    · rcases List.mem_append.mp z with z | z
      · exact List.mem_of_mem_take z
      · simp at z
        rw [z]; exact hw2
  rw [k1, thenK_nx]
  clear k1 K1
  refine sSeq_gen fun K1 k1 => ?_
  try simp [-List.map_take]
  refine moments_ok J fo vl.1 fun h1 ms J _ vm => ?_
  refine stabs_ok vmo vm ?_
  try simp [-List.map_take]
  rw [k1, thenK_nx]
  clear k1 K1
  refine sSeq_gen fun K1 k1 => ?_
  simp [-List.map_take]
  refine ⟨by simp [rngOk], ?_⟩
  generalize some (WL (w1 :: (ws.take 10 ++ [w2]))) = y11
  generalize some (D.tup (List.take kf (ws.map W1))) = y10
  refine loopF_ind (I := fun ds σ h' => Jar h' p g s ∧ ∃ z6 : Option D, σ = [some (.ref a), some (.ref p), some (.int so), some (.tup [.int b, .int sc, .int w]), some (.int m), some (.tup (ws.map W1)), z6, some (.tup (back.map W1)), some (IL looks), some (WL callers), y10, y11, none]) ?_ ?_ ⟨J, _, rfl⟩
  · rintro σ h1 ⟨J, z6, rfl⟩
    refine ⟨trivial, ?_⟩
    rw [k1, thenK_nx]
    clear k1 K1
    refine sSeq_gen fun K1 k1 => ?_
    simp [WL]
    refine take_ok J (by omega) (by have := vc.1; omega) fun r h1 r0 r1 J _ => ?_
    obtain ⟨k, rfl⟩ := Int.eq_ofNat_of_zero_le r0
    have hk : k < callers.length := by omega
    rw [k1, thenK_nx]
    clear k1 K1
    refine sSeq_gen fun K1 k1 => ?_
    simp
    refine loopF_ind (I := fun ds σ h' => (∀ d ∈ ds, d = .int ((k : Int) - 1) ∨ d = .int ((k : Int) + 1)) ∧ ∃ z12 : Option D, σ = [some (.ref a), some (.ref p), some (.int so), some (.tup [.int b, .int sc, .int w]), some (.int m), some (.tup (ws.map W1)), some (.int (k : Int)), some (.tup (back.map W1)), some (IL looks), some (.tup (callers.map W1)), y10, y11, z12]) ?_ ?_ ⟨by simp, _, rfl⟩
    · rintro σ h1 ⟨_, z12, rfl⟩
      refine ⟨trivial, ?_⟩
      rw [k1, thenK_nx]
      clear k1 K1
      simp
      exact q _
    · rintro d ds σ h1 ⟨hd, z12, rfl⟩
      refine ⟨trivial, fun kk hkk => ?_⟩
      have nx : ∀ h', kk [some (.ref a), some (.ref p), some (.int so), some (.tup [.int b, .int sc, .int w]), some (.int m), some (.tup (ws.map W1)), some (.int (k : Int)), some (.tup (back.map W1)), some (IL looks), some (.tup (callers.map W1)), y10, y11, some d] h' := fun h' => hkk _ _ ⟨fun d' hd' => hd d' (List.mem_cons_of_mem _ hd'), _, rfl⟩
      have app : ∀ i j : Nat, i < j → (hj : j < callers.length) → ∀ hi : i < callers.length, (callers[i]).2 < (callers[j]).1 := fun i j hij hj hi => List.pairwise_iff_getElem.mp hap i j hi hj hij
      obtain ⟨j, rfl, hjk⟩ : ∃ j : Int, d = .int j ∧ (j = (k : Int) - 1 ∨ j = (k : Int) + 1) := by
        rcases hd d List.mem_cons_self with z | z
        · exact ⟨_, z, .inl rfl⟩
        · exact ⟨_, z, .inr rfl⟩
      by_cases c1 : 0 ≤ j
      · by_cases c2 : j < callers.length
        · obtain ⟨i, rfl⟩ := Int.eq_ofNat_of_zero_le c1
          have hi : i < callers.length := by omega
          simp [hi, hk]
          refine are_apart_ok (vc.2 _ (List.getElem_mem hi)) (vc.2 _ (List.getElem_mem hk)) ?_
          have e : (decide ((callers[i]).2 < (callers[k]).1) || decide ((callers[k]).2 < (callers[i]).1)) = true := by
            rcases hjk with z | z
            · have := app i k (by omega) hk hi
              simp [this]
            · have := app k i (by omega) hi hk
              simp [this]
          rw [e]
          refine like_b true ?_
          simp
          exact nx _
        · have c3 : ¬ (j < (callers.length : Int)) := c2
          simp [c1, c3]
          exact nx _
      · simp [c1]
        exact nx _
  · rintro d ds σ h1 ⟨J, z6, rfl⟩
    refine ⟨trivial, fun kk hkk => ?_⟩
    clear k1
    simp only [gName_ap, List.set_cons_succ, List.set_cons_zero]
    refine sSeq_gen fun K2 k2 => ?_
    simp
    refine take_ok J (by omega) (by omega) fun r h1 r0 r1 J _ => ?_
    obtain ⟨w1, hw1, en⟩ := pickW (ws := ws) r0 (by omega)
    rw [rIx_tup, en]
    simp [IL]
    refine take_ok J (by omega) (by have := vl.1; omega) fun r h1 r0 r1 J _ => ?_
    obtain ⟨at_, hat, en⟩ := pickI (xs := looks) r0 (by omega)
    rw [rIx_tup, en]
    simp
    refine near_ok (v.2 _ hw1) (vl.2.1 _ hat) ?_
    simp
    rw [k2, thenK_nx]
    clear k2 K2
    simp
    refine take_ok J (by omega) (by omega) fun r h1 r0 r1 J _ => ?_
    obtain ⟨w3, hw3, en⟩ := pickW (ws := ws) r0 (by omega)
    rw [rIx_tup, en]
    simp
    refine take_ok J (by omega) (by omega) fun r h1 r0 r1 J _ => ?_
    obtain ⟨w4, hw4, en⟩ := pickW (ws := ws) r0 (by omega)
    rw [rIx_tup, en]
    simp
    refine pair_ok (v.2 _ hw3) (v.2 _ hw4) ?_
    simp
    exact hkk _ _ ⟨J, _, rfl⟩
theorem law_ok (a : Addr) (ns : List Int) (hl : ns.length ≤ 63) : WF tab 16 81 [.ref a] (DH.emp.upd a (.frz (ns.map D.int))) (fun d _ => d = .bl true) fun _ _ => False := by
  rw [w81]
  simp [b81]
  refine all_ok (n := 5) (by simp) hl fun h' => ?_
  simp
end K13
/-! T2B: the readings of T2A are what the machine does: over the hand layer. -/
namespace T2
open PySem PySem.Spec PyProof.Rows
open L2 (V Hp HO upd upd_same upd_ne SqL SqT Rd RelV Vals PE PT PW PA PS PSs PI PG PGs Cx Inv Sp Room FnOk Binds VK XK WX Takes OpR CallR Cls)

def tyName : Ty → String
  | .bool => "bool"
  | .int => "int"
  | .str => "str"
  | .tup => "tuple"
  | .list => "list"
  | .dict => "dict"
/-- what a whole program gives: where its defs and classes stand -/
structure Cs where
  P : Program
  w : World
  K : PySem.W.Frag
  mg : Str → Option Value
  base : Heap
  fa : Nat → Addr
  ca : Nat → Addr
/-- the names of a def's places, its scope, whether it is a def's body (not a comprehension's block); what the defs do that it calls, n deep at most -/
structure Lx where
  N : List Str
  sc : Scope
  d : Bool
  n : Nat
  cal : Nat → FnSem

/-- the tuples stay -/
def Ex (_ : Cs) (H H' : Hp) : Prop := ∀ a vs, H a = some (.tup vs) → H' a = some (.tup vs)
section
variable (c : Cs)
mutual
inductive Rep (H : Hp) : D → V → Prop
  | non : Rep H .non .non
  | bl (b : Bool) : Rep H (.bl b) (.bl b)
  | int (i : Int) : Rep H (.int i) (.int i)
  | str (x : Str) : Rep H (.str x) (.str x)
  | ref (a : Addr) : Rep H (.ref a) (.ref a)
  | fn (i : Nat) : Rep H (.fn i) (.ref (c.fa i))
  | ty (t : Ty) : Rep H (.ty t) (.ty (tyName t))
  | tup {ds : List D} {a : Addr} {vs : List V} : H a = some (.tup vs) → Reps H ds vs → Rep H (.tup ds) (.ref a)
inductive Reps (H : Hp) : List D → List V → Prop
  | nil : Reps H [] []
  | cons {d : D} {v : V} {ds : List D} {vs : List V} : Rep H d v → Reps H ds vs → Reps H (d :: ds) (v :: vs)
end
def RepO (H : Hp) : Option D → Option V → Prop
  | some d, some v => Rep c H d v
  | none, _ => True
  | some _, none => False
def RepK {κ : Type} (H : Hp) (kvs : List (κ × D)) (ws : List (κ × V)) : Prop := Paired (fun (p : κ × D) (q : κ × V) => p.1 = q.1 ∧ Rep c H p.2 q.2) kvs ws
def CellR (H : Hp) (a : Addr) : C → Prop
  | .lst ds => ∃ vs, H a = some (.lst vs) ∧ Reps c H ds vs
  | .frz ds => ∃ vs, Rd H a (.lst vs) ∧ Reps c H ds vs
  | .dk kvs => ∃ ws, H a = some (.dK ws) ∧ RepK c H kvs ws
  | .dt kvs => ∃ ws, H a = some (.dT ws) ∧ RepK c H kvs ws
  | .ins _ _ => False
def SimH (h : DH) (H : Hp) : Prop := ∀ a o, h.f a = some o → CellR c H a o
structure Sim (σd : S) (h : DH) (σ : L2.St) (H : Hp) : Prop where
  len : σd.length = σ.length
  slot : ∀ (i : Nat) (d : D), σd[i]? = some (some d) → ∃ v, σ[i]? = some (some v) ∧ Rep c H d v
  cells : SimH c h H
/-- an exception: its class, its own dict's fields by their names -/
def ExcR (H : Hp) (x : Xc) (cls : Value) (d : Option Addr) : Prop := cls = .ref (c.ca x.cls)
def liftE (t : EE) (W : WX) : L2.TE := fun σ H Q => ∃ σd h, Sim c σd h σ H ∧ t σd h (fun d h' => ∀ v H', Ex c H H' → Rep c H' d v → Sim c σd h' σ H' → Q v H')
  (fun x h' => ∀ cls d H', Ex c H H' → ExcR c H' x cls d → Sim c σd h' σ H' → W cls d σ H')
def liftA (n : Nat) (t : AA) (W : WX) : L2.TA := fun σ H Q => ∃ σd h, Sim c σd h σ H ∧ t σd h (fun ds h' => ∀ vs H', vs.length = n → Ex c H H' → Reps c H' ds vs → Sim c σd h' σ H' → Q vs H')
  (fun x h' => ∀ cls d H', Ex c H H' → ExcR c H' x cls d → Sim c σd h' σ H' → W cls d σ H')
def liftB (t : BB) (W : WX) : L2.TT := fun σ H Q => ∃ σd h, Sim c σd h σ H ∧ t σd h (fun k h' => ∀ H', Ex c H H' → Sim c σd h' σ H' → Q k H')
  (fun x h' => ∀ cls d H', Ex c H H' → ExcR c H' x cls d → Sim c σd h' σ H' → W cls d σ H')
def liftS (t : SS) (W : WX) : L2.TS := fun D σ H => ∃ σd h, Sim c σd h σ H ∧ t
  ⟨fun σd' h' => ∀ σ' H', Ex c H H' → Sim c σd' h' σ' H' → D.nx σ' H',
   fun d h' => ∀ v H', Ex c H H' → Rep c H' d v → SimH c h' H' → D.rt v H',
   fun σd' h' => ∀ σ' H', Ex c H H' → Sim c σd' h' σ' H' → D.bk σ' H',
   fun σd' h' => ∀ σ' H', Ex c H H' → Sim c σd' h' σ' H' → D.ct σ' H',
   fun x σd' h' => ∀ cls d σ' H', Ex c H H' → ExcR c H' x cls d → Sim c σd' h' σ' H' → W cls d σ' H'⟩ σd h
/-- a def that does f, as the hand layer promises it -/
def spL (f : FnSem) (np : Nat) : Sp := fun vs H Q E => ∃ ds h, Reps c H ds vs ∧ SimH c h H ∧ vs.length = np ∧
  f ds h (fun d h' => ∀ v H', Ex c H H' → Rep c H' d v → SimH c h' H' → Q v H') (fun x h' => ∀ cls d H', Ex c H H' → ExcR c H' x cls d → SimH c h' H' → E cls d H')
/-- where code runs -/
structure XOk (l : Lx) (X : Cx) : Prop where
  P : X.prog = c.P
  w : X.w = c.w
  K : X.K = c.K
  mg : X.mg = c.mg
  base : X.base = c.base
  N : X.N = l.N
  nd : l.N.Nodup
  sc : X.env.scope = l.sc
  calm : X.calm = true
  room : Room l.n X.A
  po : PassesOwn (model X.prog X.w) X.A X.env X.xe
  fnl : l.d = true → ∀ x, X.fn x = true
  kind : l.sc.kind = .function
end

section
variable {c : Cs} {H H' H'' : Hp} {a p : Addr} {d : D} {v : V} {ds : List D} {vs : List V}
theorem Ex.rfl : Ex c H H := fun _ _ q => q
theorem Ex.trans (e : Ex c H H') (f : Ex c H' H'') : Ex c H H'' := fun a vs q => f a vs (e a vs q)
mutual
theorem Rep.ex (e : Ex c H H') : ∀ {d : D} {v : V}, Rep c H d v → Rep c H' d v
  | _, _, .non => .non
  | _, _, .bl b => .bl b
  | _, _, .int i => .int i
  | _, _, .str x => .str x
  | _, _, .ref a => .ref a
  | _, _, .fn i => .fn i
  | _, _, .ty t => .ty t
  | _, _, .tup q r => .tup (e _ _ q) (Reps.ex e r)
theorem Reps.ex (e : Ex c H H') : ∀ {ds : List D} {vs : List V}, Reps c H ds vs → Reps c H' ds vs
  | _, _, .nil => .nil
  | _, _, .cons q r => .cons (Rep.ex e q) (Reps.ex e r)
end
theorem Reps.length : ∀ {ds : List D} {vs : List V}, Reps c H ds vs → ds.length = vs.length
  | _, _, .nil => rfl
  | _, _, .cons _ r => congrArg (· + 1) (Reps.length r)
theorem Reps.get : ∀ {ds : List D} {vs : List V} {i : Nat} {d : D}, Reps c H ds vs → ds[i]? = some d → ∃ v, vs[i]? = some v ∧ Rep c H d v
  | _, _, i, d, .nil, e => by simp at e
  | _, _, 0, d, .cons q _, e => by
    simp at e
    subst e
    exact ⟨_, rfl, q⟩
  | _, _, i + 1, d, .cons _ r, e => by
    obtain ⟨v, h1, h2⟩ := Reps.get (i := i) (d := d) r (by simpa using e)
    exact ⟨v, by simpa using h1, h2⟩
theorem Reps.append : ∀ {ds es : List D} {vs ws : List V}, Reps c H ds vs → Reps c H es ws → Reps c H (ds ++ es) (vs ++ ws)
  | _, _, _, _, .nil, s => s
  | _, _, _, _, .cons q r, s => .cons q (Reps.append r s)
theorem Reps.drop : ∀ {ds : List D} {vs : List V} (n : Nat), Reps c H ds vs → Reps c H (ds.drop n) (vs.drop n)
  | _, _, 0, r => r
  | _, _, _ + 1, .nil => .nil
  | _, _, n + 1, .cons _ r => Reps.drop n r
theorem Reps.take : ∀ {ds : List D} {vs : List V} (n : Nat), Reps c H ds vs → Reps c H (ds.take n) (vs.take n)
  | _, _, 0, _ => .nil
  | _, _, _ + 1, .nil => .nil
  | _, _, n + 1, .cons q r => .cons q (Reps.take n r)
theorem Reps.set {d : D} {v : V} (r : Rep c H d v) : ∀ {ds : List D} {vs : List V} (n : Nat), Reps c H ds vs → Reps c H (ds.set n d) (vs.set n v)
  | _, _, _, .nil => .nil
  | _, _, 0, .cons _ t => .cons r t
  | _, _, n + 1, .cons q t => .cons q (Reps.set r n t)
theorem Reps.erase : ∀ {ds : List D} {vs : List V} (n : Nat), Reps c H ds vs → Reps c H (ds.eraseIdx n) (vs.eraseIdx n)
  | _, _, _, .nil => .nil
  | _, _, 0, .cons _ t => t
  | _, _, n + 1, .cons q t => .cons q (Reps.erase n t)
theorem Reps.ints : ∀ {ns : List Int} {ds : List D} {vs : List V}, Reps c H ds vs → ints? ds = some ns → vs = ns.map V.int
  | ns, _, _, .nil, e => by
    simp [ints?] at e
    subst e
    rfl
  | ns, d :: ds, v :: vs, .cons q r, e => by
    cases q <;> simp [ints?] at e
    cases e2 : ints? ds with
    | none => simp [e2] at e
    | some ms =>
      simp [e2] at e
      subst e
      simp [Reps.ints r e2]
theorem reps_ints : ∀ {ns : List Int}, Reps c H (ns.map D.int) (ns.map V.int)
  | [] => .nil
  | n :: ns => .cons (.int n) reps_ints
theorem Reps.bools : ∀ {ns : List Bool} {ds : List D} {vs : List V}, Reps c H ds vs → bools? ds = some ns → vs = ns.map V.bl
  | ns, _, _, .nil, e => by
    simp [bools?] at e
    subst e
    rfl
  | ns, d :: ds, v :: vs, .cons q r, e => by
    cases q <;> simp [bools?] at e
    cases e2 : bools? ds with
    | none => simp [e2] at e
    | some ms =>
      simp [e2] at e
      subst e
      simp [Reps.bools r e2]
theorem RepK.ex {κ : Type} {kvs : List (κ × D)} {ws : List (κ × V)} (e : Ex c H H') (r : RepK c H kvs ws) : RepK c H' kvs ws :=
  L2.Paired.mapP r fun _ _ q => ⟨q.1, q.2.ex e⟩
/-- an address that is not what was changed keeps its cell -/
theorem CellR.keep {o : C} (e : Ex c H H') (k : H' a = H a) (r : CellR c H a o) : CellR c H' a o := by
  cases o with
  | lst ds => exact let ⟨vs, q, r⟩ := r; ⟨vs, k.trans q, r.ex e⟩
  | frz ds =>
    obtain ⟨vs, q, r⟩ := r
    refine ⟨vs, ?_, r.ex e⟩
    rcases q with q | ⟨o, q⟩
    · exact .inl (k.trans q)
    · exact .inr ⟨o, k.trans q⟩
  | dk kvs => exact let ⟨vs, q, r⟩ := r; ⟨vs, k.trans q, r.ex e⟩
  | dt kvs => exact let ⟨vs, q, r⟩ := r; ⟨vs, k.trans q, r.ex e⟩
  | ins _ _ => exact r.elim
/-- a cell stands at a tracked address -/
theorem CellR.there {o : C} (r : CellR c H a o) : H a ≠ none := fun n => by
  cases o with
  | lst ds => exact let ⟨vs, q, _⟩ := r; absurd q (by simp [n])
  | frz ds =>
    obtain ⟨vs, q, r⟩ := r
    rcases q with q | ⟨o, q⟩
    · exact absurd q (by simp [n])
    · exact absurd q (by simp [n])
  | dk kvs => exact let ⟨vs, q, _⟩ := r; absurd q (by simp [n])
  | dt kvs => exact let ⟨vs, q, _⟩ := r; absurd q (by simp [n])
  | ins _ _ => exact r.elim
/-- a new object -/
theorem Ex.new {o : HO} (n : H p = none) : Ex c H (upd H p o) := fun a vs q => by
  rw [upd_ne (L2.ne_of_none q n)]
  exact q
/-- an object that may change does -/
theorem Ex.mut {o : HO} (m : L2.Mut (H p)) : Ex c H (upd H p o) := fun a vs q => by
  rw [upd_ne]
  · exact q
  · rintro rfl
    rw [q] at m
    exact m
/-- the cell at p becomes o, the object there becomes u -/
theorem SimH.put {h : DH} {o : C} {u : HO} (s : SimH c h H) (e : Ex c H (upd H p u)) (r : CellR c (upd H p u) p o) : SimH c (h.upd p o) (upd H p u) := fun a q hq => by
  rw [DH.upd_f] at hq
  by_cases z : a = p
  · rw [if_pos z] at hq
    cases hq
    rw [z]
    exact r
  · rw [if_neg z] at hq
    exact (s a q hq).keep e (upd_ne z)
/-- what is new to the machine is new among the cells -/
theorem SimH.fresh {h : DH} (s : SimH c h H) (n : H p = none) : h.f p = none := by
  cases e : h.f p with
  | none => rfl
  | some o => exact absurd n (s p o e).there
/-- what stands in the heap alone -/
theorem SimH.keep {h : DH} {u : HO} (s : SimH c h H) (n : H p = none) : SimH c h (upd H p u) := fun a q hq =>
  (s a q hq).keep (.new n) (upd_ne fun z => (s a q hq).there (z ▸ n))
/-- a new list -/
theorem SimH.newL {h : DH} (s : SimH c h H) (n : H p = none) (r : Reps c H ds vs) : SimH c (h.upd p (.lst ds)) (upd H p (.lst vs)) :=
  s.put (.new n) ⟨vs, upd_same, r.ex (.new n)⟩
theorem Rep.newT (n : H p = none) (r : Reps c H ds vs) : Rep c (upd H p (.tup vs)) (.tup ds) (.ref p) := .tup upd_same (r.ex (.new n))
theorem SimH.seq {h : DH} (s : SimH c h H) (e : seqAt h a = some ds) : ∃ vs, SqL c.K H a vs ∧ Reps c H ds vs := by
  unfold seqAt at e
  split at e
  · rename_i xs q
    cases e
    obtain ⟨vs, q1, r⟩ := s a _ q
    exact ⟨vs, .inl (.inl q1), r⟩
  · rename_i xs q
    cases e
    obtain ⟨vs, q1, r⟩ := s a _ q
    exact ⟨vs, .inl q1, r⟩
  · cases e
theorem SimH.sub {h g : DH} (s : SimH c h H) (k : ∀ a o, g.f a = some o → h.f a = some o) : SimH c g H := fun a o q => s a o (k a o q)
theorem SimH.gc {h g : DH} (s : SimH c h H) : SimH c (gcTo g h) H := fun a o q => by
  rw [gcTo_f] at q
  split at q
  · exact s a o q
  · cases q
variable {σd : S} {h h' : DH} {σ : L2.St}
theorem Sim.ex (s : Sim c σd h σ H) (e : Ex c H H') (k : SimH c h' H') : Sim c σd h' σ H' :=
  ⟨s.len, fun i d q => let ⟨v, h1, h2⟩ := s.slot i d q; ⟨v, h1, h2.ex e⟩, k⟩
theorem Sim.set (s : Sim c σd h σ H) (i : Nat) (r : Rep c H d v) : Sim c (σd.set i (some d)) h (σ.set i (some v)) H := by
  refine ⟨by simp [s.len], fun j e q => ?_, s.cells⟩
  by_cases z : i = j
  · subst z
    by_cases z2 : i < σd.length
    · rw [List.getElem?_set_self z2] at q
      cases q
      exact ⟨v, List.getElem?_set_self (by rw [← s.len]; exact z2), r⟩
    · rw [List.getElem?_eq_none (by simpa using z2)] at q
      cases q
  · rw [List.getElem?_set_ne z] at q
    rw [List.getElem?_set_ne z]
    exact s.slot j e q
theorem Sim.unset (s : Sim c σd h σ H) (i : Nat) {x : Option V} : Sim c (σd.set i none) h (σ.set i x) H := by
  refine ⟨by simp [s.len], fun j e q => ?_, s.cells⟩
  by_cases z : i = j
  · subst z
    by_cases z2 : i < σd.length
    · rw [List.getElem?_set_self z2] at q
      cases q
    · rw [List.getElem?_eq_none (by simpa using z2)] at q
      cases q
  · rw [List.getElem?_set_ne z] at q
    rw [List.getElem?_set_ne z]
    exact s.slot j e q
theorem Sim.wipe (s : Sim c σd h σ H) : ∀ is : List Nat, Sim c (T2.wipe σd is) h (L2.wipe σ is) H
  | [] => s
  | i :: is => (Sim.wipe s is).unset i
end

/-! ### judgements -/
section
variable (c : Cs) (l : Lx)
structure DE (e : Expr) (t : EE) : Prop where
  mono : ∀ {σ : S} {h : DH} {Q Q' : QD} {E E' : QX}, (∀ d h, Q d h → Q' d h) → (∀ x h, E x h → E' x h) → t σ h Q E → t σ h Q' E'
  run : ∀ (X : Cx), XOk c l X → ∀ W : WX, Takes X W → PE X e (liftE c t W)
structure DB (e : Expr) (t : BB) : Prop where
  mono : ∀ {σ : S} {h : DH} {Q Q' : Bool → DH → Prop} {E E' : QX}, (∀ d h, Q d h → Q' d h) → (∀ x h, E x h → E' x h) → t σ h Q E → t σ h Q' E'
  run : ∀ (X : Cx), XOk c l X → ∀ W : WX, Takes X W → PT X e (liftB c t W)
/-- a chain of and, or: whatever its whole is -/
structure DW (e : Expr) (t : BB) : Prop where
  mono : ∀ {σ : S} {h : DH} {Q Q' : Bool → DH → Prop} {E E' : QX}, (∀ d h, Q d h → Q' d h) → (∀ x h, E x h → E' x h) → t σ h Q E → t σ h Q' E'
  run : ∀ (X : Cx), XOk c l X → ∀ W : WX, Takes X W → PW X e (liftB c t W)
structure DA (es : List Expr) (t : AA) : Prop where
  mono : ∀ {σ : S} {h : DH} {Q Q' : List D → DH → Prop} {E E' : QX}, (∀ d h, Q d h → Q' d h) → (∀ x h, E x h → E' x h) → t σ h Q E → t σ h Q' E'
  run : ∀ (X : Cx), XOk c l X → ∀ W : WX, Takes X W → PA X es (liftA c es.length t W)
structure EnLe (K K' : En) : Prop where
  nx : ∀ σ h, K.nx σ h → K'.nx σ h
  rt : ∀ d h, K.rt d h → K'.rt d h
  bk : ∀ σ h, K.bk σ h → K'.bk σ h
  ct : ∀ σ h, K.ct σ h → K'.ct σ h
  ex : ∀ x σ h, K.ex x σ h → K'.ex x σ h
structure DS (s : Stmt) (t : SS) : Prop where
  mono : ∀ {σ : S} {h : DH} {K K' : En}, EnLe K K' → t K σ h → t K' σ h
  run : ∀ (X : Cx), XOk c l X → ∀ W : WX, Takes X W → PS X s (liftS c t W)
structure DSs (ss : List Stmt) (t : SS) : Prop where
  mono : ∀ {σ : S} {h : DH} {K K' : En}, EnLe K K' → t K σ h → t K' σ h
  run : ∀ (X : Cx), XOk c l X → ∀ W : WX, Takes X W → PSs X ss (liftS c t W)
end

section
variable {X : Cx} {e : Expr} {es : List Expr} {t t' : L2.TE}
theorem pe_imp (p : PE X e t) (i : ∀ σ H Q, t' σ H Q → t σ H Q) : PE X e t' := ⟨fun pins s σ H Q I q => p.run pins s σ H Q I (i σ H Q q)⟩
theorem pt_imp {t t' : L2.TT} (p : PT X e t) (i : ∀ σ H Q, t' σ H Q → t σ H Q) : PT X e t' := ⟨fun pins s σ H Q I q => p.run pins s σ H Q I (i σ H Q q)⟩
theorem pw_imp {t t' : L2.TT} (p : PW X e t) (i : ∀ σ H Q, t' σ H Q → t σ H Q) : PW X e t' := ⟨fun wh pins s σ H Q I q => p.run wh pins s σ H Q I (i σ H Q q)⟩
theorem pa_imp {t t' : L2.TA} (p : PA X es t) (i : ∀ σ H Q, t' σ H Q → t σ H Q) : PA X es t' := ⟨fun pos pins s σ H Q I q => p.run pos pins s σ H Q I (i σ H Q q)⟩
theorem ps_imp {s : Stmt} {t t' : L2.TS} (p : PS X s t) (i : ∀ D σ H, t' D σ H → t D σ H) : PS X s t' := ⟨fun pins s σ H D I q => p.run pins s σ H D I (i D σ H q)⟩
theorem pss_imp {s : List Stmt} {t t' : L2.TS} (p : PSs X s t) (i : ∀ D σ H, t' D σ H → t D σ H) : PSs X s t' := ⟨fun pins s σ H D I q => p.run pins s σ H D I (i D σ H q)⟩
end

section
variable {c : Cs} {l : Lx} {a b e : Expr} {ta tb te : EE} {pos : Pos}
/-- liftE of a reading, then something of its value: as a premise of the hand layer's -/
theorem liftE_seq {W : WX} {σ : L2.St} {H H0 : Hp} {σd : S} {h : DH} {Q : VK} {R : QD} {E : QX} (ha : DE c l a ta) (s : Sim c σd h σ H) (e0 : Ex c H0 H)
    (q : ta σd h R E) (hE : ∀ x h', E x h' → ∀ cls d H', Ex c H0 H' → ExcR c H' x cls d → Sim c σd h' σ H' → W cls d σ H')
    (k : ∀ d h' v H', R d h' → Ex c H0 H' → Rep c H' d v → Sim c σd h' σ H' → Ex c H H' → Q v H') : liftE c ta W σ H Q :=
  ⟨σd, h, s, ha.mono (fun d h' r v H' e1 r1 s1 => k d h' v H' r (e0.trans e1) r1 s1 e1) (fun x h' r cls d H' e1 => hE x h' r cls d H' (e0.trans e1)) q⟩

theorem de_var {i : Nat} {x : Str} (hN : l.N[i]? = some x) (hv : L2.Vis l.sc x) (hd : (x == ("__debug__" : Str)) = false := by decide) (hcd : (x == ("__classdict__" : Str)) = false := by decide) : DE c l (.Name x pos) (eVar i) where
  mono := fun {σ h Q Q' E E'} k _ q => by
    unfold eVar at q ⊢
    split at q
    · exact k _ _ q
    · exact q
  run := fun X ok W tk => pe_imp (L2.pe_var (by rw [ok.N]; exact hN) (by rw [ok.sc]; exact hv) hd hcd) fun σ H Q ⟨σd, h, s, q⟩ => by
    unfold eVar at q
    split at q
    · rename_i d e
      obtain ⟨v, e2, r⟩ := s.slot i d e
      exact ⟨v, e2, q v H Ex.rfl r s⟩
    · exact q.elim
theorem de_c {d : D} {v : V} (p : ∀ X, PE X e (L2.tC v)) (r : ∀ H, Rep c H d v) : DE c l e (eC d) where
  mono := fun k _ q => k _ _ q
  run := fun X ok W tk => pe_imp (p X) fun σ H Q ⟨σd, h, s, q⟩ => q v H Ex.rfl (r H) s
theorem de_int {i : Int} {j : Nat} : DE c l (.Constant (.int i) j pos) (eC (.int i)) := de_c (fun _ => L2.pe_int) fun _ => .int i
theorem de_bl {i : Bool} {j : Nat} : DE c l (.Constant (.bool i) j pos) (eC (.bl i)) := de_c (fun _ => L2.pe_bl) fun _ => .bl i
theorem de_non {j : Nat} : DE c l (.Constant .none j pos) (eC .non) := de_c (fun _ => L2.pe_non) fun _ => .non
theorem de_str {x y : Str} {j : Nat} (e : x = y) : DE c l (.Constant (.str x) j pos) (eC (.str y)) := by
  subst e
  exact de_c (fun _ => L2.pe_str) fun _ => .str x
/-- a name of the module that stands for a datum -/
theorem de_glob {x : Str} {d : D} {v : V} {u : Value} (hm : c.mg x = some u) (rv : RelV v u) (r : ∀ H, Rep c H d v) (hg : l.sc.names.lookup x = some .globalImplicit) (hd : (x == ("__debug__" : Str)) = false := by decide) : DE c l (.Name x pos) (eC d) where
  mono := fun k _ q => k _ _ q
  run := fun X ok W tk => pe_imp (L2.pe_glob (by show X.env.scope.names.lookup x = _; rw [ok.sc]; exact hg) (by rw [ok.mg]; exact hm) rv hd) fun σ H Q ⟨σd, h, s, q⟩ => q v H Ex.rfl (r H) s
/-- a built-in class by its name -/
theorem de_ty {x : Str} {t : Ty} (hm : c.mg x = none) (hv : bootBuiltins x = some (.type (tyName t))) (hg : l.sc.names.lookup x = some .globalImplicit) (hn : x ≠ "__name__" := by decide) (hd : (x == ("__debug__" : Str)) = false := by decide) : DE c l (.Name x pos) (eC (.ty t)) where
  mono := fun k _ q => k _ _ q
  run := fun X ok W tk => pe_imp (L2.pe_bltn (by show X.env.scope.names.lookup x = _; rw [ok.sc]; exact hg) (by rw [ok.mg]; exact hm) hv (show RelV (.ty (tyName t)) _ from rfl) hn hd) fun σ H Q ⟨σd, h, s, q⟩ => q _ H Ex.rfl (.ty t) s

/-- an operator's rule, over data -/
def lift2 (c : Cs) (r : R2) : L2.R2 := fun x y H Q => ∃ dx dy h, Rep c H dx x ∧ Rep c H dy y ∧ SimH c h H ∧ r dx dy h fun d h' => ∀ v H', Ex c H H' → Rep c H' d v → SimH c h' H' → Q v H'
def Mo2 (r : R2) : Prop := ∀ (x y : D) (h : DH) (Q Q' : QD), (∀ d h, Q d h → Q' d h) → r x y h Q → r x y h Q'
structure Op2 (c : Cs) (f : Value → Value → Sem Value) (r : R2) : Prop where
  mono : Mo2 r
  run : ∀ (l : Lx) (X : Cx), XOk c l X → OpR X f (lift2 c r)
/-- two parts, then an operator's rule -/
theorem lift_bin {W : WX} {r : R2} (rm : Mo2 r) (ha : DE c l a ta) (hb : DE c l b tb) {σ : L2.St} {H : Hp} {Q : VK}
    (q : liftE c (eBin r ta tb) W σ H Q) : liftE c ta W σ H fun x H1 => liftE c tb W σ H1 fun y H2 => lift2 c r x y H2 Q := by
  obtain ⟨σd, h, s, q⟩ := q
  refine liftE_seq ha s Ex.rfl q (fun x h' z => z) fun d h1 v H1 q1 e1 r1 s1 e1' => ?_
  refine liftE_seq hb s1 e1 q1 (fun x h' z => z) fun d2 h2 v2 H2 q2 e2 r2 s2 e2' => ?_
  exact ⟨d, d2, h2, r1.ex e2', r2, s2.cells, rm _ _ _ _ _ (fun d3 h3 z v3 H3 e3 r3 s3 => z v3 H3 (e2.trans e3) r3 (s2.ex e3 s3)) q2⟩
theorem mono_bin {r : R2} (rm : Mo2 r) (ha : DE c l a ta) (hb : DE c l b tb)
    {σ : S} {h : DH} {Q Q' : QD} {E E' : QX} (k : ∀ d h, Q d h → Q' d h) (kE : ∀ x h, E x h → E' x h) (q : eBin r ta tb σ h Q E) : eBin r ta tb σ h Q' E' :=
  ha.mono (fun x h1 q1 => hb.mono (fun y h2 q2 => rm _ _ _ _ _ k q2) kE q1) kE q
theorem de_bin {op : Operator} {r : R2} (o : Op2 c (binaryOp op) r) (ha : DE c l a ta) (hb : DE c l b tb) : DE c l (.BinOp a op b pos) (eBin r ta tb) where
  mono := mono_bin o.mono ha hb
  run := fun X ok W tk => pe_imp (L2.pe_op (o.run l X ok) (ha.run X ok W tk) (hb.run X ok W tk)) fun σ H Q q => lift_bin o.mono ha hb q
theorem de_cmp {op : CmpOp} {r : R2} (o : Op2 c (compareOp op) r) (ha : DE c l a ta) (hb : DE c l b tb) (hm : behindInMarks op b = false := by rfl) : DE c l (.Compare a [op] [b] pos) (eBin r ta tb) where
  mono := mono_bin o.mono ha hb
  run := fun X ok W tk => pe_imp (L2.pe_cmpR (o.run l X ok) (ha.run X ok W tk) (hb.run X ok W tk) hm) fun σ H Q q => lift_bin o.mono ha hb q
end
end T2
/-! T2C: operators and built-ins. -/
namespace T2
open PySem PySem.Spec PyProof.Rows
open L2 (V Hp HO upd upd_same upd_ne SqL SqT Rd RelV Vals PE PT PW PA PS PSs PI PG PGs Cx Inv Sp Room FnOk Binds VK XK WX Takes OpR CallR Cls)
variable {c : Cs}
theorem op2_add : Op2 c (binaryOp .Add) rAdd where
  mono := fun x y h Q Q' k q => by
    cases x <;> cases y <;> first | exact k _ _ q | exact ⟨q.1, k _ _ q.2⟩ | exact q.elim | skip
    rename_i a b
    unfold rAdd at q ⊢
    dsimp only at q ⊢
    split at q
    · exact ⟨q.1, fun p hp => k _ _ (q.2 p hp)⟩
    · exact q
  run := fun l X ok pins s σ H x y v u Q I rx ry z => by
    obtain ⟨dx, dy, h, r1, r2, sm, q⟩ := z
    have hK := ok.K
    cases r1 <;> cases r2 <;> first | exact False.elim q | skip
    case int.int i j => exact L2.op_add pins s σ H _ _ v u Q I rx ry ⟨i, j, rfl, rfl, q (.int _) H Ex.rfl (.int _) sm⟩
    case str.str i j => exact L2.op_add_str pins s σ H _ _ v u Q I rx ry ⟨i, j, rfl, rfl, q.1, q.2 (.str _) H Ex.rfl (.str _) sm⟩
    case ref.ref a b =>
      unfold rAdd at q
      dsimp only at q
      split at q
      · rename_i xs ys e1 e2
        obtain ⟨vs, f1, g1⟩ := sm a _ e1
        obtain ⟨ws, f2, g2⟩ := sm b _ e2
        refine L2.op_cat pins s σ H _ _ v u Q I rx ry ⟨a, b, vs, ws, rfl, rfl, f1, f2, ?_, fun p hp => ?_⟩
        · rw [← g1.length, ← g2.length]
          exact q.1
        · exact q.2 p (sm.fresh hp) _ _ (.new hp) (.ref p) (sm.newL hp (g1.append g2))
      · exact q.elim
    case tup.tup xs a vs q1 g1 ys b ws q2 g2 =>
      refine L2.op_catA pins s σ H _ _ v u Q I rx ry ⟨a, b, vs, ws, rfl, rfl, SqT.of q1, SqT.of q2, ?_, fun e => ?_, fun e e' => ?_, fun e e' p hp => ?_⟩
      · rw [← g1.length, ← g2.length]
        exact q.1
      · subst e
        have : xs = [] := List.eq_nil_of_length_eq_zero g1.length
        subst this
        exact q.2 _ H Ex.rfl (.tup q2 g2) sm
      · subst e'
        have : ys = [] := List.eq_nil_of_length_eq_zero g2.length
        subst this
        have q3 := q.2
        rw [List.append_nil] at q3
        exact q3 _ H Ex.rfl (.tup q1 g1) sm
      · exact q.2 _ _ (.new hp) (Rep.newT hp (g1.append g2)) (sm.keep hp)
theorem op2_sub : Op2 c (binaryOp .Sub) rSub where
  mono := fun x y h Q Q' k q => by
    cases x <;> cases y <;> first | exact k _ _ q | exact q.elim
  run := fun l X ok pins s σ H x y v u Q I rx ry z => by
    obtain ⟨dx, dy, h, r1, r2, sm, q⟩ := z
    cases r1 <;> cases r2 <;> first | exact False.elim q | skip
    case int.int i j => exact L2.op_sub pins s σ H _ _ v u Q I rx ry ⟨i, j, rfl, rfl, q (.int _) H Ex.rfl (.int _) sm⟩
theorem Reps.rep {H : Hp} {ds : List D} {vs : List V} (r : Reps c H ds vs) : ∀ k : Nat, Reps c H (List.replicate k ds).flatten (List.replicate k vs).flatten
  | 0 => .nil
  | k + 1 => by
    rw [List.replicate_succ, List.replicate_succ, List.flatten_cons, List.flatten_cons]
    exact r.append (Reps.rep r k)
theorem op2_mul : Op2 c (binaryOp .Mult) rMul where
  mono := fun x y h Q Q' k q => by
    cases x <;> cases y <;> first | exact ⟨q.1, k _ _ q.2⟩ | exact q.elim | skip
    unfold rMul at q ⊢
    dsimp only at q ⊢
    split at q
    · exact ⟨q.1, fun p hp => k _ _ (q.2 p hp)⟩
    · exact q
  run := fun l X ok pins s σ H x y v u Q I rx ry z => by
    obtain ⟨dx, dy, h, r1, r2, sm, q⟩ := z
    cases r1 <;> cases r2 <;> first | exact False.elim q | skip
    case int.int i j => exact L2.op_mul pins s σ H _ _ v u Q I rx ry ⟨i, j, rfl, rfl, q.1, q.2 (.int _) H Ex.rfl (.int _) sm⟩
    case ref.int a k =>
      unfold rMul at q
      dsimp only at q
      split at q
      · rename_i xs e1
        obtain ⟨vs, f1, g1⟩ := sm a _ e1
        refine L2.op_rep pins s σ H _ _ v u Q I rx ry ⟨a, k, vs, rfl, rfl, f1, q.1.1, q.1.2.1, by rw [← g1.length]; exact q.1.2.2, fun p hp => ?_⟩
        exact q.2 p (sm.fresh hp) _ _ (.new hp) (.ref p) (sm.newL hp (g1.rep _))
      · exact q.elim
theorem op2_div : Op2 c (binaryOp .FloorDiv) rDiv where
  mono := fun x y h Q Q' k q => by
    cases x <;> cases y <;> first | exact ⟨q.1, k _ _ q.2⟩ | exact q.elim
  run := fun l X ok pins s σ H x y v u Q I rx ry z => by
    obtain ⟨dx, dy, h, r1, r2, sm, q⟩ := z
    cases r1 <;> cases r2 <;> first | exact False.elim q | skip
    case int.int i j => exact L2.op_fdiv pins s σ H _ _ v u Q I rx ry ⟨i, j, rfl, rfl, q.1, q.2 (.int _) H Ex.rfl (.int _) sm⟩
theorem op2_mod : Op2 c (binaryOp .Mod) rMod where
  mono := fun x y h Q Q' k q => by
    cases x <;> cases y <;> first | exact ⟨q.1, k _ _ q.2⟩ | exact q.elim
  run := fun l X ok pins s σ H x y v u Q I rx ry z => by
    obtain ⟨dx, dy, h, r1, r2, sm, q⟩ := z
    cases r1 <;> cases r2 <;> first | exact False.elim q | skip
    case int.int i j => exact L2.op_mod pins s σ H _ _ v u Q I rx ry ⟨i, j, rfl, rfl, q.1, q.2 (.int _) H Ex.rfl (.int _) sm⟩
theorem op2_pow : Op2 c (binaryOp .Pow) rPow where
  mono := fun x y h Q Q' k q => by
    cases x <;> cases y <;> first | exact ⟨q.1, k _ _ q.2⟩ | exact q.elim
  run := fun l X ok pins s σ H x y v u Q I rx ry z => by
    obtain ⟨dx, dy, h, r1, r2, sm, q⟩ := z
    cases r1 <;> cases r2 <;> first | exact False.elim q | skip
    case int.int i j => exact L2.op_pow pins s σ H _ _ v u Q I rx ry ⟨i, j, rfl, rfl, q.1, q.2 (.int _) H Ex.rfl (.int _) sm⟩
theorem lexI_eq : ∀ ns ms : List Int, HT.lexLt ns ms = lexI ns ms
  | [], [] => rfl
  | [], _ :: _ => rfl
  | _ :: _, [] => rfl
  | x :: xs, y :: ys => by
    rw [HT.lexLt_cons, lexI, lexI_eq xs ys]
theorem op2_lt : Op2 c (compareOp .Lt) rLt where
  mono := fun x y h Q Q' k q => by
    cases x <;> cases y <;> first | exact k _ _ q | exact q.elim | skip
    unfold rLt at q ⊢
    dsimp only at q ⊢
    split at q
    · exact k _ _ q
    · exact q
  run := fun l X ok pins s σ H x y v u Q I rx ry z => by
    obtain ⟨dx, dy, h, r1, r2, sm, q⟩ := z
    have hK := ok.K
    cases r1 <;> cases r2 <;> first | exact False.elim q | skip
    case int.int i j => exact L2.op_lt pins s σ H _ _ v u Q I rx ry ⟨i, j, rfl, rfl, q (.bl _) H Ex.rfl (.bl _) sm⟩
    case str.str i j => exact L2.op_lt_str pins s σ H _ _ v u Q I rx ry ⟨i, j, rfl, rfl, q (.bl _) H Ex.rfl (.bl _) sm⟩
    case tup.tup xs a vs q1 g1 ys b ws q2 g2 =>
      unfold rLt at q
      dsimp only at q
      split at q
      · rename_i ns ms e1 e2
        have f1 := g1.ints e1
        have f2 := g2.ints e2
        subst f1 f2
        refine L2.op_ltT ok.room.units0 pins s σ H _ _ v u Q I rx ry ⟨a, b, ns, ms, rfl, rfl, SqT.of q1, SqT.of q2, ?_⟩
        rw [lexI_eq]
        exact q (.bl _) H Ex.rfl (.bl _) sm
      · exact q.elim
theorem op2_le : Op2 c (compareOp .LtE) rLe where
  mono := fun x y h Q Q' k q => by
    cases x <;> cases y <;> first | exact k _ _ q | exact q.elim
  run := fun l X ok pins s σ H x y v u Q I rx ry z => by
    obtain ⟨dx, dy, h, r1, r2, sm, q⟩ := z
    cases r1 <;> cases r2 <;> first | exact False.elim q | skip
    case int.int i j => exact L2.op_le pins s σ H _ _ v u Q I rx ry ⟨i, j, rfl, rfl, q (.bl _) H Ex.rfl (.bl _) sm⟩
theorem op2_gt : Op2 c (compareOp .Gt) rGt where
  mono := fun x y h Q Q' k q => by
    cases x <;> cases y <;> first | exact k _ _ q | exact q.elim
  run := fun l X ok pins s σ H x y v u Q I rx ry z => by
    obtain ⟨dx, dy, h, r1, r2, sm, q⟩ := z
    cases r1 <;> cases r2 <;> first | exact False.elim q | skip
    case int.int i j => exact L2.op_gt pins s σ H _ _ v u Q I rx ry ⟨i, j, rfl, rfl, q (.bl _) H Ex.rfl (.bl _) sm⟩
theorem op2_ge : Op2 c (compareOp .GtE) rGe where
  mono := fun x y h Q Q' k q => by
    cases x <;> cases y <;> first | exact k _ _ q | exact q.elim
  run := fun l X ok pins s σ H x y v u Q I rx ry z => by
    obtain ⟨dx, dy, h, r1, r2, sm, q⟩ := z
    cases r1 <;> cases r2 <;> first | exact False.elim q | skip
    case int.int i j => exact L2.op_ge pins s σ H _ _ v u Q I rx ry ⟨i, j, rfl, rfl, q (.bl _) H Ex.rfl (.bl _) sm⟩
theorem Rep.isNone {H : Hp} {d : D} {v : V} (r : Rep c H d v) : decide (v = .non) = T2.isNone d := by
  cases r <;> first | rfl | exact decide_eq_false (by intro z; cases z)
theorem op2_is : Op2 c (compareOp .Is) rIs where
  mono := fun x y h Q Q' k q => by
    cases x <;> cases y <;> first | exact k _ _ q | exact q.elim
  run := fun l X ok pins s σ H x y v u Q I rx ry z => by
    obtain ⟨dx, dy, h, r1, r2, sm, q⟩ := z
    have e := r1.isNone
    cases r2
    case non =>
      refine L2.op_isN pins s σ H _ _ v u Q I rx ry ⟨rfl, ?_⟩
      rw [e]
      have q' : _ := q
      unfold rIs at q'
      exact q' (.bl _) H Ex.rfl (.bl _) sm
    all_goals (unfold rIs at q; exact False.elim q)
theorem op2_isNot : Op2 c (compareOp .IsNot) rIsNot where
  mono := fun x y h Q Q' k q => by
    cases x <;> cases y <;> first | exact k _ _ q | exact q.elim
  run := fun l X ok pins s σ H x y v u Q I rx ry z => by
    obtain ⟨dx, dy, h, r1, r2, sm, q⟩ := z
    have e := r1.isNone
    cases r2
    case non =>
      refine L2.op_notN pins s σ H _ _ v u Q I rx ry ⟨rfl, ?_⟩
      rw [e]
      unfold rIsNot at q
      exact q (.bl _) H Ex.rfl (.bl _) sm
    all_goals (unfold rIsNot at q; exact False.elim q)
end T2
/-! T2D: equality, in, subscripts, slices; the expressions' rules. -/
namespace T2
open PySem PySem.Spec PyProof.Rows
open L2 (V Hp HO upd upd_same upd_ne SqL SqT Rd RelV Vals PE PT PW PA PS PSs PI PG PGs Cx Inv Sp Room FnOk Binds VK XK WX Takes OpR CallR Cls)
variable {c : Cs}
mutual
def toPy : D → PyData
  | .non => .none
  | .bl b => .bool b
  | .int i => .int i
  | .str x => .str x
  | .tup xs => .tuple (toPys xs)
  | .ref _ => .none
  | .fn _ => .none
  | .ty _ => .none
def toPys : List D → List PyData
  | [] => []
  | x :: xs => toPy x :: toPys xs
end
mutual
theorem plain_dp {H : Hp} : ∀ (n : Nat) (d : D) (v : V), D.plain n d = true → Rep c H d v → L2.Dp c.K H v (toPy d)
  | n, .non, v, p, r => by
    cases r
    exact .non
  | n, .bl b, v, p, r => by
    cases r
    exact .bl b
  | n, .int i, v, p, r => by
    cases r
    exact .int i
  | n, .str x, v, p, r => by
    cases r
    exact .str x
  | n, .ref a, v, p, r => by simp [D.plain] at p
  | n, .fn a, v, p, r => by simp [D.plain] at p
  | n, .ty a, v, p, r => by simp [D.plain] at p
  | 0, .tup xs, v, p, r => by simp [D.plain] at p
  | n + 1, .tup xs, v, p, r => by
    cases r with
    | tup q r =>
      rw [toPy]
      exact .tup (SqT.of q) (plain_dps n xs _ (by simpa [D.plain] using p) r)
theorem plain_dps {H : Hp} : ∀ (n : Nat) (ds : List D) (vs : List V), plainL n ds = true → Reps c H ds vs → L2.DpAll c.K H vs (toPys ds)
  | n, [], vs, _, r => by
    cases r
    rw [toPys]
    exact .nil
  | n, d :: ds, vs, p, r => by
    rw [plainL, Bool.and_eq_true] at p
    cases r with
    | cons q r =>
      rw [toPys]
      exact .cons (plain_dp n d _ p.1 q) (plain_dps n ds _ p.2 r)
end
mutual
theorem plain_can : ∀ (n : Nat) (d : D), D.plain n d = true → (toPy d).canLay0 = true
  | _, .non, _ => by simp [toPy, PyData.canLay0]
  | _, .bl _, _ => by simp [toPy, PyData.canLay0]
  | _, .int _, _ => by simp [toPy, PyData.canLay0]
  | _, .str x, p => by
    rw [D.plain] at p
    rw [toPy, PyData.canLay0]
    exact p
  | 0, .tup xs, p => by simp [D.plain] at p
  | n + 1, .tup xs, p => by
    rw [toPy, PyData.canLay0]
    exact plain_cans n xs (by simpa [D.plain] using p)
  | _, .ref _, p => by simp [D.plain] at p
  | _, .fn _, p => by simp [D.plain] at p
  | _, .ty _, p => by simp [D.plain] at p
theorem plain_cans : ∀ (n : Nat) (ds : List D), plainL n ds = true → PyData.canLayAll0 (toPys ds) = true
  | _, [], _ => by simp [toPys, PyData.canLayAll0]
  | n, x :: xs, p => by
    rw [plainL, Bool.and_eq_true] at p
    rw [toPys, PyData.canLayAll0, plain_can n x p.1, plain_cans n xs p.2]
    rfl
end
mutual
theorem plain_depth : ∀ (n : Nat) (d : D), D.plain n d = true → (toPy d).depth ≤ n
  | _, .non, _ => by simp [toPy, PyData.depth]
  | _, .bl _, _ => by simp [toPy, PyData.depth]
  | _, .int _, _ => by simp [toPy, PyData.depth]
  | _, .str x, p => by simp [toPy, PyData.depth]
  | 0, .tup xs, p => by simp [D.plain] at p
  | n + 1, .tup xs, p => by
    rw [toPy, PyData.depth]
    have := plain_depths n xs (by simpa [D.plain] using p)
    omega
  | _, .ref _, p => by simp [D.plain] at p
  | _, .fn _, p => by simp [D.plain] at p
  | _, .ty _, p => by simp [D.plain] at p
theorem plain_depths : ∀ (n : Nat) (ds : List D), plainL n ds = true → PyData.depthAll (toPys ds) ≤ n
  | _, [], _ => by simp [toPys, PyData.depthAll]
  | n, x :: xs, p => by
    rw [plainL, Bool.and_eq_true] at p
    rw [toPys, PyData.depthAll]
    have h1 := plain_depth n x p.1
    have h2 := plain_depths n xs p.2
    omega
end
theorem plain_shaped {d : D} (p : D.plain 62 d = true) : SeqAt.shaped (toPy d) = true := by
  unfold SeqAt.shaped
  rw [plain_can 62 d p]
  have := plain_depth 62 d p
  simp
  omega
mutual
theorem eqv_py : ∀ (n : Nat) (x y : D), D.plain n x = true → D.plain n y = true → PyData.eqv (toPy x) (toPy y) = D.eqv x y
  | n, x, y, p, q => by
    cases x <;> cases y <;> first
      | (simp only [D.plain] at p; done)
      | (simp [D.plain] at p; done)
      | (simp [D.plain] at q; done)
      | (simp only [toPy, PyData.eqv, D.eqv]; done)
      | (simp only [toPy, PyData.eqv, D.eqv]; rfl)
      | skip
    case tup.tup xs ys =>
      cases n with
      | zero => simp [D.plain] at p
      | succ n =>
        simp only [toPy, PyData.eqv, D.eqv]
        exact eqv_pys n xs ys (by simpa [D.plain] using p) (by simpa [D.plain] using q)
    all_goals (simp only [toPy, PyData.eqv, D.eqv]; first | rfl | (simp; done) | skip)
theorem eqv_pys : ∀ (n : Nat) (xs ys : List D), plainL n xs = true → plainL n ys = true → PyData.eqvAll (toPys xs) (toPys ys) = eqvL xs ys
  | _, [], [], _, _ => by simp only [toPys, PyData.eqvAll, eqvL]
  | _, [], _ :: _, _, _ => by simp only [toPys, PyData.eqvAll, eqvL]
  | _, _ :: _, [], _, _ => by simp only [toPys, PyData.eqvAll, eqvL]
  | n, x :: xs, y :: ys, p, q => by
    rw [plainL, Bool.and_eq_true] at p q
    rw [toPys, toPys, PyData.eqvAll, eqvL, eqv_py n x y p.1 q.1, eqv_pys n xs ys p.2 q.2]
end
end T2
namespace T2
open PySem PySem.Spec PyProof.Rows
open L2 (V Hp HO upd upd_same upd_ne SqL SqT Rd RelV Vals PE PT PW PA PS PSs PI PG PGs Cx Inv Sp Room FnOk Binds VK XK WX Takes OpR CallR Cls)
variable {c : Cs}
theorem rEq_cases {x y : D} {h : DH} {Q : QD} (q : rEq x y h Q) : (∃ i j, x = .int i ∧ y = .int j ∧ Q (.bl (decide (i = j))) h) ∨ (∃ i j, x = .str i ∧ y = .str j ∧ Q (.bl (decide (i = j))) h) ∨
    (∃ i j, x = .bl i ∧ y = .bl j ∧ Q (.bl (i == j)) h) ∨
    (∃ a b xs ys, x = .ref a ∧ y = .ref b ∧ seqAt h a = some xs ∧ seqAt h b = some ys ∧ D.plain 62 (.tup xs) = true ∧ D.plain 62 (.tup ys) = true ∧ Q (.bl (eqvL xs ys)) h) ∨
    (D.plain 62 x = true ∧ D.plain 62 y = true ∧ Q (.bl (D.eqv x y)) h) := by
  cases x <;> cases y <;> first
    | exact .inr (.inr (.inr (.inr q)))
    | exact .inl ⟨_, _, rfl, rfl, q⟩
    | exact .inr (.inl ⟨_, _, rfl, rfl, q⟩)
    | exact .inr (.inr (.inl ⟨_, _, rfl, rfl, q⟩))
    | skip
  rename_i a b
  unfold rEq at q
  dsimp only at q
  split at q
  · rename_i xs ys e1 e2
    exact .inr (.inr (.inr (.inl ⟨a, b, xs, ys, rfl, rfl, e1, e2, q⟩)))
  · exact q.elim
theorem rEq_mono {x y : D} {h : DH} {Q Q' : QD} (k : ∀ b h, Q (.bl b) h → Q' (.bl b) h) (q : rEq x y h Q) : rEq x y h Q' := by
  cases x <;> cases y <;> first
    | exact k _ _ q
    | exact ⟨q.1, q.2.1, k _ _ q.2.2⟩
    | skip
  rename_i a b
  unfold rEq at q ⊢
  dsimp only at q ⊢
  split at q
  · exact ⟨q.1, q.2.1, k _ _ q.2.2⟩
  · exact q.elim
theorem eq_run {neg : Bool} {op : CmpOp} (hs : ∀ (l : Lx) (X : Cx), XOk c l X → OpR X (compareOp op) (fun x y H Q => L2.scal x y = true ∧ Q (.bl (if neg then !decide (x = y) else decide (x = y))) H))
    (hd : ∀ (l : Lx) (X : Cx), XOk c l X → OpR X (compareOp op) (fun x y H Q => ∃ d e, L2.Dp c.K H x d ∧ L2.Dp c.K H y e ∧ SeqAt.shaped d = true ∧ SeqAt.shaped e = true ∧ Q (.bl (if neg then !PyData.eqv d e else PyData.eqv d e)) H))
    (l : Lx) (X : Cx) (ok : XOk c l X) : OpR X (compareOp op) (lift2 c fun x y h Q => rEq x y h fun d h' => match d with
      | .bl b => Q (.bl (if neg then !b else b)) h'
      | _ => False) := by
  intro pins s σ H x y v u Q I rx ry z
  obtain ⟨dx, dy, h, r1, r2, sm, q⟩ := z
  rcases rEq_cases q with ⟨i, j, rfl, rfl, q⟩ | ⟨i, j, rfl, rfl, q⟩ | ⟨i, j, rfl, rfl, q⟩ | ⟨a, b, xs, ys, rfl, rfl, e1, e2, p1, p2, q⟩ | ⟨p1, p2, q⟩
  · cases r1
    cases r2
    refine hs l X ok pins s σ H _ _ v u Q I rx ry ⟨rfl, ?_⟩
    have e : decide (V.int i = V.int j) = decide (i = j) := by simp
    rw [e]
    exact q (.bl _) H Ex.rfl (.bl _) sm
  · cases r1
    cases r2
    refine hs l X ok pins s σ H _ _ v u Q I rx ry ⟨rfl, ?_⟩
    have e : decide (V.str i = V.str j) = decide (i = j) := by simp
    rw [e]
    exact q (.bl _) H Ex.rfl (.bl _) sm
  · cases r1
    cases r2
    refine hs l X ok pins s σ H _ _ v u Q I rx ry ⟨rfl, ?_⟩
    rw [L2.dec_bl]
    exact q (.bl _) H Ex.rfl (.bl _) sm
  · cases r1
    cases r2
    obtain ⟨vs, f1, g1⟩ := sm.seq e1
    obtain ⟨ws, f2, g2⟩ := sm.seq e2
    have p1' : plainL 61 xs = true := by simpa [D.plain] using p1
    have p2' : plainL 61 ys = true := by simpa [D.plain] using p2
    have sh : ∀ {zs : List D}, plainL 61 zs = true → SeqAt.shaped (.list (toPys zs)) = true := fun {zs} p => by
      unfold SeqAt.shaped
      have h1 := plain_cans 61 zs p
      have h2 := plain_depths 61 zs p
      rw [PyData.canLay0, h1, PyData.depth]
      simp
      omega
    refine hd l X ok pins s σ H _ _ v u Q I rx ry ⟨.list (toPys xs), .list (toPys ys), .lst f1 (plain_dps 61 xs vs p1' g1), .lst f2 (plain_dps 61 ys ws p2' g2), sh p1', sh p2', ?_⟩
    rw [PyData.eqv, eqv_pys 61 xs ys p1' p2']
    exact q (.bl _) H Ex.rfl (.bl _) sm
  · refine hd l X ok pins s σ H _ _ v u Q I rx ry ⟨toPy dx, toPy dy, plain_dp 62 dx x p1 r1, plain_dp 62 dy y p2 r2, plain_shaped p1, plain_shaped p2, ?_⟩
    rw [eqv_py 62 dx dy p1 p2]
    exact q (.bl _) H Ex.rfl (.bl _) sm
theorem op2_eq : Op2 c (compareOp .Eq) rEq where
  mono := fun x y h Q Q' k q => rEq_mono (fun b h => k _ _) q
  run := fun l X ok => by
    have key := eq_run (c := c) (neg := false) (op := .Eq) (fun l X ok => L2.op_eq) (fun l X ok => by
      have := L2.op_eqD (X := X) ok.room.units
      rw [← ok.K]
      exact this) l X ok
    intro pins s σ H x y v u Q I rx ry z
    obtain ⟨dx, dy, h, r1, r2, sm, q⟩ := z
    exact key pins s σ H x y v u Q I rx ry ⟨dx, dy, h, r1, r2, sm, rEq_mono (fun b h z => z) q⟩
theorem op2_ne : Op2 c (compareOp .NotEq) rNe where
  mono := fun x y h Q Q' k q => rEq_mono (fun b h z => k _ _ z) q
  run := fun l X ok => by
    have key := eq_run (c := c) (neg := true) (op := .NotEq) (fun l X ok => L2.op_ne) (fun l X ok => by
      have := L2.op_neD (X := X) ok.room.units
      rw [← ok.K]
      exact this) l X ok
    intro pins s σ H x y v u Q I rx ry z
    obtain ⟨dx, dy, h, r1, r2, sm, q⟩ := z
    exact key pins s σ H x y v u Q I rx ry ⟨dx, dy, h, r1, r2, sm, rEq_mono (fun b h z => z) q⟩
/-! keys -/
theorem Rep.key {H : Hp} {d : D} {v : V} {k : Ky} (r : Rep c H d v) (e : key? d = some k) : v = L2.kV k := by
  cases r <;> simp [key?] at e
  all_goals (subst e; rfl)
theorem Reps.keys {H : Hp} : ∀ {ds : List D} {vs : List V} {ks : List Ky}, Reps c H ds vs → keys? ds = some ks → vs = ks.map L2.kV
  | _, _, ks, .nil, e => by
    simp [keys?] at e
    subst e
    rfl
  | d :: ds, v :: vs, ks, .cons q r, e => by
    unfold keys? at e
    split at e
    · rename_i k ks' e1 e2
      cases e
      rw [List.map_cons, Rep.key q e1, Reps.keys r e2]
    · cases e
section
variable {κ : Type} [DecidableEq κ] {H : Hp}
theorem repK_get (k : κ) : ∀ {kvs : List (κ × D)} {ws : List (κ × V)}, RepK c H kvs ws →
    (getK kvs k = none ∧ L2.valV ws k = none) ∨ ∃ d v, getK kvs k = some d ∧ L2.valV ws k = some v ∧ Rep c H d v
  | _, _, .nil => .inl ⟨rfl, rfl⟩
  | (q, d) :: kvs, (q', v) :: ws, .cons h r => by
    obtain ⟨h1, h2⟩ := h
    dsimp only at h1 h2
    subst h1
    by_cases e : q = k
    · refine .inr ⟨d, v, by simp [getK, e], ?_, h2⟩
      rw [L2.valV_pos (p := (q, v)) e]
    · rw [L2.valV_neg (p := (q, v)) e]
      rcases repK_get k r with ⟨a, b⟩ | ⟨d', v', a, b, z⟩
      · exact .inl ⟨by simp [getK, e, a], b⟩
      · exact .inr ⟨d', v', by simp [getK, e, a], b, z⟩
theorem repK_any (k : κ) : ∀ {kvs : List (κ × D)} {ws : List (κ × V)}, RepK c H kvs ws → (kvs.any fun p => decide (p.1 = k)) = (ws.any fun p => decide (p.1 = k))
  | _, _, .nil => rfl
  | (q, d) :: kvs, (q', v) :: ws, .cons h r => by
    obtain ⟨h1, h2⟩ := h
    dsimp only at h1 h2
    subst h1
    rw [List.any_cons, List.any_cons, repK_any k r]
theorem repK_map (k : κ) {d : D} {v : V} (rv : Rep c H d v) : ∀ {kvs : List (κ × D)} {ws : List (κ × V)}, RepK c H kvs ws → RepK c H (kvs.map fun p => if p.1 = k then (p.1, d) else p) (ws.map fun p => if p.1 = k then (p.1, v) else p)
  | _, _, .nil => .nil
  | (q, e) :: kvs, (q', w) :: ws, .cons h r => by
    obtain ⟨h1, h2⟩ := h
    dsimp only at h1 h2
    subst h1
    refine .cons ?_ (repK_map k rv r)
    dsimp only
    split
    · exact ⟨rfl, rv⟩
    · exact ⟨rfl, h2⟩
theorem repK_snoc {k : κ} {d : D} {v : V} (rv : Rep c H d v) : ∀ {kvs : List (κ × D)} {ws : List (κ × V)}, RepK c H kvs ws → RepK c H (kvs ++ [(k, d)]) (ws ++ [(k, v)])
  | _, _, .nil => .cons ⟨rfl, rv⟩ .nil
  | _, _, .cons h r => .cons h (repK_snoc rv r)
theorem repK_set {k : κ} {d : D} {v : V} (rv : Rep c H d v) {kvs : List (κ × D)} {ws : List (κ × V)} (r : RepK c H kvs ws) : RepK c H (setK kvs k d) (L2.putK ws k v) := by
  unfold setK L2.putK
  rw [repK_any k r]
  split
  · exact repK_map k rv r
  · exact repK_snoc rv r
theorem repK_len : ∀ {kvs : List (κ × D)} {ws : List (κ × V)}, RepK c H kvs ws → kvs.length = ws.length
  | _, _, .nil => rfl
  | _, _, .cons _ r => congrArg (· + 1) (repK_len r)
theorem repK_del (k : κ) : ∀ {kvs : List (κ × D)} {ws : List (κ × V)}, RepK c H kvs ws → RepK c H (delK kvs k) (L2.dropK ws k)
  | _, _, .nil => .nil
  | (q, d) :: kvs, (q', v) :: ws, .cons h r => by
    obtain ⟨h1, h2⟩ := h
    dsimp only at h1 h2
    subst h1
    unfold delK L2.dropK
    by_cases e : q = k
    · simp only [e, if_true, List.filter_cons, ne_eq, not_true, decide_false, Bool.false_eq_true, if_false]
      exact repK_del k r
    · rw [if_neg e, List.filter_cons, if_pos (by simp [e])]
      exact .cons ⟨rfl, h2⟩ (repK_del k r)
end
/-! in -/
theorem Rep.flat {H : Hp} {d : D} {v : V} (r : Rep c H d v) (f : T2.flat d = true) : L2.flatV v = true := by
  cases r <;> simp [T2.flat] at f <;> rfl
theorem Reps.flats {H : Hp} : ∀ {ds : List D} {vs : List V}, Reps c H ds vs → T2.flats ds = true → vs.all L2.flatV = true
  | _, _, .nil, _ => rfl
  | d :: ds, v :: vs, .cons q r, f => by
    unfold T2.flats at f
    rw [List.all_cons, Bool.and_eq_true] at f
    rw [List.all_cons, Rep.flat q f.1, Reps.flats r f.2]
    rfl
theorem eqV_eq {H : Hp} {d e : D} {v w : V} (r : Rep c H d v) (q : Rep c H e w) (f : T2.flat d = true) (g : T2.flat e = true) : L2.eqV v w = D.eqv d e := by
  cases r <;> simp [T2.flat] at f <;> cases q <;> simp [T2.flat] at g <;> simp [L2.eqV, D.eqv]
  all_goals (first | rfl | (rw [beq_eq_decide]; done) | (simp [beq_eq_decide]; done) | skip)
theorem inV_eq {H : Hp} {d : D} {v : V} (r : Rep c H d v) (f : T2.flat d = true) : ∀ {ds : List D} {vs : List V}, Reps c H ds vs → T2.flats ds = true → L2.inV v vs = inL d ds
  | _, _, .nil, _ => rfl
  | e :: ds, w :: vs, .cons q t, g => by
    unfold T2.flats at g
    rw [List.all_cons, Bool.and_eq_true] at g
    have ih := inV_eq r f t g.2
    unfold L2.inV inL at ih ⊢
    rw [List.any_cons, List.any_cons, ih, eqV_eq q r g.1 f]
end T2
namespace T2
open PySem PySem.Spec PyProof.Rows
open L2 (V Hp HO upd upd_same upd_ne SqL SqT Rd RelV Vals PE PT PW PA PS PSs PI PG PGs Cx Inv Sp Room FnOk Binds VK XK WX Takes OpR CallR Cls)
variable {c : Cs}
theorem rIn_cases {x y : D} {h : DH} {Q : QD} (q : rIn x y h Q) :
    (∃ w z k, x = .str w ∧ y = .str z ∧ w.cps.toList = [k] ∧ Q (.bl (decide (k ∈ z.cps.toList))) h) ∨
    (∃ ys, y = .tup ys ∧ flat x = true ∧ flats ys = true ∧ Q (.bl (inL x ys)) h) ∨
    (∃ a ys, y = .ref a ∧ seqAt h a = some ys ∧ flat x = true ∧ flats ys = true ∧ Q (.bl (inL x ys)) h) ∨
    (∃ a kvs k, y = .ref a ∧ h.f a = some (.dk kvs) ∧ key? x = some k ∧ Q (.bl (getK kvs k).isSome) h) ∨
    (∃ a kvs xs k, y = .ref a ∧ h.f a = some (.dt kvs) ∧ x = .tup xs ∧ keys? xs = some k ∧ Q (.bl (getK kvs k).isSome) h) := by
  unfold rIn at q
  split at q
  · rename_i z
    split at q
    · rename_i w
      split at q
      · rename_i k e
        exact .inl ⟨w, z, k, rfl, rfl, e, q⟩
      · exact q.elim
    · exact q.elim
  · rename_i ys
    exact .inr (.inl ⟨ys, rfl, q⟩)
  · rename_i a
    split at q
    · rename_i ys e
      exact .inr (.inr (.inl ⟨a, ys, rfl, by unfold seqAt; rw [e], q⟩))
    · rename_i ys e
      exact .inr (.inr (.inl ⟨a, ys, rfl, by unfold seqAt; rw [e], q⟩))
    · rename_i kvs e
      split at q
      · rename_i k e2
        exact .inr (.inr (.inr (.inl ⟨a, kvs, k, rfl, e, e2, q⟩)))
      · exact q.elim
    · rename_i kvs e
      split at q
      · rename_i xs
        split at q
        · rename_i k e2
          exact .inr (.inr (.inr (.inr ⟨a, kvs, xs, k, rfl, e, rfl, e2, q⟩)))
        · exact q.elim
      · exact q.elim
    · exact q.elim
  · exact q.elim
theorem rIn_mono {x y : D} {h : DH} {Q Q' : QD} (k : ∀ b h, Q (.bl b) h → Q' (.bl b) h) (q : rIn x y h Q) : rIn x y h Q' := by
  unfold rIn at q ⊢
  repeat' split at q
  all_goals first
    | exact q.elim
    | exact k _ _ q
    | exact ⟨q.1, q.2.1, k _ _ q.2.2⟩
    | (simp only [*]; first | exact k _ _ q | exact ⟨q.1, q.2.1, k _ _ q.2.2⟩)
theorem sign_of {w : Str} {k : Nat} (e : w.cps.toList = [k]) : w = ⟨#[k]⟩ := by
  obtain ⟨cps⟩ := w
  have : cps = #[k] := by
    apply Array.toList_inj.mp
    exact e
  rw [this]
theorem units1 {l : Lx} {X : Cx} (ok : XOk c l X) : X.A.units + 1 < cLine := by
  have := ok.room.units
  omega
theorem dget_dk {h : DH} {H : Hp} {a : Addr} {x : D} {v : V} {kvs : List (Ky × D)} {k : Ky} (sm : SimH c h H) (e : h.f a = some (.dk kvs)) (r : Rep c H x v) (ek : key? x = some k) :
    ∃ o, L2.DGet H a v o ∧ RepO c H (getK kvs k) o ∧ o.isSome = (getK kvs k).isSome := by
  obtain ⟨ws, f, g⟩ := sm a _ e
  refine ⟨L2.valV ws k, .inl ⟨ws, k, .inl f, r.key ek, rfl⟩, ?_⟩
  rcases repK_get k g with ⟨h1, h2⟩ | ⟨d, w, h1, h2, h3⟩
  · rw [h1, h2]
    exact ⟨trivial, rfl⟩
  · rw [h1, h2]
    exact ⟨h3, rfl⟩
theorem dget_dt {h : DH} {H : Hp} {a : Addr} {xs : List D} {v : V} {kvs : List (List Ky × D)} {k : List Ky} (sm : SimH c h H) (e : h.f a = some (.dt kvs)) (r : Rep c H (.tup xs) v) (ek : keys? xs = some k) :
    ∃ o, L2.DGet H a v o ∧ RepO c H (getK kvs k) o ∧ o.isSome = (getK kvs k).isSome := by
  obtain ⟨ws, f, g⟩ := sm a _ e
  cases r with
  | tup q r =>
    have := r.keys ek
    subst this
    refine ⟨L2.valV ws k, .inr ⟨ws, k, _, .inl f, rfl, q, rfl⟩, ?_⟩
    rcases repK_get k g with ⟨h1, h2⟩ | ⟨d, w, h1, h2, h3⟩
    · rw [h1, h2]
      exact ⟨trivial, rfl⟩
    · rw [h1, h2]
      exact ⟨h3, rfl⟩
theorem op2_in : Op2 c (compareOp .In) rIn where
  mono := fun x y h Q Q' k q => rIn_mono (fun b h => k _ _) q
  run := fun l X ok pins s σ H x y v u Q I rx ry z => by
    obtain ⟨dx, dy, h, r1, r2, sm, q⟩ := z
    rcases rIn_cases q with ⟨w, z, k, rfl, rfl, e, q⟩ | ⟨ys, rfl, f1, f2, q⟩ | ⟨a, ys, rfl, e, f1, f2, q⟩ | ⟨a, kvs, k, rfl, e, ek, q⟩ | ⟨a, kvs, xs, k, rfl, e, rfl, ek, q⟩
    · cases r1
      cases r2
      have := sign_of e
      subst this
      exact L2.op_in_sign pins s σ H _ _ v u Q I rx ry ⟨k, z, rfl, rfl, q (.bl _) H Ex.rfl (.bl _) sm⟩
    · cases r2 with
      | tup q2 g2 =>
        refine L2.op_in_seq pins s σ H _ _ v u Q I rx ry ⟨_, _, rfl, .inr (SqT.of q2), r1.flat f1, g2.flats f2, ?_⟩
        rw [inV_eq r1 f1 g2 f2]
        exact q (.bl _) H Ex.rfl (.bl _) sm
    · cases r2
      obtain ⟨vs, q2, g2⟩ := sm.seq e
      refine L2.op_in_seq pins s σ H _ _ v u Q I rx ry ⟨_, _, rfl, .inl (by rw [ok.K]; exact q2), r1.flat f1, g2.flats f2, ?_⟩
      rw [inV_eq r1 f1 g2 f2]
      exact q (.bl _) H Ex.rfl (.bl _) sm
    · cases r2
      obtain ⟨o, g, _, e3⟩ := dget_dk sm e r1 ek
      cases ry
      refine L2.d_in (units1 ok) I g rx fun s3 I3 => ⟨.bl o.isSome, H, I3, rfl, ?_⟩
      rw [e3]
      exact q (.bl _) H Ex.rfl (.bl _) sm
    · cases r2
      obtain ⟨o, g, _, e3⟩ := dget_dt sm e r1 ek
      cases ry
      refine L2.d_in (units1 ok) I g rx fun s3 I3 => ⟨.bl o.isSome, H, I3, rfl, ?_⟩
      rw [e3]
      exact q (.bl _) H Ex.rfl (.bl _) sm
theorem op2_notIn : Op2 c (compareOp .NotIn) rNotIn where
  mono := fun x y h Q Q' k q => rIn_mono (fun b h z => k _ _ z) q
  run := fun l X ok pins s σ H x y v u Q I rx ry z => by
    obtain ⟨dx, dy, h, r1, r2, sm, q⟩ := z
    rcases rIn_cases q with ⟨w, z, k, rfl, rfl, e, q⟩ | ⟨ys, rfl, f1, f2, q⟩ | ⟨a, ys, rfl, e, f1, f2, q⟩ | ⟨a, kvs, k, rfl, e, ek, q⟩ | ⟨a, kvs, xs, k, rfl, e, rfl, ek, q⟩
    · cases r1
      cases r2
      have := sign_of e
      subst this
      exact L2.op_notIn_sign pins s σ H _ _ v u Q I rx ry ⟨k, z, rfl, rfl, q (.bl _) H Ex.rfl (.bl _) sm⟩
    · cases r2 with
      | tup q2 g2 =>
        refine L2.op_notIn_seq pins s σ H _ _ v u Q I rx ry ⟨_, _, rfl, .inr (SqT.of q2), r1.flat f1, g2.flats f2, ?_⟩
        rw [inV_eq r1 f1 g2 f2]
        exact q (.bl _) H Ex.rfl (.bl _) sm
    · cases r2
      obtain ⟨vs, q2, g2⟩ := sm.seq e
      refine L2.op_notIn_seq pins s σ H _ _ v u Q I rx ry ⟨_, _, rfl, .inl (by rw [ok.K]; exact q2), r1.flat f1, g2.flats f2, ?_⟩
      rw [inV_eq r1 f1 g2 f2]
      exact q (.bl _) H Ex.rfl (.bl _) sm
    · cases r2
      obtain ⟨o, g, _, e3⟩ := dget_dk sm e r1 ek
      cases ry
      refine L2.d_notIn (units1 ok) I g rx fun s3 I3 => ⟨.bl (!o.isSome), H, I3, rfl, ?_⟩
      rw [e3]
      exact q (.bl _) H Ex.rfl (.bl _) sm
    · cases r2
      obtain ⟨o, g, _, e3⟩ := dget_dt sm e r1 ek
      cases ry
      refine L2.d_notIn (units1 ok) I g rx fun s3 I3 => ⟨.bl (!o.isSome), H, I3, rfl, ?_⟩
      rw [e3]
      exact q (.bl _) H Ex.rfl (.bl _) sm
/-! subscripts -/
theorem nth_at {α : Type} {xs : List α} {i : Int} {d : α} (e : nth xs i = some d) : ∃ j : Nat, L2.ixN xs.length i = some j ∧ xs[j]? = some d := by
  unfold nth at e
  unfold L2.ixN
  split at e
  · split at e
    · cases e
    · rename_i h1 h2
      refine ⟨((xs.length : Int) + i).toNat, ?_, e⟩
      rw [if_neg (by omega), if_pos (by omega), Int.add_comm]
  · rename_i h1
    have h2 : i.toNat < xs.length := (List.getElem?_eq_some_iff.mp e).1
    exact ⟨i.toNat, by rw [if_pos (by omega), if_pos (by omega)], e⟩
theorem Reps.nth {H : Hp} {ds : List D} {vs : List V} {i : Int} {d : D} (r : Reps c H ds vs) (e : T2.nth ds i = some d) : ∃ v, L2.atI vs i = some v ∧ Rep c H d v := by
  obtain ⟨j, h1, h2⟩ := nth_at e
  obtain ⟨v, h3, h4⟩ := r.get h2
  refine ⟨v, ?_, h4⟩
  unfold L2.atI
  rw [← r.length, h1]
  exact h3
theorem place_ix {n : Nat} {i : Int} {j : Nat} (e : placeOf n i = some j) : L2.ixN n i = some j ∧ j < n := by
  unfold placeOf at e
  unfold L2.ixN
  split at e
  · split at e
    · cases e
    · rename_i h1 h2
      cases e
      exact ⟨by rw [if_neg (by omega), if_pos (by omega), Int.add_comm], by omega⟩
  · split at e
    · rename_i h1 h2
      cases e
      exact ⟨by rw [if_pos (by omega), if_pos (by omega)], by omega⟩
    · cases e
theorem ix_dict {X : Cx} (hu : X.A.units + 1 < cLine) : L2.IxR X (fun x y H Q => ∃ a v, x = .ref a ∧ L2.DGet H a y (some v) ∧ Q v H) := by
  intro value slice pins s σ H x y v u Q I rx ry z hs
  obtain ⟨a, w, rfl, g, q⟩ := z
  cases rx
  have hT := L2.dict_typeIs I g
  unfold subscriptTail
  refine wpAny_bind ?_
  rw [getitemInPython_of_ne (L2.dict_typeIs I g).not_modules]
  refine wpAny_bind (wpAny_specialOf hT PySem.F.slot_dict_getitem.lookup ?_)
  have h3 : wpAny (model X.prog X.w) X.A (getItem (.ref a) u) (L2.EP X pins σ Q) X.xe s := L2.d_getItem hu I g ry fun w' s3 I3 rw' => ⟨w, H, I3, rw', q⟩
  have fin : wpAny (model X.prog X.w) X.A (subscripted slice false (.ref a) u) (fun r s₃ => wpAny (model X.prog X.w) X.A (letTemporaryGo value (.ref a) r >>= fun _ => pure r) (L2.EP X pins σ Q) X.xe s₃) X.xe s := by
    rw [hs]
    exact wpAny_operating (wpAny_mono h3 (fun r s₃ h₃ => wpAny_bind (wpAny_letTemporaryGo (wpAny_pure h₃))) fun _ _ x => x)
  first | (exact wpAny_pure (wpAny_bind fin)) | (exact wpAny_bind (wpAny_pure (wpAny_bind fin))) | (exact wpAny_bind fin)
theorem ixSeq_cases {xs : List D} {y : D} {h : DH} {Q : QD} (q : ixSeq xs y h Q) : ∃ i d, y = .int i ∧ nth xs i = some d ∧ Q d h := by
  cases y with
  | int i =>
    unfold ixSeq at q
    dsimp only at q
    split at q
    · rename_i d e
      exact ⟨i, d, rfl, e, q⟩
    · exact q.elim
  | _ => exact False.elim q
theorem ixSeq_int {xs : List D} {i : Int} {d : D} {h : DH} {Q : QD} (e : nth xs i = some d) (q : Q d h) : ixSeq xs (.int i) h Q := by
  unfold ixSeq
  dsimp only
  rw [e]
  exact q
theorem rIx_cases {x y : D} {h : DH} {Q : QD} (q : rIx x y h Q) :
    (∃ xs i d, x = .tup xs ∧ y = .int i ∧ nth xs i = some d ∧ Q d h) ∨
    (∃ z i k, x = .str z ∧ y = .int i ∧ z.length ≤ sizeLine ∧ nth z.cps.toList i = some k ∧ Q (.str ⟨#[k]⟩) h) ∨
    (∃ a xs i d, x = .ref a ∧ y = .int i ∧ seqAt h a = some xs ∧ nth xs i = some d ∧ Q d h) ∨
    (∃ a kvs k d, x = .ref a ∧ h.f a = some (.dk kvs) ∧ key? y = some k ∧ getK kvs k = some d ∧ Q d h) ∨
    (∃ a kvs ys k d, x = .ref a ∧ h.f a = some (.dt kvs) ∧ y = .tup ys ∧ keys? ys = some k ∧ getK kvs k = some d ∧ Q d h) := by
  cases x with
  | tup xs => exact .inl (let ⟨i, d, e1, e2, q⟩ := ixSeq_cases q; ⟨xs, i, d, rfl, e1, e2, q⟩)
  | str z =>
    cases y with
    | int i =>
      unfold rIx at q
      dsimp only at q
      obtain ⟨q1, q⟩ := q
      split at q
      · rename_i k e
        exact .inr (.inl ⟨z, i, k, rfl, rfl, q1, e, q⟩)
      · exact q.elim
    | _ => exact False.elim q.2
  | ref a =>
    unfold rIx at q
    dsimp only at q
    cases e : h.f a with
    | none =>
      rw [e] at q
      exact False.elim q
    | some o =>
      rw [e] at q
      cases o with
      | lst xs => exact .inr (.inr (.inl (let ⟨i, d, e1, e2, q⟩ := ixSeq_cases q; ⟨a, xs, i, d, rfl, e1, by unfold seqAt; rw [e], e2, q⟩)))
      | frz xs => exact .inr (.inr (.inl (let ⟨i, d, e1, e2, q⟩ := ixSeq_cases q; ⟨a, xs, i, d, rfl, e1, by unfold seqAt; rw [e], e2, q⟩)))
      | dk kvs =>
        dsimp only at q
        split at q
        · rename_i k e2
          split at q
          · rename_i d e3
            exact .inr (.inr (.inr (.inl ⟨a, kvs, k, d, rfl, e, e2, e3, q⟩)))
          · exact q.elim
        · exact q.elim
      | dt kvs =>
        cases y with
        | tup ys =>
          dsimp only at q
          split at q
          · rename_i k e2
            split at q
            · rename_i d e3
              exact .inr (.inr (.inr (.inr ⟨a, kvs, ys, k, d, rfl, e, rfl, e2, e3, q⟩)))
            · exact q.elim
          · exact q.elim
        | _ => exact False.elim q
      | ins _ _ => exact False.elim q
  | _ => exact False.elim q
theorem rIx_mono {x y : D} {h : DH} {Q Q' : QD} (k : ∀ d h, Q d h → Q' d h) (q : rIx x y h Q) : rIx x y h Q' := by
  rcases rIx_cases q with ⟨xs, i, d, rfl, rfl, e, q⟩ | ⟨z, i, n, rfl, rfl, hz, e, q⟩ | ⟨a, xs, i, d, rfl, rfl, e, e2, q⟩ | ⟨a, kvs, n, d, rfl, e, ek, eg, q⟩ | ⟨a, kvs, ys, n, d, rfl, e, rfl, ek, eg, q⟩
  · exact ixSeq_int e (k _ _ q)
  · unfold rIx
    dsimp only
    rw [e]
    exact ⟨hz, k _ _ q⟩
  · unfold rIx
    dsimp only
    unfold seqAt at e
    split at e
    · rename_i zs ez
      cases e
      rw [ez]
      exact ixSeq_int e2 (k _ _ q)
    · rename_i zs ez
      cases e
      rw [ez]
      exact ixSeq_int e2 (k _ _ q)
    · cases e
  · unfold rIx
    dsimp only
    rw [e]
    dsimp only
    rw [ek]
    dsimp only
    rw [eg]
    exact k _ _ q
  · unfold rIx
    dsimp only
    rw [e]
    dsimp only
    rw [ek]
    dsimp only
    rw [eg]
    exact k _ _ q
theorem mo_ix : Mo2 rIx := fun x y h Q Q' k q => rIx_mono k q
theorem ix_run {l : Lx} {X : Cx} (ok : XOk c l X) : L2.IxR X (lift2 c rIx) := by
  intro value slice pins s σ H x y v u Q I rx ry z hs
  obtain ⟨dx, dy, h, r1, r2, sm, q⟩ := z
  rcases rIx_cases q with ⟨xs, i, d, rfl, rfl, e, q⟩ | ⟨z, i, k, rfl, rfl, hz, e, q⟩ | ⟨a, xs, i, d, rfl, rfl, e, e2, q⟩ | ⟨a, kvs, k, d, rfl, e, ek, eg, q⟩ | ⟨a, kvs, ys, k, d, rfl, e, rfl, ek, eg, q⟩
  · cases r2
    cases r1 with
    | tup q1 g1 =>
      obtain ⟨w, h1, h2⟩ := g1.nth e
      exact L2.ix_tup value slice pins s σ H _ _ v u Q I rx ry ⟨_, _, i, w, rfl, rfl, SqT.of q1, h1, q w H Ex.rfl h2 sm⟩ hs
  · cases r2
    cases r1
    obtain ⟨j, h1, h2⟩ := nth_at e
    exact L2.ix_str value slice pins s σ H _ _ v u Q I rx ry ⟨z, i, k, rfl, rfl, hz, by unfold L2.atI; rw [h1]; exact h2, q _ H Ex.rfl (.str _) sm⟩ hs
  · cases r2
    cases r1
    obtain ⟨vs, q1, g1⟩ := sm.seq e
    obtain ⟨w, h1, h2⟩ := g1.nth e2
    exact L2.ix_list value slice pins s σ H _ _ v u Q I rx ry ⟨a, vs, i, w, rfl, rfl, by rw [ok.K]; exact q1, h1, q w H Ex.rfl h2 sm⟩ hs
  · cases r1
    obtain ⟨o, g, h1, h2⟩ := dget_dk sm e r2 ek
    rw [eg] at h1 h2
    cases o with
    | none => cases h2
    | some w => exact ix_dict (units1 ok) value slice pins s σ H _ _ v u Q I rx ry ⟨a, w, rfl, g, q w H Ex.rfl h1 sm⟩ hs
  · cases r1
    obtain ⟨o, g, h1, h2⟩ := dget_dt sm e r2 ek
    rw [eg] at h1 h2
    cases o with
    | none => cases h2
    | some w => exact ix_dict (units1 ok) value slice pins s σ H _ _ v u Q I rx ry ⟨a, w, rfl, g, q w H Ex.rfl h1 sm⟩ hs
section
variable {l : Lx} {a b e e' : Expr} {ta tb tc te te' : EE} {pos : Pos}
theorem de_ix (ha : DE c l a ta) (hb : DE c l b tb) (hs : L2.PlainIx b := by exact fun _ _ => rfl) : DE c l (.Subscript a b pos) (eBin rIx ta tb) where
  mono := mono_bin mo_ix ha hb
  run := fun X ok W tk => pe_imp (L2.pe_ix (ix_run ok) (ha.run X ok W tk) (hb.run X ok W tk) hs) fun σ H Q q => lift_bin mo_ix ha hb q
/-! slices -/
structure DO (c : Cs) (l : Lx) (e : Option Expr) (t : OO) : Prop where
  mono : ∀ {σ : S} {h : DH} {Q Q' : Option Int → DH → Prop} {E E' : QX}, (∀ d h, Q d h → Q' d h) → (∀ x h, E x h → E' x h) → t σ h Q E → t σ h Q' E'
  run : ∀ (X : Cx), XOk c l X → ∀ W : WX, Takes X W → L2.PO X e (fun σ H Q => ∃ σd h, Sim c σd h σ H ∧ t σd h (fun o h' => ∀ H', Ex c H H' → Sim c σd h' σ H' → Q o H')
    (fun x h' => ∀ cls d H', Ex c H H' → ExcR c H' x cls d → Sim c σd h' σ H' → W cls d σ H'))
theorem do_none : DO c l none oNone where
  mono := fun k _ q => k _ _ q
  run := fun X ok W tk => ⟨fun pins s σ H Q I ⟨σd, h, s', q⟩ => L2.po_none.run pins s σ H Q I (q H Ex.rfl s')⟩
theorem do_some (ha : DE c l a ta) : DO c l (some a) (oSome ta) where
  mono := fun {σ h Q Q' E E'} k kE q => ha.mono (fun d h' z => by
    cases d <;> first | exact k _ _ z | exact z.elim) kE q
  run := fun X ok W tk => ⟨fun pins s σ H Q I ⟨σd, h, s', q⟩ => (L2.po_some (ha.run X ok W tk)).run pins s σ H Q I (by
    refine liftE_seq ha s' Ex.rfl q (fun x h' z => z) fun d h1 v H1 q1 e1 r1 s1 e1' => ?_
    cases r1 <;> first | exact q1.elim | exact ⟨_, rfl, q1 H1 e1 s1⟩)⟩
theorem clamp_ix (n d : Nat) (o : Option Int) : HT.sIx n d o = clampI n d o := by
  cases o <;> rfl
theorem Reps.cut {H : Hp} {ds : List D} {vs : List V} (r : Reps c H ds vs) (lo hi : Option Int) : Reps c H (T2.cut ds lo hi) (L2.cutV vs lo hi) := by
  unfold T2.cut L2.cutV
  simp only [clamp_ix]
  rw [r.length]
  exact (r.drop _).take _
theorem cut_all {xs : List D} {lo hi : Option Int} (h1 : clampI xs.length 0 lo = 0) (h2 : clampI xs.length xs.length hi = xs.length) : T2.cut xs lo hi = xs := by
  unfold T2.cut
  rw [h1, h2]
  simp
theorem de_sl {lo hi : Option Expr} {tl th : OO} {p2 : Pos} (ha : DE c l a ta) (hl : DO c l lo tl) (hh : DO c l hi th) : DE c l (.Subscript a (.Slice lo hi none p2) pos) (eSl ta tl th) where
  mono := fun {σ h Q Q' E E'} k kE q => ha.mono (fun x h1 q1 => hl.mono (fun o h2 q2 => hh.mono (fun u h3 q3 => by
    unfold rSl at q3 ⊢
    split at q3
    · exact k _ _ q3
    · split at q3
      · exact fun p hp => k _ _ (q3 p hp)
      · exact q3
    · exact q3) kE q2) kE q1) kE q
  run := fun X ok W tk => by
    have hK := ok.K
    refine pe_imp (L2.pe_slice (L2.SlR.or L2.sl_tupA L2.sl_list) (ha.run X ok W tk) (hl.run X ok W tk) (hh.run X ok W tk)) fun σ H Q ⟨σd, h, s, q⟩ => ?_
    refine liftE_seq ha s Ex.rfl q (fun x h' z => z) fun d h1 v H1 q1 e1 r1 s1 e1' => ?_
    refine ⟨σd, h1, s1, hl.mono (fun o h2 q2 H2 e2 s2 => ?_) (fun x h' z cls d H' e' => z cls d H' (e1.trans e')) q1⟩
    refine ⟨σd, h2, s2, hh.mono (fun o h3 q3 H3 e3 s3 => ?_) (fun x h' z cls d H' e' => z cls d H' ((e1.trans e2).trans e')) q2⟩
    have r3 := r1.ex (e2.trans e3)
    have e4 := (e1.trans e2).trans e3
    unfold rSl at q3
    split at q3
    · rename_i xs
      cases r3 with
      | tup q4 g4 =>
        refine .inl ⟨_, _, rfl, SqT.of q4, fun z => ?_, fun z p hp => ?_⟩
        · rw [clamp_ix, clamp_ix, ← g4.length] at z
          rw [cut_all z.1 z.2] at q3
          exact q3 _ H3 e4 (.tup q4 g4) s3
        · exact q3 _ _ (e4.trans (.new hp)) (Rep.newT hp (g4.cut _ _)) (s3.ex (.new hp) (s3.cells.keep hp))
    · rename_i a'
      split at q3
      · rename_i xs e5
        cases r3
        obtain ⟨vs, q5, g5⟩ := s3.cells.seq e5
        refine .inr ⟨a', vs, rfl, by rw [hK]; exact q5, fun p hp => ?_⟩
        exact q3 p (s3.cells.fresh hp) _ _ (e4.trans (.new hp)) (.ref p) (s3.ex (.new hp) (s3.cells.newL hp (g5.cut _ _)))
      · exact q3.elim
    · exact q3.elim
end
end T2
namespace T2
open PySem PySem.Spec PyProof.Rows
open L2 (V Hp HO upd upd_same upd_ne SqL SqT Rd RelV Vals PE PT PW PA PS PSs PI PG PGs Cx Inv Sp Room FnOk Binds VK XK WX Takes OpR CallR Cls)
variable {c : Cs} {l : Lx} {a b d e : Expr} {es : List Expr} {ta tb td te : EE} {pos : Pos}
theorem de_neg (ha : DE c l a ta) : DE c l (.UnaryOp .USub a pos) (eUn rNeg ta) where
  mono := fun k kE q => ha.mono (fun x h1 q1 => by
    cases x <;> first | exact k _ _ q1 | exact q1.elim) kE q
  run := fun X ok W tk => pe_imp (L2.pe_un L2.un_neg (ha.run X ok W tk)) fun σ H Q ⟨σd, h, s, q⟩ => by
    refine liftE_seq ha s Ex.rfl q (fun x h' z => z) fun d h1 v H1 q1 e1 r1 s1 e1' => ?_
    cases r1 <;> first | exact q1.elim | exact ⟨_, rfl, q1 _ H1 e1 (.int _) s1⟩
/-! truth -/
theorem tru_mono {x : D} {h : DH} {Q Q' : Bool → Prop} (k : ∀ b, Q b → Q' b) (q : tru x h Q) : tru x h Q' := by
  cases x with
  | non => exact k _ q
  | bl b => exact k _ q
  | int i => exact k _ q
  | str z => exact ⟨q.1, k _ q.2⟩
  | tup xs => exact k _ q
  | ref a =>
    unfold tru at q ⊢
    dsimp only at q ⊢
    split at q <;> first | exact k _ q | exact q.elim
  | fn _ => exact q
  | ty _ => exact q
theorem isEmpty_len {α β : Type} {xs : List α} {ys : List β} (e : xs.length = ys.length) : xs.isEmpty = ys.isEmpty := by
  cases xs <;> cases ys <;> simp at e <;> rfl
theorem tru_v {x : D} {v : V} {h : DH} {H : Hp} {Q : Bool → Prop} (r : Rep c H x v) (s : SimH c h H) (q : tru x h Q) : ∃ k, L2.TruV c.K v H k ∧ Q k := by
  cases r with
  | non => exact ⟨false, rfl, q⟩
  | bl b => exact ⟨b, rfl, q⟩
  | int i => exact ⟨_, by show _ = (i != 0); by_cases e : i = 0 <;> simp [bne, e], q⟩
  | str z =>
    refine ⟨_, ⟨q.1, ?_⟩, q.2⟩
    show (!decide (z.length = 0)) = ((z.length : Int) != 0)
    by_cases e : z.length = 0 <;> simp [bne, e]
  | tup q1 g1 =>
    refine ⟨_, .inr (.inl ⟨_, SqT.of q1, ?_⟩), q⟩
    rw [isEmpty_len g1.length]
  | ref a =>
    unfold tru at q
    dsimp only at q
    split at q
    · rename_i xs e
      obtain ⟨vs, f, g⟩ := s a _ e
      exact ⟨_, .inl ⟨vs, SqL.of f, by rw [isEmpty_len g.length]⟩, q⟩
    · rename_i xs e
      obtain ⟨vs, f, g⟩ := s a _ e
      exact ⟨_, .inl ⟨vs, .inl f, by rw [isEmpty_len g.length]⟩, q⟩
    · rename_i kvs e
      obtain ⟨ws, f, g⟩ := s a _ e
      exact ⟨_, .inr (.inr ⟨ws, f, by rw [isEmpty_len (repK_len g)]⟩), q⟩
    · exact q.elim
  | fn i => exact q.elim
  | ty t => exact q.elim
theorem mono_bE (ha : DE c l a ta) {σ : S} {h : DH} {Q Q' : Bool → DH → Prop} {E E' : QX} (k : ∀ d h, Q d h → Q' d h) (kE : ∀ x h, E x h → E' x h) (q : bE ta σ h Q E) : bE ta σ h Q' E' :=
  ha.mono (fun x h1 q1 => tru_mono (fun b z => k _ _ z) q1) kE q
theorem db_e (ha : DE c l a ta) (he : ∀ env whole, isTrue a env whole = (do let v ← whole; standAt a.pos; holding [v] (truthy v)) := by exact fun _ _ => rfl) : DB c l a (bE ta) where
  mono := mono_bE ha
  run := fun X ok W tk => pt_imp (L2.pt_truth (ha.run X ok W tk) (he X.env)) fun σ H Q ⟨σd, h, s, q⟩ => by
    refine liftE_seq ha s Ex.rfl q (fun x h' z => z) fun d h1 v H1 q1 e1 r1 s1 e1' => ?_
    obtain ⟨k, h2, h3⟩ := tru_v r1 s1.cells q1
    exact ⟨k, by rw [ok.K]; exact h2, h3 H1 e1 s1⟩
/-- what a comparison gives is a truth value -/
def Bo2 (r : R2) : Prop := ∀ x y h Q, r x y h Q → r x y h fun d h' => (∃ b, d = .bl b) ∧ Q d h'
theorem bo_lt : Bo2 rLt := fun x y h Q q => by
  cases x <;> cases y <;> first | exact ⟨⟨_, rfl⟩, q⟩ | exact q.elim | skip
  unfold rLt at q ⊢
  dsimp only at q ⊢
  split at q
  · exact ⟨⟨_, rfl⟩, q⟩
  · exact q.elim
theorem bo_le : Bo2 rLe := fun x y h Q q => by
  cases x <;> cases y <;> first | exact ⟨⟨_, rfl⟩, q⟩ | exact q.elim
theorem bo_gt : Bo2 rGt := fun x y h Q q => by
  cases x <;> cases y <;> first | exact ⟨⟨_, rfl⟩, q⟩ | exact q.elim
theorem bo_ge : Bo2 rGe := fun x y h Q q => by
  cases x <;> cases y <;> first | exact ⟨⟨_, rfl⟩, q⟩ | exact q.elim
theorem bo_is : Bo2 rIs := fun x y h Q q => by
  cases y <;> first | (unfold rIs at q ⊢; exact ⟨⟨_, rfl⟩, q⟩) | (unfold rIs at q; exact q.elim)
theorem bo_isNot : Bo2 rIsNot := fun x y h Q q => by
  cases y <;> first | (unfold rIsNot at q ⊢; exact ⟨⟨_, rfl⟩, q⟩) | (unfold rIsNot at q; exact q.elim)
theorem bo_eq : Bo2 rEq := fun x y h Q q => rEq_mono (fun b h z => ⟨⟨b, rfl⟩, z⟩) q
theorem bo_ne : Bo2 rNe := fun x y h Q q => rEq_mono (fun b h z => ⟨⟨!b, rfl⟩, z⟩) q
theorem bo_in : Bo2 rIn := fun x y h Q q => rIn_mono (fun b h z => ⟨⟨b, rfl⟩, z⟩) q
theorem bo_notIn : Bo2 rNotIn := fun x y h Q q => rIn_mono (fun b h z => ⟨⟨!b, rfl⟩, z⟩) q
theorem db_cmp {op : CmpOp} {r : R2} (o : Op2 c (compareOp op) r) (bo : Bo2 r) (ha : DE c l a ta) (hb : DE c l b tb) (hm : behindInMarks op b = false := by rfl) : DB c l (.Compare a [op] [b] pos) (bE (eBin r ta tb)) where
  mono := mono_bE (de_cmp (pos := pos) o ha hb hm)
  run := fun X ok W tk => pt_imp (L2.pt_cmpR (o.run l X ok) (ha.run X ok W tk) (hb.run X ok W tk) hm) fun σ H Q ⟨σd, h, s, q⟩ => by
    have q2 : eBin r ta tb σd h (fun x h1 => (∃ b, x = .bl b) ∧ tru x h1 fun k => ∀ H', Ex c H H' → Sim c σd h1 σ H' → Q k H') (fun x h' => ∀ cls d H', Ex c H H' → ExcR c H' x cls d → Sim c σd h' σ H' → W cls d σ H') :=
      ha.mono (fun x h1 z => hb.mono (fun y h2 z => bo _ _ _ _ z) (fun _ _ z => z) z) (fun _ _ z => z) q
    refine lift_bin o.mono ha hb (Q := fun x H' => ∃ k, x = .bl k ∧ Q k H') (W := W) ⟨σd, h, s, mono_bin o.mono ha hb (fun x h1 z v H' e1 r1 s1 => ?_) (fun _ _ z => z) q2⟩
    obtain ⟨⟨k, rfl⟩, z⟩ := z
    cases r1
    exact ⟨k, rfl, z H' e1 s1⟩
theorem db_not {t : BB} (ha : DB c l a t) : DB c l (.UnaryOp .Not a pos) (bNot t) where
  mono := fun k kE q => ha.mono (fun b h z => k _ _ z) kE q
  run := fun X ok W tk => pt_imp (L2.pt_not (ha.run X ok W tk)) fun σ H Q ⟨σd, h, s, q⟩ => ⟨σd, h, s, q⟩
section
variable {t u : BB} {rest : List Expr}
theorem dw_and1 (ha : DB c l a t) : DW c l (.BoolOp .And [a] pos) t := ⟨ha.mono, fun X ok W tk => L2.pw_and1 (ha.run X ok W tk)⟩
theorem dw_or1 (ha : DB c l a t) : DW c l (.BoolOp .Or [a] pos) t := ⟨ha.mono, fun X ok W tk => L2.pw_or1 (ha.run X ok W tk)⟩
theorem dw_and (ha : DB c l a t) (hb : DW c l (.BoolOp .And (b :: rest) pos) u) : DW c l (.BoolOp .And (a :: b :: rest) pos) (bAnd t u) where
  mono := fun {σ h Q Q' E E'} k kE q => ha.mono (fun b h1 z => by
    cases b
    · exact k _ _ z
    · exact hb.mono k kE z) kE q
  run := fun X ok W tk => pw_imp (L2.pw_and (ha.run X ok W tk) (hb.run X ok W tk)) fun σ H Q ⟨σd, h, s, q⟩ => by
    refine ⟨σd, h, s, ha.mono (fun k h1 z H1 e1 s1 => ?_) (fun _ _ z => z) q⟩
    cases k with
    | false => exact z H1 e1 s1
    | true => exact ⟨σd, h1, s1, hb.mono (fun k h2 z H2 e2 s2 => z H2 (e1.trans e2) s2) (fun x h2 z cls d H2 e2 => z cls d H2 (e1.trans e2)) z⟩
theorem dw_or (ha : DB c l a t) (hb : DW c l (.BoolOp .Or (b :: rest) pos) u) : DW c l (.BoolOp .Or (a :: b :: rest) pos) (bOr t u) where
  mono := fun {σ h Q Q' E E'} k kE q => ha.mono (fun b h1 z => by
    cases b
    · exact hb.mono k kE z
    · exact k _ _ z) kE q
  run := fun X ok W tk => pw_imp (L2.pw_or (ha.run X ok W tk) (hb.run X ok W tk)) fun σ H Q ⟨σd, h, s, q⟩ => by
    refine ⟨σd, h, s, ha.mono (fun k h1 z H1 e1 s1 => ?_) (fun _ _ z => z) q⟩
    cases k with
    | true => exact z H1 e1 s1
    | false => exact ⟨σd, h1, s1, hb.mono (fun k h2 z H2 e2 s2 => z H2 (e1.trans e2) s2) (fun x h2 z cls d H2 e2 => z cls d H2 (e1.trans e2)) z⟩
theorem db_w (h : DW c l e t) : DB c l e t := ⟨h.mono, fun X ok W tk => (h.run X ok W tk).pt⟩
theorem de_one {op : BoolOp} (ha : DE c l a ta) : DE c l (.BoolOp op [a] pos) ta := ⟨ha.mono, fun X ok W tk => L2.pe_one (ha.run X ok W tk)⟩
theorem de_and (ha : DE c l a ta) (hb : DE c l (.BoolOp .And (b :: rest) pos) tb) : DE c l (.BoolOp .And (a :: b :: rest) pos) (eAnd ta tb) where
  mono := fun {σ h Q Q' E E'} k kE q => ha.mono (fun x h1 z => tru_mono (fun b z => by
    cases b
    · exact k _ _ z
    · exact hb.mono k kE z) z) kE q
  run := fun X ok W tk => pe_imp (L2.pe_andT (ha.run X ok W tk) (hb.run X ok W tk)) fun σ H Q ⟨σd, h, s, q⟩ => by
    refine liftE_seq ha s Ex.rfl q (fun x h' z => z) fun d h1 v H1 q1 e1 r1 s1 e1' => ?_
    obtain ⟨k, h2, h3⟩ := tru_v r1 s1.cells q1
    refine ⟨k, by rw [ok.K]; exact h2, ?_⟩
    cases k with
    | false => exact h3 v H1 e1 r1 s1
    | true => exact liftE_seq hb s1 e1 h3 (fun x h' z => z) fun d2 h2 v2 H2 q2 e2 r2 s2 _ => q2 v2 H2 e2 r2 s2
theorem de_or (ha : DE c l a ta) (hb : DE c l (.BoolOp .Or (b :: rest) pos) tb) : DE c l (.BoolOp .Or (a :: b :: rest) pos) (eOr ta tb) where
  mono := fun {σ h Q Q' E E'} k kE q => ha.mono (fun x h1 z => tru_mono (fun b z => by
    cases b
    · exact hb.mono k kE z
    · exact k _ _ z) z) kE q
  run := fun X ok W tk => pe_imp (L2.pe_orT (ha.run X ok W tk) (hb.run X ok W tk)) fun σ H Q ⟨σd, h, s, q⟩ => by
    refine liftE_seq ha s Ex.rfl q (fun x h' z => z) fun d h1 v H1 q1 e1 r1 s1 e1' => ?_
    obtain ⟨k, h2, h3⟩ := tru_v r1 s1.cells q1
    refine ⟨k, by rw [ok.K]; exact h2, ?_⟩
    cases k with
    | true => exact h3 v H1 e1 r1 s1
    | false => exact liftE_seq hb s1 e1 h3 (fun x h' z => z) fun d2 h2 v2 H2 q2 e2 r2 s2 _ => q2 v2 H2 e2 r2 s2
end
theorem de_not (ha : DE c l a ta) : DE c l (.UnaryOp .Not a pos) (eNot ta) where
  mono := fun {σ h Q Q' E E'} k kE q => ha.mono (fun x h1 z => tru_mono (fun b z => k _ _ z) z) kE q
  run := fun X ok W tk => pe_imp (L2.pe_notT (ha.run X ok W tk)) fun σ H Q ⟨σd, h, s, q⟩ => by
    refine liftE_seq ha s Ex.rfl q (fun x h' z => z) fun d h1 v H1 q1 e1 r1 s1 e1' => ?_
    obtain ⟨k, h2, h3⟩ := tru_v r1 s1.cells q1
    exact ⟨k, by rw [ok.K]; exact h2, h3 _ H1 e1 (.bl _) s1⟩
theorem de_ifx {t : BB} (ht : DB c l d t) (ha : DE c l a ta) (hb : DE c l b tb) : DE c l (.IfExp d a b pos) (eIf t ta tb) where
  mono := fun {σ h Q Q' E E'} k kE q => ht.mono (fun x h1 z => by
    cases x
    · exact hb.mono k kE z
    · exact ha.mono k kE z) kE q
  run := fun X ok W tk => pe_imp (L2.pe_ifExp (ht.run X ok W tk) (ha.run X ok W tk) (hb.run X ok W tk)) fun σ H Q ⟨σd, h, s, q⟩ => by
    refine ⟨σd, h, s, ht.mono (fun k h1 z H1 e1 s1 => ?_) (fun _ _ z => z) q⟩
    cases k with
    | true => exact liftE_seq ha s1 e1 z (fun x h' z => z) fun d2 h2 v2 H2 q2 e2 r2 s2 _ => q2 v2 H2 e2 r2 s2
    | false => exact liftE_seq hb s1 e1 z (fun x h' z => z) fun d2 h2 v2 H2 q2 e2 r2 s2 _ => q2 v2 H2 e2 r2 s2
/-! a < b < c -/
theorem mono_chain {r r' : R2} (m : Mo2 r) (m' : Mo2 r') (ha : DE c l a ta) (hb : DE c l b tb) (hd : DE c l d td) {σ : S} {h : DH} {Q Q' : QD} {E E' : QX} (k : ∀ d h, Q d h → Q' d h) (kE : ∀ x h, E x h → E' x h) (q : eChain r r' ta tb td σ h Q E) : eChain r r' ta tb td σ h Q' E' :=
  ha.mono (fun x h1 z => hb.mono (fun y h2 z => m _ _ _ _ _ (fun w h3 z => by
    cases w with
    | bl b =>
      cases b
      · exact k _ _ z
      · exact hd.mono (fun _ _ z => m' _ _ _ _ _ k z) kE z
    | _ => exact z.elim) z) kE z) kE q
theorem lift_chain {W : WX} {r r' : R2} (m : Mo2 r) (m' : Mo2 r') (ha : DE c l a ta) (hb : DE c l b tb) (hd : DE c l d td) {σ : L2.St} {H : Hp} {Q : VK} (q : liftE c (eChain r r' ta tb td) W σ H Q) :
    L2.tChain (lift2 c r) (lift2 c r') (liftE c ta W) (liftE c tb W) (liftE c td W) σ H Q := by
  obtain ⟨σd, h, s, q⟩ := q
  refine liftE_seq ha s Ex.rfl q (fun x h' z => z) fun d1 h1 v1 H1 q1 e1 r1 s1 e1' => ?_
  refine liftE_seq hb s1 e1 q1 (fun x h' z => z) fun d2 h2 v2 H2 q2 e2 r2 s2 e2' => ?_
  refine ⟨d1, d2, h2, r1.ex e2', r2, s2.cells, m _ _ _ _ _ (fun d3 h3 z v3 H3 e3 r3 s3 => ?_) q2⟩
  cases r3 with
  | bl k =>
    refine ⟨k, rfl, ?_⟩
    cases k with
    | false => exact z _ H3 (e2.trans e3) (.bl false) (s2.ex e3 s3)
    | true => exact liftE_seq hd (s2.ex e3 s3) (e2.trans e3) z (fun x h' z => z) fun d4 h4 v4 H4 q4 e4 r4 s4 e4' =>
        ⟨d2, d4, h4, r2.ex (e3.trans e4'), r4, s4.cells, m' _ _ _ _ _ (fun d5 h5 z v5 H5 e5 r5 s5 => z v5 H5 (e4.trans e5) r5 (s4.ex e5 s5)) q4⟩
  | _ => exact z.elim
theorem de_chain {op op' : CmpOp} {r r' : R2} (o : Op2 c (compareOp op) r) (o' : Op2 c (compareOp op') r') (ha : DE c l a ta) (hb : DE c l b tb) (hd : DE c l d td) (hm : lastMarks [op, op'] [b, d] = false := by with_unfolding_all rfl) :
    DE c l (.Compare a [op, op'] [b, d] pos) (eChain r r' ta tb td) where
  mono := mono_chain o.mono o'.mono ha hb hd
  run := fun X ok W tk => pe_imp (L2.pe_chain (o.run l X ok) (o'.run l X ok) (ha.run X ok W tk) (hb.run X ok W tk) (hd.run X ok W tk) hm) fun σ H Q q => lift_chain o.mono o'.mono ha hb hd q
theorem db_chain {op op' : CmpOp} {r r' : R2} (o : Op2 c (compareOp op) r) (o' : Op2 c (compareOp op') r') (bo' : Bo2 r') (ha : DE c l a ta) (hb : DE c l b tb) (hd : DE c l d td) (hm : lastMarks [op, op'] [b, d] = false := by with_unfolding_all rfl) :
    DB c l (.Compare a [op, op'] [b, d] pos) (bE (eChain r r' ta tb td)) where
  mono := mono_bE (de_chain (pos := pos) o o' ha hb hd hm)
  run := fun X ok W tk => pt_imp (L2.pt_chain (o.run l X ok) (o'.run l X ok) (ha.run X ok W tk) (hb.run X ok W tk) (hd.run X ok W tk) hm) fun σ H Q ⟨σd, h, s, q⟩ => by
    have q2 : eChain r r' ta tb td σd h (fun x h1 => (∃ b, x = .bl b) ∧ tru x h1 fun k => ∀ H', Ex c H H' → Sim c σd h1 σ H' → Q k H') (fun x h' => ∀ cls d H', Ex c H H' → ExcR c H' x cls d → Sim c σd h' σ H' → W cls d σ H') :=
      ha.mono (fun x h1 z => hb.mono (fun y h2 z => o.mono _ _ _ _ _ (fun w h3 z => by
        cases w with
        | bl b =>
          cases b
          · exact ⟨⟨false, rfl⟩, z⟩
          · exact hd.mono (fun _ _ z => bo' _ _ _ _ z) (fun _ _ z => z) z
        | _ => exact z.elim) z) (fun _ _ z => z) z) (fun _ _ z => z) q
    refine lift_chain o.mono o'.mono ha hb hd (Q := fun x H' => ∃ k, x = .bl k ∧ Q k H') (W := W) ⟨σd, h, s, mono_chain o.mono o'.mono ha hb hd (fun x h1 z v H' e1 r1 s1 => ?_) (fun _ _ z => z) q2⟩
    obtain ⟨⟨k, rfl⟩, z⟩ := z
    cases r1
    exact ⟨k, rfl, z H' e1 s1⟩
/-! arguments -/
theorem da_nil : DA c l [] aNil where
  mono := fun k _ q => k _ _ q
  run := fun X ok W tk => pa_imp L2.pa_nil fun σ H Q ⟨σd, h, s, q⟩ => q [] H rfl Ex.rfl .nil s
theorem da_cons {t : AA} (ha : DE c l e te) (hr : DA c l es t) (hs : ∀ env, starEach (e :: es) env = (false, eval e env) :: starEach es env := by exact fun _ => rfl) : DA c l (e :: es) (aCons te t) where
  mono := fun k kE q => ha.mono (fun x h1 z => hr.mono (fun xs h2 z => k _ _ z) kE z) kE q
  run := fun X ok W tk => pa_imp (L2.pa_cons (ha.run X ok W tk) (hr.run X ok W tk) (hs X.env)) fun σ H Q ⟨σd, h, s, q⟩ => by
    refine liftE_seq ha s Ex.rfl q (fun x h' z => z) fun d1 h1 v1 H1 q1 e1 r1 s1 e1' => ?_
    refine ⟨σd, h1, s1, hr.mono (fun ds h2 z vs H2 hl e2 r2 s2 => ?_) (fun x h2 z cls d H2 e2 => z cls d H2 (e1.trans e2)) q1⟩
    exact z (v1 :: vs) H2 (by simp [hl]) (e1.trans e2) (.cons (r1.ex e2) r2) s2
theorem de_tup {t : AA} {x1 : Nat} (ha : DA c l es t) (hl : es.length ≤ 1000 := by decide) : DE c l (.Tuple es x1 pos) (eTup t) where
  mono := fun k kE q => ha.mono (fun xs h1 z => k _ _ z) kE q
  run := fun X ok W tk => pe_imp (L2.pe_tup (ha.run X ok W tk)) fun σ H Q ⟨σd, h, s, q⟩ =>
    ⟨σd, h, s, ha.mono (fun ds h1 z vs H1 hv e1 r1 s1 => ⟨by rw [hv, sizeLine_eq]; omega, fun p hp => z _ _ (e1.trans (.new hp)) (Rep.newT hp r1) (s1.ex (.new hp) (s1.cells.keep hp))⟩) (fun _ _ z => z) q⟩
theorem de_lst {t : AA} (ha : DA c l es t) (hl : es.length ≤ 1000 := by decide) : DE c l (.List es pos) (eLst t) where
  mono := fun k kE q => ha.mono (fun xs h1 z p hp => k _ _ (z p hp)) kE q
  run := fun X ok W tk => pe_imp (L2.pe_lst (ha.run X ok W tk)) fun σ H Q ⟨σd, h, s, q⟩ =>
    ⟨σd, h, s, ha.mono (fun ds h1 z vs H1 hv e1 r1 s1 => ⟨by rw [hv, sizeLine_eq]; omega, fun p hp => z p (s1.cells.fresh hp) _ _ (e1.trans (.new hp)) (.ref p) (s1.ex (.new hp) (s1.cells.newL hp r1))⟩) (fun _ _ z => z) q⟩
/-! calls -/
def MoF (f : FnSem) : Prop := ∀ ds h Q Q' E E', (∀ d h, Q d h → Q' d h) → (∀ x h, E x h → E' x h) → f ds h Q E → f ds h Q' E'
/-- the i-th def: it stands where it stands and does what cal says -/
structure FnAt (c : Cs) (l : Lx) (i np : Nat) : Prop where
  ex : ∃ fd ps, FnOk c.P c.w c.K c.mg c.base (L2.CX c.P c.w) l.n (c.fa i) fd ps (spL c (l.cal i) np) ∧ Binds c.K fd ps []
  kp : PySem.W.keepIn c.K (.ref (c.fa i)) = true
  mo : MoF (l.cal i)
theorem de_call {i : Nat} {x : Str} {t : AA} {p : Pos} (F : FnAt c l i (e :: es).length) (hm : c.mg x = some (.ref (c.fa i))) (hg : l.sc.names.lookup x = some .globalImplicit) (ha : DA c l (e :: es) t) (hdb : (x == ("__debug__" : Str)) = false := by decide)
    (he : ∀ env, starEach (e :: es) env = (false, eval e env) :: starEach es env := by exact fun _ => rfl) (hpl : ∀ env, (backTo pos (starEach es env)).any (·.1) = false := by exact fun _ => rfl) :
    DE c l (.Call (.Name x p) (e :: es) [] pos) (eCall (l.cal i) t) where
  mono := fun k kE q => ha.mono (fun xs h1 z => F.mo _ _ _ _ _ _ k kE z) kE q
  run := fun X ok W tk => by
    obtain ⟨⟨fd, ps, FO, B⟩, kp, mo⟩ := F
    have hP := ok.P
    have hw := ok.w
    have hK := ok.K
    have hmg := ok.mg
    have hb := ok.base
    rw [← hP, ← hw, ← hK, ← hmg, ← hb] at FO
    rw [← hK] at B kp
    refine pe_imp (L2.pe_callSD (E := fun σ cls d H' => W cls d σ H') FO ok.room (by show X.env.scope.names.lookup x = _; rw [ok.sc]; exact hg) (by rw [ok.mg]; exact hm) kp B .nil (fun σ => L2.passAt tk σ) (ha.run X ok W tk) hdb (he X.env) (hpl X.env)) fun σ H Q ⟨σd, h, s, q⟩ => ?_
    refine ⟨σd, h, s, ha.mono (fun ds h1 z vs H1 hv e1 r1 s1 => ?_) (fun _ _ z => z) q⟩
    show spL c (l.cal i) (e :: es).length (vs ++ []) H1 Q _
    rw [List.append_nil]
    exact ⟨ds, h1, r1, s1.cells, hv, mo _ _ _ _ _ _ (fun d h2 z v H2 e2 r2 s2 => z v H2 (e1.trans e2) r2 (s1.ex e2 s2)) (fun x h2 z cls d H2 e2 r2 s2 => z cls d H2 (e1.trans e2) r2 (s1.ex e2 s2)) z⟩
/-- a call of what a name holds -/
theorem de_callV {i : Nat} {x : Str} {t : AA} {p : Pos} {ok' : Nat → Bool} (F : ∀ k, ok' k = true → FnAt c l k (e :: es).length) (hN : l.N[i]? = some x) (hv : L2.Vis l.sc x) (ha : DA c l (e :: es) t)
    (hdb : (x == ("__debug__" : Str)) = false := by decide) (hcd : (x == ("__classdict__" : Str)) = false := by decide)
    (he : ∀ env, starEach (e :: es) env = (false, eval e env) :: starEach es env := by exact fun _ => rfl) (hpl : ∀ env, (backTo pos (starEach es env)).any (·.1) = false := by exact fun _ => rfl) :
    DE c l (.Call (.Name x p) (e :: es) [] pos) (eCallV i ok' l.cal t) where
  mono := fun {σ h Q Q' E E'} k kE q => by
    unfold eCallV at q ⊢
    split at q
    · rename_i j _
      exact ⟨q.1, ha.mono (fun xs h1 z => (F j q.1).mo _ _ _ _ _ _ k kE z) kE q.2⟩
    · exact q.elim
  run := fun X ok W tk => ⟨fun pins s σ H Q I ⟨σd, h, sm, q⟩ => by
    unfold eCallV at q
    split at q
    rotate_left
    · exact q.elim
    rename_i j ej
    obtain ⟨qj, q⟩ := q
    obtain ⟨v, ev, rv⟩ := sm.slot i _ ej
    cases rv
    obtain ⟨⟨fd, ps, FO, B⟩, kp, mo⟩ := F j qj
    rw [← ok.P, ← ok.w, ← ok.K, ← ok.mg, ← ok.base] at FO
    rw [← ok.K] at B kp
    refine wpAny_Call_Name_kw (L2.thn ((L2.pe_var (pos := p) (by rw [ok.N]; exact hN) (by rw [ok.sc]; exact hv) hdb hcd).run pins s σ H (fun v H1 => v = .ref (c.fa j) ∧ H1 = H) I ⟨_, ev, rfl, rfl⟩) fun u s1 ⟨v, H1, I1, r1, q1⟩ => ?_)
    obtain ⟨rfl, rfl⟩ := q1
    cases r1
    refine PySem.W.callWith_K (h₀ := X.base) I.ok.mod.kin kp (L2.thn ((ha.run X ok W tk).run pos pins s1 σ _ (fun vs H2 => spL c (l.cal j) (e :: es).length vs H2 Q fun cls d H' => W cls d σ H') I1 ?_) fun us s2 ⟨vs, H2, I2, r, q⟩ => ⟨I2.kIn, ?_⟩) (he X.env) (hpl X.env)
    · refine ⟨σd, h, sm, ha.mono (fun ds h1 z vs H1 hv e1 r1 s1 => ?_) (fun _ _ z => z) q⟩
      exact ⟨ds, h1, r1, s1.cells, hv, mo _ _ _ _ _ _ (fun d h2 z v H2 e2 r2 s2 => z v H2 (e1.trans e2) r2 (s1.ex e2 s2)) (fun x h2 z cls d H2 e2 r2 s2 => z cls d H2 (e1.trans e2) r2 (s1.ex e2 s2)) z⟩
    · exact L2.run_fnSD (dvs := []) (E := fun σ cls d H' => W cls d σ H') FO ok.room B .nil (L2.passAt tk σ) I2 r (by rw [List.append_nil]; exact q)⟩
/-! built-ins -/
def liftL (c : Cs) (r : RL) : List V → Hp → VK → Prop := fun vs H Q => ∃ ds h, Reps c H ds vs ∧ SimH c h H ∧ r ds h fun d h' => ∀ v H', Ex c H H' → Rep c H' d v → SimH c h' H' → Q v H'
structure OpL (c : Cs) (f : Value) (r : RL) : Prop where
  mono : ∀ ds h Q Q', (∀ d h, Q d h → Q' d h) → r ds h Q → r ds h Q'
  run : ∀ (l : Lx) (X : Cx), XOk c l X → CallR X f (liftL c r)
theorem de_bi {x : Str} {id : String} {r : RL} {t : AA} {p : Pos} (o : OpL c (.builtin id) r) (hm : c.mg x = none) (hv : bootBuiltins x = some (.builtin id)) (hg : l.sc.names.lookup x = some .globalImplicit) (ha : DA c l (e :: es) t) (hn : x ≠ "__name__" := by decide) (hdb : (x == ("__debug__" : Str)) = false := by decide)
    (he : ∀ env, starEach (e :: es) env = (false, eval e env) :: starEach es env := by exact fun _ => rfl) (hpl : ∀ env, (backTo pos (starEach es env)).any (·.1) = false := by exact fun _ => rfl) : DE c l (.Call (.Name x p) (e :: es) [] pos) (eBi r t) where
  mono := fun k kE q => ha.mono (fun xs h1 z => o.mono _ _ _ _ k z) kE q
  run := fun X ok W tk => pe_imp (L2.pe_callB (o.run l X ok) (by show X.env.scope.names.lookup x = _; rw [ok.sc]; exact hg) (by rw [ok.mg]; exact hm) hv (ha.run X ok W tk) hn hdb (he X.env) (hpl X.env)) fun σ H Q ⟨σd, h, s, q⟩ =>
    ⟨σd, h, s, ha.mono (fun ds h1 z vs H1 hv e1 r1 s1 => ⟨ds, h1, r1, s1.cells, o.mono _ _ _ _ (fun d h2 z v H2 e2 r2 s2 => z v H2 (e1.trans e2) r2 (s1.ex e2 s2)) z⟩) (fun _ _ z => z) q⟩
theorem de_bty {x : Str} {T : String} {r : RL} {t : AA} {p : Pos} (o : OpL c (.type T) r) (hm : c.mg x = none) (hv : bootBuiltins x = some (.type T)) (hg : l.sc.names.lookup x = some .globalImplicit) (ha : DA c l (e :: es) t) (hn : x ≠ "__name__" := by decide) (hdb : (x == ("__debug__" : Str)) = false := by decide)
    (he : ∀ env, starEach (e :: es) env = (false, eval e env) :: starEach es env := by exact fun _ => rfl) (hpl : ∀ env, (backTo pos (starEach es env)).any (·.1) = false := by exact fun _ => rfl) : DE c l (.Call (.Name x p) (e :: es) [] pos) (eBi r t) where
  mono := fun k kE q => ha.mono (fun xs h1 z => o.mono _ _ _ _ k z) kE q
  run := fun X ok W tk => pe_imp (L2.pe_callTy (o.run l X ok) (by show X.env.scope.names.lookup x = _; rw [ok.sc]; exact hg) (by rw [ok.mg]; exact hm) hv (ha.run X ok W tk) hn hdb (he X.env) (hpl X.env)) fun σ H Q ⟨σd, h, s, q⟩ =>
    ⟨σd, h, s, ha.mono (fun ds h1 z vs H1 hv e1 r1 s1 => ⟨ds, h1, r1, s1.cells, o.mono _ _ _ _ (fun d h2 z v H2 e2 r2 s2 => z v H2 (e1.trans e2) r2 (s1.ex e2 s2)) z⟩) (fun _ _ z => z) q⟩
end T2
namespace T2
open PySem PySem.Spec PyProof.Rows
open L2 (V Hp HO upd upd_same upd_ne SqL SqT Rd RelV Vals PE PT PW PA PS PSs PI PG PGs Cx Inv Sp Room FnOk Binds VK XK WX Takes OpR CallR Cls)
variable {c : Cs} {l : Lx} {a b d e : Expr} {es : List Expr} {ta tb td te : EE} {pos : Pos}
theorem Reps.one {H : Hp} {d : D} {vs : List V} (r : Reps c H [d] vs) : ∃ v, vs = [v] ∧ Rep c H d v := by
  cases r with
  | cons q r =>
    cases r
    exact ⟨_, rfl, q⟩
theorem Reps.two {H : Hp} {d d' : D} {vs : List V} (r : Reps c H [d, d'] vs) : ∃ v w, vs = [v, w] ∧ Rep c H d v ∧ Rep c H d' w := by
  cases r with
  | cons q r =>
    cases r with
    | cons q' r =>
      cases r
      exact ⟨_, _, rfl, q, q'⟩
theorem opl_abs : OpL c (.builtin "abs") bAbs where
  mono := fun ds h Q Q' k q => by
    unfold bAbs at q ⊢
    split at q <;> first | exact k _ _ q | exact q.elim
  run := fun l X ok pins s σ H vs us Q I r z => by
    obtain ⟨ds, h, rs, sm, q⟩ := z
    unfold bAbs at q
    split at q
    · rename_i i
      obtain ⟨v, rfl, rv⟩ := rs.one
      cases rv
      exact L2.call_abs pins s σ H _ us Q I r ⟨i, rfl, q _ H Ex.rfl (.int _) sm⟩
    · exact q.elim
theorem opl_max2 : OpL c (.builtin "max") bMax2 where
  mono := fun ds h Q Q' k q => by
    unfold bMax2 at q ⊢
    split at q <;> first | exact k _ _ q | exact q.elim
  run := fun l X ok pins s σ H vs us Q I r z => by
    obtain ⟨ds, h, rs, sm, q⟩ := z
    unfold bMax2 at q
    split at q
    · rename_i i j
      obtain ⟨v, w, rfl, rv, rw⟩ := rs.two
      cases rv
      cases rw
      exact L2.call_max2 ok.calm pins s σ H _ us Q I r ⟨i, j, rfl, q _ H Ex.rfl (.int _) sm⟩
    · exact q.elim
theorem opl_min2 : OpL c (.builtin "min") bMin2 where
  mono := fun ds h Q Q' k q => by
    unfold bMin2 at q ⊢
    split at q <;> first | exact k _ _ q | exact q.elim
  run := fun l X ok pins s σ H vs us Q I r z => by
    obtain ⟨ds, h, rs, sm, q⟩ := z
    unfold bMin2 at q
    split at q
    · rename_i i j
      obtain ⟨v, w, rfl, rv, rw⟩ := rs.two
      cases rv
      cases rw
      exact L2.call_min2 ok.calm pins s σ H _ us Q I r ⟨i, j, rfl, q _ H Ex.rfl (.int _) sm⟩
    · exact q.elim
theorem opl_int : OpL c (.type "int") bInt where
  mono := fun ds h Q Q' k q => by
    unfold bInt at q ⊢
    split at q <;> first | exact k _ _ q | exact q.elim
  run := fun l X ok pins s σ H vs us Q I r z => by
    obtain ⟨ds, h, rs, sm, q⟩ := z
    unfold bInt at q
    split at q
    · rename_i i
      obtain ⟨v, rfl, rv⟩ := rs.one
      cases rv
      exact L2.call_int1 pins s σ H _ us Q I r (.inl ⟨i, rfl, q _ H Ex.rfl (.int _) sm⟩)
    · rename_i i
      obtain ⟨v, rfl, rv⟩ := rs.one
      cases rv
      exact L2.call_int1 pins s σ H _ us Q I r (.inr ⟨i, rfl, q _ H Ex.rfl (.int _) sm⟩)
    · exact q.elim
theorem opl_len : OpL c (.builtin "len") bLen where
  mono := fun ds h Q Q' k q => by
    unfold bLen at q ⊢
    split at q
    · exact k _ _ q
    · exact ⟨q.1, k _ _ q.2⟩
    · split at q <;> first | exact k _ _ q | exact q.elim
    · exact q.elim
  run := fun l X ok pins s σ H vs us Q I r z => by
    obtain ⟨ds, h, rs, sm, q⟩ := z
    unfold bLen at q
    split at q
    · rename_i xs
      obtain ⟨v, rfl, rv⟩ := rs.one
      cases rv with
      | tup q1 g1 =>
        refine L2.call_len_seq pins s σ H _ us Q I r ⟨_, _, rfl, .inr (SqT.of q1), ?_⟩
        rw [← g1.length]
        exact q _ H Ex.rfl (.int _) sm
    · rename_i x
      obtain ⟨v, rfl, rv⟩ := rs.one
      cases rv
      exact L2.call_len_str pins s σ H _ us Q I r ⟨x, rfl, q.1, q.2 _ H Ex.rfl (.int _) sm⟩
    · rename_i a
      obtain ⟨v, rfl, rv⟩ := rs.one
      cases rv
      split at q
      · rename_i xs e
        obtain ⟨ws, f, g⟩ := sm a _ e
        refine L2.call_len_seq pins s σ H _ us Q I r ⟨a, ws, rfl, .inl (SqL.of f), ?_⟩
        rw [← g.length]
        exact q _ H Ex.rfl (.int _) sm
      · rename_i xs e
        obtain ⟨ws, f, g⟩ := sm a _ e
        refine L2.call_len_seq pins s σ H _ us Q I r ⟨a, ws, rfl, .inl (.inl f), ?_⟩
        rw [← g.length]
        exact q _ H Ex.rfl (.int _) sm
      · rename_i kvs e
        obtain ⟨ws, f, g⟩ := sm a _ e
        refine L2.call_lenD pins s σ H _ us Q I r ⟨a, ws, rfl, f, ?_⟩
        rw [← repK_len g]
        exact q _ H Ex.rfl (.int _) sm
      · exact q.elim
    · exact q.elim
theorem opl_sum : OpL c (.builtin "sum") bSum where
  mono := fun ds h Q Q' k q => by
    unfold bSum at q ⊢
    split at q
    · split at q
      · split at q
        · exact k _ _ q
        · exact q.elim
      · exact q.elim
    · exact q.elim
  run := fun l X ok pins s σ H vs us Q I r z => by
    obtain ⟨ds, h, rs, sm, q⟩ := z
    unfold bSum at q
    split at q
    · rename_i a
      obtain ⟨v, rfl, rv⟩ := rs.one
      cases rv
      split at q
      · rename_i xs e
        obtain ⟨ws, f, g⟩ := sm.seq e
        split at q
        · rename_i ns e2
          have := g.ints e2
          subst this
          exact L2.cr_sum ok.calm pins s σ H _ us Q I r ⟨a, ns, rfl, by rw [ok.K]; exact f, q _ H Ex.rfl (.int _) sm⟩
        · exact q.elim
      · exact q.elim
    · exact q.elim
theorem opl_any : OpL c (.builtin "any") bAny where
  mono := fun ds h Q Q' k q => by
    unfold bAny at q ⊢
    split at q
    · split at q
      · split at q
        · exact k _ _ q
        · exact q.elim
      · exact q.elim
    · exact q.elim
  run := fun l X ok pins s σ H vs us Q I r z => by
    obtain ⟨ds, h, rs, sm, q⟩ := z
    unfold bAny at q
    split at q
    · rename_i a
      obtain ⟨v, rfl, rv⟩ := rs.one
      cases rv
      split at q
      · rename_i xs e
        obtain ⟨ws, f, g⟩ := sm.seq e
        split at q
        · rename_i ns e2
          have := g.bools e2
          subst this
          exact L2.cr_any ok.calm pins s σ H _ us Q I r ⟨a, ns, rfl, by rw [ok.K]; exact f, q _ H Ex.rfl (.bl _) sm⟩
        · exact q.elim
      · exact q.elim
    · exact q.elim
theorem opl_all : OpL c (.builtin "all") bAll where
  mono := fun ds h Q Q' k q => by
    unfold bAll at q ⊢
    split at q
    · split at q
      · split at q
        · exact k _ _ q
        · exact q.elim
      · exact q.elim
    · exact q.elim
  run := fun l X ok pins s σ H vs us Q I r z => by
    obtain ⟨ds, h, rs, sm, q⟩ := z
    unfold bAll at q
    split at q
    · rename_i a
      obtain ⟨v, rfl, rv⟩ := rs.one
      cases rv
      split at q
      · rename_i xs e
        obtain ⟨ws, f, g⟩ := sm.seq e
        split at q
        · rename_i ns e2
          have := g.bools e2
          subst this
          exact L2.cr_all ok.calm pins s σ H _ us Q I r ⟨a, ns, rfl, by rw [ok.K]; exact f, q _ H Ex.rfl (.bl _) sm⟩
        · exact q.elim
      · exact q.elim
    · exact q.elim
theorem opl_sorted : OpL c (.builtin "sorted") bSorted where
  mono := fun ds h Q Q' k q => by
    unfold bSorted at q ⊢
    split at q
    · split at q
      · split at q
        · exact ⟨q.1, fun ms h1 h2 p hp => k _ _ (q.2 ms h1 h2 p hp)⟩
        · exact q.elim
      · exact q.elim
    · exact q.elim
  run := fun l X ok pins s σ H vs us Q I r z => by
    obtain ⟨ds, h, rs, sm, q⟩ := z
    unfold bSorted at q
    split at q
    · rename_i a
      obtain ⟨v, rfl, rv⟩ := rs.one
      cases rv
      split at q
      · rename_i xs e
        obtain ⟨ws, f, g⟩ := sm.seq e
        split at q
        · rename_i ns e2
          have := g.ints e2
          subst this
          refine L2.cr_sorted pins s σ H _ us Q I r ⟨a, ns, rfl, by rw [ok.K]; exact f, q.1, fun ms p h1 h2 hp => ?_⟩
          exact q.2 ms h1 h2 p (sm.fresh hp) _ _ (.new hp) (.ref p) (sm.newL hp reps_ints)
        · exact q.elim
      · exact q.elim
    · exact q.elim
theorem opl_tuple : OpL c (.type "tuple") bTuple where
  mono := fun ds h Q Q' k q => by
    unfold bTuple at q ⊢
    split at q
    · exact k _ _ q
    · split at q <;> first | exact k _ _ q | exact q.elim
    · exact q.elim
  run := fun l X ok pins s σ H vs us Q I r z => by
    obtain ⟨ds, h, rs, sm, q⟩ := z
    unfold bTuple at q
    split at q
    · rename_i xs
      obtain ⟨v, rfl, rv⟩ := rs.one
      cases rv with
      | tup q1 g1 => exact L2.call_tuple_of pins s σ H _ us Q I r ⟨_, _, rfl, .inr ⟨SqT.of q1, q _ H Ex.rfl (.tup q1 g1) sm⟩⟩
    · rename_i a
      obtain ⟨v, rfl, rv⟩ := rs.one
      cases rv
      split at q
      · rename_i xs e
        obtain ⟨ws, f, g⟩ := sm.seq e
        exact L2.call_tuple_of pins s σ H _ us Q I r ⟨a, ws, rfl, .inl ⟨by rw [ok.K]; exact f, fun p hp => q _ _ (.new hp) (Rep.newT hp g) (sm.keep hp)⟩⟩
      · exact q.elim
    · exact q.elim
theorem opl_list : OpL c (.type "list") bList where
  mono := fun ds h Q Q' k q => by
    unfold bList at q ⊢
    split at q
    · split at q
      · exact fun p hp => k _ _ (q p hp)
      · exact q.elim
    · exact q.elim
  run := fun l X ok pins s σ H vs us Q I r z => by
    obtain ⟨ds, h, rs, sm, q⟩ := z
    unfold bList at q
    split at q
    · rename_i d
      obtain ⟨v, rfl, rv⟩ := rs.one
      split at q
      · rename_i xs e
        unfold seq? at e
        split at e
        · cases e
          cases rv with
          | tup q1 g1 => exact L2.call_list_of pins s σ H _ us Q I r ⟨_, _, rfl, .inr (SqT.of q1), fun p hp => q p (sm.fresh hp) _ _ (.new hp) (.ref p) (sm.newL hp g1)⟩
        · rename_i a
          cases rv
          obtain ⟨ws, f, g⟩ := sm.seq e
          exact L2.call_list_of pins s σ H _ us Q I r ⟨a, ws, rfl, .inl (by rw [ok.K]; exact f), fun p hp => q p (sm.fresh hp) _ _ (.new hp) (.ref p) (sm.newL hp g)⟩
        · cases e
      · exact q.elim
    · exact q.elim
/-! isinstance -/
theorem tyOf_x {d : D} {v : V} {h : DH} {H : Hp} {t : Ty} (r : Rep c H d v) (s : SimH c h H) (e : tyOf d h = some t) : L2.TyX c.K H v (.type (tyName t)) := by
  unfold tyOf at e
  split at e
  · cases e
    cases r
    exact .base (.bl _)
  · cases e
    cases r
    exact .base (.int _)
  · cases e
    cases r
    exact .base (.str _)
  · cases e
    cases r with
    | tup q1 g1 => exact .base (.tup q1)
  · rename_i a
    cases r
    split at e
    · rename_i xs f
      cases e
      obtain ⟨ws, f, g⟩ := s a _ f
      exact .base (.lst f)
    · rename_i xs f
      cases e
      obtain ⟨ws, f, g⟩ := s a _ f
      rcases f with f | ⟨o, f⟩
      · exact .base (.lst f)
      · exact .base (.frz f)
    · rename_i xs f
      cases e
      obtain ⟨ws, f, g⟩ := s a _ f
      exact .base (.dK f)
    · rename_i xs f
      cases e
      obtain ⟨ws, f, g⟩ := s a _ f
      exact .base (.dT f)
    · cases e
  · cases e
theorem kit_isa (K : PySem.W.Frag) (a b : Ty) : PySem.W.kitOne K (.type (tyName a)) (.type (tyName b)) = some (isa a b) := by
  cases a <;> cases b <;> exact L2.kit_ty (by decide +kernel)
theorem kit_none (K : PySem.W.Frag) (b : Ty) : PySem.W.kitOne K (.type "NoneType") (.type (tyName b)) = some false := by
  cases b <;> exact L2.kit_ty (by decide +kernel)
theorem opl_isa : OpL c (.builtin "isinstance") bIsa where
  mono := fun ds h Q Q' k q => by
    unfold bIsa at q ⊢
    split at q
    · exact k _ _ q
    · split at q <;> first | exact k _ _ q | exact q.elim
    · exact q.elim
  run := fun l X ok pins s σ H vs us Q I r z => by
    obtain ⟨ds, h, rs, sm, q⟩ := z
    unfold bIsa at q
    split at q
    · rename_i t
      obtain ⟨v, w, rfl, rv, rw⟩ := rs.two
      cases rv
      cases rw
      exact L2.call_isi pins s σ H _ us Q I r ⟨_, _, _, _, _, rfl, .ty _, .base .non, kit_none _ t, q _ H Ex.rfl (.bl _) sm⟩
    · rename_i x t _
      obtain ⟨v, w, rfl, rv, rw⟩ := rs.two
      cases rw
      split at q
      · rename_i u e
        have hK := ok.K
        exact L2.call_isi pins s σ H _ us Q I r ⟨_, _, _, _, _, rfl, .ty _, by rw [hK]; exact tyOf_x rv sm e, kit_isa _ u t, q _ H Ex.rfl (.bl _) sm⟩
      · exact q.elim
    · exact q.elim
/-! methods of lists -/
def liftM (c : Cs) (r : RM) : V → List V → Hp → VK → Prop := fun x vs H Q => ∃ dx ds h, Rep c H dx x ∧ Reps c H ds vs ∧ SimH c h H ∧ r dx ds h fun d h' => ∀ v H', Ex c H H' → Rep c H' d v → SimH c h' H' → Q v H'
structure OpM (c : Cs) (id : String) (r : RM) : Prop where
  mono : ∀ x ds h Q Q', (∀ d h, Q d h → Q' d h) → r x ds h Q → r x ds h Q'
  run : ∀ (l : Lx) (X : Cx), XOk c l X → L2.MtR X id (liftM c r)
theorem opm_append : OpM c "list.append" mAppend where
  mono := fun x ds h Q Q' k q => by
    unfold mAppend at q ⊢
    split at q
    · split at q
      · exact ⟨q.1, k _ _ q.2⟩
      · exact q.elim
    · exact q.elim
  run := fun l X ok pins s σ H x vs v us Q I rx r z => by
    obtain ⟨dx, ds, h, r1, rs, sm, q⟩ := z
    unfold mAppend at q
    split at q
    · rename_i a d
      cases r1
      obtain ⟨w, rfl, rw⟩ := rs.one
      split at q
      · rename_i xs e
        obtain ⟨ws, f, g⟩ := sm a _ e
        have e2 : Ex c H (upd H a (.lst (ws ++ [w]))) := .mut (by rw [f]; trivial)
        refine L2.mt_append pins s σ H _ _ v us Q I rx r ⟨a, ws, w, rfl, rfl, f, by rw [← g.length]; exact q.1, ?_⟩
        exact q.2 _ _ e2 .non (sm.put e2 ⟨_, upd_same, (g.append (.cons rw .nil)).ex e2⟩)
      · exact q.elim
    · exact q.elim
theorem opm_extend : OpM c "list.extend" mExtend where
  mono := fun x ds h Q Q' k q => by
    unfold mExtend at q ⊢
    split at q
    · split at q
      · exact ⟨q.1, k _ _ q.2⟩
      · exact q.elim
    · exact q.elim
  run := fun l X ok pins s σ H x vs v us Q I rx r z => by
    obtain ⟨dx, ds, h, r1, rs, sm, q⟩ := z
    unfold mExtend at q
    split at q
    · rename_i a b
      cases r1
      obtain ⟨w, rfl, rw⟩ := rs.one
      cases rw
      split at q
      · rename_i xs ys e e'
        obtain ⟨ws, f, g⟩ := sm a _ e
        obtain ⟨ws', f', g'⟩ := sm b _ e'
        have e2 : Ex c H (upd H a (.lst (ws ++ ws'))) := .mut (by rw [f]; trivial)
        refine L2.mt_extend pins s σ H _ _ v us Q I rx r ⟨a, b, ws, ws', rfl, rfl, f, f', by rw [← g.length, ← g'.length]; exact q.1, ?_⟩
        exact q.2 _ _ e2 .non (sm.put e2 ⟨_, upd_same, (g.append g').ex e2⟩)
      · exact q.elim
    · exact q.elim
theorem place_seq {n : Nat} {i : Int} {j : Nat} (e : placeOf n i = some j) : seqIndex? i n = some j := (L2.ixN_seq (place_ix e).1).1
theorem opm_popAt : OpM c "list.pop" mPopAt where
  mono := fun x ds h Q Q' k q => by
    unfold mPopAt at q ⊢
    split at q
    · split at q
      · obtain ⟨q1, q2, q⟩ := q
        refine ⟨q1, q2, ?_⟩
        split at q
        · split at q
          · exact k _ _ q
          · exact q.elim
        · exact q.elim
      · exact q.elim
    · exact q.elim
  run := fun l X ok pins s σ H x vs v us Q I rx r z => by
    obtain ⟨dx, ds, h, r1, rs, sm, q⟩ := z
    unfold mPopAt at q
    split at q
    · rename_i a i
      cases r1
      obtain ⟨w, rfl, rw⟩ := rs.one
      cases rw
      split at q
      · rename_i xs e
        obtain ⟨q1, q2, q⟩ := q
        obtain ⟨ws, f, g⟩ := sm a _ e
        split at q
        · rename_i j ej
          split at q
          · rename_i d ed
            obtain ⟨w, hw, rw⟩ := g.get ed
            have e2 : Ex c H (upd H a (.lst (ws.eraseIdx j))) := .mut (by rw [f]; trivial)
            refine L2.mt_popAt pins s σ H _ _ v us Q I rx r ⟨a, ws, i, j, w, rfl, rfl, f, q1, q2, by rw [← g.length]; exact place_seq ej, hw, ?_⟩
            exact q _ _ e2 (rw.ex e2) (sm.put e2 ⟨_, upd_same, (g.erase j).ex e2⟩)
          · exact q.elim
        · exact q.elim
      · exact q.elim
    · exact q.elim
theorem Reps.dropLast {H : Hp} {ds : List D} {vs : List V} (r : Reps c H ds vs) : Reps c H ds.dropLast vs.dropLast := by
  rw [List.dropLast_eq_take, List.dropLast_eq_take, r.length]
  exact r.take _
theorem opm_pop : OpM c "list.pop" mPop where
  mono := fun x ds h Q Q' k q => by
    unfold mPop at q ⊢
    split at q
    · split at q
      · split at q
        · exact k _ _ q
        · exact q.elim
      · exact q.elim
    · exact q.elim
  run := fun l X ok pins s σ H x vs v us Q I rx r z => by
    obtain ⟨dx, ds, h, r1, rs, sm, q⟩ := z
    unfold mPop at q
    split at q
    · rename_i a
      cases r1
      cases rs
      split at q
      · rename_i xs e
        obtain ⟨ws, f, g⟩ := sm a _ e
        split at q
        · rename_i d ed
          rw [List.getLast?_eq_getElem?, g.length] at ed
          obtain ⟨w, hw, rw⟩ := g.get ed
          have e2 : Ex c H (upd H a (.lst ws.dropLast)) := .mut (by rw [f]; trivial)
          refine L2.mt_pop pins s σ H _ _ v us Q I rx r ⟨a, ws, w, rfl, rfl, f, hw, ?_⟩
          exact q _ _ e2 (rw.ex e2) (sm.put e2 ⟨_, upd_same, g.dropLast.ex e2⟩)
        · exact q.elim
      · exact q.elim
    · exact q.elim
theorem tyOf_v {d : D} {v : V} {h : DH} {H : Hp} {t : Ty} (r : Rep c H d v) (s : SimH c h H) (e : tyOf d h = some t) (ht : t = .list ∨ t = .dict ∨ t = .str) : L2.tyV c.K (tyName t) v H := by
  unfold tyOf at e
  split at e
  · cases e
    rcases ht with h | h | h <;> cases h
  · cases e
    rcases ht with h | h | h <;> cases h
  · cases e
    cases r
    rfl
  · cases e
    rcases ht with h | h | h <;> cases h
  · rename_i a
    cases r
    split at e
    · rename_i xs f
      cases e
      obtain ⟨ws, f, g⟩ := s a _ f
      exact .inl ⟨rfl, ws, SqL.of f⟩
    · rename_i xs f
      cases e
      obtain ⟨ws, f, g⟩ := s a _ f
      exact .inl ⟨rfl, ws, .inl f⟩
    · rename_i xs f
      cases e
      obtain ⟨ws, f, g⟩ := s a _ f
      exact .inr (.inr (.inl ⟨rfl, .inl ⟨ws, f⟩⟩))
    · rename_i xs f
      cases e
      obtain ⟨ws, f, g⟩ := s a _ f
      exact .inr (.inr (.inl ⟨rfl, .inr ⟨ws, f⟩⟩))
    · cases e
  · cases e
theorem de_bm {m : Str} {id : String} {t : Ty} {r : RM} {u : AA} {apos cpos : Pos} (o : OpM c id r) (ht : t = .list ∨ t = .dict ∨ t = .str) (pa : PlainAttrs (tyName t)) (slot : Slot (tyName t) m id) (hty : typeOf (.builtin id) = pure (.type "method_descriptor"))
    (ha : DE c l a ta) (hb : DA c l (e :: es) u) (hbase : ∀ env, attributeBase a m env (eval a env) = eval a env := by exact fun _ => rfl)
    (hfew : ∀ env, ((backTo cpos (starEach (e :: es) env)).all (fun x => !x.1) && (backToKw cpos (keywordEach [] env)).all (fun x => x.1.isSome) && decide ((e :: es).length + ([] : List Keyword).length + (if ([] : List Keyword).isEmpty then 0 else 1) < 30)) = true := by exact fun _ => rfl)
    (hline : (apos.endLine == cpos.line) = true := by rfl) (hs : ∀ env, starEach (e :: es) env = (false, eval e env) :: starEach es env := by exact fun _ => rfl) (hpl : ∀ env, (backTo cpos (starEach es env)).any (·.1) = false := by exact fun _ => rfl) :
    DE c l (.Call (.Attribute a m apos) (e :: es) [] cpos) (eBm t r ta u) where
  mono := fun k kE q => ha.mono (fun x h1 z => ⟨z.1, hb.mono (fun xs h2 z => o.mono _ _ _ _ _ k z) kE z.2⟩) kE q
  run := fun X ok W tk => pe_imp (L2.pe_bm pa slot hty (o.run l X ok) (ha.run X ok W tk) (hb.run X ok W tk) (hbase X.env) (hfew X.env) hline (hs X.env) (hpl X.env)) fun σ H Q ⟨σd, h, s, q⟩ => by
    refine liftE_seq ha s Ex.rfl q (fun x h' z => z) fun d1 h1 v1 H1 q1 e1 r1 s1 e1' => ?_
    refine ⟨by rw [ok.K]; exact tyOf_v r1 s1.cells q1.1 ht, σd, h1, s1, hb.mono (fun ds h2 z vs H2 hv e2 r2 s2 => ?_) (fun x h2 z cls d H2 e2 => z cls d H2 (e1.trans e2)) q1.2⟩
    exact ⟨d1, ds, h2, r1.ex e2, r2, s2.cells, o.mono _ _ _ _ _ (fun d h3 z v H3 e3 r3 s3 => z v H3 ((e1.trans e2).trans e3) r3 (s2.ex e3 s3)) z⟩
theorem de_bm0 {m : Str} {id : String} {t : Ty} {r : RM} {apos cpos : Pos} (o : OpM c id r) (ht : t = .list ∨ t = .dict ∨ t = .str) (pa : PlainAttrs (tyName t)) (slot : Slot (tyName t) m id) (hty : typeOf (.builtin id) = pure (.type "method_descriptor"))
    (ha : DE c l a ta) (hbase : ∀ env, attributeBase a m env (eval a env) = eval a env := by exact fun _ => rfl) (hline : (apos.endLine == cpos.line) = true := by rfl) :
    DE c l (.Call (.Attribute a m apos) [] [] cpos) (eBm t r ta aNil) where
  mono := fun k kE q => ha.mono (fun x h1 z => ⟨z.1, o.mono _ _ _ _ _ k z.2⟩) kE q
  run := fun X ok W tk => pe_imp (L2.pe_bm0 pa slot hty (o.run l X ok) (ha.run X ok W tk) (hbase X.env) hline) fun σ H Q ⟨σd, h, s, q⟩ => by
    refine liftE_seq ha s Ex.rfl q (fun x h' z => z) fun d1 h1 v1 H1 q1 e1 r1 s1 e1' => ?_
    refine ⟨by rw [ok.K]; exact tyOf_v r1 s1.cells q1.1 ht, ?_⟩
    exact ⟨d1, [], h1, r1, .nil, s1.cells, o.mono _ _ _ _ _ (fun d h3 z v H3 e3 r3 s3 => z v H3 (e1.trans e3) r3 (s1.ex e3 s3)) q1.2⟩
end T2
namespace T2
open PySem PySem.Spec PyProof.Rows
open L2 (V Hp HO upd upd_same upd_ne SqL SqT Rd RelV Vals PE PT PW PA PS PSs PI PG PGs Cx Inv Sp Room FnOk Binds VK XK WX Takes OpR CallR Cls It)
variable {c : Cs} {l : Lx} {a b d e : Expr} {es : List Expr} {ta tb td te : EE} {pos : Pos}
/-! targets -/
def liftG (c : Cs) (is : List Nat) (g : GG) (W : WX) : L2.TG := fun v σ H Q => ∃ d σd h, Rep c H d v ∧ Sim c σd h σ H ∧
  g d σd h (fun σd' h' => ∀ σ' H', Ex c H H' → Sim c σd' h' σ' H' → (∀ ws, (∀ i ∈ is, i ∈ ws) → L2.wipe σ' ws = L2.wipe σ ws) → Q σ' H')
    (fun x h' => ∀ cls d σ' H', Ex c H H' → ExcR c H' x cls d → Sim c σd h' σ' H' → W cls d σ' H')
structure DG (c : Cs) (l : Lx) (e : Expr) (is : List Nat) (g : GG) : Prop where
  mono : ∀ {d : D} {σ : S} {h : DH} {Q Q' : S → DH → Prop} {E E' : QX}, (∀ σ h, Q σ h → Q' σ h) → (∀ x h, E x h → E' x h) → g d σ h Q E → g d σ h Q' E'
  run : ∀ (X : Cx), XOk c l X → ∀ W : WX, Takes X W → PG X e (liftG c is g W)
theorem wipe_set {σ : L2.St} {i : Nat} {x : Option V} : ∀ {ws : List Nat}, i ∈ ws → L2.wipe (σ.set i x) ws = L2.wipe σ ws
  | w :: ws, h => by
    unfold L2.wipe
    by_cases e : i ∈ ws
    · rw [wipe_set e]
    · have : i = w := by
        rcases List.mem_cons.mp h with q | q
        · exact q
        · exact absurd q e
      subst this
      have key : ∀ (vs : List Nat) (τ : L2.St), i ∉ vs → L2.wipe (τ.set i x) vs = (L2.wipe τ vs).set i x := by
        intro vs
        induction vs with
        | nil => intro τ _; rfl
        | cons v vs ih =>
          intro τ hv
          unfold L2.wipe
          have h1 : i ≠ v := fun z => hv (z ▸ List.mem_cons_self)
          rw [ih τ (fun z => hv (List.mem_cons_of_mem _ z)), List.set_comm _ _ h1]
      rw [key ws σ e, List.set_set]
theorem dg_name {i : Nat} {x : Str} (hi : l.N[i]? = some x) (hx : L2.Loc l.sc x) (hd : l.d = true ∨ l.sc.names.lookup x = some .local) : DG c l (.Name x pos) [i] (gName i) where
  mono := fun k _ q => k _ _ q
  run := fun X ok W tk => ⟨fun pins s σ H v u Q I r ⟨d, σd, h, rv, sm, q⟩ =>
    (L2.pg_name (by rw [ok.N]; exact ok.nd) (by rw [ok.N]; exact hi) (by rw [ok.sc]; exact hx) (hd.elim (fun z => .inl (ok.fnl z x)) fun z => .inr (by rw [ok.sc]; exact z))).run pins s σ H v u Q I r
      (q _ H Ex.rfl (sm.set i rv) fun ws hw => wipe_set (hw i (by simp)))⟩
def liftGs (c : Cs) (is : List Nat) (gs : List GG) (W : WX) : L2.TGs := fun vs σ H Q => ∃ ds σd h, Reps c H ds vs ∧ Sim c σd h σ H ∧
  gAll gs ds σd h (fun σd' h' => ∀ σ' H', Ex c H H' → Sim c σd' h' σ' H' → (∀ ws, (∀ i ∈ is, i ∈ ws) → L2.wipe σ' ws = L2.wipe σ ws) → Q σ' H')
    (fun x h' => ∀ cls d σ' H', Ex c H H' → ExcR c H' x cls d → (∃ σd', Sim c σd' h' σ' H') → W cls d σ' H')
/-- targets that are names -/
structure DGn (c : Cs) (l : Lx) (es : List Expr) (is : List Nat) : Prop where
  len : es.length = is.length
  each : ∀ (k : Nat) (e : Expr) (i : Nat), es[k]? = some e → is[k]? = some i → ∃ x pos, e = .Name x pos ∧ l.N[i]? = some x ∧ L2.Loc l.sc x ∧ (l.d = true ∨ l.sc.names.lookup x = some .local)
theorem dgn_nil : DGn c l [] [] := ⟨rfl, fun k e i h _ => by simp at h⟩
theorem dgn_cons {i : Nat} {x : Str} {is : List Nat} (hi : l.N[i]? = some x) (hx : L2.Loc l.sc x) (hd : l.d = true ∨ l.sc.names.lookup x = some .local) (r : DGn c l es is) : DGn c l (.Name x pos :: es) (i :: is) := by
  refine ⟨by simp [r.len], fun k e j h1 h2 => ?_⟩
  cases k with
  | zero =>
    simp at h1 h2
    subst h1 h2
    exact ⟨x, pos, rfl, hi, hx, hd⟩
  | succ k =>
    simp at h1 h2
    exact r.each k e j h1 h2
theorem gAll_names : ∀ (is : List Nat) (ds : List D) (σ : S) (h : DH) (Q : S → DH → Prop) (E : QX), gAll (is.map gName) ds σ h Q E →
    is.length = ds.length ∧ Q ((is.zip ds).foldl (fun σ p => σ.set p.1 (some p.2)) σ) h
  | [], [], σ, h, Q, E, q => ⟨rfl, q⟩
  | [], _ :: _, σ, h, Q, E, q => q.elim
  | _ :: _, [], σ, h, Q, E, q => q.elim
  | i :: is, d :: ds, σ, h, Q, E, q => by
    obtain ⟨h1, h2⟩ := gAll_names is ds (σ.set i (some d)) h Q E q
    exact ⟨by simp [h1], by simpa using h2⟩
theorem gAll_mono : ∀ {is : List Nat} {ds : List D} {σ : S} {h : DH} {Q Q' : S → DH → Prop} {E E' : QX}, (∀ σ h, Q σ h → Q' σ h) → gAll (is.map gName) ds σ h Q E → gAll (is.map gName) ds σ h Q' E'
  | [], [], σ, h, Q, Q', E, E', k, q => k _ _ q
  | [], _ :: _, σ, h, Q, Q', E, E', k, q => q.elim
  | _ :: _, [], σ, h, Q, Q', E, E', k, q => q.elim
  | i :: is, d :: ds, σ, h, Q, Q', E, E', k, q => gAll_mono (is := is) (ds := ds) k q
theorem pgs_names {X : Cx} (ok : XOk c l X) : ∀ {es : List Expr} {is : List Nat}, DGn c l es is → ∀ (R : List V → L2.St → Hp → (L2.St → Hp → Prop) → Prop),
    (∀ vs σ H Q, R vs σ H Q → is.length = vs.length ∧ Q ((is.zip vs).foldl (fun σ p => σ.set p.1 (some p.2)) σ) H) → PGs X es R := by
  intro es
  induction es with
  | nil =>
    intro is r R hR
    refine ⟨fun pins s σ H vs us Q I rv q => ?_⟩
    obtain ⟨h1, h2⟩ := hR vs σ H Q q
    have : is = [] := List.eq_nil_of_length_eq_zero r.len.symm
    subst this
    have hv : vs = [] := List.eq_nil_of_length_eq_zero h1.symm
    subst hv
    exact L2.pgs_nil.run pins s σ H [] us Q I rv ⟨rfl, h2⟩
  | cons e es ih =>
    intro is r R hR
    cases is with
    | nil => exact absurd r.len (by simp)
    | cons i is =>
      obtain ⟨x, p, rfl, hi, hx, hd⟩ := r.each 0 e i rfl rfl
      have r' : DGn c l es is := ⟨by simpa using r.len, fun k e j h1 h2 => r.each (k + 1) e j (by simpa using h1) (by simpa using h2)⟩
      have g1 : PG X (.Name x p) (L2.gName i) := L2.pg_name (by rw [ok.N]; exact ok.nd) (by rw [ok.N]; exact hi) (by rw [ok.sc]; exact hx) (hd.elim (fun z => .inl (ok.fnl z x)) fun z => .inr (by rw [ok.sc]; exact z))
      have g2 : PGs X es (fun vs σ H Q => is.length = vs.length ∧ Q ((is.zip vs).foldl (fun σ p => σ.set p.1 (some p.2)) σ) H) := ih r' _ fun _ _ _ _ z => z
      refine ⟨fun pins s σ H vs us Q I rv q => ?_⟩
      obtain ⟨h1, h2⟩ := hR vs σ H Q q
      cases vs with
      | nil => exact absurd h1 (by simp)
      | cons v vs => exact (L2.pgs_cons g1 g2).run pins s σ H (v :: vs) us Q I rv ⟨v, vs, rfl, by simpa using h1, by simpa using h2⟩
theorem sim_sets {h : DH} {H : Hp} : ∀ {is : List Nat} {ds : List D} {vs : List V} {σd : S} {σ : L2.St}, Reps c H ds vs → Sim c σd h σ H →
    Sim c ((is.zip ds).foldl (fun σ p => σ.set p.1 (some p.2)) σd) h ((is.zip vs).foldl (fun σ p => σ.set p.1 (some p.2)) σ) H
  | [], _, _, _, _, _, s => by simpa using s
  | _ :: _, _, _, _, _, .nil, s => by simpa using s
  | i :: is, _, _, σd, σ, .cons q r, s => by
    simp only [List.zip_cons_cons, List.foldl_cons]
    exact sim_sets r (s.set i q)
theorem wipe_sets : ∀ {is : List Nat} {vs : List V} {σ : L2.St} {ws : List Nat}, (∀ i ∈ is, i ∈ ws) → L2.wipe ((is.zip vs).foldl (fun σ p => σ.set p.1 (some p.2)) σ) ws = L2.wipe σ ws
  | [], _, _, _, _ => by simp
  | _ :: _, [], _, _, _ => by simp
  | i :: is, v :: vs, σ, ws, hw => by
    simp only [List.zip_cons_cons, List.foldl_cons]
    rw [wipe_sets fun j hj => hw j (List.mem_cons_of_mem _ hj), wipe_set (hw i List.mem_cons_self)]
theorem dg_tup {is : List Nat} {k : Nat} (r : DGn c l es is) (hst : ∀ env, (assignEach es env).findIdx? (fun x => x.1) = none := by exact fun _ => rfl) (hn : ∀ env, (assignEach es env).length = es.length := by exact fun _ => rfl) : DG c l (.Tuple es k pos) is (gTup (is.map gName)) where
  mono := fun {d σ h Q Q' E E'} k _ q => by
    cases d <;> first | exact q.elim | exact gAll_mono k q
  run := fun X ok W tk => ⟨fun pins s σ H v u Q I rv z => by
    obtain ⟨d, σd, h, rd, sm, q⟩ := z
    cases rd <;> first | exact q.elim | skip
    rename_i ds a vs q1 g1
    obtain ⟨h1, h2⟩ := gAll_names is ds σd h _ _ q
    refine (L2.pg_tup ok.calm (pgs_names ok r (fun vs σ H Q => is.length = vs.length ∧ Q ((is.zip vs).foldl (fun σ p => σ.set p.1 (some p.2)) σ) H) fun _ _ _ _ z => z) (hn := hn X.env) (hst := hst X.env)).run pins s σ H _ u Q I rv ⟨a, vs, rfl, SqT.of q1, ?_, by rw [h1, g1.length], ?_⟩
    · rw [← g1.length, ← h1, r.len]
    · exact h2 _ H Ex.rfl (sim_sets g1 sm) fun ws hw => wipe_sets hw⟩
/-! what is walked -/
/-- J yields the items of s, from the heap H1 on -/
def ItOk (c : Cs) (H1 : Hp) (s : Src) (J : It) : Prop := ∀ (i : Nat) (H : Hp) (h : DH), Ex c H1 H → SimH c h H → s.chk h →
  (i < s.items.length → J.go i H ∧ ∀ x H', J.yld i H x H' → ∃ d, s.items[i]? = some d ∧ Ex c H H' ∧ Rep c H' d x ∧ SimH c h H') ∧ (s.items.length ≤ i → J.stop i H)
def liftI (c : Cs) (it : II) (W : WX) : L2.TI := fun σ H R => ∃ σd h, Sim c σd h σ H ∧ it σd h (fun s h' => ∀ J H', Ex c H H' → Sim c σd h' σ H' → ItOk c H' s J → R J H')
  (fun x h' => ∀ cls d H', Ex c H H' → ExcR c H' x cls d → Sim c σd h' σ H' → W cls d σ H')
structure DI (c : Cs) (l : Lx) (tg e : Expr) (it : II) : Prop where
  mono : ∀ {σ : S} {h : DH} {R R' : Src → DH → Prop} {E E' : QX}, (∀ s h, R s h → R' s h) → (∀ x h, E x h → E' x h) → it σ h R E → it σ h R' E'
  run : ∀ (X : Cx), XOk c l X → ∀ W : WX, Takes X W → PI X tg e (liftI c it W)
variable {tg : Expr}
theorem itOk_tup {H1 : Hp} {a : Addr} {ds : List D} {vs : List V} (q : H1 a = some (.tup vs)) (r : Reps c H1 ds vs) : ItOk c H1 ⟨ds, fun _ => True⟩ (L2.Itt c.K a) := fun i H h e sm _ => by
  have q2 : SqT c.K H a vs := SqT.of (e a vs q)
  have r2 := r.ex e
  refine ⟨fun hi => ?_, fun hi => ⟨vs, q2, by rw [← r.length]; exact hi⟩⟩
  have hd : ds[i]? = some ds[i] := List.getElem?_eq_getElem hi
  obtain ⟨v, hv, rv⟩ := r2.get hd
  refine ⟨⟨vs, v, q2, hv⟩, fun x H' z => ?_⟩
  obtain ⟨rfl, z⟩ := z
  have : v = x := Option.some.inj (hv.symm.trans (z vs q2))
  subst this
  exact ⟨_, hd, Ex.rfl, rv, sm⟩
theorem itOk_lst {H1 : Hp} {a : Addr} {ds : List D} : ItOk c H1 ⟨ds, fun g => seqAt g a = some ds⟩ (L2.Itl c.K a) := fun i H h e sm hc => by
  obtain ⟨vs, q2, r2⟩ := sm.seq hc
  refine ⟨fun hi => ?_, fun hi => ⟨vs, q2, by rw [← r2.length]; exact hi⟩⟩
  have hd : ds[i]? = some ds[i] := List.getElem?_eq_getElem hi
  obtain ⟨v, hv, rv⟩ := r2.get hd
  refine ⟨⟨vs, v, q2, hv⟩, fun x H' z => ?_⟩
  obtain ⟨rfl, z⟩ := z
  have : v = x := Option.some.inj (hv.symm.trans (z vs q2))
  subst this
  exact ⟨_, hd, Ex.rfl, rv, sm⟩
theorem itOk_rng {H1 : Hp} {lo : Int} {n : Nat} : ItOk c H1 ⟨rng lo n, fun _ => True⟩ (L2.Itr lo n) := fun i H h e sm hc => by
  have hl : (rng lo n).length = n := by simp [rng]
  refine ⟨fun hi => ?_, fun hi => by rw [hl] at hi; exact hi⟩
  dsimp only at hi
  rw [hl] at hi
  refine ⟨hi, fun x H' z => ?_⟩
  obtain ⟨rfl, rfl⟩ := z
  refine ⟨.int (lo + (i : Int)), ?_, Ex.rfl, .int _, sm⟩
  simp [rng, hi]
theorem itOk_str {H1 : Hp} {z : Str} : ItOk c H1 ⟨z.cps.toList.map fun k => D.str ⟨#[k]⟩, fun _ => True⟩ (L2.Its z) := fun i H h e sm hc => by
  refine ⟨fun hi => ?_, fun hi => (show z.cps.size ≤ i by simpa using hi)⟩
  simp at hi
  refine ⟨hi, fun x H' y => ?_⟩
  obtain ⟨rfl, k, e1, rfl⟩ := y
  refine ⟨.str ⟨#[k]⟩, ?_, Ex.rfl, .str _, sm⟩
  simp [e1]
theorem di_seq (ha : DE c l a ta) : DI c l tg a (iSeq ta) where
  mono := fun {σ h R R' E E'} k kE q => ha.mono (fun x h1 z => by
    cases x <;> first | exact z.elim | exact k _ _ z | skip
    rename_i p
    dsimp only at z ⊢
    split at z
    · exact k _ _ z
    · exact z.elim) kE q
  run := fun X ok W tk => ⟨fun pins s σ H R I q0 => by
    have hK := ok.K
    have key : liftE c ta W σ H (fun x H1 => ∃ p, x = .ref p ∧ ((∃ xs, SqL X.K H1 p xs ∧ R (L2.Itl X.K p) H1) ∨ ∃ xs, SqT X.K H1 p xs ∧ R (L2.Itt X.K p) H1)) := by
      obtain ⟨σd, h, s', q⟩ := q0
      refine liftE_seq ha s' Ex.rfl q (fun x h' z => z) fun d1 h1 v1 H1 q1 e1 r1 s1 e1' => ?_
      rw [hK]
      cases r1 <;> first | exact q1.elim | skip
      case tup ds p vs q2 g2 => exact ⟨p, rfl, .inr ⟨vs, SqT.of q2, q1 _ H1 e1 s1 (itOk_tup q2 g2)⟩⟩
      case ref p =>
        dsimp only at q1
        split at q1
        · rename_i xs es
          obtain ⟨vs, q2, g2⟩ := s1.cells.seq es
          exact ⟨p, rfl, .inl ⟨vs, q2, q1 _ H1 e1 s1 itOk_lst⟩⟩
        · exact q1.elim
    refine L2.thn ((ha.run X ok W tk).run pins s σ H _ I key) fun v s1 z => ?_
    obtain ⟨x, H1, I1, r1, p, rfl, z⟩ := z
    cases r1
    have fr : ∀ b ∈ [s1.heap.objs.size], L2.FpOk X pins H1 b := fun b hb => by
      rw [List.mem_singleton.mp hb]
      exact I1.fpOk (Nat.le_refl _) (I1.hok.fresh (Nat.le_refl _))
    rcases z with ⟨xs, q, z⟩ | ⟨xs, q, z⟩
    · obtain ⟨its, rv, pl, hz⟩ := I1.list q
      exact wpAny_pyIter_list pl.isList ⟨s1.heap.objs.size, [s1.heap.objs.size], _, _, H1, rfl, I1.kept (t' := s1.toks) fun b o e => Heap.get?_push_of_some _ e, L2.turn_list p _, ⟨_, Heap.get?_push_size _ rfl, rfl, rfl⟩, fr, z⟩
    · obtain ⟨its, rv, pl, hz⟩ := I1.tuple q
      exact wpAny_pyIter_tuple (show s1.heap.IsTuple p its.toArray from pl) ⟨s1.heap.objs.size, [s1.heap.objs.size], _, _, H1, rfl, I1.kept (t' := s1.toks) fun b o e => Heap.get?_push_of_some _ e, L2.turn_tuple p _, ⟨_, Heap.get?_push_size _ rfl, rfl, rfl⟩, fr, z⟩⟩
theorem pi_imp {X : Cx} {t t' : L2.TI} (p : PI X tg e t) (i : ∀ σ H Q, t' σ H Q → t σ H Q) : PI X tg e t' := ⟨fun pins s σ H Q I q => p.run pins s σ H Q I (i σ H Q q)⟩
theorem di_str (ha : DE c l a ta) : DI c l tg a (iStr ta) where
  mono := fun {σ h R R' E E'} k kE q => ha.mono (fun x h1 z => by
    cases x <;> first | exact z.elim | exact k _ _ z) kE q
  run := fun X ok W tk => pi_imp (L2.pi_str (ha.run X ok W tk)) fun σ H R ⟨σd, h, s', q⟩ => by
    refine liftE_seq ha s' Ex.rfl q (fun x h' z => z) fun d1 h1 v1 H1 q1 e1 r1 s1 e1' => ?_
    cases r1 <;> first | exact q1.elim | exact ⟨_, rfl, q1 _ H1 e1 s1 itOk_str⟩
theorem di_rng1 {p : Pos} (hm : c.mg "range" = none) (hg : l.sc.names.lookup ("range" : Str) = some .globalImplicit) (ha : DE c l a ta) (hs : ∀ env, starEach [a] env = [(false, eval a env)] := by exact fun _ => rfl) : DI c l tg (.Call (.Name "range" p) [a] [] pos) (iRng1 ta) where
  mono := fun {σ h R R' E E'} k kE q => ha.mono (fun x h1 z => by
    cases x <;> first | exact z.elim | exact ⟨z.1, k _ _ z.2⟩) kE q
  run := fun X ok W tk => pi_imp (L2.pi_range1 (by show X.env.scope.names.lookup _ = _; rw [ok.sc]; exact hg) (by rw [ok.mg]; exact hm) (L2.pa_cons (ha.run X ok W tk) L2.pa_nil (hs X.env)) (hs X.env)) fun σ H R ⟨σd, h, s', q⟩ => by
    refine liftE_seq ha s' Ex.rfl q (fun x h' z => z) fun d1 h1 v1 H1 q1 e1 r1 s1 e1' => ?_
    cases r1 <;> first | exact q1.elim | exact ⟨_, rfl, q1.1.1, q1.1.2, q1.2 _ H1 e1 s1 itOk_rng⟩
theorem di_rng2 {p : Pos} (hm : c.mg "range" = none) (hg : l.sc.names.lookup ("range" : Str) = some .globalImplicit) (ha : DE c l a ta) (hb : DE c l b tb) (hs : ∀ env, starEach [a, b] env = [(false, eval a env), (false, eval b env)] := by exact fun _ => rfl)
    (hs2 : ∀ env, starEach [b] env = [(false, eval b env)] := by exact fun _ => rfl) : DI c l tg (.Call (.Name "range" p) [a, b] [] pos) (iRng2 ta tb) where
  mono := fun {σ h R R' E E'} k kE q => ha.mono (fun x h1 z => hb.mono (fun y h2 z => by
    cases x <;> first | exact z.elim | skip
    cases y <;> first | exact z.elim | exact ⟨z.1, z.2.1, k _ _ z.2.2⟩) kE z) kE q
  run := fun X ok W tk => pi_imp (L2.pi_range2 (by show X.env.scope.names.lookup _ = _; rw [ok.sc]; exact hg) (by rw [ok.mg]; exact hm) (L2.pa_cons (ha.run X ok W tk) (L2.pa_cons (hb.run X ok W tk) L2.pa_nil (hs2 X.env)) (by rw [hs, hs2])) (hs X.env) (hs2 X.env)) fun σ H R ⟨σd, h, s', q⟩ => by
    refine liftE_seq ha s' Ex.rfl q (fun x h' z => z) fun d1 h1 v1 H1 q1 e1 r1 s1 e1' => ?_
    refine liftE_seq hb s1 e1 q1 (fun x h' z => z) fun d2 h2 v2 H2 q2 e2 r2 s2 e2' => ?_
    cases r1 <;> first | exact q2.elim | skip
    cases r2 <;> first | exact q2.elim | exact ⟨_, _, rfl, ⟨q2.1.1, q2.1.2, q2.2.1.1, q2.2.1.2⟩, q2.2.2 _ H2 e2 s2 itOk_rng⟩
end T2
namespace T2
open PySem PySem.Spec PyProof.Rows
open L2 (V Hp HO upd upd_same upd_ne SqL SqT Rd RelV Vals PE PT PW PA PS PSs PI PG PGs Cx Inv Sp Room FnOk Binds VK XK WX Takes OpR CallR Cls It)
variable {c : Cs} {l : Lx} {a b d e : Expr} {es : List Expr} {ta tb td te : EE} {pos : Pos}
/-! statements -/
/-- the ends of a lifted statement, from the heap H -/
def enL (c : Cs) (W : WX) (D : L2.Ends) (H : Hp) : En :=
  ⟨fun σd' h' => ∀ σ' H', Ex c H H' → Sim c σd' h' σ' H' → D.nx σ' H',
   fun d h' => ∀ v H', Ex c H H' → Rep c H' d v → SimH c h' H' → D.rt v H',
   fun σd' h' => ∀ σ' H', Ex c H H' → Sim c σd' h' σ' H' → D.bk σ' H',
   fun σd' h' => ∀ σ' H', Ex c H H' → Sim c σd' h' σ' H' → D.ct σ' H',
   fun x σd' h' => ∀ cls d σ' H', Ex c H H' → ExcR c H' x cls d → Sim c σd' h' σ' H' → W cls d σ' H'⟩
theorem enL_ex {W : WX} {D : L2.Ends} {H H1 : Hp} (e : Ex c H H1) : EnLe (enL c W D H) (enL c W D H1) :=
  ⟨fun σ h q σ' H' e' => q σ' H' (e.trans e'), fun d h q v H' e' => q v H' (e.trans e'), fun σ h q σ' H' e' => q σ' H' (e.trans e'), fun σ h q σ' H' e' => q σ' H' (e.trans e'), fun x σ h q cls d σ' H' e' => q cls d σ' H' (e.trans e')⟩
theorem EnLe.rfl {K : En} : EnLe K K := ⟨fun _ _ q => q, fun _ _ q => q, fun _ _ q => q, fun _ _ q => q, fun _ _ _ q => q⟩
theorem liftS_eq {t : SS} {W : WX} {D : L2.Ends} {σ : L2.St} {H : Hp} : liftS c t W D σ H = ∃ σd h, Sim c σd h σ H ∧ t (enL c W D H) σd h := rfl
/-- an expression, then the rest of a statement -/
theorem liftE_st {W : WX} {D : L2.Ends} {σ : L2.St} {H : Hp} {σd : S} {h : DH} {Q : VK} {R : QD} (ha : DE c l a ta) (s : Sim c σd h σ H)
    (q : ta σd h R fun x h' => (enL c W D H).ex x σd h') (k : ∀ d h' v H', R d h' → Ex c H H' → Rep c H' d v → Sim c σd h' σ H' → Q v H') : liftE c ta W σ H Q :=
  liftE_seq ha s Ex.rfl q (fun x h' z cls d H' e r s' => z cls d σ H' e r s') fun d h' v H' r e1 r1 s1 _ => k d h' v H' r e1 r1 s1
theorem ds_asg {tg : Expr} {is : List Nat} {g : GG} (ha : DE c l e te) (hg : DG c l tg is g) (hs : ∀ env, swapsWithSole [tg] e pos.line env = pure false := by exact fun _ => rfl) (hw : ∀ env, swappedStores [tg] e env = pure none := by exact fun _ => rfl)
    (hq : ∀ env, (assignEach [tg] env).map (·.2) = [assign tg env] := by exact fun _ => rfl) : DS c l (.Assign [tg] e pos) (sAsg te g) where
  mono := fun {σ h K K'} k q => ha.mono (fun d h1 z => hg.mono k.nx (fun x h z => k.ex _ _ _ z) z) (fun x h z => k.ex _ _ _ z) q
  run := fun X ok W tk => ps_imp (L2.ps_asg (ha.run X ok W tk) (hg.run X ok W tk) (hs X.env) (hw X.env) (hq X.env)) fun D σ H ⟨σd, h, s, q⟩ => by
    refine liftE_st ha s q fun d1 h1 v1 H1 q1 e1 r1 s1 => ?_
    exact ⟨d1, σd, h1, r1, s1, hg.mono (fun σ2 h2 z σ' H' e2 s2 _ => z σ' H' (e1.trans e2) s2) (fun x h2 z cls d σ' H' e2 r2 s2 => z cls d σ' H' (e1.trans e2) r2 s2) q1⟩
/-- y = [.. for ..] is given to a name in the comprehension's own frame -/
theorem ds_asgN {i : Nat} {x : Str} {pos' : Pos} (ha : DE c l e te) (hi : l.N[i]? = some x) (hx : L2.Loc l.sc x) (hd : l.d = true ∨ l.sc.names.lookup x = some .local) (hs : ∀ env : Env, env.scope = l.sc → swapsWith e (some (.Name x pos')) pos.line env = pure false := by exact fun _ _ => rfl) : DS c l (.Assign [.Name x pos'] e pos) (sAsg te (gName i)) where
  mono := fun {σ h K K'} k q => ha.mono (fun d h1 z => k.nx _ _ z) (fun x h z => k.ex _ _ _ z) q
  run := fun X ok W tk => ps_imp (L2.ps_set (by rw [ok.N]; exact ok.nd) (by rw [ok.N]; exact hi) (by rw [ok.sc]; exact hx) (ha.run X ok W tk) (hs X.env ok.sc) (hd.elim (fun z => .inl (ok.fnl z x)) fun z => .inr (by rw [ok.sc]; exact z))) fun D σ H ⟨σd, h, s, q⟩ =>
    liftE_st ha s q fun d1 h1 v1 H1 q1 e1 r1 s1 => q1 _ H1 e1 (s1.set i r1)
/-- o[i] = d -/
def liftP (c : Cs) (h0 : DH → D → D → D → (DH → Prop) → Prop) : L2.TSet := fun o i v H Q => ∃ od id d h, Rep c H od o ∧ Rep c H id i ∧ Rep c H d v ∧ SimH c h H ∧ h0 h od id d fun h' => ∀ H', Ex c H H' → SimH c h' H' → Q H'
theorem putIx_mono {o i d : D} {h : DH} {Q Q' : DH → Prop} (k : ∀ h, Q h → Q' h) (q : putIx o i d h Q) : putIx o i d h Q' := by
  unfold putIx at q ⊢
  cases o with
  | ref a =>
    dsimp only at q ⊢
    cases e : h.f a with
    | none =>
      rw [e] at q
      exact q.elim
    | some u =>
      rw [e] at q
      cases u with
      | lst xs =>
        cases i with
        | int j =>
          dsimp only at q ⊢
          split at q
          · exact k _ q
          · exact q.elim
        | _ => exact q.elim
      | dk kvs =>
        dsimp only at q ⊢
        split at q
        · exact ⟨q.1, k _ q.2⟩
        · exact q.elim
      | dt kvs =>
        cases i with
        | tup ys =>
          dsimp only at q ⊢
          split at q
          · exact ⟨q.1, k _ q.2⟩
          · exact q.elim
        | _ => exact q.elim
      | _ => exact q.elim
  | _ => exact q.elim
theorem put_run {X : Cx} (ok : XOk c l X) : L2.PSet X (liftP c fun h o i d Q => putIx o i d h Q) := by
  intro pins s σ H o i v ov iv u Q I ro ri rv z
  obtain ⟨od, id, d, h, r1, r2, r3, sm, q⟩ := z
  unfold putIx at q
  cases r1 <;> first | exact q.elim | skip
  rename_i a
  dsimp only at q
  cases e : h.f a with
  | none =>
    rw [e] at q
    exact q.elim
  | some w =>
    rw [e] at q
    cases w with
    | lst xs =>
      cases r2 <;> first | exact q.elim | skip
      rename_i k
      dsimp only at q
      split at q
      · rename_i j ej
        obtain ⟨ws, f, g⟩ := sm a _ e
        have e2 : Ex c H (upd H a (.lst (ws.set j v))) := .mut (by rw [f]; trivial)
        refine L2.set_list pins s σ H _ _ v ov iv u Q I ro ri rv ⟨a, ws, k, j, rfl, rfl, f, by rw [← g.length]; exact (place_ix ej).1, ?_⟩
        exact q _ e2 (sm.put e2 ⟨_, upd_same, (g.set r3 j).ex e2⟩)
      · exact q.elim
    | dk kvs =>
      dsimp only at q
      split at q
      · rename_i k ek
        obtain ⟨ws, f, g⟩ := sm a _ e
        have e2 : Ex c H (upd H a (.dK (L2.putK ws k v))) := .mut (by rw [f]; trivial)
        have := r2.key ek
        subst this
        refine L2.set_dict (units1 ok) pins s σ H _ _ v ov iv u Q I ro ri rv ⟨a, _, rfl, L2.DPut.k f (by rw [← repK_len g]; exact q.1), ?_⟩
        exact q.2 _ e2 (sm.put e2 ⟨_, upd_same, (repK_set r3 g).ex e2⟩)
      · exact q.elim
    | dt kvs =>
      cases r2 <;> first | exact q.elim | skip
      rename_i ds b vs q1 g1
      dsimp only at q
      split at q
      · rename_i k ek
        obtain ⟨ws, f, g⟩ := sm a _ e
        have e2 : Ex c H (upd H a (.dT (L2.putK ws k v))) := .mut (by rw [f]; trivial)
        have := g1.keys ek
        subst this
        refine L2.set_dict (units1 ok) pins s σ H _ _ v ov iv u Q I ro ri rv ⟨a, _, rfl, L2.DPut.t f q1 (by rw [← repK_len g]; exact q.1), ?_⟩
        exact q.2 _ e2 (sm.put e2 ⟨_, upd_same, (repK_set r3 g).ex e2⟩)
      · exact q.elim
    | _ => exact q.elim
theorem ds_put {o i : Expr} {to ti : EE} {pos' : Pos} (ho : DE c l o to) (hi : DE c l i ti) (he : DE c l e te) (hs : ∀ env, swapsWithSole [.Subscript o i pos'] e pos.line env = pure false := by exact fun _ => rfl) (hw : ∀ env, swappedStores [.Subscript o i pos'] e env = pure none := by exact fun _ => rfl)
    (hq : ∀ env v, assign (.Subscript o i pos') env v = (holding [v] (eval o env) >>= fun ov => holding [v, ov] (eval i env) >>= fun iv => standAt pos' >>= fun _ => holding [v, ov, iv] (setItem ov iv v) >>= fun _ => release [v, ov, iv] []) := by exact fun _ _ => rfl) :
    DS c l (.Assign [.Subscript o i pos'] e pos) (sPut to ti te) where
  mono := fun {σ h K K'} k q => he.mono (fun d h1 z => ho.mono (fun x h2 z => hi.mono (fun y h3 z => putIx_mono (fun h4 z => k.nx _ _ z) z) (fun x h z => k.ex _ _ _ z) z) (fun x h z => k.ex _ _ _ z) z) (fun x h z => k.ex _ _ _ z) q
  run := fun X ok W tk => ps_imp (L2.ps_asg (he.run X ok W tk) (L2.pg_sub (ho.run X ok W tk) (hi.run X ok W tk) (put_run ok) (hq X.env)) (hs X.env) (hw X.env)) fun D σ H ⟨σd, h, s, q⟩ => by
    refine liftE_st he s q fun d1 h1 v1 H1 q1 e1 r1 s1 => ?_
    refine liftE_seq ho s1 e1 q1 (fun x h' z cls d H' e r s' => z cls d σ H' e r s') fun d2 h2 v2 H2 q2 e2 r2 s2 e2' => ?_
    refine liftE_seq hi s2 e2 q2 (fun x h' z cls d H' e r s' => z cls d σ H' e r s') fun d3 h3 v3 H3 q3 e3 r3 s3 e3' => ?_
    exact ⟨d2, d3, d1, h3, r2.ex e3', r3, (r1.ex e2').ex e3', s3.cells, putIx_mono (fun h4 z H4 e4 s4 => z σ H4 (e3.trans e4) (s3.ex e4 s4)) q3⟩
theorem ds_par {i j : Nat} {x y : Str} {t : AA} {px py pt pt2 : Pos} {kt k2 : Nat} (hi : l.N[i]? = some x) (hj : l.N[j]? = some y) (hij : i ≠ j) (hx : l.sc.names.lookup x = some .local) (hy : l.sc.names.lookup y = some .local) (ha : DA c l [a, b] t)
    (hw : ∀ env : Env, env.scope = l.sc → swappedStores [.Tuple [.Name x px, .Name y py] kt pt] (.Tuple [a, b] k2 pt2) env = pure (some [x, y])) (hs : ∀ env, swapsWithSole [.Tuple [.Name x px, .Name y py] kt pt] (.Tuple [a, b] k2 pt2) pos.line env = pure false := by exact fun _ => rfl) :
    DS c l (.Assign [.Tuple [.Name x px, .Name y py] kt pt] (.Tuple [a, b] k2 pt2) pos) (sPar i j t) where
  mono := fun {σ h K K'} k q => ha.mono (fun vs h1 z => by
    split at z
    · exact k.nx _ _ z
    · exact z.elim) (fun x h z => k.ex _ _ _ z) q
  run := fun X ok W tk => ps_imp (L2.ps_par ok.calm (by rw [ok.N]; exact ok.nd) (by rw [ok.N]; exact hi) (by rw [ok.N]; exact hj) hij (by rw [ok.sc]; exact hx) (by rw [ok.sc]; exact hy) (ha.run X ok W tk) (hw X.env ok.sc) (hs X.env)) fun D σ H ⟨σd, h, s, q⟩ => by
    refine ⟨σd, h, s, ha.mono (fun ds h1 z vs H1 hv e1 r1 s1 => ?_) (fun x h1 z cls d H' e r s' => z cls d σ H' e r s') q⟩
    split at z
    · obtain ⟨v, w, rfl, rv, rw⟩ := r1.two
      exact ⟨v, w, rfl, z _ H1 e1 ((s1.set i rv).set j rw)⟩
    · exact z.elim
theorem ds_aug {i : Nat} {x : Str} {op : Operator} {r : R2} {pos' : Pos} (hi : l.N[i]? = some x) (hx : L2.Loc l.sc x) (hd : l.d = true ∨ l.sc.names.lookup x = some .local) (he : DE c l e te) (o : Op2 c (inplaceOp op) r) : DS c l (.AugAssign (.Name x pos') op e pos) (sAug r i te) where
  mono := fun {σ h K K'} k q => by
    unfold sAug at q ⊢
    split at q
    · exact he.mono (fun d h1 z => o.mono _ _ _ _ _ (fun _ _ z => k.nx _ _ z) z) (fun x h z => k.ex _ _ _ z) q
    · exact q.elim
  run := fun X ok W tk => ps_imp (L2.ps_aug (by rw [ok.N]; exact ok.nd) (by rw [ok.N]; exact hi) (by rw [ok.sc]; exact hx) (he.run X ok W tk) (o.run l X ok) (hd.elim (fun z => .inl (ok.fnl z x)) fun z => .inr (by rw [ok.sc]; exact z))) fun D σ H ⟨σd, h, s, q⟩ => by
    unfold sAug at q
    split at q
    · rename_i d0 ed
      obtain ⟨v0, ev, r0⟩ := s.slot i d0 ed
      refine ⟨v0, ev, liftE_st he s q fun d1 h1 v1 H1 q1 e1 r1 s1 => ?_⟩
      exact ⟨d0, d1, h1, r0.ex e1, r1, s1.cells, o.mono _ _ _ _ _ (fun d2 h2 z v2 H2 e2 r2 s2 => z _ H2 (e1.trans e2) ((s1.ex e2 s2).set i r2)) q1⟩
    · exact q.elim
theorem ds_expr (he : DE c l e te) (hs : ∀ env, swapsWith e none pos.line env = pure false := by exact fun _ => rfl) : DS c l (.Expr e pos) (sExpr te) where
  mono := fun {σ h K K'} k q => he.mono (fun d h1 z => k.nx _ _ z) (fun x h z => k.ex _ _ _ z) q
  run := fun X ok W tk => ps_imp (L2.ps_expr (he.run X ok W tk) (hs X.env)) fun D σ H ⟨σd, h, s, q⟩ => liftE_st he s q fun d1 h1 v1 H1 q1 e1 r1 s1 => q1 σ H1 e1 s1
theorem ds_ret (he : DE c l e te) : DS c l (.Return (some e) pos) (sRet te) where
  mono := fun {σ h K K'} k q => he.mono (fun d h1 z => k.rt _ _ z) (fun x h z => k.ex _ _ _ z) q
  run := fun X ok W tk => ps_imp (L2.ps_ret (he.run X ok W tk)) fun D σ H ⟨σd, h, s, q⟩ => liftE_st he s q fun d1 h1 v1 H1 q1 e1 r1 s1 => q1 v1 H1 e1 r1 s1.cells
theorem ds_retN : DS c l (.Return none pos) sRetN where
  mono := fun {σ h K K'} k q => k.rt _ _ q
  run := fun X ok W tk => ps_imp L2.ps_retN fun D σ H ⟨σd, h, s, q⟩ => q .non H Ex.rfl .non s.cells
theorem ds_pass : DS c l (.Pass pos) sSkip where
  mono := fun {σ h K K'} k q => k.nx _ _ q
  run := fun X ok W tk => ps_imp L2.ps_pass fun D σ H ⟨σd, h, s, q⟩ => q σ H Ex.rfl s
theorem ds_brk : DS c l (.Break pos) sBrk where
  mono := fun {σ h K K'} k q => k.bk _ _ q
  run := fun X ok W tk => ps_imp L2.ps_break fun D σ H ⟨σd, h, s, q⟩ => q σ H Ex.rfl s
theorem ds_ct : DS c l (.Continue pos) sCt where
  mono := fun {σ h K K'} k q => k.ct _ _ q
  run := fun X ok W tk => ps_imp L2.ps_continue fun D σ H ⟨σd, h, s, q⟩ => q σ H Ex.rfl s
theorem dss_nil : DSs c l [] sSkip where
  mono := fun {σ h K K'} k q => k.nx _ _ q
  run := fun X ok W tk => pss_imp L2.pss_nil fun D σ H ⟨σd, h, s, q⟩ => q σ H Ex.rfl s
variable {st : Stmt} {ss ss' : List Stmt} {t u : SS}
theorem dss_one (h : DS c l st t) : DSs c l [st] t := ⟨h.mono, fun X ok W tk => L2.pss_one (h.run X ok W tk)⟩
theorem dss_cons (h1 : DS c l st t) (h2 : DSs c l ss u) : DSs c l (st :: ss) (sSeq t u) where
  mono := fun {σ h K K'} k q => h1.mono (K := { K with nx := u K }) (K' := { K' with nx := u K' }) ⟨fun σ h z => h2.mono k z, k.rt, k.bk, k.ct, k.ex⟩ q
  run := fun X ok W tk => pss_imp (L2.pss_cons (h1.run X ok W tk) (h2.run X ok W tk)) fun D σ H ⟨σd, h, s, q⟩ => by
    refine ⟨σd, h, s, h1.mono (K := { enL c W D H with nx := u (enL c W D H) }) (K' := enL c W { D with nx := liftS c u W D } H) ⟨fun σ1 h1 z σ' H' e1 s1 => ?_, fun _ _ z => z, fun _ _ z => z, fun _ _ z => z, fun _ _ _ z => z⟩ q⟩
    exact ⟨σ1, h1, s1, h2.mono (enL_ex e1) z⟩
theorem ds_if {tt : BB} (ht : DB c l e tt) (h1 : DSs c l ss t) (h2 : DSs c l ss' u) : DS c l (.If e ss ss' pos) (sIf tt t u) where
  mono := fun {σ h K K'} k q => ht.mono (fun b h1' z => by
    cases b
    · exact h2.mono k z
    · exact h1.mono k z) (fun x h z => k.ex _ _ _ z) q
  run := fun X ok W tk => ps_imp (L2.ps_if (ht.run X ok W tk) (h1.run X ok W tk) (h2.run X ok W tk)) fun D σ H ⟨σd, h, s, q⟩ => by
    refine ⟨σd, h, s, ht.mono (fun k h1' z H1 e1 s1 => ?_) (fun x h1 z cls d H' e r s' => z cls d σ H' e r s') q⟩
    cases k with
    | true => exact ⟨σd, h1', s1, h1.mono (enL_ex e1) z⟩
    | false => exact ⟨σd, h1', s1, h2.mono (enL_ex e1) z⟩
theorem loopF_mono {chk : DH → Prop} {g : GG} {is : List Nat} {tg : Expr} (hg : DG c l tg is g) (hb : DSs c l ss t) {K K' : En} (k : EnLe K K') : ∀ {ds : List D} {σ : S} {h : DH}, loopF chk g t K ds σ h → loopF chk g t K' ds σ h
  | [], σ, h, q => ⟨q.1, k.nx _ _ q.2⟩
  | d :: ds, σ, h, q => ⟨q.1, hg.mono (fun σ1 h1 z => hb.mono (K := ⟨loopF chk g t K ds, K.rt, K.nx, loopF chk g t K ds, K.ex⟩) (K' := ⟨loopF chk g t K' ds, K'.rt, K'.nx, loopF chk g t K' ds, K'.ex⟩) ⟨fun _ _ z => loopF_mono hg hb k z, k.rt, k.nx, fun _ _ z => loopF_mono hg hb k z, k.ex⟩ z) (fun x h z => k.ex _ _ _ z) q.2⟩
theorem ds_for {it : Expr} {ti : II} {tg : Expr} {is : List Nat} {g : GG} (hi : DI c l tg it ti) (hg : DG c l tg is g) (hb : DSs c l ss t) (hs : ∀ env x, foldedSetIterable it env x = pure x := by exact fun _ _ => rfl) : DS c l (.For tg it ss [] pos) (sFor ti g t) where
  mono := fun {σ h K K'} k q => hi.mono (fun s h1 z => loopF_mono hg hb k z) (fun x h z => k.ex _ _ _ z) q
  run := fun X ok W tk => ps_imp (L2.ps_for ok.po ok.calm (hi.run X ok W tk) (hg.run X ok W tk) (hb.run X ok W tk) (hs X.env)) fun D σ H ⟨σd, h, s, q⟩ => by
    refine ⟨σd, h, s, hi.mono (fun src h1 z J H1 e1 s1 iok => ?_) (fun x h1 z cls d H' e r s' => z cls d σ H' e r s') q⟩
    refine ⟨fun i m σ' H' => m = src.items.length - i ∧ i ≤ src.items.length ∧ Ex c H1 H' ∧ ∃ σd' h', Sim c σd' h' σ' H' ∧ loopF src.chk g t (enL c W D H) (src.items.drop i) σd' h',
      ⟨_, rfl, Nat.zero_le _, Ex.rfl, σd, h1, s1, z⟩, fun i m σ' H' ⟨hm, hi', e2, σd', h', s2, z⟩ => ?_⟩
    cases hd : src.items.drop i with
    | nil =>
      rw [hd] at z
      have hle : src.items.length ≤ i := List.drop_eq_nil_iff.mp hd
      exact .inl ⟨(iok i H' h' e2 s2.cells z.1).2 hle, z.2 σ' H' (e1.trans e2) s2⟩
    | cons d ds =>
      rw [hd] at z
      have hlt : i < src.items.length := by
        rcases Nat.lt_or_ge i src.items.length with q | q
        · exact q
        · rw [List.drop_eq_nil_of_le q] at hd
          cases hd
      have hds : src.items.drop (i + 1) = ds := by
        rw [← List.tail_drop, hd]
        rfl
      have hd0 : src.items[i]? = some d := by
        have := List.head?_drop (l := src.items) (i := i)
        rw [hd] at this
        exact this.symm
      obtain ⟨go, yld⟩ := (iok i H' h' e2 s2.cells z.1).1 hlt
      refine .inr ⟨go, fun σ2 H2 => Ex c H1 H2 ∧ ∃ σd2 h2, Sim c σd2 h2 σ2 H2 ∧ loopF src.chk g t (enL c W D H) ds σd2 h2, fun σ2 H2 ⟨e3, σd2, h2, s3, z3⟩ => ?_, fun x H2 y => ?_⟩
      · refine ⟨src.items.length - (i + 1), by omega, rfl, by omega, e3, σd2, h2, s3, ?_⟩
        rw [hds]
        exact z3
      · obtain ⟨d', hd', e3, r3, s3⟩ := yld x H2 y
        have : d = d' := Option.some.inj (hd0.symm.trans hd')
        subst this
        refine ⟨d, σd', h', r3, s2.ex e3 s3, hg.mono (fun σ3 h3 z3 σ4 H4 e4 s4 _ => ?_) (fun x h3 z3 cls d σ4 H4 e4 r4 s4 => z3 cls d σ4 H4 (((e1.trans e2).trans e3).trans e4) r4 s4) z.2⟩
        refine ⟨σ3, h3, s4, hb.mono (K := ⟨loopF src.chk g t (enL c W D H) ds, (enL c W D H).rt, (enL c W D H).nx, loopF src.chk g t (enL c W D H) ds, (enL c W D H).ex⟩) ⟨fun σ5 h5 z5 σ6 H6 e6 s6 => ⟨((e2.trans e3).trans e4).trans e6, σ5, h5, s6, z5⟩, fun d5 h5 z5 v6 H6 e6 => z5 v6 H6 ((((e1.trans e2).trans e3).trans e4).trans e6),
          fun σ5 h5 z5 σ6 H6 e6 => z5 σ6 H6 ((((e1.trans e2).trans e3).trans e4).trans e6), fun σ5 h5 z5 σ6 H6 e6 s6 => ⟨((e2.trans e3).trans e4).trans e6, σ5, h5, s6, z5⟩, fun x5 σ5 h5 z5 cls d σ6 H6 e6 => z5 cls d σ6 H6 ((((e1.trans e2).trans e3).trans e4).trans e6)⟩ z3⟩
theorem loopW_mono {tt : BB} (ht : DB c l e tt) (hb : DSs c l ss t) {K K' : En} (k : EnLe K K') : ∀ {n : Nat} {σ : S} {h : DH}, loopW tt t K n σ h → loopW tt t K' n σ h
  | 0, σ, h, q => q.elim
  | n + 1, σ, h, q => ht.mono (fun b h1 z => by
    cases b
    · exact k.nx _ _ z
    · exact hb.mono (K := ⟨loopW tt t K n, K.rt, K.nx, loopW tt t K n, K.ex⟩) (K' := ⟨loopW tt t K' n, K'.rt, K'.nx, loopW tt t K' n, K'.ex⟩) ⟨fun _ _ z => loopW_mono ht hb k z, k.rt, k.nx, fun _ _ z => loopW_mono ht hb k z, k.ex⟩ z) (fun x h z => k.ex _ _ _ z) q
theorem ds_while {tt : BB} (ht : DB c l e tt) (hb : DSs c l ss t) : DS c l (.While e ss [] pos) (sWhile tt t) where
  mono := fun {σ h K K'} k ⟨n, q⟩ => ⟨n, loopW_mono ht hb k q⟩
  run := fun X ok W tk => ps_imp (L2.ps_while ok.po (ht.run X ok W tk) (hb.run X ok W tk)) fun D σ H ⟨σd, h, s, n, q⟩ => by
    refine ⟨fun m σ' H' => Ex c H H' ∧ ∃ σd' h', Sim c σd' h' σ' H' ∧ loopW tt t (enL c W D H) m σd' h', ⟨n, Ex.rfl, σd, h, s, q⟩, fun m σ' H' ⟨e1, σd', h', s1, z⟩ => ?_⟩
    cases m with
    | zero => exact z.elim
    | succ m =>
      refine ⟨σd', h', s1, ht.mono (fun k h1 z H1 e2 s2 => ?_) (fun x h1 z cls d H' e r s' => z cls d σ' H' (e1.trans e) r s') z⟩
      cases k with
      | false => exact z σ' H1 (e1.trans e2) s2
      | true =>
        refine ⟨fun σ3 H3 => Ex c H H3 ∧ ∃ σd3 h3, Sim c σd3 h3 σ3 H3 ∧ loopW tt t (enL c W D H) m σd3 h3, fun σ3 H3 z3 => ⟨m, Nat.lt_succ_self m, z3⟩, σd', h1, s2, hb.mono (K := ⟨loopW tt t (enL c W D H) m, (enL c W D H).rt, (enL c W D H).nx, loopW tt t (enL c W D H) m, (enL c W D H).ex⟩) ⟨fun σ5 h5 z5 σ6 H6 e6 s6 => ⟨(e1.trans e2).trans e6, σ5, h5, s6, z5⟩, fun d5 h5 z5 v6 H6 e6 => z5 v6 H6 ((e1.trans e2).trans e6),
          fun σ5 h5 z5 σ6 H6 e6 => z5 σ6 H6 ((e1.trans e2).trans e6), fun σ5 h5 z5 σ6 H6 e6 s6 => ⟨(e1.trans e2).trans e6, σ5, h5, s6, z5⟩, fun x5 σ5 h5 z5 cls d σ6 H6 e6 => z5 cls d σ6 H6 ((e1.trans e2).trans e6)⟩ z⟩
theorem ds_try0 {hh : ExceptHandler} {hs : List ExceptHandler} (hb : DSs c l ss t) : DS c l (.Try ss (hh :: hs) [] [] pos) (sTry0 t) where
  mono := fun {σ h K K'} k q => hb.mono (K := { K with ex := fun _ _ _ => False }) (K' := { K' with ex := fun _ _ _ => False }) ⟨k.nx, k.rt, k.bk, k.ct, fun _ _ _ z => z⟩ q
  run := fun X ok W tk => by
    have ok' : XOk c l X.nox := ⟨ok.P, ok.w, ok.K, ok.mg, ok.base, ok.N, ok.nd, ok.sc, ok.calm, ok.room, PassesOwn.never, ok.fnl, ok.kind⟩
    refine ps_imp (L2.ps_try_thru0 (hb.run X.nox ok' (fun _ _ _ _ => False) L2.takes0)) fun D σ H ⟨σd, h, s, q⟩ => ?_
    exact ⟨σd, h, s, hb.mono (K := { enL c W D H with ex := fun _ _ _ => False }) ⟨fun _ _ z => z, fun _ _ z => z, fun _ _ z => z, fun _ _ z => z, fun _ _ _ z => False.elim z⟩ q⟩
end T2
namespace T2
open PySem PySem.Spec PyProof.Rows
open L2 (V Hp HO upd upd_same upd_ne SqL SqT Rd RelV Vals PE PT PW PA PS PSs PI PG PGs Cx Inv Sp Room FnOk Binds VK XK WX Takes OpR CallR Cls It)
variable {c : Cs} {l : Lx} {a b d e : Expr} {es : List Expr} {ta tb td te : EE} {pos : Pos}
/-! comprehensions -/
structure DT (c : Cs) (l : Lx) (es : List Expr) (t : BB) : Prop where
  mono : ∀ {σ : S} {h : DH} {Q Q' : Bool → DH → Prop} {E E' : QX}, (∀ d h, Q d h → Q' d h) → (∀ x h, E x h → E' x h) → t σ h Q E → t σ h Q' E'
  run : ∀ (X : Cx), XOk c l X → ∀ W : WX, Takes X W → L2.PTs X es (liftB c t W)
theorem pts_imp {X : Cx} {es : List Expr} {t t' : L2.TT} (p : L2.PTs X es t) (i : ∀ σ H Q, t' σ H Q → t σ H Q) : L2.PTs X es t' := ⟨fun pins s σ H Q I q => p.run pins s σ H Q I (i σ H Q q)⟩
theorem dt_nil : DT c l [] bYes where
  mono := fun k _ q => k _ _ q
  run := fun X ok W tk => pts_imp L2.pts_nil fun σ H Q ⟨σd, h, s, q⟩ => q H Ex.rfl s
theorem dt_one {t : BB} (h : DB c l a t) : DT c l [a] t := ⟨h.mono, fun X ok W tk => L2.pts_one (h.run X ok W tk)⟩
/-- within a comprehension -/
def Lx.blk (l : Lx) (scope : Scope) : Lx := { l with sc := L2.relS scope l.sc, d := false }
theorem XOk.blk {X : Cx} (ok : XOk c l X) {scope : Scope} {own : List (Str × Nat)} (bo : L2.BlkOk l.N l.sc scope own) (s : Shared) (H : Hp) (C : Addr) (cl : List (Str × Addr)) (fp : List Addr) : XOk c (l.blk scope) (X.blk s H scope (compEnvC scope cl C X.env) fp) where
  P := ok.P
  w := ok.w
  K := ok.K
  mg := ok.mg
  base := ok.base
  N := ok.N
  nd := ok.nd
  sc := by
    show L2.relS scope X.env.scope = L2.relS scope l.sc
    rw [ok.sc]
  calm := ok.calm
  room := ok.room
  po := PassesOwn.never
  fnl := fun z => nomatch z
  kind := bo.kind
theorem wipe_len (σ : L2.St) (vs : List Nat) : (L2.wipe σ vs).length = σ.length := L2.wipe_length σ vs
theorem wipe_wipe : ∀ (vs ws : List Nat) (σ : L2.St), (∀ v ∈ vs, v ∈ ws) → L2.wipe (L2.wipe σ vs) ws = L2.wipe σ ws
  | [], _, _, _ => rfl
  | v :: vs, ws, σ, h => by
    show L2.wipe ((L2.wipe σ vs).set v none) ws = L2.wipe σ ws
    rw [wipe_set (h v List.mem_cons_self)]
    exact wipe_wipe vs ws σ fun x hx => h x (List.mem_cons_of_mem _ hx)
theorem loopC_mono {chk : DH → Prop} {g : GG} {t : BB} {p : Addr} {σ : S} {l' : Lx} {tg elt : Expr} {is : List Nat} {ifs : List Expr} (hg : DG c l' tg is g) (ht : DT c l' ifs t) (he : DE c l' elt te) {Q Q' : QD} (k : ∀ d h, Q d h → Q' d h) :
    ∀ {ds : List D} {h : DH}, loopC chk g t te p σ Q ds h → loopC chk g t te p σ Q' ds h
  | [], h, q => ⟨q.1, k _ _ q.2⟩
  | d :: ds, h, q => ⟨q.1, hg.mono (fun σ1 h1 z => ht.mono (fun b h2 z => by
      cases b
      · exact loopC_mono hg ht he k z
      · exact he.mono (fun y h3 z => by
          split at z
          · exact ⟨z.1, loopC_mono hg ht he k z.2⟩
          · exact z.elim) (fun _ _ z => z) z) (fun _ _ z => z) z) (fun _ _ z => z) q.2⟩
section
variable {tg iter elt : Expr} {ifs : List Expr} {scope : Scope} {own : List (Str × Nat)} {it : II} {g : GG} {t : BB} {is : List Nat}
theorem mono_lc {l' : Lx} (hi : DI c l tg iter it) (hg : DG c l' tg is g) (ht : DT c l' ifs t) (he : DE c l' elt te) {vs : List Nat} {σ : S} {h : DH} {Q Q' : QD} {E E' : QX} (k : ∀ d h, Q d h → Q' d h) (kE : ∀ x h, E x h → E' x h) (q : eLc it g t te vs σ h Q E) : eLc it g t te vs σ h Q' E' :=
  hi.mono (fun s h1 z p hp => loopC_mono hg ht he k (z p hp)) kE q
theorem lift_lc {l' : Lx} {W : WX} {vs : List Nat} (hi : DI c l tg iter it) (hg : DG c l' tg is g) (ht : DT c l' ifs t) (he : DE c l' elt te) (hv : ∀ i ∈ is, i ∈ vs) {σ : L2.St} {H : Hp} {Q : VK} (q : liftE c (eLc it g t te vs) W σ H Q) :
    L2.tLc (liftI c it W) (liftG c is g fun _ _ _ _ => False) (liftB c t fun _ _ _ _ => False) (liftE c te fun _ _ _ _ => False) vs σ H Q := by
  obtain ⟨σd, h, s, q⟩ := q
  refine ⟨σd, h, s, hi.mono (fun src h1 z J H1 e1 s1 iok D hD => ?_) (fun x h1 z => z) q⟩
  have z1 := z D (s1.cells.fresh hD)
  refine ⟨fun i m H' => m = src.items.length - i ∧ i ≤ src.items.length ∧ Ex c H1 H' ∧ ∃ h', SimH c h' H' ∧ loopC src.chk g t te D (wipe σd vs) (fun d h' => ∀ v H', Ex c H H' → Rep c H' d v → Sim c σd h' σ H' → Q v H') (src.items.drop i) h',
    ⟨_, rfl, Nat.zero_le _, .new hD, _, s1.cells.newL hD .nil, z1⟩, fun i m H' ⟨hm, hi', e2, h', s2, z⟩ => ?_⟩
  have s3 : Sim c σd h' σ H' := s1.ex e2 s2
  cases hd : src.items.drop i with
  | nil =>
    rw [hd] at z
    exact .inl ⟨(iok i H' h' e2 s2 z.1).2 (List.drop_eq_nil_iff.mp hd), z.2 _ H' (e1.trans e2) (.ref D) s3⟩
  | cons d ds =>
    rw [hd] at z
    have hlt : i < src.items.length := by
      rcases Nat.lt_or_ge i src.items.length with q | q
      · exact q
      · rw [List.drop_eq_nil_of_le q] at hd
        cases hd
    have hds : src.items.drop (i + 1) = ds := by
      rw [← List.tail_drop, hd]
      rfl
    have hd0 : src.items[i]? = some d := by
      have := List.head?_drop (l := src.items) (i := i)
      rw [hd] at this
      exact this.symm
    obtain ⟨go, yld⟩ := (iok i H' h' e2 s2 z.1).1 hlt
    refine .inr ⟨go, fun H2 => Ex c H1 H2 ∧ ∃ h2, SimH c h2 H2 ∧ loopC src.chk g t te D (wipe σd vs) (fun d h' => ∀ v H', Ex c H H' → Rep c H' d v → Sim c σd h' σ H' → Q v H') ds h2, fun H2 ⟨e3, h2, s4, z3⟩ => ?_, fun x H2 y => ?_⟩
    · refine ⟨src.items.length - (i + 1), by omega, rfl, by omega, e3, h2, s4, ?_⟩
      rw [hds]
      exact z3
    · obtain ⟨d', hd', e3, r3, s4⟩ := yld x H2 y
      have : d = d' := Option.some.inj (hd0.symm.trans hd')
      subst this
      refine ⟨d, wipe σd vs, h', r3, (s3.ex e3 s4).wipe vs, hg.mono (fun σ3 h3 z3 σ4 H4 e4 s5 hw => ?_) (fun x h3 z3 => False.elim z3) z.2⟩
      refine ⟨(hw vs hv).trans (wipe_wipe vs vs σ fun _ z => z), σ3, h3, s5, ht.mono (fun b h4 z4 H5 e5 s6 => ?_) (fun x h3 z3 => False.elim z3) z3⟩
      cases b with
      | false => exact ⟨((e2.trans e3).trans e4).trans e5, h4, s6.cells, z4⟩
      | true =>
        refine ⟨σ3, h4, s6, he.mono (fun y h5 z5 v6 H6 e6 r6 s7 => ?_) (fun x h3 z3 => False.elim z3) z4⟩
        split at z5
        · rename_i acc ea
          obtain ⟨ws, f, gr⟩ := s7.cells D _ ea
          have e7 : Ex c H6 (upd H6 D (.lst (ws ++ [v6]))) := .mut (by rw [f]; trivial)
          exact ⟨ws, f, by rw [← gr.length]; exact z5.1, (((((e2.trans e3).trans e4).trans e5).trans e6).trans e7), h5.upd D (.lst (acc ++ [y])), s7.cells.put e7 ⟨_, upd_same, (gr.append (.cons r6 .nil)).ex e7⟩, z5.2⟩
        · exact z5.elim
theorem de_lc (hi : DI c l tg iter it) (bo : L2.blkC l.N l.sc scope own = true) (hg : DG c (l.blk scope) tg is g) (ht : DT c (l.blk scope) ifs t) (he : DE c (l.blk scope) elt te) (hv : ∀ i ∈ is, i ∈ own.map (·.2)) (hs : ∀ env x, foldedSetIterable iter env x = pure x := by exact fun _ _ => rfl) :
    DE c l (.ListComp elt [⟨tg, iter, ifs, 0⟩] scope pos) (eLc it g t te (own.map (·.2))) where
  mono := mono_lc hi hg ht he
  run := fun X ok W tk => by
    have b1 := L2.blkOk_by bo
    have b2 : L2.BlkOk X.N X.env.scope scope own := by
      rw [ok.N, ok.sc]
      exact b1
    exact pe_imp (L2.pe_lc ok.calm (by rw [ok.N]; exact ok.nd) (hi.run X ok W tk) b2 (fun s H C cl fp => hg.run _ (ok.blk b1 s H C cl fp) _ L2.takes0) (fun s H C cl fp => ht.run _ (ok.blk b1 s H C cl fp) _ L2.takes0) (fun s H C cl fp => he.run _ (ok.blk b1 s H C cl fp) _ L2.takes0) (hs X.env)) fun σ H Q q => lift_lc hi hg ht he hv q
theorem ds_asgLc {i : Nat} {y : Str} {py spos : Pos} (hy : l.N[i]? = some y) (hyl : l.sc.names.lookup y = some .local) (hl : (py.line == pos.line) = true) (hn : (scope.names.any fun p => p.1 == y && (p.2 == .local || p.2 == .cell)) = false)
    (hi : DI c l tg iter it) (bo : L2.blkC l.N l.sc scope own = true) (hg : DG c (l.blk scope) tg is g) (ht : DT c (l.blk scope) ifs t) (he : DE c (l.blk scope) elt te) (hv : ∀ i ∈ is, i ∈ own.map (·.2)) (hs : ∀ env x, foldedSetIterable iter env x = pure x := by exact fun _ _ => rfl) :
    DS c l (.Assign [.Name y py] (.ListComp elt [⟨tg, iter, ifs, 0⟩] scope pos) spos) (sAsg (eLc it g t te (own.map (·.2))) (gName i)) where
  mono := fun {σ h K K'} k q => mono_lc hi hg ht he (fun d h1 z => k.nx _ _ z) (fun x h z => k.ex _ _ _ z) q
  run := fun X ok W tk => by
    have b1 := L2.blkOk_by bo
    have b2 : L2.BlkOk X.N X.env.scope scope own := by
      rw [ok.N, ok.sc]
      exact b1
    refine ps_imp (L2.ps_setLc (i := i) ok.calm (by rw [ok.N]; exact ok.nd) (by rw [ok.N]; exact hy) (by rw [ok.sc]; exact hyl) (L2.sw_true (by rw [ok.sc]; exact ok.kind) (by rw [ok.sc]; exact hyl) hl hn) (hi.run X ok W tk) b2 (fun s H C cl fp => hg.run _ (ok.blk b1 s H C cl fp) _ L2.takes0) (fun s H C cl fp => ht.run _ (ok.blk b1 s H C cl fp) _ L2.takes0)
      (fun s H C cl fp => he.run _ (ok.blk b1 s H C cl fp) _ L2.takes0) (hs X.env)) fun D σ H ⟨σd, h, s, q⟩ => ?_
    exact lift_lc (W := W) hi hg ht he hv ⟨σd, h, s, mono_lc hi hg ht he (fun d1 h1 z v1 H1 e1 r1 s1 => z _ H1 e1 (s1.set i r1)) (fun x h1 z cls d H' e r s' => z cls d σ H' e r s') q⟩
end
/-! dicts written with keys -/
structure DP (c : Cs) (l : Lx) (pos : Pos) (ks : List (Option Expr)) (vs : List Expr) (ps : List (EE × EE)) : Prop where
  mono : ∀ {σ : S} {h : DH} {Q Q' : List (D × D) → DH → Prop} {E E' : QX}, (∀ d h, Q d h → Q' d h) → (∀ x h, E x h → E' x h) → pairsD ps σ h Q E → pairsD ps σ h Q' E'
  run : ∀ (X : Cx), XOk c l X → ∀ W : WX, Takes X W → ∃ trs, L2.PPs X pos ks vs trs ∧ ∀ σ H Q, (∃ σd h, Sim c σd h σ H ∧ pairsD ps σd h (fun xs h' => ∀ ys H', ys.length = vs.length → Ex c H H' → Paired (fun (p : D × D) (q : V × V) => Rep c H' p.1 q.1 ∧ Rep c H' p.2 q.2) xs ys → Sim c σd h' σ H' → Q ys H')
    (fun x h' => ∀ cls d H', Ex c H H' → ExcR c H' x cls d → Sim c σd h' σ H' → W cls d σ H')) → L2.tPairs trs σ H Q
theorem dp_nil : DP c l pos [] [] [] where
  mono := fun k _ q => k _ _ q
  run := fun X ok W tk => ⟨[], L2.pps_nil, fun σ H Q ⟨σd, h, s, q⟩ => q [] H rfl Ex.rfl .nil s⟩
theorem dp_cons {ks : List (Option Expr)} {vs : List Expr} {ps : List (EE × EE)} (hk : DE c l a ta) (hv : DE c l b tb) (hr : DP c l pos ks vs ps) : DP c l pos (some a :: ks) (b :: vs) ((ta, tb) :: ps) where
  mono := fun k kE q => hk.mono (fun x h1 z => hv.mono (fun y h2 z => hr.mono (fun ps h3 z => k _ _ z) kE z) kE z) kE q
  run := fun X ok W tk => by
    obtain ⟨trs, p, q⟩ := hr.run X ok W tk
    refine ⟨_, L2.pps_cons (hk.run X ok W tk) (hv.run X ok W tk) p, fun σ H Q ⟨σd, h, s, z⟩ => ?_⟩
    refine liftE_seq hk s Ex.rfl z (fun x h' z => z) fun d1 h1 v1 H1 q1 e1 r1 s1 e1' => ?_
    refine liftE_seq hv s1 e1 q1 (fun x h' z => z) fun d2 h2 v2 H2 q2 e2 r2 s2 e2' => ?_
    refine q σ H2 _ ⟨σd, h2, s2, hr.mono (fun xs h3 z ys H3 hy e3 r3 s3 => ?_) (fun x h3 z cls d H3 e3 => z cls d H3 (e2.trans e3)) q2⟩
    exact z ((v1, v2) :: ys) H3 (by simp [hy]) (e2.trans e3) (.cons ⟨(r1.ex e2').ex e3, r2.ex e3⟩ r3) s3
theorem setK_merge {kvs : List (Ky × D)} {ws : List (Ky × V)} {H : Hp} (r : RepK c H kvs ws) : ∀ {xs : List (D × D)} {ys : List (V × V)} {us : List (Ky × D)}, Paired (fun (p : D × D) (q : V × V) => Rep c H p.1 q.1 ∧ Rep c H p.2 q.2) xs ys → putAll kvs xs = some us →
    ∃ zs : List (Ky × V), ys = zs.map (fun z => (L2.kV z.1, z.2)) ∧ RepK c H us (L2.mergeK ws zs) := fun {xs ys us} p e => by
  induction p generalizing kvs ws us with
  | nil =>
    cases e
    exact ⟨[], rfl, r⟩
  | @cons x y xs ys h t ih =>
    obtain ⟨x1, x2⟩ := x
    obtain ⟨y1, y2⟩ := y
    obtain ⟨h1, h2⟩ := h
    unfold putAll at e
    split at e
    · rename_i k ek
      obtain ⟨zs, e2, r2⟩ := ih (repK_set h2 r) e
      refine ⟨(k, y2) :: zs, ?_, r2⟩
      dsimp only at h1 h2
      rw [List.map_cons, ← e2, h1.key ek]
    · cases e
theorem de_dict {ks : List (Option Expr)} {vs : List Expr} {ps : List (EE × EE)} (hp : DP c l pos ks vs ps) (hall : ks.all (·.isSome) = true := by rfl) (hl : ks.length = vs.length := by rfl) (h0 : ks ≠ [] := by exact fun z => by cases z) (h15 : ks.length ≤ 15 := by decide) : DE c l (.Dict ks vs pos) (eDict ps) where
  mono := fun {σ h Q Q' E E'} k kE q p hp' => hp.mono (fun xs h1 z => by
    split at z
    · split at z
      · exact k _ _ z
      · exact z.elim
    · exact z.elim) kE (q p hp')
  run := fun X ok W tk => by
    obtain ⟨trs, p, q⟩ := hp.run X ok W tk
    refine pe_imp (L2.pe_disp p hall hl h0 h15) fun σ H Q ⟨σd, h, s, z⟩ => ?_
    intro p0 hp0
    have e0 : Ex c H (upd H p0 (.dK [])) := .new hp0
    have s0 : Sim c σd (h.upd p0 (.dk [])) σ (upd H p0 (.dK [])) := s.ex e0 (s.cells.put e0 ⟨[], upd_same, .nil⟩)
    refine q σ _ _ ⟨σd, _, s0, hp.mono (fun xs h1 z ys H1 hy e1 r1 s1 => ?_) (fun x h1 z cls d H1 e1 => z cls d H1 (e0.trans e1)) (z p0 (s.cells.fresh hp0))⟩
    split at z
    · rename_i e2
      split at z
      · rename_i us e3
        obtain ⟨ws, f, g⟩ := s1.cells p0 _ e2
        cases g
        obtain ⟨zs, e4, r4⟩ := setK_merge (c := c) (H := H1) (kvs := []) (ws := []) .nil r1 e3
        have e5 : Ex c H1 (upd H1 p0 (.dK (L2.mergeK [] zs))) := .mut (by rw [f]; trivial)
        have e6 : zs.length = vs.length := by
          rw [← hy, e4, List.length_map]
        exact ⟨f, zs, e4, by omega, z _ _ ((e0.trans e1).trans e5) (.ref p0) (s1.ex e5 (s1.cells.put e5 ⟨_, upd_same, r4.ex e5⟩))⟩
      · exact z.elim
    · exact z.elim
end T2
namespace T2
open PySem PySem.Spec PyProof.Rows
open L2 (V Hp HO upd upd_same upd_ne SqL SqT Rd RelV Vals PE PT PW PA PS PSs PI PG PGs Cx Inv Sp Room FnOk Binds VK XK WX Takes OpR CallR Cls It FunD FnScope)
variable {c : Cs} {l : Lx} {a b d e : Expr} {es : List Expr} {ta tb td te : EE} {pos : Pos}
/-! tables -/
structure TabAt (c : Cs) (x : Str) (tb : List (Str × Nat)) : Prop where
  ex : ∃ A es n, c.mg x = some (.ref A) ∧ L2.KDict c.K c.w A es n ∧ (∀ z i, getT tb z = some i → PySem.W.nsIn c.K A z = some (some (.ref (c.fa i)))) ∧ ∀ z, getT tb z = none → PySem.W.nsIn c.K A z = some none
theorem de_tab {x : Str} {t : List (Str × Nat)} {p : Pos} (T : TabAt c x t) (hg : l.sc.names.lookup x = some .globalImplicit) (ha : DE c l a ta) (hs : L2.PlainIx a := by exact fun _ _ => rfl) (hdb : (x == ("__debug__" : Str)) = false := by decide) : DE c l (.Subscript (.Name x p) a pos) (eTab t ta) where
  mono := fun k kE q => ha.mono (fun d h1 z => by
    cases d <;> first | exact z.elim | skip
    dsimp only at z ⊢
    split at z
    · exact k _ _ z
    · exact z.elim) kE q
  run := fun X ok W tk => by
    obtain ⟨A, ds, n, hm, D, hget, _⟩ := T.ex
    have hK := ok.K
    have hw := ok.w
    refine pe_imp (L2.pe_ix L2.ix_kdict (L2.pe_glob (v := .ref A) (by show X.env.scope.names.lookup x = _; rw [ok.sc]; exact hg) (by rw [ok.mg]; exact hm) rfl hdb) (ha.run X ok W tk) hs) fun σ H Q ⟨σd, h, s, q⟩ => ?_
    refine liftE_seq ha s Ex.rfl q (fun x h' z => z) fun d1 h1 v1 H1 q1 e1 r1 s1 e1' => ?_
    cases r1 <;> first | exact q1.elim | skip
    rename_i z
    dsimp only at q1
    split at q1
    · rename_i i ei
      refine ⟨A, z, .ref (c.fa i), rfl, rfl, ⟨ds, n, _, by rw [hK]; exact D.at_, by rw [hw]; exact D.lit, by rw [hK]; exact hget z i ei, rfl⟩, q1 _ H1 e1 (.fn i) s1⟩
    · exact q1.elim
theorem tab_in {t : List (Str × Nat)} {A : Addr} (z : Str) (hget : ∀ z i, getT t z = some i → PySem.W.nsIn c.K A z = some (some (.ref (c.fa i)))) (hmiss : ∀ z, getT t z = none → PySem.W.nsIn c.K A z = some none) : ∃ r, PySem.W.nsIn c.K A z = some r ∧ r.isSome = (getT t z).isSome := by
  cases e : getT t z with
  | none => exact ⟨none, hmiss z e, rfl⟩
  | some i => exact ⟨_, hget z i e, rfl⟩
theorem mono_inTab {t : List (Str × Nat)} {neg : Bool} (ha : DE c l a ta) {σ : S} {h : DH} {Q Q' : QD} {E E' : QX} (k : ∀ d h, Q d h → Q' d h) (kE : ∀ x h, E x h → E' x h) (q : eInTab t neg ta σ h Q E) : eInTab t neg ta σ h Q' E' :=
  ha.mono (fun d h1 z => by
    cases d <;> first | exact z.elim | exact k _ _ z) kE q
theorem lift_notInTab {x : Str} {t : List (Str × Nat)} {p : Pos} (T : TabAt c x t) (hg : l.sc.names.lookup x = some .globalImplicit) (ha : DE c l a ta) (hdb : (x == ("__debug__" : Str)) = false) {X : Cx} (ok : XOk c l X) {W : WX} (tk : Takes X W) :
    ∃ r, OpR X (compareOp .NotIn) r ∧ ∃ tn, PE X (.Name x p) tn ∧ ∀ σ H Q, liftE c (eInTab t true ta) W σ H Q → L2.tOp r (liftE c ta W) tn σ H Q := by
  obtain ⟨A, ds, n, hm, D, hget, hmiss⟩ := T.ex
  have hK := ok.K
  have D' : L2.KDict X.K X.w A ds n := by
    rw [ok.K, ok.w]
    exact D
  refine ⟨_, L2.op_notIn_kd D', _, L2.pe_glob (v := .ref A) (by show X.env.scope.names.lookup x = _; rw [ok.sc]; exact hg) (by rw [ok.mg]; exact hm) rfl hdb, fun σ H Q ⟨σd, h, s, q⟩ => ?_⟩
  refine liftE_seq ha s Ex.rfl q (fun x h' z => z) fun d1 h1 v1 H1 q1 e1 r1 s1 e1' => ?_
  cases r1 <;> first | exact q1.elim | skip
  rename_i z
  obtain ⟨r, hr, er⟩ := tab_in z hget hmiss
  refine ⟨z, r, rfl, rfl, by rw [hK]; exact hr, ?_⟩
  rw [er]
  exact q1 _ H1 e1 (.bl _) s1
theorem de_notInTab {x : Str} {t : List (Str × Nat)} {p : Pos} (T : TabAt c x t) (hg : l.sc.names.lookup x = some .globalImplicit) (ha : DE c l a ta) (hdb : (x == ("__debug__" : Str)) = false := by decide) : DE c l (.Compare a [.NotIn] [.Name x p] pos) (eInTab t true ta) where
  mono := mono_inTab ha
  run := fun X ok W tk => by
    obtain ⟨r, o, tn, pn, k⟩ := lift_notInTab (p := p) T hg ha hdb ok tk
    exact pe_imp (L2.pe_cmpR o (ha.run X ok W tk) pn rfl) k
theorem db_notInTab {x : Str} {t : List (Str × Nat)} {p : Pos} (T : TabAt c x t) (hg : l.sc.names.lookup x = some .globalImplicit) (ha : DE c l a ta) (hdb : (x == ("__debug__" : Str)) = false := by decide) : DB c l (.Compare a [.NotIn] [.Name x p] pos) (bE (eInTab t true ta)) where
  mono := mono_bE (de_notInTab (p := p) (pos := pos) T hg ha hdb)
  run := fun X ok W tk => by
    obtain ⟨r, o, tn, pn, k⟩ := lift_notInTab (p := p) T hg ha hdb ok tk
    refine pt_imp (L2.pt_cmpR o (ha.run X ok W tk) pn rfl) fun σ H Q ⟨σd, h, s, q⟩ => ?_
    refine k σ H (fun x H' => ∃ k, x = .bl k ∧ Q k H') ⟨σd, h, s, ha.mono (fun d h1 z => ?_) (fun _ _ z => z) q⟩
    cases d <;> first | exact z.elim | skip
    dsimp only at z ⊢
    intro v H1 e1 r1 s1
    cases r1
    exact ⟨_, rfl, z H1 e1 s1⟩
/-! programs -/
theorem WF_mono {tab : Nat → Option Decl} (H : ∀ i d, tab i = some d → ∀ cal : Nat → FnSem, (∀ j, MoF (cal j)) → ∀ {σ : S} {h : DH} {K K' : En}, EnLe K K' → d.body cal K σ h → d.body cal K' σ h) : ∀ n i, MoF (WF tab n i)
  | 0, i => fun ds h Q Q' E E' k kE q => (WF_zero q).elim
  | n + 1, i => fun ds h Q Q' E E' k kE q => by
    cases e : tab i with
    | none =>
      rw [WF, e] at q
      exact q.elim
    | some d =>
      rw [WF_succ e] at q ⊢
      refine ⟨q.1, H i d e _ (fun j => WF_mono H n j) (K := enF d.gc h Q E) (K' := enF d.gc h Q' E') ⟨fun _ _ z => k _ _ z, fun _ _ z => k _ _ z, fun _ _ z => z, fun _ _ z => z, fun _ _ _ z => kE _ _ z⟩ q.2⟩
/-- the i-th def of the table, as it stands, and its body's reading -/
structure DefOk (c : Cs) (tab : Nat → Option Decl) (i : Nat) (d : Decl) : Prop where
  ex : ∃ (x qual : Str) (params : Arguments) (body : List Stmt) (scope : Scope) (N ps : List Str) (fd : FuncData), FunD c.K x qual params body scope [] [] (c.fa i) fd ∧ FnScope N ps scope ∧ ps.length = d.np ∧ N.length = d.nl ∧ Binds c.K fd ps [] ∧
    ∀ (n : Nat) (cal : Nat → FnSem), (∀ j dj, tab j = some dj → FnAt c ⟨N, scope, true, n, cal⟩ j dj.np) → DSs c ⟨N, scope, true, n, cal⟩ body (d.body cal)
theorem sim_start {np nl : Nat} {N : List Str} {ds : List D} {vs : List V} {h : DH} {H : Hp} (r : Reps c H ds vs) (s : SimH c h H) (hv : vs.length = np) (hN : N.length = nl) : Sim c (startS np nl ds) h (L2.start N vs) H := by
  have hl : ds.length = vs.length := r.length
  refine ⟨by simp [startS, L2.start, hl, hv, hN], fun i d q => ?_, s⟩
  unfold startS at q
  rw [List.getElem?_append] at q
  split at q
  · rename_i hi
    rw [List.length_map] at hi
    rw [List.getElem?_map] at q
    cases e : ds[i]? with
    | none =>
      rw [e] at q
      cases q
    | some d' =>
      rw [e] at q
      cases q
      obtain ⟨v, h1, h2⟩ := r.get e
      refine ⟨v, ?_, h2⟩
      unfold L2.start
      rw [List.getElem?_append, if_pos (by rw [List.length_map, ← hl]; exact hi), List.getElem?_map, h1]
      rfl
  · rw [List.getElem?_replicate] at q
    split at q <;> cases q
theorem SimH.kept {g : Bool} {h h' : DH} {H : Hp} (s : SimH c h' H) : SimH c (keepTo g h h') H := by
  unfold keepTo
  split
  · exact s.gc
  · exact s
/-- what the table says, the machine does -/
theorem sound {tab : Nat → Option Decl} (hD : ∀ i d, tab i = some d → DefOk c tab i d) (hmo : ∀ n i, MoF (WF tab n i)) : ∀ (n i : Nat) (d : Decl), tab i = some d →
    ∃ fd ps, FnOk c.P c.w c.K c.mg c.base (L2.CX c.P c.w) n (c.fa i) fd ps (spL c (WF tab n i) d.np) ∧ Binds c.K fd ps [] ∧ ps.length = d.np
  | 0, i, d, hi => by
    obtain ⟨x, qual, params, body, scope, N, ps, fd, F, S, hps, hN, B, _⟩ := (hD i d hi).ex
    exact ⟨fd, ps, ⟨fun vs H Q E z => let ⟨_, _, _, _, _, q⟩ := z; (WF_zero q).elim, fun A outer s H args us vs Q E _ _ _ _ z => let ⟨_, _, _, _, _, q⟩ := z; (WF_zero q).elim⟩, B, hps⟩
  | n + 1, i, d, hi => by
    obtain ⟨x, qual, params, body, scope, N, ps, fd, F, S, hps, hN, B, hb⟩ := (hD i d hi).ex
    refine ⟨fd, ps, F.ok S (fun vs H Q E z => let ⟨_, _, _, _, h, _⟩ := z; h.trans hps.symm) (fun cdv A outer s H vs Q E hr z => ?_), B, hps⟩
    obtain ⟨ds, h, rs, sm, hv, q⟩ := z
    rw [WF_succ hi] at q
    obtain ⟨q1, q⟩ := q
    have body_ok := hb n (WF tab n) fun j dj hj => by
      obtain ⟨fd', ps', FO, B', _⟩ := sound hD hmo n j dj hj
      obtain ⟨_, _, _, _, _, _, _, fd2, F2, _⟩ := (hD j dj hj).ex
      exact ⟨⟨fd', ps', FO, B'⟩, F2.kp, hmo n j⟩
    refine ⟨_, body_ok.run _ ⟨rfl, rfl, rfl, rfl, rfl, rfl, S.nd, rfl, rfl, hr, L2.passes_of rfl, fun _ _ => rfl, S.kind⟩ (fun cls d _ H' => E cls d H') (L2.takes_of rfl rfl rfl rfl), ?_⟩
    refine ⟨startS d.np d.nl ds, h, sim_start rs sm hv hN, body_ok.mono (K := enF d.gc h (fun d h' => ∀ v H', Ex c H H' → Rep c H' d v → SimH c h' H' → Q v H') fun x h' => ∀ cls d H', Ex c H H' → ExcR c H' x cls d → SimH c h' H' → E cls d H') ⟨fun σ1 h1 z σ' H' e1 s1 => z .non H' e1 .non s1.cells.kept, fun d1 h1 z v H' e1 r1 s1 => z v H' e1 r1 s1.kept, fun _ _ z => False.elim z, fun _ _ z => False.elim z, fun x σ1 h1 z cls dd σ' H' e1 r1 s1 => z cls dd H' e1 r1 s1.cells.kept⟩ q⟩
end T2
namespace T2
open PySem PySem.Spec PyProof.Rows
open L2 (V Hp HO upd upd_same upd_ne SqL SqT Rd RelV Vals PE PT PW PA PS PSs PI PG PGs Cx Inv Sp Room FnOk Binds VK XK WX Takes OpR CallR Cls It FunD FnScope)
variable {c : Cs} {l : Lx} {a b d e : Expr} {es : List Expr} {ta tb td te : EE} {pos : Pos}
/-! T2L: small rules that the generated texts name. -/
structure VarOk (l : Lx) (i : Nat) (x : Str) : Prop where
  at_ : l.N[i]? = some x
  vis : L2.Vis l.sc x
  hd : (x == ("__debug__" : Str)) = false
  hcd : (x == ("__classdict__" : Str)) = false
theorem de_varO {i : Nat} {x : Str} (v : VarOk l i x) : DE c l (.Name x pos) (eVar i) := de_var v.at_ v.vis v.hd v.hcd
theorem FnAt.blk {i np : Nat} (F : FnAt c l i np) {s : Scope} : FnAt c (l.blk s) i np := ⟨F.ex, F.kp, F.mo⟩
theorem de_gint {x : Str} {i : Int} (hm : ∃ t, c.mg x = some (.int i t)) (hg : l.sc.names.lookup x = some .globalImplicit) (hd : (x == ("__debug__" : Str)) = false := by decide) : DE c l (.Name x pos) (eC (.int i)) :=
  let ⟨t, hm⟩ := hm
  de_glob (v := .int i) hm ⟨t, rfl⟩ (fun _ => .int i) hg hd
theorem de_gstr {x : Str} {i : Str} (hm : ∃ t, c.mg x = some (.str i t)) (hg : l.sc.names.lookup x = some .globalImplicit) (hd : (x == ("__debug__" : Str)) = false := by decide) : DE c l (.Name x pos) (eC (.str i)) :=
  let ⟨t, hm⟩ := hm
  de_glob (v := .str i) hm ⟨t, rfl⟩ (fun _ => .str i) hg hd
theorem de_fn {x : Str} {i : Nat} (hm : c.mg x = some (.ref (c.fa i))) (hg : l.sc.names.lookup x = some .globalImplicit) (hd : (x == ("__debug__" : Str)) = false := by decide) : DE c l (.Name x pos) (eC (.fn i)) :=
  de_glob (v := .ref (c.fa i)) hm rfl (fun _ => .fn i) hg hd
/-! reading expressions in direct style -/
theorem de_pu {f : PF} (he : DE c l e te) (p : Pu te f) : DE c l e (ePure f) where
  mono := fun k _ q => by
    obtain ⟨d, e1, q⟩ := onSome_ex q
    unfold ePure
    rw [e1]
    exact k _ _ q
  run := fun X ok W tk => pe_imp (he.run X ok W tk) fun σ H Q ⟨σd, h, s, q⟩ => ⟨σd, h, s, p _ _ _ _ q⟩
theorem db_pu {t : BB} {f : PB} (he : DB c l e t) (p : PuB t f) : DB c l e (bPure f) where
  mono := fun k _ q => by
    obtain ⟨d, e1, q⟩ := onSome_ex q
    unfold bPure
    rw [e1]
    exact k _ _ q
  run := fun X ok W tk => pt_imp (he.run X ok W tk) fun σ H Q ⟨σd, h, s, q⟩ => ⟨σd, h, s, p _ _ _ _ q⟩
theorem da_pu {t : AA} {f : PL} (he : DA c l es t) (p : PuA t f) : DA c l es (aPure f) where
  mono := fun k _ q => by
    obtain ⟨d, e1, q⟩ := onSome_ex q
    unfold aPure
    rw [e1]
    exact k _ _ q
  run := fun X ok W tk => pa_imp (he.run X ok W tk) fun σ H Q ⟨σd, h, s, q⟩ => ⟨σd, h, s, p _ _ _ _ q⟩
theorem ds_never {st : Stmt} : DS c l st sNever where
  mono := fun k q => q.elim
  run := fun X ok W tk => ps_imp L2.ps_never fun D σ H ⟨σd, h, s, q⟩ => q.elim
theorem op2i_add : Op2 c (inplaceOp .Add) rAddI where
  mono := fun x y h Q Q' k q => by
    cases x <;> cases y <;> first | exact k _ _ q | exact ⟨q.1, k _ _ q.2⟩ | exact q.elim
  run := fun l X ok pins s σ H x y v u Q I rx ry z => by
    obtain ⟨dx, dy, h, r1, r2, sm, q⟩ := z
    cases r1 <;> cases r2 <;> first | exact False.elim q | skip
    case int.int i j => exact L2.iop_add pins s σ H _ _ v u Q I rx ry ⟨i, j, rfl, rfl, q (.int _) H Ex.rfl (.int _) sm⟩
    case str.str i j => exact L2.iop_add_str pins s σ H _ _ v u Q I rx ry ⟨i, j, rfl, rfl, q.1, q.2 (.str _) H Ex.rfl (.str _) sm⟩
theorem op2i_sub : Op2 c (inplaceOp .Sub) rSub where
  mono := fun x y h Q Q' k q => by
    cases x <;> cases y <;> first | exact k _ _ q | exact q.elim
  run := fun l X ok pins s σ H x y v u Q I rx ry z => by
    obtain ⟨dx, dy, h, r1, r2, sm, q⟩ := z
    cases r1 <;> cases r2 <;> first | exact False.elim q | skip
    case int.int i j => exact L2.iop_sub pins s σ H _ _ v u Q I rx ry ⟨i, j, rfl, rfl, q (.int _) H Ex.rfl (.int _) sm⟩
end T2
namespace T2
open PySem PySem.Spec PyProof.Rows
open L2 (V Hp HO upd upd_same upd_ne SqL SqT Rd RelV Vals PE PT PW PA PS PSs PI PG PGs Cx Inv Sp Room FnOk Binds VK XK WX Takes OpR CallR Cls It FunD FnScope)
/-! T2M: soundness without a premise about the readings; the head: an own hook. -/
theorem sound1 {c : Cs} {tab : Nat → Option Decl} {n i : Nat} {d : Decl} (hi : tab i = some d) {x qual : Str} {params : Arguments} {body : List Stmt} {scope : Scope} {N ps : List Str} {fd : FuncData} (F : FunD c.K x qual params body scope [] [] (c.fa i) fd) (S : FnScope N ps scope) (hps : ps.length = d.np) (hN : N.length = d.nl)
    (body_ok : DSs c ⟨N, scope, true, n, WF tab n⟩ body (d.body (WF tab n))) : FnOk c.P c.w c.K c.mg c.base (L2.CX c.P c.w) (n + 1) (c.fa i) fd ps (spL c (WF tab (n + 1) i) d.np) := by
  refine F.ok S (fun vs H Q E z => let ⟨_, _, _, _, h, _⟩ := z; h.trans hps.symm) (fun cdv A outer s H vs Q E hr z => ?_)
  obtain ⟨ds, h, rs, sm, hv, q⟩ := z
  rw [WF_succ hi] at q
  obtain ⟨q1, q⟩ := q
  refine ⟨_, body_ok.run _ ⟨rfl, rfl, rfl, rfl, rfl, rfl, S.nd, rfl, rfl, hr, L2.passes_of rfl, fun _ _ => rfl, S.kind⟩ (fun cls d _ H' => E cls d H') (L2.takes_of rfl rfl rfl rfl), ?_⟩
  refine ⟨startS d.np d.nl ds, h, sim_start rs sm hv hN, body_ok.mono (K := enF d.gc h (fun d h' => ∀ v H', Ex c H H' → Rep c H' d v → SimH c h' H' → Q v H') fun x h' => ∀ cls d H', Ex c H H' → ExcR c H' x cls d → SimH c h' H' → E cls d H') ⟨fun σ1 h1 z σ' H' e1 s1 => z .non H' e1 .non s1.cells.kept, fun d1 h1 z v H' e1 r1 s1 => z v H' e1 r1 s1.kept, fun _ _ z => False.elim z, fun _ _ z => False.elim z, fun x σ1 h1 z cls dd σ' H' e1 r1 s1 => z cls dd H' e1 r1 s1.cells.kept⟩ q⟩
theorem fnAts {c : Cs} {tab : Nat → Option Decl} (hD : ∀ i d, tab i = some d → DefOk c tab i d) {n : Nat} (mo : ∀ i, MoF (WF tab n i)) (ih : ∀ (i : Nat) (d : Decl), tab i = some d →
    ∃ fd ps, FnOk c.P c.w c.K c.mg c.base (L2.CX c.P c.w) n (c.fa i) fd ps (spL c (WF tab n i) d.np) ∧ Binds c.K fd ps [] ∧ ps.length = d.np) (N : List Str) (scope : Scope) (j : Nat) (dj : Decl) (hj : tab j = some dj) : FnAt c ⟨N, scope, true, n, WF tab n⟩ j dj.np := by
  obtain ⟨fd', ps', FO, B', _⟩ := ih j dj hj
  obtain ⟨_, _, _, _, _, _, _, fd2, F2, _⟩ := (hD j dj hj).ex
  exact ⟨⟨fd', ps', FO, B'⟩, F2.kp, mo j⟩
theorem sound2 {c : Cs} {tab : Nat → Option Decl} (hD : ∀ i d, tab i = some d → DefOk c tab i d) : ∀ n : Nat, (∀ i, MoF (WF tab n i)) ∧ ∀ (i : Nat) (d : Decl), tab i = some d →
    ∃ fd ps, FnOk c.P c.w c.K c.mg c.base (L2.CX c.P c.w) n (c.fa i) fd ps (spL c (WF tab n i) d.np) ∧ Binds c.K fd ps [] ∧ ps.length = d.np
  | 0 => by
    refine ⟨fun i ds h Q Q' E E' k kE q => (WF_zero q).elim, fun i d hi => ?_⟩
    obtain ⟨x, qual, params, body, scope, N, ps, fd, F, S, hps, hN, B, _⟩ := (hD i d hi).ex
    exact ⟨fd, ps, ⟨fun vs H Q E z => let ⟨_, _, _, _, _, q⟩ := z; (WF_zero q).elim, fun A outer s H args us vs Q E _ _ _ _ z => let ⟨_, _, _, _, _, q⟩ := z; (WF_zero q).elim⟩, B, hps⟩
  | n + 1 => by
    obtain ⟨mo, ih⟩ := sound2 hD n
    refine ⟨fun i ds h Q Q' E E' k kE q => ?_, fun i d hi => ?_⟩
    · cases e : tab i with
      | none =>
        rw [WF, e] at q
        exact q.elim
      | some d =>
        obtain ⟨x, qual, params, body, scope, N, ps, fd, F, S, hps, hN, B, hb⟩ := (hD i d e).ex
        rw [WF_succ e] at q ⊢
        exact ⟨q.1, (hb n (WF tab n) fun j dj hj => fnAts hD mo ih N scope j dj hj).mono (K := enF d.gc h Q E) (K' := enF d.gc h Q' E') ⟨fun _ _ z => k _ _ z, fun _ _ z => k _ _ z, fun _ _ z => z, fun _ _ z => z, fun _ _ _ z => kE _ _ z⟩ q.2⟩
    · obtain ⟨x, qual, params, body, scope, N, ps, fd, F, S, hps, hN, B, hb⟩ := (hD i d hi).ex
      exact ⟨fd, ps, sound1 hi F S hps hN (hb n (WF tab n) fun j dj hj => fnAts hD mo ih N scope j dj hj), B, hps⟩
def CXany (P : Program) : L2.CXT := fun outer H s E u s' => ∃ w, L2.CX P w outer H s E u s'
theorem fn_any {P : Program} {w : World} {K : PySem.W.Frag} {mg : Str → Option Value} {base : Heap} {k : Nat} {f : Addr} {fd : FuncData} {ps : List Str} {sp : Sp} (F : FnOk P w K mg base (L2.CX P w) k f fd ps sp) : FnOk P w K mg base (CXany P) k f fd ps sp :=
  ⟨F.len, fun A outer s H args us vs Q E h1 h2 h3 h4 h5 => codeAny_mono (F.run A outer s H args us vs Q E h1 h2 h3 h4 h5) fun r s' z => by
    cases r with
    | ok r => cases r <;> exact z
    | error e => exact ⟨w, z⟩⟩
theorem cx_no {P : Program} (H : Hp) (s : Shared) (e : Value) (s' : Shared) : CXany P [] H s (fun _ _ _ => False) e s' → False := fun ⟨w, z⟩ => by
  obtain ⟨_, _, _, _, _, _, _, _, _, _, _, _, q⟩ := z
  exact q
theorem hV_of {c : Cs} {tab : Nat → Option Decl} {ars : List (Option Nat)} (h : ((List.range ars.length).all fun k => decide ((tab k).map Decl.np = ars[k]?.join)) = true) (l : Lx) (hF : ∀ j dj, tab j = some dj → FnAt c l j dj.np) (m k : Nat) (ok : ars[k]? = some (some m)) : FnAt c l k m := by
  have hk : k < ars.length := by
    rcases Nat.lt_or_ge k ars.length with q | q
    · exact q
    · rw [List.getElem?_eq_none q] at ok
      cases ok
  have h1 := of_decide_eq_true (List.all_eq_true.mp h k (List.mem_range.mpr hk))
  rw [ok] at h1
  cases e : tab k with
  | none =>
    rw [e] at h1
    cases h1
  | some d =>
    rw [e] at h1
    have h2 : d.np = m := Option.some.inj h1
    rw [← h2]
    exact hF k d e

/-! ### the hook -/
def refsQ (g : Addr → Option Obj) (as : List Addr) : List Addr := as.flatMap fun a => match g a with
  | some o => He.refsD o
  | none => []
def stepsQ (g : Addr → Option Obj) : Nat → List Addr → List Addr
  | 0, l => l
  | n + 1, l => l ++ stepsQ g n (refsQ g l)
def asQ (n : Nat) (g : Addr → Option Obj) : List Addr := stepsQ g n [mainGlobals]
def noList (K : PySem.W.Frag) : Bool := K.all fun p => match p.2.cls with
  | .type c => !decide (c = "list")
  | _ => true
/-- what the head must tell -/
structure HD where
  fnN : List Str
  freeN : List Str
  intN : List (Str × Int)
  strN : List (Str × Str)
  tabs : List (Str × List (Str × Str))
  fn : List He.DefD
  more : List He.Fa
def HD.fa (d : HD) : List He.Fa := d.fnN.map .glo ++ d.freeN.map .free ++ d.intN.map (fun p => .int p.1 p.2) ++ d.strN.map (fun p => .str p.1 p.2) ++ d.tabs.map (fun t => .glo t.1) ++ d.more
def HD.ts (d : HD) : List He.Tab := d.tabs.map fun t => (fun K => He.ga K t.1, t.2.map (·.1))
def HD.tabB (d : HD) (K : PySem.W.Frag) : Bool := d.tabs.all fun t => He.valsB K (He.ga K t.1) (t.2.map fun p => (p.1, .glo p.2))
abbrev AlQ : Type := He.AlT × Bool
def obsQ (d : HD) (K : PySem.W.Frag) : AlQ := (He.obsT d.fa d.fn d.ts K, noList K && d.tabB K)
def valQ (d : HD) (w : World) : AlQ := (He.valT d.fn d.ts w, true)
def obsQG (n : Nat) (d : HD) (g : Addr → Option Obj) : AlQ := obsQ d (He.frG g (asQ n g))
def SaysQ (d : HD) (w : World) (K : PySem.W.Frag) : Prop := obsQ d K = valQ d w
def hookQ (n : Nat) (d : HD) : PySem.W.Hook where
  α := AlQ
  obs := fun s => obsQG n d s.heap.get?
  val := fun w => valQ d w
  says := fun w h => ∃ K : PySem.W.Frag, K.In h ∧ SaysQ d w K
  of := fun _ _ e => ⟨_, He.frG_in, e⟩
  keeps := fun _ _ _ ⟨K, hK, c⟩ k => ⟨K, PySem.W.Frag.In.keeps hK k, c⟩
theorem obsQG_eq {n : Nat} {d : HD} {g : Addr → Option Obj} {s : Shared} (h : ∀ a, g a = s.heap.get? a) : obsQG n d g = (hookQ n d).obs s := by
  have e : g = s.heap.get? := funext h
  rw [e] <;> rfl
section
variable {d : HD} {w : World} {K : PySem.W.Frag} {h : Heap} {mg : Str → Option Value}
theorem SaysQ.t (c : SaysQ d w K) : He.SaysT d.fa d.fn d.ts w K := congrArg (fun z : AlQ => z.1) c
theorem SaysQ.noList (c : SaysQ d w K) : T2.noList K = true := (He.ba (congrArg (fun z : AlQ => z.2) c)).1
theorem SaysQ.tabB (c : SaysQ d w K) : d.tabB K = true := (He.ba (congrArg (fun z : AlQ => z.2) c)).2
theorem SaysQ.mem (c : SaysQ d w K) {f : He.Fa} (m : f ∈ d.fa) : f.ok K = true := by
  obtain ⟨i, hi⟩ := List.getElem?_of_mem m
  exact c.t.d.fact i hi
theorem SaysQ.glo (c : SaysQ d w K) (X : K.In h) (G : h.Ns mainGlobals mg) (i : Nat) (x : Str) (e : d.fnN[i]? = some x) : mg x = some (.ref (He.ga K (d.fnN.getD i ⟨#[]⟩))) := by
  have e2 : d.fnN.getD i ⟨#[]⟩ = x := by
    rw [List.getD_eq_getElem?_getD, e]
    rfl
  rw [e2]
  refine He.glo_ok X G (c.mem (f := .glo x) ?_)
  unfold HD.fa
  simp only [List.mem_append]
  exact .inl (.inl (.inl (.inl (.inl (List.mem_map_of_mem (List.mem_of_getElem? e))))))
theorem SaysQ.free (c : SaysQ d w K) (X : K.In h) (G : h.Ns mainGlobals mg) (i : Nat) (x : Str) (e : d.freeN[i]? = some x) : mg x = none := by
  refine He.free_ok X G (c.mem (f := .free x) ?_)
  unfold HD.fa
  simp only [List.mem_append]
  exact .inl (.inl (.inl (.inl (.inr (List.mem_map_of_mem (List.mem_of_getElem? e))))))
theorem SaysQ.gi (c : SaysQ d w K) (X : K.In h) (G : h.Ns mainGlobals mg) (i : Nat) (p : Str × Int) (e : d.intN[i]? = some p) : ∃ t, mg p.1 = some (.int p.2 t) := by
  refine He.int_ok X G (c.mem (f := .int p.1 p.2) ?_)
  unfold HD.fa
  simp only [List.mem_append]
  exact .inl (.inl (.inl (.inr (List.mem_map.mpr ⟨p, List.mem_of_getElem? e, rfl⟩))))
theorem SaysQ.gs (c : SaysQ d w K) (X : K.In h) (G : h.Ns mainGlobals mg) (i : Nat) (p : Str × Str) (e : d.strN[i]? = some p) : ∃ t, mg p.1 = some (.str p.2 t) := by
  refine He.str_ok X G (c.mem (f := .str p.1 p.2) ?_)
  unfold HD.fa
  simp only [List.mem_append]
  exact .inl (.inl (.inr (List.mem_map.mpr ⟨p, List.mem_of_getElem? e, rfl⟩)))
theorem getT_mem {z : Str} {i : Nat} : ∀ {tb : List (Str × Nat)}, getT tb z = some i → (z, i) ∈ tb
  | [], e => nomatch e
  | (q, j) :: r, e => by
    unfold getT at e
    split at e
    · rename_i h
      cases e
      rw [h]
      exact List.mem_cons_self
    · exact List.mem_cons_of_mem _ (getT_mem e)
theorem getT_none {z : Str} : ∀ {tb : List (Str × Nat)}, getT tb z = none → z ∉ tb.map (·.1)
  | [], _ => by simp
  | (q, j) :: r, e => by
    unfold getT at e
    split at e
    · cases e
    · rename_i h
      simp only [List.map_cons, List.mem_cons, not_or]
      exact ⟨fun z => h z.symm, getT_none e⟩
theorem miss_of {z : Str} {P : Params} : ∀ {l : List DictEntry} {ks : List Str}, l.map He.keyOf = He.keysIn P ks → z ∉ ks → l.find? (·.key.isStr z) = none ∧ l.any (·.refKey) = false
  | [], _, _, _ => ⟨rfl, rfl⟩
  | e :: r, [], h, _ => by cases h
  | e :: r, k :: ks, h, n => by
    have h1 : He.keyOf e :: r.map He.keyOf = some (k, PyData.keyHash P k) :: He.keysIn P ks := h
    injection h1 with h2 h3
    obtain ⟨i1, i2⟩ := miss_of h3 fun q => n (List.mem_cons_of_mem _ q)
    unfold He.keyOf at h2
    split at h2
    · rename_i x t q
      obtain ⟨h5, h6⟩ := Prod.mk.inj (Option.some.inj h2)
      have h7 : e.key.isStr z = false := by
        rw [q]
        show (x == z) = false
        rw [h5]
        refine beq_eq_false_iff_ne.mpr fun y => n ?_
        rw [y]
        exact List.mem_cons_self
      have h8 : e.refKey = false := by
        unfold DictEntry.refKey
        rw [q]
      refine ⟨?_, ?_⟩
      · rw [List.find?_cons, h7]
        exact i1
      · rw [List.any_cons, h8, i2]
        rfl
    · cases h2
theorem SaysQ.tab (c : SaysQ d w K) (X : K.In h) (G : h.Ns mainGlobals mg) {k : Cs} (hK : k.K = K) (hw : k.w = w) (hm : k.mg = mg) (names : List Str) (hfa : ∀ i, k.fa i = He.ga K (names.getD i ⟨#[]⟩)) (i : Nat) {x : Str} {kvs : List (Str × Str)} {tb : List (Str × Nat)} (ht : d.tabs[i]? = some (x, kvs)) (hkv : tb.map (fun p => (p.1, names.getD p.2 ⟨#[]⟩)) = kvs) : TabAt k x tb := by
  subst hK hw hm
  have hg : k.mg x = some (.ref (He.ga k.K x)) := by
    refine He.glo_ok X G (c.mem (f := .glo x) ?_)
    unfold HD.fa
    simp only [List.mem_append]
    exact .inl (.inr (List.mem_map.mpr ⟨(x, kvs), List.mem_of_getElem? ht, rfl⟩))
  have e1 : d.ts[i]? = some (fun K => He.ga K x, kvs.map (·.1)) := by
    unfold HD.ts
    rw [List.getElem?_map, ht]
    rfl
  have ed : He.dicW k.K (He.ga k.K x) = some (He.keysIn k.w.params (kvs.map (·.1))) := by
    have e : d.ts.map (fun t => He.dicW k.K (t.1 k.K)) = d.ts.map fun t => some (He.keysIn k.w.params t.2) := congrArg (fun z : He.AlT => z.2) c.t
    have e2 : (d.ts.map fun t => He.dicW k.K (t.1 k.K))[i]? = (d.ts.map fun t => some (He.keysIn k.w.params t.2))[i]? := by rw [e]
    rw [List.getElem?_map, List.getElem?_map, e1] at e2
    exact Option.some.inj e2
  obtain ⟨es, n, D⟩ := He.dicW_ok ed
  have hv : He.valsB k.K (He.ga k.K x) (kvs.map fun p => (p.1, .glo p.2)) = true := List.all_eq_true.mp c.tabB _ (List.mem_of_getElem? ht)
  refine ⟨_, es, n, hg, D, fun z i hz => ?_, fun z hz => ?_⟩
  · have m := getT_mem hz
    have m2 : (z, He.Dv.glo (names.getD i ⟨#[]⟩)) ∈ kvs.map fun p => (p.1, He.Dv.glo p.2) := by
      rw [← hkv, List.map_map]
      exact List.mem_map.mpr ⟨(z, i), m, rfl⟩
    obtain ⟨u, h1, h2⟩ := He.valsB_ok hv m2
    rw [h1, hfa i]
    have h3 : u = .ref (He.ga k.K (names.getD i ⟨#[]⟩)) := h2
    rw [h3]
  · have m := getT_none hz
    have m2 : z ∉ kvs.map (·.1) := by
      rw [← hkv, List.map_map]
      exact m
    unfold He.dicW at ed
    rw [D.at_] at ed
    dsimp only at ed
    split at ed
    · obtain ⟨h1, h2⟩ := miss_of (Option.some.inj ed) m2
      unfold PySem.W.nsIn
      rw [D.at_]
      dsimp only
      rw [h1, h2]
      rfl
    · cases ed
theorem noList_not (c : T2.noList K = true) {a : Addr} {o : Obj} (e : K.lookup a = some o) : o.cls ≠ .type "list" := fun z => by
  have m : (a, o) ∈ K := by
    clear c z
    induction K with
    | nil => cases e
    | cons p r ih =>
      obtain ⟨b, u⟩ := p
      rw [List.lookup_cons] at e
      split at e
      · rename_i q
        have := eq_of_beq q
        cases e
        rw [this]
        exact List.mem_cons_self
      · exact List.mem_cons_of_mem _ (ih e)
  have h1 := List.all_eq_true.mp c _ m
  dsimp only at h1
  rw [z] at h1
  cases h1
end
/-- the promise of a law's def: for scripts of n ints at most -/
theorem law_sp {c : Cs} {f : FnSem} (mo : MoF f) {n : Nat} (nl : noList c.K = true) (hp : ∀ (a : Addr) (ns : List Int), ns.length ≤ n → f [.ref a] (DH.emp.upd a (.frz (ns.map D.int))) (fun d _ => d = .bl true) fun _ _ => False)
    (H : Hp) (a : Addr) (ns : List Int) (hl : ns.length ≤ n) (hS : SqL c.K H a (ns.map V.int)) : spL c f 1 [.ref a] H (fun v _ => v = .bl true) fun _ _ _ => False := by
  have hR : Rd H a (.lst (ns.map V.int)) := by
    rcases hS with q | ⟨o, its, n, e, k, _⟩
    · exact q
    · exact absurd k (noList_not nl e)
  refine ⟨[.ref a], DH.emp.upd a (.frz (ns.map D.int)), .cons (.ref a) .nil, fun b o ho => ?_, rfl, mo _ _ _ _ _ _ (fun d h' z v H' e r s => ?_) (fun x h' z => z.elim) (hp a ns hl)⟩
  · rw [DH.upd_f] at ho
    split at ho
    · rename_i q
      cases ho
      subst q
      exact ⟨_, hR, reps_ints⟩
    · cases ho
  · subst z
    cases r
    rfl
end T2
namespace K13
open PySem PySem.Spec PyProof.Rows T2
open L2 (defScope defBody defArgs)
def top (i : Nat) : Stmt := PySem.Challenge.pw_wakethrift_k13_whole_lazy_looks.main.body.getD i (.Pass ⟨0, 0, 0, 0⟩)
def fnN : List Str := (["is_integer", "is_instant", "is_number", "is_name", "is_row", "is_list_of", "ascends", "all_unlike", "is_window", "is_windows", "is_moments", "is_timer", "is_place", "is_hands", "is_lot", "is_pair", "is_plan", "is_weight", "is_relief", "is_load", "is_count", "is_looks", "is_deed", "is_ledger", "is_cells", "is_design", "is_promise_row", "is_promise", "is_table_row", "is_loose_place"] : List Str) ++ (["is_loose_timer", "is_loose", "is_picks", "is_burden", "is_rate", "is_due", "is_slack", "is_arc", "is_chain", "is_ring_timer", "is_beat", "is_beats", "is_ring", "is_wheel_count", "is_cell_sum", "is_timers", "is_rows", "is_table", "word_of", "fits_parts", "is_question", "is_paper", "check_kind", "is_a", "require", "lazy_calls", "all_served", "fewest_looks", "most_apart", "serves_all"] : List Str) ++ (["span_holds", "span_within", "holds", "is_within", "are_apart", "common", "_law_jar", "_law_take", "_law_like", "_law_lazy", "_law_windows", "_law_frame", "_law_rising", "_law_moments", "_law_held", "_law_common", "_law_stabs", "_law_pair", "_law_near", "_law_hand", "_law_all", "law"] : List Str)
def freeN : List Str := (["bool", "isinstance", "int", "tuple", "len", "range", "str", "list", "any", "max", "min", "abs", "sorted"] : List Str)
def intN : List (Str × Int) := ([("LAST_INSTANT", 1000000000)] : List (Str × Int))
def strN : List (Str × Str) := ([] : List (Str × Str))
structure Gd (c : Cs) : Prop where
  fn : ∀ (i : Nat) (x : Str), fnN[i]? = some x → c.mg x = some (.ref (c.fa i))
  free : ∀ (i : Nat) (x : Str), freeN[i]? = some x → c.mg x = none
  gi : ∀ (i : Nat) (p : Str × Int), intN[i]? = some p → ∃ t, c.mg p.1 = some (.int p.2 t)
  gs : ∀ (i : Nat) (p : Str × Str), strN[i]? = some p → ∃ t, c.mg p.1 = some (.str p.2 t)
  tab_CHECKS : TabAt c "CHECKS" tb_CHECKS
section
variable {c : Cs}
def l0 (n : Nat) (cal : Nat → FnSem) : Lx := ⟨["value", "low", "high"], defScope (top 8), true, n, cal⟩
theorem va0_0 {n : Nat} {cal : Nat → FnSem} : VarOk (l0 n cal) 0 "value" := ⟨rfl, .inl (by kernel_rfl), by kernel_rfl, by kernel_rfl⟩
theorem gl0_bool {n : Nat} {cal : Nat → FnSem} : (l0 n cal).sc.names.lookup ("bool" : Str) = some .globalImplicit := by kernel_rfl
theorem gl0_isinstance {n : Nat} {cal : Nat → FnSem} : (l0 n cal).sc.names.lookup ("isinstance" : Str) = some .globalImplicit := by kernel_rfl
theorem gl0_int {n : Nat} {cal : Nat → FnSem} : (l0 n cal).sc.names.lookup ("int" : Str) = some .globalImplicit := by kernel_rfl
theorem va0_1 {n : Nat} {cal : Nat → FnSem} : VarOk (l0 n cal) 1 "low" := ⟨rfl, .inl (by kernel_rfl), by kernel_rfl, by kernel_rfl⟩
theorem va0_2 {n : Nat} {cal : Nat → FnSem} : VarOk (l0 n cal) 2 "high" := ⟨rfl, .inl (by kernel_rfl), by kernel_rfl, by kernel_rfl⟩
theorem o0 (G : Gd c) (n : Nat) (cal : Nat → FnSem) (hF : ∀ j dj, tab j = some dj → FnAt c (l0 n cal) j dj.np) (hV : ∀ m k, okN m k = true → FnAt c (l0 n cal) k m) : DSs c (l0 n cal) (defBody (top 8)) (b0 cal) :=
  dss_cons (ds_if (db_pu (db_w (dw_or (db_e (de_bi opl_isa (G.free 1 _ rfl) (by kernel_rfl) gl0_isinstance (da_cons (de_varO va0_0) (da_cons (de_ty (G.free 0 _ rfl) (by kernel_rfl) gl0_bool) (da_nil))))) (dw_or1 (db_not (db_e (de_bi opl_isa (G.free 1 _ rfl) (by kernel_rfl) gl0_isinstance (da_cons (de_varO va0_0) (da_cons (de_ty (G.free 2 _ rfl) (by kernel_rfl) gl0_int) (da_nil))))))))) (pub_or (pu_e (pu_isa (pu_var))) (pub_not (pu_e (pu_isa (pu_var)))))) (dss_one (ds_ret (de_bl))) (dss_nil))
    (dss_one (ds_ret (de_pu (de_chain op2_le op2_le (de_varO va0_1) (de_varO va0_0) (de_varO va0_2)) (pu_chain pur_le pur_le (pu_var) (pu_var) (pu_var)))))
theorem s0 : L2.FnScope ["value", "low", "high"] ["value", "low", "high"] (defScope (top 8)) := ⟨rfl, rfl, rfl, by decide +kernel, rfl, by decide +kernel, by decide +kernel⟩
theorem k0 (G : Gd c) (hV : ∀ l : Lx, (∀ j dj, tab j = some dj → FnAt c l j dj.np) → ∀ m k, okN m k = true → FnAt c l k m) (h : ∃ fd, L2.FunD c.K "is_integer" "is_integer" (defArgs (top 8)) (defBody (top 8)) (defScope (top 8)) [] [] (c.fa 0) fd) : DefOk c tab 0 d0 := by
  obtain ⟨fd, F⟩ := h
  exact ⟨_, _, _, _, _, ["value", "low", "high"], ["value", "low", "high"], fd, F, s0, rfl, rfl, F.bindsN fun _ _ _ _ _ _ us hl => match us, hl with | [_, _, _], _ => rfl, fun n cal hF => o0 G n cal hF (hV _ hF)⟩
def l1 (n : Nat) (cal : Nat → FnSem) : Lx := ⟨["value"], defScope (top 9), true, n, cal⟩
theorem va1_0 {n : Nat} {cal : Nat → FnSem} : VarOk (l1 n cal) 0 "value" := ⟨rfl, .inl (by kernel_rfl), by kernel_rfl, by kernel_rfl⟩
theorem gl1_LAST_INSTANT {n : Nat} {cal : Nat → FnSem} : (l1 n cal).sc.names.lookup ("LAST_INSTANT" : Str) = some .globalImplicit := by kernel_rfl
theorem gl1_is_integer {n : Nat} {cal : Nat → FnSem} : (l1 n cal).sc.names.lookup ("is_integer" : Str) = some .globalImplicit := by kernel_rfl
theorem o1 (G : Gd c) (n : Nat) (cal : Nat → FnSem) (hF : ∀ j dj, tab j = some dj → FnAt c (l1 n cal) j dj.np) (hV : ∀ m k, okN m k = true → FnAt c (l1 n cal) k m) : DSs c (l1 n cal) (defBody (top 9)) (b1 cal) :=
  dss_one (ds_ret (de_call (hF 0 _ rfl) (G.fn 0 _ rfl) gl1_is_integer (da_cons (de_varO va1_0) (da_cons (de_int) (da_cons (de_gint (G.gi 0 _ rfl) gl1_LAST_INSTANT) (da_nil))))))
theorem s1 : L2.FnScope ["value"] ["value"] (defScope (top 9)) := ⟨rfl, rfl, rfl, by decide +kernel, rfl, by decide +kernel, by decide +kernel⟩
theorem k1 (G : Gd c) (hV : ∀ l : Lx, (∀ j dj, tab j = some dj → FnAt c l j dj.np) → ∀ m k, okN m k = true → FnAt c l k m) (h : ∃ fd, L2.FunD c.K "is_instant" "is_instant" (defArgs (top 9)) (defBody (top 9)) (defScope (top 9)) [] [] (c.fa 1) fd) : DefOk c tab 1 d1 := by
  obtain ⟨fd, F⟩ := h
  exact ⟨_, _, _, _, _, ["value"], ["value"], fd, F, s1, rfl, rfl, F.bindsN fun _ _ _ _ _ _ us hl => match us, hl with | [_], _ => rfl, fun n cal hF => o1 G n cal hF (hV _ hF)⟩
def l4 (n : Nat) (cal : Nat → FnSem) : Lx := ⟨["value", "size"], defScope (top 12), true, n, cal⟩
theorem va4_0 {n : Nat} {cal : Nat → FnSem} : VarOk (l4 n cal) 0 "value" := ⟨rfl, .inl (by kernel_rfl), by kernel_rfl, by kernel_rfl⟩
theorem gl4_tuple {n : Nat} {cal : Nat → FnSem} : (l4 n cal).sc.names.lookup ("tuple" : Str) = some .globalImplicit := by kernel_rfl
theorem gl4_isinstance {n : Nat} {cal : Nat → FnSem} : (l4 n cal).sc.names.lookup ("isinstance" : Str) = some .globalImplicit := by kernel_rfl
theorem gl4_len {n : Nat} {cal : Nat → FnSem} : (l4 n cal).sc.names.lookup ("len" : Str) = some .globalImplicit := by kernel_rfl
theorem va4_1 {n : Nat} {cal : Nat → FnSem} : VarOk (l4 n cal) 1 "size" := ⟨rfl, .inl (by kernel_rfl), by kernel_rfl, by kernel_rfl⟩
theorem o4 (G : Gd c) (n : Nat) (cal : Nat → FnSem) (hF : ∀ j dj, tab j = some dj → FnAt c (l4 n cal) j dj.np) (hV : ∀ m k, okN m k = true → FnAt c (l4 n cal) k m) : DSs c (l4 n cal) (defBody (top 12)) (b4 cal) :=
  dss_one (ds_ret (de_pu (de_and (de_bi opl_isa (G.free 1 _ rfl) (by kernel_rfl) gl4_isinstance (da_cons (de_varO va4_0) (da_cons (de_ty (G.free 3 _ rfl) (by kernel_rfl) gl4_tuple) (da_nil)))) (de_one (de_cmp op2_eq (de_bi opl_len (G.free 4 _ rfl) (by kernel_rfl) gl4_len (da_cons (de_varO va4_0) (da_nil))) (de_varO va4_1)))) (pu_and (pu_isa (pu_var)) (pu_bin pur_eq (pu_bi1 pur_len (pu_var)) (pu_var)))))
theorem s4 : L2.FnScope ["value", "size"] ["value", "size"] (defScope (top 12)) := ⟨rfl, rfl, rfl, by decide +kernel, rfl, by decide +kernel, by decide +kernel⟩
theorem k4 (G : Gd c) (hV : ∀ l : Lx, (∀ j dj, tab j = some dj → FnAt c l j dj.np) → ∀ m k, okN m k = true → FnAt c l k m) (h : ∃ fd, L2.FunD c.K "is_row" "is_row" (defArgs (top 12)) (defBody (top 12)) (defScope (top 12)) [] [] (c.fa 4) fd) : DefOk c tab 4 d4 := by
  obtain ⟨fd, F⟩ := h
  exact ⟨_, _, _, _, _, ["value", "size"], ["value", "size"], fd, F, s4, rfl, rfl, F.bindsN fun _ _ _ _ _ _ us hl => match us, hl with | [_, _], _ => rfl, fun n cal hF => o4 G n cal hF (hV _ hF)⟩
def l5 (n : Nat) (cal : Nat → FnSem) : Lx := ⟨["value", "low", "high", "check", "part"], defScope (top 13), true, n, cal⟩
theorem va5_0 {n : Nat} {cal : Nat → FnSem} : VarOk (l5 n cal) 0 "value" := ⟨rfl, .inl (by kernel_rfl), by kernel_rfl, by kernel_rfl⟩
theorem gl5_tuple {n : Nat} {cal : Nat → FnSem} : (l5 n cal).sc.names.lookup ("tuple" : Str) = some .globalImplicit := by kernel_rfl
theorem gl5_isinstance {n : Nat} {cal : Nat → FnSem} : (l5 n cal).sc.names.lookup ("isinstance" : Str) = some .globalImplicit := by kernel_rfl
theorem gl5_len {n : Nat} {cal : Nat → FnSem} : (l5 n cal).sc.names.lookup ("len" : Str) = some .globalImplicit := by kernel_rfl
theorem va5_1 {n : Nat} {cal : Nat → FnSem} : VarOk (l5 n cal) 1 "low" := ⟨rfl, .inl (by kernel_rfl), by kernel_rfl, by kernel_rfl⟩
theorem va5_2 {n : Nat} {cal : Nat → FnSem} : VarOk (l5 n cal) 2 "high" := ⟨rfl, .inl (by kernel_rfl), by kernel_rfl, by kernel_rfl⟩
theorem va5_4 {n : Nat} {cal : Nat → FnSem} : VarOk (l5 n cal) 4 "part" := ⟨rfl, .inl (by kernel_rfl), by kernel_rfl, by kernel_rfl⟩
theorem o5 (G : Gd c) (n : Nat) (cal : Nat → FnSem) (hF : ∀ j dj, tab j = some dj → FnAt c (l5 n cal) j dj.np) (hV : ∀ m k, okN m k = true → FnAt c (l5 n cal) k m) : DSs c (l5 n cal) (defBody (top 13)) (b5 cal) :=
  dss_cons (ds_if (db_pu (db_not (db_e (de_bi opl_isa (G.free 1 _ rfl) (by kernel_rfl) gl5_isinstance (da_cons (de_varO va5_0) (da_cons (de_ty (G.free 3 _ rfl) (by kernel_rfl) gl5_tuple) (da_nil)))))) (pub_not (pu_e (pu_isa (pu_var))))) (dss_one (ds_ret (de_bl))) (dss_nil))
    (dss_cons (ds_if (db_pu (db_w (dw_or (db_cmp op2_lt bo_lt (de_bi opl_len (G.free 4 _ rfl) (by kernel_rfl) gl5_len (da_cons (de_varO va5_0) (da_nil))) (de_varO va5_1)) (dw_or1 (db_cmp op2_gt bo_gt (de_bi opl_len (G.free 4 _ rfl) (by kernel_rfl) gl5_len (da_cons (de_varO va5_0) (da_nil))) (de_varO va5_2))))) (pub_or (pu_e (pu_bin pur_lt (pu_bi1 pur_len (pu_var)) (pu_var))) (pu_e (pu_bin pur_gt (pu_bi1 pur_len (pu_var)) (pu_var))))) (dss_one (ds_ret (de_bl))) (dss_nil))
    (dss_cons (ds_for (di_seq (de_varO va5_0)) (dg_name rfl (.inl (by kernel_rfl)) (.inl rfl)) (dss_one (ds_if (db_not (db_e (de_callV (fun k hk => (hV 1 k hk)) rfl (.inl (by kernel_rfl)) (da_cons (de_varO va5_4) (da_nil))))) (dss_one (ds_ret (de_bl))) (dss_nil))))
    (dss_one (ds_ret (de_bl)))))
theorem s5 : L2.FnScope ["value", "low", "high", "check", "part"] ["value", "low", "high", "check"] (defScope (top 13)) := ⟨rfl, rfl, rfl, by decide +kernel, rfl, by decide +kernel, by decide +kernel⟩
theorem k5 (G : Gd c) (hV : ∀ l : Lx, (∀ j dj, tab j = some dj → FnAt c l j dj.np) → ∀ m k, okN m k = true → FnAt c l k m) (h : ∃ fd, L2.FunD c.K "is_list_of" "is_list_of" (defArgs (top 13)) (defBody (top 13)) (defScope (top 13)) [] [] (c.fa 5) fd) : DefOk c tab 5 d5 := by
  obtain ⟨fd, F⟩ := h
  exact ⟨_, _, _, _, _, ["value", "low", "high", "check", "part"], ["value", "low", "high", "check"], fd, F, s5, rfl, rfl, F.bindsN fun _ _ _ _ _ _ us hl => match us, hl with | [_, _, _, _], _ => rfl, fun n cal hF => o5 G n cal hF (hV _ hF)⟩
def l6 (n : Nat) (cal : Nat → FnSem) : Lx := ⟨["numbers", "at"], defScope (top 14), true, n, cal⟩
theorem va6_0 {n : Nat} {cal : Nat → FnSem} : VarOk (l6 n cal) 0 "numbers" := ⟨rfl, .inl (by kernel_rfl), by kernel_rfl, by kernel_rfl⟩
theorem gl6_len {n : Nat} {cal : Nat → FnSem} : (l6 n cal).sc.names.lookup ("len" : Str) = some .globalImplicit := by kernel_rfl
theorem gl6_range {n : Nat} {cal : Nat → FnSem} : (l6 n cal).sc.names.lookup ("range" : Str) = some .globalImplicit := by kernel_rfl
theorem va6_1 {n : Nat} {cal : Nat → FnSem} : VarOk (l6 n cal) 1 "at" := ⟨rfl, .inl (by kernel_rfl), by kernel_rfl, by kernel_rfl⟩
theorem o6 (G : Gd c) (n : Nat) (cal : Nat → FnSem) (hF : ∀ j dj, tab j = some dj → FnAt c (l6 n cal) j dj.np) (hV : ∀ m k, okN m k = true → FnAt c (l6 n cal) k m) : DSs c (l6 n cal) (defBody (top 14)) (b6 cal) :=
  dss_cons (ds_for (di_rng2 (G.free 5 _ rfl) gl6_range (de_int) (de_pu (de_bi opl_len (G.free 4 _ rfl) (by kernel_rfl) gl6_len (da_cons (de_varO va6_0) (da_nil))) (pu_bi1 pur_len (pu_var)))) (dg_name rfl (.inl (by kernel_rfl)) (.inl rfl)) (dss_one (ds_if (db_pu (db_not (db_cmp op2_lt bo_lt (de_ix (de_varO va6_0) (de_bin op2_sub (de_varO va6_1) (de_int))) (de_ix (de_varO va6_0) (de_varO va6_1)))) (pub_not (pu_e (pu_bin pur_lt (pu_bin pur_ix (pu_var) (pu_bin pur_sub (pu_var) (pu_c))) (pu_bin pur_ix (pu_var) (pu_var)))))) (dss_one (ds_ret (de_bl))) (dss_nil))))
    (dss_one (ds_ret (de_bl)))
theorem s6 : L2.FnScope ["numbers", "at"] ["numbers"] (defScope (top 14)) := ⟨rfl, rfl, rfl, by decide +kernel, rfl, by decide +kernel, by decide +kernel⟩
theorem k6 (G : Gd c) (hV : ∀ l : Lx, (∀ j dj, tab j = some dj → FnAt c l j dj.np) → ∀ m k, okN m k = true → FnAt c l k m) (h : ∃ fd, L2.FunD c.K "ascends" "ascends" (defArgs (top 14)) (defBody (top 14)) (defScope (top 14)) [] [] (c.fa 6) fd) : DefOk c tab 6 d6 := by
  obtain ⟨fd, F⟩ := h
  exact ⟨_, _, _, _, _, ["numbers", "at"], ["numbers"], fd, F, s6, rfl, rfl, F.bindsN fun _ _ _ _ _ _ us hl => match us, hl with | [_], _ => rfl, fun n cal hF => o6 G n cal hF (hV _ hF)⟩
def l8 (n : Nat) (cal : Nat → FnSem) : Lx := ⟨["value"], defScope (top 17), true, n, cal⟩
theorem va8_0 {n : Nat} {cal : Nat → FnSem} : VarOk (l8 n cal) 0 "value" := ⟨rfl, .inl (by kernel_rfl), by kernel_rfl, by kernel_rfl⟩
theorem gl8_is_row {n : Nat} {cal : Nat → FnSem} : (l8 n cal).sc.names.lookup ("is_row" : Str) = some .globalImplicit := by kernel_rfl
theorem gl8_is_instant {n : Nat} {cal : Nat → FnSem} : (l8 n cal).sc.names.lookup ("is_instant" : Str) = some .globalImplicit := by kernel_rfl
theorem o8 (G : Gd c) (n : Nat) (cal : Nat → FnSem) (hF : ∀ j dj, tab j = some dj → FnAt c (l8 n cal) j dj.np) (hV : ∀ m k, okN m k = true → FnAt c (l8 n cal) k m) : DSs c (l8 n cal) (defBody (top 17)) (b8 cal) :=
  dss_cons (ds_if (db_not (db_e (de_call (hF 4 _ rfl) (G.fn 4 _ rfl) gl8_is_row (da_cons (de_varO va8_0) (da_cons (de_int) (da_nil)))))) (dss_one (ds_ret (de_bl))) (dss_nil))
    (dss_cons (ds_if (db_w (dw_or (db_not (db_e (de_call (hF 1 _ rfl) (G.fn 1 _ rfl) gl8_is_instant (da_pu (da_cons (de_ix (de_varO va8_0) (de_int)) (da_nil)) (pua_cons (pu_bin pur_ix (pu_var) (pu_c)) (pua_nil)))))) (dw_or1 (db_not (db_e (de_call (hF 1 _ rfl) (G.fn 1 _ rfl) gl8_is_instant (da_pu (da_cons (de_ix (de_varO va8_0) (de_int)) (da_nil)) (pua_cons (pu_bin pur_ix (pu_var) (pu_c)) (pua_nil))))))))) (dss_one (ds_ret (de_bl))) (dss_nil))
    (dss_one (ds_ret (de_pu (de_cmp op2_le (de_ix (de_varO va8_0) (de_int)) (de_ix (de_varO va8_0) (de_int))) (pu_bin pur_le (pu_bin pur_ix (pu_var) (pu_c)) (pu_bin pur_ix (pu_var) (pu_c)))))))
theorem s8 : L2.FnScope ["value"] ["value"] (defScope (top 17)) := ⟨rfl, rfl, rfl, by decide +kernel, rfl, by decide +kernel, by decide +kernel⟩
theorem k8 (G : Gd c) (hV : ∀ l : Lx, (∀ j dj, tab j = some dj → FnAt c l j dj.np) → ∀ m k, okN m k = true → FnAt c l k m) (h : ∃ fd, L2.FunD c.K "is_window" "is_window" (defArgs (top 17)) (defBody (top 17)) (defScope (top 17)) [] [] (c.fa 8) fd) : DefOk c tab 8 d8 := by
  obtain ⟨fd, F⟩ := h
  exact ⟨_, _, _, _, _, ["value"], ["value"], fd, F, s8, rfl, rfl, F.bindsN fun _ _ _ _ _ _ us hl => match us, hl with | [_], _ => rfl, fun n cal hF => o8 G n cal hF (hV _ hF)⟩
def l9 (n : Nat) (cal : Nat → FnSem) : Lx := ⟨["value"], defScope (top 18), true, n, cal⟩
theorem va9_0 {n : Nat} {cal : Nat → FnSem} : VarOk (l9 n cal) 0 "value" := ⟨rfl, .inl (by kernel_rfl), by kernel_rfl, by kernel_rfl⟩
theorem gl9_is_window {n : Nat} {cal : Nat → FnSem} : (l9 n cal).sc.names.lookup ("is_window" : Str) = some .globalImplicit := by kernel_rfl
theorem gl9_is_list_of {n : Nat} {cal : Nat → FnSem} : (l9 n cal).sc.names.lookup ("is_list_of" : Str) = some .globalImplicit := by kernel_rfl
theorem o9 (G : Gd c) (n : Nat) (cal : Nat → FnSem) (hF : ∀ j dj, tab j = some dj → FnAt c (l9 n cal) j dj.np) (hV : ∀ m k, okN m k = true → FnAt c (l9 n cal) k m) : DSs c (l9 n cal) (defBody (top 18)) (b9 cal) :=
  dss_one (ds_ret (de_call (hF 5 _ rfl) (G.fn 5 _ rfl) gl9_is_list_of (da_cons (de_varO va9_0) (da_cons (de_int) (da_cons (de_int) (da_cons (de_fn (G.fn 8 _ rfl) gl9_is_window) (da_nil)))))))
theorem s9 : L2.FnScope ["value"] ["value"] (defScope (top 18)) := ⟨rfl, rfl, rfl, by decide +kernel, rfl, by decide +kernel, by decide +kernel⟩
theorem k9 (G : Gd c) (hV : ∀ l : Lx, (∀ j dj, tab j = some dj → FnAt c l j dj.np) → ∀ m k, okN m k = true → FnAt c l k m) (h : ∃ fd, L2.FunD c.K "is_windows" "is_windows" (defArgs (top 18)) (defBody (top 18)) (defScope (top 18)) [] [] (c.fa 9) fd) : DefOk c tab 9 d9 := by
  obtain ⟨fd, F⟩ := h
  exact ⟨_, _, _, _, _, ["value"], ["value"], fd, F, s9, rfl, rfl, F.bindsN fun _ _ _ _ _ _ us hl => match us, hl with | [_], _ => rfl, fun n cal hF => o9 G n cal hF (hV _ hF)⟩
def l10 (n : Nat) (cal : Nat → FnSem) : Lx := ⟨["value"], defScope (top 19), true, n, cal⟩
theorem va10_0 {n : Nat} {cal : Nat → FnSem} : VarOk (l10 n cal) 0 "value" := ⟨rfl, .inl (by kernel_rfl), by kernel_rfl, by kernel_rfl⟩
theorem gl10_is_instant {n : Nat} {cal : Nat → FnSem} : (l10 n cal).sc.names.lookup ("is_instant" : Str) = some .globalImplicit := by kernel_rfl
theorem gl10_is_list_of {n : Nat} {cal : Nat → FnSem} : (l10 n cal).sc.names.lookup ("is_list_of" : Str) = some .globalImplicit := by kernel_rfl
theorem gl10_ascends {n : Nat} {cal : Nat → FnSem} : (l10 n cal).sc.names.lookup ("ascends" : Str) = some .globalImplicit := by kernel_rfl
theorem o10 (G : Gd c) (n : Nat) (cal : Nat → FnSem) (hF : ∀ j dj, tab j = some dj → FnAt c (l10 n cal) j dj.np) (hV : ∀ m k, okN m k = true → FnAt c (l10 n cal) k m) : DSs c (l10 n cal) (defBody (top 19)) (b10 cal) :=
  dss_one (ds_ret (de_and (de_call (hF 5 _ rfl) (G.fn 5 _ rfl) gl10_is_list_of (da_cons (de_varO va10_0) (da_cons (de_int) (da_cons (de_int) (da_cons (de_fn (G.fn 1 _ rfl) gl10_is_instant) (da_nil)))))) (de_one (de_call (hF 6 _ rfl) (G.fn 6 _ rfl) gl10_ascends (da_cons (de_varO va10_0) (da_nil))))))
theorem s10 : L2.FnScope ["value"] ["value"] (defScope (top 19)) := ⟨rfl, rfl, rfl, by decide +kernel, rfl, by decide +kernel, by decide +kernel⟩
theorem k10 (G : Gd c) (hV : ∀ l : Lx, (∀ j dj, tab j = some dj → FnAt c l j dj.np) → ∀ m k, okN m k = true → FnAt c l k m) (h : ∃ fd, L2.FunD c.K "is_moments" "is_moments" (defArgs (top 19)) (defBody (top 19)) (defScope (top 19)) [] [] (c.fa 10) fd) : DefOk c tab 10 d10 := by
  obtain ⟨fd, F⟩ := h
  exact ⟨_, _, _, _, _, ["value"], ["value"], fd, F, s10, rfl, rfl, F.bindsN fun _ _ _ _ _ _ us hl => match us, hl with | [_], _ => rfl, fun n cal hF => o10 G n cal hF (hV _ hF)⟩
def l52 (n : Nat) (cal : Nat → FnSem) : Lx := ⟨["kind"], defScope (top 70), true, n, cal⟩
theorem va52_0 {n : Nat} {cal : Nat → FnSem} : VarOk (l52 n cal) 0 "kind" := ⟨rfl, .inl (by kernel_rfl), by kernel_rfl, by kernel_rfl⟩
theorem gl52_CHECKS {n : Nat} {cal : Nat → FnSem} : (l52 n cal).sc.names.lookup ("CHECKS" : Str) = some .globalImplicit := by kernel_rfl
theorem gl52_str {n : Nat} {cal : Nat → FnSem} : (l52 n cal).sc.names.lookup ("str" : Str) = some .globalImplicit := by kernel_rfl
theorem gl52_isinstance {n : Nat} {cal : Nat → FnSem} : (l52 n cal).sc.names.lookup ("isinstance" : Str) = some .globalImplicit := by kernel_rfl
theorem o52 (G : Gd c) (n : Nat) (cal : Nat → FnSem) (hF : ∀ j dj, tab j = some dj → FnAt c (l52 n cal) j dj.np) (hV : ∀ m k, okN m k = true → FnAt c (l52 n cal) k m) : DSs c (l52 n cal) (defBody (top 70)) (b52 cal) :=
  dss_one (ds_if (db_w (dw_or (db_pu (db_not (db_e (de_bi opl_isa (G.free 1 _ rfl) (by kernel_rfl) gl52_isinstance (da_cons (de_varO va52_0) (da_cons (de_ty (G.free 6 _ rfl) (by kernel_rfl) gl52_str) (da_nil)))))) (pub_not (pu_e (pu_isa (pu_var))))) (dw_or1 (db_notInTab G.tab_CHECKS gl52_CHECKS (de_varO va52_0))))) (dss_one (ds_never)) (dss_nil))
theorem s52 : L2.FnScope ["kind"] ["kind"] (defScope (top 70)) := ⟨rfl, rfl, rfl, by decide +kernel, rfl, by decide +kernel, by decide +kernel⟩
theorem k52 (G : Gd c) (hV : ∀ l : Lx, (∀ j dj, tab j = some dj → FnAt c l j dj.np) → ∀ m k, okN m k = true → FnAt c l k m) (h : ∃ fd, L2.FunD c.K "check_kind" "check_kind" (defArgs (top 70)) (defBody (top 70)) (defScope (top 70)) [] [] (c.fa 52) fd) : DefOk c tab 52 d52 := by
  obtain ⟨fd, F⟩ := h
  exact ⟨_, _, _, _, _, ["kind"], ["kind"], fd, F, s52, rfl, rfl, F.bindsN fun _ _ _ _ _ _ us hl => match us, hl with | [_], _ => rfl, fun n cal hF => o52 G n cal hF (hV _ hF)⟩
def l53 (n : Nat) (cal : Nat → FnSem) : Lx := ⟨["kind", "value", "check"], defScope (top 71), true, n, cal⟩
theorem va53_0 {n : Nat} {cal : Nat → FnSem} : VarOk (l53 n cal) 0 "kind" := ⟨rfl, .inl (by kernel_rfl), by kernel_rfl, by kernel_rfl⟩
theorem gl53_check_kind {n : Nat} {cal : Nat → FnSem} : (l53 n cal).sc.names.lookup ("check_kind" : Str) = some .globalImplicit := by kernel_rfl
theorem gl53_CHECKS {n : Nat} {cal : Nat → FnSem} : (l53 n cal).sc.names.lookup ("CHECKS" : Str) = some .globalImplicit := by kernel_rfl
theorem va53_1 {n : Nat} {cal : Nat → FnSem} : VarOk (l53 n cal) 1 "value" := ⟨rfl, .inl (by kernel_rfl), by kernel_rfl, by kernel_rfl⟩
theorem o53 (G : Gd c) (n : Nat) (cal : Nat → FnSem) (hF : ∀ j dj, tab j = some dj → FnAt c (l53 n cal) j dj.np) (hV : ∀ m k, okN m k = true → FnAt c (l53 n cal) k m) : DSs c (l53 n cal) (defBody (top 71)) (b53 cal) :=
  dss_cons (ds_expr (de_call (hF 52 _ rfl) (G.fn 52 _ rfl) gl53_check_kind (da_cons (de_varO va53_0) (da_nil))))
    (dss_cons (ds_asgN (de_tab G.tab_CHECKS gl53_CHECKS (de_varO va53_0)) rfl (.inl (by kernel_rfl)) (.inl rfl))
    (dss_one (ds_ret (de_callV (fun k hk => (hV 1 k hk)) rfl (.inl (by kernel_rfl)) (da_cons (de_varO va53_1) (da_nil))))))
theorem s53 : L2.FnScope ["kind", "value", "check"] ["kind", "value"] (defScope (top 71)) := ⟨rfl, rfl, rfl, by decide +kernel, rfl, by decide +kernel, by decide +kernel⟩
theorem k53 (G : Gd c) (hV : ∀ l : Lx, (∀ j dj, tab j = some dj → FnAt c l j dj.np) → ∀ m k, okN m k = true → FnAt c l k m) (h : ∃ fd, L2.FunD c.K "is_a" "is_a" (defArgs (top 71)) (defBody (top 71)) (defScope (top 71)) [] [] (c.fa 53) fd) : DefOk c tab 53 d53 := by
  obtain ⟨fd, F⟩ := h
  exact ⟨_, _, _, _, _, ["kind", "value", "check"], ["kind", "value"], fd, F, s53, rfl, rfl, F.bindsN fun _ _ _ _ _ _ us hl => match us, hl with | [_, _], _ => rfl, fun n cal hF => o53 G n cal hF (hV _ hF)⟩
def l54 (n : Nat) (cal : Nat → FnSem) : Lx := ⟨["kind", "value", "check"], defScope (top 72), true, n, cal⟩
theorem va54_0 {n : Nat} {cal : Nat → FnSem} : VarOk (l54 n cal) 0 "kind" := ⟨rfl, .inl (by kernel_rfl), by kernel_rfl, by kernel_rfl⟩
theorem gl54_CHECKS {n : Nat} {cal : Nat → FnSem} : (l54 n cal).sc.names.lookup ("CHECKS" : Str) = some .globalImplicit := by kernel_rfl
theorem va54_1 {n : Nat} {cal : Nat → FnSem} : VarOk (l54 n cal) 1 "value" := ⟨rfl, .inl (by kernel_rfl), by kernel_rfl, by kernel_rfl⟩
theorem o54 (G : Gd c) (n : Nat) (cal : Nat → FnSem) (hF : ∀ j dj, tab j = some dj → FnAt c (l54 n cal) j dj.np) (hV : ∀ m k, okN m k = true → FnAt c (l54 n cal) k m) : DSs c (l54 n cal) (defBody (top 72)) (b54 cal) :=
  dss_cons (ds_asgN (de_tab G.tab_CHECKS gl54_CHECKS (de_varO va54_0)) rfl (.inl (by kernel_rfl)) (.inl rfl))
    (dss_one (ds_if (db_not (db_e (de_callV (fun k hk => (hV 1 k hk)) rfl (.inl (by kernel_rfl)) (da_cons (de_varO va54_1) (da_nil))))) (dss_one (ds_never)) (dss_nil)))
theorem s54 : L2.FnScope ["kind", "value", "check"] ["kind", "value"] (defScope (top 72)) := ⟨rfl, rfl, rfl, by decide +kernel, rfl, by decide +kernel, by decide +kernel⟩
theorem k54 (G : Gd c) (hV : ∀ l : Lx, (∀ j dj, tab j = some dj → FnAt c l j dj.np) → ∀ m k, okN m k = true → FnAt c l k m) (h : ∃ fd, L2.FunD c.K "require" "require" (defArgs (top 72)) (defBody (top 72)) (defScope (top 72)) [] [] (c.fa 54) fd) : DefOk c tab 54 d54 := by
  obtain ⟨fd, F⟩ := h
  exact ⟨_, _, _, _, _, ["kind", "value", "check"], ["kind", "value"], fd, F, s54, rfl, rfl, F.bindsN fun _ _ _ _ _ _ us hl => match us, hl with | [_, _], _ => rfl, fun n cal hF => o54 G n cal hF (hV _ hF)⟩
def l55 (n : Nat) (cal : Nat → FnSem) : Lx := ⟨["windows", "left", "calls", "caller", "window", "at"], defScope (top 74), true, n, cal⟩
theorem va55_0 {n : Nat} {cal : Nat → FnSem} : VarOk (l55 n cal) 0 "windows" := ⟨rfl, .inl (by kernel_rfl), by kernel_rfl, by kernel_rfl⟩
theorem gl55_list {n : Nat} {cal : Nat → FnSem} : (l55 n cal).sc.names.lookup ("list" : Str) = some .globalImplicit := by kernel_rfl
theorem va55_1 {n : Nat} {cal : Nat → FnSem} : VarOk (l55 n cal) 1 "left" := ⟨rfl, .inl (by kernel_rfl), by kernel_rfl, by kernel_rfl⟩
theorem va55_4 {n : Nat} {cal : Nat → FnSem} : VarOk (l55 n cal) 4 "window" := ⟨rfl, .inl (by kernel_rfl), by kernel_rfl, by kernel_rfl⟩
theorem va55_3 {n : Nat} {cal : Nat → FnSem} : VarOk (l55 n cal) 3 "caller" := ⟨rfl, .inl (by kernel_rfl), by kernel_rfl, by kernel_rfl⟩
theorem va55_2 {n : Nat} {cal : Nat → FnSem} : VarOk (l55 n cal) 2 "calls" := ⟨rfl, .inl (by kernel_rfl), by kernel_rfl, by kernel_rfl⟩
theorem gl55_tuple {n : Nat} {cal : Nat → FnSem} : (l55 n cal).sc.names.lookup ("tuple" : Str) = some .globalImplicit := by kernel_rfl
theorem o55 (G : Gd c) (n : Nat) (cal : Nat → FnSem) (hF : ∀ j dj, tab j = some dj → FnAt c (l55 n cal) j dj.np) (hV : ∀ m k, okN m k = true → FnAt c (l55 n cal) k m) : DSs c (l55 n cal) (defBody (top 74)) (b55 cal) :=
  dss_cons (ds_asgN (de_bty opl_list (G.free 7 _ rfl) (by kernel_rfl) gl55_list (da_cons (de_varO va55_0) (da_nil))) rfl (.inl (by kernel_rfl)) (.inl rfl))
    (dss_cons (ds_asgN (de_lst (da_nil)) rfl (.inl (by kernel_rfl)) (.inl rfl))
    (dss_cons (ds_while (db_pu (db_e (de_varO va55_1)) (pu_e (pu_var))) (dss_cons (ds_asgN (de_pu (de_ix (de_varO va55_1) (de_int)) (pu_bin pur_ix (pu_var) (pu_c))) rfl (.inl (by kernel_rfl)) (.inl rfl))
    (dss_cons (ds_for (di_seq (de_varO va55_1)) (dg_name rfl (.inl (by kernel_rfl)) (.inl rfl)) (dss_one (ds_if (db_pu (db_cmp op2_lt bo_lt (de_ix (de_varO va55_4) (de_int)) (de_ix (de_varO va55_3) (de_int))) (pu_e (pu_bin pur_lt (pu_bin pur_ix (pu_var) (pu_c)) (pu_bin pur_ix (pu_var) (pu_c))))) (dss_one (ds_asgN (de_varO va55_4) rfl (.inl (by kernel_rfl)) (.inl rfl))) (dss_nil))))
    (dss_cons (ds_expr (de_bm opm_append (.inl rfl) PySem.F.plainAttrs_list PySem.F.slot_list_append PySem.F.type_list_append (de_varO va55_2) (da_cons (de_varO va55_3) (da_nil))))
    (dss_cons (ds_asgN (de_pu (de_ix (de_varO va55_3) (de_int)) (pu_bin pur_ix (pu_var) (pu_c))) rfl (.inr (by kernel_rfl)) (.inl rfl))
    (dss_one (ds_asgLc rfl (by kernel_rfl) (by kernel_rfl) (by kernel_rfl) (own := [("window", 4)]) (di_seq (de_varO va55_1)) (by kernel_rfl) (dg_name rfl (.inl (by kernel_rfl)) (.inr (by kernel_rfl))) (dt_one (db_pu (db_not (db_chain op2_le op2_le bo_le (de_ix (de_var rfl (.inl (by kernel_rfl)) (by kernel_rfl) (by kernel_rfl)) (de_int)) (de_var rfl (.inr (.inl (by kernel_rfl))) (by kernel_rfl) (by kernel_rfl)) (de_ix (de_var rfl (.inl (by kernel_rfl)) (by kernel_rfl) (by kernel_rfl)) (de_int)))) (pub_not (pu_e (pu_chain pur_le pur_le (pu_bin pur_ix (pu_var) (pu_c)) (pu_var) (pu_bin pur_ix (pu_var) (pu_c))))))) (de_var rfl (.inl (by kernel_rfl)) (by kernel_rfl) (by kernel_rfl)) (by simp))))))))
    (dss_one (ds_ret (de_pu (de_bty opl_tuple (G.free 3 _ rfl) (by kernel_rfl) gl55_tuple (da_cons (de_varO va55_2) (da_nil))) (pu_bi1 pur_tuple (pu_var)))))))
theorem s55 : L2.FnScope ["windows", "left", "calls", "caller", "window", "at"] ["windows"] (defScope (top 74)) := ⟨rfl, rfl, rfl, by decide +kernel, rfl, by decide +kernel, by decide +kernel⟩
theorem k55 (G : Gd c) (hV : ∀ l : Lx, (∀ j dj, tab j = some dj → FnAt c l j dj.np) → ∀ m k, okN m k = true → FnAt c l k m) (h : ∃ fd, L2.FunD c.K "lazy_calls" "lazy_calls" (defArgs (top 74)) (defBody (top 74)) (defScope (top 74)) [] [] (c.fa 55) fd) : DefOk c tab 55 d55 := by
  obtain ⟨fd, F⟩ := h
  exact ⟨_, _, _, _, _, ["windows", "left", "calls", "caller", "window", "at"], ["windows"], fd, F, s55, rfl, rfl, F.bindsN fun _ _ _ _ _ _ us hl => match us, hl with | [_], _ => rfl, fun n cal hF => o55 G n cal hF (hV _ hF)⟩
def l56 (n : Nat) (cal : Nat → FnSem) : Lx := ⟨["moments", "windows", "first", "last", "moment"], defScope (top 75), true, n, cal⟩
theorem va56_1 {n : Nat} {cal : Nat → FnSem} : VarOk (l56 n cal) 1 "windows" := ⟨rfl, .inl (by kernel_rfl), by kernel_rfl, by kernel_rfl⟩
theorem va56_0 {n : Nat} {cal : Nat → FnSem} : VarOk (l56 n cal) 0 "moments" := ⟨rfl, .inl (by kernel_rfl), by kernel_rfl, by kernel_rfl⟩
theorem gl56_any {n : Nat} {cal : Nat → FnSem} : (l56 n cal).sc.names.lookup ("any" : Str) = some .globalImplicit := by kernel_rfl
theorem o56 (G : Gd c) (n : Nat) (cal : Nat → FnSem) (hF : ∀ j dj, tab j = some dj → FnAt c (l56 n cal) j dj.np) (hV : ∀ m k, okN m k = true → FnAt c (l56 n cal) k m) : DSs c (l56 n cal) (defBody (top 75)) (b56 cal) :=
  dss_cons (ds_for (di_seq (de_varO va56_1)) (dg_tup (dgn_cons rfl (.inr (by kernel_rfl)) (.inl rfl) (dgn_cons rfl (.inr (by kernel_rfl)) (.inl rfl) (dgn_nil)))) (dss_one (ds_if (db_not (db_e (de_bi opl_any (G.free 8 _ rfl) (by kernel_rfl) gl56_any (da_cons (de_lc (own := [("moment", 4)]) (di_seq (de_varO va56_0)) (by kernel_rfl) (dg_name rfl (.inl (by kernel_rfl)) (.inr (by kernel_rfl))) (dt_nil) (de_pu (de_chain op2_le op2_le (de_var rfl (.inr (.inl (by kernel_rfl))) (by kernel_rfl) (by kernel_rfl)) (de_var rfl (.inl (by kernel_rfl)) (by kernel_rfl) (by kernel_rfl)) (de_var rfl (.inr (.inl (by kernel_rfl))) (by kernel_rfl) (by kernel_rfl))) (pu_chain pur_le pur_le (pu_var) (pu_var) (pu_var))) (by simp)) (da_nil))))) (dss_one (ds_ret (de_bl))) (dss_nil))))
    (dss_one (ds_ret (de_bl)))
theorem s56 : L2.FnScope ["moments", "windows", "first", "last", "moment"] ["moments", "windows"] (defScope (top 75)) := ⟨rfl, rfl, rfl, by decide +kernel, rfl, by decide +kernel, by decide +kernel⟩
theorem k56 (G : Gd c) (hV : ∀ l : Lx, (∀ j dj, tab j = some dj → FnAt c l j dj.np) → ∀ m k, okN m k = true → FnAt c l k m) (h : ∃ fd, L2.FunD c.K "all_served" "all_served" (defArgs (top 75)) (defBody (top 75)) (defScope (top 75)) [] [] (c.fa 56) fd) : DefOk c tab 56 d56 := by
  obtain ⟨fd, F⟩ := h
  exact ⟨_, _, _, _, _, ["moments", "windows", "first", "last", "moment"], ["moments", "windows"], fd, F, s56, rfl, rfl, F.bindsN fun _ _ _ _ _ _ us hl => match us, hl with | [_, _], _ => rfl, fun n cal hF => o56 G n cal hF (hV _ hF)⟩
def l57 (n : Nat) (cal : Nat → FnSem) : Lx := ⟨["windows", "call"], defScope (top 76), true, n, cal⟩
theorem va57_0 {n : Nat} {cal : Nat → FnSem} : VarOk (l57 n cal) 0 "windows" := ⟨rfl, .inl (by kernel_rfl), by kernel_rfl, by kernel_rfl⟩
theorem gl57_require {n : Nat} {cal : Nat → FnSem} : (l57 n cal).sc.names.lookup ("require" : Str) = some .globalImplicit := by kernel_rfl
theorem gl57_lazy_calls {n : Nat} {cal : Nat → FnSem} : (l57 n cal).sc.names.lookup ("lazy_calls" : Str) = some .globalImplicit := by kernel_rfl
theorem gl57_tuple {n : Nat} {cal : Nat → FnSem} : (l57 n cal).sc.names.lookup ("tuple" : Str) = some .globalImplicit := by kernel_rfl
theorem o57 (G : Gd c) (n : Nat) (cal : Nat → FnSem) (hF : ∀ j dj, tab j = some dj → FnAt c (l57 n cal) j dj.np) (hV : ∀ m k, okN m k = true → FnAt c (l57 n cal) k m) : DSs c (l57 n cal) (defBody (top 76)) (b57 cal) :=
  dss_cons (ds_expr (de_call (hF 54 _ rfl) (G.fn 54 _ rfl) gl57_require (da_cons (de_str (by kernel_rfl)) (da_cons (de_varO va57_0) (da_nil)))))
    (dss_one (ds_ret (de_bty opl_tuple (G.free 3 _ rfl) (by kernel_rfl) gl57_tuple (da_cons (de_lc (own := [("call", 1)]) (di_seq (de_call (hF 55 _ rfl) (G.fn 55 _ rfl) gl57_lazy_calls (da_cons (de_varO va57_0) (da_nil)))) (by kernel_rfl) (dg_name rfl (.inl (by kernel_rfl)) (.inr (by kernel_rfl))) (dt_nil) (de_pu (de_ix (de_var rfl (.inl (by kernel_rfl)) (by kernel_rfl) (by kernel_rfl)) (de_int)) (pu_bin pur_ix (pu_var) (pu_c))) (by simp)) (da_nil)))))
theorem s57 : L2.FnScope ["windows", "call"] ["windows"] (defScope (top 76)) := ⟨rfl, rfl, rfl, by decide +kernel, rfl, by decide +kernel, by decide +kernel⟩
theorem k57 (G : Gd c) (hV : ∀ l : Lx, (∀ j dj, tab j = some dj → FnAt c l j dj.np) → ∀ m k, okN m k = true → FnAt c l k m) (h : ∃ fd, L2.FunD c.K "fewest_looks" "fewest_looks" (defArgs (top 76)) (defBody (top 76)) (defScope (top 76)) [] [] (c.fa 57) fd) : DefOk c tab 57 d57 := by
  obtain ⟨fd, F⟩ := h
  exact ⟨_, _, _, _, _, ["windows", "call"], ["windows"], fd, F, s57, rfl, rfl, F.bindsN fun _ _ _ _ _ _ us hl => match us, hl with | [_], _ => rfl, fun n cal hF => o57 G n cal hF (hV _ hF)⟩
def l58 (n : Nat) (cal : Nat → FnSem) : Lx := ⟨["windows"], defScope (top 77), true, n, cal⟩
theorem va58_0 {n : Nat} {cal : Nat → FnSem} : VarOk (l58 n cal) 0 "windows" := ⟨rfl, .inl (by kernel_rfl), by kernel_rfl, by kernel_rfl⟩
theorem gl58_require {n : Nat} {cal : Nat → FnSem} : (l58 n cal).sc.names.lookup ("require" : Str) = some .globalImplicit := by kernel_rfl
theorem gl58_lazy_calls {n : Nat} {cal : Nat → FnSem} : (l58 n cal).sc.names.lookup ("lazy_calls" : Str) = some .globalImplicit := by kernel_rfl
theorem o58 (G : Gd c) (n : Nat) (cal : Nat → FnSem) (hF : ∀ j dj, tab j = some dj → FnAt c (l58 n cal) j dj.np) (hV : ∀ m k, okN m k = true → FnAt c (l58 n cal) k m) : DSs c (l58 n cal) (defBody (top 77)) (b58 cal) :=
  dss_cons (ds_expr (de_call (hF 54 _ rfl) (G.fn 54 _ rfl) gl58_require (da_cons (de_str (by kernel_rfl)) (da_cons (de_varO va58_0) (da_nil)))))
    (dss_one (ds_ret (de_call (hF 55 _ rfl) (G.fn 55 _ rfl) gl58_lazy_calls (da_cons (de_varO va58_0) (da_nil)))))
theorem s58 : L2.FnScope ["windows"] ["windows"] (defScope (top 77)) := ⟨rfl, rfl, rfl, by decide +kernel, rfl, by decide +kernel, by decide +kernel⟩
theorem k58 (G : Gd c) (hV : ∀ l : Lx, (∀ j dj, tab j = some dj → FnAt c l j dj.np) → ∀ m k, okN m k = true → FnAt c l k m) (h : ∃ fd, L2.FunD c.K "most_apart" "most_apart" (defArgs (top 77)) (defBody (top 77)) (defScope (top 77)) [] [] (c.fa 58) fd) : DefOk c tab 58 d58 := by
  obtain ⟨fd, F⟩ := h
  exact ⟨_, _, _, _, _, ["windows"], ["windows"], fd, F, s58, rfl, rfl, F.bindsN fun _ _ _ _ _ _ us hl => match us, hl with | [_], _ => rfl, fun n cal hF => o58 G n cal hF (hV _ hF)⟩
def l59 (n : Nat) (cal : Nat → FnSem) : Lx := ⟨["moments", "windows"], defScope (top 78), true, n, cal⟩
theorem va59_0 {n : Nat} {cal : Nat → FnSem} : VarOk (l59 n cal) 0 "moments" := ⟨rfl, .inl (by kernel_rfl), by kernel_rfl, by kernel_rfl⟩
theorem gl59_require {n : Nat} {cal : Nat → FnSem} : (l59 n cal).sc.names.lookup ("require" : Str) = some .globalImplicit := by kernel_rfl
theorem va59_1 {n : Nat} {cal : Nat → FnSem} : VarOk (l59 n cal) 1 "windows" := ⟨rfl, .inl (by kernel_rfl), by kernel_rfl, by kernel_rfl⟩
theorem gl59_all_served {n : Nat} {cal : Nat → FnSem} : (l59 n cal).sc.names.lookup ("all_served" : Str) = some .globalImplicit := by kernel_rfl
theorem o59 (G : Gd c) (n : Nat) (cal : Nat → FnSem) (hF : ∀ j dj, tab j = some dj → FnAt c (l59 n cal) j dj.np) (hV : ∀ m k, okN m k = true → FnAt c (l59 n cal) k m) : DSs c (l59 n cal) (defBody (top 78)) (b59 cal) :=
  dss_cons (ds_expr (de_call (hF 54 _ rfl) (G.fn 54 _ rfl) gl59_require (da_cons (de_str (by kernel_rfl)) (da_cons (de_varO va59_0) (da_nil)))))
    (dss_cons (ds_expr (de_call (hF 54 _ rfl) (G.fn 54 _ rfl) gl59_require (da_cons (de_str (by kernel_rfl)) (da_cons (de_varO va59_1) (da_nil)))))
    (dss_one (ds_ret (de_call (hF 56 _ rfl) (G.fn 56 _ rfl) gl59_all_served (da_cons (de_varO va59_0) (da_cons (de_varO va59_1) (da_nil)))))))
theorem s59 : L2.FnScope ["moments", "windows"] ["moments", "windows"] (defScope (top 78)) := ⟨rfl, rfl, rfl, by decide +kernel, rfl, by decide +kernel, by decide +kernel⟩
theorem k59 (G : Gd c) (hV : ∀ l : Lx, (∀ j dj, tab j = some dj → FnAt c l j dj.np) → ∀ m k, okN m k = true → FnAt c l k m) (h : ∃ fd, L2.FunD c.K "serves_all" "serves_all" (defArgs (top 78)) (defBody (top 78)) (defScope (top 78)) [] [] (c.fa 59) fd) : DefOk c tab 59 d59 := by
  obtain ⟨fd, F⟩ := h
  exact ⟨_, _, _, _, _, ["moments", "windows"], ["moments", "windows"], fd, F, s59, rfl, rfl, F.bindsN fun _ _ _ _ _ _ us hl => match us, hl with | [_, _], _ => rfl, fun n cal hF => o59 G n cal hF (hV _ hF)⟩
def l60 (n : Nat) (cal : Nat → FnSem) : Lx := ⟨["first", "last", "instant"], defScope (top 80), true, n, cal⟩
theorem va60_0 {n : Nat} {cal : Nat → FnSem} : VarOk (l60 n cal) 0 "first" := ⟨rfl, .inl (by kernel_rfl), by kernel_rfl, by kernel_rfl⟩
theorem va60_2 {n : Nat} {cal : Nat → FnSem} : VarOk (l60 n cal) 2 "instant" := ⟨rfl, .inl (by kernel_rfl), by kernel_rfl, by kernel_rfl⟩
theorem va60_1 {n : Nat} {cal : Nat → FnSem} : VarOk (l60 n cal) 1 "last" := ⟨rfl, .inl (by kernel_rfl), by kernel_rfl, by kernel_rfl⟩
theorem o60 (G : Gd c) (n : Nat) (cal : Nat → FnSem) (hF : ∀ j dj, tab j = some dj → FnAt c (l60 n cal) j dj.np) (hV : ∀ m k, okN m k = true → FnAt c (l60 n cal) k m) : DSs c (l60 n cal) (defBody (top 80)) (b60 cal) :=
  dss_one (ds_ret (de_pu (de_chain op2_le op2_le (de_varO va60_0) (de_varO va60_2) (de_varO va60_1)) (pu_chain pur_le pur_le (pu_var) (pu_var) (pu_var))))
theorem s60 : L2.FnScope ["first", "last", "instant"] ["first", "last", "instant"] (defScope (top 80)) := ⟨rfl, rfl, rfl, by decide +kernel, rfl, by decide +kernel, by decide +kernel⟩
theorem k60 (G : Gd c) (hV : ∀ l : Lx, (∀ j dj, tab j = some dj → FnAt c l j dj.np) → ∀ m k, okN m k = true → FnAt c l k m) (h : ∃ fd, L2.FunD c.K "span_holds" "span_holds" (defArgs (top 80)) (defBody (top 80)) (defScope (top 80)) [] [] (c.fa 60) fd) : DefOk c tab 60 d60 := by
  obtain ⟨fd, F⟩ := h
  exact ⟨_, _, _, _, _, ["first", "last", "instant"], ["first", "last", "instant"], fd, F, s60, rfl, rfl, F.bindsN fun _ _ _ _ _ _ us hl => match us, hl with | [_, _, _], _ => rfl, fun n cal hF => o60 G n cal hF (hV _ hF)⟩
def l61 (n : Nat) (cal : Nat → FnSem) : Lx := ⟨["first", "last", "low", "high"], defScope (top 81), true, n, cal⟩
theorem va61_2 {n : Nat} {cal : Nat → FnSem} : VarOk (l61 n cal) 2 "low" := ⟨rfl, .inl (by kernel_rfl), by kernel_rfl, by kernel_rfl⟩
theorem va61_0 {n : Nat} {cal : Nat → FnSem} : VarOk (l61 n cal) 0 "first" := ⟨rfl, .inl (by kernel_rfl), by kernel_rfl, by kernel_rfl⟩
theorem va61_1 {n : Nat} {cal : Nat → FnSem} : VarOk (l61 n cal) 1 "last" := ⟨rfl, .inl (by kernel_rfl), by kernel_rfl, by kernel_rfl⟩
theorem va61_3 {n : Nat} {cal : Nat → FnSem} : VarOk (l61 n cal) 3 "high" := ⟨rfl, .inl (by kernel_rfl), by kernel_rfl, by kernel_rfl⟩
theorem o61 (G : Gd c) (n : Nat) (cal : Nat → FnSem) (hF : ∀ j dj, tab j = some dj → FnAt c (l61 n cal) j dj.np) (hV : ∀ m k, okN m k = true → FnAt c (l61 n cal) k m) : DSs c (l61 n cal) (defBody (top 81)) (b61 cal) :=
  dss_one (ds_ret (de_pu (de_and (de_cmp op2_le (de_varO va61_2) (de_varO va61_0)) (de_one (de_cmp op2_le (de_varO va61_1) (de_varO va61_3)))) (pu_and (pu_bin pur_le (pu_var) (pu_var)) (pu_bin pur_le (pu_var) (pu_var)))))
theorem s61 : L2.FnScope ["first", "last", "low", "high"] ["first", "last", "low", "high"] (defScope (top 81)) := ⟨rfl, rfl, rfl, by decide +kernel, rfl, by decide +kernel, by decide +kernel⟩
theorem k61 (G : Gd c) (hV : ∀ l : Lx, (∀ j dj, tab j = some dj → FnAt c l j dj.np) → ∀ m k, okN m k = true → FnAt c l k m) (h : ∃ fd, L2.FunD c.K "span_within" "span_within" (defArgs (top 81)) (defBody (top 81)) (defScope (top 81)) [] [] (c.fa 61) fd) : DefOk c tab 61 d61 := by
  obtain ⟨fd, F⟩ := h
  exact ⟨_, _, _, _, _, ["first", "last", "low", "high"], ["first", "last", "low", "high"], fd, F, s61, rfl, rfl, F.bindsN fun _ _ _ _ _ _ us hl => match us, hl with | [_, _, _, _], _ => rfl, fun n cal hF => o61 G n cal hF (hV _ hF)⟩
def l62 (n : Nat) (cal : Nat → FnSem) : Lx := ⟨["window", "instant"], defScope (top 82), true, n, cal⟩
theorem va62_0 {n : Nat} {cal : Nat → FnSem} : VarOk (l62 n cal) 0 "window" := ⟨rfl, .inl (by kernel_rfl), by kernel_rfl, by kernel_rfl⟩
theorem gl62_require {n : Nat} {cal : Nat → FnSem} : (l62 n cal).sc.names.lookup ("require" : Str) = some .globalImplicit := by kernel_rfl
theorem va62_1 {n : Nat} {cal : Nat → FnSem} : VarOk (l62 n cal) 1 "instant" := ⟨rfl, .inl (by kernel_rfl), by kernel_rfl, by kernel_rfl⟩
theorem gl62_span_holds {n : Nat} {cal : Nat → FnSem} : (l62 n cal).sc.names.lookup ("span_holds" : Str) = some .globalImplicit := by kernel_rfl
theorem o62 (G : Gd c) (n : Nat) (cal : Nat → FnSem) (hF : ∀ j dj, tab j = some dj → FnAt c (l62 n cal) j dj.np) (hV : ∀ m k, okN m k = true → FnAt c (l62 n cal) k m) : DSs c (l62 n cal) (defBody (top 82)) (b62 cal) :=
  dss_cons (ds_expr (de_call (hF 54 _ rfl) (G.fn 54 _ rfl) gl62_require (da_cons (de_str (by kernel_rfl)) (da_cons (de_varO va62_0) (da_nil)))))
    (dss_cons (ds_expr (de_call (hF 54 _ rfl) (G.fn 54 _ rfl) gl62_require (da_cons (de_str (by kernel_rfl)) (da_cons (de_varO va62_1) (da_nil)))))
    (dss_one (ds_ret (de_call (hF 60 _ rfl) (G.fn 60 _ rfl) gl62_span_holds (da_pu (da_cons (de_ix (de_varO va62_0) (de_int)) (da_cons (de_ix (de_varO va62_0) (de_int)) (da_cons (de_varO va62_1) (da_nil)))) (pua_cons (pu_bin pur_ix (pu_var) (pu_c)) (pua_cons (pu_bin pur_ix (pu_var) (pu_c)) (pua_cons (pu_var) (pua_nil)))))))))
theorem s62 : L2.FnScope ["window", "instant"] ["window", "instant"] (defScope (top 82)) := ⟨rfl, rfl, rfl, by decide +kernel, rfl, by decide +kernel, by decide +kernel⟩
theorem k62 (G : Gd c) (hV : ∀ l : Lx, (∀ j dj, tab j = some dj → FnAt c l j dj.np) → ∀ m k, okN m k = true → FnAt c l k m) (h : ∃ fd, L2.FunD c.K "holds" "holds" (defArgs (top 82)) (defBody (top 82)) (defScope (top 82)) [] [] (c.fa 62) fd) : DefOk c tab 62 d62 := by
  obtain ⟨fd, F⟩ := h
  exact ⟨_, _, _, _, _, ["window", "instant"], ["window", "instant"], fd, F, s62, rfl, rfl, F.bindsN fun _ _ _ _ _ _ us hl => match us, hl with | [_, _], _ => rfl, fun n cal hF => o62 G n cal hF (hV _ hF)⟩
def l63 (n : Nat) (cal : Nat → FnSem) : Lx := ⟨["window", "stretch"], defScope (top 83), true, n, cal⟩
theorem va63_0 {n : Nat} {cal : Nat → FnSem} : VarOk (l63 n cal) 0 "window" := ⟨rfl, .inl (by kernel_rfl), by kernel_rfl, by kernel_rfl⟩
theorem gl63_require {n : Nat} {cal : Nat → FnSem} : (l63 n cal).sc.names.lookup ("require" : Str) = some .globalImplicit := by kernel_rfl
theorem va63_1 {n : Nat} {cal : Nat → FnSem} : VarOk (l63 n cal) 1 "stretch" := ⟨rfl, .inl (by kernel_rfl), by kernel_rfl, by kernel_rfl⟩
theorem gl63_span_within {n : Nat} {cal : Nat → FnSem} : (l63 n cal).sc.names.lookup ("span_within" : Str) = some .globalImplicit := by kernel_rfl
theorem o63 (G : Gd c) (n : Nat) (cal : Nat → FnSem) (hF : ∀ j dj, tab j = some dj → FnAt c (l63 n cal) j dj.np) (hV : ∀ m k, okN m k = true → FnAt c (l63 n cal) k m) : DSs c (l63 n cal) (defBody (top 83)) (b63 cal) :=
  dss_cons (ds_expr (de_call (hF 54 _ rfl) (G.fn 54 _ rfl) gl63_require (da_cons (de_str (by kernel_rfl)) (da_cons (de_varO va63_0) (da_nil)))))
    (dss_cons (ds_expr (de_call (hF 54 _ rfl) (G.fn 54 _ rfl) gl63_require (da_cons (de_str (by kernel_rfl)) (da_cons (de_varO va63_1) (da_nil)))))
    (dss_one (ds_ret (de_call (hF 61 _ rfl) (G.fn 61 _ rfl) gl63_span_within (da_pu (da_cons (de_ix (de_varO va63_0) (de_int)) (da_cons (de_ix (de_varO va63_0) (de_int)) (da_cons (de_ix (de_varO va63_1) (de_int)) (da_cons (de_ix (de_varO va63_1) (de_int)) (da_nil))))) (pua_cons (pu_bin pur_ix (pu_var) (pu_c)) (pua_cons (pu_bin pur_ix (pu_var) (pu_c)) (pua_cons (pu_bin pur_ix (pu_var) (pu_c)) (pua_cons (pu_bin pur_ix (pu_var) (pu_c)) (pua_nil))))))))))
theorem s63 : L2.FnScope ["window", "stretch"] ["window", "stretch"] (defScope (top 83)) := ⟨rfl, rfl, rfl, by decide +kernel, rfl, by decide +kernel, by decide +kernel⟩
theorem k63 (G : Gd c) (hV : ∀ l : Lx, (∀ j dj, tab j = some dj → FnAt c l j dj.np) → ∀ m k, okN m k = true → FnAt c l k m) (h : ∃ fd, L2.FunD c.K "is_within" "is_within" (defArgs (top 83)) (defBody (top 83)) (defScope (top 83)) [] [] (c.fa 63) fd) : DefOk c tab 63 d63 := by
  obtain ⟨fd, F⟩ := h
  exact ⟨_, _, _, _, _, ["window", "stretch"], ["window", "stretch"], fd, F, s63, rfl, rfl, F.bindsN fun _ _ _ _ _ _ us hl => match us, hl with | [_, _], _ => rfl, fun n cal hF => o63 G n cal hF (hV _ hF)⟩
def l64 (n : Nat) (cal : Nat → FnSem) : Lx := ⟨["window", "other"], defScope (top 84), true, n, cal⟩
theorem va64_0 {n : Nat} {cal : Nat → FnSem} : VarOk (l64 n cal) 0 "window" := ⟨rfl, .inl (by kernel_rfl), by kernel_rfl, by kernel_rfl⟩
theorem gl64_require {n : Nat} {cal : Nat → FnSem} : (l64 n cal).sc.names.lookup ("require" : Str) = some .globalImplicit := by kernel_rfl
theorem va64_1 {n : Nat} {cal : Nat → FnSem} : VarOk (l64 n cal) 1 "other" := ⟨rfl, .inl (by kernel_rfl), by kernel_rfl, by kernel_rfl⟩
theorem o64 (G : Gd c) (n : Nat) (cal : Nat → FnSem) (hF : ∀ j dj, tab j = some dj → FnAt c (l64 n cal) j dj.np) (hV : ∀ m k, okN m k = true → FnAt c (l64 n cal) k m) : DSs c (l64 n cal) (defBody (top 84)) (b64 cal) :=
  dss_cons (ds_expr (de_call (hF 54 _ rfl) (G.fn 54 _ rfl) gl64_require (da_cons (de_str (by kernel_rfl)) (da_cons (de_varO va64_0) (da_nil)))))
    (dss_cons (ds_expr (de_call (hF 54 _ rfl) (G.fn 54 _ rfl) gl64_require (da_cons (de_str (by kernel_rfl)) (da_cons (de_varO va64_1) (da_nil)))))
    (dss_one (ds_ret (de_pu (de_or (de_cmp op2_lt (de_ix (de_varO va64_0) (de_int)) (de_ix (de_varO va64_1) (de_int))) (de_one (de_cmp op2_lt (de_ix (de_varO va64_1) (de_int)) (de_ix (de_varO va64_0) (de_int))))) (pu_or (pu_bin pur_lt (pu_bin pur_ix (pu_var) (pu_c)) (pu_bin pur_ix (pu_var) (pu_c))) (pu_bin pur_lt (pu_bin pur_ix (pu_var) (pu_c)) (pu_bin pur_ix (pu_var) (pu_c))))))))
theorem s64 : L2.FnScope ["window", "other"] ["window", "other"] (defScope (top 84)) := ⟨rfl, rfl, rfl, by decide +kernel, rfl, by decide +kernel, by decide +kernel⟩
theorem k64 (G : Gd c) (hV : ∀ l : Lx, (∀ j dj, tab j = some dj → FnAt c l j dj.np) → ∀ m k, okN m k = true → FnAt c l k m) (h : ∃ fd, L2.FunD c.K "are_apart" "are_apart" (defArgs (top 84)) (defBody (top 84)) (defScope (top 84)) [] [] (c.fa 64) fd) : DefOk c tab 64 d64 := by
  obtain ⟨fd, F⟩ := h
  exact ⟨_, _, _, _, _, ["window", "other"], ["window", "other"], fd, F, s64, rfl, rfl, F.bindsN fun _ _ _ _ _ _ us hl => match us, hl with | [_, _], _ => rfl, fun n cal hF => o64 G n cal hF (hV _ hF)⟩
def l65 (n : Nat) (cal : Nat → FnSem) : Lx := ⟨["windows", "low", "high", "first", "last"], defScope (top 85), true, n, cal⟩
theorem va65_0 {n : Nat} {cal : Nat → FnSem} : VarOk (l65 n cal) 0 "windows" := ⟨rfl, .inl (by kernel_rfl), by kernel_rfl, by kernel_rfl⟩
theorem gl65_require {n : Nat} {cal : Nat → FnSem} : (l65 n cal).sc.names.lookup ("require" : Str) = some .globalImplicit := by kernel_rfl
theorem gl65_LAST_INSTANT {n : Nat} {cal : Nat → FnSem} : (l65 n cal).sc.names.lookup ("LAST_INSTANT" : Str) = some .globalImplicit := by kernel_rfl
theorem va65_1 {n : Nat} {cal : Nat → FnSem} : VarOk (l65 n cal) 1 "low" := ⟨rfl, .inl (by kernel_rfl), by kernel_rfl, by kernel_rfl⟩
theorem va65_3 {n : Nat} {cal : Nat → FnSem} : VarOk (l65 n cal) 3 "first" := ⟨rfl, .inl (by kernel_rfl), by kernel_rfl, by kernel_rfl⟩
theorem gl65_max {n : Nat} {cal : Nat → FnSem} : (l65 n cal).sc.names.lookup ("max" : Str) = some .globalImplicit := by kernel_rfl
theorem va65_2 {n : Nat} {cal : Nat → FnSem} : VarOk (l65 n cal) 2 "high" := ⟨rfl, .inl (by kernel_rfl), by kernel_rfl, by kernel_rfl⟩
theorem va65_4 {n : Nat} {cal : Nat → FnSem} : VarOk (l65 n cal) 4 "last" := ⟨rfl, .inl (by kernel_rfl), by kernel_rfl, by kernel_rfl⟩
theorem gl65_min {n : Nat} {cal : Nat → FnSem} : (l65 n cal).sc.names.lookup ("min" : Str) = some .globalImplicit := by kernel_rfl
theorem o65 (G : Gd c) (n : Nat) (cal : Nat → FnSem) (hF : ∀ j dj, tab j = some dj → FnAt c (l65 n cal) j dj.np) (hV : ∀ m k, okN m k = true → FnAt c (l65 n cal) k m) : DSs c (l65 n cal) (defBody (top 85)) (b65 cal) :=
  dss_cons (ds_expr (de_call (hF 54 _ rfl) (G.fn 54 _ rfl) gl65_require (da_cons (de_str (by kernel_rfl)) (da_cons (de_varO va65_0) (da_nil)))))
    (dss_cons (ds_asgN (de_int) rfl (.inl (by kernel_rfl)) (.inl rfl))
    (dss_cons (ds_asgN (de_gint (G.gi 0 _ rfl) gl65_LAST_INSTANT) rfl (.inl (by kernel_rfl)) (.inl rfl))
    (dss_cons (ds_for (di_seq (de_varO va65_0)) (dg_tup (dgn_cons rfl (.inl (by kernel_rfl)) (.inl rfl) (dgn_cons rfl (.inl (by kernel_rfl)) (.inl rfl) (dgn_nil)))) (dss_cons (ds_asgN (de_pu (de_bi opl_max2 (G.free 9 _ rfl) (by kernel_rfl) gl65_max (da_cons (de_varO va65_1) (da_cons (de_varO va65_3) (da_nil)))) (pu_bi2 pur_max2 (pu_var) (pu_var))) rfl (.inl (by kernel_rfl)) (.inl rfl))
    (dss_one (ds_asgN (de_pu (de_bi opl_min2 (G.free 10 _ rfl) (by kernel_rfl) gl65_min (da_cons (de_varO va65_2) (da_cons (de_varO va65_4) (da_nil)))) (pu_bi2 pur_min2 (pu_var) (pu_var))) rfl (.inl (by kernel_rfl)) (.inl rfl)))))
    (dss_cons (ds_if (db_pu (db_cmp op2_gt bo_gt (de_varO va65_1) (de_varO va65_2)) (pu_e (pu_bin pur_gt (pu_var) (pu_var)))) (dss_one (ds_ret (de_non))) (dss_nil))
    (dss_one (ds_ret (de_pu (de_tup (da_cons (de_varO va65_1) (da_cons (de_varO va65_2) (da_nil)))) (pu_tup (pua_cons (pu_var) (pua_cons (pu_var) (pua_nil)))))))))))
theorem s65 : L2.FnScope ["windows", "low", "high", "first", "last"] ["windows"] (defScope (top 85)) := ⟨rfl, rfl, rfl, by decide +kernel, rfl, by decide +kernel, by decide +kernel⟩
theorem k65 (G : Gd c) (hV : ∀ l : Lx, (∀ j dj, tab j = some dj → FnAt c l j dj.np) → ∀ m k, okN m k = true → FnAt c l k m) (h : ∃ fd, L2.FunD c.K "common" "common" (defArgs (top 85)) (defBody (top 85)) (defScope (top 85)) [] [] (c.fa 65) fd) : DefOk c tab 65 d65 := by
  obtain ⟨fd, F⟩ := h
  exact ⟨_, _, _, _, _, ["windows", "low", "high", "first", "last"], ["windows"], fd, F, s65, rfl, rfl, F.bindsN fun _ _ _ _ _ _ us hl => match us, hl with | [_], _ => rfl, fun n cal hF => o65 G n cal hF (hV _ hF)⟩
def l66 (n : Nat) (cal : Nat → FnSem) : Lx := ⟨["script", "cells", "great", "small", "cell"], defScope (top 87), true, n, cal⟩
theorem va66_0 {n : Nat} {cal : Nat → FnSem} : VarOk (l66 n cal) 0 "script" := ⟨rfl, .inl (by kernel_rfl), by kernel_rfl, by kernel_rfl⟩
theorem va66_1 {n : Nat} {cal : Nat → FnSem} : VarOk (l66 n cal) 1 "cells" := ⟨rfl, .inl (by kernel_rfl), by kernel_rfl, by kernel_rfl⟩
theorem va66_2 {n : Nat} {cal : Nat → FnSem} : VarOk (l66 n cal) 2 "great" := ⟨rfl, .inl (by kernel_rfl), by kernel_rfl, by kernel_rfl⟩
theorem va66_3 {n : Nat} {cal : Nat → FnSem} : VarOk (l66 n cal) 3 "small" := ⟨rfl, .inl (by kernel_rfl), by kernel_rfl, by kernel_rfl⟩
theorem o66 (G : Gd c) (n : Nat) (cal : Nat → FnSem) (hF : ∀ j dj, tab j = some dj → FnAt c (l66 n cal) j dj.np) (hV : ∀ m k, okN m k = true → FnAt c (l66 n cal) k m) : DSs c (l66 n cal) (defBody (top 87)) (b66 cal) :=
  dss_cons (ds_asgLc rfl (by kernel_rfl) (by kernel_rfl) (by kernel_rfl) (own := [("cell", 4)]) (di_seq (de_sl (de_varO va66_0) (do_none) (do_some (de_int)))) (by kernel_rfl) (dg_name rfl (.inl (by kernel_rfl)) (.inr (by kernel_rfl))) (dt_nil) (de_pu (de_bi opl_abs (G.free 11 _ rfl) (by kernel_rfl) (by kernel_rfl) (da_cons (de_bty opl_int (G.free 2 _ rfl) (by kernel_rfl) (by kernel_rfl) (da_cons (de_var rfl (.inl (by kernel_rfl)) (by kernel_rfl) (by kernel_rfl)) (da_nil))) (da_nil))) (pu_bi1 pur_abs (pu_bi1 pur_int (pu_var)))) (by simp))
    (dss_cons (ds_asgLc rfl (by kernel_rfl) (by kernel_rfl) (by kernel_rfl) (own := [("cell", 4)]) (di_seq (de_varO va66_1)) (by kernel_rfl) (dg_name rfl (.inl (by kernel_rfl)) (.inr (by kernel_rfl))) (dt_one (db_pu (db_cmp op2_ge bo_ge (de_var rfl (.inl (by kernel_rfl)) (by kernel_rfl) (by kernel_rfl)) (de_bin op2_pow (de_int) (de_int))) (pu_e (pu_bin pur_ge (pu_var) (pu_bin pur_pow (pu_c) (pu_c)))))) (de_var rfl (.inl (by kernel_rfl)) (by kernel_rfl) (by kernel_rfl)) (by simp))
    (dss_cons (ds_asgLc rfl (by kernel_rfl) (by kernel_rfl) (by kernel_rfl) (own := [("cell", 4)]) (di_seq (de_varO va66_1)) (by kernel_rfl) (dg_name rfl (.inl (by kernel_rfl)) (.inr (by kernel_rfl))) (dt_one (db_pu (db_cmp op2_lt bo_lt (de_var rfl (.inl (by kernel_rfl)) (by kernel_rfl) (by kernel_rfl)) (de_bin op2_pow (de_int) (de_int))) (pu_e (pu_bin pur_lt (pu_var) (pu_bin pur_pow (pu_c) (pu_c)))))) (de_pu (de_bin op2_mod (de_bty opl_int (G.free 2 _ rfl) (by kernel_rfl) (by kernel_rfl) (da_cons (de_var rfl (.inl (by kernel_rfl)) (by kernel_rfl) (by kernel_rfl)) (da_nil))) (de_int)) (pu_bin pur_mod (pu_bi1 pur_int (pu_var)) (pu_c))) (by simp))
    (dss_one (ds_ret (de_dict (dp_cons (de_str (by kernel_rfl)) (de_varO va66_2) (dp_cons (de_str (by kernel_rfl)) (de_varO va66_3) (dp_cons (de_str (by kernel_rfl)) (de_int) (dp_cons (de_str (by kernel_rfl)) (de_int) (dp_nil))))))))))
theorem s66 : L2.FnScope ["script", "cells", "great", "small", "cell"] ["script"] (defScope (top 87)) := ⟨rfl, rfl, rfl, by decide +kernel, rfl, by decide +kernel, by decide +kernel⟩
theorem k66 (G : Gd c) (hV : ∀ l : Lx, (∀ j dj, tab j = some dj → FnAt c l j dj.np) → ∀ m k, okN m k = true → FnAt c l k m) (h : ∃ fd, L2.FunD c.K "_law_jar" "_law_jar" (defArgs (top 87)) (defBody (top 87)) (defScope (top 87)) [] [] (c.fa 66) fd) : DefOk c tab 66 d66 := by
  obtain ⟨fd, F⟩ := h
  exact ⟨_, _, _, _, _, ["script", "cells", "great", "small", "cell"], ["script"], fd, F, s66, rfl, rfl, F.bindsN fun _ _ _ _ _ _ us hl => match us, hl with | [_], _ => rfl, fun n cal hF => o66 G n cal hF (hV _ hF)⟩
def l67 (n : Nat) (cal : Nat → FnSem) : Lx := ⟨["jar", "many", "turn", "great", "rest", "small", "seed", "mix"], defScope (top 88), true, n, cal⟩
theorem va67_0 {n : Nat} {cal : Nat → FnSem} : VarOk (l67 n cal) 0 "jar" := ⟨rfl, .inl (by kernel_rfl), by kernel_rfl, by kernel_rfl⟩
theorem va67_2 {n : Nat} {cal : Nat → FnSem} : VarOk (l67 n cal) 2 "turn" := ⟨rfl, .inl (by kernel_rfl), by kernel_rfl, by kernel_rfl⟩
theorem va67_3 {n : Nat} {cal : Nat → FnSem} : VarOk (l67 n cal) 3 "great" := ⟨rfl, .inl (by kernel_rfl), by kernel_rfl, by kernel_rfl⟩
theorem gl67_len {n : Nat} {cal : Nat → FnSem} : (l67 n cal).sc.names.lookup ("len" : Str) = some .globalImplicit := by kernel_rfl
theorem va67_4 {n : Nat} {cal : Nat → FnSem} : VarOk (l67 n cal) 4 "rest" := ⟨rfl, .inl (by kernel_rfl), by kernel_rfl, by kernel_rfl⟩
theorem va67_1 {n : Nat} {cal : Nat → FnSem} : VarOk (l67 n cal) 1 "many" := ⟨rfl, .inl (by kernel_rfl), by kernel_rfl, by kernel_rfl⟩
theorem gl67_int {n : Nat} {cal : Nat → FnSem} : (l67 n cal).sc.names.lookup ("int" : Str) = some .globalImplicit := by kernel_rfl
theorem va67_5 {n : Nat} {cal : Nat → FnSem} : VarOk (l67 n cal) 5 "small" := ⟨rfl, .inl (by kernel_rfl), by kernel_rfl, by kernel_rfl⟩
theorem va67_6 {n : Nat} {cal : Nat → FnSem} : VarOk (l67 n cal) 6 "seed" := ⟨rfl, .inl (by kernel_rfl), by kernel_rfl, by kernel_rfl⟩
theorem va67_7 {n : Nat} {cal : Nat → FnSem} : VarOk (l67 n cal) 7 "mix" := ⟨rfl, .inl (by kernel_rfl), by kernel_rfl, by kernel_rfl⟩
theorem o67 (G : Gd c) (n : Nat) (cal : Nat → FnSem) (hF : ∀ j dj, tab j = some dj → FnAt c (l67 n cal) j dj.np) (hV : ∀ m k, okN m k = true → FnAt c (l67 n cal) k m) : DSs c (l67 n cal) (defBody (top 88)) (b67 cal) :=
  dss_cons (ds_asgN (de_pu (de_bin op2_add (de_ix (de_varO va67_0) (de_str (by kernel_rfl))) (de_int)) (pu_bin pur_add (pu_bin pur_ix (pu_var) (pu_c)) (pu_c))) rfl (.inl (by kernel_rfl)) (.inl rfl))
    (dss_cons (ds_put (de_varO va67_0) (de_str (by kernel_rfl)) (de_varO va67_2))
    (dss_cons (ds_asgN (de_pu (de_ix (de_varO va67_0) (de_str (by kernel_rfl))) (pu_bin pur_ix (pu_var) (pu_c))) rfl (.inl (by kernel_rfl)) (.inl rfl))
    (dss_cons (ds_if (db_pu (db_w (dw_and (db_cmp op2_eq bo_eq (de_ix (de_varO va67_0) (de_str (by kernel_rfl))) (de_int)) (dw_and1 (db_cmp op2_gt bo_gt (de_bi opl_len (G.free 4 _ rfl) (by kernel_rfl) gl67_len (da_cons (de_varO va67_3) (da_nil))) (de_int))))) (pub_and (pu_e (pu_bin pur_eq (pu_bin pur_ix (pu_var) (pu_c)) (pu_c))) (pu_e (pu_bin pur_gt (pu_bi1 pur_len (pu_var)) (pu_c))))) (dss_one (ds_put (de_varO va67_0) (de_str (by kernel_rfl)) (de_bm opm_popAt (.inl rfl) PySem.F.plainAttrs_list PySem.F.slot_list_pop PySem.F.type_list_pop (de_varO va67_3) (da_cons (de_int) (da_nil))))) (dss_nil))
    (dss_cons (ds_asgN (de_pu (de_ix (de_varO va67_0) (de_str (by kernel_rfl))) (pu_bin pur_ix (pu_var) (pu_c))) rfl (.inl (by kernel_rfl)) (.inl rfl))
    (dss_cons (ds_if (db_pu (db_cmp op2_gt bo_gt (de_varO va67_4) (de_int)) (pu_e (pu_bin pur_gt (pu_var) (pu_c)))) (dss_cons (ds_put (de_varO va67_0) (de_str (by kernel_rfl)) (de_pu (de_bin op2_div (de_varO va67_4) (de_varO va67_1)) (pu_bin pur_div (pu_var) (pu_var))))
    (dss_one (ds_ret (de_pu (de_bin op2_mod (de_bty opl_int (G.free 2 _ rfl) (by kernel_rfl) gl67_int (da_cons (de_varO va67_4) (da_nil))) (de_varO va67_1)) (pu_bin pur_mod (pu_bi1 pur_int (pu_var)) (pu_var)))))) (dss_nil))
    (dss_cons (ds_asgN (de_pu (de_ix (de_varO va67_0) (de_str (by kernel_rfl))) (pu_bin pur_ix (pu_var) (pu_c))) rfl (.inl (by kernel_rfl)) (.inl rfl))
    (dss_cons (ds_asgN (de_int) rfl (.inl (by kernel_rfl)) (.inl rfl))
    (dss_cons (ds_if (db_pu (db_cmp op2_gt bo_gt (de_bi opl_len (G.free 4 _ rfl) (by kernel_rfl) gl67_len (da_cons (de_varO va67_5) (da_nil))) (de_int)) (pu_e (pu_bin pur_gt (pu_bi1 pur_len (pu_var)) (pu_c)))) (dss_one (ds_asgN (de_pu (de_ix (de_varO va67_5) (de_bin op2_mod (de_bty opl_int (G.free 2 _ rfl) (by kernel_rfl) gl67_int (da_cons (de_varO va67_2) (da_nil))) (de_bi opl_len (G.free 4 _ rfl) (by kernel_rfl) gl67_len (da_cons (de_varO va67_5) (da_nil))))) (pu_bin pur_ix (pu_var) (pu_bin pur_mod (pu_bi1 pur_int (pu_var)) (pu_bi1 pur_len (pu_var))))) rfl (.inl (by kernel_rfl)) (.inl rfl))) (dss_nil))
    (dss_cons (ds_asgN (de_pu (de_bin op2_mod (de_bty opl_int (G.free 2 _ rfl) (by kernel_rfl) gl67_int (da_cons (de_bin op2_add (de_bin op2_add (de_bin op2_mul (de_varO va67_6) (de_int)) (de_bin op2_mul (de_varO va67_2) (de_int))) (de_int)) (da_nil))) (de_int)) (pu_bin pur_mod (pu_bi1 pur_int (pu_bin pur_add (pu_bin pur_add (pu_bin pur_mul (pu_var) (pu_c)) (pu_bin pur_mul (pu_var) (pu_c))) (pu_c))) (pu_c))) rfl (.inl (by kernel_rfl)) (.inl rfl))
    (dss_cons (ds_asgN (de_pu (de_bin op2_mod (de_bty opl_int (G.free 2 _ rfl) (by kernel_rfl) gl67_int (da_cons (de_bin op2_add (de_bin op2_add (de_bin op2_mul (de_varO va67_7) (de_varO va67_7)) (de_bin op2_mul (de_varO va67_2) (de_int))) (de_varO va67_6)) (da_nil))) (de_int)) (pu_bin pur_mod (pu_bi1 pur_int (pu_bin pur_add (pu_bin pur_add (pu_bin pur_mul (pu_var) (pu_var)) (pu_bin pur_mul (pu_var) (pu_c))) (pu_var))) (pu_c))) rfl (.inl (by kernel_rfl)) (.inl rfl))
    (dss_cons (ds_asgN (de_pu (de_bin op2_mod (de_bty opl_int (G.free 2 _ rfl) (by kernel_rfl) gl67_int (da_cons (de_bin op2_add (de_bin op2_add (de_bin op2_mul (de_varO va67_7) (de_varO va67_7)) (de_bin op2_mul (de_varO va67_6) (de_int))) (de_varO va67_2)) (da_nil))) (de_int)) (pu_bin pur_mod (pu_bi1 pur_int (pu_bin pur_add (pu_bin pur_add (pu_bin pur_mul (pu_var) (pu_var)) (pu_bin pur_mul (pu_var) (pu_c))) (pu_var))) (pu_c))) rfl (.inl (by kernel_rfl)) (.inl rfl))
    (dss_one (ds_ret (de_pu (de_bin op2_mod (de_bty opl_int (G.free 2 _ rfl) (by kernel_rfl) gl67_int (da_cons (de_bin op2_div (de_varO va67_7) (de_int)) (da_nil))) (de_varO va67_1)) (pu_bin pur_mod (pu_bi1 pur_int (pu_bin pur_div (pu_var) (pu_c))) (pu_var))))))))))))))))
theorem s67 : L2.FnScope ["jar", "many", "turn", "great", "rest", "small", "seed", "mix"] ["jar", "many"] (defScope (top 88)) := ⟨rfl, rfl, rfl, by decide +kernel, rfl, by decide +kernel, by decide +kernel⟩
theorem k67 (G : Gd c) (hV : ∀ l : Lx, (∀ j dj, tab j = some dj → FnAt c l j dj.np) → ∀ m k, okN m k = true → FnAt c l k m) (h : ∃ fd, L2.FunD c.K "_law_take" "_law_take" (defArgs (top 88)) (defBody (top 88)) (defScope (top 88)) [] [] (c.fa 67) fd) : DefOk c tab 67 d67 := by
  obtain ⟨fd, F⟩ := h
  exact ⟨_, _, _, _, _, ["jar", "many", "turn", "great", "rest", "small", "seed", "mix"], ["jar", "many"], fd, F, s67, rfl, rfl, F.bindsN fun _ _ _ _ _ _ us hl => match us, hl with | [_, _], _ => rfl, fun n cal hF => o67 G n cal hF (hV _ hF)⟩
def l68 (n : Nat) (cal : Nat → FnSem) : Lx := ⟨["told", "due", "k"], defScope (top 89), true, n, cal⟩
theorem va68_1 {n : Nat} {cal : Nat → FnSem} : VarOk (l68 n cal) 1 "due" := ⟨rfl, .inl (by kernel_rfl), by kernel_rfl, by kernel_rfl⟩
theorem gl68_tuple {n : Nat} {cal : Nat → FnSem} : (l68 n cal).sc.names.lookup ("tuple" : Str) = some .globalImplicit := by kernel_rfl
theorem gl68_isinstance {n : Nat} {cal : Nat → FnSem} : (l68 n cal).sc.names.lookup ("isinstance" : Str) = some .globalImplicit := by kernel_rfl
theorem gl68_list {n : Nat} {cal : Nat → FnSem} : (l68 n cal).sc.names.lookup ("list" : Str) = some .globalImplicit := by kernel_rfl
theorem va68_0 {n : Nat} {cal : Nat → FnSem} : VarOk (l68 n cal) 0 "told" := ⟨rfl, .inl (by kernel_rfl), by kernel_rfl, by kernel_rfl⟩
theorem gl68_len {n : Nat} {cal : Nat → FnSem} : (l68 n cal).sc.names.lookup ("len" : Str) = some .globalImplicit := by kernel_rfl
theorem gl68_range {n : Nat} {cal : Nat → FnSem} : (l68 n cal).sc.names.lookup ("range" : Str) = some .globalImplicit := by kernel_rfl
theorem va68_2 {n : Nat} {cal : Nat → FnSem} : VarOk (l68 n cal) 2 "k" := ⟨rfl, .inl (by kernel_rfl), by kernel_rfl, by kernel_rfl⟩
theorem gl68__law_like {n : Nat} {cal : Nat → FnSem} : (l68 n cal).sc.names.lookup ("_law_like" : Str) = some .globalImplicit := by kernel_rfl
theorem gl68_bool {n : Nat} {cal : Nat → FnSem} : (l68 n cal).sc.names.lookup ("bool" : Str) = some .globalImplicit := by kernel_rfl
theorem gl68_int {n : Nat} {cal : Nat → FnSem} : (l68 n cal).sc.names.lookup ("int" : Str) = some .globalImplicit := by kernel_rfl
theorem gl68_str {n : Nat} {cal : Nat → FnSem} : (l68 n cal).sc.names.lookup ("str" : Str) = some .globalImplicit := by kernel_rfl
theorem o68 (G : Gd c) (n : Nat) (cal : Nat → FnSem) (hF : ∀ j dj, tab j = some dj → FnAt c (l68 n cal) j dj.np) (hV : ∀ m k, okN m k = true → FnAt c (l68 n cal) k m) : DSs c (l68 n cal) (defBody (top 89)) (b68 cal) :=
  dss_cons (ds_if (db_pu (db_w (dw_or (db_e (de_bi opl_isa (G.free 1 _ rfl) (by kernel_rfl) gl68_isinstance (da_cons (de_varO va68_1) (da_cons (de_ty (G.free 3 _ rfl) (by kernel_rfl) gl68_tuple) (da_nil))))) (dw_or1 (db_e (de_bi opl_isa (G.free 1 _ rfl) (by kernel_rfl) gl68_isinstance (da_cons (de_varO va68_1) (da_cons (de_ty (G.free 7 _ rfl) (by kernel_rfl) gl68_list) (da_nil)))))))) (pub_or (pu_e (pu_isa (pu_var))) (pu_e (pu_isa (pu_var))))) (dss_cons (ds_if (db_pu (db_w (dw_and (db_e (de_bi opl_isa (G.free 1 _ rfl) (by kernel_rfl) gl68_isinstance (da_cons (de_varO va68_1) (da_cons (de_ty (G.free 3 _ rfl) (by kernel_rfl) gl68_tuple) (da_nil))))) (dw_and1 (db_not (db_e (de_bi opl_isa (G.free 1 _ rfl) (by kernel_rfl) gl68_isinstance (da_cons (de_varO va68_0) (da_cons (de_ty (G.free 3 _ rfl) (by kernel_rfl) gl68_tuple) (da_nil))))))))) (pub_and (pu_e (pu_isa (pu_var))) (pub_not (pu_e (pu_isa (pu_var)))))) (dss_one (ds_ret (de_bl))) (dss_nil))
    (dss_cons (ds_if (db_pu (db_w (dw_and (db_e (de_bi opl_isa (G.free 1 _ rfl) (by kernel_rfl) gl68_isinstance (da_cons (de_varO va68_1) (da_cons (de_ty (G.free 7 _ rfl) (by kernel_rfl) gl68_list) (da_nil))))) (dw_and1 (db_not (db_e (de_bi opl_isa (G.free 1 _ rfl) (by kernel_rfl) gl68_isinstance (da_cons (de_varO va68_0) (da_cons (de_ty (G.free 7 _ rfl) (by kernel_rfl) gl68_list) (da_nil))))))))) (pub_and (pu_e (pu_isa (pu_var))) (pub_not (pu_e (pu_isa (pu_var)))))) (dss_one (ds_ret (de_bl))) (dss_nil))
    (dss_cons (ds_if (db_pu (db_cmp op2_ne bo_ne (de_bi opl_len (G.free 4 _ rfl) (by kernel_rfl) gl68_len (da_cons (de_varO va68_0) (da_nil))) (de_bi opl_len (G.free 4 _ rfl) (by kernel_rfl) gl68_len (da_cons (de_varO va68_1) (da_nil)))) (pu_e (pu_bin pur_ne (pu_bi1 pur_len (pu_var)) (pu_bi1 pur_len (pu_var))))) (dss_one (ds_ret (de_bl))) (dss_nil))
    (dss_cons (ds_for (di_rng1 (G.free 5 _ rfl) gl68_range (de_pu (de_bi opl_len (G.free 4 _ rfl) (by kernel_rfl) gl68_len (da_cons (de_varO va68_1) (da_nil))) (pu_bi1 pur_len (pu_var)))) (dg_name rfl (.inl (by kernel_rfl)) (.inl rfl)) (dss_one (ds_if (db_not (db_e (de_call (hF 68 _ rfl) (G.fn 68 _ rfl) gl68__law_like (da_pu (da_cons (de_ix (de_varO va68_0) (de_varO va68_2)) (da_cons (de_ix (de_varO va68_1) (de_varO va68_2)) (da_nil))) (pua_cons (pu_bin pur_ix (pu_var) (pu_var)) (pua_cons (pu_bin pur_ix (pu_var) (pu_var)) (pua_nil))))))) (dss_one (ds_ret (de_bl))) (dss_nil))))
    (dss_one (ds_ret (de_bl))))))) (dss_nil))
    (dss_cons (ds_if (db_pu (db_cmp op2_is bo_is (de_varO va68_1) (de_non)) (pu_e (pu_bin pur_is (pu_var) (pu_c)))) (dss_one (ds_ret (de_pu (de_cmp op2_is (de_varO va68_0) (de_non)) (pu_bin pur_is (pu_var) (pu_c))))) (dss_nil))
    (dss_cons (ds_if (db_pu (db_e (de_bi opl_isa (G.free 1 _ rfl) (by kernel_rfl) gl68_isinstance (da_cons (de_varO va68_1) (da_cons (de_ty (G.free 0 _ rfl) (by kernel_rfl) gl68_bool) (da_nil))))) (pu_e (pu_isa (pu_var)))) (dss_one (ds_ret (de_pu (de_and (de_bi opl_isa (G.free 1 _ rfl) (by kernel_rfl) gl68_isinstance (da_cons (de_varO va68_0) (da_cons (de_ty (G.free 0 _ rfl) (by kernel_rfl) gl68_bool) (da_nil)))) (de_one (de_cmp op2_eq (de_varO va68_0) (de_varO va68_1)))) (pu_and (pu_isa (pu_var)) (pu_bin pur_eq (pu_var) (pu_var)))))) (dss_nil))
    (dss_cons (ds_if (db_pu (db_e (de_bi opl_isa (G.free 1 _ rfl) (by kernel_rfl) gl68_isinstance (da_cons (de_varO va68_1) (da_cons (de_ty (G.free 2 _ rfl) (by kernel_rfl) gl68_int) (da_nil))))) (pu_e (pu_isa (pu_var)))) (dss_one (ds_ret (de_pu (de_and (de_bi opl_isa (G.free 1 _ rfl) (by kernel_rfl) gl68_isinstance (da_cons (de_varO va68_0) (da_cons (de_ty (G.free 2 _ rfl) (by kernel_rfl) gl68_int) (da_nil)))) (de_and (de_not (de_bi opl_isa (G.free 1 _ rfl) (by kernel_rfl) gl68_isinstance (da_cons (de_varO va68_0) (da_cons (de_ty (G.free 0 _ rfl) (by kernel_rfl) gl68_bool) (da_nil))))) (de_one (de_cmp op2_eq (de_varO va68_0) (de_varO va68_1))))) (pu_and (pu_isa (pu_var)) (pu_and (pu_not (pu_isa (pu_var))) (pu_bin pur_eq (pu_var) (pu_var))))))) (dss_nil))
    (dss_one (ds_ret (de_pu (de_and (de_bi opl_isa (G.free 1 _ rfl) (by kernel_rfl) gl68_isinstance (da_cons (de_varO va68_0) (da_cons (de_ty (G.free 6 _ rfl) (by kernel_rfl) gl68_str) (da_nil)))) (de_one (de_cmp op2_eq (de_varO va68_0) (de_varO va68_1)))) (pu_and (pu_isa (pu_var)) (pu_bin pur_eq (pu_var) (pu_var)))))))))
theorem s68 : L2.FnScope ["told", "due", "k"] ["told", "due"] (defScope (top 89)) := ⟨rfl, rfl, rfl, by decide +kernel, rfl, by decide +kernel, by decide +kernel⟩
theorem k68 (G : Gd c) (hV : ∀ l : Lx, (∀ j dj, tab j = some dj → FnAt c l j dj.np) → ∀ m k, okN m k = true → FnAt c l k m) (h : ∃ fd, L2.FunD c.K "_law_like" "_law_like" (defArgs (top 89)) (defBody (top 89)) (defScope (top 89)) [] [] (c.fa 68) fd) : DefOk c tab 68 d68 := by
  obtain ⟨fd, F⟩ := h
  exact ⟨_, _, _, _, _, ["told", "due", "k"], ["told", "due"], fd, F, s68, rfl, rfl, F.bindsN fun _ _ _ _ _ _ us hl => match us, hl with | [_, _], _ => rfl, fun n cal hF => o68 G n cal hF (hV _ hF)⟩
def l69 (n : Nat) (cal : Nat → FnSem) : Lx := ⟨["windows", "looks", "callers", "rest", "turn", "best", "row"], defScope (top 90), true, n, cal⟩
theorem va69_0 {n : Nat} {cal : Nat → FnSem} : VarOk (l69 n cal) 0 "windows" := ⟨rfl, .inl (by kernel_rfl), by kernel_rfl, by kernel_rfl⟩
theorem gl69_list {n : Nat} {cal : Nat → FnSem} : (l69 n cal).sc.names.lookup ("list" : Str) = some .globalImplicit := by kernel_rfl
theorem gl69_len {n : Nat} {cal : Nat → FnSem} : (l69 n cal).sc.names.lookup ("len" : Str) = some .globalImplicit := by kernel_rfl
theorem gl69_range {n : Nat} {cal : Nat → FnSem} : (l69 n cal).sc.names.lookup ("range" : Str) = some .globalImplicit := by kernel_rfl
theorem va69_3 {n : Nat} {cal : Nat → FnSem} : VarOk (l69 n cal) 3 "rest" := ⟨rfl, .inl (by kernel_rfl), by kernel_rfl, by kernel_rfl⟩
theorem va69_6 {n : Nat} {cal : Nat → FnSem} : VarOk (l69 n cal) 6 "row" := ⟨rfl, .inl (by kernel_rfl), by kernel_rfl, by kernel_rfl⟩
theorem va69_5 {n : Nat} {cal : Nat → FnSem} : VarOk (l69 n cal) 5 "best" := ⟨rfl, .inr (.inl (by kernel_rfl)), by kernel_rfl, by kernel_rfl⟩
theorem va69_1 {n : Nat} {cal : Nat → FnSem} : VarOk (l69 n cal) 1 "looks" := ⟨rfl, .inl (by kernel_rfl), by kernel_rfl, by kernel_rfl⟩
theorem va69_2 {n : Nat} {cal : Nat → FnSem} : VarOk (l69 n cal) 2 "callers" := ⟨rfl, .inl (by kernel_rfl), by kernel_rfl, by kernel_rfl⟩
theorem gl69_tuple {n : Nat} {cal : Nat → FnSem} : (l69 n cal).sc.names.lookup ("tuple" : Str) = some .globalImplicit := by kernel_rfl
theorem o69 (G : Gd c) (n : Nat) (cal : Nat → FnSem) (hF : ∀ j dj, tab j = some dj → FnAt c (l69 n cal) j dj.np) (hV : ∀ m k, okN m k = true → FnAt c (l69 n cal) k m) : DSs c (l69 n cal) (defBody (top 90)) (b69 cal) :=
  dss_cons (ds_asgN (de_lst (da_nil)) rfl (.inl (by kernel_rfl)) (.inl rfl))
    (dss_cons (ds_asgN (de_lst (da_nil)) rfl (.inl (by kernel_rfl)) (.inl rfl))
    (dss_cons (ds_asgN (de_bty opl_list (G.free 7 _ rfl) (by kernel_rfl) gl69_list (da_cons (de_varO va69_0) (da_nil))) rfl (.inl (by kernel_rfl)) (.inl rfl))
    (dss_cons (ds_for (di_rng1 (G.free 5 _ rfl) gl69_range (de_pu (de_bi opl_len (G.free 4 _ rfl) (by kernel_rfl) gl69_len (da_cons (de_varO va69_0) (da_nil))) (pu_bi1 pur_len (pu_var)))) (dg_name rfl (.inl (by kernel_rfl)) (.inl rfl)) (dss_cons (ds_if (db_pu (db_cmp op2_eq bo_eq (de_bi opl_len (G.free 4 _ rfl) (by kernel_rfl) gl69_len (da_cons (de_varO va69_3) (da_nil))) (de_int)) (pu_e (pu_bin pur_eq (pu_bi1 pur_len (pu_var)) (pu_c)))) (dss_one (ds_brk)) (dss_nil))
    (dss_cons (ds_asgN (de_pu (de_ix (de_varO va69_3) (de_int)) (pu_bin pur_ix (pu_var) (pu_c))) rfl (.inr (by kernel_rfl)) (.inl rfl))
    (dss_cons (ds_for (di_seq (de_varO va69_3)) (dg_name rfl (.inl (by kernel_rfl)) (.inl rfl)) (dss_one (ds_if (db_pu (db_cmp op2_lt bo_lt (de_ix (de_varO va69_6) (de_int)) (de_ix (de_varO va69_5) (de_int))) (pu_e (pu_bin pur_lt (pu_bin pur_ix (pu_var) (pu_c)) (pu_bin pur_ix (pu_var) (pu_c))))) (dss_one (ds_asgN (de_varO va69_6) rfl (.inr (by kernel_rfl)) (.inl rfl))) (dss_nil))))
    (dss_cons (ds_expr (de_bm opm_append (.inl rfl) PySem.F.plainAttrs_list PySem.F.slot_list_append PySem.F.type_list_append (de_varO va69_1) (da_pu (da_cons (de_ix (de_varO va69_5) (de_int)) (da_nil)) (pua_cons (pu_bin pur_ix (pu_var) (pu_c)) (pua_nil)))))
    (dss_cons (ds_expr (de_bm opm_append (.inl rfl) PySem.F.plainAttrs_list PySem.F.slot_list_append PySem.F.type_list_append (de_varO va69_2) (da_cons (de_varO va69_5) (da_nil))))
    (dss_one (ds_asgLc rfl (by kernel_rfl) (by kernel_rfl) (by kernel_rfl) (own := [("row", 6)]) (di_seq (de_varO va69_3)) (by kernel_rfl) (dg_name rfl (.inl (by kernel_rfl)) (.inr (by kernel_rfl))) (dt_one (db_pu (db_cmp op2_gt bo_gt (de_ix (de_var rfl (.inl (by kernel_rfl)) (by kernel_rfl) (by kernel_rfl)) (de_int)) (de_ix (de_var rfl (.inr (.inl (by kernel_rfl))) (by kernel_rfl) (by kernel_rfl)) (de_int))) (pu_e (pu_bin pur_gt (pu_bin pur_ix (pu_var) (pu_c)) (pu_bin pur_ix (pu_var) (pu_c)))))) (de_var rfl (.inl (by kernel_rfl)) (by kernel_rfl) (by kernel_rfl)) (by simp)))))))))
    (dss_one (ds_ret (de_pu (de_tup (da_cons (de_bty opl_tuple (G.free 3 _ rfl) (by kernel_rfl) gl69_tuple (da_cons (de_varO va69_1) (da_nil))) (da_cons (de_bty opl_tuple (G.free 3 _ rfl) (by kernel_rfl) gl69_tuple (da_cons (de_varO va69_2) (da_nil))) (da_nil)))) (pu_tup (pua_cons (pu_bi1 pur_tuple (pu_var)) (pua_cons (pu_bi1 pur_tuple (pu_var)) (pua_nil))))))))))
theorem s69 : L2.FnScope ["windows", "looks", "callers", "rest", "turn", "best", "row"] ["windows"] (defScope (top 90)) := ⟨rfl, rfl, rfl, by decide +kernel, rfl, by decide +kernel, by decide +kernel⟩
theorem k69 (G : Gd c) (hV : ∀ l : Lx, (∀ j dj, tab j = some dj → FnAt c l j dj.np) → ∀ m k, okN m k = true → FnAt c l k m) (h : ∃ fd, L2.FunD c.K "_law_lazy" "_law_lazy" (defArgs (top 90)) (defBody (top 90)) (defScope (top 90)) [] [] (c.fa 69) fd) : DefOk c tab 69 d69 := by
  obtain ⟨fd, F⟩ := h
  exact ⟨_, _, _, _, _, ["windows", "looks", "callers", "rest", "turn", "best", "row"], ["windows"], fd, F, s69, rfl, rfl, F.bindsN fun _ _ _ _ _ _ us hl => match us, hl with | [_], _ => rfl, fun n cal hF => o69 G n cal hF (hV _ hF)⟩
def l70 (n : Nat) (cal : Nat → FnSem) : Lx := ⟨["jar", "many", "frame", "base", "scale", "wide", "rows", "k", "way", "a", "b", "other", "row"], defScope (top 91), true, n, cal⟩
theorem va70_2 {n : Nat} {cal : Nat → FnSem} : VarOk (l70 n cal) 2 "frame" := ⟨rfl, .inl (by kernel_rfl), by kernel_rfl, by kernel_rfl⟩
theorem va70_1 {n : Nat} {cal : Nat → FnSem} : VarOk (l70 n cal) 1 "many" := ⟨rfl, .inl (by kernel_rfl), by kernel_rfl, by kernel_rfl⟩
theorem gl70_range {n : Nat} {cal : Nat → FnSem} : (l70 n cal).sc.names.lookup ("range" : Str) = some .globalImplicit := by kernel_rfl
theorem va70_0 {n : Nat} {cal : Nat → FnSem} : VarOk (l70 n cal) 0 "jar" := ⟨rfl, .inl (by kernel_rfl), by kernel_rfl, by kernel_rfl⟩
theorem gl70__law_take {n : Nat} {cal : Nat → FnSem} : (l70 n cal).sc.names.lookup ("_law_take" : Str) = some .globalImplicit := by kernel_rfl
theorem va70_5 {n : Nat} {cal : Nat → FnSem} : VarOk (l70 n cal) 5 "wide" := ⟨rfl, .inl (by kernel_rfl), by kernel_rfl, by kernel_rfl⟩
theorem va70_9 {n : Nat} {cal : Nat → FnSem} : VarOk (l70 n cal) 9 "a" := ⟨rfl, .inl (by kernel_rfl), by kernel_rfl, by kernel_rfl⟩
theorem gl70_min {n : Nat} {cal : Nat → FnSem} : (l70 n cal).sc.names.lookup ("min" : Str) = some .globalImplicit := by kernel_rfl
theorem va70_8 {n : Nat} {cal : Nat → FnSem} : VarOk (l70 n cal) 8 "way" := ⟨rfl, .inl (by kernel_rfl), by kernel_rfl, by kernel_rfl⟩
theorem va70_6 {n : Nat} {cal : Nat → FnSem} : VarOk (l70 n cal) 6 "rows" := ⟨rfl, .inl (by kernel_rfl), by kernel_rfl, by kernel_rfl⟩
theorem gl70_len {n : Nat} {cal : Nat → FnSem} : (l70 n cal).sc.names.lookup ("len" : Str) = some .globalImplicit := by kernel_rfl
theorem va70_11 {n : Nat} {cal : Nat → FnSem} : VarOk (l70 n cal) 11 "other" := ⟨rfl, .inl (by kernel_rfl), by kernel_rfl, by kernel_rfl⟩
theorem va70_10 {n : Nat} {cal : Nat → FnSem} : VarOk (l70 n cal) 10 "b" := ⟨rfl, .inl (by kernel_rfl), by kernel_rfl, by kernel_rfl⟩
theorem gl70_tuple {n : Nat} {cal : Nat → FnSem} : (l70 n cal).sc.names.lookup ("tuple" : Str) = some .globalImplicit := by kernel_rfl
theorem o70 (G : Gd c) (n : Nat) (cal : Nat → FnSem) (hF : ∀ j dj, tab j = some dj → FnAt c (l70 n cal) j dj.np) (hV : ∀ m k, okN m k = true → FnAt c (l70 n cal) k m) : DSs c (l70 n cal) (defBody (top 91)) (b70 cal) :=
  dss_cons (ds_asg (de_varO va70_2) (dg_tup (dgn_cons rfl (.inr (by kernel_rfl)) (.inl rfl) (dgn_cons rfl (.inr (by kernel_rfl)) (.inl rfl) (dgn_cons rfl (.inl (by kernel_rfl)) (.inl rfl) (dgn_nil))))))
    (dss_cons (ds_asgN (de_lst (da_nil)) rfl (.inl (by kernel_rfl)) (.inl rfl))
    (dss_cons (ds_for (di_rng1 (G.free 5 _ rfl) gl70_range (de_varO va70_1)) (dg_name rfl (.inl (by kernel_rfl)) (.inl rfl)) (dss_cons (ds_asgN (de_call (hF 67 _ rfl) (G.fn 67 _ rfl) gl70__law_take (da_cons (de_varO va70_0) (da_cons (de_int) (da_nil)))) rfl (.inl (by kernel_rfl)) (.inl rfl))
    (dss_cons (ds_asgN (de_call (hF 67 _ rfl) (G.fn 67 _ rfl) gl70__law_take (da_pu (da_cons (de_varO va70_0) (da_cons (de_bin op2_add (de_varO va70_5) (de_int)) (da_nil))) (pua_cons (pu_var) (pua_cons (pu_bin pur_add (pu_var) (pu_c)) (pua_nil))))) rfl (.inl (by kernel_rfl)) (.inl rfl))
    (dss_cons (ds_asgN (de_bi opl_min2 (G.free 10 _ rfl) (by kernel_rfl) gl70_min (da_cons (de_varO va70_5) (da_cons (de_bin op2_add (de_varO va70_9) (de_call (hF 67 _ rfl) (G.fn 67 _ rfl) gl70__law_take (da_cons (de_varO va70_0) (da_cons (de_int) (da_nil))))) (da_nil)))) rfl (.inl (by kernel_rfl)) (.inl rfl))
    (dss_cons (ds_if (db_pu (db_w (dw_and (db_cmp op2_lt bo_lt (de_varO va70_8) (de_int)) (dw_and1 (db_cmp op2_gt bo_gt (de_bi opl_len (G.free 4 _ rfl) (by kernel_rfl) gl70_len (da_cons (de_varO va70_6) (da_nil))) (de_int))))) (pub_and (pu_e (pu_bin pur_lt (pu_var) (pu_c))) (pu_e (pu_bin pur_gt (pu_bi1 pur_len (pu_var)) (pu_c))))) (dss_cons (ds_asgN (de_ix (de_varO va70_6) (de_call (hF 67 _ rfl) (G.fn 67 _ rfl) gl70__law_take (da_pu (da_cons (de_varO va70_0) (da_cons (de_bi opl_len (G.free 4 _ rfl) (by kernel_rfl) gl70_len (da_cons (de_varO va70_6) (da_nil))) (da_nil))) (pua_cons (pu_var) (pua_cons (pu_bi1 pur_len (pu_var)) (pua_nil)))))) rfl (.inl (by kernel_rfl)) (.inl rfl))
    (dss_one (ds_if (db_pu (db_cmp op2_eq bo_eq (de_varO va70_8) (de_int)) (pu_e (pu_bin pur_eq (pu_var) (pu_c)))) (dss_one (ds_asg (de_varO va70_11) (dg_tup (dgn_cons rfl (.inl (by kernel_rfl)) (.inl rfl) (dgn_cons rfl (.inl (by kernel_rfl)) (.inl rfl) (dgn_nil)))))) (dss_one (ds_if (db_pu (db_cmp op2_eq bo_eq (de_varO va70_8) (de_int)) (pu_e (pu_bin pur_eq (pu_var) (pu_c)))) (dss_cons (ds_asgN (de_pu (de_bi opl_min2 (G.free 10 _ rfl) (by kernel_rfl) gl70_min (da_cons (de_varO va70_9) (da_cons (de_ix (de_varO va70_11) (de_int)) (da_nil)))) (pu_bi2 pur_min2 (pu_var) (pu_bin pur_ix (pu_var) (pu_c)))) rfl (.inl (by kernel_rfl)) (.inl rfl))
    (dss_one (ds_asgN (de_pu (de_ix (de_varO va70_11) (de_int)) (pu_bin pur_ix (pu_var) (pu_c))) rfl (.inl (by kernel_rfl)) (.inl rfl)))) (dss_cons (ds_asgN (de_pu (de_bi opl_min2 (G.free 10 _ rfl) (by kernel_rfl) gl70_min (da_cons (de_varO va70_5) (da_cons (de_bin op2_sub (de_bin op2_add (de_ix (de_varO va70_11) (de_int)) (de_varO va70_10)) (de_varO va70_9)) (da_nil)))) (pu_bi2 pur_min2 (pu_var) (pu_bin pur_sub (pu_bin pur_add (pu_bin pur_ix (pu_var) (pu_c)) (pu_var)) (pu_var)))) rfl (.inl (by kernel_rfl)) (.inl rfl))
    (dss_one (ds_asgN (de_pu (de_ix (de_varO va70_11) (de_int)) (pu_bin pur_ix (pu_var) (pu_c))) rfl (.inl (by kernel_rfl)) (.inl rfl))))))))) (dss_one (ds_if (db_pu (db_cmp op2_eq bo_eq (de_varO va70_8) (de_int)) (pu_e (pu_bin pur_eq (pu_var) (pu_c)))) (dss_one (ds_asgN (de_bin op2_add (de_varO va70_9) (de_call (hF 67 _ rfl) (G.fn 67 _ rfl) gl70__law_take (da_pu (da_cons (de_varO va70_0) (da_cons (de_bin op2_sub (de_bin op2_add (de_varO va70_5) (de_int)) (de_varO va70_9)) (da_nil))) (pua_cons (pu_var) (pua_cons (pu_bin pur_sub (pu_bin pur_add (pu_var) (pu_c)) (pu_var)) (pua_nil)))))) rfl (.inl (by kernel_rfl)) (.inl rfl))) (dss_one (ds_if (db_pu (db_cmp op2_eq bo_eq (de_varO va70_8) (de_int)) (pu_e (pu_bin pur_eq (pu_var) (pu_c)))) (dss_one (ds_asgN (de_varO va70_9) rfl (.inl (by kernel_rfl)) (.inl rfl))) (dss_nil))))))
    (dss_one (ds_expr (de_bm opm_append (.inl rfl) PySem.F.plainAttrs_list PySem.F.slot_list_append PySem.F.type_list_append (de_varO va70_6) (da_pu (da_cons (de_tup (da_cons (de_varO va70_9) (da_cons (de_varO va70_10) (da_nil)))) (da_nil)) (pua_cons (pu_tup (pua_cons (pu_var) (pua_cons (pu_var) (pua_nil)))) (pua_nil)))))))))))
    (dss_one (ds_ret (de_bty opl_tuple (G.free 3 _ rfl) (by kernel_rfl) gl70_tuple (da_cons (de_lc (own := [("row", 12)]) (di_seq (de_varO va70_6)) (by kernel_rfl) (dg_name rfl (.inl (by kernel_rfl)) (.inr (by kernel_rfl))) (dt_nil) (de_pu (de_tup (da_cons (de_bin op2_add (de_var rfl (.inr (.inl (by kernel_rfl))) (by kernel_rfl) (by kernel_rfl)) (de_bin op2_mul (de_var rfl (.inr (.inl (by kernel_rfl))) (by kernel_rfl) (by kernel_rfl)) (de_ix (de_var rfl (.inl (by kernel_rfl)) (by kernel_rfl) (by kernel_rfl)) (de_int)))) (da_cons (de_bin op2_add (de_var rfl (.inr (.inl (by kernel_rfl))) (by kernel_rfl) (by kernel_rfl)) (de_bin op2_mul (de_var rfl (.inr (.inl (by kernel_rfl))) (by kernel_rfl) (by kernel_rfl)) (de_ix (de_var rfl (.inl (by kernel_rfl)) (by kernel_rfl) (by kernel_rfl)) (de_int)))) (da_nil)))) (pu_tup (pua_cons (pu_bin pur_add (pu_var) (pu_bin pur_mul (pu_var) (pu_bin pur_ix (pu_var) (pu_c)))) (pua_cons (pu_bin pur_add (pu_var) (pu_bin pur_mul (pu_var) (pu_bin pur_ix (pu_var) (pu_c)))) (pua_nil))))) (by simp)) (da_nil)))))))
theorem s70 : L2.FnScope ["jar", "many", "frame", "base", "scale", "wide", "rows", "k", "way", "a", "b", "other", "row"] ["jar", "many", "frame"] (defScope (top 91)) := ⟨rfl, rfl, rfl, by decide +kernel, rfl, by decide +kernel, by decide +kernel⟩
theorem k70 (G : Gd c) (hV : ∀ l : Lx, (∀ j dj, tab j = some dj → FnAt c l j dj.np) → ∀ m k, okN m k = true → FnAt c l k m) (h : ∃ fd, L2.FunD c.K "_law_windows" "_law_windows" (defArgs (top 91)) (defBody (top 91)) (defScope (top 91)) [] [] (c.fa 70) fd) : DefOk c tab 70 d70 := by
  obtain ⟨fd, F⟩ := h
  exact ⟨_, _, _, _, _, ["jar", "many", "frame", "base", "scale", "wide", "rows", "k", "way", "a", "b", "other", "row"], ["jar", "many", "frame"], fd, F, s70, rfl, rfl, F.bindsN fun _ _ _ _ _ _ us hl => match us, hl with | [_, _, _], _ => rfl, fun n cal hF => o70 G n cal hF (hV _ hF)⟩
def l71 (n : Nat) (cal : Nat → FnSem) : Lx := ⟨["jar", "wide", "scale", "some", "base"], defScope (top 92), true, n, cal⟩
theorem va71_0 {n : Nat} {cal : Nat → FnSem} : VarOk (l71 n cal) 0 "jar" := ⟨rfl, .inl (by kernel_rfl), by kernel_rfl, by kernel_rfl⟩
theorem gl71__law_take {n : Nat} {cal : Nat → FnSem} : (l71 n cal).sc.names.lookup ("_law_take" : Str) = some .globalImplicit := by kernel_rfl
theorem va71_3 {n : Nat} {cal : Nat → FnSem} : VarOk (l71 n cal) 3 "some" := ⟨rfl, .inl (by kernel_rfl), by kernel_rfl, by kernel_rfl⟩
theorem va71_1 {n : Nat} {cal : Nat → FnSem} : VarOk (l71 n cal) 1 "wide" := ⟨rfl, .inl (by kernel_rfl), by kernel_rfl, by kernel_rfl⟩
theorem va71_2 {n : Nat} {cal : Nat → FnSem} : VarOk (l71 n cal) 2 "scale" := ⟨rfl, .inl (by kernel_rfl), by kernel_rfl, by kernel_rfl⟩
theorem va71_4 {n : Nat} {cal : Nat → FnSem} : VarOk (l71 n cal) 4 "base" := ⟨rfl, .inl (by kernel_rfl), by kernel_rfl, by kernel_rfl⟩
theorem o71 (G : Gd c) (n : Nat) (cal : Nat → FnSem) (hF : ∀ j dj, tab j = some dj → FnAt c (l71 n cal) j dj.np) (hV : ∀ m k, okN m k = true → FnAt c (l71 n cal) k m) : DSs c (l71 n cal) (defBody (top 92)) (b71 cal) :=
  dss_cons (ds_asgN (de_ix (de_pu (de_tup (da_cons (de_int) (da_cons (de_int) (da_cons (de_int) (da_cons (de_int) (da_cons (de_int) (da_cons (de_int) (da_nil)))))))) (pu_tup (pua_cons (pu_c) (pua_cons (pu_c) (pua_cons (pu_c) (pua_cons (pu_c) (pua_cons (pu_c) (pua_cons (pu_c) (pua_nil))))))))) (de_call (hF 67 _ rfl) (G.fn 67 _ rfl) gl71__law_take (da_cons (de_varO va71_0) (da_cons (de_int) (da_nil))))) rfl (.inl (by kernel_rfl)) (.inl rfl))
    (dss_cons (ds_asgN (de_ix (de_pu (de_tup (da_cons (de_int) (da_cons (de_int) (da_cons (de_int) (da_cons (de_int) (da_cons (de_int) (da_cons (de_int) (da_nil)))))))) (pu_tup (pua_cons (pu_c) (pua_cons (pu_c) (pua_cons (pu_c) (pua_cons (pu_c) (pua_cons (pu_c) (pua_cons (pu_c) (pua_nil))))))))) (de_call (hF 67 _ rfl) (G.fn 67 _ rfl) gl71__law_take (da_cons (de_varO va71_0) (da_cons (de_int) (da_nil))))) rfl (.inl (by kernel_rfl)) (.inl rfl))
    (dss_cons (ds_asgN (de_call (hF 67 _ rfl) (G.fn 67 _ rfl) gl71__law_take (da_cons (de_varO va71_0) (da_cons (de_int) (da_nil)))) rfl (.inl (by kernel_rfl)) (.inl rfl))
    (dss_cons (ds_asgN (de_ix (de_pu (de_tup (da_cons (de_int) (da_cons (de_varO va71_3) (da_cons (de_bin op2_sub (de_bin op2_pow (de_int) (de_int)) (de_bin op2_mul (de_varO va71_1) (de_varO va71_2))) (da_cons (de_int) (da_nil)))))) (pu_tup (pua_cons (pu_c) (pua_cons (pu_var) (pua_cons (pu_bin pur_sub (pu_bin pur_pow (pu_c) (pu_c)) (pu_bin pur_mul (pu_var) (pu_var))) (pua_cons (pu_c) (pua_nil))))))) (de_call (hF 67 _ rfl) (G.fn 67 _ rfl) gl71__law_take (da_cons (de_varO va71_0) (da_cons (de_int) (da_nil))))) rfl (.inl (by kernel_rfl)) (.inl rfl))
    (dss_one (ds_ret (de_pu (de_tup (da_cons (de_varO va71_4) (da_cons (de_varO va71_2) (da_cons (de_varO va71_1) (da_nil))))) (pu_tup (pua_cons (pu_var) (pua_cons (pu_var) (pua_cons (pu_var) (pua_nil)))))))))))
theorem s71 : L2.FnScope ["jar", "wide", "scale", "some", "base"] ["jar"] (defScope (top 92)) := ⟨rfl, rfl, rfl, by decide +kernel, rfl, by decide +kernel, by decide +kernel⟩
theorem k71 (G : Gd c) (hV : ∀ l : Lx, (∀ j dj, tab j = some dj → FnAt c l j dj.np) → ∀ m k, okN m k = true → FnAt c l k m) (h : ∃ fd, L2.FunD c.K "_law_frame" "_law_frame" (defArgs (top 92)) (defBody (top 92)) (defScope (top 92)) [] [] (c.fa 71) fd) : DefOk c tab 71 d71 := by
  obtain ⟨fd, F⟩ := h
  exact ⟨_, _, _, _, _, ["jar", "wide", "scale", "some", "base"], ["jar"], fd, F, s71, rfl, rfl, F.bindsN fun _ _ _ _ _ _ us hl => match us, hl with | [_], _ => rfl, fun n cal hF => o71 G n cal hF (hV _ hF)⟩
def l72 (n : Nat) (cal : Nat → FnSem) : Lx := ⟨["row", "out", "at"], defScope (top 93), true, n, cal⟩
theorem va72_0 {n : Nat} {cal : Nat → FnSem} : VarOk (l72 n cal) 0 "row" := ⟨rfl, .inl (by kernel_rfl), by kernel_rfl, by kernel_rfl⟩
theorem gl72_sorted {n : Nat} {cal : Nat → FnSem} : (l72 n cal).sc.names.lookup ("sorted" : Str) = some .globalImplicit := by kernel_rfl
theorem va72_2 {n : Nat} {cal : Nat → FnSem} : VarOk (l72 n cal) 2 "at" := ⟨rfl, .inl (by kernel_rfl), by kernel_rfl, by kernel_rfl⟩
theorem va72_1 {n : Nat} {cal : Nat → FnSem} : VarOk (l72 n cal) 1 "out" := ⟨rfl, .inl (by kernel_rfl), by kernel_rfl, by kernel_rfl⟩
theorem gl72_len {n : Nat} {cal : Nat → FnSem} : (l72 n cal).sc.names.lookup ("len" : Str) = some .globalImplicit := by kernel_rfl
theorem gl72_tuple {n : Nat} {cal : Nat → FnSem} : (l72 n cal).sc.names.lookup ("tuple" : Str) = some .globalImplicit := by kernel_rfl
theorem o72 (G : Gd c) (n : Nat) (cal : Nat → FnSem) (hF : ∀ j dj, tab j = some dj → FnAt c (l72 n cal) j dj.np) (hV : ∀ m k, okN m k = true → FnAt c (l72 n cal) k m) : DSs c (l72 n cal) (defBody (top 93)) (b72 cal) :=
  dss_cons (ds_asgN (de_lst (da_nil)) rfl (.inl (by kernel_rfl)) (.inl rfl))
    (dss_cons (ds_for (di_seq (de_bi opl_sorted (G.free 12 _ rfl) (by kernel_rfl) gl72_sorted (da_cons (de_varO va72_0) (da_nil)))) (dg_name rfl (.inl (by kernel_rfl)) (.inl rfl)) (dss_one (ds_if (db_pu (db_w (dw_and (db_cmp op2_ge bo_ge (de_varO va72_2) (de_int)) (dw_and (db_cmp op2_le bo_le (de_varO va72_2) (de_bin op2_pow (de_int) (de_int))) (dw_and1 (db_w (dw_or (db_cmp op2_eq bo_eq (de_bi opl_len (G.free 4 _ rfl) (by kernel_rfl) gl72_len (da_cons (de_varO va72_1) (da_nil))) (de_int)) (dw_or1 (db_cmp op2_ne bo_ne (de_ix (de_varO va72_1) (de_neg (de_int))) (de_varO va72_2))))))))) (pub_and (pu_e (pu_bin pur_ge (pu_var) (pu_c))) (pub_and (pu_e (pu_bin pur_le (pu_var) (pu_bin pur_pow (pu_c) (pu_c)))) (pub_or (pu_e (pu_bin pur_eq (pu_bi1 pur_len (pu_var)) (pu_c))) (pu_e (pu_bin pur_ne (pu_bin pur_ix (pu_var) (pu_un pur_neg (pu_c))) (pu_var))))))) (dss_one (ds_expr (de_bm opm_append (.inl rfl) PySem.F.plainAttrs_list PySem.F.slot_list_append PySem.F.type_list_append (de_varO va72_1) (da_cons (de_varO va72_2) (da_nil))))) (dss_nil))))
    (dss_one (ds_ret (de_bty opl_tuple (G.free 3 _ rfl) (by kernel_rfl) gl72_tuple (da_cons (de_sl (de_varO va72_1) (do_none) (do_some (de_int))) (da_nil))))))
theorem s72 : L2.FnScope ["row", "out", "at"] ["row"] (defScope (top 93)) := ⟨rfl, rfl, rfl, by decide +kernel, rfl, by decide +kernel, by decide +kernel⟩
theorem k72 (G : Gd c) (hV : ∀ l : Lx, (∀ j dj, tab j = some dj → FnAt c l j dj.np) → ∀ m k, okN m k = true → FnAt c l k m) (h : ∃ fd, L2.FunD c.K "_law_rising" "_law_rising" (defArgs (top 93)) (defBody (top 93)) (defScope (top 93)) [] [] (c.fa 72) fd) : DefOk c tab 72 d72 := by
  obtain ⟨fd, F⟩ := h
  exact ⟨_, _, _, _, _, ["row", "out", "at"], ["row"], fd, F, s72, rfl, rfl, F.bindsN fun _ _ _ _ _ _ us hl => match us, hl with | [_], _ => rfl, fun n cal hF => o72 G n cal hF (hV _ hF)⟩
def l73 (n : Nat) (cal : Nat → FnSem) : Lx := ⟨["jar", "looks", "frame", "base", "scale", "wide", "way", "row", "k", "many"], defScope (top 94), true, n, cal⟩
theorem va73_2 {n : Nat} {cal : Nat → FnSem} : VarOk (l73 n cal) 2 "frame" := ⟨rfl, .inl (by kernel_rfl), by kernel_rfl, by kernel_rfl⟩
theorem va73_0 {n : Nat} {cal : Nat → FnSem} : VarOk (l73 n cal) 0 "jar" := ⟨rfl, .inr (.inl (by kernel_rfl)), by kernel_rfl, by kernel_rfl⟩
theorem gl73__law_take {n : Nat} {cal : Nat → FnSem} : (l73 n cal).sc.names.lookup ("_law_take" : Str) = some .globalImplicit := by kernel_rfl
theorem va73_1 {n : Nat} {cal : Nat → FnSem} : VarOk (l73 n cal) 1 "looks" := ⟨rfl, .inl (by kernel_rfl), by kernel_rfl, by kernel_rfl⟩
theorem gl73_list {n : Nat} {cal : Nat → FnSem} : (l73 n cal).sc.names.lookup ("list" : Str) = some .globalImplicit := by kernel_rfl
theorem va73_6 {n : Nat} {cal : Nat → FnSem} : VarOk (l73 n cal) 6 "way" := ⟨rfl, .inl (by kernel_rfl), by kernel_rfl, by kernel_rfl⟩
theorem va73_7 {n : Nat} {cal : Nat → FnSem} : VarOk (l73 n cal) 7 "row" := ⟨rfl, .inl (by kernel_rfl), by kernel_rfl, by kernel_rfl⟩
theorem gl73_len {n : Nat} {cal : Nat → FnSem} : (l73 n cal).sc.names.lookup ("len" : Str) = some .globalImplicit := by kernel_rfl
theorem va73_8 {n : Nat} {cal : Nat → FnSem} : VarOk (l73 n cal) 8 "k" := ⟨rfl, .inl (by kernel_rfl), by kernel_rfl, by kernel_rfl⟩
theorem gl73__law_rising {n : Nat} {cal : Nat → FnSem} : (l73 n cal).sc.names.lookup ("_law_rising" : Str) = some .globalImplicit := by kernel_rfl
theorem va73_9 {n : Nat} {cal : Nat → FnSem} : VarOk (l73 n cal) 9 "many" := ⟨rfl, .inl (by kernel_rfl), by kernel_rfl, by kernel_rfl⟩
theorem gl73_range {n : Nat} {cal : Nat → FnSem} : (l73 n cal).sc.names.lookup ("range" : Str) = some .globalImplicit := by kernel_rfl
theorem o73 (G : Gd c) (n : Nat) (cal : Nat → FnSem) (hF : ∀ j dj, tab j = some dj → FnAt c (l73 n cal) j dj.np) (hV : ∀ m k, okN m k = true → FnAt c (l73 n cal) k m) : DSs c (l73 n cal) (defBody (top 94)) (b73 cal) :=
  dss_cons (ds_asg (de_varO va73_2) (dg_tup (dgn_cons rfl (.inr (by kernel_rfl)) (.inl rfl) (dgn_cons rfl (.inr (by kernel_rfl)) (.inl rfl) (dgn_cons rfl (.inr (by kernel_rfl)) (.inl rfl) (dgn_nil))))))
    (dss_cons (ds_asgN (de_call (hF 67 _ rfl) (G.fn 67 _ rfl) gl73__law_take (da_cons (de_varO va73_0) (da_cons (de_int) (da_nil)))) rfl (.inl (by kernel_rfl)) (.inl rfl))
    (dss_cons (ds_asgN (de_bty opl_list (G.free 7 _ rfl) (by kernel_rfl) gl73_list (da_cons (de_varO va73_1) (da_nil))) rfl (.inl (by kernel_rfl)) (.inl rfl))
    (dss_cons (ds_if (db_pu (db_w (dw_and (db_cmp op2_lt bo_lt (de_varO va73_6) (de_int)) (dw_and1 (db_cmp op2_gt bo_gt (de_bi opl_len (G.free 4 _ rfl) (by kernel_rfl) gl73_len (da_cons (de_varO va73_7) (da_nil))) (de_int))))) (pub_and (pu_e (pu_bin pur_lt (pu_var) (pu_c))) (pu_e (pu_bin pur_gt (pu_bi1 pur_len (pu_var)) (pu_c))))) (dss_cons (ds_asgN (de_call (hF 67 _ rfl) (G.fn 67 _ rfl) gl73__law_take (da_pu (da_cons (de_varO va73_0) (da_cons (de_bi opl_len (G.free 4 _ rfl) (by kernel_rfl) gl73_len (da_cons (de_varO va73_7) (da_nil))) (da_nil))) (pua_cons (pu_var) (pua_cons (pu_bi1 pur_len (pu_var)) (pua_nil))))) rfl (.inl (by kernel_rfl)) (.inl rfl))
    (dss_cons (ds_if (db_pu (db_cmp op2_eq bo_eq (de_varO va73_6) (de_int)) (pu_e (pu_bin pur_eq (pu_var) (pu_c)))) (dss_one (ds_asgN (de_bin op2_add (de_sl (de_varO va73_7) (do_none) (do_some (de_varO va73_8))) (de_sl (de_varO va73_7) (do_some (de_pu (de_bin op2_add (de_varO va73_8) (de_int)) (pu_bin pur_add (pu_var) (pu_c)))) (do_none))) rfl (.inl (by kernel_rfl)) (.inl rfl))) (dss_one (ds_put (de_varO va73_7) (de_varO va73_8) (de_pu (de_bin op2_sub (de_bin op2_add (de_ix (de_varO va73_7) (de_varO va73_8)) (de_bin op2_mul (de_int) (de_varO va73_6))) (de_int)) (pu_bin pur_sub (pu_bin pur_add (pu_bin pur_ix (pu_var) (pu_var)) (pu_bin pur_mul (pu_c) (pu_var))) (pu_c))))))
    (dss_one (ds_ret (de_call (hF 72 _ rfl) (G.fn 72 _ rfl) gl73__law_rising (da_cons (de_varO va73_7) (da_nil))))))) (dss_nil))
    (dss_cons (ds_if (db_pu (db_cmp op2_eq bo_eq (de_varO va73_6) (de_int)) (pu_e (pu_bin pur_eq (pu_var) (pu_c)))) (dss_cons (ds_asgN (de_ix (de_pu (de_tup (da_cons (de_int) (da_cons (de_int) (da_cons (de_int) (da_cons (de_int) (da_nil)))))) (pu_tup (pua_cons (pu_c) (pua_cons (pu_c) (pua_cons (pu_c) (pua_cons (pu_c) (pua_nil))))))) (de_call (hF 67 _ rfl) (G.fn 67 _ rfl) gl73__law_take (da_cons (de_varO va73_0) (da_cons (de_int) (da_nil))))) rfl (.inl (by kernel_rfl)) (.inl rfl))
    (dss_one (ds_ret (de_call (hF 72 _ rfl) (G.fn 72 _ rfl) gl73__law_rising (da_cons (de_lc (own := [("k", 8)]) (di_rng1 (G.free 5 _ rfl) gl73_range (de_varO va73_9)) (by kernel_rfl) (dg_name rfl (.inl (by kernel_rfl)) (.inr (by kernel_rfl))) (dt_nil) (de_bin op2_add (de_bin op2_add (de_var rfl (.inr (.inl (by kernel_rfl))) (by kernel_rfl) (by kernel_rfl)) (de_bin op2_mul (de_var rfl (.inr (.inl (by kernel_rfl))) (by kernel_rfl) (by kernel_rfl)) (de_call (hF 67 _ rfl).blk (G.fn 67 _ rfl) (by kernel_rfl) (da_pu (da_cons (de_var rfl (.inr (.inl (by kernel_rfl))) (by kernel_rfl) (by kernel_rfl)) (da_cons (de_bin op2_add (de_var rfl (.inr (.inl (by kernel_rfl))) (by kernel_rfl) (by kernel_rfl)) (de_int)) (da_nil))) (pua_cons (pu_var) (pua_cons (pu_bin pur_add (pu_var) (pu_c)) (pua_nil))))))) (de_call (hF 67 _ rfl).blk (G.fn 67 _ rfl) (by kernel_rfl) (da_cons (de_var rfl (.inr (.inl (by kernel_rfl))) (by kernel_rfl) (by kernel_rfl)) (da_cons (de_int) (da_nil))))) (by simp)) (da_nil)))))) (dss_nil))
    (dss_one (ds_ret (de_pu (de_tup (da_nil)) (pu_tup (pua_nil)))))))))
theorem s73 : L2.FnScope ["jar", "looks", "frame", "base", "scale", "wide", "way", "row", "k", "many"] ["jar", "looks", "frame"] (defScope (top 94)) := ⟨rfl, rfl, rfl, by decide +kernel, rfl, by decide +kernel, by decide +kernel⟩
theorem k73 (G : Gd c) (hV : ∀ l : Lx, (∀ j dj, tab j = some dj → FnAt c l j dj.np) → ∀ m k, okN m k = true → FnAt c l k m) (h : ∃ fd, L2.FunD c.K "_law_moments" "_law_moments" (defArgs (top 94)) (defBody (top 94)) (defScope (top 94)) [] [] (c.fa 73) fd) : DefOk c tab 73 d73 := by
  obtain ⟨fd, F⟩ := h
  exact ⟨_, _, _, _, _, ["jar", "looks", "frame", "base", "scale", "wide", "way", "row", "k", "many"], ["jar", "looks", "frame"], fd, F, s73, rfl, rfl, F.bindsN fun _ _ _ _ _ _ us hl => match us, hl with | [_, _, _], _ => rfl, fun n cal hF => o73 G n cal hF (hV _ hF)⟩
def l74 (n : Nat) (cal : Nat → FnSem) : Lx := ⟨["moments", "windows", "row", "found", "at"], defScope (top 95), true, n, cal⟩
theorem va74_1 {n : Nat} {cal : Nat → FnSem} : VarOk (l74 n cal) 1 "windows" := ⟨rfl, .inl (by kernel_rfl), by kernel_rfl, by kernel_rfl⟩
theorem va74_0 {n : Nat} {cal : Nat → FnSem} : VarOk (l74 n cal) 0 "moments" := ⟨rfl, .inl (by kernel_rfl), by kernel_rfl, by kernel_rfl⟩
theorem va74_2 {n : Nat} {cal : Nat → FnSem} : VarOk (l74 n cal) 2 "row" := ⟨rfl, .inl (by kernel_rfl), by kernel_rfl, by kernel_rfl⟩
theorem va74_4 {n : Nat} {cal : Nat → FnSem} : VarOk (l74 n cal) 4 "at" := ⟨rfl, .inl (by kernel_rfl), by kernel_rfl, by kernel_rfl⟩
theorem va74_3 {n : Nat} {cal : Nat → FnSem} : VarOk (l74 n cal) 3 "found" := ⟨rfl, .inl (by kernel_rfl), by kernel_rfl, by kernel_rfl⟩
theorem o74 (G : Gd c) (n : Nat) (cal : Nat → FnSem) (hF : ∀ j dj, tab j = some dj → FnAt c (l74 n cal) j dj.np) (hV : ∀ m k, okN m k = true → FnAt c (l74 n cal) k m) : DSs c (l74 n cal) (defBody (top 95)) (b74 cal) :=
  dss_cons (ds_for (di_seq (de_varO va74_1)) (dg_name rfl (.inl (by kernel_rfl)) (.inl rfl)) (dss_cons (ds_asgN (de_bl) rfl (.inl (by kernel_rfl)) (.inl rfl))
    (dss_cons (ds_for (di_seq (de_varO va74_0)) (dg_name rfl (.inl (by kernel_rfl)) (.inl rfl)) (dss_one (ds_if (db_pu (db_w (dw_and (db_cmp op2_le bo_le (de_ix (de_varO va74_2) (de_int)) (de_varO va74_4)) (dw_and1 (db_cmp op2_le bo_le (de_varO va74_4) (de_ix (de_varO va74_2) (de_int)))))) (pub_and (pu_e (pu_bin pur_le (pu_bin pur_ix (pu_var) (pu_c)) (pu_var))) (pu_e (pu_bin pur_le (pu_var) (pu_bin pur_ix (pu_var) (pu_c)))))) (dss_one (ds_asgN (de_bl) rfl (.inl (by kernel_rfl)) (.inl rfl))) (dss_nil))))
    (dss_one (ds_if (db_pu (db_not (db_e (de_varO va74_3))) (pub_not (pu_e (pu_var)))) (dss_one (ds_ret (de_bl))) (dss_nil))))))
    (dss_one (ds_ret (de_bl)))
theorem s74 : L2.FnScope ["moments", "windows", "row", "found", "at"] ["moments", "windows"] (defScope (top 95)) := ⟨rfl, rfl, rfl, by decide +kernel, rfl, by decide +kernel, by decide +kernel⟩
theorem k74 (G : Gd c) (hV : ∀ l : Lx, (∀ j dj, tab j = some dj → FnAt c l j dj.np) → ∀ m k, okN m k = true → FnAt c l k m) (h : ∃ fd, L2.FunD c.K "_law_held" "_law_held" (defArgs (top 95)) (defBody (top 95)) (defScope (top 95)) [] [] (c.fa 74) fd) : DefOk c tab 74 d74 := by
  obtain ⟨fd, F⟩ := h
  exact ⟨_, _, _, _, _, ["moments", "windows", "row", "found", "at"], ["moments", "windows"], fd, F, s74, rfl, rfl, F.bindsN fun _ _ _ _ _ _ us hl => match us, hl with | [_, _], _ => rfl, fun n cal hF => o74 G n cal hF (hV _ hF)⟩
def l75 (n : Nat) (cal : Nat → FnSem) : Lx := ⟨["windows", "first", "last", "row"], defScope (top 96), true, n, cal⟩
theorem va75_0 {n : Nat} {cal : Nat → FnSem} : VarOk (l75 n cal) 0 "windows" := ⟨rfl, .inl (by kernel_rfl), by kernel_rfl, by kernel_rfl⟩
theorem va75_1 {n : Nat} {cal : Nat → FnSem} : VarOk (l75 n cal) 1 "first" := ⟨rfl, .inl (by kernel_rfl), by kernel_rfl, by kernel_rfl⟩
theorem va75_3 {n : Nat} {cal : Nat → FnSem} : VarOk (l75 n cal) 3 "row" := ⟨rfl, .inl (by kernel_rfl), by kernel_rfl, by kernel_rfl⟩
theorem gl75_max {n : Nat} {cal : Nat → FnSem} : (l75 n cal).sc.names.lookup ("max" : Str) = some .globalImplicit := by kernel_rfl
theorem va75_2 {n : Nat} {cal : Nat → FnSem} : VarOk (l75 n cal) 2 "last" := ⟨rfl, .inl (by kernel_rfl), by kernel_rfl, by kernel_rfl⟩
theorem gl75_min {n : Nat} {cal : Nat → FnSem} : (l75 n cal).sc.names.lookup ("min" : Str) = some .globalImplicit := by kernel_rfl
theorem o75 (G : Gd c) (n : Nat) (cal : Nat → FnSem) (hF : ∀ j dj, tab j = some dj → FnAt c (l75 n cal) j dj.np) (hV : ∀ m k, okN m k = true → FnAt c (l75 n cal) k m) : DSs c (l75 n cal) (defBody (top 96)) (b75 cal) :=
  dss_cons (ds_asgN (de_int) rfl (.inl (by kernel_rfl)) (.inl rfl))
    (dss_cons (ds_asgN (de_pu (de_bin op2_pow (de_int) (de_int)) (pu_bin pur_pow (pu_c) (pu_c))) rfl (.inl (by kernel_rfl)) (.inl rfl))
    (dss_cons (ds_for (di_seq (de_varO va75_0)) (dg_name rfl (.inl (by kernel_rfl)) (.inl rfl)) (dss_cons (ds_asgN (de_pu (de_bi opl_max2 (G.free 9 _ rfl) (by kernel_rfl) gl75_max (da_cons (de_varO va75_1) (da_cons (de_ix (de_varO va75_3) (de_int)) (da_nil)))) (pu_bi2 pur_max2 (pu_var) (pu_bin pur_ix (pu_var) (pu_c)))) rfl (.inl (by kernel_rfl)) (.inl rfl))
    (dss_one (ds_asgN (de_pu (de_bi opl_min2 (G.free 10 _ rfl) (by kernel_rfl) gl75_min (da_cons (de_varO va75_2) (da_cons (de_ix (de_varO va75_3) (de_int)) (da_nil)))) (pu_bi2 pur_min2 (pu_var) (pu_bin pur_ix (pu_var) (pu_c)))) rfl (.inl (by kernel_rfl)) (.inl rfl)))))
    (dss_cons (ds_if (db_pu (db_cmp op2_gt bo_gt (de_varO va75_1) (de_varO va75_2)) (pu_e (pu_bin pur_gt (pu_var) (pu_var)))) (dss_one (ds_ret (de_non))) (dss_nil))
    (dss_one (ds_ret (de_pu (de_tup (da_cons (de_varO va75_1) (da_cons (de_varO va75_2) (da_nil)))) (pu_tup (pua_cons (pu_var) (pua_cons (pu_var) (pua_nil))))))))))
theorem s75 : L2.FnScope ["windows", "first", "last", "row"] ["windows"] (defScope (top 96)) := ⟨rfl, rfl, rfl, by decide +kernel, rfl, by decide +kernel, by decide +kernel⟩
theorem k75 (G : Gd c) (hV : ∀ l : Lx, (∀ j dj, tab j = some dj → FnAt c l j dj.np) → ∀ m k, okN m k = true → FnAt c l k m) (h : ∃ fd, L2.FunD c.K "_law_common" "_law_common" (defArgs (top 96)) (defBody (top 96)) (defScope (top 96)) [] [] (c.fa 75) fd) : DefOk c tab 75 d75 := by
  obtain ⟨fd, F⟩ := h
  exact ⟨_, _, _, _, _, ["windows", "first", "last", "row"], ["windows"], fd, F, s75, rfl, rfl, F.bindsN fun _ _ _ _ _ _ us hl => match us, hl with | [_], _ => rfl, fun n cal hF => o75 G n cal hF (hV _ hF)⟩
def l76 (n : Nat) (cal : Nat → FnSem) : Lx := ⟨["windows", "moments", "looks", "callers"], defScope (top 97), true, n, cal⟩
theorem va76_0 {n : Nat} {cal : Nat → FnSem} : VarOk (l76 n cal) 0 "windows" := ⟨rfl, .inl (by kernel_rfl), by kernel_rfl, by kernel_rfl⟩
theorem gl76__law_lazy {n : Nat} {cal : Nat → FnSem} : (l76 n cal).sc.names.lookup ("_law_lazy" : Str) = some .globalImplicit := by kernel_rfl
theorem gl76_fewest_looks {n : Nat} {cal : Nat → FnSem} : (l76 n cal).sc.names.lookup ("fewest_looks" : Str) = some .globalImplicit := by kernel_rfl
theorem va76_2 {n : Nat} {cal : Nat → FnSem} : VarOk (l76 n cal) 2 "looks" := ⟨rfl, .inl (by kernel_rfl), by kernel_rfl, by kernel_rfl⟩
theorem gl76__law_like {n : Nat} {cal : Nat → FnSem} : (l76 n cal).sc.names.lookup ("_law_like" : Str) = some .globalImplicit := by kernel_rfl
theorem gl76_most_apart {n : Nat} {cal : Nat → FnSem} : (l76 n cal).sc.names.lookup ("most_apart" : Str) = some .globalImplicit := by kernel_rfl
theorem va76_3 {n : Nat} {cal : Nat → FnSem} : VarOk (l76 n cal) 3 "callers" := ⟨rfl, .inl (by kernel_rfl), by kernel_rfl, by kernel_rfl⟩
theorem gl76_serves_all {n : Nat} {cal : Nat → FnSem} : (l76 n cal).sc.names.lookup ("serves_all" : Str) = some .globalImplicit := by kernel_rfl
theorem va76_1 {n : Nat} {cal : Nat → FnSem} : VarOk (l76 n cal) 1 "moments" := ⟨rfl, .inl (by kernel_rfl), by kernel_rfl, by kernel_rfl⟩
theorem gl76__law_held {n : Nat} {cal : Nat → FnSem} : (l76 n cal).sc.names.lookup ("_law_held" : Str) = some .globalImplicit := by kernel_rfl
theorem o76 (G : Gd c) (n : Nat) (cal : Nat → FnSem) (hF : ∀ j dj, tab j = some dj → FnAt c (l76 n cal) j dj.np) (hV : ∀ m k, okN m k = true → FnAt c (l76 n cal) k m) : DSs c (l76 n cal) (defBody (top 97)) (b76 cal) :=
  dss_cons (ds_asg (de_call (hF 69 _ rfl) (G.fn 69 _ rfl) gl76__law_lazy (da_cons (de_varO va76_0) (da_nil))) (dg_tup (dgn_cons rfl (.inl (by kernel_rfl)) (.inl rfl) (dgn_cons rfl (.inl (by kernel_rfl)) (.inl rfl) (dgn_nil)))))
    (dss_cons (ds_if (db_w (dw_or (db_not (db_e (de_call (hF 68 _ rfl) (G.fn 68 _ rfl) gl76__law_like (da_cons (de_call (hF 57 _ rfl) (G.fn 57 _ rfl) gl76_fewest_looks (da_cons (de_varO va76_0) (da_nil))) (da_cons (de_varO va76_2) (da_nil)))))) (dw_or1 (db_not (db_e (de_call (hF 68 _ rfl) (G.fn 68 _ rfl) gl76__law_like (da_cons (de_call (hF 58 _ rfl) (G.fn 58 _ rfl) gl76_most_apart (da_cons (de_varO va76_0) (da_nil))) (da_cons (de_varO va76_3) (da_nil))))))))) (dss_one (ds_ret (de_bl))) (dss_nil))
    (dss_cons (ds_if (db_not (db_e (de_call (hF 68 _ rfl) (G.fn 68 _ rfl) gl76__law_like (da_cons (de_call (hF 59 _ rfl) (G.fn 59 _ rfl) gl76_serves_all (da_cons (de_varO va76_2) (da_cons (de_varO va76_0) (da_nil)))) (da_cons (de_bl) (da_nil)))))) (dss_one (ds_ret (de_bl))) (dss_nil))
    (dss_one (ds_ret (de_call (hF 68 _ rfl) (G.fn 68 _ rfl) gl76__law_like (da_cons (de_call (hF 59 _ rfl) (G.fn 59 _ rfl) gl76_serves_all (da_cons (de_varO va76_1) (da_cons (de_varO va76_0) (da_nil)))) (da_cons (de_call (hF 74 _ rfl) (G.fn 74 _ rfl) gl76__law_held (da_cons (de_varO va76_1) (da_cons (de_varO va76_0) (da_nil)))) (da_nil))))))))
theorem s76 : L2.FnScope ["windows", "moments", "looks", "callers"] ["windows", "moments"] (defScope (top 97)) := ⟨rfl, rfl, rfl, by decide +kernel, rfl, by decide +kernel, by decide +kernel⟩
theorem k76 (G : Gd c) (hV : ∀ l : Lx, (∀ j dj, tab j = some dj → FnAt c l j dj.np) → ∀ m k, okN m k = true → FnAt c l k m) (h : ∃ fd, L2.FunD c.K "_law_stabs" "_law_stabs" (defArgs (top 97)) (defBody (top 97)) (defScope (top 97)) [] [] (c.fa 76) fd) : DefOk c tab 76 d76 := by
  obtain ⟨fd, F⟩ := h
  exact ⟨_, _, _, _, _, ["windows", "moments", "looks", "callers"], ["windows", "moments"], fd, F, s76, rfl, rfl, F.bindsN fun _ _ _ _ _ _ us hl => match us, hl with | [_, _], _ => rfl, fun n cal hF => o76 G n cal hF (hV _ hF)⟩
def l77 (n : Nat) (cal : Nat → FnSem) : Lx := ⟨["u", "v"], defScope (top 98), true, n, cal⟩
theorem va77_0 {n : Nat} {cal : Nat → FnSem} : VarOk (l77 n cal) 0 "u" := ⟨rfl, .inl (by kernel_rfl), by kernel_rfl, by kernel_rfl⟩
theorem va77_1 {n : Nat} {cal : Nat → FnSem} : VarOk (l77 n cal) 1 "v" := ⟨rfl, .inl (by kernel_rfl), by kernel_rfl, by kernel_rfl⟩
theorem gl77_are_apart {n : Nat} {cal : Nat → FnSem} : (l77 n cal).sc.names.lookup ("are_apart" : Str) = some .globalImplicit := by kernel_rfl
theorem gl77__law_like {n : Nat} {cal : Nat → FnSem} : (l77 n cal).sc.names.lookup ("_law_like" : Str) = some .globalImplicit := by kernel_rfl
theorem gl77_is_within {n : Nat} {cal : Nat → FnSem} : (l77 n cal).sc.names.lookup ("is_within" : Str) = some .globalImplicit := by kernel_rfl
theorem gl77_common {n : Nat} {cal : Nat → FnSem} : (l77 n cal).sc.names.lookup ("common" : Str) = some .globalImplicit := by kernel_rfl
theorem gl77__law_common {n : Nat} {cal : Nat → FnSem} : (l77 n cal).sc.names.lookup ("_law_common" : Str) = some .globalImplicit := by kernel_rfl
theorem o77 (G : Gd c) (n : Nat) (cal : Nat → FnSem) (hF : ∀ j dj, tab j = some dj → FnAt c (l77 n cal) j dj.np) (hV : ∀ m k, okN m k = true → FnAt c (l77 n cal) k m) : DSs c (l77 n cal) (defBody (top 98)) (b77 cal) :=
  dss_cons (ds_if (db_not (db_e (de_call (hF 68 _ rfl) (G.fn 68 _ rfl) gl77__law_like (da_cons (de_call (hF 64 _ rfl) (G.fn 64 _ rfl) gl77_are_apart (da_cons (de_varO va77_0) (da_cons (de_varO va77_1) (da_nil)))) (da_cons (de_pu (de_or (de_cmp op2_lt (de_ix (de_varO va77_0) (de_int)) (de_ix (de_varO va77_1) (de_int))) (de_one (de_cmp op2_lt (de_ix (de_varO va77_1) (de_int)) (de_ix (de_varO va77_0) (de_int))))) (pu_or (pu_bin pur_lt (pu_bin pur_ix (pu_var) (pu_c)) (pu_bin pur_ix (pu_var) (pu_c))) (pu_bin pur_lt (pu_bin pur_ix (pu_var) (pu_c)) (pu_bin pur_ix (pu_var) (pu_c))))) (da_nil)))))) (dss_one (ds_ret (de_bl))) (dss_nil))
    (dss_cons (ds_if (db_not (db_e (de_call (hF 68 _ rfl) (G.fn 68 _ rfl) gl77__law_like (da_cons (de_call (hF 63 _ rfl) (G.fn 63 _ rfl) gl77_is_within (da_cons (de_varO va77_0) (da_cons (de_varO va77_1) (da_nil)))) (da_cons (de_pu (de_and (de_cmp op2_le (de_ix (de_varO va77_1) (de_int)) (de_ix (de_varO va77_0) (de_int))) (de_one (de_cmp op2_le (de_ix (de_varO va77_0) (de_int)) (de_ix (de_varO va77_1) (de_int))))) (pu_and (pu_bin pur_le (pu_bin pur_ix (pu_var) (pu_c)) (pu_bin pur_ix (pu_var) (pu_c))) (pu_bin pur_le (pu_bin pur_ix (pu_var) (pu_c)) (pu_bin pur_ix (pu_var) (pu_c))))) (da_nil)))))) (dss_one (ds_ret (de_bl))) (dss_nil))
    (dss_cons (ds_if (db_not (db_e (de_call (hF 68 _ rfl) (G.fn 68 _ rfl) gl77__law_like (da_cons (de_call (hF 63 _ rfl) (G.fn 63 _ rfl) gl77_is_within (da_cons (de_varO va77_1) (da_cons (de_varO va77_0) (da_nil)))) (da_cons (de_pu (de_and (de_cmp op2_le (de_ix (de_varO va77_0) (de_int)) (de_ix (de_varO va77_1) (de_int))) (de_one (de_cmp op2_le (de_ix (de_varO va77_1) (de_int)) (de_ix (de_varO va77_0) (de_int))))) (pu_and (pu_bin pur_le (pu_bin pur_ix (pu_var) (pu_c)) (pu_bin pur_ix (pu_var) (pu_c))) (pu_bin pur_le (pu_bin pur_ix (pu_var) (pu_c)) (pu_bin pur_ix (pu_var) (pu_c))))) (da_nil)))))) (dss_one (ds_ret (de_bl))) (dss_nil))
    (dss_one (ds_ret (de_call (hF 68 _ rfl) (G.fn 68 _ rfl) gl77__law_like (da_cons (de_call (hF 65 _ rfl) (G.fn 65 _ rfl) gl77_common (da_pu (da_cons (de_tup (da_cons (de_varO va77_0) (da_cons (de_varO va77_1) (da_nil)))) (da_nil)) (pua_cons (pu_tup (pua_cons (pu_var) (pua_cons (pu_var) (pua_nil)))) (pua_nil)))) (da_cons (de_call (hF 75 _ rfl) (G.fn 75 _ rfl) gl77__law_common (da_pu (da_cons (de_tup (da_cons (de_varO va77_0) (da_cons (de_varO va77_1) (da_nil)))) (da_nil)) (pua_cons (pu_tup (pua_cons (pu_var) (pua_cons (pu_var) (pua_nil)))) (pua_nil)))) (da_nil))))))))
theorem s77 : L2.FnScope ["u", "v"] ["u", "v"] (defScope (top 98)) := ⟨rfl, rfl, rfl, by decide +kernel, rfl, by decide +kernel, by decide +kernel⟩
theorem k77 (G : Gd c) (hV : ∀ l : Lx, (∀ j dj, tab j = some dj → FnAt c l j dj.np) → ∀ m k, okN m k = true → FnAt c l k m) (h : ∃ fd, L2.FunD c.K "_law_pair" "_law_pair" (defArgs (top 98)) (defBody (top 98)) (defScope (top 98)) [] [] (c.fa 77) fd) : DefOk c tab 77 d77 := by
  obtain ⟨fd, F⟩ := h
  exact ⟨_, _, _, _, _, ["u", "v"], ["u", "v"], fd, F, s77, rfl, rfl, F.bindsN fun _ _ _ _ _ _ us hl => match us, hl with | [_, _], _ => rfl, fun n cal hF => o77 G n cal hF (hV _ hF)⟩
def l78 (n : Nat) (cal : Nat → FnSem) : Lx := ⟨["w", "at", "t"], defScope (top 99), true, n, cal⟩
theorem va78_0 {n : Nat} {cal : Nat → FnSem} : VarOk (l78 n cal) 0 "w" := ⟨rfl, .inl (by kernel_rfl), by kernel_rfl, by kernel_rfl⟩
theorem va78_1 {n : Nat} {cal : Nat → FnSem} : VarOk (l78 n cal) 1 "at" := ⟨rfl, .inl (by kernel_rfl), by kernel_rfl, by kernel_rfl⟩
theorem va78_2 {n : Nat} {cal : Nat → FnSem} : VarOk (l78 n cal) 2 "t" := ⟨rfl, .inl (by kernel_rfl), by kernel_rfl, by kernel_rfl⟩
theorem gl78_holds {n : Nat} {cal : Nat → FnSem} : (l78 n cal).sc.names.lookup ("holds" : Str) = some .globalImplicit := by kernel_rfl
theorem gl78__law_like {n : Nat} {cal : Nat → FnSem} : (l78 n cal).sc.names.lookup ("_law_like" : Str) = some .globalImplicit := by kernel_rfl
theorem gl78_is_within {n : Nat} {cal : Nat → FnSem} : (l78 n cal).sc.names.lookup ("is_within" : Str) = some .globalImplicit := by kernel_rfl
theorem gl78_are_apart {n : Nat} {cal : Nat → FnSem} : (l78 n cal).sc.names.lookup ("are_apart" : Str) = some .globalImplicit := by kernel_rfl
theorem gl78__law_pair {n : Nat} {cal : Nat → FnSem} : (l78 n cal).sc.names.lookup ("_law_pair" : Str) = some .globalImplicit := by kernel_rfl
theorem o78 (G : Gd c) (n : Nat) (cal : Nat → FnSem) (hF : ∀ j dj, tab j = some dj → FnAt c (l78 n cal) j dj.np) (hV : ∀ m k, okN m k = true → FnAt c (l78 n cal) k m) : DSs c (l78 n cal) (defBody (top 99)) (b78 cal) :=
  dss_cons (ds_for (di_seq (de_pu (de_tup (da_cons (de_bin op2_sub (de_ix (de_varO va78_0) (de_int)) (de_int)) (da_cons (de_ix (de_varO va78_0) (de_int)) (da_cons (de_ix (de_varO va78_0) (de_int)) (da_cons (de_bin op2_add (de_ix (de_varO va78_0) (de_int)) (de_int)) (da_cons (de_varO va78_1) (da_nil))))))) (pu_tup (pua_cons (pu_bin pur_sub (pu_bin pur_ix (pu_var) (pu_c)) (pu_c)) (pua_cons (pu_bin pur_ix (pu_var) (pu_c)) (pua_cons (pu_bin pur_ix (pu_var) (pu_c)) (pua_cons (pu_bin pur_add (pu_bin pur_ix (pu_var) (pu_c)) (pu_c)) (pua_cons (pu_var) (pua_nil))))))))) (dg_name rfl (.inl (by kernel_rfl)) (.inl rfl)) (dss_one (ds_if (db_pu (db_w (dw_and (db_cmp op2_ge bo_ge (de_varO va78_2) (de_int)) (dw_and1 (db_cmp op2_le bo_le (de_varO va78_2) (de_bin op2_pow (de_int) (de_int)))))) (pub_and (pu_e (pu_bin pur_ge (pu_var) (pu_c))) (pu_e (pu_bin pur_le (pu_var) (pu_bin pur_pow (pu_c) (pu_c)))))) (dss_one (ds_if (db_not (db_e (de_call (hF 68 _ rfl) (G.fn 68 _ rfl) gl78__law_like (da_cons (de_call (hF 62 _ rfl) (G.fn 62 _ rfl) gl78_holds (da_cons (de_varO va78_0) (da_cons (de_varO va78_2) (da_nil)))) (da_cons (de_pu (de_and (de_cmp op2_le (de_ix (de_varO va78_0) (de_int)) (de_varO va78_2)) (de_one (de_cmp op2_le (de_varO va78_2) (de_ix (de_varO va78_0) (de_int))))) (pu_and (pu_bin pur_le (pu_bin pur_ix (pu_var) (pu_c)) (pu_var)) (pu_bin pur_le (pu_var) (pu_bin pur_ix (pu_var) (pu_c))))) (da_nil)))))) (dss_one (ds_ret (de_bl))) (dss_nil))) (dss_nil))))
    (dss_cons (ds_if (db_w (dw_or (db_not (db_e (de_call (hF 68 _ rfl) (G.fn 68 _ rfl) gl78__law_like (da_cons (de_call (hF 63 _ rfl) (G.fn 63 _ rfl) gl78_is_within (da_cons (de_varO va78_0) (da_cons (de_varO va78_0) (da_nil)))) (da_cons (de_bl) (da_nil)))))) (dw_or1 (db_not (db_e (de_call (hF 68 _ rfl) (G.fn 68 _ rfl) gl78__law_like (da_cons (de_call (hF 64 _ rfl) (G.fn 64 _ rfl) gl78_are_apart (da_cons (de_varO va78_0) (da_cons (de_varO va78_0) (da_nil)))) (da_cons (de_bl) (da_nil))))))))) (dss_one (ds_ret (de_bl))) (dss_nil))
    (dss_cons (ds_if (db_pu (db_cmp op2_lt bo_lt (de_ix (de_varO va78_0) (de_int)) (de_ix (de_varO va78_0) (de_int))) (pu_e (pu_bin pur_lt (pu_bin pur_ix (pu_var) (pu_c)) (pu_bin pur_ix (pu_var) (pu_c))))) (dss_one (ds_if (db_w (dw_or (db_not (db_e (de_call (hF 77 _ rfl) (G.fn 77 _ rfl) gl78__law_pair (da_pu (da_cons (de_varO va78_0) (da_cons (de_tup (da_cons (de_bin op2_add (de_ix (de_varO va78_0) (de_int)) (de_int)) (da_cons (de_ix (de_varO va78_0) (de_int)) (da_nil)))) (da_nil))) (pua_cons (pu_var) (pua_cons (pu_tup (pua_cons (pu_bin pur_add (pu_bin pur_ix (pu_var) (pu_c)) (pu_c)) (pua_cons (pu_bin pur_ix (pu_var) (pu_c)) (pua_nil)))) (pua_nil))))))) (dw_or1 (db_not (db_e (de_call (hF 77 _ rfl) (G.fn 77 _ rfl) gl78__law_pair (da_pu (da_cons (de_varO va78_0) (da_cons (de_tup (da_cons (de_ix (de_varO va78_0) (de_int)) (da_cons (de_bin op2_sub (de_ix (de_varO va78_0) (de_int)) (de_int)) (da_nil)))) (da_nil))) (pua_cons (pu_var) (pua_cons (pu_tup (pua_cons (pu_bin pur_ix (pu_var) (pu_c)) (pua_cons (pu_bin pur_sub (pu_bin pur_ix (pu_var) (pu_c)) (pu_c)) (pua_nil)))) (pua_nil)))))))))) (dss_one (ds_ret (de_bl))) (dss_nil))) (dss_nil))
    (dss_cons (ds_if (db_pu (db_cmp op2_lt bo_lt (de_ix (de_varO va78_0) (de_int)) (de_bin op2_pow (de_int) (de_int))) (pu_e (pu_bin pur_lt (pu_bin pur_ix (pu_var) (pu_c)) (pu_bin pur_pow (pu_c) (pu_c))))) (dss_one (ds_if (db_w (dw_or (db_not (db_e (de_call (hF 77 _ rfl) (G.fn 77 _ rfl) gl78__law_pair (da_pu (da_cons (de_varO va78_0) (da_cons (de_tup (da_cons (de_bin op2_add (de_ix (de_varO va78_0) (de_int)) (de_int)) (da_cons (de_bin op2_pow (de_int) (de_int)) (da_nil)))) (da_nil))) (pua_cons (pu_var) (pua_cons (pu_tup (pua_cons (pu_bin pur_add (pu_bin pur_ix (pu_var) (pu_c)) (pu_c)) (pua_cons (pu_bin pur_pow (pu_c) (pu_c)) (pua_nil)))) (pua_nil))))))) (dw_or1 (db_not (db_e (de_call (hF 77 _ rfl) (G.fn 77 _ rfl) gl78__law_pair (da_pu (da_cons (de_tup (da_cons (de_ix (de_varO va78_0) (de_int)) (da_cons (de_bin op2_add (de_ix (de_varO va78_0) (de_int)) (de_int)) (da_nil)))) (da_cons (de_varO va78_0) (da_nil))) (pua_cons (pu_tup (pua_cons (pu_bin pur_ix (pu_var) (pu_c)) (pua_cons (pu_bin pur_add (pu_bin pur_ix (pu_var) (pu_c)) (pu_c)) (pua_nil)))) (pua_cons (pu_var) (pua_nil)))))))))) (dss_one (ds_ret (de_bl))) (dss_nil))) (dss_nil))
    (dss_one (ds_ret (de_bl))))))
theorem s78 : L2.FnScope ["w", "at", "t"] ["w", "at"] (defScope (top 99)) := ⟨rfl, rfl, rfl, by decide +kernel, rfl, by decide +kernel, by decide +kernel⟩
theorem k78 (G : Gd c) (hV : ∀ l : Lx, (∀ j dj, tab j = some dj → FnAt c l j dj.np) → ∀ m k, okN m k = true → FnAt c l k m) (h : ∃ fd, L2.FunD c.K "_law_near" "_law_near" (defArgs (top 99)) (defBody (top 99)) (defScope (top 99)) [] [] (c.fa 78) fd) : DefOk c tab 78 d78 := by
  obtain ⟨fd, F⟩ := h
  exact ⟨_, _, _, _, _, ["w", "at", "t"], ["w", "at"], fd, F, s78, rfl, rfl, F.bindsN fun _ _ _ _ _ _ us hl => match us, hl with | [_, _], _ => rfl, fun n cal hF => o78 G n cal hF (hV _ hF)⟩
def l79 (n : Nat) (cal : Nat → FnSem) : Lx := ⟨["by", "rows", "windows", "back", "looks", "told", "row", "k"], defScope (top 100), true, n, cal⟩
theorem va79_1 {n : Nat} {cal : Nat → FnSem} : VarOk (l79 n cal) 1 "rows" := ⟨rfl, .inl (by kernel_rfl), by kernel_rfl, by kernel_rfl⟩
theorem gl79_tuple {n : Nat} {cal : Nat → FnSem} : (l79 n cal).sc.names.lookup ("tuple" : Str) = some .globalImplicit := by kernel_rfl
theorem gl79_range {n : Nat} {cal : Nat → FnSem} : (l79 n cal).sc.names.lookup ("range" : Str) = some .globalImplicit := by kernel_rfl
theorem va79_0 {n : Nat} {cal : Nat → FnSem} : VarOk (l79 n cal) 0 "by" := ⟨rfl, .inr (.inl (by kernel_rfl)), by kernel_rfl, by kernel_rfl⟩
theorem va79_2 {n : Nat} {cal : Nat → FnSem} : VarOk (l79 n cal) 2 "windows" := ⟨rfl, .inr (.inl (by kernel_rfl)), by kernel_rfl, by kernel_rfl⟩
theorem gl79_fewest_looks {n : Nat} {cal : Nat → FnSem} : (l79 n cal).sc.names.lookup ("fewest_looks" : Str) = some .globalImplicit := by kernel_rfl
theorem va79_4 {n : Nat} {cal : Nat → FnSem} : VarOk (l79 n cal) 4 "looks" := ⟨rfl, .inl (by kernel_rfl), by kernel_rfl, by kernel_rfl⟩
theorem gl79__law_like {n : Nat} {cal : Nat → FnSem} : (l79 n cal).sc.names.lookup ("_law_like" : Str) = some .globalImplicit := by kernel_rfl
theorem va79_3 {n : Nat} {cal : Nat → FnSem} : VarOk (l79 n cal) 3 "back" := ⟨rfl, .inl (by kernel_rfl), by kernel_rfl, by kernel_rfl⟩
theorem gl79_most_apart {n : Nat} {cal : Nat → FnSem} : (l79 n cal).sc.names.lookup ("most_apart" : Str) = some .globalImplicit := by kernel_rfl
theorem gl79_serves_all {n : Nat} {cal : Nat → FnSem} : (l79 n cal).sc.names.lookup ("serves_all" : Str) = some .globalImplicit := by kernel_rfl
theorem gl79_common {n : Nat} {cal : Nat → FnSem} : (l79 n cal).sc.names.lookup ("common" : Str) = some .globalImplicit := by kernel_rfl
theorem va79_5 {n : Nat} {cal : Nat → FnSem} : VarOk (l79 n cal) 5 "told" := ⟨rfl, .inl (by kernel_rfl), by kernel_rfl, by kernel_rfl⟩
theorem o79 (G : Gd c) (n : Nat) (cal : Nat → FnSem) (hF : ∀ j dj, tab j = some dj → FnAt c (l79 n cal) j dj.np) (hV : ∀ m k, okN m k = true → FnAt c (l79 n cal) k m) : DSs c (l79 n cal) (defBody (top 100)) (b79 cal) :=
  dss_cons (ds_asgN (de_pu (de_tup (da_cons (de_tup (da_cons (de_int) (da_cons (de_int) (da_nil)))) (da_cons (de_tup (da_cons (de_int) (da_cons (de_int) (da_nil)))) (da_cons (de_tup (da_cons (de_int) (da_cons (de_int) (da_nil)))) (da_cons (de_tup (da_cons (de_int) (da_cons (de_int) (da_nil)))) (da_cons (de_tup (da_cons (de_int) (da_cons (de_int) (da_nil)))) (da_cons (de_tup (da_cons (de_int) (da_cons (de_int) (da_nil)))) (da_cons (de_tup (da_cons (de_int) (da_cons (de_int) (da_nil)))) (da_nil))))))))) (pu_tup (pua_cons (pu_tup (pua_cons (pu_c) (pua_cons (pu_c) (pua_nil)))) (pua_cons (pu_tup (pua_cons (pu_c) (pua_cons (pu_c) (pua_nil)))) (pua_cons (pu_tup (pua_cons (pu_c) (pua_cons (pu_c) (pua_nil)))) (pua_cons (pu_tup (pua_cons (pu_c) (pua_cons (pu_c) (pua_nil)))) (pua_cons (pu_tup (pua_cons (pu_c) (pua_cons (pu_c) (pua_nil)))) (pua_cons (pu_tup (pua_cons (pu_c) (pua_cons (pu_c) (pua_nil)))) (pua_cons (pu_tup (pua_cons (pu_c) (pua_cons (pu_c) (pua_nil)))) (pua_nil)))))))))) rfl (.inl (by kernel_rfl)) (.inl rfl))
    (dss_cons (ds_asgN (de_bty opl_tuple (G.free 3 _ rfl) (by kernel_rfl) gl79_tuple (da_cons (de_lc (own := [("row", 6)]) (di_seq (de_varO va79_1)) (by kernel_rfl) (dg_name rfl (.inl (by kernel_rfl)) (.inr (by kernel_rfl))) (dt_nil) (de_pu (de_tup (da_cons (de_bin op2_add (de_ix (de_var rfl (.inl (by kernel_rfl)) (by kernel_rfl) (by kernel_rfl)) (de_int)) (de_var rfl (.inr (.inl (by kernel_rfl))) (by kernel_rfl) (by kernel_rfl))) (da_cons (de_bin op2_add (de_ix (de_var rfl (.inl (by kernel_rfl)) (by kernel_rfl) (by kernel_rfl)) (de_int)) (de_var rfl (.inr (.inl (by kernel_rfl))) (by kernel_rfl) (by kernel_rfl))) (da_nil)))) (pu_tup (pua_cons (pu_bin pur_add (pu_bin pur_ix (pu_var) (pu_c)) (pu_var)) (pua_cons (pu_bin pur_add (pu_bin pur_ix (pu_var) (pu_c)) (pu_var)) (pua_nil))))) (by simp)) (da_nil))) rfl (.inr (by kernel_rfl)) (.inl rfl))
    (dss_cons (ds_asgN (de_bty opl_tuple (G.free 3 _ rfl) (by kernel_rfl) gl79_tuple (da_cons (de_lc (own := [("k", 7)]) (di_rng1 (G.free 5 _ rfl) gl79_range (de_int)) (by kernel_rfl) (dg_name rfl (.inl (by kernel_rfl)) (.inr (by kernel_rfl))) (dt_nil) (de_pu (de_ix (de_var rfl (.inr (.inl (by kernel_rfl))) (by kernel_rfl) (by kernel_rfl)) (de_bin op2_sub (de_int) (de_var rfl (.inl (by kernel_rfl)) (by kernel_rfl) (by kernel_rfl)))) (pu_bin pur_ix (pu_var) (pu_bin pur_sub (pu_c) (pu_var)))) (by simp)) (da_nil))) rfl (.inl (by kernel_rfl)) (.inl rfl))
    (dss_cons (ds_asgN (de_pu (de_tup (da_cons (de_bin op2_add (de_int) (de_varO va79_0)) (da_cons (de_bin op2_add (de_int) (de_varO va79_0)) (da_cons (de_bin op2_add (de_int) (de_varO va79_0)) (da_nil))))) (pu_tup (pua_cons (pu_bin pur_add (pu_c) (pu_var)) (pua_cons (pu_bin pur_add (pu_c) (pu_var)) (pua_cons (pu_bin pur_add (pu_c) (pu_var)) (pua_nil)))))) rfl (.inl (by kernel_rfl)) (.inl rfl))
    (dss_cons (ds_if (db_w (dw_or (db_not (db_e (de_call (hF 68 _ rfl) (G.fn 68 _ rfl) gl79__law_like (da_cons (de_call (hF 57 _ rfl) (G.fn 57 _ rfl) gl79_fewest_looks (da_cons (de_varO va79_2) (da_nil))) (da_cons (de_varO va79_4) (da_nil)))))) (dw_or1 (db_not (db_e (de_call (hF 68 _ rfl) (G.fn 68 _ rfl) gl79__law_like (da_cons (de_call (hF 57 _ rfl) (G.fn 57 _ rfl) gl79_fewest_looks (da_cons (de_varO va79_3) (da_nil))) (da_cons (de_varO va79_4) (da_nil))))))))) (dss_one (ds_ret (de_bl))) (dss_nil))
    (dss_cons (ds_if (db_not (db_e (de_call (hF 68 _ rfl) (G.fn 68 _ rfl) gl79__law_like (da_cons (de_call (hF 58 _ rfl) (G.fn 58 _ rfl) gl79_most_apart (da_cons (de_varO va79_2) (da_nil))) (da_cons (de_pu (de_tup (da_cons (de_tup (da_cons (de_varO va79_0) (da_cons (de_bin op2_add (de_int) (de_varO va79_0)) (da_nil)))) (da_cons (de_tup (da_cons (de_bin op2_add (de_int) (de_varO va79_0)) (da_cons (de_bin op2_add (de_int) (de_varO va79_0)) (da_nil)))) (da_cons (de_tup (da_cons (de_bin op2_add (de_int) (de_varO va79_0)) (da_cons (de_bin op2_add (de_int) (de_varO va79_0)) (da_nil)))) (da_nil))))) (pu_tup (pua_cons (pu_tup (pua_cons (pu_var) (pua_cons (pu_bin pur_add (pu_c) (pu_var)) (pua_nil)))) (pua_cons (pu_tup (pua_cons (pu_bin pur_add (pu_c) (pu_var)) (pua_cons (pu_bin pur_add (pu_c) (pu_var)) (pua_nil)))) (pua_cons (pu_tup (pua_cons (pu_bin pur_add (pu_c) (pu_var)) (pua_cons (pu_bin pur_add (pu_c) (pu_var)) (pua_nil)))) (pua_nil)))))) (da_nil)))))) (dss_one (ds_ret (de_bl))) (dss_nil))
    (dss_cons (ds_if (db_not (db_e (de_call (hF 68 _ rfl) (G.fn 68 _ rfl) gl79__law_like (da_cons (de_call (hF 58 _ rfl) (G.fn 58 _ rfl) gl79_most_apart (da_cons (de_varO va79_3) (da_nil))) (da_cons (de_pu (de_tup (da_cons (de_tup (da_cons (de_bin op2_add (de_int) (de_varO va79_0)) (da_cons (de_bin op2_add (de_int) (de_varO va79_0)) (da_nil)))) (da_cons (de_tup (da_cons (de_bin op2_add (de_int) (de_varO va79_0)) (da_cons (de_bin op2_add (de_int) (de_varO va79_0)) (da_nil)))) (da_cons (de_tup (da_cons (de_bin op2_add (de_int) (de_varO va79_0)) (da_cons (de_bin op2_add (de_int) (de_varO va79_0)) (da_nil)))) (da_nil))))) (pu_tup (pua_cons (pu_tup (pua_cons (pu_bin pur_add (pu_c) (pu_var)) (pua_cons (pu_bin pur_add (pu_c) (pu_var)) (pua_nil)))) (pua_cons (pu_tup (pua_cons (pu_bin pur_add (pu_c) (pu_var)) (pua_cons (pu_bin pur_add (pu_c) (pu_var)) (pua_nil)))) (pua_cons (pu_tup (pua_cons (pu_bin pur_add (pu_c) (pu_var)) (pua_cons (pu_bin pur_add (pu_c) (pu_var)) (pua_nil)))) (pua_nil)))))) (da_nil)))))) (dss_one (ds_ret (de_bl))) (dss_nil))
    (dss_cons (ds_if (db_not (db_e (de_call (hF 68 _ rfl) (G.fn 68 _ rfl) gl79__law_like (da_cons (de_tup (da_cons (de_call (hF 59 _ rfl) (G.fn 59 _ rfl) gl79_serves_all (da_pu (da_cons (de_tup (da_cons (de_bin op2_add (de_int) (de_varO va79_0)) (da_cons (de_bin op2_add (de_int) (de_varO va79_0)) (da_nil)))) (da_cons (de_varO va79_2) (da_nil))) (pua_cons (pu_tup (pua_cons (pu_bin pur_add (pu_c) (pu_var)) (pua_cons (pu_bin pur_add (pu_c) (pu_var)) (pua_nil)))) (pua_cons (pu_var) (pua_nil))))) (da_cons (de_call (hF 59 _ rfl) (G.fn 59 _ rfl) gl79_serves_all (da_pu (da_cons (de_tup (da_cons (de_bin op2_add (de_int) (de_varO va79_0)) (da_cons (de_bin op2_add (de_int) (de_varO va79_0)) (da_cons (de_bin op2_add (de_int) (de_varO va79_0)) (da_nil))))) (da_cons (de_varO va79_2) (da_nil))) (pua_cons (pu_tup (pua_cons (pu_bin pur_add (pu_c) (pu_var)) (pua_cons (pu_bin pur_add (pu_c) (pu_var)) (pua_cons (pu_bin pur_add (pu_c) (pu_var)) (pua_nil))))) (pua_cons (pu_var) (pua_nil))))) (da_nil)))) (da_cons (de_pu (de_tup (da_cons (de_bl) (da_cons (de_bl) (da_nil)))) (pu_tup (pua_cons (pu_c) (pua_cons (pu_c) (pua_nil))))) (da_nil)))))) (dss_one (ds_ret (de_bl))) (dss_nil))
    (dss_cons (ds_if (db_not (db_e (de_call (hF 68 _ rfl) (G.fn 68 _ rfl) gl79__law_like (da_cons (de_call (hF 59 _ rfl) (G.fn 59 _ rfl) gl79_serves_all (da_pu (da_cons (de_tup (da_cons (de_bin op2_add (de_int) (de_varO va79_0)) (da_cons (de_bin op2_add (de_int) (de_varO va79_0)) (da_cons (de_bin op2_add (de_int) (de_varO va79_0)) (da_nil))))) (da_cons (de_varO va79_2) (da_nil))) (pua_cons (pu_tup (pua_cons (pu_bin pur_add (pu_c) (pu_var)) (pua_cons (pu_bin pur_add (pu_c) (pu_var)) (pua_cons (pu_bin pur_add (pu_c) (pu_var)) (pua_nil))))) (pua_cons (pu_var) (pua_nil))))) (da_cons (de_bl) (da_nil)))))) (dss_one (ds_ret (de_bl))) (dss_nil))
    (dss_cons (ds_asgN (de_tup (da_cons (de_call (hF 65 _ rfl) (G.fn 65 _ rfl) gl79_common (da_cons (de_varO va79_2) (da_nil))) (da_cons (de_call (hF 65 _ rfl) (G.fn 65 _ rfl) gl79_common (da_pu (da_cons (de_tup (da_cons (de_ix (de_varO va79_2) (de_int)) (da_cons (de_ix (de_varO va79_2) (de_int)) (da_cons (de_ix (de_varO va79_2) (de_int)) (da_nil))))) (da_nil)) (pua_cons (pu_tup (pua_cons (pu_bin pur_ix (pu_var) (pu_c)) (pua_cons (pu_bin pur_ix (pu_var) (pu_c)) (pua_cons (pu_bin pur_ix (pu_var) (pu_c)) (pua_nil))))) (pua_nil)))) (da_cons (de_call (hF 65 _ rfl) (G.fn 65 _ rfl) gl79_common (da_pu (da_cons (de_tup (da_cons (de_ix (de_varO va79_2) (de_int)) (da_cons (de_ix (de_varO va79_2) (de_int)) (da_nil)))) (da_nil)) (pua_cons (pu_tup (pua_cons (pu_bin pur_ix (pu_var) (pu_c)) (pua_cons (pu_bin pur_ix (pu_var) (pu_c)) (pua_nil)))) (pua_nil)))) (da_cons (de_call (hF 65 _ rfl) (G.fn 65 _ rfl) gl79_common (da_pu (da_cons (de_tup (da_nil)) (da_nil)) (pua_cons (pu_tup (pua_nil)) (pua_nil)))) (da_nil)))))) rfl (.inl (by kernel_rfl)) (.inl rfl))
    (dss_cons (ds_if (db_not (db_e (de_call (hF 68 _ rfl) (G.fn 68 _ rfl) gl79__law_like (da_pu (da_cons (de_varO va79_5) (da_cons (de_tup (da_cons (de_non) (da_cons (de_tup (da_cons (de_bin op2_add (de_int) (de_varO va79_0)) (da_cons (de_bin op2_add (de_int) (de_varO va79_0)) (da_nil)))) (da_cons (de_tup (da_cons (de_bin op2_add (de_int) (de_varO va79_0)) (da_cons (de_bin op2_add (de_int) (de_varO va79_0)) (da_nil)))) (da_cons (de_tup (da_cons (de_int) (da_cons (de_bin op2_pow (de_int) (de_int)) (da_nil)))) (da_nil)))))) (da_nil))) (pua_cons (pu_var) (pua_cons (pu_tup (pua_cons (pu_c) (pua_cons (pu_tup (pua_cons (pu_bin pur_add (pu_c) (pu_var)) (pua_cons (pu_bin pur_add (pu_c) (pu_var)) (pua_nil)))) (pua_cons (pu_tup (pua_cons (pu_bin pur_add (pu_c) (pu_var)) (pua_cons (pu_bin pur_add (pu_c) (pu_var)) (pua_nil)))) (pua_cons (pu_tup (pua_cons (pu_c) (pua_cons (pu_bin pur_pow (pu_c) (pu_c)) (pua_nil)))) (pua_nil)))))) (pua_nil))))))) (dss_one (ds_ret (de_bl))) (dss_nil))
    (dss_cons (ds_asgN (de_tup (da_cons (de_call (hF 57 _ rfl) (G.fn 57 _ rfl) gl79_fewest_looks (da_pu (da_cons (de_tup (da_nil)) (da_nil)) (pua_cons (pu_tup (pua_nil)) (pua_nil)))) (da_cons (de_call (hF 58 _ rfl) (G.fn 58 _ rfl) gl79_most_apart (da_pu (da_cons (de_tup (da_nil)) (da_nil)) (pua_cons (pu_tup (pua_nil)) (pua_nil)))) (da_cons (de_call (hF 59 _ rfl) (G.fn 59 _ rfl) gl79_serves_all (da_pu (da_cons (de_tup (da_nil)) (da_cons (de_tup (da_nil)) (da_nil))) (pua_cons (pu_tup (pua_nil)) (pua_cons (pu_tup (pua_nil)) (pua_nil))))) (da_cons (de_call (hF 59 _ rfl) (G.fn 59 _ rfl) gl79_serves_all (da_pu (da_cons (de_tup (da_cons (de_bin op2_add (de_int) (de_varO va79_0)) (da_nil))) (da_cons (de_tup (da_nil)) (da_nil))) (pua_cons (pu_tup (pua_cons (pu_bin pur_add (pu_c) (pu_var)) (pua_nil))) (pua_cons (pu_tup (pua_nil)) (pua_nil))))) (da_cons (de_call (hF 59 _ rfl) (G.fn 59 _ rfl) gl79_serves_all (da_pu (da_cons (de_tup (da_nil)) (da_cons (de_varO va79_2) (da_nil))) (pua_cons (pu_tup (pua_nil)) (pua_cons (pu_var) (pua_nil))))) (da_nil))))))) rfl (.inl (by kernel_rfl)) (.inl rfl))
    (dss_one (ds_ret (de_call (hF 68 _ rfl) (G.fn 68 _ rfl) gl79__law_like (da_pu (da_cons (de_varO va79_5) (da_cons (de_tup (da_cons (de_tup (da_nil)) (da_cons (de_tup (da_nil)) (da_cons (de_bl) (da_cons (de_bl) (da_cons (de_bl) (da_nil))))))) (da_nil))) (pua_cons (pu_var) (pua_cons (pu_tup (pua_cons (pu_tup (pua_nil)) (pua_cons (pu_tup (pua_nil)) (pua_cons (pu_c) (pua_cons (pu_c) (pua_cons (pu_c) (pua_nil))))))) (pua_nil))))))))))))))))))
theorem s79 : L2.FnScope ["by", "rows", "windows", "back", "looks", "told", "row", "k"] ["by"] (defScope (top 100)) := ⟨rfl, rfl, rfl, by decide +kernel, rfl, by decide +kernel, by decide +kernel⟩
theorem k79 (G : Gd c) (hV : ∀ l : Lx, (∀ j dj, tab j = some dj → FnAt c l j dj.np) → ∀ m k, okN m k = true → FnAt c l k m) (h : ∃ fd, L2.FunD c.K "_law_hand" "_law_hand" (defArgs (top 100)) (defBody (top 100)) (defScope (top 100)) [] [] (c.fa 79) fd) : DefOk c tab 79 d79 := by
  obtain ⟨fd, F⟩ := h
  exact ⟨_, _, _, _, _, ["by", "rows", "windows", "back", "looks", "told", "row", "k"], ["by"], fd, F, s79, rfl, rfl, F.bindsN fun _ _ _ _ _ _ us hl => match us, hl with | [_], _ => rfl, fun n cal hF => o79 G n cal hF (hV _ hF)⟩
def l80 (n : Nat) (cal : Nat → FnSem) : Lx := ⟨["script", "jar", "some", "frame", "many", "windows", "k", "back", "looks", "callers", "few", "more", "j"], defScope (top 101), true, n, cal⟩
theorem va80_0 {n : Nat} {cal : Nat → FnSem} : VarOk (l80 n cal) 0 "script" := ⟨rfl, .inl (by kernel_rfl), by kernel_rfl, by kernel_rfl⟩
theorem gl80__law_jar {n : Nat} {cal : Nat → FnSem} : (l80 n cal).sc.names.lookup ("_law_jar" : Str) = some .globalImplicit := by kernel_rfl
theorem va80_1 {n : Nat} {cal : Nat → FnSem} : VarOk (l80 n cal) 1 "jar" := ⟨rfl, .inl (by kernel_rfl), by kernel_rfl, by kernel_rfl⟩
theorem gl80__law_take {n : Nat} {cal : Nat → FnSem} : (l80 n cal).sc.names.lookup ("_law_take" : Str) = some .globalImplicit := by kernel_rfl
theorem va80_2 {n : Nat} {cal : Nat → FnSem} : VarOk (l80 n cal) 2 "some" := ⟨rfl, .inl (by kernel_rfl), by kernel_rfl, by kernel_rfl⟩
theorem gl80__law_hand {n : Nat} {cal : Nat → FnSem} : (l80 n cal).sc.names.lookup ("_law_hand" : Str) = some .globalImplicit := by kernel_rfl
theorem gl80__law_frame {n : Nat} {cal : Nat → FnSem} : (l80 n cal).sc.names.lookup ("_law_frame" : Str) = some .globalImplicit := by kernel_rfl
theorem va80_4 {n : Nat} {cal : Nat → FnSem} : VarOk (l80 n cal) 4 "many" := ⟨rfl, .inr (.inl (by kernel_rfl)), by kernel_rfl, by kernel_rfl⟩
theorem va80_3 {n : Nat} {cal : Nat → FnSem} : VarOk (l80 n cal) 3 "frame" := ⟨rfl, .inl (by kernel_rfl), by kernel_rfl, by kernel_rfl⟩
theorem gl80__law_windows {n : Nat} {cal : Nat → FnSem} : (l80 n cal).sc.names.lookup ("_law_windows" : Str) = some .globalImplicit := by kernel_rfl
theorem gl80_range {n : Nat} {cal : Nat → FnSem} : (l80 n cal).sc.names.lookup ("range" : Str) = some .globalImplicit := by kernel_rfl
theorem gl80_tuple {n : Nat} {cal : Nat → FnSem} : (l80 n cal).sc.names.lookup ("tuple" : Str) = some .globalImplicit := by kernel_rfl
theorem va80_5 {n : Nat} {cal : Nat → FnSem} : VarOk (l80 n cal) 5 "windows" := ⟨rfl, .inr (.inl (by kernel_rfl)), by kernel_rfl, by kernel_rfl⟩
theorem gl80__law_lazy {n : Nat} {cal : Nat → FnSem} : (l80 n cal).sc.names.lookup ("_law_lazy" : Str) = some .globalImplicit := by kernel_rfl
theorem va80_8 {n : Nat} {cal : Nat → FnSem} : VarOk (l80 n cal) 8 "looks" := ⟨rfl, .inl (by kernel_rfl), by kernel_rfl, by kernel_rfl⟩
theorem gl80__law_moments {n : Nat} {cal : Nat → FnSem} : (l80 n cal).sc.names.lookup ("_law_moments" : Str) = some .globalImplicit := by kernel_rfl
theorem gl80__law_stabs {n : Nat} {cal : Nat → FnSem} : (l80 n cal).sc.names.lookup ("_law_stabs" : Str) = some .globalImplicit := by kernel_rfl
theorem va80_7 {n : Nat} {cal : Nat → FnSem} : VarOk (l80 n cal) 7 "back" := ⟨rfl, .inl (by kernel_rfl), by kernel_rfl, by kernel_rfl⟩
theorem gl80_is_a {n : Nat} {cal : Nat → FnSem} : (l80 n cal).sc.names.lookup ("is_a" : Str) = some .globalImplicit := by kernel_rfl
theorem va80_9 {n : Nat} {cal : Nat → FnSem} : VarOk (l80 n cal) 9 "callers" := ⟨rfl, .inl (by kernel_rfl), by kernel_rfl, by kernel_rfl⟩
theorem gl80__law_like {n : Nat} {cal : Nat → FnSem} : (l80 n cal).sc.names.lookup ("_law_like" : Str) = some .globalImplicit := by kernel_rfl
theorem gl80_common {n : Nat} {cal : Nat → FnSem} : (l80 n cal).sc.names.lookup ("common" : Str) = some .globalImplicit := by kernel_rfl
theorem va80_10 {n : Nat} {cal : Nat → FnSem} : VarOk (l80 n cal) 10 "few" := ⟨rfl, .inl (by kernel_rfl), by kernel_rfl, by kernel_rfl⟩
theorem gl80__law_common {n : Nat} {cal : Nat → FnSem} : (l80 n cal).sc.names.lookup ("_law_common" : Str) = some .globalImplicit := by kernel_rfl
theorem va80_11 {n : Nat} {cal : Nat → FnSem} : VarOk (l80 n cal) 11 "more" := ⟨rfl, .inl (by kernel_rfl), by kernel_rfl, by kernel_rfl⟩
theorem gl80_len {n : Nat} {cal : Nat → FnSem} : (l80 n cal).sc.names.lookup ("len" : Str) = some .globalImplicit := by kernel_rfl
theorem gl80__law_near {n : Nat} {cal : Nat → FnSem} : (l80 n cal).sc.names.lookup ("_law_near" : Str) = some .globalImplicit := by kernel_rfl
theorem gl80__law_pair {n : Nat} {cal : Nat → FnSem} : (l80 n cal).sc.names.lookup ("_law_pair" : Str) = some .globalImplicit := by kernel_rfl
theorem va80_6 {n : Nat} {cal : Nat → FnSem} : VarOk (l80 n cal) 6 "k" := ⟨rfl, .inl (by kernel_rfl), by kernel_rfl, by kernel_rfl⟩
theorem va80_12 {n : Nat} {cal : Nat → FnSem} : VarOk (l80 n cal) 12 "j" := ⟨rfl, .inl (by kernel_rfl), by kernel_rfl, by kernel_rfl⟩
theorem gl80_are_apart {n : Nat} {cal : Nat → FnSem} : (l80 n cal).sc.names.lookup ("are_apart" : Str) = some .globalImplicit := by kernel_rfl
theorem o80 (G : Gd c) (n : Nat) (cal : Nat → FnSem) (hF : ∀ j dj, tab j = some dj → FnAt c (l80 n cal) j dj.np) (hV : ∀ m k, okN m k = true → FnAt c (l80 n cal) k m) : DSs c (l80 n cal) (defBody (top 101)) (b80 cal) :=
  dss_cons (ds_asgN (de_call (hF 66 _ rfl) (G.fn 66 _ rfl) gl80__law_jar (da_cons (de_varO va80_0) (da_nil))) rfl (.inl (by kernel_rfl)) (.inl rfl))
    (dss_cons (ds_asgN (de_call (hF 67 _ rfl) (G.fn 67 _ rfl) gl80__law_take (da_cons (de_varO va80_1) (da_cons (de_int) (da_nil)))) rfl (.inl (by kernel_rfl)) (.inl rfl))
    (dss_cons (ds_if (db_not (db_e (de_call (hF 79 _ rfl) (G.fn 79 _ rfl) gl80__law_hand (da_cons (de_ix (de_pu (de_tup (da_cons (de_int) (da_cons (de_int) (da_cons (de_bin op2_sub (de_bin op2_pow (de_int) (de_int)) (de_int)) (da_cons (de_varO va80_2) (da_nil)))))) (pu_tup (pua_cons (pu_c) (pua_cons (pu_c) (pua_cons (pu_bin pur_sub (pu_bin pur_pow (pu_c) (pu_c)) (pu_c)) (pua_cons (pu_var) (pua_nil))))))) (de_call (hF 67 _ rfl) (G.fn 67 _ rfl) gl80__law_take (da_cons (de_varO va80_1) (da_cons (de_int) (da_nil))))) (da_nil))))) (dss_one (ds_ret (de_bl))) (dss_nil))
    (dss_cons (ds_asgN (de_call (hF 71 _ rfl) (G.fn 71 _ rfl) gl80__law_frame (da_cons (de_varO va80_1) (da_nil))) rfl (.inl (by kernel_rfl)) (.inl rfl))
    (dss_cons (ds_asgN (de_ix (de_pu (de_tup (da_cons (de_int) (da_cons (de_int) (da_cons (de_int) (da_cons (de_int) (da_cons (de_int) (da_cons (de_int) (da_cons (de_int) (da_cons (de_int) (da_cons (de_int) (da_cons (de_int) (da_nil)))))))))))) (pu_tup (pua_cons (pu_c) (pua_cons (pu_c) (pua_cons (pu_c) (pua_cons (pu_c) (pua_cons (pu_c) (pua_cons (pu_c) (pua_cons (pu_c) (pua_cons (pu_c) (pua_cons (pu_c) (pua_cons (pu_c) (pua_nil))))))))))))) (de_call (hF 67 _ rfl) (G.fn 67 _ rfl) gl80__law_take (da_cons (de_varO va80_1) (da_cons (de_int) (da_nil))))) rfl (.inr (by kernel_rfl)) (.inl rfl))
    (dss_cons (ds_asgN (de_call (hF 70 _ rfl) (G.fn 70 _ rfl) gl80__law_windows (da_cons (de_varO va80_1) (da_cons (de_varO va80_4) (da_cons (de_varO va80_3) (da_nil))))) rfl (.inr (by kernel_rfl)) (.inl rfl))
    (dss_cons (ds_asgN (de_bty opl_tuple (G.free 3 _ rfl) (by kernel_rfl) gl80_tuple (da_cons (de_lc (own := [("k", 6)]) (di_rng1 (G.free 5 _ rfl) gl80_range (de_varO va80_4)) (by kernel_rfl) (dg_name rfl (.inl (by kernel_rfl)) (.inr (by kernel_rfl))) (dt_nil) (de_pu (de_ix (de_var rfl (.inr (.inl (by kernel_rfl))) (by kernel_rfl) (by kernel_rfl)) (de_bin op2_sub (de_bin op2_sub (de_var rfl (.inr (.inl (by kernel_rfl))) (by kernel_rfl) (by kernel_rfl)) (de_int)) (de_var rfl (.inl (by kernel_rfl)) (by kernel_rfl) (by kernel_rfl)))) (pu_bin pur_ix (pu_var) (pu_bin pur_sub (pu_bin pur_sub (pu_var) (pu_c)) (pu_var)))) (by simp)) (da_nil))) rfl (.inl (by kernel_rfl)) (.inl rfl))
    (dss_cons (ds_asg (de_call (hF 69 _ rfl) (G.fn 69 _ rfl) gl80__law_lazy (da_cons (de_varO va80_5) (da_nil))) (dg_tup (dgn_cons rfl (.inl (by kernel_rfl)) (.inl rfl) (dgn_cons rfl (.inl (by kernel_rfl)) (.inl rfl) (dgn_nil)))))
    (dss_cons (ds_if (db_w (dw_or (db_not (db_e (de_call (hF 76 _ rfl) (G.fn 76 _ rfl) gl80__law_stabs (da_cons (de_varO va80_5) (da_cons (de_call (hF 73 _ rfl) (G.fn 73 _ rfl) gl80__law_moments (da_cons (de_varO va80_1) (da_cons (de_varO va80_8) (da_cons (de_varO va80_3) (da_nil))))) (da_nil)))))) (dw_or1 (db_not (db_e (de_call (hF 76 _ rfl) (G.fn 76 _ rfl) gl80__law_stabs (da_cons (de_varO va80_7) (da_cons (de_call (hF 73 _ rfl) (G.fn 73 _ rfl) gl80__law_moments (da_cons (de_varO va80_1) (da_cons (de_varO va80_8) (da_cons (de_varO va80_3) (da_nil))))) (da_nil))))))))) (dss_one (ds_ret (de_bl))) (dss_nil))
    (dss_cons (ds_if (db_not (db_e (de_call (hF 68 _ rfl) (G.fn 68 _ rfl) gl80__law_like (da_cons (de_tup (da_cons (de_call (hF 53 _ rfl) (G.fn 53 _ rfl) gl80_is_a (da_cons (de_str (by kernel_rfl)) (da_cons (de_varO va80_5) (da_nil)))) (da_cons (de_call (hF 53 _ rfl) (G.fn 53 _ rfl) gl80_is_a (da_cons (de_str (by kernel_rfl)) (da_cons (de_varO va80_8) (da_nil)))) (da_cons (de_call (hF 53 _ rfl) (G.fn 53 _ rfl) gl80_is_a (da_cons (de_str (by kernel_rfl)) (da_cons (de_varO va80_9) (da_nil)))) (da_nil))))) (da_cons (de_pu (de_tup (da_cons (de_bl) (da_cons (de_bl) (da_cons (de_bl) (da_nil))))) (pu_tup (pua_cons (pu_c) (pua_cons (pu_c) (pua_cons (pu_c) (pua_nil)))))) (da_nil)))))) (dss_one (ds_ret (de_bl))) (dss_nil))
    (dss_cons (ds_asgN (de_sl (de_varO va80_5) (do_none) (do_some (de_call (hF 67 _ rfl) (G.fn 67 _ rfl) gl80__law_take (da_cons (de_varO va80_1) (da_cons (de_int) (da_nil)))))) rfl (.inl (by kernel_rfl)) (.inl rfl))
    (dss_cons (ds_if (db_not (db_e (de_call (hF 68 _ rfl) (G.fn 68 _ rfl) gl80__law_like (da_cons (de_tup (da_cons (de_call (hF 65 _ rfl) (G.fn 65 _ rfl) gl80_common (da_cons (de_varO va80_5) (da_nil))) (da_cons (de_call (hF 65 _ rfl) (G.fn 65 _ rfl) gl80_common (da_cons (de_varO va80_10) (da_nil))) (da_cons (de_call (hF 65 _ rfl) (G.fn 65 _ rfl) gl80_common (da_cons (de_varO va80_9) (da_nil))) (da_nil))))) (da_cons (de_tup (da_cons (de_call (hF 75 _ rfl) (G.fn 75 _ rfl) gl80__law_common (da_cons (de_varO va80_5) (da_nil))) (da_cons (de_call (hF 75 _ rfl) (G.fn 75 _ rfl) gl80__law_common (da_cons (de_varO va80_10) (da_nil))) (da_cons (de_call (hF 75 _ rfl) (G.fn 75 _ rfl) gl80__law_common (da_cons (de_varO va80_9) (da_nil))) (da_nil))))) (da_nil)))))) (dss_one (ds_ret (de_bl))) (dss_nil))
    (dss_cons (ds_if (db_pu (db_cmp op2_eq bo_eq (de_varO va80_4) (de_int)) (pu_e (pu_bin pur_eq (pu_var) (pu_c)))) (dss_one (ds_ret (de_bl))) (dss_nil))
    (dss_cons (ds_asgN (de_bin op2_add (de_bin op2_add (de_tup (da_cons (de_ix (de_varO va80_5) (de_call (hF 67 _ rfl) (G.fn 67 _ rfl) gl80__law_take (da_cons (de_varO va80_1) (da_cons (de_varO va80_4) (da_nil))))) (da_nil))) (de_sl (de_varO va80_5) (do_none) (do_some (de_int)))) (de_tup (da_cons (de_ix (de_varO va80_5) (de_call (hF 67 _ rfl) (G.fn 67 _ rfl) gl80__law_take (da_cons (de_varO va80_1) (da_cons (de_varO va80_4) (da_nil))))) (da_nil)))) rfl (.inl (by kernel_rfl)) (.inl rfl))
    (dss_cons (ds_if (db_not (db_e (de_call (hF 76 _ rfl) (G.fn 76 _ rfl) gl80__law_stabs (da_cons (de_varO va80_11) (da_cons (de_call (hF 73 _ rfl) (G.fn 73 _ rfl) gl80__law_moments (da_cons (de_varO va80_1) (da_cons (de_varO va80_8) (da_cons (de_varO va80_3) (da_nil))))) (da_nil)))))) (dss_one (ds_ret (de_bl))) (dss_nil))
    (dss_cons (ds_for (di_rng1 (G.free 5 _ rfl) gl80_range (de_int)) (dg_name rfl (.inl (by kernel_rfl)) (.inl rfl)) (dss_cons (ds_if (db_not (db_e (de_call (hF 78 _ rfl) (G.fn 78 _ rfl) gl80__law_near (da_cons (de_ix (de_varO va80_5) (de_call (hF 67 _ rfl) (G.fn 67 _ rfl) gl80__law_take (da_cons (de_varO va80_1) (da_cons (de_varO va80_4) (da_nil))))) (da_cons (de_ix (de_varO va80_8) (de_call (hF 67 _ rfl) (G.fn 67 _ rfl) gl80__law_take (da_pu (da_cons (de_varO va80_1) (da_cons (de_bi opl_len (G.free 4 _ rfl) (by kernel_rfl) gl80_len (da_cons (de_varO va80_8) (da_nil))) (da_nil))) (pua_cons (pu_var) (pua_cons (pu_bi1 pur_len (pu_var)) (pua_nil)))))) (da_nil)))))) (dss_one (ds_ret (de_bl))) (dss_nil))
    (dss_one (ds_if (db_not (db_e (de_call (hF 77 _ rfl) (G.fn 77 _ rfl) gl80__law_pair (da_cons (de_ix (de_varO va80_5) (de_call (hF 67 _ rfl) (G.fn 67 _ rfl) gl80__law_take (da_cons (de_varO va80_1) (da_cons (de_varO va80_4) (da_nil))))) (da_cons (de_ix (de_varO va80_5) (de_call (hF 67 _ rfl) (G.fn 67 _ rfl) gl80__law_take (da_cons (de_varO va80_1) (da_cons (de_varO va80_4) (da_nil))))) (da_nil)))))) (dss_one (ds_ret (de_bl))) (dss_nil)))))
    (dss_cons (ds_asgN (de_call (hF 67 _ rfl) (G.fn 67 _ rfl) gl80__law_take (da_pu (da_cons (de_varO va80_1) (da_cons (de_bi opl_len (G.free 4 _ rfl) (by kernel_rfl) gl80_len (da_cons (de_varO va80_9) (da_nil))) (da_nil))) (pua_cons (pu_var) (pua_cons (pu_bi1 pur_len (pu_var)) (pua_nil))))) rfl (.inl (by kernel_rfl)) (.inl rfl))
    (dss_cons (ds_for (di_seq (de_pu (de_tup (da_cons (de_bin op2_sub (de_varO va80_6) (de_int)) (da_cons (de_bin op2_add (de_varO va80_6) (de_int)) (da_nil)))) (pu_tup (pua_cons (pu_bin pur_sub (pu_var) (pu_c)) (pua_cons (pu_bin pur_add (pu_var) (pu_c)) (pua_nil)))))) (dg_name rfl (.inl (by kernel_rfl)) (.inl rfl)) (dss_one (ds_if (db_pu (db_w (dw_and (db_cmp op2_ge bo_ge (de_varO va80_12) (de_int)) (dw_and1 (db_cmp op2_lt bo_lt (de_varO va80_12) (de_bi opl_len (G.free 4 _ rfl) (by kernel_rfl) gl80_len (da_cons (de_varO va80_9) (da_nil))))))) (pub_and (pu_e (pu_bin pur_ge (pu_var) (pu_c))) (pu_e (pu_bin pur_lt (pu_var) (pu_bi1 pur_len (pu_var)))))) (dss_one (ds_if (db_not (db_e (de_call (hF 68 _ rfl) (G.fn 68 _ rfl) gl80__law_like (da_cons (de_call (hF 64 _ rfl) (G.fn 64 _ rfl) gl80_are_apart (da_pu (da_cons (de_ix (de_varO va80_9) (de_varO va80_12)) (da_cons (de_ix (de_varO va80_9) (de_varO va80_6)) (da_nil))) (pua_cons (pu_bin pur_ix (pu_var) (pu_var)) (pua_cons (pu_bin pur_ix (pu_var) (pu_var)) (pua_nil))))) (da_cons (de_bl) (da_nil)))))) (dss_one (ds_ret (de_bl))) (dss_nil))) (dss_nil))))
    (dss_one (ds_ret (de_bl))))))))))))))))))))
theorem s80 : L2.FnScope ["script", "jar", "some", "frame", "many", "windows", "k", "back", "looks", "callers", "few", "more", "j"] ["script"] (defScope (top 101)) := ⟨rfl, rfl, rfl, by decide +kernel, rfl, by decide +kernel, by decide +kernel⟩
theorem k80 (G : Gd c) (hV : ∀ l : Lx, (∀ j dj, tab j = some dj → FnAt c l j dj.np) → ∀ m k, okN m k = true → FnAt c l k m) (h : ∃ fd, L2.FunD c.K "_law_all" "_law_all" (defArgs (top 101)) (defBody (top 101)) (defScope (top 101)) [] [] (c.fa 80) fd) : DefOk c tab 80 d80 := by
  obtain ⟨fd, F⟩ := h
  exact ⟨_, _, _, _, _, ["script", "jar", "some", "frame", "many", "windows", "k", "back", "looks", "callers", "few", "more", "j"], ["script"], fd, F, s80, rfl, rfl, F.bindsN fun _ _ _ _ _ _ us hl => match us, hl with | [_], _ => rfl, fun n cal hF => o80 G n cal hF (hV _ hF)⟩
def l81 (n : Nat) (cal : Nat → FnSem) : Lx := ⟨["script"], defScope (top 102), true, n, cal⟩
theorem va81_0 {n : Nat} {cal : Nat → FnSem} : VarOk (l81 n cal) 0 "script" := ⟨rfl, .inl (by kernel_rfl), by kernel_rfl, by kernel_rfl⟩
theorem gl81__law_all {n : Nat} {cal : Nat → FnSem} : (l81 n cal).sc.names.lookup ("_law_all" : Str) = some .globalImplicit := by kernel_rfl
theorem o81 (G : Gd c) (n : Nat) (cal : Nat → FnSem) (hF : ∀ j dj, tab j = some dj → FnAt c (l81 n cal) j dj.np) (hV : ∀ m k, okN m k = true → FnAt c (l81 n cal) k m) : DSs c (l81 n cal) (defBody (top 102)) (b81 cal) :=
  dss_one (ds_try0 (dss_one (ds_ret (de_call (hF 80 _ rfl) (G.fn 80 _ rfl) gl81__law_all (da_cons (de_varO va81_0) (da_nil))))))
theorem s81 : L2.FnScope ["script"] ["script"] (defScope (top 102)) := ⟨rfl, rfl, rfl, by decide +kernel, rfl, by decide +kernel, by decide +kernel⟩
theorem k81 (G : Gd c) (hV : ∀ l : Lx, (∀ j dj, tab j = some dj → FnAt c l j dj.np) → ∀ m k, okN m k = true → FnAt c l k m) (h : ∃ fd, L2.FunD c.K "law" "law" (defArgs (top 102)) (defBody (top 102)) (defScope (top 102)) [] [] (c.fa 81) fd) : DefOk c tab 81 d81 := by
  obtain ⟨fd, F⟩ := h
  exact ⟨_, _, _, _, _, ["script"], ["script"], fd, F, s81, rfl, rfl, F.bindsN fun _ _ _ _ _ _ us hl => match us, hl with | [_], _ => rfl, fun n cal hF => o81 G n cal hF (hV _ hF)⟩
end
end K13
namespace K13
open PySem PySem.Spec PyProof.Rows T2
open L2 (defScope defBody defArgs)
def h0 : He.DefD := ⟨("is_integer", none), "is_integer", "is_integer", defArgs (top 8), defBody (top 8), defScope (top 8), [], []⟩
def h1 : He.DefD := ⟨("is_instant", none), "is_instant", "is_instant", defArgs (top 9), defBody (top 9), defScope (top 9), [], []⟩
def h4 : He.DefD := ⟨("is_row", none), "is_row", "is_row", defArgs (top 12), defBody (top 12), defScope (top 12), [], []⟩
def h5 : He.DefD := ⟨("is_list_of", none), "is_list_of", "is_list_of", defArgs (top 13), defBody (top 13), defScope (top 13), [], []⟩
def h6 : He.DefD := ⟨("ascends", none), "ascends", "ascends", defArgs (top 14), defBody (top 14), defScope (top 14), [], []⟩
def h8 : He.DefD := ⟨("is_window", none), "is_window", "is_window", defArgs (top 17), defBody (top 17), defScope (top 17), [], []⟩
def h9 : He.DefD := ⟨("is_windows", none), "is_windows", "is_windows", defArgs (top 18), defBody (top 18), defScope (top 18), [], []⟩
def h10 : He.DefD := ⟨("is_moments", none), "is_moments", "is_moments", defArgs (top 19), defBody (top 19), defScope (top 19), [], []⟩
def h52 : He.DefD := ⟨("check_kind", none), "check_kind", "check_kind", defArgs (top 70), defBody (top 70), defScope (top 70), [], []⟩
def h53 : He.DefD := ⟨("is_a", none), "is_a", "is_a", defArgs (top 71), defBody (top 71), defScope (top 71), [], []⟩
def h54 : He.DefD := ⟨("require", none), "require", "require", defArgs (top 72), defBody (top 72), defScope (top 72), [], []⟩
def h55 : He.DefD := ⟨("lazy_calls", none), "lazy_calls", "lazy_calls", defArgs (top 74), defBody (top 74), defScope (top 74), [], []⟩
def h56 : He.DefD := ⟨("all_served", none), "all_served", "all_served", defArgs (top 75), defBody (top 75), defScope (top 75), [], []⟩
def h57 : He.DefD := ⟨("fewest_looks", none), "fewest_looks", "fewest_looks", defArgs (top 76), defBody (top 76), defScope (top 76), [], []⟩
def h58 : He.DefD := ⟨("most_apart", none), "most_apart", "most_apart", defArgs (top 77), defBody (top 77), defScope (top 77), [], []⟩
def h59 : He.DefD := ⟨("serves_all", none), "serves_all", "serves_all", defArgs (top 78), defBody (top 78), defScope (top 78), [], []⟩
def h60 : He.DefD := ⟨("span_holds", none), "span_holds", "span_holds", defArgs (top 80), defBody (top 80), defScope (top 80), [], []⟩
def h61 : He.DefD := ⟨("span_within", none), "span_within", "span_within", defArgs (top 81), defBody (top 81), defScope (top 81), [], []⟩
def h62 : He.DefD := ⟨("holds", none), "holds", "holds", defArgs (top 82), defBody (top 82), defScope (top 82), [], []⟩
def h63 : He.DefD := ⟨("is_within", none), "is_within", "is_within", defArgs (top 83), defBody (top 83), defScope (top 83), [], []⟩
def h64 : He.DefD := ⟨("are_apart", none), "are_apart", "are_apart", defArgs (top 84), defBody (top 84), defScope (top 84), [], []⟩
def h65 : He.DefD := ⟨("common", none), "common", "common", defArgs (top 85), defBody (top 85), defScope (top 85), [], []⟩
def h66 : He.DefD := ⟨("_law_jar", none), "_law_jar", "_law_jar", defArgs (top 87), defBody (top 87), defScope (top 87), [], []⟩
def h67 : He.DefD := ⟨("_law_take", none), "_law_take", "_law_take", defArgs (top 88), defBody (top 88), defScope (top 88), [], []⟩
def h68 : He.DefD := ⟨("_law_like", none), "_law_like", "_law_like", defArgs (top 89), defBody (top 89), defScope (top 89), [], []⟩
def h69 : He.DefD := ⟨("_law_lazy", none), "_law_lazy", "_law_lazy", defArgs (top 90), defBody (top 90), defScope (top 90), [], []⟩
def h70 : He.DefD := ⟨("_law_windows", none), "_law_windows", "_law_windows", defArgs (top 91), defBody (top 91), defScope (top 91), [], []⟩
def h71 : He.DefD := ⟨("_law_frame", none), "_law_frame", "_law_frame", defArgs (top 92), defBody (top 92), defScope (top 92), [], []⟩
def h72 : He.DefD := ⟨("_law_rising", none), "_law_rising", "_law_rising", defArgs (top 93), defBody (top 93), defScope (top 93), [], []⟩
def h73 : He.DefD := ⟨("_law_moments", none), "_law_moments", "_law_moments", defArgs (top 94), defBody (top 94), defScope (top 94), [], []⟩
def h74 : He.DefD := ⟨("_law_held", none), "_law_held", "_law_held", defArgs (top 95), defBody (top 95), defScope (top 95), [], []⟩
def h75 : He.DefD := ⟨("_law_common", none), "_law_common", "_law_common", defArgs (top 96), defBody (top 96), defScope (top 96), [], []⟩
def h76 : He.DefD := ⟨("_law_stabs", none), "_law_stabs", "_law_stabs", defArgs (top 97), defBody (top 97), defScope (top 97), [], []⟩
def h77 : He.DefD := ⟨("_law_pair", none), "_law_pair", "_law_pair", defArgs (top 98), defBody (top 98), defScope (top 98), [], []⟩
def h78 : He.DefD := ⟨("_law_near", none), "_law_near", "_law_near", defArgs (top 99), defBody (top 99), defScope (top 99), [], []⟩
def h79 : He.DefD := ⟨("_law_hand", none), "_law_hand", "_law_hand", defArgs (top 100), defBody (top 100), defScope (top 100), [], []⟩
def h80 : He.DefD := ⟨("_law_all", none), "_law_all", "_law_all", defArgs (top 101), defBody (top 101), defScope (top 101), [], []⟩
def h81 : He.DefD := ⟨("law", none), "law", "law", defArgs (top 102), defBody (top 102), defScope (top 102), [], []⟩
def fnD : List He.DefD := ([h0, h1, h4, h5, h6, h8, h9, h10, h52, h53, h54, h55, h56, h57, h58, h59, h60, h61, h62, h63, h64, h65, h66, h67, h68, h69, h70, h71, h72, h73] : List He.DefD) ++ ([h74, h75, h76, h77, h78, h79, h80, h81] : List He.DefD)
def tabsD : List (Str × List (Str × Str)) := [("CHECKS", ([(⟨#[105, 110, 115, 116, 97, 110, 116]⟩, "is_instant"), (⟨#[110, 97, 109, 101]⟩, "is_name"), (⟨#[110, 117, 109, 98, 101, 114]⟩, "is_number"), (⟨#[119, 105, 110, 100, 111, 119]⟩, "is_window"), (⟨#[119, 105, 110, 100, 111, 119, 115]⟩, "is_windows"), (⟨#[109, 111, 109, 101, 110, 116, 115]⟩, "is_moments"), (⟨#[116, 105, 109, 101, 114]⟩, "is_timer"), (⟨#[112, 108, 97, 99, 101]⟩, "is_place"), (⟨#[108, 111, 116]⟩, "is_lot"), (⟨#[112, 108, 97, 110]⟩, "is_plan"), (⟨#[108, 111, 97, 100]⟩, "is_load"), (⟨#[108, 111, 111, 107, 115]⟩, "is_looks"), (⟨#[114, 105, 110, 103]⟩, "is_ring"), (⟨#[97, 114, 99]⟩, "is_arc"), (⟨#[99, 104, 97, 105, 110]⟩, "is_chain"), (⟨#[108, 111, 111, 115, 101]⟩, "is_loose"), (⟨#[112, 105, 99, 107, 115]⟩, "is_picks"), (⟨#[98, 117, 114, 100, 101, 110]⟩, "is_burden"), (⟨#[114, 97, 116, 101]⟩, "is_rate"), (⟨#[115, 108, 97, 99, 107]⟩, "is_slack"), (⟨#[100, 101, 101, 100]⟩, "is_deed"), (⟨#[108, 101, 100, 103, 101, 114]⟩, "is_ledger"), (⟨#[100, 101, 115, 105, 103, 110]⟩, "is_design"), (⟨#[112, 114, 111, 109, 105, 115, 101]⟩, "is_promise"), (⟨#[113, 117, 101, 115, 116, 105, 111, 110]⟩, "is_question"), (⟨#[112, 97, 112, 101, 114]⟩, "is_paper"), (⟨#[98, 101, 97, 116, 115]⟩, "is_beats")] : List (Str × Str)))]
def hd : HD := ⟨fnN, freeN, intN, strN, tabsD, fnD, []⟩
abbrev loose : List Str := (["WakeError", "Invalid", "Unknown", "LETTERS", "LAST_INSTANT", "MOST_NUMBER", "is_integer", "is_instant", "is_number", "is_name", "is_row", "is_list_of", "ascends", "all_unlike", "is_window", "is_windows", "is_moments", "is_timer", "is_place", "is_hands", "is_lot", "is_pair", "is_plan", "is_weight", "is_relief", "is_load", "is_count", "is_looks", "DEED_SIZES", "is_deed"] : List Str) ++ (["is_ledger", "is_cells", "is_design", "is_promise_row", "is_promise", "is_table_row", "is_loose_place", "is_loose_timer", "is_loose", "is_picks", "is_burden", "is_rate", "is_due", "is_slack", "is_arc", "is_chain", "is_ring_timer", "is_beat", "is_beats", "is_ring", "is_wheel_count", "is_cell_sum", "is_timers", "is_rows", "is_table", "QUESTIONS", "PAPERS", "word_of", "fits_parts", "is_question"] : List Str) ++ (["is_paper", "CHECKS", "check_kind", "is_a", "require", "lazy_calls", "all_served", "fewest_looks", "most_apart", "serves_all", "span_holds", "span_within", "holds", "is_within", "are_apart", "common", "_law_jar", "_law_take", "_law_like", "_law_lazy", "_law_windows", "_law_frame", "_law_rising", "_law_moments", "_law_held", "_law_common", "_law_stabs", "_law_pair", "_law_near", "_law_hand"] : List Str) ++ (["_law_all"] : List Str)
abbrev R : PySem.W.OpenRow := PySem.W.OpenLaw.row PySem.Challenge.rw_wakethrift_k13_whole_lazy_looks
abbrev hk : PySem.W.Hook := hookQ 2 hd
def ob (s : PySem.W.SharedT) : AlQ := obsQG 2 hd (HandSHeadRun.getT s)
theorem ob_eq (s : PySem.W.SharedT) : ob s = hk.obs s.abs := obsQG_eq (HandSHeadRun.getT_eq s)
theorem run_false (w : World) : HandSHeadRun.RunEq R (PySem.W.view R.prog [102]) hk ob 9000 loose (w.withFollow "special-get-raises" false) := by
  intro os
  kernel_rfl
theorem run_true (w : World) : HandSHeadRun.RunEq R (PySem.W.view R.prog [102]) hk ob 9000 loose (w.withFollow "special-get-raises" true) := by
  intro os
  kernel_rfl
theorem run (w : World) : HandSHeadRun.RunEq R (PySem.W.view R.prog [102]) hk ob 9000 loose w := PySem.W.byRow2 "special-get-raises" run_false run_true w
theorem hars : ((List.range ars.length).all fun k => decide ((tab k).map Decl.np = ars[k]?.join)) = true := by decide +kernel
theorem gd {c : Cs} (d : SaysQ hd c.w c.K) {h : Heap} (X : c.K.In h) (G : h.Ns mainGlobals c.mg) (hf : ∀ i, c.fa i = He.ga c.K (fnN.getD i ⟨#[]⟩)) : Gd c :=
  ⟨fun i x e => by rw [hf i]; exact d.glo X G i x e, d.free X G, d.gi X G, d.gs X G, d.tab X G rfl rfl rfl fnN hf 0 rfl (by decide +kernel)⟩
theorem fin {c : Cs} (d : SaysQ hd c.w c.K) {h : Heap} (X : c.K.In h) (G : h.Ns mainGlobals c.mg) (hf : ∀ i, c.fa i = He.ga c.K (fnN.getD i ⟨#[]⟩)) : ∀ i d, tab i = some d → DefOk c tab i d := by
  have g : Gd c := gd d X G hf
  have v : ∀ l : Lx, (∀ j dj, tab j = some dj → FnAt c l j dj.np) → ∀ m k, okN m k = true → FnAt c l k m := fun l hF m k ok => hV_of hars l hF m k (of_decide_eq_true ok)
  intro i di hi
  unfold tab at hi
  split at hi
  · cases hi
    exact k0 g v (by rw [hf 0]; exact d.t.d.def_ 0 (d := h0) rfl)
  · cases hi
    exact k1 g v (by rw [hf 1]; exact d.t.d.def_ 1 (d := h1) rfl)
  · cases hi
    exact k4 g v (by rw [hf 4]; exact d.t.d.def_ 2 (d := h4) rfl)
  · cases hi
    exact k5 g v (by rw [hf 5]; exact d.t.d.def_ 3 (d := h5) rfl)
  · cases hi
    exact k6 g v (by rw [hf 6]; exact d.t.d.def_ 4 (d := h6) rfl)
  · cases hi
    exact k8 g v (by rw [hf 8]; exact d.t.d.def_ 5 (d := h8) rfl)
  · cases hi
    exact k9 g v (by rw [hf 9]; exact d.t.d.def_ 6 (d := h9) rfl)
  · cases hi
    exact k10 g v (by rw [hf 10]; exact d.t.d.def_ 7 (d := h10) rfl)
  · cases hi
    exact k52 g v (by rw [hf 52]; exact d.t.d.def_ 8 (d := h52) rfl)
  · cases hi
    exact k53 g v (by rw [hf 53]; exact d.t.d.def_ 9 (d := h53) rfl)
  · cases hi
    exact k54 g v (by rw [hf 54]; exact d.t.d.def_ 10 (d := h54) rfl)
  · cases hi
    exact k55 g v (by rw [hf 55]; exact d.t.d.def_ 11 (d := h55) rfl)
  · cases hi
    exact k56 g v (by rw [hf 56]; exact d.t.d.def_ 12 (d := h56) rfl)
  · cases hi
    exact k57 g v (by rw [hf 57]; exact d.t.d.def_ 13 (d := h57) rfl)
  · cases hi
    exact k58 g v (by rw [hf 58]; exact d.t.d.def_ 14 (d := h58) rfl)
  · cases hi
    exact k59 g v (by rw [hf 59]; exact d.t.d.def_ 15 (d := h59) rfl)
  · cases hi
    exact k60 g v (by rw [hf 60]; exact d.t.d.def_ 16 (d := h60) rfl)
  · cases hi
    exact k61 g v (by rw [hf 61]; exact d.t.d.def_ 17 (d := h61) rfl)
  · cases hi
    exact k62 g v (by rw [hf 62]; exact d.t.d.def_ 18 (d := h62) rfl)
  · cases hi
    exact k63 g v (by rw [hf 63]; exact d.t.d.def_ 19 (d := h63) rfl)
  · cases hi
    exact k64 g v (by rw [hf 64]; exact d.t.d.def_ 20 (d := h64) rfl)
  · cases hi
    exact k65 g v (by rw [hf 65]; exact d.t.d.def_ 21 (d := h65) rfl)
  · cases hi
    exact k66 g v (by rw [hf 66]; exact d.t.d.def_ 22 (d := h66) rfl)
  · cases hi
    exact k67 g v (by rw [hf 67]; exact d.t.d.def_ 23 (d := h67) rfl)
  · cases hi
    exact k68 g v (by rw [hf 68]; exact d.t.d.def_ 24 (d := h68) rfl)
  · cases hi
    exact k69 g v (by rw [hf 69]; exact d.t.d.def_ 25 (d := h69) rfl)
  · cases hi
    exact k70 g v (by rw [hf 70]; exact d.t.d.def_ 26 (d := h70) rfl)
  · cases hi
    exact k71 g v (by rw [hf 71]; exact d.t.d.def_ 27 (d := h71) rfl)
  · cases hi
    exact k72 g v (by rw [hf 72]; exact d.t.d.def_ 28 (d := h72) rfl)
  · cases hi
    exact k73 g v (by rw [hf 73]; exact d.t.d.def_ 29 (d := h73) rfl)
  · cases hi
    exact k74 g v (by rw [hf 74]; exact d.t.d.def_ 30 (d := h74) rfl)
  · cases hi
    exact k75 g v (by rw [hf 75]; exact d.t.d.def_ 31 (d := h75) rfl)
  · cases hi
    exact k76 g v (by rw [hf 76]; exact d.t.d.def_ 32 (d := h76) rfl)
  · cases hi
    exact k77 g v (by rw [hf 77]; exact d.t.d.def_ 33 (d := h77) rfl)
  · cases hi
    exact k78 g v (by rw [hf 78]; exact d.t.d.def_ 34 (d := h78) rfl)
  · cases hi
    exact k79 g v (by rw [hf 79]; exact d.t.d.def_ 35 (d := h79) rfl)
  · cases hi
    exact k80 g v (by rw [hf 80]; exact d.t.d.def_ 36 (d := h80) rfl)
  · cases hi
    exact k81 g v (by rw [hf 81]; exact d.t.d.def_ 37 (d := h81) rfl)
  · cases hi
/-- the law, from its plain law -/
theorem whole (hp : ∀ (a : Addr) (ns : List Int), ns.length ≤ 63 → WF tab 16 81 [.ref a] (DH.emp.upd a (.frz (ns.map D.int))) (fun d _ => d = .bl true) fun _ _ => False) : PySem.Challenge.rw_wakethrift_k13_whole_lazy_looks.Holds := by
  w_on; o_law
  refine HandSHeadRun.head_any (r := R) (q := PySem.W.view R.prog [102]) (H := hk) (ob := ob) (M := 9000) (loose := loose) (d := HandSHeadRun.topDef R.prog 102) (kwd := []) ob_eq
    (by kernel_rfl) (fun s => by kernel_rfl) run (by kernel_rfl) (by kernel_rfl) (by kernel_rfl) (by rfl) (by first | assumption | decide +kernel) (by decide +kernel) ⟨rfl, rfl, rfl, rfl, rfl, by decide +kernel⟩ ?hw ?hc
  case hw => w_witness2
  case hc =>
    refine L2.walk_ofE (l := PySem.Challenge.rw_wakethrift_k13_whole_lazy_looks) (n := 63) (k := 16) (x := "script") (CX := CXany (PySem.Challenge.rw_wakethrift_k13_whole_lazy_looks).prog) rfl (by decide) (by kernel_rfl) ⟨rfl, by decide, by decide⟩ ?F ?cx
    case F =>
      intro w mg fa h Y G hmg0
      obtain ⟨K, KX, d⟩ := Y
      have hmg : mg ("law" : PySem.Str) = some (.ref fa) := by
        have e : (HandSHeadRun.topDef R.prog 102).name = ("law" : PySem.Str) := by kernel_rfl
        rw [← e]
        exact hmg0
      have hfa : fa = He.ga K (fnN.getD 81 ⟨#[]⟩) := by
        have e := hmg.symm.trans (d.glo KX G 81 "law" rfl)
        exact Value.ref.inj (Option.some.inj e)
      subst hfa
      obtain ⟨fd, F⟩ := d.t.d.def_ 37 (d := h81) rfl
      refine ⟨K, fd, fun vs H Q E => ∀ base : Heap, spL ⟨(PySem.Challenge.rw_wakethrift_k13_whole_lazy_looks).prog, w, K, mg, base, fun i => He.ga K (fnN.getD i ⟨#[]⟩), fun _ => 0⟩ (WF tab 16 81) 1 vs H Q E, KX, fun s u => L2.FunD.bindsA (ps := ["script"]) F (fun _ _ _ _ _ _ us hl => match us, hl with | [_], _ => rfl) s [u] rfl,
        fun H a ns hl _ hS base => law_sp (n := 63) ((sound2 (fin (c := ⟨(PySem.Challenge.rw_wakethrift_k13_whole_lazy_looks).prog, w, K, mg, h, fun i => He.ga K (fnN.getD i ⟨#[]⟩), fun _ => 0⟩) d KX G fun _ => rfl) 16).1 81) d.noList hp H a ns hl hS, fun base hK hG => fn_any ((?_ : L2.FnOk _ w K mg base (L2.CX _ w) 16 _ fd ["script"] (spL ⟨(PySem.Challenge.rw_wakethrift_k13_whole_lazy_looks).prog, w, K, mg, base, fun i => He.ga K (fnN.getD i ⟨#[]⟩), fun _ => 0⟩ (WF tab 16 81) 1)).imp fun vs H Q E z => z base)⟩
      have DO := fin (c := ⟨(PySem.Challenge.rw_wakethrift_k13_whole_lazy_looks).prog, w, K, mg, base, fun i => He.ga K (fnN.getD i ⟨#[]⟩), fun _ => 0⟩) d hK hG fun _ => rfl
      obtain ⟨mo, snd⟩ := sound2 DO 15
      exact sound1 t81 F s81 rfl rfl (o81 (gd (c := ⟨(PySem.Challenge.rw_wakethrift_k13_whole_lazy_looks).prog, w, K, mg, base, fun i => He.ga K (fnN.getD i ⟨#[]⟩), fun _ => 0⟩) d hK hG fun _ => rfl) 15 _ (fnAts DO mo snd _ _) (fun m k ok => hV_of hars _ (fnAts DO mo snd _ _) m k (of_decide_eq_true ok)))
    case cx => exact cx_no
end K13

theorem PySem.Challenge.cw_wakethrift_k13_whole_lazy_looks_holds : PySem.Challenge.rw_wakethrift_k13_whole_lazy_looks.Holds := by
  exact K13.whole K13.law_ok
