import PyProof.Rows.All
import Wide.All
import OpenK.AllK
import Wide.FinOn
import KE.KStateDown
import Lean
import HandS.Base
import HandS.Call
import HandS.Ends
import HandS.More
import HandS.Words
import HandS.WordsExc
import HandS.Defaults
import HandS.ForMost
import HandS.TupAny
import HandS.Zip
import HandS.IsInst
import HandS.Wide
import KE.GoesMore
import KE.GoesZip
import HandS.SortKw
import PyProof.Rows.CountFlat
import PyProof.Rows.TupReads
import KE.DataMinMax
import HandS.Dict
import KE.KRevSl
import PyProof.EqAt
import PyProof.NeKinds
import HandS.Style
import HandS.SetKeys
import KE.KDictPairs
import KE.KDictCopyH
import HandS.DictComp
import HandS.TryOnly
import HandS.Head0
import HandS.Head1
import HandS.Head2
import HandS.HeadEnd
import HandS.HeadHook1
import HandS.HeadHook2
import PySem.Challenge.RW_needfill_k50_things_in_common
set_option Elab.async false
set_option linter.all false
set_option maxRecDepth 100000
set_option maxHeartbeats 4000000
set_option autoImplicit false
/-! DLP: data by values, memory by places, and what Python's constructs ask of them. -/
namespace DL
open PySem

abbrev Key := Sum Int Str
/-- sizes that are safe everywhere -/
abbrev SZ : Nat := 100000

/-- data: what never changes is told by value; .ref is an object of the memory -/
inductive D where
  | non | bl (b : Bool) | int (i : Int) | str (x : Str) | ref (a : Addr)
  | tup (xs : List D) | lst (xs : List D) | rol (xs : List D)
  | dK (ks : List Key) (vs : List D) | dT (ks : List (List Key)) (vs : List D)
  | ins (a : Addr) (C : Str) (ns : List Str) (vs : List D)
  | ty (n : String) | cls (C : Addr)

/-- what stands at a place of the memory -/
inductive MO where
  | lst (xs : List D)
  | dK (ks : List Key) (vs : List D)
  | dT (ks : List (List Key)) (vs : List D)
  | ins (C : Str) (ns : List Str) (vs : List D)
  | tupP (xs : List D)
  | deck (kind : Nat) (b : Nat)
  | part (a : Addr)

abbrev Mem := Addr → Option MO
def mset (M : Mem) (a : Addr) (o : MO) : Mem := fun b => if b = a then some o else M b
@[simp] theorem mset_same (M : Mem) (a : Addr) (o : MO) : mset M a o a = some o := if_pos rfl
theorem mset_ne {M : Mem} {a b : Addr} {o : MO} (h : b ≠ a) : mset M a o b = M b := if_neg h
@[simp] theorem mset_mset (M : Mem) (a : Addr) (o o' : MO) : mset (mset M a o) a o' = mset M a o' := by
  funext b; unfold mset; split <;> rfl
theorem mset_self {M : Mem} {a : Addr} {o : MO} (h : M a = some o) : mset M a o = M := by
  funext b; unfold mset; split
  · rename_i e; rw [e, h]
  · rfl
theorem mset_comm {M : Mem} {a b : Addr} {o o' : MO} (h : a ≠ b) : mset (mset M a o) b o' = mset (mset M b o') a o := by
  funext c; unfold mset
  by_cases h1 : c = b
  · subst h1; rw [if_pos rfl, if_neg (Ne.symm h), if_pos rfl]
  · rw [if_neg h1]
    by_cases h2 : c = a
    · rw [if_pos h2, if_pos h2]
    · rw [if_neg h2, if_neg h2, if_neg h1]
def mdel (M : Mem) (a : Addr) : Mem := fun b => if b = a then none else M b
/-- an object that may be forgotten -/
def soft : Option MO → Prop
  | some (.deck _ _) => False
  | some (.part _) => False
  | _ => True
/-- less is known -/
def Sub (M M' : Mem) : Prop := ∀ a, M a = M' a ∨ (M a = none ∧ soft (M' a))
theorem Sub.refl (M : Mem) : Sub M M := fun _ => .inl rfl
theorem Sub.trans {M M1 M2 : Mem} (a : Sub M M1) (b : Sub M1 M2) : Sub M M2 := fun x => by
  rcases a x with h | ⟨h, s⟩
  · rcases b x with h' | ⟨h', s'⟩
    · exact .inl (h.trans h')
    · exact .inr ⟨h.trans h', s'⟩
  · rcases b x with h' | ⟨h', s'⟩
    · exact .inr ⟨h, h' ▸ s⟩
    · exact .inr ⟨h, s'⟩
theorem Sub.new {M : Mem} {a : Addr} {o : MO} (h : M a = none) (s : soft (some o)) : Sub M (mset M a o) := fun b => by
  by_cases e : b = a
  · subst e; rw [mset_same]; exact .inr ⟨h, s⟩
  · rw [mset_ne e]; exact .inl rfl
theorem Sub.lst {M : Mem} {a : Addr} {xs : List D} (h : M a = none) : Sub M (mset M a (.lst xs)) := .new h trivial
theorem Sub.mset {M M' : Mem} (s : Sub M M') (a : Addr) (o : MO) : Sub (mset M a o) (mset M' a o) := fun b => by
  by_cases e : b = a
  · subst e; rw [mset_same, mset_same]; exact .inl rfl
  · rw [mset_ne e, mset_ne e]; exact s b

abbrev Env := List (Option D)
abbrev DK := D → Mem → Prop
abbrev DE := Env → Mem → DK → Prop
abbrev BK := Bool → Mem → Prop
abbrev DT := Env → Mem → BK → Prop
abbrev DA := Env → Mem → (List D → Mem → Prop) → Prop
abbrev DI := Env → Mem → (List D → Mem → Prop) → Prop
structure DEnds where
  nx : Env → Mem → Prop
  rt : DK
  bk : Env → Mem → Prop := fun _ _ => False
  ct : Env → Mem → Prop := fun _ _ => False
abbrev DS := DEnds → Env → Mem → Prop
abbrev DG := D → Env → Mem → (Env → Mem → Prop) → Prop
abbrev DGs := List D → Env → Mem → (Env → Mem → Prop) → Prop
/-- what a def is worth: where it may be called, what comes of it -/
structure Spec where
  pre : List D → Mem → Prop
  post : List D → Mem → D → Mem → Prop
/-- a function of its arguments -/
def Spec.fn (pre : List D → Prop) (f : List D → D) : Spec := ⟨fun ds _ => pre ds, fun ds M d M' => d = f ds ∧ M' = M⟩
abbrev R2 := D → D → Mem → DK → Prop
abbrev R1 := D → Mem → DK → Prop

/-! ### lists, sequences, indices -/
/-- a list that is read -/
def asL (M : Mem) : D → Option (List D)
  | .lst xs => some xs
  | .rol xs => some xs
  | .ref a => match M a with
    | some (.lst xs) => some xs
    | _ => none
  | _ => none
/-- a list that is tracked by itself -/
def asW (M : Mem) : D → Option (List D)
  | .lst xs => some xs
  | .ref a => match M a with
    | some (.lst xs) => some xs
    | _ => none
  | _ => none
def asS (M : Mem) : D → Option (List D)
  | .tup xs => some xs
  | x => asL M x
def ixN (n : Nat) (i : Int) : Option Nat := if 0 ≤ i then (if i < n then some i.toNat else none) else if -(n : Int) ≤ i then some (i + n).toNat else none
def atI {α : Type} (xs : List α) (i : Int) : Option α := (ixN xs.length i).bind fun j => xs[j]?
def sIx (n d : Nat) : Option Int → Nat
  | none => d
  | some i => if i < 0 then (i + n).toNat else min i.toNat n
def cut {α : Type} (xs : List α) (lo hi : Option Int) : List α := (xs.drop (sIx xs.length 0 lo)).take (sIx xs.length xs.length hi - sIx xs.length 0 lo)
def chars (x : Str) : List D := x.cps.toList.map fun c => .str ⟨#[c]⟩

/-! ### equality of data -/
mutual
def eqv : D → D → Bool
  | .non, .non => true
  | .bl a, .bl b => a == b
  | .bl a, .int j => (if a then 1 else 0) == j
  | .int i, .bl b => i == (if b then 1 else 0)
  | .int i, .int j => i == j
  | .str x, .str y => x == y
  | .lst xs, .lst ys => eqvs xs ys
  | .tup xs, .tup ys => eqvs xs ys
  | _, _ => false
def eqvs : List D → List D → Bool
  | [], [] => true
  | x :: xs, y :: ys => eqv x y && eqvs xs ys
  | _, _ => false
end
def strOk (x : Str) : Bool := x.cps.all (· < 0x110000)
mutual
/-- data that may be compared: no places, no dicts -/
def plain : D → Bool
  | .non => true
  | .bl _ => true
  | .int _ => true
  | .str x => strOk x
  | .tup xs => plains xs
  | .lst xs => plains xs
  | _ => false
def plains : List D → Bool
  | [] => true
  | x :: xs => plain x && plains xs
end
mutual
def depth : D → Nat
  | .tup xs => depths xs + 1
  | .lst xs => depths xs + 1
  | _ => 1
def depths : List D → Nat
  | [] => 0
  | x :: xs => max (depth x) (depths xs)
end
def cmpOk (d : D) : Bool := plain d && decide (depth d ≤ 64)
/-- data to be compared, a list of the memory as it stands -/
def asC (M : Mem) : D → D
  | .ref a => match M a with
    | some (.lst xs) => .lst xs
    | _ => .ref a
  | d => d
def flat : D → Bool
  | .non => true
  | .bl _ => true
  | .int _ => true
  | .str _ => true
  | _ => false

/-! ### operators -/
def oAdd : R2
  | .int i, .int j, M, Q => Q (.int (i + j)) M
  | .str a, .str b, M, Q => a.length + b.length ≤ 100000 ∧ Q (.str (a ++ b)) M
  | .tup a, .tup b, M, Q => a.length + b.length ≤ 100000 ∧ Q (.tup (a ++ b)) M
  | x, y, M, Q => match asW M x, asW M y with
    | some a, some b => a.length + b.length ≤ 100000 ∧ Q (.lst (a ++ b)) M
    | _, _ => False
def oSub : R2
  | .int i, .int j, M, Q => Q (.int (i - j)) M
  | _, _, _, _ => False
def small (i : Int) : Prop := -(2 ^ 64) < i ∧ i < 2 ^ 64
/-- a text, some times -/
def repS (n : Nat) (x : Str) : Str := ⟨(List.replicate n x.cps).foldl (· ++ ·) #[]⟩
def oRep : R2
  | .str x, .int k, M, Q => (1 ≤ k ∧ k ≤ 1000 ∧ 1 ≤ x.length ∧ x.length ≤ 100) ∧ Q (.str (repS k.toNat x)) M
  | _, _, _, _ => False
def oMul : R2
  | .int i, .int j, M, Q => (small i ∨ small j) ∧ Q (.int (i * j)) M
  | .str x, .int k, M, Q => (0 ≤ k ∧ k ≤ 1000 ∧ 1 ≤ x.length ∧ x.length ≤ 100) ∧ Q (.str (repS k.toNat x)) M
  | .lst xs, .int k, M, Q => (0 ≤ k ∧ k ≤ 1000 ∧ xs.length ≤ 100) ∧ Q (.lst (List.replicate k.toNat xs).flatten) M
  | _, _, _, _ => False
/-- two lists one behind the other: a new list that may change -/
def oCatN : R2 := fun x y M Q => match asW M x, asW M y with
  | some a, some b => a.length + b.length ≤ 100000 ∧ ∀ p, M p = none → Q (.ref p) (mset M p (.lst (a ++ b)))
  | _, _ => False
def oAddI : R2
  | .int i, .int j, M, Q => Q (.int (i + j)) M
  | _, _, _, _ => False
def oMax : R2
  | .int i, .int j, M, Q => Q (.int (if j > i then j else i)) M
  | _, _, _, _ => False
def oFdiv : R2
  | .int i, .int j, M, Q => (0 < j ∧ j < 2 ^ 200) ∧ Q (.int (i / j)) M
  | _, _, _, _ => False
def oMod : R2
  | .int i, .int j, M, Q => 0 < j ∧ Q (.int (i % j)) M
  | _, _, _, _ => False
def oPow : R2
  | .int i, .int j, M, Q => (0 ≤ j ∧ j ≤ 1000000 ∧ i.natAbs < 2 ^ 64) ∧ Q (.int (i ^ j.toNat)) M
  | _, _, _, _ => False
def oNeg : R1
  | .int i, M, Q => Q (.int (-i)) M
  | _, _, _ => False
def oLt : R2
  | .int i, .int j, M, Q => Q (.bl (decide (i < j))) M
  | _, _, _, _ => False
def oLe : R2
  | .int i, .int j, M, Q => Q (.bl (decide (i ≤ j))) M
  | _, _, _, _ => False
def oGt : R2
  | .int i, .int j, M, Q => Q (.bl (decide (j < i))) M
  | _, _, _, _ => False
def oGe : R2
  | .int i, .int j, M, Q => Q (.bl (decide (j ≤ i))) M
  | _, _, _, _ => False
/-- ==, as a bool -/
def eqB : D → D → Mem → BK → Prop
  | .str a, .str b, M, Q => Q (decide (a = b)) M
  | .int a, .int b, M, Q => Q (decide (a = b)) M
  | .bl a, .bl b, M, Q => Q (decide (a = b)) M
  | x, y, M, Q => cmpOk (asC M x) = true ∧ cmpOk (asC M y) = true ∧ Q (eqv (asC M x) (asC M y)) M
@[simp] def oEq : R2 := fun x y M Q => eqB x y M fun b M1 => Q (.bl b) M1
@[simp] def oNe : R2 := fun x y M Q => eqB x y M fun b M1 => Q (.bl (!b)) M1
def oIsN : R1
  | .non, M, Q => Q (.bl true) M
  | _, M, Q => Q (.bl false) M
def oNotN : R1
  | .non, M, Q => Q (.bl false) M
  | _, M, Q => Q (.bl true) M
/-- in, as a bool -/
def inB : D → D → Mem → BK → Prop
  | .str a, .str b, M, Q => ∃ c, a = ⟨#[c]⟩ ∧ Q (decide (c ∈ b.cps.toList)) M
  | x, y, M, Q => match asS M y with
    | some ys => flat x = true ∧ ys.all flat = true ∧ Q (ys.any fun z => eqv z x) M
    | none => False
@[simp] def oIn : R2 := fun x y M Q => inB x y M fun b M1 => Q (.bl b) M1
@[simp] def oNotIn : R2 := fun x y M Q => inB x y M fun b M1 => Q (.bl (!b)) M1
/-- x[i] -/
def oIx : R2
  | .str s, .int i, M, Q => s.length ≤ 100000 ∧ (match atI s.cps.toList i with
    | some c => Q (.str ⟨#[c]⟩) M
    | none => False)
  | x, .int i, M, Q => match asS M x with
    | some xs => (match atI xs i with
      | some v => Q v M
      | none => False)
    | none => False
  | _, _, _, _ => False
def oLen : R1
  | .str s, M, Q => s.length ≤ 100000 ∧ Q (.int s.length) M
  | x, M, Q => match asS M x with
    | some xs => Q (.int xs.length) M
    | none => False
/-- x[lo:hi] -/
def oCut : D → Option Int → Option Int → Mem → DK → Prop
  | .str s, lo, hi, M, Q => s.length ≤ 100000 ∧ Q (.str ⟨(cut s.cps.toList lo hi).toArray⟩) M
  | .tup xs, lo, hi, M, Q => Q (.tup (cut xs lo hi)) M
  | x, lo, hi, M, Q => match asL M x with
    | some xs => Q (.lst (cut xs lo hi)) M
    | none => False
/-- the kind of a thing -/
def tyOf (M : Mem) : D → String
  | .non => "NoneType"
  | .bl _ => "bool"
  | .int _ => "int"
  | .str _ => "str"
  | .tup _ => "tuple"
  | .lst _ => "list"
  | .dK _ _ => "dict"
  | .dT _ _ => "dict"
  | .ref a => match M a with
    | some (.lst _) => "list"
    | some (.dK _ _) => "dict"
    | some (.dT _ _) => "dict"
    | _ => ""
  | _ => ""
/-- isinstance(x, T) of a built-in class T -/
@[simp] def oIsi (T : String) : R1 := fun x M Q => tyOf M x ≠ "" ∧ Q (.bl (tyOf M x == T || (T == "int" && tyOf M x == "bool"))) M
def oAbs : R1
  | .int i, M, Q => Q (.int (if i < 0 then -i else i)) M
  | _, _, _ => False
def oInt : R1
  | .int i, M, Q => Q (.int i) M
  | .bl b, M, Q => Q (.int (if b then 1 else 0)) M
  | _, _, _ => False
def oStr : R1
  | .int i, M, Q => i.natAbs < 2 ^ 200 ∧ Q (.str (toString i)) M
  | _, _, _ => False
def oTuple : R1
  | .tup xs, M, Q => Q (.tup xs) M
  | x, M, Q => match asL M x with
    | some xs => Q (.tup xs) M
    | none => False
def oList : R1 := fun x M Q => match asS M x with
  | some xs => Q (.lst xs) M
  | none => False
def dBools : List D → Option (List Bool)
  | [] => some []
  | .bl b :: r => (dBools r).map (b :: ·)
  | _ :: _ => none
def dInts : List D → Option (List Int)
  | [] => some []
  | .int b :: r => (dInts r).map (b :: ·)
  | _ :: _ => none
def oAll : R1 := fun x M Q => match (asL M x).bind dBools with
  | some bs => Q (.bl (bs.all id)) M
  | none => False
def oAny : R1 := fun x M Q => match (asL M x).bind dBools with
  | some bs => Q (.bl (bs.any id)) M
  | none => False
def oSum : R1 := fun x M Q => match (asL M x).bind dInts with
  | some ns => Q (.int ns.sum) M
  | none => False

/-! ### expressions -/
@[simp] def dV (i : Nat) : DE := fun ρ M Q => match ρ[i]? with
  | some (some d) => Q d M
  | _ => False
@[simp] def dC (d : D) : DE := fun _ M Q => Q d M
@[simp] def dA0 : DA := fun _ M Q => Q [] M
@[simp] def dA (t : DE) (r : DA) : DA := fun ρ M Q => t ρ M fun x M1 => r ρ M1 fun xs M2 => Q (x :: xs) M2
@[simp] def dTup (t : DA) : DE := fun ρ M Q => t ρ M fun xs M1 => Q (.tup xs) M1
/-- a list that is never changed; a list of the memory -/
@[simp] def dLst (t : DA) : DE := fun ρ M Q => t ρ M fun xs M1 => Q (.lst xs) M1
@[simp] def dNew (t : DA) : DE := fun ρ M Q => t ρ M fun xs M1 => ∀ p, M1 p = none → Q (.ref p) (mset M1 p (.lst xs))
@[simp] def dOp (r : R2) (ta tb : DE) : DE := fun ρ M Q => ta ρ M fun x M1 => tb ρ M1 fun y M2 => r x y M2 Q
@[simp] def dUn (r : R1) (ta : DE) : DE := fun ρ M Q => ta ρ M fun x M1 => r x M1 Q
@[simp] def dCut (ta : DE) (tl th : Env → Mem → (Option Int → Mem → Prop) → Prop) : DE := fun ρ M Q => ta ρ M fun x M1 => tl ρ M1 fun lo M2 => th ρ M2 fun hi M3 => oCut x lo hi M3 Q
@[simp] def dNoPart : Env → Mem → (Option Int → Mem → Prop) → Prop := fun _ M Q => Q none M
@[simp] def dPart (t : DE) : Env → Mem → (Option Int → Mem → Prop) → Prop := fun ρ M Q => t ρ M fun x M1 => match x with
  | .int i => Q (some i) M1
  | _ => False
@[simp] def dTest (te : DE) : DT := fun ρ M Q => te ρ M fun x M1 => match x with
  | .bl b => Q b M1
  | _ => False
@[simp] def dAnd (t u : DT) : DT := fun ρ M Q => t ρ M fun c M1 => if c = true then u ρ M1 Q else Q false M1
@[simp] def dOr (t u : DT) : DT := fun ρ M Q => t ρ M fun c M1 => if c = true then Q true M1 else u ρ M1 Q
@[simp] def dNot (t : DT) : DT := fun ρ M Q => t ρ M fun c M1 => Q (!c) M1
@[simp] def dAndV (ta tb : DE) : DE := fun ρ M Q => ta ρ M fun x M1 => match x with
  | .bl c => if c = true then tb ρ M1 Q else Q (.bl false) M1
  | _ => False
@[simp] def dOrV (ta tb : DE) : DE := fun ρ M Q => ta ρ M fun x M1 => match x with
  | .bl c => if c = true then Q (.bl true) M1 else tb ρ M1 Q
  | _ => False
@[simp] def dNotV (ta : DE) : DE := fun ρ M Q => ta ρ M fun x M1 => match x with
  | .bl c => Q (.bl (!c)) M1
  | _ => False
@[simp] def dIfE (t : DT) (ta tb : DE) : DE := fun ρ M Q => t ρ M fun c M1 => if c = true then ta ρ M1 Q else tb ρ M1 Q
/-- a < b < c -/
@[simp] def dChain (r r' : R2) (ta tb tc : DE) : DE := fun ρ M Q => ta ρ M fun x M1 => tb ρ M1 fun y M2 => r x y M2 fun z M3 => match z with
  | .bl k => if k = true then tc ρ M3 fun u M4 => r' y u M4 Q else Q (.bl false) M3
  | _ => False
@[simp] def dCall (sp : Spec) (t : DA) : DE := fun ρ M Q => t ρ M fun xs M1 => sp.pre xs M1 ∧ ∀ d M', sp.post xs M1 d M' → Q d M'
/-- a method of a list of the memory -/
@[simp] def dMeth (r : R2) (to ta : DE) : DE := fun ρ M Q => to ρ M fun x M1 => (asL M1 x).isSome = true ∧ ta ρ M1 fun y M2 => r x y M2 Q
@[simp] def dMeth0 (r : R1) (to : DE) : DE := fun ρ M Q => to ρ M fun x M1 => (asL M1 x).isSome = true ∧ r x M1 Q
/-- l.append(x), l.pop(), l.pop(i), as expressions -/
def mAppend : R2
  | .ref l, x, M, Q => match M l with
    | some (.lst xs) => xs.length < 100000 ∧ Q .non (mset M l (.lst (xs ++ [x])))
    | _ => False
  | _, _, _, _ => False
/-- l.index(x) -/
def ixOf : List D → D → Nat → Option Nat
  | [], _, _ => none
  | y :: ys, x, k => if eqv y x = true then some k else ixOf ys x (k + 1)
def mIndex : R2 := fun x y M Q => match asL M x with
  | some ys => flat y = true ∧ ys.all flat = true ∧ (match ixOf ys y 0 with
    | some k => Q (.int (k : Nat)) M
    | none => False)
  | none => False
def mPop : R1
  | .ref l, M, Q => match M l with
    | some (.lst xs) => (match xs[xs.length - 1]? with
      | some y => Q y (mset M l (.lst xs.dropLast))
      | none => False)
    | _ => False
  | _, _, _ => False
def mPopAt : R2
  | .ref l, .int i, M, Q => match M l with
    | some (.lst xs) => (-(2 ^ 63) ≤ i ∧ i < 2 ^ 63) ∧ (match ixN xs.length i with
      | some k => (match xs[k]? with
        | some y => Q y (mset M l (.lst (xs.eraseIdx k)))
        | none => False)
      | none => False)
    | _ => False
  | _, _, _, _ => False

/-- t[::-1] of a tuple -/
def oRev : R1
  | .tup xs, M, Q => Q (.tup xs.reverse) M
  | _, _, _ => False
@[simp] theorem oRev_tup (xs : List D) {M : Mem} {Q : DK} : oRev (.tup xs) M Q = Q (.tup xs.reverse) M := rfl
/-- t == (), t != () -/
def oEqT0 : R2
  | .tup xs, .tup [], M, Q => Q (.bl xs.isEmpty) M
  | _, _, _, _ => False
def oNeT0 : R2
  | .tup xs, .tup [], M, Q => Q (.bl (!xs.isEmpty)) M
  | _, _, _, _ => False
@[simp] theorem oEqT0_tup (xs : List D) {M : Mem} {Q : DK} : oEqT0 (.tup xs) (.tup []) M Q = Q (.bl xs.isEmpty) M := rfl
@[simp] theorem oNeT0_tup (xs : List D) {M : Mem} {Q : DK} : oNeT0 (.tup xs) (.tup []) M Q = Q (.bl (!xs.isEmpty)) M := rfl
/-- {} that is never changed -/
@[simp] def dDict0 : DE := fun _ M Q => Q (.dK [] []) M
/-- a call whose last arguments are the def's own -/
@[simp] def dCallD (sp : Spec) (dd : List D) (t : DA) : DE := fun ρ M Q => t ρ M fun xs M1 => sp.pre (xs ++ dd) M1 ∧ ∀ d M', sp.post (xs ++ dd) M1 d M' → Q d M'

/-! ### what is walked -/
@[simp] def iSeq (t : DE) : DI := fun ρ M R => t ρ M fun x M1 => match x with
  | .tup xs => R xs M1
  | .lst xs => R xs M1
  | .rol xs => R xs M1
  | .str s => R (chars s) M1
  | _ => False
def upTo (n : Nat) : List D := (List.range n).map fun (i : Nat) => .int (i : Int)
@[simp] def iRange (t : DE) : DI := fun ρ M R => t ρ M fun x M1 => match x with
  | .int n => (-(2 ^ 62) ≤ n ∧ n < 2 ^ 62) ∧ R (upTo n.toNat) M1
  | _ => False
def enumD : Nat → List D → List D
  | _, [] => []
  | n, x :: xs => .tup [.int (n : Int), x] :: enumD (n + 1) xs
@[simp] def iEnum (t : DE) : DI := fun ρ M R => t ρ M fun x M1 => match x with
  | .tup xs => R (enumD 0 xs) M1
  | .lst xs => R (enumD 0 xs) M1
  | .rol xs => R (enumD 0 xs) M1
  | _ => False
def zipD : List D → List D → List D
  | x :: xs, y :: ys => .tup [x, y] :: zipD xs ys
  | _, _ => []
@[simp] def iZip (ta tb : DE) : DI := fun ρ M R => ta ρ M fun x M1 => tb ρ M1 fun y M2 => match x, y with
  | .tup xs, .tup ys => R (zipD xs ys) M2
  | .lst xs, .lst ys => R (zipD xs ys) M2
  | _, _ => False
/-- a tuple with a list -/
@[simp] def iZipX (ta tb : DE) : DI := fun ρ M R => ta ρ M fun x M1 => tb ρ M1 fun y M2 => match x, y with
  | .tup xs, .lst ys => R (zipD xs ys) M2
  | _, _ => False
/-- a comprehension, its list never changed -/
@[simp] def wipe (ρ : Env) : List Nat → Env
  | [] => ρ
  | v :: vs => (wipe ρ vs).set v none
@[simp] def dCompL (g : DG) (tt : DT) (te : DE) (ρ : Env) : List D → List D → Mem → DK → Prop
  | [], acc, M, Q => Q (.lst acc) M
  | d :: r, acc, M, Q => g d ρ M fun ρ1 M1 => tt ρ1 M1 fun b M2 => if b = true then te ρ1 M2 fun x M3 => dCompL g tt te ρ r (acc ++ [x]) M3 Q else dCompL g tt te ρ r acc M2 Q
@[simp] def dComp (ti : DI) (g : DG) (tt : DT) (te : DE) (vs : List Nat) : DE := fun ρ M Q => ti ρ M fun ds M1 => ds.length ≤ 100000 ∧ dCompL g tt te (wipe ρ vs) ds [] M1 Q
/-- keys of dicts -/
def keyOf : D → Option Key
  | .int i => some (.inl i)
  | .str x => some (.inr x)
  | _ => none
@[simp] theorem keyOf_str (x : Str) : keyOf (.str x) = some (.inr x) := rfl
@[simp] theorem keyOf_int (i : Int) : keyOf (.int i) = some (.inl i) := rfl
/-- {k: v for target in iter}: keys that are new -/
def dDCompL (g : DG) (tt : DT) (tk tv : DE) (ρ : Env) : List D → List Key → List D → Mem → DK → Prop
  | [], ks, acc, M, Q => Q (.dK ks acc) M
  | d :: r, ks, acc, M, Q => g d ρ M fun ρ1 M1 => tt ρ1 M1 fun b M2 => if b = true then tk ρ1 M2 fun y M3 => tv ρ1 M3 fun x M4 => (match keyOf y with
      | some k => k ∉ ks ∧ dDCompL g tt tk tv ρ r (ks ++ [k]) (acc ++ [x]) M4 Q
      | none => False) else dDCompL g tt tk tv ρ r ks acc M2 Q
@[simp] def dDComp (ti : DI) (g : DG) (tt : DT) (tk tv : DE) (vs : List Nat) : DE := fun ρ M Q => ti ρ M fun ds M1 => ds.length ≤ 100000 ∧ dDCompL g tt tk tv (wipe ρ vs) ds [] [] M1 Q
def valD : List Key → List D → Key → Option D
  | k :: ks, d :: ds, x => if k = x then some d else valD ks ds x
  | _, _, _ => none
/-- d.get(y, z) -/
@[simp] def dGet2 (td ty tz : DE) : DE := fun ρ M Q => td ρ M fun d M1 => match d with
  | .dK ks ds => ty ρ M1 fun y M2 => tz ρ M2 fun z M3 => (match keyOf y with
    | some k => Q ((valD ks ds k).getD z) M3
    | none => False)
  | _ => False
/-- a call with keywords: all arguments are given, in order -/
@[simp] def dCallK (sp : Spec) (t tk : DA) : DE := fun ρ M Q => t ρ M fun xs M1 => tk ρ M1 fun ys M2 => sp.pre (xs ++ ys) M2 ∧ ∀ d M', sp.post (xs ++ ys) M2 d M' → Q d M'
/-- max(ints, default=d) -/
def maxL (d : D) : List Int → D
  | [] => d
  | n :: ns => .int (ns.foldl max n)
@[simp] def dMaxD (te td : DE) : DE := fun ρ M Q => te ρ M fun x M1 => td ρ M1 fun y M2 => match x with
  | .lst xs => (match dInts xs with
    | some ns => Q (maxL y ns) M2
    | none => False)
  | _ => False
def dStrs : List D → Option (List Str)
  | [] => some []
  | .str b :: r => (dStrs r).map (b :: ·)
  | _ :: _ => none
/-- l.count(x), texts -/
def mCountS : R2
  | x, .str y, M, Q => (match (asL M x).bind dStrs with
    | some ss => Q (.int ((ss.count y : Nat) : Int)) M
    | none => False)
  | _, _, _, _ => False
/-! instances -/
def fldD : List Str → List D → Str → Option D
  | n :: ns, v :: vs, f => if n = f then some v else fldD ns vs f
  | _, _, _ => none
def asI (M : Mem) : D → Option (Str × List Str × List D)
  | .ins _ C ns vs => some (C, ns, vs)
  | .ref a => match M a with
    | some (.ins C ns vs) => some (C, ns, vs)
    | _ => none
  | _ => none
/-- e.f -/
def oFld (cs : List Str) (f : Str) : R1 := fun x M Q => match asI M x with
  | some (C, ns, vs) => C ∈ cs ∧ (match fldD ns vs f with
    | some v => Q v M
    | none => False)
  | none => False
def putN : List Str → Str → List Str
  | [], f => [f]
  | n :: r, f => if n = f then n :: r else n :: putN r f
def putW {α : Type} : List Str → List α → Str → α → List α
  | n :: ns, v :: vs, f, y => if n = f then y :: vs else v :: putW ns vs f y
  | _, _, _, y => [y]
/-- o.f = e -/
@[simp] def sPutF (cs : List Str) (f : Str) (to tv : DE) : DEnds → Env → Mem → Prop := fun E ρ M => tv ρ M fun y M1 => to ρ M1 fun x M2 => match x with
  | .ref a => (match M2 a with
    | some (.ins C ns vs) => C ∈ cs ∧ ns.length < 1000 ∧ E.nx ρ (mset M2 a (.ins C (putN ns f) (putW ns vs f y)))
    | _ => False)
  | _ => False
/-- o.f += e, ints -/
@[simp] def sAugF (cs : List Str) (f : Str) (to tv : DE) : DEnds → Env → Mem → Prop := fun E ρ M => to ρ M fun x M1 => match x with
  | .ref a => (match M1 a with
    | some (.ins C ns vs) => C ∈ cs ∧ (match fldD ns vs f with
      | some (.int i) => tv ρ M1 fun y M2 => (match y with
        | .int j => (match M2 a with
          | some (.ins C' ns' vs') => C' = C ∧ ns'.length < 1000 ∧ E.nx ρ (mset M2 a (.ins C' (putN ns' f) (putW ns' vs' f (.int (i + j)))))
          | _ => False)
        | _ => False)
      | _ => False)
    | _ => False)
  | _ => False
/-- o.m(..) of an own class -/
@[simp] def dMethI (C m : Str) (sp : Spec) (to : DE) (t : DA) : DE := fun ρ M Q => to ρ M fun x M1 => (∃ ns vs, asI M1 x = some (C, ns, vs) ∧ fldD ns vs m = none) ∧ t ρ M1 fun xs M2 => sp.pre (x :: xs) M2 ∧ ∀ d M', sp.post (x :: xs) M2 d M' → Q d M'
/-- C(..): an instance of the memory -/
@[simp] def dMake (C : Str) (sp : Spec) (t : DA) : DE := fun ρ M Q => t ρ M fun xs M1 => ∀ p, M1 p = none → sp.pre (.ref p :: xs) (mset M1 p (.ins C [] [])) ∧ ∀ d M', sp.post (.ref p :: xs) (mset M1 p (.ins C [] [])) d M' → Q (.ref p) M'
/-- C(..): an instance that changes no more once it is made -/
@[simp] def dMakeF (C : Str) (sp : Spec) (t : DA) : DE := fun ρ M Q => t ρ M fun xs M1 => ∀ p, M1 p = none → sp.pre (.ref p :: xs) (mset M1 p (.ins C [] [])) ∧ ∀ d M', sp.post (.ref p :: xs) (mset M1 p (.ins C [] [])) d M' → Q d M'
/-! rows that are known to be plain, dicts of them -/
def oTupP : R1 := fun x M Q => match asL M x with
  | some xs => ∀ p, M p = none → Q (.ref p) (mset M p (.tupP xs))
  | none => False
@[simp] def iSeqP (t : DE) : DI := fun ρ M R => t ρ M fun x M1 => match x with
  | .ref p => (match M1 p with
    | some (.tupP xs) => R xs (mdel M1 p)
    | _ => False)
  | _ => False
def keysOf : List D → Option (List Key)
  | [] => some []
  | d :: r => match keyOf d, keysOf r with
    | some k, some ks => some (k :: ks)
    | _, _ => none
def pairsT : List D → Option (List (List Key) × List D)
  | [] => some ([], [])
  | .tup [.tup k, v] :: r => match keysOf k, pairsT r with
    | some ks, some (kss, vs) => some (ks :: kss, v :: vs)
    | _, _ => none
  | _ :: _ => none
def oDictP : R1
  | .ref p, M, Q => match M p with
    | some (.tupP xs) => (match pairsT xs with
      | some (ks, vs) => (ks.Nodup ∧ ks.length ≤ 100000) ∧ Q (.dT ks vs) (mdel M p)
      | none => False)
    | _ => False
  | _, _, _ => False
def valT : List (List Key) → List D → List Key → Option D
  | k :: ks, d :: ds, x => if k = x then some d else valT ks ds x
  | _, _, _ => none
/-- d.get(y, z) of a dict of rows -/
@[simp] def dGetT (td ty tz : DE) : DE := fun ρ M Q => td ρ M fun d M1 => match d with
  | .dT ks ds => ty ρ M1 fun y M2 => tz ρ M2 fun z M3 => (match y with
    | .tup k => (match keysOf k with
      | some kk => Q ((valT ks ds kk).getD z) M3
      | none => False)
    | _ => False)
  | _ => False
/-! dicts of the memory -/
@[simp] def dNewD : DE := fun _ M Q => ∀ p, M p = none → Q (.ref p) (mset M p (.dK [] []))
def asK (M : Mem) : D → Option (List Key × List D)
  | .dK ks vs => some (ks, vs)
  | .ref a => match M a with
    | some (.dK ks vs) => some (ks, vs)
    | _ => none
  | _ => none
/-- d[y] -/
def oIxD : R2 := fun x y M Q => match asK M x, keyOf y with
  | some (ks, vs), some k => (match valD ks vs k with
    | some v => Q v M
    | none => False)
  | _, _ => False
/-- y in d -/
def oInD : R2 := fun y x M Q => match asK M x, keyOf y with
  | some (ks, vs), some k => Q (.bl (valD ks vs k).isSome) M
  | _, _ => False
def oNotInD : R2 := fun y x M Q => match asK M x, keyOf y with
  | some (ks, vs), some k => Q (.bl (!(valD ks vs k).isSome)) M
  | _, _ => False
def oLenD : R1 := fun x M Q => match asK M x with
  | some (ks, _) => Q (.int ks.length) M
  | none => False
/-- d[y] = v, y new -/
@[simp] def sPutD (td ty tv : DE) : DEnds → Env → Mem → Prop := fun E ρ M => tv ρ M fun v M1 => td ρ M1 fun x M2 => ty ρ M2 fun y M3 => match x, keyOf y with
  | .ref a, some k => (match M3 a with
    | some (.dK ks vs) => k ∉ ks ∧ ks.length < 100000 ∧ E.nx ρ (mset M3 a (.dK (ks ++ [k]) (vs ++ [v])))
    | _ => False)
  | _, _ => False
/-- d.setdefault(y, z) -/
@[simp] def dSetd (td ty tz : DE) : DE := fun ρ M Q => td ρ M fun x M1 => (asK M1 x).isSome = true ∧ ty ρ M1 fun y M2 => tz ρ M2 fun z M3 => match x, keyOf y with
  | .ref a, some k => (match M3 a with
    | some (.dK ks vs) => ks.length < 100000 ∧ (match valD ks vs k with
      | some v => Q v M3
      | none => Q z (mset M3 a (.dK (ks ++ [k]) (vs ++ [z]))))
    | _ => False)
  | _, _ => False
/-- l.extend(a new list) -/
def mExtend : R2
  | .ref l, .lst ys, M, Q => match M l with
    | some (.lst xs) => xs.length + ys.length ≤ 100000 ∧ Q .non (mset M l (.lst (xs ++ ys)))
    | _ => False
  | _, _, _, _ => False
/-- a comprehension whose list may change later -/
@[simp] def dCompN (ti : DI) (g : DG) (tt : DT) (te : DE) (vs : List Nat) : DE := fun ρ M Q => dComp ti g tt te vs ρ M fun x M1 => match x with
  | .lst xs => ∀ p, M1 p = none → Q (.ref p) (mset M1 p (.lst xs))
  | _ => False
@[simp] def dYes : DT := fun _ M Q => Q true M

/-! ### targets -/
@[simp] def gName (i : Nat) : DG := fun v ρ M Q => Q (ρ.set i (some v)) M
@[simp] def gNil : DGs := fun vs ρ M Q => match vs with
  | [] => Q ρ M
  | _ => False
@[simp] def gCons (t : DG) (u : DGs) : DGs := fun vs ρ M Q => match vs with
  | v :: r => t v ρ M fun ρ' M' => u r ρ' M' Q
  | _ => False
@[simp] def gTup (t : DGs) : DG := fun v ρ M Q => match v with
  | .tup xs => t xs ρ M Q
  | _ => False
/-- a, b, .. = a list -/
@[simp] def gLst (t : DGs) : DG := fun v ρ M Q => match asL M v with
  | some xs => t xs ρ M Q
  | none => False
/-- l[i] = v -/
@[simp] def gSub (to ti : DE) : DG := fun v ρ M Q => to ρ M fun o M1 => ti ρ M1 fun i M2 => match o, i with
  | .ref l, .int k => (match M2 l with
    | some (.lst xs) => (match ixN xs.length k with
      | some j => Q ρ (mset M2 l (.lst (xs.set j v)))
      | none => False)
    | _ => False)
  | _, _ => False

/-! ### statements -/
@[simp] def sNext : DS := fun E ρ M => E.nx ρ M
@[simp] def sSeq (t u : DS) : DS := fun E ρ M => t { E with nx := u E } ρ M
@[simp] def sBreak : DS := fun E ρ M => E.bk ρ M
@[simp] def sCont : DS := fun E ρ M => E.ct ρ M
@[simp] def sExpr (te : DE) : DS := fun E ρ M => te ρ M fun _ M1 => E.nx ρ M1
@[simp] def sRet (te : DE) : DS := fun E ρ M => te ρ M E.rt
@[simp] def sRetN : DS := fun E _ M => E.rt .non M
@[simp] def sIf (c : DT) (t u : DS) : DS := fun E ρ M => c ρ M fun b M1 => if b = true then t E ρ M1 else u E ρ M1
@[simp] def sAsg (te : DE) (g : DG) : DS := fun E ρ M => te ρ M fun x M1 => g x ρ M1 E.nx
@[simp] def sAug (i : Nat) (te : DE) (r : R2) : DS := fun E ρ M => match ρ[i]? with
  | some (some x) => te ρ M fun y M1 => r x y M1 fun z M2 => E.nx (ρ.set i (some z)) M2
  | _ => False
@[simp] def sLoop (g : DG) (b : DS) : List D → DS
  | [] => fun E ρ M => E.nx ρ M
  | d :: r => fun E ρ M => g d ρ M fun ρ1 M1 => b { E with nx := sLoop g b r E, ct := sLoop g b r E, bk := E.nx } ρ1 M1
@[simp] def sFor (ti : DI) (g : DG) (b : DS) : DS := fun E ρ M => ti ρ M fun ds M1 => sLoop g b ds E ρ M1
def sWhileN (c : DT) (b : DS) : Nat → DS
  | 0 => fun _ _ _ => False
  | n + 1 => fun E ρ M => c ρ M fun k M1 => if k = true then b { E with nx := sWhileN c b n E, ct := sWhileN c b n E, bk := E.nx } ρ M1 else E.nx ρ M1
def sWhile (c : DT) (b : DS) : DS := fun E ρ M => ∃ n, sWhileN c b n E ρ M
def sNever : DS := fun _ _ _ => False
/-- the list of the memory in a slot changes no more from here on -/
def sFz (i : Nat) (t : DS) : DS := fun E ρ M => match ρ[i]? with
  | some (some (.ref p)) => (match M p with
    | some (.lst xs) => t E (ρ.set i (some (.lst xs))) (mdel M p)
    | _ => False)
  | _ => False

/-- the instance of the memory in a slot changes no more from here on -/
def sFzI (i : Nat) (t : DS) : DS := fun E ρ M => match ρ[i]? with
  | some (some (.ref p)) => (match M p with
    | some (.ins C ns vs) => t E (ρ.set i (some (.ins p C ns vs))) (mdel M p)
    | _ => False)
  | _ => False
/-- a def's start: its arguments, then its other names -/
@[simp] def start (n : Nat) (ds : List D) : Env := ds.map some ++ List.replicate (n - ds.length) none

/-- what a def hands back: lists of its own are forgotten; a list of the memory that is handed back may be one that never changes from then on -/
def Out (M' M'' : Mem) (d d' : D) : Prop := Sub M'' M' ∧ (d' = d ∨ ∃ p xs, d = .ref p ∧ M' p = some (.lst xs) ∧ M'' p = none ∧ d' = .lst xs)
def Ret (sp : Spec) (ds : List D) (M : Mem) : DK := fun d M' => ∃ d' M'', Out M' M'' d d' ∧ sp.post ds M d' M''
/-- the body's reading does what is promised -/
def Does (n : Nat) (t : DS) (k : Nat) (sp : Spec) : Prop := ∀ ds M, ds.length = k → sp.pre ds M → t { nx := fun _ M' => Ret sp ds M .non M', rt := Ret sp ds M } (start n ds) M
/-- __init__ of an instance that changes no more: at its end self is told -/
def DoesI (n : Nat) (t : DS) (k : Nat) (sp : Spec) : Prop := ∀ ds M, ds.length = k → sp.pre ds M → ∃ p r, ds = .ref p :: r ∧ t { nx := fun ρ M' => ∃ C ns vs M'', ρ[0]? = some (some (.ins p C ns vs)) ∧ Sub M'' M' ∧ sp.post ds M (.ins p C ns vs) M'', rt := fun _ _ => False } (start n ds) M
theorem Ret.same {sp : Spec} {ds : List D} {M M' M'' : Mem} {d : D} (s : Sub M'' M') (h : sp.post ds M d M'') : Ret sp ds M d M' := ⟨d, M'', ⟨s, .inl rfl⟩, h⟩
theorem Ret.now {sp : Spec} {ds : List D} {M M' : Mem} {d : D} (h : sp.post ds M d M') : Ret sp ds M d M' := ⟨d, M', ⟨Sub.refl _, .inl rfl⟩, h⟩
theorem Ret.fn {pre : List D → Prop} {f : List D → D} {ds : List D} {M M' : Mem} {d : D} (s : Sub M M') (h : d = f ds) : Ret (Spec.fn pre f) ds M d M' := .same s ⟨h, rfl⟩

/-! ### texts -/
theorem ofString_inj (a b : String) : (Str.ofString a = Str.ofString b) = (a = b) := by
  apply propext
  constructor
  · intro h
    rw [Str.ofString_eq_toList, Str.ofString_eq_toList] at h
    injection h with h
    have h2 : a.toList.map Char.toNat = b.toList.map Char.toNat := by
      have := congrArg Array.toList h
      simpa using this
    have inj : ∀ (l m : List Char), l.map Char.toNat = m.map Char.toNat → l = m := by
      intro l
      induction l with
      | nil => intro m h; cases m with
        | nil => rfl
        | cons _ _ => simp at h
      | cons c r ih => intro m h; cases m with
        | nil => simp at h
        | cons d s =>
          simp only [List.map_cons, List.cons.injEq] at h
          rw [ih s h.2]
          have hc : c = d := by
            apply Char.ext
            apply UInt32.toNat.inj
            exact h.1
          rw [hc]
    have h3 := inj _ _ h2
    exact String.toList_inj.mp h3
  · intro h; rw [h]
/-! ### what the operators say, case by case -/
def hasD (ys : List D) (x : D) : Bool := ys.any fun z => eqv z x
@[simp] theorem hasD_nil (x : D) : hasD [] x = false := rfl
@[simp] theorem hasD_cons (y : D) (ys : List D) (x : D) : hasD (y :: ys) x = (eqv y x || hasD ys x) := rfl
theorem beq_dec {α : Type} [DecidableEq α] (a b : α) : (a == b) = decide (a = b) := rfl
@[simp] theorem eqv_str (a b : Str) : eqv (.str a) (.str b) = decide (a = b) := by rw [eqv]; rfl
@[simp] theorem eqv_int (a b : Int) : eqv (.int a) (.int b) = decide (a = b) := by rw [eqv]; rfl
@[simp] theorem eqv_bl (a b : Bool) : eqv (.bl a) (.bl b) = decide (a = b) := by rw [eqv]; rfl
@[simp] theorem eqv_non : eqv .non .non = true := by rw [eqv]
@[simp] theorem eqv_tup (a b : List D) : eqv (.tup a) (.tup b) = eqvs a b := by rw [eqv]
@[simp] theorem eqv_lst (a b : List D) : eqv (.lst a) (.lst b) = eqvs a b := by rw [eqv]
@[simp] theorem hasD_str (acc : List Str) (x : Str) : hasD (acc.map D.str) (.str x) = decide (x ∈ acc) := by
  induction acc with
  | nil => simp
  | cons a r ih =>
    simp only [List.map_cons, hasD_cons, ih, eqv_str, List.mem_cons]
    by_cases h : a = x
    · subst h; simp
    · have h' : x ≠ a := fun e => h e.symm
      simp [h, h']
@[simp] theorem all_flat (acc : List Str) : (acc.map D.str).all flat = true := by
  induction acc with
  | nil => rfl
  | cons a r ih => rw [List.map_cons, List.all_cons, ih]; rfl
@[simp] theorem eqvs_nil : eqvs [] [] = true := by rw [eqvs]
@[simp] theorem eqvs_cons (x y : D) (xs ys : List D) : eqvs (x :: xs) (y :: ys) = (eqv x y && eqvs xs ys) := by rw [eqvs]
@[simp] theorem eqvs_nc (y : D) (ys : List D) : eqvs [] (y :: ys) = false := by rw [eqvs] <;> simp
@[simp] theorem eqvs_cn (y : D) (ys : List D) : eqvs (y :: ys) [] = false := by rw [eqvs] <;> simp
@[simp] theorem eqv_non_bl (b2 : Bool) : eqv .non (.bl b2) = false := by rw [eqv] <;> simp
@[simp] theorem eqv_non_int (i2 : Int) : eqv .non (.int i2) = false := by rw [eqv] <;> simp
@[simp] theorem eqv_non_str (s2 : Str) : eqv .non (.str s2) = false := by rw [eqv] <;> simp
@[simp] theorem eqv_non_tup (a2 : List D) : eqv .non (.tup a2) = false := by rw [eqv] <;> simp
@[simp] theorem eqv_non_lst (l2 : List D) : eqv .non (.lst l2) = false := by rw [eqv] <;> simp
@[simp] theorem eqv_bl_non (b1 : Bool) : eqv (.bl b1) .non = false := by rw [eqv] <;> simp
@[simp] theorem eqv_bl_str (b1 : Bool) (s2 : Str) : eqv (.bl b1) (.str s2) = false := by rw [eqv] <;> simp
@[simp] theorem eqv_bl_tup (b1 : Bool) (a2 : List D) : eqv (.bl b1) (.tup a2) = false := by rw [eqv] <;> simp
@[simp] theorem eqv_bl_lst (b1 : Bool) (l2 : List D) : eqv (.bl b1) (.lst l2) = false := by rw [eqv] <;> simp
@[simp] theorem eqv_int_non (i1 : Int) : eqv (.int i1) .non = false := by rw [eqv] <;> simp
@[simp] theorem eqv_int_str (i1 : Int) (s2 : Str) : eqv (.int i1) (.str s2) = false := by rw [eqv] <;> simp
@[simp] theorem eqv_int_tup (i1 : Int) (a2 : List D) : eqv (.int i1) (.tup a2) = false := by rw [eqv] <;> simp
@[simp] theorem eqv_int_lst (i1 : Int) (l2 : List D) : eqv (.int i1) (.lst l2) = false := by rw [eqv] <;> simp
@[simp] theorem eqv_str_non (s1 : Str) : eqv (.str s1) .non = false := by rw [eqv] <;> simp
@[simp] theorem eqv_str_bl (s1 : Str) (b2 : Bool) : eqv (.str s1) (.bl b2) = false := by rw [eqv] <;> simp
@[simp] theorem eqv_str_int (s1 : Str) (i2 : Int) : eqv (.str s1) (.int i2) = false := by rw [eqv] <;> simp
@[simp] theorem eqv_str_tup (s1 : Str) (a2 : List D) : eqv (.str s1) (.tup a2) = false := by rw [eqv] <;> simp
@[simp] theorem eqv_str_lst (s1 : Str) (l2 : List D) : eqv (.str s1) (.lst l2) = false := by rw [eqv] <;> simp
@[simp] theorem eqv_tup_non (a1 : List D) : eqv (.tup a1) .non = false := by rw [eqv] <;> simp
@[simp] theorem eqv_tup_bl (a1 : List D) (b2 : Bool) : eqv (.tup a1) (.bl b2) = false := by rw [eqv] <;> simp
@[simp] theorem eqv_tup_int (a1 : List D) (i2 : Int) : eqv (.tup a1) (.int i2) = false := by rw [eqv] <;> simp
@[simp] theorem eqv_tup_str (a1 : List D) (s2 : Str) : eqv (.tup a1) (.str s2) = false := by rw [eqv] <;> simp
@[simp] theorem eqv_tup_lst (a1 : List D) (l2 : List D) : eqv (.tup a1) (.lst l2) = false := by rw [eqv] <;> simp
@[simp] theorem eqv_lst_non (l1 : List D) : eqv (.lst l1) .non = false := by rw [eqv] <;> simp
@[simp] theorem eqv_lst_bl (l1 : List D) (b2 : Bool) : eqv (.lst l1) (.bl b2) = false := by rw [eqv] <;> simp
@[simp] theorem eqv_lst_int (l1 : List D) (i2 : Int) : eqv (.lst l1) (.int i2) = false := by rw [eqv] <;> simp
@[simp] theorem eqv_lst_str (l1 : List D) (s2 : Str) : eqv (.lst l1) (.str s2) = false := by rw [eqv] <;> simp
@[simp] theorem eqv_lst_tup (l1 : List D) (a2 : List D) : eqv (.lst l1) (.tup a2) = false := by rw [eqv] <;> simp
section
variable (M : Mem) (Q : DK) (B : BK)
@[simp] theorem asL_lst (xs : List D) : asL M (.lst xs) = some xs := rfl
@[simp] theorem asL_rol (xs : List D) : asL M (.rol xs) = some xs := rfl
@[simp] theorem asL_ref (a : Addr) : asL M (.ref a) = (match M a with | some (.lst xs) => some xs | _ => none) := rfl
@[simp] theorem asL_tup (xs : List D) : asL M (.tup xs) = none := rfl
@[simp] theorem asL_str (x : Str) : asL M (.str x) = none := rfl
@[simp] theorem asW_lst (xs : List D) : asW M (.lst xs) = some xs := rfl
@[simp] theorem asW_ref (a : Addr) : asW M (.ref a) = (match M a with | some (.lst xs) => some xs | _ => none) := rfl
@[simp] theorem asS_tup (xs : List D) : asS M (.tup xs) = some xs := rfl
@[simp] theorem asS_lst (xs : List D) : asS M (.lst xs) = some xs := rfl
@[simp] theorem asS_rol (xs : List D) : asS M (.rol xs) = some xs := rfl
@[simp] theorem asS_ref (a : Addr) : asS M (.ref a) = (match M a with | some (.lst xs) => some xs | _ => none) := rfl
@[simp] theorem oAdd_int (i j : Int) : oAdd (.int i) (.int j) M Q = Q (.int (i + j)) M := rfl
@[simp] theorem oAdd_str (a b : Str) : oAdd (.str a) (.str b) M Q = (a.length + b.length ≤ 100000 ∧ Q (.str (a ++ b)) M) := rfl
@[simp] theorem oAdd_tup (a b : List D) : oAdd (.tup a) (.tup b) M Q = (a.length + b.length ≤ 100000 ∧ Q (.tup (a ++ b)) M) := rfl
@[simp] theorem oAdd_ll (a b : List D) : oAdd (.lst a) (.lst b) M Q = (a.length + b.length ≤ 100000 ∧ Q (.lst (a ++ b)) M) := rfl
@[simp] theorem oAdd_rl (p : Addr) (b : List D) : oAdd (.ref p) (.lst b) M Q = (match M p with | some (.lst a) => a.length + b.length ≤ 100000 ∧ Q (.lst (a ++ b)) M | _ => False) := by
  simp only [oAdd, asW]
  cases M p with
  | none => rfl
  | some o => cases o <;> rfl
@[simp] theorem oAdd_lr (p : Addr) (a : List D) : oAdd (.lst a) (.ref p) M Q = (match M p with | some (.lst b) => a.length + b.length ≤ 100000 ∧ Q (.lst (a ++ b)) M | _ => False) := by
  simp only [oAdd, asW]
  cases M p with
  | none => rfl
  | some o => cases o <;> rfl
@[simp] theorem oSub_int (i j : Int) : oSub (.int i) (.int j) M Q = Q (.int (i - j)) M := rfl
@[simp] theorem oMul_int (i j : Int) : oMul (.int i) (.int j) M Q = ((small i ∨ small j) ∧ Q (.int (i * j)) M) := rfl
@[simp] theorem oFdiv_int (i j : Int) : oFdiv (.int i) (.int j) M Q = ((0 < j ∧ j < 2 ^ 200) ∧ Q (.int (i / j)) M) := rfl
@[simp] theorem oMod_int (i j : Int) : oMod (.int i) (.int j) M Q = (0 < j ∧ Q (.int (i % j)) M) := rfl
@[simp] theorem oMul_str (x : Str) (k : Int) : oMul (.str x) (.int k) M Q = ((0 ≤ k ∧ k ≤ 1000 ∧ 1 ≤ x.length ∧ x.length ≤ 100) ∧ Q (.str (repS k.toNat x)) M) := rfl
@[simp] theorem oMul_lst (xs : List D) (k : Int) : oMul (.lst xs) (.int k) M Q = ((0 ≤ k ∧ k ≤ 1000 ∧ xs.length ≤ 100) ∧ Q (.lst (List.replicate k.toNat xs).flatten) M) := rfl
@[simp] theorem oCatN_ll (a b : List D) : oCatN (.lst a) (.lst b) M Q = (a.length + b.length ≤ 100000 ∧ ∀ p, M p = none → Q (.ref p) (mset M p (.lst (a ++ b)))) := rfl
@[simp] theorem oAddI_int (i j : Int) : oAddI (.int i) (.int j) M Q = Q (.int (i + j)) M := rfl
@[simp] theorem oMax_int (i j : Int) : oMax (.int i) (.int j) M Q = Q (.int (if j > i then j else i)) M := rfl
@[simp] theorem oRep_str (x : Str) (k : Int) : oRep (.str x) (.int k) M Q = ((1 ≤ k ∧ k ≤ 1000 ∧ 1 ≤ x.length ∧ x.length ≤ 100) ∧ Q (.str (repS k.toNat x)) M) := rfl
@[simp] theorem oPow_int (i j : Int) : oPow (.int i) (.int j) M Q = ((0 ≤ j ∧ j ≤ 1000000 ∧ i.natAbs < 2 ^ 64) ∧ Q (.int (i ^ j.toNat)) M) := rfl
@[simp] theorem oNeg_int (i : Int) : oNeg (.int i) M Q = Q (.int (-i)) M := rfl
@[simp] theorem oLt_int (i j : Int) : oLt (.int i) (.int j) M Q = Q (.bl (decide (i < j))) M := rfl
@[simp] theorem oLe_int (i j : Int) : oLe (.int i) (.int j) M Q = Q (.bl (decide (i ≤ j))) M := rfl
@[simp] theorem oGt_int (i j : Int) : oGt (.int i) (.int j) M Q = Q (.bl (decide (j < i))) M := rfl
@[simp] theorem oGe_int (i j : Int) : oGe (.int i) (.int j) M Q = Q (.bl (decide (j ≤ i))) M := rfl
@[simp] theorem eqB_str (a b : Str) : eqB (.str a) (.str b) M B = B (decide (a = b)) M := rfl
@[simp] theorem eqB_int (a b : Int) : eqB (.int a) (.int b) M B = B (decide (a = b)) M := rfl
@[simp] theorem eqB_bl (a b : Bool) : eqB (.bl a) (.bl b) M B = B (decide (a = b)) M := rfl
@[simp] theorem asC_tup (xs : List D) : asC M (.tup xs) = .tup xs := rfl
@[simp] theorem asC_lst (xs : List D) : asC M (.lst xs) = .lst xs := rfl
@[simp] theorem asC_str (x : Str) : asC M (.str x) = .str x := rfl
@[simp] theorem asC_int (x : Int) : asC M (.int x) = .int x := rfl
@[simp] theorem asC_bl (x : Bool) : asC M (.bl x) = .bl x := rfl
@[simp] theorem asC_non : asC M .non = .non := rfl
@[simp] theorem asC_ref (a : Addr) : asC M (.ref a) = (match M a with | some (.lst xs) => .lst xs | _ => .ref a) := rfl
@[simp] theorem eqB_non_non : eqB .non .non M B = (cmpOk (asC M .non) = true ∧ cmpOk (asC M .non) = true ∧ B (eqv (asC M .non) (asC M .non)) M) := rfl
@[simp] theorem eqB_non_bl (b2 : Bool) : eqB .non (.bl b2) M B = (cmpOk (asC M .non) = true ∧ cmpOk (asC M (.bl b2)) = true ∧ B (eqv (asC M .non) (asC M (.bl b2))) M) := rfl
@[simp] theorem eqB_non_int (i2 : Int) : eqB .non (.int i2) M B = (cmpOk (asC M .non) = true ∧ cmpOk (asC M (.int i2)) = true ∧ B (eqv (asC M .non) (asC M (.int i2))) M) := rfl
@[simp] theorem eqB_non_str (s2 : Str) : eqB .non (.str s2) M B = (cmpOk (asC M .non) = true ∧ cmpOk (asC M (.str s2)) = true ∧ B (eqv (asC M .non) (asC M (.str s2))) M) := rfl
@[simp] theorem eqB_non_tup (a2 : List D) : eqB .non (.tup a2) M B = (cmpOk (asC M .non) = true ∧ cmpOk (asC M (.tup a2)) = true ∧ B (eqv (asC M .non) (asC M (.tup a2))) M) := rfl
@[simp] theorem eqB_non_lst (l2 : List D) : eqB .non (.lst l2) M B = (cmpOk (asC M .non) = true ∧ cmpOk (asC M (.lst l2)) = true ∧ B (eqv (asC M .non) (asC M (.lst l2))) M) := rfl
@[simp] theorem eqB_non_ref (p2 : Addr) : eqB .non (.ref p2) M B = (cmpOk (asC M .non) = true ∧ cmpOk (asC M (.ref p2)) = true ∧ B (eqv (asC M .non) (asC M (.ref p2))) M) := rfl
@[simp] theorem eqB_bl_non (b1 : Bool) : eqB (.bl b1) .non M B = (cmpOk (asC M (.bl b1)) = true ∧ cmpOk (asC M .non) = true ∧ B (eqv (asC M (.bl b1)) (asC M .non)) M) := rfl
@[simp] theorem eqB_bl_int (b1 : Bool) (i2 : Int) : eqB (.bl b1) (.int i2) M B = (cmpOk (asC M (.bl b1)) = true ∧ cmpOk (asC M (.int i2)) = true ∧ B (eqv (asC M (.bl b1)) (asC M (.int i2))) M) := rfl
@[simp] theorem eqB_bl_str (b1 : Bool) (s2 : Str) : eqB (.bl b1) (.str s2) M B = (cmpOk (asC M (.bl b1)) = true ∧ cmpOk (asC M (.str s2)) = true ∧ B (eqv (asC M (.bl b1)) (asC M (.str s2))) M) := rfl
@[simp] theorem eqB_bl_tup (b1 : Bool) (a2 : List D) : eqB (.bl b1) (.tup a2) M B = (cmpOk (asC M (.bl b1)) = true ∧ cmpOk (asC M (.tup a2)) = true ∧ B (eqv (asC M (.bl b1)) (asC M (.tup a2))) M) := rfl
@[simp] theorem eqB_bl_lst (b1 : Bool) (l2 : List D) : eqB (.bl b1) (.lst l2) M B = (cmpOk (asC M (.bl b1)) = true ∧ cmpOk (asC M (.lst l2)) = true ∧ B (eqv (asC M (.bl b1)) (asC M (.lst l2))) M) := rfl
@[simp] theorem eqB_bl_ref (b1 : Bool) (p2 : Addr) : eqB (.bl b1) (.ref p2) M B = (cmpOk (asC M (.bl b1)) = true ∧ cmpOk (asC M (.ref p2)) = true ∧ B (eqv (asC M (.bl b1)) (asC M (.ref p2))) M) := rfl
@[simp] theorem eqB_int_non (i1 : Int) : eqB (.int i1) .non M B = (cmpOk (asC M (.int i1)) = true ∧ cmpOk (asC M .non) = true ∧ B (eqv (asC M (.int i1)) (asC M .non)) M) := rfl
@[simp] theorem eqB_int_bl (i1 : Int) (b2 : Bool) : eqB (.int i1) (.bl b2) M B = (cmpOk (asC M (.int i1)) = true ∧ cmpOk (asC M (.bl b2)) = true ∧ B (eqv (asC M (.int i1)) (asC M (.bl b2))) M) := rfl
@[simp] theorem eqB_int_str (i1 : Int) (s2 : Str) : eqB (.int i1) (.str s2) M B = (cmpOk (asC M (.int i1)) = true ∧ cmpOk (asC M (.str s2)) = true ∧ B (eqv (asC M (.int i1)) (asC M (.str s2))) M) := rfl
@[simp] theorem eqB_int_tup (i1 : Int) (a2 : List D) : eqB (.int i1) (.tup a2) M B = (cmpOk (asC M (.int i1)) = true ∧ cmpOk (asC M (.tup a2)) = true ∧ B (eqv (asC M (.int i1)) (asC M (.tup a2))) M) := rfl
@[simp] theorem eqB_int_lst (i1 : Int) (l2 : List D) : eqB (.int i1) (.lst l2) M B = (cmpOk (asC M (.int i1)) = true ∧ cmpOk (asC M (.lst l2)) = true ∧ B (eqv (asC M (.int i1)) (asC M (.lst l2))) M) := rfl
@[simp] theorem eqB_int_ref (i1 : Int) (p2 : Addr) : eqB (.int i1) (.ref p2) M B = (cmpOk (asC M (.int i1)) = true ∧ cmpOk (asC M (.ref p2)) = true ∧ B (eqv (asC M (.int i1)) (asC M (.ref p2))) M) := rfl
@[simp] theorem eqB_str_non (s1 : Str) : eqB (.str s1) .non M B = (cmpOk (asC M (.str s1)) = true ∧ cmpOk (asC M .non) = true ∧ B (eqv (asC M (.str s1)) (asC M .non)) M) := rfl
@[simp] theorem eqB_str_bl (s1 : Str) (b2 : Bool) : eqB (.str s1) (.bl b2) M B = (cmpOk (asC M (.str s1)) = true ∧ cmpOk (asC M (.bl b2)) = true ∧ B (eqv (asC M (.str s1)) (asC M (.bl b2))) M) := rfl
@[simp] theorem eqB_str_int (s1 : Str) (i2 : Int) : eqB (.str s1) (.int i2) M B = (cmpOk (asC M (.str s1)) = true ∧ cmpOk (asC M (.int i2)) = true ∧ B (eqv (asC M (.str s1)) (asC M (.int i2))) M) := rfl
@[simp] theorem eqB_str_tup (s1 : Str) (a2 : List D) : eqB (.str s1) (.tup a2) M B = (cmpOk (asC M (.str s1)) = true ∧ cmpOk (asC M (.tup a2)) = true ∧ B (eqv (asC M (.str s1)) (asC M (.tup a2))) M) := rfl
@[simp] theorem eqB_str_lst (s1 : Str) (l2 : List D) : eqB (.str s1) (.lst l2) M B = (cmpOk (asC M (.str s1)) = true ∧ cmpOk (asC M (.lst l2)) = true ∧ B (eqv (asC M (.str s1)) (asC M (.lst l2))) M) := rfl
@[simp] theorem eqB_str_ref (s1 : Str) (p2 : Addr) : eqB (.str s1) (.ref p2) M B = (cmpOk (asC M (.str s1)) = true ∧ cmpOk (asC M (.ref p2)) = true ∧ B (eqv (asC M (.str s1)) (asC M (.ref p2))) M) := rfl
@[simp] theorem eqB_tup_non (a1 : List D) : eqB (.tup a1) .non M B = (cmpOk (asC M (.tup a1)) = true ∧ cmpOk (asC M .non) = true ∧ B (eqv (asC M (.tup a1)) (asC M .non)) M) := rfl
@[simp] theorem eqB_tup_bl (a1 : List D) (b2 : Bool) : eqB (.tup a1) (.bl b2) M B = (cmpOk (asC M (.tup a1)) = true ∧ cmpOk (asC M (.bl b2)) = true ∧ B (eqv (asC M (.tup a1)) (asC M (.bl b2))) M) := rfl
@[simp] theorem eqB_tup_int (a1 : List D) (i2 : Int) : eqB (.tup a1) (.int i2) M B = (cmpOk (asC M (.tup a1)) = true ∧ cmpOk (asC M (.int i2)) = true ∧ B (eqv (asC M (.tup a1)) (asC M (.int i2))) M) := rfl
@[simp] theorem eqB_tup_str (a1 : List D) (s2 : Str) : eqB (.tup a1) (.str s2) M B = (cmpOk (asC M (.tup a1)) = true ∧ cmpOk (asC M (.str s2)) = true ∧ B (eqv (asC M (.tup a1)) (asC M (.str s2))) M) := rfl
@[simp] theorem eqB_tup_tup (a1 : List D) (a2 : List D) : eqB (.tup a1) (.tup a2) M B = (cmpOk (asC M (.tup a1)) = true ∧ cmpOk (asC M (.tup a2)) = true ∧ B (eqv (asC M (.tup a1)) (asC M (.tup a2))) M) := rfl
@[simp] theorem eqB_tup_lst (a1 : List D) (l2 : List D) : eqB (.tup a1) (.lst l2) M B = (cmpOk (asC M (.tup a1)) = true ∧ cmpOk (asC M (.lst l2)) = true ∧ B (eqv (asC M (.tup a1)) (asC M (.lst l2))) M) := rfl
@[simp] theorem eqB_tup_ref (a1 : List D) (p2 : Addr) : eqB (.tup a1) (.ref p2) M B = (cmpOk (asC M (.tup a1)) = true ∧ cmpOk (asC M (.ref p2)) = true ∧ B (eqv (asC M (.tup a1)) (asC M (.ref p2))) M) := rfl
@[simp] theorem eqB_lst_non (l1 : List D) : eqB (.lst l1) .non M B = (cmpOk (asC M (.lst l1)) = true ∧ cmpOk (asC M .non) = true ∧ B (eqv (asC M (.lst l1)) (asC M .non)) M) := rfl
@[simp] theorem eqB_lst_bl (l1 : List D) (b2 : Bool) : eqB (.lst l1) (.bl b2) M B = (cmpOk (asC M (.lst l1)) = true ∧ cmpOk (asC M (.bl b2)) = true ∧ B (eqv (asC M (.lst l1)) (asC M (.bl b2))) M) := rfl
@[simp] theorem eqB_lst_int (l1 : List D) (i2 : Int) : eqB (.lst l1) (.int i2) M B = (cmpOk (asC M (.lst l1)) = true ∧ cmpOk (asC M (.int i2)) = true ∧ B (eqv (asC M (.lst l1)) (asC M (.int i2))) M) := rfl
@[simp] theorem eqB_lst_str (l1 : List D) (s2 : Str) : eqB (.lst l1) (.str s2) M B = (cmpOk (asC M (.lst l1)) = true ∧ cmpOk (asC M (.str s2)) = true ∧ B (eqv (asC M (.lst l1)) (asC M (.str s2))) M) := rfl
@[simp] theorem eqB_lst_tup (l1 : List D) (a2 : List D) : eqB (.lst l1) (.tup a2) M B = (cmpOk (asC M (.lst l1)) = true ∧ cmpOk (asC M (.tup a2)) = true ∧ B (eqv (asC M (.lst l1)) (asC M (.tup a2))) M) := rfl
@[simp] theorem eqB_lst_lst (l1 : List D) (l2 : List D) : eqB (.lst l1) (.lst l2) M B = (cmpOk (asC M (.lst l1)) = true ∧ cmpOk (asC M (.lst l2)) = true ∧ B (eqv (asC M (.lst l1)) (asC M (.lst l2))) M) := rfl
@[simp] theorem eqB_lst_ref (l1 : List D) (p2 : Addr) : eqB (.lst l1) (.ref p2) M B = (cmpOk (asC M (.lst l1)) = true ∧ cmpOk (asC M (.ref p2)) = true ∧ B (eqv (asC M (.lst l1)) (asC M (.ref p2))) M) := rfl
@[simp] theorem eqB_ref_non (p1 : Addr) : eqB (.ref p1) .non M B = (cmpOk (asC M (.ref p1)) = true ∧ cmpOk (asC M .non) = true ∧ B (eqv (asC M (.ref p1)) (asC M .non)) M) := rfl
@[simp] theorem eqB_ref_bl (p1 : Addr) (b2 : Bool) : eqB (.ref p1) (.bl b2) M B = (cmpOk (asC M (.ref p1)) = true ∧ cmpOk (asC M (.bl b2)) = true ∧ B (eqv (asC M (.ref p1)) (asC M (.bl b2))) M) := rfl
@[simp] theorem eqB_ref_int (p1 : Addr) (i2 : Int) : eqB (.ref p1) (.int i2) M B = (cmpOk (asC M (.ref p1)) = true ∧ cmpOk (asC M (.int i2)) = true ∧ B (eqv (asC M (.ref p1)) (asC M (.int i2))) M) := rfl
@[simp] theorem eqB_ref_str (p1 : Addr) (s2 : Str) : eqB (.ref p1) (.str s2) M B = (cmpOk (asC M (.ref p1)) = true ∧ cmpOk (asC M (.str s2)) = true ∧ B (eqv (asC M (.ref p1)) (asC M (.str s2))) M) := rfl
@[simp] theorem eqB_ref_tup (p1 : Addr) (a2 : List D) : eqB (.ref p1) (.tup a2) M B = (cmpOk (asC M (.ref p1)) = true ∧ cmpOk (asC M (.tup a2)) = true ∧ B (eqv (asC M (.ref p1)) (asC M (.tup a2))) M) := rfl
@[simp] theorem eqB_ref_lst (p1 : Addr) (l2 : List D) : eqB (.ref p1) (.lst l2) M B = (cmpOk (asC M (.ref p1)) = true ∧ cmpOk (asC M (.lst l2)) = true ∧ B (eqv (asC M (.ref p1)) (asC M (.lst l2))) M) := rfl
@[simp] theorem eqB_ref_ref (p1 : Addr) (p2 : Addr) : eqB (.ref p1) (.ref p2) M B = (cmpOk (asC M (.ref p1)) = true ∧ cmpOk (asC M (.ref p2)) = true ∧ B (eqv (asC M (.ref p1)) (asC M (.ref p2))) M) := rfl
@[simp] theorem oIsN_non : oIsN .non M Q = Q (.bl true) M := rfl
@[simp] theorem oNotN_non : oNotN .non M Q = Q (.bl false) M := rfl
@[simp] theorem oIsN_bl (b1 : Bool) : oIsN (.bl b1) M Q = Q (.bl false) M := rfl
@[simp] theorem oNotN_bl (b1 : Bool) : oNotN (.bl b1) M Q = Q (.bl true) M := rfl
@[simp] theorem oIsN_int (i1 : Int) : oIsN (.int i1) M Q = Q (.bl false) M := rfl
@[simp] theorem oNotN_int (i1 : Int) : oNotN (.int i1) M Q = Q (.bl true) M := rfl
@[simp] theorem oIsN_str (s1 : Str) : oIsN (.str s1) M Q = Q (.bl false) M := rfl
@[simp] theorem oNotN_str (s1 : Str) : oNotN (.str s1) M Q = Q (.bl true) M := rfl
@[simp] theorem oIsN_tup (a1 : List D) : oIsN (.tup a1) M Q = Q (.bl false) M := rfl
@[simp] theorem oNotN_tup (a1 : List D) : oNotN (.tup a1) M Q = Q (.bl true) M := rfl
@[simp] theorem oIsN_lst (l1 : List D) : oIsN (.lst l1) M Q = Q (.bl false) M := rfl
@[simp] theorem oNotN_lst (l1 : List D) : oNotN (.lst l1) M Q = Q (.bl true) M := rfl
@[simp] theorem oIsN_ref (p1 : Addr) : oIsN (.ref p1) M Q = Q (.bl false) M := rfl
@[simp] theorem oNotN_ref (p1 : Addr) : oNotN (.ref p1) M Q = Q (.bl true) M := rfl
@[simp] theorem oIsN_rol (r1 : List D) : oIsN (.rol r1) M Q = Q (.bl false) M := rfl
@[simp] theorem oNotN_rol (r1 : List D) : oNotN (.rol r1) M Q = Q (.bl true) M := rfl
@[simp] theorem oIsN_dK (ks : List Key) (vs : List D) : oIsN (.dK ks vs) M Q = Q (.bl false) M := rfl
@[simp] theorem oNotN_dK (ks : List Key) (vs : List D) : oNotN (.dK ks vs) M Q = Q (.bl true) M := rfl
@[simp] theorem oIsN_dT (ks : List (List Key)) (vs : List D) : oIsN (.dT ks vs) M Q = Q (.bl false) M := rfl
@[simp] theorem oNotN_dT (ks : List (List Key)) (vs : List D) : oNotN (.dT ks vs) M Q = Q (.bl true) M := rfl
@[simp] theorem oIsN_ins (a : Addr) (C : Str) (ns : List Str) (vs : List D) : oIsN (.ins a C ns vs) M Q = Q (.bl false) M := rfl
@[simp] theorem oNotN_ins (a : Addr) (C : Str) (ns : List Str) (vs : List D) : oNotN (.ins a C ns vs) M Q = Q (.bl true) M := rfl
@[simp] theorem inB_str (a b : Str) : inB (.str a) (.str b) M B = (∃ c, a = ⟨#[c]⟩ ∧ B (decide (c ∈ b.cps.toList)) M) := rfl
@[simp] theorem inB_tup (x : D) (ys : List D) : inB x (.tup ys) M B = (flat x = true ∧ ys.all flat = true ∧ B (hasD ys x) M) := by cases x <;> rfl
@[simp] theorem inB_lst (x : D) (ys : List D) : inB x (.lst ys) M B = (flat x = true ∧ ys.all flat = true ∧ B (hasD ys x) M) := by cases x <;> rfl
@[simp] theorem inB_rol (x : D) (ys : List D) : inB x (.rol ys) M B = (flat x = true ∧ ys.all flat = true ∧ B (hasD ys x) M) := by cases x <;> rfl
@[simp] theorem inB_ref (x : D) (a : Addr) : inB x (.ref a) M B = (match M a with | some (.lst ys) => flat x = true ∧ ys.all flat = true ∧ B (hasD ys x) M | _ => False) := by
  cases x <;> (simp only [inB, asS, asL]; cases M a with
    | none => rfl
    | some o => cases o <;> rfl)
@[simp] theorem oIx_str (s : Str) (i : Int) : oIx (.str s) (.int i) M Q = (s.length ≤ 100000 ∧ (match atI s.cps.toList i with | some c => Q (.str ⟨#[c]⟩) M | none => False)) := rfl
@[simp] theorem oIx_tup (xs : List D) (i : Int) : oIx (.tup xs) (.int i) M Q = (match atI xs i with | some v => Q v M | none => False) := rfl
@[simp] theorem oIx_lst (xs : List D) (i : Int) : oIx (.lst xs) (.int i) M Q = (match atI xs i with | some v => Q v M | none => False) := rfl
@[simp] theorem oIx_rol (xs : List D) (i : Int) : oIx (.rol xs) (.int i) M Q = (match atI xs i with | some v => Q v M | none => False) := rfl
@[simp] theorem oIx_ref (a : Addr) (i : Int) : oIx (.ref a) (.int i) M Q = (match M a with | some (.lst xs) => (match atI xs i with | some v => Q v M | none => False) | _ => False) := by
  simp only [oIx, asS, asL]
  cases M a with
  | none => rfl
  | some o => cases o <;> rfl
@[simp] theorem oLen_str (s : Str) : oLen (.str s) M Q = (s.length ≤ 100000 ∧ Q (.int s.length) M) := rfl
@[simp] theorem oLen_tup (xs : List D) : oLen (.tup xs) M Q = Q (.int xs.length) M := rfl
@[simp] theorem oLen_lst (xs : List D) : oLen (.lst xs) M Q = Q (.int xs.length) M := rfl
@[simp] theorem oLen_rol (xs : List D) : oLen (.rol xs) M Q = Q (.int xs.length) M := rfl
@[simp] theorem oLen_ref (a : Addr) : oLen (.ref a) M Q = (match M a with | some (.lst xs) => Q (.int xs.length) M | _ => False) := by
  simp only [oLen, asS, asL]
  cases M a with
  | none => rfl
  | some o => cases o <;> rfl
@[simp] theorem oCut_str (s : Str) (lo hi : Option Int) : oCut (.str s) lo hi M Q = (s.length ≤ 100000 ∧ Q (.str ⟨(cut s.cps.toList lo hi).toArray⟩) M) := rfl
@[simp] theorem oCut_tup (xs : List D) (lo hi : Option Int) : oCut (.tup xs) lo hi M Q = Q (.tup (cut xs lo hi)) M := rfl
@[simp] theorem oCut_lst (xs : List D) (lo hi : Option Int) : oCut (.lst xs) lo hi M Q = Q (.lst (cut xs lo hi)) M := rfl
@[simp] theorem oCut_rol (xs : List D) (lo hi : Option Int) : oCut (.rol xs) lo hi M Q = Q (.lst (cut xs lo hi)) M := rfl
@[simp] theorem oCut_ref (a : Addr) (lo hi : Option Int) : oCut (.ref a) lo hi M Q = (match M a with | some (.lst xs) => Q (.lst (cut xs lo hi)) M | _ => False) := by
  simp only [oCut, asL]
  cases M a with
  | none => rfl
  | some o => cases o <;> rfl
@[simp] theorem oAbs_int (i : Int) : oAbs (.int i) M Q = Q (.int (if i < 0 then -i else i)) M := rfl
@[simp] theorem oInt_int (i : Int) : oInt (.int i) M Q = Q (.int i) M := rfl
@[simp] theorem oInt_bl (b : Bool) : oInt (.bl b) M Q = Q (.int (if b then 1 else 0)) M := rfl
@[simp] theorem oStr_int (i : Int) : oStr (.int i) M Q = (i.natAbs < 2 ^ 200 ∧ Q (.str (toString i)) M) := rfl
@[simp] theorem oTuple_tup (xs : List D) : oTuple (.tup xs) M Q = Q (.tup xs) M := rfl
@[simp] theorem oTuple_lst (xs : List D) : oTuple (.lst xs) M Q = Q (.tup xs) M := rfl
@[simp] theorem oTuple_rol (xs : List D) : oTuple (.rol xs) M Q = Q (.tup xs) M := rfl
@[simp] theorem oTuple_ref (a : Addr) : oTuple (.ref a) M Q = (match M a with | some (.lst xs) => Q (.tup xs) M | _ => False) := by
  simp only [oTuple, asL]
  cases M a with
  | none => rfl
  | some o => cases o <;> rfl
@[simp] theorem oList_tup (xs : List D) : oList (.tup xs) M Q = Q (.lst xs) M := rfl
@[simp] theorem oList_lst (xs : List D) : oList (.lst xs) M Q = Q (.lst xs) M := rfl
@[simp] theorem oList_rol (xs : List D) : oList (.rol xs) M Q = Q (.lst xs) M := rfl
@[simp] theorem oList_ref (a : Addr) : oList (.ref a) M Q = (match M a with | some (.lst xs) => Q (.lst xs) M | _ => False) := by
  simp only [oList, asS, asL]
  cases M a with
  | none => rfl
  | some o => cases o <;> rfl
@[simp] theorem oAll_lst (xs : List D) : oAll (.lst xs) M Q = (match dBools xs with | some bs => Q (.bl (bs.all id)) M | none => False) := rfl
@[simp] theorem oAny_lst (xs : List D) : oAny (.lst xs) M Q = (match dBools xs with | some bs => Q (.bl (bs.any id)) M | none => False) := rfl
@[simp] theorem oSum_lst (xs : List D) : oSum (.lst xs) M Q = (match dInts xs with | some bs => Q (.int bs.sum) M | none => False) := rfl
@[simp] theorem mAppend_ref (l : Addr) (x : D) : mAppend (.ref l) x M Q = (match M l with | some (.lst xs) => xs.length < 100000 ∧ Q .non (mset M l (.lst (xs ++ [x]))) | _ => False) := rfl
@[simp] theorem mPop_ref (l : Addr) : mPop (.ref l) M Q = (match M l with | some (.lst xs) => (match xs[xs.length - 1]? with | some y => Q y (mset M l (.lst xs.dropLast)) | none => False) | _ => False) := rfl
@[simp] theorem mPopAt_ref (l : Addr) (i : Int) : mPopAt (.ref l) (.int i) M Q = (match M l with | some (.lst xs) => (-(2 ^ 63) ≤ i ∧ i < 2 ^ 63) ∧ (match ixN xs.length i with | some k => (match xs[k]? with | some y => Q y (mset M l (.lst (xs.eraseIdx k))) | none => False) | none => False) | _ => False) := rfl
@[simp] theorem tyOf_non : tyOf M .non = "NoneType" := rfl
@[simp] theorem tyOf_bl (b : Bool) : tyOf M (.bl b) = "bool" := rfl
@[simp] theorem tyOf_int (b : Int) : tyOf M (.int b) = "int" := rfl
@[simp] theorem tyOf_str (b : Str) : tyOf M (.str b) = "str" := rfl
@[simp] theorem tyOf_tup (b : List D) : tyOf M (.tup b) = "tuple" := rfl
@[simp] theorem tyOf_lst (b : List D) : tyOf M (.lst b) = "list" := rfl
@[simp] theorem tyOf_dK (ks : List Key) (b : List D) : tyOf M (.dK ks b) = "dict" := rfl
@[simp] theorem tyOf_dT (ks : List (List Key)) (b : List D) : tyOf M (.dT ks b) = "dict" := rfl
@[simp] theorem tyOf_ref (a : Addr) : tyOf M (.ref a) = (match M a with | some (.lst _) => "list" | some (.dK _ _) => "dict" | some (.dT _ _) => "dict" | _ => "") := rfl
@[simp] theorem flat_non : flat .non = true := rfl
@[simp] theorem flat_bl (b : Bool) : flat (.bl b) = true := rfl
@[simp] theorem flat_int (b : Int) : flat (.int b) = true := rfl
@[simp] theorem flat_str (b : Str) : flat (.str b) = true := rfl
@[simp] theorem dBools_nil : dBools [] = some [] := rfl
@[simp] theorem dBools_cons (b : Bool) (r : List D) : dBools (.bl b :: r) = (dBools r).map (b :: ·) := rfl
@[simp] theorem dInts_nil : dInts [] = some [] := rfl
@[simp] theorem dInts_cons (b : Int) (r : List D) : dInts (.int b :: r) = (dInts r).map (b :: ·) := rfl
@[simp] theorem enumD_nil (n : Nat) : enumD n [] = [] := rfl
@[simp] theorem enumD_cons (n : Nat) (x : D) (xs : List D) : enumD n (x :: xs) = .tup [.int (n : Int), x] :: enumD (n + 1) xs := rfl
@[simp] theorem zipD_nil (ys : List D) : zipD [] ys = [] := rfl
@[simp] theorem zipD_nil' (x : D) (xs : List D) : zipD (x :: xs) [] = [] := rfl
@[simp] theorem zipD_cons (x y : D) (xs ys : List D) : zipD (x :: xs) (y :: ys) = .tup [x, y] :: zipD xs ys := rfl
end
end DL
/-! DLS: the readings of DLP are kept by the hand layer's. -/
namespace DL
open PySem PySem.Spec PyProof.Rows L2

/-- the written part, and the places that nothing may name -/
structure Fg where
  K : PySem.W.Frag
  P : Addr → Prop
abbrev St := L2.St
theorem szLe {n : Nat} (h : n ≤ 100000) : n ≤ sizeLine := Nat.le_trans h (by decide)
theorem szLt {n : Nat} (h : n < 100000) : n < sizeLine := Nat.lt_of_lt_of_le h (by decide)

/-! ### what stands for what -/
def KT (K : Fg) (a : Addr) (xs : List V) : Prop := ∃ (o : Obj) (its : Array Value) (n : Nat), K.K.lookup a = some o ∧ o.cls = .type "tuple" ∧ o.data = .seq its n ∧ its.size ≤ sizeLine ∧ Vals xs its.toList
def KL (K : Fg) (a : Addr) (xs : List V) : Prop := ∃ (o : Obj) (its : Array Value) (n : Nat), K.K.lookup a = some o ∧ o.cls = .type "list" ∧ o.dict = none ∧ o.data = .seq its n ∧ its.size ≤ sizeLine ∧ Vals xs its.toList
def TqT (K : Fg) (H : Hp) (M : Mem) (a : Addr) (xs : List V) : Prop := (H a = some (.tup xs) ∧ M a = none ∧ ¬ K.P a) ∨ KT K a xs
def TqR (K : Fg) (H : Hp) (M : Mem) (a : Addr) (xs : List V) : Prop := (Rd H a (.lst xs) ∧ M a = none ∧ ¬ K.P a) ∨ KL K a xs
theorem TqT.sq {K : Fg} {H : Hp} {M : Mem} {a : Addr} {xs : List V} (h : TqT K H M a xs) : SqT K.K H a xs := by
  rcases h with ⟨h, _⟩ | h
  · exact .inl (.inl h)
  · exact .inr h
theorem TqR.sq {K : Fg} {H : Hp} {M : Mem} {a : Addr} {xs : List V} (h : TqR K H M a xs) : SqL K.K H a xs := by
  rcases h with ⟨h, _⟩ | h
  · exact .inl h
  · exact .inr h
mutual
def Rep (K : Fg) (H : Hp) (M : Mem) : D → V → Prop
  | .non, v => v = .non
  | .bl b, v => v = .bl b
  | .int i, v => v = .int i
  | .str x, v => v = .str x
  | .ref a, v => v = .ref a
  | .tup ds, v => ∃ a vs, v = .ref a ∧ TqT K H M a vs ∧ Reps K H M ds vs
  | .lst ds, v => ∃ a vs, v = .ref a ∧ (H a = some (.lst vs) ∧ M a = none ∧ ¬ K.P a) ∧ Reps K H M ds vs
  | .rol ds, v => ∃ a vs, v = .ref a ∧ TqR K H M a vs ∧ Reps K H M ds vs
  | .dK ks ds, v => ∃ a vs, v = .ref a ∧ (H a = some (.dK (ks.zip vs)) ∧ M a = none ∧ ¬ K.P a) ∧ ks.length = vs.length ∧ Reps K H M ds vs
  | .dT ks ds, v => ∃ a vs, v = .ref a ∧ (H a = some (.dT (ks.zip vs)) ∧ M a = none ∧ ¬ K.P a) ∧ ks.length = vs.length ∧ Reps K H M ds vs
  | .ins b C ns ds, v => ∃ a dx vs, v = .ref a ∧ (H a = some (.ins (He.ga K.K C) dx (ns.zip vs)) ∧ M a = none ∧ ¬ K.P a) ∧ (ns.length = vs.length ∧ a = b) ∧ Reps K H M ds vs
  | .ty n, v => v = .ty n
  | .cls C, v => v = .ref C
def Reps (K : Fg) (H : Hp) (M : Mem) : List D → List V → Prop
  | [], vs => vs = []
  | d :: ds, vs => ∃ v r, vs = v :: r ∧ Rep K H M d v ∧ Reps K H M ds r
end
/-- the contents of a deck, by its kind -/
def DeckI : Nat → Option HO → List (Option HO) → List Addr → List (Option HO) → List Addr → Nat → Prop
  | 0, o, os, ps, _, _, b => ∃ (dg cl : Addr) (n : Int) (ds cs : List Int), ps = [dg, cl] ∧ dg ≠ cl ∧ o = some (.lst [.ref dg, .ref cl, .int n]) ∧ os = [some (.lst (ds.map V.int)), some (.lst (cs.map V.int))] ∧
      (∀ x ∈ ds, 0 ≤ x ∧ x < 2147483629) ∧ (∀ x ∈ cs, 0 ≤ x ∧ x < 2147483629) ∧ cs ≠ [] ∧ 0 ≤ n ∧ n + b ≤ 2 ^ 40
  | 1, o, os, ps, fos, fs, b => ∃ (ca rs : Addr) (n : Int) (cs rr : List Int), ps = [rs] ∧ fs = [ca] ∧ o = some (.lst [.ref ca, .int n, .ref rs]) ∧ os = [some (.lst (rr.map V.int))] ∧ fos = [some (.lst (cs.map V.int))] ∧
      (∀ x ∈ cs, 0 ≤ x) ∧ (∀ x ∈ rr, 0 ≤ x) ∧ cs ≠ [] ∧ rr.length = cs.length ∧ 0 ≤ n ∧ n + b ≤ 2 ^ 40
  | _, _, _, _, _, _, _ => False
/-- a deck: its own parts, and lists that never change -/
def DeckRep (K : Fg) (kind : Nat) (H : Hp) (M : Mem) (a : Addr) (b : Nat) : Prop := ∃ ps fs : List Addr, (∀ p ∈ ps, M p = some (.part a) ∧ p ≠ a) ∧ (∀ f ∈ fs, (∃ o, H f = some o) ∧ M f = none ∧ ¬ K.P f) ∧ DeckI kind (H a) (ps.map H) ps (fs.map H) fs b
def ORep (K : Fg) (H : Hp) (M : Mem) (a : Addr) : MO → Prop
  | .lst ds => ∃ vs, H a = some (.lst vs) ∧ Reps K H M ds vs
  | .dK ks ds => ∃ vs, H a = some (.dK (ks.zip vs)) ∧ ks.length = vs.length ∧ Reps K H M ds vs
  | .dT ks ds => ∃ vs, H a = some (.dT (ks.zip vs)) ∧ ks.length = vs.length ∧ Reps K H M ds vs
  | .ins C ns ds => ∃ dx vs, H a = some (.ins (He.ga K.K C) dx (ns.zip vs)) ∧ ns.length = vs.length ∧ Reps K H M ds vs
  | .tupP ds => ∃ vs o, H a = some (.frz o (.tup vs)) ∧ o.dict = none ∧ Reps K H M ds vs
  | .deck kind b => DeckRep K kind H M a b
  | .part _ => ∃ o, H a = some o
structure MRep (K : Fg) (H : Hp) (M : Mem) : Prop where
  obj : ∀ a o, M a = some o → ORep K H M a o
  prv : ∀ a, K.P a → (∃ o, H a = some o) ∧ M a = none
/-- what is tracked and not of the memory stays so -/
def Fr (H : Hp) (M : Mem) (H' : Hp) (M' : Mem) : Prop := ∀ a o, H a = some o → M a = none → H' a = some o ∧ M' a = none
theorem Fr.refl (H : Hp) (M : Mem) : Fr H M H M := fun _ _ h m => ⟨h, m⟩
theorem Fr.trans {H H1 H2 : Hp} {M M1 M2 : Mem} (a : Fr H M H1 M1) (b : Fr H1 M1 H2 M2) : Fr H M H2 M2 := fun x o h m => b x o (a x o h m).1 (a x o h m).2
theorem Fr.new {H : Hp} {M : Mem} {p : Addr} {o : HO} (h : H p = none) : Fr H M (upd H p o) M := fun a u e m => ⟨by rw [upd_ne (ne_of_none e h)]; exact e, m⟩
section
variable {K : Fg} {H H' H1 : Hp} {M M' M1 : Mem} {a p : Addr} {vs xs : List V} {ds : List D} {d : D} {v : V}
theorem TqT.mono (f : Fr H M H' M') (h : TqT K H M a xs) : TqT K H' M' a xs := by
  rcases h with ⟨h, m, p⟩ | h
  · exact .inl ⟨(f _ _ h m).1, (f _ _ h m).2, p⟩
  · exact .inr h
theorem TqR.mono (f : Fr H M H' M') (h : TqR K H M a xs) : TqR K H' M' a xs := by
  rcases h with ⟨h | ⟨o, h⟩, m, p⟩ | h
  · exact .inl ⟨.inl (f _ _ h m).1, (f _ _ h m).2, p⟩
  · exact .inl ⟨.inr ⟨o, (f _ _ h m).1⟩, (f _ _ h m).2, p⟩
  · exact .inr h
mutual
theorem Rep.mono (f : Fr H M H' M') : ∀ {d : D} {v : V}, Rep K H M d v → Rep K H' M' d v
  | .non, _, h => h
  | .bl _, _, h => h
  | .int _, _, h => h
  | .str _, _, h => h
  | .ref _, _, h => h
  | .ty _, _, h => h
  | .cls _, _, h => h
  | .tup ds, _, ⟨a, vs, e, q, r⟩ => ⟨a, vs, e, q.mono f, Reps.mono f r⟩
  | .lst ds, _, ⟨a, vs, e, q, r⟩ => ⟨a, vs, e, ⟨(f _ _ q.1 q.2.1).1, (f _ _ q.1 q.2.1).2, q.2.2⟩, Reps.mono f r⟩
  | .rol ds, _, ⟨a, vs, e, q, r⟩ => ⟨a, vs, e, q.mono f, Reps.mono f r⟩
  | .dK ks ds, _, ⟨a, vs, e, q, z, r⟩ => ⟨a, vs, e, ⟨(f _ _ q.1 q.2.1).1, (f _ _ q.1 q.2.1).2, q.2.2⟩, z, Reps.mono f r⟩
  | .dT ks ds, _, ⟨a, vs, e, q, z, r⟩ => ⟨a, vs, e, ⟨(f _ _ q.1 q.2.1).1, (f _ _ q.1 q.2.1).2, q.2.2⟩, z, Reps.mono f r⟩
  | .ins _ C ns ds, _, ⟨a, dx, vs, e, q, z, r⟩ => ⟨a, dx, vs, e, ⟨(f _ _ q.1 q.2.1).1, (f _ _ q.1 q.2.1).2, q.2.2⟩, z, Reps.mono f r⟩
theorem Reps.mono (f : Fr H M H' M') : ∀ {ds : List D} {vs : List V}, Reps K H M ds vs → Reps K H' M' ds vs
  | [], _, h => h
  | d :: ds, _, ⟨v, r, e, h, t⟩ => ⟨v, r, e, Rep.mono f h, Reps.mono f t⟩
end
theorem Reps.length : ∀ {ds : List D} {vs : List V}, Reps K H M ds vs → ds.length = vs.length
  | [], _, h => by rw [show _ = [] from h]; rfl
  | d :: ds, _, ⟨v, r, e, h, t⟩ => by rw [e, List.length_cons, List.length_cons, Reps.length t]
theorem Reps.get : ∀ {ds : List D} {vs : List V} {i : Nat} {d : D}, Reps K H M ds vs → ds[i]? = some d → ∃ v, vs[i]? = some v ∧ Rep K H M d v
  | [], _, _, _, _, e => by simp at e
  | d :: ds, _, 0, _, ⟨v, r, rfl, h, t⟩, e => by
    simp only [List.getElem?_cons_zero, Option.some.injEq] at e
    subst e
    exact ⟨v, rfl, h⟩
  | d :: ds, _, i + 1, x, ⟨v, r, rfl, h, t⟩, e => by
    simp only [List.getElem?_cons_succ] at e ⊢
    exact Reps.get t e
theorem Reps.append : ∀ {ds es : List D} {vs ws : List V}, Reps K H M ds vs → Reps K H M es ws → Reps K H M (ds ++ es) (vs ++ ws)
  | [], _, _, _, h, g => by rw [show _ = [] from h]; exact g
  | d :: ds, _, _, _, ⟨v, r, rfl, h, t⟩, g => ⟨v, r ++ _, rfl, h, Reps.append t g⟩
theorem Reps.drop : ∀ {ds : List D} {vs : List V} (n : Nat), Reps K H M ds vs → Reps K H M (ds.drop n) (vs.drop n)
  | _, _, 0, h => h
  | [], _, n + 1, h => by rw [show _ = [] from h]; rfl
  | d :: ds, _, n + 1, ⟨v, r, rfl, h, t⟩ => Reps.drop n t
theorem Reps.take : ∀ {ds : List D} {vs : List V} (n : Nat), Reps K H M ds vs → Reps K H M (ds.take n) (vs.take n)
  | _, _, 0, h => rfl
  | [], _, n + 1, h => by rw [show _ = [] from h]; rfl
  | d :: ds, _, n + 1, ⟨v, r, rfl, h, t⟩ => ⟨v, r.take n, rfl, h, Reps.take n t⟩
theorem Reps.set : ∀ {ds : List D} {vs : List V} (n : Nat), Reps K H M ds vs → Rep K H M d v → Reps K H M (ds.set n d) (vs.set n v)
  | [], _, n, h, _ => by rw [show _ = [] from h]; rfl
  | e :: ds, _, 0, ⟨u, r, rfl, h, t⟩, q => ⟨v, r, rfl, q, t⟩
  | e :: ds, _, n + 1, ⟨u, r, rfl, h, t⟩, q => ⟨u, r.set n v, rfl, h, Reps.set n t q⟩
theorem Reps.eraseIdx : ∀ {ds : List D} {vs : List V} (n : Nat), Reps K H M ds vs → Reps K H M (ds.eraseIdx n) (vs.eraseIdx n)
  | [], _, n, h => by rw [show _ = [] from h]; rfl
  | e :: ds, _, 0, ⟨u, r, rfl, h, t⟩ => t
  | e :: ds, _, n + 1, ⟨u, r, rfl, h, t⟩ => ⟨u, r.eraseIdx n, rfl, h, Reps.eraseIdx n t⟩
theorem Reps.dropLast : ∀ {ds : List D} {vs : List V}, Reps K H M ds vs → Reps K H M ds.dropLast vs.dropLast := fun {ds vs} h => by
  rw [List.dropLast_eq_take, List.dropLast_eq_take, ← h.length]
  exact h.take _
theorem Reps.snoc (h : Reps K H M ds vs) (q : Rep K H M d v) : Reps K H M (ds ++ [d]) (vs ++ [v]) := h.append ⟨v, [], rfl, q, rfl⟩
theorem Reps.one (q : Rep K H M d v) : Reps K H M [d] [v] := ⟨v, [], rfl, q, rfl⟩
theorem Reps.cut (h : Reps K H M ds vs) (lo hi : Option Int) : Reps K H M (cut ds lo hi) (cutV vs lo hi) := by
  unfold DL.cut cutV
  rw [h.length]
  exact (h.drop _).take _
theorem atI_rep {i : Int} (h : Reps K H M ds vs) (e : DL.atI ds i = some d) : ∃ v, L2.atI vs i = some v ∧ Rep K H M d v := by
  unfold DL.atI at e
  unfold L2.atI
  rw [← h.length]
  show ∃ v, (DL.ixN ds.length i).bind (fun j => vs[j]?) = some v ∧ _
  cases q : DL.ixN ds.length i with
  | none => rw [q] at e; cases e
  | some j =>
    rw [q] at e
    exact h.get (show ds[j]? = some d from e)
/-! ### the memory's steps -/
theorem DeckRep.keep {K' : Fg} {kind b : Nat} (h : DeckRep K kind H M a b) (ka : ∀ x o, (M x = some (.part a) ∨ x = a) → H x = some o → H' x = some o) (kn : ∀ x, (M x = some (.part a) ∨ x = a) → H x = none → H' x = none) (km : ∀ x, M x = some (.part a) → M' x = some (.part a))
    (kf : ∀ x o, H x = some o → M x = none → ¬ K.P x → H' x = some o ∧ M' x = none ∧ ¬ K'.P x) : DeckRep K' kind H' M' a b := by
  have eq : ∀ x, (M x = some (.part a) ∨ x = a) → H' x = H x := fun x q => by
    cases e : H x with
    | none => exact kn x q e
    | some o => exact ka x o q e
  obtain ⟨ps, fs, hp, hf, hi⟩ := h
  refine ⟨ps, fs, fun p q => ⟨km p (hp p q).1, (hp p q).2⟩, fun f q => ?_, ?_⟩
  · obtain ⟨⟨o, e⟩, m, n⟩ := hf f q
    have z := kf f o e m n
    exact ⟨⟨o, z.1⟩, z.2⟩
  · rw [eq a (.inr rfl), show ps.map H' = ps.map H from List.map_congr_left fun p q => eq p (.inl (hp p q).1), show fs.map H' = fs.map H from List.map_congr_left fun f q => by
      obtain ⟨⟨o, e⟩, m, n⟩ := hf f q
      rw [(kf f o e m n).1, e]]
    exact hi
theorem MRep.part {c : Addr} (m : MRep K H M) (h : M a = some (.part c)) : ∃ o, H a = some o := m.obj a _ h
theorem DeckRep.there {kind b : Nat} (h : DeckRep K kind H M a b) : ∃ o, H a = some o := by
  obtain ⟨ps, fs, _, _, hi⟩ := h
  match kind, hi with
  | 0, hi =>
    obtain ⟨dg, cl, n, x, y, _, _, e, _⟩ := hi
    exact ⟨_, e⟩
  | 1, hi =>
    obtain ⟨ca, rs, n, x, y, _, _, e, _⟩ := hi
    exact ⟨_, e⟩
theorem MRep.there (m : MRep K H M) {o : MO} (h : M a = some o) : ∃ u, H a = some u := by
  have q := m.obj a o h
  cases o with
  | lst ds => obtain ⟨vs, e, _⟩ := q; exact ⟨_, e⟩
  | dK ks ds => obtain ⟨vs, e, _⟩ := q; exact ⟨_, e⟩
  | dT ks ds => obtain ⟨vs, e, _⟩ := q; exact ⟨_, e⟩
  | ins C ns ds => obtain ⟨dx, vs, e, _⟩ := q; exact ⟨_, e⟩
  | tupP ds => obtain ⟨vs, o, e, _⟩ := q; exact ⟨_, e⟩
  | deck k b => exact DeckRep.there q
  | part _ => exact q
theorem MRep.free (m : MRep K H M) (h : H a = none) : M a = none := by
  cases e : M a with
  | none => rfl
  | some o =>
    obtain ⟨u, q⟩ := m.there e
    rw [h] at q; cases q
/-- an object other than l is as it was -/
theorem ORep.keep {o : MO} (m : MRep K H M) (h : ORep K H M a o) (ha : M a = some o) (f : Fr H M H' M') (l : Addr) (hl : a ≠ l) (hp : ∀ c, M l ≠ some (.part c)) (kh : ∀ x u, x ≠ l → H x = some u → H' x = some u) (km : ∀ x, x ≠ l → M' x = M x) : ORep K H' M' a o := by
  cases o with
  | lst ds => obtain ⟨vs, e, r⟩ := h; exact ⟨vs, kh _ _ hl e, r.mono f⟩
  | dK ks ds => obtain ⟨vs, e, z, r⟩ := h; exact ⟨vs, kh _ _ hl e, z, r.mono f⟩
  | dT ks ds => obtain ⟨vs, e, z, r⟩ := h; exact ⟨vs, kh _ _ hl e, z, r.mono f⟩
  | ins C ns ds => obtain ⟨dx, vs, e, z, r⟩ := h; exact ⟨dx, vs, kh _ _ hl e, z, r.mono f⟩
  | tupP ds => obtain ⟨vs, o, e, z, r⟩ := h; exact ⟨vs, o, kh _ _ hl e, z, r.mono f⟩
  | deck k b =>
    have nl : ∀ x, (M x = some (.part a) ∨ x = a) → x ≠ l := fun x q z => by
      rcases q with q | q
      · exact hp a (z ▸ q)
      · exact hl (q ▸ z)
    refine DeckRep.keep (M' := M') h (fun x u q e => kh x u (nl x q) e) (fun x q e => ?_) (fun x q => (km x (nl x (.inl q))).trans q) (fun x o e m p => ⟨(f x o e m).1, (f x o e m).2, p⟩)
    rcases q with q | q
    · obtain ⟨u, w⟩ := m.there q
      rw [e] at w; cases w
    · obtain ⟨u, w⟩ := DeckRep.there h
      rw [q, w] at e; cases e
  | part _ => obtain ⟨u, e⟩ := h; exact ⟨u, kh _ _ hl e⟩
theorem MRep.prv_step (m : MRep K H M) (f : Fr H M H' M') : ∀ a, K.P a → (∃ o, H' a = some o) ∧ M' a = none := fun a h => by
  obtain ⟨⟨o, e⟩, q⟩ := m.prv a h
  exact ⟨⟨o, (f a o e q).1⟩, (f a o e q).2⟩
theorem MRep.nprv (m : MRep K H M) (h : H p = none) : ¬ K.P p := fun q => by
  obtain ⟨⟨o, e⟩, _⟩ := m.prv p q
  rw [h] at e; cases e
theorem MRep.new {o : HO} (m : MRep K H M) (h : H p = none) : MRep K (upd H p o) M := .mk (prv := m.prv_step (Fr.new h)) (obj := fun a u e => by
  have hp : M p = none := m.free h
  exact ORep.keep m (m.obj a u e) e (Fr.new h) p (fun z => by rw [z, hp] at e; cases e) (by rw [hp]; exact fun _ z => nomatch z) (fun x w hx q => by rw [upd_ne hx]; exact q) fun _ _ => rfl)
/-- a new object that the memory knows -/
theorem Fr.newM {o : HO} {u : MO} (h : H p = none) : Fr H M (upd H p o) (mset M p u) := fun a w e m => by
  have ne := ne_of_none e h
  exact ⟨by rw [upd_ne ne]; exact e, by rw [mset_ne ne]; exact m⟩
theorem MRep.newM {o : HO} {u : MO} (m : MRep K H M) (h : H p = none) (q : ORep K (upd H p o) (mset M p u) p u) : MRep K (upd H p o) (mset M p u) := .mk (prv := m.prv_step (Fr.newM h)) (obj := fun a w e => by
  by_cases z : a = p
  · subst z
    rw [mset_same] at e
    cases e
    exact q
  · rw [mset_ne z] at e
    have hp : M p = none := m.free h
    exact ORep.keep m (m.obj a w e) e (Fr.newM h) p z (by rw [hp]; exact fun _ z => nomatch z) (fun x w hx q => by rw [upd_ne hx]; exact q) fun x hx => mset_ne hx)
/-- an object of the memory is changed -/
theorem Fr.write {l : Addr} {o : HO} {u w : MO} (h : M l = some w) : Fr H M (upd H l o) (mset M l u) := fun a z e m => by
  have ne : a ≠ l := fun q => by rw [q, h] at m; cases m
  exact ⟨by rw [upd_ne ne]; exact e, by rw [mset_ne ne]; exact m⟩
theorem MRep.write {l : Addr} {o : HO} {u w : MO} (m : MRep K H M) (h : M l = some w) (hw : ∀ c, w ≠ .part c) (q : ORep K (upd H l o) (mset M l u) l u) : MRep K (upd H l o) (mset M l u) := .mk (prv := m.prv_step (Fr.write h)) (obj := fun a z e => by
  by_cases c : a = l
  · subst c
    rw [mset_same] at e
    cases e
    exact q
  · rw [mset_ne c] at e
    exact ORep.keep m (m.obj a z e) e (Fr.write h) l c (by rw [h]; exact fun c z => hw c (Option.some.inj z)) (fun x w hx q => by rw [upd_ne hx]; exact q) fun x hx => mset_ne hx)
theorem Fr.sub (s : Sub M' M) : Fr H M H M' := fun x u q w => ⟨q, by
  rcases s x with z | ⟨z, _⟩
  · rw [z]; exact w
  · exact z⟩
theorem MRep.sub (m : MRep K H M) (s : Sub M' M) : MRep K H M' := .mk (prv := m.prv_step (Fr.sub s)) (obj := fun a o e => by
  have ea : M a = some o := by
    rcases s a with q | ⟨q, _⟩
    · rw [← q]; exact e
    · rw [q] at e; cases e
  have f : Fr H M H M' := fun x u q w => ⟨q, by
    rcases s x with z | ⟨z, _⟩
    · rw [z]; exact w
    · exact z⟩
  have q := m.obj a o ea
  cases o with
  | lst ds => obtain ⟨vs, e, r⟩ := q; exact ⟨vs, e, r.mono f⟩
  | dK ks ds => obtain ⟨vs, e, z, r⟩ := q; exact ⟨vs, e, z, r.mono f⟩
  | dT ks ds => obtain ⟨vs, e, z, r⟩ := q; exact ⟨vs, e, z, r.mono f⟩
  | ins C ns ds => obtain ⟨dx, vs, e, z, r⟩ := q; exact ⟨dx, vs, e, z, r.mono f⟩
  | tupP ds => obtain ⟨vs, o, e, z, r⟩ := q; exact ⟨vs, o, e, z, r.mono f⟩
  | deck k b =>
    refine DeckRep.keep (M' := M') q (fun x u _ e => e) (fun x _ e => e) (fun x w => ?_) (fun x o e m p => ⟨e, (f x o e m).2, p⟩)
    rcases s x with z | ⟨z, y⟩
    · rw [z]; exact w
    · rw [w] at y; exact y.elim
  | part _ => exact q)
theorem rep_newT (m : MRep K H M) (h : H p = none) (r : Reps K H M ds vs) : Rep K (upd H p (.tup vs)) M (.tup ds) (.ref p) :=
  ⟨p, vs, rfl, .inl ⟨upd_same, m.free h, m.nprv h⟩, r.mono (Fr.new h)⟩
theorem rep_newL (m : MRep K H M) (h : H p = none) (r : Reps K H M ds vs) : Rep K (upd H p (.lst vs)) M (.lst ds) (.ref p) :=
  ⟨p, vs, rfl, ⟨upd_same, m.free h, m.nprv h⟩, r.mono (Fr.new h)⟩
theorem mrep_newM (m : MRep K H M) (h : H p = none) (r : Reps K H M ds vs) : MRep K (upd H p (.lst vs)) (mset M p (.lst ds)) :=
  m.newM h ⟨vs, upd_same, r.mono (Fr.newM h)⟩
theorem mrep_write {l : Addr} {es : List D} {ws : List V} (m : MRep K H M) (h : M l = some (.lst es)) (r : Reps K H M ds vs) : MRep K (upd H l (.lst vs)) (mset M l (.lst ds)) :=
  m.write h (fun _ z => nomatch z) ⟨vs, upd_same, r.mono (Fr.write h)⟩
/-- lists that are read -/
theorem asL_rep {x : V} {ys : List D} (m : MRep K H M) (r : Rep K H M d x) (e : asL M d = some ys) : ∃ a vs, x = .ref a ∧ SqL K.K H a vs ∧ Reps K H M ys vs := by
  cases d with
  | lst zs =>
    obtain ⟨a, vs, ex, ⟨h, _⟩, q⟩ := r
    cases e
    exact ⟨a, vs, ex, .of h, q⟩
  | rol zs =>
    obtain ⟨a, vs, ex, h, q⟩ := r
    cases e
    exact ⟨a, vs, ex, h.sq, q⟩
  | ref a =>
    cases r
    simp only [asL] at e
    cases em : M a with
    | none => rw [em] at e; cases e
    | some o =>
      rw [em] at e
      cases o with
      | lst zs =>
        cases e
        obtain ⟨vs, h, q⟩ := m.obj a _ em
        exact ⟨a, vs, rfl, .of h, q⟩
      | dK _ _ => cases e
      | dT _ _ => cases e
      | ins _ _ _ => cases e
      | tupP _ => cases e
      | deck _ _ => cases e
      | part _ => cases e
  | _ => cases e
theorem asW_rep {x : V} {ys : List D} (m : MRep K H M) (r : Rep K H M d x) (e : asW M d = some ys) : ∃ a vs, x = .ref a ∧ H a = some (.lst vs) ∧ Reps K H M ys vs := by
  cases d with
  | lst zs =>
    obtain ⟨a, vs, ex, ⟨h, _⟩, q⟩ := r
    cases e
    exact ⟨a, vs, ex, h, q⟩
  | ref a =>
    cases r
    simp only [asW] at e
    cases em : M a with
    | none => rw [em] at e; cases e
    | some o =>
      rw [em] at e
      cases o with
      | lst zs =>
        cases e
        obtain ⟨vs, h, q⟩ := m.obj a _ em
        exact ⟨a, vs, rfl, h, q⟩
      | dK _ _ => cases e
      | dT _ _ => cases e
      | ins _ _ _ => cases e
      | tupP _ => cases e
      | deck _ _ => cases e
      | part _ => cases e
  | _ => cases e
theorem asS_rep {x : V} {ys : List D} (m : MRep K H M) (r : Rep K H M d x) (e : asS M d = some ys) : ∃ a vs, x = .ref a ∧ (SqL K.K H a vs ∨ SqT K.K H a vs) ∧ Reps K H M ys vs := by
  cases d with
  | tup zs =>
    obtain ⟨a, vs, ex, h, q⟩ := r
    cases e
    exact ⟨a, vs, ex, .inr h.sq, q⟩
  | _ =>
    obtain ⟨a, vs, ex, h, q⟩ := asL_rep m r e
    exact ⟨a, vs, ex, .inl h, q⟩
end

/-! ### private places -/
abbrev Fg.hide (K : Fg) (D : Addr) : Fg := ⟨K.K, fun a => K.P a ∨ a = D⟩
section
variable {K : Fg} {H : Hp} {M : Mem} {D0 : Addr}
mutual
/-- other places are private: those that are tracked and private were so -/
theorem Rep.hides {P' : Addr → Prop} (h : ∀ a o, H a = some o → P' a → K.P a) : ∀ {d : D} {v : V}, Rep K H M d v → Rep ⟨K.K, P'⟩ H M d v
  | .non, _, h => h
  | .bl _, _, h => h
  | .int _, _, h => h
  | .str _, _, h => h
  | .ref _, _, h => h
  | .ty _, _, h => h
  | .cls _, _, h => h
  | .tup ds, _, ⟨a, vs, e, q, r⟩ => ⟨a, vs, e, by
      rcases q with ⟨q, m, p⟩ | q
      · exact .inl ⟨q, m, fun z => p (h _ _ q z)⟩
      · exact .inr q, Reps.hides h r⟩
  | .lst ds, _, ⟨a, vs, e, q, r⟩ => ⟨a, vs, e, ⟨q.1, q.2.1, fun z => q.2.2 (h _ _ q.1 z)⟩, Reps.hides h r⟩
  | .rol ds, _, ⟨a, vs, e, q, r⟩ => ⟨a, vs, e, by
      rcases q with ⟨q, m, p⟩ | q
      · refine .inl ⟨q, m, fun z => ?_⟩
        rcases q with q | ⟨o, q⟩
        · exact p (h _ _ q z)
        · exact p (h _ _ q z)
      · exact .inr q, Reps.hides h r⟩
  | .dK ks ds, _, ⟨a, vs, e, q, z, r⟩ => ⟨a, vs, e, ⟨q.1, q.2.1, fun z => q.2.2 (h _ _ q.1 z)⟩, z, Reps.hides h r⟩
  | .dT ks ds, _, ⟨a, vs, e, q, z, r⟩ => ⟨a, vs, e, ⟨q.1, q.2.1, fun z => q.2.2 (h _ _ q.1 z)⟩, z, Reps.hides h r⟩
  | .ins _ C ns ds, _, ⟨a, dx, vs, e, q, z, r⟩ => ⟨a, dx, vs, e, ⟨q.1, q.2.1, fun z => q.2.2 (h _ _ q.1 z)⟩, z, Reps.hides h r⟩
theorem Reps.hides {P' : Addr → Prop} (h : ∀ a o, H a = some o → P' a → K.P a) : ∀ {ds : List D} {vs : List V}, Reps K H M ds vs → Reps ⟨K.K, P'⟩ H M ds vs
  | [], _, h => h
  | d :: ds, _, ⟨v, r, e, q, t⟩ => ⟨v, r, e, Rep.hides h q, Reps.hides h t⟩
end
theorem hide_new (h : H D0 = none) : ∀ a o, H a = some o → (K.hide D0).P a → K.P a := fun a o e z => z.elim id fun z => by
  rw [z, h] at e; cases e
theorem Rep.hide {d : D} {v : V} (h : H D0 = none) (r : Rep K H M d v) : Rep (K.hide D0) H M d v := r.hides (hide_new h)
theorem Reps.hide {ds : List D} {vs : List V} (h : H D0 = none) (r : Reps K H M ds vs) : Reps (K.hide D0) H M ds vs := r.hides (hide_new h)
theorem Rep.bare {d : D} {v : V} (r : Rep (K.hide D0) H M d v) : Rep K H M d v := Rep.hides (K := K.hide D0) (P' := K.P) (fun _ _ _ z => Or.inl z) r
theorem Reps.bare {ds : List D} {vs : List V} (r : Reps (K.hide D0) H M ds vs) : Reps K H M ds vs := Reps.hides (K := K.hide D0) (P' := K.P) (fun _ _ _ z => Or.inl z) r
mutual
/-- a private place may change -/
theorem Rep.priv {o : HO} (h : K.P D0) : ∀ {d : D} {v : V}, Rep K H M d v → Rep K (upd H D0 o) M d v
  | .non, _, h => h
  | .bl _, _, h => h
  | .int _, _, h => h
  | .str _, _, h => h
  | .ref _, _, h => h
  | .ty _, _, h => h
  | .cls _, _, h => h
  | .tup ds, _, ⟨a, vs, e, q, r⟩ => ⟨a, vs, e, by
      rcases q with ⟨q, m, p⟩ | q
      · have ne : a ≠ D0 := fun z => p (z ▸ h)
        exact .inl ⟨by rw [upd_ne ne]; exact q, m, p⟩
      · exact .inr q, Reps.priv h r⟩
  | .lst ds, _, ⟨a, vs, e, q, r⟩ => ⟨a, vs, e, ⟨by rw [upd_ne (show a ≠ D0 from fun z => q.2.2 (z ▸ h))]; exact q.1, q.2⟩, Reps.priv h r⟩
  | .rol ds, _, ⟨a, vs, e, q, r⟩ => ⟨a, vs, e, by
      rcases q with ⟨q, m, p⟩ | q
      · have ne : a ≠ D0 := fun z => p (z ▸ h)
        refine .inl ⟨?_, m, p⟩
        rcases q with q | ⟨u, q⟩
        · exact .inl (by rw [upd_ne ne]; exact q)
        · exact .inr ⟨u, by rw [upd_ne ne]; exact q⟩
      · exact .inr q, Reps.priv h r⟩
  | .dK ks ds, _, ⟨a, vs, e, q, z, r⟩ => ⟨a, vs, e, ⟨by rw [upd_ne (show a ≠ D0 from fun z => q.2.2 (z ▸ h))]; exact q.1, q.2⟩, z, Reps.priv h r⟩
  | .dT ks ds, _, ⟨a, vs, e, q, z, r⟩ => ⟨a, vs, e, ⟨by rw [upd_ne (show a ≠ D0 from fun z => q.2.2 (z ▸ h))]; exact q.1, q.2⟩, z, Reps.priv h r⟩
  | .ins _ C ns ds, _, ⟨a, dx, vs, e, q, z, r⟩ => ⟨a, dx, vs, e, ⟨by rw [upd_ne (show a ≠ D0 from fun z => q.2.2 (z ▸ h))]; exact q.1, q.2⟩, z, Reps.priv h r⟩
theorem Reps.priv {o : HO} (h : K.P D0) : ∀ {ds : List D} {vs : List V}, Reps K H M ds vs → Reps K (upd H D0 o) M ds vs
  | [], _, h => h
  | d :: ds, _, ⟨v, r, e, q, t⟩ => ⟨v, r, e, Rep.priv h q, Reps.priv h t⟩
end
theorem MRep.hide {o : HO} (m : MRep K H M) (h : H D0 = none) : MRep (K.hide D0) (upd H D0 o) M := by
  have m1 := m.new (o := o) h
  have mD := m.free h
  refine ⟨fun a u e => ?_, fun a q => ?_⟩
  · have q := m.obj a u e
    have ne : a ≠ D0 := fun z => by rw [z, mD] at e; cases e
    have hR : ∀ {ds : List D} {vs : List V}, Reps K H M ds vs → Reps (K.hide D0) (upd H D0 o) M ds vs := fun r => Reps.priv (K := K.hide D0) (D0 := D0) (Or.inr rfl) (r.hide h)
    cases u with
    | lst ds => obtain ⟨vs, e, r⟩ := q; exact ⟨vs, by rw [upd_ne ne]; exact e, hR r⟩
    | dK ks ds => obtain ⟨vs, e, z, r⟩ := q; exact ⟨vs, by rw [upd_ne ne]; exact e, z, hR r⟩
    | dT ks ds => obtain ⟨vs, e, z, r⟩ := q; exact ⟨vs, by rw [upd_ne ne]; exact e, z, hR r⟩
    | ins C ns ds => obtain ⟨dx, vs, e, z, r⟩ := q; exact ⟨dx, vs, by rw [upd_ne ne]; exact e, z, hR r⟩
    | tupP ds => obtain ⟨vs, o, e, z, r⟩ := q; exact ⟨vs, o, by rw [upd_ne ne]; exact e, z, hR r⟩
    | deck k b =>
      have h0 : ∀ x, (M x = some (.part a) ∨ x = a) → ∃ w, H x = some w := fun x z => by
        rcases z with z | z
        · exact m.there z
        · rw [z]; exact m.there e
      have nx : ∀ x, (M x = some (.part a) ∨ x = a) → x ≠ D0 := fun x z y => by
        obtain ⟨w, hw⟩ := h0 x z
        rw [y, h] at hw; cases hw
      exact DeckRep.keep q (fun x u z e => by rw [upd_ne (nx x z)]; exact e) (fun x z e => by rw [upd_ne (nx x z)]; exact e) (fun _ z => z) (fun x w ex mx px => by
        have ne' : x ≠ D0 := fun z => by rw [z, h] at ex; cases ex
        exact ⟨by rw [upd_ne ne']; exact ex, mx, fun z => z.elim px ne'⟩)
    | part _ => exact m1.obj a _ e
  · rcases q with q | q
    · exact m1.prv a q
    · subst q; exact ⟨⟨o, upd_same⟩, mD⟩
theorem MRep.bare (m : MRep (K.hide D0) H M) : MRep K H M := by
  refine ⟨fun a u e => ?_, fun a q => m.prv a (.inl q)⟩
  have q := m.obj a u e
  cases u with
  | lst ds => obtain ⟨vs, e, r⟩ := q; exact ⟨vs, e, r.bare⟩
  | dK ks ds => obtain ⟨vs, e, z, r⟩ := q; exact ⟨vs, e, z, r.bare⟩
  | dT ks ds => obtain ⟨vs, e, z, r⟩ := q; exact ⟨vs, e, z, r.bare⟩
  | ins C ns ds => obtain ⟨dx, vs, e, z, r⟩ := q; exact ⟨dx, vs, e, z, r.bare⟩
  | tupP ds => obtain ⟨vs, o, e, z, r⟩ := q; exact ⟨vs, o, e, z, r.bare⟩
  | deck k b => exact DeckRep.keep (K := K.hide D0) (K' := K) q (fun x u _ e => e) (fun x _ e => e) (fun _ z => z) (fun x w ex mx px => ⟨ex, mx, fun z => px (.inl z)⟩)
  | part _ => exact q
theorem MRep.priv {o : HO} (m : MRep K H M) (h : K.P D0) : MRep K (upd H D0 o) M := by
  obtain ⟨⟨w, hw⟩, mD⟩ := m.prv D0 h
  refine ⟨fun a u e => ?_, fun a q => ?_⟩
  · have q := m.obj a u e
    have ne : ∀ x, M x ≠ none → x ≠ D0 := fun x hx z => by rw [z] at hx; exact hx mD
    have na : a ≠ D0 := ne a (by rw [e]; exact fun z => nomatch z)
    cases u with
    | lst ds => obtain ⟨vs, e, r⟩ := q; exact ⟨vs, by rw [upd_ne na]; exact e, r.priv h⟩
    | dK ks ds => obtain ⟨vs, e, z, r⟩ := q; exact ⟨vs, by rw [upd_ne na]; exact e, z, r.priv h⟩
    | dT ks ds => obtain ⟨vs, e, z, r⟩ := q; exact ⟨vs, by rw [upd_ne na]; exact e, z, r.priv h⟩
    | ins C ns ds => obtain ⟨dx, vs, e, z, r⟩ := q; exact ⟨dx, vs, by rw [upd_ne na]; exact e, z, r.priv h⟩
    | tupP ds => obtain ⟨vs, o, e, z, r⟩ := q; exact ⟨vs, o, by rw [upd_ne na]; exact e, z, r.priv h⟩
    | deck k b =>
      have nx : ∀ x, (M x = some (.part a) ∨ x = a) → x ≠ D0 := fun x z => by
        rcases z with z | z
        · exact ne x (by rw [z]; exact fun z => nomatch z)
        · rw [z]; exact na
      exact DeckRep.keep q (fun x u z e => by rw [upd_ne (nx x z)]; exact e) (fun x z e => by rw [upd_ne (nx x z)]; exact e) (fun _ z => z) (fun x w ex mx px => ⟨by rw [upd_ne (show x ≠ D0 from fun z => px (z ▸ h))]; exact ex, mx, px⟩)
    | part _ => obtain ⟨u, e⟩ := q; exact ⟨u, by rw [upd_ne na]; exact e⟩
  · obtain ⟨⟨u, hu⟩, ma⟩ := m.prv a q
    by_cases z : a = D0
    · subst z; exact ⟨⟨o, upd_same⟩, ma⟩
    · exact ⟨⟨u, by rw [upd_ne z]; exact hu⟩, ma⟩
end

/-! ### states, readings -/
structure SRep (K : Fg) (σ : St) (H : Hp) (ρ : Env) (M : Mem) : Prop where
  len : σ.length = ρ.length
  env : ∀ (i : Nat) (d : D), ρ[i]? = some (some d) → ∃ v, σ[i]? = some (some v) ∧ Rep K H M d v
  mem : MRep K H M
theorem SRep.step {K : Fg} {σ : St} {H H' : Hp} {ρ : Env} {M M' : Mem} (s : SRep K σ H ρ M) (f : Fr H M H' M') (m : MRep K H' M') : SRep K σ H' ρ M' :=
  ⟨s.len, fun i d e => let ⟨v, q, r⟩ := s.env i d e; ⟨v, q, r.mono f⟩, m⟩
theorem SRep.set {K : Fg} {σ : St} {H : Hp} {ρ : Env} {M : Mem} {i : Nat} {d : D} {v : V} (s : SRep K σ H ρ M) (r : Rep K H M d v) : SRep K (σ.set i (some v)) H (ρ.set i (some d)) M := by
  refine ⟨by rw [List.length_set, List.length_set]; exact s.len, fun j e h => ?_, s.mem⟩
  by_cases c : i = j
  · subst c
    by_cases l : i < ρ.length
    · rw [List.getElem?_set_self l] at h
      cases h
      exact ⟨v, List.getElem?_set_self (by rw [s.len]; exact l), r⟩
    · rw [List.getElem?_eq_none (by rw [List.length_set]; omega)] at h
      cases h
  · rw [List.getElem?_set_ne c] at h
    obtain ⟨u, q, w⟩ := s.env j e h
    exact ⟨u, by rw [List.getElem?_set_ne c]; exact q, w⟩
theorem SRep.clear {K : Fg} {σ : St} {H : Hp} {ρ : Env} {M : Mem} (i : Nat) (s : SRep K σ H ρ M) : SRep K (σ.set i none) H (ρ.set i none) M := by
  refine ⟨by rw [List.length_set, List.length_set]; exact s.len, fun j e h => ?_, s.mem⟩
  by_cases c : i = j
  · subst c
    by_cases l : i < ρ.length
    · rw [List.getElem?_set_self l] at h
      cases h
    · rw [List.getElem?_eq_none (by rw [List.length_set]; omega)] at h
      cases h
  · rw [List.getElem?_set_ne c] at h
    obtain ⟨u, q, w⟩ := s.env j e h
    exact ⟨u, by rw [List.getElem?_set_ne c]; exact q, w⟩
theorem SRep.wipe {K : Fg} {σ : St} {H : Hp} {ρ : Env} {M : Mem} (s : SRep K σ H ρ M) : ∀ vs : List Nat, SRep K (L2.wipe σ vs) H (DL.wipe ρ vs) M
  | [] => s
  | v :: vs => (SRep.wipe s vs).clear v

theorem SRep.hides {K : Fg} {σ : St} {H : Hp} {ρ : Env} {M : Mem} {P' : Addr → Prop} (s : SRep K σ H ρ M) (h : ∀ a o, H a = some o → P' a → K.P a) (m : MRep ⟨K.K, P'⟩ H M) : SRep ⟨K.K, P'⟩ σ H ρ M :=
  ⟨s.len, fun i d e => let ⟨v, q, r⟩ := s.env i d e; ⟨v, q, r.hides h⟩, m⟩
def Lift (K : Fg) (H : Hp) (M : Mem) (Q : DK) (Q' : VK) : Prop := ∀ v H' d M', Fr H M H' M' → Rep K H' M' d v → MRep K H' M' → Q d M' → Q' v H'
def LiftB (K : Fg) (H : Hp) (M : Mem) (Q : BK) (Q' : Bool → Hp → Prop) : Prop := ∀ b H' M', Fr H M H' M' → MRep K H' M' → Q b M' → Q' b H'
def LiftA (K : Fg) (H : Hp) (M : Mem) (n : Nat) (Q : List D → Mem → Prop) (Q' : List V → Hp → Prop) : Prop := ∀ vs H' ds M', Fr H M H' M' → Reps K H' M' ds vs → ds.length = n → MRep K H' M' → Q ds M' → Q' vs H'
def LiftS (K : Fg) (H : Hp) (M : Mem) (Q : Env → Mem → Prop) (Q' : St → Hp → Prop) : Prop := ∀ σ' H' ρ' M', Fr H M H' M' → SRep K σ' H' ρ' M' → Q ρ' M' → Q' σ' H'
theorem Lift.later {K : Fg} {H H' : Hp} {M M' : Mem} {Q : DK} {Q' : VK} (l : Lift K H M Q Q') (f : Fr H M H' M') : Lift K H' M' Q Q' := fun v H2 d M2 f2 => l v H2 d M2 (f.trans f2)
theorem LiftB.later {K : Fg} {H H' : Hp} {M M' : Mem} {Q : BK} {Q' : Bool → Hp → Prop} (l : LiftB K H M Q Q') (f : Fr H M H' M') : LiftB K H' M' Q Q' := fun v H2 M2 f2 => l v H2 M2 (f.trans f2)
theorem LiftS.later {K : Fg} {H H' : Hp} {M M' : Mem} {Q : Env → Mem → Prop} {Q' : St → Hp → Prop} (l : LiftS K H M Q Q') (f : Fr H M H' M') : LiftS K H' M' Q Q' := fun v H2 d M2 f2 => l v H2 d M2 (f.trans f2)
def Ref (K : Fg) (te : TE) (t : DE) : Prop := ∀ σ H ρ M Q Q', SRep K σ H ρ M → t ρ M Q → Lift K H M Q Q' → te σ H Q'
def RefT (K : Fg) (te : TT) (t : DT) : Prop := ∀ σ H ρ M Q Q', SRep K σ H ρ M → t ρ M Q → LiftB K H M Q Q' → te σ H Q'
def RefA (K : Fg) (n : Nat) (te : TA) (t : DA) : Prop := ∀ σ H ρ M Q Q', SRep K σ H ρ M → t ρ M Q → LiftA K H M n Q Q' → te σ H Q'
structure LiftE (K : Fg) (H : Hp) (M : Mem) (E : DEnds) (E' : Ends) : Prop where
  nx : LiftS K H M E.nx E'.nx
  rt : Lift K H M E.rt E'.rt
  bk : LiftS K H M E.bk E'.bk
  ct : LiftS K H M E.ct E'.ct
theorem LiftE.later {K : Fg} {H H' : Hp} {M M' : Mem} {E : DEnds} {E' : Ends} (l : LiftE K H M E E') (f : Fr H M H' M') : LiftE K H' M' E E' := ⟨l.nx.later f, l.rt.later f, l.bk.later f, l.ct.later f⟩
def RefS (K : Fg) (ts : TS) (t : DS) : Prop := ∀ σ H ρ M E E', SRep K σ H ρ M → t E ρ M → LiftE K H M E E' → ts E' σ H
def RefG (K : Fg) (tg : TG) (g : DG) : Prop := ∀ v d σ H ρ M Q Q', SRep K σ H ρ M → Rep K H M d v → g d ρ M Q → LiftS K H M Q Q' → tg v σ H Q'
def RefGs (K : Fg) (tg : TGs) (g : DGs) : Prop := ∀ vs ds σ H ρ M Q Q', SRep K σ H ρ M → Reps K H M ds vs → g ds ρ M Q → LiftS K H M Q Q' → tg vs σ H Q'
def RefR (K : Fg) (r : L2.R2) (rd : DL.R2) : Prop := ∀ x y H M dx dy Q Q', Rep K H M dx x → Rep K H M dy y → MRep K H M → rd dx dy M Q → Lift K H M Q Q' → r x y H Q'
def RefR1 (K : Fg) (r : List V → Hp → VK → Prop) (rd : R1) : Prop := ∀ x H M dx Q Q', Rep K H M dx x → MRep K H M → rd dx M Q → Lift K H M Q Q' → r [x] H Q'
structure RE (X : Cx) (e : Expr) (te : TE) (t : DE) : Prop where
  pe : PE X e te
  rf : ∀ P, Ref ⟨X.K, P⟩ te t
structure RT (X : Cx) (e : Expr) (te : TT) (t : DT) : Prop where
  pt : PT X e te
  rf : ∀ P, RefT ⟨X.K, P⟩ te t
structure RW (X : Cx) (e : Expr) (te : TT) (t : DT) : Prop where
  pw : PW X e te
  rf : ∀ P, RefT ⟨X.K, P⟩ te t
structure RA (X : Cx) (es : List Expr) (te : TA) (t : DA) : Prop where
  pa : PA X es te
  rf : ∀ P, RefA ⟨X.K, P⟩ es.length te t
structure RS (X : Cx) (st : Stmt) (ts : TS) (t : DS) : Prop where
  ps : PS X st ts
  rf : ∀ P, RefS ⟨X.K, P⟩ ts t
structure RSs (X : Cx) (st : List Stmt) (ts : TS) (t : DS) : Prop where
  ps : PSs X st ts
  rf : ∀ P, RefS ⟨X.K, P⟩ ts t
structure RG (X : Cx) (e : Expr) (tg : TG) (g : DG) : Prop where
  pg : PG X e tg
  rf : ∀ P, RefG ⟨X.K, P⟩ tg g
structure RGs (X : Cx) (es : List Expr) (tg : TGs) (g : DGs) : Prop where
  pg : PGs X es tg
  rf : ∀ P, RefGs ⟨X.K, P⟩ tg g
/-- what is walked: at every later heap the items come as they were told -/
structure Gives (K : Fg) (J : It) (ds : List D) (H : Hp) (M : Mem) : Prop where
  go : ∀ i H' M', Fr H M H' M' → i < ds.length → J.go i H'
  stop : ∀ H' M', Fr H M H' M' → J.stop ds.length H'
  yld : ∀ (P' : Addr → Prop), (∀ a o, H a = some o → P' a → K.P a) → ∀ i H' M' x H2, Fr H M H' M' → MRep ⟨K.K, P'⟩ H' M' → J.yld i H' x H2 → ∀ d, ds[i]? = some d → Fr H' M' H2 M' ∧ MRep ⟨K.K, P'⟩ H2 M' ∧ Rep ⟨K.K, P'⟩ H2 M' d x
def RefI (K : Fg) (wi : TI) (t : DI) : Prop := ∀ σ H ρ M (R : List D → Mem → Prop) (R' : It → Hp → Prop), SRep K σ H ρ M → t ρ M R → (∀ J H' ds M', Fr H M H' M' → MRep K H' M' → Gives K J ds H' M' → R ds M' → R' J H') → wi σ H R'
structure RI (X : Cx) (tg e : Expr) (wi : TI) (t : DI) : Prop where
  pi : PI X tg e wi
  rf : ∀ P, RefI ⟨X.K, P⟩ wi t
end DL
/-! DLR: the rules. -/
namespace DL
open PySem PySem.Spec PyProof.Rows L2

section
variable {K : Fg}
/-! ### readings of expressions -/
theorem ref_var (i : Nat) : Ref K (tVar i) (dV i) := fun σ H ρ M Q Q' s h l => by
  unfold dV at h
  split at h
  · rename_i d e
    obtain ⟨v, q, r⟩ := s.env i d e
    exact ⟨v, q, l v H d M (Fr.refl H M) r s.mem h⟩
  · exact h.elim
theorem ref_c {d : D} {v : V} (hc : ∀ H M, Rep K H M d v) : Ref K (tC v) (dC d) := fun σ H ρ M Q Q' s h l => l v H d M (Fr.refl H M) (hc H M) s.mem h
variable {ta tb tc te : TE} {t u w : DE} {tA : TA} {a : DA} {n : Nat} {tt tu : TT} {b c : DT}
theorem refA_nil : RefA K 0 tNil dA0 := fun σ H ρ M Q Q' s h l => l [] H [] M (Fr.refl H M) rfl rfl s.mem h
theorem refA_cons (h1 : Ref K ta t) (h2 : RefA K n tA a) : RefA K (n + 1) (tCons ta tA) (dA t a) := fun σ H ρ M Q Q' s h l =>
  h1 σ H ρ M _ _ s h fun v H1 d M1 f1 r1 m1 q1 => h2 σ H1 ρ M1 _ _ (s.step f1 m1) q1 fun vs H2 ds M2 f2 r2 n2 m2 q2 =>
    l (v :: vs) H2 (d :: ds) M2 (f1.trans f2) ⟨v, vs, rfl, r1.mono f2, r2⟩ (by rw [List.length_cons, n2]) m2 q2
theorem ref_tup (hn : n ≤ SZ) (h : RefA K n tA a) : Ref K (tTup tA) (dTup a) := fun σ H ρ M Q Q' s q l =>
  h σ H ρ M _ _ s q fun vs H1 ds M1 f1 r1 n1 m1 q1 => ⟨szLe (by rw [← r1.length, n1]; exact hn), fun p hp =>
    l _ _ _ _ (f1.trans (Fr.new hp)) (rep_newT m1 hp r1) (m1.new hp) q1⟩
theorem ref_lst (hn : n ≤ SZ) (h : RefA K n tA a) : Ref K (tLst tA) (dLst a) := fun σ H ρ M Q Q' s q l =>
  h σ H ρ M _ _ s q fun vs H1 ds M1 f1 r1 n1 m1 q1 => ⟨szLe (by rw [← r1.length, n1]; exact hn), fun p hp =>
    l _ _ _ _ (f1.trans (Fr.new hp)) (rep_newL m1 hp r1) (m1.new hp) q1⟩
theorem ref_new (hn : n ≤ SZ) (h : RefA K n tA a) : Ref K (tLst tA) (dNew a) := fun σ H ρ M Q Q' s q l =>
  h σ H ρ M _ _ s q fun vs H1 ds M1 f1 r1 n1 m1 q1 => ⟨szLe (by rw [← r1.length, n1]; exact hn), fun p hp =>
    l _ _ (.ref p) _ (f1.trans (Fr.newM hp)) rfl (mrep_newM m1 hp r1) (q1 p (m1.free hp))⟩
theorem ref_op {r : L2.R2} {rd : DL.R2} (hr : RefR K r rd) (h1 : Ref K ta t) (h2 : Ref K tb u) : Ref K (tOp r ta tb) (dOp rd t u) := fun σ H ρ M Q Q' s q l =>
  h1 σ H ρ M _ _ s q fun v H1 d M1 f1 r1 m1 q1 => h2 σ H1 ρ M1 _ _ (s.step f1 m1) q1 fun v2 H2 d2 M2 f2 r2 m2 q2 =>
    hr v v2 H2 M2 d d2 _ _ (r1.mono f2) r2 m2 q2 (l.later (f1.trans f2))
theorem ref_cb1 {r : List V → Hp → VK → Prop} {rd : R1} (hr : RefR1 K r rd) (h1 : Ref K ta t) : Ref K (tCB r (tCons ta tNil)) (dUn rd t) := fun σ H ρ M Q Q' s q l =>
  h1 σ H ρ M _ _ s q fun v H1 d M1 f1 r1 m1 q1 => hr v H1 M1 d _ _ r1 m1 q1 (l.later f1)
theorem ref_un {r : V → Hp → VK → Prop} {rd : R1} (hr : RefR1 K (fun xs H Q => ∃ x, xs = [x] ∧ r x H Q) rd) (h1 : Ref K ta t) : Ref K (tUn r ta) (dUn rd t) := fun σ H ρ M Q Q' s q l =>
  h1 σ H ρ M _ _ s q fun v H1 d M1 f1 r1 m1 q1 => by
    obtain ⟨x, e, z⟩ := hr v H1 M1 d _ _ r1 m1 q1 (l.later f1)
    cases e
    exact z
/-! tests -/
theorem refT_val (h : Ref K te t) : RefT K (tB te) (dTest t) := fun σ H ρ M Q Q' s q l =>
  h σ H ρ M _ _ s q fun v H1 d M1 f1 r1 m1 q1 => by
    cases d with
    | bl k => cases r1; exact ⟨k, rfl, l k H1 M1 f1 m1 q1⟩
    | _ => exact q1.elim
theorem refT_test (h : Ref K te t) : RefT K (tTest te) (dTest t) := fun σ H ρ M Q Q' s q l =>
  h σ H ρ M _ _ s q fun v H1 d M1 f1 r1 m1 q1 => by
    cases d with
    | bl k => cases r1; exact ⟨k, rfl, l k H1 M1 f1 m1 q1⟩
    | _ => exact q1.elim
theorem refT_and (h1 : RefT K tt b) (h2 : RefT K tu c) : RefT K (tAnd tt tu) (dAnd b c) := fun σ H ρ M Q Q' s q l =>
  h1 σ H ρ M _ _ s q fun k H1 M1 f1 m1 q1 => by
    cases k with
    | true =>
      rw [if_pos rfl] at q1 ⊢
      exact h2 σ H1 ρ M1 _ _ (s.step f1 m1) q1 (l.later f1)
    | false =>
      rw [if_neg Bool.false_ne_true] at q1 ⊢
      exact l false H1 M1 f1 m1 q1
theorem refT_or (h1 : RefT K tt b) (h2 : RefT K tu c) : RefT K (tOr tt tu) (dOr b c) := fun σ H ρ M Q Q' s q l =>
  h1 σ H ρ M _ _ s q fun k H1 M1 f1 m1 q1 => by
    cases k with
    | true =>
      rw [if_pos rfl] at q1 ⊢
      exact l true H1 M1 f1 m1 q1
    | false =>
      rw [if_neg Bool.false_ne_true] at q1 ⊢
      exact h2 σ H1 ρ M1 _ _ (s.step f1 m1) q1 (l.later f1)
theorem refT_not (h1 : RefT K tt b) : RefT K (tNot tt) (dNot b) := fun σ H ρ M Q Q' s q l =>
  h1 σ H ρ M _ _ s q fun k H1 M1 f1 m1 q1 => l (!k) H1 M1 f1 m1 q1
theorem refT_yes : RefT K tYes dYes := fun σ H ρ M Q Q' s q l => l true H M (Fr.refl H M) s.mem q
theorem ref_andV (h1 : Ref K ta t) (h2 : Ref K tb u) : Ref K (tAndV ta tb) (dAndV t u) := fun σ H ρ M Q Q' s q l =>
  h1 σ H ρ M _ _ s q fun v H1 d M1 f1 r1 m1 q1 => by
    cases d with
    | bl k =>
      cases r1
      refine ⟨k, rfl, ?_⟩
      cases k with
      | true =>
        simp only [if_true] at q1 ⊢
        exact h2 σ H1 ρ M1 _ _ (s.step f1 m1) q1 (l.later f1)
      | false =>
        simp only [Bool.false_eq_true, if_false] at q1 ⊢
        exact l _ H1 (.bl false) M1 f1 rfl m1 q1
    | _ => exact q1.elim
theorem ref_orV (h1 : Ref K ta t) (h2 : Ref K tb u) : Ref K (tOrV ta tb) (dOrV t u) := fun σ H ρ M Q Q' s q l =>
  h1 σ H ρ M _ _ s q fun v H1 d M1 f1 r1 m1 q1 => by
    cases d with
    | bl k =>
      cases r1
      refine ⟨k, rfl, ?_⟩
      cases k with
      | true =>
        simp only [if_true] at q1 ⊢
        exact l _ H1 (.bl true) M1 f1 rfl m1 q1
      | false =>
        simp only [Bool.false_eq_true, if_false] at q1 ⊢
        exact h2 σ H1 ρ M1 _ _ (s.step f1 m1) q1 (l.later f1)
    | _ => exact q1.elim
theorem ref_notV (h1 : Ref K ta t) : Ref K (tNotV ta) (dNotV t) := fun σ H ρ M Q Q' s q l =>
  h1 σ H ρ M _ _ s q fun v H1 d M1 f1 r1 m1 q1 => by
    cases d with
    | bl k => cases r1; exact ⟨k, rfl, l _ H1 (.bl (!k)) M1 f1 rfl m1 q1⟩
    | _ => exact q1.elim
theorem ref_ifE (h : RefT K tt b) (h1 : Ref K ta t) (h2 : Ref K tb u) : Ref K (tIf tt ta tb) (dIfE b t u) := fun σ H ρ M Q Q' s q l =>
  h σ H ρ M _ _ s q fun k H1 M1 f1 m1 q1 => by
    cases k with
    | true =>
      rw [if_pos rfl] at q1 ⊢
      exact h1 σ H1 ρ M1 _ _ (s.step f1 m1) q1 (l.later f1)
    | false =>
      rw [if_neg Bool.false_ne_true] at q1 ⊢
      exact h2 σ H1 ρ M1 _ _ (s.step f1 m1) q1 (l.later f1)
theorem ref_chain {r r' : L2.R2} {rd rd' : DL.R2} (hr : RefR K r rd) (hr' : RefR K r' rd') (h1 : Ref K ta t) (h2 : Ref K tb u) (h3 : Ref K tc w) : Ref K (tChain r r' ta tb tc) (dChain rd rd' t u w) := fun σ H ρ M Q Q' s q l =>
  h1 σ H ρ M _ _ s q fun v H1 d M1 f1 r1 m1 q1 => h2 σ H1 ρ M1 _ _ (s.step f1 m1) q1 fun v2 H2 d2 M2 f2 r2 m2 q2 =>
    hr v v2 H2 M2 d d2 _ _ (r1.mono f2) r2 m2 q2 fun z H3 dz M3 f3 r3 m3 q3 => by
      cases dz with
      | bl k =>
        cases r3
        refine ⟨k, rfl, ?_⟩
        cases k with
        | true =>
          simp only [if_true] at q3 ⊢
          exact h3 σ H3 ρ M3 _ _ (s.step ((f1.trans f2).trans f3) m3) q3 fun v4 H4 d4 M4 f4 r4 m4 q4 =>
            hr' v2 v4 H4 M4 d2 d4 _ _ (r2.mono (f3.trans f4)) r4 m4 q4 (l.later (((f1.trans f2).trans f3).trans f4))
        | false =>
          simp only [Bool.false_eq_true, if_false] at q3 ⊢
          exact l _ H3 (.bl false) M3 ((f1.trans f2).trans f3) rfl m3 q3
      | _ => exact q3.elim
end

/-! ### operators -/
section
variable {K : Fg}
theorem fin {H : Hp} {M : Mem} {Q : DK} {Q' : VK} {d : D} {v : V} (l : Lift K H M Q Q') (m : MRep K H M) (r : Rep K H M d v) (q : Q d M) : Q' v H := l v H d M (Fr.refl H M) r m q
theorem finI {H : Hp} {M : Mem} {Q : DK} {Q' : VK} {i : Int} (l : Lift K H M Q Q') (m : MRep K H M) (q : Q (.int i) M) : Q' (.int i) H := l _ H (.int i) M (Fr.refl H M) rfl m q
theorem finB {H : Hp} {M : Mem} {Q : DK} {Q' : VK} {i : Bool} (l : Lift K H M Q Q') (m : MRep K H M) (q : Q (.bl i) M) : Q' (.bl i) H := l _ H (.bl i) M (Fr.refl H M) rfl m q
theorem finS {H : Hp} {M : Mem} {Q : DK} {Q' : VK} {i : Str} (l : Lift K H M Q Q') (m : MRep K H M) (q : Q (.str i) M) : Q' (.str i) H := l _ H (.str i) M (Fr.refl H M) rfl m q
def rAddAll (K : PySem.W.Frag) : L2.R2 := fun x y H Q => (∃ i j, x = .int i ∧ y = .int j ∧ Q (.int (i + j)) H) ∨ (∃ i j, x = .str i ∧ y = .str j ∧ i.length + j.length ≤ sizeLine ∧ Q (.str (i ++ j)) H) ∨ rCatA K x y H Q ∨ rCat x y H Q
theorem op_addAll {X : Cx} : OpR X (binaryOp .Add) (rAddAll X.K) := op_add.or (op_add_str.or (op_catA.or op_cat))
theorem rf_addL {x y : V} {H : Hp} {M : Mem} {dx dy : D} {Q : DK} {Q' : VK} (rx : Rep K H M dx x) (ry : Rep K H M dy y) (m : MRep K H M) (q : match asW M dx, asW M dy with
    | some a, some b => a.length + b.length ≤ SZ ∧ Q (.lst (a ++ b)) M
    | _, _ => False) (l : Lift K H M Q Q') : rAddAll K.K x y H Q' := by
  split at q
  · rename_i a b e1 e2
    obtain ⟨a1, v1, ex, h1, r1⟩ := asW_rep m rx e1
    obtain ⟨a2, v2, ey, h2, r2⟩ := asW_rep m ry e2
    refine .inr (.inr (.inr ⟨a1, a2, v1, v2, ex, ey, h1, h2, szLe (by rw [← r1.length, ← r2.length]; exact q.1), fun p hp => ?_⟩))
    exact l _ _ _ _ (Fr.new hp) (rep_newL m hp (r1.append r2)) (m.new hp) q.2
  · exact q.elim
theorem rf_add : RefR K (rAddAll K.K) oAdd := fun x y H M dx dy Q Q' rx ry m q l => by
  unfold oAdd at q
  split at q
  · cases rx; cases ry
    exact .inl ⟨_, _, rfl, rfl, finI l m q⟩
  · cases rx; cases ry
    exact .inr (.inl ⟨_, _, rfl, rfl, szLe q.1, finS l m q.2⟩)
  · rename_i a b
    obtain ⟨a1, v1, rfl, h1, r1⟩ := id rx
    obtain ⟨a2, v2, rfl, h2, r2⟩ := id ry
    refine .inr (.inr (.inl ⟨a1, a2, v1, v2, rfl, rfl, h1.sq, h2.sq, szLe (by rw [← r1.length, ← r2.length]; exact q.1), fun e => ?_, fun _ e => ?_, fun _ _ p hp => ?_⟩))
    · subst e
      have e : a = [] := List.eq_nil_of_length_eq_zero r1.length
      subst e
      exact fin l m ry q.2
    · subst e
      have e : b = [] := List.eq_nil_of_length_eq_zero r2.length
      subst e
      rw [List.append_nil] at q
      exact fin l m rx q.2
    · exact l _ _ _ _ (Fr.new hp) (rep_newT m hp (r1.append r2)) (m.new hp) q.2
  · exact rf_addL rx ry m q l
theorem rf_sub : RefR K (rI0 fun i j => .int (i - j)) oSub := fun x y H M dx dy Q Q' rx ry m q l => by
  unfold oSub at q
  split at q
  · cases rx; cases ry
    exact ⟨_, _, rfl, rfl, finI l m q⟩
  · exact q.elim
def rRepS : L2.R2 := fun x y H Q => ∃ i k, x = .str i ∧ y = .int k ∧ 0 ≤ k ∧ k ≤ 1000 ∧ 1 ≤ i.length ∧ i.length ≤ 100 ∧ Q (.str (repS k.toNat i)) H
theorem rep_len (x : Str) : ∀ n : Nat, (repS n x).length = n * x.length := by
  have f : ∀ (n : Nat) (a : Array Nat), ((List.replicate n x.cps).foldl (· ++ ·) a).size = a.size + n * x.cps.size := by
    intro n
    induction n with
    | zero => intro a; simp
    | succ n ih => intro a; rw [List.replicate_succ, List.foldl_cons, ih, Array.size_append, Nat.succ_mul]; omega
  intro n
  show ((List.replicate n x.cps).foldl (· ++ ·) #[]).size = n * x.cps.size
  rw [f n]
  simp
theorem op_repS {X : Cx} : OpR X (binaryOp .Mult) rRepS := by
  intro pins s σ H x y v u Q I rx ry h
  obtain ⟨i, k, rfl, rfl, h1, h2, h3, h4, q⟩ := h
  obtain ⟨t, rfl⟩ := rx
  obtain ⟨t', rfl⟩ := ry
  have hl : (repS k.toNat i).length ≤ 100000 := by
    rw [rep_len]
    calc k.toNat * i.length ≤ 1000 * 100 := Nat.mul_le_mul (by omega) h4
      _ = 100000 := rfl
  by_cases h0 : k < 1
  · have e0 : k = 0 := by omega
    subst e0
    exact PySem.P.mul_str_none h0 (by decide) ⟨.str Str.empty, H, I.tok _, ⟨_, rfl⟩, q⟩
  refine PySem.P.mul_str ?_ ?_ ?_ ?_
  · rw [decide_eq_false (by omega), decide_eq_false (by omega)]; rfl
  · intro _ _
    have : (i.length : Int) ≤ (2 ^ 63 - 1) / k := by
      refine Int.le_ediv_of_mul_le (by omega) ?_
      calc (i.length : Int) * k ≤ 100 * 1000 := Int.mul_le_mul (by omega) h2 (by omega) (by omega)
        _ ≤ 2 ^ 63 - 1 := by decide
    omega
  · intro _ _
    rw [rep_len, Nat.mul_comm] at hl
    exact decide_eq_false (Nat.not_lt.mpr (szLe hl))
  · rw [if_neg (by omega)]
    by_cases e : (k == 1 || i.length == 0) = true
    · rw [if_pos e]
      have hk : k = 1 := by
        have : i.length ≠ 0 := by omega
        simpa [this] using e
      subst hk
      have e1 : repS (1 : Int).toNat i = i := by
        show (⟨#[] ++ i.cps⟩ : Str) = i
        rw [Array.empty_append]
      rw [e1] at q
      exact ⟨.str i, H, I, ⟨_, rfl⟩, q⟩
    · rw [if_neg e]
      exact ⟨szLe hl, ⟨.str _, H, I.tok _, ⟨_, rfl⟩, q⟩⟩
theorem rf_rep : RefR K rRepS oRep := fun x y H M dx dy Q Q' rx ry m q l => by
  unfold oRep at q
  split at q
  · cases rx; cases ry
    exact ⟨_, _, rfl, rfl, Int.le_trans (by decide) q.1.1, q.1.2.1, q.1.2.2.1, q.1.2.2.2, finS l m q.2⟩
  · exact q.elim
def rMulAll : L2.R2 := fun x y H Q => (rI CMul (fun i j => .int (i * j)) x y H Q) ∨ rRepS x y H Q ∨ rRep x y H Q
theorem op_mulAll {X : Cx} : OpR X (binaryOp .Mult) rMulAll := op_mul.or (op_repS.or op_rep)
theorem reps_rep {H : Hp} {M : Mem} {ds : List D} {vs : List V} (r : Reps K H M ds vs) : ∀ n : Nat, Reps K H M (List.replicate n ds).flatten (List.replicate n vs).flatten
  | 0 => rfl
  | n + 1 => by
    rw [List.replicate_succ, List.replicate_succ, List.flatten_cons, List.flatten_cons]
    exact r.append (reps_rep r n)
theorem rf_mul : RefR K rMulAll oMul := fun x y H M dx dy Q Q' rx ry m q l => by
  unfold oMul at q
  split at q
  · cases rx; cases ry
    exact .inl ⟨_, _, rfl, rfl, q.1, finI l m q.2⟩
  · cases rx; cases ry
    exact .inr (.inl ⟨_, _, rfl, rfl, q.1.1, q.1.2.1, q.1.2.2.1, q.1.2.2.2, finS l m q.2⟩)
  · rename_i xs k
    obtain ⟨a, vs, rfl, ⟨h, ma, pa⟩, r⟩ := id rx
    cases ry
    have hl := r.length
    refine .inr (.inr ⟨a, k, vs, rfl, rfl, h, by omega, by omega, ?_, fun p hp => ?_⟩)
    · refine szLe ?_
      calc vs.length * k.toNat ≤ 100 * 1000 := Nat.mul_le_mul (by omega) (by omega)
        _ = 100000 := rfl
    · exact l _ _ _ _ (Fr.new hp) (rep_newL m hp (reps_rep r k.toNat)) (m.new hp) q.2
  · exact q.elim
theorem rf_addI : RefR K (ipI fun i j => i + j) oAddI := fun x y H M dx dy Q Q' rx ry m q l => by
  unfold oAddI at q
  split at q
  · cases rx; cases ry
    exact ⟨_, _, rfl, rfl, finI l m q⟩
  · exact q.elim
def rMax2' : List V → Hp → VK → Prop := fun xs H Q => ∃ i j, xs = [.int i, .int j] ∧ Q (.int (if j > i then j else i)) H
theorem rf_max : ∀ x y H M dx dy Q Q', Rep K H M dx x → Rep K H M dy y → MRep K H M → oMax dx dy M Q → Lift K H M Q Q' → rMax2' [x, y] H Q' := fun x y H M dx dy Q Q' rx ry m q l => by
  unfold oMax at q
  split at q
  · cases rx; cases ry
    exact ⟨_, _, rfl, finI l m q⟩
  · exact q.elim
theorem ref_cb2 {ta tb : TE} {t u : DE} {r : List V → Hp → VK → Prop} {rd : DL.R2} (hr : ∀ x y H M dx dy Q Q', Rep K H M dx x → Rep K H M dy y → MRep K H M → rd dx dy M Q → Lift K H M Q Q' → r [x, y] H Q') (h1 : Ref K ta t) (h2 : Ref K tb u) : Ref K (tCB r (tCons ta (tCons tb tNil))) (dOp rd t u) := fun σ H ρ M Q Q' s q l =>
  h1 σ H ρ M _ _ s q fun v H1 d M1 f1 r1 m1 q1 => h2 σ H1 ρ M1 _ _ (s.step f1 m1) q1 fun v2 H2 d2 M2 f2 r2 m2 q2 =>
    hr v v2 H2 M2 d d2 _ _ (r1.mono f2) r2 m2 q2 (l.later (f1.trans f2))
theorem rf_fdiv : RefR K (rI CDivW fun i j => .int (i / j)) oFdiv := fun x y H M dx dy Q Q' rx ry m q l => by
  unfold oFdiv at q
  split at q
  · cases rx; cases ry
    exact ⟨_, _, rfl, rfl, wide_div (b := 200) q.1.1 (by have h1 := q.1.1; have h2 := q.1.2; omega) (by decide) (by decide), finI l m q.2⟩
  · exact q.elim
theorem rf_mod : RefR K (rI (fun _ j => 0 < j) fun i j => .int (i % j)) oMod := fun x y H M dx dy Q Q' rx ry m q l => by
  unfold oMod at q
  split at q
  · cases rx; cases ry
    exact ⟨_, _, rfl, rfl, q.1, finI l m q.2⟩
  · exact q.elim
theorem rf_pow : RefR K (rI CPow fun i j => .int (i ^ j.toNat)) oPow := fun x y H M dx dy Q Q' rx ry m q l => by
  unfold oPow at q
  split at q
  · cases rx; cases ry
    exact ⟨_, _, rfl, rfl, q.1, finI l m q.2⟩
  · exact q.elim
theorem rf_neg : RefR1 K (fun xs H Q => ∃ x, xs = [x] ∧ rU (fun i => .int (-i)) x H Q) oNeg := fun x H M dx Q Q' rx m q l => by
  unfold oNeg at q
  split at q
  · cases rx
    exact ⟨_, rfl, _, rfl, finI l m q⟩
  · exact q.elim
theorem rf_lt : RefR K (rI0 fun i j => .bl (decide (i < j))) oLt := fun x y H M dx dy Q Q' rx ry m q l => by
  unfold oLt at q
  split at q
  · cases rx; cases ry
    exact ⟨_, _, rfl, rfl, finB l m q⟩
  · exact q.elim
theorem rf_le : RefR K (rI0 fun i j => .bl (decide (i ≤ j))) oLe := fun x y H M dx dy Q Q' rx ry m q l => by
  unfold oLe at q
  split at q
  · cases rx; cases ry
    exact ⟨_, _, rfl, rfl, finB l m q⟩
  · exact q.elim
theorem rf_gt : RefR K (rI0 fun i j => .bl (decide (j < i))) oGt := fun x y H M dx dy Q Q' rx ry m q l => by
  unfold oGt at q
  split at q
  · cases rx; cases ry
    exact ⟨_, _, rfl, rfl, finB l m q⟩
  · exact q.elim
theorem rf_ge : RefR K (rI0 fun i j => .bl (decide (j ≤ i))) oGe := fun x y H M dx dy Q Q' rx ry m q l => by
  unfold oGe at q
  split at q
  · cases rx; cases ry
    exact ⟨_, _, rfl, rfl, finB l m q⟩
  · exact q.elim
/-! equality -/
mutual
def toPy : D → PyData
  | .non => .none
  | .bl b => .bool b
  | .int i => .int i
  | .str x => .str x
  | .tup xs => .tuple (toPys xs)
  | .lst xs => .list (toPys xs)
  | _ => .none
def toPys : List D → List PyData
  | [] => []
  | x :: xs => toPy x :: toPys xs
end
mutual
theorem dp_of {H : Hp} {M : Mem} : ∀ {d : D} {v : V}, plain d = true → Rep K H M d v → Dp K.K H v (toPy d)
  | .non, _, _, h => by cases h; exact .non
  | .bl b, _, _, h => by cases h; exact .bl b
  | .int i, _, _, h => by cases h; exact .int i
  | .str x, _, _, h => by cases h; exact .str x
  | .tup xs, _, p, ⟨a, vs, e, q, r⟩ => by
    subst e
    exact .tup q.sq (dps_of (by simpa [plain] using p) r)
  | .lst xs, _, p, ⟨a, vs, e, q, r⟩ => by
    subst e
    exact .lst (.of q.1) (dps_of (by simpa [plain] using p) r)
  | .ref _, _, p, _ => by simp [plain] at p
  | .rol _, _, p, _ => by simp [plain] at p
  | .dK _ _, _, p, _ => by simp [plain] at p
  | .dT _ _, _, p, _ => by simp [plain] at p
  | .ins _ _ _ _, _, p, _ => by simp [plain] at p
  | .ty _, _, p, _ => by simp [plain] at p
  | .cls _, _, p, _ => by simp [plain] at p
theorem dps_of {H : Hp} {M : Mem} : ∀ {ds : List D} {vs : List V}, plains ds = true → Reps K H M ds vs → DpAll K.K H vs (toPys ds)
  | [], _, _, h => by rw [show _ = [] from h]; exact .nil
  | d :: ds, _, p, ⟨v, r, e, h, t⟩ => by
    subst e
    simp only [plains, Bool.and_eq_true] at p
    exact .cons (dp_of p.1 h) (dps_of p.2 t)
end
mutual
theorem eqv_py : ∀ d e : D, plain d = true → plain e = true → PyData.eqv (toPy d) (toPy e) = eqv d e
  | .non, e, _, q => by cases e <;> simp_all [toPy, PyData.eqv, eqv, plain]
  | .bl b, e, _, q => by cases e <;> simp_all [toPy, PyData.eqv, eqv, plain]
  | .int i, e, _, q => by cases e <;> simp_all [toPy, PyData.eqv, eqv, plain]
  | .str x, e, _, q => by cases e <;> simp_all [toPy, PyData.eqv, eqv, plain]
  | .tup xs, e, p, q => by
    cases e with
    | tup ys =>
      simp only [toPy, PyData.eqv, eqv]
      exact eqvs_py xs ys (by simpa [plain] using p) (by simpa [plain] using q)
    | _ => simp_all [toPy, PyData.eqv, eqv, plain]
  | .lst xs, e, p, q => by
    cases e with
    | lst ys =>
      simp only [toPy, PyData.eqv, eqv]
      exact eqvs_py xs ys (by simpa [plain] using p) (by simpa [plain] using q)
    | _ => simp_all [toPy, PyData.eqv, eqv, plain]
  | .ref _, _, p, _ => by simp [plain] at p
  | .rol _, _, p, _ => by simp [plain] at p
  | .dK _ _, _, p, _ => by simp [plain] at p
  | .dT _ _, _, p, _ => by simp [plain] at p
  | .ins _ _ _ _, _, p, _ => by simp [plain] at p
  | .ty _, _, p, _ => by simp [plain] at p
  | .cls _, _, p, _ => by simp [plain] at p
theorem eqvs_py : ∀ ds es : List D, plains ds = true → plains es = true → PyData.eqvAll (toPys ds) (toPys es) = eqvs ds es
  | [], [], _, _ => by simp [toPys, PyData.eqvAll, eqvs]
  | [], _ :: _, _, _ => by simp [toPys, PyData.eqvAll, eqvs]
  | _ :: _, [], _, _ => by simp [toPys, PyData.eqvAll, eqvs]
  | d :: ds, e :: es, p, q => by
    simp only [plains, Bool.and_eq_true] at p q
    simp only [toPys, PyData.eqvAll, eqvs]
    rw [eqv_py d e p.1 q.1, eqvs_py ds es p.2 q.2]
end
mutual
theorem lay_py : ∀ d : D, plain d = true → (toPy d).canLay0 = true
  | .non, _ => by simp [toPy, PyData.canLay0]
  | .bl _, _ => by simp [toPy, PyData.canLay0]
  | .int _, _ => by simp [toPy, PyData.canLay0]
  | .str x, p => by
    simp only [toPy, PyData.canLay0]
    have q : strOk x = true := by simpa [plain] using p
    exact q
  | .tup xs, p => by
    simp only [toPy, PyData.canLay0]
    exact lays_py xs (by simpa [plain] using p)
  | .lst xs, p => by
    simp only [toPy, PyData.canLay0]
    exact lays_py xs (by simpa [plain] using p)
  | .ref _, p => by simp [plain] at p
  | .rol _, p => by simp [plain] at p
  | .dK _ _, p => by simp [plain] at p
  | .dT _ _, p => by simp [plain] at p
  | .ins _ _ _ _, p => by simp [plain] at p
  | .ty _, p => by simp [plain] at p
  | .cls _, p => by simp [plain] at p
theorem lays_py : ∀ ds : List D, plains ds = true → PyData.canLayAll0 (toPys ds) = true
  | [], _ => by simp [toPys, PyData.canLayAll0]
  | d :: ds, p => by
    simp only [plains, Bool.and_eq_true] at p
    simp only [toPys, PyData.canLayAll0, Bool.and_eq_true]
    exact ⟨lay_py d p.1, lays_py ds p.2⟩
end

mutual
theorem depth_py : ∀ d : D, (toPy d).depth ≤ depth d
  | .non => by simp [toPy, PyData.depth]
  | .bl _ => by simp [toPy, PyData.depth]
  | .int _ => by simp [toPy, PyData.depth]
  | .str x => by simp [toPy, PyData.depth]
  | .tup xs => by
    simp only [toPy, PyData.depth, depth]
    have := depths_py xs
    omega
  | .lst xs => by
    simp only [toPy, PyData.depth, depth]
    have := depths_py xs
    omega
  | .ref _ => by simp [toPy, PyData.depth]
  | .rol _ => by simp [toPy, PyData.depth]
  | .dK _ _ => by simp [toPy, PyData.depth]
  | .dT _ _ => by simp [toPy, PyData.depth]
  | .ins _ _ _ _ => by simp [toPy, PyData.depth]
  | .ty _ => by simp [toPy, PyData.depth]
  | .cls _ => by simp [toPy, PyData.depth]
theorem depths_py : ∀ ds : List D, PyData.depthAll (toPys ds) ≤ depths ds
  | [] => by simp [toPys, PyData.depthAll]
  | d :: ds => by
    simp only [toPys, PyData.depthAll, depths]
    have h1 := depth_py d
    have h2 := depths_py ds
    omega
end
theorem shaped_of {d : D} (h : cmpOk d = true) : SeqAt.shaped (toPy d) = true := by
  simp only [cmpOk, Bool.and_eq_true, decide_eq_true_eq] at h
  simp only [SeqAt.shaped, Bool.and_eq_true, decide_eq_true_eq]
  exact ⟨lay_py d h.1, Nat.le_trans (depth_py d) h.2⟩
theorem cmp_plain {d : D} (h : cmpOk d = true) : plain d = true := by
  simp only [cmpOk, Bool.and_eq_true] at h
  exact h.1
/-- a list of the memory, compared -/
theorem dp_asC {H : Hp} {M : Mem} {d : D} {v : V} (m : MRep K H M) (r : Rep K H M d v) (h : cmpOk (asC M d) = true) : Dp K.K H v (toPy (asC M d)) := by
  cases d with
  | ref a =>
    cases r
    simp only [asC] at h ⊢
    cases e : M a with
    | none => rw [e] at h; simp [cmpOk, plain] at h
    | some o =>
      rw [e] at h
      cases o with
      | lst xs =>
        obtain ⟨vs, q, rr⟩ := m.obj a _ e
        exact .lst (.of q) (dps_of (by simpa [plain] using cmp_plain h) rr)
      | _ => simp [cmpOk, plain] at h
  | _ => exact dp_of (cmp_plain h) r
def rEqAll (K : PySem.W.Frag) : L2.R2 := fun x y H Q => L2.rEq x y H Q ∨ rEqD K x y H Q
def rNeAll (K : PySem.W.Frag) : L2.R2 := fun x y H Q => L2.rNe x y H Q ∨ rNeD K x y H Q
theorem op_eqAll {X : Cx} (hu : X.A.units + 64 < cLine) : OpR X (compareOp .Eq) (rEqAll X.K) := op_eq.or (op_eqD hu)
theorem op_neAll {X : Cx} (hu : X.A.units + 64 < cLine) : OpR X (compareOp .NotEq) (rNeAll X.K) := op_ne.or (op_neD hu)
theorem dec_V {x y : V} {p : Prop} [Decidable p] (h : x = y ↔ p) : decide (x = y) = decide p := by
  by_cases c : p
  · rw [decide_eq_true c, decide_eq_true (h.mpr c)]
  · rw [decide_eq_false c, decide_eq_false (fun z => c (h.mp z))]
theorem eqB_cases {H : Hp} {M : Mem} {dx dy : D} {x y : V} {Q : BK} (rx : Rep K H M dx x) (ry : Rep K H M dy y) (m : MRep K H M) (q : eqB dx dy M Q) :
    (scal x y = true ∧ Q (decide (x = y)) M) ∨ ∃ d e, Dp K.K H x d ∧ Dp K.K H y e ∧ SeqAt.shaped d = true ∧ SeqAt.shaped e = true ∧ Q (PyData.eqv d e) M := by
  unfold eqB at q
  split at q
  · cases rx; cases ry
    exact .inl ⟨rfl, by rw [dec_V ⟨fun e => V.str.inj e, fun e => by rw [e]⟩]; exact q⟩
  · cases rx; cases ry
    exact .inl ⟨rfl, by rw [dec_V ⟨fun e => V.int.inj e, fun e => by rw [e]⟩]; exact q⟩
  · cases rx; cases ry
    exact .inl ⟨rfl, by rw [dec_V ⟨fun e => V.bl.inj e, fun e => by rw [e]⟩]; exact q⟩
  · refine .inr ⟨_, _, dp_asC m rx q.1, dp_asC m ry q.2.1, shaped_of q.1, shaped_of q.2.1, ?_⟩
    rw [eqv_py _ _ (cmp_plain q.1) (cmp_plain q.2.1)]
    exact q.2.2
theorem rf_eq : RefR K (rEqAll K.K) oEq := fun x y H M dx dy Q Q' rx ry m q l => by
  rcases eqB_cases rx ry m q with ⟨h, q⟩ | ⟨d, e, h1, h2, h3, h4, q⟩
  · exact .inl ⟨h, finB l m q⟩
  · exact .inr ⟨d, e, h1, h2, h3, h4, finB l m q⟩
theorem rf_ne : RefR K (rNeAll K.K) oNe := fun x y H M dx dy Q Q' rx ry m q l => by
  rcases eqB_cases rx ry m q with ⟨h, q⟩ | ⟨d, e, h1, h2, h3, h4, q⟩
  · exact .inl ⟨h, finB l m q⟩
  · exact .inr ⟨d, e, h1, h2, h3, h4, finB l m q⟩
theorem non_iff {H : Hp} {M : Mem} {d : D} {x : V} (r : Rep K H M d x) : decide (x = .non) = (match d with | .non => true | _ => false) := by
  cases d with
  | non => cases r; rfl
  | bl _ => cases r; rfl
  | int _ => cases r; rfl
  | str _ => cases r; rfl
  | ref _ => cases r; rfl
  | ty _ => cases r; rfl
  | cls _ => cases r; rfl
  | tup _ => obtain ⟨a, vs, rfl, _⟩ := r; rfl
  | lst _ => obtain ⟨a, vs, rfl, _⟩ := r; rfl
  | rol _ => obtain ⟨a, vs, rfl, _⟩ := r; rfl
  | dK _ _ => obtain ⟨a, vs, rfl, _⟩ := r; rfl
  | dT _ _ => obtain ⟨a, vs, rfl, _⟩ := r; rfl
  | ins _ _ _ _ => obtain ⟨a, dx, vs, rfl, _⟩ := r; rfl
theorem ref_isN {ta : TE} {t : DE} (h1 : Ref K ta t) : Ref K (tIsN ta) (dUn oIsN t) := fun σ H ρ M Q Q' s q l =>
  h1 σ H ρ M _ _ s q fun v H1 d M1 f1 r1 m1 q1 => by
    rw [non_iff r1]
    cases d <;> exact finB (l.later f1) m1 q1
theorem ref_notN {ta : TE} {t : DE} (h1 : Ref K ta t) : Ref K (tNotN ta) (dUn oNotN t) := fun σ H ρ M Q Q' s q l =>
  h1 σ H ρ M _ _ s q fun v H1 d M1 f1 r1 m1 q1 => by
    rw [non_iff r1]
    cases d <;> exact finB (l.later f1) m1 q1
/-! in -/
theorem flat_rep {H : Hp} {M : Mem} {d : D} {x : V} (h : flat d = true) (r : Rep K H M d x) : flatV x = true := by
  cases d with
  | non => cases r; rfl
  | bl _ => cases r; rfl
  | int _ => cases r; rfl
  | str _ => cases r; rfl
  | _ => simp [flat] at h
theorem flat_eqv {H : Hp} {M : Mem} {d e : D} {x y : V} (h : flat d = true) (g : flat e = true) (r : Rep K H M d x) (q : Rep K H M e y) : eqV x y = eqv d e := by
  cases d with
  | non => cases r; cases e <;> first | (cases q; rfl) | simp [flat] at g
  | bl _ => cases r; cases e <;> first | (cases q; rfl) | simp [flat] at g
  | int _ => cases r; cases e <;> first | (cases q; rfl) | simp [flat] at g
  | str _ => cases r; cases e <;> first | (cases q; rfl) | simp [flat] at g
  | _ => simp [flat] at h
theorem flat_all {H : Hp} {M : Mem} {x : V} {d : D} (g : flat d = true) (q : Rep K H M d x) : ∀ {ds : List D} {vs : List V}, ds.all flat = true → Reps K H M ds vs → vs.all flatV = true ∧ inV x vs = ds.any fun z => eqv z d
  | [], _, _, h => by rw [show _ = [] from h]; exact ⟨rfl, rfl⟩
  | e :: ds, _, p, ⟨v, r, e', h, t⟩ => by
    subst e'
    simp only [List.all_cons, Bool.and_eq_true] at p
    obtain ⟨h1, h2⟩ := flat_all g q p.2 t
    refine ⟨by simp only [List.all_cons, Bool.and_eq_true]; exact ⟨flat_rep p.1 h, h1⟩, ?_⟩
    unfold inV at h2 ⊢
    rw [List.any_cons, List.any_cons, h2, flat_eqv p.1 g h q]
def rInAll (K : PySem.W.Frag) : L2.R2 := fun x y H Q => (∃ (c : Nat) (z : Str), x = .str ⟨#[c]⟩ ∧ y = .str z ∧ Q (.bl (decide (c ∈ z.cps.toList))) H) ∨ rIn K false x y H Q
def rNotInAll (K : PySem.W.Frag) : L2.R2 := fun x y H Q => (∃ (c : Nat) (z : Str), x = .str ⟨#[c]⟩ ∧ y = .str z ∧ Q (.bl (!decide (c ∈ z.cps.toList))) H) ∨ rIn K true x y H Q
theorem op_inAll {X : Cx} : OpR X (compareOp .In) (rInAll X.K) := op_in_sign.or op_in_seq
theorem op_notInAll {X : Cx} : OpR X (compareOp .NotIn) (rNotInAll X.K) := op_notIn_sign.or op_notIn_seq
theorem inB_cases {H : Hp} {M : Mem} {dx dy : D} {x y : V} {Q : BK} (rx : Rep K H M dx x) (ry : Rep K H M dy y) (m : MRep K H M) (q : inB dx dy M Q) :
    (∃ (c : Nat) (z : Str), x = .str ⟨#[c]⟩ ∧ y = .str z ∧ Q (decide (c ∈ z.cps.toList)) M) ∨ (∃ p xs, y = .ref p ∧ (SqL K.K H p xs ∨ SqT K.K H p xs) ∧ flatV x = true ∧ xs.all flatV = true ∧ Q (inV x xs) M) := by
  unfold inB at q
  split at q
  · cases rx; cases ry
    obtain ⟨c, rfl, q⟩ := q
    exact .inl ⟨c, _, rfl, rfl, q⟩
  · split at q
    · rename_i ys e
      obtain ⟨a, vs, ey, h, r⟩ := asS_rep m ry e
      obtain ⟨h1, h2⟩ := flat_all q.1 rx q.2.1 r
      exact .inr ⟨a, vs, ey, h, flat_rep q.1 rx, h1, by rw [h2]; exact q.2.2⟩
    · exact q.elim
theorem rf_in : RefR K (rInAll K.K) oIn := fun x y H M dx dy Q Q' rx ry m q l => by
  rcases inB_cases rx ry m q with ⟨c, z, e1, e2, q⟩ | ⟨p, xs, e1, h, h1, h2, q⟩
  · exact .inl ⟨c, z, e1, e2, finB l m q⟩
  · exact .inr ⟨p, xs, e1, h, h1, h2, finB l m q⟩
theorem rf_notIn : RefR K (rNotInAll K.K) oNotIn := fun x y H M dx dy Q Q' rx ry m q l => by
  rcases inB_cases rx ry m q with ⟨c, z, e1, e2, q⟩ | ⟨p, xs, e1, h, h1, h2, q⟩
  · exact .inl ⟨c, z, e1, e2, finB l m q⟩
  · exact .inr ⟨p, xs, e1, h, h1, h2, finB l m q⟩
/-! subscripts -/
theorem rf_ix : RefR K (rIx K.K) oIx := fun x y H M dx dy Q Q' rx ry m q l => by
  unfold oIx at q
  split at q
  · cases rx; cases ry
    obtain ⟨h, q⟩ := q
    split at q
    · rename_i c e
      exact .inr (.inr ⟨_, _, c, rfl, rfl, szLe h, e, finS l m q⟩)
    · exact q.elim
  · cases ry
    split at q
    · rename_i xs e
      split at q
      · rename_i d e'
        obtain ⟨a, vs, rfl, h, r⟩ := asS_rep m rx e
        obtain ⟨v, hv, rv⟩ := atI_rep r e'
        rcases h with h | h
        · exact .inl ⟨a, vs, _, v, rfl, rfl, h, hv, fin l m rv q⟩
        · exact .inr (.inl ⟨a, vs, _, v, rfl, rfl, h, hv, fin l m rv q⟩)
      · exact q.elim
    · exact q.elim
  · exact q.elim
def rCutAll (K : PySem.W.Frag) : V → Option Int → Option Int → Hp → VK → Prop := fun x lo hi H Q => rSlS x lo hi H Q ∨ rSlA K x lo hi H Q ∨ rSlL K x lo hi H Q
theorem sl_all {X : Cx} : SlR X (rCutAll X.K) := sl_str.or (sl_tupA.or sl_list)
theorem cut_whole {xs : List V} {lo hi : Option Int} (h : HT.sIx xs.length 0 lo = 0 ∧ HT.sIx xs.length xs.length hi = xs.length) : cutV xs lo hi = xs := by
  unfold cutV
  rw [h.1, h.2, Nat.sub_zero, List.drop_zero, List.take_length]
theorem reps_inj_len {H : Hp} {M : Mem} {ds : List D} {vs : List V} (r : Reps K H M ds vs) : ds.length = vs.length := r.length
theorem rf_cut {x : V} {H : Hp} {M : Mem} {d : D} {lo hi : Option Int} {Q : DK} {Q' : VK} (rx : Rep K H M d x) (m : MRep K H M) (q : oCut d lo hi M Q) (l : Lift K H M Q Q') : rCutAll K.K x lo hi H Q' := by
  unfold oCut at q
  split at q
  · cases rx
    exact .inl ⟨_, rfl, szLe q.1, finS l m q.2⟩
  · rename_i xs
    obtain ⟨a, vs, rfl, h, r⟩ := id rx
    refine .inr (.inl ⟨a, vs, rfl, h.sq, fun w => ?_, fun _ p hp => ?_⟩)
    · have e : DL.cut xs lo hi = xs := by
        unfold DL.cut
        have w1 : sIx xs.length 0 lo = 0 := by rw [r.length]; exact w.1
        have w2 : sIx xs.length xs.length hi = xs.length := by rw [r.length]; exact w.2
        rw [w1, w2, Nat.sub_zero, List.drop_zero, List.take_length]
      rw [e] at q
      exact fin l m rx q
    · exact l _ _ _ _ (Fr.new hp) (rep_newT m hp (r.cut lo hi)) (m.new hp) q
  · split at q
    · rename_i xs e
      obtain ⟨a, vs, rfl, h, r⟩ := asL_rep m rx e
      exact .inr (.inr ⟨a, vs, rfl, h, fun p hp => l _ _ _ _ (Fr.new hp) (rep_newL m hp (r.cut lo hi)) (m.new hp) q⟩)
    · exact q.elim
abbrev DO := Env → Mem → (Option Int → Mem → Prop) → Prop
def RefO (K : Fg) (to : TO) (t : DO) : Prop := ∀ σ H ρ M (Q : Option Int → Mem → Prop) (Q' : Option Int → Hp → Prop), SRep K σ H ρ M → t ρ M Q → (∀ o H' M', Fr H M H' M' → MRep K H' M' → Q o M' → Q' o H') → to σ H Q'
theorem refO_none : RefO K tNoPart dNoPart := fun σ H ρ M Q Q' s q l => l none H M (Fr.refl H M) s.mem q
theorem refO_some {ta : TE} {t : DE} (h1 : Ref K ta t) : RefO K (tPart ta) (dPart t) := fun σ H ρ M Q Q' s q l =>
  h1 σ H ρ M _ _ s q fun v H1 d M1 f1 r1 m1 q1 => by
    cases d with
    | int i => cases r1; exact ⟨i, rfl, l _ H1 M1 f1 m1 q1⟩
    | _ => exact q1.elim
theorem ref_cut {te : TE} {t : DE} {tl th : TO} {dl dh : DO} (h : Ref K te t) (h1 : RefO K tl dl) (h2 : RefO K th dh) : Ref K (tSl (rCutAll K.K) te tl th) (dCut t dl dh) := fun σ H ρ M Q Q' s q l =>
  h σ H ρ M _ _ s q fun v H1 d M1 f1 r1 m1 q1 => h1 σ H1 ρ M1 _ _ (s.step f1 m1) q1 fun lo H2 M2 f2 m2 q2 => h2 σ H2 ρ M2 _ _ (s.step (f1.trans f2) m2) q2 fun hi H3 M3 f3 m3 q3 =>
    rf_cut (r1.mono (f2.trans f3)) m3 q3 (l.later ((f1.trans f2).trans f3))
/-! built-ins -/
def rLenAll (K : PySem.W.Frag) : List V → Hp → VK → Prop := fun xs H Q => ∃ x n, xs = [x] ∧ LenV K x H n ∧ Q (.int n) H
theorem rf_len : RefR1 K (rLenAll K.K) oLen := fun x H M dx Q Q' rx m q l => by
  unfold oLen at q
  split at q
  · cases rx
    exact ⟨_, _, rfl, ⟨szLe q.1, rfl⟩, finI l m q.2⟩
  · split at q
    · rename_i xs e
      obtain ⟨a, vs, rfl, h, r⟩ := asS_rep m rx e
      rw [r.length] at q
      rcases h with h | h
      · exact ⟨_, vs.length, rfl, .inl ⟨vs, h, rfl⟩, finI l m q⟩
      · exact ⟨_, vs.length, rfl, .inr ⟨vs, h, rfl⟩, finI l m q⟩
    · exact q.elim
theorem rf_abs : RefR1 K (fun xs H Q => ∃ i, xs = [.int i] ∧ Q (.int (if i < 0 then -i else i)) H) oAbs := fun x H M dx Q Q' rx m q l => by
  unfold oAbs at q
  split at q
  · cases rx; exact ⟨_, rfl, finI l m q⟩
  · exact q.elim
theorem rf_int : RefR1 K (fun xs H Q => (∃ i, xs = [.int i] ∧ Q (.int i) H) ∨ ∃ k, xs = [.bl k] ∧ Q (.int (if k then 1 else 0)) H) oInt := fun x H M dx Q Q' rx m q l => by
  unfold oInt at q
  split at q
  · cases rx; exact .inl ⟨_, rfl, finI l m q⟩
  · cases rx; exact .inr ⟨_, rfl, finI l m q⟩
  · exact q.elim
theorem rf_str : RefR1 K (fun xs H Q => ∃ i, xs = [.int i] ∧ i.natAbs.log2 < 1920 ∧ Q (.str (toString i)) H) oStr := fun x H M dx Q Q' rx m q l => by
  unfold oStr at q
  split at q
  · cases rx
    refine ⟨_, rfl, ?_, finS l m q.2⟩
    rename_i i
    by_cases z : i.natAbs = 0
    · rw [z]; decide
    · have := (Nat.log2_lt z).mpr q.1
      omega
  · exact q.elim
theorem rf_tuple : RefR1 K (fun xs H Q => ∃ p ys, xs = [.ref p] ∧ ((SqL K.K H p ys ∧ ∀ l, H l = none → Q (.ref l) (upd H l (.tup ys))) ∨ (SqT K.K H p ys ∧ Q (.ref p) H))) oTuple := fun x H M dx Q Q' rx m q l => by
  unfold oTuple at q
  split at q
  · obtain ⟨a, vs, rfl, h, r⟩ := id rx
    exact ⟨a, vs, rfl, .inr ⟨h.sq, fin l m rx q⟩⟩
  · split at q
    · rename_i xs e
      obtain ⟨a, vs, rfl, h, r⟩ := asL_rep m rx e
      exact ⟨a, vs, rfl, .inl ⟨h, fun p hp => l _ _ _ _ (Fr.new hp) (rep_newT m hp r) (m.new hp) q⟩⟩
    · exact q.elim
theorem rf_list : RefR1 K (fun xs H Q => ∃ p ys, xs = [.ref p] ∧ (SqL K.K H p ys ∨ SqT K.K H p ys) ∧ ∀ l, H l = none → Q (.ref l) (upd H l (.lst ys))) oList := fun x H M dx Q Q' rx m q l => by
  unfold oList at q
  split at q
  · rename_i xs e
    obtain ⟨a, vs, rfl, h, r⟩ := asS_rep m rx e
    exact ⟨a, vs, rfl, h, fun p hp => l _ _ _ _ (Fr.new hp) (rep_newL m hp r) (m.new hp) q⟩
  · exact q.elim
theorem dBools_rep {H : Hp} {M : Mem} : ∀ {ds : List D} {vs : List V} {bs : List Bool}, dBools ds = some bs → Reps K H M ds vs → vs = bs.map V.bl
  | [], _, _, e, h => by cases e; rw [show _ = [] from h]; rfl
  | .bl b :: r, _, bs, e, ⟨v, w, rfl, h, t⟩ => by
    unfold dBools at e
    cases q : dBools r with
    | none => rw [q] at e; cases e
    | some cs =>
      rw [q] at e
      cases e
      cases h
      rw [dBools_rep q t]
      rfl
  | .non :: _, _, _, e, _ => by cases e
  | .int _ :: _, _, _, e, _ => by cases e
  | .str _ :: _, _, _, e, _ => by cases e
  | .ref _ :: _, _, _, e, _ => by cases e
  | .tup _ :: _, _, _, e, _ => by cases e
  | .lst _ :: _, _, _, e, _ => by cases e
  | .rol _ :: _, _, _, e, _ => by cases e
  | .dK _ _ :: _, _, _, e, _ => by cases e
  | .dT _ _ :: _, _, _, e, _ => by cases e
  | .ins _ _ _ _ :: _, _, _, e, _ => by cases e
  | .ty _ :: _, _, _, e, _ => by cases e
  | .cls _ :: _, _, _, e, _ => by cases e
theorem dInts_rep {H : Hp} {M : Mem} : ∀ {ds : List D} {vs : List V} {bs : List Int}, dInts ds = some bs → Reps K H M ds vs → vs = bs.map V.int
  | [], _, _, e, h => by cases e; rw [show _ = [] from h]; rfl
  | .int b :: r, _, bs, e, ⟨v, w, rfl, h, t⟩ => by
    unfold dInts at e
    cases q : dInts r with
    | none => rw [q] at e; cases e
    | some cs =>
      rw [q] at e
      cases e
      cases h
      rw [dInts_rep q t]
      rfl
  | .non :: _, _, _, e, _ => by cases e
  | .bl _ :: _, _, _, e, _ => by cases e
  | .str _ :: _, _, _, e, _ => by cases e
  | .ref _ :: _, _, _, e, _ => by cases e
  | .tup _ :: _, _, _, e, _ => by cases e
  | .lst _ :: _, _, _, e, _ => by cases e
  | .rol _ :: _, _, _, e, _ => by cases e
  | .dK _ _ :: _, _, _, e, _ => by cases e
  | .dT _ _ :: _, _, _, e, _ => by cases e
  | .ins _ _ _ _ :: _, _, _, e, _ => by cases e
  | .ty _ :: _, _, _, e, _ => by cases e
  | .cls _ :: _, _, _, e, _ => by cases e
theorem rf_all : RefR1 K (rAll K.K) oAll := fun x H M dx Q Q' rx m q l => by
  unfold oAll at q
  split at q
  · rename_i bs e
    obtain ⟨xs, e1, e2⟩ := Option.bind_eq_some_iff.mp e
    obtain ⟨a, vs, rfl, h, r⟩ := asL_rep m rx e1
    exact ⟨a, bs, rfl, dBools_rep e2 r ▸ h, finB l m q⟩
  · exact q.elim
theorem rf_any : RefR1 K (rAny K.K) oAny := fun x H M dx Q Q' rx m q l => by
  unfold oAny at q
  split at q
  · rename_i bs e
    obtain ⟨xs, e1, e2⟩ := Option.bind_eq_some_iff.mp e
    obtain ⟨a, vs, rfl, h, r⟩ := asL_rep m rx e1
    exact ⟨a, bs, rfl, dBools_rep e2 r ▸ h, finB l m q⟩
  · exact q.elim
theorem rf_sum : RefR1 K (rSum K.K) oSum := fun x H M dx Q Q' rx m q l => by
  unfold oSum at q
  split at q
  · rename_i bs e
    obtain ⟨xs, e1, e2⟩ := Option.bind_eq_some_iff.mp e
    obtain ⟨a, vs, rfl, h, r⟩ := asL_rep m rx e1
    exact ⟨a, bs, rfl, dInts_rep e2 r ▸ h, finI l m q⟩
  · exact q.elim
/-! isinstance -/
def kinds7 : List String := ["NoneType", "bool", "int", "str", "tuple", "list", "dict"]
def kitT (T : String) : Bool := kinds7.all fun a => kitB a T == some (a == T || (T == "int" && a == "bool"))
theorem tyX_of {H : Hp} {M : Mem} {d : D} {x : V} (m : MRep K H M) (r : Rep K H M d x) (h : tyOf M d ≠ "") : TyX K.K H x (.type (tyOf M d)) ∧ tyOf M d ∈ kinds7 := by
  cases d with
  | non => cases r; exact ⟨.base .non, by simp [tyOf, kinds7]⟩
  | bl b => cases r; exact ⟨.base (.bl b), by simp [tyOf, kinds7]⟩
  | int b => cases r; exact ⟨.base (.int b), by simp [tyOf, kinds7]⟩
  | str b => cases r; exact ⟨.base (.str b), by simp [tyOf, kinds7]⟩
  | tup ds =>
    obtain ⟨a, vs, rfl, q, _⟩ := r
    refine ⟨?_, by simp [tyOf, kinds7]⟩
    rcases q with ⟨q, _⟩ | ⟨o, _, _, q, c, _⟩
    · exact .base (.tup q)
    · exact .kTuple q c
  | lst ds => obtain ⟨a, vs, rfl, q, _⟩ := r; exact ⟨.base (.lst q.1), by simp [tyOf, kinds7]⟩
  | dK _ _ => obtain ⟨a, vs, rfl, q, _⟩ := r; exact ⟨.base (.dK q.1), by simp [tyOf, kinds7]⟩
  | dT _ _ => obtain ⟨a, vs, rfl, q, _⟩ := r; exact ⟨.base (.dT q.1), by simp [tyOf, kinds7]⟩
  | ref a =>
    cases r
    simp only [tyOf] at h ⊢
    cases e : M a with
    | none => rw [e] at h; exact absurd rfl h
    | some o =>
      rw [e] at h
      cases o with
      | lst _ => obtain ⟨vs, q, _⟩ := m.obj a _ e; exact ⟨.base (.lst q), by simp [tyOf, kinds7]⟩
      | dK _ _ => obtain ⟨vs, q, _⟩ := m.obj a _ e; exact ⟨.base (.dK q), by simp [tyOf, kinds7]⟩
      | dT _ _ => obtain ⟨vs, q, _⟩ := m.obj a _ e; exact ⟨.base (.dT q), by simp [tyOf, kinds7]⟩
      | _ => exact absurd rfl h
  | _ => exact absurd rfl h
theorem rf_isi {T : String} (hT : kitT T = true) {ta : TE} {t : DE} (h1 : Ref K ta t) : Ref K (tCB (rIsi K.K) (tCons ta (tCons (tC (.ty T)) tNil))) (dUn (oIsi T) t) := fun σ H ρ M Q Q' s q l =>
  h1 σ H ρ M _ _ s q fun v H1 d M1 f1 r1 m1 q1 => by
    obtain ⟨h, q1⟩ := q1
    obtain ⟨ty, hm⟩ := tyX_of m1 r1 h
    have e : kitB (tyOf M1 d) T = some (tyOf M1 d == T || (T == "int" && tyOf M1 d == "bool")) := by
      unfold kitT at hT
      rw [List.all_eq_true] at hT
      exact eq_of_beq (hT _ hm)
    exact ⟨v, _, _, _, _, rfl, .ty T, ty, kit_ty e, finB (l.later f1) m1 q1⟩
end
end DL
/-! DLE: enumerate over tuples; a for over a list, a tuple or a text. -/
namespace DLE
open PySem PySem.Spec PyProof.Rows L2
open AutoSeq1 (wpAny_loadPart')

theorem meets_enumerate_newT (l : Addr) (items : Array Value) (n : Nat) (dct : Option Addr) (sl : Array (Option Value)) :
    Meets (Builtin.«enumerate.__new__» ⟨[.type "enumerate", .ref l], []⟩) (fun _ R s => s.heap.get? l = some { cls := .type "tuple", dict := dct, data := .seq items n, slots := sl } ∧
      R (.ok (.ret (.ref (s.heap.push { cls := .type "tuple_iterator", data := .fields #[.ref l, .int 0 0] }).objs.size)))
        { s with heap := (s.heap.push { cls := .type "tuple_iterator", data := .fields #[.ref l, .int 0 0] }).push { cls := .type "enumerate", data := .fields #[.none, .bool false, .ref s.heap.objs.size, rawInt 0, .none, .none] } }) :=
  .of_wp fun prog w A R s h => by
    obtain ⟨hp, g, d, tk, os⟩ := s; obtain ⟨hl, h⟩ := h
    have hsub := sub_enumerate
    have hL : Heap.IsTuple (Shared.heap ⟨hp, g, d, tk, os⟩) l items := ⟨_, hl, rfl, n, rfl⟩
    wp_walk using wpAny_loadPart' hl
    refine wpAny_stack_any fun st => wpAny_pure ?_
    split
    · rename_i c _ _ _ _ _
      cases (c == Value.type "enumerate")
      · wp_walk using wpAny_loadPart' hl, wpAny_pyIter_tuple hL
        exact ⟨_, rfl, h⟩
      · wp_walk using wpAny_loadPart' hl, wpAny_pyIter_tuple hL
        exact ⟨_, rfl, h⟩
    · wp_walk using wpAny_loadPart' hl, wpAny_pyIter_tuple hL
      exact ⟨_, rfl, h⟩
theorem call_enumerate_tuple {prog : Program} {w : World} {A : Around} {E : Value → Shared → Prop} {s : Shared} {l : Addr} {items : Array Value} {Q : Value → Shared → Prop} (hL : s.heap.IsTuple l items)
    (h : ∀ h', IsEnum h' (s.heap.objs.size + 1) s.heap.objs.size 0 .none → h'.IsTupleIter s.heap.objs.size l 0 → h'.objs.size = s.heap.objs.size + 2 →
      (∀ b o, s.heap.get? b = some o → h'.get? b = some o) → Q (.ref (s.heap.objs.size + 1)) { s with heap := h' }) :
    wpAny (model prog w) A (call (.type "enumerate") [.ref l]) Q E s := by
  obtain ⟨⟨c, dct, dt, sl⟩, hl, hc, n, hd⟩ := hL
  replace hc : c = .type "tuple" := hc
  replace hd : dt = .seq items n := hd
  subst hc hd
  refine callType_new F.called_enumerate (by decide) (F.typeCall_enumerate_1 _) (F.newCall_enumerate_1 _) (fun obj => F.args_object_init_2 obj _) F.entry_enumerate_new
    (meets_enumerate_newT l items n dct sl) ⟨hl, ?_⟩
  have hz : (s.heap.push { cls := .type "tuple_iterator", data := .fields #[.ref l, .int 0 0] }).objs.size = s.heap.objs.size + 1 := Heap.size_push ..
  show _ ∧ _
  rw [hz]
  have he : IsEnum ((s.heap.push { cls := .type "tuple_iterator", data := .fields #[.ref l, .int 0 0] }).push
      { cls := .type "enumerate", data := .fields #[.none, .bool false, .ref s.heap.objs.size, rawInt 0, .none, .none] }) (s.heap.objs.size + 1) s.heap.objs.size 0 .none := by
    have := Heap.get?_push_size (s.heap.push { cls := .type "tuple_iterator", data := .fields #[.ref l, .int 0 0] })
      (o := { cls := .type "enumerate", data := .fields #[.none, .bool false, .ref s.heap.objs.size, rawInt 0, .none, .none] }) rfl
    rw [hz] at this; exact this
  refine ⟨⟨_, he, rfl⟩, h _ he ⟨_, Heap.get?_push_of_some _ (Heap.get?_push_size _ rfl), rfl, rfl⟩ (by rw [Heap.size_push, hz]) fun b o x => Heap.get?_push_of_some _ (Heap.get?_push_of_some _ x)⟩

/-- the tuple at a, each item in a new pair -/
def IteT (K : PySem.W.Frag) (a : Addr) : It :=
  ⟨fun i H => ∃ (xs : List V) (x : V), SqT K H a xs ∧ xs[i]? = some x, fun i H v H' => ∃ T x, v = .ref T ∧ H T = none ∧ H' = upd H T (.tup [.int (i : Nat), x]) ∧ ∀ xs, SqT K H a xs → xs[i]? = some x, fun i H => ∃ xs : List V, SqT K H a xs ∧ xs.length = i⟩
theorem tup_ne {h : Heap} {a it : Addr} {i : Nat} {items : Array Value} (p : h.IsTuple a items) (q : h.IsTupleIter it a i) : a ≠ it := by
  rintro rfl
  obtain ⟨o, ho, hc, _⟩ := p
  obtain ⟨o', ho', hc', _⟩ := q
  rw [ho] at ho'
  cases ho'
  rw [hc] at hc'
  simp at hc'
theorem enum_ne {h : Heap} {a e it : Addr} {i : Int} {old : Value} {items : Array Value} (p : h.IsTuple a items) (q : IsEnum h e it i old) : e ≠ a := by
  rintro rfl
  obtain ⟨o, ho, hc, _⟩ := p
  have q' : h.get? e = some _ := q
  rw [ho] at q'
  cases q'
  simp at hc
theorem turn_enumT {P : Program} {w : World} {K : PySem.W.Frag} {elts : List Expr} {kk : Nat} {tpos : Pos} (a e it : Addr) :
    Turn P w K (.Tuple elts kk tpos) (IteT K a) [e, it] e (fun i h => (∃ old, IsEnum h e it ((i : Nat) : Int) old) ∧ h.IsTupleIter it a i ∧ e ≠ it) where
  mem := by simp
  obj := fun i h st b hb => by
    obtain ⟨⟨old, he⟩, ⟨o, ho, hc, hd⟩, _⟩ := st
    have e' : b = e ∨ b = it := by simpa using hb
    rcases e' with z | z
    · rw [z]; exact ⟨_, he, fun v q => nomatch q⟩
    · rw [z]; exact ⟨o, ho, fun v q => by rw [hd] at q; cases q⟩
  keep := fun i h h' st k => let ⟨⟨old, he⟩, hi, hne⟩ := st; ⟨⟨old, k e (by simp) _ he⟩, hi.at fun o q => k it (by simp) o q, hne⟩
  item := by
    intro X hP hw hK hc i pins s σ H E I hf st hg
    subst hP hw hK
    obtain ⟨⟨old, he⟩, hit, hne⟩ := st
    obtain ⟨xs, x, hq, hx⟩ := hg
    obtain ⟨its, rv, p, hz⟩ := I.tuple hq
    obtain ⟨u, hu, ru⟩ := rv.get hx
    have p' : s.heap.IsTuple a its.toArray := p
    have hel : e < s.heap.objs.size := Heap.lt_size he
    have hil : it < s.heap.objs.size := by obtain ⟨_, q, _⟩ := hit; exact Heap.lt_size q
    have hai : a ≠ it := tup_ne p' hit
    have hea : e ≠ a := enum_ne p' he
    have hlt : i < its.toArray.size := by
      have : i < its.length := (List.getElem?_eq_some_iff.mp hu).1
      simpa using this
    refine wpAny_pyNext_enum_itemD (Draws.tuple (prog := X.prog) (w := X.w) (A := X.A.in1) (I.ok.hd hc) it a hai its.toArray) he ⟨hit, p'⟩ hlt hne (by simp [hne, hea]) fun x' h' tk hP ho hit' hT hsz hk => ?_
    have hP' : its.toArray[i]? = some x' := hP
    have ex : x' = u := by
      rw [List.getElem?_toArray] at hP'
      rw [hu] at hP'
      exact (Option.some.inj hP').symm
    subst ex
    refine ⟨_, rfl, wpAny_letOwnedTupleGo_enum (s := { s with heap := h', toks := tk + 1 }) ho fun h'' he' sb => ?_⟩
    have hT2 : h''.get? s.heap.objs.size = some { cls := .type "tuple", data := .seq #[.int i tk, x'] } := (sb.2 _ (Nat.ne_of_gt hel)).trans hT
    have new : ObjOk X.prog X.w (upd H s.heap.objs.size (.tup [.int (i : Nat), x])) h'' s.heap.objs.size (.tup [.int (i : Nat), x]) :=
      ⟨by show 2 ≤ sizeLine; decide, [.int i tk, x'], .cons ⟨_, rfl⟩ (.cons ru .nil), ⟨_, hT2, rfl, _, rfl⟩⟩
    have I1 : Inv X pins σ (upd H s.heap.objs.size (.tup [.int (i : Nat), x])) { s with heap := h'', toks := tk + 1 } :=
      I.turnedNew (ch := [e, it]) (fun b ob hb q => (sb.2 b (fun z => hb (by simp [z]))).trans (hk b ob (fun z => hb (by simp [z])) (fun z => hb (by simp [z])) q)) hf (Nat.le_refl _) new
    refine ⟨.ref s.heap.objs.size, _, I1, rfl, ⟨_, x, rfl, I.hok.fresh (Nat.le_refl _), rfl, fun ys hy => by rw [I.tuple_inj hy hq]; exact hx⟩, ⟨⟨x', ?_⟩, hit'.1.at fun o q => (sb.2 it (Ne.symm hne)).trans q, hne⟩, fun b hb => ?_⟩
    · have e1 : ((i + 1 : Nat) : Int) = (i : Int) + 1 := by omega
      rw [e1]; exact he'
    · have hb' : b < s.heap.objs.size := by
        have e' : b = e ∨ b = it := by simpa using hb
        rcases e' with z | z
        · rw [z]; exact hel
        · rw [z]; exact hil
      rw [upd_ne (Nat.ne_of_lt hb')]
      exact (hf b hb).1
  done := by
    intro X hP hw hK hc i pins s σ H E I hf st hg
    subst hP hw hK
    obtain ⟨⟨old, he⟩, hit, hne⟩ := st
    obtain ⟨xs, hq, hx⟩ := hg
    obtain ⟨its, rv, p, hz⟩ := I.tuple hq
    have p' : s.heap.IsTuple a its.toArray := p
    obtain ⟨f0, f1, f2, f3, f4, f5⟩ := hf it (by simp)
    have hl := rv.length
    have hi : i = its.toArray.size := by simp; omega
    exact wpAny_pyNext_enum_endD (Draws.tuple (prog := X.prog) (w := X.w) (A := X.A.in1) (I.ok.hd hc) it a (tup_ne p' hit) its.toArray) he ⟨hi ▸ hit, p'⟩ fun h' eb => ⟨rfl, I.turned (t' := s.toks) (fun b o hb q => eb b o hb q) f0 f1 f3 f4 f5⟩
  self := fun A i s Q E st h => let ⟨⟨_, he⟩, _⟩ := st; wpAny_pyIter_enum he h
def iEnumA (K : PySem.W.Frag) (ta : TA) : TI := fun σ H R => ta σ H fun vs H1 => ∃ a xs, vs = [.ref a] ∧ ((SqL K H1 a xs ∧ R (Ite K a) H1) ∨ (SqT K H1 a xs ∧ R (IteT K a) H1))
theorem pi_enumA {X : Cx} {e : Expr} {ta : TA} {p pos tpos : Pos} {elts : List Expr} {kk : Nat} (hg : Gl X "enumerate") (hm : X.mg "enumerate" = none) (ha : PA X [e] ta) (hs : starEach [e] X.env = [(false, eval e X.env)] := by rfl) :
    PI X (.Tuple elts kk tpos) (.Call (.Name "enumerate" p) [e] [] pos) (iEnumA X.K ta) := by
  refine ⟨fun pins s σ H R I h => ?_⟩
  refine Call_ (ld_blt I hg hm boot_enumerate (PyProof.Rows.callWith_type1 (thn (ha.run pos pins s σ H _ I h) fun us s1 ⟨vs, H1, I1, r1, q1⟩ => ?_) hs rfl))
  obtain ⟨a, xs, ex, q1⟩ := q1
  subst ex
  cases r1 with
  | cons r rr =>
    cases rr
    cases r
    have fre : ∀ b, b ∈ [s1.heap.objs.size + 1, s1.heap.objs.size] → FpOk X pins H1 b := fun b hb => by
      have e' : b = s1.heap.objs.size + 1 ∨ b = s1.heap.objs.size := by simpa using hb
      have hle : s1.heap.objs.size ≤ b := by
        rcases e' with z | z
        · rw [z]; exact Nat.le_add_right _ _
        · rw [z]; exact Nat.le_refl _
      exact I1.fpOk hle (I1.hok.fresh hle)
    rcases q1 with ⟨hq, q⟩ | ⟨hq, q⟩
    · obtain ⟨its, rv, p', hz⟩ := I1.list hq
      refine call_enumerate_list p'.isList fun h' he hit hsz hk => wpAny_pyIter_enum he ?_
      have I2 : Inv X pins σ H1 { s1 with heap := h' } := I1.kept (t' := s1.toks) hk
      exact ⟨s1.heap.objs.size + 1, [s1.heap.objs.size + 1, s1.heap.objs.size], _, _, H1, rfl, I2, turn_enum a (s1.heap.objs.size + 1) s1.heap.objs.size, ⟨⟨.none, he⟩, hit, Nat.succ_ne_self _⟩, fre, q⟩
    · obtain ⟨its, rv, p', hz⟩ := I1.tuple hq
      refine call_enumerate_tuple (show s1.heap.IsTuple a its.toArray from p') fun h' he hit hsz hk => wpAny_pyIter_enum he ?_
      have I2 : Inv X pins σ H1 { s1 with heap := h' } := I1.kept (t' := s1.toks) hk
      exact ⟨s1.heap.objs.size + 1, [s1.heap.objs.size + 1, s1.heap.objs.size], _, _, H1, rfl, I2, turn_enumT a (s1.heap.objs.size + 1) s1.heap.objs.size, ⟨⟨.none, he⟩, hit, Nat.succ_ne_self _⟩, fre, q⟩
/-- a list, a tuple or a text walked -/
def iAny (K : PySem.W.Frag) (tl : TE) : TI := fun σ H R => tl σ H fun x H1 => (∃ a, x = .ref a ∧ (∃ xs, SqL K H1 a xs) ∧ R (Itl K a) H1) ∨ (∃ a, x = .ref a ∧ (∃ xs, SqT K H1 a xs) ∧ R (Itt K a) H1) ∨ (∃ z, x = .str z ∧ R (Its z) H1)
def tK (x : V) : TE := fun _ H Q => Q x H
theorem pi_any {X : Cx} {tg l : Expr} {tl : TE} (hl : PE X l tl) : PI X tg l (iAny X.K tl) := by
  refine ⟨fun pins s σ H R I h => ?_⟩
  refine thn (hl.run pins s σ H _ I h) fun v s1 ⟨x, H1, I1, r1, q1⟩ => ?_
  rcases q1 with ⟨a, e, ⟨xs, hq⟩, q⟩ | ⟨a, e, ⟨xs, hq⟩, q⟩ | ⟨z, e, q⟩
  · subst e
    cases r1
    obtain ⟨its, rv, p, hz⟩ := I1.list hq
    refine wpAny_pyIter_list p.isList ?_
    refine ⟨s1.heap.objs.size, [s1.heap.objs.size], _, _, H1, rfl, I1.kept (t' := s1.toks) fun b o e => Heap.get?_push_of_some _ e, turn_list a _, ⟨_, Heap.get?_push_size _ rfl, rfl, rfl⟩, fun b hb => ?_, q⟩
    have e : b = s1.heap.objs.size := by simpa using hb
    subst e
    exact I1.fpOk (Nat.le_refl _) (I1.hok.fresh (Nat.le_refl _))
  · subst e
    cases r1
    obtain ⟨its, rv, p, hz⟩ := I1.tuple hq
    refine wpAny_pyIter_tuple (show s1.heap.IsTuple a its.toArray from p) ?_
    refine ⟨s1.heap.objs.size, [s1.heap.objs.size], _, _, H1, rfl, I1.kept (t' := s1.toks) fun b o e => Heap.get?_push_of_some _ e, turn_tuple a _, ⟨_, Heap.get?_push_size _ rfl, rfl, rfl⟩, fun b hb => ?_, q⟩
    have e : b = s1.heap.objs.size := by simpa using hb
    subst e
    exact I1.fpOk (Nat.le_refl _) (I1.hok.fresh (Nat.le_refl _))
  · have h2 : wpAny (model X.prog X.w) X.A (eval l X.env) (fun v s₁ => wpAny (model X.prog X.w) X.A (pyIter v) (PIE X pins σ tg R) X.xe s₁) X.xe s → True := fun _ => trivial
    subst e
    obtain ⟨t, rfl⟩ := r1
    cases ha : z.cps.all (· < 128)
    · refine wpAny_pyIter_wide ha ?_
      refine ⟨s1.heap.objs.size, [s1.heap.objs.size], _, _, H1, rfl, I1.kept (t' := s1.toks) fun b o e => Heap.get?_push_of_some _ e, turn_str s1.heap.objs.size z t "str_iterator" (.inr rfl), ⟨_, Heap.get?_push_size _ rfl, rfl, rfl⟩, fun b hb => ?_, q⟩
      have e : b = s1.heap.objs.size := by simpa using hb
      subst e
      exact I1.fpOk (Nat.le_refl _) (I1.hok.fresh (Nat.le_refl _))
    · refine wpAny_pyIter_ascii ha ?_
      refine ⟨s1.heap.objs.size, [s1.heap.objs.size], _, _, H1, rfl, I1.kept (t' := s1.toks) fun b o e => Heap.get?_push_of_some _ e, turn_str s1.heap.objs.size z t "str_ascii_iterator" (.inl rfl), ⟨_, Heap.get?_push_size _ rfl, rfl, rfl⟩, fun b hb => ?_, q⟩
      have e : b = s1.heap.objs.size := by simpa using hb
      subst e
      exact I1.fpOk (Nat.le_refl _) (I1.hok.fresh (Nat.le_refl _))
end DLE
/-! DLQ: walks, statements, calls, defs. -/
namespace DL
open PySem PySem.Spec PyProof.Rows L2

section
variable {K : Fg} {H : Hp} {M : Mem}
/-! ### what is walked -/
theorem gives_list {a : Addr} {vs : List V} {ds : List D} (sq : ∀ H' M', Fr H M H' M' → SqL K.K H' a vs) (r : Reps K H M ds vs) : Gives K (Itl K.K a) ds H M where
  go := fun i H' M' f hi => ⟨vs, vs[i]'(by rw [← r.length]; exact hi), sq H' M' f, by simp⟩
  stop := fun H' M' f => ⟨vs, sq H' M' f, by rw [r.length]; exact Nat.le_refl _⟩
  yld := fun P' hP i H' M' x H2 f m y d e => by
    obtain ⟨e2, y⟩ := y
    subst e2
    obtain ⟨v, hv, rv⟩ := r.get e
    have := y vs (sq _ M' f)
    rw [hv] at this
    cases this
    exact ⟨Fr.refl _ _, m, (rv.hides hP).mono f⟩
theorem gives_tup {a : Addr} {vs : List V} {ds : List D} (sq : ∀ H' M', Fr H M H' M' → SqT K.K H' a vs) (r : Reps K H M ds vs) : Gives K (Itt K.K a) ds H M where
  go := fun i H' M' f hi => ⟨vs, vs[i]'(by rw [← r.length]; exact hi), sq H' M' f, by simp⟩
  stop := fun H' M' f => ⟨vs, sq H' M' f, by rw [r.length]; exact Nat.le_refl _⟩
  yld := fun P' hP i H' M' x H2 f m y d e => by
    obtain ⟨e2, y⟩ := y
    subst e2
    obtain ⟨v, hv, rv⟩ := r.get e
    have := y vs (sq _ M' f)
    rw [hv] at this
    cases this
    exact ⟨Fr.refl _ _, m, (rv.hides hP).mono f⟩
theorem chars_get {z : Str} {i : Nat} {d : D} (e : (chars z)[i]? = some d) : ∃ c, z.cps[i]? = some c ∧ d = .str ⟨#[c]⟩ := by
  unfold chars at e
  rw [List.getElem?_map] at e
  cases q : z.cps.toList[i]? with
  | none => rw [q] at e; cases e
  | some c =>
    rw [q] at e
    cases e
    exact ⟨c, by rw [← Array.getElem?_toList]; exact q, rfl⟩
theorem gives_str {z : Str} : Gives K (Its z) (chars z) H M where
  go := fun i H' M' f hi => by
    have : (chars z).length = z.cps.size := by unfold chars; simp
    show i < z.cps.size
    omega
  stop := fun H' M' f => by
    show z.cps.size ≤ (chars z).length
    unfold chars; simp
  yld := fun P' hP i H' M' x H2 f m y d e => by
    obtain ⟨e2, c, hc, ex⟩ := y
    subst e2 ex
    obtain ⟨c', hc', rfl⟩ := chars_get e
    rw [hc] at hc'
    cases hc'
    exact ⟨Fr.refl _ _, m, rfl⟩
theorem gives_range {n : Nat} : Gives K (Itr 0 n) (upTo n) H M where
  go := fun i H' M' f hi => by
    show i < n
    simpa [upTo] using hi
  stop := fun H' M' f => by
    show n ≤ (upTo n).length
    simp [upTo]
  yld := fun P' hP i H' M' x H2 f m y d e => by
    obtain ⟨e2, ex⟩ := y
    subst e2 ex
    unfold upTo at e
    rw [List.getElem?_map] at e
    cases q : (List.range n)[i]? with
    | none => rw [q] at e; cases e
    | some j =>
      rw [q] at e
      cases e
      have hj : i < n ∧ j = i := by
        rw [List.getElem?_eq_some_iff] at q
        obtain ⟨h1, h2⟩ := q
        simp at h1 h2
        exact ⟨h1, h2.symm⟩
      refine ⟨Fr.refl _ _, m, ?_⟩
      show V.int (0 + (i : Int)) = V.int (j : Int)
      rw [hj.2, Int.zero_add]
theorem enumD_length : ∀ (n : Nat) (ds : List D), (enumD n ds).length = ds.length
  | _, [] => rfl
  | n, _ :: ds => by simp only [enumD, List.length_cons, enumD_length (n + 1) ds]
theorem enumD_get : ∀ (n : Nat) (ds : List D) (i : Nat) (d : D), (enumD n ds)[i]? = some d → ∃ e, ds[i]? = some e ∧ d = .tup [.int ((n + i : Nat) : Int), e]
  | _, [], _, _, h => by simp [enumD] at h
  | n, x :: ds, 0, d, h => by
    simp only [enumD, List.getElem?_cons_zero, Option.some.injEq] at h
    exact ⟨x, rfl, h.symm⟩
  | n, x :: ds, i + 1, d, h => by
    simp only [enumD, List.getElem?_cons_succ] at h
    obtain ⟨e, h1, h2⟩ := enumD_get (n + 1) ds i d h
    refine ⟨e, by rw [List.getElem?_cons_succ]; exact h1, ?_⟩
    rw [h2, show n + 1 + i = n + (i + 1) by omega]
theorem pair_new {H' H2 : Hp} {M' : Mem} {T : Addr} {x y : V} {d e : D} (m : MRep K H' M') (hT : H' T = none) (rx : Rep K H' M' d x) (ry : Rep K H' M' e y) (e2 : H2 = upd H' T (.tup [x, y])) :
    Fr H' M' H2 M' ∧ MRep K H2 M' ∧ Rep K H2 M' (.tup [d, e]) (.ref T) := by
  subst e2
  exact ⟨Fr.new hT, m.new hT, rep_newT m hT ⟨x, [y], rfl, rx, y, [], rfl, ry, rfl⟩⟩
theorem gives_enumL {a : Addr} {vs : List V} {ds : List D} (sq : ∀ H' M', Fr H M H' M' → SqL K.K H' a vs) (r : Reps K H M ds vs) : Gives K (Ite K.K a) (enumD 0 ds) H M where
  go := fun i H' M' f hi => ⟨vs, vs[i]'(by rw [← r.length, ← enumD_length 0]; exact hi), sq H' M' f, by simp⟩
  stop := fun H' M' f => ⟨vs, sq H' M' f, by rw [enumD_length, r.length]; exact Nat.le_refl _⟩
  yld := fun P' hP i H' M' x H2 f m y d e => by
    obtain ⟨T, z, rfl, hT, e2, y⟩ := y
    obtain ⟨e', h1, rfl⟩ := enumD_get 0 ds i d e
    obtain ⟨v, hv, rv⟩ := r.get h1
    have := y vs (sq _ M' f)
    rw [hv] at this
    cases this
    refine pair_new m hT ?_ ((rv.hides hP).mono f) e2
    show V.int (i : Int) = V.int ((0 + i : Nat) : Int)
    rw [Nat.zero_add]
theorem gives_enumT {a : Addr} {vs : List V} {ds : List D} (sq : ∀ H' M', Fr H M H' M' → SqT K.K H' a vs) (r : Reps K H M ds vs) : Gives K (DLE.IteT K.K a) (enumD 0 ds) H M where
  go := fun i H' M' f hi => ⟨vs, vs[i]'(by rw [← r.length, ← enumD_length 0]; exact hi), sq H' M' f, by simp⟩
  stop := fun H' M' f => ⟨vs, sq H' M' f, by rw [enumD_length, r.length]⟩
  yld := fun P' hP i H' M' x H2 f m y d e => by
    obtain ⟨T, z, rfl, hT, e2, y⟩ := y
    obtain ⟨e', h1, rfl⟩ := enumD_get 0 ds i d e
    obtain ⟨v, hv, rv⟩ := r.get h1
    have := y vs (sq _ M' f)
    rw [hv] at this
    cases this
    refine pair_new m hT ?_ ((rv.hides hP).mono f) e2
    show V.int (i : Int) = V.int ((0 + i : Nat) : Int)
    rw [Nat.zero_add]
theorem zipD_length : ∀ (ds es : List D), (zipD ds es).length = min ds.length es.length
  | [], _ => by simp [zipD]
  | _ :: _, [] => by simp [zipD]
  | d :: ds, e :: es => by simp only [zipD, List.length_cons, zipD_length ds es]; omega
theorem zipD_get : ∀ (ds es : List D) (i : Nat) (d : D), (zipD ds es)[i]? = some d → ∃ x y, ds[i]? = some x ∧ es[i]? = some y ∧ d = .tup [x, y]
  | [], _, _, _, h => by simp [zipD] at h
  | _ :: _, [], _, _, h => by simp [zipD] at h
  | x :: ds, y :: es, 0, d, h => by
    simp only [zipD, List.getElem?_cons_zero, Option.some.injEq] at h
    exact ⟨x, y, rfl, rfl, h.symm⟩
  | x :: ds, y :: es, i + 1, d, h => by
    simp only [zipD, List.getElem?_cons_succ] at h ⊢
    exact zipD_get ds es i d h
theorem gives_zipL {a b : Addr} {vs ws : List V} {ds es : List D} (sq : ∀ H' M', Fr H M H' M' → SqL K.K H' a vs) (sq2 : ∀ H' M', Fr H M H' M' → SqL K.K H' b ws) (r : Reps K H M ds vs) (r2 : Reps K H M es ws) : Gives K (Itz K.K a b) (zipD ds es) H M where
  go := fun i H' M' f hi => by
    rw [zipD_length, r.length, r2.length] at hi
    exact ⟨vs, ws, vs[i]'(by omega), ws[i]'(by omega), sq H' M' f, sq2 H' M' f, by simp, by simp⟩
  stop := fun H' M' f => ⟨vs, ws, sq H' M' f, sq2 H' M' f, by rw [zipD_length, r.length, r2.length]; omega⟩
  yld := fun P' hP i H' M' x H2 f m y d e => by
    obtain ⟨T, z, z2, rfl, hT, e2, y1, y2⟩ := y
    obtain ⟨u, u2, h1, h2, rfl⟩ := zipD_get ds es i d e
    obtain ⟨v, hv, rv⟩ := r.get h1
    obtain ⟨v2, hv2, rv2⟩ := r2.get h2
    have q1 := y1 vs (sq _ M' f)
    have q2 := y2 ws (sq2 _ M' f)
    rw [hv] at q1
    rw [hv2] at q2
    cases q1
    cases q2
    exact pair_new m hT ((rv.hides hP).mono f) ((rv2.hides hP).mono f) e2
theorem gives_zipT {a b : Addr} {vs ws : List V} {ds es : List D} (sq : ∀ H' M', Fr H M H' M' → SqT K.K H' a vs) (sq2 : ∀ H' M', Fr H M H' M' → SqT K.K H' b ws) (r : Reps K H M ds vs) (r2 : Reps K H M es ws) : Gives K (RZ.ItzT K.K a b) (zipD ds es) H M where
  go := fun i H' M' f hi => by
    rw [zipD_length, r.length, r2.length] at hi
    exact ⟨vs, ws, vs[i]'(by omega), ws[i]'(by omega), sq H' M' f, sq2 H' M' f, by simp, by simp⟩
  stop := fun H' M' f => ⟨vs, ws, sq H' M' f, sq2 H' M' f, by rw [zipD_length, r.length, r2.length]; omega⟩
  yld := fun P' hP i H' M' x H2 f m y d e => by
    obtain ⟨T, z, z2, rfl, hT, e2, y1, y2⟩ := y
    obtain ⟨u, u2, h1, h2, rfl⟩ := zipD_get ds es i d e
    obtain ⟨v, hv, rv⟩ := r.get h1
    obtain ⟨v2, hv2, rv2⟩ := r2.get h2
    have q1 := y1 vs (sq _ M' f)
    have q2 := y2 ws (sq2 _ M' f)
    rw [hv] at q1
    rw [hv2] at q2
    cases q1
    cases q2
    exact pair_new m hT ((rv.hides hP).mono f) ((rv2.hides hP).mono f) e2
theorem lst_sq {a : Addr} {vs : List V} (h : H a = some (.lst vs) ∧ M a = none ∧ ¬ K.P a) : ∀ H' M', Fr H M H' M' → SqL K.K H' a vs := fun H' M' f => .of (f _ _ h.1 h.2.1).1
theorem rol_sq {a : Addr} {vs : List V} (h : TqR K H M a vs) : ∀ H' M', Fr H M H' M' → SqL K.K H' a vs := fun H' M' f => (h.mono f).sq
theorem tup_sq {a : Addr} {vs : List V} (h : TqT K H M a vs) : ∀ H' M', Fr H M H' M' → SqT K.K H' a vs := fun H' M' f => (h.mono f).sq
end
section
variable {K : Fg}
theorem refI_seq {ta : TE} {t : DE} (h : Ref K ta t) : RefI K (DLE.iAny K.K ta) (iSeq t) := fun σ H ρ M R R' s q l =>
  h σ H ρ M _ _ s q fun v H1 d M1 f1 r1 m1 q1 => by
    cases d with
    | tup xs =>
      obtain ⟨a, vs, rfl, h, r⟩ := r1
      exact .inr (.inl ⟨a, rfl, ⟨vs, h.sq⟩, l _ H1 xs M1 f1 m1 (gives_tup (tup_sq h) r) q1⟩)
    | lst xs =>
      obtain ⟨a, vs, rfl, h, r⟩ := r1
      exact .inl ⟨a, rfl, ⟨vs, .of h.1⟩, l _ H1 xs M1 f1 m1 (gives_list (lst_sq h) r) q1⟩
    | rol xs =>
      obtain ⟨a, vs, rfl, h, r⟩ := r1
      exact .inl ⟨a, rfl, ⟨vs, h.sq⟩, l _ H1 xs M1 f1 m1 (gives_list (rol_sq h) r) q1⟩
    | str z =>
      cases r1
      exact .inr (.inr ⟨z, rfl, l _ H1 _ M1 f1 m1 gives_str q1⟩)
    | _ => exact q1.elim
theorem refI_range {ta : TE} {t : DE} (h : Ref K ta t) : RefI K (iRng1 (tCons ta tNil)) (iRange t) := fun σ H ρ M R R' s q l =>
  h σ H ρ M _ _ s q fun v H1 d M1 f1 r1 m1 q1 => by
    cases d with
    | int n =>
      cases r1
      exact ⟨n, rfl, q1.1.1, q1.1.2, l _ H1 _ M1 f1 m1 gives_range q1.2⟩
    | _ => exact q1.elim
theorem refI_enum {ta : TE} {t : DE} (h : Ref K ta t) : RefI K (DLE.iEnumA K.K (tCons ta tNil)) (iEnum t) := fun σ H ρ M R R' s q l =>
  h σ H ρ M _ _ s q fun v H1 d M1 f1 r1 m1 q1 => by
    cases d with
    | tup xs =>
      obtain ⟨a, vs, rfl, h, r⟩ := r1
      exact ⟨a, vs, rfl, .inr ⟨h.sq, l _ H1 _ M1 f1 m1 (gives_enumT (tup_sq h) r) q1⟩⟩
    | lst xs =>
      obtain ⟨a, vs, rfl, h, r⟩ := r1
      exact ⟨a, vs, rfl, .inl ⟨.of h.1, l _ H1 _ M1 f1 m1 (gives_enumL (lst_sq h) r) q1⟩⟩
    | rol xs =>
      obtain ⟨a, vs, rfl, h, r⟩ := r1
      exact ⟨a, vs, rfl, .inl ⟨h.sq, l _ H1 _ M1 f1 m1 (gives_enumL (rol_sq h) r) q1⟩⟩
    | _ => exact q1.elim
theorem refI_zip {ta tb : TE} {t u : DE} (h : Ref K ta t) (h' : Ref K tb u) : RefI K (RZ.iZipA K.K (tCons ta (tCons tb tNil))) (iZip t u) := fun σ H ρ M R R' s q l =>
  h σ H ρ M _ _ s q fun v H1 d M1 f1 r1 m1 q1 => h' σ H1 ρ M1 _ _ (s.step f1 m1) q1 fun v2 H2 d2 M2 f2 r2 m2 q2 => by
    have r1 := r1.mono f2
    cases d with
    | tup xs =>
      cases d2 with
      | tup ys =>
        obtain ⟨a, vs, rfl, h, r⟩ := r1
        obtain ⟨b, ws, rfl, h', r'⟩ := r2
        exact ⟨a, b, vs, ws, rfl, .inr ⟨h.sq, h'.sq, l _ H2 _ M2 (f1.trans f2) m2 (gives_zipT (tup_sq h) (tup_sq h') r r') q2⟩⟩
      | _ => exact q2.elim
    | lst xs =>
      cases d2 with
      | lst ys =>
        obtain ⟨a, vs, rfl, h, r⟩ := r1
        obtain ⟨b, ws, rfl, h', r'⟩ := r2
        exact ⟨a, b, vs, ws, rfl, .inl ⟨.of h.1, .of h'.1, l _ H2 _ M2 (f1.trans f2) m2 (gives_zipL (lst_sq h) (lst_sq h') r r') q2⟩⟩
      | _ => exact q2.elim
    | _ => exact q2.elim

/-! ### targets -/
theorem refG_name (i : Nat) : RefG K (L2.gName i) (DL.gName i) := fun v d σ H ρ M Q Q' s r q l => l _ H _ M (Fr.refl H M) (s.set r) q
theorem refGs_nil : RefGs K L2.gNil DL.gNil := fun vs ds σ H ρ M Q Q' s r q l => by
  cases ds with
  | nil => exact ⟨r, l _ H _ M (Fr.refl H M) s q⟩
  | cons _ _ => exact q.elim
theorem refGs_cons {tg : TG} {tgs : TGs} {g : DG} {gs : DGs} (h1 : RefG K tg g) (h2 : RefGs K tgs gs) : RefGs K (L2.gCons tg tgs) (DL.gCons g gs) := fun vs ds σ H ρ M Q Q' s r q l => by
  cases ds with
  | nil => exact q.elim
  | cons d ds =>
    obtain ⟨v, rr, rfl, rv, rs⟩ := r
    exact ⟨v, rr, rfl, h1 v d σ H ρ M _ _ s rv q fun σ1 H1 ρ1 M1 f1 s1 q1 => h2 rr ds σ1 H1 ρ1 M1 _ _ s1 (rs.mono f1) q1 (l.later f1)⟩
theorem refG_tup {tgs : TGs} {gs : DGs} {n : Nat} (hn : ∀ ds ρ M Q, gs ds ρ M Q → ds.length = n) (h : RefGs K tgs gs) : RefG K (L2.gTup K.K n tgs) (DL.gTup gs) := fun v d σ H ρ M Q Q' s r q l => by
  cases d with
  | tup xs =>
    obtain ⟨a, vs, rfl, h1, rr⟩ := r
    exact ⟨a, vs, rfl, h1.sq, by rw [← rr.length]; exact hn _ _ _ _ q, h vs xs σ H ρ M _ _ s rr q l⟩
  | _ => exact q.elim
/-- so many targets -/
def Many (gs : DGs) (n : Nat) : Prop := ∀ ds ρ M Q, gs ds ρ M Q → ds.length = n
theorem many_nil : Many DL.gNil 0 := fun ds ρ M Q q => by
  cases ds with
  | nil => rfl
  | cons _ _ => exact q.elim
theorem refG_sub {to ti : TE} {t u : DE} (h1 : Ref K to t) (h2 : Ref K ti u) : RefG K (L2.gSub to ti rSetL) (DL.gSub t u) := fun v d σ H ρ M Q Q' s r q l =>
  h1 σ H ρ M _ _ s q fun o H1 od M1 f1 r1 m1 q1 => h2 σ H1 ρ M1 _ _ (s.step f1 m1) q1 fun i H2 di M2 f2 r2 m2 q2 => by
    have r1 := r1.mono f2
    cases od with
    | ref a =>
      cases di with
      | int k =>
        cases r1
        cases r2
        cases e : M2 a with
        | none => simp only [e] at q2
        | some mo =>
          cases mo with
          | lst xs =>
            simp only [e] at q2
            cases ej : DL.ixN xs.length k with
            | none => simp only [ej] at q2
            | some j =>
              simp only [ej] at q2
              obtain ⟨vs, hv, rv⟩ := m2.obj a _ e
              refine ⟨a, vs, k, j, rfl, rfl, hv, by rw [← rv.length]; exact ej, ?_⟩
              have r' := r.mono (f1.trans f2)
              have mm := mrep_write (vs := vs.set j v) (ws := vs) m2 e (rv.set j r')
              exact l _ _ _ _ ((f1.trans f2).trans (Fr.write e)) (s.step ((f1.trans f2).trans (Fr.write e)) mm) q2
          | _ => simp only [e] at q2
      | _ => exact q2.elim
    | _ => exact q2.elim
/-! ### statements -/
variable {tt : TT} {b c : DT} {ts us : TS} {t u : DS} {te : TE} {de : DE}
theorem refS_next : RefS K tNext sNext := fun σ H ρ M E E' s q l => l.nx σ H ρ M (Fr.refl H M) s q
theorem refS_break : RefS K tBreak sBreak := fun σ H ρ M E E' s q l => l.bk σ H ρ M (Fr.refl H M) s q
theorem refS_cont : RefS K tCont sCont := fun σ H ρ M E E' s q l => l.ct σ H ρ M (Fr.refl H M) s q
theorem refS_seq (h1 : RefS K ts t) (h2 : RefS K us u) : RefS K (tSeq ts us) (sSeq t u) := fun σ H ρ M E E' s q l =>
  h1 σ H ρ M _ _ s q ⟨fun σ1 H1 ρ1 M1 f1 s1 q1 => h2 σ1 H1 ρ1 M1 _ _ s1 q1 (l.later f1), l.rt, l.bk, l.ct⟩
theorem refS_expr (h : Ref K te de) : RefS K (tDrop te) (sExpr de) := fun σ H ρ M E E' s q l =>
  h σ H ρ M _ _ s q fun v H1 d M1 f1 r1 m1 q1 => l.nx σ H1 ρ M1 f1 (s.step f1 m1) q1
theorem refS_ret (h : Ref K te de) : RefS K (tRet te) (sRet de) := fun σ H ρ M E E' s q l => h σ H ρ M _ _ s q l.rt
theorem refS_retN : RefS K tRetN sRetN := fun σ H ρ M E E' s q l => l.rt .non H .non M (Fr.refl H M) rfl s.mem q
theorem refS_if (h : RefT K tt b) (h1 : RefS K ts t) (h2 : RefS K us u) : RefS K (tIfS tt ts us) (sIf b t u) := fun σ H ρ M E E' s q l =>
  h σ H ρ M _ _ s q fun k H1 M1 f1 m1 q1 => by
    cases k with
    | true =>
      rw [if_pos rfl] at q1 ⊢
      exact h1 σ H1 ρ M1 _ _ (s.step f1 m1) q1 (l.later f1)
    | false =>
      rw [if_neg Bool.false_ne_true] at q1 ⊢
      exact h2 σ H1 ρ M1 _ _ (s.step f1 m1) q1 (l.later f1)
theorem refS_asg {tg : TG} {g : DG} (h : Ref K te de) (hg : RefG K tg g) : RefS K (tAsg te tg) (sAsg de g) := fun σ H ρ M E E' s q l =>
  h σ H ρ M _ _ s q fun v H1 d M1 f1 r1 m1 q1 => hg v d σ H1 ρ M1 _ _ (s.step f1 m1) r1 q1 (l.nx.later f1)
theorem refS_aug {i : Nat} {r : TIp} {rd : DL.R2} (hr : RefR K r rd) (h : Ref K te de) : RefS K (tAug i te r) (sAug i de rd) := fun σ H ρ M E E' s q l => by
  unfold sAug at q
  split at q
  · rename_i d e
    obtain ⟨v, hv, rv⟩ := s.env i d e
    refine ⟨v, hv, h σ H ρ M _ _ s q fun v2 H1 d2 M1 f1 r1 m1 q1 => hr v v2 H1 M1 d d2 _ _ (rv.mono f1) r1 m1 q1 fun z H2 dz M2 f2 rz m2 q2 => ?_⟩
    exact l.nx _ H2 _ M2 (f1.trans f2) ((s.step (f1.trans f2) m2).set rz) q2
  · exact q.elim
theorem drop_cons {α : Type} {xs : List α} {i : Nat} (h : i < xs.length) : ∃ x, xs[i]? = some x ∧ xs.drop i = x :: xs.drop (i + 1) :=
  ⟨xs[i], by simp [h], List.drop_eq_getElem_cons h⟩
theorem refS_for {wi : TI} {ti : DI} {tg : TG} {g : DG} (hi : RefI K wi ti) (hg : RefG K tg g) (hb : RefS K ts t) : RefS K (tFor wi tg ts) (sFor ti g t) := fun σ H ρ M E E' s q l =>
  hi σ H ρ M _ _ s q fun J H1 ds M1 f1 m1 gv q1 => by
    refine ⟨fun i m σ' H' => ∃ ρ' M', Fr H1 M1 H' M' ∧ SRep K σ' H' ρ' M' ∧ i ≤ ds.length ∧ m = ds.length - i ∧ sLoop g t (ds.drop i) E ρ' M', ⟨ds.length, ρ, M1, Fr.refl _ _, s.step f1 m1, Nat.zero_le _, by simp, q1⟩, ?_⟩
    rintro i m σ' H' ⟨ρ', M', f, s', hi', rfl, qq⟩
    by_cases hlt : i < ds.length
    · obtain ⟨d, hd, hdr⟩ := drop_cons hlt
      rw [hdr] at qq
      refine .inr ⟨gv.go i H' M' f hlt, fun σ2 H2 => ∃ ρ2 M2, Fr H1 M1 H2 M2 ∧ SRep K σ2 H2 ρ2 M2 ∧ sLoop g t (ds.drop (i + 1)) E ρ2 M2, fun σ2 H2 ⟨ρ2, M2, f2, s2, q2⟩ => ⟨ds.length - (i + 1), by omega, ρ2, M2, f2, s2, hlt, rfl, q2⟩, fun x H2 y => ?_⟩
      obtain ⟨f2, m2, r2⟩ := gv.yld K.P (fun _ _ _ z => z) i H' M' x H2 f s'.mem y d hd
      refine hg x d σ' H2 ρ' M' _ _ (s'.step f2 m2) r2 qq fun σ3 H3 ρ3 M3 f3 s3 q3 => ?_
      have F3 : Fr H1 M1 H3 M3 := (f.trans f2).trans f3
      have nxt : LiftS K H3 M3 (sLoop g t (ds.drop (i + 1)) E) (fun σ2 H2 => ∃ ρ2 M2, Fr H1 M1 H2 M2 ∧ SRep K σ2 H2 ρ2 M2 ∧ sLoop g t (ds.drop (i + 1)) E ρ2 M2) :=
        fun σ4 H4 ρ4 M4 f4 s4 q4 => ⟨ρ4, M4, F3.trans f4, s4, q4⟩
      exact hb σ3 H3 ρ3 M3 _ _ s3 q3 ⟨nxt, l.rt.later (f1.trans F3), l.nx.later (f1.trans F3), nxt⟩
    · have e : i = ds.length := by omega
      subst e
      rw [List.drop_length] at qq
      exact .inl ⟨gv.stop H' M' f, l.nx σ' H' ρ' M' (f1.trans f) s' qq⟩
theorem refS_while (hc : RefT K tt b) (hb : RefS K ts t) : RefS K (tWhile tt ts) (sWhile b t) := fun σ H ρ M E E' s q l => by
  obtain ⟨n, q⟩ := q
  refine ⟨fun m σ' H' => ∃ ρ' M', Fr H M H' M' ∧ SRep K σ' H' ρ' M' ∧ sWhileN b t m E ρ' M', ⟨n, ρ, M, Fr.refl _ _, s, q⟩, ?_⟩
  rintro m σ' H' ⟨ρ', M', f, s', qq⟩
  cases m with
  | zero => exact qq.elim
  | succ m =>
    refine hc σ' H' ρ' M' _ _ s' qq fun k H1 M1 f1 m1 q1 => ?_
    cases k with
    | true =>
      rw [if_pos rfl] at q1 ⊢
      refine ⟨fun σ2 H2 => ∃ ρ2 M2, Fr H M H2 M2 ∧ SRep K σ2 H2 ρ2 M2 ∧ sWhileN b t m E ρ2 M2, fun σ2 H2 ⟨ρ2, M2, f2, s2, q2⟩ => ⟨m, Nat.lt_succ_self m, ρ2, M2, f2, s2, q2⟩, ?_⟩
      have nxt : LiftS K H1 M1 (sWhileN b t m E) (fun σ2 H2 => ∃ ρ2 M2, Fr H M H2 M2 ∧ SRep K σ2 H2 ρ2 M2 ∧ sWhileN b t m E ρ2 M2) :=
        fun σ4 H4 ρ4 M4 f4 s4 q4 => ⟨ρ4, M4, (f.trans f1).trans f4, s4, q4⟩
      exact hb σ' H1 ρ' M1 _ _ (s'.step f1 m1) q1 ⟨nxt, l.rt.later (f.trans f1), l.nx.later (f.trans f1), nxt⟩
    | false =>
      rw [if_neg Bool.false_ne_true] at q1 ⊢
      exact l.nx σ' H1 ρ' M1 (f.trans f1) (s'.step f1 m1) q1
/-! ### comprehensions -/
/-- a target that stores into the slots vs alone -/
def Own (vs : List Nat) (g : TG) : Prop := ∀ x σ H Q Q', (∀ σ2 H2, L2.wipe σ2 vs = L2.wipe σ vs → Q σ2 H2 → Q' σ2 H2) → g x σ H Q → g x σ H Q'
def Owns (vs : List Nat) (g : TGs) : Prop := ∀ xs σ H Q Q', (∀ σ2 H2, L2.wipe σ2 vs = L2.wipe σ vs → Q σ2 H2 → Q' σ2 H2) → g xs σ H Q → g xs σ H Q'
theorem wipe_set_not {σ : St} {i : Nat} {v : Option V} : ∀ {vs : List Nat}, i ∉ vs → L2.wipe (σ.set i v) vs = (L2.wipe σ vs).set i v
  | [], _ => rfl
  | w :: vs, h => by
    simp only [List.mem_cons, not_or] at h
    unfold L2.wipe
    rw [wipe_set_not h.2, List.set_comm _ _ h.1]
theorem wipe_set {σ : St} {i : Nat} {v : Option V} : ∀ {vs : List Nat}, i ∈ vs → L2.wipe (σ.set i v) vs = L2.wipe σ vs
  | w :: vs, h => by
    unfold L2.wipe
    by_cases c : i ∈ vs
    · rw [wipe_set c]
    · have e : i = w := (List.mem_cons.mp h).resolve_right c
      subst e
      rw [wipe_set_not c, List.set_set]
theorem wipe_wipe {σ : St} : ∀ {vs ws : List Nat}, (∀ i ∈ vs, i ∈ ws) → L2.wipe (L2.wipe σ vs) ws = L2.wipe σ ws
  | [], ws, _ => rfl
  | v :: vs, ws, h => by
    show L2.wipe ((L2.wipe σ vs).set v none) ws = L2.wipe σ ws
    rw [wipe_set (h v (by simp))]
    exact wipe_wipe fun i hi => h i (List.mem_cons_of_mem _ hi)
theorem own_name {vs : List Nat} {i : Nat} (h : i ∈ vs) : Own vs (L2.gName i) := fun x σ H Q Q' f q => f _ _ (wipe_set h) q
theorem owns_nil {vs : List Nat} : Owns vs L2.gNil := fun xs σ H Q Q' f q => ⟨q.1, f _ _ rfl q.2⟩
theorem owns_cons {vs : List Nat} {g : TG} {gs : TGs} (h1 : Own vs g) (h2 : Owns vs gs) : Owns vs (L2.gCons g gs) := fun xs σ H Q Q' f q => by
  obtain ⟨v, r, e, q⟩ := q
  exact ⟨v, r, e, h1 v σ H _ _ (fun σ2 H2 e2 q2 => h2 r σ2 H2 _ _ (fun σ3 H3 e3 q3 => f σ3 H3 (e3.trans e2) q3) q2) q⟩
theorem own_tup {K0 : PySem.W.Frag} {vs : List Nat} {n : Nat} {gs : TGs} (h : Owns vs gs) : Own vs (L2.gTup K0 n gs) := fun x σ H Q Q' f q => by
  obtain ⟨a, xs, e, h1, h2, q⟩ := q
  exact ⟨a, xs, e, h1, h2, h xs σ H _ _ f q⟩
theorem ref_comp {wi : TI} {ti : DI} {tg : TG} {g : DG} {vs : List Nat} (hi : RefI K wi ti) (hg : ∀ P, RefG ⟨K.K, P⟩ tg g) (ho : Own vs tg) (ht : ∀ P, RefT ⟨K.K, P⟩ tt b) (he : ∀ P, Ref ⟨K.K, P⟩ te de) : Ref K (tLc wi tg tt te vs) (dComp ti g b de vs) := fun σ H ρ M Q Q' s q l =>
  hi σ H ρ M _ _ s q fun J H1 ds M1 f1 m1 gv q1 D hD => by
    obtain ⟨hz, q1⟩ := q1
    have mD : M1 D = none := m1.free hD
    have hid := hide_new (K := K) hD
    have s1 : SRep (K.hide D) σ H1 ρ M1 → True := fun _ => trivial
    refine ⟨fun i m H' => ∃ M' acc accV, Fr H1 M1 H' M' ∧ MRep (K.hide D) H' M' ∧ H' D = some (.lst accV) ∧ M' D = none ∧ Reps (K.hide D) H' M' acc accV ∧ acc.length ≤ i ∧ i ≤ ds.length ∧ m = ds.length - i ∧ dCompL g b de (DL.wipe ρ vs) (ds.drop i) acc M' Q,
      ⟨ds.length, M1, [], [], Fr.new hD, m1.hide hD, upd_same, mD, rfl, Nat.zero_le _, Nat.zero_le _, by simp, q1⟩, ?_⟩
    rintro i m H' ⟨M', acc, accV, f, m', hD', mD', ra, ha, hi', rfl, qq⟩
    by_cases hlt : i < ds.length
    · obtain ⟨d, hd, hdr⟩ := drop_cons hlt
      rw [hdr] at qq
      refine .inr ⟨gv.go i H' M' f hlt, fun H2 => ∃ M2 acc2 accV2, Fr H1 M1 H2 M2 ∧ MRep (K.hide D) H2 M2 ∧ H2 D = some (.lst accV2) ∧ M2 D = none ∧ Reps (K.hide D) H2 M2 acc2 accV2 ∧ acc2.length ≤ i + 1 ∧ dCompL g b de (DL.wipe ρ vs) (ds.drop (i + 1)) acc2 M2 Q,
        fun H2 ⟨M2, acc2, accV2, z1, z2, z3, z4, z5, z6, z7⟩ => ⟨ds.length - (i + 1), by omega, M2, acc2, accV2, z1, z2, z3, z4, z5, z6, hlt, rfl, z7⟩, fun x H2 y => ?_⟩
      obtain ⟨f2, m2, r2⟩ := gv.yld (K.hide D).P hid i H' M' x H2 f m' y d hd
      have s2 : SRep (K.hide D) (L2.wipe σ vs) H2 (DL.wipe ρ vs) M' := by
        have z : SRep (K.hide D) σ H2 ρ M' := ⟨s.len, fun i d e => let ⟨v, q, r⟩ := s.env i d e; ⟨v, q, ((r.mono f1).hides hid).mono (f.trans f2)⟩, m2⟩
        exact z.wipe vs
      refine ho x _ H2 _ _ (fun σ3 H3 e3 q3 => ⟨by rw [e3]; exact wipe_wipe fun _ h => h, q3⟩) (hg _ x d _ H2 _ M' _ _ s2 r2 qq fun σ3 H3 ρ3 M3 f3 s3 q3 => ?_)
      refine ht _ σ3 H3 ρ3 M3 _ _ s3 q3 fun k H4 M4 f4 m4 q4 => ?_
      have F4 : Fr H1 M1 H4 M4 := ((f.trans f2).trans f3).trans f4
      have F4' : Fr H' M' H4 M4 := (f2.trans f3).trans f4
      cases k with
      | true =>
        rw [if_pos rfl] at q4 ⊢
        refine he _ σ3 H4 ρ3 M4 _ _ (s3.step f4 m4) q4 fun v H5 dv M5 f5 r5 m5 q5 => ?_
        have F5 : Fr H1 M1 H5 M5 := F4.trans f5
        have F5' : Fr H' M' H5 M5 := F4'.trans f5
        obtain ⟨hD5, mD5⟩ := F5' D _ hD' mD'
        refine ⟨accV, hD5, szLt (by rw [← ra.length]; omega), M5, acc ++ [dv], accV ++ [v], fun a o e w => ?_, MRep.priv (K := K.hide D) m5 (.inr rfl), upd_same, mD5, Reps.priv (K := K.hide D) (.inr rfl) ((ra.mono F5').snoc r5), by rw [List.length_append]; show acc.length + 1 ≤ i + 1; omega, q5⟩
        have ne := ne_of_none e hD
        obtain ⟨z1, z2⟩ := F5 a o e w
        exact ⟨by rw [upd_ne ne]; exact z1, z2⟩
      | false =>
        rw [if_neg Bool.false_ne_true] at q4 ⊢
        obtain ⟨hD4, mD4⟩ := F4' D _ hD' mD'
        exact ⟨M4, acc, accV, F4, m4, hD4, mD4, ra.mono F4', by omega, q4⟩
    · have e : i = ds.length := by omega
      subst e
      rw [List.drop_length] at qq
      refine .inl ⟨gv.stop H' M' f, ?_⟩
      exact l _ H' (.lst acc) M' (f1.trans f) ⟨D, accV, rfl, ⟨hD', mD', m1.nprv hD⟩, ra.bare⟩ m'.bare qq
end
end DL
/-! DLX: the rules by syntax. -/
namespace DL
open PySem PySem.Spec PyProof.Rows L2

section
variable {X : Cx} {pos p : Pos} {a b c e o : Expr} {es : List Expr} {ta tb tc te : TE} {t u w : DE} {tA : TA} {dA' : DA} {tt tu : TT} {k : Nat}
/-! ### names, constants, displays -/
theorem re_v (i : Nat) {x : Str} (hN : X.N[i]? = some x := by rfl) (hv : Vis X.env.scope x := by first | exact Or.inl rfl | exact Or.inr (Or.inl rfl) | exact Or.inr (Or.inr rfl)) (hd : (x == ("__debug__" : Str)) = false := by decide)
    (hcd : (x == ("__classdict__" : Str)) = false := by decide) : RE X (.Name x pos) (tVar i) (dV i) := ⟨pv i hN hv hd hcd, fun P => ref_var i⟩
theorem re_int {i : Int} {j : Nat} : RE X (.Constant (.int i) j pos) (tC (.int i)) (dC (.int i)) := ⟨pe_int, fun P => ref_c fun _ _ => rfl⟩
theorem re_str {x : Str} {j : Nat} : RE X (.Constant (.str x) j pos) (tC (.str x)) (dC (.str x)) := ⟨pe_str, fun P => ref_c fun _ _ => rfl⟩
theorem re_bl {x : Bool} {j : Nat} : RE X (.Constant (.bool x) j pos) (tC (.bl x)) (dC (.bl x)) := ⟨pe_bl, fun P => ref_c fun _ _ => rfl⟩
theorem re_non {j : Nat} : RE X (.Constant .none j pos) (tC .non) (dC .non) := ⟨pe_non, fun P => ref_c fun _ _ => rfl⟩
/-- a module's constant -/
def Glob (K : PySem.W.Frag) (mg : Str → Option Value) (x : Str) (v : V) (d : D) : Prop := ∃ u, mg x = some u ∧ RelV v u ∧ ∀ P H M, Rep ⟨K, P⟩ H M d v
theorem re_glob {x : Str} {v : V} {d : D} (hg : Gl X x) (h : Glob X.K X.mg x v d) (hd : (x == ("__debug__" : Str)) = false := by decide) : RE X (.Name x pos) (tC v) (dC d) := by
  obtain ⟨u, h1, h2, h3⟩ := h
  exact ⟨pe_glob hg h1 h2 hd, fun P => ref_c (h3 P)⟩
theorem ra_nil : RA X [] tNil dA0 := ⟨pa_nil, fun P => refA_nil⟩
theorem ra_cons (h : RE X e te t) (h2 : RA X es tA dA') (hs : starEach (e :: es) X.env = (false, eval e X.env) :: starEach es X.env := by rfl) : RA X (e :: es) (tCons te tA) (dA t dA') := ⟨pa_cons h.pe h2.pa hs, fun P => refA_cons (h.rf P) (h2.rf P)⟩
theorem re_tup {x1 : Nat} (h : RA X es tA dA') (hn : es.length ≤ SZ := by decide) : RE X (.Tuple es x1 pos) (tTup tA) (dTup dA') := ⟨pe_tup h.pa, fun P => ref_tup hn (h.rf P)⟩
theorem re_lst (h : RA X es tA dA') (hn : es.length ≤ SZ := by decide) : RE X (.List es pos) (tLst tA) (dLst dA') := ⟨pe_lst h.pa, fun P => ref_lst hn (h.rf P)⟩
theorem re_new (h : RA X es tA dA') (hn : es.length ≤ SZ := by decide) : RE X (.List es pos) (tLst tA) (dNew dA') := ⟨pe_lst h.pa, fun P => ref_new hn (h.rf P)⟩
/-! ### operators -/
theorem re_add (K0 : PySem.W.Frag) (h1 : RE X a ta t) (h2 : RE X b tb u) (hK : X.K = K0 := by rfl) : RE X (.BinOp a .Add b pos) (tOp (rAddAll K0) ta tb) (dOp oAdd t u) := by
  subst hK
  exact ⟨pe_op op_addAll h1.pe h2.pe, fun P => ref_op rf_add (h1.rf P) (h2.rf P)⟩
theorem re_sub (h1 : RE X a ta t) (h2 : RE X b tb u) : RE X (.BinOp a .Sub b pos) (tOp (rI0 fun i j => .int (i - j)) ta tb) (dOp oSub t u) := ⟨pe_op op_sub h1.pe h2.pe, fun P => ref_op rf_sub (h1.rf P) (h2.rf P)⟩
theorem re_mul (h1 : RE X a ta t) (h2 : RE X b tb u) : RE X (.BinOp a .Mult b pos) (tOp rMulAll ta tb) (dOp oMul t u) := ⟨pe_op op_mulAll h1.pe h2.pe, fun P => ref_op rf_mul (h1.rf P) (h2.rf P)⟩
theorem re_rep (h1 : RE X a ta t) (h2 : RE X b tb u) : RE X (.BinOp a .Mult b pos) (tOp rRepS ta tb) (dOp oRep t u) := ⟨pe_op op_repS h1.pe h2.pe, fun P => ref_op rf_rep (h1.rf P) (h2.rf P)⟩
theorem re_fdiv (h1 : RE X a ta t) (h2 : RE X b tb u) : RE X (.BinOp a .FloorDiv b pos) (tOp (rI CDivW fun i j => .int (i / j)) ta tb) (dOp oFdiv t u) := ⟨pe_op op_fdivW h1.pe h2.pe, fun P => ref_op rf_fdiv (h1.rf P) (h2.rf P)⟩
theorem re_mod (h1 : RE X a ta t) (h2 : RE X b tb u) : RE X (.BinOp a .Mod b pos) (tOp (rI (fun _ j => 0 < j) fun i j => .int (i % j)) ta tb) (dOp oMod t u) := ⟨pe_op op_mod h1.pe h2.pe, fun P => ref_op rf_mod (h1.rf P) (h2.rf P)⟩
theorem re_pow (h1 : RE X a ta t) (h2 : RE X b tb u) : RE X (.BinOp a .Pow b pos) (tOp (rI CPow fun i j => .int (i ^ j.toNat)) ta tb) (dOp oPow t u) := ⟨pe_op op_pow h1.pe h2.pe, fun P => ref_op rf_pow (h1.rf P) (h2.rf P)⟩
theorem re_neg (h1 : RE X a ta t) : RE X (.UnaryOp .USub a pos) (tUn (rU fun i => .int (-i)) ta) (dUn oNeg t) := ⟨pe_un un_neg h1.pe, fun P => ref_un rf_neg (h1.rf P)⟩
theorem re_ix (K0 : PySem.W.Frag) (h1 : RE X a ta t) (h2 : RE X b tb u) (hs : PlainIx b := by exact fun _ _ => rfl) (hK : X.K = K0 := by rfl) : RE X (.Subscript a b pos) (tOp (rIx K0) ta tb) (dOp oIx t u) := by
  subst hK
  exact ⟨pe_ix ix_seq h1.pe h2.pe hs, fun P => ref_op rf_ix (h1.rf P) (h2.rf P)⟩
structure RO (X : Cx) (e : Option Expr) (to : TO) (t : DO) : Prop where
  po : PO X e to
  rf : ∀ P, RefO ⟨X.K, P⟩ to t
theorem ro_none : RO X none tNoPart dNoPart := ⟨po_none, fun P => refO_none⟩
theorem ro_some (h : RE X e te t) : RO X (some e) (tPart te) (dPart t) := ⟨po_some h.pe, fun P => refO_some (h.rf P)⟩
theorem re_cut {lo hi : Option Expr} {tl th : TO} {dl dh : DO} {p2 : Pos} (K0 : PySem.W.Frag) (h : RE X e te t) (h1 : RO X lo tl dl) (h2 : RO X hi th dh) (hK : X.K = K0 := by rfl) : RE X (.Subscript e (.Slice lo hi none p2) pos) (tSl (rCutAll K0) te tl th) (dCut t dl dh) := by
  subst hK
  exact ⟨pe_slice sl_all h.pe h1.po h2.po, fun P => ref_cut (h.rf P) (h1.rf P) (h2.rf P)⟩
/-! ### comparisons -/
structure CM (X : Cx) (op : CmpOp) (r : L2.R2) (rd : DL.R2) : Prop where
  op : OpR X (compareOp op) r
  rf : ∀ P, RefR ⟨X.K, P⟩ r rd
theorem c_eq (K0 : PySem.W.Frag) (hr : Room k X.A) (hK : X.K = K0 := by rfl) : CM X .Eq (rEqAll K0) oEq := by
  subst hK
  exact ⟨op_eqAll hr.units, fun P => rf_eq⟩
theorem c_ne (K0 : PySem.W.Frag) (hr : Room k X.A) (hK : X.K = K0 := by rfl) : CM X .NotEq (rNeAll K0) oNe := by
  subst hK
  exact ⟨op_neAll hr.units, fun P => rf_ne⟩
theorem c_lt : CM X .Lt (rI0 fun i j => .bl (decide (i < j))) oLt := ⟨op_lt, fun P => rf_lt⟩
theorem c_le : CM X .LtE (rI0 fun i j => .bl (decide (i ≤ j))) oLe := ⟨op_le, fun P => rf_le⟩
theorem c_gt : CM X .Gt (rI0 fun i j => .bl (decide (j < i))) oGt := ⟨op_gt, fun P => rf_gt⟩
theorem c_ge : CM X .GtE (rI0 fun i j => .bl (decide (j ≤ i))) oGe := ⟨op_ge, fun P => rf_ge⟩
theorem c_in (K0 : PySem.W.Frag) (hK : X.K = K0 := by rfl) : CM X .In (rInAll K0) oIn := by
  subst hK
  exact ⟨op_inAll, fun P => rf_in⟩
theorem c_notIn (K0 : PySem.W.Frag) (hK : X.K = K0 := by rfl) : CM X .NotIn (rNotInAll K0) oNotIn := by
  subst hK
  exact ⟨op_notInAll, fun P => rf_notIn⟩
theorem re_cmp {op : CmpOp} {r : L2.R2} {rd : DL.R2} (c : CM X op r rd) (h1 : RE X a ta t) (h2 : RE X b tb u) (hm : behindInMarks op b = false := by first | exact nomark _ | rfl) : RE X (.Compare a [op] [b] pos) (tOp r ta tb) (dOp rd t u) :=
  ⟨pe_cmpR c.op h1.pe h2.pe hm, fun P => ref_op (c.rf P) (h1.rf P) (h2.rf P)⟩
theorem rt_cmp {op : CmpOp} {r : L2.R2} {rd : DL.R2} (c : CM X op r rd) (h1 : RE X a ta t) (h2 : RE X b tb u) (hm : behindInMarks op b = false := by first | exact nomark _ | rfl) : RT X (.Compare a [op] [b] pos) (tTest (tOp r ta tb)) (dTest (dOp rd t u)) :=
  ⟨pt_cmpR c.op h1.pe h2.pe hm, fun P => refT_test (ref_op (c.rf P) (h1.rf P) (h2.rf P))⟩
theorem re_chain {op op' : CmpOp} {r r' : L2.R2} {rd rd' : DL.R2} (c1 : CM X op r rd) (c2 : CM X op' r' rd') (h1 : RE X a ta t) (h2 : RE X b tb u) (h3 : RE X c tc w) (hm : lastMarks [op, op'] [b, c] = false := by with_unfolding_all rfl) :
    RE X (.Compare a [op, op'] [b, c] pos) (tChain r r' ta tb tc) (dChain rd rd' t u w) := ⟨pe_chain c1.op c2.op h1.pe h2.pe h3.pe hm, fun P => ref_chain (c1.rf P) (c2.rf P) (h1.rf P) (h2.rf P) (h3.rf P)⟩
theorem rt_chain {op op' : CmpOp} {r r' : L2.R2} {rd rd' : DL.R2} (c1 : CM X op r rd) (c2 : CM X op' r' rd') (h1 : RE X a ta t) (h2 : RE X b tb u) (h3 : RE X c tc w) (hm : lastMarks [op, op'] [b, c] = false := by with_unfolding_all rfl) :
    RT X (.Compare a [op, op'] [b, c] pos) (tTest (tChain r r' ta tb tc)) (dTest (dChain rd rd' t u w)) := ⟨pt_chain c1.op c2.op h1.pe h2.pe h3.pe hm, fun P => refT_test (ref_chain (c1.rf P) (c2.rf P) (h1.rf P) (h2.rf P) (h3.rf P))⟩
theorem re_isN {j : Nat} {p' : Pos} (h1 : RE X a ta t) : RE X (.Compare a [.Is] [.Constant .none j p'] pos) (tIsN ta) (dUn oIsN t) := ⟨pe_cmp (pc_isN h1.pe), fun P => ref_isN (h1.rf P)⟩
theorem re_notN {j : Nat} {p' : Pos} (h1 : RE X a ta t) : RE X (.Compare a [.IsNot] [.Constant .none j p'] pos) (tNotN ta) (dUn oNotN t) := ⟨pe_cmp (pc_notN h1.pe), fun P => ref_notN (h1.rf P)⟩
theorem rt_isN {j : Nat} {p' : Pos} (h1 : RE X a ta t) : RT X (.Compare a [.Is] [.Constant .none j p'] pos) (tB (tIsN ta)) (dTest (dUn oIsN t)) := ⟨pt_cmp (pc_isN h1.pe), fun P => refT_val (ref_isN (h1.rf P))⟩
theorem rt_notN {j : Nat} {p' : Pos} (h1 : RE X a ta t) : RT X (.Compare a [.IsNot] [.Constant .none j p'] pos) (tB (tNotN ta)) (dTest (dUn oNotN t)) := ⟨pt_cmp (pc_notN h1.pe), fun P => refT_val (ref_notN (h1.rf P))⟩
/-! ### tests -/
variable {d1 d2 : DT} {rest : List Expr}
theorem rt_val (h : RE X e te t) (he : ∀ whole, isTrue e X.env whole = (do let v ← whole; standAt e.pos; holding [v] (truthy v)) := by intro _; rfl) : RT X e (tB te) (dTest t) := ⟨pt_val h.pe he, fun P => refT_val (h.rf P)⟩
theorem rw_and1 (h : RT X a tt d1) : RW X (.BoolOp .And [a] pos) tt d1 := ⟨pw_and1 h.pt, h.rf⟩
theorem rw_or1 (h : RT X a tt d1) : RW X (.BoolOp .Or [a] pos) tt d1 := ⟨pw_or1 h.pt, h.rf⟩
theorem rw_and (h1 : RT X a tt d1) (h2 : RW X (.BoolOp .And (b :: rest) pos) tu d2) : RW X (.BoolOp .And (a :: b :: rest) pos) (tAnd tt tu) (dAnd d1 d2) := ⟨pw_and h1.pt h2.pw, fun P => refT_and (h1.rf P) (h2.rf P)⟩
theorem rw_or (h1 : RT X a tt d1) (h2 : RW X (.BoolOp .Or (b :: rest) pos) tu d2) : RW X (.BoolOp .Or (a :: b :: rest) pos) (tOr tt tu) (dOr d1 d2) := ⟨pw_or h1.pt h2.pw, fun P => refT_or (h1.rf P) (h2.rf P)⟩
theorem rt_w (h : RW X e tt d1) : RT X e tt d1 := ⟨h.pw.pt, h.rf⟩
theorem rt_not (h : RT X a tt d1) : RT X (.UnaryOp .Not a pos) (tNot tt) (dNot d1) := ⟨pt_not h.pt, fun P => refT_not (h.rf P)⟩
theorem re_one {op : BoolOp} (h : RE X a ta t) : RE X (.BoolOp op [a] pos) ta t := ⟨pe_one h.pe, h.rf⟩
theorem re_and (h1 : RE X a ta t) (h2 : RE X (.BoolOp .And (b :: rest) pos) tb u) : RE X (.BoolOp .And (a :: b :: rest) pos) (tAndV ta tb) (dAndV t u) := ⟨pe_and h1.pe h2.pe, fun P => ref_andV (h1.rf P) (h2.rf P)⟩
theorem re_or (h1 : RE X a ta t) (h2 : RE X (.BoolOp .Or (b :: rest) pos) tb u) : RE X (.BoolOp .Or (a :: b :: rest) pos) (tOrV ta tb) (dOrV t u) := ⟨pe_or h1.pe h2.pe, fun P => ref_orV (h1.rf P) (h2.rf P)⟩
theorem re_not (h : RE X a ta t) : RE X (.UnaryOp .Not a pos) (tNotV ta) (dNotV t) := ⟨pe_not h.pe, fun P => ref_notV (h.rf P)⟩
theorem re_ifE (h : RT X c tt d1) (h1 : RE X a ta t) (h2 : RE X b tb u) : RE X (.IfExp c a b pos) (tIf tt ta tb) (dIfE d1 t u) := ⟨pe_ifExp h.pt h1.pe h2.pe, fun P => ref_ifE (h.rf P) (h1.rf P) (h2.rf P)⟩
/-! ### built-ins -/
structure B1 (X : Cx) (f : Value) (r : List V → Hp → VK → Prop) (rd : R1) : Prop where
  op : CallR X f r
  rf : ∀ P, RefR1 ⟨X.K, P⟩ r rd
theorem re_b1 {x : Str} {id : String} {r : List V → Hp → VK → Prop} {rd : R1} (c : B1 X (.builtin id) r rd) (hv : bootBuiltins x = some (.builtin id)) (hg : Gl X x) (hm : X.mg x = none) (h : RE X e te t) (hn : x ≠ "__name__" := by decide) (hdb : (x == ("__debug__" : Str)) = false := by decide)
    (he : starEach [e] X.env = (false, eval e X.env) :: starEach [] X.env := by rfl) (hpl : (backTo pos (starEach [] X.env)).any (·.1) = false := by rfl) : RE X (.Call (.Name x p) [e] [] pos) (tCB r (tCons te tNil)) (dUn rd t) :=
  ⟨pe_callB c.op hg hm hv (pa_cons h.pe pa_nil he) hn hdb he hpl, fun P => ref_cb1 (c.rf P) (h.rf P)⟩
theorem re_bT {x : Str} {T : String} {r : List V → Hp → VK → Prop} {rd : R1} (c : B1 X (.type T) r rd) (hv : bootBuiltins x = some (.type T)) (hg : Gl X x) (hm : X.mg x = none) (h : RE X e te t) (hn : x ≠ "__name__" := by decide) (hdb : (x == ("__debug__" : Str)) = false := by decide)
    (he : starEach [e] X.env = (false, eval e X.env) :: starEach [] X.env := by rfl) (hpl : (backTo pos (starEach [] X.env)).any (·.1) = false := by rfl) : RE X (.Call (.Name x p) [e] [] pos) (tCB r (tCons te tNil)) (dUn rd t) :=
  ⟨pe_callTy c.op hg hm hv (pa_cons h.pe pa_nil he) hn hdb he hpl, fun P => ref_cb1 (c.rf P) (h.rf P)⟩
theorem b_len (K0 : PySem.W.Frag) (hK : X.K = K0 := by rfl) : B1 X (.builtin "len") (rLenAll K0) oLen := by
  subst hK
  exact ⟨call_len, fun P => rf_len⟩
abbrev rAbs1 : List V → Hp → VK → Prop := fun xs H Q => ∃ i, xs = [.int i] ∧ Q (.int (if i < 0 then -i else i)) H
abbrev rInt1 : List V → Hp → VK → Prop := fun xs H Q => (∃ i, xs = [.int i] ∧ Q (.int i) H) ∨ ∃ k, xs = [.bl k] ∧ Q (.int (if k then 1 else 0)) H
abbrev rStr1 : List V → Hp → VK → Prop := fun xs H Q => ∃ i, xs = [.int i] ∧ i.natAbs.log2 < 1920 ∧ Q (.str (toString i)) H
abbrev rTuple1 (K : PySem.W.Frag) : List V → Hp → VK → Prop := fun xs H Q => ∃ p ys, xs = [.ref p] ∧ ((SqL K H p ys ∧ ∀ l, H l = none → Q (.ref l) (upd H l (.tup ys))) ∨ (SqT K H p ys ∧ Q (.ref p) H))
abbrev rList1 (K : PySem.W.Frag) : List V → Hp → VK → Prop := fun xs H Q => ∃ p ys, xs = [.ref p] ∧ (SqL K H p ys ∨ SqT K H p ys) ∧ ∀ l, H l = none → Q (.ref l) (upd H l (.lst ys))
theorem b_abs : B1 X (.builtin "abs") rAbs1 oAbs := ⟨call_abs, fun P => rf_abs⟩
theorem b_int : B1 X (.type "int") rInt1 oInt := ⟨call_int1, fun P => rf_int⟩
theorem b_str : B1 X (.type "str") rStr1 oStr := ⟨call_str_int, fun P => rf_str⟩
theorem b_tuple (K0 : PySem.W.Frag) (hK : X.K = K0 := by rfl) : B1 X (.type "tuple") (rTuple1 K0) oTuple := by
  subst hK
  exact ⟨call_tuple_of, fun P => rf_tuple⟩
theorem b_list (K0 : PySem.W.Frag) (hK : X.K = K0 := by rfl) : B1 X (.type "list") (rList1 K0) oList := by
  subst hK
  exact ⟨call_list_of, fun P => rf_list⟩
theorem b_all (K0 : PySem.W.Frag) (hc : X.calm = true) (hK : X.K = K0 := by rfl) : B1 X (.builtin "all") (rAll K0) oAll := by
  subst hK
  exact ⟨cr_all hc, fun P => rf_all⟩
theorem b_any (K0 : PySem.W.Frag) (hc : X.calm = true) (hK : X.K = K0 := by rfl) : B1 X (.builtin "any") (rAny K0) oAny := by
  subst hK
  exact ⟨cr_any hc, fun P => rf_any⟩
theorem b_sum (K0 : PySem.W.Frag) (hc : X.calm = true) (hK : X.K = K0 := by rfl) : B1 X (.builtin "sum") (rSum K0) oSum := by
  subst hK
  exact ⟨cr_sum hc, fun P => rf_sum⟩
theorem re_isi {T : String} {y : Str} {p2 : Pos} (K0 : PySem.W.Frag) (hT : kitT T = true) (hv : bootBuiltins y = some (.type T)) (hg : Gl X "isinstance") (hm : X.mg "isinstance" = none) (hg2 : Gl X y) (hm2 : X.mg y = none) (h : RE X e te t) (hny : y ≠ "__name__" := by decide) (hdy : (y == ("__debug__" : Str)) = false := by decide)
    (he : starEach [e, .Name y p2] X.env = (false, eval e X.env) :: starEach [.Name y p2] X.env := by rfl) (he2 : starEach [.Name y p2] X.env = (false, eval (.Name y p2) X.env) :: starEach [] X.env := by rfl) (hpl : (backTo pos (starEach [.Name y p2] X.env)).any (·.1) = false := by rfl) (hK : X.K = K0 := by rfl) :
    RE X (.Call (.Name "isinstance" p) [e, .Name y p2] [] pos) (tCB (rIsi K0) (tCons te (tCons (tC (.ty T)) tNil))) (dUn (oIsi T) t) := by
  subst hK
  exact ⟨pe_callB call_isi hg hm boot_isinstance (pa_cons h.pe (pa_cons (pe_bltn hg2 hm2 hv rfl hny hdy) pa_nil he2) he) (by decide) (by decide) he hpl, fun P => rf_isi hT (h.rf P)⟩
/-! ### methods of lists -/
theorem tyV_list {K : Fg} {H : Hp} {M : Mem} {d : D} {x : V} (m : MRep K H M) (r : Rep K H M d x) (h : (asL M d).isSome = true) : tyV K.K "list" x H := by
  cases e : asL M d with
  | none => rw [e] at h; cases h
  | some ys =>
    obtain ⟨a, vs, rfl, q, _⟩ := asL_rep m r e
    exact .inl ⟨rfl, vs, q⟩
theorem ref_meth {K : Fg} {r : V → List V → Hp → VK → Prop} {rd : DL.R2} {to : TE} {do' : DE} (hr : ∀ x y H M dx dy Q Q', Rep K H M dx x → Rep K H M dy y → MRep K H M → rd dx dy M Q → Lift K H M Q Q' → r x [y] H Q') (h1 : Ref K to do') (h2 : Ref K te t) :
    Ref K (tBM K.K "list" r to (tCons te tNil)) (dMeth rd do' t) := fun σ H ρ M Q Q' s q l =>
  h1 σ H ρ M _ _ s q fun v H1 d M1 f1 r1 m1 q1 => ⟨tyV_list m1 r1 q1.1, h2 σ H1 ρ M1 _ _ (s.step f1 m1) q1.2 fun v2 H2 d2 M2 f2 r2 m2 q2 =>
    hr v v2 H2 M2 d d2 _ _ (r1.mono f2) r2 m2 q2 (l.later (f1.trans f2))⟩
theorem ref_meth0 {K : Fg} {r : V → List V → Hp → VK → Prop} {rd : R1} {to : TE} {do' : DE} (hr : ∀ x H M dx Q Q', Rep K H M dx x → MRep K H M → rd dx M Q → Lift K H M Q Q' → r x [] H Q') (h1 : Ref K to do') : Ref K (tBM0 K.K "list" r to) (dMeth0 rd do') := fun σ H ρ M Q Q' s q l =>
  h1 σ H ρ M _ _ s q fun v H1 d M1 f1 r1 m1 q1 => ⟨tyV_list m1 r1 q1.1, hr v H1 M1 d _ _ r1 m1 q1.2 (l.later f1)⟩
theorem mt_lst {K : Fg} {H : Hp} {M : Mem} {a : Addr} {xs : List D} (m : MRep K H M) (e : M a = some (.lst xs)) : ∃ vs, H a = some (.lst vs) ∧ Reps K H M xs vs := m.obj a _ e
theorem rm_append {K : Fg} : ∀ x y H M dx dy Q Q', Rep K H M dx x → Rep K H M dy y → MRep K H M → mAppend dx dy M Q → Lift K H M Q Q' → rAppend x [y] H Q' := fun x y H M dx dy Q Q' rx ry m q l => by
  cases dx with
  | ref a =>
    cases rx
    simp only [mAppend] at q
    cases e : M a with
    | none => simp only [e] at q
    | some mo =>
      cases mo with
      | lst xs =>
        simp only [e] at q
        obtain ⟨vs, hv, rv⟩ := mt_lst m e
        refine ⟨a, vs, y, rfl, rfl, hv, szLt (by rw [← rv.length]; exact q.1), ?_⟩
        exact l _ _ .non _ (Fr.write e) rfl (mrep_write (ws := vs) m e (rv.snoc ry)) q.2
      | _ => simp only [e] at q
  | _ => exact q.elim
theorem rm_pop {K : Fg} : ∀ x H M dx Q Q', Rep K H M dx x → MRep K H M → mPop dx M Q → Lift K H M Q Q' → rPop x [] H Q' := fun x H M dx Q Q' rx m q l => by
  cases dx with
  | ref a =>
    cases rx
    simp only [mPop] at q
    cases e : M a with
    | none => simp only [e] at q
    | some mo =>
      cases mo with
      | lst xs =>
        simp only [e] at q
        cases e2 : xs[xs.length - 1]? with
        | none => simp only [e2] at q
        | some d =>
          simp only [e2] at q
          obtain ⟨vs, hv, rv⟩ := mt_lst m e
          obtain ⟨y, hy, ry⟩ := rv.get e2
          refine ⟨a, vs, y, rfl, rfl, hv, by rw [← rv.length]; exact hy, ?_⟩
          exact l _ _ d _ (Fr.write e) (ry.mono (Fr.write e)) (mrep_write (ws := vs) m e rv.dropLast) q
      | _ => simp only [e] at q
  | _ => exact q.elim
theorem rm_popAt {K : Fg} : ∀ x y H M dx dy Q Q', Rep K H M dx x → Rep K H M dy y → MRep K H M → mPopAt dx dy M Q → Lift K H M Q Q' → rPopAt x [y] H Q' := fun x y H M dx dy Q Q' rx ry m q l => by
  cases dx with
  | ref a =>
    cases dy with
    | int i =>
      cases rx
      cases ry
      simp only [mPopAt] at q
      cases e : M a with
      | none => simp only [e] at q
      | some mo =>
        cases mo with
        | lst xs =>
          simp only [e] at q
          cases e1 : DL.ixN xs.length i with
          | none => simp only [e1] at q; exact q.2.elim
          | some k =>
            simp only [e1] at q
            cases e2 : xs[k]? with
            | none => simp only [e2] at q; exact q.2.elim
            | some d =>
              simp only [e2] at q
              obtain ⟨vs, hv, rv⟩ := mt_lst m e
              obtain ⟨y, hy, ry⟩ := rv.get e2
              refine ⟨a, vs, i, k, y, rfl, rfl, hv, q.1.1, q.1.2, ?_, hy, ?_⟩
              · rw [← rv.length]
                exact (L2.ixN_seq e1).1
              · exact l _ _ d _ (Fr.write e) (ry.mono (Fr.write e)) (mrep_write (ws := vs) m e (rv.eraseIdx k)) q.2
        | _ => simp only [e] at q
    | _ => exact q.elim
  | _ => exact q.elim
theorem re_append {to : TE} {do' : DE} {apos cpos : Pos} (K0 : PySem.W.Frag) (ho : RE X o to do') (h : RE X e te t) (hbase : attributeBase o "append" X.env (eval o X.env) = eval o X.env := by rfl)
    (hfew : ((backTo cpos (starEach [e] X.env)).all (fun x => !x.1) && (backToKw cpos (keywordEach [] X.env)).all (fun x => x.1.isSome)
      && decide ([e].length + ([] : List Keyword).length + (if ([] : List Keyword).isEmpty then 0 else 1) < 30)) = true := by rfl)
    (hline : (apos.endLine == cpos.line) = true := by rfl) (hs : starEach [e] X.env = (false, eval e X.env) :: starEach [] X.env := by rfl) (hplain : (backTo cpos (starEach [] X.env)).any (·.1) = false := by rfl) (hK : X.K = K0 := by rfl) :
    RE X (.Call (.Attribute o "append" apos) [e] [] cpos) (tBM K0 "list" rAppend to (tCons te tNil)) (dMeth mAppend do' t) := by
  subst hK
  exact ⟨pe_bm PySem.F.plainAttrs_list PySem.F.slot_list_append PySem.F.type_list_append mt_append ho.pe (pa_cons h.pe pa_nil hs) hbase hfew hline hs hplain, fun P => ref_meth (K := ⟨X.K, P⟩) rm_append (ho.rf P) (h.rf P)⟩
theorem re_popAt {to : TE} {do' : DE} {apos cpos : Pos} (K0 : PySem.W.Frag) (ho : RE X o to do') (h : RE X e te t) (hbase : attributeBase o "pop" X.env (eval o X.env) = eval o X.env := by rfl)
    (hfew : ((backTo cpos (starEach [e] X.env)).all (fun x => !x.1) && (backToKw cpos (keywordEach [] X.env)).all (fun x => x.1.isSome)
      && decide ([e].length + ([] : List Keyword).length + (if ([] : List Keyword).isEmpty then 0 else 1) < 30)) = true := by rfl)
    (hline : (apos.endLine == cpos.line) = true := by rfl) (hs : starEach [e] X.env = (false, eval e X.env) :: starEach [] X.env := by rfl) (hplain : (backTo cpos (starEach [] X.env)).any (·.1) = false := by rfl) (hK : X.K = K0 := by rfl) :
    RE X (.Call (.Attribute o "pop" apos) [e] [] cpos) (tBM K0 "list" rPopAt to (tCons te tNil)) (dMeth mPopAt do' t) := by
  subst hK
  exact ⟨pe_bm PySem.F.plainAttrs_list PySem.F.slot_list_pop PySem.F.type_list_pop mt_popAt ho.pe (pa_cons h.pe pa_nil hs) hbase hfew hline hs hplain, fun P => ref_meth (K := ⟨X.K, P⟩) rm_popAt (ho.rf P) (h.rf P)⟩
theorem re_pop {to : TE} {do' : DE} {apos cpos : Pos} (K0 : PySem.W.Frag) (ho : RE X o to do') (hbase : attributeBase o "pop" X.env (eval o X.env) = eval o X.env := by rfl) (hline : (apos.endLine == cpos.line) = true := by rfl) (hK : X.K = K0 := by rfl) :
    RE X (.Call (.Attribute o "pop" apos) [] [] cpos) (tBM0 K0 "list" rPop to) (dMeth0 mPop do') := by
  subst hK
  exact ⟨pe_bm0 PySem.F.plainAttrs_list PySem.F.slot_list_pop PySem.F.type_list_pop mt_pop ho.pe hbase hline, fun P => ref_meth0 (K := ⟨X.K, P⟩) rm_pop (ho.rf P)⟩
/-! ### walks, comprehensions -/
variable {tg iter : Expr} {wi : TI} {ti : DI}
theorem ri_seq (K0 : PySem.W.Frag) (h : RE X e te t) (hK : X.K = K0 := by rfl) : RI X tg e (DLE.iAny K0 te) (iSeq t) := by
  subst hK
  exact ⟨DLE.pi_any h.pe, fun P => refI_seq (K := ⟨X.K, P⟩) (h.rf P)⟩
theorem ri_range (hg : Gl X "range") (hm : X.mg "range" = none) (h : RE X e te t) (hs : starEach [e] X.env = [(false, eval e X.env)] := by rfl) : RI X tg (.Call (.Name "range" p) [e] [] pos) (iRng1 (tCons te tNil)) (iRange t) :=
  ⟨pi_range1 hg hm (pa_cons h.pe pa_nil hs) hs, fun P => refI_range (h.rf P)⟩
theorem ri_enum {elts : List Expr} {kk : Nat} {tpos : Pos} (K0 : PySem.W.Frag) (hg : Gl X "enumerate") (hm : X.mg "enumerate" = none) (h : RE X e te t) (hs : starEach [e] X.env = [(false, eval e X.env)] := by rfl) (hK : X.K = K0 := by rfl) : RI X (.Tuple elts kk tpos) (.Call (.Name "enumerate" p) [e] [] pos) (DLE.iEnumA K0 (tCons te tNil)) (iEnum t) := by
  subst hK
  exact ⟨DLE.pi_enumA hg hm (pa_cons h.pe pa_nil hs) hs, fun P => refI_enum (K := ⟨X.K, P⟩) (h.rf P)⟩
theorem ri_zip {elts : List Expr} {kk : Nat} {tpos : Pos} (K0 : PySem.W.Frag) (hg : Gl X "zip") (hm : X.mg "zip" = none) (h : RE X a ta t) (h2 : RE X b tb u) (hs : starEach [a, b] X.env = (false, eval a X.env) :: starEach [b] X.env := by rfl) (hs2 : starEach [b] X.env = (false, eval b X.env) :: starEach [] X.env := by rfl) (hpl : (backTo pos (starEach [b] X.env)).any (·.1) = false := by rfl) (hK : X.K = K0 := by rfl) :
    RI X (.Tuple elts kk tpos) (.Call (.Name "zip" p) [a, b] [] pos) (RZ.iZipA K0 (tCons ta (tCons tb tNil))) (iZip t u) := by
  subst hK
  exact ⟨RZ.pi_zipA hg hm (pa_cons h.pe (pa_cons h2.pe pa_nil hs2) hs) hs hpl, fun P => refI_zip (K := ⟨X.K, P⟩) (h.rf P) (h2.rf P)⟩
structure RTs (X : Cx) (ifs : List Expr) (tt : TT) (b : DT) : Prop where
  pt : PTs X ifs tt
  rf : ∀ P, RefT ⟨X.K, P⟩ tt b
theorem rts_nil : RTs X [] tYes dYes := ⟨pts_nil, fun P => refT_yes⟩
theorem rts_one (h : RT X c tt d1) : RTs X [c] tt d1 := ⟨pts_one h.pt, h.rf⟩
theorem re_comp {vs : List Nat} {elt : Expr} {ifs : List Expr} {scope : Scope} {own : List (Str × Nat)} {g : TG} {dg : DG} {db : DT} {de : DE} (hc : X.calm = true) (hN : X.N.Nodup) (hi : RI X tg iter wi ti) (ok : BlkOk X.N X.env.scope scope own)
    (hg : ∀ (s : Shared) (H : Hp) (C : Addr) (cl : List (Str × Addr)) (fp : List Addr), RG (X.blk s H scope (compEnvC scope cl C X.env) fp) tg g dg) (ho : Own vs g)
    (ht : ∀ (s : Shared) (H : Hp) (C : Addr) (cl : List (Str × Addr)) (fp : List Addr), RTs (X.blk s H scope (compEnvC scope cl C X.env) fp) ifs tt db)
    (he : ∀ (s : Shared) (H : Hp) (C : Addr) (cl : List (Str × Addr)) (fp : List Addr), RE (X.blk s H scope (compEnvC scope cl C X.env) fp) elt te de) (hvs : own.map (·.2) = vs := by rfl) (hs : ∀ x, foldedSetIterable iter X.env x = pure x := by intro _; rfl) :
    RE X (.ListComp elt [⟨tg, iter, ifs, 0⟩] scope pos) (tLc wi g tt te vs) (dComp ti dg db de vs) := by
  subst hvs
  exact ⟨pe_lc hc hN hi.pi ok (fun s H C cl fp => (hg s H C cl fp).pg) (fun s H C cl fp => (ht s H C cl fp).pt) (fun s H C cl fp => (he s H C cl fp).pe) hs,
    fun P => ref_comp (K := ⟨X.K, P⟩) (hi.rf P) (fun P' => (hg X.s_0 X.H_0 0 [] []).rf P') ho (fun P' => (ht X.s_0 X.H_0 0 [] []).rf P') fun P' => (he X.s_0 X.H_0 0 [] []).rf P'⟩
/-! ### targets -/
theorem rg_name {i : Nat} {x : Str} (hN : X.N.Nodup) (hi : X.N[i]? = some x) (hx : Loc X.env.scope x) (hf : X.fn x = true ∨ X.env.scope.names.lookup x = some .local := by first | exact .inl rfl | exact .inr rfl | assumption) : RG X (.Name x pos) (L2.gName i) (DL.gName i) :=
  ⟨pg_name hN hi hx hf, fun P => refG_name i⟩
structure RGn (X : Cx) (es : List Expr) (tg : TGs) (g : DGs) (n : Nat) : Prop where
  rg : RGs X es tg g
  many : Many g n
theorem rgs_nil : RGn X [] L2.gNil DL.gNil 0 := ⟨⟨pgs_nil, fun P => refGs_nil⟩, many_nil⟩
theorem many_cons {g : DG} {gs : DGs} {n : Nat} (h : Many gs n) (hg : ∀ d ρ M Q, g d ρ M Q → ∃ ρ' M', Q ρ' M') : Many (DL.gCons g gs) (n + 1) := fun ds ρ M Q q => by
  cases ds with
  | nil => exact q.elim
  | cons d ds =>
    obtain ⟨ρ', M', q'⟩ := hg d ρ M _ q
    rw [List.length_cons, h ds ρ' M' Q q']
theorem rgs_name {i : Nat} {x : Str} {tgs : TGs} {gs : DGs} {n : Nat} (hN : X.N.Nodup) (hi : X.N[i]? = some x) (hx : Loc X.env.scope x) (h2 : RGn X es tgs gs n)
    (hs : (assignEach (.Name x pos :: es) X.env).map (·.2) = assign (.Name x pos) X.env :: (assignEach es X.env).map (·.2) := by rfl) (hf : X.fn x = true ∨ X.env.scope.names.lookup x = some .local := by first | exact .inl rfl | exact .inr rfl | assumption) :
    RGn X (.Name x pos :: es) (L2.gCons (L2.gName i) tgs) (DL.gCons (DL.gName i) gs) (n + 1) :=
  ⟨⟨pgs_cons (pg_name hN hi hx hf) h2.rg.pg hs, fun P => refGs_cons (refG_name i) (h2.rg.rf P)⟩, many_cons h2.many fun d ρ M Q q => ⟨_, _, q⟩⟩
theorem rg_tup {tgs : TGs} {gs : DGs} {n kk : Nat} (K0 : PySem.W.Frag) (hc : X.calm = true) (h : RGn X es tgs gs n) (hn : (assignEach es X.env).length = n := by rfl) (hst : (assignEach es X.env).findIdx? (·.1) = none := by rfl) (hK : X.K = K0 := by rfl) : RG X (.Tuple es kk pos) (L2.gTup K0 n tgs) (DL.gTup gs) := by
  subst hK
  exact ⟨pg_tup hc h.rg.pg hn hst, fun P => refG_tup (K := ⟨X.K, P⟩) h.many (h.rg.rf P)⟩
theorem rg_sub {i : Expr} {to ti' : TE} {do' di : DE} (h1 : RE X o to do') (h2 : RE X i ti' di) (ha : ∀ v, assign (.Subscript o i pos) X.env v = (do
      let ov ← holding [v] (eval o X.env)
      let iv ← holding [v, ov] (eval i X.env)
      standAt pos
      holding [v, ov, iv] (setItem ov iv v)
      release [v, ov, iv] []) := by intro _; rfl) : RG X (.Subscript o i pos) (L2.gSub to ti' rSetL) (DL.gSub do' di) := ⟨pg_sub h1.pe h2.pe set_list ha, fun P => refG_sub (h1.rf P) (h2.rf P)⟩
/-! ### statements -/
variable {st : Stmt} {sts : List Stmt} {ts us : TS} {s1 s2 : DS}
theorem rss_nil : RSs X [] tNext sNext := ⟨pss_nil, fun P => refS_next⟩
theorem rss_cons (h1 : RS X st ts s1) (h2 : RSs X sts us s2) : RSs X (st :: sts) (tSeq ts us) (sSeq s1 s2) := ⟨pss_cons h1.ps h2.ps, fun P => refS_seq (h1.rf P) (h2.rf P)⟩
theorem rss_one (h1 : RS X st ts s1) : RSs X [st] ts s1 := ⟨pss_one h1.ps, h1.rf⟩
theorem rs_pass : RS X (.Pass pos) tNext sNext := ⟨ps_pass, fun P => refS_next⟩
theorem rs_break : RS X (.Break pos) tBreak sBreak := ⟨ps_break, fun P => refS_break⟩
theorem rs_cont : RS X (.Continue pos) tCont sCont := ⟨ps_continue, fun P => refS_cont⟩
theorem rs_expr (h : RE X e te t) (hs : swapsWith e none pos.line X.env = pure false := by rfl) : RS X (.Expr e pos) (tDrop te) (sExpr t) := ⟨ps_expr h.pe hs, fun P => refS_expr (h.rf P)⟩
theorem rs_ret (h : RE X e te t) : RS X (.Return (some e) pos) (tRet te) (sRet t) := ⟨ps_ret h.pe, fun P => refS_ret (h.rf P)⟩
theorem rs_retN : RS X (.Return none pos) tRetN sRetN := ⟨ps_retN, fun P => refS_retN⟩
theorem rs_if {aa bb : List Stmt} (h : RT X c tt d1) (h1 : RSs X aa ts s1) (h2 : RSs X bb us s2) : RS X (.If c aa bb pos) (tIfS tt ts us) (sIf d1 s1 s2) := ⟨ps_if h.pt h1.ps h2.ps, fun P => refS_if (h.rf P) (h1.rf P) (h2.rf P)⟩
theorem rs_set {i : Nat} {x : Str} {pos' : Pos} (hN : X.N.Nodup) (hi : X.N[i]? = some x) (hx : Loc X.env.scope x) (h : RE X e te t) (hs : swapsWith e (some (.Name x pos')) pos.line X.env = pure false := by rfl) (hf : X.fn x = true ∨ X.env.scope.names.lookup x = some .local := by first | exact .inl rfl | exact .inr rfl | assumption) :
    RS X (.Assign [.Name x pos'] e pos) (tAsg te (L2.gName i)) (sAsg t (DL.gName i)) := ⟨ps_set hN hi hx h.pe hs hf, fun P => refS_asg (h.rf P) (refG_name i)⟩
theorem rs_asg {g : TG} {dg : DG} (h : RE X e te t) (hg : RG X tg g dg) (hs : swapsWithSole [tg] e pos.line X.env = pure false := by rfl) (hw : swappedStores [tg] e X.env = pure none := by rfl)
    (h1 : (assignEach [tg] X.env).map (·.2) = [assign tg X.env] := by rfl) : RS X (.Assign [tg] e pos) (tAsg te g) (sAsg t dg) := ⟨ps_asg h.pe hg.pg hs hw h1, fun P => refS_asg (h.rf P) (hg.rf P)⟩
theorem rs_setLc {vs : List Nat} {i : Nat} {y : Str} {py spos : Pos} {elt : Expr} {ifs : List Expr} {scope : Scope} {own : List (Str × Nat)} {g : TG} {dg : DG} {db : DT} {de : DE} (hc : X.calm = true) (hN : X.N.Nodup) (hy : X.N[i]? = some y) (hyl : X.env.scope.names.lookup y = some .local)
    (hsw : swapsWith (.ListComp elt [⟨tg, iter, ifs, 0⟩] scope pos) (some (.Name y py)) spos.line X.env = pure true) (hi : RI X tg iter wi ti) (ok : BlkOk X.N X.env.scope scope own)
    (hg : ∀ (s : Shared) (H : Hp) (C : Addr) (cl : List (Str × Addr)) (fp : List Addr), RG (X.blk s H scope (compEnvC scope cl C X.env) fp) tg g dg) (ho : Own vs g)
    (ht : ∀ (s : Shared) (H : Hp) (C : Addr) (cl : List (Str × Addr)) (fp : List Addr), RTs (X.blk s H scope (compEnvC scope cl C X.env) fp) ifs tt db)
    (he : ∀ (s : Shared) (H : Hp) (C : Addr) (cl : List (Str × Addr)) (fp : List Addr), RE (X.blk s H scope (compEnvC scope cl C X.env) fp) elt te de) (hvs : own.map (·.2) = vs := by rfl) (hs : ∀ x, foldedSetIterable iter X.env x = pure x := by intro _; rfl) :
    RS X (.Assign [.Name y py] (.ListComp elt [⟨tg, iter, ifs, 0⟩] scope pos) spos) (tAsg (tLc wi g tt te vs) (L2.gName i)) (sAsg (dComp ti dg db de vs) (DL.gName i)) := by
  subst hvs
  exact ⟨ps_setLc hc hN hy hyl hsw hi.pi ok (fun s H C cl fp => (hg s H C cl fp).pg) (fun s H C cl fp => (ht s H C cl fp).pt) (fun s H C cl fp => (he s H C cl fp).pe) hs,
    fun P => refS_asg (ref_comp (K := ⟨X.K, P⟩) (hi.rf P) (fun P' => (hg X.s_0 X.H_0 0 [] []).rf P') ho (fun P' => (ht X.s_0 X.H_0 0 [] []).rf P') fun P' => (he X.s_0 X.H_0 0 [] []).rf P') (refG_name i)⟩
theorem rs_for {body : List Stmt} {g : TG} {dg : DG} (hp : PassesOwn (model X.prog X.w) X.A X.env X.xe) (hc : X.calm = true) (hi : RI X tg iter wi ti) (hg : RG X tg g dg) (hb : RSs X body ts s1) (hs : ∀ x, foldedSetIterable iter X.env x = pure x := by intro _; rfl) :
    RS X (.For tg iter body [] pos) (tFor wi g ts) (sFor ti dg s1) := ⟨ps_for hp hc hi.pi hg.pg hb.ps hs, fun P => refS_for (hi.rf P) (hg.rf P) (hb.rf P)⟩
theorem rs_while {body : List Stmt} (hp : PassesOwn (model X.prog X.w) X.A X.env X.xe) (h : RT X c tt d1) (hb : RSs X body ts s1) : RS X (.While c body [] pos) (tWhile tt ts) (sWhile d1 s1) := ⟨ps_while hp h.pt hb.ps, fun P => refS_while (h.rf P) (hb.rf P)⟩
/-! ### calls -/
/-- a def's promise in the hand layer's words -/
def toSp (K : PySem.W.Frag) (n : Nat) (sp : Spec) : Sp := fun vs H Q _ => ∃ (P : Addr → Prop) (ds : List D) (M : Mem), Reps ⟨K, P⟩ H M ds vs ∧ ds.length = n ∧ MRep ⟨K, P⟩ H M ∧ sp.pre ds M ∧
  ∀ d M', sp.post ds M d M' → ∀ v H', Fr H M H' M' → Rep ⟨K, P⟩ H' M' d v → MRep ⟨K, P⟩ H' M' → Q v H'
theorem ref_call {K : Fg} {n : Nat} {sp : Spec} (h : RefA K n tA dA') : Ref K (tCall (toSp K.K n sp) [] E0 tA) (dCall sp dA') := fun σ H ρ M Q Q' s q l =>
  h σ H ρ M _ _ s q fun vs H1 ds M1 f1 r1 n1 m1 q1 => ⟨K.P, ds, M1, by rw [List.append_nil]; exact r1, n1, m1, q1.1, fun d M' hp v H' f r m => l v H' d M' (f1.trans f) r m (q1.2 d M' hp)⟩
theorem re_call {f : Addr} {fd : FuncData} {ps : List Str} {n : Nat} {sp : Spec} {x : Str} (K0 : PySem.W.Frag) (F : FnOk X.prog X.w X.K X.mg X.base CX0 k f fd ps (toSp X.K n sp)) (hr : Room k X.A) (hg : Gl X x) (hm : X.mg x = some (.ref f)) (hk : PySem.W.keepIn X.K (.ref f) = true) (hb : Binds X.K fd ps [])
    (h : RA X (e :: es) tA dA') (hn : (e :: es).length = n := by rfl) (hdb : (x == ("__debug__" : Str)) = false := by decide) (he : starEach (e :: es) X.env = (false, eval e X.env) :: starEach es X.env := by rfl) (hpl : (backTo pos (starEach es X.env)).any (·.1) = false := by rfl) (hK : X.K = K0 := by rfl) :
    RE X (.Call (.Name x p) (e :: es) [] pos) (tCall (toSp K0 n sp) [] E0 tA) (dCall sp dA') := by
  subst hn
  subst hK
  exact ⟨pe_call F hr hg hm hk hb .nil pass0 h.pa hdb he hpl, fun P => ref_call (K := ⟨X.K, P⟩) (h.rf P)⟩
end
/-! ### defs -/
theorem start_rep {K : Fg} {H : Hp} {M : Mem} {N : List Str} {ds : List D} {vs : List V} (r : Reps K H M ds vs) (m : MRep K H M) : SRep K (L2.start N vs) H (DL.start N.length ds) M := by
  refine ⟨?_, fun i d e => ?_, m⟩
  · unfold L2.start DL.start
    simp [r.length]
  · unfold DL.start at e
    unfold L2.start
    by_cases h : i < ds.length
    · rw [List.getElem?_append_left (by simpa using h), List.getElem?_map] at e
      cases q : ds[i]? with
      | none => rw [q] at e; cases e
      | some d' =>
        rw [q] at e
        cases e
        obtain ⟨v, hv, rv⟩ := r.get q
        refine ⟨v, ?_, rv⟩
        rw [List.getElem?_append_left (by rw [List.length_map, ← r.length]; exact h), List.getElem?_map, hv]
        rfl
    · rw [List.getElem?_append_right (by simpa using h)] at e
      have := List.mem_of_getElem? e
      simp at this
theorem def_ok {P : Program} {w : World} {K : PySem.W.Frag} {mg : Str → Option Value} {base : Heap} {x qual : Str} {params : Arguments} {body : List Stmt} {scope : Scope} {dvs : List V} {kws : List (Str × V)} {f : Addr} {fd : FuncData} {N ps : List Str} {k n : Nat} {sp : Spec} {t : DS}
    (F : FunD K x qual params body scope dvs kws f fd) (S : FnScope N ps scope) (hn : n = ps.length)
    (hbody : ∀ (cdv : Value) (A : Around) (outer : List PySem.Env) (s : Shared) (H : Hp) (E : XK), Room k (A.deeper (envOfC qual scope s.heap.objs.size f cdv)) → ∃ ts, RSs (cxOf CX0 P w K mg base N qual scope f cdv A outer s H E).nox body ts t)
    (does : Does N.length t n sp) : FnOk P w K mg base CX0 (k + 1) f fd ps (toSp K n sp) := by
  refine F.ok S (fun vs H Q E h => ?_) (fun cdv A outer s H vs Q E hr h => ?_)
  · obtain ⟨P', ds, M, r, e, _⟩ := h
    rw [← r.length, e, hn]
  · obtain ⟨P', ds, M, r, e, m, hpre, hpost⟩ := h
    obtain ⟨ts, b⟩ := hbody cdv A outer s H E hr
    refine ⟨ts, b.ps.nox, b.rf P' _ H _ M _ _ (start_rep r m) (does ds M e hpre) ?_⟩
    have fin : ∀ v H' d M', Fr H M H' M' → Rep ⟨K, P'⟩ H' M' d v → MRep ⟨K, P'⟩ H' M' → Ret sp ds M d M' → Q v H' := fun v H' d M' f r m q => by
      obtain ⟨d', M'', ⟨hs, ho⟩, hp⟩ := q
      have f2 : Fr H M H' M'' := f.trans (Fr.sub hs)
      have m2 := m.sub hs
      rcases ho with rfl | ⟨p, xs, rfl, e1, e2, rfl⟩
      · exact hpost d' M'' hp v H' f2 (r.mono (Fr.sub hs)) m2
      · cases r
        obtain ⟨vs', hv, rv⟩ := m.obj p _ e1
        refine hpost _ M'' hp _ H' f2 ⟨p, vs', rfl, ⟨hv, e2, fun z => ?_⟩, rv.mono (Fr.sub hs)⟩ m2
        have := (m.prv p z).2
        rw [e1] at this
        cases this
    exact ⟨fun σ' H' ρ' M' f s q => fin .non H' .non M' f rfl s.mem q, fin, fun _ _ _ _ _ _ q => q.elim, fun _ _ _ _ _ _ q => q.elim⟩
/-- a def as others call it -/
def Fn (P : Program) (w : World) (K : PySem.W.Frag) (mg : Str → Option Value) (base : Heap) (k : Nat) (x : Str) (n : Nat) (sp : Spec) : Prop :=
  ∃ (f : Addr) (fd : FuncData) (ps : List Str), FnOk P w K mg base CX0 k f fd ps (toSp K n sp) ∧ mg x = some (.ref f) ∧ PySem.W.keepIn K (.ref f) = true ∧ Binds K fd ps []
theorem Fn.mono {P : Program} {w : World} {K : PySem.W.Frag} {mg : Str → Option Value} {base : Heap} {j k : Nat} {x : Str} {n : Nat} {sp : Spec} (c : Fn P w K mg base j x n sp) (h : j ≤ k) : Fn P w K mg base k x n sp := by
  obtain ⟨f, fd, ps, h1, h2⟩ := c
  exact ⟨f, fd, ps, h1.mono h, h2⟩
theorem re_fn {X : Cx} {p pos : Pos} {e : Expr} {es : List Expr} {tA : TA} {dA' : DA} {k n : Nat} {sp : Spec} {x : Str} (K0 : PySem.W.Frag) (c : Fn X.prog X.w X.K X.mg X.base k x n sp) (hr : Room k X.A) (hg : Gl X x)
    (h : RA X (e :: es) tA dA') (hn : (e :: es).length = n := by rfl) (hdb : (x == ("__debug__" : Str)) = false := by decide) (he : starEach (e :: es) X.env = (false, eval e X.env) :: starEach es X.env := by rfl) (hpl : (backTo pos (starEach es X.env)).any (·.1) = false := by rfl) (hK : X.K = K0 := by rfl) :
    RE X (.Call (.Name x p) (e :: es) [] pos) (tCall (toSp K0 n sp) [] E0 tA) (dCall sp dA') := by
  subst hK
  obtain ⟨f, fd, ps, h1, h2, h3, h4⟩ := c
  exact re_call X.K h1 hr hg h2 h3 h4 h hn hdb he hpl
/-- a weaker promise, or one of a lower level -/
theorem spec_imp {P : Program} {w : World} {K : PySem.W.Frag} {mg : Str → Option Value} {base : Heap} {f : Addr} {fd : FuncData} {ps : List Str} {k n : Nat} {sp sp' : Spec} (F : FnOk P w K mg base CX0 k f fd ps (toSp K n sp))
    (h : ∀ ds M, sp'.pre ds M → sp.pre ds M ∧ ∀ d M', sp.post ds M d M' → sp'.post ds M d M') : FnOk P w K mg base CX0 k f fd ps (toSp K n sp') := F.imp fun vs H Q E ⟨P', ds, M, r, e, m, hpre, hpost⟩ =>
  ⟨P', ds, M, r, e, m, (h ds M hpre).1, fun d M' q => hpost d M' ((h ds M hpre).2 d M' q)⟩
end DL
/-! DLT: dicts -/
namespace DL
open PySem PySem.Spec PyProof.Rows L2
section
variable {K : Fg} {X : Cx} {tt : TT} {tk tv td ty tz : TE} {b : DT} {dk dv dd dy dz : DE}
theorem keyOf_rep {H : Hp} {M : Mem} {d : D} {v : V} {k : Key} (r : Rep K H M d v) (e : keyOf d = some k) : v = kV k := by
  cases d with
  | int i => cases e; cases r; rfl
  | str x => cases e; cases r; rfl
  | _ => cases e
theorem put_new : ∀ (ks : List Key) (vs : List V) (k : Key) (v : V), k ∉ ks → ks.length = vs.length → putK (ks.zip vs) k v = (ks ++ [k]).zip (vs ++ [v]) := by
  intro ks vs k v hk hl
  have h : ¬ ((ks.zip vs).any fun kv => decide (kv.1 = k)) = true := by
    rw [List.any_eq_true]
    rintro ⟨⟨a, w⟩, hm, he⟩
    have := List.of_mem_zip hm
    have e : a = k := of_decide_eq_true he
    exact hk (e ▸ this.1)
  unfold putK
  rw [if_neg h, List.zip_append hl]
  rfl
theorem valD_rep {H : Hp} {M : Mem} : ∀ (ks : List Key) {ds : List D} {vs : List V} (k : Key), Reps K H M ds vs → ks.length = vs.length →
    (valD ks ds k = none ∧ valV (ks.zip vs) k = none) ∨ ∃ d v, valD ks ds k = some d ∧ valV (ks.zip vs) k = some v ∧ Rep K H M d v
  | [], ds, vs, k, r, hl => by
    refine .inl ⟨by cases ds <;> rfl, by rw [List.zip_nil_left]; rfl⟩
  | a :: ks, [], vs, k, r, hl => by
    rw [show vs = [] from r] at hl
    cases hl
  | a :: ks, d :: ds, _, k, ⟨v, t, rfl, hr, rt⟩, hl => by
    simp only [valD, List.zip_cons_cons]
    by_cases e : a = k
    · rw [if_pos e, valV_pos e]
      exact .inr ⟨d, v, rfl, rfl, hr⟩
    · rw [if_neg e, valV_neg e]
      exact valD_rep ks k rt (by simpa using hl)
theorem ref_get2 (h1 : Ref K td dd) (h2 : Ref K ty dy) (h3 : Ref K tz dz) : Ref K (tDGet2 td ty tz) (dGet2 dd dy dz) := fun σ H ρ M Q Q' s q l =>
  h1 σ H ρ M _ _ s q fun v1 H1 d1 M1 f1 r1 m1 q1 => by
    cases d1 with
    | dK ks ds =>
      obtain ⟨a, vs, rfl, ⟨ha, ma, pa⟩, hl, rs⟩ := r1
      refine ⟨a, rfl, .inl ⟨_, .inl ha⟩, ?_⟩
      refine h2 σ H1 ρ M1 _ _ (s.step f1 m1) q1 fun v2 H2 d2 M2 f2 r2 m2 q2 => ?_
      refine h3 σ H2 ρ M2 _ _ (s.step (f1.trans f2) m2) q2 fun v3 H3 d3 M3 f3 r3 m3 q3 => ?_
      have F : Fr H1 M1 H3 M3 := f2.trans f3
      cases ek : keyOf d2 with
      | none => rw [ek] at q3; exact q3.elim
      | some k =>
        rw [ek] at q3
        replace q3 : Q ((valD ks ds k).getD d3) M3 := q3
        have e2 := keyOf_rep r2 ek
        subst e2
        refine ⟨_, DGet.k (F a _ ha ma).1, ?_⟩
        rcases valD_rep ks k (rs.mono F) hl with ⟨e1, e2⟩ | ⟨d, v, e1, e2, rv⟩
        · rw [e1] at q3
          rw [e2]
          exact l _ H3 d3 M3 (f1.trans F) r3 m3 q3
        · rw [e1] at q3
          rw [e2]
          exact l _ H3 d M3 (f1.trans F) rv m3 q3
    | _ => exact False.elim q1
theorem ref_dcomp {wi : TI} {ti : DI} {tg : TG} {g : DG} {vs : List Nat} (hi : RefI K wi ti) (hg : ∀ P, RefG ⟨K.K, P⟩ tg g) (ho : Own vs tg) (ht : ∀ P, RefT ⟨K.K, P⟩ tt b) (hk : ∀ P, Ref ⟨K.K, P⟩ tk dk) (he : ∀ P, Ref ⟨K.K, P⟩ tv dv) : Ref K (tDc wi tg tt tk tv vs) (dDComp ti g b dk dv vs) := fun σ H ρ M Q Q' s q l =>
  hi σ H ρ M _ _ s q fun J H1 ds M1 f1 m1 gv q1 D hD => by
    obtain ⟨hz, q1⟩ := q1
    have mD : M1 D = none := m1.free hD
    have hid := hide_new (K := K) hD
    refine ⟨fun i m H' => ∃ M' ks acc accV, Fr H1 M1 H' M' ∧ MRep (K.hide D) H' M' ∧ H' D = some (.dK (ks.zip accV)) ∧ ks.length = accV.length ∧ M' D = none ∧ Reps (K.hide D) H' M' acc accV ∧ acc.length ≤ i ∧ i ≤ ds.length ∧ m = ds.length - i ∧ dDCompL g b dk dv (DL.wipe ρ vs) (ds.drop i) ks acc M' Q,
      ⟨ds.length, M1, [], [], [], Fr.new hD, m1.hide hD, upd_same, rfl, mD, rfl, Nat.zero_le _, Nat.zero_le _, by simp, q1⟩, ?_⟩
    rintro i m H' ⟨M', ks, acc, accV, f, m', hD', hkl, mD', ra, ha, hi', rfl, qq⟩
    by_cases hlt : i < ds.length
    · obtain ⟨d, hd, hdr⟩ := drop_cons hlt
      rw [hdr] at qq
      refine .inr ⟨gv.go i H' M' f hlt, fun H2 => ∃ M2 ks2 acc2 accV2, Fr H1 M1 H2 M2 ∧ MRep (K.hide D) H2 M2 ∧ H2 D = some (.dK (ks2.zip accV2)) ∧ ks2.length = accV2.length ∧ M2 D = none ∧ Reps (K.hide D) H2 M2 acc2 accV2 ∧ acc2.length ≤ i + 1 ∧ dDCompL g b dk dv (DL.wipe ρ vs) (ds.drop (i + 1)) ks2 acc2 M2 Q,
        fun H2 ⟨M2, ks2, acc2, accV2, z1, z2, z3, z3', z4, z5, z6, z7⟩ => ⟨ds.length - (i + 1), by omega, M2, ks2, acc2, accV2, z1, z2, z3, z3', z4, z5, z6, hlt, rfl, z7⟩, fun x H2 y => ?_⟩
      obtain ⟨f2, m2, r2⟩ := gv.yld (K.hide D).P hid i H' M' x H2 f m' y d hd
      have s2 : SRep (K.hide D) (L2.wipe σ vs) H2 (DL.wipe ρ vs) M' := by
        have z : SRep (K.hide D) σ H2 ρ M' := ⟨s.len, fun i d e => let ⟨v, q, r⟩ := s.env i d e; ⟨v, q, ((r.mono f1).hides hid).mono (f.trans f2)⟩, m2⟩
        exact z.wipe vs
      refine ho x _ H2 _ _ (fun σ3 H3 e3 q3 => ⟨by rw [e3]; exact wipe_wipe fun _ h => h, q3⟩) (hg _ x d _ H2 _ M' _ _ s2 r2 qq fun σ3 H3 ρ3 M3 f3 s3 q3 => ?_)
      refine ht _ σ3 H3 ρ3 M3 _ _ s3 q3 fun k H4 M4 f4 m4 q4 => ?_
      have F4 : Fr H1 M1 H4 M4 := ((f.trans f2).trans f3).trans f4
      have F4' : Fr H' M' H4 M4 := (f2.trans f3).trans f4
      cases k with
      | true =>
        rw [if_pos rfl] at q4 ⊢
        refine hk _ σ3 H4 ρ3 M4 _ _ (s3.step f4 m4) q4 fun y5 H5 dy M5 f5 r5 m5 q5 => ?_
        refine he _ σ3 H5 ρ3 M5 _ _ (s3.step (f4.trans f5) m5) q5 fun v H6 dv M6 f6 r6 m6 q6 => ?_
        have F6 : Fr H1 M1 H6 M6 := (F4.trans f5).trans f6
        have F6' : Fr H' M' H6 M6 := (F4'.trans f5).trans f6
        obtain ⟨hD6, mD6⟩ := F6' D _ hD' mD'
        cases ek : keyOf dy with
        | none => rw [ek] at q6; exact q6.elim
        | some kk =>
          rw [ek] at q6
          have e5 := keyOf_rep r5 ek
          have hlz : (ks.zip accV).length < 100000 := by
            have := ra.length
            rw [List.length_zip]
            omega
          refine ⟨ks.zip accV, kk, e5, hD6, szLt hlz, M6, ks ++ [kk], acc ++ [dv], accV ++ [v], fun a o e w => ?_, MRep.priv (K := K.hide D) m6 (.inr rfl), by rw [put_new ks accV kk v q6.1 hkl]; exact upd_same, by simp [hkl], mD6, Reps.priv (K := K.hide D) (.inr rfl) ((ra.mono F6').snoc r6), by rw [List.length_append]; show acc.length + 1 ≤ i + 1; omega, q6.2⟩
          have ne := ne_of_none e hD
          obtain ⟨z1, z2⟩ := F6 a o e w
          exact ⟨by rw [upd_ne ne]; exact z1, z2⟩
      | false =>
        rw [if_neg Bool.false_ne_true] at q4 ⊢
        obtain ⟨hD4, mD4⟩ := F4' D _ hD' mD'
        exact ⟨M4, ks, acc, accV, F4, m4, hD4, hkl, mD4, ra.mono F4', by omega, q4⟩
    · have e : i = ds.length := by omega
      subst e
      rw [List.drop_length] at qq
      refine .inl ⟨gv.stop H' M' f, ?_⟩
      exact l _ H' (.dK ks acc) M' (f1.trans f) ⟨D, accV, rfl, ⟨hD', mD', m1.nprv hD⟩, hkl, ra.bare⟩ m'.bare qq
end
section
variable {X : Cx} {pos : Pos} {k : Nat}
theorem re_get2 {o e f : Expr} {apos cpos : Pos} {td ty tz : TE} {dd dy dz : DE} (hr : Room k X.A) (ho : RE X o td dd) (he : RE X e ty dy) (hf : RE X f tz dz) (hbase : attributeBase o "get" X.env (eval o X.env) = eval o X.env := by rfl)
    (hfew : ((backTo cpos (starEach [e, f] X.env)).all (fun x => !x.1) && (backToKw cpos (keywordEach [] X.env)).all (fun x => x.1.isSome)
      && decide (([e, f] : List Expr).length + ([] : List Keyword).length + (if ([] : List Keyword).isEmpty then 0 else 1) < 30)) = true := by rfl)
    (hline : (apos.endLine == cpos.line) = true := by rfl) (htrees : backTo cpos (starEach [e, f] X.env) = [(false, eval e X.env), (false, eval f X.env)] := by rfl) :
    RE X (.Call (.Attribute o "get" apos) [e, f] [] cpos) (tDGet2 td ty tz) (dGet2 dd dy dz) :=
  ⟨pe_dget2 (by have := hr.un; omega) ho.pe he.pe hf.pe ⟨hbase, hfew, hline, htrees⟩, fun P => ref_get2 (ho.rf P) (he.rf P) (hf.rf P)⟩
theorem re_dcomp {tg iter : Expr} {wi : TI} {ti : DI} {tt : TT} {tk tv : TE} {vs : List Nat} {kx vx : Expr} {ifs : List Expr} {scope : Scope} {own : List (Str × Nat)} {g : TG} {dg : DG} {db : DT} {dk dv : DE} (hc : X.calm = true) (hN : X.N.Nodup) (hi : RI X tg iter wi ti) (ok : BlkOk X.N X.env.scope scope own)
    (hg : ∀ (s : Shared) (H : Hp) (C : Addr) (cl : List (Str × Addr)) (fp : List Addr), RG (X.blk s H scope (compEnvC scope cl C X.env) fp) tg g dg) (ho : Own vs g)
    (ht : ∀ (s : Shared) (H : Hp) (C : Addr) (cl : List (Str × Addr)) (fp : List Addr), RTs (X.blk s H scope (compEnvC scope cl C X.env) fp) ifs tt db)
    (hk : ∀ (s : Shared) (H : Hp) (C : Addr) (cl : List (Str × Addr)) (fp : List Addr), RE (X.blk s H scope (compEnvC scope cl C X.env) fp) kx tk dk)
    (he : ∀ (s : Shared) (H : Hp) (C : Addr) (cl : List (Str × Addr)) (fp : List Addr), RE (X.blk s H scope (compEnvC scope cl C X.env) fp) vx tv dv) (hvs : own.map (·.2) = vs := by rfl) (hs : ∀ x, foldedSetIterable iter X.env x = pure x := by intro _; rfl) :
    RE X (.DictComp kx vx [⟨tg, iter, ifs, 0⟩] scope pos) (tDc wi g tt tk tv vs) (dDComp ti dg db dk dv vs) := by
  subst hvs
  exact ⟨pe_dc hc hN hi.pi ok (fun s H C cl fp => (hg s H C cl fp).pg) (fun s H C cl fp => (ht s H C cl fp).pt) (fun s H C cl fp => (hk s H C cl fp).pe) (fun s H C cl fp => (he s H C cl fp).pe) hs,
    fun P => ref_dcomp (K := ⟨X.K, P⟩) (hi.rf P) (fun P' => (hg X.s_0 X.H_0 0 [] []).rf P') ho (fun P' => (ht X.s_0 X.H_0 0 [] []).rf P') (fun P' => (hk X.s_0 X.H_0 0 [] []).rf P') fun P' => (he X.s_0 X.H_0 0 [] []).rf P'⟩
end
end DL
/-! DLU: lists unpacked, +=, max, index, comprehensions whose list may change -/
namespace DL
open PySem PySem.Spec PyProof.Rows L2
section
variable {K : Fg} {H : Hp} {M : Mem} {D0 : Addr}
mutual
/-- what does not name a private place does not mind that the memory knows it -/
theorem Rep.shown {o : MO} : ∀ {d : D} {v : V}, Rep (K.hide D0) H M d v → Rep K H (mset M D0 o) d v
  | .non, _, h => h
  | .bl _, _, h => h
  | .int _, _, h => h
  | .str _, _, h => h
  | .ref _, _, h => h
  | .ty _, _, h => h
  | .cls _, _, h => h
  | .tup ds, _, ⟨a, vs, e, q, r⟩ => ⟨a, vs, e, by
      rcases q with ⟨q, m, p⟩ | q
      · have ne : a ≠ D0 := fun z => p (.inr z)
        exact .inl ⟨q, by rw [mset_ne ne]; exact m, fun z => p (.inl z)⟩
      · exact .inr q, Reps.shown r⟩
  | .lst ds, _, ⟨a, vs, e, q, r⟩ => ⟨a, vs, e, ⟨q.1, by rw [mset_ne (show a ≠ D0 from fun z => q.2.2 (.inr z))]; exact q.2.1, fun z => q.2.2 (.inl z)⟩, Reps.shown r⟩
  | .rol ds, _, ⟨a, vs, e, q, r⟩ => ⟨a, vs, e, by
      rcases q with ⟨q, m, p⟩ | q
      · have ne : a ≠ D0 := fun z => p (.inr z)
        exact .inl ⟨q, by rw [mset_ne ne]; exact m, fun z => p (.inl z)⟩
      · exact .inr q, Reps.shown r⟩
  | .dK ks ds, _, ⟨a, vs, e, q, z, r⟩ => ⟨a, vs, e, ⟨q.1, by rw [mset_ne (show a ≠ D0 from fun z => q.2.2 (.inr z))]; exact q.2.1, fun z => q.2.2 (.inl z)⟩, z, Reps.shown r⟩
  | .dT ks ds, _, ⟨a, vs, e, q, z, r⟩ => ⟨a, vs, e, ⟨q.1, by rw [mset_ne (show a ≠ D0 from fun z => q.2.2 (.inr z))]; exact q.2.1, fun z => q.2.2 (.inl z)⟩, z, Reps.shown r⟩
  | .ins _ C ns ds, _, ⟨a, dx, vs, e, q, z, r⟩ => ⟨a, dx, vs, e, ⟨q.1, by rw [mset_ne (show a ≠ D0 from fun z => q.2.2 (.inr z))]; exact q.2.1, fun z => q.2.2 (.inl z)⟩, z, Reps.shown r⟩
theorem Reps.shown {o : MO} : ∀ {ds : List D} {vs : List V}, Reps (K.hide D0) H M ds vs → Reps K H (mset M D0 o) ds vs
  | [], _, h => h
  | d :: ds, _, ⟨v, r, e, q, t⟩ => ⟨v, r, e, Rep.shown q, Reps.shown t⟩
end
/-- the private place becomes a list of the memory -/
theorem MRep.shown {acc : List D} {accV : List V} (m : MRep (K.hide D0) H M) (hD : H D0 = some (.lst accV)) (mD : M D0 = none) (nP : ¬ K.P D0) (r : Reps (K.hide D0) H M acc accV) : MRep K H (mset M D0 (.lst acc)) := by
  refine ⟨fun a u e => ?_, fun a q => ?_⟩
  · by_cases z : a = D0
    · subst z
      rw [mset_same] at e
      cases e
      exact ⟨accV, hD, r.shown⟩
    · rw [mset_ne z] at e
      have q := m.obj a u e
      cases u with
      | lst ds => obtain ⟨vs, e, r⟩ := q; exact ⟨vs, e, r.shown⟩
      | dK ks ds => obtain ⟨vs, e, z, r⟩ := q; exact ⟨vs, e, z, r.shown⟩
      | dT ks ds => obtain ⟨vs, e, z, r⟩ := q; exact ⟨vs, e, z, r.shown⟩
      | ins C ns ds => obtain ⟨dx, vs, e, z, r⟩ := q; exact ⟨dx, vs, e, z, r.shown⟩
      | tupP ds => obtain ⟨vs, o, e, z, r⟩ := q; exact ⟨vs, o, e, z, r.shown⟩
      | deck k b =>
        refine DeckRep.keep (K := K.hide D0) (K' := K) (M' := mset M D0 (.lst acc)) q (fun x u _ e => e) (fun x _ e => e) (fun x w => ?_) (fun x w ex mx px => ⟨ex, by rw [mset_ne (show x ≠ D0 from fun z => px (.inr z))]; exact mx, fun z => px (.inl z)⟩)
        rw [mset_ne (show x ≠ D0 from fun z => by rw [z, mD] at w; cases w)]
        exact w
      | part c => exact q
  · obtain ⟨w, ma⟩ := m.prv a (.inl q)
    exact ⟨w, by rw [mset_ne (show a ≠ D0 from fun z => nP (z ▸ q))]; exact ma⟩
end
section
variable {K : Fg} {X : Cx} {tt : TT} {te : TE} {b : DT} {de : DE}
theorem ref_compN {wi : TI} {ti : DI} {tg : TG} {g : DG} {vs : List Nat} (hi : RefI K wi ti) (hg : ∀ P, RefG ⟨K.K, P⟩ tg g) (ho : Own vs tg) (ht : ∀ P, RefT ⟨K.K, P⟩ tt b) (he : ∀ P, Ref ⟨K.K, P⟩ te de) : Ref K (tLc wi tg tt te vs) (dCompN ti g b de vs) := fun σ H ρ M Q Q' s q l =>
  hi σ H ρ M _ _ s q fun J H1 ds M1 f1 m1 gv q1 D hD => by
    obtain ⟨hz, q1⟩ := q1
    have mD : M1 D = none := m1.free hD
    have hid := hide_new (K := K) hD
    refine ⟨fun i m H' => ∃ M' acc accV, Fr H1 M1 H' M' ∧ MRep (K.hide D) H' M' ∧ H' D = some (.lst accV) ∧ M' D = none ∧ Reps (K.hide D) H' M' acc accV ∧ acc.length ≤ i ∧ i ≤ ds.length ∧ m = ds.length - i ∧ dCompL g b de (DL.wipe ρ vs) (ds.drop i) acc M' (fun x M1 => match x with
      | .lst xs => ∀ p, M1 p = none → Q (.ref p) (mset M1 p (.lst xs))
      | _ => False),
      ⟨ds.length, M1, [], [], Fr.new hD, m1.hide hD, upd_same, mD, rfl, Nat.zero_le _, Nat.zero_le _, by simp, q1⟩, ?_⟩
    rintro i m H' ⟨M', acc, accV, f, m', hD', mD', ra, ha, hi', rfl, qq⟩
    by_cases hlt : i < ds.length
    · obtain ⟨d, hd, hdr⟩ := drop_cons hlt
      rw [hdr] at qq
      refine .inr ⟨gv.go i H' M' f hlt, fun H2 => ∃ M2 acc2 accV2, Fr H1 M1 H2 M2 ∧ MRep (K.hide D) H2 M2 ∧ H2 D = some (.lst accV2) ∧ M2 D = none ∧ Reps (K.hide D) H2 M2 acc2 accV2 ∧ acc2.length ≤ i + 1 ∧ dCompL g b de (DL.wipe ρ vs) (ds.drop (i + 1)) acc2 M2 (fun x M1 => match x with
        | .lst xs => ∀ p, M1 p = none → Q (.ref p) (mset M1 p (.lst xs))
        | _ => False),
        fun H2 ⟨M2, acc2, accV2, z1, z2, z3, z4, z5, z6, z7⟩ => ⟨ds.length - (i + 1), by omega, M2, acc2, accV2, z1, z2, z3, z4, z5, z6, hlt, rfl, z7⟩, fun x H2 y => ?_⟩
      obtain ⟨f2, m2, r2⟩ := gv.yld (K.hide D).P hid i H' M' x H2 f m' y d hd
      have s2 : SRep (K.hide D) (L2.wipe σ vs) H2 (DL.wipe ρ vs) M' := by
        have z : SRep (K.hide D) σ H2 ρ M' := ⟨s.len, fun i d e => let ⟨v, q, r⟩ := s.env i d e; ⟨v, q, ((r.mono f1).hides hid).mono (f.trans f2)⟩, m2⟩
        exact z.wipe vs
      refine ho x _ H2 _ _ (fun σ3 H3 e3 q3 => ⟨by rw [e3]; exact wipe_wipe fun _ h => h, q3⟩) (hg _ x d _ H2 _ M' _ _ s2 r2 qq fun σ3 H3 ρ3 M3 f3 s3 q3 => ?_)
      refine ht _ σ3 H3 ρ3 M3 _ _ s3 q3 fun k H4 M4 f4 m4 q4 => ?_
      have F4 : Fr H1 M1 H4 M4 := ((f.trans f2).trans f3).trans f4
      have F4' : Fr H' M' H4 M4 := (f2.trans f3).trans f4
      cases k with
      | true =>
        rw [if_pos rfl] at q4 ⊢
        refine he _ σ3 H4 ρ3 M4 _ _ (s3.step f4 m4) q4 fun v H5 dv M5 f5 r5 m5 q5 => ?_
        have F5 : Fr H1 M1 H5 M5 := F4.trans f5
        have F5' : Fr H' M' H5 M5 := F4'.trans f5
        obtain ⟨hD5, mD5⟩ := F5' D _ hD' mD'
        refine ⟨accV, hD5, szLt (by rw [← ra.length]; omega), M5, acc ++ [dv], accV ++ [v], fun a o e w => ?_, MRep.priv (K := K.hide D) m5 (.inr rfl), upd_same, mD5, Reps.priv (K := K.hide D) (.inr rfl) ((ra.mono F5').snoc r5), by rw [List.length_append]; show acc.length + 1 ≤ i + 1; omega, q5⟩
        have ne := ne_of_none e hD
        obtain ⟨z1, z2⟩ := F5 a o e w
        exact ⟨by rw [upd_ne ne]; exact z1, z2⟩
      | false =>
        rw [if_neg Bool.false_ne_true] at q4 ⊢
        obtain ⟨hD4, mD4⟩ := F4' D _ hD' mD'
        exact ⟨M4, acc, accV, F4, m4, hD4, mD4, ra.mono F4', by omega, q4⟩
    · have e : i = ds.length := by omega
      subst e
      rw [List.drop_length] at qq
      refine .inl ⟨gv.stop H' M' f, ?_⟩
      refine l _ H' (.ref D) (mset M' D (.lst acc)) (f1.trans fun a o e w => ?_) rfl (m'.shown hD' mD' (m1.nprv hD) ra) (qq D mD')
      have ne := ne_of_none e hD
      obtain ⟨z1, z2⟩ := f a o e w
      exact ⟨z1, by rw [mset_ne ne]; exact z2⟩
theorem rf_catN : RefR K rCat oCatN := fun x y H M dx dy Q Q' rx ry m q l => by
  unfold oCatN at q
  cases e1 : asW M dx with
  | none => rw [e1] at q; exact q.elim
  | some a =>
    cases e2 : asW M dy with
    | none => rw [e1, e2] at q; exact q.elim
    | some b =>
      rw [e1, e2] at q
      obtain ⟨a1, v1, rfl, h1, r1⟩ := asW_rep m rx e1
      obtain ⟨a2, v2, rfl, h2, r2⟩ := asW_rep m ry e2
      exact ⟨a1, a2, v1, v2, rfl, rfl, h1, h2, szLe (by rw [← r1.length, ← r2.length]; exact q.1), fun p hp => l _ _ (.ref p) _ (Fr.newM hp) rfl (mrep_newM m hp (r1.append r2)) (q.2 p (m.free hp))⟩
theorem refG_lst {tgs : TGs} {gs : DGs} {n : Nat} (hn : ∀ ds ρ M Q, gs ds ρ M Q → ds.length = n) (h : RefGs K tgs gs) : RefG K (L2.gLst K.K n tgs) (DL.gLst gs) := fun v d σ H ρ M Q Q' s r q l => by
  unfold DL.gLst at q
  cases e : asL M d with
  | none => rw [e] at q; exact q.elim
  | some xs =>
    rw [e] at q
    obtain ⟨a, vs, rfl, h1, rr⟩ := asL_rep s.mem r e
    exact ⟨a, vs, rfl, h1, by rw [← rr.length]; exact hn _ _ _ _ q, h vs xs σ H ρ M _ _ s rr q l⟩
theorem ix_rep {H : Hp} {M : Mem} {d : D} {y : V} (g : flat d = true) (q : Rep K H M d y) : ∀ {ds : List D} {vs : List V} (k j : Nat), ds.all flat = true → Reps K H M ds vs → ixOf ds d k = some j → ∃ (i : Nat) (z : V), j = k + i ∧ vs[i]? = some z ∧ eqV z y = true ∧ ∀ (m : Nat) (z' : V), m < i → vs[m]? = some z' → eqV z' y = false
  | [], _, k, j, _, _, e => by cases e
  | c :: ds, _, k, j, p, ⟨v, r, rfl, hr, rt⟩, e => by
    simp only [List.all_cons, Bool.and_eq_true] at p
    have ev := flat_eqv p.1 g hr q
    simp only [ixOf] at e
    split at e
    · rename_i h
      cases e
      exact ⟨0, v, rfl, rfl, ev.trans h, fun m z' hm => by omega⟩
    · rename_i h
      obtain ⟨i, z, e1, e2, e3, e4⟩ := ix_rep g q (k + 1) j p.2 rt e
      refine ⟨i + 1, z, by omega, by rw [List.getElem?_cons_succ]; exact e2, e3, fun m z' hm hz => ?_⟩
      cases m with
      | zero =>
        rw [List.getElem?_cons_zero] at hz
        cases hz
        rw [ev]
        exact Bool.eq_false_iff.mpr h
      | succ m => exact e4 m z' (by omega) (by rwa [List.getElem?_cons_succ] at hz)
theorem rm_index : ∀ x y H M dx dy Q Q', Rep K H M dx x → Rep K H M dy y → MRep K H M → mIndex dx dy M Q → Lift K H M Q Q' → rIndex K.K x [y] H Q' := fun x y H M dx dy Q Q' rx ry m q l => by
  unfold mIndex at q
  cases e : asL M dx with
  | none => rw [e] at q; exact q.elim
  | some ys =>
    rw [e] at q
    obtain ⟨a, vs, rfl, h1, rr⟩ := asL_rep m rx e
    obtain ⟨f1, f2, q⟩ := q
    cases ei : ixOf ys dy 0 with
    | none => rw [ei] at q; exact q.elim
    | some j =>
      rw [ei] at q
      obtain ⟨i, z, e1, e2, e3, e4⟩ := ix_rep f1 ry 0 j f2 rr ei
      have ej : j = i := by omega
      subst ej
      exact ⟨a, vs, y, j, z, rfl, rfl, h1, flat_rep f1 ry, (flat_all f1 ry f2 rr).1, e2, e3, e4, finI l m q⟩
end
section
variable {X : Cx} {pos p : Pos} {k : Nat} {e o : Expr} {te to : TE} {t do' : DE}
theorem re_catN {a c : Expr} {ta tb : TE} {ua ub : DE} (h1 : RE X a ta ua) (h2 : RE X c tb ub) : RE X (.BinOp a .Add c pos) (tOp rCat ta tb) (dOp oCatN ua ub) := ⟨pe_op op_cat h1.pe h2.pe, fun P => ref_op rf_catN (h1.rf P) (h2.rf P)⟩
theorem rs_aug {i : Nat} {x : Str} {pos' : Pos} (hN : X.N.Nodup) (hi : X.N[i]? = some x) (hx : Loc X.env.scope x) (h : RE X e te t) (hf : X.fn x = true ∨ X.env.scope.names.lookup x = some .local := by first | exact .inl rfl | exact .inr rfl | assumption) :
    RS X (.AugAssign (.Name x pos') .Add e pos) (tAug i te (ipI fun i j => i + j)) (sAug i t oAddI) := ⟨ps_aug hN hi hx h.pe ip_add hf, fun P => refS_aug rf_addI (h.rf P)⟩
theorem re_max2 {a c : Expr} {ta tb : TE} {ua ub : DE} (hc : X.calm = true) (hg : Gl X "max") (hm : X.mg "max" = none) (h1 : RE X a ta ua) (h2 : RE X c tb ub)
    (he : starEach [a, c] X.env = (false, eval a X.env) :: starEach [c] X.env := by rfl) (he2 : starEach [c] X.env = (false, eval c X.env) :: starEach [] X.env := by rfl) (hpl : (backTo pos (starEach [c] X.env)).any (·.1) = false := by rfl) :
    RE X (.Call (.Name "max" p) [a, c] [] pos) (tCB rMax2' (tCons ta (tCons tb tNil))) (dOp oMax ua ub) :=
  ⟨pe_callB (call_max2 hc) hg hm boot_max (pa_cons h1.pe (pa_cons h2.pe pa_nil he2) he) (by decide) (by decide) he hpl, fun P => ref_cb2 rf_max (h1.rf P) (h2.rf P)⟩
theorem rg_lst {es : List Expr} {tgs : TGs} {gs : DGs} {n kk : Nat} (K0 : PySem.W.Frag) (hc : X.calm = true) (h : RGn X es tgs gs n) (hn : (assignEach es X.env).length = n := by rfl) (hst : (assignEach es X.env).findIdx? (·.1) = none := by rfl) (hK : X.K = K0 := by rfl) : RG X (.Tuple es kk pos) (L2.gLst K0 n tgs) (DL.gLst gs) := by
  subst hK
  exact ⟨pg_lst hc h.rg.pg hn hst, fun P => refG_lst (K := ⟨X.K, P⟩) h.many (h.rg.rf P)⟩
theorem re_index {apos cpos : Pos} (K0 : PySem.W.Frag) (ho : RE X o to do') (h : RE X e te t) (hbase : attributeBase o "index" X.env (eval o X.env) = eval o X.env := by rfl)
    (hfew : ((backTo cpos (starEach [e] X.env)).all (fun x => !x.1) && (backToKw cpos (keywordEach [] X.env)).all (fun x => x.1.isSome)
      && decide ([e].length + ([] : List Keyword).length + (if ([] : List Keyword).isEmpty then 0 else 1) < 30)) = true := by rfl)
    (hline : (apos.endLine == cpos.line) = true := by rfl) (hs : starEach [e] X.env = (false, eval e X.env) :: starEach [] X.env := by rfl) (hplain : (backTo cpos (starEach [] X.env)).any (·.1) = false := by rfl) (hK : X.K = K0 := by rfl) :
    RE X (.Call (.Attribute o "index" apos) [e] [] cpos) (tBM K0 "list" (rIndex K0) to (tCons te tNil)) (dMeth mIndex do' t) := by
  subst hK
  exact ⟨pe_bm PySem.F.plainAttrs_list PySem.F.slot_list_index PySem.F.type_list_index mt_index ho.pe (pa_cons h.pe pa_nil hs) hbase hfew hline hs hplain, fun P => ref_meth (K := ⟨X.K, P⟩) rm_index (ho.rf P) (h.rf P)⟩
theorem re_compN {tg iter : Expr} {wi : TI} {ti : DI} {tt : TT} {vs : List Nat} {elt : Expr} {ifs : List Expr} {scope : Scope} {own : List (Str × Nat)} {g : TG} {dg : DG} {db : DT} {de : DE} (hc : X.calm = true) (hN : X.N.Nodup) (hi : RI X tg iter wi ti) (ok : BlkOk X.N X.env.scope scope own)
    (hg : ∀ (s : Shared) (H : Hp) (C : Addr) (cl : List (Str × Addr)) (fp : List Addr), RG (X.blk s H scope (compEnvC scope cl C X.env) fp) tg g dg) (ho : Own vs g)
    (ht : ∀ (s : Shared) (H : Hp) (C : Addr) (cl : List (Str × Addr)) (fp : List Addr), RTs (X.blk s H scope (compEnvC scope cl C X.env) fp) ifs tt db)
    (he : ∀ (s : Shared) (H : Hp) (C : Addr) (cl : List (Str × Addr)) (fp : List Addr), RE (X.blk s H scope (compEnvC scope cl C X.env) fp) elt te de) (hvs : own.map (·.2) = vs := by rfl) (hs : ∀ x, foldedSetIterable iter X.env x = pure x := by intro _; rfl) :
    RE X (.ListComp elt [⟨tg, iter, ifs, 0⟩] scope pos) (tLc wi g tt te vs) (dCompN ti dg db de vs) := by
  subst hvs
  exact ⟨pe_lc hc hN hi.pi ok (fun s H C cl fp => (hg s H C cl fp).pg) (fun s H C cl fp => (ht s H C cl fp).pt) (fun s H C cl fp => (he s H C cl fp).pe) hs,
    fun P => ref_compN (K := ⟨X.K, P⟩) (hi.rf P) (fun P' => (hg X.s_0 X.H_0 0 [] []).rf P') ho (fun P' => (ht X.s_0 X.H_0 0 [] []).rf P') fun P' => (he X.s_0 X.H_0 0 [] []).rf P'⟩
end
end DL
/-! DLV: t[::-1], t == (), {}, defaults -/
namespace DL
open PySem PySem.Spec PyProof.Rows L2
section
variable {prog : Program} {w : World} {A : Around} {E : Value → Shared → Prop} {s : Shared}
theorem adjust_rev (n : Nat) : Builtin.Slice.sliceAdjust none none (-1) (n : Int) = ((n : Int) - 1, -1) := rfl
theorem places_rev (n : Nat) : Builtin.Slice.slicePlaces ((n : Int) - 1) (-1) (-1) = n := by
  unfold Builtin.Slice.slicePlaces
  have h1 : ¬ ((-1 : Int) > 0) := by decide
  simp only [h1, if_false]
  rw [show (- -1 : Int) = 1 by decide, Int.ediv_one]
  split <;> omega
theorem pick_rev (xs : Array Value) : ((List.range xs.size).filterMap fun (m : Nat) => xs[(((xs.size : Int) - 1) + (m : Int) * (-1)).toNat]?).toArray = xs.toList.reverse.toArray := by
  have e : (fun (m : Nat) => xs[(((xs.size : Int) - 1) + (m : Int) * (-1)).toNat]?) = fun (m : Nat) => xs[(((xs.size : Int) - 1) - (m : Int)).toNat]? := by
    funext m
    rw [show ((xs.size : Int) - 1) + (m : Int) * (-1) = ((xs.size : Int) - 1) - (m : Int) by omega]
  rw [e]
  have e2 : (List.range xs.size).filterMap (fun (m : Nat) => xs[(((xs.size : Int) - 1) - (m : Int)).toNat]?) = ((List.range xs.size).map fun k => xs.size - 1 - k).filterMap (xs[·]?) := by
    rw [List.filterMap_map]
    congr 1
    funext m
    show xs[(((xs.size : Int) - 1) - (m : Int)).toNat]? = xs[xs.size - 1 - m]?
    rw [show (((xs.size : Int) - 1) - (m : Int)).toNat = xs.size - 1 - m by omega]
  rw [e2, PySem.W.krv_range, List.filterMap_reverse, PySem.W.krv_all]
theorem sliceApplied_rev {sl : Addr} {vl vu vs : Value} {n : Nat} {Q : Int × Int × Nat → Shared → Prop} (hs : s.heap.IsSliceOf sl vl vu vs) (pl : IsPart vl none) (pu : IsPart vu none) (ps : IsPart vs (some (-1)))
    (h : Q ((n : Int) - 1, -1, n) s) : wpAny (model prog w) A (Builtin.Slice.sliceApplied (.ref sl) (pure (n : Int))) Q E s := by
  obtain ⟨os, hos, hcs, hds⟩ := id hs
  unfold Builtin.Slice.sliceApplied Builtin.Slice.sliceFields
  refine wpAny_bind (wpAny_bind (wpAny_field hos hds (x := vl) rfl (wpAny_bind (wpAny_field hos hds (x := vu) rfl (wpAny_bind (wpAny_field hos hds (x := vs) rfl (wpAny_pure ?_)))))))
  refine wpAny_bind (HT.slicePart_ ps ?_)
  show wpAny _ _ (if ((-1 : Int) == 0) = true then _ else _) _ _ s
  rw [if_neg (by decide)]
  refine wpAny_bind (HT.slicePart_ pl (wpAny_bind (HT.slicePart_ pu (wpAny_bind (wpAny_pure ?_)))))
  show wpAny _ _ (match Builtin.Slice.sliceAdjust none none (-1) (n : Int) with | (lo, hi) => pure (lo, (-1 : Int), Builtin.Slice.slicePlaces lo hi (-1))) _ _ s
  rw [adjust_rev n]
  show wpAny _ _ (pure ((n : Int) - 1, (-1 : Int), Builtin.Slice.slicePlaces ((n : Int) - 1) (-1) (-1))) _ _ s
  rw [places_rev]
  exact wpAny_pure h
theorem getItem_tuple_rev {t sl : Addr} {items : Array Value} {vl vu vs : Value} {Q : Value → Shared → Prop} (ht : IsTup s.heap t items) (hs : s.heap.IsSliceOf sl vl vu vs) (pl : IsPart vl none) (pu : IsPart vu none) (ps : IsPart vs (some (-1)))
    (h : Q (.ref s.heap.objs.size) { s with heap := s.heap.push { cls := .type "tuple", data := .seq items.toList.reverse.toArray } })
    (hsz : items.size ≤ sizeLine) : wpAny (model prog w) A (getItem (.ref t) (.ref sl)) Q E s := by
  have htake : sizeOk (.seq items.toList.reverse.toArray) := by
    show items.toList.reverse.toArray.size ≤ sizeLine
    rw [List.size_toArray, List.length_reverse, Array.length_toList]
    exact hsz
  obtain ⟨os, hos, hcs, hds⟩ := id hs
  have hTs : s.TypeIs (.ref sl) "slice" := ⟨os, hos, hcs⟩
  unfold getItem
  try with_reducible refine wpAny_holding ?_
  first | refine wpAny_bind (wpAny_pure ?_) | skip
  refine wpAny_bind (wpAny_sequenceKey ht.typeIs (by decide) ?_)
  refine wpAny_bind (wpAny_callSpecial?_slot (name := Str.ofString "__getitem__") ht.typeIs PyProof.Rows.slot_tuple_getitem
    (wpAny_call_entry PyProof.Rows.slot_tuple_getitem ht.typeIs PyProof.Rows.entry_tuple_getitem ?_ (PyProof.Rows.args_tuple_getitem _ _)))
  show wpAny _ _ (Builtin.Tuple.tupleItemsOf (.ref t) >>= _) _ _ s
  refine wpAny_bind (tupleItemsOf_ ht ?_)
  refine wpAny_bind (wpAny_typeOf hTs ?_)
  rw [if_pos (by decide)]
  refine wpAny_bind (sliceApplied_rev hs pl pu ps ?_)
  have hno : ¬ ((((items.size : Int) - 1) == 0 && (-1 : Int) == 1 && items.size == items.size) = true) := by
    intro q
    rw [Bool.and_eq_true, Bool.and_eq_true] at q
    exact absurd q.1.2 (by decide)
  show wpAny _ _ (if (((items.size : Int) - 1) == 0 && (-1 : Int) == 1 && items.size == items.size) = true then _ else _) _ _ s
  rw [if_neg hno, pick_rev]
  first
    | exact wpAny_bind (m := Builtin.Tuple.tupleExact _) (wpAny_newObj_type (wpAny_pure ⟨_, rfl, wpAny_pure h⟩) htake)
    | exact wpAny_bind (m := Builtin.Tuple.tupleExact _) (wpAny_newObj_type (wpAny_bind (wpAny_pure (wpAny_pure ⟨_, rfl, wpAny_pure h⟩))) htake)
    | exact wpAny_bind (wpAny_bind (m := Builtin.Tuple.tupleExact _) (wpAny_newObj_type (wpAny_pure (wpAny_pure ⟨_, rfl, wpAny_pure h⟩)) htake))
    | exact wpAny_bind (wpAny_bind (m := Builtin.Tuple.tupleExact _) (wpAny_newObj_type (wpAny_pure ⟨_, rfl, wpAny_pure h⟩) htake))
end
section
variable {X : Cx}
def tRevT (K : PySem.W.Frag) (te : TE) : TE := fun σ H Q => te σ H fun x H1 => ∃ a xs, x = .ref a ∧ SqT K H1 a xs ∧ ∀ p, H1 p = none → Q (.ref p) (upd H1 p (.tup xs.reverse))
theorem pe_revT {e : Expr} {te : TE} {k : Nat} {p1 p2 p3 pos : Pos} (he : PE X e te) : PE X (.Subscript e (.Slice none none (some (.UnaryOp .USub (.Constant (.int 1) k p1) p2)) p3) pos) (tRevT X.K te) := by
  refine ⟨fun pins s σ H Q I h => ?_⟩
  refine Subscript_ (thn (he.run pins s σ H _ I h) fun v s1 ⟨x, H1, I1, r1, q1⟩ => ?_)
  obtain ⟨a, xs, ex, hx, q⟩ := q1
  subst ex
  cases r1
  have hst : PO X (some (.UnaryOp .USub (.Constant (.int 1) k p1) p2)) (tPart (tUn (rU fun i => .int (-i)) (tC (.int 1)))) := po_some (pe_un un_neg pe_int)
  refine wpAny_Slice (thn (po_none.run pins s1 σ H1 (fun o H2 => o = none ∧ H2 = H1) I1 ⟨rfl, rfl⟩) fun vl s2 ⟨l, H2, I2, pl, el, e2⟩ => ?_)
  subst el e2
  refine thn (po_none.run pins s2 σ H2 (fun o H3 => o = none ∧ H3 = H2) I2 ⟨rfl, rfl⟩) fun vu s3 ⟨u, H3, I3, pu, eu, e3⟩ => ?_
  subst eu e3
  refine thn (hst.run pins s3 σ H3 (fun o H4 => o = some (-1) ∧ H4 = H3) I3 ⟨1, rfl, -1, rfl, rfl, rfl⟩) fun vs s4 ⟨o, H4, I4, ps, eo, e4⟩ => ?_
  subst eo e4
  have I5 : Inv X pins σ H4 { s4 with heap := s4.heap.push { cls := .type "slice", data := .fields #[vl, vu, vs] } } := I4.kept (t' := s4.toks) fun b ob q => Heap.get?_push_of_some _ q
  obtain ⟨its, r, ht, hz⟩ := I5.tuple hx
  have hlen := r.length
  show wpAny (model X.prog X.w) X.A (subscriptTail e (.Slice none none (some (.UnaryOp .USub (.Constant (.int 1) k p1) p2)) p3) (.ref a) (.ref s4.heap.objs.size)) (EP X pins σ Q) X.xe { s4 with heap := s4.heap.push { cls := .type "slice", data := .fields #[vl, vu, vs] } }
  refine tail_any (ops := [.ref a, .ref s4.heap.objs.size]) ht.typeIs (PyProof.Rows.slot_tuple_getitem.lookup) ?_ (by with_unfolding_all rfl)
  refine getItem_tuple_rev ht (Heap.IsSliceOf.new _ vl vu vs) pl pu ps ?_ (by rw [List.size_toArray]; omega)
  refine ⟨.ref _, _, I5.laid (t' := s4.toks) (o := .tup xs.reverse) (fun b ob q => Heap.get?_push_of_some _ q) (Nat.le_refl _) ?_, rfl, q _ (I5.hok.fresh (Nat.le_refl _))⟩
  exact ⟨by rw [List.length_reverse]; exact hz, its.reverse, r.reverse, by simpa using IsTup.new (s4.heap.push { cls := .type "slice", data := .fields #[vl, vu, vs] }) its.reverse.toArray⟩
/-! t == () -/
def rEqT0 (K : PySem.W.Frag) : L2.R2 := fun x y H Q => ∃ a b xs, x = .ref a ∧ y = .ref b ∧ SqT K H a xs ∧ SqT K H b [] ∧ Q (.bl xs.isEmpty) H
def rNeT0 (K : PySem.W.Frag) : L2.R2 := fun x y H Q => ∃ a b xs, x = .ref a ∧ y = .ref b ∧ SqT K H a xs ∧ SqT K H b [] ∧ Q (.bl (!xs.isEmpty)) H
theorem size_empty {xs : List V} {its : List Value} (r : Vals xs its) : (((List.range (min its.toArray.size (#[] : Array Value).size)).all fun _ => true) && its.toArray.size == (#[] : Array Value).size) = xs.isEmpty := by
  have := r.length
  cases xs with
  | nil => cases r; rfl
  | cons x xs => cases r; rfl
theorem op_eqT0 (hu : X.A.units + 64 < cLine) : OpR X (compareOp .Eq) (rEqT0 X.K) := by
  intro pins s σ H x y v u Q I rx ry h
  obtain ⟨a, b, xs, rfl, rfl, ha, hb, q⟩ := h
  cases rx
  cases ry
  obtain ⟨its, r, ht, _⟩ := I.tuple ha
  obtain ⟨its2, r2, ht2, _⟩ := I.tuple hb
  cases r2
  refine SeqAt.eq_tupleAt (e := fun _ => true) (items := its.toArray) (items2 := #[]) ht (show IsTup s.heap b #[] by simpa using ht2) (by omega) (fun j h1 h2 => absurd h2 (by simp)) ?_
  rw [size_empty r]
  exact ⟨.bl _, H, I, rfl, q⟩
theorem op_neT0 (hu : X.A.units + 64 < cLine) : OpR X (compareOp .NotEq) (rNeT0 X.K) := by
  intro pins s σ H x y v u Q I rx ry h
  obtain ⟨a, b, xs, rfl, rfl, ha, hb, q⟩ := h
  cases rx
  cases ry
  obtain ⟨its, r, ⟨⟨cls, dd, data, sl⟩, ho, hc, n, hd⟩, _⟩ := I.tuple ha
  obtain ⟨its2, r2, ⟨⟨cls2, dd2, data2, sl2⟩, ho2, hc2, n2, hd2⟩, _⟩ := I.tuple hb
  cases r2
  simp only at hc hd hc2 hd2
  subst hc hd hc2 hd2
  refine richCompare_meets_room (op := .NotEq) ⟨_, ho, rfl⟩ ⟨_, ho2, rfl⟩ PySem.F.slot_tuple_ne PySem.F.entry_tuple_ne (PySem.F.args_tuple_ne_2 _ _) (SeqAt.tuple_neAt a b its.toArray #[] n n2 dd dd2 sl sl2 fun _ => true)
    ⟨ho, by simpa using ho2, fun j h1 h2 => absurd h2 (by simp), ?_⟩ (by omega)
  rw [size_empty r]
  exact ⟨(fun x => nomatch x), ⟨.bl _, H, I, rfl, q⟩⟩
end
section
variable {K : Fg}
theorem reps_empty {H : Hp} {M : Mem} {ds : List D} {vs : List V} (r : Reps K H M ds vs) : vs.isEmpty = ds.isEmpty := by
  have := r.length
  cases ds <;> cases vs <;> simp_all
theorem rf_eqT0 : RefR K (rEqT0 K.K) oEqT0 := fun x y H M dx dy Q Q' rx ry m q l => by
  unfold oEqT0 at q
  split at q
  · obtain ⟨a, vs, rfl, h, r⟩ := rx
    obtain ⟨b, us, rfl, h2, r2⟩ := ry
    cases r2
    exact ⟨a, b, vs, rfl, rfl, h.sq, h2.sq, by rw [reps_empty r]; exact finB l m q⟩
  · exact q.elim
theorem rf_neT0 : RefR K (rNeT0 K.K) oNeT0 := fun x y H M dx dy Q Q' rx ry m q l => by
  unfold oNeT0 at q
  split at q
  · obtain ⟨a, vs, rfl, h, r⟩ := rx
    obtain ⟨b, us, rfl, h2, r2⟩ := ry
    cases r2
    exact ⟨a, b, vs, rfl, rfl, h.sq, h2.sq, by rw [reps_empty r]; exact finB l m q⟩
  · exact q.elim
theorem reps_rev {H : Hp} {M : Mem} : ∀ {ds : List D} {vs : List V}, Reps K H M ds vs → Reps K H M ds.reverse vs.reverse
  | [], _, h => by cases h; exact rfl
  | d :: ds, _, ⟨v, r, e, h, q⟩ => by
    subst e
    rw [List.reverse_cons, List.reverse_cons]
    exact (reps_rev q).snoc h
theorem ref_rev {te : TE} {t : DE} (h1 : Ref K te t) : Ref K (tRevT K.K te) (dUn oRev t) := fun σ H ρ M Q Q' s q l =>
  h1 σ H ρ M _ _ s q fun v H1 d M1 f1 r1 m1 q1 => by
    unfold oRev at q1
    split at q1
    · obtain ⟨a, vs, rfl, h, r⟩ := r1
      exact ⟨a, vs, rfl, h.sq, fun p hp => l _ _ _ _ (f1.trans (Fr.new hp)) (rep_newT m1 hp (reps_rev r)) (m1.new hp) q1⟩
    · exact q1.elim
theorem ref_dict0 : Ref K tDNewK dDict0 := fun σ H ρ M Q Q' s q l => fun p hp =>
  l _ _ (.dK [] []) _ (Fr.new hp) ⟨p, [], rfl, ⟨upd_same, s.mem.free hp, s.mem.nprv hp⟩, rfl, rfl⟩ (s.mem.new hp) q
theorem ref_callD {n : Nat} {sp : Spec} {tA : TA} {dA' : DA} {j : Nat} {dd : List D} {dvs : List V} (h : RefA K j tA dA') (hj : j + dd.length = n) (hd : ∀ H M, Reps K H M dd dvs) : Ref K (tCall (toSp K.K n sp) dvs E0 tA) (dCallD sp dd dA') := fun σ H ρ M Q Q' s q l =>
  h σ H ρ M _ _ s q fun vs H1 ds M1 f1 r1 n1 m1 q1 => ⟨K.P, ds ++ dd, M1, r1.append (hd H1 M1), by rw [List.length_append, n1, hj], m1, q1.1, fun d M' hp v H' f r m => l v H' d M' (f1.trans f) r m (q1.2 d M' hp)⟩
end
section
variable {X : Cx} {pos : Pos} {k : Nat}
theorem re_rev {e : Expr} {te : TE} {t : DE} {j : Nat} {p1 p2 p3 : Pos} (K0 : PySem.W.Frag) (h : RE X e te t) (hK : X.K = K0 := by rfl) : RE X (.Subscript e (.Slice none none (some (.UnaryOp .USub (.Constant (.int 1) j p1) p2)) p3) pos) (tRevT K0 te) (dUn oRev t) := by
  subst hK
  exact ⟨pe_revT h.pe, fun P => ref_rev (K := ⟨X.K, P⟩) (h.rf P)⟩
theorem c_eqT0 (K0 : PySem.W.Frag) (hr : Room k X.A) (hK : X.K = K0 := by rfl) : CM X .Eq (rEqT0 K0) oEqT0 := by
  subst hK
  exact ⟨op_eqT0 hr.units, fun P => rf_eqT0⟩
theorem c_neT0 (K0 : PySem.W.Frag) (hr : Room k X.A) (hK : X.K = K0 := by rfl) : CM X .NotEq (rNeT0 K0) oNeT0 := by
  subst hK
  exact ⟨op_neT0 hr.units, fun P => rf_neT0⟩
theorem re_dict0 : RE X (.Dict [] [] pos) tDNewK dDict0 := ⟨pe_dnewK, fun P => ref_dict0⟩
end
def dv0 : D → V
  | .bl b => .bl b
  | .int i => .int i
  | .str x => .str x
  | _ => .non
/-- a def that is called with j of its n arguments, the others its own -/
def FnD (P : Program) (w : World) (K : PySem.W.Frag) (mg : Str → Option Value) (base : Heap) (k : Nat) (x : Str) (n : Nat) (dd : List D) (sp : Spec) : Prop :=
  ∃ (f : Addr) (fd : FuncData) (ps : List Str) (ds : List Value), FnOk P w K mg base CX0 k f fd ps (toSp K n sp) ∧ mg x = some (.ref f) ∧ PySem.W.keepIn K (.ref f) = true ∧ Binds K fd ps ds ∧ Vals (dd.map dv0) ds ∧ ∀ Pr H M, Reps ⟨K, Pr⟩ H M dd (dd.map dv0)
theorem FnD.mono {P : Program} {w : World} {K : PySem.W.Frag} {mg : Str → Option Value} {base : Heap} {j k : Nat} {x : Str} {n : Nat} {dd : List D} {sp : Spec} (c : FnD P w K mg base j x n dd sp) (h : j ≤ k) : FnD P w K mg base k x n dd sp := by
  obtain ⟨f, fd, ps, ds, h1, h2⟩ := c
  exact ⟨f, fd, ps, ds, h1.mono h, h2⟩
theorem re_fnD {X : Cx} {p pos : Pos} {e : Expr} {es : List Expr} {tA : TA} {dA' : DA} {k n : Nat} {sp : Spec} {dd : List D} {x : Str} (K0 : PySem.W.Frag) (c : FnD X.prog X.w X.K X.mg X.base k x n dd sp) (hr : Room k X.A) (hg : Gl X x)
    (h : RA X (e :: es) tA dA') (hn : (e :: es).length + dd.length = n := by rfl) (hdb : (x == ("__debug__" : Str)) = false := by decide) (he : starEach (e :: es) X.env = (false, eval e X.env) :: starEach es X.env := by rfl) (hpl : (backTo pos (starEach es X.env)).any (·.1) = false := by rfl) (hK : X.K = K0 := by rfl) :
    RE X (.Call (.Name x p) (e :: es) [] pos) (tCall (toSp K0 n sp) (dd.map dv0) E0 tA) (dCallD sp dd dA') := by
  subst hK
  obtain ⟨f, fd, ps, ds, h1, h2, h3, h4, h5, h6⟩ := c
  exact ⟨pe_call h1 hr hg h2 h3 h4 h5 pass0 h.pa hdb he hpl, fun P => ref_callD (K := ⟨X.K, P⟩) (h.rf P) hn (h6 P)⟩
end DL
/-! DLW: dicts of the memory, extend -/
namespace DL
open PySem PySem.Spec PyProof.Rows L2
section
variable {K : Fg}
theorem asK_rep {H : Hp} {M : Mem} {d : D} {x : V} {ks : List Key} {ds : List D} (m : MRep K H M) (r : Rep K H M d x) (e : asK M d = some (ks, ds)) : ∃ a vs, x = .ref a ∧ H a = some (.dK (ks.zip vs)) ∧ ks.length = vs.length ∧ Reps K H M ds vs := by
  cases d with
  | dK k2 d2 =>
    cases e
    obtain ⟨a, vs, rfl, ⟨ha, _⟩, hl, rs⟩ := r
    exact ⟨a, vs, rfl, ha, hl, rs⟩
  | ref a =>
    cases r
    simp only [asK] at e
    cases q : M a with
    | none => rw [q] at e; cases e
    | some o =>
      rw [q] at e
      cases o with
      | dK k2 d2 =>
        cases e
        obtain ⟨vs, h1, h2, h3⟩ := m.obj a _ q
        exact ⟨a, vs, rfl, h1, h2, h3⟩
      | _ => cases e
  | _ => cases e
theorem valD_none : ∀ (ks : List Key) {ds : List D} {k : Key}, ks.length = ds.length → valD ks ds k = none → k ∉ ks
  | [], ds, k, _, _ => by simp
  | a :: ks, [], k, h, _ => by simp at h
  | a :: ks, d :: ds, k, h, e => by
    simp only [valD] at e
    by_cases q : a = k
    · rw [if_pos q] at e; cases e
    · rw [if_neg q] at e
      have := valD_none ks (by simpa using h) e
      simp only [List.mem_cons, not_or]
      exact ⟨fun z => q z.symm, this⟩
theorem ref_newD : Ref K tDNewK dNewD := fun σ H ρ M Q Q' s q l => fun p hp =>
  l _ _ (.ref p) _ (Fr.newM hp) rfl (s.mem.newM (u := .dK [] []) hp ⟨[], upd_same, rfl, rfl⟩) (q p (s.mem.free hp))
theorem ref_ixD {td ty : TE} {dd dy : DE} (h1 : Ref K td dd) (h2 : Ref K ty dy) : Ref K (tDGet td ty) (dOp oIxD dd dy) := fun σ H ρ M Q Q' s q l =>
  h1 σ H ρ M _ _ s q fun v1 H1 d1 M1 f1 r1 m1 q1 => h2 σ H1 ρ M1 _ _ (s.step f1 m1) q1 fun v2 H2 d2 M2 f2 r2 m2 q2 => by
    unfold oIxD at q2
    split at q2
    · rename_i ks ds k e1 e2
      obtain ⟨a, vs, rfl, ha, hl, rs⟩ := asK_rep m2 (r1.mono f2) e1
      have e3 := keyOf_rep r2 e2
      subst e3
      rcases valD_rep ks k rs hl with ⟨e4, e5⟩ | ⟨d, v, e4, e5, rv⟩
      · rw [e4] at q2; exact q2.elim
      · rw [e4] at q2
        refine ⟨a, v, rfl, ?_, l v H2 d M2 (f1.trans f2) rv m2 q2⟩
        rw [← e5]
        exact DGet.k ha
    · exact q2.elim
def rInD : L2.R2 := fun y x H Q => ∃ a o, x = .ref a ∧ DGet H a y o ∧ Q (.bl o.isSome) H
def rNotInD : L2.R2 := fun y x H Q => ∃ a o, x = .ref a ∧ DGet H a y o ∧ Q (.bl (!o.isSome)) H
theorem op_inD {X : Cx} (hu : X.A.units + 1 < cLine) : OpR X (compareOp .In) rInD := by
  intro pins s σ H y x v u Q I ry rx h
  obtain ⟨a, o, rfl, g, q⟩ := h
  obtain rfl : u = Value.ref a := rx
  exact d_in hu I g ry fun s3 I3 => ⟨.bl o.isSome, H, I3, rfl, q⟩
theorem op_notInD {X : Cx} (hu : X.A.units + 1 < cLine) : OpR X (compareOp .NotIn) rNotInD := by
  intro pins s σ H y x v u Q I ry rx h
  obtain ⟨a, o, rfl, g, q⟩ := h
  obtain rfl : u = Value.ref a := rx
  exact d_notIn hu I g ry fun s3 I3 => ⟨.bl (!o.isSome), H, I3, rfl, q⟩
theorem val_some {H : Hp} {M : Mem} {ks : List Key} {ds : List D} {vs : List V} {k : Key} (rs : Reps K H M ds vs) (hl : ks.length = vs.length) : (valV (ks.zip vs) k).isSome = (valD ks ds k).isSome := by
  rcases valD_rep ks k rs hl with ⟨e4, e5⟩ | ⟨d, v, e4, e5, rv⟩
  · rw [e4, e5]; rfl
  · rw [e4, e5]; rfl
theorem rf_inD : RefR K rInD oInD := fun y x H M dy dx Q Q' ry rx m q l => by
  unfold oInD at q
  split at q
  · rename_i ks ds k e1 e2
    obtain ⟨a, vs, rfl, ha, hl, rs⟩ := asK_rep m rx e1
    have e3 := keyOf_rep ry e2
    subst e3
    exact ⟨a, _, rfl, DGet.k ha, by rw [val_some rs hl]; exact finB l m q⟩
  · exact q.elim
theorem rf_notInD : RefR K rNotInD oNotInD := fun y x H M dy dx Q Q' ry rx m q l => by
  unfold oNotInD at q
  split at q
  · rename_i ks ds k e1 e2
    obtain ⟨a, vs, rfl, ha, hl, rs⟩ := asK_rep m rx e1
    have e3 := keyOf_rep ry e2
    subst e3
    exact ⟨a, _, rfl, DGet.k ha, by rw [val_some rs hl]; exact finB l m q⟩
  · exact q.elim
abbrev rLenD : List V → Hp → VK → Prop := fun xs H Q => ∃ a kvs, xs = [.ref a] ∧ Rd H a (.dK kvs) ∧ Q (.int (kvs.length : Nat)) H
theorem call_lenD {X : Cx} : CallR X (.builtin "len") rLenD := by
  intro pins s σ H xs us Q I r h
  obtain ⟨a, kvs, rfl, e, q⟩ := h
  obtain ⟨u, rfl, ru⟩ := r.one
  cases ru
  exact d_len I e fun t s' I' => ⟨.int _, H, I', ⟨t, rfl⟩, q⟩
theorem rf_lenD : RefR1 K rLenD oLenD := fun x H M dx Q Q' rx m q l => by
  unfold oLenD at q
  split at q
  · rename_i ks ds e1
    obtain ⟨a, vs, rfl, ha, hl, rs⟩ := asK_rep m rx e1
    refine ⟨a, _, rfl, .inl ha, ?_⟩
    have : (ks.zip vs).length = ks.length := by rw [List.length_zip]; omega
    rw [this]
    exact l _ H (.int _) M (Fr.refl H M) rfl m q
  · exact q.elim
theorem ref_setd {td ty tz : TE} {dd dy dz : DE} (h1 : Ref K td dd) (h2 : Ref K ty dy) (h3 : Ref K tz dz) : Ref K (tDSetd td ty tz) (dSetd dd dy dz) := fun σ H ρ M Q Q' s q l =>
  h1 σ H ρ M _ _ s q fun v1 H1 d1 M1 f1 r1 m1 q1 => by
    obtain ⟨hk, q1⟩ := q1
    cases e1 : asK M1 d1 with
    | none => rw [e1] at hk; cases hk
    | some p =>
      obtain ⟨ks1, ds1⟩ := p
      obtain ⟨a, vs1, rfl, ha1, _, _⟩ := asK_rep m1 r1 e1
      refine ⟨a, rfl, .inl ⟨_, .inl ha1⟩, ?_⟩
      refine h2 σ H1 ρ M1 _ _ (s.step f1 m1) q1 fun v2 H2 d2 M2 f2 r2 m2 q2 => ?_
      refine h3 σ H2 ρ M2 _ _ (s.step (f1.trans f2) m2) q2 fun v3 H3 d3 M3 f3 r3 m3 q3 => ?_
      have F : Fr H M H3 M3 := (f1.trans f2).trans f3
      split at q3
      · rename_i a' k e2
        cases r1
        have e3 := keyOf_rep (r2.mono f3) e2
        subst e3
        split at q3
        · rename_i ks ds em
          obtain ⟨vs, ha, hl, rs⟩ := m3.obj _ _ em
          obtain ⟨hlt, q3⟩ := q3
          have hz : (ks.zip vs).length = ks.length := by rw [List.length_zip]; omega
          refine ⟨_, k, ha, rfl, szLt (by rw [hz]; exact hlt), fun v hv => ?_, fun hv => ?_⟩
          · rcases valD_rep ks k rs hl with ⟨e4, e5⟩ | ⟨d, w, e4, e5, rv⟩
            · rw [e5] at hv; cases hv
            · rw [e4] at q3
              rw [e5] at hv
              cases hv
              exact l _ H3 d M3 F rv m3 q3
          · rcases valD_rep ks k rs hl with ⟨e4, e5⟩ | ⟨d, w, e4, e5, rv⟩
            · rw [e4] at q3
              have hn : k ∉ ks := valD_none ks (by rw [hl]; exact rs.length.symm) e4
              rw [put_new ks vs k v3 hn hl]
              refine l _ _ d3 _ (F.trans (Fr.write em)) (r3.mono (Fr.write em)) (m3.write (u := .dK (ks ++ [k]) (ds ++ [d3])) em (fun _ z => nomatch z) ⟨vs ++ [v3], upd_same, by simp [hl], (rs.snoc r3).mono (Fr.write em)⟩) q3
            · rw [e5] at hv; cases hv
        · exact q3.elim
      · exact q3.elim
theorem refS_putD {td ty tv : TE} {dd dy dv : DE} (h1 : Ref K td dd) (h2 : Ref K ty dy) (h3 : Ref K tv dv) : RefS K (sDPut td ty tv) (sPutD dd dy dv) := fun σ H ρ M E E' s q l => by
  refine h3 σ H ρ M _ _ s q fun v H1 d M1 f1 r1 m1 q1 => ?_
  refine h1 σ H1 ρ M1 _ _ (s.step f1 m1) q1 fun v2 H2 d2 M2 f2 r2 m2 q2 => ?_
  refine h2 σ H2 ρ M2 _ _ (s.step (f1.trans f2) m2) q2 fun v3 H3 d3 M3 f3 r3 m3 q3 => ?_
  have F : Fr H M H3 M3 := (f1.trans f2).trans f3
  split at q3
  · rename_i a k e2
    cases r2
    have e3 := keyOf_rep r3 e2
    subst e3
    split at q3
    · rename_i ks ds em
      obtain ⟨vs, ha, hl, rs⟩ := m3.obj _ _ em
      obtain ⟨hn, hlt, q3⟩ := q3
      have hz : (ks.zip vs).length = ks.length := by rw [List.length_zip]; omega
      have W : MRep K (upd H3 a (.dK ((ks ++ [k]).zip (vs ++ [v])))) (mset M3 a (.dK (ks ++ [k]) (ds ++ [d]))) := m3.write em (fun _ z => nomatch z) ⟨vs ++ [v], upd_same, by simp [hl], (rs.snoc ((r1.mono f2).mono f3)).mono (Fr.write em)⟩
      refine ⟨a, _, rfl, DPut.k ha (szLt (by rw [hz]; exact hlt)), ?_⟩
      rw [put_new ks vs k v hn hl]
      exact l.nx _ _ _ _ (F.trans (Fr.write em)) (s.step (F.trans (Fr.write em)) W) q3
    · exact q3.elim
  · exact q3.elim
theorem rm_extend : ∀ x y H M dx dy Q Q', Rep K H M dx x → Rep K H M dy y → MRep K H M → mExtend dx dy M Q → Lift K H M Q Q' → rExtend x [y] H Q' := fun x y H M dx dy Q Q' rx ry m q l => by
  unfold mExtend at q
  split at q
  · rename_i a ys
    cases rx
    split at q
    · rename_i xs e
      obtain ⟨vs, hv, rv⟩ := mt_lst m e
      obtain ⟨b, us, rfl, ⟨hb, _⟩, ru⟩ := ry
      refine ⟨a, b, vs, us, rfl, rfl, hv, hb, szLe (by rw [← rv.length, ← ru.length]; exact q.1), ?_⟩
      exact l _ _ .non _ (Fr.write e) rfl (mrep_write (ws := vs) m e (rv.append ru)) q.2
    · exact q.elim
  · exact q.elim
end
section
variable {X : Cx} {pos : Pos} {k : Nat} {o e f i : Expr} {td ty tz te to : TE} {dd dy dz t do' : DE}
theorem re_newD : RE X (.Dict [] [] pos) tDNewK dNewD := ⟨pe_dnewK, fun P => ref_newD⟩
theorem re_ixD (hr : Room k X.A) (ho : RE X o td dd) (hi : RE X i ty dy) (hs : NoSl i := by intro _ _; rfl) : RE X (.Subscript o i pos) (tDGet td ty) (dOp oIxD dd dy) :=
  ⟨pe_dget (by have := hr.un; omega) ho.pe hi.pe hs, fun P => ref_ixD (ho.rf P) (hi.rf P)⟩
theorem c_inD (hr : Room k X.A) : CM X .In rInD oInD := ⟨op_inD (by have := hr.un; omega), fun P => rf_inD⟩
theorem c_notInD (hr : Room k X.A) : CM X .NotIn rNotInD oNotInD := ⟨op_notInD (by have := hr.un; omega), fun P => rf_notInD⟩
theorem b_lenD : B1 X (.builtin "len") rLenD oLenD := ⟨call_lenD, fun P => rf_lenD⟩
theorem re_setd {apos cpos : Pos} (ho : RE X o td dd) (he : RE X e ty dy) (hf : RE X f tz dz) (hbase : attributeBase o "setdefault" X.env (eval o X.env) = eval o X.env := by rfl)
    (hfew : ((backTo cpos (starEach [e, f] X.env)).all (fun x => !x.1) && (backToKw cpos (keywordEach [] X.env)).all (fun x => x.1.isSome)
      && decide (([e, f] : List Expr).length + ([] : List Keyword).length + (if ([] : List Keyword).isEmpty then 0 else 1) < 30)) = true := by rfl)
    (hline : (apos.endLine == cpos.line) = true := by rfl) (htrees : backTo cpos (starEach [e, f] X.env) = [(false, eval e X.env), (false, eval f X.env)] := by rfl) :
    RE X (.Call (.Attribute o "setdefault" apos) [e, f] [] cpos) (tDSetd td ty tz) (dSetd dd dy dz) :=
  ⟨pe_dsetd ho.pe he.pe hf.pe ⟨hbase, hfew, hline, htrees⟩, fun P => ref_setd (ho.rf P) (he.rf P) (hf.rf P)⟩
theorem rs_putD {pos' : Pos} (hr : Room k X.A) (ho : RE X o td dd) (hi : RE X i ty dy) (hv : RE X e tz dz) (hs : swapsWith e (some (.Subscript o i pos')) pos.line X.env = pure false := by rfl) :
    RS X (.Assign [.Subscript o i pos'] e pos) (sDPut td ty tz) (sPutD dd dy dz) := ⟨ps_dput (by have := hr.un; omega) ho.pe hi.pe hv.pe hs, fun P => refS_putD (ho.rf P) (hi.rf P) (hv.rf P)⟩
theorem re_extend {apos cpos : Pos} (K0 : PySem.W.Frag) (ho : RE X o to do') (h : RE X e te t) (hbase : attributeBase o "extend" X.env (eval o X.env) = eval o X.env := by rfl)
    (hfew : ((backTo cpos (starEach [e] X.env)).all (fun x => !x.1) && (backToKw cpos (keywordEach [] X.env)).all (fun x => x.1.isSome)
      && decide ([e].length + ([] : List Keyword).length + (if ([] : List Keyword).isEmpty then 0 else 1) < 30)) = true := by rfl)
    (hline : (apos.endLine == cpos.line) = true := by rfl) (hs : starEach [e] X.env = (false, eval e X.env) :: starEach [] X.env := by rfl) (hplain : (backTo cpos (starEach [] X.env)).any (·.1) = false := by rfl) (hK : X.K = K0 := by rfl) :
    RE X (.Call (.Attribute o "extend" apos) [e] [] cpos) (tBM K0 "list" rExtend to (tCons te tNil)) (dMeth mExtend do' t) := by
  subst hK
  exact ⟨pe_bm PySem.F.plainAttrs_list PySem.F.slot_list_extend PySem.F.type_list_extend mt_extend ho.pe (pa_cons h.pe pa_nil hs) hbase hfew hline hs hplain, fun P => ref_meth (K := ⟨X.K, P⟩) rm_extend (ho.rf P) (h.rf P)⟩
end
section
variable {X : Cx} {pos : Pos}
theorem rs_setLcN {tg iter : Expr} {wi : TI} {ti : DI} {tt : TT} {te : TE} {vs : List Nat} {i : Nat} {y : Str} {py spos : Pos} {elt : Expr} {ifs : List Expr} {scope : Scope} {own : List (Str × Nat)} {g : TG} {dg : DG} {db : DT} {de : DE} (hc : X.calm = true) (hN : X.N.Nodup) (hy : X.N[i]? = some y) (hyl : X.env.scope.names.lookup y = some .local)
    (hsw : swapsWith (.ListComp elt [⟨tg, iter, ifs, 0⟩] scope pos) (some (.Name y py)) spos.line X.env = pure true) (hi : RI X tg iter wi ti) (ok : BlkOk X.N X.env.scope scope own)
    (hg : ∀ (s : Shared) (H : Hp) (C : Addr) (cl : List (Str × Addr)) (fp : List Addr), RG (X.blk s H scope (compEnvC scope cl C X.env) fp) tg g dg) (ho : Own vs g)
    (ht : ∀ (s : Shared) (H : Hp) (C : Addr) (cl : List (Str × Addr)) (fp : List Addr), RTs (X.blk s H scope (compEnvC scope cl C X.env) fp) ifs tt db)
    (he : ∀ (s : Shared) (H : Hp) (C : Addr) (cl : List (Str × Addr)) (fp : List Addr), RE (X.blk s H scope (compEnvC scope cl C X.env) fp) elt te de) (hvs : own.map (·.2) = vs := by rfl) (hs : ∀ x, foldedSetIterable iter X.env x = pure x := by intro _; rfl) :
    RS X (.Assign [.Name y py] (.ListComp elt [⟨tg, iter, ifs, 0⟩] scope pos) spos) (tAsg (tLc wi g tt te vs) (L2.gName i)) (sAsg (dCompN ti dg db de vs) (DL.gName i)) := by
  subst hvs
  exact ⟨ps_setLc hc hN hy hyl hsw hi.pi ok (fun s H C cl fp => (hg s H C cl fp).pg) (fun s H C cl fp => (ht s H C cl fp).pt) (fun s H C cl fp => (he s H C cl fp).pe) hs,
    fun P => refS_asg (ref_compN (K := ⟨X.K, P⟩) (hi.rf P) (fun P' => (hg X.s_0 X.H_0 0 [] []).rf P') ho (fun P' => (ht X.s_0 X.H_0 0 [] []).rf P') fun P' => (he X.s_0 X.H_0 0 [] []).rf P') (refG_name i)⟩
end
end DL
/-! DLY: rows that are known to be plain, dicts of them -/
namespace DL
open PySem PySem.Spec PyProof.Rows L2
/-- what stands in K is no row -/
def NoTup (K : PySem.W.Frag) : Prop := ∀ a o, K.lookup a = some o → o.cls ≠ .type "tuple"
section
variable {X : Cx}
abbrev rTupP (K : PySem.W.Frag) : List V → Hp → VK → Prop := fun xs H Q => ∃ p ys, xs = [.ref p] ∧ SqL K H p ys ∧ ∀ l o, H l = none → o.dict = none → Q (.ref l) (upd H l (.frz o (.tup ys)))
theorem call_tupP : CallR X (.type "tuple") (rTupP X.K) := by
  intro pins s σ H xs us Q I r h
  obtain ⟨p, ys, rfl, hq, q⟩ := h
  obtain ⟨u, rfl, rx⟩ := vals1 r
  cases rx
  obtain ⟨its, r', pl, hz⟩ := I.list hq
  have hlen := r'.length
  refine call_tuple_list pl.isList (fun h' kp => ?_) (by simp only [List.size_toArray] <;> omega)
  have I1 : Inv X pins σ H { s with heap := h' } := I.kept (t' := s.toks) kp
  have ok : ObjOk X.prog X.w (upd H h'.objs.size (.frz { cls := .type "tuple", data := .seq its.toArray } (.tup ys))) (h'.push { cls := .type "tuple", data := .seq its.toArray }) h'.objs.size (.frz { cls := .type "tuple", data := .seq its.toArray } (.tup ys)) :=
    ⟨Heap.get?_push_size _ rfl, hz, its, r', IsTup.new _ _⟩
  exact ⟨.ref h'.objs.size, _, I1.laid (t' := s.toks) (fun b o e => Heap.get?_push_of_some _ e) (Nat.le_refl _) ok, rfl, q _ _ (I1.hok.fresh (Nat.le_refl _)) rfl⟩
/-- the pairs of a row -/
def Prs (K : PySem.W.Frag) (H : Hp) (ps : List Addr) (kvs : List (List Key × Addr × V)) : Prop := Paired (fun p kv => SqT K H p [.ref kv.2.1, kv.2.2] ∧ H kv.2.1 = some (.tup (kv.1.map kV))) ps kvs
theorem prs_at {pins : List (Addr × Obj)} {σ : L2.St} {H : Hp} {s : Shared} (I : Inv X pins σ H s) : ∀ {ps : List Addr} {kvs : List (List Key × Addr × V)}, Prs X.K H ps kvs →
    ∃ prs : List (List Key × Addr × Value), Paired (fun (kv : List Key × Addr × V) (q : List Key × Addr × Value) => kv.1 = q.1 ∧ kv.2.1 = q.2.1 ∧ RelV kv.2.2 q.2.2) kvs prs ∧ prs.length = ps.length ∧ ∀ (j : Nat) (q : List Key × Addr × Value), prs[j]? = some q → ∃ b, ps[j]? = some b ∧ IsTup s.heap b #[.ref q.2.1, q.2.2]
  | _, _, .nil => ⟨[], .nil, rfl, fun j q e => by simp at e⟩
  | _, _, .cons (a := p) (b := kv) h t => by
    obtain ⟨prs, r, hl, hp⟩ := prs_at I t
    obtain ⟨its, rv, ht, _⟩ := I.tuple h.1
    obtain ⟨u, y, ei, ru, ry⟩ := vals2 rv
    subst ei
    cases ru
    refine ⟨(kv.1, kv.2.1, y) :: prs, .cons ⟨rfl, rfl, ry⟩ r, by rw [List.length_cons, List.length_cons, hl], fun j q e => ?_⟩
    cases j with
    | zero =>
      have e' : (kv.1, kv.2.1, y) = q := Option.some.inj e
      subst e'
      exact ⟨p, rfl, ht⟩
    | succ j =>
      obtain ⟨b, e1, e2⟩ := hp j q (by simpa using e)
      exact ⟨b, by simpa using e1, e2⟩
abbrev rDictT (K : PySem.W.Frag) : List V → Hp → VK → Prop := fun xs H Q => ∃ (a : Addr) (o : Obj) (ps : List Addr) (kvs : List (List Key × Addr × V)), xs = [.ref a] ∧ H a = some (.frz o (.tup (ps.map V.ref))) ∧ o.dict = none ∧ Prs K H ps kvs ∧ (kvs.map (·.1)).Nodup ∧
  ∀ p, H p = none → Q (.ref p) (upd H p (.dT (kvs.map fun q => (q.1, q.2.2))))
theorem prs_keys {H H' : Hp} {kvs : List (List Key × Addr × V)} {prs : List (List Key × Addr × Value)} : Paired (fun (kv : List Key × Addr × V) (q : List Key × Addr × Value) => kv.1 = q.1 ∧ kv.2.1 = q.2.1 ∧ RelV kv.2.2 q.2.2) kvs prs → (∀ kv ∈ kvs, H' kv.2.1 = some (.tup (kv.1.map kV))) →
    Paired (fun (p : List Key × V) (q : List Key × Addr × Value) => p.1 = q.1 ∧ H' q.2.1 = some (.tup (p.1.map kV)) ∧ RelV p.2 q.2.2) (kvs.map fun q => (q.1, q.2.2)) prs := by
  intro r
  induction r with
  | nil => intro _; exact .nil
  | @cons p q ps qs h t ih =>
    intro hk
    rw [List.map_cons]
    exact .cons ⟨h.1, by rw [← h.2.1]; exact hk p (by simp), h.2.2⟩ (ih fun kv hkv => hk kv (List.mem_cons_of_mem _ hkv))
theorem prs_map {kvs : List (List Key × Addr × V)} {prs : List (List Key × Addr × Value)} (r : Paired (fun (kv : List Key × Addr × V) (q : List Key × Addr × Value) => kv.1 = q.1 ∧ kv.2.1 = q.2.1 ∧ RelV kv.2.2 q.2.2) kvs prs) : prs.map (·.1) = kvs.map (·.1) ∧ prs.map (·.2.1) = kvs.map (·.2.1) := by
  induction r with
  | nil => exact ⟨rfl, rfl⟩
  | @cons p q ps qs h t ih => exact ⟨by rw [List.map_cons, List.map_cons, ih.1, h.1], by rw [List.map_cons, List.map_cons, ih.2, h.2.1]⟩
theorem prs_mem {K : PySem.W.Frag} {H : Hp} {ps : List Addr} {kvs : List (List Key × Addr × V)} (r : Prs K H ps kvs) : ∀ kv ∈ kvs, H kv.2.1 = some (.tup (kv.1.map kV)) := by
  unfold Prs at r
  induction r with
  | nil => intro kv h; cases h
  | @cons p q ps qs h t ih =>
    intro kv hkv
    rcases List.mem_cons.mp hkv with rfl | hkv
    · exact h.2
    · exact ih kv hkv
theorem paired_mem {α β : Type} {F : α → β → Prop} {l : List α} {m : List β} (r : Paired F l m) : ∀ y ∈ m, ∃ x ∈ l, F x y := by
  induction r with
  | nil => intro y h; cases h
  | @cons p q ps qs h t ih =>
    intro y hy
    rcases List.mem_cons.mp hy with rfl | hy
    · exact ⟨p, by simp, h⟩
    · obtain ⟨x, hx, hf⟩ := ih y hy
      exact ⟨x, List.mem_cons_of_mem _ hx, hf⟩
theorem call_dictT (hcalm : X.calm = true) (hu : X.A.units + 2 < cLine) : CallR X (.type "dict") (rDictT X.K) := by
  intro pins s σ H xs us Q I r h
  obtain ⟨a, o, ps, kvs, rfl, ha, hod, hp, hn, q⟩ := h
  obtain ⟨u, rfl, rx⟩ := vals1 r
  cases rx
  obtain ⟨he, hz, its, rv, ⟨o', he', hc, n, hd⟩⟩ := (show ObjOk X.prog X.w H s.heap a (.frz o (.tup (ps.map V.ref))) from I.hok a _ ha)
  rw [he] at he'
  cases he'
  have ei := refs_at rv
  subst ei
  rw [List.length_map] at hz
  obtain ⟨prs, rel, hl, hpr⟩ := prs_at I hp
  have hm := prs_map rel
  refine call_dict_pairsH (knd := tupleKind (mixKind X.prog X.w)) (ps := prs) (PairArg.tuple a (ps.map Value.ref).toArray (fun j => (ps[j]?).getD 0) (prs.map fun q => (.ref q.2.1, q.2.2))) (I.ok.hd hcalm) hu
    ⟨⟨o, n, he, hc, hod, hd⟩, by simp [hl], fun j k v e => ?_⟩ ⟨by simp, fun i key v e => ?_⟩ (fun h' kp x hx => ?_) (by rw [List.length_map, hl]; exact hz) fun h' tk hd' kp => ?_
  · rw [List.getElem?_map] at e
    cases e1 : prs[j]? with
    | none => rw [e1] at e; cases e
    | some q1 =>
      rw [e1] at e
      cases e
      obtain ⟨b, hb, ht⟩ := hpr j q1 e1
      exact ⟨by simp [hb], .inl (by show s.heap.IsTuple ((ps[j]?).getD 0) _; rw [hb]; exact ht)⟩
  · have e' : (prs.map fun q => ((Value.ref q.2.1 : Value), q.2.2))[i]? = some (key, v) := e
    rw [List.getElem?_map] at e'
    cases e1 : prs[i]? with
    | none => rw [e1] at e'; cases e'
    | some q1 =>
      rw [e1] at e'
      cases e'
      exact ⟨q1.1, q1.2.1, rfl, rfl⟩
  · obtain ⟨kv, hkv, h1, h2, _⟩ := paired_mem rel x hx
    have hk := prs_mem hp kv hkv
    have hi := key_of I.hok hk
    rw [← h1, ← h2]
    obtain ⟨ob, items, m, e1, e2⟩ := hi
    exact ⟨ob, items, m, kp _ _ (Nat.ne_of_lt (Heap.lt_size e1)) (by simp) e1, e2⟩
  · have hst : storedAllH [] prs = prs := storedAllH_nil_of_nodup prs (by rw [hm.1]; exact hn)
    rw [hst] at hd'
    have hfr := I.hok.fresh (Nat.le_refl s.heap.objs.size)
    obtain ⟨ob, es, ep, g1, g2, g3, g4, _, g5⟩ := hd'
    have hlen : (kvs.map fun q : List Key × Addr × V => (q.1, q.2.2)).length ≤ sizeLine := by
      rw [List.length_map, Paired.length rel, hl]
      exact hz
    have new : ObjOk X.prog X.w (upd H s.heap.objs.size (.dT (kvs.map fun q => (q.1, q.2.2)))) h' s.heap.objs.size (.dT (kvs.map fun q => (q.1, q.2.2))) :=
      ⟨hlen, beq_eq_false_iff_ne.mpr (Nat.ne_of_gt I.big), prs, prs_keys (H := H) rel (fun kv hkv => by
        have hk := prs_mem hp kv hkv
        rw [upd_ne (ne_of_none hk hfr)]
        exact hk), ob, es, ep, g1, g2, g3, g4, g5⟩
    exact ⟨.ref s.heap.objs.size, _, I.laid (t' := tk) (fun b o e => kp b o (by simp) e) (Nat.le_refl _) new, rfl, q _ hfr⟩
end
section
variable {K : Fg}
theorem sub_mdel {M : Mem} {p : Addr} {xs : List D} (h : M p = some (.tupP xs)) : Sub (mdel M p) M := fun b => by
  by_cases e : b = p
  · subst e
    exact .inr ⟨if_pos rfl, by rw [h]; exact True.intro⟩
  · exact .inl (if_neg e)
theorem rf_tupP : RefR1 K (rTupP K.K) oTupP := fun x H M dx Q Q' rx m q l => by
  unfold oTupP at q
  cases e : asL M dx with
  | none => rw [e] at q; exact q.elim
  | some xs =>
    rw [e] at q
    obtain ⟨a, vs, rfl, hq, r⟩ := asL_rep m rx e
    exact ⟨a, vs, rfl, hq, fun p o hp ho => l _ _ (.ref p) _ (Fr.newM hp) rfl (m.newM (u := .tupP xs) hp ⟨vs, o, upd_same, ho, r.mono (Fr.newM hp)⟩) (q p (m.free hp))⟩
theorem refI_seqP {ta : TE} {t : DE} (h : Ref K ta t) : RefI K (DLE.iAny K.K ta) (iSeqP t) := fun σ H ρ M R R' s q l =>
  h σ H ρ M _ _ s q fun v H1 d M1 f1 r1 m1 q1 => by
    cases d with
    | ref p =>
      cases r1
      cases e : M1 p with
      | none => simp only [e] at q1
      | some o =>
        cases o with
        | tupP xs =>
          simp only [e] at q1
          obtain ⟨vs, o, hf, _, r⟩ := m1.obj p _ e
          have S := sub_mdel e
          have F : Fr H1 M1 H1 (mdel M1 p) := Fr.sub S
          have hp : mdel M1 p p = none := if_pos rfl
          exact .inr (.inl ⟨p, rfl, ⟨vs, .inl (.inr ⟨o, hf⟩)⟩, l _ H1 xs (mdel M1 p) (f1.trans F) (m1.sub S) (gives_tup (fun H' M' f => .inl (.inr ⟨o, (f _ _ hf hp).1⟩)) (r.mono F)) q1⟩)
        | _ => simp only [e] at q1
    | _ => exact q1.elim
theorem keysOf_rep {H : Hp} {M : Mem} : ∀ {ds : List D} {vs : List V} {ks : List Key}, Reps K H M ds vs → keysOf ds = some ks → vs = ks.map kV
  | [], _, ks, r, e => by
    cases e
    exact r
  | d :: ds, _, ks, ⟨v, t, ev, hr, rt⟩, e => by
    subst ev
    simp only [keysOf] at e
    cases e1 : keyOf d with
    | none => rw [e1] at e; cases e
    | some k =>
      cases e2 : keysOf ds with
      | none => rw [e1, e2] at e; cases e
      | some kk =>
        rw [e1, e2] at e
        cases e
        rw [keyOf_rep hr e1, keysOf_rep rt e2]
        rfl
theorem tup_dyn {H : Hp} {M : Mem} {a : Addr} {xs : List V} (nt : NoTup K.K) (h : TqT K H M a xs) : H a = some (.tup xs) := by
  rcases h with h | ⟨o, its, n, h1, h2, _⟩
  · exact h.1
  · exact (nt _ _ h1 h2).elim
theorem pairsT_rep {H : Hp} {M : Mem} (nt : NoTup K.K) : ∀ (xs : List D) {vs : List V} {ks : List (List Key)} {ds : List D}, Reps K H M xs vs → pairsT xs = some (ks, ds) →
    ∃ (ps : List Addr) (kvs : List (List Key × Addr × V)), vs = ps.map V.ref ∧ Prs K.K H ps kvs ∧ kvs.map (·.1) = ks ∧ Reps K H M ds (kvs.map (·.2.2))
  | [], _, ks, ds, r, e => by
    cases e
    exact ⟨[], [], r, .nil, rfl, rfl⟩
  | x :: xs, _, ks, ds, ⟨v, t, ev, hr, rt⟩, e => by
    subst ev
    unfold pairsT at e
    split at e
    · rename_i h; cases h
    · rename_i k w xs' h
      simp only [List.cons.injEq] at h
      obtain ⟨rfl, rfl⟩ := h
      cases e1 : keysOf k with
      | none => rw [e1] at e; cases e
      | some kk =>
        cases e2 : pairsT xs with
        | none => rw [e1, e2] at e; cases e
        | some z =>
          obtain ⟨kss, dss⟩ := z
          rw [e1, e2] at e
          cases e
          obtain ⟨ps, kvs, rfl, hp, hk, hd⟩ := pairsT_rep nt xs rt e2
          obtain ⟨a, us, rfl, hq, u1, r1, rfl, hu1, u2, r2, rfl, hu2, hu3⟩ := hr
          cases hu3
          obtain ⟨b, bs, rfl, hb, rb⟩ := hu1
          have hbs := keysOf_rep rb e1
          subst hbs
          exact ⟨a :: ps, (kk, b, u2) :: kvs, rfl, .cons ⟨hq.sq, tup_dyn nt hb⟩ hp, by rw [List.map_cons, hk], u2, _, rfl, hu2, hd⟩
    · cases e
theorem zip_maps (kvs : List (List Key × Addr × V)) : (kvs.map fun q => (q.1, q.2.2)) = (kvs.map (·.1)).zip (kvs.map (·.2.2)) := by
  induction kvs with
  | nil => rfl
  | cons q kvs ih => rw [List.map_cons, ih]; rfl
theorem rf_dictP (nt : NoTup K.K) : RefR1 K (rDictT K.K) oDictP := fun x H M dx Q Q' rx m q l => by
  unfold oDictP at q
  split at q
  · rename_i p
    cases rx
    split at q
    · rename_i xs e
      split at q
      · rename_i ks ds e2
        obtain ⟨⟨hn, _⟩, q⟩ := q
        obtain ⟨vs, o, hf, ho, r⟩ := m.obj p _ e
        obtain ⟨ps, kvs, rfl, hp, hk, hd⟩ := pairsT_rep nt xs r e2
        have S := sub_mdel e
        have F : Fr H M H (mdel M p) := Fr.sub S
        have m2 := m.sub S
        refine ⟨p, o, ps, kvs, rfl, hf, ho, hp, by rw [hk]; exact hn, fun c hc => ?_⟩
        rw [zip_maps, hk]
        exact l _ _ (.dT ks ds) _ (F.trans (Fr.new hc)) ⟨c, kvs.map (·.2.2), rfl, ⟨upd_same, m2.free hc, m2.nprv hc⟩, by rw [← hk, List.length_map, List.length_map], (hd.mono F).mono (Fr.new hc)⟩ (m2.new hc) q
      · exact q.elim
    · exact q.elim
  · exact q.elim
theorem valT_rep {H : Hp} {M : Mem} : ∀ (ks : List (List Key)) {ds : List D} {vs : List V} (k : List Key), Reps K H M ds vs → ks.length = vs.length →
    (valT ks ds k = none ∧ valV (ks.zip vs) k = none) ∨ ∃ d v, valT ks ds k = some d ∧ valV (ks.zip vs) k = some v ∧ Rep K H M d v
  | [], ds, vs, k, r, hl => by
    refine .inl ⟨by cases ds <;> rfl, by rw [List.zip_nil_left]; rfl⟩
  | a :: ks, [], vs, k, r, hl => by
    rw [show vs = [] from r] at hl
    cases hl
  | a :: ks, d :: ds, _, k, ⟨v, t, rfl, hr, rt⟩, hl => by
    simp only [valT, List.zip_cons_cons]
    by_cases e : a = k
    · rw [if_pos e, valV_pos e]
      exact .inr ⟨d, v, rfl, rfl, hr⟩
    · rw [if_neg e, valV_neg e]
      exact valT_rep ks k rt (by simpa using hl)
theorem ref_getT {td ty tz : TE} {dd dy dz : DE} (nt : NoTup K.K) (h1 : Ref K td dd) (h2 : Ref K ty dy) (h3 : Ref K tz dz) : Ref K (tDGet2 td ty tz) (dGetT dd dy dz) := fun σ H ρ M Q Q' s q l =>
  h1 σ H ρ M _ _ s q fun v1 H1 d1 M1 f1 r1 m1 q1 => by
    cases d1 with
    | dT ks ds =>
      obtain ⟨a, vs, rfl, ⟨ha, ma, pa⟩, hl, rs⟩ := r1
      refine ⟨a, rfl, .inr ⟨_, .inl ha⟩, ?_⟩
      refine h2 σ H1 ρ M1 _ _ (s.step f1 m1) q1 fun v2 H2 d2 M2 f2 r2 m2 q2 => ?_
      refine h3 σ H2 ρ M2 _ _ (s.step (f1.trans f2) m2) q2 fun v3 H3 d3 M3 f3 r3 m3 q3 => ?_
      have F : Fr H1 M1 H3 M3 := f2.trans f3
      cases d2 with
      | tup k =>
        cases ek : keysOf k with
        | none => simp only [ek] at q3
        | some kk =>
          simp only [ek] at q3
          obtain ⟨b, bs, rfl, hb, rb⟩ := r2.mono f3
          have hbs := keysOf_rep rb ek
          subst hbs
          refine ⟨_, DGet.t (F a _ ha ma).1 (tup_dyn nt hb), ?_⟩
          rcases valT_rep ks kk (rs.mono F) hl with ⟨e1, e2⟩ | ⟨d, v, e1, e2, rv⟩
          · rw [e1] at q3
            rw [e2]
            exact l _ H3 d3 M3 (f1.trans F) r3 m3 q3
          · rw [e1] at q3
            rw [e2]
            exact l _ H3 d M3 (f1.trans F) rv m3 q3
      | _ => exact q3.elim
    | _ => exact False.elim q1
end
section
variable {X : Cx} {pos : Pos} {k : Nat}
theorem b_tupP (K0 : PySem.W.Frag) (hK : X.K = K0 := by rfl) : B1 X (.type "tuple") (rTupP K0) oTupP := by
  subst hK
  exact ⟨call_tupP, fun P => rf_tupP⟩
theorem b_dictP (K0 : PySem.W.Frag) (nt : NoTup K0) (hc : X.calm = true) (hr : Room k X.A) (hK : X.K = K0 := by rfl) : B1 X (.type "dict") (rDictT K0) oDictP := by
  subst hK
  exact ⟨call_dictT hc (by have := hr.un; omega), fun P => rf_dictP nt⟩
theorem ri_seqP {tg e : Expr} {te : TE} {t : DE} (K0 : PySem.W.Frag) (h : RE X e te t) (hK : X.K = K0 := by rfl) : RI X tg e (DLE.iAny K0 te) (iSeqP t) := by
  subst hK
  exact ⟨DLE.pi_any h.pe, fun P => refI_seqP (K := ⟨X.K, P⟩) (h.rf P)⟩
theorem re_getT {o e f : Expr} {apos cpos : Pos} {td ty tz : TE} {dd dy dz : DE} (nt : NoTup X.K) (hr : Room k X.A) (ho : RE X o td dd) (he : RE X e ty dy) (hf : RE X f tz dz) (hbase : attributeBase o "get" X.env (eval o X.env) = eval o X.env := by rfl)
    (hfew : ((backTo cpos (starEach [e, f] X.env)).all (fun x => !x.1) && (backToKw cpos (keywordEach [] X.env)).all (fun x => x.1.isSome)
      && decide (([e, f] : List Expr).length + ([] : List Keyword).length + (if ([] : List Keyword).isEmpty then 0 else 1) < 30)) = true := by rfl)
    (hline : (apos.endLine == cpos.line) = true := by rfl) (htrees : backTo cpos (starEach [e, f] X.env) = [(false, eval e X.env), (false, eval f X.env)] := by rfl) :
    RE X (.Call (.Attribute o "get" apos) [e, f] [] cpos) (tDGet2 td ty tz) (dGetT dd dy dz) :=
  ⟨pe_dget2 (by have := hr.un; omega) ho.pe he.pe hf.pe ⟨hbase, hfew, hline, htrees⟩, fun P => ref_getT (K := ⟨X.K, P⟩) nt (ho.rf P) (he.rf P) (hf.rf P)⟩
end
end DL
/-! DLZ: zip of a tuple with a list; a list of the memory that changes no more. -/
namespace DLZ
open PySem PySem.Spec PyProof.Rows L2

abbrev zM1 (h : Heap) (l1 : Addr) : Heap := h.push { cls := .type "tuple_iterator", data := .fields #[.ref l1, .int 0 0] }
abbrev zM2 (h : Heap) (l1 l2 : Addr) : Heap := (zM1 h l1).push { cls := .type "list_iterator", data := .fields #[.ref l2, .int 0 0] }
abbrev zM3 (h : Heap) (l1 l2 : Addr) : Heap := (zM2 h l1 l2).push { cls := .type "tuple", data := .seq #[.ref h.objs.size, .ref (zM1 h l1).objs.size] }
abbrev zM4 (h : Heap) (l1 l2 : Addr) : Heap := (zM3 h l1 l2).push { cls := .type "tuple", data := .seq #[.none, .none] }
abbrev zM5 (h : Heap) (l1 l2 : Addr) : Heap := (zM4 h l1 l2).push { cls := .type "zip", data := .fields #[.none, .bool false, .bool false, .ref (zM2 h l1 l2).objs.size, .ref (zM3 h l1 l2).objs.size] }
theorem meets_zM (l1 l2 : Addr) (xs ys : Array Value) :
    Meets (Builtin.«zip.__new__» ⟨[.type "zip", .ref l1, .ref l2], []⟩) (fun _ R s => s.heap.IsTuple l1 xs ∧ s.heap.IsList l2 ys ∧
      R (.ok (.ret (.ref (zM4 s.heap l1 l2).objs.size))) { s with heap := zM5 s.heap l1 l2 }) := by
  refine .of_wp fun prog w A R s h => ?_
  obtain ⟨hp, g, d, tk, os⟩ := s
  obtain ⟨q1, q2, h⟩ := h
  have hsub := sub_zip
  have r1 : Heap.IsTuple (Shared.heap ⟨hp, g, d, tk, os⟩) l1 xs := q1
  have r2 : Heap.IsList (Shared.heap ⟨hp.push { cls := .type "tuple_iterator", data := .fields #[.ref l1, .int 0 0] }, g, d, tk, os⟩) l2 ys := q2.at fun o e => Heap.get?_push_of_some _ e
  wp_walk using wpAny_pyIter_tuple r1, wpAny_pyIter_list r2
  exact ⟨_, rfl, h⟩
theorem call_zM {prog : Program} {w : World} {A : Around} {E : Value → Shared → Prop} {s : Shared} {l1 l2 : Addr} {xs ys : Array Value} {Q : Value → Shared → Prop} (q1 : s.heap.IsTuple l1 xs) (q2 : s.heap.IsList l2 ys)
    (h : ∀ h', IsZip h' (s.heap.objs.size + 4) (s.heap.objs.size + 2) (s.heap.objs.size + 3) .none → IsPair h' (s.heap.objs.size + 2) (.ref s.heap.objs.size) (.ref (s.heap.objs.size + 1)) →
      IsPair h' (s.heap.objs.size + 3) .none .none → h'.IsTupleIter s.heap.objs.size l1 0 → h'.IsListIter (s.heap.objs.size + 1) l2 0 →
      (∀ c o, s.heap.get? c = some o → h'.get? c = some o) → Q (.ref (s.heap.objs.size + 4)) { s with heap := h' }) :
    wpAny (model prog w) A (call (.type "zip") [.ref l1, .ref l2]) Q E s := by
  refine callType_new F.called_zip (by decide) (F.typeCall_zip_2 _ _) (F.newCall_zip_2 _ _) (fun obj => F.args_object_init_3 obj _ _) F.entry_zip_new (meets_zM l1 l2 xs ys) ⟨q1, q2, ?_⟩
  have z1 : (zM1 s.heap l1).objs.size = s.heap.objs.size + 1 := Heap.size_push ..
  have z2 : (zM2 s.heap l1 l2).objs.size = s.heap.objs.size + 2 := by rw [Heap.size_push, z1]
  have z3 : (zM3 s.heap l1 l2).objs.size = s.heap.objs.size + 3 := by rw [Heap.size_push, z2]
  have z4 : (zM4 s.heap l1 l2).objs.size = s.heap.objs.size + 4 := by rw [Heap.size_push, z3]
  have up1 : ∀ {h : Heap} {o : Obj} {c : Addr} {u : Obj}, h.get? c = some u → (h.push o).get? c = some u := fun e => Heap.get?_push_of_some _ e
  have g5 : (zM5 s.heap l1 l2).get? (zM4 s.heap l1 l2).objs.size = some _ := Heap.get?_push_size _ rfl
  have g4 : (zM5 s.heap l1 l2).get? (zM3 s.heap l1 l2).objs.size = some _ := up1 (Heap.get?_push_size _ rfl)
  have g3 : (zM5 s.heap l1 l2).get? (zM2 s.heap l1 l2).objs.size = some _ := up1 (up1 (Heap.get?_push_size _ rfl))
  have g2 : (zM5 s.heap l1 l2).get? (zM1 s.heap l1).objs.size = some _ := up1 (up1 (up1 (Heap.get?_push_size _ rfl)))
  have g1 : (zM5 s.heap l1 l2).get? s.heap.objs.size = some _ := up1 (up1 (up1 (up1 (Heap.get?_push_size _ rfl))))
  show _ ∧ _
  rw [z2, z3, z4] at g5
  rw [z1, z2] at g3
  rw [z3] at g4
  rw [z1] at g2
  rw [z4]
  exact ⟨⟨_, g5, rfl⟩, h _ g5 g3 g4 ⟨_, g1, rfl, rfl⟩ ⟨_, g2, rfl, rfl⟩ fun c o x => up1 (up1 (up1 (up1 (up1 x))))⟩

/-- the tuple at a and the list at b, as they stand at each turn -/
def ItzM (K : PySem.W.Frag) (a b : Addr) : It where
  go := fun i H => ∃ (xs ys : List V) (x y : V), (SqT K H a xs ∧ SqL K H b ys) ∧ xs[i]? = some x ∧ ys[i]? = some y
  yld := fun i H v H' => ∃ T x y, (v = .ref T ∧ H T = none ∧ H' = upd H T (.tup [x, y])) ∧ (∀ xs, SqT K H a xs → xs[i]? = some x) ∧ ∀ ys, SqL K H b ys → ys[i]? = some y
  stop := fun i H => ∃ xs ys : List V, (SqT K H a xs ∧ SqL K H b ys) ∧ i ≤ xs.length ∧ i ≤ ys.length ∧ (i = xs.length ∨ i = ys.length)
theorem sep_of {n a b : Nat} (h1 : a < n) (h2 : b < n) : ZipSep2 (n + 4) (n + 2) (n + 3) n (n + 1) [n, a] [n + 1, b] := by
  have no : ∀ {x y z : Nat}, x ≠ y → x ≠ z → x ∉ [y, z] := fun h1 h2 h => by
    rcases List.mem_cons.mp h with e | e
    · exact h1 e
    · exact h2 (List.mem_singleton.mp e)
  exact { TIz := by show n + 2 ≠ n + 4; omega, TOz := by show n + 3 ≠ n + 4; omega, TITO := by show n + 2 ≠ n + 3; omega, TIi1 := by show n + 2 ≠ n; omega, mem1 := by simp, zf1 := no (by omega) (by omega), Tf1 := no (by omega) (by omega),
          TIi2 := by show n + 2 ≠ n + 1; omega, mem2 := by simp, zf2 := no (by omega) (by omega), Tf2 := no (by omega) (by omega), sep1_2 := no (by omega) (by omega), sep2_1 := no (by omega) (by omega) }
abbrev StM (n a b : Addr) (i : Nat) (h : Heap) : Prop := IsZip h (n + 4) (n + 2) (n + 3) .none ∧ IsPair h (n + 2) (.ref n) (.ref (n + 1)) ∧ (∃ x y, IsPair h (n + 3) x y) ∧ h.IsTupleIter n a i ∧ h.IsListIter (n + 1) b i
theorem turn_zM {P : Program} {w : World} {K : PySem.W.Frag} {elts : List Expr} {kk : Nat} {tpos : Pos} {a b n : Nat} (la : a < n) (lb : b < n) :
    Turn P w K (.Tuple elts kk tpos) (ItzM K a b) [n + 4, n + 2, n + 3, n, n + 1] (n + 4) (StM n a b) := by
  have S := sep_of la lb
  have na : a ≠ n := by omega
  have nb : b ≠ n + 1 := by omega
  have five : ∀ {c : Nat}, c ∈ [n + 4, n + 2, n + 3, n, n + 1] → c = n + 4 ∨ c = n + 2 ∨ c = n + 3 ∨ c = n ∨ c = n + 1 := fun h => by simpa using h
  constructor
  case mem => simp
  case obj =>
    intro i h st c hc
    obtain ⟨hz, hTI, ⟨x, y, hTO⟩, ⟨o1, e1, _, d1⟩, ⟨o2, e2, _, d2⟩⟩ := st
    rcases five hc with q | q | q | q | q <;> subst q
    · exact ⟨_, hz, fun v q => nomatch q⟩
    · exact ⟨_, hTI, fun v q => nomatch q⟩
    · exact ⟨_, hTO, fun v q => nomatch q⟩
    · exact ⟨o1, e1, fun v q => by rw [d1] at q; cases q⟩
    · exact ⟨o2, e2, fun v q => by rw [d2] at q; cases q⟩
  case keep =>
    intro i h h' st k
    obtain ⟨hz, hTI, ⟨x, y, hTO⟩, h1, h2⟩ := st
    refine ⟨k _ (by simp) _ hz, k _ (by simp) _ hTI, ⟨x, y, k _ (by simp) _ hTO⟩, h1.at fun o q => k _ (by simp) o q, h2.at fun o q => k _ (by simp) o q⟩
  case item =>
    intro X hP hw hK hc i pins s σ H E I hf st hg
    subst hP hw hK
    obtain ⟨hz, hTI, ⟨x0, y0, hTO⟩, h1, h2⟩ := st
    obtain ⟨xs, ys, x, y, ⟨hqx, hqy⟩, hx, hy⟩ := hg
    obtain ⟨its, rv, p, _⟩ := I.tuple hqx
    obtain ⟨its2, rv2, p2, _⟩ := I.list hqy
    obtain ⟨u, hu, ru⟩ := rv.get hx
    obtain ⟨u2, hu2, ru2⟩ := rv2.get hy
    have hh := I.ok.hd hc
    have D1 := Draws.tuple (prog := X.prog) (w := X.w) (A := X.A.in1) hh n a na its.toArray
    have D2 := Draws.list (prog := X.prog) (w := X.w) (A := X.A.in1) hh (n + 1) b nb its2.toArray
    have i1 : i < its.length := (List.getElem?_eq_some_iff.mp hu).1
    have i2 : i < its2.length := (List.getElem?_eq_some_iff.mp hu2).1
    have hzl : n + 4 < s.heap.objs.size := Heap.lt_size hz
    refine wpAny_pyNext_zipD2_item S D1 D2 hz hTI hTO ⟨h1, p⟩ ⟨h2, p2.isList⟩ (by simpa using i1) (by simpa using i2) fun v1 v2 h' tk y1 y2 b1 b2 d1 d2 b5 b6 hk => ?_
    have ev1 : v1 = u := by
      have := y1.symm.trans (by simpa using hu)
      exact Option.some.inj this
    have ev2 : v2 = u2 := by
      have := y2.symm.trans (by simpa using hu2)
      exact Option.some.inj this
    subst ev1 ev2
    refine ⟨_, rfl, wpAny_letOwnedTupleGo_zip (s := { s with heap := h', toks := tk }) b1 fun h'' z'' sb => ?_⟩
    have hT2 : h''.get? s.heap.objs.size = some { cls := .type "tuple", data := .seq #[v1, v2] } := (sb.2 _ (Nat.ne_of_gt hzl)).trans b5
    have new : ObjOk X.prog X.w (upd H s.heap.objs.size (.tup [x, y])) h'' s.heap.objs.size (.tup [x, y]) :=
      ⟨by show 2 ≤ sizeLine; decide, [v1, v2], .cons ru (.cons ru2 .nil), ⟨_, hT2, rfl, _, rfl⟩⟩
    have I1 : Inv X pins σ (upd H s.heap.objs.size (.tup [x, y])) { s with heap := h'', toks := tk } :=
      I.turnedNew (t' := tk) (ch := [n + 4, n + 2, n + 3, n, n + 1]) (fun c o hb q => (sb.2 c (fun q' => hb (by simp [q']))).trans (hk c o (fun q' => hb (by simp [q'])) (fun q' => hb (by simp [q'])) (fun q' => hb (by simp [q'])) (fun q' => hb (by simp [q'])) q)) hf (Nat.le_refl _) new
    refine ⟨.ref s.heap.objs.size, _, I1, rfl, ⟨_, x, y, ⟨rfl, I.hok.fresh (Nat.le_refl _), rfl⟩, fun l hl => by rw [I.tuple_inj hl hqx]; exact hx, fun l hl => by rw [I.list_inj hl hqy]; exact hy⟩, ⟨z'', ?_, ⟨v1, v2, ?_⟩, ?_, ?_⟩, fun (c : Nat) hcm => ?_⟩
    · exact (sb.2 _ S.TIz).trans (hk _ _ S.TIz S.TITO S.TIi1 S.TIi2 hTI)
    · exact (sb.2 _ S.TOz).trans b2
    · exact d1.1.at fun o q => (sb.2 _ (Ne.symm S.zi1)).trans q
    · exact d2.1.at fun o q => (sb.2 _ (Ne.symm S.zi2)).trans q
    · have hlt : c < s.heap.objs.size := by
        have hcm' := five hcm
        omega
      rw [upd_ne (Nat.ne_of_lt hlt)]
      exact (hf c hcm).1
  case done =>
    intro X hP hw hK hc i pins s σ H E I hf st hg
    subst hP hw hK
    obtain ⟨hz, hTI, ⟨x0, y0, hTO⟩, h1, h2⟩ := st
    obtain ⟨xs, ys, ⟨hqx, hqy⟩, l1, l2, hend⟩ := hg
    obtain ⟨its, rv, p, _⟩ := I.tuple hqx
    obtain ⟨its2, rv2, p2, _⟩ := I.list hqy
    have hh := I.ok.hd hc
    have D1 := Draws.tuple (prog := X.prog) (w := X.w) (A := X.A.in1) hh n a na its.toArray
    have D2 := Draws.list (prog := X.prog) (w := X.w) (A := X.A.in1) hh (n + 1) b nb its2.toArray
    have e1 := rv.length
    have e2 := rv2.length
    refine wpAny_pyNext_zipD2_end S D1 D2 hz hTI hTO ⟨h1, p⟩ ⟨h2, p2.isList⟩ (by simp; omega) (by simp; omega) (by simp; omega) fun h' tk hk => ⟨rfl, I.turnedL (t' := tk) (ch := [n + 4, n + 2, n + 3, n, n + 1]) (fun c o hb q =>
      hk c o (fun q' => hb (by simp [q'])) (fun q' => hb (by simp [q'])) (fun q' => hb (by simp [q'])) (fun q' => hb (by simp [q'])) q) hf⟩
  case self => exact fun A i s Q E st h => wpAny_pyIter_zip st.1 h

def iZipM (K : PySem.W.Frag) (ta : TA) : TI := fun σ H R => ta σ H fun vs H1 => ∃ a b xs ys, vs = [.ref a, .ref b] ∧ (SqT K H1 a xs ∧ SqL K H1 b ys) ∧ R (ItzM K a b) H1
theorem pi_zM {X : Cx} {e e2 : Expr} {ta : TA} {p pos tpos : Pos} {elts : List Expr} {kk : Nat} (hg : Gl X "zip") (hm : X.mg "zip" = none) (ha : PA X [e, e2] ta)
    (hs : starEach [e, e2] X.env = (false, eval e X.env) :: starEach [e2] X.env := by rfl) (hpl : (backTo pos (starEach [e2] X.env)).any (·.1) = false := by rfl) :
    PI X (.Tuple elts kk tpos) (.Call (.Name "zip" p) [e, e2] [] pos) (iZipM X.K ta) := by
  constructor
  intro pins s σ H R I h
  refine Call_ (ld_blt I hg hm PyProof.Rows.boot_zip (PyProof.Rows.callWith_type1 (thn (ha.run pos pins s σ H _ I h) fun us s1 z => ?_) hs hpl))
  obtain ⟨vs, H1, I1, r1, a, b, xs, ys, ex, ⟨hqx, hqy⟩, q⟩ := z
  subst ex
  rcases r1 with _ | ⟨r, rr⟩
  rcases rr with _ | ⟨r', rr⟩
  cases rr
  cases r
  cases r'
  obtain ⟨its, rv, p1, _⟩ := I1.tuple hqx
  obtain ⟨its2, rv2, p2, _⟩ := I1.list hqy
  have la : a < s1.heap.objs.size := by
    obtain ⟨o1, ho1, _⟩ := id p1
    exact Heap.lt_size ho1
  refine call_zM (show s1.heap.IsTuple a its.toArray from p1) p2.isList fun h' hz hTI hTO h1 h2 hk => wpAny_pyIter_zip hz ?_
  have I2 : Inv X pins σ H1 { s1 with heap := h' } := I1.kept (t' := s1.toks) hk
  refine ⟨s1.heap.objs.size + 4, [s1.heap.objs.size + 4, s1.heap.objs.size + 2, s1.heap.objs.size + 3, s1.heap.objs.size, s1.heap.objs.size + 1], _, _, H1, rfl, I2, turn_zM (n := s1.heap.objs.size) la p2.lt, ⟨hz, hTI, ⟨_, _, hTO⟩, h1, h2⟩, fun c hcm => ?_, q⟩
  have hle : s1.heap.objs.size ≤ c := by
    simp only [List.mem_cons, List.not_mem_nil, or_false] at hcm
    rcases hcm with z | z | z | z | z <;> rw [z] <;> omega
  exact I1.fpOk hle (I1.hok.fresh hle)
end DLZ

namespace DL
open PySem PySem.Spec PyProof.Rows L2
section
variable {K : Fg} {H : Hp} {M : Mem}
theorem gives_zM {a b : Addr} {vs ws : List V} {ds es : List D} (sq : ∀ H' M', Fr H M H' M' → SqT K.K H' a vs) (sq2 : ∀ H' M', Fr H M H' M' → SqL K.K H' b ws) (r : Reps K H M ds vs) (r2 : Reps K H M es ws) : Gives K (DLZ.ItzM K.K a b) (zipD ds es) H M where
  go := fun i H' M' f hi => by
    rw [zipD_length, r.length, r2.length] at hi
    exact ⟨vs, ws, vs[i]'(by omega), ws[i]'(by omega), ⟨sq H' M' f, sq2 H' M' f⟩, by simp, by simp⟩
  stop := fun H' M' f => ⟨vs, ws, ⟨sq H' M' f, sq2 H' M' f⟩, by rw [zipD_length, r.length, r2.length]; omega⟩
  yld := fun P' hP i H' M' x H2 f m y d e => by
    obtain ⟨T, z, z2, ⟨rfl, hT, e2⟩, y1, y2⟩ := y
    obtain ⟨u, u2, h1, h2, rfl⟩ := zipD_get ds es i d e
    obtain ⟨v, hv, rv⟩ := r.get h1
    obtain ⟨v2, hv2, rv2⟩ := r2.get h2
    have q1 := y1 vs (sq _ M' f)
    have q2 := y2 ws (sq2 _ M' f)
    rw [hv] at q1
    rw [hv2] at q2
    cases q1
    cases q2
    exact pair_new m hT ((rv.hides hP).mono f) ((rv2.hides hP).mono f) e2
end
theorem refI_zM {K : Fg} {ta tb : TE} {t u : DE} (h : Ref K ta t) (h' : Ref K tb u) : RefI K (DLZ.iZipM K.K (tCons ta (tCons tb tNil))) (iZipX t u) := fun σ H ρ M R R' s q l =>
  h σ H ρ M _ _ s q fun v H1 d M1 f1 r1 m1 q1 => h' σ H1 ρ M1 _ _ (s.step f1 m1) q1 fun v2 H2 d2 M2 f2 r2 m2 q2 => by
    have r1 := r1.mono f2
    cases d with
    | tup xs =>
      cases d2 with
      | lst ys =>
        obtain ⟨a, vs, rfl, h, r⟩ := r1
        obtain ⟨b, ws, rfl, h', r'⟩ := r2
        exact ⟨a, b, vs, ws, rfl, ⟨h.sq, .of h'.1⟩, l _ H2 _ M2 (f1.trans f2) m2 (gives_zM (tup_sq h) (lst_sq h') r r') q2⟩
      | _ => exact q2.elim
    | _ => exact q2.elim
theorem ri_zM {X : Cx} {a b : Expr} {ta tb : TE} {t u : DE} {p pos : Pos} {elts : List Expr} {kk : Nat} {tpos : Pos} (K0 : PySem.W.Frag) (hg : Gl X "zip") (hm : X.mg "zip" = none) (h : RE X a ta t) (h2 : RE X b tb u) (hs : starEach [a, b] X.env = (false, eval a X.env) :: starEach [b] X.env := by rfl) (hs2 : starEach [b] X.env = (false, eval b X.env) :: starEach [] X.env := by rfl) (hpl : (backTo pos (starEach [b] X.env)).any (·.1) = false := by rfl) (hK : X.K = K0 := by rfl) :
    RI X (.Tuple elts kk tpos) (.Call (.Name "zip" p) [a, b] [] pos) (DLZ.iZipM K0 (tCons ta (tCons tb tNil))) (iZipX t u) := by
  subst hK
  exact ⟨DLZ.pi_zM hg hm (pa_cons h.pe (pa_cons h2.pe pa_nil hs2) hs) hs hpl, fun P => refI_zM (K := ⟨X.K, P⟩) (h.rf P) (h2.rf P)⟩

/-! ### a list of the memory that changes no more -/
theorem mdel_ne {M : Mem} {a p : Addr} (h : a ≠ p) : mdel M p a = M a := if_neg h
theorem mdel_same (M : Mem) (p : Addr) : mdel M p p = none := if_pos rfl
theorem Fr.del (H : Hp) (M : Mem) (p : Addr) : Fr H M H (mdel M p) := fun a o h m => ⟨h, by
  by_cases e : a = p
  · rw [e, mdel_same]
  · rw [mdel_ne e]; exact m⟩
theorem MRep.del {K : Fg} {H : Hp} {M : Mem} {p : Addr} {xs : List D} (m : MRep K H M) (h : M p = some (.lst xs)) : MRep K H (mdel M p) := by
  refine ⟨fun a o e => ?_, m.prv_step (Fr.del H M p)⟩
  have ne : a ≠ p := fun z => by rw [z, mdel_same] at e; cases e
  rw [mdel_ne ne] at e
  exact ORep.keep m (m.obj a o e) e (Fr.del H M p) p ne (fun c z => by rw [h] at z; cases z) (fun _ _ _ q => q) fun x hx => mdel_ne hx
theorem refS_fz {K : Fg} {ts : TS} {t : DS} (i : Nat) (h : RefS K ts t) : RefS K ts (sFz i t) := fun σ H ρ M E E' s q l => by
  unfold sFz at q
  split at q
  · rename_i p e
    split at q
    · rename_i xs hp
      have f := Fr.del H M p
      have m := s.mem.del hp
      obtain ⟨vs, hv, rv⟩ := s.mem.obj p _ hp
      have np : ¬ K.P p := fun z => by
        have := (s.mem.prv p z).2
        rw [hp] at this; cases this
      refine h σ H _ _ E E' ⟨by rw [List.length_set]; exact s.len, fun j d ej => ?_, m⟩ q (l.later f)
      by_cases c : i = j
      · subst c
        have li : i < ρ.length := (List.getElem?_eq_some_iff.mp e).1
        rw [List.getElem?_set_self li] at ej
        cases ej
        obtain ⟨v, h1, h2⟩ := s.env i _ e
        exact ⟨v, h1, p, vs, h2, ⟨hv, mdel_same M p, np⟩, rv.mono f⟩
      · rw [List.getElem?_set_ne c] at ej
        obtain ⟨v, h1, h2⟩ := s.env j d ej
        exact ⟨v, h1, h2.mono f⟩
    · exact q.elim
  · exact q.elim
theorem rs_fz {X : Cx} {st : Stmt} {ts : TS} {t : DS} (i : Nat) (h : RS X st ts t) : RS X st ts (sFz i t) := ⟨h.ps, fun P => refS_fz i (h.rf P)⟩
end DL
/-! DLI: instances of own classes. -/
namespace DL
open PySem PySem.Spec PyProof.Rows L2
/-- a class whose instances are plain, and a field that the class has not -/
def ClsF (K : PySem.W.Frag) (C f : Str) : Prop := Cls K (He.ga K C) ∧ NoAttr K (He.ga K C) f
def ClsFs (K : PySem.W.Frag) (cs : List Str) (f : Str) : Prop := ∀ C ∈ cs, ClsF K C f
theorem cf_nil {K : PySem.W.Frag} {f : Str} : ClsFs K [] f := fun _ h => by cases h
theorem cf_cons {K : PySem.W.Frag} {C f : Str} {cs : List Str} (h : ClsF K C f) (r : ClsFs K cs f) : ClsFs K (C :: cs) f := fun D hD => by
  rcases List.mem_cons.mp hD with e | e
  · rw [e]; exact h
  · exact r D e
section
variable {K : Fg} {H : Hp} {M : Mem}
theorem asI_rep {d : D} {v : V} {C : Str} {ns : List Str} {ds : List D} (m : MRep K H M) (r : Rep K H M d v) (e : asI M d = some (C, ns, ds)) : ∃ a dx vs, v = .ref a ∧ H a = some (.ins (He.ga K.K C) dx (ns.zip vs)) ∧ ns.length = vs.length ∧ Reps K H M ds vs := by
  cases d with
  | ins b C' ns' ds' =>
    obtain ⟨a, dx, vs, rfl, h, z, q⟩ := r
    simp only [asI, Option.some.injEq, Prod.mk.injEq] at e
    obtain ⟨rfl, rfl, rfl⟩ := e
    exact ⟨a, dx, vs, rfl, h.1, z.1, q⟩
  | ref a =>
    cases r
    simp only [asI] at e
    cases em : M a with
    | none => rw [em] at e; cases e
    | some o =>
      rw [em] at e
      cases o with
      | ins C' ns' ds' =>
        simp only [Option.some.injEq, Prod.mk.injEq] at e
        obtain ⟨rfl, rfl, rfl⟩ := e
        obtain ⟨dx, vs, h, z, q⟩ := m.obj a _ em
        exact ⟨a, dx, vs, rfl, h, z, q⟩
      | _ => cases e
  | _ => cases e
theorem fldD_rep : ∀ {ns : List Str} {ds : List D} {vs : List V} {f : Str} {d : D}, Reps K H M ds vs → ns.length = vs.length → fldD ns ds f = some d → ∃ v, (ns.zip vs).lookup f = some v ∧ Rep K H M d v
  | [], ds, vs, f, d, r, hl, e => by cases ds <;> cases e
  | n :: ns, [], vs, f, d, r, hl, e => by cases e
  | n :: ns, d0 :: ds, _, f, d, ⟨v, t, rfl, hr, rt⟩, hl, e => by
    simp only [fldD] at e
    simp only [List.zip_cons_cons, List.lookup]
    by_cases c : n = f
    · rw [if_pos c] at e
      cases e
      have : (f == n) = true := beq_iff_eq.mpr c.symm
      rw [this]
      exact ⟨v, rfl, hr⟩
    · rw [if_neg c] at e
      have : (f == n) = false := beq_eq_false_iff_ne.mpr fun z => c z.symm
      rw [this]
      exact fldD_rep rt (by simpa using hl) e
theorem fldD_none : ∀ {ns : List Str} {ds : List D} {vs : List V} {f : Str}, Reps K H M ds vs → ns.length = vs.length → fldD ns ds f = none → (ns.zip vs).lookup f = none
  | [], ds, vs, f, r, hl, e => by rw [List.zip_nil_left]; rfl
  | n :: ns, [], vs, f, r, hl, e => by
    rw [show vs = [] from r] at hl
    cases hl
  | n :: ns, d0 :: ds, _, f, ⟨v, t, rfl, hr, rt⟩, hl, e => by
    simp only [fldD] at e
    simp only [List.zip_cons_cons, List.lookup]
    by_cases c : n = f
    · rw [if_pos c] at e
      cases e
    · rw [if_neg c] at e
      have : (f == n) = false := beq_eq_false_iff_ne.mpr fun z => c z.symm
      rw [this]
      exact fldD_none rt (by simpa using hl) e
theorem putF_zip : ∀ (ns : List Str) (vs : List V) (f : Str) (w : V), ns.length = vs.length → putF f w (ns.zip vs) = (putN ns f).zip (putW ns vs f w)
  | [], vs, f, w, h => by
    rw [List.zip_nil_left]
    rfl
  | n :: ns, [], f, w, h => by cases h
  | n :: ns, v :: vs, f, w, h => by
    simp only [List.zip_cons_cons, putF, putN, putW]
    split
    · rfl
    · rw [putF_zip ns vs f w (by simpa using h)]; rfl
theorem putNW_len {α : Type} : ∀ (ns : List Str) (vs : List α) (f : Str) (w : α), ns.length = vs.length → (putN ns f).length = (putW ns vs f w).length
  | [], [], f, w, h => rfl
  | [], _ :: _, f, w, h => by cases h
  | n :: ns, [], f, w, h => by cases h
  | n :: ns, v :: vs, f, w, h => by
    simp only [putN, putW]
    split
    · simpa using h
    · simp [putNW_len ns vs f w (by simpa using h)]
theorem putW_reps : ∀ {ns : List Str} {ds : List D} {vs : List V} {f : Str} {y : D} {w : V}, Reps K H M ds vs → ns.length = vs.length → Rep K H M y w → Reps K H M (putW ns ds f y) (putW ns vs f w)
  | [], ds, vs, f, y, w, r, hl, ry => by
    have : vs = [] := List.eq_nil_of_length_eq_zero hl.symm
    subst this
    exact ⟨w, [], rfl, ry, rfl⟩
  | n :: ns, [], vs, f, y, w, r, hl, ry => by
    rw [show vs = [] from r] at hl
    cases hl
  | n :: ns, d0 :: ds, _, f, y, w, ⟨v, t, rfl, hr, rt⟩, hl, ry => by
    simp only [putW]
    split
    · exact ⟨w, t, rfl, ry, rt⟩
    · exact ⟨v, _, rfl, hr, putW_reps rt (by simpa using hl) ry⟩
end
section
variable {K : Fg} {te to tv : TE} {t u : DE} {cs : List Str} {f : Str}
theorem ref_fld (hc : ClsFs K.K cs f) (h : Ref K te t) : Ref K (tFld K.K te f) (dUn (oFld cs f) t) := fun σ H ρ M Q Q' s q l =>
  h σ H ρ M _ _ s q fun v H1 d M1 f1 r1 m1 q1 => by
    unfold oFld at q1
    cases e : asI M1 d with
    | none => rw [e] at q1; exact q1.elim
    | some z =>
      obtain ⟨C, ns, ds⟩ := z
      rw [e] at q1
      obtain ⟨hC, q1⟩ := q1
      obtain ⟨a, dx, vs, rfl, ha, hl, rs⟩ := asI_rep m1 r1 e
      cases e2 : fldD ns ds f with
      | none => rw [e2] at q1; exact q1.elim
      | some x =>
        rw [e2] at q1
        obtain ⟨w, hw, rw'⟩ := fldD_rep rs hl e2
        exact ⟨a, _, dx, _, w, rfl, ha, (hc C hC).1, (hc C hC).2, hw, l _ _ x _ f1 rw' m1 q1⟩
theorem ins_write {H : Hp} {M : Mem} {a dx : Addr} {C : Str} {ns ns' : List Str} {ds ds' : List D} {vs' : List V} (m : MRep K H M) (h : M a = some (.ins C ns ds)) (r : Reps K H M ds' vs') (hl : ns'.length = vs'.length) : MRep K (upd H a (.ins (He.ga K.K C) dx (ns'.zip vs'))) (mset M a (.ins C ns' ds')) :=
  m.write h (fun _ z => nomatch z) ⟨dx, vs', upd_same, hl, r.mono (Fr.write h)⟩
theorem refS_putF (hc : ClsFs K.K cs f) (h1 : Ref K to t) (h2 : Ref K tv u) : RefS K (sFld K.K to tv f) (sPutF cs f t u) := fun σ H ρ M E E' s q l =>
  h2 σ H ρ M _ _ s q fun y H1 dy M1 f1 ry m1 q1 => h1 σ H1 ρ M1 _ _ (s.step f1 m1) q1 fun x H2 d M2 f2 rx m2 q2 => by
    cases d with
    | ref a =>
      cases rx
      cases e : M2 a with
      | none => simp only [e] at q2
      | some o =>
        cases o with
        | ins C ns ds =>
          simp only [e] at q2
          obtain ⟨hC, hn, q2⟩ := q2
          obtain ⟨dx, vs, ha, hl, rs⟩ := m2.obj a _ e
          refine ⟨a, _, dx, _, rfl, ha, (hc C hC).1, (hc C hC).2, ?_, ?_⟩
          · rw [List.length_zip]; omega
          · rw [putF_zip ns vs f y hl]
            have fw : Fr H2 M2 (upd H2 a (.ins (He.ga K.K C) dx ((putN ns f).zip (putW ns vs f y)))) (mset M2 a (.ins C (putN ns f) (putW ns ds f dy))) := Fr.write e
            have m3 := ins_write (dx := dx) m2 e (putW_reps (f := f) rs hl (ry.mono f2)) (putNW_len ns vs f y hl)
            exact l.nx _ _ _ _ ((f1.trans f2).trans fw) (s.step ((f1.trans f2).trans fw) m3) q2
        | _ => simp only [e] at q2
    | _ => exact q2.elim
theorem refS_augF (hc : ClsFs K.K cs f) (h1 : Ref K to t) (h2 : Ref K tv u) : RefS K (sFldAug K.K to tv rAdd f) (sAugF cs f t u) := fun σ H ρ M E E' s q l =>
  h1 σ H ρ M _ _ s q fun x H1 d M1 f1 rx m1 q1 => by
    cases d with
    | ref a =>
      cases rx
      cases e : M1 a with
      | none => simp only [e] at q1
      | some o =>
        cases o with
        | ins C ns ds =>
          simp only [e] at q1
          obtain ⟨hC, q1⟩ := q1
          obtain ⟨dx, vs, ha, hl, rs⟩ := m1.obj a _ e
          cases e2 : fldD ns ds f with
          | none => simp only [e2] at q1
          | some x =>
            cases x with
            | int i =>
              simp only [e2] at q1
              obtain ⟨w, hw, rw'⟩ := fldD_rep rs hl e2
              cases rw'
              refine ⟨a, _, dx, _, .int i, rfl, ha, (hc C hC).1, (hc C hC).2, hw, h2 σ H1 ρ M1 _ _ (s.step f1 m1) q1 fun y H2 dy M2 f2 ry m2 q2 => ?_⟩
              cases dy with
              | int j =>
                cases ry
                refine ⟨i, j, rfl, rfl, ?_⟩
                cases e3 : M2 a with
                | none => simp only [e3] at q2
                | some o2 =>
                  cases o2 with
                  | ins C' ns' ds' =>
                    simp only [e3] at q2
                    obtain ⟨rfl, hn, q2⟩ := q2
                    obtain ⟨dx', vs', ha', hl', rs'⟩ := m2.obj a _ e3
                    refine ⟨dx', _, ha', by rw [List.length_zip]; omega, ?_⟩
                    rw [putF_zip ns' vs' f _ hl']
                    have fw : Fr H2 M2 (upd H2 a (.ins (He.ga K.K C') dx' ((putN ns' f).zip (putW ns' vs' f (.int (i + j)))))) (mset M2 a (.ins C' (putN ns' f) (putW ns' ds' f (.int (i + j))))) := Fr.write e3
                    have m3 := ins_write (dx := dx') m2 e3 (putW_reps (f := f) (y := .int (i + j)) (w := .int (i + j)) rs' hl' rfl) (putNW_len ns' vs' f _ hl')
                    exact l.nx _ _ _ _ ((f1.trans f2).trans fw) (s.step ((f1.trans f2).trans fw) m3) q2
                  | _ => simp only [e3] at q2
              | _ => exact q2.elim
            | _ => simp only [e2] at q1
        | _ => simp only [e] at q1
    | _ => exact q1.elim
theorem ref_methI {n : Nat} {C m : Str} {sp : Spec} {tA : TA} {dA' : DA} (h1 : Ref K to t) (h : RefA K n tA dA') : Ref K (tMeth (He.ga K.K C) m (toSp K.K (n + 1) sp) [] E0 to tA) (dMethI C m sp t dA') := fun σ H ρ M Q Q' s q l =>
  h1 σ H ρ M _ _ s q fun v H1 d M1 f1 r1 m1 q1 => by
    obtain ⟨⟨ns, ds, e, hm⟩, q1⟩ := q1
    obtain ⟨a, dx, vs, rfl, ha, hl, rs⟩ := asI_rep m1 r1 e
    refine ⟨a, dx, _, rfl, ha, fldD_none rs hl hm, h σ H1 ρ M1 _ _ (s.step f1 m1) q1 fun ws H2 es M2 f2 r2 n2 m2 q2 => ?_⟩
    rw [List.append_nil]
    exact ⟨K.P, d :: es, M2, ⟨_, _, rfl, r1.mono f2, r2⟩, by rw [List.length_cons, n2], m2, q2.1, fun x M' hp v' H' f r m => l v' H' x M' ((f1.trans f2).trans f) r m (q2.2 x M' hp)⟩
theorem made_rep {H1 : Hp} {M1 : Mem} {x dx : Addr} {C : Str} (m : MRep K H1 M1) (hx : H1 x = none) (hd : H1 dx = none) (hne : dx ≠ x) : Fr H1 M1 (upd (upd H1 dx (.own x)) x (.ins (He.ga K.K C) dx [])) (mset M1 x (.ins C [] [])) ∧ MRep K (upd (upd H1 dx (.own x)) x (.ins (He.ga K.K C) dx [])) (mset M1 x (.ins C [] [])) := by
  have f1 : Fr H1 M1 (upd H1 dx (.own x)) M1 := Fr.new hd
  have m1 : MRep K (upd H1 dx (.own x)) M1 := m.new hd
  have hx' : upd H1 dx (.own x) x = none := by rw [upd_ne (Ne.symm hne)]; exact hx
  exact ⟨f1.trans (Fr.newM hx'), m1.newM hx' ⟨dx, [], upd_same, rfl, rfl⟩⟩
theorem ref_make {n : Nat} {C : Str} {sp : Spec} {tA : TA} {dA' : DA} (hp : ∀ ds M d M', sp.post ds M d M' → d = .non) (h : RefA K n tA dA') : Ref K (tMake (He.ga K.K C) (toSp K.K (n + 1) sp) [] E0 tA) (dMake C sp dA') := fun σ H ρ M Q Q' s q l =>
  h σ H ρ M _ _ s q fun vs H1 ds M1 f1 r1 n1 m1 q1 => fun x dx hx hd hne => by
    obtain ⟨fm, mm⟩ := made_rep (C := C) m1 hx hd hne
    have q2 := q1 x (m1.free hx)
    rw [List.append_nil]
    refine ⟨K.P, .ref x :: ds, _, ⟨_, _, rfl, rfl, r1.mono fm⟩, by rw [List.length_cons, n1], mm, q2.1, fun d M' hpost v H' f r m => ?_⟩
    have e := hp _ _ _ _ hpost
    subst e
    exact ⟨r, l _ _ (.ref x) _ ((f1.trans fm).trans f) rfl m (q2.2 _ M' hpost)⟩
/-- a promise of __init__ that tells the instance -/
def toSpI (K : PySem.W.Frag) (n : Nat) (sp : Spec) : Sp := fun vs H Q _ => ∃ (P : Addr → Prop) (ds : List D) (M : Mem), Reps ⟨K, P⟩ H M ds vs ∧ ds.length = n ∧ MRep ⟨K, P⟩ H M ∧ sp.pre ds M ∧
  ∀ d M', sp.post ds M d M' → ∀ x r H', vs = x :: r → Fr H M H' M' → Rep ⟨K, P⟩ H' M' d x → MRep ⟨K, P⟩ H' M' → Q .non H'
theorem ref_makeF {n : Nat} {C : Str} {sp : Spec} {tA : TA} {dA' : DA} (h : RefA K n tA dA') : Ref K (tMake (He.ga K.K C) (toSpI K.K (n + 1) sp) [] E0 tA) (dMakeF C sp dA') := fun σ H ρ M Q Q' s q l =>
  h σ H ρ M _ _ s q fun vs H1 ds M1 f1 r1 n1 m1 q1 => fun x dx hx hd hne => by
    obtain ⟨fm, mm⟩ := made_rep (C := C) m1 hx hd hne
    have q2 := q1 x (m1.free hx)
    rw [List.append_nil]
    refine ⟨K.P, .ref x :: ds, _, ⟨_, _, rfl, rfl, r1.mono fm⟩, by rw [List.length_cons, n1], mm, q2.1, fun d M' hpost y r H' e f rp m => ?_⟩
    simp only [List.cons.injEq] at e
    obtain ⟨rfl, rfl⟩ := e
    exact ⟨rfl, l _ _ d _ ((f1.trans fm).trans f) rp m (q2.2 _ M' hpost)⟩
theorem MRep.delI {H : Hp} {M : Mem} {p : Addr} {C : Str} {ns : List Str} {xs : List D} (m : MRep K H M) (h : M p = some (.ins C ns xs)) : MRep K H (mdel M p) := by
  refine ⟨fun a o e => ?_, m.prv_step (Fr.del H M p)⟩
  have ne : a ≠ p := fun z => by rw [z, mdel_same] at e; cases e
  rw [mdel_ne ne] at e
  exact ORep.keep m (m.obj a o e) e (Fr.del H M p) p ne (fun c z => by rw [h] at z; cases z) (fun _ _ _ q => q) fun x hx => mdel_ne hx
theorem refS_fzI {ts : TS} {t : DS} (i : Nat) (h : RefS K ts t) : RefS K ts (sFzI i t) := fun σ H ρ M E E' s q l => by
  unfold sFzI at q
  split at q
  · rename_i p e
    split at q
    · rename_i C ns xs hp
      have f := Fr.del H M p
      have m := s.mem.delI hp
      obtain ⟨dx, vs, hv, hl, rv⟩ := s.mem.obj p _ hp
      have np : ¬ K.P p := fun z => by
        have := (s.mem.prv p z).2
        rw [hp] at this; cases this
      refine h σ H _ _ E E' ⟨by rw [List.length_set]; exact s.len, fun j d ej => ?_, m⟩ q (l.later f)
      by_cases c : i = j
      · subst c
        have li : i < ρ.length := (List.getElem?_eq_some_iff.mp e).1
        rw [List.getElem?_set_self li] at ej
        cases ej
        obtain ⟨v, h1, h2⟩ := s.env i _ e
        exact ⟨v, h1, p, dx, vs, h2, ⟨hv, mdel_same M p, np⟩, ⟨hl, rfl⟩, rv.mono f⟩
      · rw [List.getElem?_set_ne c] at ej
        obtain ⟨v, h1, h2⟩ := s.env j d ej
        exact ⟨v, h1, h2.mono f⟩
    · exact q.elim
  · exact q.elim
end
section
variable {X : Cx} {pos p apos : Pos} {e o value : Expr} {es : List Expr} {te to tv : TE} {t u : DE} {tA : TA} {dA' : DA} {k : Nat} {f : Str} {cs : List Str}
theorem rs_fzI {st : Stmt} {ts : TS} {t : DS} (i : Nat) (h : RS X st ts t) : RS X st ts (sFzI i t) := ⟨h.ps, fun P => refS_fzI i (h.rf P)⟩
theorem rs_never {st : Stmt} : RS X st tNever sNever := ⟨ps_never, fun P σ H ρ M E E' s q l => q.elim⟩
theorem re_fld (K0 : PySem.W.Frag) (hc : ClsFs K0 cs f) (h : RE X e te t) (hb : attributeBase e f X.env (eval e X.env) = eval e X.env := by rfl) (hK : X.K = K0 := by rfl) : RE X (.Attribute e f pos) (tFld K0 te f) (dUn (oFld cs f) t) := by
  subst hK
  exact ⟨pe_fld h.pe hb, fun P => ref_fld (K := ⟨X.K, P⟩) hc (h.rf P)⟩
theorem rs_putF {pos' : Pos} (K0 : PySem.W.Frag) (hc : ClsFs K0 cs f) (h1 : RE X o to t) (h2 : RE X value tv u) (hs : swapsWith value (some (.Attribute o f pos')) pos.line X.env = pure false := by rfl) (hK : X.K = K0 := by rfl) : RS X (.Assign [.Attribute o f pos'] value pos) (sFld K0 to tv f) (sPutF cs f t u) := by
  subst hK
  exact ⟨ps_fld h1.pe h2.pe hs, fun P => refS_putF (K := ⟨X.K, P⟩) hc (h1.rf P) (h2.rf P)⟩
theorem rs_augF {tpos : Pos} (K0 : PySem.W.Frag) (hc : ClsFs K0 cs f) (h1 : RE X o to t) (h2 : RE X value tv u) (hK : X.K = K0 := by rfl) : RS X (.AugAssign (.Attribute o f tpos) .Add value pos) (sFldAug K0 to tv rAdd f) (sAugF cs f t u) := by
  subst hK
  exact ⟨ps_fldaug h1.pe h2.pe in_add, fun P => refS_augF (K := ⟨X.K, P⟩) hc (h1.rf P) (h2.rf P)⟩
end
/-- a method as others call it -/
def FnM (P : Program) (w : World) (K : PySem.W.Frag) (mg : Str → Option Value) (base : Heap) (k : Nat) (C m : Str) (n : Nat) (sp : Spec) : Prop :=
  ∃ (f : Addr) (fd : FuncData) (ps : List Str), FnOk P w K mg base CX0 k f fd ps (toSp K n sp) ∧ Cls K (He.ga K C) ∧ Meth K (He.ga K C) m f ∧ Binds K fd ps []
theorem FnM.mono {P : Program} {w : World} {K : PySem.W.Frag} {mg : Str → Option Value} {base : Heap} {j k : Nat} {C m : Str} {n : Nat} {sp : Spec} (c : FnM P w K mg base j C m n sp) (h : j ≤ k) : FnM P w K mg base k C m n sp := by
  obtain ⟨f, fd, ps, h1, h2⟩ := c
  exact ⟨f, fd, ps, h1.mono h, h2⟩
/-- a class as others make its instances -/
def FnC (P : Program) (w : World) (K : PySem.W.Frag) (mg : Str → Option Value) (base : Heap) (k : Nat) (C : Str) (n : Nat) (sp : Spec) : Prop :=
  ∃ (f : Addr) (fd : FuncData) (ps : List Str), FnOk P w K mg base CX0 k f fd ps (toSp K n sp) ∧ Mk K (He.ga K C) f ∧ mg C = some (.ref (He.ga K C)) ∧ Binds K fd ps [] ∧ ∀ ds M d M', sp.post ds M d M' → d = .non
theorem FnC.mono {P : Program} {w : World} {K : PySem.W.Frag} {mg : Str → Option Value} {base : Heap} {j k : Nat} {C : Str} {n : Nat} {sp : Spec} (c : FnC P w K mg base j C n sp) (h : j ≤ k) : FnC P w K mg base k C n sp := by
  obtain ⟨f, fd, ps, h1, h2⟩ := c
  exact ⟨f, fd, ps, h1.mono h, h2⟩
def FnF (P : Program) (w : World) (K : PySem.W.Frag) (mg : Str → Option Value) (base : Heap) (k : Nat) (C : Str) (n : Nat) (sp : Spec) : Prop :=
  ∃ (f : Addr) (fd : FuncData) (ps : List Str), FnOk P w K mg base CX0 k f fd ps (toSpI K n sp) ∧ Mk K (He.ga K C) f ∧ mg C = some (.ref (He.ga K C)) ∧ Binds K fd ps []
theorem FnF.mono {P : Program} {w : World} {K : PySem.W.Frag} {mg : Str → Option Value} {base : Heap} {j k : Nat} {C : Str} {n : Nat} {sp : Spec} (c : FnF P w K mg base j C n sp) (h : j ≤ k) : FnF P w K mg base k C n sp := by
  obtain ⟨f, fd, ps, h1, h2⟩ := c
  exact ⟨f, fd, ps, h1.mono h, h2⟩
section
variable {X : Cx} {pos p apos : Pos} {e o : Expr} {es : List Expr} {to : TE} {t : DE} {tA : TA} {dA' : DA} {k n : Nat} {C m : Str} {sp : Spec}
theorem re_methI {pl : Sem Bool} (K0 : PySem.W.Frag) (c : FnM X.prog X.w X.K X.mg X.base k C m (n + 1) sp) (hr : Room k X.A) (ho : RE X o to t) (h : RA X (e :: es) tA dA') (hn : (e :: es).length = n := by rfl)
    (hst : starEach (e :: es) X.env = (false, eval e X.env) :: starEach es X.env := by rfl) (hpl : (backTo pos (starEach es X.env)).any (·.1) = false := by rfl)
    (ht : eval (.Call (.Attribute o m apos) (e :: es) [] pos) X.env = (do
      let ov ← eval o X.env
      standAt apos.atName
      let (f, first) ← holding [ov] (getMethod ov m pl)
      callWith pos f first (backTo pos (starEach (e :: es) X.env)) (backToKw pos (keywordEach [] X.env))) := by rfl) (hK : X.K = K0 := by rfl) :
    RE X (.Call (.Attribute o m apos) (e :: es) [] pos) (tMeth (He.ga K0 C) m (toSp K0 (n + 1) sp) [] E0 to tA) (dMethI C m sp t dA') := by
  subst hK
  subst hn
  obtain ⟨f, fd, ps, h1, h2, h3, h4⟩ := c
  exact ⟨pe_meth (pl := pl) ho.pe h2 h3 h1 hr h4 .nil pass0 h.pa hst hpl ht, fun P => ref_methI (K := ⟨X.K, P⟩) (ho.rf P) (h.rf P)⟩
theorem re_methI0 {pl : Sem Bool} (K0 : PySem.W.Frag) (c : FnM X.prog X.w X.K X.mg X.base k C m 1 sp) (hr : Room k X.A) (ho : RE X o to t)
    (ht : eval (.Call (.Attribute o m apos) [] [] pos) X.env = (do
      let ov ← eval o X.env
      standAt apos.atName
      let (f, first) ← holding [ov] (getMethod ov m pl)
      callWith pos f first (backTo pos (starEach [] X.env)) (backToKw pos (keywordEach [] X.env))) := by rfl) (hK : X.K = K0 := by rfl) :
    RE X (.Call (.Attribute o m apos) [] [] pos) (tMeth (He.ga K0 C) m (toSp K0 1 sp) [] E0 to tNil) (dMethI C m sp t dA0) := by
  subst hK
  obtain ⟨f, fd, ps, h1, h2, h3, h4⟩ := c
  exact ⟨pe_meth0 (pl := pl) ho.pe h2 h3 h1 hr h4 .nil pass0 ht, fun P => ref_methI (K := ⟨X.K, P⟩) (n := 0) (ho.rf P) refA_nil⟩
theorem re_make (K0 : PySem.W.Frag) (c : FnC X.prog X.w X.K X.mg X.base k C (n + 1) sp) (hr : Room (k + 1) X.A) (hg : Gl X C) (h : RA X (e :: es) tA dA') (hn : (e :: es).length = n := by rfl) (hdb : (C == ("__debug__" : Str)) = false := by decide) (he : starEach (e :: es) X.env = (false, eval e X.env) :: starEach es X.env := by rfl) (hpl : (backTo pos (starEach es X.env)).any (·.1) = false := by rfl) (hK : X.K = K0 := by rfl) :
    RE X (.Call (.Name C p) (e :: es) [] pos) (tMake (He.ga K0 C) (toSp K0 (n + 1) sp) [] E0 tA) (dMake C sp dA') := by
  subst hK
  subst hn
  obtain ⟨f, fd, ps, h1, h2, h3, h4, h5⟩ := c
  exact ⟨pe_make h2 h1 hr hg h3 h4 .nil pass0 h.pa hdb he hpl, fun P => ref_make (K := ⟨X.K, P⟩) h5 (h.rf P)⟩
theorem re_makeF (K0 : PySem.W.Frag) (c : FnF X.prog X.w X.K X.mg X.base k C (n + 1) sp) (hr : Room (k + 1) X.A) (hg : Gl X C) (h : RA X (e :: es) tA dA') (hn : (e :: es).length = n := by rfl) (hdb : (C == ("__debug__" : Str)) = false := by decide) (he : starEach (e :: es) X.env = (false, eval e X.env) :: starEach es X.env := by rfl) (hpl : (backTo pos (starEach es X.env)).any (·.1) = false := by rfl) (hK : X.K = K0 := by rfl) :
    RE X (.Call (.Name C p) (e :: es) [] pos) (tMake (He.ga K0 C) (toSpI K0 (n + 1) sp) [] E0 tA) (dMakeF C sp dA') := by
  subst hK
  subst hn
  obtain ⟨f, fd, ps, h1, h2, h3, h4⟩ := c
  exact ⟨pe_make h2 h1 hr hg h3 h4 .nil pass0 h.pa hdb he hpl, fun P => ref_makeF (K := ⟨X.K, P⟩) (h.rf P)⟩
end
/-- __init__ of an instance that changes no more -/
theorem def_okI {P : Program} {w : World} {K : PySem.W.Frag} {mg : Str → Option Value} {base : Heap} {x qual : Str} {params : Arguments} {body : List Stmt} {scope : Scope} {dvs : List V} {kws : List (Str × V)} {f : Addr} {fd : FuncData} {N ps : List Str} {k n : Nat} {sp : Spec} {t : DS}
    (F : FunD K x qual params body scope dvs kws f fd) (S : FnScope N ps scope) (hn : n = ps.length)
    (hbody : ∀ (cdv : Value) (A : Around) (outer : List PySem.Env) (s : Shared) (H : Hp) (E : XK), Room k (A.deeper (envOfC qual scope s.heap.objs.size f cdv)) → ∃ ts, RSs (cxOf CX0 P w K mg base N qual scope f cdv A outer s H E).nox body ts t)
    (does : DoesI N.length t n sp) : FnOk P w K mg base CX0 (k + 1) f fd ps (toSpI K n sp) := by
  refine F.ok S (fun vs H Q E h => ?_) (fun cdv A outer s H vs Q E hr h => ?_)
  · obtain ⟨P', ds, M, r, e, _⟩ := h
    rw [← r.length, e, hn]
  · obtain ⟨P', ds, M, r, e, m, hpre, hpost⟩ := h
    obtain ⟨ts, b⟩ := hbody cdv A outer s H E hr
    obtain ⟨p, dr, rfl, hd⟩ := does ds M e hpre
    have r0 := r
    obtain ⟨v0, vr, rfl, hv0, hvr⟩ := r
    refine ⟨ts, b.ps.nox, b.rf P' _ H _ M _ _ (start_rep r0 m) hd ?_⟩
    refine ⟨fun σ' H' ρ' M' f s q => ?_, fun v H' d M' f r m q => q.elim, fun _ _ _ _ _ _ q => q.elim, fun _ _ _ _ _ _ q => q.elim⟩
    obtain ⟨C, ns, ws, M'', e0, hs, hp⟩ := q
    obtain ⟨v, _, rv⟩ := s.env 0 _ e0
    have rv2 := rv.mono (Fr.sub (H := H') hs)
    refine hpost _ M'' hp v0 vr H' rfl (f.trans (Fr.sub hs)) ?_ (s.mem.sub hs)
    obtain ⟨a, dx, us, ea, z1, z2, z3⟩ := rv2
    have ev : v0 = .ref a := by
      rw [show v0 = V.ref p from hv0, z2.2]
    exact ⟨a, dx, us, ev, z1, z2, z3⟩
end DL
/-! DLJ: keywords, max with a default, count of texts, targets within targets. -/
namespace DL
open PySem PySem.Spec PyProof.Rows L2
/-! ### calls with keywords -/
theorem kb_dflt {K : PySem.W.Frag} {x qual : Str} {params : Arguments} {body : List Stmt} {scope : Scope} {dvs : List V} {kws : List (Str × V)} {f : Addr} {fd : FuncData} {ps : List Str} (F : FunD K x qual params body scope dvs kws f fd) (n : Nat) (ks : List Str) (hd : dvs ≠ [])
    (h : ∀ (T : Addr) (kV doc pm : Value) (an : Option Addr) (cdv ct : Value) (us its ws : List Value), us.length = n → its.length = dvs.length → ws.length = ks.length →
      ∃ k, bindArgs (PySem.W.fnOf x qual params body scope (.ref T) kV doc pm an cdv ct) ⟨us, ks.zip ws⟩ = seqItems? (.ref T) >>= k ∧ k (some its.toArray) = pure (ps.zip (us ++ ws))) : KBn K fd ps n ks (fun us ws => us ++ ws) (fun vs zs => vs ++ zs) := by
  obtain ⟨oc, od, dV, kV, doc, pm, an, cdv, ct, osl, rfl, lk, hcd, hD, hK⟩ := F.ex
  rcases hD with ⟨e, _⟩ | ⟨_, T, o, its, m, rfl, lT, oT, rT⟩
  · exact absurd e hd
  · refine ⟨fun s us ws X l1 l2 => ?_, fun r1 r2 => r1.append r2⟩
    obtain ⟨k, e1, e2⟩ := h T kV doc pm an cdv ct us its ws l1 rT.length.symm l2
    refine BindsTo.of_looks fun M => ?_
    rw [e1]
    exact looks_items X lT oT (.of_pure e2)
def FnK (P : Program) (w : World) (K : PySem.W.Frag) (mg : Str → Option Value) (base : Heap) (k : Nat) (x : Str) (n : Nat) (ks : List Str) (sp : Spec) : Prop :=
  ∃ (f : Addr) (fd : FuncData) (ps : List Str), FnOk P w K mg base CX0 k f fd ps (toSp K (n + ks.length) sp) ∧ mg x = some (.ref f) ∧ PySem.W.keepIn K (.ref f) = true ∧ KBn K fd ps n ks (fun us ws => us ++ ws) (fun vs zs => vs ++ zs)
theorem FnK.mono {P : Program} {w : World} {K : PySem.W.Frag} {mg : Str → Option Value} {base : Heap} {j k : Nat} {x : Str} {n : Nat} {ks : List Str} {sp : Spec} (c : FnK P w K mg base j x n ks sp) (h : j ≤ k) : FnK P w K mg base k x n ks sp := by
  obtain ⟨f, fd, ps, h1, h2⟩ := c
  exact ⟨f, fd, ps, h1.mono h, h2⟩
section
variable {K : Fg} {tA tB : TA} {dA1 dB1 : DA} {te td : TE} {t u : DE}
theorem ref_callK {n m : Nat} {sp : Spec} (h : RefA K n tA dA1) (h2 : RefA K m tB dB1) : Ref K (tCallN n m (toSp K.K (n + m) sp) (fun vs zs => vs ++ zs) E0 tA tB) (dCallK sp dA1 dB1) := fun σ H ρ M Q Q' s q l =>
  h σ H ρ M _ _ s q fun vs H1 ds M1 f1 r1 n1 m1 q1 => h2 σ H1 ρ M1 _ _ (s.step f1 m1) q1 fun zs H2 es M2 f2 r2 n2 m2 q2 =>
    ⟨by rw [← r1.length, n1], by rw [← r2.length, n2], K.P, ds ++ es, M2, (r1.mono f2).append r2, by rw [List.length_append, n1, n2], m2, q2.1, fun d M' hp v H' f r m => l v H' d M' ((f1.trans f2).trans f) r m (q2.2 d M' hp)⟩
/-! ### max(ints, default=d) -/
def rMaxDf (K : PySem.W.Frag) : List V → List V → Hp → VK → Prop := fun xs zs H Q => ∃ (a : Addr) (ns : List Int) (z : V), xs = [.ref a] ∧ zs = [z] ∧ SqL K H a (ns.map V.int) ∧ (match ns with
  | [] => Q z H
  | n :: r => Q (.int (r.foldl max n)) H)
theorem alike_ints (ns : List Int) : PySem.W.AlikeAll (ns.map PyData.int) := by
  refine ⟨fun x hx y hy => ?_, fun x hx => ?_⟩
  · obtain ⟨i, _, rfl⟩ := List.mem_map.mp hx
    obtain ⟨j, _, rfl⟩ := List.mem_map.mp hy
    simp [PySem.W.alike]
  · obtain ⟨i, _, rfl⟩ := List.mem_map.mp hx
    exact fun z => nomatch z
theorem depth_ints : ∀ ns : List Int, PyData.depthAll (ns.map PyData.int) ≤ 1
  | [] => by simp [PyData.depthAll]
  | n :: r => by
    have := depth_ints r
    simp only [List.map_cons, PyData.depthAll, PyData.depth]
    omega
theorem cr_maxDf {X : Cx} {k : Nat} (hc : X.calm = true) (hr : Room k X.A) : CallRK X (.builtin "max") [("default" : Str)] (rMaxDf X.K) := by
  intro pins s σ H xs zs us ws Q I r rz h
  obtain ⟨a, ns, z, rfl, rfl, hs, q⟩ := h
  obtain ⟨its, rv, hl, _⟩ := I.list hs
  rw [Vals.ref1 r]
  obtain ⟨w, rfl, rw'⟩ := rz.one
  have hu := hr.units
  have hd := depth_ints ns
  refine PySem.W.max_list_default (vs := its.toArray) (xs := ns.map PyData.int) (as := []) (d := w) (I.ok.hd hc) hl.isList (IntsAre.reads _ rv.ints) (alike_ints ns) (by omega) (fun e h' tk hk => ?_) (fun y ys i v h' tk bs e hv hR hk => ?_)
  · have e0 : ns = [] := by cases ns with
      | nil => rfl
      | cons _ _ => cases e
    subst e0
    exact ⟨z, H, I.kept hk, rw', q⟩
  · cases ns with
    | nil => cases e
    | cons n r =>
      simp only [List.map_cons, List.cons.injEq] at e
      obtain ⟨rfl, rfl⟩ := e
      rw [PySem.W.maxD_ints] at hR
      have : ∃ t, v = .int (r.foldl max n) t := by
        cases hR
        exact ⟨_, rfl⟩
      obtain ⟨t, rfl⟩ := this
      exact ⟨.int _, H, I.kept hk, ⟨t, rfl⟩, q⟩
theorem ints_rep {H : Hp} {M : Mem} : ∀ {ds : List D} {vs : List V} {ns : List Int}, Reps K H M ds vs → dInts ds = some ns → vs = ns.map V.int
  | [], vs, ns, r, e => by cases e; exact r
  | d :: ds, _, ns, ⟨v, t, rfl, hr, rt⟩, e => by
    cases d with
    | int i =>
      simp only [dInts] at e
      cases e2 : dInts ds with
      | none => rw [e2] at e; cases e
      | some ms =>
        rw [e2] at e
        cases e
        cases hr
        rw [ints_rep rt e2]
        rfl
    | _ => cases e
theorem ref_maxDf (h : Ref K te t) (h2 : Ref K td u) : Ref K (tCKw (rMaxDf K.K) (tCons te tNil) (tCons td tNil)) (dMaxD t u) := fun σ H ρ M Q Q' s q l =>
  h σ H ρ M _ _ s q fun v H1 d M1 f1 r1 m1 q1 => h2 σ H1 ρ M1 _ _ (s.step f1 m1) q1 fun z H2 e M2 f2 r2 m2 q2 => by
    cases d with
    | lst xs =>
      have r1 := r1.mono f2
      obtain ⟨a, vs, rfl, ha, rs⟩ := r1
      cases e2 : dInts xs with
      | none => simp only [e2] at q2
      | some ns =>
        simp only [e2] at q2
        have ev := ints_rep rs e2
        subst ev
        refine ⟨a, ns, z, rfl, rfl, .of ha.1, ?_⟩
        cases ns with
        | nil => exact l _ _ e _ (f1.trans f2) r2 m2 q2
        | cons n r => exact l _ _ (.int (r.foldl max n)) _ (f1.trans f2) rfl m2 q2
    | _ => exact q2.elim
/-! ### l.count(x), texts -/
def rCntS (K : PySem.W.Frag) : V → List V → Hp → VK → Prop := fun x xs H Q => ∃ (p : Addr) (ss : List Str) (k : Str), x = .ref p ∧ xs = [.str k] ∧ SqL K H p (ss.map V.str) ∧ Q (.int (ss.count k : Nat)) H
theorem countIn_strs (k : Str) : ∀ ss : List Str, countIn (.str k) (ss.map PyData.str) = ss.count k
  | [] => rfl
  | s :: r => by
    have ih := countIn_strs k r
    simp only [List.map_cons, countIn, ih, List.count_cons]
    by_cases e : s = k
    · subst e; simp [same]; omega
    · have : (s == k) = false := beq_eq_false_iff_ne.mpr e
      simp [same, this, e]
theorem mt_cntS {X : Cx} : MtR X "list.count" (rCntS X.K) := by
  intro pins s σ H x xs v us Q I rx rxs h
  obtain ⟨p, ss, k, rfl, rfl, hs, q⟩ := h
  cases rx
  obtain ⟨u, rfl, ru⟩ := rxs.one
  obtain ⟨t, rfl⟩ := ru
  obtain ⟨its, rv, hl, _⟩ := I.list hs
  refine count_list_strs (vs := its) hl.isList rv.strs ?_
  rw [countIn_strs]
  exact ⟨.int (ss.count k : Nat), H, I.tok _, ⟨s.toks, rfl⟩, q⟩
theorem strs_rep {H : Hp} {M : Mem} : ∀ {ds : List D} {vs : List V} {ns : List Str}, Reps K H M ds vs → dStrs ds = some ns → vs = ns.map V.str
  | [], vs, ns, r, e => by cases e; exact r
  | d :: ds, _, ns, ⟨v, t, rfl, hr, rt⟩, e => by
    cases d with
    | str i =>
      simp only [dStrs] at e
      cases e2 : dStrs ds with
      | none => rw [e2] at e; cases e
      | some ms =>
        rw [e2] at e
        cases e
        cases hr
        rw [strs_rep rt e2]
        rfl
    | _ => cases e
theorem rm_cntS : ∀ x y H M dx dy Q Q', Rep K H M dx x → Rep K H M dy y → MRep K H M → mCountS dx dy M Q → Lift K H M Q Q' → rCntS K.K x [y] H Q' := fun x y H M dx dy Q Q' rx ry m q l => by
  cases dy with
  | str k =>
    cases ry
    simp only [mCountS] at q
    cases e : asL M dx with
    | none => rw [e] at q; exact q.elim
    | some ys =>
      rw [e] at q
      simp only [Option.bind_some] at q
      cases e2 : dStrs ys with
      | none => rw [e2] at q; exact q.elim
      | some ss =>
        rw [e2] at q
        obtain ⟨a, vs, rfl, hq, rs⟩ := asL_rep m rx e
        have ev := strs_rep rs e2
        subst ev
        exact ⟨a, ss, k, rfl, rfl, hq, l _ _ (.int _) _ (Fr.refl H M) rfl m q⟩
  | _ => exact q.elim
end
section
variable {X : Cx} {pos p : Pos} {e o d : Expr} {es : List Expr} {te to td : TE} {t u : DE} {tA : TA} {dA' : DA} {k n : Nat} {sp : Spec} {x : Str}
theorem re_fnK {nm : Str} {kpos : Pos} {kw : Expr} {tk : TE} {dk : DE} (K0 : PySem.W.Frag) (c : FnK X.prog X.w X.K X.mg X.base k x n [nm] sp) (hr : Room k X.A) (hg : Gl X x) (h : RA X (e :: es) tA dA') (hk : RE X kw tk dk) (hn : (e :: es).length = n := by rfl)
    (hall : (backToKw pos (keywordEach [⟨some nm, kw, kpos⟩] X.env)).all (·.1.isSome) = true := by rfl) (hks : (backToKw pos (keywordEach [⟨some nm, kw, kpos⟩] X.env)).filterMap (·.1) = [nm] := by rfl)
    (hdb : (x == ("__debug__" : Str)) = false := by decide) (he : starEach (e :: es) X.env = (false, eval e X.env) :: starEach es X.env := by rfl)
    (hpl : ((backTo pos (starEach (e :: es) X.env)).any (·.1) || (backToKw pos (keywordEach [⟨some nm, kw, kpos⟩] X.env)).any (·.1.isNone)) = false := by rfl) (hK : X.K = K0 := by rfl) :
    RE X (.Call (.Name x p) (e :: es) [⟨some nm, kw, kpos⟩] pos) (tCallN n 1 (toSp K0 (n + 1) sp) (fun vs zs => vs ++ zs) E0 tA (tCons tk tNil)) (dCallK sp dA' (dA dk dA0)) := by
  subst hK
  subst hn
  obtain ⟨f, fd, ps, h1, h2, h3, h4⟩ := c
  exact ⟨pe_callN h1 hr hg h2 h3 h4 pass0 h.pa (pk_cons hk.pe pk_nil) hall hks hdb he hpl, fun P => ref_callK (K := ⟨X.K, P⟩) (m := 1) (h.rf P) (refA_cons (hk.rf P) refA_nil)⟩
theorem re_maxD {kpos : Pos} {kw : Expr} {tk : TE} {dk : DE} (K0 : PySem.W.Frag) (hr : Room k X.A) (hc : X.calm = true) (hg : Gl X "max") (hm : X.mg "max" = none) (h : RE X e te t) (hk : RE X kw tk dk)
    (hs : starEach [e] X.env = (false, eval e X.env) :: starEach [] X.env := by rfl) (he : backTo pos (starEach [e] X.env) = (false, eval e X.env) :: backTo pos (starEach [] X.env) := by rfl) (hpl : (backTo pos (starEach [e] X.env)).any (·.1) = false := by rfl)
    (hall : (backToKw pos (keywordEach [⟨some "default", kw, kpos⟩] X.env)).all (·.1.isSome) = true := by rfl) (hnone : (backToKw pos (keywordEach [⟨some "default", kw, kpos⟩] X.env)).any (·.1.isNone) = false := by rfl) (hks : (backToKw pos (keywordEach [⟨some "default", kw, kpos⟩] X.env)).filterMap (·.1) = [("default" : Str)] := by rfl) (hK : X.K = K0 := by rfl) :
    RE X (.Call (.Name "max" p) [e] [⟨some "default", kw, kpos⟩] pos) (tCKw (rMaxDf K0) (tCons te tNil) (tCons tk tNil)) (dMaxD t dk) := by
  subst hK
  exact ⟨pe_callBK (cr_maxDf hc hr) hg hm boot_max (pa_cons h.pe pa_nil hs) (pk_cons hk.pe pk_nil) (by decide) (by decide) he hpl hall hnone hks, fun P => ref_maxDf (K := ⟨X.K, P⟩) (h.rf P) (hk.rf P)⟩
theorem re_cntS {apos cpos : Pos} (K0 : PySem.W.Frag) (ho : RE X o to t) (h : RE X e te u) (hbase : attributeBase o "count" X.env (eval o X.env) = eval o X.env := by rfl)
    (hfew : ((backTo cpos (starEach [e] X.env)).all (fun x => !x.1) && (backToKw cpos (keywordEach [] X.env)).all (fun x => x.1.isSome)
      && decide ([e].length + ([] : List Keyword).length + (if ([] : List Keyword).isEmpty then 0 else 1) < 30)) = true := by rfl)
    (hline : (apos.endLine == cpos.line) = true := by rfl) (hs : starEach [e] X.env = (false, eval e X.env) :: starEach [] X.env := by rfl) (hplain : (backTo cpos (starEach [] X.env)).any (·.1) = false := by rfl) (hK : X.K = K0 := by rfl) :
    RE X (.Call (.Attribute o "count" apos) [e] [] cpos) (tBM K0 "list" (rCntS K0) to (tCons te tNil)) (dMeth mCountS t u) := by
  subst hK
  exact ⟨pe_bm PySem.F.plainAttrs_list PySem.F.slot_list_count PySem.F.type_list_count mt_cntS ho.pe (pa_cons h.pe pa_nil hs) hbase hfew hline hs hplain, fun P => ref_meth (K := ⟨X.K, P⟩) rm_cntS (ho.rf P) (h.rf P)⟩
/-- a target within a target -/
theorem rgs_tup {tgs tgs' : TGs} {gs gs' : DGs} {es es' : List Expr} {n n' kk : Nat} (K0 : PySem.W.Frag) (hc : X.calm = true) (h : RGn X es' tgs' gs' n') (h2 : RGn X es tgs gs n) (hmg : ∀ d ρ M Q, DL.gTup gs' d ρ M Q → ∃ ρ' M', Q ρ' M')
    (hn : (assignEach es' X.env).length = n' := by rfl) (hst : (assignEach es' X.env).findIdx? (·.1) = none := by rfl)
    (hs : (assignEach (.Tuple es' kk pos :: es) X.env).map (·.2) = assign (.Tuple es' kk pos) X.env :: (assignEach es X.env).map (·.2) := by rfl) (hK : X.K = K0 := by rfl) :
    RGn X (.Tuple es' kk pos :: es) (L2.gCons (L2.gTup K0 n' tgs') tgs) (DL.gCons (DL.gTup gs') gs) (n + 1) := by
  subst hK
  exact ⟨⟨pgs_cons (pg_tup hc h.rg.pg hn hst) h2.rg.pg hs, fun P => refGs_cons (refG_tup (K := ⟨X.K, P⟩) h.many (h.rg.rf P)) (h2.rg.rf P)⟩, many_cons h2.many hmg⟩
end
/-! ### a, b = e, f -/
theorem refS_par {K : Fg} {tA : TA} {dA1 : DA} (i j : Nat) (h : RefA K 2 tA dA1) : RefS K (tPar i j tA) (sAsg (dTup dA1) (DL.gTup (DL.gCons (DL.gName i) (DL.gCons (DL.gName j) DL.gNil)))) := fun σ H ρ M E E' s q l =>
  h σ H ρ M _ _ s q fun vs H1 ds M1 f1 r1 n1 m1 q1 => by
    match ds, n1, q1, r1 with
    | [d, e], _, q1, r1 =>
      obtain ⟨v, rr, rfl, hv, r2⟩ := r1
      obtain ⟨w, rr2, rfl, hw, hz⟩ := r2
      obtain rfl : rr2 = [] := hz
      exact ⟨v, w, rfl, l.nx _ _ _ _ f1 (((s.step f1 m1).set hv).set hw) q1⟩
theorem rs_par {X : Cx} {i j kt k2 : Nat} {x y : Str} {a b : Expr} {px py pt pt2 pos : Pos} {tA : TA} {dA1 : DA} (hc : X.calm = true) (hN : X.N.Nodup) (hi : X.N[i]? = some x) (hj : X.N[j]? = some y) (hij : i ≠ j) (hx : X.env.scope.names.lookup x = some .local) (hy : X.env.scope.names.lookup y = some .local)
    (hw : swappedStores [.Tuple [.Name x px, .Name y py] kt pt] (.Tuple [a, b] k2 pt2) X.env = pure (some [x, y])) (h : RA X [a, b] tA dA1) (hs : swapsWithSole [.Tuple [.Name x px, .Name y py] kt pt] (.Tuple [a, b] k2 pt2) pos.line X.env = pure false := by rfl) :
    RS X (.Assign [.Tuple [.Name x px, .Name y py] kt pt] (.Tuple [a, b] k2 pt2) pos) (tPar i j tA) (sAsg (dTup dA1) (DL.gTup (DL.gCons (DL.gName i) (DL.gCons (DL.gName j) DL.gNil)))) :=
  ⟨ps_par hc hN hi hj hij hx hy h.pa hw hs, fun P => refS_par i j (h.rf P)⟩
/-- targets of names always go on -/
theorem on_nil : ∀ ds ρ M (Q : Env → Mem → Prop), DL.gNil ds ρ M Q → ∃ ρ' M', Q ρ' M' := fun ds ρ M Q q => by
  cases ds with
  | nil => exact ⟨_, _, q⟩
  | cons _ _ => exact q.elim
theorem on_cons {i : Nat} {gs : DGs} (h : ∀ ds ρ M (Q : Env → Mem → Prop), gs ds ρ M Q → ∃ ρ' M', Q ρ' M') : ∀ ds ρ M (Q : Env → Mem → Prop), DL.gCons (DL.gName i) gs ds ρ M Q → ∃ ρ' M', Q ρ' M' := fun ds ρ M Q q => by
  cases ds with
  | nil => exact q.elim
  | cons d ds => exact h ds _ M Q q
theorem on_tup {gs : DGs} (h : ∀ ds ρ M (Q : Env → Mem → Prop), gs ds ρ M Q → ∃ ρ' M', Q ρ' M') : ∀ d ρ M (Q : Env → Mem → Prop), DL.gTup gs d ρ M Q → ∃ ρ' M', Q ρ' M' := fun d ρ M Q q => by
  cases d with
  | tup xs => exact h xs ρ M Q q
  | _ => exact q.elim
end DL
namespace DL
open PySem
/-! ### texts -/
theorem strOk_of (s : String) : strOk (Str.ofString s) = true := by
  unfold strOk
  rw [Str.ofString_eq_toList]
  show ((s.toList.map Char.toNat).toArray).all _ = true
  rw [List.all_toArray, List.all_eq_true]
  intro x hx
  obtain ⟨c, _, rfl⟩ := List.mem_map.mp hx
  have h := c.valid
  simp only [UInt32.isValidChar, Nat.isValidChar] at h
  have e : c.toNat = c.val.toNat := rfl
  rw [e, decide_eq_true_eq]
  omega
theorem strOk_add {a b : Str} (h1 : strOk a = true) (h2 : strOk b = true) : strOk (a ++ b) = true := by
  unfold strOk at *
  show (a.cps ++ b.cps).all _ = true
  rw [Array.all_append, h1, h2]
  rfl
/-- a text that is short -/
def nmOk (x : Str) : Bool := strOk x && decide (x.length ≤ 100)
theorem nm_str {x : Str} (h : nmOk x = true) : strOk x = true := by
  simp only [nmOk, Bool.and_eq_true] at h
  exact h.1
theorem nm_len {x : Str} (h : nmOk x = true) : x.length ≤ 100 := by
  simp only [nmOk, Bool.and_eq_true, decide_eq_true_eq] at h
  exact h.2
theorem nm_of (s : String) (h : (Str.ofString s).length ≤ 100 := by decide +kernel) : nmOk (Str.ofString s) = true := by
  simp [nmOk, strOk_of, h]
/-! ### sayings -/
inductive Say where
  | name (x : Str) | made (h : Str) (ps : List Say) | call (h : Str) (ps : List Say) | either (a b : Say) | same (a b : Say) | skip
mutual
def Say.d : Say → D
  | .name x => .tup [.str "name", .str x]
  | .made h ps => .tup [.str "made", .str h, .tup (says ps)]
  | .call h ps => .tup [.str "call", .str h, .tup (says ps)]
  | .either a b => .tup [.str "either", a.d, b.d]
  | .same a b => .tup [.str "same", a.d, b.d]
  | .skip => .tup [.str "skip"]
def says : List Say → List D
  | [] => []
  | s :: r => s.d :: says r
end
theorem says_length : ∀ ps : List Say, (says ps).length = ps.length
  | [] => rfl
  | _ :: r => by simp only [says, List.length_cons, says_length r]
mutual
theorem Say.d_inj : ∀ {s t : Say}, s.d = t.d → s = t
  | .name x, t, h => by cases t <;> simp_all [Say.d, ofString_inj]
  | .skip, t, h => by cases t <;> simp_all [Say.d, ofString_inj]
  | .made x ps, t, h => by
    cases t <;> simp [Say.d, ofString_inj] at h
    rw [h.1, says_inj h.2]
  | .call x ps, t, h => by
    cases t <;> simp [Say.d, ofString_inj] at h
    rw [h.1, says_inj h.2]
  | .either a b, t, h => by
    cases t <;> simp [Say.d, ofString_inj] at h
    rw [Say.d_inj h.1, Say.d_inj h.2]
  | .same a b, t, h => by
    cases t <;> simp [Say.d, ofString_inj] at h
    rw [Say.d_inj h.1, Say.d_inj h.2]
theorem says_inj : ∀ {ss ts : List Say}, says ss = says ts → ss = ts
  | [], [], _ => rfl
  | [], _ :: _, h => by simp [says] at h
  | _ :: _, [], h => by simp [says] at h
  | s :: ss, t :: ts, h => by
    simp only [says, List.cons.injEq] at h
    rw [Say.d_inj h.1, says_inj h.2]
end
theorem one_inj {s t : Say} (h : [s.d] = [t.d]) : t = s := (Say.d_inj (List.cons.inj h).1).symm
def Say.parts : Say → List Say
  | .made _ ps => ps
  | .call _ ps => ps
  | .either a b => [a, b]
  | .same a b => [a, b]
  | _ => []
mutual
/-- how many nodes stand within one another -/
def Say.deep : Say → Nat
  | .name _ => 1
  | .skip => 1
  | .made _ ps => deeps ps + 1
  | .call _ ps => deeps ps + 1
  | .either a b => max a.deep b.deep + 1
  | .same a b => max a.deep b.deep + 1
def deeps : List Say → Nat
  | [] => 0
  | s :: r => max s.deep (deeps r)
end
mutual
def Say.size : Say → Nat
  | .name _ => 1
  | .skip => 1
  | .made _ ps => sizes ps + 1
  | .call _ ps => sizes ps + 1
  | .either a b => a.size + b.size + 1
  | .same a b => a.size + b.size + 1
def sizes : List Say → Nat
  | [] => 0
  | s :: r => s.size + sizes r
end
mutual
/-- texts are texts, three parts at most -/
def Say.ok : Say → Bool
  | .name x => nmOk x
  | .skip => true
  | .made h ps => nmOk h && decide (ps.length ≤ 3) && oks ps
  | .call h ps => nmOk h && decide (ps.length ≤ 3) && oks ps
  | .either a b => a.ok && b.ok
  | .same a b => a.ok && b.ok
def oks : List Say → Bool
  | [] => true
  | s :: r => s.ok && oks r
end
/-- how many nodes there may be -/
def Z : Nat → Nat
  | 0 => 0
  | n + 1 => 3 * Z n + 1
theorem Z_mono {m n : Nat} (h : m ≤ n) : Z m ≤ Z n := by
  induction n generalizing m with
  | zero => rw [Nat.le_zero.mp h]; exact Nat.le_refl _
  | succ n ih =>
    cases m with
    | zero => exact Nat.zero_le _
    | succ m =>
      have := ih (Nat.le_of_succ_le_succ h)
      simp only [Z]
      omega
mutual
theorem size_le : ∀ s : Say, s.ok = true → s.size ≤ Z s.deep
  | .name _, _ => by simp [Say.size, Say.deep, Z]
  | .skip, _ => by simp [Say.size, Say.deep, Z]
  | .made h ps, o => by
    simp only [Say.ok, Bool.and_eq_true, decide_eq_true_eq] at o
    have := sizes_le ps o.2
    simp only [Say.size, Say.deep, Z]
    have h2 : ps.length * Z (deeps ps) ≤ 3 * Z (deeps ps) := Nat.mul_le_mul_right _ o.1.2
    omega
  | .call h ps, o => by
    simp only [Say.ok, Bool.and_eq_true, decide_eq_true_eq] at o
    have := sizes_le ps o.2
    simp only [Say.size, Say.deep, Z]
    have h2 : ps.length * Z (deeps ps) ≤ 3 * Z (deeps ps) := Nat.mul_le_mul_right _ o.1.2
    omega
  | .either a b, o => by
    simp only [Say.ok, Bool.and_eq_true] at o
    have h1 := size_le a o.1
    have h2 := size_le b o.2
    have z1 := Z_mono (Nat.le_max_left a.deep b.deep)
    have z2 := Z_mono (Nat.le_max_right a.deep b.deep)
    simp only [Say.size, Say.deep, Z]
    omega
  | .same a b, o => by
    simp only [Say.ok, Bool.and_eq_true] at o
    have h1 := size_le a o.1
    have h2 := size_le b o.2
    have z1 := Z_mono (Nat.le_max_left a.deep b.deep)
    have z2 := Z_mono (Nat.le_max_right a.deep b.deep)
    simp only [Say.size, Say.deep, Z]
    omega
theorem sizes_le : ∀ ps : List Say, oks ps = true → sizes ps ≤ ps.length * Z (deeps ps)
  | [], _ => by simp [sizes]
  | s :: r, o => by
    simp only [oks, Bool.and_eq_true] at o
    have h1 := size_le s o.1
    have h2 := sizes_le r o.2
    have z1 := Z_mono (Nat.le_max_left s.deep (deeps r))
    have z2 := Z_mono (Nat.le_max_right s.deep (deeps r))
    simp only [sizes, deeps, List.length_cons]
    have h3 : r.length * Z (deeps r) ≤ r.length * Z (max s.deep (deeps r)) := Nat.mul_le_mul_left _ z2
    rw [Nat.add_mul]
    omega
end
theorem size_of {s : Say} {n : Nat} (o : s.ok = true) (h : s.deep ≤ n) : s.size ≤ Z n := Nat.le_trans (size_le s o) (Z_mono h)
theorem oks_parts {s : Say} (o : s.ok = true) : oks s.parts = true := by
  cases s <;> simp_all [Say.ok, Say.parts, oks]
theorem parts3 {s : Say} (o : s.ok = true) : s.parts.length ≤ 3 := by
  cases s <;> simp_all [Say.ok, Say.parts]
theorem deep_parts (s : Say) : deeps s.parts + 1 = s.deep := by
  cases s <;> simp [Say.parts, Say.deep, deeps]
theorem size_parts (s : Say) : sizes s.parts + 1 = s.size := by
  cases s <;> simp [Say.parts, Say.size, sizes]
  all_goals omega
theorem deeps_cons (s : Say) (r : List Say) : deeps (s :: r) = max s.deep (deeps r) := by simp [deeps]
mutual
/-- data of a saying may be compared -/
theorem plain_d : ∀ s : Say, s.ok = true → plain s.d = true
  | .name x, o => by simp only [Say.ok] at o; simp [Say.d, plain, plains, strOk_of, nm_str o]
  | .skip, _ => by simp [Say.d, plain, plains, strOk_of]
  | .made h ps, o => by
    simp only [Say.ok, Bool.and_eq_true] at o
    simp [Say.d, plain, plains, strOk_of, nm_str o.1.1, plains_d ps o.2]
  | .call h ps, o => by
    simp only [Say.ok, Bool.and_eq_true] at o
    simp [Say.d, plain, plains, strOk_of, nm_str o.1.1, plains_d ps o.2]
  | .either a b, o => by
    simp only [Say.ok, Bool.and_eq_true] at o
    simp [Say.d, plain, plains, strOk_of, plain_d a o.1, plain_d b o.2]
  | .same a b, o => by
    simp only [Say.ok, Bool.and_eq_true] at o
    simp [Say.d, plain, plains, strOk_of, plain_d a o.1, plain_d b o.2]
theorem plains_d : ∀ ps : List Say, oks ps = true → plains (says ps) = true
  | [], _ => by simp [says, plains]
  | s :: r, o => by
    simp only [oks, Bool.and_eq_true] at o
    simp [says, plains, plain_d s o.1, plains_d r o.2]
end
mutual
theorem depth_d : ∀ s : Say, depth s.d ≤ 2 * s.deep + 1
  | .name x => by simp [Say.d, depth, depths, Say.deep]
  | .skip => by simp [Say.d, depth, depths, Say.deep]
  | .made h ps => by
    have := depths_d ps
    simp only [Say.d, depth, depths, Say.deep]
    omega
  | .call h ps => by
    have := depths_d ps
    simp only [Say.d, depth, depths, Say.deep]
    omega
  | .either a b => by
    have h1 := depth_d a
    have h2 := depth_d b
    simp only [Say.d, depth, depths, Say.deep]
    omega
  | .same a b => by
    have h1 := depth_d a
    have h2 := depth_d b
    simp only [Say.d, depth, depths, Say.deep]
    omega
theorem depths_d : ∀ ps : List Say, depths (says ps) ≤ 2 * deeps ps + 1
  | [] => by simp [says, depths]
  | s :: r => by
    have h1 := depth_d s
    have h2 := depths_d r
    simp only [says, depths, deeps]
    omega
end
end DL
section
namespace DL
open PySem
def t_parts_of : DS :=
  (sSeq (sIf (dTest (dOp oIn (dOp oIx (dV 0) (dC (.int 0))) (dTup (dA (dC (.str "made")) (dA (dC (.str "call")) dA0))))) (sRet (dOp oIx (dV 0) (dC (.int 2)))) sNext)
  (sSeq (sIf (dTest (dOp oIn (dOp oIx (dV 0) (dC (.int 0))) (dTup (dA (dC (.str "either")) (dA (dC (.str "same")) dA0))))) (sRet (dCut (dV 0) (dPart (dC (.int 1))) dNoPart)) sNext)
  (sRet (dTup dA0))))
def t_add_nodes (sp_parts_of : Spec) (sp_add_nodes : Spec) : DS :=
  (sSeq (sExpr (dMeth mAppend (dV 0) (dTup (dA (dV 1) (dA (dV 2) dA0)))))
  (sFor (iEnum (dCall sp_parts_of (dA (dV 2) dA0))) (gTup (gCons (gName 3) (gCons (gName 4) gNil))) (sExpr (dCall sp_add_nodes (dA (dV 0) (dA (dOp oAdd (dV 1) (dTup (dA (dV 3) dA0))) (dA (dV 4) dA0)))))))
def t_nodes_of (sp_add_nodes : Spec) : DS :=
  (sSeq (sAsg (dNew dA0) (gName 1))
  (sSeq (sExpr (dCall sp_add_nodes (dA (dV 1) (dA (dTup dA0) (dA (dV 0) dA0)))))
  (sRet (dUn oTuple (dV 1)))))
def t_names_of (sp_nodes_of : Spec) : DS :=
  (sSeq (sAsg (dNew dA0) (gName 1))
  (sSeq (sFor (iSeq (dCall sp_nodes_of (dA (dV 0) dA0))) (gTup (gCons (gName 2) (gCons (gName 3) gNil))) (sIf (dAnd (dTest (dOp oEq (dOp oIx (dV 3) (dC (.int 0))) (dC (.str "name")))) (dTest (dOp oNotIn (dOp oIx (dV 3) (dC (.int 1))) (dV 1)))) (sExpr (dMeth mAppend (dV 1) (dOp oIx (dV 3) (dC (.int 1))))) sNext))
  (sRet (dUn oTuple (dV 1)))))
def t_own_names (sp_names_of : Spec) : DS :=
  (sSeq (sAsg (dNew dA0) (gName 1))
  (sSeq (sFor (iSeq (dOp oAdd (dComp (iSeq (dOp oIx (dV 0) (dC (.int 0)))) (gName 3) dYes (dOp oIx (dV 3) (dC (.int 1))) [3]) (dLst (dA (dOp oIx (dV 0) (dC (.int 1))) dA0)))) (gName 2) (sExpr (dMeth mExtend (dV 1) (dComp (iSeq (dCall sp_names_of (dA (dV 2) dA0))) (gName 4) (dTest (dOp oNotIn (dV 4) (dV 1))) (dV 4) [4]))))
  (sRet (dV 1))))
def t_side_of (sp_side_of : Spec) : DS :=
  (sSeq (sIf (dTest (dOp oEq (dOp oIx (dV 0) (dC (.int 0))) (dC (.str "name")))) (sRet (dTup (dA (dC (.str "name")) (dA (dOp oAdd (dV 1) (dOp oIx (dV 0) (dC (.int 1)))) dA0)))) sNext)
  (sRet (dTup (dA (dC (.str "made")) (dA (dOp oIx (dV 0) (dC (.int 1))) (dA (dUn oTuple (dComp (iSeq (dOp oIx (dV 0) (dC (.int 2)))) (gName 2) dYes (dCall sp_side_of (dA (dV 2) (dA (dV 1) dA0))) [2])) dA0))))))
def t_known_as : DS :=
  (sSeq (sWhile (dAnd (dTest (dOp oEq (dOp oIx (dV 0) (dC (.int 0))) (dC (.str "name")))) (dTest (dOp oInD (dOp oIx (dV 0) (dC (.int 1))) (dV 1)))) (sAsg (dOp oIxD (dV 1) (dOp oIx (dV 0) (dC (.int 1)))) (gName 0)))
  (sRet (dV 0)))
def t_stands_in (sp_stands_in : Spec) (sp_known_as : Spec) : DS :=
  (sSeq (sAsg (dCall sp_known_as (dA (dV 1) (dA (dV 2) dA0))) (gName 3))
  (sSeq (sIf (dTest (dOp oEq (dOp oIx (dV 3) (dC (.int 0))) (dC (.str "name")))) (sRet (dOp oEq (dOp oIx (dV 3) (dC (.int 1))) (dV 0))) sNext)
  (sRet (dUn oAny (dComp (iSeq (dOp oIx (dV 3) (dC (.int 2)))) (gName 4) dYes (dCall sp_stands_in (dA (dV 0) (dA (dV 4) (dA (dV 2) dA0)))) [4])))))
def t_joined (sp_joined : Spec) (sp_stands_in : Spec) (sp_known_as : Spec) : DS :=
  (sSeq (sAsg (dTup (dA (dCall sp_known_as (dA (dV 0) (dA (dV 2) dA0))) (dA (dCall sp_known_as (dA (dV 1) (dA (dV 2) dA0))) dA0))) (gTup (gCons (gName 3) (gCons (gName 4) gNil))))
  (sSeq (sIf (dTest (dOp oEq (dV 3) (dV 4))) (sRet (dC (.bl true))) sNext)
  (sSeq (sIf (dTest (dOp oNe (dOp oIx (dV 3) (dC (.int 0))) (dC (.str "name")))) (sAsg (dTup (dA (dV 4) (dA (dV 3) dA0))) (gTup (gCons (gName 3) (gCons (gName 4) gNil)))) sNext)
  (sSeq (sIf (dTest (dOp oEq (dOp oIx (dV 3) (dC (.int 0))) (dC (.str "name")))) (sSeq (sIf (dTest (dCall sp_stands_in (dA (dOp oIx (dV 3) (dC (.int 1))) (dA (dV 4) (dA (dV 2) dA0))))) (sRet (dC (.bl false))) sNext)
  (sSeq (sPutD (dV 2) (dOp oIx (dV 3) (dC (.int 1))) (dV 4))
  (sRet (dC (.bl true))))) sNext)
  (sSeq (sIf (dOr (dTest (dOp oNe (dOp oIx (dV 3) (dC (.int 1))) (dOp oIx (dV 4) (dC (.int 1))))) (dTest (dOp oNe (dUn oLen (dOp oIx (dV 3) (dC (.int 2)))) (dUn oLen (dOp oIx (dV 4) (dC (.int 2))))))) (sRet (dC (.bl false))) sNext)
  (sRet (dUn oAll (dComp (iZip (dOp oIx (dV 3) (dC (.int 2))) (dOp oIx (dV 4) (dC (.int 2)))) (gTup (gCons (gName 5) (gCons (gName 6) gNil))) dYes (dCall sp_joined (dA (dV 5) (dA (dV 6) (dA (dV 2) dA0)))) [5, 6]))))))))
def t_resolved (sp_resolved : Spec) (sp_known_as : Spec) : DS :=
  (sSeq (sAsg (dCall sp_known_as (dA (dV 0) (dA (dV 1) dA0))) (gName 3))
  (sSeq (sIf (dTest (dOp oEq (dOp oIx (dV 3) (dC (.int 0))) (dC (.str "name")))) (sRet (dTup (dA (dC (.str "name")) (dA (dSetd (dV 2) (dOp oIx (dV 3) (dC (.int 1))) (dUn oStr (dOp oAdd (dUn oLenD (dV 2)) (dC (.int 1))))) dA0)))) sNext)
  (sRet (dTup (dA (dC (.str "made")) (dA (dOp oIx (dV 3) (dC (.int 1))) (dA (dUn oTuple (dComp (iSeq (dOp oIx (dV 3) (dC (.int 2)))) (gName 4) dYes (dCall sp_resolved (dA (dV 4) (dA (dV 1) (dA (dV 2) dA0)))) [4])) dA0)))))))
def t_common (sp_resolved : Spec) (sp_own_names : Spec) (sp_joined : Spec) (sp_side_of : Spec) : DS :=
  (sSeq (sAsg dNewD (gName 2))
  (sSeq (sIf (dTest (dOp oNe (dComp (iSeq (dOp oIx (dV 0) (dC (.int 0)))) (gName 3) dYes (dOp oIx (dV 3) (dC (.int 0))) [3]) (dComp (iSeq (dOp oIx (dV 1) (dC (.int 0)))) (gName 3) dYes (dOp oIx (dV 3) (dC (.int 0))) [3]))) (sRet (dC .non)) sNext)
  (sSeq (sFor (iZip (dOp oIx (dV 0) (dC (.int 0))) (dOp oIx (dV 1) (dC (.int 0)))) (gTup (gCons (gName 4) (gCons (gName 5) gNil))) (sIf (dNot (dTest (dCall sp_joined (dA (dCall sp_side_of (dA (dOp oIx (dV 4) (dC (.int 1))) (dA (dC (.str "a")) dA0))) (dA (dCall sp_side_of (dA (dOp oIx (dV 5) (dC (.int 1))) (dA (dC (.str "b")) dA0))) (dA (dV 2) dA0)))))) (sRet (dC .non)) sNext))
  (sSeq (sAsg dNewD (gName 6))
  (sSeq (sAsg (dNew dA0) (gName 7))
  (sSeq (sFor (iSeq (dTup (dA (dTup (dA (dV 0) (dA (dC (.str "a")) dA0))) (dA (dTup (dA (dV 1) (dA (dC (.str "b")) dA0))) dA0)))) (gTup (gCons (gName 8) (gCons (gName 9) gNil))) (sSeq (sAsg (dCall sp_own_names (dA (dV 8) dA0)) (gName 10))
  (sExpr (dMeth mAppend (dV 7) (dUn oTuple (dComp (iSeq (dV 10)) (gName 11) dYes (dTup (dA (dV 11) (dA (dCall sp_resolved (dA (dTup (dA (dC (.str "name")) (dA (dOp oAdd (dV 9) (dV 11)) dA0))) (dA (dV 2) (dA (dV 6) dA0)))) dA0))) [11]))))))
  (sRet (dTup (dA (dOp oIx (dV 7) (dC (.int 0))) (dA (dOp oIx (dV 7) (dC (.int 1))) dA0))))))))))
def t__law_deck : DS :=
  (sSeq (sAsg (dOp oAdd (dComp (iSeq (dCut (dV 0) dNoPart (dPart (dC (.int 63))))) (gName 2) dYes (dUn oAbs (dV 2)) [2]) (dOp oMul (dLst (dA (dC (.int 0)) dA0)) (dUn oInt (dOp oEq (dUn oLen (dV 0)) (dC (.int 0)))))) (gName 1))
  (sRet (dNew (dA (dV 1) (dA (dC (.int 0)) (dA (dCompN (iSeq (dV 1)) (gName 2) dYes (dOp oMul (dV 2) (dUn oInt (dOp oGe (dV 2) (dOp oPow (dC (.int 10)) (dC (.int 18)))))) [2]) dA0))))))
def t__law_next : DS :=
  (sSeq (sAsg (dV 0) (gLst (gCons (gName 1) (gCons (gName 2) (gCons (gName 3) gNil)))))
  (sSeq (sAsg (dOp oMod (dV 2) (dUn oLen (dV 1))) (gName 4))
  (sSeq (sAsg (dOp oAdd (dV 2) (dC (.int 1))) (gSub (dV 0) (dC (.int 1))))
  (sSeq (sIf (dTest (dOp oGt (dOp oIx (dV 3) (dV 4)) (dC (.int 0)))) (sSeq (sAsg (dOp oMod (dOp oIx (dV 3) (dV 4)) (dC (.int 1000))) (gName 5))
  (sSeq (sAsg (dOp oFdiv (dOp oIx (dV 3) (dV 4)) (dC (.int 1000))) (gSub (dV 3) (dV 4)))
  (sRet (dV 5)))) sNext)
  (sSeq (sAsg (dLst (dA (dC (.int 2147483629)) (dA (dC (.int 2147483587)) (dA (dC (.int 2147483579)) (dA (dC (.int 2147483563)) (dA (dC (.int 2147483549)) (dA (dC (.int 2147483543)) (dA (dC (.int 2147483497)) dA0)))))))) (gName 6))
  (sSeq (sAsg (dOp oMod (dOp oIx (dV 1) (dOp oMod (dOp oAdd (dOp oAdd (dOp oMul (dV 4) (dV 4)) (dV 2)) (dC (.int 1))) (dUn oLen (dV 1)))) (dC (.int 1000003))) (gName 7))
  (sSeq (sAsg (dOp oAdd (dOp oAdd (dOp oAdd (dOp oMod (dOp oIx (dV 1) (dV 4)) (dC (.int 2147483647))) (dOp oMul (dC (.int 69621)) (dV 2))) (dOp oMul (dC (.int 7919)) (dV 7))) (dC (.int 91193))) (gName 8))
  (sSeq (sAsg (dOp oMod (dOp oPow (dV 8) (dC (.int 3))) (dOp oIx (dV 6) (dOp oMod (dV 2) (dC (.int 7))))) (gName 8))
  (sRet (dOp oMod (dOp oFdiv (dOp oMod (dOp oPow (dOp oAdd (dV 8) (dOp oMul (dC (.int 7907)) (dV 2))) (dC (.int 2))) (dC (.int 2147483477))) (dC (.int 1009))) (dC (.int 1000))))))))))))
def t__law_word : DS :=
  (sSeq (sAsg (dC (.str "abcdefghijklmnopqrstuvwxyz")) (gName 3))
  (sSeq (sAsg (dOp oMul (dOp oIx (dV 3) (dOp oMod (dOp oFdiv (dV 1) (dC (.int 26))) (dC (.int 26)))) (dOp oMod (dOp oMul (dV 2) (dV 1)) (dC (.int 3)))) (gName 4))
  (sRet (dOp oAdd (dOp oAdd (dV 0) (dOp oIx (dV 3) (dOp oMod (dOp oAdd (dV 1) (dOp oMul (dC (.int 5)) (dV 2))) (dC (.int 26))))) (dV 4)))))
def t__law_kinds (sp__law_word : Spec) (sp__law_next : Spec) : DS :=
  (sSeq (sAsg (dCall sp__law_next (dA (dV 0) dA0)) (gName 1))
  (sSeq (sAsg (dCall sp__law_next (dA (dV 0) dA0)) (gName 2))
  (sSeq (sAsg (dComp (iRange (dOp oAdd (dC (.int 1)) (dOp oMod (dV 1) (dC (.int 3))))) (gName 4) dYes (dCall sp__law_word (dA (dC (.str "k")) (dA (dV 2) (dA (dV 4) dA0)))) [4]) (gName 3))
  (sSeq (sAsg (dNew dA0) (gName 5))
  (sSeq (sAsg (dC (.int 0)) (gName 6))
  (sSeq (sFor (iSeq (dV 3)) (gName 7) (sSeq (sAsg (dNew dA0) (gName 8))
  (sSeq (sAsg (dCall sp__law_next (dA (dV 0) dA0)) (gName 9))
  (sSeq (sFor (iRange (dOp oIx (dLst (dA (dC (.int 2)) (dA (dC (.int 2)) (dA (dC (.int 3)) (dA (dC (.int 3)) (dA (dC (.int 1)) (dA (dC (.int 2)) dA0))))))) (dOp oMod (dV 9) (dC (.int 6))))) (gName 4) (sSeq (sAsg (dNew dA0) (gName 10))
  (sSeq (sFor (iRange (dOp oMul (dOp oIx (dLst (dA (dC (.int 0)) (dA (dC (.int 1)) (dA (dC (.int 1)) (dA (dC (.int 2)) (dA (dC (.int 2)) (dA (dC (.int 3)) dA0))))))) (dOp oMod (dCall sp__law_next (dA (dV 0) dA0)) (dC (.int 6)))) (dUn oInt (dOp oGt (dV 4) (dC (.int 0)))))) (gName 11) (sSeq (sAsg (dCall sp__law_next (dA (dV 0) dA0)) (gName 12))
  (sExpr (dMeth mAppend (dV 10) (dOp oIx (dOp oAdd (dOp oAdd (dLst (dA (dV 7) (dA (dV 7) dA0))) (dV 3)) (dLst (dA (dC (.str "truth")) dA0))) (dOp oMod (dV 12) (dOp oAdd (dUn oLen (dV 3)) (dC (.int 3)))))))))
  (sSeq (sExpr (dMeth mAppend (dV 8) (dTup (dA (dCall sp__law_word (dA (dC (.str "m")) (dA (dV 2) (dA (dV 6) dA0)))) (dA (dUn oTuple (dV 10)) dA0)))))
  (sAsg (dOp oAdd (dV 6) (dC (.int 1))) (gName 6))))))
  (sExpr (dMeth mAppend (dV 5) (dTup (dA (dV 7) (dA (dUn oTuple (dV 8)) dA0)))))))))
  (sRet (dUn oTuple (dV 5)))))))))
def t__law_makers : DS :=
  (sSeq (sFor (iSeq (dV 0)) (gTup (gCons (gName 2) (gCons (gName 3) gNil))) (sIf (dTest (dOp oEq (dV 2) (dV 1))) (sRet (dV 3)) sNext))
  (sRet (dTup (dA (dTup (dA (dC (.str "yes")) (dA (dTup dA0) dA0))) (dA (dTup (dA (dC (.str "no")) (dA (dTup dA0) dA0))) dA0)))))
def t__law_filled (sp__law_filled : Spec) : DS :=
  (sSeq (sIf (dTest (dOp oEq (dOp oIx (dV 0) (dC (.int 0))) (dC (.str "name")))) (sSeq (sFor (iSeq (dV 1)) (gTup (gCons (gName 2) (gCons (gName 3) gNil))) (sIf (dTest (dOp oEq (dV 2) (dOp oIx (dV 0) (dC (.int 1))))) (sRet (dV 3)) sNext))
  (sRet (dV 0))) sNext)
  (sSeq (sIf (dOr (dTest (dOp oEq (dOp oIx (dV 0) (dC (.int 0))) (dC (.str "made")))) (dTest (dOp oEq (dOp oIx (dV 0) (dC (.int 0))) (dC (.str "call"))))) (sRet (dTup (dA (dOp oIx (dV 0) (dC (.int 0))) (dA (dOp oIx (dV 0) (dC (.int 1))) (dA (dUn oTuple (dComp (iSeq (dOp oIx (dV 0) (dC (.int 2)))) (gName 4) dYes (dCall sp__law_filled (dA (dV 4) (dA (dV 1) dA0))) [4])) dA0))))) sNext)
  (sRet (dOp oAdd (dCut (dV 0) dNoPart (dPart (dC (.int 1)))) (dUn oTuple (dComp (iSeq (dCut (dV 0) (dPart (dC (.int 1))) dNoPart)) (gName 4) dYes (dCall sp__law_filled (dA (dV 4) (dA (dV 1) dA0))) [4]))))))
def t__law_same (sp__law_same : Spec) : DS :=
  (sSeq (sIf (dTest (dUn (oIsi "tuple") (dV 1))) (sSeq (sIf (dOr (dNot (dTest (dUn (oIsi "tuple") (dV 0)))) (dTest (dOp oNe (dUn oLen (dV 0)) (dUn oLen (dV 1))))) (sRet (dC (.bl false))) sNext)
  (sRet (dUn oAll (dComp (iZip (dV 0) (dV 1)) (gTup (gCons (gName 2) (gCons (gName 3) gNil))) dYes (dCall sp__law_same (dA (dV 2) (dA (dV 3) dA0))) [2, 3])))) sNext)
  (sSeq (sIf (dTest (dUn oIsN (dV 1))) (sRet (dUn oIsN (dV 0))) sNext)
  (sSeq (sIf (dTest (dUn (oIsi "str") (dV 1))) (sRet (dAndV (dUn (oIsi "str") (dV 0)) (dOp oEq (dV 0) (dV 1)))) sNext)
  (sRet (dAndV (dUn (oIsi "int") (dV 0)) (dAndV (dNotV (dUn (oIsi "bool") (dV 0))) (dOp oEq (dV 0) (dV 1))))))))
def t__law_open (sp__law_open : Spec) (sp__law_makers : Spec) (sp__law_next : Spec) : DS :=
  (sSeq (sAsg (dCall sp__law_next (dA (dV 0) dA0)) (gName 5))
  (sSeq (sAsg (dComp (iRange (dUn oLen (dV 4))) (gName 7) (dTest (dOp oEq (dOp oIx (dV 4) (dV 7)) (dV 2))) (dUn oStr (dOp oAdd (dV 7) (dC (.int 1)))) [7]) (gName 6))
  (sSeq (sIf (dOr (dTest (dOp oEq (dOp oMod (dV 5) (dC (.int 3))) (dC (.int 0)))) (dAnd (dTest (dOp oEq (dV 3) (dC (.int 0)))) (dTest (dOp oEq (dOp oMod (dV 5) (dC (.int 2))) (dC (.int 0)))))) (sSeq (sIf (dAnd (dTest (dOp oNe (dV 6) (dLst dA0))) (dTest (dOp oGt (dOp oMod (dOp oFdiv (dV 5) (dC (.int 6))) (dC (.int 3))) (dC (.int 0))))) (sRet (dTup (dA (dC (.str "name")) (dA (dOp oIx (dV 6) (dOp oMod (dOp oFdiv (dV 5) (dC (.int 18))) (dUn oLen (dV 6)))) dA0)))) sNext)
  (sSeq (sExpr (dMeth mAppend (dV 4) (dV 2)))
  (sRet (dTup (dA (dC (.str "name")) (dA (dUn oStr (dUn oLen (dV 4))) dA0)))))) sNext)
  (sSeq (sAsg (dCall sp__law_makers (dA (dV 1) (dA (dV 2) dA0))) (gName 8))
  (sSeq (sAsg (dOp oIx (dV 8) (dOp oMod (dOp oFdiv (dV 5) (dC (.int 6))) (dUn oLen (dV 8)))) (gTup (gCons (gName 9) (gCons (gName 10) gNil))))
  (sSeq (sIf (dTest (dOp oEq (dV 3) (dC (.int 0)))) (sAsg (dOp oIx (dV 8) (dC (.int 0))) (gTup (gCons (gName 9) (gCons (gName 10) gNil)))) sNext)
  (sRet (dTup (dA (dC (.str "made")) (dA (dV 9) (dA (dUn oTuple (dComp (iSeq (dV 10)) (gName 11) dYes (dCall sp__law_open (dA (dV 0) (dA (dV 1) (dA (dV 11) (dA (dOp oMax (dC (.int 0)) (dOp oSub (dV 3) (dC (.int 1)))) (dA (dV 4) dA0)))))) [11])) dA0)))))))))))
def t__law_open_fills (sp__law_open : Spec) (sp__law_next : Spec) : DS :=
  (sSeq (sAsg (dOp oSub (dC (.int 3)) (dOp oFdiv (dUn oLen (dV 2)) (dC (.int 3)))) (gName 4))
  (sRet (dUn oTuple (dComp (iSeq (dV 2)) (gTup (gCons (gName 5) (gCons (gName 6) gNil))) dYes (dTup (dA (dV 5) (dA (dCall sp__law_open (dA (dV 0) (dA (dV 1) (dA (dV 6) (dA (dOp oMod (dCall sp__law_next (dA (dV 0) dA0)) (dV 4)) (dA (dV 3) dA0)))))) dA0))) [5, 6]))))
def t__law_asked_names (sp__law_next : Spec) : DS :=
  (sSeq (sAsg (dOp oAdd (dComp (iSeq (dV 1)) (gName 3) dYes (dOp oIx (dV 3) (dC (.int 0))) [3]) (dLst (dA (dC (.str "truth")) dA0))) (gName 2))
  (sSeq (sAsg (dOp oAdd (dC (.int 1)) (dOp oMod (dCall sp__law_next (dA (dV 0) dA0)) (dC (.int 4)))) (gName 4))
  (sRet (dUn oTuple (dComp (iRange (dV 4)) (gName 5) dYes (dTup (dA (dOp oIx (dLst (dA (dC (.str "x")) (dA (dC (.str "yy")) (dA (dC (.str "zeta")) (dA (dC (.str "b")) dA0))))) (dV 5)) (dA (dOp oIx (dV 2) (dOp oMod (dCall sp__law_next (dA (dV 0) dA0)) (dUn oLen (dV 2)))) dA0))) [5])))))
def t__law_sided (sp__law_sided : Spec) : DS :=
  (sSeq (sIf (dTest (dOp oEq (dOp oIx (dV 0) (dC (.int 0))) (dC (.str "name")))) (sRet (dTup (dA (dC (.str "name")) (dA (dOp oAdd (dV 1) (dOp oIx (dV 0) (dC (.int 1)))) dA0)))) sNext)
  (sRet (dTup (dA (dC (.str "made")) (dA (dOp oIx (dV 0) (dC (.int 1))) (dA (dUn oTuple (dComp (iSeq (dOp oIx (dV 0) (dC (.int 2)))) (gName 2) dYes (dCall sp__law_sided (dA (dV 2) (dA (dV 1) dA0))) [2])) dA0))))))
def t__law_now : DS :=
  (sSeq (sWhile (dAnd (dTest (dOp oEq (dOp oIx (dV 0) (dC (.int 0))) (dC (.str "name")))) (dTest (dOp oInD (dOp oIx (dV 0) (dC (.int 1))) (dV 1)))) (sAsg (dOp oIxD (dV 1) (dOp oIx (dV 0) (dC (.int 1)))) (gName 0)))
  (sRet (dV 0)))
def t__law_within (sp__law_within : Spec) (sp__law_now : Spec) : DS :=
  (sSeq (sAsg (dCall sp__law_now (dA (dV 1) (dA (dV 2) dA0))) (gName 1))
  (sSeq (sIf (dTest (dOp oEq (dOp oIx (dV 1) (dC (.int 0))) (dC (.str "name")))) (sRet (dOp oEq (dOp oIx (dV 1) (dC (.int 1))) (dV 0))) sNext)
  (sRet (dOp oIn (dC (.bl true)) (dComp (iSeq (dOp oIx (dV 1) (dC (.int 2)))) (gName 3) dYes (dCall sp__law_within (dA (dV 0) (dA (dV 3) (dA (dV 2) dA0)))) [3])))))
def t__law_alike (sp__law_alike : Spec) (sp__law_within : Spec) (sp__law_now : Spec) : DS :=
  (sSeq (sAsg (dTup (dA (dCall sp__law_now (dA (dV 0) (dA (dV 2) dA0))) (dA (dCall sp__law_now (dA (dV 1) (dA (dV 2) dA0))) dA0))) (gTup (gCons (gName 0) (gCons (gName 1) gNil))))
  (sSeq (sIf (dTest (dOp oEq (dV 0) (dV 1))) (sRet (dC (.bl true))) sNext)
  (sSeq (sIf (dOr (dTest (dOp oEq (dOp oIx (dV 0) (dC (.int 0))) (dC (.str "name")))) (dTest (dOp oEq (dOp oIx (dV 1) (dC (.int 0))) (dC (.str "name"))))) (sSeq (sAsg (dTup (dA (dOp oIx (dV 0) (dC (.int 1))) (dA (dV 1) dA0))) (gTup (gCons (gName 3) (gCons (gName 4) gNil))))
  (sSeq (sIf (dTest (dOp oNe (dOp oIx (dV 0) (dC (.int 0))) (dC (.str "name")))) (sAsg (dTup (dA (dOp oIx (dV 1) (dC (.int 1))) (dA (dV 0) dA0))) (gTup (gCons (gName 3) (gCons (gName 4) gNil)))) sNext)
  (sSeq (sIf (dTest (dCall sp__law_within (dA (dV 3) (dA (dV 4) (dA (dV 2) dA0))))) (sRet (dC (.bl false))) sNext)
  (sSeq (sPutD (dV 2) (dV 3) (dV 4))
  (sRet (dC (.bl true))))))) sNext)
  (sSeq (sIf (dTest (dOp oNe (dOp oIx (dV 0) (dC (.int 1))) (dOp oIx (dV 1) (dC (.int 1))))) (sRet (dC (.bl false))) sNext)
  (sSeq (sFor (iZip (dOp oIx (dV 0) (dC (.int 2))) (dOp oIx (dV 1) (dC (.int 2)))) (gTup (gCons (gName 5) (gCons (gName 6) gNil))) (sIf (dNot (dTest (dCall sp__law_alike (dA (dV 5) (dA (dV 6) (dA (dV 2) dA0)))))) (sRet (dC (.bl false))) sNext))
  (sRet (dC (.bl true))))))))
def t__law_can (sp__law_alike : Spec) (sp__law_sided : Spec) : DS :=
  (sSeq (sAsg dNewD (gName 2))
  (sSeq (sFor (iZip (dOp oIx (dV 0) (dC (.int 0))) (dOp oIx (dV 1) (dC (.int 0)))) (gTup (gCons (gName 3) (gCons (gName 4) gNil))) (sIf (dNot (dTest (dCall sp__law_alike (dA (dCall sp__law_sided (dA (dOp oIx (dV 3) (dC (.int 1))) (dA (dC (.str "a")) dA0))) (dA (dCall sp__law_sided (dA (dOp oIx (dV 4) (dC (.int 1))) (dA (dC (.str "b")) dA0))) (dA (dV 2) dA0)))))) (sRet (dC (.bl false))) sNext))
  (sRet (dC (.bl true)))))
def t__law_is_new (sp__law_is_new : Spec) : DS :=
  (sSeq (sIf (dOr (dNot (dTest (dUn (oIsi "tuple") (dV 0)))) (dOr (dTest (dOp oNotIn (dUn oLen (dV 0)) (dTup (dA (dC (.int 2)) (dA (dC (.int 3)) dA0))))) (dNot (dTest (dUn (oIsi "str") (dOp oIx (dV 0) (dC (.int 0)))))))) (sRet (dC (.bl false))) sNext)
  (sSeq (sIf (dAnd (dTest (dOp oEq (dOp oIx (dV 0) (dC (.int 0))) (dC (.str "name")))) (dAnd (dTest (dOp oEq (dUn oLen (dV 0)) (dC (.int 2)))) (dTest (dUn (oIsi "str") (dOp oIx (dV 0) (dC (.int 1))))))) (sSeq (sAsg (dComp (iSeq (dOp oIx (dV 0) (dC (.int 1)))) (gName 2) (dTest (dOp oNotIn (dV 2) (dC (.str "0123456789")))) (dV 2) [2]) (gName 1))
  (sRet (dAndV (dOp oEq (dV 1) (dLst dA0)) (dAndV (dChain oLe oLe (dC (.int 1)) (dUn oLen (dOp oIx (dV 0) (dC (.int 1)))) (dC (.int 3))) (dOp oNe (dOp oIx (dOp oIx (dV 0) (dC (.int 1))) (dC (.int 0))) (dC (.str "0"))))))) sNext)
  (sSeq (sIf (dOr (dTest (dOp oNe (dOp oIx (dV 0) (dC (.int 0))) (dC (.str "made")))) (dOr (dTest (dOp oNe (dUn oLen (dV 0)) (dC (.int 3)))) (dOr (dNot (dTest (dUn (oIsi "str") (dOp oIx (dV 0) (dC (.int 1)))))) (dNot (dTest (dUn (oIsi "tuple") (dOp oIx (dV 0) (dC (.int 2))))))))) (sRet (dC (.bl false))) sNext)
  (sRet (dUn oAll (dComp (iSeq (dOp oIx (dV 0) (dC (.int 2)))) (gName 3) dYes (dCall sp__law_is_new (dA (dV 3) dA0)) [3]))))))
def t__law_is_half (sp__law_is_new : Spec) (sp__law_same : Spec) : DS :=
  (sSeq (sIf (dOr (dNot (dTest (dUn (oIsi "tuple") (dV 0)))) (dTest (dOp oNe (dUn oLen (dV 0)) (dV 1)))) (sRet (dC (.bl false))) sNext)
  (sSeq (sFor (iEnum (dV 0)) (gTup (gCons (gName 2) (gCons (gName 3) gNil))) (sSeq (sIf (dOr (dNot (dTest (dUn (oIsi "tuple") (dV 3)))) (dOr (dTest (dOp oNe (dUn oLen (dV 3)) (dC (.int 2)))) (dNot (dTest (dCall sp__law_same (dA (dOp oIx (dV 3) (dC (.int 0))) (dA (dUn oStr (dOp oAdd (dV 2) (dC (.int 1)))) dA0))))))) (sRet (dC (.bl false))) sNext)
  (sIf (dNot (dTest (dCall sp__law_is_new (dA (dOp oIx (dV 3) (dC (.int 1))) dA0)))) (sRet (dC (.bl false))) sNext)))
  (sRet (dC (.bl true)))))
def t__law_right (sp__law_same : Spec) (sp__law_filled : Spec) (sp__law_is_half : Spec) (sp__law_can : Spec) : DS :=
  (sSeq (sIf (dNot (dTest (dCall sp__law_can (dA (dV 1) (dA (dV 2) dA0))))) (sRet (dUn oIsN (dV 0))) sNext)
  (sSeq (sIf (dOr (dNot (dTest (dUn (oIsi "tuple") (dV 0)))) (dTest (dOp oNe (dUn oLen (dV 0)) (dC (.int 2))))) (sRet (dC (.bl false))) sNext)
  (sSeq (sIf (dOr (dNot (dTest (dCall sp__law_is_half (dA (dOp oIx (dV 0) (dC (.int 0))) (dA (dOp oIx (dV 3) (dC (.int 0))) dA0))))) (dNot (dTest (dCall sp__law_is_half (dA (dOp oIx (dV 0) (dC (.int 1))) (dA (dOp oIx (dV 3) (dC (.int 1))) dA0)))))) (sRet (dC (.bl false))) sNext)
  (sSeq (sFor (iZip (dOp oIx (dV 1) (dC (.int 0))) (dOp oIx (dV 2) (dC (.int 0)))) (gTup (gCons (gName 4) (gCons (gName 5) gNil))) (sIf (dNot (dTest (dCall sp__law_same (dA (dCall sp__law_filled (dA (dOp oIx (dV 4) (dC (.int 1))) (dA (dOp oIx (dV 0) (dC (.int 0))) dA0))) (dA (dCall sp__law_filled (dA (dOp oIx (dV 5) (dC (.int 1))) (dA (dOp oIx (dV 0) (dC (.int 1))) dA0))) dA0))))) (sRet (dC (.bl false))) sNext))
  (sRet (dC (.bl true)))))))
def t__law_second (sp__law_varied : Spec) : DS :=
  (sSeq (sAsg (dNew dA0) (gName 5))
  (sSeq (sAsg dNewD (gName 6))
  (sSeq (sAsg (dNew dA0) (gName 7))
  (sSeq (sFor (iZip (dV 2) (dV 3)) (gTup (gCons (gTup (gCons (gName 8) (gCons (gName 9) gNil))) (gCons (gTup (gCons (gName 10) (gCons (gName 11) gNil))) gNil))) (sExpr (dMeth mAppend (dV 7) (dTup (dA (dV 8) (dA (dCall sp__law_varied (dA (dV 0) (dA (dV 1) (dA (dV 11) (dA (dV 9) (dA (dV 5) (dA (dV 6) dA0))))))) dA0))))))
  (sSeq (sFz 5 (sExpr (dMeth mExtend (dV 4) (dV 5))))
  (sRet (dUn oTuple (dV 7))))))))
def t__law_varied (sp__law_varied : Spec) (sp__law_makers : Spec) (sp__law_open : Spec) (sp__law_next : Spec) : DS :=
  (sSeq (sAsg (dCall sp__law_next (dA (dV 0) dA0)) (gName 6))
  (sSeq (sIf (dTest (dOp oEq (dOp oMod (dV 6) (dC (.int 8))) (dC (.int 0)))) (sRet (dCall sp__law_open (dA (dV 0) (dA (dV 1) (dA (dV 3) (dA (dC (.int 1)) (dA (dV 4) dA0))))))) sNext)
  (sSeq (sIf (dTest (dOp oEq (dOp oIx (dV 2) (dC (.int 0))) (dC (.str "name")))) (sSeq (sIf (dTest (dOp oNotInD (dOp oIx (dV 2) (dC (.int 1))) (dV 5))) (sSeq (sExpr (dMeth mAppend (dV 4) (dV 3)))
  (sPutD (dV 5) (dOp oIx (dV 2) (dC (.int 1))) (dUn oStr (dUn oLen (dV 4))))) sNext)
  (sRet (dTup (dA (dC (.str "name")) (dA (dOp oIxD (dV 5) (dOp oIx (dV 2) (dC (.int 1)))) dA0))))) sNext)
  (sSeq (sAsg (dOp oIx (dComp (iSeq (dCall sp__law_makers (dA (dV 1) (dA (dV 3) dA0)))) (gName 8) (dTest (dOp oEq (dOp oIx (dV 8) (dC (.int 0))) (dOp oIx (dV 2) (dC (.int 1))))) (dOp oIx (dV 8) (dC (.int 1))) [8]) (dC (.int 0))) (gName 7))
  (sRet (dTup (dA (dC (.str "made")) (dA (dOp oIx (dV 2) (dC (.int 1))) (dA (dUn oTuple (dComp (iZip (dOp oIx (dV 2) (dC (.int 2))) (dV 7)) (gTup (gCons (gName 9) (gCons (gName 10) gNil))) dYes (dCall sp__law_varied (dA (dV 0) (dA (dV 1) (dA (dV 9) (dA (dV 10) (dA (dV 4) (dA (dV 5) dA0))))))) [9, 10])) dA0)))))))))
def t_law (sp_common : Spec) (sp__law_right : Spec) (sp__law_next : Spec) (sp__law_open_fills : Spec) (sp__law_second : Spec) (sp__law_asked_names : Spec) (sp__law_kinds : Spec) (sp__law_deck : Spec) : DS :=
  (sSeq (sAsg (dCall sp__law_deck (dA (dV 0) dA0)) (gName 1))
  (sSeq (sAsg (dCall sp__law_kinds (dA (dV 1) dA0)) (gName 2))
  (sSeq (sAsg (dCall sp__law_asked_names (dA (dV 1) (dA (dV 2) dA0))) (gName 3))
  (sSeq (sFor (iRange (dC (.int 3))) (gName 4) (sSeq (sAsg (dNew dA0) (gName 5))
  (sSeq (sAsg (dTup (dA (dCall sp__law_open_fills (dA (dV 1) (dA (dV 2) (dA (dV 3) (dA (dV 5) dA0))))) (dA (dTup (dA (dC (.str "made")) (dA (dC (.str "yes")) (dA (dTup dA0) dA0)))) (dA (dTup (dA (dC (.str "skip")) dA0)) (dA (dC (.int 0)) (dA (dTup dA0) dA0)))))) (gName 6))
  (sSeq (sAsg (dNew dA0) (gName 7))
  (sSeq (sIf (dTest (dOp oEq (dOp oMod (dCall sp__law_next (dA (dV 1) dA0)) (dC (.int 3))) (dC (.int 0)))) (sAsg (dCall sp__law_open_fills (dA (dV 1) (dA (dV 2) (dA (dV 3) (dA (dV 7) dA0))))) (gName 8)) (sAsg (dCall sp__law_second (dA (dV 1) (dA (dV 2) (dA (dV 3) (dA (dOp oIx (dV 6) (dC (.int 0))) (dA (dV 7) dA0)))))) (gName 8)))
  (sSeq (sAsg (dTup (dA (dV 8) (dA (dTup (dA (dC (.str "made")) (dA (dC (.str "no")) (dA (dTup dA0) dA0)))) (dA (dTup (dA (dC (.str "skip")) dA0)) (dA (dC (.int 1)) (dA (dTup dA0) dA0)))))) (gName 9))
  (sSeq (sIf (dNot (dTest (dCall sp__law_right (dA (dCall sp_common (dA (dV 6) (dA (dV 9) dA0))) (dA (dV 6) (dA (dV 9) (dA (dTup (dA (dUn oLen (dV 5)) (dA (dUn oLen (dV 7)) dA0))) dA0))))))) (sRet (dC (.bl false))) sNext)
  (sSeq (sIf (dNot (dTest (dCall sp__law_right (dA (dCall sp_common (dA (dV 9) (dA (dV 6) dA0))) (dA (dV 9) (dA (dV 6) (dA (dTup (dA (dUn oLen (dV 7)) (dA (dUn oLen (dV 5)) dA0))) dA0))))))) (sRet (dC (.bl false))) sNext)
  (sIf (dOr (dTest (dUn oIsN (dCall sp_common (dA (dV 6) (dA (dV 6) dA0))))) (dNot (dTest (dCall sp__law_right (dA (dCall sp_common (dA (dV 6) (dA (dV 6) dA0))) (dA (dV 6) (dA (dV 6) (dA (dTup (dA (dUn oLen (dV 5)) (dA (dUn oLen (dV 5)) dA0))) dA0)))))))) (sRet (dC (.bl false))) sNext)))))))))
  (sRet (dC (.bl true)))))))
/-! ### draws -/
/-- the deck at dk has room for at least b - B draws more, all else is as it was -/
def Drew (kind : Nat) (M : Mem) (dk : Addr) (b B : Nat) (M' : Mem) : Prop := ∃ b', M' = mset M dk (.deck kind b') ∧ b ≤ b' + B
theorem Drew.refl {kind : Nat} {M : Mem} {dk : Addr} {b : Nat} (h : M dk = some (.deck kind b)) : Drew kind M dk b 0 M := ⟨b, (mset_self h).symm, Nat.le_refl _⟩
def sp_next (kind : Nat) (top : Int) : Spec := ⟨fun ds M => ∃ dk b, ds = [.ref dk] ∧ M dk = some (.deck kind b) ∧ 1 ≤ b,
  fun ds M d M' => ∀ dk b, ds = [.ref dk] → M dk = some (.deck kind b) → ∃ n : Int, d = .int n ∧ 0 ≤ n ∧ n < top ∧ Drew kind M dk b 1 M'⟩
/-- one draw, wherever it is asked -/
theorem draw {kind : Nat} {top : Int} {M : Mem} {dk : Addr} {b : Nat} {Q : DK} (h : M dk = some (.deck kind b)) (hb : 1 ≤ b) (q : ∀ (n : Int) (b' : Nat), 0 ≤ n → n < top → b ≤ b' + 1 → Q (.int n) (mset M dk (.deck kind b'))) :
    (sp_next kind top).pre [.ref dk] M ∧ ∀ d M', (sp_next kind top).post [.ref dk] M d M' → Q d M' := by
  refine ⟨⟨dk, b, rfl, h, hb⟩, fun d M' p => ?_⟩
  obtain ⟨n, rfl, h0, h1, b', rfl, hb'⟩ := p dk b rfl h
  exact q n b' h0 h1 hb'
def sp_deck (kind room : Nat) : Spec := ⟨fun ds M => ∃ ns : List Int, ds = [.rol (ns.map D.int)] ∧ ns.length ≤ 63 ∧ M = fun _ => none, fun _ _ d M' => ∃ dk, d = .ref dk ∧ M' dk = some (.deck kind room)⟩
/-! ### picking -/
theorem atI_mem {α : Type} {xs : List α} {i : Int} (h0 : 0 ≤ i) (h1 : i < xs.length) : ∃ v, atI xs i = some v ∧ v ∈ xs := by
  have h : i.toNat < xs.length := by omega
  refine ⟨xs[i.toNat], ?_, List.getElem_mem h⟩
  unfold atI ixN
  rw [if_pos h0, if_pos h1]
  simp [h]
theorem atI_nat' {α : Type} {xs : List α} {i : Nat} (h : i < xs.length) : atI xs (i : Int) = some xs[i] := by
  unfold atI ixN
  rw [if_pos (by omega), if_pos (by omega)]
  simp [h]
@[simp] theorem atI_ite {α : Type} (c : Prop) [Decidable c] (a b : α) : atI [a, b] (if c then (1 : Int) else 0) = some (if c then b else a) := by
  by_cases h : c
  · simp [h, atI, ixN]
  · simp [h, atI, ixN]
def upFrom : Nat → Nat → List D
  | _, 0 => []
  | k, n + 1 => .int (k : Int) :: upFrom (k + 1) n
theorem upFrom_eq (k n : Nat) : upFrom k n = (List.range' k n).map fun (i : Nat) => D.int (i : Int) := by
  induction n generalizing k with
  | zero => rfl
  | succ n ih => simp [upFrom, List.range'_succ, ih]
theorem upTo_eq (n : Nat) : upTo n = upFrom 0 n := by
  rw [upFrom_eq]
  unfold upTo
  rw [List.range_eq_range']
@[simp] theorem upFrom_length (k n : Nat) : (upFrom k n).length = n := by
  rw [upFrom_eq]; simp
@[simp] theorem upTo_length (n : Nat) : (upTo n).length = n := by simp [upTo]
theorem mod_pos (a : Int) {m : Int} (h : 0 < m) : 0 ≤ a % m ∧ a % m < m := ⟨Int.emod_nonneg a (by omega), Int.emod_lt_of_pos a h⟩
theorem alpha_cps : (Str.ofString "abcdefghijklmnopqrstuvwxyz").cps.toList = [97, 98, 99, 100, 101, 102, 103, 104, 105, 106, 107, 108, 109, 110, 111, 112, 113, 114, 115, 116, 117, 118, 119, 120, 121, 122] := by decide +kernel
theorem alpha_len : (Str.ofString "abcdefghijklmnopqrstuvwxyz").length = 26 := by decide +kernel
theorem one_len (c : Nat) : (⟨#[c]⟩ : Str).length = 1 := rfl
theorem strOk_rep {x : Str} (h : strOk x = true) : ∀ n : Nat, strOk (repS n x) = true := by
  have f : ∀ (n : Nat) (a : Array Nat), a.all (· < 0x110000) = true → ((List.replicate n x.cps).foldl (· ++ ·) a).all (· < 0x110000) = true := by
    intro n
    induction n with
    | zero => intro a ha; simpa using ha
    | succ n ih =>
      intro a ha
      rw [List.replicate_succ, List.foldl_cons]
      refine ih _ ?_
      rw [Array.all_append, ha]
      exact h
  intro n
  exact f n #[] (by simp)
theorem repS_length (x : Str) : ∀ n : Nat, (repS n x).length = n * x.length := by
  have f : ∀ (n : Nat) (a : Array Nat), ((List.replicate n x.cps).foldl (· ++ ·) a).size = a.size + n * x.cps.size := by
    intro n
    induction n with
    | zero => intro a; simp
    | succ n ih =>
      intro a
      rw [List.replicate_succ, List.foldl_cons, ih, Array.size_append, Nat.succ_mul]
      omega
  intro n
  have := f n #[]
  simp only [Array.size_empty, Nat.zero_add] at this
  exact this
theorem mset4 {M : Mem} {a p : Addr} (h : p ≠ a) (o1 o2 o3 o4 : MO) : mset (mset (mset (mset M a o1) p o2) a o3) p o4 = mset (mset M a o3) p o4 := by
  rw [mset_comm (a := p) (b := a) h, mset_mset, mset_mset]
theorem Sub.upd {M M' : Mem} (s : Sub M M') {p : Addr} {o : MO} (h : M p = none) (so : soft (some o)) : Sub M (DL.mset M' p o) := fun b => by
  by_cases e : b = p
  · subst e; rw [mset_same]; exact .inr ⟨h, so⟩
  · rw [mset_ne e]; exact s b
/-! memory behind some draws: lists that are new may lie about -/
structure KS (kind : Nat) (M M1 : Mem) (dk : Addr) (b : Nat) : Prop where
  sub : Sub (mset M dk (.deck kind b)) M1
theorem KS.deck {kind : Nat} {M M1 : Mem} {dk : Addr} {b : Nat} (s : KS kind M M1 dk b) : M1 dk = some (.deck kind b) := by
  rcases s.sub dk with h | h
  · rw [← h, mset_same]
  · rw [mset_same] at h; cases h.1
theorem KS.start {kind : Nat} {M : Mem} {dk : Addr} {b : Nat} (h : M dk = some (.deck kind b)) : KS kind M M dk b := ⟨by rw [mset_self h]; exact Sub.refl _⟩
theorem KS.draw {kind : Nat} {M M1 : Mem} {dk : Addr} {b : Nat} (s : KS kind M M1 dk b) (b' : Nat) : KS kind M (mset M1 dk (.deck kind b')) dk b' := ⟨by
  have := s.sub.mset dk (.deck kind b')
  rw [mset_mset] at this
  exact this⟩
theorem KS.fresh {kind : Nat} {M M1 : Mem} {dk p : Addr} {b : Nat} (s : KS kind M M1 dk b) (h : M1 p = none) : p ≠ dk ∧ M p = none := by
  have h1 : p ≠ dk := fun e => by rw [e, s.deck] at h; cases h
  refine ⟨h1, ?_⟩
  rcases s.sub p with z | z
  · rw [mset_ne h1] at z; rw [z, h]
  · have := z.1; rw [mset_ne h1] at this; exact this
theorem KS.upd {kind : Nat} {M M1 : Mem} {dk p : Addr} {b : Nat} (s : KS kind M M1 dk b) (h : p ≠ dk ∧ M p = none) (xs : List D) : KS kind M (mset M1 p (.lst xs)) dk b := ⟨s.sub.upd (by rw [mset_ne h.1]; exact h.2) trivial⟩
theorem atI_zero {α : Type} (x : α) (r : List α) : atI (x :: r) 0 = some x := by
  have : (0 : Int) < ((x :: r).length : Int) := by simp
  simp only [atI, ixN, Int.le_refl, if_true, if_pos this]
  rfl
theorem atI3_0 (x y z : D) : atI [x, y, z] 0 = some x := rfl
theorem atI3_1 (x y z : D) : atI [x, y, z] 1 = some y := rfl
theorem atI3_2 (x y z : D) : atI [x, y, z] 2 = some z := rfl
theorem ixN3 : ixN 3 2 = some 2 := rfl
theorem atI2_0 (x y : D) : atI [x, y] 0 = some x := rfl
theorem atI2_1 (x y : D) : atI [x, y] 1 = some y := rfl
def intsD (ns : List Int) : List D := ns.map D.int
/-! ### loops and comprehensions, by what is kept -/
/-- a comprehension, item by item -/
theorem compL {α : Type} (e : α → D) {g : DG} {tt : DT} {te : DE} {ρ : Env} {Q : DK} (I : List D → List α → Mem → Prop)
    (step : ∀ acc x r M (R : List D → Mem → Prop), I acc (x :: r) M → (∀ acc' M', I acc' r M' → R acc' M') → g (e x) ρ M fun ρ1 M1 => tt ρ1 M1 fun b M2 => if b = true then te ρ1 M2 fun y M3 => R (acc ++ [y]) M3 else R acc M2)
    (fin : ∀ acc M, I acc [] M → Q (.lst acc) M) : ∀ (xs : List α) (acc : List D) (M : Mem), I acc xs M → dCompL g tt te ρ (xs.map e) acc M Q
  | [], acc, M, h => fin acc M h
  | x :: r, acc, M, h => step acc x r M (fun acc' M' => dCompL g tt te ρ (r.map e) acc' M' Q) h fun acc' M' h' => compL e I step fin r acc' M' h'
/-- a comprehension that changes nothing: each item by itself -/
theorem compF {α : Type} (e f : α → D) {g : DG} {te : DE} {ρ : Env} {Q : DK} {M : Mem} (xs : List α)
    (step : ∀ x ∈ xs, ∀ R : D → Mem → Prop, R (f x) M → g (e x) ρ M fun ρ1 M1 => te ρ1 M1 R)
    (fin : Q (.lst (xs.map f)) M) : dCompL g dYes te ρ (xs.map e) [] M Q := by
  refine compL e (fun acc r M' => ∃ l, xs = l ++ r ∧ acc = l.map f ∧ M' = M) ?_ ?_ xs [] M ⟨[], rfl, rfl, rfl⟩
  · rintro acc x r M' R ⟨l, rfl, rfl, rfl⟩ k
    exact step x (by simp) (fun y M3 => R (l.map f ++ [y]) M3) (k _ _ ⟨l ++ [x], by simp, by simp, rfl⟩)
  · rintro acc M' ⟨l, rfl, rfl, rfl⟩
    simpa using fin
/-- a comprehension with a test that changes nothing -/
theorem compT {α : Type} (e f : α → D) (c : α → Bool) {g : DG} {tt : DT} {te : DE} {ρ : Env} {Q : DK} {M : Mem} (xs : List α)
    (step : ∀ x ∈ xs, ∀ (R : D → Mem → Prop) (N : Mem → Prop), (c x = true → R (f x) M) → (c x = false → N M) → g (e x) ρ M fun ρ1 M1 => tt ρ1 M1 fun b M2 => if b = true then te ρ1 M2 R else N M2)
    (fin : Q (.lst ((xs.filter c).map f)) M) : dCompL g tt te ρ (xs.map e) [] M Q := by
  refine compL e (fun acc r M' => ∃ l, xs = l ++ r ∧ acc = (l.filter c).map f ∧ M' = M) ?_ ?_ xs [] M ⟨[], rfl, rfl, rfl⟩
  · rintro acc x r M' R ⟨l, rfl, rfl, rfl⟩ k
    refine step x (by simp) (fun y M3 => R ((l.filter c).map f ++ [y]) M3) (fun M3 => R ((l.filter c).map f) M3) (fun h => ?_) fun h => ?_
    · exact k _ _ ⟨l ++ [x], by simp, by simp [h], rfl⟩
    · exact k _ _ ⟨l ++ [x], by simp, by simp [h], rfl⟩
  · rintro acc M' ⟨l, rfl, rfl, rfl⟩
    simpa using fin
/-- a loop, turn by turn -/
theorem loopI {α : Type} (e : α → D) {g : DG} {b : DS} {E : DEnds} (I : List α → Env → Mem → Prop)
    (step : ∀ x r ρ M (N : Env → Mem → Prop), I (x :: r) ρ M → (∀ ρ' M', I r ρ' M' → N ρ' M') → g (e x) ρ M fun ρ1 M1 => b { E with nx := N, ct := N, bk := E.nx } ρ1 M1)
    (fin : ∀ ρ M, I [] ρ M → E.nx ρ M) : ∀ (xs : List α) (ρ : Env) (M : Mem), I xs ρ M → sLoop g b (xs.map e) E ρ M
  | [], ρ, M, h => fin ρ M h
  | x :: r, ρ, M, h => step x r ρ M (sLoop g b (r.map e) E) h fun ρ' M' h' => loopI e I step fin r ρ' M' h'
theorem zipD_map {α β : Type} (e : α → D) (f : β → D) : ∀ (xs : List α) (ys : List β), zipD (xs.map e) (ys.map f) = (xs.zip ys).map fun p => .tup [e p.1, f p.2]
  | [], _ => rfl
  | _ :: _, [] => rfl
  | x :: xs, y :: ys => by simp [zipD_map e f xs ys]
theorem enumD_map {α : Type} (e : α → D) : ∀ (xs : List α) (k : Nat), enumD k (xs.map e) = (xs.zipIdx k).map fun p => .tup [.int (p.2 : Int), e p.1]
  | [], _ => rfl
  | x :: xs, k => by simp [enumD_map e xs (k + 1)]
theorem says_map : ∀ ps : List Say, says ps = ps.map Say.d
  | [] => rfl
  | s :: r => by simp [says, says_map r]
theorem upTo_map (n : Nat) : upTo n = (List.range n).map fun (i : Nat) => D.int (i : Int) := rfl
/-- a test that comes to a truth, then one side -/
theorem sIf_of {c : DT} {T U : DS} {E : DEnds} {ρ : Env} {M : Mem} (b : Bool) (h : ∀ Q : BK, Q b M → c ρ M Q) (k : if b = true then T E ρ M else U E ρ M) : sIf c T U E ρ M := h _ k
theorem sIf_c {c : DT} {T U : DS} {E : DEnds} {ρ : Env} {M : Mem} (p : Prop) [Decidable p] (h : ∀ Q : BK, Q (decide p) M → c ρ M Q) (k1 : p → T E ρ M) (k2 : ¬ p → U E ρ M) : sIf c T U E ρ M := by
  refine h _ ?_
  by_cases e : p
  · simp only [e, decide_true, if_true]; exact k1 e
  · simp only [e, decide_false]; exact k2 e
/-! ### promises by their arguments -/
def Spec.of {A : Type} (args : A → List D) (pre : A → Mem → Prop) (post : A → Mem → D → Mem → Prop) : Spec := ⟨fun ds M => ∃ a, ds = args a ∧ pre a M, fun ds M d M' => ∀ a, ds = args a → post a M d M'⟩
theorem Spec.call {A : Type} {args : A → List D} {pre : A → Mem → Prop} {post : A → Mem → D → Mem → Prop} (a : A) {M : Mem} {Q : DK} (h : pre a M) (q : ∀ d M', post a M d M' → Q d M') : (Spec.of args pre post).pre (args a) M ∧ ∀ d M', (Spec.of args pre post).post (args a) M d M' → Q d M' :=
  ⟨⟨a, rfl, h⟩, fun d M' p => q d M' (p a rfl)⟩
def RetA (P : D → Mem → Prop) : DK := fun d M' => ∃ d' M'', Out M' M'' d d' ∧ P d' M''
theorem RetA.now {P : D → Mem → Prop} {d : D} {M : Mem} (h : P d M) : RetA P d M := ⟨d, M, ⟨Sub.refl _, .inl rfl⟩, h⟩
theorem RetA.same {P : D → Mem → Prop} {d : D} {M M' : Mem} (s : Sub M' M) (h : P d M') : RetA P d M := ⟨d, M', ⟨s, .inl rfl⟩, h⟩
theorem Does.of {A : Type} {args : A → List D} {pre : A → Mem → Prop} {post : A → Mem → D → Mem → Prop} {n k : Nat} {t : DS} (inj : ∀ a a', args a = args a' → a = a')
    (h : ∀ a M (R : DK), pre a M → (∀ d M', RetA (post a M) d M' → R d M') → t { nx := fun _ M' => R .non M', rt := R } (start n (args a)) M) : Does n t k (Spec.of args pre post) := by
  rintro ds M hl ⟨a, rfl, hp⟩
  refine h a M _ hp ?_
  rintro d M' ⟨d', M'', o, p⟩
  exact ⟨d', M'', o, fun a' e => by rw [← inj a a' e]; exact p⟩
/-- a function that changes nothing -/
def Spec.pure {A : Type} (args : A → List D) (pre : A → Prop) (f : A → D) : Spec := .of args (fun a _ => pre a) fun a M d M' => d = f a ∧ M' = M
theorem Spec.callP {A : Type} {args : A → List D} {pre : A → Prop} {f : A → D} (a : A) {M : Mem} {Q : DK} (h : pre a) (q : Q (f a) M) : (Spec.pure args pre f).pre (args a) M ∧ ∀ d M', (Spec.pure args pre f).post (args a) M d M' → Q d M' :=
  Spec.call a h fun d M' p => by rw [p.1, p.2]; exact q
theorem RetA.pure {f x : D} {M : Mem} (h : x = f) : RetA (fun d M' => d = f ∧ M' = M) x M := .now ⟨h, rfl⟩
theorem RetA.pureS {f x : D} {M M' : Mem} (s : Sub M M') (h : x = f) : RetA (fun d M' => d = f ∧ M' = M) x M' := .same s ⟨h, rfl⟩
/-! ### words, to the sign -/
theorem strOk_c {c : Nat} (h : c < 1000) : strOk ⟨#[c]⟩ = true := by
  simp [strOk]; omega
theorem alpha_at (i : Nat) (h : i < 26) : atI (Str.ofString "abcdefghijklmnopqrstuvwxyz").cps.toList (i : Int) = some (97 + i) := by
  rw [alpha_cps, atI_nat' (by simpa using h)]
  have : ∀ i : Fin 26, [97, 98, 99, 100, 101, 102, 103, 104, 105, 106, 107, 108, 109, 110, 111, 112, 113, 114, 115, 116, 117, 118, 119, 120, 121, 122][i.val]'(by simp) = 97 + i.val := by decide
  rw [this ⟨i, h⟩]
def wordOf (s : Str) (b n : Nat) : Str := s ++ (⟨#[97 + (b + 5 * n) % 26]⟩ : Str) ++ repS (n * b % 3) ⟨#[97 + b / 26 % 26]⟩
def sp_word : Spec := ⟨fun ds _ => ∃ (s : Str) (b n : Nat), ds = [.str s, .int (b : Int), .int (n : Int)] ∧ s.length ≤ 10 ∧ b < 100000 ∧ n ≤ 1000, fun ds M d M' => M' = M ∧ ∀ (s : Str) (b n : Nat), ds = [.str s, .int (b : Int), .int (n : Int)] → d = .str (wordOf s b n)⟩
theorem call_word {s : Str} {b n : Nat} {M : Mem} {Q : DK} (h2 : s.length ≤ 10) (h3 : b < 100000) (h4 : n ≤ 1000) (q : Q (.str (wordOf s b n)) M) : sp_word.pre [.str s, .int (b : Int), .int (n : Int)] M ∧ ∀ d M', sp_word.post [.str s, .int (b : Int), .int (n : Int)] M d M' → Q d M' := by
  refine ⟨⟨s, b, n, rfl, h2, h3, h4⟩, fun d M' p => ?_⟩
  obtain ⟨rfl, p⟩ := p
  rw [p s b n rfl]
  exact q
theorem strOk_word {s : Str} (hs : strOk s = true) (b n : Nat) : strOk (wordOf s b n) = true :=
  strOk_add (strOk_add hs (strOk_c (by omega))) (strOk_rep (strOk_c (by omega)) _)
theorem add_len (a b : Str) : (a ++ b).length = a.length + b.length := by
  show (a.cps ++ b.cps).size = _
  rw [Array.size_append]; rfl
theorem word_len (s : Str) (b n : Nat) : (wordOf s b n).length ≤ s.length + 3 := by
  unfold wordOf
  rw [add_len, add_len, repS_length, one_len, one_len]
  omega
theorem nm_word {s : Str} (hs : strOk s = true) (hl : s.length ≤ 10) (b n : Nat) : nmOk (wordOf s b n) = true := by
  have := word_len s b n
  simp [nmOk, strOk_word hs]
  omega
/-- words of one sort: the sign behind the first one tells the number -/
theorem word_inj {s : Str} {b n m : Nat} (hn : n < 26) (hm : m < 26) (h : wordOf s b n = wordOf s b m) : n = m := by
  have e : (wordOf s b n).cps.toList[s.cps.size]? = (wordOf s b m).cps.toList[s.cps.size]? := by rw [h]
  have f : ∀ k, (wordOf s b k).cps.toList[s.cps.size]? = some (97 + (b + 5 * k) % 26) := by
    intro k
    show ((s.cps ++ #[97 + (b + 5 * k) % 26]) ++ (repS (k * b % 3) ⟨#[97 + b / 26 % 26]⟩).cps).toList[s.cps.size]? = _
    rw [Array.toList_append, Array.toList_append, List.getElem?_append_left (by simp), List.getElem?_append_right (by simp)]
    simp
  rw [f, f] at e
  simp only [Option.some.injEq] at e
  omega
theorem does_word : Does 5 t__law_word 3 sp_word := by
  rintro ds M hl ⟨s, b, n, rfl, hl2, hb, hn⟩
  have fin : ∀ x, x = wordOf s b n → Ret sp_word [.str s, .int (b : Int), .int (n : Int)] M (.str x) M := fun x hx => Ret.now ⟨rfl, fun s' b' n' e => by
    simp only [List.cons.injEq, D.str.injEq, D.int.injEq, and_true] at e
    obtain ⟨rfl, e2, e3⟩ := e
    have e2 : b = b' := by omega
    have e3 : n = n' := by omega
    rw [hx, e2, e3]⟩
  have e1 := alpha_at (b / 26 % 26) (by omega)
  have e2 := alpha_at ((b + 5 * n) % 26) (by omega)
  have c1 : ((b / 26 % 26 : Nat) : Int) = (b : Int) / 26 % 26 := by omega
  have c2 : (((b + 5 * n) % 26 : Nat) : Int) = ((b : Int) + 5 * (n : Int)) % 26 := by omega
  have c3 : ((n * b % 3 : Nat) : Int) = (n : Int) * (b : Int) % 3 := by simp
  rw [c1] at e1
  rw [c2] at e2
  have hr := repS_length ⟨#[97 + b / 26 % 26]⟩ (n * b % 3)
  rw [one_len] at hr
  have k3 : n * b % 3 < 3 := Nat.mod_lt _ (by decide)
  have sn : small (n : Int) := ⟨by omega, by omega⟩
  have s5 : small (5 : Int) := ⟨by decide, by decide⟩
  have f := fin (s ++ (⟨#[97 + (b + 5 * n) % 26]⟩ : Str) ++ repS (n * b % 3) ⟨#[97 + b / 26 % 26]⟩) rfl
  generalize 97 + b / 26 % 26 = x1 at *
  generalize 97 + (b + 5 * n) % 26 = x2 at *
  generalize n * b % 3 = kk at *
  have tn : ((n : Int) * (b : Int) % 3).toNat = kk := by rw [← c3]; rfl
  have la : (s ++ (⟨#[x2]⟩ : Str)).length = s.length + 1 := by rw [add_len, one_len]
  clear c1 c2
  simp only [t__law_word, sSeq, sAsg, dC, gName, start, List.map, List.length, List.replicate, List.cons_append, List.nil_append, List.set, dOp, dV, List.getElem?_cons_zero, List.getElem?_cons_succ, sRet, oFdiv_int, oMod_int, oMul_int, oAdd_int, oIx_str, e1, e2, alpha_len, oMul_str, oAdd_str, one_len, la]
  rw [tn, hr, ← c3]
  exact ⟨⟨by decide, by decide⟩, by decide, by decide, .inl sn, by decide, ⟨by omega, by omega, by decide, by decide⟩, .inl s5, by decide, by decide, by omega, by omega, f⟩
/-! ### kinds -/
abbrev Mk := Str × List Str
abbrev Kd := Str × List Mk
def mkD (m : Mk) : D := .tup [.str m.1, .tup (m.2.map D.str)]
def kdD (k : Kd) : D := .tup [.str k.1, .tup (k.2.map mkD)]
def kindsD (ks : List Kd) : D := .tup (ks.map kdD)
def ownK (ks : List Kd) : List Str := ks.map (·.1) ++ [("truth" : Str)]
structure GoodM (own : List Str) (ms : List Mk) : Prop where
  fst : ∃ x r, ms = (x, []) :: r
  len : ms.length ≤ 3
  all : ∀ m ∈ ms, nmOk m.1 = true ∧ m.2.length ≤ 3 ∧ ∀ p ∈ m.2, p ∈ own
structure GoodK (ks : List Kd) : Prop where
  len : ks.length ≤ 3
  all : ∀ k ∈ ks, GoodM (ownK ks) k.2
theorem str_map_inj {a b : List Str} (h : a.map D.str = b.map D.str) : a = b := by
  induction a generalizing b with
  | nil => cases b with
    | nil => rfl
    | cons _ _ => simp at h
  | cons x r ih => cases b with
    | nil => simp at h
    | cons y t =>
      simp only [List.map_cons, List.cons.injEq, D.str.injEq] at h
      rw [h.1, ih h.2]
theorem mkD_inj {a b : Mk} (h : mkD a = mkD b) : a = b := by
  obtain ⟨x, p⟩ := a
  obtain ⟨y, q⟩ := b
  simp only [mkD, D.tup.injEq, List.cons.injEq, D.str.injEq, and_true] at h
  rw [h.1, str_map_inj h.2]
theorem mks_inj {a b : List Mk} (h : a.map mkD = b.map mkD) : a = b := by
  induction a generalizing b with
  | nil => cases b with
    | nil => rfl
    | cons _ _ => simp at h
  | cons x r ih => cases b with
    | nil => simp at h
    | cons y t =>
      simp only [List.map_cons, List.cons.injEq] at h
      rw [mkD_inj h.1, ih h.2]
theorem kds_inj {a b : List Kd} (h : a.map kdD = b.map kdD) : a = b := by
  induction a generalizing b with
  | nil => cases b with
    | nil => rfl
    | cons _ _ => simp at h
  | cons x r ih => cases b with
    | nil => simp at h
    | cons y t =>
      obtain ⟨x1, x2⟩ := x
      obtain ⟨y1, y2⟩ := y
      simp only [List.map_cons, List.cons.injEq, kdD, D.tup.injEq, D.str.injEq, and_true] at h
      rw [h.1.1, mks_inj h.1.2, ih h.2]
def mkOf : List Kd → Str → List Mk
  | [], _ => [("yes", []), ("no", [])]
  | k :: ks, x => if k.1 = x then k.2 else mkOf ks x
theorem mkOf_good {own : List Str} (x : Str) : ∀ ks : List Kd, (∀ k ∈ ks, GoodM own k.2) → GoodM own (mkOf ks x)
  | [], _ => ⟨⟨_, _, rfl⟩, by simp [mkOf], by
    intro m hm
    simp only [mkOf, List.mem_cons, List.not_mem_nil, or_false] at hm
    rcases hm with rfl | rfl <;> exact ⟨nm_of _, by simp, by simp⟩⟩
  | k :: ks, h => by
    simp only [mkOf]
    split
    · exact h k (by simp)
    · exact mkOf_good x ks fun y hy => h y (List.mem_cons_of_mem _ hy)
def sp_makers : Spec := ⟨fun ds _ => ∃ ks x, ds = [kindsD ks, .str x], fun ds M d M' => M' = M ∧ ∀ ks x, ds = [kindsD ks, .str x] → d = .tup ((mkOf ks x).map mkD)⟩
theorem call_makers {ks : List Kd} {x : Str} {M : Mem} {Q : DK} (q : Q (.tup ((mkOf ks x).map mkD)) M) : sp_makers.pre [kindsD ks, .str x] M ∧ ∀ d M', sp_makers.post [kindsD ks, .str x] M d M' → Q d M' := by
  refine ⟨⟨ks, x, rfl⟩, fun d M' p => ?_⟩
  obtain ⟨rfl, p⟩ := p
  rw [p ks x rfl]
  exact q
theorem makers_find (E : DEnds) (M : Mem) (o0 : Option D) (x : Str) : ∀ (ks : List Kd) (o2 o3 : Option D), (∀ o2 o3, mkOf ks x = mkOf [] x → E.nx [o0, some (.str x), o2, o3] M) → E.rt (.tup ((mkOf ks x).map mkD)) M →
    sLoop (gTup (gCons (gName 2) (gCons (gName 3) gNil))) (sIf (dTest (dOp oEq (dV 2) (dV 1))) (sRet (dV 3)) sNext) (ks.map kdD) E [o0, some (.str x), o2, o3] M := by
  intro ks
  induction ks with
  | nil =>
    intro o2 o3 hn _
    simpa using hn o2 o3 rfl
  | cons k ks ih =>
    intro o2 o3 hn hr
    simp only [mkOf] at hn hr
    have z := ih (some (.str k.1)) (some (.tup (k.2.map mkD)))
    simp only [List.map_cons, sLoop]
    generalize sLoop (gTup (gCons (gName 2) (gCons (gName 3) gNil))) (sIf (dTest (dOp oEq (dV 2) (dV 1))) (sRet (dV 3)) sNext) (ks.map kdD) E = N at z ⊢
    by_cases e : k.1 = x
    · simp only [if_pos e] at hn hr
      simp [kdD, e]
      exact hr
    · simp only [if_neg e] at hn hr
      simp [kdD, e]
      exact z hn hr
theorem does_makers : Does 4 t__law_makers 2 sp_makers := by
  rintro ds M hl ⟨ks, x, rfl⟩
  have fin : ∀ d, d = .tup ((mkOf ks x).map mkD) → Ret sp_makers [kindsD ks, .str x] M d M := fun d hd => Ret.now ⟨rfl, fun ks' x' e => by
    simp only [List.cons.injEq, kindsD, D.tup.injEq, D.str.injEq, and_true] at e
    rw [← kds_inj e.1, ← e.2]
    exact hd⟩
  have z := makers_find { nx := sRet (dTup (dA (dTup (dA (dC (.str "yes")) (dA (dTup dA0) dA0))) (dA (dTup (dA (dC (.str "no")) (dA (dTup dA0) dA0))) dA0))) { nx := fun _ M' => Ret sp_makers [kindsD ks, .str x] M .non M', rt := Ret sp_makers [kindsD ks, .str x] M }, rt := Ret sp_makers [kindsD ks, .str x] M } M (some (kindsD ks)) x ks none none (fun o2 o3 e => fin _ (by rw [e]; rfl)) (fin _ rfl)
  exact z
/-! ### kinds by draws -/
abbrev pbody : DS := (sSeq (sAsg (dCall (sp_next 1 1000) (dA (dV 0) dA0)) (gName 12))
  (sExpr (dMeth mAppend (dV 10) (dOp oIx (dOp oAdd (dOp oAdd (dLst (dA (dV 7) (dA (dV 7) dA0))) (dV 3)) (dLst (dA (dC (.str "truth")) dA0))) (dOp oMod (dV 12) (dOp oAdd (dUn oLen (dV 3)) (dC (.int 3))))))))
theorem pick_kind {names : List Str} {kind : Str} (hk : kind ∈ names) (r : Int) : ∃ q, atI (D.str kind :: D.str kind :: (names.map D.str ++ [D.str "truth"])) (r % ((names.length : Int) + 3)) = some (.str q) ∧ q ∈ names ++ [("truth" : Str)] := by
  have hm := mod_pos r (show (0 : Int) < (names.length : Int) + 3 by omega)
  obtain ⟨v, e, hv⟩ := atI_mem (xs := D.str kind :: D.str kind :: (names.map D.str ++ [D.str "truth"])) hm.1 (by simp; omega)
  simp only [List.mem_cons, List.mem_append, List.mem_map, List.not_mem_nil, or_false] at hv
  rcases hv with rfl | rfl | ⟨q, hq, rfl⟩ | rfl
  · exact ⟨kind, e, by simp [hk]⟩
  · exact ⟨kind, e, by simp [hk]⟩
  · exact ⟨q, e, by simp [hq]⟩
  · exact ⟨"truth", e, by simp⟩
theorem parts_loop (E : DEnds) (dk p : Addr) (hp : p ≠ dk) (names : List Str) (kind : Str) (hk : kind ∈ names) (hn : names.length ≤ 3) (o1 o2 o4 o5 o6 o8 o9 : Option D) : ∀ (n i : Nat) (M1 : Mem) (b : Nat) (ps : List Str) (o11 o12 : Option D), M1 dk = some (.deck 1 b) → n ≤ b → M1 p = some (.lst (ps.map D.str)) → ps.length + n ≤ 3 → (∀ q ∈ ps, q ∈ names ++ [("truth" : Str)]) →
   (∀ (ps' : List Str) (b' : Nat) (o11 o12 : Option D), ps'.length = ps.length + n → (∀ q ∈ ps', q ∈ names ++ [("truth" : Str)]) → b ≤ b' + n → E.nx [some (.ref dk), o1, o2, some (.lst (names.map D.str)), o4, o5, o6, some (.str kind), o8, o9, some (.ref p), o11, o12] (mset (mset M1 dk (.deck 1 b')) p (.lst (ps'.map D.str)))) →
   sLoop (gName 11) pbody (upFrom i n) E [some (.ref dk), o1, o2, some (.lst (names.map D.str)), o4, o5, o6, some (.str kind), o8, o9, some (.ref p), o11, o12] M1 := by
  intro n
  induction n with
  | zero =>
    intro i M1 b ps o11 o12 hM _ hl _ hps q
    have := q ps b o11 o12 rfl hps (by omega)
    rw [mset_self hM, mset_self hl] at this
    simpa [upFrom] using this
  | succ n ih =>
    intro i M1 b ps o11 o12 hM hb hl h3 hps q
    simp only [upFrom, sLoop]
    have z := ih (i + 1)
    generalize sLoop (gName 11) pbody (upFrom (i + 1) n) E = N at z ⊢
    simp only [pbody, gName, sSeq, sAsg, dCall, dA, dV, dA0, List.set, List.getElem?_cons_zero, List.getElem?_cons_succ]
    refine draw hM (by omega) fun r b' h0 hr hb' => ?_
    obtain ⟨q1, e, hq⟩ := pick_kind hk r
    have hl2 : mset M1 dk (.deck 1 b') p = some (.lst (ps.map D.str)) := by rw [mset_ne hp]; exact hl
    simp [asL, hl2, e]
    refine ⟨by omega, by omega, by omega, by omega, ?_⟩
    have ea : ps.map D.str ++ [D.str q1] = (ps ++ [q1]).map D.str := by simp
    rw [ea]
    refine z (mset (mset M1 dk (.deck 1 b')) p (.lst ((ps ++ [q1]).map D.str))) b' (ps ++ [q1]) _ _ (by rw [mset_ne (Ne.symm hp), mset_same]) (by omega) (mset_same _ _ _) (by simp; omega) ?_ ?_
    · intro y hy
      rcases List.mem_append.mp hy with h | h
      · exact hps y h
      · rw [List.mem_singleton.mp h]; exact hq
    · intro ps' b'' o11 o12 t1 t2 t3
      rw [mset4 hp]
      exact q ps' b'' o11 o12 (by rw [t1]; simp; omega) t2 (by omega)
def l6 : List Int := [0, 1, 1, 2, 2, 3]
def l6E : DE := (dLst (dA (dC (.int 0)) (dA (dC (.int 1)) (dA (dC (.int 1)) (dA (dC (.int 2)) (dA (dC (.int 2)) (dA (dC (.int 3)) dA0)))))))
theorem ev_l6 : l6E = fun _ M Q => Q (.lst (intsD l6)) M := rfl
def m6 : List Int := [2, 2, 3, 3, 1, 2]
def m6E : DE := (dLst (dA (dC (.int 2)) (dA (dC (.int 2)) (dA (dC (.int 3)) (dA (dC (.int 3)) (dA (dC (.int 1)) (dA (dC (.int 2)) dA0)))))))
theorem ev_m6 : m6E = fun _ M Q => Q (.lst (intsD m6)) M := rfl
theorem pick6 (xs : List Int) (hx : xs.length = 6) (r : Int) : ∃ c, atI (intsD xs) (r % 6) = some (.int c) ∧ c ∈ xs := by
  have hm := mod_pos r (show (0 : Int) < 6 by decide)
  obtain ⟨v, e, hv⟩ := atI_mem (xs := intsD xs) hm.1 (by simp [intsD, hx]; exact hm.2)
  simp only [intsD, List.mem_map] at hv
  obtain ⟨c, hc, rfl⟩ := hv
  exact ⟨c, e, hc⟩
abbrev mbody : DS := (sSeq (sAsg (dNew dA0) (gName 10))
  (sSeq (sFor (iRange (dOp oMul (dOp oIx l6E (dOp oMod (dCall (sp_next 1 1000) (dA (dV 0) dA0)) (dC (.int 6)))) (dUn oInt (dOp oGt (dV 4) (dC (.int 0)))))) (gName 11) pbody)
  (sSeq (sExpr (dMeth mAppend (dV 8) (dTup (dA (dCall sp_word (dA (dC (.str "m")) (dA (dV 2) (dA (dV 6) dA0)))) (dA (dUn oTuple (dV 10)) dA0)))))
  (sAsg (dOp oAdd (dV 6) (dC (.int 1))) (gName 6)))))
/-- words of makers, numbered from a number on -/
def Named (base m0 : Nat) (ms : List Mk) : Prop := ms.map (·.1) = (List.range' m0 ms.length).map (wordOf "m" base)
theorem Named.add {base m0 : Nat} {ms : List Mk} (h : Named base m0 ms) (ps : List Str) : Named base m0 (ms ++ [(wordOf "m" base (m0 + ms.length), ps)]) := by
  unfold Named at *
  rw [List.map_append, h, List.length_append, List.length_singleton, List.range'_concat, List.map_append]
  simp
def FirstOk (ms : List Mk) : Prop := ms = [] ∨ ∃ x r, ms = (x, []) :: r
theorem FirstOk.add {ms : List Mk} (h : FirstOk ms) {m : Mk} (hm : ms.length = 0 → m.2 = []) : FirstOk (ms ++ [m]) := by
  rcases h with rfl | ⟨x, r, rfl⟩
  · refine .inr ⟨m.1, [], ?_⟩
    obtain ⟨x, ps⟩ := m
    have := hm rfl
    simp only at this
    rw [this]; rfl
  · exact .inr ⟨x, r ++ [m], rfl⟩
def AllM (own : List Str) (ms : List Mk) : Prop := ∀ m ∈ ms, nmOk m.1 = true ∧ m.2.length ≤ 3 ∧ ∀ p ∈ m.2, p ∈ own
theorem AllM.add {own : List Str} {ms : List Mk} (h : AllM own ms) {m : Mk} (hm : nmOk m.1 = true ∧ m.2.length ≤ 3 ∧ ∀ p ∈ m.2, p ∈ own) : AllM own (ms ++ [m]) := by
  intro x hx
  rcases List.mem_append.mp hx with z | z
  · exact h x z
  · rw [List.mem_singleton.mp z]; exact hm
theorem makers_loop (E : DEnds) (M : Mem) (dk p8 p5 : Addr) (h8 : p8 ≠ dk ∧ M p8 = none) (h58 : p5 ≠ p8) (h5 : p5 ≠ dk) (names : List Str) (kind : Str) (hk : kind ∈ names) (hn : names.length ≤ 3) (base m0 : Nat) (hbase : base < 1000) (found : List D) (o1 o9 : Option D) : ∀ (n i : Nat) (M1 : Mem) (b many : Nat) (ms : List Mk) (o4 o10 o11 o12 : Option D), ms.length = i → (many = m0 + ms.length ∧ Named base m0 ms) → KS 1 M M1 dk b → n * 4 ≤ b → M1 p8 = some (.lst (ms.map mkD)) → M1 p5 = some (.lst found) → ms.length + n ≤ 3 → many + n ≤ 1000 → FirstOk ms → AllM (names ++ [("truth" : Str)]) ms →
   (∀ (M1' : Mem) (ms' : List Mk) (b' : Nat) (o4 o10 o11 o12 : Option D), KS 1 M M1' dk b' → M1' p8 = some (.lst (ms'.map mkD)) → M1' p5 = some (.lst found) → ms'.length = ms.length + n → Named base m0 ms' → FirstOk ms' → AllM (names ++ [("truth" : Str)]) ms' → b ≤ b' + n * 4 → E.nx [some (.ref dk), o1, some (.int (base : Int)), some (.lst (names.map D.str)), o4, some (.ref p5), some (.int ((many + n : Nat) : Int)), some (.str kind), some (.ref p8), o9, o10, o11, o12] M1') →
   sLoop (gName 4) mbody (upFrom i n) E [some (.ref dk), o1, some (.int (base : Int)), some (.lst (names.map D.str)), o4, some (.ref p5), some (.int (many : Int)), some (.str kind), some (.ref p8), o9, o10, o11, o12] M1 := by
  intro n
  induction n with
  | zero =>
    intro i M1 b many ms o4 o10 o11 o12 hi hnm hS _ hl hf _ _ f1 f2 q
    have := q M1 ms b o4 o10 o11 o12 hS hl hf rfl hnm.2 f1 f2 (by omega)
    simpa [upFrom] using this
  | succ n ih =>
    intro i M1 b many ms o4 o10 o11 o12 hi hnm hS hb hl hf h3 hmany f1 f2 q
    subst hi
    rw [Nat.succ_mul] at hb q
    simp only [upFrom, sLoop]
    have z := ih (ms.length + 1)
    generalize sLoop (gName 4) mbody (upFrom (ms.length + 1) n) E = N at z ⊢
    simp only [mbody, sSeq, sAsg, dNew, dA0, gName, List.set]
    intro p10 hp10
    have F := hS.fresh hp10
    have n8 : p8 ≠ p10 := fun e => by rw [← e, hl] at hp10; cases hp10
    have n5 : p5 ≠ p10 := fun e => by rw [← e, hf] at hp10; cases hp10
    have hS2 := hS.upd F []
    simp only [sFor, iRange, dOp, ev_l6, dCall, dA, dA0, dV, List.getElem?_cons_zero, List.getElem?_cons_succ, dC, dUn]
    refine draw hS2.deck (by omega) fun r b' h0 hr hb' => ?_
    obtain ⟨c, ec, hc⟩ := pick6 l6 rfl r
    have hc3 : 0 ≤ c ∧ c ≤ 3 := by
      simp only [l6, List.mem_cons, List.not_mem_nil, or_false] at hc
      omega
    obtain ⟨cn, hcn⟩ : ∃ cn : Int, cn = c * (if (0 : Int) < (ms.length : Int) then 1 else 0) := ⟨_, rfl⟩
    have hc4 : 0 ≤ cn ∧ cn ≤ 3 := by
      rw [hcn]; split <;> omega
    have s1 : small c := ⟨by omega, by omega⟩
    have hS3 := hS2.draw b'
    simp only [oMod_int, oIx_lst, ec, oGt_int, oInt_bl, oMul_int]
    simp only [decide_eq_true_eq]
    rw [← hcn]
    refine ⟨by decide, .inl s1, ⟨by omega, by omega⟩, ?_⟩
    rw [upTo_eq]
    refine parts_loop _ dk p10 F.1 names kind hk hn _ _ _ _ _ _ _ cn.toNat 0 _ b' [] _ _ hS3.deck (by omega) (by rw [mset_ne F.1, mset_same]; rfl) (by simp; omega) (by simp) ?_
    intro ps b'' o11 o12 t1 t2 t3
    have hS4 := (hS3.draw b'').upd F (ps.map D.str)
    have l8 : mset (mset (mset (mset M1 p10 (.lst [])) dk (.deck 1 b')) dk (.deck 1 b'')) p10 (.lst (ps.map D.str)) p8 = some (.lst (ms.map mkD)) := by
      rw [mset_ne n8, mset_ne h8.1, mset_ne h8.1, mset_ne n8]; exact hl
    have l5 : mset (mset (mset (mset M1 p10 (.lst [])) dk (.deck 1 b')) dk (.deck 1 b'')) p10 (.lst (ps.map D.str)) p5 = some (.lst found) := by
      rw [mset_ne n5, mset_ne h5, mset_ne h5, mset_ne n5]; exact hf
    have l10 : mset (mset (mset (mset M1 p10 (.lst [])) dk (.deck 1 b')) dk (.deck 1 b'')) p10 (.lst (ps.map D.str)) p10 = some (.lst (ps.map D.str)) := mset_same _ _ _
    generalize mset (mset (mset (mset M1 p10 (.lst [])) dk (.deck 1 b')) dk (.deck 1 b'')) p10 (.lst (ps.map D.str)) = M4 at hS4 l8 l5 l10 ⊢
    simp only [sSeq, sAsg, gName, List.set, sExpr, dMeth, dTup, dA, dA0, dCall, dC, dV, List.getElem?_cons_zero, List.getElem?_cons_succ, asL, l8, Option.isSome_some, true_and]
    refine call_word (s := "m") (b := base) (n := many) (by decide +kernel) (by omega) (by omega) ?_
    have hx : nmOk (wordOf "m" base many) = true := nm_word (strOk_of _) (by decide +kernel) _ _
    have hadd := hnm.2.add ps
    rw [← hnm.1] at hadd
    generalize wordOf "m" base many = x at hx hadd ⊢
    simp only [dUn, dV, List.getElem?_cons_zero, List.getElem?_cons_succ, oTuple_ref, l10, mAppend_ref, l8]
    refine ⟨by simp; omega, ?_⟩
    simp only [dOp, dV, dC, List.getElem?_cons_zero, List.getElem?_cons_succ, oAdd_int]
    have ea : ms.map mkD ++ [.tup [.str x, .tup (ps.map D.str)]] = (ms ++ [(x, ps)]).map mkD := by simp [mkD]
    rw [ea]
    have em : (many : Int) + 1 = ((many + 1 : Nat) : Int) := by simp
    rw [em]
    have hps0 : ms.length = 0 → ps = [] := by
      intro e
      have : cn = 0 := by rw [hcn, e]; simp
      rw [this] at t1
      exact List.eq_nil_of_length_eq_zero (by simpa using t1)
    refine z (mset M4 p8 (.lst ((ms ++ [(x, ps)]).map mkD))) b'' (many + 1) (ms ++ [(x, ps)]) _ _ _ _ (by simp) ⟨by rw [hnm.1]; simp; omega, hadd⟩ (hS4.upd h8 _) (by omega) (mset_same _ _ _) (by rw [mset_ne h58]; exact l5) (by simp; omega) (by omega) (f1.add hps0) (f2.add ⟨hx, by show ps.length ≤ 3; simp at t1; omega, t2⟩) ?_
    intro M1' ms' b3 o4 o10 o11 o12 y1 y2 y3 y4 y4' y5 y6 y7
    have := q M1' ms' b3 o4 o10 o11 o12 y1 y2 y3 (by rw [y4]; simp only [List.length_append, List.length_cons, List.length_nil]; omega) y4' y5 y6 (by omega)
    rw [show many + 1 + n = many + (n + 1) by omega]
    exact this
abbrev kbody : DS := (sSeq (sAsg (dNew dA0) (gName 8))
  (sSeq (sAsg (dCall (sp_next 1 1000) (dA (dV 0) dA0)) (gName 9))
  (sSeq (sFor (iRange (dOp oIx m6E (dOp oMod (dV 9) (dC (.int 6))))) (gName 4) mbody)
  (sExpr (dMeth mAppend (dV 5) (dTup (dA (dV 7) (dA (dUn oTuple (dV 8)) dA0))))))))
/-- all makers' words, in order -/
def NamedK (base : Nat) (ks : List Kd) : Prop := Named base 0 (ks.flatMap (·.2))
theorem kinds_loop (E : DEnds) (M : Mem) (dk p5 : Addr) (h5 : p5 ≠ dk ∧ M p5 = none) (names : List Str) (hn : names.length ≤ 3) (base : Nat) (hbase : base < 1000) (o1 : Option D) : ∀ (rest : List Str) (M1 : Mem) (b many : Nat) (ks : List Kd) (o4 o7 o8 o9 o10 o11 o12 : Option D), ks.map (·.1) ++ rest = names → (many = (ks.flatMap (·.2)).length ∧ NamedK base ks) → KS 1 M M1 dk b → rest.length * 13 ≤ b → M1 p5 = some (.lst (ks.map kdD)) → many + rest.length * 3 ≤ 1000 → (∀ k ∈ ks, GoodM (names ++ [("truth" : Str)]) k.2) →
   (∀ (M1' : Mem) (ks' : List Kd) (b' : Nat) (o4 o6 o7 o8 o9 o10 o11 o12 : Option D), ks'.map (·.1) = names → NamedK base ks' → KS 1 M M1' dk b' → M1' p5 = some (.lst (ks'.map kdD)) → (∀ k ∈ ks', GoodM (names ++ [("truth" : Str)]) k.2) → b ≤ b' + rest.length * 13 → E.nx [some (.ref dk), o1, some (.int (base : Int)), some (.lst (names.map D.str)), o4, some (.ref p5), o6, o7, o8, o9, o10, o11, o12] M1') →
   sLoop (gName 7) kbody (rest.map D.str) E [some (.ref dk), o1, some (.int (base : Int)), some (.lst (names.map D.str)), o4, some (.ref p5), some (.int (many : Int)), o7, o8, o9, o10, o11, o12] M1 := by
  intro rest
  induction rest with
  | nil =>
    intro M1 b many ks o4 o7 o8 o9 o10 o11 o12 he hnm hS _ hf _ hg q
    rw [List.append_nil] at he
    have := q M1 ks b o4 (some (.int (many : Int))) o7 o8 o9 o10 o11 o12 he hnm.2 hS hf hg (by omega)
    simpa using this
  | cons x rest ih =>
    intro M1 b many ks o4 o7 o8 o9 o10 o11 o12 he hnm hS hb hf hmany hg q
    rw [List.length_cons, Nat.succ_mul] at hb hmany
    simp only [List.length_cons, Nat.succ_mul] at q
    have hx : x ∈ names := by rw [← he]; simp
    simp only [List.map_cons, sLoop]
    generalize sLoop (gName 7) kbody (rest.map D.str) E = N at ih ⊢
    simp only [kbody, sSeq, sAsg, dNew, dA0, gName, List.set]
    intro p8 hp8
    have F := hS.fresh hp8
    have n5 : p5 ≠ p8 := fun e => by rw [← e, hf] at hp8; cases hp8
    have hS2 := hS.upd F []
    simp only [dCall, dA, dA0, dV, List.getElem?_cons_zero, List.getElem?_cons_succ]
    refine draw hS2.deck (by omega) fun r b' h0 hr hb' => ?_
    obtain ⟨c, ec, hc⟩ := pick6 m6 rfl r
    have hc3 : 1 ≤ c ∧ c ≤ 3 := by
      simp only [m6, List.mem_cons, List.not_mem_nil, or_false] at hc
      omega
    have hS3 := hS2.draw b'
    simp only [sFor, iRange, dOp, ev_m6, dV, dC, List.getElem?_cons_zero, List.getElem?_cons_succ, oMod_int, oIx_lst, ec]
    refine ⟨by decide, ⟨by omega, by omega⟩, ?_⟩
    rw [upTo_eq]
    refine makers_loop _ M dk p8 p5 F n5 h5.1 names x hx hn base many hbase (ks.map kdD) _ _ c.toNat 0 _ b' many [] _ _ _ _ rfl ⟨rfl, rfl⟩ hS3 (by omega) (by rw [mset_ne F.1, mset_same]; rfl) (by rw [mset_ne h5.1, mset_ne n5]; exact hf) (by simp; omega) (by omega) (.inl rfl) (by intro m hm; cases hm) ?_
    intro M4 ms b4 o4 o10 o11 o12 y1 y2 y3 y4 y4' y5 y6 y7
    simp only [sExpr, dMeth, dTup, dA, dA0, dUn, dV, List.getElem?_cons_zero, List.getElem?_cons_succ, asL, y3, Option.isSome_some, true_and, oTuple_ref, y2, mAppend_ref]
    have hkl : ks.length + (rest.length + 1) = names.length := by rw [← he]; simp
    refine ⟨by simp; omega, ?_⟩
    have ea : ks.map kdD ++ [.tup [.str x, .tup (ms.map mkD)]] = (ks ++ [(x, ms)]).map kdD := by simp [kdD]
    rw [ea]
    have hml : ms.length = c.toNat := by simpa using y4
    have nmk : NamedK base (ks ++ [(x, ms)]) := by
      have h1 := hnm.2
      unfold NamedK Named at *
      rw [List.flatMap_append, List.map_append, h1, List.length_append]
      have e1 : (List.flatMap (fun k : Kd => k.2) [(x, ms)]) = ms := by simp
      rw [e1, y4', hnm.1, ← List.map_append]
      congr 1
      have := List.range'_append (s := 0) (m := (ks.flatMap (·.2)).length) (n := ms.length) (step := 1)
      simpa using this
    have gm : GoodM (names ++ [("truth" : Str)]) ms := ⟨by
      rcases y5 with rfl | h
      · simp at hml; omega
      · exact h, by omega, y6⟩
    refine ih (mset M4 p5 (.lst ((ks ++ [(x, ms)]).map kdD))) b4 (many + c.toNat) (ks ++ [(x, ms)]) _ _ _ _ _ _ _ (by rw [← he]; simp) ⟨by rw [hnm.1]; simp [hml], nmk⟩ (y1.upd h5 _) (by omega) (mset_same _ _ _) (by omega) ?_ ?_
    · intro k hk
      rcases List.mem_append.mp hk with h | h
      · exact hg k h
      · rw [List.mem_singleton.mp h]; exact gm
    · intro M1' ks' b5 o4 o6 o7 o8 o9 o10 o11 o12 z1 z1' z2 z3 z4 z5
      exact q M1' ks' b5 o4 o6 o7 o8 o9 o10 o11 o12 z1 z1' z2 z3 z4 (by omega)
structure KindsOk (ks : List Kd) (base : Nat) : Prop where
  good : GoodK ks
  pos : 0 < ks.length
  hb : base < 1000
  kn : ks.map (·.1) = (List.range' 0 ks.length).map (wordOf "k" base)
  mn : NamedK base ks
def sp_kinds : Spec := ⟨fun ds M => ∃ dk b, ds = [.ref dk] ∧ M dk = some (.deck 1 b) ∧ 50 ≤ b,
  fun ds M d M' => ∀ dk b, ds = [.ref dk] → M dk = some (.deck 1 b) → ∃ ks base, d = kindsD ks ∧ KindsOk ks base ∧ Drew 1 M dk b 50 M'⟩
theorem call_kinds {dk : Addr} {b : Nat} {M : Mem} {Q : DK} (h : M dk = some (.deck 1 b)) (hb : 50 ≤ b) (q : ∀ ks base b', KindsOk ks base → b ≤ b' + 50 → Q (kindsD ks) (mset M dk (.deck 1 b'))) : sp_kinds.pre [.ref dk] M ∧ ∀ d M', sp_kinds.post [.ref dk] M d M' → Q d M' := by
  refine ⟨⟨dk, b, rfl, h, hb⟩, fun d M' p => ?_⟩
  obtain ⟨ks, base, rfl, hg, b', rfl, hb'⟩ := p dk b rfl h
  exact q ks base b' hg hb'
theorem names_comp (base : Nat) (hbase : base < 1000) (M : Mem) (Q : DK) (ρ : Env) (r2 : ρ[2]? = some (some (.int (base : Int)))) (r4 : 4 < ρ.length) : ∀ (n i : Nat) (ns : List Str), i + n ≤ 1000 → Q (.lst ((ns ++ (List.range' i n).map (wordOf "k" base)).map D.str)) M →
    dCompL (gName 4) dYes (dCall sp_word (dA (dC (.str "k")) (dA (dV 2) (dA (dV 4) dA0)))) ρ (upFrom i n) (ns.map D.str) M Q := by
  intro n
  induction n with
  | zero => intro i ns _ q; simpa [upFrom] using q
  | succ n ih =>
    intro i ns h q
    have g2 : (ρ.set 4 (some (.int (i : Int))))[2]? = some (some (.int (base : Int))) := by rw [List.getElem?_set_ne (by decide)]; exact r2
    have g4 : (ρ.set 4 (some (.int (i : Int))))[4]? = some (some (.int (i : Int))) := by rw [List.getElem?_set_self r4]
    simp only [upFrom, dCompL, gName, dYes, if_true, dCall, dA, dC, dV, dA0, g2, g4]
    refine call_word (s := "k") (b := base) (n := i) (by decide +kernel) (by omega) (by omega) ?_
    have ea : ns.map D.str ++ [D.str (wordOf "k" base i)] = (ns ++ [wordOf "k" base i]).map D.str := by simp
    rw [ea]
    refine ih (i + 1) (ns ++ [wordOf "k" base i]) (by omega) ?_
    simpa [List.range'_succ, List.append_assoc] using q
theorem t_kinds_eq : t__law_kinds sp_word (sp_next 1 1000) = (sSeq (sAsg (dCall (sp_next 1 1000) (dA (dV 0) dA0)) (gName 1))
  (sSeq (sAsg (dCall (sp_next 1 1000) (dA (dV 0) dA0)) (gName 2))
  (sSeq (sAsg (dComp (iRange (dOp oAdd (dC (.int 1)) (dOp oMod (dV 1) (dC (.int 3))))) (gName 4) dYes (dCall sp_word (dA (dC (.str "k")) (dA (dV 2) (dA (dV 4) dA0)))) [4]) (gName 3))
  (sSeq (sAsg (dNew dA0) (gName 5))
  (sSeq (sAsg (dC (.int 0)) (gName 6))
  (sSeq (sFor (iSeq (dV 3)) (gName 7) kbody)
  (sRet (dUn oTuple (dV 5))))))))) := rfl
theorem does_kinds : Does 13 (t__law_kinds sp_word (sp_next 1 1000)) 1 sp_kinds := by
  rintro ds M hl ⟨dk, b, rfl, hM, hb⟩
  rw [t_kinds_eq]
  generalize hkb : kbody = bb
  simp only [sSeq, sAsg, dCall, dA, dA0, dV, gName, start, List.map, List.length, List.replicate, List.cons_append, List.nil_append, List.getElem?_cons_zero, List.getElem?_cons_succ, List.set]
  refine draw hM (by omega) fun r1 b1 h0 hr1 hb1 => ?_
  refine draw (mset_same _ _ _) (by omega) fun r2 b2 h2 hr2 hb2 => ?_
  rw [mset_mset]
  obtain ⟨base, hbase⟩ := Int.eq_ofNat_of_zero_le h2
  subst hbase
  have m3 := mod_pos r1 (show (0 : Int) < 3 by decide)
  have hS := (KS.start hM).draw b2
  simp only [dComp, iRange, dOp, dC, dV, List.getElem?_cons_zero, List.getElem?_cons_succ, oMod_int, oAdd_int]
  refine ⟨by decide, ⟨by omega, by omega⟩, by simp; omega, ?_⟩
  rw [upTo_eq]
  refine names_comp base (by omega) _ _ _ (by rfl) (by simp) _ 0 [] (by omega) ?_
  rw [List.nil_append]
  obtain ⟨nk, hnk⟩ : ∃ nk, nk = (1 + r1 % 3).toNat := ⟨_, rfl⟩
  rw [← hnk]
  have hlen : ((List.range' 0 nk).map (wordOf "k" base)).length = nk := by simp
  obtain ⟨names, hnames⟩ : ∃ ns, ns = (List.range' 0 nk).map (wordOf "k" base) := ⟨_, rfl⟩
  rw [← hnames] at hlen ⊢
  intro p5 hp5
  have F := hS.fresh hp5
  rw [← hkb]
  refine kinds_loop _ M dk p5 F names (by omega) base (by omega) _ names _ b2 0 [] _ _ _ _ _ _ _ rfl ⟨rfl, rfl⟩ (hS.upd F []) (by omega) (mset_same _ _ _) (by omega) (by intro k hk; cases hk) ?_
  intro M1 ks b3 o4 o6 o7 o8 o9 o10 o11 o12 y1 y1' y2 y3 y4 y5
  simp [y3]
  refine Ret.same y2.sub fun dk' b' e1 e2 => ?_
  simp only [List.cons.injEq, D.ref.injEq, and_true] at e1
  subst e1
  rw [hM] at e2
  cases e2
  have hkl : ks.length = names.length := by rw [← y1]; simp
  refine ⟨ks, base, rfl, ⟨⟨by omega, ?_⟩, by omega, by omega, ?_, y1'⟩, b3, rfl, by omega⟩
  · have : ownK ks = names ++ [("truth" : Str)] := by unfold ownK; rw [y1]
    rw [this]
    exact y4
  · rw [y1, hnames, hkl, hlen]
/-! ### the same, part by part -/
mutual
/-- data that is the same as itself: no places, short rows -/
def selfOk : D → Bool
  | .non => true
  | .int _ => true
  | .str _ => true
  | .tup xs => decide (xs.length ≤ 100000) && selfOks xs
  | _ => false
def selfOks : List D → Bool
  | [] => true
  | x :: xs => selfOk x && selfOks xs
end
def sp_same (n : Nat) : Spec := ⟨fun ds _ => ∃ d, ds = [d, d] ∧ selfOk d = true ∧ depth d ≤ n, fun _ M d M' => d = .bl true ∧ M' = M⟩
theorem call_same {n : Nat} {d : D} {M : Mem} {Q : DK} (h : selfOk d = true) (hd : depth d ≤ n) (q : Q (.bl true) M) : (sp_same n).pre [d, d] M ∧ ∀ e M', (sp_same n).post [d, d] M e M' → Q e M' := by
  refine ⟨⟨d, rfl, h, hd⟩, fun e M' p => ?_⟩
  obtain ⟨rfl, rfl⟩ := p
  exact q
theorem dep_pos (d : D) : 1 ≤ depth d := by cases d <;> simp [depth]
theorem same_none (ds : List D) (M : Mem) : ¬ (sp_same 0).pre ds M := by
  rintro ⟨d, _, _, h⟩
  have := dep_pos d
  omega
def trues (n : Nat) : List D := List.replicate n (.bl true)
theorem trues_bools (n : Nat) : dBools (trues n) = some (List.replicate n true) := by
  induction n with
  | zero => rfl
  | succ n ih =>
    show dBools (.bl true :: trues n) = _
    rw [dBools_cons, ih]
    rfl
theorem all_true (n : Nat) : (List.replicate n true).all id = true := by
  induction n with
  | zero => rfl
  | succ n ih => rw [List.replicate_succ, List.all_cons, ih]; rfl
theorem trues_snoc (n : Nat) : trues n ++ [.bl true] = trues (n + 1) := by
  unfold trues
  rw [List.replicate_succ']
theorem same_comp (n : Nat) (ρ : Env) (h4 : 3 < ρ.length) (M : Mem) (Q : DK) : ∀ (xs : List D) (k : Nat), selfOks xs = true → depths xs ≤ n → Q (.lst (trues (k + xs.length))) M →
    dCompL (gTup (gCons (gName 2) (gCons (gName 3) gNil))) dYes (dCall (sp_same n) (dA (dV 2) (dA (dV 3) dA0))) ρ (zipD xs xs) (trues k) M Q
  | [], k, _, _, q => by simpa using q
  | x :: xs, k, h, hd, q => by
    simp only [selfOks, Bool.and_eq_true] at h
    simp only [depths] at hd
    have g2 : ((ρ.set 2 (some x)).set 3 (some x))[2]? = some (some x) := by
      rw [List.getElem?_set_ne (by decide), List.getElem?_set_self (by omega)]
    have g3 : ((ρ.set 2 (some x)).set 3 (some x))[3]? = some (some x) := by
      rw [List.getElem?_set_self (by rw [List.length_set]; exact h4)]
    simp only [zipD_cons, dCompL, gTup, gCons, gName, gNil, dYes, if_true, dCall, dA, dV, dA0, g2, g3]
    refine call_same h.1 (by omega) ?_
    rw [trues_snoc]
    refine same_comp n ρ h4 M Q xs (k + 1) h.2 (by omega) ?_
    rw [List.length_cons] at q
    rw [show k + 1 + xs.length = k + (xs.length + 1) by omega]
    exact q
theorem zipD_self_length : ∀ xs : List D, (zipD xs xs).length = xs.length
  | [] => rfl
  | _ :: xs => by simp [zipD_self_length xs]
theorem does_same (n : Nat) : Does 4 (t__law_same (sp_same n)) 2 (sp_same (n + 1)) := by
  rintro ds M hl ⟨d, rfl, h, hd⟩
  have fin : Ret (sp_same (n + 1)) [d, d] M (.bl true) M := Ret.now ⟨rfl, rfl⟩
  cases d with
  | tup xs =>
    simp only [selfOk, Bool.and_eq_true, decide_eq_true_eq] at h
    simp only [depth] at hd
    simp [t__law_same]
    rw [zipD_self_length]
    refine ⟨h.1, ?_⟩
    refine same_comp n _ (by simp) M _ xs 0 h.2 (by omega) ?_
    simp only [oAll_lst, trues_bools, all_true]
    exact fin
  | non => simpa [t__law_same] using fin
  | int b => simpa [t__law_same] using fin
  | str b => simpa [t__law_same] using fin
  | _ => simp [selfOk] at h
theorem says_append (a b : List Say) : says (a ++ b) = says a ++ says b := by
  induction a with
  | nil => rfl
  | cons s r ih => simp [says, ih]
/-! what is compared -/
mutual
theorem self_d : ∀ s : Say, s.ok = true → selfOk s.d = true
  | .name x, o => by simp [Say.d, selfOk, selfOks]
  | .skip, o => by simp [Say.d, selfOk, selfOks]
  | .made x ps, o => by
    have h3 := parts3 o
    have h := selfs_d ps (oks_parts (s := .made x ps) o)
    simp only [Say.parts] at h3
    simp [Say.d, selfOk, selfOks, h, says_length]
    omega
  | .call x ps, o => by
    have h3 := parts3 o
    have h := selfs_d ps (oks_parts (s := .call x ps) o)
    simp only [Say.parts] at h3
    simp [Say.d, selfOk, selfOks, h, says_length]
    omega
  | .either a b, o => by
    have h := oks_parts o
    simp only [Say.parts, oks, Bool.and_eq_true] at h
    simp [Say.d, selfOk, selfOks, self_d a h.1, self_d b h.2.1]
  | .same a b, o => by
    have h := oks_parts o
    simp only [Say.parts, oks, Bool.and_eq_true] at h
    simp [Say.d, selfOk, selfOks, self_d a h.1, self_d b h.2.1]
theorem selfs_d : ∀ ps : List Say, oks ps = true → selfOks (says ps) = true
  | [], _ => by simp [says, selfOks]
  | s :: r, o => by
    simp only [oks, Bool.and_eq_true] at o
    simp [says, selfOks, self_d s o.1, selfs_d r o.2]
end
theorem self_map {α : Type} (f : α → D) : ∀ xs : List α, (∀ x ∈ xs, selfOk (f x) = true) → selfOks (xs.map f) = true
  | [], _ => by simp [selfOks]
  | x :: r, h => by simp [selfOks, h x (by simp), self_map f r fun y hy => h y (List.mem_cons_of_mem _ hy)]
theorem depth_map {α : Type} (f : α → D) (n : Nat) : ∀ xs : List α, (∀ x ∈ xs, depth (f x) ≤ n) → depths (xs.map f) ≤ n
  | [], _ => by simp [depths]
  | x :: r, h => by
    have h1 := h x (by simp)
    have h2 := depth_map f n r fun y hy => h y (List.mem_cons_of_mem _ hy)
    simp only [List.map_cons, depths]
    omega
theorem oks_snoc : ∀ (l : List Say) (s : Say), oks l = true → s.ok = true → oks (l ++ [s]) = true
  | [], s, _, h => by simp [oks, h]
  | a :: r, s, h, hs => by
    simp only [List.cons_append, oks, Bool.and_eq_true] at h ⊢
    exact ⟨h.1, oks_snoc r s h.2 hs⟩
theorem deeps_snoc : ∀ (l : List Say) (s : Say) (m : Nat), deeps l ≤ m → s.deep ≤ m → deeps (l ++ [s]) ≤ m
  | [], s, m, _, h => by simp [deeps, h]
  | a :: r, s, m, h, hs => by
    rw [List.cons_append, deeps_cons]
    rw [deeps_cons] at h
    have := deeps_snoc r s m (by omega) hs
    omega
def fpD (q : Str × Say) : D := .tup [.str q.1, q.2.d]
theorem cmp_str {x : Str} (h : strOk x = true) : cmpOk (.str x) = true := by
  simp only [cmpOk, plain, depth, h, Bool.true_and]
  exact decide_eq_true (by omega)
theorem cmp_int (i : Int) : cmpOk (.int i) = true := by
  simp only [cmpOk, plain, depth, Bool.true_and]
  exact decide_eq_true (by omega)
/-! ### the program: parts, nodes, names -/
theorem ev_parts_of (s : Say) (E : DEnds) (M : Mem) : t_parts_of E [some s.d] M = E.rt (.tup (says s.parts)) M := by
  cases s <;> simp [t_parts_of, Say.d, Say.parts, says, atI, ixN, ofString_inj, cut, sIx]
def sp_parts : Spec := ⟨fun ds _ => ∃ s : Say, ds = [s.d], fun ds M d M' => M' = M ∧ ∀ s : Say, ds = [s.d] → d = .tup (says s.parts)⟩
theorem does_parts_of : Does 1 t_parts_of 1 sp_parts := by
  rintro ds M hl ⟨s, rfl⟩
  show t_parts_of _ [some s.d] M
  rw [ev_parts_of]
  exact Ret.now ⟨rfl, fun t h => by rw [one_inj h]⟩
theorem call_parts {s : Say} {M : Mem} {Q : DK} (q : Q (.tup (says s.parts)) M) : sp_parts.pre [s.d] M ∧ ∀ d M', sp_parts.post [s.d] M d M' → Q d M' := by
  refine ⟨⟨s, rfl⟩, fun d M' p => ?_⟩
  obtain ⟨rfl, p⟩ := p
  rw [p s rfl]
  exact q
mutual
/-- the nodes, each behind its path -/
def Say.nds (p : List Nat) : Say → List (List Nat × Say)
  | .name x => [(p, .name x)]
  | .skip => [(p, .skip)]
  | .made h ps => (p, .made h ps) :: ndsL p 0 ps
  | .call h ps => (p, .call h ps) :: ndsL p 0 ps
  | .either a b => (p, .either a b) :: (a.nds (p ++ [0]) ++ b.nds (p ++ [1]))
  | .same a b => (p, .same a b) :: (a.nds (p ++ [0]) ++ b.nds (p ++ [1]))
def ndsL (p : List Nat) (i : Nat) : List Say → List (List Nat × Say)
  | [] => []
  | s :: r => s.nds (p ++ [i]) ++ ndsL p (i + 1) r
end
theorem nds_eq (p : List Nat) (s : Say) : s.nds p = (p, s) :: ndsL p 0 s.parts := by
  cases s <;> simp [Say.nds, ndsL, Say.parts]
mutual
theorem nds_length (p : List Nat) : ∀ s : Say, (s.nds p).length = s.size
  | .name x => by simp [Say.nds, Say.size]
  | .skip => by simp [Say.nds, Say.size]
  | .made h ps => by simp [Say.nds, Say.size, ndsL_length p 0 ps]
  | .call h ps => by simp [Say.nds, Say.size, ndsL_length p 0 ps]
  | .either a b => by simp [Say.nds, Say.size, nds_length _ a, nds_length _ b]
  | .same a b => by simp [Say.nds, Say.size, nds_length _ a, nds_length _ b]
theorem ndsL_length (p : List Nat) (i : Nat) : ∀ ps : List Say, (ndsL p i ps).length = sizes ps
  | [] => rfl
  | s :: r => by simp [ndsL, sizes, nds_length _ s, ndsL_length p (i + 1) r]
end
def pathD (p : List Nat) : List D := p.map fun (i : Nat) => .int (i : Int)
@[simp] theorem pathD_nil : pathD [] = [] := rfl
@[simp] theorem pathD_snoc (p : List Nat) (i : Nat) : pathD (p ++ [i]) = pathD p ++ [.int (i : Int)] := by simp [pathD]
@[simp] theorem pathD_length (p : List Nat) : (pathD p).length = p.length := by simp [pathD]
theorem pathD_inj : ∀ {p q : List Nat}, pathD p = pathD q → p = q
  | [], [], _ => rfl
  | [], _ :: _, h => by simp [pathD] at h
  | _ :: _, [], h => by simp [pathD] at h
  | a :: p, b :: q, h => by
    have h' : D.int (a : Int) :: pathD p = D.int (b : Int) :: pathD q := h
    simp only [List.cons.injEq, D.int.injEq] at h'
    rw [pathD_inj h'.2]
    have : a = b := by omega
    rw [this]
def pairD (q : List Nat × Say) : D := .tup [.tup (pathD q.1), q.2.d]
def sp_add (n : Nat) : Spec := ⟨fun ds M => ∃ l xs p s, ds = [.ref l, .tup (pathD p), Say.d s] ∧ M l = some (.lst xs) ∧ s.deep ≤ n ∧ xs.length + s.size ≤ 5000 ∧ p.length + n ≤ 1000,
  fun ds M d M' => ∀ l xs p s, ds = [.ref l, .tup (pathD p), Say.d s] → M l = some (.lst xs) → d = .non ∧ M' = mset M l (.lst (xs ++ (s.nds p).map pairD))⟩
theorem call_add {n : Nat} {l : Addr} {xs : List D} {p : List Nat} {s : Say} {M : Mem} {Q : DK} (h : M l = some (.lst xs)) (hd : s.deep ≤ n) (hz : xs.length + s.size ≤ 5000) (hp : p.length + n ≤ 1000) (q : Q .non (mset M l (.lst (xs ++ (s.nds p).map pairD)))) :
    (sp_add n).pre [.ref l, .tup (pathD p), s.d] M ∧ ∀ d M', (sp_add n).post [.ref l, .tup (pathD p), s.d] M d M' → Q d M' := by
  refine ⟨⟨l, xs, p, s, rfl, h, hd, hz, hp⟩, fun d M' z => ?_⟩
  obtain ⟨rfl, rfl⟩ := z l xs p s rfl h
  exact q
theorem does_add_nodes (n : Nat) : Does 5 (t_add_nodes sp_parts (sp_add n)) 3 (sp_add (n + 1)) := by
  rintro ds M hl ⟨l, xs, p, s, rfl, hM, hd, hz, hp⟩
  have hsz := size_parts s
  have hdp := deep_parts s
  have loop : ∀ (E : DEnds) (ps : List Say) (i : Nat) (xs : List D) (o3 o4 : Option D), deeps ps ≤ n → xs.length + sizes ps ≤ 5000 →
      (∀ o3 o4, E.nx [some (.ref l), some (.tup (pathD p)), some s.d, o3, o4] (mset M l (.lst (xs ++ (ndsL p i ps).map pairD)))) →
      sLoop (gTup (gCons (gName 3) (gCons (gName 4) gNil))) (sExpr (dCall (sp_add n) (dA (dV 0) (dA (dOp oAdd (dV 1) (dTup (dA (dV 3) dA0))) (dA (dV 4) dA0))))) (enumD i (says ps)) E [some (.ref l), some (.tup (pathD p)), some s.d, o3, o4] (mset M l (.lst xs)) := by
    intro E ps
    induction ps with
    | nil => intro i xs o3 o4 _ _ q; simpa [says, ndsL] using q o3 o4
    | cons t r ih =>
      intro i xs o3 o4 h1 h2 q
      simp only [deeps] at h1
      simp only [sizes] at h2
      simp [says]
      refine ⟨by omega, ?_⟩
      rw [← pathD_snoc]
      refine call_add (xs := xs) (by simp) (by omega) (by omega) (by simp; omega) ?_
      simp only [mset_mset]
      refine ih (i + 1) _ _ _ (by omega) (by rw [List.length_append, List.length_map, nds_length]; omega) ?_
      intro o3 o4
      have := q o3 o4
      simpa [ndsL] using this
  simp [t_add_nodes, hM]
  refine ⟨by omega, ?_⟩
  refine call_parts ?_
  refine loop _ s.parts 0 (xs ++ [.tup [.tup (pathD p), s.d]]) none none (by omega) (by simp; omega) ?_
  intro o3 o4
  refine Ret.now ?_
  intro l' xs' p' s' e1 e2
  simp only [List.cons.injEq, D.ref.injEq, D.tup.injEq, and_true] at e1
  obtain ⟨rfl, e0, e1⟩ := e1
  have e0 := pathD_inj e0
  subst e0
  rw [hM] at e2
  cases e2
  rw [← Say.d_inj e1]
  refine ⟨rfl, ?_⟩
  rw [nds_eq, List.append_assoc]
  rfl
/-- nothing is deeper than nought -/
theorem deep_pos (s : Say) : 1 ≤ s.deep := by cases s <;> simp [Say.deep]
theorem add_none (ds : List D) (M : Mem) : ¬ (sp_add 0).pre ds M := by
  rintro ⟨l, xs, p, s, _, _, h, _⟩
  have := deep_pos s
  omega
/-- what is asked of sayings here -/
def Fit (s : Say) : Prop := s.ok = true ∧ s.deep ≤ 8 ∧ s.size ≤ 4000
def sp_nodes : Spec := ⟨fun ds _ => ∃ s : Say, ds = [s.d] ∧ Fit s, fun ds M d M' => M' = M ∧ ∀ s : Say, ds = [s.d] → d = .tup ((s.nds []).map pairD)⟩
theorem call_nodes {s : Say} {M : Mem} {Q : DK} (f : Fit s) (q : Q (.tup ((s.nds []).map pairD)) M) : sp_nodes.pre [s.d] M ∧ ∀ d M', sp_nodes.post [s.d] M d M' → Q d M' := by
  refine ⟨⟨s, rfl, f⟩, fun d M' p => ?_⟩
  obtain ⟨rfl, p⟩ := p
  rw [p s rfl]
  exact q
theorem does_nodes_of : Does 2 (t_nodes_of (sp_add 8)) 1 sp_nodes := by
  rintro ds M hl ⟨s, rfl, f⟩
  obtain ⟨f1, f2, f3⟩ := f
  simp [t_nodes_of]
  intro p hp
  refine call_add (p := []) (xs := []) (by simp) f2 (by simp; omega) (by simp) ?_
  simp
  exact Ret.same (M'' := M) (Sub.lst hp) ⟨rfl, fun t h => by rw [one_inj h]⟩
/-- the names, each once -/
def namesL : List (List Nat × Say) → List Str → List Str
  | [], acc => acc
  | (_, .name x) :: r, acc => namesL r (if x ∈ acc then acc else acc ++ [x])
  | _ :: r, acc => namesL r acc
theorem namesL_le : ∀ (ns : List (List Nat × Say)) (acc : List Str), (namesL ns acc).length ≤ acc.length + ns.length
  | [], acc => by simp [namesL]
  | (p, s) :: r, acc => by
    cases s <;> simp only [namesL, List.length_cons]
    case name x =>
      split
      · have := namesL_le r acc; omega
      · have := namesL_le r (acc ++ [x]); simp at this; omega
    all_goals (have := namesL_le r acc; omega)
def sp_names : Spec := ⟨fun ds _ => ∃ s : Say, ds = [s.d] ∧ Fit s, fun ds M d M' => M' = M ∧ ∀ s : Say, ds = [s.d] → d = .tup ((namesL (s.nds []) []).map D.str)⟩
theorem call_names {s : Say} {M : Mem} {Q : DK} (f : Fit s) (q : Q (.tup ((namesL (s.nds []) []).map D.str)) M) : sp_names.pre [s.d] M ∧ ∀ d M', sp_names.post [s.d] M d M' → Q d M' := by
  refine ⟨⟨s, rfl, f⟩, fun d M' p => ?_⟩
  obtain ⟨rfl, p⟩ := p
  rw [p s rfl]
  exact q
theorem names_loop (E : DEnds) (M : Mem) (l : Addr) (sd : Option D) : ∀ (ns : List (List Nat × Say)) (acc : List Str) (o2 o3 : Option D), acc.length + ns.length ≤ 5000 →
    (∀ o2 o3, E.nx [sd, some (.ref l), o2, o3] (mset M l (.lst ((namesL ns acc).map D.str)))) →
    sLoop (gTup (gCons (gName 2) (gCons (gName 3) gNil))) (sIf (dAnd (dTest (dOp oEq (dOp oIx (dV 3) (dC (.int 0))) (dC (.str "name")))) (dTest (dOp oNotIn (dOp oIx (dV 3) (dC (.int 1))) (dV 1)))) (sExpr (dMeth mAppend (dV 1) (dOp oIx (dV 3) (dC (.int 1))))) sNext)
      (ns.map pairD) E [sd, some (.ref l), o2, o3] (mset M l (.lst (acc.map D.str)))
  | [], acc, o2, o3, _, q => by simpa [namesL] using q o2 o3
  | (p, s) :: r, acc, o2, o3, h, q => by
    simp only [List.length_cons] at h
    have next : ∀ o2 o3, (∀ o2 o3, E.nx [sd, some (.ref l), o2, o3] (mset M l (.lst ((namesL r acc).map D.str)))) → _ := fun o2 o3 => names_loop E M l sd r acc o2 o3 (by omega)
    cases s with
    | name x =>
      simp only [List.map_cons, pairD]
      simp [Say.d, atI, ixN]
      by_cases c : x ∈ acc
      · simp [c]
        refine next _ _ ?_
        simpa [namesL, c] using q
      · simp [c]
        refine ⟨by omega, ?_⟩
        have z := names_loop E M l sd r (acc ++ [x]) (some (.tup (pathD p))) (some (.tup [.str "name", .str x])) (by simp; omega) (by simpa [namesL, c] using q)
        simpa using z
    | made _ _ =>
      simp only [List.map_cons, pairD]
      simp [Say.d, atI, ixN, ofString_inj]
      exact next _ _ (by simpa [namesL] using q)
    | call _ _ =>
      simp only [List.map_cons, pairD]
      simp [Say.d, atI, ixN, ofString_inj]
      exact next _ _ (by simpa [namesL] using q)
    | either _ _ =>
      simp only [List.map_cons, pairD]
      simp [Say.d, atI, ixN, ofString_inj]
      exact next _ _ (by simpa [namesL] using q)
    | same _ _ =>
      simp only [List.map_cons, pairD]
      simp [Say.d, atI, ixN, ofString_inj]
      exact next _ _ (by simpa [namesL] using q)
    | skip =>
      simp only [List.map_cons, pairD]
      simp [Say.d, atI, ixN, ofString_inj]
      exact next _ _ (by simpa [namesL] using q)
theorem does_names_of : Does 4 (t_names_of sp_nodes) 1 sp_names := by
  rintro ds M hl ⟨s, rfl, f⟩
  simp [t_names_of]
  intro p hp
  refine call_nodes f ?_
  simp only []
  refine names_loop _ M p _ (s.nds []) [] none none (by simp [nds_length]; have := f.2.2; omega) ?_
  intro o2 o3
  simp
  exact Ret.same (M'' := M) (Sub.lst hp) ⟨rfl, fun t h => by rw [one_inj h]⟩
/-! ### filling -/
def lkp : List (Str × Say) → Str → Option Say
  | [], _ => none
  | q :: r, x => if q.1 = x then some q.2 else lkp r x
mutual
def Say.put (fs : List (Str × Say)) : Say → Say
  | .name x => (lkp fs x).getD (.name x)
  | .skip => .skip
  | .made h ps => .made h (puts fs ps)
  | .call h ps => .call h (puts fs ps)
  | .either a b => .either (a.put fs) (b.put fs)
  | .same a b => .same (a.put fs) (b.put fs)
def puts (fs : List (Str × Say)) : List Say → List Say
  | [] => []
  | s :: r => s.put fs :: puts fs r
end
theorem puts_length (fs : List (Str × Say)) : ∀ ps : List Say, (puts fs ps).length = ps.length
  | [] => rfl
  | s :: r => by simp only [puts, List.length_cons, puts_length fs r]
mutual
theorem put_nil : ∀ s : Say, s.put [] = s
  | .name x => rfl
  | .skip => rfl
  | .made h ps => by simp only [Say.put, puts_nil ps]
  | .call h ps => by simp only [Say.put, puts_nil ps]
  | .either a b => by simp only [Say.put, put_nil a, put_nil b]
  | .same a b => by simp only [Say.put, put_nil a, put_nil b]
theorem puts_nil : ∀ ps : List Say, puts [] ps = ps
  | [] => rfl
  | s :: r => by simp only [puts, put_nil s, puts_nil r]
end
theorem lkp_mem : ∀ {fs : List (Str × Say)} {x : Str} {s : Say}, lkp fs x = some s → ∃ q ∈ fs, q.2 = s
  | [], _, _, h => by cases h
  | q :: r, x, s, h => by
    simp only [lkp] at h
    split at h
    · exact ⟨q, by simp, Option.some.inj h⟩
    · obtain ⟨z, hz, e⟩ := lkp_mem h
      exact ⟨z, List.mem_cons_of_mem _ hz, e⟩
/-! ### makers' words are unlike -/
theorem flat_len : ∀ {ks : List Kd} {own : List Str}, (∀ k ∈ ks, GoodM own k.2) → (ks.flatMap (·.2)).length ≤ ks.length * 3
  | [], _, _ => by simp
  | k :: ks, own, h => by
    have h1 := (h k (by simp)).len
    have h2 := flat_len (ks := ks) fun y hy => h y (List.mem_cons_of_mem _ hy)
    simp only [List.flatMap_cons, List.length_append, List.length_cons, Nat.succ_mul]
    omega
theorem KindsOk.nine {ks : List Kd} {base : Nat} (h : KindsOk ks base) : (ks.flatMap (·.2)).length ≤ 9 := by
  have h1 := flat_len h.good.all
  have h2 := h.good.len
  omega
theorem words_nodup (s : Str) (b m n : Nat) (h : m + n ≤ 26) : ((List.range' m n).map (wordOf s b)).Nodup := by
  refine List.pairwise_map.mpr ?_
  refine List.Pairwise.imp_of_mem ?_ (List.nodup_range' (s := m) (n := n) (step := 1))
  intro x y hx hy hne e
  rw [List.mem_range'_1] at hx hy
  exact hne (word_inj (by omega) (by omega) e)
theorem KindsOk.mnodup {ks : List Kd} {base : Nat} (h : KindsOk ks base) : ((ks.flatMap (·.2)).map (·.1)).Nodup := by
  have := h.mn
  unfold NamedK Named at this
  rw [this]
  exact words_nodup _ _ _ _ (by have := h.nine; omega)
theorem mkOf_sub (x : Str) : ∀ ks : List Kd, (mkOf ks x = [((("yes" : Str), []) : Mk), ("no", [])]) ∨ ∃ k ∈ ks, k.1 = x ∧ mkOf ks x = k.2
  | [] => .inl rfl
  | k :: ks => by
    simp only [mkOf]
    split
    · rename_i e
      exact .inr ⟨k, by simp, e, rfl⟩
    · rcases mkOf_sub x ks with h | ⟨y, h1, h2, h3⟩
      · exact .inl h
      · exact .inr ⟨y, List.mem_cons_of_mem _ h1, h2, h3⟩
theorem KindsOk.mkNodup {ks : List Kd} {base : Nat} (h : KindsOk ks base) (x : Str) : ((mkOf ks x).map (·.1)).Nodup := by
  rcases mkOf_sub x ks with e | ⟨k, hk, _, e⟩
  · rw [e]
    have : (("yes" : Str)) ≠ ("no" : Str) := by rw [Ne, ofString_inj]; decide
    simp [this]
  · rw [e]
    obtain ⟨a, b, rfl⟩ := List.append_of_mem hk
    have := h.mnodup
    rw [List.flatMap_append, List.flatMap_cons, List.map_append, List.map_append] at this
    exact (List.nodup_append.mp (List.nodup_append.mp this).2.1).1
/-! ### things by kind -/
mutual
def Say.of (ks : List Kd) (nm : Str → Str → Prop) : Say → Str → Prop
  | .name x, k => nm x k
  | .made h ps, k => ∃ m, m ∈ mkOf ks k ∧ m.1 = h ∧ ofs ks nm ps m.2
  | _, _ => False
def ofs (ks : List Kd) (nm : Str → Str → Prop) : List Say → List Str → Prop
  | [], l => l = []
  | s :: r, l => ∃ k t, l = k :: t ∧ s.of ks nm k ∧ ofs ks nm r t
end
theorem ofs_len {ks : List Kd} {nm : Str → Str → Prop} : ∀ {ps : List Say} {l : List Str}, ofs ks nm ps l → ps.length = l.length
  | [], l, h => by rw [show l = [] from h]; rfl
  | s :: r, l, h => by
    obtain ⟨k, t, rfl, _, h2⟩ := h
    simp [ofs_len h2]
theorem ofs_snoc {ks : List Kd} {nm : Str → Str → Prop} : ∀ {ps : List Say} {l : List Str} {s : Say} {k : Str}, ofs ks nm ps l → s.of ks nm k → ofs ks nm (ps ++ [s]) (l ++ [k])
  | [], l, s, k, h, hs => by rw [show l = [] from h]; exact ⟨k, [], rfl, hs, rfl⟩
  | p :: r, l, s, k, h, hs => by
    obtain ⟨k', t, rfl, h1, h2⟩ := h
    exact ⟨k', t ++ [k], rfl, h1, ofs_snoc h2 hs⟩
mutual
theorem of_mono {ks : List Kd} {nm nm' : Str → Str → Prop} (f : ∀ x k, nm x k → nm' x k) : ∀ (s : Say) (k : Str), s.of ks nm k → s.of ks nm' k
  | .name x, k, h => f x k h
  | .made x ps, k, ⟨m, h1, h2, h3⟩ => ⟨m, h1, h2, ofs_mono f ps m.2 h3⟩
  | .call _ _, k, h => h.elim
  | .either _ _, k, h => h.elim
  | .same _ _, k, h => h.elim
  | .skip, k, h => h.elim
theorem ofs_mono {ks : List Kd} {nm nm' : Str → Str → Prop} (f : ∀ x k, nm x k → nm' x k) : ∀ (ps : List Say) (l : List Str), ofs ks nm ps l → ofs ks nm' ps l
  | [], l, h => h
  | s :: r, l, ⟨k, t, e, h1, h2⟩ => ⟨k, t, e, of_mono f s k h1, ofs_mono f r t h2⟩
end
def SB : Nat → Nat
  | 0 => 0
  | n + 1 => 3 * SB n + 1
/-! ### plain things by draws -/
abbrev noNm : Str → Str → Prop := fun _ _ => False
theorem atI_mks {ms : List Mk} {i : Int} (h0 : 0 ≤ i) (h1 : i < ms.length) : ∃ m, atI (ms.map mkD) i = some (mkD m) ∧ m ∈ ms := by
  obtain ⟨v, e, hv⟩ := atI_mem (xs := ms.map mkD) h0 (by simpa using h1)
  obtain ⟨m, hm, rfl⟩ := List.mem_map.mp hv
  exact ⟨m, e, hm⟩
theorem kindsD_inj {a b : List Kd} (h : kindsD a = kindsD b) : a = b := kds_inj (D.tup.inj h)
theorem says_snoc (ss : List Say) (s : Say) : says ss ++ [s.d] = says (ss ++ [s]) := by rw [says_append]; rfl
theorem max0 (far : Nat) (M : Mem) (Q : DK) : oMax (.int 0) (.int ((far : Int) - 1)) M Q = Q (.int ((far - 1 : Nat) : Int)) M := by
  show Q (.int (if (far : Int) - 1 > 0 then (far : Int) - 1 else 0)) M = _
  congr 2
  split <;> omega
theorem strOk_nm {x : Str} (h : strOk x = true) (h2 : x.length ≤ 100) : nmOk x = true := by simp [nmOk, h, h2]
/-! ### numbered names -/
def num (i : Nat) : Str := Str.ofString (toString (i : Int))
def decS (s : Str) : Nat := s.cps.toList.foldl (fun a c => 10 * a + (c - 48)) 0
theorem dec_num : ∀ i : Fin 1000, decS (num i.val) = i.val := by decide +kernel
theorem num_inj {i j : Nat} (hi : i < 1000) (hj : j < 1000) (h : num i = num j) : i = j := by
  have a := dec_num ⟨i, hi⟩
  have b := dec_num ⟨j, hj⟩
  simp only at a b
  rw [← a, ← b, h]
theorem num_len : ∀ i : Fin 1000, (num i.val).length ≤ 4 := by decide +kernel
theorem nm_num {i : Nat} (h : i < 1000) : nmOk (num i) = true := by
  have := num_len ⟨i, h⟩
  simp only at this
  simp [nmOk, show strOk (num i) = true from strOk_of _]
  omega
theorem oStr_nat (i : Nat) (M : Mem) (Q : DK) : oStr (.int ((i : Nat) : Int)) M Q = ((i : Int).natAbs < 2 ^ 200 ∧ Q (.str (num i)) M) := rfl
mutual
def Say.nms : Say → List Str
  | .name x => [x]
  | .made _ ps => nmsL ps
  | .call _ ps => nmsL ps
  | .either a b => a.nms ++ b.nms
  | .same a b => a.nms ++ b.nms
  | .skip => []
def nmsL : List Say → List Str
  | [] => []
  | s :: r => s.nms ++ nmsL r
end
theorem nmsL_append : ∀ a b : List Say, nmsL (a ++ b) = nmsL a ++ nmsL b
  | [], b => rfl
  | s :: r, b => by simp [nmsL, nmsL_append r b]
theorem nmsL_snoc (a : List Say) (s : Say) : nmsL (a ++ [s]) = nmsL a ++ s.nms := by rw [nmsL_append]; simp [nmsL]
/-- names come in order: old ones, or the next number -/
def ordN : Nat → List Str → Nat → Prop
  | n, [], m => m = n
  | n, x :: r, m => (∃ i, i < n ∧ x = num (i + 1) ∧ ordN n r m) ∨ (x = num (n + 1) ∧ ordN (n + 1) r m)
theorem ordN_append : ∀ {a b : List Str} {n m k : Nat}, ordN n a m → ordN m b k → ordN n (a ++ b) k
  | [], b, n, m, k, h, g => by rw [show m = n from h] at g; exact g
  | x :: r, b, n, m, k, h, g => by
    rcases h with ⟨i, h1, h2, h3⟩ | ⟨h1, h2⟩
    · exact .inl ⟨i, h1, h2, ordN_append h3 g⟩
    · exact .inr ⟨h1, ordN_append h2 g⟩
theorem ordN_le : ∀ {a : List Str} {n m : Nat}, ordN n a m → n ≤ m
  | [], n, m, h => by rw [show m = n from h]; exact Nat.le_refl _
  | x :: r, n, m, h => by
    rcases h with ⟨i, h1, h2, h3⟩ | ⟨h1, h2⟩
    · exact ordN_le h3
    · have := ordN_le h2; omega
def nmK (known : List Str) (x k : Str) : Prop := ∃ i, known[i]? = some k ∧ x = num (i + 1)
theorem nmK_mono {known t : List Str} {x k : Str} (h : nmK known x k) : nmK (known ++ t) x k := by
  obtain ⟨i, h1, h2⟩ := h
  have := (List.getElem?_eq_some_iff.mp h1).1
  exact ⟨i, by rw [List.getElem?_append_left this]; exact h1, h2⟩
/-- the numbers at which a kind stands -/
def olds (known : List Str) (kind : Str) : List Nat := (List.range known.length).filter fun i => decide (known[i]? = some kind)
theorem olds_mem {known : List Str} {kind : Str} {i : Nat} (h : i ∈ olds known kind) : known[i]? = some kind := by
  simpa using (List.mem_filter.mp h).2
theorem olds_comp (v : Nat) (tk tl : DE) (known : List Str) (kind : Str) (hl : known.length ≤ 900) (M : Mem) (Q : DK) (ρ : Env) (rv : v < ρ.length)
    (h1 : ∀ (i : Nat) (R : DK), tl (ρ.set v (some (.int (i : Int)))) M R = (match known[i]? with | some x => R (.str x) M | none => False))
    (h2 : ∀ (i : Nat) (R : DK), tk (ρ.set v (some (.int (i : Int)))) M R = R (.str kind) M)
    (q : Q (.lst ((olds known kind).map fun i => .str (num (i + 1)))) M) :
    dCompL (gName v) (dTest (dOp oEq tl tk)) (dUn oStr (dOp oAdd (dV v) (dC (.int 1)))) ρ (upTo known.length) [] M Q := by
  rw [upTo_map]
  refine compT (fun (i : Nat) => D.int (i : Int)) (fun i => .str (num (i + 1))) (fun i => decide (known[i]? = some kind)) (List.range known.length) ?_ q
  intro i hi R N r n
  have hi' : i < known.length := List.mem_range.mp hi
  have g : (ρ.set v (some (.int (i : Int))))[v]? = some (some (.int (i : Int))) := List.getElem?_set_self rv
  have e : known[i]? = some known[i] := List.getElem?_eq_getElem hi'
  simp only [gName, dTest, dOp, h1, h2, e, oEq, eqB_str, dUn, dV, dC, g, oAdd_int]
  rw [show ((i : Int) + 1) = ((i + 1 : Nat) : Int) by simp, oStr_nat]
  rw [e] at r n
  by_cases c : known[i] = kind
  · simp only [c, decide_true, if_true]
    exact ⟨by
      have : ((i + 1 : Nat) : Int).natAbs = i + 1 := rfl
      rw [this]
      exact Nat.lt_of_le_of_lt (by omega : i + 1 ≤ 1000) (by decide), r (by simp [c])⟩
  · simp only [c, decide_false]
    exact n (by simp [c])
theorem atI_olds {known : List Str} {kind : Str} {j : Int} (h0 : 0 ≤ j) (h1 : j < (olds known kind).length) : ∃ i, atI ((olds known kind).map fun i => D.str (num (i + 1))) j = some (.str (num (i + 1))) ∧ known[i]? = some kind := by
  obtain ⟨v, e, hv⟩ := atI_mem (xs := (olds known kind).map fun i => D.str (num (i + 1))) h0 (by simpa using h1)
  obtain ⟨i, hi, rfl⟩ := List.mem_map.mp hv
  exact ⟨i, e, olds_mem hi⟩
theorem cmp_strs (l : List Str) (h : ∀ x ∈ l, strOk x = true) : plains (l.map D.str) = true ∧ depths (l.map D.str) ≤ 1 := by
  induction l with
  | nil => simp [plains, depths]
  | cons x r ih =>
    have := ih fun y hy => h y (List.mem_cons_of_mem _ hy)
    simp only [List.map_cons, plains, depths, plain, depth, h x (by simp), this.1, Bool.and_self, true_and]
    exact Nat.max_le.mpr ⟨Nat.le_refl _, this.2⟩
/-- a list of texts that is not the empty one -/
theorem ne_nil (l : List Str) (h : ∀ x ∈ l, strOk x = true) (M : Mem) (Q : BK) : eqB (.lst (l.map D.str)) (.lst []) M Q = Q (l.isEmpty) M := by
  have hc := cmp_strs l h
  have c1 : cmpOk (.lst (l.map D.str)) = true := by
    have := hc.2
    simp [cmpOk, plain, depth, hc.1]
    omega
  have c2 : cmpOk (.lst []) = true := by decide
  show (cmpOk (.lst (l.map D.str)) = true ∧ cmpOk (.lst []) = true ∧ Q (eqv (.lst (l.map D.str)) (.lst [])) M) = _
  simp only [c1, c2, true_and, eqv_lst]
  cases l <;> simp
/-! ### open things -/
def sp_open (n : Nat) : Spec := .of (fun (dk, ks, kind, far, p) => [.ref dk, kindsD ks, .str kind, .int ((far : Nat) : Int), .ref p])
  (fun (dk, ks, kind, far, p) M => GoodK ks ∧ kind ∈ ownK ks ∧ far + 1 ≤ n ∧ ∃ b known, M dk = some (.deck 1 b) ∧ M p = some (.lst ((known : List Str).map D.str)) ∧ SB n ≤ b ∧ known.length + SB n ≤ 900)
  fun (dk, ks, kind, far, p) M d M' => ∀ b known, M dk = some (.deck 1 b) → M p = some (.lst ((known : List Str).map D.str)) → ∃ (s : Say) (t : List Str) (b' : Nat), d = s.d ∧ M' = mset (mset M dk (.deck 1 b')) p (.lst ((known ++ t).map D.str)) ∧ b ≤ b' + SB n ∧ (t.length ≤ SB n ∧ ∀ k ∈ t, k ∈ ownK ks) ∧ s.ok = true ∧ s.of ks (nmK (known ++ t)) kind ∧ s.deep ≤ far + 1 ∧ ordN known.length s.nms (known ++ t).length
theorem call_open {n : Nat} {dk p : Addr} {b : Nat} {ks : List Kd} {kind : Str} {far : Nat} {known : List Str} {M : Mem} {Q : DK} (h : M dk = some (.deck 1 b)) (hp : M p = some (.lst (known.map D.str))) (h1 : GoodK ks) (h2 : kind ∈ ownK ks) (h3 : far + 1 ≤ n) (h4 : SB n ≤ b) (h5 : known.length + SB n ≤ 900)
    (q : ∀ (s : Say) (t : List Str) (b' : Nat), b ≤ b' + SB n → (t.length ≤ SB n ∧ ∀ k ∈ t, k ∈ ownK ks) → s.ok = true → s.of ks (nmK (known ++ t)) kind → s.deep ≤ far + 1 → ordN known.length s.nms (known ++ t).length → Q s.d (mset (mset M dk (.deck 1 b')) p (.lst ((known ++ t).map D.str)))) :
    (sp_open n).pre [.ref dk, kindsD ks, .str kind, .int (far : Int), .ref p] M ∧ ∀ d M', (sp_open n).post [.ref dk, kindsD ks, .str kind, .int (far : Int), .ref p] M d M' → Q d M' :=
  ⟨⟨(dk, ks, kind, far, p), rfl, h1, h2, h3, b, known, h, hp, h4, h5⟩, fun d M' z => by
    obtain ⟨s, t, b', rfl, rfl, y1, y2, y3, y4, y5, y6⟩ := z (dk, ks, kind, far, p) rfl b known h hp
    exact q s t b' y1 y2 y3 y4 y5 y6⟩
theorem open_none (ds : List D) (M : Mem) : ¬ (sp_open 0).pre ds M := by
  rintro ⟨⟨dk, ks, kind, far, p⟩, _, _, _, h, _⟩
  omega
theorem strs_inj {a b : List Str} (h : a.map D.str = b.map D.str) : a = b := str_map_inj h
theorem SB_pos (n : Nat) : 1 ≤ SB (n + 1) := by show 1 ≤ 3 * SB n + 1; omega
theorem does_open (n : Nat) : Does 12 (t__law_open (sp_open n) sp_makers (sp_next 1 1000)) 5 (sp_open (n + 1)) := by
  refine Does.of ?_ ?_
  · rintro ⟨dk, ks, kind, far, p⟩ ⟨dk', ks', kind', far', p'⟩ e
    simp only [List.cons.injEq, D.ref.injEq, D.str.injEq, D.int.injEq, and_true] at e
    obtain ⟨rfl, e2, rfl, e4, rfl⟩ := e
    rw [kindsD_inj e2, show far = far' by omega]
  rintro ⟨dk, ks, kind, far, p⟩ M R ⟨hg, hk, hf, b, known, hM, hp, hb, hkn⟩ ret
  have hS : SB (n + 1) = 3 * SB n + 1 := rfl
  have gm := mkOf_good kind ks hg.all
  obtain ⟨x0, r0, e0⟩ := gm.fst
  have hml : 0 < (mkOf ks kind).length := by rw [e0]; simp
  have np : p ≠ dk := fun e => by rw [e, hM] at hp; cases hp
  have fin : ∀ (s : Say) (t : List Str) (b' : Nat), b ≤ b' + SB (n + 1) → (t.length ≤ SB (n + 1) ∧ ∀ k ∈ t, k ∈ ownK ks) → s.ok = true → s.of ks (nmK (known ++ t)) kind → s.deep ≤ far + 1 → ordN known.length s.nms (known ++ t).length → R s.d (mset (mset M dk (.deck 1 b')) p (.lst ((known ++ t).map D.str))) := by
    intro s t b' z1 z2 z3 z4 z5 z6
    refine ret _ _ (.now fun b0 known0 e f => ?_)
    rw [hM] at e
    cases e
    rw [hp] at f
    simp only [Option.some.injEq, MO.lst.injEq] at f
    rw [← strs_inj f]
    exact ⟨s, t, b', rfl, rfl, z1, z2, z3, z4, z5, z6⟩
  clear ret
  simp only [t__law_open, sSeq, sAsg, sRet, sNext, sExpr, sFor, dCall, dA, dA0, dV, dC, dOp, dUn, dTup, dLst, dTest, dNot, dAnd, dOr, dMeth, dCut, dPart, dNoPart, gName, gTup, gCons, gNil, start, List.map, List.length, List.replicate, List.cons_append, List.nil_append, List.getElem?_cons_zero, List.getElem?_cons_succ, List.set]
  refine draw hM (by omega) fun r b1 h0 hr hb1 => ?_
  have hp1 : mset M dk (.deck 1 b1) p = some (.lst (known.map D.str)) := by rw [mset_ne np]; exact hp
  have back : ∀ b' (t : List Str), mset (mset M dk (.deck 1 b')) p (.lst ((known ++ t).map D.str)) = mset (mset (mset M dk (.deck 1 b1)) dk (.deck 1 b')) p (.lst ((known ++ t).map D.str)) := fun b' t => by rw [mset_mset]
  have keep : mset (mset M dk (.deck 1 b1)) p (.lst (known.map D.str)) = mset M dk (.deck 1 b1) := mset_self hp1
  simp only [dComp, iRange, dUn, dV, List.getElem?_cons_zero, List.getElem?_cons_succ, oLen_ref, hp1, List.length_map, wipe, List.set]
  refine ⟨⟨by omega, by omega⟩, by simp; omega, ?_⟩
  rw [show ((known.length : Nat) : Int).toNat = known.length from rfl]
  refine olds_comp 7 _ _ known kind (by omega) _ _ _ (by simp) ?_ ?_ ?_
  · intro i R
    simp only [dOp, dV, List.set, List.getElem?_cons_zero, List.getElem?_cons_succ, oIx_ref, hp1]
    by_cases c : i < known.length
    · rw [atI_nat' (by simpa using c)]
      simp [List.getElem?_eq_getElem c]
    · have : atI (known.map D.str) (i : Int) = none := by
        unfold atI ixN
        rw [if_pos (by omega), if_neg (by simp; omega)]
        rfl
      rw [this, List.getElem?_eq_none (by omega)]
  · intro i R
    rfl
  have ho : ∀ x ∈ (olds known kind).map (fun i => num (i + 1)), strOk x = true := by
    intro x hx
    obtain ⟨i, _, rfl⟩ := List.mem_map.mp hx
    exact strOk_of _
  have eo : (olds known kind).map (fun i => D.str (num (i + 1))) = ((olds known kind).map (fun i => num (i + 1))).map D.str := by simp
  rw [eo]
  refine sIf_c (r % 3 = 0 ∨ (far = 0 ∧ r % 2 = 0)) ?_ (fun c => ?_) (fun c => ?_)
  · intro Q q
    simp only [sSeq, sAsg, sRet, sNext, sExpr, sFor, dCall, dA, dA0, dV, dC, dOp, dUn, dTup, dLst, dTest, dNot, dAnd, dOr, dMeth, dCut, dPart, dNoPart, gName, gTup, gCons, gNil, start, List.map, List.length, List.replicate, List.cons_append, List.nil_append, List.getElem?_cons_zero, List.getElem?_cons_succ, List.set, oMod_int, oEq, eqB_int]
    refine ⟨by decide, ?_⟩
    by_cases c1 : r % 3 = 0
    · simpa [c1] using q
    · by_cases c2 : far = 0
      · simpa [c1, c2] using q
      · simpa [c1, c2] using q
  · refine sIf_c (olds known kind ≠ [] ∧ 0 < r / 6 % 3) ?_ (fun c => ?_) (fun c => ?_)
    · intro Q q
      simp only [sSeq, sAsg, sRet, sNext, sExpr, sFor, dCall, dA, dA0, dV, dC, dOp, dUn, dTup, dLst, dTest, dNot, dAnd, dOr, dMeth, dCut, dPart, dNoPart, gName, gTup, gCons, gNil, start, List.map, List.length, List.replicate, List.cons_append, List.nil_append, List.getElem?_cons_zero, List.getElem?_cons_succ, List.set, oMod_int, oFdiv_int, oNe, ne_nil _ ho, oGt_int]
      by_cases c1 : olds known kind = []
      · simpa [c1] using q
      · simpa [c1] using q
    · obtain ⟨c1, c2⟩ := c
      have hl : 0 < (olds known kind).length := List.length_pos_iff.mpr c1
      have m3 := mod_pos (r / 18) (show (0 : Int) < ((olds known kind).length : Int) by omega)
      obtain ⟨i, ei, hi⟩ := atI_olds m3.1 m3.2
      rw [eo] at ei
      simp only [sSeq, sAsg, sRet, sNext, sExpr, sFor, dCall, dA, dA0, dV, dC, dOp, dUn, dTup, dLst, dTest, dNot, dAnd, dOr, dMeth, dCut, dPart, dNoPart, gName, gTup, gCons, gNil, start, List.map, List.length, List.replicate, List.cons_append, List.nil_append, List.getElem?_cons_zero, List.getElem?_cons_succ, List.set, oMod_int, oFdiv_int, oLen_lst, List.length_map, oIx_lst, ei]
      refine ⟨⟨by decide, by decide⟩, by omega, ?_⟩
      have il : i < known.length := (List.getElem?_eq_some_iff.mp hi).1
      have f := fin (.name (num (i + 1))) [] b1 (by omega) ⟨by simp, by simp⟩ (by simp only [Say.ok]; exact nm_num (by omega)) (by simp only [List.append_nil]; exact ⟨i, hi, rfl⟩) (by simp [Say.deep]) (by simp only [Say.nms, List.append_nil]; exact .inl ⟨i, il, rfl, rfl⟩)
      rw [List.append_nil, keep] at f
      exact f
    · simp only [sSeq, sAsg, sRet, sNext, sExpr, sFor, dCall, dA, dA0, dV, dC, dOp, dUn, dTup, dLst, dTest, dNot, dAnd, dOr, dMeth, dCut, dPart, dNoPart, gName, gTup, gCons, gNil, start, List.map, List.length, List.replicate, List.cons_append, List.nil_append, List.getElem?_cons_zero, List.getElem?_cons_succ, List.set, sNext, asL_ref, hp1, Option.isSome_some, true_and, mAppend_ref, oLen_ref, mset_same, List.length_append, List.length_map, List.length_singleton]
      refine ⟨by omega, ?_⟩
      rw [oStr_nat]
      refine ⟨?_, ?_⟩
      · have : ((known.length + 1 : Nat) : Int).natAbs = known.length + 1 := rfl
        rw [this]
        exact Nat.lt_of_le_of_lt (by omega : known.length + 1 ≤ 1000) (by decide)
      · have f := fin (.name (num (known.length + 1))) [kind] b1 (by omega) ⟨by simp; have := SB_pos n; omega, by simp; exact hk⟩ (by simp only [Say.ok]; exact nm_num (by omega)) ⟨known.length, by simp, rfl⟩ (by simp [Say.deep]) (by simp only [Say.nms]; exact .inr ⟨rfl, by simp [ordN]⟩)
        simpa [Say.d] using f
  · simp only [sNext]
    refine call_makers ?_
    have m3 := mod_pos (r / 6) (show (0 : Int) < ((mkOf ks kind).length : Int) by omega)
    obtain ⟨m, em, hm⟩ := atI_mks (ms := mkOf ks kind) m3.1 m3.2
    have st : ∀ (m : Mk) (ρ : Env), m ∈ mkOf ks kind → (far = 0 → m.2 = []) → ρ[0]? = some (some (.ref dk)) → ρ[1]? = some (some (kindsD ks)) → ρ[3]? = some (some (.int (far : Int))) → ρ[4]? = some (some (.ref p)) → 11 < ρ.length →
        dCompL (gName 11) dYes (dCall (sp_open n) (dA (dV 0) (dA (dV 1) (dA (dV 11) (dA (dOp oMax (dC (.int 0)) (dOp oSub (dV 3) (dC (.int 1)))) (dA (dV 4) dA0)))))) ρ (m.2.map D.str) [] (mset M dk (.deck 1 b1)) (fun x M1 => oTuple x M1 fun x M1 => R (.tup [.str "made", .str m.1, x]) M1) := by
      intro m ρ hm hz r0 r1 r3 r4 r11
      have gmm := gm.all m hm
      refine compL D.str (fun acc l M' => ∃ ss pre b' t, m.2 = pre ++ l ∧ acc = says ss ∧ oks ss = true ∧ ofs ks (nmK (known ++ t)) ss pre ∧ deeps ss ≤ far ∧ M' = mset (mset M dk (.deck 1 b')) p (.lst ((known ++ t).map D.str)) ∧ b1 ≤ b' + pre.length * SB n ∧ (t.length ≤ pre.length * SB n ∧ ∀ k ∈ t, k ∈ ownK ks) ∧ ordN known.length (nmsL ss) (known ++ t).length) ?_ ?_ m.2 [] _ ⟨[], [], b1, [], rfl, rfl, rfl, rfl, by simp [deeps], by rw [List.append_nil, keep], by simp, ⟨by simp, by simp⟩, by simp [nmsL, ordN]⟩
      · rintro acc x l M' N ⟨ss, pre, b', t, e1, rfl, s1, s2, s3, rfl, hb', ⟨ht, hto⟩, hord⟩ k
        have hx : x ∈ ownK ks := gmm.2.2 x (by rw [e1]; simp)
        have hfar : far ≠ 0 := fun e => by
          have := hz e
          rw [this] at e1
          simp at e1
        have hpl : pre.length + 1 ≤ 3 := by
          have := gmm.2.1
          rw [e1] at this
          simp at this
          omega
        have hmul : pre.length * SB n ≤ 2 * SB n := Nat.mul_le_mul_right _ (by omega)
        have g0 : (ρ.set 11 (some (D.str x)))[0]? = some (some (.ref dk)) := by rw [List.getElem?_set_ne (by decide)]; exact r0
        have g1 : (ρ.set 11 (some (D.str x)))[1]? = some (some (kindsD ks)) := by rw [List.getElem?_set_ne (by decide)]; exact r1
        have g3 : (ρ.set 11 (some (D.str x)))[3]? = some (some (.int (far : Int))) := by rw [List.getElem?_set_ne (by decide)]; exact r3
        have g4 : (ρ.set 11 (some (D.str x)))[4]? = some (some (.ref p)) := by rw [List.getElem?_set_ne (by decide)]; exact r4
        have g11 : (ρ.set 11 (some (D.str x)))[11]? = some (some (.str x)) := List.getElem?_set_self r11
        simp only [gName, dYes, if_true, dCall, dA, dA0, dV, dOp, dC, g0, g1, g3, g4, g11, oSub_int, max0]
        refine call_open (known := known ++ t) (by rw [mset_ne (Ne.symm np), mset_same]) (mset_same _ _ _) hg hx (by omega) (by omega) (by rw [List.length_append]; omega) ?_
        intro s t' b'' y1 ⟨y2, y2'⟩ y3 y4 y5 y6
        rw [says_snoc]
        refine k _ _ ⟨ss ++ [s], pre ++ [x], b'', t ++ t', by rw [e1]; simp, rfl, oks_snoc _ _ s1 y3, ?_, deeps_snoc _ _ _ s3 (by omega), ?_, ?_, ?_, ?_⟩
        · rw [← List.append_assoc]
          exact ofs_snoc (ofs_mono (fun _ _ h => nmK_mono h) _ _ s2) y4
        · rw [← List.append_assoc]
          funext a
          unfold mset
          by_cases c1 : a = p
          · simp [c1]
          · by_cases c2 : a = dk <;> simp [c1, c2]
        · rw [List.length_append, List.length_singleton, Nat.add_mul]
          omega
        · refine ⟨?_, fun k hk => (List.mem_append.mp hk).elim (hto k) (y2' k)⟩
          rw [List.length_append, List.length_append, List.length_singleton, Nat.add_mul]
          omega
        · rw [nmsL_snoc, ← List.append_assoc]
          exact ordN_append hord y6
      · rintro acc M' ⟨ss, pre, b', t, e1, rfl, s1, s2, s3, rfl, hb', ⟨ht, hto⟩, hord⟩
        rw [List.append_nil] at e1
        rw [oTuple_lst]
        have hl := ofs_len s2
        rw [← e1] at hl hb' ht s2
        have hmul : m.2.length * SB n ≤ 3 * SB n := Nat.mul_le_mul_right _ gmm.2.1
        exact fin (.made m.1 ss) t b' (by omega) ⟨by omega, hto⟩ (by simp only [Say.ok, s1, Bool.and_true, Bool.and_eq_true, decide_eq_true_eq]; exact ⟨gmm.1, by rw [hl]; exact gmm.2.1⟩) ⟨m, hm, rfl, s2⟩ (by simp [Say.deep]; omega) (by simpa [Say.nms] using hord)
    simp only [sSeq, sAsg, sRet, sNext, sExpr, sFor, dCall, dA, dA0, dV, dC, dOp, dUn, dTup, dLst, dTest, dNot, dAnd, dOr, dMeth, dCut, dPart, dNoPart, gName, gTup, gCons, gNil, start, List.map, List.length, List.replicate, List.cons_append, List.nil_append, List.getElem?_cons_zero, List.getElem?_cons_succ, List.set, oLen_tup, List.length_map, oFdiv_int, oMod_int, oIx_tup, em]
    refine ⟨⟨by decide, by decide⟩, by omega, ?_⟩
    by_cases c0 : far = 0
    · have em0 : atI ((mkOf ks kind).map mkD) 0 = some (mkD (x0, [])) := by rw [e0]; exact atI_zero _ _
      simp only [mkD]
      refine sIf_c (far = 0) (by intro Q q; simpa [show ((far : Int) = 0) = (far = 0) by simp] using q) (fun _ => ?_) (fun c => (c c0).elim)
      simp only [sSeq, sAsg, sRet, sNext, sExpr, sFor, dCall, dA, dA0, dV, dC, dOp, dUn, dTup, dLst, dTest, dNot, dAnd, dOr, dMeth, dCut, dPart, dNoPart, gName, gTup, gCons, gNil, start, List.map, List.length, List.replicate, List.cons_append, List.nil_append, List.getElem?_cons_zero, List.getElem?_cons_succ, List.set, oIx_tup, em0, mkD]
      exact ⟨by simp, st (x0, []) _ (by rw [e0]; simp) (fun _ => rfl) rfl rfl rfl rfl (by simp)⟩
    · simp only [mkD]
      refine sIf_c (far = 0) (by intro Q q; simpa [show ((far : Int) = 0) = (far = 0) by simp] using q) (fun c => (c0 c).elim) (fun _ => ?_)
      have gmm := gm.all m hm
      exact ⟨by simp; omega, st m _ hm (fun e => (c0 e).elim) rfl rfl rfl rfl (by simp)⟩
/-! ### values -/
/-! ### names asked -/
def nkD (q : Str × Str) : D := .tup [.str q.1, .str q.2]
def own4 : List Str := ["x", "yy", "zeta", "b"]
def own4E : DE := (dLst (dA (dC (.str "x")) (dA (dC (.str "yy")) (dA (dC (.str "zeta")) (dA (dC (.str "b")) dA0)))))
theorem ev_own4 : own4E = fun _ M Q => Q (.lst (own4.map D.str)) M := rfl
theorem own4_nm : ∀ x ∈ own4, nmOk x = true := by
  intro x hx
  simp only [own4, List.mem_cons, List.not_mem_nil, or_false] at hx
  rcases hx with rfl | rfl | rfl | rfl <;> exact nm_of _
structure Asked (ks : List Kd) (qs : List (Str × Str)) : Prop where
  pos : 0 < qs.length
  len : qs.length ≤ 4
  all : ∀ q ∈ qs, nmOk q.1 = true ∧ q.2 ∈ ownK ks
theorem nk_inj {a b : List (Str × Str)} (h : a.map nkD = b.map nkD) : a = b := by
  induction a generalizing b with
  | nil => cases b with
    | nil => rfl
    | cons _ _ => simp at h
  | cons x r ih => cases b with
    | nil => simp at h
    | cons y t =>
      obtain ⟨x1, x2⟩ := x
      obtain ⟨y1, y2⟩ := y
      simp only [List.map_cons, nkD, List.cons.injEq, D.tup.injEq, D.str.injEq, and_true] at h
      rw [h.1.1, h.1.2, ih h.2]
def sp_asked : Spec := .of (fun (dk, ks) => [.ref dk, kindsD ks])
  (fun (dk, ks) M => GoodK ks ∧ ∃ b, M dk = some (.deck 1 b) ∧ 5 ≤ b)
  fun (dk, ks) M d M' => ∀ b, M dk = some (.deck 1 b) → ∃ qs, d = .tup (qs.map nkD) ∧ Asked ks qs ∧ Drew 1 M dk b 5 M'
theorem call_asked {dk : Addr} {b : Nat} {ks : List Kd} {M : Mem} {Q : DK} (h : M dk = some (.deck 1 b)) (h1 : GoodK ks) (h4 : 5 ≤ b)
    (q : ∀ qs (b' : Nat), Asked ks qs → b ≤ b' + 5 → Q (.tup (qs.map nkD)) (mset M dk (.deck 1 b'))) :
    sp_asked.pre [.ref dk, kindsD ks] M ∧ ∀ d M', sp_asked.post [.ref dk, kindsD ks] M d M' → Q d M' :=
  ⟨⟨(dk, ks), rfl, h1, b, h, h4⟩, fun d M' p => by
    obtain ⟨qs, rfl, y1, b', rfl, y4⟩ := p (dk, ks) rfl b h
    exact q qs b' y1 y4⟩
theorem kd0 (k : Kd) : ∀ {M : Mem} {Q : DK}, oIx (kdD k) (.int 0) M Q = Q (.str k.1) M := rfl
theorem own_comp (v : Nat) (M : Mem) (Q : DK) (ρ : Env) (rv : v < ρ.length) (ks : List Kd) (q : Q (.lst ((ks.map (·.1)).map D.str)) M) : dCompL (gName v) dYes (dOp oIx (dV v) (dC (.int 0))) ρ (ks.map kdD) [] M Q := by
  refine compF kdD (fun k => .str k.1) ks ?_ (by rw [List.map_map] at q; exact q)
  intro k _ R r
  have g : (ρ.set v (some (kdD k)))[v]? = some (some (kdD k)) := List.getElem?_set_self rv
  simp only [gName, dOp, dV, dC, g, kd0]
  exact r
theorem t_asked_eq : t__law_asked_names (sp_next 1 1000) = (sSeq (sAsg (dOp oAdd (dComp (iSeq (dV 1)) (gName 3) dYes (dOp oIx (dV 3) (dC (.int 0))) [3]) (dLst (dA (dC (.str "truth")) dA0))) (gName 2))
  (sSeq (sAsg (dOp oAdd (dC (.int 1)) (dOp oMod (dCall (sp_next 1 1000) (dA (dV 0) dA0)) (dC (.int 4)))) (gName 4))
  (sRet (dUn oTuple (dComp (iRange (dV 4)) (gName 5) dYes (dTup (dA (dOp oIx own4E (dV 5)) (dA (dOp oIx (dV 2) (dOp oMod (dCall (sp_next 1 1000) (dA (dV 0) dA0)) (dUn oLen (dV 2)))) dA0))) [5]))))) := rfl
theorem does_asked : Does 6 (t__law_asked_names (sp_next 1 1000)) 2 sp_asked := by
  refine Does.of ?_ ?_
  · rintro ⟨dk, ks⟩ ⟨dk', ks'⟩ e
    simp only [List.cons.injEq, D.ref.injEq, and_true] at e
    obtain ⟨rfl, e2⟩ := e
    rw [kindsD_inj e2]
  rintro ⟨dk, ks⟩ M R ⟨hg, b, hM, hb⟩ ret
  have hown : ks.map (·.1) ++ [("truth" : Str)] = ownK ks := rfl
  have eo : ((ks.map (·.1)).map D.str ++ [D.str "truth"]) = (ownK ks).map D.str := by rw [← hown]; simp
  have hol : (ownK ks).length = ks.length + 1 := by simp [ownK]
  have hgl := hg.len
  rw [t_asked_eq]
  simp only [sSeq, sAsg, sRet, sNext, sExpr, sFor, dCall, dA, dA0, dV, dC, dOp, dUn, dTup, dLst, dTest, dNot, dAnd, dOr, dMeth, dCut, dPart, dNoPart, gName, gTup, gCons, gNil, start, List.map, List.length, List.replicate, List.cons_append, List.nil_append, List.getElem?_cons_zero, List.getElem?_cons_succ, List.set, dComp, iSeq, wipe, kindsD]
  refine ⟨by simp; omega, ?_⟩
  refine own_comp 3 _ _ _ (by simp) ks ?_
  simp only [oAdd_ll, eo]
  refine ⟨by simp; omega, ?_⟩
  refine draw hM (by omega) fun r b1 h0 hr hb1 => ?_
  have m4 := mod_pos r (show (0 : Int) < 4 by decide)
  obtain ⟨k, hk⟩ := Int.eq_ofNat_of_zero_le m4.1
  simp only [oMod_int, oAdd_int, iRange, dV, List.getElem?_cons_zero, List.getElem?_cons_succ, hk]
  have e1 : (1 + (k : Int)).toNat = k + 1 := by omega
  rw [e1]
  refine ⟨by decide, ⟨by omega, by omega⟩, by simp; omega, ?_⟩
  rw [upTo_map]
  refine compL (fun (i : Nat) => D.int (i : Int)) (fun acc l M' => ∃ (qs : List (Str × Str)) (b' : Nat), List.range (k + 1) = List.range qs.length ++ l ∧ acc = qs.map nkD ∧ (∀ q ∈ qs, nmOk q.1 = true ∧ q.2 ∈ ownK ks) ∧ M' = mset M dk (.deck 1 b') ∧ b1 ≤ b' + qs.length) ?_ ?_ (List.range (k + 1)) [] _ ⟨[], b1, rfl, rfl, by simp, rfl, by simp⟩
  · rintro acc i l M' N ⟨qs, b', e1, rfl, s1, rfl, hb'⟩ kk
    have el := congrArg List.length e1
    simp only [List.length_range, List.length_append, List.length_cons] at el
    have ei : i = qs.length := by
      have h2 : (List.range (k + 1))[qs.length]? = some i := by rw [e1, List.getElem?_append_right (by simp)]; simp
      rw [List.getElem?_range (by omega)] at h2
      exact (Option.some.inj h2).symm
    subst ei
    obtain ⟨v4, a1, hv4⟩ := atI_mem (xs := own4.map D.str) (i := (qs.length : Int)) (by omega) (by show (qs.length : Int) < 4; omega)
    obtain ⟨x4, hx4, rfl⟩ := List.mem_map.mp hv4
    simp only [ev_own4, sSeq, sAsg, sRet, sNext, sExpr, sFor, dCall, dA, dA0, dV, dC, dOp, dUn, dTup, dLst, dTest, dNot, dAnd, dOr, dMeth, dCut, dPart, dNoPart, gName, gTup, gCons, gNil, start, List.map, List.length, List.replicate, List.cons_append, List.nil_append, List.getElem?_cons_zero, List.getElem?_cons_succ, List.set, dYes, a1, oIx_lst]
    rw [if_pos trivial]
    refine draw (mset_same _ _ _) (by omega) fun r2 b2 h2 hr2 hb2 => ?_
    rw [mset_mset]
    have mo := mod_pos r2 (show (0 : Int) < ((ownK ks).length : Int) by omega)
    obtain ⟨v, ev, hv⟩ := atI_mem (xs := (ownK ks).map D.str) mo.1 (by simpa using mo.2)
    obtain ⟨kind, hkind, rfl⟩ := List.mem_map.mp hv
    simp only [oLen_lst, List.length_map, oMod_int, oIx_lst, ev]
    refine ⟨by omega, ?_⟩
    refine kk _ _ ⟨qs ++ [(x4, kind)], b2, ?_, by simp [nkD], ?_, rfl, by simp; omega⟩
    · rw [e1, List.length_append, List.length_singleton, List.range_succ]; simp
    · intro q hq
      rcases List.mem_append.mp hq with h | h
      · exact s1 q h
      · rw [List.mem_singleton.mp h]
        exact ⟨own4_nm _ hx4, hkind⟩
  · rintro acc M' ⟨qs, b', e1, rfl, s1, rfl, hb'⟩
    have el := congrArg List.length e1
    simp only [List.length_range, List.length_append, List.length_nil] at el
    rw [oTuple_lst]
    refine ret _ _ (.now fun b0 e => ?_)
    rw [hM] at e
    cases e
    exact ⟨qs, rfl, ⟨by omega, by omega, s1⟩, b', rfl, by omega⟩
structure Fills (ks : List Kd) (qs : List (Str × Str)) (t : List Str) (fs : List (Str × Say)) : Prop where
  names : fs.map (·.1) = qs.map (·.1)
  ok : ∀ f ∈ fs, f.2.ok = true ∧ f.2.deep ≤ 3
  of : ofs ks (nmK t) (fs.map (·.2)) (qs.map (·.2))
  ord : ordN 0 (nmsL (fs.map (·.2))) t.length
  own : ∀ k ∈ t, k ∈ ownK ks
  len : t.length ≤ 52
def sp_ofills : Spec := .of (fun (dk, ks, qs, p) => [.ref dk, kindsD ks, .tup ((qs : List (Str × Str)).map nkD), .ref p])
  (fun (dk, ks, qs, p) M => GoodK ks ∧ Asked ks qs ∧ ∃ b, M dk = some (.deck 1 b) ∧ M p = some (.lst []) ∧ 56 ≤ b)
  fun (dk, ks, qs, p) M d M' => ∀ b, M dk = some (.deck 1 b) → ∃ (fs : List (Str × Say)) (t : List Str) (b' : Nat), d = .tup (fs.map fpD) ∧ Fills ks qs t fs ∧ M' = mset (mset M dk (.deck 1 b')) p (.lst (t.map D.str)) ∧ b ≤ b' + 56
theorem call_ofills {dk p : Addr} {b : Nat} {ks : List Kd} {qs : List (Str × Str)} {M : Mem} {Q : DK} (h : M dk = some (.deck 1 b)) (hp : M p = some (.lst [])) (h1 : GoodK ks) (h2 : Asked ks qs) (h4 : 56 ≤ b)
    (q : ∀ (fs : List (Str × Say)) (t : List Str) (b' : Nat), Fills ks qs t fs → b ≤ b' + 56 → Q (.tup (fs.map fpD)) (mset (mset M dk (.deck 1 b')) p (.lst (t.map D.str)))) :
    sp_ofills.pre [.ref dk, kindsD ks, .tup (qs.map nkD), .ref p] M ∧ ∀ d M', sp_ofills.post [.ref dk, kindsD ks, .tup (qs.map nkD), .ref p] M d M' → Q d M' :=
  ⟨⟨(dk, ks, qs, p), rfl, h1, h2, b, h, hp, h4⟩, fun d M' z => by
    obtain ⟨fs, t, b', rfl, y1, rfl, y2⟩ := z (dk, ks, qs, p) rfl b h
    exact q fs t b' y1 y2⟩
theorem SB3 : SB 3 = 13 := rfl
theorem mset_back {M : Mem} {a p : Addr} (o1 o2 o3 o4 : MO) : mset (mset (mset (mset M a o1) p o2) a o3) p o4 = mset (mset M a o3) p o4 := by
  funext c
  unfold mset
  by_cases c1 : c = p
  · simp [c1]
  · by_cases c2 : c = a <;> simp [c1, c2]
mutual
def Say.th : Say → Bool
  | .name _ => true
  | .made _ ps => ths ps
  | _ => false
def ths : List Say → Bool
  | [] => true
  | s :: r => s.th && ths r
end
mutual
theorem of_th {ks : List Kd} {nm : Str → Str → Prop} : ∀ (s : Say) (k : Str), s.of ks nm k → s.th = true
  | .name x, k, h => rfl
  | .made x ps, k, ⟨m, _, _, h3⟩ => by simp only [Say.th]; exact ofs_ths ps m.2 h3
  | .call _ _, k, h => h.elim
  | .either _ _, k, h => h.elim
  | .same _ _, k, h => h.elim
  | .skip, k, h => h.elim
theorem ofs_ths {ks : List Kd} {nm : Str → Str → Prop} : ∀ (ps : List Say) (l : List Str), ofs ks nm ps l → ths ps = true
  | [], l, h => rfl
  | s :: r, l, ⟨k, t, e, h1, h2⟩ => by simp only [ths, of_th s k h1, ofs_ths r t h2, Bool.and_self]
end
theorem fps_inj {a b : List (Str × Say)} (h : a.map fpD = b.map fpD) : a = b := by
  induction a generalizing b with
  | nil => cases b with
    | nil => rfl
    | cons _ _ => simp at h
  | cons x r ih => cases b with
    | nil => simp at h
    | cons y t =>
      obtain ⟨x1, x2⟩ := x
      obtain ⟨y1, y2⟩ := y
      simp only [List.map_cons, fpD, List.cons.injEq, D.tup.injEq, D.str.injEq, and_true] at h
      rw [h.1.1, Say.d_inj h.1.2, ih h.2]
theorem puts_map (fs : List (Str × Say)) : ∀ ps : List Say, puts fs ps = ps.map (Say.put fs)
  | [] => rfl
  | s :: r => by simp [puts, puts_map fs r]
theorem ths_mem : ∀ {ps : List Say}, ths ps = true → ∀ s ∈ ps, s.th = true
  | p :: ps, h, s, hs => by
    simp only [ths, Bool.and_eq_true] at h
    rcases List.mem_cons.mp hs with rfl | hs
    · exact h.1
    · exact ths_mem h.2 s hs
theorem oks_mem : ∀ {ps : List Say}, oks ps = true → ∀ s ∈ ps, s.ok = true
  | p :: ps, h, s, hs => by
    simp only [oks, Bool.and_eq_true] at h
    rcases List.mem_cons.mp hs with rfl | hs
    · exact h.1
    · exact oks_mem h.2 s hs
theorem deeps_mem : ∀ {ps : List Say} {n : Nat}, deeps ps ≤ n → ∀ s ∈ ps, s.deep ≤ n
  | p :: ps, n, h, s, hs => by
    simp only [deeps] at h
    rcases List.mem_cons.mp hs with rfl | hs
    · omega
    · exact deeps_mem (ps := ps) (by omega) s hs
theorem cmp_d {s : Say} (h1 : s.ok = true) (h2 : s.deep ≤ 30) : cmpOk s.d = true := by
  have := depth_d s
  simp only [cmpOk, plain_d s h1, Bool.true_and, decide_eq_true_eq]
  omega
theorem cmp_says {ps : List Say} (h1 : oks ps = true) (h2 : deeps ps ≤ 30) : cmpOk (.tup (says ps)) = true := by
  have := depths_d ps
  simp [cmpOk, plain, depth, plains_d ps h1]
  omega
theorem filter_one {ms : List Mk} {m : Mk} (hn : (ms.map (·.1)).Nodup) (hm : m ∈ ms) : ms.filter (fun r => decide (r.1 = m.1)) = [m] := by
  induction ms with
  | nil => cases hm
  | cons x r ih =>
    simp only [List.map_cons, List.nodup_cons] at hn
    rcases List.mem_cons.mp hm with rfl | hm
    · have : r.filter (fun y => decide (y.1 = m.1)) = [] := by
        rw [List.filter_eq_nil_iff]
        intro y hy e
        exact hn.1 (List.mem_map.mpr ⟨y, hy, by simpa using e⟩)
      simp [this]
    · have ne : ¬ x.1 = m.1 := fun e => hn.1 (by rw [e]; exact List.mem_map.mpr ⟨m, hm, rfl⟩)
      simp [ne, ih hn.2 hm]
theorem ofs_get {ks : List Kd} {nm : Str → Str → Prop} : ∀ {ps : List Say} {l : List Str}, ofs ks nm ps l → ∀ i (h1 : i < ps.length) (h2 : i < l.length), (ps[i]).of ks nm (l[i])
  | s :: r, l, h, i, h1, h2 => by
    obtain ⟨k, t, rfl, h3, h4⟩ := h
    cases i with
    | zero => exact h3
    | succ i => exact ofs_get h4 i (by simpa using h1) (by simpa using h2)
abbrev Fd := List (Str × Say)
def fdM (f : Fd) : MO := .dK (f.map fun q => .inr q.1) (f.map fun q => q.2.d)
theorem fdM_inj : ∀ {f g : Fd}, fdM f = fdM g → f = g
  | [], [], _ => rfl
  | [], _ :: _, h => by simp [fdM] at h
  | _ :: _, [], h => by simp [fdM] at h
  | (x, s) :: f, (y, t) :: g, h => by
    simp only [fdM, List.map_cons, MO.dK.injEq, List.cons.injEq, Sum.inr.injEq] at h
    have := fdM_inj (f := f) (g := g) (by simp only [fdM, MO.dK.injEq]; exact ⟨h.1.2, h.2.2⟩)
    rw [h.1.1, Say.d_inj h.2.1, this]
theorem val_fd : ∀ (f : Fd) (x : Str), valD (f.map fun q => (.inr q.1 : Key)) (f.map fun q => q.2.d) (.inr x) = (lkp f x).map Say.d
  | [], x => rfl
  | q :: r, x => by
    simp only [List.map_cons, valD, lkp, Sum.inr.injEq]
    split
    · rfl
    · exact val_fd r x
theorem lkp_none : ∀ {f : Fd} {x : Str}, lkp f x = none → x ∉ f.map (·.1)
  | [], x, _ => by simp
  | q :: r, x, h => by
    simp only [lkp] at h
    split at h
    · cases h
    · rename_i e
      simp only [List.map_cons, List.mem_cons, not_or]
      exact ⟨fun z => e z.symm, lkp_none h⟩
theorem eq_d {s t : Say} (h1 : s.ok = true) (h2 : s.deep ≤ 30) (h3 : t.ok = true) (h4 : t.deep ≤ 30) (M : Mem) (Q : BK) : eqB s.d t.d M Q = Q (eqv s.d t.d) M := by
  have c1 := cmp_d h1 h2
  have c2 := cmp_d h3 h4
  cases s <;> cases t <;> simp only [Say.d] at c1 c2 ⊢ <;> simp [asC, c1, c2]
mutual
theorem eqv_self : ∀ s : Say, eqv s.d s.d = true
  | .name x => by simp [Say.d]
  | .made h ps => by simp [Say.d, eqvs_self ps]
  | .call h ps => by simp [Say.d, eqvs_self ps]
  | .either a b => by simp [Say.d, eqv_self a, eqv_self b]
  | .same a b => by simp [Say.d, eqv_self a, eqv_self b]
  | .skip => by simp [Say.d]
theorem eqvs_self : ∀ ps : List Say, eqvs (says ps) (says ps) = true
  | [] => by simp [says]
  | s :: r => by simp [says, eqv_self s, eqvs_self r]
end
theorem mas_bools : ∀ (bs : List Bool), dBools (bs.map D.bl) = some bs
  | [] => rfl
  | b :: r => by simp [mas_bools r]
def addN (acc : List Str) (x : Str) : List Str := if x ∈ acc then acc else acc ++ [x]
theorem names_scan : ∀ n : Nat, (∀ (s : Say) (p : List Nat) (acc : List Str), s.size ≤ n → namesL (s.nds p) acc = s.nms.foldl addN acc) ∧ ∀ (ps : List Say) (p : List Nat) (i : Nat) (acc : List Str), sizes ps ≤ n → namesL (ndsL p i ps) acc = (nmsL ps).foldl addN acc := by
  intro n
  induction n with
  | zero =>
    refine ⟨fun s p acc h => ?_, fun ps p i acc h => ?_⟩
    · cases s <;> simp [Say.size] at h
    · cases ps with
      | nil => simp [ndsL, namesL, nmsL]
      | cons s r =>
        simp only [sizes] at h
        cases s <;> simp [Say.size] at h
  | succ n ih =>
    have hs : ∀ (s : Say) (p : List Nat) (acc : List Str), s.size ≤ n + 1 → namesL (s.nds p) acc = s.nms.foldl addN acc := by
      intro s p acc h
      rw [nds_eq]
      have hz := size_parts s
      have z := ih.2 s.parts p 0
      cases s with
      | name x => simp [namesL, Say.parts, ndsL, Say.nms, addN]
      | skip => simp [namesL, Say.parts, ndsL, Say.nms]
      | made g ps => simp only [namesL]; rw [z acc (by omega)]; simp [Say.parts, Say.nms]
      | call g ps => simp only [namesL]; rw [z acc (by omega)]; simp [Say.parts, Say.nms]
      | either a b => simp only [namesL]; rw [z acc (by omega)]; simp [Say.parts, Say.nms, nmsL]
      | same a b => simp only [namesL]; rw [z acc (by omega)]; simp [Say.parts, Say.nms, nmsL]
    refine ⟨hs, ?_⟩
    intro ps
    induction ps with
    | nil => intro p i acc _; simp [ndsL, namesL, nmsL]
    | cons s r ihr =>
      intro p i acc h
      simp only [sizes] at h
      have ap : ∀ (a b : List (List Nat × Say)) (acc : List Str), namesL (a ++ b) acc = namesL b (namesL a acc) := by
        intro a
        induction a with
        | nil => intro b acc; rfl
        | cons q a iha =>
          intro b acc
          obtain ⟨q1, q2⟩ := q
          cases q2 <;> simp [namesL, iha]
      simp only [ndsL, ap]
      rw [hs s _ acc (by omega), ihr _ _ _ (by omega)]
      simp [nmsL]
theorem names_eq (s : Say) : namesL (s.nds []) [] = s.nms.foldl addN [] := (names_scan s.size).1 s [] [] (Nat.le_refl _)
theorem addN_nodup {acc : List Str} (h : acc.Nodup) (x : Str) : (addN acc x).Nodup := by
  unfold addN
  split
  · exact h
  · rename_i hx
    exact List.nodup_append.mpr ⟨h, by simp, by
      intro a ha b hb e
      rw [List.mem_singleton.mp hb] at e
      exact hx (e ▸ ha)⟩
theorem foldN_nodup : ∀ (l acc : List Str), acc.Nodup → (l.foldl addN acc).Nodup
  | [], acc, h => h
  | x :: l, acc, h => foldN_nodup l _ (addN_nodup h x)
theorem addN_pre (acc : List Str) (x : Str) : ∃ t, addN acc x = acc ++ t := by
  unfold addN
  split
  · exact ⟨[], by simp⟩
  · exact ⟨[x], rfl⟩
/-- what is new in a row of names that are all unlike -/
theorem foldN_filter : ∀ (l acc : List Str), l.Nodup → l.foldl addN acc = acc ++ l.filter (fun x => decide (x ∉ acc))
  | [], acc, _ => by simp
  | x :: l, acc, h => by
    simp only [List.nodup_cons] at h
    simp only [List.foldl_cons]
    rw [foldN_filter l _ h.2]
    unfold addN
    by_cases hx : x ∈ acc
    · simp [hx]
    · simp only [hx, if_false, not_false_eq_true, decide_true, List.filter_cons_of_pos]
      have : l.filter (fun y => decide (y ∉ acc ++ [x])) = l.filter (fun y => decide (y ∉ acc)) := by
        apply List.filter_congr
        intro y hy
        have : y ≠ x := fun e => h.1 (e ▸ hy)
        simp [this]
      rw [this]
      simp
/-- a name that was met is met again without more -/
theorem foldN_mem : ∀ (l acc : List Str) (x : Str), x ∈ l.foldl addN acc ↔ x ∈ acc ∨ x ∈ l
  | [], acc, x => by simp
  | y :: l, acc, x => by
    simp only [List.foldl_cons]
    rw [foldN_mem l _ x]
    unfold addN
    by_cases hy : y ∈ acc
    · simp only [hy, if_true, List.mem_cons]
      constructor
      · rintro (h | h)
        · exact .inl h
        · exact .inr (.inr h)
      · rintro (h | h | h)
        · exact .inl h
        · exact .inl (h ▸ hy)
        · exact .inr h
    · simp only [hy, if_false, List.mem_append, List.mem_cons, List.not_mem_nil, or_false]
      constructor
      · rintro ((h | h) | h)
        · exact .inl h
        · exact .inr (.inl h)
        · exact .inr (.inr h)
      · rintro (h | h | h)
        · exact .inl (.inl h)
        · exact .inl (.inr h)
        · exact .inr h
theorem foldN_inv : ∀ (l acc B A : List Str), A = acc ++ B.filter (fun x => decide (x ∉ acc)) → l.foldl addN A = acc ++ (l.foldl addN B).filter (fun x => decide (x ∉ acc))
  | [], acc, B, A, h => h
  | x :: l, acc, B, A, h => by
    simp only [List.foldl_cons]
    refine foldN_inv l acc _ _ ?_
    subst h
    unfold addN
    by_cases hb : x ∈ B
    · rw [if_pos hb]
      by_cases ha : x ∈ acc
      · rw [if_pos (by simp [ha])]
      · rw [if_pos (by simp [ha, hb])]
    · rw [if_neg hb]
      by_cases ha : x ∈ acc
      · rw [if_pos (by simp [ha])]
        simp [ha]
      · rw [if_neg (by simp [ha, hb])]
        simp [ha]
/-- a row told twice through: first what is once in it -/
theorem foldN_twice (l acc : List Str) : (l.foldl addN []).foldl addN acc = l.foldl addN acc := by
  rw [foldN_filter _ _ (foldN_nodup l [] (by simp))]
  exact (foldN_inv l acc [] acc (by simp)).symm
def nums (n : Nat) : List Str := (List.range n).map fun i => num (i + 1)
theorem ord_nums : ∀ (l : List Str) (n m : Nat), ordN n l m → m < 999 → l.foldl addN (nums n) = nums m
  | [], n, m, h, _ => by rw [show m = n from h]; rfl
  | x :: l, n, m, h, hm => by
    simp only [List.foldl_cons]
    rcases h with ⟨i, h1, h2, h3⟩ | ⟨h1, h2⟩
    · have : addN (nums n) x = nums n := by
        unfold addN
        rw [if_pos]
        exact List.mem_map.mpr ⟨i, List.mem_range.mpr h1, h2.symm⟩
      rw [this]
      exact ord_nums l n m h3 hm
    · have hle := ordN_le h2
      have : addN (nums n) x = nums (n + 1) := by
        unfold addN
        rw [if_neg]
        · simp [nums, List.range_succ, h1]
        · intro z
          obtain ⟨j, hj, e⟩ := List.mem_map.mp z
          have hj := List.mem_range.mp hj
          rw [h1] at e
          have := num_inj (by omega) (by omega) e
          omega
      rw [this]
      exact ord_nums l (n + 1) m h2 hm
theorem foldN_len : ∀ (l acc : List Str), (l.foldl addN acc).length ≤ acc.length + l.length
  | [], acc => by simp
  | x :: l, acc => by
    have := foldN_len l (addN acc x)
    have h2 : (addN acc x).length ≤ acc.length + 1 := by unfold addN; split <;> simp
    simp only [List.foldl_cons, List.length_cons]
    omega
mutual
theorem nms_len : ∀ s : Say, s.nms.length ≤ s.size
  | .name x => by simp [Say.nms, Say.size]
  | .made _ ps => by have := nmsL_len ps; simp only [Say.nms, Say.size]; omega
  | .call _ ps => by have := nmsL_len ps; simp only [Say.nms, Say.size]; omega
  | .either a b => by have := nms_len a; have := nms_len b; simp only [Say.nms, Say.size, List.length_append]; omega
  | .same a b => by have := nms_len a; have := nms_len b; simp only [Say.nms, Say.size, List.length_append]; omega
  | .skip => by simp [Say.nms]
theorem nmsL_len : ∀ ps : List Say, (nmsL ps).length ≤ sizes ps
  | [] => by simp [nmsL]
  | s :: r => by have := nms_len s; have := nmsL_len r; simp only [nmsL, sizes, List.length_append]; omega
end
theorem sizes_le4 : ∀ ps : List Say, (∀ s ∈ ps, Fit s) → sizes ps ≤ ps.length * 4000
  | [], _ => by simp [sizes]
  | s :: r, h => by
    have h1 := (h s (by simp)).2.2
    have h2 := sizes_le4 r fun y hy => h y (List.mem_cons_of_mem _ hy)
    simp only [sizes, List.length_cons, Nat.succ_mul]
    omega
theorem ths_app : ∀ a b : List Say, ths (a ++ b) = (ths a && ths b)
  | [], b => by simp [ths]
  | s :: r, b => by simp [ths, ths_app r b, Bool.and_assoc]
theorem oks_app : ∀ a b : List Say, oks (a ++ b) = (oks a && oks b)
  | [], b => by simp [oks]
  | s :: r, b => by simp [oks, oks_app r b, Bool.and_assoc]
theorem deeps_app : ∀ a b : List Say, deeps (a ++ b) = max (deeps a) (deeps b)
  | [], b => by simp [deeps]
  | s :: r, b => by simp only [List.cons_append, deeps, deeps_app r b]; omega
theorem sizes_app : ∀ a b : List Say, sizes (a ++ b) = sizes a + sizes b
  | [], b => by simp [sizes]
  | s :: r, b => by simp only [List.cons_append, sizes, sizes_app r b]; omega
theorem lkp_nth : ∀ (f : Fd) (ns : List Str), f.map (·.1) = ns → ns.Nodup → ns.map (fun x => (x, (lkp f x).getD .skip)) = f ∧ ∀ x ∈ ns, ∃ s, lkp f x = some s
  | [], ns, h, _ => by rw [show ns = [] from h.symm]; simp
  | (x, s) :: f, ns, h, hn => by
    subst h
    simp only [List.map_cons, List.nodup_cons] at hn
    have ih := lkp_nth f _ rfl hn.2
    refine ⟨?_, ?_⟩
    · simp only [List.map_cons, lkp, if_true, Option.getD_some, List.cons.injEq, true_and]
      refine Eq.trans ?_ ih.1
      apply List.map_congr_left
      intro q hq
      have : x ≠ q := fun e => hn.1 (e ▸ hq)
      simp [this]
    · intro y hy
      simp only [List.map_cons, List.mem_cons] at hy
      simp only [lkp]
      by_cases e : x = y
      · exact ⟨s, if_pos e⟩
      · rw [if_neg e]
        rcases hy with rfl | hy
        · exact (e rfl).elim
        · exact ih.2 y hy
theorem nums_nodup (n : Nat) (h : n < 999) : (nums n).Nodup := by
  refine List.pairwise_map.mpr ?_
  refine List.Pairwise.imp_of_mem ?_ (List.nodup_range (n := n))
  intro x y hx hy hne e
  have hx := List.mem_range.mp hx
  have hy := List.mem_range.mp hy
  have := num_inj (by omega) (by omega) e
  omega
theorem sub_fd {M : Mem} {a : Addr} {f : Fd} (h : M a = none) : Sub M (mset M a (fdM f)) := Sub.new (o := fdM f) h trivial
/-! ### names bound one after another -/
mutual
/-- one name put for a thing -/
def Say.s1 (x : Str) (t : Say) : Say → Say
  | .name y => if y = x then t else .name y
  | .made h ps => .made h (s1s x t ps)
  | .call h ps => .call h (s1s x t ps)
  | .either a b => .either (Say.s1 x t a) (Say.s1 x t b)
  | .same a b => .same (Say.s1 x t a) (Say.s1 x t b)
  | .skip => .skip
def s1s (x : Str) (t : Say) : List Say → List Say
  | [] => []
  | p :: ps => Say.s1 x t p :: s1s x t ps
end
/-- all bindings, the later ones first in the list -/
def T : Fd → Say → Say
  | [], s => s
  | (x, t) :: σ, s => Say.s1 x (T σ t) (T σ s)
def Ts (σ : Fd) (ps : List Say) : List Say := ps.map (T σ)
theorem s1s_map (x : Str) (t : Say) : ∀ ps : List Say, s1s x t ps = ps.map (Say.s1 x t)
  | [] => rfl
  | p :: ps => by simp [s1s, s1s_map x t ps]
theorem T_made : ∀ (σ : Fd) (h : Str) (ps : List Say), T σ (.made h ps) = .made h (ps.map (T σ))
  | [], h, ps => by
    have : ps.map (T []) = ps := by
      rw [show T [] = id from rfl, List.map_id]
    rw [this]; rfl
  | (x, t) :: σ, h, ps => by
    simp only [T, T_made σ h ps, Say.s1, s1s_map, List.map_map]
    congr 1
theorem T_skip : ∀ (σ : Fd), T σ .skip = .skip
  | [] => rfl
  | (x, t) :: σ => by simp only [T, T_skip σ, Say.s1]
theorem T_free : ∀ (σ : Fd) (y : Str), y ∉ σ.map (·.1) → T σ (.name y) = .name y
  | [], y, _ => rfl
  | (x, t) :: σ, y, h => by
    simp only [List.map_cons, List.mem_cons, not_or] at h
    simp only [T, T_free σ y h.2, Say.s1, h.1, if_false]
mutual
theorem s1_none (x : Str) (t : Say) : ∀ s : Say, x ∉ s.nms → Say.s1 x t s = s
  | .name y, h => by
    simp only [Say.nms, List.mem_singleton] at h
    simp only [Say.s1]
    rw [if_neg (fun e => h e.symm)]
  | .made g ps, h => by simp only [Say.nms] at h; simp only [Say.s1, s1s_none x t ps h]
  | .call g ps, h => by simp only [Say.nms] at h; simp only [Say.s1, s1s_none x t ps h]
  | .either a b, h => by
    simp only [Say.nms, List.mem_append, not_or] at h
    simp only [Say.s1, s1_none x t a h.1, s1_none x t b h.2]
  | .same a b, h => by
    simp only [Say.nms, List.mem_append, not_or] at h
    simp only [Say.s1, s1_none x t a h.1, s1_none x t b h.2]
  | .skip, h => rfl
theorem s1s_none (x : Str) (t : Say) : ∀ ps : List Say, x ∉ nmsL ps → s1s x t ps = ps
  | [], _ => rfl
  | p :: ps, h => by
    simp only [nmsL, List.mem_append, not_or] at h
    simp only [s1s, s1_none x t p h.1, s1s_none x t ps h.2]
end
mutual
theorem s1_nms (x : Str) (t : Say) : ∀ (s : Say) (y : Str), y ∈ (Say.s1 x t s).nms ↔ (y ∈ s.nms ∧ y ≠ x) ∨ (x ∈ s.nms ∧ y ∈ t.nms)
  | .name z, y => by
    simp only [Say.s1]
    split
    · rename_i e
      subst e
      simp only [Say.nms, List.mem_singleton, true_and]
      constructor
      · exact fun h => .inr h
      · rintro (⟨h1, h2⟩ | h)
        · exact (h2 h1).elim
        · exact h
    · rename_i e
      simp only [Say.nms, List.mem_singleton]
      constructor
      · rintro rfl; exact .inl ⟨rfl, e⟩
      · rintro (⟨h1, h2⟩ | ⟨h1, h2⟩)
        · exact h1
        · exact (e h1.symm).elim
  | .made g ps, y => by simp only [Say.s1, Say.nms]; exact s1s_nms x t ps y
  | .call g ps, y => by simp only [Say.s1, Say.nms]; exact s1s_nms x t ps y
  | .either a b, y => by
    simp only [Say.s1, Say.nms, List.mem_append, s1_nms x t a y, s1_nms x t b y]
    constructor
    · rintro ((⟨h, k⟩ | ⟨h, k⟩) | (⟨h, k⟩ | ⟨h, k⟩))
      · exact .inl ⟨.inl h, k⟩
      · exact .inr ⟨.inl h, k⟩
      · exact .inl ⟨.inr h, k⟩
      · exact .inr ⟨.inr h, k⟩
    · rintro (⟨h | h, k⟩ | ⟨h | h, k⟩)
      · exact .inl (.inl ⟨h, k⟩)
      · exact .inr (.inl ⟨h, k⟩)
      · exact .inl (.inr ⟨h, k⟩)
      · exact .inr (.inr ⟨h, k⟩)
  | .same a b, y => by
    simp only [Say.s1, Say.nms, List.mem_append, s1_nms x t a y, s1_nms x t b y]
    constructor
    · rintro ((⟨h, k⟩ | ⟨h, k⟩) | (⟨h, k⟩ | ⟨h, k⟩))
      · exact .inl ⟨.inl h, k⟩
      · exact .inr ⟨.inl h, k⟩
      · exact .inl ⟨.inr h, k⟩
      · exact .inr ⟨.inr h, k⟩
    · rintro (⟨h | h, k⟩ | ⟨h | h, k⟩)
      · exact .inl (.inl ⟨h, k⟩)
      · exact .inr (.inl ⟨h, k⟩)
      · exact .inl (.inr ⟨h, k⟩)
      · exact .inr (.inr ⟨h, k⟩)
  | .skip, y => by simp [Say.s1, Say.nms]
theorem s1s_nms (x : Str) (t : Say) : ∀ (ps : List Say) (y : Str), y ∈ nmsL (s1s x t ps) ↔ (y ∈ nmsL ps ∧ y ≠ x) ∨ (x ∈ nmsL ps ∧ y ∈ t.nms)
  | [], y => by simp [s1s, nmsL]
  | p :: ps, y => by
    simp only [s1s, nmsL, List.mem_append, s1_nms x t p y, s1s_nms x t ps y]
    constructor
    · rintro ((⟨h, k⟩ | ⟨h, k⟩) | (⟨h, k⟩ | ⟨h, k⟩))
      · exact .inl ⟨.inl h, k⟩
      · exact .inr ⟨.inl h, k⟩
      · exact .inl ⟨.inr h, k⟩
      · exact .inr ⟨.inr h, k⟩
    · rintro (⟨h | h, k⟩ | ⟨h | h, k⟩)
      · exact .inl (.inl ⟨h, k⟩)
      · exact .inr (.inl ⟨h, k⟩)
      · exact .inl (.inr ⟨h, k⟩)
      · exact .inr (.inr ⟨h, k⟩)
end
/-- bindings as they come: new names, walked things, none within itself -/
def Tri : Fd → Prop
  | [] => True
  | (x, t) :: σ => Tri σ ∧ x ∉ σ.map (·.1) ∧ (∀ y, t = .name y → y ∉ σ.map (·.1)) ∧ x ∉ (T σ t).nms
theorem Tri.nodup : ∀ {σ : Fd}, Tri σ → (σ.map (·.1)).Nodup
  | [], _ => by simp
  | (x, t) :: σ, h => by
    simp only [List.map_cons, List.nodup_cons]
    exact ⟨h.2.1, Tri.nodup h.1⟩
/-- a bound name is what it is bound to -/
theorem T_bound : ∀ {σ : Fd}, Tri σ → ∀ {y : Str} {t : Say}, lkp σ y = some t → T σ (.name y) = T σ t
  | [], _, y, t, e => by cases e
  | (x, u) :: σ, h, y, t, e => by
    simp only [lkp] at e
    split at e
    · rename_i c
      cases e
      subst c
      simp only [T, T_free σ x h.2.1, Say.s1, if_true]
      exact (s1_none x _ _ h.2.2.2).symm
    · simp only [T]
      rw [T_bound h.1 e]
/-- T's names are free ones -/
theorem T_nms : ∀ {σ : Fd}, Tri σ → ∀ (s : Say) (y : Str), y ∈ (T σ s).nms → y ∉ σ.map (·.1)
  | [], _, s, y, _ => by simp
  | (x, u) :: σ, h, s, y, hy => by
    simp only [T] at hy
    rw [s1_nms] at hy
    simp only [List.map_cons, List.mem_cons, not_or]
    rcases hy with ⟨h1, h2⟩ | ⟨_, h2⟩
    · exact ⟨h2, T_nms h.1 s y h1⟩
    · exact ⟨fun e => h.2.2.2 (e ▸ h2), T_nms h.1 u y h2⟩
/-- what a name, followed, comes to -/
def wk (σ : Fd) : Nat → Say → Say
  | 0, s => s
  | n + 1, s => match s with
    | .name y => (match lkp σ y with
      | some t => wk σ n t
      | none => .name y)
    | s => s
/-- it is done: a made, or a free name -/
def Done (σ : Fd) (s : Say) : Prop := ∀ y, s = .name y → lkp σ y = none
theorem lkp_dom {σ : Fd} {y : Str} {t : Say} (h : lkp σ y = some t) : y ∈ σ.map (·.1) := by
  induction σ with
  | nil => cases h
  | cons q r ih =>
    simp only [lkp] at h
    split at h
    · rename_i e; simp [e]
    · simp only [List.map_cons, List.mem_cons]; exact .inr (ih h)
theorem lkp_out {σ : Fd} {y : Str} (h : y ∉ σ.map (·.1)) : lkp σ y = none := by
  cases e : lkp σ y with
  | none => rfl
  | some t => exact (h (lkp_dom e)).elim
/-- names are followed in as many steps as there are bindings -/
theorem wk_done : ∀ {σ : Fd}, Tri σ → ∀ s : Say, Done σ (wk σ σ.length s) ∧ ∀ n, σ.length ≤ n → wk σ n s = wk σ σ.length s := by
  intro σ
  have idem : ∀ (σ : Fd) (n : Nat) (s : Say), Done σ s → wk σ n s = s := by
    intro σ n
    induction n with
    | zero => intro s _; rfl
    | succ n ih =>
      intro s hd
      cases s with
      | name y => simp only [wk, hd y rfl]
      | _ => rfl
  induction σ with
  | nil =>
    intro _ s
    have hd : Done [] s := fun y _ => rfl
    exact ⟨hd, fun n _ => idem [] n s hd⟩
  | cons q σ ih =>
    obtain ⟨x, t⟩ := q
    intro h s
    obtain ⟨h1, h2, h3, h4⟩ := h
    -- steps that never meet x are those of σ
    have key : ∀ n s, (∃ m, m ≤ n ∧ wk ((x, t) :: σ) n s = wk ((x, t) :: σ) (n - m) (.name x) ∧ wk σ m s = .name x) ∨ wk ((x, t) :: σ) n s = wk σ n s := by
      intro n
      induction n with
      | zero => intro s; exact .inr rfl
      | succ n ihn =>
        intro s
        cases s with
        | name y =>
          by_cases c : y = x
          · subst c
            exact .inl ⟨0, by omega, rfl, rfl⟩
          · have el : lkp ((x, t) :: σ) y = lkp σ y := by
              simp only [lkp]
              rw [if_neg (fun e => c e.symm)]
            simp only [wk, el]
            cases e : lkp σ y with
            | none => exact .inr rfl
            | some u =>
              rcases ihn u with ⟨m, k1, k2, k3⟩ | k
              · refine .inl ⟨m + 1, by omega, ?_, ?_⟩
                · simp only; rw [k2]; congr 1; omega
                · simp only [wk, e]; exact k3
              · exact .inr k
        | _ => exact .inr rfl
    have dt : Done ((x, t) :: σ) t := by
      intro y e
      subst e
      have := h3 y rfl
      have ne : x ≠ y := by
        intro e
        subst e
        rw [T_free σ x h2] at h4
        simp [Say.nms] at h4
      simp only [lkp]
      rw [if_neg ne]
      exact lkp_out this
    have wx : ∀ n, 1 ≤ n → wk ((x, t) :: σ) n (.name x) = t := by
      intro n hn
      obtain ⟨k, rfl⟩ : ∃ k, n = k + 1 := ⟨n - 1, by omega⟩
      simp only [wk, lkp, if_true]
      exact idem _ k t dt
    have ihs := ih h1 s
    have fin : ∀ n, σ.length + 1 ≤ n → (wk σ σ.length s = .name x ∧ wk ((x, t) :: σ) n s = t) ∨ (wk σ σ.length s ≠ .name x ∧ wk ((x, t) :: σ) n s = wk σ σ.length s) := by
      intro n hn
      by_cases c : wk σ σ.length s = .name x
      · refine .inl ⟨c, ?_⟩
        -- walk to x first
        have step : ∀ (m : Nat) (s : Say), wk σ m s = .name x → ∀ n, m + 1 ≤ n → wk ((x, t) :: σ) n s = t := by
          intro m
          induction m with
          | zero =>
            intro s e n hn
            rw [show s = .name x from e]
            exact wx n hn
          | succ m ihm =>
            intro s e n hn
            obtain ⟨k, rfl⟩ : ∃ k, n = k + 1 := ⟨n - 1, by omega⟩
            cases s with
            | name y =>
              by_cases cy : y = x
              · subst cy; exact wx _ (by omega)
              · have el : lkp ((x, t) :: σ) y = lkp σ y := by
                  simp only [lkp]
                  rw [if_neg (fun e => cy e.symm)]
                simp only [wk, el] at e ⊢
                cases eu : lkp σ y with
                | none =>
                  rw [eu] at e
                  simp only [Say.name.injEq] at e
                  exact (cy e).elim
                | some u =>
                  rw [eu] at e
                  exact ihm u e k (by omega)
            | _ => simp only [wk] at e; cases e
        exact step σ.length s c n hn
      · refine .inr ⟨c, ?_⟩
        rcases key n s with ⟨m, k1, k2, k3⟩ | k
        · exfalso
          apply c
          -- once at x, which σ does not bind, it stays there
          have stay : ∀ (m : Nat) (s : Say), wk σ m s = .name x → ∀ k, m ≤ k → wk σ k s = .name x := by
            intro m
            induction m with
            | zero =>
              intro s e k _
              rw [show s = .name x from e]
              exact idem σ k _ (fun y ey => by cases ey; exact lkp_out h2)
            | succ m ihm =>
              intro s e k hk
              obtain ⟨k', rfl⟩ : ∃ k', k = k' + 1 := ⟨k - 1, by omega⟩
              cases s with
              | name y =>
                simp only [wk] at e ⊢
                cases eu : lkp σ y with
                | none => rw [eu] at e; exact e
                | some u => rw [eu] at e; exact ihm u e k' (by omega)
              | _ => exact e
          by_cases hm : m ≤ σ.length
          · exact stay m s k3 _ hm
          · rw [← ihs.2 m (by omega)]; exact k3
        · rw [k]
          exact ihs.2 n (by omega)
    refine ⟨?_, fun n hn => ?_⟩
    · rcases fin (σ.length + 1) (Nat.le_refl _) with ⟨_, e⟩ | ⟨c, e⟩
      · show Done _ (wk _ (σ.length + 1) s)
        rw [e]; exact dt
      · show Done _ (wk _ (σ.length + 1) s)
        rw [e]
        intro y ey
        have := ihs.1 y ey
        simp only [lkp]
        rw [if_neg (fun z => c (by rw [ey, z]))]
        exact this
    · show wk _ n s = wk _ (σ.length + 1) s
      have hn' : σ.length + 1 ≤ n := hn
      rcases fin n hn' with ⟨c, e⟩ | ⟨c, e⟩
      · rcases fin (σ.length + 1) (Nat.le_refl _) with ⟨_, e'⟩ | ⟨c', _⟩
        · rw [e, e']
        · exact (c' c).elim
      · rcases fin (σ.length + 1) (Nat.le_refl _) with ⟨c', _⟩ | ⟨_, e'⟩
        · exact (c c').elim
        · rw [e, e']
def walk (σ : Fd) (s : Say) : Say := wk σ σ.length s
theorem T_wk {σ : Fd} (h : Tri σ) : ∀ (n : Nat) (s : Say), T σ (wk σ n s) = T σ s
  | 0, s => rfl
  | n + 1, s => by
    cases s with
    | name y =>
      simp only [wk]
      cases e : lkp σ y with
      | none => rfl
      | some t => rw [T_wk h n t, T_bound h e]
    | _ => rfl
theorem T_walk {σ : Fd} (h : Tri σ) (s : Say) : T σ (walk σ s) = T σ s := T_wk h _ s
theorem walk_done {σ : Fd} (h : Tri σ) (s : Say) : Done σ (walk σ s) := (wk_done h s).1
/-! ### how deep it goes -/
theorem nmsL_mem (z : Str) : ∀ ps : List Say, z ∈ nmsL ps ↔ ∃ p ∈ ps, z ∈ p.nms
  | [] => by simp [nmsL]
  | p :: ps => by simp [nmsL, nmsL_mem z ps]
theorem T_made_nms (σ : Fd) (h : Str) (ps : List Say) (z : Str) : z ∈ (T σ (.made h ps)).nms ↔ ∃ p ∈ ps, z ∈ (T σ p).nms := by
  rw [T_made, Say.nms, nmsL_mem]
  constructor
  · rintro ⟨p, hp, k⟩
    obtain ⟨a, ha, rfl⟩ := List.mem_map.mp hp
    exact ⟨a, ha, k⟩
  · rintro ⟨p, hp, k⟩
    exact ⟨T σ p, List.mem_map.mpr ⟨p, hp, rfl⟩, k⟩
mutual
/-- the inner parts: mades with parts -/
def Say.inn : Say → List Say
  | .made g [] => []
  | .made g (p :: ps) => .made g (p :: ps) :: (Say.inn p ++ inns ps)
  | _ => []
def inns : List Say → List Say
  | [] => []
  | p :: ps => Say.inn p ++ inns ps
end
theorem inns_mem (z : Say) : ∀ ps : List Say, z ∈ inns ps ↔ ∃ p ∈ ps, z ∈ p.inn
  | [] => by simp [inns]
  | p :: ps => by simp [inns, inns_mem z ps]
theorem inn_part {g : Str} {ps : List Say} {p z : Say} (hp : p ∈ ps) (hz : z ∈ p.inn) : z ∈ (Say.made g ps).inn := by
  cases ps with
  | nil => cases hp
  | cons q r =>
    have : z ∈ inns (q :: r) := (inns_mem z _).mpr ⟨p, hp, hz⟩
    simp only [Say.inn, List.mem_cons]
    exact .inr this
theorem deeps_some : ∀ {ps : List Say}, ps ≠ [] → ∃ p ∈ ps, p.deep = deeps ps
  | [], h => (h rfl).elim
  | [p], _ => ⟨p, by simp, by simp [deeps]⟩
  | p :: q :: r, _ => by
    obtain ⟨z, hz, e⟩ := deeps_some (ps := q :: r) (by simp)
    by_cases c : deeps (q :: r) ≤ p.deep
    · exact ⟨p, by simp, by rw [deeps]; omega⟩
    · exact ⟨z, List.mem_cons_of_mem _ hz, by rw [deeps, e]; omega⟩
theorem nodup_le {α : Type} [DecidableEq α] : ∀ {a b : List α}, a.Nodup → (∀ x ∈ a, x ∈ b) → a.length ≤ b.length
  | [], b, _, _ => by simp
  | x :: a, b, hn, h => by
    simp only [List.nodup_cons] at hn
    have hx := h x (by simp)
    have := nodup_le (a := a) (b := b.erase x) hn.2 (fun y hy => by
      have hne : y ≠ x := fun e => hn.1 (e ▸ hy)
      exact (List.mem_erase_of_ne hne).mpr (h y (List.mem_cons_of_mem _ hy)))
    rw [List.length_erase_of_mem hx] at this
    have hb : 0 < b.length := List.length_pos_of_mem hx
    simp only [List.length_cons]
    omega
/-! ### two things made alike -/
/-- the names there are, and how many parts each maker takes -/
structure Un where
  nm : List Str
  ar : Str → Nat
mutual
def Say.arw (ar : Str → Nat) : Say → Bool
  | .made g ps => decide (ps.length = ar g) && arws ar ps
  | _ => true
def arws (ar : Str → Nat) : List Say → Bool
  | [] => true
  | p :: ps => Say.arw ar p && arws ar ps
end
theorem arws_mem {ar : Str → Nat} : ∀ {ps : List Say}, arws ar ps = true → ∀ p ∈ ps, p.arw ar = true
  | q :: ps, h, p, hp => by
    simp only [arws, Bool.and_eq_true] at h
    rcases List.mem_cons.mp hp with rfl | hp
    · exact h.1
    · exact arws_mem h.2 p hp
/-- a thing of names of U, of inner parts of S, shallow -/
structure Tm (U : Un) (S : List Say) (s : Say) : Prop where
  th : s.th = true
  ok : s.ok = true
  deep : s.deep ≤ 4
  nms : ∀ y ∈ s.nms, y ∈ U.nm
  inn : ∀ z ∈ s.inn, z ∈ S
  arw : s.arw U.ar = true
theorem Tm.part {U : Un} {S : List Say} {g : Str} {ps : List Say} (h : Tm U S (.made g ps)) : ∀ p ∈ ps, Tm U S p := by
  intro p hp
  have h1 := h.th
  have h2 := h.ok
  have h3 := h.deep
  simp only [Say.th] at h1
  simp only [Say.ok, Bool.and_eq_true] at h2
  simp only [Say.deep] at h3
  refine ⟨ths_mem h1 p hp, oks_mem h2.2 p hp, ?_, fun y hy => h.nms y ?_, fun z hz => h.inn z (inn_part hp hz), arws_mem (by have := h.arw; simp only [Say.arw, Bool.and_eq_true] at this; exact this.2) p hp⟩
  · have := deeps_mem (Nat.le_refl _) p hp
    omega
  · rw [Say.nms, nmsL_mem]
    exact ⟨p, hp, hy⟩
theorem Tm.len {U : Un} {S : List Say} {g : Str} {ps : List Say} (h : Tm U S (.made g ps)) : ps.length = U.ar g := by
  have := h.arw
  simp only [Say.arw, Bool.and_eq_true, decide_eq_true_eq] at this
  exact this.1
structure Good (U : Un) (S : List Say) (σ : Fd) : Prop where
  tri : Tri σ
  all : ∀ q ∈ σ, q.1 ∈ U.nm ∧ Tm U S q.2
theorem Good.nil (U : Un) (S : List Say) : Good U S [] := ⟨trivial, by simp⟩
theorem Good.len {U : Un} {S : List Say} {σ : Fd} (h : Good U S σ) : σ.length ≤ U.nm.length := by
  have := nodup_le (a := σ.map (·.1)) (b := U.nm) h.tri.nodup (fun x hx => by
    obtain ⟨q, hq, rfl⟩ := List.mem_map.mp hx
    exact (h.all q hq).1)
  simpa using this
theorem Good.lk {U : Un} {S : List Say} {σ : Fd} (h : Good U S σ) {y : Str} {t : Say} (e : lkp σ y = some t) : Tm U S t := by
  obtain ⟨q, hq, rfl⟩ := lkp_mem e
  exact (h.all q hq).2
theorem wk_tm {U : Un} {S : List Say} {σ : Fd} (h : Good U S σ) : ∀ (n : Nat) {s : Say}, Tm U S s → Tm U S (wk σ n s)
  | 0, s, hs => hs
  | n + 1, s, hs => by
    cases s with
    | name y =>
      simp only [wk]
      cases e : lkp σ y with
      | none => exact hs
      | some t => exact wk_tm h n (h.lk e)
    | _ => exact hs
theorem walk_tm {U : Un} {S : List Say} {σ : Fd} (h : Good U S σ) {s : Say} (hs : Tm U S s) : Tm U S (walk σ s) := wk_tm h _ hs
theorem T_levels {U : Un} {S : List Say} {σ : Fd} (h : Good U S σ) : ∀ (d : Nat) (s : Say), Tm U S s → (T σ s).deep = d + 2 → ∀ e, e ≤ d → ∃ t ∈ S, (T σ t).deep = e + 2 := by
  intro d
  induction d with
  | zero =>
    intro s hs hd e he
    have wt := walk_tm h hs
    have dn := walk_done h.tri s
    rw [← T_walk h.tri s] at hd
    generalize walk σ s = A at wt dn hd
    cases A with
    | name y =>
      rw [T_free σ y (lkp_none (dn y rfl))] at hd
      simp [Say.deep] at hd
    | made g ps =>
      cases ps with
      | nil => rw [T_made] at hd; simp [Say.deep, deeps] at hd
      | cons p ps => exact ⟨.made g (p :: ps), wt.inn _ (by simp [Say.inn]), by rw [hd]; omega⟩
    | _ => have := wt.th; simp [Say.th] at this
  | succ d ih =>
    intro s hs hd e he
    have wt := walk_tm h hs
    have dn := walk_done h.tri s
    rw [← T_walk h.tri s] at hd
    generalize walk σ s = A at wt dn hd
    cases A with
    | name y =>
      rw [T_free σ y (lkp_none (dn y rfl))] at hd
      simp [Say.deep] at hd
    | made g ps =>
      by_cases c : e = d + 1
      · subst c
        cases ps with
        | nil => rw [T_made] at hd; simp [Say.deep, deeps] at hd
        | cons p ps => exact ⟨.made g (p :: ps), wt.inn _ (by simp [Say.inn]), hd⟩
      · rw [T_made] at hd
        simp only [Say.deep] at hd
        have ne : ps.map (T σ) ≠ [] := by
          intro z
          rw [z] at hd
          simp [deeps] at hd
        obtain ⟨q, hq, eq⟩ := deeps_some ne
        obtain ⟨p, hp, rfl⟩ := List.mem_map.mp hq
        exact ih p (wt.part p hp) (by omega) e (by omega)
    | _ => have := wt.th; simp [Say.th] at this
theorem T_deepU {U : Un} {S : List Say} {σ : Fd} (h : Good U S σ) {s : Say} (hs : Tm U S s) : (T σ s).deep ≤ 1 + S.length := by
  by_cases c : (T σ s).deep ≤ 1 + S.length
  · exact c
  · exfalso
    have := nodup_le (a := (List.range (S.length + 1)).map (· + 2)) (b := S.map fun t => (T σ t).deep) (by
      exact List.Pairwise.map _ (fun a b (h : a ≠ b) e => h (by omega)) (List.nodup_range (n := S.length + 1))) (fun x hx => by
      obtain ⟨e, he, rfl⟩ := List.mem_map.mp hx
      have he := List.mem_range.mp he
      obtain ⟨t, ht, et⟩ := T_levels h ((T σ s).deep - 2) s hs (by omega) e (by omega)
      exact List.mem_map.mpr ⟨t, ht, et⟩)
    simp at this
    omega
/-- more bindings -/
def Ext (σ σ' : Fd) : Prop := ∃ l, σ' = l ++ σ
theorem Ext.refl (σ : Fd) : Ext σ σ := ⟨[], rfl⟩
theorem Ext.trans {a b c : Fd} (h : Ext a b) (k : Ext b c) : Ext a c := by
  obtain ⟨l, rfl⟩ := h
  obtain ⟨m, rfl⟩ := k
  exact ⟨m ++ l, by simp⟩
theorem lkp_app : ∀ (l : Fd) {σ : Fd} {y : Str} {t : Say}, ((l ++ σ).map (·.1)).Nodup → lkp σ y = some t → lkp (l ++ σ) y = some t
  | [], σ, y, t, _, e => e
  | q :: l, σ, y, t, hn, e => by
    simp only [List.cons_append, List.map_cons, List.nodup_cons] at hn
    simp only [List.cons_append, lkp]
    have : q.1 ≠ y := fun c => hn.1 (by
      rw [c, List.map_append]
      exact List.mem_append_right _ (lkp_dom e))
    rw [if_neg this]
    exact lkp_app l hn.2 e
theorem Ext.lk {σ σ' : Fd} (h : Ext σ σ') (t : Tri σ') {y : Str} {s : Say} (e : lkp σ y = some s) : lkp σ' y = some s := by
  obtain ⟨l, rfl⟩ := h
  exact lkp_app l t.nodup e
theorem T_wk_ext {σ σ' : Fd} (h : Ext σ σ') (t : Tri σ') : ∀ (n : Nat) (s : Say), T σ' (wk σ n s) = T σ' s
  | 0, s => rfl
  | n + 1, s => by
    cases s with
    | name y =>
      simp only [wk]
      cases e : lkp σ y with
      | none => rfl
      | some u => rw [T_wk_ext h t n u, T_bound t (h.lk t e)]
    | _ => rfl
/-- equal ahead, equal behind -/
theorem T_ext : ∀ (l : Fd) {σ : Fd} {a b : Say}, T σ a = T σ b → T (l ++ σ) a = T (l ++ σ) b
  | [], σ, a, b, e => e
  | (x, t) :: l, σ, a, b, e => by
    simp only [List.cons_append, T]
    rw [T_ext l e]
theorem Ext.T {σ σ' : Fd} (h : Ext σ σ') {a b : Say} (e : T σ a = T σ b) : T σ' a = T σ' b := by
  obtain ⟨l, rfl⟩ := h
  exact T_ext l e
/-- enough room, whatever is bound later -/
def Bnd (U : Un) (S : List Say) (n : Nat) (σ : Fd) (p : Say) : Prop := ∀ σ', Ext σ σ' → Good U S σ' → (T σ' p).deep ≤ n
theorem Bnd.ext {U : Un} {S : List Say} {n : Nat} {σ σ' : Fd} {p : Say} (h : Bnd U S n σ p) (e : Ext σ σ') : Bnd U S n σ' p := fun τ k g => h τ (e.trans k) g
theorem Bnd.part {U : Un} {S : List Say} {n : Nat} {σ : Fd} {p : Say} {g : Str} {ps : List Say} (h : Bnd U S (n + 1) σ p) (e : walk σ p = .made g ps) : ∀ q ∈ ps, Bnd U S n σ q := by
  intro q hq σ' k gd
  have := h σ' k gd
  rw [← T_wk_ext k gd.tri σ.length p, show wk σ σ.length p = walk σ p from rfl, e, T_made] at this
  simp only [Say.deep] at this
  have hq' : T σ' q ∈ ps.map (T σ') := List.mem_map.mpr ⟨q, hq, rfl⟩
  have := deeps_mem (Nat.le_refl _) _ hq'
  omega
theorem Bnd.mono {U : Un} {S : List Say} {n m : Nat} {σ : Fd} {p : Say} (h : Bnd U S n σ p) (k : n ≤ m) : Bnd U S m σ p := fun τ a b => Nat.le_trans (h τ a b) k
theorem bnd_start {U : Un} {S : List Say} {p : Say} (σ : Fd) (hp : Tm U S p) : Bnd U S (1 + S.length) σ p := fun σ' _ g => T_deepU g hp
mutual
def un (sw go : Bool) : Nat → Say → Say → Fd → Bool × Fd
  | 0, _, _, σ => (false, σ)
  | n + 1, p, q, σ => if eqv (walk σ p).d (walk σ q).d = true then (true, σ) else
    match walk σ p, walk σ q with
    | .name x, b => if x ∈ (T σ b).nms then (false, σ) else (true, (x, b) :: σ)
    | .made g ps, .name y => if y ∈ (T σ (.made g ps)).nms then (false, σ) else (true, (y, .made g ps) :: σ)
    | .made g ps, .made g' qs => if g = g' ∧ ps.length = qs.length then (if sw = true then uns sw go n qs ps σ else uns sw go n ps qs σ) else (false, σ)
    | _, _ => (false, σ)
def uns (sw go : Bool) : Nat → List Say → List Say → Fd → Bool × Fd
  | n, p :: ps, q :: qs, σ => if (un sw go n p q σ).1 = true then uns sw go n ps qs (un sw go n p q σ).2 else if go = true then (false, (uns sw go n ps qs (un sw go n p q σ).2).2) else (false, (un sw go n p q σ).2)
  | _, _, _, σ => (true, σ)
end
theorem eqv_d : ∀ n : Nat, (∀ s t : Say, s.size ≤ n → eqv s.d t.d = true → s = t) ∧ ∀ ps qs : List Say, sizes ps ≤ n → eqvs (says ps) (says qs) = true → ps = qs := by
  intro n
  induction n with
  | zero =>
    refine ⟨fun s t h => by cases s <;> simp [Say.size] at h, fun ps qs h e => ?_⟩
    cases ps with
    | nil => cases qs with
      | nil => rfl
      | cons _ _ => simp [says] at e
    | cons s r =>
      simp only [sizes] at h
      cases s <;> simp [Say.size] at h
  | succ n ih =>
    have hs : ∀ s t : Say, s.size ≤ n + 1 → eqv s.d t.d = true → s = t := by
      intro s t h e
      cases s with
      | name x => cases t <;> simp [Say.d, ofString_inj] at e; rw [e]
      | skip => cases t <;> simp [Say.d, ofString_inj] at e; rfl
      | made g ps =>
        simp only [Say.size] at h
        cases t <;> simp [Say.d, ofString_inj] at e
        rw [e.1, ih.2 _ _ (by omega) e.2]
      | call g ps =>
        simp only [Say.size] at h
        cases t <;> simp [Say.d, ofString_inj] at e
        rw [e.1, ih.2 _ _ (by omega) e.2]
      | either a b =>
        simp only [Say.size] at h
        cases t <;> simp [Say.d, ofString_inj] at e
        rw [ih.1 _ _ (by omega) e.1, ih.1 _ _ (by omega) e.2]
      | same a b =>
        simp only [Say.size] at h
        cases t <;> simp [Say.d, ofString_inj] at e
        rw [ih.1 _ _ (by omega) e.1, ih.1 _ _ (by omega) e.2]
    refine ⟨hs, ?_⟩
    intro ps
    induction ps with
    | nil => intro qs _ e; cases qs with
      | nil => rfl
      | cons _ _ => simp [says] at e
    | cons p ps ihp =>
      intro qs h e
      simp only [sizes] at h
      cases qs with
      | nil => simp [says] at e
      | cons q qs =>
        simp only [says, eqvs_cons, Bool.and_eq_true] at e
        rw [hs p q (by omega) e.1, ihp qs (by omega) e.2]
theorem eqv_iff (s t : Say) : eqv s.d t.d = true ↔ s = t := ⟨(eqv_d s.size).1 s t (Nat.le_refl _), fun h => by rw [h]; exact eqv_self t⟩
/-- a new binding -/
theorem Good.bind {U : Un} {S : List Say} {σ : Fd} (h : Good U S σ) {x : Str} {b : Say} (hx : lkp σ x = none) (hU : x ∈ U.nm) (hb : Tm U S b) (hd : Done σ b) (hn : x ∉ (T σ b).nms) : Good U S ((x, b) :: σ) := by
  have out : ∀ {y : Str}, lkp σ y = none → y ∉ σ.map (·.1) := fun e => lkp_none e
  refine ⟨⟨h.tri, out hx, fun y e => out (hd y e), hn⟩, fun q hq => ?_⟩
  rcases List.mem_cons.mp hq with rfl | hq
  · exact ⟨hU, hb⟩
  · exact h.all q hq
theorem T_new {σ : Fd} {x : Str} {b : Say} (h : Tri ((x, b) :: σ)) : T ((x, b) :: σ) (.name x) = T ((x, b) :: σ) b := T_bound h (by simp [lkp])
theorem walk_ext {σ σ' : Fd} (h : Ext σ σ') (t : Tri σ') (s : Say) : T σ' (walk σ s) = T σ' s := T_wk_ext h t _ s
theorem un_good (sw go : Bool) (U : Un) (S : List Say) : ∀ n : Nat, (∀ (p q : Say) (σ : Fd), Good U S σ → Tm U S p → Tm U S q → Good U S (un sw go n p q σ).2 ∧ Ext σ (un sw go n p q σ).2 ∧ ((un sw go n p q σ).1 = true → T (un sw go n p q σ).2 p = T (un sw go n p q σ).2 q)) ∧
    ∀ (ps qs : List Say) (σ : Fd), Good U S σ → (∀ p ∈ ps, Tm U S p) → (∀ q ∈ qs, Tm U S q) → Good U S (uns sw go n ps qs σ).2 ∧ Ext σ (uns sw go n ps qs σ).2 ∧ (ps.length = qs.length → (uns sw go n ps qs σ).1 = true → ps.map (T (uns sw go n ps qs σ).2) = qs.map (T (uns sw go n ps qs σ).2)) := by
  intro n
  have lists : ∀ n : Nat, (∀ (p q : Say) (σ : Fd), Good U S σ → Tm U S p → Tm U S q → Good U S (un sw go n p q σ).2 ∧ Ext σ (un sw go n p q σ).2 ∧ ((un sw go n p q σ).1 = true → T (un sw go n p q σ).2 p = T (un sw go n p q σ).2 q)) →
    ∀ (ps qs : List Say) (σ : Fd), Good U S σ → (∀ p ∈ ps, Tm U S p) → (∀ q ∈ qs, Tm U S q) → Good U S (uns sw go n ps qs σ).2 ∧ Ext σ (uns sw go n ps qs σ).2 ∧ (ps.length = qs.length → (uns sw go n ps qs σ).1 = true → ps.map (T (uns sw go n ps qs σ).2) = qs.map (T (uns sw go n ps qs σ).2)) := by
    intro n H ps
    induction ps with
    | nil =>
      intro qs σ hg _ _
      have e : uns sw go n [] qs σ = (true, σ) := by cases qs <;> simp [uns]
      rw [e]
      refine ⟨hg, Ext.refl _, fun hl _ => ?_⟩
      have : qs = [] := List.eq_nil_of_length_eq_zero hl.symm
      subst this; rfl
    | cons p ps ih =>
      intro qs σ hg hp hq
      cases qs with
      | nil =>
        have e : uns sw go n (p :: ps) [] σ = (true, σ) := by simp [uns]
        rw [e]
        exact ⟨hg, Ext.refl _, fun hl => by simp at hl⟩
      | cons q qs =>
        have h1 := H p q σ hg (hp p (by simp)) (hq q (by simp))
        simp only [uns]
        by_cases c : (un sw go n p q σ).1 = true
        · rw [if_pos c]
          have h2 := ih qs (un sw go n p q σ).2 h1.1 (fun y hy => hp y (List.mem_cons_of_mem _ hy)) (fun y hy => hq y (List.mem_cons_of_mem _ hy))
          refine ⟨h2.1, h1.2.1.trans h2.2.1, fun hl e => ?_⟩
          simp only [List.map_cons]
          rw [h2.2.2 (by simpa using hl) e, h2.2.1.T (h1.2.2 c)]
        · rw [if_neg c]
          have h2 := ih qs (un sw go n p q σ).2 h1.1 (fun y hy => hp y (List.mem_cons_of_mem _ hy)) (fun y hy => hq y (List.mem_cons_of_mem _ hy))
          split
          · exact ⟨h2.1, h1.2.1.trans h2.2.1, fun _ e => by simp at e⟩
          · exact ⟨h1.1, h1.2.1, fun _ e => by simp at e⟩
  induction n with
  | zero =>
    have : ∀ (p q : Say) (σ : Fd), un sw go 0 p q σ = (false, σ) := fun p q σ => by simp [un]
    refine ⟨fun p q σ hg _ _ => ?_, lists 0 fun p q σ hg _ _ => ?_⟩
    · rw [this]; exact ⟨hg, Ext.refl _, fun e => by simp at e⟩
    · rw [this]; exact ⟨hg, Ext.refl _, fun e => by simp at e⟩
  | succ n ih =>
    have hs : ∀ (p q : Say) (σ : Fd), Good U S σ → Tm U S p → Tm U S q → Good U S (un sw go (n + 1) p q σ).2 ∧ Ext σ (un sw go (n + 1) p q σ).2 ∧ ((un sw go (n + 1) p q σ).1 = true → T (un sw go (n + 1) p q σ).2 p = T (un sw go (n + 1) p q σ).2 q) := by
      intro p q σ hg hp hq
      have wp := walk_tm hg hp
      have wq := walk_tm hg hq
      have dp := walk_done hg.tri p
      have dq := walk_done hg.tri q
      have back : ∀ σ', Ext σ σ' → Good U S σ' → T σ' (walk σ p) = T σ' (walk σ q) → T σ' p = T σ' q := by
        intro σ' k g e
        rw [← walk_ext k g.tri p, ← walk_ext k g.tri q, e]
      simp only [un]
      by_cases c0 : eqv (walk σ p).d (walk σ q).d = true
      · rw [if_pos c0]
        exact ⟨hg, Ext.refl _, fun _ => back σ (Ext.refl _) hg (by rw [(eqv_iff _ _).mp c0])⟩
      · rw [if_neg c0]
        generalize hA : walk σ p = A at wp dp back c0 ⊢
        generalize hB : walk σ q = B at wq dq back c0 ⊢
        cases A with
        | name x =>
          simp only
          by_cases c1 : x ∈ (T σ B).nms
          · rw [if_pos c1]
            exact ⟨hg, Ext.refl _, fun e => by simp at e⟩
          · rw [if_neg c1]
            have g2 := hg.bind (dp x rfl) (wp.nms x (by simp [Say.nms])) wq dq c1
            exact ⟨g2, ⟨[(x, B)], rfl⟩, fun _ => back _ ⟨[(x, B)], rfl⟩ g2 (T_new g2.tri)⟩
        | made g ps =>
          cases B with
          | name y =>
            simp only
            by_cases c1 : y ∈ (T σ (.made g ps)).nms
            · rw [if_pos c1]
              exact ⟨hg, Ext.refl _, fun e => by simp at e⟩
            · rw [if_neg c1]
              have g2 := hg.bind (dq y rfl) (wq.nms y (by simp [Say.nms])) wp dp c1
              exact ⟨g2, ⟨[(y, .made g ps)], rfl⟩, fun _ => back _ ⟨[(y, .made g ps)], rfl⟩ g2 (T_new g2.tri).symm⟩
          | made g' qs =>
            simp only
            by_cases c1 : g = g' ∧ ps.length = qs.length
            · rw [if_pos c1]
              cases sw with
              | true =>
                rw [if_pos rfl]
                have z := ih.2 qs ps σ hg wq.part wp.part
                refine ⟨z.1, z.2.1, fun e => back _ z.2.1 z.1 ?_⟩
                rw [T_made, T_made, c1.1, z.2.2 c1.2.symm e]
              | false =>
                rw [if_neg (by simp)]
                have z := ih.2 ps qs σ hg wp.part wq.part
                refine ⟨z.1, z.2.1, fun e => back _ z.2.1 z.1 ?_⟩
                rw [T_made, T_made, c1.1, z.2.2 c1.2 e]
            · rw [if_neg c1]
              exact ⟨hg, Ext.refl _, fun e => by simp at e⟩
          | _ => exact ⟨hg, Ext.refl _, fun e => by simp at e⟩
        | _ => have := wp.th; simp [Say.th] at this
    exact ⟨hs, lists (n + 1) hs⟩
/-! ### whatever can be made alike is -/
mutual
def Say.ap (φ : Str → Say) : Say → Say
  | .name x => φ x
  | .made h ps => .made h (aps φ ps)
  | .call h ps => .call h (aps φ ps)
  | .either a b => .either (Say.ap φ a) (Say.ap φ b)
  | .same a b => .same (Say.ap φ a) (Say.ap φ b)
  | .skip => .skip
def aps (φ : Str → Say) : List Say → List Say
  | [] => []
  | p :: ps => Say.ap φ p :: aps φ ps
end
theorem aps_map (φ : Str → Say) : ∀ ps : List Say, aps φ ps = ps.map (Say.ap φ)
  | [] => rfl
  | p :: ps => by simp [aps, aps_map φ ps]
/-- φ knows of the bindings -/
def Kn (φ : Str → Say) (σ : Fd) : Prop := ∀ q ∈ σ, φ q.1 = Say.ap φ q.2
theorem ap_wk {φ : Str → Say} {σ : Fd} (h : Kn φ σ) : ∀ (n : Nat) (s : Say), Say.ap φ (wk σ n s) = Say.ap φ s
  | 0, s => rfl
  | n + 1, s => by
    cases s with
    | name y =>
      simp only [wk]
      cases e : lkp σ y with
      | none => rfl
      | some t =>
        have hx : ∀ (l : Fd), lkp l y = some t → ∃ q ∈ l, q.1 = y ∧ q.2 = t := by
          intro l
          induction l with
          | nil => intro z; cases z
          | cons q r ih =>
            intro z
            simp only [lkp] at z
            split at z
            · rename_i e1; exact ⟨q, by simp, e1, Option.some.inj z⟩
            · obtain ⟨q', h1, h2⟩ := ih z; exact ⟨q', List.mem_cons_of_mem _ h1, h2⟩
        obtain ⟨q, hq, e1, e2⟩ := hx σ e
        simp only
        rw [ap_wk h n t, ← e2, ← h q hq, e1]
        rfl
    | _ => rfl
mutual
theorem ap_s1 {φ : Str → Say} {x : Str} {t : Say} (h : φ x = Say.ap φ t) : ∀ s : Say, Say.ap φ (Say.s1 x t s) = Say.ap φ s
  | .name y => by
    simp only [Say.s1]
    split
    · rename_i e; subst e; rw [← h]; rfl
    · rfl
  | .made g ps => by simp only [Say.s1, Say.ap, aps_s1 h ps]
  | .call g ps => by simp only [Say.s1, Say.ap, aps_s1 h ps]
  | .either a b => by simp only [Say.s1, Say.ap, ap_s1 h a, ap_s1 h b]
  | .same a b => by simp only [Say.s1, Say.ap, ap_s1 h a, ap_s1 h b]
  | .skip => rfl
theorem aps_s1 {φ : Str → Say} {x : Str} {t : Say} (h : φ x = Say.ap φ t) : ∀ ps : List Say, aps φ (s1s x t ps) = aps φ ps
  | [] => rfl
  | p :: ps => by simp only [s1s, aps, ap_s1 h p, aps_s1 h ps]
end
theorem ap_T {φ : Str → Say} : ∀ {σ : Fd}, Kn φ σ → ∀ s : Say, Say.ap φ (T σ s) = Say.ap φ s
  | [], _, s => rfl
  | (x, t) :: σ, h, s => by
    have h' : Kn φ σ := fun q hq => h q (List.mem_cons_of_mem _ hq)
    have hx := h (x, t) (by simp)
    simp only [T]
    rw [ap_s1 (by rw [ap_T h' t]; exact hx), ap_T h' s]
mutual
/-- a name's thing is no larger than what it stands in -/
theorem ap_size (φ : Str → Say) (x : Str) : ∀ s : Say, x ∈ s.nms → (φ x).size ≤ (Say.ap φ s).size
  | .name y, h => by
    simp only [Say.nms, List.mem_singleton] at h
    subst h; exact Nat.le_refl _
  | .made g ps, h => by
    simp only [Say.nms] at h
    have := aps_size φ x ps h
    simp only [Say.ap, Say.size]; omega
  | .call g ps, h => by
    simp only [Say.nms] at h
    have := aps_size φ x ps h
    simp only [Say.ap, Say.size]; omega
  | .either a b, h => by
    simp only [Say.nms, List.mem_append] at h
    simp only [Say.ap, Say.size]
    rcases h with h | h
    · have := ap_size φ x a h; omega
    · have := ap_size φ x b h; omega
  | .same a b, h => by
    simp only [Say.nms, List.mem_append] at h
    simp only [Say.ap, Say.size]
    rcases h with h | h
    · have := ap_size φ x a h; omega
    · have := ap_size φ x b h; omega
  | .skip, h => by simp [Say.nms] at h
theorem aps_size (φ : Str → Say) (x : Str) : ∀ ps : List Say, x ∈ nmsL ps → (φ x).size ≤ sizes (aps φ ps)
  | [], h => by simp [nmsL] at h
  | p :: ps, h => by
    simp only [nmsL, List.mem_append] at h
    simp only [aps, sizes]
    rcases h with h | h
    · have := ap_size φ x p h; omega
    · have := aps_size φ x ps h; omega
end
theorem no_within {φ : Str → Say} {σ : Fd} (k : Kn φ σ) {x g : Str} {ps : List Say} (e : φ x = Say.ap φ (.made g ps)) : x ∉ (T σ (.made g ps)).nms := by
  intro h
  have e2 := ap_T k (.made g ps)
  rw [T_made] at h e2
  simp only [Say.nms] at h
  have := aps_size φ x _ h
  rw [e, ← e2] at this
  simp only [Say.ap, Say.size] at this
  omega
theorem un_all (sw go : Bool) (U : Un) (S : List Say) (φ : Str → Say) : ∀ n : Nat, (∀ (p q : Say) (σ : Fd), Good U S σ → Tm U S p → Tm U S q → Kn φ σ → Say.ap φ p = Say.ap φ q → Bnd U S n σ p → Bnd U S n σ q → (un sw go n p q σ).1 = true ∧ Kn φ (un sw go n p q σ).2) ∧
    ∀ (ps qs : List Say) (σ : Fd), Good U S σ → (∀ p ∈ ps, Tm U S p) → (∀ q ∈ qs, Tm U S q) → Kn φ σ → ps.map (Say.ap φ) = qs.map (Say.ap φ) → (∀ p ∈ ps, Bnd U S n σ p) → (∀ q ∈ qs, Bnd U S n σ q) → (uns sw go n ps qs σ).1 = true ∧ Kn φ (uns sw go n ps qs σ).2 := by
  intro n
  have lists : ∀ n : Nat, (∀ (p q : Say) (σ : Fd), Good U S σ → Tm U S p → Tm U S q → Kn φ σ → Say.ap φ p = Say.ap φ q → Bnd U S n σ p → Bnd U S n σ q → (un sw go n p q σ).1 = true ∧ Kn φ (un sw go n p q σ).2) →
      ∀ (ps qs : List Say) (σ : Fd), Good U S σ → (∀ p ∈ ps, Tm U S p) → (∀ q ∈ qs, Tm U S q) → Kn φ σ → ps.map (Say.ap φ) = qs.map (Say.ap φ) → (∀ p ∈ ps, Bnd U S n σ p) → (∀ q ∈ qs, Bnd U S n σ q) → (uns sw go n ps qs σ).1 = true ∧ Kn φ (uns sw go n ps qs σ).2 := by
    intro n H ps
    induction ps with
    | nil =>
      intro qs σ hg _ _ hk _ _ _
      have e : uns sw go n [] qs σ = (true, σ) := by cases qs <;> simp [uns]
      rw [e]; exact ⟨rfl, hk⟩
    | cons p ps ih =>
      intro qs σ hg hp hq hk he bp bq
      cases qs with
      | nil => simp at he
      | cons q qs =>
        simp only [List.map_cons, List.cons.injEq] at he
        have h1 := H p q σ hg (hp p (by simp)) (hq q (by simp)) hk he.1 (bp p (by simp)) (bq q (by simp))
        have g1 := (un_good sw go U S n).1 p q σ hg (hp p (by simp)) (hq q (by simp))
        simp only [uns]
        rw [if_pos h1.1]
        exact ih qs _ g1.1 (fun y hy => hp y (List.mem_cons_of_mem _ hy)) (fun y hy => hq y (List.mem_cons_of_mem _ hy)) h1.2 he.2 (fun y hy => (bp y (List.mem_cons_of_mem _ hy)).ext g1.2.1) (fun y hy => (bq y (List.mem_cons_of_mem _ hy)).ext g1.2.1)
  induction n with
  | zero =>
    have no : ∀ (p : Say) (σ : Fd), Good U S σ → ¬ Bnd U S 0 σ p := by
      intro p σ hg h
      have := h σ (Ext.refl _) hg
      have := deep_pos (T σ p)
      omega
    exact ⟨fun p q σ hg _ _ _ _ b _ => (no p σ hg b).elim, lists 0 fun p q σ hg _ _ _ _ b _ => (no p σ hg b).elim⟩
  | succ n ih =>
    have hs : ∀ (p q : Say) (σ : Fd), Good U S σ → Tm U S p → Tm U S q → Kn φ σ → Say.ap φ p = Say.ap φ q → Bnd U S (n + 1) σ p → Bnd U S (n + 1) σ q → (un sw go (n + 1) p q σ).1 = true ∧ Kn φ (un sw go (n + 1) p q σ).2 := by
      intro p q σ hg hp hq hk he bp bq
      have wp := walk_tm hg hp
      have wq := walk_tm hg hq
      have dp := walk_done hg.tri p
      have dq := walk_done hg.tri q
      have pp : ∀ {g : Str} {ps : List Say}, walk σ p = .made g ps → ∀ r ∈ ps, Bnd U S n σ r := fun e => bp.part e
      have qq : ∀ {g : Str} {ps : List Say}, walk σ q = .made g ps → ∀ r ∈ ps, Bnd U S n σ r := fun e => bq.part e
      have he' : Say.ap φ (walk σ p) = Say.ap φ (walk σ q) := by
        rw [show walk σ p = wk σ σ.length p from rfl, show walk σ q = wk σ σ.length q from rfl, ap_wk hk, ap_wk hk, he]
      simp only [un]
      by_cases c0 : eqv (walk σ p).d (walk σ q).d = true
      · rw [if_pos c0]; exact ⟨rfl, hk⟩
      · rw [if_neg c0]
        rw [eqv_iff] at c0
        generalize walk σ p = A at wp dp he' c0 pp ⊢
        generalize walk σ q = B at wq dq he' c0 qq ⊢
        cases A with
        | name x =>
          simp only
          have c1 : x ∉ (T σ B).nms := by
            cases B with
            | name y =>
              rw [T_free σ y (lkp_none (dq y rfl))]
              simp only [Say.nms, List.mem_singleton]
              exact fun e => c0 (by rw [e])
            | made g ps => exact no_within hk he'
            | _ => have := wq.th; simp [Say.th] at this
          rw [if_neg c1]
          refine ⟨rfl, fun r hr => ?_⟩
          rcases List.mem_cons.mp hr with rfl | hr
          · exact he'
          · exact hk r hr
        | made g ps =>
          cases B with
          | name y =>
            simp only
            rw [if_neg (no_within hk he'.symm)]
            refine ⟨rfl, fun r hr => ?_⟩
            rcases List.mem_cons.mp hr with rfl | hr
            · exact he'.symm
            · exact hk r hr
          | made g' qs =>
            simp only
            simp only [Say.ap, Say.made.injEq, aps_map] at he'
            have hl : ps.length = qs.length := by simpa using congrArg List.length he'.2
            rw [if_pos ⟨he'.1, hl⟩]
            cases sw with
            | true =>
              rw [if_pos rfl]
              exact ih.2 qs ps σ hg wq.part wp.part hk he'.2.symm (fun r hr => qq rfl r hr) (fun r hr => pp rfl r hr)
            | false =>
              rw [if_neg (by simp)]
              exact ih.2 ps qs σ hg wp.part wq.part hk he'.2 (fun r hr => pp rfl r hr) (fun r hr => qq rfl r hr)
          | _ => have := wq.th; simp [Say.th] at this
        | _ => have := wp.th; simp [Say.th] at this
    exact ⟨hs, lists (n + 1) hs⟩
/-! ### going on after a failure tells the same -/
theorem un_go (sw : Bool) : ∀ n : Nat, (∀ (p q : Say) (σ : Fd), (un sw true n p q σ).1 = (un sw false n p q σ).1 ∧ ((un sw false n p q σ).1 = true → (un sw true n p q σ).2 = (un sw false n p q σ).2)) ∧
    ∀ (ps qs : List Say) (σ : Fd), (uns sw true n ps qs σ).1 = (uns sw false n ps qs σ).1 ∧ ((uns sw false n ps qs σ).1 = true → (uns sw true n ps qs σ).2 = (uns sw false n ps qs σ).2) := by
  have lists : ∀ n : Nat, (∀ (p q : Say) (σ : Fd), (un sw true n p q σ).1 = (un sw false n p q σ).1 ∧ ((un sw false n p q σ).1 = true → (un sw true n p q σ).2 = (un sw false n p q σ).2)) →
      ∀ (ps qs : List Say) (σ : Fd), (uns sw true n ps qs σ).1 = (uns sw false n ps qs σ).1 ∧ ((uns sw false n ps qs σ).1 = true → (uns sw true n ps qs σ).2 = (uns sw false n ps qs σ).2) := by
    intro n H ps
    induction ps with
    | nil => intro qs σ; cases qs <;> simp [uns]
    | cons p ps ih =>
      intro qs σ
      cases qs with
      | nil => simp [uns]
      | cons q qs =>
        have h1 := H p q σ
        simp only [uns]
        by_cases c : (un sw false n p q σ).1 = true
        · rw [h1.1, h1.2 c, if_pos c, if_pos c]
          exact ih qs _
        · have c' : (un sw false n p q σ).1 = false := by simpa using c
          rw [h1.1, c']
          simp
  intro n
  induction n with
  | zero => exact ⟨fun p q σ => by simp [un], lists 0 fun p q σ => by simp [un]⟩
  | succ n ih =>
    have hs : ∀ (p q : Say) (σ : Fd), (un sw true (n + 1) p q σ).1 = (un sw false (n + 1) p q σ).1 ∧ ((un sw false (n + 1) p q σ).1 = true → (un sw true (n + 1) p q σ).2 = (un sw false (n + 1) p q σ).2) := by
      intro p q σ
      simp only [un]
      by_cases c0 : eqv (walk σ p).d (walk σ q).d = true
      · rw [if_pos c0, if_pos c0]; simp
      · rw [if_neg c0, if_neg c0]
        generalize walk σ p = A
        generalize walk σ q = B
        cases A with
        | made g ps =>
          cases B with
          | made g' qs =>
            simp only
            by_cases c1 : g = g' ∧ ps.length = qs.length
            · rw [if_pos c1, if_pos c1]
              cases sw with
              | true => simpa using ih.2 qs ps σ
              | false => simpa using ih.2 ps qs σ
            · rw [if_neg c1, if_neg c1]; simp
          | _ => simp
        | _ => simp
    exact ⟨hs, lists (n + 1) hs⟩
/-- the program's rows: each pair by `un sw go`, at an end after a failure -/
def uj (sw go : Bool) (n : Nat) : List Say → List Say → Fd → Bool × Fd
  | p :: ps, q :: qs, σ => if (un sw go n p q σ).1 = true then uj sw go n ps qs (un sw go n p q σ).2 else (false, (un sw go n p q σ).2)
  | _, _, σ => (true, σ)
theorem uj_uns (sw : Bool) (n : Nat) : ∀ (ps qs : List Say) (σ : Fd), uj sw false n ps qs σ = uns sw false n ps qs σ
  | [], qs, σ => by cases qs <;> simp [uj, uns]
  | p :: ps, [], σ => by simp [uj, uns]
  | p :: ps, q :: qs, σ => by
    simp only [uj, uns]
    rw [uj_uns sw n ps qs]
    simp
theorem uj_go (sw : Bool) (n : Nat) : ∀ (ps qs : List Say) (σ : Fd), (uj sw true n ps qs σ).1 = (uns sw false n ps qs σ).1 ∧ ((uns sw false n ps qs σ).1 = true → (uj sw true n ps qs σ).2 = (uns sw false n ps qs σ).2)
  | [], qs, σ => by cases qs <;> simp [uj, uns]
  | p :: ps, [], σ => by simp [uj, uns]
  | p :: ps, q :: qs, σ => by
    have h1 := (un_go sw n).1 p q σ
    simp only [uj, uns]
    by_cases c : (un sw false n p q σ).1 = true
    · rw [h1.1, h1.2 c, if_pos c, if_pos c]
      exact uj_go sw n ps qs _
    · have c' : (un sw false n p q σ).1 = false := by simpa using c
      rw [h1.1, c']
      simp
/-! ### bindings as one filling -/
mutual
theorem T_ap (σ : Fd) : ∀ s : Say, s.th = true → T σ s = Say.ap (fun x => T σ (.name x)) s
  | .name y, _ => rfl
  | .made g ps, h => by
    simp only [Say.th] at h
    rw [T_made, Say.ap, Ts_ap σ ps h]
  | .call g ps, h => by simp [Say.th] at h
  | .either a b, h => by simp [Say.th] at h
  | .same a b, h => by simp [Say.th] at h
  | .skip, h => by simp [Say.th] at h
theorem Ts_ap (σ : Fd) : ∀ ps : List Say, ths ps = true → ps.map (T σ) = aps (fun x => T σ (.name x)) ps
  | [], _ => rfl
  | p :: ps, h => by
    simp only [ths, Bool.and_eq_true] at h
    simp only [List.map_cons, aps, T_ap σ p h.1, Ts_ap σ ps h.2]
end
/-- both ways of going tell the same -/
theorem uns_same (sw sw' : Bool) (U : Un) (S : List Say) {ps qs : List Say} (hp : ∀ p ∈ ps, Tm U S p) (hq : ∀ q ∈ qs, Tm U S q) (hl : ps.length = qs.length) {N : Nat} (hN : 1 + S.length ≤ N)
    (h : (uns sw false N ps qs []).1 = true) : (uns sw' false N ps qs []).1 = true := by
  have g := (un_good sw false U S N).2 ps qs [] (Good.nil U S) hp hq
  have e := g.2.2 hl h
  refine ((un_all sw' false U S (fun x => T (uns sw false N ps qs []).2 (.name x)) N).2 ps qs [] (Good.nil U S) hp hq (fun q hq => by cases hq) ?_ (fun p h => (bnd_start [] (hp p h)).mono hN) (fun q h => (bnd_start [] (hq q h)).mono hN)).1
  have map : ∀ l : List Say, (∀ p ∈ l, Tm U S p) → l.map (Say.ap fun x => T (uns sw false N ps qs []).2 (.name x)) = l.map (T (uns sw false N ps qs []).2) := by
    intro l hl
    refine List.map_congr_left fun p h => ?_
    exact (T_ap _ p (hl p h).th).symm
  rw [map ps hp, map qs hq, e]
/-! ### names with a sign ahead -/
mutual
def Say.sd (c : Str) : Say → Say
  | .name x => .name (c ++ x)
  | .made g ps => .made g (sds c ps)
  | .call g ps => .call g (sds c ps)
  | .either a b => .either (Say.sd c a) (Say.sd c b)
  | .same a b => .same (Say.sd c a) (Say.sd c b)
  | .skip => .skip
def sds (c : Str) : List Say → List Say
  | [] => []
  | p :: ps => Say.sd c p :: sds c ps
end
theorem sds_map (c : Str) : ∀ ps : List Say, sds c ps = ps.map (Say.sd c)
  | [] => rfl
  | p :: ps => by simp [sds, sds_map c ps]
theorem sds_length (c : Str) (ps : List Say) : (sds c ps).length = ps.length := by rw [sds_map, List.length_map]
mutual
theorem sd_th (c : Str) : ∀ s : Say, (Say.sd c s).th = s.th
  | .name _ => rfl
  | .made g ps => by simp only [Say.sd, Say.th, sds_th c ps]
  | .call _ _ => rfl
  | .either _ _ => rfl
  | .same _ _ => rfl
  | .skip => rfl
theorem sds_th (c : Str) : ∀ ps : List Say, ths (sds c ps) = ths ps
  | [] => rfl
  | p :: ps => by simp only [sds, ths, sd_th c p, sds_th c ps]
end
mutual
theorem sd_ok (c : Str) : ∀ s : Say, s.ok = true → (∀ x ∈ s.nms, nmOk (c ++ x) = true) → (Say.sd c s).ok = true
  | .name x, _, n => by simpa [Say.sd, Say.ok] using n x (by simp [Say.nms])
  | .made g ps, h, n => by
    simp only [Say.ok, Bool.and_eq_true] at h
    simp only [Say.sd, Say.ok, sds_length, sds_ok c ps h.2 n, h.1, Bool.and_self]
  | .call g ps, h, n => by
    simp only [Say.ok, Bool.and_eq_true] at h
    simp only [Say.sd, Say.ok, sds_length, sds_ok c ps h.2 n, h.1, Bool.and_self]
  | .either a b, h, n => by
    simp only [Say.ok, Bool.and_eq_true] at h
    simp only [Say.nms, List.mem_append] at n
    simp only [Say.sd, Say.ok, sd_ok c a h.1 fun x hx => n x (.inl hx), sd_ok c b h.2 fun x hx => n x (.inr hx), Bool.and_self]
  | .same a b, h, n => by
    simp only [Say.ok, Bool.and_eq_true] at h
    simp only [Say.nms, List.mem_append] at n
    simp only [Say.sd, Say.ok, sd_ok c a h.1 fun x hx => n x (.inl hx), sd_ok c b h.2 fun x hx => n x (.inr hx), Bool.and_self]
  | .skip, _, _ => by simp [Say.sd, Say.ok]
theorem sds_ok (c : Str) : ∀ ps : List Say, oks ps = true → (∀ x ∈ nmsL ps, nmOk (c ++ x) = true) → oks (sds c ps) = true
  | [], _, _ => rfl
  | p :: ps, h, n => by
    simp only [oks, Bool.and_eq_true] at h
    simp only [nmsL, List.mem_append] at n
    simp only [sds, oks, sd_ok c p h.1 fun x hx => n x (.inl hx), sds_ok c ps h.2 fun x hx => n x (.inr hx), Bool.and_self]
end
mutual
theorem sd_deep (c : Str) : ∀ s : Say, (Say.sd c s).deep = s.deep
  | .name _ => rfl
  | .made g ps => by simp only [Say.sd, Say.deep, sds_deep c ps]
  | .call g ps => by simp only [Say.sd, Say.deep, sds_deep c ps]
  | .either a b => by simp only [Say.sd, Say.deep, sd_deep c a, sd_deep c b]
  | .same a b => by simp only [Say.sd, Say.deep, sd_deep c a, sd_deep c b]
  | .skip => rfl
theorem sds_deep (c : Str) : ∀ ps : List Say, deeps (sds c ps) = deeps ps
  | [] => rfl
  | p :: ps => by simp only [sds, deeps, sd_deep c p, sds_deep c ps]
end
mutual
theorem sd_nms (c : Str) : ∀ s : Say, (Say.sd c s).nms = s.nms.map (c ++ ·)
  | .name _ => rfl
  | .made g ps => by simp only [Say.sd, Say.nms, sds_nms c ps]
  | .call g ps => by simp only [Say.sd, Say.nms, sds_nms c ps]
  | .either a b => by simp only [Say.sd, Say.nms, sd_nms c a, sd_nms c b, List.map_append]
  | .same a b => by simp only [Say.sd, Say.nms, sd_nms c a, sd_nms c b, List.map_append]
  | .skip => rfl
theorem sds_nms (c : Str) : ∀ ps : List Say, nmsL (sds c ps) = (nmsL ps).map (c ++ ·)
  | [] => rfl
  | p :: ps => by simp only [sds, nmsL, sd_nms c p, sds_nms c ps, List.map_append]
end
mutual
/-- a filling after a sign is one filling -/
theorem ap_sd (φ : Str → Say) (c : Str) : ∀ s : Say, Say.ap φ (Say.sd c s) = Say.ap (fun x => φ (c ++ x)) s
  | .name _ => rfl
  | .made g ps => by simp only [Say.sd, Say.ap, aps_sd φ c ps]
  | .call g ps => by simp only [Say.sd, Say.ap, aps_sd φ c ps]
  | .either a b => by simp only [Say.sd, Say.ap, ap_sd φ c a, ap_sd φ c b]
  | .same a b => by simp only [Say.sd, Say.ap, ap_sd φ c a, ap_sd φ c b]
  | .skip => rfl
theorem aps_sd (φ : Str → Say) (c : Str) : ∀ ps : List Say, aps φ (sds c ps) = aps (fun x => φ (c ++ x)) ps
  | [] => rfl
  | p :: ps => by simp only [sds, aps, ap_sd φ c p, aps_sd φ c ps]
end
mutual
theorem ap_congr {φ ψ : Str → Say} : ∀ s : Say, (∀ x ∈ s.nms, φ x = ψ x) → Say.ap φ s = Say.ap ψ s
  | .name y, h => h y (by simp [Say.nms])
  | .made g ps, h => by simp only [Say.ap, aps_congr ps h]
  | .call g ps, h => by simp only [Say.ap, aps_congr ps h]
  | .either a b, h => by
    simp only [Say.nms, List.mem_append] at h
    simp only [Say.ap, ap_congr a fun x hx => h x (.inl hx), ap_congr b fun x hx => h x (.inr hx)]
  | .same a b, h => by
    simp only [Say.nms, List.mem_append] at h
    simp only [Say.ap, ap_congr a fun x hx => h x (.inl hx), ap_congr b fun x hx => h x (.inr hx)]
  | .skip, _ => rfl
theorem aps_congr {φ ψ : Str → Say} : ∀ ps : List Say, (∀ x ∈ nmsL ps, φ x = ψ x) → aps φ ps = aps ψ ps
  | [], _ => rfl
  | p :: ps, h => by
    simp only [nmsL, List.mem_append] at h
    simp only [aps, ap_congr p fun x hx => h x (.inl hx), aps_congr ps fun x hx => h x (.inr hx)]
end
mutual
theorem ap_ap (φ ψ : Str → Say) : ∀ s : Say, Say.ap φ (Say.ap ψ s) = Say.ap (fun x => Say.ap φ (ψ x)) s
  | .name _ => rfl
  | .made g ps => by simp only [Say.ap, aps_aps φ ψ ps]
  | .call g ps => by simp only [Say.ap, aps_aps φ ψ ps]
  | .either a b => by simp only [Say.ap, ap_ap φ ψ a, ap_ap φ ψ b]
  | .same a b => by simp only [Say.ap, ap_ap φ ψ a, ap_ap φ ψ b]
  | .skip => rfl
theorem aps_aps (φ ψ : Str → Say) : ∀ ps : List Say, aps φ (aps ψ ps) = aps (fun x => Say.ap φ (ψ x)) ps
  | [] => rfl
  | p :: ps => by simp only [aps, ap_ap φ ψ p, aps_aps φ ψ ps]
end
mutual
theorem ap_id : ∀ s : Say, Say.ap .name s = s
  | .name _ => rfl
  | .made g ps => by simp only [Say.ap, aps_id ps]
  | .call g ps => by simp only [Say.ap, aps_id ps]
  | .either a b => by simp only [Say.ap, ap_id a, ap_id b]
  | .same a b => by simp only [Say.ap, ap_id a, ap_id b]
  | .skip => rfl
theorem aps_id : ∀ ps : List Say, aps .name ps = ps
  | [] => rfl
  | p :: ps => by simp only [aps, ap_id p, aps_id ps]
end
mutual
/-- filled by fills is a filling -/
theorem put_ap (fs : Fd) : ∀ s : Say, s.put fs = Say.ap (fun x => (lkp fs x).getD (.name x)) s
  | .name x => by simp only [Say.put, Say.ap]
  | .made g ps => by simp only [Say.put, Say.ap, puts_ap fs ps]
  | .call g ps => by simp only [Say.put, Say.ap, puts_ap fs ps]
  | .either a b => by simp only [Say.put, Say.ap, put_ap fs a, put_ap fs b]
  | .same a b => by simp only [Say.put, Say.ap, put_ap fs a, put_ap fs b]
  | .skip => rfl
theorem puts_ap (fs : Fd) : ∀ ps : List Say, puts fs ps = aps (fun x => (lkp fs x).getD (.name x)) ps
  | [] => rfl
  | p :: ps => by simp only [puts, aps, put_ap fs p, puts_ap fs ps]
end
/-- how many inner parts there may be -/
def ib : Nat → Nat
  | 0 => 0
  | n + 1 => 3 * ib n + 1
theorem ib_mono (n : Nat) : ib n ≤ ib (n + 1) := by simp only [ib]; omega
theorem inn_len : ∀ (n : Nat), (∀ s : Say, s.ok = true → s.deep ≤ n + 1 → s.inn.length ≤ ib n) ∧ ∀ ps : List Say, oks ps = true → deeps ps ≤ n + 1 → (inns ps).length ≤ ps.length * ib n := by
  have lists : ∀ n, (∀ s : Say, s.ok = true → s.deep ≤ n + 1 → s.inn.length ≤ ib n) → ∀ ps : List Say, oks ps = true → deeps ps ≤ n + 1 → (inns ps).length ≤ ps.length * ib n := by
    intro n H ps
    induction ps with
    | nil => intro _ _; simp [inns]
    | cons p ps ih =>
      intro h1 h2
      simp only [oks, Bool.and_eq_true] at h1
      simp only [deeps] at h2
      have a := H p h1.1 (by omega)
      have b := ih h1.2 (by omega)
      simp only [inns, List.length_append, List.length_cons, Nat.succ_mul]
      omega
  intro n
  induction n with
  | zero =>
    have hs : ∀ s : Say, s.ok = true → s.deep ≤ 0 + 1 → s.inn.length ≤ ib 0 := by
      intro s _ hd
      cases s with
      | made g ps =>
        cases ps with
        | nil => simp [Say.inn]
        | cons p ps =>
          simp only [Say.deep, deeps] at hd
          have := deep_pos p
          omega
      | _ => simp [Say.inn]
    exact ⟨hs, lists 0 hs⟩
  | succ n ih =>
    have hs : ∀ s : Say, s.ok = true → s.deep ≤ n + 1 + 1 → s.inn.length ≤ ib (n + 1) := by
      intro s ho hd
      cases s with
      | made g ps =>
        cases ps with
        | nil => simp [Say.inn]
        | cons p ps =>
          simp only [Say.ok, Bool.and_eq_true, decide_eq_true_eq] at ho
          simp only [Say.deep] at hd
          have z := ih.2 (p :: ps) ho.2 (by omega)
          have hl := ho.1.2
          have e : (Say.made g (p :: ps)).inn.length = (inns (p :: ps)).length + 1 := by simp [Say.inn, inns]
          have m : (p :: ps).length * ib n ≤ 3 * ib n := Nat.mul_le_mul_right _ hl
          rw [e, ib]
          omega
      | _ => simp [Say.inn]
    exact ⟨hs, lists (n + 1) hs⟩
theorem nm_a : ∀ i : Fin 1000, nmOk (Str.ofString "a" ++ num i.val) = true := by decide +kernel
theorem nm_b : ∀ i : Fin 1000, nmOk (Str.ofString "b" ++ num i.val) = true := by decide +kernel
theorem str_cps (a b : Str) : (a ++ b).cps.toList = a.cps.toList ++ b.cps.toList := by
  show (a.cps ++ b.cps).toList = _
  exact Array.toList_append
theorem str_app_inj {c x y : Str} (h : c ++ x = c ++ y) : x = y := by
  have e := congrArg (fun z : Str => z.cps.toList) h
  simp only [str_cps] at e
  have e2 := List.append_cancel_left e
  cases x with
  | mk x => cases y with
    | mk y => exact congrArg Str.mk (Array.toList_inj.mp e2)
theorem a_cps : (Str.ofString "a").cps.toList = [97] := by decide +kernel
theorem b_cps : (Str.ofString "b").cps.toList = [98] := by decide +kernel
theorem ab_ne {x y : Str} (h : Str.ofString "a" ++ x = Str.ofString "b" ++ y) : False := by
  have e := congrArg (fun z : Str => z.cps.toList) h
  simp only [str_cps, a_cps, b_cps, List.cons_append, List.cons.injEq] at e
  exact absurd e.1 (by decide)
/-! ### bindings as a dict of the memory, in the order they came -/
def bdM (σ : Fd) : MO := fdM σ.reverse
theorem bdM_inj {σ τ : Fd} (h : bdM σ = bdM τ) : σ = τ := List.reverse_inj.mp (fdM_inj h)
theorem lkp_append : ∀ (a b : Fd) (x : Str), lkp (a ++ b) x = (lkp a x).or (lkp b x)
  | [], b, x => by simp [lkp]
  | q :: a, b, x => by
    simp only [List.cons_append, lkp]
    split
    · simp
    · exact lkp_append a b x
theorem lkp_rev : ∀ {σ : Fd} (_ : (σ.map (·.1)).Nodup) (x : Str), lkp σ.reverse x = lkp σ x
  | [], _, x => rfl
  | q :: r, h, x => by
    simp only [List.map_cons, List.nodup_cons] at h
    simp only [List.reverse_cons, lkp_append, lkp_rev h.2 x, lkp]
    by_cases c : q.1 = x
    · have : lkp r x = none := by rw [← c]; exact lkp_out h.1
      simp [this, c]
    · cases lkp r x <;> simp [c]
theorem val_bd {σ : Fd} (h : Tri σ) (x : Str) : valD (σ.reverse.map fun q => (.inr q.1 : Key)) (σ.reverse.map fun q => q.2.d) (.inr x) = (lkp σ x).map Say.d := by
  rw [val_fd, lkp_rev h.nodup]
theorem bd_put (σ : Fd) (x : Str) (t : Say) : MO.dK ((σ.reverse.map fun q => (.inr q.1 : Key)) ++ [.inr x]) ((σ.reverse.map fun q => q.2.d) ++ [t.d]) = bdM ((x, t) :: σ) := by
  simp [bdM, fdM]
theorem bd_new {σ : Fd} {x : Str} (h : lkp σ x = none) : (Sum.inr x : Key) ∉ σ.reverse.map fun q => (Sum.inr q.1 : Key) := by
  intro z
  obtain ⟨q, hq, e'⟩ := List.mem_map.mp z
  exact lkp_none h (List.mem_map.mpr ⟨q, List.mem_reverse.mp hq, by simpa using e'⟩)
theorem name_d (x : Str) : (Say.name x).d = .tup [.str "name", .str x] := by simp [Say.d]
theorem made_d (g : Str) (ps : List Say) : (Say.made g ps).d = .tup [.str "made", .str g, .tup (ps.map Say.d)] := by simp [Say.d, says_map]
/-! ### a sign ahead of each name -/
def sp_side (n : Nat) : Spec := .pure (fun (s, c) => [Say.d s, .str c]) (fun (s, c) => s.th = true ∧ s.ok = true ∧ s.deep ≤ n ∧ c.length ≤ 10) fun (s, c) => (Say.sd c s).d
theorem call_side {n : Nat} {s : Say} {c : Str} {M : Mem} {Q : DK} (h1 : s.th = true) (h2 : s.ok = true) (h3 : s.deep ≤ n) (h4 : c.length ≤ 10) (q : Q (Say.sd c s).d M) : (sp_side n).pre [s.d, .str c] M ∧ ∀ d M', (sp_side n).post [s.d, .str c] M d M' → Q d M' :=
  ⟨⟨(s, c), rfl, h1, h2, h3, h4⟩, fun d M' z => by
    obtain ⟨rfl, rfl⟩ := z (s, c) rfl
    exact q⟩
theorem side_none (ds : List D) (M : Mem) : ¬ (sp_side 0).pre ds M := by
  rintro ⟨⟨s, c⟩, _, _, _, h, _⟩
  have := deep_pos s
  omega
theorem does_side (n : Nat) : Does 3 (t_side_of (sp_side n)) 2 (sp_side (n + 1)) := by
  refine Does.of ?_ ?_
  · rintro ⟨s, c⟩ ⟨s', c'⟩ e
    simp only [List.cons.injEq, D.str.injEq, and_true] at e
    rw [Say.d_inj e.1, e.2]
  rintro ⟨s, c⟩ M R ⟨h1, h2, h3, h4⟩ ret
  have fin : R (Say.sd c s).d M := ret _ _ (.now ⟨rfl, rfl⟩)
  clear ret
  cases s with
  | name x =>
    simp only [t_side_of, sSeq, sAsg, sRet, sNext, sExpr, sFor, dCall, dA, dA0, dV, dC, dOp, dUn, dTup, dLst, dTest, dNot, dAnd, dOr, dMeth, dCut, dPart, dNoPart, gName, gTup, gCons, gNil, start, List.map, List.length, List.replicate, List.cons_append, List.nil_append, List.getElem?_cons_zero, List.getElem?_cons_succ, List.set, name_d]
    refine sIf_c True (by intro Q q; simpa [atI2_0] using q) (fun _ => ?_) (fun c => (c trivial).elim)
    simp only [Say.ok] at h2
    have := nm_len h2
    simp only [sSeq, sAsg, sRet, sNext, sExpr, sFor, dCall, dA, dA0, dV, dC, dOp, dUn, dTup, dLst, dTest, dNot, dAnd, dOr, dMeth, dCut, dPart, dNoPart, gName, gTup, gCons, gNil, start, List.map, List.length, List.replicate, List.cons_append, List.nil_append, List.getElem?_cons_zero, List.getElem?_cons_succ, List.set, oIx_tup, atI2_1, oAdd_str]
    refine ⟨by omega, ?_⟩
    simpa [Say.sd, Say.d] using fin
  | made g ps =>
    simp only [Say.th] at h1
    simp only [Say.ok, Bool.and_eq_true, decide_eq_true_eq] at h2
    simp only [Say.deep] at h3
    simp only [t_side_of, sSeq, sAsg, sRet, sNext, sExpr, sFor, dCall, dA, dA0, dV, dC, dOp, dUn, dTup, dLst, dTest, dNot, dAnd, dOr, dMeth, dCut, dPart, dNoPart, gName, gTup, gCons, gNil, start, List.map, List.length, List.replicate, List.cons_append, List.nil_append, List.getElem?_cons_zero, List.getElem?_cons_succ, List.set, made_d]
    refine sIf_c False (by intro Q q; simpa [atI3_0, ofString_inj] using q) (fun c => c.elim) (fun _ => ?_)
    simp only [sNext, sSeq, sAsg, sRet, sNext, sExpr, sFor, dCall, dA, dA0, dV, dC, dOp, dUn, dTup, dLst, dTest, dNot, dAnd, dOr, dMeth, dCut, dPart, dNoPart, gName, gTup, gCons, gNil, start, List.map, List.length, List.replicate, List.cons_append, List.nil_append, List.getElem?_cons_zero, List.getElem?_cons_succ, List.set, oIx_tup, atI3_1, dComp, iSeq, atI3_2, wipe]
    refine ⟨by rw [List.length_map]; omega, ?_⟩
    refine compF Say.d (fun s => (Say.sd c s).d) ps ?_ ?_
    · intro s hs R r
      simp only [sSeq, sAsg, sRet, sNext, sExpr, sFor, dCall, dA, dA0, dV, dC, dOp, dUn, dTup, dLst, dTest, dNot, dAnd, dOr, dMeth, dCut, dPart, dNoPart, gName, gTup, gCons, gNil, start, List.map, List.length, List.replicate, List.cons_append, List.nil_append, List.getElem?_cons_zero, List.getElem?_cons_succ, List.set]
      exact call_side (ths_mem h1 s hs) (oks_mem h2.2 s hs) (deeps_mem (n := n) (by omega) s hs) h4 r
    · rw [oTuple_lst]
      simpa [Say.sd, Say.d, says_map, sds_map, Function.comp_def] using fin
  | _ => simp [Say.th] at h1
theorem does_sided (n : Nat) : Does 3 (t__law_sided (sp_side n)) 2 (sp_side (n + 1)) := does_side n
/-! ### what a thing is by its name's binding -/
def sp_now : Spec := .of (fun (s, a) => [Say.d s, .ref a]) (fun (s, a) M => ∃ (U : Un) (S : List Say) (σ : Fd), M a = some (bdM σ) ∧ Good U S σ ∧ Tm U S s)
  fun (s, a) M d M' => ∀ σ, M a = some (bdM σ) → d = (walk σ s).d ∧ M' = M
theorem call_now {U : Un} {S : List Say} {s : Say} {a : Addr} {σ : Fd} {M : Mem} {Q : DK} (h : M a = some (bdM σ)) (h1 : Good U S σ) (h2 : Tm U S s) (q : Q (walk σ s).d M) :
    sp_now.pre [s.d, .ref a] M ∧ ∀ d M', sp_now.post [s.d, .ref a] M d M' → Q d M' :=
  ⟨⟨(s, a), rfl, U, S, σ, h, h1, h2⟩, fun d M' z => by
    obtain ⟨rfl, rfl⟩ := z (s, a) rfl σ h
    exact q⟩
theorem now_loop {U : Un} {S : List Say} {σ : Fd} (hg : Good U S σ) {M : Mem} {a : Addr} (hM : M a = some (bdM σ)) (E : DEnds) : ∀ (m : Nat) (s : Say), Tm U S s → Done σ (wk σ m s) → E.nx [some (wk σ m s).d, some (.ref a)] M →
    sWhileN (dAnd (dTest (dOp oEq (dOp oIx (dV 0) (dC (.int 0))) (dC (.str "name")))) (dTest (dOp oInD (dOp oIx (dV 0) (dC (.int 1))) (dV 1)))) (sAsg (dOp oIxD (dV 1) (dOp oIx (dV 0) (dC (.int 1)))) (gName 0)) (m + 1) E [some s.d, some (.ref a)] M := by
  have stop : ∀ (m : Nat) (s : Say), Tm U S s → Done σ s → E.nx [some s.d, some (.ref a)] M → sWhileN (dAnd (dTest (dOp oEq (dOp oIx (dV 0) (dC (.int 0))) (dC (.str "name")))) (dTest (dOp oInD (dOp oIx (dV 0) (dC (.int 1))) (dV 1)))) (sAsg (dOp oIxD (dV 1) (dOp oIx (dV 0) (dC (.int 1)))) (gName 0)) (m + 1) E [some s.d, some (.ref a)] M := by
    intro m s hs hd q
    rw [sWhileN]
    cases s with
    | name x =>
      have hv := val_bd hg.tri x
      rw [hd x rfl] at hv
      simpa [name_d, atI2_0, atI2_1, oInD, asK, hM, bdM, fdM, hv, -List.map_reverse] using q
    | made g ps => simpa [made_d, atI3_0, ofString_inj] using q
    | _ => have := hs.th; simp [Say.th] at this
  intro m
  induction m with
  | zero => intro s hs hd q; exact stop 0 s hs hd q
  | succ m ih =>
    intro s hs hd q
    cases s with
    | name x =>
      cases e : lkp σ x with
      | none =>
        have e1 : wk σ (m + 1) (.name x) = .name x := by simp [wk, e]
        rw [e1] at q
        exact stop (m + 1) _ hs (fun y ey => by cases ey; exact e) q
      | some t =>
        have e1 : wk σ (m + 1) (.name x) = wk σ m t := by simp [wk, e]
        rw [e1] at q hd
        have z := ih t (hg.lk e) hd q
        have hv := val_bd hg.tri x
        rw [e] at hv
        rw [sWhileN]
        simpa [name_d, atI2_0, atI2_1, oInD, oIxD, asK, hM, bdM, fdM, hv, -List.map_reverse] using z
    | made g ps =>
      have e1 : wk σ (m + 1) (.made g ps) = .made g ps := rfl
      rw [e1] at q hd
      exact stop (m + 1) _ hs hd q
    | _ => have := hs.th; simp [Say.th] at this
theorem does_known : Does 2 t_known_as 2 sp_now := by
  refine Does.of ?_ ?_
  · rintro ⟨s, c⟩ ⟨s', c'⟩ e
    simp only [List.cons.injEq, D.ref.injEq, and_true] at e
    rw [Say.d_inj e.1, e.2]
  rintro ⟨s, a⟩ M R ⟨U, S, σ, hM, hg, hs⟩ ret
  have fin : R (walk σ s).d M := ret _ _ (.now fun τ e => by
    rw [hM] at e
    rw [bdM_inj (Option.some.inj e)]
    exact ⟨rfl, rfl⟩)
  clear ret
  simp only [t_known_as, sSeq]
  refine ⟨σ.length + 1, ?_⟩
  refine now_loop hg hM _ σ.length s hs (walk_done hg.tri s) ?_
  change R (wk σ σ.length s).d M at fin
  simpa using fin
theorem does_now : Does 2 t__law_now 2 sp_now := does_known
/-! ### whether a name stands in a thing -/
def sp_win (n : Nat) : Spec := .of (fun (x, s, a) => [.str x, Say.d s, .ref a]) (fun (x, s, a) M => ∃ (U : Un) (S : List Say) (σ : Fd), M a = some (bdM σ) ∧ Good U S σ ∧ Tm U S s ∧ (T σ s).deep ≤ n)
  fun (x, s, a) M d M' => ∀ σ, M a = some (bdM σ) → d = .bl (decide (x ∈ (T σ s).nms)) ∧ M' = M
theorem call_win {n : Nat} {U : Un} {S : List Say} {x : Str} {s : Say} {a : Addr} {σ : Fd} {M : Mem} {Q : DK} (h : M a = some (bdM σ)) (h1 : Good U S σ) (h2 : Tm U S s) (h3 : (T σ s).deep ≤ n) (q : Q (.bl (decide (x ∈ (T σ s).nms))) M) :
    (sp_win n).pre [.str x, s.d, .ref a] M ∧ ∀ d M', (sp_win n).post [.str x, s.d, .ref a] M d M' → Q d M' :=
  ⟨⟨(x, s, a), rfl, U, S, σ, h, h1, h2, h3⟩, fun d M' z => by
    obtain ⟨rfl, rfl⟩ := z (x, s, a) rfl σ h
    exact q⟩
theorem win_none (ds : List D) (M : Mem) : ¬ (sp_win 0).pre ds M := by
  rintro ⟨⟨x, s, a⟩, _, U, S, σ, _, _, _, h⟩
  have := deep_pos (T σ s)
  omega
theorem win_inj : ∀ a a' : Str × Say × Addr, (fun (x, s, a) => [D.str x, Say.d s, .ref a]) a = (fun (x, s, a) => [D.str x, Say.d s, D.ref a]) a' → a = a' := by
  rintro ⟨p, t, a⟩ ⟨p', t', a'⟩ e
  simp only [List.cons.injEq, D.ref.injEq, D.str.injEq, and_true] at e
  rw [e.1, Say.d_inj e.2.1, e.2.2]
theorem any_nms (σ : Fd) (x : Str) (ps : List Say) : (ps.map fun p => decide (x ∈ (T σ p).nms)).any id = decide (x ∈ nmsL (ps.map (T σ))) := by
  rw [Bool.eq_iff_iff]
  simp only [List.any_map, List.any_eq_true, Function.comp_apply, id, decide_eq_true_eq, nmsL_mem, List.mem_map]
  constructor
  · rintro ⟨p, hp, k⟩; exact ⟨_, ⟨p, hp, rfl⟩, k⟩
  · rintro ⟨_, ⟨p, hp, rfl⟩, k⟩; exact ⟨p, hp, k⟩
theorem does_stands (n : Nat) : Does 5 (t_stands_in (sp_win n) sp_now) 3 (sp_win (n + 1)) := by
  refine Does.of win_inj ?_
  rintro ⟨x, s, a⟩ M R ⟨U, S, σ, hM, hg, hs, hd⟩ ret
  have fin : R (.bl (decide (x ∈ (T σ s).nms))) M := ret _ _ (.now fun τ e => by
    rw [hM] at e
    rw [bdM_inj (Option.some.inj e)]
    exact ⟨rfl, rfl⟩)
  clear ret
  simp only [t_stands_in, sSeq, sAsg, sRet, sNext, sExpr, sFor, dCall, dA, dA0, dV, dC, dOp, dUn, dTup, dLst, dTest, dNot, dAnd, dOr, dMeth, dCut, dPart, dNoPart, gName, gTup, gCons, gNil, start, List.map, List.length, List.replicate, List.cons_append, List.nil_append, List.getElem?_cons_zero, List.getElem?_cons_succ, List.set]
  refine call_now hM hg hs ?_
  have wt := walk_tm hg hs
  have dn := walk_done hg.tri s
  rw [← T_walk hg.tri s] at fin hd
  generalize walk σ s = A at wt dn fin hd ⊢
  cases A with
  | name y =>
    rw [T_free σ y (lkp_none (dn y rfl))] at fin
    simp only [sSeq, sAsg, sRet, sNext, sExpr, sFor, dCall, dA, dA0, dV, dC, dOp, dUn, dTup, dLst, dTest, dNot, dAnd, dOr, dMeth, dCut, dPart, dNoPart, gName, gTup, gCons, gNil, start, List.map, List.length, List.replicate, List.cons_append, List.nil_append, List.getElem?_cons_zero, List.getElem?_cons_succ, List.set, name_d]
    refine sIf_c True (by intro Q q; simpa [atI2_0] using q) (fun _ => ?_) (fun c => (c trivial).elim)
    simp only [Say.nms, List.mem_singleton, eq_comm (a := x)] at fin
    simpa [atI2_1] using fin
  | made g ps =>
    have hok := wt.ok
    simp only [Say.ok, Bool.and_eq_true, decide_eq_true_eq] at hok
    rw [T_made] at fin hd
    simp only [Say.deep] at hd
    simp only [sSeq, sAsg, sRet, sNext, sExpr, sFor, dCall, dA, dA0, dV, dC, dOp, dUn, dTup, dLst, dTest, dNot, dAnd, dOr, dMeth, dCut, dPart, dNoPart, gName, gTup, gCons, gNil, start, List.map, List.length, List.replicate, List.cons_append, List.nil_append, List.getElem?_cons_zero, List.getElem?_cons_succ, List.set, made_d]
    refine sIf_c False (by intro Q q; simpa [atI3_0, ofString_inj] using q) (fun c => c.elim) (fun _ => ?_)
    simp only [sNext, sSeq, sAsg, sRet, sNext, sExpr, sFor, dCall, dA, dA0, dV, dC, dOp, dUn, dTup, dLst, dTest, dNot, dAnd, dOr, dMeth, dCut, dPart, dNoPart, gName, gTup, gCons, gNil, start, List.map, List.length, List.replicate, List.cons_append, List.nil_append, List.getElem?_cons_zero, List.getElem?_cons_succ, List.set, oIx_tup, dComp, iSeq, atI3_2, wipe]
    refine ⟨by rw [List.length_map]; omega, ?_⟩
    refine compF Say.d (fun p => .bl (decide (x ∈ (T σ p).nms))) ps ?_ ?_
    · intro p hp R r
      simp only [sSeq, sAsg, sRet, sNext, sExpr, sFor, dCall, dA, dA0, dV, dC, dOp, dUn, dTup, dLst, dTest, dNot, dAnd, dOr, dMeth, dCut, dPart, dNoPart, gName, gTup, gCons, gNil, start, List.map, List.length, List.replicate, List.cons_append, List.nil_append, List.getElem?_cons_zero, List.getElem?_cons_succ, List.set]
      refine call_win hM hg (wt.part p hp) ?_ r
      exact deeps_mem (n := n) (ps := ps.map (T σ)) (by omega) _ (List.mem_map.mpr ⟨p, hp, rfl⟩)
    · have e : (ps.map fun p => D.bl (decide (x ∈ (T σ p).nms))) = (ps.map fun p => decide (x ∈ (T σ p).nms)).map D.bl := by simp
      rw [e, oAny_lst, mas_bools]
      simp only [any_nms]
      exact fin
  | _ => have := wt.th; simp [Say.th] at this
theorem has_true : ∀ bs : List Bool, hasD (bs.map D.bl) (.bl true) = bs.any id
  | [] => rfl
  | b :: bs => by simp [has_true bs]
theorem does_within (n : Nat) : Does 4 (t__law_within (sp_win n) sp_now) 3 (sp_win (n + 1)) := by
  refine Does.of win_inj ?_
  rintro ⟨x, s, a⟩ M R ⟨U, S, σ, hM, hg, hs, hd⟩ ret
  have fin : R (.bl (decide (x ∈ (T σ s).nms))) M := ret _ _ (.now fun τ e => by
    rw [hM] at e
    rw [bdM_inj (Option.some.inj e)]
    exact ⟨rfl, rfl⟩)
  clear ret
  simp only [t__law_within, sSeq, sAsg, sRet, sNext, sExpr, sFor, dCall, dA, dA0, dV, dC, dOp, dUn, dTup, dLst, dTest, dNot, dAnd, dOr, dMeth, dCut, dPart, dNoPart, gName, gTup, gCons, gNil, start, List.map, List.length, List.replicate, List.cons_append, List.nil_append, List.getElem?_cons_zero, List.getElem?_cons_succ, List.set]
  refine call_now hM hg hs ?_
  have wt := walk_tm hg hs
  have dn := walk_done hg.tri s
  rw [← T_walk hg.tri s] at fin hd
  generalize walk σ s = A at wt dn fin hd ⊢
  cases A with
  | name y =>
    rw [T_free σ y (lkp_none (dn y rfl))] at fin
    simp only [sSeq, sAsg, sRet, sNext, sExpr, sFor, dCall, dA, dA0, dV, dC, dOp, dUn, dTup, dLst, dTest, dNot, dAnd, dOr, dMeth, dCut, dPart, dNoPart, gName, gTup, gCons, gNil, start, List.map, List.length, List.replicate, List.cons_append, List.nil_append, List.getElem?_cons_zero, List.getElem?_cons_succ, List.set, name_d]
    refine sIf_c True (by intro Q q; simpa [atI2_0] using q) (fun _ => ?_) (fun c => (c trivial).elim)
    simp only [Say.nms, List.mem_singleton, eq_comm (a := x)] at fin
    simpa [atI2_1] using fin
  | made g ps =>
    have hok := wt.ok
    simp only [Say.ok, Bool.and_eq_true, decide_eq_true_eq] at hok
    rw [T_made] at fin hd
    simp only [Say.deep] at hd
    simp only [sSeq, sAsg, sRet, sNext, sExpr, sFor, dCall, dA, dA0, dV, dC, dOp, dUn, dTup, dLst, dTest, dNot, dAnd, dOr, dMeth, dCut, dPart, dNoPart, gName, gTup, gCons, gNil, start, List.map, List.length, List.replicate, List.cons_append, List.nil_append, List.getElem?_cons_zero, List.getElem?_cons_succ, List.set, made_d]
    refine sIf_c False (by intro Q q; simpa [atI3_0, ofString_inj] using q) (fun c => c.elim) (fun _ => ?_)
    simp only [sNext, sSeq, sAsg, sRet, sNext, sExpr, sFor, dCall, dA, dA0, dV, dC, dOp, dUn, dTup, dLst, dTest, dNot, dAnd, dOr, dMeth, dCut, dPart, dNoPart, gName, gTup, gCons, gNil, start, List.map, List.length, List.replicate, List.cons_append, List.nil_append, List.getElem?_cons_zero, List.getElem?_cons_succ, List.set, oIx_tup, dComp, iSeq, atI3_2, wipe]
    refine ⟨by rw [List.length_map]; omega, ?_⟩
    refine compF Say.d (fun p => .bl (decide (x ∈ (T σ p).nms))) ps ?_ ?_
    · intro p hp R r
      simp only [sSeq, sAsg, sRet, sNext, sExpr, sFor, dCall, dA, dA0, dV, dC, dOp, dUn, dTup, dLst, dTest, dNot, dAnd, dOr, dMeth, dCut, dPart, dNoPart, gName, gTup, gCons, gNil, start, List.map, List.length, List.replicate, List.cons_append, List.nil_append, List.getElem?_cons_zero, List.getElem?_cons_succ, List.set]
      refine call_win hM hg (wt.part p hp) ?_ r
      exact deeps_mem (n := n) (ps := ps.map (T σ)) (by omega) _ (List.mem_map.mpr ⟨p, hp, rfl⟩)
    · have e : (ps.map fun p => D.bl (decide (x ∈ (T σ p).nms))) = (ps.map fun p => decide (x ∈ (T σ p).nms)).map D.bl := by simp
      have af : ∀ bs : List Bool, (bs.map D.bl).all flat = true := by
        intro bs
        induction bs with
        | nil => rfl
        | cons b r ih => simp [flat]
      rw [e]
      simp only [oIn, inB_lst, af, has_true, any_nms]
      exact ⟨rfl, trivial, fin⟩
  | _ => have := wt.th; simp [Say.th] at this
/-! ### two things made alike: the program's going and the law's -/
structure UnPre (n : Nat) (U : Un) (S : List Say) (σ : Fd) (p q : Say) : Prop where
  good : Good U S σ
  tp : Tm U S p
  tq : Tm U S q
  bp : Bnd U S n σ p
  bq : Bnd U S n σ q
  ul : U.nm.length ≤ 900
  sl : S.length ≤ 104
def sp_un (sw go : Bool) (n : Nat) : Spec := .of (fun (p, q, a) => [Say.d p, Say.d q, .ref a]) (fun (p, q, a) M => ∃ (U : Un) (S : List Say) (σ : Fd), M a = some (bdM σ) ∧ UnPre n U S σ p q)
  fun (p, q, a) M d M' => ∀ σ, M a = some (bdM σ) → d = .bl (un sw go n p q σ).1 ∧ M' = mset M a (bdM (un sw go n p q σ).2)
theorem call_un {sw go : Bool} {n : Nat} {U : Un} {S : List Say} {p q : Say} {a : Addr} {σ : Fd} {M : Mem} {Q : DK} (h : M a = some (bdM σ)) (h1 : UnPre n U S σ p q) (z : Q (.bl (un sw go n p q σ).1) (mset M a (bdM (un sw go n p q σ).2))) :
    (sp_un sw go n).pre [p.d, q.d, .ref a] M ∧ ∀ d M', (sp_un sw go n).post [p.d, q.d, .ref a] M d M' → Q d M' :=
  ⟨⟨(p, q, a), rfl, U, S, σ, h, h1⟩, fun d M' y => by
    obtain ⟨rfl, rfl⟩ := y (p, q, a) rfl σ h
    exact z⟩
theorem un_none (sw go : Bool) (ds : List D) (M : Mem) : ¬ (sp_un sw go 0).pre ds M := by
  rintro ⟨⟨p, q, a⟩, _, U, S, σ, _, h⟩
  have := h.bp σ (Ext.refl _) h.good
  have := deep_pos (T σ p)
  omega
theorem un_inj : ∀ a a' : Say × Say × Addr, (fun (p, t, a) => [Say.d p, Say.d t, .ref a]) a = (fun (p, t, a) => [Say.d p, Say.d t, D.ref a]) a' → a = a' := by
  rintro ⟨p, t, a⟩ ⟨p', t', a'⟩ e
  simp only [List.cons.injEq, D.ref.injEq, and_true] at e
  rw [Say.d_inj e.1, Say.d_inj e.2.1, e.2.2]
theorem uns_on (sw : Bool) (n : Nat) (p q : Say) (ps qs : List Say) (σ : Fd) : uns sw true n (p :: ps) (q :: qs) σ = ((un sw true n p q σ).1 && (uns sw true n ps qs (un sw true n p q σ).2).1, (uns sw true n ps qs (un sw true n p q σ).2).2) := by
  simp only [uns]
  by_cases c : (un sw true n p q σ).1 = true
  · rw [if_pos c, c]; simp
  · have c' : (un sw true n p q σ).1 = false := by simpa using c
    rw [c']; simp
theorem swap34 {E : DEnds} {o0 o1 o2 o5 o6 : Option D} {x y : D} {M : Mem} (h : E.nx [o0, o1, o2, some y, some x, o5, o6] M) :
    sAsg (dTup (dA (dV 4) (dA (dV 3) dA0))) (gTup (gCons (gName 3) (gCons (gName 4) gNil))) E [o0, o1, o2, some x, some y, o5, o6] M := by
  simpa using h
theorem does_joined (n : Nat) : Does 7 (t_joined (sp_un true true n) (sp_win 105) sp_now) 3 (sp_un true true (n + 1)) := by
  refine Does.of un_inj ?_
  rintro ⟨p, q, a⟩ M R ⟨U, S, σ, hM, h⟩ ret
  have fin : R (.bl (un true true (n + 1) p q σ).1) (mset M a (bdM (un true true (n + 1) p q σ).2)) := ret _ _ (.now fun τ e => by
    rw [hM] at e
    rw [bdM_inj (Option.some.inj e)]
    exact ⟨rfl, rfl⟩)
  clear ret
  obtain ⟨hg, hp, hq, bp, bq, hU, hS⟩ := h
  have wp := walk_tm hg hp
  have wq := walk_tm hg hq
  have dp := walk_done hg.tri p
  have dq := walk_done hg.tri q
  have pp : ∀ {g : Str} {ps : List Say}, walk σ p = .made g ps → ∀ r ∈ ps, Bnd U S n σ r := fun e => bp.part e
  have qq : ∀ {g : Str} {ps : List Say}, walk σ q = .made g ps → ∀ r ∈ ps, Bnd U S n σ r := fun e => bq.part e
  have hlen : σ.length < 100000 := by have := hg.len; omega
  simp only [t_joined, sSeq, sAsg, sRet, sNext, sExpr, sFor, dCall, dA, dA0, dV, dC, dOp, dUn, dTup, dLst, dTest, dNot, dAnd, dOr, dMeth, dCut, dPart, dNoPart, gName, gTup, gCons, gNil, start, List.map, List.length, List.replicate, List.cons_append, List.nil_append, List.getElem?_cons_zero, List.getElem?_cons_succ, List.set]
  refine call_now hM hg hp ?_
  refine call_now hM hg hq ?_
  simp only [un] at fin
  generalize walk σ p = A at wp dp pp fin ⊢
  generalize walk σ q = B at wq dq qq fin ⊢
  have ka := wp.deep
  have kb := wq.deep
  refine sIf_c (eqv A.d B.d = true) ?_ (fun c => ?_) (fun c => ?_)
  · intro Q z
    simp only [Bool.decide_eq_true] at z
    simpa [oEq, eq_d wp.ok (by omega : A.deep ≤ 30) wq.ok (by omega : B.deep ≤ 30)] using z
  · rw [if_pos c, mset_self hM] at fin
    simpa using fin
  rw [if_neg c] at fin
  simp only [sNext, sSeq, sAsg, sRet, sNext, sExpr, sFor, dCall, dA, dA0, dV, dC, dOp, dUn, dTup, dLst, dTest, dNot, dAnd, dOr, dMeth, dCut, dPart, dNoPart, gName, gTup, gCons, gNil, start, List.map, List.length, List.replicate, List.cons_append, List.nil_append, List.getElem?_cons_zero, List.getElem?_cons_succ, List.set]
  cases A with
  | name x =>
    simp only [name_d]
    refine sIf_c False (by intro Q q; simpa [atI2_0] using q) (fun c => c.elim) (fun _ => ?_)
    simp only [sNext, sSeq, sAsg, sRet, sNext, sExpr, sFor, dCall, dA, dA0, dV, dC, dOp, dUn, dTup, dLst, dTest, dNot, dAnd, dOr, dMeth, dCut, dPart, dNoPart, gName, gTup, gCons, gNil, start, List.map, List.length, List.replicate, List.cons_append, List.nil_append, List.getElem?_cons_zero, List.getElem?_cons_succ, List.set]
    refine sIf_c True (by intro Q q; simpa [atI2_0] using q) (fun _ => ?_) (fun c => (c trivial).elim)
    simp only [sSeq, sAsg, sRet, sNext, sExpr, sFor, dCall, dA, dA0, dV, dC, dOp, dUn, dTup, dLst, dTest, dNot, dAnd, dOr, dMeth, dCut, dPart, dNoPart, gName, gTup, gCons, gNil, start, List.map, List.length, List.replicate, List.cons_append, List.nil_append, List.getElem?_cons_zero, List.getElem?_cons_succ, List.set]
    have hd : (T σ B).deep ≤ 105 := by have := T_deepU hg wq; omega
    refine sIf_c (x ∈ (T σ B).nms) ?_ (fun c1 => ?_) (fun c1 => ?_)
    · intro Q z
      simp only [sSeq, sAsg, sRet, sNext, sExpr, sFor, dCall, dA, dA0, dV, dC, dOp, dUn, dTup, dLst, dTest, dNot, dAnd, dOr, dMeth, dCut, dPart, dNoPart, gName, gTup, gCons, gNil, start, List.map, List.length, List.replicate, List.cons_append, List.nil_append, List.getElem?_cons_zero, List.getElem?_cons_succ, List.set, oIx_tup, atI2_1]
      exact call_win hM hg wq hd (by simpa using z)
    · simp only [if_pos c1, mset_self hM] at fin
      simpa using fin
    · simp only [if_neg c1] at fin
      have hv := bd_new (dp x rfl)
      simp only [sNext, sSeq, sAsg, sRet, sNext, sExpr, sFor, dCall, dA, dA0, dV, dC, dOp, dUn, dTup, dLst, dTest, dNot, dAnd, dOr, dMeth, dCut, dPart, dNoPart, gName, gTup, gCons, gNil, start, List.map, List.length, List.replicate, List.cons_append, List.nil_append, List.getElem?_cons_zero, List.getElem?_cons_succ, List.set, sPutD, oIx_tup, atI2_1, keyOf_str, hM, bdM, fdM]
      refine ⟨hv, by simpa using hlen, ?_⟩
      rw [bd_put]
      exact fin
  | made g ps =>
    cases B with
    | name y =>
      simp only [made_d, name_d]
      refine sIf_c True (by intro Q q; simpa [atI3_0, ofString_inj] using q) (fun _ => ?_) (fun c => (c trivial).elim)
      refine swap34 ?_
      simp only [sSeq]
      refine sIf_c True (by intro Q q; simpa [atI2_0] using q) (fun _ => ?_) (fun c => (c trivial).elim)
      simp only [sSeq, sAsg, sRet, sNext, sExpr, sFor, dCall, dA, dA0, dV, dC, dOp, dUn, dTup, dLst, dTest, dNot, dAnd, dOr, dMeth, dCut, dPart, dNoPart, gName, gTup, gCons, gNil, start, List.map, List.length, List.replicate, List.cons_append, List.nil_append, List.getElem?_cons_zero, List.getElem?_cons_succ, List.set]
      have hd : (T σ (.made g ps)).deep ≤ 105 := by have := T_deepU hg wp; omega
      refine sIf_c (y ∈ (T σ (.made g ps)).nms) ?_ (fun c1 => ?_) (fun c1 => ?_)
      · intro Q z
        simp only [sSeq, sAsg, sRet, sNext, sExpr, sFor, dCall, dA, dA0, dV, dC, dOp, dUn, dTup, dLst, dTest, dNot, dAnd, dOr, dMeth, dCut, dPart, dNoPart, gName, gTup, gCons, gNil, start, List.map, List.length, List.replicate, List.cons_append, List.nil_append, List.getElem?_cons_zero, List.getElem?_cons_succ, List.set, oIx_tup, atI2_1]
        rw [← made_d g ps]
        exact call_win hM hg wp hd (by simpa using z)
      · simp only [if_pos c1, mset_self hM] at fin
        simpa using fin
      · simp only [if_neg c1] at fin
        have hv := bd_new (dq y rfl)
        simp only [sNext, sSeq, sAsg, sRet, sNext, sExpr, sFor, dCall, dA, dA0, dV, dC, dOp, dUn, dTup, dLst, dTest, dNot, dAnd, dOr, dMeth, dCut, dPart, dNoPart, gName, gTup, gCons, gNil, start, List.map, List.length, List.replicate, List.cons_append, List.nil_append, List.getElem?_cons_zero, List.getElem?_cons_succ, List.set, sPutD, oIx_tup, atI2_1, keyOf_str, hM, bdM, fdM]
        refine ⟨hv, by simpa using hlen, ?_⟩
        rw [← made_d g ps, bd_put]
        exact fin
    | made g' qs =>
      simp only [made_d]
      refine sIf_c True (by intro Q q; simpa [atI3_0, ofString_inj] using q) (fun _ => ?_) (fun c => (c trivial).elim)
      refine swap34 ?_
      simp only [sSeq]
      refine sIf_c False (by intro Q q; simpa [atI3_0, ofString_inj] using q) (fun c => c.elim) (fun _ => ?_)
      simp only [sNext, sSeq, sAsg, sRet, sNext, sExpr, sFor, dCall, dA, dA0, dV, dC, dOp, dUn, dTup, dLst, dTest, dNot, dAnd, dOr, dMeth, dCut, dPart, dNoPart, gName, gTup, gCons, gNil, start, List.map, List.length, List.replicate, List.cons_append, List.nil_append, List.getElem?_cons_zero, List.getElem?_cons_succ, List.set]
      refine sIf_c (¬ (g = g' ∧ ps.length = qs.length)) ?_ (fun c => ?_) (fun c => ?_)
      · intro Q q
        have ie : ((qs.length : Int) = (ps.length : Int)) = (ps.length = qs.length) := propext (by omega)
        by_cases c1 : g = g'
        · simpa [atI3_1, atI3_2, c1, ie] using q
        · simpa [atI3_1, atI3_2, c1, Ne.symm c1] using q
      · simp only [if_neg c, mset_self hM] at fin
        simpa using fin
      · simp only [Decidable.not_not] at c
        simp only [if_pos c, if_true] at fin
        have hok := wp.ok
        simp only [Say.ok, Bool.and_eq_true, decide_eq_true_eq] at hok
        simp only [sNext, sSeq, sAsg, sRet, sNext, sExpr, sFor, dCall, dA, dA0, dV, dC, dOp, dUn, dTup, dLst, dTest, dNot, dAnd, dOr, dMeth, dCut, dPart, dNoPart, gName, gTup, gCons, gNil, start, List.map, List.length, List.replicate, List.cons_append, List.nil_append, List.getElem?_cons_zero, List.getElem?_cons_succ, List.set, dComp, iZip, oIx_tup, atI3_2, wipe]
        rw [zipD_map]
        refine ⟨by simp; omega, ?_⟩
        refine compL (fun q : Say × Say => .tup [q.1.d, q.2.d]) (fun acc l M' => ∃ bs ps' qs' σ', acc = bs.map D.bl ∧ l = qs'.zip ps' ∧ ps'.length = qs'.length ∧ (bs.all id && (uns true true n qs' ps' σ').1, (uns true true n qs' ps' σ').2) = uns true true n qs ps σ ∧ M' = mset M a (bdM σ') ∧ Good U S σ' ∧ Ext σ σ' ∧ (∀ r ∈ ps', r ∈ ps) ∧ ∀ r ∈ qs', r ∈ qs) ?_ ?_ (qs.zip ps) [] M ⟨[], ps, qs, σ, rfl, rfl, c.2, by simp, (mset_self hM).symm, hg, Ext.refl _, fun _ h => h, fun _ h => h⟩
        · rintro acc ⟨q1, p1⟩ r M' N ⟨bs, ps', qs', σ', rfl, e1, e2, e3, rfl, k1, k2, k3, k4⟩ k
          cases ps' with
          | nil => cases qs' <;> simp at e1
          | cons p2 ps' =>
            cases qs' with
            | nil => simp at e1
            | cons q2 qs' =>
              simp only [List.zip_cons_cons, List.cons.injEq, Prod.mk.injEq] at e1
              obtain ⟨⟨rfl, rfl⟩, rfl⟩ := e1
              rw [uns_on] at e3
              have m1 := k3 p1 (by simp)
              have m2 := k4 q1 (by simp)
              have mo := (un_good true true U S n).1 q1 p1 σ' k1 (wq.part q1 m2) (wp.part p1 m1)
              simp only [sSeq, sAsg, sRet, sNext, sExpr, sFor, dCall, dA, dA0, dV, dC, dOp, dUn, dTup, dLst, dTest, dNot, dAnd, dOr, dMeth, dCut, dPart, dNoPart, gName, gTup, gCons, gNil, start, List.map, List.length, List.replicate, List.cons_append, List.nil_append, List.getElem?_cons_zero, List.getElem?_cons_succ, List.set, dYes]
              rw [if_pos trivial]
              refine call_un (σ := σ') (mset_same _ _ _) ⟨k1, wq.part q1 m2, wp.part p1 m1, (qq rfl q1 m2).ext k2, (pp rfl p1 m1).ext k2, hU, hS⟩ ?_
              rw [mset_mset]
              refine k _ _ ⟨bs ++ [(un true true n q1 p1 σ').1], ps', qs', (un true true n q1 p1 σ').2, by simp, rfl, by simpa using e2, ?_, rfl, mo.1, k2.trans mo.2.1, fun r hr => k3 r (List.mem_cons_of_mem _ hr), fun r hr => k4 r (List.mem_cons_of_mem _ hr)⟩
              rw [← e3]
              simp [Bool.and_assoc]
        · rintro acc M' ⟨bs, ps', qs', σ', rfl, e1, e2, e3, rfl, _⟩
          have : ps' = [] ∧ qs' = [] := by
            cases ps' with
            | nil => exact ⟨rfl, List.eq_nil_of_length_eq_zero e2.symm⟩
            | cons x y =>
              cases qs' with
              | nil => simp at e2
              | cons z w => simp at e1
          obtain ⟨rfl, rfl⟩ := this
          simp only [uns, Bool.and_true] at e3
          rw [← e3] at fin
          simp only [oAll_lst, mas_bools]
          exact fin
    | _ => have := wq.th; simp [Say.th] at this
  | _ => have := wp.th; simp [Say.th] at this
theorem seq_i {a b : DS} {E : DEnds} {ρ : Env} {M : Mem} (h : a { E with nx := b E } ρ M) : sSeq a b E ρ M := h
theorem next_i {E : DEnds} {ρ : Env} {M : Mem} (h : E.nx ρ M) : sNext E ρ M := h
theorem asgA {E : DEnds} {b : DS} {d0 d1 x : D} {o2 o3 o4 o5 o6 : Option D} {M : Mem} (h : ∀ (Q : DK), oIx d0 (.int 1) M Q = Q x M) (q : b E [some d0, some d1, o2, some x, some d1, o5, o6] M) :
    sSeq (sAsg (dTup (dA (dOp oIx (dV 0) (dC (.int 1))) (dA (dV 1) dA0))) (gTup (gCons (gName 3) (gCons (gName 4) gNil)))) b E [some d0, some d1, o2, o3, o4, o5, o6] M := by
  simp only [sSeq, sAsg, dTup, dA, dA0, dOp, dV, dC, List.getElem?_cons_zero, List.getElem?_cons_succ, h, gTup, gCons, gName, gNil, List.set]
  exact q
theorem asgB {E : DEnds} {d0 d1 x : D} {o2 o3 o4 o5 o6 : Option D} {M : Mem} (h : ∀ (Q : DK), oIx d1 (.int 1) M Q = Q x M) (q : E.nx [some d0, some d1, o2, some x, some d0, o5, o6] M) :
    sAsg (dTup (dA (dOp oIx (dV 1) (dC (.int 1))) (dA (dV 0) dA0))) (gTup (gCons (gName 3) (gCons (gName 4) gNil))) E [some d0, some d1, o2, o3, o4, o5, o6] M := by
  simp only [sAsg, dTup, dA, dA0, dOp, dV, dC, List.getElem?_cons_zero, List.getElem?_cons_succ, h, gTup, gCons, gName, gNil, List.set]
  exact q
theorem ix1_name (y : Str) (M : Mem) (Q : DK) : oIx (.tup [.str "name", .str y]) (.int 1) M Q = Q (.str y) M := rfl
theorem ix1_made (g : Str) (d : D) (M : Mem) (Q : DK) : oIx (.tup [.str "made", .str g, d]) (.int 1) M Q = Q (.str g) M := rfl
theorem does_alike (n : Nat) : Does 7 (t__law_alike (sp_un false false n) (sp_win 105) sp_now) 3 (sp_un false false (n + 1)) := by
  refine Does.of un_inj ?_
  rintro ⟨p, q, a⟩ M R ⟨U, S, σ, hM, h⟩ ret
  have fin : R (.bl (un false false (n + 1) p q σ).1) (mset M a (bdM (un false false (n + 1) p q σ).2)) := ret _ _ (.now fun τ e => by
    rw [hM] at e
    rw [bdM_inj (Option.some.inj e)]
    exact ⟨rfl, rfl⟩)
  clear ret
  obtain ⟨hg, hp, hq, bp, bq, hU, hS⟩ := h
  have wp := walk_tm hg hp
  have wq := walk_tm hg hq
  have dp := walk_done hg.tri p
  have dq := walk_done hg.tri q
  have pp : ∀ {g : Str} {ps : List Say}, walk σ p = .made g ps → ∀ r ∈ ps, Bnd U S n σ r := fun e => bp.part e
  have qq : ∀ {g : Str} {ps : List Say}, walk σ q = .made g ps → ∀ r ∈ ps, Bnd U S n σ r := fun e => bq.part e
  have hlen : σ.length < 100000 := by have := hg.len; omega
  simp only [t__law_alike, sSeq, sAsg, sRet, sNext, sExpr, sFor, dCall, dA, dA0, dV, dC, dOp, dUn, dTup, dLst, dTest, dNot, dAnd, dOr, dMeth, dCut, dPart, dNoPart, gName, gTup, gCons, gNil, start, List.map, List.length, List.replicate, List.cons_append, List.nil_append, List.getElem?_cons_zero, List.getElem?_cons_succ, List.set]
  refine call_now hM hg hp ?_
  refine call_now hM hg hq ?_
  simp only [un] at fin
  generalize walk σ p = A at wp dp pp fin ⊢
  generalize walk σ q = B at wq dq qq fin ⊢
  have ka := wp.deep
  have kb := wq.deep
  refine sIf_c (eqv A.d B.d = true) ?_ (fun c => ?_) (fun c => ?_)
  · intro Q z
    simp only [Bool.decide_eq_true] at z
    simpa [oEq, eq_d wp.ok (by omega : A.deep ≤ 30) wq.ok (by omega : B.deep ≤ 30)] using z
  · rw [if_pos c, mset_self hM] at fin
    simpa using fin
  rw [if_neg c] at fin
  simp only [sNext, sSeq]
  cases A with
  | name x =>
    simp only [name_d]
    have hB0 : ∃ z, oIx B.d (.int 0) = fun M Q => Q (.str z) M := by
      cases B with
      | name y => exact ⟨"name", by funext M Q; simp [name_d, atI2_0]⟩
      | made g ps => exact ⟨"made", by funext M Q; simp [made_d, atI3_0]⟩
      | _ => have := wq.th; simp [Say.th] at this
    obtain ⟨z0, hz0⟩ := hB0
    refine sIf_c True (by intro Q q; simpa [atI2_0, hz0] using q) (fun _ => ?_) (fun c => (c trivial).elim)
    refine asgA (ix1_name x M) ?_
    refine seq_i ?_
    refine sIf_c False (by intro Q q; simpa [atI2_0] using q) (fun c => c.elim) (fun _ => ?_)
    refine next_i ?_
    dsimp only
    refine seq_i ?_
    have hd : (T σ B).deep ≤ 105 := by have := T_deepU hg wq; omega
    refine sIf_c (x ∈ (T σ B).nms) ?_ (fun c1 => ?_) (fun c1 => ?_)
    · intro Q z
      simp only [sSeq, sAsg, sRet, sNext, sExpr, sFor, dCall, dA, dA0, dV, dC, dOp, dUn, dTup, dLst, dTest, dNot, dAnd, dOr, dMeth, dCut, dPart, dNoPart, gName, gTup, gCons, gNil, start, List.map, List.length, List.replicate, List.cons_append, List.nil_append, List.getElem?_cons_zero, List.getElem?_cons_succ, List.set, oIx_tup, atI2_1]
      exact call_win hM hg wq hd (by simpa using z)
    · simp only [if_pos c1, mset_self hM] at fin
      simpa using fin
    · simp only [if_neg c1] at fin
      have hv := bd_new (dp x rfl)
      simp only [sNext, sSeq, sAsg, sRet, sNext, sExpr, sFor, dCall, dA, dA0, dV, dC, dOp, dUn, dTup, dLst, dTest, dNot, dAnd, dOr, dMeth, dCut, dPart, dNoPart, gName, gTup, gCons, gNil, start, List.map, List.length, List.replicate, List.cons_append, List.nil_append, List.getElem?_cons_zero, List.getElem?_cons_succ, List.set, sPutD, oIx_tup, atI2_1, keyOf_str, hM, bdM, fdM]
      refine ⟨hv, by simpa using hlen, ?_⟩
      rw [bd_put]
      exact fin
  | made g ps =>
    cases B with
    | name y =>
      simp only [made_d g ps, name_d y]
      refine sIf_c True (by intro Q q; simpa [atI3_0, atI2_0, ofString_inj] using q) (fun _ => ?_) (fun c => (c trivial).elim)
      refine asgA (ix1_made g _ M) ?_
      refine seq_i ?_
      refine sIf_c True (by intro Q q; simpa [atI3_0, ofString_inj] using q) (fun _ => ?_) (fun c => (c trivial).elim)
      refine asgB (ix1_name y M) ?_
      have hd : (T σ (.made g ps)).deep ≤ 105 := by have := T_deepU hg wp; omega
      dsimp only
      refine seq_i ?_
      refine sIf_c (y ∈ (T σ (.made g ps)).nms) ?_ (fun c1 => ?_) (fun c1 => ?_)
      · intro Q z
        simp only [sSeq, sAsg, sRet, sNext, sExpr, sFor, dCall, dA, dA0, dV, dC, dOp, dUn, dTup, dLst, dTest, dNot, dAnd, dOr, dMeth, dCut, dPart, dNoPart, gName, gTup, gCons, gNil, start, List.map, List.length, List.replicate, List.cons_append, List.nil_append, List.getElem?_cons_zero, List.getElem?_cons_succ, List.set]
        rw [← made_d g ps]
        exact call_win hM hg wp hd (by simpa using z)
      · simp only [if_pos c1, mset_self hM] at fin
        simpa using fin
      · simp only [if_neg c1] at fin
        have hv := bd_new (dq y rfl)
        simp only [sNext, sSeq, sAsg, sRet, sNext, sExpr, sFor, dCall, dA, dA0, dV, dC, dOp, dUn, dTup, dLst, dTest, dNot, dAnd, dOr, dMeth, dCut, dPart, dNoPart, gName, gTup, gCons, gNil, start, List.map, List.length, List.replicate, List.cons_append, List.nil_append, List.getElem?_cons_zero, List.getElem?_cons_succ, List.set, sPutD, keyOf_str, hM, bdM, fdM]
        refine ⟨hv, by simpa using hlen, ?_⟩
        rw [← made_d g ps, bd_put]
        exact fin
    | made g' qs =>
      simp only [made_d g ps, made_d g' qs]
      refine sIf_c False (by intro Q q; simpa [atI3_0, ofString_inj] using q) (fun c => c.elim) (fun _ => ?_)
      simp only [sNext]
      have hl : g = g' → ps.length = qs.length := fun e => by rw [wp.len, wq.len, e]
      refine sIf_c (¬ g = g') ?_ (fun c => ?_) (fun c => ?_)
      · intro Q q
        simpa [atI3_1] using q
      · have c2 : ¬ (g = g' ∧ ps.length = qs.length) := fun z => c z.1
        simp only [if_neg c2, mset_self hM] at fin
        simpa using fin
      · simp only [Decidable.not_not] at c
        have c2 : g = g' ∧ ps.length = qs.length := ⟨c, hl c⟩
        simp only [if_pos c2] at fin
        rw [if_neg (by simp)] at fin
        have hok := wp.ok
        simp only [Say.ok, Bool.and_eq_true, decide_eq_true_eq] at hok
        simp only [sNext, sSeq, sAsg, sRet, sNext, sExpr, sFor, dCall, dA, dA0, dV, dC, dOp, dUn, dTup, dLst, dTest, dNot, dAnd, dOr, dMeth, dCut, dPart, dNoPart, gName, gTup, gCons, gNil, start, List.map, List.length, List.replicate, List.cons_append, List.nil_append, List.getElem?_cons_zero, List.getElem?_cons_succ, List.set, iZip, oIx_tup, atI3_2]
        rw [zipD_map]
        refine loopI (fun q : Say × Say => .tup [q.1.d, q.2.d]) (fun l ρ M' => ∃ ps' qs' σ', l = ps'.zip qs' ∧ ps'.length = qs'.length ∧ uns false false n ps' qs' σ' = uns false false n ps qs σ ∧ M' = mset M a (bdM σ') ∧ Good U S σ' ∧ Ext σ σ' ∧ (∀ r ∈ ps', r ∈ ps) ∧ (∀ r ∈ qs', r ∈ qs) ∧ ρ[2]? = some (some (.ref a)) ∧ 6 < ρ.length) ?_ ?_ (ps.zip qs) _ M ⟨ps, qs, σ, rfl, c2.2, rfl, (mset_self hM).symm, hg, Ext.refl _, fun _ h => h, fun _ h => h, rfl, by simp⟩
        · rintro ⟨p1, q1⟩ r ρ M' N ⟨ps', qs', σ', e1, e2, e3, rfl, k1, k2, k3, k4, r2, r4⟩ k
          cases ps' with
          | nil => simp at e1
          | cons p2 ps' =>
            cases qs' with
            | nil => simp at e1
            | cons q2 qs' =>
              simp only [List.zip_cons_cons, List.cons.injEq, Prod.mk.injEq] at e1
              obtain ⟨⟨rfl, rfl⟩, rfl⟩ := e1
              simp only [uns] at e3
              have m1 := k3 p1 (by simp)
              have m2 := k4 q1 (by simp)
              have mo := (un_good false false U S n).1 p1 q1 σ' k1 (wp.part p1 m1) (wq.part q1 m2)
              have a2 : (((ρ.set 5 (some p1.d)).set 6 (some q1.d)))[2]? = some (some (.ref a)) := by
                rw [List.getElem?_set_ne (by decide), List.getElem?_set_ne (by decide)]; exact r2
              have a5 : (((ρ.set 5 (some p1.d)).set 6 (some q1.d)))[5]? = some (some p1.d) := by
                rw [List.getElem?_set_ne (by decide), List.getElem?_set_self (by omega)]
              have a6 : (((ρ.set 5 (some p1.d)).set 6 (some q1.d)))[6]? = some (some q1.d) := by
                rw [List.getElem?_set_self (by rw [List.length_set]; omega)]
              simp only [gTup, gCons, gName, gNil]
              simp only [sIf, dNot, dTest, dCall, dA, dV, dA0, a2, a5, a6]
              refine call_un (σ := σ') (mset_same _ _ _) ⟨k1, wp.part p1 m1, wq.part q1 m2, (pp rfl p1 m1).ext k2, (qq rfl q1 m2).ext k2, hU, hS⟩ ?_
              rw [mset_mset]
              by_cases c3 : (un false false n p1 q1 σ').1 = true
              · rw [if_pos c3] at e3
                simp only [c3]
                refine k _ _ ⟨ps', qs', (un false false n p1 q1 σ').2, rfl, by simpa using e2, e3, rfl, mo.1, k2.trans mo.2.1, fun r hr => k3 r (List.mem_cons_of_mem _ hr), fun r hr => k4 r (List.mem_cons_of_mem _ hr), a2, by simp; exact r4⟩
              · rw [if_neg c3] at e3
                have c3' : (un false false n p1 q1 σ').1 = false := by simpa using c3
                rw [← e3] at fin
                simp only [c3']
                simpa using fin
        · rintro ρ M' ⟨ps', qs', σ', e1, e2, e3, rfl, _⟩
          have : ps' = [] ∧ qs' = [] := by
            cases ps' with
            | nil => exact ⟨rfl, List.eq_nil_of_length_eq_zero e2.symm⟩
            | cons x y =>
              cases qs' with
              | nil => simp at e2
              | cons z w => simp at e1
          obtain ⟨rfl, rfl⟩ := this
          simp only [uns] at e3
          rw [← e3] at fin
          simp only [sRet, dC]
          exact fin
    | _ => have := wq.th; simp [Say.th] at this
  | _ => have := wp.th; simp [Say.th] at this
/-! ### new names for the free ones -/
def rn (ν : List Str) (s : Say) : Say := Say.ap (fun x => .name (num (ν.idxOf x + 1))) s
theorem rn_ext {ν t : List Str} {s : Say} (h : ∀ x ∈ s.nms, x ∈ ν) : rn (ν ++ t) s = rn ν s := by
  refine ap_congr s fun x hx => ?_
  rw [List.idxOf_append, if_pos (h x hx)]
def nmM (ν : List Str) : MO := .dK (ν.map .inr) ((nums ν.length).map D.str)
theorem nmM_inj {a b : List Str} (h : nmM a = nmM b) : a = b := by
  simp only [nmM, MO.dK.injEq] at h
  exact (List.map_inj_right (fun x y e => by simpa using e)).mp h.1
theorem val_nm' (x : Str) : ∀ (ν : List Str) (k : Nat), valD (ν.map (.inr : Str → Key)) ((List.range' k ν.length).map fun i => D.str (num (i + 1))) (.inr x) = if x ∈ ν then some (.str (num (k + ν.idxOf x + 1))) else none
  | [], k => rfl
  | y :: ν, k => by
    simp only [List.map_cons, List.length_cons, List.range'_succ, valD, Sum.inr.injEq]
    by_cases c : y = x
    · subst c; simp
    · have c' : ¬ x = y := fun e => c e.symm
      rw [if_neg c, val_nm' x ν (k + 1), List.idxOf_cons, show (y == x) = false by simpa using c]
      by_cases c2 : x ∈ ν
      · simp [c2]; congr 1; omega
      · simp [c2, c']
theorem val_nm (ν : List Str) (x : Str) : valD (ν.map (.inr : Str → Key)) ((nums ν.length).map D.str) (.inr x) = if x ∈ ν then some (.str (num (ν.idxOf x + 1))) else none := by
  have := val_nm' x ν 0
  rw [← List.range_eq_range'] at this
  simpa [nums, Function.comp_def] using this
theorem T_nmsU {U : Un} {S : List Say} : ∀ {σ : Fd}, Good U S σ → ∀ {s : Say}, Tm U S s → ∀ y ∈ (T σ s).nms, y ∈ U.nm
  | [], _, s, hs, y, hy => hs.nms y hy
  | (x, t) :: σ, h, s, hs, y, hy => by
    have h' : Good U S σ := ⟨h.tri.1, fun q hq => h.all q (List.mem_cons_of_mem _ hq)⟩
    simp only [T] at hy
    rcases (s1_nms x _ _ y).mp hy with ⟨k, _⟩ | ⟨_, k⟩
    · exact T_nmsU h' hs y k
    · exact T_nmsU h' (h.all (x, t) (by simp)).2 y k
def resN (σ : Fd) (ν : List Str) (s : Say) : List Str := (T σ s).nms.foldl addN ν
structure ResPre (n : Nat) (U : Un) (S : List Say) (σ : Fd) (ν : List Str) (s : Say) : Prop where
  good : Good U S σ
  ts : Tm U S s
  deep : (T σ s).deep ≤ n
  nod : ν.Nodup
  sub : ∀ x ∈ ν, x ∈ U.nm
  ul : U.nm.length ≤ 900
def sp_res (n : Nat) : Spec := .of (fun (s, a, m) => [Say.d s, .ref a, .ref m]) (fun (s, a, m) M => ∃ (U : Un) (S : List Say) (σ : Fd) (ν : List Str), M a = some (bdM σ) ∧ M m = some (nmM ν) ∧ a ≠ m ∧ ResPre n U S σ ν s)
  fun (s, a, m) M d M' => ∀ σ ν, M a = some (bdM σ) → M m = some (nmM ν) → d = (rn (resN σ ν s) (T σ s)).d ∧ M' = mset M m (nmM (resN σ ν s))
theorem call_res {n : Nat} {U : Un} {S : List Say} {s : Say} {a m : Addr} {σ : Fd} {ν : List Str} {M : Mem} {Q : DK} (h : M a = some (bdM σ)) (h2 : M m = some (nmM ν)) (h3 : a ≠ m) (h1 : ResPre n U S σ ν s) (z : Q (rn (resN σ ν s) (T σ s)).d (mset M m (nmM (resN σ ν s)))) :
    (sp_res n).pre [s.d, .ref a, .ref m] M ∧ ∀ d M', (sp_res n).post [s.d, .ref a, .ref m] M d M' → Q d M' :=
  ⟨⟨(s, a, m), rfl, U, S, σ, ν, h, h2, h3, h1⟩, fun d M' y => by
    obtain ⟨rfl, rfl⟩ := y (s, a, m) rfl σ ν h h2
    exact z⟩
theorem res_none (ds : List D) (M : Mem) : ¬ (sp_res 0).pre ds M := by
  rintro ⟨⟨s, a, m⟩, _, U, S, σ, ν, _, _, _, h⟩
  have := deep_pos (T σ s)
  have := h.deep
  omega
theorem resN_nod {U : Un} {S : List Say} {σ : Fd} {ν : List Str} {s : Say} (hg : Good U S σ) (hs : Tm U S s) (h1 : ν.Nodup) (h2 : ∀ x ∈ ν, x ∈ U.nm) : (resN σ ν s).Nodup ∧ (∀ x ∈ resN σ ν s, x ∈ U.nm) ∧ ∀ x ∈ (T σ s).nms, x ∈ resN σ ν s := by
  refine ⟨foldN_nodup _ _ h1, fun x hx => ?_, fun x hx => (foldN_mem _ _ _).mpr (.inr hx)⟩
  rcases (foldN_mem _ _ _).mp hx with h | h
  · exact h2 x h
  · exact T_nmsU hg hs x h
theorem foldN_pre : ∀ (l acc : List Str), ∃ t, l.foldl addN acc = acc ++ t
  | [], acc => ⟨[], by simp⟩
  | x :: l, acc => by
    obtain ⟨t, e⟩ := addN_pre acc x
    obtain ⟨t', e'⟩ := foldN_pre l (addN acc x)
    exact ⟨t ++ t', by rw [List.foldl_cons, e', e, List.append_assoc]⟩
theorem does_resolved (n : Nat) : Does 5 (t_resolved (sp_res n) sp_now) 3 (sp_res (n + 1)) := by
  refine Does.of ?_ ?_
  · rintro ⟨p, t, a⟩ ⟨p', t', a'⟩ e
    simp only [List.cons.injEq, D.ref.injEq, and_true] at e
    rw [Say.d_inj e.1, e.2.1, e.2.2]
  rintro ⟨s, a, m⟩ M R ⟨U, S, σ, ν, hM, hm, ham, h⟩ ret
  have fin : R (rn (resN σ ν s) (T σ s)).d (mset M m (nmM (resN σ ν s))) := ret _ _ (.now fun τ ξ e e2 => by
    rw [hM] at e
    rw [hm] at e2
    rw [bdM_inj (Option.some.inj e), nmM_inj (Option.some.inj e2)]
    exact ⟨rfl, rfl⟩)
  clear ret
  obtain ⟨hg, hs, hd, hν, hνU, hU⟩ := h
  have nl : ν.length ≤ 900 := Nat.le_trans (nodup_le hν hνU) hU
  simp only [t_resolved, sSeq, sAsg, sRet, sNext, sExpr, sFor, dCall, dA, dA0, dV, dC, dOp, dUn, dTup, dLst, dTest, dNot, dAnd, dOr, dMeth, dCut, dPart, dNoPart, gName, gTup, gCons, gNil, start, List.map, List.length, List.replicate, List.cons_append, List.nil_append, List.getElem?_cons_zero, List.getElem?_cons_succ, List.set]
  refine call_now hM hg hs ?_
  have wt := walk_tm hg hs
  have dn := walk_done hg.tri s
  unfold resN at fin
  rw [← T_walk hg.tri s] at fin hd
  generalize walk σ s = A at wt dn fin hd ⊢
  cases A with
  | name y =>
    rw [T_free σ y (lkp_none (dn y rfl))] at fin
    simp only [name_d]
    refine sIf_c True (by intro Q q; simpa [atI2_0] using q) (fun _ => ?_) (fun c => (c trivial).elim)
    have hv := val_nm ν y
    simp only [Say.nms, List.foldl_cons, List.foldl_nil, rn, Say.ap, addN] at fin
    have e1 : ((ν.length : Int) + 1) = ((ν.length + 1 : Nat) : Int) := by omega
    by_cases c : y ∈ ν
    · rw [if_pos c] at hv fin
      rw [mset_self hm] at fin
      simp only [sSeq, sAsg, sRet, sNext, sExpr, sFor, dCall, dA, dA0, dV, dC, dOp, dUn, dTup, dLst, dTest, dNot, dAnd, dOr, dMeth, dCut, dPart, dNoPart, gName, gTup, gCons, gNil, start, List.map, List.length, List.replicate, List.cons_append, List.nil_append, List.getElem?_cons_zero, List.getElem?_cons_succ, List.set, dSetd, oIx_tup, atI2_1, asK, hm, nmM, Option.isSome_some, true_and, keyOf_str, oLenD, List.length_map, oAdd_int, e1, oStr_nat, hv]
      refine ⟨by omega, by omega, ?_⟩
      simpa [name_d] using fin
    · rw [if_neg c] at hv fin
      simp only [sSeq, sAsg, sRet, sNext, sExpr, sFor, dCall, dA, dA0, dV, dC, dOp, dUn, dTup, dLst, dTest, dNot, dAnd, dOr, dMeth, dCut, dPart, dNoPart, gName, gTup, gCons, gNil, start, List.map, List.length, List.replicate, List.cons_append, List.nil_append, List.getElem?_cons_zero, List.getElem?_cons_succ, List.set, dSetd, oIx_tup, atI2_1, asK, hm, nmM, Option.isSome_some, true_and, keyOf_str, oLenD, List.length_map, oAdd_int, e1, oStr_nat, hv]
      refine ⟨by omega, by omega, ?_⟩
      have e2 : (ν ++ [y]).idxOf y = ν.length := by
        rw [List.idxOf_append, if_neg c]; simp
      rw [e2, name_d] at fin
      have e3 : MO.dK (ν.map (.inr : Str → Key) ++ [.inr y]) ((nums ν.length).map D.str ++ [.str (num (ν.length + 1))]) = nmM (ν ++ [y]) := by
        simp [nmM, nums, List.range_succ]
      rw [e3]
      exact fin
  | made g ps =>
    have hok := wt.ok
    simp only [Say.ok, Bool.and_eq_true, decide_eq_true_eq] at hok
    rw [T_made] at fin hd
    simp only [Say.deep] at hd
    simp only [Say.nms] at fin
    simp only [made_d g ps]
    refine sIf_c False (by intro Q q; simpa [atI3_0, ofString_inj] using q) (fun c => c.elim) (fun _ => ?_)
    simp only [sNext, sSeq, sAsg, sRet, sNext, sExpr, sFor, dCall, dA, dA0, dV, dC, dOp, dUn, dTup, dLst, dTest, dNot, dAnd, dOr, dMeth, dCut, dPart, dNoPart, gName, gTup, gCons, gNil, start, List.map, List.length, List.replicate, List.cons_append, List.nil_append, List.getElem?_cons_zero, List.getElem?_cons_succ, List.set, oIx_tup, atI3_1, dComp, iSeq, atI3_2, wipe]
    refine ⟨by rw [List.length_map]; omega, ?_⟩
    refine compL Say.d (fun acc r M' => ∃ l1 ν', ps = l1 ++ r ∧ ν' = (nmsL (l1.map (T σ))).foldl addN ν ∧ acc = l1.map (fun p => (rn ν' (T σ p)).d) ∧ M' = mset M m (nmM ν') ∧ ν'.Nodup ∧ (∀ x ∈ ν', x ∈ U.nm) ∧ ∀ p ∈ l1, ∀ x ∈ (T σ p).nms, x ∈ ν') ?_ ?_ ps [] M ⟨[], ν, rfl, rfl, rfl, (mset_self hm).symm, hν, hνU, by simp⟩
    · rintro acc p r M' N ⟨l1, ν', rfl, e1, rfl, rfl, k1, k2, k3⟩ k
      have hp := wt.part p (by simp)
      simp only [sSeq, sAsg, sRet, sNext, sExpr, sFor, dCall, dA, dA0, dV, dC, dOp, dUn, dTup, dLst, dTest, dNot, dAnd, dOr, dMeth, dCut, dPart, dNoPart, gName, gTup, gCons, gNil, start, List.map, List.length, List.replicate, List.cons_append, List.nil_append, List.getElem?_cons_zero, List.getElem?_cons_succ, List.set, dYes]
      rw [if_pos trivial]
      have hr := resN_nod (ν := ν') hg hp k1 k2
      refine call_res (σ := σ) (ν := ν') (by rw [mset_ne ham]; exact hM) (mset_same _ _ _) ham ⟨hg, hp, ?_, k1, k2, hU⟩ ?_
      · exact deeps_mem (n := n) (ps := (l1 ++ p :: r).map (T σ)) (by omega) _ (List.mem_map.mpr ⟨p, by simp, rfl⟩)
      rw [mset_mset]
      obtain ⟨t, et⟩ := foldN_pre (T σ p).nms ν'
      refine k _ _ ⟨l1 ++ [p], resN σ ν' p, by simp, ?_, ?_, rfl, hr.1, hr.2.1, ?_⟩
      · rw [List.map_append, nmsL_append, List.foldl_append, ← e1]
        simp [resN, nmsL]
      · rw [List.map_append]
        congr 1
        refine List.map_congr_left fun q hq => ?_
        rw [show resN σ ν' p = ν' ++ t from et, rn_ext (k3 q hq)]
      · intro q hq x hx
        rcases List.mem_append.mp hq with z | z
        · rw [show resN σ ν' p = ν' ++ t from et]
          exact List.mem_append_left _ (k3 q z x hx)
        · rw [List.mem_singleton.mp z] at hx
          exact hr.2.2 x hx
    · rintro acc M' ⟨l1, ν', e0, e1, rfl, rfl, k1, k2, k3⟩
      rw [List.append_nil] at e0
      subst e0
      rw [← e1] at fin
      rw [oTuple_lst]
      simpa [rn, Say.ap, aps_map, made_d, Function.comp_def] using fin
  | _ => have := wt.th; simp [Say.th] at this
def ansD (fs : Fd) (v : Say) (i : Int) : D := .tup [.tup (fs.map fpD), v.d, .tup [.str "skip"], .int i, .tup []]
theorem ansD_inj {fs fs' : Fd} {v v' : Say} {i i' : Int} (h : ansD fs v i = ansD fs' v' i') : fs = fs' ∧ v = v' ∧ i = i' := by
  simp only [ansD, D.tup.injEq, List.cons.injEq, and_true, D.int.injEq, true_and] at h
  exact ⟨fps_inj h.1, Say.d_inj h.2.1, h.2.2⟩
def ownN (fs : Fd) (v : Say) : List Str := (nmsL (fs.map (·.2) ++ [v])).foldl addN []
structure AnsOk (fs : Fd) (v : Say) : Prop where
  all : ∀ s ∈ fs.map (·.2) ++ [v], Fit s
  len : fs.length ≤ 4
def sp_ownN : Spec := .pure (fun (fs, v, i) => [ansD fs v i]) (fun (fs, v, i) => AnsOk fs v) fun (fs, v, i) => .lst ((ownN fs v).map D.str)
theorem call_ownN {fs : Fd} {v : Say} {i : Int} {M : Mem} {Q : DK} (h : AnsOk fs v) (q : Q (.lst ((ownN fs v).map D.str)) M) : sp_ownN.pre [ansD fs v i] M ∧ ∀ d M', sp_ownN.post [ansD fs v i] M d M' → Q d M' :=
  ⟨⟨(fs, v, i), rfl, h⟩, fun d M' z => by
    obtain ⟨rfl, rfl⟩ := z (fs, v, i) rfl
    exact q⟩
theorem does_own_names : Does 5 (t_own_names sp_names) 1 sp_ownN := by
  refine Does.of ?_ ?_
  · rintro ⟨fs, v, i⟩ ⟨fs', v', i'⟩ e
    simp only [List.cons.injEq, and_true] at e
    obtain ⟨rfl, rfl, rfl⟩ := ansD_inj e
    rfl
  rintro ⟨fs, v, i⟩ M R ⟨h1, h2⟩ ret
  have hz := sizes_le4 (fs.map (·.2) ++ [v]) h1
  simp only [List.length_append, List.length_map, List.length_singleton] at hz
  have hn := nmsL_len (fs.map (·.2) ++ [v])
  have hz2 : (fs.length + 1) * 4000 ≤ 20000 := by omega
  simp only [t_own_names, sSeq, sAsg, sRet, sNext, sExpr, sFor, dCall, dA, dA0, dV, dC, dOp, dUn, dTup, dLst, dTest, dNot, dAnd, dOr, dMeth, dCut, dPart, dNoPart, gName, gTup, gCons, gNil, start, List.map, List.length, List.replicate, List.cons_append, List.nil_append, List.getElem?_cons_zero, List.getElem?_cons_succ, List.set, dNew]
  intro p hp
  simp only [dComp, iSeq, wipe, sSeq, sAsg, sRet, sNext, sExpr, sFor, dCall, dA, dA0, dV, dC, dOp, dUn, dTup, dLst, dTest, dNot, dAnd, dOr, dMeth, dCut, dPart, dNoPart, gName, gTup, gCons, gNil, start, List.map, List.length, List.replicate, List.cons_append, List.nil_append, List.getElem?_cons_zero, List.getElem?_cons_succ, List.set, ansD, oIx_tup, show atI [D.tup (fs.map fpD), v.d, .tup [.str "skip"], .int i, .tup []] 0 = some (.tup (fs.map fpD)) from rfl, show atI [D.tup (fs.map fpD), v.d, .tup [.str "skip"], .int i, .tup []] 1 = some v.d from rfl]
  refine ⟨by rw [List.length_map]; omega, ?_⟩
  refine compF fpD (fun f => f.2.d) fs ?_ ?_
  · intro f _ R r
    simpa [fpD, atI2_1] using r
  simp only [oAdd_ll]
  refine ⟨by simp; omega, ?_⟩
  have el : (fs.map fun f => f.2.d) ++ [v.d] = (fs.map (·.2) ++ [v]).map Say.d := by simp
  rw [el]
  refine loopI Say.d (fun l ρ M' => ∃ pre, fs.map (·.2) ++ [v] = pre ++ l ∧ M' = mset M p (.lst (((nmsL pre).foldl addN []).map D.str)) ∧ ρ[1]? = some (some (.ref p)) ∧ 4 < ρ.length) ?_ ?_ _ _ _ ⟨[], rfl, by simp [nmsL], rfl, by simp⟩
  · rintro s r ρ M' N ⟨pre, e1, rfl, r1, r4⟩ k
    have hs : Fit s := h1 s (by rw [e1]; simp)
    have e2 : nmsL (fs.map (·.2) ++ [v]) = nmsL pre ++ (s.nms ++ nmsL r) := by rw [e1, nmsL_append]; rfl
    have l1 := congrArg List.length e2
    simp only [List.length_append] at l1
    have l2 := foldN_len (nmsL pre) []
    have l3 := foldN_len s.nms []
    simp only [List.length_nil, Nat.zero_add] at l2 l3
    have g1 : (ρ.set 2 (some s.d))[1]? = some (some (.ref p)) := by rw [List.getElem?_set_ne (by decide)]; exact r1
    have g2 : (ρ.set 2 (some s.d))[2]? = some (some s.d) := List.getElem?_set_self (by omega)
    simp only [sExpr, dMeth, dV, gName, g1, asL_ref, mset_same, Option.isSome_some, true_and, dComp, iSeq, dCall, dA, dA0, g2]
    refine call_names hs ?_
    rw [names_eq]
    refine ⟨by rw [List.length_map]; omega, ?_⟩
    refine compT D.str D.str (fun x => decide (x ∉ (nmsL pre).foldl addN [])) _ ?_ ?_
    · intro x hx R N' q1 q2
      have w1 : ((wipe (ρ.set 2 (some s.d)) [4]).set 4 (some (D.str x)))[1]? = some (some (.ref p)) := by
        simp only [wipe]
        rw [List.getElem?_set_ne (by decide), List.getElem?_set_ne (by decide)]; exact g1
      have w4 : ((wipe (ρ.set 2 (some s.d)) [4]).set 4 (some (D.str x)))[4]? = some (some (.str x)) := List.getElem?_set_self (by simp; omega)
      simp only [gName, dTest, dOp, dV, w1, w4, oNotIn, inB_ref, mset_same, flat_str, all_flat, hasD_str, true_and]
      by_cases c : x ∈ (nmsL pre).foldl addN []
      · simpa [c] using q2 (by simp [c])
      · simpa [c] using q1 (by simp [c])
    · have l4 : (((s.nms.foldl addN []).filter fun x => decide (x ∉ (nmsL pre).foldl addN [])).length) ≤ s.nms.length := Nat.le_trans (List.length_filter_le _ _) l3
      simp only [mExtend, mset_same, List.length_map]
      refine ⟨by omega, ?_⟩
      rw [mset_mset]
      refine k _ _ ⟨pre ++ [s], by rw [e1]; simp, ?_, g1, by simp; exact r4⟩
      congr 2
      rw [← List.map_append, nmsL_snoc, List.foldl_append, ← foldN_filter _ _ (foldN_nodup _ _ (by simp)), foldN_twice]
  · rintro ρ M' ⟨pre, e1, rfl, r1, r4⟩
    rw [List.append_nil] at e1
    subst e1
    simp only [sRet, dV, r1]
    exact ret _ _ ⟨_, M, ⟨Sub.lst hp, .inr ⟨p, _, rfl, mset_same _ _ _, hp, rfl⟩⟩, rfl, rfl⟩
/-! ### the fills of two answers -/
mutual
theorem sd_arw (ar : Str → Nat) (c : Str) : ∀ s : Say, (Say.sd c s).arw ar = s.arw ar
  | .name _ => rfl
  | .made g ps => by simp only [Say.sd, Say.arw, sds_length, sds_arw ar c ps]
  | .call _ _ => rfl
  | .either _ _ => rfl
  | .same _ _ => rfl
  | .skip => rfl
theorem sds_arw (ar : Str → Nat) (c : Str) : ∀ ps : List Say, arws ar (sds c ps) = arws ar ps
  | [] => rfl
  | p :: ps => by simp only [sds, arws, sd_arw ar c p, sds_arw ar c ps]
end
structure SideOk (ar : Str → Nat) (fs : Fd) (k : Nat) : Prop where
  th : ∀ f ∈ fs, f.2.th = true
  ok : ∀ f ∈ fs, f.2.ok = true
  deep : ∀ f ∈ fs, f.2.deep ≤ 4
  arw : ∀ f ∈ fs, f.2.arw ar = true
  ord : ordN 0 (nmsL (fs.map (·.2))) k
  k : k ≤ 400
  len : fs.length ≤ 4
  nm : ∀ f ∈ fs, nmOk f.1 = true
def sds2 (c : Str) (fs : Fd) : List Say := fs.map fun f => f.2.sd c
def unOf (ar : Str → Nat) (k l : Nat) : Un := ⟨(nums k).map (("a" : Str) ++ ·) ++ (nums l).map (("b" : Str) ++ ·), ar⟩
def inOf (fs gs : Fd) : List Say := inns (sds2 "a" fs) ++ inns (sds2 "b" gs)
theorem ord_in : ∀ {l : List Str} {n m : Nat}, ordN n l m → ∀ x ∈ l, ∃ i, i < m ∧ x = num (i + 1)
  | y :: l, n, m, h, x, hx => by
    rcases h with ⟨i, h1, h2, h3⟩ | ⟨h1, h2⟩
    · rcases List.mem_cons.mp hx with rfl | hx
      · exact ⟨i, Nat.lt_of_lt_of_le h1 (ordN_le h3), h2⟩
      · exact ord_in h3 x hx
    · rcases List.mem_cons.mp hx with rfl | hx
      · have := ordN_le h2
        exact ⟨n, by omega, h1⟩
      · exact ord_in h2 x hx
theorem SideOk.nms {ar : Str → Nat} {fs : Fd} {k : Nat} (h : SideOk ar fs k) {f : Str × Say} (hf : f ∈ fs) : ∀ x ∈ f.2.nms, ∃ i, i < k ∧ x = num (i + 1) := fun x hx =>
  ord_in h.ord x ((nmsL_mem x _).mpr ⟨f.2, List.mem_map.mpr ⟨f, hf, rfl⟩, hx⟩)
theorem tm_a {ar : Str → Nat} {fs gs : Fd} {k l : Nat} (h : SideOk ar fs k) : ∀ p ∈ sds2 "a" fs, Tm (unOf ar k l) (inOf fs gs) p := by
  intro p hp
  obtain ⟨f, hf, rfl⟩ := List.mem_map.mp hp
  have hk := h.k
  refine ⟨by rw [sd_th]; exact h.th f hf, sd_ok _ _ (h.ok f hf) ?_, by rw [sd_deep]; exact h.deep f hf, ?_, ?_, by rw [sd_arw]; exact h.arw f hf⟩
  · intro x hx
    obtain ⟨i, hi, rfl⟩ := h.nms hf x hx
    exact nm_a ⟨i + 1, by omega⟩
  · intro y hy
    rw [sd_nms] at hy
    obtain ⟨x, hx, rfl⟩ := List.mem_map.mp hy
    obtain ⟨i, hi, rfl⟩ := h.nms hf x hx
    exact List.mem_append_left _ (List.mem_map.mpr ⟨num (i + 1), List.mem_map.mpr ⟨i, List.mem_range.mpr hi, rfl⟩, rfl⟩)
  · intro z hz
    exact List.mem_append_left _ ((inns_mem z _).mpr ⟨_, hp, hz⟩)
theorem tm_b {ar : Str → Nat} {fs gs : Fd} {k l : Nat} (h : SideOk ar gs l) : ∀ p ∈ sds2 "b" gs, Tm (unOf ar k l) (inOf fs gs) p := by
  intro p hp
  obtain ⟨f, hf, rfl⟩ := List.mem_map.mp hp
  have hk := h.k
  refine ⟨by rw [sd_th]; exact h.th f hf, sd_ok _ _ (h.ok f hf) ?_, by rw [sd_deep]; exact h.deep f hf, ?_, ?_, by rw [sd_arw]; exact h.arw f hf⟩
  · intro x hx
    obtain ⟨i, hi, rfl⟩ := h.nms hf x hx
    exact nm_b ⟨i + 1, by omega⟩
  · intro y hy
    rw [sd_nms] at hy
    obtain ⟨x, hx, rfl⟩ := List.mem_map.mp hy
    obtain ⟨i, hi, rfl⟩ := h.nms hf x hx
    exact List.mem_append_right _ (List.mem_map.mpr ⟨num (i + 1), List.mem_map.mpr ⟨i, List.mem_range.mpr hi, rfl⟩, rfl⟩)
  · intro z hz
    exact List.mem_append_right _ ((inns_mem z _).mpr ⟨_, hp, hz⟩)
theorem inns_len {ps : List Say} (h : ∀ p ∈ ps, p.ok = true ∧ p.deep ≤ 4) : (inns ps).length ≤ ps.length * 13 := by
  induction ps with
  | nil => simp [inns]
  | cons p ps ih =>
    have h1 := h p (by simp)
    have a := (inn_len 3).1 p h1.1 h1.2
    have b := ih fun q hq => h q (List.mem_cons_of_mem _ hq)
    have e : ib 3 = 13 := rfl
    simp only [inns, List.length_append, List.length_cons, Nat.succ_mul]
    omega
theorem inOf_len {ar : Str → Nat} {fs gs : Fd} {k l : Nat} (h : SideOk ar fs k) (h2 : SideOk ar gs l) : (inOf fs gs).length ≤ 104 := by
  have a := inns_len (ps := sds2 "a" fs) fun p hp => ⟨(tm_a (l := l) (gs := gs) h p hp).ok, (tm_a (l := l) (gs := gs) h p hp).deep⟩
  have b := inns_len (ps := sds2 "b" gs) fun p hp => ⟨(tm_b (k := k) (fs := fs) h2 p hp).ok, (tm_b (k := k) (fs := fs) h2 p hp).deep⟩
  have := h.len
  have := h2.len
  simp only [sds2, List.length_map] at a b
  simp only [inOf, List.length_append, sds2]
  omega
theorem unOf_len (ar : Str → Nat) {k l : Nat} (h : k ≤ 400) (h2 : l ≤ 400) : (unOf ar k l).nm.length ≤ 900 := by
  simp [unOf, nums]
  omega
structure ComPre (ar : Str → Nat) (fs gs : Fd) (k l : Nat) : Prop where
  a : SideOk ar fs k
  b : SideOk ar gs l
  names : fs.map (·.1) = gs.map (·.1)
theorem ComPre.glen {ar : Str → Nat} {fs gs : Fd} {k l : Nat} (h : ComPre ar fs gs k l) : fs.length = gs.length := by
  have := congrArg List.length h.names
  simpa using this
abbrev comB (sw go : Bool) (j : Nat) (x : D) : DS := sIf (dNot (dTest (dCall (sp_un sw go 105) (dA (dCall (sp_side 6) (dA (dOp oIx (dV j) (dC (.int 1))) (dA (dC (.str "a")) dA0))) (dA (dCall (sp_side 6) (dA (dOp oIx (dV (j + 1)) (dC (.int 1))) (dA (dC (.str "b")) dA0))) (dA (dV 2) dA0)))))) (sRet (dC x)) sNext
abbrev ujR (sw go : Bool) (fs gs : Fd) : Bool × Fd := uj sw go 105 (sds2 "a" fs) (sds2 "b" gs) []
theorem com_loop {sw go : Bool} (j : Nat) (hj : 2 < j) {ar : Str → Nat} {fs gs : Fd} {k l : Nat} (h : ComPre ar fs gs k l) (x : D) (E : DEnds) (M : Mem) (a : Addr) (ρ : Env) (hρ : ρ[2]? = some (some (.ref a))) (hl : j + 1 < ρ.length)
    (Iv : Env → Prop) (iv0 : Iv ρ) (iv : ∀ ρ x y, Iv ρ → Iv ((ρ.set j x).set (j + 1) y))
    (bad : ∀ σ, (ujR sw go fs gs).1 = false → E.rt x (mset M a (bdM σ)))
    (good : ∀ ρ, Iv ρ → ρ[2]? = some (some (.ref a)) → (ujR sw go fs gs).1 = true → Good (unOf ar k l) (inOf fs gs) (ujR sw go fs gs).2 → E.nx ρ (mset M a (bdM (ujR sw go fs gs).2))) :
    sLoop (gTup (gCons (gName j) (gCons (gName (j + 1)) gNil))) (comB sw go j x) ((fs.zip gs).map fun p => .tup [fpD p.1, fpD p.2]) E ρ (mset M a (bdM [])) := by
  have gl := h.glen
  have hS := inOf_len h.a h.b
  have hU := unOf_len ar h.a.k h.b.k
  refine loopI (fun p : (Str × Say) × (Str × Say) => .tup [fpD p.1, fpD p.2]) (fun r ρ M' => ∃ fs' gs' σ', r = fs'.zip gs' ∧ fs'.length = gs'.length ∧ uj sw go 105 (sds2 "a" fs') (sds2 "b" gs') σ' = ujR sw go fs gs ∧ M' = mset M a (bdM σ') ∧ Good (unOf ar k l) (inOf fs gs) σ' ∧ (∀ f ∈ fs', f ∈ fs) ∧ (∀ f ∈ gs', f ∈ gs) ∧ Iv ρ ∧ ρ[2]? = some (some (.ref a)) ∧ j + 1 < ρ.length) ?_ ?_ (fs.zip gs) ρ _ ⟨fs, gs, [], rfl, gl, rfl, rfl, Good.nil _ _, fun _ h => h, fun _ h => h, iv0, hρ, hl⟩
  · rintro ⟨f1, g1⟩ r ρ M' N ⟨fs', gs', σ', e1, e2, e3, rfl, k1, k2, k3, k4, k5, k6⟩ kk
    cases fs' with
    | nil => simp at e1
    | cons f2 fs' =>
      cases gs' with
      | nil => simp at e1
      | cons g2 gs' =>
        simp only [List.zip_cons_cons, List.cons.injEq, Prod.mk.injEq] at e1
        obtain ⟨⟨rfl, rfl⟩, rfl⟩ := e1
        simp only [sds2, List.map_cons, uj] at e3
        have m1 := k2 f1 (by simp)
        have m2 := k3 g1 (by simp)
        have t1 := tm_a (l := l) (gs := gs) h.a (f1.2.sd "a") (List.mem_map.mpr ⟨f1, m1, rfl⟩)
        have t2 := tm_b (k := k) (fs := fs) h.b (g1.2.sd "b") (List.mem_map.mpr ⟨g1, m2, rfl⟩)
        have mo := (un_good sw go _ _ 105).1 _ _ σ' k1 t1 t2
        have a2 : (((ρ.set j (some (fpD f1))).set (j + 1) (some (fpD g1))))[2]? = some (some (.ref a)) := by
          rw [List.getElem?_set_ne (by omega), List.getElem?_set_ne (by omega)]; exact k5
        have a5 : (((ρ.set j (some (fpD f1))).set (j + 1) (some (fpD g1))))[j]? = some (some (fpD f1)) := by
          rw [List.getElem?_set_ne (by omega), List.getElem?_set_self (by omega)]
        have a6 : (((ρ.set j (some (fpD f1))).set (j + 1) (some (fpD g1))))[j + 1]? = some (some (fpD g1)) := by
          rw [List.getElem?_set_self (by rw [List.length_set]; omega)]
        have i2 := iv ρ (some (fpD f1)) (some (fpD g1)) k4
        have f0 : ∀ (f : Str × Say) (M : Mem) (Q : DK), oIx (fpD f) (.int 1) M Q = Q f.2.d M := fun f M Q => rfl
        have d1 := h.a.deep f1 m1
        have d2 := h.b.deep g1 m2
        simp only [comB, gTup, gCons, gName, gNil, sIf, dNot, dTest, dCall, dA, dV, dA0, dOp, dC, a2, a5, a6, f0]
        refine call_side (h.a.th f1 m1) (h.a.ok f1 m1) (by omega) (by decide) ?_
        refine call_side (h.b.th g1 m2) (h.b.ok g1 m2) (by omega) (by decide) ?_
        refine call_un (σ := σ') (mset_same _ _ _) ⟨k1, t1, t2, (bnd_start σ' t1).mono (by omega), (bnd_start σ' t2).mono (by omega), hU, hS⟩ ?_
        rw [mset_mset]
        by_cases c3 : (un sw go 105 (f1.2.sd "a") (g1.2.sd "b") σ').1 = true
        · rw [if_pos c3] at e3
          simp only [c3]
          refine kk _ _ ⟨fs', gs', (un sw go 105 (f1.2.sd "a") (g1.2.sd "b") σ').2, rfl, by simpa using e2, e3, rfl, mo.1, fun r hr => k2 r (List.mem_cons_of_mem _ hr), fun r hr => k3 r (List.mem_cons_of_mem _ hr), i2, a2, by simp; exact k6⟩
        · rw [if_neg c3] at e3
          have c3' : (un sw go 105 (f1.2.sd "a") (g1.2.sd "b") σ').1 = false := by simpa using c3
          have := bad (un sw go 105 (f1.2.sd "a") (g1.2.sd "b") σ').2 (by rw [← e3])
          simp only [c3']
          simpa using this
  · rintro ρ M' ⟨fs', gs', σ', e1, e2, e3, rfl, k1, _, _, k4, k5, _⟩
    have : fs' = [] ∧ gs' = [] := by
      cases fs' with
      | nil => exact ⟨rfl, List.eq_nil_of_length_eq_zero e2.symm⟩
      | cons x y =>
        cases gs' with
        | nil => simp at e2
        | cons z w => simp at e1
    obtain ⟨rfl, rfl⟩ := this
    simp only [sds2, List.map_nil, uj] at e3
    have z := good ρ k4 k5 (by rw [← e3]) (by rw [← e3]; exact k1)
    rw [← e3] at z
    exact z
/-! ### can they be made alike? -/
def sp_can : Spec := .pure (fun (fs, v, i, gs, w, j) => [ansD fs v i, ansD gs w j]) (fun (fs, v, i, gs, w, j) => ∃ ar k l, ComPre ar fs gs k l) fun (fs, v, i, gs, w, j) => .bl (ujR false false fs gs).1
theorem call_can {fs gs : Fd} {v w : Say} {i j : Int} {ar : Str → Nat} {k l : Nat} {M : Mem} {Q : DK} (h : ComPre ar fs gs k l) (q : Q (.bl (ujR false false fs gs).1) M) : sp_can.pre [ansD fs v i, ansD gs w j] M ∧ ∀ d M', sp_can.post [ansD fs v i, ansD gs w j] M d M' → Q d M' :=
  ⟨⟨(fs, v, i, gs, w, j), rfl, ar, k, l, h⟩, fun d M' z => by
    obtain ⟨rfl, rfl⟩ := z (fs, v, i, gs, w, j) rfl
    exact q⟩
theorem ans_inj2 : ∀ a a' : Fd × Say × Int × Fd × Say × Int, (fun (fs, v, i, gs, w, j) => [ansD fs v i, ansD gs w j]) a = (fun (fs, v, i, gs, w, j) => [ansD fs v i, ansD gs w j]) a' → a = a' := by
  rintro ⟨fs, v, i, gs, w, j⟩ ⟨fs', v', i', gs', w', j'⟩ e
  simp only [List.cons.injEq, and_true] at e
  obtain ⟨rfl, rfl, rfl⟩ := ansD_inj e.1
  obtain ⟨rfl, rfl, rfl⟩ := ansD_inj e.2
  rfl
theorem ans0 (fs : Fd) (v : Say) (i : Int) (M : Mem) (Q : DK) : oIx (ansD fs v i) (.int 0) M Q = Q (.tup (fs.map fpD)) M := rfl
theorem sub_bd {M : Mem} {a : Addr} {σ : Fd} (h : M a = none) : Sub M (mset M a (bdM σ)) := Sub.new (o := bdM σ) h trivial
theorem does_can : Does 5 (t__law_can (sp_un false false 105) (sp_side 6)) 2 sp_can := by
  refine Does.of ans_inj2 ?_
  rintro ⟨fs, v, i, gs, w, j⟩ M R ⟨ar, k, l, h⟩ ret
  have fin : ∀ a σ, M a = none → R (.bl (ujR false false fs gs).1) (mset M a (bdM σ)) := fun a σ ha => ret _ _ (.same (sub_bd ha) ⟨rfl, rfl⟩)
  clear ret
  simp only [t__law_can, sSeq, sAsg, sRet, sNext, sExpr, sFor, dCall, dA, dA0, dV, dC, dOp, dUn, dTup, dLst, dTest, dNot, dAnd, dOr, dMeth, dCut, dPart, dNoPart, gName, gTup, gCons, gNil, start, List.map, List.length, List.replicate, List.cons_append, List.nil_append, List.getElem?_cons_zero, List.getElem?_cons_succ, List.set, dNewD]
  intro a ha
  have e0 : MO.dK [] [] = bdM [] := rfl
  simp only [iZip, sSeq, sAsg, sRet, sNext, sExpr, sFor, dCall, dA, dA0, dV, dC, dOp, dUn, dTup, dLst, dTest, dNot, dAnd, dOr, dMeth, dCut, dPart, dNoPart, gName, gTup, gCons, gNil, start, List.map, List.length, List.replicate, List.cons_append, List.nil_append, List.getElem?_cons_zero, List.getElem?_cons_succ, List.set, ans0, e0]
  rw [zipD_map]
  refine com_loop (sw := false) (go := false) 3 (by decide) h (.bl false) _ M a _ rfl (by simp) (fun _ => True) trivial (fun _ _ _ _ => trivial) ?_ ?_
  · intro σ e
    have := fin a σ ha
    rw [e] at this
    exact this
  · intro ρ _ _ e _
    have := fin a (ujR false false fs gs).2 ha
    rw [e] at this
    simpa using this
/-! ### what is in common -/
def halfR (c : Str) (σ : Fd) (ν : List Str) (xs : List Str) : Fd := xs.map fun x => (x, rn ν (T σ (.name (c ++ x))))
def nuOf (c : Str) (σ : Fd) (ν : List Str) (xs : List Str) : List Str := (nmsL (xs.map fun x => T σ (.name (c ++ x)))).foldl addN ν
theorem res_comp {U : Un} {S : List Say} {σ : Fd} (hg : Good U S σ) (hU : U.nm.length ≤ 900) (hS : S.length ≤ 104) (c : Str) (hc : c.length ≤ 10) (xs : List Str) (hx : ∀ x ∈ xs, x.length ≤ 10 ∧ Tm U S (.name (c ++ x))) {a m : Addr} (ham : a ≠ m)
    (ν : List Str) (hν : ν.Nodup) (hνU : ∀ x ∈ ν, x ∈ U.nm) (ρ : Env) (r2 : ρ[2]? = some (some (.ref a))) (r6 : ρ[6]? = some (some (.ref m))) (r9 : ρ[9]? = some (some (.str c))) (rl : 11 < ρ.length) (M : Mem) (hM : M a = some (bdM σ)) (hm : M m = some (nmM ν)) (Q : DK)
    (q : (nuOf c σ ν xs).Nodup → (∀ x ∈ nuOf c σ ν xs, x ∈ U.nm) → (∀ x ∈ xs, ∀ y ∈ (T σ (.name (c ++ x))).nms, y ∈ nuOf c σ ν xs) → Q (.lst ((halfR c σ (nuOf c σ ν xs) xs).map fpD)) (mset M m (nmM (nuOf c σ ν xs)))) :
    dCompL (gName 11) dYes (dTup (dA (dV 11) (dA (dCall (sp_res 105) (dA (dTup (dA (dC (.str "name")) (dA (dOp oAdd (dV 9) (dV 11)) dA0))) (dA (dV 2) (dA (dV 6) dA0)))) dA0))) ρ (xs.map D.str) [] M Q := by
  refine compL D.str (fun acc r M' => ∃ l1 ν', xs = l1 ++ r ∧ ν' = nuOf c σ ν l1 ∧ acc = (halfR c σ ν' l1).map fpD ∧ M' = mset M m (nmM ν') ∧ ν'.Nodup ∧ (∀ x ∈ ν', x ∈ U.nm) ∧ ∀ x ∈ l1, ∀ y ∈ (T σ (.name (c ++ x))).nms, y ∈ ν') ?_ ?_ xs [] M ⟨[], ν, rfl, rfl, rfl, (mset_self hm).symm, hν, hνU, by simp⟩
  · rintro acc x r M' N ⟨l1, ν', rfl, e1, rfl, rfl, k1, k2, k3⟩ k
    obtain ⟨hl, hp⟩ := hx x (by simp)
    have a2 : (ρ.set 11 (some (D.str x)))[2]? = some (some (.ref a)) := by rw [List.getElem?_set_ne (by decide)]; exact r2
    have a6 : (ρ.set 11 (some (D.str x)))[6]? = some (some (.ref m)) := by rw [List.getElem?_set_ne (by decide)]; exact r6
    have a9 : (ρ.set 11 (some (D.str x)))[9]? = some (some (.str c)) := by rw [List.getElem?_set_ne (by decide)]; exact r9
    have a11 : (ρ.set 11 (some (D.str x)))[11]? = some (some (.str x)) := List.getElem?_set_self rl
    simp only [gName, dYes, dTup, dA, dA0, dCall, dV, dC, dOp, a2, a6, a9, a11, oAdd_str]
    rw [if_pos trivial]
    refine ⟨by omega, ?_⟩
    have hr := resN_nod (ν := ν') hg hp k1 k2
    rw [← name_d (c ++ x)]
    refine call_res (σ := σ) (ν := ν') (by rw [mset_ne ham]; exact hM) (mset_same _ _ _) ham ⟨hg, hp, ?_, k1, k2, hU⟩ ?_
    · have := T_deepU hg hp
      omega
    rw [mset_mset]
    obtain ⟨t, et⟩ := foldN_pre (T σ (.name (c ++ x))).nms ν'
    refine k _ _ ⟨l1 ++ [x], resN σ ν' (.name (c ++ x)), by simp, ?_, ?_, rfl, hr.1, hr.2.1, ?_⟩
    · rw [e1]
      simp only [nuOf, List.map_append, nmsL_append, List.foldl_append, resN]
      simp [nmsL]
    · simp only [halfR, List.map_append, List.map_map]
      congr 1
      refine List.map_congr_left fun y hy => ?_
      simp only [Function.comp_apply]
      rw [show resN σ ν' (.name (c ++ x)) = ν' ++ t from et, rn_ext (k3 y hy)]
    · intro y hy z hz
      rcases List.mem_append.mp hy with w | w
      · rw [show resN σ ν' (.name (c ++ x)) = ν' ++ t from et]
        exact List.mem_append_left _ (k3 y w z hz)
      · rw [List.mem_singleton.mp w] at hz
        exact hr.2.2 z hz
  · rintro acc M' ⟨l1, ν', e0, e1, rfl, rfl, k1, k2, k3⟩
    rw [List.append_nil] at e0
    subst e0
    subst e1
    exact q k1 k2 k3
structure AnsPre (ar : Str → Nat) (fs : Fd) (v : Say) (k : Nat) : Prop where
  side : SideOk ar fs k
  vn : v.nms = []
  fit : Fit v
theorem AnsPre.ok {ar : Str → Nat} {fs : Fd} {v : Say} {k : Nat} (h : AnsPre ar fs v k) : AnsOk fs v := by
  refine ⟨fun s hs => ?_, h.side.len⟩
  rcases List.mem_append.mp hs with z | z
  · obtain ⟨f, hf, rfl⟩ := List.mem_map.mp z
    have o := h.side.ok f hf
    have d := h.side.deep f hf
    have := size_of o d
    exact ⟨o, by omega, by have e : Z 4 = 40 := rfl; omega⟩
  · rw [List.mem_singleton.mp z]; exact h.fit
theorem AnsPre.own {ar : Str → Nat} {fs : Fd} {v : Say} {k : Nat} (h : AnsPre ar fs v k) : ownN fs v = nums k := by
  have hk := h.side.k
  rw [ownN, nmsL_snoc, h.vn, List.append_nil]
  exact ord_nums _ 0 k h.side.ord (by omega)
theorem num_tm_a {ar : Str → Nat} {k l : Nat} {S : List Say} (hk : k ≤ 400) : ∀ x ∈ nums k, x.length ≤ 10 ∧ Tm (unOf ar k l) S (.name (("a" : Str) ++ x)) := by
  intro x hx
  obtain ⟨i, hi, rfl⟩ := List.mem_map.mp hx
  have hi' := List.mem_range.mp hi
  have := num_len ⟨i + 1, by omega⟩
  refine ⟨by simp only at this; omega, rfl, nm_a ⟨i + 1, by omega⟩, by simp [Say.deep], ?_, by simp [Say.inn], rfl⟩
  intro y hy
  simp only [Say.nms, List.mem_singleton] at hy
  rw [hy]
  exact List.mem_append_left _ (List.mem_map.mpr ⟨_, hx, rfl⟩)
theorem num_tm_b {ar : Str → Nat} {k l : Nat} {S : List Say} (hk : l ≤ 400) : ∀ x ∈ nums l, x.length ≤ 10 ∧ Tm (unOf ar k l) S (.name (("b" : Str) ++ x)) := by
  intro x hx
  obtain ⟨i, hi, rfl⟩ := List.mem_map.mp hx
  have hi' := List.mem_range.mp hi
  have := num_len ⟨i + 1, by omega⟩
  refine ⟨by simp only at this; omega, rfl, nm_b ⟨i + 1, by omega⟩, by simp [Say.deep], ?_, by simp [Say.inn], rfl⟩
  intro y hy
  simp only [Say.nms, List.mem_singleton] at hy
  rw [hy]
  exact List.mem_append_right _ (List.mem_map.mpr ⟨_, hx, rfl⟩)
def nu1 (fs gs : Fd) (v : Say) : List Str := nuOf "a" (ujR true true fs gs).2 [] (ownN fs v)
def nu2 (fs gs : Fd) (v w : Say) : List Str := nuOf "b" (ujR true true fs gs).2 (nu1 fs gs v) (ownN gs w)
def comV (fs gs : Fd) (v w : Say) : D := if (ujR true true fs gs).1 = true then .tup [.tup ((halfR "a" (ujR true true fs gs).2 (nu1 fs gs v) (ownN fs v)).map fpD), .tup ((halfR "b" (ujR true true fs gs).2 (nu2 fs gs v w) (ownN gs w)).map fpD)] else .non
structure Com2 (ar : Str → Nat) (fs gs : Fd) (v w : Say) (k l : Nat) : Prop where
  a : AnsPre ar fs v k
  b : AnsPre ar gs w l
  names : fs.map (·.1) = gs.map (·.1)
theorem Com2.pre {ar : Str → Nat} {fs gs : Fd} {v w : Say} {k l : Nat} (h : Com2 ar fs gs v w k l) : ComPre ar fs gs k l := ⟨h.a.side, h.b.side, h.names⟩
def sp_com : Spec := .pure (fun (fs, v, i, gs, w, j) => [ansD fs v i, ansD gs w j]) (fun (fs, v, i, gs, w, j) => ∃ ar k l, Com2 ar fs gs v w k l) fun (fs, v, i, gs, w, j) => comV fs gs v w
theorem call_com {fs gs : Fd} {v w : Say} {i j : Int} {ar : Str → Nat} {k l : Nat} {M : Mem} {Q : DK} (h : Com2 ar fs gs v w k l) (q : Q (comV fs gs v w) M) : sp_com.pre [ansD fs v i, ansD gs w j] M ∧ ∀ d M', sp_com.post [ansD fs v i, ansD gs w j] M d M' → Q d M' :=
  ⟨⟨(fs, v, i, gs, w, j), rfl, ar, k, l, h⟩, fun d M' z => by
    obtain ⟨rfl, rfl⟩ := z (fs, v, i, gs, w, j) rfl
    exact q⟩
theorem eq_strs (l : List Str) (h : ∀ x ∈ l, strOk x = true) (M : Mem) (Q : BK) : eqB (.lst (l.map D.str)) (.lst (l.map D.str)) M Q = Q true M := by
  have hc := cmp_strs l h
  have c1 : cmpOk (.lst (l.map D.str)) = true := by
    have := hc.2
    simp [cmpOk, plain, depth, hc.1]
    omega
  have es : ∀ l : List Str, eqvs (l.map D.str) (l.map D.str) = true := by
    intro l
    induction l with
    | nil => simp
    | cons x r ih => simp [ih]
  show (cmpOk (.lst (l.map D.str)) = true ∧ cmpOk (.lst (l.map D.str)) = true ∧ Q (eqv (.lst (l.map D.str)) (.lst (l.map D.str))) M) = _
  simp only [c1, true_and, eqv_lst, es]
theorem sub3 {M : Mem} {a m h : Addr} {σ : Fd} {ν : List Str} {xs : List D} (ha : M a = none) (hm : (mset M a (bdM σ)) m = none) (hh : (mset (mset M a (bdM σ)) m (nmM ν)) h = none) : Sub M (mset (mset (mset M a (bdM σ)) m (nmM ν)) h (.lst xs)) :=
  (sub_bd ha).trans ((Sub.new (o := nmM ν) hm trivial).trans (Sub.lst hh))
theorem wipe11 {ρ : Env} {i : Nat} (h : i ≠ 11) : (wipe ρ [11])[i]? = ρ[i]? := by
  simp only [wipe]
  rw [List.getElem?_set_ne (by omega)]
theorem for_i {ti : DI} {g : DG} {b : DS} {E : DEnds} {ρ : Env} {M : Mem} (h : ti ρ M fun ds M1 => sLoop g b ds E ρ M1) : sFor ti g b E ρ M := h
theorem zip_i {t1 t2 : DE} {ρ : Env} {M : Mem} {xs ys : List D} {K : List D → Mem → Prop} (h1 : ∀ Q : DK, Q (.tup xs) M → t1 ρ M Q) (h2 : ∀ Q : DK, Q (.tup ys) M → t2 ρ M Q) (k : K (zipD xs ys) M) : iZip t1 t2 ρ M K := by
  simp only [iZip]
  refine h1 _ ?_
  refine h2 _ ?_
  exact k
theorem asgND {i : Nat} {E : DEnds} {ρ : Env} {M : Mem} (h : ∀ p, M p = none → E.nx (ρ.set i (some (.ref p))) (mset M p (.dK [] []))) : sAsg dNewD (gName i) E ρ M := h
theorem asgNL {i : Nat} {E : DEnds} {ρ : Env} {M : Mem} (h : ∀ p, M p = none → E.nx (ρ.set i (some (.ref p))) (mset M p (.lst []))) : sAsg (dNew dA0) (gName i) E ρ M := by
  simp only [sAsg, dNew, dA0, gName]
  exact h
abbrev halfB : DS := (sSeq (sAsg (dCall sp_ownN (dA (dV 8) dA0)) (gName 10))
  (sExpr (dMeth mAppend (dV 7) (dUn oTuple (dComp (iSeq (dV 10)) (gName 11) dYes (dTup (dA (dV 11) (dA (dCall (sp_res 105) (dA (dTup (dA (dC (.str "name")) (dA (dOp oAdd (dV 9) (dV 11)) dA0))) (dA (dV 2) (dA (dV 6) dA0)))) dA0))) [11])))))
theorem half_step {U : Un} {S : List Say} {σ : Fd} (hg : Good U S σ) (hU : U.nm.length ≤ 900) (hS : S.length ≤ 104) {c : Str} (hc : c.length ≤ 10) {fs : Fd} {v : Say} {i : Int} (hO : AnsOk fs v) (hx : ∀ x ∈ ownN fs v, x.length ≤ 10 ∧ Tm U S (.name (c ++ x))) (hl : (ownN fs v).length ≤ 400) {a m h : Addr} (ham : a ≠ m) (hhm : h ≠ m) (hha : h ≠ a)
    {ν : List Str} (hν : ν.Nodup) (hνU : ∀ x ∈ ν, x ∈ U.nm) {ρ : Env} (r2 : ρ[2]? = some (some (.ref a))) (r6 : ρ[6]? = some (some (.ref m))) (r7 : ρ[7]? = some (some (.ref h))) (r8 : ρ[8]? = some (some (ansD fs v i))) (r9 : ρ[9]? = some (some (.str c))) (rl : 11 < ρ.length) {M : Mem} (hM : M a = some (bdM σ)) (hm : M m = some (nmM ν)) {acc : List D} (ha : acc.length ≤ 5) (hh : M h = some (.lst acc)) {E : DEnds}
    (q : (nuOf c σ ν (ownN fs v)).Nodup → (∀ x ∈ nuOf c σ ν (ownN fs v), x ∈ U.nm) → E.nx (ρ.set 10 (some (.lst ((ownN fs v).map D.str)))) (mset (mset M m (nmM (nuOf c σ ν (ownN fs v)))) h (.lst (acc ++ [.tup ((halfR c σ (nuOf c σ ν (ownN fs v)) (ownN fs v)).map fpD)])))) : halfB E ρ M := by
  refine seq_i ?_
  simp only [sAsg, dCall, dA, dV, dA0, r8]
  refine call_ownN hO ?_
  have g : ∀ {n : Nat}, n ≠ 10 → (ρ.set 10 (some (.lst ((ownN fs v).map D.str))))[n]? = ρ[n]? := fun hn => List.getElem?_set_ne (fun z => hn z.symm)
  have s10 : (ρ.set 10 (some (.lst ((ownN fs v).map D.str))))[10]? = some (some (.lst ((ownN fs v).map D.str))) := List.getElem?_set_self (by omega)
  have s7 := (g (n := 7) (by decide)).trans r7
  simp only [gName, sExpr, dMeth, dV, s7, asL_ref, hh, Option.isSome_some, true_and, dUn, dComp, iSeq, s10]
  refine ⟨by rw [List.length_map]; omega, ?_⟩
  refine res_comp hg hU hS c hc _ hx ham ν hν hνU _ (by rw [wipe11 (by decide), g (by decide)]; exact r2) (by rw [wipe11 (by decide), g (by decide)]; exact r6) (by rw [wipe11 (by decide), g (by decide)]; exact r9) (by simp [wipe]; exact rl) M hM hm _ ?_
  intro y1 y2 y3
  rw [oTuple_lst]
  simp only [mAppend, mset_ne hhm, hh]
  refine ⟨by omega, ?_⟩
  exact q y1 y2
theorem does_common : Does 12 (t_common (sp_res 105) sp_ownN (sp_un true true 105) (sp_side 6)) 2 sp_com := by
  refine Does.of ans_inj2 ?_
  rintro ⟨fs, v, i, gs, w, j⟩ M R ⟨ar, k, l, h⟩ ret
  have P := h.pre
  have hlen := h.a.side.len
  have glen := h.b.side.len
  have fin : ∀ M', Sub M M' → R (comV fs gs v w) M' := fun M' s => ret _ _ (.same s ⟨rfl, rfl⟩)
  clear ret
  simp only [t_common]
  refine seq_i (asgND ?_)
  intro a ha
  dsimp only
  refine seq_i ?_
  have e0 : MO.dK [] [] = bdM [] := rfl
  have hnm : ∀ x ∈ fs.map (·.1), strOk x = true := by
    intro x hx
    obtain ⟨f, hf, rfl⟩ := List.mem_map.mp hx
    exact nm_str (h.a.side.nm f hf)
  refine sIf_c False ?_ (fun c => c.elim) (fun _ => ?_)
  · intro Q q
    simp only [sSeq, sAsg, sRet, sNext, sExpr, sFor, dCall, dA, dA0, dV, dC, dOp, dUn, dTup, dLst, dTest, dNot, dAnd, dOr, dMeth, dCut, dPart, dNoPart, gName, gTup, gCons, gNil, start, List.map, List.length, List.replicate, List.cons_append, List.nil_append, List.getElem?_cons_zero, List.getElem?_cons_succ, List.set, dComp, iSeq, ans0, wipe]
    refine ⟨by rw [List.length_map]; omega, ?_⟩
    refine compF fpD (fun f => .str f.1) fs ?_ ?_
    · intro f _ R r
      simpa [fpD, atI2_0] using r
    refine ⟨by rw [List.length_map]; omega, ?_⟩
    refine compF fpD (fun f => .str f.1) gs ?_ ?_
    · intro f _ R r
      simpa [fpD, atI2_0] using r
    have e1 : (fs.map fun f => D.str f.1) = (fs.map (·.1)).map D.str := by simp
    have e2 : (gs.map fun f => D.str f.1) = (fs.map (·.1)).map D.str := by rw [h.names]; simp
    rw [e1, e2]
    simp only [oNe, eq_strs _ hnm]
    simpa using q
  refine next_i ?_
  dsimp only
  refine seq_i (for_i (zip_i (xs := fs.map fpD) (ys := gs.map fpD) (fun Q q => by simpa [start, ans0] using q) (fun Q q => by simpa [start, ans0] using q) ?_))
  rw [zipD_map, e0]
  refine com_loop (sw := true) (go := true) 4 (by decide) P .non _ M a _ rfl (by simp) (fun ρ => ρ[0]? = some (some (ansD fs v i)) ∧ ρ[1]? = some (some (ansD gs w j)) ∧ 11 < ρ.length) ⟨rfl, rfl, by simp⟩ ?_ ?_ ?_
  · rintro ρ x y ⟨q0, q1, q2⟩
    exact ⟨by rw [List.getElem?_set_ne (by decide), List.getElem?_set_ne (by decide)]; exact q0, by rw [List.getElem?_set_ne (by decide), List.getElem?_set_ne (by decide)]; exact q1, by simpa using q2⟩
  · intro σ e
    have := fin (mset M a (bdM σ)) (sub_bd ha)
    rw [comV, e] at this
    exact this
  rintro ρ ⟨q0, q1, q2⟩ r2 e hg
  replace fin : ∀ M', Sub M M' → R (.tup [.tup ((halfR "a" (ujR true true fs gs).2 (nu1 fs gs v) (ownN fs v)).map fpD), .tup ((halfR "b" (ujR true true fs gs).2 (nu2 fs gs v w) (ownN gs w)).map fpD)]) M' := by
    intro M' s
    have := fin M' s
    rw [comV, if_pos e] at this
    exact this
  have hU := unOf_len ar h.a.side.k h.b.side.k
  have hS := inOf_len h.a.side h.b.side
  have n1 : nu1 fs gs v = nuOf "a" (ujR true true fs gs).2 [] (ownN fs v) := rfl
  have n2 : nu2 fs gs v w = nuOf "b" (ujR true true fs gs).2 (nu1 fs gs v) (ownN gs w) := rfl
  have tmA : ∀ x ∈ ownN fs v, x.length ≤ 10 ∧ Tm (unOf ar k l) (inOf fs gs) (.name (("a" : Str) ++ x)) := by
    rw [h.a.own]; exact num_tm_a h.a.side.k
  have tmB : ∀ x ∈ ownN gs w, x.length ≤ 10 ∧ Tm (unOf ar k l) (inOf fs gs) (.name (("b" : Str) ++ x)) := by
    rw [h.b.own]; exact num_tm_b h.b.side.k
  have lA : (ownN fs v).length ≤ 400 := by rw [h.a.own]; simp [nums]; exact h.a.side.k
  have lB : (ownN gs w).length ≤ 400 := by rw [h.b.own]; simp [nums]; exact h.b.side.k
  generalize (ujR true true fs gs).2 = σ at hg fin n1 n2 ⊢
  generalize nu1 fs gs v = ν1 at fin n1 n2 ⊢
  generalize nu2 fs gs v w = ν2 at fin n2 ⊢
  clear e e0 hnm
  dsimp only
  refine seq_i (asgND ?_)
  intro m hm0
  dsimp only
  have ham : a ≠ m := fun z => by rw [← z, mset_same] at hm0; cases hm0
  refine seq_i (asgNL ?_)
  intro hd hh0
  dsimp only
  have hhm : hd ≠ m := fun z => by rw [z, mset_same] at hh0; cases hh0
  have hha : hd ≠ a := fun z => by rw [z, mset_ne ham, mset_same] at hh0; cases hh0
  have sb := sub3 (ν := []) (xs := []) ha hm0 hh0
  have e1 : MO.dK [] [] = nmM [] := rfl
  rw [e1]
  rw [e1] at hh0
  have g0 : ((ρ.set 6 (some (.ref m))).set 7 (some (.ref hd)))[0]? = some (some (ansD fs v i)) := by rw [List.getElem?_set_ne (by decide), List.getElem?_set_ne (by decide)]; exact q0
  have g1 : ((ρ.set 6 (some (.ref m))).set 7 (some (.ref hd)))[1]? = some (some (ansD gs w j)) := by rw [List.getElem?_set_ne (by decide), List.getElem?_set_ne (by decide)]; exact q1
  have g2 : ((ρ.set 6 (some (.ref m))).set 7 (some (.ref hd)))[2]? = some (some (.ref a)) := by rw [List.getElem?_set_ne (by decide), List.getElem?_set_ne (by decide)]; exact r2
  have g6 : ((ρ.set 6 (some (.ref m))).set 7 (some (.ref hd)))[6]? = some (some (.ref m)) := by rw [List.getElem?_set_ne (by decide), List.getElem?_set_self (by omega)]
  have g7 : ((ρ.set 6 (some (.ref m))).set 7 (some (.ref hd)))[7]? = some (some (.ref hd)) := List.getElem?_set_self (by simp; omega)
  have gl : 11 < ((ρ.set 6 (some (.ref m))).set 7 (some (.ref hd))).length := by simpa using q2
  have hmh : m ≠ hd := fun z => hhm z.symm
  have hah : a ≠ hd := fun z => hha z.symm
  generalize (ρ.set 6 (some (.ref m))).set 7 (some (.ref hd)) = ρ1 at g0 g1 g2 g6 g7 gl ⊢
  refine seq_i (for_i ?_)
  simp only [iSeq, dTup, dA, dA0, dV, dC, g0, g1]
  simp only [sLoop, gTup, gCons, gName, gNil]
  have st : ∀ (ρ : Env) (x y : Option D) {n : Nat}, n ≠ 8 → n ≠ 9 → ((ρ.set 8 x).set 9 y)[n]? = ρ[n]? := fun ρ x y n h1 h2 => by
    rw [List.getElem?_set_ne (fun z => h2 z.symm), List.getElem?_set_ne (fun z => h1 z.symm)]
  have s8 : ∀ (ρ : Env) (x y : Option D), 11 < ρ.length → ((ρ.set 8 x).set 9 y)[8]? = some x := fun ρ x y h => by
    rw [List.getElem?_set_ne (by decide), List.getElem?_set_self (by omega)]
  have s9 : ∀ (ρ : Env) (x y : Option D), 11 < ρ.length → ((ρ.set 8 x).set 9 y)[9]? = some y := fun ρ x y h => List.getElem?_set_self (by simp; omega)
  refine half_step (fs := fs) (v := v) (i := i) (c := "a") (ν := []) (acc := []) hg hU hS (by decide) h.a.ok tmA lA ham hhm hha (by simp) (by simp) ((st _ _ _ (by decide) (by decide)).trans g2) ((st _ _ _ (by decide) (by decide)).trans g6) ((st _ _ _ (by decide) (by decide)).trans g7) (s8 _ _ _ gl) (s9 _ _ _ gl) (by simpa using gl) (by rw [mset_ne hah, mset_ne ham, mset_same]) (by rw [mset_ne hmh, mset_same]) (by simp) (mset_same _ _ _) ?_
  rw [← n1]
  intro y1 y2
  dsimp only
  have t10 : ∀ (ρ : Env) (x y z : Option D) {n : Nat}, n ≠ 8 → n ≠ 9 → n ≠ 10 → (((ρ.set 8 x).set 9 y).set 10 z)[n]? = ρ[n]? := fun ρ x y z n h1 h2 h3 => by
    rw [List.getElem?_set_ne (fun w => h3 w.symm)]; exact st ρ x y h1 h2
  have u2 := (t10 ρ1 (some (ansD fs v i)) (some (.str "a")) (some (.lst ((ownN fs v).map D.str))) (n := 2) (by decide) (by decide) (by decide)).trans g2
  have u6 := (t10 ρ1 (some (ansD fs v i)) (some (.str "a")) (some (.lst ((ownN fs v).map D.str))) (n := 6) (by decide) (by decide) (by decide)).trans g6
  have u7 := (t10 ρ1 (some (ansD fs v i)) (some (.str "a")) (some (.lst ((ownN fs v).map D.str))) (n := 7) (by decide) (by decide) (by decide)).trans g7
  have ul : 11 < (((ρ1.set 8 (some (ansD fs v i))).set 9 (some (.str "a"))).set 10 (some (.lst ((ownN fs v).map D.str)))).length := by simpa using gl
  generalize ((ρ1.set 8 (some (ansD fs v i))).set 9 (some (.str "a"))).set 10 (some (.lst ((ownN fs v).map D.str))) = ρ2 at u2 u6 u7 ul ⊢
  refine half_step (fs := gs) (v := w) (i := j) (c := "b") (ν := ν1) (acc := [_]) hg hU hS (by decide) h.b.ok tmB lB ham hhm hha y1 y2 ((st _ _ _ (by decide) (by decide)).trans u2) ((st _ _ _ (by decide) (by decide)).trans u6) ((st _ _ _ (by decide) (by decide)).trans u7) (s8 _ _ _ ul) (s9 _ _ _ ul) (by simpa using ul) (by rw [mset_ne hah, mset_ne ham, mset_ne hah, mset_ne ham, mset_same]) (by rw [mset_ne hmh, mset_same]) (by simp) (mset_same _ _ _) ?_
  rw [← n2]
  intro z1 z2
  dsimp only
  have v7 := (t10 ρ2 (some (ansD gs w j)) (some (.str "b")) (some (.lst ((ownN gs w).map D.str))) (n := 7) (by decide) (by decide) (by decide)).trans u7
  simp only [sRet, dTup, dA, dA0, dOp, dV, dC, v7, oIx_ref, mset_same, List.cons_append, List.nil_append, atI2_0, atI2_1]
  rw [mset_back, mset_back]
  refine fin _ (sub3 ha hm0 ?_)
  rw [mset_ne hhm] at hh0 ⊢
  exact hh0
/-! ### that what is told is right -/
mutual
theorem s1_ok {x : Str} {t : Say} (ht : t.ok = true) : ∀ s : Say, s.ok = true → (Say.s1 x t s).ok = true
  | .name y, h => by simp only [Say.s1]; split <;> assumption
  | .made g ps, h => by
    simp only [Say.ok, Bool.and_eq_true] at h
    simp only [Say.s1, Say.ok, Bool.and_eq_true, s1s_map, List.length_map]
    exact ⟨h.1, by rw [← s1s_map]; exact s1s_ok ht ps h.2⟩
  | .call g ps, h => by
    simp only [Say.ok, Bool.and_eq_true] at h
    simp only [Say.s1, Say.ok, Bool.and_eq_true, s1s_map, List.length_map]
    exact ⟨h.1, by rw [← s1s_map]; exact s1s_ok ht ps h.2⟩
  | .either a b, h => by
    simp only [Say.ok, Bool.and_eq_true] at h
    simp only [Say.s1, Say.ok, s1_ok ht a h.1, s1_ok ht b h.2, Bool.and_self]
  | .same a b, h => by
    simp only [Say.ok, Bool.and_eq_true] at h
    simp only [Say.s1, Say.ok, s1_ok ht a h.1, s1_ok ht b h.2, Bool.and_self]
  | .skip, h => rfl
theorem s1s_ok {x : Str} {t : Say} (ht : t.ok = true) : ∀ ps : List Say, oks ps = true → oks (s1s x t ps) = true
  | [], _ => rfl
  | p :: ps, h => by
    simp only [oks, Bool.and_eq_true] at h
    simp only [s1s, oks, s1_ok ht p h.1, s1s_ok ht ps h.2, Bool.and_self]
end
mutual
theorem s1_th {x : Str} {t : Say} (ht : t.th = true) : ∀ s : Say, s.th = true → (Say.s1 x t s).th = true
  | .name y, h => by simp only [Say.s1]; split <;> assumption
  | .made g ps, h => by
    simp only [Say.th] at h
    simp only [Say.s1, Say.th, s1s_th ht ps h]
  | .call g ps, h => by simp [Say.th] at h
  | .either a b, h => by simp [Say.th] at h
  | .same a b, h => by simp [Say.th] at h
  | .skip, h => by simp [Say.th] at h
theorem s1s_th {x : Str} {t : Say} (ht : t.th = true) : ∀ ps : List Say, ths ps = true → ths (s1s x t ps) = true
  | [], _ => rfl
  | p :: ps, h => by
    simp only [ths, Bool.and_eq_true] at h
    simp only [s1s, ths, s1_th ht p h.1, s1s_th ht ps h.2, Bool.and_self]
end
theorem T_ok {U : Un} {S : List Say} : ∀ {σ : Fd}, Good U S σ → ∀ {s : Say}, Tm U S s → (T σ s).ok = true ∧ (T σ s).th = true
  | [], _, s, hs => ⟨hs.ok, hs.th⟩
  | (x, t) :: σ, h, s, hs => by
    have h' : Good U S σ := ⟨h.tri.1, fun q hq => h.all q (List.mem_cons_of_mem _ hq)⟩
    have a := T_ok h' hs
    have b := T_ok h' (h.all (x, t) (by simp)).2
    simp only [T]
    exact ⟨s1_ok b.1 _ a.1, s1_th b.2 _ a.2⟩
/-- a thing of new names -/
structure NewOk (n : Nat) (s : Say) : Prop where
  th : s.th = true
  ok : s.ok = true
  deep : s.deep ≤ n
  nms : ∀ x ∈ s.nms, ∃ i, i < 999 ∧ x = num (i + 1)
mutual
theorem rn_shape {ν : List Str} : ∀ s : Say, s.ok = true → (∀ x ∈ s.nms, ν.idxOf x < 999) → (rn ν s).ok = true ∧ (rn ν s).th = s.th ∧ (rn ν s).deep = s.deep ∧ ∀ y ∈ (rn ν s).nms, ∃ i, i < 999 ∧ y = num (i + 1)
  | .name x, h, hn => by
    have := hn x (by simp [Say.nms])
    refine ⟨?_, rfl, rfl, ?_⟩
    · simp only [rn, Say.ap, Say.ok]; exact nm_num (by omega)
    · intro y hy
      simp only [rn, Say.ap, Say.nms, List.mem_singleton] at hy
      exact ⟨_, this, hy⟩
  | .made g ps, h, hn => by
    simp only [Say.ok, Bool.and_eq_true] at h
    simp only [Say.nms] at hn
    obtain ⟨a, b, c, d⟩ := rns_shape ps h.2 hn
    refine ⟨?_, ?_, ?_, ?_⟩
    · simp only [rn, Say.ap, Say.ok, Bool.and_eq_true, aps_map, List.length_map]
      exact ⟨h.1, by rw [← aps_map]; exact a⟩
    · simp only [rn, Say.ap, Say.th]; exact b
    · simp only [rn, Say.ap, Say.deep]; rw [c]
    · intro y hy
      simp only [rn, Say.ap, Say.nms] at hy
      exact d y hy
  | .call g ps, h, hn => by
    simp only [Say.ok, Bool.and_eq_true] at h
    simp only [Say.nms] at hn
    obtain ⟨a, b, c, d⟩ := rns_shape ps h.2 hn
    refine ⟨?_, rfl, ?_, ?_⟩
    · simp only [rn, Say.ap, Say.ok, Bool.and_eq_true, aps_map, List.length_map]
      exact ⟨h.1, by rw [← aps_map]; exact a⟩
    · simp only [rn, Say.ap, Say.deep]; rw [c]
    · intro y hy
      simp only [rn, Say.ap, Say.nms] at hy
      exact d y hy
  | .either a b, h, hn => by
    simp only [Say.ok, Bool.and_eq_true] at h
    simp only [Say.nms, List.mem_append] at hn
    obtain ⟨a1, _, a3, a4⟩ := rn_shape a h.1 fun x hx => hn x (.inl hx)
    obtain ⟨b1, _, b3, b4⟩ := rn_shape b h.2 fun x hx => hn x (.inr hx)
    simp only [rn] at a1 a3 a4 b1 b3 b4
    refine ⟨by simp only [rn, Say.ap, Say.ok, a1, b1, Bool.and_self], rfl, by simp only [rn, Say.ap, Say.deep, a3, b3], ?_⟩
    intro y hy
    simp only [rn, Say.ap, Say.nms, List.mem_append] at hy
    exact hy.elim (a4 y) (b4 y)
  | .same a b, h, hn => by
    simp only [Say.ok, Bool.and_eq_true] at h
    simp only [Say.nms, List.mem_append] at hn
    obtain ⟨a1, _, a3, a4⟩ := rn_shape a h.1 fun x hx => hn x (.inl hx)
    obtain ⟨b1, _, b3, b4⟩ := rn_shape b h.2 fun x hx => hn x (.inr hx)
    simp only [rn] at a1 a3 a4 b1 b3 b4
    refine ⟨by simp only [rn, Say.ap, Say.ok, a1, b1, Bool.and_self], rfl, by simp only [rn, Say.ap, Say.deep, a3, b3], ?_⟩
    intro y hy
    simp only [rn, Say.ap, Say.nms, List.mem_append] at hy
    exact hy.elim (a4 y) (b4 y)
  | .skip, h, hn => ⟨rfl, rfl, rfl, by simp [rn, Say.ap, Say.nms]⟩
theorem rns_shape {ν : List Str} : ∀ ps : List Say, oks ps = true → (∀ x ∈ nmsL ps, ν.idxOf x < 999) → oks (aps (fun x => .name (num (ν.idxOf x + 1))) ps) = true ∧ ths (aps (fun x => .name (num (ν.idxOf x + 1))) ps) = ths ps ∧ deeps (aps (fun x => .name (num (ν.idxOf x + 1))) ps) = deeps ps ∧ ∀ y ∈ nmsL (aps (fun x => .name (num (ν.idxOf x + 1))) ps), ∃ i, i < 999 ∧ y = num (i + 1)
  | [], _, _ => ⟨rfl, rfl, rfl, by simp [aps, nmsL]⟩
  | p :: ps, h, hn => by
    simp only [oks, Bool.and_eq_true] at h
    simp only [nmsL, List.mem_append] at hn
    obtain ⟨a1, a2, a3, a4⟩ := rn_shape p h.1 fun x hx => hn x (.inl hx)
    obtain ⟨b1, b2, b3, b4⟩ := rns_shape ps h.2 fun x hx => hn x (.inr hx)
    simp only [rn] at a1 a2 a3 a4
    refine ⟨by simp only [aps, oks, a1, b1, Bool.and_self], by simp only [aps, ths, a2, b2], by simp only [aps, deeps, a3, b3], ?_⟩
    intro y hy
    simp only [aps, nmsL, List.mem_append] at hy
    exact hy.elim (a4 y) (b4 y)
end
theorem rn_new {U : Un} {S : List Say} {σ : Fd} {ν : List Str} {s : Say} (hg : Good U S σ) (hs : Tm U S s) (hS : S.length ≤ 104) (hν : ν.Nodup) (hU : ∀ x ∈ ν, x ∈ U.nm) (hl : U.nm.length ≤ 900) (hn : ∀ x ∈ (T σ s).nms, x ∈ ν) : NewOk 105 (rn ν (T σ s)) := by
  have nl : ν.length ≤ 900 := Nat.le_trans (nodup_le hν hU) hl
  have t := T_ok hg hs
  have d := T_deepU hg hs
  obtain ⟨a, b, c, e⟩ := rn_shape (ν := ν) (T σ s) t.1 fun x hx => by
    have := List.idxOf_lt_length_of_mem (hn x hx)
    omega
  exact ⟨b.trans t.2, a, by omega, e⟩
theorem lkp_map (f : Str → Say) : ∀ (xs : List Str) (x : Str), x ∈ xs → lkp (xs.map fun y => (y, f y)) x = some (f x)
  | y :: xs, x, h => by
    simp only [List.map_cons, lkp]
    by_cases c : y = x
    · subst c; simp
    · rw [if_neg c]
      exact lkp_map f xs x (by
        rcases List.mem_cons.mp h with e | e
        · exact (c e.symm).elim
        · exact e)
/-- filled by its half, a thing is what its side is by the bindings, newly named -/
theorem put_half {c : Str} {σ : Fd} {ν xs : List Str} {s : Say} (ht : s.th = true) (hx : ∀ x ∈ s.nms, x ∈ xs) : s.put (halfR c σ ν xs) = rn ν (T σ (s.sd c)) := by
  rw [put_ap, T_ap σ _ (by rw [sd_th]; exact ht), ap_sd, rn, ap_ap]
  refine ap_congr s fun x hx' => ?_
  rw [halfR, lkp_map (fun y => rn ν (T σ (.name (c ++ y)))) xs x (hx x hx')]
  rfl
theorem halfR_ext {c : Str} {σ : Fd} {ν t xs : List Str} (h : ∀ x ∈ xs, ∀ y ∈ (T σ (.name (c ++ x))).nms, y ∈ ν) : halfR c σ (ν ++ t) xs = halfR c σ ν xs := by
  refine List.map_congr_left fun x hx => ?_
  rw [rn_ext (h x hx)]
theorem nu_in {c : Str} {σ : Fd} {ν xs : List Str} : ∀ x ∈ xs, ∀ y ∈ (T σ (.name (c ++ x))).nms, y ∈ nuOf c σ ν xs := by
  intro x hx y hy
  refine (foldN_mem _ _ _).mpr (.inr ((nmsL_mem y _).mpr ⟨_, List.mem_map.mpr ⟨x, hx, rfl⟩, hy⟩))
theorem nu_nod {c : Str} {σ : Fd} {ν xs : List Str} (h : ν.Nodup) : (nuOf c σ ν xs).Nodup := foldN_nodup _ _ h
theorem nu_sub {U : Un} {S : List Say} {c : Str} {σ : Fd} {ν xs : List Str} (hg : Good U S σ) (hx : ∀ x ∈ xs, Tm U S (.name (c ++ x))) (h : ∀ x ∈ ν, x ∈ U.nm) : ∀ y ∈ nuOf c σ ν xs, y ∈ U.nm := by
  intro y hy
  rcases (foldN_mem _ _ _).mp hy with z | z
  · exact h y z
  · obtain ⟨p, hp, k⟩ := (nmsL_mem y _).mp z
    obtain ⟨x, hx', rfl⟩ := List.mem_map.mp hp
    exact T_nmsU hg (hx x hx') y k
mutual
theorem ap_nms (φ : Str → Say) : ∀ (s : Say), ∀ y ∈ (Say.ap φ s).nms, ∃ x ∈ s.nms, y ∈ (φ x).nms
  | .name x, y, h => ⟨x, by simp [Say.nms], h⟩
  | .made g ps, y, h => by simp only [Say.ap, Say.nms] at h ⊢; exact aps_nms φ ps y h
  | .call g ps, y, h => by simp only [Say.ap, Say.nms] at h ⊢; exact aps_nms φ ps y h
  | .either a b, y, h => by
    simp only [Say.ap, Say.nms, List.mem_append] at h ⊢
    rcases h with h | h
    · obtain ⟨x, h1, h2⟩ := ap_nms φ a y h; exact ⟨x, .inl h1, h2⟩
    · obtain ⟨x, h1, h2⟩ := ap_nms φ b y h; exact ⟨x, .inr h1, h2⟩
  | .same a b, y, h => by
    simp only [Say.ap, Say.nms, List.mem_append] at h ⊢
    rcases h with h | h
    · obtain ⟨x, h1, h2⟩ := ap_nms φ a y h; exact ⟨x, .inl h1, h2⟩
    · obtain ⟨x, h1, h2⟩ := ap_nms φ b y h; exact ⟨x, .inr h1, h2⟩
  | .skip, y, h => by simp [Say.ap, Say.nms] at h
theorem aps_nms (φ : Str → Say) : ∀ (ps : List Say), ∀ y ∈ nmsL (aps φ ps), ∃ x ∈ nmsL ps, y ∈ (φ x).nms
  | [], y, h => by simp [aps, nmsL] at h
  | p :: ps, y, h => by
    simp only [aps, nmsL, List.mem_append] at h ⊢
    rcases h with h | h
    · obtain ⟨x, h1, h2⟩ := ap_nms φ p y h; exact ⟨x, .inl h1, h2⟩
    · obtain ⟨x, h1, h2⟩ := aps_nms φ ps y h; exact ⟨x, .inr h1, h2⟩
end
structure RightR (fs gs : Fd) (k l : Nat) (A B : Fd) : Prop where
  na : A.map (·.1) = nums k
  nb : B.map (·.1) = nums l
  oa : ∀ f ∈ A, NewOk 105 f.2
  ob : ∀ f ∈ B, NewOk 105 f.2
  eq : ∀ p ∈ fs.zip gs, p.1.2.put A = p.2.2.put B ∧ NewOk 105 (p.1.2.put A)
theorem can_eq {ar : Str → Nat} {fs gs : Fd} {k l : Nat} (h : ComPre ar fs gs k l) : (ujR true true fs gs).1 = (ujR false false fs gs).1 := by
  have hS := inOf_len h.a h.b
  have ha := tm_a (l := l) (gs := gs) h.a
  have hb := tm_b (k := k) (fs := fs) h.b
  have hl : (sds2 "a" fs).length = (sds2 "b" gs).length := by simp [sds2, h.glen]
  show (uj true true 105 (sds2 "a" fs) (sds2 "b" gs) []).1 = (uj false false 105 (sds2 "a" fs) (sds2 "b" gs) []).1
  rw [(uj_go true 105 _ _ _).1, uj_uns]
  rw [Bool.eq_iff_iff]
  exact ⟨uns_same true false _ _ ha hb hl (by omega), uns_same false true _ _ ha hb hl (by omega)⟩
theorem zip_eq {α β γ : Type} (f : α → γ) (g : β → γ) : ∀ (xs : List α) (ys : List β), xs.map f = ys.map g → ∀ p ∈ xs.zip ys, f p.1 = g p.2
  | [], _, _, p, hp => by simp at hp
  | _ :: _, [], h, p, hp => by simp at hp
  | x :: xs, y :: ys, h, p, hp => by
    simp only [List.map_cons, List.cons.injEq] at h
    rcases List.mem_cons.mp hp with rfl | hp
    · exact h.1
    · exact zip_eq f g xs ys h.2 p hp
theorem com_right {ar : Str → Nat} {fs gs : Fd} {v w : Say} {k l : Nat} (h : Com2 ar fs gs v w k l) (e : (ujR true true fs gs).1 = true) :
    RightR fs gs k l (halfR "a" (ujR true true fs gs).2 (nu1 fs gs v) (ownN fs v)) (halfR "b" (ujR true true fs gs).2 (nu2 fs gs v w) (ownN gs w)) := by
  have P := h.pre
  have hS := inOf_len P.a P.b
  have hU := unOf_len ar P.a.k P.b.k
  have ha := tm_a (l := l) (gs := gs) P.a
  have hb := tm_b (k := k) (fs := fs) P.b
  have hl : (sds2 "a" fs).length = (sds2 "b" gs).length := by simp [sds2, P.glen]
  have uj1 := uj_go true 105 (sds2 "a" fs) (sds2 "b" gs) []
  have e' : (uns true false 105 (sds2 "a" fs) (sds2 "b" gs) []).1 = true := by rw [← uj1.1]; exact e
  have gd := (un_good true false (unOf ar k l) (inOf fs gs) 105).2 (sds2 "a" fs) (sds2 "b" gs) [] (Good.nil _ _) ha hb
  have es := uj1.2 e'
  have eqs := gd.2.2 hl e'
  have hg := gd.1
  rw [← es] at eqs hg
  have n1 : nu1 fs gs v = nuOf "a" (ujR true true fs gs).2 [] (ownN fs v) := rfl
  have n2 : nu2 fs gs v w = nuOf "b" (ujR true true fs gs).2 (nu1 fs gs v) (ownN gs w) := rfl
  change Good _ _ (ujR true true fs gs).2 at hg
  change (sds2 "a" fs).map (T (ujR true true fs gs).2) = (sds2 "b" gs).map (T (ujR true true fs gs).2) at eqs
  rw [h.a.own] at n1 ⊢
  rw [h.b.own] at n2 ⊢
  have tmA := num_tm_a (ar := ar) (l := l) (S := inOf fs gs) P.a.k
  have tmB := num_tm_b (ar := ar) (k := k) (S := inOf fs gs) P.b.k
  generalize (ujR true true fs gs).2 = σ at hg eqs n1 n2 ⊢
  generalize nu1 fs gs v = ν1 at n1 n2 ⊢
  generalize nu2 fs gs v w = ν2 at n2 ⊢
  have d1 : ν1.Nodup := by rw [n1]; exact nu_nod (by simp)
  have s1 : ∀ x ∈ ν1, x ∈ (unOf ar k l).nm := by rw [n1]; exact nu_sub hg (fun x hx => (tmA x hx).2) (by simp)
  have i1 : ∀ x ∈ nums k, ∀ y ∈ (T σ (.name (("a" : Str) ++ x))).nms, y ∈ ν1 := by rw [n1]; exact nu_in
  have d2 : ν2.Nodup := by rw [n2]; exact nu_nod d1
  have s2 : ∀ x ∈ ν2, x ∈ (unOf ar k l).nm := by rw [n2]; exact nu_sub hg (fun x hx => (tmB x hx).2) s1
  have i2 : ∀ x ∈ nums l, ∀ y ∈ (T σ (.name (("b" : Str) ++ x))).nms, y ∈ ν2 := by rw [n2]; exact nu_in
  obtain ⟨t, et⟩ := foldN_pre (nmsL ((nums l).map fun x => T σ (.name (("b" : Str) ++ x)))) ν1
  have et' : ν2 = ν1 ++ t := n2.trans et
  have hA : halfR "a" σ ν2 (nums k) = halfR "a" σ ν1 (nums k) := by rw [et']; exact halfR_ext i1
  have nin : ∀ f ∈ fs, ∀ x ∈ f.2.nms, x ∈ nums k := by
    intro f hf x hx
    obtain ⟨i, hi, rfl⟩ := P.a.nms hf x hx
    exact List.mem_map.mpr ⟨i, List.mem_range.mpr hi, rfl⟩
  have ninb : ∀ f ∈ gs, ∀ x ∈ f.2.nms, x ∈ nums l := by
    intro f hf x hx
    obtain ⟨i, hi, rfl⟩ := P.b.nms hf x hx
    exact List.mem_map.mpr ⟨i, List.mem_range.mpr hi, rfl⟩
  refine ⟨by simp [halfR, Function.comp_def], by simp [halfR, Function.comp_def], ?_, ?_, ?_⟩
  · intro f hf
    obtain ⟨x, hx, rfl⟩ := List.mem_map.mp hf
    exact rn_new hg (tmA x hx).2 hS d1 s1 hU (i1 x hx)
  · intro f hf
    obtain ⟨x, hx, rfl⟩ := List.mem_map.mp hf
    exact rn_new hg (tmB x hx).2 hS d2 s2 hU (i2 x hx)
  · rintro ⟨f, g⟩ hp
    have hf := (List.of_mem_zip hp).1
    have hgm := (List.of_mem_zip hp).2
    have e1 := put_half (c := "a") (σ := σ) (ν := ν2) (P.a.th f hf) (nin f hf)
    have e2 := put_half (c := "b") (σ := σ) (ν := ν2) (P.b.th g hgm) (ninb g hgm)
    rw [hA] at e1
    simp only [sds2, List.map_map] at eqs
    have e3 : T σ (f.2.sd "a") = T σ (g.2.sd "b") := zip_eq (fun f : Str × Say => T σ (f.2.sd "a")) (fun g : Str × Say => T σ (g.2.sd "b")) fs gs eqs (f, g) hp
    refine ⟨by rw [e1, e2, e3], ?_⟩
    rw [e1]
    refine rn_new hg (ha _ (List.mem_map.mpr ⟨f, hf, rfl⟩)) hS d2 s2 hU ?_
    intro y hy
    rw [T_ap σ _ (by rw [sd_th]; exact P.a.th f hf), ap_sd] at hy
    obtain ⟨x, hx, hy'⟩ := ap_nms _ f.2 y hy
    rw [et']
    exact List.mem_append_left _ (i1 x (nin f hf x hx) y hy')
/-- an answer has something in common with itself -/
theorem com_self {ar : Str → Nat} {fs : Fd} {k : Nat} (h : SideOk ar fs k) : (ujR true true fs fs).1 = true := by
  have hS := inOf_len h h
  have ha := tm_a (l := k) (gs := fs) h
  have hb := tm_b (k := k) (fs := fs) h
  show (uj true true 105 (sds2 "a" fs) (sds2 "b" fs) []).1 = true
  rw [(uj_go true 105 _ _ _).1]
  classical
  let φ : Str → Say := fun y => if z : ∃ x, y = ("a" : Str) ++ x ∨ y = ("b" : Str) ++ x then .name (Classical.choose z) else .name y
  have pa : ∀ x, φ (("a" : Str) ++ x) = .name x := by
    intro x
    have z : ∃ x', ("a" : Str) ++ x = ("a" : Str) ++ x' ∨ ("a" : Str) ++ x = ("b" : Str) ++ x' := ⟨x, .inl rfl⟩
    show (if z : ∃ x', ("a" : Str) ++ x = ("a" : Str) ++ x' ∨ ("a" : Str) ++ x = ("b" : Str) ++ x' then Say.name (Classical.choose z) else .name _) = _
    rw [dif_pos z]
    rcases Classical.choose_spec z with e | e
    · rw [← str_app_inj e]
    · exact (ab_ne e).elim
  have pb : ∀ x, φ (("b" : Str) ++ x) = .name x := by
    intro x
    have z : ∃ x', ("b" : Str) ++ x = ("a" : Str) ++ x' ∨ ("b" : Str) ++ x = ("b" : Str) ++ x' := ⟨x, .inr rfl⟩
    show (if z : ∃ x', ("b" : Str) ++ x = ("a" : Str) ++ x' ∨ ("b" : Str) ++ x = ("b" : Str) ++ x' then Say.name (Classical.choose z) else .name _) = _
    rw [dif_pos z]
    rcases Classical.choose_spec z with e | e
    · exact (ab_ne e.symm).elim
    · rw [← str_app_inj e]
  refine ((un_all true false _ _ φ 105).2 (sds2 "a" fs) (sds2 "b" fs) [] (Good.nil _ _) ha hb (fun q hq => by cases hq) ?_ (fun p h => (bnd_start [] (ha p h)).mono (by omega)) (fun q h => (bnd_start [] (hb q h)).mono (by omega))).1
  simp only [sds2, List.map_map]
  refine List.map_congr_left fun f _ => ?_
  simp only [Function.comp_apply, ap_sd]
  rw [show (fun x => φ (("a" : Str) ++ x)) = Say.name from funext pa, show (fun x => φ (("b" : Str) ++ x)) = Say.name from funext pb]
def sp_fill (n : Nat) : Spec := .pure (fun (s, fs) => [Say.d s, .tup ((fs : List (Str × Say)).map fpD)]) (fun (s, _) => s.th = true ∧ s.ok = true ∧ s.deep ≤ n) fun (s, fs) => (s.put fs).d
theorem call_fill {n : Nat} {s : Say} {fs : List (Str × Say)} {M : Mem} {Q : DK} (h1 : s.th = true) (h2 : s.ok = true) (h3 : s.deep ≤ n) (q : Q (s.put fs).d M) : (sp_fill n).pre [s.d, .tup (fs.map fpD)] M ∧ ∀ d M', (sp_fill n).post [s.d, .tup (fs.map fpD)] M d M' → Q d M' :=
  ⟨⟨(s, fs), rfl, h1, h2, h3⟩, fun d M' z => by
    obtain ⟨rfl, rfl⟩ := z (s, fs) rfl
    exact q⟩
theorem fill_none (ds : List D) (M : Mem) : ¬ (sp_fill 0).pre ds M := by
  rintro ⟨⟨s, fs⟩, _, _, _, h⟩
  have := deep_pos s
  omega
theorem does_fill (n : Nat) : Does 5 (t__law_filled (sp_fill n)) 2 (sp_fill (n + 1)) := by
  refine Does.of ?_ ?_
  · rintro ⟨s, fs⟩ ⟨s', fs'⟩ e
    simp only [List.cons.injEq, D.tup.injEq, and_true] at e
    rw [Say.d_inj e.1, fps_inj e.2]
  rintro ⟨s, fs⟩ M R ⟨h1, h2, h3⟩ ret
  have fin : R (s.put fs).d M := ret _ _ (.now ⟨rfl, rfl⟩)
  clear ret
  cases s with
  | name x =>
    simp only [t__law_filled, sSeq, sAsg, sRet, sNext, sExpr, sFor, dCall, dA, dA0, dV, dC, dOp, dUn, dTup, dLst, dTest, dNot, dAnd, dOr, dMeth, dCut, dPart, dNoPart, gName, gTup, gCons, gNil, start, List.map, List.length, List.replicate, List.cons_append, List.nil_append, List.getElem?_cons_zero, List.getElem?_cons_succ, List.set]
    refine sIf_c True (by intro Q q; simpa [Say.d, atI2_0] using q) (fun _ => ?_) (fun c => (c trivial).elim)
    simp only [sSeq, sAsg, sRet, sNext, sExpr, sFor, dCall, dA, dA0, dV, dC, dOp, dUn, dTup, dLst, dTest, dNot, dAnd, dOr, dMeth, dCut, dPart, dNoPart, gName, gTup, gCons, gNil, start, List.map, List.length, List.replicate, List.cons_append, List.nil_append, List.getElem?_cons_zero, List.getElem?_cons_succ, List.set, iSeq, Say.put] at fin ⊢
    refine loopI fpD (fun l ρ M' => M' = M ∧ lkp l x = lkp fs x ∧ ρ[0]? = some (some (Say.name x).d) ∧ 3 < ρ.length) ?_ ?_ fs _ M ⟨rfl, rfl, rfl, by simp⟩
    · rintro q r ρ M' N ⟨rfl, hl, g0, g3⟩ k
      have a0 : (((ρ.set 2 (some (.str q.1))).set 3 (some q.2.d)))[0]? = some (some (Say.name x).d) := by
        rw [List.getElem?_set_ne (by decide), List.getElem?_set_ne (by decide)]; exact g0
      have a2 : (((ρ.set 2 (some (.str q.1))).set 3 (some q.2.d)))[2]? = some (some (.str q.1)) := by
        rw [List.getElem?_set_ne (by decide), List.getElem?_set_self (by omega)]
      have a3 : (((ρ.set 2 (some (.str q.1))).set 3 (some q.2.d)))[3]? = some (some q.2.d) := by
        rw [List.getElem?_set_self (by rw [List.length_set]; exact g3)]
      simp only [fpD, gTup, gCons, gName, gNil]
      refine sIf_c (q.1 = x) ?_ (fun c => ?_) (fun c => ?_)
      · intro Q z
        simpa [a0, a2, Say.d, atI2_1] using z
      · simp only [sRet, dV, a3]
        simp only [lkp, c, if_true] at hl
        rw [← hl] at fin
        exact fin
      · simp only [sNext]
        refine k _ _ ⟨rfl, ?_, a0, by simp; exact g3⟩
        simpa [lkp, c] using hl
    · rintro ρ M' ⟨rfl, hl, g0, g3⟩
      simp only [sRet, dV, g0]
      simp only [lkp] at hl
      rw [← hl] at fin
      exact fin
  | made x ps =>
    simp only [Say.th] at h1
    simp only [Say.ok, Bool.and_eq_true, decide_eq_true_eq] at h2
    simp only [Say.deep] at h3
    have hd : (Say.made x ps).d = .tup [.str "made", .str x, .tup (ps.map Say.d)] := by simp [Say.d, says_map]
    simp only [t__law_filled, sSeq, sAsg, sRet, sNext, sExpr, sFor, dCall, dA, dA0, dV, dC, dOp, dUn, dTup, dLst, dTest, dNot, dAnd, dOr, dMeth, dCut, dPart, dNoPart, gName, gTup, gCons, gNil, start, List.map, List.length, List.replicate, List.cons_append, List.nil_append, List.getElem?_cons_zero, List.getElem?_cons_succ, List.set, hd]
    refine sIf_c False (by intro Q q; simpa [atI3_0, ofString_inj] using q) (fun c => c.elim) (fun _ => ?_)
    simp only [sNext]
    refine sIf_c True (by intro Q q; simpa [atI3_0, ofString_inj] using q) (fun _ => ?_) (fun c => (c trivial).elim)
    simp only [sSeq, sAsg, sRet, sNext, sExpr, sFor, dCall, dA, dA0, dV, dC, dOp, dUn, dTup, dLst, dTest, dNot, dAnd, dOr, dMeth, dCut, dPart, dNoPart, gName, gTup, gCons, gNil, start, List.map, List.length, List.replicate, List.cons_append, List.nil_append, List.getElem?_cons_zero, List.getElem?_cons_succ, List.set, oIx_tup, atI3_0, atI3_1, dComp, iSeq, atI3_2, wipe]
    refine ⟨by rw [List.length_map]; omega, ?_⟩
    refine compF Say.d (fun s => (s.put fs).d) ps ?_ ?_
    · intro s hs R r
      simp only [sSeq, sAsg, sRet, sNext, sExpr, sFor, dCall, dA, dA0, dV, dC, dOp, dUn, dTup, dLst, dTest, dNot, dAnd, dOr, dMeth, dCut, dPart, dNoPart, gName, gTup, gCons, gNil, start, List.map, List.length, List.replicate, List.cons_append, List.nil_append, List.getElem?_cons_zero, List.getElem?_cons_succ, List.set]
      exact call_fill (ths_mem h1 s hs) (oks_mem h2.2 s hs) (deeps_mem (n := n) (by omega) s hs) r
    · rw [oTuple_lst]
      simpa [Say.put, Say.d, says_map, puts_map, Function.comp_def] using fin
  | _ => simp [Say.th] at h1

/-! ### new names, halves -/
theorem fig : ∀ i : Fin 999, ((num (i.val + 1)).cps.toList.all fun c => decide (c ∈ [48, 49, 50, 51, 52, 53, 54, 55, 56, 57])) = true ∧ 1 ≤ (num (i.val + 1)).length ∧ (num (i.val + 1)).length ≤ 3 ∧ ((num (i.val + 1)).cps.toList[0]?).all (fun c => decide (c ≠ 48)) = true := by decide +kernel
theorem digits : (Str.ofString "0123456789").cps.toList = [48, 49, 50, 51, 52, 53, 54, 55, 56, 57] := by decide +kernel
theorem zero_cps : Str.ofString "0" = ⟨#[48]⟩ := by decide +kernel
def sp_new (n : Nat) : Spec := .pure (fun s => [Say.d s]) (fun s => NewOk n s) fun _ => .bl true
theorem call_new {n : Nat} {s : Say} {M : Mem} {Q : DK} (h : NewOk n s) (q : Q (.bl true) M) : (sp_new n).pre [s.d] M ∧ ∀ d M', (sp_new n).post [s.d] M d M' → Q d M' :=
  ⟨⟨s, rfl, h⟩, fun d M' z => by
    obtain ⟨rfl, rfl⟩ := z s rfl
    exact q⟩
theorem new_none (ds : List D) (M : Mem) : ¬ (sp_new 0).pre ds M := by
  rintro ⟨s, _, h⟩
  have := deep_pos s
  have := h.deep
  omega
theorem does_new (n : Nat) : Does 4 (t__law_is_new (sp_new n)) 1 (sp_new (n + 1)) := by
  refine Does.of ?_ ?_
  · intro s s' e
    simp only [List.cons.injEq, and_true] at e
    exact Say.d_inj e
  rintro s M R ⟨h1, h2, h3, h4⟩ ret
  have fin : R (.bl true) M := ret _ _ (.now ⟨rfl, rfl⟩)
  clear ret
  simp only [t__law_is_new]
  cases s with
  | name x =>
    obtain ⟨i, hi, hx⟩ := h4 x (by simp [Say.nms])
    have hf := fig ⟨i, hi⟩
    simp only [← hx] at hf
    obtain ⟨f1, f2, f3, f4⟩ := hf
    refine seq_i ?_
    refine sIf_c False (by intro Q q; simpa [start, name_d, atI2_0] using q) (fun c => c.elim) (fun _ => ?_)
    refine next_i ?_
    dsimp only
    refine seq_i ?_
    refine sIf_c True (by intro Q q; simpa [start, name_d, atI2_0, atI2_1] using q) (fun _ => ?_) (fun c => (c trivial).elim)
    refine seq_i ?_
    simp only [sAsg, dComp, iSeq, sSeq, sAsg, sRet, sNext, sExpr, sFor, dCall, dA, dA0, dV, dC, dOp, dUn, dTup, dLst, dTest, dNot, dAnd, dOr, dMeth, dCut, dPart, dNoPart, gName, gTup, gCons, gNil, start, List.map, List.length, List.replicate, List.cons_append, List.nil_append, List.getElem?_cons_zero, List.getElem?_cons_succ, List.set, name_d, oIx_tup, atI2_1, wipe, chars]
    refine ⟨by rw [List.length_map]; show x.length ≤ _; omega, ?_⟩
    refine compT (fun c : Nat => D.str ⟨#[c]⟩) (fun c : Nat => D.str ⟨#[c]⟩) (fun _ => false) x.cps.toList ?_ ?_
    · intro c hc R N q1 q2
      have hd : c ∈ [48, 49, 50, 51, 52, 53, 54, 55, 56, 57] := by
        have := List.all_eq_true.mp f1 c hc
        simpa using this
      simp only [sSeq, sAsg, sRet, sNext, sExpr, sFor, dCall, dA, dA0, dV, dC, dOp, dUn, dTup, dLst, dTest, dNot, dAnd, dOr, dMeth, dCut, dPart, dNoPart, gName, gTup, gCons, gNil, start, List.map, List.length, List.replicate, List.cons_append, List.nil_append, List.getElem?_cons_zero, List.getElem?_cons_succ, List.set, oNotIn, inB_str]
      refine ⟨c, rfl, ?_⟩
      rw [digits, decide_eq_true hd]
      simpa using q2 rfl
    · rw [show x.cps.toList.filter (fun _ => false) = [] from List.filter_eq_nil_iff.mpr (by simp)]
      simp only [sSeq, sAsg, sRet, sNext, sExpr, sFor, dCall, dA, dA0, dV, dC, dOp, dUn, dTup, dLst, dTest, dNot, dAnd, dOr, dMeth, dCut, dPart, dNoPart, gName, gTup, gCons, gNil, start, List.map, List.length, List.replicate, List.cons_append, List.nil_append, List.getElem?_cons_zero, List.getElem?_cons_succ, List.set]
      have e0 : ∃ c0, x.cps.toList[0]? = some c0 ∧ c0 ≠ 48 := by
        cases e : x.cps.toList[0]? with
        | none =>
          have := List.getElem?_eq_none_iff.mp e
          have : x.length ≤ 0 := this
          omega
        | some c0 =>
          rw [e] at f4
          exact ⟨c0, rfl, by simpa using f4⟩
      obtain ⟨c0, hc0, hc1⟩ := e0
      have ea : atI x.cps.toList 0 = some c0 := by
        have hl : 0 < x.cps.toList.length := f2
        simp only [atI, ixN]
        rw [if_pos (by decide), if_pos (by omega)]
        exact hc0
      have l1 : (1 : Int) ≤ (x.length : Int) := by omega
      have l2 : (x.length : Int) ≤ 3 := by omega
      have ne : ¬ ((⟨#[c0]⟩ : Str) = ⟨#[48]⟩) := by
        intro z
        injection z with z
        have := congrArg Array.toList z
        simp at this
        exact hc1 this
      have ll : x.length ≤ 100000 := by omega
      have ck : cmpOk (D.lst []) = true := by simp [cmpOk, plain, plains, depth, depths]
      simpa [dAndV, dChain, atI2_1, ck, l1, l2, ea, zero_cps, ne, ll] using fin
  | made g ps =>
    simp only [Say.th] at h1
    simp only [Say.ok, Bool.and_eq_true, decide_eq_true_eq] at h2
    simp only [Say.deep] at h3
    simp only [Say.nms] at h4
    refine seq_i ?_
    refine sIf_c False (by intro Q q; simpa [start, made_d, atI3_0] using q) (fun c => c.elim) (fun _ => ?_)
    refine next_i ?_
    dsimp only
    refine seq_i ?_
    refine sIf_c False (by intro Q q; simpa [start, made_d, atI3_0, ofString_inj] using q) (fun c => c.elim) (fun _ => ?_)
    refine next_i ?_
    dsimp only
    refine seq_i ?_
    refine sIf_c False (by intro Q q; simpa [start, made_d, atI3_0, atI3_1, atI3_2] using q) (fun c => c.elim) (fun _ => ?_)
    refine next_i ?_
    simp only [sSeq, sAsg, sRet, sNext, sExpr, sFor, dCall, dA, dA0, dV, dC, dOp, dUn, dTup, dLst, dTest, dNot, dAnd, dOr, dMeth, dCut, dPart, dNoPart, gName, gTup, gCons, gNil, start, List.map, List.length, List.replicate, List.cons_append, List.nil_append, List.getElem?_cons_zero, List.getElem?_cons_succ, List.set, made_d, oIx_tup, atI3_2, dComp, iSeq, wipe]
    refine ⟨by rw [List.length_map]; omega, ?_⟩
    refine compF Say.d (fun _ => .bl true) ps ?_ ?_
    · intro p hp R r
      simp only [sSeq, sAsg, sRet, sNext, sExpr, sFor, dCall, dA, dA0, dV, dC, dOp, dUn, dTup, dLst, dTest, dNot, dAnd, dOr, dMeth, dCut, dPart, dNoPart, gName, gTup, gCons, gNil, start, List.map, List.length, List.replicate, List.cons_append, List.nil_append, List.getElem?_cons_zero, List.getElem?_cons_succ, List.set]
      exact call_new ⟨ths_mem h1 p hp, oks_mem h2.2 p hp, deeps_mem (n := n) (by omega) p hp, fun x hx => h4 x ((nmsL_mem x _).mpr ⟨p, hp, hx⟩)⟩ r
    · have e : (ps.map fun _ => D.bl true) = (ps.map fun _ => true).map D.bl := by simp
      rw [e, oAll_lst, mas_bools]
      have e2 : (ps.map fun _ => true).all id = true := by simp
      simp only [e2]
      exact fin
  | _ => simp [Say.th] at h1
/-- a half -/
structure HalfOk (hs : Fd) (k : Nat) : Prop where
  names : hs.map (·.1) = nums k
  ok : ∀ f ∈ hs, NewOk 105 f.2
  k : k ≤ 400
def sp_half : Spec := .pure (fun (hs, k) => [.tup ((hs : Fd).map fpD), .int ((k : Nat) : Int)]) (fun (hs, k) => HalfOk hs k) fun _ => .bl true
theorem call_half {hs : Fd} {k : Nat} {M : Mem} {Q : DK} (h : HalfOk hs k) (q : Q (.bl true) M) : sp_half.pre [.tup (hs.map fpD), .int (k : Int)] M ∧ ∀ d M', sp_half.post [.tup (hs.map fpD), .int (k : Int)] M d M' → Q d M' :=
  ⟨⟨(hs, k), rfl, h⟩, fun d M' z => by
    obtain ⟨rfl, rfl⟩ := z (hs, k) rfl
    exact q⟩
theorem names_at {hs : Fd} {k : Nat} (h : hs.map (·.1) = nums k) {i : Nat} {f : Str × Say} (hf : hs[i]? = some f) : f.1 = num (i + 1) ∧ i < k := by
  have e : (hs.map (·.1))[i]? = some f.1 := by rw [List.getElem?_map, hf]; rfl
  rw [h] at e
  have hi := (List.getElem?_eq_some_iff.mp e).1
  simp only [nums, List.length_map, List.length_range] at hi
  simp only [nums, List.getElem?_map, List.getElem?_range hi, Option.map_some, Option.some.injEq] at e
  exact ⟨e.symm, hi⟩
theorem does_half : Does 4 (t__law_is_half (sp_new 105) (sp_same 211)) 2 sp_half := by
  refine Does.of ?_ ?_
  · rintro ⟨s, c⟩ ⟨s', c'⟩ e
    simp only [List.cons.injEq, D.tup.injEq, D.int.injEq, and_true] at e
    rw [fps_inj e.1, show c = c' by omega]
  rintro ⟨hs, k⟩ M R ⟨h1, h2, h3⟩ ret
  have fin : R (.bl true) M := ret _ _ (.now ⟨rfl, rfl⟩)
  clear ret
  have hl : hs.length = k := by simpa [nums] using congrArg List.length h1
  simp only [t__law_is_half]
  refine seq_i ?_
  refine sIf_c False (by intro Q q; simpa [start, hl] using q) (fun c => c.elim) (fun _ => ?_)
  refine next_i ?_
  dsimp only
  refine seq_i (for_i ?_)
  simp only [iEnum, dV, start, List.map, List.length, List.replicate, List.cons_append, List.nil_append, List.getElem?_cons_zero]
  rw [enumD_map]
  refine loopI (fun p : (Str × Say) × Nat => .tup [.int (p.2 : Int), fpD p.1]) (fun r ρ M' => M' = M ∧ (∀ p ∈ r, hs[p.2]? = some p.1) ∧ 3 < ρ.length) ?_ ?_ (hs.zipIdx 0) _ M ⟨rfl, ?_, by simp⟩
  · rintro ⟨f, n⟩ r ρ M' N ⟨rfl, k1, k2⟩ kk
    have hf := k1 (f, n) (by simp)
    obtain ⟨hn, hnk⟩ := names_at h1 hf
    have hm : f ∈ hs := List.mem_of_getElem? hf
    have a2 : ((ρ.set 2 (some (.int (n : Int)))).set 3 (some (fpD f)))[2]? = some (some (.int (n : Int))) := by
      rw [List.getElem?_set_ne (by decide), List.getElem?_set_self (by omega)]
    have a3 : ((ρ.set 2 (some (.int (n : Int)))).set 3 (some (fpD f)))[3]? = some (some (fpD f)) := by
      rw [List.getElem?_set_self (by rw [List.length_set]; omega)]
    have al : 3 < ((ρ.set 2 (some (.int (n : Int)))).set 3 (some (fpD f))).length := by simpa using k2
    simp only [gTup, gCons, gName, gNil]
    generalize (ρ.set 2 (some (.int (n : Int)))).set 3 (some (fpD f)) = ρ1 at a2 a3 al ⊢
    refine seq_i ?_
    have e1 : ((n : Int) + 1) = ((n + 1 : Nat) : Int) := by omega
    have nb : ((n + 1 : Nat) : Int).natAbs < 2 ^ 200 := by
      have : ((n + 1 : Nat) : Int).natAbs = n + 1 := rfl
      rw [this]
      exact Nat.lt_of_le_of_lt (by omega : n + 1 ≤ 1000) (by decide)
    refine sIf_c False ?_ (fun c => c.elim) (fun _ => ?_)
    · intro Q q
      simp only [dOr, dNot, dTest, dUn, dV, dOp, dC, a2, a3, dCall, dA, dA0]
      simp only [fpD, oIsi, tyOf]
      refine ⟨by decide, ?_⟩
      simp only [oLen_tup, oNe, List.length_cons, List.length_nil, oIx_tup, atI2_0, oAdd_int, e1, oStr_nat]
      simp
      refine ⟨nb, ?_⟩
      rw [hn]
      refine call_same (by simp [selfOk]) (by simp [depth]) ?_
      simpa using q
    refine next_i ?_
    dsimp only
    refine sIf_c False ?_ (fun c => c.elim) (fun _ => ?_)
    · intro Q q
      simp only [dNot, dTest, dOp, dV, dC, a3, dCall, dA, dA0, fpD, oIx_tup, atI2_1]
      refine call_new (h2 f hm) ?_
      simpa using q
    refine next_i ?_
    exact kk _ _ ⟨rfl, fun p hp => k1 p (List.mem_cons_of_mem _ hp), al⟩
  · rintro ρ M' ⟨rfl, _⟩
    simpa using fin
  · intro p hp
    have := List.mem_zipIdx_iff_getElem?.mp hp
    simpa using this
/-! ### the law's judge of what is told -/
def sp_right : Spec := .pure (fun (fs, v, i, gs, w, j, k, l) => [comV fs gs v w, ansD fs v i, ansD gs w j, .tup [.int ((k : Nat) : Int), .int ((l : Nat) : Int)]]) (fun (fs, v, i, gs, w, j, k, l) => ∃ ar, Com2 ar fs gs v w k l) fun _ => .bl true
theorem call_right {fs gs : Fd} {v w : Say} {i j : Int} {ar : Str → Nat} {k l : Nat} {M : Mem} {Q : DK} (h : Com2 ar fs gs v w k l) (q : Q (.bl true) M) : sp_right.pre [comV fs gs v w, ansD fs v i, ansD gs w j, .tup [.int (k : Int), .int (l : Int)]] M ∧ ∀ d M', sp_right.post [comV fs gs v w, ansD fs v i, ansD gs w j, .tup [.int (k : Int), .int (l : Int)]] M d M' → Q d M' :=
  ⟨⟨(fs, v, i, gs, w, j, k, l), rfl, ar, h⟩, fun d M' z => by
    obtain ⟨rfl, rfl⟩ := z (fs, v, i, gs, w, j, k, l) rfl
    exact q⟩
theorem does_right : Does 6 (t__law_right (sp_same 211) (sp_fill 6) sp_half sp_can) 4 sp_right := by
  refine Does.of ?_ ?_
  · rintro ⟨fs, v, i, gs, w, j, k, l⟩ ⟨fs', v', i', gs', w', j', k', l'⟩ e
    simp only [List.cons.injEq, D.tup.injEq, D.int.injEq, and_true] at e
    obtain ⟨rfl, rfl, rfl⟩ := ansD_inj e.2.1
    obtain ⟨rfl, rfl, rfl⟩ := ansD_inj e.2.2.1
    have := e.2.2.2
    rw [show k = k' by omega, show l = l' by omega]
  rintro ⟨fs, v, i, gs, w, j, k, l⟩ M R ⟨ar, h⟩ ret
  have P := h.pre
  have fin : R (.bl true) M := ret _ _ (.now ⟨rfl, rfl⟩)
  clear ret
  have ce := can_eq P
  simp only [t__law_right]
  refine seq_i ?_
  refine sIf_c (¬ (ujR false false fs gs).1 = true) ?_ (fun c => ?_) (fun c => ?_)
  · intro Q q
    simp only [dNot, dTest, dCall, dA, dV, dA0, start, List.map, List.length, List.replicate, List.cons_append, List.nil_append, List.getElem?_cons_zero, List.getElem?_cons_succ]
    refine call_can P ?_
    simpa using q
  · rw [← ce] at c
    have e : comV fs gs v w = .non := by rw [comV, if_neg c]
    rw [e]
    simpa [start, oIsN] using fin
  · simp only [Decidable.not_not] at c
    rw [← ce] at c
    have hr := com_right h c
    have e : comV fs gs v w = .tup [.tup ((halfR "a" (ujR true true fs gs).2 (nu1 fs gs v) (ownN fs v)).map fpD), .tup ((halfR "b" (ujR true true fs gs).2 (nu2 fs gs v w) (ownN gs w)).map fpD)] := by rw [comV, if_pos c]
    rw [e]
    generalize halfR "a" (ujR true true fs gs).2 (nu1 fs gs v) (ownN fs v) = A at hr ⊢
    generalize halfR "b" (ujR true true fs gs).2 (nu2 fs gs v w) (ownN gs w) = B at hr ⊢
    obtain ⟨na, nb, oa, ob, heq⟩ := hr
    refine next_i ?_
    dsimp only
    refine seq_i ?_
    refine sIf_c False (by intro Q q; simpa [start] using q) (fun c => c.elim) (fun _ => ?_)
    refine next_i ?_
    dsimp only
    refine seq_i ?_
    refine sIf_c False ?_ (fun c => c.elim) (fun _ => ?_)
    · intro Q q
      simp only [dOr, dNot, dTest, dCall, dA, dV, dA0, dOp, dC, start, List.map, List.length, List.replicate, List.cons_append, List.nil_append, List.getElem?_cons_zero, List.getElem?_cons_succ, oIx_tup, atI2_0]
      refine call_half ⟨na, oa, P.a.k⟩ ?_
      simp only [Bool.not_true, atI2_1]
      rw [if_neg (by simp)]
      refine call_half ⟨nb, ob, P.b.k⟩ ?_
      simpa using q
    refine next_i ?_
    dsimp only
    refine seq_i (for_i (zip_i (xs := fs.map fpD) (ys := gs.map fpD) (fun Q q => by simpa [start, ans0] using q) (fun Q q => by simpa [start, ans0] using q) ?_))
    rw [zipD_map]
    refine loopI (fun p : (Str × Say) × (Str × Say) => .tup [fpD p.1, fpD p.2]) (fun r ρ M' => M' = M ∧ (∀ p ∈ r, p ∈ fs.zip gs) ∧ ρ[0]? = some (some (.tup [.tup (A.map fpD), .tup (B.map fpD)])) ∧ 5 < ρ.length) ?_ ?_ (fs.zip gs) _ M ⟨rfl, fun _ h => h, by simp [start], by simp [start]⟩
    · rintro ⟨f, g⟩ r ρ M' N ⟨rfl, k1, k0, k2⟩ kk
      have hm := k1 (f, g) (by simp)
      have hf := (List.of_mem_zip hm).1
      have hgm := (List.of_mem_zip hm).2
      have he := heq _ hm
      have a0 : ((ρ.set 4 (some (fpD f))).set 5 (some (fpD g)))[0]? = some (some (.tup [.tup (A.map fpD), .tup (B.map fpD)])) := by
        rw [List.getElem?_set_ne (by decide), List.getElem?_set_ne (by decide)]; exact k0
      have a4 : ((ρ.set 4 (some (fpD f))).set 5 (some (fpD g)))[4]? = some (some (fpD f)) := by
        rw [List.getElem?_set_ne (by decide), List.getElem?_set_self (by omega)]
      have a5 : ((ρ.set 4 (some (fpD f))).set 5 (some (fpD g)))[5]? = some (some (fpD g)) := by
        rw [List.getElem?_set_self (by rw [List.length_set]; omega)]
      have al : 5 < ((ρ.set 4 (some (fpD f))).set 5 (some (fpD g))).length := by simpa using k2
      simp only [gTup, gCons, gName, gNil]
      generalize (ρ.set 4 (some (fpD f))).set 5 (some (fpD g)) = ρ1 at a0 a4 a5 al ⊢
      have f0 : ∀ (f : Str × Say) (M : Mem) (Q : DK), oIx (fpD f) (.int 1) M Q = Q f.2.d M := fun f M Q => rfl
      have d1 := P.a.deep f hf
      have d2 := P.b.deep g hgm
      refine sIf_c False ?_ (fun c => c.elim) (fun _ => ?_)
      · intro Q q
        simp only [dNot, dTest, dCall, dA, dV, dA0, dOp, dC, a0, a4, a5, f0, oIx_tup, atI2_0, atI2_1]
        refine call_fill (P.a.th f hf) (P.a.ok f hf) (by omega) ?_
        refine call_fill (P.b.th g hgm) (P.b.ok g hgm) (by omega) ?_
        simp only at he
        rw [← he.1]
        have hd := depth_d (f.2.put A)
        have hdd := he.2.deep
        refine call_same (self_d _ he.2.ok) (by omega) ?_
        simpa using q
      refine next_i ?_
      exact kk _ _ ⟨rfl, fun p hp => k1 p (List.mem_cons_of_mem _ hp), a0, al⟩
    · rintro ρ M' ⟨rfl, _⟩
      simpa using fin
/-! ### how many parts each maker takes -/
def arK (ks : List Kd) (g : Str) : Nat := (((ks.flatMap (·.2)).find? fun m => decide (m.1 = g)).map fun m => m.2.length).getD 0
theorem word_m (b n : Nat) : (wordOf "m" b n).cps.toList[0]? = some 109 := by
  have e : (Str.ofString "m").cps.toList = [109] := by decide +kernel
  simp only [wordOf, str_cps, e, List.cons_append, List.getElem?_cons_zero]
theorem no_yes {ks : List Kd} {base : Nat} (h : KindsOk ks base) {g : Str} (hg : g.cps.toList[0]? ≠ some 109) : arK ks g = 0 := by
  unfold arK
  rw [List.find?_eq_none.mpr]
  · rfl
  · intro m hm e
    have e : m.1 = g := by simpa using e
    have hn := h.mn
    unfold NamedK Named at hn
    have : m.1 ∈ (ks.flatMap (·.2)).map (·.1) := List.mem_map.mpr ⟨m, hm, rfl⟩
    rw [hn] at this
    obtain ⟨i, _, ei⟩ := List.mem_map.mp this
    apply hg
    rw [← e, ← ei]
    exact word_m base i
theorem find_one {ms : List Mk} {m : Mk} (hn : (ms.map (·.1)).Nodup) (hm : m ∈ ms) : ms.find? (fun r => decide (r.1 = m.1)) = some m := by
  induction ms with
  | nil => cases hm
  | cons x r ih =>
    simp only [List.map_cons, List.nodup_cons] at hn
    rcases List.mem_cons.mp hm with rfl | hm
    · simp
    · have ne : ¬ x.1 = m.1 := fun e => hn.1 (by rw [e]; exact List.mem_map.mpr ⟨m, hm, rfl⟩)
      simp [List.find?_cons, ne, ih hn.2 hm]
theorem ar_of {ks : List Kd} {base : Nat} (h : KindsOk ks base) {kind : Str} {m : Mk} (hm : m ∈ mkOf ks kind) : m.2.length = arK ks m.1 := by
  rcases mkOf_sub kind ks with e | ⟨k, hk, _, e⟩
  · rw [e] at hm
    have y : (Str.ofString "yes").cps.toList[0]? ≠ some 109 := by decide +kernel
    have n : (Str.ofString "no").cps.toList[0]? ≠ some 109 := by decide +kernel
    simp only [List.mem_cons, List.not_mem_nil, or_false] at hm
    rcases hm with rfl | rfl
    · rw [no_yes h y]; rfl
    · rw [no_yes h n]; rfl
  · rw [e] at hm
    unfold arK
    rw [find_one h.mnodup (List.mem_flatMap.mpr ⟨k, hk, hm⟩)]
    rfl
mutual
theorem of_arw {ks : List Kd} {base : Nat} (h : KindsOk ks base) {nm : Str → Str → Prop} : ∀ (s : Say) (k : Str), s.of ks nm k → s.arw (arK ks) = true
  | .name x, k, _ => rfl
  | .made x ps, k, ⟨m, h1, h2, h3⟩ => by
    simp only [Say.arw, Bool.and_eq_true, decide_eq_true_eq]
    refine ⟨?_, ofs_arw h ps m.2 h3⟩
    rw [ofs_len h3, ← h2]
    exact ar_of h h1
  | .call _ _, k, h => h.elim
  | .either _ _, k, h => h.elim
  | .same _ _, k, h => h.elim
  | .skip, k, h => h.elim
theorem ofs_arw {ks : List Kd} {base : Nat} (h : KindsOk ks base) {nm : Str → Str → Prop} : ∀ (ps : List Say) (l : List Str), ofs ks nm ps l → arws (arK ks) ps = true
  | [], l, _ => rfl
  | s :: r, l, ⟨k, t, e, h1, h2⟩ => by simp only [arws, of_arw h s k h1, ofs_arw h r t h2, Bool.and_self]
end
theorem does_ofills : Does 7 (t__law_open_fills (sp_open 3) (sp_next 1 1000)) 4 sp_ofills := by
  refine Does.of ?_ ?_
  · rintro ⟨dk, ks, qs, p⟩ ⟨dk', ks', qs', p'⟩ e
    simp only [List.cons.injEq, D.ref.injEq, D.tup.injEq, and_true] at e
    obtain ⟨rfl, e2, e3, rfl⟩ := e
    rw [kindsD_inj e2, nk_inj e3]
  rintro ⟨dk, ks, qs, p⟩ M R ⟨hg, ha, b, hM, hp, hb⟩ ret
  have np : p ≠ dk := fun e => by rw [e, hM] at hp; cases hp
  have hal := ha.len
  obtain ⟨w, hw, hw1, hw2⟩ : ∃ w : Int, 3 - (qs.length : Int) / 3 = w ∧ 0 < w ∧ w ≤ 3 := ⟨_, rfl, by omega, by omega⟩
  simp only [t__law_open_fills, sSeq, sAsg, sRet, sNext, sExpr, sFor, dCall, dA, dA0, dV, dC, dOp, dUn, dTup, dLst, dTest, dNot, dAnd, dOr, dMeth, dCut, dPart, dNoPart, gName, gTup, gCons, gNil, start, List.map, List.length, List.replicate, List.cons_append, List.nil_append, List.getElem?_cons_zero, List.getElem?_cons_succ, List.set, oLen_tup, List.length_map, oFdiv_int, oSub_int, hw, dComp, iSeq, wipe]
  refine ⟨⟨by decide, by decide⟩, by omega, ?_⟩
  refine compL nkD (fun acc l M' => ∃ (fs : List (Str × Say)) (pre : List (Str × Str)) (t : List Str) (b' : Nat), qs = pre ++ l ∧ acc = fs.map fpD ∧ M' = mset (mset M dk (.deck 1 b')) p (.lst (t.map D.str)) ∧ b ≤ b' + pre.length * 14 ∧ t.length ≤ pre.length * 13 ∧
    fs.map (·.1) = pre.map (·.1) ∧ (∀ f ∈ fs, f.2.ok = true ∧ f.2.deep ≤ 3) ∧ ofs ks (nmK t) (fs.map (·.2)) (pre.map (·.2)) ∧ ordN 0 (nmsL (fs.map (·.2))) t.length ∧ ∀ k ∈ t, k ∈ ownK ks) ?_ ?_ qs [] M ⟨[], [], [], b, rfl, rfl, ?_, by simp, by simp, rfl, by simp, rfl, rfl, by simp⟩
  · rintro acc q l M' N ⟨fs, pre, t, b', e1, rfl, rfl, hb', ht, s1, s2, s3, s4, s5⟩ k
    have hq := ha.all q (by rw [e1]; simp)
    have hpl : pre.length + 1 ≤ 4 := by
      have := congrArg List.length e1
      simp at this
      omega
    simp only [nkD, sSeq, sAsg, sRet, sNext, sExpr, sFor, dCall, dA, dA0, dV, dC, dOp, dUn, dTup, dLst, dTest, dNot, dAnd, dOr, dMeth, dCut, dPart, dNoPart, gName, gTup, gCons, gNil, start, List.map, List.length, List.replicate, List.cons_append, List.nil_append, List.getElem?_cons_zero, List.getElem?_cons_succ, List.set, dYes, if_true]
    refine draw (b := b') (by rw [mset_ne (Ne.symm np), mset_same]) (by omega) fun r b1 h0 hr hb1 => ?_
    have m3 := mod_pos r hw1
    obtain ⟨far, hfar⟩ := Int.eq_ofNat_of_zero_le m3.1
    simp only [oMod_int, hfar]
    refine ⟨by omega, ?_⟩
    refine call_open (n := 3) (known := t) (mset_same _ _ _) (by rw [mset_ne np, mset_same]) hg hq.2 (by omega) (by rw [SB3]; omega) (by rw [SB3]; omega) ?_
    intro s t' b2 y1 y2 y3 y4 y5 y6
    rw [SB3] at y1 y2
    have em : mset (mset (mset (mset (mset M dk (.deck 1 b')) p (.lst (t.map D.str))) dk (.deck 1 b1)) dk (.deck 1 b2)) p (.lst ((t ++ t').map D.str)) = mset (mset M dk (.deck 1 b2)) p (.lst ((t ++ t').map D.str)) := by
      rw [mset_mset, mset_back]
    rw [em]
    refine k _ _ ⟨fs ++ [(q.1, s)], pre ++ [q], t ++ t', b2, by rw [e1]; simp, by simp [fpD], rfl, ?_, ?_, ?_, ?_, ?_, ?_, ?_⟩
    · rw [List.length_append, List.length_singleton, Nat.add_mul]; omega
    · rw [List.length_append, List.length_append, List.length_singleton, Nat.add_mul]; omega
    · simp [s1]
    · intro f hf
      rcases List.mem_append.mp hf with h | h
      · exact s2 f h
      · rw [List.mem_singleton.mp h]; exact ⟨y3, by show s.deep ≤ 3; omega⟩
    · simp only [List.map_append, List.map_cons, List.map_nil]
      exact ofs_snoc (ofs_mono (fun _ _ h => nmK_mono h) _ _ s3) y4
    · simp only [List.map_append, List.map_cons, List.map_nil, nmsL_snoc]
      exact ordN_append s4 y6
    · intro k hk
      rcases List.mem_append.mp hk with h | h
      · exact s5 k h
      · exact y2.2 k h
  · rintro acc M' ⟨fs, pre, t, b', e1, rfl, rfl, hb', ht, s1, s2, s3, s4, s5⟩
    rw [List.append_nil] at e1
    subst e1
    rw [oTuple_lst]
    refine ret _ _ (.now fun b0 e => ?_)
    rw [hM] at e
    cases e
    exact ⟨fs, t, b', rfl, ⟨s1, s2, s3, s4, s5, by omega⟩, rfl, by omega⟩
  · rw [show ([] : List Str).map D.str = [] from rfl, mset_self (by rw [mset_ne np]; exact hp), mset_self hM]
/-! ### a thing put otherwise -/
def VB : Nat → Nat
  | 0 => 0
  | n + 1 => 3 * VB n + 5
abbrev By := List (Str × Str)
def byM (f : By) : MO := .dK (f.map fun q => .inr q.1) (f.map fun q => .str q.2)
theorem byM_inj : ∀ {f g : By}, byM f = byM g → f = g
  | [], [], _ => rfl
  | [], _ :: _, h => by simp [byM] at h
  | _ :: _, [], h => by simp [byM] at h
  | (x, s) :: f, (y, t) :: g, h => by
    simp only [byM, List.map_cons, MO.dK.injEq, List.cons.injEq, Sum.inr.injEq, D.str.injEq] at h
    have := byM_inj (f := f) (g := g) (by simp only [byM, MO.dK.injEq]; exact ⟨h.1.2, h.2.2⟩)
    rw [h.1.1, h.2.1, this]
theorem val_by : ∀ (f : By) (x : Str), (∃ v, valD (f.map fun q => (.inr q.1 : Key)) (f.map fun q => D.str q.2) (.inr x) = some (.str v) ∧ ∃ q ∈ f, q.2 = v) ∨ (valD (f.map fun q => (.inr q.1 : Key)) (f.map fun q => D.str q.2) (.inr x) = none ∧ x ∉ f.map (·.1))
  | [], x => .inr ⟨rfl, by simp⟩
  | q :: r, x => by
    simp only [List.map_cons, valD, Sum.inr.injEq]
    by_cases c : q.1 = x
    · rw [if_pos c]
      exact .inl ⟨q.2, rfl, q, by simp, rfl⟩
    · rw [if_neg c]
      rcases val_by r x with ⟨v, e, y, hy, e2⟩ | ⟨e, h⟩
      · exact .inl ⟨v, e, y, List.mem_cons_of_mem _ hy, e2⟩
      · exact .inr ⟨e, by simp only [List.mem_cons, not_or]; exact ⟨fun z => c z.symm, h⟩⟩
structure ByOk (known : List Str) (bys : By) : Prop where
  all : ∀ q ∈ bys, ∃ i, i < known.length ∧ q.2 = num (i + 1)
  len : bys.length ≤ known.length
structure VPre (n : Nat) (ks : List Kd) (s : Say) (kind : Str) (b : Nat) (known : List Str) (bys : By) : Prop where
  K : ∃ base, KindsOk ks base
  kd : kind ∈ ownK ks
  of : ∃ nm, s.of ks nm kind
  ok : s.ok = true
  deep : s.deep ≤ n
  b : VB n ≤ b
  kn : known.length + VB n ≤ 900
  bo : ByOk known bys
structure VPost (n : Nat) (ks : List Kd) (s : Say) (b : Nat) (known : List Str) (s' : Say) (t : List Str) (b' : Nat) (bys' : By) : Prop where
  hb : b ≤ b' + VB n
  tl : t.length ≤ VB n
  ok : s'.ok = true
  th : s'.th = true
  deep : s'.deep ≤ s.deep + 1
  arw : s'.arw (arK ks) = true
  ord : ordN known.length s'.nms (known ++ t).length
  bo : ByOk (known ++ t) bys'
def vM (M : Mem) (dk p m : Addr) (b : Nat) (known : List Str) (bys : By) : Mem := mset (mset (mset M dk (.deck 1 b)) p (.lst (known.map D.str))) m (byM bys)
def sp_var (n : Nat) : Spec := .of (fun (dk, ks, s, kind, p, m) => [.ref dk, kindsD ks, Say.d s, .str kind, .ref p, .ref m])
  (fun (dk, ks, s, kind, p, m) M => ∃ b known bys, M dk = some (.deck 1 b) ∧ M p = some (.lst ((known : List Str).map D.str)) ∧ M m = some (byM bys) ∧ VPre n ks s kind b known bys)
  fun (dk, ks, s, kind, p, m) M d M' => ∀ b known bys, M dk = some (.deck 1 b) → M p = some (.lst ((known : List Str).map D.str)) → M m = some (byM bys) → ∃ s' t b' bys', d = s'.d ∧ M' = vM M dk p m b' (known ++ t) bys' ∧ VPost n ks s b known s' t b' bys'
theorem call_var {n : Nat} {dk p m : Addr} {ks : List Kd} {s : Say} {kind : Str} {b : Nat} {known : List Str} {bys : By} {M : Mem} {Q : DK} (h1 : M dk = some (.deck 1 b)) (h2 : M p = some (.lst (known.map D.str))) (h3 : M m = some (byM bys)) (h : VPre n ks s kind b known bys)
    (q : ∀ s' t b' bys', VPost n ks s b known s' t b' bys' → Q s'.d (vM M dk p m b' (known ++ t) bys')) :
    (sp_var n).pre [.ref dk, kindsD ks, s.d, .str kind, .ref p, .ref m] M ∧ ∀ d M', (sp_var n).post [.ref dk, kindsD ks, s.d, .str kind, .ref p, .ref m] M d M' → Q d M' :=
  ⟨⟨(dk, ks, s, kind, p, m), rfl, b, known, bys, h1, h2, h3, h⟩, fun d M' z => by
    obtain ⟨s', t, b', bys', rfl, rfl, y⟩ := z (dk, ks, s, kind, p, m) rfl b known bys h1 h2 h3
    exact q s' t b' bys' y⟩
theorem var_none (ds : List D) (M : Mem) : ¬ (sp_var 0).pre ds M := by
  rintro ⟨⟨dk, ks, s, kind, p, m⟩, _, b, known, bys, _, _, _, h⟩
  have := deep_pos s
  have := h.deep
  omega
theorem vM_vM {M : Mem} {dk p m : Addr} {b b' : Nat} {k k' : List Str} {y y' : By} : vM (vM M dk p m b k y) dk p m b' k' y' = vM M dk p m b' k' y' := by
  funext c
  simp only [vM, mset]
  by_cases c1 : c = m
  · simp [c1]
  · by_cases c2 : c = p
    · simp [c1, c2]
    · by_cases c3 : c = dk <;> simp [c1, c2, c3]
theorem ofs_zip {ks : List Kd} {nm : Str → Str → Prop} : ∀ {ps : List Say} {l : List Str}, ofs ks nm ps l → ∀ q ∈ ps.zip l, q.1.of ks nm q.2
  | [], l, h, q, hq => by simp at hq
  | s :: r, l, h, q, hq => by
    obtain ⟨k, t, rfl, h3, h4⟩ := h
    rcases List.mem_cons.mp hq with rfl | hq
    · exact h3
    · exact ofs_zip h4 q hq
theorem does_var (n : Nat) : Does 11 (t__law_varied (sp_var n) sp_makers (sp_open 2) (sp_next 1 1000)) 6 (sp_var (n + 1)) := by
  refine Does.of ?_ ?_
  · rintro ⟨dk, ks, s, kind, p, m⟩ ⟨dk', ks', s', kind', p', m'⟩ e
    simp only [List.cons.injEq, D.ref.injEq, D.str.injEq, and_true] at e
    obtain ⟨rfl, e2, e3, rfl, rfl, rfl⟩ := e
    rw [kindsD_inj e2, Say.d_inj e3]
  rintro ⟨dk, ks, s, kind, p, m⟩ M R ⟨b, known, bys, hM, hp, hm, ⟨⟨base, hK⟩, hkd, ⟨nm, hof⟩, hok, hdp, hb, hkn, hbo⟩⟩ ret
  have np : p ≠ dk := fun e => by rw [e, hM] at hp; cases hp
  have nm1 : m ≠ dk := fun e => by rw [e, hM] at hm; cases hm
  have nm2 : m ≠ p := fun e => by rw [e, hp] at hm; cases hm
  have hV : VB (n + 1) = 3 * VB n + 5 := rfl
  have fin : ∀ s' t b' bys', VPost (n + 1) ks s b known s' t b' bys' → R s'.d (vM M dk p m b' (known ++ t) bys') := by
    intro s' t b' bys' z
    refine ret _ _ (.now fun b0 known0 bys0 e f g => ?_)
    rw [hM] at e
    cases e
    rw [hp] at f
    simp only [Option.some.injEq, MO.lst.injEq] at f
    rw [← strs_inj f]
    exact ⟨s', t, b', bys', rfl, rfl, z⟩
  clear ret
  simp only [t__law_varied]
  refine seq_i ?_
  simp only [sAsg, dCall, dA, dV, dA0, start, List.map, List.length, List.replicate, List.cons_append, List.nil_append, List.getElem?_cons_zero]
  refine draw hM (by omega) fun r b1 h0 hr hb1 => ?_
  simp only [gName, List.set]
  have hp1 : mset M dk (.deck 1 b1) p = some (.lst (known.map D.str)) := by rw [mset_ne np]; exact hp
  have hm1 : mset M dk (.deck 1 b1) m = some (byM bys) := by rw [mset_ne nm1]; exact hm
  have keep : ∀ b', vM M dk p m b' known bys = mset M dk (.deck 1 b') := by
    intro b'
    have e1 : mset (mset M dk (.deck 1 b')) p (.lst (known.map D.str)) = mset M dk (.deck 1 b') := mset_self (by rw [mset_ne np]; exact hp)
    rw [vM, e1]
    exact mset_self (by rw [mset_ne nm1]; exact hm)
  refine seq_i ?_
  refine sIf_c (r % 8 = 0) (by intro Q q; simpa using q) (fun c => ?_) (fun c => ?_)
  · have S2 : SB 2 = 4 := rfl
    simp only [sRet, dCall, dA, dV, dC, dA0, List.getElem?_cons_zero, List.getElem?_cons_succ]
    refine call_open (n := 2) (far := 1) (known := known) (mset_same _ _ _) hp1 hK.good hkd (by decide) (by omega) (by omega) ?_
    intro s' t b' y1 y2 y3 y4 y5 y6
    have dp := deep_pos s
    have f := fin s' t b' bys ⟨by omega, by omega, y3, of_th _ _ y4, by omega, of_arw hK _ _ y4, y6, ⟨fun q hq => ?_, by rw [List.length_append]; have := hbo.len; omega⟩⟩
    · rw [mset_mset]
      have e : vM M dk p m b' (known ++ t) bys = mset (mset M dk (.deck 1 b')) p (.lst ((known ++ t).map D.str)) := mset_self (by rw [mset_ne nm2, mset_ne nm1]; exact hm)
      rw [e] at f
      exact f
    · obtain ⟨i, hi, e⟩ := hbo.all q hq
      exact ⟨i, by rw [List.length_append]; omega, e⟩
  refine next_i ?_
  dsimp only
  refine seq_i ?_
  cases s with
  | name x =>
    refine sIf_c True (by intro Q q; simpa [name_d, atI2_0] using q) (fun _ => ?_) (fun c => (c trivial).elim)
    refine seq_i ?_
    rcases val_by bys x with ⟨v, hv, q, hq, rfl⟩ | ⟨hv, hx⟩
    · obtain ⟨i, hi, ei⟩ := hbo.all q hq
      refine sIf_c False (by intro Q q; simpa [name_d, atI2_1, oNotInD, asK, hm1, byM, hv] using q) (fun c => c.elim) (fun _ => ?_)
      refine next_i ?_
      have f := fin (.name (num (i + 1))) [] b1 bys ⟨by omega, by simp, by simp only [Say.ok]; exact nm_num (by omega), rfl, by simp [Say.deep], rfl, by simp only [Say.nms, List.append_nil]; exact .inl ⟨i, hi, rfl, rfl⟩, by rw [List.append_nil]; exact hbo⟩
      rw [List.append_nil, keep, name_d, ← ei] at f
      simpa [name_d, atI2_1, oIxD, asK, hm1, byM, hv] using f
    · have hk : (Sum.inr x : Key) ∉ bys.map fun q => (Sum.inr q.1 : Key) := by
        intro z
        obtain ⟨q, hq, e'⟩ := List.mem_map.mp z
        exact hx (List.mem_map.mpr ⟨q, hq, by simpa using e'⟩)
      have e3 : MO.dK ((bys.map fun q => (.inr q.1 : Key)) ++ [.inr x]) ((bys.map fun q => D.str q.2) ++ [.str (num (known.length + 1))]) = byM (bys ++ [(x, num (known.length + 1))]) := by simp [byM]
      have hv2 : valD ((bys.map fun q => (Sum.inr q.1 : Key)) ++ [.inr x]) ((bys.map fun q => D.str q.2) ++ [.str (num (known.length + 1))]) (.inr x) = some (.str (num (known.length + 1))) := by
        have z : ∀ f : By, x ∉ f.map (·.1) → valD ((f.map fun q => (Sum.inr q.1 : Key)) ++ [.inr x]) ((f.map fun q => D.str q.2) ++ [.str (num (known.length + 1))]) (.inr x) = some (.str (num (known.length + 1))) := by
          intro f
          induction f with
          | nil => intro _; simp [valD]
          | cons q r ih =>
            intro h
            simp only [List.map_cons, List.mem_cons, not_or] at h
            simp only [List.map_cons, List.cons_append, valD, Sum.inr.injEq]
            rw [if_neg (fun z => h.1 z.symm)]
            exact ih h.2
        exact z bys hx
      refine sIf_c True (by intro Q q; simpa [name_d, atI2_1, oNotInD, asK, hm1, byM, hv] using q) (fun _ => ?_) (fun c => (c trivial).elim)
      have f := fin (.name (num (known.length + 1))) [kind] b1 (bys ++ [(x, num (known.length + 1))]) ⟨by omega, by simp; omega, by simp only [Say.ok]; exact nm_num (by omega), rfl, by simp [Say.deep], rfl, by simp only [Say.nms]; exact .inr ⟨rfl, by simp [ordN]⟩, ⟨fun q hq => ?_, by have := hbo.len; simp; omega⟩⟩
      · refine seq_i ?_
        have hp2 : mset (mset M dk (.deck 1 b1)) p (.lst (known.map D.str ++ [.str kind])) m = some (byM bys) := by rw [mset_ne nm2]; exact hm1
        have nb : ((known.length + 1 : Nat) : Int).natAbs < 2 ^ 200 := by
          have : ((known.length + 1 : Nat) : Int).natAbs = known.length + 1 := rfl
          rw [this]
          exact Nat.lt_of_le_of_lt (by omega : known.length + 1 ≤ 1000) (by decide)
        have lb := hbo.len
        simp only [sExpr, dMeth, dV, List.getElem?_cons_zero, List.getElem?_cons_succ, asL_ref, hp1, Option.isSome_some, true_and, mAppend_ref, List.length_map]
        refine ⟨by omega, ?_⟩
        simp only [sPutD, dUn, dOp, dV, dC, List.getElem?_cons_zero, List.getElem?_cons_succ, oLen_ref, mset_same, List.length_append, List.length_map, List.length_singleton, oStr_nat]
        refine ⟨nb, ?_⟩
        simp only [name_d, oIx_tup, atI2_1, keyOf_str, hp2, byM, List.length_map]
        refine ⟨hk, by omega, ?_⟩
        rw [vM, name_d] at f
        simp only [List.map_append, List.map_cons, List.map_nil] at f
        rw [e3]
        have e4 : mset (mset (mset M dk (.deck 1 b1)) p (.lst (known.map D.str ++ [.str kind]))) m (byM (bys ++ [(x, num (known.length + 1))])) m = some (byM (bys ++ [(x, num (known.length + 1))])) := mset_same _ _ _
        generalize mset (mset (mset M dk (.deck 1 b1)) p (.lst (known.map D.str ++ [.str kind]))) m (byM (bys ++ [(x, num (known.length + 1))])) = M2 at f e4 ⊢
        rw [← e3] at e4
        simp only [sRet, dTup, dA, dA0, dC, dOp, dV, List.getElem?_cons_zero, List.getElem?_cons_succ, oIx_tup, atI2_1, oIxD, asK, e4, keyOf_str, hv2]
        exact f
      · rcases List.mem_append.mp hq with z | z
        · obtain ⟨i, hi, e⟩ := hbo.all q z
          exact ⟨i, by rw [List.length_append]; omega, e⟩
        · rw [List.mem_singleton.mp z]
          exact ⟨known.length, by simp, rfl⟩
  | made g ps =>
    obtain ⟨mk, hmk, rfl, hps⟩ := hof
    have hlen := ofs_len hps
    have gm := mkOf_good kind ks hK.good.all
    have gmm := gm.all mk hmk
    simp only [Say.ok, Bool.and_eq_true, decide_eq_true_eq] at hok
    simp only [Say.deep] at hdp
    refine sIf_c False (by intro Q q; simpa [made_d, atI3_0, ofString_inj] using q) (fun c => c.elim) (fun _ => ?_)
    refine next_i ?_
    dsimp only
    refine seq_i ?_
    simp only [sAsg, dOp, dComp, iSeq, dCall, dA, dV, dC, dA0, wipe, List.getElem?_cons_zero, List.getElem?_cons_succ]
    refine call_makers ?_
    refine ⟨by rw [List.length_map]; have := gm.len; omega, ?_⟩
    refine compT mkD (fun r => .tup (r.2.map D.str)) (fun r => decide (r.1 = mk.1)) (mkOf ks kind) ?_ ?_
    · intro y _ R N h1 h2
      by_cases c : y.1 = mk.1
      · simpa [mkD, atI2_0, atI2_1, made_d, atI3_1, c] using h1 (by simp [c])
      · simpa [mkD, atI2_0, atI2_1, made_d, atI3_1, c] using h2 (by simp [c])
    rw [filter_one (hK.mkNodup kind) hmk]
    simp only [List.map_cons, List.map_nil, oIx_lst, show atI [D.tup (mk.2.map D.str)] 0 = some (.tup (mk.2.map D.str)) from rfl, gName, List.set]
    simp only [sRet, dTup, dA, dA0, dC, dOp, dV, dUn, dComp, iZip, wipe, made_d, List.getElem?_cons_zero, List.getElem?_cons_succ, oIx_tup, atI3_1, atI3_2, List.set]
    rw [zipD_map]
    refine ⟨by simp; omega, ?_⟩
    refine compL (fun q : Say × Str => .tup [q.1.d, .str q.2]) (fun acc l M' => ∃ ss pre b' t bys', ps.zip mk.2 = pre ++ l ∧ acc = says ss ∧ ss.length = pre.length ∧ oks ss = true ∧ ths ss = true ∧ arws (arK ks) ss = true ∧ deeps ss ≤ deeps ps + 1 ∧ M' = vM M dk p m b' (known ++ t) bys' ∧ b1 ≤ b' + pre.length * VB n ∧ t.length ≤ pre.length * VB n ∧ ordN known.length (nmsL ss) (known ++ t).length ∧ ByOk (known ++ t) bys') ?_ ?_ (ps.zip mk.2) [] _ ⟨[], [], b1, [], bys, rfl, rfl, rfl, rfl, rfl, rfl, by simp [deeps], by rw [List.append_nil, keep], by simp, by simp, by simp [nmsL, ordN], by rw [List.append_nil]; exact hbo⟩
    · rintro acc ⟨q1, k1⟩ l M' N ⟨ss, pre, b', t, bys', e1, rfl, e2, s1, s2, s3, s4, rfl, hb', ht, hord, hbo'⟩ k
      have hmem : (q1, k1) ∈ ps.zip mk.2 := by rw [e1]; simp
      have hq := ofs_zip hps _ hmem
      have hq1 := (List.of_mem_zip hmem).1
      have hk1 := (List.of_mem_zip hmem).2
      have hpl : pre.length + 1 ≤ 3 := by
        have := congrArg List.length e1
        simp at this
        omega
      have hmul : pre.length * VB n ≤ 2 * VB n := Nat.mul_le_mul_right _ (by omega)
      have dq := deeps_mem (Nat.le_refl (deeps ps)) q1 hq1
      simp only [gTup, gCons, gName, gNil, dYes, dCall, dA, dV, dA0, List.set, List.getElem?_cons_zero, List.getElem?_cons_succ]
      rw [if_pos trivial]
      refine call_var (b := b') (known := known ++ t) (bys := bys') (by rw [vM, mset_ne (Ne.symm nm1), mset_ne (Ne.symm np), mset_same]) (by rw [vM, mset_ne (Ne.symm nm2), mset_same]) (mset_same _ _ _) ⟨⟨base, hK⟩, gmm.2.2 k1 hk1, ⟨nm, hq⟩, oks_mem hok.2 q1 hq1, by omega, by omega, by rw [List.length_append]; omega, hbo'⟩ ?_
      intro s' t' b'' bys'' z
      rw [vM_vM, says_snoc]
      refine k _ _ ⟨ss ++ [s'], pre ++ [(q1, k1)], b'', t ++ t', bys'', by rw [e1]; simp, rfl, by simp [e2], oks_snoc _ _ s1 z.ok, ?_, ?_, deeps_snoc _ _ _ s4 (by have := z.deep; omega), by rw [List.append_assoc], ?_, ?_, ?_, by rw [← List.append_assoc]; exact z.bo⟩
      · have : ∀ (l : List Say), ths l = true → ths (l ++ [s']) = true := by
          intro l
          induction l with
          | nil => intro _; simp [ths, z.th]
          | cons a r ih => intro h; simp only [ths, Bool.and_eq_true] at h; simp only [List.cons_append, ths, h.1, ih h.2, Bool.and_self]
        exact this ss s2
      · have : ∀ (l : List Say), arws (arK ks) l = true → arws (arK ks) (l ++ [s']) = true := by
          intro l
          induction l with
          | nil => intro _; simp [arws, z.arw]
          | cons a r ih => intro h; simp only [arws, Bool.and_eq_true] at h; simp only [List.cons_append, arws, h.1, ih h.2, Bool.and_self]
        exact this ss s3
      · have := z.hb
        rw [List.length_append, List.length_singleton, Nat.add_mul]
        omega
      · have := z.tl
        rw [List.length_append, List.length_append, List.length_singleton, Nat.add_mul]
        omega
      · rw [nmsL_snoc, ← List.append_assoc]
        exact ordN_append hord z.ord
    · rintro acc M' ⟨ss, pre, b', t, bys', e1, rfl, e2, s1, s2, s3, s4, rfl, hb', ht, hord, hbo'⟩
      rw [List.append_nil] at e1
      subst e1
      have hz : (ps.zip mk.2).length = ps.length := by simp; omega
      have hmul : (ps.zip mk.2).length * VB n ≤ 3 * VB n := Nat.mul_le_mul_right _ (by omega)
      rw [oTuple_lst]
      have f := fin (.made mk.1 ss) t b' bys' ⟨by omega, by omega, by simp only [Say.ok, s1, hok.1.1, Bool.and_true, Bool.true_and, decide_eq_true_eq]; omega, by simp only [Say.th]; exact s2, by simp only [Say.deep]; omega, by simp only [Say.arw, s3, Bool.and_true, decide_eq_true_eq]; rw [e2, hz, hlen]; exact ar_of hK hmk, by simp only [Say.nms]; exact hord, hbo'⟩
      rw [made_d, ← says_map] at f
      exact f
  | _ => exact hof.elim
/-! ### the second fills -/
structure Sec (ks : List Kd) (qs : List (Str × Str)) (t : List Str) (gs : Fd) : Prop where
  side : SideOk (arK ks) gs t.length
  names : gs.map (·.1) = qs.map (·.1)
def sp_sec : Spec := .of (fun (dk, ks, qs, fs, p) => [.ref dk, kindsD ks, .tup ((qs : List (Str × Str)).map nkD), .tup ((fs : Fd).map fpD), .ref p])
  (fun (dk, ks, qs, fs, p) M => (∃ base, KindsOk ks base) ∧ Asked ks qs ∧ (∃ t, Fills ks qs t fs) ∧ ∃ b, M dk = some (.deck 1 b) ∧ M p = some (.lst []) ∧ 300 ≤ b)
  fun (dk, ks, qs, fs, p) M d M' => ∀ b, M dk = some (.deck 1 b) → ∃ (gs : Fd) (t : List Str) (b' : Nat), d = .tup (gs.map fpD) ∧ Sec ks qs t gs ∧ M' = mset (mset M dk (.deck 1 b')) p (.lst (t.map D.str)) ∧ b ≤ b' + 300
theorem call_sec {dk p : Addr} {b : Nat} {ks : List Kd} {qs : List (Str × Str)} {fs : Fd} {base : Nat} {t0 : List Str} {M : Mem} {Q : DK} (h : M dk = some (.deck 1 b)) (hp : M p = some (.lst [])) (h1 : KindsOk ks base) (h2 : Asked ks qs) (h3 : Fills ks qs t0 fs) (h4 : 300 ≤ b)
    (q : ∀ (gs : Fd) (t : List Str) (b' : Nat), Sec ks qs t gs → b ≤ b' + 300 → Q (.tup (gs.map fpD)) (mset (mset M dk (.deck 1 b')) p (.lst (t.map D.str)))) :
    sp_sec.pre [.ref dk, kindsD ks, .tup (qs.map nkD), .tup (fs.map fpD), .ref p] M ∧ ∀ d M', sp_sec.post [.ref dk, kindsD ks, .tup (qs.map nkD), .tup (fs.map fpD), .ref p] M d M' → Q d M' :=
  ⟨⟨(dk, ks, qs, fs, p), rfl, ⟨base, h1⟩, h2, ⟨t0, h3⟩, b, h, hp, h4⟩, fun d M' z => by
    obtain ⟨gs, t, b', rfl, y1, rfl, y2⟩ := z (dk, ks, qs, fs, p) rfl b h
    exact q gs t b' y1 y2⟩
theorem Fills.side {ks : List Kd} {base : Nat} {qs : List (Str × Str)} {t : List Str} {fs : Fd} (hK : KindsOk ks base) (ha : Asked ks qs) (h : Fills ks qs t fs) : SideOk (arK ks) fs t.length := by
  have hl : fs.length = qs.length := by simpa using congrArg List.length h.names
  have h1 := ofs_ths _ _ h.of
  have h2 := ofs_arw hK _ _ h.of
  refine ⟨fun f hf => ths_mem h1 f.2 (List.mem_map.mpr ⟨f, hf, rfl⟩), fun f hf => (h.ok f hf).1, fun f hf => by have := (h.ok f hf).2; omega, fun f hf => arws_mem h2 f.2 (List.mem_map.mpr ⟨f, hf, rfl⟩), h.ord, by have := h.len; omega, by rw [hl]; exact ha.len, fun f hf => ?_⟩
  have : f.1 ∈ qs.map (·.1) := by rw [← h.names]; exact List.mem_map.mpr ⟨f, hf, rfl⟩
  obtain ⟨q, hq, e⟩ := List.mem_map.mp this
  rw [← e]
  exact (ha.all q hq).1
theorem zip_mem {α β γ δ : Type} (g : β → γ) (h : α → δ) : ∀ (xs : List α) (ys : List β) (a : α) (b : β), (a, b) ∈ xs.zip ys → (g b, h a) ∈ (ys.map g).zip (xs.map h)
  | [], _, a, b, hm => by simp at hm
  | _ :: _, [], a, b, hm => by simp at hm
  | x :: xs, y :: ys, a, b, hm => by
    simp only [List.zip_cons_cons, List.mem_cons, Prod.mk.injEq] at hm
    simp only [List.map_cons, List.zip_cons_cons, List.mem_cons, Prod.mk.injEq]
    rcases hm with ⟨rfl, rfl⟩ | hm
    · exact .inl ⟨rfl, rfl⟩
    · exact .inr (zip_mem g h xs ys a b hm)
theorem vM_h {M : Mem} {dk p m h : Addr} {b b' : Nat} {k k' : List Str} {y y' : By} {o o' : MO} (h1 : h ≠ dk) (h2 : h ≠ p) (h3 : h ≠ m) : mset (vM (mset (vM M dk p m b k y) h o) dk p m b' k' y') h o' = mset (vM M dk p m b' k' y') h o' := by
  funext c
  simp only [vM, mset]
  by_cases c0 : c = h
  · simp [c0]
  · by_cases c1 : c = m
    · simp [c0, c1]
    · by_cases c2 : c = p
      · simp [c0, c1, c2]
      · by_cases c3 : c = dk <;> simp [c0, c1, c2, c3]
theorem does_second : Does 12 (t__law_second (sp_var 3)) 5 sp_sec := by
  refine Does.of ?_ ?_
  · rintro ⟨dk, ks, qs, fs, p⟩ ⟨dk', ks', qs', fs', p'⟩ e
    simp only [List.cons.injEq, D.ref.injEq, D.tup.injEq, and_true] at e
    obtain ⟨rfl, e2, e3, e4, rfl⟩ := e
    rw [kindsD_inj e2, nk_inj e3, fps_inj e4]
  rintro ⟨dk, ks, qs, fs, p⟩ M R ⟨⟨base, hK⟩, ha, ⟨t0, hF⟩, b, hM, hp, hb⟩ ret
  have np : p ≠ dk := fun e => by rw [e, hM] at hp; cases hp
  have hal := ha.len
  have hfl : fs.length = qs.length := by simpa using congrArg List.length hF.names
  simp only [t__law_second]
  refine seq_i (asgNL ?_)
  intro p5 h5
  dsimp only
  have n5 : p5 ≠ dk := fun e => by rw [e, hM] at h5; cases h5
  have n5p : p5 ≠ p := fun e => by rw [e, hp] at h5; cases h5
  refine seq_i (asgND ?_)
  intro m hm0
  dsimp only
  have nm5 : m ≠ p5 := fun e => by rw [e, mset_same] at hm0; cases hm0
  rw [mset_ne nm5] at hm0
  have nmd : m ≠ dk := fun e => by rw [e, hM] at hm0; cases hm0
  have nmp : m ≠ p := fun e => by rw [e, hp] at hm0; cases hm0
  refine seq_i (asgNL ?_)
  intro h hh0
  dsimp only
  have nhm : h ≠ m := fun e => by rw [e, mset_same] at hh0; cases hh0
  rw [mset_ne nhm] at hh0
  have nh5 : h ≠ p5 := fun e => by rw [e, mset_same] at hh0; cases hh0
  rw [mset_ne nh5] at hh0
  have nhd : h ≠ dk := fun e => by rw [e, hM] at hh0; cases hh0
  have nhp : h ≠ p := fun e => by rw [e, hp] at hh0; cases hh0
  simp only [start, List.map, List.length, List.replicate, List.cons_append, List.nil_append, List.set]
  refine seq_i (for_i (zip_i (xs := qs.map nkD) (ys := fs.map fpD) (fun Q q => by simpa using q) (fun Q q => by simpa using q) ?_))
  rw [zipD_map]
  have e0 : mset (mset (mset M p5 (.lst [])) m (.dK [] [])) h (.lst []) = mset (vM M dk p5 m b [] []) h (.lst []) := by
    rw [vM, mset_self hM]
    rfl
  rw [e0]
  refine loopI (fun q : (Str × Str) × (Str × Say) => .tup [nkD q.1, fpD q.2]) (fun r ρ M' => ∃ pre gs t b' bys, qs.zip fs = pre ++ r ∧ gs.map (·.1) = pre.map (fun q => q.1.1) ∧ M' = mset (vM M dk p5 m b' t bys) h (.lst (gs.map fpD)) ∧ (∀ f ∈ gs, f.2.th = true ∧ f.2.ok = true ∧ f.2.deep ≤ 4 ∧ f.2.arw (arK ks) = true) ∧ ordN 0 (nmsL (gs.map (·.2))) t.length ∧ b ≤ b' + pre.length * 65 ∧ t.length ≤ pre.length * 65 ∧ ByOk t bys ∧
    ρ[0]? = some (some (.ref dk)) ∧ ρ[1]? = some (some (kindsD ks)) ∧ ρ[4]? = some (some (.ref p)) ∧ ρ[5]? = some (some (.ref p5)) ∧ ρ[6]? = some (some (.ref m)) ∧ ρ[7]? = some (some (.ref h)) ∧ 11 < ρ.length) ?_ ?_ (qs.zip fs) _ _ ⟨[], [], [], b, [], rfl, rfl, rfl, by simp, by simp [nmsL, ordN], by simp, by simp, ⟨by simp, by simp⟩, rfl, rfl, rfl, rfl, rfl, rfl, by simp⟩
  · rintro ⟨q, f⟩ r ρ M' N ⟨pre, gs, t, b', bys, e1, e2, rfl, g1, g2, g3, g4, g5, r0, r1, r4, r5, r6, r7, rl⟩ k
    have hmem : (q, f) ∈ qs.zip fs := by rw [e1]; simp
    have hof := ofs_zip hF.of _ (zip_mem (fun f : Str × Say => f.2) (fun q : Str × Str => q.2) qs fs q f hmem)
    have hq := ha.all q (List.of_mem_zip hmem).1
    have hf := hF.ok f (List.of_mem_zip hmem).2
    have hpl : pre.length + 1 ≤ 4 := by
      have := congrArg List.length e1
      simp at this
      omega
    have V3 : VB 3 = 65 := rfl
    simp only [gTup, gCons, gName, gNil, nkD, fpD]
    have st : ∀ {n : Nat}, n ≠ 8 → n ≠ 9 → n ≠ 10 → n ≠ 11 → ((((ρ.set 8 (some (D.str q.1))).set 9 (some (D.str q.2))).set 10 (some (D.str f.1))).set 11 (some f.2.d))[n]? = ρ[n]? := fun {n} a b c d => by
      rw [List.getElem?_set_ne (fun z => d z.symm), List.getElem?_set_ne (fun z => c z.symm), List.getElem?_set_ne (fun z => b z.symm), List.getElem?_set_ne (fun z => a z.symm)]
    have u0 := (st (n := 0) (by decide) (by decide) (by decide) (by decide)).trans r0
    have u1 := (st (n := 1) (by decide) (by decide) (by decide) (by decide)).trans r1
    have u4 := (st (n := 4) (by decide) (by decide) (by decide) (by decide)).trans r4
    have u5 := (st (n := 5) (by decide) (by decide) (by decide) (by decide)).trans r5
    have u6 := (st (n := 6) (by decide) (by decide) (by decide) (by decide)).trans r6
    have u7 := (st (n := 7) (by decide) (by decide) (by decide) (by decide)).trans r7
    have u8 : ((((ρ.set 8 (some (D.str q.1))).set 9 (some (D.str q.2))).set 10 (some (D.str f.1))).set 11 (some f.2.d))[8]? = some (some (.str q.1)) := by
      rw [List.getElem?_set_ne (by decide), List.getElem?_set_ne (by decide), List.getElem?_set_ne (by decide), List.getElem?_set_self (by omega)]
    have u9 : ((((ρ.set 8 (some (D.str q.1))).set 9 (some (D.str q.2))).set 10 (some (D.str f.1))).set 11 (some f.2.d))[9]? = some (some (.str q.2)) := by
      rw [List.getElem?_set_ne (by decide), List.getElem?_set_ne (by decide), List.getElem?_set_self (by rw [List.length_set]; omega)]
    have u11 : ((((ρ.set 8 (some (D.str q.1))).set 9 (some (D.str q.2))).set 10 (some (D.str f.1))).set 11 (some f.2.d))[11]? = some (some f.2.d) := List.getElem?_set_self (by simpa using rl)
    have ul : 11 < ((((ρ.set 8 (some (D.str q.1))).set 9 (some (D.str q.2))).set 10 (some (D.str f.1))).set 11 (some f.2.d)).length := by simpa using rl
    generalize (((ρ.set 8 (some (D.str q.1))).set 9 (some (D.str q.2))).set 10 (some (D.str f.1))).set 11 (some f.2.d) = ρ1 at u0 u1 u4 u5 u6 u7 u8 u9 u11 ul ⊢
    simp only [sExpr, dMeth, dTup, dA, dA0, dCall, dV, u0, u1, u5, u6, u7, u8, u9, u11, asL_ref, mset_same, Option.isSome_some, true_and]
    refine call_var (b := b') (known := t) (bys := bys) (by rw [mset_ne (Ne.symm nhd), vM, mset_ne (Ne.symm nmd), mset_ne (Ne.symm n5), mset_same]) (by rw [mset_ne (Ne.symm nh5), vM, mset_ne (Ne.symm nm5), mset_same]) (by rw [mset_ne (Ne.symm nhm)]; exact mset_same _ _ _) ⟨⟨base, hK⟩, hq.2, ⟨_, hof⟩, hf.1, hf.2, by omega, by omega, g5⟩ ?_
    intro s' t' b'' bys'' z
    have gl : gs.length = pre.length := by simpa using congrArg List.length e2
    have hv : vM (mset (vM M dk p5 m b' t bys) h (.lst (gs.map fpD))) dk p5 m b'' (t ++ t') bys'' h = some (.lst (gs.map fpD)) := by
      rw [vM, mset_ne nhm, mset_ne nh5, mset_ne nhd, mset_same]
    simp only [mAppend_ref, hv, List.length_map]
    refine ⟨by omega, ?_⟩
    rw [vM_h nhd nh5 nhm]
    have z1 := z.hb
    have z2 := z.tl
    have z3 := z.deep
    refine k _ _ ⟨pre ++ [(q, f)], gs ++ [(q.1, s')], t ++ t', b'', bys'', by rw [e1]; simp, by simp [e2], by simp [fpD], ?_, ?_, ?_, ?_, z.bo, u0, u1, u4, u5, u6, u7, ul⟩
    · intro x hx
      rcases List.mem_append.mp hx with y | y
      · exact g1 x y
      · rw [List.mem_singleton.mp y]
        exact ⟨z.th, z.ok, by show s'.deep ≤ 4; omega, z.arw⟩
    · simp only [List.map_append, List.map_cons, List.map_nil, nmsL_snoc]
      exact ordN_append g2 z.ord
    · rw [List.length_append, List.length_singleton, Nat.add_mul]; omega
    · rw [List.length_append, List.length_append, List.length_singleton, Nat.add_mul]; omega
  · rintro ρ M' ⟨pre, gs, t, b', bys, e1, e2, rfl, g1, g2, g3, g4, g5, r0, r1, r4, r5, r6, r7, rl⟩
    rw [List.append_nil] at e1
    subst e1
    have hz : (qs.zip fs).length = qs.length := by simp; omega
    have hmul : (qs.zip fs).length * 65 ≤ 260 := by omega
    have e3 : ∀ (l : List (Str × Str)) (k : Fd), l.length = k.length → (l.zip k).map (fun q => q.1.1) = l.map (·.1) := by
      intro l
      induction l with
      | nil => intro k _; simp
      | cons x r ih => intro k hk; cases k with
        | nil => simp at hk
        | cons y s => simp only [List.zip_cons_cons, List.map_cons]; rw [ih s (by simpa using hk)]
    rw [e3 qs fs hfl.symm] at e2
    have gl : gs.length = qs.length := by simpa using congrArg List.length e2
    dsimp only
    refine seq_i ?_
    have m5 : mset (vM M dk p5 m b' t bys) h (.lst (gs.map fpD)) p5 = some (.lst (t.map D.str)) := by rw [mset_ne (Ne.symm nh5), vM, mset_ne (Ne.symm nm5), mset_same]
    have q4 : (ρ.set 5 (some (.lst (t.map D.str))))[4]? = some (some (.ref p)) := by rw [List.getElem?_set_ne (by decide)]; exact r4
    have q5 : (ρ.set 5 (some (.lst (t.map D.str))))[5]? = some (some (.lst (t.map D.str))) := List.getElem?_set_self (by omega)
    have q7 : (ρ.set 5 (some (.lst (t.map D.str))))[7]? = some (some (.ref h)) := by rw [List.getElem?_set_ne (by decide)]; exact r7
    simp only [sFz, r5, m5]
    have mp : mdel (mset (vM M dk p5 m b' t bys) h (.lst (gs.map fpD))) p5 p = some (.lst []) := by
      unfold mdel
      rw [if_neg (Ne.symm n5p), mset_ne (Ne.symm nhp), vM, mset_ne (Ne.symm nmp), mset_ne (Ne.symm n5p), mset_ne np]
      exact hp
    simp only [sExpr, dMeth, dV, q4, q5, asL_ref, mp, Option.isSome_some, true_and, mExtend, List.length_nil, List.length_map, List.nil_append]
    refine ⟨by omega, ?_⟩
    have mh : mset (mdel (mset (vM M dk p5 m b' t bys) h (.lst (gs.map fpD))) p5) p (.lst (t.map D.str)) h = some (.lst (gs.map fpD)) := by
      rw [mset_ne nhp]
      unfold mdel
      rw [if_neg nh5, mset_same]
    simp only [sRet, dUn, dV, q7, oTuple_ref, mh]
    refine ret _ _ (.same (M' := mset (mset M dk (.deck 1 b')) p (.lst (t.map D.str))) ?_ fun b0 e => ?_)
    · intro c
      by_cases c1 : c = p
      · left; simp [mset, c1]
      by_cases c2 : c = p5
      · left
        rw [c2, mset_ne n5p, mset_ne n5p, mset_ne n5, h5]
        simp [mdel]
      by_cases c3 : c = h
      · right
        rw [c3, mset_ne nhp, mset_ne nhd, mset_ne nhp, hh0]
        refine ⟨rfl, ?_⟩
        simp [mdel, nh5, mset, soft]
      by_cases c4 : c = m
      · right
        rw [c4, mset_ne nmp, mset_ne nmd, mset_ne nmp, hm0]
        refine ⟨rfl, ?_⟩
        simp [mdel, nm5, mset, Ne.symm nhm, vM, soft, byM]
      left
      by_cases c5 : c = dk
      · simp [mset, mdel, vM, c5, Ne.symm np, Ne.symm n5, Ne.symm nhd, Ne.symm nmd]
      · simp [mset, mdel, vM, c1, c2, c3, c4, c5]
    · rw [hM] at e
      cases e
      refine ⟨gs, t, b', rfl, ⟨⟨fun f hf => (g1 f hf).1, fun f hf => (g1 f hf).2.1, fun f hf => (g1 f hf).2.2.1, fun f hf => (g1 f hf).2.2.2, g2, by omega, by omega, fun f hf => ?_⟩, e2⟩, rfl, by omega⟩
      have : f.1 ∈ qs.map (·.1) := by rw [← e2]; exact List.mem_map.mpr ⟨f, hf, rfl⟩
      obtain ⟨q, hq, e⟩ := List.mem_map.mp this
      rw [← e]
      exact (ha.all q hq).1
/-! ### the law -/
def sYes : Say := .made "yes" []
def sNo : Say := .made "no" []
theorem ans_yes (fs : Fd) : D.tup [.tup (fs.map fpD), .tup [.str "made", .str "yes", .tup []], .tup [.str "skip"], .int 0, .tup []] = ansD fs sYes 0 := by simp [ansD, sYes, made_d]
theorem ans_no (fs : Fd) : D.tup [.tup (fs.map fpD), .tup [.str "made", .str "no", .tup []], .tup [.str "skip"], .int 1, .tup []] = ansD fs sNo 1 := by simp [ansD, sNo, made_d]
theorem fit_yes : sYes.nms = [] ∧ Fit sYes := ⟨rfl, by simp only [sYes, Say.ok, oks, show nmOk (Str.ofString "yes") = true from nm_of "yes"]; rfl, by decide, by decide⟩
theorem fit_no : sNo.nms = [] ∧ Fit sNo := ⟨rfl, by simp only [sNo, Say.ok, oks, show nmOk (Str.ofString "no") = true from nm_of "no"]; rfl, by decide, by decide⟩
theorem set_ne' {ρ : Env} {i n : Nat} {x : Option D} (h : n ≠ i) : (ρ.set i x)[n]? = ρ[n]? := List.getElem?_set_ne (fun z => h z.symm)
theorem isN_tup (xs : List D) (M : Mem) (Q : DK) : oIsN (.tup xs) M Q = Q (.bl false) M := rfl
theorem com_none {ar : Str → Nat} {fs : Fd} {v w : Say} {k : Nat} (h : SideOk ar fs k) (M : Mem) (Q : DK) : oIsN (comV fs fs v w) M Q = Q (.bl false) M := by
  rw [comV, if_pos (com_self h), isN_tup]
abbrev tailB : DS := (sSeq (sIf (dNot (dTest (dCall sp_right (dA (dCall sp_com (dA (dV 6) (dA (dV 9) dA0))) (dA (dV 6) (dA (dV 9) (dA (dTup (dA (dUn oLen (dV 5)) (dA (dUn oLen (dV 7)) dA0))) dA0))))))) (sRet (dC (.bl false))) sNext)
  (sSeq (sIf (dNot (dTest (dCall sp_right (dA (dCall sp_com (dA (dV 9) (dA (dV 6) dA0))) (dA (dV 9) (dA (dV 6) (dA (dTup (dA (dUn oLen (dV 7)) (dA (dUn oLen (dV 5)) dA0))) dA0))))))) (sRet (dC (.bl false))) sNext)
  (sIf (dOr (dTest (dUn oIsN (dCall sp_com (dA (dV 6) (dA (dV 6) dA0))))) (dNot (dTest (dCall sp_right (dA (dCall sp_com (dA (dV 6) (dA (dV 6) dA0))) (dA (dV 6) (dA (dV 6) (dA (dTup (dA (dUn oLen (dV 5)) (dA (dUn oLen (dV 5)) dA0))) dA0)))))))) (sRet (dC (.bl false))) sNext)))
theorem tail_ok {ar : Str → Nat} {fs gs : Fd} {t u : List Str} (hf : SideOk ar fs t.length) (hg : SideOk ar gs u.length) (hn : fs.map (·.1) = gs.map (·.1)) {ρ : Env} {M : Mem} {p5 p7 : Addr} (r5 : ρ[5]? = some (some (.ref p5))) (r7 : ρ[7]? = some (some (.ref p7))) (r6 : ρ[6]? = some (some (ansD fs sYes 0))) (r9 : ρ[9]? = some (some (ansD gs sNo 1)))
    (m5 : M p5 = some (.lst (t.map D.str))) (m7 : M p7 = some (.lst (u.map D.str))) {E : DEnds} (q : E.nx ρ M) : tailB E ρ M := by
  have A : AnsPre ar fs sYes t.length := ⟨hf, fit_yes.1, fit_yes.2⟩
  have B : AnsPre ar gs sNo u.length := ⟨hg, fit_no.1, fit_no.2⟩
  have AB : Com2 ar fs gs sYes sNo t.length u.length := ⟨A, B, hn⟩
  have BA : Com2 ar gs fs sNo sYes u.length t.length := ⟨B, A, hn.symm⟩
  have AA : Com2 ar fs fs sYes sYes t.length t.length := ⟨A, A, rfl⟩
  refine seq_i ?_
  refine sIf_c False ?_ (fun c => c.elim) (fun _ => ?_)
  · intro Q z
    simp only [dNot, dTest, dCall, dA, dA0, dV, dTup, dUn, r5, r6, r7, r9, oLen_ref, m5, m7, List.length_map]
    refine call_com AB ?_
    simp only [m5, m7, List.length_map]
    refine call_right AB ?_
    simpa using z
  refine next_i ?_
  dsimp only
  refine seq_i ?_
  refine sIf_c False ?_ (fun c => c.elim) (fun _ => ?_)
  · intro Q z
    simp only [dNot, dTest, dCall, dA, dA0, dV, dTup, dUn, r5, r6, r7, r9, oLen_ref, m5, m7, List.length_map]
    refine call_com BA ?_
    simp only [m5, m7, List.length_map]
    refine call_right BA ?_
    simpa using z
  refine next_i ?_
  dsimp only
  refine sIf_c False ?_ (fun c => c.elim) (fun _ => ?_)
  · intro Q z
    simp only [dOr, dNot, dTest, dCall, dA, dA0, dV, dTup, dUn, r5, r6, oLen_ref, m5, List.length_map]
    refine call_com AA ?_
    rw [com_none hf]
    simp only
    rw [if_neg (by simp)]
    refine call_com AA ?_
    simp only [m5, List.length_map]
    refine call_right AA ?_
    simpa using z
  refine next_i ?_
  exact q
def sp_law : Spec := ⟨fun ds M => ∃ ns : List Int, ds = [.rol (ns.map D.int)] ∧ ns.length ≤ 63 ∧ M = fun _ => none, fun _ _ d _ => d = .bl true⟩
theorem does_law : Does 10 (t_law sp_com sp_right (sp_next 1 1000) sp_ofills sp_sec sp_asked sp_kinds (sp_deck 1 1000000)) 1 sp_law := by
  rintro ds M hl ⟨ns, rfl, hlen, rfl⟩
  have fin : ∀ M', Ret sp_law [.rol (ns.map D.int)] (fun _ => none) (.bl true) M' := fun M' => Ret.now rfl
  generalize Ret sp_law [.rol (ns.map D.int)] (fun _ => none) = R at fin ⊢
  simp only [t_law]
  refine seq_i ?_
  simp only [sAsg, dCall, dA, dA0, dV, start, List.map, List.length, List.replicate, List.cons_append, List.nil_append, List.getElem?_cons_zero]
  refine ⟨⟨ns, rfl, hlen, rfl⟩, ?_⟩
  rintro d M1 ⟨dk, rfl, h1⟩
  simp only [gName, List.set]
  refine seq_i ?_
  simp only [sAsg, dCall, dA, dA0, dV, List.getElem?_cons_zero, List.getElem?_cons_succ]
  refine call_kinds h1 (by omega) ?_
  intro ks base b hK hb
  simp only [gName, List.set]
  refine seq_i ?_
  simp only [sAsg, dCall, dA, dA0, dV, List.getElem?_cons_zero, List.getElem?_cons_succ]
  refine call_asked (mset_same _ _ _) hK.good (by omega) ?_
  intro qs b1 ha hb1
  rw [mset_mset]
  simp only [gName, List.set]
  refine seq_i (for_i ?_)
  simp only [iRange, dC]
  refine ⟨by decide, ?_⟩
  rw [show ((3 : Int)).toNat = 3 from rfl, upTo_map]
  refine loopI (fun (i : Nat) => D.int (i : Int)) (fun r ρ M' => ρ[1]? = some (some (.ref dk)) ∧ ρ[2]? = some (some (kindsD ks)) ∧ ρ[3]? = some (some (.tup (qs.map nkD))) ∧ 9 < ρ.length ∧ ∃ b, M' dk = some (.deck 1 b) ∧ 700 * r.length ≤ b) ?_ ?_ (List.range 3) _ _ ⟨rfl, rfl, rfl, by simp, b1, mset_same _ _ _, by simp; omega⟩
  · rintro i r ρ M' N ⟨r1, r2, r3, rl, b, hM, hbb⟩ k
    simp only [List.length_cons] at hbb
    have g1 := (set_ne' (ρ := ρ) (i := 4) (x := some (.int (i : Int))) (n := 1) (by decide)).trans r1
    have g2 := (set_ne' (ρ := ρ) (i := 4) (x := some (.int (i : Int))) (n := 2) (by decide)).trans r2
    have g3 := (set_ne' (ρ := ρ) (i := 4) (x := some (.int (i : Int))) (n := 3) (by decide)).trans r3
    have gl : 9 < (ρ.set 4 (some (.int (i : Int)))).length := by simpa using rl
    simp only [gName]
    generalize ρ.set 4 (some (.int (i : Int))) = ρ0 at g1 g2 g3 gl ⊢
    refine seq_i (asgNL ?_)
    intro p5 hp5
    dsimp only
    have n5 : p5 ≠ dk := fun e => by rw [e, hM] at hp5; cases hp5
    have a1 := (set_ne' (ρ := ρ0) (i := 5) (x := some (.ref p5)) (n := 1) (by decide)).trans g1
    have a2 := (set_ne' (ρ := ρ0) (i := 5) (x := some (.ref p5)) (n := 2) (by decide)).trans g2
    have a3 := (set_ne' (ρ := ρ0) (i := 5) (x := some (.ref p5)) (n := 3) (by decide)).trans g3
    have a5 : (ρ0.set 5 (some (.ref p5)))[5]? = some (some (.ref p5)) := List.getElem?_set_self (by omega)
    have al : 9 < (ρ0.set 5 (some (.ref p5))).length := by simpa using gl
    generalize ρ0.set 5 (some (.ref p5)) = ρ1 at a1 a2 a3 a5 al ⊢
    refine seq_i ?_
    simp only [sAsg, dTup, dCall, dA, dA0, dV, dC, a1, a2, a3, a5]
    refine call_ofills (b := b) (by rw [mset_ne (Ne.symm n5)]; exact hM) (mset_same _ _ _) hK.good ha (by omega) ?_
    intro fs t b2 hF hb2
    have e1 : mset (mset (mset M' p5 (.lst [])) dk (.deck 1 b2)) p5 (.lst (t.map D.str)) p5 = some (.lst (t.map D.str)) := mset_same _ _ _
    have e2 : mset (mset (mset M' p5 (.lst [])) dk (.deck 1 b2)) p5 (.lst (t.map D.str)) dk = some (.deck 1 b2) := by rw [mset_ne (Ne.symm n5), mset_same]
    generalize mset (mset (mset M' p5 (.lst [])) dk (.deck 1 b2)) p5 (.lst (t.map D.str)) = M2 at e1 e2 ⊢
    rw [ans_yes]
    simp only [gName]
    have c1 := (set_ne' (ρ := ρ1) (i := 6) (x := some (ansD fs sYes 0)) (n := 1) (by decide)).trans a1
    have c2 := (set_ne' (ρ := ρ1) (i := 6) (x := some (ansD fs sYes 0)) (n := 2) (by decide)).trans a2
    have c3 := (set_ne' (ρ := ρ1) (i := 6) (x := some (ansD fs sYes 0)) (n := 3) (by decide)).trans a3
    have c5 := (set_ne' (ρ := ρ1) (i := 6) (x := some (ansD fs sYes 0)) (n := 5) (by decide)).trans a5
    have c6 : (ρ1.set 6 (some (ansD fs sYes 0)))[6]? = some (some (ansD fs sYes 0)) := List.getElem?_set_self (by omega)
    have cl : 9 < (ρ1.set 6 (some (ansD fs sYes 0))).length := by simpa using al
    generalize ρ1.set 6 (some (ansD fs sYes 0)) = ρ2 at c1 c2 c3 c5 c6 cl ⊢
    refine seq_i (asgNL ?_)
    intro p7 hp7
    dsimp only
    have n7 : p7 ≠ dk := fun e => by rw [e, e2] at hp7; cases hp7
    have n75 : p7 ≠ p5 := fun e => by rw [e, e1] at hp7; cases hp7
    have d1 := (set_ne' (ρ := ρ2) (i := 7) (x := some (.ref p7)) (n := 1) (by decide)).trans c1
    have d2 := (set_ne' (ρ := ρ2) (i := 7) (x := some (.ref p7)) (n := 2) (by decide)).trans c2
    have d3 := (set_ne' (ρ := ρ2) (i := 7) (x := some (.ref p7)) (n := 3) (by decide)).trans c3
    have d5 := (set_ne' (ρ := ρ2) (i := 7) (x := some (.ref p7)) (n := 5) (by decide)).trans c5
    have d6 := (set_ne' (ρ := ρ2) (i := 7) (x := some (.ref p7)) (n := 6) (by decide)).trans c6
    have d7 : (ρ2.set 7 (some (.ref p7)))[7]? = some (some (.ref p7)) := List.getElem?_set_self (by omega)
    have dl : 9 < (ρ2.set 7 (some (.ref p7))).length := by simpa using cl
    generalize ρ2.set 7 (some (.ref p7)) = ρ3 at d1 d2 d3 d5 d6 d7 dl ⊢
    -- whatever the second fills are
    have rest : ∀ (gs : Fd) (u : List Str) (b4 : Nat) (M4 : Mem) (E : DEnds), SideOk (arK ks) gs u.length → gs.map (·.1) = qs.map (·.1) → M4 p5 = some (.lst (t.map D.str)) → M4 p7 = some (.lst (u.map D.str)) → M4 dk = some (.deck 1 b4) → 700 * r.length ≤ b4 → E.nx = N →
        (sSeq (sAsg (dTup (dA (dV 8) (dA (dTup (dA (dC (.str "made")) (dA (dC (.str "no")) (dA (dTup dA0) dA0)))) (dA (dTup (dA (dC (.str "skip")) dA0)) (dA (dC (.int 1)) (dA (dTup dA0) dA0)))))) (gName 9)) tailB) E (ρ3.set 8 (some (.tup (gs.map fpD)))) M4 := by
      intro gs u b4 M4 E hS hnm x5 x7 xd hbb4 eN
      refine seq_i ?_
      have f8 : (ρ3.set 8 (some (.tup (gs.map fpD))))[8]? = some (some (.tup (gs.map fpD))) := List.getElem?_set_self (by omega)
      simp only [sAsg, dTup, dA, dA0, dV, dC, f8]
      rw [ans_no]
      simp only [gName]
      have w : ∀ {n : Nat}, n ≠ 8 → n ≠ 9 → ((ρ3.set 8 (some (.tup (gs.map fpD)))).set 9 (some (ansD gs sNo 1)))[n]? = ρ3[n]? := fun a b => (set_ne' b).trans (set_ne' a)
      refine tail_ok (hF.side hK ha) hS (hF.names.trans hnm.symm) ((w (by decide) (by decide)).trans d5) ((w (by decide) (by decide)).trans d7) ((w (by decide) (by decide)).trans d6) (List.getElem?_set_self (by simp; omega)) x5 x7 ?_
      rw [eN]
      exact k _ _ ⟨(w (by decide) (by decide)).trans d1, (w (by decide) (by decide)).trans d2, (w (by decide) (by decide)).trans d3, by simpa using dl, b4, xd, hbb4⟩
    refine seq_i ?_
    simp only [sIf, dTest, dOp, dCall, dA, dA0, dV, dC, d1]
    refine draw (b := b2) (by rw [mset_ne (Ne.symm n7)]; exact e2) (by omega) fun rr b3 h0 hr hb3 => ?_
    have y5 : mset (mset M2 p7 (.lst [])) dk (.deck 1 b3) p5 = some (.lst (t.map D.str)) := by rw [mset_ne n5, mset_ne (Ne.symm n75)]; exact e1
    have y7 : mset (mset M2 p7 (.lst [])) dk (.deck 1 b3) p7 = some (.lst []) := by rw [mset_ne n7, mset_same]
    have yd : mset (mset M2 p7 (.lst [])) dk (.deck 1 b3) dk = some (.deck 1 b3) := mset_same _ _ _
    generalize mset (mset M2 p7 (.lst [])) dk (.deck 1 b3) = M3 at y5 y7 yd ⊢
    simp only [oMod_int, oEq, eqB_int]
    refine ⟨by decide, ?_⟩
    by_cases c : rr % 3 = 0
    · simp only [c, decide_true, if_true]
      simp only [sAsg, dCall, dA, dA0, dV, d1, d2, d3, d7]
      refine call_ofills (b := b3) yd y7 hK.good ha (by omega) ?_
      intro gs u b4 hG hb4
      simp only [gName]
      exact rest gs u b4 _ _ (hG.side hK ha) hG.names (by rw [mset_ne (Ne.symm n75), mset_ne n5]; exact y5) (mset_same _ _ _) (by rw [mset_ne (Ne.symm n7), mset_same]) (by omega) rfl
    · simp only [c, decide_false]
      rw [if_neg (by simp)]
      simp only [sAsg, dCall, dA, dA0, dV, dOp, dC, d1, d2, d3, d6, d7, ans0]
      refine call_sec (b := b3) yd y7 hK ha hF (by omega) ?_
      intro gs u b4 hG hb4
      simp only [gName]
      exact rest gs u b4 _ _ hG.side hG.names (by rw [mset_ne (Ne.symm n75), mset_ne n5]; exact y5) (mset_same _ _ _) (by rw [mset_ne (Ne.symm n7), mset_same]) (by omega) rfl
  · rintro ρ M' _
    simpa using fin M'
/-! ### the deck of kind one, as it is made and drawn from -/
def nonneg (ns : List Int) : Prop := ∀ x ∈ ns, 0 ≤ x
/-- what lies where -/
structure DeckAt1 (M : Mem) (dk rs : Addr) (n : Int) (cs rr : List Int) : Prop where
  ne3 : rs ≠ dk
  at0 : M dk = some (.lst [.lst (intsD cs), .int n, .ref rs])
  at2 : M rs = some (.lst (intsD rr))
  s1 : nonneg cs
  s2 : nonneg rr
  nn : cs ≠ []
  ln : rr.length = cs.length
  n0 : 0 ≤ n
def sp_nextC1 : Spec := ⟨fun as M => ∃ dk rs n cs rr, as = [.ref dk] ∧ DeckAt1 M dk rs n cs rr ∧ n + 1 ≤ 2 ^ 40,
  fun as M d M' => ∀ dk rs n cs rr, as = [.ref dk] → DeckAt1 M dk rs n cs rr → ∃ (k : Int) (rr' : List Int), d = .int k ∧ 0 ≤ k ∧ k < 1000 ∧ M' = mset (mset M dk (.lst [.lst (intsD cs), .int (n + 1), .ref rs])) rs (.lst (intsD rr')) ∧ rr'.length = rr.length ∧ nonneg rr'⟩
theorem ixN3b : ixN 3 1 = some 1 := rfl
theorem intsD_inj : ∀ {u v : List Int}, intsD u = intsD v → v = u
  | [], [], _ => rfl
  | [], _ :: _, h => by cases h
  | _ :: _, [], h => by cases h
  | x :: u, y :: v, h => by
    simp only [intsD, List.map_cons, List.cons.injEq, D.int.injEq] at h
    rw [h.1, intsD_inj (u := u) (v := v) h.2]
theorem DeckAt1.one {M : Mem} {dk rs rs' : Addr} {n n' : Int} {cs rr cs' rr' : List Int} (a : DeckAt1 M dk rs n cs rr) (b : DeckAt1 M dk rs' n' cs' rr') : rs' = rs ∧ n' = n ∧ cs' = cs ∧ rr' = rr := by
  have h := a.at0.symm.trans b.at0
  simp only [Option.some.injEq, MO.lst.injEq, List.cons.injEq, D.ref.injEq, D.int.injEq, D.lst.injEq, and_true] at h
  obtain ⟨h1, rfl, rfl⟩ := h
  have h2 := a.at2.symm.trans b.at2
  simp only [Option.some.injEq, MO.lst.injEq] at h2
  exact ⟨rfl, rfl, intsD_inj h1, intsD_inj h2⟩
theorem ints_at {cs : List Int} {i : Int} (h0 : 0 ≤ i) (h1 : i < cs.length) : ∃ c, atI (intsD cs) i = some (.int c) ∧ c ∈ cs := by
  obtain ⟨j, hj⟩ := Int.eq_ofNat_of_zero_le h0
  subst hj
  have hj' : j < cs.length := by omega
  refine ⟨cs[j], ?_, List.getElem_mem hj'⟩
  rw [atI_nat' (by simpa [intsD] using hj')]
  simp [intsD]
def primes : List Int := [2147483629, 2147483587, 2147483579, 2147483563, 2147483549, 2147483543, 2147483497]
def primesE : DE := (dLst (dA (dC (.int 2147483629)) (dA (dC (.int 2147483587)) (dA (dC (.int 2147483579)) (dA (dC (.int 2147483563)) (dA (dC (.int 2147483549)) (dA (dC (.int 2147483543)) (dA (dC (.int 2147483497)) dA0))))))))
theorem ev_primes : primesE = fun _ M Q => Q (.lst (intsD primes)) M := rfl
theorem primes_pos : ∀ x ∈ primes, 0 < x ∧ x < 2147483648 := by
  intro x hx
  simp only [primes, List.mem_cons, List.not_mem_nil, or_false] at hx
  rcases hx with rfl | rfl | rfl | rfl | rfl | rfl | rfl <;> decide
theorem t_next_eq : t__law_next = (sSeq (sAsg (dV 0) (gLst (gCons (gName 1) (gCons (gName 2) (gCons (gName 3) gNil)))))
  (sSeq (sAsg (dOp oMod (dV 2) (dUn oLen (dV 1))) (gName 4))
  (sSeq (sAsg (dOp oAdd (dV 2) (dC (.int 1))) (gSub (dV 0) (dC (.int 1))))
  (sSeq (sIf (dTest (dOp oGt (dOp oIx (dV 3) (dV 4)) (dC (.int 0)))) (sSeq (sAsg (dOp oMod (dOp oIx (dV 3) (dV 4)) (dC (.int 1000))) (gName 5))
  (sSeq (sAsg (dOp oFdiv (dOp oIx (dV 3) (dV 4)) (dC (.int 1000))) (gSub (dV 3) (dV 4)))
  (sRet (dV 5)))) sNext)
  (sSeq (sAsg primesE (gName 6))
  (sSeq (sAsg (dOp oMod (dOp oIx (dV 1) (dOp oMod (dOp oAdd (dOp oAdd (dOp oMul (dV 4) (dV 4)) (dV 2)) (dC (.int 1))) (dUn oLen (dV 1)))) (dC (.int 1000003))) (gName 7))
  (sSeq (sAsg (dOp oAdd (dOp oAdd (dOp oAdd (dOp oMod (dOp oIx (dV 1) (dV 4)) (dC (.int 2147483647))) (dOp oMul (dC (.int 69621)) (dV 2))) (dOp oMul (dC (.int 7919)) (dV 7))) (dC (.int 91193))) (gName 8))
  (sSeq (sAsg (dOp oMod (dOp oPow (dV 8) (dC (.int 3))) (dOp oIx (dV 6) (dOp oMod (dV 2) (dC (.int 7))))) (gName 8))
  (sRet (dOp oMod (dOp oFdiv (dOp oMod (dOp oPow (dOp oAdd (dV 8) (dOp oMul (dC (.int 7907)) (dV 2))) (dC (.int 2))) (dC (.int 2147483477))) (dC (.int 1009))) (dC (.int 1000)))))))))))) := rfl
theorem does_next1 : Does 9 t__law_next 1 sp_nextC1 := by
  rintro as M hl ⟨dk, rs, n, cs, rr, rfl, A, hn⟩
  have h0 := A.at0
  have h2 := A.at2
  have hn0 := A.n0
  have hcl : 0 < cs.length := List.length_pos_iff.mpr A.nn
  have hpos : 0 < (cs.length : Int) := by omega
  have hlc : (intsD cs).length = cs.length := by simp [intsD]
  have hlr : (intsD rr).length = rr.length := by simp [intsD]
  have a0 := Int.emod_nonneg n (Int.ne_of_gt hpos)
  have a1 := Int.emod_lt_of_pos n hpos
  obtain ⟨at_, hat⟩ : ∃ at_, at_ = n % (cs.length : Int) := ⟨_, rfl⟩
  rw [← hat] at a0 a1
  have m1 : (mset M dk (.lst [.lst (intsD cs), .int (n + 1), .ref rs])) rs = some (.lst (intsD rr)) := by rw [mset_ne A.ne3]; exact h2
  obtain ⟨r, hr, hrm⟩ := ints_at (cs := rr) a0 (by rw [A.ln]; exact a1)
  obtain ⟨c, hc, hcm⟩ := ints_at (cs := cs) a0 a1
  have hr0 := A.s2 r hrm
  have fin : ∀ (k : Int) (rr' : List Int), 0 ≤ k → k < 1000 → rr'.length = rr.length → nonneg rr' → Ret sp_nextC1 [.ref dk] M (.int k) (mset (mset M dk (.lst [.lst (intsD cs), .int (n + 1), .ref rs])) rs (.lst (intsD rr'))) := by
    intro k rr' k0 k1 e1 e2
    refine Ret.now fun dk' rs' n' cs' rr2 e B => ?_
    simp only [List.cons.injEq, D.ref.injEq, and_true] at e
    subst e
    obtain ⟨rfl, rfl, rfl, rfl⟩ := A.one B
    exact ⟨k, rr', rfl, k0, k1, rfl, e1, e2⟩
  rw [t_next_eq]
  by_cases hp : 0 < r
  · obtain ⟨j, hj⟩ := Int.eq_ofNat_of_zero_le a0
    have hjl : j < rr.length := by rw [A.ln]; omega
    have hix : ixN rr.length at_ = some j := by unfold ixN; rw [if_pos a0, if_pos (by omega), hj]; rfl
    have f := fin (r % 1000) (rr.set j (r / 1000)) (Int.emod_nonneg _ (by decide)) (Int.emod_lt_of_pos _ (by decide)) (by simp) (by
      intro x hx
      rcases List.mem_or_eq_of_mem_set hx with h | h
      · exact A.s2 x h
      · rw [h]; exact Int.ediv_nonneg hr0 (by decide))
    have es : intsD (rr.set j (r / 1000)) = (intsD rr).set j (.int (r / 1000)) := by simp [intsD, List.map_set]
    rw [es] at f
    simp [asL, h0, hlc, hlr, ← hat, m1, hr, hp, ixN3b, hix]
    exact ⟨hcl, f⟩
  · have hle : at_ ≤ n := by
      have e := Int.mul_ediv_add_emod n (cs.length : Int)
      have p := Int.mul_nonneg (Int.le_of_lt hpos) (Int.ediv_nonneg hn0 (Int.le_of_lt hpos))
      omega
    obtain ⟨c2, hc2, hcm2⟩ := ints_at (cs := cs) (Int.emod_nonneg (at_ * at_ + n + 1) (Int.ne_of_gt hpos)) (Int.emod_lt_of_pos _ hpos)
    obtain ⟨q, hq, hqm⟩ := ints_at (cs := primes) (Int.emod_nonneg n (by decide : (7 : Int) ≠ 0)) (Int.emod_lt_of_pos n (by decide : (0 : Int) < 7))
    have hqp := primes_pos q hqm
    have o0 := Int.emod_nonneg c2 (by decide : (1000003 : Int) ≠ 0)
    have o1 := Int.emod_lt_of_pos c2 (by decide : (0 : Int) < 1000003)
    have c0 := Int.emod_nonneg c (by decide : (2147483647 : Int) ≠ 0)
    have c1 := Int.emod_lt_of_pos c (by decide : (0 : Int) < 2147483647)
    obtain ⟨mx, hmx⟩ : ∃ mx, mx = c % 2147483647 + 69621 * n + 7919 * (c2 % 1000003) + 91193 := ⟨_, rfl⟩
    have b1 : mx.natAbs < 2 ^ 64 := by omega
    have q0 := Int.emod_nonneg (mx ^ 3) (Int.ne_of_gt hqp.1)
    have q1 := Int.emod_lt_of_pos (mx ^ 3) hqp.1
    obtain ⟨my, hmy⟩ : ∃ my, my = mx ^ 3 % q := ⟨_, rfl⟩
    rw [← hmy] at q0 q1
    have b2 : (my + 7907 * n).natAbs < 2 ^ 64 := by omega
    have f := fin ((my + 7907 * n) ^ 2 % 2147483477 / 1009 % 1000) rr (Int.emod_nonneg _ (by decide)) (Int.emod_lt_of_pos _ (by decide)) rfl A.s2
    rw [mset_self m1] at f
    have sa : small at_ := ⟨by omega, by omega⟩
    have hp' : ¬ 0 < r := hp
    simp [asL, h0, hlc, hlr, ← hat, m1, hr, hp', ixN3b, ev_primes]
    refine ⟨hcl, sa, hcl, ?_⟩
    simp [hc2, hc, hq, small]
    rw [← hmx]
    refine ⟨by simpa using b1, hqp.1, ?_⟩
    rw [← hmy]
    exact ⟨by simpa using b2, f⟩
/-! ### it is made -/
def absI (x : Int) : Int := if x < 0 then -x else x
theorem absI_nonneg (x : Int) : 0 ≤ absI x := by unfold absI; split <;> omega
def restI (x : Int) : Int := if (1000000000000000000 : Int) ≤ x then x else 0
theorem abs_comp (M : Mem) (Q : DK) (ρ : Env) (h : 2 < ρ.length) : ∀ (xs acc : List Int), Q (.lst (intsD (acc ++ xs.map absI))) M →
    dCompL (gName 2) dYes (dUn oAbs (dV 2)) ρ (intsD xs) (intsD acc) M Q := by
  intro xs
  induction xs with
  | nil => intro acc q; simpa [intsD] using q
  | cons x xs ih =>
    intro acc q
    have g2 : (ρ.set 2 (some (.int x)))[2]? = some (some (.int x)) := by rw [List.getElem?_set_self h]
    show dCompL (gName 2) dYes (dUn oAbs (dV 2)) ρ (.int x :: intsD xs) (intsD acc) M Q
    simp only [dCompL, gName, dYes, if_true, dUn, dV, g2, oAbs_int]
    have e : intsD acc ++ [.int (if x < 0 then -x else x)] = intsD (acc ++ [absI x]) := by simp [intsD, absI]
    rw [e]
    refine ih (acc ++ [absI x]) ?_
    simpa [List.append_assoc] using q
theorem rest_comp (M : Mem) (Q : DK) (ρ : Env) (h : 2 < ρ.length) : ∀ (xs acc : List Int), Q (.lst (intsD (acc ++ xs.map restI))) M →
    dCompL (gName 2) dYes (dOp oMul (dV 2) (dUn oInt (dOp oGe (dV 2) (dOp oPow (dC (.int 10)) (dC (.int 18)))))) ρ (intsD xs) (intsD acc) M Q := by
  intro xs
  induction xs with
  | nil => intro acc q; simpa [intsD] using q
  | cons x xs ih =>
    intro acc q
    have g2 : (ρ.set 2 (some (.int x)))[2]? = some (some (.int x)) := by rw [List.getElem?_set_self h]
    have z := ih (acc ++ [restI x]) (by simpa [List.append_assoc] using q)
    have e : intsD (acc ++ [restI x]) = intsD acc ++ [.int (restI x)] := by simp [intsD]
    rw [e] at z
    show dCompL (gName 2) dYes (dOp oMul (dV 2) (dUn oInt (dOp oGe (dV 2) (dOp oPow (dC (.int 10)) (dC (.int 18)))))) ρ (.int x :: intsD xs) (intsD acc) M Q
    rw [dCompL]
    generalize dCompL (gName 2) dYes (dOp oMul (dV 2) (dUn oInt (dOp oGe (dV 2) (dOp oPow (dC (.int 10)) (dC (.int 18)))))) ρ (intsD xs) = N at z ⊢
    by_cases c : (1000000000000000000 : Int) ≤ x
    · have er : restI x = x := if_pos c
      rw [er] at z
      simp [g2, c, small]
      exact z
    · have er : restI x = 0 := if_neg c
      rw [er] at z
      simp [g2, c, small]
      exact z
def sp_deckC1 : Spec := ⟨fun ds M => ∃ ns : List Int, ds = [.rol (ns.map D.int)] ∧ ns.length ≤ 63 ∧ M = fun _ => none,
  fun _ _ d M' => ∃ dk rs cs rr, d = .ref dk ∧ DeckAt1 M' dk rs 0 cs rr ∧ ∀ a, a ≠ dk → a ≠ rs → M' a = none⟩
abbrev deckRet : DS := (sRet (dNew (dA (dV 1) (dA (dC (.int 0)) (dA (dCompN (iSeq (dV 1)) (gName 2) dYes (dOp oMul (dV 2) (dUn oInt (dOp oGe (dV 2) (dOp oPow (dC (.int 10)) (dC (.int 18)))))) [2]) dA0)))))
theorem cmp_int1 (i : Int) : cmpOk (.int i) = true := by
  simp only [cmpOk, plain, depth, Bool.true_and]
  exact decide_eq_true (by omega)
theorem deck_ret (E : DEnds) (M : Mem) (o0 : Option D) (cs : List Int) (hl : cs.length ≤ 64)
    (fin : ∀ dk rs, M rs = none → mset M rs (.lst (intsD (cs.map restI))) dk = none → E.rt (.ref dk) (mset (mset M rs (.lst (intsD (cs.map restI)))) dk (.lst [.lst (intsD cs), .int 0, .ref rs]))) :
    deckRet E [o0, some (.lst (intsD cs)), none] M := by
  show (intsD cs).length ≤ 100000 ∧ dCompL (gName 2) dYes (dOp oMul (dV 2) (dUn oInt (dOp oGe (dV 2) (dOp oPow (dC (.int 10)) (dC (.int 18)))))) [o0, some (.lst (intsD cs)), none] (intsD cs) [] M _
  refine ⟨by simp [intsD]; omega, ?_⟩
  refine rest_comp M _ _ (by simp) cs [] ?_
  rw [List.nil_append]
  intro rs hrs
  intro dk hdk
  exact fin dk rs hrs hdk
theorem does_deck1 : Does 3 t__law_deck 1 sp_deckC1 := by
  rintro as M hl ⟨ns, rfl, hns, rfl⟩
  have hcut : cut (ns.map D.int) none (some 63) = intsD ns := by
    simp [cut, sIx, intsD]
    exact List.take_of_length_le (by simp; omega)
  have go : ∀ cs : List Int, cs ≠ [] → nonneg cs → cs.length ≤ 64 → deckRet { nx := fun _ M' => Ret sp_deckC1 [.rol (ns.map D.int)] (fun _ => none) .non M', rt := Ret sp_deckC1 [.rol (ns.map D.int)] (fun _ => none) } [some (.rol (ns.map D.int)), some (.lst (intsD cs)), none] (fun _ => none) := by
    intro cs h1 h2 h3
    refine deck_ret _ _ _ cs h3 ?_
    intro dk rs _ hdk
    have ne : rs ≠ dk := fun e => by rw [e, mset_same] at hdk; cases hdk
    refine Ret.now ⟨dk, rs, cs, cs.map restI, rfl, ⟨ne, mset_same _ _ _, by rw [mset_ne ne, mset_same], h2, ?_, h1, by simp, Int.le_refl _⟩, fun a a1 a2 => by rw [mset_ne a1, mset_ne a2]⟩
    intro x hx
    obtain ⟨y, hy, rfl⟩ := List.mem_map.mp hx
    unfold restI
    split
    · omega
    · exact Int.le_refl _
  have habs : nonneg (ns.map absI) := by
    intro x hx
    obtain ⟨y, _, rfl⟩ := List.mem_map.mp hx
    exact absI_nonneg y
  show (cut (ns.map D.int) none (some 63)).length ≤ 100000 ∧ dCompL (gName 2) dYes (dUn oAbs (dV 2)) [some (.rol (ns.map D.int)), none, none] (cut (ns.map D.int) none (some 63)) [] _ _
  rw [hcut]
  refine ⟨by simp [intsD]; omega, ?_⟩
  refine abs_comp _ _ _ (by simp) ns [] ?_
  rw [List.nil_append]
  cases ns with
  | nil =>
    have g := go [0] (by simp) (by intro x hx; simp at hx; omega) (by simp)
    simp [cmp_int1, intsD] at g ⊢
    exact g
  | cons x r =>
    have g := go ((x :: r).map absI) (by simp) habs (by simp at hns ⊢; omega)
    have hl2 : ¬ ((r.length : Int) + 1 = 0) := by omega
    simp [cmp_int1, intsD, hl2] at g ⊢
    exact g
end DL
end
namespace DL
open PySem PySem.Spec PyProof.Rows L2
def top (i : Nat) : Stmt := PySem.Challenge.pw_needfill_k50_things_in_common.main.body.getD i (.Pass ⟨0, 0, 0, 0⟩)
section
variable {P : Program} {w : World} {K : PySem.W.Frag} {mg : Str → Option Value} {base : Heap} {k : Nat}
abbrev s_parts_of : Stmt := top 1
abbrev N_parts_of : List Str := ["saying"]
theorem sc_parts_of : FnScope N_parts_of ["saying"] (defScope s_parts_of) := ⟨rfl, rfl, rfl, by decide +kernel, rfl, by decide +kernel, by decide +kernel⟩
theorem fn_parts_of {a : Addr} {fd : FuncData} {sp : Spec} (F : FunD K "parts_of" "parts_of" (defArgs s_parts_of) (defBody s_parts_of) (defScope s_parts_of) [] [] a fd) (hm : mg "parts_of" = some (.ref a)) (does : Does 1 (t_parts_of) 1 sp) : Fn P w K mg base (k + 1) "parts_of" 1 sp := by
  refine ⟨a, fd, ["saying"], def_ok F sc_parts_of rfl (fun cdv A outer s H E hr => ?_) does, hm, F.kp, F.bindsN fun _ _ _ _ _ _ us hl => match us, hl with | [_], _ => rfl⟩
  have nd := sc_parts_of.nd
  exact ⟨_, (rss_cons (rs_if (rt_cmp (c_in K) (re_ix K (re_v 0) re_int) (re_tup (ra_cons re_str (ra_cons re_str ra_nil)))) (rss_one (rs_ret (re_ix K (re_v 0) re_int))) rss_nil)
  (rss_cons (rs_if (rt_cmp (c_in K) (re_ix K (re_v 0) re_int) (re_tup (ra_cons re_str (ra_cons re_str ra_nil)))) (rss_one (rs_ret (re_cut K (re_v 0) (ro_some re_int) ro_none))) rss_nil)
  (rss_one (rs_ret (re_tup ra_nil)))))⟩
abbrev s_add_nodes : Stmt := top 2
abbrev N_add_nodes : List Str := ["found", "path", "saying", "number", "part"]
theorem sc_add_nodes : FnScope N_add_nodes ["found", "path", "saying"] (defScope s_add_nodes) := ⟨rfl, rfl, rfl, by decide +kernel, rfl, by decide +kernel, by decide +kernel⟩
theorem fn_add_nodes {a : Addr} {fd : FuncData} {sp : Spec} (F : FunD K "add_nodes" "add_nodes" (defArgs s_add_nodes) (defBody s_add_nodes) (defScope s_add_nodes) [] [] a fd) (hm : mg "add_nodes" = some (.ref a)) {sp_parts_of : Spec} (c_parts_of : Fn P w K mg base k "parts_of" 1 sp_parts_of) {sp_add_nodes : Spec} (c_add_nodes : Fn P w K mg base k "add_nodes" 3 sp_add_nodes) (m_enumerate : mg "enumerate" = none) (does : Does 5 (t_add_nodes sp_parts_of sp_add_nodes) 3 sp) : Fn P w K mg base (k + 1) "add_nodes" 3 sp := by
  refine ⟨a, fd, ["found", "path", "saying"], def_ok F sc_add_nodes rfl (fun cdv A outer s H E hr => ?_) does, hm, F.kp, F.bindsN fun _ _ _ _ _ _ us hl => match us, hl with | [_, _, _], _ => rfl⟩
  have nd := sc_add_nodes.nd
  exact ⟨_, (rss_cons (rs_expr (re_append K (re_v 0) (re_tup (ra_cons (re_v 1) (ra_cons (re_v 2) ra_nil)))))
  (rss_one (rs_for PassesOwn.never rfl (ri_enum K (by rfl) m_enumerate (re_fn K c_parts_of hr (by rfl) (ra_cons (re_v 2) ra_nil))) (rg_tup K (by rfl) (rgs_name (i := 3) nd (by rfl) (by first | exact Or.inl rfl | exact Or.inr rfl) (rgs_name (i := 4) nd (by rfl) (by first | exact Or.inl rfl | exact Or.inr rfl) rgs_nil))) (rss_one (rs_expr (re_fn K c_add_nodes hr (by rfl) (ra_cons (re_v 0) (ra_cons (re_add K (re_v 1) (re_tup (ra_cons (re_v 3) ra_nil))) (ra_cons (re_v 4) ra_nil)))))))))⟩
abbrev s_nodes_of : Stmt := top 3
abbrev N_nodes_of : List Str := ["saying", "found"]
theorem sc_nodes_of : FnScope N_nodes_of ["saying"] (defScope s_nodes_of) := ⟨rfl, rfl, rfl, by decide +kernel, rfl, by decide +kernel, by decide +kernel⟩
theorem fn_nodes_of {a : Addr} {fd : FuncData} {sp : Spec} (F : FunD K "nodes_of" "nodes_of" (defArgs s_nodes_of) (defBody s_nodes_of) (defScope s_nodes_of) [] [] a fd) (hm : mg "nodes_of" = some (.ref a)) {sp_add_nodes : Spec} (c_add_nodes : Fn P w K mg base k "add_nodes" 3 sp_add_nodes) (m_tuple : mg "tuple" = none) (does : Does 2 (t_nodes_of sp_add_nodes) 1 sp) : Fn P w K mg base (k + 1) "nodes_of" 1 sp := by
  refine ⟨a, fd, ["saying"], def_ok F sc_nodes_of rfl (fun cdv A outer s H E hr => ?_) does, hm, F.kp, F.bindsN fun _ _ _ _ _ _ us hl => match us, hl with | [_], _ => rfl⟩
  have nd := sc_nodes_of.nd
  exact ⟨_, (rss_cons (rs_set (i := 1) nd rfl (by first | exact Or.inl rfl | exact Or.inr rfl) (re_new ra_nil))
  (rss_cons (rs_expr (re_fn K c_add_nodes hr (by rfl) (ra_cons (re_v 1) (ra_cons (re_tup ra_nil) (ra_cons (re_v 0) ra_nil)))))
  (rss_one (rs_ret (re_bT (b_tuple K) boot_tuple (by rfl) m_tuple (re_v 1))))))⟩
abbrev s_names_of : Stmt := top 4
abbrev N_names_of : List Str := ["saying", "found", "path", "node"]
theorem sc_names_of : FnScope N_names_of ["saying"] (defScope s_names_of) := ⟨rfl, rfl, rfl, by decide +kernel, rfl, by decide +kernel, by decide +kernel⟩
theorem fn_names_of {a : Addr} {fd : FuncData} {sp : Spec} (F : FunD K "names_of" "names_of" (defArgs s_names_of) (defBody s_names_of) (defScope s_names_of) [] [] a fd) (hm : mg "names_of" = some (.ref a)) {sp_nodes_of : Spec} (c_nodes_of : Fn P w K mg base k "nodes_of" 1 sp_nodes_of) (m_tuple : mg "tuple" = none) (does : Does 4 (t_names_of sp_nodes_of) 1 sp) : Fn P w K mg base (k + 1) "names_of" 1 sp := by
  refine ⟨a, fd, ["saying"], def_ok F sc_names_of rfl (fun cdv A outer s H E hr => ?_) does, hm, F.kp, F.bindsN fun _ _ _ _ _ _ us hl => match us, hl with | [_], _ => rfl⟩
  have nd := sc_names_of.nd
  exact ⟨_, (rss_cons (rs_set (i := 1) nd rfl (by first | exact Or.inl rfl | exact Or.inr rfl) (re_new ra_nil))
  (rss_cons (rs_for PassesOwn.never rfl (ri_seq K (re_fn K c_nodes_of hr (by rfl) (ra_cons (re_v 0) ra_nil))) (rg_tup K (by rfl) (rgs_name (i := 2) nd (by rfl) (by first | exact Or.inl rfl | exact Or.inr rfl) (rgs_name (i := 3) nd (by rfl) (by first | exact Or.inl rfl | exact Or.inr rfl) rgs_nil))) (rss_one (rs_if (rt_w (rw_and (rt_cmp (c_eq K hr) (re_ix K (re_v 3) re_int) re_str) (rw_and1 (rt_cmp (c_notIn K) (re_ix K (re_v 3) re_int) (re_v 1))))) (rss_one (rs_expr (re_append K (re_v 1) (re_ix K (re_v 3) re_int)))) rss_nil)))
  (rss_one (rs_ret (re_bT (b_tuple K) boot_tuple (by rfl) m_tuple (re_v 1))))))⟩
abbrev s_own_names : Stmt := top 6
abbrev N_own_names : List Str := ["answer", "found", "thing", "fill", "name"]
theorem sc_own_names : FnScope N_own_names ["answer"] (defScope s_own_names) := ⟨rfl, rfl, rfl, by decide +kernel, rfl, by decide +kernel, by decide +kernel⟩
theorem fn_own_names {a : Addr} {fd : FuncData} {sp : Spec} (F : FunD K "own_names" "own_names" (defArgs s_own_names) (defBody s_own_names) (defScope s_own_names) [] [] a fd) (hm : mg "own_names" = some (.ref a)) {sp_names_of : Spec} (c_names_of : Fn P w K mg base k "names_of" 1 sp_names_of) (does : Does 5 (t_own_names sp_names_of) 1 sp) : Fn P w K mg base (k + 1) "own_names" 1 sp := by
  refine ⟨a, fd, ["answer"], def_ok F sc_own_names rfl (fun cdv A outer s H E hr => ?_) does, hm, F.kp, F.bindsN fun _ _ _ _ _ _ us hl => match us, hl with | [_], _ => rfl⟩
  have nd := sc_own_names.nd
  exact ⟨_, (rss_cons (rs_set (i := 1) nd rfl (by first | exact Or.inl rfl | exact Or.inr rfl) (re_new ra_nil))
  (rss_cons (rs_for PassesOwn.never rfl (ri_seq K (re_add K (re_comp (by rfl) nd (ri_seq K (re_ix K (re_v 0) re_int)) (blkOk_by (own := [("fill", 3)]) (N := N_own_names) (sc := defScope s_own_names) (by decide +kernel)) (fun _ _ _ _ _ => (rg_name (i := 3) nd (by rfl) (by first | exact Or.inl rfl | exact Or.inr rfl))) (own_name (i := 3) (by decide)) (fun _ _ _ _ _ => rts_nil) (fun _ _ _ _ _ => (re_ix K (re_v 3) re_int))) (re_lst (ra_cons (re_ix K (re_v 0) re_int) ra_nil)))) (rg_name (i := 2) nd (by rfl) (by first | exact Or.inl rfl | exact Or.inr rfl)) (rss_one (rs_expr (re_extend K (re_v 1) (re_comp (by rfl) nd (ri_seq K (re_fn K c_names_of hr (by rfl) (ra_cons (re_v 2) ra_nil))) (blkOk_by (own := [("name", 4)]) (N := N_own_names) (sc := defScope s_own_names) (by decide +kernel)) (fun _ _ _ _ _ => (rg_name (i := 4) nd (by rfl) (by first | exact Or.inl rfl | exact Or.inr rfl))) (own_name (i := 4) (by decide)) (fun _ _ _ _ _ => (rts_one (rt_cmp (c_notIn K) (re_v 4) (re_v 1)))) (fun _ _ _ _ _ => (re_v 4)))))))
  (rss_one (rs_ret (re_v 1)))))⟩
abbrev s_side_of : Stmt := top 7
abbrev N_side_of : List Str := ["thing", "side", "part"]
theorem sc_side_of : FnScope N_side_of ["thing", "side"] (defScope s_side_of) := ⟨rfl, rfl, rfl, by decide +kernel, rfl, by decide +kernel, by decide +kernel⟩
theorem fn_side_of {a : Addr} {fd : FuncData} {sp : Spec} (F : FunD K "side_of" "side_of" (defArgs s_side_of) (defBody s_side_of) (defScope s_side_of) [] [] a fd) (hm : mg "side_of" = some (.ref a)) {sp_side_of : Spec} (c_side_of : Fn P w K mg base k "side_of" 2 sp_side_of) (m_tuple : mg "tuple" = none) (does : Does 3 (t_side_of sp_side_of) 2 sp) : Fn P w K mg base (k + 1) "side_of" 2 sp := by
  refine ⟨a, fd, ["thing", "side"], def_ok F sc_side_of rfl (fun cdv A outer s H E hr => ?_) does, hm, F.kp, F.bindsN fun _ _ _ _ _ _ us hl => match us, hl with | [_, _], _ => rfl⟩
  have nd := sc_side_of.nd
  exact ⟨_, (rss_cons (rs_if (rt_cmp (c_eq K hr) (re_ix K (re_v 0) re_int) re_str) (rss_one (rs_ret (re_tup (ra_cons re_str (ra_cons (re_add K (re_v 1) (re_ix K (re_v 0) re_int)) ra_nil))))) rss_nil)
  (rss_one (rs_ret (re_tup (ra_cons re_str (ra_cons (re_ix K (re_v 0) re_int) (ra_cons (re_bT (b_tuple K) boot_tuple (by rfl) m_tuple (re_comp (by rfl) nd (ri_seq K (re_ix K (re_v 0) re_int)) (blkOk_by (own := [("part", 2)]) (N := N_side_of) (sc := defScope s_side_of) (by decide +kernel)) (fun _ _ _ _ _ => (rg_name (i := 2) nd (by rfl) (by first | exact Or.inl rfl | exact Or.inr rfl))) (own_name (i := 2) (by decide)) (fun _ _ _ _ _ => rts_nil) (fun _ _ _ _ _ => (re_fn K c_side_of hr (by rfl) (ra_cons (re_v 2) (ra_cons (re_v 1) ra_nil)))))) ra_nil)))))))⟩
abbrev s_known_as : Stmt := top 8
abbrev N_known_as : List Str := ["thing", "bound"]
theorem sc_known_as : FnScope N_known_as ["thing", "bound"] (defScope s_known_as) := ⟨rfl, rfl, rfl, by decide +kernel, rfl, by decide +kernel, by decide +kernel⟩
theorem fn_known_as {a : Addr} {fd : FuncData} {sp : Spec} (F : FunD K "known_as" "known_as" (defArgs s_known_as) (defBody s_known_as) (defScope s_known_as) [] [] a fd) (hm : mg "known_as" = some (.ref a)) (does : Does 2 (t_known_as) 2 sp) : Fn P w K mg base (k + 1) "known_as" 2 sp := by
  refine ⟨a, fd, ["thing", "bound"], def_ok F sc_known_as rfl (fun cdv A outer s H E hr => ?_) does, hm, F.kp, F.bindsN fun _ _ _ _ _ _ us hl => match us, hl with | [_, _], _ => rfl⟩
  have nd := sc_known_as.nd
  exact ⟨_, (rss_cons (rs_while PassesOwn.never (rt_w (rw_and (rt_cmp (c_eq K hr) (re_ix K (re_v 0) re_int) re_str) (rw_and1 (rt_cmp (c_inD hr) (re_ix K (re_v 0) re_int) (re_v 1))))) (rss_one (rs_set (i := 0) nd rfl (by first | exact Or.inl rfl | exact Or.inr rfl) (re_ixD hr (re_v 1) (re_ix K (re_v 0) re_int)))))
  (rss_one (rs_ret (re_v 0))))⟩
abbrev s_stands_in : Stmt := top 9
abbrev N_stands_in : List Str := ["name", "thing", "bound", "here", "part"]
theorem sc_stands_in : FnScope N_stands_in ["name", "thing", "bound"] (defScope s_stands_in) := ⟨rfl, rfl, rfl, by decide +kernel, rfl, by decide +kernel, by decide +kernel⟩
theorem fn_stands_in {a : Addr} {fd : FuncData} {sp : Spec} (F : FunD K "stands_in" "stands_in" (defArgs s_stands_in) (defBody s_stands_in) (defScope s_stands_in) [] [] a fd) (hm : mg "stands_in" = some (.ref a)) {sp_stands_in : Spec} (c_stands_in : Fn P w K mg base k "stands_in" 3 sp_stands_in) {sp_known_as : Spec} (c_known_as : Fn P w K mg base k "known_as" 2 sp_known_as) (m_any : mg "any" = none) (does : Does 5 (t_stands_in sp_stands_in sp_known_as) 3 sp) : Fn P w K mg base (k + 1) "stands_in" 3 sp := by
  refine ⟨a, fd, ["name", "thing", "bound"], def_ok F sc_stands_in rfl (fun cdv A outer s H E hr => ?_) does, hm, F.kp, F.bindsN fun _ _ _ _ _ _ us hl => match us, hl with | [_, _, _], _ => rfl⟩
  have nd := sc_stands_in.nd
  exact ⟨_, (rss_cons (rs_set (i := 3) nd rfl (by first | exact Or.inl rfl | exact Or.inr rfl) (re_fn K c_known_as hr (by rfl) (ra_cons (re_v 1) (ra_cons (re_v 2) ra_nil))))
  (rss_cons (rs_if (rt_cmp (c_eq K hr) (re_ix K (re_v 3) re_int) re_str) (rss_one (rs_ret (re_cmp (c_eq K hr) (re_ix K (re_v 3) re_int) (re_v 0)))) rss_nil)
  (rss_one (rs_ret (re_b1 (b_any K (by rfl)) boot_any (by rfl) m_any (re_comp (by rfl) nd (ri_seq K (re_ix K (re_v 3) re_int)) (blkOk_by (own := [("part", 4)]) (N := N_stands_in) (sc := defScope s_stands_in) (by decide +kernel)) (fun _ _ _ _ _ => (rg_name (i := 4) nd (by rfl) (by first | exact Or.inl rfl | exact Or.inr rfl))) (own_name (i := 4) (by decide)) (fun _ _ _ _ _ => rts_nil) (fun _ _ _ _ _ => (re_fn K c_stands_in hr (by rfl) (ra_cons (re_v 0) (ra_cons (re_v 4) (ra_cons (re_v 2) ra_nil)))))))))))⟩
abbrev s_joined : Stmt := top 10
abbrev N_joined : List Str := ["one", "other", "bound", "here", "there", "part", "place"]
theorem sc_joined : FnScope N_joined ["one", "other", "bound"] (defScope s_joined) := ⟨rfl, rfl, rfl, by decide +kernel, rfl, by decide +kernel, by decide +kernel⟩
theorem fn_joined {a : Addr} {fd : FuncData} {sp : Spec} (F : FunD K "joined" "joined" (defArgs s_joined) (defBody s_joined) (defScope s_joined) [] [] a fd) (hm : mg "joined" = some (.ref a)) {sp_joined : Spec} (c_joined : Fn P w K mg base k "joined" 3 sp_joined) {sp_stands_in : Spec} (c_stands_in : Fn P w K mg base k "stands_in" 3 sp_stands_in) {sp_known_as : Spec} (c_known_as : Fn P w K mg base k "known_as" 2 sp_known_as) (m_zip : mg "zip" = none) (m_all : mg "all" = none) (m_len : mg "len" = none) (does : Does 7 (t_joined sp_joined sp_stands_in sp_known_as) 3 sp) : Fn P w K mg base (k + 1) "joined" 3 sp := by
  refine ⟨a, fd, ["one", "other", "bound"], def_ok F sc_joined rfl (fun cdv A outer s H E hr => ?_) does, hm, F.kp, F.bindsN fun _ _ _ _ _ _ us hl => match us, hl with | [_, _, _], _ => rfl⟩
  have nd := sc_joined.nd
  exact ⟨_, (rss_cons (rs_par (i := 3) (j := 4) (by rfl) nd rfl rfl (by decide) rfl rfl (by rfl) (ra_cons (re_fn K c_known_as hr (by rfl) (ra_cons (re_v 0) (ra_cons (re_v 2) ra_nil))) (ra_cons (re_fn K c_known_as hr (by rfl) (ra_cons (re_v 1) (ra_cons (re_v 2) ra_nil))) ra_nil)))
  (rss_cons (rs_if (rt_cmp (c_eq K hr) (re_v 3) (re_v 4)) (rss_one (rs_ret re_bl)) rss_nil)
  (rss_cons (rs_if (rt_cmp (c_ne K hr) (re_ix K (re_v 3) re_int) re_str) (rss_one (rs_par (i := 3) (j := 4) (by rfl) nd rfl rfl (by decide) rfl rfl (by rfl) (ra_cons (re_v 4) (ra_cons (re_v 3) ra_nil)))) rss_nil)
  (rss_cons (rs_if (rt_cmp (c_eq K hr) (re_ix K (re_v 3) re_int) re_str) (rss_cons (rs_if (rt_val (re_fn K c_stands_in hr (by rfl) (ra_cons (re_ix K (re_v 3) re_int) (ra_cons (re_v 4) (ra_cons (re_v 2) ra_nil))))) (rss_one (rs_ret re_bl)) rss_nil)
  (rss_cons (rs_putD hr (re_v 2) (re_ix K (re_v 3) re_int) (re_v 4))
  (rss_one (rs_ret re_bl)))) rss_nil)
  (rss_cons (rs_if (rt_w (rw_or (rt_cmp (c_ne K hr) (re_ix K (re_v 3) re_int) (re_ix K (re_v 4) re_int)) (rw_or1 (rt_cmp (c_ne K hr) (re_b1 (b_len K) PySem.boot_len (by rfl) m_len (re_ix K (re_v 3) re_int)) (re_b1 (b_len K) PySem.boot_len (by rfl) m_len (re_ix K (re_v 4) re_int)))))) (rss_one (rs_ret re_bl)) rss_nil)
  (rss_one (rs_ret (re_b1 (b_all K (by rfl)) boot_all (by rfl) m_all (re_comp (by rfl) nd (ri_zip K (by rfl) m_zip (re_ix K (re_v 3) re_int) (re_ix K (re_v 4) re_int)) (blkOk_by (own := [("part", 5), ("place", 6)]) (N := N_joined) (sc := defScope s_joined) (by decide +kernel)) (fun _ _ _ _ _ => (rg_tup K (by rfl) (rgs_name (i := 5) nd (by rfl) (by first | exact Or.inl rfl | exact Or.inr rfl) (rgs_name (i := 6) nd (by rfl) (by first | exact Or.inl rfl | exact Or.inr rfl) rgs_nil)))) (own_tup (owns_cons (own_name (i := 5) (by decide)) (owns_cons (own_name (i := 6) (by decide)) owns_nil))) (fun _ _ _ _ _ => rts_nil) (fun _ _ _ _ _ => (re_fn K c_joined hr (by rfl) (ra_cons (re_v 5) (ra_cons (re_v 6) (ra_cons (re_v 2) ra_nil))))))))))))))⟩
abbrev s_resolved : Stmt := top 11
abbrev N_resolved : List Str := ["thing", "bound", "names", "here", "part"]
theorem sc_resolved : FnScope N_resolved ["thing", "bound", "names"] (defScope s_resolved) := ⟨rfl, rfl, rfl, by decide +kernel, rfl, by decide +kernel, by decide +kernel⟩
theorem fn_resolved {a : Addr} {fd : FuncData} {sp : Spec} (F : FunD K "resolved" "resolved" (defArgs s_resolved) (defBody s_resolved) (defScope s_resolved) [] [] a fd) (hm : mg "resolved" = some (.ref a)) {sp_resolved : Spec} (c_resolved : Fn P w K mg base k "resolved" 3 sp_resolved) {sp_known_as : Spec} (c_known_as : Fn P w K mg base k "known_as" 2 sp_known_as) (m_tuple : mg "tuple" = none) (m_len : mg "len" = none) (m_str : mg "str" = none) (does : Does 5 (t_resolved sp_resolved sp_known_as) 3 sp) : Fn P w K mg base (k + 1) "resolved" 3 sp := by
  refine ⟨a, fd, ["thing", "bound", "names"], def_ok F sc_resolved rfl (fun cdv A outer s H E hr => ?_) does, hm, F.kp, F.bindsN fun _ _ _ _ _ _ us hl => match us, hl with | [_, _, _], _ => rfl⟩
  have nd := sc_resolved.nd
  exact ⟨_, (rss_cons (rs_set (i := 3) nd rfl (by first | exact Or.inl rfl | exact Or.inr rfl) (re_fn K c_known_as hr (by rfl) (ra_cons (re_v 0) (ra_cons (re_v 1) ra_nil))))
  (rss_cons (rs_if (rt_cmp (c_eq K hr) (re_ix K (re_v 3) re_int) re_str) (rss_one (rs_ret (re_tup (ra_cons re_str (ra_cons (re_setd (re_v 2) (re_ix K (re_v 3) re_int) (re_bT b_str boot_str (by rfl) m_str (re_add K (re_b1 b_lenD PySem.boot_len (by rfl) m_len (re_v 2)) re_int))) ra_nil))))) rss_nil)
  (rss_one (rs_ret (re_tup (ra_cons re_str (ra_cons (re_ix K (re_v 3) re_int) (ra_cons (re_bT (b_tuple K) boot_tuple (by rfl) m_tuple (re_comp (by rfl) nd (ri_seq K (re_ix K (re_v 3) re_int)) (blkOk_by (own := [("part", 4)]) (N := N_resolved) (sc := defScope s_resolved) (by decide +kernel)) (fun _ _ _ _ _ => (rg_name (i := 4) nd (by rfl) (by first | exact Or.inl rfl | exact Or.inr rfl))) (own_name (i := 4) (by decide)) (fun _ _ _ _ _ => rts_nil) (fun _ _ _ _ _ => (re_fn K c_resolved hr (by rfl) (ra_cons (re_v 4) (ra_cons (re_v 1) (ra_cons (re_v 2) ra_nil))))))) ra_nil))))))))⟩
abbrev s_common : Stmt := top 12
abbrev N_common : List Str := ["one", "other", "bound", "fill", "own", "given", "names", "halves", "answer", "side", "names_here", "name"]
theorem sc_common : FnScope N_common ["one", "other"] (defScope s_common) := ⟨rfl, rfl, rfl, by decide +kernel, rfl, by decide +kernel, by decide +kernel⟩
theorem fn_common {a : Addr} {fd : FuncData} {sp : Spec} (F : FunD K "common" "common" (defArgs s_common) (defBody s_common) (defScope s_common) [] [] a fd) (hm : mg "common" = some (.ref a)) {sp_resolved : Spec} (c_resolved : Fn P w K mg base k "resolved" 3 sp_resolved) {sp_own_names : Spec} (c_own_names : Fn P w K mg base k "own_names" 1 sp_own_names) {sp_joined : Spec} (c_joined : Fn P w K mg base k "joined" 3 sp_joined) {sp_side_of : Spec} (c_side_of : Fn P w K mg base k "side_of" 2 sp_side_of) (m_tuple : mg "tuple" = none) (m_zip : mg "zip" = none) (does : Does 12 (t_common sp_resolved sp_own_names sp_joined sp_side_of) 2 sp) : Fn P w K mg base (k + 1) "common" 2 sp := by
  refine ⟨a, fd, ["one", "other"], def_ok F sc_common rfl (fun cdv A outer s H E hr => ?_) does, hm, F.kp, F.bindsN fun _ _ _ _ _ _ us hl => match us, hl with | [_, _], _ => rfl⟩
  have nd := sc_common.nd
  exact ⟨_, (rss_cons (rs_set (i := 2) nd rfl (by first | exact Or.inl rfl | exact Or.inr rfl) re_newD)
  (rss_cons (rs_if (rt_cmp (c_ne K hr) (re_comp (by rfl) nd (ri_seq K (re_ix K (re_v 0) re_int)) (blkOk_by (own := [("fill", 3)]) (N := N_common) (sc := defScope s_common) (by decide +kernel)) (fun _ _ _ _ _ => (rg_name (i := 3) nd (by rfl) (by first | exact Or.inl rfl | exact Or.inr rfl))) (own_name (i := 3) (by decide)) (fun _ _ _ _ _ => rts_nil) (fun _ _ _ _ _ => (re_ix K (re_v 3) re_int))) (re_comp (by rfl) nd (ri_seq K (re_ix K (re_v 1) re_int)) (blkOk_by (own := [("fill", 3)]) (N := N_common) (sc := defScope s_common) (by decide +kernel)) (fun _ _ _ _ _ => (rg_name (i := 3) nd (by rfl) (by first | exact Or.inl rfl | exact Or.inr rfl))) (own_name (i := 3) (by decide)) (fun _ _ _ _ _ => rts_nil) (fun _ _ _ _ _ => (re_ix K (re_v 3) re_int)))) (rss_one (rs_ret re_non)) rss_nil)
  (rss_cons (rs_for PassesOwn.never rfl (ri_zip K (by rfl) m_zip (re_ix K (re_v 0) re_int) (re_ix K (re_v 1) re_int)) (rg_tup K (by rfl) (rgs_name (i := 4) nd (by rfl) (by first | exact Or.inl rfl | exact Or.inr rfl) (rgs_name (i := 5) nd (by rfl) (by first | exact Or.inl rfl | exact Or.inr rfl) rgs_nil))) (rss_one (rs_if (rt_not (rt_val (re_fn K c_joined hr (by rfl) (ra_cons (re_fn K c_side_of hr (by rfl) (ra_cons (re_ix K (re_v 4) re_int) (ra_cons re_str ra_nil))) (ra_cons (re_fn K c_side_of hr (by rfl) (ra_cons (re_ix K (re_v 5) re_int) (ra_cons re_str ra_nil))) (ra_cons (re_v 2) ra_nil)))))) (rss_one (rs_ret re_non)) rss_nil)))
  (rss_cons (rs_set (i := 6) nd rfl (by first | exact Or.inl rfl | exact Or.inr rfl) re_newD)
  (rss_cons (rs_set (i := 7) nd rfl (by first | exact Or.inl rfl | exact Or.inr rfl) (re_new ra_nil))
  (rss_cons (rs_for PassesOwn.never rfl (ri_seq K (re_tup (ra_cons (re_tup (ra_cons (re_v 0) (ra_cons re_str ra_nil))) (ra_cons (re_tup (ra_cons (re_v 1) (ra_cons re_str ra_nil))) ra_nil)))) (rg_tup K (by rfl) (rgs_name (i := 8) nd (by rfl) (by first | exact Or.inl rfl | exact Or.inr rfl) (rgs_name (i := 9) nd (by rfl) (by first | exact Or.inl rfl | exact Or.inr rfl) rgs_nil))) (rss_cons (rs_set (i := 10) nd rfl (by first | exact Or.inl rfl | exact Or.inr rfl) (re_fn K c_own_names hr (by rfl) (ra_cons (re_v 8) ra_nil)))
  (rss_one (rs_expr (re_append K (re_v 7) (re_bT (b_tuple K) boot_tuple (by rfl) m_tuple (re_comp (by rfl) nd (ri_seq K (re_v 10)) (blkOk_by (own := [("name", 11)]) (N := N_common) (sc := defScope s_common) (by decide +kernel)) (fun _ _ _ _ _ => (rg_name (i := 11) nd (by rfl) (by first | exact Or.inl rfl | exact Or.inr rfl))) (own_name (i := 11) (by decide)) (fun _ _ _ _ _ => rts_nil) (fun _ _ _ _ _ => (re_tup (ra_cons (re_v 11) (ra_cons (re_fn K c_resolved hr (by rfl) (ra_cons (re_tup (ra_cons re_str (ra_cons (re_add K (re_v 9) (re_v 11)) ra_nil))) (ra_cons (re_v 2) (ra_cons (re_v 6) ra_nil)))) ra_nil)))))))))))
  (rss_one (rs_ret (re_tup (ra_cons (re_ix K (re_v 7) re_int) (ra_cons (re_ix K (re_v 7) re_int) ra_nil)))))))))))⟩
abbrev s__law_deck : Stmt := top 14
abbrev N__law_deck : List Str := ["_law_script", "_law_cells", "_law_cell"]
theorem sc__law_deck : FnScope N__law_deck ["_law_script"] (defScope s__law_deck) := ⟨rfl, rfl, rfl, by decide +kernel, rfl, by decide +kernel, by decide +kernel⟩
theorem fn__law_deck {a : Addr} {fd : FuncData} {sp : Spec} (F : FunD K "_law_deck" "_law_deck" (defArgs s__law_deck) (defBody s__law_deck) (defScope s__law_deck) [] [] a fd) (hm : mg "_law_deck" = some (.ref a)) (m_int : mg "int" = none) (m_abs : mg "abs" = none) (m_len : mg "len" = none) (does : Does 3 (t__law_deck) 1 sp) : Fn P w K mg base (k + 1) "_law_deck" 1 sp := by
  refine ⟨a, fd, ["_law_script"], def_ok F sc__law_deck rfl (fun cdv A outer s H E hr => ?_) does, hm, F.kp, F.bindsN fun _ _ _ _ _ _ us hl => match us, hl with | [_], _ => rfl⟩
  have nd := sc__law_deck.nd
  exact ⟨_, (rss_cons (rs_set (i := 1) nd rfl (by first | exact Or.inl rfl | exact Or.inr rfl) (re_add K (re_comp (by rfl) nd (ri_seq K (re_cut K (re_v 0) ro_none (ro_some re_int))) (blkOk_by (own := [("_law_cell", 2)]) (N := N__law_deck) (sc := defScope s__law_deck) (by decide +kernel)) (fun _ _ _ _ _ => (rg_name (i := 2) nd (by rfl) (by first | exact Or.inl rfl | exact Or.inr rfl))) (own_name (i := 2) (by decide)) (fun _ _ _ _ _ => rts_nil) (fun _ _ _ _ _ => (re_b1 b_abs boot_abs (by rfl) m_abs (re_v 2)))) (re_mul (re_lst (ra_cons re_int ra_nil)) (re_bT b_int boot_int (by rfl) m_int (re_cmp (c_eq K hr) (re_b1 (b_len K) PySem.boot_len (by rfl) m_len (re_v 0)) re_int)))))
  (rss_one (rs_ret (re_new (ra_cons (re_v 1) (ra_cons re_int (ra_cons (re_compN (by rfl) nd (ri_seq K (re_v 1)) (blkOk_by (own := [("_law_cell", 2)]) (N := N__law_deck) (sc := defScope s__law_deck) (by decide +kernel)) (fun _ _ _ _ _ => (rg_name (i := 2) nd (by rfl) (by first | exact Or.inl rfl | exact Or.inr rfl))) (own_name (i := 2) (by decide)) (fun _ _ _ _ _ => rts_nil) (fun _ _ _ _ _ => (re_mul (re_v 2) (re_bT b_int boot_int (by rfl) m_int (re_cmp c_ge (re_v 2) (re_pow re_int re_int)))))) ra_nil)))))))⟩
abbrev s__law_next : Stmt := top 15
abbrev N__law_next : List Str := ["_law_deck_here", "_law_cells", "_law_many", "_law_rest", "_law_at", "_law_figures", "_law_primes", "_law_other", "_law_mixed"]
theorem sc__law_next : FnScope N__law_next ["_law_deck_here"] (defScope s__law_next) := ⟨rfl, rfl, rfl, by decide +kernel, rfl, by decide +kernel, by decide +kernel⟩
theorem fn__law_next {a : Addr} {fd : FuncData} {sp : Spec} (F : FunD K "_law_next" "_law_next" (defArgs s__law_next) (defBody s__law_next) (defScope s__law_next) [] [] a fd) (hm : mg "_law_next" = some (.ref a)) (m_len : mg "len" = none) (does : Does 9 (t__law_next) 1 sp) : Fn P w K mg base (k + 1) "_law_next" 1 sp := by
  refine ⟨a, fd, ["_law_deck_here"], def_ok F sc__law_next rfl (fun cdv A outer s H E hr => ?_) does, hm, F.kp, F.bindsN fun _ _ _ _ _ _ us hl => match us, hl with | [_], _ => rfl⟩
  have nd := sc__law_next.nd
  exact ⟨_, (rss_cons (rs_asg (re_v 0) (rg_lst K (by rfl) (rgs_name (i := 1) nd (by rfl) (by first | exact Or.inl rfl | exact Or.inr rfl) (rgs_name (i := 2) nd (by rfl) (by first | exact Or.inl rfl | exact Or.inr rfl) (rgs_name (i := 3) nd (by rfl) (by first | exact Or.inl rfl | exact Or.inr rfl) rgs_nil)))))
  (rss_cons (rs_set (i := 4) nd rfl (by first | exact Or.inl rfl | exact Or.inr rfl) (re_mod (re_v 2) (re_b1 (b_len K) PySem.boot_len (by rfl) m_len (re_v 1))))
  (rss_cons (rs_asg (re_add K (re_v 2) re_int) (rg_sub (re_v 0) re_int))
  (rss_cons (rs_if (rt_cmp c_gt (re_ix K (re_v 3) (re_v 4)) re_int) (rss_cons (rs_set (i := 5) nd rfl (by first | exact Or.inl rfl | exact Or.inr rfl) (re_mod (re_ix K (re_v 3) (re_v 4)) re_int))
  (rss_cons (rs_asg (re_fdiv (re_ix K (re_v 3) (re_v 4)) re_int) (rg_sub (re_v 3) (re_v 4)))
  (rss_one (rs_ret (re_v 5))))) rss_nil)
  (rss_cons (rs_set (i := 6) nd rfl (by first | exact Or.inl rfl | exact Or.inr rfl) (re_lst (ra_cons re_int (ra_cons re_int (ra_cons re_int (ra_cons re_int (ra_cons re_int (ra_cons re_int (ra_cons re_int ra_nil)))))))))
  (rss_cons (rs_set (i := 7) nd rfl (by first | exact Or.inl rfl | exact Or.inr rfl) (re_mod (re_ix K (re_v 1) (re_mod (re_add K (re_add K (re_mul (re_v 4) (re_v 4)) (re_v 2)) re_int) (re_b1 (b_len K) PySem.boot_len (by rfl) m_len (re_v 1)))) re_int))
  (rss_cons (rs_set (i := 8) nd rfl (by first | exact Or.inl rfl | exact Or.inr rfl) (re_add K (re_add K (re_add K (re_mod (re_ix K (re_v 1) (re_v 4)) re_int) (re_mul re_int (re_v 2))) (re_mul re_int (re_v 7))) re_int))
  (rss_cons (rs_set (i := 8) nd rfl (by first | exact Or.inl rfl | exact Or.inr rfl) (re_mod (re_pow (re_v 8) re_int) (re_ix K (re_v 6) (re_mod (re_v 2) re_int))))
  (rss_one (rs_ret (re_mod (re_fdiv (re_mod (re_pow (re_add K (re_v 8) (re_mul re_int (re_v 2))) re_int) re_int) re_int) re_int)))))))))))⟩
abbrev s__law_word : Stmt := top 16
abbrev N__law_word : List Str := ["_law_sort", "_law_base", "_law_number", "_law_letters", "_law_more"]
theorem sc__law_word : FnScope N__law_word ["_law_sort", "_law_base", "_law_number"] (defScope s__law_word) := ⟨rfl, rfl, rfl, by decide +kernel, rfl, by decide +kernel, by decide +kernel⟩
theorem fn__law_word {a : Addr} {fd : FuncData} {sp : Spec} (F : FunD K "_law_word" "_law_word" (defArgs s__law_word) (defBody s__law_word) (defScope s__law_word) [] [] a fd) (hm : mg "_law_word" = some (.ref a)) (does : Does 5 (t__law_word) 3 sp) : Fn P w K mg base (k + 1) "_law_word" 3 sp := by
  refine ⟨a, fd, ["_law_sort", "_law_base", "_law_number"], def_ok F sc__law_word rfl (fun cdv A outer s H E hr => ?_) does, hm, F.kp, F.bindsN fun _ _ _ _ _ _ us hl => match us, hl with | [_, _, _], _ => rfl⟩
  have nd := sc__law_word.nd
  exact ⟨_, (rss_cons (rs_set (i := 3) nd rfl (by first | exact Or.inl rfl | exact Or.inr rfl) re_str)
  (rss_cons (rs_set (i := 4) nd rfl (by first | exact Or.inl rfl | exact Or.inr rfl) (re_mul (re_ix K (re_v 3) (re_mod (re_fdiv (re_v 1) re_int) re_int)) (re_mod (re_mul (re_v 2) (re_v 1)) re_int)))
  (rss_one (rs_ret (re_add K (re_add K (re_v 0) (re_ix K (re_v 3) (re_mod (re_add K (re_v 1) (re_mul re_int (re_v 2))) re_int))) (re_v 4))))))⟩
abbrev s__law_kinds : Stmt := top 17
abbrev N__law_kinds : List Str := ["_law_deck_here", "_law_number", "_law_base", "_law_kinds_here", "_law_at", "_law_found", "_law_many", "_law_kind", "_law_makers_here", "_law_draw", "_law_parts", "_law_part", "_law_other"]
theorem sc__law_kinds : FnScope N__law_kinds ["_law_deck_here"] (defScope s__law_kinds) := ⟨rfl, rfl, rfl, by decide +kernel, rfl, by decide +kernel, by decide +kernel⟩
theorem fn__law_kinds {a : Addr} {fd : FuncData} {sp : Spec} (F : FunD K "_law_kinds" "_law_kinds" (defArgs s__law_kinds) (defBody s__law_kinds) (defScope s__law_kinds) [] [] a fd) (hm : mg "_law_kinds" = some (.ref a)) {sp__law_word : Spec} (c__law_word : Fn P w K mg base k "_law_word" 3 sp__law_word) {sp__law_next : Spec} (c__law_next : Fn P w K mg base k "_law_next" 1 sp__law_next) (m_tuple : mg "tuple" = none) (m_range : mg "range" = none) (m_int : mg "int" = none) (m_len : mg "len" = none) (does : Does 13 (t__law_kinds sp__law_word sp__law_next) 1 sp) : Fn P w K mg base (k + 1) "_law_kinds" 1 sp := by
  refine ⟨a, fd, ["_law_deck_here"], def_ok F sc__law_kinds rfl (fun cdv A outer s H E hr => ?_) does, hm, F.kp, F.bindsN fun _ _ _ _ _ _ us hl => match us, hl with | [_], _ => rfl⟩
  have nd := sc__law_kinds.nd
  exact ⟨_, (rss_cons (rs_set (i := 1) nd rfl (by first | exact Or.inl rfl | exact Or.inr rfl) (re_fn K c__law_next hr (by rfl) (ra_cons (re_v 0) ra_nil)))
  (rss_cons (rs_set (i := 2) nd rfl (by first | exact Or.inl rfl | exact Or.inr rfl) (re_fn K c__law_next hr (by rfl) (ra_cons (re_v 0) ra_nil)))
  (rss_cons (rs_setLc (i := 3) rfl nd rfl rfl (sw_true rfl rfl rfl (by decide +kernel)) (ri_range (by rfl) m_range (re_add K re_int (re_mod (re_v 1) re_int))) (blkOk_by (own := [("_law_at", 4)]) (N := N__law_kinds) (sc := defScope s__law_kinds) (by decide +kernel)) (fun _ _ _ _ _ => (rg_name (i := 4) nd (by rfl) (by first | exact Or.inl rfl | exact Or.inr rfl))) (own_name (i := 4) (by decide)) (fun _ _ _ _ _ => rts_nil) (fun _ _ _ _ _ => (re_fn K c__law_word hr (by rfl) (ra_cons re_str (ra_cons (re_v 2) (ra_cons (re_v 4) ra_nil))))))
  (rss_cons (rs_set (i := 5) nd rfl (by first | exact Or.inl rfl | exact Or.inr rfl) (re_new ra_nil))
  (rss_cons (rs_set (i := 6) nd rfl (by first | exact Or.inl rfl | exact Or.inr rfl) re_int)
  (rss_cons (rs_for PassesOwn.never rfl (ri_seq K (re_v 3)) (rg_name (i := 7) nd (by rfl) (by first | exact Or.inl rfl | exact Or.inr rfl)) (rss_cons (rs_set (i := 8) nd rfl (by first | exact Or.inl rfl | exact Or.inr rfl) (re_new ra_nil))
  (rss_cons (rs_set (i := 9) nd rfl (by first | exact Or.inl rfl | exact Or.inr rfl) (re_fn K c__law_next hr (by rfl) (ra_cons (re_v 0) ra_nil)))
  (rss_cons (rs_for PassesOwn.never rfl (ri_range (by rfl) m_range (re_ix K (re_lst (ra_cons re_int (ra_cons re_int (ra_cons re_int (ra_cons re_int (ra_cons re_int (ra_cons re_int ra_nil))))))) (re_mod (re_v 9) re_int))) (rg_name (i := 4) nd (by rfl) (by first | exact Or.inl rfl | exact Or.inr rfl)) (rss_cons (rs_set (i := 10) nd rfl (by first | exact Or.inl rfl | exact Or.inr rfl) (re_new ra_nil))
  (rss_cons (rs_for PassesOwn.never rfl (ri_range (by rfl) m_range (re_mul (re_ix K (re_lst (ra_cons re_int (ra_cons re_int (ra_cons re_int (ra_cons re_int (ra_cons re_int (ra_cons re_int ra_nil))))))) (re_mod (re_fn K c__law_next hr (by rfl) (ra_cons (re_v 0) ra_nil)) re_int)) (re_bT b_int boot_int (by rfl) m_int (re_cmp c_gt (re_v 4) re_int)))) (rg_name (i := 11) nd (by rfl) (by first | exact Or.inl rfl | exact Or.inr rfl)) (rss_cons (rs_set (i := 12) nd rfl (by first | exact Or.inl rfl | exact Or.inr rfl) (re_fn K c__law_next hr (by rfl) (ra_cons (re_v 0) ra_nil)))
  (rss_one (rs_expr (re_append K (re_v 10) (re_ix K (re_add K (re_add K (re_lst (ra_cons (re_v 7) (ra_cons (re_v 7) ra_nil))) (re_v 3)) (re_lst (ra_cons re_str ra_nil))) (re_mod (re_v 12) (re_add K (re_b1 (b_len K) PySem.boot_len (by rfl) m_len (re_v 3)) re_int))))))))
  (rss_cons (rs_expr (re_append K (re_v 8) (re_tup (ra_cons (re_fn K c__law_word hr (by rfl) (ra_cons re_str (ra_cons (re_v 2) (ra_cons (re_v 6) ra_nil)))) (ra_cons (re_bT (b_tuple K) boot_tuple (by rfl) m_tuple (re_v 10)) ra_nil)))))
  (rss_one (rs_set (i := 6) nd rfl (by first | exact Or.inl rfl | exact Or.inr rfl) (re_add K (re_v 6) re_int)))))))
  (rss_one (rs_expr (re_append K (re_v 5) (re_tup (ra_cons (re_v 7) (ra_cons (re_bT (b_tuple K) boot_tuple (by rfl) m_tuple (re_v 8)) ra_nil))))))))))
  (rss_one (rs_ret (re_bT (b_tuple K) boot_tuple (by rfl) m_tuple (re_v 5))))))))))⟩
abbrev s__law_makers : Stmt := top 18
abbrev N__law_makers : List Str := ["_law_kinds_here", "_law_kind", "_law_name", "_law_makers_here"]
theorem sc__law_makers : FnScope N__law_makers ["_law_kinds_here", "_law_kind"] (defScope s__law_makers) := ⟨rfl, rfl, rfl, by decide +kernel, rfl, by decide +kernel, by decide +kernel⟩
theorem fn__law_makers {a : Addr} {fd : FuncData} {sp : Spec} (F : FunD K "_law_makers" "_law_makers" (defArgs s__law_makers) (defBody s__law_makers) (defScope s__law_makers) [] [] a fd) (hm : mg "_law_makers" = some (.ref a)) (does : Does 4 (t__law_makers) 2 sp) : Fn P w K mg base (k + 1) "_law_makers" 2 sp := by
  refine ⟨a, fd, ["_law_kinds_here", "_law_kind"], def_ok F sc__law_makers rfl (fun cdv A outer s H E hr => ?_) does, hm, F.kp, F.bindsN fun _ _ _ _ _ _ us hl => match us, hl with | [_, _], _ => rfl⟩
  have nd := sc__law_makers.nd
  exact ⟨_, (rss_cons (rs_for PassesOwn.never rfl (ri_seq K (re_v 0)) (rg_tup K (by rfl) (rgs_name (i := 2) nd (by rfl) (by first | exact Or.inl rfl | exact Or.inr rfl) (rgs_name (i := 3) nd (by rfl) (by first | exact Or.inl rfl | exact Or.inr rfl) rgs_nil))) (rss_one (rs_if (rt_cmp (c_eq K hr) (re_v 2) (re_v 1)) (rss_one (rs_ret (re_v 3))) rss_nil)))
  (rss_one (rs_ret (re_tup (ra_cons (re_tup (ra_cons re_str (ra_cons (re_tup ra_nil) ra_nil))) (ra_cons (re_tup (ra_cons re_str (ra_cons (re_tup ra_nil) ra_nil))) ra_nil))))))⟩
abbrev s__law_filled : Stmt := top 19
abbrev N__law_filled : List Str := ["_law_saying", "_law_fills", "_law_name", "_law_thing", "_law_part"]
theorem sc__law_filled : FnScope N__law_filled ["_law_saying", "_law_fills"] (defScope s__law_filled) := ⟨rfl, rfl, rfl, by decide +kernel, rfl, by decide +kernel, by decide +kernel⟩
theorem fn__law_filled {a : Addr} {fd : FuncData} {sp : Spec} (F : FunD K "_law_filled" "_law_filled" (defArgs s__law_filled) (defBody s__law_filled) (defScope s__law_filled) [] [] a fd) (hm : mg "_law_filled" = some (.ref a)) {sp__law_filled : Spec} (c__law_filled : Fn P w K mg base k "_law_filled" 2 sp__law_filled) (m_tuple : mg "tuple" = none) (does : Does 5 (t__law_filled sp__law_filled) 2 sp) : Fn P w K mg base (k + 1) "_law_filled" 2 sp := by
  refine ⟨a, fd, ["_law_saying", "_law_fills"], def_ok F sc__law_filled rfl (fun cdv A outer s H E hr => ?_) does, hm, F.kp, F.bindsN fun _ _ _ _ _ _ us hl => match us, hl with | [_, _], _ => rfl⟩
  have nd := sc__law_filled.nd
  exact ⟨_, (rss_cons (rs_if (rt_cmp (c_eq K hr) (re_ix K (re_v 0) re_int) re_str) (rss_cons (rs_for PassesOwn.never rfl (ri_seq K (re_v 1)) (rg_tup K (by rfl) (rgs_name (i := 2) nd (by rfl) (by first | exact Or.inl rfl | exact Or.inr rfl) (rgs_name (i := 3) nd (by rfl) (by first | exact Or.inl rfl | exact Or.inr rfl) rgs_nil))) (rss_one (rs_if (rt_cmp (c_eq K hr) (re_v 2) (re_ix K (re_v 0) re_int)) (rss_one (rs_ret (re_v 3))) rss_nil)))
  (rss_one (rs_ret (re_v 0)))) rss_nil)
  (rss_cons (rs_if (rt_w (rw_or (rt_cmp (c_eq K hr) (re_ix K (re_v 0) re_int) re_str) (rw_or1 (rt_cmp (c_eq K hr) (re_ix K (re_v 0) re_int) re_str)))) (rss_one (rs_ret (re_tup (ra_cons (re_ix K (re_v 0) re_int) (ra_cons (re_ix K (re_v 0) re_int) (ra_cons (re_bT (b_tuple K) boot_tuple (by rfl) m_tuple (re_comp (by rfl) nd (ri_seq K (re_ix K (re_v 0) re_int)) (blkOk_by (own := [("_law_part", 4)]) (N := N__law_filled) (sc := defScope s__law_filled) (by decide +kernel)) (fun _ _ _ _ _ => (rg_name (i := 4) nd (by rfl) (by first | exact Or.inl rfl | exact Or.inr rfl))) (own_name (i := 4) (by decide)) (fun _ _ _ _ _ => rts_nil) (fun _ _ _ _ _ => (re_fn K c__law_filled hr (by rfl) (ra_cons (re_v 4) (ra_cons (re_v 1) ra_nil)))))) ra_nil)))))) rss_nil)
  (rss_one (rs_ret (re_add K (re_cut K (re_v 0) ro_none (ro_some re_int)) (re_bT (b_tuple K) boot_tuple (by rfl) m_tuple (re_comp (by rfl) nd (ri_seq K (re_cut K (re_v 0) (ro_some re_int) ro_none)) (blkOk_by (own := [("_law_part", 4)]) (N := N__law_filled) (sc := defScope s__law_filled) (by decide +kernel)) (fun _ _ _ _ _ => (rg_name (i := 4) nd (by rfl) (by first | exact Or.inl rfl | exact Or.inr rfl))) (own_name (i := 4) (by decide)) (fun _ _ _ _ _ => rts_nil) (fun _ _ _ _ _ => (re_fn K c__law_filled hr (by rfl) (ra_cons (re_v 4) (ra_cons (re_v 1) ra_nil)))))))))))⟩
abbrev s__law_same : Stmt := top 20
abbrev N__law_same : List Str := ["_law_found", "_law_due", "_law_one", "_law_other"]
theorem sc__law_same : FnScope N__law_same ["_law_found", "_law_due"] (defScope s__law_same) := ⟨rfl, rfl, rfl, by decide +kernel, rfl, by decide +kernel, by decide +kernel⟩
theorem fn__law_same {a : Addr} {fd : FuncData} {sp : Spec} (F : FunD K "_law_same" "_law_same" (defArgs s__law_same) (defBody s__law_same) (defScope s__law_same) [] [] a fd) (hm : mg "_law_same" = some (.ref a)) {sp__law_same : Spec} (c__law_same : Fn P w K mg base k "_law_same" 2 sp__law_same) (m_isinstance : mg "isinstance" = none) (m_int : mg "int" = none) (m_bool : mg "bool" = none) (m_str : mg "str" = none) (m_tuple : mg "tuple" = none) (m_zip : mg "zip" = none) (m_all : mg "all" = none) (m_len : mg "len" = none) (does : Does 4 (t__law_same sp__law_same) 2 sp) : Fn P w K mg base (k + 1) "_law_same" 2 sp := by
  refine ⟨a, fd, ["_law_found", "_law_due"], def_ok F sc__law_same rfl (fun cdv A outer s H E hr => ?_) does, hm, F.kp, F.bindsN fun _ _ _ _ _ _ us hl => match us, hl with | [_, _], _ => rfl⟩
  have nd := sc__law_same.nd
  exact ⟨_, (rss_cons (rs_if (rt_val (re_isi K (by decide +kernel) boot_tuple (by rfl) m_isinstance (by rfl) m_tuple (re_v 1))) (rss_cons (rs_if (rt_w (rw_or (rt_not (rt_val (re_isi K (by decide +kernel) boot_tuple (by rfl) m_isinstance (by rfl) m_tuple (re_v 0)))) (rw_or1 (rt_cmp (c_ne K hr) (re_b1 (b_len K) PySem.boot_len (by rfl) m_len (re_v 0)) (re_b1 (b_len K) PySem.boot_len (by rfl) m_len (re_v 1)))))) (rss_one (rs_ret re_bl)) rss_nil)
  (rss_one (rs_ret (re_b1 (b_all K (by rfl)) boot_all (by rfl) m_all (re_comp (by rfl) nd (ri_zip K (by rfl) m_zip (re_v 0) (re_v 1)) (blkOk_by (own := [("_law_one", 2), ("_law_other", 3)]) (N := N__law_same) (sc := defScope s__law_same) (by decide +kernel)) (fun _ _ _ _ _ => (rg_tup K (by rfl) (rgs_name (i := 2) nd (by rfl) (by first | exact Or.inl rfl | exact Or.inr rfl) (rgs_name (i := 3) nd (by rfl) (by first | exact Or.inl rfl | exact Or.inr rfl) rgs_nil)))) (own_tup (owns_cons (own_name (i := 2) (by decide)) (owns_cons (own_name (i := 3) (by decide)) owns_nil))) (fun _ _ _ _ _ => rts_nil) (fun _ _ _ _ _ => (re_fn K c__law_same hr (by rfl) (ra_cons (re_v 2) (ra_cons (re_v 3) ra_nil))))))))) rss_nil)
  (rss_cons (rs_if (rt_isN (re_v 1)) (rss_one (rs_ret (re_isN (re_v 0)))) rss_nil)
  (rss_cons (rs_if (rt_val (re_isi K (by decide +kernel) boot_str (by rfl) m_isinstance (by rfl) m_str (re_v 1))) (rss_one (rs_ret (re_and (re_isi K (by decide +kernel) boot_str (by rfl) m_isinstance (by rfl) m_str (re_v 0)) (re_one (re_cmp (c_eq K hr) (re_v 0) (re_v 1)))))) rss_nil)
  (rss_one (rs_ret (re_and (re_isi K (by decide +kernel) boot_int (by rfl) m_isinstance (by rfl) m_int (re_v 0)) (re_and (re_not (re_isi K (by decide +kernel) boot_bool (by rfl) m_isinstance (by rfl) m_bool (re_v 0))) (re_one (re_cmp (c_eq K hr) (re_v 0) (re_v 1))))))))))⟩
abbrev s__law_open : Stmt := top 21
abbrev N__law_open : List Str := ["_law_deck_here", "_law_kinds_here", "_law_kind", "_law_far", "_law_known", "_law_number", "_law_old", "_law_at", "_law_makers_here", "_law_maker", "_law_parts", "_law_part"]
theorem sc__law_open : FnScope N__law_open ["_law_deck_here", "_law_kinds_here", "_law_kind", "_law_far", "_law_known"] (defScope s__law_open) := ⟨rfl, rfl, rfl, by decide +kernel, rfl, by decide +kernel, by decide +kernel⟩
theorem fn__law_open {a : Addr} {fd : FuncData} {sp : Spec} (F : FunD K "_law_open" "_law_open" (defArgs s__law_open) (defBody s__law_open) (defScope s__law_open) [] [] a fd) (hm : mg "_law_open" = some (.ref a)) {sp__law_open : Spec} (c__law_open : Fn P w K mg base k "_law_open" 5 sp__law_open) {sp__law_makers : Spec} (c__law_makers : Fn P w K mg base k "_law_makers" 2 sp__law_makers) {sp__law_next : Spec} (c__law_next : Fn P w K mg base k "_law_next" 1 sp__law_next) (m_max : mg "max" = none) (m_tuple : mg "tuple" = none) (m_len : mg "len" = none) (m_str : mg "str" = none) (m_range : mg "range" = none) (does : Does 12 (t__law_open sp__law_open sp__law_makers sp__law_next) 5 sp) : Fn P w K mg base (k + 1) "_law_open" 5 sp := by
  refine ⟨a, fd, ["_law_deck_here", "_law_kinds_here", "_law_kind", "_law_far", "_law_known"], def_ok F sc__law_open rfl (fun cdv A outer s H E hr => ?_) does, hm, F.kp, F.bindsN fun _ _ _ _ _ _ us hl => match us, hl with | [_, _, _, _, _], _ => rfl⟩
  have nd := sc__law_open.nd
  exact ⟨_, (rss_cons (rs_set (i := 5) nd rfl (by first | exact Or.inl rfl | exact Or.inr rfl) (re_fn K c__law_next hr (by rfl) (ra_cons (re_v 0) ra_nil)))
  (rss_cons (rs_setLc (i := 6) rfl nd rfl rfl (sw_true rfl rfl rfl (by decide +kernel)) (ri_range (by rfl) m_range (re_b1 (b_len K) PySem.boot_len (by rfl) m_len (re_v 4))) (blkOk_by (own := [("_law_at", 7)]) (N := N__law_open) (sc := defScope s__law_open) (by decide +kernel)) (fun _ _ _ _ _ => (rg_name (i := 7) nd (by rfl) (by first | exact Or.inl rfl | exact Or.inr rfl))) (own_name (i := 7) (by decide)) (fun _ _ _ _ _ => (rts_one (rt_cmp (c_eq K hr) (re_ix K (re_v 4) (re_v 7)) (re_v 2)))) (fun _ _ _ _ _ => (re_bT b_str boot_str (by rfl) m_str (re_add K (re_v 7) re_int))))
  (rss_cons (rs_if (rt_w (rw_or (rt_cmp (c_eq K hr) (re_mod (re_v 5) re_int) re_int) (rw_or1 (rt_w (rw_and (rt_cmp (c_eq K hr) (re_v 3) re_int) (rw_and1 (rt_cmp (c_eq K hr) (re_mod (re_v 5) re_int) re_int))))))) (rss_cons (rs_if (rt_w (rw_and (rt_cmp (c_ne K hr) (re_v 6) (re_lst ra_nil)) (rw_and1 (rt_cmp c_gt (re_mod (re_fdiv (re_v 5) re_int) re_int) re_int)))) (rss_one (rs_ret (re_tup (ra_cons re_str (ra_cons (re_ix K (re_v 6) (re_mod (re_fdiv (re_v 5) re_int) (re_b1 (b_len K) PySem.boot_len (by rfl) m_len (re_v 6)))) ra_nil))))) rss_nil)
  (rss_cons (rs_expr (re_append K (re_v 4) (re_v 2)))
  (rss_one (rs_ret (re_tup (ra_cons re_str (ra_cons (re_bT b_str boot_str (by rfl) m_str (re_b1 (b_len K) PySem.boot_len (by rfl) m_len (re_v 4))) ra_nil))))))) rss_nil)
  (rss_cons (rs_set (i := 8) nd rfl (by first | exact Or.inl rfl | exact Or.inr rfl) (re_fn K c__law_makers hr (by rfl) (ra_cons (re_v 1) (ra_cons (re_v 2) ra_nil))))
  (rss_cons (rs_asg (re_ix K (re_v 8) (re_mod (re_fdiv (re_v 5) re_int) (re_b1 (b_len K) PySem.boot_len (by rfl) m_len (re_v 8)))) (rg_tup K (by rfl) (rgs_name (i := 9) nd (by rfl) (by first | exact Or.inl rfl | exact Or.inr rfl) (rgs_name (i := 10) nd (by rfl) (by first | exact Or.inl rfl | exact Or.inr rfl) rgs_nil))))
  (rss_cons (rs_if (rt_cmp (c_eq K hr) (re_v 3) re_int) (rss_one (rs_asg (re_ix K (re_v 8) re_int) (rg_tup K (by rfl) (rgs_name (i := 9) nd (by rfl) (by first | exact Or.inl rfl | exact Or.inr rfl) (rgs_name (i := 10) nd (by rfl) (by first | exact Or.inl rfl | exact Or.inr rfl) rgs_nil))))) rss_nil)
  (rss_one (rs_ret (re_tup (ra_cons re_str (ra_cons (re_v 9) (ra_cons (re_bT (b_tuple K) boot_tuple (by rfl) m_tuple (re_comp (by rfl) nd (ri_seq K (re_v 10)) (blkOk_by (own := [("_law_part", 11)]) (N := N__law_open) (sc := defScope s__law_open) (by decide +kernel)) (fun _ _ _ _ _ => (rg_name (i := 11) nd (by rfl) (by first | exact Or.inl rfl | exact Or.inr rfl))) (own_name (i := 11) (by decide)) (fun _ _ _ _ _ => rts_nil) (fun _ _ _ _ _ => (re_fn K c__law_open hr (by rfl) (ra_cons (re_v 0) (ra_cons (re_v 1) (ra_cons (re_v 11) (ra_cons (re_max2 (by rfl) (by rfl) m_max re_int (re_sub (re_v 3) re_int)) (ra_cons (re_v 4) ra_nil))))))))) ra_nil))))))))))))⟩
abbrev s__law_open_fills : Stmt := top 22
abbrev N__law_open_fills : List Str := ["_law_deck_here", "_law_kinds_here", "_law_names", "_law_known", "_law_far", "_law_name", "_law_kind"]
theorem sc__law_open_fills : FnScope N__law_open_fills ["_law_deck_here", "_law_kinds_here", "_law_names", "_law_known"] (defScope s__law_open_fills) := ⟨rfl, rfl, rfl, by decide +kernel, rfl, by decide +kernel, by decide +kernel⟩
theorem fn__law_open_fills {a : Addr} {fd : FuncData} {sp : Spec} (F : FunD K "_law_open_fills" "_law_open_fills" (defArgs s__law_open_fills) (defBody s__law_open_fills) (defScope s__law_open_fills) [] [] a fd) (hm : mg "_law_open_fills" = some (.ref a)) {sp__law_open : Spec} (c__law_open : Fn P w K mg base k "_law_open" 5 sp__law_open) {sp__law_next : Spec} (c__law_next : Fn P w K mg base k "_law_next" 1 sp__law_next) (m_tuple : mg "tuple" = none) (m_len : mg "len" = none) (does : Does 7 (t__law_open_fills sp__law_open sp__law_next) 4 sp) : Fn P w K mg base (k + 1) "_law_open_fills" 4 sp := by
  refine ⟨a, fd, ["_law_deck_here", "_law_kinds_here", "_law_names", "_law_known"], def_ok F sc__law_open_fills rfl (fun cdv A outer s H E hr => ?_) does, hm, F.kp, F.bindsN fun _ _ _ _ _ _ us hl => match us, hl with | [_, _, _, _], _ => rfl⟩
  have nd := sc__law_open_fills.nd
  exact ⟨_, (rss_cons (rs_set (i := 4) nd rfl (by first | exact Or.inl rfl | exact Or.inr rfl) (re_sub re_int (re_fdiv (re_b1 (b_len K) PySem.boot_len (by rfl) m_len (re_v 2)) re_int)))
  (rss_one (rs_ret (re_bT (b_tuple K) boot_tuple (by rfl) m_tuple (re_comp (by rfl) nd (ri_seq K (re_v 2)) (blkOk_by (own := [("_law_name", 5), ("_law_kind", 6)]) (N := N__law_open_fills) (sc := defScope s__law_open_fills) (by decide +kernel)) (fun _ _ _ _ _ => (rg_tup K (by rfl) (rgs_name (i := 5) nd (by rfl) (by first | exact Or.inl rfl | exact Or.inr rfl) (rgs_name (i := 6) nd (by rfl) (by first | exact Or.inl rfl | exact Or.inr rfl) rgs_nil)))) (own_tup (owns_cons (own_name (i := 5) (by decide)) (owns_cons (own_name (i := 6) (by decide)) owns_nil))) (fun _ _ _ _ _ => rts_nil) (fun _ _ _ _ _ => (re_tup (ra_cons (re_v 5) (ra_cons (re_fn K c__law_open hr (by rfl) (ra_cons (re_v 0) (ra_cons (re_v 1) (ra_cons (re_v 6) (ra_cons (re_mod (re_fn K c__law_next hr (by rfl) (ra_cons (re_v 0) ra_nil)) (re_v 4)) (ra_cons (re_v 3) ra_nil)))))) ra_nil)))))))))⟩
abbrev s__law_asked_names : Stmt := top 23
abbrev N__law_asked_names : List Str := ["_law_deck_here", "_law_kinds_here", "_law_some", "_law_row", "_law_many", "_law_at"]
theorem sc__law_asked_names : FnScope N__law_asked_names ["_law_deck_here", "_law_kinds_here"] (defScope s__law_asked_names) := ⟨rfl, rfl, rfl, by decide +kernel, rfl, by decide +kernel, by decide +kernel⟩
theorem fn__law_asked_names {a : Addr} {fd : FuncData} {sp : Spec} (F : FunD K "_law_asked_names" "_law_asked_names" (defArgs s__law_asked_names) (defBody s__law_asked_names) (defScope s__law_asked_names) [] [] a fd) (hm : mg "_law_asked_names" = some (.ref a)) {sp__law_next : Spec} (c__law_next : Fn P w K mg base k "_law_next" 1 sp__law_next) (m_range : mg "range" = none) (m_len : mg "len" = none) (m_tuple : mg "tuple" = none) (does : Does 6 (t__law_asked_names sp__law_next) 2 sp) : Fn P w K mg base (k + 1) "_law_asked_names" 2 sp := by
  refine ⟨a, fd, ["_law_deck_here", "_law_kinds_here"], def_ok F sc__law_asked_names rfl (fun cdv A outer s H E hr => ?_) does, hm, F.kp, F.bindsN fun _ _ _ _ _ _ us hl => match us, hl with | [_, _], _ => rfl⟩
  have nd := sc__law_asked_names.nd
  exact ⟨_, (rss_cons (rs_set (i := 2) nd rfl (by first | exact Or.inl rfl | exact Or.inr rfl) (re_add K (re_comp (by rfl) nd (ri_seq K (re_v 1)) (blkOk_by (own := [("_law_row", 3)]) (N := N__law_asked_names) (sc := defScope s__law_asked_names) (by decide +kernel)) (fun _ _ _ _ _ => (rg_name (i := 3) nd (by rfl) (by first | exact Or.inl rfl | exact Or.inr rfl))) (own_name (i := 3) (by decide)) (fun _ _ _ _ _ => rts_nil) (fun _ _ _ _ _ => (re_ix K (re_v 3) re_int))) (re_lst (ra_cons re_str ra_nil))))
  (rss_cons (rs_set (i := 4) nd rfl (by first | exact Or.inl rfl | exact Or.inr rfl) (re_add K re_int (re_mod (re_fn K c__law_next hr (by rfl) (ra_cons (re_v 0) ra_nil)) re_int)))
  (rss_one (rs_ret (re_bT (b_tuple K) boot_tuple (by rfl) m_tuple (re_comp (by rfl) nd (ri_range (by rfl) m_range (re_v 4)) (blkOk_by (own := [("_law_at", 5)]) (N := N__law_asked_names) (sc := defScope s__law_asked_names) (by decide +kernel)) (fun _ _ _ _ _ => (rg_name (i := 5) nd (by rfl) (by first | exact Or.inl rfl | exact Or.inr rfl))) (own_name (i := 5) (by decide)) (fun _ _ _ _ _ => rts_nil) (fun _ _ _ _ _ => (re_tup (ra_cons (re_ix K (re_lst (ra_cons re_str (ra_cons re_str (ra_cons re_str (ra_cons re_str ra_nil))))) (re_v 5)) (ra_cons (re_ix K (re_v 2) (re_mod (re_fn K c__law_next hr (by rfl) (ra_cons (re_v 0) ra_nil)) (re_b1 (b_len K) PySem.boot_len (by rfl) m_len (re_v 2)))) ra_nil))))))))))⟩
abbrev s__law_sided : Stmt := top 24
abbrev N__law_sided : List Str := ["_law_thing", "_law_side", "_law_part"]
theorem sc__law_sided : FnScope N__law_sided ["_law_thing", "_law_side"] (defScope s__law_sided) := ⟨rfl, rfl, rfl, by decide +kernel, rfl, by decide +kernel, by decide +kernel⟩
theorem fn__law_sided {a : Addr} {fd : FuncData} {sp : Spec} (F : FunD K "_law_sided" "_law_sided" (defArgs s__law_sided) (defBody s__law_sided) (defScope s__law_sided) [] [] a fd) (hm : mg "_law_sided" = some (.ref a)) {sp__law_sided : Spec} (c__law_sided : Fn P w K mg base k "_law_sided" 2 sp__law_sided) (m_tuple : mg "tuple" = none) (does : Does 3 (t__law_sided sp__law_sided) 2 sp) : Fn P w K mg base (k + 1) "_law_sided" 2 sp := by
  refine ⟨a, fd, ["_law_thing", "_law_side"], def_ok F sc__law_sided rfl (fun cdv A outer s H E hr => ?_) does, hm, F.kp, F.bindsN fun _ _ _ _ _ _ us hl => match us, hl with | [_, _], _ => rfl⟩
  have nd := sc__law_sided.nd
  exact ⟨_, (rss_cons (rs_if (rt_cmp (c_eq K hr) (re_ix K (re_v 0) re_int) re_str) (rss_one (rs_ret (re_tup (ra_cons re_str (ra_cons (re_add K (re_v 1) (re_ix K (re_v 0) re_int)) ra_nil))))) rss_nil)
  (rss_one (rs_ret (re_tup (ra_cons re_str (ra_cons (re_ix K (re_v 0) re_int) (ra_cons (re_bT (b_tuple K) boot_tuple (by rfl) m_tuple (re_comp (by rfl) nd (ri_seq K (re_ix K (re_v 0) re_int)) (blkOk_by (own := [("_law_part", 2)]) (N := N__law_sided) (sc := defScope s__law_sided) (by decide +kernel)) (fun _ _ _ _ _ => (rg_name (i := 2) nd (by rfl) (by first | exact Or.inl rfl | exact Or.inr rfl))) (own_name (i := 2) (by decide)) (fun _ _ _ _ _ => rts_nil) (fun _ _ _ _ _ => (re_fn K c__law_sided hr (by rfl) (ra_cons (re_v 2) (ra_cons (re_v 1) ra_nil)))))) ra_nil)))))))⟩
abbrev s__law_now : Stmt := top 25
abbrev N__law_now : List Str := ["_law_thing", "_law_bound_to"]
theorem sc__law_now : FnScope N__law_now ["_law_thing", "_law_bound_to"] (defScope s__law_now) := ⟨rfl, rfl, rfl, by decide +kernel, rfl, by decide +kernel, by decide +kernel⟩
theorem fn__law_now {a : Addr} {fd : FuncData} {sp : Spec} (F : FunD K "_law_now" "_law_now" (defArgs s__law_now) (defBody s__law_now) (defScope s__law_now) [] [] a fd) (hm : mg "_law_now" = some (.ref a)) (does : Does 2 (t__law_now) 2 sp) : Fn P w K mg base (k + 1) "_law_now" 2 sp := by
  refine ⟨a, fd, ["_law_thing", "_law_bound_to"], def_ok F sc__law_now rfl (fun cdv A outer s H E hr => ?_) does, hm, F.kp, F.bindsN fun _ _ _ _ _ _ us hl => match us, hl with | [_, _], _ => rfl⟩
  have nd := sc__law_now.nd
  exact ⟨_, (rss_cons (rs_while PassesOwn.never (rt_w (rw_and (rt_cmp (c_eq K hr) (re_ix K (re_v 0) re_int) re_str) (rw_and1 (rt_cmp (c_inD hr) (re_ix K (re_v 0) re_int) (re_v 1))))) (rss_one (rs_set (i := 0) nd rfl (by first | exact Or.inl rfl | exact Or.inr rfl) (re_ixD hr (re_v 1) (re_ix K (re_v 0) re_int)))))
  (rss_one (rs_ret (re_v 0))))⟩
abbrev s__law_within : Stmt := top 26
abbrev N__law_within : List Str := ["_law_name", "_law_thing", "_law_bound_to", "_law_part"]
theorem sc__law_within : FnScope N__law_within ["_law_name", "_law_thing", "_law_bound_to"] (defScope s__law_within) := ⟨rfl, rfl, rfl, by decide +kernel, rfl, by decide +kernel, by decide +kernel⟩
theorem fn__law_within {a : Addr} {fd : FuncData} {sp : Spec} (F : FunD K "_law_within" "_law_within" (defArgs s__law_within) (defBody s__law_within) (defScope s__law_within) [] [] a fd) (hm : mg "_law_within" = some (.ref a)) {sp__law_within : Spec} (c__law_within : Fn P w K mg base k "_law_within" 3 sp__law_within) {sp__law_now : Spec} (c__law_now : Fn P w K mg base k "_law_now" 2 sp__law_now) (does : Does 4 (t__law_within sp__law_within sp__law_now) 3 sp) : Fn P w K mg base (k + 1) "_law_within" 3 sp := by
  refine ⟨a, fd, ["_law_name", "_law_thing", "_law_bound_to"], def_ok F sc__law_within rfl (fun cdv A outer s H E hr => ?_) does, hm, F.kp, F.bindsN fun _ _ _ _ _ _ us hl => match us, hl with | [_, _, _], _ => rfl⟩
  have nd := sc__law_within.nd
  exact ⟨_, (rss_cons (rs_set (i := 1) nd rfl (by first | exact Or.inl rfl | exact Or.inr rfl) (re_fn K c__law_now hr (by rfl) (ra_cons (re_v 1) (ra_cons (re_v 2) ra_nil))))
  (rss_cons (rs_if (rt_cmp (c_eq K hr) (re_ix K (re_v 1) re_int) re_str) (rss_one (rs_ret (re_cmp (c_eq K hr) (re_ix K (re_v 1) re_int) (re_v 0)))) rss_nil)
  (rss_one (rs_ret (re_cmp (c_in K) re_bl (re_comp (by rfl) nd (ri_seq K (re_ix K (re_v 1) re_int)) (blkOk_by (own := [("_law_part", 3)]) (N := N__law_within) (sc := defScope s__law_within) (by decide +kernel)) (fun _ _ _ _ _ => (rg_name (i := 3) nd (by rfl) (by first | exact Or.inl rfl | exact Or.inr rfl))) (own_name (i := 3) (by decide)) (fun _ _ _ _ _ => rts_nil) (fun _ _ _ _ _ => (re_fn K c__law_within hr (by rfl) (ra_cons (re_v 0) (ra_cons (re_v 3) (ra_cons (re_v 2) ra_nil)))))))))))⟩
abbrev s__law_alike : Stmt := top 27
abbrev N__law_alike : List Str := ["_law_one", "_law_other", "_law_bound_to", "_law_name", "_law_thing", "_law_part", "_law_own"]
theorem sc__law_alike : FnScope N__law_alike ["_law_one", "_law_other", "_law_bound_to"] (defScope s__law_alike) := ⟨rfl, rfl, rfl, by decide +kernel, rfl, by decide +kernel, by decide +kernel⟩
theorem fn__law_alike {a : Addr} {fd : FuncData} {sp : Spec} (F : FunD K "_law_alike" "_law_alike" (defArgs s__law_alike) (defBody s__law_alike) (defScope s__law_alike) [] [] a fd) (hm : mg "_law_alike" = some (.ref a)) {sp__law_alike : Spec} (c__law_alike : Fn P w K mg base k "_law_alike" 3 sp__law_alike) {sp__law_within : Spec} (c__law_within : Fn P w K mg base k "_law_within" 3 sp__law_within) {sp__law_now : Spec} (c__law_now : Fn P w K mg base k "_law_now" 2 sp__law_now) (m_zip : mg "zip" = none) (does : Does 7 (t__law_alike sp__law_alike sp__law_within sp__law_now) 3 sp) : Fn P w K mg base (k + 1) "_law_alike" 3 sp := by
  refine ⟨a, fd, ["_law_one", "_law_other", "_law_bound_to"], def_ok F sc__law_alike rfl (fun cdv A outer s H E hr => ?_) does, hm, F.kp, F.bindsN fun _ _ _ _ _ _ us hl => match us, hl with | [_, _, _], _ => rfl⟩
  have nd := sc__law_alike.nd
  exact ⟨_, (rss_cons (rs_par (i := 0) (j := 1) (by rfl) nd rfl rfl (by decide) rfl rfl (by rfl) (ra_cons (re_fn K c__law_now hr (by rfl) (ra_cons (re_v 0) (ra_cons (re_v 2) ra_nil))) (ra_cons (re_fn K c__law_now hr (by rfl) (ra_cons (re_v 1) (ra_cons (re_v 2) ra_nil))) ra_nil)))
  (rss_cons (rs_if (rt_cmp (c_eq K hr) (re_v 0) (re_v 1)) (rss_one (rs_ret re_bl)) rss_nil)
  (rss_cons (rs_if (rt_w (rw_or (rt_cmp (c_eq K hr) (re_ix K (re_v 0) re_int) re_str) (rw_or1 (rt_cmp (c_eq K hr) (re_ix K (re_v 1) re_int) re_str)))) (rss_cons (rs_par (i := 3) (j := 4) (by rfl) nd rfl rfl (by decide) rfl rfl (by rfl) (ra_cons (re_ix K (re_v 0) re_int) (ra_cons (re_v 1) ra_nil)))
  (rss_cons (rs_if (rt_cmp (c_ne K hr) (re_ix K (re_v 0) re_int) re_str) (rss_one (rs_par (i := 3) (j := 4) (by rfl) nd rfl rfl (by decide) rfl rfl (by rfl) (ra_cons (re_ix K (re_v 1) re_int) (ra_cons (re_v 0) ra_nil)))) rss_nil)
  (rss_cons (rs_if (rt_val (re_fn K c__law_within hr (by rfl) (ra_cons (re_v 3) (ra_cons (re_v 4) (ra_cons (re_v 2) ra_nil))))) (rss_one (rs_ret re_bl)) rss_nil)
  (rss_cons (rs_putD hr (re_v 2) (re_v 3) (re_v 4))
  (rss_one (rs_ret re_bl)))))) rss_nil)
  (rss_cons (rs_if (rt_cmp (c_ne K hr) (re_ix K (re_v 0) re_int) (re_ix K (re_v 1) re_int)) (rss_one (rs_ret re_bl)) rss_nil)
  (rss_cons (rs_for PassesOwn.never rfl (ri_zip K (by rfl) m_zip (re_ix K (re_v 0) re_int) (re_ix K (re_v 1) re_int)) (rg_tup K (by rfl) (rgs_name (i := 5) nd (by rfl) (by first | exact Or.inl rfl | exact Or.inr rfl) (rgs_name (i := 6) nd (by rfl) (by first | exact Or.inl rfl | exact Or.inr rfl) rgs_nil))) (rss_one (rs_if (rt_not (rt_val (re_fn K c__law_alike hr (by rfl) (ra_cons (re_v 5) (ra_cons (re_v 6) (ra_cons (re_v 2) ra_nil)))))) (rss_one (rs_ret re_bl)) rss_nil)))
  (rss_one (rs_ret re_bl)))))))⟩
abbrev s__law_can : Stmt := top 28
abbrev N__law_can : List Str := ["_law_one", "_law_other", "_law_bound_to", "_law_own", "_law_given"]
theorem sc__law_can : FnScope N__law_can ["_law_one", "_law_other"] (defScope s__law_can) := ⟨rfl, rfl, rfl, by decide +kernel, rfl, by decide +kernel, by decide +kernel⟩
theorem fn__law_can {a : Addr} {fd : FuncData} {sp : Spec} (F : FunD K "_law_can" "_law_can" (defArgs s__law_can) (defBody s__law_can) (defScope s__law_can) [] [] a fd) (hm : mg "_law_can" = some (.ref a)) {sp__law_alike : Spec} (c__law_alike : Fn P w K mg base k "_law_alike" 3 sp__law_alike) {sp__law_sided : Spec} (c__law_sided : Fn P w K mg base k "_law_sided" 2 sp__law_sided) (m_zip : mg "zip" = none) (does : Does 5 (t__law_can sp__law_alike sp__law_sided) 2 sp) : Fn P w K mg base (k + 1) "_law_can" 2 sp := by
  refine ⟨a, fd, ["_law_one", "_law_other"], def_ok F sc__law_can rfl (fun cdv A outer s H E hr => ?_) does, hm, F.kp, F.bindsN fun _ _ _ _ _ _ us hl => match us, hl with | [_, _], _ => rfl⟩
  have nd := sc__law_can.nd
  exact ⟨_, (rss_cons (rs_set (i := 2) nd rfl (by first | exact Or.inl rfl | exact Or.inr rfl) re_newD)
  (rss_cons (rs_for PassesOwn.never rfl (ri_zip K (by rfl) m_zip (re_ix K (re_v 0) re_int) (re_ix K (re_v 1) re_int)) (rg_tup K (by rfl) (rgs_name (i := 3) nd (by rfl) (by first | exact Or.inl rfl | exact Or.inr rfl) (rgs_name (i := 4) nd (by rfl) (by first | exact Or.inl rfl | exact Or.inr rfl) rgs_nil))) (rss_one (rs_if (rt_not (rt_val (re_fn K c__law_alike hr (by rfl) (ra_cons (re_fn K c__law_sided hr (by rfl) (ra_cons (re_ix K (re_v 3) re_int) (ra_cons re_str ra_nil))) (ra_cons (re_fn K c__law_sided hr (by rfl) (ra_cons (re_ix K (re_v 4) re_int) (ra_cons re_str ra_nil))) (ra_cons (re_v 2) ra_nil)))))) (rss_one (rs_ret re_bl)) rss_nil)))
  (rss_one (rs_ret re_bl))))⟩
abbrev s__law_is_new : Stmt := top 29
abbrev N__law_is_new : List Str := ["_law_thing", "_law_figures", "_law_sign", "_law_part"]
theorem sc__law_is_new : FnScope N__law_is_new ["_law_thing"] (defScope s__law_is_new) := ⟨rfl, rfl, rfl, by decide +kernel, rfl, by decide +kernel, by decide +kernel⟩
theorem fn__law_is_new {a : Addr} {fd : FuncData} {sp : Spec} (F : FunD K "_law_is_new" "_law_is_new" (defArgs s__law_is_new) (defBody s__law_is_new) (defScope s__law_is_new) [] [] a fd) (hm : mg "_law_is_new" = some (.ref a)) {sp__law_is_new : Spec} (c__law_is_new : Fn P w K mg base k "_law_is_new" 1 sp__law_is_new) (m_all : mg "all" = none) (m_len : mg "len" = none) (m_isinstance : mg "isinstance" = none) (m_str : mg "str" = none) (m_tuple : mg "tuple" = none) (does : Does 4 (t__law_is_new sp__law_is_new) 1 sp) : Fn P w K mg base (k + 1) "_law_is_new" 1 sp := by
  refine ⟨a, fd, ["_law_thing"], def_ok F sc__law_is_new rfl (fun cdv A outer s H E hr => ?_) does, hm, F.kp, F.bindsN fun _ _ _ _ _ _ us hl => match us, hl with | [_], _ => rfl⟩
  have nd := sc__law_is_new.nd
  exact ⟨_, (rss_cons (rs_if (rt_w (rw_or (rt_not (rt_val (re_isi K (by decide +kernel) boot_tuple (by rfl) m_isinstance (by rfl) m_tuple (re_v 0)))) (rw_or (rt_cmp (c_notIn K) (re_b1 (b_len K) PySem.boot_len (by rfl) m_len (re_v 0)) (re_tup (ra_cons re_int (ra_cons re_int ra_nil)))) (rw_or1 (rt_not (rt_val (re_isi K (by decide +kernel) boot_str (by rfl) m_isinstance (by rfl) m_str (re_ix K (re_v 0) re_int)))))))) (rss_one (rs_ret re_bl)) rss_nil)
  (rss_cons (rs_if (rt_w (rw_and (rt_cmp (c_eq K hr) (re_ix K (re_v 0) re_int) re_str) (rw_and (rt_cmp (c_eq K hr) (re_b1 (b_len K) PySem.boot_len (by rfl) m_len (re_v 0)) re_int) (rw_and1 (rt_val (re_isi K (by decide +kernel) boot_str (by rfl) m_isinstance (by rfl) m_str (re_ix K (re_v 0) re_int))))))) (rss_cons (rs_setLc (i := 1) rfl nd rfl rfl (sw_true rfl rfl rfl (by decide +kernel)) (ri_seq K (re_ix K (re_v 0) re_int)) (blkOk_by (own := [("_law_sign", 2)]) (N := N__law_is_new) (sc := defScope s__law_is_new) (by decide +kernel)) (fun _ _ _ _ _ => (rg_name (i := 2) nd (by rfl) (by first | exact Or.inl rfl | exact Or.inr rfl))) (own_name (i := 2) (by decide)) (fun _ _ _ _ _ => (rts_one (rt_cmp (c_notIn K) (re_v 2) re_str))) (fun _ _ _ _ _ => (re_v 2)))
  (rss_one (rs_ret (re_and (re_cmp (c_eq K hr) (re_v 1) (re_lst ra_nil)) (re_and (re_chain c_le c_le re_int (re_b1 (b_len K) PySem.boot_len (by rfl) m_len (re_ix K (re_v 0) re_int)) re_int) (re_one (re_cmp (c_ne K hr) (re_ix K (re_ix K (re_v 0) re_int) re_int) re_str))))))) rss_nil)
  (rss_cons (rs_if (rt_w (rw_or (rt_cmp (c_ne K hr) (re_ix K (re_v 0) re_int) re_str) (rw_or (rt_cmp (c_ne K hr) (re_b1 (b_len K) PySem.boot_len (by rfl) m_len (re_v 0)) re_int) (rw_or (rt_not (rt_val (re_isi K (by decide +kernel) boot_str (by rfl) m_isinstance (by rfl) m_str (re_ix K (re_v 0) re_int)))) (rw_or1 (rt_not (rt_val (re_isi K (by decide +kernel) boot_tuple (by rfl) m_isinstance (by rfl) m_tuple (re_ix K (re_v 0) re_int))))))))) (rss_one (rs_ret re_bl)) rss_nil)
  (rss_one (rs_ret (re_b1 (b_all K (by rfl)) boot_all (by rfl) m_all (re_comp (by rfl) nd (ri_seq K (re_ix K (re_v 0) re_int)) (blkOk_by (own := [("_law_part", 3)]) (N := N__law_is_new) (sc := defScope s__law_is_new) (by decide +kernel)) (fun _ _ _ _ _ => (rg_name (i := 3) nd (by rfl) (by first | exact Or.inl rfl | exact Or.inr rfl))) (own_name (i := 3) (by decide)) (fun _ _ _ _ _ => rts_nil) (fun _ _ _ _ _ => (re_fn K c__law_is_new hr (by rfl) (ra_cons (re_v 3) ra_nil))))))))))⟩
abbrev s__law_is_half : Stmt := top 30
abbrev N__law_is_half : List Str := ["_law_half", "_law_many", "_law_at", "_law_pair"]
theorem sc__law_is_half : FnScope N__law_is_half ["_law_half", "_law_many"] (defScope s__law_is_half) := ⟨rfl, rfl, rfl, by decide +kernel, rfl, by decide +kernel, by decide +kernel⟩
theorem fn__law_is_half {a : Addr} {fd : FuncData} {sp : Spec} (F : FunD K "_law_is_half" "_law_is_half" (defArgs s__law_is_half) (defBody s__law_is_half) (defScope s__law_is_half) [] [] a fd) (hm : mg "_law_is_half" = some (.ref a)) {sp__law_is_new : Spec} (c__law_is_new : Fn P w K mg base k "_law_is_new" 1 sp__law_is_new) {sp__law_same : Spec} (c__law_same : Fn P w K mg base k "_law_same" 2 sp__law_same) (m_enumerate : mg "enumerate" = none) (m_isinstance : mg "isinstance" = none) (m_tuple : mg "tuple" = none) (m_len : mg "len" = none) (m_str : mg "str" = none) (does : Does 4 (t__law_is_half sp__law_is_new sp__law_same) 2 sp) : Fn P w K mg base (k + 1) "_law_is_half" 2 sp := by
  refine ⟨a, fd, ["_law_half", "_law_many"], def_ok F sc__law_is_half rfl (fun cdv A outer s H E hr => ?_) does, hm, F.kp, F.bindsN fun _ _ _ _ _ _ us hl => match us, hl with | [_, _], _ => rfl⟩
  have nd := sc__law_is_half.nd
  exact ⟨_, (rss_cons (rs_if (rt_w (rw_or (rt_not (rt_val (re_isi K (by decide +kernel) boot_tuple (by rfl) m_isinstance (by rfl) m_tuple (re_v 0)))) (rw_or1 (rt_cmp (c_ne K hr) (re_b1 (b_len K) PySem.boot_len (by rfl) m_len (re_v 0)) (re_v 1))))) (rss_one (rs_ret re_bl)) rss_nil)
  (rss_cons (rs_for PassesOwn.never rfl (ri_enum K (by rfl) m_enumerate (re_v 0)) (rg_tup K (by rfl) (rgs_name (i := 2) nd (by rfl) (by first | exact Or.inl rfl | exact Or.inr rfl) (rgs_name (i := 3) nd (by rfl) (by first | exact Or.inl rfl | exact Or.inr rfl) rgs_nil))) (rss_cons (rs_if (rt_w (rw_or (rt_not (rt_val (re_isi K (by decide +kernel) boot_tuple (by rfl) m_isinstance (by rfl) m_tuple (re_v 3)))) (rw_or (rt_cmp (c_ne K hr) (re_b1 (b_len K) PySem.boot_len (by rfl) m_len (re_v 3)) re_int) (rw_or1 (rt_not (rt_val (re_fn K c__law_same hr (by rfl) (ra_cons (re_ix K (re_v 3) re_int) (ra_cons (re_bT b_str boot_str (by rfl) m_str (re_add K (re_v 2) re_int)) ra_nil))))))))) (rss_one (rs_ret re_bl)) rss_nil)
  (rss_one (rs_if (rt_not (rt_val (re_fn K c__law_is_new hr (by rfl) (ra_cons (re_ix K (re_v 3) re_int) ra_nil)))) (rss_one (rs_ret re_bl)) rss_nil))))
  (rss_one (rs_ret re_bl))))⟩
abbrev s__law_right : Stmt := top 31
abbrev N__law_right : List Str := ["_law_found", "_law_one", "_law_other", "_law_many", "_law_own", "_law_given"]
theorem sc__law_right : FnScope N__law_right ["_law_found", "_law_one", "_law_other", "_law_many"] (defScope s__law_right) := ⟨rfl, rfl, rfl, by decide +kernel, rfl, by decide +kernel, by decide +kernel⟩
theorem fn__law_right {a : Addr} {fd : FuncData} {sp : Spec} (F : FunD K "_law_right" "_law_right" (defArgs s__law_right) (defBody s__law_right) (defScope s__law_right) [] [] a fd) (hm : mg "_law_right" = some (.ref a)) {sp__law_same : Spec} (c__law_same : Fn P w K mg base k "_law_same" 2 sp__law_same) {sp__law_filled : Spec} (c__law_filled : Fn P w K mg base k "_law_filled" 2 sp__law_filled) {sp__law_is_half : Spec} (c__law_is_half : Fn P w K mg base k "_law_is_half" 2 sp__law_is_half) {sp__law_can : Spec} (c__law_can : Fn P w K mg base k "_law_can" 2 sp__law_can) (m_zip : mg "zip" = none) (m_isinstance : mg "isinstance" = none) (m_tuple : mg "tuple" = none) (m_len : mg "len" = none) (does : Does 6 (t__law_right sp__law_same sp__law_filled sp__law_is_half sp__law_can) 4 sp) : Fn P w K mg base (k + 1) "_law_right" 4 sp := by
  refine ⟨a, fd, ["_law_found", "_law_one", "_law_other", "_law_many"], def_ok F sc__law_right rfl (fun cdv A outer s H E hr => ?_) does, hm, F.kp, F.bindsN fun _ _ _ _ _ _ us hl => match us, hl with | [_, _, _, _], _ => rfl⟩
  have nd := sc__law_right.nd
  exact ⟨_, (rss_cons (rs_if (rt_not (rt_val (re_fn K c__law_can hr (by rfl) (ra_cons (re_v 1) (ra_cons (re_v 2) ra_nil))))) (rss_one (rs_ret (re_isN (re_v 0)))) rss_nil)
  (rss_cons (rs_if (rt_w (rw_or (rt_not (rt_val (re_isi K (by decide +kernel) boot_tuple (by rfl) m_isinstance (by rfl) m_tuple (re_v 0)))) (rw_or1 (rt_cmp (c_ne K hr) (re_b1 (b_len K) PySem.boot_len (by rfl) m_len (re_v 0)) re_int)))) (rss_one (rs_ret re_bl)) rss_nil)
  (rss_cons (rs_if (rt_w (rw_or (rt_not (rt_val (re_fn K c__law_is_half hr (by rfl) (ra_cons (re_ix K (re_v 0) re_int) (ra_cons (re_ix K (re_v 3) re_int) ra_nil))))) (rw_or1 (rt_not (rt_val (re_fn K c__law_is_half hr (by rfl) (ra_cons (re_ix K (re_v 0) re_int) (ra_cons (re_ix K (re_v 3) re_int) ra_nil)))))))) (rss_one (rs_ret re_bl)) rss_nil)
  (rss_cons (rs_for PassesOwn.never rfl (ri_zip K (by rfl) m_zip (re_ix K (re_v 1) re_int) (re_ix K (re_v 2) re_int)) (rg_tup K (by rfl) (rgs_name (i := 4) nd (by rfl) (by first | exact Or.inl rfl | exact Or.inr rfl) (rgs_name (i := 5) nd (by rfl) (by first | exact Or.inl rfl | exact Or.inr rfl) rgs_nil))) (rss_one (rs_if (rt_not (rt_val (re_fn K c__law_same hr (by rfl) (ra_cons (re_fn K c__law_filled hr (by rfl) (ra_cons (re_ix K (re_v 4) re_int) (ra_cons (re_ix K (re_v 0) re_int) ra_nil))) (ra_cons (re_fn K c__law_filled hr (by rfl) (ra_cons (re_ix K (re_v 5) re_int) (ra_cons (re_ix K (re_v 0) re_int) ra_nil))) ra_nil))))) (rss_one (rs_ret re_bl)) rss_nil)))
  (rss_one (rs_ret re_bl))))))⟩
abbrev s__law_second : Stmt := top 32
abbrev N__law_second : List Str := ["_law_deck_here", "_law_kinds_here", "_law_names", "_law_fills", "_law_known", "_law_own", "_law_by", "_law_found", "_law_name", "_law_kind", "_law_name_there", "_law_thing"]
theorem sc__law_second : FnScope N__law_second ["_law_deck_here", "_law_kinds_here", "_law_names", "_law_fills", "_law_known"] (defScope s__law_second) := ⟨rfl, rfl, rfl, by decide +kernel, rfl, by decide +kernel, by decide +kernel⟩
theorem fn__law_second {a : Addr} {fd : FuncData} {sp : Spec} (F : FunD K "_law_second" "_law_second" (defArgs s__law_second) (defBody s__law_second) (defScope s__law_second) [] [] a fd) (hm : mg "_law_second" = some (.ref a)) {sp__law_varied : Spec} (c__law_varied : Fn P w K mg base k "_law_varied" 6 sp__law_varied) (m_tuple : mg "tuple" = none) (m_zip : mg "zip" = none) (does : Does 12 (t__law_second sp__law_varied) 5 sp) : Fn P w K mg base (k + 1) "_law_second" 5 sp := by
  refine ⟨a, fd, ["_law_deck_here", "_law_kinds_here", "_law_names", "_law_fills", "_law_known"], def_ok F sc__law_second rfl (fun cdv A outer s H E hr => ?_) does, hm, F.kp, F.bindsN fun _ _ _ _ _ _ us hl => match us, hl with | [_, _, _, _, _], _ => rfl⟩
  have nd := sc__law_second.nd
  exact ⟨_, (rss_cons (rs_set (i := 5) nd rfl (by first | exact Or.inl rfl | exact Or.inr rfl) (re_new ra_nil))
  (rss_cons (rs_set (i := 6) nd rfl (by first | exact Or.inl rfl | exact Or.inr rfl) re_newD)
  (rss_cons (rs_set (i := 7) nd rfl (by first | exact Or.inl rfl | exact Or.inr rfl) (re_new ra_nil))
  (rss_cons (rs_for PassesOwn.never rfl (ri_zip K (by rfl) m_zip (re_v 2) (re_v 3)) (rg_tup K (by rfl) (rgs_tup K (by rfl) (rgs_name (i := 8) nd (by rfl) (by first | exact Or.inl rfl | exact Or.inr rfl) (rgs_name (i := 9) nd (by rfl) (by first | exact Or.inl rfl | exact Or.inr rfl) rgs_nil)) (rgs_tup K (by rfl) (rgs_name (i := 10) nd (by rfl) (by first | exact Or.inl rfl | exact Or.inr rfl) (rgs_name (i := 11) nd (by rfl) (by first | exact Or.inl rfl | exact Or.inr rfl) rgs_nil)) rgs_nil (on_tup (on_cons (on_cons on_nil)))) (on_tup (on_cons (on_cons on_nil))))) (rss_one (rs_expr (re_append K (re_v 7) (re_tup (ra_cons (re_v 8) (ra_cons (re_fn K c__law_varied hr (by rfl) (ra_cons (re_v 0) (ra_cons (re_v 1) (ra_cons (re_v 11) (ra_cons (re_v 9) (ra_cons (re_v 5) (ra_cons (re_v 6) ra_nil))))))) ra_nil)))))))
  (rss_cons (rs_fz 5 (rs_expr (re_extend K (re_v 4) (re_v 5))))
  (rss_one (rs_ret (re_bT (b_tuple K) boot_tuple (by rfl) m_tuple (re_v 7)))))))))⟩
abbrev s__law_varied : Stmt := top 33
abbrev N__law_varied : List Str := ["_law_deck_here", "_law_kinds_here", "_law_thing", "_law_kind", "_law_own", "_law_by", "_law_number", "_law_parts", "_law_row", "_law_p", "_law_k"]
theorem sc__law_varied : FnScope N__law_varied ["_law_deck_here", "_law_kinds_here", "_law_thing", "_law_kind", "_law_own", "_law_by"] (defScope s__law_varied) := ⟨rfl, rfl, rfl, by decide +kernel, rfl, by decide +kernel, by decide +kernel⟩
theorem fn__law_varied {a : Addr} {fd : FuncData} {sp : Spec} (F : FunD K "_law_varied" "_law_varied" (defArgs s__law_varied) (defBody s__law_varied) (defScope s__law_varied) [] [] a fd) (hm : mg "_law_varied" = some (.ref a)) {sp__law_varied : Spec} (c__law_varied : Fn P w K mg base k "_law_varied" 6 sp__law_varied) {sp__law_makers : Spec} (c__law_makers : Fn P w K mg base k "_law_makers" 2 sp__law_makers) {sp__law_open : Spec} (c__law_open : Fn P w K mg base k "_law_open" 5 sp__law_open) {sp__law_next : Spec} (c__law_next : Fn P w K mg base k "_law_next" 1 sp__law_next) (m_zip : mg "zip" = none) (m_tuple : mg "tuple" = none) (m_len : mg "len" = none) (m_str : mg "str" = none) (does : Does 11 (t__law_varied sp__law_varied sp__law_makers sp__law_open sp__law_next) 6 sp) : Fn P w K mg base (k + 1) "_law_varied" 6 sp := by
  refine ⟨a, fd, ["_law_deck_here", "_law_kinds_here", "_law_thing", "_law_kind", "_law_own", "_law_by"], def_ok F sc__law_varied rfl (fun cdv A outer s H E hr => ?_) does, hm, F.kp, F.bindsN fun _ _ _ _ _ _ us hl => match us, hl with | [_, _, _, _, _, _], _ => rfl⟩
  have nd := sc__law_varied.nd
  exact ⟨_, (rss_cons (rs_set (i := 6) nd rfl (by first | exact Or.inl rfl | exact Or.inr rfl) (re_fn K c__law_next hr (by rfl) (ra_cons (re_v 0) ra_nil)))
  (rss_cons (rs_if (rt_cmp (c_eq K hr) (re_mod (re_v 6) re_int) re_int) (rss_one (rs_ret (re_fn K c__law_open hr (by rfl) (ra_cons (re_v 0) (ra_cons (re_v 1) (ra_cons (re_v 3) (ra_cons re_int (ra_cons (re_v 4) ra_nil)))))))) rss_nil)
  (rss_cons (rs_if (rt_cmp (c_eq K hr) (re_ix K (re_v 2) re_int) re_str) (rss_cons (rs_if (rt_cmp (c_notInD hr) (re_ix K (re_v 2) re_int) (re_v 5)) (rss_cons (rs_expr (re_append K (re_v 4) (re_v 3)))
  (rss_one (rs_putD hr (re_v 5) (re_ix K (re_v 2) re_int) (re_bT b_str boot_str (by rfl) m_str (re_b1 (b_len K) PySem.boot_len (by rfl) m_len (re_v 4)))))) rss_nil)
  (rss_one (rs_ret (re_tup (ra_cons re_str (ra_cons (re_ixD hr (re_v 5) (re_ix K (re_v 2) re_int)) ra_nil)))))) rss_nil)
  (rss_cons (rs_set (i := 7) nd rfl (by first | exact Or.inl rfl | exact Or.inr rfl) (re_ix K (re_comp (by rfl) nd (ri_seq K (re_fn K c__law_makers hr (by rfl) (ra_cons (re_v 1) (ra_cons (re_v 3) ra_nil)))) (blkOk_by (own := [("_law_row", 8)]) (N := N__law_varied) (sc := defScope s__law_varied) (by decide +kernel)) (fun _ _ _ _ _ => (rg_name (i := 8) nd (by rfl) (by first | exact Or.inl rfl | exact Or.inr rfl))) (own_name (i := 8) (by decide)) (fun _ _ _ _ _ => (rts_one (rt_cmp (c_eq K hr) (re_ix K (re_v 8) re_int) (re_ix K (re_v 2) re_int)))) (fun _ _ _ _ _ => (re_ix K (re_v 8) re_int))) re_int))
  (rss_one (rs_ret (re_tup (ra_cons re_str (ra_cons (re_ix K (re_v 2) re_int) (ra_cons (re_bT (b_tuple K) boot_tuple (by rfl) m_tuple (re_comp (by rfl) nd (ri_zip K (by rfl) m_zip (re_ix K (re_v 2) re_int) (re_v 7)) (blkOk_by (own := [("_law_p", 9), ("_law_k", 10)]) (N := N__law_varied) (sc := defScope s__law_varied) (by decide +kernel)) (fun _ _ _ _ _ => (rg_tup K (by rfl) (rgs_name (i := 9) nd (by rfl) (by first | exact Or.inl rfl | exact Or.inr rfl) (rgs_name (i := 10) nd (by rfl) (by first | exact Or.inl rfl | exact Or.inr rfl) rgs_nil)))) (own_tup (owns_cons (own_name (i := 9) (by decide)) (owns_cons (own_name (i := 10) (by decide)) owns_nil))) (fun _ _ _ _ _ => rts_nil) (fun _ _ _ _ _ => (re_fn K c__law_varied hr (by rfl) (ra_cons (re_v 0) (ra_cons (re_v 1) (ra_cons (re_v 9) (ra_cons (re_v 10) (ra_cons (re_v 4) (ra_cons (re_v 5) ra_nil)))))))))) ra_nil))))))))))⟩
abbrev s_law : Stmt := top 34
abbrev N_law : List Str := ["_law_script", "_law_deck_here", "_law_kinds_here", "_law_names", "_law_k", "_law_known", "_law_one", "_law_more", "_law_fills", "_law_other"]
theorem sc_law : FnScope N_law ["_law_script"] (defScope s_law) := ⟨rfl, rfl, rfl, by decide +kernel, rfl, by decide +kernel, by decide +kernel⟩
theorem fn_law {a : Addr} {fd : FuncData} {sp : Spec} (F : FunD K "law" "law" (defArgs s_law) (defBody s_law) (defScope s_law) [] [] a fd) (hm : mg "law" = some (.ref a)) {sp_common : Spec} (c_common : Fn P w K mg base k "common" 2 sp_common) {sp__law_right : Spec} (c__law_right : Fn P w K mg base k "_law_right" 4 sp__law_right) {sp__law_next : Spec} (c__law_next : Fn P w K mg base k "_law_next" 1 sp__law_next) {sp__law_open_fills : Spec} (c__law_open_fills : Fn P w K mg base k "_law_open_fills" 4 sp__law_open_fills) {sp__law_second : Spec} (c__law_second : Fn P w K mg base k "_law_second" 5 sp__law_second) {sp__law_asked_names : Spec} (c__law_asked_names : Fn P w K mg base k "_law_asked_names" 2 sp__law_asked_names) {sp__law_kinds : Spec} (c__law_kinds : Fn P w K mg base k "_law_kinds" 1 sp__law_kinds) {sp__law_deck : Spec} (c__law_deck : Fn P w K mg base k "_law_deck" 1 sp__law_deck) (m_range : mg "range" = none) (m_len : mg "len" = none) (does : Does 10 (t_law sp_common sp__law_right sp__law_next sp__law_open_fills sp__law_second sp__law_asked_names sp__law_kinds sp__law_deck) 1 sp) : FnOk P w K mg base CX0 (k + 1) a fd ["_law_script"] (toSp K 1 sp) := by
  refine def_ok F sc_law rfl (fun cdv A outer s H E hr => ?_) does
  have nd := sc_law.nd
  exact ⟨_, (rss_cons (rs_set (i := 1) nd rfl (by first | exact Or.inl rfl | exact Or.inr rfl) (re_fn K c__law_deck hr (by rfl) (ra_cons (re_v 0) ra_nil)))
  (rss_cons (rs_set (i := 2) nd rfl (by first | exact Or.inl rfl | exact Or.inr rfl) (re_fn K c__law_kinds hr (by rfl) (ra_cons (re_v 1) ra_nil)))
  (rss_cons (rs_set (i := 3) nd rfl (by first | exact Or.inl rfl | exact Or.inr rfl) (re_fn K c__law_asked_names hr (by rfl) (ra_cons (re_v 1) (ra_cons (re_v 2) ra_nil))))
  (rss_cons (rs_for PassesOwn.never rfl (ri_range (by rfl) m_range re_int) (rg_name (i := 4) nd (by rfl) (by first | exact Or.inl rfl | exact Or.inr rfl)) (rss_cons (rs_set (i := 5) nd rfl (by first | exact Or.inl rfl | exact Or.inr rfl) (re_new ra_nil))
  (rss_cons (rs_set (i := 6) nd rfl (by first | exact Or.inl rfl | exact Or.inr rfl) (re_tup (ra_cons (re_fn K c__law_open_fills hr (by rfl) (ra_cons (re_v 1) (ra_cons (re_v 2) (ra_cons (re_v 3) (ra_cons (re_v 5) ra_nil))))) (ra_cons (re_tup (ra_cons re_str (ra_cons re_str (ra_cons (re_tup ra_nil) ra_nil)))) (ra_cons (re_tup (ra_cons re_str ra_nil)) (ra_cons re_int (ra_cons (re_tup ra_nil) ra_nil)))))))
  (rss_cons (rs_set (i := 7) nd rfl (by first | exact Or.inl rfl | exact Or.inr rfl) (re_new ra_nil))
  (rss_cons (rs_if (rt_cmp (c_eq K hr) (re_mod (re_fn K c__law_next hr (by rfl) (ra_cons (re_v 1) ra_nil)) re_int) re_int) (rss_one (rs_set (i := 8) nd rfl (by first | exact Or.inl rfl | exact Or.inr rfl) (re_fn K c__law_open_fills hr (by rfl) (ra_cons (re_v 1) (ra_cons (re_v 2) (ra_cons (re_v 3) (ra_cons (re_v 7) ra_nil))))))) (rss_one (rs_set (i := 8) nd rfl (by first | exact Or.inl rfl | exact Or.inr rfl) (re_fn K c__law_second hr (by rfl) (ra_cons (re_v 1) (ra_cons (re_v 2) (ra_cons (re_v 3) (ra_cons (re_ix K (re_v 6) re_int) (ra_cons (re_v 7) ra_nil)))))))))
  (rss_cons (rs_set (i := 9) nd rfl (by first | exact Or.inl rfl | exact Or.inr rfl) (re_tup (ra_cons (re_v 8) (ra_cons (re_tup (ra_cons re_str (ra_cons re_str (ra_cons (re_tup ra_nil) ra_nil)))) (ra_cons (re_tup (ra_cons re_str ra_nil)) (ra_cons re_int (ra_cons (re_tup ra_nil) ra_nil)))))))
  (rss_cons (rs_if (rt_not (rt_val (re_fn K c__law_right hr (by rfl) (ra_cons (re_fn K c_common hr (by rfl) (ra_cons (re_v 6) (ra_cons (re_v 9) ra_nil))) (ra_cons (re_v 6) (ra_cons (re_v 9) (ra_cons (re_tup (ra_cons (re_b1 (b_len K) PySem.boot_len (by rfl) m_len (re_v 5)) (ra_cons (re_b1 (b_len K) PySem.boot_len (by rfl) m_len (re_v 7)) ra_nil))) ra_nil))))))) (rss_one (rs_ret re_bl)) rss_nil)
  (rss_cons (rs_if (rt_not (rt_val (re_fn K c__law_right hr (by rfl) (ra_cons (re_fn K c_common hr (by rfl) (ra_cons (re_v 9) (ra_cons (re_v 6) ra_nil))) (ra_cons (re_v 9) (ra_cons (re_v 6) (ra_cons (re_tup (ra_cons (re_b1 (b_len K) PySem.boot_len (by rfl) m_len (re_v 7)) (ra_cons (re_b1 (b_len K) PySem.boot_len (by rfl) m_len (re_v 5)) ra_nil))) ra_nil))))))) (rss_one (rs_ret re_bl)) rss_nil)
  (rss_one (rs_if (rt_w (rw_or (rt_isN (re_fn K c_common hr (by rfl) (ra_cons (re_v 6) (ra_cons (re_v 6) ra_nil)))) (rw_or1 (rt_not (rt_val (re_fn K c__law_right hr (by rfl) (ra_cons (re_fn K c_common hr (by rfl) (ra_cons (re_v 6) (ra_cons (re_v 6) ra_nil))) (ra_cons (re_v 6) (ra_cons (re_v 6) (ra_cons (re_tup (ra_cons (re_b1 (b_len K) PySem.boot_len (by rfl) m_len (re_v 5)) (ra_cons (re_b1 (b_len K) PySem.boot_len (by rfl) m_len (re_v 5)) ra_nil))) ra_nil)))))))))) (rss_one (rs_ret re_bl)) rss_nil))))))))))
  (rss_one (rs_ret re_bl))))))⟩
end
section
variable {K : Fg} {H : Hp} {M : Mem}
theorem reps_ints : ∀ ns : List Int, Reps K H M (intsD ns) (ns.map V.int)
  | [] => rfl
  | n :: r => ⟨.int n, r.map V.int, rfl, rfl, reps_ints r⟩
theorem ints_reps : ∀ (ns : List Int) {vs : List V}, Reps K H M (intsD ns) vs → vs = ns.map V.int
  | [], _, h => h
  | n :: r, _, ⟨v, t, e, h, q⟩ => by
    rw [e, ints_reps r q, show v = .int n from h]
    rfl
end
/-! ### decks of kind one: told as such -/
section
variable {K : Fg} {H : Hp} {M M' : Mem} {dk rs : Addr} {n : Int} {cs rr : List Int}
structure Told1 (M M' : Mem) (dk rs : Addr) (b : Nat) : Prop where
  t0 : M' dk = some (.deck 1 b)
  t1 : M' rs = some (.part dk)
  ot : ∀ a, a ≠ dk → a ≠ rs → M' a = M a
theorem Told1.dom {b : Nat} (t : Told1 M M' dk rs b) (A : DeckAt1 M dk rs n cs rr) {a : Addr} : M a = none ↔ M' a = none := by
  by_cases h0 : a = dk
  · subst h0; rw [A.at0, t.t0]; exact ⟨(fun h => nomatch h), (fun h => nomatch h)⟩
  by_cases h1 : a = rs
  · subst h1; rw [A.at2, t.t1]; exact ⟨(fun h => nomatch h), (fun h => nomatch h)⟩
  · rw [t.ot a h0 h1]
theorem deck_close1 {b : Nat} (m : MRep K H M) (A : DeckAt1 M dk rs n cs rr) (t : Told1 M M' dk rs b) (hn : n + b ≤ 2 ^ 40) : MRep K H M' := by
  have f : Fr H M H M' := fun a o h e => ⟨h, (t.dom A).mp e⟩
  refine ⟨fun a o e => ?_, m.prv_step f⟩
  obtain ⟨vd, hd, rd⟩ := m.obj dk _ A.at0
  obtain ⟨vr, hr, rq⟩ := m.obj rs _ A.at2
  by_cases h0 : a = dk
  · subst h0
    rw [t.t0] at e
    cases e
    obtain ⟨v1, r1, rfl, ⟨ca, vc, e1, ⟨hc, mc, pc⟩, rc⟩, v2, r2, rfl, e2, v3, r3, rfl, e3, e4⟩ := rd
    cases e1; cases e2; cases e3; cases e4
    rw [ints_reps rr rq] at hr
    rw [ints_reps cs rc] at hc
    refine ⟨[rs], [ca], fun p hp => ?_, fun p hp => ?_, ca, rs, n, cs, rr, rfl, rfl, hd, by simp [hr], by simp [hc], A.s1, A.s2, A.nn, A.ln, A.n0, hn⟩
    · rw [List.mem_singleton.mp hp]; exact ⟨t.t1, A.ne3⟩
    · rw [List.mem_singleton.mp hp]; exact ⟨⟨_, hc⟩, (t.dom A).mp mc, pc⟩
  by_cases h1 : a = rs
  · subst h1
    rw [t.t1] at e
    cases e
    exact ⟨_, hr⟩
  rw [t.ot a h0 h1] at e
  have q := m.obj a o e
  cases o with
  | lst ds => obtain ⟨vs, e, r⟩ := q; exact ⟨vs, e, r.mono f⟩
  | dK ks ds => obtain ⟨vs, e, z, r⟩ := q; exact ⟨vs, e, z, r.mono f⟩
  | dT ks ds => obtain ⟨vs, e, z, r⟩ := q; exact ⟨vs, e, z, r.mono f⟩
  | ins C ns ds => obtain ⟨dx, vs, e, z, r⟩ := q; exact ⟨dx, vs, e, z, r.mono f⟩
  | tupP ds => obtain ⟨vs, o, e, z, r⟩ := q; exact ⟨vs, o, e, z, r.mono f⟩
  | deck k b =>
    refine DeckRep.keep (M' := M') q (fun x u _ e => e) (fun x _ e => e) (fun x w => ?_) (fun x o e m p => ⟨e, (f x o e m).2, p⟩)
    have x0 : x ≠ dk := fun z => by rw [z, A.at0] at w; cases w
    have x1 : x ≠ rs := fun z => by rw [z, A.at2] at w; cases w
    rw [t.ot x x0 x1]
    exact w
  | part c => exact q
theorem deck_open1 {b : Nat} (m : MRep K H M) (h : M dk = some (.deck 1 b)) : ∃ (rs : Addr) (n : Int) (cs rr : List Int) (Mo : Mem), DeckAt1 Mo dk rs n cs rr ∧ Told1 Mo M dk rs b ∧ n + b ≤ 2 ^ 40 ∧ MRep K H Mo := by
  obtain ⟨ps, fs, hp, hf, ca, rs, n, cs, rr, rfl, rfl, ho, hos, hfs, s1, s2, nn, ln, n0, hn⟩ := m.obj dk _ h
  obtain ⟨p1, ne3⟩ := hp rs (by simp)
  obtain ⟨_, mc, pc⟩ := hf ca (by simp)
  simp only [List.map_cons, List.map_nil, List.cons.injEq, and_true] at hos hfs
  have A : DeckAt1 (mset (mset M dk (.lst [.lst (intsD cs), .int n, .ref rs])) rs (.lst (intsD rr))) dk rs n cs rr :=
    ⟨ne3, by rw [mset_ne (Ne.symm ne3), mset_same], mset_same _ _ _, s1, s2, nn, ln, n0⟩
  have T : Told1 (mset (mset M dk (.lst [.lst (intsD cs), .int n, .ref rs])) rs (.lst (intsD rr))) M dk rs b :=
    ⟨h, p1, fun a h0 h1 => by rw [mset_ne h1, mset_ne h0]⟩
  refine ⟨rs, n, cs, rr, _, A, T, hn, ?_⟩
  generalize mset (mset M dk (.lst [.lst (intsD cs), .int n, .ref rs])) rs (.lst (intsD rr)) = Mo at A T
  have f : Fr H M H Mo := fun a o h e => ⟨h, (T.dom A).mpr e⟩
  refine ⟨fun a o e => ?_, m.prv_step f⟩
  by_cases h0 : a = dk
  · subst h0
    rw [A.at0] at e
    cases e
    exact ⟨_, ho, _, _, rfl, ⟨ca, _, rfl, ⟨hfs, (T.dom A).mpr mc, pc⟩, reps_ints cs⟩, _, _, rfl, rfl, _, _, rfl, rfl, rfl⟩
  by_cases h1 : a = rs
  · subst h1
    rw [A.at2] at e
    cases e
    exact ⟨_, hos, reps_ints rr⟩
  rw [← T.ot a h0 h1] at e
  have q := m.obj a o e
  cases o with
  | lst ds => obtain ⟨vs, e, r⟩ := q; exact ⟨vs, e, r.mono f⟩
  | dK ks ds => obtain ⟨vs, e, z, r⟩ := q; exact ⟨vs, e, z, r.mono f⟩
  | dT ks ds => obtain ⟨vs, e, z, r⟩ := q; exact ⟨vs, e, z, r.mono f⟩
  | ins C ns ds => obtain ⟨dx, vs, e, z, r⟩ := q; exact ⟨dx, vs, e, z, r.mono f⟩
  | tupP ds => obtain ⟨vs, o, e, z, r⟩ := q; exact ⟨vs, o, e, z, r.mono f⟩
  | deck k b =>
    refine DeckRep.keep (M' := Mo) q (fun x u _ e => e) (fun x _ e => e) (fun x w => ?_) (fun x o e m p => ⟨e, (f x o e m).2, p⟩)
    have x0 : x ≠ dk := fun z => by rw [z, T.t0] at w; cases w
    have x1 : x ≠ rs := fun z => by rw [z, T.t1] at w; cases w; exact h0 rfl
    rw [← T.ot x x0 x1]
    exact w
  | part c => exact q
end
section
variable {P : Program} {w : World} {K : PySem.W.Frag} {mg : Str → Option Value} {base : Heap} {k : Nat}
theorem fn_next_told1 {x : Str} (c : Fn P w K mg base k x 1 sp_nextC1) : Fn P w K mg base k x 1 (sp_next 1 1000) := by
  obtain ⟨f, fd, ps, h, h2⟩ := c
  refine ⟨f, fd, ps, h.imp ?_, h2⟩
  rintro vs H Q E ⟨P', as, M, r, e, m, ⟨dk, b, rfl, hM, hb⟩, hpost⟩
  obtain ⟨rs, n, cs, rr, Mo, A, T, hn, mo⟩ := deck_open1 m hM
  refine ⟨P', [.ref dk], Mo, r, e, mo, ⟨dk, rs, n, cs, rr, rfl, A, by omega⟩, ?_⟩
  intro d M' p v H' fr rd md
  obtain ⟨y, rr', rfl, y0, y1, rfl, hl, sd⟩ := p dk rs n cs rr rfl A
  have A' : DeckAt1 (mset (mset Mo dk (.lst [.lst (intsD cs), .int (n + 1), .ref rs])) rs (.lst (intsD rr'))) dk rs (n + 1) cs rr' :=
    ⟨A.ne3, by rw [mset_ne (Ne.symm A.ne3), mset_same], mset_same _ _ _, A.s1, sd, A.nn, hl.trans A.ln, by have := A.n0; omega⟩
  have T' : Told1 (mset (mset Mo dk (.lst [.lst (intsD cs), .int (n + 1), .ref rs])) rs (.lst (intsD rr'))) (mset M dk (.deck 1 (b - 1))) dk rs (b - 1) :=
    ⟨mset_same _ _ _, by rw [mset_ne A.ne3]; exact T.t1, fun a h0 h1 => by rw [mset_ne h0, mset_ne h1, mset_ne h0]; exact T.ot a h0 h1⟩
  refine hpost (.int y) (mset M dk (.deck 1 (b - 1))) ?_ v H' ?_ rd (deck_close1 md A' T' (by omega))
  · intro dk2 b2 e2 hM2
    simp only [List.cons.injEq, D.ref.injEq, and_true] at e2
    subst e2
    rw [hM] at hM2
    cases hM2
    exact ⟨y, rfl, y0, y1, b - 1, rfl, by omega⟩
  · intro a o ha hm
    have := fr a o ha ((T.dom A).mpr hm)
    exact ⟨this.1, (T'.dom A').mp this.2⟩
theorem fn_deck_told1 {x : Str} (c : Fn P w K mg base k x 1 sp_deckC1) : Fn P w K mg base k x 1 (sp_deck 1 1000000) := by
  obtain ⟨f, fd, ps, h, h2⟩ := c
  refine ⟨f, fd, ps, h.imp ?_, h2⟩
  rintro vs H Q E ⟨P', as, M, r, e, m, hp, hpost⟩
  refine ⟨P', as, M, r, e, m, hp, ?_⟩
  obtain ⟨ns, rfl, hns, rfl⟩ := hp
  rintro d M' ⟨dk, rs, cs, rr, rfl, A, hno⟩ v H' fr rd md
  have T : Told1 M' (mset (mset M' rs (.part dk)) dk (.deck 1 1000000)) dk rs 1000000 :=
    ⟨mset_same _ _ _, by rw [mset_ne A.ne3, mset_same], fun a h0 h1 => by rw [mset_ne h0, mset_ne h1]⟩
  refine hpost (.ref dk) _ ⟨dk, rfl, T.t0⟩ v H' (fun a o ha hm => ?_) rd (deck_close1 md A T (by decide))
  have := fr a o ha rfl
  exact ⟨this.1, (T.dom A).mp this.2⟩
end
/-! ### the chain's ends -/
theorem fn_zero {P : Program} {w : World} {K : PySem.W.Frag} {mg : Str → Option Value} {base : Heap} {k n : Nat} {x qual : Str} {params : Arguments} {body : List Stmt} {scope : Scope} {a : Addr} {fd : FuncData} {ps : List Str} {sp : Spec}
    (F : FunD K x qual params body scope [] [] a fd) (hm : mg x = some (.ref a)) (hb : Binds K fd ps []) (h : ∀ ds M, ¬ sp.pre ds M) : Fn P w K mg base k x n sp :=
  ⟨a, fd, ps, ⟨fun vs H Q E q => by obtain ⟨_, ds, M, _, _, _, q, _⟩ := q; exact (h ds M q).elim, fun A outer s H args us vs Q E _ _ _ _ q => by obtain ⟨_, ds, M, _, _, _, q, _⟩ := q; exact (h ds M q).elim⟩, hm, F.kp, hb⟩
theorem reps_map_ints {K : Fg} {H : Hp} {M : Mem} : ∀ ns : List Int, Reps K H M (ns.map D.int) (ns.map V.int)
  | [] => rfl
  | n :: r => ⟨.int n, r.map V.int, rfl, rfl, reps_map_ints r⟩
theorem law_start {K : PySem.W.Frag} {H : Hp} {a : Addr} {ns : List Int} (hl : ns.length ≤ 63) (hS : SqL K H a (ns.map V.int)) : toSp K 1 sp_law [.ref a] H (fun v _ => v = .bl true) fun _ _ _ => False := by
  refine ⟨fun _ => False, [.rol (ns.map D.int)], fun _ => none, ⟨.ref a, [], rfl, ⟨a, ns.map V.int, rfl, ?_, reps_map_ints ns⟩, rfl⟩, rfl, ⟨fun _ _ e => (by cases e), fun _ q => False.elim q⟩, ⟨ns, rfl, hl, rfl⟩, ?_⟩
  · rcases hS with h | h
    · exact .inl ⟨h, rfl, fun z => False.elim z⟩
    · exact .inr h
  · intro d M' e v H' _ r _
    rw [show d = .bl true from e] at r
    exact r
/-! ### constants of the module -/
mutual
def valB (K : PySem.W.Frag) : D → Value → Bool
  | .non, u => (match u with
    | .none => true
    | _ => false)
  | .bl b, u => (match u with
    | .bool c => b == c
    | _ => false)
  | .int i, u => (match u with
    | .int j _ => decide (i = j)
    | _ => false)
  | .str x, u => (match u with
    | .str y _ => decide (x = y)
    | _ => false)
  | .tup ds, u => (match u with
    | .ref a => (match K.lookup a with
      | some ⟨.type c, _, .seq its _, _⟩ => decide (c = "tuple") && (decide (its.size ≤ sizeLine) && valsB K ds its.toList)
      | _ => false)
    | _ => false)
  | _, _ => false
termination_by structural d => d
def valsB (K : PySem.W.Frag) : List D → List Value → Bool
  | [], us => us.isEmpty
  | d :: ds, us => (match us with
    | u :: r => valB K d u && valsB K ds r
    | [] => false)
termination_by structural ds => ds
end
mutual
theorem valB_ok {K : PySem.W.Frag} : ∀ (d : D) (u : Value), valB K d u = true → ∃ v, RelV v u ∧ ∀ P H M, Rep ⟨K, P⟩ H M d v
  | .non, u, h => by
    cases u <;> simp [valB] at h
    exact ⟨.non, rfl, fun _ _ _ => rfl⟩
  | .bl b, u, h => by
    cases u <;> simp [valB] at h
    rw [h]
    exact ⟨.bl _, rfl, fun _ _ _ => rfl⟩
  | .int i, u, h => by
    cases u <;> simp [valB] at h
    rw [h]
    exact ⟨.int _, ⟨_, rfl⟩, fun _ _ _ => rfl⟩
  | .str x, u, h => by
    cases u <;> simp [valB] at h
    rw [h]
    exact ⟨.str _, ⟨_, rfl⟩, fun _ _ _ => rfl⟩
  | .tup ds, u, h => by
    cases u with
    | ref a =>
      simp only [valB] at h
      cases q : K.lookup a with
      | none => rw [q] at h; cases h
      | some o =>
        obtain ⟨oc, od, dt, osl⟩ := o
        rw [q] at h
        cases oc with
        | type c =>
          cases dt with
          | seq its n =>
            simp only [Bool.and_eq_true, decide_eq_true_eq] at h
            obtain ⟨h1, h2, h3⟩ := h
            obtain ⟨vs, z1, z2⟩ := valsB_ok ds its.toList h3
            refine ⟨.ref a, rfl, fun P H M => ⟨a, vs, rfl, .inr ⟨_, its, n, q, congrArg Value.type h1, rfl, h2, z1⟩, z2 P H M⟩⟩
          | _ => cases h
        | _ => cases dt <;> cases h
    | _ => simp [valB] at h
  | .ref a, u, h => by simp [valB] at h
  | .lst a, u, h => by simp [valB] at h
  | .rol a, u, h => by simp [valB] at h
  | .dK a b, u, h => by simp [valB] at h
  | .dT a b, u, h => by simp [valB] at h
  | .ins a b c e, u, h => by simp [valB] at h
  | .ty a, u, h => by simp [valB] at h
  | .cls a, u, h => by simp [valB] at h
theorem valsB_ok {K : PySem.W.Frag} : ∀ (ds : List D) (us : List Value), valsB K ds us = true → ∃ vs, Vals vs us ∧ ∀ P H M, Reps ⟨K, P⟩ H M ds vs
  | [], us, h => by
    cases us with
    | nil => exact ⟨[], .nil, fun _ _ _ => rfl⟩
    | cons u r => simp [valsB] at h
  | d :: ds, us, h => by
    cases us with
    | nil => simp [valsB] at h
    | cons u r =>
      simp only [valsB, Bool.and_eq_true] at h
      obtain ⟨v, h1, h2⟩ := valB_ok d u h.1
      obtain ⟨vs, h3, h4⟩ := valsB_ok ds r h.2
      exact ⟨v :: vs, .cons h1 h3, fun P H M => ⟨v, vs, rfl, h2 P H M, h4 P H M⟩⟩
end
def globB (K : PySem.W.Frag) (x : Str) (d : D) : Bool := match PySem.W.nsIn K mainGlobals x with
  | some (some u) => valB K d u
  | _ => false
theorem globB_ok {K : PySem.W.Frag} {h : Heap} {mg : Str → Option Value} (X : K.In h) (G : h.Ns mainGlobals mg) {x : Str} {d : D} (c : globB K x d = true) : ∃ v, Glob K mg x v d := by
  unfold globB at c
  cases e : PySem.W.nsIn K mainGlobals x with
  | none => rw [e] at c; cases c
  | some o =>
    rw [e] at c
    cases o with
    | none => cases c
    | some u =>
      obtain ⟨v, h1, h2⟩ := valB_ok d u c
      exact ⟨v, u, PySem.W.mg_of X G e, h1, h2⟩
/-! the Hook, by one more Bool -/
abbrev AlE : Type := He.AlD × Bool
def obsE (n : Nat) (fa : List He.Fa) (fn : List He.DefD) (gs : List (Str × D)) (g : Addr → Option Obj) : AlE := (He.obsDG n fa fn g, gs.all fun q => globB (He.frG g (He.asD g n)) q.1 q.2)
structure SaysE (fa : List He.Fa) (fn : List He.DefD) (gs : List (Str × D)) (K : PySem.W.Frag) : Prop where
  d : He.SaysD fa fn K
  g : ∀ q ∈ gs, globB K q.1 q.2 = true
def hookE (n : Nat) (fa : List He.Fa) (fn : List He.DefD) (gs : List (Str × D)) : PySem.W.Hook where
  α := AlE
  obs := fun s => obsE n fa fn gs s.heap.get?
  val := fun _ => (He.valD fn, true)
  says := fun _ h => ∃ K : PySem.W.Frag, K.In h ∧ SaysE fa fn gs K
  of := fun _ h e => ⟨_, He.frG_in, ⟨congrArg (fun z : AlE => z.1) e, List.all_eq_true.mp (congrArg (fun z : AlE => z.2) e)⟩⟩
  keeps := fun _ _ _ ⟨K, hK, c⟩ k => ⟨K, PySem.W.Frag.In.keeps hK k, c⟩
theorem obsE_eq {n : Nat} {fa : List He.Fa} {fn : List He.DefD} {gs : List (Str × D)} {g : Addr → Option Obj} {s : Shared} (h : ∀ a, g a = s.heap.get? a) : obsE n fa fn gs g = (hookE n fa fn gs).obs s := by
  have e : g = s.heap.get? := funext h
  rw [e] <;> rfl
abbrev sc_add_nodes_ps : List Str := ["found", "path", "saying"]
abbrev sc_side_of_ps : List Str := ["thing", "side"]
abbrev sc_stands_in_ps : List Str := ["name", "thing", "bound"]
abbrev sc_joined_ps : List Str := ["one", "other", "bound"]
abbrev sc_resolved_ps : List Str := ["thing", "bound", "names"]
abbrev sc__law_filled_ps : List Str := ["_law_saying", "_law_fills"]
abbrev sc__law_same_ps : List Str := ["_law_found", "_law_due"]
abbrev sc__law_open_ps : List Str := ["_law_deck_here", "_law_kinds_here", "_law_kind", "_law_far", "_law_known"]
abbrev sc__law_sided_ps : List Str := ["_law_thing", "_law_side"]
abbrev sc__law_within_ps : List Str := ["_law_name", "_law_thing", "_law_bound_to"]
abbrev sc__law_alike_ps : List Str := ["_law_one", "_law_other", "_law_bound_to"]
abbrev sc__law_is_new_ps : List Str := ["_law_thing"]
abbrev sc__law_varied_ps : List Str := ["_law_deck_here", "_law_kinds_here", "_law_thing", "_law_kind", "_law_own", "_law_by"]
theorem chain {P : Program} {w : World} {K : PySem.W.Frag} {mg : Str → Option Value} {base : Heap} {a_parts_of : Addr} {fd_parts_of : FuncData} (F_parts_of : FunD K "parts_of" "parts_of" (defArgs s_parts_of) (defBody s_parts_of) (defScope s_parts_of) [] [] a_parts_of fd_parts_of) (g_parts_of : mg "parts_of" = some (.ref a_parts_of)) {a_add_nodes : Addr} {fd_add_nodes : FuncData} (F_add_nodes : FunD K "add_nodes" "add_nodes" (defArgs s_add_nodes) (defBody s_add_nodes) (defScope s_add_nodes) [] [] a_add_nodes fd_add_nodes) (g_add_nodes : mg "add_nodes" = some (.ref a_add_nodes)) {a_nodes_of : Addr} {fd_nodes_of : FuncData} (F_nodes_of : FunD K "nodes_of" "nodes_of" (defArgs s_nodes_of) (defBody s_nodes_of) (defScope s_nodes_of) [] [] a_nodes_of fd_nodes_of) (g_nodes_of : mg "nodes_of" = some (.ref a_nodes_of)) {a_names_of : Addr} {fd_names_of : FuncData} (F_names_of : FunD K "names_of" "names_of" (defArgs s_names_of) (defBody s_names_of) (defScope s_names_of) [] [] a_names_of fd_names_of) (g_names_of : mg "names_of" = some (.ref a_names_of)) {a_own_names : Addr} {fd_own_names : FuncData} (F_own_names : FunD K "own_names" "own_names" (defArgs s_own_names) (defBody s_own_names) (defScope s_own_names) [] [] a_own_names fd_own_names) (g_own_names : mg "own_names" = some (.ref a_own_names)) {a_side_of : Addr} {fd_side_of : FuncData} (F_side_of : FunD K "side_of" "side_of" (defArgs s_side_of) (defBody s_side_of) (defScope s_side_of) [] [] a_side_of fd_side_of) (g_side_of : mg "side_of" = some (.ref a_side_of)) {a_known_as : Addr} {fd_known_as : FuncData} (F_known_as : FunD K "known_as" "known_as" (defArgs s_known_as) (defBody s_known_as) (defScope s_known_as) [] [] a_known_as fd_known_as) (g_known_as : mg "known_as" = some (.ref a_known_as)) {a_stands_in : Addr} {fd_stands_in : FuncData} (F_stands_in : FunD K "stands_in" "stands_in" (defArgs s_stands_in) (defBody s_stands_in) (defScope s_stands_in) [] [] a_stands_in fd_stands_in) (g_stands_in : mg "stands_in" = some (.ref a_stands_in)) {a_joined : Addr} {fd_joined : FuncData} (F_joined : FunD K "joined" "joined" (defArgs s_joined) (defBody s_joined) (defScope s_joined) [] [] a_joined fd_joined) (g_joined : mg "joined" = some (.ref a_joined)) {a_resolved : Addr} {fd_resolved : FuncData} (F_resolved : FunD K "resolved" "resolved" (defArgs s_resolved) (defBody s_resolved) (defScope s_resolved) [] [] a_resolved fd_resolved) (g_resolved : mg "resolved" = some (.ref a_resolved)) {a_common : Addr} {fd_common : FuncData} (F_common : FunD K "common" "common" (defArgs s_common) (defBody s_common) (defScope s_common) [] [] a_common fd_common) (g_common : mg "common" = some (.ref a_common)) {a__law_deck : Addr} {fd__law_deck : FuncData} (F__law_deck : FunD K "_law_deck" "_law_deck" (defArgs s__law_deck) (defBody s__law_deck) (defScope s__law_deck) [] [] a__law_deck fd__law_deck) (g__law_deck : mg "_law_deck" = some (.ref a__law_deck)) {a__law_next : Addr} {fd__law_next : FuncData} (F__law_next : FunD K "_law_next" "_law_next" (defArgs s__law_next) (defBody s__law_next) (defScope s__law_next) [] [] a__law_next fd__law_next) (g__law_next : mg "_law_next" = some (.ref a__law_next)) {a__law_word : Addr} {fd__law_word : FuncData} (F__law_word : FunD K "_law_word" "_law_word" (defArgs s__law_word) (defBody s__law_word) (defScope s__law_word) [] [] a__law_word fd__law_word) (g__law_word : mg "_law_word" = some (.ref a__law_word)) {a__law_kinds : Addr} {fd__law_kinds : FuncData} (F__law_kinds : FunD K "_law_kinds" "_law_kinds" (defArgs s__law_kinds) (defBody s__law_kinds) (defScope s__law_kinds) [] [] a__law_kinds fd__law_kinds) (g__law_kinds : mg "_law_kinds" = some (.ref a__law_kinds)) {a__law_makers : Addr} {fd__law_makers : FuncData} (F__law_makers : FunD K "_law_makers" "_law_makers" (defArgs s__law_makers) (defBody s__law_makers) (defScope s__law_makers) [] [] a__law_makers fd__law_makers) (g__law_makers : mg "_law_makers" = some (.ref a__law_makers)) {a__law_filled : Addr} {fd__law_filled : FuncData} (F__law_filled : FunD K "_law_filled" "_law_filled" (defArgs s__law_filled) (defBody s__law_filled) (defScope s__law_filled) [] [] a__law_filled fd__law_filled) (g__law_filled : mg "_law_filled" = some (.ref a__law_filled)) {a__law_same : Addr} {fd__law_same : FuncData} (F__law_same : FunD K "_law_same" "_law_same" (defArgs s__law_same) (defBody s__law_same) (defScope s__law_same) [] [] a__law_same fd__law_same) (g__law_same : mg "_law_same" = some (.ref a__law_same)) {a__law_open : Addr} {fd__law_open : FuncData} (F__law_open : FunD K "_law_open" "_law_open" (defArgs s__law_open) (defBody s__law_open) (defScope s__law_open) [] [] a__law_open fd__law_open) (g__law_open : mg "_law_open" = some (.ref a__law_open)) {a__law_open_fills : Addr} {fd__law_open_fills : FuncData} (F__law_open_fills : FunD K "_law_open_fills" "_law_open_fills" (defArgs s__law_open_fills) (defBody s__law_open_fills) (defScope s__law_open_fills) [] [] a__law_open_fills fd__law_open_fills) (g__law_open_fills : mg "_law_open_fills" = some (.ref a__law_open_fills)) {a__law_asked_names : Addr} {fd__law_asked_names : FuncData} (F__law_asked_names : FunD K "_law_asked_names" "_law_asked_names" (defArgs s__law_asked_names) (defBody s__law_asked_names) (defScope s__law_asked_names) [] [] a__law_asked_names fd__law_asked_names) (g__law_asked_names : mg "_law_asked_names" = some (.ref a__law_asked_names)) {a__law_sided : Addr} {fd__law_sided : FuncData} (F__law_sided : FunD K "_law_sided" "_law_sided" (defArgs s__law_sided) (defBody s__law_sided) (defScope s__law_sided) [] [] a__law_sided fd__law_sided) (g__law_sided : mg "_law_sided" = some (.ref a__law_sided)) {a__law_now : Addr} {fd__law_now : FuncData} (F__law_now : FunD K "_law_now" "_law_now" (defArgs s__law_now) (defBody s__law_now) (defScope s__law_now) [] [] a__law_now fd__law_now) (g__law_now : mg "_law_now" = some (.ref a__law_now)) {a__law_within : Addr} {fd__law_within : FuncData} (F__law_within : FunD K "_law_within" "_law_within" (defArgs s__law_within) (defBody s__law_within) (defScope s__law_within) [] [] a__law_within fd__law_within) (g__law_within : mg "_law_within" = some (.ref a__law_within)) {a__law_alike : Addr} {fd__law_alike : FuncData} (F__law_alike : FunD K "_law_alike" "_law_alike" (defArgs s__law_alike) (defBody s__law_alike) (defScope s__law_alike) [] [] a__law_alike fd__law_alike) (g__law_alike : mg "_law_alike" = some (.ref a__law_alike)) {a__law_can : Addr} {fd__law_can : FuncData} (F__law_can : FunD K "_law_can" "_law_can" (defArgs s__law_can) (defBody s__law_can) (defScope s__law_can) [] [] a__law_can fd__law_can) (g__law_can : mg "_law_can" = some (.ref a__law_can)) {a__law_is_new : Addr} {fd__law_is_new : FuncData} (F__law_is_new : FunD K "_law_is_new" "_law_is_new" (defArgs s__law_is_new) (defBody s__law_is_new) (defScope s__law_is_new) [] [] a__law_is_new fd__law_is_new) (g__law_is_new : mg "_law_is_new" = some (.ref a__law_is_new)) {a__law_is_half : Addr} {fd__law_is_half : FuncData} (F__law_is_half : FunD K "_law_is_half" "_law_is_half" (defArgs s__law_is_half) (defBody s__law_is_half) (defScope s__law_is_half) [] [] a__law_is_half fd__law_is_half) (g__law_is_half : mg "_law_is_half" = some (.ref a__law_is_half)) {a__law_right : Addr} {fd__law_right : FuncData} (F__law_right : FunD K "_law_right" "_law_right" (defArgs s__law_right) (defBody s__law_right) (defScope s__law_right) [] [] a__law_right fd__law_right) (g__law_right : mg "_law_right" = some (.ref a__law_right)) {a__law_second : Addr} {fd__law_second : FuncData} (F__law_second : FunD K "_law_second" "_law_second" (defArgs s__law_second) (defBody s__law_second) (defScope s__law_second) [] [] a__law_second fd__law_second) (g__law_second : mg "_law_second" = some (.ref a__law_second)) {a__law_varied : Addr} {fd__law_varied : FuncData} (F__law_varied : FunD K "_law_varied" "_law_varied" (defArgs s__law_varied) (defBody s__law_varied) (defScope s__law_varied) [] [] a__law_varied fd__law_varied) (g__law_varied : mg "_law_varied" = some (.ref a__law_varied)) {a_law : Addr} {fd_law : FuncData} (F_law : FunD K "law" "law" (defArgs s_law) (defBody s_law) (defScope s_law) [] [] a_law fd_law) (g_law : mg "law" = some (.ref a_law)) (m_enumerate : mg "enumerate" = none) (m_tuple : mg "tuple" = none) (m_any : mg "any" = none) (m_zip : mg "zip" = none) (m_all : mg "all" = none) (m_len : mg "len" = none) (m_str : mg "str" = none) (m_int : mg "int" = none) (m_abs : mg "abs" = none) (m_range : mg "range" = none) (m_isinstance : mg "isinstance" = none) (m_bool : mg "bool" = none) (m_max : mg "max" = none)  : FnOk P w K mg base CX0 214 a_law fd_law ["_law_script"] (toSp K 1 sp_law) := by
  have c_parts_of := fn_parts_of (P := P) (w := w) (base := base) (k := 0) F_parts_of g_parts_of  does_parts_of
  have c_add_nodes : ∀ n, Fn P w K mg base (1 + n) "add_nodes" 3 (sp_add n) := by
    intro n
    induction n with
    | zero => exact fn_zero F_add_nodes g_add_nodes (F_add_nodes.bindsN (ps := sc_add_nodes_ps) fun _ _ _ _ _ _ us hl => match us, hl with | [_, _, _], _ => rfl) add_none
    | succ n ih => exact fn_add_nodes (P := P) (w := w) (base := base) (k := 1 + n) F_add_nodes g_add_nodes (c_parts_of.mono (by omega)) ih m_enumerate (does_add_nodes n)
  have c_nodes_of := fn_nodes_of (P := P) (w := w) (base := base) (k := 9) F_nodes_of g_nodes_of ((c_add_nodes 8).mono (by omega)) m_tuple does_nodes_of
  have c_names_of := fn_names_of (P := P) (w := w) (base := base) (k := 10) F_names_of g_names_of (c_nodes_of.mono (by omega)) m_tuple does_names_of
  have c_own_names := fn_own_names (P := P) (w := w) (base := base) (k := 11) F_own_names g_own_names (c_names_of.mono (by omega)) does_own_names
  have c_side_of : ∀ n, Fn P w K mg base (0 + n) "side_of" 2 (sp_side n) := by
    intro n
    induction n with
    | zero => exact fn_zero F_side_of g_side_of (F_side_of.bindsN (ps := sc_side_of_ps) fun _ _ _ _ _ _ us hl => match us, hl with | [_, _], _ => rfl) side_none
    | succ n ih => exact fn_side_of (P := P) (w := w) (base := base) (k := 0 + n) F_side_of g_side_of ih m_tuple (does_side n)
  have c_known_as := fn_known_as (P := P) (w := w) (base := base) (k := 0) F_known_as g_known_as  does_known
  have c_stands_in : ∀ n, Fn P w K mg base (1 + n) "stands_in" 3 (sp_win n) := by
    intro n
    induction n with
    | zero => exact fn_zero F_stands_in g_stands_in (F_stands_in.bindsN (ps := sc_stands_in_ps) fun _ _ _ _ _ _ us hl => match us, hl with | [_, _, _], _ => rfl) win_none
    | succ n ih => exact fn_stands_in (P := P) (w := w) (base := base) (k := 1 + n) F_stands_in g_stands_in ih (c_known_as.mono (by omega)) m_any (does_stands n)
  have c_joined : ∀ n, Fn P w K mg base (106 + n) "joined" 3 (sp_un true true n) := by
    intro n
    induction n with
    | zero => exact fn_zero F_joined g_joined (F_joined.bindsN (ps := sc_joined_ps) fun _ _ _ _ _ _ us hl => match us, hl with | [_, _, _], _ => rfl) (un_none true true)
    | succ n ih => exact fn_joined (P := P) (w := w) (base := base) (k := 106 + n) F_joined g_joined ih ((c_stands_in 105).mono (by omega)) (c_known_as.mono (by omega)) m_zip m_all m_len (does_joined n)
  have c_resolved : ∀ n, Fn P w K mg base (1 + n) "resolved" 3 (sp_res n) := by
    intro n
    induction n with
    | zero => exact fn_zero F_resolved g_resolved (F_resolved.bindsN (ps := sc_resolved_ps) fun _ _ _ _ _ _ us hl => match us, hl with | [_, _, _], _ => rfl) res_none
    | succ n ih => exact fn_resolved (P := P) (w := w) (base := base) (k := 1 + n) F_resolved g_resolved ih (c_known_as.mono (by omega)) m_tuple m_len m_str (does_resolved n)
  have c_common := fn_common (P := P) (w := w) (base := base) (k := 211) F_common g_common ((c_resolved 105).mono (by omega)) (c_own_names.mono (by omega)) ((c_joined 105).mono (by omega)) ((c_side_of 6).mono (by omega)) m_tuple m_zip does_common
  have c__law_deck := fn__law_deck (P := P) (w := w) (base := base) (k := 0) F__law_deck g__law_deck m_int m_abs m_len does_deck1
  have d__law_deck := fn_deck_told1 c__law_deck
  have c__law_next := fn__law_next (P := P) (w := w) (base := base) (k := 0) F__law_next g__law_next m_len does_next1
  have d__law_next := fn_next_told1 c__law_next
  have c__law_word := fn__law_word (P := P) (w := w) (base := base) (k := 0) F__law_word g__law_word  does_word
  have c__law_kinds := fn__law_kinds (P := P) (w := w) (base := base) (k := 1) F__law_kinds g__law_kinds (c__law_word.mono (by omega)) (d__law_next.mono (by omega)) m_tuple m_range m_int m_len does_kinds
  have c__law_makers := fn__law_makers (P := P) (w := w) (base := base) (k := 0) F__law_makers g__law_makers  does_makers
  have c__law_filled : ∀ n, Fn P w K mg base (0 + n) "_law_filled" 2 (sp_fill n) := by
    intro n
    induction n with
    | zero => exact fn_zero F__law_filled g__law_filled (F__law_filled.bindsN (ps := sc__law_filled_ps) fun _ _ _ _ _ _ us hl => match us, hl with | [_, _], _ => rfl) fill_none
    | succ n ih => exact fn__law_filled (P := P) (w := w) (base := base) (k := 0 + n) F__law_filled g__law_filled ih m_tuple (does_fill n)
  have c__law_same : ∀ n, Fn P w K mg base (0 + n) "_law_same" 2 (sp_same n) := by
    intro n
    induction n with
    | zero => exact fn_zero F__law_same g__law_same (F__law_same.bindsN (ps := sc__law_same_ps) fun _ _ _ _ _ _ us hl => match us, hl with | [_, _], _ => rfl) same_none
    | succ n ih => exact fn__law_same (P := P) (w := w) (base := base) (k := 0 + n) F__law_same g__law_same ih m_isinstance m_int m_bool m_str m_tuple m_zip m_all m_len (does_same n)
  have c__law_open : ∀ n, Fn P w K mg base (1 + n) "_law_open" 5 (sp_open n) := by
    intro n
    induction n with
    | zero => exact fn_zero F__law_open g__law_open (F__law_open.bindsN (ps := sc__law_open_ps) fun _ _ _ _ _ _ us hl => match us, hl with | [_, _, _, _, _], _ => rfl) open_none
    | succ n ih => exact fn__law_open (P := P) (w := w) (base := base) (k := 1 + n) F__law_open g__law_open ih (c__law_makers.mono (by omega)) (d__law_next.mono (by omega)) m_max m_tuple m_len m_str m_range (does_open n)
  have c__law_open_fills := fn__law_open_fills (P := P) (w := w) (base := base) (k := 4) F__law_open_fills g__law_open_fills ((c__law_open 3).mono (by omega)) (d__law_next.mono (by omega)) m_tuple m_len does_ofills
  have c__law_asked_names := fn__law_asked_names (P := P) (w := w) (base := base) (k := 1) F__law_asked_names g__law_asked_names (d__law_next.mono (by omega)) m_range m_len m_tuple does_asked
  have c__law_sided : ∀ n, Fn P w K mg base (0 + n) "_law_sided" 2 (sp_side n) := by
    intro n
    induction n with
    | zero => exact fn_zero F__law_sided g__law_sided (F__law_sided.bindsN (ps := sc__law_sided_ps) fun _ _ _ _ _ _ us hl => match us, hl with | [_, _], _ => rfl) side_none
    | succ n ih => exact fn__law_sided (P := P) (w := w) (base := base) (k := 0 + n) F__law_sided g__law_sided ih m_tuple (does_sided n)
  have c__law_now := fn__law_now (P := P) (w := w) (base := base) (k := 0) F__law_now g__law_now  does_now
  have c__law_within : ∀ n, Fn P w K mg base (1 + n) "_law_within" 3 (sp_win n) := by
    intro n
    induction n with
    | zero => exact fn_zero F__law_within g__law_within (F__law_within.bindsN (ps := sc__law_within_ps) fun _ _ _ _ _ _ us hl => match us, hl with | [_, _, _], _ => rfl) win_none
    | succ n ih => exact fn__law_within (P := P) (w := w) (base := base) (k := 1 + n) F__law_within g__law_within ih (c__law_now.mono (by omega)) (does_within n)
  have c__law_alike : ∀ n, Fn P w K mg base (106 + n) "_law_alike" 3 (sp_un false false n) := by
    intro n
    induction n with
    | zero => exact fn_zero F__law_alike g__law_alike (F__law_alike.bindsN (ps := sc__law_alike_ps) fun _ _ _ _ _ _ us hl => match us, hl with | [_, _, _], _ => rfl) (un_none false false)
    | succ n ih => exact fn__law_alike (P := P) (w := w) (base := base) (k := 106 + n) F__law_alike g__law_alike ih ((c__law_within 105).mono (by omega)) (c__law_now.mono (by omega)) m_zip (does_alike n)
  have c__law_can := fn__law_can (P := P) (w := w) (base := base) (k := 211) F__law_can g__law_can ((c__law_alike 105).mono (by omega)) ((c__law_sided 6).mono (by omega)) m_zip does_can
  have c__law_is_new : ∀ n, Fn P w K mg base (0 + n) "_law_is_new" 1 (sp_new n) := by
    intro n
    induction n with
    | zero => exact fn_zero F__law_is_new g__law_is_new (F__law_is_new.bindsN (ps := sc__law_is_new_ps) fun _ _ _ _ _ _ us hl => match us, hl with | [_], _ => rfl) new_none
    | succ n ih => exact fn__law_is_new (P := P) (w := w) (base := base) (k := 0 + n) F__law_is_new g__law_is_new ih m_all m_len m_isinstance m_str m_tuple (does_new n)
  have c__law_is_half := fn__law_is_half (P := P) (w := w) (base := base) (k := 211) F__law_is_half g__law_is_half ((c__law_is_new 105).mono (by omega)) ((c__law_same 211).mono (by omega)) m_enumerate m_isinstance m_tuple m_len m_str does_half
  have c__law_right := fn__law_right (P := P) (w := w) (base := base) (k := 212) F__law_right g__law_right ((c__law_same 211).mono (by omega)) ((c__law_filled 6).mono (by omega)) (c__law_is_half.mono (by omega)) (c__law_can.mono (by omega)) m_zip m_isinstance m_tuple m_len does_right
  have c__law_varied : ∀ n, Fn P w K mg base (4 + n) "_law_varied" 6 (sp_var n) := by
    intro n
    induction n with
    | zero => exact fn_zero F__law_varied g__law_varied (F__law_varied.bindsN (ps := sc__law_varied_ps) fun _ _ _ _ _ _ us hl => match us, hl with | [_, _, _, _, _, _], _ => rfl) var_none
    | succ n ih => exact fn__law_varied (P := P) (w := w) (base := base) (k := 4 + n) F__law_varied g__law_varied ih (c__law_makers.mono (by omega)) ((c__law_open 2).mono (by omega)) (d__law_next.mono (by omega)) m_zip m_tuple m_len m_str (does_var n)
  have c__law_second := fn__law_second (P := P) (w := w) (base := base) (k := 7) F__law_second g__law_second ((c__law_varied 3).mono (by omega)) m_tuple m_zip does_second
  have c_law := fn_law (P := P) (w := w) (base := base) (k := 213) F_law g_law (c_common.mono (by omega)) (c__law_right.mono (by omega)) (d__law_next.mono (by omega)) (c__law_open_fills.mono (by omega)) (c__law_second.mono (by omega)) (c__law_asked_names.mono (by omega)) (c__law_kinds.mono (by omega)) (d__law_deck.mono (by omega)) m_range m_len does_law
  exact c_law
def d_parts_of : He.DefD := ⟨("parts_of", none), "parts_of", "parts_of", defArgs s_parts_of, defBody s_parts_of, defScope s_parts_of, [], []⟩
def d_add_nodes : He.DefD := ⟨("add_nodes", none), "add_nodes", "add_nodes", defArgs s_add_nodes, defBody s_add_nodes, defScope s_add_nodes, [], []⟩
def d_nodes_of : He.DefD := ⟨("nodes_of", none), "nodes_of", "nodes_of", defArgs s_nodes_of, defBody s_nodes_of, defScope s_nodes_of, [], []⟩
def d_names_of : He.DefD := ⟨("names_of", none), "names_of", "names_of", defArgs s_names_of, defBody s_names_of, defScope s_names_of, [], []⟩
def d_own_names : He.DefD := ⟨("own_names", none), "own_names", "own_names", defArgs s_own_names, defBody s_own_names, defScope s_own_names, [], []⟩
def d_side_of : He.DefD := ⟨("side_of", none), "side_of", "side_of", defArgs s_side_of, defBody s_side_of, defScope s_side_of, [], []⟩
def d_known_as : He.DefD := ⟨("known_as", none), "known_as", "known_as", defArgs s_known_as, defBody s_known_as, defScope s_known_as, [], []⟩
def d_stands_in : He.DefD := ⟨("stands_in", none), "stands_in", "stands_in", defArgs s_stands_in, defBody s_stands_in, defScope s_stands_in, [], []⟩
def d_joined : He.DefD := ⟨("joined", none), "joined", "joined", defArgs s_joined, defBody s_joined, defScope s_joined, [], []⟩
def d_resolved : He.DefD := ⟨("resolved", none), "resolved", "resolved", defArgs s_resolved, defBody s_resolved, defScope s_resolved, [], []⟩
def d_common : He.DefD := ⟨("common", none), "common", "common", defArgs s_common, defBody s_common, defScope s_common, [], []⟩
def d__law_deck : He.DefD := ⟨("_law_deck", none), "_law_deck", "_law_deck", defArgs s__law_deck, defBody s__law_deck, defScope s__law_deck, [], []⟩
def d__law_next : He.DefD := ⟨("_law_next", none), "_law_next", "_law_next", defArgs s__law_next, defBody s__law_next, defScope s__law_next, [], []⟩
def d__law_word : He.DefD := ⟨("_law_word", none), "_law_word", "_law_word", defArgs s__law_word, defBody s__law_word, defScope s__law_word, [], []⟩
def d__law_kinds : He.DefD := ⟨("_law_kinds", none), "_law_kinds", "_law_kinds", defArgs s__law_kinds, defBody s__law_kinds, defScope s__law_kinds, [], []⟩
def d__law_makers : He.DefD := ⟨("_law_makers", none), "_law_makers", "_law_makers", defArgs s__law_makers, defBody s__law_makers, defScope s__law_makers, [], []⟩
def d__law_filled : He.DefD := ⟨("_law_filled", none), "_law_filled", "_law_filled", defArgs s__law_filled, defBody s__law_filled, defScope s__law_filled, [], []⟩
def d__law_same : He.DefD := ⟨("_law_same", none), "_law_same", "_law_same", defArgs s__law_same, defBody s__law_same, defScope s__law_same, [], []⟩
def d__law_open : He.DefD := ⟨("_law_open", none), "_law_open", "_law_open", defArgs s__law_open, defBody s__law_open, defScope s__law_open, [], []⟩
def d__law_open_fills : He.DefD := ⟨("_law_open_fills", none), "_law_open_fills", "_law_open_fills", defArgs s__law_open_fills, defBody s__law_open_fills, defScope s__law_open_fills, [], []⟩
def d__law_asked_names : He.DefD := ⟨("_law_asked_names", none), "_law_asked_names", "_law_asked_names", defArgs s__law_asked_names, defBody s__law_asked_names, defScope s__law_asked_names, [], []⟩
def d__law_sided : He.DefD := ⟨("_law_sided", none), "_law_sided", "_law_sided", defArgs s__law_sided, defBody s__law_sided, defScope s__law_sided, [], []⟩
def d__law_now : He.DefD := ⟨("_law_now", none), "_law_now", "_law_now", defArgs s__law_now, defBody s__law_now, defScope s__law_now, [], []⟩
def d__law_within : He.DefD := ⟨("_law_within", none), "_law_within", "_law_within", defArgs s__law_within, defBody s__law_within, defScope s__law_within, [], []⟩
def d__law_alike : He.DefD := ⟨("_law_alike", none), "_law_alike", "_law_alike", defArgs s__law_alike, defBody s__law_alike, defScope s__law_alike, [], []⟩
def d__law_can : He.DefD := ⟨("_law_can", none), "_law_can", "_law_can", defArgs s__law_can, defBody s__law_can, defScope s__law_can, [], []⟩
def d__law_is_new : He.DefD := ⟨("_law_is_new", none), "_law_is_new", "_law_is_new", defArgs s__law_is_new, defBody s__law_is_new, defScope s__law_is_new, [], []⟩
def d__law_is_half : He.DefD := ⟨("_law_is_half", none), "_law_is_half", "_law_is_half", defArgs s__law_is_half, defBody s__law_is_half, defScope s__law_is_half, [], []⟩
def d__law_right : He.DefD := ⟨("_law_right", none), "_law_right", "_law_right", defArgs s__law_right, defBody s__law_right, defScope s__law_right, [], []⟩
def d__law_second : He.DefD := ⟨("_law_second", none), "_law_second", "_law_second", defArgs s__law_second, defBody s__law_second, defScope s__law_second, [], []⟩
def d__law_varied : He.DefD := ⟨("_law_varied", none), "_law_varied", "_law_varied", defArgs s__law_varied, defBody s__law_varied, defScope s__law_varied, [], []⟩
def d_law : He.DefD := ⟨("law", none), "law", "law", defArgs s_law, defBody s_law, defScope s_law, [], []⟩
def fnD : List He.DefD := [d_parts_of, d_add_nodes, d_nodes_of, d_names_of, d_own_names, d_side_of, d_known_as, d_stands_in, d_joined, d_resolved, d_common, d__law_deck, d__law_next, d__law_word, d__law_kinds, d__law_makers, d__law_filled, d__law_same, d__law_open, d__law_open_fills, d__law_asked_names, d__law_sided, d__law_now, d__law_within, d__law_alike, d__law_can, d__law_is_new, d__law_is_half, d__law_right, d__law_second, d__law_varied, d_law]
def faD : List He.Fa := [.glo "parts_of", .glo "add_nodes", .glo "nodes_of", .glo "names_of", .glo "own_names", .glo "side_of", .glo "known_as", .glo "stands_in", .glo "joined", .glo "resolved", .glo "common", .glo "_law_deck", .glo "_law_next", .glo "_law_word", .glo "_law_kinds", .glo "_law_makers", .glo "_law_filled", .glo "_law_same", .glo "_law_open", .glo "_law_open_fills", .glo "_law_asked_names", .glo "_law_sided", .glo "_law_now", .glo "_law_within", .glo "_law_alike", .glo "_law_can", .glo "_law_is_new", .glo "_law_is_half", .glo "_law_right", .glo "_law_second", .glo "_law_varied", .glo "law", .free "enumerate", .free "tuple", .free "any", .free "zip", .free "all", .free "len", .free "str", .free "int", .free "abs", .free "range", .free "isinstance", .free "bool", .free "max"]
abbrev R : PySem.W.OpenRow := PySem.W.OpenLaw.row PySem.Challenge.rw_needfill_k50_things_in_common
def gsD : List (Str × D) := []
abbrev hk : PySem.W.Hook := hookE 4 faD fnD gsD
def ob (s : PySem.W.SharedT) : AlE := obsE 4 faD fnD gsD (HandSHeadRun.getT s)
theorem ob_eq (s : PySem.W.SharedT) : ob s = hk.obs s.abs := obsE_eq (HandSHeadRun.getT_eq s)
abbrev loose : List Str := ["parts_of", "add_nodes", "nodes_of", "names_of", "own_names", "side_of", "known_as", "stands_in", "joined", "resolved", "common", "_law_deck", "_law_next", "_law_word", "_law_kinds", "_law_makers", "_law_filled", "_law_same", "_law_open", "_law_open_fills", "_law_asked_names", "_law_sided", "_law_now", "_law_within", "_law_alike", "_law_can", "_law_is_new", "_law_is_half", "_law_right", "_law_second", "_law_varied"]
theorem run (w : World) : HandSHeadRun.RunEq R (PySem.W.view R.prog [34]) hk ob 4000 loose w := by
  intro os
  kernel_rfl
theorem facts {P : Program} {w : World} {K : PySem.W.Frag} {h : Heap} {mg : Str → Option Value} {f : Addr} (X : K.In h) (G : h.Ns mainGlobals mg) (hfa : mg ("law" : Str) = some (.ref f)) (cE : SaysE faD fnD gsD K) :
    ∃ fd : FuncData, (∀ (s : Shared) (v : Value), BindsTo s fd ⟨[v], []⟩ [("_law_script", v)]) ∧ ∀ base : Heap, K.In base → base.Ns mainGlobals mg → FnOk P w K mg base CX0 214 f fd ["_law_script"] (toSp K 1 sp_law) := by
  have c := cE.d
  obtain ⟨fd_parts_of, F_parts_of⟩ := c.def_ 0 (d := d_parts_of) rfl
  obtain ⟨fd_add_nodes, F_add_nodes⟩ := c.def_ 1 (d := d_add_nodes) rfl
  obtain ⟨fd_nodes_of, F_nodes_of⟩ := c.def_ 2 (d := d_nodes_of) rfl
  obtain ⟨fd_names_of, F_names_of⟩ := c.def_ 3 (d := d_names_of) rfl
  obtain ⟨fd_own_names, F_own_names⟩ := c.def_ 4 (d := d_own_names) rfl
  obtain ⟨fd_side_of, F_side_of⟩ := c.def_ 5 (d := d_side_of) rfl
  obtain ⟨fd_known_as, F_known_as⟩ := c.def_ 6 (d := d_known_as) rfl
  obtain ⟨fd_stands_in, F_stands_in⟩ := c.def_ 7 (d := d_stands_in) rfl
  obtain ⟨fd_joined, F_joined⟩ := c.def_ 8 (d := d_joined) rfl
  obtain ⟨fd_resolved, F_resolved⟩ := c.def_ 9 (d := d_resolved) rfl
  obtain ⟨fd_common, F_common⟩ := c.def_ 10 (d := d_common) rfl
  obtain ⟨fd__law_deck, F__law_deck⟩ := c.def_ 11 (d := d__law_deck) rfl
  obtain ⟨fd__law_next, F__law_next⟩ := c.def_ 12 (d := d__law_next) rfl
  obtain ⟨fd__law_word, F__law_word⟩ := c.def_ 13 (d := d__law_word) rfl
  obtain ⟨fd__law_kinds, F__law_kinds⟩ := c.def_ 14 (d := d__law_kinds) rfl
  obtain ⟨fd__law_makers, F__law_makers⟩ := c.def_ 15 (d := d__law_makers) rfl
  obtain ⟨fd__law_filled, F__law_filled⟩ := c.def_ 16 (d := d__law_filled) rfl
  obtain ⟨fd__law_same, F__law_same⟩ := c.def_ 17 (d := d__law_same) rfl
  obtain ⟨fd__law_open, F__law_open⟩ := c.def_ 18 (d := d__law_open) rfl
  obtain ⟨fd__law_open_fills, F__law_open_fills⟩ := c.def_ 19 (d := d__law_open_fills) rfl
  obtain ⟨fd__law_asked_names, F__law_asked_names⟩ := c.def_ 20 (d := d__law_asked_names) rfl
  obtain ⟨fd__law_sided, F__law_sided⟩ := c.def_ 21 (d := d__law_sided) rfl
  obtain ⟨fd__law_now, F__law_now⟩ := c.def_ 22 (d := d__law_now) rfl
  obtain ⟨fd__law_within, F__law_within⟩ := c.def_ 23 (d := d__law_within) rfl
  obtain ⟨fd__law_alike, F__law_alike⟩ := c.def_ 24 (d := d__law_alike) rfl
  obtain ⟨fd__law_can, F__law_can⟩ := c.def_ 25 (d := d__law_can) rfl
  obtain ⟨fd__law_is_new, F__law_is_new⟩ := c.def_ 26 (d := d__law_is_new) rfl
  obtain ⟨fd__law_is_half, F__law_is_half⟩ := c.def_ 27 (d := d__law_is_half) rfl
  obtain ⟨fd__law_right, F__law_right⟩ := c.def_ 28 (d := d__law_right) rfl
  obtain ⟨fd__law_second, F__law_second⟩ := c.def_ 29 (d := d__law_second) rfl
  obtain ⟨fd__law_varied, F__law_varied⟩ := c.def_ 30 (d := d__law_varied) rfl
  obtain ⟨fd_law, F_law⟩ := c.def_ 31 (d := d_law) rfl
  have g_parts_of := He.glo_ok X G (c.fact 0 (f := .glo "parts_of") rfl)
  have g_add_nodes := He.glo_ok X G (c.fact 1 (f := .glo "add_nodes") rfl)
  have g_nodes_of := He.glo_ok X G (c.fact 2 (f := .glo "nodes_of") rfl)
  have g_names_of := He.glo_ok X G (c.fact 3 (f := .glo "names_of") rfl)
  have g_own_names := He.glo_ok X G (c.fact 4 (f := .glo "own_names") rfl)
  have g_side_of := He.glo_ok X G (c.fact 5 (f := .glo "side_of") rfl)
  have g_known_as := He.glo_ok X G (c.fact 6 (f := .glo "known_as") rfl)
  have g_stands_in := He.glo_ok X G (c.fact 7 (f := .glo "stands_in") rfl)
  have g_joined := He.glo_ok X G (c.fact 8 (f := .glo "joined") rfl)
  have g_resolved := He.glo_ok X G (c.fact 9 (f := .glo "resolved") rfl)
  have g_common := He.glo_ok X G (c.fact 10 (f := .glo "common") rfl)
  have g__law_deck := He.glo_ok X G (c.fact 11 (f := .glo "_law_deck") rfl)
  have g__law_next := He.glo_ok X G (c.fact 12 (f := .glo "_law_next") rfl)
  have g__law_word := He.glo_ok X G (c.fact 13 (f := .glo "_law_word") rfl)
  have g__law_kinds := He.glo_ok X G (c.fact 14 (f := .glo "_law_kinds") rfl)
  have g__law_makers := He.glo_ok X G (c.fact 15 (f := .glo "_law_makers") rfl)
  have g__law_filled := He.glo_ok X G (c.fact 16 (f := .glo "_law_filled") rfl)
  have g__law_same := He.glo_ok X G (c.fact 17 (f := .glo "_law_same") rfl)
  have g__law_open := He.glo_ok X G (c.fact 18 (f := .glo "_law_open") rfl)
  have g__law_open_fills := He.glo_ok X G (c.fact 19 (f := .glo "_law_open_fills") rfl)
  have g__law_asked_names := He.glo_ok X G (c.fact 20 (f := .glo "_law_asked_names") rfl)
  have g__law_sided := He.glo_ok X G (c.fact 21 (f := .glo "_law_sided") rfl)
  have g__law_now := He.glo_ok X G (c.fact 22 (f := .glo "_law_now") rfl)
  have g__law_within := He.glo_ok X G (c.fact 23 (f := .glo "_law_within") rfl)
  have g__law_alike := He.glo_ok X G (c.fact 24 (f := .glo "_law_alike") rfl)
  have g__law_can := He.glo_ok X G (c.fact 25 (f := .glo "_law_can") rfl)
  have g__law_is_new := He.glo_ok X G (c.fact 26 (f := .glo "_law_is_new") rfl)
  have g__law_is_half := He.glo_ok X G (c.fact 27 (f := .glo "_law_is_half") rfl)
  have g__law_right := He.glo_ok X G (c.fact 28 (f := .glo "_law_right") rfl)
  have g__law_second := He.glo_ok X G (c.fact 29 (f := .glo "_law_second") rfl)
  have g__law_varied := He.glo_ok X G (c.fact 30 (f := .glo "_law_varied") rfl)
  have g_law := He.glo_ok X G (c.fact 31 (f := .glo "law") rfl)
  have m_enumerate := He.free_ok X G (c.fact 32 (f := .free "enumerate") rfl)
  have m_tuple := He.free_ok X G (c.fact 33 (f := .free "tuple") rfl)
  have m_any := He.free_ok X G (c.fact 34 (f := .free "any") rfl)
  have m_zip := He.free_ok X G (c.fact 35 (f := .free "zip") rfl)
  have m_all := He.free_ok X G (c.fact 36 (f := .free "all") rfl)
  have m_len := He.free_ok X G (c.fact 37 (f := .free "len") rfl)
  have m_str := He.free_ok X G (c.fact 38 (f := .free "str") rfl)
  have m_int := He.free_ok X G (c.fact 39 (f := .free "int") rfl)
  have m_abs := He.free_ok X G (c.fact 40 (f := .free "abs") rfl)
  have m_range := He.free_ok X G (c.fact 41 (f := .free "range") rfl)
  have m_isinstance := He.free_ok X G (c.fact 42 (f := .free "isinstance") rfl)
  have m_bool := He.free_ok X G (c.fact 43 (f := .free "bool") rfl)
  have m_max := He.free_ok X G (c.fact 44 (f := .free "max") rfl)
  have e := hfa.symm.trans g_law
  cases e
  have b := FunD.bindsA (ps := ["_law_script"]) F_law fun _ _ _ _ _ _ us hl => match us, hl with | [_], _ => rfl
  refine ⟨fd_law, fun s v => b s [v] rfl, fun base _ _ => ?_⟩
  exact chain (P := P) (w := w) (base := base) F_parts_of g_parts_of F_add_nodes g_add_nodes F_nodes_of g_nodes_of F_names_of g_names_of F_own_names g_own_names F_side_of g_side_of F_known_as g_known_as F_stands_in g_stands_in F_joined g_joined F_resolved g_resolved F_common g_common F__law_deck g__law_deck F__law_next g__law_next F__law_word g__law_word F__law_kinds g__law_kinds F__law_makers g__law_makers F__law_filled g__law_filled F__law_same g__law_same F__law_open g__law_open F__law_open_fills g__law_open_fills F__law_asked_names g__law_asked_names F__law_sided g__law_sided F__law_now g__law_now F__law_within g__law_within F__law_alike g__law_alike F__law_can g__law_can F__law_is_new g__law_is_new F__law_is_half g__law_is_half F__law_right g__law_right F__law_second g__law_second F__law_varied g__law_varied F_law g_law m_enumerate m_tuple m_any m_zip m_all m_len m_str m_int m_abs m_range m_isinstance m_bool m_max 
end DL
open PySem PySem.W PySem.Calls PyProof.Rows
theorem PySem.Challenge.cw_needfill_k50_things_in_common_holds : PySem.Challenge.rw_needfill_k50_things_in_common.Holds := by
  w_on; o_law
  refine HandSHeadRun.head_any (r := OpenLaw.row PySem.Challenge.rw_needfill_k50_things_in_common) (q := view (OpenLaw.row PySem.Challenge.rw_needfill_k50_things_in_common).prog [34]) (H := DL.hk) (ob := DL.ob) (M := 4000) (loose := DL.loose) (d := HandSHeadRun.topDef (OpenLaw.row PySem.Challenge.rw_needfill_k50_things_in_common).prog 34) (kwd := []) DL.ob_eq
    (by kernel_rfl) (fun s => by kernel_rfl) DL.run (by kernel_rfl) (by kernel_rfl) (by kernel_rfl) (by rfl) (by first | assumption | decide +kernel) (by decide +kernel) ⟨rfl, rfl, rfl, rfl, rfl, by decide +kernel⟩ ?hw ?hc
  case hw => w_witness2
  case hc =>
    refine L2.walk_ofE (l := PySem.Challenge.rw_needfill_k50_things_in_common) (n := 63) (k := 214) (x := "_law_script") (CX := L2.CX0) rfl (by decide) (by kernel_rfl) ⟨rfl, by decide, by decide⟩ ?F (fun _ _ _ _ z => z)
    intro w mg fa h Y G hmg0
    obtain ⟨K, KX, c⟩ := Y
    have hmg : mg ("law" : PySem.Str) = some (.ref fa) := by
      have e : (HandSHeadRun.topDef (OpenLaw.row PySem.Challenge.rw_needfill_k50_things_in_common).prog 34).name = ("law" : PySem.Str) := by kernel_rfl
      rw [← e]
      exact hmg0
    obtain ⟨fd, hb, hF⟩ := DL.facts (P := (PySem.Challenge.rw_needfill_k50_things_in_common).prog) (w := w) KX G hmg c
    exact ⟨K, fd, DL.toSp K 1 DL.sp_law, KX, hb, fun H a ns hl _ hS => DL.law_start hl hS, hF⟩
